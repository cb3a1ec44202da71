import PyProof.Rows.All
import Wide.All
import OpenK.AllK
import Wide.FinOn
import HandS.ForMost
import HandS.Flow
import HandS.HeadHook1
import HandS.Lambda
import KE.KeyNested
import HandS.HeadHook2
import HandS.HeadHook3
import HandS.HeadHook4
import HandS.Head2
import HandS.ExcInit
import HandS.ExcField
import KE.KExcIs
import HandS.TupAny
import HandS.TupMul
import HandS.Deep
import KE.SortData
import HandS.WrittenGet
import HandS.Text
import KE.KDictWalk
import HandS.Iter
import HandS.Comp
import HandS.More
import PyProof.ReprRoads
import HandS.Defaults
import HandS.EndTab
import HandS.DictComp
import HandS.IsInst
import PyProof.ReprReads
import PyProof.ReprLoop
import HandS.Dict
import HandS.Conv
import PyProof.ZipIter
import HandS.Zip
import HandS.SortKw
import HandS.Strs
import HandS.SetFor
import HandS.TupSets
import PyProof.SetScanFacts
import KE.KDictCopyH
import KE.KDictSum
import HandS.Style
import KE.GoesEnum
import KE.GoesMore
import HandS.Exc
import HandS.TryOnly
import HandS.TryMany
import HandS.ExcCtx
import HandS.ExcInitHot
import HandS.HotCalls
import HandS.Call
import HandS.Finally
import KE.DataMinMax
import KE.SortKeyHeap
import HandS.Remove
import PyProof.Rows.StrInSeq3
import KE.KIndexOf
import PyProof.AutoSeq1
import KE.KDictKeyed
import PyProof.DictRoadsH
import HandS.List
import KE.KDictPairs
import HandS.HeadEnd
import HandS.Head0
import HandS.Head1
import PySem.Challenge.RW_maybedone_k04_need_orders
set_option Elab.async false
set_option linter.all false
set_option maxRecDepth 100000
set_option maxHeartbeats 4000000
namespace DL
open PySem PySem.Spec PyProof.Rows L2
inductive P where
  | non | bl (b : Bool) | int (i : Int) | str (x : Str)
  | tup (ps : List P) | lst (ps : List P) | frz (ps : List P)
  | dic (ks : List Key) (ps : List P)
  | fn (x : Str)
  | dn (ks : List P) (ps : List P)
  | exn (a d : Addr) (c : Str) (ns : List Str) (ps : List P)
  | adr (a : Addr)
inductive D where
  | v (p : P)
  | r (n : Nat)
  | o (n k : Nat)
  | t (ds : List D)
instance : Inhabited P := ⟨.non⟩
instance : Inhabited D := ⟨.v .non⟩
inductive Co where
  | lst (ps : List P)
  | dic (ks : List Key) (ps : List P)
  | dn (ks : List P) (ps : List P)
inductive Fv where
  | p (p : P)
  | c (k : Nat) (o : Co)
inductive Ob where
  | lst (ps : List P)
  | dic (ks : List Key) (ps : List P)
  | dn (ks : List P) (ps : List P)
  | dl (ks : List P) (cs : List (List P))
  | ins (c : Str) (nv : Nat) (ns : List Str) (fs : List Fv)
abbrev Sto := List Ob
def Ob.isOwn : Ob → Bool
  | .ins _ _ _ _ => true
  | .dl _ _ => true
  | _ => false
abbrev Dnv := List (Option D)
inductive Oc (α : Type) where
  | ok (a : α) (S : Sto)
  | bad
def Oc.bind {α β : Type} : Oc α → (α → Sto → Oc β) → Oc β
  | .ok a S, f => f a S
  | .bad, _ => .bad
@[simp] theorem Oc.bind_ok {α β : Type} (a : α) (S : Sto) (f : α → Sto → Oc β) : (Oc.ok a S).bind f = f a S := rfl
@[simp] theorem Oc.bind_bad {α β : Type} (f : α → Sto → Oc β) : (Oc.bad : Oc α).bind f = .bad := rfl
theorem Oc.bind_eq {α β : Type} {o : Oc α} {f : α → Sto → Oc β} {b : β} {S : Sto} (h : o.bind f = .ok b S) : ∃ a S1, o = .ok a S1 ∧ f a S1 = .ok b S := by
  cases o with
  | ok a S1 => exact ⟨a, S1, rfl, h⟩
  | bad => cases h
inductive Flo where
  | nx (env : Dnv) (S : Sto)
  | rt (d : D) (S : Sto)
  | bk (env : Dnv) (S : Sto)
  | ct (env : Dnv) (S : Sto)
  | bad
abbrev FE := Dnv → Sto → Oc D
abbrev FA := Dnv → Sto → Oc (List D)
abbrev FT := Dnv → Sto → Oc Bool
abbrev FS := Dnv → Sto → Flo
class Tb where
  t : PySem.W.Frag → List (Addr × Str)
  hf : Str → Int
instance (priority := low) Tb.none : Tb := ⟨fun _ => [], fun _ => 0⟩
structure Cn where
  o : List (Addr × Nat × Addr)
structure Mp where
  l : List Addr
  h : List Addr
  c : Cn
def notTbl (o : HO) : Prop := ∀ ps, o ≠ .tbl ps
def off (m : Mp) (b : Addr) : Prop := b ∈ m.l ∨ b ∈ m.h ∨ b ∈ m.c.o.map (·.2.2)
open Classical in
noncomputable def mask (m : Mp) (H : Hp) : Hp := fun b => if off m b then none else match H b with
  | some (.tbl _) => none
  | x => x
theorem mask_at {m : Mp} {H : Hp} {b : Addr} {o : HO} (h : ¬ off m b) (e : H b = some o) (n : notTbl o) : mask m H b = some o := by
  unfold mask
  rw [if_neg h, e]
  cases o with
  | tbl ps => exact (n ps rfl).elim
  | _ => rfl
theorem mask_some {m : Mp} {H : Hp} {b : Addr} {o : HO} (h : mask m H b = some o) : ¬ off m b ∧ H b = some o := by
  unfold mask at h
  split at h
  · cases h
  · rename_i hb
    refine ⟨hb, ?_⟩
    split at h
    · cases h
    · exact h
theorem mask_nt {m : Mp} {H : Hp} {b : Addr} {o : HO} (h : mask m H b = some o) : notTbl o := fun ps z => by
  unfold mask at h
  split at h
  · cases h
  · split at h
    · cases h
    · rename_i n
      exact n ps (by rw [h, z])
theorem mask_off {m : Mp} {H : Hp} {b : Addr} (h : off m b) : mask m H b = none := if_pos h
theorem mask_none {m : Mp} {H : Hp} {b : Addr} (h : H b = none) : mask m H b = none := by
  unfold mask
  split
  · rfl
  · rw [h]
theorem mask_eq {m m' : Mp} {H H' : Hp} {b : Addr} (ho : off m b ↔ off m' b) (e : H b = H' b) : mask m H b = mask m' H' b := by
  by_cases z : off m b
  · rw [mask_off z, mask_off (ho.mp z)]
  · unfold mask
    rw [if_neg z, if_neg fun q => z (ho.mpr q), e]
def Exh (G G' : Hp) : Prop := ∀ a o, G a = some o → G' a = some o
mutual
def nkP : P → Option NestedKey
  | .int i => some (.num i)
  | .str x => some (.text x)
  | .tup ps => (nkPs ps).map .tup
  | _ => none
def nkPs : List P → Option (List NestedKey)
  | [] => some []
  | p :: ps => match nkP p, nkPs ps with
    | some k, some ks => some (k :: ks)
    | _, _ => none
end
mutual
def hashN (hf : Str → Int) : NestedKey → Int
  | .none => reduceHash 0xFCA86420
  | .num i => hashInt i
  | .text x => hf x
  | .tup ks => reduceHash (Builtin.Tuple.tupleHashOf (hashNs hf ks))
def hashNs (hf : Str → Int) : List NestedKey → List Int
  | [] => []
  | k :: ks => hashN hf k :: hashNs hf ks
end
def KeysOk (ns : List NestedKey) : Prop := ns.Nodup ∧ ∀ n ∈ ns, n.depth ≤ 8
def NDo (a : Addr) (hs : List Int) (as xs : List V) : HO := .ext fun h => ∃ (o : Obj) (es : Array DictEntry) (us vs : List Value), h.get? a = some o ∧ o.ExactDict ∧ o.data = .dict es es.size ∧ (a == sysModules) = false ∧ Vals as us ∧ Vals xs vs ∧
  es.toList = (hs.zip (us.zip vs)).map fun x => ⟨x.1, x.2.1, x.2.2⟩
def offO (b : Addr) (o : HO) : Prop := (∃ xs, o = .lst xs) ∨ (∃ kvs, o = .dK kvs) ∨ (∃ hs as xs, o = NDo b hs as xs) ∨ ∃ C dx fs, o = .ins C dx fs
theorem NDo_nt {a : Addr} {hs : List Int} {as xs : List V} : notTbl (NDo a hs as xs) := fun ps z => by
  unfold NDo at z
  cases z
theorem offO.nt {b : Addr} {o : HO} (h : offO b o) : notTbl o := by
  rcases h with ⟨xs, rfl⟩ | ⟨kvs, rfl⟩ | ⟨hs, as, xs, rfl⟩ | ⟨C, dx, fs, rfl⟩
  · intro ps z; cases z
  · intro ps z; cases z
  · exact NDo_nt
  · intro ps z; cases z
mutual
def Is [Tb] (K : PySem.W.Frag) (G : Hp) : P → V → Prop
  | .non, v => v = .non
  | .bl b, v => v = .bl b
  | .int i, v => v = .int i
  | .str x, v => v = .str x
  | .tup ds, v => ∃ a xs, v = .ref a ∧ SqT K G a xs ∧ IsAll K G ds xs
  | .lst ds, v => ∃ a xs, v = .ref a ∧ G a = some (.lst xs) ∧ IsAll K G ds xs
  | .frz ds, v => ∃ a xs, v = .ref a ∧ SqL K G a xs ∧ IsAll K G ds xs
  | .dic ks ds, v => ∃ a xs, v = .ref a ∧ G a = some (.dK (ks.zip xs)) ∧ ks.length = xs.length ∧ ks.Nodup ∧ IsAll K G ds xs
  | .fn x, v => v = .ref (He.ga K x)
  | .dn ks ds, v => ∃ a as xs ns, v = .ref a ∧ G a = some (NDo a (hashNs Tb.hf ns) as xs) ∧ nkPs ks = some ns ∧ KeysOk ns ∧ xs.length = ks.length ∧ xs.length ≤ sizeLine ∧ IsAll K G ks as ∧ IsAll K G ds xs
  | .exn a d _ ns ds, v => ∃ xs, v = .ref a ∧ G d = some (.xd (ns.zip xs)) ∧ ns.length = xs.length ∧ IsAll K G ds xs
  | .adr a, v => v = .ref a
def IsAll [Tb] (K : PySem.W.Frag) (G : Hp) : List P → List V → Prop
  | [], xs => xs = []
  | d :: ds, xs => ∃ v vs, xs = v :: vs ∧ Is K G d v ∧ IsAll K G ds vs
end
mutual
def IsD [Tb] (K : PySem.W.Frag) (m : Mp) (G : Hp) : D → V → Prop
  | .v p, v => Is K G p v
  | .r n, v => ∃ a, v = .ref a ∧ m.l[n]? = some a
  | .o n k, v => ∃ a b, v = .ref b ∧ m.l[n]? = some a ∧ (a, k, b) ∈ m.c.o
  | .t ds, v => ∃ a xs, v = .ref a ∧ SqT K G a xs ∧ IsDs K m G ds xs
def IsDs [Tb] (K : PySem.W.Frag) (m : Mp) (G : Hp) : List D → List V → Prop
  | [], xs => xs = []
  | d :: ds, xs => ∃ v vs, xs = v :: vs ∧ IsD K m G d v ∧ IsDs K m G ds vs
end
section
variable [Tb]
variable {K : PySem.W.Frag} {m m' : Mp} {G G' H H' : Hp}
theorem sqT_mono {a : Addr} {xs : List V} (e : Exh G G') (h : SqT K G a xs) : SqT K G' a xs := by
  rcases h with h | h
  · rcases h with h | ⟨o, h⟩
    · exact .inl (.inl (e _ _ h))
    · exact .inl (.inr ⟨o, e _ _ h⟩)
  · exact .inr h
theorem sqL_mono {a : Addr} {xs : List V} (e : Exh G G') (h : SqL K G a xs) : SqL K G' a xs := by
  rcases h with h | h
  · rcases h with h | ⟨o, h⟩
    · exact .inl (.inl (e _ _ h))
    · exact .inl (.inr ⟨o, e _ _ h⟩)
  · exact .inr h
theorem mask_ex (m : Mp) (H : Hp) : Exh (mask m H) H := fun _ _ h => (mask_some h).2
mutual
theorem Is.mono (e : Exh G G') : ∀ (d : P) (v : V), Is K G d v → Is K G' d v
  | .non, _, h => h
  | .bl _, _, h => h
  | .int _, _, h => h
  | .str _, _, h => h
  | .tup ds, _, ⟨a, xs, h1, h2, h3⟩ => ⟨a, xs, h1, sqT_mono e h2, IsAll.mono e ds xs h3⟩
  | .lst ds, _, ⟨a, xs, h1, h2, h3⟩ => ⟨a, xs, h1, e _ _ h2, IsAll.mono e ds xs h3⟩
  | .frz ds, _, ⟨a, xs, h1, h2, h3⟩ => ⟨a, xs, h1, sqL_mono e h2, IsAll.mono e ds xs h3⟩
  | .dic ks ds, _, ⟨a, xs, h1, h2, h4, h5, h3⟩ => ⟨a, xs, h1, e _ _ h2, h4, h5, IsAll.mono e ds xs h3⟩
  | .fn _, _, h => h
  | .dn ks ds, _, ⟨a, as, xs, ns, h1, h2, h3, h4, h5, h6, h7, h8⟩ => ⟨a, as, xs, ns, h1, e _ _ h2, h3, h4, h5, h6, IsAll.mono e ks _ h7, IsAll.mono e ds xs h8⟩
  | .exn _ _ _ _ ds, _, ⟨xs, h1, h2, h3, h4⟩ => ⟨xs, h1, e _ _ h2, h3, IsAll.mono e ds xs h4⟩
  | .adr _, _, h => h
theorem IsAll.mono (e : Exh G G') : ∀ (ds : List P) (vs : List V), IsAll K G ds vs → IsAll K G' ds vs
  | [], _, h => h
  | d :: ds, _, ⟨v, vs, h1, h2, h3⟩ => ⟨v, vs, h1, Is.mono e d v h2, IsAll.mono e ds vs h3⟩
end
theorem IsAll.len : ∀ {ds : List P} {vs : List V}, IsAll K G ds vs → ds.length = vs.length
  | [], _, h => by cases h; rfl
  | d :: ds, _, ⟨v, vs, h1, h2, h3⟩ => by
    subst h1
    simp [IsAll.len h3]
theorem IsAll.get : ∀ {ds : List P} {vs : List V} {i : Nat} {d : P}, IsAll K G ds vs → ds[i]? = some d → ∃ v, vs[i]? = some v ∧ Is K G d v
  | [], _, _, _, _, h => by simp at h
  | d :: ds, _, 0, _, ⟨v, vs, h1, h2, h3⟩, h => by
    subst h1
    simp at h
    subst h
    exact ⟨v, rfl, h2⟩
  | d :: ds, _, i + 1, _, ⟨v, vs, h1, h2, h3⟩, h => by
    subst h1
    obtain ⟨u, e, q⟩ := IsAll.get (i := i) h3 (by simpa using h)
    exact ⟨u, by simpa using e, q⟩
theorem IsAll.append : ∀ {ds es : List P} {vs us : List V}, IsAll K G ds vs → IsAll K G es us → IsAll K G (ds ++ es) (vs ++ us)
  | [], _, _, _, h, h' => by cases h; exact h'
  | d :: ds, _, _, _, ⟨v, vs, h1, h2, h3⟩, h' => by
    subst h1
    exact ⟨v, vs ++ _, rfl, h2, IsAll.append h3 h'⟩
theorem IsAll.set : ∀ {ds : List P} {vs : List V} {i : Nat} {d : P} {v : V}, IsAll K G ds vs → Is K G d v → IsAll K G (ds.set i d) (vs.set i v)
  | [], _, _, _, _, h, _ => by cases h; exact rfl
  | d :: ds, _, 0, _, _, ⟨v, vs, h1, h2, h3⟩, h => by
    subst h1
    exact ⟨_, vs, rfl, h, h3⟩
  | d :: ds, _, i + 1, _, _, ⟨v, vs, h1, h2, h3⟩, h => by
    subst h1
    exact ⟨v, _, rfl, h2, IsAll.set (i := i) h3 h⟩
theorem IsAll.take : ∀ {ds : List P} {vs : List V} (n : Nat), IsAll K G ds vs → IsAll K G (ds.take n) (vs.take n)
  | [], _, n, h => by cases h; simp [IsAll]
  | d :: ds, _, 0, h => by simp [IsAll]
  | d :: ds, _, n + 1, ⟨v, vs, h1, h2, h3⟩ => by
    subst h1
    exact ⟨v, _, rfl, h2, IsAll.take n h3⟩
theorem IsAll.drop : ∀ {ds : List P} {vs : List V} (n : Nat), IsAll K G ds vs → IsAll K G (ds.drop n) (vs.drop n)
  | [], _, n, h => by cases h; simp [IsAll]
  | d :: ds, _, 0, h => h
  | d :: ds, _, n + 1, ⟨v, vs, h1, h2, h3⟩ => by
    subst h1
    exact IsAll.drop n h3
theorem IsAll.one {d : P} {v : V} (h : Is K G d v) : IsAll K G [d] [v] := ⟨v, [], rfl, h, rfl⟩
theorem IsAll.eraseIdx : ∀ {ds : List P} {vs : List V} (n : Nat), IsAll K G ds vs → IsAll K G (ds.eraseIdx n) (vs.eraseIdx n)
  | [], _, n, h => by cases h; simp [IsAll]
  | d :: ds, _, 0, ⟨v, vs, h1, h2, h3⟩ => by
    subst h1
    exact h3
  | d :: ds, _, n + 1, ⟨v, vs, h1, h2, h3⟩ => by
    subst h1
    exact ⟨v, _, rfl, h2, IsAll.eraseIdx n h3⟩
mutual
theorem IsD.mono (hm : ∀ (r : Nat) (a : Addr), m.l[r]? = some a → m'.l[r]? = some a) (e : Exh G G') (ho : ∀ p ∈ m.c.o, p ∈ m'.c.o) : ∀ {d : D} {v : V}, IsD K m G d v → IsD K m' G' d v
  | .v p, v, h => Is.mono e p v h
  | .r n, _, ⟨a, h1, h2⟩ => ⟨a, h1, hm n a h2⟩
  | .o n k, _, ⟨a, b, h1, h2, h3⟩ => ⟨a, b, h1, hm n a h2, ho _ h3⟩
  | .t ds, _, ⟨a, xs, h1, h2, h3⟩ => ⟨a, xs, h1, sqT_mono e h2, IsDs.mono hm e ho h3⟩
theorem IsDs.mono (hm : ∀ (r : Nat) (a : Addr), m.l[r]? = some a → m'.l[r]? = some a) (e : Exh G G') (ho : ∀ p ∈ m.c.o, p ∈ m'.c.o) : ∀ {ds : List D} {vs : List V}, IsDs K m G ds vs → IsDs K m' G' ds vs
  | [], _, h => h
  | d :: ds, _, ⟨v, vs, h1, h2, h3⟩ => ⟨v, vs, h1, IsD.mono hm e ho h2, IsDs.mono hm e ho h3⟩
end
theorem IsDs.len : ∀ {ds : List D} {vs : List V}, IsDs K m G ds vs → ds.length = vs.length
  | [], _, h => by cases h; rfl
  | d :: ds, _, ⟨v, vs, h1, h2, h3⟩ => by
    subst h1
    simp [IsDs.len h3]
theorem IsDs.append : ∀ {ds es : List D} {vs us : List V}, IsDs K m G ds vs → IsDs K m G es us → IsDs K m G (ds ++ es) (vs ++ us)
  | [], _, _, _, h, h' => by cases h; exact h'
  | d :: ds, _, _, _, ⟨v, vs, h1, h2, h3⟩, h' => by
    subst h1
    exact ⟨v, vs ++ _, rfl, h2, IsDs.append h3 h'⟩
def vals : List D → Option (List P)
  | [] => some []
  | .v p :: ds => (vals ds).map (p :: ·)
  | .r _ :: _ => none
  | .o _ _ :: _ => none
  | .t _ :: _ => none
theorem vals_is : ∀ {ds : List D} {ps : List P} {vs : List V}, vals ds = some ps → IsDs K m G ds vs → IsAll K G ps vs
  | [], ps, _, h, q => by
    cases h
    exact q
  | .v p :: ds, ps, _, h, ⟨v, vs, h1, h2, h3⟩ => by
    unfold vals at h
    cases e : vals ds with
    | none => rw [e] at h; cases h
    | some qs =>
      rw [e] at h
      cases h
      exact ⟨v, vs, h1, h2, vals_is e h3⟩
  | .r _ :: _, _, _, h, _ => by cases h
  | .o _ _ :: _, _, _, h, _ => by cases h
  | .t _ :: _, _, _, h, _ => by cases h
end
def CoIs [Tb] (K : PySem.W.Frag) (m : Mp) (H : Hp) (b : Addr) : Co → Prop
  | .lst ds => ∃ xs, H b = some (.lst xs) ∧ IsAll K (mask m H) ds xs
  | .dic ks ds => ∃ xs, H b = some (.dK (ks.zip xs)) ∧ ks.length = xs.length ∧ ks.Nodup ∧ IsAll K (mask m H) ds xs
  | .dn ks ds => ∃ as xs ns, H b = some (NDo b (hashNs Tb.hf ns) as xs) ∧ nkPs ks = some ns ∧ KeysOk ns ∧ xs.length = ks.length ∧ xs.length ≤ sizeLine ∧ IsAll K (mask m H) ks as ∧ IsAll K (mask m H) ds xs
def FvIs [Tb] (K : PySem.W.Frag) (m : Mp) (H : Hp) (a : Addr) : Fv → V → Prop
  | .p p, v => Is K (mask m H) p v
  | .c k o, v => ∃ b, v = .ref b ∧ (a, k, b) ∈ m.c.o ∧ CoIs K m H b o
def FvAll [Tb] (K : PySem.W.Frag) (m : Mp) (H : Hp) (a : Addr) : List Fv → List V → Prop
  | [], xs => xs = []
  | f :: fs, xs => ∃ v vs, xs = v :: vs ∧ FvIs K m H a f v ∧ FvAll K m H a fs vs
def ObIs [Tb] (K : PySem.W.Frag) (m : Mp) (H : Hp) (a : Addr) : Ob → Prop
  | .lst ds => ∃ xs, H a = some (.lst xs) ∧ IsAll K (mask m H) ds xs
  | .dic ks ds => ∃ xs, H a = some (.dK (ks.zip xs)) ∧ ks.length = xs.length ∧ ks.Nodup ∧ IsAll K (mask m H) ds xs
  | .dn ks ds => ∃ as xs ns, H a = some (NDo a (hashNs Tb.hf ns) as xs) ∧ nkPs ks = some ns ∧ KeysOk ns ∧ xs.length = ks.length ∧ xs.length ≤ sizeLine ∧ IsAll K (mask m H) ks as ∧ IsAll K (mask m H) ds xs
  | .dl ks cs => ∃ (as : List V) (bs : List Addr) (ns : List NestedKey), H a = some (NDo a (hashNs Tb.hf ns) as (bs.map V.ref)) ∧ nkPs ks = some ns ∧ KeysOk ns ∧ bs.length = ks.length ∧ bs.length ≤ sizeLine ∧ IsAll K (mask m H) ks as ∧ cs.length = ks.length ∧ (∀ k b, (a, k, b) ∈ m.c.o → k < cs.length) ∧
      ∀ (i : Nat) (b : Addr) (ps : List P), bs[i]? = some b → cs[i]? = some ps → (a, i, b) ∈ m.c.o ∧ CoIs K m H b (.lst ps)
  | .ins c nv ns fs => ∃ dx xs, H a = some (.ins (He.ga K c) dx (ns.zip xs)) ∧ ns.length = xs.length ∧ (∀ k b, (a, k, b) ∈ m.c.o → k < nv) ∧ FvAll K m H a fs xs
def TabM (m : Mp) (H : Hp) (P : Addr) (q : Str) : Prop := ∃ ps : Array Value, ¬ off m P ∧ H P = some (.tbl ps) ∧ TriplesOk ps.toList ∧ ∀ (pos : Pos) (cv : Value), codeAmong pos ps.toList = some cv → ∃ c, cv = .ref c ∧ mask m H c = some (LamX.CodeO c q)
structure Rel [Tb] (K : PySem.W.Frag) (m : Mp) (H : Hp) (S : Sto) : Prop where
  len : m.l.length = S.length
  nd : m.l.Nodup
  ob : ∀ (r : Nat) (a : Addr) (o : Ob), m.l[r]? = some a → S[r]? = some o → ObIs K m H a o
  hid : ∀ b, b ∈ m.h → b ∉ m.l ∧ ∃ o, H b = some o
  hnt : ∀ b, b ∈ m.h → ∀ o, H b = some o → offO b o
  own : ∀ p ∈ m.c.o, p.2.2 ∉ m.l ∧ p.2.2 ∉ m.h ∧ (∃ o, H p.2.2 = some o ∧ offO p.2.2 o) ∧ ∃ o, H p.1 = some o ∧ notTbl o
  inj : ∀ p ∈ m.c.o, ∀ q ∈ m.c.o, p.2.2 = q.2.2 → p = q
  fnc : ∀ p ∈ m.c.o, ∀ q ∈ m.c.o, p.1 = q.1 → p.2.1 = q.2.1 → p = q
  ow : ∀ p ∈ m.c.o, ∃ (r : Nat) (o : Ob), m.l[r]? = some p.1 ∧ S[r]? = some o ∧ o.isOwn = true
  tab : ∀ p ∈ Tb.t K, TabM m H p.1 p.2
structure Stp (m : Mp) (H : Hp) (m' : Mp) (H' : Hp) : Prop where
  ext : ∀ (r : Nat) (a : Addr), m.l[r]? = some a → m'.l[r]? = some a
  ex : Exh (mask m H) (mask m' H')
  hh : m'.h = m.h
  hk : ∀ b, b ∈ m.h → H' b = H b
  co : ∀ p, p ∈ m.c.o → p ∈ m'.c.o
section
variable [Tb]
variable {K : PySem.W.Frag} {m m' m2 : Mp} {H H' H2 : Hp} {S S' : Sto}
theorem Stp.refl (m : Mp) (H : Hp) : Stp m H m H := ⟨fun _ _ h => h, fun _ _ h => h, rfl, fun _ _ => rfl, fun _ h => h⟩
theorem Stp.trans (a : Stp m H m' H') (b : Stp m' H' m2 H2) : Stp m H m2 H2 := ⟨fun r x h => b.ext r x (a.ext r x h), fun x o h => b.ex x o (a.ex x o h), b.hh.trans a.hh, fun x h => (b.hk x (by rw [a.hh]; exact h)).trans (a.hk x h), fun p h => b.co p (a.co p h)⟩
theorem Stp.is {d : D} {v : V} (a : Stp m H m' H') (h : IsD K m (mask m H) d v) : IsD K m' (mask m' H') d v := h.mono a.ext a.ex a.co
theorem Stp.val {p : P} {v : V} (a : Stp m H m' H') (h : Is K (mask m H) p v) : Is K (mask m' H') p v := Is.mono a.ex p v h
theorem Stp.all {ps : List P} {vs : List V} (a : Stp m H m' H') (h : IsAll K (mask m H) ps vs) : IsAll K (mask m' H') ps vs := IsAll.mono a.ex ps vs h
theorem lt_of_at {α : Type} {xs : List α} {r : Nat} {a : α} (h : xs[r]? = some a) : r < xs.length := by
  rcases Nat.lt_or_ge r xs.length with q | q
  · exact q
  · rw [List.getElem?_eq_none q] at h; cases h
theorem ObIs.at {a : Addr} {o : Ob} (h : ObIs K m H a o) : ∃ u, H a = some u ∧ offO a u := by
  cases o with
  | lst ds => obtain ⟨xs, q, _⟩ := h; exact ⟨_, q, .inl ⟨_, rfl⟩⟩
  | dic ks ds => obtain ⟨xs, q, _⟩ := h; exact ⟨_, q, .inr (.inl ⟨_, rfl⟩)⟩
  | dn ks ds => obtain ⟨as, xs, ns, q, _⟩ := h; exact ⟨_, q, .inr (.inr (.inl ⟨_, _, _, rfl⟩))⟩
  | dl ks cs => obtain ⟨as, bs, ns, q, _⟩ := h; exact ⟨_, q, .inr (.inr (.inl ⟨_, _, _, rfl⟩))⟩
  | ins c nv ns fs => obtain ⟨dx, xs, q, _⟩ := h; exact ⟨_, q, .inr (.inr (.inr ⟨_, _, _, rfl⟩))⟩
theorem Rel.tracked {a : Addr} (R : Rel K m H S) (h : off m a) : ∃ o, H a = some o ∧ offO a o := by
  rcases h with h | h | h
  · obtain ⟨r, hr, e⟩ := List.getElem_of_mem h
    have hs : r < S.length := by rw [← R.len]; exact hr
    exact (R.ob r a S[r] (by rw [List.getElem?_eq_getElem hr, e]) (List.getElem?_eq_getElem hs)).at
  · obtain ⟨o, e⟩ := (R.hid a h).2
    exact ⟨o, e, R.hnt a h o e⟩
  · obtain ⟨p, hp, e⟩ := List.mem_map.mp h
    rw [← e]
    exact (R.own p hp).2.2.1
theorem Rel.out {a : Addr} (R : Rel K m H S) (h : H a = none) : ¬ off m a := fun z => by
  obtain ⟨o, e, _⟩ := R.tracked z
  rw [h] at e; cases e
theorem mask_upd {a : Addr} {o : HO} (h : ¬ off m a) (n : notTbl o := by intro _ z; cases z) : mask m (upd H a o) = upd (mask m H) a o := by
  funext b
  by_cases e : b = a
  · subst e
    rw [upd_same]
    exact mask_at h upd_same n
  · rw [upd_ne e]
    exact mask_eq Iff.rfl (upd_ne e)
theorem ex_of (h : ∀ b u, ¬ off m b → H b = some u → notTbl u → ¬ off m' b ∧ H' b = some u) : Exh (mask m H) (mask m' H') := fun b u z => by
  obtain ⟨z1, z2⟩ := mask_some z
  obtain ⟨q1, q2⟩ := h b u z1 z2 (mask_nt z)
  exact mask_at q1 q2 (mask_nt z)
theorem CoIs.mono {b : Addr} {o : Co} (h : CoIs K m H b o) (st : Exh (mask m H) (mask m' H')) (ha : H' b = H b) : CoIs K m' H' b o := by
  cases o with
  | lst ds =>
    obtain ⟨xs, e, q⟩ := h
    exact ⟨xs, by rw [ha]; exact e, IsAll.mono st _ _ q⟩
  | dic ks ds =>
    obtain ⟨xs, e, h1, h2, q⟩ := h
    exact ⟨xs, by rw [ha]; exact e, h1, h2, IsAll.mono st _ _ q⟩
  | dn ks ds =>
    obtain ⟨as, xs, ns, e, h1, h2, h3, h4, q1, q2⟩ := h
    exact ⟨as, xs, ns, by rw [ha]; exact e, h1, h2, h3, h4, IsAll.mono st _ _ q1, IsAll.mono st _ _ q2⟩
theorem FvIs.mono2 {a : Addr} {f : Fv} {v : V} (h : FvIs K m H a f v) (st : Exh (mask m H) (mask m' H')) (co : ∀ k b, (a, k, b) ∈ m.c.o → (a, k, b) ∈ m'.c.o) (hk : ∀ k b, (a, k, b) ∈ m.c.o → H' b = H b) : FvIs K m' H' a f v := by
  cases f with
  | p p => exact Is.mono st _ _ h
  | c k o =>
    obtain ⟨b, h1, h2, h3⟩ := h
    exact ⟨b, h1, co _ _ h2, h3.mono st (hk _ _ h2)⟩
theorem FvAll.mono2 {a : Addr} : ∀ {fs : List Fv} {vs : List V}, FvAll K m H a fs vs → Exh (mask m H) (mask m' H') → (∀ k b, (a, k, b) ∈ m.c.o → (a, k, b) ∈ m'.c.o) → (∀ k b, (a, k, b) ∈ m.c.o → H' b = H b) → FvAll K m' H' a fs vs
  | [], _, h, _, _, _ => h
  | f :: fs, _, ⟨v, vs, h1, h2, h3⟩, st, co, hk => ⟨v, vs, h1, FvIs.mono2 h2 st co hk, FvAll.mono2 h3 st co hk⟩
theorem ObIs.mono2 {a : Addr} {o : Ob} (h : ObIs K m H a o) (st : Exh (mask m H) (mask m' H')) (co : ∀ k b, (a, k, b) ∈ m.c.o → (a, k, b) ∈ m'.c.o) (ha : H' a = H a) (hk : ∀ k b, (a, k, b) ∈ m.c.o → H' b = H b) (hn : ∀ k b, (a, k, b) ∈ m'.c.o → (a, k, b) ∈ m.c.o) : ObIs K m' H' a o := by
  cases o with
  | lst ds =>
    obtain ⟨xs, e, q⟩ := h
    exact ⟨xs, by rw [ha]; exact e, IsAll.mono st _ _ q⟩
  | dic ks ds =>
    obtain ⟨xs, e, h1, h2, q⟩ := h
    exact ⟨xs, by rw [ha]; exact e, h1, h2, IsAll.mono st _ _ q⟩
  | dn ks ds =>
    obtain ⟨as, xs, ns, e, h1, h2, h3, h4, q1, q2⟩ := h
    exact ⟨as, xs, ns, by rw [ha]; exact e, h1, h2, h3, h4, IsAll.mono st _ _ q1, IsAll.mono st _ _ q2⟩
  | dl ks cs =>
    obtain ⟨as, bs, ns, e, h1, h2, h3, h4, q1, q2, q3, q4⟩ := h
    exact ⟨as, bs, ns, by rw [ha]; exact e, h1, h2, h3, h4, IsAll.mono st _ _ q1, q2, fun k b z => q3 k b (hn k b z), fun i b ps e1 e2 => ⟨co _ _ (q4 i b ps e1 e2).1, (q4 i b ps e1 e2).2.mono st (hk i b (q4 i b ps e1 e2).1)⟩⟩
  | ins c nv ns fs =>
    obtain ⟨dx, xs, e, h1, h2, q⟩ := h
    exact ⟨dx, xs, by rw [ha]; exact e, h1, fun k b z => h2 k b (hn k b z), FvAll.mono2 q st co hk⟩
theorem ObIs.mono' {a : Addr} {o : Ob} (h : ObIs K m H a o) (st : Exh (mask m H) (mask m' H')) (co : ∀ p, p ∈ m.c.o → p ∈ m'.c.o) (ha : H' a = H a) (hk : ∀ k b, (a, k, b) ∈ m.c.o → H' b = H b) (hn : ∀ k b, (a, k, b) ∈ m'.c.o → (a, k, b) ∈ m.c.o) : ObIs K m' H' a o := h.mono2 st (fun _ _ z => co _ z) ha hk hn
theorem ObIs.mono {a : Addr} {o : Ob} (h : ObIs K m H a o) (st : Stp m H m' H') (ha : H' a = H a) (hk : ∀ k b, (a, k, b) ∈ m.c.o → H' b = H b) (hn : m'.c.o = m.c.o) : ObIs K m' H' a o := h.mono' st.ex st.co ha hk fun k b z => by rw [← hn]; exact z
theorem TabM.mono {P : Addr} {q : Str} (h : TabM m H P q) (ex : Exh (mask m H) (mask m' H')) (hp : H' P = H P) (ho : off m' P → off m P) : TabM m' H' P q := by
  obtain ⟨ps, h1, h2, h3, h4⟩ := h
  exact ⟨ps, fun z => h1 (ho z), by rw [hp]; exact h2, h3, fun pos cv hc => by
    obtain ⟨c, e, z⟩ := h4 pos cv hc
    exact ⟨c, e, ex _ _ z⟩⟩
theorem Rel.step (R : Rel K m H S) (h : ∀ b u, H b = some u → H' b = some u) : Rel K m H' S ∧ Stp m H m H' := by
  have same : ∀ b, off m b → H' b = H b := fun b hb => by
    obtain ⟨o, ho, _⟩ := R.tracked hb
    rw [h _ _ ho, ho]
  have st : Stp m H m H' := ⟨fun _ _ z => z, ex_of fun b u z1 z2 _ => ⟨z1, h b u z2⟩, rfl, fun b hb => same b (.inr (.inl hb)), fun _ z => z⟩
  have so : ∀ p ∈ m.c.o, H' p.2.2 = H p.2.2 := fun p hp => same _ (.inr (.inr (List.mem_map.mpr ⟨p, hp, rfl⟩)))
  refine ⟨⟨R.len, R.nd, fun r a x h1 h2 => ?_, fun b hb => ⟨(R.hid b hb).1, ?_⟩, fun b hb o e => ?_, fun p hp => ?_, R.inj, R.fnc, R.ow, fun p hp => ?_⟩, st⟩
  · exact (R.ob r a x h1 h2).mono st (same a (.inl (List.mem_of_getElem? h1))) (fun k b hb => so _ hb) rfl
  · rw [st.hk b hb]
    exact (R.hid b hb).2
  · rw [st.hk b hb] at e
    exact R.hnt b hb o e
  · obtain ⟨o1, o2, ⟨o, o3, o4⟩, u, o5, o6⟩ := R.own p hp
    exact ⟨o1, o2, ⟨o, h _ _ o3, o4⟩, u, h _ _ o5, o6⟩
  · have t := R.tab p hp
    obtain ⟨ps, h1, h2, _⟩ := id t
    exact t.mono st.ex (by rw [h _ _ h2, h2]) (fun z => z)
theorem Rel.extN (R : Rel K m H S) (h : ∀ b u, H b = some u → notTbl u → H' b = some u) (tb : ∀ p ∈ Tb.t K, TabM m H' p.1 p.2) : Rel K m H' S ∧ Stp m H m H' := by
  have same : ∀ b, off m b → H' b = H b := fun b hb => by
    obtain ⟨o, ho, n⟩ := R.tracked hb
    rw [h _ _ ho n.nt, ho]
  have st : Stp m H m H' := ⟨fun _ _ z => z, ex_of fun b u z1 z2 n => ⟨z1, h b u z2 n⟩, rfl, fun b hb => same b (.inr (.inl hb)), fun _ z => z⟩
  have so : ∀ p ∈ m.c.o, H' p.2.2 = H p.2.2 := fun p hp => same _ (.inr (.inr (List.mem_map.mpr ⟨p, hp, rfl⟩)))
  refine ⟨⟨R.len, R.nd, fun r a x h1 h2 => ?_, fun b hb => ⟨(R.hid b hb).1, ?_⟩, fun b hb o e => ?_, fun p hp => ?_, R.inj, R.fnc, R.ow, tb⟩, st⟩
  · exact (R.ob r a x h1 h2).mono st (same a (.inl (List.mem_of_getElem? h1))) (fun k b hb => so _ hb) rfl
  · rw [st.hk b hb]
    exact (R.hid b hb).2
  · rw [st.hk b hb] at e
    exact R.hnt b hb o e
  · obtain ⟨o1, o2, ⟨o, o3, o4⟩, u, o5, o6⟩ := R.own p hp
    exact ⟨o1, o2, ⟨o, h _ _ o3 o4.nt, o4⟩, u, h _ _ o5 o6, o6⟩
theorem Rel.fresh {a : Addr} {o : HO} (R : Rel K m H S) (h : H a = none) : Rel K m (upd H a o) S ∧ Stp m H m (upd H a o) := R.step fun b u e => by rw [upd_ne (ne_of_none e h)]; exact e
theorem Rel.tab_ne {a : Addr} {p : Addr × Str} (R : Rel K m H S) (hp : p ∈ Tb.t K) (ha : off m a) : p.1 ≠ a := fun z => by
  obtain ⟨ps, h1, _⟩ := R.tab p hp
  exact h1 (z ▸ ha)
theorem mask_offupd {a : Addr} {o : HO} (h : off m a) : mask m (upd H a o) = mask m H := by
  funext b
  by_cases e : b = a
  · rw [e, mask_off h, mask_off h]
  · exact mask_eq Iff.rfl (upd_ne e)
theorem Rel.writeG {r : Nat} {a : Addr} {o : HO} {x : Ob} (R : Rel K m H S) (h : m.l[r]? = some a) (hno : notTbl o) (hx : ∀ H', Stp m H m H' → H' a = some o → (∀ b, b ≠ a → H' b = H b) → ObIs K m H' a x) (hw : ∀ o, S[r]? = some o → o.isOwn = true → x.isOwn = true) : Rel K m (upd H a o) (S.set r x) ∧ Stp m H m (upd H a o) := by
  have hin : a ∈ m.l := List.mem_of_getElem? h
  have em := mask_offupd (H := H) (o := o) (.inl hin : off m a)
  have hn : ∀ b, b ∈ m.h → b ≠ a := fun b hb z => (R.hid b hb).1 (by rw [z]; exact hin)
  have st : Stp m H m (upd H a o) := ⟨fun _ _ z => z, fun b u z => by rw [em]; exact z, rfl, fun b hb => upd_ne (hn b hb), fun _ z => z⟩
  have no : ∀ p ∈ m.c.o, p.2.2 ≠ a := fun p hp z => (R.own p hp).1 (by rw [z]; exact hin)
  refine ⟨⟨by rw [List.length_set]; exact R.len, R.nd, fun q b y h1 h2 => ?_, fun b hb => ⟨(R.hid b hb).1, by rw [upd_ne (hn b hb)]; exact (R.hid b hb).2⟩, fun b hb u e => ?_, fun p hp => ?_, R.inj, R.fnc, fun p hp => ?_, fun p hp => ?_⟩, st⟩
  · by_cases hq : q = r
    · subst hq
      rw [h] at h1; cases h1
      have hl : q < S.length := by rw [← R.len]; exact lt_of_at h
      rw [List.getElem?_set_self hl] at h2
      cases h2
      exact hx _ st upd_same fun b hb => upd_ne hb
    · rw [List.getElem?_set_ne (fun z => hq z.symm)] at h2
      refine (R.ob q b y h1 h2).mono st (upd_ne fun z => hq ?_) (fun k c hc => upd_ne (no _ hc)) rfl
      subst z
      have l1 := lt_of_at h1
      have l2 := lt_of_at h
      rw [List.getElem?_eq_getElem l1] at h1
      rw [List.getElem?_eq_getElem l2] at h
      exact (List.getElem_inj R.nd).mp ((Option.some.inj h1).trans (Option.some.inj h).symm)
  · rw [upd_ne (hn b hb)] at e
    exact R.hnt b hb u e
  · obtain ⟨o1, o2, ⟨u, o3, o4⟩, w, o5, o6⟩ := R.own p hp
    refine ⟨o1, o2, ⟨u, by rw [upd_ne (no p hp)]; exact o3, o4⟩, ?_⟩
    by_cases e : p.1 = a
    · exact ⟨o, by rw [e]; exact upd_same, hno⟩
    · exact ⟨w, by rw [upd_ne e]; exact o5, o6⟩
  · obtain ⟨q, y, h1, h2, h3⟩ := R.ow p hp
    by_cases e : r = q
    · subst e
      exact ⟨r, x, h1, List.getElem?_set_self (lt_of_at h2), hw y h2 h3⟩
    · exact ⟨q, y, h1, by rw [List.getElem?_set_ne e]; exact h2, h3⟩
  · exact (R.tab p hp).mono st.ex (upd_ne (R.tab_ne hp (.inl hin))) fun z => z
theorem Rel.allocG {a : Addr} {o : HO} {x : Ob} (R : Rel K m H S) (h : H a = none) (hx : ∀ H', Stp m H ⟨m.l ++ [a], m.h, m.c⟩ H' → H' a = some o → (∀ k b, (a, k, b) ∉ m.c.o) → ObIs K ⟨m.l ++ [a], m.h, m.c⟩ H' a x) :
    Rel K ⟨m.l ++ [a], m.h, m.c⟩ (upd H a o) (S ++ [x]) ∧ Stp m H ⟨m.l ++ [a], m.h, m.c⟩ (upd H a o) := by
  have ho := R.out h
  have sp : ∀ b, b ≠ a → off (⟨m.l ++ [a], m.h, m.c⟩ : Mp) b → off m b := fun b hb z => by
    rcases z with z | z
    · have z' : b ∈ m.l ++ [a] := z
      rcases List.mem_append.mp z' with q | q
      · exact .inl q
      · exact absurd (by simpa using q) hb
    · exact .inr z
  have st : Stp m H ⟨m.l ++ [a], m.h, m.c⟩ (upd H a o) := by
    refine ⟨fun r b z => ?_, ex_of fun b u z1 z2 _ => ?_, rfl, fun b hb => upd_ne fun z => ho (.inr (.inl (z ▸ hb))), fun _ z => z⟩
    · show (m.l ++ [a])[r]? = some b
      rw [List.getElem?_append_left (lt_of_at z)]
      exact z
    · have hb : b ≠ a := ne_of_none z2 h
      exact ⟨fun z => z1 (sp b hb z), by rw [upd_ne hb]; exact z2⟩
  have no : ∀ p ∈ m.c.o, p.2.2 ≠ a := fun p hp z => ho (.inr (.inr (List.mem_map.mpr ⟨p, hp, z⟩)))
  have nk : ∀ k b, (a, k, b) ∉ m.c.o := fun k b z => by
    obtain ⟨_, _, _, u, e, _⟩ := R.own _ z
    rw [h] at e; cases e
  refine ⟨⟨by simp [R.len], ?_, fun r b y h1 h2 => ?_, fun b hb => ⟨?_, ?_⟩, fun b hb u e => ?_, fun p hp => ?_, R.inj, R.fnc, fun p hp => ?_, fun p hp => ?_⟩, st⟩
  · show (m.l ++ [a]).Nodup
    rw [List.nodup_append]
    exact ⟨R.nd, by simp, fun b hb c hc z => by
      simp at hc
      subst hc
      subst z
      exact ho (.inl hb)⟩
  · have h1' : (m.l ++ [a])[r]? = some b := h1
    rcases Nat.lt_or_ge r m.l.length with q | q
    · rw [List.getElem?_append_left q] at h1'
      rw [List.getElem?_append_left (by rw [← R.len]; exact q)] at h2
      exact (R.ob r b y h1' h2).mono st (upd_ne fun z => ho (.inl (by rw [← z]; exact List.mem_of_getElem? h1'))) (fun k c hc => upd_ne (no _ hc)) rfl
    · have e1 : b = a := by
        rw [List.getElem?_append_right q] at h1'
        have := List.mem_of_getElem? h1'
        simpa using this
      subst e1
      rw [List.getElem?_append_right (by rw [← R.len]; exact q)] at h2
      have := List.mem_of_getElem? h2
      simp at this
      subst this
      exact hx _ st upd_same nk
  · intro z
    have z' : b ∈ m.l ++ [a] := z
    rcases List.mem_append.mp z' with q | q
    · exact (R.hid b hb).1 q
    · exact ho (.inr (.inl (by have : b = a := by simpa using q
                               exact this ▸ hb)))
  · rw [st.hk b hb]
    exact (R.hid b hb).2
  · rw [st.hk b hb] at e
    exact R.hnt b hb u e
  · obtain ⟨o1, o2, ⟨u, o3, o4⟩, w, o5, o6⟩ := R.own p hp
    refine ⟨fun z => ?_, o2, ⟨u, by rw [upd_ne (no p hp)]; exact o3, o4⟩, w, by rw [upd_ne (ne_of_none o5 h)]; exact o5, o6⟩
    have z' : p.2.2 ∈ m.l ++ [a] := z
    rcases List.mem_append.mp z' with q | q
    · exact o1 q
    · exact no p hp (by simpa using q)
  · obtain ⟨q, y, h1, h2, h3⟩ := R.ow p hp
    exact ⟨q, y, by show (m.l ++ [a])[q]? = _; rw [List.getElem?_append_left (lt_of_at h1)]; exact h1, by rw [List.getElem?_append_left (lt_of_at h2)]; exact h2, h3⟩
  · have t := R.tab p hp
    obtain ⟨ps, h1, h2, _⟩ := id t
    have hne : p.1 ≠ a := ne_of_none h2 h
    exact t.mono st.ex (upd_ne hne) (sp _ hne)
theorem Rel.write {r : Nat} {a : Addr} {o : HO} {x : Ob} (R : Rel K m H S) (h : m.l[r]? = some a) (hx : ∀ H', Stp m H m H' → H' a = some o → ObIs K m H' a x) (hno : notTbl o := by first | exact NDo_nt | (intro _ z; cases z)) (hw : ∀ o, S[r]? = some o → o.isOwn = true → x.isOwn = true := by intro o h1 h2; first | rfl | simp_all [Ob.isOwn]) : Rel K m (upd H a o) (S.set r x) ∧ Stp m H m (upd H a o) := R.writeG h hno (fun H' s e _ => hx H' s e) hw
theorem Rel.alloc {a : Addr} {o : HO} {x : Ob} (R : Rel K m H S) (h : H a = none) (hx : ∀ H', Stp m H ⟨m.l ++ [a], m.h, m.c⟩ H' → H' a = some o → ObIs K ⟨m.l ++ [a], m.h, m.c⟩ H' a x) :
    Rel K ⟨m.l ++ [a], m.h, m.c⟩ (upd H a o) (S ++ [x]) ∧ Stp m H ⟨m.l ++ [a], m.h, m.c⟩ (upd H a o) := R.allocG h fun H' s e _ => hx H' s e
abbrev Mp.hide (m : Mp) (a : Addr) : Mp := ⟨m.l, a :: m.h, m.c⟩
theorem off_hide {a b : Addr} (hb : b ≠ a) : off (m.hide a) b ↔ off m b := by
  unfold off
  simp [hb]
theorem mask_hide {a : Addr} {o : HO} (h : H a = none) : mask (m.hide a) (upd H a o) = mask m H := by
  funext b
  by_cases hb : b = a
  · subst hb
    rw [mask_off (.inr (.inl (List.mem_cons_self ..))), mask_none h]
  · exact mask_eq (off_hide hb) (upd_ne hb)
theorem Rel.hide {a : Addr} {o : HO} (R : Rel K m H S) (h : H a = none) (hn : offO a o := by first | exact .inl ⟨_, rfl⟩ | exact .inr (.inl ⟨_, rfl⟩)) : Rel K (m.hide a) (upd H a o) S := by
  have ho := R.out h
  have em := mask_hide (m := m) (o := o) h
  have ex : Exh (mask m H) (mask (m.hide a) (upd H a o)) := fun b u z => by rw [em]; exact z
  have no : ∀ p ∈ m.c.o, p.2.2 ≠ a := fun p hp z => ho (.inr (.inr (List.mem_map.mpr ⟨p, hp, z⟩)))
  refine ⟨R.len, R.nd, fun r b x h1 h2 => ?_, fun b hb => ?_, fun b hb u e => ?_, fun p hp => ?_, R.inj, R.fnc, R.ow, fun p hp => ?_⟩
  · have hn : b ≠ a := fun z => ho (.inl (by rw [← z]; exact List.mem_of_getElem? h1))
    exact (R.ob r b x h1 h2).mono' ex (fun _ z => z) (upd_ne hn) (fun k c hc => upd_ne (no _ hc)) fun _ _ z => z
  · by_cases hn : b = a
    · subst hn
      exact ⟨fun z => ho (.inl z), _, upd_same⟩
    · have hb' : b ∈ m.h := by simpa [hn] using hb
      exact ⟨(R.hid b hb').1, by rw [upd_ne hn]; exact (R.hid b hb').2⟩
  · by_cases hn' : b = a
    · subst hn'
      rw [upd_same] at e
      cases e
      exact hn
    · have hb' : b ∈ m.h := by simpa [hn'] using hb
      rw [upd_ne hn'] at e
      exact R.hnt b hb' u e
  · obtain ⟨o1, o2, ⟨u, o3, o4⟩, w, o5, o6⟩ := R.own p hp
    refine ⟨o1, fun z => ?_, ⟨u, by rw [upd_ne (no p hp)]; exact o3, o4⟩, w, by rw [upd_ne (ne_of_none o5 h)]; exact o5, o6⟩
    rcases List.mem_cons.mp z with q | q
    · exact no p hp q
    · exact o2 q
  · have t := R.tab p hp
    obtain ⟨ps, h1, h2, _⟩ := id t
    have hne : p.1 ≠ a := ne_of_none h2 h
    exact t.mono ex (upd_ne hne) (off_hide hne).mp
theorem mask_hid {a : Addr} {o : HO} (h : a ∈ m.h) : mask m (upd H a o) = mask m H := mask_offupd (.inr (.inl h))
theorem Rel.hidden {a : Addr} {o : HO} (R : Rel K m H S) (h : a ∈ m.h) (hnt : offO a o := by first | exact .inl ⟨_, rfl⟩ | exact .inr (.inl ⟨_, rfl⟩)) : Rel K m (upd H a o) S := by
  have em := mask_hid (H := H) (o := o) h
  have ex : Exh (mask m H) (mask m (upd H a o)) := fun b u z => by rw [em]; exact z
  have hn : ∀ b, b ∈ m.l → b ≠ a := fun b hb z => (R.hid a h).1 (z ▸ hb)
  have no : ∀ p ∈ m.c.o, p.2.2 ≠ a := fun p hp z => (R.own p hp).2.1 (by rw [z]; exact h)
  refine ⟨R.len, R.nd, fun r b x h1 h2 => ?_, fun b hb => ⟨(R.hid b hb).1, ?_⟩, fun b hb u e => ?_, fun p hp => ?_, R.inj, R.fnc, R.ow, fun p hp => ?_⟩
  · exact (R.ob r b x h1 h2).mono' ex (fun _ z => z) (upd_ne (hn b (List.mem_of_getElem? h1))) (fun k c hc => upd_ne (no _ hc)) fun _ _ z => z
  · by_cases hb2 : b = a
    · subst hb2; exact ⟨_, upd_same⟩
    · rw [upd_ne hb2]; exact (R.hid b hb).2
  · by_cases hb2 : b = a
    · subst hb2
      rw [upd_same] at e
      cases e
      exact hnt
    · rw [upd_ne hb2] at e
      exact R.hnt b hb u e
  · obtain ⟨o1, o2, ⟨u, o3, o4⟩, w, o5, o6⟩ := R.own p hp
    refine ⟨o1, o2, ⟨u, by rw [upd_ne (no p hp)]; exact o3, o4⟩, ?_⟩
    by_cases e : p.1 = a
    · exact ⟨o, by rw [e]; exact upd_same, hnt.nt⟩
    · exact ⟨w, by rw [upd_ne e]; exact o5, o6⟩
  · exact (R.tab p hp).mono ex (upd_ne (R.tab_ne hp (.inr (.inl h)))) fun z => z
theorem Rel.show' {a : Addr} {l : List Addr} {h : List Addr} {c : Cn} (R : Rel K ⟨l, a :: h, c⟩ H S) (ha : a ∉ h) : Rel K ⟨l, h, c⟩ H S ∧ Exh (mask ⟨l, a :: h, c⟩ H) (mask ⟨l, h, c⟩ H) := by
  have so : ∀ b, off (⟨l, h, c⟩ : Mp) b → off (⟨l, a :: h, c⟩ : Mp) b := fun b z => z.imp id fun w => w.imp (fun w => List.mem_cons_of_mem _ w) id
  have ex : Exh (mask ⟨l, a :: h, c⟩ H) (mask ⟨l, h, c⟩ H) := ex_of fun b u z1 z2 _ => ⟨fun q => z1 (so b q), z2⟩
  refine ⟨⟨R.len, R.nd, fun r b x h1 h2 => ?_, fun b hb => R.hid b (List.mem_cons_of_mem _ hb), fun b hb => R.hnt b (List.mem_cons_of_mem _ hb), fun p hp => ?_, R.inj, R.fnc, R.ow, fun p hp => ?_⟩, ex⟩
  · exact (R.ob r b x h1 h2).mono' ex (fun _ z => z) rfl (fun _ _ _ => rfl) fun _ _ z => z
  · obtain ⟨o1, o2, o3, o5⟩ := R.own p hp
    exact ⟨o1, fun z => o2 (List.mem_cons_of_mem _ z), o3, o5⟩
  · exact (R.tab p hp).mono ex rfl (so _)
end
variable [Tb]
structure EnvIs (K : PySem.W.Frag) (m : Mp) (G : Hp) (σ : L2.St) (env : Dnv) : Prop where
  len : σ.length = env.length
  get : ∀ (i : Nat) (d : D), env[i]? = some (some d) → ∃ v, σ[i]? = some (some v) ∧ IsD K m G d v
section
variable {K : PySem.W.Frag} {m m' : Mp} {H H' : Hp} {σ : L2.St} {env : Dnv}
theorem EnvIs.step (h : EnvIs K m (mask m H) σ env) (st : Stp m H m' H') : EnvIs K m' (mask m' H') σ env := ⟨h.len, fun i d e => by
  obtain ⟨v, h1, h2⟩ := h.get i d e
  exact ⟨v, h1, st.is h2⟩⟩
theorem EnvIs.set {G : Hp} {i : Nat} {d : D} {v : V} (h : EnvIs K m G σ env) (hd : IsD K m G d v) : EnvIs K m G (σ.set i (some v)) (env.set i (some d)) := by
  refine ⟨by rw [List.length_set, List.length_set]; exact h.len, fun j e q => ?_⟩
  by_cases hj : i = j
  · subst hj
    by_cases hl : i < env.length
    · rw [List.getElem?_set_self hl] at q
      cases q
      exact ⟨v, List.getElem?_set_self (by rw [h.len]; exact hl), hd⟩
    · rw [List.getElem?_eq_none (by rw [List.length_set]; omega)] at q
      cases q
  · rw [List.getElem?_set_ne hj] at q
    rw [List.getElem?_set_ne hj]
    exact h.get j e q
end
def TD (K : PySem.W.Frag) (f : FE) : TE := fun σ H Q => ∃ m env S, Rel K m H S ∧ EnvIs K m (mask m H) σ env ∧ ∃ d S', f env S = .ok d S' ∧
  ∀ v m' H', Stp m H m' H' → Rel K m' H' S' → IsD K m' (mask m' H') d v → Q v H'
def TDt (K : PySem.W.Frag) (f : FT) : TT := fun σ H Q => ∃ m env S, Rel K m H S ∧ EnvIs K m (mask m H) σ env ∧ ∃ b S', f env S = .ok b S' ∧
  ∀ m' H', Stp m H m' H' → Rel K m' H' S' → Q b H'
def TDa (K : PySem.W.Frag) (f : FA) : TA := fun σ H Q => ∃ m env S, Rel K m H S ∧ EnvIs K m (mask m H) σ env ∧ ∃ ds S', f env S = .ok ds S' ∧
  ∀ vs m' H', Stp m H m' H' → Rel K m' H' S' → IsDs K m' (mask m' H') ds vs → Q vs H'
def FloOk (K : PySem.W.Frag) (m : Mp) (H : Hp) (E : Ends) : Flo → Prop
  | .nx env S => ∀ m' H' σ, Stp m H m' H' → Rel K m' H' S → EnvIs K m' (mask m' H') σ env → E.nx σ H'
  | .rt d S => ∀ v m' H', Stp m H m' H' → Rel K m' H' S → IsD K m' (mask m' H') d v → E.rt v H'
  | .bk env S => ∀ m' H' σ, Stp m H m' H' → Rel K m' H' S → EnvIs K m' (mask m' H') σ env → E.bk σ H'
  | .ct env S => ∀ m' H' σ, Stp m H m' H' → Rel K m' H' S → EnvIs K m' (mask m' H') σ env → E.ct σ H'
  | .bad => False
def TDs (K : PySem.W.Frag) (f : FS) : TS := fun E σ H => ∃ m env S, Rel K m H S ∧ EnvIs K m (mask m H) σ env ∧ FloOk K m H E (f env S)
theorem FloOk.step {K : PySem.W.Frag} {m m' : Mp} {H H' : Hp} {E : Ends} {f : Flo} (h : FloOk K m H E f) (st : Stp m H m' H') : FloOk K m' H' E f := by
  cases f with
  | nx env S => exact fun m2 H2 σ s2 => h m2 H2 σ (st.trans s2)
  | rt d S => exact fun v m2 H2 s2 => h v m2 H2 (st.trans s2)
  | bk env S => exact fun m2 H2 σ s2 => h m2 H2 σ (st.trans s2)
  | ct env S => exact fun m2 H2 σ s2 => h m2 H2 σ (st.trans s2)
  | bad => exact h
section
variable {X : Cx} {e : Expr} {es : List Expr} {st : Stmt} {sts : List Stmt}
theorem pe_weak {t t' : TE} (h : PE X e t) (q : ∀ σ H Q, t' σ H Q → t σ H Q) : PE X e t' := ⟨fun pins s σ H Q I w => h.run pins s σ H Q I (q σ H Q w)⟩
theorem pt_weak {t t' : TT} (h : PT X e t) (q : ∀ σ H Q, t' σ H Q → t σ H Q) : PT X e t' := ⟨fun pins s σ H Q I w => h.run pins s σ H Q I (q σ H Q w)⟩
theorem pw_weak {t t' : TT} (h : PW X e t) (q : ∀ σ H Q, t' σ H Q → t σ H Q) : PW X e t' := ⟨fun wh pins s σ H Q I w => h.run wh pins s σ H Q I (q σ H Q w)⟩
theorem pa_weak {t t' : TA} (h : PA X es t) (q : ∀ σ H Q, t' σ H Q → t σ H Q) : PA X es t' := ⟨fun pos pins s σ H Q I w => h.run pos pins s σ H Q I (q σ H Q w)⟩
theorem ps_weak {t t' : TS} (h : PS X st t) (q : ∀ E σ H, t' E σ H → t E σ H) : PS X st t' := ⟨fun pins s σ H E I w => h.run pins s σ H E I (q E σ H w)⟩
theorem pss_weak {t t' : TS} (h : PSs X sts t) (q : ∀ E σ H, t' E σ H → t E σ H) : PSs X sts t' := ⟨fun pins s σ H E I w => h.run pins s σ H E I (q E σ H w)⟩
abbrev PEd (X : Cx) (e : Expr) (f : FE) : Prop := PE X e (TD X.K f)
abbrev PTd (X : Cx) (e : Expr) (f : FT) : Prop := PT X e (TDt X.K f)
abbrev PWd (X : Cx) (e : Expr) (f : FT) : Prop := PW X e (TDt X.K f)
abbrev PAd (X : Cx) (es : List Expr) (f : FA) : Prop := PA X es (TDa X.K f)
abbrev PSd (X : Cx) (st : Stmt) (f : FS) : Prop := PS X st (TDs X.K f)
abbrev PSsd (X : Cx) (sts : List Stmt) (f : FS) : Prop := PSs X sts (TDs X.K f)
end
def fVar (i : Nat) : FE := fun env S => match env[i]? with
  | some (some d) => .ok d S
  | _ => .bad
def fC (d : D) : FE := fun _ S => .ok d S
def fNil : FA := fun _ S => .ok [] S
def fCons (f : FE) (g : FA) : FA := fun env S => (f env S).bind fun d S1 => (g env S1).bind fun ds S2 => .ok (d :: ds) S2
def onVals (k : List P → Sto → Oc D) (ds : List D) (S : Sto) : Oc D := match vals ds with
  | some ps => if ps.length ≤ 100000 then k ps S else .bad
  | none => .bad
theorem onVals_of {k : List P → Sto → Oc D} {ds : List D} {S S' : Sto} {d : D} (h : onVals k ds S = .ok d S') : ∃ ps, vals ds = some ps ∧ ps.length ≤ 100000 ∧ k ps S = .ok d S' := by
  unfold onVals at h
  split at h
  · rename_i ps e
    split at h
    · rename_i hl
      exact ⟨ps, e, hl, h⟩
    · cases h
  · cases h
def fTup (g : FA) : FE := fun env S => (g env S).bind (onVals fun ps S1 => .ok (.v (.tup ps)) S1)
def fLst (g : FA) : FE := fun env S => (g env S).bind (onVals fun ps S1 => .ok (.v (.lst ps)) S1)
def fLstB (g : FA) : FE := fun env S => (g env S).bind (onVals fun ps S1 => .ok (.r S1.length) (S1 ++ [.lst ps]))
theorem size_of {n : Nat} (h : n ≤ 100000) : n ≤ sizeLine := Nat.le_trans h (by decide)
theorem size_lt {n : Nat} (h : n < 100000) : n < sizeLine := Nat.lt_of_lt_of_le h (by decide)
section
variable {X : Cx} {e : Expr} {es : List Expr} {pos : Pos} {f : FE} {g : FA}
theorem d_var {i : Nat} (h : PE X e (tVar i)) : PEd X e (fVar i) := pe_weak h fun σ H Q ⟨m, env, S, R, E, d, S', e1, q⟩ => by
  unfold fVar at e1
  split at e1
  · rename_i d' h1
    cases e1
    obtain ⟨v, h2, h3⟩ := E.get _ _ h1
    exact ⟨v, h2, q v m H (Stp.refl m H) R h3⟩
  · cases e1
theorem d_const {v : V} {p : P} (h : PE X e (tC v)) (hd : ∀ G, Is X.K G p v) : PEd X e (fC (.v p)) := pe_weak h fun σ H Q ⟨m, env, S, R, E, d', S', e1, q⟩ => by
  cases e1
  exact q v m H (Stp.refl m H) R (hd _)
theorem d_int {i j} : PEd X (.Constant (.int i) j pos) (fC (.v (.int i))) := d_const pe_int fun _ => rfl
theorem d_bl {b j} : PEd X (.Constant (.bool b) j pos) (fC (.v (.bl b))) := d_const pe_bl fun _ => rfl
theorem d_non {j} : PEd X (.Constant .none j pos) (fC (.v .non)) := d_const pe_non fun _ => rfl
theorem d_str {x j} : PEd X (.Constant (.str x) j pos) (fC (.v (.str x))) := d_const pe_str fun _ => rfl
theorem d_nil : PAd X [] fNil := pa_weak pa_nil fun σ H Q ⟨m, env, S, R, E, d', S', e1, q⟩ => by
  cases e1
  exact q [] m H (Stp.refl m H) R rfl
theorem d_cons (he : PEd X e f) (hr : PAd X es g) (hs : starEach (e :: es) X.env = (false, eval e X.env) :: starEach es X.env := by rfl) : PAd X (e :: es) (fCons f g) := pa_weak (pa_cons he hr hs) fun σ H Q ⟨m, env, S, R, E, d', S', e1, q⟩ => by
  obtain ⟨d, S1, k1, e2⟩ := Oc.bind_eq e1
  obtain ⟨ds, S2, k2, e3⟩ := Oc.bind_eq e2
  cases e3
  exact ⟨m, env, S, R, E, d, S1, k1, fun v m1 H1 st1 R1 i1 => ⟨m1, env, S1, R1, E.step st1, ds, _, k2, fun vs m2 H2 st2 R2 i2 =>
    q (v :: vs) m2 H2 (st1.trans st2) R2 ⟨v, vs, rfl, st2.is i1, i2⟩⟩⟩
theorem disp {K : PySem.W.Frag} {g : FA} {k : List P → Sto → Oc D} {σ : L2.St} {H : Hp} {m : Mp} {env : Dnv} {S S' : Sto} {d : D} {Q : List V → Hp → Prop} (R : Rel K m H S) (E : EnvIs K m (mask m H) σ env)
    (e : ((g env S).bind (onVals k)) = .ok d S')
    (q : ∀ ps S1 vs m1 H1, k ps S1 = .ok d S' → ps.length ≤ 100000 → Stp m H m1 H1 → Rel K m1 H1 S1 → IsAll K (mask m1 H1) ps vs → Q vs H1) : TDa K g σ H Q := by
  obtain ⟨ds, S1, k1, e2⟩ := Oc.bind_eq e
  obtain ⟨ps, hv, hl, e3⟩ := onVals_of e2
  exact ⟨m, env, S, R, E, ds, S1, k1, fun vs m1 H1 st1 R1 i1 => q ps S1 vs m1 H1 e3 hl st1 R1 (vals_is hv i1)⟩
theorem d_tup {k} (h : PAd X es g) : PEd X (.Tuple es k pos) (fTup g) := pe_weak (pe_tup h) fun σ H Q ⟨m, env, S, R, E, d', S', e1, q⟩ =>
  disp R E e1 fun ps S1 vs m1 H1 ek hl st1 R1 i1 => by
    cases ek
    refine ⟨size_of (by rw [← i1.len]; exact hl), fun p hp => ?_⟩
    obtain ⟨R2, st2⟩ := R1.fresh (o := .tup vs) hp
    refine q (.ref p) m1 _ (st1.trans st2) R2 ⟨p, vs, rfl, .inl (.inl ?_), st2.all i1⟩
    rw [mask_upd (R1.out hp)]
    exact upd_same
theorem d_lst (h : PAd X es g) : PEd X (.List es pos) (fLst g) := pe_weak (pe_lst h) fun σ H Q ⟨m, env, S, R, E, d', S', e1, q⟩ =>
  disp R E e1 fun ps S1 vs m1 H1 ek hl st1 R1 i1 => by
    cases ek
    refine ⟨size_of (by rw [← i1.len]; exact hl), fun p hp => ?_⟩
    obtain ⟨R2, st2⟩ := R1.fresh (o := .lst vs) hp
    refine q (.ref p) m1 _ (st1.trans st2) R2 ⟨p, vs, rfl, ?_, st2.all i1⟩
    rw [mask_upd (R1.out hp)]
    exact upd_same
theorem d_lstB (h : PAd X es g) : PEd X (.List es pos) (fLstB g) := pe_weak (pe_lst h) fun σ H Q ⟨m, env, S, R, E, d', S', e1, q⟩ =>
  disp R E e1 fun ps S1 vs m1 H1 ek hl st1 R1 i1 => by
    cases ek
    refine ⟨size_of (by rw [← i1.len]; exact hl), fun p hp => ?_⟩
    obtain ⟨R2, st2⟩ := R1.alloc (o := .lst vs) (x := .lst ps) hp fun H' st e => ⟨vs, e, st.all i1⟩
    refine q (.ref p) _ _ (st1.trans st2) R2 ⟨p, rfl, ?_⟩
    show (_ ++ [p])[S1.length]? = some p
    rw [List.getElem?_append_right (by rw [R1.len]; exact Nat.le_refl _), R1.len, Nat.sub_self]
    rfl
end
end DL
namespace DL
open PySem PySem.Spec PyProof.Rows L2
mutual
def isB (K : PySem.W.Frag) : P → Value → Bool
  | .non, u => (match u with
    | .none => true
    | _ => false)
  | .bl b, u => (match u with
    | .bool c => b == c
    | _ => false)
  | .int i, u => (match u with
    | .int j _ => decide (i = j)
    | _ => false)
  | .str x, u => (match u with
    | .str y _ => decide (x = y)
    | _ => false)
  | .tup ps, u => (match u with
    | .ref a => (match K.lookup a with
      | some ⟨.type c, _, .seq its _, _⟩ => decide (c = "tuple") && (decide (its.size ≤ sizeLine) && isBs K ps its.toList)
      | _ => false)
    | _ => false)
  | _, _ => false
def isBs (K : PySem.W.Frag) : List P → List Value → Bool
  | [], us => (match us with
    | [] => true
    | _ => false)
  | p :: ps, us => (match us with
    | u :: us => isB K p u && isBs K ps us
    | [] => false)
end
abbrev CsT := (PySem.W.Frag → Value) × P
def valsT (K : PySem.W.Frag) (a : Addr) (kvs : List (Str × P)) : Bool := kvs.all fun q => match PySem.W.nsIn K a q.1 with
  | some (some u) => isB K q.2 u
  | _ => false
abbrev TabT := (PySem.W.Frag → Addr) × List (Str × P)
def excObjB (K : PySem.W.Frag) (C : Addr) : Bool := match K.lookup C with
  | some ⟨.type "type", _, .cls cd, sl⟩ => (match cd.mro, sl.toList with
    | .ref D :: bm, [_, _, _, _, some (.builtin n), _] => decide (D = C) && (decide (n = "ValueError.__new__") && (cd.hasDict && (!cd.hasDel && PySem.HandSPX.refsVE bm)))
    | _, _ => false)
  | _ => false
def isO (a : Option (Option Value)) (b : Value) : Bool := decide (a = some (some b))
abbrev baseGA : Value := .builtin "BaseException.__getattribute__"
def clsB (K : PySem.W.Frag) (C : Addr) : Bool := isO (PySem.W.findIn K (.ref C) "__getattribute__") baseGA && (decide (PySem.W.findIn K (.ref C) "__getattr__" = some none) && (decide (PySem.W.subIn K (.ref C) (.type "BaseException") = some true) &&
  (PySem.W.hasDictIn K C && (isO (PySem.W.findIn K (.ref C) "__class__") (.builtin "object.__class__") && (isO (PySem.W.specialIn K (.builtin "object.__class__") "__get__") (.builtin "getset_descriptor.__get__") && (decide (PySem.W.takesIn K (.builtin "object.__class__") = some true) &&
  (decide (PySem.W.mroIn K C (.type "object") = some true) && (decide (PySem.W.typeIn K (.ref C) = some (.type "type")) && PySem.W.keepIn K (.ref C)))))))))
def tyV' : Value := .type "type"
def baseB (K : PySem.W.Frag) (C : Addr) : Bool := isO (PySem.W.specialIn K (.ref C) "__getattribute__") (.builtin "type.__getattribute__") && (PySem.W.readsIn K C tyV' && (match PySem.W.findCls K (.ref C) tyV' "__init__" with
  | some (.val (.builtin n)) => decide (n = "ValueError.__init__")
  | _ => false))
def xcB (K : PySem.W.Frag) (x b : Str) (fs : List Str) : Bool := clsB K (He.ga K x) && (baseB K (He.ga K b) && (excObjB K (He.ga K x) && (isO (PySem.W.findIn K (.ref (He.ga K x)) "__setattr__") (.builtin "object.__setattr__") &&
  (isO (PySem.W.findIn K (.ref (He.ga K x)) "__init__") (.ref (He.ma K (He.ga K x) "__init__")) && (decide (PySem.W.typeIn K (.ref (He.ma K (He.ga K x) "__init__")) = some (.type "function")) && fs.all fun f => decide (PySem.W.findIn K (.ref (He.ga K x)) f = some none))))))
theorem and2 {a b : Bool} (h : (a && b) = true) : a = true ∧ b = true := Bool.and_eq_true_iff.mp h
def emB (K : PySem.W.Frag) (cv : Value) (cs : List (Str × Bool)) : Bool := cs.all fun q => decide (PySem.W.exmOne K (.ref (He.ga K q.1)) cv = some q.2) && decide (PySem.W.kitOne K (.ref (He.ga K q.1)) cv = some q.2)
abbrev XlT := Str × Str × List Str
abbrev ElT := (PySem.W.Frag → Value) × List (Str × Bool)
abbrev LmT := He.Defn × Str
def exB (cs : List CsT) (ts : List TabT) (xl : List XlT) (el : List ElT) (tf : List LmT) (K : PySem.W.Frag) : Bool := decide ((tf.map fun q => (He.cT K q.1).2).Nodup) && ((cs.all fun c => isB K c.2 (c.1 K)) && ((ts.all fun t => valsT K (t.1 K) t.2) && ((xl.all fun x => xcB K x.1 x.2.1 x.2.2) && el.all fun e => emB K (e.1 K) e.2)))
abbrev keysT (ts : List TabT) : List He.Tab := ts.map fun t => (t.1, t.2.map (·.1))
abbrev SaysF (fa : List He.Fa) (fn : List He.DefD) (cs : List CsT) (ts : List TabT) (xl : List XlT) (el : List ElT) (tf : List LmT) (w : World) (h : Heap) (K : PySem.W.Frag) : Prop := He.SaysX fa fn (keysT ts) (tf.map (·.1)) (exB cs ts xl el tf) w h K
def kF (n : Nat) (g : Addr → Option Obj) : PySem.W.Frag := He.frT g (He.asD g n ++ [cStatics])
def obsF (n : Nat) (fa : List He.Fa) (fn : List He.DefD) (cs : List CsT) (ts : List TabT) (xl : List XlT) (el : List ElT) (tf : List LmT) (g : Addr → Option Obj) : He.AlX :=
  (He.obsT fa fn (keysT ts) (kF n g), exB cs ts xl el tf (kF n g) && He.tabsB g (tf.map (·.1)) (kF n g))
theorem saysF_of {n : Nat} {fa : List He.Fa} {fn : List He.DefD} {cs : List CsT} {ts : List TabT} {xl : List XlT} {el : List ElT} {tf : List LmT} {w : World} {h : Heap} (e : obsF n fa fn cs ts xl el tf h.get? = He.valX fn (keysT ts) w) : SaysF fa fn cs ts xl el tf w h (kF n h.get?) := by
  obtain ⟨b1, b2⟩ := and2 (show (exB cs ts xl el tf (kF n h.get?) && He.tabsB h.get? (tf.map (·.1)) (kF n h.get?)) = true from congrArg (fun z : He.AlX => z.2) e)
  have look : ∀ p ∈ tf.map (·.1), PySem.W.codeHdIn (kF n h.get?) (He.cT (kF n h.get?) p).1 (He.cT (kF n h.get?) p).2 = true ∧ ∃ o, h.get? (He.cT (kF n h.get?) p).2 = some o ∧ He.emptyTab o = true := fun p hp => by
    obtain ⟨c1, c2⟩ := and2 (List.all_eq_true.mp b2 p hp)
    split at c2
    · rename_i o ho
      exact ⟨c1, o, ho, c2⟩
    · cases c2
  exact ⟨congrArg (fun z : He.AlX => z.1) e, b1, fun p hp => (look p hp).1, fun p hp => by
    obtain ⟨_, o, ho, z⟩ := look p hp
    exact He.frT_none ho z, fun p hp => by
    obtain ⟨_, o, ho, z⟩ := look p hp
    rw [ho, He.emptyTab_eq z]⟩
def hookF (n : Nat) (fa : List He.Fa) (fn : List He.DefD) (cs : List CsT) (ts : List TabT) (xl : List XlT) (el : List ElT) (tf : List LmT) : PySem.W.Hook where
  α := He.AlX
  obs := fun s => obsF n fa fn cs ts xl el tf s.heap.get?
  val := fun w => He.valX fn (keysT ts) w
  says := fun w h => ∃ K : PySem.W.Frag, K.In h ∧ SaysF fa fn cs ts xl el tf w h K
  of := fun _ _ e => ⟨_, He.frT_in, saysF_of e⟩
  keeps := fun _ _ _ ⟨K, hK, c⟩ k => ⟨K, PySem.W.Frag.In.keeps hK k, ⟨c.t, c.more, c.hd, c.out, fun p hp => k _ _ (c.empty p hp)⟩⟩
theorem obsF_eq {n : Nat} {fa : List He.Fa} {fn : List He.DefD} {cs : List CsT} {ts : List TabT} {xl : List XlT} {el : List ElT} {tf : List LmT} {g : Addr → Option Obj} {s : Shared} (h : ∀ a, g a = s.heap.get? a) : obsF n fa fn cs ts xl el tf g = (hookF n fa fn cs ts xl el tf).obs s := by
  obtain rfl : g = s.heap.get? := funext h
  rfl
def memb (s : Stmt) (i : Nat) : Stmt := match s with
  | .ClassDef _ _ _ b _ _ _ _ _ _ _ => b.getD i (.Pass ⟨0, 0, 0, 0⟩)
  | s => s
end DL
namespace K04
open PySem PySem.Spec PyProof.Rows L2 DL
def top (i : Nat) : Stmt := PySem.Challenge.pw_maybedone_k04_need_orders.main.body.getD i (.Pass ⟨0, 0, 0, 0⟩)
abbrev cs_MaybeError : List (Str × Bool) := [("UnknownStep", true)]
abbrev cs_ImpossibleMove : List (Str × Bool) := [("UnknownStep", false)]
abbrev cs_UnknownStep : List (Str × Bool) := [("UnknownStep", true)]
abbrev cs_InvalidPaper : List (Str × Bool) := [("UnknownStep", false)]
abbrev cs_NothingToUndo : List (Str × Bool) := [("UnknownStep", false)]
abbrev cs_InvalidPurchase : List (Str × Bool) := [("UnknownStep", false)]
abbrev cs_InvalidRow : List (Str × Bool) := [("UnknownStep", false)]
abbrev cs_InvalidText : List (Str × Bool) := [("UnknownStep", false)]
abbrev cs_TextError : List (Str × Bool) := [("UnknownStep", false)]
abbrev cs_WorkError : List (Str × Bool) := [("UnknownStep", true)]
abbrev cs_PaperError : List (Str × Bool) := [("UnknownStep", false)]
abbrev cs_ValueError : List (Str × Bool) := [("UnknownStep", true)]
abbrev ks_at : List Str := []
abbrev ks_word : List Str := []
abbrev ks_step : List Str := ["UnknownStep"]
abbrev ks_reason : List Str := []
abbrev ks_move : List Str := []
abbrev ks_field : List Str := []
abbrev ks_line : List Str := []
def hl : List LmT := [(("law", none), "law.<locals>.")]
abbrev s_rows_by_step : Stmt := top 13
abbrev s_require_steps : Stmt := top 14
abbrev s_need_order : Stmt := top 16
abbrev s__law_arrangements : Stmt := top 31
abbrev s__law_entry : Stmt := top 25
abbrev s__law_is_ordered : Stmt := top 32
abbrev s__law_expected : Stmt := top 33
abbrev s__law_fixed_works : Stmt := top 23
abbrev s__law_names : Stmt := top 24
abbrev s__law_class_flags : Stmt := top 26
abbrev s__law_outcome : Stmt := top 27
abbrev s__law_draw : Stmt := top 19
abbrev s__law_random_set : Stmt := top 29
abbrev s__law_random_abilities : Stmt := top 20
abbrev s__law_random_some : Stmt := top 21
abbrev s__law_random_work : Stmt := top 22
abbrev s__law_reader : Stmt := top 18
abbrev s__law_unknown : Stmt := top 28
abbrev s__law_wide_works : Stmt := top 30
abbrev s_law : Stmt := top 34
abbrev si_UnknownStep : Stmt := memb (top 6) 0
def hd : List He.DefD := [⟨("rows_by_step", none), "rows_by_step", "rows_by_step", defArgs s_rows_by_step, defBody s_rows_by_step, defScope s_rows_by_step, [], []⟩, ⟨("require_steps", none), "require_steps", "require_steps", defArgs s_require_steps, defBody s_require_steps, defScope s_require_steps, [], []⟩, ⟨("need_order", none), "need_order", "need_order", defArgs s_need_order, defBody s_need_order, defScope s_need_order, [], []⟩, ⟨("_law_arrangements", none), "_law_arrangements", "_law_arrangements", defArgs s__law_arrangements, defBody s__law_arrangements, defScope s__law_arrangements, [], []⟩, ⟨("_law_entry", none), "_law_entry", "_law_entry", defArgs s__law_entry, defBody s__law_entry, defScope s__law_entry, [], []⟩, ⟨("_law_is_ordered", none), "_law_is_ordered", "_law_is_ordered", defArgs s__law_is_ordered, defBody s__law_is_ordered, defScope s__law_is_ordered, [], []⟩, ⟨("_law_expected", none), "_law_expected", "_law_expected", defArgs s__law_expected, defBody s__law_expected, defScope s__law_expected, [], []⟩, ⟨("_law_fixed_works", none), "_law_fixed_works", "_law_fixed_works", defArgs s__law_fixed_works, defBody s__law_fixed_works, defScope s__law_fixed_works, [], []⟩, ⟨("_law_names", none), "_law_names", "_law_names", defArgs s__law_names, defBody s__law_names, defScope s__law_names, [], []⟩, ⟨("_law_class_flags", none), "_law_class_flags", "_law_class_flags", defArgs s__law_class_flags, defBody s__law_class_flags, defScope s__law_class_flags, [], []⟩, ⟨("_law_outcome", none), "_law_outcome", "_law_outcome", defArgs s__law_outcome, defBody s__law_outcome, defScope s__law_outcome, [], []⟩, ⟨("_law_draw", none), "_law_draw", "_law_draw", defArgs s__law_draw, defBody s__law_draw, defScope s__law_draw, [], []⟩, ⟨("_law_random_set", none), "_law_random_set", "_law_random_set", defArgs s__law_random_set, defBody s__law_random_set, defScope s__law_random_set, [], []⟩, ⟨("_law_random_abilities", none), "_law_random_abilities", "_law_random_abilities", defArgs s__law_random_abilities, defBody s__law_random_abilities, defScope s__law_random_abilities, [], []⟩, ⟨("_law_random_some", none), "_law_random_some", "_law_random_some", defArgs s__law_random_some, defBody s__law_random_some, defScope s__law_random_some, [], []⟩, ⟨("_law_random_work", none), "_law_random_work", "_law_random_work", defArgs s__law_random_work, defBody s__law_random_work, defScope s__law_random_work, [], []⟩, ⟨("_law_reader", none), "_law_reader", "_law_reader", defArgs s__law_reader, defBody s__law_reader, defScope s__law_reader, [], []⟩, ⟨("_law_unknown", none), "_law_unknown", "_law_unknown", defArgs s__law_unknown, defBody s__law_unknown, defScope s__law_unknown, [], []⟩, ⟨("_law_wide_works", none), "_law_wide_works", "_law_wide_works", defArgs s__law_wide_works, defBody s__law_wide_works, defScope s__law_wide_works, [], []⟩, ⟨("law", none), "law", "law", defArgs s_law, defBody s_law, defScope s_law, [], []⟩, ⟨("UnknownStep", some "__init__"), "__init__", "UnknownStep.__init__", defArgs si_UnknownStep, defBody si_UnknownStep, defScope si_UnknownStep, [], []⟩]
def hf : List He.Fa := [.glo "rows_by_step", .glo "require_steps", .glo "need_order", .glo "_law_arrangements", .glo "_law_entry", .glo "_law_is_ordered", .glo "_law_expected", .glo "_law_fixed_works", .glo "_law_names", .glo "_law_class_flags", .glo "_law_outcome", .glo "_law_draw", .glo "_law_random_set", .glo "_law_random_abilities", .glo "_law_random_some", .glo "_law_random_work", .glo "_law_reader", .glo "_law_unknown", .glo "_law_wide_works", .glo "law", .free "ValueError", .free "all", .free "int", .free "isinstance", .free "len", .free "list", .free "min", .free "range", .free "repr", .free "set", .free "sorted", .free "tuple", .glo "UnknownStep", .glo "MaybeError", .glo "ImpossibleMove", .glo "InvalidPaper", .glo "NothingToUndo", .glo "InvalidPurchase", .glo "InvalidRow", .glo "InvalidText", .glo "TextError", .glo "WorkError", .glo "PaperError"]
def ht : List TabT := []
def hc : List CsT := []
def hx : List XlT := [("UnknownStep", "WorkError", ["step"])]
def he : List ElT := [(fun K => .ref (He.ga K "MaybeError"), cs_MaybeError), (fun K => .ref (He.ga K "ImpossibleMove"), cs_ImpossibleMove), (fun K => .ref (He.ga K "UnknownStep"), cs_UnknownStep), (fun K => .ref (He.ga K "InvalidPaper"), cs_InvalidPaper), (fun K => .ref (He.ga K "NothingToUndo"), cs_NothingToUndo), (fun K => .ref (He.ga K "InvalidPurchase"), cs_InvalidPurchase), (fun K => .ref (He.ga K "InvalidRow"), cs_InvalidRow), (fun K => .ref (He.ga K "InvalidText"), cs_InvalidText), (fun K => .ref (He.ga K "TextError"), cs_TextError), (fun K => .ref (He.ga K "WorkError"), cs_WorkError), (fun K => .ref (He.ga K "PaperError"), cs_PaperError), (fun K => .type "ValueError", cs_ValueError)]
abbrev R : PySem.W.OpenRow := PySem.W.OpenLaw.row PySem.Challenge.rw_maybedone_k04_need_orders
abbrev hk : PySem.W.Hook := hookF 4 hf hd hc ht hx he hl
def ob (s : PySem.W.SharedT) : He.AlX := obsF 4 hf hd hc ht hx he hl (HandSHeadRun.getT s)
theorem ob_eq (s : PySem.W.SharedT) : ob s = hk.obs s.abs := obsF_eq (HandSHeadRun.getT_eq s)
def lo0 : List Str := ["__name__", "MaybeError", "PaperError", "WorkError", "TextError", "InvalidPaper", "UnknownStep", "ImpossibleMove", "InvalidPurchase", "NothingToUndo", "InvalidText", "InvalidRow", "rows_by_step", "require_steps", "need_order", "_law_reader", "_law_draw", "_law_random_abilities", "_law_random_some", "_law_random_work", "_law_fixed_works", "_law_names", "_law_entry", "_law_class_flags", "_law_outcome", "_law_unknown", "_law_random_set", "_law_wide_works", "_law_arrangements", "_law_is_ordered"]
def lo1 : List Str := ["_law_expected"]
abbrev lo : List Str := (lo0 ++ lo1)
theorem run (w : World) : HandSHeadRun.RunEq R (PySem.W.view R.prog [34]) hk ob 4000 lo w := by
  intro os
  kernel_rfl
end K04
namespace ZM
open PySem PySem.Spec PyProof.Rows L2
theorem mul_one (l : Addr) (items : Array Value) (n : Nat) (dd : Option Addr) (sl : Array (Option Value)) (u : Tok) (c1 : (items.isEmpty || (1 : Int) == 1) = true) :
    Meets (Builtin.«tuple.__mul__» ⟨[.ref l, .int 1 u], []⟩) (fun _ R s => s.heap.get? l = some { cls := .type "tuple", dict := dd, data := .seq items n, slots := sl } ∧ R (.ok (.ret (.ref l))) s) :=
  .of_wp fun prog w A R s h => by
    obtain ⟨hp, g, d, tk, os⟩ := s
    obtain ⟨hl, h⟩ := h
    have f1 := AutoSeq1.idx_int
    wp_walk using wpAny_loadPart' hl
    repeat (first
      | (refine wpAny_ite_true (decide_eq_true (by rw [c1])) ?_; wp_walk using wpAny_loadPart' hl)
      | (refine wpAny_ite_false (decide_eq_false (by decide)) ?_; wp_walk using wpAny_loadPart' hl))
    exact ⟨_, rfl, h⟩
def rOne (K : PySem.W.Frag) : R2 := fun x y H Q => ∃ l xs, x = .ref l ∧ y = .int 1 ∧ SqT K H l xs ∧ Q (.ref l) H
theorem op_one {X : Cx} : OpR X (binaryOp .Mult) (rOne X.K) := by
  intro pins s σ H x y v u Q I rx ry h
  obtain ⟨l, xs, rfl, rfl, hT, q⟩ := h
  cases rx
  obtain ⟨t, rfl⟩ := ry
  obtain ⟨its, r, ⟨⟨cls, dd, data, sl⟩, ho, hc, n, hd⟩, hs⟩ := I.tuple hT
  simp only at hc hd
  subst hc hd
  refine wpAny_binaryOp_repeat_ref (T := "tuple") (U := "int") (by decide) ⟨_, ho, rfl⟩ (fun s' => typeIs_int s' 1 t) noFill_tuple_mul F.fills_int_mul F.slot_int_rmul repeat_tuple F.slot_int_index.lookup
    (call_meets F.slot_int_rmul (typeIs_int s 1 t) F.entry_int_rmul (F.args_int_rmul_2 _ _) (int_rmul_tuple 1 t l its.toArray n dd sl)
      ⟨ho, rfl, ⟨_, ho, rfl⟩, call_meets F.slot_tuple_mul ⟨_, ho, rfl⟩ F.entry_tuple_mul (F.args_tuple_mul_2 _ _) (mul_one l its.toArray n dd sl t (by simp)) ⟨ho, ?_⟩⟩)
  exact ⟨.ref l, H, I, rfl, q⟩
theorem mul_zero (l : Addr) (items : Array Value) (n : Nat) (dd : Option Addr) (sl : Array (Option Value)) (u : Tok) (c1 : (items.isEmpty || (0 : Int) == 1) = false) (c2 : (decide ((0 : Int) ≤ 0) || items.isEmpty) = true) :
    Meets (Builtin.«tuple.__mul__» ⟨[.ref l, .int 0 u], []⟩) (fun _ R s => s.heap.get? l = some { cls := .type "tuple", dict := dd, data := .seq items n, slots := sl } ∧
      R (.ok (.ret (Value.ref s.heap.objs.size))) { s with heap := s.heap.push { cls := Value.type "tuple", data := Data.seq #[] }, toks := s.toks }) :=
  .of_wp fun prog w A R s h => by
    obtain ⟨hp, g, d, tk, os⟩ := s
    obtain ⟨hl, h⟩ := h
    have f1 := AutoSeq1.idx_int
    wp_walk using wpAny_loadPart' hl
    repeat (first
      | (refine wpAny_ite_false (decide_eq_false (by rw [c1]; exact Bool.false_ne_true)) ?_; wp_walk using wpAny_loadPart' hl)
      | (refine wpAny_ite_true (decide_eq_true (by rw [c2])) ?_; wp_walk using wpAny_loadPart' hl)
      | (refine wpAny_ite_false (decide_eq_false (by decide)) ?_; wp_walk using wpAny_loadPart' hl))
    exact ⟨_, rfl, h⟩
def rZero (K : PySem.W.Frag) : R2 := fun x y H Q => ∃ l xs, x = .ref l ∧ y = .int 0 ∧ SqT K H l xs ∧ xs ≠ [] ∧ ∀ p, H p = none → Q (.ref p) (upd H p (.tup []))
theorem op_zero {X : Cx} : OpR X (binaryOp .Mult) (rZero X.K) := by
  intro pins s σ H x y v u Q I rx ry h
  obtain ⟨l, xs, rfl, rfl, hT, hne, q⟩ := h
  cases rx
  obtain ⟨t, rfl⟩ := ry
  obtain ⟨its, r, ⟨⟨cls, dd, data, sl⟩, ho, hc, n, hd⟩, hs⟩ := I.tuple hT
  simp only at hc hd
  subst hc hd
  have hi : its.toArray.isEmpty = false := by
    cases its with
    | nil => cases r; exact absurd rfl hne
    | cons a b => rfl
  refine wpAny_binaryOp_repeat_ref (T := "tuple") (U := "int") (by decide) ⟨_, ho, rfl⟩ (fun s' => typeIs_int s' 0 t) noFill_tuple_mul F.fills_int_mul F.slot_int_rmul repeat_tuple F.slot_int_index.lookup
    (call_meets F.slot_int_rmul (typeIs_int s 0 t) F.entry_int_rmul (F.args_int_rmul_2 _ _) (int_rmul_tuple 0 t l its.toArray n dd sl)
      ⟨ho, rfl, ⟨_, ho, rfl⟩, call_meets F.slot_tuple_mul ⟨_, ho, rfl⟩ F.entry_tuple_mul (F.args_tuple_mul_2 _ _) (mul_zero l its.toArray n dd sl t (by rw [hi]; rfl) (by simp)) ⟨ho, ?_⟩⟩)
  refine ⟨.ref s.heap.objs.size, _, I.laid (t' := s.toks) (o := .tup []) (fun b ob q => Heap.get?_push_of_some _ q) (Nat.le_refl _) ?_, rfl, q _ (I.hok.fresh (Nat.le_refl _))⟩
  exact ⟨Nat.zero_le _, [], .nil, IsTup.new _ _⟩
end ZM
namespace DL
open PySem PySem.Spec PyProof.Rows L2
variable [Tb]
def IsR (K : PySem.W.Frag) (m : Mp) (H : Hp) : P → V → Prop
  | .lst ps, v => ∃ a xs, v = .ref a ∧ H a = some (.lst xs) ∧ IsAll K (mask m H) ps xs
  | .dic ks ps, v => ∃ a xs, v = .ref a ∧ H a = some (.dK (ks.zip xs)) ∧ ks.length = xs.length ∧ ks.Nodup ∧ IsAll K (mask m H) ps xs
  | .non, v => v = .non
  | .bl b, v => v = .bl b
  | .int i, v => v = .int i
  | .str x, v => v = .str x
  | .tup ds, v => ∃ a xs, v = .ref a ∧ SqT K (mask m H) a xs ∧ IsAll K (mask m H) ds xs
  | .frz ds, v => ∃ a xs, v = .ref a ∧ SqL K (mask m H) a xs ∧ IsAll K (mask m H) ds xs
  | .fn x, v => v = .ref (He.ga K x)
  | .dn ks ds, v => ∃ a as xs ns, v = .ref a ∧ H a = some (NDo a (hashNs Tb.hf ns) as xs) ∧ nkPs ks = some ns ∧ KeysOk ns ∧ xs.length = ks.length ∧ xs.length ≤ sizeLine ∧ IsAll K (mask m H) ks as ∧ IsAll K (mask m H) ds xs
  | .exn a d _ ns ds, v => ∃ xs, v = .ref a ∧ mask m H d = some (.xd (ns.zip xs)) ∧ ns.length = xs.length ∧ IsAll K (mask m H) ds xs
  | .adr a, v => v = .ref a
def Co.p : Co → P
  | .lst ps => .lst ps
  | .dic ks ps => .dic ks ps
  | .dn ks ps => .dn ks ps
def coAt (k : Nat) : List Fv → Option Co
  | [] => none
  | .p _ :: fs => coAt k fs
  | .c j o :: fs => if j = k then some o else coAt k fs
def deP (S : Sto) : D → Option P
  | .v p => some p
  | .r n => match S[n]? with
    | some (.lst ps) => some (.lst ps)
    | some (.dic ks ps) => some (.dic ks ps)
    | some (.dn ks ps) => some (.dn ks ps)
    | some (.dl _ _) => none
    | some (.ins _ _ _ _) => none
    | none => none
  | .o n k => match S[n]? with
    | some (.ins _ _ _ fs) => (coAt k fs).map Co.p
    | some (.dl _ cs) => cs[k]?.map P.lst
    | _ => none
  | .t _ => none
@[simp] theorem deP_v (S : Sto) (p : P) : deP S (.v p) = some p := rfl
section
variable {K : PySem.W.Frag} {m : Mp} {H : Hp} {S : Sto}
theorem isR_val {p : P} {v : V} (h : Is K (mask m H) p v) : IsR K m H p v := by
  cases p with
  | lst ps =>
    obtain ⟨a, xs, h1, h2, h3⟩ := h
    exact ⟨a, xs, h1, (mask_some h2).2, h3⟩
  | dic ks ps =>
    obtain ⟨a, xs, h1, h2, h4, h5, h3⟩ := h
    exact ⟨a, xs, h1, (mask_some h2).2, h4, h5, h3⟩
  | dn ks ps =>
    obtain ⟨a, as, xs, ns, h1, h2, h3⟩ := h
    exact ⟨a, as, xs, ns, h1, (mask_some h2).2, h3⟩
  | _ => exact h
theorem coAt_is {a : Addr} {k : Nat} {o : Co} : ∀ {fs : List Fv} {vs : List V}, FvAll K m H a fs vs → coAt k fs = some o → ∃ b, (a, k, b) ∈ m.c.o ∧ CoIs K m H b o
  | [], _, _, h => by cases h
  | .p _ :: fs, _, ⟨v, vs, h1, h2, h3⟩, h => coAt_is h3 h
  | .c j u :: fs, _, ⟨v, vs, h1, h2, h3⟩, h => by
    unfold coAt at h
    split at h
    · rename_i e
      subst e
      cases h
      obtain ⟨b, q1, q2, q3⟩ := h2
      exact ⟨b, q2, q3⟩
    · exact coAt_is h3 h
theorem CoIs.r {b : Addr} {o : Co} (h : CoIs K m H b o) : IsR K m H o.p (.ref b) := by
  cases o with
  | lst ps =>
    obtain ⟨xs, q1, q2⟩ := h
    exact ⟨b, xs, rfl, q1, q2⟩
  | dic ks ps =>
    obtain ⟨xs, q1, q2⟩ := h
    exact ⟨b, xs, rfl, q1, q2⟩
  | dn ks ps =>
    obtain ⟨as, xs, ns, q1, q2⟩ := h
    exact ⟨b, as, xs, ns, rfl, q1, q2⟩
theorem isR_of {d : D} {p : P} {v : V} (R : Rel K m H S) (h : IsD K m (mask m H) d v) (e : deP S d = some p) : IsR K m H p v := by
  cases d with
  | v q =>
    cases e
    exact isR_val h
  | r n =>
    obtain ⟨a, h1, h2⟩ := h
    unfold deP at e
    cases hS : S[n]? with
    | none => simp [hS] at e
    | some o =>
      have q := R.ob n a o h2 hS
      cases o with
      | lst ps =>
        simp [hS] at e
        subst e
        obtain ⟨xs, q1, q2⟩ := q
        exact ⟨a, xs, h1, q1, q2⟩
      | dic ks ps =>
        simp [hS] at e
        subst e
        obtain ⟨xs, q1, q2, q3, q4⟩ := q
        exact ⟨a, xs, h1, q1, q2, q3, q4⟩
      | dn ks ps =>
        simp [hS] at e
        subst e
        obtain ⟨as, xs, ns, q⟩ := q
        exact ⟨a, as, xs, ns, h1, q⟩
      | dl ks cs => simp [hS] at e
      | ins c nv ns fs => simp [hS] at e
  | o n k =>
    obtain ⟨a, b, h1, h2, h3⟩ := h
    unfold deP at e
    cases hS : S[n]? with
    | none => simp [hS] at e
    | some o =>
      have q := R.ob n a o h2 hS
      cases o with
      | ins c nv ns fs =>
        simp [hS] at e
        obtain ⟨co, e1, e2⟩ := e
        obtain ⟨dx, xs, q1, q2, q3, q4⟩ := q
        obtain ⟨b2, p1, p2⟩ := coAt_is q4 e1
        have := R.fnc _ h3 _ p1 rfl rfl
        cases this
        subst h1
        subst e2
        exact p2.r
      | lst ps => simp [hS] at e
      | dic ks ps => simp [hS] at e
      | dn ks ps => simp [hS] at e
      | dl ks cs =>
        simp only [hS] at e
        obtain ⟨ps, e1, e2⟩ := Option.map_eq_some_iff.mp e
        obtain ⟨as, bs, ns, q1, q2, q3, q4, q5, q6, q7, q8, q9⟩ := q
        have hk := q8 k b h3
        have hb : k < bs.length := by rw [q4, ← q7]; exact hk
        obtain ⟨p1, p2⟩ := q9 k bs[k] ps (List.getElem?_eq_getElem hb) e1
        have := R.fnc _ h3 _ p1 rfl rfl
        cases this
        subst h1
        subst e2
        exact p2.r
  | t ds => cases e
theorem IsR.is {p : P} {v : V} (h : IsR K m H p v) : Is K H p v := by
  cases p with
  | lst ps =>
    obtain ⟨a, xs, h1, h2, h3⟩ := h
    exact ⟨a, xs, h1, h2, IsAll.mono (mask_ex m H) _ _ h3⟩
  | dic ks ps =>
    obtain ⟨a, xs, h1, h2, h4, h5, h3⟩ := h
    exact ⟨a, xs, h1, h2, h4, h5, IsAll.mono (mask_ex m H) _ _ h3⟩
  | tup ps =>
    obtain ⟨a, xs, h1, h2, h3⟩ := h
    exact ⟨a, xs, h1, sqT_mono (mask_ex m H) h2, IsAll.mono (mask_ex m H) _ _ h3⟩
  | frz ps =>
    obtain ⟨a, xs, h1, h2, h3⟩ := h
    exact ⟨a, xs, h1, sqL_mono (mask_ex m H) h2, IsAll.mono (mask_ex m H) _ _ h3⟩
  | non => exact h
  | bl b => exact h
  | int i => exact h
  | str x => exact h
  | fn x => exact h
  | dn ks ps =>
    obtain ⟨a, as, xs, ns, h1, h2, h3, h4, h5, h6, h7, h8⟩ := h
    exact ⟨a, as, xs, ns, h1, h2, h3, h4, h5, h6, IsAll.mono (mask_ex m H) _ _ h7, IsAll.mono (mask_ex m H) _ _ h8⟩
  | exn a d c ns ps =>
    obtain ⟨xs, h1, h2, h3, h4⟩ := h
    exact ⟨xs, h1, (mask_some h2).2, h3, IsAll.mono (mask_ex m H) _ _ h4⟩
  | adr a => exact h
end
section
variable {K : PySem.W.Frag} {m : Mp} {H : Hp} {S : Sto} {ps : List P} {xs : List V} {Q : VK}
theorem newTup (R : Rel K m H S) (i : IsAll K (mask m H) ps xs) (q : ∀ v m' H', Stp m H m' H' → Rel K m' H' S → Is K (mask m' H') (.tup ps) v → Q v H') : ∀ p, H p = none → Q (.ref p) (upd H p (.tup xs)) := fun p hp => by
  obtain ⟨R2, st2⟩ := R.fresh (o := .tup xs) hp
  refine q (.ref p) m _ st2 R2 ⟨p, xs, rfl, .inl (.inl ?_), st2.all i⟩
  rw [mask_upd (R.out hp)]
  exact upd_same
theorem newLst (R : Rel K m H S) (i : IsAll K (mask m H) ps xs) (q : ∀ v m' H', Stp m H m' H' → Rel K m' H' S → Is K (mask m' H') (.lst ps) v → Q v H') : ∀ p, H p = none → Q (.ref p) (upd H p (.lst xs)) := fun p hp => by
  obtain ⟨R2, st2⟩ := R.fresh (o := .lst xs) hp
  refine q (.ref p) m _ st2 R2 ⟨p, xs, rfl, ?_, st2.all i⟩
  rw [mask_upd (R.out hp)]
  exact upd_same
theorem boxLst (R : Rel K m H S) (i : IsAll K (mask m H) ps xs) (q : ∀ v m' H', Stp m H m' H' → Rel K m' H' (S ++ [.lst ps]) → IsD K m' (mask m' H') (.r S.length) v → Q v H') : ∀ p, H p = none → Q (.ref p) (upd H p (.lst xs)) := fun p hp => by
  obtain ⟨R2, st2⟩ := R.alloc (o := .lst xs) (x := .lst ps) hp fun H' st e => ⟨xs, e, st.all i⟩
  refine q (.ref p) _ _ st2 R2 ⟨p, rfl, ?_⟩
  show (_ ++ [p])[S.length]? = some p
  rw [List.getElem?_append_right (by rw [R.len]; exact Nat.le_refl _), R.len, Nat.sub_self]
  rfl
end
mutual
def toPy : P → Option PyData
  | .non => some .none
  | .bl b => some (.bool b)
  | .int i => some (.int i)
  | .str x => some (.str x)
  | .tup ps => (toPys ps).map .tuple
  | .lst ps => (toPys ps).map .list
  | .frz ps => (toPys ps).map .list
  | .dic _ _ => none
  | .fn _ => none
  | .dn _ _ => none
  | .exn _ _ _ _ _ => none
  | .adr _ => none
def toPys : List P → Option (List PyData)
  | [] => some []
  | p :: ps => match toPy p, toPys ps with
    | some d, some ds => some (d :: ds)
    | _, _ => none
end
section
variable {K : PySem.W.Frag} {H : Hp}
mutual
theorem Is.dp : ∀ (p : P) (v : V) (d : PyData), Is K H p v → toPy p = some d → Dp K H v d
  | .non, _, _, h, e => by cases e; cases h; exact .non
  | .bl b, _, _, h, e => by cases e; cases h; exact .bl b
  | .int i, _, _, h, e => by cases e; cases h; exact .int i
  | .str x, _, _, h, e => by cases e; cases h; exact .str x
  | .tup ps, _, _, ⟨a, xs, h1, h2, h3⟩, e => by
    subst h1
    unfold toPy at e
    cases hp : toPys ps with
    | none => rw [hp] at e; cases e
    | some ds => rw [hp] at e; cases e; exact .tup h2 (IsAll.dp ps xs ds h3 hp)
  | .lst ps, _, _, ⟨a, xs, h1, h2, h3⟩, e => by
    subst h1
    unfold toPy at e
    cases hp : toPys ps with
    | none => rw [hp] at e; cases e
    | some ds => rw [hp] at e; cases e; exact .lst (.of h2) (IsAll.dp ps xs ds h3 hp)
  | .frz ps, _, _, ⟨a, xs, h1, h2, h3⟩, e => by
    subst h1
    unfold toPy at e
    cases hp : toPys ps with
    | none => rw [hp] at e; cases e
    | some ds => rw [hp] at e; cases e; exact .lst h2 (IsAll.dp ps xs ds h3 hp)
  | .dic _ _, _, _, _, e => by cases e
  | .fn _, _, _, _, e => by cases e
  | .dn _ _, _, _, _, e => by cases e
  | .exn _ _ _ _ _, _, _, _, e => by cases e
  | .adr _, _, _, _, e => by cases e
theorem IsAll.dp : ∀ (ps : List P) (vs : List V) (ds : List PyData), IsAll K H ps vs → toPys ps = some ds → DpAll K H vs ds
  | [], _, _, h, e => by cases e; cases h; exact .nil
  | p :: ps, _, _, ⟨v, vs, h1, h2, h3⟩, e => by
    subst h1
    unfold toPys at e
    split at e
    · rename_i d ds hd hds
      cases e
      exact .cons (Is.dp p v d h2 hd) (IsAll.dp ps vs ds h3 hds)
    · cases e
end
end
def oP : Option P → Sto → Oc D
  | some q, S => .ok (.v q) S
  | none, _ => .bad
@[simp] theorem oP_some (q : P) (S : Sto) : oP (some q) S = .ok (.v q) S := rfl
@[simp] theorem oP_none (S : Sto) : oP none S = .bad := rfl
def lift1 (op : P → Option P) (d : D) (S : Sto) : Oc D := match deP S d with
  | some p => oP (op p) S
  | none => .bad
def lift2 (op : P → P → Option P) (d e : D) (S : Sto) : Oc D := match deP S d with
  | some p => match deP S e with
    | some q => oP (op p q) S
    | none => .bad
  | none => .bad
@[simp] theorem lift1_v (op : P → Option P) (p : P) (S : Sto) : lift1 op (.v p) S = oP (op p) S := rfl
@[simp] theorem lift2_v (op : P → P → Option P) (p q : P) (S : Sto) : lift2 op (.v p) (.v q) S = oP (op p q) S := rfl
def f1 (op : P → Option P) (f : FE) : FE := fun env S => (f env S).bind fun d S1 => lift1 op d S1
def f2 (op : P → P → Option P) (f g : FE) : FE := fun env S => (f env S).bind fun d S1 => (g env S1).bind fun e S2 => lift2 op d e S2
abbrev Kont (K : PySem.W.Frag) (m : Mp) (H : Hp) (S : Sto) (u : P) (Q : VK) : Prop := ∀ v m' H', Stp m H m' H' → Rel K m' H' S → Is K (mask m' H') u v → Q v H'
def Op1 (K : PySem.W.Frag) (r : V → Hp → VK → Prop) (op : P → Option P) : Prop :=
  ∀ m H S p u x Q, Rel K m H S → IsR K m H p x → op p = some u → Kont K m H S u Q → r x H Q
def Op2 (K : PySem.W.Frag) (r : R2) (op : P → P → Option P) : Prop :=
  ∀ m H S p q u x y Q, Rel K m H S → IsR K m H p x → IsR K m H q y → op p q = some u → Kont K m H S u Q → r x y H Q
theorem lift1_of {op : P → Option P} {d d' : D} {S S' : Sto} (h : lift1 op d S = .ok d' S') : ∃ p u, deP S d = some p ∧ op p = some u ∧ d' = .v u ∧ S' = S := by
  unfold lift1 at h
  cases e : deP S d with
  | none => rw [e] at h; cases h
  | some p =>
    rw [e] at h
    cases e2 : op p with
    | none => simp [e2] at h
    | some u => simp [e2] at h; exact ⟨p, u, rfl, e2, h.1.symm, h.2.symm⟩
theorem lift2_of {op : P → P → Option P} {d e d' : D} {S S' : Sto} (h : lift2 op d e S = .ok d' S') : ∃ p q u, deP S d = some p ∧ deP S e = some q ∧ op p q = some u ∧ d' = .v u ∧ S' = S := by
  unfold lift2 at h
  cases e1 : deP S d with
  | none => rw [e1] at h; cases h
  | some p =>
    rw [e1] at h
    cases e2 : deP S e with
    | none => rw [e2] at h; cases h
    | some q =>
      rw [e2] at h
      cases e3 : op p q with
      | none => simp [e3] at h
      | some u => simp [e3] at h; exact ⟨p, q, u, rfl, rfl, e3, h.1.symm, h.2.symm⟩
section
variable {K : PySem.W.Frag} {f g : FE} {σ : L2.St} {H : Hp} {Q : VK}
theorem td_op {r : R2} {op : P → P → Option P} (ho : Op2 K r op) (h : TD K (f2 op f g) σ H Q) : tOp r (TD K f) (TD K g) σ H Q := by
  obtain ⟨m, env, S, R, E, d', S', e1, q⟩ := h
  obtain ⟨d, S1, k1, e2⟩ := Oc.bind_eq e1
  obtain ⟨e, S2, k2, e3⟩ := Oc.bind_eq e2
  obtain ⟨p, p2, u, h1, h2, h3, rfl, rfl⟩ := lift2_of e3
  exact ⟨m, env, S, R, E, d, S1, k1, fun v m1 H1 st1 R1 i1 => ⟨m1, env, S1, R1, E.step st1, e, _, k2, fun w m2 H2 st2 R2 i2 =>
    ho m2 H2 _ p p2 u v w Q R2 (isR_of R2 (st2.is i1) h1) (isR_of R2 i2 h2) h3 fun x m3 H3 st3 R3 i3 => q x m3 H3 ((st1.trans st2).trans st3) R3 i3⟩⟩
theorem td_un {r : V → Hp → VK → Prop} {op : P → Option P} (ho : Op1 K r op) (h : TD K (f1 op f) σ H Q) : (TD K f) σ H fun x H1 => r x H1 Q := by
  obtain ⟨m, env, S, R, E, d', S', e1, q⟩ := h
  obtain ⟨d, S1, k1, e2⟩ := Oc.bind_eq e1
  obtain ⟨p, u, h1, h3, rfl, rfl⟩ := lift1_of e2
  exact ⟨m, env, S, R, E, d, _, k1, fun v m1 H1 st1 R1 i1 => ho m1 H1 _ p u v Q R1 (isR_of R1 i1 h1) h3 fun x m3 H3 st3 R3 i3 => q x m3 H3 (st1.trans st3) R3 i3⟩
end
theorem opr_or {X : Cx} {f : Value → Value → Sem Value} {r r' : R2} (h : OpR X f r) (h' : OpR X f r') : OpR X f (fun x y H Q => r x y H Q ∨ r' x y H Q) := by
  intro pins s σ H x y v u Q I rx ry q
  rcases q with q | q
  · exact h pins s σ H x y v u Q I rx ry q
  · exact h' pins s σ H x y v u Q I rx ry q
def pAdd : P → P → Option P
  | .int i, .int j => some (.int (i + j))
  | .str x, .str y => if x.length + y.length ≤ 100000 then some (.str (x ++ y)) else none
  | .tup a, .tup b => if a.length + b.length ≤ 100000 then some (.tup (a ++ b)) else none
  | .lst a, .lst b => if a.length + b.length ≤ 100000 then some (.lst (a ++ b)) else none
  | _, _ => none
def pSub : P → P → Option P
  | .int i, .int j => some (.int (i - j))
  | _, _ => none
def pMul : P → P → Option P
  | .int i, .int j => if -(2 ^ 64) < j ∧ j < 2 ^ 64 then some (.int (i * j)) else if -(2 ^ 64) < i ∧ i < 2 ^ 64 then some (.int (i * j)) else none
  | .lst a, .int k => if 0 ≤ k ∧ k ≤ 1000 ∧ a.length ≤ 100 then some (.lst (List.replicate k.toNat a).flatten) else none
  | .tup a, .int k => if a.length ≤ 1000 ∧ a ≠ [] ∧ 2 ≤ k ∧ k ≤ 1000 then some (.tup (List.replicate k.toNat a).flatten) else if k = 1 then some (.tup a) else if k = 0 ∧ a ≠ [] then some (.tup []) else none
  | _, _ => none
def pFdiv : P → P → Option P
  | .int i, .int j => if 0 < j ∧ j < 1073741824 then some (.int (i / j)) else none
  | _, _ => none
def pMod : P → P → Option P
  | .int i, .int j => if 0 < j then some (.int (i % j)) else none
  | _, _ => none
def pPow : P → P → Option P
  | .int i, .int j => if 0 ≤ j ∧ j ≤ 1000000 ∧ i.natAbs < 2 ^ 64 then some (.int (i ^ j.toNat)) else none
  | _, _ => none
def pNeg : P → Option P
  | .int i => some (.int (-i))
  | _ => none
theorem Kont.here {K : PySem.W.Frag} {m : Mp} {H : Hp} {S : Sto} {u : P} {Q : VK} {v : V} (k : Kont K m H S u Q) (R : Rel K m H S) (h : Is K (mask m H) u v) : Q v H := k v m H (Stp.refl m H) R h
section
variable {K : PySem.W.Frag}
theorem op2_int {C : Int → Int → Prop} {g : Int → Int → Int} {op : P → P → Option P} (h : ∀ p q u, op p q = some u → ∃ i j, p = .int i ∧ q = .int j ∧ C i j ∧ u = .int (g i j)) : Op2 K (rI C fun i j => .int (g i j)) op := by
  intro m H S p q u x y Q R hx hy e k
  obtain ⟨i, j, rfl, rfl, hc, rfl⟩ := h p q u e
  exact ⟨i, j, hx, hy, hc, k.here R rfl⟩
theorem op2_int0 {g : Int → Int → Int} {op : P → P → Option P} (h : ∀ p q u, op p q = some u → ∃ i j, p = .int i ∧ q = .int j ∧ u = .int (g i j)) : Op2 K (rI0 fun i j => .int (g i j)) op := by
  intro m H S p q u x y Q R hx hy e k
  obtain ⟨i, j, rfl, rfl, rfl⟩ := h p q u e
  exact ⟨i, j, hx, hy, k.here R rfl⟩
end
section
variable {X : Cx} {a b : Expr} {f g : FE} {pos : Pos}
abbrev rAddAll (K : PySem.W.Frag) : R2 := fun x y H Q => ((rI0 fun i j => .int (i + j)) x y H Q ∨ (∃ i j, x = .str i ∧ y = .str j ∧ i.length + j.length ≤ sizeLine ∧ Q (.str (i ++ j)) H)) ∨ (rCatA K x y H Q ∨ rCat x y H Q)
theorem opr_add : OpR X (binaryOp .Add) (rAddAll X.K) := opr_or (opr_or op_add op_add_str) (opr_or op_catA op_cat)
theorem op2_add {K : PySem.W.Frag} : Op2 K (rAddAll K) pAdd := by
  intro m H S p q u x y Q R hx hy e k
  unfold pAdd at e
  split at e
  · cases e
    exact .inl (.inl ⟨_, _, hx, hy, k.here R rfl⟩)
  · split at e
    · rename_i hl
      cases e
      exact .inl (.inr ⟨_, _, hx, hy, size_of hl, k.here R rfl⟩)
    · cases e
  · rename_i A B
    split at e
    · rename_i hl
      cases e
      obtain ⟨a, xs, rfl, hsx, hax⟩ := hx
      obtain ⟨b, ys, rfl, hsy, hay⟩ := hy
      refine .inr (.inl ⟨a, b, xs, ys, rfl, rfl, sqT_mono (mask_ex m H) hsx, sqT_mono (mask_ex m H) hsy, ?_, ?_, ?_, ?_⟩)
      · rw [← hax.len, ← hay.len]; exact size_of hl
      · intro hz
        subst hz
        have : A = [] := by have := hax.len; simpa using this
        subst this
        exact k.here R ⟨b, ys, rfl, hsy, hay⟩
      · intro _ hz
        subst hz
        have : B = [] := by have := hay.len; simpa using this
        subst this
        rw [List.append_nil] at k
        exact k.here R ⟨a, xs, rfl, hsx, hax⟩
      · exact fun _ _ => newTup R (hax.append hay) k
    · cases e
  · split at e
    · rename_i hl
      cases e
      obtain ⟨a, xs, rfl, hsx, hax⟩ := hx
      obtain ⟨b, ys, rfl, hsy, hay⟩ := hy
      exact .inr (.inr ⟨a, b, xs, ys, rfl, rfl, hsx, hsy, by rw [← hax.len, ← hay.len]; exact size_of hl, newLst R (hax.append hay) k⟩)
    · cases e
  · cases e
theorem d_add (ha : PEd X a f) (hb : PEd X b g) : PEd X (.BinOp a .Add b pos) (f2 pAdd f g) := pe_weak (pe_op opr_add ha hb) fun _ _ _ => td_op op2_add
theorem d_sub (ha : PEd X a f) (hb : PEd X b g) : PEd X (.BinOp a .Sub b pos) (f2 pSub f g) := pe_weak (pe_op op_sub ha hb) fun _ _ _ => td_op (op2_int0 (g := fun i j => i - j) fun p q u e => by
  unfold pSub at e
  split at e
  · cases e; exact ⟨_, _, rfl, rfl, rfl⟩
  · cases e)
abbrev rMulAll (K : PySem.W.Frag) : R2 := fun x y H Q => (rI CMul fun i j => .int (i * j)) x y H Q ∨ (rRep x y H Q ∨ (rRepT K x y H Q ∨ (ZM.rOne K x y H Q ∨ ZM.rZero K x y H Q)))
theorem all_flat {K : PySem.W.Frag} {G : Hp} {ps : List P} {xs : List V} (h : IsAll K G ps xs) : ∀ n : Nat, IsAll K G (List.replicate n ps).flatten (List.replicate n xs).flatten
  | 0 => rfl
  | n + 1 => by
    rw [List.replicate_succ, List.replicate_succ, List.flatten_cons, List.flatten_cons]
    exact h.append (all_flat h n)
theorem op2_mul {K : PySem.W.Frag} : Op2 K (rMulAll K) pMul := by
  intro m H S p q u x y Q R hx hy e k
  unfold pMul at e
  split at e
  · split at e
    · rename_i hc
      cases e
      exact .inl ⟨_, _, hx, hy, .inr hc, k.here R rfl⟩
    · split at e
      · rename_i hc
        cases e
        exact .inl ⟨_, _, hx, hy, .inl hc, k.here R rfl⟩
      · cases e
  · rename_i A n
    split at e
    · rename_i hc
      cases e
      obtain ⟨a, xs, rfl, hsx, hax⟩ := hx
      have hl := hax.len
      refine .inr (.inl ⟨a, n, xs, rfl, hy, hsx, by omega, by omega, ?_, ?_⟩)
      · refine Nat.le_trans (Nat.mul_le_mul (show xs.length ≤ 100 by omega) (show n.toNat ≤ 1000 by omega)) (by decide)
      · exact newLst R (all_flat hax n.toNat) k
    · cases e
  · rename_i A n
    split at e
    · rename_i hc
      cases e
      obtain ⟨a, xs, rfl, hsx, hax⟩ := hx
      have hl := hax.len
      refine .inr (.inr (.inl ⟨a, n, xs, rfl, hy, sqT_mono (mask_ex m H) hsx, ?_, by omega, by omega, by omega, newTup R (all_flat hax n.toNat) k⟩))
      intro hz
      subst hz
      exact hc.2.1 (by simpa using hl)
    · split at e
      · rename_i hn
        subst hn
        cases e
        obtain ⟨a, xs, rfl, hsx, hax⟩ := hx
        exact .inr (.inr (.inr (.inl ⟨a, xs, rfl, hy, sqT_mono (mask_ex m H) hsx, k.here R ⟨a, xs, rfl, hsx, hax⟩⟩)))
      · split at e
        · rename_i hn0 hc0
          obtain ⟨rfl, hne⟩ := hc0
          cases e
          obtain ⟨a, xs, rfl, hsx, hax⟩ := hx
          have hl := hax.len
          refine .inr (.inr (.inr (.inr ⟨a, xs, rfl, hy, sqT_mono (mask_ex m H) hsx, fun hz => ?_, newTup (ps := []) R rfl k⟩)))
          subst hz
          exact hne (by simpa using hl)
        · cases e
  · cases e
end
end DL
namespace DL
open PySem PySem.Spec PyProof.Rows L2
variable [Tb]
structure SX (X : Cx) : Prop where
  calm : X.calm = true
  nd : X.N.Nodup
  units : X.A.units + 200 < cLine
  guards : X.A.guards = some []
section
variable {X : Cx} {a b : Expr} {f g : FE} {pos : Pos}
theorem d_mul (ha : PEd X a f) (hb : PEd X b g) : PEd X (.BinOp a .Mult b pos) (f2 pMul f g) := pe_weak (pe_op (opr_or op_mul (opr_or op_rep (opr_or op_repT (opr_or ZM.op_one ZM.op_zero)))) ha hb) fun _ _ _ => td_op op2_mul
theorem d_fdiv (ha : PEd X a f) (hb : PEd X b g) : PEd X (.BinOp a .FloorDiv b pos) (f2 pFdiv f g) := pe_weak (pe_op op_fdiv ha hb) fun _ _ _ => td_op (op2_int (C := CDiv) (g := fun i j => i / j) fun p q u e => by
  unfold pFdiv at e
  split at e
  · split at e
    · rename_i h; cases e; exact ⟨_, _, rfl, rfl, h, rfl⟩
    · cases e
  · cases e)
theorem d_mod (ha : PEd X a f) (hb : PEd X b g) : PEd X (.BinOp a .Mod b pos) (f2 pMod f g) := pe_weak (pe_op op_mod ha hb) fun _ _ _ => td_op (op2_int (g := fun i j => i % j) fun p q u e => by
  unfold pMod at e
  split at e
  · split at e
    · rename_i h; cases e; exact ⟨_, _, rfl, rfl, h, rfl⟩
    · cases e
  · cases e)
theorem d_pow (ha : PEd X a f) (hb : PEd X b g) : PEd X (.BinOp a .Pow b pos) (f2 pPow f g) := pe_weak (pe_op op_pow ha hb) fun _ _ _ => td_op (op2_int (C := CPow) (g := fun i j => i ^ j.toNat) fun p q u e => by
  unfold pPow at e
  split at e
  · split at e
    · rename_i h; cases e; exact ⟨_, _, rfl, rfl, h, rfl⟩
    · cases e
  · cases e)
theorem d_neg (ha : PEd X a f) : PEd X (.UnaryOp .USub a pos) (f1 pNeg f) := pe_weak (pe_un un_neg ha) fun _ _ _ => td_un (r := rU fun i => .int (-i)) fun m H S p u x Q R hx e k => by
  unfold pNeg at e
  split at e
  · cases e; exact ⟨_, hx, k.here R rfl⟩
  · cases e
end
def pEq (p q : P) : Option P := match toPy p with
  | some d => match toPy q with
    | some e => if SeqAt.shaped d = true ∧ SeqAt.shaped e = true then some (.bl (PyData.eqv d e)) else none
    | none => none
  | none => none
def pNe (p q : P) : Option P := match toPy p with
  | some d => match toPy q with
    | some e => if SeqAt.shaped d = true ∧ SeqAt.shaped e = true then some (.bl (!PyData.eqv d e)) else none
    | none => none
  | none => none
def pIsN : P → P → Option P
  | .non, .non => some (.bl true)
  | _, .non => some (.bl false)
  | _, _ => none
def pNotN : P → P → Option P
  | .non, .non => some (.bl false)
  | _, .non => some (.bl true)
  | _, _ => none
def pLt : P → P → Option P
  | .int i, .int j => some (.bl (decide (i < j)))
  | .str x, .str y => some (.bl (decide (x.cps.toList < y.cps.toList)))
  | _, _ => none
def pLe : P → P → Option P
  | .int i, .int j => some (.bl (decide (i ≤ j)))
  | _, _ => none
def pGt : P → P → Option P
  | .int i, .int j => some (.bl (decide (j < i)))
  | _, _ => none
def pGe : P → P → Option P
  | .int i, .int j => some (.bl (decide (j ≤ i)))
  | _, _ => none
def pKey : P → Option Key
  | .int i => some (.inl i)
  | .str x => some (.inr x)
  | _ => none
def look (ks : List Key) (ps : List P) (k : Key) : Option P := ((ks.zip ps).find? fun kv => decide (kv.1 = k)).map (·.2)
def canD (d : PyData) : Bool := d.canLay0 && decide (d.depth ≤ 64)
def pInB (x : P) : P → Option Bool
  | .dic ks ps => match pKey x with
    | some k => some (look ks ps k).isSome
    | none => none
  | .str y => match x with
    | .str z => some (!(Builtin.Str.occurrences y z 0 y.length 1).isEmpty)
    | _ => none
  | c => match toPy c with
    | some (.list xs) => match toPy x with
      | some d => if PyData.canLayAll0 xs = true ∧ canD d = true then some (xs.any fun y => PyData.eqv y d) else none
      | none => none
    | some (.tuple xs) => match toPy x with
      | some d => if PyData.canLayAll0 xs = true ∧ canD d = true then some (xs.any fun y => PyData.eqv y d) else none
      | none => none
    | _ => none
def pIn (x c : P) : Option P := (pInB x c).map .bl
def pNotIn (x c : P) : Option P := (pInB x c).map fun b => .bl (!b)
section
variable {K : PySem.W.Frag} {X : Cx}
theorem op2_eq : Op2 K (rEqD K) pEq := by
  intro m H S p q u x y Q R hx hy e k
  unfold pEq at e
  split at e
  · rename_i d hd
    split at e
    · rename_i d2 hd2
      split at e
      · rename_i hs
        cases e
        exact ⟨d, d2, Is.dp p x d hx.is hd, Is.dp q y d2 hy.is hd2, hs.1, hs.2, k.here R rfl⟩
      · cases e
    · cases e
  · cases e
theorem op2_ne : Op2 K (rNeD K) pNe := by
  intro m H S p q u x y Q R hx hy e k
  unfold pNe at e
  split at e
  · rename_i d hd
    split at e
    · rename_i d2 hd2
      split at e
      · rename_i hs
        cases e
        exact ⟨d, d2, Is.dp p x d hx.is hd, Is.dp q y d2 hy.is hd2, hs.1, hs.2, k.here R rfl⟩
      · cases e
    · cases e
  · cases e
theorem pKey_is {m : Mp} {H : Hp} {p : P} {x : V} {k : Key} (h : IsR K m H p x) (e : pKey p = some k) : x = kV k := by
  unfold pKey at e
  split at e
  · cases e; exact h
  · cases e; exact h
  · cases e
theorem look_is {G : Hp} : ∀ {ks : List Key} {ps : List P} {xs : List V} {k : Key}, IsAll K G ps xs → (∀ p, look ks ps k = some p → ∃ v, valV (ks.zip xs) k = some v ∧ Is K G p v) ∧ ((look ks ps k).isSome = (valV (ks.zip xs) k).isSome)
  | [], ps, xs, k, h => ⟨fun p e => by simp [look] at e, by simp [look, valV]⟩
  | j :: ks, [], xs, k, h => by
    have h' : xs = [] := h
    subst h'
    exact ⟨fun p e => by simp [look] at e, by simp [look, valV]⟩
  | j :: ks, p :: ps, xs, k, ⟨v, vs, h1, h2, h3⟩ => by
    subst h1
    by_cases hj : j = k
    · have e1 : look (j :: ks) (p :: ps) k = some p := by simp [look, hj]
      have e2 : valV ((j :: ks).zip (v :: vs)) k = some v := by simp [valV, hj]
      rw [e1, e2]
      exact ⟨fun q e => by cases e; exact ⟨v, rfl, h2⟩, rfl⟩
    · have e1 : look (j :: ks) (p :: ps) k = look ks ps k := by simp [look, hj]
      have e2 : valV ((j :: ks).zip (v :: vs)) k = valV (ks.zip vs) k := by simp [valV, hj]
      rw [e1, e2]
      exact look_is h3
theorem opr_in (hX : SX X) : OpR X (compareOp .In) (fun x y H Q => (∃ a o, y = .ref a ∧ DGet H a x o ∧ Q (.bl o.isSome) H) ∨ (∃ i j, x = .str i ∧ y = .str j ∧ Q (.bl (!(Builtin.Str.occurrences j i 0 j.length 1).isEmpty)) H) ∨
    (∃ xs d, (Dp X.K H y (.list xs) ∨ Dp X.K H y (.tuple xs)) ∧ Dp X.K H x d ∧ PyData.canLayAll0 xs = true ∧ canD d = true ∧ Q (.bl (xs.any fun z => PyData.eqv z d)) H)) := by
  intro pins s σ H x y v u Q I rx ry h
  have hu := hX.units
  rcases h with ⟨a, o, rfl, hg, q⟩ | ⟨i, j, rfl, rfl, q⟩ | ⟨xs, d, hc, hd, h1, h2, q⟩
  · obtain rfl : u = Value.ref a := ry
    exact d_in (by omega) I hg rx fun s' I' => ⟨.bl o.isSome, H, I', rfl, q⟩
  · exact op_in_str pins s σ H _ _ v u Q I rx ry ⟨i, j, rfl, rfl, q⟩
  · obtain ⟨h3, h4⟩ := Bool.and_eq_true_iff.mp h2
    have h5 : d.depth ≤ 64 := of_decide_eq_true h4
    obtain ⟨bs, rd⟩ := Dp.reads I d x v hd rx
    rcases hc with hc | hc
    · obtain ⟨as, rc⟩ := Dp.reads I _ y u hc ry
      exact SeqAt.in_list_reads rc rd h1 h3 (by omega) ⟨.bl _, H, I, rfl, q⟩
    · obtain ⟨as, rc⟩ := Dp.reads I _ y u hc ry
      exact SeqAt.in_tuple_reads rc rd h1 h3 (by omega) ⟨.bl _, H, I, rfl, q⟩
theorem opr_notIn (hX : SX X) : OpR X (compareOp .NotIn) (fun x y H Q => (∃ a o, y = .ref a ∧ DGet H a x o ∧ Q (.bl (!o.isSome)) H) ∨ (∃ i j, x = .str i ∧ y = .str j ∧ Q (.bl (!(!(Builtin.Str.occurrences j i 0 j.length 1).isEmpty))) H) ∨
    (∃ xs d, (Dp X.K H y (.list xs) ∨ Dp X.K H y (.tuple xs)) ∧ Dp X.K H x d ∧ PyData.canLayAll0 xs = true ∧ canD d = true ∧ Q (.bl (!xs.any fun z => PyData.eqv z d)) H)) := by
  intro pins s σ H x y v u Q I rx ry h
  have hu := hX.units
  rcases h with ⟨a, o, rfl, hg, q⟩ | ⟨i, j, rfl, rfl, q⟩ | ⟨xs, d, hc, hd, h1, h2, q⟩
  · obtain rfl : u = Value.ref a := ry
    exact d_notIn (by omega) I hg rx fun s' I' => ⟨.bl (!o.isSome), H, I', rfl, q⟩
  · exact op_notIn_str pins s σ H _ _ v u Q I rx ry ⟨i, j, rfl, rfl, q⟩
  · obtain ⟨h3, h4⟩ := Bool.and_eq_true_iff.mp h2
    have h5 : d.depth ≤ 64 := of_decide_eq_true h4
    obtain ⟨bs, rd⟩ := Dp.reads I d x v hd rx
    rcases hc with hc | hc
    · obtain ⟨as, rc⟩ := Dp.reads I _ y u hc ry
      exact SeqAt.notIn_list_reads rc rd h1 h3 (by omega) ⟨.bl _, H, I, rfl, q⟩
    · obtain ⟨as, rc⟩ := Dp.reads I _ y u hc ry
      exact SeqAt.notIn_tuple_reads rc rd h1 h3 (by omega) ⟨.bl _, H, I, rfl, q⟩
theorem inB_is {m : Mp} {H : Hp} {p c : P} {x y : V} {b : Bool} (hx : IsR K m H p x) (hy : IsR K m H c y) (e : pInB p c = some b) :
    (∃ a o, y = .ref a ∧ DGet H a x o ∧ o.isSome = b) ∨ (∃ i j, x = .str i ∧ y = .str j ∧ (!(Builtin.Str.occurrences j i 0 j.length 1).isEmpty) = b) ∨
    (∃ xs d, (Dp K H y (.list xs) ∨ Dp K H y (.tuple xs)) ∧ Dp K H x d ∧ PyData.canLayAll0 xs = true ∧ canD d = true ∧ (xs.any fun z => PyData.eqv z d) = b) := by
  unfold pInB at e
  split at e
  · rename_i ks ps
    split at e
    · rename_i k hk
      cases e
      obtain ⟨a, xs, rfl, h1, h2, h3, h4⟩ := hy
      have ex := pKey_is hx hk
      subst ex
      refine .inl ⟨a, valV (ks.zip xs) k, rfl, DGet.k h1, ?_⟩
      exact (look_is h4).2.symm
    · cases e
  · rename_i z
    split at e
    · rename_i w
      cases e
      exact .inr (.inl ⟨w, z, hx, hy, rfl⟩)
    · cases e
  · split at e
    · rename_i xs hc
      split at e
      · rename_i d hd
        split at e
        · rename_i hs
          cases e
          exact .inr (.inr ⟨xs, d, .inl (Is.dp c y _ hy.is hc), Is.dp p x d hx.is hd, hs.1, hs.2, rfl⟩)
        · cases e
      · cases e
    · rename_i xs hc
      split at e
      · rename_i d hd
        split at e
        · rename_i hs
          cases e
          exact .inr (.inr ⟨xs, d, .inr (Is.dp c y _ hy.is hc), Is.dp p x d hx.is hd, hs.1, hs.2, rfl⟩)
        · cases e
      · cases e
    · cases e
end
section
variable {X : Cx} {a b : Expr} {f g : FE} {pos : Pos}
theorem d_ne (hX : SX X) (ha : PEd X a f) (hb : PEd X b g) : PEd X (.Compare a [.NotEq] [b] pos) (f2 pNe f g) := pe_weak (pe_cmpR (op_neD (by have := hX.units; omega)) ha hb (nobehind _ (by decide) (by decide))) fun _ _ _ => td_op op2_ne
theorem d_gt (ha : PEd X a f) (hb : PEd X b g) : PEd X (.Compare a [.Gt] [b] pos) (f2 pGt f g) := pe_weak (pe_cmpR op_gt ha hb (nobehind _ (by decide) (by decide))) fun _ _ _ => td_op fun m H S p q u x y Q R hx hy e k => by
  unfold pGt at e
  split at e
  · cases e; exact ⟨_, _, hx, hy, k.here R rfl⟩
  · cases e
theorem d_in (hX : SX X) (ha : PEd X a f) (hb : PEd X b g) (hm : behindInMarks .In b = false := by rfl) : PEd X (.Compare a [.In] [b] pos) (f2 pIn f g) := pe_weak (pe_cmpR (opr_in hX) ha hb hm) fun _ _ _ => td_op fun m H S p q u x y Q R hx hy e k => by
  unfold pIn at e
  cases hb : pInB p q with
  | none => rw [hb] at e; cases e
  | some b =>
    rw [hb] at e
    cases e
    rcases inB_is hx hy hb with ⟨a, o, h1, h2, rfl⟩ | ⟨i, j, h1, h2, rfl⟩ | ⟨xs, d, h1, h2, h3, h4, rfl⟩
    · exact .inl ⟨a, o, h1, h2, k.here R rfl⟩
    · exact .inr (.inl ⟨i, j, h1, h2, k.here R rfl⟩)
    · exact .inr (.inr ⟨xs, d, h1, h2, h3, h4, k.here R rfl⟩)
theorem d_notIn (hX : SX X) (ha : PEd X a f) (hb : PEd X b g) (hm : behindInMarks .NotIn b = false := by rfl) : PEd X (.Compare a [.NotIn] [b] pos) (f2 pNotIn f g) := pe_weak (pe_cmpR (opr_notIn hX) ha hb hm) fun _ _ _ => td_op fun m H S p q u x y Q R hx hy e k => by
  unfold pNotIn at e
  cases hb : pInB p q with
  | none => rw [hb] at e; cases e
  | some b =>
    rw [hb] at e
    cases e
    rcases inB_is hx hy hb with ⟨a, o, h1, h2, rfl⟩ | ⟨i, j, h1, h2, rfl⟩ | ⟨xs, d, h1, h2, h3, h4, rfl⟩
    · exact .inl ⟨a, o, h1, h2, k.here R rfl⟩
    · exact .inr (.inl ⟨i, j, h1, h2, k.here R rfl⟩)
    · exact .inr (.inr ⟨xs, d, h1, h2, h3, h4, k.here R rfl⟩)
end
def truP : P → Option Bool
  | .non => some false
  | .bl b => some b
  | .int i => some (i != 0)
  | .str x => if x.length ≤ 100000 then some ((x.length : Int) != 0) else none
  | .tup ps => some (!ps.isEmpty)
  | .lst ps => some (!ps.isEmpty)
  | .frz ps => some (!ps.isEmpty)
  | .dic ks _ => some (!ks.isEmpty)
  | .fn _ => none
  | .dn _ _ => none
  | .exn _ _ _ _ _ => none
  | .adr _ => none
def fTru (f : FE) : FT := fun env S => (f env S).bind fun d S1 => match deP S1 d with
  | some p => match truP p with
    | some b => .ok b S1
    | none => .bad
  | none => .bad
def fAnd (f g : FT) : FT := fun env S => (f env S).bind fun b S1 => if b = true then g env S1 else .ok false S1
def fOr (f g : FT) : FT := fun env S => (f env S).bind fun b S1 => if b = true then .ok true S1 else g env S1
def fNot (f : FT) : FT := fun env S => (f env S).bind fun b S1 => .ok (!b) S1
def fIte (t : FT) (f g : FE) : FE := fun env S => (t env S).bind fun b S1 => if b = true then f env S1 else g env S1
theorem isEmpty_len {α β : Type} {xs : List α} {ys : List β} (h : xs.length = ys.length) : xs.isEmpty = ys.isEmpty := by
  cases xs <;> cases ys <;> simp at h ⊢
theorem truP_is {K : PySem.W.Frag} {m : Mp} {H : Hp} {p : P} {x : V} {b : Bool} (h : IsR K m H p x) (e : truP p = some b) : TruV K x H b := by
  cases p with
  | non => have h' : x = .non := h; subst h'; cases e; rfl
  | bl c => have h' : x = .bl c := h; subst h'; cases e; rfl
  | int i => have h' : x = .int i := h; subst h'; cases e; rfl
  | str y =>
    have h' : x = .str y := h
    subst h'
    have e : (if y.length ≤ 100000 then some ((y.length : Int) != 0) else none) = some b := e
    split at e
    · rename_i hl
      cases e
      exact ⟨size_of hl, rfl⟩
    · cases e
  | tup ps =>
    obtain ⟨a, xs, rfl, h1, h2⟩ := h
    cases e
    exact .inr (.inl ⟨xs, sqT_mono (mask_ex m H) h1, by rw [isEmpty_len h2.len]⟩)
  | lst ps =>
    obtain ⟨a, xs, rfl, h1, h2⟩ := h
    cases e
    exact .inl ⟨xs, .of h1, by rw [isEmpty_len h2.len]⟩
  | frz ps =>
    obtain ⟨a, xs, rfl, h1, h2⟩ := h
    cases e
    exact .inl ⟨xs, sqL_mono (mask_ex m H) h1, by rw [isEmpty_len h2.len]⟩
  | dic ks ps =>
    obtain ⟨a, xs, rfl, h1, h2, _, h4⟩ := h
    cases e
    refine .inr (.inr ⟨_, h1, ?_⟩)
    have : ks.length = (ks.zip xs).length := by rw [List.length_zip, h2, Nat.min_self]
    rw [isEmpty_len this]
  | fn y => cases e
  | dn ks ps => cases e
  | exn _ _ _ _ _ => cases e
  | adr _ => cases e
section
variable {X : Cx} {a b c : Expr} {rest : List Expr} {f g : FE} {t u : FT} {pos : Pos}
theorem d_tru (ha : PEd X a f) (he : ∀ whole, isTrue a X.env whole = (do let v ← whole; standAt a.pos; holding [v] (truthy v)) := by intro _; rfl) : PTd X a (fTru f) := pt_weak (pt_truth ha he) fun σ H Q ⟨m, env, S, R, E, b, S', e1, q⟩ => by
  obtain ⟨d, S1, k1, e2⟩ := Oc.bind_eq e1
  cases h1 : deP S1 d with
  | none => simp [h1] at e2
  | some p =>
    cases h2 : truP p with
    | none => simp [h1, h2] at e2
    | some b2 =>
      simp [h1, h2] at e2
      obtain ⟨rfl, rfl⟩ := e2
      exact ⟨m, env, S, R, E, d, S1, k1, fun v m1 H1 st1 R1 i1 => ⟨b2, truP_is (isR_of R1 i1 h1) h2, q m1 H1 st1 R1⟩⟩
theorem d_cmpT {op : CmpOp} {r : R2} {o : P → P → Option P} (ho : OpR X (compareOp op) r) (h2 : Op2 X.K r o) (hbl : ∀ p q u, o p q = some u → ∃ b, u = .bl b) (ha : PEd X a f) (hb : PEd X b g) (hm : behindInMarks op b = false) :
    PTd X (.Compare a [op] [b] pos) (fTru (f2 o f g)) := pt_weak (pt_cmpR ho ha hb hm) fun σ H Q ⟨m, env, S, R, E, b, S', e1, q⟩ => by
  obtain ⟨d, S1, k1, e2⟩ := Oc.bind_eq e1
  refine td_op (Q := fun x H' => ∃ k, x = .bl k ∧ Q k H') h2 ⟨m, env, S, R, E, d, S1, k1, fun v m1 H1 st1 R1 i1 => ?_⟩
  have k2 := k1
  unfold f2 at k2
  obtain ⟨d1, S2, _, k2⟩ := Oc.bind_eq k2
  obtain ⟨d2, S3, _, k2⟩ := Oc.bind_eq k2
  obtain ⟨p, p2, u, _, _, h3, rfl, rfl⟩ := lift2_of k2
  obtain ⟨b', rfl⟩ := hbl p p2 u h3
  have hv : v = .bl b' := i1
  have e3 : Oc.ok b' S1 = Oc.ok b S' := e2
  cases e3
  exact ⟨_, hv, q m1 H1 st1 R1⟩
theorem w_and1 (ha : PTd X a t) : PWd X (.BoolOp .And [a] pos) t := pw_and1 ha
theorem w_or1 (ha : PTd X a t) : PWd X (.BoolOp .Or [a] pos) t := pw_or1 ha
theorem w_and (ha : PTd X a t) (hb : PWd X (.BoolOp .And (b :: rest) pos) u) : PWd X (.BoolOp .And (a :: b :: rest) pos) (fAnd t u) := pw_weak (pw_and ha hb) fun σ H Q ⟨m, env, S, R, E, b, S', e1, q⟩ => by
  obtain ⟨c, S1, k1, e2⟩ := Oc.bind_eq e1
  refine ⟨m, env, S, R, E, c, S1, k1, fun m1 H1 st1 R1 => ?_⟩
  cases c with
  | true =>
    rw [if_pos rfl]
    exact ⟨m1, env, S1, R1, E.step st1, b, S', by simpa using e2, fun m2 H2 st2 R2 => q m2 H2 (st1.trans st2) R2⟩
  | false =>
    have e3 : Oc.ok false S1 = Oc.ok b S' := by simpa using e2
    cases e3
    rw [if_neg (by decide)]
    exact q m1 H1 st1 R1
theorem w_or (ha : PTd X a t) (hb : PWd X (.BoolOp .Or (b :: rest) pos) u) : PWd X (.BoolOp .Or (a :: b :: rest) pos) (fOr t u) := pw_weak (pw_or ha hb) fun σ H Q ⟨m, env, S, R, E, b, S', e1, q⟩ => by
  obtain ⟨c, S1, k1, e2⟩ := Oc.bind_eq e1
  refine ⟨m, env, S, R, E, c, S1, k1, fun m1 H1 st1 R1 => ?_⟩
  cases c with
  | false =>
    rw [if_neg (by decide)]
    exact ⟨m1, env, S1, R1, E.step st1, b, S', by simpa using e2, fun m2 H2 st2 R2 => q m2 H2 (st1.trans st2) R2⟩
  | true =>
    have e3 : Oc.ok true S1 = Oc.ok b S' := by simpa using e2
    cases e3
    rw [if_pos rfl]
    exact q m1 H1 st1 R1
theorem d_pt (h : PWd X a t) : PTd X a t := h.pt
theorem d_ite (hc : PTd X c t) (ha : PEd X a f) (hb : PEd X b g) : PEd X (.IfExp c a b pos) (fIte t f g) := pe_weak (pe_ifExp hc ha hb) fun σ H Q ⟨m, env, S, R, E, d, S', e1, q⟩ => by
  obtain ⟨k, S1, k1, e2⟩ := Oc.bind_eq e1
  refine ⟨m, env, S, R, E, k, S1, k1, fun m1 H1 st1 R1 => ?_⟩
  cases k with
  | true =>
    rw [if_pos rfl]
    exact ⟨m1, env, S1, R1, E.step st1, d, S', by simpa using e2, fun v m2 H2 st2 R2 i2 => q v m2 H2 (st1.trans st2) R2 i2⟩
  | false =>
    rw [if_neg (by decide)]
    exact ⟨m1, env, S1, R1, E.step st1, d, S', by simpa using e2, fun v m2 H2 st2 R2 i2 => q v m2 H2 (st1.trans st2) R2 i2⟩
def asB (d : D) : Option Bool := match d with
  | .v (.bl b) => some b
  | _ => none
def fAndV (f g : FE) : FE := fun env S => (f env S).bind fun d S1 => match asB d with
  | some true => g env S1
  | some false => .ok (.v (.bl false)) S1
  | none => .bad
def fOrV (f g : FE) : FE := fun env S => (f env S).bind fun d S1 => match asB d with
  | some false => g env S1
  | some true => .ok (.v (.bl true)) S1
  | none => .bad
def fNotV (f : FE) : FE := fun env S => (f env S).bind fun d S1 => match asB d with
  | some b => .ok (.v (.bl (!b))) S1
  | none => .bad
theorem asB_is {d : D} {b : Bool} (h : asB d = some b) : d = .v (.bl b) := by
  unfold asB at h
  split at h
  · cases h; rfl
  · cases h
theorem d_one {op} (h : PEd X a f) : PEd X (.BoolOp op [a] pos) f := pe_one h
theorem d_orV (ha : PEd X a f) (hb : PEd X (.BoolOp .Or (b :: rest) pos) g) : PEd X (.BoolOp .Or (a :: b :: rest) pos) (fOrV f g) := pe_weak (pe_or ha hb) fun σ H Q ⟨m, env, S, R, E, d, S', e1, q⟩ => by
  obtain ⟨c, S1, k1, e2⟩ := Oc.bind_eq e1
  refine ⟨m, env, S, R, E, c, S1, k1, fun v m1 H1 st1 R1 i1 => ?_⟩
  cases hc : asB c with
  | none => simp [hc] at e2
  | some k =>
    have ec := asB_is hc
    subst ec
    have hv : v = .bl k := i1
    refine ⟨k, hv, ?_⟩
    cases k with
    | false =>
      rw [if_neg (by decide)]
      exact ⟨m1, env, S1, R1, E.step st1, d, S', by simpa [asB] using e2, fun v m2 H2 st2 R2 i2 => q v m2 H2 (st1.trans st2) R2 i2⟩
    | true =>
      have e3 : Oc.ok (D.v (.bl true)) S1 = Oc.ok d S' := by simpa [asB] using e2
      cases e3
      rw [if_pos rfl]
      exact q _ m1 H1 st1 R1 rfl
end
end DL
namespace DL
open PySem PySem.Spec PyProof.Rows L2
variable [Tb]
def pIx : P → P → Option P
  | .lst ps, .int i => atI ps i
  | .frz ps, .int i => atI ps i
  | .tup ps, .int i => atI ps i
  | .str z, .int i => if z.length ≤ 100000 then (atI z.cps.toList i).map fun c => .str ⟨#[c]⟩ else none
  | .dic ks ps, p => match pKey p with
    | some k => look ks ps k
    | none => none
  | _, _ => none
def cutL {α : Type} (xs : List α) (lo hi : Option Int) : List α := (xs.drop (HT.sIx xs.length 0 lo)).take (HT.sIx xs.length xs.length hi - HT.sIx xs.length 0 lo)
def pSl (p : P) (lo hi : Option Int) : Option P := match p with
  | .lst ps => some (.lst (cutL ps lo hi))
  | .frz ps => some (.lst (cutL ps lo hi))
  | .tup ps => some (.tup (cutL ps lo hi))
  | .str z => if z.length ≤ 100000 then some (.str (cutS z lo hi)) else none
  | _ => none
theorem atI_is {K : PySem.W.Frag} {G : Hp} {ps : List P} {xs : List V} {i : Int} {p : P} (h : IsAll K G ps xs) (e : atI ps i = some p) : ∃ v, atI xs i = some v ∧ Is K G p v := by
  unfold atI at e ⊢
  rw [← h.len]
  cases hx : ixN ps.length i with
  | none => rw [hx] at e; cases e
  | some j =>
    rw [hx] at e
    exact h.get (i := j) e
theorem ix_dict {X : Cx} (hu : X.A.units + 1 < cLine) : IxR X (fun x y H Q => ∃ a v, x = .ref a ∧ DGet H a y (some v) ∧ Q v H) := by
  intro value slice pins s σ H x y v u Q I rx ry h hs
  obtain ⟨a, z, rfl, hg, q⟩ := h
  obtain rfl : v = Value.ref a := rx
  exact tail_any (dict_typeIs I hg) PySem.F.slot_dict_getitem.lookup (d_getItem hu I hg ry fun w' s3 I3 rw' => ⟨z, H, I3, rw', q⟩) hs
abbrev rIxAll (K : PySem.W.Frag) : R2 := fun x y H Q => rIx K x y H Q ∨ ∃ a v, x = .ref a ∧ DGet H a y (some v) ∧ Q v H
theorem op2_ix {K : PySem.W.Frag} : Op2 K (rIxAll K) pIx := by
  intro m H S p q u x y Q R hx hy e k
  unfold pIx at e
  split at e
  · obtain ⟨a, xs, rfl, h1, h2⟩ := hx
    obtain ⟨v, h3, h4⟩ := atI_is h2 e
    exact .inl (.inl ⟨a, xs, _, v, rfl, hy, .of h1, h3, k.here R h4⟩)
  · obtain ⟨a, xs, rfl, h1, h2⟩ := hx
    obtain ⟨v, h3, h4⟩ := atI_is h2 e
    exact .inl (.inl ⟨a, xs, _, v, rfl, hy, sqL_mono (mask_ex m H) h1, h3, k.here R h4⟩)
  · obtain ⟨a, xs, rfl, h1, h2⟩ := hx
    obtain ⟨v, h3, h4⟩ := atI_is h2 e
    exact .inl (.inr (.inl ⟨a, xs, _, v, rfl, hy, sqT_mono (mask_ex m H) h1, h3, k.here R h4⟩))
  · rename_i z i
    split at e
    · rename_i hl
      cases hc : atI z.cps.toList i with
      | none => rw [hc] at e; cases e
      | some c =>
        rw [hc] at e
        cases e
        exact .inl (.inr (.inr ⟨z, i, c, hx, hy, size_of hl, hc, k.here R rfl⟩))
    · cases e
  · rename_i ks ps p2
    split at e
    · rename_i kk hk
      obtain ⟨a, xs, rfl, h1, h2, h3, h4⟩ := hx
      have ex := pKey_is hy hk
      subst ex
      obtain ⟨v, h5, h6⟩ := (look_is h4).1 u e
      exact .inr ⟨a, v, rfl, by rw [← h5]; exact DGet.k h1, k.here R h6⟩
    · cases e
  · cases e
theorem cut_is {K : PySem.W.Frag} {G : Hp} {ps : List P} {xs : List V} (h : IsAll K G ps xs) (lo hi : Option Int) : IsAll K G (cutL ps lo hi) (cutV xs lo hi) := by
  unfold cutL cutV
  rw [← h.len]
  exact (h.drop _).take _
abbrev FO := Dnv → Sto → Oc (Option Int)
def oNo : FO := fun _ S => .ok none S
def oAt (f : FE) : FO := fun env S => (f env S).bind fun d S1 => match d with
  | .v (.int i) => .ok (some i) S1
  | _ => .bad
def TDo (K : PySem.W.Frag) (f : FO) : TO := fun σ H Q => ∃ m env S, Rel K m H S ∧ EnvIs K m (mask m H) σ env ∧ ∃ o S', f env S = .ok o S' ∧ ∀ m' H', Stp m H m' H' → Rel K m' H' S' → Q o H'
theorem po_weak {X : Cx} {e : Option Expr} {t t' : TO} (h : PO X e t) (q : ∀ σ H Q, t' σ H Q → t σ H Q) : PO X e t' := ⟨fun pins s σ H Q I w => h.run pins s σ H Q I (q σ H Q w)⟩
def fSl (f : FE) (lo hi : FO) : FE := fun env S => (f env S).bind fun d S1 => (lo env S1).bind fun l S2 => (hi env S2).bind fun u S3 => match deP S3 d with
  | some p => oP (pSl p l u) S3
  | none => .bad
section
variable {X : Cx} {a b : Expr} {f g : FE} {pos p2 : Pos}
theorem d_ix (hX : SX X) (ha : PEd X a f) (hb : PEd X b g) (hs : PlainIx b := by intro _ _; rfl) : PEd X (.Subscript a b pos) (f2 pIx f g) := pe_weak (pe_ix (IxR.or ix_seq (ix_dict (by have := hX.units; omega))) ha hb hs) fun _ _ _ => td_op op2_ix
theorem o_no : PO X none (TDo X.K oNo) := po_weak po_none fun σ H Q ⟨m, env, S, R, E, o, S', e1, q⟩ => by
  cases e1
  exact q m H (Stp.refl m H) R
theorem o_at (h : PEd X a f) : PO X (some a) (TDo X.K (oAt f)) := po_weak (po_some h) fun σ H Q ⟨m, env, S, R, E, o, S', e1, q⟩ => by
  obtain ⟨d, S1, k1, e2⟩ := Oc.bind_eq e1
  refine ⟨m, env, S, R, E, d, S1, k1, fun v m1 H1 st1 R1 i1 => ?_⟩
  split at e2
  · cases e2
    exact ⟨_, i1, q m1 H1 st1 R1⟩
  · cases e2
theorem d_sl {lo hi : Option Expr} {l u : FO} (ha : PEd X a f) (hl : PO X lo (TDo X.K l)) (hu : PO X hi (TDo X.K u)) : PEd X (.Subscript a (.Slice lo hi none p2) pos) (fSl f l u) :=
  pe_weak (pe_slice (SlR.or sl_list (SlR.or sl_tupA sl_str)) ha hl hu) fun σ H Q ⟨m, env, S, R, E, d', S', e1, q⟩ => by
  obtain ⟨d, S1, k1, e2⟩ := Oc.bind_eq e1
  obtain ⟨lo, S2, k2, e3⟩ := Oc.bind_eq e2
  obtain ⟨hi, S3, k3, e4⟩ := Oc.bind_eq e3
  refine ⟨m, env, S, R, E, d, S1, k1, fun v m1 H1 st1 R1 i1 => ⟨m1, env, S1, R1, E.step st1, lo, S2, k2, fun m2 H2 st2 R2 => ⟨m2, env, S2, R2, (E.step st1).step st2, hi, S3, k3, fun m3 H3 st3 R3 => ?_⟩⟩⟩
  cases h1 : deP S3 d with
  | none => simp [h1] at e4
  | some p =>
    cases h2 : pSl p lo hi with
    | none => simp [h1, h2] at e4
    | some r =>
      simp [h1, h2] at e4
      obtain ⟨rfl, rfl⟩ := e4
      have st := (st1.trans st2).trans st3
      have hx := isR_of R3 (st3.is (st2.is i1)) h1
      have k : Kont X.K m3 H3 S3 r Q := fun w m4 H4 s4 R4 i4 => q w m4 H4 (st.trans s4) R4 i4
      unfold pSl at h2
      split at h2
      · cases h2
        obtain ⟨a, xs, rfl, h3, h4⟩ := hx
        exact .inl ⟨a, xs, rfl, .of h3, newLst R3 (cut_is h4 lo hi) k⟩
      · cases h2
        obtain ⟨a, xs, rfl, h3, h4⟩ := hx
        exact .inl ⟨a, xs, rfl, sqL_mono (mask_ex m3 H3) h3, newLst R3 (cut_is h4 lo hi) k⟩
      · cases h2
        obtain ⟨a, xs, rfl, h3, h4⟩ := hx
        refine .inr (.inl ⟨a, xs, rfl, sqT_mono (mask_ex m3 H3) h3, fun hw => ?_, fun _ => newTup R3 (cut_is h4 lo hi) k⟩)
        refine k.here R3 ⟨a, xs, rfl, h3, ?_⟩
        have : cutV xs lo hi = xs := by
          unfold cutV
          rw [hw.1, hw.2]
          simp
        rw [← this]
        exact cut_is h4 lo hi
      · split at h2
        · rename_i z hl
          cases h2
          exact .inr (.inr ⟨z, hx, size_of hl, k.here R3 rfl⟩)
        · cases h2
      · cases h2
end
abbrev FG := D → Dnv → Sto → Oc Dnv
abbrev FGs := List P → Dnv → Sto → Oc Dnv
def TDg (K : PySem.W.Frag) (g : FG) : TG := fun v σ H Q => ∃ m env S d, Rel K m H S ∧ EnvIs K m (mask m H) σ env ∧ IsD K m (mask m H) d v ∧ ∃ env' S', g d env S = .ok env' S' ∧ ∀ m' H' σ', Stp m H m' H' → Rel K m' H' S' → EnvIs K m' (mask m' H') σ' env' → Q σ' H'
abbrev PGd (X : Cx) (e : Expr) (g : FG) : Prop := PG X e (TDg X.K g)
theorem pg_weak {X : Cx} {e : Expr} {t t' : TG} (h : PG X e t) (q : ∀ v σ H Q, t' v σ H Q → t v σ H Q) : PG X e t' := ⟨fun pins s σ H v u Q I r w => h.run pins s σ H v u Q I r (q v σ H Q w)⟩
def gNm (i : Nat) : FG := fun d env S => .ok (env.set i (some d)) S
def gNl : FGs := fun ps env S => match ps with
  | [] => .ok env S
  | _ :: _ => .bad
def gCn (g : FG) (k : FGs) : FGs := fun ps env S => match ps with
  | [] => .bad
  | p :: r => (g (.v p) env S).bind fun env1 S1 => k r env1 S1
def gTp (n : Nat) (k : FGs) : FG := fun d env S => match d with
  | .v (.tup ps) => if ps.length = n then k ps env S else .bad
  | _ => .bad
def putP (ks : List Key) (ps : List P) (k : Key) (p : P) : List Key × List P :=
  match ks, ps with
  | j :: ks, q :: ps => if j = k then (j :: ks, p :: ps) else ((j :: (putP ks ps k p).1), (q :: (putP ks ps k p).2))
  | _, _ => ([k], [p])
def setD (o i d : D) (S : Sto) : Option Sto := match o, i, d with
  | .r n, .v q, .v p => match S[n]? with
    | some (.lst ps) => match q with
      | .int k => (ixN ps.length k).map fun j => S.set n (.lst (ps.set j p))
      | _ => none
    | some (.dic ks ps) => match pKey q with
      | some k => if ks.length < 10000 then some (S.set n (.dic (putP ks ps k p).1 (putP ks ps k p).2)) else none
      | none => none
    | _ => none
  | _, _, _ => none
def gSb (fo fi : FE) : FG := fun d env S => (fo env S).bind fun o S1 => (fi env S1).bind fun i S2 => match setD o i d S2 with
  | some S3 => .ok env S3
  | none => .bad
theorem put_is {K : PySem.W.Frag} {G : Hp} {p : P} {v : V} {k : Key} (hp : Is K G p v) : ∀ {ks : List Key} {ps : List P} {xs : List V}, ks.length = xs.length → ks.Nodup → IsAll K G ps xs →
    ∃ ys, putK (ks.zip xs) k v = (putP ks ps k p).1.zip ys ∧ (putP ks ps k p).1.length = ys.length ∧ (putP ks ps k p).1.Nodup ∧ IsAll K G (putP ks ps k p).2 ys ∧ (∀ j, j ∈ (putP ks ps k p).1 ↔ (j ∈ ks ∨ j = k))
  | [], ps, xs, hl, hn, h => by
    have : xs = [] := by simpa using hl.symm
    subst this
    have : ps = [] := by have := h.len; simpa using this
    subst this
    exact ⟨[v], by simp [putK, putP], by simp [putP], by simp [putP], by simpa [putP] using IsAll.one hp, by simp [putP]⟩
  | j :: ks, [], xs, hl, hn, h => by
    have h' : xs = [] := h
    subst h'
    simp at hl
  | j :: ks, q :: ps, xs, hl, hn, ⟨w, ws, h1, h2, h3⟩ => by
    subst h1
    obtain ⟨hn1, hn2⟩ := List.nodup_cons.mp hn
    by_cases hj : j = k
    · subst hj
      have e0 : ∀ {ls : List Key} {zs : List V}, j ∉ ls → (ls.zip zs).map (fun kv => if kv.1 = j then (kv.1, v) else kv) = ls.zip zs := fun {ls zs} hx => by
        conv => rhs; rw [← List.map_id (ls.zip zs)]
        refine List.map_congr_left fun kv hkv => ?_
        rw [if_neg]
        · rfl
        · intro e
          exact hx (e ▸ (List.of_mem_zip (a := kv.1) (b := kv.2) hkv).1)
      refine ⟨v :: ws, ?_, by simpa [putP] using hl, by simpa [putP] using hn, ?_, fun i => by simp only [putP, if_pos, List.mem_cons]; constructor <;> (intro h; rcases h with h | h) <;> simp_all⟩
      · simp [putK, putP]
        exact e0 hn1
      · simp only [putP, if_pos]
        exact ⟨v, ws, rfl, hp, h3⟩
    · obtain ⟨ys, a1, a2, a3, a4, a5⟩ := put_is (k := k) hp (ks := ks) (ps := ps) (xs := ws) (by simpa using hl) hn2 h3
      refine ⟨w :: ys, ?_, by simp [putP, hj, a2], ?_, ?_, ?_⟩
      · simp only [putP, if_neg hj, List.zip_cons_cons]
        rw [← a1]
        simp only [putK, List.any_cons, List.map_cons, hj, decide_false, Bool.false_or, if_false]
        split <;> simp
      · simp only [putP, if_neg hj]
        refine List.nodup_cons.mpr ⟨fun hm => ?_, a3⟩
        rcases (a5 j).mp hm with z | z
        · exact hn1 z
        · exact hj z
      · simp only [putP, if_neg hj]
        exact ⟨w, ys, rfl, h2, a4⟩
      · intro i
        simp only [putP, if_neg hj, List.mem_cons, a5]
        constructor
        · rintro (h | h | h)
          · exact .inl (.inl h)
          · exact .inl (.inr h)
          · exact .inr h
        · rintro ((h | h) | h)
          · exact .inl h
          · exact .inr (.inl h)
          · exact .inr (.inr h)
section
variable {X : Cx} {pos : Pos}
theorem set_dict (hu : X.A.units + 1 < cLine) : PSet X (fun o i v H Q => ∃ a H', o = .ref a ∧ DPut H a i v H' ∧ Q H') := by
  intro pins s σ H o i v ov iv u Q I ro ri rv h
  obtain ⟨a, H', rfl, hp, q⟩ := h
  obtain rfl : ov = Value.ref a := ro
  exact d_setItem hu I hp ri rv fun s' I' => ⟨H', I', q⟩
theorem pset_or {t t' : TSet} (h : PSet X t) (h' : PSet X t') : PSet X (fun o i v H Q => t o i v H Q ∨ t' o i v H Q) := by
  intro pins s σ H o i v ov iv u Q I ro ri rv q
  rcases q with q | q
  · exact h pins s σ H o i v ov iv u Q I ro ri rv q
  · exact h' pins s σ H o i v ov iv u Q I ro ri rv q
theorem g_nm (hX : SX X) {i : Nat} {x : Str} (hi : X.N[i]? = some x := by rfl) (hx : Loc X.env.scope x := by first | exact .inl rfl | exact .inr rfl) (hf : X.fn x = true ∨ X.env.scope.names.lookup x = some .local := by first | exact .inl rfl | exact .inr rfl | assumption) : PGd X (.Name x pos) (gNm i) :=
  pg_weak (pg_name hX.nd hi hx hf) fun v σ H Q ⟨m, env, S, d, R, E, i1, env', S', e1, q⟩ => by
  cases e1
  exact q m H _ (Stp.refl m H) R (E.set i1)
theorem g_sb (hX : SX X) {o i : Expr} {fo fi : FE} (ho : PEd X o fo) (hi : PEd X i fi)
    (ha : ∀ v, assign (.Subscript o i pos) X.env v = (do
      let ov ← holding [v] (eval o X.env)
      let iv ← holding [v, ov] (eval i X.env)
      standAt pos
      holding [v, ov, iv] (setItem ov iv v)
      release [v, ov, iv] []) := by intro _; rfl) : PGd X (.Subscript o i pos) (gSb fo fi) :=
  pg_weak (pg_sub ho hi (pset_or set_list (set_dict (by have := hX.units; omega))) ha) fun v σ H Q ⟨m, env, S, d, R, E, i1, env', S', e1, q⟩ => by
  obtain ⟨od, S1, k1, e2⟩ := Oc.bind_eq e1
  obtain ⟨ind, S2, k2, e3⟩ := Oc.bind_eq e2
  refine ⟨m, env, S, R, E, od, S1, k1, fun ov m1 H1 st1 R1 j1 => ⟨m1, env, S1, R1, E.step st1, ind, S2, k2, fun iv m2 H2 st2 R2 j2 => ?_⟩⟩
  cases hs : setD od ind d S2 with
  | none => rw [hs] at e3; cases e3
  | some S3 =>
    rw [hs] at e3
    cases e3
    have st := st1.trans st2
    have i2 := st.is i1
    have o2 := st2.is j1
    unfold setD at hs
    split at hs
    · rename_i n qi p
      obtain ⟨a, rfl, h3⟩ := o2
      have hp : Is X.K (mask m2 H2) p v := i2
      have hq : Is X.K (mask m2 H2) qi iv := j2
      split at hs
      · rename_i ps hS
        split at hs
        · rename_i k
          have hk : iv = .int k := hq
          cases hj : ixN ps.length k with
          | none => rw [hj] at hs; cases hs
          | some j =>
            rw [hj] at hs
            cases hs
            obtain ⟨xs, h4, h5⟩ := R2.ob n a _ h3 hS
            obtain ⟨R3, st3⟩ := R2.write (o := .lst (xs.set j v)) (x := .lst (ps.set j p)) h3 fun H' s' e' => ⟨_, e', (by exact (s'.all h5).set (s'.val hp))⟩
            exact .inl ⟨a, xs, k, j, rfl, hk, h4, by rw [← h5.len]; exact hj, q _ _ _ (st.trans st3) R3 (E.step (st.trans st3))⟩
        · cases hs
      · rename_i ks ps hS
        split at hs
        · rename_i kk hkk
          split at hs
          · rename_i hlen
            cases hs
            obtain ⟨xs, h4, h5, h6, h7⟩ := R2.ob n a _ h3 hS
            have ek : iv = kV kk := pKey_is (isR_val hq) hkk
            obtain ⟨ys, b1, b2, b3, b4, _⟩ := put_is (k := kk) hp h5 h6 h7
            obtain ⟨R3, st3⟩ := R2.write (o := .dK (putK (ks.zip xs) kk v)) (x := .dic (putP ks ps kk p).1 (putP ks ps kk p).2) h3 fun H' s' e' => ⟨ys, by rw [e', b1], b2, b3, s'.all b4⟩
            refine .inr ⟨a, _, rfl, ?_, q _ _ _ (st.trans st3) R3 (E.step (st.trans st3))⟩
            rw [ek]
            exact DPut.k h4 (by rw [List.length_zip, h5, Nat.min_self, ← h5]; exact Nat.lt_of_lt_of_le hlen (by decide))
          · cases hs
        · cases hs
      · cases hs
    · cases hs
end
end DL
namespace DL
open PySem PySem.Spec PyProof.Rows L2
def NKat (d : Addr) (n : Nat) (H : Hp) : Prop := ∃ hs kv xs, H d = some (NDo d hs kv xs) ∧ hs.length = n ∧ kv.length = n ∧ xs.length = n
def NKof (d : Addr) (n : Nat) (H : Hp) (p : List V → List V → Prop) : Prop := ∀ hs kv xs, H d = some (NDo d hs kv xs) → hs.length = n → kv.length = n → xs.length = n → p kv xs
def Itnk (d : Addr) (n : Nat) : It := ⟨fun i H => NKat d n H ∧ i < n, fun i H x H' => H' = H ∧ NKof d n H fun kv _ => kv[i]? = some x, fun i H => NKat d n H ∧ n ≤ i⟩
section
variable {X : Cx} {pins : List (Addr × Obj)} {σ : L2.St} {H : Hp} {s : Shared} {d : Addr} {n : Nat}
theorem NKat.raw (I : Inv X pins σ H s) (h : NKat d n H) : ∃ es : Array DictEntry, (d == sysModules) = false ∧ s.heap.DictRaw d es es.size ∧ es.size = n ∧
    NKof d n H fun kv xs => ∀ i (hi : i < es.size), (∃ k, kv[i]? = some k ∧ RelV k es[i].key) ∧ ∃ v, xs[i]? = some v ∧ RelV v es[i].val := by
  have main : ∀ hs kv xs, H d = some (NDo d hs kv xs) → hs.length = n → kv.length = n → xs.length = n → ∃ es : Array DictEntry, (d == sysModules) = false ∧ s.heap.DictRaw d es es.size ∧ es.size = n ∧
      ∀ i (hi : i < es.size), (∃ k, kv[i]? = some k ∧ RelV k es[i].key) ∧ ∃ v, xs[i]? = some v ∧ RelV v es[i].val := fun hs kv xs e l1 l2 l3 => by
    obtain ⟨⟨o, es, us, vs, h1, h2, h3, h4, h5, h6, h7⟩, _⟩ := I.hok d _ e
    have l4 := h5.length
    have l5 := h6.length
    have hz : es.size = n := by
      rw [← Array.length_toList, h7, List.length_map, List.length_zip, List.length_zip]
      omega
    refine ⟨es, h4, ⟨o, h1, h2, h3⟩, hz, fun i hi => ?_⟩
    have hi2 : i < n := by omega
    have q : es[i] = ⟨hs[i]'(by omega), us[i]'(by omega), vs[i]'(by omega)⟩ := by
      have : es[i] = es.toList[i]'(by simpa using hi) := by simp
      rw [this]
      simp only [h7, List.getElem_map, List.getElem_zip]
    rw [q]
    obtain ⟨u, u1, u2⟩ := h5.get (List.getElem?_eq_getElem (l := kv) (i := i) (by omega))
    obtain ⟨w, w1, w2⟩ := h6.get (List.getElem?_eq_getElem (l := xs) (i := i) (by omega))
    rw [List.getElem?_eq_getElem (by omega)] at u1 w1
    exact ⟨⟨kv[i]'(by omega), List.getElem?_eq_getElem (by omega), by rw [Option.some.inj u1]; exact u2⟩, ⟨xs[i]'(by omega), List.getElem?_eq_getElem (by omega), by rw [Option.some.inj w1]; exact w2⟩⟩
  obtain ⟨hs, kv, xs, e, l1, l2, l3⟩ := h
  obtain ⟨es, e1, e2, e3, e4⟩ := main hs kv xs e l1 l2 l3
  refine ⟨es, e1, e2, e3, fun hs' kv' xs' e' l1' l2' l3' => ?_⟩
  obtain ⟨es', f1, f2, f3, f4⟩ := main hs' kv' xs' e' l1' l2' l3'
  have : es' = es := by
    obtain ⟨o, o1, o2, o3⟩ := e2
    obtain ⟨o', p1, p2, p3⟩ := f2
    rw [o1] at p1
    cases p1
    rw [o3] at p3
    cases p3
    rfl
  subst this
  exact f4
end
section
variable {P : Program} {w : World} {K : PySem.W.Frag} {tg : Expr} {d : Addr} {n : Nat}
theorem turn_nk (it : Addr) : Turn P w K tg (Itnk d n) [it] it (fun i h => h.IsKeyIter it d i n n) where
  mem := by simp
  obj := fun i h st b hb => by
    have e : b = it := by simpa using hb
    subst e
    obtain ⟨oi, e, c, dd⟩ := st
    exact ⟨oi, e, fun v z => by rw [dd] at z; cases z⟩
  keep := fun i h h' st k => st.at fun oi e => k it (by simp) oi e
  item := by
    intro X hP hw hK hc i pins s σ H E I hf st hg
    subst hP hw hK
    obtain ⟨hd, hi⟩ := hg
    obtain ⟨f0, f1, f2, f3, f4, f5⟩ := hf it (by simp)
    obtain ⟨es, hs, hr, hz, hk⟩ := hd.raw I
    subst hz
    obtain ⟨hs0, kv0, xs0, q1, q2, q3, q4⟩ := id hd
    obtain ⟨⟨k, k1, k2⟩, _⟩ := hk _ _ _ q1 q2 q3 q4 i hi
    refine wpAny_pyNext_keys_item_raw st hr hi fun h' st' sb => ?_
    have I1 : Inv X pins σ H { s with heap := h' } := I.turned (t' := s.toks) (fun b ob hb e => (sb.2 b hb).trans e) f0 f1 f3 f4 f5
    obtain ⟨oi, e, c, dd⟩ := id st'
    refine ⟨es[i].key, rfl, go_of (s := { s with heap := h' }) e c dd (by decide) ⟨k, H, I1, k2, ⟨rfl, fun hs2 kv2 xs2 p1 p2 p3 p4 => ?_⟩, st', fun b hb => (hf b hb).1⟩⟩
    obtain ⟨⟨k', m1, m2⟩, _⟩ := hk _ _ _ p1 p2 p3 p4 i hi
    rw [m1, RelV.inj m2 k2]
  done := by
    intro X hP hw hK hc i pins s σ H E I hf st hg
    subst hP hw hK
    obtain ⟨hd, hi⟩ := hg
    obtain ⟨f0, f1, f2, f3, f4, f5⟩ := hf it (by simp)
    obtain ⟨es, hs, hr, hz, hk⟩ := hd.raw I
    subst hz
    exact wpAny_pyNext_keys_end_raw (I.ok.hd hc) st hr hi fun h' eb => ⟨rfl, I.turned (t' := s.toks) (fun b ob hb e => eb b ob hb e) f0 f1 f3 f4 f5⟩
  self := fun A i s Q E st h => wpAny_pyIter_keyiter st h
end
end DL
namespace DL
open PySem PySem.Spec PyProof.Rows L2
variable [Tb]
def Oc.fl {α : Type} : Oc α → (α → Sto → Flo) → Flo
  | .ok a S, f => f a S
  | .bad, _ => .bad
@[simp] theorem Oc.fl_ok {α : Type} (a : α) (S : Sto) (f : α → Sto → Flo) : (Oc.ok a S).fl f = f a S := rfl
@[simp] theorem Oc.fl_bad {α : Type} (f : α → Sto → Flo) : (Oc.bad : Oc α).fl f = .bad := rfl
def fNext : FS := fun env S => .nx env S
def fBreak : FS := fun env S => .bk env S
def Flo.seq : Flo → FS → Flo
  | .nx env S, g => g env S
  | f, _ => f
@[simp] theorem Flo.seq_nx (env : Dnv) (S : Sto) (g : FS) : (Flo.nx env S).seq g = g env S := rfl
@[simp] theorem Flo.seq_rt (d : D) (S : Sto) (g : FS) : (Flo.rt d S).seq g = .rt d S := rfl
@[simp] theorem Flo.seq_bad (g : FS) : Flo.bad.seq g = .bad := rfl
@[simp] theorem Flo.seq_bk (env : Dnv) (S : Sto) (g : FS) : (Flo.bk env S).seq g = .bk env S := rfl
@[simp] theorem Flo.seq_ct (env : Dnv) (S : Sto) (g : FS) : (Flo.ct env S).seq g = .ct env S := rfl
def fSeq (f g : FS) : FS := fun env S => (f env S).seq g
def fSet (f : FE) (g : FG) : FS := fun env S => (f env S).fl fun d S1 => (g d env S1).fl fun env2 S2 => .nx env2 S2
def fDrop (f : FE) : FS := fun env S => (f env S).fl fun _ S1 => .nx env S1
def fRet (f : FE) : FS := fun env S => (f env S).fl fun d S1 => .rt d S1
def fIf (t : FT) (f g : FS) : FS := fun env S => (t env S).fl fun b S1 => if b = true then f env S1 else g env S1
def fNever : FS := fun _ _ => .bad
theorem Oc.fl_ne {α : Type} {K : PySem.W.Frag} {m : Mp} {H : Hp} {E : Ends} {o : Oc α} {f : α → Sto → Flo} (h : FloOk K m H E (o.fl f)) : ∃ a S, o = .ok a S ∧ FloOk K m H E (f a S) := by
  cases o with
  | ok a S => exact ⟨a, S, rfl, h⟩
  | bad => exact h.elim
section
variable {X : Cx} {e : Expr} {st : Stmt} {rest : List Stmt} {f : FE} {g : FG} {a b : FS} {t : FT} {pos : Pos}
theorem s_nil : PSsd X [] fNext := pss_weak pss_nil fun D σ H ⟨m, env, S, R, E, q⟩ => q m H σ (Stp.refl m H) R E
theorem seq_ok {K : PySem.W.Frag} {m : Mp} {H : Hp} {D : Ends} {r : Flo} {g : FS} (h : FloOk K m H D (r.seq g)) : FloOk K m H { D with nx := TDs K g D } r := by
  cases r with
  | nx env S => exact fun m' H' σ st R E => ⟨m', env, S, R, E, h.step st⟩
  | rt d S => exact h
  | bk env S => exact h
  | ct env S => exact h
  | bad => exact h
theorem s_cons (h1 : PSd X st a) (h2 : PSsd X rest b) : PSsd X (st :: rest) (fSeq a b) := pss_weak (pss_cons h1 h2) fun D σ H ⟨m, env, S, R, E, q⟩ => ⟨m, env, S, R, E, seq_ok q⟩
theorem s_one (h1 : PSd X st a) : PSsd X [st] a := pss_one h1
theorem s_break : PSd X (.Break pos) fBreak := ps_weak ps_break fun D σ H ⟨m, env, S, R, E, q⟩ => q m H σ (Stp.refl m H) R E
theorem s_drop (he : PEd X e f) (hs : swapsWith e none pos.line X.env = pure false := by rfl) : PSd X (.Expr e pos) (fDrop f) := ps_weak (ps_expr he hs) fun D σ H ⟨m, env, S, R, E, q⟩ => by
  obtain ⟨d, S1, k1, q⟩ := Oc.fl_ne q
  exact ⟨m, env, S, R, E, d, S1, k1, fun v m1 H1 st1 R1 i1 => q m1 H1 σ st1 R1 (E.step st1)⟩
theorem s_ret (he : PEd X e f) : PSd X (.Return (some e) pos) (fRet f) := ps_weak (ps_ret he) fun D σ H ⟨m, env, S, R, E, q⟩ => by
  obtain ⟨d, S1, k1, q⟩ := Oc.fl_ne q
  exact ⟨m, env, S, R, E, d, S1, k1, fun v m1 H1 st1 R1 i1 => q v m1 H1 st1 R1 i1⟩
theorem s_if {c : Expr} {s1 s2 : List Stmt} (hc : PTd X c t) (ha : PSsd X s1 a) (hb : PSsd X s2 b) : PSd X (.If c s1 s2 pos) (fIf t a b) := ps_weak (ps_if hc ha hb) fun D σ H ⟨m, env, S, R, E, q⟩ => by
  obtain ⟨k, S1, k1, q⟩ := Oc.fl_ne q
  refine ⟨m, env, S, R, E, k, S1, k1, fun m1 H1 st1 R1 => ?_⟩
  cases k with
  | true =>
    rw [if_pos rfl] at q ⊢
    exact ⟨m1, env, S1, R1, E.step st1, q.step st1⟩
  | false =>
    rw [if_neg (by decide)] at q ⊢
    exact ⟨m1, env, S1, R1, E.step st1, q.step st1⟩
theorem asg_ok {K : PySem.W.Frag} {D : Ends} {σ : L2.St} {H : Hp} (h : TDs K (fSet f g) D σ H) : tAsg (TD K f) (TDg K g) D σ H := by
  obtain ⟨m, env, S, R, E, q⟩ := h
  obtain ⟨d, S1, k1, q⟩ := Oc.fl_ne q
  obtain ⟨env2, S2, k2, q⟩ := Oc.fl_ne q
  exact ⟨m, env, S, R, E, d, S1, k1, fun v m1 H1 st1 R1 i1 => ⟨m1, env, S1, d, R1, E.step st1, i1, env2, S2, k2, fun m2 H2 σ2 st2 R2 E2 => q m2 H2 σ2 (st1.trans st2) R2 E2⟩⟩
theorem s_asg {tg : Expr} (he : PEd X e f) (hg : PGd X tg g) (hs : swapsWithSole [tg] e pos.line X.env = pure false := by rfl) (hw : swappedStores [tg] e X.env = pure none := by rfl)
    (h1 : (assignEach [tg] X.env).map (·.2) = [assign tg X.env] := by rfl) : PSd X (.Assign [tg] e pos) (fSet f g) := ps_weak (ps_asg he hg hs hw h1) fun D σ H h => asg_ok h
def fPar (i j : Nat) (g : FA) : FS := fun env S => (g env S).fl fun ds S1 => match ds with
  | [d, e] => .nx ((env.set i (some d)).set j (some e)) S1
  | _ => .bad
theorem s_par (hX : SX X) {i j : Nat} {x y : Str} {a b : Expr} {g : FA} {px py pt : Pos} {kt k2 pt2} (ha : PAd X [a, b] g)
    (hw : swappedStores [.Tuple [.Name x px, .Name y py] kt pt] (.Tuple [a, b] k2 pt2) X.env = pure (some [x, y]) := by rfl)
    (hi : X.N[i]? = some x := by rfl) (hj : X.N[j]? = some y := by rfl) (hij : i ≠ j := by decide)
    (hx : X.env.scope.names.lookup x = some .local := by rfl) (hy : X.env.scope.names.lookup y = some .local := by rfl)
    (hs : swapsWithSole [.Tuple [.Name x px, .Name y py] kt pt] (.Tuple [a, b] k2 pt2) pos.line X.env = pure false := by rfl) :
    PSd X (.Assign [.Tuple [.Name x px, .Name y py] kt pt] (.Tuple [a, b] k2 pt2) pos) (fPar i j g) := ps_weak (ps_par hX.calm hX.nd hi hj hij hx hy ha hw hs) fun D σ H ⟨m, env, S, R, E, q⟩ => by
  obtain ⟨ds, S1, k1, q⟩ := Oc.fl_ne q
  refine ⟨m, env, S, R, E, ds, S1, k1, fun vs m1 H1 st1 R1 i1 => ?_⟩
  split at q
  · obtain ⟨v, ws, rfl, h2, h3⟩ := i1
    obtain ⟨w, ws, rfl, h4, h5⟩ := h3
    have h5' : ws = [] := h5
    subst h5'
    exact ⟨v, w, rfl, q m1 H1 _ st1 R1 (((E.step st1).set h2).set h4)⟩
  · exact q.elim
end
structure Wk (m : Mp) (H : Hp) (m' : Mp) (H' : Hp) : Prop where
  ext : ∀ (r : Nat) (a : Addr), m.l[r]? = some a → m'.l[r]? = some a
  ex : Exh (mask m H) (mask m' H')
  co : ∀ p, p ∈ m.c.o → p ∈ m'.c.o
theorem Stp.wk {m m' : Mp} {H H' : Hp} (s : Stp m H m' H') : Wk m H m' H' := ⟨s.ext, s.ex, s.co⟩
theorem Wk.trans {m m' m2 : Mp} {H H' H2 : Hp} (a : Wk m H m' H') (b : Wk m' H' m2 H2) : Wk m H m2 H2 := ⟨fun r x h => b.ext r x (a.ext r x h), fun x o h => b.ex x o (a.ex x o h), fun p h => b.co p (a.co p h)⟩
theorem Wk.refl (m : Mp) (H : Hp) : Wk m H m H := (Stp.refl m H).wk
inductive Wo where
  | l (r : Nat)
  | k (r : Nat)
  | o (r j : Nat)
instance : Coe Nat Wo := ⟨.l⟩
abbrev Own := Option Wo
def Wo.ok (all : List P) (S : Sto) : Wo → Prop
  | .l r => S[r]? = some (.lst all)
  | .k r => (∃ ps, S[r]? = some (.dn all ps)) ∨ ∃ cs, S[r]? = some (.dl all cs)
  | .o r j => deP S (.o r j) = some (.lst all)
def OwnOk (own : Own) (all : List P) (S : Sto) : Prop := ∀ r, own = some r → r.ok all S
@[simp] theorem ownOk_none (all : List P) (S : Sto) : OwnOk none all S := fun _ h => nomatch h
@[simp] theorem ownOk_some (r : Nat) (all : List P) (S : Sto) : OwnOk (some r) all S ↔ S[r]? = some (.lst all) := ⟨fun h => h _ rfl, fun h _ e => by cases e; exact h⟩
theorem ownOk_wo {r : Wo} {all : List P} {S : Sto} : OwnOk (some r) all S ↔ r.ok all S := ⟨fun h => h _ rfl, fun h _ e => by cases e; exact h⟩
structure ItD (K : PySem.W.Frag) (m : Mp) (H : Hp) (J : It) (ps : List P) (own : Own) : Prop where
  go : ∀ (i : Nat) (p : P) (m2 : Mp) (H2 : Hp) (S2 : Sto), ps[i]? = some p → Wk m H m2 H2 → Rel K m2 H2 S2 → OwnOk own ps S2 → J.go i H2 ∧ ∀ x H3, J.yld i H2 x H3 → Rel K m2 H3 S2 ∧ Stp m2 H2 m2 H3 ∧ Is K (mask m2 H3) p x ∧ ∀ b o, H2 b = some o → H3 b = some o
  stop : ∀ (i : Nat) (m2 : Mp) (H2 : Hp) (S2 : Sto), ps.length ≤ i → Wk m H m2 H2 → Rel K m2 H2 S2 → OwnOk own ps S2 → J.stop i H2
abbrev FI := Dnv → Sto → Oc (List P × Own)
def TDi (K : PySem.W.Frag) (f : FI) : TI := fun σ H W => ∃ m env S, Rel K m H S ∧ EnvIs K m (mask m H) σ env ∧ ∃ ps own S', f env S = .ok (ps, own) S' ∧
  ∀ m' H' J, Stp m H m' H' → Rel K m' H' S' → ItD K m' H' J ps own → W J H'
abbrev PId (X : Cx) (tg e : Expr) (f : FI) : Prop := PI X tg e (TDi X.K f)
theorem pi_weak {X : Cx} {tg e : Expr} {t t' : TI} (h : PI X tg e t) (q : ∀ σ H W, t' σ H W → t σ H W) : PI X tg e t' := ⟨fun pins s σ H W I w => h.run pins s σ H W I (q σ H W w)⟩
section
variable {K : PySem.W.Frag} {m : Mp} {H : Hp} {S : Sto}
theorem itd_seq {a : Addr} {ps : List P} {own : Own} (h : ∀ (m2 : Mp) (H2 : Hp) (S2 : Sto), Wk m H m2 H2 → Rel K m2 H2 S2 → OwnOk own ps S2 → ∃ xs, SqL K H2 a xs ∧ IsAll K (mask m2 H2) ps xs) : ItD K m H (Itl K a) ps own where
  go := fun i p m2 H2 S2 hp w R o => by
    obtain ⟨xs, h1, h2⟩ := h m2 H2 S2 w R o
    obtain ⟨v, h3, h4⟩ := h2.get hp
    refine ⟨⟨xs, v, h1, h3⟩, fun x H3 y => ?_⟩
    obtain ⟨rfl, y⟩ := y
    have e := y xs h1
    rw [h3] at e
    cases e
    exact ⟨R, Stp.refl _ _, h4, fun _ _ z => z⟩
  stop := fun i m2 H2 S2 hl w R o => by
    obtain ⟨xs, h1, h2⟩ := h m2 H2 S2 w R o
    exact ⟨xs, h1, by rw [← h2.len]; exact hl⟩
theorem itd_tup {a : Addr} {ps : List P} (h : ∀ (m2 : Mp) (H2 : Hp), Wk m H m2 H2 → ∃ xs, SqT K H2 a xs ∧ IsAll K (mask m2 H2) ps xs) : ItD K m H (Itt K a) ps none where
  go := fun i p m2 H2 S2 hp w R o => by
    obtain ⟨xs, h1, h2⟩ := h m2 H2 w
    obtain ⟨v, h3, h4⟩ := h2.get hp
    refine ⟨⟨xs, v, h1, h3⟩, fun x H3 y => ?_⟩
    obtain ⟨rfl, y⟩ := y
    have e := y xs h1
    rw [h3] at e
    cases e
    exact ⟨R, Stp.refl _ _, h4, fun _ _ z => z⟩
  stop := fun i m2 H2 S2 hl w R o => by
    obtain ⟨xs, h1, h2⟩ := h m2 H2 w
    exact ⟨xs, h1, by rw [← h2.len]; exact hl⟩
theorem itd_rng {lo : Int} {n : Nat} : ItD K m H (Itr lo n) ((List.range n).map fun i : Nat => .int (lo + i)) none where
  go := fun i p m2 H2 S2 hp w R o => by
    rw [List.getElem?_map] at hp
    obtain ⟨j, h1, h2⟩ := Option.map_eq_some_iff.mp hp
    have hl := lt_of_at h1
    rw [List.length_range] at hl
    rw [List.getElem?_range hl] at h1
    cases h1
    refine ⟨hl, fun x H3 y => ?_⟩
    obtain ⟨rfl, rfl⟩ := y
    rw [← h2]
    exact ⟨R, Stp.refl _ _, rfl, fun _ _ z => z⟩
  stop := fun i m2 H2 S2 hl w R o => by
    rw [List.length_map, List.length_range] at hl
    exact hl
def signs (x : Str) : List P := x.cps.toList.map fun c => .str ⟨#[c]⟩
theorem itd_str {x : Str} : ItD K m H (Its x) (signs x) none where
  go := fun i p m2 H2 S2 hp w R o => by
    unfold signs at hp
    rw [List.getElem?_map] at hp
    obtain ⟨c, h1, h2⟩ := Option.map_eq_some_iff.mp hp
    have hl := lt_of_at h1
    refine ⟨show i < x.cps.size by simpa using hl, fun z H3 y => ?_⟩
    obtain ⟨rfl, c2, h3, rfl⟩ := y
    have : c2 = c := by
      have e : x.cps.toList[i]? = some c2 := by simpa using h3
      rw [h1] at e
      exact (Option.some.inj e).symm
    rw [← h2, this]
    exact ⟨R, Stp.refl _ _, rfl, fun _ _ z => z⟩
  stop := fun i m2 H2 S2 hl w R o => by
    unfold signs at hl
    rw [List.length_map] at hl
    exact (show x.cps.size ≤ i by simpa using hl)
end
def iAny (K : PySem.W.Frag) (tl : TE) : TI := fun σ H R => tl σ H fun x H1 => (∃ a, x = .ref a ∧ (∃ xs, SqL K H1 a xs) ∧ R (Itl K a) H1) ∨ (∃ a, x = .ref a ∧ (∃ xs, SqT K H1 a xs) ∧ R (Itt K a) H1) ∨ (∃ z, x = .str z ∧ R (Its z) H1) ∨ (∃ d n, x = .ref d ∧ NKat d n H1 ∧ R (Itnk d n) H1)
theorem pi_any {X : Cx} {tg e : Expr} {tl : TE} (hl : PE X e tl) : PI X tg e (iAny X.K tl) := by
  refine ⟨fun pins s σ H R I h => ?_⟩
  refine thn (hl.run pins s σ H _ I h) fun v s1 ⟨x, H1, I1, r1, q1⟩ => ?_
  have mine : ∀ {Ts : Heap → Nat → Addr → Prop} {o : Obj}, Inv X pins σ H1 { s1 with heap := s1.heap.push o } := fun {Ts o} => I1.kept (t' := s1.toks) fun b o e => Heap.get?_push_of_some _ e
  have fpo : ∀ b ∈ [s1.heap.objs.size], FpOk X pins H1 b := fun b hb => by
    have e : b = s1.heap.objs.size := by simpa using hb
    subst e
    exact I1.fpOk (Nat.le_refl _) (I1.hok.fresh (Nat.le_refl _))
  rcases q1 with ⟨a, rfl, ⟨xs, hq⟩, q⟩ | ⟨a, rfl, ⟨xs, hq⟩, q⟩ | ⟨z, rfl, q⟩ | ⟨d, n, rfl, hn, q⟩
  · obtain rfl : v = Value.ref a := r1
    obtain ⟨its, rv, p, hz⟩ := I1.list hq
    refine wpAny_pyIter_list p.isList ?_
    exact ⟨s1.heap.objs.size, [s1.heap.objs.size], _, _, H1, rfl, I1.kept (t' := s1.toks) fun b o e => Heap.get?_push_of_some _ e, turn_list a _, ⟨_, Heap.get?_push_size _ rfl, rfl, rfl⟩, fpo, q⟩
  · obtain rfl : v = Value.ref a := r1
    obtain ⟨its, rv, p, hz⟩ := I1.tuple hq
    refine wpAny_pyIter_tuple (show s1.heap.IsTuple a its.toArray from p) ?_
    exact ⟨s1.heap.objs.size, [s1.heap.objs.size], _, _, H1, rfl, I1.kept (t' := s1.toks) fun b o e => Heap.get?_push_of_some _ e, turn_tuple a _, ⟨_, Heap.get?_push_size _ rfl, rfl, rfl⟩, fpo, q⟩
  · obtain ⟨t, rfl⟩ := r1
    cases ha : z.cps.all (· < 128)
    · exact wpAny_pyIter_wide ha (pi_one (tk := s1.toks) I1 _ (turn_str _ z t "str_iterator" (.inr rfl)) ⟨_, Heap.get?_push_size _ rfl, rfl, rfl⟩ q)
    · exact wpAny_pyIter_ascii ha (pi_one (tk := s1.toks) I1 _ (turn_str _ z t "str_ascii_iterator" (.inl rfl)) ⟨_, Heap.get?_push_size _ rfl, rfl, rfl⟩ q)
  · obtain rfl : v = Value.ref d := r1
    obtain ⟨es, hs, hr, hz, hk⟩ := hn.raw I1
    subst hz
    exact wpAny_pyIter_dict_raw hs hr (pi_one (tk := s1.toks) I1 _ (turn_nk _) ⟨_, Heap.get?_push_size _ rfl, rfl, rfl⟩ q)
def seqOf (d : D) (S : Sto) : Option (List P × Own) := match d with
  | .v (.lst ps) => some (ps, none)
  | .v (.frz ps) => some (ps, none)
  | .v (.tup ps) => some (ps, none)
  | .v (.str x) => some (signs x, none)
  | .v (.dn ks _) => some (ks, none)
  | .r n => match S[n]? with
    | some (.lst ps) => some (ps, some (.l n))
    | some (.dn ks _) => some (ks, some (.k n))
    | some (.dl ks _) => some (ks, some (.k n))
    | _ => none
  | .o n j => match deP S (.o n j) with
    | some (.lst ps) => some (ps, some (.o n j))
    | _ => none
  | _ => none
theorem itd_nk {K : PySem.W.Frag} {m : Mp} {H : Hp} {a : Addr} {ks : List P} {own : Own} (h : ∀ (m2 : Mp) (H2 : Hp) (S2 : Sto), Wk m H m2 H2 → Rel K m2 H2 S2 → OwnOk own ks S2 → ∃ hs kv xs, H2 a = some (NDo a hs kv xs) ∧ hs.length = ks.length ∧ xs.length = ks.length ∧ IsAll K (mask m2 H2) ks kv) : ItD K m H (Itnk a ks.length) ks own where
  go := fun i p m2 H2 S2 hp w R o => by
    obtain ⟨hs, kv, xs, h1, h2, h3, h4⟩ := h m2 H2 S2 w R o
    obtain ⟨v, h5, h6⟩ := h4.get hp
    refine ⟨⟨⟨hs, kv, xs, h1, h2, h4.len.symm, h3⟩, lt_of_at hp⟩, fun x H3 y => ?_⟩
    obtain ⟨rfl, y⟩ := y
    have e : kv[i]? = some x := y hs kv xs h1 h2 h4.len.symm h3
    rw [h5] at e
    cases e
    exact ⟨R, Stp.refl _ _, h6, fun _ _ z => z⟩
  stop := fun i m2 H2 S2 hl w R o => by
    obtain ⟨hs, kv, xs, h1, h2, h3, h4⟩ := h m2 H2 S2 w R o
    exact ⟨⟨hs, kv, xs, h1, h2, h4.len.symm, h3⟩, hl⟩
theorem hashNs_len {hf : Str → Int} : ∀ ns : List NestedKey, (hashNs hf ns).length = ns.length
  | [] => rfl
  | n :: ns => by
    unfold hashNs
    simp [hashNs_len ns]
theorem nkPs_len : ∀ {ps : List P} {ns : List NestedKey}, nkPs ps = some ns → ns.length = ps.length
  | [], ns, h => by cases h; rfl
  | p :: ps, ns, h => by
    unfold nkPs at h
    split at h
    · rename_i h1 h2
      cases h
      simp [nkPs_len h2]
    · cases h
def iVal (f : FE) : FI := fun env S => (f env S).bind fun d S1 => match seqOf d S1 with
  | some r => .ok r S1
  | none => .bad
theorem i_val {X : Cx} {tg e : Expr} {f : FE} (h : PEd X e f) : PId X tg e (iVal f) := pi_weak (pi_any h) fun σ H W ⟨m, env, S, R, E, ps, own, S', e1, q⟩ => by
  obtain ⟨d, S1, k1, e2⟩ := Oc.bind_eq e1
  refine ⟨m, env, S, R, E, d, S1, k1, fun v m1 H1 st1 R1 i1 => ?_⟩
  cases h1 : seqOf d S1 with
  | none => rw [h1] at e2; cases e2
  | some r =>
    rw [h1] at e2
    cases e2
    unfold seqOf at h1
    split at h1
    · cases h1
      obtain ⟨a, xs, rfl, h2, h3⟩ := i1
      exact .inl ⟨a, rfl, ⟨xs, .of (mask_some h2).2⟩, q m1 H1 _ st1 R1 (itd_seq fun m2 H2 S2 w R2 o => ⟨xs, .of (mask_some (w.ex _ _ h2)).2, IsAll.mono w.ex _ _ h3⟩)⟩
    · cases h1
      obtain ⟨a, xs, rfl, h2, h3⟩ := i1
      exact .inl ⟨a, rfl, ⟨xs, sqL_mono (mask_ex _ _) h2⟩, q m1 H1 _ st1 R1 (itd_seq fun m2 H2 S2 w R2 o => ⟨xs, sqL_mono (mask_ex _ _) (sqL_mono w.ex h2), IsAll.mono w.ex _ _ h3⟩)⟩
    · cases h1
      obtain ⟨a, xs, rfl, h2, h3⟩ := i1
      exact .inr (.inl ⟨a, rfl, ⟨xs, sqT_mono (mask_ex _ _) h2⟩, q m1 H1 _ st1 R1 (itd_tup fun m2 H2 w => ⟨xs, sqT_mono (mask_ex _ _) (sqT_mono w.ex h2), IsAll.mono w.ex _ _ h3⟩)⟩)
    · cases h1
      exact .inr (.inr (.inl ⟨_, i1, q m1 H1 _ st1 R1 itd_str⟩))
    · cases h1
      obtain ⟨a, as, xs, ns, rfl, h2, h3, h4, h5, h6, h7, h8⟩ := i1
      refine .inr (.inr (.inr ⟨a, _, rfl, ⟨_, _, _, (mask_some h2).2, (hashNs_len ns).trans (nkPs_len h3), h7.len.symm, h5⟩, q m1 H1 _ st1 R1 (itd_nk fun m2 H2 S2 w R2 o => ⟨_, _, _, (mask_some (w.ex _ _ h2)).2, (hashNs_len ns).trans (nkPs_len h3), h5, IsAll.mono w.ex _ _ h7⟩)⟩))
    · rename_i n
      split at h1
      · rename_i ps' hS
        cases h1
        obtain ⟨a, rfl, h2⟩ := i1
        obtain ⟨xs, h3, h4⟩ := R1.ob n a _ h2 hS
        exact .inl ⟨a, rfl, ⟨xs, .of h3⟩, q m1 H1 _ st1 R1 (itd_seq fun m2 H2 S2 w R2 o => by
          obtain ⟨ys, h5, h6⟩ := R2.ob n a _ (w.ext _ _ h2) (o _ rfl)
          exact ⟨ys, .of h5, h6⟩)⟩
      · rename_i ks' ps' hS
        cases h1
        obtain ⟨a, rfl, h2⟩ := i1
        have go : ∀ (m2 : Mp) (H2 : Hp) (S2 : Sto), Wk m1 H1 m2 H2 → Rel X.K m2 H2 S2 → OwnOk (some (.k n)) ps S2 → ∃ hs kv xs, H2 a = some (NDo a hs kv xs) ∧ hs.length = ps.length ∧ xs.length = ps.length ∧ IsAll X.K (mask m2 H2) ps kv := fun m2 H2 S2 w R2 o => by
          rcases o _ rfl with ⟨ps2, o⟩ | ⟨cs2, o⟩
          · obtain ⟨as, xs, ns, z1, z2, z3, z4, z5, z6, z7⟩ := R2.ob n a _ (w.ext _ _ h2) o
            exact ⟨_, _, _, z1, (hashNs_len ns).trans (nkPs_len z2), z4, z6⟩
          · obtain ⟨as, bs, ns, z1, z2, z3, z4, z5, z6, z7⟩ := R2.ob n a _ (w.ext _ _ h2) o
            exact ⟨_, _, _, z1, (hashNs_len ns).trans (nkPs_len z2), (List.length_map ..).trans z4, z6⟩
        obtain ⟨hs, kv, xs, z1, z2, z3, z4⟩ := go m1 H1 _ (Wk.refl _ _) R1 (ownOk_wo.mpr (.inl ⟨_, hS⟩))
        exact .inr (.inr (.inr ⟨a, _, rfl, ⟨hs, kv, xs, z1, z2, z4.len.symm, z3⟩, q m1 H1 _ st1 R1 (itd_nk go)⟩))
      · rename_i ks' cs' hS
        cases h1
        obtain ⟨a, rfl, h2⟩ := i1
        have go : ∀ (m2 : Mp) (H2 : Hp) (S2 : Sto), Wk m1 H1 m2 H2 → Rel X.K m2 H2 S2 → OwnOk (some (.k n)) ps S2 → ∃ hs kv xs, H2 a = some (NDo a hs kv xs) ∧ hs.length = ps.length ∧ xs.length = ps.length ∧ IsAll X.K (mask m2 H2) ps kv := fun m2 H2 S2 w R2 o => by
          rcases o _ rfl with ⟨ps2, o⟩ | ⟨cs2, o⟩
          · obtain ⟨as, xs, ns, z1, z2, z3, z4, z5, z6, z7⟩ := R2.ob n a _ (w.ext _ _ h2) o
            exact ⟨_, _, _, z1, (hashNs_len ns).trans (nkPs_len z2), z4, z6⟩
          · obtain ⟨as, bs, ns, z1, z2, z3, z4, z5, z6, z7⟩ := R2.ob n a _ (w.ext _ _ h2) o
            exact ⟨_, _, _, z1, (hashNs_len ns).trans (nkPs_len z2), (List.length_map ..).trans z4, z6⟩
        obtain ⟨hs, kv, xs, z1, z2, z3, z4⟩ := go m1 H1 _ (Wk.refl _ _) R1 (ownOk_wo.mpr (.inr ⟨_, hS⟩))
        exact .inr (.inr (.inr ⟨a, _, rfl, ⟨hs, kv, xs, z1, z2, z4.len.symm, z3⟩, q m1 H1 _ st1 R1 (itd_nk go)⟩))
      · cases h1
    · rename_i n j
      split at h1
      · rename_i ps' hS
        cases h1
        obtain ⟨a, xs, rfl, h3, h4⟩ := isR_of R1 i1 hS
        exact .inl ⟨a, rfl, ⟨xs, .of h3⟩, q m1 H1 _ st1 R1 (itd_seq fun m2 H2 S2 w R2 o => by
          obtain ⟨b, ys, e, h5, h6⟩ := isR_of R2 (i1.mono w.ext w.ex w.co) (o _ rfl)
          cases e
          exact ⟨ys, .of h5, h6⟩)⟩
      · cases h1
    · cases h1
def intsD : List D → Option (List Int)
  | [] => some []
  | .v (.int i) :: ds => (intsD ds).map (i :: ·)
  | _ :: _ => none
def iR1 (g : FA) : FI := fun env S => (g env S).bind fun ds S1 => match intsD ds with
  | some [n] => if -1000000 ≤ n ∧ n ≤ 1000000 then .ok ((List.range n.toNat).map fun i : Nat => .int ((0 : Int) + i), none) S1 else .bad
  | _ => .bad
def iR2 (g : FA) : FI := fun env S => (g env S).bind fun ds S1 => match intsD ds with
  | some [a, b] => if (-1000000 ≤ a ∧ a ≤ 1000000) ∧ (-1000000 ≤ b ∧ b ≤ 1000000) then .ok ((List.range (b - a).toNat).map fun i : Nat => .int (a + i), none) S1 else .bad
  | _ => .bad
theorem ints_is {K : PySem.W.Frag} {m : Mp} {G : Hp} : ∀ {ds : List D} {ns : List Int} {vs : List V}, intsD ds = some ns → IsDs K m G ds vs → vs = ns.map V.int
  | [], ns, vs, h, i => by
    cases h
    exact i
  | .v (.int i) :: ds, ns, vs, h, ⟨v, ws, h1, h2, h3⟩ => by
    unfold intsD at h
    obtain ⟨ms, h4, h5⟩ := Option.map_eq_some_iff.mp h
    subst h5
    have e := ints_is h4 h3
    subst e
    subst h1
    have h2' : v = .int i := h2
    rw [h2']
    rfl
  | .r _ :: _, _, _, h, _ => by cases h
  | .o _ _ :: _, _, _, h, _ => by cases h
  | .v .non :: _, _, _, h, _ => by cases h
  | .v (.bl _) :: _, _, _, h, _ => by cases h
  | .v (.str _) :: _, _, _, h, _ => by cases h
  | .v (.tup _) :: _, _, _, h, _ => by cases h
  | .v (.lst _) :: _, _, _, h, _ => by cases h
  | .v (.frz _) :: _, _, _, h, _ => by cases h
  | .v (.dic _ _) :: _, _, _, h, _ => by cases h
  | .v (.fn _) :: _, _, _, h, _ => by cases h
  | .v (.dn _ _) :: _, _, _, h, _ => by cases h
  | .v (.exn _ _ _ _ _) :: _, _, _, h, _ => by cases h
  | .v (.adr _) :: _, _, _, h, _ => by cases h
theorem i_rng1 {X : Cx} {tg a : Expr} {g : FA} {p pos : Pos} (hm : X.mg "range" = none) (ha : PAd X [a] g) (hg : Gl X "range" := by rfl) (hs : starEach [a] X.env = [(false, eval a X.env)] := by rfl) : PId X tg (.Call (.Name "range" p) [a] [] pos) (iR1 g) :=
  pi_weak (pi_range1 hg hm ha hs) fun σ H W ⟨m, env, S, R, E, ps, own, S', e1, q⟩ => by
  obtain ⟨ds, S1, k1, e2⟩ := Oc.bind_eq e1
  refine ⟨m, env, S, R, E, ds, S1, k1, fun vs m1 H1 st1 R1 i1 => ?_⟩
  split at e2
  · rename_i n hn
    split at e2
    · rename_i hb
      cases e2
      have ev := ints_is hn i1
      exact ⟨n, ev, by omega, by omega, q m1 H1 _ st1 R1 itd_rng⟩
    · cases e2
  · cases e2
open Classical in
noncomputable def loopF (own : Own) (all : List P) (g : FG) (b : FS) : List P → Dnv → Sto → Flo
  | [], env, S => if OwnOk own all S then .nx env S else .bad
  | p :: ps, env, S => if OwnOk own all S then (g (.v p) env S).fl fun env1 S1 => match b env1 S1 with
    | .nx e s => loopF own all g b ps e s
    | .ct e s => loopF own all g b ps e s
    | .bk e s => .nx e s
    | .rt d s => .rt d s
    | .bad => .bad else .bad
noncomputable def fFor (it : FI) (g : FG) (b : FS) : FS := fun env S => (it env S).fl fun r S1 => loopF r.2 r.1 g b r.1 env S1
def whileF (t : FT) (b : FS) : Nat → Dnv → Sto → Flo
  | 0, _, _ => .bad
  | n + 1, env, S => (t env S).fl fun k S1 => if k = true then match b env S1 with
    | .nx e s => whileF t b n e s
    | .ct e s => whileF t b n e s
    | .bk e s => .nx e s
    | .rt d s => .rt d s
    | .bad => .bad else .nx env S1
def fWhile (t : FT) (b : FS) : FS := fun env S => whileF t b 100000 env S
section
variable {X : Cx} {pos : Pos} {it : FI} {g : FG} {b : FS} {t : FT}
theorem s_for (hX : SX X) (hp : PassesOwn (model X.prog X.w) X.A X.env X.xe) {tg iter : Expr} {body : List Stmt} (hi : PId X tg iter it) (hg : PGd X tg g) (hb : PSsd X body b) (hs : ∀ x, foldedSetIterable iter X.env x = pure x := by intro _; rfl) :
    PSd X (.For tg iter body [] pos) (fFor it g b) := ps_weak (ps_for hp hX.calm hi hg hb hs) fun D σ H ⟨m, env, S, R, E, q⟩ => by
  obtain ⟨⟨ps, own⟩, S1, k1, q⟩ := Oc.fl_ne q
  refine ⟨m, env, S, R, E, ps, own, S1, k1, fun m1 H1 J st1 R1 T => ?_⟩
  have q : FloOk X.K m1 H1 D (loopF own ps g b ps env S1) := q.step st1
  refine ⟨fun i k σ2 H2 => k + i = ps.length ∧ ∃ m2 env2 S2, Stp m1 H1 m2 H2 ∧ Rel X.K m2 H2 S2 ∧ EnvIs X.K m2 (mask m2 H2) σ2 env2 ∧ FloOk X.K m2 H2 D (loopF own ps g b (ps.drop i) env2 S2), ⟨ps.length, by omega, m1, env, S1, Stp.refl _ _, R1, E.step st1, by simpa using q⟩, ?_⟩
  rintro i k σ2 H2 ⟨hk, m2, env2, S2, st2, R2, E2, q2⟩
  by_cases hi : i < ps.length
  · right
    rw [List.drop_eq_getElem_cons hi] at q2
    unfold loopF at q2
    split at q2
    · rename_i ho
      obtain ⟨env3, S3, k3, q3⟩ := Oc.fl_ne q2
      obtain ⟨hgo, hy⟩ := T.go i _ m2 H2 S2 (List.getElem?_eq_getElem hi) st2.wk R2 ho
      refine ⟨hgo, fun σ' H' => ∃ k', k' < k ∧ (k' + (i + 1) = ps.length ∧ ∃ m2 env2 S2, Stp m1 H1 m2 H' ∧ Rel X.K m2 H' S2 ∧ EnvIs X.K m2 (mask m2 H') σ' env2 ∧ FloOk X.K m2 H' D (loopF own ps g b (ps.drop (i + 1)) env2 S2)), fun σ' H' z => z, fun x H3 y => ?_⟩
      obtain ⟨R3, st3, i3, _⟩ := hy x H3 y
      refine ⟨m2, env2, S2, .v ps[i], R3, E2.step st3, i3, env3, S3, k3, fun m4 H4 σ4 st4 R4 E4 => ⟨m4, env3, S3, R4, E4, ?_⟩⟩
      have stA := (st2.trans st3).trans st4
      have q4 := q3.step (st3.trans st4)
      cases hb : b env3 S3 with
      | nx e s =>
        rw [hb] at q4
        exact fun m5 H5 σ5 st5 R5 E5 => ⟨k - 1, by omega, by omega, m5, e, s, stA.trans st5, R5, E5, q4.step st5⟩
      | ct e s =>
        rw [hb] at q4
        exact fun m5 H5 σ5 st5 R5 E5 => ⟨k - 1, by omega, by omega, m5, e, s, stA.trans st5, R5, E5, q4.step st5⟩
      | bk e s =>
        rw [hb] at q4
        exact q4
      | rt d s =>
        rw [hb] at q4
        exact q4
      | bad =>
        rw [hb] at q4
        exact q4
    · exact q2.elim
  · left
    have e : ps.drop i = [] := List.drop_eq_nil_of_le (by omega)
    rw [e] at q2
    unfold loopF at q2
    split at q2
    · rename_i ho
      exact ⟨T.stop i m2 H2 S2 (by omega) st2.wk R2 ho, q2 m2 H2 σ2 (Stp.refl _ _) R2 E2⟩
    · exact q2.elim
theorem s_while (hp : PassesOwn (model X.prog X.w) X.A X.env X.xe) {c : Expr} {body : List Stmt} (hc : PTd X c t) (hb : PSsd X body b) : PSd X (.While c body [] pos) (fWhile t b) := ps_weak (ps_while hp hc hb) fun D σ H ⟨m, env, S, R, E, q⟩ => by
  refine ⟨fun n σ2 H2 => ∃ m2 env2 S2, Stp m H m2 H2 ∧ Rel X.K m2 H2 S2 ∧ EnvIs X.K m2 (mask m2 H2) σ2 env2 ∧ FloOk X.K m2 H2 D (whileF t b n env2 S2), ⟨_, m, env, S, Stp.refl _ _, R, E, q⟩, ?_⟩
  rintro n σ2 H2 ⟨m2, env2, S2, st2, R2, E2, q2⟩
  cases n with
  | zero => exact q2.elim
  | succ n =>
    unfold whileF at q2
    obtain ⟨k, S3, k3, q3⟩ := Oc.fl_ne q2
    refine ⟨m2, env2, S2, R2, E2, k, S3, k3, fun m3 H3 st3 R3 => ?_⟩
    cases k with
    | false =>
      rw [if_neg (by decide)] at q3 ⊢
      exact q3 m3 H3 σ2 st3 R3 (E2.step st3)
    | true =>
      rw [if_pos rfl] at q3 ⊢
      refine ⟨fun σ' H' => ∃ m', m' < n + 1 ∧ ∃ m2 env2 S2, Stp m H m2 H' ∧ Rel X.K m2 H' S2 ∧ EnvIs X.K m2 (mask m2 H') σ' env2 ∧ FloOk X.K m2 H' D (whileF t b m' env2 S2), fun σ' H' z => z, m3, env2, S3, R3, E2.step st3, ?_⟩
      have q4 := q3.step st3
      have stA := st2.trans st3
      cases hb : b env2 S3 with
      | nx e s =>
        rw [hb] at q4
        exact fun m5 H5 σ5 st5 R5 E5 => ⟨n, by omega, m5, e, s, stA.trans st5, R5, E5, q4.step st5⟩
      | ct e s =>
        rw [hb] at q4
        exact fun m5 H5 σ5 st5 R5 E5 => ⟨n, by omega, m5, e, s, stA.trans st5, R5, E5, q4.step st5⟩
      | bk e s =>
        rw [hb] at q4
        exact q4
      | rt d s =>
        rw [hb] at q4
        exact q4
      | bad =>
        rw [hb] at q4
        exact q4
end
def wipeE (env : Dnv) : List Nat → Dnv
  | [] => env
  | v :: vs => (wipeE env vs).set v none
theorem wipe_at {σ : L2.St} {i : Nat} : ∀ {vs : List Nat}, i ∉ vs → (wipe σ vs)[i]? = σ[i]?
  | [], _ => rfl
  | v :: vs, h => by
    unfold wipe
    rw [List.getElem?_set_ne (fun e => h (by simp [e]))]
    exact wipe_at (fun z => h (List.mem_cons_of_mem _ z))
theorem wipeE_some {env : Dnv} {i : Nat} {d : D} : ∀ {vs : List Nat}, (wipeE env vs)[i]? = some (some d) → env[i]? = some (some d) ∧ i ∉ vs
  | [], h => ⟨h, by simp⟩
  | v :: vs, h => by
    unfold wipeE at h
    by_cases hi : v = i
    · subst hi
      by_cases hl : v < (wipeE env vs).length
      · rw [List.getElem?_set_self hl] at h; cases h
      · rw [List.getElem?_eq_none (by simpa using hl)] at h; cases h
    · rw [List.getElem?_set_ne hi] at h
      obtain ⟨h1, h2⟩ := wipeE_some h
      exact ⟨h1, by simp only [List.mem_cons, not_or]; exact ⟨fun e => hi e.symm, h2⟩⟩
theorem wipeE_len (env : Dnv) : ∀ vs : List Nat, (wipeE env vs).length = env.length
  | [] => rfl
  | v :: vs => by unfold wipeE; rw [List.length_set, wipeE_len env vs]
theorem EnvIs.wipe {K : PySem.W.Frag} {m : Mp} {G : Hp} {σ : L2.St} {env : Dnv} (h : EnvIs K m G σ env) (vs : List Nat) : EnvIs K m G (L2.wipe σ vs) (wipeE env vs) := by
  refine ⟨by rw [wipe_length, wipeE_len]; exact h.len, fun i d e => ?_⟩
  obtain ⟨e1, e2⟩ := wipeE_some e
  obtain ⟨v, h1, h2⟩ := h.get i d e1
  exact ⟨v, by rw [wipe_at e2]; exact h1, h2⟩
theorem wipe_set {σ : L2.St} {i : Nat} {x : Option V} : ∀ {vs : List Nat}, i ∈ vs → L2.wipe (σ.set i x) vs = L2.wipe σ vs
  | [], h => by cases h
  | v :: vs, h => by
    by_cases hi : i ∈ vs
    · unfold L2.wipe
      rw [wipe_set hi]
    · have e : i = v := by simpa [hi] using h
      subst e
      unfold L2.wipe
      refine List.ext_getElem? fun j => ?_
      by_cases hj : i = j
      · subst hj
        by_cases hl : i < σ.length
        · rw [List.getElem?_set_self (by rw [wipe_length, List.length_set]; exact hl), List.getElem?_set_self (by rw [wipe_length]; exact hl)]
        · rw [List.getElem?_eq_none (by rw [List.length_set, wipe_length, List.length_set]; omega), List.getElem?_eq_none (by rw [List.length_set, wipe_length]; omega)]
      · rw [List.getElem?_set_ne hj, List.getElem?_set_ne hj]
        have : ∀ {vs : List Nat}, (L2.wipe (σ.set i x) vs)[j]? = (L2.wipe σ vs)[j]? := by
          intro vs
          induction vs with
          | nil => exact List.getElem?_set_ne hj
          | cons w ws ih =>
            unfold L2.wipe
            by_cases hw : w = j
            · subst hw
              by_cases hl : w < σ.length
              · rw [List.getElem?_set_self (by rw [wipe_length, List.length_set]; exact hl), List.getElem?_set_self (by rw [wipe_length]; exact hl)]
              · rw [List.getElem?_eq_none (by rw [List.length_set, wipe_length, List.length_set]; omega), List.getElem?_eq_none (by rw [List.length_set, wipe_length]; omega)]
            · rw [List.getElem?_set_ne hw, List.getElem?_set_ne hw]
              exact ih
        exact this
theorem wipe_idem (σ : L2.St) (vs : List Nat) : L2.wipe (L2.wipe σ vs) vs = L2.wipe σ vs := by
  have step : ∀ (us ws : List Nat), (∀ u ∈ us, u ∈ ws) → ∀ τ : L2.St, L2.wipe (L2.wipe τ us) ws = L2.wipe τ ws := by
    intro us
    induction us with
    | nil => exact fun ws _ τ => rfl
    | cons u us ih =>
      intro ws h τ
      show L2.wipe ((L2.wipe τ us).set u none) ws = _
      rw [wipe_set (h u (List.mem_cons_self ..))]
      exact ih ws (fun x hx => h x (List.mem_cons_of_mem _ hx)) τ
  exact step vs vs (fun _ h => h) σ
def TDw (K : PySem.W.Frag) (vs : List Nat) (g : FG) : TG := fun v σ H Q => ∃ m env S d, Rel K m H S ∧ EnvIs K m (mask m H) σ env ∧ IsD K m (mask m H) d v ∧ ∃ env' S', g d env S = .ok env' S' ∧ ∀ m' H' σ', Stp m H m' H' → Rel K m' H' S' → EnvIs K m' (mask m' H') σ' env' → (∀ b o, H b = some o → H' b = some o) → L2.wipe σ' vs = L2.wipe σ vs → Q σ' H'
theorem w_nm {X : Cx} {i : Nat} {x : Str} {pos : Pos} {vs : List Nat} (hN : X.N.Nodup) (hi : X.N[i]? = some x) (hx : Loc X.env.scope x) (hv : i ∈ vs) (hf : X.fn x = true ∨ X.env.scope.names.lookup x = some .local) : PG X (.Name x pos) (TDw X.K vs (gNm i)) :=
  pg_weak (pg_name hN hi hx hf) fun v σ H Q ⟨m, env, S, d, R, E, i1, env', S', e1, q⟩ => by
  cases e1
  exact q m H _ (Stp.refl m H) R (E.set i1) (fun _ _ z => z) (wipe_set hv)
def fYes : FT := fun _ S => .ok true S
open Classical in
noncomputable def lcF (own : Own) (all : List P) (g : FG) (t : FT) (e : FE) (env : Dnv) : List P → Sto → List P → Oc (List P)
  | [], S, acc => if OwnOk own all S then .ok acc S else .bad
  | p :: ps, S, acc => if OwnOk own all S then (g (.v p) env S).bind fun env1 S1 => (t env1 S1).bind fun b S2 => if b = true then (e env1 S2).bind fun d S3 => match d with
      | .v q => if acc.length < 100000 then lcF own all g t e env ps S3 (acc ++ [q]) else .bad
      | _ => .bad else lcF own all g t e env ps S2 acc else .bad
noncomputable def fLc (it : FI) (g : FG) (t : FT) (e : FE) (vs : List Nat) : FE := fun env S => (it env S).bind fun r S1 => (lcF r.2 r.1 g t e (wipeE env vs) r.1 S1 []).bind fun acc S2 => .ok (.v (.lst acc)) S2
noncomputable def fLcB (it : FI) (g : FG) (t : FT) (e : FE) (vs : List Nat) : FE := fun env S => (it env S).bind fun r S1 => (lcF r.2 r.1 g t e (wipeE env vs) r.1 S1 []).bind fun acc S2 => .ok (.r S2.length) (S2 ++ [.lst acc])
section
variable {K : PySem.W.Frag}
theorem lc_walk {it : FI} {g : FG} {t : FT} {e : FE} {vs : List Nat} {σ : L2.St} {H : Hp} {Q : VK} {m : Mp} {env : Dnv} {S : Sto} (R : Rel K m H S) (E : EnvIs K m (mask m H) σ env) {ps : List P} {own : Own} {S1 S2 : Sto} {acc : List P} (k1 : it env S = .ok (ps, own) S1)
    (k2 : lcF own ps g t e (wipeE env vs) ps S1 [] = .ok acc S2)
    (q : ∀ p xs l2 c2 H2, p ∉ m.h → Wk m H ⟨l2, p :: m.h, c2⟩ H2 → (∀ b, b ∈ m.h → H2 b = H b) → Rel K ⟨l2, p :: m.h, c2⟩ H2 S2 → H2 p = some (.lst xs) → IsAll K (mask ⟨l2, p :: m.h, c2⟩ H2) acc xs → Q (.ref p) H2) : tLc (TDi K it) (TDw K vs g) (TDt K t) (TD K e) vs σ H Q := by
  refine ⟨m, env, S, R, E, ps, own, S1, k1, fun m1 H1 J st1 R1 T Dl hD => ?_⟩
  have R1h := R1.hide (o := .lst []) hD
  have emk := mask_hide (m := m1) (o := .lst []) hD
  have hDm := R1.out hD
  refine ⟨fun i k H2 => k + i = ps.length ∧ ∃ m2 S3 ac xs, m2.h = Dl :: m1.h ∧ Wk m1 H1 m2 H2 ∧ (∀ b, b ∈ m1.h → H2 b = H1 b) ∧ Rel K m2 H2 S3 ∧ H2 Dl = some (.lst xs) ∧ IsAll K (mask m2 H2) ac xs ∧ lcF own ps g t e (wipeE env vs) (ps.drop i) S3 ac = .ok acc S2,
    ⟨ps.length, by omega, m1.hide Dl, S1, [], [], rfl, ⟨fun _ _ h => h, by rw [emk]; exact fun _ _ h => h, fun _ h => h⟩, fun b hb => upd_ne fun z => hDm (.inr (.inl (z ▸ hb))), R1h, upd_same, rfl, by simpa using k2⟩, ?_⟩
  rintro i k H2 ⟨hk, m2, S3, ac, xs, hh, w2, hk2, R2, eD, iac, k3⟩
  by_cases hi : i < ps.length
  · right
    rw [List.drop_eq_getElem_cons hi] at k3
    unfold lcF at k3
    split at k3
    · rename_i ho
      obtain ⟨env3, S4, k4, k5⟩ := Oc.bind_eq k3
      obtain ⟨b, S5, k6, k7⟩ := Oc.bind_eq k5
      obtain ⟨hgo, hy⟩ := T.go i _ m2 H2 S3 (List.getElem?_eq_getElem hi) w2 R2 ho
      refine ⟨hgo, fun H' => ∃ k', k' < k ∧ (k' + (i + 1) = ps.length ∧ ∃ m2 S3 ac xs, m2.h = Dl :: m1.h ∧ Wk m1 H1 m2 H' ∧ (∀ b, b ∈ m1.h → H' b = H1 b) ∧ Rel K m2 H' S3 ∧ H' Dl = some (.lst xs) ∧ IsAll K (mask m2 H') ac xs ∧ lcF own ps g t e (wipeE env vs) (ps.drop (i + 1)) S3 ac = .ok acc S2), fun H' z => z, fun x H3 y => ?_⟩
      obtain ⟨R3, st3, i3, _⟩ := hy x H3 y
      have hDh : Dl ∈ m2.h := by rw [hh]; exact List.mem_cons_self ..
      -- everything from (m2, H2) on
      have E2 : EnvIs K m2 (mask m2 H3) (L2.wipe σ vs) (wipeE env vs) := by
        have E1 := (E.step st1).wipe vs
        refine ⟨E1.len, fun j d z => ?_⟩
        obtain ⟨v, h1, h2⟩ := E1.get j d z
        exact ⟨v, h1, (h2.mono (w2.trans st3.wk).ext (w2.trans st3.wk).ex (w2.trans st3.wk).co)⟩
      refine ⟨m2, wipeE env vs, S3, .v ps[i], R3, E2, i3, env3, S4, k4, fun m4 H4 σ4 st4 R4 E4 _ hw => ⟨by rw [hw, wipe_idem], m4, env3, S4, R4, E4, b, S5, k6, fun m5 H5 st5 R5 => ?_⟩⟩
      have stA := (st3.trans st4).trans st5
      have next : ∀ {m6 : Mp} {H6 : Hp} {S6 : Sto} {ac' : List P} {xs' : List V}, Stp m2 H2 m6 H6 → Rel K m6 H6 S6 → H6 Dl = some (.lst xs') → IsAll K (mask m6 H6) ac' xs' → lcF own ps g t e (wipeE env vs) (ps.drop (i + 1)) S6 ac' = .ok acc S2 →
          ∃ k', k' < k ∧ (k' + (i + 1) = ps.length ∧ ∃ m2 S3 ac xs, m2.h = Dl :: m1.h ∧ Wk m1 H1 m2 H6 ∧ (∀ b, b ∈ m1.h → H6 b = H1 b) ∧ Rel K m2 H6 S3 ∧ H6 Dl = some (.lst xs) ∧ IsAll K (mask m2 H6) ac xs ∧ lcF own ps g t e (wipeE env vs) (ps.drop (i + 1)) S3 ac = .ok acc S2) :=
        fun {m6 H6 S6 ac' xs'} st6 R6 e6 i6 k8 => ⟨k - 1, by omega, by omega, m6, S6, ac', xs', by rw [st6.hh, hh], w2.trans st6.wk, fun b hb => (st6.hk b (by rw [hh]; exact List.mem_cons_of_mem _ hb)).trans (hk2 b hb), R6, e6, i6, k8⟩
      have eD5 : H5 Dl = some (.lst xs) := by rw [stA.hk Dl hDh]; exact eD
      cases b with
      | false =>
        rw [if_neg (by decide)] at k7
        refine iteF ?_
        exact next stA R5 eD5 (stA.all iac) k7
      | true =>
        rw [if_pos rfl] at k7
        refine iteT ?_
        obtain ⟨d, S6, k8, k9⟩ := Oc.bind_eq k7
        refine ⟨m5, env3, S5, R5, E4.step st5, d, S6, k8, fun v m6 H6 st6 R6 i6 => ?_⟩
        have stB := stA.trans st6
        split at k9
        · rename_i q'
          split at k9
          · rename_i hl
            have eD6 : H6 Dl = some (.lst xs) := by rw [stB.hk Dl hDh]; exact eD
            have hDh6 : Dl ∈ m6.h := by rw [stB.hh]; exact hDh
            have em6 := mask_hid (m := m6) (H := H6) (o := .lst (xs ++ [v])) hDh6
            refine ⟨xs, eD6, size_lt (by rw [← iac.len]; exact hl), ?_⟩
            have R7 := R6.hidden (o := .lst (xs ++ [v])) hDh6
            refine ⟨k - 1, by omega, by omega, m6, S6, ac ++ [q'], xs ++ [v], by rw [stB.hh, hh], ⟨(w2.trans stB.wk).ext, by rw [em6]; exact (w2.trans stB.wk).ex, (w2.trans stB.wk).co⟩, fun b hb => ?_, R7, upd_same, by rw [em6]; exact (stB.all iac).append (IsAll.one i6), k9⟩
            have hne : b ≠ Dl := fun z => by
              subst z
              exact hDm (.inr (.inl hb))
            rw [upd_ne hne]
            exact (stB.hk b (by rw [hh]; exact List.mem_cons_of_mem _ hb)).trans (hk2 b hb)
          · cases k9
        · cases k9
    · cases k3
  · left
    have ed : ps.drop i = [] := List.drop_eq_nil_of_le (by omega)
    rw [ed] at k3
    unfold lcF at k3
    split at k3
    · rename_i ho
      cases k3
      refine ⟨T.stop i m2 H2 _ (by omega) w2 R2 ho, ?_⟩
      obtain ⟨l2, h2, c2⟩ := m2
      have hh' : h2 = Dl :: m1.h := hh
      subst hh'
      have hDn : Dl ∉ m1.h := fun z => hDm (.inr (.inl z))
      have e1 : m1.h = m.h := st1.hh
      rw [e1] at hDn w2 R2 iac
      exact q Dl xs l2 c2 H2 hDn ⟨(st1.wk.trans w2).ext, (st1.wk.trans w2).ex, (st1.wk.trans w2).co⟩ (fun b hb => (hk2 b (by rw [e1]; exact hb)).trans (st1.hk b hb)) R2 eD iac
    · cases k3
end
end DL
namespace DL
open PySem PySem.Spec PyProof.Rows L2
variable [Tb]
section
variable {K : PySem.W.Frag}
theorem Rel.shown {l h : List Addr} {c : Cn} {a : Addr} {H : Hp} {S : Sto} (R : Rel K ⟨l, a :: h, c⟩ H S) (ha : a ∉ h) : ¬ off (⟨l, h, c⟩ : Mp) a := fun z => by
  rcases z with z | z | z
  · exact (R.hid a (List.mem_cons_self ..)).1 z
  · exact ha z
  · obtain ⟨p, hp, e⟩ := List.mem_map.mp z
    exact (R.own p hp).2.1 (by rw [e]; exact List.mem_cons_self ..)
theorem off_box {l h : List Addr} {c : Cn} {a b : Addr} : off (⟨l ++ [a], h, c⟩ : Mp) b ↔ off (⟨l, a :: h, c⟩ : Mp) b := by
  unfold off
  simp only [List.mem_append, List.mem_cons, List.not_mem_nil, or_false]
  constructor
  · rintro ((z | z) | z | z)
    · exact .inl z
    · exact .inr (.inl (.inl z))
    · exact .inr (.inl (.inr z))
    · exact .inr (.inr z)
  · rintro (z | (z | z) | z)
    · exact .inl (.inl z)
    · exact .inl (.inr z)
    · exact .inr (.inl z)
    · exact .inr (.inr z)
theorem Rel.boxO {l h : List Addr} {c : Cn} {a : Addr} {H : Hp} {S : Sto} {x : Ob} (R : Rel K ⟨l, a :: h, c⟩ H S) (ha : a ∉ h) (hx : ∀ m', mask m' H = mask ⟨l, a :: h, c⟩ H → ObIs K m' H a x) :
    Rel K ⟨l ++ [a], h, c⟩ H (S ++ [x]) ∧ mask ⟨l ++ [a], h, c⟩ H = mask ⟨l, a :: h, c⟩ H := by
  have em : mask ⟨l ++ [a], h, c⟩ H = mask ⟨l, a :: h, c⟩ H := by
    funext b
    exact mask_eq off_box rfl
  have ex : Exh (mask ⟨l, a :: h, c⟩ H) (mask ⟨l ++ [a], h, c⟩ H) := fun b u z => by rw [em]; exact z
  have hal : a ∉ l := (R.hid a (List.mem_cons_self ..)).1
  have hlen : l.length = S.length := R.len
  refine ⟨⟨by simp [hlen], ?_, fun r b y h1 h2 => ?_, fun b hb => ⟨?_, (R.hid b (List.mem_cons_of_mem _ hb)).2⟩, fun b hb => R.hnt b (List.mem_cons_of_mem _ hb), fun p hp => ?_, R.inj, R.fnc, fun p hp => ?_, fun p hp => (R.tab p hp).mono ex rfl off_box.mp⟩, em⟩
  · show (l ++ [a]).Nodup
    rw [List.nodup_append]
    exact ⟨R.nd, by simp, fun b hb c hc z => by
      simp at hc
      subst hc
      subst z
      exact hal hb⟩
  · have h1' : (l ++ [a])[r]? = some b := h1
    rcases Nat.lt_or_ge r l.length with q | q
    · rw [List.getElem?_append_left q] at h1'
      rw [List.getElem?_append_left (by rw [← hlen]; exact q)] at h2
      exact (R.ob r b y h1' h2).mono' ex (fun _ z => z) rfl (fun _ _ _ => rfl) fun _ _ z => z
    · have e1 : b = a := by
        rw [List.getElem?_append_right q] at h1'
        have := List.mem_of_getElem? h1'
        simpa using this
      subst e1
      rw [List.getElem?_append_right (by rw [← hlen]; exact q)] at h2
      have := List.mem_of_getElem? h2
      simp at this
      subst this
      exact hx _ em
  · intro z
    have z' : b ∈ l ++ [a] := z
    rcases List.mem_append.mp z' with q | q
    · exact (R.hid b (List.mem_cons_of_mem _ hb)).1 q
    · have : b = a := by simpa using q
      exact ha (this ▸ hb)
  · obtain ⟨o1, o2, o3, o5⟩ := R.own p hp
    refine ⟨fun z => ?_, fun z => o2 (List.mem_cons_of_mem _ z), o3, o5⟩
    have z' : p.2.2 ∈ l ++ [a] := z
    rcases List.mem_append.mp z' with q | q
    · exact o1 q
    · exact o2 (by rw [show p.2.2 = a by simpa using q]; exact List.mem_cons_self ..)
  · obtain ⟨q, y, h1, h2, h3⟩ := R.ow p hp
    exact ⟨q, y, by show (l ++ [a])[q]? = _; rw [List.getElem?_append_left (lt_of_at h1)]; exact h1, by rw [List.getElem?_append_left (lt_of_at h2)]; exact h2, h3⟩
theorem lc_val {it : FI} {g : FG} {t : FT} {e : FE} {vs : List Nat} {σ : L2.St} {H : Hp} {Q : VK} (h : TD K (fLc it g t e vs) σ H Q) : tLc (TDi K it) (TDw K vs g) (TDt K t) (TD K e) vs σ H Q := by
  obtain ⟨m, env, S, R, E, d, S', e1, q⟩ := h
  obtain ⟨⟨ps, own⟩, S1, k1, e2⟩ := Oc.bind_eq e1
  obtain ⟨acc, S2, k2, e3⟩ := Oc.bind_eq e2
  cases e3
  refine lc_walk R E k1 k2 fun p xs l2 c2 H2 hp w hk R2 e2 i2 => ?_
  obtain ⟨R3, ex3⟩ := R2.show' hp
  have hpl := (R2.hid p (List.mem_cons_self ..)).1
  refine q (.ref p) ⟨l2, m.h, c2⟩ H2 ⟨w.ext, fun b o z => ex3 b o (w.ex b o z), rfl, hk, w.co⟩ R3 ⟨p, xs, rfl, ?_, IsAll.mono ex3 _ _ i2⟩
  exact mask_at (m := ⟨l2, m.h, c2⟩) (R2.shown hp) e2 (by intro _ z; cases z)
end
theorem pts_weak {X : Cx} {ifs : List Expr} {t t' : TT} (h : PTs X ifs t) (q : ∀ σ H Q, t' σ H Q → t σ H Q) : PTs X ifs t' := ⟨fun pins s σ H Q I w => h.run pins s σ H Q I (q σ H Q w)⟩
theorem t_yes {X : Cx} : PTs X [] (TDt X.K fYes) := pts_weak pts_nil fun σ H Q ⟨m, env, S, R, E, b, S', e1, q⟩ => by
  cases e1
  exact q m H (Stp.refl m H) R
theorem t_one {X : Cx} {c : Expr} {t : FT} (h : PTd X c t) : PTs X [c] (TDt X.K t) := pts_one h
section
variable {X : Cx} {elt tg iter : Expr} {ifs : List Expr} {scope : Scope} {pos spos py : Pos} {it : FI} {g : FG} {t : FT} {e : FE} {i : Nat} {y : Str}
theorem d_lc (hX : SX X) (own : List (Str × Nat)) (hi : PId X tg iter it) (ok : BlkOk X.N X.env.scope scope own) (hg : ∀ (s : Shared) (H : Hp) (C : Addr) (cl : List (Str × Addr)) (fp : List Addr), PG (X.blk s H scope (compEnvC scope cl C X.env) fp) tg (TDw X.K (own.map (·.2)) g))
    (ht : ∀ (s : Shared) (H : Hp) (C : Addr) (cl : List (Str × Addr)) (fp : List Addr), PTs (X.blk s H scope (compEnvC scope cl C X.env) fp) ifs (TDt X.K t)) (he : ∀ (s : Shared) (H : Hp) (C : Addr) (cl : List (Str × Addr)) (fp : List Addr), PE (X.blk s H scope (compEnvC scope cl C X.env) fp) elt (TD X.K e))
    (hs : ∀ x, foldedSetIterable iter X.env x = pure x := by intro _; rfl) : PEd X (.ListComp elt [⟨tg, iter, ifs, 0⟩] scope pos) (fLc it g t e (own.map (·.2))) := pe_weak (pe_lc hX.calm hX.nd hi ok hg ht he hs) fun _ _ _ => lc_val
theorem setnm_ok {K : PySem.W.Frag} {D : Ends} {σ : L2.St} {H : Hp} {f : FE} {te : TE} (hte : ∀ σ H Q, TD K f σ H Q → te σ H Q) (h : TDs K (fSet f (gNm i)) D σ H) : tAsg te (gName i) D σ H := by
  obtain ⟨m, env, S, R, E, q⟩ := h
  obtain ⟨d, S1, k1, q⟩ := Oc.fl_ne q
  exact hte _ _ _ ⟨m, env, S, R, E, d, S1, k1, fun v m1 H1 st1 R1 i1 => q m1 H1 _ st1 R1 ((E.step st1).set i1)⟩
theorem s_setLc (hX : SX X) (own : List (Str × Nat)) (hsw : swapsWith (.ListComp elt [⟨tg, iter, ifs, 0⟩] scope pos) (some (.Name y py)) spos.line X.env = pure true) (hi : PId X tg iter it) (ok : BlkOk X.N X.env.scope scope own) (hg : ∀ (s : Shared) (H : Hp) (C : Addr) (cl : List (Str × Addr)) (fp : List Addr), PG (X.blk s H scope (compEnvC scope cl C X.env) fp) tg (TDw X.K (own.map (·.2)) g))
    (ht : ∀ (s : Shared) (H : Hp) (C : Addr) (cl : List (Str × Addr)) (fp : List Addr), PTs (X.blk s H scope (compEnvC scope cl C X.env) fp) ifs (TDt X.K t)) (he : ∀ (s : Shared) (H : Hp) (C : Addr) (cl : List (Str × Addr)) (fp : List Addr), PE (X.blk s H scope (compEnvC scope cl C X.env) fp) elt (TD X.K e))
    (hy : X.N[i]? = some y := by rfl) (hyl : X.env.scope.names.lookup y = some .local := by rfl) (hs : ∀ x, foldedSetIterable iter X.env x = pure x := by intro _; rfl) :
    PSd X (.Assign [.Name y py] (.ListComp elt [⟨tg, iter, ifs, 0⟩] scope pos) spos) (fSet (fLc it g t e (own.map (·.2))) (gNm i)) := ps_weak (ps_setLc hX.calm hX.nd hy hyl hsw hi ok hg ht he hs) fun _ _ _ => setnm_ok fun _ _ _ => lc_val
end
theorem SX.blk {X : Cx} (h : SX X) (s : Shared) (H : Hp) (scope : Scope) (cenv : PySem.Env) (fp : List Addr) : SX (X.blk s H scope cenv fp) := ⟨h.calm, h.nd, h.units, h.guards⟩
end DL
namespace SE
open PySem PySem.Calls PyProof.Rows PySem.W PySem.SeqAt
section
variable {A : Around} {s : Shared}
theorem call_tuple_lt {prog : Program} {w : World} {E : Value → Shared → Prop} {Q : Value → Shared → Prop} {l b : Addr} {items items2 : Array Value} {e r : Nat → Bool} (hl : s.heap.IsTuple l items) (hb : s.heap.IsTuple b items2)
    (he : ∀ j (h1 : j < items.size) (h2 : j < items2.size), EqAt A.in1 s items[j] items2[j] (e j)) (hr : ∀ j (h1 : j < items.size) (h2 : j < items2.size), e j = false → RcLt A.in1 s items[j] items2[j] (r j))
    (h : Q (.bool (firstLt e r (decide (items.size < items2.size)) (List.range (min items.size items2.size)))) s) : wpAny (model prog w) A (call (.builtin "tuple.__lt__") [.ref l, .ref b]) Q E s := by
  obtain ⟨⟨cls, dd, data, sl⟩, ho, hc, n, hd⟩ := id hl
  obtain ⟨⟨cls2, dd2, data2, sl2⟩, ho2, hc2, n2, hd2⟩ := id hb
  simp only at hc hd hc2 hd2
  subst hc hd hc2 hd2
  exact call_meets F.slot_tuple_lt ⟨_, ho, rfl⟩ F.entry_tuple_lt (F.args_tuple_lt_2 _ _) (tuple_ltAt l b items items2 n n2 dd dd2 sl sl2 e r) ⟨ho, ho2, he, hr, h⟩
end
section
variable {prog : Program} {w : World} {A : Around} {E : Value → Shared → Prop} {s : Shared}
theorem oneLt_tup {f : Bool} {xs ys : List PyData} {a b : Value} {as bs : List Addr} {Q : Bool → Shared → Prop} (ra : Reads s.heap a (.tuple xs) as) (rb : Reads s.heap b (.tuple ys) bs) (hal : alikeAll xs ys = true)
    (hu : A.units + min (PyData.tuple xs).depth (PyData.tuple ys).depth < cLine) (hq : Q (dataLt (.tuple xs) (.tuple ys)) s) : wpAny (model prog w) A (oneLt' f a b) Q E s := by
  cases f with
  | false => exact oneLt_alike (fun h => nomatch h) ra rb (by simpa [alike] using hal) (fun h => nomatch h) hu hq
  | true =>
    cases ra with
    | @tuple l o vs n _ as₁ h1 h2 h3 h4 =>
      cases rb with
      | @tuple l' o' vs' n' _ bs₁ k1 k2 k3 k4 =>
        have n1 : vs.size = xs.length := by simpa using ReadsAll.length _ _ _ h4
        have n2 : vs'.size = ys.length := by simpa using ReadsAll.length _ _ _ k4
        rw [dataLt_tuple, ← firstLt_toks xs ys hal, ← n1, ← n2] at hq
        rw [oneLt'_eq]
        simp only [if_true]
        refine wpAny_bind (wpAny_cRoomFor (room_here hu) ?_)
        refine wpAny_bind (wpAny_callSpecialIfBound?_slot (T := "tuple") ⟨_, h1, h2⟩ F.slot_tuple_lt (call_tuple_lt (e := pairEq xs ys) (r := fun j => dataLt (xs.getD j .none) (ys.getD j .none)) ⟨_, h1, h2, _, h3⟩ ⟨_, k1, k2, _, k3⟩ (fun j j1 j2 => ?_) (fun j j1 j2 hj => ?_) ?_))
        · have := eqAt_alikeAll xs ys A.in1 s vs.toList vs'.toList _ _ h4 k4 hal (room_in hu) j (by simpa using j1) (by simpa using j2)
          simpa using this
        · have := rcLt_alikeAll xs ys A.in1 s vs.toList vs'.toList _ _ h4 k4 hal (room_in hu) j (by simpa using j1) (by simpa using j2) hj
          simpa using this
        · exact wpAny_truthy_bool hq
def fstOf : PyData → Bool
  | .tuple (_ :: _) => true
  | _ => false
theorem firsts : ∀ {vs : List Value} {ds : List PyData} {Q : List (Option Value) → Shared → Prop}, EachIs (fun v d => ∃ as, Reads s.heap v d as) vs ds → (∀ d, d ∈ ds → ∃ xs, d = .tuple xs) →
    (∀ fs : List (Option Value), fs.map (·.isSome) = ds.map fstOf → Q fs s) → wpAny (model prog w) A (vs.mapM firstOfTuple') Q E s
  | _, _, Q, .nil, _, h => by
    rw [List.mapM_nil]
    exact wpAny_pure (h [] rfl)
  | _, _, Q, .cons (b := d) ⟨as, r⟩ t, hd, h => by
    rw [List.mapM_cons]
    refine wpAny_bind ?_
    rw [kas_first_eq]
    obtain ⟨xs, rfl⟩ := hd d (List.mem_cons_self ..)
    cases r with
    | @tuple a o vs n _ _ ho hc hdat hr =>
      refine wpAny_bind (Looks.here (show Looks _ s.heap (typeOf (.ref a)) o.cls from (Looks.ld ho).andThen .now) ?_)
      rw [hc, if_neg (by first | decide | simp)]
      refine wpAny_bind (listItems_at ho hdat (wpAny_pure ?_))
      refine wpAny_bind (firsts t (fun d hd' => hd d (List.mem_cons_of_mem _ hd')) fun fs hf => wpAny_pure (h _ ?_))
      rw [List.map_cons, List.map_cons, hf]
      congr 1
      have hn : vs.size = xs.length := by simpa using ReadsAll.length _ _ _ hr
      cases xs with
      | nil =>
        have : vs.size = 0 := hn
        simp [fstOf, this]
      | cons x r =>
        have : 0 < vs.size := by rw [hn]; exact Nat.succ_pos _
        simp [fstOf, this]
theorem SortsAt.tups {vs : List Value} {ds : List PyData} (e : EachIs (fun v d => ∃ as, Reads s.heap v d as) vs ds) (hal : AllAlike ds) (ht : ∀ d, d ∈ ds → ∃ xs, d = .tuple xs) (hu : ∀ d, d ∈ ds → A.units + d.depth < cLine) : SortsAt prog w A s (dataKind s.heap ds) vs := by
  by_cases hne : ∀ d, d ∈ ds → ∃ x r, d = .tuple (x :: r)
  · exact SortsAt.data e hal (.inl hne) hu
  have hlt : ∀ kd : SortKind, (kd = general' ∨ kd = oneType') → H.LtAt prog w A s (dataKind s.heap ds) kd := by
    intro kd hk E x y a b Q ha hb hq
    obtain ⟨d, as, hd, ra, rfl⟩ := dataKind_inv ha
    obtain ⟨d', as', hd', rb, rfl⟩ := dataKind_inv hb
    have hdd := hal d hd d' hd'
    have hroom : A.units + min d.depth d'.depth < cLine := Nat.lt_of_le_of_lt (Nat.add_le_add_left (Nat.min_le_left _ _) _) (hu d hd)
    obtain ⟨xs, rfl⟩ := ht d hd
    obtain ⟨ys, rfl⟩ := ht d' hd'
    rcases hk with rfl | rfl
    · exact oneLt_tup (f := false) ra rb (by simpa [alike] using hdd) hroom hq
    · exact oneLt_tup (f := true) ra rb (by simpa [alike] using hdd) hroom hq
  refine ⟨fun v hv => ?_, ?_⟩
  · obtain ⟨d, hd, as, r⟩ := e.left v hv
    exact ⟨_, dataKind_some hal hd r⟩
  have hno : ds.all fstOf = false := by
    cases h : ds.all fstOf with
    | false => rfl
    | true =>
      refine absurd (fun d hd => ?_) hne
      have := List.all_eq_true.mp h d hd
      obtain ⟨xs, rfl⟩ := ht d hd
      cases xs with
      | nil => cases this
      | cons x r => exact ⟨x, r, rfl⟩
  refine ⟨if (ds.head?.map fstOf).getD false = true then general' else oneType', hlt _ (by split; exact .inl rfl; exact .inr rfl), fun h2 E Q hq => ?_⟩
  rw [keyKind'_eq, List.mapM_toArray, map_eq_pure_bind]
  refine wpAny_bind (wpAny_bind (firsts e ht fun fs hf => wpAny_pure ?_))
  have hall : (fs.toArray.all fun x => x.isSome) = false := by
    rw [List.all_toArray]
    have h1 : (fs.map (·.isSome)).all id = (ds.map fstOf).all id := by rw [hf]
    rw [List.all_map, List.all_map] at h1
    exact h1.trans hno
  rw [if_neg (by rw [hall]; decide)]
  have hl := e.length
  obtain ⟨d0, ds', rfl⟩ : ∃ d0 ds', ds = d0 :: ds' := by
    cases ds with
    | nil => rw [hl] at h2; simp at h2
    | cons d ds => exact ⟨d, ds, rfl⟩
  obtain ⟨f0, fr, rfl⟩ : ∃ f0 fr, fs = f0 :: fr := by
    cases fs with
    | nil => cases hf
    | cons f fs => exact ⟨f, fs, rfl⟩
  have hf0 : f0.isSome = fstOf d0 := by
    have := congrArg List.head? hf
    simpa using this
  have hq' : Q (if fstOf d0 = true then general' else oneType') s := hq
  have hb : (((f0 :: fr).toArray[0]?).bind id).isSome = fstOf d0 := by
    rw [← hf0]
    simp
  rw [hb]
  cases hd0 : fstOf d0 with
  | true =>
    rw [hd0] at hq'
    rw [if_pos rfl]
    exact wpAny_pure hq'
  | false =>
    rw [hd0] at hq'
    rw [if_neg (by decide)]
    have hT : ∀ v ∈ vs, Looks (model prog w) s.heap (typeOf v) (Value.type "tuple") := fun v hv => by
      obtain ⟨d, hd, as, r⟩ := e.left v hv
      obtain ⟨xs, rfl⟩ := ht d hd
      exact looks_reads r
    obtain ⟨v₁, vr, rfl⟩ : ∃ v₁ vr, vs = v₁ :: vr := by
      cases vs with
      | nil => simp at h2
      | cons v vs => exact ⟨v, vs, rfl⟩
    rw [oneTypeOnly'_eq, List.mapM_toArray, map_eq_pure_bind]
    refine wpAny_bind (wpAny_bind (wpAny_bind (kas_mapM (r := Value.type "tuple") _ (fun v hv Q' hq => (hT v hv).here hq) (wpAny_pure ?_))))
    have hall2 : ((List.map (fun _ => Value.type "tuple") (v₁ :: vr)).toArray.all fun x => x == Value.type "tuple") = true := by
      rw [List.all_toArray, List.all_map]
      exact List.all_eq_true.mpr fun _ _ => rfl
    have h0 : (List.map (fun _ => Value.type "tuple") (v₁ :: vr)).toArray[0]? = some (Value.type "tuple") := by simp
    rw [h0]
    simp only [hall2, if_true]
    exact wpAny_pure (wpAny_pure hq')
end
section
variable {prog : Program} {w : World} {A : Around} {E : Value → Shared → Prop} {s : Shared} {β : Type} {vs : List Value} {bs : List β} {enc : β → PyData} {R : Value → β → Prop}
theorem sorted_tups {l : Addr} {Q : Value → Shared → Prop} (hl : s.heap.IsList l vs.toArray) (e : EachIs R vs bs) (er : EachIs (fun v b => ∃ as, Reads s.heap v (enc b) as) vs bs) (hal : AllAlike (bs.map enc)) (ht : ∀ d, d ∈ bs.map enc → ∃ xs, d = .tuple xs) (hL : bs.length ≤ sizeLine)
    (hu : ∀ b, b ∈ bs → A.units + 2 + (enc b).depth < cLine) (h : ∀ out, out.length = bs.length → EachIs R out (bs.mergeSort (dataLe false enc)) → Q (.ref (s.heap.objs.size + 1)) { s with heap := sortedAll s.heap vs (List.toArray out) }) :
    wpAny (model prog w) A (call (.builtin "sorted") [.ref l]) Q E s := by
  have er' : EachIs (fun v b => ∃ as, Reads (sortingHeap (copyHeap s.heap vs) (s.heap.objs.size + 1) vs) v (enc b) as) vs bs := er.mono fun _ _ ⟨as, r⟩ => ⟨as, PyProof.Rows.Reads.keeps (fun _ _ => sorting_copy_old) r⟩
  exact sorted_vals hl (SortsAt.tups (s := { s with heap := sortingHeap (copyHeap s.heap vs) (s.heap.objs.size + 1) vs }) (each_map (R := fun v d => ∃ as, Reads (sortingHeap (copyHeap s.heap vs) (s.heap.objs.size + 1) vs) v d as) enc er') hal ht (bound_map hu)) (by rw [e.length]; exact hL)
    (h _ (by rw [sortVals_length false rfl]; exact e.length) (sortVals_data false e er' hal))
end
section
variable {prog : Program} {w : World} {A : Around} {E : Value → Shared → Prop} {s : Shared}
theorem collect_tup {l : Addr} {vs : List Value} {Q : List Value → Shared → Prop} (hl : s.heap.IsTuple l vs.toArray)
    (h : Q vs { s with heap := (s.heap.push (seqObj "list" #[] 0)).update s.heap.objs.size (Obj.mapSeq (· ++ vs.toArray)) }) (hsz : vs.length ≤ sizeLine) :
    wpAny (model prog w) A (collect (.ref l)) Q E s := by
  obtain ⟨o, ho, hc, n, hd⟩ := id hl
  unfold collect
  refine wpAny_bind (wpAny_runValue (codeAny_builtin entry_proto_collect' ?_))
  show wpAny _ _ (do again (.builtin "list.__iadd__" ⟨[← newList [], .ref l], []⟩)) _ _ s
  refine wpAny_bind (wpAny_newList (wpAny_pure ⟨Code.quiet_builtin _ (by decide +kernel), codeAny_builtin entry_list_iadd' ?_⟩))
  show wpAny _ _ (Builtin.List.listExtendWith (.ref s.heap.objs.size) (.ref l) (.ref s.heap.objs.size)) _ _ { s with heap := s.heap.push (seqObj "list" #[] 0) }
  unfold Builtin.List.listExtendWith
  have ho' : (s.heap.push (seqObj "list" #[] 0)).get? l = some o := Heap.get?_push_of_some _ ho
  refine wpAny_bind (wpAny_typeOf (T := "tuple") ⟨o, ho', hc⟩ ?_)
  have ht : (Value.type "tuple" == Value.type "tuple") = true := by rfl
  rw [if_pos (by rw [ht]; simp)]
  refine wpAny_bind (listItems_at ho' hd ?_)
  refine wpAny_bind (listItems_at (xs := #[]) (n := 0) (Heap.get?_push_size _ rfl) rfl ?_)
  rw [if_neg (by simp)]
  refine wpAny_bind (listUpdate_at (xs := #[]) (n := 0) (Heap.get?_push_size _ rfl) rfl ?_ (Nat.zero_le _) (by show (#[] ++ vs.toArray).size ≤ sizeLine + 1; simp only [Array.size_append, List.size_toArray, List.length_nil]; omega))
  refine wpAny_pure ?_
  show wpAny (model prog w) A (do
      let o ← load s.heap.objs.size
      match o.data with
      | .seq xs _ => pure xs.toList
      | _ => unsupported "internal:collect") Q E { s with heap := (s.heap.push (seqObj "list" #[] 0)).update s.heap.objs.size (Obj.mapSeq (· ++ vs.toArray)) }
  refine wpAny_bind (wpAny_load (get?_update_seq (Heap.get?_push_size _ rfl) _) ?_)
  show wpAny _ _ (pure ((#[] : Array Value) ++ vs.toArray).toList) Q E _
  rw [show ((#[] : Array Value) ++ vs.toArray).toList = vs by simp]
  exact wpAny_pure h
theorem sorted_of_sortT {l : Addr} {vs : List Value} {Q : Value → Shared → Prop} (hl : s.heap.IsTuple l vs.toArray) (hL : vs.length ≤ sizeLine)
    (body : ∀ E' : Value → Shared → Prop, wpAny (model prog w) A.in1.in1 (Builtin.«list.sort» ⟨[.ref (s.heap.objs.size + 1)], []⟩) (fun f s' => f = .done (.ret .none) ∧ Q (.ref (s.heap.objs.size + 1)) s') E' { s with heap := copyHeap s.heap vs }) :
    wpAny (model prog w) A (call (.builtin "sorted") [.ref l] []) Q E s := by
  refine call_function_entry_kw kind_sorted plain_sorted entry_sorted (args_sorted1 _) ?_
  unfold Builtin.«sorted»
  refine wpAny_bind (m := checkCount "sorted" 1 1 _) (wpAny_pure ?_)
  refine wpAny_bind (collect_tup hl ?_ hL)
  refine wpAny_bind (wpAny_newList ?_ hL)
  have hsz : ((s.heap.push (seqObj "list" #[] 0)).update s.heap.objs.size (Obj.mapSeq (· ++ vs.toArray))).objs.size = s.heap.objs.size + 1 := by
    rw [Heap.size_update, size_push']
  show wpAny _ _ _ _ _ { s with heap := copyHeap s.heap vs }
  rw [hsz]
  refine wpAny_bind (wpAny_holding (wpAny_call_entry_kw slot_list_sort ⟨_, copyHeap_at s.heap vs, rfl⟩ entry_list_sort ?body (args_list_sort _)))
  case body =>
    show wpAny (model prog w) A.in1.in1 (Builtin.«list.sort» ⟨[.ref (s.heap.objs.size + 1)], []⟩) _ _ _
    refine wpAny_mono (body _) (fun f s' hf => ?_) fun _ _ e => e
    obtain ⟨rfl, hq⟩ := hf
    exact ⟨_, rfl, wpAny_pure ⟨_, rfl, hq⟩⟩
end
section
variable {prog : Program} {w : World} {A : Around} {E : Value → Shared → Prop} {s : Shared} {β : Type} {vs : List Value} {bs : List β} {enc : β → PyData} {R : Value → β → Prop}
theorem sorted_T {l : Addr} {Q : Value → Shared → Prop} (hl : s.heap.IsTuple l vs.toArray) (e : EachIs R vs bs) (er : EachIs (fun v b => ∃ as, Reads s.heap v (enc b) as) vs bs) (hal : AllAlike (bs.map enc)) (hk : (∀ d, d ∈ bs.map enc → ∃ xs, d = .tuple xs) ∨ Sortable (bs.map enc)) (hL : bs.length ≤ sizeLine)
    (hu : ∀ b, b ∈ bs → A.units + 2 + (enc b).depth < cLine) (h : ∀ out, out.length = bs.length → EachIs R out (bs.mergeSort (dataLe false enc)) → Q (.ref (s.heap.objs.size + 1)) { s with heap := sortedAll s.heap vs (List.toArray out) }) :
    wpAny (model prog w) A (call (.builtin "sorted") [.ref l]) Q E s := by
  have er' : EachIs (fun v b => ∃ as, Reads (sortingHeap (copyHeap s.heap vs) (s.heap.objs.size + 1) vs) v (enc b) as) vs bs := er.mono fun _ _ ⟨as, r⟩ => ⟨as, PyProof.Rows.Reads.keeps (fun _ _ => sorting_copy_old) r⟩
  have hLv : vs.length ≤ sizeLine := by rw [e.length]; exact hL
  have er2 := each_map (R := fun v d => ∃ as, Reads (sortingHeap (copyHeap s.heap vs) (s.heap.objs.size + 1) vs) v d as) enc er'
  refine sorted_of_sortT hl hLv fun E' => ?_
  refine list_sort_vals (κ := dataKind (sortingHeap (copyHeap s.heap vs) (s.heap.objs.size + 1) vs) (bs.map enc)) (s := { s with heap := copyHeap s.heap vs }) (copyHeap_at s.heap vs) ?_ hLv ⟨rfl, h _ (by rw [sortVals_length false rfl]; exact e.length) (sortVals_data false e er' hal)⟩
  rcases hk with ht | hk
  · exact SortsAt.tups (s := { s with heap := sortingHeap (copyHeap s.heap vs) (s.heap.objs.size + 1) vs }) er2 hal ht (bound_map hu)
  · exact SortsAt.data (s := { s with heap := sortingHeap (copyHeap s.heap vs) (s.heap.objs.size + 1) vs }) er2 hal hk (bound_map hu)
end
end SE
namespace DL
open PySem PySem.Spec PyProof.Rows L2
variable [Tb]
def deAll (S : Sto) : List D → Option (List P)
  | [] => some []
  | d :: ds => match deP S d with
    | some p => (deAll S ds).map (p :: ·)
    | none => none
@[simp] theorem deAll_nil (S : Sto) : deAll S [] = some [] := rfl
@[simp] theorem deAll_v (S : Sto) (p : P) (ds : List D) : deAll S (.v p :: ds) = (deAll S ds).map (p :: ·) := rfl
def IsRs (K : PySem.W.Frag) (m : Mp) (H : Hp) : List P → List V → Prop
  | [], xs => xs = []
  | p :: ps, xs => ∃ v vs, xs = v :: vs ∧ IsR K m H p v ∧ IsRs K m H ps vs
theorem deAll_is {K : PySem.W.Frag} {m : Mp} {H : Hp} {S : Sto} (R : Rel K m H S) : ∀ {ds : List D} {ps : List P} {vs : List V}, deAll S ds = some ps → IsDs K m (mask m H) ds vs → IsRs K m H ps vs
  | [], ps, vs, h, i => by
    cases h
    exact i
  | d :: ds, ps, vs, h, ⟨v, ws, h1, h2, h3⟩ => by
    unfold deAll at h
    cases e : deP S d with
    | none => rw [e] at h; cases h
    | some p =>
      rw [e] at h
      obtain ⟨qs, h4, h5⟩ := Option.map_eq_some_iff.mp h
      subst h5
      exact ⟨v, ws, h1, isR_of R h2 e, deAll_is R h4 h3⟩
def fCb (op : List P → Option P) (g : FA) : FE := fun env S => (g env S).bind fun ds S1 => match deAll S1 ds with
  | some ps => oP (op ps) S1
  | none => .bad
def oB (o : Option P) (S : Sto) : Oc D := match o with
  | some (.lst qs) => .ok (.r S.length) (S ++ [.lst qs])
  | _ => .bad
@[simp] theorem oB_some (qs : List P) (S : Sto) : oB (some (.lst qs)) S = .ok (.r S.length) (S ++ [.lst qs]) := rfl
def fCbB (op : List P → Option P) (g : FA) : FE := fun env S => (g env S).bind fun ds S1 => match deAll S1 ds with
  | some ps => oB (op ps) S1
  | none => .bad
def OpN (K : PySem.W.Frag) (r : List V → Hp → VK → Prop) (op : List P → Option P) : Prop :=
  ∀ m H S ps u xs Q, Rel K m H S → IsRs K m H ps xs → op ps = some u → Kont K m H S u Q → r xs H Q
def OpL (K : PySem.W.Frag) (r : List V → Hp → VK → Prop) (op : List P → Option P) : Prop :=
  ∀ m H S ps qs xs Q, Rel K m H S → IsRs K m H ps xs → op ps = some (.lst qs) → (∀ ys, IsAll K (mask m H) qs ys → ∀ p, H p = none → Q (.ref p) (upd H p (.lst ys))) → r xs H Q
section
variable {K : PySem.W.Frag} {g : FA} {σ : L2.St} {H : Hp} {Q : VK}
theorem td_cb {r : List V → Hp → VK → Prop} {op : List P → Option P} (ho : OpN K r op) (h : TD K (fCb op g) σ H Q) : tCB r (TDa K g) σ H Q := by
  obtain ⟨m, env, S, R, E, d', S', e1, q⟩ := h
  obtain ⟨ds, S1, k1, e2⟩ := Oc.bind_eq e1
  refine ⟨m, env, S, R, E, ds, S1, k1, fun vs m1 H1 st1 R1 i1 => ?_⟩
  cases h1 : deAll S1 ds with
  | none => simp [h1] at e2
  | some ps =>
    cases h2 : op ps with
    | none => simp [h1, h2] at e2
    | some u =>
      simp [h1, h2] at e2
      obtain ⟨rfl, rfl⟩ := e2
      exact ho m1 H1 S1 ps u vs Q R1 (deAll_is R1 h1 i1) h2 fun v m3 H3 st3 R3 i3 => q v m3 H3 (st1.trans st3) R3 i3
end
theorem cr_or {X : Cx} {f : Value} {r r' : List V → Hp → VK → Prop} (h : CallR X f r) (h' : CallR X f r') : CallR X f (fun xs H Q => r xs H Q ∨ r' xs H Q) := by
  intro pins s σ H xs us Q I rv q
  rcases q with q | q
  · exact h pins s σ H xs us Q I rv q
  · exact h' pins s σ H xs us Q I rv q
theorem IsRs.one {K : PySem.W.Frag} {m : Mp} {H : Hp} {p : P} {xs : List V} (h : IsRs K m H [p] xs) : ∃ x, xs = [x] ∧ IsR K m H p x := by
  obtain ⟨v, vs, rfl, h1, h2⟩ := h
  have h2' : vs = [] := h2
  subst h2'
  exact ⟨v, rfl, h1⟩
def bLen : List P → Option P
  | [.lst ps] => some (.int ps.length)
  | [.frz ps] => some (.int ps.length)
  | [.tup ps] => some (.int ps.length)
  | [.str x] => if x.length ≤ 100000 then some (.int x.length) else none
  | [.dic ks _] => some (.int ks.length)
  | _ => none
def bList : List P → Option P
  | [.lst ps] => some (.lst ps)
  | [.frz ps] => some (.lst ps)
  | [.tup ps] => some (.lst ps)
  | _ => none
def bTuple : List P → Option P
  | [.lst ps] => some (.tup ps)
  | [.frz ps] => some (.tup ps)
  | [.tup ps] => some (.tup ps)
  | _ => none
def bInt : List P → Option P
  | [.int i] => some (.int i)
  | [.bl b] => some (.int (if b then 1 else 0))
  | _ => none
def bools : List P → Option (List Bool)
  | [] => some []
  | .bl b :: ps => (bools ps).map (b :: ·)
  | _ :: _ => none
def bAll : List P → Option P
  | [.lst ps] => (bools ps).map fun bs => .bl (bs.all id)
  | _ => none
theorem bools_is {K : PySem.W.Frag} {G : Hp} : ∀ {ps : List P} {bs : List Bool} {vs : List V}, bools ps = some bs → IsAll K G ps vs → vs = bs.map V.bl
  | [], bs, vs, h, i => by cases h; exact i
  | .bl b :: ps, bs, vs, h, ⟨v, ws, h1, h2, h3⟩ => by
    unfold bools at h
    obtain ⟨cs, h4, h5⟩ := Option.map_eq_some_iff.mp h
    subst h5 h1
    have h2' : v = .bl b := h2
    rw [h2', bools_is h4 h3]
    rfl
  | .non :: _, _, _, h, _ => by cases h
  | .int _ :: _, _, _, h, _ => by cases h
  | .str _ :: _, _, _, h, _ => by cases h
  | .tup _ :: _, _, _, h, _ => by cases h
  | .lst _ :: _, _, _, h, _ => by cases h
  | .frz _ :: _, _, _, h, _ => by cases h
  | .dic _ _ :: _, _, _, h, _ => by cases h
  | .fn _ :: _, _, _, h, _ => by cases h
section
variable {K : PySem.W.Frag}
theorem sq_r {m : Mp} {H : Hp} {ps : List P} {x : V} (h : IsR K m H (.lst ps) x) : ∃ a xs, x = .ref a ∧ SqL K H a xs ∧ IsAll K (mask m H) ps xs := by
  obtain ⟨a, xs, h1, h2, h3⟩ := h
  exact ⟨a, xs, h1, .of h2, h3⟩
theorem sq_f {m : Mp} {H : Hp} {ps : List P} {x : V} (h : IsR K m H (.frz ps) x) : ∃ a xs, x = .ref a ∧ SqL K H a xs ∧ IsAll K (mask m H) ps xs := by
  obtain ⟨a, xs, h1, h2, h3⟩ := h
  exact ⟨a, xs, h1, sqL_mono (mask_ex m H) h2, h3⟩
theorem sq_t {m : Mp} {H : Hp} {ps : List P} {x : V} (h : IsR K m H (.tup ps) x) : ∃ a xs, x = .ref a ∧ SqT K H a xs ∧ IsAll K (mask m H) ps xs := by
  obtain ⟨a, xs, h1, h2, h3⟩ := h
  exact ⟨a, xs, h1, sqT_mono (mask_ex m H) h2, h3⟩
abbrev rLenAll (K : PySem.W.Frag) : List V → Hp → VK → Prop := fun xs H Q => (∃ x n, xs = [x] ∧ LenV K x H n ∧ Q (.int n) H) ∨ ∃ a kvs, xs = [V.ref a] ∧ H a = some (.dK kvs) ∧ Q (.int kvs.length) H
theorem on_len : OpN K (rLenAll K) bLen := by
  intro m H S ps u xs Q R h e k
  unfold bLen at e
  split at e
  · cases e
    obtain ⟨x, rfl, h0⟩ := h.one
    obtain ⟨a, ys, rfl, h1, h2⟩ := sq_r h0
    exact .inl ⟨_, ys.length, rfl, .inl ⟨ys, h1, rfl⟩, k.here R (by rw [h2.len]; rfl)⟩
  · cases e
    obtain ⟨x, rfl, h0⟩ := h.one
    obtain ⟨a, ys, rfl, h1, h2⟩ := sq_f h0
    exact .inl ⟨_, ys.length, rfl, .inl ⟨ys, h1, rfl⟩, k.here R (by rw [h2.len]; rfl)⟩
  · cases e
    obtain ⟨x, rfl, h0⟩ := h.one
    obtain ⟨a, ys, rfl, h1, h2⟩ := sq_t h0
    exact .inl ⟨_, ys.length, rfl, .inr ⟨ys, h1, rfl⟩, k.here R (by rw [h2.len]; rfl)⟩
  · split at e
    · rename_i z hl
      cases e
      obtain ⟨x, rfl, h0⟩ := h.one
      have h' : x = .str z := h0
      subst h'
      exact .inl ⟨_, z.length, rfl, ⟨size_of hl, rfl⟩, k.here R rfl⟩
    · cases e
  · cases e
    obtain ⟨x, rfl, h0⟩ := h.one
    obtain ⟨a, ys, rfl, h1, h2, h3, h4⟩ := h0
    refine .inr ⟨a, _, rfl, h1, k.here R ?_⟩
    show V.int _ = V.int _
    rw [List.length_zip, h2, Nat.min_self]
  · cases e
theorem ol_list : OpL K (fun xs H Q => ∃ p ys, xs = [.ref p] ∧ (SqL K H p ys ∨ SqT K H p ys) ∧ ∀ l, H l = none → Q (.ref l) (upd H l (.lst ys))) bList := by
  intro m H S ps qs xs Q R h e k
  unfold bList at e
  split at e
  · cases e
    obtain ⟨x, rfl, h0⟩ := h.one
    obtain ⟨a, ys, rfl, h1, h2⟩ := sq_r h0
    exact ⟨a, ys, rfl, .inl h1, k ys h2⟩
  · cases e
    obtain ⟨x, rfl, h0⟩ := h.one
    obtain ⟨a, ys, rfl, h1, h2⟩ := sq_f h0
    exact ⟨a, ys, rfl, .inl h1, k ys h2⟩
  · cases e
    obtain ⟨x, rfl, h0⟩ := h.one
    obtain ⟨a, ys, rfl, h1, h2⟩ := sq_t h0
    exact ⟨a, ys, rfl, .inr h1, k ys h2⟩
  · cases e
theorem on_of_ol {r : List V → Hp → VK → Prop} {op : List P → Option P} (h : OpL K r op) (hl : ∀ ps u, op ps = some u → ∃ qs, u = .lst qs) : OpN K r op := by
  intro m H S ps u xs Q R hx e k
  obtain ⟨qs, rfl⟩ := hl ps u e
  exact h m H S ps qs xs Q R hx e fun ys iy => newLst R iy k
theorem bList_lst (ps : List P) (u : P) (e : bList ps = some u) : ∃ qs, u = .lst qs := by
  unfold bList at e
  split at e
  · cases e; exact ⟨_, rfl⟩
  · cases e; exact ⟨_, rfl⟩
  · cases e; exact ⟨_, rfl⟩
  · cases e
theorem on_tuple : OpN K (fun xs H Q => ∃ p ys, xs = [.ref p] ∧ ((SqL K H p ys ∧ ∀ l, H l = none → Q (.ref l) (upd H l (.tup ys))) ∨ (SqT K H p ys ∧ Q (.ref p) H))) bTuple := by
  intro m H S ps u xs Q R h e k
  unfold bTuple at e
  split at e
  · cases e
    obtain ⟨x, rfl, h0⟩ := h.one
    obtain ⟨a, ys, rfl, h1, h2⟩ := sq_r h0
    exact ⟨a, ys, rfl, .inl ⟨h1, newTup R h2 k⟩⟩
  · cases e
    obtain ⟨x, rfl, h0⟩ := h.one
    obtain ⟨a, ys, rfl, h1, h2⟩ := sq_f h0
    exact ⟨a, ys, rfl, .inl ⟨h1, newTup R h2 k⟩⟩
  · cases e
    obtain ⟨x, rfl, h0⟩ := h.one
    obtain ⟨a, ys, rfl, h1, h2⟩ := h0
    exact ⟨a, ys, rfl, .inr ⟨sqT_mono (mask_ex m H) h1, k.here R ⟨a, ys, rfl, h1, h2⟩⟩⟩
  · cases e
theorem on_int : OpN K (fun xs H Q => (∃ i, xs = [.int i] ∧ Q (.int i) H) ∨ ∃ k, xs = [.bl k] ∧ Q (.int (if k then 1 else 0)) H) bInt := by
  intro m H S ps u xs Q R h e k
  unfold bInt at e
  split at e
  · cases e
    obtain ⟨x, rfl, h1⟩ := h.one
    have h1' : x = .int _ := h1
    subst h1'
    exact .inl ⟨_, rfl, k.here R rfl⟩
  · cases e
    obtain ⟨x, rfl, h1⟩ := h.one
    have h1' : x = .bl _ := h1
    subst h1'
    exact .inr ⟨_, rfl, k.here R rfl⟩
  · cases e
theorem on_all : OpN K (rAll K) bAll := by
  intro m H S ps u xs Q R h e k
  unfold bAll at e
  split at e
  · obtain ⟨bs, h4, h5⟩ := Option.map_eq_some_iff.mp e
    subst h5
    obtain ⟨x, rfl, h0⟩ := h.one
    obtain ⟨a, ys, rfl, h1, h2⟩ := sq_r h0
    exact ⟨a, bs, rfl, by rw [← bools_is h4 h2]; exact h1, k.here R rfl⟩
  · cases e
end
def alikeB (ds : List PyData) : Bool := ds.all fun d => ds.all fun e => PySem.W.alike d e
def sortableB (ds : List PyData) : Bool := (ds.all fun d => match d with | .tuple _ => true | _ => false) || (ds.all fun d => match d with | .none => false | .tuple _ => false | _ => true)
def pyOf (p : P) : PyData := (toPy p).getD .none
def bSorted : List P → Option P
  | [.lst ps] => match toPys ps with
    | some ds => if alikeB ds = true ∧ sortableB ds = true ∧ ps.length ≤ 100000 ∧ (ds.all fun d => decide (d.depth ≤ 64)) = true then some (.lst (ps.mergeSort (PySem.W.dataLe false pyOf))) else none
    | none => none
  | [.tup ps] => match toPys ps with
    | some ds => if alikeB ds = true ∧ sortableB ds = true ∧ ps.length ≤ 100000 ∧ (ds.all fun d => decide (d.depth ≤ 64)) = true then some (.lst (ps.mergeSort (PySem.W.dataLe false pyOf))) else none
    | none => none
  | _ => none
theorem toPys_map : ∀ {ps : List P} {ds : List PyData}, toPys ps = some ds → ds = ps.map pyOf ∧ ∀ p ∈ ps, toPy p = some (pyOf p)
  | [], ds, h => by cases h; exact ⟨rfl, fun _ h => nomatch h⟩
  | p :: ps, ds, h => by
    unfold toPys at h
    split at h
    · rename_i d es h1 h2
      cases h
      obtain ⟨a, b⟩ := toPys_map h2
      have e : pyOf p = d := by unfold pyOf; rw [h1]; rfl
      refine ⟨by rw [a, List.map_cons, e], fun q hq => ?_⟩
      rcases List.mem_cons.mp hq with rfl | hq
      · rw [e]; exact h1
      · exact b q hq
    · cases h
section
variable {X : Cx}
def SortR (K : PySem.W.Frag) (m : Mp) (H : Hp) (v : Value) (p : P) : Prop := ∃ x, RelV x v ∧ Is K (mask m H) p x
theorem each_of {K : PySem.W.Frag} {m : Mp} {H : Hp} : ∀ {ps : List P} {xs : List V} {us : List Value}, IsAll K (mask m H) ps xs → Vals xs us → PySem.W.EachIs (SortR K m H) us ps
  | [], _, _, h, r => by
    have h' : _ = [] := h
    subst h'
    cases r
    exact .nil
  | p :: ps, _, _, ⟨v, vs, h1, h2, h3⟩, r => by
    subst h1
    cases r with
    | cons r1 r2 => exact .cons ⟨v, r1, h2⟩ (each_of h3 r2)
theorem all_of_each {K : PySem.W.Frag} {m : Mp} {H : Hp} : ∀ {ps : List P} {us : List Value}, PySem.W.EachIs (SortR K m H) us ps → ∃ xs, IsAll K (mask m H) ps xs ∧ Vals xs us
  | _, _, .nil => ⟨[], rfl, .nil⟩
  | _, _, .cons ⟨v, r1, h2⟩ t => by
    obtain ⟨xs, h3, r2⟩ := all_of_each t
    exact ⟨v :: xs, ⟨v, xs, rfl, h2, h3⟩, .cons r1 r2⟩
theorem each_reads {m : Mp} {pins : List (Addr × Obj)} {σ : L2.St} {H : Hp} {s : Shared} (I : Inv X pins σ H s) : ∀ {us : List Value} {ps : List P}, (∀ p ∈ ps, toPy p = some (pyOf p)) → PySem.W.EachIs (SortR X.K m H) us ps → PySem.W.EachIs (fun v b => ∃ as, Reads s.heap v (pyOf b) as) us ps
  | _, _, _, .nil => .nil
  | _, _, hp, .cons ⟨x, r1, h2⟩ t => .cons (Dp.reads I _ x _ (Is.dp _ x _ (Is.mono (mask_ex m H) _ _ h2) (hp _ (List.mem_cons_self ..))) r1) (each_reads I (fun q hq => hp q (List.mem_cons_of_mem _ hq)) t)
theorem sortable_of {ds : List PyData} (h : sortableB ds = true) : (∀ d, d ∈ ds → ∃ xs, d = .tuple xs) ∨ PySem.W.Sortable ds := by
  unfold sortableB at h
  rcases Bool.or_eq_true_iff.mp h with h | h
  · refine .inl fun d hd => ?_
    have q := List.all_eq_true.mp h d hd
    split at q
    · exact ⟨_, rfl⟩
    · cases q
  · refine .inr (.inr fun d hd => ?_)
    have q := List.all_eq_true.mp h d hd
    refine ⟨fun e => ?_, fun xs e => ?_⟩
    · subst e; cases q
    · subst e; cases q
theorem alike_of {ds : List PyData} (h : alikeB ds = true) : PySem.W.AllAlike ds := fun d hd d' hd' => List.all_eq_true.mp (List.all_eq_true.mp h d hd) d' hd'
def rSortD (K : PySem.W.Frag) : List V → Hp → VK → Prop := fun xs H Q => ∃ a ys m ps qs, xs = [.ref a] ∧ (SqL K H a ys ∨ SqT K H a ys) ∧ IsAll K (mask m H) ps ys ∧ bSorted [.lst ps] = some (.lst qs) ∧ ∀ zs, IsAll K (mask m H) qs zs → ∀ p, H p = none → Q (.ref p) (upd H p (.lst zs))
theorem cr_sortD (hX : SX X) : CallR X (.builtin "sorted") (rSortD X.K) := by
  intro pins s σ H vs us Q I r h
  obtain ⟨a, ys, m, ps, qs, rfl, hs, hi, hb, q⟩ := h
  obtain ⟨its, rv, hl, hz⟩ : ∃ its : List Value, Vals ys its ∧ (PlainL s.heap a its.toArray ∨ IsTup s.heap a its.toArray) ∧ ys.length ≤ sizeLine := by
    rcases hs with hs | hs
    · obtain ⟨its, rv, hl, hz⟩ := I.list hs
      exact ⟨its, rv, .inl hl, hz⟩
    · obtain ⟨its, rv, hl, hz⟩ := I.tuple hs
      exact ⟨its, rv, .inr hl, hz⟩
  rw [Vals.ref1 r]
  unfold bSorted at hb
  cases hp : toPys ps with
  | none => simp [hp] at hb
  | some ds =>
    simp only [hp] at hb
    split at hb
    · rename_i hc
      obtain ⟨c1, c2, c3, c4⟩ := hc
      cases hb
      obtain ⟨e1, e2⟩ := toPys_map hp
      subst e1
      have hu := hX.units
      have he := each_of hi rv
      have fin : ∀ out : List Value, out.length = ps.length → PySem.W.EachIs (SortR X.K m H) out (ps.mergeSort (PySem.W.dataLe false pyOf)) → EP X pins σ Q (.ref (s.heap.objs.size + 1)) { s with heap := PyProof.Rows.sortedAll s.heap its (List.toArray out) } := fun out h1 h2 => by
        obtain ⟨zs, iz, rz⟩ := all_of_each h2
        obtain ⟨ep, he'⟩ := PyProof.Rows.sortedAll_at s.heap its out.toArray
        have hlen : zs.length ≤ sizeLine := by
          rw [← iz.len, List.length_mergeSort]
          exact size_of c3
        exact ⟨.ref _, upd H (s.heap.objs.size + 1) (.lst zs), I.laid (t' := s.toks) (fun _ _ => PyProof.Rows.sortedAll_old) (Nat.le_succ _) ⟨hlen, out, ep, rz, he'⟩, rfl, q zs iz _ (I.hok.fresh (Nat.le_succ _))⟩
      have hdep : ∀ b ∈ ps, X.A.units + 2 + (pyOf b).depth < cLine := fun b hb => by
        have q := of_decide_eq_true (List.all_eq_true.mp c4 (pyOf b) (List.mem_map_of_mem hb))
        omega
      rcases hl with hl | hl
      · rcases sortable_of c2 with ht | hk
        · exact SE.sorted_tups hl.isList he (each_reads I e2 he) (alike_of c1) ht (size_of c3) hdep fin
        · exact PySem.W.sorted_data hl.isList he (each_reads I e2 he) (alike_of c1) hk (size_of c3) hdep fin
      · exact SE.sorted_T hl he (each_reads I e2 he) (alike_of c1) (sortable_of c2) (size_of c3) hdep fin
    · cases hb
theorem ol_sorted {K : PySem.W.Frag} : OpL K (rSortD K) bSorted := by
  intro m H S ps qs xs Q R h e k
  have e0 := e
  unfold bSorted at e
  split at e
  · obtain ⟨x, rfl, h0⟩ := h.one
    obtain ⟨a, ys, rfl, h1, h2⟩ := sq_r h0
    exact ⟨a, ys, m, _, qs, rfl, .inl h1, h2, e0, k⟩
  · obtain ⟨x, rfl, h0⟩ := h.one
    obtain ⟨a, ys, rfl, h1, h2⟩ := sq_t h0
    exact ⟨a, ys, m, _, qs, rfl, .inr h1, h2, e0, k⟩
  · cases e
theorem bSorted_lst (ps : List P) (u : P) (e : bSorted ps = some u) : ∃ qs, u = .lst qs := by
  unfold bSorted at e
  split at e
  · split at e
    · split at e
      · cases e; exact ⟨_, rfl⟩
      · cases e
    · cases e
  · split at e
    · split at e
      · cases e; exact ⟨_, rfl⟩
      · cases e
    · cases e
  · cases e
def bRepr : List P → Option P
  | [p] => match toPy p with
    | some d => if d.showable = true ∧ d.hasDict = false ∧ d.shown.length ≤ 100000 ∧ d.depth ≤ 64 then some (.str d.shown) else none
    | none => none
  | _ => none
def rRepr (K : PySem.W.Frag) : List V → Hp → VK → Prop := fun xs H Q => ∃ x p, xs = [x] ∧ Is K H p x ∧ ∃ u, bRepr [p] = some (.str u) ∧ Q (.str u) H
theorem cr_repr (hX : SX X) : CallR X (.builtin "repr") (rRepr X.K) := by
  intro pins s σ H vs us Q I r h
  obtain ⟨x, p, rfl, hx, u, hb, q⟩ := h
  obtain ⟨v, rfl, rx⟩ := vals1 r
  unfold bRepr at hb
  cases hp : toPy p with
  | none => simp [hp] at hb
  | some d =>
    simp only [hp] at hb
    split at hb
    · rename_i hc
      obtain ⟨c1, c2, c3, c4⟩ := hc
      cases hb
      have hd := Is.dp p x d hx hp
      have hu := hX.units
      obtain ⟨as, rd⟩ := Dp.reads I d x v hd rx
      cases hd with
      | non =>
        cases rx
        exact PySem.P.repr_of_none ⟨.str _, H, I.tok _, ⟨_, rfl⟩, q⟩
      | bl b =>
        cases rx
        exact PySem.P.repr_of_bool ⟨.str _, H, I.tok _, ⟨_, rfl⟩, q⟩
      | int i =>
        obtain ⟨t, rfl⟩ := rx
        exact PySem.P.repr_of_int (by simpa [PyData.showable] using c1) ⟨.str _, H, I.tok _, ⟨_, rfl⟩, q⟩
      | str y =>
        obtain ⟨t, rfl⟩ := rx
        exact PySem.P.repr_of_str ⟨.str _, H, I.tok _, ⟨_, rfl⟩, q⟩ (size_of c3)
      | lst hs ha =>
        cases rx
        exact repr_of_reads' rd c1 (PyData.noDict_hsm c2) hX.guards (by omega) (fun _ _ e => e) (fun h' t' tk hk => ⟨.str _, H, I.kept (t' := tk) hk, ⟨_, rfl⟩, q⟩) (size_of c3)
      | tup hs ha =>
        cases rx
        exact repr_of_reads' rd c1 (PyData.noDict_hsm c2) hX.guards (by omega) (fun _ _ e => e) (fun h' t' tk hk => ⟨.str _, H, I.kept (t' := tk) hk, ⟨_, rfl⟩, q⟩) (size_of c3)
    · cases hb
theorem on_repr {K : PySem.W.Frag} : OpN K (rRepr K) bRepr := by
  intro m H S ps u xs Q R h e k
  have e0 := e
  unfold bRepr at e
  split at e
  · rename_i p
    obtain ⟨x, rfl, h0⟩ := h.one
    split at e
    · split at e
      · cases e
        exact ⟨x, p, rfl, h0.is, _, e0, k.here R rfl⟩
      · cases e
    · cases e
  · cases e
end
section
variable {X : Cx} {e : Expr} {es : List Expr} {x : Str} {p pos : Pos} {g : FA} {id T : String} {r : List V → Hp → VK → Prop} {op : List P → Option P}
theorem d_cb (hc : CallR X (.builtin id) r) (ho : OpN X.K r op) (hm : X.mg x = none) (hv : bootBuiltins x = some (.builtin id)) (ha : PAd X (e :: es) g) (hg : Gl X x := by rfl) (hn : x ≠ "__name__" := by decide) (hdb : (x == ("__debug__" : Str)) = false := by decide)
    (he : starEach (e :: es) X.env = (false, eval e X.env) :: starEach es X.env := by rfl) (hpl : (backTo pos (starEach es X.env)).any (·.1) = false := by rfl) : PEd X (.Call (.Name x p) (e :: es) [] pos) (fCb op g) :=
  pe_weak (pe_callB hc hg hm hv ha hn hdb he hpl) fun _ _ _ => td_cb ho
theorem d_ct (hc : CallR X (.type T) r) (ho : OpN X.K r op) (hm : X.mg x = none) (hv : bootBuiltins x = some (.type T)) (ha : PAd X (e :: es) g) (hg : Gl X x := by rfl) (hn : x ≠ "__name__" := by decide) (hdb : (x == ("__debug__" : Str)) = false := by decide)
    (he : starEach (e :: es) X.env = (false, eval e X.env) :: starEach es X.env := by rfl) (hpl : (backTo pos (starEach es X.env)).any (·.1) = false := by rfl) : PEd X (.Call (.Name x p) (e :: es) [] pos) (fCb op g) :=
  pe_weak (pe_callTy hc hg hm hv ha hn hdb he hpl) fun _ _ _ => td_cb ho
end
abbrev MOp := List P → List D → Sto → Option (P × List P)
def fMt (op : MOp) (fo : FE) (ga : FA) : FE := fun env S => (fo env S).bind fun o S1 => match o with
  | .r n => match S1[n]? with
    | some (.lst _) => (ga env S1).bind fun ds S2 => match S2[n]? with
      | some (.lst ps) => match op ps ds S2 with
        | some (u, qs) => .ok (.v u) (S2.set n (.lst qs))
        | none => .bad
      | _ => .bad
    | _ => .bad
  | _ => .bad
def OpM (K : PySem.W.Frag) (r : V → List V → Hp → VK → Prop) (op : MOp) : Prop :=
  ∀ m H S n a ps ds u qs xs Q, Rel K m H S → m.l[n]? = some a → S[n]? = some (.lst ps) → IsDs K m (mask m H) ds xs → op ps ds S = some (u, qs) →
    (∀ v m' H', Stp m H m' H' → Rel K m' H' (S.set n (.lst qs)) → Is K (mask m' H') u v → Q v H') → r (.ref a) xs H Q
section
variable {K : PySem.W.Frag}
theorem td_mt {r : V → List V → Hp → VK → Prop} {op : MOp} {fo : FE} {ga : FA} {σ : L2.St} {H : Hp} {Q : VK} (ho : OpM K r op) (h : TD K (fMt op fo ga) σ H Q) : tBM K "list" r (TD K fo) (TDa K ga) σ H Q := by
  obtain ⟨m, env, S, R, E, d', S', e1, q⟩ := h
  obtain ⟨o, S1, k1, e2⟩ := Oc.bind_eq e1
  refine ⟨m, env, S, R, E, o, S1, k1, fun v m1 H1 st1 R1 i1 => ?_⟩
  split at e2
  · rename_i n
    split at e2
    · rename_i ps0 hS0
      obtain ⟨a, rfl, h1⟩ := i1
      obtain ⟨xs0, h2, _⟩ := R1.ob n a _ h1 hS0
      obtain ⟨ds, S2, k2, e3⟩ := Oc.bind_eq e2
      refine ⟨.inl ⟨rfl, xs0, .of h2⟩, m1, env, S1, R1, E.step st1, ds, S2, k2, fun vs m2 H2 st2 R2 i2 => ?_⟩
      split at e3
      · rename_i ps hS
        split at e3
        · rename_i u qs hop
          cases e3
          exact ho m2 H2 S2 n a ps ds u qs vs Q R2 (st2.ext _ _ h1) hS i2 hop fun v m3 H3 st3 R3 i3 => q v m3 H3 ((st1.trans st2).trans st3) R3 i3
        · cases e3
      · cases e3
    · cases e2
  · cases e2
def mAppend : MOp := fun ps ds _ => match ds with
  | [.v p] => if ps.length < 100000 then some (.non, ps ++ [p]) else none
  | _ => none
def mPopAt : MOp := fun ps ds _ => match ds with
  | [.v (.int i)] => if -1000000 ≤ i ∧ i ≤ 1000000 then match ixN ps.length i with
    | some k => match ps[k]? with
      | some p => some (p, ps.eraseIdx k)
      | none => none
    | none => none else none
  | _ => none
def mExtend : MOp := fun ps ds S => match ds with
  | [d] => match deP S d with
    | some (.lst qs) => if ps.length + qs.length ≤ 100000 then some (.non, ps ++ qs) else none
    | _ => none
  | _ => none
theorem one_v {m : Mp} {G : Hp} {p : P} {xs : List V} (h : IsDs K m G [.v p] xs) : ∃ x, xs = [x] ∧ Is K G p x := by
  obtain ⟨v, vs, rfl, h1, h2⟩ := h
  have h2' : vs = [] := h2
  subst h2'
  exact ⟨v, rfl, h1⟩
theorem om_append : OpM K rAppend mAppend := by
  intro m H S n a ps ds u qs xs Q R hm hS hd e k
  unfold mAppend at e
  split at e
  · split at e
    · rename_i p hl
      cases e
      obtain ⟨x, rfl, hx⟩ := one_v hd
      obtain ⟨ys, h1, h2⟩ := R.ob n a _ hm hS
      obtain ⟨R3, st3⟩ := R.write (o := .lst (ys ++ [x])) (x := .lst (ps ++ [p])) hm fun H' s' e' => ⟨_, e', (s'.all h2).append (IsAll.one (s'.val hx))⟩
      exact ⟨a, ys, x, rfl, rfl, h1, size_lt (by rw [← h2.len]; exact hl), k _ _ _ st3 R3 rfl⟩
    · cases e
  · cases e
theorem om_popAt : OpM K rPopAt mPopAt := by
  intro m H S n a ps ds u qs xs Q R hm hS hd e k
  unfold mPopAt at e
  split at e
  · rename_i i
    split at e
    · rename_i hb
      split at e
      · rename_i j hj
        split at e
        · rename_i p hp
          cases e
          obtain ⟨x0, rfl, hx0⟩ := one_v hd
          have hx0' : x0 = .int i := hx0
          subst hx0'
          obtain ⟨ys, h1, h2⟩ := R.ob n a _ hm hS
          obtain ⟨x, hx, ix⟩ := h2.get hp
          have hlen := h2.len
          rw [hlen] at hj
          obtain ⟨b1, b2, b3, b4⟩ := ixN_seq hj
          obtain ⟨R3, st3⟩ := R.write (o := .lst (ys.eraseIdx j)) (x := .lst (ps.eraseIdx j)) hm fun H' s' e' => ⟨_, e', (s'.all h2).eraseIdx j⟩
          exact ⟨a, ys, i, j, x, rfl, rfl, h1, by omega, by omega, b1, hx, k _ _ _ st3 R3 (st3.val ix)⟩
        · cases e
      · cases e
    · cases e
  · cases e
theorem om_extend : OpM K rExtend mExtend := by
  intro m H S n a ps ds u qs xs Q R hm hS hd e k
  unfold mExtend at e
  split at e
  · rename_i d
    split at e
    · rename_i zs hz
      split at e
      · rename_i hl
        cases e
        obtain ⟨v, vs, rfl, hv, hvs⟩ := hd
        have hvs' : vs = [] := hvs
        subst hvs'
        obtain ⟨b, ws, rfl, h3, h4⟩ := isR_of R hv hz
        obtain ⟨ys, h1, h2⟩ := R.ob n a _ hm hS
        obtain ⟨R3, st3⟩ := R.write (o := .lst (ys ++ ws)) (x := .lst (ps ++ zs)) hm fun H' s' e' => ⟨_, e', (s'.all h2).append (s'.all h4)⟩
        exact ⟨a, b, ys, ws, rfl, rfl, h1, h3, size_of (by rw [← h2.len, ← h4.len]; exact hl), k _ _ _ st3 R3 rfl⟩
      · cases e
    · cases e
  · cases e
end
end DL
namespace DL
open PySem PySem.Spec PyProof.Rows L2
variable [Tb]
abbrev FF := List D → Sto → Oc D
def SpD (K : PySem.W.Frag) (n : Nat) (F : FF) (vs : List V) (H : Hp) (Q : VK) : Prop := ∃ m S ds d S', Rel K m H S ∧ IsDs K m (mask m H) ds vs ∧ ds.length = n ∧ F ds S = .ok d S' ∧
  ∀ v m' H', Stp m H m' H' → Rel K m' H' S' → IsD K m' (mask m' H') d v → Q v H'
structure FnG (P : Program) (w : World) (K : PySem.W.Frag) (mg : Str → Option Value) (base : Heap) (k : Nat) (f : Addr) (fd : FuncData) (ps : List Str) (F : FF) : Prop where
  run : ∀ (A : Around) (outer : List PySem.Env) (s : Shared) (H : Hp) (args : Args) (us : List Value) (vs : List V) (Q : VK), Room k A → A.guards = some [] → Env0 P w K mg base A outer s H → BindsTo s fd args (ps.zip us) → Vals vs us → SpD K ps.length F vs H Q →
    codeAny (model P w) A (.call (.ref f) args) (CR CX0 outer P w H s Q E0) s
def closeD (keep : Bool) (n : Nat) (d : D) (S : Sto) : Oc D := if keep = true then .ok d S else match d with
  | .v p => .ok (.v p) (S.take n)
  | .r r => if r < n then .ok (.r r) (S.take n) else match S[r]? with
    | some (.lst ps) => .ok (.v (.lst ps)) (S.take n)
    | some (.dic ks ps) => .ok (.v (.dic ks ps)) (S.take n)
    | some (.dn ks ps) => .ok (.v (.dn ks ps)) (S.take n)
    | some (.dl ks cs) => .ok (.v (.dn ks (cs.map P.lst))) (S.take n)
    | _ => .bad
  | .o r k => if r < n then .ok (.o r k) (S.take n) else .bad
  | .t _ => .bad
def startD (n : Nat) (ds : List D) : Dnv := ds.map some ++ List.replicate (n - ds.length) none
def runF (n : Nat) (keep : Bool) (b : FS) : FF := fun ds S => match b (startD n ds) S with
  | .nx _ S1 => closeD keep S.length (.v .non) S1
  | .rt d S1 => closeD keep S.length d S1
  | _ => .bad
section
variable {K : PySem.W.Frag} {m m' : Mp} {H H' : Hp} {S S' : Sto}
abbrev Mp.cut (m m' : Mp) : Mp := ⟨m.l, m.h, ⟨m'.c.o.filter fun p => decide (p.1 ∈ m.l)⟩⟩
theorem Rel.trunc (R0 : Rel K m H S) (R : Rel K m' H' S') (st : Stp m H m' H') (n : Nat) (hn : m.l.length = n) : Rel K (m.cut m') H' (S'.take n) ∧ Stp m H (m.cut m') H' ∧ Exh (mask m' H') (mask (m.cut m') H') := by
  have sub : ∀ b, b ∈ m.l → b ∈ m'.l := fun b hb => by
    obtain ⟨r, hr, e⟩ := List.getElem_of_mem hb
    exact List.mem_of_getElem? (st.ext r b (by rw [List.getElem?_eq_getElem hr, e]))
  have so : ∀ b, off ((m.cut m') : Mp) b → off m' b := fun b z => z.imp (sub b) fun w => w.imp (fun w => by rw [st.hh]; exact w) fun w => by
    obtain ⟨p, hp, e⟩ := List.mem_map.mp w
    exact List.mem_map.mpr ⟨p, (List.mem_filter.mp hp).1, e⟩
  have ex : Exh (mask m' H') (mask (m.cut m') H') := ex_of fun b u z1 z2 _ => ⟨fun q => z1 (so b q), z2⟩
  have mem1 : ∀ {p : Addr × Nat × Addr}, p ∈ (m.cut m').c.o → p ∈ m'.c.o := fun hp => (List.mem_filter.mp hp).1
  have hle : n ≤ S'.length := by
    rw [← R.len, ← hn]
    rcases Nat.lt_or_ge m'.l.length m.l.length with q | q
    · exfalso
      have := st.ext m'.l.length m.l[m'.l.length] (List.getElem?_eq_getElem q)
      rw [List.getElem?_eq_none (Nat.le_refl _)] at this
      cases this
    · exact q
  refine ⟨⟨by rw [List.length_take]; show m.l.length = _; rw [hn]; omega, ?_, fun r a x h1 h2 => ?_, fun b hb => ?_, fun b hb => R.hnt b (by rw [st.hh]; exact hb), fun p hp => ?_, fun p hp p2 hp2 => R.inj p (mem1 hp) p2 (mem1 hp2), fun p hp p2 hp2 => R.fnc p (mem1 hp) p2 (mem1 hp2), fun p hp => ?_, fun p hp => (R.tab p hp).mono ex rfl (so _)⟩,
    ⟨fun _ _ h => h, fun b o z => ex b o (st.ex b o z), rfl, st.hk, fun p hp => List.mem_filter.mpr ⟨st.co p hp, decide_eq_true (by
      obtain ⟨r, o, h1, _⟩ := R0.ow p hp
      exact List.mem_of_getElem? h1)⟩⟩, ex⟩
  · have : m.l = m'.l.take n := List.ext_getElem? fun i => by
      by_cases hi : i < n
      · rw [List.getElem?_take_of_lt hi, List.getElem?_eq_getElem (by omega)]
        exact (st.ext i _ (List.getElem?_eq_getElem (by omega))).symm
      · rw [List.getElem?_eq_none (by omega), List.getElem?_eq_none (by rw [List.length_take]; omega)]
    show m.l.Nodup
    rw [this]
    exact R.nd.sublist (List.take_sublist _ _)
  · have hr : r < n := by rw [← hn]; exact lt_of_at h1
    rw [List.getElem?_take_of_lt hr] at h2
    exact (R.ob r a x (st.ext r a h1) h2).mono2 ex (fun k b z => List.mem_filter.mpr ⟨z, decide_eq_true (List.mem_of_getElem? h1)⟩) rfl (fun _ _ _ => rfl) fun _ _ z => mem1 z
  · obtain ⟨q1, q2⟩ := R.hid b (by rw [st.hh]; exact hb)
    exact ⟨fun z => q1 (sub b z), q2⟩
  · obtain ⟨o1, o2, o3, o5⟩ := R.own p (mem1 hp)
    exact ⟨fun z => o1 (sub _ z), fun z => o2 (by rw [st.hh]; exact z), o3, o5⟩
  · obtain ⟨r, o, h1, h2, h3⟩ := R.ow p (mem1 hp)
    have hin : p.1 ∈ m.l := of_decide_eq_true (List.mem_filter.mp hp).2
    obtain ⟨j, hj, ej⟩ := List.getElem_of_mem hin
    have e1 := st.ext j p.1 (by rw [List.getElem?_eq_getElem hj, ej])
    have l1 := lt_of_at e1
    have l2 := lt_of_at h1
    rw [List.getElem?_eq_getElem l1] at e1
    rw [List.getElem?_eq_getElem l2] at h1
    obtain rfl : j = r := (List.getElem_inj R.nd).mp ((Option.some.inj e1).trans (Option.some.inj h1).symm)
    exact ⟨j, o, by show m.l[j]? = _; rw [List.getElem?_eq_getElem hj, ej], by rw [List.getElem?_take_of_lt (by omega)]; exact h2, h3⟩
theorem isAll_of {G : Hp} : ∀ {ps : List P} {vs : List V}, ps.length = vs.length → (∀ (i : Nat) (p : P), ps[i]? = some p → ∃ v, vs[i]? = some v ∧ Is K G p v) → IsAll K G ps vs
  | [], vs, hl, _ => List.length_eq_zero_iff.mp hl.symm
  | p :: ps, [], hl, _ => by cases hl
  | p :: ps, v :: vs, hl, h => by
    obtain ⟨u, e, i⟩ := h 0 p rfl
    cases e
    exact ⟨_, _, rfl, i, isAll_of (by simpa using hl) fun i p e => by simpa using h (i + 1) p (by simpa using e)⟩
theorem close_ok {keep : Bool} {d d2 : D} {S1 : Sto} {v : V} {Q : VK} (R : Rel K m H S) (st : Stp m H m' H') (R1 : Rel K m' H' S1) (i1 : IsD K m' (mask m' H') d v) (e : closeD keep S.length d S1 = .ok d2 S')
    (q : ∀ v m' H', Stp m H m' H' → Rel K m' H' S' → IsD K m' (mask m' H') d2 v → Q v H') : Q v H' := by
  unfold closeD at e
  by_cases hk : keep = true
  · rw [if_pos hk] at e
    cases e
    exact q v m' H' st R1 i1
  · rw [if_neg hk] at e
    obtain ⟨R2, st2, ex⟩ := R.trunc R1 st S.length R.len
    have low : ∀ {r : Nat} {a : Addr}, r < S.length → m'.l[r]? = some a → m.l[r]? = some a := fun {r a} hr ha => by
      rw [← R.len] at hr
      rw [List.getElem?_eq_getElem hr]
      have := st.ext r _ (List.getElem?_eq_getElem hr)
      rw [ha] at this
      exact this.symm
    split at e
    · cases e
      exact q v _ H' st2 R2 (Is.mono ex _ _ i1)
    · rename_i r
      obtain ⟨a, rfl, ha⟩ := i1
      split at e
      · rename_i hr
        cases e
        exact q _ _ H' st2 R2 ⟨a, rfl, low hr ha⟩
      · rename_i hr
        have hout : ¬ off (m.cut m') a := by
          rintro (z | z | z)
          · obtain ⟨j, hj, ej⟩ := List.getElem_of_mem z
            have e1 := st.ext j a (by rw [List.getElem?_eq_getElem hj, ej])
            have l1 := lt_of_at e1
            have l2 := lt_of_at ha
            rw [List.getElem?_eq_getElem l1] at e1
            rw [List.getElem?_eq_getElem l2] at ha
            have : j = r := (List.getElem_inj R1.nd).mp ((Option.some.inj e1).trans (Option.some.inj ha).symm)
            have hj' : j < m.l.length := hj
            rw [R.len] at hj'
            omega
          · exact (R1.hid a (by rw [st.hh]; exact z)).1 (List.mem_of_getElem? ha)
          · obtain ⟨p, hp, e⟩ := List.mem_map.mp z
            exact (R1.own p (List.mem_filter.mp hp).1).1 (by rw [e]; exact List.mem_of_getElem? ha)
        split at e
        · rename_i ps hS
          cases e
          obtain ⟨xs, h1, h2⟩ := R1.ob r a _ ha hS
          exact q _ _ H' st2 R2 ⟨a, xs, rfl, mask_at hout h1 (by intro _ z; cases z), IsAll.mono ex _ _ h2⟩
        · rename_i ks ps hS
          cases e
          obtain ⟨xs, h1, h2, h3, h4⟩ := R1.ob r a _ ha hS
          exact q _ _ H' st2 R2 ⟨a, xs, rfl, mask_at hout h1 (by intro _ z; cases z), h2, h3, IsAll.mono ex _ _ h4⟩
        · rename_i ks ps hS
          cases e
          obtain ⟨as, xs, ns, h1, h2, h3, h4, h5, h6, h7⟩ := R1.ob r a _ ha hS
          exact q _ _ H' st2 R2 ⟨a, as, xs, ns, rfl, mask_at hout h1 NDo_nt, h2, h3, h4, h5, IsAll.mono ex _ _ h6, IsAll.mono ex _ _ h7⟩
        · rename_i ks cs hS
          cases e
          obtain ⟨as, bs, ns, h1, h2, h3, h4, h5, h6, h7, h8, h9⟩ := R1.ob r a _ ha hS
          refine q _ _ H' st2 R2 ⟨a, as, bs.map V.ref, ns, rfl, mask_at hout h1 NDo_nt, h2, h3, by rw [List.length_map]; exact h4, by rw [List.length_map]; exact h5, IsAll.mono ex _ _ h6, ?_⟩
          have hal : a ∉ m.l := fun z => hout (.inl z)
          refine isAll_of (by rw [List.length_map, List.length_map, h7, h4]) fun i p e1 => ?_
          rw [List.getElem?_map] at e1
          obtain ⟨ys, e2, rfl⟩ := Option.map_eq_some_iff.mp e1
          have hi : i < bs.length := by rw [h4, ← h7]; exact lt_of_at e2
          obtain ⟨g1, zs, g2, g3⟩ := h9 i bs[i] ys (List.getElem?_eq_getElem hi) e2
          refine ⟨.ref bs[i], by rw [List.getElem?_map, List.getElem?_eq_getElem hi]; rfl, bs[i], zs, rfl, mask_at ?_ g2 (by intro _ z; cases z), IsAll.mono ex _ _ g3⟩
          rintro (z | z | z)
          · obtain ⟨j, hj, ej⟩ := List.getElem_of_mem z
            exact (R1.own _ g1).1 (List.mem_of_getElem? (st.ext j _ (by rw [List.getElem?_eq_getElem hj, ej])))
          · exact (R1.own _ g1).2.1 (by rw [st.hh]; exact z)
          · obtain ⟨p, hp, e⟩ := List.mem_map.mp z
            have hp2 := List.mem_filter.mp hp
            have := R1.inj p hp2.1 _ g1 e
            subst this
            exact hal (of_decide_eq_true hp2.2)
        · cases e
    · rename_i r k
      split at e
      · rename_i hr
        cases e
        obtain ⟨a, b, rfl, ha, hb⟩ := i1
        have hl := low hr ha
        exact q _ _ H' st2 R2 ⟨a, b, rfl, hl, List.mem_filter.mpr ⟨hb, decide_eq_true (List.mem_of_getElem? hl)⟩⟩
      · cases e
    · cases e
theorem isDs_get : ∀ {ds : List D} {vs : List V} {i : Nat} {d : D} {G : Hp}, IsDs K m G ds vs → ds[i]? = some d → ∃ v, vs[i]? = some v ∧ IsD K m G d v
  | [], _, _, _, _, _, h => by simp at h
  | d :: ds, _, 0, _, _, ⟨v, vs, h1, h2, h3⟩, h => by
    subst h1
    simp at h
    subst h
    exact ⟨v, rfl, h2⟩
  | d :: ds, _, i + 1, _, _, ⟨v, vs, h1, h2, h3⟩, h => by
    subst h1
    obtain ⟨u, e, q⟩ := isDs_get (i := i) h3 (by simpa using h)
    exact ⟨u, by simpa using e, q⟩
theorem start_is {N : List Str} {ds : List D} {vs : List V} {G : Hp} (h : IsDs K m G ds vs) : EnvIs K m G (start N vs) (startD N.length ds) := by
  have hl := h.len
  refine ⟨by simp [L2.start, startD, hl], fun i d e => ?_⟩
  unfold startD at e
  rcases Nat.lt_or_ge i ds.length with q | q
  · rw [List.getElem?_append_left (by simpa using q), List.getElem?_map] at e
    obtain ⟨d', h1, h2⟩ := Option.map_eq_some_iff.mp e
    cases h2
    obtain ⟨v, h3, h4⟩ := isDs_get h h1
    refine ⟨v, ?_, h4⟩
    unfold L2.start
    rw [List.getElem?_append_left (by rw [List.length_map, ← hl]; exact q), List.getElem?_map, h3]
    rfl
  · rw [List.getElem?_append_right (by simpa using q)] at e
    have := List.mem_of_getElem? e
    have := List.eq_of_mem_replicate this
    cases this
end
theorem fn_g {P : Program} {w : World} {K : PySem.W.Frag} {mg : Str → Option Value} {base : Heap} {k : Nat} {f : Addr} {name qual : Str} {params : Arguments} {body : List Stmt} {scope : Scope} {dV kV doc pm cdv ct oc : Value} {an od : Option Addr}
    {osl : Array (Option Value)} {N ps : List Str} {b : FS} {keep : Bool} (lk : K.lookup f = some ⟨oc, od, .func (PySem.W.fnOf name qual params body scope dV kV doc pm an cdv ct), osl⟩) (hcd : PySem.W.codeIn K cdv qual = true) (S : FnScope N ps scope)
    (hbody : ∀ (A : Around) (outer : List PySem.Env) (s : Shared) (H : Hp), Room k (A.deeper (envOfC qual scope s.heap.objs.size f cdv)) → A.guards = some [] → PSsd (cxOf CX0 P w K mg base N qual scope f cdv A outer s H E0).nox body b) :
    FnG P w K mg base (k + 1) f (PySem.W.fnOf name qual params body scope dV kV doc pm an cdv ct) ps (runF N.length keep b) := by
  refine ⟨fun A outer s H args us vs Q hr hgd e0 hb r hsp => ?_⟩
  obtain ⟨m, S0, ds, d, S', R, iD, hlen, hF, q⟩ := hsp
  have hl : vs.length = ps.length := by rw [← iD.len]; exact hlen
  have KX : K.In s.heap := e0.mod.kin.keeps fun b o e => (e0.bs b o e).1
  have lim : s.heap.NoLimit := e0.mod.nolimit.keeps fun b o e => (e0.bs b o e).1
  refine codeAny_call_function hr.depth (KX _ _ lk) rfl S.co S.gen rfl (PySem.W.codeRec_of KX hcd) (hb _ _ _ _ ?_)
  refine wpAny_newFunctionEnv_cells S.kind (fun ⟨n, v⟩ hy => ?_) fun env he s1 x => ?_
  · rcases S.par n (List.of_mem_zip hy).1 with z | z
    · exact .inl z
    · exact .inr ⟨z, PySem.W.cellsFrom_some _ _ _ (.inl z)⟩
  subst he
  refine ⟨lim.keeps x.toInCall.keep, codeAny_func ?_⟩
  have I : Inv (cxOf CX0 P w K mg base N qual scope f cdv A outer s H E0) [] (start N vs) H s1 := inv_start S hr.hd e0 hl r x
  have hB := (hbody A outer s H (hr.deeper _) hgd).nox
  have reading : TDs K b { nx := fun _ H' => Q .non H', rt := Q } (start N vs) H := by
    refine ⟨m, startD N.length ds, S0, R, start_is iD, ?_⟩
    unfold runF at hF
    cases hb : b (startD N.length ds) S0 with
    | nx env1 S1 =>
      rw [hb] at hF
      exact fun m1 H1 σ1 st1 R1 E1 => close_ok (d := .v .non) (v := .non) R st1 R1 (show V.non = V.non from rfl) hF q
    | rt d1 S1 =>
      rw [hb] at hF
      exact fun v m1 H1 st1 R1 i1 => close_ok R st1 R1 i1 hF q
    | bk env1 S1 => rw [hb] at hF; cases hF
    | ct env1 S1 => rw [hb] at hF; cases hF
    | bad => rw [hb] at hF; cases hF
  refine wpAny_mono (hB.run [] s1 (start N vs) H _ I reading) (fun fl s' hs => ?_) fun e s' hs => hs
  cases fl with
  | ret u =>
    obtain ⟨v, σ', H', J, rv, q⟩ := hs
    exact ⟨v, H', J.os, J.bare, J.base, J.hok, rv, q⟩
  | next =>
    obtain ⟨σ', H', J, q⟩ := hs
    exact ⟨.non, H', J.os, J.bare, J.base, J.hok, rfl, q⟩
  | brk =>
    obtain ⟨_, _, _, q⟩ := hs
    exact False.elim q
  | cont =>
    obtain ⟨_, _, _, q⟩ := hs
    exact False.elim q
def fCall (F : FF) (dv : List D) (g : FA) : FE := fun env S => (g env S).bind fun ds S1 => F (ds ++ dv) S1
def fCallN (F : FF) (n k : Nat) (gd : List D → List D → List D) (g gk : FA) : FE := fun env S => (g env S).bind fun ds S1 => (gk env S1).bind fun es S2 => if ds.length = n ∧ es.length = k then F (gd ds es) S2 else .bad
section
variable {X : Cx} {k n : Nat} {f : Addr} {fd : FuncData} {ps ks : List Str} {F : FF} {x : Str} {p pos : Pos} {e : Expr} {es : List Expr} {kws : List Keyword} {g gk : FA}
theorem run_g {pins : List (Addr × Obj)} {σ : L2.St} {H : Hp} {s : Shared} {Q : VK} {args : Args} {us : List Value} {vs : List V} (G : FnG X.prog X.w X.K X.mg X.base k f fd ps F) (hr : Room k X.A) (hX : SX X) (I : Inv X pins σ H s) (hb : BindsTo s fd args (ps.zip us)) (r : Vals vs us)
    (h : SpD X.K ps.length F vs H Q) : codeAny (model X.prog X.w) X.A (.call (.ref f) args) (fun r s' => match r with | .ok (.ret v) => EP X pins σ Q v s' | .ok _ => False | .error e => X.xe e s') s := by
  refine codeAny_mono (G.run X.A X.stack s H args us vs Q hr hX.guards I.env0 hb r h) fun r s' hq => ?_
  cases r with
  | error e => exact False.elim hq
  | ok fl =>
    cases fl with
    | ret u => exact I.after hq
    | next => exact False.elim hq
    | brk => exact False.elim hq
    | cont => exact False.elim hq
theorem run_gW {pins : List (Addr × Obj)} {σ : L2.St} {H : Hp} {s : Shared} {Q : VK} {us0 : List Value} {kw : List (Str × Value)} {us : List Value} {vs : List V} (G : FnG X.prog X.w X.K X.mg X.base k f fd ps F) (hr : Room k X.A) (hX : SX X) (I : Inv X pins σ H s) (hb : BindsTo s fd ⟨us0, kw⟩ (ps.zip us)) (r : Vals vs us)
    (h : SpD X.K ps.length F vs H Q) : wpAny (model X.prog X.w) X.A (call (.ref f) us0 kw) (EP X pins σ Q) X.xe s := by
  refine wpAny_call (codeAny_mono (run_g G hr hX I hb r h) fun r s' hq => ?_)
  cases r with
  | error e => exact hq
  | ok fl =>
    cases fl with
    | ret u => exact hq
    | next => exact False.elim hq
    | brk => exact False.elim hq
    | cont => exact False.elim hq
def DvIs (K : PySem.W.Frag) (dv : List D) (ds : List Value) : Prop := ∃ dvs : List V, Vals dvs ds ∧ ∀ m G, IsDs K m G dv dvs
theorem DvIs.nil {K : PySem.W.Frag} : DvIs K [] [] := ⟨[], .nil, fun _ _ => rfl⟩
theorem d_call {dv : List D} {ds : List Value} (G : FnG X.prog X.w X.K X.mg X.base k f fd ps F) (hr : Room k X.A) (hX : SX X) (hm : X.mg x = some (.ref f)) (hk : PySem.W.keepIn X.K (.ref f) = true) (hb : Binds X.K fd ps ds) (hd : DvIs X.K dv ds) (ha : PAd X (e :: es) g) (hlen : (e :: es).length + dv.length = ps.length := by rfl)
    (hl : ∀ env S qs S', g env S = .ok qs S' → qs.length = (e :: es).length) (hg : Gl X x := by rfl) (hdb : (x == ("__debug__" : Str)) = false := by decide) (he : starEach (e :: es) X.env = (false, eval e X.env) :: starEach es X.env := by rfl) (hpl : (backTo pos (starEach es X.env)).any (·.1) = false := by rfl) :
    PEd X (.Call (.Name x p) (e :: es) [] pos) (fCall F dv g) := by
  refine ⟨fun pins s σ H Q I h => ?_⟩
  obtain ⟨m, env, S, R, E, d, S', e1, q⟩ := h
  obtain ⟨qs, S1, k1, e2⟩ := Oc.bind_eq e1
  obtain ⟨dvs, hd1, hd2⟩ := hd
  refine wpAny_Call_Name_kw (ld_glob I hg hm ?_ hdb)
  refine PySem.W.callWith_K (h₀ := X.base) I.ok.mod.kin hk (thn (ha.run pos pins s σ H (fun vs H1 => SpD X.K ps.length F (vs ++ dvs) H1 Q ∧ (vs ++ dvs).length = ps.length) I ⟨m, env, S, R, E, qs, S1, k1, fun vs m1 H1 st1 R1 i1 => ?_⟩) fun us s1 ⟨vs, H1, I1, r, q1, q2⟩ => ⟨I1.kIn, ?_⟩) he hpl
  · have hlq := hl _ _ _ _ k1
    refine ⟨⟨m1, S1, qs ++ dv, d, S', R1, i1.append (hd2 m1 _), by rw [List.length_append, hlq]; exact hlen, e2, fun v m2 H2 st2 R2 i2 => q v m2 H2 (st1.trans st2) R2 i2⟩, ?_⟩
    have h1 := i1.len
    have h2 := (hd2 m1 (mask m1 H1)).len
    rw [List.length_append, ← h1, ← h2, hlq]
    exact hlen
  · have r2 : Vals (vs ++ dvs) (us ++ ds) := r.append hd1
    exact run_gW G hr hX I1 (hb s1 us I1.kIn (by rw [← r2.length]; exact q2)) r2 q1
theorem d_call0 {dv : List D} {ds : List Value} (G : FnG X.prog X.w X.K X.mg X.base k f fd ps F) (hr : Room k X.A) (hX : SX X) (hm : X.mg x = some (.ref f)) (hk : PySem.W.keepIn X.K (.ref f) = true) (hb : Binds X.K fd ps ds) (hd : DvIs X.K dv ds) (hlen : dv.length = ps.length := by rfl)
    (hg : Gl X x := by rfl) (hdb : (x == ("__debug__" : Str)) = false := by decide) : PEd X (.Call (.Name x p) [] [] pos) (fCall F dv fNil) := by
  refine ⟨fun pins s σ H Q I h => ?_⟩
  obtain ⟨m, env, S, R, E, d, S', e1, q⟩ := h
  obtain ⟨qs, S1, k1, e2⟩ := Oc.bind_eq e1
  cases k1
  obtain ⟨dvs, hd1, hd2⟩ := hd
  refine wpAny_Call_Name_kw (ld_glob I hg hm ?_ hdb)
  have h2 := (hd2 m (mask m H)).len
  exact PySem.W.callWith_K0 I.kIn hk (run_gW G hr hX I (hb s [] I.kIn (by rw [List.nil_append, ← hd1.length, ← h2]; exact hlen)) hd1 ⟨m, S, dv, d, S', R, hd2 m _, hlen, e2, q⟩)
theorem len_nil {env : Dnv} {S S' : Sto} {qs : List D} (h : fNil env S = .ok qs S') : qs.length = 0 := by cases h; rfl
theorem len_cons {fe : FE} {g : FA} {n : Nat} (hg : ∀ env S qs S', g env S = .ok qs S' → qs.length = n) : ∀ env S qs S', fCons fe g env S = .ok qs S' → qs.length = n + 1 := fun env S qs S' h => by
  obtain ⟨d, S1, k1, e2⟩ := Oc.bind_eq h
  obtain ⟨ds, S2, k2, e3⟩ := Oc.bind_eq e2
  cases e3
  simp [hg _ _ _ _ k2]
end
end DL
namespace DL
open PySem PySem.Spec PyProof.Rows L2
variable [Tb]
def LawOk (F : FF) (n : Nat) : Prop := ∀ ns : List Int, ns.length ≤ n → ∃ S', F [.v (.frz (ns.map P.int))] [] = .ok (.v (.bl true)) S'
theorem ints_all {K : PySem.W.Frag} {G : Hp} : ∀ ns : List Int, IsAll K G (ns.map P.int) (ns.map V.int)
  | [] => rfl
  | n :: ns => ⟨.int n, ns.map V.int, rfl, rfl, ints_all ns⟩
theorem mask_nilat {H : Hp} {b : Addr} {o : HO} (e : H b = some o) (n : notTbl o) : mask ⟨[], [], ⟨[]⟩⟩ H b = some o := mask_at (by unfold off; simp) e n
abbrev tabO : Obj := { cls := .none, data := .fields #[] }
abbrev scrO (vs : List Value) : Obj := { cls := .type "list", data := .seq vs.toArray }
structure Entry (K : PySem.W.Frag) (H : Hp) (a : Addr) (ns : List Int) (ts : List Addr) : Prop where
  tbl : ∀ P ∈ ts, H P = some (.tbl #[])
  any : ∀ b u, H b = some u → (b ∈ ts ∧ u = .tbl #[]) ∨ (b = a ∧ K.lookup a = none ∧ ∃ ob xs, u = .frz ob (.lst xs))
  scr : SqL K H a (ns.map V.int)
theorem entry_rel {K : PySem.W.Frag} {H : Hp} {a : Addr} {ns : List Int} {ts : List Addr} (E : Entry K H a ns ts) (hTb : ∀ p ∈ Tb.t K, p.1 ∈ ts) : Rel K ⟨[], [], ⟨[]⟩⟩ H [] where
  len := rfl
  nd := List.nodup_nil
  ob := fun r b o h => by simp at h
  hid := fun b z => nomatch (show b ∈ ([] : List Addr) from z)
  hnt := fun b z => nomatch (show b ∈ ([] : List Addr) from z)
  own := fun p z => nomatch (show p ∈ ([] : List (Addr × Nat × Addr)) from z)
  inj := fun p z => nomatch (show p ∈ ([] : List (Addr × Nat × Addr)) from z)
  fnc := fun p z => nomatch (show p ∈ ([] : List (Addr × Nat × Addr)) from z)
  ow := fun p z => nomatch (show p ∈ ([] : List (Addr × Nat × Addr)) from z)
  tab := fun p hp => ⟨#[], by unfold off; simp, E.tbl _ (hTb p hp), True.intro, fun pos cv z => nomatch (show codeAmong pos [] = some cv from z)⟩
theorem law_callG {P : Program} {w : World} {K : PySem.W.Frag} {mg mb : Str → Option Value} {k n : Nat} {fa a : Addr} {cs : List (Addr × Addr)} {fd : FuncData} {x : Str} {F : FF} {s1 : Shared} {vs : List Value} {ns : List Int}
    (KX : K.In s1.heap) (nsG : s1.heap.Ns mainGlobals mg) (nsB : s1.heap.Ns builtinsNs mb) (bb : ∀ x : Str, x ≠ "__name__" → mb x = bootBuiltins x) (lim : s1.heap.NoLimit) (gens : s1.gens = #[])
    (tE : ∀ p ∈ cs, s1.heap.get? p.2 = some tabO) (tK : ∀ p ∈ cs, K.lookup p.2 = none) (tC : ∀ p ∈ cs, PySem.W.CodeHd s1.heap p.1 p.2)
    (main : ∃ (bm : Addr) (ob : Obj), mg "__builtins__" = some (.ref bm) ∧ bm ≠ builtinsNs ∧ s1.heap.get? bm = some ob ∧ ob.cls = .type "module" ∧ ob.dict = some builtinsNs ∧ ob.data = .plain)
    (ha : s1.heap.get? a = some (scrO vs)) (hi : IntsAre vs ns) (hn : ns.length ≤ n) (hl : ns.length ≤ sizeLine) (hr : Room k callerA)
    (G : ∀ base : Heap, K.In base → base.Ns mainGlobals mg → (∀ p ∈ cs, LamX.TabB base mg p.1 p.2) → FnG P w K mg base k fa fd [x] F) (hTb : ∀ p ∈ Tb.t K, p.1 ∈ cs.map (·.2)) (hbind : ∀ (s : Shared) (u : Value), BindsTo s fd ⟨[u], []⟩ [(x, u)]) (hF : LawOk F n) :
    codeAny (model P w) callerA (.call (.ref fa) ⟨[.ref a], []⟩) (fun r s' => r = .ok (.ret (.bool true)) ∧ OldK s1.heap s'.heap ∧ s'.os = s1.os ∧ AllBare s'.gens) s1 := by
  have rv := vals_ints hi
  have lenV := hi.length
  have tb : ∀ b ∈ cs.map (·.2), s1.heap.get? b = some tabO ∧ K.lookup b = none := fun b hb => by
    obtain ⟨p, hp, rfl⟩ := List.mem_map.mp hb
    exact ⟨tE p hp, tK p hp⟩
  have aT : a ∉ cs.map (·.2) := fun z => by
    have q := (tb a z).1.symm.trans ha
    cases Option.some.inj q
  -- the call, from whatever is known of the heap at the entry
  have go : ∀ H : Hp, Entry K H a ns (cs.map (·.2)) → HOk P w H s1.heap → codeAny (model P w) callerA (.call (.ref fa) ⟨[.ref a], []⟩) (fun r s' => r = .ok (.ret (.bool true)) ∧ OldK s1.heap s'.heap ∧ s'.os = s1.os ∧ AllBare s'.gens) s1 := by
    intro H E hok
    have up : ∀ {b : Addr} {o : Obj}, s1.heap.get? b = some o → H b = none → (hidT s1.heap H).get? b = some o := fun e z => hidT_get e z
    -- what is neither the script nor a table is not tracked
    have un : ∀ {b : Addr} {o : Obj}, s1.heap.get? b = some o → o ≠ tabO → (b = a → K.lookup a ≠ none) → H b = none := fun {b o} e h1 h2 => by
      cases z : H b with
      | none => rfl
      | some u =>
        rcases E.any b u z with ⟨q, _⟩ | ⟨q, q2, _⟩
        · exact (h1 (Option.some.inj (e.symm.trans (tb b q).1))).elim
        · exact (h2 q q2).elim
    have una : ∀ {b : Addr} {o : Obj}, s1.heap.get? b = some o → o ≠ tabO → o ≠ scrO vs → H b = none := fun {b o} e h1 h2 => by
      cases z : H b with
      | none => rfl
      | some u =>
        rcases E.any b u z with ⟨q, _⟩ | ⟨q, _⟩
        · exact (h1 (Option.some.inj (e.symm.trans (tb b q).1))).elim
        · exact (h2 (Option.some.inj (e.symm.trans (q ▸ ha)))).elim
    have nsU : ∀ {b : Addr} {m : Str → Option Value}, s1.heap.Ns b m → (hidT s1.heap H).Ns b m := fun {b m} ⟨o, es, ep, e, d, r⟩ => ⟨o, es, ep, up e (una e (fun z => by rw [z] at d; cases d) (fun z => by rw [z] at d; cases d)), d, r⟩
    have inB : K.In (hidT s1.heap H) := fun b o e => up (KX b o e) (by
      cases z : H b with
      | none => rfl
      | some u =>
        rcases E.any b u z with ⟨q, _⟩ | ⟨q, q2, _⟩
        · rw [(tb b q).2] at e; cases e
        · rw [q, q2] at e; cases e)
    obtain ⟨mc, lim1, lim2⟩ := lim
    have hM : Mod K mg (hidT s1.heap H) := ⟨inB, nsU nsG, ⟨mb, nsU nsB, bb⟩, ⟨mc, nsU lim1, lim2⟩⟩
    have TBs : ∀ p ∈ cs, LamX.TabB (hidT s1.heap H) mg p.1 p.2 := fun p hp => by
      have gN : mainGlobals ≠ p.2 := fun z => by
        obtain ⟨o, es, ep, e, d, _⟩ := nsG
        rw [z, tE p hp] at e
        cases e
        cases d
      refine ⟨?_, ?_, gN⟩
      · obtain ⟨o, us, file, tf, flags, tg, inF, text, tt, e1, r1, r2, r3, rest⟩ := tC p hp
        refine ⟨o, us, file, tf, flags, tg, inF, text, tt, up e1 (una e1 (fun z => ?_) fun z => ?_), r1, r2, r3, rest⟩
        · rw [z] at r2
          cases r2
          simp at r3
        · rw [z] at r2
          cases r2
      · obtain ⟨bm, ob, b1, b2, b3, b4, b5, b6⟩ := main
        have notTab : ob ≠ tabO := fun z => by rw [z] at b6; cases b6
        have notScr : ob ≠ scrO vs := fun z => by rw [z] at b6; cases b6
        refine ⟨bm, ob, b1, b2, fun z => ?_, fun z => notTab (Option.some.inj ((z ▸ b3).symm.trans (tE p hp))), up b3 (una b3 notTab notScr), b4, b5, b6⟩
        obtain ⟨o, es, ep, e, d, _⟩ := nsG
        rw [z, e] at b3
        cases b3
        rw [d] at b6
        cases b6
    have e0 : Env0 P w K mg (hidT s1.heap H) callerA [] s1 H := ⟨rfl, hM, fun b o e => of_hidT e, Nat.le_of_eq (hidT_size _ _), trivial, fun b z => absurd (show b ∈ ([] : List Addr) from z) List.not_mem_nil, hok, .of_eq gens⟩
    obtain ⟨S', hS'⟩ := hF ns hn
    have inSeq : SqL K (mask ⟨[], [], ⟨[]⟩⟩ H) a (ns.map V.int) := by
      rcases E.scr with (q | ⟨o, q⟩) | q
      · exact .inl (.inl (mask_nilat q (by intro _ z; cases z)))
      · exact .inl (.inr ⟨o, mask_nilat q (by intro _ z; cases z)⟩)
      · exact .inr q
    have sp : SpD K ([x] : List Str).length F [.ref a] H (fun v _ => v = .bl true) :=
      ⟨⟨[], [], ⟨[]⟩⟩, [], [.v (.frz (ns.map DL.P.int))], .v (.bl true), S', entry_rel E hTb, ⟨.ref a, [], rfl, ⟨a, ns.map V.int, rfl, inSeq, ints_all ns⟩, rfl⟩, rfl, hS', fun v m' H' _ _ i => i⟩
    refine codeAny_mono ((G _ inB (nsU nsG) TBs).run callerA [] s1 H ⟨[.ref a], []⟩ [.ref a] [.ref a] _ hr rfl e0 (hbind s1 (.ref a)) (.cons rfl .nil) sp) fun r s' h => ?_
    cases r with
    | error e => exact False.elim h
    | ok fl =>
      cases fl with
      | next => exact False.elim h
      | brk => exact False.elim h
      | cont => exact False.elim h
      | ret u =>
        obtain ⟨v, H', os, bare, U, hok', r', q⟩ := h
        have q' : v = .bl true := q
        subst q'
        obtain rfl : u = Value.bool true := r'
        have more : ∀ b ∈ cs.map (·.2), ∃ zs : Array Value, s'.heap.get? b = some { cls := .none, data := .fields zs } := fun b hb => by
          obtain ⟨zs, z⟩ := U.tbls b #[] (E.tbl b hb)
          exact ⟨_, hok' b _ z⟩
        have same : ∀ b o, b ∉ cs.map (·.2) → s1.heap.get? b = some o → s'.heap.get? b = some o := fun b o nb e => by
          cases z : H b with
          | none => exact U.keep b o e z (fun y => nomatch (show b ∈ ([] : List Addr) from y)) (by simp)
          | some u =>
            rcases E.any b u z with ⟨y, _⟩ | ⟨_, _, ob, xs, rfl⟩
            · exact (nb y).elim
            · obtain ⟨e1, _⟩ := hok b _ z
              obtain ⟨e2, _⟩ := hok' b _ (U.frzs b ob _ z)
              cases e.symm.trans e1
              exact e2
        refine ⟨rfl, ⟨fun b o e => ?_, fun b o e => ?_⟩, os, bare⟩
        · by_cases hb : b ∈ cs.map (·.2)
          · obtain ⟨zs, hz⟩ := more b hb
            obtain ⟨p, hp, rfl⟩ := List.mem_map.mp hb
            cases e.symm.trans (tE p hp)
            exact .inr (.inl ⟨((tC p hp).tab (tE p hp)).isCodeTable, rfl, #[], zs, rfl, by rw [Array.empty_append]; exact hz⟩)
          · exact .inl (same b o hb e)
        · by_cases hb : b ∈ cs.map (·.2)
          · obtain ⟨zs, hz⟩ := more b hb
            exact ⟨_, hz⟩
          · exact ⟨o, same b o hb e⟩
  open Classical in
  have both : ∀ (scr : Option HO), (K.lookup a = none → scr = some (.frz (scrO vs) (.lst (ns.map V.int)))) → (K.lookup a ≠ none → scr = none) →
      ∃ H : Hp, Entry K H a ns (cs.map (·.2)) ∧ HOk P w H s1.heap := fun scr h1 h2 => by
    refine ⟨fun b => if b ∈ cs.map (·.2) then some (.tbl #[]) else if b = a then scr else none, ⟨fun b hb => if_pos hb, fun b u z => ?_, ?_⟩, fun b u z => ?_⟩
    · split at z
      · rename_i hb
        cases z
        exact .inl ⟨hb, rfl⟩
      · split at z
        · rename_i hb
          by_cases q : K.lookup a = none
          · rw [h1 q] at z
            cases z
            exact .inr ⟨hb, q, _, _, rfl⟩
          · rw [h2 q] at z
            cases z
        · cases z
    · cases q : K.lookup a with
      | none => exact .inl (.inr ⟨scrO vs, (if_neg aT).trans ((if_pos rfl).trans (h1 q))⟩)
      | some o =>
        cases (KX a o q).symm.trans ha
        exact .inr ⟨_, vs.toArray, _, q, rfl, rfl, rfl, by rw [List.size_toArray, lenV]; exact hl, by simpa using rv⟩
    · dsimp only at z
      split at z
      · rename_i hb
        cases z
        exact (tb b hb).1
      · split at z
        · rename_i hb
          subst hb
          by_cases q : K.lookup b = none
          · rw [h1 q] at z
            cases z
            exact ⟨ha, by rw [List.length_map]; exact hl, vs, _, rv, ha⟩
          · rw [h2 q] at z
            cases z
        · cases z
  by_cases q : K.lookup a = none
  · obtain ⟨H, E, hok⟩ := both (some (.frz (scrO vs) (.lst (ns.map V.int)))) (fun _ => rfl) fun z => (z q).elim
    exact go H E hok
  · obtain ⟨H, E, hok⟩ := both none (fun z => (q z).elim) fun _ => rfl
    exact go H E hok
end DL
namespace DL
open PySem PySem.Spec PyProof.Rows L2
variable [Tb]
open Classical in
noncomputable def dcF (own : Own) (all : List P) (g : FG) (t : FT) (fk e : FE) (env : Dnv) : List P → Sto → List Key → List P → Oc (List Key × List P)
  | [], S, ks, acc => if OwnOk own all S then .ok (ks, acc) S else .bad
  | p :: ps, S, ks, acc => if OwnOk own all S then (g (.v p) env S).bind fun env1 S1 => (t env1 S1).bind fun b S2 => if b = true then (fk env1 S2).bind fun dk S3 => (e env1 S3).bind fun d S4 => match dk, d with
      | .v qk, .v q => match pKey qk with
        | some k => if ks.length < 10000 then dcF own all g t fk e env ps S4 (putP ks acc k q).1 (putP ks acc k q).2 else .bad
        | none => .bad
      | _, _ => .bad else dcF own all g t fk e env ps S2 ks acc else .bad
noncomputable def fDc (it : FI) (g : FG) (t : FT) (fk e : FE) (vs : List Nat) : FE := fun env S => (it env S).bind fun r S1 => (dcF r.2 r.1 g t fk e (wipeE env vs) r.1 S1 [] []).bind fun acc S2 => .ok (.v (.dic acc.1 acc.2)) S2
section
variable {K : PySem.W.Frag}
theorem dc_walk {it : FI} {g : FG} {t : FT} {fk e : FE} {vs : List Nat} {σ : L2.St} {H : Hp} {Q : VK} {m : Mp} {env : Dnv} {S S1 S' : Sto} {ps : List P} {own : Own} {akk : List Key} {acc : List P} (R : Rel K m H S) (E : EnvIs K m (mask m H) σ env) (k1 : it env S = .ok (ps, own) S1) (k2 : dcF own ps g t fk e (wipeE env vs) ps S1 [] [] = .ok (akk, acc) S')
    (q : ∀ p xs l2 c2 H2, p ∉ m.h → Wk m H ⟨l2, p :: m.h, c2⟩ H2 → (∀ b, b ∈ m.h → H2 b = H b) → Rel K ⟨l2, p :: m.h, c2⟩ H2 S' → H2 p = some (.dK (akk.zip xs)) → akk.length = xs.length → akk.Nodup → IsAll K (mask ⟨l2, p :: m.h, c2⟩ H2) acc xs → Q (.ref p) H2) : tDc (TDi K it) (TDw K vs g) (TDt K t) (TD K fk) (TD K e) vs σ H Q := by
  refine ⟨m, env, S, R, E, ps, own, S1, k1, fun m1 H1 J st1 R1 T Dl hD => ?_⟩
  have R1h := R1.hide (o := .dK []) hD
  have emk := mask_hide (m := m1) (o := .dK []) hD
  have hDm := R1.out hD
  refine ⟨fun i k H2 => k + i = ps.length ∧ ∃ m2 S3 kk ac xs, m2.h = Dl :: m1.h ∧ Wk m1 H1 m2 H2 ∧ (∀ b, b ∈ m1.h → H2 b = H1 b) ∧ Rel K m2 H2 S3 ∧ H2 Dl = some (.dK (kk.zip xs)) ∧ kk.length = xs.length ∧ kk.Nodup ∧ IsAll K (mask m2 H2) ac xs ∧ dcF own ps g t fk e (wipeE env vs) (ps.drop i) S3 kk ac = .ok (akk, acc) S',
    ⟨ps.length, by omega, m1.hide Dl, S1, [], [], [], rfl, ⟨fun _ _ h => h, by rw [emk]; exact fun _ _ h => h, fun _ h => h⟩, fun b hb => upd_ne fun z => hDm (.inr (.inl (z ▸ hb))), R1h, upd_same, rfl, List.nodup_nil, rfl, by simpa using k2⟩, ?_⟩
  rintro i k H2 ⟨hk, m2, S3, kk, ac, xs, hh, w2, hk2, R2, eD, hkl, hkn, iac, k3⟩
  by_cases hi : i < ps.length
  · right
    rw [List.drop_eq_getElem_cons hi] at k3
    unfold dcF at k3
    split at k3
    · rename_i ho
      obtain ⟨env3, S4, k4, k5⟩ := Oc.bind_eq k3
      obtain ⟨b, S5, k6, k7⟩ := Oc.bind_eq k5
      obtain ⟨hgo, hy⟩ := T.go i _ m2 H2 S3 (List.getElem?_eq_getElem hi) w2 R2 ho
      refine ⟨hgo, fun H' => ∃ k', k' < k ∧ (k' + (i + 1) = ps.length ∧ ∃ m2 S3 kk ac xs, m2.h = Dl :: m1.h ∧ Wk m1 H1 m2 H' ∧ (∀ b, b ∈ m1.h → H' b = H1 b) ∧ Rel K m2 H' S3 ∧ H' Dl = some (.dK (kk.zip xs)) ∧ kk.length = xs.length ∧ kk.Nodup ∧ IsAll K (mask m2 H') ac xs ∧ dcF own ps g t fk e (wipeE env vs) (ps.drop (i + 1)) S3 kk ac = .ok (akk, acc) S'), fun H' z => z, fun x H3 y => ?_⟩
      obtain ⟨R3, st3, i3, _⟩ := hy x H3 y
      have hDh : Dl ∈ m2.h := by rw [hh]; exact List.mem_cons_self ..
      have E2 : EnvIs K m2 (mask m2 H3) (L2.wipe σ vs) (wipeE env vs) := by
        have E1 := (E.step st1).wipe vs
        refine ⟨E1.len, fun j d z => ?_⟩
        obtain ⟨v, h1, h2⟩ := E1.get j d z
        exact ⟨v, h1, (h2.mono (w2.trans st3.wk).ext (w2.trans st3.wk).ex (w2.trans st3.wk).co)⟩
      refine ⟨m2, wipeE env vs, S3, .v ps[i], R3, E2, i3, env3, S4, k4, fun m4 H4 σ4 st4 R4 E4 _ hw => ⟨by rw [hw, wipe_idem], m4, env3, S4, R4, E4, b, S5, k6, fun m5 H5 st5 R5 => ?_⟩⟩
      have stA := (st3.trans st4).trans st5
      cases b with
      | false =>
        rw [if_neg (by decide)] at k7
        refine iteF ?_
        have eD5 : H5 Dl = some (.dK (kk.zip xs)) := by rw [stA.hk Dl hDh]; exact eD
        exact ⟨k - 1, by omega, by omega, m5, S5, kk, ac, xs, by rw [stA.hh, hh], w2.trans stA.wk, fun b hb => (stA.hk b (by rw [hh]; exact List.mem_cons_of_mem _ hb)).trans (hk2 b hb), R5, eD5, hkl, hkn, stA.all iac, k7⟩
      | true =>
        rw [if_pos rfl] at k7
        refine iteT ?_
        obtain ⟨dk, S6, k8, k9⟩ := Oc.bind_eq k7
        refine ⟨m5, env3, S5, R5, E4.step st5, dk, S6, k8, fun vk m6 H6 st6 R6 i6 => ?_⟩
        obtain ⟨d, S7, k10, k11⟩ := Oc.bind_eq k9
        refine ⟨m6, env3, S6, R6, (E4.step st5).step st6, d, S7, k10, fun v m7 H7 st7 R7 i7 => ?_⟩
        have stB := (stA.trans st6).trans st7
        split at k11
        · rename_i qk q'
          split at k11
          · rename_i ky hky
            split at k11
            · rename_i hl
              have eD7 : H7 Dl = some (.dK (kk.zip xs)) := by rw [stB.hk Dl hDh]; exact eD
              have hDh7 : Dl ∈ m7.h := by rw [stB.hh]; exact hDh
              obtain ⟨ys, b1, b2, b3, b4, _⟩ := put_is (k := ky) (show Is K (mask m7 H7) q' v from i7) hkl hkn (stB.all iac)
              have em7 := mask_hid (m := m7) (H := H7) (o := .dK ((putP kk ac ky q').1.zip ys)) hDh7
              refine ⟨kk.zip xs, ky, pKey_is (isR_val (show Is K (mask m6 H6) qk vk from i6)) hky, eD7, by rw [List.length_zip, hkl, Nat.min_self, ← hkl]; exact Nat.lt_of_lt_of_le hl (by decide), ?_⟩
              rw [b1]
              have R8 := R7.hidden (o := .dK ((putP kk ac ky q').1.zip ys)) hDh7
              refine ⟨k - 1, by omega, by omega, m7, S7, _, _, ys, by rw [stB.hh, hh], ⟨(w2.trans stB.wk).ext, by rw [em7]; exact (w2.trans stB.wk).ex, (w2.trans stB.wk).co⟩, fun b hb => ?_, R8, upd_same, b2, b3, by rw [em7]; exact b4, k11⟩
              have hne : b ≠ Dl := fun z => by
                subst z
                exact hDm (.inr (.inl hb))
              rw [upd_ne hne]
              exact (stB.hk b (by rw [hh]; exact List.mem_cons_of_mem _ hb)).trans (hk2 b hb)
            · cases k11
          · cases k11
        · cases k11
    · cases k3
  · left
    have ed : ps.drop i = [] := List.drop_eq_nil_of_le (by omega)
    rw [ed] at k3
    unfold dcF at k3
    split at k3
    · rename_i ho
      cases k3
      refine ⟨T.stop i m2 H2 _ (by omega) w2 R2 ho, ?_⟩
      obtain ⟨l2, h2, c2⟩ := m2
      have hh' : h2 = Dl :: m1.h := hh
      subst hh'
      have hDn : Dl ∉ m1.h := fun z => hDm (.inr (.inl z))
      have e1 : m1.h = m.h := st1.hh
      rw [e1] at hDn w2 R2 iac
      exact q Dl xs l2 c2 H2 hDn ⟨(st1.wk.trans w2).ext, (st1.wk.trans w2).ex, (st1.wk.trans w2).co⟩ (fun b hb => (hk2 b (by rw [e1]; exact hb)).trans (st1.hk b hb)) R2 eD hkl hkn iac
    · cases k3
theorem dc_val {it : FI} {g : FG} {t : FT} {fk e : FE} {vs : List Nat} {σ : L2.St} {H : Hp} {Q : VK} (h : TD K (fDc it g t fk e vs) σ H Q) : tDc (TDi K it) (TDw K vs g) (TDt K t) (TD K fk) (TD K e) vs σ H Q := by
  obtain ⟨m, env, S, R, E, d, S', e1, q0⟩ := h
  obtain ⟨⟨ps, own⟩, S1, k1, e2⟩ := Oc.bind_eq e1
  obtain ⟨⟨akk, acc⟩, S2, k2, e3⟩ := Oc.bind_eq e2
  cases e3
  refine dc_walk R E k1 k2 fun p xs l2 c2 H2 hp w hk R2 e2 hl2 hn2 i2 => ?_
  obtain ⟨R3, ex3⟩ := R2.show' hp
  have hpl := (R2.hid p (List.mem_cons_self ..)).1
  refine q0 (.ref p) ⟨l2, m.h, c2⟩ H2 ⟨w.ext, fun b o z => ex3 b o (w.ex b o z), rfl, hk, w.co⟩ R3 ⟨p, xs, rfl, ?_, hl2, hn2, IsAll.mono ex3 _ _ i2⟩
  exact mask_at (m := ⟨l2, m.h, c2⟩) (R2.shown hp) e2 (by intro _ z; cases z)
end
section
variable {X : Cx} {kx vx tg iter : Expr} {ifs : List Expr} {scope : Scope} {pos : Pos} {it : FI} {g : FG} {t : FT} {fk e : FE}
theorem d_dc (hX : SX X) (own : List (Str × Nat)) (hi : PId X tg iter it) (ok : BlkOk X.N X.env.scope scope own) (hg : ∀ (s : Shared) (H : Hp) (C : Addr) (cl : List (Str × Addr)) (fp : List Addr), PG (X.blk s H scope (compEnvC scope cl C X.env) fp) tg (TDw X.K (own.map (·.2)) g))
    (ht : ∀ (s : Shared) (H : Hp) (C : Addr) (cl : List (Str × Addr)) (fp : List Addr), PTs (X.blk s H scope (compEnvC scope cl C X.env) fp) ifs (TDt X.K t)) (hk : ∀ (s : Shared) (H : Hp) (C : Addr) (cl : List (Str × Addr)) (fp : List Addr), PE (X.blk s H scope (compEnvC scope cl C X.env) fp) kx (TD X.K fk))
    (he : ∀ (s : Shared) (H : Hp) (C : Addr) (cl : List (Str × Addr)) (fp : List Addr), PE (X.blk s H scope (compEnvC scope cl C X.env) fp) vx (TD X.K e))
    (hs : ∀ x, foldedSetIterable iter X.env x = pure x := by intro _; rfl) : PEd X (.DictComp kx vx [⟨tg, iter, ifs, 0⟩] scope pos) (fDc it g t fk e (own.map (·.2))) := pe_weak (pe_dc hX.calm hX.nd hi ok hg ht hk he hs) fun _ _ _ => dc_val
end
section
variable {X : Cx} {o e : Expr} {es : List Expr} {fo : FE} {ga : FA} {name : Str} {apos cpos : Pos} {id : String} {r : V → List V → Hp → VK → Prop} {op : MOp}
theorem d_mt (slot : Slot "list" name id) (hty : typeOf (.builtin id) = pure (.type "method_descriptor")) (hm : MtR X id r) (hop : OpM X.K r op) (ho : PEd X o fo) (ha : PAd X (e :: es) ga)
    (hbase : attributeBase o name X.env (eval o X.env) = eval o X.env := by rfl)
    (hfew : ((backTo cpos (starEach (e :: es) X.env)).all (fun x => !x.1) && (backToKw cpos (keywordEach [] X.env)).all (fun x => x.1.isSome)
      && decide ((e :: es).length + ([] : List Keyword).length + (if ([] : List Keyword).isEmpty then 0 else 1) < 30)) = true := by rfl)
    (hline : (apos.endLine == cpos.line) = true := by rfl) (hs : starEach (e :: es) X.env = (false, eval e X.env) :: starEach es X.env := by rfl) (hplain : (backTo cpos (starEach es X.env)).any (·.1) = false := by rfl) :
    PEd X (.Call (.Attribute o name apos) (e :: es) [] cpos) (fMt op fo ga) := pe_weak (pe_bm PySem.F.plainAttrs_list slot hty hm ho ha hbase hfew hline hs hplain) fun _ _ _ => td_mt hop
theorem d_append (ho : PEd X o fo) (ha : PAd X [e] ga) (hbase : attributeBase o "append" X.env (eval o X.env) = eval o X.env := by rfl)
    (hfew : ((backTo cpos (starEach [e] X.env)).all (fun x => !x.1) && (backToKw cpos (keywordEach [] X.env)).all (fun x => x.1.isSome)
      && decide ([e].length + ([] : List Keyword).length + (if ([] : List Keyword).isEmpty then 0 else 1) < 30)) = true := by rfl)
    (hline : (apos.endLine == cpos.line) = true := by rfl) (hs : starEach [e] X.env = (false, eval e X.env) :: starEach [] X.env := by rfl) : PEd X (.Call (.Attribute o "append" apos) [e] [] cpos) (fMt mAppend fo ga) := d_mt PySem.F.slot_list_append PySem.F.type_list_append mt_append om_append ho ha hbase hfew hline hs
theorem d_extend (ho : PEd X o fo) (ha : PAd X [e] ga) (hbase : attributeBase o "extend" X.env (eval o X.env) = eval o X.env := by rfl)
    (hfew : ((backTo cpos (starEach [e] X.env)).all (fun x => !x.1) && (backToKw cpos (keywordEach [] X.env)).all (fun x => x.1.isSome)
      && decide ([e].length + ([] : List Keyword).length + (if ([] : List Keyword).isEmpty then 0 else 1) < 30)) = true := by rfl)
    (hline : (apos.endLine == cpos.line) = true := by rfl) (hs : starEach [e] X.env = (false, eval e X.env) :: starEach [] X.env := by rfl) : PEd X (.Call (.Attribute o "extend" apos) [e] [] cpos) (fMt mExtend fo ga) := d_mt PySem.F.slot_list_extend PySem.F.type_list_extend mt_extend om_extend ho ha hbase hfew hline hs
theorem d_popAt (ho : PEd X o fo) (ha : PAd X [e] ga) (hbase : attributeBase o "pop" X.env (eval o X.env) = eval o X.env := by rfl)
    (hfew : ((backTo cpos (starEach [e] X.env)).all (fun x => !x.1) && (backToKw cpos (keywordEach [] X.env)).all (fun x => x.1.isSome)
      && decide ([e].length + ([] : List Keyword).length + (if ([] : List Keyword).isEmpty then 0 else 1) < 30)) = true := by rfl)
    (hline : (apos.endLine == cpos.line) = true := by rfl) (hs : starEach [e] X.env = (false, eval e X.env) :: starEach [] X.env := by rfl) : PEd X (.Call (.Attribute o "pop" apos) [e] [] cpos) (fMt mPopAt fo ga) := d_mt PySem.F.slot_list_pop PySem.F.type_list_pop mt_popAt om_popAt ho ha hbase hfew hline hs
end
theorem fn_D {P : Program} {w : World} {K : PySem.W.Frag} {mg : Str → Option Value} {base : Heap} {k : Nat} {f : Addr} {name qual : Str} {params : Arguments} {body : List Stmt} {scope : Scope} {dvs : List V} {kws : List (Str × V)} {fd : FuncData}
    {N ps : List Str} {b : FS} {keep : Bool} (F : FunD K name qual params body scope dvs kws f fd) (S : FnScope N ps scope)
    (hbody : ∀ (cdv : Value) (A : Around) (outer : List PySem.Env) (s : Shared) (H : Hp), Room k (A.deeper (envOfC qual scope s.heap.objs.size f cdv)) → SX (cxOf CX0 P w K mg base N qual scope f cdv A outer s H E0).nox → PassesOwn (model P w) (A.deeper (envOfC qual scope s.heap.objs.size f cdv)) (cxOf CX0 P w K mg base N qual scope f cdv A outer s H E0).nox.env (cxOf CX0 P w K mg base N qual scope f cdv A outer s H E0).nox.xe → PSsd (cxOf CX0 P w K mg base N qual scope f cdv A outer s H E0).nox body b) :
    FnG P w K mg base (k + 1) f fd ps (runF N.length keep b) := by
  obtain ⟨oc, od, dV, kV, doc, pm, an, cdv, ct, osl, rfl, lk, hcd, _, _⟩ := F.ex
  refine fn_g lk hcd S fun A outer s H hr hgd => hbody cdv A outer s H hr ⟨rfl, S.nd, ?_, hgd⟩ ?_
  · have := hr.un
    show (A.deeper (envOfC qual scope s.heap.objs.size f cdv)).units + 200 < cLine
    omega
  · exact PassesOwn.never
end DL
namespace DL
open PySem PySem.Spec PyProof.Rows L2
variable [Tb]
theorem bb_len : bootBuiltins "len" = some (.builtin "len") := by decide +kernel
theorem bb_list : bootBuiltins "list" = some (.type "list") := by decide +kernel
theorem bb_tuple : bootBuiltins "tuple" = some (.type "tuple") := by decide +kernel
theorem bb_min : bootBuiltins "min" = some (.builtin "min") := by decide +kernel
theorem bb_int : bootBuiltins "int" = some (.type "int") := by decide +kernel
theorem bb_all : bootBuiltins "all" = some (.builtin "all") := by decide +kernel
theorem bb_sorted : bootBuiltins "sorted" = some (.builtin "sorted") := by decide +kernel
theorem bb_repr : bootBuiltins "repr" = some (.builtin "repr") := by decide +kernel
theorem cr_len {X : Cx} : CallR X (.builtin "len") (rLenAll X.K) := cr_or call_len call_lenD
theorem on_list {K : PySem.W.Frag} : OpN K (fun xs H Q => ∃ p ys, xs = [.ref p] ∧ (SqL K H p ys ∨ SqT K H p ys) ∧ ∀ l, H l = none → Q (.ref l) (upd H l (.lst ys))) bList := on_of_ol ol_list bList_lst
theorem on_sorted {K : PySem.W.Frag} : OpN K (rSortD K) bSorted := on_of_ol ol_sorted bSorted_lst
section
variable {X : Cx} {a b : Expr} {f g : FE} {pos : Pos}
theorem bl_eq (p q u : P) (e : pEq p q = some u) : ∃ b, u = .bl b := by
  unfold pEq at e
  repeat' (split at e)
  all_goals first | cases e <;> exact ⟨_, rfl⟩ | (cases e; exact ⟨_, rfl⟩) | cases e
theorem bl_ne (p q u : P) (e : pNe p q = some u) : ∃ b, u = .bl b := by
  unfold pNe at e
  repeat' (split at e)
  all_goals first | cases e <;> exact ⟨_, rfl⟩ | (cases e; exact ⟨_, rfl⟩) | cases e
theorem bl_lt (p q u : P) (e : pLt p q = some u) : ∃ b, u = .bl b := by
  unfold pLt at e
  repeat' (split at e)
  all_goals first | cases e <;> exact ⟨_, rfl⟩ | (cases e; exact ⟨_, rfl⟩) | cases e
theorem bl_gt (p q u : P) (e : pGt p q = some u) : ∃ b, u = .bl b := by
  unfold pGt at e
  repeat' (split at e)
  all_goals first | cases e <;> exact ⟨_, rfl⟩ | (cases e; exact ⟨_, rfl⟩) | cases e
theorem bl_ge (p q u : P) (e : pGe p q = some u) : ∃ b, u = .bl b := by
  unfold pGe at e
  repeat' (split at e)
  all_goals first | cases e <;> exact ⟨_, rfl⟩ | (cases e; exact ⟨_, rfl⟩) | cases e
theorem bl_in (p q u : P) (e : pIn p q = some u) : ∃ b, u = .bl b := by
  unfold pIn at e
  obtain ⟨b, _, h⟩ := Option.map_eq_some_iff.mp e
  exact ⟨b, h.symm⟩
theorem bl_notIn (p q u : P) (e : pNotIn p q = some u) : ∃ b, u = .bl b := by
  unfold pNotIn at e
  obtain ⟨b, _, h⟩ := Option.map_eq_some_iff.mp e
  exact ⟨!b, h.symm⟩
theorem t_of {op : CmpOp} {r : R2} {o : P → P → Option P} (ho : OpR X (compareOp op) r) (h2 : Op2 X.K r o) (hbl : ∀ p q u, o p q = some u → ∃ b, u = .bl b) (ha : PEd X a f) (hb : PEd X b g) (h1 : op ≠ .In) (h2' : op ≠ .NotIn) : PTd X (.Compare a [op] [b] pos) (fTru (f2 o f g)) := d_cmpT ho h2 hbl ha hb (nobehind _ h1 h2')
theorem t_eq (hX : SX X) (ha : PEd X a f) (hb : PEd X b g) : PTd X (.Compare a [.Eq] [b] pos) (fTru (f2 pEq f g)) := t_of (op_eqD (by have := hX.units; omega)) op2_eq bl_eq ha hb (by decide) (by decide)
theorem t_ne (hX : SX X) (ha : PEd X a f) (hb : PEd X b g) : PTd X (.Compare a [.NotEq] [b] pos) (fTru (f2 pNe f g)) := t_of (op_neD (by have := hX.units; omega)) op2_ne bl_ne ha hb (by decide) (by decide)
theorem t_lt (ha : PEd X a f) (hb : PEd X b g) : PTd X (.Compare a [.Lt] [b] pos) (fTru (f2 pLt f g)) := t_of (opr_or op_lt op_lt_str) (fun m H S p q u x y Q R hx hy e k => by
  unfold pLt at e
  split at e
  · cases e; exact .inl ⟨_, _, hx, hy, k.here R rfl⟩
  · cases e; exact .inr ⟨_, _, hx, hy, k.here R rfl⟩
  · cases e) bl_lt ha hb (by decide) (by decide)
theorem t_gt (ha : PEd X a f) (hb : PEd X b g) : PTd X (.Compare a [.Gt] [b] pos) (fTru (f2 pGt f g)) := t_of op_gt (fun m H S p q u x y Q R hx hy e k => by
  unfold pGt at e
  split at e
  · cases e; exact ⟨_, _, hx, hy, k.here R rfl⟩
  · cases e) bl_gt ha hb (by decide) (by decide)
theorem t_ge (ha : PEd X a f) (hb : PEd X b g) : PTd X (.Compare a [.GtE] [b] pos) (fTru (f2 pGe f g)) := t_of op_ge (fun m H S p q u x y Q R hx hy e k => by
  unfold pGe at e
  split at e
  · cases e; exact ⟨_, _, hx, hy, k.here R rfl⟩
  · cases e) bl_ge ha hb (by decide) (by decide)
theorem t_in (hX : SX X) (ha : PEd X a f) (hb : PEd X b g) (hm : behindInMarks .In b = false := by rfl) : PTd X (.Compare a [.In] [b] pos) (fTru (f2 pIn f g)) := d_cmpT (opr_in hX) (fun m H S p q u x y Q R hx hy e k => by
  unfold pIn at e
  cases hb : pInB p q with
  | none => rw [hb] at e; cases e
  | some b =>
    rw [hb] at e
    cases e
    rcases inB_is hx hy hb with ⟨a, o, h1, h2, rfl⟩ | ⟨i, j, h1, h2, rfl⟩ | ⟨xs, d, h1, h2, h3, h4, rfl⟩
    · exact .inl ⟨a, o, h1, h2, k.here R rfl⟩
    · exact .inr (.inl ⟨i, j, h1, h2, k.here R rfl⟩)
    · exact .inr (.inr ⟨xs, d, h1, h2, h3, h4, k.here R rfl⟩)) bl_in ha hb hm
theorem t_notIn (hX : SX X) (ha : PEd X a f) (hb : PEd X b g) (hm : behindInMarks .NotIn b = false := by rfl) : PTd X (.Compare a [.NotIn] [b] pos) (fTru (f2 pNotIn f g)) := d_cmpT (opr_notIn hX) (fun m H S p q u x y Q R hx hy e k => by
  unfold pNotIn at e
  cases hb : pInB p q with
  | none => rw [hb] at e; cases e
  | some b =>
    rw [hb] at e
    cases e
    rcases inB_is hx hy hb with ⟨a, o, h1, h2, rfl⟩ | ⟨i, j, h1, h2, rfl⟩ | ⟨xs, d, h1, h2, h3, h4, rfl⟩
    · exact .inl ⟨a, o, h1, h2, k.here R rfl⟩
    · exact .inr (.inl ⟨i, j, h1, h2, k.here R rfl⟩)
    · exact .inr (.inr ⟨xs, d, h1, h2, h3, h4, k.here R rfl⟩)) bl_notIn ha hb hm
end
def blkB (N : List Str) (sc scope : Scope) (own : List (Str × Nat)) : Bool :=
  decide (scope.kind = .function) && ((scope.names.all fun y => decide (scope.names.lookup y.1 = some y.2)) && ((own.all fun p => decide (N[p.2]? = some p.1)) &&
    ((scope.names.all fun y => !decide (y.2 = .free) || (decide (sc.names.lookup y.1 = some .cell) || decide (sc.names.lookup y.1 = some .free))) &&
      scope.names.all fun y => !(decide (y.2 = .local) || decide (y.2 = .cell)) || (decide (y.1 ∈ own.map (·.1)) || decide (y.1 ∉ N)))))
theorem blk_ok {N : List Str} {sc scope : Scope} {own : List (Str × Nat)} (h : blkB N sc scope own = true := by kernel_rfl) : BlkOk N sc scope own := by
  unfold blkB at h
  simp only [Bool.and_eq_true, List.all_eq_true, decide_eq_true_eq, Bool.or_eq_true, Bool.not_eq_true', decide_eq_false_iff_not, Bool.or_eq_false_iff] at h
  obtain ⟨h1, h2, h3, h4, h5⟩ := h
  exact ⟨h1, h2, h3, fun y hy e => (h4 y hy).resolve_left fun z => z e, fun y hy e => (h5 y hy).resolve_left fun z => e.elim z.1 z.2⟩
section
variable {X : Cx} {pos : Pos}
theorem s_parC (hX : SX X) {i j : Nat} {x y : Str} {a b : Expr} {g : FA} {px py pt : Pos} {kt k2 pt2} (ha : PAd X [a, b] g)
    (hi : X.N[i]? = some x := by rfl) (hj : X.N[j]? = some y := by rfl)
    (hx : Loc X.env.scope x := by first | exact .inl rfl | exact .inr rfl) (hy : Loc X.env.scope y := by first | exact .inl rfl | exact .inr rfl)
    (hfx : X.fn x = true ∨ X.env.scope.names.lookup x = some .local := by first | exact .inl rfl | exact .inr rfl | assumption) (hfy : X.fn y = true ∨ X.env.scope.names.lookup y = some .local := by first | exact .inl rfl | exact .inr rfl | assumption)
    (hs : swapsWithSole [.Tuple [.Name x px, .Name y py] kt pt] (.Tuple [a, b] k2 pt2) pos.line X.env = pure false := by rfl)
    (hw : swappedStores [.Tuple [.Name x px, .Name y py] kt pt] (.Tuple [a, b] k2 pt2) X.env = pure none := by rfl) :
    PSd X (.Assign [.Tuple [.Name x px, .Name y py] kt pt] (.Tuple [a, b] k2 pt2) pos) (fPar i j g) :=
  ps_weak (ps_asg (pe_tup ha) (pg_tup hX.calm (pgs_cons (pg_name hX.nd hi hx hfx) (pgs_cons (pg_name hX.nd hj hy hfy) pgs_nil))) hs hw) fun D σ H ⟨m, env, S, R, E, q⟩ => by
  obtain ⟨ds, S1, k1, q⟩ := Oc.fl_ne q
  refine ⟨m, env, S, R, E, ds, S1, k1, fun vs m1 H1 st1 R1 i1 => ?_⟩
  split at q
  · obtain ⟨v, ws, rfl, h2, h3⟩ := i1
    obtain ⟨w, ws, rfl, h4, h5⟩ := h3
    have h5' : ws = [] := h5
    subst h5'
    refine ⟨size_of (show 2 ≤ 100000 by decide), fun p hp => ?_⟩
    obtain ⟨R2, st2⟩ := R1.fresh (o := .tup [v, w]) hp
    exact ⟨p, [v, w], rfl, .inl (.inl upd_same), rfl, v, [w], rfl, w, [], rfl, rfl, q m1 _ _ (st1.trans st2) R2 (((E.step (st1.trans st2)).set (st2.is h2)).set (st2.is h4))⟩
  · exact q.elim
end
end DL
namespace FV
open PySem PySem.Spec PyProof.Rows L2 DL
variable [Tb]
structure TabF (X : Cx) (n : Nat) (tab : List (Str × FF)) : Prop where
  of : ∀ y F, tab.lookup y = some F → ∃ (k : Nat) (fd : FuncData) (ps : List Str), FnG X.prog X.w X.K X.mg X.base k (He.ga X.K y) fd ps F ∧ Room k X.A ∧ PySem.W.keepIn X.K (.ref (He.ga X.K y)) = true ∧ Binds X.K fd ps [] ∧ ps.length = n
theorem TabF.cons {X : Cx} {n k : Nat} {x : Str} {F : FF} {fd : FuncData} {ps : List Str} {tab : List (Str × FF)} (G : FnG X.prog X.w X.K X.mg X.base k (He.ga X.K x) fd ps F) (hr : Room k X.A) (hk : PySem.W.keepIn X.K (.ref (He.ga X.K x)) = true) (hb : Binds X.K fd ps []) (hl : ps.length = n)
    (t : TabF X n tab) : TabF X n ((x, F) :: tab) := ⟨fun y F' h => by
  rw [List.lookup_cons] at h
  by_cases e : (y == x) = true
  · rw [e] at h
    have ey : y = x := beq_iff_eq.mp e
    subst ey
    cases h
    exact ⟨k, fd, ps, G, hr, hk, hb, hl⟩
  · rw [Bool.eq_false_iff.mpr e] at h
    exact t.of y F' h⟩
section
variable {X : Cx} {a : Expr} {f : FE} {p p2 pos : Pos}
theorem pe_ty {T : String} {x : Str} (hm : X.mg x = none) (hv : bootBuiltins x = some (.type T)) (hg : Gl X x := by rfl) (hn : x ≠ "__name__" := by decide) (hdb : (x == ("__debug__" : Str)) = false := by decide) : PE X (.Name x p) (tC (.ty T)) :=
  ⟨fun pins s σ H Q I h => ld_blt I hg hm hv ⟨.ty T, H, I, rfl, h⟩ hn hdb⟩
end
end FV
namespace DL
open PySem PySem.Spec PyProof.Rows L2
def Oc.P {α : Type} (o : Oc α) (Q : α → Sto → Prop) : Prop := match o with
  | .ok a S => Q a S
  | .bad => False
structure FEn where
  nx : Dnv → Sto → Prop
  rt : D → Sto → Prop
  bk : Dnv → Sto → Prop
  ct : Dnv → Sto → Prop
def Flo.F (f : Flo) (E : FEn) : Prop := match f with
  | .nx e S => E.nx e S
  | .rt d S => E.rt d S
  | .bk e S => E.bk e S
  | .ct e S => E.ct e S
  | .bad => False
section
variable {α β : Type} {Q R : α → Sto → Prop} {o : Oc α} {S S1 : Sto} {E : FEn} {env : Dnv}
theorem Oc.P.ex (h : o.P Q) : ∃ a S, o = .ok a S ∧ Q a S := by
  cases o with
  | ok a S => exact ⟨a, S, rfl, h⟩
  | bad => exact h.elim
theorem Oc.P.mono (h : o.P R) (q : ∀ a S, R a S → Q a S) : o.P Q := by
  cases o with
  | ok a S => exact q a S h
  | bad => exact h.elim
theorem P_of {a : α} (h : o = .ok a S) (q : Q a S) : o.P Q := by rw [h]; exact q
theorem P_bind {f : α → Sto → Oc β} {Q : β → Sto → Prop} (h : o.P fun a S => (f a S).P Q) : (o.bind f).P Q := by
  cases o with
  | ok a S => exact h
  | bad => exact h.elim
theorem F_fl {f : α → Sto → Flo} (h : o.P fun a S => (f a S).F E) : (o.fl f).F E := by
  cases o with
  | ok a S => exact h
  | bad => exact h.elim
theorem Flo.F.mono {f : Flo} {E' : FEn} (h : f.F E) (n : ∀ e S, E.nx e S → E'.nx e S) (r : ∀ e S, E.rt e S → E'.rt e S) (b : ∀ e S, E.bk e S → E'.bk e S) (c : ∀ e S, E.ct e S → E'.ct e S) : f.F E' := by
  cases f with
  | nx e S => exact n e S h
  | rt d S => exact r d S h
  | bk e S => exact b e S h
  | ct e S => exact c e S h
  | bad => exact h.elim
end
section
variable {f g h : FE} {ga gb : FA} {t u : FT} {env env2 : Dnv} {S S1 : Sto} {Q : D → Sto → Prop} {Qa : List D → Sto → Prop} {Qt : Bool → Sto → Prop}
theorem p_c {d : D} (q : Q d S) : (fC d env S).P Q := q
theorem p_var {i : Nat} {d : D} (h : env[i]? = some (some d)) (q : Q d S) : (fVar i env S).P Q := by
  unfold fVar
  rw [h]
  exact q
theorem p_nil (q : Qa [] S) : (fNil env S).P Qa := q
theorem p_cons (h : (f env S).P fun d S1 => (ga env S1).P fun ds S2 => Qa (d :: ds) S2) : (fCons f ga env S).P Qa := P_bind (h.mono fun _ _ h => P_bind (h.mono fun _ _ h => h))
theorem onVals_P {k : List P → Sto → Oc D} {ds : List D} {ps : List P} (h : vals ds = some ps) (hl : ps.length ≤ 100000) (q : (k ps S).P Q) : (onVals k ds S).P Q := by
  unfold onVals
  rw [h]
  show (if _ then _ else _ : Oc D).P Q
  rw [if_pos hl]
  exact q
theorem v_nil : vals [] = some [] := rfl
theorem v_cons {p : P} {ds : List D} {ps : List P} (h : vals ds = some ps) : vals (.v p :: ds) = some (p :: ps) := by
  show (vals ds).map _ = _
  rw [h]
  rfl
def tupE (ds : List D) (S : Sto) : Oc D := onVals (fun ps S1 => .ok (.v (.tup ps)) S1) ds S
def lstE (ds : List D) (S : Sto) : Oc D := onVals (fun ps S1 => .ok (.v (.lst ps)) S1) ds S
def lstBE (ds : List D) (S : Sto) : Oc D := onVals (fun ps S1 => .ok (.r S1.length) (S1 ++ [.lst ps])) ds S
theorem p_tup (h : (ga env S).P fun ds S1 => (tupE ds S1).P Q) : (fTup ga env S).P Q := P_bind h
theorem p_lst (h : (ga env S).P fun ds S1 => (lstE ds S1).P Q) : (fLst ga env S).P Q := P_bind h
theorem p_lstB (h : (ga env S).P fun ds S1 => (lstBE ds S1).P Q) : (fLstB ga env S).P Q := P_bind h
theorem p_tupE {ds : List D} {ps : List P} (h : vals ds = some ps) (hl : ps.length ≤ 100000) (q : Q (.v (.tup ps)) S) : (tupE ds S).P Q := onVals_P h hl q
theorem p_lstE {ds : List D} {ps : List P} (h : vals ds = some ps) (hl : ps.length ≤ 100000) (q : Q (.v (.lst ps)) S) : (lstE ds S).P Q := onVals_P h hl q
theorem p_lstBE {ds : List D} {ps : List P} (h : vals ds = some ps) (hl : ps.length ≤ 100000) (q : Q (.r S.length) (S ++ [.lst ps])) : (lstBE ds S).P Q := onVals_P h hl q
theorem p_f2 {op : P → P → Option P} (h : (f env S).P fun d S1 => (g env S1).P fun e S2 => (lift2 op d e S2).P Q) : (f2 op f g env S).P Q := P_bind (h.mono fun _ _ h => P_bind h)
theorem p_l2 {op : P → P → Option P} {d e : D} {p q u : P} (h1 : deP S d = some p) (h2 : deP S e = some q) (h3 : op p q = some u) (k : Q (.v u) S) : (lift2 op d e S).P Q := by
  unfold lift2
  rw [h1]
  show (match deP S e with | some q => oP (op p q) S | none => .bad : Oc D).P Q
  rw [h2]
  show (oP (op p q) S).P Q
  rw [h3]
  exact k
def truE (d : D) (S : Sto) : Oc Bool := match deP S d with
  | some p => match truP p with
    | some b => .ok b S
    | none => .bad
  | none => .bad
theorem p_tru (h : (f env S).P fun d S1 => (truE d S1).P Qt) : (fTru f env S).P Qt := by
  unfold fTru
  refine P_bind (h.mono fun d S1 h => ?_)
  unfold truE at h
  exact h
theorem p_truE {d : D} {p : P} {b : Bool} (h1 : deP S d = some p) (h2 : truP p = some b) (q : Qt b S) : (truE d S).P Qt := by
  unfold truE
  rw [h1]
  show (match truP p with | some b => .ok b S | none => .bad : Oc Bool).P Qt
  rw [h2]
  exact q
theorem p_and (h : (t env S).P fun b S1 => (b = true → (u env S1).P Qt) ∧ (b = false → Qt false S1)) : (fAnd t u env S).P Qt := P_bind (h.mono fun b S1 h => by
  cases b with
  | true => exact h.1 rfl
  | false => exact h.2 rfl)
theorem p_or (h : (t env S).P fun b S1 => (b = true → Qt true S1) ∧ (b = false → (u env S1).P Qt)) : (fOr t u env S).P Qt := P_bind (h.mono fun b S1 h => by
  cases b with
  | true => exact h.1 rfl
  | false => exact h.2 rfl)
theorem p_not (h : (t env S).P fun b S1 => Qt (!b) S1) : (fNot t env S).P Qt := P_bind h
theorem p_yes (h : Qt true S) : (fYes env S).P Qt := h
theorem p_ite (h : (t env S).P fun b S1 => (b = true → (f env S1).P Q) ∧ (b = false → (g env S1).P Q)) : (fIte t f g env S).P Q := P_bind (h.mono fun b S1 h => by
  cases b with
  | true => exact h.1 rfl
  | false => exact h.2 rfl)
def slE (d : D) (l u : Option Int) (S : Sto) : Oc D := match deP S d with
  | some p => oP (pSl p l u) S
  | none => .bad
theorem p_sl {lo hi : FO} (h : (f env S).P fun d S1 => (lo env S1).P fun l S2 => (hi env S2).P fun u S3 => (slE d l u S3).P Q) : (fSl f lo hi env S).P Q := P_bind (h.mono fun _ _ h => P_bind (h.mono fun _ _ h => P_bind (h.mono fun _ _ h => h)))
theorem p_slE {d : D} {l u : Option Int} {p q : P} (h1 : deP S d = some p) (h2 : pSl p l u = some q) (k : Q (.v q) S) : (slE d l u S).P Q := by
  unfold slE
  rw [h1]
  show (oP (pSl p l u) S).P Q
  rw [h2]
  exact k
theorem p_oNo {Qo : Option Int → Sto → Prop} (q : Qo none S) : (oNo env S).P Qo := q
def atE (d : D) (S : Sto) : Oc (Option Int) := match d with
  | .v (.int i) => .ok (some i) S
  | _ => .bad
def cbE (op : List P → Option P) (ds : List D) (S : Sto) : Oc D := match deAll S ds with
  | some ps => oP (op ps) S
  | none => .bad
def cbBE (op : List P → Option P) (ds : List D) (S : Sto) : Oc D := match deAll S ds with
  | some ps => oB (op ps) S
  | none => .bad
theorem p_cb {op : List P → Option P} (h : (ga env S).P fun ds S1 => (cbE op ds S1).P Q) : (fCb op ga env S).P Q := P_bind (h.mono fun _ _ h => h)
theorem p_cbB {op : List P → Option P} (h : (ga env S).P fun ds S1 => (cbBE op ds S1).P Q) : (fCbB op ga env S).P Q := P_bind (h.mono fun _ _ h => h)
theorem p_cbE {op : List P → Option P} {ds : List D} {ps : List P} {u : P} (h1 : deAll S ds = some ps) (h2 : op ps = some u) (q : Q (.v u) S) : (cbE op ds S).P Q := by
  unfold cbE
  rw [h1]
  show (oP (op ps) S).P Q
  rw [h2]
  exact q
theorem p_cbBE {op : List P → Option P} {ds : List D} {ps qs : List P} (h1 : deAll S ds = some ps) (h2 : op ps = some (.lst qs)) (q : Q (.r S.length) (S ++ [.lst qs])) : (cbBE op ds S).P Q := by
  unfold cbBE
  rw [h1]
  show (oB (op ps) S).P Q
  rw [h2]
  exact q
theorem a_nil : deAll S [] = some [] := rfl
theorem a_cons {d : D} {ds : List D} {p : P} {ps : List P} (h1 : deP S d = some p) (h2 : deAll S ds = some ps) : deAll S (d :: ds) = some (p :: ps) := by
  show (match deP S d with | some p => (deAll S ds).map (p :: ·) | none => none) = _
  rw [h1, h2]
  rfl
def mtE (op : MOp) (n : Nat) (ds : List D) (S : Sto) : Oc D := match S[n]? with
  | some (.lst ps) => match op ps ds S with
    | some (u, qs) => .ok (.v u) (S.set n (.lst qs))
    | none => .bad
  | _ => .bad
theorem p_mt {op : MOp} {i n : Nat} {ps : List P} (h : env[i]? = some (some (.r n))) (h1 : S[n]? = some (.lst ps)) (q : (ga env S).P fun ds S1 => (mtE op n ds S1).P Q) : (fMt op (fVar i) ga env S).P Q := by
  unfold fMt
  refine P_bind (p_var h ?_)
  show (match S[n]? with
    | some (.lst _) => (ga env S).bind fun ds S2 => match S2[n]? with
      | some (.lst ps) => match op ps ds S2 with
        | some (u, qs) => .ok (.v u) (S2.set n (.lst qs))
        | none => .bad
      | _ => .bad
    | _ => .bad : Oc D).P Q
  rw [h1]
  exact P_bind (q.mono fun _ _ h => h)
theorem p_mtE {op : MOp} {n : Nat} {ds : List D} {ps qs : List P} {u : P} (h1 : S[n]? = some (.lst ps)) (h2 : op ps ds S = some (u, qs)) (q : Q (.v u) (S.set n (.lst qs))) : (mtE op n ds S).P Q := by
  unfold mtE
  rw [h1]
  show (match op ps ds S with | some (u, qs) => .ok (.v u) (S.set n (.lst qs)) | none => .bad : Oc D).P Q
  rw [h2]
  exact q
theorem p_call {G : FF} {dv : List D} (h : (ga env S).P fun ds S1 => (G (ds ++ dv) S1).P Q) : (fCall G dv ga env S).P Q := P_bind h
theorem p_callN {G : FF} {n k : Nat} {gd : List D → List D → List D} (h : (ga env S).P fun ds S1 => (gb env S1).P fun es S2 => ds.length = n ∧ es.length = k ∧ (G (gd ds es) S2).P Q) : (fCallN G n k gd ga gb env S).P Q := P_bind (h.mono fun ds _ h => P_bind (h.mono fun es _ h => by
  show (if _ then _ else _ : Oc D).P Q
  rw [if_pos ⟨h.1, h.2.1⟩]
  exact h.2.2))
end
section
variable {env : Dnv} {S S1 : Sto} {Q : Dnv → Sto → Prop} {d : D}
theorem p_gNm {i : Nat} (q : Q (env.set i (some d)) S) : (gNm i d env S).P Q := q
def sbE (o i d : D) (env : Dnv) (S : Sto) : Oc Dnv := match setD o i d S with
  | some S3 => .ok env S3
  | none => .bad
theorem p_gSb {fo fi : FE} (h : (fo env S).P fun o S1 => (fi env S1).P fun i S2 => (sbE o i d env S2).P Q) : (gSb fo fi d env S).P Q := P_bind (h.mono fun _ _ h => P_bind (h.mono fun _ _ h => h))
theorem p_sbL {n j : Nat} {k : Int} {p : P} {ps : List P} (h1 : S[n]? = some (.lst ps)) (h2 : ixN ps.length k = some j) (q : Q env (S.set n (.lst (ps.set j p)))) : (sbE (.r n) (.v (.int k)) (.v p) env S).P Q := by
  have e : setD (.r n) (.v (.int k)) (.v p) S = some (S.set n (.lst (ps.set j p))) := by simp [setD, h1, h2]
  unfold sbE
  rw [e]
  exact q
theorem p_sbD {n : Nat} {kp p : P} {k : Key} {ks : List Key} {ps : List P} (h1 : S[n]? = some (.dic ks ps)) (h2 : pKey kp = some k) (h3 : ks.length < 10000) (q : Q env (S.set n (.dic (putP ks ps k p).1 (putP ks ps k p).2))) : (sbE (.r n) (.v kp) (.v p) env S).P Q := by
  have e : setD (.r n) (.v kp) (.v p) S = some (S.set n (.dic (putP ks ps k p).1 (putP ks ps k p).2)) := by simp [setD, h1, h2, h3]
  unfold sbE
  rw [e]
  exact q
end
section
variable {f : FE} {ga : FA} {g : FG} {t : FT} {a b : FS} {env : Dnv} {S S1 : Sto} {E : FEn}
theorem s_Nx (q : E.nx env S) : (fNext env S).F E := q
theorem s_Bk (q : E.bk env S) : (fBreak env S).F E := q
theorem s_Seq {En : Dnv → Sto → Prop} {Er : D → Sto → Prop} {Eb Ec : Dnv → Sto → Prop} (h : (a env S).F ⟨fun e s => (b e s).F ⟨En, Er, Eb, Ec⟩, Er, Eb, Ec⟩) : (fSeq a b env S).F ⟨En, Er, Eb, Ec⟩ := by
  unfold fSeq
  cases e : a env S with
  | nx e S => rw [e] at h; exact h
  | rt d S => rw [e] at h; exact h
  | bk e S => rw [e] at h; exact h
  | ct e S => rw [e] at h; exact h
  | bad => rw [e] at h; exact h.elim
theorem s_Set (h : (f env S).P fun d S1 => (g d env S1).P fun e s => E.nx e s) : (fSet f g env S).F E := F_fl (h.mono fun _ _ h => F_fl h)
theorem s_Drop (h : (f env S).P fun _ S1 => E.nx env S1) : (fDrop f env S).F E := F_fl h
theorem s_Ret (h : (f env S).P fun d S1 => E.rt d S1) : (fRet f env S).F E := F_fl h
theorem s_If (h : (t env S).P fun k S1 => (k = true → (a env S1).F E) ∧ (k = false → (b env S1).F E)) : (fIf t a b env S).F E := F_fl (h.mono fun k S1 h => by
  cases k with
  | true => exact h.1 rfl
  | false => exact h.2 rfl)
def parE (i j : Nat) (env : Dnv) (ds : List D) (S : Sto) : Flo := match ds with
  | [d, e] => .nx ((env.set i (some d)).set j (some e)) S
  | _ => .bad
theorem s_Par {i j : Nat} (h : (ga env S).P fun ds S1 => (parE i j env ds S1).F E) : (fPar i j ga env S).F E := F_fl (h.mono fun _ _ h => h)
theorem s_ParE {i j : Nat} {d e : D} (q : E.nx ((env.set i (some d)).set j (some e)) S) : (parE i j env [d, e] S).F E := q
theorem s_loop {own : Own} {all : List P} (I : Nat → Dnv → Sto → Prop) (ho : ∀ i env S, I i env S → OwnOk own all S)
    (hs : ∀ i p env S, all[i]? = some p → I i env S → (g (.v p) env S).P fun e s => (b e s).F ⟨I (i + 1), E.rt, E.nx, I (i + 1)⟩)
    (hd : ∀ env S, I all.length env S → E.nx env S) : ∀ (ps : List P) (i : Nat) (env : Dnv) (S : Sto), ps = all.drop i → i ≤ all.length → I i env S → (loopF own all g b ps env S).F E
  | [], i, env, S, hp, hi, h => by
    have e : i = all.length := by
      have := congrArg List.length hp
      rw [List.length_nil, List.length_drop] at this
      omega
    subst e
    unfold loopF
    rw [if_pos (ho _ _ _ h)]
    exact hd _ _ h
  | p :: ps, i, env, S, hp, hi, h => by
    have hlt : i < all.length := by
      have := congrArg List.length hp
      rw [List.length_cons, List.length_drop] at this
      omega
    rw [List.drop_eq_getElem_cons hlt] at hp
    injection hp with h1 h2
    subst h1
    unfold loopF
    rw [if_pos (ho _ _ _ h)]
    refine F_fl ((hs i _ env S (List.getElem?_eq_getElem hlt) h).mono fun e s q => ?_)
    cases hb : b e s with
    | nx e2 s2 =>
      rw [hb] at q
      exact s_loop I ho hs hd ps (i + 1) e2 s2 h2 hlt q
    | ct e2 s2 =>
      rw [hb] at q
      exact s_loop I ho hs hd ps (i + 1) e2 s2 h2 hlt q
    | bk e2 s2 =>
      rw [hb] at q
      exact q
    | rt d2 s2 =>
      rw [hb] at q
      exact q
    | bad =>
      rw [hb] at q
      exact q.elim
theorem s_For {it : FI} (h : (it env S).P fun r S1 => (loopF r.2 r.1 g b r.1 env S1).F E) : (fFor it g b env S).F E := F_fl h
theorem s_Loop {own : Own} {all : List P} (I : Nat → Dnv → Sto → Prop) (h0 : I 0 env S) (ho : ∀ i env S, I i env S → OwnOk own all S)
    (hs : ∀ i p env S, all[i]? = some p → I i env S → (g (.v p) env S).P fun e s => (b e s).F ⟨I (i + 1), E.rt, E.nx, I (i + 1)⟩)
    (hd : ∀ env S, I all.length env S → E.nx env S) : (loopF own all g b all env S).F E := s_loop I ho hs hd all 0 env S rfl (Nat.zero_le _) h0
theorem s_While (I : Nat → Dnv → Sto → Prop) (n : Nat) (hn : n < 100000) (h0 : I n env S) (hs : ∀ i env S, I i env S → (t env S).P fun k S1 => (k = true → (b env S1).F ⟨fun e s => ∃ j, j < i ∧ I j e s, E.rt, E.nx, fun e s => ∃ j, j < i ∧ I j e s⟩) ∧ (k = false → E.nx env S1)) : (fWhile t b env S).F E := by
  have go : ∀ (m i : Nat) (env : Dnv) (S : Sto), i < m → I i env S → (whileF t b m env S).F E := by
    intro m
    induction m with
    | zero => exact fun i env S h => absurd h (Nat.not_lt_zero _)
    | succ m ih =>
      intro i env S him h
      unfold whileF
      refine F_fl ((hs i env S h).mono fun k S1 q => ?_)
      cases k with
      | false =>
        rw [if_neg (by decide)]
        exact q.2 rfl
      | true =>
        rw [if_pos rfl]
        have q := q.1 rfl
        cases hb : b env S1 with
        | nx e2 s2 =>
          rw [hb] at q
          obtain ⟨j, hj, q⟩ := q
          exact ih j e2 s2 (by omega) q
        | ct e2 s2 =>
          rw [hb] at q
          obtain ⟨j, hj, q⟩ := q
          exact ih j e2 s2 (by omega) q
        | bk e2 s2 => rw [hb] at q; exact q
        | rt e2 s2 => rw [hb] at q; exact q
        | bad => rw [hb] at q; exact q.elim
  exact go 100000 n env S hn h0
def rgP (n : Nat) : List P := (List.range n).map fun i : Nat => .int (i : Int)
theorem p_iR1 {Qi : List P × Own → Sto → Prop} (h : (ga env S).P fun ds S1 => ∃ n : Int, ds = [.v (.int n)] ∧ -1000000 ≤ n ∧ n ≤ 1000000 ∧ Qi (rgP n.toNat, none) S1) : (iR1 ga env S).P Qi := P_bind (h.mono fun ds S1 ⟨n, h1, h2, h3, q⟩ => by
  subst h1
  show (if _ then _ else _ : Oc (List P × Own)).P Qi
  rw [if_pos ⟨h2, h3⟩]
  have e : ((List.range n.toNat).map fun i : Nat => P.int ((0 : Int) + i)) = rgP n.toNat := by
    unfold rgP
    exact List.map_congr_left fun i _ => by rw [Int.zero_add]
  show Qi (((List.range n.toNat).map fun i : Nat => P.int ((0 : Int) + i)), none) S1
  rw [e]
  exact q)
theorem rgP_at {n i : Nat} {p : P} (h : (rgP n)[i]? = some p) : i < n ∧ p = .int i := by
  unfold rgP at h
  rw [List.getElem?_map] at h
  obtain ⟨j, h1, h2⟩ := Option.map_eq_some_iff.mp h
  have hl := lt_of_at h1
  rw [List.length_range] at hl
  rw [List.getElem?_range hl] at h1
  cases h1
  exact ⟨hl, h2.symm⟩
@[simp] theorem rgP_len (n : Nat) : (rgP n).length = n := by simp [rgP]
theorem own_none {all : List P} {S : Sto} : OwnOk none all S := fun _ h => by cases h
end
section
variable {it : FI} {g : FG} {t : FT} {e fk : FE} {vs : List Nat} {env : Dnv} {S : Sto}
theorem lc_P {own : Own} {all : List P} {Q : List P → Sto → Prop} (I : Nat → Sto → List P → Prop) (ho : ∀ i S acc, I i S acc → OwnOk own all S)
    (hs : ∀ i p S acc, all[i]? = some p → I i S acc → acc.length < 100000 ∧ (g (.v p) env S).P fun env1 S1 => (t env1 S1).P fun b S2 => (b = true → (e env1 S2).P fun d S3 => ∃ q, d = .v q ∧ I (i + 1) S3 (acc ++ [q])) ∧ (b = false → I (i + 1) S2 acc))
    (hd : ∀ S acc, I all.length S acc → Q acc S) : ∀ (ps : List P) (i : Nat) (S : Sto) (acc : List P), ps = all.drop i → i ≤ all.length → I i S acc → (lcF own all g t e env ps S acc).P Q
  | [], i, S, acc, hp, hi, h => by
    have e : i = all.length := by
      have := congrArg List.length hp
      rw [List.length_nil, List.length_drop] at this
      omega
    subst e
    unfold lcF
    rw [if_pos (ho _ _ _ h)]
    exact hd _ _ h
  | p :: ps, i, S, acc, hp, hi, h => by
    have hlt : i < all.length := by
      have := congrArg List.length hp
      rw [List.length_cons, List.length_drop] at this
      omega
    rw [List.drop_eq_getElem_cons hlt] at hp
    injection hp with h1 h2
    subst h1
    unfold lcF
    rw [if_pos (ho _ _ _ h)]
    obtain ⟨hl, hq⟩ := hs i _ S acc (List.getElem?_eq_getElem hlt) h
    refine P_bind (hq.mono fun env1 S1 q => P_bind (q.mono fun b S2 q => ?_))
    cases b with
    | false =>
      rw [if_neg (by decide)]
      exact lc_P I ho hs hd ps (i + 1) S2 acc h2 hlt (q.2 rfl)
    | true =>
      rw [if_pos rfl]
      refine P_bind ((q.1 rfl).mono fun d S3 q => ?_)
      obtain ⟨x, rfl, q⟩ := q
      show (if acc.length < 100000 then lcF own all g t e env ps S3 (acc ++ [x]) else .bad : Oc (List P)).P Q
      rw [if_pos hl]
      exact lc_P I ho hs hd ps (i + 1) S3 (acc ++ [x]) h2 hlt q
theorem p_lc {Q : D → Sto → Prop} (h : (it env S).P fun r S1 => (lcF r.2 r.1 g t e (wipeE env vs) r.1 S1 []).P fun acc S2 => Q (.v (.lst acc)) S2) : (fLc it g t e vs env S).P Q := P_bind (h.mono fun _ _ h => P_bind h)
theorem p_Lc {own : Own} {all : List P} {Q : List P → Sto → Prop} (I : Nat → Sto → List P → Prop) (h0 : I 0 S []) (ho : ∀ i S acc, I i S acc → OwnOk own all S)
    (hs : ∀ i p S acc, all[i]? = some p → I i S acc → acc.length < 100000 ∧ (g (.v p) env S).P fun env1 S1 => (t env1 S1).P fun b S2 => (b = true → (e env1 S2).P fun d S3 => ∃ q, d = .v q ∧ I (i + 1) S3 (acc ++ [q])) ∧ (b = false → I (i + 1) S2 acc))
    (hd : ∀ S acc, I all.length S acc → Q acc S) : (lcF own all g t e env all S []).P Q := lc_P I ho hs hd all 0 S [] rfl (Nat.zero_le _) h0
theorem dc_P {own : Own} {all : List P} {Q : List Key × List P → Sto → Prop} (I : Nat → Sto → List Key → List P → Prop) (ho : ∀ i S ks acc, I i S ks acc → OwnOk own all S)
    (hs : ∀ i p S ks acc, all[i]? = some p → I i S ks acc → ks.length < 10000 ∧ (g (.v p) env S).P fun env1 S1 => (t env1 S1).P fun b S2 => (b = true → (fk env1 S2).P fun dk S3 => (e env1 S3).P fun d S4 => ∃ qk k q, dk = .v qk ∧ pKey qk = some k ∧ d = .v q ∧ I (i + 1) S4 (putP ks acc k q).1 (putP ks acc k q).2) ∧ (b = false → I (i + 1) S2 ks acc))
    (hd : ∀ S ks acc, I all.length S ks acc → Q (ks, acc) S) : ∀ (ps : List P) (i : Nat) (S : Sto) (ks : List Key) (acc : List P), ps = all.drop i → i ≤ all.length → I i S ks acc → (dcF own all g t fk e env ps S ks acc).P Q
  | [], i, S, ks, acc, hp, hi, h => by
    have e : i = all.length := by
      have := congrArg List.length hp
      rw [List.length_nil, List.length_drop] at this
      omega
    subst e
    unfold dcF
    rw [if_pos (ho _ _ _ _ h)]
    exact hd _ _ _ h
  | p :: ps, i, S, ks, acc, hp, hi, h => by
    have hlt : i < all.length := by
      have := congrArg List.length hp
      rw [List.length_cons, List.length_drop] at this
      omega
    rw [List.drop_eq_getElem_cons hlt] at hp
    injection hp with h1 h2
    subst h1
    unfold dcF
    rw [if_pos (ho _ _ _ _ h)]
    obtain ⟨hl, hq⟩ := hs i _ S ks acc (List.getElem?_eq_getElem hlt) h
    refine P_bind (hq.mono fun env1 S1 q => P_bind (q.mono fun b S2 q => ?_))
    cases b with
    | false =>
      rw [if_neg (by decide)]
      exact dc_P I ho hs hd ps (i + 1) S2 ks acc h2 hlt (q.2 rfl)
    | true =>
      rw [if_pos rfl]
      refine P_bind ((q.1 rfl).mono fun dk S3 q => P_bind (q.mono fun d S4 q => ?_))
      obtain ⟨qk, k, x, rfl, hk, rfl, q⟩ := q
      show (match pKey qk with | some k => if ks.length < 10000 then dcF own all g t fk e env ps S4 (putP ks acc k x).1 (putP ks acc k x).2 else .bad | none => .bad : Oc (List Key × List P)).P Q
      rw [hk]
      show (if ks.length < 10000 then dcF own all g t fk e env ps S4 (putP ks acc k x).1 (putP ks acc k x).2 else .bad : Oc (List Key × List P)).P Q
      rw [if_pos hl]
      exact dc_P I ho hs hd ps (i + 1) S4 _ _ h2 hlt q
theorem p_dc {Q : D → Sto → Prop} (h : (it env S).P fun r S1 => (dcF r.2 r.1 g t fk e (wipeE env vs) r.1 S1 [] []).P fun acc S2 => Q (.v (.dic acc.1 acc.2)) S2) : (fDc it g t fk e vs env S).P Q := P_bind (h.mono fun _ _ h => P_bind h)
theorem p_Dc {own : Own} {all : List P} {Q : List Key × List P → Sto → Prop} (I : Nat → Sto → List Key → List P → Prop) (h0 : I 0 S [] []) (ho : ∀ i S ks acc, I i S ks acc → OwnOk own all S)
    (hs : ∀ i p S ks acc, all[i]? = some p → I i S ks acc → ks.length < 10000 ∧ (g (.v p) env S).P fun env1 S1 => (t env1 S1).P fun b S2 => (b = true → (fk env1 S2).P fun dk S3 => (e env1 S3).P fun d S4 => ∃ qk k q, dk = .v qk ∧ pKey qk = some k ∧ d = .v q ∧ I (i + 1) S4 (putP ks acc k q).1 (putP ks acc k q).2) ∧ (b = false → I (i + 1) S2 ks acc))
    (hd : ∀ S ks acc, I all.length S ks acc → Q (ks, acc) S) : (dcF own all g t fk e env all S [] []).P Q := dc_P I ho hs hd all 0 S [] [] rfl (Nat.zero_le _) h0
end
section
variable {n : Nat} {keep : Bool} {b : FS} {ds : List D} {S S1 : Sto} {Q : D → Sto → Prop}
theorem p_run (h : (b (startD n ds) S).F ⟨fun _ S1 => (closeD keep S.length (.v .non) S1).P Q, fun d S1 => (closeD keep S.length d S1).P Q, fun _ _ => False, fun _ _ => False⟩) : (runF n keep b ds S).P Q := by
  unfold runF
  cases e : b (startD n ds) S with
  | nx e2 S1 => rw [e] at h; exact h
  | rt d S1 => rw [e] at h; exact h
  | bk e2 S1 => rw [e] at h; exact h.elim
  | ct e2 S1 => rw [e] at h; exact h.elim
  | bad => rw [e] at h; exact h.elim
theorem p_closeV {p : P} (h : Q (.v p) (S1.take n)) : (closeD false n (.v p) S1).P Q := h
theorem p_closeK {d : D} (h : Q d S1) : (closeD true n d S1).P Q := h
theorem p_closeR {r : Nat} {ps : List P} (hr : ¬ r < n) (hs : S1[r]? = some (.lst ps)) (h : Q (.v (.lst ps)) (S1.take n)) : (closeD false n (.r r) S1).P Q := by
  unfold closeD
  rw [if_neg (by decide)]
  dsimp only
  rw [if_neg hr, hs]
  exact h
end
end DL
namespace DL
open PySem PySem.Spec PyProof.Rows L2
theorem ok_app {x y : Str} (hx : PyData.strOk x = true) (hy : PyData.strOk y = true) : PyData.strOk (x ++ y) = true := by
  unfold PyData.strOk at hx hy ⊢
  rw [Array.all_eq_true_iff_forall_mem] at hx hy ⊢
  intro a ha
  rw [Str.cps_append] at ha
  rcases Array.mem_append.mp ha with h | h
  · exact hx a h
  · exact hy a h
theorem ok_join : ∀ {ts : List Str}, (∀ t ∈ ts, PyData.strOk t = true) → PyData.strOk (Str.join ", " ts) = true
  | [], _ => by decide +kernel
  | [x], h => h x (List.mem_cons_self ..)
  | x :: y :: r, h => ok_app (ok_app (h x (List.mem_cons_self ..)) (by decide +kernel)) (ok_join (ts := y :: r) fun t ht => h t (List.mem_cons_of_mem _ ht))
theorem piled_le {n : Nat} : ∀ {ts : List Str}, (∀ t ∈ ts, t.length ≤ n) → piled ts ≤ ts.length * (n + 2)
  | [], _ => by simp [piled]
  | t :: r, h => by
    have h1 := h t (List.mem_cons_self ..)
    have h2 := piled_le (ts := r) fun u hu => h u (List.mem_cons_of_mem _ hu)
    rw [piled_cons, List.length_cons, Nat.add_mul]
    omega
def Sh (n m : Nat) (p : P) : Prop := ∃ d, toPy p = some d ∧ d.showable = true ∧ d.hasDict = false ∧ PyData.strOk d.shown = true ∧ d.shown.length ≤ n ∧ d.depth ≤ m
theorem Sh.mono {n m n' m' : Nat} {p : P} (h : Sh n m p) (hn : n ≤ n') (hm : m ≤ m') : Sh n' m' p := by
  obtain ⟨d, h1, h2, h3, h4, h5, h6⟩ := h
  exact ⟨d, h1, h2, h3, h4, Nat.le_trans h5 hn, Nat.le_trans h6 hm⟩
theorem sh_all {n m : Nat} : ∀ {ps : List P}, (∀ p ∈ ps, Sh n m p) → ∃ ds, toPys ps = some ds ∧ PyData.showableAll ds = true ∧ PyData.hasDictAll ds = false ∧ (∀ t ∈ PyData.shownAll ds, PyData.strOk t = true ∧ t.length ≤ n) ∧ (PyData.shownAll ds).length = ps.length ∧ PyData.depthAll ds ≤ m
  | [], _ => ⟨[], rfl, rfl, rfl, (fun _ h => by cases h), rfl, Nat.zero_le _⟩
  | p :: ps, h => by
    obtain ⟨d, h1, h2, h3, h4, h5, h6⟩ := h p (List.mem_cons_self ..)
    obtain ⟨ds, k1, k2, k3, k4, k5, k6⟩ := sh_all (ps := ps) fun q hq => h q (List.mem_cons_of_mem _ hq)
    refine ⟨d :: ds, ?_, ?_, ?_, fun t ht => ?_, ?_, ?_⟩
    · simp [toPys, h1, k1]
    · simp [PyData.showableAll, h2, k2]
    · simp [PyData.hasDictAll, h3, k3]
    · rcases List.mem_cons.mp (show t ∈ d.shown :: PyData.shownAll ds from ht) with rfl | ht
      · exact ⟨h4, h5⟩
      · exact k4 t ht
    · show (d.shown :: PyData.shownAll ds).length = _
      simp [k5]
    · show max d.depth (PyData.depthAll ds) ≤ m
      omega
theorem sh_tup {n m : Nat} {ps : List P} (h : ∀ p ∈ ps, Sh n m p) : Sh (ps.length * (n + 2) + 3) (m + 1) (.tup ps) := by
  obtain ⟨ds, k1, k2, k3, k4, k5, k6⟩ := sh_all h
  refine ⟨.tuple ds, by simp [toPy, k1], k2, k3, ?_, ?_, by show PyData.depthAll ds + 1 ≤ m + 1; omega⟩
  · show PyData.strOk (tupleText (PyData.shownAll ds)) = true
    unfold tupleText
    refine ok_app (ok_app (by decide +kernel) (ok_join fun t ht => (k4 t ht).1)) ?_
    split <;> decide +kernel
  · show (tupleText (PyData.shownAll ds)).length ≤ _
    unfold tupleText
    rw [Str.length_append, Str.length_append]
    have e1 : (("(" : String) : Str).length = 1 := rfl
    have e2 : ((if (PyData.shownAll ds).length == 1 then ",)" else ")" : String) : Str).length ≤ 2 := by
      split
      · exact Nat.le_refl 2
      · exact (by decide : 1 ≤ 2)
    have e3 : (Str.join ", " (PyData.shownAll ds)).length ≤ ps.length * (n + 2) := by
      by_cases hz : PyData.shownAll ds = []
      · rw [hz]
        exact Nat.zero_le _
      · have := join_length_add _ hz
        have := piled_le (ts := PyData.shownAll ds) fun t ht => (k4 t ht).2
        rw [k5] at this
        omega
    omega
theorem sh_str {n : Nat} {x : Str} (h1 : PyData.strOk (reprText x) = true) (h2 : (reprText x).length ≤ n) : Sh n 0 (.str x) := ⟨.str x, rfl, rfl, rfl, h1, h2, Nat.le_refl _⟩
def shw (p : P) : Str := (pyOf p).shown
theorem Sh.repr {n m : Nat} {p : P} (h : Sh n m p) (hn : n ≤ 100000) (hm : m ≤ 64) : bRepr [p] = some (.str (shw p)) ∧ PyData.strOk (shw p) = true := by
  obtain ⟨d, h1, h2, h3, h4, h5, h6⟩ := h
  have e : pyOf p = d := by unfold pyOf; rw [h1]; rfl
  unfold shw
  rw [e]
  refine ⟨?_, h4⟩
  unfold bRepr
  simp only [h1]
  rw [if_pos ⟨h2, h3, by omega, by omega⟩]
theorem ne_txt {x y : Str} (hx : PyData.strOk x = true) (hy : PyData.strOk y = true) : ∃ b, pNe (.str x) (.str y) = some (.bl b) ∧ (b = true ↔ x ≠ y) := by
  refine ⟨!(x == y), ?_, by simp⟩
  unfold pNe
  simp [toPy, SeqAt.shaped, PyData.canLay0, hx, hy, PyData.depth, PyData.eqv]
mutual
def pl : P → Bool
  | .non => true
  | .int _ => true
  | .str x => PyData.strOk x
  | .tup ps => pls ps
  | .lst ps => pls ps
  | _ => false
def pls : List P → Bool
  | [] => true
  | p :: ps => pl p && pls ps
end
mutual
def dp : P → Nat
  | .tup ps => dps ps + 1
  | .lst ps => dps ps + 1
  | _ => 0
def dps : List P → Nat
  | [] => 0
  | p :: ps => max (dp p) (dps ps)
end
mutual
theorem pl_py : ∀ p : P, pl p = true → ∃ d, toPy p = some d ∧ d.canLay0 = true ∧ d.depth = dp p
  | .non, _ => ⟨.none, rfl, rfl, rfl⟩
  | .int i, _ => ⟨.int i, rfl, rfl, rfl⟩
  | .str x, h => ⟨.str x, rfl, h, rfl⟩
  | .tup ps, h => by
    obtain ⟨ds, h1, h2, h3⟩ := pls_py ps h
    exact ⟨.tuple ds, by simp [toPy, h1], h2, by show PyData.depthAll ds + 1 = dps ps + 1; rw [h3]⟩
  | .lst ps, h => by
    obtain ⟨ds, h1, h2, h3⟩ := pls_py ps h
    exact ⟨.list ds, by simp [toPy, h1], h2, by show PyData.depthAll ds + 1 = dps ps + 1; rw [h3]⟩
  | .bl _, h => by cases h
  | .frz _, h => by cases h
  | .dic _ _, h => by cases h
  | .fn _, h => by cases h
theorem pls_py : ∀ ps : List P, pls ps = true → ∃ ds, toPys ps = some ds ∧ PyData.canLayAll0 ds = true ∧ PyData.depthAll ds = dps ps
  | [], _ => ⟨[], rfl, rfl, rfl⟩
  | p :: ps, h => by
    have hh : (pl p && pls ps) = true := h
    obtain ⟨a, b⟩ := Bool.and_eq_true_iff.mp hh
    obtain ⟨d, h1, h2, h3⟩ := pl_py p a
    obtain ⟨ds, k1, k2, k3⟩ := pls_py ps b
    exact ⟨d :: ds, by simp [toPys, h1, k1], by simp [PyData.canLayAll0, h2, k2], by show max d.depth (PyData.depthAll ds) = max (dp p) (dps ps); rw [h3, k3]⟩
end
mutual
theorem pl_eqv : ∀ (p q : P) (d e : PyData), pl p = true → pl q = true → toPy p = some d → toPy q = some e → (PyData.eqv d e = true ↔ p = q)
  | .non, q, d, e, hp, hq, h1, h2 => by
    cases h1
    cases q <;> first | (cases hq; done) | (simp [toPy] at h2; first | (subst h2; simp [PyData.eqv]) | (obtain ⟨x, _, rfl⟩ := h2; simp [PyData.eqv]))
  | .int i, q, d, e, hp, hq, h1, h2 => by
    cases h1
    cases q <;> first | (cases hq; done) | (simp [toPy] at h2; first | (subst h2; simp [PyData.eqv]) | (obtain ⟨x, _, rfl⟩ := h2; simp [PyData.eqv]))
  | .str i, q, d, e, hp, hq, h1, h2 => by
    cases h1
    cases q <;> first | (cases hq; done) | (simp [toPy] at h2; first | (subst h2; simp [PyData.eqv]) | (obtain ⟨x, _, rfl⟩ := h2; simp [PyData.eqv]))
  | .tup ps, q, d, e, hp, hq, h1, h2 => by
    obtain ⟨ds, h1', rfl⟩ := Option.map_eq_some_iff.mp (show (toPys ps).map PyData.tuple = some d from h1)
    cases q with
    | tup qs =>
      obtain ⟨es, h2', rfl⟩ := Option.map_eq_some_iff.mp (show (toPys qs).map PyData.tuple = some e from h2)
      have := pls_eqv ps qs ds es hp hq h1' h2'
      simp only [PyData.eqv, this, P.tup.injEq]
    | lst qs =>
      obtain ⟨es, h2', rfl⟩ := Option.map_eq_some_iff.mp (show (toPys qs).map PyData.list = some e from h2)
      simp [PyData.eqv]
    | non => cases h2; simp [PyData.eqv]
    | int i => cases h2; simp [PyData.eqv]
    | str x => cases h2; simp [PyData.eqv]
    | bl _ => cases hq
    | frz _ => cases hq
    | dic _ _ => cases hq
    | fn _ => cases hq
    | dn _ _ => cases hq
    | exn _ _ _ _ _ => cases hq
    | adr _ => cases hq
  | .lst ps, q, d, e, hp, hq, h1, h2 => by
    obtain ⟨ds, h1', rfl⟩ := Option.map_eq_some_iff.mp (show (toPys ps).map PyData.list = some d from h1)
    cases q with
    | lst qs =>
      obtain ⟨es, h2', rfl⟩ := Option.map_eq_some_iff.mp (show (toPys qs).map PyData.list = some e from h2)
      have := pls_eqv ps qs ds es hp hq h1' h2'
      simp only [PyData.eqv, this, P.lst.injEq]
    | tup qs =>
      obtain ⟨es, h2', rfl⟩ := Option.map_eq_some_iff.mp (show (toPys qs).map PyData.tuple = some e from h2)
      simp [PyData.eqv]
    | non => cases h2; simp [PyData.eqv]
    | int i => cases h2; simp [PyData.eqv]
    | str x => cases h2; simp [PyData.eqv]
    | bl _ => cases hq
    | frz _ => cases hq
    | dic _ _ => cases hq
    | fn _ => cases hq
    | dn _ _ => cases hq
    | exn _ _ _ _ _ => cases hq
    | adr _ => cases hq
  | .bl _, _, _, _, h, _, _, _ => by cases h
  | .frz _, _, _, _, h, _, _, _ => by cases h
  | .dic _ _, _, _, _, h, _, _, _ => by cases h
  | .fn _, _, _, _, h, _, _, _ => by cases h
  | .dn _ _, _, _, _, h, _, _, _ => by cases h
  | .exn _ _ _ _ _, _, _, _, h, _, _, _ => by cases h
  | .adr _, _, _, _, h, _, _, _ => by cases h
theorem pls_eqv : ∀ (ps qs : List P) (ds es : List PyData), pls ps = true → pls qs = true → toPys ps = some ds → toPys qs = some es → (PyData.eqvAll ds es = true ↔ ps = qs)
  | [], qs, ds, es, hp, hq, h1, h2 => by
    cases h1
    cases qs with
    | nil => cases h2; simp [PyData.eqvAll]
    | cons q qs =>
      have hh : (pl q && pls qs) = true := hq
      obtain ⟨a, b⟩ := Bool.and_eq_true_iff.mp hh
      obtain ⟨e, k1, _⟩ := pl_py q a
      obtain ⟨es', k2, _⟩ := pls_py qs b
      simp [toPys, k1, k2] at h2
      subst h2
      simp [PyData.eqvAll]
  | p :: ps, qs, ds, es, hp, hq, h1, h2 => by
    have hh : (pl p && pls ps) = true := hp
    obtain ⟨a, b⟩ := Bool.and_eq_true_iff.mp hh
    obtain ⟨d, k1, _⟩ := pl_py p a
    obtain ⟨ds', k2, _⟩ := pls_py ps b
    simp [toPys, k1, k2] at h1
    subst h1
    cases qs with
    | nil => cases h2; simp [PyData.eqvAll]
    | cons q qs =>
      have hh2 : (pl q && pls qs) = true := hq
      obtain ⟨a2, b2⟩ := Bool.and_eq_true_iff.mp hh2
      obtain ⟨e, l1, _⟩ := pl_py q a2
      obtain ⟨es', l2, _⟩ := pls_py qs b2
      simp [toPys, l1, l2] at h2
      subst h2
      have i1 := pl_eqv p q d e a a2 k1 l1
      have i2 := pls_eqv ps qs ds' es' b b2 k2 l2
      simp only [PyData.eqvAll, Bool.and_eq_true, i1, i2, List.cons.injEq]
end
theorem pls_mem : ∀ {ps : List P}, pls ps = true ↔ ∀ p ∈ ps, pl p = true
  | [] => by simp [pls]
  | p :: ps => by simp [pls, pls_mem (ps := ps)]
theorem dps_le {n : Nat} : ∀ {ps : List P}, dps ps ≤ n ↔ ∀ p ∈ ps, dp p ≤ n
  | [] => by simp [dps]
  | p :: ps => by simp [dps, dps_le (ps := ps), Nat.max_le]
def Pl (n : Nat) (p : P) : Prop := pl p = true ∧ dp p ≤ n
theorem Pl.mono {n m : Nat} {p : P} (h : Pl n p) (hm : n ≤ m) : Pl m p := ⟨h.1, Nat.le_trans h.2 hm⟩
theorem pl_tup {n : Nat} {ps : List P} (h : ∀ p ∈ ps, Pl n p) : Pl (n + 1) (.tup ps) := ⟨pls_mem.mpr fun p hp => (h p hp).1, Nat.succ_le_succ (dps_le.mpr fun p hp => (h p hp).2)⟩
theorem pl_lst {n : Nat} {ps : List P} (h : ∀ p ∈ ps, Pl n p) : Pl (n + 1) (.lst ps) := ⟨pls_mem.mpr fun p hp => (h p hp).1, Nat.succ_le_succ (dps_le.mpr fun p hp => (h p hp).2)⟩
theorem pl_int {i : Int} : Pl 0 (.int i) := ⟨rfl, Nat.le_refl _⟩
theorem pl_str {x : Str} (h : PyData.strOk x = true) : Pl 0 (.str x) := ⟨h, Nat.le_refl _⟩
theorem pl_shaped {n : Nat} {p : P} (h : Pl n p) (hn : n ≤ 64) : ∃ d, toPy p = some d ∧ SeqAt.shaped d = true ∧ d.canLay0 = true ∧ d.depth ≤ 64 := by
  obtain ⟨d, h1, h2, h3⟩ := pl_py p h.1
  have : d.depth ≤ 64 := by rw [h3]; exact Nat.le_trans h.2 hn
  exact ⟨d, h1, by simp [SeqAt.shaped, h2, this], h2, this⟩
theorem eq_pl {n m : Nat} {p q : P} (hp : Pl n p) (hq : Pl m q) (hn : n ≤ 64) (hm : m ≤ 64) : ∃ b, pEq p q = some (.bl b) ∧ (b = true ↔ p = q) := by
  obtain ⟨d, h1, h2, _⟩ := pl_shaped hp hn
  obtain ⟨e, k1, k2, _⟩ := pl_shaped hq hm
  refine ⟨PyData.eqv d e, ?_, pl_eqv p q d e hp.1 hq.1 h1 k1⟩
  unfold pEq
  rw [h1]
  simp only []
  rw [k1]
  simp [h2, k2]
theorem ne_pl {n m : Nat} {p q : P} (hp : Pl n p) (hq : Pl m q) (hn : n ≤ 64) (hm : m ≤ 64) : ∃ b, pNe p q = some (.bl b) ∧ (b = true ↔ p ≠ q) := by
  obtain ⟨d, h1, h2, _⟩ := pl_shaped hp hn
  obtain ⟨e, k1, k2, _⟩ := pl_shaped hq hm
  have := pl_eqv p q d e hp.1 hq.1 h1 k1
  refine ⟨!PyData.eqv d e, ?_, by rw [Ne, ← this]; cases PyData.eqv d e <;> simp⟩
  unfold pNe
  rw [h1]
  simp only []
  rw [k1]
  simp [h2, k2]
theorem any_pl {p : P} {d : PyData} (hp : pl p = true) (h1 : toPy p = some d) : ∀ {ps : List P} {ds : List PyData}, pls ps = true → toPys ps = some ds → ((ds.any fun y => PyData.eqv y d) = true ↔ p ∈ ps)
  | [], ds, _, h => by cases h; simp
  | q :: ps, ds, hq, h => by
    have hh2 : (pl q && pls ps) = true := hq
    obtain ⟨a2, b2⟩ := Bool.and_eq_true_iff.mp hh2
    obtain ⟨e, l1, _⟩ := pl_py q a2
    obtain ⟨es', l2, _⟩ := pls_py ps b2
    simp [toPys, l1, l2] at h
    subst h
    have i1 := pl_eqv q p e d a2 hp l1 h1
    have i2 := any_pl hp h1 (ps := ps) b2 l2
    rw [List.any_cons, Bool.or_eq_true, i1, i2, List.mem_cons]
    constructor
    · rintro (h | h)
      · exact .inl h.symm
      · exact .inr h
    · rintro (h | h)
      · exact .inl h.symm
      · exact .inr h
theorem inB_pl {n m : Nat} {p : P} {ps : List P} (hp : Pl n p) (hq : ∀ q ∈ ps, Pl m q) (hn : n ≤ 64) : ∃ b, pInB p (.tup ps) = some b ∧ pInB p (.lst ps) = some b ∧ (b = true ↔ p ∈ ps) := by
  obtain ⟨d, h1, h2, h3, h4⟩ := pl_shaped hp hn
  have hps : pls ps = true := pls_mem.mpr fun q h => (hq q h).1
  obtain ⟨ds, k1, k2, _⟩ := pls_py ps hps
  refine ⟨ds.any fun y => PyData.eqv y d, ?_, ?_, any_pl hp.1 h1 hps k1⟩
  · simp [pInB, toPy, k1, h1, k2, canD, h3, h4]
  · simp [pInB, toPy, k1, h1, k2, canD, h3, h4]
theorem in_tup {n m : Nat} {p : P} {ps : List P} (hp : Pl n p) (hq : ∀ q ∈ ps, Pl m q) (hn : n ≤ 64) : ∃ b, pIn p (.tup ps) = some (.bl b) ∧ (b = true ↔ p ∈ ps) := by
  obtain ⟨b, h1, _, h2⟩ := inB_pl hp hq hn
  exact ⟨b, by simp [pIn, h1], h2⟩
theorem in_lst {n m : Nat} {p : P} {ps : List P} (hp : Pl n p) (hq : ∀ q ∈ ps, Pl m q) (hn : n ≤ 64) : ∃ b, pIn p (.lst ps) = some (.bl b) ∧ (b = true ↔ p ∈ ps) := by
  obtain ⟨b, _, h1, h2⟩ := inB_pl hp hq hn
  exact ⟨b, by simp [pIn, h1], h2⟩
theorem look_hit {ks : List Key} {ps : List P} {k : Key} {i : Nat} {p : P} (hn : ks.Nodup) (h1 : ks[i]? = some k) (h2 : ps[i]? = some p) : look ks ps k = some p := by
  induction ks generalizing ps i with
  | nil => simp at h1
  | cons j ks ih =>
    cases ps with
    | nil => simp at h2
    | cons q ps =>
      obtain ⟨hn1, hn2⟩ := List.nodup_cons.mp hn
      cases i with
      | zero =>
        simp at h1 h2
        subst h1 h2
        simp [look]
      | succ i =>
        have h1' : ks[i]? = some k := by simpa using h1
        have h2' : ps[i]? = some p := by simpa using h2
        have := ih hn2 h1' h2'
        have hne : j ≠ k := fun e => hn1 (e ▸ List.mem_of_getElem? h1')
        unfold look at this ⊢
        rw [List.zip_cons_cons, List.find?_cons, decide_eq_false hne]
        exact this
theorem put_new {ks : List Key} {ps : List P} {k : Key} {p : P} (hk : k ∉ ks) (hl : ks.length = ps.length) : putP ks ps k p = (ks ++ [k], ps ++ [p]) := by
  induction ks generalizing ps with
  | nil =>
    have : ps = [] := by simpa using hl.symm
    subst this
    rfl
  | cons j ks ih =>
    cases ps with
    | nil => simp at hl
    | cons q ps =>
      have h1 : j ≠ k := fun e => hk (e ▸ List.mem_cons_self ..)
      have := ih (ps := ps) (fun h => hk (List.mem_cons_of_mem _ h)) (by simpa using hl)
      unfold putP
      rw [if_neg h1, this]
      rfl
theorem sorted_of {ps : List P} {ds : List PyData} (h1 : toPys ps = some ds) (h2 : alikeB ds = true) (h3 : sortableB ds = true) (h4 : ps.length ≤ 100000) (h5 : ∀ d ∈ ds, d.depth ≤ 64) : bSorted [.lst ps] = some (.lst (ps.mergeSort (PySem.W.dataLe false pyOf))) := by
  unfold bSorted
  simp only [h1]
  rw [if_pos ⟨h2, h3, h4, List.all_eq_true.mpr fun d hd => decide_eq_true (h5 d hd)⟩]
theorem alike_strs : ∀ (xs ys : List Str), PySem.W.alikeAll (xs.map .str) (ys.map .str) = true
  | [], _ => by simp [PySem.W.alikeAll]
  | x :: xs, [] => by simp [PySem.W.alikeAll]
  | x :: xs, y :: ys => by simp [PySem.W.alikeAll, PySem.W.alike, alike_strs xs ys]
theorem toPys_strs : ∀ xs : List Str, toPys (xs.map .str) = some (xs.map .str)
  | [] => rfl
  | x :: xs => by simp [toPys, toPy, toPys_strs xs]
theorem sorted_strs {xs : List Str} (h : xs.length ≤ 100000) : ∃ ys : List Str, bSorted [.lst (xs.map .str)] = some (.lst (ys.map .str)) ∧ ys.Perm xs := by
  have e := sorted_of (toPys_strs xs) (by
    unfold alikeB
    simp only [List.all_eq_true, List.mem_map]
    rintro _ ⟨x, _, rfl⟩ _ ⟨y, _, rfl⟩
    simp [PySem.W.alike]) (by
    unfold sortableB
    rw [Bool.or_eq_true]
    right
    simp only [List.all_eq_true, List.mem_map]
    rintro _ ⟨x, _, rfl⟩
    rfl) (by simpa using h) (by
    simp only [List.mem_map]
    rintro _ ⟨x, _, rfl⟩
    exact Nat.zero_le _)
  have hp := List.mergeSort_perm (xs.map P.str) (PySem.W.dataLe false pyOf)
  have back : ∀ zs : List P, (∀ z ∈ zs, ∃ x : Str, z = .str x) → ∃ ys : List Str, zs = ys.map .str := by
    intro zs
    induction zs with
    | nil => exact fun _ => ⟨[], rfl⟩
    | cons z zs ih =>
      intro h
      obtain ⟨x, rfl⟩ := h z (List.mem_cons_self ..)
      obtain ⟨ys, rfl⟩ := ih fun w hw => h w (List.mem_cons_of_mem _ hw)
      exact ⟨x :: ys, rfl⟩
  obtain ⟨ys, hy⟩ := back _ fun z hz => by
    obtain ⟨x, _, e⟩ := List.mem_map.mp (hp.mem_iff.mp hz)
    exact ⟨x, e.symm⟩
  refine ⟨ys, by rw [e, hy], ?_⟩
  rw [hy] at hp
  have := hp.map fun p => match p with | .str x => x | _ => ""
  have e2 : ∀ zs : List Str, (zs.map P.str).map (fun p => match p with | .str x => x | _ => "") = zs := fun zs => by
    rw [List.map_map]
    exact List.map_id zs
  rw [e2, e2] at this
  exact this
end DL
namespace DL
open PySem PySem.Spec PyProof.Rows L2
theorem mod_ok {i j : Int} (h : 0 < j) : pMod (.int i) (.int j) = some (.int (i % j)) := if_pos h
theorem fdiv_ok {i j : Int} (h : 0 < j) (h2 : j < 1073741824) : pFdiv (.int i) (.int j) = some (.int (i / j)) := if_pos ⟨h, h2⟩
theorem pow_ok {i j : Int} (h : 0 ≤ j) (h2 : j ≤ 1000000) (h3 : i.natAbs < 2 ^ 64) : pPow (.int i) (.int j) = some (.int (i ^ j.toNat)) := if_pos ⟨h, h2, h3⟩
theorem mul_ok {i j : Int} (h : -(2 ^ 64) < i) (h2 : i < 2 ^ 64) : pMul (.int i) (.int j) = some (.int (i * j)) := by
  show (if -(2 ^ 64) < j ∧ j < 2 ^ 64 then some (P.int (i * j)) else if -(2 ^ 64) < i ∧ i < 2 ^ 64 then some (P.int (i * j)) else none) = _
  split
  · rfl
  · exact if_pos ⟨h, h2⟩
theorem dt {p : Prop} [Decidable p] {A B : Prop} (h1 : p → A) (h2 : ¬ p → B) : (decide p = true → A) ∧ (decide p = false → B) := ⟨fun h => h1 (of_decide_eq_true h), fun h => h2 (of_decide_eq_false h)⟩
theorem ff {A B : Prop} (h : B) : (false = true → A) ∧ (false = false → B) := ⟨(fun h => nomatch h), fun _ => h⟩
theorem tt {A B : Prop} (h : A) : (true = true → A) ∧ (true = false → B) := ⟨fun _ => h, (fun h => nomatch h)⟩
theorem nff {A B : Prop} (h : A) : ((!false) = true → A) ∧ ((!false) = false → B) := ⟨fun _ => h, (fun h => nomatch h)⟩
theorem ntt {A B : Prop} (h : B) : ((!true) = true → A) ∧ ((!true) = false → B) := ⟨(fun h => nomatch h), fun _ => h⟩
theorem ndt {p : Prop} [Decidable p] {A B : Prop} (h1 : ¬ p → A) (h2 : p → B) : ((!decide p) = true → A) ∧ ((!decide p) = false → B) := ⟨fun h => h1 (by simpa using h), fun h => h2 (by simpa using h)⟩
theorem at_nn {α : Type} {xs : List α} {i : Int} {j : Nat} {a : α} (hi : i = j) (h : xs[j]? = some a) : atI xs i = some a := by
  have hl := lt_of_at h
  unfold atI ixN
  subst hi
  rw [if_pos (by omega), if_pos (by omega)]
  exact h
def bx (T : Sto) (j : Nat) : Nat := T.length + 1 + j
section
variable {o : Ob} {T B : Sto} {j : Nat} {z : Ob}
theorem bx_get : (o :: (T ++ B))[bx T j]? = B[j]? := by
  unfold bx
  rw [show T.length + 1 + j = (T.length + j) + 1 by omega, List.getElem?_cons_succ, List.getElem?_append_right (by omega)]
  congr 1
  omega
theorem bx_set : (o :: (T ++ B)).set (bx T j) z = o :: (T ++ B.set j z) := by
  unfold bx
  have e : ∀ (A : Sto), (A ++ B).set (A.length + j) z = A ++ B.set j z := fun A => by
    induction A with
    | nil => simp
    | cons a A ih =>
      have e2 : (a :: A).length + j = (A.length + j) + 1 := by
        rw [List.length_cons]
        omega
      rw [e2, List.cons_append, List.set_cons_succ, ih, List.cons_append]
  rw [show T.length + 1 + j = (T.length + j) + 1 by omega, List.set_cons_succ, e]
theorem bx_len : (o :: (T ++ B)).length = bx T B.length := by
  unfold bx
  simp
  omega
theorem bx_put : (o :: (T ++ B)) ++ [z] = o :: (T ++ (B ++ [z])) := by simp
theorem bx_take {T2 : Sto} (h : (o :: T).length = T2.length + 1) : (o :: (T ++ B)).take (T2.length + 1) = o :: T := by
  rw [List.length_cons] at h
  rw [List.take_succ_cons, ← Nat.add_right_cancel h, List.take_left]
theorem deP_bx {ps : List P} (h : B[j]? = some (.lst ps)) : deP (o :: (T ++ B)) (.r (bx T j)) = some (.lst ps) := by
  unfold deP
  dsimp only
  rw [bx_get, h]
theorem seq_bx {ps : List P} (h : B[j]? = some (.lst ps)) : seqOf (.r (bx T j)) (o :: (T ++ B)) = some (ps, some (Wo.l (bx T j))) := by
  unfold seqOf
  dsimp only
  rw [bx_get, h]
theorem own_bx {ps : List P} (h : B[j]? = some (.lst ps)) : OwnOk (some (Wo.l (bx T j))) ps (o :: (T ++ B)) := fun r e => by
  cases e
  show (o :: (T ++ B))[bx T j]? = _
  rw [bx_get, h]
variable {Q : D → Sto → Prop} {ga : FA} {env : Dnv}
theorem c_lstB {ds : List D} {ps : List P} (h : vals ds = some ps) (hl : ps.length ≤ 100000) (q : Q (.r (bx T B.length)) (o :: (T ++ (B ++ [.lst ps])))) : (lstBE ds (o :: (T ++ B))).P Q := by
  refine p_lstBE h hl ?_
  rw [bx_put, bx_len]
  exact q
theorem c_cbB {op : List P → Option P} {ds : List D} {ps qs : List P} (h1 : deAll (o :: (T ++ B)) ds = some ps) (h2 : op ps = some (.lst qs)) (q : Q (.r (bx T B.length)) (o :: (T ++ (B ++ [.lst qs])))) : (cbBE op ds (o :: (T ++ B))).P Q := by
  refine p_cbBE h1 h2 ?_
  rw [bx_put, bx_len]
  exact q
theorem c_mt {op : MOp} {i : Nat} {ps : List P} (h : env[i]? = some (some (.r (bx T j)))) (h1 : B[j]? = some (.lst ps)) (q : (ga env (o :: (T ++ B))).P fun ds S1 => (mtE op (bx T j) ds S1).P Q) : (fMt op (fVar i) ga env (o :: (T ++ B))).P Q :=
  p_mt h (by rw [bx_get]; exact h1) q
theorem c_mtE {op : MOp} {ds : List D} {ps qs : List P} {u : P} (h1 : B[j]? = some (.lst ps)) (h2 : op ps ds (o :: (T ++ B)) = some (u, qs)) (q : Q (.v u) (o :: (T ++ B.set j (.lst qs)))) : (mtE op (bx T j) ds (o :: (T ++ B))).P Q := by
  refine p_mtE (by rw [bx_get]; exact h1) h2 ?_
  rw [bx_set]
  exact q
def ivE (d : D) (S : Sto) : Oc (List P × Own) := match seqOf d S with
  | some r => .ok r S
  | none => .bad
theorem c_iv {f : FE} {Qi : List P × Own → Sto → Prop} {S : Sto} (h : (f env S).P fun d S1 => (ivE d S1).P Qi) : (iVal f env S).P Qi := P_bind h
theorem c_ivE {Qi : List P × Own → Sto → Prop} {S : Sto} {d : D} {r : List P × Own} (h : seqOf d S = some r) (q : Qi r S) : (ivE d S).P Qi := by
  unfold ivE
  rw [h]
  exact q
def rgE (ds : List D) (S : Sto) : Oc (List P × Own) := match ds with
  | [.v (.int n)] => if -1000000 ≤ n ∧ n ≤ 1000000 then .ok (rgP n.toNat, none) S else .bad
  | _ => .bad
theorem c_rg {Qi : List P × Own → Sto → Prop} {S : Sto} (h : (ga env S).P fun ds S1 => (rgE ds S1).P Qi) : (iR1 ga env S).P Qi := p_iR1 (h.mono fun ds S1 h => by
  unfold rgE at h
  split at h
  · rename_i n
    split at h
    · rename_i hn
      exact ⟨n, rfl, hn.1, hn.2, h⟩
    · exact h.elim
  · exact h.elim)
theorem c_rgE {Qi : List P × Own → Sto → Prop} {S : Sto} {n : Int} (h1 : -1000000 ≤ n) (h2 : n ≤ 1000000) (q : Qi (rgP n.toNat, none) S) : (rgE [.v (.int n)] S).P Qi := by
  show (if _ then _ else _ : Oc (List P × Own)).P Qi
  rw [if_pos ⟨h1, h2⟩]
  exact q
theorem c_oAt {f : FE} {Qo : Option Int → Sto → Prop} {S : Sto} (h : (f env S).P fun d S1 => (atE d S1).P Qo) : (oAt f env S).P Qo := by
  unfold oAt
  exact P_bind (h.mono fun d S1 h => h)
theorem c_atE {Qo : Option Int → Sto → Prop} {S : Sto} {i : Int} (q : Qo (some i) S) : (atE (.v (.int i)) S).P Qo := q
theorem cut_map {α β : Type} (f : α → β) (xs : List α) (lo hi : Option Int) : cutL (xs.map f) lo hi = (cutL xs lo hi).map f := by
  unfold cutL
  rw [List.map_take, List.map_drop, List.length_map]
theorem cut_len {α : Type} {xs : List α} {lo hi : Option Int} : (cutL xs lo hi).length ≤ xs.length := by
  unfold cutL
  rw [List.length_take, List.length_drop]
  omega
theorem p_runC {n : Nat} {b : FS} {ds : List D} (h : (b (startD n ds) (o :: (T ++ []))).F ⟨fun _ S1 => (closeD false (T.length + 1) (.v .non) S1).P Q, fun d S1 => (closeD false (T.length + 1) d S1).P Q, fun _ _ => False, fun _ _ => False⟩) : (runF n false b ds (o :: T)).P Q := by
  rw [List.append_nil] at h
  exact p_run h
theorem c_ret {p : P} (h : Q (.v p) (o :: T)) : (closeD false (T.length + 1) (.v p) (o :: (T ++ B))).P Q := by
  refine p_closeV ?_
  rw [bx_take rfl]
  exact h
theorem c_retL {ps : List P} (h1 : B[j]? = some (.lst ps)) (h : Q (.v (.lst ps)) (o :: T)) : (closeD false (T.length + 1) (.r (bx T j)) (o :: (T ++ B))).P Q := by
  refine p_closeR (ps := ps) (by unfold bx; omega) (by rw [bx_get]; exact h1) ?_
  rw [bx_take rfl]
  exact h
end
local macro_rules | `(tactic| trivial) => `(tactic| first
  | with_reducible refine s_Seq ?_
  | with_reducible refine s_Set ?_
  | with_reducible refine s_If ?_
  | with_reducible refine s_Drop ?_
  | with_reducible refine s_Ret ?_
  | with_reducible refine s_Par ?_
  | with_reducible refine s_For ?_
  | with_reducible refine s_Nx ?_
  | with_reducible refine p_f2 ?_
  | ((with_reducible apply p_var); (exact rfl))
  | with_reducible refine p_c ?_
  | with_reducible refine p_gNm ?_
  | with_reducible refine p_gSb ?_
  | with_reducible refine p_tru ?_
  | with_reducible refine p_and ?_
  | with_reducible refine p_or ?_
  | with_reducible refine p_not ?_
  | with_reducible refine p_yes ?_
  | with_reducible refine p_ite ?_
  | with_reducible refine p_cons ?_
  | with_reducible refine p_nil ?_
  | with_reducible refine p_cb ?_
  | with_reducible refine p_cbB ?_
  | with_reducible refine p_tup ?_
  | with_reducible refine p_lst ?_
  | with_reducible refine p_lstB ?_
  | with_reducible refine p_lc ?_
  | with_reducible refine p_dc ?_
  | with_reducible refine p_sl ?_
  | with_reducible refine p_oNo ?_
  | with_reducible refine c_oAt ?_
  | with_reducible refine c_atE ?_
  | ((with_reducible apply p_slE); (first | exact rfl | exact deP_bx rfl); (exact rfl))
  | with_reducible refine p_call ?_
  | with_reducible refine p_callN ?_
  | with_reducible refine s_ParE ?_
  | with_reducible refine c_iv ?_
  | with_reducible refine c_rg ?_
  | ((with_reducible apply c_mt); (exact rfl); (exact rfl))
  | with_reducible refine c_ret ?_
  | with_reducible refine p_closeV ?_
  | with_reducible refine p_closeK ?_
  | with_reducible refine ff ?_
  | with_reducible refine tt ?_
  | with_reducible refine nff ?_
  | with_reducible refine ntt ?_
  | with_reducible refine ndt (fun _ => ?_) (fun _ => ?_)
  | with_reducible refine dt (fun _ => ?_) (fun _ => ?_)
  | ((with_reducible apply p_l2); (first | exact rfl | exact deP_bx rfl); (first | exact rfl | exact deP_bx rfl); (first | assumption | exact rfl | exact mod_ok (by omega) | exact fdiv_ok (by omega) (by omega) | exact mul_ok (by omega) (by omega) | exact pow_ok (by omega) (by omega) (by omega)))
  | ((with_reducible apply p_truE); (first | exact rfl | exact deP_bx rfl); (exact rfl))
  | ((with_reducible apply p_cbE); (repeat (first | exact a_nil | (apply a_cons; first | exact rfl | exact deP_bx rfl))); (first | assumption | exact rfl))
  | ((with_reducible apply c_cbB); (repeat (first | exact a_nil | (apply a_cons; first | exact rfl | exact deP_bx rfl))); (first | assumption | exact rfl))
  | ((with_reducible apply p_lstE); (repeat (first | exact v_nil | apply v_cons)); (focus (show _ ≤ (100000 : Nat); first | decide | (simp; done) | (simp; omega))))
  | ((with_reducible apply p_tupE); (repeat (first | exact v_nil | apply v_cons)); (focus (show _ ≤ (100000 : Nat); first | decide | (simp; done) | (simp; omega))))
  | ((with_reducible apply c_lstB); (repeat (first | exact v_nil | apply v_cons)); (focus (show _ ≤ (100000 : Nat); first | decide | (simp; done) | (simp; omega))))
  | ((with_reducible apply c_ivE); (first | exact rfl | exact seq_bx rfl))
  | ((with_reducible apply p_sbL); (exact rfl); (exact rfl)))
end DL
namespace DL
open PySem PySem.Spec PyProof.Rows L2
theorem erase_perm {α : Type} : ∀ {xs : List α} {i : Nat} (h : i < xs.length), (xs[i] :: xs.eraseIdx i).Perm xs
  | [], i, h => by simp at h
  | x :: xs, 0, _ => List.Perm.refl _
  | x :: xs, i + 1, h => by
    have h' : i < xs.length := by simpa using h
    show ((xs[i]) :: x :: xs.eraseIdx i).Perm (x :: xs)
    exact (List.Perm.swap x xs[i] _).trans ((erase_perm h').cons x)
theorem map_erase {α β : Type} (f : α → β) : ∀ (xs : List α) (i : Nat), (xs.map f).eraseIdx i = (xs.eraseIdx i).map f
  | [], _ => by simp
  | x :: xs, 0 => rfl
  | x :: xs, i + 1 => by
    show f x :: (xs.map f).eraseIdx i = f x :: (xs.eraseIdx i).map f
    rw [map_erase f xs i]
theorem app_ok {ps : List P} {S : Sto} {p : P} (hl : ps.length < 100000) : mAppend ps [.v p] S = some (.non, ps ++ [p]) := if_pos hl
end DL
namespace DL
open PySem PySem.Spec PyProof.Rows L2
variable [Tb]
abbrev FKs := List (FE × FE)
def kvF : FKs → Dnv → Sto → Oc (List (Key × P))
  | [], _, S => .ok [] S
  | (fk, fv) :: r, env, S => (fk env S).bind fun dk S1 => (fv env S1).bind fun dv S2 => match dk, dv with
    | .v pk, .v pv => match pKey pk with
      | some k => (kvF r env S2).bind fun kvs S3 => .ok ((k, pv) :: kvs) S3
      | none => .bad
    | _, _ => .bad
def mergeP (kvs : List (Key × P)) : List Key × List P := kvs.foldl (fun a kv => putP a.1 a.2 kv.1 kv.2) ([], [])
def fDicB (l : FKs) : FE := fun env S => (kvF l env S).bind fun kvs S1 => if kvs.length ≤ 15 then .ok (.r S1.length) (S1 ++ [.dic (mergeP kvs).1 (mergeP kvs).2]) else .bad
def trsOf (K : PySem.W.Frag) (l : FKs) : List (TE × TE) := l.map fun p => (TD K p.1, TD K p.2)
section
variable {K : PySem.W.Frag}
theorem kv_ok {σ : L2.St} {env : Dnv} : ∀ {l : FKs} {m : Mp} {H : Hp} {S S' : Sto} {kvs : List (Key × P)} {Q : List (V × V) → Hp → Prop}, Rel K m H S → EnvIs K m (mask m H) σ env → kvF l env S = .ok kvs S' →
    (∀ m' H' vs, Stp m H m' H' → Rel K m' H' S' → IsAll K (mask m' H') (kvs.map (·.2)) vs → Q (((kvs.map (·.1)).zip vs).map fun kv => (kV kv.1, kv.2)) H') → tPairs (trsOf K l) σ H Q
  | [], m, H, S, S', kvs, Q, R, E, e, q => by
    cases e
    exact q m H [] (Stp.refl m H) R rfl
  | (fk, fv) :: r, m, H, S, S', kvs, Q, R, E, e, q => by
    obtain ⟨dk, S1, k1, e2⟩ := Oc.bind_eq e
    obtain ⟨dv, S2, k2, e3⟩ := Oc.bind_eq e2
    refine ⟨m, env, S, R, E, dk, S1, k1, fun x m1 H1 st1 R1 i1 => ⟨m1, env, S1, R1, E.step st1, dv, S2, k2, fun y m2 H2 st2 R2 i2 => ?_⟩⟩
    split at e3
    · rename_i pk pv
      split at e3
      · rename_i k hk
        obtain ⟨kvs', S3, k3, e4⟩ := Oc.bind_eq e3
        cases e4
        refine kv_ok R2 ((E.step st1).step st2) k3 fun m3 H3 vs st3 R3 i3 => ?_
        have ex : x = kV k := pKey_is (isR_val (show Is K (mask m1 H1) pk x from i1)) hk
        rw [ex]
        exact q m3 H3 (y :: vs) ((st1.trans st2).trans st3) R3 ⟨y, vs, rfl, st3.val i2, i3⟩
      · cases e3
    · cases e3
theorem merge_is {G : Hp} : ∀ {kvs : List (Key × P)} {vs : List V} {ks : List Key} {ps : List P} {xs : List V}, IsAll K G (kvs.map (·.2)) vs → ks.length = xs.length → ks.Nodup → IsAll K G ps xs →
    ∃ ys, mergeK (ks.zip xs) ((kvs.map (·.1)).zip vs) = (kvs.foldl (fun a kv => putP a.1 a.2 kv.1 kv.2) (ks, ps)).1.zip ys ∧ (kvs.foldl (fun a kv => putP a.1 a.2 kv.1 kv.2) (ks, ps)).1.length = ys.length ∧ (kvs.foldl (fun a kv => putP a.1 a.2 kv.1 kv.2) (ks, ps)).1.Nodup ∧ IsAll K G (kvs.foldl (fun a kv => putP a.1 a.2 kv.1 kv.2) (ks, ps)).2 ys
  | [], vs, ks, ps, xs, h, h1, h2, h3 => by
    cases h
    exact ⟨xs, rfl, h1, h2, h3⟩
  | (k, p) :: r, vs, ks, ps, xs, h, h1, h2, h3 => by
    obtain ⟨v, us, rfl, h4, h5⟩ := h
    obtain ⟨ys, b1, b2, b3, b4, _⟩ := put_is (k := k) h4 h1 h2 h3
    obtain ⟨zs, c1, c2, c3, c4⟩ := merge_is (kvs := r) h5 b2 b3 b4
    refine ⟨zs, ?_, c2, c3, c4⟩
    refine Eq.trans ?_ c1
    show mergeK (putK (ks.zip xs) k v) ((r.map (·.1)).zip us) = _
    rw [b1]
theorem dic_walk {l : FKs} {σ : L2.St} {H : Hp} {Q : VK} {m : Mp} {env : Dnv} {S S' : Sto} {kvs : List (Key × P)} (R : Rel K m H S) (E : EnvIs K m (mask m H) σ env) (k1 : kvF l env S = .ok kvs S') (hl : kvs.length ≤ 15)
    (q : ∀ p ys l2 c2 H2, p ∉ m.h → Wk m H ⟨l2, p :: m.h, c2⟩ H2 → (∀ b, b ∈ m.h → H2 b = H b) → Rel K ⟨l2, p :: m.h, c2⟩ H2 S' → H2 p = some (.dK ((mergeP kvs).1.zip ys)) → (mergeP kvs).1.length = ys.length → (mergeP kvs).1.Nodup → IsAll K (mask ⟨l2, p :: m.h, c2⟩ H2) (mergeP kvs).2 ys → Q (.ref p) H2) :
    tDisp (trsOf K l) σ H Q := by
  intro p hp
  have Rh := R.hide (o := .dK []) hp
  have emk := mask_hide (m := m) (o := .dK []) hp
  have hpm := R.out hp
  have Eh : EnvIs K (m.hide p) (mask (m.hide p) (upd H p (.dK []))) σ env := by
    rw [emk]
    exact ⟨E.len, fun i d z => by
      obtain ⟨v, h1, h2⟩ := E.get i d z
      exact ⟨v, h1, IsD.mono (m := m) (m' := m.hide p) (G := mask m H) (G' := mask m H) (fun _ _ h => h) (fun _ _ h => h) (fun _ h => h) h2⟩⟩
  refine kv_ok Rh Eh k1 fun m2 H2 vs st2 R2 i2 => ?_
  have hph : p ∈ m2.h := by rw [st2.hh]; exact List.mem_cons_self ..
  have eD : H2 p = some (.dK []) := by
    rw [st2.hk p (List.mem_cons_self ..)]
    exact upd_same
  have hlen : ((kvs.map (·.1)).zip vs).length ≤ 15 := by
    rw [List.length_zip, List.length_map]
    omega
  refine ⟨eD, (kvs.map (·.1)).zip vs, rfl, hlen, ?_⟩
  obtain ⟨ys, b1, b2, b3, b4⟩ := merge_is (ks := []) (ps := []) (xs := []) i2 rfl List.nodup_nil (show IsAll K _ [] [] from rfl)
  have b1' : mergeK [] ((kvs.map (·.1)).zip vs) = (mergeP kvs).1.zip ys := b1
  rw [b1']
  have R3 := R2.hidden (o := .dK ((mergeP kvs).1.zip ys)) hph
  have em := mask_hid (m := m2) (H := H2) (o := .dK ((mergeP kvs).1.zip ys)) hph
  obtain ⟨l2, h2, c2⟩ := m2
  have hh : h2 = p :: m.h := st2.hh
  subst hh
  refine q p ys l2 c2 _ (fun z => hpm (.inr (.inl z))) ⟨fun r a h => st2.ext r a h, fun b o z => ?_, st2.co⟩ (fun b hb => ?_) R3 upd_same b2 b3 (by rw [em]; exact b4)
  · rw [em]
    exact st2.ex b o (by rw [emk]; exact z)
  · have hne : b ≠ p := fun z => hpm (.inr (.inl (z ▸ hb)))
    rw [upd_ne hne, st2.hk b (List.mem_cons_of_mem _ hb), upd_ne hne]
theorem dic_box {l : FKs} {σ : L2.St} {H : Hp} {Q : VK} (h : TD K (fDicB l) σ H Q) : tDisp (trsOf K l) σ H Q := by
  obtain ⟨m, env, S, R, E, d, S', e1, q⟩ := h
  obtain ⟨kvs, S1, k1, e2⟩ := Oc.bind_eq e1
  split at e2
  · rename_i hl
    cases e2
    refine dic_walk R E k1 hl fun p ys l2 c2 H2 hp w hk R2 e2 hl2 hn2 i2 => ?_
    obtain ⟨R3, em⟩ := R2.boxO (x := .dic (mergeP kvs).1 (mergeP kvs).2) hp fun m' em => ⟨ys, e2, hl2, hn2, by rw [em]; exact i2⟩
    refine q (.ref p) ⟨l2 ++ [p], m.h, c2⟩ H2 ⟨fun r a h => ?_, fun b o z => by rw [em]; exact w.ex b o z, rfl, hk, w.co⟩ R3 ⟨p, rfl, ?_⟩
    · have := w.ext r a h
      have hlt : r < l2.length := lt_of_at this
      show (l2 ++ [p])[r]? = some a
      rw [List.getElem?_append_left hlt]
      exact this
    · show (l2 ++ [p])[S1.length]? = some p
      have hlen : l2.length = S1.length := R2.len
      rw [List.getElem?_append_right (by omega), hlen, Nat.sub_self]
      rfl
  · cases e2
end
section
variable {X : Cx} {pos : Pos} {keys : List (Option Expr)} {values : List Expr} {l : FKs}
abbrev PKv (X : Cx) (pos : Pos) (keys : List (Option Expr)) (values : List Expr) (l : FKs) : Prop := PPs X pos keys values (trsOf X.K l)
theorem kv_nil : PKv X pos [] [] [] := pps_nil
theorem kv_cons {k v : Expr} {fk fv : FE} (hk : PEd X k fk) (hv : PEd X v fv) (hr : PKv X pos keys values l) : PKv X pos (some k :: keys) (v :: values) ((fk, fv) :: l) := pps_cons hk hv hr
theorem d_dicB (h : PKv X pos keys values l) (hall : keys.all (·.isSome) = true := by rfl) (hl : keys.length = values.length := by rfl) (h0 : keys ≠ [] := by simp) (h15 : keys.length ≤ 15 := by decide) : PEd X (.Dict keys values pos) (fDicB l) := pe_weak (pe_disp h hall hl h0 h15) fun _ _ _ => dic_box
end
end DL
namespace DL
open PySem PySem.Spec PyProof.Rows L2
section
variable {α : Type} {g : FG} {t : FT} {e : FE} {env : Dnv} {S : Sto} {own : Own} {xs : List α} {f hh : α → P} {Q : List P → Sto → Prop}
theorem lc_pure (q : α → Prop) [DecidablePred q] (ho : OwnOk own (xs.map f) S) (hl : xs.length < 100000)
    (hs : ∀ x ∈ xs, (g (.v (f x)) env S).P fun env1 S1 => (t env1 S1).P fun b S2 => S2 = S ∧ (b = true ↔ q x) ∧ (b = true → (e env1 S).P fun d S3 => S3 = S ∧ d = .v (hh x)))
    (hd : Q ((xs.filter fun x => decide (q x)).map hh) S) : (lcF own (xs.map f) g t e env (xs.map f) S []).P Q := by
  refine p_Lc (fun i S' acc => S' = S ∧ acc = ((xs.take i).filter fun x => decide (q x)).map hh) ⟨rfl, by simp⟩ (fun i S' acc h => by rw [h.1]; exact ho) ?_ ?_
  · rintro i p S' acc hi ⟨rfl, rfl⟩
    rw [List.getElem?_map] at hi
    obtain ⟨x, hx, rfl⟩ := Option.map_eq_some_iff.mp hi
    have hm := List.mem_of_getElem? hx
    have e2 : xs.take (i + 1) = xs.take i ++ [x] := by
      rw [List.take_add_one, hx]
      rfl
    refine ⟨?_, (hs x hm).mono fun env1 S1 h => h.mono fun b S2 h => ?_⟩
    · rw [List.length_map]
      have := List.length_filter_le (fun x => decide (q x)) (xs.take i)
      rw [List.length_take] at this
      omega
    obtain ⟨rfl, h1, h2⟩ := h
    refine ⟨fun hb => (h2 hb).mono fun d S3 h3 => ?_, fun hb => ⟨rfl, ?_⟩⟩
    · obtain ⟨rfl, rfl⟩ := h3
      refine ⟨_, rfl, rfl, ?_⟩
      rw [e2, List.filter_append, List.map_append, List.filter_cons, if_pos (decide_eq_true (h1.mp hb))]
      rfl
    · rw [e2, List.filter_append, List.map_append, List.filter_cons, if_neg (by
        rw [decide_eq_true_eq]
        intro hq
        rw [h1.mpr hq] at hb
        cases hb)]
      simp
  · rintro S' acc ⟨rfl, rfl⟩
    rw [List.length_map, List.take_length]
    exact hd
theorem lc_some (J : Nat → Sto → Prop) (h0 : J 0 S) (ho : ∀ i S, J i S → OwnOk own (xs.map f) S) (hl : xs.length < 100000)
    (hs : ∀ i x S, xs[i]? = some x → J i S → (g (.v (f x)) env S).P fun env1 S1 => (t env1 S1).P fun b S2 => (b = true → (e env1 S2).P fun d S3 => d = .v (hh x) ∧ J (i + 1) S3) ∧ (b = false → J (i + 1) S2))
    (hd : ∀ (ys : List α) (S : Sto), ys.Sublist xs → J xs.length S → Q (ys.map hh) S) : (lcF own (xs.map f) g t e env (xs.map f) S []).P Q := by
  refine p_Lc (fun i S acc => ∃ ys : List α, acc = ys.map hh ∧ ys.Sublist (xs.take i) ∧ J i S) ⟨[], rfl, List.nil_sublist _, h0⟩ (fun i S acc ⟨_, _, _, h⟩ => ho i S h) ?_ ?_
  · rintro i p S acc hi ⟨ys, rfl, hsub, hJ⟩
    rw [List.getElem?_map] at hi
    obtain ⟨x, hx, rfl⟩ := Option.map_eq_some_iff.mp hi
    have e2 : xs.take (i + 1) = xs.take i ++ [x] := by
      rw [List.take_add_one, hx]
      rfl
    refine ⟨?_, (hs i x S hx hJ).mono fun env1 S1 h => h.mono fun b S2 h => ⟨fun hb => (h.1 hb).mono fun d S3 h3 => ?_, fun hb => ?_⟩⟩
    · rw [List.length_map]
      have := hsub.length_le
      rw [List.length_take] at this
      omega
    · obtain ⟨rfl, h4⟩ := h3
      exact ⟨_, rfl, ys ++ [x], by simp, by rw [e2]; exact hsub.append (List.Sublist.refl _), h4⟩
    · exact ⟨ys, rfl, by rw [e2]; exact hsub.trans (List.sublist_append_left _ _), h.2 hb⟩
  · rintro S acc ⟨ys, rfl, hsub, hJ⟩
    rw [List.length_map] at hsub hJ
    rw [List.take_length] at hsub
    exact hd ys S hsub hJ
end
noncomputable def srt (ps : List P) : List P := ps.mergeSort (PySem.W.dataLe false pyOf)
theorem srt_perm (ps : List P) : (srt ps).Perm ps := List.mergeSort_perm ps _
theorem le_total (a b : P) : (PySem.W.dataLe false pyOf a b || PySem.W.dataLe false pyOf b a) = true := Bool.or_eq_true_iff.mpr ((PySem.W.sortLe_total (PyProof.Rows.listOrd itemOrd) false fun b => PySem.W.keyToks (pyOf b)).total a b)
theorem le_trans (a b c : P) (h1 : PySem.W.dataLe false pyOf a b = true) (h2 : PySem.W.dataLe false pyOf b c = true) : PySem.W.dataLe false pyOf a c = true := (PySem.W.sortLe_total (PyProof.Rows.listOrd itemOrd) false fun b => PySem.W.keyToks (pyOf b)).trans a b c h1 h2
theorem srt_sorted (ps : List P) : (srt ps).Pairwise fun a b => PySem.W.dataLe false pyOf a b = true := List.pairwise_mergeSort le_trans le_total ps
def Cmp (ps : List P) : Prop := (∀ p ∈ ps, pl p = true) ∧ ∀ p ∈ ps, ∀ q ∈ ps, PySem.W.alike (pyOf p) (pyOf q) = true
theorem py_of {p : P} (h : pl p = true) : toPy p = some (pyOf p) := by
  obtain ⟨d, h1, _⟩ := pl_py p h
  unfold pyOf
  rw [h1]
  rfl
theorem le_anti {p q : P} (hp : pl p = true) (hq : pl q = true) (ha : PySem.W.alike (pyOf p) (pyOf q) = true) (h1 : PySem.W.dataLe false pyOf p q = true) (h2 : PySem.W.dataLe false pyOf q p = true) : p = q := by
  have k1 : (!PyProof.Rows.lexLt itemOrd (PySem.W.keyToks (pyOf q)) (PySem.W.keyToks (pyOf p))) = true := h1
  have k2 : (!PyProof.Rows.lexLt itemOrd (PySem.W.keyToks (pyOf p)) (PySem.W.keyToks (pyOf q))) = true := h2
  rw [Bool.not_eq_true'] at k1 k2
  have ek : PySem.W.keyToks (pyOf p) = PySem.W.keyToks (pyOf q) := (PyProof.Rows.listOrd itemOrd).total _ _ k2 k1
  have e := pl_eqv p q _ _ hp hq (py_of hp) (py_of hq)
  cases hE : PyData.eqv (pyOf p) (pyOf q) with
  | true => exact e.mp hE
  | false =>
    exfalso
    have := (PySem.W.toks_eqv _ _ ha).2 hE [.inl 0] [.inl 1]
    rw [ek, PySem.W.lex_pre, PyProof.Rows.lex_irrefl] at this
    revert this
    decide
theorem sorted_unique {le : P → P → Bool} : ∀ {xs ys : List P}, xs.Perm ys → xs.Pairwise (fun a b => le a b = true) → ys.Pairwise (fun a b => le a b = true) → (∀ a ∈ xs, ∀ b ∈ xs, le a b = true → le b a = true → a = b) → xs = ys
  | [], ys, h, _, _, _ => by rw [List.nil_perm.mp h]
  | x :: xs, [], h, _, _, _ => by cases h.length_eq
  | x :: xs, y :: ys, h, h1, h2, ha => by
    have hy : y ∈ x :: xs := h.mem_iff.mpr (List.mem_cons_self ..)
    have hx : x ∈ y :: ys := h.mem_iff.mp (List.mem_cons_self ..)
    have e : x = y := by
      rcases List.mem_cons.mp hy with e | hy'
      · exact e.symm
      · rcases List.mem_cons.mp hx with e | hx'
        · exact e
        · exact ha x (List.mem_cons_self ..) y hy ((List.pairwise_cons.mp h1).1 y hy') ((List.pairwise_cons.mp h2).1 x hx')
    subst e
    rw [sorted_unique (xs := xs) (ys := ys) (List.Perm.cons_inv h) (List.pairwise_cons.mp h1).2 (List.pairwise_cons.mp h2).2 fun a hA b hB => ha a (List.mem_cons_of_mem _ hA) b (List.mem_cons_of_mem _ hB)]
theorem srt_eq {ps qs : List P} (h : ps.Perm qs) (hc : Cmp ps) : srt ps = srt qs := by
  refine sorted_unique (le := PySem.W.dataLe false pyOf) (((srt_perm ps).trans h).trans (srt_perm qs).symm) (srt_sorted ps) (srt_sorted qs) fun a ha b hb => ?_
  have ha := (srt_perm ps).mem_iff.mp ha
  have hb := (srt_perm ps).mem_iff.mp hb
  exact le_anti (hc.1 a ha) (hc.1 b hb) (hc.2 a ha b hb)
theorem pyAll_of : ∀ {ps : List P}, (∀ p ∈ ps, pl p = true) → toPys ps = some (ps.map pyOf)
  | [], _ => rfl
  | p :: ps, h => by
    simp [toPys, py_of (h p (List.mem_cons_self ..)), pyAll_of (ps := ps) fun q hq => h q (List.mem_cons_of_mem _ hq)]
def stP (xs : List Str) : P := .tup (xs.map P.str)
theorem pl_st {xs : List Str} (h : ∀ x ∈ xs, PyData.strOk x = true) : Pl 1 (stP xs) := pl_tup fun q hq => by
  obtain ⟨x, hx, rfl⟩ := List.mem_map.mp hq
  exact pl_str (h x hx)
theorem py_st (xs : List Str) : pyOf (stP xs) = .tuple (xs.map .str) := by
  unfold pyOf
  rw [show toPy (stP xs) = some (.tuple (xs.map .str)) by simp [stP, toPy, toPys_strs]]
  rfl
theorem cmp_st {xss : List (List Str)} (h : ∀ xs ∈ xss, ∀ x ∈ xs, PyData.strOk x = true) : Cmp (xss.map stP) := ⟨fun p hp => by
    obtain ⟨xs, hx, rfl⟩ := List.mem_map.mp hp
    exact (pl_st (h xs hx)).1, fun p hp q hq => by
    obtain ⟨xs, hx, rfl⟩ := List.mem_map.mp hp
    obtain ⟨ys, hy, rfl⟩ := List.mem_map.mp hq
    rw [py_st, py_st]
    simp [PySem.W.alike, alike_strs]⟩
theorem sorted_st {xss : List (List Str)} (h : ∀ xs ∈ xss, ∀ x ∈ xs, PyData.strOk x = true) (hn : ∀ xs ∈ xss, xs ≠ []) (hl : xss.length ≤ 100000) : bSorted [.lst (xss.map stP)] = some (.lst (srt (xss.map stP))) := by
  have hc := cmp_st h
  refine sorted_of (pyAll_of hc.1) ?_ ?_ (by simpa using hl) ?_
  · unfold alikeB
    simp only [List.all_eq_true, List.mem_map]
    rintro _ ⟨p, hp, rfl⟩ _ ⟨q, hq, rfl⟩
    exact hc.2 p (by simpa using hp) q (by simpa using hq)
  · unfold sortableB
    rw [Bool.or_eq_true]
    left
    simp only [List.all_eq_true, List.mem_map]
    rintro _ ⟨p, ⟨xs, hx, rfl⟩, rfl⟩
    rw [py_st]
  · simp only [List.mem_map]
    rintro _ ⟨p, ⟨xs, hx, rfl⟩, rfl⟩
    rw [py_st]
    have dep : ∀ xs : List Str, PyData.depthAll (xs.map PyData.str) = 0 := fun xs => by
      induction xs with
      | nil => rfl
      | cons x xs ih => simp [PyData.depthAll, PyData.depth, ih]
    show PyData.depthAll _ + 1 ≤ 64
    rw [dep]
    omega
end DL
namespace DL
open PySem PySem.Spec PyProof.Rows L2
theorem of_P {α : Type} {o : Oc α} {a : α} {S : Sto} (h : o.P fun b S2 => b = a ∧ S2 = S) : o = .ok a S := by
  cases o with
  | ok b S2 => rw [h.1, h.2]
  | bad => exact h.elim
section
variable {f g h fk : FE} {ga gb : FA} {t u : FT} {env env1 env2 : Dnv} {S S1 S2 S3 : Sto} {d e r : D} {ds es : List D} {p q v w : P} {a b : Bool}
theorem e_c : fC d env S = .ok d S := rfl
theorem e_var {i : Nat} (h : env[i]? = some (some d)) : fVar i env S = .ok d S := by
  unfold fVar
  rw [h]
theorem e_f2 {op : P → P → Option P} (h1 : f env S = .ok d S1) (h2 : g env S1 = .ok e S2) (h3 : lift2 op d e S2 = .ok r S3) : f2 op f g env S = .ok r S3 := by
  unfold f2
  rw [h1]
  simp only [Oc.bind_ok]
  rw [h2]
  exact h3
theorem e_l2 {op : P → P → Option P} (h1 : deP S d = some p) (h2 : deP S e = some q) (h3 : op p q = some v) : lift2 op d e S = .ok (.v v) S := by
  unfold lift2
  rw [h1]
  show (match deP S e with | some q => oP (op p q) S | none => .bad : Oc D) = _
  rw [h2]
  show oP (op p q) S = _
  rw [h3]
  rfl
theorem e_f1 {op : P → Option P} (h1 : f env S = .ok d S1) (h2 : deP S1 d = some p) (h3 : op p = some v) : f1 op f env S = .ok (.v v) S1 := by
  unfold f1
  rw [h1]
  show lift1 op d S1 = _
  unfold lift1
  rw [h2]
  show oP (op p) S1 = _
  rw [h3]
  rfl
theorem e_nil : fNil env S = .ok [] S := rfl
theorem e_cons (h1 : f env S = .ok d S1) (h2 : ga env S1 = .ok ds S2) : fCons f ga env S = .ok (d :: ds) S2 := by
  unfold fCons
  rw [h1]
  simp only [Oc.bind_ok]
  rw [h2]
  rfl
theorem onVals_E {k : List P → Sto → Oc D} {ps : List P} (h : vals ds = some ps) (hl : ps.length ≤ 100000) : onVals k ds S = k ps S := by
  unfold onVals
  rw [h]
  show (if _ then _ else _ : Oc D) = _
  rw [if_pos hl]
theorem e_tup (h1 : ga env S = .ok ds S1) {ps : List P} (h2 : vals ds = some ps) (h3 : ps.length ≤ 100000) : fTup ga env S = .ok (.v (.tup ps)) S1 := by
  unfold fTup
  rw [h1]
  exact onVals_E h2 h3
theorem e_lst (h1 : ga env S = .ok ds S1) {ps : List P} (h2 : vals ds = some ps) (h3 : ps.length ≤ 100000) : fLst ga env S = .ok (.v (.lst ps)) S1 := by
  unfold fLst
  rw [h1]
  exact onVals_E h2 h3
theorem e_lstB {o : Ob} {T B : Sto} (h1 : ga env S = .ok ds (o :: (T ++ B))) {ps : List P} (h2 : vals ds = some ps) (h3 : ps.length ≤ 100000) : fLstB ga env S = .ok (.r (bx T B.length)) (o :: (T ++ (B ++ [.lst ps]))) := by
  unfold fLstB
  rw [h1]
  show onVals (fun ps S1 => .ok (.r S1.length) (S1 ++ [.lst ps])) ds (o :: (T ++ B)) = _
  rw [onVals_E h2 h3, bx_put, bx_len]
theorem e_cb {op : List P → Option P} {ps : List P} (h1 : ga env S = .ok ds S1) (h2 : deAll S1 ds = some ps) (h3 : op ps = some v) : fCb op ga env S = .ok (.v v) S1 := by
  show (ga env S).bind _ = _
  rw [h1]
  show (match deAll S1 ds with | some ps => oP (op ps) S1 | none => .bad : Oc D) = _
  rw [h2]
  show oP (op ps) S1 = _
  rw [h3]
  rfl
theorem e_cbB {op : List P → Option P} {ps qs : List P} {o : Ob} {T B : Sto} (h1 : ga env S = .ok ds (o :: (T ++ B))) (h2 : deAll (o :: (T ++ B)) ds = some ps) (h3 : op ps = some (.lst qs)) : fCbB op ga env S = .ok (.r (bx T B.length)) (o :: (T ++ (B ++ [.lst qs]))) := by
  show (ga env S).bind _ = _
  rw [h1]
  show (match deAll (o :: (T ++ B)) ds with | some ps => oB (op ps) (o :: (T ++ B)) | none => .bad : Oc D) = _
  rw [h2]
  show oB (op ps) (o :: (T ++ B)) = _
  rw [h3]
  show Oc.ok (D.r (o :: (T ++ B)).length) ((o :: (T ++ B)) ++ [.lst qs]) = _
  rw [bx_put, bx_len]
theorem e_oNo : oNo env S = .ok none S := rfl
theorem e_oAt {i : Int} (h1 : f env S = .ok (.v (.int i)) S1) : oAt f env S = .ok (some i) S1 := by
  unfold oAt
  rw [h1]
  rfl
theorem e_sl {lo hi : FO} {l m : Option Int} (h1 : f env S = .ok d S1) (h2 : lo env S1 = .ok l S2) (h3 : hi env S2 = .ok m S3) (h4 : deP S3 d = some p) (h5 : pSl p l m = some q) : fSl f lo hi env S = .ok (.v q) S3 := by
  unfold fSl
  rw [h1]
  simp only [Oc.bind_ok]
  rw [h2]
  simp only [Oc.bind_ok]
  rw [h3]
  show (match deP S3 d with | some p => oP (pSl p l m) S3 | none => .bad : Oc D) = _
  rw [h4]
  show oP (pSl p l m) S3 = _
  rw [h5]
  rfl
theorem e_tru (h1 : f env S = .ok d S1) (h2 : deP S1 d = some p) (h3 : truP p = some a) : fTru f env S = .ok a S1 := by
  unfold fTru
  rw [h1]
  show (match deP S1 d with | some p => (match truP p with | some b => .ok b S1 | none => .bad) | none => .bad : Oc Bool) = _
  rw [h2]
  show (match truP p with | some b => .ok b S1 | none => .bad : Oc Bool) = _
  rw [h3]
theorem e_yes : fYes env S = .ok true S := rfl
theorem e_and (h1 : t env S = .ok a S) (h2 : a = true → u env S = .ok b S) : fAnd t u env S = .ok (a && b) S := by
  unfold fAnd
  rw [h1]
  cases a with
  | true => exact (h2 rfl).trans (by rfl)
  | false => rfl
theorem e_or (h1 : t env S = .ok a S) (h2 : a = false → u env S = .ok b S) : fOr t u env S = .ok (a || b) S := by
  unfold fOr
  rw [h1]
  cases a with
  | true => rfl
  | false => exact (h2 rfl).trans (by rfl)
theorem e_not (h1 : t env S = .ok a S1) : fNot t env S = .ok (!a) S1 := by
  unfold fNot
  rw [h1]
  rfl
theorem e_ite (h1 : t env S = .ok a S) (h2 : a = true → f env S = .ok (.v p) S) (h3 : a = false → g env S = .ok (.v q) S) : fIte t f g env S = .ok (.v (if a = true then p else q)) S := by
  unfold fIte
  rw [h1]
  cases a with
  | true => exact h2 rfl
  | false => exact h3 rfl
theorem e_iteB {o : Ob} {T B : Sto} {ps qs : List P} (h1 : t env (o :: (T ++ B)) = .ok a (o :: (T ++ B))) (h2 : a = true → fLstB ga env (o :: (T ++ B)) = .ok (.r (bx T B.length)) (o :: (T ++ (B ++ [.lst ps])))) (h3 : a = false → fLstB gb env (o :: (T ++ B)) = .ok (.r (bx T B.length)) (o :: (T ++ (B ++ [.lst qs])))) :
    fIte t (fLstB ga) (fLstB gb) env (o :: (T ++ B)) = .ok (.r (bx T B.length)) (o :: (T ++ (B ++ [.lst (if a = true then ps else qs)]))) := by
  unfold fIte
  rw [h1]
  cases a with
  | true => exact h2 rfl
  | false => exact h3 rfl
theorem e_andV (h1 : f env S = .ok (.v (.bl a)) S) (h2 : a = true → g env S = .ok (.v (.bl b)) S) : fAndV f g env S = .ok (.v (.bl (a && b))) S := by
  unfold fAndV
  rw [h1]
  cases a with
  | true => exact (h2 rfl).trans (by rfl)
  | false => rfl
theorem e_orV (h1 : f env S = .ok (.v (.bl a)) S) (h2 : a = false → g env S = .ok (.v (.bl b)) S) : fOrV f g env S = .ok (.v (.bl (a || b))) S := by
  unfold fOrV
  rw [h1]
  cases a with
  | true => rfl
  | false => exact (h2 rfl).trans (by rfl)
theorem e_notV (h1 : f env S = .ok (.v (.bl a)) S1) : fNotV f env S = .ok (.v (.bl (!a))) S1 := by
  unfold fNotV
  rw [h1]
  rfl
theorem e_call {G : FF} {dv : List D} (h1 : ga env S = .ok ds S1) (h2 : G (ds ++ dv) S1 = .ok r S2) : fCall G dv ga env S = .ok r S2 := by
  unfold fCall
  rw [h1]
  exact h2
theorem e_callN {G : FF} {n k : Nat} {gd : List D → List D → List D} (h1 : ga env S = .ok ds S1) (h2 : gb env S1 = .ok es S2) (h3 : ds.length = n ∧ es.length = k) (h4 : G (gd ds es) S2 = .ok r S3) : fCallN G n k gd ga gb env S = .ok r S3 := by
  unfold fCallN
  rw [h1]
  simp only [Oc.bind_ok]
  rw [h2]
  show (if _ then _ else _ : Oc D) = _
  rw [if_pos h3]
  exact h4
theorem e_gNm {i : Nat} : gNm i d env S = .ok (env.set i (some d)) S := rfl
theorem e_gNl : gNl [] env S = .ok env S := rfl
theorem e_gCn {k : FG} {m : FGs} {ps : List P} (h1 : k (.v p) env S = .ok env1 S1) (h2 : m ps env1 S1 = .ok env2 S2) : gCn k m (p :: ps) env S = .ok env2 S2 := by
  unfold gCn
  show (k (.v p) env S).bind _ = _
  rw [h1]
  exact h2
theorem e_gTp {n : Nat} {k : FGs} {ps : List P} (hl : ps.length = n) (h : k ps env S = .ok env1 S1) : gTp n k (.v (.tup ps)) env S = .ok env1 S1 := by
  unfold gTp
  show (if _ then _ else _ : Oc Dnv) = _
  rw [if_pos hl]
  exact h
theorem e_iv {z : List P × Own} (h1 : f env S = .ok d S1) (h2 : seqOf d S1 = some z) : iVal f env S = .ok z S1 := by
  unfold iVal
  rw [h1]
  show (match seqOf d S1 with | some r => .ok r S1 | none => .bad : Oc (List P × Own)) = _
  rw [h2]
theorem e_rg {n : Int} (h1 : ga env S = .ok [.v (.int n)] S1) (h2 : -1000000 ≤ n) (h3 : n ≤ 1000000) : iR1 ga env S = .ok ((List.range n.toNat).map (fun i : Nat => P.int (i : Int)), none) S1 := by
  unfold iR1
  rw [h1]
  show (if _ then _ else _ : Oc (List P × Own)) = _
  rw [if_pos ⟨h2, h3⟩]
  congr 2
  exact List.map_congr_left fun i _ => by rw [Int.zero_add]
theorem e_rg2 {m n : Int} (h1 : ga env S = .ok [.v (.int m), .v (.int n)] S1) (h2 : (-1000000 ≤ m ∧ m ≤ 1000000) ∧ (-1000000 ≤ n ∧ n ≤ 1000000)) : iR2 ga env S = .ok ((List.range (n - m).toNat).map (fun i : Nat => P.int (m + i)), none) S1 := by
  unfold iR2
  rw [h1]
  show (if _ then _ else _ : Oc (List P × Own)) = _
  rw [if_pos h2]
end
structure BodyE (g : FG) (t : FT) (e : FE) (env : Dnv) (S : Sto) (p : P) (b : Bool) (r : P) : Prop where
  ex : ∃ env1, g (.v p) env S = .ok env1 S ∧ t env1 S = .ok b S ∧ (b = true → e env1 S = .ok (.v r) S)
theorem e_body {g : FG} {t : FT} {e : FE} {env env1 : Dnv} {S : Sto} {p r : P} {b : Bool} (h1 : g (.v p) env S = .ok env1 S) (h2 : t env1 S = .ok b S) (h3 : b = true → e env1 S = .ok (.v r) S) : BodyE g t e env S p b r := ⟨env1, h1, h2, h3⟩
section
variable {α : Type} {it : FI} {g : FG} {t : FT} {e fk : FE} {vs : List Nat} {env : Dnv} {S S1 : Sto} {own : Own} {xs : List α} {f hh : α → P} {q : α → Bool}
theorem lcF_E (ho : OwnOk own (xs.map f) S) (hl : xs.length < 100000) (hs : ∀ x ∈ xs, BodyE g t e env S (f x) (q x) (hh x)) : lcF own (xs.map f) g t e env (xs.map f) S [] = .ok ((xs.filter q).map hh) S := by
  refine of_P ?_
  refine lc_pure (fun x => q x = true) ho hl (fun x hx => ?_) ?_ (hh := hh)
  · obtain ⟨env1, h1, h2, h3⟩ := (hs x hx).ex
    exact P_of h1 (P_of h2 ⟨rfl, Iff.rfl, fun hb => P_of (h3 hb) ⟨rfl, rfl⟩⟩)
  · refine ⟨?_, rfl⟩
    congr 2
    funext x
    cases q x <;> rfl
theorem e_lc (hi : it env S = .ok (xs.map f, own) S1) (ho : OwnOk own (xs.map f) S1) (hl : xs.length < 100000) (hs : ∀ x ∈ xs, BodyE g t e (wipeE env vs) S1 (f x) (q x) (hh x)) : fLc it g t e vs env S = .ok (.v (.lst ((xs.filter q).map hh))) S1 := by
  unfold fLc
  rw [hi]
  show (lcF own (xs.map f) g t e (wipeE env vs) (xs.map f) S1 []).bind _ = _
  rw [lcF_E ho hl hs]
  rfl
theorem filter_yes : xs.filter (fun _ => true) = xs := by simp
theorem e_lcA (hi : it env S = .ok (xs.map f, own) S1) (ho : OwnOk own (xs.map f) S1) (hl : xs.length < 100000) (hs : ∀ x ∈ xs, BodyE g fYes e (wipeE env vs) S1 (f x) true (hh x)) : fLc it g fYes e vs env S = .ok (.v (.lst (xs.map hh))) S1 := by
  rw [e_lc (q := fun _ => true) hi ho hl hs, filter_yes]
theorem e_lcB {o : Ob} {T B : Sto} (hi : it env S = .ok (xs.map f, own) (o :: (T ++ B))) (ho : OwnOk own (xs.map f) (o :: (T ++ B))) (hl : xs.length < 100000) (hs : ∀ x ∈ xs, BodyE g t e (wipeE env vs) (o :: (T ++ B)) (f x) (q x) (hh x)) :
    fLcB it g t e vs env S = .ok (.r (bx T B.length)) (o :: (T ++ (B ++ [.lst ((xs.filter q).map hh)]))) := by
  unfold fLcB
  rw [hi]
  show (lcF own (xs.map f) g t e (wipeE env vs) (xs.map f) _ []).bind _ = _
  rw [lcF_E ho hl hs]
  show Oc.ok (D.r (o :: (T ++ B)).length) ((o :: (T ++ B)) ++ [.lst _]) = _
  rw [bx_put, bx_len]
structure BodyD (g : FG) (t : FT) (fk e : FE) (env : Dnv) (S : Sto) (p : P) (b : Bool) (kp : P) (k : Key) (r : P) : Prop where
  ex : ∃ env1, g (.v p) env S = .ok env1 S ∧ t env1 S = .ok b S ∧ (b = true → fk env1 S = .ok (.v kp) S ∧ pKey kp = some k ∧ e env1 S = .ok (.v r) S)
theorem e_bodyD {env1 : Dnv} {p kp r : P} {k : Key} {b : Bool} (h1 : g (.v p) env S = .ok env1 S) (h2 : t env1 S = .ok b S) (h3 : b = true → fk env1 S = .ok (.v kp) S) (h4 : b = true → pKey kp = some k) (h5 : b = true → e env1 S = .ok (.v r) S) : BodyD g t fk e env S p b kp k r := ⟨env1, h1, h2, fun hb => ⟨h3 hb, h4 hb, h5 hb⟩⟩
theorem e_dc {kk : α → Key} {kp : α → P} (hi : it env S = .ok (xs.map f, own) S1) (ho : OwnOk own (xs.map f) S1) (hl : xs.length < 10000) (hs : ∀ x ∈ xs, BodyD g t fk e (wipeE env vs) S1 (f x) (q x) (kp x) (kk x) (hh x)) (hn : ((xs.filter q).map kk).Nodup) :
    fDc it g t fk e vs env S = .ok (.v (.dic ((xs.filter q).map kk) ((xs.filter q).map hh))) S1 := by
  refine of_P ?_
  refine p_dc (P_of hi ?_)
  refine p_Dc (fun i S2 ks acc => S2 = S1 ∧ ks = ((xs.take i).filter q).map kk ∧ acc = ((xs.take i).filter q).map hh) ⟨rfl, by simp, by simp⟩ (fun i S2 ks acc h => by rw [h.1]; exact ho) ?_ ?_
  · rintro i p S2 ks acc hx ⟨rfl, rfl, rfl⟩
    have hx : (xs.map f)[i]? = some p := hx
    rw [List.getElem?_map] at hx
    obtain ⟨x, hxx, rfl⟩ := Option.map_eq_some_iff.mp hx
    clear hx
    have hx := hxx
    have hm := List.mem_of_getElem? hx
    have e2 : xs.take (i + 1) = xs.take i ++ [x] := by
      rw [List.take_add_one, hx]
      rfl
    refine ⟨?_, ?_⟩
    · rw [List.length_map]
      have := List.length_filter_le q (xs.take i)
      rw [List.length_take] at this
      omega
    obtain ⟨env1, h1, h2, h3⟩ := (hs x hm).ex
    refine P_of h1 (P_of h2 ⟨fun hb => ?_, fun hb => ?_⟩)
    · obtain ⟨h4, h5, h6⟩ := h3 hb
      refine P_of h4 (P_of h6 ⟨_, _, _, rfl, h5, rfl, rfl, ?_⟩)
      have e3 : (xs.take (i + 1)).filter q = (xs.take i).filter q ++ [x] := by
        rw [e2, List.filter_append, List.filter_cons, if_pos hb]
        rfl
      have hnew : kk x ∉ ((xs.take i).filter q).map kk := fun hmem => by
        have e4 : xs.filter q = (xs.take (i + 1)).filter q ++ (xs.drop (i + 1)).filter q := by
          rw [← List.filter_append, List.take_append_drop]
        rw [e4, e3, List.map_append, List.map_append] at hn
        have hn2 := (List.nodup_append.mp hn).1
        exact (List.nodup_append.mp hn2).2.2 _ hmem _ (by simp) rfl
      rw [put_new hnew (by simp), e3]
      exact ⟨by simp, by simp⟩
    · have e3 : (xs.take (i + 1)).filter q = (xs.take i).filter q := by
        rw [e2, List.filter_append, List.filter_cons, if_neg (by rw [hb]; decide)]
        simp
      exact ⟨rfl, by rw [e3], by rw [e3]⟩
  · rintro S2 ks acc ⟨rfl, rfl, rfl⟩
    have e3 : xs.take (xs.map f, own).1.length = xs := by
      show xs.take (xs.map f).length = xs
      rw [List.length_map, List.take_length]
    refine ⟨?_, rfl⟩
    show D.v (.dic (((xs.take (xs.map f, own).1.length).filter q).map kk) (((xs.take (xs.map f, own).1.length).filter q).map hh)) = _
    rw [e3]
end
section
variable {f : FE} {ga : FA} {g : FG} {t : FT} {a b : FS} {env env2 : Dnv} {S S1 S2 : Sto} {d : D} {k : Bool} {En : Dnv → Sto → Prop} {Er : D → Sto → Prop} {Eb Ec : Dnv → Sto → Prop}
theorem s_SetE (h1 : f env S = .ok d S1) (h2 : g d env S1 = .ok env2 S2) (h : En env2 S2) : (fSet f g env S).F ⟨En, Er, Eb, Ec⟩ := s_Set (P_of h1 (P_of h2 h))
theorem s_DropE (h1 : f env S = .ok d S1) (h : En env S1) : (fDrop f env S).F ⟨En, Er, Eb, Ec⟩ := s_Drop (P_of h1 h)
theorem s_RetE (h1 : f env S = .ok d S1) (h : Er d S1) : (fRet f env S).F ⟨En, Er, Eb, Ec⟩ := s_Ret (P_of h1 h)
theorem s_IfE (h1 : t env S = .ok k S1) (h2 : k = true → (a env S1).F ⟨En, Er, Eb, Ec⟩) (h3 : k = false → (b env S1).F ⟨En, Er, Eb, Ec⟩) : (fIf t a b env S).F ⟨En, Er, Eb, Ec⟩ := s_If (P_of h1 ⟨h2, h3⟩)
theorem s_Par2 {i j : Nat} {d e : D} (h1 : ga env S = .ok [d, e] S1) (h : En ((env.set i (some d)).set j (some e)) S1) : (fPar i j ga env S).F ⟨En, Er, Eb, Ec⟩ := s_Par (P_of h1 (s_ParE h))
theorem s_ForE {it : FI} {z : List P × Own} (h1 : it env S = .ok z S1) (h : (loopF z.2 z.1 g b z.1 env S1).F ⟨En, Er, Eb, Ec⟩) : (fFor it g b env S).F ⟨En, Er, Eb, Ec⟩ := s_For (P_of h1 h)
theorem e_run {n : Nat} {b : FS} {ds : List D} {o : Ob} {T : Sto} {r : D} (h : (b (startD n ds) (o :: (T ++ []))).F ⟨fun _ S1 => closeD false (T.length + 1) (.v .non) S1 = .ok r (o :: T), fun d S1 => closeD false (T.length + 1) d S1 = .ok r (o :: T), fun _ _ => False, fun _ _ => False⟩) : runF n false b ds (o :: T) = .ok r (o :: T) := by
  refine of_P (p_runC (Q := fun d S => d = r ∧ S = o :: T) (Flo.F.mono h ?_ ?_ ?_ ?_))
  · exact fun _ _ h => P_of (Q := fun d S => d = r ∧ S = o :: T) h ⟨rfl, rfl⟩
  · exact fun _ _ h => P_of (Q := fun d S => d = r ∧ S = o :: T) h ⟨rfl, rfl⟩
  · exact fun _ _ h => h
  · exact fun _ _ h => h
theorem e_close {o : Ob} {T B : Sto} {p : P} : closeD false (T.length + 1) (.v p) (o :: (T ++ B)) = .ok (.v p) (o :: T) := of_P (c_ret (B := B) ⟨rfl, rfl⟩)
theorem e_closeT {o : Ob} {T B : Sto} {p q : P} (h : p = q) : closeD false (T.length + 1) (.v p) (o :: (T ++ B)) = .ok (.v q) (o :: T) := h ▸ e_close
theorem e_closeLT {o : Ob} {T B : Sto} {j : Nat} {ps : List P} {q : P} (h1 : B[j]? = some (.lst ps)) (h : .lst ps = q) : closeD false (T.length + 1) (.r (bx T j)) (o :: (T ++ B)) = .ok (.v q) (o :: T) := h ▸ of_P (c_retL h1 ⟨rfl, rfl⟩)
theorem e_mt {op : MOp} {i : Nat} {o : Ob} {T B : Sto} {j : Nat} {ps qs : List P} {ds : List D} {u : P} (h : env[i]? = some (some (.r (bx T j)))) (h1 : B[j]? = some (.lst ps)) (h2 : ga env (o :: (T ++ B)) = .ok ds (o :: (T ++ B))) (h3 : op ps ds (o :: (T ++ B)) = some (u, qs)) :
    fMt op (fVar i) ga env (o :: (T ++ B)) = .ok (.v u) (o :: (T ++ B.set j (.lst qs))) := of_P (c_mt h h1 (P_of h2 (c_mtE h1 h3 ⟨rfl, rfl⟩)))
end
def OkS (x : Str) : Prop := PyData.strOk x = true ∧ PyData.strOk (reprText x) = true ∧ (reprText x).length ≤ 20
structure Nm where
  s : Str
  ok : OkS s
theorem Nm.inj {a b : Nm} (h : a.s = b.s) : a = b := by
  cases a
  cases b
  cases h
  rfl
theorem Nm.eq_iff {a b : Nm} : a = b ↔ a.s = b.s := ⟨fun h => h ▸ rfl, Nm.inj⟩
instance : DecidableEq Nm := fun a b => decidable_of_iff (a.s = b.s) Nm.eq_iff.symm
instance : Inhabited Nm := ⟨⟨"", by
  have : PyData.strOk "" = true ∧ PyData.strOk (reprText "") = true ∧ (reprText "").length ≤ 20 := by decide +kernel
  exact this⟩⟩
def nP (x : Nm) : P := .str x.s
abbrev tN (xs : List Nm) : P := .tup (xs.map nP)
abbrev lN (xs : List Nm) : P := .lst (xs.map nP)
theorem pl_nm (x : Nm) : Pl 0 (nP x) := pl_str x.ok.1
theorem pl_tN (xs : List Nm) : Pl 1 (tN xs) := pl_tup fun q hq => by
  obtain ⟨x, _, rfl⟩ := List.mem_map.mp hq
  exact pl_nm x
theorem pl_lN (xs : List Nm) : Pl 1 (lN xs) := pl_lst fun q hq => by
  obtain ⟨x, _, rfl⟩ := List.mem_map.mp hq
  exact pl_nm x
theorem nP_inj {a b : Nm} : nP a = nP b ↔ a = b := ⟨fun h => Nm.inj (P.str.inj h), fun h => h ▸ rfl⟩
theorem nP_map {xs ys : List Nm} : xs.map nP = ys.map nP ↔ xs = ys := ⟨fun h => (List.map_inj_right fun _ _ e => nP_inj.mp e).mp h, fun h => h ▸ rfl⟩
theorem tN_inj {xs ys : List Nm} : tN xs = tN ys ↔ xs = ys := by
  unfold tN
  rw [P.tup.injEq, nP_map]
theorem lN_inj {xs ys : List Nm} : lN xs = lN ys ↔ xs = ys := by
  unfold lN
  rw [P.lst.injEq, nP_map]
theorem mem_nP {a : Nm} {xs : List Nm} : nP a ∈ xs.map nP ↔ a ∈ xs := by
  rw [List.mem_map]
  exact ⟨fun ⟨b, h, e⟩ => nP_inj.mp e ▸ h, fun h => ⟨a, h, rfl⟩⟩
theorem boolE {b : Bool} {q : Prop} [Decidable q] (h : b = true ↔ q) : b = decide q := by
  cases b with
  | true => exact (decide_eq_true (h.mp rfl)).symm
  | false => exact (decide_eq_false fun z => Bool.noConfusion (h.mpr z)).symm
theorem eqP {n m : Nat} {p q : P} {z : Prop} [Decidable z] (hp : Pl n p) (hq : Pl m q) (hz : p = q ↔ z) (hn : n ≤ 64 := by decide) (hm : m ≤ 64 := by decide) : pEq p q = some (.bl (decide z)) := by
  obtain ⟨b, h1, h2⟩ := eq_pl hp hq hn hm
  rw [h1, boolE (h2.trans hz)]
theorem neP {n m : Nat} {p q : P} {z : Prop} [Decidable z] (hp : Pl n p) (hq : Pl m q) (hz : p = q ↔ z) (hn : n ≤ 64 := by decide) (hm : m ≤ 64 := by decide) : pNe p q = some (.bl (!decide z)) := by
  obtain ⟨b, h1, h2⟩ := ne_pl hp hq hn hm
  rw [h1]
  have : (!b) = decide z := boolE (by rw [← hz, ← Classical.not_not (a := p = q), ← Ne, ← h2]; cases b <;> simp)
  rw [← this]
  simp
section
variable {a b : Nm} {xs ys : List Nm} {l l1 l2 l3 : Str} {i j : Int}
theorem o_eqN : pEq (nP a) (nP b) = some (.bl (decide (a = b))) := eqP (pl_nm a) (pl_nm b) nP_inj
theorem o_neN : pNe (nP a) (nP b) = some (.bl (!decide (a = b))) := neP (pl_nm a) (pl_nm b) nP_inj
theorem o_eqL (h : PyData.strOk l = true) : pEq (nP a) (.str l) = some (.bl (decide (a.s = l))) := eqP (pl_nm a) (pl_str h) (by unfold nP; rw [P.str.injEq])
theorem o_neL (h : PyData.strOk l = true) : pNe (nP a) (.str l) = some (.bl (!decide (a.s = l))) := neP (pl_nm a) (pl_str h) (by unfold nP; rw [P.str.injEq])
theorem o_eqT : pEq (tN xs) (tN ys) = some (.bl (decide (xs = ys))) := eqP (pl_tN xs) (pl_tN ys) tN_inj
theorem o_neT : pNe (tN xs) (tN ys) = some (.bl (!decide (xs = ys))) := neP (pl_tN xs) (pl_tN ys) tN_inj
theorem o_eqT0 : pEq (tN xs) (.tup []) = some (.bl (decide (xs = []))) := o_eqT (ys := [])
theorem o_neT0 : pNe (tN xs) (.tup []) = some (.bl (!decide (xs = []))) := o_neT (ys := [])
theorem o_eqLs0 : pEq (lN xs) (.lst []) = some (.bl (decide (xs = []))) := eqP (pl_lN xs) (pl_lN []) (lN_inj (ys := []))
theorem o_neLs0 : pNe (lN xs) (.lst []) = some (.bl (!decide (xs = []))) := neP (pl_lN xs) (pl_lN []) (lN_inj (ys := []))
theorem o_inT : pIn (nP a) (tN xs) = some (.bl (decide (a ∈ xs))) := by
  obtain ⟨b, h1, h2⟩ := in_tup (n := 0) (m := 0) (p := nP a) (ps := xs.map nP) (pl_nm a) (fun q hq => by
    obtain ⟨x, _, rfl⟩ := List.mem_map.mp hq
    exact pl_nm x) (by decide)
  show pIn (nP a) (.tup (xs.map nP)) = _
  rw [h1, boolE (h2.trans mem_nP)]
theorem o_inLs : pIn (nP a) (lN xs) = some (.bl (decide (a ∈ xs))) := by
  obtain ⟨b, h1, h2⟩ := in_lst (n := 0) (m := 0) (p := nP a) (ps := xs.map nP) (pl_nm a) (fun q hq => by
    obtain ⟨x, _, rfl⟩ := List.mem_map.mp hq
    exact pl_nm x) (by decide)
  show pIn (nP a) (.lst (xs.map nP)) = _
  rw [h1, boolE (h2.trans mem_nP)]
theorem notIn_of {x c : P} {z : Bool} (h : pIn x c = some (.bl z)) : pNotIn x c = some (.bl (!z)) := by
  unfold pIn at h
  unfold pNotIn
  cases e : pInB x c with
  | none => rw [e] at h; cases h
  | some w =>
    rw [e] at h
    have : w = z := by simpa using h
    subst this
    rfl
theorem o_niT : pNotIn (nP a) (tN xs) = some (.bl (!decide (a ∈ xs))) := notIn_of o_inT
theorem o_niLs : pNotIn (nP a) (lN xs) = some (.bl (!decide (a ∈ xs))) := notIn_of o_inLs
def has (l : Str) (xs : List Nm) : Bool := decide (l ∈ xs.map Nm.s)
theorem o_inW (h : PyData.strOk l = true) : pIn (.str l) (tN xs) = some (.bl (has l xs)) := by
  obtain ⟨b, h1, h2⟩ := in_tup (n := 0) (m := 0) (p := .str l) (ps := xs.map nP) (pl_str h) (fun q hq => by
    obtain ⟨x, _, rfl⟩ := List.mem_map.mp hq
    exact pl_nm x) (by decide)
  show pIn (.str l) (.tup (xs.map nP)) = _
  rw [h1]
  have : b = has l xs := boolE (h2.trans (by
    rw [List.mem_map, List.mem_map]
    constructor
    · rintro ⟨x, hx, e⟩
      exact ⟨x, hx, P.str.inj e⟩
    · rintro ⟨x, hx, e⟩
      exact ⟨x, hx, congrArg P.str e⟩))
  rw [this]
theorem o_niW (h : PyData.strOk l = true) : pNotIn (.str l) (tN xs) = some (.bl (!has l xs)) := notIn_of (o_inW h)
theorem in_lits {ls : List Str} (h : ∀ l ∈ ls, PyData.strOk l = true) : pIn (nP a) (.tup (ls.map P.str)) = some (.bl (decide (a.s ∈ ls))) := by
  obtain ⟨b, h1, h2⟩ := in_tup (n := 0) (m := 0) (p := nP a) (ps := ls.map P.str) (pl_nm a) (fun q hq => by
    obtain ⟨x, hx, rfl⟩ := List.mem_map.mp hq
    exact pl_str (h x hx)) (by decide)
  rw [h1]
  have : b = decide (a.s ∈ ls) := boolE (h2.trans (by
    rw [List.mem_map]
    constructor
    · rintro ⟨x, hx, e⟩
      exact P.str.inj e ▸ hx
    · exact fun hx => ⟨a.s, hx, rfl⟩))
  rw [this]
theorem o_in1 (h1 : PyData.strOk l1 = true) : pIn (nP a) (.tup [.str l1]) = some (.bl (decide (a.s = l1))) := (in_lits (ls := [l1]) (by simpa using h1)).trans (by simp)
theorem o_in2 (h1 : PyData.strOk l1 = true) (h2 : PyData.strOk l2 = true) : pIn (nP a) (.tup [.str l1, .str l2]) = some (.bl (decide (a.s = l1 ∨ a.s = l2))) := (in_lits (ls := [l1, l2]) (by simpa using ⟨h1, h2⟩)).trans (by simp)
theorem o_in3 (h1 : PyData.strOk l1 = true) (h2 : PyData.strOk l2 = true) (h3 : PyData.strOk l3 = true) : pIn (nP a) (.tup [.str l1, .str l2, .str l3]) = some (.bl (decide (a.s = l1 ∨ a.s = l2 ∨ a.s = l3))) := (in_lits (ls := [l1, l2, l3]) (by simpa using ⟨h1, h2, h3⟩)).trans (by simp)
theorem o_ni1 (h1 : PyData.strOk l1 = true) : pNotIn (nP a) (.tup [.str l1]) = some (.bl (!decide (a.s = l1))) := notIn_of (o_in1 h1)
theorem o_ni2 (h1 : PyData.strOk l1 = true) (h2 : PyData.strOk l2 = true) : pNotIn (nP a) (.tup [.str l1, .str l2]) = some (.bl (!decide (a.s = l1 ∨ a.s = l2))) := notIn_of (o_in2 h1 h2)
theorem o_eqI : pEq (.int i) (.int j) = some (.bl (decide (i = j))) := eqP pl_int pl_int (by rw [P.int.injEq])
theorem o_neI : pNe (.int i) (.int j) = some (.bl (!decide (i = j))) := neP pl_int pl_int (by rw [P.int.injEq])
theorem o_addLs {ps qs : List P} (h : ps.length + qs.length ≤ 100000) : pAdd (.lst ps) (.lst qs) = some (.lst (ps ++ qs)) := if_pos h
theorem o_addTp {ps qs : List P} (h : ps.length + qs.length ≤ 100000) : pAdd (.tup ps) (.tup qs) = some (.tup (ps ++ qs)) := if_pos h
theorem o_addT (h : xs.length + ys.length ≤ 100000) : pAdd (tN xs) (tN ys) = some (tN (xs ++ ys)) := by
  unfold tN
  rw [o_addTp (by simpa using h), List.map_append]
theorem o_addT1 (h : xs.length + 1 ≤ 100000) : pAdd (tN xs) (.tup [nP a]) = some (tN (xs ++ [a])) := o_addT (ys := [a]) h
theorem o_tupleN {xs : List Nm} : bTuple [lN xs] = some (tN xs) := rfl
theorem o_tuple {ps : List P} : bTuple [.lst ps] = some (.tup ps) := rfl
theorem o_app {ps : List P} {p : P} {S : Sto} (h : ps.length < 100000) : mAppend ps [.v p] S = some (.non, ps ++ [p]) := if_pos h
theorem o_ext {ps qs : List P} {d : D} {S : Sto} (h1 : deP S d = some (.lst qs)) (h : ps.length + qs.length ≤ 100000) : mExtend ps [d] S = some (.non, ps ++ qs) := by
  show (match deP S d with | some (.lst qs) => if ps.length + qs.length ≤ 100000 then some (.non, ps ++ qs) else none | _ => none : Option (P × List P)) = _
  rw [h1]
  exact if_pos h
end
end DL
namespace DL
open PySem PySem.Spec PyProof.Rows L2
instance (x : Str) : Decidable (OkS x) := inferInstanceAs (Decidable (_ ∧ _))
def lit (x : Str) (h : OkS x := by decide +kernel) : Nm := ⟨x, h⟩
def nAgain : Nm := lit "again"
def nAsk : Nm := lit "ask"
def nRepeat : Nm := lit "repeat"
def nUndo : Nm := lit "undo"
theorem has_iff {l : Nm} {xs : List Nm} : has l.s xs = decide (l ∈ xs) := by
  unfold has
  refine boolE ?_
  rw [decide_eq_true_eq, List.mem_map]
  exact ⟨fun ⟨a, h, e⟩ => Nm.inj e ▸ h, fun h => ⟨l, h, rfl⟩⟩
theorem deP_bxD {o : Ob} {T B : Sto} {j : Nat} {ks : List Key} {ps : List P} (h : B[j]? = some (.dic ks ps)) : deP (o :: (T ++ B)) (.r (bx T j)) = some (.dic ks ps) := by
  unfold deP
  dsimp only
  rw [bx_get, h]
theorem o_ix {α : Type} {xs : List α} {f : α → P} {i : Nat} {a : α} (h : xs[i]? = some a) : pIx (.lst (xs.map f)) (.int i) = some (f a) ∧ pIx (.tup (xs.map f)) (.int i) = some (f a) := by
  have e : atI (xs.map f) (i : Int) = some (f a) := at_nn (j := i) rfl (by rw [List.getElem?_map, h]; rfl)
  exact ⟨e, e⟩
end DL
namespace ZS
open PySem
open PySem.Sem (wp)
def Sq (t : Bool) (g : Heap) (u : Addr) (vs : Array Value) : Prop := cond t (g.IsTuple u vs) (g.IsList u vs)
def Im (t : Bool) (g : Heap) (p u : Addr) (k : Nat) : Prop := cond t (g.IsTupleIter p u k) (g.IsListIter p u k)
section
variable {t : Bool} {g g2 : Heap} {u p b : Addr} {vs : Array Value} {k : Nat}
theorem Sq.ext (q : Sq t g u vs) (e : Heap.ExtBut b g g2) (n : u ≠ b) : Sq t g2 u vs := by
  cases t
  · exact Heap.IsList.extBut q e n
  · exact Heap.IsTuple.extBut q e n
theorem Im.ext (q : Im t g p u k) (e : Heap.ExtBut b g g2) (n : p ≠ b) : Im t g2 p u k := by
  cases t
  · exact Heap.IsListIter.extBut q e n
  · exact Heap.IsTupleIter.extBut q e n
theorem Im.at (q : Im t g p u k) (e : ∀ o, g.get? p = some o → g2.get? p = some o) : Im t g2 p u k := by
  cases t
  · exact Heap.IsListIter.at q e
  · exact Heap.IsTupleIter.at q e
theorem Im.obj (q : Im t g p u k) : ∃ o, g.get? p = some o ∧ ∀ v, o.data ≠ .cell v := by
  cases t
  · obtain ⟨o, e1, _, d1⟩ := q
    exact ⟨o, e1, fun v z => by rw [d1] at z; cases z⟩
  · obtain ⟨o, e1, _, d1⟩ := q
    exact ⟨o, e1, fun v z => by rw [d1] at z; cases z⟩
end
section
variable {prog : Program} {w : World} {A : Around} {E : Value → Shared → Prop} {s : Shared}
theorem draw_item {t : Bool} {p u : Addr} {k : Nat} {vs : Array Value} {x : Value} {Q : Option Value → Shared → Prop} (i : Im t s.heap p u k) (q : Sq t s.heap u vs) (hx : vs[k]? = some x)
    (h : ∀ g, Im t g p u (k + 1) → Heap.SameBut p s.heap g → Q (some x) { s with heap := g }) : wpAny (model prog w) A (Builtin.SmallTypes.nextOrEnd (.ref p)) Q E s := by
  unfold Builtin.SmallTypes.nextOrEnd
  refine wpAny_bind (wpAny_attempt ?_)
  cases t with
  | false => exact wpAny_nextOf_list_item i q hx fun g ig sg => wpAny_pure (h g ig sg)
  | true => exact RZ.nextOf_tuple_item i q hx fun g ig sg => wpAny_pure (h g ig sg)
theorem draw_end {t : Bool} {p u : Addr} {k : Nat} {vs : Array Value} {Q : Option Value → Shared → Prop} (hh : A.handled = none) (i : Im t s.heap p u k) (q : Sq t s.heap u vs) (hx : vs[k]? = none)
    (h : ∀ g, Heap.ExtBut p s.heap g → Q none { s with heap := g }) : wpAny (model prog w) A (Builtin.SmallTypes.nextOrEnd (.ref p)) Q E s := by
  unfold Builtin.SmallTypes.nextOrEnd
  refine wpAny_bind (wpAny_attempt ?_)
  cases t with
  | false => exact wpAny_nextOf_list_end hh i q hx fun g e eg ⟨o, ho, hc⟩ => wpAny_bind (wpAny_isInstance (T := "StopIteration") (b := true) ⟨o, ho, hc⟩ isSubtype_stop (wpAny_pure (h g eg)))
  | true => exact RZ.nextOf_tuple_end hh i q hx fun g e eg ⟨o, ho, hc⟩ => wpAny_bind (wpAny_isInstance (T := "StopIteration") (b := true) ⟨o, ho, hc⟩ isSubtype_stop (wpAny_pure (h g eg)))
abbrev IsZs (g : Heap) (z ti to : Addr) (f : Value) : Prop := g.get? z = some { cls := .type "zip", dict := none, data := .fields #[f, .bool false, .bool true, .ref ti, .ref to], slots := #[] }
structure Ap (z ti to p r u v : Addr) : Prop where
  a1 : ti ≠ z
  a2 : to ≠ z
  a3 : p ≠ z
  a4 : r ≠ z
  a5 : ti ≠ to
  a6 : ti ≠ p
  a7 : ti ≠ r
  a8 : to ≠ p
  a9 : to ≠ r
  b1 : p ≠ r
  b2 : u ≠ z
  b3 : u ≠ to
  b4 : u ≠ p
  b5 : u ≠ r
  b6 : v ≠ z
  b7 : v ≠ to
  b8 : v ≠ p
  b9 : v ≠ r
theorem item {t1 t2 : Bool} {z ti to p r u v : Addr} {k : Nat} {xs ys : Array Value} {x y a b : Value} {Q : Value → Shared → Prop} (D : Ap z ti to p r u v)
    (hz : IsZs s.heap z ti to .none) (hti : IsPair s.heap ti (.ref p) (.ref r)) (hto : IsPair s.heap to a b) (i1 : Im t1 s.heap p u k) (i2 : Im t2 s.heap r v k) (q1 : Sq t1 s.heap u xs) (q2 : Sq t2 s.heap v ys) (hx : xs[k]? = some x) (hy : ys[k]? = some y)
    (hQ : ∀ g, IsZs g z ti to (rawInt s.heap.objs.size) → IsPair g to x y → Im t1 g p u (k + 1) → Im t2 g r v (k + 1) → IsPair g s.heap.objs.size x y → g.objs.size = s.heap.objs.size + 1 →
      (∀ c o, c ≠ z → c ≠ to → c ≠ p → c ≠ r → s.heap.get? c = some o → g.get? c = some o) → Q (.ref s.heap.objs.size) { s with heap := g }) :
    wpAny (model prog w) A (Builtin.«zip.__next__» ⟨[.ref z], []⟩) (fun fin s' => ∃ d, fin = .done (.ret d) ∧ Q d s') E s := by
  show wpAny _ _ (field (.ref z) 2 >>= _) _ _ s
  refine wpAny_bind (wpAny_field hz rfl (x := .bool true) rfl ?_)
  show wpAny _ _ (field (.ref z) 3 >>= _) _ _ s
  refine wpAny_bind (wpAny_field hz rfl (x := .ref ti) rfl (wpAny_bind (wpAny_seqItems hti rfl ?_)))
  show wpAny _ _ (Builtin.SmallTypes.ownedTupleIsFree (.ref z) >>= _) _ _ s
  refine wpAny_bind ?_
  unfold Builtin.SmallTypes.ownedTupleIsFree
  refine wpAny_bind (wpAny_field hz rfl (x := .none) rfl (wpAny_pure ?_))
  simp only [if_true]
  refine wpAny_bind (wpAny_rule (wpAny_bind (wpAny_field hz rfl (x := .ref to) rfl ?_)))
  refine wpAny_bind (wpAny_setField_rec hz (by simp) fun g₁ hz₁ hs₁ => ?_)
  replace hz₁ : IsZs g₁ z ti to .ellipsis := hz₁
  refine wpAny_bind ?_
  simp only [List.zipIdx_cons, List.zipIdx_nil, List.forIn_cons, List.forIn_nil]
  refine wpAny_bind (wpAny_bind (wpAny_onRaise ?_))
  show wpAny _ _ (Builtin.SmallTypes.nextOrEnd (.ref p)) _ _ _
  refine draw_item (i1.ext hs₁.extBut D.a3) (q1.ext hs₁.extBut D.b2) hx fun g₂ i₂ hs₂ => ?_
  have to₂ : IsPair g₂ to a b := hs₂.extBut _ _ D.a8 (hs₁.extBut _ _ D.a2 hto)
  refine wpAny_bind (wpAny_seqItems to₂ rfl (wpAny_bind (wpAny_updateSeq_pair to₂ fun g₃ to₃ hs₃ => ?_)))
  replace to₃ : IsPair g₃ to x b := to₃
  refine wpAny_bind (wpAny_letGo (wpAny_pure (wpAny_bind (wpAny_bind (wpAny_onRaise ?_)))))
  show wpAny _ _ (Builtin.SmallTypes.nextOrEnd (.ref r)) _ _ _
  refine draw_item (((i2.ext hs₁.extBut D.a4).ext hs₂.extBut D.b1.symm).ext hs₃.extBut D.a9.symm) (((q2.ext hs₁.extBut D.b6).ext hs₂.extBut D.b8).ext hs₃.extBut D.b7) hy fun g₄ i₄ hs₄ => ?_
  have to₄ : IsPair g₄ to x b := hs₄.extBut _ _ D.a9 to₃
  refine wpAny_bind (wpAny_seqItems to₄ rfl (wpAny_bind (wpAny_updateSeq_pair to₄ fun g₅ to₅ hs₅ => ?_)))
  replace to₅ : IsPair g₅ to x y := to₅
  refine wpAny_bind (wpAny_letGo (wpAny_pure (wpAny_pure ?_)))
  refine wpAny_bind (wpAny_seqItems to₅ rfl (wpAny_bind (wpAny_newTuple ?_)))
  have hsz : g₅.objs.size = s.heap.objs.size := by rw [hs₅.1, hs₄.1, hs₃.1, hs₂.1, hs₁.1]
  have hz₅ : IsZs g₅ z ti to .ellipsis := hs₅.extBut _ _ D.a2.symm (hs₄.extBut _ _ D.a4.symm (hs₃.extBut _ _ D.a2.symm (hs₂.extBut _ _ D.a3.symm hz₁)))
  have hk₅ : ∀ c o, c ≠ z → c ≠ to → c ≠ p → c ≠ r → s.heap.get? c = some o → g₅.get? c = some o := fun c o c1 c2 c3 c4 e =>
    hs₅.extBut _ _ c2 (hs₄.extBut _ _ c4 (hs₃.extBut _ _ c2 (hs₂.extBut _ _ c3 (hs₁.extBut _ _ c1 e))))
  have j1 : Im t1 g₅ p u (k + 1) := ((i₂.ext hs₃.extBut D.a8.symm).ext hs₄.extBut D.b1).ext hs₅.extBut D.a8.symm
  have j2 : Im t2 g₅ r v (k + 1) := i₄.ext hs₅.extBut D.a9.symm
  have lz : z < g₅.objs.size := Heap.lt_size hz₅
  show wpAny _ _ (Builtin.SmallTypes.ownedTupleHandOut (.ref z) (.ref g₅.objs.size) >>= _) _ _ _
  refine wpAny_bind ?_
  unfold Builtin.SmallTypes.ownedTupleHandOut
  have hz₆ : IsZs (g₅.push { cls := .type "tuple", data := .seq #[x, y] }) z ti to .ellipsis := Heap.get?_push_of_some _ hz₅
  refine wpAny_bind (wpAny_setField_rec hz₆ (by simp) fun g₇ hz₇ hs₇ => ?_)
  replace hz₇ : IsZs g₇ z ti to (rawInt g₅.objs.size) := hz₇
  refine wpAny_setField_rec hz₇ (by simp) fun g₈ hz₈ hs₈ => ?_
  replace hz₈ : IsZs g₈ z ti to (rawInt g₅.objs.size) := hz₈
  have up : ∀ c o, c ≠ z → g₅.get? c = some o → g₈.get? c = some o := fun c o c1 e => hs₈.extBut _ _ c1 (hs₇.extBut _ _ c1 (Heap.get?_push_of_some _ e))
  have new₈ : IsPair g₈ g₅.objs.size x y := hs₈.extBut _ _ (Nat.ne_of_gt lz) (hs₇.extBut _ _ (Nat.ne_of_gt lz) (Heap.get?_push_size _ rfl))
  have sz₈ : g₈.objs.size = g₅.objs.size + 1 := by rw [hs₈.1, hs₇.1, Heap.size_push]
  rw [hsz] at hz₈ new₈ sz₈
  refine wpAny_pure ⟨_, rfl, ?_⟩
  show Q (.ref g₅.objs.size) _
  rw [hsz]
  exact hQ g₈ hz₈ (up _ _ D.a2 to₅) (j1.at fun o e => up _ o D.a3 e) (j2.at fun o e => up _ o D.a4 e) new₈ sz₈ fun c o c1 c2 c3 c4 e => up c o c1 (hk₅ c o c1 c2 c3 c4 e)
theorem ended {t1 t2 : Bool} {z ti to p r u v : Addr} {k : Nat} {xs ys : Array Value} {a b : Value} {Q : Fin → Shared → Prop} (hh : A.handled = none) (D : Ap z ti to p r u v)
    (hz : IsZs s.heap z ti to .none) (hti : IsPair s.heap ti (.ref p) (.ref r)) (hto : IsPair s.heap to a b) (i1 : Im t1 s.heap p u k) (i2 : Im t2 s.heap r v k) (q1 : Sq t1 s.heap u xs) (q2 : Sq t2 s.heap v ys) (hx : xs[k]? = none) (hy : ys[k]? = none)
    (hE : ∀ g e, (∀ c o, c ≠ z → c ≠ to → c ≠ p → c ≠ r → s.heap.get? c = some o → g.get? c = some o) → (∃ o, g.get? e = some o ∧ o.cls = .type "StopIteration") → E (.ref e) { s with heap := g }) :
    wpAny (model prog w) A (Builtin.«zip.__next__» ⟨[.ref z], []⟩) Q E s := by
  show wpAny _ _ (field (.ref z) 2 >>= _) _ _ s
  refine wpAny_bind (wpAny_field hz rfl (x := .bool true) rfl ?_)
  show wpAny _ _ (field (.ref z) 3 >>= _) _ _ s
  refine wpAny_bind (wpAny_field hz rfl (x := .ref ti) rfl (wpAny_bind (wpAny_seqItems hti rfl ?_)))
  show wpAny _ _ (Builtin.SmallTypes.ownedTupleIsFree (.ref z) >>= _) _ _ s
  refine wpAny_bind ?_
  unfold Builtin.SmallTypes.ownedTupleIsFree
  refine wpAny_bind (wpAny_field hz rfl (x := .none) rfl (wpAny_pure ?_))
  simp only [if_true]
  refine wpAny_bind (wpAny_rule (wpAny_bind (wpAny_field hz rfl (x := .ref to) rfl ?_)))
  refine wpAny_bind (wpAny_setField_rec hz (by simp) fun g₁ hz₁ hs₁ => ?_)
  replace hz₁ : IsZs g₁ z ti to .ellipsis := hz₁
  refine wpAny_bind ?_
  simp only [List.zipIdx_cons, List.zipIdx_nil, List.forIn_cons, List.forIn_nil]
  refine wpAny_bind (wpAny_bind (wpAny_onRaise ?_))
  show wpAny _ _ (Builtin.SmallTypes.nextOrEnd (.ref p)) _ _ _
  refine draw_end hh (i1.ext hs₁.extBut D.a3) (q1.ext hs₁.extBut D.b2) hx fun g₂ hs₂ => ?_
  have hz₂ : IsZs g₂ z ti to .ellipsis := hs₂ _ _ D.a3.symm hz₁
  refine wpAny_bind (wpAny_setField_rec hz₂ (by simp) fun g₃ hz₃ hs₃ => ?_)
  refine wpAny_bind (wpAny_bind ?_)
  show wpAny _ _ (bind _ _) _ _ _
  refine wpAny_bind ?_
  show wpAny _ _ (Builtin.SmallTypes.nextOrEnd (.ref r) >>= _) _ _ _
  have i2₃ : Im t2 g₃ r v k := ((i2.ext hs₁.extBut D.a4).ext hs₂ D.b1.symm).ext hs₃.extBut D.a4
  have q2₃ : Sq t2 g₃ v ys := ((q2.ext hs₁.extBut D.b6).ext hs₂ D.b8).ext hs₃.extBut D.b6
  refine wpAny_bind (draw_end hh i2₃ q2₃ hy fun g₄ hs₄ => ?_)
  show wpAny _ _ (pure _) _ _ _
  refine wpAny_pure ?_
  show wpAny _ _ (pure _) _ _ _
  refine wpAny_pure (wpAny_bind (wpAny_rule ?_))
  show wpAny _ _ (newExc (.type "StopIteration") [] >>= _) _ _ _
  refine wpAny_bind ?_
  simp only [newExc, newTuple]
  refine wpAny_bind (wpAny_newObj_type (wpAny_bind (m := firstArgMember _ _) (wpAny_of_eq (a := Value.none) (by first | rfl | (simp only [firstArgMember]; rfl)) (wpAny_newObj_type ?_ (by size_fits)))) (by size_fits))
  simp only [raiseNew]
  refine wpAny_bind (wpAny_handled ?_)
  first | rw [show A.in1.handled = none from hh] | rw [hh]
  refine wpAny_bind (wpAny_pure (wpAny_throw ?_))
  refine hE _ _ (fun c o c1 c2 c3 c4 e => ?_) ⟨_, Heap.get?_push_size _ rfl, rfl⟩
  exact Heap.get?_push_of_some _ (Heap.get?_push_of_some _ (hs₄ _ _ c4 (hs₃.extBut _ _ c1 (hs₂ _ _ c3 (hs₁.extBut _ _ c1 e)))))
theorem next_item {t1 t2 : Bool} {z ti to p r u v : Addr} {k : Nat} {xs ys : Array Value} {x y a b : Value} {Q : Option Value → Shared → Prop} (D : Ap z ti to p r u v)
    (hz : IsZs s.heap z ti to .none) (hti : IsPair s.heap ti (.ref p) (.ref r)) (hto : IsPair s.heap to a b) (i1 : Im t1 s.heap p u k) (i2 : Im t2 s.heap r v k) (q1 : Sq t1 s.heap u xs) (q2 : Sq t2 s.heap v ys) (hx : xs[k]? = some x) (hy : ys[k]? = some y)
    (hQ : ∀ g, IsZs g z ti to (rawInt s.heap.objs.size) → IsPair g to x y → Im t1 g p u (k + 1) → Im t2 g r v (k + 1) → IsPair g s.heap.objs.size x y → g.objs.size = s.heap.objs.size + 1 →
      (∀ c o, c ≠ z → c ≠ to → c ≠ p → c ≠ r → s.heap.get? c = some o → g.get? c = some o) → Q (some (.ref s.heap.objs.size)) { s with heap := g }) : wpAny (model prog w) A (pyNext (.ref z)) Q E s := by
  have ht : s.TypeIs (.ref z) "zip" := ⟨_, hz, rfl⟩
  unfold pyNext
  refine wpAny_bind (wpAny_attempt (wpAny_callSpecial?_slot (name := Str.ofString "__next__") ht F.slot_zip_next (wpAny_call_entry F.slot_zip_next ht F.entry_zip_next ?_ (F.args_zip_next_1 _))))
  exact item D hz hti hto i1 i2 q1 q2 hx hy fun g b1 b2 b3 b4 b5 b6 b7 => wpAny_pure (hQ g b1 b2 b3 b4 b5 b6 b7)
theorem next_end {t1 t2 : Bool} {z ti to p r u v : Addr} {k : Nat} {xs ys : Array Value} {a b : Value} {Q : Option Value → Shared → Prop} (hh : A.handled = none) (D : Ap z ti to p r u v)
    (hz : IsZs s.heap z ti to .none) (hti : IsPair s.heap ti (.ref p) (.ref r)) (hto : IsPair s.heap to a b) (i1 : Im t1 s.heap p u k) (i2 : Im t2 s.heap r v k) (q1 : Sq t1 s.heap u xs) (q2 : Sq t2 s.heap v ys) (hx : xs[k]? = none) (hy : ys[k]? = none)
    (hQ : ∀ g, (∀ c o, c ≠ z → c ≠ to → c ≠ p → c ≠ r → s.heap.get? c = some o → g.get? c = some o) → Q none { s with heap := g }) : wpAny (model prog w) A (pyNext (.ref z)) Q E s := by
  have ht : s.TypeIs (.ref z) "zip" := ⟨_, hz, rfl⟩
  unfold pyNext
  refine wpAny_bind (wpAny_attempt (wpAny_callSpecial?_slot (name := Str.ofString "__next__") ht F.slot_zip_next (wpAny_call_entry F.slot_zip_next ht F.entry_zip_next ?_ (F.args_zip_next_1 _))))
  refine ended hh D hz hti hto i1 i2 q1 q2 hx hy fun g e hk ⟨o, ho, hc⟩ => ?_
  exact wpAny_bind (wpAny_isInstance (T := "StopIteration") (b := true) ⟨o, ho, hc⟩ isSubtype_stop (wpAny_pure (hQ _ hk)))
theorem let_go {es : List Expr} {x1} {pos : Pos} {z ti to d : Addr} {Q : Unit → Shared → Prop} (hz : IsZs s.heap z ti to (rawInt d)) (hQ : ∀ g, IsZs g z ti to .none → Heap.SameBut z s.heap g → Q () { s with heap := g }) :
    wpAny (model prog w) A (letOwnedTupleGo (.Tuple es x1 pos) (.ref z) (.ref d)) Q E s := by
  unfold letOwnedTupleGo
  refine wpAny_bind (wpAny_load hz ?_)
  show wpAny _ _ (if (["enumerate", "zip", "dict_itemiterator", "dict_reverseitemiterator", "odict_iterator", "itertools.zip_longest", "itertools.pairwise"].contains "zip" && (#[rawInt d, .bool false, .bool true, .ref ti, .ref to] : Array Value)[0]? == some (rawInt d)) = true then _ else _) Q E s
  rw [if_pos (by simp)]
  refine wpAny_bind (wpAny_rule ?_)
  show wpAny _ _ (setField (.ref z) 0 .none) Q E s
  exact wpAny_setField_rec hz (by simp) fun g hg sg => hQ g hg sg
theorem iter_self {z ti to : Addr} {f : Value} {Q : Value → Shared → Prop} (hz : IsZs s.heap z ti to f) (h : Q (.ref z) s) : wpAny (model prog w) A (pyIter (.ref z)) Q E s := by
  have ht : s.TypeIs (.ref z) "zip" := ⟨_, hz, rfl⟩
  refine wpAny_pyIter_slot ht F.slot_zip_iter (wpAny_call_entry F.slot_zip_iter ht F.entry_zip_iter ?_ (F.args_zip_iter_1 _))
  show wpAny _ _ (ret (.ref z)) _ _ s
  exact wpAny_pure ⟨_, rfl, "zip", _, ht, F.slot_zip_next.lookup, h⟩
end
def icl (t : Bool) : String := cond t "tuple_iterator" "list_iterator"
abbrev g1 (g : Heap) (t : Bool) (u : Addr) : Heap := g.push { cls := .type (icl t), data := .fields #[.ref u, .int 0 0] }
abbrev g2 (g : Heap) (t1 t2 : Bool) (u v : Addr) : Heap := (g1 g t1 u).push { cls := .type (icl t2), data := .fields #[.ref v, .int 0 0] }
abbrev g3 (g : Heap) (t1 t2 : Bool) (u v : Addr) : Heap := (g2 g t1 t2 u v).push { cls := .type "tuple", data := .seq #[.ref g.objs.size, .ref (g1 g t1 u).objs.size] }
abbrev g4 (g : Heap) (t1 t2 : Bool) (u v : Addr) : Heap := (g3 g t1 t2 u v).push { cls := .type "tuple", data := .seq #[.none, .none] }
end ZS
namespace ZS
open PySem PySem.Spec PyProof.Rows L2
def SqB (K : PySem.W.Frag) (H : Hp) (t : Bool) (a : Addr) (xs : List V) : Prop := cond t (SqT K H a xs) (SqL K H a xs)
def ItS (K : PySem.W.Frag) (t1 t2 : Bool) (a b : Addr) : It :=
  ⟨fun i H => ∃ (xs ys : List V) (x y : V), SqB K H t1 a xs ∧ SqB K H t2 b ys ∧ xs[i]? = some x ∧ ys[i]? = some y,
    fun i H v H' => ∃ d x y, v = .ref d ∧ H d = none ∧ H' = upd H d (.tup [x, y]) ∧ (∀ xs, SqB K H t1 a xs → xs[i]? = some x) ∧ ∀ ys, SqB K H t2 b ys → ys[i]? = some y,
    fun i H => ∃ xs ys : List V, SqB K H t1 a xs ∧ SqB K H t2 b ys ∧ xs.length ≤ i ∧ ys.length ≤ i⟩
theorem sq_of {X : Cx} {pins : List (Addr × Obj)} {σ : L2.St} {H : Hp} {s : Shared} {t : Bool} {a : Addr} {xs : List V} (I : Inv X pins σ H s) (h : SqB X.K H t a xs) : ∃ its : List Value, Vals xs its ∧ Sq t s.heap a its.toArray ∧ a < s.heap.objs.size := by
  cases t with
  | false =>
    obtain ⟨its, rv, p, _⟩ := I.list h
    exact ⟨its, rv, p.isList, p.lt⟩
  | true =>
    obtain ⟨its, rv, p, _⟩ := I.tuple h
    exact ⟨its, rv, p, by obtain ⟨o, e, _⟩ := p; exact Heap.lt_size e⟩
theorem sq_inj {X : Cx} {pins : List (Addr × Obj)} {σ : L2.St} {H : Hp} {s : Shared} {t : Bool} {a : Addr} {xs ys : List V} (I : Inv X pins σ H s) (h : SqB X.K H t a xs) (h2 : SqB X.K H t a ys) : xs = ys := by
  cases t with
  | false => exact I.list_inj h h2
  | true => exact I.tuple_inj h h2
theorem turn {P : Program} {w : World} {K : PySem.W.Frag} {elts : List Expr} {kk : Nat} {tpos : Pos} {t1 t2 : Bool} {a b z ti to p r : Addr} (D : Ap z ti to p r a b) :
    Turn P w K (.Tuple elts kk tpos) (ItS K t1 t2 a b) [z, ti, to, p, r] z (fun i h => IsZs h z ti to .none ∧ IsPair h ti (.ref p) (.ref r) ∧ (∃ x y, IsPair h to x y) ∧ Im t1 h p a i ∧ Im t2 h r b i) where
  mem := by simp
  obj := fun i h ⟨hz, hti, ⟨x, y, hto⟩, h1, h2⟩ c hc => by
    have e' : c = z ∨ c = ti ∨ c = to ∨ c = p ∨ c = r := by simpa using hc
    rcases e' with q | q | q | q | q
    · rw [q]; exact ⟨_, hz, fun v q => nomatch q⟩
    · rw [q]; exact ⟨_, hti, fun v q => nomatch q⟩
    · rw [q]; exact ⟨_, hto, fun v q => nomatch q⟩
    · rw [q]; exact h1.obj
    · rw [q]; exact h2.obj
  keep := fun i h h' ⟨hz, hti, ⟨x, y, hto⟩, h1, h2⟩ k => ⟨k z (by simp) _ hz, k ti (by simp) _ hti, ⟨x, y, k to (by simp) _ hto⟩, h1.at fun o q => k p (by simp) o q, h2.at fun o q => k r (by simp) o q⟩
  item := by
    intro X hP hw hK hc i pins s σ H E I hf st hg
    subst hP hw hK
    obtain ⟨hz, hti, ⟨x0, y0, hto⟩, h1, h2⟩ := st
    obtain ⟨xs, ys, x, y, hqx, hqy, hx, hy⟩ := hg
    obtain ⟨its, rv, w1, _⟩ := sq_of I hqx
    obtain ⟨its2, rv2, w2, _⟩ := sq_of I hqy
    obtain ⟨u, hu, ru⟩ := rv.get hx
    obtain ⟨u2, hu2, ru2⟩ := rv2.get hy
    have lz : z < s.heap.objs.size := Heap.lt_size hz
    refine next_item D hz hti hto h1 h2 w1 w2 (x := u) (y := u2) (by simpa using hu) (by simpa using hu2) fun g z' to' k1 k2 hT hsz hk => ?_
    refine ⟨_, rfl, let_go (s := { s with heap := g }) z' fun g2 z'' sb => ?_⟩
    have hT2 : g2.get? s.heap.objs.size = some { cls := .type "tuple", data := .seq #[u, u2] } := (sb.2 _ (Nat.ne_of_gt lz)).trans hT
    have new : ObjOk X.prog X.w (upd H s.heap.objs.size (.tup [x, y])) g2 s.heap.objs.size (.tup [x, y]) := ⟨(by show 2 ≤ sizeLine; decide), [u, u2], .cons ru (.cons ru2 .nil), ⟨_, hT2, rfl, _, rfl⟩⟩
    have I1 : Inv X pins σ (upd H s.heap.objs.size (.tup [x, y])) { s with heap := g2 } :=
      I.turnedNew (t' := s.toks) (ch := [z, ti, to, p, r]) (fun c o hb q => (sb.2 c (fun q' => hb (by simp [q']))).trans (hk c o (fun q' => hb (by simp [q'])) (fun q' => hb (by simp [q'])) (fun q' => hb (by simp [q'])) (fun q' => hb (by simp [q'])) q)) hf (Nat.le_refl _) new
    refine ⟨.ref s.heap.objs.size, _, I1, rfl, ⟨_, x, y, rfl, I.hok.fresh (Nat.le_refl _), rfl, fun l hl => by rw [sq_inj I hl hqx]; exact hx, fun l hl => by rw [sq_inj I hl hqy]; exact hy⟩, ⟨z'', ?_, ⟨u, u2, ?_⟩, ?_, ?_⟩, fun c hcm => ?_⟩
    · exact (sb.2 _ D.a1).trans (hk _ _ D.a1 D.a5 D.a6 D.a7 hti)
    · exact (sb.2 _ D.a2).trans to'
    · exact k1.at fun o q => (sb.2 _ D.a3).trans q
    · exact k2.at fun o q => (sb.2 _ D.a4).trans q
    · have hlt : c < s.heap.objs.size := by
        have e' : c = z ∨ c = ti ∨ c = to ∨ c = p ∨ c = r := by simpa using hcm
        rcases e' with q | q | q | q | q
        · rw [q]; exact lz
        · rw [q]; exact Heap.lt_size hti
        · rw [q]; exact Heap.lt_size hto
        · rw [q]; obtain ⟨_, e1, _⟩ := h1.obj; exact Heap.lt_size e1
        · rw [q]; obtain ⟨_, e1, _⟩ := h2.obj; exact Heap.lt_size e1
      rw [upd_ne (Nat.ne_of_lt hlt)]
      exact (hf c hcm).1
  done := by
    intro X hP hw hK hc i pins s σ H E I hf st hg
    subst hP hw hK
    obtain ⟨hz, hti, ⟨x0, y0, hto⟩, h1, h2⟩ := st
    obtain ⟨xs, ys, hqx, hqy, e1, e2⟩ := hg
    obtain ⟨its, rv, w1, _⟩ := sq_of I hqx
    obtain ⟨its2, rv2, w2, _⟩ := sq_of I hqy
    have l1 := rv.length
    have l2 := rv2.length
    exact next_end (I.ok.hd hc) D hz hti hto h1 h2 w1 w2 (by simp; omega) (by simp; omega) fun g hk => ⟨rfl, I.turnedL (t' := s.toks) (ch := [z, ti, to, p, r]) (fun c o hb q =>
      hk c o (fun q' => hb (by simp [q'])) (fun q' => hb (by simp [q'])) (fun q' => hb (by simp [q'])) (fun q' => hb (by simp [q'])) q) hf⟩
  self := fun A i s Q E st h => iter_self st.1 h
end ZS
namespace DL
open PySem PySem.Spec PyProof.Rows L2 ZS
variable [Tb]
def seqV : D → Option (Bool × List P)
  | .v (.lst ps) => some (false, ps)
  | .v (.frz ps) => some (false, ps)
  | .v (.tup ps) => some (true, ps)
  | _ => none
def two (ds : List D) : Option ((Bool × List P) × (Bool × List P)) := match ds with
  | [d, e] => match seqV d, seqV e with
    | some x, some y => some (x, y)
    | _, _ => none
  | _ => none
def fAddB (f g : FE) : FE := fun env S => (f env S).bind fun d S1 => (g env S1).bind fun e S2 => match deP S2 d, deP S2 e with
  | some (.lst a), some (.lst b) => if a.length + b.length ≤ 100000 then .ok (.r S2.length) (S2 ++ [.lst (a ++ b)]) else .bad
  | _, _ => .bad
theorem d_addB {X : Cx} {a b : Expr} {f g : FE} {pos : Pos} (ha : PEd X a f) (hb : PEd X b g) : PEd X (.BinOp a .Add b pos) (fAddB f g) := pe_weak (pe_op op_cat ha hb) fun σ H Q ⟨m, env, S, R, E, d', S', e1, q⟩ => by
  obtain ⟨d, S1, k1, e2⟩ := Oc.bind_eq e1
  obtain ⟨e, S2, k2, e3⟩ := Oc.bind_eq e2
  refine ⟨m, env, S, R, E, d, S1, k1, fun v m1 H1 st1 R1 i1 => ⟨m1, env, S1, R1, E.step st1, e, S2, k2, fun w m2 H2 st2 R2 i2 => ?_⟩⟩
  split at e3
  · rename_i A B h1 h2
    split at e3
    · rename_i hl
      cases e3
      obtain ⟨x, xs, rfl, hsx, hax⟩ := isR_of R2 (st2.is i1) h1
      obtain ⟨y, ys, rfl, hsy, hay⟩ := isR_of R2 i2 h2
      exact ⟨x, y, xs, ys, rfl, rfl, hsx, hsy, by rw [← hax.len, ← hay.len]; exact size_of hl, boxLst R2 (hax.append hay) fun z m3 H3 st3 R3 i3 => q z m3 H3 ((st1.trans st2).trans st3) R3 i3⟩
    · cases e3
  · cases e3
theorem e_addB {o : Ob} {T B : Sto} {f g : FE} {env : Dnv} {S S1 : Sto} {d e : D} {a b : List P} (h1 : f env S = .ok d S1) (h2 : g env S1 = .ok e (o :: (T ++ B))) (h3 : deP (o :: (T ++ B)) d = some (.lst a)) (h4 : deP (o :: (T ++ B)) e = some (.lst b)) (hl : a.length + b.length ≤ 100000) :
    fAddB f g env S = .ok (.r (bx T B.length)) (o :: (T ++ (B ++ [.lst (a ++ b)]))) := by
  unfold fAddB
  rw [h1]
  simp only [Oc.bind_ok]
  rw [h2]
  simp only [Oc.bind_ok]
  rw [h3, h4]
  show (if _ then _ else _ : Oc D) = _
  rw [if_pos hl, bx_put, bx_len]
end DL
namespace SX
open PySem PySem.Spec L2
abbrev TK (P : Program) (w : World) := PySem.strKind P w
abbrev fresh0 (w : World) : Obj := { cls := .type "set", dict := none, data := .set #[] 0 (.fresh 0 0 (!w.params.followText "set-order")) }
def keyT (e : Int × Value) : Str := match e.2 with | .str k _ => k | _ => Str.empty
def GoodT (w : World) (e : Int × Value) : Prop := ∃ k u, e.2 = Value.str k u ∧ e.1 = hashStr w k
def SetT (w : World) (g : Heap) (a : Addr) (M : Str → Prop) (n : Nat) : Prop :=
  ∃ o es ep t, g.get? a = some o ∧ o.ExactSet ∧ o.data = .set es ep t ∧ (∀ e ∈ es.toList, GoodT w e) ∧ (es.toList.map keyT).Nodup ∧ (∀ k, M k ↔ k ∈ es.toList.map keyT) ∧ es.size < scanBound ∧ t.fits es.size = true ∧ es.size = n ∧ Ris t.place.toList ∧ (w.params.followText "set-order" = true ∨ t.led = true)
section
variable {P : Program} {w : World} {g g' : Heap} {a : Addr} {M : Str → Prop} {n : Nat}
theorem SetT.at (R : SetT w g a M n) (k : ∀ o, g.get? a = some o → g'.get? a = some o) : SetT w g' a M n := by
  obtain ⟨o, es, ep, t, ho, r⟩ := R
  exact ⟨o, es, ep, t, k o ho, r⟩
theorem SetT.congr {M' : Str → Prop} (R : SetT w g a M n) (e : ∀ k, M' k ↔ M k) : SetT w g a M' n := by
  have q : M' = M := funext fun k => propext (e k)
  rw [q]
  exact R
theorem is_t (k : Str) (u : Tok) : (TK P w).is k (.str k u) = true := by
  show Value.isStrOf k (.str k u) = true
  simp [Value.isStrOf]
theorem el_of {l : List (Int × Value)} (q : ∀ e ∈ l, GoodT w e) : ElemsOf (TK P w) l := fun e he => by
  obtain ⟨k, u, h1, h2⟩ := q e he
  exact ⟨⟨k, by rw [h1]; exact is_t k u, h2⟩, by rw [h1] <;> rfl⟩
theorem is_iff {e : Int × Value} (q : GoodT w e) (k : Str) : (TK P w).is k e.2 = true ↔ keyT e = k := by
  obtain ⟨k0, u, h1, _⟩ := q
  unfold keyT
  rw [h1]
  exact ⟨fun h => (TK P w).inj (.str k0 u) k0 k (is_t k0 u) h, fun h => h ▸ is_t k0 u⟩
theorem key_iff {l : List (Int × Value)} (q : ∀ e ∈ l, GoodT w e) (k : Str) : k ∈ l.map keyT ↔ ∃ e ∈ l, (TK P w).is k e.2 = true := by
  rw [List.mem_map]
  exact ⟨fun ⟨e, he, z⟩ => ⟨e, he, (is_iff (q e he) k).2 z⟩, fun ⟨e, he, z⟩ => ⟨e, he, (is_iff (q e he) k).1 z⟩⟩
theorem SetT.new (ho : g.get? a = some (fresh0 w)) : SetT w g a (fun _ => False) 0 :=
  ⟨_, #[], 0, _, ho, ⟨rfl, rfl, rfl⟩, rfl, (fun e he => by simp at he), (by simp), (fun k => by simp), (by decide), (by rfl), rfl, List.Pairwise.nil, by
    show _ ∨ (!w.params.followText "set-order") = true
    cases w.params.followText "set-order"
    · exact .inr rfl
    · exact .inl rfl⟩
end
section
variable {P : Program} {w : World} {A : Around} {E : Value → Shared → Prop} {s : Shared} {a : Addr} {M : Str → Prop} {n : Nat}
theorem tail {f : Bool → Sem Unit} (hf : ∀ (b : Bool) (s₁ : Shared) (Q' : Unit → Shared → Prop), Q' () s₁ → wpAny (model P w) A (f b) Q' E s₁) {o : Obj} {es : Array (Int × Value)} {ep : Nat} {t : SetTable} (ho : s.heap.get? a = some o) (hex : o.ExactSet) (hd : o.data = .set es ep t)
    {e1 : Array (Int × Value)} {t1 : SetTable} {M' : Str → Prop} (q1 : ∀ e ∈ e1.toList, GoodT w e) (n1 : (e1.toList.map keyT).Nodup) (m1 : ∀ k, M' k ↔ k ∈ e1.toList.map keyT) (b1 : e1.size < scanBound) (f1 : t1.fits e1.size = true) (r1 : Ris t1.place.toList) (l1 : w.params.followText "set-order" = true ∨ t1.led = true)
    {dm : Bool} {R : Option Bool → Shared → Prop} (hR : ∀ g, Heap.SameBut a s.heap g → SetT w g a M' e1.size → R (some true) { s with heap := g }) :
    wpAny (model P w) A (do
        storeSet a e1 t1
        if (!dm && t1.tooFull) = true then do
            f (relayAll t1 e1 (SetTable.grown e1.size)).2.2
            storeSet a (relayAll t1 e1 (SetTable.grown e1.size)).1 (relayAll t1 e1 (SetTable.grown e1.size)).2.1
            pure (some true)
          else pure (some true)) R E s := by
  refine wpAny_bind (wpAny_storeSet_of ho hd ?_ (fits_of_scanBound b1))
  have ho1 := store_at (es' := e1) (t' := t1) ho hd
  have sb := Heap.SameBut.update s.heap a (Obj.putSet e1 t1)
  split
  · have pm := relayAll_perm t1 e1 (SetTable.grown e1.size)
    have k1 := relayAll_fits t1 e1 (SetTable.grown e1.size)
    have k2 := relayAll_ris t1 e1 (SetTable.grown e1.size)
    have k3 := relayAll_led t1 e1 (SetTable.grown e1.size)
    generalize relayAll t1 e1 (SetTable.grown e1.size) = Z at pm k1 k2 k3 ⊢
    obtain ⟨e2, t2, gv⟩ := Z
    dsimp only at pm k1 k2 k3 ⊢
    have hsz : e2.size = e1.size := by rw [← Array.length_toList, pm.length_eq, Array.length_toList]
    have b2 : e2.size < scanBound := hsz ▸ b1
    refine wpAny_bind (hf _ _ _ (wpAny_bind (wpAny_storeSet_of ho1 rfl ?_ (fits_of_scanBound b2))))
    have ho2 := store_at (es' := e2) (t' := t2) ho1 rfl
    refine wpAny_pure (hR _ (sb.trans (Heap.SameBut.update _ a _)) ?_)
    exact ⟨_, e2, _, t2, ho2, hex, rfl, fun e he => q1 e (pm.mem_iff.mp he), (pm.map keyT).nodup_iff.mpr n1, fun k => (m1 k).trans (pm.map keyT).mem_iff.symm, b2, k1, hsz, k2, l1.imp id fun z => by rw [k3]; exact z⟩
  · exact wpAny_pure (hR _ sb ⟨_, e1, _, t1, ho1, hex, rfl, q1, n1, m1, b1, f1, rfl, r1, l1⟩)
theorem add {k : Str} {u : Tok} {Q : Bool → Shared → Prop} (R : SetT w s.heap a M n) (room : n + 1 < scanBound)
    (hQ : ∀ g c b, Heap.SameBut a s.heap g → c ≤ n + 1 → SetT w g a (fun j => M j ∨ j = k) c → Q b { s with heap := g }) : wpAny (model P w) A (setAddHashed a (.str k u) ((TK P w).hash k)) Q E s := by
  obtain ⟨o, es, ep, t, ho, hex, hd, q, nd, hm, hb, hf, hn, hr, hl⟩ := R
  have hkey : (TK P w).is k (.str k u) = true := is_t k u
  have hsc : (Value.str k u).scannable = true := rfl
  have hel : ElemsOf (TK P w) es.toList := el_of q
  unfold setAddHashed setAddHashedIn
  refine wpAny_holding (wpAny_bind (wpAny_setState_of ho hd hf ?_))
  dsimp only
  rw [byScan_of hsc hb hel]
  simp only [↓reduceIte]
  unfold setAddByScan
  refine wpAny_bind (wpAny_bind (wpAny_rule (wpAny_bind (wpAny_setScan_of hkey ho hd hf hel ?_))))
  cases hfi : List.findIdx? (fun e => (TK P w).is k e.2) es.toList with
  | some j =>
    dsimp only
    obtain ⟨hj, pj, _⟩ := List.findIdx?_eq_some_iff_getElem.mp hfi
    have hk : M k := (hm k).2 ((key_iff (P := P) (w := w) q k).2 ⟨es.toList[j], List.getElem_mem hj, pj⟩)
    refine wpAny_pure (wpAny_pure (hQ s.heap n _ (Heap.SameBut.refl a s.heap) (Nat.le_succ _) ⟨o, es, ep, t, ho, hex, hd, q, nd, fun i => ?_, hb, hf, hn, hr, hl⟩))
    rw [← hm i]
    exact ⟨fun z => z.elim id fun e => e ▸ hk, .inl⟩
  | none =>
    dsimp only
    have hnk : k ∉ es.toList.map keyT := fun z => by
      obtain ⟨e, he, z⟩ := (key_iff (P := P) (w := w) q k).1 z
      have c := List.findIdx?_eq_none_iff.mp hfi e he
      rw [z] at c
      cases c
    have hgv : ∀ (b : Bool) {s₁ : Shared} {Q' : Unit → Shared → Prop}, Q' () s₁ → wpAny (model P w) A (match b with | true => rule "set.scan.the-table-gave-way" | false => pure ()) Q' E s₁ := fun b s₁ Q' z => by cases b <;> first | exact wpAny_pure z | exact wpAny_rule z
    have pm := layNew_perm t es ((TK P w).hash k) (.str k u)
    have f1 := layNew_fits t es ((TK P w).hash k) (.str k u)
    have r1 := layNew_ris t es ((TK P w).hash k) (.str k u) hr
    have l1 := layNew_led t es ((TK P w).hash k) (.str k u)
    generalize layNew t es ((TK P w).hash k) (.str k u) = Z at pm f1 r1 l1 ⊢
    obtain ⟨e1, t1, dm, gv⟩ := Z
    dsimp only at pm f1 r1 l1 ⊢
    rw [Array.toList_push] at pm
    have pc : e1.toList.Perm (((TK P w).hash k, Value.str k u) :: es.toList) := pm.trans (List.perm_append_singleton _ _)
    have pk : (e1.toList.map keyT).Perm (k :: es.toList.map keyT) := pc.map keyT
    have q1 : ∀ e ∈ e1.toList, GoodT w e := fun e he => by
      rcases List.mem_cons.mp (pc.mem_iff.mp he) with z | z
      · rw [z]
        exact ⟨k, u, rfl, rfl⟩
      · exact q e z
    have n1 : (e1.toList.map keyT).Nodup := pk.nodup_iff.mpr (List.nodup_cons.mpr ⟨hnk, nd⟩)
    have m1 : ∀ i, (M i ∨ i = k) ↔ i ∈ e1.toList.map keyT := fun i => by
      rw [hm i, pk.mem_iff, List.mem_cons]
      exact Or.comm
    have hsz : e1.size = n + 1 := by rw [← Array.length_toList, pc.length_eq, List.length_cons, Array.length_toList, hn]
    have b1 : e1.size < scanBound := hsz ▸ room
    have hled : w.params.followText "set-order" = true ∨ t1.led = true := hl.imp id fun z => by rw [l1]; exact z
    have fin : ∀ g, Heap.SameBut a s.heap g → SetT w g a (fun j => M j ∨ j = k) e1.size → Q true { s with heap := g } := fun g sb z => hQ g _ _ sb (Nat.le_of_eq hsz) z
    refine wpAny_bind (hgv _ ?_)
    split
    · refine wpAny_bind ?_
      rw [hashByValue_scannable 8 hsc]
      refine wpAny_pure (tail ?_ ho hex hd q1 n1 m1 b1 ?_ ?_ ?_ ?_)
      · exact fun b s₁ Q' z => by cases b <;> first | exact wpAny_pure z | exact wpAny_rule z
      · first | (split <;> first | exact f1 | exact SetTable.fits_plain_off f1) | exact f1
      · first | (split <;> exact r1) | exact r1
      · first | (split <;> exact hled) | exact hled
      · exact fun g sb z => wpAny_pure (fin g sb z)
    · refine wpAny_bind (wpAny_pure ?_)
      simp only [↓reduceIte]
      refine tail ?_ ho hex hd q1 n1 m1 b1 f1 r1 hled ?_
      · exact fun b s₁ Q' z => by cases b <;> first | exact wpAny_pure z | exact wpAny_rule z
      · exact fun g sb z => wpAny_pure (fin g sb z)
theorem update {I : Addr} {fp wr : List Addr} {G : Array GenState → Array GenState → Prop} {n : Nat} {Pv : Nat → Value → Prop} {St : Nat → Shared → Prop} {R : Result → Shared → Prop} (W : WalksS P w A.in1 I fp wr G n Pv St) (S : Addr) (hSf : S ∉ fp) (xs : List Str) (hn : n = xs.length) (hb : xs.length + 1 < scanBound)
    (hval : ∀ i v, Pv i v → ∃ k t, xs[i]? = some k ∧ v = .str k t) :
    ∀ (k i : Nat) (s : Shared), n - i = k → i ≤ n → St i s → (∃ c, c ≤ i ∧ SetT w s.heap S (fun j => j ∈ xs.take i) c) →
      (∀ s' c, Moved (S :: wr) G s s' → c ≤ n → SetT w s'.heap S (fun j => j ∈ xs) c → R (.ok (.ret .none)) s') → codeAny (model P w) A (.builtin "set.update.loop" ⟨[.ref S, .ref I], []⟩) R s := by
  have hSw : S ∉ wr := fun h => hSf (W.sub _ h)
  have up : ∀ b ∈ wr, b ∈ S :: wr := fun b hb => List.mem_cons_of_mem _ hb
  intro k
  induction k with
  | zero =>
    intro i s hk' hi hst ⟨c, hc, hS⟩ hR
    have hin : i = n := by omega
    subst hin
    refine codeAny_builtin PyProof.Rows.F.entry_set_update_loop ?_
    rw [Around.under_plainId PyProof.Rows.F.plain_set_update_loop _]
    show wpAny _ A.in1 (pyNext (.ref I) >>= _) _ _ s
    refine wpAny_bind (W.done s _ _ hst fun s' hm => ?_)
    show wpAny _ A.in1 (ret Value.none) _ _ s'
    rw [List.take_of_length_le (by omega)] at hS
    exact wpAny_pure (hR s' c (hm.mono up) hc (hS.at fun o e => hm.heap S o hSw e))
  | succ k ih =>
    intro i s hk' hi hst ⟨c, hc, hS⟩ hR
    have hlt : i < n := by omega
    refine codeAny_builtin PyProof.Rows.F.entry_set_update_loop ?_
    rw [Around.under_plainId PyProof.Rows.F.plain_set_update_loop _]
    show wpAny _ A.in1 (pyNext (.ref I) >>= _) _ _ s
    refine wpAny_bind (W.item i s _ _ hlt hst fun v s' hP hst' hm => ?_)
    obtain ⟨z, t, hz, rfl⟩ := hval i v hP
    have hS' : SetT w s'.heap S (fun j => j ∈ xs.take i) c := hS.at fun o e => hm.heap S o hSw e
    show wpAny _ A.in1 (holding [Value.str z t] (setAdd S (.str z t)) >>= _) _ _ s'
    refine wpAny_bind (wpAny_holding ?_)
    unfold setAdd
    refine wpAny_holding (wpAny_bind ((TK P w).pyHash (k := z) (is_t _ _) ?_))
    refine add (s := { s' with toks := s'.toks + 1 }) hS' (by omega) fun g c2 b2 sb hc2 hS2 => ?_
    have hS3 : SetT w g S (fun j => j ∈ xs.take (i + 1)) c2 := hS2.congr fun j => by
      rw [List.take_add_one, hz]
      simp [List.mem_append]
    refine wpAny_pure ⟨plainId_quiet PyProof.Rows.F.plain_set_update_loop _, ih (i + 1) _ (by omega) hlt (W.frame _ s' _ _ hst' (Nat.le_succ _) fun b hb o e => ?_) ⟨_, by omega, hS3⟩ fun s'' c3 hm'' hc'' hS'' => ?_⟩
    · rw [sb.2 b (fun h : b = S => hSf (by rw [← h]; exact hb))]
      exact e
    · refine hR s'' c3 (Moved.trans W.gtrans ((hm.mono up).then_heap (Nat.le_succ _) fun b o hb e => ?_) hm'') hc'' hS''
      rw [sb.2 b (fun h : b = S => hb (by rw [h]; exact List.mem_cons_self))]
      exact e
end
end SX
namespace SX
open PySem PySem.Spec L2 ZS
section
variable {P : Program} {w : World} {A : Around} {E : Value → Shared → Prop} {s : Shared}
theorem make {t : Bool} {l : Addr} {items : Array Value} (xs : List Str) {Q : Value → Shared → Prop} (hh : A.handled = none) (hl : Sq t s.heap l items) (hv : ∀ (i : Nat) (v : Value), items[i]? = some v → ∃ k u, xs[i]? = some k ∧ v = .str k u) (hz : items.size = xs.length) (hb : xs.length + 1 < scanBound)
    (h : ∀ (g : Heap) (tk c : Nat), SetT w g s.heap.objs.size (fun j => j ∈ xs) c → c ≤ xs.length → (∀ b o, s.heap.get? b = some o → g.get? b = some o) → Q (.ref s.heap.objs.size) { s with heap := g, toks := tk }) : wpAny (model P w) A (call (.type "set") [.ref l]) Q E s := by
  obtain ⟨c0, tl, hmro⟩ := F.called_set.mro
  have hmade := F.called_set.made
  have hsub := F.called_set.sub
  refine wpAny_call (codeAny_of_tree ?_)
  show wpAny _ _ (callAny (.type "set") _) _ _ s
  refine wpAny_pure ⟨Code.quiet_builtin _ (by decide +kernel), codeAny_builtin F.entry_type_call ?_⟩
  rw [Around.under_plain (weight_type_call_type "set" [.ref l] []) rfl]
  have k1 := F.called_set.notType
  have k2 := F.called_set.canCreate
  have hct := F.typeCall_set_1 (.ref l)
  repeat (any_goals (first | assumption | wp_step))
  refine codeAny_mono (code_set_led1 (.ref l) (E := E) (Q₁ := fun obj s₁ => obj = .ref s.heap.objs.size ∧ s₁ = { s with heap := s.heap.push (fresh0 w) }) ⟨rfl, rfl⟩) fun r s₁ hr => ?_
  cases r with
  | error e => exact hr
  | ok fl =>
    cases fl with
    | ret obj =>
      obtain ⟨rfl, rfl⟩ := hr
      have hS : (s.heap.push (fresh0 w)).get? s.heap.objs.size = some (fresh0 w) := Heap.get?_push_size _ rfl
      have hT : Shared.TypeIs { s with heap := s.heap.push (fresh0 w) } (.ref s.heap.objs.size) "set" := ⟨_, hS, rfl⟩
      have hli := F.called_set.init.lookup
      have hbi := F.called_set.init.bind (.ref s.heap.objs.size)
      repeat (any_goals (first | assumption | wp_step))
      refine codeAny_mono (codeAny_call_builtin (R := wants (fun r s₂ => r = .none ∧ ∃ g tk c, s₂ = { s with heap := g, toks := tk } ∧ SetT w g s.heap.objs.size (fun j => j ∈ xs) c ∧ c ≤ xs.length ∧ (∀ b o, s.heap.get? b = some o → g.get? b = some o)) E) F.called_set.init.plain F.entry_set_init (check_set_init_1 hT ?_)) fun r₂ s₂ hr₂ => ?_
      · have hlS : l < s.heap.objs.size := by
          cases t with
          | false => obtain ⟨_, e, _⟩ := hl; exact Heap.lt_size e
          | true => obtain ⟨_, e, _⟩ := hl; exact Heap.lt_size e
        have hneI : l ≠ (s.heap.push (fresh0 w)).objs.size := by
          rw [Heap.size_push]
          exact Nat.ne_of_lt (Nat.lt_succ_of_lt hlS)
        have hSf : s.heap.objs.size ∉ [(s.heap.push (fresh0 w)).objs.size, l] := by
          rw [Heap.size_push]
          simp only [List.mem_cons, List.mem_singleton, List.not_mem_nil, or_false, not_or]
          exact ⟨Nat.ne_of_lt (Nat.lt_succ_self _), Nat.ne_of_gt hlS⟩
        have hh3 : A.in1.in1.in1.handled = none := by simp [hh]
        have fin : ∀ {R : Result → Shared → Prop} {s' : Shared} {c' : Nat}, Moved [s.heap.objs.size, (s.heap.push (fresh0 w)).objs.size] (fun x y => y = x) { s with heap := (s.heap.push (fresh0 w)).push { cls := .type (icl t), data := .fields #[.ref l, .int 0 0] } } s' → c' ≤ items.size → SetT w s'.heap s.heap.objs.size (fun j => j ∈ xs) c' →
            ∃ g tk c, s' = { s with heap := g, toks := tk } ∧ SetT w g s.heap.objs.size (fun j => j ∈ xs) c ∧ c ≤ xs.length ∧ ∀ b o, s.heap.get? b = some o → g.get? b = some o := by
          intro R s' c' hm hc' hS'
          obtain ⟨g, g2, d', tk', os'⟩ := s'
          have eg : g2 = s.gens := hm.gens
          have ed : d' = s.drawn := hm.drawn
          have eo : os' = s.os := hm.os
          subst eg ed eo
          refine ⟨g, tk', c', rfl, hS', hz ▸ hc', fun b o e => ?_⟩
          have hb0 : b < s.heap.objs.size := Heap.lt_size e
          have hb2 : b ≠ (s.heap.push (fresh0 w)).objs.size := by
            rw [Heap.size_push]
            exact Nat.ne_of_lt (Nat.lt_succ_of_lt hb0)
          exact hm.heap b o (by simp only [List.mem_cons, List.mem_singleton, List.not_mem_nil, or_false, not_or]; exact ⟨Nat.ne_of_lt hb0, hb2⟩) (Heap.get?_push_of_some _ (Heap.get?_push_of_some _ e))
        cases t with
        | true =>
          obtain ⟨⟨ocls, odict, odata, oslots⟩, hol, hcl, nl, hdl⟩ := hl
          simp only at hcl hdl
          subst hcl hdl
          have hol' : (s.heap.push (fresh0 w)).get? l = some { cls := .type "tuple", dict := odict, data := .seq items nl, slots := oslots } := Heap.get?_push_of_some _ hol
          have hsls := F.sub_tuple_set
          have hslf := F.sub_tuple_frozenset
          have hne : (Value.type "tuple" == Value.type "dict") = false := by decide
          have hl1 : (s.heap.push (fresh0 w)).IsTuple l items := ⟨_, hol', rfl, nl, rfl⟩
          unfold Builtin.«set.__init__» noKeywords Builtin.Frozenset.updateFrom
          generalize hPI : pyIter = PI
          wp_walk
          subst hPI
          refine wpAny_pyIter_tuple hl1 (wpAny_bind (wpAny_runValue ?_))
          refine update ((Walks.tuple hh3 _ l hneI items).toS) s.heap.objs.size hSf xs hz hb hv (items.size - 0) 0 _ (by omega) (Nat.zero_le _) ⟨⟨_, Heap.get?_push_size _ rfl, rfl, rfl⟩, (hl1.push _)⟩ ⟨0, Nat.le_refl 0, (SetT.new (Heap.get?_push_of_some _ hS)).congr fun j => by simp⟩ fun s' c' hm hc' hS' => ?_
          show wpAny _ _ _ _ _ _
          refine wpAny_pure ?_
          show wpAny _ _ (ret Value.none) _ _ _
          exact wpAny_pure ⟨rfl, fin (R := fun _ _ => True) hm hc' hS'⟩
        | false =>
          obtain ⟨⟨ocls, odict, odata, oslots⟩, hol, hcl, nl, hdl⟩ := hl
          simp only at hcl hdl
          subst hcl hdl
          have hol' : (s.heap.push (fresh0 w)).get? l = some { cls := .type "list", dict := odict, data := .seq items nl, slots := oslots } := Heap.get?_push_of_some _ hol
          have hsls := F.sub_list_set
          have hslf := F.sub_list_frozenset
          have hne : (Value.type "list" == Value.type "dict") = false := by decide
          have hl1 : (s.heap.push (fresh0 w)).IsList l items := ⟨_, hol', rfl, nl, rfl⟩
          unfold Builtin.«set.__init__» noKeywords Builtin.Frozenset.updateFrom
          generalize hPI : pyIter = PI
          wp_walk
          subst hPI
          refine wpAny_pyIter_list hl1 (wpAny_bind (wpAny_runValue ?_))
          refine update ((Walks.list hh3 _ l hneI items).toS) s.heap.objs.size hSf xs hz hb hv (items.size - 0) 0 _ (by omega) (Nat.zero_le _) ⟨⟨_, Heap.get?_push_size _ rfl, rfl, rfl⟩, (hl1.push _)⟩ ⟨0, Nat.le_refl 0, (SetT.new (Heap.get?_push_of_some _ hS)).congr fun j => by simp⟩ fun s' c' hm hc' hS' => ?_
          show wpAny _ _ _ _ _ _
          refine wpAny_pure ?_
          show wpAny _ _ (ret Value.none) _ _ _
          exact wpAny_pure ⟨rfl, fin (R := fun _ _ => True) hm hc' hS'⟩
      · cases r₂ with
        | error e => exact hr₂
        | ok fl₂ =>
          cases fl₂ with
          | ret r =>
            obtain ⟨rfl, g, tk, c, rfl, hS', hc', hk'⟩ := hr₂
            repeat (any_goals (first | assumption | wp_step))
            exact h _ _ _ hS' hc' hk'
          | _ => exact hr₂.elim
    | _ => exact hr.elim
end
end SX
namespace SX
open PySem PySem.Spec PyProof.Rows L2 ZS
section
variable {P : Program} {w : World} {A : Around} {E : Value → Shared → Prop} {s : Shared} {a : Addr} {M : Str → Prop} {n : Nat}
theorem sorted_of {Q : Value → Shared → Prop} (R : SetT w s.heap a M n) (hh : A.handled = none) (hn : n ≤ 100000) (hu : A.units + 2 < cLine)
    (hQ : ∀ s' p (out : List Value) (c : Nat) (bs : List Str), (∀ b o, s.heap.get? b = some o → s'.heap.get? b = some o) → s'.gens = s.gens → s'.os = s.os → s.heap.objs.size ≤ p → s'.heap.get? p = some (seqObj "list" out.toArray c) → bs.Nodup → (∀ k, k ∈ bs ↔ M k) → bs.length = n →
      PySem.W.EachIs (fun v k => ∃ u, v = Value.str k u) out (bs.mergeSort (PySem.W.dataLe false PyData.str)) → Q (.ref p) s') :
    wpAny (model P w) A (call (.builtin "sorted") [.ref a]) Q E s := by
  obtain ⟨o, es, ep, t, ho, hex, hd, q, nd, hm, hb, hf, hsz, hr, hl⟩ := R
  refine Calls.call_function_entry kind_sorted plain_sorted entry_sorted (args_sorted1 _) ?_
  unfold Builtin.«sorted»
  refine wpAny_bind (m := checkCount "sorted" 1 1 _) (wpAny_pure (wpAny_bind (collect_set (A := A.in1) hh ⟨o, ho, hex.1, hd⟩ hf hb hr hl fun s1 vs k1 hz g1 o1 pm => ?_)))
  have hvl : vs.length = n := by rw [pm.length_eq, List.length_map, Array.length_toList]; exact hsz
  have hv : ∀ v ∈ vs, ∃ k u, v = Value.str k u := fun v hv => by
    obtain ⟨e, he, rfl⟩ := List.mem_map.mp (pm.mem_iff.mp hv)
    obtain ⟨k, u, h1, _⟩ := q e he
    exact ⟨k, u, h1⟩
  let bs : List Str := vs.map fun v => match v with | .str k _ => k | _ => Str.empty
  have each : ∀ us : List Value, (∀ v ∈ us, ∃ k u, v = Value.str k u) → PySem.W.EachIs (fun v k => ∃ u, v = Value.str k u) us (us.map fun v => match v with | .str k _ => k | _ => Str.empty) := by
    intro us
    induction us with
    | nil => exact fun _ => .nil
    | cons v us ih =>
      intro h
      obtain ⟨k, u, rfl⟩ := h v (List.mem_cons_self ..)
      exact .cons ⟨u, rfl⟩ (ih fun y hy => h y (List.mem_cons_of_mem _ hy))
  have hea := each vs hv
  have pk : bs.Perm (es.toList.map keyT) := by
    have z := pm.map fun v : Value => match v with | .str k _ => k | _ => Str.empty
    rw [List.map_map] at z
    exact z
  refine wpAny_bind (wpAny_newList ?_ (by rw [hvl, sizeLine_eq]; omega))
  have hoL : (s1.heap.push (seqObj "list" vs.toArray 0)).get? s1.heap.objs.size = some (seqObj "list" vs.toArray 0) := Heap.get?_push_size _ rfl
  have hal : PySem.W.AllAlike (bs.map PyData.str) := fun x hx y hy => by
    obtain ⟨i, _, rfl⟩ := List.mem_map.mp hx
    obtain ⟨j, _, rfl⟩ := List.mem_map.mp hy
    simp [PySem.W.alike]
  have hso : PySem.W.Sortable (bs.map PyData.str) := .inr fun x hx => by
    obtain ⟨i, _, rfl⟩ := List.mem_map.mp hx
    exact ⟨(by intro e; cases e), (by intro xs e; cases e)⟩
  refine wpAny_bind (wpAny_holding (PySem.W.list_sort_data (s := { s1 with heap := s1.heap.push (seqObj "list" vs.toArray 0) }) (enc := PyData.str) hoL hea (hea.mono fun v k ⟨u, e⟩ => ⟨[], e ▸ .str _ _, by simp⟩) hal hso (by show bs.length ≤ _; rw [List.length_map, hvl, sizeLine_eq]; omega) (fun b _ => by
    show A.in1.units + 1 + 0 < cLine
    have : A.in1.units ≤ A.units + 1 := (by simp)
    omega) fun out ol oe => ?_))
  obtain ⟨c, hc⟩ := sortedHeap_at (vs := vs) (out := out.toArray) hoL
  refine wpAny_pure ⟨_, rfl, hQ _ s1.heap.objs.size out c bs (fun b u e => ?_) g1 o1 hz hc (pk.nodup_iff.mpr nd) (fun k => by rw [pk.mem_iff, ← hm k]) (by show bs.length = n; rw [List.length_map, hvl]) oe⟩
  have z := k1 b u e
  have hlt := Heap.lt_size z
  show (sortedHeap (s1.heap.push (seqObj "list" vs.toArray 0)) s1.heap.objs.size vs out.toArray).get? b = some u
  rw [sortedHeap_old (Nat.ne_of_lt hlt) (by rw [Heap.size_push]; exact Nat.lt_succ_of_lt hlt)]
  exact Heap.get?_push_of_some _ z
end
def SetX (w : World) (a : Addr) (M : Str → Prop) (n : Nat) : HO := .ext fun g => SetT w g a M n
section
variable {X : Cx} {pins : List (Addr × Obj)} {σ : L2.St} {H : Hp} {s : Shared} {a : Addr} {M : Str → Prop} {n : Nat}
theorem setX_new {w : World} {P : Program} {H : Hp} {g : Heap} (R : SetT w g a M n) : ObjOk P w H g a (SetX w a M n) := by
  have ⟨o, _, _, _, ho, _⟩ := R
  exact ⟨R, ⟨o, ho⟩, fun h1 h2 p k => p.at k⟩
theorem setX_get (I : Inv X pins σ H s) (ha : H a = some (SetX X.w a M n)) : SetT X.w s.heap a M n := (I.hok a _ ha).1
end
theorem inv_drawn {X : Cx} {pins : List (Addr × Obj)} {σ : L2.St} {H : Hp} {s : Shared} (I : Inv X pins σ H s) (dd : Drawn) : Inv X pins σ H { s with drawn := dd } :=
  I.step (h' := s.heap) (g' := s.gens) (t' := s.toks) (d' := dd) (ch := []) (fun _ z => nomatch z) (fun b o _ _ _ e _ => e) (fun b o _ _ _ e _ => ⟨o.slots, e⟩) (fun _ _ _ _ n => n) (fun b o _ e => ⟨o, e⟩) (fun _ _ e => e) (fun _ _ _ e => e) (fun b ps e => ⟨#[], by rw [e]; simp⟩) (fun m hm => hm) I.hok I.bare
def rSetX (K : PySem.W.Frag) (w : World) : List V → Hp → VK → Prop := fun xs H Q => ∃ (l : Addr) (ys : List Str) (t : Bool), xs = [.ref l] ∧ SqB K H t l (ys.map V.str) ∧ ys.length ≤ 1000 ∧ ∀ (p : Addr) (c : Nat), H p = none → c ≤ ys.length → Q (.ref p) (upd H p (SetX w p (fun k => k ∈ ys) c))
theorem vals_strs : ∀ {ys : List Str} {us : List Value}, Vals (ys.map V.str) us → ∀ (i : Nat) (v : Value), us[i]? = some v → ∃ k u, ys[i]? = some k ∧ v = .str k u
  | [], us, h, i, v, e => by cases h; simp at e
  | y :: ys, us, h, i, v, e => by
    cases h with
    | cons r rs =>
      obtain ⟨u, rfl⟩ := r
      cases i with
      | zero =>
        simp at e
        exact ⟨y, u, rfl, e.symm⟩
      | succ i => exact vals_strs rs i v (by simpa using e)
theorem cr_setX {X : Cx} (hc : X.calm = true) : CallR X (.type "set") (rSetX X.K X.w) := by
  intro pins s σ H xs us Q I r h
  obtain ⟨l, ys, t, rfl, hq, hl, q⟩ := h
  obtain ⟨its, rv, hs, _⟩ := sq_of I hq
  rw [Vals.ref1 r]
  have hlen : its.toArray.size = ys.length := by rw [List.size_toArray, ← rv.length, List.length_map]
  refine make ys (I.ok.hd hc) hs (fun i v e => vals_strs rv i v (by simpa using e)) hlen (by unfold scanBound; omega) fun g tk c R hcl hk => ?_
  exact ⟨.ref _, upd H s.heap.objs.size (SetX X.w s.heap.objs.size (fun k => k ∈ ys) c), I.laid (t' := tk) hk (Nat.le_refl _) (setX_new R), rfl, q _ c (I.hok.fresh (Nat.le_refl _)) hcl⟩
def rSortX (w : World) : List V → Hp → VK → Prop := fun xs H Q => ∃ (a : Addr) (M : Str → Prop) (c : Nat), xs = [.ref a] ∧ H a = some (SetX w a M c) ∧ c ≤ 1000 ∧ ∀ (bs : List Str) (p : Addr), bs.Nodup → (∀ k, k ∈ bs ↔ M k) → H p = none → Q (.ref p) (upd H p (.lst ((bs.mergeSort (PySem.W.dataLe false PyData.str)).map V.str)))
theorem each_vals : ∀ {out : List Value} {bs : List Str}, PySem.W.EachIs (fun v k => ∃ u, v = Value.str k u) out bs → Vals (bs.map V.str) out
  | _, _, .nil => .nil
  | _, _, .cons ⟨u, e⟩ t => .cons ⟨u, e⟩ (each_vals t)
theorem cr_sortX {X : Cx} (hc : X.calm = true) (hu : X.A.units + 2 < cLine) : CallR X (.builtin "sorted") (rSortX X.w) := by
  intro pins s σ H xs us Q I r h
  obtain ⟨a, M, c, rfl, ha, hcl, q⟩ := h
  rw [Vals.ref1 r]
  refine sorted_of (setX_get I ha) (I.ok.hd hc) (by omega) hu fun s' p out e bs k1 g1 o1 hp hob nd hm hbl oe => ?_
  obtain ⟨g, gg, dd, tk, os⟩ := s'
  have e1 : gg = s.gens := g1
  have e2 : os = s.os := o1
  subst e1 e2
  have rv := each_vals oe
  have hlen : ((bs.mergeSort (PySem.W.dataLe false PyData.str)).map V.str).length ≤ sizeLine := by rw [List.length_map, List.length_mergeSort, sizeLine_eq, hbl]; omega
  exact ⟨.ref p, upd H p (.lst ((bs.mergeSort (PySem.W.dataLe false PyData.str)).map V.str)), (inv_drawn I dd).laid (t' := tk) k1 hp ⟨hlen, out, e, rv, hob⟩, rfl, q bs p nd hm (I.hok.fresh hp)⟩
end SX
namespace NS
open PySem PySem.Spec PyProof.Rows L2
abbrev KS (P : Program) (w : World) := PySem.strKind P w
abbrev IsW (P : Program) (w : World) (g : Heap) (k : List Str) (a : Addr) : Prop := IsTupleKey (KS P w) g k a
abbrev wh (P : Program) (w : World) (k : List Str) : Int := tupleKeyHash (KS P w) k
abbrev Row := Addr × List Str
section
variable {P : Program} {w : World} {g g' : Heap} {k : List Str} {a b : Addr}
theorem IsW.up (x : IsW P w g k a) (e : ∀ o, g.get? a = some o → g'.get? a = some o) : IsW P w g' k a := by
  obtain ⟨o, its, n, h1, r⟩ := x
  exact ⟨o, its, n, e o h1, r⟩
theorem txts {vs : List Value} (h : ItemsAre (KS P w) k vs) : ∀ v ∈ vs, ∃ x t, v = Value.str x t := by
  induction h with
  | nil => exact fun v z => nomatch z
  | cons h1 _ ih =>
    intro v hv
    rcases List.mem_cons.mp hv with rfl | hv
    · obtain ⟨t, e⟩ := Value.isStrOf_shape h1
      exact ⟨_, t, e⟩
    · exact ih v hv
end
section
variable {P : Program} {w : World} {A : Around} {E : Value → Shared → Prop} {s : Shared} {k : List Str} {b : Addr}
theorem stmt_str (n : Nat) (x : Str) (t : Tok) : ofAClassStatement n (.str x t) = pure false := by cases n <;> rfl
theorem hash_str (n : Nat) (x : Str) (t : Tok) : hashByValue n (.str x t) = pure false := by cases n <;> rfl
theorem no_stmt {Q : Bool → Shared → Prop} (x : IsW P w s.heap k b) (h : Q false s) : wpAny (model P w) A (ofAClassStatement 8 (.ref b)) Q E s := by
  have ty := x.typeIs
  obtain ⟨o, its, n, ho, _, hd, hi⟩ := x
  unfold ofAClassStatement
  refine wpAny_bind (wpAny_typeOf ty ?_)
  dsimp only
  have e : (("tuple" : String) == "tuple") = true := by decide
  simp only [e, if_true, Bool.not_true, Bool.false_eq_true, if_false]
  try refine wpAny_bind (wpAny_pure ?_)
  try simp only [Bool.not_true, Bool.false_eq_true, if_false]
  show wpAny _ _ (seqItems? (.ref b) >>= _) _ _ s
  refine wpAny_bind (wpAny_seqItems ho hd ?_)
  dsimp only
  refine wpAny_bind ?_
  show wpAny _ _ (forIn its _ _) _ _ s
  rw [← Array.forIn_toList]
  refine wpAny_forIn_list _ (fun rest r s' => r.1 = none ∧ s' = s ∧ ∀ v ∈ rest, ∃ x t, v = Value.str x t) _ (fun v rest r s' hr => ?_) (fun r s' hr => ?_) _ _ ⟨rfl, rfl, txts hi⟩
  · obtain ⟨_, rfl, hall⟩ := hr
    obtain ⟨x, t, rfl⟩ := hall v List.mem_cons_self
    rw [stmt_str]
    refine wpAny_bind (wpAny_pure ?_)
    simp only [Bool.false_eq_true, if_false]
    exact wpAny_pure ⟨rfl, rfl, fun u hu => hall u (List.mem_cons_of_mem _ hu)⟩
  · obtain ⟨r1, r2⟩ := r
    obtain ⟨h1, rfl, _⟩ := hr
    dsimp only at h1
    subst h1
    exact wpAny_pure h
theorem by_value {Q : Bool → Shared → Prop} (x : IsW P w s.heap k b) (h : ∀ c, Q c s) : wpAny (model P w) A (hashByValue 8 (.ref b)) Q E s := by
  have ty := x.typeIs
  obtain ⟨o, its, n, ho, _, hd, hi⟩ := x
  unfold hashByValue
  refine wpAny_bind (wpAny_specialOf ty F.slot_tuple_hash.lookup ?_)
  show wpAny _ _ (seqItems? (.ref b) >>= _) _ _ s
  refine wpAny_bind (wpAny_seqItems ho hd ?_)
  refine wpAny_bind ?_
  show wpAny _ _ (forIn its _ _) _ _ s
  rw [← Array.forIn_toList]
  have ht := txts hi
  cases q : its.toList with
  | nil => exact wpAny_pure (wpAny_pure (h true))
  | cons v vs =>
    obtain ⟨y, t, rfl⟩ := ht v (by rw [q]; exact List.mem_cons_self)
    rw [List.forIn_cons, hash_str]
    refine wpAny_bind (wpAny_bind (wpAny_pure ?_))
    simp only [Bool.not_false, if_true]
    exact wpAny_pure (wpAny_pure (wpAny_pure (h false)))
theorem unseen {Q : Bool → Shared → Prop} (x : IsW P w s.heap k b) {ys : List Value} (hy : ∀ y ∈ ys, ∃ k' c, y = Value.ref c ∧ IsW P w s.heap k' c) (h : Q false s) : wpAny (model P w) A (searchCouldBeSeen (.ref b) ys) Q E s := by
  unfold searchCouldBeSeen
  refine wpAny_bind (wpAny_forIn_list _ (fun rest r s' => r.1 = none ∧ s' = s ∧ ∀ y ∈ rest, ∃ k' c, y = Value.ref c ∧ IsW P w s.heap k' c) _ (fun v rest r s' hr => ?_) (fun r s' hr => ?_) _ _ ⟨rfl, rfl, hy⟩)
  · obtain ⟨_, rfl, hall⟩ := hr
    obtain ⟨k', c, rfl, hc⟩ := hall v List.mem_cons_self
    have more := fun u hu => hall u (List.mem_cons_of_mem _ hu)
    dsimp only
    split
    · exact wpAny_pure ⟨rfl, rfl, more⟩
    · refine wpAny_bind (wpAny_eqIsQuiet_tuple x ?_)
      simp only [Bool.not_true, Bool.false_eq_true, if_false]
      refine wpAny_bind (wpAny_eqIsQuiet_tuple hc ?_)
      simp only [Bool.not_true, Bool.false_eq_true, if_false]
      refine wpAny_bind (no_stmt x ?_)
      simp only [Bool.false_eq_true, if_false]
      refine wpAny_bind (no_stmt hc ?_)
      simp only [Bool.false_eq_true, if_false]
      exact wpAny_pure ⟨rfl, rfl, more⟩
  · obtain ⟨r1, r2⟩ := r
    obtain ⟨h1, rfl, _⟩ := hr
    dsimp only at h1
    subst h1
    exact wpAny_pure h
end
abbrev wayP (m : Nat) (h : Int) (c : Nat) : SetTable.Probe := nth m (runAt m (SetTable.bits h % (m + 1)) (SetTable.bits h)) c
theorem way_dummy (m : Nat) (h : Int) : ∀ c, (wayP m h c).dummy = none := by
  have key : ∀ (n : Nat) (p : SetTable.Probe), p.dummy = none → (nth m p n).dummy = none := fun n => by
    induction n with
    | zero => exact fun p z => z
    | succ n ih =>
      refine fun p z => ih _ ?_
      unfold adv
      split <;> exact z
  exact fun c => key c _ rfl
theorem way_add (m : Nat) (h : Int) (c q : Nat) : nth m (wayP m h c) q = wayP m h (c + q) := (nth_add m c _ q).symm
structure Ends (t : SetTable) (h : Int) (K : Nat) : Prop where
  free : way t.mask h K ∉ t.place.toList
  full : ∀ c, c < K → way t.mask h c ∈ t.place.toList
  few : K < 10 * SetTable.turns t.mask
theorem step_of {t : SetTable} {hs : List Int} (T : TabOk t hs) {h : Int} {K c : Nat} (Z : Ends t h K) (hc : c ≤ K) (hashAt : Nat → Int) :
    (∃ q i, c + q < K ∧ t.place.toList[i]? = some (way t.mask h (c + q)) ∧ hashAt i = h ∧ (∀ q' i', q' < q → t.place.toList[i']? = some (way t.mask h (c + q')) → hashAt i' ≠ h) ∧
      t.probe hashAt h (wayP t.mask h c) = some (.candidate (way t.mask h (c + q)) i (wayP t.mask h (c + (q + 1))))) ∨
    ((∀ q' i', c + q' < K → t.place.toList[i']? = some (way t.mask h (c + q')) → hashAt i' ≠ h) ∧ t.probe hashAt h (wayP t.mask h c) = some (.empty (way t.mask h K) none)) := by
  have at_ : ∀ q, (nth t.mask (wayP t.mask h c) q).j = way t.mask h (c + q) := fun q => congrArg SetTable.Probe.j (way_add t.mask h c q)
  have end_ : c + (K - c) = K := by omega
  have z := go_spec t T.ris T.dm hashAt h (10 * SetTable.turns t.mask) (K - c) (wayP t.mask h c) (way_dummy _ _ c) (by have := Z.few; omega) (fun q hq => by rw [at_]; exact Z.full _ (by omega)) (by rw [at_, end_]; exact Z.free)
  rcases z with ⟨q, i, hq, h1, h2, h3, h4⟩ | ⟨h1, h2⟩
  · rw [at_] at h1 h4
    rw [way_add] at h4
    exact .inl ⟨q, i, by omega, h1, h2, fun q' i' hq' hi' => h3 q' i' hq' (by rw [at_]; exact hi'), h4⟩
  · rw [at_, end_] at h2
    exact .inr ⟨fun q' i' hq' hi' => h1 q' i' (by omega) (by rw [at_]; exact hi'), h2⟩
def rws (P : Program) (w : World) (L : List Row) : List (Int × Value) := L.map fun p => (wh P w p.2, Value.ref p.1)
structure SetW (P : Program) (w : World) (g : Heap) (a : Addr) (L : List Row) (es : Array (Int × Value)) (ep : Nat) (t : SetTable) : Prop where
  ob : ∃ o, g.get? a = some o ∧ o.ExactSet ∧ o.data = .set es ep t
  rows : es.toList = rws P w L
  tab : TabOk t (L.map fun p => wh P w p.2)
  nd : (L.map (·.2)).Nodup
  tup : ∀ p ∈ L, IsW P w g p.2 p.1
  led : w.params.followText "set-order" = true ∨ t.led = true
  room : L.length * 5 < t.mask * 3
  few : L.length < 64
theorem len_of {P : Program} {w : World} {L : List Row} {es : Array (Int × Value)} (h : es.toList = rws P w L) : es.size = L.length := by
  rw [← Array.length_toList, h]
  exact List.length_map _
theorem ent_of {P : Program} {w : World} {L : List Row} {es : Array (Int × Value)} (h : es.toList = rws P w L) {i : Nat} {p : Row} (e : L[i]? = some p) : es[i]? = some (wh P w p.2, Value.ref p.1) := by
  rw [← Array.getElem?_toList, h]
  show (L.map _)[i]? = _
  rw [List.getElem?_map, e]
  rfl
theorem fits_of {t : SetTable} {es : Array (Int × Value)} {n : Nat} (h1 : t.place.size = n) (h2 : es.size = n) (hd : t.dummies = #[]) (h3 : n ≤ t.mask) : t.fits es.size = true := by
  unfold SetTable.fits SetTable.fill
  rw [hd, Bool.and_eq_true, beq_iff_eq, decide_eq_true_eq]
  refine ⟨by rw [h1, h2], ?_⟩
  show t.place.size + 0 ≤ t.mask
  omega
section
variable {P : Program} {w : World} {A : Around} {E : Value → Shared → Prop} {s : Shared} {a : Addr} {L : List Row} {es : Array (Int × Value)} {ep : Nat} {t : SetTable}
theorem SetW.places (R : SetW P w s.heap a L es ep t) : t.place.size = L.length := by rw [R.tab.sz, List.length_map]
theorem SetW.fits (R : SetW P w s.heap a L es ep t) : t.fits es.size = true := fits_of R.places (len_of R.rows) R.tab.dm (by have := R.room; omega)
theorem gave_not (T : TabOk t (L.map fun p => wh P w p.2)) : ¬ t.gaveWay = true := by
  unfold SetTable.gaveWay
  rw [mask_odd T.mok]
  decide
def Ahead (t : SetTable) (L : List Row) (h : Int) (k : List Str) (K c : Nat) : Prop := ∀ (i : Nat) (p : Row), L[i]? = some p → p.2 = k → ∃ c', c ≤ c' ∧ c' < K ∧ t.place.toList[i]? = some (way t.mask h c')
theorem search {x : Addr} {k : List Str} {K : Nat} {Q : SetFound → Shared → Prop} (R : SetW P w s.heap a L es ep t) (hx : IsW P w s.heap k x) (hu : A.units < cLine) (Z : Ends t (wh P w k) K) (hin : k ∈ L.map (·.2) → Q (.there none) s) (hout : k ∉ L.map (·.2) → Q (.free (way t.mask (wh P w k) K) false) s) :
    ∀ (f c : Nat) (stand : Option SetTable.Probe), stand.getD (t.probeStart (wh P w k)) = wayP t.mask (wh P w k) c → c ≤ K → K < c + f → Ahead t L (wh P w k) k K c → wpAny (model P w) A (setSearchFrom a (.ref x) (wh P w k) true f stand) Q E s := by
  obtain ⟨o, ho, hex, hd⟩ := R.ob
  intro f
  induction f with
  | zero => exact fun c _ _ h1 h2 => absurd h2 (by omega)
  | succ f ih =>
    intro c stand hst hc hf hre
    rw [setSearchFrom_succ]
    refine wpAny_bind (wpAny_setState_of ho hd R.fits ?_)
    dsimp only
    refine wp_if_neg (gave_not R.tab) ?_
    try refine wpAny_bind (wpAny_pure ?_)
    have hash : ∀ (i : Nat) (p : Row), L[i]? = some p → (fun i => (es[i]?.map (·.1)).getD 0) i = wh P w p.2 := fun i p e => by
      show (es[i]?.map (·.1)).getD 0 = _
      rw [ent_of R.rows e]
      rfl
    rw [hst]
    rcases step_of R.tab Z hc (fun i => (es[i]?.map (·.1)).getD 0) with ⟨q, i, hq, hi, hh, hno, hpr⟩ | ⟨hno, hpr⟩
    · rw [hpr]
      dsimp only
      obtain ⟨p, hp⟩ : ∃ p, L[i]? = some p := by
        have z := (List.getElem?_eq_some_iff.mp hi).1
        rw [Array.length_toList, R.places] at z
        exact ⟨_, List.getElem?_eq_getElem z⟩
      have hpt := R.tup p (List.mem_of_getElem? hp)
      have go : wpAny (model P w) A (searchRest a (.ref x) (wh P w k) true f es t (way t.mask (wh P w k) (c + q)) i (wayP t.mask (wh P w k) (c + (q + 1)))) Q E s := by
        unfold searchRest
        rw [ent_of R.rows hp]
        dsimp only
        refine wpAny_bind (wpAny_holding (wpAny_eqBool_tuple hu hpt hx (wpAny_bind (wpAny_setState_of ho hd R.fits ?_))))
        dsimp only
        by_cases same : p.2 = k
        · refine wp_if_pos (by simp [same]) (wpAny_pure (hin (List.mem_map.mpr ⟨p, List.mem_of_getElem? hp, same⟩)))
        · refine wp_if_neg (by simp [same]) ?_
          try refine wpAny_bind (wpAny_pure ?_)
          rw [sameMem]
          dsimp only
          have hsl : t.slot (way t.mask (wh P w k) (c + q)) = .live i := slot_live R.tab.ris hi
          simp only [if_true, hsl, ent_of R.rows hp]
          refine wpAny_bind (wpAny_isSame_ref_self (wpAny_bind (wpAny_pure ?_)))
          simp only [if_true]
          refine wp_if_neg (by simp [same]) (ih (c + (q + 1)) _ rfl (by omega) (by omega) fun i0 p0 e0 k0 => ?_)
          obtain ⟨c', a1, a2, a3⟩ := hre i0 p0 e0 k0
          have h0 := (hash i0 p0 e0).trans (congrArg (wh P w) k0)
          have n1 : ¬ c' < c + q := fun z => hno (c' - c) i0 (by omega) (by rw [show c + (c' - c) = c' by omega]; exact a3) h0
          have n2 : c' ≠ c + q := fun z => by
            rw [z] at a3
            have z2 := slot_live R.tab.ris a3
            rw [hsl] at z2
            injection z2 with z2
            rw [← z2, hp] at e0
            cases e0
            exact same k0
          exact ⟨c', by omega, a2, a3⟩
      by_cases hl : t.led = true
      · refine wp_if_neg (by simp [hl]) ?_
        try refine wpAny_bind (wpAny_pure ?_)
        exact go
      · refine wp_if_pos (by simp [hl]) (wpAny_bind (unseen hx (fun y hy => ?_) ?_))
        · obtain ⟨e, he, rfl⟩ := List.mem_map.mp hy
          have he2 : e ∈ es.toList := by
            have z : e ∈ es ∧ e.1 = wh P w k := by simpa using he
            simpa using z.1
          rw [R.rows] at he2
          obtain ⟨p2, m2, rfl⟩ := List.mem_map.mp he2
          exact ⟨p2.2, p2.1, rfl, R.tup p2 m2⟩
        · refine wp_if_neg (by decide) ?_
          try refine wpAny_bind (wpAny_pure ?_)
          exact go
    · rw [hpr]
      dsimp only
      refine wpAny_pure (hout fun hm => ?_)
      obtain ⟨p0, m0, k0⟩ := List.mem_map.mp hm
      obtain ⟨i0, l0, e0⟩ := List.getElem_of_mem m0
      have e00 : L[i0]? = some p0 := by rw [List.getElem?_eq_getElem l0, e0]
      obtain ⟨c', a1, a2, a3⟩ := hre i0 p0 e00 k0
      exact hno (c' - c) i0 (by omega) (by rw [show c + (c' - c) = c' by omega]; exact a3) ((hash i0 p0 e00).trans (congrArg (wh P w) k0))
theorem turns_le {t : SetTable} (h : MaskOk t.mask) : 10 * SetTable.turns t.mask ≤ 1420 := by
  unfold SetTable.turns
  rcases h with e | e | e <;> omega
theorem found {x : Addr} {k : List Str} {Q : SetFound → Shared → Prop} (R : SetW P w s.heap a L es ep t) (hx : IsW P w s.heap k x) (hu : A.units < cLine) (hin : k ∈ L.map (·.2) → Q (.there none) s)
    (hout : ∀ K, Ends t (wh P w k) K → k ∉ L.map (·.2) → Q (.free (way t.mask (wh P w k) K) false) s) : wpAny (model P w) A (setSearch a (.ref x) (wh P w k) true) Q E s := by
  obtain ⟨K, z1, z2, z3⟩ := R.tab.first (by rw [List.length_map]; have := R.room; omega) (wh P w k)
  have big := turns_le R.tab.mok
  unfold setSearch
  refine search R hx hu ⟨z2, z3, z1⟩ hin (hout K ⟨z2, z3, z1⟩) 100000 0 none rfl (Nat.zero_le _) (by omega) fun i p e hk => ?_
  have l : i < t.place.toList.length := by
    rw [Array.length_toList, R.places]
    exact (List.getElem?_eq_some_iff.mp e).1
  have hj := List.getElem?_eq_getElem l
  obtain ⟨c, hc, ec⟩ := R.tab.before (h := wh P w k) z2 (by rw [List.getElem?_map, e, ← hk]; rfl) hj
  exact ⟨c, Nat.zero_le _, hc, by rw [hj, ec]⟩
end
end NS
namespace NS
open PySem PySem.Spec PyProof.Rows L2
section
variable {P : Program} {w : World} {g g' : Heap} {k : List Str} {a b : Addr} {L : List Row} {es : Array (Int × Value)}
theorem IsW.beside {o : Obj} {ep : Nat} {t : SetTable} (x : IsW P w g k b) (ho : g.get? a = some o) (hd : o.data = .set es ep t) (sb : Heap.SameBut a g g') : IsW P w g' k b := by
  obtain ⟨o2, its, n, h1, h2, h3, h4⟩ := x
  have ne : b ≠ a := fun z => by
    rw [z, ho] at h1
    cases h1
    rw [hd] at h3
    cases h3
  exact ⟨o2, its, n, (sb.2 b ne).trans h1, h2, h3, h4⟩
theorem get_map (h : es.toList = rws P w L) (i : Nat) : es[i]? = (L[i]?).map fun p => (wh P w p.2, Value.ref p.1) := by
  rw [← Array.getElem?_toList, h]
  exact List.getElem?_map
theorem reorder (h : es.toList = rws P w L) (order : Array Nat) (pm : order.toList.Perm (List.range L.length)) :
    ∃ L2 : List Row, (order.filterMap (es[·]?)).toList = rws P w L2 ∧ L2.Perm L ∧ (L2.map fun p => wh P w p.2) = order.toList.map fun i => (es.map (·.1)).getD i 0 := by
  refine ⟨order.toList.filterMap (L[·]?), ?_, ?_, ?_⟩
  · rw [Array.toList_filterMap]
    unfold rws
    rw [List.map_filterMap]
    exact congrArg (fun f => List.filterMap f order.toList) (funext fun i => get_map h i)
  · have z := pm.filterMap fun i => L[i]?
    rw [PySem.List.filterMap_getElem?_range_length] at z
    exact z
  · have key : ∀ l : List Nat, (∀ i ∈ l, i < L.length) → ((l.filterMap (L[·]?)).map fun p => wh P w p.2) = l.map fun i => (es.map (·.1)).getD i 0 := fun l => by
      induction l with
      | nil => exact fun _ => rfl
      | cons i l ih =>
        intro hl
        have hi := hl i List.mem_cons_self
        have e1 : L[i]? = some L[i] := List.getElem?_eq_getElem hi
        have e2 : (es.map (·.1)).getD i 0 = wh P w L[i].2 := by
          have z : (es.map (·.1))[i]? = some (wh P w L[i].2) := by
            rw [Array.getElem?_map, get_map h i, e1]
            rfl
          simp [Array.getD_eq_getD_getElem?, z]
        rw [List.filterMap_cons_some e1, List.map_cons, List.map_cons, e2, ih fun j hj => hl j (List.mem_cons_of_mem _ hj)]
    exact key _ fun i hi => List.mem_range.mp (pm.mem_iff.mp hi)
end
section
variable {P : Program} {w : World} {A : Around} {E : Value → Shared → Prop} {s : Shared} {a : Addr} {L : List Row} {es : Array (Int × Value)} {ep : Nat} {t : SetTable}
theorem relay {o : Obj} {wanted M : Nat} {Q : Unit → Shared → Prop} (ho : s.heap.get? a = some o) (hex : o.ExactSet) (hd : o.data = .set es ep t) (rows : es.toList = rws P w L) (pl : t.place.size = L.length) (dm : t.dummies = #[]) (fl : L.length ≤ t.mask)
    (nd : (L.map (·.2)).Nodup) (tup : ∀ p ∈ L, IsW P w s.heap p.2 p.1) (ld : w.params.followText "set-order" = true ∨ t.led = true) (few : L.length < 64) (hw : SetTable.sizeAbove wanted - 1 = M) (hM : MaskOk M) (hb : SetTable.sizeAbove wanted ≤ 128) (hn : L.length * 5 < M * 3)
    (hQ : ∀ g L2 es2 ep2 t2, Heap.SameBut a s.heap g → SetW P w g a L2 es2 ep2 t2 → L2.Perm L → Q () { s with heap := g }) : wpAny (model P w) A (setRelay a wanted) Q E s := by
  have sz := len_of rows
  obtain ⟨t2, order, e, pm, T, em, el, _, _⟩ := relaid_ok t (hs := es.map (·.1)) (wanted := wanted) hw hM (by rw [Array.size_map, sz]; omega)
  rw [Array.size_map, sz] at pm
  obtain ⟨L2, r1, r2, r3⟩ := reorder rows order pm
  rw [← r3] at T
  have sz2 : (order.filterMap (es[·]?)).size = L.length := (len_of r1).trans r2.length_eq
  rw [setRelay_eq]
  refine wpAny_bind (wpAny_setState_of ho hd (fits_of pl sz dm fl) ?_)
  dsimp only
  refine wp_if_neg (by rw [sizeLine_eq]; omega) ?_
  try refine wpAny_bind (wpAny_pure ?_)
  rw [e]
  dsimp only
  refine wpAny_bind ?_
  refine wp_if_neg (by rw [sz2, sz]; simp) ?_
  try refine wpAny_bind (wpAny_pure ?_)
  refine wpAny_pure ?_
  dsimp only
  refine wpAny_storeSet_of ho hd ?_ (by rw [sz2, sizeLine_eq]; omega)
  have sb := Heap.SameBut.update s.heap a (Obj.putSet (order.filterMap (es[·]?)) t2)
  exact hQ _ L2 _ (ep + 1) t2 sb ⟨⟨_, store_at ho hd, hex, rfl⟩, r1, T, (r2.map (·.2)).nodup_iff.mpr nd, fun p hp => (tup p (r2.mem_iff.mp hp)).beside ho hd sb, by rw [el]; exact ld, by rw [r2.length_eq, em]; exact hn, by rw [r2.length_eq]; exact few⟩ r2
theorem cut_perm {α : Type} (l : List α) (p : Nat) (x : α) : (l.take p ++ x :: l.drop p).Perm (x :: l) := by
  have z : (l.take p ++ x :: l.drop p).Perm (x :: (l.take p ++ l.drop p)) := List.perm_middle
  rwa [List.take_append_drop] at z
theorem put {x : Addr} {k : List Str} {K : Nat} {byV : Bool} {Q : Bool → Shared → Prop} (R : SetW P w s.heap a L es ep t) (hx : IsW P w s.heap k x) (Z : Ends t (wh P w k) K) (hm : k ∉ L.map (·.2)) (hfew : L.length + 1 < 64)
    (hQ : ∀ g L2 es2 ep2 t2, Heap.SameBut a s.heap g → SetW P w g a L2 es2 ep2 t2 → L2.Perm ((x, k) :: L) → Q true { s with heap := g }) {t1 : SetTable} (ht : t1 = (t.put (way t.mask (wh P w k) K)).1 ∨ t1 = { (t.put (way t.mask (wh P w k) K)).1 with plain := false }) :
    wpAny (model P w) A (do
      storeSet a (SetTable.insertAt es (t.put (way t.mask (wh P w k) K)).2 (wh P w k, .ref x)) t1
      if t1.tooFull then setRelay a (SetTable.grown (es.size + 1))
      return true) Q E s := by
  obtain ⟨o, ho, hex, hd⟩ := R.ob
  have room := R.room
  obtain ⟨q1, q2, q3, q4, q5, _, _, _, q9⟩ := R.tab.put Z.free Z.full
  have e1 : t1.mask = t.mask := by rcases ht with rfl | rfl <;> exact q4
  have e2 : t1.led = t.led := by rcases ht with rfl | rfl <;> exact q5
  have e3 : t1.fill = L.length + 1 := by rw [List.length_map] at q9; rcases ht with rfl | rfl <;> exact q9
  have T1 : TabOk t1 ((L.map fun p => wh P w p.2).take (SetTable.below t.place (way t.mask (wh P w k) K)) ++ wh P w k :: (L.map fun p => wh P w p.2).drop (SetTable.below t.place (way t.mask (wh P w k) K))) := by
    rcases ht with rfl | rfl
    · exact q3
    · exact ⟨q3.ris, q3.dm, q3.sz, q3.mok, q3.bd, q3.reach⟩
  clear ht q3 q4 q5 q9
  rw [q1]
  generalize SetTable.below t.place (way t.mask (wh P w k) K) = p at T1 ⊢
  have pm := cut_perm L p (x, k)
  have rows1 : (SetTable.insertAt es p (wh P w k, Value.ref x)).toList = rws P w (L.take p ++ (x, k) :: L.drop p) := by
    rw [SetTable.toList_insertAt, R.rows]
    unfold rws
    rw [List.map_append, List.map_cons, List.map_take, List.map_drop]
  have T1 : TabOk t1 ((L.take p ++ (x, k) :: L.drop p).map fun p => wh P w p.2) := by
    rw [List.map_append, List.map_cons, List.map_take, List.map_drop]
    exact T1
  generalize L.take p ++ (x, k) :: L.drop p = L1 at pm rows1 T1
  have len1 : L1.length = L.length + 1 := pm.length_eq
  have sz1 := len_of rows1
  generalize SetTable.insertAt es p (wh P w k, Value.ref x) = es1 at rows1 sz1 ⊢
  refine wpAny_bind (wpAny_storeSet_of ho hd ?_ (by rw [sz1, len1, sizeLine_eq]; omega))
  have sb := Heap.SameBut.update s.heap a (Obj.putSet es1 t1)
  have ho1 := store_at (es' := es1) (t' := t1) ho hd
  generalize s.heap.update a (Obj.putSet es1 t1) = g1 at sb ho1 ⊢
  have nd1 : (L1.map (·.2)).Nodup := (pm.map (·.2)).nodup_iff.mpr (List.nodup_cons.mpr ⟨hm, R.nd⟩)
  have tup1 : ∀ p ∈ L1, IsW P w g1 p.2 p.1 := fun p hp => by
    rcases List.mem_cons.mp (pm.mem_iff.mp hp) with e | hp
    · rw [e]
      exact hx.beside ho hd sb
    · exact (R.tup p hp).beside ho hd sb
  have ld1 : w.params.followText "set-order" = true ∨ t1.led = true := by rw [e2]; exact R.led
  have pl1 : t1.place.size = L1.length := by rw [T1.sz, List.length_map]
  have full_iff : t1.tooFull = decide ((L.length + 1) * 5 ≥ t.mask * 3) := by
    unfold SetTable.tooFull
    rw [e3, e1]
  by_cases hf : (L.length + 1) * 5 ≥ t.mask * 3
  · have hf1 : t1.tooFull = true := by rw [full_iff]; exact decide_eq_true hf
    have two : (t.mask = 7 ∧ L.length = 4) ∨ (t.mask = 31 ∧ L.length = 18) := by
      rcases R.tab.mok with e | e | e <;> rw [e] at hf room
      · exact .inl ⟨e, by omega⟩
      · exact .inr ⟨e, by omega⟩
      · omega
    have go : ∀ M, SetTable.sizeAbove (SetTable.grown (L.length + 1)) - 1 = M → MaskOk M → SetTable.sizeAbove (SetTable.grown (L.length + 1)) ≤ 128 → (L.length + 1) * 5 < M * 3 →
        wpAny (model P w) A (setRelay a (SetTable.grown (L.length + 1))) (fun _ s' => wpAny (model P w) A (pure true) Q E s') E { s with heap := g1 } := fun M m1 m2 m3 m4 =>
      relay (s := { s with heap := g1 }) ho1 hex rfl rows1 pl1 T1.dm (by rw [len1, e1]; omega) nd1 tup1 ld1 (by rw [len1]; exact hfew) m1 m2 m3 (by rw [len1]; exact m4) fun g2 L2 es2 ep2 t2 sb2 R2 pm2 => wpAny_pure (hQ g2 L2 es2 ep2 t2 (sb.trans sb2) R2 (pm2.trans pm))
    rw [len_of R.rows]
    first
      | (refine wpAny_bind ?_; refine wp_if_pos hf1 ?_)
      | (refine wp_if_pos hf1 ?_; refine wpAny_bind ?_)
    rcases two with ⟨_, z⟩ | ⟨_, z⟩
    · exact go 31 (by rw [z, size_20]) (.inr (.inl rfl)) (by rw [z, size_20]; decide) (by omega)
    · exact go 127 (by rw [z, size_76]) (.inr (.inr rfl)) (by rw [z, size_76]; decide) (by omega)
  · have hf1 : ¬ t1.tooFull = true := by rw [full_iff, decide_eq_true_eq]; exact hf
    first
      | refine wp_if_neg hf1 ?_
      | (refine wpAny_bind ?_; refine wp_if_neg hf1 ?_; refine wpAny_pure ?_)
    exact wpAny_pure (hQ g1 L1 es1 (ep + 1) t1 sb ⟨⟨_, ho1, hex, rfl⟩, rows1, T1, nd1, tup1, ld1, by rw [len1, e1]; omega, by rw [len1]; exact hfew⟩ pm)
theorem add {x : Addr} {k : List Str} {Q : Bool → Shared → Prop} (R : SetW P w s.heap a L es ep t) (hx : IsW P w s.heap k x) (hu : A.units < cLine) (hfew : L.length + 1 < 64)
    (hQ : ∀ b g L2 es2 ep2 t2, Heap.SameBut a s.heap g → SetW P w g a L2 es2 ep2 t2 → (L2 = L ∧ k ∈ L.map (·.2)) ∨ L2.Perm ((x, k) :: L) → Q b { s with heap := g }) : wpAny (model P w) A (setAddHashed a (.ref x) (wh P w k)) Q E s := by
  obtain ⟨o, ho, hex, hd⟩ := R.ob
  unfold setAddHashed
  refine wpAny_holding ?_
  rw [show (100000 : Nat) = 99999 + 1 from rfl, setAddHashedIn_succ]
  refine wpAny_bind (wpAny_setState_of ho hd R.fits ?_)
  dsimp only
  refine wp_if_neg (by simp [byScan, Value.scannable]) ?_
  try refine wpAny_bind (wpAny_pure ?_)
  refine wpAny_bind (found R hx hu (fun hm => ?_) fun K Z hm => ?_)
  · dsimp only
    exact wpAny_pure (hQ false s.heap L es ep t (Heap.SameBut.refl a s.heap) R (.inl ⟨rfl, hm⟩))
  · dsimp only
    refine wpAny_bind (wpAny_setState_of ho hd R.fits ?_)
    dsimp only
    have fin : ∀ t1 : SetTable, (t1 = (t.put (way t.mask (wh P w k) K)).1 ∨ t1 = { (t.put (way t.mask (wh P w k) K)).1 with plain := false }) → wpAny (model P w) A (do
      storeSet a (SetTable.insertAt es (t.put (way t.mask (wh P w k) K)).2 (wh P w k, .ref x)) t1
      if t1.tooFull then setRelay a (SetTable.grown (es.size + 1))
      return true) Q E s := fun t1 ht => put (byV := true) R hx Z hm hfew (fun g L2 es2 ep2 t2 sb R2 pm => hQ true g L2 es2 ep2 t2 sb R2 (.inr pm)) ht
    generalize t.put (way t.mask (wh P w k) K) = pt at fin ⊢
    obtain ⟨t0, p⟩ := pt
    dsimp only at fin ⊢
    split
    · refine wpAny_bind (by_value hx fun c => ?_)
      cases c with
      | true => exact fin _ (.inl rfl)
      | false => exact fin _ (.inr rfl)
    · refine wpAny_bind (wpAny_pure ?_)
      exact fin _ (.inl rfl)
end
end NS
namespace NS
open PySem PySem.Spec PyProof.Rows L2
open SX (fresh0)
open ZS (icl Sq)
section
variable {P : Program} {w : World} {A : Around} {E : Value → Shared → Prop} {s : Shared}
def HasW (P : Program) (w : World) (g : Heap) (a : Addr) (xs : List Row) (i : Nat) : Prop := ∃ L es ep t, SetW P w g a L es ep t ∧ (∀ p ∈ L, p ∈ xs) ∧ (∀ p ∈ xs.take i, p.2 ∈ L.map (·.2)) ∧ L.length ≤ i
theorem SetW.up {g g' : Heap} {a : Addr} {L : List Row} {es : Array (Int × Value)} {ep : Nat} {t : SetTable} (R : SetW P w g a L es ep t) (ha : ∀ o, g.get? a = some o → g'.get? a = some o) (ht : ∀ p ∈ L, IsW P w g' p.2 p.1) : SetW P w g' a L es ep t := by
  obtain ⟨o, h1, r⟩ := R.ob
  exact ⟨⟨o, ha o h1, r⟩, R.rows, R.tab, R.nd, ht, R.led, R.room, R.few⟩
theorem HasW.new {g : Heap} {a : Addr} {xs : List Row} (ho : g.get? a = some (fresh0 w)) : HasW P w g a xs 0 :=
  ⟨[], #[], 0, .fresh 0 0 (!w.params.followText "set-order"), ⟨⟨_, ho, ⟨rfl, rfl, rfl⟩, rfl⟩, rfl, ⟨List.Pairwise.nil, rfl, rfl, .inl rfl, (fun x hx => by cases hx), (fun i h j hi => by simp at hi)⟩, List.nodup_nil, (fun p hp => by cases hp), by
    show _ ∨ (!w.params.followText "set-order") = true
    cases w.params.followText "set-order"
    · exact .inr rfl
    · exact .inl rfl, by show 0 * 5 < 7 * 3; decide, by show 0 < 64; decide⟩, (fun p hp => by cases hp), (fun p hp => by simp at hp), Nat.le_refl _⟩
def Few (xs : List Row) : Prop := xs.length < 64 ∨ ∀ L : List Row, (∀ p ∈ L, p ∈ xs) → (L.map (·.2)).Nodup → L.length < 63
theorem update {I : Addr} {fp wr : List Addr} {G : Array GenState → Array GenState → Prop} {n : Nat} {Pv : Nat → Value → Prop} {St : Nat → Shared → Prop} {R : Result → Shared → Prop} (W : WalksS P w A.in1 I fp wr G n Pv St) (S : Addr) (hSf : S ∉ fp) (xs : List Row) (hn : n = xs.length) (few : Few xs)
    (hval : ∀ i v, Pv i v → ∃ p, xs[i]? = some p ∧ v = .ref p.1) (h0 : Heap) (hk : ∀ p ∈ xs, IsW P w h0 p.2 p.1) (hS0 : h0.get? S = none) (hw0 : ∀ b ∈ wr, h0.get? b = none) (hu : A.in1.units < cLine) :
    ∀ (k i : Nat) (s : Shared), n - i = k → i ≤ n → St i s → (∀ b o, h0.get? b = some o → s.heap.get? b = some o) → HasW P w s.heap S xs i →
      (∀ s', Moved (S :: wr) G s s' → HasW P w s'.heap S xs n → R (.ok (.ret .none)) s') → codeAny (model P w) A (.builtin "set.update.loop" ⟨[.ref S, .ref I], []⟩) R s := by
  have hSw : S ∉ wr := fun h => hSf (W.sub _ h)
  have sub : ∀ b ∈ wr, b ∈ S :: wr := fun b hb => List.mem_cons_of_mem _ hb
  have old : ∀ {s s' : Shared}, Moved wr G s s' → (∀ b o, h0.get? b = some o → s.heap.get? b = some o) → ∀ b o, h0.get? b = some o → s'.heap.get? b = some o := fun hm kp b o e =>
    hm.heap b o (fun hb => by rw [hw0 b hb] at e; cases e) (kp b o e)
  have still : ∀ {s s' : Shared} {i : Nat}, Moved wr G s s' → (∀ b o, h0.get? b = some o → s'.heap.get? b = some o) → HasW P w s.heap S xs i → HasW P w s'.heap S xs i := fun {s s' i} hm kp' ⟨L, es, ep, t, hS, g1, g2⟩ =>
    ⟨L, es, ep, t, hS.up (fun o e => hm.heap S o hSw e) fun p hp => (hk p (g1 p hp)).up fun o e => kp' _ o e, g1, g2⟩
  intro k
  induction k with
  | zero =>
    intro i s hk' hi hst kp hS hR
    have hin : i = n := by omega
    subst hin
    refine codeAny_builtin F.entry_set_update_loop ?_
    rw [Around.under_plainId F.plain_set_update_loop _]
    show wpAny _ A.in1 (pyNext (.ref I) >>= _) _ _ s
    refine wpAny_bind (W.done s _ _ hst fun s' hm => ?_)
    show wpAny _ A.in1 (ret Value.none) _ _ s'
    exact wpAny_pure (hR s' (hm.mono sub) (still hm (old hm kp) hS))
  | succ k ih =>
    intro i s hk' hi hst kp hS hR
    have hlt : i < n := by omega
    refine codeAny_builtin F.entry_set_update_loop ?_
    rw [Around.under_plainId F.plain_set_update_loop _]
    show wpAny _ A.in1 (pyNext (.ref I) >>= _) _ _ s
    refine wpAny_bind (W.item i s _ _ hlt hst fun v s' hP hst' hm => ?_)
    obtain ⟨p, hp, rfl⟩ := hval i v hP
    have kp' := old hm kp
    obtain ⟨L, es, ep, t, hS', g1, g2, g3⟩ := still hm kp' hS
    have hx : IsW P w s'.heap p.2 p.1 := (hk p (List.mem_of_getElem? hp)).up fun o e => kp' _ o e
    show wpAny _ A.in1 (holding [Value.ref p.1] (setAdd S (.ref p.1)) >>= _) _ _ s'
    refine wpAny_bind (wpAny_holding ?_)
    unfold setAdd
    refine wpAny_holding (wpAny_bind (wpAny_pyHash_tuple hu hx ?_))
    refine add (s := { s' with toks := s'.toks + (p.2.length + 1) }) hS' hx hu (by
      rcases few with z | z
      · omega
      · have := z L g1 hS'.nd
        omega) fun b g L2 es2 ep2 t2 sb hS2 cs => ?_
    have next : HasW P w g S xs (i + 1) := by
      refine ⟨L2, es2, ep2, t2, hS2, ?_⟩
      have e2 : xs.take (i + 1) = xs.take i ++ [p] := by
        rw [List.take_add_one, hp]
        rfl
      rcases cs with ⟨rfl, hm⟩ | pm
      · refine ⟨g1, fun q hq => ?_, by omega⟩
        rw [e2] at hq
        rcases List.mem_append.mp hq with z | z
        · exact g2 q z
        · rw [List.mem_singleton.mp z]
          exact hm
      · refine ⟨fun q hq => ?_, fun q hq => ?_, ?_⟩
        · rcases List.mem_cons.mp (pm.mem_iff.mp hq) with rfl | z
          · exact List.mem_of_getElem? hp
          · exact g1 q z
        · refine (pm.map (·.2)).mem_iff.mpr ?_
          rw [e2] at hq
          rcases List.mem_append.mp hq with z | z
          · exact List.mem_cons_of_mem _ (g2 q z)
          · rw [List.mem_singleton.mp z]
            exact List.mem_cons_self
        · rw [pm.length_eq, List.length_cons]
          omega
    have kp2 : ∀ b o, h0.get? b = some o → g.get? b = some o := fun b o e => (sb.2 b (fun z => by rw [z, hS0] at e; cases e)).trans (kp' b o e)
    refine wpAny_pure ⟨plainId_quiet F.plain_set_update_loop _, ih (i + 1) _ (by omega) hlt (W.frame _ s' _ _ hst' (Nat.le_add_right _ _) fun b hb o e => ?_) kp2 next fun s'' hm'' hS'' => ?_⟩
    · rw [sb.2 b (fun h : b = S => hSf (by rw [← h]; exact hb))]
      exact e
    · refine hR s'' (Moved.trans W.gtrans ((hm.mono sub).then_heap (Nat.le_add_right _ _) fun b o hb e => ?_) hm'') hS''
      rw [sb.2 b (fun h : b = S => hb (by rw [h]; exact List.mem_cons_self))]
      exact e
theorem make {t : Bool} {l : Addr} {items : Array Value} (xs : List Row) {Q : Value → Shared → Prop} (hh : A.handled = none) (hl : Sq t s.heap l items) (hv : ∀ (i : Nat) (v : Value), items[i]? = some v → ∃ p, xs[i]? = some p ∧ v = .ref p.1) (hz : items.size = xs.length) (hb : Few xs) (hk : ∀ p ∈ xs, IsW P w s.heap p.2 p.1) (hu : A.units + 3 < cLine)
    (h : ∀ (g : Heap) (tk : Nat), HasW P w g s.heap.objs.size xs xs.length → (∀ b o, s.heap.get? b = some o → g.get? b = some o) → Q (.ref s.heap.objs.size) { s with heap := g, toks := tk }) : wpAny (model P w) A (call (.type "set") [.ref l]) Q E s := by
  have gone : ∀ b, s.heap.objs.size ≤ b → s.heap.get? b = none := fun b hb => by
    cases q : s.heap.get? b with
    | none => rfl
    | some o => exact absurd (Nat.lt_of_lt_of_le (Heap.lt_size q) hb) (Nat.lt_irrefl _)
  obtain ⟨c0, tl, hmro⟩ := F.called_set.mro
  have hmade := F.called_set.made
  have hsub := F.called_set.sub
  refine wpAny_call (codeAny_of_tree ?_)
  show wpAny _ _ (callAny (.type "set") _) _ _ s
  refine wpAny_pure ⟨Code.quiet_builtin _ (by decide +kernel), codeAny_builtin F.entry_type_call ?_⟩
  rw [Around.under_plain (weight_type_call_type "set" [.ref l] []) rfl]
  have k1 := F.called_set.notType
  have k2 := F.called_set.canCreate
  have hct := F.typeCall_set_1 (.ref l)
  repeat (any_goals (first | assumption | wp_step))
  refine codeAny_mono (code_set_led1 (.ref l) (E := E) (Q₁ := fun obj s₁ => obj = .ref s.heap.objs.size ∧ s₁ = { s with heap := s.heap.push (fresh0 w) }) ⟨rfl, rfl⟩) fun r s₁ hr => ?_
  cases r with
  | error e => exact hr
  | ok fl =>
    cases fl with
    | ret obj =>
      obtain ⟨rfl, rfl⟩ := hr
      have hS : (s.heap.push (fresh0 w)).get? s.heap.objs.size = some (fresh0 w) := Heap.get?_push_size _ rfl
      have hT : Shared.TypeIs { s with heap := s.heap.push (fresh0 w) } (.ref s.heap.objs.size) "set" := ⟨_, hS, rfl⟩
      have hli := F.called_set.init.lookup
      have hbi := F.called_set.init.bind (.ref s.heap.objs.size)
      repeat (any_goals (first | assumption | wp_step))
      refine codeAny_mono (codeAny_call_builtin (R := wants (fun r s₂ => r = .none ∧ ∃ g tk, s₂ = { s with heap := g, toks := tk } ∧ HasW P w g s.heap.objs.size xs xs.length ∧ (∀ b o, s.heap.get? b = some o → g.get? b = some o)) E) F.called_set.init.plain F.entry_set_init (check_set_init_1 hT ?_)) fun r₂ s₂ hr₂ => ?_
      · have hlS : l < s.heap.objs.size := by
          cases t with
          | false => obtain ⟨_, e, _⟩ := hl; exact Heap.lt_size e
          | true => obtain ⟨_, e, _⟩ := hl; exact Heap.lt_size e
        have hneI : l ≠ (s.heap.push (fresh0 w)).objs.size := by
          rw [Heap.size_push]
          exact Nat.ne_of_lt (Nat.lt_succ_of_lt hlS)
        have hSf : s.heap.objs.size ∉ [(s.heap.push (fresh0 w)).objs.size, l] := by
          rw [Heap.size_push]
          simp only [List.mem_cons, List.mem_singleton, List.not_mem_nil, or_false, not_or]
          exact ⟨Nat.ne_of_lt (Nat.lt_succ_self _), Nat.ne_of_gt hlS⟩
        have hh3 : A.in1.in1.in1.handled = none := by simp [hh]
        have fin : ∀ {s' : Shared}, Moved [s.heap.objs.size, (s.heap.push (fresh0 w)).objs.size] (fun x y => y = x) { s with heap := (s.heap.push (fresh0 w)).push { cls := .type (icl t), data := .fields #[.ref l, .int 0 0] } } s' → HasW P w s'.heap s.heap.objs.size xs items.size →
            ∃ g tk, s' = { s with heap := g, toks := tk } ∧ HasW P w g s.heap.objs.size xs xs.length ∧ ∀ b o, s.heap.get? b = some o → g.get? b = some o := by
          intro s' hm hS'
          obtain ⟨g, g2, d', tk', os'⟩ := s'
          have eg : g2 = s.gens := hm.gens
          have ed : d' = s.drawn := hm.drawn
          have eo : os' = s.os := hm.os
          subst eg ed eo
          refine ⟨g, tk', rfl, hz ▸ hS', fun b o e => ?_⟩
          have hb0 : b < s.heap.objs.size := Heap.lt_size e
          have hb2 : b ≠ (s.heap.push (fresh0 w)).objs.size := by
            rw [Heap.size_push]
            exact Nat.ne_of_lt (Nat.lt_succ_of_lt hb0)
          exact hm.heap b o (by simp only [List.mem_cons, List.mem_singleton, List.not_mem_nil, or_false, not_or]; exact ⟨Nat.ne_of_lt hb0, hb2⟩) (Heap.get?_push_of_some _ (Heap.get?_push_of_some _ e))
        cases t with
        | true =>
          obtain ⟨⟨ocls, odict, odata, oslots⟩, hol, hcl, nl, hdl⟩ := hl
          simp only at hcl hdl
          subst hcl hdl
          have hol' : (s.heap.push (fresh0 w)).get? l = some { cls := .type "tuple", dict := odict, data := .seq items nl, slots := oslots } := Heap.get?_push_of_some _ hol
          have hsls := F.sub_tuple_set
          have hslf := F.sub_tuple_frozenset
          have hne : (Value.type "tuple" == Value.type "dict") = false := by decide
          have hl1 : (s.heap.push (fresh0 w)).IsTuple l items := ⟨_, hol', rfl, nl, rfl⟩
          unfold Builtin.«set.__init__» noKeywords Builtin.Frozenset.updateFrom
          generalize hPI : pyIter = PI
          wp_walk
          subst hPI
          refine wpAny_pyIter_tuple hl1 (wpAny_bind (wpAny_runValue ?_))
          refine update ((Walks.tuple hh3 _ l hneI items).toS) s.heap.objs.size hSf xs hz hb hv s.heap hk (gone _ (Nat.le_refl _)) (fun b hb => gone b (by
            rw [List.mem_singleton.mp hb, Heap.size_push]
            exact Nat.le_succ _)) (by simp; omega) (items.size - 0) 0 _ (by omega) (Nat.zero_le _) ⟨⟨_, Heap.get?_push_size _ rfl, rfl, rfl⟩, (hl1.push _)⟩ (fun b o e => Heap.get?_push_of_some _ (Heap.get?_push_of_some _ e)) (HasW.new (Heap.get?_push_of_some _ hS)) fun s' hm hS' => ?_
          show wpAny _ _ _ _ _ _
          refine wpAny_pure ?_
          show wpAny _ _ (ret Value.none) _ _ _
          exact wpAny_pure ⟨rfl, fin hm hS'⟩
        | false =>
          obtain ⟨⟨ocls, odict, odata, oslots⟩, hol, hcl, nl, hdl⟩ := hl
          simp only at hcl hdl
          subst hcl hdl
          have hol' : (s.heap.push (fresh0 w)).get? l = some { cls := .type "list", dict := odict, data := .seq items nl, slots := oslots } := Heap.get?_push_of_some _ hol
          have hsls := F.sub_list_set
          have hslf := F.sub_list_frozenset
          have hne : (Value.type "list" == Value.type "dict") = false := by decide
          have hl1 : (s.heap.push (fresh0 w)).IsList l items := ⟨_, hol', rfl, nl, rfl⟩
          unfold Builtin.«set.__init__» noKeywords Builtin.Frozenset.updateFrom
          generalize hPI : pyIter = PI
          wp_walk
          subst hPI
          refine wpAny_pyIter_list hl1 (wpAny_bind (wpAny_runValue ?_))
          refine update ((Walks.list hh3 _ l hneI items).toS) s.heap.objs.size hSf xs hz hb hv s.heap hk (gone _ (Nat.le_refl _)) (fun b hb => gone b (by
            rw [List.mem_singleton.mp hb, Heap.size_push]
            exact Nat.le_succ _)) (by simp; omega) (items.size - 0) 0 _ (by omega) (Nat.zero_le _) ⟨⟨_, Heap.get?_push_size _ rfl, rfl, rfl⟩, (hl1.push _)⟩ (fun b o e => Heap.get?_push_of_some _ (Heap.get?_push_of_some _ e)) (HasW.new (Heap.get?_push_of_some _ hS)) fun s' hm hS' => ?_
          show wpAny _ _ _ _ _ _
          refine wpAny_pure ?_
          show wpAny _ _ (ret Value.none) _ _ _
          exact wpAny_pure ⟨rfl, fin hm hS'⟩
      · cases r₂ with
        | error e => exact hr₂
        | ok fl₂ =>
          cases fl₂ with
          | ret r =>
            obtain ⟨rfl, g, tk, rfl, hS', hk'⟩ := hr₂
            repeat (any_goals (first | assumption | wp_step))
            exact h _ _ hS' hk'
          | _ => exact hr₂.elim
    | _ => exact hr.elim
end
end NS
namespace NS
open PySem PySem.Spec PyProof.Rows L2
theorem perm_map {α β : Type} {f : α → β} {xs ys : List β} (pm : xs.Perm ys) : ∀ L : List α, ys = L.map f → ∃ L1 : List α, L1.Perm L ∧ xs = L1.map f := by
  induction pm with
  | nil => exact fun L h => ⟨L, List.Perm.refl _, h⟩
  | cons x p ih =>
    intro L h
    cases L with
    | nil => cases h
    | cons a L =>
      rw [List.map_cons] at h
      injection h with h1 h2
      obtain ⟨L1, p1, e1⟩ := ih L h2
      exact ⟨a :: L1, p1.cons a, by rw [List.map_cons, ← e1, h1]⟩
  | swap x y l =>
    intro L h
    cases L with
    | nil => cases h
    | cons a L =>
      cases L with
      | nil => simp at h
      | cons b L =>
        simp only [List.map_cons] at h
        injection h with h1 h2
        injection h2 with h2 h3
        exact ⟨b :: a :: L, List.Perm.swap a b L, by simp [h1, h2, h3]⟩
  | trans p1 p2 ih1 ih2 =>
    intro L h
    obtain ⟨L2, q2, e2⟩ := ih2 L h
    obtain ⟨L1, q1, e1⟩ := ih1 L2 e2
    exact ⟨L1, q1.trans q2, e1⟩
abbrev encR (p : Row) : PyData := .tuple (p.2.map PyData.str)
theorem reads_items {P : Program} {w : World} {g : Heap} : ∀ {k : List Str} {vs : List Value}, ItemsAre (KS P w) k vs → ReadsAll g vs (k.map PyData.str) []
  | _, _, .nil => .nil
  | _, _, .cons h1 h2 => by
    obtain ⟨t, rfl⟩ := Value.isStrOf_shape h1
    exact .cons (as := []) (bs := []) (.str _ t) (reads_items h2)
theorem IsW.reads {P : Program} {w : World} {g : Heap} {k : List Str} {a : Addr} (x : IsW P w g k a) : Reads g (.ref a) (.tuple (k.map PyData.str)) [] := by
  obtain ⟨o, its, n, h1, h2, h3, h4⟩ := x
  exact .tuple h1 h2 h3 (reads_items h4)
theorem each_refs {R : Value → Row → Prop} (h : ∀ p : Row, R (.ref p.1) p) : ∀ L : List Row, PySem.W.EachIs R (L.map fun p => Value.ref p.1) L
  | [] => .nil
  | p :: L => .cons (h p) (each_refs h L)
theorem each_of_mem {R S : Value → Row → Prop} : ∀ {vs : List Value} {L : List Row}, PySem.W.EachIs R vs L → (∀ v p, p ∈ L → R v p → S v p) → PySem.W.EachIs S vs L
  | _, _, .nil, _ => .nil
  | _, _, .cons h t, q => .cons (q _ _ List.mem_cons_self h) (each_of_mem t fun v p hp => q v p (List.mem_cons_of_mem _ hp))
theorem refs_of_each : ∀ {vs : List Value} {L : List Row}, PySem.W.EachIs (fun v p => v = Value.ref p.1) vs L → vs = L.map fun p => Value.ref p.1
  | _, _, .nil => rfl
  | _, _, .cons h t => by rw [h, refs_of_each t]; rfl
theorem dep_strs : ∀ xs : List Str, PyData.depthAll (xs.map PyData.str) = 0
  | [] => rfl
  | x :: xs => by simp [PyData.depthAll, PyData.depth, dep_strs xs]
section
variable {P : Program} {w : World} {A : Around} {E : Value → Shared → Prop} {s : Shared} {a : Addr} {L : List Row} {es : Array (Int × Value)} {ep : Nat} {t : SetTable}
theorem sorted_of {Q : Value → Shared → Prop} (R : SetW P w s.heap a L es ep t) (hh : A.handled = none) (hu : A.units + 4 < cLine)
    (hQ : ∀ s' p (c : Nat) (L1 : List Row), (∀ b o, s.heap.get? b = some o → s'.heap.get? b = some o) → s'.gens = s.gens → s'.os = s.os → s.heap.objs.size ≤ p → L1.Perm L → s'.heap.get? p = some (seqObj "list" ((L1.mergeSort (PySem.W.dataLe false encR)).map fun p => Value.ref p.1).toArray c) → Q (.ref p) s') :
    wpAny (model P w) A (call (.builtin "sorted") [.ref a]) Q E s := by
  obtain ⟨o, ho, hex, hd⟩ := R.ob
  refine Calls.call_function_entry kind_sorted plain_sorted entry_sorted (args_sorted1 _) ?_
  unfold Builtin.«sorted»
  refine wpAny_bind (m := checkCount "sorted" 1 1 _) (wpAny_pure (wpAny_bind (collect_set (A := A.in1) hh ⟨o, ho, hex.1, hd⟩ R.fits (by rw [len_of R.rows]; have := R.few; unfold scanBound; omega) R.tab.ris R.led fun s1 vs k1 hz g1 o1 pm => ?_)))
  have hes : es.toList.map (·.2) = L.map fun p => Value.ref p.1 := by
    rw [R.rows]
    unfold rws
    rw [List.map_map]
    rfl
  rw [hes] at pm
  obtain ⟨L1, p1, e1⟩ := perm_map pm L rfl
  have few := R.few
  have hvl : vs.length = L.length := by rw [pm.length_eq, List.length_map]
  refine wpAny_bind (wpAny_newList ?_ (by rw [hvl, sizeLine_eq]; omega))
  have hoL : (s1.heap.push (seqObj "list" vs.toArray 0)).get? s1.heap.objs.size = some (seqObj "list" vs.toArray 0) := Heap.get?_push_size _ rfl
  have hea : PySem.W.EachIs (fun v p => v = Value.ref p.1) vs L1 := e1 ▸ each_refs (fun _ => rfl) L1
  have up : ∀ b o, s.heap.get? b = some o → (PySem.W.sortingHeap (s1.heap.push (seqObj "list" vs.toArray 0)) s1.heap.objs.size vs).get? b = some o := fun b o e => by
    have z := k1 b o e
    exact PySem.W.sortingHeap_old (Nat.ne_of_lt (Heap.lt_size z)) (Heap.get?_push_of_some _ z)
  have er : PySem.W.EachIs (fun v p => ∃ as, Reads (PySem.W.sortingHeap (s1.heap.push (seqObj "list" vs.toArray 0)) s1.heap.objs.size vs) v (encR p) as) vs L1 := each_of_mem hea fun v p hp e => by
    rw [e]
    exact ⟨[], ((R.tup p (p1.mem_iff.mp hp)).up fun o e => up _ o e).reads⟩
  have hal : PySem.W.AllAlike (L1.map encR) := fun x hx y hy => by
    obtain ⟨i, _, rfl⟩ := List.mem_map.mp hx
    obtain ⟨j, _, rfl⟩ := List.mem_map.mp hy
    simp [PySem.W.alike, DL.alike_strs]
  have ht : ∀ d, d ∈ L1.map encR → ∃ xs, d = PyData.tuple xs := fun d hd => by
    obtain ⟨i, _, rfl⟩ := List.mem_map.mp hd
    exact ⟨_, rfl⟩
  have hdep : ∀ d, d ∈ L1.map encR → A.in1.in1.units + d.depth < cLine := fun d hd => by
    obtain ⟨i, _, rfl⟩ := List.mem_map.mp hd
    show A.in1.in1.units + (PyData.depthAll _ + 1) < cLine
    rw [dep_strs]
    have : A.in1.in1.units ≤ A.units + 2 := by simp
    omega
  have er2 := PySem.W.each_map (R := fun v d => ∃ as, Reads (PySem.W.sortingHeap (s1.heap.push (seqObj "list" vs.toArray 0)) s1.heap.objs.size vs) v d as) encR er
  refine wpAny_bind (wpAny_holding (PySem.wpAny_call_entry F.slot_list_sort ⟨_, hoL, rfl⟩ F.entry_list_sort (PySem.W.list_sort_vals (κ := PySem.W.dataKind (PySem.W.sortingHeap (s1.heap.push (seqObj "list" vs.toArray 0)) s1.heap.objs.size vs) (L1.map encR)) (s := { s1 with heap := s1.heap.push (seqObj "list" vs.toArray 0) }) hoL (SE.SortsAt.tups (s := { s1 with heap := PySem.W.sortingHeap (s1.heap.push (seqObj "list" vs.toArray 0)) s1.heap.objs.size vs }) er2 hal ht hdep) (by rw [hvl, sizeLine_eq]; omega) ⟨.none, rfl, ?_⟩) (args_list_sort _)))
  have out := refs_of_each (PySem.W.sortVals_data false hea er hal)
  rw [out]
  obtain ⟨c, hc⟩ := sortedHeap_at (vs := vs) (out := ((L1.mergeSort (PySem.W.dataLe false encR)).map fun p => Value.ref p.1).toArray) hoL
  refine wpAny_pure ⟨_, rfl, hQ _ s1.heap.objs.size c L1 (fun b u e => ?_) g1 o1 hz p1 hc⟩
  have z := k1 b u e
  have hlt := Heap.lt_size z
  show (sortedHeap (s1.heap.push (seqObj "list" vs.toArray 0)) s1.heap.objs.size vs _).get? b = some u
  rw [sortedHeap_old (Nat.ne_of_lt hlt) (by rw [Heap.size_push]; exact Nat.lt_succ_of_lt hlt)]
  exact Heap.get?_push_of_some _ z
end
def SetO (P : Program) (w : World) (a : Addr) (L : List Row) : HO := .ext fun g => ∃ es ep t, (∃ o, g.get? a = some o ∧ o.ExactSet ∧ o.data = .set es ep t) ∧ es.toList = rws P w L ∧ TabOk t (L.map fun p => wh P w p.2) ∧ (L.map (·.2)).Nodup ∧ (w.params.followText "set-order" = true ∨ t.led = true) ∧ L.length * 5 < t.mask * 3 ∧ L.length < 64
theorem setO_new {P : Program} {w : World} {H : Hp} {g : Heap} {a : Addr} {L : List Row} {es : Array (Int × Value)} {ep : Nat} {t : SetTable} (R : SetW P w g a L es ep t) : ObjOk P w H g a (SetO P w a L) := by
  have ⟨o, ho, _⟩ := R.ob
  exact ⟨⟨es, ep, t, R.ob, R.rows, R.tab, R.nd, R.led, R.room, R.few⟩, ⟨o, ho⟩, fun h1 h2 ⟨es, ep, t, ⟨o, e1, e2⟩, r⟩ k => ⟨es, ep, t, ⟨o, k _ e1, e2⟩, r⟩⟩
section
variable {X : Cx} {pins : List (Addr × Obj)} {σ : L2.St} {H : Hp} {s : Shared}
theorem items_of : ∀ {k : List Str} {us : List Value}, Vals (k.map V.str) us → ∀ {P : Program} {w : World}, ItemsAre (KS P w) k us
  | [], _, h, _, _ => by cases h; exact .nil
  | x :: k, _, h, P, w => by
    cases h with
    | cons r rs =>
      obtain ⟨t, rfl⟩ := r
      exact .cons (SX.is_t x t) (items_of rs)
theorem isW_of (I : Inv X pins σ H s) {b : Addr} {k : List Str} (h : SqT X.K H b (k.map V.str)) : IsW X.prog X.w s.heap k b := by
  obtain ⟨its, rv, hl, _⟩ := I.tuple h
  obtain ⟨o, h1, h2, n, h3⟩ := hl
  exact ⟨o, _, n, h1, h2, h3, items_of rv⟩
theorem refs_of {L : List Row} : ∀ {us : List Value}, Vals (L.map fun p => V.ref p.1) us → us = L.map fun p => Value.ref p.1 := by
  induction L with
  | nil => intro us h; cases h; rfl
  | cons p L ih =>
    intro us h
    cases h with
    | cons r rs =>
      have r' : _ = Value.ref p.1 := r
      rw [r', ih rs]
      rfl
theorem vals_refs : ∀ L : List Row, Vals (L.map fun p => V.ref p.1) (L.map fun p => Value.ref p.1)
  | [] => .nil
  | p :: L => .cons rfl (vals_refs L)
def rSetN (K : PySem.W.Frag) (P : Program) (w : World) : List V → Hp → VK → Prop := fun xs H Q => ∃ (l : Addr) (ks : List Row) (t : Bool), xs = [.ref l] ∧ ZS.SqB K H t l (ks.map fun p => V.ref p.1) ∧ (∀ p ∈ ks, SqT K H p.1 (p.2.map V.str)) ∧ Few ks ∧
  ∀ (a : Addr) (L : List Row), H a = none → (∀ p ∈ L, p ∈ ks) → (∀ p ∈ ks, p.2 ∈ L.map (·.2)) → (L.map (·.2)).Nodup → Q (.ref a) (upd H a (SetO P w a L))
theorem cr_setN (hc : X.calm = true) (hu : X.A.units + 3 < cLine) : CallR X (.type "set") (rSetN X.K X.prog X.w) := by
  intro pins s σ H xs us Q I r h
  obtain ⟨l, ks, t, rfl, hq, ht, few, q⟩ := h
  obtain ⟨its, rv, hs, _⟩ := ZS.sq_of I hq
  rw [Vals.ref1 r]
  have e := refs_of rv
  subst e
  refine make ks (I.ok.hd hc) hs (fun i v z => ?_) (by simp) few (fun p hp => isW_of I (ht p hp)) hu fun g tk hW hk => ?_
  · have z : (ks.map fun p => Value.ref p.1)[i]? = some v := by simpa using z
    rw [List.getElem?_map] at z
    obtain ⟨p, hp, rfl⟩ := Option.map_eq_some_iff.mp z
    exact ⟨p, hp, rfl⟩
  · obtain ⟨L, es, ep, tb, R, g1, g2, _⟩ := hW
    rw [List.take_length] at g2
    exact ⟨.ref _, upd H s.heap.objs.size (SetO X.prog X.w s.heap.objs.size L), I.laid (t' := tk) hk (Nat.le_refl _) (setO_new R), rfl, q _ L (I.hok.fresh (Nat.le_refl _)) g1 g2 R.nd⟩
def rSortN (K : PySem.W.Frag) (P : Program) (w : World) : List V → Hp → VK → Prop := fun xs H Q => ∃ (a : Addr) (L : List Row), xs = [.ref a] ∧ H a = some (SetO P w a L) ∧ (∀ p ∈ L, SqT K H p.1 (p.2.map V.str)) ∧
  ∀ (L1 : List Row) (p : Addr), L1.Perm L → H p = none → Q (.ref p) (upd H p (.lst ((L1.mergeSort (PySem.W.dataLe false encR)).map fun q => V.ref q.1)))
theorem cr_sortN (hc : X.calm = true) (hu : X.A.units + 4 < cLine) : CallR X (.builtin "sorted") (rSortN X.K X.prog X.w) := by
  intro pins s σ H xs us Q I r h
  obtain ⟨a, L, rfl, ha, ht, q⟩ := h
  rw [Vals.ref1 r]
  obtain ⟨⟨es, ep, t, r1, r2, r3, r4, r5, r6, r7⟩, _⟩ := I.hok a _ ha
  refine sorted_of (L := L) (es := es) (ep := ep) (t := t) ⟨r1, r2, r3, r4, fun p hp => isW_of I (ht p hp), r5, r6, r7⟩ (I.ok.hd hc) hu fun s' p c L1 k1 g1 o1 hp pm hob => ?_
  obtain ⟨g, gg, dd, tk, os⟩ := s'
  have e1 : gg = s.gens := g1
  have e2 : os = s.os := o1
  subst e1 e2
  have hlen : ((L1.mergeSort (PySem.W.dataLe false encR)).map fun q => V.ref q.1).length ≤ sizeLine := by
    rw [List.length_map, List.length_mergeSort, sizeLine_eq, pm.length_eq]
    omega
  exact ⟨.ref p, upd H p (.lst ((L1.mergeSort (PySem.W.dataLe false encR)).map fun q => V.ref q.1)), (SX.inv_drawn I dd).laid (t' := tk) k1 hp ⟨hlen, _, c, vals_refs _, hob⟩, rfl, q L1 p pm (I.hok.fresh hp)⟩
end
theorem cr_or {X : Cx} {f : Value} {r1 r2 : List V → Hp → VK → Prop} (h1 : CallR X f r1) (h2 : CallR X f r2) : CallR X f fun xs H Q => r1 xs H Q ∨ r2 xs H Q := by
  intro pins s σ H xs us Q I r h
  rcases h with h | h
  · exact h1 pins s σ H xs us Q I r h
  · exact h2 pins s σ H xs us Q I r h
end NS
namespace DL
open PySem PySem.Spec PyProof.Rows L2
variable [Tb]
def strsP : List P → Option (List Str)
  | [] => some []
  | .str x :: ps => (strsP ps).map (x :: ·)
  | _ :: _ => none
theorem strsP_of : ∀ {ps : List P} {ks : List Str}, strsP ps = some ks → ps = ks.map .str
  | [], ks, h => by cases h; rfl
  | .str x :: ps, ks, h => by
    unfold strsP at h
    obtain ⟨r, h1, rfl⟩ := Option.map_eq_some_iff.mp h
    rw [strsP_of h1]
    rfl
  | .int _ :: _, _, h => by cases h
  | .bl _ :: _, _, h => by cases h
  | .non :: _, _, h => by cases h
  | .lst _ :: _, _, h => by cases h
  | .frz _ :: _, _, h => by cases h
  | .tup _ :: _, _, h => by cases h
  | .dic _ _ :: _, _, h => by cases h
theorem strsP_map : ∀ ks : List Str, strsP (ks.map .str) = some ks
  | [] => rfl
  | k :: ks => by
    show (strsP (ks.map .str)).map (k :: ·) = _
    rw [strsP_map ks]
    rfl
def ddS : List Str → List Str
  | [] => []
  | x :: xs => if x ∈ xs then ddS xs else x :: ddS xs
theorem mem_ddS : ∀ {xs : List Str} {k : Str}, k ∈ ddS xs ↔ k ∈ xs
  | [], k => Iff.rfl
  | x :: xs, k => by
    unfold ddS
    split
    · rename_i h
      rw [mem_ddS, List.mem_cons]
      exact ⟨.inr, fun z => z.elim (fun e => e ▸ h) id⟩
    · rw [List.mem_cons, List.mem_cons, mem_ddS]
theorem nd_ddS : ∀ xs : List Str, (ddS xs).Nodup
  | [] => .nil
  | x :: xs => by
    unfold ddS
    split
    · exact nd_ddS xs
    · rename_i h
      exact List.nodup_cons.mpr ⟨fun z => h (mem_ddS.mp z), nd_ddS xs⟩
def txts : List P → Option (List Str)
  | [.lst ps] => match strsP ps with
    | some ks => if ks.length ≤ 1000 ∧ (ks.all PyData.strOk) = true then some ks else none
    | none => none
  | [.frz ps] => match strsP ps with
    | some ks => if ks.length ≤ 1000 ∧ (ks.all PyData.strOk) = true then some ks else none
    | none => none
  | [.tup ps] => match strsP ps with
    | some ks => if ks.length ≤ 1000 ∧ (ks.all PyData.strOk) = true then some ks else none
    | none => none
  | _ => none
def stsP : List P → Option (List (List Str))
  | [] => some []
  | .tup qs :: ps => match strsP qs, stsP ps with
    | some k, some r => some (k :: r)
    | _, _ => none
  | _ :: _ => none
theorem stsP_of : ∀ {ps : List P} {kss : List (List Str)}, stsP ps = some kss → ps = kss.map stP
  | [], kss, h => by cases h; rfl
  | .tup qs :: ps, kss, h => by
    unfold stsP at h
    split at h
    · rename_i k r h1 h2
      cases h
      rw [strsP_of h1, stsP_of h2]
      rfl
    · cases h
  | .str _ :: _, _, h => by cases h
  | .int _ :: _, _, h => by cases h
  | .bl _ :: _, _, h => by cases h
  | .non :: _, _, h => by cases h
  | .lst _ :: _, _, h => by cases h
  | .frz _ :: _, _, h => by cases h
  | .dic _ _ :: _, _, h => by cases h
def ddL : List (List Str) → List (List Str)
  | [] => []
  | x :: xs => if x ∈ xs then ddL xs else x :: ddL xs
theorem mem_ddL : ∀ {xs : List (List Str)} {k : List Str}, k ∈ ddL xs ↔ k ∈ xs
  | [], k => Iff.rfl
  | x :: xs, k => by
    unfold ddL
    split
    · rename_i h
      rw [mem_ddL, List.mem_cons]
      exact ⟨.inr, fun z => z.elim (fun e => e ▸ h) id⟩
    · rw [List.mem_cons, List.mem_cons, mem_ddL]
theorem nd_ddL : ∀ xs : List (List Str), (ddL xs).Nodup
  | [] => .nil
  | x :: xs => by
    unfold ddL
    split
    · exact nd_ddL xs
    · rename_i h
      exact List.nodup_cons.mpr ⟨fun z => h (mem_ddL.mp z), nd_ddL xs⟩
def okL (kss : List (List Str)) : Prop := (kss.length < 64 ∨ (ddL kss).length < 63) ∧ (kss.all fun k => k.all PyData.strOk) = true
instance (kss : List (List Str)) : Decidable (okL kss) := inferInstanceAs (Decidable (_ ∧ _))
def itemsP : List P → Option (List P)
  | [.lst ps] => some ps
  | [.frz ps] => some ps
  | [.tup ps] => some ps
  | _ => none
def tups (ps : List P) : Option (List (List Str)) := (itemsP ps).bind fun qs => (stsP qs).bind fun kss => if okL kss then some kss else none
noncomputable def bSortSet (ps : List P) : Option P := match txts ps with
  | some ks => some (P.lst (srt ((ddS ks).map .str)))
  | none => (tups ps).map fun kss => P.lst (srt ((ddL kss).map stP))
theorem is_strs {K : PySem.W.Frag} {G : Hp} : ∀ {ks : List Str} {xs : List V}, IsAll K G (ks.map .str) xs → xs = ks.map V.str
  | [], _, h => h
  | k :: ks, _, ⟨v, vs, h1, h2, h3⟩ => by
    subst h1
    have h2' : v = .str k := h2
    rw [h2', is_strs h3]
    rfl
theorem all_strs {K : PySem.W.Frag} {G : Hp} : ∀ ks : List Str, IsAll K G (ks.map .str) (ks.map V.str)
  | [] => rfl
  | k :: ks => ⟨_, _, rfl, rfl, all_strs ks⟩
theorem txts_is {K : PySem.W.Frag} {m : Mp} {H : Hp} {ps : List P} {ks : List Str} {vs : List V} (h : txts ps = some ks) (i : IsRs K m H ps vs) : ∃ a t, vs = [.ref a] ∧ ZS.SqB K H t a (ks.map V.str) ∧ ks.length ≤ 1000 ∧ ∀ k ∈ ks, PyData.strOk k = true := by
  unfold txts at h
  split at h
  · split at h
    · rename_i ks' e
      split at h
      · rename_i hc
        cases h
        obtain ⟨x, rfl, h0⟩ := i.one
        obtain ⟨a, ys, rfl, h1, h2⟩ := sq_r h0
        rw [strsP_of e] at h2
        rw [is_strs h2] at h1
        exact ⟨a, false, rfl, h1, hc.1, List.all_eq_true.mp hc.2⟩
      · cases h
    · cases h
  · split at h
    · rename_i ks' e
      split at h
      · rename_i hc
        cases h
        obtain ⟨x, rfl, h0⟩ := i.one
        obtain ⟨a, ys, rfl, h1, h2⟩ := sq_f h0
        rw [strsP_of e] at h2
        rw [is_strs h2] at h1
        exact ⟨a, false, rfl, h1, hc.1, List.all_eq_true.mp hc.2⟩
      · cases h
    · cases h
  · split at h
    · rename_i ks' e
      split at h
      · rename_i hc
        cases h
        obtain ⟨x, rfl, h0⟩ := i.one
        obtain ⟨a, ys, rfl, h1, h2⟩ := sq_t h0
        rw [strsP_of e] at h2
        rw [is_strs h2] at h1
        exact ⟨a, true, rfl, h1, hc.1, List.all_eq_true.mp hc.2⟩
      · cases h
    · cases h
  · cases h
theorem py_strs (k : Str) : pyOf (.str k) = PyData.str k := rfl
theorem sort_strs (bs : List Str) : (bs.mergeSort (PySem.W.dataLe false PyData.str)).map P.str = srt (bs.map .str) := by
  unfold srt
  exact List.map_mergeSort (fun a _ b _ => rfl)
theorem cmp_strs {ks : List Str} (h : ∀ k ∈ ks, PyData.strOk k = true) : Cmp (ks.map .str) := ⟨fun p hp => by
    obtain ⟨k, hk, rfl⟩ := List.mem_map.mp hp
    exact (pl_str (h k hk)).1, fun p hp q hq => by
    obtain ⟨k, hk, rfl⟩ := List.mem_map.mp hp
    obtain ⟨j, hj, rfl⟩ := List.mem_map.mp hq
    rw [py_strs, py_strs]
    simp [PySem.W.alike]⟩
theorem perm_nd {as bs : List Str} (h1 : as.Nodup) (h2 : bs.Nodup) (h : ∀ k, k ∈ as ↔ k ∈ bs) : as.Perm bs := by
  induction as generalizing bs with
  | nil =>
    cases bs with
    | nil => exact .nil
    | cons b bs => exact absurd ((h b).mpr (List.mem_cons_self ..)) (by simp)
  | cons a as ih =>
    have ha : a ∈ bs := (h a).mp (List.mem_cons_self ..)
    have p := List.perm_cons_erase ha
    refine (List.Perm.cons a (ih (List.nodup_cons.mp h1).2 (h2.erase a) fun k => ?_)).trans p.symm
    rw [h2.mem_erase_iff, ← h k, List.mem_cons]
    exact ⟨fun z => ⟨fun e => (List.nodup_cons.mp h1).1 (e ▸ z), .inr z⟩, fun ⟨n, z⟩ => z.elim (fun e => absurd e n) id⟩
section
variable {X : Cx} {e : Expr} {p p2 pos q : Pos} {g : FA}
theorem items_is {K : PySem.W.Frag} {m : Mp} {H : Hp} {ps qs : List P} {vs : List V} (h : itemsP ps = some qs) (i : IsRs K m H ps vs) : ∃ a t xs, vs = [.ref a] ∧ ZS.SqB K H t a xs ∧ IsAll K (mask m H) qs xs := by
  unfold itemsP at h
  split at h
  · cases h
    obtain ⟨x, rfl, h0⟩ := i.one
    obtain ⟨a, ys, rfl, h1, h2⟩ := sq_r h0
    exact ⟨a, false, ys, rfl, h1, h2⟩
  · cases h
    obtain ⟨x, rfl, h0⟩ := i.one
    obtain ⟨a, ys, rfl, h1, h2⟩ := sq_f h0
    exact ⟨a, false, ys, rfl, h1, h2⟩
  · cases h
    obtain ⟨x, rfl, h0⟩ := i.one
    obtain ⟨a, ys, rfl, h1, h2⟩ := sq_t h0
    exact ⟨a, true, ys, rfl, h1, h2⟩
  · cases h
theorem rows_is {K : PySem.W.Frag} {G : Hp} : ∀ {kss : List (List Str)} {vs : List V}, IsAll K G (kss.map stP) vs → ∃ L : List NS.Row, vs = L.map (fun p => V.ref p.1) ∧ L.map (·.2) = kss ∧ ∀ p ∈ L, SqT K G p.1 (p.2.map V.str) ∧ Is K G (stP p.2) (V.ref p.1)
  | [], _, h => ⟨[], h, rfl, fun p hp => nomatch hp⟩
  | k :: kss, _, ⟨v, vs, h1, h2, h3⟩ => by
    subst h1
    obtain ⟨L, e1, e2, e3⟩ := rows_is h3
    obtain ⟨a, xs, rfl, s1, s2⟩ := id h2
    rw [is_strs s2] at s1
    refine ⟨(a, k) :: L, by rw [List.map_cons, e1], by rw [List.map_cons, e2], fun p hp => ?_⟩
    rcases List.mem_cons.mp hp with rfl | hp
    · exact ⟨s1, h2⟩
    · exact e3 p hp
theorem rows_back {K : PySem.W.Frag} {G : Hp} : ∀ {L : List NS.Row}, (∀ p ∈ L, Is K G (stP p.2) (V.ref p.1)) → IsAll K G (L.map fun p => stP p.2) (L.map fun p => V.ref p.1)
  | [], _ => rfl
  | p :: L, h => ⟨_, _, rfl, h p List.mem_cons_self, rows_back fun q hq => h q (List.mem_cons_of_mem _ hq)⟩
theorem sort_rows (L : List NS.Row) : (L.mergeSort (PySem.W.dataLe false NS.encR)).map (fun p => stP p.2) = srt (L.map fun p => stP p.2) := by
  unfold srt
  refine List.map_mergeSort fun a _ b _ => ?_
  have e : ∀ p : NS.Row, pyOf (stP p.2) = NS.encR p := fun p => py_st p.2
  show (!PyProof.Rows.lexLt itemOrd (PySem.W.keyToks (NS.encR b)) (PySem.W.keyToks (NS.encR a))) = !PyProof.Rows.lexLt itemOrd (PySem.W.keyToks (pyOf (stP b.2))) (PySem.W.keyToks (pyOf (stP a.2)))
  rw [e, e]
theorem d_sortSet (hX : SX X) (hm : X.mg "sorted" = none) (hm2 : X.mg "set" = none) (ha : PAd X [e] g) (hg : Gl X "sorted" := by rfl) (hg2 : Gl X "set" := by rfl)
    (he : starEach [e] X.env = (false, eval e X.env) :: starEach [] X.env := by rfl)
    (he2 : starEach [.Call (.Name "set" p2) [e] [] q] X.env = (false, eval (.Call (.Name "set" p2) [e] [] q) X.env) :: starEach [] X.env := by rfl) :
    PEd X (.Call (.Name "sorted" p) [.Call (.Name "set" p2) [e] [] q] [] pos) (fCb bSortSet g) := by
  have hu := hX.units
  refine pe_weak (pe_callB (NS.cr_or (_root_.SX.cr_sortX hX.calm (by omega)) (NS.cr_sortN hX.calm (by omega))) hg hm (by decide +kernel) (pa_cons (pe_callTy (NS.cr_or (_root_.SX.cr_setX hX.calm) (NS.cr_setN hX.calm (by omega))) hg2 hm2 (by decide +kernel) ha (by decide) (by decide) he rfl) pa_nil he2) (by decide) (by decide) he2 rfl) fun σ H Q ⟨m, env, S, R, E, d', S', e1, qq⟩ => ?_
  obtain ⟨ds, S1, k1, e2⟩ := Oc.bind_eq e1
  refine ⟨m, env, S, R, E, ds, S1, k1, fun vs m1 H1 st1 R1 i1 => ?_⟩
  cases h1 : deAll S1 ds with
  | none => simp [h1] at e2
  | some ps =>
    cases h2 : bSortSet ps with
    | none => simp [h1, h2] at e2
    | some u =>
      simp [h1, h2] at e2
      obtain ⟨rfl, rfl⟩ := e2
      unfold bSortSet at h2
      cases hk : txts ps with
      | some ks =>
        rw [hk] at h2
        cases h2
        obtain ⟨a, t, rfl, hs, hl, hok⟩ := txts_is hk (deAll_is R1 h1 i1)
        refine .inl ⟨a, ks, t, rfl, hs, hl, fun pp c hp hc => ?_⟩
        obtain ⟨R2, st2⟩ := R1.fresh (o := _root_.SX.SetX X.w pp (fun k => k ∈ ks) c) hp
        refine .inl ⟨pp, _, c, rfl, upd_same, by omega, fun bs p3 nd hm3 hp3 => ?_⟩
        have pm : (bs.map P.str).Perm ((ddS ks).map .str) := (perm_nd nd (nd_ddS ks) fun k => by rw [hm3 k, mem_ddS]).map _
        have es : (bs.mergeSort (PySem.W.dataLe false PyData.str)).map P.str = srt ((ddS ks).map .str) := by
          rw [sort_strs]
          exact srt_eq pm (cmp_strs fun k hk' => hok k ((hm3 k).mp hk'))
        have iz : IsAll X.K (mask m1 (upd H1 pp (_root_.SX.SetX X.w pp (fun k => k ∈ ks) c))) (srt ((ddS ks).map .str)) ((bs.mergeSort (PySem.W.dataLe false PyData.str)).map V.str) := by
          rw [← es]
          exact all_strs _
        exact newLst R2 iz (fun v m3 H3 st3 R3 i3 => qq v m3 H3 ((st1.trans st2).trans st3) R3 i3) p3 hp3
      | none =>
        rw [hk] at h2
        obtain ⟨kss, ht, rfl⟩ := Option.map_eq_some_iff.mp h2
        obtain ⟨qs, hi, ht⟩ := Option.bind_eq_some_iff.mp ht
        obtain ⟨kss', hs, ht⟩ := Option.bind_eq_some_iff.mp ht
        split at ht
        · rename_i ok
          cases ht
          obtain ⟨a, t, xs, rfl, hq, hx⟩ := items_is hi (deAll_is R1 h1 i1)
          rw [stsP_of hs] at hx
          obtain ⟨L, rfl, hL, hrow⟩ := rows_is hx
          have hlen : NS.Few L := by
            have z := congrArg List.length hL
            rw [List.length_map] at z
            rcases ok.1 with k | k
            · exact .inl (by rw [z]; exact k)
            · refine .inr fun L' h1 h2 => Nat.lt_of_le_of_lt ?_ k
              have h3 : (L'.map (·.2)).length ≤ (ddL kss).length := h2.length_le_of_subset fun q hq => mem_ddL.mpr (by
                obtain ⟨p, hp, rfl⟩ := List.mem_map.mp hq
                rw [← hL]
                exact List.mem_map_of_mem (h1 p hp))
              rwa [List.length_map] at h3
          refine .inr ⟨a, L, t, rfl, hq, fun p hp => sqT_mono (mask_ex m1 H1) (hrow p hp).1, hlen, fun pp L2 hp g1 g2 nd => ?_⟩
          obtain ⟨R2, st2⟩ := R1.fresh (o := NS.SetO X.prog X.w pp L2) hp
          refine .inr ⟨pp, L2, rfl, upd_same, fun p hp2 => sqT_mono ((mask_ex m1 _)) (sqT_mono st2.ex (hrow p (g1 p hp2)).1), fun L3 p3 pm3 hp3 => ?_⟩
          have mem3 : ∀ p ∈ L3, p ∈ L := fun p hp => g1 p (pm3.mem_iff.mp hp)
          have pmk : (L3.map (·.2)).Perm (ddL kss) := by
            refine (List.perm_ext_iff_of_nodup ((pm3.map (·.2)).nodup_iff.mpr nd) (nd_ddL kss)).mpr fun k => ?_
            rw [mem_ddL, ← hL, (pm3.map (·.2)).mem_iff]
            constructor
            · intro h
              obtain ⟨p, hp, rfl⟩ := List.mem_map.mp h
              exact List.mem_map.mpr ⟨p, g1 p hp, rfl⟩
            · intro h
              obtain ⟨p, hp, rfl⟩ := List.mem_map.mp h
              exact g2 p hp
          have okk : ∀ xs ∈ L3.map (·.2), ∀ x ∈ xs, PyData.strOk x = true := fun xs hxs x hx => by
            have z := mem_ddL.mp (pmk.mem_iff.mp hxs)
            exact List.all_eq_true.mp (List.all_eq_true.mp ok.2 xs z) x hx
          have es : (L3.mergeSort (PySem.W.dataLe false NS.encR)).map (fun p => stP p.2) = srt ((ddL kss).map stP) := by
            rw [sort_rows]
            have e : (L3.map fun p => stP p.2) = (L3.map (·.2)).map stP := by rw [List.map_map]; rfl
            rw [e]
            exact srt_eq (pmk.map stP) (cmp_st okk)
          have iz : IsAll X.K (mask m1 (upd H1 pp (NS.SetO X.prog X.w pp L2))) (srt ((ddL kss).map stP)) ((L3.mergeSort (PySem.W.dataLe false NS.encR)).map fun p => V.ref p.1) := by
            rw [← es]
            exact rows_back fun p hp => st2.val (hrow p (mem3 p ((List.mergeSort_perm L3 _).mem_iff.mp hp))).2
          exact newLst R2 iz (fun v m3 H3 st3 R3 i3 => qq v m3 H3 ((st1.trans st2).trans st3) R3 i3) p3 hp3
        · cases ht
end
theorem strs_nm (xs : List Nm) : xs.map nP = (xs.map (·.s)).map P.str := by
  rw [List.map_map]
  rfl
theorem txts_lN {xs : List Nm} (h : xs.length ≤ 1000) : txts [lN xs] = some (xs.map (·.s)) := by
  show (match strsP (xs.map nP) with | some ks => if ks.length ≤ 1000 ∧ (ks.all PyData.strOk) = true then some ks else none | none => none) = _
  rw [strs_nm, strsP_map]
  show (if _ then _ else _) = _
  rw [if_pos ⟨by simpa using h, List.all_eq_true.mpr fun k hk => by
    obtain ⟨x, _, rfl⟩ := List.mem_map.mp hk
    exact x.ok.1⟩]
theorem so_ex (xs : List Nm) : ∃ ys : List Nm, ys.Nodup ∧ (∀ x, x ∈ ys ↔ x ∈ xs) ∧ srt ((ddS (xs.map (·.s))).map .str) = ys.map nP ∧ (ys.map nP).Pairwise (fun a b => PySem.W.dataLe false pyOf a b = true) := by
  have back : ∀ zs : List P, (∀ z ∈ zs, ∃ x ∈ xs, z = nP x) → ∃ ys : List Nm, (∀ y ∈ ys, y ∈ xs) ∧ zs = ys.map nP := by
    intro zs
    induction zs with
    | nil => exact fun _ => ⟨[], (fun _ h => nomatch h), rfl⟩
    | cons z zs ih =>
      intro h
      obtain ⟨x, hx, rfl⟩ := h z (List.mem_cons_self ..)
      obtain ⟨ys, hy, rfl⟩ := ih fun w hw => h w (List.mem_cons_of_mem _ hw)
      exact ⟨x :: ys, (fun y hy' => (List.mem_cons.mp hy').elim (fun e => e ▸ hx) (hy y)), rfl⟩
  have pm := srt_perm ((ddS (xs.map (·.s))).map .str)
  obtain ⟨ys, hy, e⟩ := back (srt ((ddS (xs.map (·.s))).map .str)) fun z hz => by
    obtain ⟨k, hk, rfl⟩ := List.mem_map.mp (pm.mem_iff.mp hz)
    obtain ⟨x, hx, rfl⟩ := List.mem_map.mp (mem_ddS.mp hk)
    exact ⟨x, hx, rfl⟩
  have hs := srt_sorted ((ddS (xs.map (·.s))).map .str)
  rw [e] at pm hs
  refine ⟨ys, ?_, fun x => ⟨hy x, fun hx => ?_⟩, e, hs⟩
  · have : (ys.map nP).Nodup := pm.nodup_iff.mpr (List.Pairwise.map _ (fun a b h z => h (P.str.inj z)) (nd_ddS _))
    exact List.Pairwise.of_map nP (fun a b h z => h (z ▸ rfl)) this
  · have h1 : nP x ∈ (ddS (xs.map (·.s))).map P.str := List.mem_map.mpr ⟨x.s, mem_ddS.mpr (List.mem_map.mpr ⟨x, hx, rfl⟩), rfl⟩
    obtain ⟨y, hy', e'⟩ := List.mem_map.mp (pm.mem_iff.mpr h1)
    rwa [nP_inj.mp e'] at hy'
noncomputable def so (xs : List Nm) : List Nm := (so_ex xs).choose
theorem so_nd (xs : List Nm) : (so xs).Nodup := (so_ex xs).choose_spec.1
theorem so_mem {xs : List Nm} {x : Nm} : x ∈ so xs ↔ x ∈ xs := (so_ex xs).choose_spec.2.1 x
theorem so_eq (xs : List Nm) : srt ((ddS (xs.map (·.s))).map .str) = (so xs).map nP := (so_ex xs).choose_spec.2.2.1
theorem o_soL {xs : List Nm} (h : xs.length ≤ 1000) : bSortSet [lN xs] = some (lN (so xs)) := by
  unfold bSortSet
  rw [txts_lN h]
  show some (P.lst (srt ((ddS (xs.map (·.s))).map P.str))) = _
  rw [so_eq]
end DL
namespace DL
open PySem PySem.Spec PyProof.Rows L2
def fPar3 (i j l : Nat) (g : FA) : FS := fun env S => (g env S).fl fun ds S1 => match ds with
  | [d, e, f] => .nx (((env.set i (some d)).set j (some e)).set l (some f)) S1
  | _ => .bad
section
variable {ga : FA} {env : Dnv} {S S1 : Sto} {E : FEn}
theorem s_Par3 {i j l : Nat} {d e f : D} (h1 : ga env S = .ok [d, e, f] S1) (h : E.nx (((env.set i (some d)).set j (some e)).set l (some f)) S1) : (fPar3 i j l ga env S).F E := by
  unfold fPar3
  rw [h1]
  exact h
end
end DL
namespace CH
open PySem PySem.Spec PyProof.Rows L2 DL
variable [Tb]
def fCh (op op' : P → P → Option P) (f g h : FE) : FE := fun env S => (f env S).bind fun d S1 => (g env S1).bind fun e S2 => (lift2 op d e S2).bind fun r S3 => match r with
  | .v (.bl true) => (h env S3).bind fun c S4 => lift2 op' e c S4
  | .v (.bl false) => .ok (.v (.bl false)) S3
  | _ => .bad
section
variable {K : PySem.W.Frag} {f g h : FE} {op op' : P → P → Option P} {r r' : R2} {σ : L2.St} {H : Hp} {Q : VK}
theorem td_ch (ho : Op2 K r op) (ho' : Op2 K r' op') (w : TD K (fCh op op' f g h) σ H Q) : tChain r r' (TD K f) (TD K g) (TD K h) σ H Q := by
  obtain ⟨m, env, S, R, E, d', S', e1, q⟩ := w
  obtain ⟨d, S1, k1, e2⟩ := Oc.bind_eq e1
  obtain ⟨e, S2, k2, e3⟩ := Oc.bind_eq e2
  obtain ⟨b, S3, k3, e4⟩ := Oc.bind_eq e3
  obtain ⟨pd, pe, u, h1, h2, h3, rfl, rfl⟩ := lift2_of k3
  refine ⟨m, env, S, R, E, d, S1, k1, fun x m1 H1 st1 R1 i1 => ⟨m1, env, S1, R1, E.step st1, e, S3, k2, fun y m2 H2 st2 R2 i2 => ?_⟩⟩
  refine ho m2 H2 S3 pd pe u x y _ R2 (isR_of R2 (st2.is i1) h1) (isR_of R2 i2 h2) h3 fun z m3 H3 st3 R3 i3 => ?_
  split at e4
  · rename_i hu
    cases hu
    obtain ⟨c, S4, k4, e5⟩ := Oc.bind_eq e4
    obtain ⟨pe2, pc, u2, h4, h5, h6, rfl, rfl⟩ := lift2_of e5
    refine ⟨true, i3, ?_⟩
    rw [if_pos rfl]
    exact ⟨m3, env, S3, R3, ((E.step st1).step st2).step st3, c, S', k4, fun v m4 H4 st4 R4 i4 => ho' m4 H4 S' pe2 pc u2 y v _ R4 (isR_of R4 ((st3.trans st4).is i2) h4) (isR_of R4 i4 h5) h6 fun v2 m5 H5 st5 R5 i5 => q v2 m5 H5 ((((st1.trans st2).trans st3).trans st4).trans st5) R5 i5⟩
  · rename_i hu
    cases hu
    cases e4
    refine ⟨false, i3, ?_⟩
    rw [if_neg (by decide)]
    exact q (.bl false) m3 H3 ((st1.trans st2).trans st3) R3 rfl
  · cases e4
end
theorem o2_lt {K : PySem.W.Frag} : Op2 K (fun x y H Q => rI0 (fun i j => .bl (decide (i < j))) x y H Q ∨ (∃ i j, x = .str i ∧ y = .str j ∧ Q (.bl (decide (i.cps.toList < j.cps.toList))) H)) pLt := fun m H S p q u x y Q R hx hy e k => by
  unfold pLt at e
  split at e
  · cases e; exact .inl ⟨_, _, hx, hy, k.here R rfl⟩
  · cases e; exact .inr ⟨_, _, hx, hy, k.here R rfl⟩
  · cases e
section
variable {X : Cx} {a b c : Expr} {f g h : FE} {pos : Pos}
theorem d_ltlt (ha : PEd X a f) (hb : PEd X b g) (hc : PEd X c h) (hm : lastMarks [.Lt, .Lt] [b, c] = false := by with_unfolding_all rfl) : PEd X (.Compare a [.Lt, .Lt] [b, c] pos) (fCh pLt pLt f g h) :=
  pe_weak (pe_chain (opr_or op_lt op_lt_str) (opr_or op_lt op_lt_str) ha hb hc hm) fun _ _ _ => td_ch o2_lt o2_lt
end
theorem e_ch {f g h : FE} {op op' : P → P → Option P} {env : Dnv} {S S1 S2 S3 : Sto} {d e c : D} {p q p2 q2 : P} {k : Bool} {u : P} (h1 : f env S = .ok d S1) (h2 : g env S1 = .ok e S2) (h3 : deP S2 d = some p) (h4 : deP S2 e = some q) (h5 : op p q = some (.bl k))
    (h6 : k = false → S3 = S2 ∧ u = .bl false) (h7 : k = true → h env S2 = .ok c S3 ∧ deP S3 e = some p2 ∧ deP S3 c = some q2 ∧ op' p2 q2 = some u) : fCh op op' f g h env S = .ok (.v u) S3 := by
  unfold fCh
  rw [h1]
  show (g env S1).bind _ = _
  rw [h2]
  show (lift2 op d e S2).bind _ = _
  have e1 : lift2 op d e S2 = .ok (.v (.bl k)) S2 := by
    unfold lift2
    rw [h3, h4]
    show oP (op p q) S2 = _
    rw [h5]
    rfl
  rw [e1]
  cases k with
  | false =>
    obtain ⟨rfl, rfl⟩ := h6 rfl
    rfl
  | true =>
    obtain ⟨g1, g2, g3, g4⟩ := h7 rfl
    show (h env S2).bind _ = _
    rw [g1]
    show lift2 op' e c S3 = _
    unfold lift2
    rw [g2, g3]
    show oP (op' p2 q2) S3 = _
    rw [g4]
    rfl
end CH
namespace DL
open PySem PySem.Spec PyProof.Rows L2
variable [Tb]
structure Xn where
  c : Str
  ns : List Str
  ps : List P
inductive Ox (α : Type) where
  | ok (a : α) (S : Sto)
  | ex (e : Xn) (S : Sto)
  | bad
def Ox.bind {α β : Type} : Ox α → (α → Sto → Ox β) → Ox β
  | .ok a S, f => f a S
  | .ex e S, _ => .ex e S
  | .bad, _ => .bad
@[simp] theorem Ox.bind_ok {α β : Type} (a : α) (S : Sto) (f : α → Sto → Ox β) : (Ox.ok a S).bind f = f a S := rfl
@[simp] theorem Ox.bind_ex {α β : Type} (e : Xn) (S : Sto) (f : α → Sto → Ox β) : (Ox.ex e S : Ox α).bind f = .ex e S := rfl
@[simp] theorem Ox.bind_bad {α β : Type} (f : α → Sto → Ox β) : (Ox.bad : Ox α).bind f = .bad := rfl
def Oc.x {α : Type} : Oc α → Ox α
  | .ok a S => .ok a S
  | .bad => .bad
@[simp] theorem Oc.x_ok {α : Type} (a : α) (S : Sto) : (Oc.ok a S).x = .ok a S := rfl
@[simp] theorem Oc.x_bad {α : Type} : (Oc.bad : Oc α).x = .bad := rfl
inductive Flx where
  | nx (env : Dnv) (S : Sto)
  | rt (d : D) (S : Sto)
  | bk (env : Dnv) (S : Sto)
  | ct (env : Dnv) (S : Sto)
  | ex (e : Xn) (env : Dnv) (S : Sto)
  | bad
def Flo.x : Flo → Flx
  | .nx env S => .nx env S
  | .rt d S => .rt d S
  | .bk env S => .bk env S
  | .ct env S => .ct env S
  | .bad => .bad
abbrev XE' := Dnv → Sto → Ox D
abbrev XA := Dnv → Sto → Ox (List D)
abbrev XT := Dnv → Sto → Ox Bool
abbrev XS := Dnv → Sto → Flx
abbrev XF := List D → Sto → Ox D
def xE (f : FE) : XE' := fun env S => (f env S).x
def xA (f : FA) : XA := fun env S => (f env S).x
def xT (f : FT) : XT := fun env S => (f env S).x
def xS (f : FS) : XS := fun env S => (f env S).x
def ExIs (K : PySem.W.Frag) (m : Mp) (H : Hp) (e : Xn) (cls : Value) (d : Option Addr) : Prop := cls = .ref (He.ga K e.c) ∧ ∃ dx vs, d = some dx ∧ mask m H dx = some (.xd (e.ns.zip vs)) ∧ e.ns.length = vs.length ∧ IsAll K (mask m H) e.ps vs
structure Bs where
  p : Mp → Hp → Prop
  k : ∀ {m m' : Mp} {H H' : Hp}, Stp m H m' H' → p m H → p m' H'
def Bs.none : Bs := ⟨fun _ _ => True, fun _ h => h⟩
def OxOk (K : PySem.W.Frag) (m : Mp) (H : Hp) (σ : L2.St) (Q : VK) (W : WX) : Ox D → Prop
  | .ok d S => ∀ v m' H', Stp m H m' H' → Rel K m' H' S → IsD K m' (mask m' H') d v → Q v H'
  | .ex e S => ∀ cls dx m' H', Stp m H m' H' → Rel K m' H' S → ExIs K m' H' e cls dx → W cls dx σ H'
  | .bad => False
def OxaOk (K : PySem.W.Frag) (m : Mp) (H : Hp) (σ : L2.St) (Q : List V → Hp → Prop) (W : WX) : Ox (List D) → Prop
  | .ok ds S => ∀ vs m' H', Stp m H m' H' → Rel K m' H' S → IsDs K m' (mask m' H') ds vs → Q vs H'
  | .ex e S => ∀ cls dx m' H', Stp m H m' H' → Rel K m' H' S → ExIs K m' H' e cls dx → W cls dx σ H'
  | .bad => False
def OxtOk (K : PySem.W.Frag) (m : Mp) (H : Hp) (σ : L2.St) (Q : Bool → Hp → Prop) (W : WX) : Ox Bool → Prop
  | .ok b S => ∀ m' H', Stp m H m' H' → Rel K m' H' S → Q b H'
  | .ex e S => ∀ cls dx m' H', Stp m H m' H' → Rel K m' H' S → ExIs K m' H' e cls dx → W cls dx σ H'
  | .bad => False
def FlxOk (K : PySem.W.Frag) (m : Mp) (H : Hp) (E : Ends) (W : WX) : Flx → Prop
  | .nx env S => ∀ m' H' σ, Stp m H m' H' → Rel K m' H' S → EnvIs K m' (mask m' H') σ env → E.nx σ H'
  | .rt d S => ∀ v m' H', Stp m H m' H' → Rel K m' H' S → IsD K m' (mask m' H') d v → E.rt v H'
  | .bk env S => ∀ m' H' σ, Stp m H m' H' → Rel K m' H' S → EnvIs K m' (mask m' H') σ env → E.bk σ H'
  | .ct env S => ∀ m' H' σ, Stp m H m' H' → Rel K m' H' S → EnvIs K m' (mask m' H') σ env → E.ct σ H'
  | .ex e env S => ∀ cls dx m' H' σ, Stp m H m' H' → Rel K m' H' S → EnvIs K m' (mask m' H') σ env → ExIs K m' H' e cls dx → W cls dx σ H'
  | .bad => False
section
variable {K : PySem.W.Frag} {m m' : Mp} {H H' : Hp} {σ : L2.St} {W : WX}
theorem OxOk.step {Q : VK} {o : Ox D} (h : OxOk K m H σ Q W o) (st : Stp m H m' H') : OxOk K m' H' σ Q W o := by
  cases o with
  | ok d S => exact fun v m2 H2 s2 => h v m2 H2 (st.trans s2)
  | ex e S => exact fun c d m2 H2 s2 => h c d m2 H2 (st.trans s2)
  | bad => exact h
theorem OxaOk.step {Q : List V → Hp → Prop} {o : Ox (List D)} (h : OxaOk K m H σ Q W o) (st : Stp m H m' H') : OxaOk K m' H' σ Q W o := by
  cases o with
  | ok d S => exact fun v m2 H2 s2 => h v m2 H2 (st.trans s2)
  | ex e S => exact fun c d m2 H2 s2 => h c d m2 H2 (st.trans s2)
  | bad => exact h
theorem FlxOk.step {E : Ends} {f : Flx} (h : FlxOk K m H E W f) (st : Stp m H m' H') : FlxOk K m' H' E W f := by
  cases f with
  | nx env S => exact fun m2 H2 σ s2 => h m2 H2 σ (st.trans s2)
  | rt d S => exact fun v m2 H2 s2 => h v m2 H2 (st.trans s2)
  | bk env S => exact fun m2 H2 σ s2 => h m2 H2 σ (st.trans s2)
  | ct env S => exact fun m2 H2 σ s2 => h m2 H2 σ (st.trans s2)
  | ex e env S => exact fun c d m2 H2 σ s2 => h c d m2 H2 σ (st.trans s2)
  | bad => exact h
end
def TX (K : PySem.W.Frag) (W : WX) (B : Bs) (f : XE') : TE := fun σ H Q => ∃ m env S, B.p m H ∧ Rel K m H S ∧ EnvIs K m (mask m H) σ env ∧ OxOk K m H σ Q W (f env S)
def TXa (K : PySem.W.Frag) (W : WX) (B : Bs) (f : XA) : TA := fun σ H Q => ∃ m env S, B.p m H ∧ Rel K m H S ∧ EnvIs K m (mask m H) σ env ∧ OxaOk K m H σ Q W (f env S)
def TXt (K : PySem.W.Frag) (W : WX) (B : Bs) (f : XT) : TT := fun σ H Q => ∃ m env S, B.p m H ∧ Rel K m H S ∧ EnvIs K m (mask m H) σ env ∧ OxtOk K m H σ Q W (f env S)
def TXs (K : PySem.W.Frag) (W : WX) (B : Bs) (f : XS) : TS := fun E σ H => ∃ m env S, B.p m H ∧ Rel K m H S ∧ EnvIs K m (mask m H) σ env ∧ FlxOk K m H E W (f env S)
abbrev PEx (X : Cx) (W : WX) (B : Bs) (e : Expr) (f : XE') : Prop := PE X e (TX X.K W B f)
abbrev PTx (X : Cx) (W : WX) (B : Bs) (e : Expr) (f : XT) : Prop := PT X e (TXt X.K W B f)
abbrev PAx (X : Cx) (W : WX) (B : Bs) (es : List Expr) (f : XA) : Prop := PA X es (TXa X.K W B f)
abbrev PSx (X : Cx) (W : WX) (B : Bs) (st : Stmt) (f : XS) : Prop := PS X st (TXs X.K W B f)
abbrev PSsx (X : Cx) (W : WX) (B : Bs) (sts : List Stmt) (f : XS) : Prop := PSs X sts (TXs X.K W B f)
section
variable {X : Cx} {W : WX} {B : Bs} {e : Expr} {es : List Expr} {st : Stmt} {sts : List Stmt}
theorem xe_of {f : FE} (h : PEd X e f) : PEx X W B e (xE f) := pe_weak h fun σ H Q ⟨m, env, S, b, R, E, q⟩ => by
  unfold xE at q
  cases hf : f env S with
  | ok d S' => rw [hf] at q; exact ⟨m, env, S, R, E, d, S', hf, q⟩
  | bad => rw [hf] at q; exact q.elim
theorem xt_of {f : FT} (h : PTd X e f) : PTx X W B e (xT f) := pt_weak h fun σ H Q ⟨m, env, S, b, R, E, q⟩ => by
  unfold xT at q
  cases hf : f env S with
  | ok d S' => rw [hf] at q; exact ⟨m, env, S, R, E, d, S', hf, q⟩
  | bad => rw [hf] at q; exact q.elim
theorem xa_of {f : FA} (h : PAd X es f) : PAx X W B es (xA f) := pa_weak h fun σ H Q ⟨m, env, S, b, R, E, q⟩ => by
  unfold xA at q
  cases hf : f env S with
  | ok d S' => rw [hf] at q; exact ⟨m, env, S, R, E, d, S', hf, q⟩
  | bad => rw [hf] at q; exact q.elim
theorem flx_of {K : PySem.W.Frag} {m : Mp} {H : Hp} {E : Ends} {W : WX} {f : Flo} (h : FlxOk K m H E W f.x) : FloOk K m H E f := by
  cases f with
  | nx env S => exact h
  | rt d S => exact h
  | bk env S => exact h
  | ct env S => exact h
  | bad => exact h
theorem xs_of {f : FS} (h : PSd X st f) : PSx X W B st (xS f) := ps_weak h fun E σ H ⟨m, env, S, b, R, En, q⟩ => ⟨m, env, S, R, En, flx_of q⟩
theorem xss_of {f : FS} (h : PSsd X sts f) : PSsx X W B sts (xS f) := pss_weak h fun E σ H ⟨m, env, S, b, R, En, q⟩ => ⟨m, env, S, R, En, flx_of q⟩
end
theorem OxOk.bind {K : PySem.W.Frag} {m : Mp} {H : Hp} {σ : L2.St} {W : WX} {Q : VK} {α : Type} {o : Ox α} {k : α → Sto → Ox D} (h : OxOk K m H σ Q W (o.bind k)) :
    (∃ a S, o = .ok a S ∧ OxOk K m H σ Q W (k a S)) ∨ (∃ e S, o = .ex e S ∧ ∀ cls dx m' H', Stp m H m' H' → Rel K m' H' S → ExIs K m' H' e cls dx → W cls dx σ H') := by
  cases o with
  | ok a S => exact .inl ⟨a, S, rfl, h⟩
  | ex e S => exact .inr ⟨e, S, rfl, h⟩
  | bad => exact h.elim
theorem OxaOk.bind {K : PySem.W.Frag} {m : Mp} {H : Hp} {σ : L2.St} {W : WX} {Q : List V → Hp → Prop} {α : Type} {o : Ox α} {k : α → Sto → Ox (List D)} (h : OxaOk K m H σ Q W (o.bind k)) :
    (∃ a S, o = .ok a S ∧ OxaOk K m H σ Q W (k a S)) ∨ (∃ e S, o = .ex e S ∧ ∀ cls dx m' H', Stp m H m' H' → Rel K m' H' S → ExIs K m' H' e cls dx → W cls dx σ H') := by
  cases o with
  | ok a S => exact .inl ⟨a, S, rfl, h⟩
  | ex e S => exact .inr ⟨e, S, rfl, h⟩
  | bad => exact h.elim
def Ox.fl {α : Type} (o : Ox α) (env : Dnv) (k : α → Sto → Flx) : Flx := match o with
  | .ok a S => k a S
  | .ex e S => .ex e env S
  | .bad => .bad
@[simp] theorem Ox.fl_ok {α : Type} (a : α) (S : Sto) (env : Dnv) (f : α → Sto → Flx) : (Ox.ok a S).fl env f = f a S := rfl
@[simp] theorem Ox.fl_ex {α : Type} (e : Xn) (S : Sto) (env : Dnv) (f : α → Sto → Flx) : (Ox.ex e S : Ox α).fl env f = .ex e env S := rfl
@[simp] theorem Ox.fl_bad {α : Type} (env : Dnv) (f : α → Sto → Flx) : (Ox.bad : Ox α).fl env f = .bad := rfl
theorem FlxOk.fl {K : PySem.W.Frag} {m : Mp} {H : Hp} {E : Ends} {W : WX} {α : Type} {o : Ox α} {env : Dnv} {k : α → Sto → Flx} (h : FlxOk K m H E W (o.fl env k)) :
    (∃ a S, o = .ok a S ∧ FlxOk K m H E W (k a S)) ∨ (∃ e S, o = .ex e S ∧ ∀ cls dx m' H' σ, Stp m H m' H' → Rel K m' H' S → EnvIs K m' (mask m' H') σ env → ExIs K m' H' e cls dx → W cls dx σ H') := by
  cases o with
  | ok a S => exact .inl ⟨a, S, rfl, h⟩
  | ex e S => exact .inr ⟨e, S, rfl, h⟩
  | bad => exact h.elim
def xNil : XA := xA fNil
def xCons (f : XE') (g : XA) : XA := fun env S => (f env S).bind fun d S1 => (g env S1).bind fun ds S2 => .ok (d :: ds) S2
def onValsX (k : List P → Sto → Ox D) (ds : List D) (S : Sto) : Ox D := match vals ds with
  | some ps => if ps.length ≤ 100000 then k ps S else .bad
  | none => .bad
def xTup (g : XA) : XE' := fun env S => (g env S).bind (onValsX fun ps S1 => .ok (.v (.tup ps)) S1)
def x2 (op : P → P → Option P) (f g : XE') : XE' := fun env S => (f env S).bind fun d S1 => (g env S1).bind fun e S2 => (lift2 op d e S2).x
def x1 (op : P → Option P) (f : XE') : XE' := fun env S => (f env S).bind fun d S1 => (lift1 op d S1).x
section
variable {X : Cx} {W : WX} {B : Bs} {e : Expr} {es : List Expr} {f : XE'} {g : XA} {pos : Pos}
theorem x_nil : PAx X W B [] xNil := xa_of d_nil
theorem x_cons (he : PEx X W B e f) (hr : PAx X W B es g) (hs : starEach (e :: es) X.env = (false, eval e X.env) :: starEach es X.env := by rfl) : PAx X W B (e :: es) (xCons f g) := pa_weak (pa_cons he hr hs) fun σ H Q ⟨m, env, S, b, R, E, q⟩ => by
  refine ⟨m, env, S, b, R, E, ?_⟩
  rcases OxaOk.bind q with ⟨d, S1, h1, q⟩ | ⟨x, S1, h1, q⟩
  · rw [h1]
    refine fun v m1 H1 st1 R1 i1 => ⟨m1, env, S1, B.k st1 b, R1, E.step st1, ?_⟩
    rcases OxaOk.bind (q.step st1) with ⟨ds, S2, h2, q⟩ | ⟨x, S2, h2, q⟩
    · rw [h2]
      exact fun vs m2 H2 st2 R2 i2 => q (v :: vs) m2 H2 st2 R2 ⟨v, vs, rfl, st2.is i1, i2⟩
    · rw [h2]
      exact q
  · rw [h1]
    exact q
theorem xdisp {K : PySem.W.Frag} {g : XA} {k : List P → Sto → Ox D} {σ : L2.St} {H : Hp} {m : Mp} {env : Dnv} {S : Sto} {Q : List V → Hp → Prop} {Qv : VK} (b : B.p m H) (R : Rel K m H S) (E : EnvIs K m (mask m H) σ env)
    (h : OxOk K m H σ Qv W ((g env S).bind (onValsX k)))
    (q : ∀ ps S1 vs m1 H1, OxOk K m1 H1 σ Qv W (k ps S1) → ps.length ≤ 100000 → Stp m H m1 H1 → Rel K m1 H1 S1 → IsAll K (mask m1 H1) ps vs → Q vs H1) : TXa K W B g σ H Q := by
  refine ⟨m, env, S, b, R, E, ?_⟩
  rcases OxOk.bind h with ⟨ds, S1, h1, h⟩ | ⟨x, S1, h1, h⟩
  · rw [h1]
    intro vs m1 H1 st1 R1 i1
    unfold onValsX at h
    split at h
    · rename_i ps hv
      split at h
      · rename_i hl
        exact q ps S1 vs m1 H1 (h.step st1) hl st1 R1 (vals_is hv i1)
      · exact h.elim
    · exact h.elim
  · rw [h1]
    exact h
theorem x_tup {k} (h : PAx X W B es g) : PEx X W B (.Tuple es k pos) (xTup g) := pe_weak (pe_tup h) fun σ H Q ⟨m, env, S, b, R, E, q⟩ =>
  xdisp b R E q fun ps S1 vs m1 H1 q hl st1 R1 i1 => ⟨size_of (by rw [← i1.len]; exact hl), newTup R1 i1 fun v m' H' st' R' i' => q v m' H' st' R' i'⟩
end
def xNext : XS := xS fNext
def Flx.seq : Flx → XS → Flx
  | .nx env S, g => g env S
  | f, _ => f
@[simp] theorem Flx.seq_nx (env : Dnv) (S : Sto) (g : XS) : (Flx.nx env S).seq g = g env S := rfl
@[simp] theorem Flx.seq_rt (d : D) (S : Sto) (g : XS) : (Flx.rt d S).seq g = .rt d S := rfl
@[simp] theorem Flx.seq_ex (e : Xn) (env : Dnv) (S : Sto) (g : XS) : (Flx.ex e env S).seq g = .ex e env S := rfl
def xSeq (f g : XS) : XS := fun env S => (f env S).seq g
def xDrop (f : XE') : XS := fun env S => (f env S).fl env fun _ S1 => .nx env S1
def xSet (f : XE') (g : FG) : XS := fun env S => (f env S).fl env fun d S1 => match g d env S1 with
  | .ok env2 S2 => .nx env2 S2
  | .bad => .bad
def xIf (t : XT) (f g : XS) : XS := fun env S => (t env S).fl env fun b S1 => if b = true then f env S1 else g env S1
section
variable {X : Cx} {W : WX} {B : Bs} {e : Expr} {st : Stmt} {rest : List Stmt} {f : XE'} {g : FG} {a b : XS} {t : XT} {pos : Pos}
theorem xs_nil : PSsx X W B [] xNext := xss_of s_nil
theorem xs_cons (h1 : PSx X W B st a) (h2 : PSsx X W B rest b) : PSsx X W B (st :: rest) (xSeq a b) := pss_weak (pss_cons h1 h2) fun D σ H ⟨m, env, S, hb, R, E, q⟩ => by
  refine ⟨m, env, S, hb, R, E, ?_⟩
  unfold xSeq at q
  cases h : a env S with
  | nx e S1 => rw [h] at q; exact fun m' H' σ st R E => ⟨m', e, S1, B.k st hb, R, E, q.step st⟩
  | rt d S1 => rw [h] at q; exact q
  | bk e S1 => rw [h] at q; exact q
  | ct e S1 => rw [h] at q; exact q
  | ex x e S1 => rw [h] at q; exact q
  | bad => rw [h] at q; exact q
theorem xs_one (h1 : PSx X W B st a) : PSsx X W B [st] a := pss_one h1
theorem xs_drop (he : PEx X W B e f) (hs : swapsWith e none pos.line X.env = pure false := by rfl) : PSx X W B (.Expr e pos) (xDrop f) := ps_weak (ps_expr he hs) fun D σ H ⟨m, env, S, b, R, E, q⟩ => by
  refine ⟨m, env, S, b, R, E, ?_⟩
  rcases FlxOk.fl q with ⟨d, S1, h1, q⟩ | ⟨x, S1, h1, q⟩
  · rw [h1]
    exact fun v m1 H1 st1 R1 i1 => q m1 H1 σ st1 R1 (E.step st1)
  · rw [h1]
    exact fun c d m1 H1 st1 R1 i1 => q c d m1 H1 σ st1 R1 (E.step st1) i1
theorem xs_if {c : Expr} {s1 s2 : List Stmt} (hc : PTx X W B c t) (ha : PSsx X W B s1 a) (hb : PSsx X W B s2 b) : PSx X W B (.If c s1 s2 pos) (xIf t a b) := ps_weak (ps_if hc ha hb) fun D σ H ⟨m, env, S, bb, R, E, q⟩ => by
  refine ⟨m, env, S, bb, R, E, ?_⟩
  rcases FlxOk.fl q with ⟨k, S1, h1, q⟩ | ⟨x, S1, h1, q⟩
  · rw [h1]
    intro m1 H1 st1 R1
    cases k with
    | true =>
      rw [if_pos rfl] at q ⊢
      exact ⟨m1, env, S1, B.k st1 bb, R1, E.step st1, q.step st1⟩
    | false =>
      rw [if_neg (by decide)] at q ⊢
      exact ⟨m1, env, S1, B.k st1 bb, R1, E.step st1, q.step st1⟩
  · rw [h1]
    exact fun c d m1 H1 st1 R1 i1 => q c d m1 H1 σ st1 R1 (E.step st1) i1
theorem xs_asg {tg : Expr} (he : PEx X W B e f) (hg : PGd X tg g) (hs : swapsWithSole [tg] e pos.line X.env = pure false := by rfl) (hw : swappedStores [tg] e X.env = pure none := by rfl)
    (h1 : (assignEach [tg] X.env).map (·.2) = [assign tg X.env] := by rfl) : PSx X W B (.Assign [tg] e pos) (xSet f g) := ps_weak (ps_asg he hg hs hw h1) fun D σ H ⟨m, env, S, b, R, E, q⟩ => by
  refine ⟨m, env, S, b, R, E, ?_⟩
  rcases FlxOk.fl q with ⟨d, S1, h1, q⟩ | ⟨x, S1, h1, q⟩
  · rw [h1]
    intro v m1 H1 st1 R1 i1
    cases hg : g d env S1 with
    | ok env2 S2 =>
      rw [hg] at q
      exact ⟨m1, env, S1, d, R1, E.step st1, i1, env2, S2, hg, fun m2 H2 σ2 st2 R2 E2 => q m2 H2 σ2 (st1.trans st2) R2 E2⟩
    | bad => rw [hg] at q; exact q.elim
  · rw [h1]
    exact fun c d m1 H1 st1 R1 i1 => q c d m1 H1 σ st1 R1 (E.step st1) i1
end
open Classical in
noncomputable def loopX (own : Own) (all : List P) (g : FG) (b : XS) : List P → Dnv → Sto → Flx
  | [], env, S => if OwnOk own all S then .nx env S else .bad
  | p :: ps, env, S => if OwnOk own all S then match g (.v p) env S with
    | .ok env1 S1 => match b env1 S1 with
      | .nx e s => loopX own all g b ps e s
      | .ct e s => loopX own all g b ps e s
      | .bk e s => .nx e s
      | .rt d s => .rt d s
      | .ex x e s => .ex x e s
      | .bad => .bad
    | .bad => .bad else .bad
noncomputable def xFor (it : FI) (g : FG) (b : XS) : XS := fun env S => match it env S with
  | .ok r S1 => loopX r.2 r.1 g b r.1 env S1
  | .bad => .bad
section
variable {X : Cx} {W : WX} {B : Bs} {pos : Pos} {it : FI} {g : FG} {b : XS} {t : FT}
theorem xs_for (hX : SX X) (hp : PassesOwn (model X.prog X.w) X.A X.env X.xe) {tg iter : Expr} {body : List Stmt} (hi : PId X tg iter it) (hg : PGd X tg g) (hb : PSsx X W B body b) (hs : ∀ x, foldedSetIterable iter X.env x = pure x := by intro _; rfl) :
    PSx X W B (.For tg iter body [] pos) (xFor it g b) := ps_weak (ps_for hp hX.calm hi hg hb hs) fun D σ H ⟨m, env, S, bb, R, E, q⟩ => by
  unfold xFor at q
  cases hit : it env S with
  | bad => rw [hit] at q; exact q.elim
  | ok r S1 =>
  rw [hit] at q
  obtain ⟨ps, own⟩ := r
  refine ⟨m, env, S, R, E, ps, own, S1, hit, fun m1 H1 J st1 R1 T => ?_⟩
  have q : FlxOk X.K m1 H1 D W (loopX own ps g b ps env S1) := q.step st1
  have b1 := B.k st1 bb
  refine ⟨fun i k σ2 H2 => k + i = ps.length ∧ ∃ m2 env2 S2, Stp m1 H1 m2 H2 ∧ Rel X.K m2 H2 S2 ∧ EnvIs X.K m2 (mask m2 H2) σ2 env2 ∧ FlxOk X.K m2 H2 D W (loopX own ps g b (ps.drop i) env2 S2), ⟨ps.length, by omega, m1, env, S1, Stp.refl _ _, R1, E.step st1, by simpa using q⟩, ?_⟩
  rintro i k σ2 H2 ⟨hk, m2, env2, S2, st2, R2, E2, q2⟩
  by_cases hi : i < ps.length
  · right
    rw [List.drop_eq_getElem_cons hi] at q2
    unfold loopX at q2
    split at q2
    · rename_i ho
      obtain ⟨hgo, hy⟩ := T.go i _ m2 H2 S2 (List.getElem?_eq_getElem hi) st2.wk R2 ho
      refine ⟨hgo, fun σ' H' => ∃ k', k' < k ∧ (k' + (i + 1) = ps.length ∧ ∃ m2 env2 S2, Stp m1 H1 m2 H' ∧ Rel X.K m2 H' S2 ∧ EnvIs X.K m2 (mask m2 H') σ' env2 ∧ FlxOk X.K m2 H' D W (loopX own ps g b (ps.drop (i + 1)) env2 S2)), fun σ' H' z => z, fun x H3 y => ?_⟩
      obtain ⟨R3, st3, i3, _⟩ := hy x H3 y
      cases hgv : g (.v ps[i]) env2 S2 with
      | bad => rw [hgv] at q2; exact q2.elim
      | ok env3 S3 =>
      rw [hgv] at q2
      refine ⟨m2, env2, S2, .v ps[i], R3, E2.step st3, i3, env3, S3, hgv, fun m4 H4 σ4 st4 R4 E4 => ⟨m4, env3, S3, B.k ((st2.trans st3).trans st4) b1, R4, E4, ?_⟩⟩
      have stA := (st2.trans st3).trans st4
      have q4 := q2.step (st3.trans st4)
      dsimp only at q4
      cases hb : b env3 S3 with
      | nx e s =>
        rw [hb] at q4
        exact fun m5 H5 σ5 st5 R5 E5 => ⟨k - 1, by omega, by omega, m5, e, s, stA.trans st5, R5, E5, q4.step st5⟩
      | ct e s =>
        rw [hb] at q4
        exact fun m5 H5 σ5 st5 R5 E5 => ⟨k - 1, by omega, by omega, m5, e, s, stA.trans st5, R5, E5, q4.step st5⟩
      | bk e s =>
        rw [hb] at q4
        exact q4
      | rt d s =>
        rw [hb] at q4
        exact q4
      | ex x e s =>
        rw [hb] at q4
        exact q4
      | bad =>
        rw [hb] at q4
        exact q4
    · exact q2.elim
  · left
    have e : ps.drop i = [] := List.drop_eq_nil_of_le (by omega)
    rw [e] at q2
    unfold loopX at q2
    split at q2
    · rename_i ho
      exact ⟨T.stop i m2 H2 S2 (by omega) st2.wk R2 ho, q2 m2 H2 σ2 (Stp.refl _ _) R2 E2⟩
    · exact q2.elim
end
end DL
namespace DL
open PySem PySem.Spec PyProof.Rows L2
variable [Tb]
def SpX (K : PySem.W.Frag) (n : Nat) (F : XF) (vs : List V) (H : Hp) (Q : VK) (E : XK) : Prop := ∃ m S ds, Rel K m H S ∧ IsDs K m (mask m H) ds vs ∧ ds.length = n ∧ OxOk K m H [] Q (fun cls d _ H => E cls d H) (F ds S)
structure FnX (P : Program) (w : World) (K : PySem.W.Frag) (mg : Str → Option Value) (base : Heap) (k : Nat) (f : Addr) (fd : FuncData) (ps : List Str) (F : XF) : Prop where
  run : ∀ (A : Around) (outer : List PySem.Env) (s : Shared) (H : Hp) (args : Args) (us : List Value) (vs : List V) (Q : VK) (E : XK), Room k A → A.guards = some [] → Env0 P w K mg base A outer s H → BindsTo s fd args (ps.zip us) → Vals vs us → SpX K ps.length F vs H Q E →
    codeAny (model P w) A (.call (.ref f) args) (CR (L2.CX P w) outer P w H s Q E) s
def runX (n : Nat) (keep : Bool) (b : XS) : XF := fun ds S => match b (startD n ds) S with
  | .nx _ S1 => (closeD keep S.length (.v .non) S1).x
  | .rt d S1 => (closeD keep S.length d S1).x
  | .ex e _ S1 => .ex e (S1.take S.length)
  | _ => .bad
theorem oxok_x {K : PySem.W.Frag} {m : Mp} {H : Hp} {σ : L2.St} {Q : VK} {W : WX} {o : Oc D} (h : OxOk K m H σ Q W o.x) : ∃ d S, o = .ok d S ∧ ∀ v m' H', Stp m H m' H' → Rel K m' H' S → IsD K m' (mask m' H') d v → Q v H' := by
  cases o with
  | ok d S => exact ⟨d, S, rfl, h⟩
  | bad => exact h.elim
section
variable {P : Program} {w : World} {K : PySem.W.Frag} {mg : Str → Option Value} {base : Heap} {k : Nat} {f : Addr} {name qual : Str} {params : Arguments} {body : List Stmt} {scope : Scope} {dvs : List V} {kws : List (Str × V)} {fd : FuncData} {N ps : List Str} {keep : Bool}
theorem fn_DT {b : FS} {c : Addr} (F : FunD K name qual params body scope dvs kws f fd) (hc : fd.code = .ref c) (S : FnScope N ps scope)
    (hbody : ∀ (A : Around) (outer : List PySem.Env) (s : Shared) (H : Hp), Room k (A.deeper (envOfC qual scope s.heap.objs.size f (.ref c))) → SX (cxOf CX0 P w K mg base N qual scope f (.ref c) A outer s H E0).nox → PassesOwn (model P w) (A.deeper (envOfC qual scope s.heap.objs.size f (.ref c))) (cxOf CX0 P w K mg base N qual scope f (.ref c) A outer s H E0).nox.env (cxOf CX0 P w K mg base N qual scope f (.ref c) A outer s H E0).nox.xe → PSsd (cxOf CX0 P w K mg base N qual scope f (.ref c) A outer s H E0).nox body b) :
    FnG P w K mg base (k + 1) f fd ps (runF N.length keep b) := by
  obtain ⟨oc, od, dV, kV, doc, pm, an, cdv, ct, osl, rfl, lk, hcd, _, _⟩ := F.ex
  obtain rfl : cdv = Value.ref c := hc
  refine fn_g lk hcd S fun A outer s H hr hgd => hbody A outer s H hr ⟨rfl, S.nd, ?_, hgd⟩ ?_
  · have := hr.un
    show (A.deeper (envOfC qual scope s.heap.objs.size f (.ref c))).units + 200 < cLine
    omega
  · exact PassesOwn.never
end
def xCall (F : XF) (dv : List D) (g : XA) : XE' := fun env S => (g env S).bind fun ds S1 => F (ds ++ dv) S1
section
variable {X : Cx} {W : WX} {B : Bs} {k n : Nat} {f : Addr} {fd : FuncData} {ps ks : List Str} {F : XF} {x : Str} {p pos : Pos} {e : Expr} {es : List Expr} {kws : List Keyword} {g : XA}
theorem run_x {pins : List (Addr × Obj)} {σ : L2.St} {H : Hp} {s : Shared} {Q : VK} {args : Args} {us : List Value} {vs : List V} (G : FnX X.prog X.w X.K X.mg X.base k f fd ps F) (hr : Room k X.A) (hX : SX X) (tk : Takes X W) (I : Inv X pins σ H s) (hb : BindsTo s fd args (ps.zip us)) (r : Vals vs us)
    (h : SpX X.K ps.length F vs H Q fun cls d H' => W cls d σ H') : codeAny (model X.prog X.w) X.A (.call (.ref f) args) (fun r s' => match r with | .ok (.ret v) => EP X pins σ Q v s' | .ok _ => False | .error e => X.xe e s') s := by
  refine codeAny_mono (G.run X.A X.stack s H args us vs Q _ hr hX.guards I.env0 hb r h) fun r s' hq => ?_
  cases r with
  | error e => exact tk e s' (XE.of_call I (fun _ _ _ z => z) hq)
  | ok fl =>
    cases fl with
    | ret u => exact I.after hq
    | next => exact False.elim hq
    | brk => exact False.elim hq
    | cont => exact False.elim hq
theorem run_xW {pins : List (Addr × Obj)} {σ : L2.St} {H : Hp} {s : Shared} {Q : VK} {us0 : List Value} {kw : List (Str × Value)} {us : List Value} {vs : List V} (G : FnX X.prog X.w X.K X.mg X.base k f fd ps F) (hr : Room k X.A) (hX : SX X) (tk : Takes X W) (I : Inv X pins σ H s) (hb : BindsTo s fd ⟨us0, kw⟩ (ps.zip us)) (r : Vals vs us)
    (h : SpX X.K ps.length F vs H Q fun cls d H' => W cls d σ H') : wpAny (model X.prog X.w) X.A (call (.ref f) us0 kw) (EP X pins σ Q) X.xe s := by
  refine wpAny_call (codeAny_mono (run_x G hr hX tk I hb r h) fun r s' hq => ?_)
  cases r with
  | error e => exact hq
  | ok fl =>
    cases fl with
    | ret u => exact hq
    | next => exact False.elim hq
    | brk => exact False.elim hq
    | cont => exact False.elim hq
theorem OxOk.call {K : PySem.W.Frag} {m : Mp} {H : Hp} {σ : L2.St} {Q : VK} {W : WX} {o : Ox D} (h : OxOk K m H σ Q W o) : OxOk K m H [] Q (fun cls d _ H' => W cls d σ H') o := by
  cases o with
  | ok d S => exact h
  | ex e S => exact h
  | bad => exact h
theorem x_call {dv : List D} {ds : List Value} (G : FnX X.prog X.w X.K X.mg X.base k f fd ps F) (hr : Room k X.A) (hX : SX X) (tk : Takes X W) (hm : X.mg x = some (.ref f)) (hk : PySem.W.keepIn X.K (.ref f) = true) (hb : Binds X.K fd ps ds) (hd : DvIs X.K dv ds) (ha : PAx X W B (e :: es) g) (hlen : (e :: es).length + dv.length = ps.length := by rfl)
    (hl : ∀ env S qs S', g env S = .ok qs S' → qs.length = (e :: es).length) (hg : Gl X x := by rfl) (hdb : (x == ("__debug__" : Str)) = false := by decide) (he : starEach (e :: es) X.env = (false, eval e X.env) :: starEach es X.env := by rfl) (hpl : (backTo pos (starEach es X.env)).any (·.1) = false := by rfl) :
    PEx X W B (.Call (.Name x p) (e :: es) [] pos) (xCall F dv g) := by
  refine ⟨fun pins s σ H Q I h => ?_⟩
  obtain ⟨m, env, S, b, R, E, q⟩ := h
  obtain ⟨dvs, hd1, hd2⟩ := hd
  refine wpAny_Call_Name_kw (ld_glob I hg hm ?_ hdb)
  refine PySem.W.callWith_K (h₀ := X.base) I.ok.mod.kin hk (thn (ha.run pos pins s σ H (fun vs H1 => SpX X.K ps.length F (vs ++ dvs) H1 Q (fun cls d H' => W cls d σ H') ∧ (vs ++ dvs).length = ps.length) I ⟨m, env, S, b, R, E, ?_⟩) fun us s1 ⟨vs, H1, I1, r, q1, q2⟩ => ⟨I1.kIn, ?_⟩) he hpl
  · rcases OxOk.bind q with ⟨qs, S1, h1, q⟩ | ⟨x, S1, h1, q⟩
    · rw [h1]
      intro vs m1 H1 st1 R1 i1
      have hlq := hl _ _ _ _ h1
      refine ⟨⟨m1, S1, qs ++ dv, R1, i1.append (hd2 m1 _), by rw [List.length_append, hlq]; exact hlen, (q.step st1).call⟩, ?_⟩
      have h1 := i1.len
      have h2 := (hd2 m1 (mask m1 H1)).len
      rw [List.length_append, ← h1, ← h2, hlq]
      exact hlen
    · rw [h1]
      exact q
  · have r2 : Vals (vs ++ dvs) (us ++ ds) := r.append hd1
    exact run_xW G hr hX tk I1 (hb s1 us I1.kIn (by rw [← r2.length]; exact q2)) r2 q1
theorem xlen_of {g : FA} {n : Nat} (h : ∀ env S qs S', g env S = .ok qs S' → qs.length = n) : ∀ env S qs S', xA g env S = .ok qs S' → qs.length = n := fun env S qs S' e => by
  unfold xA at e
  cases hg : g env S with
  | bad => rw [hg] at e; cases e
  | ok ds S1 =>
    rw [hg] at e
    cases e
    exact h _ _ _ _ hg
end
end DL
namespace DL
open PySem PySem.Spec PyProof.Rows L2
variable [Tb]
structure ClsC (K : PySem.W.Frag) (C : Addr) : Prop where
  ga : PySem.W.findIn K (.ref C) "__getattribute__" = some (some (.builtin "BaseException.__getattribute__"))
  gg : PySem.W.findIn K (.ref C) "__getattr__" = some none
  exC : PySem.W.subIn K (.ref C) (.type "BaseException") = some true
  hdC : PySem.W.hasDictIn K C = true
  ha : PySem.W.findIn K (.ref C) "__class__" = some (some (.builtin "object.__class__"))
  hn : PySem.W.specialIn K (.builtin "object.__class__") "__get__" = some (some (.builtin "getset_descriptor.__get__"))
  ht : PySem.W.takesIn K (.builtin "object.__class__") = some true
  hm : PySem.W.mroIn K C (.type "object") = some true
  tyC : PySem.W.typeIn K (.ref C) = some (.type "type")
  kC : PySem.W.keepIn K (.ref C) = true
structure BaseC (K : PySem.W.Frag) (C : Addr) : Prop where
  sp : PySem.W.specialIn K (.ref C) "__getattribute__" = some (some (.builtin "type.__getattribute__"))
  rd : PySem.W.readsIn K C tyV' = true
  fi : PySem.W.findCls K (.ref C) tyV' "__init__" = some (.val (.builtin "ValueError.__init__"))
structure XcC (K : PySem.W.Frag) (x b : Str) (fs : List Str) : Prop where
  cl : ClsC K (He.ga K x)
  bs : BaseC K (He.ga K b)
  ox : OexC K (He.ga K x)
  ini : PySem.W.findIn K (.ref (He.ga K x)) "__init__" = some (some (.ref (He.ma K (He.ga K x) "__init__")))
  tyI : PySem.W.typeIn K (.ref (He.ma K (He.ga K x) "__init__")) = some (.type "function")
  nof : ∀ f ∈ fs, PySem.W.findIn K (.ref (He.ga K x)) f = some none
theorem isO_ok {a : Option (Option Value)} {b : Value} (h : isO a b = true) : a = some (some b) := of_decide_eq_true h
theorem clsB_ok {K : PySem.W.Frag} {C : Addr} (h : clsB K C = true) : ClsC K C := by
  unfold clsB at h
  obtain ⟨h1, h⟩ := and2 h
  obtain ⟨h2, h⟩ := and2 h
  obtain ⟨h3, h⟩ := and2 h
  obtain ⟨h4, h⟩ := and2 h
  obtain ⟨h5, h⟩ := and2 h
  obtain ⟨h6, h⟩ := and2 h
  obtain ⟨h7, h⟩ := and2 h
  obtain ⟨h8, h⟩ := and2 h
  obtain ⟨h9, h10⟩ := and2 h
  exact ⟨isO_ok h1, of_decide_eq_true h2, of_decide_eq_true h3, h4, isO_ok h5, isO_ok h6, of_decide_eq_true h7, of_decide_eq_true h8, of_decide_eq_true h9, h10⟩
theorem baseB_ok {K : PySem.W.Frag} {C : Addr} (h : baseB K C = true) : BaseC K C := by
  unfold baseB at h
  obtain ⟨h1, h⟩ := and2 h
  obtain ⟨h2, h3⟩ := and2 h
  refine ⟨isO_ok h1, h2, ?_⟩
  split at h3
  · rename_i n e
    rw [e, of_decide_eq_true h3]
  · cases h3
theorem excObj_ok {K : PySem.W.Frag} {C : Addr} (h : excObjB K C = true) : ∃ nm q N bs bm sn sub ab col dd k0 k1 k2 k3 k5, K.lookup C = some (excClassObj nm q C N bs bm true sn sub ab col dd k0 k1 k2 k3 k5 "ValueError.__new__") ∧ PySem.HandSPX.refsVE bm = true := by
  unfold excObjB at h
  split at h
  · rename_i dd cd sl ho
    split at h
    · rename_i D bm k0 k1 k2 k3 n k5 hm hs
      obtain ⟨h1, h⟩ := and2 h
      obtain ⟨h2, h⟩ := and2 h
      obtain ⟨h3, h⟩ := and2 h
      obtain ⟨h4, h5⟩ := and2 h
      obtain rfl := of_decide_eq_true h1
      obtain rfl := of_decide_eq_true h2
      obtain ⟨nm, bs, mro, ns, qn, hd, sn, sub, ab, col, del⟩ := cd
      dsimp only at hm h3 h4
      subst hm
      subst h3
      have h4' : del = false := by simpa using h4
      subst h4'
      have hsl : sl = #[k0, k1, k2, k3, some (.builtin "ValueError.__new__"), k5] := by
        obtain ⟨l⟩ := sl
        simp only at hs
        rw [hs]
      subst hsl
      exact ⟨nm, qn, ns, bs, bm, sn, sub, ab, col, dd, k0, k1, k2, k3, k5, ho, h5⟩
    · cases h
  · cases h
theorem xcB_ok {K : PySem.W.Frag} {x b : Str} {fs : List Str} (h : xcB K x b fs = true) : XcC K x b fs := by
  unfold xcB at h
  obtain ⟨h1, h⟩ := and2 h
  obtain ⟨h2, h⟩ := and2 h
  obtain ⟨h3, h⟩ := and2 h
  obtain ⟨h4, h⟩ := and2 h
  obtain ⟨h5, h⟩ := and2 h
  obtain ⟨h6, h7⟩ := and2 h
  have c := clsB_ok h1
  exact ⟨c, baseB_ok h2, ⟨excObj_ok h3, isO_ok h4, c.exC, c.tyC, c.kC⟩, isO_ok h5, of_decide_eq_true h6, fun f hf => of_decide_eq_true (List.all_eq_true.mp h7 f hf)⟩
section
variable {X : Cx} {e : Expr} {es : List Expr} {ta : TA} {p1 p2 pos : Pos} {b : Str}
theorem pe_baseinit {pl : Sem Bool} (T : BaseC X.K (He.ga X.K b)) (hg : Gl X b) (hm : X.mg b = some (.ref (He.ga X.K b))) (ha : PA X (e :: es) ta) (hdb : (b == ("__debug__" : Str)) = false := by decide)
    (hc : eval (.Call (.Attribute (.Name b p1) "__init__" p2) (e :: es) [] pos) X.env = (do
      let ov ← eval (.Name b p1) X.env
      standAt p2.atName
      let (f, first) ← holding [ov] (getMethod ov "__init__" pl)
      callWith pos f first (backTo pos (starEach (e :: es) X.env)) (backToKw pos (keywordEach [] X.env))) := by rfl)
    (he : starEach (e :: es) X.env = (false, eval e X.env) :: starEach es X.env := by rfl) (hpl : (backTo pos (starEach es X.env)).any (·.1) = false := by rfl) :
    PE X (.Call (.Attribute (.Name b p1) "__init__" p2) (e :: es) [] pos) (tVeI X.K ta) := by
  refine ⟨fun pins s σ H Q I rd => ?_⟩
  refine PySem.W.methodCall_KW (ld_glob I hg hm ?_ hdb) hc
  refine PySem.W.method_cls I.kIn T.sp (PySem.W.cls_value I.kIn T.rd T.fi (by decide +kernel) ?_)
  show wpAny _ _ (callWith pos (Value.builtin "ValueError.__init__") [] (backTo pos (starEach (e :: es) X.env)) []) _ _ _
  refine PyProof.Rows.callWith_method1 (thn (ha.run pos pins _ σ H _ (I.tok _) rd) fun us s1 got => ?_) he hpl
  obtain ⟨vs, H1, I1, r1, a, C, ws, rfl, few, oc, at_, q⟩ := got
  cases r1 with
  | @cons _ u0 _ ur first others =>
    obtain rfl : u0 = Value.ref a := first
    refine oinit_ok oc I1 at_ ?_ fun s' J => ⟨.non, H1, J, rfl, q⟩
    rw [← Paired.length others, sizeLine_eq]
    omega
end
def spI1 (C : Addr) (f : Str) : Sp := fun vs H Q _ => ∃ a v, vs = [.ref a, v] ∧ H a = some (exo a C none) ∧ ∀ dx, H dx = none → dx ≠ a → Q .non (upd (upd H dx (exd dx [(f, v)])) a (exo a C (some dx)))
theorem spI1_len {C : Addr} {f : Str} : ∀ vs H Q E, spI1 C f vs H Q E → vs.length = 2 := fun vs H Q E ⟨a, v, h, _⟩ => by rw [h]; rfl
theorem init1 {K : PySem.W.Frag} {x b f t : Str} {vs : List V} {H : Hp} {Q : VK} {E : XK} {N : List Str} (T : XcC K x b [f]) (h : spI1 (He.ga K x) f vs H Q E) (hN : N.length = 2) :
    tSeq (tDrop (tVeI K (tCons (tVar 0) (tCons (tC (.str t)) tNil)))) (tOst K f (tVar 0) (tVar 1)) { nx := fun _ H' => Q .non H', rt := Q } (start N vs) H := by
  obtain ⟨a, v, rfl, e, q⟩ := h
  refine ⟨.ref a, rfl, a, He.ga K x, [.str t], rfl, by simp, T.ox, e, ?_⟩
  refine ⟨v, rfl, .ref a, rfl, a, He.ga K x, rfl, T.ox, T.nof f (List.mem_cons_self ..), .inl ⟨e, fun dx h1 h2 => q dx h1 h2⟩⟩
def xRaise (c : Str) (ns : List Str) (g : FA) : XS := fun env S => match g env S with
  | .ok ds S1 => (match vals ds with
    | some ps => if ps.length = ns.length then .ex ⟨c, ns.reverse, ps.reverse⟩ env S1 else .bad
    | none => .bad)
  | .bad => .bad
section
variable {X : Cx} {W : WX} {B : Bs} {e : Expr} {es : List Expr} {g : FA} {x b f f2 : Str} {p pos rpos : Pos} {fd : FuncData} {ps : List Str} {k : Nat}
theorem x_raise1 (T : XcC X.K x b [f]) (F : FnOk X.prog X.w X.K X.mg X.base CX0 k (He.ma X.K (He.ga X.K x) "__init__") fd ps (spI1 (He.ga X.K x) f)) (hr : Room (k + 1) X.A) (hX : SX X) (tk : Takes X W) (hb : Binds X.K fd ps []) (hm : X.mg x = some (.ref (He.ga X.K x))) (ha : PAd X (e :: es) g)
    (hg : Gl X x := by rfl) (hdb : (x == ("__debug__" : Str)) = false := by decide) (he : starEach (e :: es) X.env = (false, eval e X.env) :: starEach es X.env := by rfl) (hpl : (backTo pos (starEach es X.env)).any (·.1) = false := by rfl) :
    PSx X W B (.Raise (some (.Call (.Name x p) (e :: es) [] pos)) none rpos) (xRaise x [f] g) :=
  ps_weak (ps_raise hX.calm tk (pmk_oex T.ox T.ini T.tyI F hr hb .nil pass0 hg hm ha hdb he hpl)) fun D σ H ⟨m, env, S, bb, R, E, q⟩ => by
  unfold xRaise at q
  cases hgv : g env S with
  | bad => rw [hgv] at q; exact q.elim
  | ok ds S1 =>
  rw [hgv] at q
  dsimp only at q
  refine ⟨m, env, S, R, E, ds, S1, hgv, fun vs m1 H1 st1 R1 i1 => ?_⟩
  split at q
  · rename_i qs hv
    split at q
    · rename_i hl
      have iA := vals_is hv i1
      obtain ⟨p0, rfl⟩ : ∃ p0, qs = [p0] := by
        cases qs with
        | nil => simp at hl
        | cons a r => cases r with
          | nil => exact ⟨a, rfl⟩
          | cons _ _ => simp at hl
      obtain ⟨v0, vr, rfl, i0, ir⟩ := iA
      have ir' : vr = [] := ir
      subst ir'
      refine ⟨by simp, fun a hna => ?_⟩
      refine ⟨a, v0, rfl, upd_same, fun dx h1 h2 => ?_⟩
      have hdn : H1 dx = none := by rw [upd_ne h2] at h1; exact h1
      refine ⟨rfl, dx, [(f, v0)], upd_same, ?_, hdn, ?_⟩
      · rw [upd_ne h2]
        exact upd_same
      · have eH : upd (del (upd (upd (upd H1 a (exo a (He.ga X.K x) none)) dx (exd dx [(f, v0)])) a (exo a (He.ga X.K x) (some dx))) a) dx (.xd [(f, v0)]) = upd H1 dx (.xd [(f, v0)]) := by
          funext c
          by_cases hc : c = dx
          · rw [hc, upd_same, upd_same]
          · rw [upd_ne hc, upd_ne hc]
            by_cases hca : c = a
            · rw [hca, del_same, hna]
            · rw [del_ne hca, upd_ne hca, upd_ne hc, upd_ne hca]
        rw [eH]
        obtain ⟨R2, st2⟩ := R1.fresh (o := .xd [(f, v0)]) hdn
        refine q (.ref (He.ga X.K x)) (some dx) m1 _ σ (st1.trans st2) R2 (E.step (st1.trans st2)) ⟨rfl, dx, [v0], rfl, ?_, rfl, ⟨v0, [], rfl, st2.val i0, rfl⟩⟩
        rw [mask_upd (R1.out hdn)]
        exact upd_same
    · exact q.elim
  · exact q.elim
end
end DL
namespace TR
open PySem PySem.Spec PyProof.Rows L2
abbrev Cl : Type := Value × Option Nat × (Addr → Value → Option Addr → TS)
def unEnds (D : Ends) : Option Nat → Ends
  | none => D
  | some i => { nx := fun σ H => D.nx (σ.set i none) H, rt := D.rt, bk := fun σ H => D.bk (σ.set i none) H, ct := fun σ H => D.ct (σ.set i none) H }
def putAt (σ : L2.St) (a : Addr) : Option Nat → L2.St
  | none => σ
  | some i => σ.set i (some (.ref a))
def wCl (K : PySem.W.Frag) (Wout : WX) (D : Ends) : List Cl → WX
  | [] => Wout
  | (c, oi, ts) :: r => fun cls d σ H => ∃ b, PySem.W.exmOne K cls c = some b ∧ (b = true → ∀ a, H a = none → ts a cls d (unEnds D oi) (putAt σ a oi) H) ∧ (b = false → wCl K Wout D r cls d σ H)
inductive Hds (X : Cx) : List ExceptHandler → List Cl → Prop
  | nil : Hds X [] []
  | bare {x : Str} {c : Value} {ts : Addr → Value → Option Addr → TS} {b₀ : Stmt} {suite : List Stmt} {np p' : Pos} {hds : List ExceptHandler} {l : List Cl} (hc : Names X x c)
      (hsu : ∀ (a : Addr) (oe : Obj) (cls : Value) (d : Option Addr) (pn : List (Addr × Obj)), Zc cls d oe → (∃ vs, oe.data = .fields vs) → PSs (X.suite a ((a, oe) :: pn)) (b₀ :: suite) (ts a cls d)) (r : Hds X hds l) :
      Hds X (.ExceptHandler (some (.Name x np)) none (b₀ :: suite) p' :: hds) ((c, none, ts) :: l)
  | named {x n : Str} {i : Nat} {c : Value} {ts : Addr → Value → Option Addr → TS} {b₀ : Stmt} {suite : List Stmt} {np p' : Pos} {hds : List ExceptHandler} {l : List Cl} (hi : X.N[i]? = some n) (hl : X.env.kindOf n = some .local) (hc : Names X x c)
      (hsu : ∀ (a : Addr) (oe : Obj) (cls : Value) (d : Option Addr) (pn : List (Addr × Obj)), Zc cls d oe → (∃ vs, oe.data = .fields vs) → PSs (X.suite a ((a, oe) :: pn)) (b₀ :: suite) (ts a cls d)) (r : Hds X hds l) :
      Hds X (.ExceptHandler (some (.Name x np)) (some n) (b₀ :: suite) p' :: hds) ((c, some i, ts) :: l)
section
variable {X : Cx} {pins : List (Addr × Obj)} {σ : L2.St} {H : Hp} {D : Ends} {Wout : WX} {a : Addr} {B : Heap} {sI s' : Shared} {cls : Value} {d : Option Addr}
structure At (X : Cx) (pins : List (Addr × Obj)) (σ : L2.St) (H : Hp) (a : Addr) (B : Heap) (cls : Value) (d : Option Addr) (sI s : Shared) : Prop where
  inv : Inv X pins σ H sI
  gr : ∀ b o, sI.heap.get? b = some o → b ∉ frs X.stack → B.get? b = some o
  up : sI.heap.UpToSlots s.heap
  fly : HandSPX.FlyingZ B (X.env :: X.outer) a (Zc cls d) s.heap
  na : H a = none
  os : s.os = sI.os
  ag : AllBare s.gens
  nL : a ≠ X.env.locals
  nF : a ∉ X.fs
end
end TR
namespace DL
open PySem PySem.Spec PyProof.Rows L2
variable [Tb]
structure Hn where
  cs : List (Str × Bool)
  i : Option Nat
  f : Addr → Addr → Str → FS
def pickH (c : Str) : List Hn → Option (Option Hn)
  | [] => some none
  | h :: r => match h.cs.lookup c with
    | some true => some (some h)
    | some false => pickH c r
    | none => none
def putE (env : Dnv) (a d : Addr) (e : Xn) : Option Nat → Dnv
  | none => env
  | some i => env.set i (some (.v (.exn a d e.c e.ns e.ps)))
def unFlo : Option Nat → Flo → Flo
  | none, f => f
  | some i, .nx env S => .nx (env.set i none) S
  | some i, .bk env S => .bk (env.set i none) S
  | some i, .ct env S => .ct (env.set i none) S
  | some _, f => f
def tryU (ad : Addr × Addr) (b : XS) (hs : List Hn) : XS := fun env S => match b env S with
  | .ex e env1 S1 => (match pickH e.c hs with
    | some (some h) => (unFlo h.i (h.f ad.1 ad.2 e.c (putE env1 ad.1 ad.2 e h.i) S1)).x
    | some none => .ex e env1 S1
    | none => .bad)
  | r => r
open Classical in
noncomputable def xUni (f : Addr × Addr → XS) : XS := fun env S => if ∀ ad, f ad env S = f (0, 0) env S then f (0, 0) env S else .bad
theorem xUni_of {f : Addr × Addr → XS} {env : Dnv} {S : Sto} {r : Flx} (h : ∀ ad, f ad env S = r) : xUni f env S = r := by
  unfold xUni
  rw [if_pos fun ad => (h ad).trans (h _).symm]
  exact h _
inductive HdX (X : Cx) : List ExceptHandler → List Hn → Prop
  | nil : HdX X [] []
  | bare {x : Str} {c : Value} {h : Hn} {b₀ : Stmt} {suite : List Stmt} {np p' : Pos} {hds : List ExceptHandler} {l : List Hn} (hc : Names X x c) (hi : h.i = none) (he : ∀ y b, (y, b) ∈ h.cs → PySem.W.exmOne X.K (.ref (He.ga X.K y)) c = some b)
      (hsu : ∀ (a : Addr) (oe : Obj) (pn : List (Addr × Obj)) (y : Str) (dd : Addr), Zc (.ref (He.ga X.K y)) (some dd) oe → (∃ vs, oe.data = .fields vs) → PSsd (X.suite a ((a, oe) :: pn)) (b₀ :: suite) (h.f a dd y)) (r : HdX X hds l) :
      HdX X (.ExceptHandler (some (.Name x np)) none (b₀ :: suite) p' :: hds) (h :: l)
  | named {x n : Str} {i : Nat} {c : Value} {h : Hn} {b₀ : Stmt} {suite : List Stmt} {np p' : Pos} {hds : List ExceptHandler} {l : List Hn} (hn : X.N[i]? = some n) (hl : X.env.kindOf n = some .local) (hc : Names X x c) (hi : h.i = some i) (he : ∀ y b, (y, b) ∈ h.cs → PySem.W.exmOne X.K (.ref (He.ga X.K y)) c = some b)
      (hsu : ∀ (a : Addr) (oe : Obj) (pn : List (Addr × Obj)) (y : Str) (dd : Addr), Zc (.ref (He.ga X.K y)) (some dd) oe → (∃ vs, oe.data = .fields vs) → PSsd (X.suite a ((a, oe) :: pn)) (b₀ :: suite) (h.f a dd y)) (r : HdX X hds l) :
      HdX X (.ExceptHandler (some (.Name x np)) (some n) (b₀ :: suite) p' :: hds) (h :: l)
def tsOf (K : PySem.W.Frag) (f : Addr → Addr → Str → FS) (a : Addr) (cls : Value) (d : Option Addr) : TS := fun D σ H => ∃ (y : Str) (dd : Addr), cls = .ref (He.ga K y) ∧ d = some dd ∧ TDs K (f a dd y) D σ H
theorem ts_ok {X X' : Cx} {f : Addr → Addr → Str → FS} {a : Addr} {cls : Value} {d : Option Addr} {sts : List Stmt} (hK : X'.K = X.K) (h : ∀ (y : Str) (dd : Addr), cls = .ref (He.ga X.K y) → d = some dd → PSs X' sts (TDs X.K (f a dd y))) : PSs X' sts (tsOf X.K f a cls d) := by
  refine ⟨fun pins s σ H D I rd => ?_⟩
  obtain ⟨y, dd, h1, h2, rd⟩ := rd
  exact (h y dd h1 h2).run pins s σ H D I rd
section
variable {K : PySem.W.Frag} {m : Mp} {H : Hp} {σ : L2.St} {env : Dnv} {S : Sto} {D : Ends} {W : WX}
theorem EnvIs.unset {G : Hp} (h : EnvIs K m G σ env) (i : Nat) : EnvIs K m G (σ.set i none) (env.set i none) := by
  refine ⟨by rw [List.length_set, List.length_set]; exact h.len, fun j d e => ?_⟩
  by_cases hj : i = j
  · subst hj
    by_cases hl : i < env.length
    · rw [List.getElem?_set_self hl] at e; cases e
    · rw [List.getElem?_eq_none (by rw [List.length_set]; omega)] at e; cases e
  · rw [List.getElem?_set_ne hj] at e ⊢
    exact h.get j d e
theorem flo_un {i : Option Nat} {r : Flo} (h : FlxOk K m H D W (unFlo i r).x) : FloOk K m H (TR.unEnds D i) r := by
  cases i with
  | none => exact flx_of h
  | some i =>
    cases r with
    | nx env S => exact fun m' H' σ st R E => h m' H' _ st R (E.unset i)
    | rt d S => exact h
    | bk env S => exact fun m' H' σ st R E => h m' H' _ st R (E.unset i)
    | ct env S => exact fun m' H' σ st R E => h m' H' _ st R (E.unset i)
    | bad => exact h
theorem wish_ok {e : Xn} {cls : Value} {dx : Addr} {m' : Mp} {H' : Hp} (st : Stp m H m' H') (R : Rel K m' H' S) (E : EnvIs K m' (mask m' H') σ env) (x : ExIs K m' H' e cls (some dx)) : ∀ (cl : List TR.Cl) (l : List Hn), cl.length = l.length →
    (∀ (i : Nat) (n : Hn) (c : TR.Cl), l[i]? = some n → cl[i]? = some c → c.2.1 = n.i ∧ c.2.2 = tsOf K n.f ∧ ∀ y b, (y, b) ∈ n.cs → PySem.W.exmOne K (.ref (He.ga K y)) c.1 = some b) →
    (∀ a : Addr, FlxOk K m H D W (match pickH e.c l with
      | some (some h) => (unFlo h.i (h.f a dx e.c (putE env a dx e h.i) S)).x
      | some none => .ex e env S
      | none => .bad)) → TR.wCl K W D cl cls (some dx) σ H'
  | [], [], _, _, q => q 0 cls (some dx) m' H' σ st R E x
  | [], _ :: _, h, _, _ => by simp at h
  | _ :: _, [], h, _, _ => by simp at h
  | c :: cl, n :: l, hl, h, q => by
    obtain ⟨h1, h2, h3⟩ := h 0 n c rfl rfl
    have next := wish_ok st R E x cl l (by simpa using hl) fun i n c e1 e2 => h (i + 1) n c (by simpa using e1) (by simpa using e2)
    obtain ⟨c, oi, ts⟩ := c
    dsimp only at h1 h2 h3
    subst h1
    subst h2
    unfold pickH at q
    cases hk : n.cs.lookup e.c with
    | none => rw [hk] at q; exact (q 0).elim
    | some b =>
      rw [hk] at q
      have hb := h3 e.c b (PySem.mem_of_lookup hk)
      obtain ⟨x1, dy, vs, x2, x3, x4, x5⟩ := x
      cases x2
      subst x1
      refine ⟨b, hb, fun e1 a ha => ?_, fun e1 => ?_⟩
      · subst e1
        dsimp only at q
        refine ⟨e.c, dx, rfl, rfl, m', putE env a dx e n.i, S, R, ?_, flo_un ((q a).step st)⟩
        cases n.i with
        | none => exact E
        | some i => exact E.set (d := .v (.exn a dx e.c e.ns e.ps)) ⟨vs, rfl, x3, x4, x5⟩
      · subst e1
        exact next q
end
section
variable {X : Cx} {W : WX} {B : Bs} {body : List Stmt} {h₀ : ExceptHandler} {hds : List ExceptHandler} {l : List Hn} {pos : Pos} {b : XS}
def down : Flx → Flo
  | .nx env S => .nx env S
  | .rt d S => .rt d S
  | .bk env S => .bk env S
  | .ct env S => .ct env S
  | _ => .bad
def dS (f : XS) : FS := fun env S => down (f env S)
end
structure SXh (X : Cx) : Prop where
  nd : X.N.Nodup
  units : X.A.units + 200 < cLine
theorem SX.suite {X : Cx} (h : SX X) (a : Addr) (pn : List (Addr × Obj)) : SXh (X.suite a pn) := ⟨h.nd, h.units⟩
theorem SX.h {X : Cx} (h : SX X) : SXh X := ⟨h.nd, h.units⟩
section
variable {X : Cx} {a b : Expr} {f g : FE} {pos : Pos}
theorem d_eqH (hX : SXh X) (ha : PEd X a f) (hb : PEd X b g) : PEd X (.Compare a [.Eq] [b] pos) (f2 pEq f g) := pe_weak (pe_cmpR (op_eqD (by have := hX.units; omega)) ha hb (nobehind _ (by decide) (by decide))) fun _ _ _ => td_op op2_eq
theorem t_eqH (hX : SXh X) (ha : PEd X a f) (hb : PEd X b g) : PTd X (.Compare a [.Eq] [b] pos) (fTru (f2 pEq f g)) := t_of (op_eqD (by have := hX.units; omega)) op2_eq bl_eq ha hb (by decide) (by decide)
theorem g_nmH (hX : SXh X) {i : Nat} {x : Str} (hi : X.N[i]? = some x := by rfl) (hx : Loc X.env.scope x := by first | exact .inl rfl | exact .inr rfl) (hf : X.fn x = true ∨ X.env.scope.names.lookup x = some .local := by first | exact .inl rfl | exact .inr rfl | assumption) : PGd X (.Name x pos) (gNm i) :=
  pg_weak (pg_name hX.nd hi hx hf) fun v σ H Q ⟨m, env, S, d, R, E, i1, env', S', e1, q⟩ => by
  cases e1
  exact q m H _ (Stp.refl m H) R (E.set i1)
end
def fldP (f : Str) : List Str → List P → Option P
  | n :: ns, p :: ps => if n = f then some p else fldP f ns ps
  | _, _ => none
def fXf (a d : Addr) (c : Str) (i : Nat) (f : Str) : FE := fun env S => match env[i]? with
  | some (some (.v (.exn a' d' c' ns ps))) => if a' = a ∧ d' = d ∧ c' = c then (match fldP f ns ps with
    | some p => .ok (.v p) S
    | none => .bad) else .bad
  | _ => .bad
theorem fld_is {K : PySem.W.Frag} {G : Hp} {f : Str} {p : P} : ∀ {ns : List Str} {ps : List P} {vs : List V}, IsAll K G ps vs → ns.length = vs.length → fldP f ns ps = some p → ∃ v, (ns.zip vs).lookup f = some v ∧ Is K G p v
  | [], _, _, _, _, h => by cases h
  | n :: ns, [], _, _, _, h => by cases h
  | n :: ns, q :: ps, _, ⟨v, vs, h1, h2, h3⟩, hl, h => by
    subst h1
    unfold fldP at h
    by_cases e : n = f
    · rw [if_pos e] at h
      cases h
      subst e
      exact ⟨v, by simp [List.lookup], h2⟩
    · rw [if_neg e] at h
      obtain ⟨u, e1, e2⟩ := fld_is h3 (by simpa using hl) h
      refine ⟨u, ?_, e2⟩
      have : (f == n) = false := by simpa using fun z => e z.symm
      simp [List.lookup, this, e1]
section
variable {X : Cx} {a dd : Addr} {oe : Obj} {y : Str} {pn : List (Addr × Obj)} {pos : Pos}
theorem d_xf {i : Nat} {n f : Str} {p : Pos} (T : ClsC X.K (He.ga X.K y)) (hno : PySem.W.findIn X.K (.ref (He.ga X.K y)) f = some none) (hz : Zc (.ref (He.ga X.K y)) (some dd) oe) (hf : ∃ vs, oe.data = .fields vs)
    (hv : PEd (X.suite a ((a, oe) :: pn)) (.Name n p) (fVar i)) (hb : attributeBase (.Name n p) f X.env (eval (.Name n p) X.env) = eval (.Name n p) X.env := by rfl) :
    PEd (X.suite a ((a, oe) :: pn)) (.Attribute (.Name n p) f pos) (fXf a dd y i f) :=
  pe_weak (pe_xf (X := X) (C := He.ga X.K y) ⟨T.ga, T.gg, T.exC, T.hdC⟩ hno hz hf hv hb) fun σ H Q ⟨m, env, S, R, E, d, S', e1, q⟩ => by
  unfold fXf at e1
  split at e1
  · rename_i a' d' c' ns ps hi
    split at e1
    · rename_i hh
      obtain ⟨rfl, rfl, rfl⟩ := hh
      split at e1
      · rename_i p hp
        cases e1
        refine ⟨m, env, S, R, E, .v (.exn a' d' c' ns ps), S, by unfold fVar; rw [hi], fun v m1 H1 st1 R1 i1 => ?_⟩
        obtain ⟨xs, rfl, h2, h3, h4⟩ := i1
        obtain ⟨u, e2, e3⟩ := fld_is h4 h3 hp
        exact ⟨rfl, rfl, d', _, u, rfl, (mask_some h2).2, e2, q u m1 H1 st1 R1 e3⟩
      · cases e1
    · cases e1
  · cases e1
def fIsE (a d : Addr) (c : Str) (i : Nat) (cs : List (Str × Bool)) : FE := fun env S => match env[i]? with
  | some (some (.v (.exn a' d' c' _ _))) => if a' = a ∧ d' = d ∧ c' = c then (match cs.lookup c with
    | some b => .ok (.v (.bl b)) S
    | none => .bad) else .bad
  | _ => .bad
theorem call_isE' (T : ClsC X.K (He.ga X.K y)) (hz : Zc (.ref (He.ga X.K y)) (some dd) oe) (hf : ∃ vs, oe.data = .fields vs) : CallR (X.suite a ((a, oe) :: pn)) (.builtin "isinstance")
    (fun xs H Q => ∃ (c : V) (cv : Value) (b : Bool) (fs : List (Str × V)), xs = [.ref a, c] ∧ (∀ u, RelV c u → u = cv) ∧ PySem.W.kitOne X.K (.ref (He.ga X.K y)) cv = some b ∧ H dd = some (.xd fs) ∧ Q (.bl b) H) := by
  intro pins s σ H xs us Q I r rd
  obtain ⟨c, cv, b, fs, rfl, hcv, e, hd, q⟩ := rd
  cases r with
  | cons rx rr =>
    cases rr with
    | cons rt rr =>
      cases rr
      cases rx
      obtain rfl := hcv _ rt
      obtain ⟨hget, _⟩ := I.pin (a, oe) (List.mem_append.mpr (.inl List.mem_cons_self))
      obtain ⟨vs, hv⟩ := hf
      have hx : ObjOk X.prog X.w H s.heap dd (.xd fs) := I.hok dd _ hd
      obtain ⟨mA, hns, _⟩ := hx
      obtain ⟨od, ho, _⟩ := lookIn_ns hns
      have J : PySem.W.InstAt s.heap a oe (He.ga X.K y) (some od) := ⟨hget, hz.1, by unfold PySem.W.notCls; rw [hv] <;> rfl, by rw [hz.2]; exact ho⟩
      have cl : (PySem.W.clsIn X.K (He.ga X.K y)).isSome = true := by
        obtain ⟨cd, hc, _⟩ := PySem.W.any_some T.hdC
        rw [hc]
        rfl
      exact PySem.W.kia_one (PySem.W.kitx_exc cl T.ga T.gg T.exC T.ha T.hn T.ht T.hm) I.kIn J e (fun z => nomatch z) fun tk => ⟨.bl b, H, I.kept (t' := tk) fun _ _ z => z, rfl, q⟩
end
end DL
namespace DL
open PySem PySem.Spec PyProof.Rows L2
variable [Tb]
section
variable {X : Cx} {a dd : Addr} {oe : Obj} {y : Str} {pn : List (Addr × Obj)} {p p1 p2 pos : Pos}
theorem d_isE {i : Nat} {n x : Str} {cs : List (Str × Bool)} {c : V} {cv : Value} (T : ClsC X.K (He.ga X.K y)) (hz : Zc (.ref (He.ga X.K y)) (some dd) oe) (hf : ∃ vs, oe.data = .fields vs) (hm : X.mg "isinstance" = none)
    (hk : ∀ z b, (z, b) ∈ cs → PySem.W.kitOne X.K (.ref (He.ga X.K z)) cv = some b) (hcv : ∀ u, RelV c u → u = cv)
    (hv : PEd (X.suite a ((a, oe) :: pn)) (.Name n p1) (fVar i)) (hc : PE (X.suite a ((a, oe) :: pn)) (.Name x p2) (tC c)) (hg : Gl X "isinstance" := by rfl)
    (he : starEach [.Name n p1, .Name x p2] X.env = (false, eval (.Name n p1) X.env) :: starEach [.Name x p2] X.env := by rfl) (he2 : starEach [.Name x p2] X.env = (false, eval (.Name x p2) X.env) :: starEach [] X.env := by rfl) (hpl : (backTo pos (starEach [.Name x p2] X.env)).any (·.1) = false := by rfl) :
    PEd (X.suite a ((a, oe) :: pn)) (.Call (.Name "isinstance" p) [.Name n p1, .Name x p2] [] pos) (fIsE a dd y i cs) :=
  pe_weak (pe_callB (call_isE' T hz hf) hg hm PyProof.Rows.boot_isinstance (pa_cons hv (pa_cons hc pa_nil he2) he) (by decide) (by decide) he hpl) fun σ H Q ⟨m, env, S, R, E, d, S', e1, q⟩ => by
  unfold fIsE at e1
  split at e1
  · rename_i a' d' c' ns ps hi
    split at e1
    · rename_i hh
      obtain ⟨rfl, rfl, rfl⟩ := hh
      split at e1
      · rename_i b hb
        cases e1
        refine ⟨m, env, S, R, E, .v (.exn a' d' c' ns ps), S, by unfold fVar; rw [hi], fun v m1 H1 st1 R1 i1 => ?_⟩
        obtain ⟨xs, rfl, h2, h3, h4⟩ := i1
        exact ⟨c, cv, b, _, rfl, hcv, hk _ _ (PySem.mem_of_lookup hb), (mask_some h2).2, q _ m1 H1 st1 R1 rfl⟩
      · cases e1
    · cases e1
  · cases e1
end
open Classical in
noncomputable def uniO (f : Addr → Oc D) : Oc D := if ∀ a, f a = f 0 then f 0 else .bad
theorem uniO_of {f : Addr → Oc D} {r : Oc D} (h : ∀ a, f a = r) : uniO f = r := by
  unfold uniO
  rw [if_pos fun a => (h a).trans (h _).symm]
  exact h _
def xThk (i : Nat) (f : Addr) (τ : Sto → Ox D) : XE' := fun env S => match env[i]? with
  | some (some (.v (.adr a))) => if a = f then τ S else .bad
  | _ => .bad
abbrev LF := Addr → (Sto → Ox D) → Sto → Oc D
def runL (n : Nat) (keep : Bool) (b : Addr → (Sto → Ox D) → FS) : LF := fun f τ S => runF n keep (b f τ) [.v (.adr f)] S
noncomputable def fLam (G : LF) (fx : XE') : FE := fun env S => uniO fun f => G f (fun S1 => fx env S1) S
def LamB (K : PySem.W.Frag) (c' : Addr) (q : Str) (σ : L2.St) (env : Dnv) : Bs where
  p := fun m H => mask m H c' = some (LamX.CodeO c' q) ∧ EnvIs K m (mask m H) σ env
  k := fun st h => ⟨st.ex _ _ h.1, h.2.step st⟩
theorem code_in {P : Program} {w : World} {K : PySem.W.Frag} {m : Mp} {H H1 : Hp} {S : Sto} {h : Heap} {c : Addr} {q : Str} (R : Rel K m H S) (eN : ∀ b u, H b = some u → notTbl u → H1 b = some u) (hok : HOk P w H1 h) (e : H1 c = some (LamX.CodeO c q)) : mask m H1 c = some (LamX.CodeO c q) := by
  refine mask_at (fun ho => ?_) e fun ps => LamX.codeO_ne ps
  obtain ⟨o, e0, n⟩ := R.tracked ho
  have e2 := eN _ _ e0 n.nt
  rcases n with ⟨xs, rfl⟩ | ⟨kvs, rfl⟩ | ⟨hs, as, xs, rfl⟩ | ⟨C, dx, fs, rfl⟩
  · have z := e.symm.trans e2
    unfold LamX.CodeO at z
    cases z
  · have z := e.symm.trans e2
    unfold LamX.CodeO at z
    cases z
  · obtain ⟨⟨o1, es, ep, vs, a1, _, a2, _⟩, _⟩ := hok c _ e2
    obtain ⟨⟨o2, vs2, t, b1, b2, _⟩, _⟩ := hok c _ e
    rw [a1] at b1
    cases b1
    rw [a2] at b2
    cases b2
  · have z := e.symm.trans e2
    unfold LamX.CodeO at z
    cases z
theorem tabs_of {K : PySem.W.Frag} {m : Mp} {H : Hp} {S : Sto} (R : Rel K m H S) : LamX.Tabs (Tb.t K) H := fun p hp => by
  obtain ⟨ps, _, h2, h3, h4⟩ := R.tab p hp
  exact ⟨ps, h2, h3, fun pos cv hc => by
    obtain ⟨c, e, z⟩ := h4 pos cv hc
    exact ⟨c, e, (mask_some z).2⟩⟩
theorem tabM_of {P : Program} {w : World} {K : PySem.W.Frag} {m : Mp} {H H1 : Hp} {S : Sto} {h : Heap} (R : Rel K m H S) (eN : ∀ b u, H b = some u → notTbl u → H1 b = some u) (hok : HOk P w H1 h) (T : LamX.Tabs (Tb.t K) H1) : ∀ p ∈ Tb.t K, TabM m H1 p.1 p.2 := fun p hp => by
  obtain ⟨_, n, _⟩ := R.tab p hp
  obtain ⟨ps, h2, h3, h4⟩ := T p hp
  exact ⟨ps, n, h2, h3, fun pos cv hc => by
    obtain ⟨c, e, z⟩ := h4 pos cv hc
    exact ⟨c, e, code_in R eN hok z⟩⟩
abbrev cxL (P : Program) (w : World) (K : PySem.W.Frag) (mg : Str → Option Value) (base : Heap) (Ng : List Str) (x : Str) (sg : Scope) (g : Addr) (cdg : Value) (A : Around) (outer : List PySem.Env) (s : Shared) (H : Hp) : Cx := (cxOf C8.CX0 P w K mg base Ng x sg g cdg A outer s H C8.E0).nox
structure FnL (P : Program) (w : World) (K : PySem.W.Frag) (mg : Str → Option Value) (base : Heap) (k : Nat) (Ng : List Str) (x : Str) (sg : Scope) (g : Addr) (bg : List Stmt) (a : Str) (G : LF) : Prop where
  ex : ∃ (keep : Bool) (b : Addr → (Sto → Ox D) → FS), G = runL Ng.length keep b ∧ ∀ (cdv : Value) (A : Around) (outer : List PySem.Env) (f : Addr) (τ : Sto → Ox D) (s : Shared) (H : Hp) (B : Bs), Room k (A.deeper (envOfC x sg s.heap.objs.size g cdv)) → SX (cxL P w K mg base Ng x sg g cdv A outer s H) →
    (∀ (W : WX) (pn : List (Addr × Obj)) (xe : Value → Shared → Prop) (p1 p2 : Pos), Takes ((cxL P w K mg base Ng x sg g cdv A outer s H).tr pn xe) W → PEx ((cxL P w K mg base Ng x sg g cdv A outer s H).tr pn xe) W B (.Call (.Name a p1) [] [] p2) (xThk 0 f τ)) →
    PSsx (cxL P w K mg base Ng x sg g cdv A outer s H) (fun _ _ _ _ => False) B bg (xS (b f τ))
end DL
namespace DL
open PySem PySem.Spec PyProof.Rows L2
variable [Tb]
theorem SX.tr {X : Cx} (h : SX X) (pn : List (Addr × Obj)) (xe : Value → Shared → Prop) : SX (X.tr pn xe) := ⟨h.calm, h.nd, h.units, h.guards⟩
section
variable {X : Cx} {W : WX} {B : Bs} {sts : List Stmt} {st : Stmt} {f : XS}
theorem down_ok {K : PySem.W.Frag} {m : Mp} {H : Hp} {D : Ends} {W W' : WX} {f : Flx} (q : FlxOk K m H D W (down f).x) : FlxOk K m H D W' f := by
  cases f with
  | nx e S1 => exact q
  | rt d S1 => exact q
  | bk e S1 => exact q
  | ct e S1 => exact q
  | bad => exact q
  | ex x e S1 => exact q.elim
theorem xss_down {W' : WX} (h : PSsx X W' B sts f) : PSsx X W B sts (xS (dS f)) := pss_weak h fun D σ H ⟨m, env, S, b, R, E, q⟩ => ⟨m, env, S, b, R, E, down_ok q⟩
end
theorem pe_bad {X : Cx} {e : Expr} {f : FE} (h : ∀ env S, f env S = .bad) : PEd X e f := ⟨fun _ _ _ _ _ _ ⟨_, env, S, _, _, _, _, e1, _⟩ => by rw [h] at e1; cases e1⟩
theorem d_isEC {X : Cx} {a dd : Addr} {oe : Obj} {y : Str} {pn : List (Addr × Obj)} {p p1 p2 pos : Pos} {i : Nat} {n x : Str} {cs : List (Str × Bool)} {c : V} {cv : Value} (hT : ∀ z b, (z, b) ∈ cs → ClsC X.K (He.ga X.K z) ∧ PySem.W.kitOne X.K (.ref (He.ga X.K z)) cv = some b) (hz : Zc (.ref (He.ga X.K y)) (some dd) oe) (hf : ∃ vs, oe.data = .fields vs) (hm : X.mg "isinstance" = none)
    (hcv : ∀ u, RelV c u → u = cv) (hv : PEd (X.suite a ((a, oe) :: pn)) (.Name n p1) (fVar i)) (hc : PE (X.suite a ((a, oe) :: pn)) (.Name x p2) (tC c)) (hg : Gl X "isinstance" := by rfl)
    (he : starEach [.Name n p1, .Name x p2] X.env = (false, eval (.Name n p1) X.env) :: starEach [.Name x p2] X.env := by rfl) (he2 : starEach [.Name x p2] X.env = (false, eval (.Name x p2) X.env) :: starEach [] X.env := by rfl) (hpl : (backTo pos (starEach [.Name x p2] X.env)).any (·.1) = false := by rfl) :
    PEd (X.suite a ((a, oe) :: pn)) (.Call (.Name "isinstance" p) [.Name n p1, .Name x p2] [] pos) (fIsE a dd y i cs) := by
  cases hl : cs.lookup y with
  | none =>
    refine pe_bad fun env S => ?_
    unfold fIsE
    split
    · split
      · rename_i h
        obtain ⟨_, _, rfl⟩ := h
        rw [hl]
      · rfl
    · rfl
  | some b => exact d_isE (hT y b (PySem.mem_of_lookup hl)).1 hz hf hm (fun z b h => (hT z b h).2) hcv hv hc hg he he2 hpl
def fXg (ks : List Str) (a d : Addr) (c : Str) (i : Nat) (f : Str) : FE := fun env S => if c ∈ ks then fXf a d c i f env S else .bad
theorem d_xfC {X : Cx} {a dd : Addr} {oe : Obj} {y : Str} {pn : List (Addr × Obj)} {pos : Pos} {i : Nat} {n f : Str} {p : Pos} {ks : List Str} (hT : ∀ z ∈ ks, ClsC X.K (He.ga X.K z) ∧ PySem.W.findIn X.K (.ref (He.ga X.K z)) f = some none) (hz : Zc (.ref (He.ga X.K y)) (some dd) oe) (hf : ∃ vs, oe.data = .fields vs)
    (hv : PEd (X.suite a ((a, oe) :: pn)) (.Name n p) (fVar i)) (hb : attributeBase (.Name n p) f X.env (eval (.Name n p) X.env) = eval (.Name n p) X.env := by rfl) :
    PEd (X.suite a ((a, oe) :: pn)) (.Attribute (.Name n p) f pos) (fXg ks a dd y i f) := by
  by_cases h : y ∈ ks
  · have e : fXg ks a dd y i f = fXf a dd y i f := by
      funext env S
      unfold fXg
      rw [if_pos h]
    rw [e]
    exact d_xf (hT y h).1 (hT y h).2 hz hf hv hb
  · exact pe_bad fun env S => by unfold fXg; rw [if_neg h]
structure EmC (K : PySem.W.Frag) (cv : Value) (cs : List (Str × Bool)) : Prop where
  ex : ∀ y b, (y, b) ∈ cs → PySem.W.exmOne K (.ref (He.ga K y)) cv = some b
  kit : ∀ y b, (y, b) ∈ cs → PySem.W.kitOne K (.ref (He.ga K y)) cv = some b
theorem emB_ok {K : PySem.W.Frag} {cv : Value} {cs : List (Str × Bool)} (h : emB K cv cs = true) : EmC K cv cs :=
  ⟨fun y b hy => of_decide_eq_true (and2 (List.all_eq_true.mp h (y, b) hy)).1, fun y b hy => of_decide_eq_true (and2 (List.all_eq_true.mp h (y, b) hy)).2⟩
section
variable {fa : List He.Fa} {fn : List He.DefD} {cs : List CsT} {ts : List TabT} {xl : List XlT} {el : List ElT} {tf : List LmT} {w : World} {h : Heap} {K : PySem.W.Frag}
theorem says_d (c : SaysF fa fn cs ts xl el tf w h K) : He.SaysD fa fn K := congrArg (fun z : He.AlT => z.1) c.t
theorem says_x (c : SaysF fa fn cs ts xl el tf w h K) (i : Nat) {q : XlT} (h : xl[i]? = some q := by rfl) : XcC K q.1 q.2.1 q.2.2 :=
  xcB_ok (List.all_eq_true.mp (and2 (and2 (and2 (and2 c.more).2).2).2).1 q (List.mem_of_getElem? h))
theorem says_e (c : SaysF fa fn cs ts xl el tf w h K) (i : Nat) {q : ElT} (h : el[i]? = some q := by rfl) : EmC K (q.1 K) q.2 :=
  emB_ok (List.all_eq_true.mp (and2 (and2 (and2 (and2 c.more).2).2).2).2 q (List.mem_of_getElem? h))
theorem says_n (c : SaysF fa fn cs ts xl el tf w h K) : (tf.map fun q => (He.cT K q.1).2).Nodup := of_decide_eq_true (and2 c.more).1
def csF (K : PySem.W.Frag) (tf : List LmT) : List (Addr × Addr) := tf.map fun q => He.cT K q.1
theorem says_l (KX : K.In h) (c : SaysF fa fn cs ts xl el tf w h K) : (∀ p ∈ csF K tf, h.get? p.2 = some tabO) ∧ (∀ p ∈ csF K tf, K.lookup p.2 = none) ∧ ∀ p ∈ csF K tf, PySem.W.CodeHd h p.1 p.2 := by
  refine ⟨fun p hp => ?_, fun p hp => ?_, fun p hp => ?_⟩
  · obtain ⟨q, hq, rfl⟩ := List.mem_map.mp hp
    exact c.empty q.1 (List.mem_map.mpr ⟨q, hq, rfl⟩)
  · obtain ⟨q, hq, rfl⟩ := List.mem_map.mp hp
    exact c.out q.1 (List.mem_map.mpr ⟨q, hq, rfl⟩)
  · obtain ⟨q, hq, rfl⟩ := List.mem_map.mp hp
    exact PySem.W.codeHd_of_K KX (c.hd q.1 (List.mem_map.mpr ⟨q, hq, rfl⟩))
@[reducible] def tbOf (l : List LmT) : Tb := ⟨fun K => l.map fun q => ((He.cT K q.1).2, q.2 ++ "<lambda>"), fun _ => 0⟩
theorem lm_mem {l : List LmT} {q : LmT} (h : q ∈ l) (K : PySem.W.Frag) : ((He.cT K q.1).2, q.2 ++ "<lambda>") ∈ (tbOf l).t K := List.mem_map.mpr ⟨q, h, rfl⟩
theorem nd_inj {α β : Type} {f : α → β} {a b : α} : ∀ {l : List α}, (l.map f).Nodup → a ∈ l → b ∈ l → f a = f b → a = b
  | x :: l, nd, ha, hb, e => by
    rw [List.map_cons, List.nodup_cons] at nd
    rcases List.mem_cons.mp ha with h1 | h1 <;> rcases List.mem_cons.mp hb with h2 | h2
    · rw [h1, h2]
    · exact (nd.1 (List.mem_map.mpr ⟨b, h2, by rw [← e, h1]⟩)).elim
    · exact (nd.1 (List.mem_map.mpr ⟨a, h1, by rw [e, h2]⟩)).elim
    · exact nd_inj nd.2 h1 h2 e
theorem lm_hu {l : List LmT} {q : LmT} {K : PySem.W.Frag} (nd : (l.map fun q => (He.cT K q.1).2).Nodup) (h : q ∈ l) : ∀ p ∈ (tbOf l).t K, p.1 = (He.cT K q.1).2 → p.2 = q.2 ++ "<lambda>" := fun p hp e => by
  obtain ⟨r, hr, rfl⟩ := List.mem_map.mp hp
  obtain rfl := nd_inj (f := fun q : LmT => (He.cT K q.1).2) nd hr h e
  rfl
theorem lm_tb {l : List LmT} {K : PySem.W.Frag} : ∀ p ∈ (tbOf l).t K, p.1 ∈ (csF K l).map (·.2) := fun p hp => by
  obtain ⟨r, hr, rfl⟩ := List.mem_map.mp hp
  exact List.mem_map.mpr ⟨He.cT K r.1, List.mem_map.mpr ⟨r, hr, rfl⟩, rfl⟩
theorem csF_mem {l : List LmT} {q : LmT} (h : q ∈ l) (K : PySem.W.Frag) : He.cT K q.1 ∈ csF K l := List.mem_map.mpr ⟨q, h, rfl⟩
theorem code_of {p : He.Defn} {name qual : Str} {params : Arguments} {body : List Stmt} {scope : Scope} {dvs : List V} {kws : List (Str × V)} {fd : FuncData} (F : FunD K name qual params body scope dvs kws (He.fAd K p) fd) : fd.code = .ref (He.cT K p).1 := by
  obtain ⟨oc, od, dV, kV, doc, pm, an, cdv, ct, osl, rfl, lk, hcd, _, _⟩ := F.ex
  obtain ⟨c, rfl⟩ := He.codeIn_ref hcd
  have e : (He.cT K p).1 = c := He.codeOf_eq lk rfl
  rw [e] <;> rfl
end
section
variable {P : Program} {w : World} {K : PySem.W.Frag} {mg : Str → Option Value} {base : Heap} {x b f g t q : Str} {params : Arguments} {body : List Stmt} {scope : Scope} {fd : FuncData} {N ps : List Str}
theorem in1_ok (T : XcC K x b [f]) (F : FunD K "__init__" q params body scope [] [] (He.ma K (He.ga K x) "__init__") fd) (S : FnScope N ps scope) (hN : N.length = 2) (hps : ps.length = 2)
    (hb : ∀ (cdv : Value) (A : Around) (outer : List PySem.Env) (s : Shared) (H : Hp) (E : XK), PSs (cxOf CX0 P w K mg base N q scope (He.ma K (He.ga K x) "__init__") cdv A outer s H E) body (tSeq (tDrop (tVeI K (tCons (tVar 0) (tCons (tC (.str t)) tNil)))) (tOst K f (tVar 0) (tVar 1)))) :
    FnOk P w K mg base CX0 1 (He.ma K (He.ga K x) "__init__") fd ps (spI1 (He.ga K x) f) := by
  obtain ⟨oc, od, dV, kV, doc, pm, an, cdv, ct, osl, rfl, lk, hcd, _, _⟩ := F.ex
  exact fn_of lk hcd S (fun vs H Q E h => by rw [spI1_len vs H Q E h, hps]) fun A outer s H vs Q E hr h => ⟨_, hb cdv A outer s H E, init1 T h hN⟩
end
end DL
namespace XN
open PySem PySem.Spec PyProof.Rows L2 DL TR
variable [Tb]
section
variable {X : Cx} {e : Expr} {es : List Expr} {ta : TA}
theorem pmkN {CX : CXT} {x : Str} {C fI : Addr} {k : Nat} {fd : FuncData} {ps : List Str} {sp : Sp} {ds : List Value} {dvs : List V} {p pos : Pos} (T : OexC X.K C) (i1 : PySem.W.findIn X.K (.ref C) "__init__" = some (some (.ref fI))) (i2 : PySem.W.typeIn X.K (.ref fI) = some (.type "function"))
    (G : FnOk X.prog X.w X.K X.mg X.base CX k fI fd ps sp) (rm : Room (k + 1) X.A) (bd : Binds X.K fd ps ds) (dv : Vals dvs ds) (pass : Passes CX X (fun _ _ _ => False)) (hg : Gl X x) (hm : X.mg x = some (.ref C)) (ha : PA X (e :: es) ta)
    (hdb : (x == ("__debug__" : Str)) = false := by decide) (he : starEach (e :: es) X.env = (false, eval e X.env) :: starEach es X.env := by rfl) (hpl : (backTo pos (starEach es X.env)).any (·.1) = false := by rfl) :
    L2N.PMk X (.Call (.Name x p) (e :: es) [] pos) (tMkO C sp dvs ta) := by
  intro pins s0 σ H Q J rd
  obtain ⟨_, _, _, _, bm, _, _, _, _, _, _, _, _, _, _, lkC, refs⟩ := T.cls
  refine wpAny_Call_Name_kw (ld_glob J hg hm ?_ hdb)
  refine PySem.W.callWith_K (h₀ := X.base) J.ok.mod.kin T.kC (thn (ha.run pos pins s0 σ H _ J rd) fun us ⟨hp, g, dr, tk, os⟩ ⟨vs, H1, J1, rv1, few, want⟩ => ⟨J1.kIn, ?_⟩) he hpl
  have up1 : hp.objs.size ≤ hp.objs.size + 1 := Nat.le_succ _
  have want := want (hp.objs.size + 1) (J1.hok.fresh up1)
  have keeps : ∀ b o, hp.get? b = some o → ((hp.push (PySem.W.kdv_tup us)).push (PySem.HandSPX.excO C hp.objs.size)).get? b = some o := fun b o z => Heap.get?_push_of_some _ (Heap.get?_push_of_some _ z)
  have J2 := J1.laid (t' := tk) (a := hp.objs.size + 1) (o := exo (hp.objs.size + 1) C none) (h' := (hp.push (PySem.W.kdv_tup us)).push (PySem.HandSPX.excO C hp.objs.size)) keeps up1 (exo_ok (by heap_get))
  have rv2 : Vals (V.ref (hp.objs.size + 1) :: (vs ++ dvs)) (Value.ref (hp.objs.size + 1) :: (us ++ ds)) := .cons rfl (rv1.append dv)
  have many : (Value.ref (hp.objs.size + 1) :: us ++ ds).length = ps.length := (G.len _ _ _ _ want ▸ rv2.length).symm
  have fit : us.length ≤ sizeLine := by
    rw [← Paired.length rv1, sizeLine_eq]
    omega
  refine wpAny_call (PySem.HandSPX.call_own F.excBase_ValueError (fun Y => PySem.HandSPX.refsVE_contains Y bm refs) (J1.kIn _ _ lkC) (PySem.W.looks_findIn J1.kIn i1) (fun self => PySem.W.bind_fn J1.kIn self i2) fit
    (codeAny_mono (G.run _ X.stack _ _ ⟨Value.ref (hp.objs.size + 1) :: us, []⟩ _ _ _ (fun _ _ _ => False) (rm.make C us []) (J2.env0.make C us []) (bd _ (Value.ref (hp.objs.size + 1) :: us) J2.kIn many) rv2 want) fun r s' out => ?_))
  cases r with
  | error er => exact pass pins σ _ _ er s' J2 out
  | ok fl =>
    cases fl with
    | ret u =>
      obtain ⟨v, H2, same, bare, un, hok, rv, ev, d, fs, ea, ed, hd1, want⟩ := out
      subst ev
      obtain ⟨h2, g2, d2, t2, os'⟩ := s'
      obtain ⟨t0, G2, J3, kG, ge, hoe, na⟩ := mk_end0 (d2 := d2) (t2 := t2) J1 up1 keeps un hok same bare ea ed hd1
      exact ⟨rv, hp.objs.size + 1, _, _, ⟨G2, g2, d2, t2, os'⟩, _, .ref C, some d, rfl, J3, kG, ge, hoe, ⟨rfl, rfl, fun vs hv => by cases hv; rfl⟩, rfl, rfl, na, rfl, bare, raises_own T.exC T.tyC, want⟩
    | next => exact False.elim out
    | brk => exact False.elim out
    | cont => exact False.elim out
end
structure FnX (P : Program) (w : World) (K : PySem.W.Frag) (mg : Str → Option Value) (base : Heap) (k : Nat) (f : Addr) (fd : FuncData) (ps : List Str) (F : XF) : Prop where
  run : ∀ (A : Around) (outer : List PySem.Env) (s : Shared) (H : Hp) (args : Args) (us : List Value) (vs : List V) (Q : VK) (E : XK), Room k A → A.guards = some [] → Env0 P w K mg base A outer s H → BindsTo s fd args (ps.zip us) → Vals vs us → SpX K ps.length F vs H Q E →
    codeAny (model P w) A (.call (.ref f) args) (CR (L2N.CX P w) outer P w H s Q E) s
theorem fn_x {P : Program} {w : World} {K : PySem.W.Frag} {mg : Str → Option Value} {base : Heap} {k : Nat} {f : Addr} {name qual : Str} {params : Arguments} {body : List Stmt} {scope : Scope} {dV kV doc pm cdv ct oc : Value} {an od : Option Addr}
    {osl : Array (Option Value)} {N ps : List Str} {b : XS} {keep : Bool} (lk : K.lookup f = some ⟨oc, od, .func (PySem.W.fnOf name qual params body scope dV kV doc pm an cdv ct), osl⟩) (hcd : PySem.W.codeIn K cdv qual = true) (S : FnScope N ps scope)
    (hbody : ∀ (A : Around) (outer : List PySem.Env) (s : Shared) (H : Hp) (E : XK), Room k (A.deeper (envOfC qual scope s.heap.objs.size f cdv)) → A.guards = some [] → PSsx (cxOf (L2N.CX P w) P w K mg base N qual scope f cdv A outer s H E) (fun cls d _ H => E cls d H) Bs.none body b) :
    FnX P w K mg base (k + 1) f (PySem.W.fnOf name qual params body scope dV kV doc pm an cdv ct) ps (runX N.length keep b) := by
  refine ⟨fun A outer s H args us vs Q E hr hgd e0 hb r hsp => ?_⟩
  obtain ⟨m, S0, ds, R, iD, hlen, hF⟩ := hsp
  have hl : vs.length = ps.length := by rw [← iD.len]; exact hlen
  have KX : K.In s.heap := e0.mod.kin.keeps fun b o e => (e0.bs b o e).1
  have lim : s.heap.NoLimit := e0.mod.nolimit.keeps fun b o e => (e0.bs b o e).1
  refine codeAny_call_function hr.depth (KX _ _ lk) rfl S.co S.gen rfl (PySem.W.codeRec_of KX hcd) (hb _ _ _ _ ?_)
  refine wpAny_newFunctionEnv_cells S.kind (fun ⟨n, v⟩ hy => ?_) fun env he s1 x => ?_
  · rcases S.par n (List.of_mem_zip hy).1 with z | z
    · exact .inl z
    · exact .inr ⟨z, PySem.W.cellsFrom_some _ _ _ (.inl z)⟩
  subst he
  refine ⟨lim.keeps x.toInCall.keep, codeAny_func ?_⟩
  have I : Inv (cxOf (L2N.CX P w) P w K mg base N qual scope f cdv A outer s H E) [] (start N vs) H s1 := inv_start S hr.hd e0 hl r x
  have hB := hbody A outer s H E (hr.deeper _) hgd
  have reading : TXs K (fun cls d _ H => E cls d H) Bs.none b { nx := fun _ H' => Q .non H', rt := Q } (start N vs) H := by
    refine ⟨m, startD N.length ds, S0, trivial, R, start_is iD, ?_⟩
    unfold runX at hF
    cases hb : b (startD N.length ds) S0 with
    | nx env1 S1 =>
      rw [hb] at hF
      obtain ⟨d2, S2, e2, q⟩ := oxok_x hF
      exact fun m1 H1 σ1 st1 R1 E1 => close_ok (d := .v .non) (v := .non) R st1 R1 (show V.non = V.non from rfl) e2 q
    | rt d1 S1 =>
      rw [hb] at hF
      obtain ⟨d2, S2, e2, q⟩ := oxok_x hF
      exact fun v m1 H1 st1 R1 i1 => close_ok R st1 R1 i1 e2 q
    | ex e env1 S1 =>
      rw [hb] at hF
      intro cls dx m1 H1 σ1 st1 R1 E1 i1
      obtain ⟨R2, st2, ex⟩ := R.trunc R1 st1 S0.length R.len
      obtain ⟨h1, dy, ws, h2, h3, h4, h5⟩ := i1
      exact hF cls dx _ H1 st2 R2 ⟨h1, dy, ws, h2, ex _ _ h3, h4, IsAll.mono ex _ _ h5⟩
    | bk env1 S1 => rw [hb] at hF; cases hF
    | ct env1 S1 => rw [hb] at hF; cases hF
    | bad => rw [hb] at hF; cases hF
  refine wpAny_mono (hB.run [] s1 (start N vs) H _ I reading) (fun fl s' hs => ?_) fun e s' hs => hs
  cases fl with
  | ret u =>
    obtain ⟨v, σ', H', J, rv, q⟩ := hs
    exact ⟨v, H', J.os, J.bare, J.base, J.hok, rv, q⟩
  | next =>
    obtain ⟨σ', H', J, q⟩ := hs
    exact ⟨.non, H', J.os, J.bare, J.base, J.hok, rfl, q⟩
  | brk =>
    obtain ⟨_, _, _, q⟩ := hs
    exact False.elim q
  | cont =>
    obtain ⟨_, _, _, q⟩ := hs
    exact False.elim q
section
variable {P : Program} {w : World} {K : PySem.W.Frag} {mg : Str → Option Value} {base : Heap} {k : Nat} {f : Addr} {name qual : Str} {params : Arguments} {body : List Stmt} {scope : Scope} {dvs : List V} {kws : List (Str × V)} {fd : FuncData} {N ps : List Str} {keep : Bool}
theorem fn_XD {b : XS} (F : FunD K name qual params body scope dvs kws f fd) (S : FnScope N ps scope)
    (hbody : ∀ (cdv : Value) (A : Around) (outer : List PySem.Env) (s : Shared) (H : Hp) (E : XK), Room k (A.deeper (envOfC qual scope s.heap.objs.size f cdv)) → SX (cxOf (L2N.CX P w) P w K mg base N qual scope f cdv A outer s H E) → PassesOwn (model P w) (A.deeper (envOfC qual scope s.heap.objs.size f cdv)) (cxOf (L2N.CX P w) P w K mg base N qual scope f cdv A outer s H E).env (cxOf (L2N.CX P w) P w K mg base N qual scope f cdv A outer s H E).xe →
      L2N.Takes (cxOf (L2N.CX P w) P w K mg base N qual scope f cdv A outer s H E) (fun cls d _ H => E cls d H) → PSsx (cxOf (L2N.CX P w) P w K mg base N qual scope f cdv A outer s H E) (fun cls d _ H => E cls d H) Bs.none body b) :
    FnX P w K mg base (k + 1) f fd ps (runX N.length keep b) := by
  obtain ⟨oc, od, dV, kV, doc, pm, an, cdv, ct, osl, rfl, lk, hcd, _, _⟩ := F.ex
  refine fn_x lk hcd S fun A outer s H E hr hgd => hbody cdv A outer s H E hr ⟨rfl, S.nd, ?_, hgd⟩ (passes_of rfl) (L2N.takes_of rfl rfl rfl rfl)
  have := hr.un
  show (A.deeper (envOfC qual scope s.heap.objs.size f cdv)).units + 200 < cLine
  omega
end
section
variable {X : Cx} {W : WX} {B : Bs} {k n : Nat} {f : Addr} {fd : FuncData} {ps ks : List Str} {F : XF} {x : Str} {p pos : Pos} {e : Expr} {es : List Expr} {kws : List Keyword} {g : XA}
theorem run_x {pins : List (Addr × Obj)} {σ : L2.St} {H : Hp} {s : Shared} {Q : VK} {args : Args} {us : List Value} {vs : List V} (G : FnX X.prog X.w X.K X.mg X.base k f fd ps F) (hr : Room k X.A) (hX : SX X) (tk : L2N.Takes X W) (I : Inv X pins σ H s) (hb : BindsTo s fd args (ps.zip us)) (r : Vals vs us)
    (h : SpX X.K ps.length F vs H Q fun cls d H' => W cls d σ H') : codeAny (model X.prog X.w) X.A (.call (.ref f) args) (fun r s' => match r with | .ok (.ret v) => EP X pins σ Q v s' | .ok _ => False | .error e => X.xe e s') s := by
  refine codeAny_mono (G.run X.A X.stack s H args us vs Q _ hr hX.guards I.env0 hb r h) fun r s' hq => ?_
  cases r with
  | error e => exact tk e s' (L2N.XE.of_call I (fun _ _ _ z => z) hq)
  | ok fl =>
    cases fl with
    | ret u => exact I.after hq
    | next => exact False.elim hq
    | brk => exact False.elim hq
    | cont => exact False.elim hq
theorem run_xW {pins : List (Addr × Obj)} {σ : L2.St} {H : Hp} {s : Shared} {Q : VK} {us0 : List Value} {kw : List (Str × Value)} {us : List Value} {vs : List V} (G : FnX X.prog X.w X.K X.mg X.base k f fd ps F) (hr : Room k X.A) (hX : SX X) (tk : L2N.Takes X W) (I : Inv X pins σ H s) (hb : BindsTo s fd ⟨us0, kw⟩ (ps.zip us)) (r : Vals vs us)
    (h : SpX X.K ps.length F vs H Q fun cls d H' => W cls d σ H') : wpAny (model X.prog X.w) X.A (call (.ref f) us0 kw) (EP X pins σ Q) X.xe s := by
  refine wpAny_call (codeAny_mono (run_x G hr hX tk I hb r h) fun r s' hq => ?_)
  cases r with
  | error e => exact hq
  | ok fl =>
    cases fl with
    | ret u => exact hq
    | next => exact False.elim hq
    | brk => exact False.elim hq
    | cont => exact False.elim hq
theorem x_call {dv : List D} {ds : List Value} (G : FnX X.prog X.w X.K X.mg X.base k f fd ps F) (hr : Room k X.A) (hX : SX X) (tk : L2N.Takes X W) (hm : X.mg x = some (.ref f)) (hk : PySem.W.keepIn X.K (.ref f) = true) (hb : Binds X.K fd ps ds) (hd : DvIs X.K dv ds) (ha : PAx X W B (e :: es) g) (hlen : (e :: es).length + dv.length = ps.length := by rfl)
    (hl : ∀ env S qs S', g env S = .ok qs S' → qs.length = (e :: es).length) (hg : Gl X x := by rfl) (hdb : (x == ("__debug__" : Str)) = false := by decide) (he : starEach (e :: es) X.env = (false, eval e X.env) :: starEach es X.env := by rfl) (hpl : (backTo pos (starEach es X.env)).any (·.1) = false := by rfl) :
    PEx X W B (.Call (.Name x p) (e :: es) [] pos) (xCall F dv g) := by
  refine ⟨fun pins s σ H Q I h => ?_⟩
  obtain ⟨m, env, S, b, R, E, q⟩ := h
  obtain ⟨dvs, hd1, hd2⟩ := hd
  refine wpAny_Call_Name_kw (ld_glob I hg hm ?_ hdb)
  refine PySem.W.callWith_K (h₀ := X.base) I.ok.mod.kin hk (thn (ha.run pos pins s σ H (fun vs H1 => SpX X.K ps.length F (vs ++ dvs) H1 Q (fun cls d H' => W cls d σ H') ∧ (vs ++ dvs).length = ps.length) I ⟨m, env, S, b, R, E, ?_⟩) fun us s1 ⟨vs, H1, I1, r, q1, q2⟩ => ⟨I1.kIn, ?_⟩) he hpl
  · rcases OxOk.bind q with ⟨qs, S1, h1, q⟩ | ⟨x, S1, h1, q⟩
    · rw [h1]
      intro vs m1 H1 st1 R1 i1
      have hlq := hl _ _ _ _ h1
      refine ⟨⟨m1, S1, qs ++ dv, R1, i1.append (hd2 m1 _), by rw [List.length_append, hlq]; exact hlen, (q.step st1).call⟩, ?_⟩
      have h1 := i1.len
      have h2 := (hd2 m1 (mask m1 H1)).len
      rw [List.length_append, ← h1, ← h2, hlq]
      exact hlen
    · rw [h1]
      exact q
  · have r2 : Vals (vs ++ dvs) (us ++ ds) := r.append hd1
    exact run_xW G hr hX tk I1 (hb s1 us I1.kIn (by rw [← r2.length]; exact q2)) r2 q1
end
section
variable {X : Cx} {W : WX} {B : Bs} {e : Expr} {es : List Expr} {g : FA} {x b f f2 : Str} {p pos rpos : Pos} {fd : FuncData} {ps : List Str} {k : Nat}
theorem x_raise1 (T : XcC X.K x b [f]) (F : FnOk X.prog X.w X.K X.mg X.base CX0 k (He.ma X.K (He.ga X.K x) "__init__") fd ps (spI1 (He.ga X.K x) f)) (hr : Room (k + 1) X.A) (hX : SX X) (tk : L2N.Takes X W) (hb : Binds X.K fd ps []) (hm : X.mg x = some (.ref (He.ga X.K x))) (ha : PAd X (e :: es) g)
    (hg : Gl X x := by rfl) (hdb : (x == ("__debug__" : Str)) = false := by decide) (he : starEach (e :: es) X.env = (false, eval e X.env) :: starEach es X.env := by rfl) (hpl : (backTo pos (starEach es X.env)).any (·.1) = false := by rfl) :
    PSx X W B (.Raise (some (.Call (.Name x p) (e :: es) [] pos)) none rpos) (xRaise x [f] g) :=
  ps_weak (L2N.ps_raise hX.calm tk (pmkN T.ox T.ini T.tyI F hr hb .nil pass0 hg hm ha hdb he hpl)) fun D σ H ⟨m, env, S, bb, R, E, q⟩ => by
  unfold xRaise at q
  cases hgv : g env S with
  | bad => rw [hgv] at q; exact q.elim
  | ok ds S1 =>
  rw [hgv] at q
  dsimp only at q
  refine ⟨m, env, S, R, E, ds, S1, hgv, fun vs m1 H1 st1 R1 i1 => ?_⟩
  split at q
  · rename_i qs hv
    split at q
    · rename_i hl
      have iA := vals_is hv i1
      obtain ⟨p0, rfl⟩ : ∃ p0, qs = [p0] := by
        cases qs with
        | nil => simp at hl
        | cons a r => cases r with
          | nil => exact ⟨a, rfl⟩
          | cons _ _ => simp at hl
      obtain ⟨v0, vr, rfl, i0, ir⟩ := iA
      have ir' : vr = [] := ir
      subst ir'
      refine ⟨by simp, fun a hna => ?_⟩
      refine ⟨a, v0, rfl, upd_same, fun dx h1 h2 => ?_⟩
      have hdn : H1 dx = none := by rw [upd_ne h2] at h1; exact h1
      refine ⟨rfl, dx, [(f, v0)], upd_same, ?_, hdn, ?_⟩
      · rw [upd_ne h2]
        exact upd_same
      · have eH : upd (del (upd (upd (upd H1 a (exo a (He.ga X.K x) none)) dx (exd dx [(f, v0)])) a (exo a (He.ga X.K x) (some dx))) a) dx (.xd [(f, v0)]) = upd H1 dx (.xd [(f, v0)]) := by
          funext c
          by_cases hc : c = dx
          · rw [hc, upd_same, upd_same]
          · rw [upd_ne hc, upd_ne hc]
            by_cases hca : c = a
            · rw [hca, del_same, hna]
            · rw [del_ne hca, upd_ne hca, upd_ne hc, upd_ne hca]
        rw [eH]
        obtain ⟨R2, st2⟩ := R1.fresh (o := .xd [(f, v0)]) hdn
        refine q (.ref (He.ga X.K x)) (some dx) m1 _ σ (st1.trans st2) R2 (E.step (st1.trans st2)) ⟨rfl, dx, [v0], rfl, ?_, rfl, ⟨v0, [], rfl, st2.val i0, rfl⟩⟩
        rw [mask_upd (R1.out hdn)]
        exact upd_same
    · exact q.elim
  · exact q.elim
end
inductive Hds (X : Cx) : List ExceptHandler → List Cl → Prop
  | nil : Hds X [] []
  | bare {x : Str} {c : Value} {ts : Addr → Value → Option Addr → TS} {b₀ : Stmt} {suite : List Stmt} {np p' : Pos} {hds : List ExceptHandler} {l : List Cl} (hc : Names X x c)
      (hsu : ∀ (a : Addr) (oe : Obj) (cls : Value) (d : Option Addr) (pn : List (Addr × Obj)), L2N.Zn cls d oe → (∃ vs, oe.data = .fields vs) → PSs (X.suite a ((a, oe) :: pn)) (b₀ :: suite) (ts a cls d)) (r : Hds X hds l) :
      Hds X (.ExceptHandler (some (.Name x np)) none (b₀ :: suite) p' :: hds) ((c, none, ts) :: l)
  | named {x n : Str} {i : Nat} {c : Value} {ts : Addr → Value → Option Addr → TS} {b₀ : Stmt} {suite : List Stmt} {np p' : Pos} {hds : List ExceptHandler} {l : List Cl} (hi : X.N[i]? = some n) (hl : X.env.kindOf n = some .local) (hc : Names X x c)
      (hsu : ∀ (a : Addr) (oe : Obj) (cls : Value) (d : Option Addr) (pn : List (Addr × Obj)), L2N.Zn cls d oe → (∃ vs, oe.data = .fields vs) → PSs (X.suite a ((a, oe) :: pn)) (b₀ :: suite) (ts a cls d)) (r : Hds X hds l) :
      Hds X (.ExceptHandler (some (.Name x np)) (some n) (b₀ :: suite) p' :: hds) ((c, some i, ts) :: l)
section
variable {X : Cx} {pins : List (Addr × Obj)} {σ : L2.St} {H : Hp} {D : Ends} {Wout : WX} {a : Addr} {B : Heap} {sI s' : Shared} {cls : Value} {d : Option Addr}
structure At (X : Cx) (pins : List (Addr × Obj)) (σ : L2.St) (H : Hp) (a : Addr) (B : Heap) (cls : Value) (d : Option Addr) (sI s : Shared) : Prop where
  inv : Inv X pins σ H sI
  gr : ∀ b o, sI.heap.get? b = some o → b ∉ frs X.stack → B.get? b = some o
  up : sI.heap.UpToSlots s.heap
  fly : HandSPX.FlyingZ B (X.env :: X.outer) a (L2N.Zn cls d) s.heap
  na : H a = none
  os : s.os = sI.os
  ag : AllBare s.gens
  nL : a ≠ X.env.locals
  nF : a ∉ X.fs
theorem At.here (T : At X pins σ H a B cls d sI s') : Inv X pins σ H s' := T.inv.landed T.gr T.fly.1 T.up T.os T.ag
theorem At.move {h : Heap} (T : At X pins σ H a B cls d sI s') (fl : HandSPX.FlyingZ B (X.env :: X.outer) a (L2N.Zn cls d) h) (up : s'.heap.UpToSlots h) : At X pins σ H a B cls d sI { s' with heap := h } :=
  ⟨T.inv, T.gr, T.up.trans up, fl, T.na, T.os, T.ag, T.nL, T.nF⟩
theorem At.suite (T : At X pins σ H a B cls d sI s') : ∃ oe, L2N.Zn cls d oe ∧ (∃ vs, oe.data = .fields vs) ∧ s'.heap.get? a = some oe ∧ Inv (X.suite a ((a, oe) :: (X.pn ++ pins))) [] σ H s' := by
  obtain ⟨oe, vs, he, hz, hd⟩ := T.fly.there
  exact ⟨oe, hz, ⟨vs, hd⟩, he, T.here.suite he hd T.na T.nL T.nF⟩
theorem suite_end {f : Flow} {s6 : Shared} {q : Addr × Obj} (ok : X.Ok) (h : SP (X.suite a (q :: (X.pn ++ pins))) [] D f s6) : SP X pins D f s6 := by
  cases f with
  | next =>
    obtain ⟨σ6, H6, S6, q6⟩ := h
    exact ⟨_, _, S6.unsuite ok, q6⟩
  | brk =>
    obtain ⟨σ6, H6, S6, q6⟩ := h
    exact ⟨_, _, S6.unsuite ok, q6⟩
  | cont =>
    obtain ⟨σ6, H6, S6, q6⟩ := h
    exact ⟨_, _, S6.unsuite ok, q6⟩
  | ret u =>
    obtain ⟨v6, σ6, H6, S6, r6, q6⟩ := h
    exact ⟨_, _, _, S6.unsuite ok, r6, q6⟩
theorem ask {hds : List ExceptHandler} {l : List Cl} (hs : X.stack = X.env :: X.outer) (hf : X.env.frame = some X.env.locals) (hN : X.N.Nodup) (tk : L2N.Takes X Wout) (ok : X.Ok) (hh : Hds X hds l) (T : At X pins σ H a B cls d sI s') (w : wCl X.K Wout D l cls d σ H) :
    wpAny (model X.prog X.w) X.A (handleBy (.ref a) X.env hds) (SP X pins D) X.xe s' := by
  -- a clause's class is asked
  have cl : PySem.W.Looks (model X.prog X.w) s'.heap (typeOf (.ref a)) cls := by
    obtain ⟨oe, hz, _, he, _⟩ := T.suite
    exact fun A Q E s k q => wpAny_typeOf_ref (k _ _ he) (by rw [hz.1]; exact q)
  have ev : ∀ {x : Str} {c : Value} {np : Pos} {Q : Value → Shared → Prop} {E : Value → Shared → Prop}, Names X x c → Q c s' → wpAny (model X.prog X.w) (X.A.mark (some (.ref a))) (eval (.Name x np) X.env) Q E s' := fun {x c np Q E} hc q => by
    obtain ⟨oe, _, _, _, S⟩ := T.suite
    obtain ⟨hg, hdbg, hm | ⟨hm, hv, hnn⟩⟩ := hc
    · exact ld_glob (X := X.suite a ((a, oe) :: (X.pn ++ pins))) S hg hm q hdbg
    · exact ld_blt (X := X.suite a ((a, oe) :: (X.pn ++ pins))) S hg hm hv q hnn hdbg
  induction hh with
  | nil =>
    refine wpAny_handleBy_nil ?_
    obtain ⟨k1, k2, k3, oe, vs, Tb, oT, ts', he, hz, hd, h1, hr⟩ := id T.fly
    have on : wpAny (model X.prog X.w) X.A (setFlight (.ref a) X.env.frame) (fun _ s4 => wpAny (model X.prog X.w) X.A (throw (.ref a) : Sem Flow) (SP X pins D) X.xe s4) X.xe s' := by
      rw [hf]
      exact HandSPX.setFlight_upZ T.fly fun h4 held up4 => wpAny_throw (tk _ _ ⟨a, B, sI, pins, σ, H, cls, d, rfl, T.inv, T.gr, T.up.trans up4, .inr (.inr (by rw [hs]; exact held)), T.na, T.os, T.ag, w⟩)
    unfold PySem.passOn
    refine wpAny_bind (wpAny_field he hd h1 ?_)
    rw [if_neg (by simp : ¬ ((Value.ref Tb == Value.none) = true))]
    first
      | exact wpAny_bind (wpAny_pure (wpAny_bind on))
      | exact wpAny_bind on
  | @bare x c ts b₀ suite np p' hds2 l2 hc hsu r ih =>
    obtain ⟨b, hb, yes, no⟩ := w
    refine wpAny_handleBy_cons (codeAny_handlers_test ?_) (by intro q; cases q)
    refine ev hc ((PySem.W.exm_one (M := model X.prog X.w) T.here.kIn cl hb).here ?_)
    cases b with
    | false => exact ih (no rfl)
    | true =>
      refine codeAny_handlers_suite (HandSPX.lands_againZ T.fly fun h4 fl4 up4 => ?_)
      obtain ⟨oe, hz, hd, he, S⟩ := (T.move fl4 up4).suite
      exact wpAny_mono ((hsu a oe cls d (X.pn ++ pins) hz hd).run [] _ _ H _ S (yes rfl a T.na)) (fun f s6 q => suite_end ok q) fun _ _ z => z.elim
  | @named x n i c ts b₀ suite np p' hds2 l2 hi hl hc hsu r ih =>
    obtain ⟨b, hb, yes, no⟩ := w
    refine wpAny_handleBy_cons (codeAny_handlers_test ?_) (by intro q; cases q)
    refine ev hc ((PySem.W.exm_one (M := model X.prog X.w) T.here.kIn cl hb).here ?_)
    cases b with
    | false => exact ih (no rfl)
    | true =>
      refine codeAny_handlers_suite_as (HandSPX.lands_againZ T.fly fun h4 fl4 up4 => ?_)
      obtain ⟨oe, hz, hd, he, S⟩ := (T.move fl4 up4).suite
      refine store_ok (X := X.suite a ((a, oe) :: (X.pn ++ pins))) (v := .ref a) S hN hi (.inl hl) rfl (fun s5 S5 => ?_) (.inr hl)
      refine wpAny_mono ((hsu a oe cls d (X.pn ++ pins) hz hd).run [] s5 _ H _ S5 (yes rfl a T.na)) (fun f s6 q => ?_) fun _ _ z => z.elim
      -- the name goes
      have goes : ∀ {σ6 : L2.St} {H6 : Hp} {Q : Shared → Prop}, Inv (X.suite a ((a, oe) :: (X.pn ++ pins))) [] σ6 H6 s6 → (∀ s7, Inv X pins (σ6.set i none) H6 s7 → Q s7) →
          wpAny (model X.prog X.w) X.A (do bindName X.env n .none; unbindBehindTheSuite X.env n p') (fun _ s7 => Q s7) X.xe s6 := fun S6 hq => gone_ok (S6.unsuite ok) hN hi hl hq
      cases f with
      | next =>
        obtain ⟨σ6, H6, S6, q6⟩ := q
        exact goes S6 fun s7 J7 => ⟨_, _, J7, q6⟩
      | brk =>
        obtain ⟨σ6, H6, S6, q6⟩ := q
        exact goes S6 fun s7 J7 => ⟨_, _, J7, q6⟩
      | cont =>
        obtain ⟨σ6, H6, S6, q6⟩ := q
        exact goes S6 fun s7 J7 => ⟨_, _, J7, q6⟩
      | ret u =>
        obtain ⟨v6, σ6, H6, S6, r6, q6⟩ := q
        exact goes S6 fun s7 J7 => ⟨_, _, _, J7, r6, q6⟩
end
section
variable {X : Cx} {body : List Stmt} {h₀ : ExceptHandler} {hds : List ExceptHandler} {l : List Cl} {pos : Pos} {tb : WX → TS} {Wout : WX}
theorem ps_try (hs : X.stack = X.env :: X.outer) (hf : X.env.frame = some X.env.locals) (hN : X.N.Nodup) (tk : L2N.Takes X Wout)
    (hb : ∀ (W : WX) (pn : List (Addr × Obj)) (xe : Value → Shared → Prop), L2N.Takes (X.tr pn xe) W → PassesOwn (model X.prog X.w) X.A X.env xe → PSs (X.tr pn xe) body (tb W))
    (hh : Hds X (h₀ :: hds) l) : PS X (.Try body (h₀ :: hds) [] [] pos) (fun D σ H => tb (wCl X.K Wout D l) D σ H) := by
  refine ⟨fun pins s σ H D I rd => ?_⟩
  have ok := I.ok
  have hfr : X.A.frames = some (X.env :: X.outer) := by rw [ok.frames, hs]
  refine wpAny_Try_except ?_
  refine wpAny_mono ((hb (wCl X.K Wout D l) (X.pn ++ pins) (fun e s₁ => wpAny (model X.prog X.w) X.A (noteFrame e X.env) (fun _ s₂ => wpAny (model X.prog X.w) X.A (setFlight e none) (fun _ s₃ =>
    wpAny (model X.prog X.w) X.A (handleBy e X.env (h₀ :: hds)) (SP X pins D) X.xe s₃) X.xe s₂) X.xe s₁) (fun u s' air => ?_) PassesOwn.looking).run [] s σ H D (I.toTry _) rd) (fun f s1 q => ?_) fun e s1 he => he
  · obtain ⟨a, B, sI, pins', σ', H', cls, d, rfl, J', nb, up, sky, na, os, ag, w⟩ := air
    have J : Inv X pins σ' H' sI := J'.ofTry ok
    show wpAny (model X.prog X.w) X.A (noteFrame (.ref a) X.env) _ _ _
    refine L2N.Sky.land L2N.Zn.steady hfr hf (by rw [← hs]; exact sky) fun h3 fl3 up3 => ?_
    have apart : a ∉ frs (X.env :: X.outer) := fun hm => by
      obtain ⟨oe, vs, he, _, hd⟩ := fl3.there
      obtain ⟨_, o', e', hnf⟩ := fl3.2.2.1.mem hm
      cases he.symm.trans e'
      exact hnf _ hd
    exact ask hs hf hN tk ok hh ⟨J, nb, up.trans up3, fl3, na, os, ag, fun z => apart (List.mem_filterMap.mpr ⟨X.env, List.mem_cons_self, by rw [hf, z]⟩), fun hm => by
      obtain ⟨e, he, q⟩ := List.mem_filterMap.mp hm
      exact apart (List.mem_filterMap.mpr ⟨e, List.mem_cons_of_mem _ he, q⟩)⟩ w
  · cases f with
    | next =>
      obtain ⟨σ', H', J', q⟩ := q
      exact wpAny_execs_nil ⟨σ', H', J'.ofTry ok, q⟩
    | brk =>
      obtain ⟨σ', H', J', q⟩ := q
      exact ⟨σ', H', J'.ofTry ok, q⟩
    | cont =>
      obtain ⟨σ', H', J', q⟩ := q
      exact ⟨σ', H', J'.ofTry ok, q⟩
    | ret u =>
      obtain ⟨v, σ', H', J', r, q⟩ := q
      exact ⟨v, σ', H', J'.ofTry ok, r, q⟩
end
inductive HdX (X : Cx) : List ExceptHandler → List Hn → Prop
  | nil : HdX X [] []
  | bare {x : Str} {c : Value} {h : Hn} {b₀ : Stmt} {suite : List Stmt} {np p' : Pos} {hds : List ExceptHandler} {l : List Hn} (hc : Names X x c) (hi : h.i = none) (he : ∀ y b, (y, b) ∈ h.cs → PySem.W.exmOne X.K (.ref (He.ga X.K y)) c = some b)
      (hsu : ∀ (a : Addr) (oe : Obj) (pn : List (Addr × Obj)) (y : Str) (dd : Addr), L2N.Zn (.ref (He.ga X.K y)) (some dd) oe → (∃ vs, oe.data = .fields vs) → PSsd (X.suite a ((a, oe) :: pn)) (b₀ :: suite) (h.f a dd y)) (r : HdX X hds l) :
      HdX X (.ExceptHandler (some (.Name x np)) none (b₀ :: suite) p' :: hds) (h :: l)
  | named {x n : Str} {i : Nat} {c : Value} {h : Hn} {b₀ : Stmt} {suite : List Stmt} {np p' : Pos} {hds : List ExceptHandler} {l : List Hn} (hn : X.N[i]? = some n) (hl : X.env.kindOf n = some .local) (hc : Names X x c) (hi : h.i = some i) (he : ∀ y b, (y, b) ∈ h.cs → PySem.W.exmOne X.K (.ref (He.ga X.K y)) c = some b)
      (hsu : ∀ (a : Addr) (oe : Obj) (pn : List (Addr × Obj)) (y : Str) (dd : Addr), L2N.Zn (.ref (He.ga X.K y)) (some dd) oe → (∃ vs, oe.data = .fields vs) → PSsd (X.suite a ((a, oe) :: pn)) (b₀ :: suite) (h.f a dd y)) (r : HdX X hds l) :
      HdX X (.ExceptHandler (some (.Name x np)) (some n) (b₀ :: suite) p' :: hds) (h :: l)
theorem HdX.to {X : Cx} {hds : List ExceptHandler} {l : List Hn} (h : HdX X hds l) : ∃ cl : List TR.Cl, XN.Hds X hds cl ∧ cl.length = l.length ∧ ∀ (i : Nat) (n : Hn) (c : TR.Cl), l[i]? = some n → cl[i]? = some c → c.2.1 = n.i ∧ c.2.2 = tsOf X.K n.f ∧ ∀ y b, (y, b) ∈ n.cs → PySem.W.exmOne X.K (.ref (He.ga X.K y)) c.1 = some b := by
  induction h with
  | nil => exact ⟨[], .nil, rfl, fun i n c h => by simp at h⟩
  | @bare x c hn b₀ suite np p' hds l hc hi he hsu r ih =>
    obtain ⟨cl, h1, h2, h3⟩ := ih
    refine ⟨(c, none, tsOf X.K hn.f) :: cl, .bare hc (fun a oe cls d pn hz hf => ts_ok rfl fun y dd e1 e2 => ?_) h1, by simp [h2], fun i n u e1 e2 => ?_⟩
    · subst e1
      subst e2
      exact hsu a oe pn y dd hz hf
    · cases i with
      | zero =>
        simp at e1 e2
        subst e1
        subst e2
        exact ⟨hi.symm, rfl, he⟩
      | succ i => exact h3 i n u (by simpa using e1) (by simpa using e2)
  | @named x n i c hn b₀ suite np p' hds l hN hl hc hi he hsu r ih =>
    obtain ⟨cl, h1, h2, h3⟩ := ih
    refine ⟨(c, some i, tsOf X.K hn.f) :: cl, .named hN hl hc (fun a oe cls d pn hz hf => ts_ok rfl fun y dd e1 e2 => ?_) h1, by simp [h2], fun j n u e1 e2 => ?_⟩
    · subst e1
      subst e2
      exact hsu a oe pn y dd hz hf
    · cases j with
      | zero =>
        simp at e1 e2
        subst e1
        subst e2
        exact ⟨hi.symm, rfl, he⟩
      | succ j => exact h3 j n u (by simpa using e1) (by simpa using e2)
section
variable {X : Cx} {W : WX} {B : Bs} {body : List Stmt} {h₀ : ExceptHandler} {hds : List ExceptHandler} {l : List Hn} {pos : Pos} {b : XS}
theorem xs_try (hs : X.stack = X.env :: X.outer) (hf : X.env.frame = some X.env.locals) (hN : X.N.Nodup) (tk : L2N.Takes X W)
    (hb : ∀ (W' : WX) (pn : List (Addr × Obj)) (xe : Value → Shared → Prop), L2N.Takes (X.tr pn xe) W' → PassesOwn (model X.prog X.w) X.A X.env xe → PSsx (X.tr pn xe) W' B body b)
    (hh : HdX X (h₀ :: hds) l) : PSx X W B (.Try body (h₀ :: hds) [] [] pos) (xUni fun ad => tryU ad b l) := by
  obtain ⟨cl, c1, c2, c3⟩ := hh.to
  refine ps_weak (XN.ps_try (tb := fun W' => TXs X.K W' B b) hs hf hN tk hb c1) fun D σ H ⟨m, env, S, bb, R, E, q⟩ => ⟨m, env, S, bb, R, E, ?_⟩
  unfold xUni at q
  split at q
  · rename_i same
    have q' : ∀ ad, FlxOk X.K m H D W (tryU ad b l env S) := fun ad => by rw [show tryU ad b l env S = tryU (0, 0) b l env S from same ad]; exact q
    have q0 := q' (0, 0)
    unfold tryU at q0
    cases h : b env S with
    | nx e S1 => rw [h] at q0; exact q0
    | rt d S1 => rw [h] at q0; exact q0
    | bk e S1 => rw [h] at q0; exact q0
    | ct e S1 => rw [h] at q0; exact q0
    | bad => rw [h] at q0; exact q0
    | ex e env1 S1 =>
      intro cls dx m1 H1 σ1 st1 R1 E1 i1
      obtain ⟨dd, rfl⟩ : ∃ dd, dx = some dd := by
        obtain ⟨_, dy, _, z, _⟩ := i1
        exact ⟨dy, z⟩
      refine wish_ok st1 R1 E1 i1 cl l c2 c3 fun a => ?_
      have qa := q' (a, dd)
      unfold tryU at qa
      rw [h] at qa
      exact qa
  · exact q.elim
theorem takesF : L2N.Takes X (fun _ _ _ _ => False) := XN_takes
where
  XN_takes : L2N.Takes X (fun _ _ _ _ => False) := fun _ _ x => by
    obtain ⟨_, _, _, _, _, _, _, _, _, _, _, _, _, _, _, _, z⟩ := x
    exact z.elim
end
section
variable {X : Cx} {a dd : Addr} {oe : Obj} {y : Str} {pn : List (Addr × Obj)} {pos : Pos}
theorem d_xf {i : Nat} {n f : Str} {p : Pos} (T : ClsC X.K (He.ga X.K y)) (hno : PySem.W.findIn X.K (.ref (He.ga X.K y)) f = some none) (hz : L2N.Zn (.ref (He.ga X.K y)) (some dd) oe) (hf : ∃ vs, oe.data = .fields vs)
    (hv : PEd (X.suite a ((a, oe) :: pn)) (.Name n p) (fVar i)) (hb : attributeBase (.Name n p) f X.env (eval (.Name n p) X.env) = eval (.Name n p) X.env := by rfl) :
    PEd (X.suite a ((a, oe) :: pn)) (.Attribute (.Name n p) f pos) (fXf a dd y i f) :=
  pe_weak (pe_xf (X := X) (C := He.ga X.K y) ⟨T.ga, T.gg, T.exC, T.hdC⟩ hno hz.zc hf hv hb) fun σ H Q ⟨m, env, S, R, E, d, S', e1, q⟩ => by
  unfold fXf at e1
  split at e1
  · rename_i a' d' c' ns ps hi
    split at e1
    · rename_i hh
      obtain ⟨rfl, rfl, rfl⟩ := hh
      split at e1
      · rename_i p hp
        cases e1
        refine ⟨m, env, S, R, E, .v (.exn a' d' c' ns ps), S, by unfold fVar; rw [hi], fun v m1 H1 st1 R1 i1 => ?_⟩
        obtain ⟨xs, rfl, h2, h3, h4⟩ := i1
        obtain ⟨u, e2, e3⟩ := fld_is h4 h3 hp
        exact ⟨rfl, rfl, d', _, u, rfl, (mask_some h2).2, e2, q u m1 H1 st1 R1 e3⟩
      · cases e1
    · cases e1
  · cases e1
theorem call_isE' (T : ClsC X.K (He.ga X.K y)) (hz : L2N.Zn (.ref (He.ga X.K y)) (some dd) oe) (hf : ∃ vs, oe.data = .fields vs) : CallR (X.suite a ((a, oe) :: pn)) (.builtin "isinstance")
    (fun xs H Q => ∃ (c : V) (cv : Value) (b : Bool) (fs : List (Str × V)), xs = [.ref a, c] ∧ (∀ u, RelV c u → u = cv) ∧ PySem.W.kitOne X.K (.ref (He.ga X.K y)) cv = some b ∧ H dd = some (.xd fs) ∧ Q (.bl b) H) := by
  intro pins s σ H xs us Q I r rd
  obtain ⟨c, cv, b, fs, rfl, hcv, e, hd, q⟩ := rd
  cases r with
  | cons rx rr =>
    cases rr with
    | cons rt rr =>
      cases rr
      cases rx
      obtain rfl := hcv _ rt
      obtain ⟨hget, _⟩ := I.pin (a, oe) (List.mem_append.mpr (.inl List.mem_cons_self))
      obtain ⟨vs, hv⟩ := hf
      have hx : ObjOk X.prog X.w H s.heap dd (.xd fs) := I.hok dd _ hd
      obtain ⟨mA, hns, _⟩ := hx
      obtain ⟨od, ho, _⟩ := lookIn_ns hns
      have J : PySem.W.InstAt s.heap a oe (He.ga X.K y) (some od) := ⟨hget, hz.1, by unfold PySem.W.notCls; rw [hv] <;> rfl, by rw [hz.2.1]; exact ho⟩
      have cl : (PySem.W.clsIn X.K (He.ga X.K y)).isSome = true := by
        obtain ⟨cd, hc, _⟩ := PySem.W.any_some T.hdC
        rw [hc]
        rfl
      exact PySem.W.kia_one (PySem.W.kitx_exc cl T.ga T.gg T.exC T.ha T.hn T.ht T.hm) I.kIn J e (fun z => nomatch z) fun tk => ⟨.bl b, H, I.kept (t' := tk) fun _ _ z => z, rfl, q⟩
end
section
variable {X : Cx} {a dd : Addr} {oe : Obj} {y : Str} {pn : List (Addr × Obj)} {p p1 p2 pos : Pos}
theorem d_isE {i : Nat} {n x : Str} {cs : List (Str × Bool)} {c : V} {cv : Value} (T : ClsC X.K (He.ga X.K y)) (hz : L2N.Zn (.ref (He.ga X.K y)) (some dd) oe) (hf : ∃ vs, oe.data = .fields vs) (hm : X.mg "isinstance" = none)
    (hk : ∀ z b, (z, b) ∈ cs → PySem.W.kitOne X.K (.ref (He.ga X.K z)) cv = some b) (hcv : ∀ u, RelV c u → u = cv)
    (hv : PEd (X.suite a ((a, oe) :: pn)) (.Name n p1) (fVar i)) (hc : PE (X.suite a ((a, oe) :: pn)) (.Name x p2) (tC c)) (hg : Gl X "isinstance" := by rfl)
    (he : starEach [.Name n p1, .Name x p2] X.env = (false, eval (.Name n p1) X.env) :: starEach [.Name x p2] X.env := by rfl) (he2 : starEach [.Name x p2] X.env = (false, eval (.Name x p2) X.env) :: starEach [] X.env := by rfl) (hpl : (backTo pos (starEach [.Name x p2] X.env)).any (·.1) = false := by rfl) :
    PEd (X.suite a ((a, oe) :: pn)) (.Call (.Name "isinstance" p) [.Name n p1, .Name x p2] [] pos) (fIsE a dd y i cs) :=
  pe_weak (pe_callB (call_isE' T hz hf) hg hm PyProof.Rows.boot_isinstance (pa_cons hv (pa_cons hc pa_nil he2) he) (by decide) (by decide) he hpl) fun σ H Q ⟨m, env, S, R, E, d, S', e1, q⟩ => by
  unfold fIsE at e1
  split at e1
  · rename_i a' d' c' ns ps hi
    split at e1
    · rename_i hh
      obtain ⟨rfl, rfl, rfl⟩ := hh
      split at e1
      · rename_i b hb
        cases e1
        refine ⟨m, env, S, R, E, .v (.exn a' d' c' ns ps), S, by unfold fVar; rw [hi], fun v m1 H1 st1 R1 i1 => ?_⟩
        obtain ⟨xs, rfl, h2, h3, h4⟩ := i1
        exact ⟨c, cv, b, _, rfl, hcv, hk _ _ (PySem.mem_of_lookup hb), (mask_some h2).2, q _ m1 H1 st1 R1 rfl⟩
      · cases e1
    · cases e1
  · cases e1
end
abbrev lamN (X : Cx) (A : Around) (outer : List PySem.Env) (s : Shared) (H : Hp) (E : XK) (scope : Scope) (f c' : Addr) : Cx :=
  (LamX.lamCx X A outer s H E scope f c').wish fun e s' => wpAny (model X.prog X.w) (A.deeper (LamX.lamEnv X scope s.heap.objs.size f c')) (leaving (LamX.lamEnv X scope s.heap.objs.size f c') e) (fun _ s2 => L2N.CX X.prog X.w outer H s E e s2) (fun e2 s2 => L2N.CX X.prog X.w outer H s E e2 s2) s'
theorem lam_startN {X : Cx} {pins : List (Addr × Obj)} {σ : L2.St} {H HZ : Hp} {s s1 : Shared} {A : Around} {outer : List PySem.Env} {E : XK} {scope : Scope} {f c' : Addr} {h₁ : Heap} {tk : Nat} (I : Inv X pins σ H s) (L : LamX.LamS X.env.scope scope) (e0 : Env0 X.prog X.w X.K X.mg X.base A outer s1 HZ) (hd : A.handled = none)
    (un : Un (frs X.stack) [] H HZ s.heap s1.heap) (hns : h₁.Ns s1.heap.objs.size fun y => ([] : List (Str × Value)).reverse.lookup y) (kp : ∀ b o, s1.heap.get? b = some o → h₁.get? b = some o) :
    Inv (lamN X A outer s1 HZ E scope f c') [] σ HZ { s1 with heap := h₁, toks := tk } := (LamX.lam_start2 I L e0 hd un hns kp).wish _
structure FnL (P : Program) (w : World) (K : PySem.W.Frag) (mg : Str → Option Value) (base : Heap) (k : Nat) (Ng : List Str) (x : Str) (sg : Scope) (g : Addr) (bg : List Stmt) (a : Str) (G : LF) : Prop where
  ex : ∃ (keep : Bool) (b : Addr → (Sto → Ox D) → FS), G = runL Ng.length keep b ∧ ∀ (cdv : Value) (A : Around) (outer : List PySem.Env) (f : Addr) (τ : Sto → Ox D) (s : Shared) (H : Hp) (B : Bs), Room k (A.deeper (envOfC x sg s.heap.objs.size g cdv)) → SX (cxL P w K mg base Ng x sg g cdv A outer s H) →
    (∀ (W : WX) (pn : List (Addr × Obj)) (xe : Value → Shared → Prop) (p1 p2 : Pos), L2N.Takes ((cxL P w K mg base Ng x sg g cdv A outer s H).tr pn xe) W → PEx ((cxL P w K mg base Ng x sg g cdv A outer s H).tr pn xe) W B (.Call (.Name a p1) [] [] p2) (xThk 0 f τ)) →
    PSsx (cxL P w K mg base Ng x sg g cdv A outer s H) (fun _ _ _ _ => False) B bg (xS (b f τ))
theorem FnL.mono {P : Program} {w : World} {K : PySem.W.Frag} {mg : Str → Option Value} {base : Heap} {j k : Nat} {Ng : List Str} {x : Str} {sg : Scope} {g : Addr} {bg : List Stmt} {a : Str} {G : LF} (h : FnL P w K mg base j Ng x sg g bg a G) (hk : j ≤ k) : FnL P w K mg base k Ng x sg g bg a G := by
  obtain ⟨keep, b, e, h⟩ := h.ex
  exact ⟨keep, b, e, fun cdv A outer f τ s H B hr => h cdv A outer f τ s H B (hr.mono hk)⟩
section
variable {X : Cx} {pins : List (Addr × Obj)} {σ : L2.St} {H : Hp} {s : Shared}
theorem thk_run {Ng : List Str} {qg : Str} {sg : Scope} {g f c' : Addr} {cdg pm ctv : Value} {params : Arguments} {body : Expr} {scope : Scope} {k : Nat} {a : Str} {pn : List (Addr × Obj)} {xe : Value → Shared → Prop} {W : WX} {env0 : Dnv} {fx : XE'} {p1 p2 : Pos}
    (I : Inv X pins σ H s) (L : LamX.LamS X.env.scope scope) (hf : s.heap.get? f = some (PySem.W.kla_obj "<lambda>" (X.env.qual ++ "<lambda>") params body scope (cloFrom X.env.cells scope.names []) pm c' ctv)) (hfn : H f = none) (hfr : f ∉ frs X.stack) (hX : SX X)
    (hbind : bindArgs (PySem.W.kla_fn "<lambda>" (X.env.qual ++ "<lambda>") params body scope (cloFrom X.env.cells scope.names []) pm (.ref c') ctv) ⟨[], []⟩ = pure [])
    (tk : L2N.Takes ((cxL X.prog X.w X.K X.mg X.base Ng qg sg g cdg X.A X.stack s H).tr pn xe) W) (hr : Room (k + 1) (X.A.deeper (envOfC qg sg s.heap.objs.size g cdg))) (hgd : X.A.guards = some [])
    (hbody : ∀ (A : Around) (outer : List PySem.Env) (s : Shared) (H : Hp) (E : XK), Room k (A.deeper (LamX.lamEnv X scope s.heap.objs.size f c')) → SX (lamN X A outer s H E scope f c') → PassesOwn (model X.prog X.w) (lamN X A outer s H E scope f c').A (lamN X A outer s H E scope f c').env (lamN X A outer s H E scope f c').xe →
      L2N.Takes (lamN X A outer s H E scope f c') (fun cls d _ H => E cls d H) → PEx (lamN X A outer s H E scope f c') (fun cls d _ H => E cls d H) Bs.none body fx)
    (hN : Ng[0]? = some a) (hv : Vis sg a) (hd : (a == ("__debug__" : Str)) = false) (hcd : (a == ("__classdict__" : Str)) = false) :
    PEx ((cxL X.prog X.w X.K X.mg X.base Ng qg sg g cdg X.A X.stack s H).tr pn xe) W (LamB X.K c' (X.env.qual ++ "<lambda>") σ env0) (.Call (.Name a p1) [] [] p2) (xThk 0 f fun S => fx env0 S) := by
  refine ⟨fun pinsZ sZ σZ HZ Q IZ rd => ?_⟩
  obtain ⟨m, env, S, ⟨b1, b2⟩, R, E, q⟩ := rd
  unfold xThk at q
  split at q
  · rename_i fa he
    split at q
    · rename_i hfa
      subst hfa
      obtain ⟨v, hs, i1⟩ := E.get 0 _ he
      obtain rfl : v = V.ref fa := i1
      refine wpAny_Call_Name_kw (thn ((pe_var (pos := p1) (i := 0) hN hv hd hcd).run pinsZ sZ σZ HZ (fun v H1 => v = .ref fa ∧ H1 = HZ) IZ ⟨.ref fa, hs, rfl, rfl⟩) fun u s1 ⟨v, H1, I1, r1, e1, e2⟩ => ?_)
      subst e1
      subst e2
      obtain rfl : u = Value.ref fa := r1
      have of1 := I1.base.keep fa _ hf hfn hfr (fun z => nomatch (show fa ∈ ([] : List Addr) from z))
      have rc : ∀ R : Result → Shared → Prop, codeAny (model X.prog X.w) (X.A.deeper (envOfC qg sg s.heap.objs.size g cdg)) (.call (.ref fa) ⟨[], []⟩) R s1 → codeAny (model X.prog X.w) (X.A.deeper (envOfC qg sg s.heap.objs.size g cdg)) (.call (.ref fa) ⟨[] ++ [], []⟩) R s1 := fun _ z => z
      refine PySem.W.callWith_F0 ⟨_, _, _, _, of1⟩ (wpAny_call (codeAny_mono (R := CR (L2N.CX X.prog X.w) (envOfC qg sg s.heap.objs.size g cdg :: X.stack) X.prog X.w H1 s1 Q fun cls d H' => W cls d σZ H') (rc _ ?_) fun r s' hq => ?_))
      · obtain ⟨⟨oc, vs, t, c1, c2, c3⟩, _, _⟩ := I1.hok c' _ (mask_some b1).2
        refine PySem.W.kla_callFunE hr.depth of1 rfl L.co L.gen rfl ⟨c', oc, vs, t, rfl, c1, c2, c3⟩ ?_
        rw [hbind]
        refine wpAny_pure (wpAny_newFunctionEnv (fun y hy => (L.own y hy).2) (fun y hy => absurd hy (by simp)) (fun h₁ hns hsb => ⟨I1.nolimit.fresh _ hsb, ?_⟩) L.kind)
        have kp : ∀ b o, s1.heap.get? b = some o → h₁.get? b = some o := fun b o e => hsb.extBut b o (Nat.ne_of_lt (Heap.lt_size e)) (Heap.get?_push_of_some _ e)
        have un : Un (frs X.stack) [] H H1 s.heap s1.heap := I1.base
        have hr2 := hr.deeper (LamX.lamEnv X scope s1.heap.objs.size fa c')
        have B := hbody (X.A.deeper (envOfC qg sg s.heap.objs.size g cdg)) (envOfC qg sg s.heap.objs.size g cdg :: X.stack) s1 H1 (fun cls d H' => W cls d σZ H') hr2 ⟨rfl, hX.nd, by
          have := hr2.un
          show ((X.A.deeper (envOfC qg sg s.heap.objs.size g cdg)).deeper (LamX.lamEnv X scope s1.heap.objs.size fa c')).units + 200 < cLine
          omega, hgd⟩ (passes_of rfl) (L2N.takes_of rfl rfl rfl rfl)
        refine PySem.W.kla_codeExpr (wpAny_mono (B.run [] _ σ H1 Q (lam_startN I L I1.env0 hr.hd un hns kp) ⟨m, env0, S, True.intro, R, b2, ?_⟩) (fun v s' hq => ?_) fun e s' hq => hq)
        · have q : OxOk X.K m H1 σZ Q W (fx env0 S) := q
          cases hfx : fx env0 S with
          | ok d S1 => rw [hfx] at q; exact q
          | ex e S1 => rw [hfx] at q; exact q
          | bad => rw [hfx] at q; exact q
        · obtain ⟨w', H', J', rv, q⟩ := hq
          exact ⟨w', H', J'.os, J'.bare, J'.base, J'.hok, rv, q⟩
      · cases r with
        | error e => exact tk e s' (L2N.XE.of_call I1 (fun _ _ _ z => z) hq)
        | ok fl =>
          cases fl with
          | ret u => exact I1.after hq
          | next => exact False.elim hq
          | brk => exact False.elim hq
          | cont => exact False.elim hq
    · exact q.elim
  · exact q.elim
end
section
variable {X : Cx}
theorem d_lam {x a : Str} {g c P : Addr} {k : Nat} {pg : Arguments} {bg : List Stmt} {sg : Scope} {fd : FuncData} {Ng : List Str} {params : Arguments} {body : Expr} {scope : Scope} {G : LF} {fx : XE'} {p lpos pos : Pos} (hX : SX X) (hg : Gl X x) (hm : X.mg x = some (.ref g)) (hk : PySem.W.keepIn X.K (.ref g) = true)
    (F : FunD X.K x x pg bg sg [] [] g fd) (hb : L2.Binds X.K fd [a] []) (Sg : FnScope Ng [a] sg) (hNg : Ng[0]? = some a) (hva : Vis sg a) (F1 : FnL X.prog X.w X.K X.mg X.base (k + 1) Ng x sg g bg a G)
    (TB : LamX.TabB X.base X.mg c P) (hcode : X.env.code = .ref c) (hmT : (P, X.env.qual ++ "<lambda>") ∈ Tb.t X.K) (hu : ∀ p ∈ Tb.t X.K, p.1 = P → p.2 = X.env.qual ++ "<lambda>") (hr : Room (k + 2) X.A) (L : LamX.LamS X.env.scope scope) (hdef : defaultsOf params X.env = ([], []))
    (hbind : ∀ (q : Str) (cl : List (Str × Addr)) (pm cv ctv : Value), bindArgs (PySem.W.kla_fn "<lambda>" q params body scope cl pm cv ctv) ⟨[], []⟩ = pure [])
    (hbody : ∀ (A : Around) (outer : List PySem.Env) (s : Shared) (H : Hp) (E : XK) (f c' : Addr), Room k (A.deeper (LamX.lamEnv X scope s.heap.objs.size f c')) → SX (lamN X A outer s H E scope f c') → PassesOwn (model X.prog X.w) (lamN X A outer s H E scope f c').A (lamN X A outer s H E scope f c').env (lamN X A outer s H E scope f c').xe →
      L2N.Takes (lamN X A outer s H E scope f c') (fun cls d _ H => E cls d H) → PEx (lamN X A outer s H E scope f c') (fun cls d _ H => E cls d H) Bs.none body fx)
    (hdb : (x == ("__debug__" : Str)) = false := by decide) (hd : (a == ("__debug__" : Str)) = false := by decide) (hcd : (a == ("__classdict__" : Str)) = false := by decide) : PEd X (.Call (.Name x p) [.Lambda params body scope lpos] [] pos) (fLam G fx) := by
  refine ⟨fun pins s σ H Q I h => ?_⟩
  obtain ⟨m, env, S, R, E, d, S2, e1, q⟩ := h
  obtain ⟨keep, b, rfl, hbg⟩ := F1.ex
  obtain ⟨oc, od, dV, kV, doc, pm, an, cdv, ct, osl, rfl, lk, hcg, _, _⟩ := F.ex
  refine wpAny_Call_Name_kw (ld_glob I hg hm ?_ hdb)
  refine PySem.W.callWith_K (h₀ := X.base) I.ok.mod.kin hk ?_ (by rfl) (by rfl)
  show wpAny _ _ (spliced ((false, eval (.Lambda params body scope lpos) X.env) :: backTo pos (starEach [] X.env))) _ _ s
  refine Calls.spliced_cons (LamX.lam_make2 I TB hcode hmT hu (tabs_of R) hdef (L.has I.ok) fun f c' pm' ctv H1 s' I1 eN T1 hf hfn hfr hco => ?_)
  refine Calls.spliced_nil ⟨I1.kIn, ?_⟩
  obtain ⟨R1, st1⟩ := R.extN eN (tabM_of R eN I1.hok T1)
  have E1 := E.step st1
  have e2 : runL Ng.length keep b f (fun S1 => fx env S1) S = .ok d S2 := by
    unfold fLam uniO at e1
    split at e1
    · rename_i same
      exact (same f).trans e1
    · cases e1
  refine wpAny_call (codeAny_mono (R := CR C8.CX0 X.stack X.prog X.w H1 s' Q C8.E0) (LamX.run_ofS (N := Ng) (ps := [a]) (us := [.ref f]) (vs := [.ref f]) lk hcg Sg hr I1.env0 (hb s' [.ref f] I1.kIn rfl) (.cons rfl .nil) rfl fun hr' => ?_) fun r s2 hq => ?_)
  · have bg' := hbg cdv X.A X.stack f (fun S1 => fx env S1) s' H1 (LamB X.K c' (X.env.qual ++ "<lambda>") σ env) hr' ⟨rfl, Sg.nd, by
        have := hr'.un
        show (X.A.deeper (envOfC x sg s'.heap.objs.size g cdv)).units + 200 < cLine
        omega, hX.guards⟩ fun W pn xe p1 p2 tk => thk_run I1 L hf hfn hfr hX (hbind _ _ _ _ _) tk hr' hX.guards (fun A outer s H E => hbody A outer s H E f c') hNg hva hd hcd
    refine ⟨_, bg'.nox, m, startD Ng.length [.v (.adr f)], S, ⟨code_in R eN I1.hok hco, E1⟩, R1, start_is (K := X.K) (m := m) (ds := [.v (.adr f)]) (vs := [.ref f]) ⟨.ref f, [], rfl, rfl, rfl⟩, ?_⟩
    unfold runL runF at e2
    show FlxOk _ _ _ _ _ (Flo.x (b f (fun S1 => fx env S1) (startD Ng.length [.v (.adr f)]) S))
    cases hr : b f (fun S1 => fx env S1) (startD Ng.length [.v (.adr f)]) S with
    | nx env1 S1 =>
      rw [hr] at e2
      exact fun m1 H1 σ1 st2 R2 E2 => close_ok (d := .v .non) (v := .non) R1 st2 R2 (show V.non = V.non from rfl) e2 fun v m' H' st3 => q v m' H' (st1.trans st3)
    | rt d1 S1 =>
      rw [hr] at e2
      exact fun v m1 H1 st2 R2 i1 => close_ok R1 st2 R2 i1 e2 fun v m' H' st3 => q v m' H' (st1.trans st3)
    | bk env1 S1 => rw [hr] at e2; cases e2
    | ct env1 S1 => rw [hr] at e2; cases e2
    | bad => rw [hr] at e2; cases e2
  · cases r with
    | error e => exact (show False from hq).elim
    | ok fl =>
      cases fl with
      | ret u => exact I1.after hq
      | next => exact False.elim hq
      | brk => exact False.elim hq
      | cont => exact False.elim hq
end
theorem d_isEC {X : Cx} {a dd : Addr} {oe : Obj} {y : Str} {pn : List (Addr × Obj)} {p p1 p2 pos : Pos} {i : Nat} {n x : Str} {cs : List (Str × Bool)} {c : V} {cv : Value} (hT : ∀ z b, (z, b) ∈ cs → ClsC X.K (He.ga X.K z) ∧ PySem.W.kitOne X.K (.ref (He.ga X.K z)) cv = some b) (hz : L2N.Zn (.ref (He.ga X.K y)) (some dd) oe) (hf : ∃ vs, oe.data = .fields vs) (hm : X.mg "isinstance" = none)
    (hcv : ∀ u, RelV c u → u = cv) (hv : PEd (X.suite a ((a, oe) :: pn)) (.Name n p1) (fVar i)) (hc : PE (X.suite a ((a, oe) :: pn)) (.Name x p2) (tC c)) (hg : Gl X "isinstance" := by rfl)
    (he : starEach [.Name n p1, .Name x p2] X.env = (false, eval (.Name n p1) X.env) :: starEach [.Name x p2] X.env := by rfl) (he2 : starEach [.Name x p2] X.env = (false, eval (.Name x p2) X.env) :: starEach [] X.env := by rfl) (hpl : (backTo pos (starEach [.Name x p2] X.env)).any (·.1) = false := by rfl) :
    PEd (X.suite a ((a, oe) :: pn)) (.Call (.Name "isinstance" p) [.Name n p1, .Name x p2] [] pos) (fIsE a dd y i cs) := by
  cases hl : cs.lookup y with
  | none =>
    refine pe_bad fun env S => ?_
    unfold fIsE
    split
    · split
      · rename_i h
        obtain ⟨_, _, rfl⟩ := h
        rw [hl]
      · rfl
    · rfl
  | some b => exact d_isE (hT y b (PySem.mem_of_lookup hl)).1 hz hf hm (fun z b h => (hT z b h).2) hcv hv hc hg he he2 hpl
theorem d_xfC {X : Cx} {a dd : Addr} {oe : Obj} {y : Str} {pn : List (Addr × Obj)} {pos : Pos} {i : Nat} {n f : Str} {p : Pos} {ks : List Str} (hT : ∀ z ∈ ks, ClsC X.K (He.ga X.K z) ∧ PySem.W.findIn X.K (.ref (He.ga X.K z)) f = some none) (hz : L2N.Zn (.ref (He.ga X.K y)) (some dd) oe) (hf : ∃ vs, oe.data = .fields vs)
    (hv : PEd (X.suite a ((a, oe) :: pn)) (.Name n p) (fVar i)) (hb : attributeBase (.Name n p) f X.env (eval (.Name n p) X.env) = eval (.Name n p) X.env := by rfl) :
    PEd (X.suite a ((a, oe) :: pn)) (.Attribute (.Name n p) f pos) (fXg ks a dd y i f) := by
  by_cases h : y ∈ ks
  · have e : fXg ks a dd y i f = fXf a dd y i f := by
      funext env S
      unfold fXg
      rw [if_pos h]
    rw [e]
    exact d_xf (hT y h).1 (hT y h).2 hz hf hv hb
  · exact pe_bad fun env S => by unfold fXg; rw [if_neg h]
end XN
namespace XN
open PySem PySem.Spec PyProof.Rows L2 DL TR L2H
variable [Tb]
theorem hot_suite {X : Cx} {a : Addr} {oe : Obj} {cls : Value} {d : Option Addr} {pn : List (Addr × Obj)} (hz : L2N.Zn cls d oe) (hf : ∃ vs, oe.data = .fields vs) : HotC (X.suite a ((a, oe) :: pn)) := by
  obtain ⟨vs, e⟩ := hf
  exact ⟨(a, oe), ⟨rfl, vs, e, hz.2.2 vs e⟩, List.mem_cons_self ..⟩
structure FnE (P : Program) (w : World) (K : PySem.W.Frag) (mg : Str → Option Value) (base : Heap) (k : Nat) (f : Addr) (fd : FuncData) (ps : List Str) (F : Addr → Addr → Str → FF) : Prop where
  run : ∀ (A : Around) (outer : List PySem.Env) (s : Shared) (H : Hp) (args : Args) (us : List Value) (vs : List V) (Q : VK) (p : Addr × Obj) (y : Str) (dd : Addr), RoomH k A → A.handled = some (.ref p.1) → L2N.Zn (.ref (He.ga K y)) (some dd) p.2 → (∃ vs, p.2.data = .fields vs) → PinOk outer H s p →
    Env0 P w K mg base A outer s H → BindsTo s fd args (ps.zip us) → Vals vs us → SpD K ps.length (F p.1 dd y) vs H Q → codeAny (model P w) A (.call (.ref f) args) (CR CX0 outer P w H s Q E0) s
theorem fn_E {P : Program} {w : World} {K : PySem.W.Frag} {mg : Str → Option Value} {base : Heap} {k : Nat} {f : Addr} {name qual : Str} {params : Arguments} {body : List Stmt} {scope : Scope} {fd : FuncData} {N ps : List Str} {b : Addr → Addr → Str → FS} {keep : Bool} {dvs : List V} {kws : List (Str × V)}
    (G : FunD K name qual params body scope dvs kws f fd) (S : FnScope N ps scope)
    (hbody : ∀ (cdv : Value) (A : Around) (outer : List PySem.Env) (s : Shared) (H : Hp) (a dd : Addr) (oe : Obj) (y : Str), RoomH k (A.deeper (envOfC qual scope s.heap.objs.size f cdv)) → L2N.Zn (.ref (He.ga K y)) (some dd) oe → (∃ vs, oe.data = .fields vs) → SXh ((cxOf CX0 P w K mg base N qual scope f cdv A outer s H E0).suite a [(a, oe)]) →
      PSsd ((cxOf CX0 P w K mg base N qual scope f cdv A outer s H E0).suite a [(a, oe)]) body (b a dd y)) :
    FnE P w K mg base (k + 1) f fd ps (fun a dd y => runF N.length keep (b a dd y)) := by
  obtain ⟨oc, od, dV, kV, doc, pm, an, cdv, ct, osl, rfl, lk, hcd, _, _⟩ := G.ex
  refine ⟨fun A outer s H args us vs Q p y dd hr hh hz hfl hpin e0 bd rv sp => ?_⟩
  obtain ⟨pa, oe⟩ := p
  obtain ⟨m, S0, ds, d, S', R, iD, hlen, hF, q⟩ := sp
  have kin : K.In s.heap := e0.mod.kin.keeps fun c o z => (e0.bs c o z).1
  have nolim : s.heap.NoLimit := e0.mod.nolimit.keeps fun c o z => (e0.bs c o z).1
  refine codeAny_call_function hr.depth (kin _ _ lk) rfl S.co S.gen rfl (PySem.W.codeRec_of kin hcd) (bd _ _ _ _ ?_)
  refine wpAny_newFunctionEnv_cells S.kind (fun ⟨n, v⟩ hy => ?_) fun env he s1 x => ?_
  · rcases S.par n (List.of_mem_zip hy).1 with z | z
    · exact .inl z
    · exact .inr ⟨z, PySem.W.cellsFrom_some _ _ _ (.inl z)⟩
  subst he
  refine ⟨nolim.keeps x.toInCall.keep, codeAny_func ?_⟩
  have I : Inv (cxH CX0 P w K mg base N qual scope f cdv A outer s H E0 (pa, oe)) [] (start N vs) H s1 := inv_startH S hpin e0 (by rw [← iD.len]; exact hlen) rv x
  have hr2 := hr.deeper (envOfC qual scope s.heap.objs.size f cdv)
  have hB := hbody cdv A outer s H pa dd oe y hr2 hz hfl ⟨S.nd, by
    have := hr2.un
    show (A.deeper (envOfC qual scope s.heap.objs.size f cdv)).units + 200 < cLine
    omega⟩
  have ectx : (cxH CX0 P w K mg base N qual scope f cdv A outer s H E0 (pa, oe)).wish (fun _ _ => False) = (cxOf CX0 P w K mg base N qual scope f cdv A outer s H E0).suite pa [(pa, oe)] := by
    unfold cxH
    have gm : ∀ A2 : Around, A2.handled = some (.ref pa) → A2.mark (some (.ref pa)) = A2 := fun A2 h => by
      cases A2
      simp only at h
      subst h
      rfl
    have hm := gm (A.deeper (envOfC qual scope s.heap.objs.size f cdv)) hh
    show _ = { cxOf CX0 P w K mg base N qual scope f cdv A outer s H E0 with A := (A.deeper (envOfC qual scope s.heap.objs.size f cdv)).mark (some (.ref pa)), calm := false, pn := [(pa, oe)], xe := fun _ _ => False }
    rw [hm]
    rfl
  have J := I.wish fun _ _ => False
  rw [ectx] at J
  have reading : TDs K (b pa dd y) { nx := fun _ H' => Q .non H', rt := Q } (start N vs) H := by
    refine ⟨m, startD N.length ds, S0, R, start_is iD, ?_⟩
    unfold runF at hF
    cases hb : b pa dd y (startD N.length ds) S0 with
    | nx env1 S1 =>
      rw [hb] at hF
      exact fun m1 H1 σ1 st1 R1 E1 => close_ok (d := .v .non) (v := .non) R st1 R1 (show V.non = V.non from rfl) hF q
    | rt d1 S1 =>
      rw [hb] at hF
      exact fun v m1 H1 st1 R1 i1 => close_ok R st1 R1 i1 hF q
    | bk env1 S1 => rw [hb] at hF; cases hF
    | ct env1 S1 => rw [hb] at hF; cases hF
    | bad => rw [hb] at hF; cases hF
  have run := hB.run [] s1 (start N vs) H _ J reading
  have hA : ((cxOf CX0 P w K mg base N qual scope f cdv A outer s H E0).suite pa [(pa, oe)]).A = A.deeper (envOfC qual scope s.heap.objs.size f cdv) := by
    rw [← ectx]
    rfl
  rw [hA] at run
  refine wpAny_mono run (fun fl s' hs => ?_) fun e s' hs => False.elim hs
  cases fl with
  | ret u =>
    obtain ⟨v, σ', H', J', ru, q⟩ := hs
    exact ⟨v, H', J'.os, J'.bare, J'.base, J'.hok, ru, q⟩
  | next =>
    obtain ⟨σ', H', J', q⟩ := hs
    exact ⟨.non, H', J'.os, J'.bare, J'.base, J'.hok, rfl, q⟩
  | brk =>
    obtain ⟨_, _, _, q⟩ := hs
    exact False.elim q
  | cont =>
    obtain ⟨_, _, _, q⟩ := hs
    exact False.elim q
theorem d_callE {X : Cx} {k : Nat} {f a dd : Addr} {oe : Obj} {y x : Str} {pn : List (Addr × Obj)} {fd : FuncData} {ps : List Str} {F : Addr → Addr → Str → FF} {e : Expr} {es : List Expr} {g : FA} {p pos : Pos} (G : FnE X.prog X.w X.K X.mg X.base k f fd ps F) (hr : RoomH k X.A)
    (hz : L2N.Zn (.ref (He.ga X.K y)) (some dd) oe) (hfl : ∃ vs, oe.data = .fields vs) (hm : X.mg x = some (.ref f)) (hk : PySem.W.keepIn X.K (.ref f) = true) (hb : Binds X.K fd ps []) (ha : PAd (X.suite a ((a, oe) :: pn)) (e :: es) g) (hlen : (e :: es).length = ps.length := by rfl)
    (hl : ∀ env S qs S', g env S = .ok qs S' → qs.length = (e :: es).length) (hg : Gl X x := by rfl) (hdb : (x == ("__debug__" : Str)) = false := by decide) (he : starEach (e :: es) X.env = (false, eval e X.env) :: starEach es X.env := by rfl) (hpl : (backTo pos (starEach es X.env)).any (·.1) = false := by rfl) :
    PEd (X.suite a ((a, oe) :: pn)) (.Call (.Name x p) (e :: es) [] pos) (fCall (F a dd y) [] g) := by
  refine ⟨fun pins s σ H Q I h => ?_⟩
  obtain ⟨m, env, S, R, E, d, S', e1, q⟩ := h
  obtain ⟨qs, S1, k1, e2⟩ := Oc.bind_eq e1
  refine wpAny_Call_Name_kw (ld_glob (X := X.suite a ((a, oe) :: pn)) I hg hm ?_ hdb)
  refine PySem.W.callWith_K (h₀ := X.base) I.ok.mod.kin hk (thn (ha.run pos pins s σ H (fun vs H1 => SpD X.K ps.length (F a dd y) vs H1 Q ∧ vs.length = ps.length) I ⟨m, env, S, R, E, qs, S1, k1, fun vs m1 H1 st1 R1 i1 => ?_⟩) fun us s1 ⟨vs, H1, I1, r, q1, q2⟩ => ⟨I1.kIn, ?_⟩) he hpl
  · have hlq := hl _ _ _ _ k1
    rw [List.append_nil] at e2
    refine ⟨⟨m1, S1, qs, d, S', R1, i1, by rw [hlq]; exact hlen, e2, fun v m2 H2 st2 R2 i2 => q v m2 H2 (st1.trans st2) R2 i2⟩, ?_⟩
    rw [← i1.len, hlq]
    exact hlen
  · have bd := hb s1 us I1.kIn (by rw [List.append_nil, ← r.length]; exact q2)
    rw [List.append_nil] at bd
    have P1 := I1.pin (a, oe) (List.mem_append_left _ (List.mem_cons_self ..))
    refine wpAny_call (codeAny_mono (G.run (X.A.mark (some (.ref a))) X.stack s1 H1 ⟨us, []⟩ us vs Q (a, oe) y dd ⟨hr.dp, hr.un⟩ rfl hz hfl ⟨P1.1, P1.2.1, fun hm => (List.mem_cons.mp (I1.stkSub a hm)).elim P1.2.2.1 P1.2.2.2.1, P1.2.2.2.2⟩ I1.env0 bd r q1) fun r s' hq => ?_)
    cases r with
    | error e => exact False.elim hq
    | ok fl =>
      cases fl with
      | ret u => exact I1.after hq
      | next => exact False.elim hq
      | brk => exact False.elim hq
      | cont => exact False.elim hq
abbrev PIdE (X : Cx) (tg e : Expr) (f : FI) : Prop := PIH X tg e (TDi X.K f)
theorem ie_rng1 {X : Cx} {tg a : Expr} {g : FA} {p pos : Pos} (hm : X.mg "range" = none) (ha : PAd X [a] g) (hg : Gl X "range" := by rfl) (hs : starEach [a] X.env = [(false, eval a X.env)] := by rfl) : PIdE X tg (.Call (.Name "range" p) [a] [] pos) (iR1 g) := by
  refine ⟨fun pins s σ H W I h => (pi_range1H hg hm ha hs).run pins s σ H W I ?_⟩
  obtain ⟨m, env, S, R, E, ps, own, S', e1, q⟩ := h
  obtain ⟨ds, S1, k1, e2⟩ := Oc.bind_eq e1
  refine ⟨m, env, S, R, E, ds, S1, k1, fun vs m1 H1 st1 R1 i1 => ?_⟩
  split at e2
  · rename_i n hn
    split at e2
    · rename_i hb
      cases e2
      exact ⟨n, ints_is hn i1, by omega, by omega, q m1 H1 _ st1 R1 itd_rng⟩
    · cases e2
  · cases e2
section
variable {X : Cx}
theorem lc_hot {pins : List (Addr × Obj)} {s : Shared} {σ : L2.St} {H : Hp} {Q : VK} {elt tg iter : Expr} {ifs : List Expr} {scope : Scope} {own : List (Str × Nat)} {pos pos' : Pos} {wi : TI} {g : TG} {tt : TT} {te : TE} {use : Option (Value → Sem Unit)} {Qf : Value → Shared → Prop}
    (hot : HotC X) (hN : X.N.Nodup) (I : Inv X pins σ H s) (hi : PIH X tg iter wi) (ok : BlkOk X.N X.env.scope scope own)
    (hg : ∀ (s : Shared) (H : Hp) (C : Addr) (cl : List (Str × Addr)) (fp : List Addr), PG (X.blk s H scope (compEnvC scope cl C X.env) fp) tg g) (ht : ∀ (s : Shared) (H : Hp) (C : Addr) (cl : List (Str × Addr)) (fp : List Addr), PTs (X.blk s H scope (compEnvC scope cl C X.env) fp) ifs tt)
    (he : ∀ (s : Shared) (H : Hp) (C : Addr) (cl : List (Str × Addr)) (fp : List Addr), PE (X.blk s H scope (compEnvC scope cl C X.env) fp) elt te) (hs : ∀ x, foldedSetIterable iter X.env x = pure x)
    (rd : tLc wi g tt te (own.map (·.2)) σ H Q)
    (after : ∀ L C s' m H', Inv X pins σ H' s' → Q (.ref L) H' → s'.heap.Ns C m → FpOk X pins H' C → compPost (model X.prog X.w) X.A X.xe use Qf (.ref L) C (.ok .next) s') :
    wpAny (model X.prog X.w) X.A (comprehension (.ListComp elt [⟨tg, iter, ifs, 0⟩] scope pos) scope X.env pos' (newList []) false (eval iter X.env) use) Qf X.xe s := by
  obtain ⟨pe, hot1, hpe⟩ := hot
  have fr : ∀ y ∈ scope.names, y.2 = .free → ∃ c, X.env.cells.lookup y.1 = some c := fun y hy z => (ok.free y hy z).elim (fun w => I.ok.has _ (.inl w)) fun w => I.ok.has _ (.inr w)
  refine wpAny_comprehension_free (use := use) rfl hs (closure_ok fr) ok.kind (fun y hy z => by rw [ok.uniq y hy, z]) (thn (hi.run pins s σ H _ I rd) fun xv s1 hx => thn hx fun itv s2 h2 => ?_)
  obtain ⟨it, fp, tn, J, Ha, rfl, Ia, T, ta, fa, q⟩ := h2
  refine wpAny_newObj_type (newEnv_comp ?_) (by show 0 ≤ sizeLine; decide)
  have new : Ha s2.heap.objs.size = none := Ia.hok.fresh (Nat.le_refl _)
  obtain ⟨W, ⟨m0, w0⟩, turn⟩ := q s2.heap.objs.size new
  generalize hD : s2.heap.objs.size = D at new w0 turn ⊢
  obtain ⟨s3, hs3⟩ : ∃ s3 : Shared, s3 = { s2 with heap := s2.heap.push { cls := .type "list", data := .seq ([] : List Value).toArray } } := ⟨_, rfl⟩
  have kp23 : ∀ b o, s2.heap.get? b = some o → s3.heap.get? b = some o := fun b o z => by rw [hs3]; exact Heap.get?_push_of_some _ z
  have Ib : Inv X pins σ (upd Ha D (.lst [])) s3 := by
    rw [hs3]
    exact Ia.laid (t' := s2.toks) (fun b o z => Heap.get?_push_of_some _ z) (Nat.le_of_eq hD) ⟨Nat.zero_le _, [], 0, .nil, by rw [← hD]; exact Heap.get?_push_size _ rfl⟩
  have fb : ∀ b ∈ fp, FpOk X pins (upd Ha D (.lst [])) b ∧ b < s3.heap.objs.size := fun b hb => by
    obtain ⟨o, z, _⟩ := T.obj _ _ ta b hb
    exact ⟨⟨by rw [upd_ne (by rw [← hD]; exact Nat.ne_of_lt (Heap.lt_size z))]; exact (fa b hb).1, (fa b hb).2⟩, Heap.lt_size (kp23 b o z)⟩
  have tb : tn 0 s3.heap := T.keep _ _ _ ta fun b _ o z => kp23 b o z
  have Ic := block_start Ib ok hN fb
  have P1 := Ib.pin pe (List.mem_append_left _ hpe)
  have rg := hg s3 (upd Ha D (.lst [])) s3.heap.objs.size (cellsFrom (s3.heap.objs.size + 1) scope.names (cloFrom X.env.cells scope.names [])) fp
  have rt := ht s3 (upd Ha D (.lst [])) s3.heap.objs.size (cellsFrom (s3.heap.objs.size + 1) scope.names (cloFrom X.env.cells scope.names [])) fp
  have re := he s3 (upd Ha D (.lst [])) s3.heap.objs.size (cellsFrom (s3.heap.objs.size + 1) scope.names (cloFrom X.env.cells scope.names [])) fp
  rw [← hs3]
  show codeAny _ _ (.compStart (.ListComp elt [⟨tg, iter, ifs, 0⟩] scope pos) 0 (.ref it) (.ref D) (compEnvC scope (cellsFrom (s3.heap.objs.size + 1) scope.names (cloFrom X.env.cells scope.names [])) s3.heap.objs.size X.env)) (compPost (model X.prog X.w) X.A X.xe use Qf (.ref D) s3.heap.objs.size) { s3 with heap := pushCells (s3.heap.push { cls := .type "dict", data := .dict #[] }) scope.names }
  generalize hce : compEnvC scope (cellsFrom (s3.heap.objs.size + 1) scope.names (cloFrom X.env.cells scope.names [])) s3.heap.objs.size X.env = ce at Ic rg rt re ⊢
  have atC : ce.locals = s3.heap.objs.size := by subst hce; rfl
  have bare0 : ∀ b ∈ fp, (upd Ha D (.lst [])) b = none := fun b hb => (fb b hb).1.1
  obtain ⟨Hb, hHb⟩ : ∃ Hb, Hb = upd Ha D (.lst []) := ⟨_, rfl⟩
  rw [← hHb] at Ib Ic rg rt re w0 bare0 fb P1
  generalize hs4 : ({ s3 with heap := pushCells (s3.heap.push { cls := .type "dict", data := .dict #[] }) scope.names } : Shared) = s4 at Ic ⊢
  have kp34 : ∀ b o, s3.heap.get? b = some o → s4.heap.get? b = some o := fun b o z => by rw [← hs4]; exact pushCells_keeps _ _ _ _ (Heap.get?_push_of_some _ z)
  have tc : tn 0 s4.heap := T.keep _ _ _ tb fun b _ o z => kp34 b o z
  -- the block with the handled exception in view
  obtain ⟨B, hB⟩ : ∃ B : Cx, B = X.blk s3 Hb scope ce fp := ⟨_, rfl⟩
  rw [← hB] at Ic rg rt re
  have pinB : ∀ q ∈ B.pn ++ [pe], s4.heap.get? q.1 = some q.2 ∧ Hb q.1 = none ∧ q.1 ≠ B.env.locals ∧ q.1 ∉ B.fs ∧ ∀ v, q.2.data ≠ .cell v := fun q hq => by
    rw [hB] at hq ⊢
    have eq : q = pe := by simpa using (show q ∈ ([] : List (Addr × Obj)) ++ [pe] from hq)
    rw [eq]
    refine ⟨kp34 _ _ P1.1, P1.2.1, ?_, fun hm => (List.mem_cons.mp (Ib.stkSub pe.1 hm)).elim P1.2.2.1 P1.2.2.2.1, P1.2.2.2.2⟩
    show pe.1 ≠ ce.locals
    rw [atC]
    exact Nat.ne_of_lt (Heap.lt_size P1.1)
  have Id : Inv B [pe] (wipe σ (own.map (·.2))) Hb s4 := Ic.pins_of fun p hp => pinB p (List.mem_append_right _ hp)
  have view : ∀ {σ' : L2.St} {H' : Hp} {s' : Shared}, Inv B [pe] σ' H' s' → (∀ b ∈ fp, H' b = none) → ∀ b ∈ fp, FpOk B [pe] H' b := fun {σ' H' s'} I' hn b hb => by
    subst hB
    refine ⟨hn b hb, (I'.ok.exf b hb).1, I'.ok.exfs b hb, .inl hb, fun x c z => (I'.ok.exf b hb).2 x c z, fun p hp => ?_⟩
    have eq : p = pe := by simpa using (show p ∈ ([] : List (Addr × Obj)) ++ [pe] from hp)
    rw [eq]
    exact (fb b hb).1.2.2.2.2.2 pe (List.mem_append_left _ hpe)
  have hotB : HotC (B.tr (B.pn ++ [pe]) fun _ _ => False) := ⟨pe, by subst hB; exact hot1, List.mem_append_right _ (List.mem_cons_self ..)⟩
  have viewT : ∀ {H' : Hp}, (∀ b ∈ fp, FpOk B [pe] H' b) → ∀ b ∈ fp, FpOk (B.tr (B.pn ++ [pe]) fun _ _ => False) [] H' b := fun h b hb => by
    obtain ⟨a1, a2, a3, a4, a5, a6⟩ := h b hb
    exact ⟨a1, a2, a3, a4, a5, fun p hp => a6 p (by rw [List.append_nil] at hp; exact hp)⟩
  have okB : B.Ok := Id.ok
  have prB : B.prog = X.prog := by rw [hB]
  have wB : B.w = X.w := by rw [hB]
  have KB : B.K = X.K := by rw [hB]
  have AB : B.A = X.A := by rw [hB]
  have xB : B.xe = fun _ _ => False := by rw [hB]
  have eB : B.env = ce := by rw [hB]
  have loop : codeAny (model X.prog X.w) X.A (.compLoop (.ListComp elt [⟨tg, iter, ifs, 0⟩] scope pos) 0 (.ref it) (.ref D) ce) (compPost (model X.prog X.w) X.A X.xe use Qf (.ref D) s3.heap.objs.size) s4 := by
    refine compLoop_any (fun n s' => ∃ i H', Inv B [pe] (wipe σ (own.map (·.2))) H' s' ∧ tn i s'.heap ∧ (∀ b ∈ fp, H' b = none) ∧ W i n H') ?_ m0 ⟨0, Hb, Id, tc, bare0, w0⟩
    rintro n s5 ⟨i, H5, I5, t5, n5, w5⟩
    rcases turn i n H5 w5 with ⟨stop, want⟩ | ⟨go, Nx, less, step⟩
    · have fin := T.done (B.tr (B.pn ++ [pe]) fun _ _ => False) prB wB KB hotB i [] s5 _ H5 (fun _ _ => False) (I5.toTry _) (viewT (view I5 n5)) t5 stop
      rw [show (B.tr (B.pn ++ [pe]) fun _ _ => False).A = X.A from AB] at fin
      refine thnF fin fun r s6 ⟨hr, I6'⟩ => ?_
      subst hr
      have I6 := I6'.ofTry okB
      subst hB
      have I7 : Inv X pins σ H5 s6 := Ib.call' (ch := fp) I6.os I6.base I6.hok I6.bare fun b hb => ⟨(fb b hb).1.2.2.2.1, (fb b hb).1.2.1, (fb b hb).1.2.2.2.2.1, (fb b hb).1.2.2.2.2.2⟩
      have nC : H5 s3.heap.objs.size = none := by rw [← atC]; exact I6.free
      obtain ⟨m, hn, _⟩ := I6.loc
      have hn : s6.heap.Ns ce.locals m := hn
      rw [atC] at hn
      exact after D s3.heap.objs.size s6 m H5 I7 want hn (Ib.fpOk (Nat.le_refl _) nC)
    · have one := T.item (B.tr (B.pn ++ [pe]) fun _ _ => False) prB wB KB hotB i [] s5 _ H5 (fun _ _ => False) (I5.toTry _) (viewT (view I5 n5)) t5 go
      rw [show (B.tr (B.pn ++ [pe]) fun _ _ => False).A = X.A from AB] at one
      refine thnF one fun r s6 ⟨u, hr, h6⟩ => ?_
      subst hr
      refine thnF h6 fun _ s7 ⟨x, H7, I7t, r7, y7, t7, n7⟩ => ?_
      have I7 := I7t.ofTry okB
      have I7p := I7.pinned (view I7 n7) (T.obj _ _ t7)
      have g7 := rg.run _ s7 _ H7 x u _ I7p r7 (step x H7 y7)
      rw [prB, wB, AB, xB, eB] at g7
      refine thnF g7 fun _ s8 ⟨σ8, H8, I8, hw8, q8⟩ => ?_
      have t8 := rt.run _ s8 σ8 H8 _ I8 q8
      rw [prB, wB, AB, xB, eB] at t8
      refine thnF t8 fun b s9 ⟨H9, I9, q9⟩ => ?_
      have next : ∀ {s' : Shared} {H' : Hp}, Inv B ([pe] ++ pinsAt fp s7.heap) σ8 H' s' → Nx H' → ∃ m, m < n ∧ ∃ i H', Inv B [pe] (wipe σ (own.map (·.2))) H' s' ∧ tn i s'.heap ∧ (∀ b ∈ fp, H' b = none) ∧ W i m H' := fun {s' H'} I' nx => by
        obtain ⟨m', hm, w'⟩ := less H' nx
        have still : ∀ b ∈ fp, ∀ o, s7.heap.get? b = some o → s'.heap.get? b = some o ∧ H' b = none := fun b hb o z =>
          let k := I'.pin (b, o) (List.mem_append_right _ (List.mem_append_right _ (mem_pinsAt hb z)))
          ⟨k.1, k.2.1⟩
        refine ⟨m', hm, i + 1, H', (I'.unpinned (pins := [pe])).weak (by rw [← hw8, wipe_length]) (fun j v z => ?_), T.keep _ _ _ t7 fun b hb o z => (still b hb o z).1, fun b hb => ?_, w'⟩
        · rw [← hw8] at z
          exact (wipe_some z).1
        · obtain ⟨o, z, _⟩ := T.obj _ _ t7 b hb
          exact (still b hb o z).2
      cases b with
      | false =>
        simp only [Bool.false_eq_true, if_false] at q9 ⊢
        exact next I9 q9
      | true =>
        simp only [if_true] at q9 ⊢
        have e9 := re.run _ s9 σ8 H9 _ I9 q9
        rw [prB, wB, AB, xB, eB] at e9
        refine thnF e9 fun z s10 ⟨yv, H10, I10, r10, acc, hD10, hz10, nx⟩ => ?_
        have ap := app_ok (X := B) (E := notedBy (model X.prog X.w) X.A ce fun e s' => compPost (model X.prog X.w) X.A X.xe use Qf (.ref D) s3.heap.objs.size (.error e) s') (Q := fun _ s' => ∃ m, m < n ∧ ∃ i H', Inv B [pe] (wipe σ (own.map (·.2))) H' s' ∧ tn i s'.heap ∧ (∀ b ∈ fp, H' b = none) ∧ W i m H') I10 hD10 hz10 r10 fun s11 I11 => next I11 nx
        rw [prB, wB, AB] at ap
        exact ap
  exact codeAny_compStart_list loop (T.self X.A 0 _ _ _ tc loop)
theorem s_setLcE {i : Nat} {y : Str} {py spos : Pos} {elt tg iter : Expr} {ifs : List Expr} {scope : Scope} {pos : Pos} {it : FI} {g : FG} {t : FT} {e : FE} (hot : HotC X) (hN : X.N.Nodup) (own : List (Str × Nat)) (hsw : swapsWith (.ListComp elt [⟨tg, iter, ifs, 0⟩] scope pos) (some (.Name y py)) spos.line X.env = pure true) (hi : PIdE X tg iter it) (ok : BlkOk X.N X.env.scope scope own)
    (hg : ∀ (s : Shared) (H : Hp) (C : Addr) (cl : List (Str × Addr)) (fp : List Addr), PG (X.blk s H scope (compEnvC scope cl C X.env) fp) tg (TDw X.K (own.map (·.2)) g))
    (ht : ∀ (s : Shared) (H : Hp) (C : Addr) (cl : List (Str × Addr)) (fp : List Addr), PTs (X.blk s H scope (compEnvC scope cl C X.env) fp) ifs (TDt X.K t)) (he : ∀ (s : Shared) (H : Hp) (C : Addr) (cl : List (Str × Addr)) (fp : List Addr), PE (X.blk s H scope (compEnvC scope cl C X.env) fp) elt (TD X.K e))
    (hy : X.N[i]? = some y := by rfl) (hyl : X.env.scope.names.lookup y = some .local := by rfl) (hs : ∀ x, foldedSetIterable iter X.env x = pure x := by intro _; rfl) :
    PSd X (.Assign [.Name y py] (.ListComp elt [⟨tg, iter, ifs, 0⟩] scope pos) spos) (fSet (fLc it g t e (own.map (·.2))) (gNm i)) := by
  refine ⟨fun pins s σ H D I rd => ?_⟩
  rw [exec_Assign_Name_used _ _ _ _ hsw]
  refine wpAny_bind (wpAny_standAt (wpAny_bind ?_))
  have want : tLc (TDi X.K it) (TDw X.K (own.map (·.2)) g) (TDt X.K t) (TD X.K e) (own.map (·.2)) σ H (fun x H1 => gName i x σ H1 D.nx) := setnm_ok (fun _ _ _ z => lc_val z) rd
  show wpAny _ X.A (do let _ ← comprehension (.ListComp elt [⟨tg, iter, ifs, 0⟩] scope pos) scope X.env (firstIterPos [⟨tg, iter, ifs, 0⟩] pos) (newList []) false (eval iter X.env) (some (assign (.Name y py) X.env))) _ _ s
  refine wpAny_bind (thn (lc_hot (Qf := fun _ s' => SP X pins D .next s') hot hN I hi ok hg ht he hs want fun L C s' m H' J q hn f => ?_) fun _ s' hq => wpAny_pure (wpAny_pure hq))
  show wpAny _ _ (assign (.Name y py) X.env (.ref L)) _ _ _
  refine wpAny_assign_Name (store_ok2 (v := V.ref L) J hN hy (.inl hyl) rfl (fun s2 J2 ⟨a, sb, ha⟩ => ?_) (.inr hyl))
  obtain ⟨f0, f1, f2, f3, f4, f5⟩ := f
  have apart : C ≠ a := ha.elim (fun z => by rw [z]; exact f1) fun z w => f4 y a z w.symm
  exact ⟨m, hn.sameBut sb apart, fun h3 sb3 => ⟨_, H', J2.turned (t' := s2.toks) (fun b o hb z => (sb3.2 b hb).trans z) f0 f1 f3 f4 f5, q⟩⟩
end
theorem _root_.DL.SXh.blk {X : Cx} (h : SXh X) (s : Shared) (H : Hp) (scope : Scope) (cenv : PySem.Env) (fp : List Addr) : SXh (X.blk s H scope cenv fp) := ⟨h.nd, h.units⟩
end XN
namespace DL
open PySem PySem.Spec PyProof.Rows L2
variable [Tb]
section
variable {X : Cx}
theorem s_par3T (hX : SX X) {i j l : Nat} {x y z : Str} {a b c : Expr} {g : FA} {px py pz pt pos : Pos} {kt k2 pt2} (ha : PAd X [a, b, c] g)
    (hw : swappedStores [.Tuple [.Name x px, .Name y py, .Name z pz] kt pt] (.Tuple [a, b, c] k2 pt2) X.env = pure (some [x, y, z]) := by rfl)
    (hi : X.N[i]? = some x := by rfl) (hj : X.N[j]? = some y := by rfl) (hl : X.N[l]? = some z := by rfl) (hij : i ≠ j := by decide) (hil : i ≠ l := by decide) (hjl : j ≠ l := by decide)
    (hx : X.env.scope.names.lookup x = some .local := by rfl) (hy : X.env.scope.names.lookup y = some .local := by rfl) (hz : X.env.scope.names.lookup z = some .local := by rfl)
    (hs : swapsWithSole [.Tuple [.Name x px, .Name y py, .Name z pz] kt pt] (.Tuple [a, b, c] k2 pt2) pos.line X.env = pure false := by rfl) :
    PSd X (.Assign [.Tuple [.Name x px, .Name y py, .Name z pz] kt pt] (.Tuple [a, b, c] k2 pt2) pos) (fPar3 i j l g) := ps_weak (ps_par3 hX.calm hX.nd hi hj hl hij hil hjl hx hy hz ha hw hs) fun D σ H ⟨m, env, S, R, E, q⟩ => by
  obtain ⟨ds, S1, k1, q⟩ := Oc.fl_ne q
  refine ⟨m, env, S, R, E, ds, S1, k1, fun vs m1 H1 st1 R1 i1 => ?_⟩
  split at q
  · obtain ⟨u, ws, rfl, h2, h3⟩ := i1
    obtain ⟨v, ws, rfl, h4, h5⟩ := h3
    obtain ⟨w, ws, rfl, h6, h7⟩ := h5
    have h7' : ws = [] := h7
    subst h7'
    exact ⟨u, v, w, rfl, q m1 H1 _ st1 R1 ((((E.step st1).set h2).set h4).set h6)⟩
  · exact q.elim
end
end DL
namespace GA
open PySem PySem.Spec PyProof.Rows L2 DL
local macro_rules | `(tactic| array_get_dec) => `(tactic| first
  | (focus ((with_reducible (show deP _ _ = _)); exact rfl))
  | (focus ((with_reducible (show seqOf _ _ = _)); exact rfl))
  | (focus ((with_reducible (show truP _ = _)); exact rfl))
  | (focus ((with_reducible (show pIx _ _ = _)); exact rfl))
  | (focus ((with_reducible (show pKey _ = _)); exact rfl))
  | (focus ((with_reducible (show bLen _ = _)); exact rfl))
  | (focus ((with_reducible (show bInt _ = _)); exact rfl))
  | (focus ((with_reducible (show bList _ = _)); exact rfl))
  | (focus ((with_reducible (show pAdd (.int _) (.int _) = _)); exact rfl))
  | (focus ((with_reducible (show pSub (.int _) (.int _) = _)); exact rfl))
  | (focus ((with_reducible (show pLt (.int _) (.int _) = _)); exact rfl))
  | (focus ((with_reducible (show pLe (.int _) (.int _) = _)); exact rfl))
  | (focus ((with_reducible (show pGt (.int _) (.int _) = _)); exact rfl))
  | (focus ((with_reducible (show pGe (.int _) (.int _) = _)); exact rfl))
  | (focus ((with_reducible (show List.length _ = _)); exact rfl))
  | (focus ((with_reducible (show pSl _ _ _ = _)); exact rfl))
  | (focus ((with_reducible (show pIsN _ _ = _)); exact rfl))
  | (focus ((with_reducible (show pNotN _ _ = _)); exact rfl))
  | (focus ((with_reducible (show pNeg _ = _)); exact rfl))
  | (focus ((with_reducible (show setD _ _ _ _ = _)); exact rfl))
  | with_reducible exact rfl)
local macro_rules | `(tactic| array_get_dec) => `(tactic| first
  | (focus ((with_reducible show _ = _); with_reducible assumption))
  | (focus (with_reducible apply e_l2))
  | with_reducible exact o_eqN
  | with_reducible exact o_neN
  | with_reducible exact o_eqT
  | with_reducible exact o_neT
  | with_reducible exact o_eqT0
  | with_reducible exact o_neT0
  | with_reducible exact o_eqLs0
  | with_reducible exact o_neLs0
  | with_reducible exact o_inT
  | with_reducible exact o_inLs
  | with_reducible exact o_niT
  | with_reducible exact o_niLs
  | with_reducible exact o_eqI
  | with_reducible exact o_neI
  | with_reducible exact o_eqL (by decide +kernel)
  | with_reducible exact o_neL (by decide +kernel)
  | with_reducible exact o_inW (by decide +kernel)
  | with_reducible exact o_niW (by decide +kernel)
  | with_reducible exact o_in1 (by decide +kernel)
  | with_reducible exact o_in2 (by decide +kernel) (by decide +kernel)
  | with_reducible exact o_in3 (by decide +kernel) (by decide +kernel) (by decide +kernel)
  | with_reducible exact o_ni1 (by decide +kernel)
  | with_reducible exact o_ni2 (by decide +kernel) (by decide +kernel)
  | with_reducible exact o_addT1 (by first | omega | (simp; omega))
  | with_reducible exact o_addT (by first | omega | (simp; omega))
  | with_reducible exact o_addLs (by first | omega | (simp; omega))
  | with_reducible exact o_addTp (by first | omega | (simp; omega))
  | with_reducible exact o_tupleN
  | with_reducible exact o_tuple)
local macro_rules | `(tactic| array_get_dec) => `(tactic| first
  | with_reducible exact e_c
  | ((with_reducible apply e_var); (exact rfl))
  | with_reducible apply e_f2
  | with_reducible exact e_nil
  | with_reducible apply e_cons
  | with_reducible apply e_tup
  | with_reducible apply e_lst
  | with_reducible apply e_lstB
  | with_reducible apply e_cb
  | with_reducible apply e_cbB
  | with_reducible apply e_tru
  | with_reducible exact e_yes
  | with_reducible apply e_and
  | with_reducible apply e_or
  | with_reducible apply e_not
  | with_reducible apply e_iteB
  | with_reducible apply e_ite
  | with_reducible apply e_andV
  | with_reducible apply e_orV
  | with_reducible apply e_notV
  | with_reducible apply e_f1
  | with_reducible apply e_call
  | with_reducible apply e_callN
  | with_reducible apply e_sl
  | with_reducible exact e_oNo
  | with_reducible apply e_oAt
  | with_reducible apply e_iv
  | with_reducible apply e_lcA
  | with_reducible apply e_lc
  | with_reducible apply e_lcB
  | with_reducible apply e_rg
  | with_reducible apply e_rg2
  | ((with_reducible apply e_mt); (exact rfl); (exact rfl))
  | with_reducible exact e_gNm
  | with_reducible exact e_gNl
  | with_reducible apply e_gCn
  | (focus ((with_reducible (show gTp _ _ _ _ _ = _)); (apply e_gTp); (exact rfl)))
  | (with_reducible (intro _ _; apply e_body))
  | with_reducible exact v_nil
  | with_reducible apply v_cons
  | with_reducible exact a_nil
  | ((with_reducible apply a_cons); (first | exact deP_bx rfl | exact deP_bxD rfl | exact rfl))
  | with_reducible exact deP_bx rfl
  | with_reducible exact deP_bxD rfl
  | with_reducible exact own_none
  | with_reducible exact own_bx rfl
  | (focus (show _ ≤ (100000 : Nat); first | decide | omega | (simp; done) | (simp; omega)))
  | (focus (show _ < (100000 : Nat); first | omega | (simp; omega) | (refine Nat.lt_of_le_of_lt (List.length_filter_le _ _) ?_; omega)))
  | with_reducible exact o_app (by first | omega | (simp; omega))
  | with_reducible exact o_ext rfl (by first | omega | (simp; omega))
  | (with_reducible intro _))
local macro_rules | `(tactic| get_elem_tactic_extensible) => `(tactic| first
  | with_reducible refine s_Seq ?_
  | with_reducible refine s_Nx ?_
  | with_reducible apply e_closeT
  | ((with_reducible apply e_closeLT); (exact rfl))
  | with_reducible apply s_SetE
  | with_reducible apply s_DropE
  | with_reducible apply s_RetE
  | with_reducible apply s_IfE
  | with_reducible apply s_Par2
  | with_reducible apply s_ForE)
noncomputable def B_rows_by_step : FS :=
 (fRet (fDc (iVal (fVar 0)) (gNm 1) fYes (f2 pIx (fVar 1) (fC (.v (.int 0)))) (fVar 1) [1]))
noncomputable def F_rows_by_step : FF := runF 2 false B_rows_by_step
noncomputable def L_require_steps_0 : FS :=
 (fIf (fTru (f2 pNotIn (fVar 3) (fVar 2)))
   fNever
   fNext)
noncomputable def B_require_steps : FS :=
 (fSeq (fSet (fCall F_rows_by_step [] (fCons (fVar 0) fNil)) (gNm 2))
 (fFor (iVal (fVar 1)) (gNm 3) L_require_steps_0))
noncomputable def F_require_steps : FF := runF 4 false B_require_steps
noncomputable def B_reasons_in : FS :=
 (fSeq (fSet (fCall F_rows_by_step [] (fCons (fVar 0) fNil)) (gNm 3))
 (fSeq (fSet (f2 pIx (fVar 3) (fVar 2)) (gTp 4 (gCn (gNm 4) (gCn (gNm 5) (gCn (gNm 6) (gCn (gNm 7) gNl))))))
 (fSeq (fSet (fIte (fTru (f2 pIn (fC (.v (.str "undo"))) (fVar 7))) (fLstB fNil) (fLstB (fCons (fTup (fCons (fC (.v (.str "ability"))) fNil)) fNil))) (gNm 8))
 (fSeq (fDrop (fMt mExtend (fVar 8) (fCons (fLc (iVal (fVar 1)) (gNm 9) (fTru (f2 pIn (fVar 2) (f2 pIx (f2 pIx (fVar 3) (fVar 9)) (fC (.v (.int 1)))))) (fTup (fCons (fC (.v (.str "needed"))) (fCons (fVar 9) fNil))) [9]) fNil)))
 (fSeq (fDrop (fMt mExtend (fVar 8) (fCons (fLc (iVal (fVar 6)) (gNm 9) (fTru (f2 pIn (fVar 9) (fVar 1))) (fTup (fCons (fC (.v (.str "seal"))) (fCons (fVar 9) fNil))) [9]) fNil)))
 (fRet (fCb bTuple (fCons (fCb bSorted (fCons (fVar 8) fNil)) fNil))))))))
noncomputable def F_reasons_in : FF := runF 10 false B_reasons_in
structure Rw where
  x : Nm
  ne : List Nm
  se : List Nm
  ab : List Nm
deriving DecidableEq
instance : Inhabited Rw := ⟨⟨default, [], [], []⟩⟩
abbrev rwP (r : Rw) : P := .tup [nP r.x, tN r.ne, tN r.se, tN r.ab]
abbrev wkP (rs : List Rw) : P := .tup (rs.map rwP)
def nm (rs : List Rw) : List Nm := rs.map (·.x)
structure WOk (rs : List Rw) : Prop where
  len : rs.length ≤ 500
  ne : ∀ r ∈ rs, r.ne.length ≤ 500
  se : ∀ r ∈ rs, r.se.length ≤ 500
  ab : ∀ r ∈ rs, r.ab.length ≤ 500
  nd : (nm rs).Nodup
abbrev dcP (rs : List Rw) : P := .dic (rs.map fun r => .inr r.x.s) (rs.map rwP)
def rowOf (rs : List Rw) (x : Nm) : Rw := (rs.find? fun q => decide (q.x = x)).getD default
theorem mem_nm {rs : List Rw} {x : Nm} : x ∈ nm rs ↔ ∃ r ∈ rs, r.x = x := by
  unfold nm
  rw [List.mem_map]
theorem rowOf_mem {rs : List Rw} {x : Nm} (h : x ∈ nm rs) : rowOf rs x ∈ rs ∧ (rowOf rs x).x = x := by
  obtain ⟨r, hr, rfl⟩ := mem_nm.mp h
  unfold rowOf
  cases e : rs.find? fun q => decide (q.x = r.x) with
  | none => exact absurd (List.find?_eq_none.mp e r hr) (by simp)
  | some q => exact ⟨List.mem_of_find?_eq_some e, by simpa using List.find?_some e⟩
theorem row_uniq {rs : List Rw} (hn : (nm rs).Nodup) {r q : Rw} (hr : r ∈ rs) (hq : q ∈ rs) (e : r.x = q.x) : r = q := by
  induction rs with
  | nil => cases hr
  | cons a rs ih =>
    obtain ⟨h1, h2⟩ := List.nodup_cons.mp (show (a.x :: nm rs).Nodup from hn)
    rcases List.mem_cons.mp hr with e1 | hr1
    · rcases List.mem_cons.mp hq with e2 | hq1
      · rw [e1, e2]
      · exact absurd (mem_nm.mpr ⟨q, hq1, by rw [← e, e1]⟩) h1
    · rcases List.mem_cons.mp hq with e2 | hq1
      · exact absurd (mem_nm.mpr ⟨r, hr1, by rw [e, e2]⟩) h1
      · exact ih h2 hr1 hq1
theorem look_find {rs : List Rw} {x : Nm} : look (rs.map fun r => (.inr r.x.s : Key)) (rs.map rwP) (.inr x.s) = (rs.find? fun q => decide (q.x = x)).map rwP := by
  unfold look
  induction rs with
  | nil => rfl
  | cons r rs ih =>
    simp only [List.map_cons, List.zip_cons_cons, List.find?_cons]
    have e : decide ((Sum.inr r.x.s : Key) = .inr x.s) = decide (r.x = x) := by
      simp only [Sum.inr.injEq, Nm.eq_iff]
    rw [e]
    cases hq : decide (r.x = x) with
    | true => simp
    | false => exact ih
theorem o_row {rs : List Rw} {x : Nm} (h : x ∈ nm rs) : pIx (dcP rs) (nP x) = some (rwP (rowOf rs x)) := by
  show look (rs.map fun r => (.inr r.x.s : Key)) (rs.map rwP) (.inr x.s) = _
  rw [look_find]
  obtain ⟨r, hr, rfl⟩ := mem_nm.mp h
  unfold rowOf
  cases e : rs.find? fun q => decide (q.x = r.x) with
  | none => exact absurd (List.find?_eq_none.mp e r hr) (by simp)
  | some q => rfl
theorem o_inD {rs : List Rw} {x : Nm} : pIn (nP x) (dcP rs) = some (.bl (decide (x ∈ nm rs))) := by
  have e : (look (rs.map fun r => (.inr r.x.s : Key)) (rs.map rwP) (.inr x.s)).isSome = decide (x ∈ nm rs) := by
    rw [look_find]
    refine boolE ?_
    rw [Option.isSome_map, List.find?_isSome, mem_nm]
    simp
  show some (P.bl (look _ _ _).isSome) = _
  rw [e]
theorem o_niD {rs : List Rw} {x : Nm} : pNotIn (nP x) (dcP rs) = some (.bl (!decide (x ∈ nm rs))) := notIn_of o_inD
theorem o_r0 {r : Rw} : pIx (rwP r) (.int 0) = some (nP r.x) := rfl
theorem o_r1 {r : Rw} : pIx (rwP r) (.int 1) = some (tN r.ne) := rfl
theorem o_r2 {r : Rw} : pIx (rwP r) (.int 2) = some (tN r.se) := rfl
theorem o_r3 {r : Rw} : pIx (rwP r) (.int 3) = some (tN r.ab) := rfl
local macro_rules | `(tactic| array_get_dec) => `(tactic| first
  | with_reducible exact o_inD
  | with_reducible exact o_niD
  | with_reducible exact o_row (by assumption)
  | with_reducible exact o_r0
  | with_reducible exact o_r1
  | with_reducible exact o_r2
  | with_reducible exact o_r3)
theorem rows_by {o : Ob} {T : Sto} {rs : List Rw} (h : WOk rs) : F_rows_by_step [.v (wkP rs)] (o :: T) = .ok (.v (dcP rs)) (o :: T) := by
  have hl := h.len
  have hn : ((rs.filter fun _ => true).map fun r => (.inr r.x.s : Key)).Nodup := by
    rw [filter_yes]
    have := h.nd
    unfold nm at this
    have h2 : ((rs.map (·.x)).map fun x : Nm => (.inr x.s : Key)).Nodup := List.Pairwise.map _ (fun a b h e => h (Nm.inj (Sum.inr.inj e))) this
    rw [List.map_map] at h2
    exact h2
  refine e_run ?_
  show (B_rows_by_step [some (.v (wkP rs)), none] _).F _
  unfold B_rows_by_step
  refine s_RetE (S1 := o :: (T ++ [])) (e_dc (xs := rs) (f := rwP) (q := fun _ => true) (kp := fun r => nP r.x) (kk := fun r => .inr r.x.s) (hh := rwP) (own := none) ?_ own_none (by omega) ?_ hn) ?_
  · repeat' array_get_dec
  · intro r hr
    apply e_bodyD
    repeat' array_get_dec
  · rw [filter_yes]
    exact e_close
local macro_rules | `(tactic| array_get_dec) => `(tactic| (focus ((with_reducible (show F_rows_by_step _ _ = _)); exact rows_by (by assumption))))
theorem require {o : Ob} {T : Sto} {rs : List Rw} {ms : List Nm} (h : WOk rs) (hm : ∀ m ∈ ms, m ∈ nm rs) : F_require_steps [.v (wkP rs), .v (tN ms)] (o :: T) = .ok (.v .non) (o :: T) := by
  refine e_run ?_
  show (B_require_steps [some (.v (wkP rs)), some (.v (tN ms)), none, none] _).F _
  unfold B_require_steps
  repeat' (first | get_elem_tactic_extensible | array_get_dec)
  refine s_Loop (fun i env S => ∃ e3 : Option D, env = [some (.v (wkP rs)), some (.v (tN ms)), some (.v (dcP rs)), e3] ∧ S = o :: (T ++ [])) ⟨none, rfl, rfl⟩ (fun _ _ _ _ => own_none) ?_ ?_
  · rintro i p env S hi ⟨e3, rfl, rfl⟩
    have hi' : (ms.map nP)[i]? = some p := hi
    rw [List.getElem?_map] at hi'
    obtain ⟨x, hx, rfl⟩ := Option.map_eq_some_iff.mp hi'
    have hxm := hm x (List.mem_of_getElem? hx)
    refine P_of e_gNm ?_
    unfold L_require_steps_0
    refine s_IfE (k := !decide (x ∈ nm rs)) (by repeat' array_get_dec) (fun z => ?_) fun _ => ⟨_, rfl, rfl⟩
    simp [hxm] at z
  · rintro env S ⟨e3, rfl, rfl⟩
    exact e_close
end GA
namespace GA
open PySem PySem.Spec PyProof.Rows L2 DL
local macro_rules | `(tactic| array_get_dec) => `(tactic| first
  | (focus ((with_reducible (show deP _ _ = _)); exact rfl))
  | (focus ((with_reducible (show seqOf _ _ = _)); exact rfl))
  | (focus ((with_reducible (show truP _ = _)); exact rfl))
  | (focus ((with_reducible (show pIx _ _ = _)); exact rfl))
  | (focus ((with_reducible (show pKey _ = _)); exact rfl))
  | (focus ((with_reducible (show bLen _ = _)); exact rfl))
  | (focus ((with_reducible (show bInt _ = _)); exact rfl))
  | (focus ((with_reducible (show bList _ = _)); exact rfl))
  | (focus ((with_reducible (show pAdd (.int _) (.int _) = _)); exact rfl))
  | (focus ((with_reducible (show pSub (.int _) (.int _) = _)); exact rfl))
  | (focus ((with_reducible (show pLt (.int _) (.int _) = _)); exact rfl))
  | (focus ((with_reducible (show pLe (.int _) (.int _) = _)); exact rfl))
  | (focus ((with_reducible (show pGt (.int _) (.int _) = _)); exact rfl))
  | (focus ((with_reducible (show pGe (.int _) (.int _) = _)); exact rfl))
  | (focus ((with_reducible (show List.length _ = _)); exact rfl))
  | (focus ((with_reducible (show pSl _ _ _ = _)); exact rfl))
  | (focus ((with_reducible (show pIsN _ _ = _)); exact rfl))
  | (focus ((with_reducible (show pNotN _ _ = _)); exact rfl))
  | (focus ((with_reducible (show pNeg _ = _)); exact rfl))
  | (focus ((with_reducible (show setD _ _ _ _ = _)); exact rfl))
  | with_reducible exact rfl)
local macro_rules | `(tactic| array_get_dec) => `(tactic| first
  | (focus ((with_reducible show _ = _); with_reducible assumption))
  | (focus (with_reducible apply e_l2))
  | with_reducible exact o_eqN
  | with_reducible exact o_neN
  | with_reducible exact o_eqT
  | with_reducible exact o_neT
  | with_reducible exact o_eqT0
  | with_reducible exact o_neT0
  | with_reducible exact o_eqLs0
  | with_reducible exact o_neLs0
  | with_reducible exact o_inT
  | with_reducible exact o_inLs
  | with_reducible exact o_niT
  | with_reducible exact o_niLs
  | with_reducible exact o_eqI
  | with_reducible exact o_neI
  | with_reducible exact o_eqL (by decide +kernel)
  | with_reducible exact o_neL (by decide +kernel)
  | with_reducible exact o_inW (by decide +kernel)
  | with_reducible exact o_niW (by decide +kernel)
  | with_reducible exact o_in1 (by decide +kernel)
  | with_reducible exact o_in2 (by decide +kernel) (by decide +kernel)
  | with_reducible exact o_in3 (by decide +kernel) (by decide +kernel) (by decide +kernel)
  | with_reducible exact o_ni1 (by decide +kernel)
  | with_reducible exact o_ni2 (by decide +kernel) (by decide +kernel)
  | with_reducible exact o_addT1 (by first | omega | (simp; omega))
  | with_reducible exact o_addT (by first | omega | (simp; omega))
  | with_reducible exact o_addLs (by first | omega | (simp; omega))
  | with_reducible exact o_addTp (by first | omega | (simp; omega))
  | with_reducible exact o_tupleN
  | with_reducible exact o_tuple)
local macro_rules | `(tactic| array_get_dec) => `(tactic| first
  | with_reducible exact e_c
  | ((with_reducible apply e_var); (exact rfl))
  | with_reducible apply e_f2
  | with_reducible exact e_nil
  | with_reducible apply e_cons
  | with_reducible apply e_tup
  | with_reducible apply e_lst
  | with_reducible apply e_lstB
  | with_reducible apply e_cb
  | with_reducible apply e_cbB
  | with_reducible apply e_tru
  | with_reducible exact e_yes
  | with_reducible apply e_and
  | with_reducible apply e_or
  | with_reducible apply e_not
  | with_reducible apply e_iteB
  | with_reducible apply e_ite
  | with_reducible apply e_andV
  | with_reducible apply e_orV
  | with_reducible apply e_notV
  | with_reducible apply e_f1
  | with_reducible apply e_call
  | with_reducible apply e_callN
  | with_reducible apply e_sl
  | with_reducible exact e_oNo
  | with_reducible apply e_oAt
  | with_reducible apply e_iv
  | with_reducible apply e_lcA
  | with_reducible apply e_lc
  | with_reducible apply e_lcB
  | with_reducible apply e_rg
  | with_reducible apply e_rg2
  | ((with_reducible apply e_mt); (exact rfl); (exact rfl))
  | with_reducible exact e_gNm
  | with_reducible exact e_gNl
  | with_reducible apply e_gCn
  | (focus ((with_reducible (show gTp _ _ _ _ _ = _)); (apply e_gTp); (exact rfl)))
  | (with_reducible (intro _ _; apply e_body))
  | with_reducible exact v_nil
  | with_reducible apply v_cons
  | with_reducible exact a_nil
  | ((with_reducible apply a_cons); (first | exact deP_bx rfl | exact deP_bxD rfl | exact rfl))
  | with_reducible exact deP_bx rfl
  | with_reducible exact deP_bxD rfl
  | with_reducible exact own_none
  | with_reducible exact own_bx rfl
  | (focus (show _ ≤ (100000 : Nat); first | decide | omega | (simp; done) | (simp; omega)))
  | (focus (show _ < (100000 : Nat); first | omega | (simp; omega) | (refine Nat.lt_of_le_of_lt (List.length_filter_le _ _) ?_; omega)))
  | with_reducible exact o_app (by first | omega | (simp; omega))
  | with_reducible exact o_ext rfl (by first | omega | (simp; omega))
  | (with_reducible intro _))
local macro_rules | `(tactic| get_elem_tactic_extensible) => `(tactic| first
  | with_reducible refine s_Seq ?_
  | with_reducible refine s_Nx ?_
  | with_reducible apply e_closeT
  | ((with_reducible apply e_closeLT); (exact rfl))
  | with_reducible apply s_SetE
  | with_reducible apply s_DropE
  | with_reducible apply s_RetE
  | with_reducible apply s_IfE
  | with_reducible apply s_Par2
  | with_reducible apply s_ForE)
local macro_rules | `(tactic| array_get_dec) => `(tactic| first
  | with_reducible exact o_inD
  | with_reducible exact o_niD
  | with_reducible exact o_row (by first | assumption | solve_by_elim)
  | with_reducible exact o_r0
  | with_reducible exact o_r1
  | with_reducible exact o_r2
  | with_reducible exact o_r3
  | (focus ((with_reducible (show F_rows_by_step _ _ = _)); exact rows_by (by assumption)))
  | (focus ((with_reducible (show F_require_steps _ _ = _)); exact require (by assumption) (by assumption))))
inductive Rs where
  | ab
  | nd (x : Nm)
  | sl (x : Nm)
deriving DecidableEq
def rsS : Rs → List Str
  | .ab => ["ability"]
  | .nd x => ["needed", x.s]
  | .sl x => ["seal", x.s]
abbrev rsP (r : Rs) : P := stP (rsS r)
theorem rsS_ok (r : Rs) : rsS r ≠ [] ∧ (rsS r).length ≤ 2 ∧ ∀ x ∈ rsS r, OkS x := by
  have h1 : OkS "ability" ∧ OkS "needed" ∧ OkS "seal" := by
    have : ∀ x ∈ (["ability", "needed", "seal"] : List Str), PyData.strOk x = true ∧ PyData.strOk (reprText x) = true ∧ (reprText x).length ≤ 20 := by decide +kernel
    exact ⟨this _ (by simp), this _ (by simp), this _ (by simp)⟩
  cases r with
  | ab => exact ⟨by simp [rsS], by simp [rsS], by simpa [rsS] using h1.1⟩
  | nd x => exact ⟨by simp [rsS], by simp [rsS], by simpa [rsS] using ⟨h1.2.1, x.ok⟩⟩
  | sl x => exact ⟨by simp [rsS], by simp [rsS], by simpa [rsS] using ⟨h1.2.2, x.ok⟩⟩
def abil (r : Rw) : List Rs := if has "undo" r.ab = true then [] else [.ab]
def raw (rs : List Rw) (ms : List Nm) (x : Nm) : List Rs := abil (rowOf rs x) ++ (ms.filter fun m => decide (x ∈ (rowOf rs m).ne)).map .nd ++ ((rowOf rs x).se.filter fun y => decide (y ∈ ms)).map .sl
noncomputable def RS (rs : List Rw) (ms : List Nm) (x : Nm) : List P := srt ((raw rs ms x).map rsP)
theorem srt_rs {l : List Rs} (hl : l.length ≤ 100000) : bSorted [.lst (l.map rsP)] = some (.lst (srt (l.map rsP))) := by
  have := sorted_st (xss := l.map rsS) (fun xs hx x hxx => by
    obtain ⟨r, _, rfl⟩ := List.mem_map.mp hx
    exact ((rsS_ok r).2.2 x hxx).1) (fun xs hx => by
    obtain ⟨r, _, rfl⟩ := List.mem_map.mp hx
    exact (rsS_ok r).1) (by simpa using hl)
  rw [List.map_map] at this
  exact this
structure MOk (rs : List Rw) (ms : List Nm) : Prop where
  sub : ∀ m ∈ ms, m ∈ nm rs
  nd : ms.Nodup
theorem MOk.len {rs : List Rw} {ms : List Nm} (h : WOk rs) (hm : MOk rs ms) : ms.length ≤ 500 := by
  have h1 : ms.length ≤ (nm rs).length := hm.nd.length_le_of_subset hm.sub
  unfold nm at h1
  rw [List.length_map] at h1
  have := h.len
  omega
theorem MOk.filter {rs : List Rw} {ms : List Nm} (hm : MOk rs ms) (q : Nm → Bool) : MOk rs (ms.filter q) := ⟨fun m h => hm.sub m (List.mem_filter.mp h).1, hm.nd.sublist List.filter_sublist⟩
theorem raw_len {rs : List Rw} {ms : List Nm} {x : Nm} (h : WOk rs) (hm : ms.length ≤ 1000) (hx : x ∈ nm rs) : (raw rs ms x).length ≤ 2000 := by
  have h1 := List.length_filter_le (fun m => decide (x ∈ (rowOf rs m).ne)) ms
  have h2 := List.length_filter_le (fun y => decide (y ∈ ms)) (rowOf rs x).se
  have h3 := h.se _ (rowOf_mem hx).1
  have h5 : (abil (rowOf rs x)).length ≤ 1 := by
    unfold abil
    split <;> simp
  unfold raw
  simp only [List.length_append, List.length_map]
  omega
theorem reasons_in {o : Ob} {T : Sto} {rs : List Rw} {ms : List Nm} {x : Nm} (h : WOk rs) (hl : ms.length ≤ 1000) (hm : ∀ m ∈ ms, m ∈ nm rs) (hx : x ∈ nm rs) : F_reasons_in [.v (wkP rs), .v (tN ms), .v (nP x)] (o :: T) = .ok (.v (.tup (RS rs ms x))) (o :: T) := by
  have hsl := h.se _ (rowOf_mem hx).1
  have hrl := raw_len h hl hx
  have h1 := List.length_filter_le (fun m => decide (x ∈ (rowOf rs m).ne)) ms
  have h2 := List.length_filter_le (fun y => decide (y ∈ ms)) (rowOf rs x).se
  have e1 : (if has "undo" (rowOf rs x).ab = true then ([] : List P) else [.tup [.str "ability"]]) = (abil (rowOf rs x)).map rsP := by
    unfold abil
    split <;> rfl
  have h5 : (abil (rowOf rs x)).length ≤ 1 := by
    unfold abil
    split <;> simp
  refine e_run ?_
  show (B_reasons_in [some (.v (wkP rs)), some (.v (tN ms)), some (.v (nP x)), none, none, none, none, none, none, none] _).F _
  unfold B_reasons_in
  refine s_Seq (s_SetE (rows_by h) e_gNm ?_)
  refine s_Seq (s_SetE (d := .v (rwP (rowOf rs x))) (by repeat' array_get_dec) (by repeat' array_get_dec) ?_)
  refine s_Seq (s_SetE (S1 := o :: (T ++ ([] ++ [.lst ((abil (rowOf rs x)).map rsP)]))) (d := .r (bx T 0)) (e1 ▸ e_iteB (ps := []) (qs := [.tup [.str "ability"]]) (by repeat' array_get_dec) (fun _ => by repeat' array_get_dec) (fun _ => by repeat' array_get_dec)) e_gNm ?_)
  repeat' (first | get_elem_tactic_extensible | array_get_dec)
  · refine (congrArg (fun l => bSorted [P.lst l]) ?_).trans (srt_rs (l := raw rs ms x) (by omega))
    unfold raw
    rw [List.map_append, List.map_append, List.map_map, List.map_map]
    rfl
  exact o_tuple
local macro_rules | `(tactic| array_get_dec) => `(tactic| first
  | (focus ((with_reducible (show F_reasons_in _ _ = _)); exact reasons_in (by assumption) (by first | assumption | omega) (by assumption) (by first | assumption | solve_by_elim))))
def free (rs : List Rw) (ms : List Nm) : List Nm := ms.filter fun m => decide (raw rs ms m = [])
end GA
namespace GA
open PySem PySem.Spec PyProof.Rows L2 DL
def fr (rs : List Rw) (kept L : List Nm) : List Nm := (free rs L).filter fun m => !decide (m ∈ kept)
abbrev wo (L : List Nm) (x : Nm) : List Nm := L.filter fun y => !decide (y = x)
def ordF (rs : List Rw) (kept : List Nm) : Nat → List Nm → List Nm
  | 0, _ => []
  | n + 1, L => match fr rs kept L with
    | [] => []
    | x :: _ => x :: ordF rs kept n (wo L x)
def ord (rs : List Rw) (kept ms : List Nm) : List Nm := ordF rs kept ms.length ms
end GA
namespace GA
open PySem PySem.Spec PyProof.Rows L2 DL
def leN (a b : Nm) : Bool := PySem.W.dataLe false pyOf (nP a) (nP b)
theorem leN_total (a b : Nm) : leN a b = true ∨ leN b a = true := Bool.or_eq_true_iff.mp (le_total (nP a) (nP b))
theorem leN_trans {a b c : Nm} (h1 : leN a b = true) (h2 : leN b c = true) : leN a c = true := le_trans _ _ _ h1 h2
theorem leN_anti {a b : Nm} (h1 : leN a b = true) (h2 : leN b a = true) : a = b := nP_inj.mp (le_anti (pl_nm a).1 (pl_nm b).1 (by
  show PySem.W.alike (PyData.str a.s) (PyData.str b.s) = true
  simp [PySem.W.alike]) h1 h2)
structure Asc (xs : List Nm) : Prop where
  le : xs.Pairwise fun a b => leN a b = true
  nd : xs.Nodup
theorem Asc.nil : Asc [] := ⟨List.Pairwise.nil, List.nodup_nil⟩
theorem Asc.tail {x : Nm} {xs : List Nm} (h : Asc (x :: xs)) : Asc xs := ⟨(List.pairwise_cons.mp h.le).2, (List.nodup_cons.mp h.nd).2⟩
theorem Asc.head {x : Nm} {xs : List Nm} (h : Asc (x :: xs)) : ∀ y ∈ xs, leN x y = true := (List.pairwise_cons.mp h.le).1
theorem Asc.sub {xs ys : List Nm} (h : Asc ys) (hs : xs.Sublist ys) : Asc xs := ⟨h.le.sublist hs, h.nd.sublist hs⟩
theorem asc_sub : ∀ {ys xs : List Nm}, Asc xs → Asc ys → (∀ x ∈ xs, x ∈ ys) → xs.Sublist ys
  | [], xs, _, _, h => by
    have : xs = [] := List.eq_nil_iff_forall_not_mem.mpr fun x hx => by cases h x hx
    rw [this]
    exact List.Sublist.refl _
  | y :: ys, [], _, _, _ => List.nil_sublist _
  | y :: ys, x :: xs, hx, hy, h => by
    by_cases e : x = y
    · subst e
      refine (asc_sub hx.tail hy.tail fun z hz => ?_).cons_cons x
      rcases List.mem_cons.mp (h z (List.mem_cons_of_mem _ hz)) with rfl | h2
      · exact absurd hz (List.nodup_cons.mp hx.nd).1
      · exact h2
    · have h1 : x ∈ ys := by
        rcases List.mem_cons.mp (h x (List.mem_cons_self ..)) with e2 | h2
        · exact absurd e2 e
        · exact h2
      refine (asc_sub hx hy.tail fun z hz => ?_).cons y
      rcases List.mem_cons.mp (h z hz) with e2 | h2
      · subst e2
        rcases List.mem_cons.mp hz with e3 | h3
        · exact absurd e3.symm e
        · exact absurd (leN_anti (hx.head _ h3) (hy.head _ h1)) e
      · exact h2
theorem asc_eq {xs ys : List Nm} (hx : Asc xs) (hy : Asc ys) (h : ∀ x, x ∈ xs ↔ x ∈ ys) : xs = ys := (asc_sub hx hy fun x => (h x).mp).eq_of_length_le (asc_sub hy hx fun x => (h x).mpr).length_le
theorem so_asc (xs : List Nm) : Asc (so xs) := ⟨List.pairwise_map.mp (so_ex xs).choose_spec.2.2.2, so_nd xs⟩
theorem toPys_nm (xs : List Nm) : toPys (xs.map nP) = some (xs.map fun x => PyData.str x.s) := by
  have := toPys_strs (xs.map (·.s))
  rw [List.map_map, List.map_map] at this
  exact this
theorem py_rw (r : Rw) : pyOf (rwP r) = .tuple [.str r.x.s, .tuple (r.ne.map fun x => .str x.s), .tuple (r.se.map fun x => .str x.s), .tuple (r.ab.map fun x => .str x.s)] := by
  unfold pyOf
  simp [toPy, toPys, toPys_nm, nP]
theorem pl_rw (r : Rw) : Pl 2 (rwP r) := pl_tup fun q hq => by
  simp only [List.mem_cons, List.not_mem_nil, or_false] at hq
  rcases hq with rfl | rfl | rfl | rfl
  · exact (pl_nm _).mono (by decide)
  · exact pl_tN _
  · exact pl_tN _
  · exact pl_tN _
theorem alike_nms (xs ys : List Nm) : PySem.W.alikeAll (xs.map fun x => PyData.str x.s) (ys.map fun x => PyData.str x.s) = true := by
  have := alike_strs (xs.map (·.s)) (ys.map (·.s))
  rw [List.map_map, List.map_map] at this
  exact this
theorem alike_rw (r q : Rw) : PySem.W.alike (pyOf (rwP r)) (pyOf (rwP q)) = true := by
  rw [py_rw, py_rw]
  simp [PySem.W.alike, PySem.W.alikeAll, alike_nms]
theorem lt_nm {a b : Nm} : PySem.W.dataLt (pyOf (nP a)) (pyOf (nP b)) = PyProof.Rows.lexLt itemOrd [.inr a.s.cps.toList] [.inr b.s.cps.toList] := rfl
theorem row_le {r q : Rw} (h : r.x ≠ q.x) : PySem.W.dataLe false pyOf (rwP r) (rwP q) = leN r.x q.x := by
  have hc : (Sum.inr q.x.s.cps.toList : Int ⊕ List Nat) ≠ .inr r.x.s.cps.toList := fun e => h (Nm.inj (PySem.W.str_of_cps (Sum.inr.inj e))).symm
  show (!PySem.W.dataLt (pyOf (rwP q)) (pyOf (rwP r))) = !PySem.W.dataLt (pyOf (nP q.x)) (pyOf (nP r.x))
  congr 1
  rw [lt_nm, py_rw, py_rw, PySem.W.dataLt_tuple]
  show PyProof.Rows.lexLt itemOrd (.inl 1 :: (.inr q.x.s.cps.toList :: _)) (.inl 1 :: (.inr r.x.s.cps.toList :: _)) = _
  rw [PyProof.Rows.lex_self (O := itemOrd)]
  exact PySem.W.lex_atom hc _ _
theorem srt_rows {rows : List Rw} (hl : rows.length ≤ 100000) (hn : (nm rows).Nodup) : ∃ rs : List Rw, bSorted [.lst (rows.map rwP)] = some (.lst (rs.map rwP)) ∧ rs.Perm rows ∧ Asc (nm rs) := by
  have hm : (rows.mergeSort fun a b => PySem.W.dataLe false pyOf (rwP a) (rwP b)).map rwP = srt (rows.map rwP) := List.map_mergeSort fun _ _ _ _ => rfl
  have hp : (rows.mergeSort fun a b => PySem.W.dataLe false pyOf (rwP a) (rwP b)).Perm rows := List.mergeSort_perm _ _
  have hs : (rows.mergeSort fun a b => PySem.W.dataLe false pyOf (rwP a) (rwP b)).Pairwise fun a b => PySem.W.dataLe false pyOf (rwP a) (rwP b) = true := List.pairwise_mergeSort (le := fun a b => PySem.W.dataLe false pyOf (rwP a) (rwP b)) (fun a b c => le_trans (rwP a) (rwP b) (rwP c)) (fun a b => le_total (rwP a) (rwP b)) rows
  generalize (rows.mergeSort fun a b => PySem.W.dataLe false pyOf (rwP a) (rwP b)) = rs at hm hp hs
  have hn2 : (nm rs).Nodup := by
    unfold nm at hn ⊢
    exact (hp.map (·.x)).nodup_iff.mpr hn
  refine ⟨rs, ?_, hp, ?_, hn2⟩
  · rw [hm]
    refine sorted_of (pyAll_of fun p hp => ?_) ?_ ?_ (by simpa using hl) ?_
    · obtain ⟨r, _, rfl⟩ := List.mem_map.mp hp
      exact (pl_rw r).1
    · unfold alikeB
      simp only [List.all_eq_true, List.mem_map]
      rintro _ ⟨_, ⟨p, _, rfl⟩, rfl⟩ _ ⟨_, ⟨q, _, rfl⟩, rfl⟩
      exact alike_rw p q
    · unfold sortableB
      rw [Bool.or_eq_true]
      left
      simp only [List.all_eq_true, List.mem_map]
      rintro _ ⟨_, ⟨p, _, rfl⟩, rfl⟩
      rw [py_rw]
    · simp only [List.mem_map]
      rintro _ ⟨_, ⟨p, _, rfl⟩, rfl⟩
      obtain ⟨d, h1, h2, h3⟩ := pl_py (rwP p) (pl_rw p).1
      have : pyOf (rwP p) = d := by
        unfold pyOf
        rw [h1]
        rfl
      rw [this, h3]
      exact Nat.le_trans (pl_rw p).2 (by decide)
  · unfold nm at hn2 ⊢
    rw [List.pairwise_map]
    have hn3 := List.pairwise_map.mp hn2
    refine (hs.and hn3).imp fun {a b} h => ?_
    rw [← row_le h.2]
    exact h.1
end GA
namespace GA
open PySem PySem.Spec PyProof.Rows L2 DL
def asort (xs : List Nm) : List Nm := xs.mergeSort leN
theorem asort_map (xs : List Nm) : (asort xs).map nP = srt (xs.map nP) := List.map_mergeSort fun _ _ _ _ => rfl
theorem asort_perm (xs : List Nm) : (asort xs).Perm xs := List.mergeSort_perm _ _
theorem asort_mem {xs : List Nm} {x : Nm} : x ∈ asort xs ↔ x ∈ xs := (asort_perm xs).mem_iff
theorem asort_le (xs : List Nm) : (asort xs).Pairwise fun a b => leN a b = true := List.pairwise_mergeSort (le := leN) (fun a b c => leN_trans) (fun a b => Bool.or_eq_true_iff.mpr (leN_total a b)) xs
theorem asort_asc {xs : List Nm} (h : xs.Nodup) : Asc (asort xs) := ⟨asort_le xs, (asort_perm xs).nodup_iff.mpr h⟩
theorem cmp_nm (xs : List Nm) : Cmp (xs.map nP) := by
  have := cmp_strs (ks := xs.map (·.s)) fun k hk => by
    obtain ⟨x, _, rfl⟩ := List.mem_map.mp hk
    exact x.ok.1
  rwa [← strs_nm] at this
theorem asort_eq {xs ys : List Nm} (h : xs.Perm ys) : asort xs = asort ys := by
  refine nP_map.mp ?_
  rw [asort_map, asort_map]
  exact srt_eq (h.map nP) (cmp_nm xs)
theorem asort_of {xs : List Nm} (h : Asc xs) : asort xs = xs := asc_eq (asort_asc h.nd) h fun _ => asort_mem
theorem asort_is {xs ys : List Nm} (h : xs.Perm ys) (ha : Asc ys) : asort xs = ys := (asort_eq h).trans (asort_of ha)
theorem o_sortL {xs : List Nm} (hl : xs.length ≤ 100000) : bSorted [lN xs] = some (lN (asort xs)) := by
  obtain ⟨ys, h1, _⟩ := sorted_strs (xs := xs.map (·.s)) (by simpa using hl)
  have e : bSorted [lN xs] = some (.lst (srt (xs.map nP))) := by
    refine sorted_of (toPys_nm xs) ?_ ?_ (by simpa using hl) ?_
    · unfold alikeB
      simp only [List.all_eq_true, List.mem_map]
      rintro _ ⟨x, _, rfl⟩ _ ⟨y, _, rfl⟩
      simp [PySem.W.alike]
    · unfold sortableB
      rw [Bool.or_eq_true]
      right
      simp only [List.all_eq_true, List.mem_map]
      rintro _ ⟨x, _, rfl⟩
      rfl
    · simp only [List.mem_map]
      rintro _ ⟨x, _, rfl⟩
      exact Nat.zero_le _
  rw [e, ← asort_map]
theorem o_sortT {xs : List Nm} (hl : xs.length ≤ 100000) : bSorted [tN xs] = some (lN (asort xs)) := o_sortL hl
theorem tN_st (xs : List Nm) : tN xs = stP (xs.map (·.s)) := by
  unfold stP
  rw [List.map_map]
  rfl
theorem tNs_st (xss : List (List Nm)) : xss.map tN = (xss.map fun xs => xs.map (·.s)).map stP := by
  rw [List.map_map]
  exact List.map_congr_left fun xs _ => tN_st xs
theorem ok_nms {xss : List (List Nm)} : ∀ xs ∈ (xss.map fun xs => xs.map (·.s)), ∀ x ∈ xs, PyData.strOk x = true := fun xs h x hx => by
  obtain ⟨ys, _, rfl⟩ := List.mem_map.mp h
  obtain ⟨y, _, rfl⟩ := List.mem_map.mp hx
  exact y.ok.1
theorem cmp_tN (xss : List (List Nm)) : Cmp (xss.map tN) := by
  rw [tNs_st]
  exact cmp_st ok_nms
def leT (a b : List Nm) : Bool := PySem.W.dataLe false pyOf (tN a) (tN b)
end GA
namespace GM
open PySem PySem.Spec PyProof.Rows L2 DL GA
theorem bools_map {α : Type} {f : α → Bool} : ∀ xs : List α, bools (xs.map fun x => P.bl (f x)) = some (xs.map f)
  | [] => rfl
  | x :: xs => by
    show (bools (xs.map fun x => P.bl (f x))).map (f x :: ·) = _
    rw [bools_map xs]
    rfl
theorem o_all {α : Type} {f : α → Bool} {xs : List α} : bAll [.lst (xs.map fun x => P.bl (f x))] = some (.bl (xs.all f)) := by
  show (bools _).map _ = _
  rw [bools_map, Option.map_some, List.all_map]
  rfl
end GM
namespace GO
open PySem PySem.Spec PyProof.Rows L2 DL GA
def av (rs : List Rw) (ms f : List Nm) (x : Nm) : Bool := !decide (x ∈ f) && (rowOf rs x).ne.all fun y => decide (y ∈ f) || !decide (y ∈ ms)
def stepG (rs : List Rw) (ms f : List Nm) : List Nm := match ms.find? (av rs ms f) with
  | some x => f ++ [x]
  | none => f
def gr (rs : List Rw) (ms : List Nm) : Nat → List Nm
  | 0 => []
  | n + 1 => stepG rs ms (gr rs ms n)
def nord (rs : List Rw) (ms : List Nm) : List Nm := gr rs ms ms.length
def Rank (rs : List Rw) : Prop := ∃ rk : Nm → Int, ∀ r ∈ rs, ∀ y ∈ r.ne, rk y < rk r.x
theorem av_iff {rs : List Rw} {ms f : List Nm} {x : Nm} : av rs ms f x = true ↔ x ∉ f ∧ ∀ y ∈ (rowOf rs x).ne, y ∈ f ∨ y ∉ ms := by
  unfold av
  simp
theorem ex_min {α : Type} (f : α → Int) : ∀ {l : List α}, l ≠ [] → ∃ a ∈ l, ∀ b ∈ l, f a ≤ f b
  | [], h => absurd rfl h
  | [a], _ => ⟨a, by simp, fun b hb => by rw [List.mem_singleton.mp hb]; exact Int.le_refl _⟩
  | a :: b :: l, _ => by
    obtain ⟨c, hc, hm⟩ := ex_min f (l := b :: l) (by simp)
    by_cases h : f a ≤ f c
    · exact ⟨a, by simp, fun d hd => by
        rcases List.mem_cons.mp hd with rfl | hd
        · exact Int.le_refl _
        · exact Int.le_trans h (hm d hd)⟩
    · exact ⟨c, List.mem_cons_of_mem _ hc, fun d hd => by
        rcases List.mem_cons.mp hd with rfl | hd
        · omega
        · exact hm d hd⟩
section
variable {rs : List Rw} {ms : List Nm}
theorem av_ex (hr : Rank rs) (hm : MOk rs ms) {f : List Nm} (hl : f.length < ms.length) : ∃ x, ms.find? (av rs ms f) = some x := by
  obtain ⟨rk, hrk⟩ := hr
  have hne : ms.filter (fun x => !decide (x ∈ f)) ≠ [] := fun e => by
    have h1 : ∀ x ∈ ms, x ∈ f := fun x hx => by
      have := List.filter_eq_nil_iff.mp e x hx
      simpa using this
    have h2 := hm.nd.length_le_of_subset h1
    omega
  obtain ⟨x, hx, hmin⟩ := ex_min rk hne
  obtain ⟨hx1, hx2⟩ := List.mem_filter.mp hx
  have hav : av rs ms f x = true := av_iff.mpr ⟨by simpa using hx2, fun y hy => by
    by_cases h1 : y ∈ f
    · exact .inl h1
    · refine .inr fun h2 => ?_
      have h3 := hmin y (List.mem_filter.mpr ⟨h2, by simpa using h1⟩)
      obtain ⟨r1, r2⟩ := rowOf_mem (hm.sub x hx1)
      have h4 := hrk _ r1 y hy
      rw [r2] at h4
      omega⟩
  cases hf : ms.find? (av rs ms f) with
  | some y => exact ⟨y, rfl⟩
  | none => exact absurd hav (by simpa using List.find?_eq_none.mp hf x hx1)
theorem gr_ok (hr : Rank rs) (hm : MOk rs ms) : ∀ n, n ≤ ms.length → (gr rs ms n).Nodup ∧ (∀ x ∈ gr rs ms n, x ∈ ms) ∧ (gr rs ms n).length = n
  | 0, _ => ⟨List.nodup_nil, (fun _ h => nomatch h), rfl⟩
  | n + 1, h => by
    obtain ⟨h1, h2, h3⟩ := gr_ok hr hm n (by omega)
    obtain ⟨x, hx⟩ := av_ex hr hm (f := gr rs ms n) (by omega)
    have e : gr rs ms (n + 1) = gr rs ms n ++ [x] := by
      show stepG rs ms (gr rs ms n) = _
      unfold stepG
      rw [hx]
    have hxm := List.mem_of_find?_eq_some hx
    have hxa := av_iff.mp (List.find?_some hx)
    rw [e]
    refine ⟨?_, fun y hy => ?_, by simp [h3]⟩
    · rw [List.nodup_append]
      exact ⟨h1, by simp, fun a ha b hb e => hxa.1 (by
        have : b = x := by simpa using hb
        rw [← this, ← e]
        exact ha)⟩
    · rcases List.mem_append.mp hy with hy | hy
      · exact h2 y hy
      · rw [List.mem_singleton.mp hy]
        exact hxm
theorem gr_step (hr : Rank rs) (hm : MOk rs ms) {n : Nat} (h : n < ms.length) : ∃ x, ms.find? (av rs ms (gr rs ms n)) = some x ∧ gr rs ms (n + 1) = gr rs ms n ++ [x] := by
  have h3 := (gr_ok hr hm n (by omega)).2.2
  obtain ⟨x, hx⟩ := av_ex hr hm (f := gr rs ms n) (by omega)
  refine ⟨x, hx, ?_⟩
  show stepG rs ms (gr rs ms n) = _
  unfold stepG
  rw [hx]
theorem gr_take (hr : Rank rs) (hm : MOk rs ms) : ∀ (d n : Nat), n + d ≤ ms.length → (gr rs ms (n + d)).take n = gr rs ms n
  | 0, n, h => by
    have := (gr_ok hr hm n (by omega)).2.2
    rw [Nat.add_zero, List.take_of_length_le (by omega)]
  | d + 1, n, h => by
    obtain ⟨x, _, e⟩ := gr_step hr hm (n := n + d) (by omega)
    have h3 := (gr_ok hr hm (n + d) (by omega)).2.2
    show (gr rs ms (n + d + 1)).take n = _
    rw [e, List.take_append_of_le_length (by omega)]
    exact gr_take hr hm d n (by omega)
theorem nord_take (hr : Rank rs) (hm : MOk rs ms) {n : Nat} (h : n ≤ ms.length) : (nord rs ms).take n = gr rs ms n := by
  have := gr_take hr hm (ms.length - n) n (by omega)
  rw [show n + (ms.length - n) = ms.length by omega] at this
  exact this
theorem nord_len (hr : Rank rs) (hm : MOk rs ms) : (nord rs ms).length = ms.length := (gr_ok hr hm _ (Nat.le_refl _)).2.2
theorem nord_nd (hr : Rank rs) (hm : MOk rs ms) : (nord rs ms).Nodup := (gr_ok hr hm _ (Nat.le_refl _)).1
theorem nord_mem (hr : Rank rs) (hm : MOk rs ms) {x : Nm} : x ∈ nord rs ms ↔ x ∈ ms := by
  obtain ⟨h1, h2, h3⟩ := gr_ok hr hm ms.length (Nat.le_refl _)
  refine ⟨h2 x, fun hx => ?_⟩
  by_cases hk : x ∈ nord rs ms
  · exact hk
  · have h4 : (x :: nord rs ms).Nodup := List.nodup_cons.mpr ⟨hk, h1⟩
    have h5 := h4.length_le_of_subset (l₂ := ms) fun y hy => by
      rcases List.mem_cons.mp hy with rfl | hy
      · exact hx
      · exact h2 y hy
    have h6 : (nord rs ms).length = ms.length := h3
    rw [List.length_cons] at h5
    omega
theorem nord_at (hr : Rank rs) (hm : MOk rs ms) {k : Nat} {x : Nm} (h : (nord rs ms)[k]? = some x) : ms.find? (av rs ms (gr rs ms k)) = some x := by
  have hk := lt_of_at h
  rw [nord_len hr hm] at hk
  obtain ⟨y, hy, e⟩ := gr_step hr hm hk
  have h3 := (gr_ok hr hm k (by omega)).2.2
  have e2 := nord_take hr hm (n := k + 1) (by omega)
  have e3 : ((nord rs ms).take (k + 1))[k]? = some x := by rw [List.getElem?_take, if_pos (by omega), h]
  rw [e2, e, List.getElem?_append_right (by omega), h3, Nat.sub_self] at e3
  have : y = x := by simpa using e3
  rw [← this]
  exact hy
theorem find_le {xs : List Nm} {p : Nm → Bool} (ha : Asc xs) : ∀ {x y : Nm}, xs.find? p = some x → y ∈ xs → p y = true → leN x y = true := by
  induction xs with
  | nil => intro x y h; cases h
  | cons z xs ih =>
    intro x y h hy hp
    rw [List.find?_cons] at h
    cases hz : p z with
    | true =>
      rw [hz] at h
      have h1 : z = x := by simpa using h
      subst h1
      rcases List.mem_cons.mp hy with rfl | hy
      · rcases leN_total y y with h | h <;> exact h
      · exact ha.head y hy
    | false =>
      rw [hz] at h
      rcases List.mem_cons.mp hy with rfl | hy
      · rw [hz] at hp; cases hp
      · exact ih ha.tail h hy hp
theorem nord_pre (hr : Rank rs) (hm : MOk rs ms) {k : Nat} {x y : Nm} (h : (nord rs ms)[k]? = some x) (hy : y ∈ (rowOf rs x).ne) (hym : y ∈ ms) : y ∈ (nord rs ms).take k := by
  have hk := lt_of_at h
  rw [nord_len hr hm] at hk
  rw [nord_take hr hm (by omega)]
  have := (av_iff.mp (List.find?_some (nord_at hr hm h))).2 y hy
  rcases this with h1 | h1
  · exact h1
  · exact absurd hym h1
end
theorem find_at {xs : List Nm} {p : Nm → Bool} {i : Nat} {x : Nm} (h : ∀ y ∈ xs.take i, p y = false) (hx : xs[i]? = some x) (hp : p x = true) : xs.find? p = some x := by
  have hi := lt_of_at hx
  have e : xs = xs.take i ++ x :: xs.drop (i + 1) := by
    rw [List.getElem?_eq_getElem hi] at hx
    cases hx
    rw [List.getElem_cons_drop, List.take_append_drop]
  rw [e, List.find?_append, List.find?_eq_none.mpr (fun y hy => by simp [h y hy]), Option.none_or, List.find?_cons, hp]
theorem o_ltI {i j : Int} : pLt (.int i) (.int j) = some (.bl (decide (i < j))) := rfl
end GO
namespace MN
open PySem PySem.Spec PyProof.Rows L2 DL
variable [Tb]
def minP (x : P) (xs : List P) : P := xs.foldl (fun a y => if PySem.W.dataLt (pyOf y) (pyOf a) = true then y else a) x
theorem minD_minP (x : P) : ∀ xs : List P, PySem.W.minD (pyOf x) (xs.map pyOf) = pyOf (minP x xs) := fun xs => by
  unfold PySem.W.minD minP
  induction xs generalizing x with
  | nil => rfl
  | cons y ys ih =>
    rw [List.map_cons, List.foldl_cons, List.foldl_cons, ← ih]
    congr 1
    split <;> rfl
theorem minP_mem (x : P) : ∀ xs : List P, minP x xs ∈ x :: xs := fun xs => by
  unfold minP
  induction xs generalizing x with
  | nil => exact List.mem_cons_self ..
  | cons y ys ih =>
    rw [List.foldl_cons]
    split
    · exact List.mem_cons_of_mem _ (ih y)
    · rcases List.mem_cons.mp (ih x) with h | h
      · rw [h]; exact List.mem_cons_self ..
      · exact List.mem_cons_of_mem _ (List.mem_cons_of_mem _ h)
theorem le_refl (p : P) : PySem.W.dataLe false pyOf p p = true := (Bool.or_self _).symm.trans (le_total p p)
theorem le_lt (a b : P) : PySem.W.dataLe false pyOf a b = !PySem.W.dataLt (pyOf b) (pyOf a) := by
  rw [PySem.W.dataLe_eq]
  rfl
theorem minP_le (x : P) : ∀ xs : List P, ∀ y ∈ x :: xs, PySem.W.dataLe false pyOf (minP x xs) y = true := fun xs => by
  unfold minP
  induction xs generalizing x with
  | nil =>
    intro y hy
    rw [List.mem_singleton.mp hy]
    exact le_refl x
  | cons z zs ih =>
    intro y hy
    rw [List.foldl_cons]
    split
    · rename_i h
      have hzx : PySem.W.dataLe false pyOf z x = true := by
        have := le_total z x
        rw [le_lt x z, h, Bool.not_true, Bool.or_false] at this
        exact this
      rcases List.mem_cons.mp hy with rfl | hy
      · exact le_trans _ _ _ (ih z z (List.mem_cons_self ..)) hzx
      · exact ih z y hy
    · rename_i h
      have hxz : PySem.W.dataLe false pyOf x z = true := by
        rw [le_lt, Bool.not_eq_true']
        exact Bool.eq_false_iff.mpr h
      rcases List.mem_cons.mp hy with rfl | hy
      · exact ih y y (List.mem_cons_self ..)
      · rcases List.mem_cons.mp hy with rfl | hy
        · exact le_trans _ _ _ (ih x x (List.mem_cons_self ..)) hxz
        · exact ih x y (List.mem_cons_of_mem _ hy)
theorem minP_is {x : P} {xs : List P} (hc : Cmp (x :: xs)) {m : P} (hm : m ∈ x :: xs) (h : ∀ y ∈ x :: xs, PySem.W.dataLe false pyOf m y = true) : minP x xs = m := by
  have h1 := minP_mem x xs
  exact le_anti (hc.1 _ h1) (hc.1 _ hm) (hc.2 _ h1 _ hm) (minP_le x xs m hm) (h _ h1)
def someD : PyData → Bool
  | .none => false
  | _ => true
def bMin1 : List P → Option P
  | [.lst (x :: xs)] => if ((x :: xs).all pl) = true ∧ alikeB ((x :: xs).map pyOf) = true ∧ (((x :: xs).map pyOf).all fun d => decide (d.depth ≤ 64)) = true ∧ (((x :: xs).map pyOf).all someD) = true then some (minP x xs) else none
  | [.tup (x :: xs)] => if ((x :: xs).all pl) = true ∧ alikeB ((x :: xs).map pyOf) = true ∧ (((x :: xs).map pyOf).all fun d => decide (d.depth ≤ 64)) = true ∧ (((x :: xs).map pyOf).all someD) = true then some (minP x xs) else none
  | _ => none
theorem bMin1_tup (ps : List P) : bMin1 [.tup ps] = bMin1 [.lst ps] := by cases ps <;> rfl
theorem depthAll_le {n : Nat} : ∀ {ds : List PyData}, (∀ d ∈ ds, d.depth ≤ n) → PyData.depthAll ds ≤ n
  | [], _ => Nat.zero_le _
  | d :: ds, h => by
    show max d.depth (PyData.depthAll ds) ≤ n
    exact Nat.max_le.mpr ⟨h d (List.mem_cons_self ..), depthAll_le fun e he => h e (List.mem_cons_of_mem _ he)⟩
def rMin1 (K : PySem.W.Frag) : List V → Hp → VK → Prop := fun xs H Q => ∃ a ys m ps u, xs = [.ref a] ∧ (SqL K H a ys ∨ SqT K H a ys) ∧ IsAll K (mask m H) ps ys ∧ bMin1 [.lst ps] = some u ∧ ∀ v, Is K (mask m H) u v → Q v H
theorem isAll_at {K : PySem.W.Frag} {G : Hp} : ∀ {ps : List P} {vs : List V} {i : Nat} {v : V}, IsAll K G ps vs → vs[i]? = some v → ∃ p, ps[i]? = some p ∧ Is K G p v
  | [], _, _, _, h, e => by
    have h' : _ = [] := h
    subst h'
    simp at e
  | p :: ps, _, 0, v, ⟨x, xs, h1, h2, h3⟩, e => by
    subst h1
    cases e
    exact ⟨p, rfl, h2⟩
  | p :: ps, _, i + 1, v, ⟨x, xs, h1, h2, h3⟩, e => by
    subst h1
    have e' : xs[i]? = some v := e
    obtain ⟨q, h4, h5⟩ := isAll_at (ps := ps) h3 e'
    exact ⟨q, h4, h5⟩
theorem cr_min1 {X : Cx} (hc : X.calm = true) (hX : SX X) : CallR X (.builtin "min") (rMin1 X.K) := by
  intro pins s σ H vs us Q I r h
  obtain ⟨a, ys, m, ps, u, rfl, hs, hi, hb, q⟩ := h
  obtain ⟨its, rv, hl, hz⟩ : ∃ its : List Value, Vals ys its ∧ (PlainL s.heap a its.toArray ∨ IsTup s.heap a its.toArray) ∧ ys.length ≤ sizeLine := by
    rcases hs with hs | hs
    · obtain ⟨its, rv, hl, hz⟩ := I.list hs
      exact ⟨its, rv, .inl hl, hz⟩
    · obtain ⟨its, rv, hl, hz⟩ := I.tuple hs
      exact ⟨its, rv, .inr hl, hz⟩
  rw [Vals.ref1 r]
  unfold bMin1 at hb
  split at hb
  · rename_i x xs hxs
    injection hxs with hxs _
    injection hxs with hxs
    subst hxs
    split at hb
    · rename_i hcd
      obtain ⟨c1, c2, c3, c4⟩ := hcd
      cases hb
      have hpl : ∀ p ∈ x :: xs, pl p = true := List.all_eq_true.mp c1
      have he := each_of hi rv
      obtain ⟨as, hr⟩ := PySem.W.each_readsAll pyOf (each_reads I (fun p hp => py_of (hpl p hp)) he)
      have hal := alike_of c2
      have hu := hX.units
      have hd : PyData.depthAll ((x :: xs).map pyOf) ≤ 64 := depthAll_le fun d hd => of_decide_eq_true (List.all_eq_true.mp c3 d hd)
      have hA : PySem.W.AlikeAll (pyOf x :: xs.map pyOf) := ⟨fun d hd e he => hal d hd e he, fun d hd e => by
        have := List.all_eq_true.mp c4 d hd
        rw [e] at this
        cases this⟩
      have hdd : X.A.units + 1 + PyData.depthAll (pyOf x :: xs.map pyOf) < cLine := by
        have : PyData.depthAll (pyOf x :: xs.map pyOf) ≤ 64 := hd
        omega
      have fin : ∀ (i : Nat) (v : Value) (h' : Heap) tk bs, its.toArray[i]? = some v → Reads h' v (PySem.W.minD (pyOf x) (xs.map pyOf)) bs → (∀ b o, s.heap.get? b = some o → h'.get? b = some o) → EP X pins σ Q v { s with heap := h', toks := tk } := fun i v h' tk bs hv rd k => by
        have hv' : its[i]? = some v := by simpa using hv
        rw [minD_minP] at rd
        obtain ⟨y, hy, ry⟩ : ∃ y, ys[i]? = some y ∧ RelV y v := by
          have hlt : i < ys.length := by
            rw [rv.length]
            exact (List.getElem?_eq_some_iff.mp hv').1
          obtain ⟨u, hu1, hu2⟩ := Vals.get rv (List.getElem?_eq_getElem hlt)
          rw [hu1] at hv'
          cases hv'
          exact ⟨_, List.getElem?_eq_getElem hlt, hu2⟩
        obtain ⟨p, hp, ip⟩ := isAll_at hi hy
        have hpm := List.mem_of_getElem? hp
        have I2 : Inv X pins σ H { s with heap := h', toks := tk } := I.kept k
        have rd2 : ∃ bs, Reads h' v (pyOf p) bs := by
          obtain ⟨as2, r2⟩ := Dp.reads I _ y _ (Is.dp _ y _ (Is.mono (mask_ex m H) _ _ ip) (py_of (hpl p hpm))) ry
          exact ⟨as2, PyProof.Rows.Reads.keeps k r2⟩
        obtain ⟨bs2, rd2⟩ := rd2
        have hl0 : (pyOf p).canLay0 = true := by
          obtain ⟨d, d1, d2, _⟩ := pl_py p (hpl p hpm)
          have : pyOf p = d := by unfold pyOf; rw [d1]; rfl
          rw [this]; exact d2
        have eq : pyOf p = pyOf (minP x xs) := PySem.SeqAt.Reads.unique _ _ _ _ _ hl0 rd2 rd
        have hmm := minP_mem x xs
        have e1 : PySem.W.dataLe false pyOf p (minP x xs) = true := by
          rw [le_lt, eq, ← le_lt (minP x xs) (minP x xs)]
          exact le_refl _
        have e2 : PySem.W.dataLe false pyOf (minP x xs) p = true := by
          rw [le_lt, eq, ← le_lt (minP x xs) (minP x xs)]
          exact le_refl _
        have epm : p = minP x xs := le_anti (hpl p hpm) (hpl _ hmm) (hal _ (List.mem_map_of_mem hpm) _ (List.mem_map_of_mem hmm)) e1 e2
        rw [← epm] at q
        exact ⟨y, H, I2, ry, q y ip⟩
      rcases hl with hl | hl
      · exact PySem.W.min_list_data (x := pyOf x) (xs := xs.map pyOf) (I.ok.hd hc) hl.isList hr hA hdd fin
      · exact PySem.W.min_tuple_data (x := pyOf x) (xs := xs.map pyOf) (I.ok.hd hc) hl hr hA hdd fin
    · cases hb
  · rename_i x xs hxs
    injection hxs with hxs _
    injection hxs
  · cases hb
theorem on_min1 {K : PySem.W.Frag} : OpN K (rMin1 K) bMin1 := by
  intro m H S ps u xs Q R h e k
  have e0 := e
  unfold bMin1 at e
  split at e
  · obtain ⟨x, rfl, h0⟩ := h.one
    obtain ⟨a, ys, rfl, h1, h2⟩ := sq_r h0
    exact ⟨a, ys, m, _, u, rfl, .inl h1, h2, e0, fun v i => k v m H (Stp.refl m H) R i⟩
  · obtain ⟨x, rfl, h0⟩ := h.one
    obtain ⟨a, ys, rfl, h1, h2⟩ := sq_t h0
    rw [bMin1_tup] at e0
    exact ⟨a, ys, m, _, u, rfl, .inr h1, h2, e0, fun v i => k v m H (Stp.refl m H) R i⟩
  · cases e
theorem o_min {x : P} {xs : List P} (hc : Cmp (x :: xs)) (hd : ∀ p ∈ x :: xs, (pyOf p).depth ≤ 64) (hs : ∀ p ∈ x :: xs, someD (pyOf p) = true) {m : P} (hm : m ∈ x :: xs) (h : ∀ y ∈ x :: xs, PySem.W.dataLe false pyOf m y = true) : bMin1 [.lst (x :: xs)] = some m := by
  have h1 : alikeB ((x :: xs).map pyOf) = true := by
    unfold alikeB
    rw [List.all_eq_true]
    intro d hd'
    rw [List.all_eq_true]
    intro e he
    obtain ⟨p, hp, rfl⟩ := List.mem_map.mp hd'
    obtain ⟨q, hq, rfl⟩ := List.mem_map.mp he
    exact hc.2 p hp q hq
  have h2 : (((x :: xs).map pyOf).all fun d => decide (d.depth ≤ 64)) = true := by
    rw [List.all_eq_true]
    intro d hd'
    obtain ⟨p, hp, rfl⟩ := List.mem_map.mp hd'
    exact decide_eq_true (hd p hp)
  have h3 : (((x :: xs).map pyOf).all someD) = true := by
    rw [List.all_eq_true]
    intro d hd'
    obtain ⟨p, hp, rfl⟩ := List.mem_map.mp hd'
    exact hs p hp
  show (if _ then _ else _ : Option P) = _
  rw [if_pos ⟨List.all_eq_true.mpr hc.1, h1, h2, h3⟩, minP_is hc hm h]
end MN
namespace DL
open PySem PySem.Spec PyProof.Rows L2
theorem put_hit {ks : List Key} {ps : List P} {k : Key} {p : P} {i : Nat} (hn : ks.Nodup) (h1 : ks[i]? = some k) (hl : ks.length = ps.length) : putP ks ps k p = (ks, ps.set i p) := by
  induction ks generalizing ps i with
  | nil => simp at h1
  | cons j ks ih =>
    cases ps with
    | nil => simp at hl
    | cons q ps =>
      obtain ⟨hn1, hn2⟩ := List.nodup_cons.mp hn
      cases i with
      | zero =>
        simp at h1
        subst h1
        unfold putP
        rw [if_pos rfl]
        rfl
      | succ i =>
        have h1' : ks[i]? = some k := by simpa using h1
        have hne : j ≠ k := fun e => hn1 (e ▸ List.mem_of_getElem? h1')
        unfold putP
        rw [if_neg hne, ih hn2 h1' (by simpa using hl)]
        rfl
theorem ix_at {ks : List Key} {ps : List P} {x : Str} {p : P} (i : Nat) (hn : ks.Nodup) (h1 : ks[i]? = some (.inr x)) (h2 : ps[i]? = some p) : pIx (.dic ks ps) (.str x) = some p := look_hit hn h1 h2
theorem sb_at {env : Dnv} {T : Sto} {Q : Dnv → Sto → Prop} {ks : List Key} {ps : List P} {x : Str} {p : P} (i : Nat) (hn : ks.Nodup) (h1 : ks[i]? = some (.inr x)) (hl : ks.length = ps.length) (h3 : ks.length < 10000) (q : Q env (.dic ks (ps.set i p) :: T)) :
    (sbE (.r 0) (.v (.str x)) (.v p) env (.dic ks ps :: T)).P Q := by
  refine p_sbD (ks := ks) (ps := ps) (k := .inr x) rfl rfl h3 ?_
  rw [put_hit hn h1 hl]
  exact q
def kB : List Key := [.inr "cells", .inr "at", .inr "left", .inr "count"]
theorem kB_nd : kB.Nodup := by decide +kernel
theorem kB_0 {a b c d : P} : pIx (.dic kB [a, b, c, d]) (.str "cells") = some a := ix_at 0 kB_nd rfl rfl
theorem kB_1 {a b c d : P} : pIx (.dic kB [a, b, c, d]) (.str "at") = some b := ix_at 1 kB_nd rfl rfl
theorem kB_2 {a b c d : P} : pIx (.dic kB [a, b, c, d]) (.str "left") = some c := ix_at 2 kB_nd rfl rfl
theorem kB_3 {a b c d : P} : pIx (.dic kB [a, b, c, d]) (.str "count") = some d := ix_at 3 kB_nd rfl rfl
section
variable {a b c d p : P} {env : Dnv} {T : Sto} {Q : Dnv → Sto → Prop}
theorem kB_s1 (q : Q env (.dic kB [a, p, c, d] :: T)) : (sbE (.r 0) (.v (.str "at")) (.v p) env (.dic kB [a, b, c, d] :: T)).P Q := sb_at 1 kB_nd rfl rfl (by decide) q
theorem kB_s2 (q : Q env (.dic kB [a, b, p, d] :: T)) : (sbE (.r 0) (.v (.str "left")) (.v p) env (.dic kB [a, b, c, d] :: T)).P Q := sb_at 2 kB_nd rfl rfl (by decide) q
theorem kB_s3 (q : Q env (.dic kB [a, b, c, p] :: T)) : (sbE (.r 0) (.v (.str "count")) (.v p) env (.dic kB [a, b, c, d] :: T)).P Q := sb_at 3 kB_nd rfl rfl (by decide) q
end
local macro_rules | `(tactic| trivial) => `(tactic| first
  | with_reducible refine s_Seq ?_
  | with_reducible refine s_Set ?_
  | with_reducible refine s_If ?_
  | with_reducible refine s_Drop ?_
  | with_reducible refine s_Ret ?_
  | with_reducible refine s_Par ?_
  | with_reducible refine s_For ?_
  | with_reducible refine s_Nx ?_
  | with_reducible refine p_f2 ?_
  | ((with_reducible apply p_var); (exact rfl))
  | with_reducible refine p_c ?_
  | with_reducible refine p_gNm ?_
  | with_reducible refine p_gSb ?_
  | with_reducible refine p_tru ?_
  | with_reducible refine p_and ?_
  | with_reducible refine p_or ?_
  | with_reducible refine p_not ?_
  | with_reducible refine p_yes ?_
  | with_reducible refine p_ite ?_
  | with_reducible refine p_cons ?_
  | with_reducible refine p_nil ?_
  | with_reducible refine p_cb ?_
  | with_reducible refine p_cbB ?_
  | with_reducible refine p_tup ?_
  | with_reducible refine p_lst ?_
  | with_reducible refine p_lstB ?_
  | with_reducible refine p_lc ?_
  | with_reducible refine p_dc ?_
  | with_reducible refine p_sl ?_
  | with_reducible refine p_oNo ?_
  | with_reducible refine c_oAt ?_
  | with_reducible refine c_atE ?_
  | ((with_reducible apply p_slE); (first | exact rfl | exact deP_bx rfl); (exact rfl))
  | with_reducible refine p_call ?_
  | with_reducible refine p_callN ?_
  | with_reducible refine s_ParE ?_
  | with_reducible refine c_iv ?_
  | with_reducible refine c_rg ?_
  | ((with_reducible apply c_mt); (exact rfl); (exact rfl))
  | with_reducible refine c_ret ?_
  | with_reducible refine p_closeV ?_
  | with_reducible refine p_closeK ?_
  | with_reducible refine ff ?_
  | with_reducible refine tt ?_
  | with_reducible refine nff ?_
  | with_reducible refine ntt ?_
  | with_reducible refine ndt (fun _ => ?_) (fun _ => ?_)
  | with_reducible refine dt (fun _ => ?_) (fun _ => ?_)
  | ((with_reducible apply p_l2); (first | exact rfl | exact deP_bx rfl); (first | exact rfl | exact deP_bx rfl); (first | assumption | exact rfl | exact mod_ok (by omega) | exact fdiv_ok (by omega) (by omega) | exact mul_ok (by omega) (by omega) | exact pow_ok (by omega) (by omega) (by omega)))
  | ((with_reducible apply p_truE); (first | exact rfl | exact deP_bx rfl); (exact rfl))
  | ((with_reducible apply p_cbE); (repeat (first | exact a_nil | (apply a_cons; first | exact rfl | exact deP_bx rfl))); (first | assumption | exact rfl))
  | ((with_reducible apply c_cbB); (repeat (first | exact a_nil | (apply a_cons; first | exact rfl | exact deP_bx rfl))); (first | assumption | exact rfl))
  | ((with_reducible apply p_lstE); (repeat (first | exact v_nil | apply v_cons)); (focus (show _ ≤ (100000 : Nat); first | decide | (simp; done) | (simp; omega))))
  | ((with_reducible apply p_tupE); (repeat (first | exact v_nil | apply v_cons)); (focus (show _ ≤ (100000 : Nat); first | decide | (simp; done) | (simp; omega))))
  | ((with_reducible apply c_lstB); (repeat (first | exact v_nil | apply v_cons)); (focus (show _ ≤ (100000 : Nat); first | decide | (simp; done) | (simp; omega))))
  | ((with_reducible apply c_ivE); (first | exact rfl | exact seq_bx rfl))
  | ((with_reducible apply p_sbL); (exact rfl); (exact rfl)))
local macro_rules | `(tactic| trivial) => `(tactic| first
  | ((with_reducible apply p_l2); (exact rfl); (exact rfl); (first | exact kB_0 | exact kB_1 | exact kB_2 | exact kB_3))
  | with_reducible refine kB_s1 ?_
  | with_reducible refine kB_s2 ?_
  | with_reducible refine kB_s3 ?_)
end DL
namespace DL
open PySem PySem.Spec PyProof.Rows L2
def kA : List Key := [.inr "cells", .inr "spot", .inr "rest", .inr "calls"]
theorem kA_nd : kA.Nodup := by decide +kernel
theorem kA_0 {a b c d : P} : pIx (.dic kA [a, b, c, d]) (.str "cells") = some a := ix_at 0 kA_nd rfl rfl
theorem kA_1 {a b c d : P} : pIx (.dic kA [a, b, c, d]) (.str "spot") = some b := ix_at 1 kA_nd rfl rfl
theorem kA_2 {a b c d : P} : pIx (.dic kA [a, b, c, d]) (.str "rest") = some c := ix_at 2 kA_nd rfl rfl
theorem kA_3 {a b c d : P} : pIx (.dic kA [a, b, c, d]) (.str "calls") = some d := ix_at 3 kA_nd rfl rfl
section
variable {a b c d p : P} {env : Dnv} {T : Sto} {Q : Dnv → Sto → Prop}
theorem kA_s1 (q : Q env (.dic kA [a, p, c, d] :: T)) : (sbE (.r 0) (.v (.str "spot")) (.v p) env (.dic kA [a, b, c, d] :: T)).P Q := sb_at 1 kA_nd rfl rfl (by decide) q
theorem kA_s2 (q : Q env (.dic kA [a, b, p, d] :: T)) : (sbE (.r 0) (.v (.str "rest")) (.v p) env (.dic kA [a, b, c, d] :: T)).P Q := sb_at 2 kA_nd rfl rfl (by decide) q
theorem kA_s3 (q : Q env (.dic kA [a, b, c, p] :: T)) : (sbE (.r 0) (.v (.str "calls")) (.v p) env (.dic kA [a, b, c, d] :: T)).P Q := sb_at 3 kA_nd rfl rfl (by decide) q
end
local macro_rules | `(tactic| trivial) => `(tactic| first
  | with_reducible refine s_Seq ?_
  | with_reducible refine s_Set ?_
  | with_reducible refine s_If ?_
  | with_reducible refine s_Drop ?_
  | with_reducible refine s_Ret ?_
  | with_reducible refine s_Par ?_
  | with_reducible refine s_For ?_
  | with_reducible refine s_Nx ?_
  | with_reducible refine p_f2 ?_
  | ((with_reducible apply p_var); (exact rfl))
  | with_reducible refine p_c ?_
  | with_reducible refine p_gNm ?_
  | with_reducible refine p_gSb ?_
  | with_reducible refine p_tru ?_
  | with_reducible refine p_and ?_
  | with_reducible refine p_or ?_
  | with_reducible refine p_not ?_
  | with_reducible refine p_yes ?_
  | with_reducible refine p_ite ?_
  | with_reducible refine p_cons ?_
  | with_reducible refine p_nil ?_
  | with_reducible refine p_cb ?_
  | with_reducible refine p_cbB ?_
  | with_reducible refine p_tup ?_
  | with_reducible refine p_lst ?_
  | with_reducible refine p_lstB ?_
  | with_reducible refine p_lc ?_
  | with_reducible refine p_dc ?_
  | with_reducible refine p_sl ?_
  | with_reducible refine p_oNo ?_
  | with_reducible refine c_oAt ?_
  | with_reducible refine c_atE ?_
  | ((with_reducible apply p_slE); (first | exact rfl | exact deP_bx rfl); (exact rfl))
  | with_reducible refine p_call ?_
  | with_reducible refine p_callN ?_
  | with_reducible refine s_ParE ?_
  | with_reducible refine c_iv ?_
  | with_reducible refine c_rg ?_
  | ((with_reducible apply c_mt); (exact rfl); (exact rfl))
  | with_reducible refine c_ret ?_
  | with_reducible refine p_closeV ?_
  | with_reducible refine p_closeK ?_
  | with_reducible refine ff ?_
  | with_reducible refine tt ?_
  | with_reducible refine nff ?_
  | with_reducible refine ntt ?_
  | with_reducible refine ndt (fun _ => ?_) (fun _ => ?_)
  | with_reducible refine dt (fun _ => ?_) (fun _ => ?_)
  | ((with_reducible apply p_l2); (first | exact rfl | exact deP_bx rfl); (first | exact rfl | exact deP_bx rfl); (first | assumption | exact rfl | exact mod_ok (by omega) | exact fdiv_ok (by omega) (by omega) | exact mul_ok (by omega) (by omega) | exact pow_ok (by omega) (by omega) (by omega)))
  | ((with_reducible apply p_truE); (first | exact rfl | exact deP_bx rfl); (exact rfl))
  | ((with_reducible apply p_cbE); (repeat (first | exact a_nil | (apply a_cons; first | exact rfl | exact deP_bx rfl))); (first | assumption | exact rfl))
  | ((with_reducible apply c_cbB); (repeat (first | exact a_nil | (apply a_cons; first | exact rfl | exact deP_bx rfl))); (first | assumption | exact rfl))
  | ((with_reducible apply p_lstE); (repeat (first | exact v_nil | apply v_cons)); (focus (show _ ≤ (100000 : Nat); first | decide | (simp; done) | (simp; omega))))
  | ((with_reducible apply p_tupE); (repeat (first | exact v_nil | apply v_cons)); (focus (show _ ≤ (100000 : Nat); first | decide | (simp; done) | (simp; omega))))
  | ((with_reducible apply c_lstB); (repeat (first | exact v_nil | apply v_cons)); (focus (show _ ≤ (100000 : Nat); first | decide | (simp; done) | (simp; omega))))
  | ((with_reducible apply c_ivE); (first | exact rfl | exact seq_bx rfl))
  | ((with_reducible apply p_sbL); (exact rfl); (exact rfl)))
local macro_rules | `(tactic| trivial) => `(tactic| first
  | ((with_reducible apply p_l2); (exact rfl); (exact rfl); (first | exact kA_0 | exact kA_1 | exact kA_2 | exact kA_3))
  | with_reducible refine kA_s1 ?_
  | with_reducible refine kA_s2 ?_
  | with_reducible refine kA_s3 ?_)
noncomputable def drawAB : FS :=
 (fSeq (fSet (f2 pAdd (f2 pIx (fVar 0) (fC (.v (.str "calls")))) (fC (.v (.int 1)))) (gNm 2))
 (fSeq (fSet (fVar 2) (gSb (fVar 0) (fC (.v (.str "calls")))))
 (fSeq (fIf (fTru (f2 pGt (f2 pIx (fVar 0) (fC (.v (.str "rest")))) (fC (.v (.int 0)))))
  (fSeq (fSet (f2 pMod (f2 pIx (fVar 0) (fC (.v (.str "rest")))) (fVar 1)) (gNm 3))
  (fSeq (fSet (f2 pFdiv (f2 pIx (fVar 0) (fC (.v (.str "rest")))) (fVar 1)) (gSb (fVar 0) (fC (.v (.str "rest")))))
  (fRet (fVar 3))))
  fNext)
 (fSeq (fSet (f2 pIx (fVar 0) (fC (.v (.str "spot")))) (gNm 4))
 (fSeq (fSet (f2 pAdd (fVar 4) (fC (.v (.int 1)))) (gSb (fVar 0) (fC (.v (.str "spot")))))
 (fSeq (fSet (f2 pIx (fVar 0) (fC (.v (.str "cells")))) (gNm 5))
 (fSeq (fSet (fIte (fTru (f2 pGt (fCb bLen (fCons (fVar 5) fNil)) (fC (.v (.int 0))))) (f2 pIx (fVar 5) (f2 pMod (fVar 4) (fCb bLen (fCons (fVar 5) fNil)))) (fC (.v (.int 11)))) (gNm 6))
 (fSeq (fIf (fAnd (fTru (f2 pLt (fVar 4) (fCb bLen (fCons (fVar 5) fNil)))) (fTru (f2 pGe (fVar 6) (f2 pPow (fC (.v (.int 10))) (fC (.v (.int 18)))))))
  (fSeq (fSet (f2 pFdiv (fVar 6) (fVar 1)) (gSb (fVar 0) (fC (.v (.str "rest")))))
  (fRet (f2 pMod (fVar 6) (fVar 1))))
  fNext)
 (fSeq (fSet (f2 pMod (f2 pPow (f2 pAdd (f2 pAdd (f2 pMod (fVar 6) (fC (.v (.int 2147483629)))) (f2 pMul (fC (.v (.int 6053))) (fVar 2))) (fC (.v (.int 31)))) (fC (.v (.int 5)))) (fC (.v (.int 2147483647)))) (gNm 7))
 (fRet (f2 pMod (f2 pFdiv (f2 pMod (f2 pPow (f2 pAdd (fVar 7) (f2 pMul (f2 pMul (fC (.v (.int 4133))) (fVar 2)) (fVar 2))) (fC (.v (.int 5)))) (fC (.v (.int 2147483587)))) (fC (.v (.int 32)))) (fVar 1))))))))))))
noncomputable def drawAF : FF := runF 8 false drawAB
def SOA (b : Int) (o : Ob) : Prop := ∃ (ns : List Int) (at' c k : Int), o = .dic kA [.lst (ns.map P.int), .int at', .int c, .int k] ∧ 0 ≤ k ∧ k ≤ b ∧ ns.length ≤ 63
theorem SOA.mono {b b' : Int} {o : Ob} (h : SOA b o) (hb : b ≤ b') : SOA b' o := by
  obtain ⟨ns, at', c, k, e, h1, h2, h3⟩ := h
  exact ⟨ns, at', c, k, e, h1, by omega, h3⟩
theorem drawA_raw {n at' c k : Int} {ns : List Int} {T : Sto} (hk : 0 ≤ k) (hb : k ≤ 1000000) (h0 : 0 < n) (hn : n < 1000000) (hl : ns.length ≤ 63) :
    (drawAF [.r 0, .v (.int n)] (.dic kA [.lst (ns.map P.int), .int at', .int c, .int k] :: T)).P fun d S => ∃ v at2 c2, d = .v (.int v) ∧ S = .dic kA [.lst (ns.map P.int), .int at2, .int c2, .int (k + 1)] :: T ∧ 0 ≤ v ∧ v < n := by
  have fin : ∀ {at2 c2 v : Int} {S1 : Sto}, S1.take (T.length + 1) = .dic kA [.lst (ns.map P.int), .int at2, .int c2, .int (k + 1)] :: T → 0 ≤ v → v < n →
      ∃ v2 at3 c3, D.v (.int v) = .v (.int v2) ∧ S1.take ((Ob.dic kA [.lst (ns.map P.int), .int at', .int c, .int k] :: T).length) = .dic kA [.lst (ns.map P.int), .int at3, .int c3, .int (k + 1)] :: T ∧ 0 ≤ v2 ∧ v2 < n :=
    fun h1 h2 h3 => ⟨_, _, _, rfl, h1, h2, h3⟩
  have hlen : (List.map P.int ns).length = ns.length := List.length_map ..
  have nb : ∀ i : Int, (i % 2147483629 + 6053 * (k + 1) + 31).natAbs < 2 ^ 64 := fun i => by
    have := Int.emod_nonneg i (show (2147483629 : Int) ≠ 0 by decide)
    have := Int.emod_lt_of_pos i (show (0 : Int) < 2147483629 by decide)
    omega
  have nb2 : ∀ i : Int, (i % 2147483647 + 4133 * (k + 1) * (k + 1)).natAbs < 2 ^ 64 := fun i => by
    have := Int.emod_nonneg i (show (2147483647 : Int) ≠ 0 by decide)
    have := Int.emod_lt_of_pos i (show (0 : Int) < 2147483647 by decide)
    have h1 : 4133 * (k + 1) * (k + 1) ≤ 4133 * 1000001 * 1000001 := Int.mul_le_mul (by omega) (by omega) (by omega) (by omega)
    have h2 : 0 ≤ 4133 * (k + 1) * (k + 1) := Int.mul_nonneg (by omega) (by omega)
    omega
  have hq1 : 4133 * (k + 1) * (k + 1) ≤ 4133 * 1000001 * 1000001 := Int.mul_le_mul (by omega) (by omega) (by omega) (by omega)
  have hq2 : 0 ≤ 4133 * (k + 1) * (k + 1) := Int.mul_nonneg (by omega) (by omega)
  have hq3 : ∀ i : Int, 0 ≤ i % 2147483647 ∧ i % 2147483647 < 2147483647 := fun i => ⟨Int.emod_nonneg i (by decide), Int.emod_lt_of_pos i (by decide)⟩
  refine p_run ?_
  show (drawAB [some (.r 0), some (.v (.int n)), none, none, none, none, none, none] _).F _
  unfold drawAB
  repeat' trivial
  · exact fin (by simp; exact ⟨rfl, rfl⟩) (Int.emod_nonneg _ (by omega)) (Int.emod_lt_of_pos _ h0)
  · rename_i _ hz
    have hz : 0 < ns.length := by
      rw [hlen] at hz
      omega
    have hi : ∃ x : Int, pIx (.lst (ns.map P.int)) (.int (at' % ((ns.map P.int).length : Int))) = some (.int x) := by
      rw [hlen]
      have h1 := Int.emod_nonneg at' (show (ns.length : Int) ≠ 0 by omega)
      have h2 := Int.emod_lt_of_pos at' (show (0 : Int) < (ns.length : Int) by omega)
      have hj : (at' % (ns.length : Int)).toNat < ns.length := by omega
      exact ⟨ns[(at' % (ns.length : Int)).toNat], at_nn (j := (at' % (ns.length : Int)).toNat) (by omega) (by rw [List.getElem?_map, List.getElem?_eq_getElem hj]; rfl)⟩
    obtain ⟨cell, hi⟩ := hi
    repeat' trivial
    all_goals exact fin (by simp; exact ⟨rfl, rfl⟩) (Int.emod_nonneg _ (by omega)) (Int.emod_lt_of_pos _ h0)
  all_goals exact fin (by simp; exact ⟨rfl, rfl⟩) (Int.emod_nonneg _ (by omega)) (Int.emod_lt_of_pos _ h0)
theorem drawA_ok {b n : Int} {o : Ob} {T : Sto} (h : SOA b o) (hb : b ≤ 1000000) (h0 : 0 < n) (hn : n < 1000000) : (drawAF [.r 0, .v (.int n)] (o :: T)).P fun d S => ∃ v o', d = .v (.int v) ∧ S = o' :: T ∧ 0 ≤ v ∧ v < n ∧ SOA (b + 1) o' := by
  obtain ⟨ns, at', c, k, rfl, h1, h2, h3⟩ := h
  refine (drawA_raw h1 (by omega) h0 hn h3).mono ?_
  rintro d S ⟨v, a2, c2, rfl, rfl, k1, k2⟩
  exact ⟨v, _, rfl, rfl, k1, k2, ns, a2, c2, k + 1, rfl, by omega, by omega, h3⟩
end DL
namespace FA
open PySem PySem.Spec PyProof.Rows L2 DL GA
local macro_rules | `(tactic| trivial) => `(tactic| first
  | with_reducible refine s_Seq ?_
  | with_reducible refine s_Set ?_
  | with_reducible refine s_If ?_
  | with_reducible refine s_Drop ?_
  | with_reducible refine s_Ret ?_
  | with_reducible refine s_Par ?_
  | with_reducible refine s_For ?_
  | with_reducible refine s_Nx ?_
  | with_reducible refine p_f2 ?_
  | ((with_reducible apply p_var); (exact rfl))
  | with_reducible refine p_c ?_
  | with_reducible refine p_gNm ?_
  | with_reducible refine p_gSb ?_
  | with_reducible refine p_tru ?_
  | with_reducible refine p_and ?_
  | with_reducible refine p_or ?_
  | with_reducible refine p_not ?_
  | with_reducible refine p_yes ?_
  | with_reducible refine p_ite ?_
  | with_reducible refine p_cons ?_
  | with_reducible refine p_nil ?_
  | with_reducible refine p_cb ?_
  | with_reducible refine p_cbB ?_
  | with_reducible refine p_tup ?_
  | with_reducible refine p_lst ?_
  | with_reducible refine p_lstB ?_
  | with_reducible refine p_lc ?_
  | with_reducible refine p_dc ?_
  | with_reducible refine p_sl ?_
  | with_reducible refine p_oNo ?_
  | with_reducible refine c_oAt ?_
  | with_reducible refine c_atE ?_
  | ((with_reducible apply p_slE); (first | exact rfl | exact deP_bx rfl); (exact rfl))
  | with_reducible refine p_call ?_
  | with_reducible refine p_callN ?_
  | with_reducible refine s_ParE ?_
  | with_reducible refine c_iv ?_
  | with_reducible refine c_rg ?_
  | ((with_reducible apply c_mt); (exact rfl); (exact rfl))
  | with_reducible refine c_ret ?_
  | with_reducible refine p_closeV ?_
  | with_reducible refine p_closeK ?_
  | with_reducible refine ff ?_
  | with_reducible refine tt ?_
  | with_reducible refine nff ?_
  | with_reducible refine ntt ?_
  | with_reducible refine ndt (fun _ => ?_) (fun _ => ?_)
  | with_reducible refine dt (fun _ => ?_) (fun _ => ?_)
  | ((with_reducible apply p_l2); (first | exact rfl | exact deP_bx rfl); (first | exact rfl | exact deP_bx rfl); (first | assumption | exact rfl | exact mod_ok (by omega) | exact fdiv_ok (by omega) (by omega) | exact mul_ok (by omega) (by omega) | exact pow_ok (by omega) (by omega) (by omega)))
  | ((with_reducible apply p_truE); (first | exact rfl | exact deP_bx rfl); (exact rfl))
  | ((with_reducible apply p_cbE); (repeat (first | exact a_nil | (apply a_cons; first | exact rfl | exact deP_bx rfl))); (first | assumption | exact rfl))
  | ((with_reducible apply c_cbB); (repeat (first | exact a_nil | (apply a_cons; first | exact rfl | exact deP_bx rfl))); (first | assumption | exact rfl))
  | ((with_reducible apply p_lstE); (repeat (first | exact v_nil | apply v_cons)); (focus (show _ ≤ (100000 : Nat); first | decide | (simp; done) | (simp; omega))))
  | ((with_reducible apply p_tupE); (repeat (first | exact v_nil | apply v_cons)); (focus (show _ ≤ (100000 : Nat); first | decide | (simp; done) | (simp; omega))))
  | ((with_reducible apply c_lstB); (repeat (first | exact v_nil | apply v_cons)); (focus (show _ ≤ (100000 : Nat); first | decide | (simp; done) | (simp; omega))))
  | ((with_reducible apply c_ivE); (first | exact rfl | exact seq_bx rfl))
  | ((with_reducible apply p_sbL); (exact rfl); (exact rfl)))
noncomputable def B__law_reader : FS :=
 (fRet (fDicB [((fC (.v (.str "cells"))), (fCb bList (fCons (fSl (fVar 0) oNo (oAt (fC (.v (.int 63))))) fNil))), ((fC (.v (.str "spot"))), (fC (.v (.int 0)))), ((fC (.v (.str "rest"))), (fC (.v (.int 0)))), ((fC (.v (.str "calls"))), (fC (.v (.int 0))))]))
noncomputable def F__law_reader : FF := runF 1 true B__law_reader
noncomputable def B__law_draw : FS :=
 (fSeq (fSet (f2 pAdd (f2 pIx (fVar 0) (fC (.v (.str "calls")))) (fC (.v (.int 1)))) (gNm 2))
 (fSeq (fSet (fVar 2) (gSb (fVar 0) (fC (.v (.str "calls")))))
 (fSeq (fIf (fTru (f2 pGt (f2 pIx (fVar 0) (fC (.v (.str "rest")))) (fC (.v (.int 0)))))
  (fSeq (fSet (f2 pMod (f2 pIx (fVar 0) (fC (.v (.str "rest")))) (fVar 1)) (gNm 3))
  (fSeq (fSet (f2 pFdiv (f2 pIx (fVar 0) (fC (.v (.str "rest")))) (fVar 1)) (gSb (fVar 0) (fC (.v (.str "rest")))))
  (fRet (fVar 3))))
  fNext)
 (fSeq (fSet (f2 pIx (fVar 0) (fC (.v (.str "spot")))) (gNm 4))
 (fSeq (fSet (f2 pAdd (fVar 4) (fC (.v (.int 1)))) (gSb (fVar 0) (fC (.v (.str "spot")))))
 (fSeq (fSet (f2 pIx (fVar 0) (fC (.v (.str "cells")))) (gNm 5))
 (fSeq (fSet (fIte (fTru (f2 pGt (fCb bLen (fCons (fVar 5) fNil)) (fC (.v (.int 0))))) (f2 pIx (fVar 5) (f2 pMod (fVar 4) (fCb bLen (fCons (fVar 5) fNil)))) (fC (.v (.int 11)))) (gNm 6))
 (fSeq (fIf (fAnd (fTru (f2 pLt (fVar 4) (fCb bLen (fCons (fVar 5) fNil)))) (fTru (f2 pGe (fVar 6) (f2 pPow (fC (.v (.int 10))) (fC (.v (.int 18)))))))
  (fSeq (fSet (f2 pFdiv (fVar 6) (fVar 1)) (gSb (fVar 0) (fC (.v (.str "rest")))))
  (fRet (f2 pMod (fVar 6) (fVar 1))))
  fNext)
 (fSeq (fSet (f2 pMod (f2 pPow (f2 pAdd (f2 pAdd (f2 pMod (fVar 6) (fC (.v (.int 2147483629)))) (f2 pMul (fC (.v (.int 6053))) (fVar 2))) (fC (.v (.int 31)))) (fC (.v (.int 5)))) (fC (.v (.int 2147483647)))) (gNm 7))
 (fRet (f2 pMod (f2 pFdiv (f2 pMod (f2 pPow (f2 pAdd (fVar 7) (f2 pMul (f2 pMul (fC (.v (.int 4133))) (fVar 2)) (fVar 2))) (fC (.v (.int 5)))) (fC (.v (.int 2147483587)))) (fC (.v (.int 32)))) (fVar 1))))))))))))
noncomputable def F__law_draw : FF := runF 8 false B__law_draw
noncomputable def B__law_random_abilities : FS :=
 (fSeq (fSet (fLc (iVal (fTup (fCons (fC (.v (.str "again"))) (fCons (fC (.v (.str "ask"))) (fCons (fC (.v (.str "repeat"))) (fCons (fC (.v (.str "undo"))) fNil)))))) (gNm 2) (fTru (f2 pEq (fCall F__law_draw [] (fCons (fVar 0) (fCons (fC (.v (.int 2))) fNil))) (fC (.v (.int 0))))) (fVar 2) [2]) (gNm 1))
 (fRet (fCb bTuple (fCons (fLc (iVal (fVar 1)) (gNm 2) (fOr (fTru (f2 pNe (fVar 2) (fC (.v (.str "repeat"))))) (fTru (f2 pIn (fC (.v (.str "again"))) (fVar 1)))) (fVar 2) [2]) fNil))))
noncomputable def F__law_random_abilities : FF := runF 3 false B__law_random_abilities
noncomputable def B__law_random_some : FS :=
 (fSeq (fSet (f2 pMul (fCall F__law_draw [] (fCons (fVar 0) (fCons (f2 pAdd (fVar 2) (fC (.v (.int 1)))) fNil))) (fCb bInt (fCons (f2 pNe (fVar 1) (fLst fNil)) fNil))) (gNm 3))
 (fRet (fCb bTuple (fCons (fCb bSortSet (fCons (fLc (iR1 (fCons (fVar 3) fNil)) (gNm 4) fYes (f2 pIx (fVar 1) (fCall F__law_draw [] (fCons (fVar 0) (fCons (fCb bLen (fCons (fVar 1) fNil)) fNil)))) [4]) fNil)) fNil))))
noncomputable def F__law_random_some : FF := runF 5 false B__law_random_some
noncomputable def L__law_random_work_0 : FS :=
 (fDrop (fMt mAppend (fVar 3) (fCons (fMt mPopAt (fVar 2) (fCons (fCall F__law_draw [] (fCons (fVar 0) (fCons (fCb bLen (fCons (fVar 2) fNil)) fNil))) fNil)) fNil)))
noncomputable def L__law_random_work_1 : FS :=
 (fSeq (fSet (f2 pAdd (fSl (fVar 3) oNo (oAt (fVar 5))) (fSl (fVar 3) (oAt (f2 pAdd (fVar 5) (fC (.v (.int 1))))) oNo)) (gNm 6))
  (fSeq (fPar 7 8 (fCons (fCall F__law_random_some [] (fCons (fVar 0) (fCons (fSl (fVar 3) oNo (oAt (fVar 5))) (fCons (fC (.v (.int 2))) fNil)))) (fCons (fCall F__law_random_some [] (fCons (fVar 0) (fCons (fVar 6) (fCons (fC (.v (.int 2))) fNil)))) fNil)))
  (fDrop (fMt mAppend (fVar 4) (fCons (fTup (fCons (f2 pIx (fVar 3) (fVar 5)) (fCons (fVar 7) (fCons (fVar 8) (fCons (fCall F__law_random_abilities [] (fCons (fVar 0) fNil)) fNil))))) fNil)))))
noncomputable def B__law_random_work : FS :=
 (fSeq (fPar3 2 3 4 (fCons (fLstB (fCons (fC (.v (.str "a"))) (fCons (fC (.v (.str "ab"))) (fCons (fC (.v (.str "b"))) (fCons (fC (.v (.str "book"))) (fCons (fC (.v (.str "call"))) (fCons (fC (.v (.str "pay"))) (fCons (fC (.v (.str "ship"))) (fCons (fC (.v (.str "zzzzzzzz"))) fNil))))))))) (fCons (fLstB fNil) (fCons (fLstB fNil) fNil))))
 (fSeq (fFor (iR1 (fCons (f2 pAdd (fC (.v (.int 1))) (fCall F__law_draw [] (fCons (fVar 0) (fCons (fVar 1) fNil)))) fNil)) (gNm 5) L__law_random_work_0)
 (fSeq (fFor (iR1 (fCons (fCb bLen (fCons (fVar 3) fNil)) fNil)) (gNm 5) L__law_random_work_1)
 (fRet (fCb bTuple (fCons (fCb bSorted (fCons (fVar 4) fNil)) fNil))))))
noncomputable def F__law_random_work : FF := runF 9 false B__law_random_work
theorem draw {b n : Int} {o : Ob} {T : Sto} {Q : D → Sto → Prop} (h : SOA b o) (hb : b ≤ 1000000) (h0 : 0 < n) (hn : n < 1000000) (q : ∀ (v : Int) (o' : Ob), 0 ≤ v → v < n → SOA (b + 1) o' → Q (.v (.int v)) (o' :: T)) : (F__law_draw [.r 0, .v (.int n)] (o :: T)).P Q := (drawA_ok h hb h0 hn).mono fun d S ⟨v, o', e1, e2, h1, h2, h3⟩ => by
  subst e1 e2
  exact q v o' h1 h2 h3
theorem reader {ns : List Int} (hn : ns.length ≤ 63) : (F__law_reader [.v (.frz (ns.map P.int))] []).P fun d S => ∃ o, d = .r 0 ∧ S = [o] ∧ SOA 0 o := by
  have e : kvF [((fC (.v (.str "cells"))), (fCb bList (fCons (fSl (fVar 0) oNo (oAt (fC (.v (.int 63))))) fNil))), ((fC (.v (.str "spot"))), (fC (.v (.int 0)))), ((fC (.v (.str "rest"))), (fC (.v (.int 0)))), ((fC (.v (.str "calls"))), (fC (.v (.int 0))))]
      [some (.v (.frz (ns.map P.int)))] [] = .ok [(.inr "cells", .lst (cutL (ns.map P.int) none (some 63))), (.inr "spot", .int 0), (.inr "rest", .int 0), (.inr "calls", .int 0)] [] := rfl
  have em : mergeP [(.inr "cells", P.lst (cutL (ns.map P.int) none (some 63))), (.inr "spot", .int 0), (.inr "rest", .int 0), (.inr "calls", .int 0)] = (kA, [P.lst (cutL (ns.map P.int) none (some 63)), .int 0, .int 0, .int 0]) := by
    unfold mergeP
    simp only [List.foldl_cons, List.foldl_nil]
    have k1 : (Sum.inr "cells" : Key) ≠ .inr "spot" := by decide +kernel
    have k2 : (Sum.inr "cells" : Key) ≠ .inr "rest" := by decide +kernel
    have k3 : (Sum.inr "cells" : Key) ≠ .inr "calls" := by decide +kernel
    have k4 : (Sum.inr "spot" : Key) ≠ .inr "rest" := by decide +kernel
    have k5 : (Sum.inr "spot" : Key) ≠ .inr "calls" := by decide +kernel
    have k6 : (Sum.inr "rest" : Key) ≠ .inr "calls" := by decide +kernel
    simp only [putP, if_neg k1, if_neg k2, if_neg k3, if_neg k4, if_neg k5, if_neg k6]
    rfl
  refine p_run ?_
  show (B__law_reader [some (.v (.frz (ns.map P.int)))] _).F _
  unfold B__law_reader
  repeat' trivial
  refine P_of (a := .r 0) (S := [.dic kA [.lst (cutL (ns.map P.int) none (some 63)), .int 0, .int 0, .int 0]]) ?_ ?_
  · unfold fDicB
    rw [e]
    simp only [Oc.bind_ok]
    rw [em]
    rfl
  show (closeD true 0 _ _).P _
  refine p_closeK ?_
  refine ⟨_, rfl, rfl, cutL ns none (some 63), 0, 0, 0, ?_, by decide, by decide, Nat.le_trans cut_len hn⟩
  rw [← cut_map]
theorem o_inWL {l : Str} {xs : List Nm} (h : PyData.strOk l = true) : pIn (.str l) (lN xs) = some (.bl (has l xs)) := by
  obtain ⟨b, h1, h2⟩ := in_lst (n := 0) (m := 0) (p := .str l) (ps := xs.map nP) (pl_str h) (fun q hq => by
    obtain ⟨x, _, rfl⟩ := List.mem_map.mp hq
    exact pl_nm x) (by decide)
  rw [h1]
  congr 2
  unfold has
  refine (boolE (h2.trans ?_)).trans rfl
  rw [List.mem_map, List.mem_map]
  exact ⟨fun ⟨x, hx, e⟩ => ⟨x, hx, P.str.inj e⟩, fun ⟨x, hx, e⟩ => ⟨x, hx, congrArg P.str e⟩⟩
def abN : List Nm := [nAgain, nAsk, nRepeat, nUndo]
theorem abilities {b : Int} {o : Ob} {T : Sto} {Q : D → Sto → Prop} (h : SOA b o) (hb : b ≤ 900000) (q : ∀ (xs : List Nm) (o' : Ob), xs.Sublist abN → (nRepeat ∈ xs → nAgain ∈ xs) → SOA (b + 4) o' → Q (.v (tN xs)) (o' :: T)) : (F__law_random_abilities [.r 0] (o :: T)).P Q := by
  refine p_runC ?_
  show (B__law_random_abilities [some (.r 0), none, none] _).F _
  unfold B__law_random_abilities
  refine s_Seq (s_Set (p_lc ?_))
  refine P_of (a := (abN.map nP, none)) (S := o :: (T ++ [])) (e_iv (d := .v (tN abN)) (e_tup (ds := abN.map fun x => .v (nP x)) (e_cons e_c (e_cons e_c (e_cons e_c (e_cons e_c e_nil)))) rfl (by show (4 : Nat) ≤ 100000; decide)) rfl) ?_
  refine lc_some (f := nP) (hh := nP) (xs := abN) (fun i S => ∃ o, S = o :: (T ++ []) ∧ SOA (b + i) o) ⟨o, rfl, by simpa using h⟩ (fun _ _ _ => own_none) (by decide) ?_ ?_
  · rintro i x S hx ⟨o, rfl, hs⟩
    have : i < 4 := lt_of_at hx
    repeat' trivial
    refine draw hs (by omega) (by decide) (by decide) fun v o' v0 v1 hs' => ?_
    have hs' : SOA (b + ((i + 1 : Nat) : Int)) o' := by
      rw [show b + ((i + 1 : Nat) : Int) = b + i + 1 by omega]
      exact hs'
    refine p_c (P_of (e_l2 rfl rfl o_eqI) ?_)
    repeat' trivial
    · exact ⟨rfl, o', rfl, hs'⟩
    · exact ⟨o', rfl, hs'⟩
  · rintro ys S hsub ⟨o, rfl, hs⟩
    have hs : SOA (b + 4) o := hs
    have hl : ys.length ≤ 4 := hsub.length_le
    refine p_gNm ?_
    refine s_RetE (d := .v (tN (ys.filter fun x => !decide (x.s = "repeat") || has "again" ys))) (S1 := o :: (T ++ [])) ?_ ?_
    · refine e_cb (e_cons (e_lc (xs := ys) (f := nP) (q := fun x => !decide (x.s = "repeat") || has "again" ys) (hh := nP) (own := none) (S1 := o :: (T ++ [])) (e_iv (e_var rfl) rfl) own_none (by omega) fun x hx => ?_) e_nil) (a_cons rfl a_nil) o_tupleN
      apply e_body
      · exact e_gNm
      · exact e_or (e_tru (e_f2 (e_var rfl) e_c (e_l2 rfl rfl (o_neL (by decide +kernel)))) rfl rfl) fun _ => e_tru (e_f2 e_c (e_var rfl) (e_l2 rfl rfl (o_inWL (by decide +kernel)))) rfl rfl
      · exact fun _ => e_var rfl
    · refine c_ret ?_
      refine q _ o (List.filter_sublist.trans hsub) (fun hr => ?_) hs
      obtain ⟨_, h2⟩ := List.mem_filter.mp hr
      have h3 : has nAgain.s ys = true := by
        have e1 : decide (nRepeat.s = ("repeat" : Str)) = true := decide_eq_true rfl
        rw [e1] at h2
        exact h2
      rw [has_iff, decide_eq_true_eq] at h3
      refine List.mem_filter.mpr ⟨h3, ?_⟩
      have h4 : decide (nAgain.s = ("repeat" : Str)) = false := by decide +kernel
      rw [h4]
      rfl
end FA
namespace FA
open PySem PySem.Spec PyProof.Rows L2 DL GA
local macro_rules | `(tactic| trivial) => `(tactic| first
  | with_reducible refine s_Seq ?_
  | with_reducible refine s_Set ?_
  | with_reducible refine s_If ?_
  | with_reducible refine s_Drop ?_
  | with_reducible refine s_Ret ?_
  | with_reducible refine s_Par ?_
  | with_reducible refine s_For ?_
  | with_reducible refine s_Nx ?_
  | with_reducible refine p_f2 ?_
  | ((with_reducible apply p_var); (exact rfl))
  | with_reducible refine p_c ?_
  | with_reducible refine p_gNm ?_
  | with_reducible refine p_gSb ?_
  | with_reducible refine p_tru ?_
  | with_reducible refine p_and ?_
  | with_reducible refine p_or ?_
  | with_reducible refine p_not ?_
  | with_reducible refine p_yes ?_
  | with_reducible refine p_ite ?_
  | with_reducible refine p_cons ?_
  | with_reducible refine p_nil ?_
  | with_reducible refine p_cb ?_
  | with_reducible refine p_cbB ?_
  | with_reducible refine p_tup ?_
  | with_reducible refine p_lst ?_
  | with_reducible refine p_lstB ?_
  | with_reducible refine p_lc ?_
  | with_reducible refine p_dc ?_
  | with_reducible refine p_sl ?_
  | with_reducible refine p_oNo ?_
  | with_reducible refine c_oAt ?_
  | with_reducible refine c_atE ?_
  | ((with_reducible apply p_slE); (first | exact rfl | exact deP_bx rfl); (exact rfl))
  | with_reducible refine p_call ?_
  | with_reducible refine p_callN ?_
  | with_reducible refine s_ParE ?_
  | with_reducible refine c_iv ?_
  | with_reducible refine c_rg ?_
  | ((with_reducible apply c_mt); (exact rfl); (exact rfl))
  | with_reducible refine c_ret ?_
  | with_reducible refine p_closeV ?_
  | with_reducible refine p_closeK ?_
  | with_reducible refine ff ?_
  | with_reducible refine tt ?_
  | with_reducible refine nff ?_
  | with_reducible refine ntt ?_
  | with_reducible refine ndt (fun _ => ?_) (fun _ => ?_)
  | with_reducible refine dt (fun _ => ?_) (fun _ => ?_)
  | ((with_reducible apply p_l2); (first | exact rfl | exact deP_bx rfl); (first | exact rfl | exact deP_bx rfl); (first | assumption | exact rfl | exact mod_ok (by omega) | exact fdiv_ok (by omega) (by omega) | exact mul_ok (by omega) (by omega) | exact pow_ok (by omega) (by omega) (by omega)))
  | ((with_reducible apply p_truE); (first | exact rfl | exact deP_bx rfl); (exact rfl))
  | ((with_reducible apply p_cbE); (repeat (first | exact a_nil | (apply a_cons; first | exact rfl | exact deP_bx rfl))); (first | assumption | exact rfl))
  | ((with_reducible apply c_cbB); (repeat (first | exact a_nil | (apply a_cons; first | exact rfl | exact deP_bx rfl))); (first | assumption | exact rfl))
  | ((with_reducible apply p_lstE); (repeat (first | exact v_nil | apply v_cons)); (focus (show _ ≤ (100000 : Nat); first | decide | (simp; done) | (simp; omega))))
  | ((with_reducible apply p_tupE); (repeat (first | exact v_nil | apply v_cons)); (focus (show _ ≤ (100000 : Nat); first | decide | (simp; done) | (simp; omega))))
  | ((with_reducible apply c_lstB); (repeat (first | exact v_nil | apply v_cons)); (focus (show _ ≤ (100000 : Nat); first | decide | (simp; done) | (simp; omega))))
  | ((with_reducible apply c_ivE); (first | exact rfl | exact seq_bx rfl))
  | ((with_reducible apply p_sbL); (exact rfl); (exact rfl)))
theorem ddS_len : ∀ xs : List Str, (ddS xs).length ≤ xs.length
  | [] => Nat.le_refl _
  | x :: xs => by
    have := ddS_len xs
    unfold ddS
    split
    · show _ ≤ xs.length + 1
      omega
    · show (ddS xs).length + 1 ≤ xs.length + 1
      omega
theorem so_lenL (xs : List Nm) : (so xs).length ≤ xs.length := by
  have h1 := congrArg List.length (so_eq xs)
  rw [(srt_perm _).length_eq, List.length_map, List.length_map] at h1
  have h2 := ddS_len (xs.map (·.s))
  rw [List.length_map] at h2
  omega
theorem some' {b m : Int} {o : Ob} {T : Sto} {Q : D → Sto → Prop} {xs : List Nm} (h : SOA b o) (hb : b ≤ 900000) (hm0 : 0 ≤ m) (hm : m ≤ 20) (hl : xs.length ≤ 100) (q : ∀ (ys : List Nm) (o' : Ob), Asc ys → (∀ y ∈ ys, y ∈ xs) → ys.length ≤ m → SOA (b + 30) o' → Q (.v (tN ys)) (o' :: T)) :
    (F__law_random_some [.r 0, .v (lN xs), .v (.int m)] (o :: T)).P Q := by
  refine p_runC ?_
  show (B__law_random_some [some (.r 0), some (.v (lN xs)), some (.v (.int m)), none, none] _).F _
  unfold B__law_random_some
  repeat' trivial
  refine draw h (by omega) (by omega) (by omega) fun v o v0 v1 hs => ?_
  have e1 : pNe (lN xs) (.lst []) = some (.bl (!decide (xs = []))) := o_neLs0
  have e2 : bInt [.bl (!decide (xs = []))] = some (.int (if (!decide (xs = [])) = true then 1 else 0)) := rfl
  have e3 : bLen [lN xs] = some (.int xs.length) := by
    show some (P.int (xs.map nP).length) = _
    rw [List.length_map]
  repeat' trivial
  have hc0 : 0 ≤ v * (if (!decide (xs = [])) = true then 1 else 0) := by
    split
    · omega
    · omega
  have hc1 : v * (if (!decide (xs = [])) = true then 1 else 0) ≤ v := by
    split
    · omega
    · omega
  have hc2 : xs = [] → v * (if (!decide (xs = [])) = true then 1 else 0) = 0 := fun e => by
    subst e
    simp
  generalize v * (if (!decide (xs = [])) = true then 1 else 0) = c at hc0 hc1 hc2
  have e4 : c ≤ 20 := by omega
  refine c_rgE (by omega) (by omega) ?_
  refine p_Lc (fun i S acc => ∃ (o : Ob) (zs : List Nm), S = o :: (T ++ []) ∧ acc = zs.map nP ∧ zs.length = i ∧ (∀ z ∈ zs, z ∈ xs) ∧ SOA (b + 1 + i) o) ⟨o, [], rfl, rfl, rfl, (fun _ h => nomatch h), by simpa using hs⟩ (fun _ _ _ _ => own_none) ?_ ?_
  · rintro i p S acc hi ⟨o, zs, rfl, rfl, hzl, hzs, hs⟩
    obtain ⟨hi1, rfl⟩ := rgP_at hi
    have hi2 : i < c.toNat := hi1
    have hne : xs ≠ [] := fun e => by
      have := hc2 e
      omega
    have hpos := List.length_pos_iff.mpr hne
    refine ⟨by rw [List.length_map]; omega, ?_⟩
    repeat' trivial
    refine draw hs (by omega) (by omega) (by omega) fun w o w0 w1 hs => ?_
    have hw : w.toNat < xs.length := by omega
    have ex : pIx (lN xs) (.int w) = some (nP xs[w.toNat]) := at_nn (j := w.toNat) (by omega) (by rw [List.getElem?_map, List.getElem?_eq_getElem hw]; rfl)
    refine p_l2 rfl rfl ex ?_
    refine ⟨_, rfl, o, zs ++ [xs[w.toNat]], rfl, by simp, by simp [hzl], fun z hz => ?_, hs.mono (by omega)⟩
    rcases List.mem_append.mp hz with hz | hz
    · exact hzs z hz
    · rw [List.mem_singleton.mp hz]
      exact List.getElem_mem hw
  · rintro S acc ⟨o, zs, rfl, rfl, hzl, hzs, hs⟩
    have hzl : zs.length = (rgP c.toNat).length := hzl
    have hrl : (rgP c.toNat).length = c.toNat := by
      unfold rgP
      simp
    rw [hrl] at hzl
    have hs : SOA (b + 1 + ((rgP c.toNat).length : Nat)) o := hs
    rw [hrl] at hs
    have hsl := so_lenL zs
    have es : bSortSet [lN zs] = some (lN (so zs)) := o_soL (by omega)
    have et : bTuple [lN (so zs)] = some (tN (so zs)) := o_tupleN
    repeat' trivial
    exact q (so zs) o (so_asc zs) (fun y hy => hzs y (so_mem.mp hy)) (by omega) (hs.mono (by omega))
end FA
namespace FA
open PySem PySem.Spec PyProof.Rows L2 DL GA
local macro_rules | `(tactic| trivial) => `(tactic| first
  | with_reducible refine s_Seq ?_
  | with_reducible refine s_Set ?_
  | with_reducible refine s_If ?_
  | with_reducible refine s_Drop ?_
  | with_reducible refine s_Ret ?_
  | with_reducible refine s_Par ?_
  | with_reducible refine s_For ?_
  | with_reducible refine s_Nx ?_
  | with_reducible refine p_f2 ?_
  | ((with_reducible apply p_var); (exact rfl))
  | with_reducible refine p_c ?_
  | with_reducible refine p_gNm ?_
  | with_reducible refine p_gSb ?_
  | with_reducible refine p_tru ?_
  | with_reducible refine p_and ?_
  | with_reducible refine p_or ?_
  | with_reducible refine p_not ?_
  | with_reducible refine p_yes ?_
  | with_reducible refine p_ite ?_
  | with_reducible refine p_cons ?_
  | with_reducible refine p_nil ?_
  | with_reducible refine p_cb ?_
  | with_reducible refine p_cbB ?_
  | with_reducible refine p_tup ?_
  | with_reducible refine p_lst ?_
  | with_reducible refine p_lstB ?_
  | with_reducible refine p_lc ?_
  | with_reducible refine p_dc ?_
  | with_reducible refine p_sl ?_
  | with_reducible refine p_oNo ?_
  | with_reducible refine c_oAt ?_
  | with_reducible refine c_atE ?_
  | ((with_reducible apply p_slE); (first | exact rfl | exact deP_bx rfl); (exact rfl))
  | with_reducible refine p_call ?_
  | with_reducible refine p_callN ?_
  | with_reducible refine s_ParE ?_
  | with_reducible refine c_iv ?_
  | with_reducible refine c_rg ?_
  | ((with_reducible apply c_mt); (exact rfl); (exact rfl))
  | with_reducible refine c_ret ?_
  | with_reducible refine p_closeV ?_
  | with_reducible refine p_closeK ?_
  | with_reducible refine ff ?_
  | with_reducible refine tt ?_
  | with_reducible refine nff ?_
  | with_reducible refine ntt ?_
  | with_reducible refine ndt (fun _ => ?_) (fun _ => ?_)
  | with_reducible refine dt (fun _ => ?_) (fun _ => ?_)
  | ((with_reducible apply p_l2); (first | exact rfl | exact deP_bx rfl); (first | exact rfl | exact deP_bx rfl); (first | assumption | exact rfl | exact mod_ok (by omega) | exact fdiv_ok (by omega) (by omega) | exact mul_ok (by omega) (by omega) | exact pow_ok (by omega) (by omega) (by omega)))
  | ((with_reducible apply p_truE); (first | exact rfl | exact deP_bx rfl); (exact rfl))
  | ((with_reducible apply p_cbE); (repeat (first | exact a_nil | (apply a_cons; first | exact rfl | exact deP_bx rfl))); (first | assumption | exact rfl))
  | ((with_reducible apply c_cbB); (repeat (first | exact a_nil | (apply a_cons; first | exact rfl | exact deP_bx rfl))); (first | assumption | exact rfl))
  | ((with_reducible apply p_lstE); (repeat (first | exact v_nil | apply v_cons)); (focus (show _ ≤ (100000 : Nat); first | decide | (simp; done) | (simp; omega))))
  | ((with_reducible apply p_tupE); (repeat (first | exact v_nil | apply v_cons)); (focus (show _ ≤ (100000 : Nat); first | decide | (simp; done) | (simp; omega))))
  | ((with_reducible apply c_lstB); (repeat (first | exact v_nil | apply v_cons)); (focus (show _ ≤ (100000 : Nat); first | decide | (simp; done) | (simp; omega))))
  | ((with_reducible apply c_ivE); (first | exact rfl | exact seq_bx rfl))
  | ((with_reducible apply p_sbL); (exact rfl); (exact rfl)))
def poolA : List Nm := [lit "a", lit "ab", lit "b", lit "book", lit "call", lit "pay", lit "ship", lit "zzzzzzzz"]
theorem poolA_nd : poolA.Nodup := by
  have h : ∀ i j : Fin 8, i < j → (poolA[i]).s ≠ (poolA[j]).s := by decide +kernel
  refine List.pairwise_iff_getElem.mpr fun i j hi hj hij e => ?_
  exact h ⟨i, hi⟩ ⟨j, hj⟩ hij (congrArg Nm.s e)
def poolF : List Nm := poolA ++ [lit "flight", lit "hotel", lit "mail"]
structure AOk (rs : List Rw) : Prop where
  len : rs.length ≤ 8
  pos : 1 ≤ rs.length
  asc : Asc (nm rs)
  ne : ∀ r ∈ rs, Asc r.ne ∧ ∀ y ∈ r.ne, y ∈ nm rs
  se : ∀ r ∈ rs, Asc r.se ∧ (∀ y ∈ r.se, y ∈ nm rs) ∧ r.x ∉ r.se
  rank : ∃ rk : Nm → Int, ∀ r ∈ rs, ∀ y ∈ r.ne, rk y < rk r.x
  ab : ∀ r ∈ rs, r.ab.Sublist abN ∧ (nRepeat ∈ r.ab → nAgain ∈ r.ab)
structure AOp (rs : List Rw) : Prop where
  a : AOk rs
  pool : ∀ x ∈ nm rs, x ∈ poolF
theorem nm_len {rs : List Rw} : (nm rs).length = rs.length := List.length_map ..
theorem AOk.nesub {rs : List Rw} (h : AOk rs) {r : Rw} (hr : r ∈ rs) : r.ne.Sublist (nm rs) := asc_sub (h.ne r hr).1 h.asc (h.ne r hr).2
theorem AOk.sesub {rs : List Rw} (h : AOk rs) {r : Rw} (hr : r ∈ rs) : r.se.Sublist (nm rs) := asc_sub (h.se r hr).1 h.asc (h.se r hr).2.1
theorem AOk.ne8 {rs : List Rw} (h : AOk rs) {r : Rw} (hr : r ∈ rs) : r.ne.length ≤ 8 := by
  have := (h.nesub hr).length_le
  rw [nm_len] at this
  exact Nat.le_trans this h.len
theorem AOk.se8 {rs : List Rw} (h : AOk rs) {r : Rw} (hr : r ∈ rs) : r.se.length ≤ 8 := by
  have := (h.sesub hr).length_le
  rw [nm_len] at this
  exact Nat.le_trans this h.len
theorem AOk.ab4 {rs : List Rw} (h : AOk rs) {r : Rw} (hr : r ∈ rs) : r.ab.length ≤ 4 := (h.ab r hr).1.length_le
theorem AOk.nd {rs : List Rw} (h : AOk rs) : (nm rs).Nodup := h.asc.nd
theorem AOk.wok {rs : List Rw} (h : AOk rs) : WOk rs where
  len := Nat.le_trans h.len (by decide)
  ne := fun r hr => Nat.le_trans (h.ne8 hr) (by decide)
  se := fun r hr => Nat.le_trans (h.se8 hr) (by decide)
  ab := fun r hr => Nat.le_trans (h.ab4 hr) (by decide)
  nd := h.nd
def ixd : List Nm → Nm → Nat
  | [], _ => 0
  | x :: xs, y => if x = y then 0 else ixd xs y + 1
theorem ixd_at : ∀ {xs : List Nm} {i : Nat} {x : Nm}, xs.Nodup → xs[i]? = some x → ixd xs x = i
  | [], i, x, _, h => by simp at h
  | y :: xs, 0, x, _, h => by
    have : y = x := by simpa using h
    unfold ixd
    rw [if_pos this]
  | y :: xs, i + 1, x, hn, h => by
    have h1 : xs[i]? = some x := by simpa using h
    have h2 : y ≠ x := fun e => (List.nodup_cons.mp hn).1 (e ▸ List.mem_of_getElem? h1)
    unfold ixd
    rw [if_neg h2, ixd_at (List.nodup_cons.mp hn).2 h1]
theorem ixd_take {xs : List Nm} {i : Nat} {y : Nm} (hn : xs.Nodup) (h : y ∈ xs.take i) : ixd xs y < i := by
  obtain ⟨j, hj, e⟩ := List.getElem_of_mem h
  rw [List.length_take] at hj
  rw [List.getElem_take] at e
  rw [ixd_at (i := j) hn (by rw [List.getElem?_eq_getElem (by omega), e])]
  omega
theorem cut_to {α : Type} {xs : List α} {i : Nat} (h : i ≤ xs.length) : cutL xs none (some (i : Int)) = xs.take i := by
  unfold cutL
  rw [HT.sIx_none, HT.sIx_nat, List.drop_zero, Nat.sub_zero, Nat.min_eq_left h]
theorem cut_from {α : Type} {xs : List α} {i : Nat} (h : i ≤ xs.length) : cutL xs (some (i : Int)) none = xs.drop i := by
  unfold cutL
  rw [HT.sIx_none, HT.sIx_nat, Nat.min_eq_left h, List.take_of_length_le (by rw [List.length_drop]; exact Nat.le_refl _)]
theorem o_slTo {α : Type} {f : α → P} {xs : List α} {i : Nat} (h : i ≤ xs.length) : pSl (.lst (xs.map f)) none (some (i : Int)) = some (.lst ((xs.take i).map f)) := by
  show some (P.lst (cutL (xs.map f) none (some (i : Int)))) = _
  rw [cut_map, cut_to h]
theorem o_slFrom {α : Type} {f : α → P} {xs : List α} {i : Nat} (h : i ≤ xs.length) : pSl (.lst (xs.map f)) (some (i : Int)) none = some (.lst ((xs.drop i).map f)) := by
  show some (P.lst (cutL (xs.map f) (some (i : Int)) none)) = _
  rw [cut_map, cut_from h]
structure RwOk (ord : List Nm) (r : Rw) : Prop where
  x : r.x ∈ ord
  ne : Asc r.ne ∧ ∀ y ∈ r.ne, y ∈ ord ∧ ixd ord y < ixd ord r.x
  se : Asc r.se ∧ (∀ y ∈ r.se, y ∈ ord) ∧ r.x ∉ r.se
  ab : r.ab.Sublist abN ∧ (nRepeat ∈ r.ab → nAgain ∈ r.ab)
theorem others_mem {ord : List Nm} {i : Nat} {x y : Nm} (hn : ord.Nodup) (hx : ord[i]? = some x) (h : y ∈ ord.take i ++ ord.drop (i + 1)) : y ∈ ord ∧ y ≠ x := by
  refine ⟨?_, fun e => ?_⟩
  · rcases List.mem_append.mp h with h | h
    · exact List.mem_of_mem_take h
    · exact List.mem_of_mem_drop h
  · subst e
    have hi := lt_of_at hx
    rcases List.mem_append.mp h with h | h
    · have := ixd_take hn h
      rw [ixd_at hn hx] at this
      omega
    · obtain ⟨j, hj, e⟩ := List.getElem_of_mem h
      rw [List.length_drop] at hj
      rw [List.getElem_drop] at e
      have := ixd_at (i := i + 1 + j) hn (by rw [List.getElem?_eq_getElem (by omega), e])
      rw [ixd_at hn hx] at this
      omega
theorem o_popNP {xs : List Nm} {S : Sto} {v : Int} (h0 : 0 ≤ v) (h1 : v < xs.length) (hl : xs.length ≤ 100000) : ∃ x, mPopAt (xs.map nP) [.v (.int v)] S = some (nP x, (xs.eraseIdx v.toNat).map nP) ∧ (x :: xs.eraseIdx v.toNat).Perm xs := by
  have hj : v.toNat < xs.length := by omega
  refine ⟨xs[v.toNat], ?_, erase_perm hj⟩
  have e1 : ixN (xs.map nP).length v = some v.toNat := by
    unfold ixN
    rw [if_pos h0, List.length_map, if_pos h1]
  have e2 : (xs.map nP)[v.toNat]? = some (nP xs[v.toNat]) := by
    rw [List.getElem?_map, List.getElem?_eq_getElem hj]
    rfl
  unfold mPopAt
  simp only []
  rw [if_pos (by omega), e1]
  simp only []
  rw [e2]
  simp only []
  rw [map_erase]
theorem workP {b m : Int} {o : Ob} {T : Sto} {Q : D → Sto → Prop} (h : SOA b o) (hb : b ≤ 800000) (hm0 : 1 ≤ m) (hm : m ≤ 8) (q : ∀ (rs : List Rw) (o' : Ob), AOp rs → (rs.length : Int) ≤ m → SOA (b + 1000) o' → Q (.v (wkP rs)) (o' :: T)) : (F__law_random_work [.r 0, .v (.int m)] (o :: T)).P Q := by
  refine p_runC ?_
  show (B__law_random_work [some (.r 0), some (.v (.int m)), none, none, none, none, none, none, none] _).F _
  unfold B__law_random_work
  refine s_Seq (s_Par3 (d := .r (bx T 0)) (e := .r (bx T 1)) (f := .r (bx T 2)) (S1 := o :: (T ++ [.lst (poolA.map nP), .lst (([] : List Nm).map nP), .lst (([] : List Rw).map rwP)])) ?_ ?_)
  · refine e_cons (S1 := o :: (T ++ ([] ++ [.lst (poolA.map nP)]))) (e_lstB (T := T) (B := []) (ps := poolA.map nP) (ds := poolA.map fun x => .v (nP x)) rfl rfl (by decide)) ?_
    refine e_cons (S1 := o :: (T ++ (([] ++ [.lst (poolA.map nP)]) ++ [.lst []]))) (e_lstB e_nil v_nil (by decide)) ?_
    exact e_cons (e_lstB e_nil v_nil (by decide)) e_nil
  repeat' trivial
  refine draw h (by omega) (by omega) (by omega) fun v o v0 v1 hs => ?_
  repeat' trivial
  refine c_rgE (by omega) (by omega) ?_
  refine s_Loop (fun i env S => ∃ (o : Ob) (pool ord : List Nm) (e5 : Option D), env = [some (.r 0), some (.v (.int m)), some (.r (bx T 0)), some (.r (bx T 1)), some (.r (bx T 2)), e5, none, none, none] ∧
      S = o :: (T ++ [.lst (pool.map nP), .lst (ord.map nP), .lst (([] : List Rw).map rwP)]) ∧ (ord ++ pool).Perm poolA ∧ ord.length = i ∧ SOA (b + 1 + i) o)
    ⟨o, poolA, [], _, rfl, rfl, List.Perm.refl _, rfl, by simpa using hs⟩ (fun _ _ _ _ => own_none) ?_ ?_
  · rintro i p env S hi ⟨o, pool, ord, e5, rfl, rfl, hpm, hol, hs⟩
    obtain ⟨hi1, rfl⟩ := rgP_at hi
    have hi2 : i < (1 + v).toNat := hi1
    have hlen : ord.length + pool.length = 8 := by
      have := hpm.length_eq
      rw [List.length_append] at this
      exact this
    have hml : (List.map nP pool).length = pool.length := List.length_map ..
    have e1 : bLen [.lst (pool.map nP)] = some (.int pool.length) := by
      show some (P.int (pool.map nP).length) = _
      rw [List.length_map]
    unfold L__law_random_work_0
    repeat' trivial
    refine draw hs (by omega) (by omega) (by omega) fun w o w0 w1 hs => ?_
    obtain ⟨x, ex, px⟩ := o_popNP (xs := pool) (S := o :: (T ++ [.lst (pool.map nP), .lst (ord.map nP), .lst (([] : List Rw).map rwP)])) w0 w1 (by omega)
    repeat' trivial
    refine c_mtE rfl ex ?_
    repeat' trivial
    refine c_mtE rfl (o_app (by rw [List.length_map]; omega)) ?_
    refine ⟨o, pool.eraseIdx w.toNat, ord ++ [x], _, rfl, by simp, ?_, by simp [hol], hs.mono (by omega)⟩
    rw [List.append_assoc]
    exact (List.Perm.append_left ord px).trans hpm
  · rintro env S ⟨o, pool, ord, e5, rfl, rfl, hpm, hol, hs⟩
    have hol : ord.length = (1 + v).toNat := by rw [hol]; unfold rgP; rw [List.length_map, List.length_range]
    have hlen : ord.length + pool.length = 8 := by
      have := hpm.length_eq
      rw [List.length_append] at this
      exact this
    have hon : ord.Nodup := (List.nodup_append.mp (hpm.nodup_iff.mpr poolA_nd)).1
    have hs : SOA (b + 20) o := hs.mono (by rw [show (rgP (1 + v).toNat).length = (1 + v).toNat by unfold rgP; rw [List.length_map, List.length_range]]; omega)
    have e1 : bLen [.lst (ord.map nP)] = some (.int ord.length) := by
      show some (P.int (ord.map nP).length) = _
      rw [List.length_map]
    repeat' trivial
    refine c_rgE (by omega) (by omega) ?_
    refine s_Loop (fun i env S => ∃ (o : Ob) (rows : List Rw) (e5 e6 e7 e8 : Option D), env = [some (.r 0), some (.v (.int m)), some (.r (bx T 0)), some (.r (bx T 1)), some (.r (bx T 2)), e5, e6, e7, e8] ∧
        S = o :: (T ++ [.lst (pool.map nP), .lst (ord.map nP), .lst (rows.map rwP)]) ∧ nm rows = ord.take i ∧ (∀ r ∈ rows, RwOk ord r) ∧ SOA (b + 20 + 100 * i) o)
      ⟨o, [], _, _, _, _, rfl, rfl, rfl, (fun _ h => nomatch h), by simpa using hs⟩ (fun _ _ _ _ => own_none) ?_ ?_
    · rintro i p env S hi ⟨o, rows, e5, e6, e7, e8, rfl, rfl, hnr, hrows, hs⟩
      obtain ⟨hi1, rfl⟩ := rgP_at hi
      have hi2 : i < ord.length := by
        have : i < ((ord.length : Nat) : Int).toNat := hi1
        omega
      obtain ⟨x, hx⟩ : ∃ x, ord[i]? = some x := ⟨ord[i], List.getElem?_eq_getElem hi2⟩
      have hxm := List.mem_of_getElem? hx
      have hix : pIx (.lst (ord.map nP)) (.int i) = some (nP x) := (o_ix hx).1
      have hrl : rows.length = i := by
        rw [← nm_len, hnr, List.length_take]
        omega
      unfold L__law_random_work_1
      refine s_Seq (s_SetE (d := .v (lN (ord.take i ++ ord.drop (i + 1)))) (S1 := o :: (T ++ [.lst (pool.map nP), .lst (ord.map nP), .lst (rows.map rwP)])) ?_ e_gNm ?_)
      · refine (e_f2 (e_sl (e_var rfl) e_oNo (e_oAt (e_var rfl)) (deP_bx rfl) (o_slTo (by omega))) (e_sl (e_var rfl) (e_oAt (i := ((i + 1 : Nat) : Int)) (e_f2 (e_var rfl) e_c (e_l2 rfl rfl rfl))) e_oNo (deP_bx rfl) (o_slFrom (by omega))) (e_l2 rfl rfl (o_addLs (by rw [List.length_map, List.length_map, List.length_take, List.length_drop]; omega)))).trans ?_
        rw [← List.map_append]
      have hol1 : (ord.take i).length ≤ 8 := by rw [List.length_take]; omega
      have hol2 : (ord.take i ++ ord.drop (i + 1)).length ≤ 8 := by rw [List.length_append, List.length_take, List.length_drop]; omega
      refine s_Seq (s_Par (p_cons (p_call (P_of (a := [.r 0, .v (lN (ord.take i)), .v (.int 2)]) (S := o :: (T ++ [.lst (pool.map nP), .lst (ord.map nP), .lst (rows.map rwP)])) (e_cons (e_var rfl) (e_cons (e_sl (e_var rfl) e_oNo (e_oAt (e_var rfl)) (deP_bx rfl) (o_slTo (by omega))) (e_cons e_c e_nil))) ?_))))
      refine some' hs (by omega) (by decide) (by decide) (by omega) fun ns o hn1 hn2 hn3 hs => ?_
      refine p_cons (p_call (P_of (a := [.r 0, .v (lN (ord.take i ++ ord.drop (i + 1))), .v (.int 2)]) (S := o :: (T ++ [.lst (pool.map nP), .lst (ord.map nP), .lst (rows.map rwP)])) (e_cons (e_var rfl) (e_cons (e_var rfl) (e_cons e_c e_nil))) ?_))
      refine some' hs (by omega) (by decide) (by decide) (by omega) fun ss o hs1 hs2 hs3 hs => ?_
      refine p_nil (s_ParE ?_)
      repeat' trivial
      refine abilities hs (by omega) fun ab o ha1 ha2 hs => ?_
      repeat' trivial
      refine c_mtE rfl (o_app (by rw [List.length_map]; omega)) ?_
      refine ⟨o, rows ++ [⟨x, ns, ss, ab⟩], _, _, _, _, rfl, by simp, ?_, fun r hr => ?_, hs.mono (by omega)⟩
      · have : nm (rows ++ [(⟨x, ns, ss, ab⟩ : Rw)]) = nm rows ++ [x] := by unfold nm; simp
        rw [this, hnr, List.take_add_one, hx]
        rfl
      · rcases List.mem_append.mp hr with hr | hr
        · exact hrows r hr
        · rw [List.mem_singleton.mp hr]
          exact ⟨hxm, ⟨hn1, fun y hy => ⟨List.mem_of_mem_take (hn2 y hy), by
            show ixd ord y < ixd ord x
            rw [ixd_at hon hx]
            exact ixd_take hon (hn2 y hy)⟩⟩, ⟨hs1, fun y hy => (others_mem hon hx (hs2 y hy)).1, fun hxs => (others_mem hon hx (hs2 x hxs)).2 rfl⟩, ha1, ha2⟩
    · rintro env S ⟨o, rows, e5, e6, e7, e8, rfl, rfl, hnr, hrows, hs⟩
      have hrr : (rgP ((ord.length : Nat) : Int).toNat).length = ord.length := by unfold rgP; rw [List.length_map, List.length_range]; omega
      have hnr : nm rows = ord := by
        have h1 : nm rows = ord.take (rgP ((ord.length : Nat) : Int).toNat).length := hnr
        rw [hrr, List.take_length] at h1
        exact h1
      have hs : SOA (b + 1000) o := hs.mono (by
        show b + 20 + 100 * ((rgP ((ord.length : Nat) : Int).toNat).length : Int) ≤ _
        rw [hrr]
        omega)
      have hrl : rows.length = ord.length := by rw [← nm_len, hnr]
      obtain ⟨rs, e2, hp, hasc⟩ := srt_rows (rows := rows) (by omega) (by rw [hnr]; exact hon)
      have hlr : rs.length = ord.length := hp.length_eq.trans hrl
      have hmem : ∀ y, y ∈ nm rs ↔ y ∈ ord := fun y => by
        rw [← hnr]
        unfold nm
        exact (hp.map (·.x)).mem_iff
      refine s_RetE (e_cb (S1 := o :: (T ++ [.lst (pool.map nP), .lst (ord.map nP), .lst (rows.map rwP)])) (e_cons (e_cb (e_cons (e_var rfl) e_nil) (a_cons (deP_bx rfl) a_nil) e2) e_nil) (a_cons rfl a_nil) o_tuple) (c_ret (q rs o ⟨⟨by omega, by omega, hasc, fun r hr => ?_, fun r hr => ?_, ⟨fun y => (ixd ord y : Int), fun r hr y hy => ?_⟩, fun r hr => (hrows r (hp.mem_iff.mp hr)).ab⟩, fun x hx => List.mem_append_left _ (hpm.mem_iff.mp (List.mem_append_left _ ((hmem x).mp hx)))⟩ (by omega) hs))
      · have := (hrows r (hp.mem_iff.mp hr)).ne
        exact ⟨this.1, fun y hy => (hmem y).mpr (this.2 y hy).1⟩
      · have := (hrows r (hp.mem_iff.mp hr)).se
        exact ⟨this.1, fun y hy => (hmem y).mpr (this.2.1 y hy), this.2.2⟩
      · have := ((hrows r (hp.mem_iff.mp hr)).ne.2 y hy).2
        show (ixd ord y : Int) < (ixd ord r.x : Int)
        omega
end FA
namespace FN
open PySem PySem.Spec PyProof.Rows L2 DL GA
theorem first_row {rs : List Rw} (hn : (nm rs).Nodup) {x : Nm} (hx : x ∈ nm rs) : rs.filter (fun r => decide (r.x = x)) = [rowOf rs x] := by
  obtain ⟨h1, h2⟩ := rowOf_mem hx
  have h3 : ∀ r ∈ rs, decide (r.x = x) = decide (r = rowOf rs x) := fun r hr => by
    refine boolE ?_
    rw [decide_eq_true_eq]
    exact ⟨fun e => row_uniq hn hr h1 (e.trans h2.symm), fun e => e ▸ h2⟩
  have hnd : rs.Nodup := List.Pairwise.of_map (fun r : Rw => r.x) (fun _ _ hne e => hne (congrArg _ e)) hn
  rw [List.filter_congr h3]
  clear h3
  generalize rowOf rs x = q at h1 h2
  clear hx hn h2
  induction rs with
  | nil => cases h1
  | cons a rs ih =>
    obtain ⟨n1, n2⟩ := List.nodup_cons.mp hnd
    rcases List.mem_cons.mp h1 with e | h
    · subst e
      have : rs.filter (fun r => decide (r = q)) = [] := List.filter_eq_nil_iff.mpr fun r hr => by
        rw [decide_eq_true_eq]
        exact fun e => n1 (e ▸ hr)
      rw [List.filter_cons, if_pos (by simp), this]
    · rw [List.filter_cons, if_neg (by
        rw [decide_eq_true_eq]
        exact fun e => n1 (e ▸ h))]
      exact ih n2 h
end FN
namespace FN
open PySem PySem.Spec PyProof.Rows L2 DL GA
theorem sh_nm (x : Nm) : Sh 20 0 (nP x) := sh_str x.ok.2.1 x.ok.2.2
theorem sh_tN {xs : List Nm} (hl : xs.length ≤ 8) : Sh 200 1 (tN xs) := by
  refine (sh_tup (n := 20) (m := 0) fun p hp => ?_).mono ?_ (Nat.le_refl _)
  · obtain ⟨x, _, rfl⟩ := List.mem_map.mp hp
    exact sh_nm x
  · rw [List.length_map]
    omega
theorem sh_rw {r : Rw} (h1 : r.ne.length ≤ 8) (h2 : r.se.length ≤ 8) (h3 : r.ab.length ≤ 8) : Sh 1000 2 (rwP r) := by
  refine (sh_tup (n := 200) (m := 1) fun p hp => ?_).mono (show 4 * 202 + 3 ≤ 1000 by decide) (Nat.le_refl _)
  simp only [List.mem_cons, List.not_mem_nil, or_false] at hp
  rcases hp with rfl | rfl | rfl | rfl
  · exact (sh_nm _).mono (by decide) (by decide)
  · exact sh_tN h1
  · exact sh_tN h2
  · exact sh_tN h3
def Shw (rs : List Rw) : Prop := rs.length ≤ 8 ∧ ∀ r ∈ rs, r.ne.length ≤ 8 ∧ r.se.length ≤ 8 ∧ r.ab.length ≤ 8
theorem sh_wk {rs : List Rw} (h : Shw rs) : Sh 10000 3 (wkP rs) := by
  have := h.1
  refine (sh_tup (n := 1000) (m := 2) fun p hp => ?_).mono ?_ (Nat.le_refl _)
  · obtain ⟨r, hr, rfl⟩ := List.mem_map.mp hp
    obtain ⟨h1, h2, h3⟩ := h.2 r hr
    exact sh_rw h1 h2 h3
  · rw [List.length_map]
    omega
theorem sh_tupN {n m k : Nat} {ps : List P} (h : ∀ p ∈ ps, Sh n m p) (hl : ps.length ≤ k) : Sh (k * (n + 2) + 3) (m + 1) (.tup ps) := (sh_tup h).mono (Nat.add_le_add_right (Nat.mul_le_mul_right _ hl) 3) (Nat.le_refl _)
theorem repr_of {n m : Nat} {p : P} (h : Sh n m p) (hn : n ≤ 100000 := by decide) (hm : m ≤ 64 := by decide) : bRepr [p] = some (.str (shw p)) := (h.repr hn hm).1
theorem ne_shw {n m : Nat} {p : P} (h : Sh n m p) (hn : n ≤ 100000 := by decide) (hm : m ≤ 64 := by decide) : pNe (.str (shw p)) (.str (shw p)) = some (.bl false) := by
  obtain ⟨b, h1, h2⟩ := ne_txt (h.repr hn hm).2 (h.repr hn hm).2
  rw [h1]
  cases b with
  | false => rfl
  | true => exact absurd rfl (h2.mp rfl)
end FN
namespace FA
open PySem PySem.Spec PyProof.Rows L2 DL GA
open FN (first_row)
noncomputable def B__law_names : FS :=
 (fRet (fLc (iVal (fVar 0)) (gNm 1) fYes (f2 pIx (fVar 1) (fC (.v (.int 0)))) [1]))
noncomputable def F__law_names : FF := runF 2 false B__law_names
noncomputable def B__law_entry : FS :=
 (fRet (f2 pIx (fLc (iVal (fVar 0)) (gNm 2) (fTru (f2 pEq (f2 pIx (fVar 2) (fC (.v (.int 0)))) (fVar 1))) (fVar 2) [2]) (fC (.v (.int 0)))))
noncomputable def F__law_entry : FF := runF 3 false B__law_entry
noncomputable def B__law_fixed_works : FS :=
 (fSeq (fSet (fTup (fCons (fC (.v (.str "a"))) (fCons (fC (.v (.str "ab"))) (fCons (fC (.v (.str "b"))) (fCons (fC (.v (.str "book"))) (fCons (fC (.v (.str "call"))) (fCons (fC (.v (.str "pay"))) (fCons (fC (.v (.str "ship"))) (fCons (fC (.v (.str "zzzzzzzz"))) fNil))))))))) (gNm 0))
 (fSeq (fSet (fCb bTuple (fCons (fLc (iR1 (fCons (fC (.v (.int 8))) fNil)) (gNm 2) fYes (fTup (fCons (f2 pIx (fVar 0) (fVar 2)) (fCons (fIte (fTru (f2 pGt (fVar 2) (fC (.v (.int 0))))) (fSl (fVar 0) (oAt (f2 pSub (fVar 2) (fC (.v (.int 1))))) (oAt (fVar 2))) (fTup fNil)) (fCons (fTup fNil) (fCons (fTup (fCons (fC (.v (.str "again"))) (fCons (fC (.v (.str "ask"))) fNil))) fNil))))) [2]) fNil)) (gNm 1))
 (fSeq (fSet (fCb bTuple (fCons (fLc (iR1 (fCons (fC (.v (.int 8))) fNil)) (gNm 2) fYes (fTup (fCons (f2 pIx (fVar 0) (fVar 2)) (fCons (fTup fNil) (fCons (fCb bTuple (fCons (fCb bSorted (fCons (fLst (fCons (f2 pIx (fVar 0) (f2 pSub (fVar 2) (fC (.v (.int 1))))) (fCons (f2 pIx (fVar 0) (f2 pMod (f2 pAdd (fVar 2) (fC (.v (.int 1)))) (fC (.v (.int 8))))) fNil))) fNil)) fNil)) (fCons (fTup (fCons (fC (.v (.str "undo"))) fNil)) fNil))))) [2]) fNil)) (gNm 3))
 (fSeq (fSet (fCb bTuple (fCons (fLc (iVal (fVar 0)) (gNm 5) fYes (fTup (fCons (fVar 5) (fCons (fTup fNil) (fCons (fTup fNil) (fCons (fTup (fCons (fC (.v (.str "again"))) (fCons (fC (.v (.str "ask"))) (fCons (fC (.v (.str "repeat"))) (fCons (fC (.v (.str "undo"))) fNil))))) fNil))))) [5]) fNil)) (gNm 4))
 (fSeq (fSet (fCb bTuple (fCons (fLc (iR1 (fCons (fC (.v (.int 8))) fNil)) (gNm 2) fYes (fTup (fCons (f2 pIx (fVar 0) (fVar 2)) (fCons (fSl (fVar 0) (oAt (f2 pAdd (fVar 2) (fC (.v (.int 1))))) (oAt (f2 pAdd (fVar 2) (fC (.v (.int 4)))))) (fCons (fSl (fVar 0) oNo (oAt (fVar 2))) (fCons (fTup fNil) fNil))))) [2]) fNil)) (gNm 6))
 (fSeq (fSet (fTup (fCons (fTup (fCons (fC (.v (.str "flight"))) (fCons (fTup fNil) (fCons (fTup fNil) (fCons (fTup (fCons (fC (.v (.str "undo"))) fNil)) fNil))))) (fCons (fTup (fCons (fC (.v (.str "hotel"))) (fCons (fTup fNil) (fCons (fTup (fCons (fC (.v (.str "flight"))) fNil)) (fCons (fTup (fCons (fC (.v (.str "undo"))) fNil)) fNil))))) fNil))) (gNm 7))
 (fSeq (fSet (f2 pAdd (fVar 7) (fTup (fCons (fTup (fCons (fC (.v (.str "mail"))) (fCons (fTup (fCons (fC (.v (.str "pay"))) fNil)) (fCons (fTup fNil) (fCons (fTup (fCons (fC (.v (.str "again"))) (fCons (fC (.v (.str "repeat"))) fNil))) fNil))))) (fCons (fTup (fCons (fC (.v (.str "pay"))) (fCons (fTup (fCons (fC (.v (.str "flight"))) (fCons (fC (.v (.str "hotel"))) fNil))) (fCons (fTup fNil) (fCons (fTup (fCons (fC (.v (.str "ask"))) fNil)) fNil))))) fNil)))) (gNm 7))
 (fRet (fLstB (fCons (fTup (fCons (fTup (fCons (fC (.v (.str "a"))) (fCons (fTup fNil) (fCons (fTup fNil) (fCons (fTup fNil) fNil))))) fNil)) (fCons (fVar 1) (fCons (fVar 3) (fCons (fVar 4) (fCons (fVar 6) (fCons (fVar 7) fNil)))))))))))))))
noncomputable def F__law_fixed_works : FF := runF 8 true B__law_fixed_works
theorem names {o : Ob} {T : Sto} {rs : List Rw} (h : WOk rs) : F__law_names [.v (wkP rs)] (o :: T) = .ok (.v (lN (nm rs))) (o :: T) := by
  have hl := h.len
  refine e_run ?_
  show (B__law_names [some (.v (wkP rs)), none] _).F _
  unfold B__law_names
  refine s_RetE (d := .v (.lst (rs.map fun r => nP r.x))) (S1 := o :: (T ++ [])) (e_lcA (xs := rs) (f := rwP) (own := none) (hh := fun r => nP r.x) (S1 := o :: (T ++ [])) (e_iv (e_var rfl) rfl) own_none (by omega) fun r hr => ?_) (e_closeT ?_)
  · exact e_body e_gNm e_yes fun _ => e_f2 (e_var rfl) e_c (e_l2 rfl rfl o_r0)
  · unfold nm lN
    rw [List.map_map]
    rfl
theorem entry {o : Ob} {T : Sto} {rs : List Rw} {x : Nm} (h : WOk rs) (hx : x ∈ nm rs) : F__law_entry [.v (wkP rs), .v (nP x)] (o :: T) = .ok (.v (rwP (rowOf rs x))) (o :: T) := by
  have hl := h.len
  have e : pIx (.lst ((rs.filter fun r => decide (r.x = x)).map rwP)) (.int 0) = some (rwP (rowOf rs x)) := by
    rw [first_row h.nd hx]
    exact at_nn (j := 0) rfl rfl
  refine e_run ?_
  show (B__law_entry [some (.v (wkP rs)), some (.v (nP x)), none] _).F _
  unfold B__law_entry
  refine s_RetE (d := .v (rwP (rowOf rs x))) (S1 := o :: (T ++ [])) (e_f2 (d := .v (.lst ((rs.filter fun r => decide (r.x = x)).map rwP))) (S1 := o :: (T ++ [])) (e_lc (xs := rs) (f := rwP) (own := none) (q := fun r => decide (r.x = x)) (hh := rwP) (S1 := o :: (T ++ [])) (e_iv (e_var rfl) rfl) own_none (by omega) fun r hr => ?_) e_c (e_l2 rfl rfl e)) e_close
  exact e_body e_gNm (e_tru (e_f2 (e_f2 (e_var rfl) e_c (e_l2 rfl rfl o_r0)) (e_var rfl) (e_l2 rfl rfl o_eqN)) rfl rfl) fun _ => e_var rfl
theorem o_ltI {i j : Int} : pLt (.int i) (.int j) = some (.bl (decide (i < j))) := rfl
end FA
namespace FM
open PySem PySem.Spec PyProof.Rows L2 DL GA GM
open FA (F__law_names F__law_entry AOk)
theorem o_slFromT {α : Type} {f : α → P} {xs : List α} {i : Nat} (h : i ≤ xs.length) : pSl (.tup (xs.map f)) (some (i : Int)) none = some (.tup ((xs.drop i).map f)) := by
  show some (P.tup (cutL (xs.map f) (some (i : Int)) none)) = _
  rw [cut_map, FA.cut_from h]
end FM
namespace FA
open PySem PySem.Spec PyProof.Rows L2 DL GA
def fx0 : List Rw := [⟨lit "a", [], [], []⟩]
def fx1 : List Rw := [⟨lit "a", [], [], [lit "again", lit "ask"]⟩,
    ⟨lit "ab", [lit "a"], [], [lit "again", lit "ask"]⟩,
    ⟨lit "b", [lit "ab"], [], [lit "again", lit "ask"]⟩,
    ⟨lit "book", [lit "b"], [], [lit "again", lit "ask"]⟩,
    ⟨lit "call", [lit "book"], [], [lit "again", lit "ask"]⟩,
    ⟨lit "pay", [lit "call"], [], [lit "again", lit "ask"]⟩,
    ⟨lit "ship", [lit "pay"], [], [lit "again", lit "ask"]⟩,
    ⟨lit "zzzzzzzz", [lit "ship"], [], [lit "again", lit "ask"]⟩]
def fx2 : List Rw := [⟨lit "a", [], [lit "ab", lit "zzzzzzzz"], [lit "undo"]⟩,
    ⟨lit "ab", [], [lit "a", lit "b"], [lit "undo"]⟩,
    ⟨lit "b", [], [lit "ab", lit "book"], [lit "undo"]⟩,
    ⟨lit "book", [], [lit "b", lit "call"], [lit "undo"]⟩,
    ⟨lit "call", [], [lit "book", lit "pay"], [lit "undo"]⟩,
    ⟨lit "pay", [], [lit "call", lit "ship"], [lit "undo"]⟩,
    ⟨lit "ship", [], [lit "pay", lit "zzzzzzzz"], [lit "undo"]⟩,
    ⟨lit "zzzzzzzz", [], [lit "a", lit "ship"], [lit "undo"]⟩]
def fx3 : List Rw := [⟨lit "a", [], [], [lit "again", lit "ask", lit "repeat", lit "undo"]⟩,
    ⟨lit "ab", [], [], [lit "again", lit "ask", lit "repeat", lit "undo"]⟩,
    ⟨lit "b", [], [], [lit "again", lit "ask", lit "repeat", lit "undo"]⟩,
    ⟨lit "book", [], [], [lit "again", lit "ask", lit "repeat", lit "undo"]⟩,
    ⟨lit "call", [], [], [lit "again", lit "ask", lit "repeat", lit "undo"]⟩,
    ⟨lit "pay", [], [], [lit "again", lit "ask", lit "repeat", lit "undo"]⟩,
    ⟨lit "ship", [], [], [lit "again", lit "ask", lit "repeat", lit "undo"]⟩,
    ⟨lit "zzzzzzzz", [], [], [lit "again", lit "ask", lit "repeat", lit "undo"]⟩]
def fx4 : List Rw := [⟨lit "a", [lit "ab", lit "b", lit "book"], [], []⟩,
    ⟨lit "ab", [lit "b", lit "book", lit "call"], [lit "a"], []⟩,
    ⟨lit "b", [lit "book", lit "call", lit "pay"], [lit "a", lit "ab"], []⟩,
    ⟨lit "book", [lit "call", lit "pay", lit "ship"], [lit "a", lit "ab", lit "b"], []⟩,
    ⟨lit "call", [lit "pay", lit "ship", lit "zzzzzzzz"], [lit "a", lit "ab", lit "b", lit "book"], []⟩,
    ⟨lit "pay", [lit "ship", lit "zzzzzzzz"], [lit "a", lit "ab", lit "b", lit "book", lit "call"], []⟩,
    ⟨lit "ship", [lit "zzzzzzzz"], [lit "a", lit "ab", lit "b", lit "book", lit "call", lit "pay"], []⟩,
    ⟨lit "zzzzzzzz", [], [lit "a", lit "ab", lit "b", lit "book", lit "call", lit "pay", lit "ship"], []⟩]
def fx5 : List Rw := [⟨lit "flight", [], [], [lit "undo"]⟩,
    ⟨lit "hotel", [], [lit "flight"], [lit "undo"]⟩,
    ⟨lit "mail", [lit "pay"], [], [lit "again", lit "repeat"]⟩,
    ⟨lit "pay", [lit "flight", lit "hotel"], [], [lit "ask"]⟩]
def fxW : List (List Rw) := [fx0, fx1, fx2, fx3, fx4, fx5]
def wx0 : List Rw := [⟨lit "a", [], [], [lit "again"]⟩,
    ⟨lit "ab", [], [], [lit "again"]⟩,
    ⟨lit "b", [], [], [lit "again"]⟩,
    ⟨lit "book", [], [], [lit "again"]⟩,
    ⟨lit "call", [], [], [lit "again"]⟩,
    ⟨lit "pay", [], [], [lit "again"]⟩,
    ⟨lit "ship", [], [], [lit "again"]⟩,
    ⟨lit "zzzzzzzz", [lit "a", lit "ab", lit "b", lit "book", lit "call", lit "pay", lit "ship"], [], [lit "ask"]⟩]
def wx1 : List Rw := [⟨lit "a", [], [lit "ab", lit "b", lit "book", lit "call", lit "pay", lit "ship", lit "zzzzzzzz"], [lit "again", lit "undo"]⟩,
    ⟨lit "ab", [], [], []⟩,
    ⟨lit "b", [], [], []⟩,
    ⟨lit "book", [], [], []⟩,
    ⟨lit "call", [], [], []⟩,
    ⟨lit "pay", [], [], []⟩,
    ⟨lit "ship", [], [], []⟩,
    ⟨lit "zzzzzzzz", [], [], []⟩]
theorem rg8 {i : Nat} (h : i ∈ List.range 8) : i = 0 ∨ i = 1 ∨ i = 2 ∨ i = 3 ∨ i = 4 ∨ i = 5 ∨ i = 6 ∨ i = 7 := by
  have := List.mem_range.mp h
  omega
theorem o_sort2 {a b : Nm} (h : leN a b = true) (hn : a ≠ b) : bSorted [.lst [nP a, nP b]] = some (.lst [nP a, nP b]) ∧ bSorted [.lst [nP b, nP a]] = some (.lst [nP a, nP b]) := by
  have ha : Asc [a, b] := ⟨by simpa using h, by simpa using hn⟩
  have h1 : bSorted [lN [a, b]] = some (lN (asort [a, b])) := o_sortL (by show (2 : Nat) ≤ 100000; decide)
  have h2 : bSorted [lN [b, a]] = some (lN (asort [b, a])) := o_sortL (by show (2 : Nat) ≤ 100000; decide)
  rw [asort_of ha] at h1
  rw [asort_is (List.Perm.swap a b []) ha] at h2
  exact ⟨h1, h2⟩
theorem rg8E {env : Dnv} {S : Sto} : iR1 (fCons (fC (.v (.int 8))) fNil) env S = .ok ((List.range 8).map (fun i : Nat => P.int (i : Int)), none) S := e_rg (n := 8) (e_cons e_c e_nil) (by decide) (by decide)
theorem leB {a b : Nm} (h : leN a b = true ∧ a.s ≠ b.s) : leN a b = true ∧ a ≠ b := ⟨h.1, fun e => h.2 (congrArg Nm.s e)⟩
def ringE : FE := fCb bTuple (fCons (fCb bSorted (fCons (fLst (fCons (f2 pIx (fVar 0) (f2 pSub (fVar 2) (fC (.v (.int 1))))) (fCons (f2 pIx (fVar 0) (f2 pMod (f2 pAdd (fVar 2) (fC (.v (.int 1)))) (fC (.v (.int 8))))) fNil))) fNil)) fNil)
theorem ring_se {env : Dnv} {S : Sto} {k : Int} {a b : Nm} {ys : List Nm} (h0 : env[0]? = some (some (.v (tN poolA)))) (h2 : env[2]? = some (some (.v (.int k)))) (e1 : pIx (tN poolA) (.int (k - 1)) = some (nP a)) (e2 : pIx (tN poolA) (.int ((k + 1) % 8)) = some (nP b))
    (e3 : bSorted [.lst [nP a, nP b]] = some (lN ys)) : ringE env S = .ok (.v (tN ys)) S := by
  unfold ringE
  have em : pMod (.int (k + 1)) (.int 8) = some (.int ((k + 1) % 8)) := mod_ok (by decide)
  exact e_cb (e_cons (e_cb (e_cons (e_lst (ds := [.v (nP a), .v (nP b)]) (e_cons (e_f2 (e_var h0) (e_f2 (e_var h2) e_c (e_l2 rfl rfl rfl)) (e_l2 rfl rfl e1)) (e_cons (e_f2 (e_var h0) (e_f2 (e_f2 (e_var h2) e_c (e_l2 rfl rfl rfl)) e_c (e_l2 rfl rfl em)) (e_l2 rfl rfl e2)) e_nil)) rfl (by show (2 : Nat) ≤ 100000; decide)) e_nil) (a_cons rfl a_nil) e3) e_nil) (a_cons rfl a_nil) o_tupleN
theorem fixed (S : Sto) : F__law_fixed_works [] S = .ok (.r S.length) (S ++ [.lst (fxW.map wkP)]) := by
  refine of_P ?_
  refine p_run ?_
  show (B__law_fixed_works [none, none, none, none, none, none, none, none] _).F _
  unfold B__law_fixed_works
  refine s_Seq (s_SetE (d := .v (tN poolA)) (S1 := S) (e_tup (ds := poolA.map fun x => .v (nP x)) (e_cons e_c (e_cons e_c (e_cons e_c (e_cons e_c (e_cons e_c (e_cons e_c (e_cons e_c (e_cons e_c e_nil)))))))) rfl (by show (8 : Nat) ≤ 100000; decide)) e_gNm ?_)
  refine s_Seq (s_SetE (d := .v (wkP fx1)) (S1 := S) (e_cb (e_cons (e_lcA (xs := List.range 8) (f := fun i : Nat => P.int (i : Int)) (own := none) (hh := fun i => rwP (fx1.getD i default)) (S1 := S) rg8E own_none (by decide) fun i hi => e_body e_gNm e_yes fun _ => ?_) e_nil) (a_cons rfl a_nil) rfl) e_gNm ?_)
  · rcases rg8 hi with rfl | rfl | rfl | rfl | rfl | rfl | rfl | rfl <;> rfl
  refine s_Seq (s_SetE (d := .v (wkP fx2)) (S1 := S) (e_cb (e_cons (e_lcA (xs := List.range 8) (f := fun i : Nat => P.int (i : Int)) (own := none) (hh := fun i => rwP (fx2.getD i default)) (S1 := S) rg8E own_none (by decide) fun i hi => e_body e_gNm e_yes fun _ => ?_) e_nil) (a_cons rfl a_nil) rfl) e_gNm ?_)
  · have go : ∀ {env : Dnv} {k : Int} {a b : Nm} {ys : List Nm} {x : Nm}, env[0]? = some (some (.v (tN poolA))) → env[2]? = some (some (.v (.int k))) → pIx (tN poolA) (.int k) = some (nP x) → pIx (tN poolA) (.int (k - 1)) = some (nP a) → pIx (tN poolA) (.int ((k + 1) % 8)) = some (nP b) → bSorted [.lst [nP a, nP b]] = some (lN ys) →
        fTup (fCons (f2 pIx (fVar 0) (fVar 2)) (fCons (fTup fNil) (fCons ringE (fCons (fTup (fCons (fC (.v (.str "undo"))) fNil)) fNil)))) env S = .ok (.v (rwP ⟨x, [], ys, [lit "undo"]⟩)) S := fun h0 h2 e0 e1 e2 e3 =>
      e_tup (ds := [_, _, _, _]) (e_cons (e_f2 (e_var h0) (e_var h2) (e_l2 rfl rfl e0)) (e_cons (e_tup e_nil v_nil (by decide)) (e_cons (ring_se h0 h2 e1 e2 e3) (e_cons (e_tup (ds := [.v (nP (lit "undo"))]) (e_cons e_c e_nil) rfl (by show (1 : Nat) ≤ 100000; decide)) e_nil)))) rfl (by show (4 : Nat) ≤ 100000; decide)
    have le : ∀ {a b : Nm}, (leN a b = true ∧ a.s ≠ b.s) → bSorted [.lst [nP a, nP b]] = some (lN [a, b]) ∧ bSorted [.lst [nP b, nP a]] = some (lN [a, b]) := fun h => o_sort2 (leB h).1 (leB h).2
    rcases rg8 hi with rfl | rfl | rfl | rfl | rfl | rfl | rfl | rfl
    · exact go (a := lit "zzzzzzzz") (b := lit "ab") (ys := [lit "ab", lit "zzzzzzzz"]) rfl rfl rfl rfl rfl (le (by decide +kernel)).2
    · exact go (a := lit "a") (b := lit "b") (ys := [lit "a", lit "b"]) rfl rfl rfl rfl rfl (le (by decide +kernel)).1
    · exact go (a := lit "ab") (b := lit "book") (ys := [lit "ab", lit "book"]) rfl rfl rfl rfl rfl (le (by decide +kernel)).1
    · exact go (a := lit "b") (b := lit "call") (ys := [lit "b", lit "call"]) rfl rfl rfl rfl rfl (le (by decide +kernel)).1
    · exact go (a := lit "book") (b := lit "pay") (ys := [lit "book", lit "pay"]) rfl rfl rfl rfl rfl (le (by decide +kernel)).1
    · exact go (a := lit "call") (b := lit "ship") (ys := [lit "call", lit "ship"]) rfl rfl rfl rfl rfl (le (by decide +kernel)).1
    · exact go (a := lit "pay") (b := lit "zzzzzzzz") (ys := [lit "pay", lit "zzzzzzzz"]) rfl rfl rfl rfl rfl (le (by decide +kernel)).1
    · exact go (a := lit "ship") (b := lit "a") (ys := [lit "a", lit "ship"]) rfl rfl rfl rfl rfl (le (by decide +kernel)).2
  refine s_Seq (s_SetE (d := .v (wkP fx3)) (S1 := S) (e_cb (e_cons (e_lcA (xs := poolA) (f := nP) (own := none) (hh := fun x => rwP ⟨x, [], [], abN⟩) (S1 := S) (e_iv (e_var rfl) rfl) own_none (by decide) fun x hx => e_body e_gNm e_yes fun _ => ?_) e_nil) (a_cons rfl a_nil) rfl) e_gNm ?_)
  · exact e_tup (ds := [.v (nP x), .v (tN []), .v (tN []), .v (tN abN)]) (e_cons (e_var rfl) (e_cons (e_tup e_nil v_nil (by decide)) (e_cons (e_tup e_nil v_nil (by decide)) (e_cons (e_tup (ds := abN.map fun x => .v (nP x)) (e_cons e_c (e_cons e_c (e_cons e_c (e_cons e_c e_nil)))) rfl (by show (4 : Nat) ≤ 100000; decide)) e_nil)))) rfl (by show (4 : Nat) ≤ 100000; decide)
  refine s_Seq (s_SetE (d := .v (wkP fx4)) (S1 := S) (e_cb (e_cons (e_lcA (xs := List.range 8) (f := fun i : Nat => P.int (i : Int)) (own := none) (hh := fun i => rwP (fx4.getD i default)) (S1 := S) rg8E own_none (by decide) fun i hi => e_body e_gNm e_yes fun _ => ?_) e_nil) (a_cons rfl a_nil) rfl) e_gNm ?_)
  · rcases rg8 hi with rfl | rfl | rfl | rfl | rfl | rfl | rfl | rfl <;> rfl
  refine s_Seq (s_SetE (d := .v (wkP (fx5.take 2))) (S1 := S) rfl e_gNm ?_)
  refine s_Seq (s_SetE (d := .v (wkP fx5)) (S1 := S) rfl e_gNm ?_)
  refine s_Ret (p_lstB (P_of (a := fxW.map fun w => .v (wkP w)) (S := S) rfl ?_))
  refine p_lstBE (ps := fxW.map wkP) rfl (by show (6 : Nat) ≤ 100000; decide) ?_
  dsimp only
  exact p_closeK ⟨rfl, rfl⟩
def ascB : List Nm → Bool
  | [] => true
  | x :: xs => xs.all (fun y => leN x y && !decide (x.s = y.s)) && ascB xs
theorem ascB_ok : ∀ {xs : List Nm}, ascB xs = true → Asc xs
  | [], _ => Asc.nil
  | x :: xs, h => by
    obtain ⟨h1, h2⟩ := Bool.and_eq_true_iff.mp (show (xs.all (fun y => leN x y && !decide (x.s = y.s)) && ascB xs) = true from h)
    have h3 := ascB_ok h2
    have h4 : ∀ y ∈ xs, leN x y = true ∧ x ≠ y := fun y hy => by
      obtain ⟨a, b⟩ := Bool.and_eq_true_iff.mp (List.all_eq_true.mp h1 y hy)
      exact ⟨a, fun e => by simp [e] at b⟩
    exact ⟨List.pairwise_cons.mpr ⟨fun y hy => (h4 y hy).1, h3.le⟩, List.nodup_cons.mpr ⟨fun hx => (h4 x hx).2 rfl, h3.nd⟩⟩
def inB (x : Nm) (xs : List Nm) : Bool := xs.any fun y => decide (y.s = x.s)
theorem inB_ok {x : Nm} {xs : List Nm} (h : inB x xs = true) : x ∈ xs := by
  obtain ⟨y, hy, e⟩ := List.any_eq_true.mp h
  have : y = x := Nm.inj (of_decide_eq_true e)
  exact this ▸ hy
theorem inB_no {x : Nm} {xs : List Nm} (h : inB x xs = false) : x ∉ xs := fun hx => by
  have : inB x xs = true := List.any_eq_true.mpr ⟨x, hx, by simp⟩
  rw [h] at this
  cases this
def ixB : List Nm → Nm → Nat
  | [], _ => 0
  | x :: xs, y => if x.s = y.s then 0 else ixB xs y + 1
def rowB (ord ms : List Nm) (r : Rw) : Bool := ascB r.ne && r.ne.all (fun y => inB y ms && decide (ixB ord y < ixB ord r.x)) && (ascB r.se && r.se.all (fun y => inB y ms) && !inB r.x r.se) && (r.ab.isSublist abN && (!inB nRepeat r.ab || inB nAgain r.ab))
def wkB (ord : List Nm) (rs : List Rw) : Bool := decide (rs.length ≤ 8) && decide (1 ≤ rs.length) && ascB (nm rs) && rs.all (rowB ord (nm rs)) && (nm rs).all fun x => inB x poolF
theorem wkB_okp {ord : List Nm} {rs : List Rw} (h : wkB ord rs = true) : AOp rs := by
  unfold wkB rowB at h
  simp only [Bool.and_eq_true, decide_eq_true_eq, List.all_eq_true, Bool.or_eq_true, Bool.not_eq_true'] at h
  obtain ⟨⟨⟨⟨h1, h2⟩, h3⟩, h4⟩, h5⟩ := h
  exact ⟨⟨h1, h2, ascB_ok h3, fun r hr => ⟨ascB_ok (h4 r hr).1.1.1, fun y hy => inB_ok ((h4 r hr).1.1.2 y hy).1⟩, fun r hr => ⟨ascB_ok (h4 r hr).1.2.1.1, fun y hy => inB_ok ((h4 r hr).1.2.1.2 y hy), inB_no (h4 r hr).1.2.2⟩,
    ⟨fun y => (ixB ord y : Int), fun r hr y hy => by
      have := ((h4 r hr).1.1.2 y hy).2
      show (ixB ord y : Int) < (ixB ord r.x : Int)
      omega⟩, fun r hr => ⟨List.isSublist_iff_sublist.mp (h4 r hr).2.1, fun h => by
      rcases (h4 r hr).2.2 with h5 | h5
      · exact absurd h (inB_no h5)
      · exact inB_ok h5⟩⟩, fun x hx => inB_ok (h5 x hx)⟩
theorem fx_okp : ∀ rs ∈ fxW, AOp rs := by
  have h : ∀ rs ∈ fxW, wkB (poolA ++ [lit "flight", lit "hotel", lit "pay", lit "mail"]) rs = true ∨ wkB poolA.reverse rs = true ∨ wkB [lit "flight", lit "hotel", lit "pay", lit "mail"] rs = true := by decide +kernel
  intro rs hr
  rcases h rs hr with h | h | h
  · exact wkB_okp h
  · exact wkB_okp h
  · exact wkB_okp h
end FA
namespace FA
open PySem PySem.Spec PyProof.Rows L2 DL GA
noncomputable def B__law_wide_works : FS :=
 (fSeq (fSet (fTup (fCons (fC (.v (.str "a"))) (fCons (fC (.v (.str "ab"))) (fCons (fC (.v (.str "b"))) (fCons (fC (.v (.str "book"))) (fCons (fC (.v (.str "call"))) (fCons (fC (.v (.str "pay"))) (fCons (fC (.v (.str "ship"))) (fCons (fC (.v (.str "zzzzzzzz"))) fNil))))))))) (gNm 0))
 (fSeq (fSet (f2 pAdd (fCb bTuple (fCons (fLc (iVal (fSl (fVar 0) oNo (oAt (fC (.v (.int 7)))))) (gNm 2) fYes (fTup (fCons (fVar 2) (fCons (fTup fNil) (fCons (fTup fNil) (fCons (fTup (fCons (fC (.v (.str "again"))) fNil)) fNil))))) [2]) fNil)) (fTup (fCons (fTup (fCons (fC (.v (.str "zzzzzzzz"))) (fCons (fSl (fVar 0) oNo (oAt (fC (.v (.int 7))))) (fCons (fTup fNil) (fCons (fTup (fCons (fC (.v (.str "ask"))) fNil)) fNil))))) fNil))) (gNm 1))
 (fSeq (fSet (f2 pAdd (fTup (fCons (fTup (fCons (fC (.v (.str "a"))) (fCons (fTup fNil) (fCons (fSl (fVar 0) (oAt (fC (.v (.int 1)))) oNo) (fCons (fTup (fCons (fC (.v (.str "again"))) (fCons (fC (.v (.str "undo"))) fNil))) fNil))))) fNil)) (fCb bTuple (fCons (fLc (iVal (fSl (fVar 0) (oAt (fC (.v (.int 1)))) oNo)) (gNm 2) fYes (fTup (fCons (fVar 2) (fCons (fTup fNil) (fCons (fTup fNil) (fCons (fTup fNil) fNil))))) [2]) fNil))) (gNm 3))
 (fRet (fLst (fCons (fVar 1) (fCons (fVar 3) fNil)))))))
noncomputable def F__law_wide_works : FF := runF 4 false B__law_wide_works
def wxW : List (List Rw) := [wx0, wx1]
theorem wide_works (S : Sto) : F__law_wide_works [] S = .ok (.v (.lst (wxW.map wkP))) S := by
  refine of_P ?_
  refine p_run ?_
  show (B__law_wide_works [none, none, none, none] _).F _
  unfold B__law_wide_works
  refine s_Seq (s_SetE (d := .v (tN poolA)) (S1 := S) (e_tup (ds := poolA.map fun x => .v (nP x)) (e_cons e_c (e_cons e_c (e_cons e_c (e_cons e_c (e_cons e_c (e_cons e_c (e_cons e_c (e_cons e_c e_nil)))))))) rfl (by show (8 : Nat) ≤ 100000; decide)) e_gNm ?_)
  refine s_Seq (s_SetE (d := .v (wkP wx0)) (S1 := S) (e_f2 (d := .v (.tup ((poolA.take 7).map fun x => rwP ⟨x, [], [], [lit "again"]⟩))) (e := .v (.tup [rwP ⟨lit "zzzzzzzz", poolA.take 7, [], [lit "ask"]⟩])) (S1 := S) (S2 := S) (e_cb (e_cons (e_lcA (xs := poolA.take 7) (f := nP) (own := none) (hh := fun x => rwP ⟨x, [], [], [lit "again"]⟩) (S1 := S) (e_iv (e_sl (e_var rfl) e_oNo (e_oAt e_c) rfl rfl) rfl) own_none (by decide) fun x hx => e_body e_gNm e_yes fun _ => ?_) e_nil) (a_cons rfl a_nil) o_tuple) rfl (e_l2 rfl rfl rfl)) e_gNm ?_)
  · exact e_tup (ds := [.v (nP x), .v (tN []), .v (tN []), .v (tN [lit "again"])]) (e_cons (e_var rfl) (e_cons (e_tup e_nil v_nil (by decide)) (e_cons (e_tup e_nil v_nil (by decide)) (e_cons (e_tup (ds := [.v (nP (lit "again"))]) (e_cons e_c e_nil) rfl (by show (1 : Nat) ≤ 100000; decide)) e_nil)))) rfl (by show (4 : Nat) ≤ 100000; decide)
  refine s_Seq (s_SetE (d := .v (wkP wx1)) (S1 := S) (e_f2 (d := .v (.tup [rwP ⟨lit "a", [], poolA.drop 1, [lit "again", lit "undo"]⟩])) (e := .v (.tup ((poolA.drop 1).map fun x => rwP ⟨x, [], [], []⟩))) (S1 := S) (S2 := S) rfl (e_cb (e_cons (e_lcA (xs := poolA.drop 1) (f := nP) (own := none) (hh := fun x => rwP ⟨x, [], [], []⟩) (S1 := S) (e_iv (e_sl (e_var rfl) (e_oAt e_c) e_oNo rfl rfl) rfl) own_none (by decide) fun x hx => e_body e_gNm e_yes fun _ => ?_) e_nil) (a_cons rfl a_nil) o_tuple) (e_l2 rfl rfl rfl)) e_gNm ?_)
  · exact e_tup (ds := [.v (nP x), .v (tN []), .v (tN []), .v (tN [])]) (e_cons (e_var rfl) (e_cons (e_tup e_nil v_nil (by decide)) (e_cons (e_tup e_nil v_nil (by decide)) (e_cons (e_tup e_nil v_nil (by decide)) e_nil)))) rfl (by show (4 : Nat) ≤ 100000; decide)
  refine s_RetE (d := .v (.lst (wxW.map wkP))) (S1 := S) (e_lst (ds := [.v (wkP wx0), .v (wkP wx1)]) (e_cons (e_var rfl) (e_cons (e_var rfl) e_nil)) rfl (by show (2 : Nat) ≤ 100000; decide)) ?_
  exact p_closeV ⟨rfl, List.take_length⟩
end FA
namespace DL
open PySem PySem.Spec PyProof.Rows L2
variable [Tb]
section
variable {X : Cx} {a b : Expr} {f g : FE} {pos : Pos}
theorem d_ixH (hX : SXh X) (ha : PEd X a f) (hb : PEd X b g) (hs : PlainIx b := by intro _ _; rfl) : PEd X (.Subscript a b pos) (f2 pIx f g) := pe_weak (pe_ix (IxR.or ix_seq (ix_dict (by have := hX.units; omega))) ha hb hs) fun _ _ _ => td_op op2_ix
end
end DL
namespace DL
open PySem PySem.Spec PyProof.Rows L2
@[reducible] def tbW (l : List LmT) (w : World) : Tb := ⟨(tbOf l).t, hashStr w⟩
theorem lm_tbW {l : List LmT} {w : World} {K : PySem.W.Frag} : ∀ p ∈ (tbW l w).t K, p.1 ∈ (csF K l).map (·.2) := lm_tb
theorem walk_gW {l : PySem.W.OpenLaw} {n k : Nat} {q : Program} {loose : List Str} {XP : (Str → Option Value) → Heap → Prop} {YP : World → Heap → Prop} {d : DefRec} {F : FF} {x : Str}
    (hn : l.most = some n) (hn2 : n ≤ sizeLine) (hdf : d.params.defaults = []) (hr : Room k callerA)
    (G : ∀ (w : World) (mg : Str → Option Value) (fa : Addr) (h : Heap), YP w h → h.Ns mainGlobals mg → mg d.name = some (.ref fa) →
      ∃ (T : Tb) (K : PySem.W.Frag) (fd : FuncData) (cs : List (Addr × Addr)), K.In h ∧ (∀ p ∈ cs, h.get? p.2 = some tabO) ∧ (∀ p ∈ cs, K.lookup p.2 = none) ∧ (∀ p ∈ cs, PySem.W.CodeHd h p.1 p.2) ∧ (∀ p ∈ T.t K, p.1 ∈ cs.map (·.2)) ∧
        (∀ (s : Shared) (u : Value), BindsTo s fd ⟨[u], []⟩ [(x, u)]) ∧ ∀ base : Heap, K.In base → base.Ns mainGlobals mg → (∀ p ∈ cs, LamX.TabB base mg p.1 p.2) → @FnG T l.prog w K mg base k fa fd [x] F)
    (hF : LawOk F n) : PySem.W.WalkO q loose XP YP l.row.toRowW d [] (fun f vs => PySem.call f vs) := by
  refine Att.attach_call hn hdf fun w s₀ s₁ mg mb fa o pm cd doc a vs ns Gh Y ho hd hcd hmg hobj hints hlen hg => ?_
  obtain ⟨T, K, fd, cs, KX, hT, nT, C, hTb, hb, hG⟩ := G w mg fa _ Y Gh.T.g hmg
  letI := T
  exact law_callG KX Gh.T.g Gh.T.b Gh.T.builtins Gh.T.nolimit hg hT nT C Gh.T.bmain hobj hints hlen (Nat.le_trans hlen hn2) hr hG hTb hb hF
end DL
namespace DL
open PySem PySem.Spec PyProof.Rows L2
theorem lm_memT [Tb] {l : List LmT} {q : LmT} (ht : Tb.t = (tbOf l).t) (h : q ∈ l) (K : PySem.W.Frag) : ((He.cT K q.1).2, q.2 ++ "<lambda>") ∈ Tb.t K := by
  rw [ht]
  exact lm_mem h K
theorem lm_huT [Tb] {l : List LmT} {q : LmT} {K : PySem.W.Frag} (ht : Tb.t = (tbOf l).t) (nd : (l.map fun q => (He.cT K q.1).2).Nodup) (h : q ∈ l) : ∀ p ∈ Tb.t K, p.1 = (He.cT K q.1).2 → p.2 = q.2 ++ "<lambda>" := by
  rw [ht]
  exact lm_hu nd h
end DL
namespace DL
open PySem PySem.Spec PyProof.Rows L2
section
variable {fe : FE} {fa : FA} {ft : FT} {fs : FS} {f g : XE'} {ga : XA} {a b : XS} {t : XT} {env env1 env2 : Dnv} {S S1 S2 S3 : Sto} {d e : D} {ds es dv : List D} {x : Xn} {r : Flx} {F : XF} {k : Bool} {ps : List P} {G : FG}
theorem v_E (h : fe env S = .ok d S1) : xE fe env S = .ok d S1 := by
  unfold xE
  rw [h]
  rfl
theorem v_A (h : fa env S = .ok ds S1) : xA fa env S = .ok ds S1 := by
  unfold xA
  rw [h]
  rfl
theorem v_T (h : ft env S = .ok k S1) : xT ft env S = .ok k S1 := by
  unfold xT
  rw [h]
  rfl
theorem v_xnil : xNil env S = .ok [] S := rfl
theorem v_xcons (h1 : f env S = .ok d S1) (h2 : ga env S1 = .ok ds S2) : xCons f ga env S = .ok (d :: ds) S2 := by
  unfold xCons
  rw [h1, Ox.bind_ok, h2]
  rfl
theorem w_cons1 (h1 : f env S = .ex x S1) : xCons f ga env S = .ex x S1 := by
  unfold xCons
  rw [h1]
  rfl
theorem w_cons2 (h1 : f env S = .ok d S1) (h2 : ga env S1 = .ex x S2) : xCons f ga env S = .ex x S2 := by
  unfold xCons
  rw [h1, Ox.bind_ok, h2]
  rfl
theorem v_xtup (h : ga env S = .ok ds S1) (hv : vals ds = some ps) (hl : ps.length ≤ 100000) : xTup ga env S = .ok (.v (.tup ps)) S1 := by
  unfold xTup
  rw [h, Ox.bind_ok]
  unfold onValsX
  rw [hv]
  exact if_pos hl
theorem w_tup (h : ga env S = .ex x S1) : xTup ga env S = .ex x S1 := by
  unfold xTup
  rw [h]
  rfl
theorem v_call (h : ga env S = .ok ds S1) : xCall F dv ga env S = F (ds ++ dv) S1 := by
  unfold xCall
  rw [h]
  rfl
theorem v_thk {τ : Sto → Ox D} {i : Nat} {A : Addr} (h : env[i]? = some (some (.v (.adr A)))) : xThk i A τ env S = τ S := by
  unfold xThk
  rw [h]
  exact if_pos rfl
theorem z_seq (h1 : a env S = .nx env1 S1) (h2 : b env1 S1 = r) : xSeq a b env S = r := by
  unfold xSeq
  rw [h1]
  exact h2
theorem z_seqX (h1 : a env S = .ex x env1 S1) : xSeq a b env S = .ex x env1 S1 := by
  unfold xSeq
  rw [h1]
  rfl
theorem z_drop (h : f env S = .ok d S1) : xDrop f env S = .nx env S1 := by
  unfold xDrop
  rw [h]
  rfl
theorem z_dropX (h : f env S = .ex x S1) : xDrop f env S = .ex x env S1 := by
  unfold xDrop
  rw [h]
  rfl
theorem z_S (h : fs env S = .nx env1 S1) : xS fs env S = .nx env1 S1 := by
  unfold xS
  rw [h]
  rfl
theorem z_SR (h : fs env S = .rt d S1) : xS fs env S = .rt d S1 := by
  unfold xS
  rw [h]
  rfl
theorem z_set (h : f env S = .ok d S1) (h2 : G d env S1 = .ok env2 S2) : xSet f G env S = .nx env2 S2 := by
  unfold xSet
  rw [h]
  show (match G d env S1 with
  | .ok env2 S2 => Flx.nx env2 S2
  | .bad => .bad) = _
  rw [h2]
theorem z_setX (h : f env S = .ex x S1) : xSet f G env S = .ex x env S1 := by
  unfold xSet
  rw [h]
  rfl
theorem z_ifT (h : t env S = .ok true S1) (h2 : a env S1 = r) : xIf t a b env S = r := by
  unfold xIf
  rw [h]
  exact h2
theorem z_ifF (h : t env S = .ok false S1) (h2 : b env S1 = r) : xIf t a b env S = r := by
  unfold xIf
  rw [h]
  exact h2
theorem z_next : xNext env S = .nx env S := rfl
theorem z_raise {c : Str} {ns : List Str} (h : fa env S = .ok ds S1) (hv : vals ds = some ps) (hl : ps.length = ns.length) : xRaise c ns fa env S = .ex ⟨c, ns.reverse, ps.reverse⟩ env S1 := by
  unfold xRaise
  rw [h]
  simp only [hv]
  exact if_pos hl
theorem fx_nx {r : Flo} {e0 : Dnv} {s0 : Sto} (h : r.F ⟨fun e s => e = e0 ∧ s = s0, fun _ _ => False, fun _ _ => False, fun _ _ => False⟩) : r = .nx e0 s0 := by
  cases r with
  | nx e s => obtain ⟨rfl, rfl⟩ := h; rfl
  | rt d s => exact h.elim
  | bk e s => exact h.elim
  | ct e s => exact h.elim
  | bad => exact h.elim
theorem fx_rt {r : Flo} {d0 : D} {s0 : Sto} (h : r.F ⟨fun _ _ => False, fun d s => d = d0 ∧ s = s0, fun _ _ => False, fun _ _ => False⟩) : r = .rt d0 s0 := by
  cases r with
  | rt d s => obtain ⟨rfl, rfl⟩ := h; rfl
  | nx e s => exact h.elim
  | bk e s => exact h.elim
  | ct e s => exact h.elim
  | bad => exact h.elim
theorem r_rt {n : Nat} {p : P} {B : Sto} (h : b (startD n ds) S = .rt (.v p) (S2 ++ B)) (hl : S2.length = S.length) : runX n false b ds S = .ok (.v p) S2 := by
  unfold runX
  rw [h]
  show Ox.ok (D.v p) ((S2 ++ B).take S.length) = _
  rw [← hl, List.take_left]
theorem r_nx {n : Nat} {B : Sto} (h : b (startD n ds) S = .nx env (S2 ++ B)) (hl : S2.length = S.length) : runX n false b ds S = .ok (.v .non) S2 := by
  unfold runX
  rw [h]
  show Ox.ok (D.v _) ((S2 ++ B).take S.length) = _
  rw [← hl, List.take_left]
theorem r_ex {n : Nat} {keep : Bool} {B : Sto} (h : b (startD n ds) S = .ex x env (S2 ++ B)) (hl : S2.length = S.length) : runX n keep b ds S = .ex x S2 := by
  unfold runX
  rw [h]
  show Ox.ex x ((S2 ++ B).take S.length) = _
  rw [← hl, List.take_left]
end
end DL
namespace RU
open PySem PySem.Spec PyProof.Rows L2 DL GA GM
noncomputable def LX_require_steps_0 : XS :=
 (xIf (xT (fTru (f2 pNotIn (fVar 3) (fVar 2))))
   (xRaise "UnknownStep" ["step"] (fCons (fVar 3) fNil))
   xNext)
noncomputable def BX_require_steps : XS :=
 (xSeq (xS (fSet (fCall GA.F_rows_by_step [] (fCons (fVar 0) fNil)) (gNm 2)))
 (xFor (iVal (fVar 1)) (gNm 3) LX_require_steps_0))
noncomputable def X_require_steps : XF := runX 4 false BX_require_steps
section
variable {o : Ob} {T : Sto} {rs : List Rw} {ps : List Nm} {w x out : Nm}
abbrev unkX (x : Nm) : Xn := ⟨"UnknownStep", ["step"], [nP x]⟩
end
section
variable {o : Ob} {T : Sto} {rs : List Rw} {ps : List Nm} {as pre : List (List Nm)} {w x out : Nm} {k gn : Nat} {st fi : Int}
theorem up {z : Ob} (h : T[k]? = some z) : (o :: T)[k + 1]? = some z := h
end
end RU
namespace K04
open PySem PySem.Spec PyProof.Rows L2 DL
variable [Tb]
theorem lm_law : ((("law", none), "law.<locals>.") : LmT) ∈ hl := by unfold hl; simp
abbrev N_rows_by_step : List Str := ["work", "row"]
abbrev N_require_steps : List Str := ["work", "steps", "known_steps", "step"]
abbrev N_need_order : List Str := ["work", "steps", "rows", "found", "step", "need"]
noncomputable def LX_need_order_0 : FS :=
 (fIf (fAnd (fTru (f2 pNotIn (fVar 4) (fVar 3))) (fTru (fCb bAll (fCons (fLc (iVal (f2 pIx (f2 pIx (fVar 2) (fVar 4)) (fC (.v (.int 1))))) (gNm 5) fYes (fOrV (f2 pIn (fVar 5) (fVar 3)) (f2 pNotIn (fVar 5) (fVar 1))) [5]) fNil))))
    (fSeq (fSet (f2 pAdd (fVar 3) (fTup (fCons (fVar 4) fNil))) (gNm 3))
    fBreak)
    fNext)
noncomputable def LX_need_order_1 : FS :=
 (fFor (iVal (fVar 1)) (gNm 4) LX_need_order_0)
noncomputable def BX_need_order : XS :=
 (xSeq (xDrop (xCall RU.X_require_steps [] (xA (fCons (fVar 0) (fCons (fVar 1) fNil)))))
 (xSeq (xS (fPar 2 3 (fCons (fCall GA.F_rows_by_step [] (fCons (fVar 0) fNil)) (fCons (fTup fNil) fNil))))
 (xSeq (xS (fWhile (fTru (f2 pLt (fCb bLen (fCons (fVar 3) fNil)) (fCb bLen (fCons (fVar 1) fNil)))) LX_need_order_1))
 (xS (fRet (fVar 3))))))
noncomputable def X_need_order : XF := runX 6 false BX_need_order
abbrev N__law_arrangements : List Str := ["_law_names_here", "_law_found", "_law_k", "_law_longer", "_law_one", "_law_name"]
noncomputable def L__law_arrangements_0 : FS :=
 (fDrop (fMt mExtend (fVar 3) (fCons (fLc (iVal (fVar 0)) (gNm 5) (fTru (f2 pNotIn (fVar 5) (fVar 4))) (f2 pAdd (fVar 4) (fTup (fCons (fVar 5) fNil))) [5]) fNil)))
noncomputable def L__law_arrangements_1 : FS :=
 (fSeq (fSet (fLstB fNil) (gNm 3))
  (fSeq (fFor (iVal (fVar 1)) (gNm 4) L__law_arrangements_0)
  (fSet (fVar 3) (gNm 1))))
noncomputable def B__law_arrangements : FS :=
 (fSeq (fSet (fLst (fCons (fTup fNil) fNil)) (gNm 1))
 (fSeq (fFor (iR1 (fCons (fCb bLen (fCons (fVar 0) fNil)) fNil)) (gNm 2) L__law_arrangements_1)
 (fRet (fVar 1))))
noncomputable def F__law_arrangements : FF := runF 6 false B__law_arrangements
abbrev N__law_entry : List Str := ["_law_work", "_law_name", "_law_entry_here"]
abbrev N__law_is_ordered : List Str := ["_law_work", "_law_row", "_law_k", "_law_own"]
noncomputable def L__law_is_ordered_0 : FS :=
 (fIf (fTru (f2 pNe (fLc (iVal (f2 pIx (fCall FA.F__law_entry [] (fCons (fVar 0) (fCons (f2 pIx (fVar 1) (fVar 2)) fNil))) (fC (.v (.int 1))))) (gNm 3) (fTru (f2 pIn (fVar 3) (fSl (fVar 1) (oAt (fVar 2)) oNo))) (fVar 3) [3]) (fLst fNil)))
   (fRet (fC (.v (.bl false))))
   fNext)
noncomputable def B__law_is_ordered : FS :=
 (fSeq (fFor (iR1 (fCons (fCb bLen (fCons (fVar 1) fNil)) fNil)) (gNm 2) L__law_is_ordered_0)
 (fRet (fC (.v (.bl true)))))
noncomputable def F__law_is_ordered : FF := runF 4 false B__law_is_ordered
abbrev N__law_expected : List Str := ["_law_work", "_law_some", "_law_row", "_law_found", "_law_name", "_law_waits", "_law_own"]
noncomputable def L__law_expected_0 : FS :=
 (fSeq (fSet (fLc (iVal (f2 pIx (fCall FA.F__law_entry [] (fCons (fVar 0) (fCons (fVar 4) fNil))) (fC (.v (.int 1))))) (gNm 6) (fAnd (fTru (f2 pIn (fVar 6) (fVar 1))) (fTru (f2 pNotIn (fVar 6) (fVar 3)))) (fVar 6) [6]) (gNm 5))
   (fIf (fAnd (fTru (f2 pNotIn (fVar 4) (fVar 3))) (fTru (f2 pEq (fVar 5) (fLst fNil))))
    (fSeq (fSet (f2 pAdd (fVar 3) (fTup (fCons (fVar 4) fNil))) (gNm 3))
    fBreak)
    fNext))
noncomputable def L__law_expected_1 : FS :=
 (fFor (iVal (fVar 1)) (gNm 4) L__law_expected_0)
noncomputable def B__law_expected : FS :=
 (fSeq (fIf (fTru (f2 pLt (fCb bLen (fCons (fVar 1) fNil)) (fC (.v (.int 5)))))
  (fRet (fCb MN.bMin1 (fCons (fLc (iVal (fCall F__law_arrangements [] (fCons (fVar 1) fNil))) (gNm 2) (fTru (fCall F__law_is_ordered [] (fCons (fVar 0) (fCons (fVar 2) fNil)))) (fVar 2) [2]) fNil)))
  fNext)
 (fSeq (fSet (fTup fNil) (gNm 3))
 (fSeq (fWhile (fTru (f2 pLt (fCb bLen (fCons (fVar 3) fNil)) (fCb bLen (fCons (fVar 1) fNil)))) L__law_expected_1)
 (fRet (fVar 3)))))
noncomputable def F__law_expected : FF := runF 7 false B__law_expected
abbrev N__law_fixed_works : List Str := ["_law_names_here", "_law_chain", "_law_k", "_law_ring", "_law_free", "_law_name", "_law_back", "_law_trip"]
abbrev N__law_names : List Str := ["_law_work", "_law_entry_here"]
abbrev N__law_class_flags : List Str := ["_law_e", "_law_found"]
noncomputable def BE__law_class_flags : Addr → Addr → Str → FS := fun a dd y =>
 (fSeq (fSet (fLst (fCons (fIsE a dd y 0 cs_InvalidPaper) (fCons (fIsE a dd y 0 cs_UnknownStep) (fCons (fIsE a dd y 0 cs_ImpossibleMove) fNil)))) (gNm 1))
 (fSeq (fSet (f2 pAdd (fVar 1) (fLst (fCons (fIsE a dd y 0 cs_InvalidPurchase) (fCons (fIsE a dd y 0 cs_NothingToUndo) fNil)))) (gNm 1))
 (fSeq (fSet (f2 pAdd (fVar 1) (fLst (fCons (fIsE a dd y 0 cs_InvalidText) (fCons (fIsE a dd y 0 cs_InvalidRow) fNil)))) (gNm 1))
 (fSeq (fSet (f2 pAdd (fVar 1) (fLst (fCons (fIsE a dd y 0 cs_PaperError) (fCons (fIsE a dd y 0 cs_WorkError) (fCons (fIsE a dd y 0 cs_TextError) fNil))))) (gNm 1))
 (fRet (f2 pAdd (fVar 1) (fLst (fCons (fIsE a dd y 0 cs_MaybeError) (fCons (fIsE a dd y 0 cs_ValueError) fNil)))))))))
noncomputable def FE__law_class_flags : Addr → Addr → Str → FF := fun a dd y => runF 2 false (BE__law_class_flags a dd y)
abbrev N__law_outcome : List Str := ["_law_ask", "_law_found", "_law_e", "_law_flags", "_law_at", "_law_k", "_law_is_pure"]
noncomputable def H__law_outcome_0 : Addr → Addr → Str → FS :=
 fun a dd y =>
 (fSeq (fSet (fCall (FE__law_class_flags a dd y) [] (fCons (fVar 2) fNil)) (gNm 3))
  (fSeq (fSet (fLc (iR1 (fCons (fC (.v (.int 7))) fNil)) (gNm 5) (fTru (f2 pIx (fVar 3) (fVar 5))) (fVar 5) [5]) (gNm 4))
  (fSeq (fSet (fC (.v (.bl false))) (gNm 6))
  (fSeq (fIf (fTru (f2 pEq (fCb bLen (fCons (fVar 4) fNil)) (fC (.v (.int 1)))))
   (fSet (f2 pEq (fSl (fVar 3) (oAt (fC (.v (.int 7)))) oNo) (fLst (fCons (f2 pEq (f2 pIx (fVar 4) (fC (.v (.int 0)))) (fC (.v (.int 0)))) (fCons (CH.fCh pLt pLt (fC (.v (.int 0))) (f2 pIx (fVar 4) (fC (.v (.int 0)))) (fC (.v (.int 5)))) (fCons (f2 pGt (f2 pIx (fVar 4) (fC (.v (.int 0)))) (fC (.v (.int 4)))) (fCons (fC (.v (.bl true))) (fCons (fC (.v (.bl true))) fNil))))))) (gNm 6))
   fNext)
  (fIf (fAnd (fTru (fVar 6)) (fTru (f2 pEq (f2 pIx (fVar 4) (fC (.v (.int 0)))) (fC (.v (.int 0))))))
   (fSet (fTup (fCons (fC (.v (.str "paper"))) (fCons (fXg ks_word a dd y 2 "word") (fCons (fXg ks_at a dd y 2 "at") fNil)))) (gNm 1))
   (fIf (fAnd (fTru (fVar 6)) (fTru (f2 pEq (f2 pIx (fVar 4) (fC (.v (.int 0)))) (fC (.v (.int 1))))))
    (fSet (fTup (fCons (fC (.v (.str "step"))) (fCons (fXg ks_step a dd y 2 "step") fNil))) (gNm 1))
    (fIf (fAnd (fTru (fVar 6)) (fTru (f2 pEq (f2 pIx (fVar 4) (fC (.v (.int 0)))) (fC (.v (.int 2))))))
     (fSet (fTup (fCons (fC (.v (.str "move"))) (fCons (fXg ks_move a dd y 2 "move") (fCons (fXg ks_reason a dd y 2 "reason") fNil)))) (gNm 1))
     (fIf (fAnd (fTru (fVar 6)) (fTru (f2 pEq (f2 pIx (fVar 4) (fC (.v (.int 0)))) (fC (.v (.int 5))))))
      (fSet (fTup (fCons (fC (.v (.str "text"))) (fCons (fXg ks_line a dd y 2 "line") (fCons (fXg ks_field a dd y 2 "field") fNil)))) (gNm 1))
      fNext))))))))
noncomputable def BT__law_outcome (f : Addr) (τ : Sto → Ox D) : FS := dS
 (xSeq (xS (fSet (fTup (fCons (fC (.v (.str "other"))) fNil)) (gNm 1)))
 (xSeq (xUni fun ad => tryU ad (xSet (xTup (xCons (xE (fC (.v (.str "result")))) (xCons (xThk 0 f τ) xNil))) (gNm 1)) [⟨cs_MaybeError, (some 2), H__law_outcome_0⟩])
 (xS (fRet (fVar 1)))))
noncomputable def G__law_outcome : LF := runL 7 false BT__law_outcome
abbrev N__law_draw : List Str := ["_law_reader_here", "_law_many", "_law_calls", "_law_figure", "_law_spot", "_law_cells", "_law_cell", "_law_once"]
abbrev N__law_random_set : List Str := ["_law_reader_here", "_law_work", "_law_way", "_law_one"]
noncomputable def B__law_random_set : FS :=
 (fSeq (fSet (fCall FA.F__law_draw [] (fCons (fVar 0) (fCons (fC (.v (.int 5))) fNil))) (gNm 2))
 (fRet (fCb bTuple (fCons (fLc (iVal (fCall FA.F__law_names [] (fCons (fVar 1) fNil))) (gNm 3) (fOr (fTru (f2 pEq (fVar 2) (fC (.v (.int 0))))) (fAnd (fTru (f2 pGt (fVar 2) (fC (.v (.int 1))))) (fTru (f2 pGt (fCall FA.F__law_draw [] (fCons (fVar 0) (fCons (fVar 2) fNil))) (fC (.v (.int 0))))))) (fVar 3) [3]) fNil))))
noncomputable def F__law_random_set : FF := runF 4 false B__law_random_set
abbrev N__law_random_abilities : List Str := ["_law_reader_here", "_law_found", "_law_one"]
abbrev N__law_random_some : List Str := ["_law_reader_here", "_law_names_here", "_law_most", "_law_count", "_law_k"]
abbrev N__law_random_work : List Str := ["_law_reader_here", "_law_most", "_law_pool", "_law_order", "_law_found", "_law_k", "_law_others", "_law_needs", "_law_seals"]
abbrev N__law_reader : List Str := ["_law_script"]
abbrev N__law_unknown : List Str := ["_law_work", "_law_names_here", "_law_odd", "_law_name"]
noncomputable def B__law_unknown : FS :=
 (fSeq (fSet (fLc (iVal (fVar 1)) (gNm 3) (fTru (f2 pNotIn (fVar 3) (fCall FA.F__law_names [] (fCons (fVar 0) fNil)))) (fVar 3) [3]) (gNm 2))
 (fRet (fIte (fTru (f2 pNe (fVar 2) (fLst fNil))) (fTup (fCons (fC (.v (.str "step"))) (fCons (f2 pIx (fVar 2) (fC (.v (.int 0)))) fNil))) (fC (.v .non)))))
noncomputable def F__law_unknown : FF := runF 4 false B__law_unknown
abbrev N__law_wide_works : List Str := ["_law_names_here", "_law_first", "_law_name", "_law_second"]
abbrev N_law : List Str := ["_law_script", "_law_reader_here", "_law_cases", "_law_k", "_law_turned", "_law_entry_here", "_law_work", "_law_saved", "_law_every", "_law_some", "_law_want"]
noncomputable def L_law_0 : FS :=
 (fDrop (fMt mAppend (fVar 2) (fCons (fCall FA.F__law_random_work [] (fCons (fVar 1) (fCons (fC (.v (.int 8))) fNil))) fNil)))
noncomputable def L_law_1 : FS :=
 (fSeq (fSet (fCall F__law_expected [] (fCons (fVar 6) (fCons (fVar 9) fNil))) (gNm 10))
   (fIf (fTru (f2 pNe (fCb bRepr (fCons (fLam G__law_outcome (xCall X_need_order [] (xA (fCons (fVar 6) (fCons (fVar 9) fNil))))) fNil)) (fCb bRepr (fCons (fTup (fCons (fC (.v (.str "result"))) (fCons (fVar 10) fNil))) fNil))))
    (fRet (fC (.v (.bl false))))
    fNext))
noncomputable def L_law_2 : FS :=
 (fSeq (fSet (fCall F__law_unknown [] (fCons (fVar 6) (fCons (fVar 9) fNil))) (gNm 10))
   (fIf (fOr (fTru (f2 pNe (fCb bRepr (fCons (fLam G__law_outcome (xCall X_need_order [] (xA (fCons (fVar 6) (fCons (fVar 9) fNil))))) fNil)) (fCb bRepr (fCons (fVar 10) fNil)))) (fTru (f2 pNe (fCb bRepr (fCons (fVar 6) fNil)) (fVar 7))))
    (fRet (fC (.v (.bl false))))
    fNext))
noncomputable def L_law_3 : FS :=
 (fSeq (fPar 7 8 (fCons (fCb bRepr (fCons (fVar 6) fNil)) (fCons (fCb bTuple (fCons (fCall FA.F__law_names [] (fCons (fVar 6) fNil)) fNil)) fNil)))
  (fSeq (fFor (iVal (f2 pAdd (fLst (fCons (fVar 8) (fCons (fTup fNil) (fCons (fSl (fVar 8) oNo (oAt (fC (.v (.int 4))))) (fCons (fSl (fVar 8) (oAt (f1 pNeg (fC (.v (.int 4))))) oNo) fNil))))) (fLc (iR1 (fCons (fC (.v (.int 3))) fNil)) (gNm 3) fYes (fCall F__law_random_set [] (fCons (fVar 1) (fCons (fVar 6) fNil))) [3]))) (gNm 9) L_law_1)
  (fFor (iVal (fTup (fCons (fTup (fCons (fC (.v (.str "qq"))) fNil)) (fCons (fCb bTuple (fCons (fCb bSorted (fCons (f2 pAdd (fSl (fVar 8) oNo (oAt (fC (.v (.int 2))))) (fTup (fCons (fC (.v (.str "aa"))) (fCons (fC (.v (.str "zz"))) fNil)))) fNil)) fNil)) fNil)))) (gNm 9) L_law_2)))
noncomputable def B_law : FS :=
 (fSeq (fSet (fCall FA.F__law_reader [] (fCons (fVar 0) fNil)) (gNm 1))
 (fSeq (fSet (fCall FA.F__law_fixed_works [] fNil) (gNm 2))
 (fSeq (fFor (iR1 (fCons (fC (.v (.int 6))) fNil)) (gNm 3) L_law_0)
 (fSeq (fSet (fTup (fCons (fTup (fCons (fC (.v (.str "a"))) (fCons (fTup (fCons (fC (.v (.str "ab"))) (fCons (fC (.v (.str "b"))) (fCons (fC (.v (.str "book"))) (fCons (fC (.v (.str "call"))) (fCons (fC (.v (.str "pay"))) (fCons (fC (.v (.str "ship"))) (fCons (fC (.v (.str "zzzzzzzz"))) fNil)))))))) (fCons (fTup fNil) (fCons (fTup fNil) fNil))))) fNil)) (gNm 4))
 (fSeq (fSet (fAddB (f2 pAdd (fVar 2) (fCall FA.F__law_wide_works [] fNil)) (fLst (fCons (f2 pAdd (fVar 4) (fCb bTuple (fCons (fLc (iVal (fSl (f2 pIx (fVar 2) (fC (.v (.int 1)))) (oAt (fC (.v (.int 1)))) oNo)) (gNm 5) fYes (f2 pAdd (fSl (fVar 5) oNo (oAt (fC (.v (.int 1))))) (fTup (fCons (fTup fNil) (fCons (fTup fNil) (fCons (fTup fNil) fNil))))) [5]) fNil))) fNil))) (gNm 2))
 (fSeq (fFor (iVal (fVar 2)) (gNm 6) L_law_3)
 (fRet (fC (.v (.bl true))))))))))
noncomputable def F_law : FF := runF 11 false B_law
abbrev Ni_UnknownStep : List Str := ["self", "step"]
structure Cf (w : World) (K : PySem.W.Frag) (mg : Str → Option Value) where
  k_rows_by_step : FuncData
  d_rows_by_step : FunD K "rows_by_step" "rows_by_step" (defArgs s_rows_by_step) (defBody s_rows_by_step) (defScope s_rows_by_step) [] [] (He.ga K "rows_by_step") k_rows_by_step
  g_rows_by_step : mg "rows_by_step" = some (.ref (He.ga K "rows_by_step"))
  k_require_steps : FuncData
  d_require_steps : FunD K "require_steps" "require_steps" (defArgs s_require_steps) (defBody s_require_steps) (defScope s_require_steps) [] [] (He.ga K "require_steps") k_require_steps
  g_require_steps : mg "require_steps" = some (.ref (He.ga K "require_steps"))
  k_need_order : FuncData
  d_need_order : FunD K "need_order" "need_order" (defArgs s_need_order) (defBody s_need_order) (defScope s_need_order) [] [] (He.ga K "need_order") k_need_order
  g_need_order : mg "need_order" = some (.ref (He.ga K "need_order"))
  k__law_arrangements : FuncData
  d__law_arrangements : FunD K "_law_arrangements" "_law_arrangements" (defArgs s__law_arrangements) (defBody s__law_arrangements) (defScope s__law_arrangements) [] [] (He.ga K "_law_arrangements") k__law_arrangements
  g__law_arrangements : mg "_law_arrangements" = some (.ref (He.ga K "_law_arrangements"))
  k__law_entry : FuncData
  d__law_entry : FunD K "_law_entry" "_law_entry" (defArgs s__law_entry) (defBody s__law_entry) (defScope s__law_entry) [] [] (He.ga K "_law_entry") k__law_entry
  g__law_entry : mg "_law_entry" = some (.ref (He.ga K "_law_entry"))
  k__law_is_ordered : FuncData
  d__law_is_ordered : FunD K "_law_is_ordered" "_law_is_ordered" (defArgs s__law_is_ordered) (defBody s__law_is_ordered) (defScope s__law_is_ordered) [] [] (He.ga K "_law_is_ordered") k__law_is_ordered
  g__law_is_ordered : mg "_law_is_ordered" = some (.ref (He.ga K "_law_is_ordered"))
  k__law_expected : FuncData
  d__law_expected : FunD K "_law_expected" "_law_expected" (defArgs s__law_expected) (defBody s__law_expected) (defScope s__law_expected) [] [] (He.ga K "_law_expected") k__law_expected
  g__law_expected : mg "_law_expected" = some (.ref (He.ga K "_law_expected"))
  k__law_fixed_works : FuncData
  d__law_fixed_works : FunD K "_law_fixed_works" "_law_fixed_works" (defArgs s__law_fixed_works) (defBody s__law_fixed_works) (defScope s__law_fixed_works) [] [] (He.ga K "_law_fixed_works") k__law_fixed_works
  g__law_fixed_works : mg "_law_fixed_works" = some (.ref (He.ga K "_law_fixed_works"))
  k__law_names : FuncData
  d__law_names : FunD K "_law_names" "_law_names" (defArgs s__law_names) (defBody s__law_names) (defScope s__law_names) [] [] (He.ga K "_law_names") k__law_names
  g__law_names : mg "_law_names" = some (.ref (He.ga K "_law_names"))
  k__law_class_flags : FuncData
  d__law_class_flags : FunD K "_law_class_flags" "_law_class_flags" (defArgs s__law_class_flags) (defBody s__law_class_flags) (defScope s__law_class_flags) [] [] (He.ga K "_law_class_flags") k__law_class_flags
  g__law_class_flags : mg "_law_class_flags" = some (.ref (He.ga K "_law_class_flags"))
  k__law_outcome : FuncData
  d__law_outcome : FunD K "_law_outcome" "_law_outcome" (defArgs s__law_outcome) (defBody s__law_outcome) (defScope s__law_outcome) [] [] (He.ga K "_law_outcome") k__law_outcome
  g__law_outcome : mg "_law_outcome" = some (.ref (He.ga K "_law_outcome"))
  k__law_draw : FuncData
  d__law_draw : FunD K "_law_draw" "_law_draw" (defArgs s__law_draw) (defBody s__law_draw) (defScope s__law_draw) [] [] (He.ga K "_law_draw") k__law_draw
  g__law_draw : mg "_law_draw" = some (.ref (He.ga K "_law_draw"))
  k__law_random_set : FuncData
  d__law_random_set : FunD K "_law_random_set" "_law_random_set" (defArgs s__law_random_set) (defBody s__law_random_set) (defScope s__law_random_set) [] [] (He.ga K "_law_random_set") k__law_random_set
  g__law_random_set : mg "_law_random_set" = some (.ref (He.ga K "_law_random_set"))
  k__law_random_abilities : FuncData
  d__law_random_abilities : FunD K "_law_random_abilities" "_law_random_abilities" (defArgs s__law_random_abilities) (defBody s__law_random_abilities) (defScope s__law_random_abilities) [] [] (He.ga K "_law_random_abilities") k__law_random_abilities
  g__law_random_abilities : mg "_law_random_abilities" = some (.ref (He.ga K "_law_random_abilities"))
  k__law_random_some : FuncData
  d__law_random_some : FunD K "_law_random_some" "_law_random_some" (defArgs s__law_random_some) (defBody s__law_random_some) (defScope s__law_random_some) [] [] (He.ga K "_law_random_some") k__law_random_some
  g__law_random_some : mg "_law_random_some" = some (.ref (He.ga K "_law_random_some"))
  k__law_random_work : FuncData
  d__law_random_work : FunD K "_law_random_work" "_law_random_work" (defArgs s__law_random_work) (defBody s__law_random_work) (defScope s__law_random_work) [] [] (He.ga K "_law_random_work") k__law_random_work
  g__law_random_work : mg "_law_random_work" = some (.ref (He.ga K "_law_random_work"))
  k__law_reader : FuncData
  d__law_reader : FunD K "_law_reader" "_law_reader" (defArgs s__law_reader) (defBody s__law_reader) (defScope s__law_reader) [] [] (He.ga K "_law_reader") k__law_reader
  g__law_reader : mg "_law_reader" = some (.ref (He.ga K "_law_reader"))
  k__law_unknown : FuncData
  d__law_unknown : FunD K "_law_unknown" "_law_unknown" (defArgs s__law_unknown) (defBody s__law_unknown) (defScope s__law_unknown) [] [] (He.ga K "_law_unknown") k__law_unknown
  g__law_unknown : mg "_law_unknown" = some (.ref (He.ga K "_law_unknown"))
  k__law_wide_works : FuncData
  d__law_wide_works : FunD K "_law_wide_works" "_law_wide_works" (defArgs s__law_wide_works) (defBody s__law_wide_works) (defScope s__law_wide_works) [] [] (He.ga K "_law_wide_works") k__law_wide_works
  g__law_wide_works : mg "_law_wide_works" = some (.ref (He.ga K "_law_wide_works"))
  k_law : FuncData
  d_law : FunD K "law" "law" (defArgs s_law) (defBody s_law) (defScope s_law) [] [] (He.ga K "law") k_law
  g_law : mg "law" = some (.ref (He.ga K "law"))
  n_ValueError : mg "ValueError" = none
  n_all : mg "all" = none
  n_int : mg "int" = none
  n_isinstance : mg "isinstance" = none
  n_len : mg "len" = none
  n_list : mg "list" = none
  n_min : mg "min" = none
  n_range : mg "range" = none
  n_repr : mg "repr" = none
  n_set : mg "set" = none
  n_sorted : mg "sorted" = none
  n_tuple : mg "tuple" = none
  g_UnknownStep : mg "UnknownStep" = some (.ref (He.ga K "UnknownStep"))
  g_MaybeError : mg "MaybeError" = some (.ref (He.ga K "MaybeError"))
  g_ImpossibleMove : mg "ImpossibleMove" = some (.ref (He.ga K "ImpossibleMove"))
  g_InvalidPaper : mg "InvalidPaper" = some (.ref (He.ga K "InvalidPaper"))
  g_NothingToUndo : mg "NothingToUndo" = some (.ref (He.ga K "NothingToUndo"))
  g_InvalidPurchase : mg "InvalidPurchase" = some (.ref (He.ga K "InvalidPurchase"))
  g_InvalidRow : mg "InvalidRow" = some (.ref (He.ga K "InvalidRow"))
  g_InvalidText : mg "InvalidText" = some (.ref (He.ga K "InvalidText"))
  g_TextError : mg "TextError" = some (.ref (He.ga K "TextError"))
  g_WorkError : mg "WorkError" = some (.ref (He.ga K "WorkError"))
  g_PaperError : mg "PaperError" = some (.ref (He.ga K "PaperError"))
  k_UnknownStep_init : FuncData
  i_UnknownStep : FunD K "__init__" "UnknownStep.__init__" (defArgs si_UnknownStep) (defBody si_UnknownStep) (defScope si_UnknownStep) [] [] (He.ma K (He.ga K "UnknownStep") "__init__") k_UnknownStep_init
  x_UnknownStep : XcC K "UnknownStep" "WorkError" ["step"]
  e_MaybeError : EmC K (.ref (He.ga K "MaybeError")) cs_MaybeError
  e_ImpossibleMove : EmC K (.ref (He.ga K "ImpossibleMove")) cs_ImpossibleMove
  e_UnknownStep : EmC K (.ref (He.ga K "UnknownStep")) cs_UnknownStep
  e_InvalidPaper : EmC K (.ref (He.ga K "InvalidPaper")) cs_InvalidPaper
  e_NothingToUndo : EmC K (.ref (He.ga K "NothingToUndo")) cs_NothingToUndo
  e_InvalidPurchase : EmC K (.ref (He.ga K "InvalidPurchase")) cs_InvalidPurchase
  e_InvalidRow : EmC K (.ref (He.ga K "InvalidRow")) cs_InvalidRow
  e_InvalidText : EmC K (.ref (He.ga K "InvalidText")) cs_InvalidText
  e_TextError : EmC K (.ref (He.ga K "TextError")) cs_TextError
  e_WorkError : EmC K (.ref (He.ga K "WorkError")) cs_WorkError
  e_PaperError : EmC K (.ref (He.ga K "PaperError")) cs_PaperError
  e_ValueError : EmC K (.type "ValueError") cs_ValueError
  hw : Tb.hf = hashStr w
  ht : Tb.t = (tbOf hl).t
  lm : (hl.map fun q => (He.cT K q.1).2).Nodup
theorem sc_rows_by_step : FnScope N_rows_by_step ["work"] (defScope s_rows_by_step) := ⟨rfl, rfl, rfl, by decide +kernel, rfl, by decide +kernel, by decide +kernel⟩
theorem sc_require_steps : FnScope N_require_steps ["work", "steps"] (defScope s_require_steps) := ⟨rfl, rfl, rfl, by decide +kernel, rfl, by decide +kernel, by decide +kernel⟩
theorem sc_need_order : FnScope N_need_order ["work", "steps"] (defScope s_need_order) := ⟨rfl, rfl, rfl, by decide +kernel, rfl, by decide +kernel, by decide +kernel⟩
theorem sc__law_arrangements : FnScope N__law_arrangements ["_law_names_here"] (defScope s__law_arrangements) := ⟨rfl, rfl, rfl, by decide +kernel, rfl, by decide +kernel, by decide +kernel⟩
theorem sc__law_entry : FnScope N__law_entry ["_law_work", "_law_name"] (defScope s__law_entry) := ⟨rfl, rfl, rfl, by decide +kernel, rfl, by decide +kernel, by decide +kernel⟩
theorem sc__law_is_ordered : FnScope N__law_is_ordered ["_law_work", "_law_row"] (defScope s__law_is_ordered) := ⟨rfl, rfl, rfl, by decide +kernel, rfl, by decide +kernel, by decide +kernel⟩
theorem sc__law_expected : FnScope N__law_expected ["_law_work", "_law_some"] (defScope s__law_expected) := ⟨rfl, rfl, rfl, by decide +kernel, rfl, by decide +kernel, by decide +kernel⟩
theorem sc__law_fixed_works : FnScope N__law_fixed_works [] (defScope s__law_fixed_works) := ⟨rfl, rfl, rfl, by decide +kernel, rfl, by decide +kernel, by decide +kernel⟩
theorem sc__law_names : FnScope N__law_names ["_law_work"] (defScope s__law_names) := ⟨rfl, rfl, rfl, by decide +kernel, rfl, by decide +kernel, by decide +kernel⟩
theorem sc__law_class_flags : FnScope N__law_class_flags ["_law_e"] (defScope s__law_class_flags) := ⟨rfl, rfl, rfl, by decide +kernel, rfl, by decide +kernel, by decide +kernel⟩
theorem sc__law_outcome : FnScope N__law_outcome ["_law_ask"] (defScope s__law_outcome) := ⟨rfl, rfl, rfl, by decide +kernel, rfl, by decide +kernel, by decide +kernel⟩
theorem sc__law_draw : FnScope N__law_draw ["_law_reader_here", "_law_many"] (defScope s__law_draw) := ⟨rfl, rfl, rfl, by decide +kernel, rfl, by decide +kernel, by decide +kernel⟩
theorem sc__law_random_set : FnScope N__law_random_set ["_law_reader_here", "_law_work"] (defScope s__law_random_set) := ⟨rfl, rfl, rfl, by decide +kernel, rfl, by decide +kernel, by decide +kernel⟩
theorem sc__law_random_abilities : FnScope N__law_random_abilities ["_law_reader_here"] (defScope s__law_random_abilities) := ⟨rfl, rfl, rfl, by decide +kernel, rfl, by decide +kernel, by decide +kernel⟩
theorem sc__law_random_some : FnScope N__law_random_some ["_law_reader_here", "_law_names_here", "_law_most"] (defScope s__law_random_some) := ⟨rfl, rfl, rfl, by decide +kernel, rfl, by decide +kernel, by decide +kernel⟩
theorem sc__law_random_work : FnScope N__law_random_work ["_law_reader_here", "_law_most"] (defScope s__law_random_work) := ⟨rfl, rfl, rfl, by decide +kernel, rfl, by decide +kernel, by decide +kernel⟩
theorem sc__law_reader : FnScope N__law_reader ["_law_script"] (defScope s__law_reader) := ⟨rfl, rfl, rfl, by decide +kernel, rfl, by decide +kernel, by decide +kernel⟩
theorem sc__law_unknown : FnScope N__law_unknown ["_law_work", "_law_names_here"] (defScope s__law_unknown) := ⟨rfl, rfl, rfl, by decide +kernel, rfl, by decide +kernel, by decide +kernel⟩
theorem sc__law_wide_works : FnScope N__law_wide_works [] (defScope s__law_wide_works) := ⟨rfl, rfl, rfl, by decide +kernel, rfl, by decide +kernel, by decide +kernel⟩
theorem sc_law : FnScope N_law ["_law_script"] (defScope s_law) := ⟨rfl, rfl, rfl, by decide +kernel, rfl, by decide +kernel, by decide +kernel⟩
theorem sci_UnknownStep : FnScope Ni_UnknownStep Ni_UnknownStep (defScope si_UnknownStep) := ⟨rfl, rfl, rfl, by decide +kernel, rfl, by decide +kernel, by decide +kernel⟩
section
variable {P : Program} {w : World} {K : PySem.W.Frag} {mg : Str → Option Value} {base : Heap}
theorem bi_UnknownStep (C : Cf w K mg) : Binds K C.k_UnknownStep_init Ni_UnknownStep [] := C.i_UnknownStep.bindsN fun _ _ _ _ _ _ us hl => match us, hl with | [_, _], _ => rfl
theorem in_UnknownStep (C : Cf w K mg) : FnOk P w K mg base CX0 1 (He.ma K (He.ga K "UnknownStep") "__init__") C.k_UnknownStep_init Ni_UnknownStep (spI1 (He.ga K "UnknownStep") "step") :=
 in1_ok (t := "unknown step") C.x_UnknownStep C.i_UnknownStep sci_UnknownStep rfl rfl fun cdv A outer s H E => (pss_cons (ps_expr (pe_baseinit C.x_UnknownStep.bs rfl C.g_WorkError (pa_cons (pe_var (i := 0) rfl (by first | exact .inl rfl | exact .inr (.inl rfl))) (pa_cons pe_str pa_nil)))) (pss_one (ps_ost (pe_var (i := 0) rfl (by first | exact .inl rfl | exact .inr (.inl rfl))) (pe_var (i := 1) rfl (by first | exact .inl rfl | exact .inr (.inl rfl))))))
theorem cl_all (C : Cf w K mg) : ∀ z ∈ (["UnknownStep"] : List Str), ClsC K (He.ga K z) := by
  intro z h
  simp only [List.mem_cons, List.not_mem_nil, or_false] at h
  rcases h with rfl
  · exact C.x_UnknownStep.cl
theorem kT_MaybeError (C : Cf w K mg) : ∀ z b, (z, b) ∈ cs_MaybeError → ClsC K (He.ga K z) ∧ PySem.W.kitOne K (.ref (He.ga K z)) (.ref (He.ga K "MaybeError")) = some b := fun z b h => ⟨cl_all C z (show z ∈ cs_MaybeError.map (·.1) from List.mem_map.mpr ⟨(z, b), h, rfl⟩), C.e_MaybeError.kit z b h⟩
theorem kT_ImpossibleMove (C : Cf w K mg) : ∀ z b, (z, b) ∈ cs_ImpossibleMove → ClsC K (He.ga K z) ∧ PySem.W.kitOne K (.ref (He.ga K z)) (.ref (He.ga K "ImpossibleMove")) = some b := fun z b h => ⟨cl_all C z (show z ∈ cs_ImpossibleMove.map (·.1) from List.mem_map.mpr ⟨(z, b), h, rfl⟩), C.e_ImpossibleMove.kit z b h⟩
theorem kT_UnknownStep (C : Cf w K mg) : ∀ z b, (z, b) ∈ cs_UnknownStep → ClsC K (He.ga K z) ∧ PySem.W.kitOne K (.ref (He.ga K z)) (.ref (He.ga K "UnknownStep")) = some b := fun z b h => ⟨cl_all C z (show z ∈ cs_UnknownStep.map (·.1) from List.mem_map.mpr ⟨(z, b), h, rfl⟩), C.e_UnknownStep.kit z b h⟩
theorem kT_InvalidPaper (C : Cf w K mg) : ∀ z b, (z, b) ∈ cs_InvalidPaper → ClsC K (He.ga K z) ∧ PySem.W.kitOne K (.ref (He.ga K z)) (.ref (He.ga K "InvalidPaper")) = some b := fun z b h => ⟨cl_all C z (show z ∈ cs_InvalidPaper.map (·.1) from List.mem_map.mpr ⟨(z, b), h, rfl⟩), C.e_InvalidPaper.kit z b h⟩
theorem kT_NothingToUndo (C : Cf w K mg) : ∀ z b, (z, b) ∈ cs_NothingToUndo → ClsC K (He.ga K z) ∧ PySem.W.kitOne K (.ref (He.ga K z)) (.ref (He.ga K "NothingToUndo")) = some b := fun z b h => ⟨cl_all C z (show z ∈ cs_NothingToUndo.map (·.1) from List.mem_map.mpr ⟨(z, b), h, rfl⟩), C.e_NothingToUndo.kit z b h⟩
theorem kT_InvalidPurchase (C : Cf w K mg) : ∀ z b, (z, b) ∈ cs_InvalidPurchase → ClsC K (He.ga K z) ∧ PySem.W.kitOne K (.ref (He.ga K z)) (.ref (He.ga K "InvalidPurchase")) = some b := fun z b h => ⟨cl_all C z (show z ∈ cs_InvalidPurchase.map (·.1) from List.mem_map.mpr ⟨(z, b), h, rfl⟩), C.e_InvalidPurchase.kit z b h⟩
theorem kT_InvalidRow (C : Cf w K mg) : ∀ z b, (z, b) ∈ cs_InvalidRow → ClsC K (He.ga K z) ∧ PySem.W.kitOne K (.ref (He.ga K z)) (.ref (He.ga K "InvalidRow")) = some b := fun z b h => ⟨cl_all C z (show z ∈ cs_InvalidRow.map (·.1) from List.mem_map.mpr ⟨(z, b), h, rfl⟩), C.e_InvalidRow.kit z b h⟩
theorem kT_InvalidText (C : Cf w K mg) : ∀ z b, (z, b) ∈ cs_InvalidText → ClsC K (He.ga K z) ∧ PySem.W.kitOne K (.ref (He.ga K z)) (.ref (He.ga K "InvalidText")) = some b := fun z b h => ⟨cl_all C z (show z ∈ cs_InvalidText.map (·.1) from List.mem_map.mpr ⟨(z, b), h, rfl⟩), C.e_InvalidText.kit z b h⟩
theorem kT_TextError (C : Cf w K mg) : ∀ z b, (z, b) ∈ cs_TextError → ClsC K (He.ga K z) ∧ PySem.W.kitOne K (.ref (He.ga K z)) (.ref (He.ga K "TextError")) = some b := fun z b h => ⟨cl_all C z (show z ∈ cs_TextError.map (·.1) from List.mem_map.mpr ⟨(z, b), h, rfl⟩), C.e_TextError.kit z b h⟩
theorem kT_WorkError (C : Cf w K mg) : ∀ z b, (z, b) ∈ cs_WorkError → ClsC K (He.ga K z) ∧ PySem.W.kitOne K (.ref (He.ga K z)) (.ref (He.ga K "WorkError")) = some b := fun z b h => ⟨cl_all C z (show z ∈ cs_WorkError.map (·.1) from List.mem_map.mpr ⟨(z, b), h, rfl⟩), C.e_WorkError.kit z b h⟩
theorem kT_PaperError (C : Cf w K mg) : ∀ z b, (z, b) ∈ cs_PaperError → ClsC K (He.ga K z) ∧ PySem.W.kitOne K (.ref (He.ga K z)) (.ref (He.ga K "PaperError")) = some b := fun z b h => ⟨cl_all C z (show z ∈ cs_PaperError.map (·.1) from List.mem_map.mpr ⟨(z, b), h, rfl⟩), C.e_PaperError.kit z b h⟩
theorem kT_ValueError (C : Cf w K mg) : ∀ z b, (z, b) ∈ cs_ValueError → ClsC K (He.ga K z) ∧ PySem.W.kitOne K (.ref (He.ga K z)) (.type "ValueError") = some b := fun z b h => ⟨cl_all C z (show z ∈ cs_ValueError.map (·.1) from List.mem_map.mpr ⟨(z, b), h, rfl⟩), C.e_ValueError.kit z b h⟩
theorem nf_at (C : Cf w K mg) : ∀ z ∈ ks_at, ClsC K (He.ga K z) ∧ PySem.W.findIn K (.ref (He.ga K z)) "at" = some none := fun z h => nomatch (show z ∈ ([] : List Str) from h)
theorem nf_word (C : Cf w K mg) : ∀ z ∈ ks_word, ClsC K (He.ga K z) ∧ PySem.W.findIn K (.ref (He.ga K z)) "word" = some none := fun z h => nomatch (show z ∈ ([] : List Str) from h)
theorem nf_step (C : Cf w K mg) : ∀ z ∈ ks_step, ClsC K (He.ga K z) ∧ PySem.W.findIn K (.ref (He.ga K z)) "step" = some none := by
  intro z h
  simp only [List.mem_cons, List.not_mem_nil, or_false] at h
  rcases h with rfl
  · exact ⟨C.x_UnknownStep.cl, C.x_UnknownStep.nof _ (by simp)⟩
theorem nf_reason (C : Cf w K mg) : ∀ z ∈ ks_reason, ClsC K (He.ga K z) ∧ PySem.W.findIn K (.ref (He.ga K z)) "reason" = some none := fun z h => nomatch (show z ∈ ([] : List Str) from h)
theorem nf_move (C : Cf w K mg) : ∀ z ∈ ks_move, ClsC K (He.ga K z) ∧ PySem.W.findIn K (.ref (He.ga K z)) "move" = some none := fun z h => nomatch (show z ∈ ([] : List Str) from h)
theorem nf_field (C : Cf w K mg) : ∀ z ∈ ks_field, ClsC K (He.ga K z) ∧ PySem.W.findIn K (.ref (He.ga K z)) "field" = some none := fun z h => nomatch (show z ∈ ([] : List Str) from h)
theorem nf_line (C : Cf w K mg) : ∀ z ∈ ks_line, ClsC K (He.ga K z) ∧ PySem.W.findIn K (.ref (He.ga K z)) "line" = some none := fun z h => nomatch (show z ∈ ([] : List Str) from h)
theorem b__law_reader_1 (C : Cf w K mg) : Binds K C.k__law_reader ["_law_script"] [] := C.d__law_reader.bindsN fun _ _ _ _ _ _ us hl => match us, hl with | [_], _ => rfl
theorem b__law_fixed_works_0 (C : Cf w K mg) : Binds K C.k__law_fixed_works [] [] := C.d__law_fixed_works.bindsN fun _ _ _ _ _ _ us hl => match us, hl with | [], _ => rfl
theorem b__law_random_work_2 (C : Cf w K mg) : Binds K C.k__law_random_work ["_law_reader_here", "_law_most"] [] := C.d__law_random_work.bindsN fun _ _ _ _ _ _ us hl => match us, hl with | [_, _], _ => rfl
theorem b__law_wide_works_0 (C : Cf w K mg) : Binds K C.k__law_wide_works [] [] := C.d__law_wide_works.bindsN fun _ _ _ _ _ _ us hl => match us, hl with | [], _ => rfl
theorem b__law_names_1 (C : Cf w K mg) : Binds K C.k__law_names ["_law_work"] [] := C.d__law_names.bindsN fun _ _ _ _ _ _ us hl => match us, hl with | [_], _ => rfl
theorem b__law_random_set_2 (C : Cf w K mg) : Binds K C.k__law_random_set ["_law_reader_here", "_law_work"] [] := C.d__law_random_set.bindsN fun _ _ _ _ _ _ us hl => match us, hl with | [_, _], _ => rfl
theorem b__law_expected_2 (C : Cf w K mg) : Binds K C.k__law_expected ["_law_work", "_law_some"] [] := C.d__law_expected.bindsN fun _ _ _ _ _ _ us hl => match us, hl with | [_, _], _ => rfl
theorem b__law_outcome_1 (C : Cf w K mg) : Binds K C.k__law_outcome ["_law_ask"] [] := C.d__law_outcome.bindsN fun _ _ _ _ _ _ us hl => match us, hl with | [_], _ => rfl
theorem b_need_order_2 (C : Cf w K mg) : Binds K C.k_need_order ["work", "steps"] [] := C.d_need_order.bindsN fun _ _ _ _ _ _ us hl => match us, hl with | [_, _], _ => rfl
theorem b__law_unknown_2 (C : Cf w K mg) : Binds K C.k__law_unknown ["_law_work", "_law_names_here"] [] := C.d__law_unknown.bindsN fun _ _ _ _ _ _ us hl => match us, hl with | [_, _], _ => rfl
theorem b_require_steps_2 (C : Cf w K mg) : Binds K C.k_require_steps ["work", "steps"] [] := C.d_require_steps.bindsN fun _ _ _ _ _ _ us hl => match us, hl with | [_, _], _ => rfl
theorem b_rows_by_step_1 (C : Cf w K mg) : Binds K C.k_rows_by_step ["work"] [] := C.d_rows_by_step.bindsN fun _ _ _ _ _ _ us hl => match us, hl with | [_], _ => rfl
theorem b__law_arrangements_1 (C : Cf w K mg) : Binds K C.k__law_arrangements ["_law_names_here"] [] := C.d__law_arrangements.bindsN fun _ _ _ _ _ _ us hl => match us, hl with | [_], _ => rfl
theorem b__law_is_ordered_2 (C : Cf w K mg) : Binds K C.k__law_is_ordered ["_law_work", "_law_row"] [] := C.d__law_is_ordered.bindsN fun _ _ _ _ _ _ us hl => match us, hl with | [_, _], _ => rfl
theorem b__law_entry_2 (C : Cf w K mg) : Binds K C.k__law_entry ["_law_work", "_law_name"] [] := C.d__law_entry.bindsN fun _ _ _ _ _ _ us hl => match us, hl with | [_, _], _ => rfl
theorem b__law_class_flags_1 (C : Cf w K mg) : Binds K C.k__law_class_flags ["_law_e"] [] := C.d__law_class_flags.bindsN fun _ _ _ _ _ _ us hl => match us, hl with | [_], _ => rfl
theorem b__law_draw_2 (C : Cf w K mg) : Binds K C.k__law_draw ["_law_reader_here", "_law_many"] [] := C.d__law_draw.bindsN fun _ _ _ _ _ _ us hl => match us, hl with | [_, _], _ => rfl
theorem b__law_random_some_3 (C : Cf w K mg) : Binds K C.k__law_random_some ["_law_reader_here", "_law_names_here", "_law_most"] [] := C.d__law_random_some.bindsN fun _ _ _ _ _ _ us hl => match us, hl with | [_, _, _], _ => rfl
theorem b__law_random_abilities_1 (C : Cf w K mg) : Binds K C.k__law_random_abilities ["_law_reader_here"] [] := C.d__law_random_abilities.bindsN fun _ _ _ _ _ _ us hl => match us, hl with | [_], _ => rfl
theorem ok_rows_by_step (C : Cf w K mg) : FnG P w K mg base 1 (He.ga K "rows_by_step") C.k_rows_by_step ["work"] GA.F_rows_by_step :=
 fn_D (k := 0) (N := N_rows_by_step) C.d_rows_by_step sc_rows_by_step fun cdv A outer s H hr hX hp =>
 (s_one (s_ret (d_dc hX [(("row" : Str), 1)] (i_val (d_var (pv 0))) blk_ok (fun s H Cc cl fp => (w_nm (i := 1) hX.nd rfl (by first | exact .inl rfl | exact .inr rfl) (by decide) (by first | exact .inl rfl | exact .inr rfl))) (fun s H Cc cl fp => t_yes) (fun s H Cc cl fp => (d_ix (hX.blk _ _ _ _ _) (d_var (pv 1)) d_int)) (fun s H Cc cl fp => (d_var (pv 1))))))
theorem okx_require_steps (C : Cf w K mg) : XN.FnX P w K mg base 3 (He.ga K "require_steps") C.k_require_steps ["work", "steps"] RU.X_require_steps :=
 XN.fn_XD (k := 2) (N := N_require_steps) C.d_require_steps sc_require_steps fun cdv A outer s H E hr hX hp tk =>
 (xs_cons (xs_of (s_asg (d_call (ok_rows_by_step C) (hr.mono (by decide)) hX C.g_rows_by_step C.d_rows_by_step.kp (b_rows_by_step_1 C) DvIs.nil (d_cons (d_var (pv 0)) d_nil) rfl (len_cons (n := 0) (fun _ _ _ _ h => len_nil h))) (g_nm (i := 2) hX)))
 (xs_one (xs_for hX hp (b := RU.LX_require_steps_0) (i_val (d_var (pv 1))) (g_nm (i := 3) hX)
  (xs_one (xs_if (xt_of (t_notIn hX (d_var (pv 3)) (d_var (pv 2))))
   (xs_one (XN.x_raise1 C.x_UnknownStep (in_UnknownStep C) (hr.mono (by decide)) hX tk (bi_UnknownStep C) C.g_UnknownStep (d_cons (d_var (pv 3)) d_nil)))
   xs_nil)))))
theorem okx_need_order (C : Cf w K mg) : XN.FnX P w K mg base 4 (He.ga K "need_order") C.k_need_order ["work", "steps"] X_need_order :=
 XN.fn_XD (k := 3) (N := N_need_order) C.d_need_order sc_need_order fun cdv A outer s H E hr hX hp tk =>
 (xs_cons (xs_drop (XN.x_call (okx_require_steps C) (hr.mono (by decide)) hX tk C.g_require_steps C.d_require_steps.kp (b_require_steps_2 C) DvIs.nil (xa_of (d_cons (d_var (pv 0)) (d_cons (d_var (pv 1)) d_nil))) rfl (xlen_of (len_cons (n := 1) (len_cons (n := 0) (fun _ _ _ _ h => len_nil h))))))
 (xs_cons (xs_of (s_parC (i := 2) (j := 3) hX (d_cons (d_call (ok_rows_by_step C) (hr.mono (by decide)) hX C.g_rows_by_step C.d_rows_by_step.kp (b_rows_by_step_1 C) DvIs.nil (d_cons (d_var (pv 0)) d_nil) rfl (len_cons (n := 0) (fun _ _ _ _ h => len_nil h))) (d_cons (d_tup d_nil) d_nil))))
 (xs_cons (xs_of (s_while hp (b := LX_need_order_1) (t_lt (d_cb cr_len on_len C.n_len bb_len (d_cons (d_var (pv 3)) d_nil)) (d_cb cr_len on_len C.n_len bb_len (d_cons (d_var (pv 1)) d_nil)))
  (s_one (s_for hX hp (b := LX_need_order_0) (i_val (d_var (pv 1))) (g_nm (i := 4) hX)
   (s_one (s_if (d_pt (w_and (t_notIn hX (d_var (pv 4)) (d_var (pv 3))) (w_and1 (d_tru (d_cb (cr_all hX.calm) on_all C.n_all bb_all (d_cons (d_lc hX [(("need" : Str), 5)] (i_val (d_ix hX (d_ix hX (d_var (pv 2)) (d_var (pv 4))) d_int)) blk_ok (fun s H Cc cl fp => (w_nm (i := 5) hX.nd rfl (by first | exact .inl rfl | exact .inr rfl) (by decide) (by first | exact .inl rfl | exact .inr rfl))) (fun s H Cc cl fp => t_yes) (fun s H Cc cl fp => (d_orV (d_in (hX.blk _ _ _ _ _) (d_var (pv 5)) (d_var (pv 3))) (d_one (d_notIn (hX.blk _ _ _ _ _) (d_var (pv 5)) (d_var (pv 1))))))) d_nil))))))
    (s_cons (s_asg (d_add (d_var (pv 3)) (d_tup (d_cons (d_var (pv 4)) d_nil))) (g_nm (i := 3) hX))
    (s_one s_break))
    s_nil))))))
 (xs_one (xs_of (s_ret (d_var (pv 3))))))))
theorem ok__law_arrangements (C : Cf w K mg) : FnG P w K mg base 1 (He.ga K "_law_arrangements") C.k__law_arrangements ["_law_names_here"] F__law_arrangements :=
 fn_D (k := 0) (N := N__law_arrangements) C.d__law_arrangements sc__law_arrangements fun cdv A outer s H hr hX hp =>
 (s_cons (s_asg (d_lst (d_cons (d_tup d_nil) d_nil)) (g_nm (i := 1) hX))
 (s_cons (s_for hX hp (b := L__law_arrangements_1) (i_rng1 C.n_range (d_cons (d_cb cr_len on_len C.n_len bb_len (d_cons (d_var (pv 0)) d_nil)) d_nil)) (g_nm (i := 2) hX)
  (s_cons (s_asg (d_lstB d_nil) (g_nm (i := 3) hX))
  (s_cons (s_for hX hp (b := L__law_arrangements_0) (i_val (d_var (pv 1))) (g_nm (i := 4) hX)
   (s_one (s_drop (d_extend (d_var (pv 3)) (d_cons (d_lc hX [(("_law_name" : Str), 5)] (i_val (d_var (pv 0))) blk_ok (fun s H Cc cl fp => (w_nm (i := 5) hX.nd rfl (by first | exact .inl rfl | exact .inr rfl) (by decide) (by first | exact .inl rfl | exact .inr rfl))) (fun s H Cc cl fp => (t_one (t_notIn (hX.blk _ _ _ _ _) (d_var (pv 5)) (d_var (pv 4))))) (fun s H Cc cl fp => (d_add (d_var (pv 4)) (d_tup (d_cons (d_var (pv 5)) d_nil))))) d_nil)))))
  (s_one (s_asg (d_var (pv 3)) (g_nm (i := 1) hX))))))
 (s_one (s_ret (d_var (pv 1))))))
theorem ok__law_entry (C : Cf w K mg) : FnG P w K mg base 1 (He.ga K "_law_entry") C.k__law_entry ["_law_work", "_law_name"] FA.F__law_entry :=
 fn_D (k := 0) (N := N__law_entry) C.d__law_entry sc__law_entry fun cdv A outer s H hr hX hp =>
 (s_one (s_ret (d_ix hX (d_lc hX [(("_law_entry_here" : Str), 2)] (i_val (d_var (pv 0))) blk_ok (fun s H Cc cl fp => (w_nm (i := 2) hX.nd rfl (by first | exact .inl rfl | exact .inr rfl) (by decide) (by first | exact .inl rfl | exact .inr rfl))) (fun s H Cc cl fp => (t_one (t_eq (hX.blk _ _ _ _ _) (d_ix (hX.blk _ _ _ _ _) (d_var (pv 2)) d_int) (d_var (pv 1))))) (fun s H Cc cl fp => (d_var (pv 2)))) d_int)))
theorem ok__law_is_ordered (C : Cf w K mg) : FnG P w K mg base 2 (He.ga K "_law_is_ordered") C.k__law_is_ordered ["_law_work", "_law_row"] F__law_is_ordered :=
 fn_D (k := 1) (N := N__law_is_ordered) C.d__law_is_ordered sc__law_is_ordered fun cdv A outer s H hr hX hp =>
 (s_cons (s_for hX hp (b := L__law_is_ordered_0) (i_rng1 C.n_range (d_cons (d_cb cr_len on_len C.n_len bb_len (d_cons (d_var (pv 1)) d_nil)) d_nil)) (g_nm (i := 2) hX)
  (s_one (s_if (t_ne hX (d_lc hX [(("_law_own" : Str), 3)] (i_val (d_ix hX (d_call (ok__law_entry C) (hr.mono (by decide)) hX C.g__law_entry C.d__law_entry.kp (b__law_entry_2 C) DvIs.nil (d_cons (d_var (pv 0)) (d_cons (d_ix hX (d_var (pv 1)) (d_var (pv 2))) d_nil)) rfl (len_cons (n := 1) (len_cons (n := 0) (fun _ _ _ _ h => len_nil h)))) d_int)) blk_ok (fun s H Cc cl fp => (w_nm (i := 3) hX.nd rfl (by first | exact .inl rfl | exact .inr rfl) (by decide) (by first | exact .inl rfl | exact .inr rfl))) (fun s H Cc cl fp => (t_one (t_in (hX.blk _ _ _ _ _) (d_var (pv 3)) (d_sl (d_var (pv 1)) (o_at (d_var (pv 2))) o_no)))) (fun s H Cc cl fp => (d_var (pv 3)))) (d_lst d_nil))
   (s_one (s_ret d_bl))
   s_nil)))
 (s_one (s_ret d_bl)))
theorem ok__law_expected (C : Cf w K mg) : FnG P w K mg base 3 (He.ga K "_law_expected") C.k__law_expected ["_law_work", "_law_some"] F__law_expected :=
 fn_D (k := 2) (N := N__law_expected) C.d__law_expected sc__law_expected fun cdv A outer s H hr hX hp =>
 (s_cons (s_if (t_lt (d_cb cr_len on_len C.n_len bb_len (d_cons (d_var (pv 1)) d_nil)) d_int)
  (s_one (s_ret (d_cb (MN.cr_min1 hX.calm hX) MN.on_min1 C.n_min bb_min (d_cons (d_lc hX [(("_law_row" : Str), 2)] (i_val (d_call (ok__law_arrangements C) (hr.mono (by decide)) hX C.g__law_arrangements C.d__law_arrangements.kp (b__law_arrangements_1 C) DvIs.nil (d_cons (d_var (pv 1)) d_nil) rfl (len_cons (n := 0) (fun _ _ _ _ h => len_nil h)))) blk_ok (fun s H Cc cl fp => (w_nm (i := 2) hX.nd rfl (by first | exact .inl rfl | exact .inr rfl) (by decide) (by first | exact .inl rfl | exact .inr rfl))) (fun s H Cc cl fp => (t_one (d_tru (d_call (ok__law_is_ordered C) (hr.mono (by decide)) (hX.blk _ _ _ _ _) C.g__law_is_ordered C.d__law_is_ordered.kp (b__law_is_ordered_2 C) DvIs.nil (d_cons (d_var (pv 0)) (d_cons (d_var (pv 2)) d_nil)) rfl (len_cons (n := 1) (len_cons (n := 0) (fun _ _ _ _ h => len_nil h))))))) (fun s H Cc cl fp => (d_var (pv 2)))) d_nil))))
  s_nil)
 (s_cons (s_asg (d_tup d_nil) (g_nm (i := 3) hX))
 (s_cons (s_while hp (b := L__law_expected_1) (t_lt (d_cb cr_len on_len C.n_len bb_len (d_cons (d_var (pv 3)) d_nil)) (d_cb cr_len on_len C.n_len bb_len (d_cons (d_var (pv 1)) d_nil)))
  (s_one (s_for hX hp (b := L__law_expected_0) (i_val (d_var (pv 1))) (g_nm (i := 4) hX)
   (s_cons (s_setLc (i := 5) hX [(("_law_own" : Str), 6)] rfl (i_val (d_ix hX (d_call (ok__law_entry C) (hr.mono (by decide)) hX C.g__law_entry C.d__law_entry.kp (b__law_entry_2 C) DvIs.nil (d_cons (d_var (pv 0)) (d_cons (d_var (pv 4)) d_nil)) rfl (len_cons (n := 1) (len_cons (n := 0) (fun _ _ _ _ h => len_nil h)))) d_int)) blk_ok (fun s H Cc cl fp => (w_nm (i := 6) hX.nd rfl (by first | exact .inl rfl | exact .inr rfl) (by decide) (by first | exact .inl rfl | exact .inr rfl))) (fun s H Cc cl fp => (t_one (d_pt (w_and (t_in (hX.blk _ _ _ _ _) (d_var (pv 6)) (d_var (pv 1))) (w_and1 (t_notIn (hX.blk _ _ _ _ _) (d_var (pv 6)) (d_var (pv 3)))))))) (fun s H Cc cl fp => (d_var (pv 6))))
   (s_one (s_if (d_pt (w_and (t_notIn hX (d_var (pv 4)) (d_var (pv 3))) (w_and1 (t_eq hX (d_var (pv 5)) (d_lst d_nil)))))
    (s_cons (s_asg (d_add (d_var (pv 3)) (d_tup (d_cons (d_var (pv 4)) d_nil))) (g_nm (i := 3) hX))
    (s_one s_break))
    s_nil))))))
 (s_one (s_ret (d_var (pv 3)))))))
theorem ok__law_fixed_works (C : Cf w K mg) : FnG P w K mg base 1 (He.ga K "_law_fixed_works") C.k__law_fixed_works [] FA.F__law_fixed_works :=
 fn_D (k := 0) (N := N__law_fixed_works) C.d__law_fixed_works sc__law_fixed_works fun cdv A outer s H hr hX hp =>
 (s_cons (s_asg (d_tup (d_cons d_str (d_cons d_str (d_cons d_str (d_cons d_str (d_cons d_str (d_cons d_str (d_cons d_str (d_cons d_str d_nil))))))))) (g_nm (i := 0) hX))
 (s_cons (s_asg (d_ct call_tuple_of on_tuple C.n_tuple bb_tuple (d_cons (d_lc hX [(("_law_k" : Str), 2)] (i_rng1 C.n_range (d_cons d_int d_nil)) blk_ok (fun s H Cc cl fp => (w_nm (i := 2) hX.nd rfl (by first | exact .inl rfl | exact .inr rfl) (by decide) (by first | exact .inl rfl | exact .inr rfl))) (fun s H Cc cl fp => t_yes) (fun s H Cc cl fp => (d_tup (d_cons (d_ix (hX.blk _ _ _ _ _) (d_var (pv 0)) (d_var (pv 2))) (d_cons (d_ite (t_gt (d_var (pv 2)) d_int) (d_sl (d_var (pv 0)) (o_at (d_sub (d_var (pv 2)) d_int)) (o_at (d_var (pv 2)))) (d_tup d_nil)) (d_cons (d_tup d_nil) (d_cons (d_tup (d_cons d_str (d_cons d_str d_nil))) d_nil))))))) d_nil)) (g_nm (i := 1) hX))
 (s_cons (s_asg (d_ct call_tuple_of on_tuple C.n_tuple bb_tuple (d_cons (d_lc hX [(("_law_k" : Str), 2)] (i_rng1 C.n_range (d_cons d_int d_nil)) blk_ok (fun s H Cc cl fp => (w_nm (i := 2) hX.nd rfl (by first | exact .inl rfl | exact .inr rfl) (by decide) (by first | exact .inl rfl | exact .inr rfl))) (fun s H Cc cl fp => t_yes) (fun s H Cc cl fp => (d_tup (d_cons (d_ix (hX.blk _ _ _ _ _) (d_var (pv 0)) (d_var (pv 2))) (d_cons (d_tup d_nil) (d_cons (d_ct call_tuple_of on_tuple C.n_tuple bb_tuple (d_cons (d_cb (cr_sortD (hX.blk _ _ _ _ _)) on_sorted C.n_sorted bb_sorted (d_cons (d_lst (d_cons (d_ix (hX.blk _ _ _ _ _) (d_var (pv 0)) (d_sub (d_var (pv 2)) d_int)) (d_cons (d_ix (hX.blk _ _ _ _ _) (d_var (pv 0)) (d_mod (d_add (d_var (pv 2)) d_int) d_int)) d_nil))) d_nil)) d_nil)) (d_cons (d_tup (d_cons d_str d_nil)) d_nil))))))) d_nil)) (g_nm (i := 3) hX))
 (s_cons (s_asg (d_ct call_tuple_of on_tuple C.n_tuple bb_tuple (d_cons (d_lc hX [(("_law_name" : Str), 5)] (i_val (d_var (pv 0))) blk_ok (fun s H Cc cl fp => (w_nm (i := 5) hX.nd rfl (by first | exact .inl rfl | exact .inr rfl) (by decide) (by first | exact .inl rfl | exact .inr rfl))) (fun s H Cc cl fp => t_yes) (fun s H Cc cl fp => (d_tup (d_cons (d_var (pv 5)) (d_cons (d_tup d_nil) (d_cons (d_tup d_nil) (d_cons (d_tup (d_cons d_str (d_cons d_str (d_cons d_str (d_cons d_str d_nil))))) d_nil))))))) d_nil)) (g_nm (i := 4) hX))
 (s_cons (s_asg (d_ct call_tuple_of on_tuple C.n_tuple bb_tuple (d_cons (d_lc hX [(("_law_k" : Str), 2)] (i_rng1 C.n_range (d_cons d_int d_nil)) blk_ok (fun s H Cc cl fp => (w_nm (i := 2) hX.nd rfl (by first | exact .inl rfl | exact .inr rfl) (by decide) (by first | exact .inl rfl | exact .inr rfl))) (fun s H Cc cl fp => t_yes) (fun s H Cc cl fp => (d_tup (d_cons (d_ix (hX.blk _ _ _ _ _) (d_var (pv 0)) (d_var (pv 2))) (d_cons (d_sl (d_var (pv 0)) (o_at (d_add (d_var (pv 2)) d_int)) (o_at (d_add (d_var (pv 2)) d_int))) (d_cons (d_sl (d_var (pv 0)) o_no (o_at (d_var (pv 2)))) (d_cons (d_tup d_nil) d_nil))))))) d_nil)) (g_nm (i := 6) hX))
 (s_cons (s_asg (d_tup (d_cons (d_tup (d_cons d_str (d_cons (d_tup d_nil) (d_cons (d_tup d_nil) (d_cons (d_tup (d_cons d_str d_nil)) d_nil))))) (d_cons (d_tup (d_cons d_str (d_cons (d_tup d_nil) (d_cons (d_tup (d_cons d_str d_nil)) (d_cons (d_tup (d_cons d_str d_nil)) d_nil))))) d_nil))) (g_nm (i := 7) hX))
 (s_cons (s_asg (d_add (d_var (pv 7)) (d_tup (d_cons (d_tup (d_cons d_str (d_cons (d_tup (d_cons d_str d_nil)) (d_cons (d_tup d_nil) (d_cons (d_tup (d_cons d_str (d_cons d_str d_nil))) d_nil))))) (d_cons (d_tup (d_cons d_str (d_cons (d_tup (d_cons d_str (d_cons d_str d_nil))) (d_cons (d_tup d_nil) (d_cons (d_tup (d_cons d_str d_nil)) d_nil))))) d_nil)))) (g_nm (i := 7) hX))
 (s_one (s_ret (d_lstB (d_cons (d_tup (d_cons (d_tup (d_cons d_str (d_cons (d_tup d_nil) (d_cons (d_tup d_nil) (d_cons (d_tup d_nil) d_nil))))) d_nil)) (d_cons (d_var (pv 1)) (d_cons (d_var (pv 3)) (d_cons (d_var (pv 4)) (d_cons (d_var (pv 6)) (d_cons (d_var (pv 7)) d_nil))))))))))))))))
theorem ok__law_names (C : Cf w K mg) : FnG P w K mg base 1 (He.ga K "_law_names") C.k__law_names ["_law_work"] FA.F__law_names :=
 fn_D (k := 0) (N := N__law_names) C.d__law_names sc__law_names fun cdv A outer s H hr hX hp =>
 (s_one (s_ret (d_lc hX [(("_law_entry_here" : Str), 1)] (i_val (d_var (pv 0))) blk_ok (fun s H Cc cl fp => (w_nm (i := 1) hX.nd rfl (by first | exact .inl rfl | exact .inr rfl) (by decide) (by first | exact .inl rfl | exact .inr rfl))) (fun s H Cc cl fp => t_yes) (fun s H Cc cl fp => (d_ix (hX.blk _ _ _ _ _) (d_var (pv 1)) d_int)))))
theorem oke__law_class_flags (C : Cf w K mg) : XN.FnE P w K mg base 1 (He.ga K "_law_class_flags") C.k__law_class_flags ["_law_e"] FE__law_class_flags :=
 XN.fn_E (k := 0) (N := N__law_class_flags) C.d__law_class_flags sc__law_class_flags fun cdv A outer s H a dd oe y hr hz hf hX =>
 (s_cons (s_asg (d_lst (d_cons (XN.d_isEC (c := .ref (He.ga K "InvalidPaper")) (cv := .ref (He.ga K "InvalidPaper")) (kT_InvalidPaper C) hz hf C.n_isinstance (fun _ h => h) (d_var (pv 0)) (pe_glob (v := .ref (He.ga K "InvalidPaper")) rfl C.g_InvalidPaper rfl (by decide))) (d_cons (XN.d_isEC (c := .ref (He.ga K "UnknownStep")) (cv := .ref (He.ga K "UnknownStep")) (kT_UnknownStep C) hz hf C.n_isinstance (fun _ h => h) (d_var (pv 0)) (pe_glob (v := .ref (He.ga K "UnknownStep")) rfl C.g_UnknownStep rfl (by decide))) (d_cons (XN.d_isEC (c := .ref (He.ga K "ImpossibleMove")) (cv := .ref (He.ga K "ImpossibleMove")) (kT_ImpossibleMove C) hz hf C.n_isinstance (fun _ h => h) (d_var (pv 0)) (pe_glob (v := .ref (He.ga K "ImpossibleMove")) rfl C.g_ImpossibleMove rfl (by decide))) d_nil)))) (g_nmH (i := 1) hX))
 (s_cons (s_asg (d_add (d_var (pv 1)) (d_lst (d_cons (XN.d_isEC (c := .ref (He.ga K "InvalidPurchase")) (cv := .ref (He.ga K "InvalidPurchase")) (kT_InvalidPurchase C) hz hf C.n_isinstance (fun _ h => h) (d_var (pv 0)) (pe_glob (v := .ref (He.ga K "InvalidPurchase")) rfl C.g_InvalidPurchase rfl (by decide))) (d_cons (XN.d_isEC (c := .ref (He.ga K "NothingToUndo")) (cv := .ref (He.ga K "NothingToUndo")) (kT_NothingToUndo C) hz hf C.n_isinstance (fun _ h => h) (d_var (pv 0)) (pe_glob (v := .ref (He.ga K "NothingToUndo")) rfl C.g_NothingToUndo rfl (by decide))) d_nil)))) (g_nmH (i := 1) hX))
 (s_cons (s_asg (d_add (d_var (pv 1)) (d_lst (d_cons (XN.d_isEC (c := .ref (He.ga K "InvalidText")) (cv := .ref (He.ga K "InvalidText")) (kT_InvalidText C) hz hf C.n_isinstance (fun _ h => h) (d_var (pv 0)) (pe_glob (v := .ref (He.ga K "InvalidText")) rfl C.g_InvalidText rfl (by decide))) (d_cons (XN.d_isEC (c := .ref (He.ga K "InvalidRow")) (cv := .ref (He.ga K "InvalidRow")) (kT_InvalidRow C) hz hf C.n_isinstance (fun _ h => h) (d_var (pv 0)) (pe_glob (v := .ref (He.ga K "InvalidRow")) rfl C.g_InvalidRow rfl (by decide))) d_nil)))) (g_nmH (i := 1) hX))
 (s_cons (s_asg (d_add (d_var (pv 1)) (d_lst (d_cons (XN.d_isEC (c := .ref (He.ga K "PaperError")) (cv := .ref (He.ga K "PaperError")) (kT_PaperError C) hz hf C.n_isinstance (fun _ h => h) (d_var (pv 0)) (pe_glob (v := .ref (He.ga K "PaperError")) rfl C.g_PaperError rfl (by decide))) (d_cons (XN.d_isEC (c := .ref (He.ga K "WorkError")) (cv := .ref (He.ga K "WorkError")) (kT_WorkError C) hz hf C.n_isinstance (fun _ h => h) (d_var (pv 0)) (pe_glob (v := .ref (He.ga K "WorkError")) rfl C.g_WorkError rfl (by decide))) (d_cons (XN.d_isEC (c := .ref (He.ga K "TextError")) (cv := .ref (He.ga K "TextError")) (kT_TextError C) hz hf C.n_isinstance (fun _ h => h) (d_var (pv 0)) (pe_glob (v := .ref (He.ga K "TextError")) rfl C.g_TextError rfl (by decide))) d_nil))))) (g_nmH (i := 1) hX))
 (s_one (s_ret (d_add (d_var (pv 1)) (d_lst (d_cons (XN.d_isEC (c := .ref (He.ga K "MaybeError")) (cv := .ref (He.ga K "MaybeError")) (kT_MaybeError C) hz hf C.n_isinstance (fun _ h => h) (d_var (pv 0)) (pe_glob (v := .ref (He.ga K "MaybeError")) rfl C.g_MaybeError rfl (by decide))) (d_cons (XN.d_isEC (c := .ty "ValueError") (cv := .type "ValueError") (kT_ValueError C) hz hf C.n_isinstance (fun _ h => h) (d_var (pv 0)) (FV.pe_ty C.n_ValueError (by decide +kernel) rfl (by decide) (by decide))) d_nil))))))))))
theorem okl__law_outcome (C : Cf w K mg) : XN.FnL P w K mg base 1 N__law_outcome "_law_outcome" (defScope s__law_outcome) (He.ga K "_law_outcome") (defBody s__law_outcome) "_law_ask" G__law_outcome :=
 ⟨⟨_, BT__law_outcome, rfl, fun cdv A outer f τ s H B hr hX hc => xss_down
 (xs_cons (xs_of (s_asg (d_tup (d_cons d_str d_nil)) (g_nm (i := 1) hX)))
 (xs_cons (XN.xs_try rfl rfl hX.nd XN.takesF (fun W' pn xe tk hp => have hX := hX.tr pn xe; (xs_one (xs_asg (x_tup (x_cons (xe_of d_str) (x_cons (hc _ _ _ _ _ tk) x_nil))) (g_nm (i := 1) hX)))) (XN.HdX.named (i := 2) rfl rfl ⟨rfl, by decide, .inl C.g_MaybeError⟩ rfl C.e_MaybeError.ex (fun a oe pn y dd hz hf => have hX := hX.suite a ((a, oe) :: pn); (s_cons (s_asg (XN.d_callE (oke__law_class_flags C) (L2H.roomH_of (hr.mono (by decide))) hz hf C.g__law_class_flags C.d__law_class_flags.kp (b__law_class_flags_1 C) (d_cons (d_var (pv 2)) d_nil) rfl (len_cons (n := 0) (fun _ _ _ _ h => len_nil h))) (g_nmH (i := 3) hX))
  (s_cons (XN.s_setLcE (i := 4) (XN.hot_suite hz hf) hX.nd [(("_law_k" : Str), 5)] rfl (XN.ie_rng1 C.n_range (d_cons d_int d_nil)) blk_ok (fun s H Cc cl fp => (w_nm (i := 5) hX.nd rfl (by first | exact .inl rfl | exact .inr rfl) (by decide) (by first | exact .inl rfl | exact .inr rfl))) (fun s H Cc cl fp => (t_one (d_tru (d_ixH (hX.blk _ _ _ _ _) (d_var (pv 3)) (d_var (pv 5)))))) (fun s H Cc cl fp => (d_var (pv 5))))
  (s_cons (s_asg d_bl (g_nmH (i := 6) hX))
  (s_cons (s_if (t_eqH hX (d_cb cr_len on_len C.n_len bb_len (d_cons (d_var (pv 4)) d_nil)) d_int)
   (s_one (s_asg (d_eqH hX (d_sl (d_var (pv 3)) (o_at d_int) o_no) (d_lst (d_cons (d_eqH hX (d_ixH hX (d_var (pv 4)) d_int) d_int) (d_cons (CH.d_ltlt d_int (d_ixH hX (d_var (pv 4)) d_int) d_int) (d_cons (d_gt (d_ixH hX (d_var (pv 4)) d_int) d_int) (d_cons d_bl (d_cons d_bl d_nil))))))) (g_nmH (i := 6) hX)))
   s_nil)
  (s_one (s_if (d_pt (w_and (d_tru (d_var (pv 6))) (w_and1 (t_eqH hX (d_ixH hX (d_var (pv 4)) d_int) d_int))))
   (s_one (s_asg (d_tup (d_cons d_str (d_cons (XN.d_xfC (nf_word C) hz hf (d_var (pv 2))) (d_cons (XN.d_xfC (nf_at C) hz hf (d_var (pv 2))) d_nil)))) (g_nmH (i := 1) hX)))
   (s_one (s_if (d_pt (w_and (d_tru (d_var (pv 6))) (w_and1 (t_eqH hX (d_ixH hX (d_var (pv 4)) d_int) d_int))))
    (s_one (s_asg (d_tup (d_cons d_str (d_cons (XN.d_xfC (nf_step C) hz hf (d_var (pv 2))) d_nil))) (g_nmH (i := 1) hX)))
    (s_one (s_if (d_pt (w_and (d_tru (d_var (pv 6))) (w_and1 (t_eqH hX (d_ixH hX (d_var (pv 4)) d_int) d_int))))
     (s_one (s_asg (d_tup (d_cons d_str (d_cons (XN.d_xfC (nf_move C) hz hf (d_var (pv 2))) (d_cons (XN.d_xfC (nf_reason C) hz hf (d_var (pv 2))) d_nil)))) (g_nmH (i := 1) hX)))
     (s_one (s_if (d_pt (w_and (d_tru (d_var (pv 6))) (w_and1 (t_eqH hX (d_ixH hX (d_var (pv 4)) d_int) d_int))))
      (s_one (s_asg (d_tup (d_cons d_str (d_cons (XN.d_xfC (nf_line C) hz hf (d_var (pv 2))) (d_cons (XN.d_xfC (nf_field C) hz hf (d_var (pv 2))) d_nil)))) (g_nmH (i := 1) hX)))
      s_nil))))))))))))) XN.HdX.nil))
 (xs_one (xs_of (s_ret (d_var (pv 1)))))))⟩⟩
theorem ok__law_draw (C : Cf w K mg) : FnG P w K mg base 1 (He.ga K "_law_draw") C.k__law_draw ["_law_reader_here", "_law_many"] FA.F__law_draw :=
 fn_D (k := 0) (N := N__law_draw) C.d__law_draw sc__law_draw fun cdv A outer s H hr hX hp =>
 (s_cons (s_asg (d_add (d_ix hX (d_var (pv 0)) d_str) d_int) (g_nm (i := 2) hX))
 (s_cons (s_asg (d_var (pv 2)) (g_sb hX (d_var (pv 0)) d_str))
 (s_cons (s_if (t_gt (d_ix hX (d_var (pv 0)) d_str) d_int)
  (s_cons (s_asg (d_mod (d_ix hX (d_var (pv 0)) d_str) (d_var (pv 1))) (g_nm (i := 3) hX))
  (s_cons (s_asg (d_fdiv (d_ix hX (d_var (pv 0)) d_str) (d_var (pv 1))) (g_sb hX (d_var (pv 0)) d_str))
  (s_one (s_ret (d_var (pv 3))))))
  s_nil)
 (s_cons (s_asg (d_ix hX (d_var (pv 0)) d_str) (g_nm (i := 4) hX))
 (s_cons (s_asg (d_add (d_var (pv 4)) d_int) (g_sb hX (d_var (pv 0)) d_str))
 (s_cons (s_asg (d_ix hX (d_var (pv 0)) d_str) (g_nm (i := 5) hX))
 (s_cons (s_asg (d_ite (t_gt (d_cb cr_len on_len C.n_len bb_len (d_cons (d_var (pv 5)) d_nil)) d_int) (d_ix hX (d_var (pv 5)) (d_mod (d_var (pv 4)) (d_cb cr_len on_len C.n_len bb_len (d_cons (d_var (pv 5)) d_nil)))) d_int) (g_nm (i := 6) hX))
 (s_cons (s_if (d_pt (w_and (t_lt (d_var (pv 4)) (d_cb cr_len on_len C.n_len bb_len (d_cons (d_var (pv 5)) d_nil))) (w_and1 (t_ge (d_var (pv 6)) (d_pow d_int d_int)))))
  (s_cons (s_asg (d_fdiv (d_var (pv 6)) (d_var (pv 1))) (g_sb hX (d_var (pv 0)) d_str))
  (s_one (s_ret (d_mod (d_var (pv 6)) (d_var (pv 1))))))
  s_nil)
 (s_cons (s_asg (d_mod (d_pow (d_add (d_add (d_mod (d_var (pv 6)) d_int) (d_mul d_int (d_var (pv 2)))) d_int) d_int) d_int) (g_nm (i := 7) hX))
 (s_one (s_ret (d_mod (d_fdiv (d_mod (d_pow (d_add (d_var (pv 7)) (d_mul (d_mul d_int (d_var (pv 2))) (d_var (pv 2)))) d_int) d_int) d_int) (d_var (pv 1))))))))))))))
theorem ok__law_random_set (C : Cf w K mg) : FnG P w K mg base 2 (He.ga K "_law_random_set") C.k__law_random_set ["_law_reader_here", "_law_work"] F__law_random_set :=
 fn_D (k := 1) (N := N__law_random_set) C.d__law_random_set sc__law_random_set fun cdv A outer s H hr hX hp =>
 (s_cons (s_asg (d_call (ok__law_draw C) (hr.mono (by decide)) hX C.g__law_draw C.d__law_draw.kp (b__law_draw_2 C) DvIs.nil (d_cons (d_var (pv 0)) (d_cons d_int d_nil)) rfl (len_cons (n := 1) (len_cons (n := 0) (fun _ _ _ _ h => len_nil h)))) (g_nm (i := 2) hX))
 (s_one (s_ret (d_ct call_tuple_of on_tuple C.n_tuple bb_tuple (d_cons (d_lc hX [(("_law_one" : Str), 3)] (i_val (d_call (ok__law_names C) (hr.mono (by decide)) hX C.g__law_names C.d__law_names.kp (b__law_names_1 C) DvIs.nil (d_cons (d_var (pv 1)) d_nil) rfl (len_cons (n := 0) (fun _ _ _ _ h => len_nil h)))) blk_ok (fun s H Cc cl fp => (w_nm (i := 3) hX.nd rfl (by first | exact .inl rfl | exact .inr rfl) (by decide) (by first | exact .inl rfl | exact .inr rfl))) (fun s H Cc cl fp => (t_one (d_pt (w_or (t_eq (hX.blk _ _ _ _ _) (d_var (pv 2)) d_int) (w_or1 (d_pt (w_and (t_gt (d_var (pv 2)) d_int) (w_and1 (t_gt (d_call (ok__law_draw C) (hr.mono (by decide)) (hX.blk _ _ _ _ _) C.g__law_draw C.d__law_draw.kp (b__law_draw_2 C) DvIs.nil (d_cons (d_var (pv 0)) (d_cons (d_var (pv 2)) d_nil)) rfl (len_cons (n := 1) (len_cons (n := 0) (fun _ _ _ _ h => len_nil h)))) d_int))))))))) (fun s H Cc cl fp => (d_var (pv 3)))) d_nil)))))
theorem ok__law_random_abilities (C : Cf w K mg) : FnG P w K mg base 2 (He.ga K "_law_random_abilities") C.k__law_random_abilities ["_law_reader_here"] FA.F__law_random_abilities :=
 fn_D (k := 1) (N := N__law_random_abilities) C.d__law_random_abilities sc__law_random_abilities fun cdv A outer s H hr hX hp =>
 (s_cons (s_asg (d_lc hX [(("_law_one" : Str), 2)] (i_val (d_tup (d_cons d_str (d_cons d_str (d_cons d_str (d_cons d_str d_nil)))))) blk_ok (fun s H Cc cl fp => (w_nm (i := 2) hX.nd rfl (by first | exact .inl rfl | exact .inr rfl) (by decide) (by first | exact .inl rfl | exact .inr rfl))) (fun s H Cc cl fp => (t_one (t_eq (hX.blk _ _ _ _ _) (d_call (ok__law_draw C) (hr.mono (by decide)) (hX.blk _ _ _ _ _) C.g__law_draw C.d__law_draw.kp (b__law_draw_2 C) DvIs.nil (d_cons (d_var (pv 0)) (d_cons d_int d_nil)) rfl (len_cons (n := 1) (len_cons (n := 0) (fun _ _ _ _ h => len_nil h)))) d_int))) (fun s H Cc cl fp => (d_var (pv 2)))) (g_nm (i := 1) hX))
 (s_one (s_ret (d_ct call_tuple_of on_tuple C.n_tuple bb_tuple (d_cons (d_lc hX [(("_law_one" : Str), 2)] (i_val (d_var (pv 1))) blk_ok (fun s H Cc cl fp => (w_nm (i := 2) hX.nd rfl (by first | exact .inl rfl | exact .inr rfl) (by decide) (by first | exact .inl rfl | exact .inr rfl))) (fun s H Cc cl fp => (t_one (d_pt (w_or (t_ne (hX.blk _ _ _ _ _) (d_var (pv 2)) d_str) (w_or1 (t_in (hX.blk _ _ _ _ _) d_str (d_var (pv 1)))))))) (fun s H Cc cl fp => (d_var (pv 2)))) d_nil)))))
theorem ok__law_random_some (C : Cf w K mg) : FnG P w K mg base 2 (He.ga K "_law_random_some") C.k__law_random_some ["_law_reader_here", "_law_names_here", "_law_most"] FA.F__law_random_some :=
 fn_D (k := 1) (N := N__law_random_some) C.d__law_random_some sc__law_random_some fun cdv A outer s H hr hX hp =>
 (s_cons (s_asg (d_mul (d_call (ok__law_draw C) (hr.mono (by decide)) hX C.g__law_draw C.d__law_draw.kp (b__law_draw_2 C) DvIs.nil (d_cons (d_var (pv 0)) (d_cons (d_add (d_var (pv 2)) d_int) d_nil)) rfl (len_cons (n := 1) (len_cons (n := 0) (fun _ _ _ _ h => len_nil h)))) (d_ct call_int1 on_int C.n_int bb_int (d_cons (d_ne hX (d_var (pv 1)) (d_lst d_nil)) d_nil))) (g_nm (i := 3) hX))
 (s_one (s_ret (d_ct call_tuple_of on_tuple C.n_tuple bb_tuple (d_cons (d_sortSet hX C.n_sorted C.n_set (d_cons (d_lc hX [(("_law_k" : Str), 4)] (i_rng1 C.n_range (d_cons (d_var (pv 3)) d_nil)) blk_ok (fun s H Cc cl fp => (w_nm (i := 4) hX.nd rfl (by first | exact .inl rfl | exact .inr rfl) (by decide) (by first | exact .inl rfl | exact .inr rfl))) (fun s H Cc cl fp => t_yes) (fun s H Cc cl fp => (d_ix (hX.blk _ _ _ _ _) (d_var (pv 1)) (d_call (ok__law_draw C) (hr.mono (by decide)) (hX.blk _ _ _ _ _) C.g__law_draw C.d__law_draw.kp (b__law_draw_2 C) DvIs.nil (d_cons (d_var (pv 0)) (d_cons (d_cb cr_len on_len C.n_len bb_len (d_cons (d_var (pv 1)) d_nil)) d_nil)) rfl (len_cons (n := 1) (len_cons (n := 0) (fun _ _ _ _ h => len_nil h))))))) d_nil)) d_nil)))))
theorem ok__law_random_work (C : Cf w K mg) : FnG P w K mg base 3 (He.ga K "_law_random_work") C.k__law_random_work ["_law_reader_here", "_law_most"] FA.F__law_random_work :=
 fn_D (k := 2) (N := N__law_random_work) C.d__law_random_work sc__law_random_work fun cdv A outer s H hr hX hp =>
 (s_cons (s_par3T (i := 2) (j := 3) (l := 4) hX (d_cons (d_lstB (d_cons d_str (d_cons d_str (d_cons d_str (d_cons d_str (d_cons d_str (d_cons d_str (d_cons d_str (d_cons d_str d_nil))))))))) (d_cons (d_lstB d_nil) (d_cons (d_lstB d_nil) d_nil))))
 (s_cons (s_for hX hp (b := FA.L__law_random_work_0) (i_rng1 C.n_range (d_cons (d_add d_int (d_call (ok__law_draw C) (hr.mono (by decide)) hX C.g__law_draw C.d__law_draw.kp (b__law_draw_2 C) DvIs.nil (d_cons (d_var (pv 0)) (d_cons (d_var (pv 1)) d_nil)) rfl (len_cons (n := 1) (len_cons (n := 0) (fun _ _ _ _ h => len_nil h))))) d_nil)) (g_nm (i := 5) hX)
  (s_one (s_drop (d_append (d_var (pv 3)) (d_cons (d_popAt (d_var (pv 2)) (d_cons (d_call (ok__law_draw C) (hr.mono (by decide)) hX C.g__law_draw C.d__law_draw.kp (b__law_draw_2 C) DvIs.nil (d_cons (d_var (pv 0)) (d_cons (d_cb cr_len on_len C.n_len bb_len (d_cons (d_var (pv 2)) d_nil)) d_nil)) rfl (len_cons (n := 1) (len_cons (n := 0) (fun _ _ _ _ h => len_nil h)))) d_nil)) d_nil)))))
 (s_cons (s_for hX hp (b := FA.L__law_random_work_1) (i_rng1 C.n_range (d_cons (d_cb cr_len on_len C.n_len bb_len (d_cons (d_var (pv 3)) d_nil)) d_nil)) (g_nm (i := 5) hX)
  (s_cons (s_asg (d_add (d_sl (d_var (pv 3)) o_no (o_at (d_var (pv 5)))) (d_sl (d_var (pv 3)) (o_at (d_add (d_var (pv 5)) d_int)) o_no)) (g_nm (i := 6) hX))
  (s_cons (s_par (i := 7) (j := 8) hX (d_cons (d_call (ok__law_random_some C) (hr.mono (by decide)) hX C.g__law_random_some C.d__law_random_some.kp (b__law_random_some_3 C) DvIs.nil (d_cons (d_var (pv 0)) (d_cons (d_sl (d_var (pv 3)) o_no (o_at (d_var (pv 5)))) (d_cons d_int d_nil))) rfl (len_cons (n := 2) (len_cons (n := 1) (len_cons (n := 0) (fun _ _ _ _ h => len_nil h))))) (d_cons (d_call (ok__law_random_some C) (hr.mono (by decide)) hX C.g__law_random_some C.d__law_random_some.kp (b__law_random_some_3 C) DvIs.nil (d_cons (d_var (pv 0)) (d_cons (d_var (pv 6)) (d_cons d_int d_nil))) rfl (len_cons (n := 2) (len_cons (n := 1) (len_cons (n := 0) (fun _ _ _ _ h => len_nil h))))) d_nil)))
  (s_one (s_drop (d_append (d_var (pv 4)) (d_cons (d_tup (d_cons (d_ix hX (d_var (pv 3)) (d_var (pv 5))) (d_cons (d_var (pv 7)) (d_cons (d_var (pv 8)) (d_cons (d_call (ok__law_random_abilities C) (hr.mono (by decide)) hX C.g__law_random_abilities C.d__law_random_abilities.kp (b__law_random_abilities_1 C) DvIs.nil (d_cons (d_var (pv 0)) d_nil) rfl (len_cons (n := 0) (fun _ _ _ _ h => len_nil h))) d_nil))))) d_nil)))))))
 (s_one (s_ret (d_ct call_tuple_of on_tuple C.n_tuple bb_tuple (d_cons (d_cb (cr_sortD hX) on_sorted C.n_sorted bb_sorted (d_cons (d_var (pv 4)) d_nil)) d_nil)))))))
theorem ok__law_reader (C : Cf w K mg) : FnG P w K mg base 1 (He.ga K "_law_reader") C.k__law_reader ["_law_script"] FA.F__law_reader :=
 fn_D (k := 0) (N := N__law_reader) C.d__law_reader sc__law_reader fun cdv A outer s H hr hX hp =>
 (s_one (s_ret (d_dicB (kv_cons d_str (d_ct call_list_of on_list C.n_list bb_list (d_cons (d_sl (d_var (pv 0)) o_no (o_at d_int)) d_nil)) (kv_cons d_str d_int (kv_cons d_str d_int (kv_cons d_str d_int kv_nil)))))))
theorem ok__law_unknown (C : Cf w K mg) : FnG P w K mg base 2 (He.ga K "_law_unknown") C.k__law_unknown ["_law_work", "_law_names_here"] F__law_unknown :=
 fn_D (k := 1) (N := N__law_unknown) C.d__law_unknown sc__law_unknown fun cdv A outer s H hr hX hp =>
 (s_cons (s_setLc (i := 2) hX [(("_law_name" : Str), 3)] rfl (i_val (d_var (pv 1))) blk_ok (fun s H Cc cl fp => (w_nm (i := 3) hX.nd rfl (by first | exact .inl rfl | exact .inr rfl) (by decide) (by first | exact .inl rfl | exact .inr rfl))) (fun s H Cc cl fp => (t_one (t_notIn (hX.blk _ _ _ _ _) (d_var (pv 3)) (d_call (ok__law_names C) (hr.mono (by decide)) (hX.blk _ _ _ _ _) C.g__law_names C.d__law_names.kp (b__law_names_1 C) DvIs.nil (d_cons (d_var (pv 0)) d_nil) rfl (len_cons (n := 0) (fun _ _ _ _ h => len_nil h)))))) (fun s H Cc cl fp => (d_var (pv 3))))
 (s_one (s_ret (d_ite (t_ne hX (d_var (pv 2)) (d_lst d_nil)) (d_tup (d_cons d_str (d_cons (d_ix hX (d_var (pv 2)) d_int) d_nil))) d_non))))
theorem ok__law_wide_works (C : Cf w K mg) : FnG P w K mg base 1 (He.ga K "_law_wide_works") C.k__law_wide_works [] FA.F__law_wide_works :=
 fn_D (k := 0) (N := N__law_wide_works) C.d__law_wide_works sc__law_wide_works fun cdv A outer s H hr hX hp =>
 (s_cons (s_asg (d_tup (d_cons d_str (d_cons d_str (d_cons d_str (d_cons d_str (d_cons d_str (d_cons d_str (d_cons d_str (d_cons d_str d_nil))))))))) (g_nm (i := 0) hX))
 (s_cons (s_asg (d_add (d_ct call_tuple_of on_tuple C.n_tuple bb_tuple (d_cons (d_lc hX [(("_law_name" : Str), 2)] (i_val (d_sl (d_var (pv 0)) o_no (o_at d_int))) blk_ok (fun s H Cc cl fp => (w_nm (i := 2) hX.nd rfl (by first | exact .inl rfl | exact .inr rfl) (by decide) (by first | exact .inl rfl | exact .inr rfl))) (fun s H Cc cl fp => t_yes) (fun s H Cc cl fp => (d_tup (d_cons (d_var (pv 2)) (d_cons (d_tup d_nil) (d_cons (d_tup d_nil) (d_cons (d_tup (d_cons d_str d_nil)) d_nil))))))) d_nil)) (d_tup (d_cons (d_tup (d_cons d_str (d_cons (d_sl (d_var (pv 0)) o_no (o_at d_int)) (d_cons (d_tup d_nil) (d_cons (d_tup (d_cons d_str d_nil)) d_nil))))) d_nil))) (g_nm (i := 1) hX))
 (s_cons (s_asg (d_add (d_tup (d_cons (d_tup (d_cons d_str (d_cons (d_tup d_nil) (d_cons (d_sl (d_var (pv 0)) (o_at d_int) o_no) (d_cons (d_tup (d_cons d_str (d_cons d_str d_nil))) d_nil))))) d_nil)) (d_ct call_tuple_of on_tuple C.n_tuple bb_tuple (d_cons (d_lc hX [(("_law_name" : Str), 2)] (i_val (d_sl (d_var (pv 0)) (o_at d_int) o_no)) blk_ok (fun s H Cc cl fp => (w_nm (i := 2) hX.nd rfl (by first | exact .inl rfl | exact .inr rfl) (by decide) (by first | exact .inl rfl | exact .inr rfl))) (fun s H Cc cl fp => t_yes) (fun s H Cc cl fp => (d_tup (d_cons (d_var (pv 2)) (d_cons (d_tup d_nil) (d_cons (d_tup d_nil) (d_cons (d_tup d_nil) d_nil))))))) d_nil))) (g_nm (i := 3) hX))
 (s_one (s_ret (d_lst (d_cons (d_var (pv 1)) (d_cons (d_var (pv 3)) d_nil))))))))
theorem ok_law (C : Cf w K mg) (tb : ∀ p ∈ csF K hl, LamX.TabB base mg p.1 p.2) : FnG P w K mg base 7 (He.ga K "law") C.k_law ["_law_script"] F_law :=
 fn_DT (k := 6) (N := N_law) C.d_law (code_of (p := ("law", none)) C.d_law) sc_law fun A outer s H hr hX hp =>
 (s_cons (s_asg (d_call (ok__law_reader C) (hr.mono (by decide)) hX C.g__law_reader C.d__law_reader.kp (b__law_reader_1 C) DvIs.nil (d_cons (d_var (pv 0)) d_nil) rfl (len_cons (n := 0) (fun _ _ _ _ h => len_nil h))) (g_nm (i := 1) hX))
 (s_cons (s_asg (d_call0 (ok__law_fixed_works C) (hr.mono (by decide)) hX C.g__law_fixed_works C.d__law_fixed_works.kp (b__law_fixed_works_0 C) DvIs.nil) (g_nm (i := 2) hX))
 (s_cons (s_for hX hp (b := L_law_0) (i_rng1 C.n_range (d_cons d_int d_nil)) (g_nm (i := 3) hX)
  (s_one (s_drop (d_append (d_var (pv 2)) (d_cons (d_call (ok__law_random_work C) (hr.mono (by decide)) hX C.g__law_random_work C.d__law_random_work.kp (b__law_random_work_2 C) DvIs.nil (d_cons (d_var (pv 1)) (d_cons d_int d_nil)) rfl (len_cons (n := 1) (len_cons (n := 0) (fun _ _ _ _ h => len_nil h)))) d_nil)))))
 (s_cons (s_asg (d_tup (d_cons (d_tup (d_cons d_str (d_cons (d_tup (d_cons d_str (d_cons d_str (d_cons d_str (d_cons d_str (d_cons d_str (d_cons d_str (d_cons d_str d_nil)))))))) (d_cons (d_tup d_nil) (d_cons (d_tup d_nil) d_nil))))) d_nil)) (g_nm (i := 4) hX))
 (s_cons (s_asg (d_addB (d_add (d_var (pv 2)) (d_call0 (ok__law_wide_works C) (hr.mono (by decide)) hX C.g__law_wide_works C.d__law_wide_works.kp (b__law_wide_works_0 C) DvIs.nil)) (d_lst (d_cons (d_add (d_var (pv 4)) (d_ct call_tuple_of on_tuple C.n_tuple bb_tuple (d_cons (d_lc hX [(("_law_entry_here" : Str), 5)] (i_val (d_sl (d_ix hX (d_var (pv 2)) d_int) (o_at d_int) o_no)) blk_ok (fun s H Cc cl fp => (w_nm (i := 5) hX.nd rfl (by first | exact .inl rfl | exact .inr rfl) (by decide) (by first | exact .inl rfl | exact .inr rfl))) (fun s H Cc cl fp => t_yes) (fun s H Cc cl fp => (d_add (d_sl (d_var (pv 5)) o_no (o_at d_int)) (d_tup (d_cons (d_tup d_nil) (d_cons (d_tup d_nil) (d_cons (d_tup d_nil) d_nil))))))) d_nil))) d_nil))) (g_nm (i := 2) hX))
 (s_cons (s_for hX hp (b := L_law_3) (i_val (d_var (pv 2))) (g_nm (i := 6) hX)
  (s_cons (s_par (i := 7) (j := 8) hX (d_cons (d_cb (cr_repr hX) on_repr C.n_repr bb_repr (d_cons (d_var (pv 6)) d_nil)) (d_cons (d_ct call_tuple_of on_tuple C.n_tuple bb_tuple (d_cons (d_call (ok__law_names C) (hr.mono (by decide)) hX C.g__law_names C.d__law_names.kp (b__law_names_1 C) DvIs.nil (d_cons (d_var (pv 6)) d_nil) rfl (len_cons (n := 0) (fun _ _ _ _ h => len_nil h))) d_nil)) d_nil)))
  (s_cons (s_for hX hp (b := L_law_1) (i_val (d_add (d_lst (d_cons (d_var (pv 8)) (d_cons (d_tup d_nil) (d_cons (d_sl (d_var (pv 8)) o_no (o_at d_int)) (d_cons (d_sl (d_var (pv 8)) (o_at (d_neg d_int)) o_no) d_nil))))) (d_lc hX [(("_law_k" : Str), 3)] (i_rng1 C.n_range (d_cons d_int d_nil)) blk_ok (fun s H Cc cl fp => (w_nm (i := 3) hX.nd rfl (by first | exact .inl rfl | exact .inr rfl) (by decide) (by first | exact .inl rfl | exact .inr rfl))) (fun s H Cc cl fp => t_yes) (fun s H Cc cl fp => (d_call (ok__law_random_set C) (hr.mono (by decide)) (hX.blk _ _ _ _ _) C.g__law_random_set C.d__law_random_set.kp (b__law_random_set_2 C) DvIs.nil (d_cons (d_var (pv 1)) (d_cons (d_var (pv 6)) d_nil)) rfl (len_cons (n := 1) (len_cons (n := 0) (fun _ _ _ _ h => len_nil h)))))))) (g_nm (i := 9) hX)
   (s_cons (s_asg (d_call (ok__law_expected C) (hr.mono (by decide)) hX C.g__law_expected C.d__law_expected.kp (b__law_expected_2 C) DvIs.nil (d_cons (d_var (pv 6)) (d_cons (d_var (pv 9)) d_nil)) rfl (len_cons (n := 1) (len_cons (n := 0) (fun _ _ _ _ h => len_nil h)))) (g_nm (i := 10) hX))
   (s_one (s_if (t_ne hX (d_cb (cr_repr hX) on_repr C.n_repr bb_repr (d_cons (XN.d_lam (k := 4) hX rfl C.g__law_outcome C.d__law_outcome.kp C.d__law_outcome (b__law_outcome_1 C) sc__law_outcome rfl (.inl rfl) ((okl__law_outcome C).mono (by decide)) (tb _ (csF_mem lm_law K)) rfl (lm_memT C.ht lm_law K) (lm_huT C.ht C.lm lm_law) (hr.mono (by decide)) (LamX.lamS_by (sc := defScope s_law) (by decide +kernel)) rfl (by intros; rfl) (fun A outer s H E f c' hr hX hp tk => (XN.x_call (okx_need_order C) (hr.mono (by decide)) hX tk C.g_need_order C.d_need_order.kp (b_need_order_2 C) DvIs.nil (xa_of (d_cons (d_var (pv 6)) (d_cons (d_var (pv 9)) d_nil))) rfl (xlen_of (len_cons (n := 1) (len_cons (n := 0) (fun _ _ _ _ h => len_nil h))))))) d_nil)) (d_cb (cr_repr hX) on_repr C.n_repr bb_repr (d_cons (d_tup (d_cons d_str (d_cons (d_var (pv 10)) d_nil))) d_nil)))
    (s_one (s_ret d_bl))
    s_nil))))
  (s_one (s_for hX hp (b := L_law_2) (i_val (d_tup (d_cons (d_tup (d_cons d_str d_nil)) (d_cons (d_ct call_tuple_of on_tuple C.n_tuple bb_tuple (d_cons (d_cb (cr_sortD hX) on_sorted C.n_sorted bb_sorted (d_cons (d_add (d_sl (d_var (pv 8)) o_no (o_at d_int)) (d_tup (d_cons d_str (d_cons d_str d_nil)))) d_nil)) d_nil)) d_nil)))) (g_nm (i := 9) hX)
   (s_cons (s_asg (d_call (ok__law_unknown C) (hr.mono (by decide)) hX C.g__law_unknown C.d__law_unknown.kp (b__law_unknown_2 C) DvIs.nil (d_cons (d_var (pv 6)) (d_cons (d_var (pv 9)) d_nil)) rfl (len_cons (n := 1) (len_cons (n := 0) (fun _ _ _ _ h => len_nil h)))) (g_nm (i := 10) hX))
   (s_one (s_if (d_pt (w_or (t_ne hX (d_cb (cr_repr hX) on_repr C.n_repr bb_repr (d_cons (XN.d_lam (k := 4) hX rfl C.g__law_outcome C.d__law_outcome.kp C.d__law_outcome (b__law_outcome_1 C) sc__law_outcome rfl (.inl rfl) ((okl__law_outcome C).mono (by decide)) (tb _ (csF_mem lm_law K)) rfl (lm_memT C.ht lm_law K) (lm_huT C.ht C.lm lm_law) (hr.mono (by decide)) (LamX.lamS_by (sc := defScope s_law) (by decide +kernel)) rfl (by intros; rfl) (fun A outer s H E f c' hr hX hp tk => (XN.x_call (okx_need_order C) (hr.mono (by decide)) hX tk C.g_need_order C.d_need_order.kp (b_need_order_2 C) DvIs.nil (xa_of (d_cons (d_var (pv 6)) (d_cons (d_var (pv 9)) d_nil))) rfl (xlen_of (len_cons (n := 1) (len_cons (n := 0) (fun _ _ _ _ h => len_nil h))))))) d_nil)) (d_cb (cr_repr hX) on_repr C.n_repr bb_repr (d_cons (d_var (pv 10)) d_nil))) (w_or1 (t_ne hX (d_cb (cr_repr hX) on_repr C.n_repr bb_repr (d_cons (d_var (pv 6)) d_nil)) (d_var (pv 7))))))
    (s_one (s_ret d_bl))
    s_nil))))))))
 (s_one (s_ret d_bl))))))))
end
theorem facts {w : World} {K : PySem.W.Frag} {h : Heap} {mg : Str → Option Value} (X : K.In h) (G : h.Ns mainGlobals mg) (cF : SaysF hf hd hc ht hx he hl w h K) (hw : Tb.hf = hashStr w) (htt : Tb.t = (tbOf hl).t) : ∃ C : Cf w K mg, True := by
  have c := says_d cF
  obtain ⟨k0, F0⟩ := c.def_ 0 rfl
  obtain ⟨k1, F1⟩ := c.def_ 1 rfl
  obtain ⟨k2, F2⟩ := c.def_ 2 rfl
  obtain ⟨k3, F3⟩ := c.def_ 3 rfl
  obtain ⟨k4, F4⟩ := c.def_ 4 rfl
  obtain ⟨k5, F5⟩ := c.def_ 5 rfl
  obtain ⟨k6, F6⟩ := c.def_ 6 rfl
  obtain ⟨k7, F7⟩ := c.def_ 7 rfl
  obtain ⟨k8, F8⟩ := c.def_ 8 rfl
  obtain ⟨k9, F9⟩ := c.def_ 9 rfl
  obtain ⟨k10, F10⟩ := c.def_ 10 rfl
  obtain ⟨k11, F11⟩ := c.def_ 11 rfl
  obtain ⟨k12, F12⟩ := c.def_ 12 rfl
  obtain ⟨k13, F13⟩ := c.def_ 13 rfl
  obtain ⟨k14, F14⟩ := c.def_ 14 rfl
  obtain ⟨k15, F15⟩ := c.def_ 15 rfl
  obtain ⟨k16, F16⟩ := c.def_ 16 rfl
  obtain ⟨k17, F17⟩ := c.def_ 17 rfl
  obtain ⟨k18, F18⟩ := c.def_ 18 rfl
  obtain ⟨k19, F19⟩ := c.def_ 19 rfl
  obtain ⟨k20, F20⟩ := c.def_ 20 rfl
  exact ⟨⟨k0, F0, He.glo_ok X G (c.fact 0 (f := .glo "rows_by_step") rfl), k1, F1, He.glo_ok X G (c.fact 1 (f := .glo "require_steps") rfl), k2, F2, He.glo_ok X G (c.fact 2 (f := .glo "need_order") rfl), k3, F3, He.glo_ok X G (c.fact 3 (f := .glo "_law_arrangements") rfl), k4, F4, He.glo_ok X G (c.fact 4 (f := .glo "_law_entry") rfl), k5, F5, He.glo_ok X G (c.fact 5 (f := .glo "_law_is_ordered") rfl), k6, F6, He.glo_ok X G (c.fact 6 (f := .glo "_law_expected") rfl), k7, F7, He.glo_ok X G (c.fact 7 (f := .glo "_law_fixed_works") rfl), k8, F8, He.glo_ok X G (c.fact 8 (f := .glo "_law_names") rfl), k9, F9, He.glo_ok X G (c.fact 9 (f := .glo "_law_class_flags") rfl), k10, F10, He.glo_ok X G (c.fact 10 (f := .glo "_law_outcome") rfl), k11, F11, He.glo_ok X G (c.fact 11 (f := .glo "_law_draw") rfl), k12, F12, He.glo_ok X G (c.fact 12 (f := .glo "_law_random_set") rfl), k13, F13, He.glo_ok X G (c.fact 13 (f := .glo "_law_random_abilities") rfl), k14, F14, He.glo_ok X G (c.fact 14 (f := .glo "_law_random_some") rfl), k15, F15, He.glo_ok X G (c.fact 15 (f := .glo "_law_random_work") rfl), k16, F16, He.glo_ok X G (c.fact 16 (f := .glo "_law_reader") rfl), k17, F17, He.glo_ok X G (c.fact 17 (f := .glo "_law_unknown") rfl), k18, F18, He.glo_ok X G (c.fact 18 (f := .glo "_law_wide_works") rfl), k19, F19, He.glo_ok X G (c.fact 19 (f := .glo "law") rfl), He.free_ok X G (c.fact 20 (f := .free "ValueError") rfl), He.free_ok X G (c.fact 21 (f := .free "all") rfl), He.free_ok X G (c.fact 22 (f := .free "int") rfl), He.free_ok X G (c.fact 23 (f := .free "isinstance") rfl), He.free_ok X G (c.fact 24 (f := .free "len") rfl), He.free_ok X G (c.fact 25 (f := .free "list") rfl), He.free_ok X G (c.fact 26 (f := .free "min") rfl), He.free_ok X G (c.fact 27 (f := .free "range") rfl), He.free_ok X G (c.fact 28 (f := .free "repr") rfl), He.free_ok X G (c.fact 29 (f := .free "set") rfl), He.free_ok X G (c.fact 30 (f := .free "sorted") rfl), He.free_ok X G (c.fact 31 (f := .free "tuple") rfl), He.glo_ok X G (c.fact 32 (f := .glo "UnknownStep") rfl), He.glo_ok X G (c.fact 33 (f := .glo "MaybeError") rfl), He.glo_ok X G (c.fact 34 (f := .glo "ImpossibleMove") rfl), He.glo_ok X G (c.fact 35 (f := .glo "InvalidPaper") rfl), He.glo_ok X G (c.fact 36 (f := .glo "NothingToUndo") rfl), He.glo_ok X G (c.fact 37 (f := .glo "InvalidPurchase") rfl), He.glo_ok X G (c.fact 38 (f := .glo "InvalidRow") rfl), He.glo_ok X G (c.fact 39 (f := .glo "InvalidText") rfl), He.glo_ok X G (c.fact 40 (f := .glo "TextError") rfl), He.glo_ok X G (c.fact 41 (f := .glo "WorkError") rfl), He.glo_ok X G (c.fact 42 (f := .glo "PaperError") rfl), k20, F20, says_x cF 0 rfl, says_e cF 0 rfl, says_e cF 1 rfl, says_e cF 2 rfl, says_e cF 3 rfl, says_e cF 4 rfl, says_e cF 5 rfl, says_e cF 6 rfl, says_e cF 7 rfl, says_e cF 8 rfl, says_e cF 9 rfl, says_e cF 10 rfl, says_e cF 11 rfl, hw, htt, says_n cF⟩, trivial⟩
end K04
namespace HO
open PySem PySem.Spec PyProof.Rows L2 DL
structure Ts where
  (ip us im pu nu it ir pe we te me ve : List (Str × Bool))
  (kw ka ks km kr kl kf : List Str)
noncomputable def BEf (t : Ts) : Addr → Addr → Str → FS := fun a dd y =>
 (fSeq (fSet (fLst (fCons (fIsE a dd y 0 t.ip) (fCons (fIsE a dd y 0 t.us) (fCons (fIsE a dd y 0 t.im) fNil)))) (gNm 1))
 (fSeq (fSet (f2 pAdd (fVar 1) (fLst (fCons (fIsE a dd y 0 t.pu) (fCons (fIsE a dd y 0 t.nu) fNil)))) (gNm 1))
 (fSeq (fSet (f2 pAdd (fVar 1) (fLst (fCons (fIsE a dd y 0 t.it) (fCons (fIsE a dd y 0 t.ir) fNil)))) (gNm 1))
 (fSeq (fSet (f2 pAdd (fVar 1) (fLst (fCons (fIsE a dd y 0 t.pe) (fCons (fIsE a dd y 0 t.we) (fCons (fIsE a dd y 0 t.te) fNil))))) (gNm 1))
 (fRet (f2 pAdd (fVar 1) (fLst (fCons (fIsE a dd y 0 t.me) (fCons (fIsE a dd y 0 t.ve) fNil)))))))))
noncomputable def FEf (t : Ts) : Addr → Addr → Str → FF := fun a dd y => runF 2 false (BEf t a dd y)
noncomputable def Hf (t : Ts) : Addr → Addr → Str → FS :=
 fun a dd y =>
 (fSeq (fSet (fCall (FEf t a dd y) [] (fCons (fVar 2) fNil)) (gNm 3))
  (fSeq (fSet (fLc (iR1 (fCons (fC (.v (.int 7))) fNil)) (gNm 5) (fTru (f2 pIx (fVar 3) (fVar 5))) (fVar 5) [5]) (gNm 4))
  (fSeq (fSet (fC (.v (.bl false))) (gNm 6))
  (fSeq (fIf (fTru (f2 pEq (fCb bLen (fCons (fVar 4) fNil)) (fC (.v (.int 1)))))
   (fSet (f2 pEq (fSl (fVar 3) (oAt (fC (.v (.int 7)))) oNo) (fLst (fCons (f2 pEq (f2 pIx (fVar 4) (fC (.v (.int 0)))) (fC (.v (.int 0)))) (fCons (CH.fCh pLt pLt (fC (.v (.int 0))) (f2 pIx (fVar 4) (fC (.v (.int 0)))) (fC (.v (.int 5)))) (fCons (f2 pGt (f2 pIx (fVar 4) (fC (.v (.int 0)))) (fC (.v (.int 4)))) (fCons (fC (.v (.bl true))) (fCons (fC (.v (.bl true))) fNil))))))) (gNm 6))
   fNext)
  (fIf (fAnd (fTru (fVar 6)) (fTru (f2 pEq (f2 pIx (fVar 4) (fC (.v (.int 0)))) (fC (.v (.int 0))))))
   (fSet (fTup (fCons (fC (.v (.str "paper"))) (fCons (fXg t.kw a dd y 2 "word") (fCons (fXg t.ka a dd y 2 "at") fNil)))) (gNm 1))
   (fIf (fAnd (fTru (fVar 6)) (fTru (f2 pEq (f2 pIx (fVar 4) (fC (.v (.int 0)))) (fC (.v (.int 1))))))
    (fSet (fTup (fCons (fC (.v (.str "step"))) (fCons (fXg t.ks a dd y 2 "step") fNil))) (gNm 1))
    (fIf (fAnd (fTru (fVar 6)) (fTru (f2 pEq (f2 pIx (fVar 4) (fC (.v (.int 0)))) (fC (.v (.int 2))))))
     (fSet (fTup (fCons (fC (.v (.str "move"))) (fCons (fXg t.km a dd y 2 "move") (fCons (fXg t.kr a dd y 2 "reason") fNil)))) (gNm 1))
     (fIf (fAnd (fTru (fVar 6)) (fTru (f2 pEq (f2 pIx (fVar 4) (fC (.v (.int 0)))) (fC (.v (.int 5))))))
      (fSet (fTup (fCons (fC (.v (.str "text"))) (fCons (fXg t.kl a dd y 2 "line") (fCons (fXg t.kf a dd y 2 "field") fNil)))) (gNm 1))
      fNext))))))))
noncomputable def BTf (t : Ts) (f : Addr) (τ : Sto → Ox D) : FS := dS
 (xSeq (xS (fSet (fTup (fCons (fC (.v (.str "other"))) fNil)) (gNm 1)))
 (xSeq (xUni fun ad => tryU ad (xSet (xTup (xCons (xE (fC (.v (.str "result")))) (xCons (xThk 0 f τ) xNil))) (gNm 1)) [⟨t.me, (some 2), Hf t⟩])
 (xS (fRet (fVar 1)))))
noncomputable def Gf (t : Ts) : LF := runL 7 false (BTf t)
theorem xg_at {ks : List Str} {a d : Addr} {c f : Str} {i : Nat} {env : Dnv} {S : Sto} {ns : List Str} {ps : List P} {p : P} (hk : c ∈ ks) (h : env[i]? = some (some (.v (.exn a d c ns ps)))) (hp : fldP f ns ps = some p) : fXg ks a d c i f env S = .ok (.v p) S := by
  unfold fXg
  rw [if_pos hk]
  unfold fXf
  rw [h]
  dsimp only
  rw [if_pos ⟨rfl, rfl, rfl⟩, hp]
theorem is_at {a d : Addr} {c : Str} {i : Nat} {cs : List (Str × Bool)} {b : Bool} {env : Dnv} {S : Sto} {ns : List Str} {ps : List P} (h : env[i]? = some (some (.v (.exn a d c ns ps)))) (hl : cs.lookup c = some b) : fIsE a d c i cs env S = .ok (.v (.bl b)) S := by
  unfold fIsE
  rw [h]
  dsimp only
  rw [if_pos ⟨rfl, rfl, rfl⟩, hl]
theorem u_ok {ad : Addr × Addr} {b : XS} {hs : List Hn} {env e2 : Dnv} {S S2 : Sto} (h : b env S = .nx e2 S2) : tryU ad b hs env S = .nx e2 S2 := by
  unfold tryU
  rw [h]
theorem u_ex {ad : Addr × Addr} {b : XS} {hs : List Hn} {env e1 e2 : Dnv} {S S1 S2 : Sto} {q : Xn} {h : Hn} (hb : b env S = .ex q e1 S1) (hp : pickH q.c hs = some (some h)) (hf : unFlo h.i (h.f ad.1 ad.2 q.c (putE e1 ad.1 ad.2 q h.i) S1) = .nx e2 S2) : tryU ad b hs env S = .nx e2 S2 := by
  unfold tryU
  rw [hb]
  simp only [hp, hf]
  rfl
theorem closeS {S S2 : Sto} {p : P} (hl : S2.length = S.length) : closeD false S.length (.v p) S2 = .ok (.v p) S2 := by
  show Oc.ok (D.v p) (S2.take S.length) = _
  rw [← hl, List.take_length]
theorem nx_of {r : Flo} {N : Dnv → Sto → Prop} (h : r.F ⟨N, fun _ _ => False, fun _ _ => False, fun _ _ => False⟩) : ∃ e s, r = .nx e s ∧ N e s := by
  cases r with
  | nx e s => exact ⟨e, s, rfl, h⟩
  | rt d s => exact h.elim
  | bk e s => exact h.elim
  | ct e s => exact h.elim
  | bad => exact h.elim
theorem run_at {n : Nat} {b : FS} {ds : List D} {S : Sto} {p : P} (h : (b (startD n ds) S).F ⟨fun _ _ => False, fun d S1 => d = .v p ∧ S1 = S, fun _ _ => False, fun _ _ => False⟩) : runF n false b ds S = .ok (.v p) S := by
  unfold runF
  cases e : b (startD n ds) S with
  | rt d s =>
    rw [e] at h
    obtain ⟨rfl, rfl⟩ := h
    exact closeS rfl
  | nx e1 s => rw [e] at h; exact h.elim
  | bk e1 s => rw [e] at h; exact h.elim
  | ct e1 s => rw [e] at h; exact h.elim
  | bad => rw [e] at h; exact h.elim
def Ts.at (t : Ts) (y : Str) : List (Option Bool) := [t.ip, t.us, t.im, t.pu, t.nu, t.it, t.ir, t.pe, t.we, t.te, t.me, t.ve].map (·.lookup y)
def blP (bs : List Bool) : P := .lst (bs.map P.bl)
section
variable {t : Ts} {a dd : Addr} {y : Str} {S : Sto} {ns : List Str} {ps : List P}
theorem flags {b0 b1 b2 b3 b4 b5 b6 b7 b8 b9 b10 b11 : Bool} (h : t.at y = [some b0, some b1, some b2, some b3, some b4, some b5, some b6, some b7, some b8, some b9, some b10, some b11]) :
    FEf t a dd y [.v (.exn a dd y ns ps)] S = .ok (.v (blP [b0, b1, b2, b3, b4, b5, b6, b7, b8, b9, b10, b11])) S := by
  unfold Ts.at at h
  simp only [List.map_cons, List.map_nil, List.cons.injEq, and_true] at h
  obtain ⟨h0, h1, h2, h3, h4, h5, h6, h7, h8, h9, h10, h11⟩ := h
  unfold FEf
  refine run_at ?_
  show (BEf t a dd y [some (.v (.exn a dd y ns ps)), none] S).F _
  unfold BEf
  refine s_Seq (s_SetE (d := .v (blP [b0, b1, b2])) (S1 := S) (e_lst (ds := [.v (.bl b0), .v (.bl b1), .v (.bl b2)]) (e_cons (is_at rfl h0) (e_cons (is_at rfl h1) (e_cons (is_at rfl h2) e_nil))) rfl (by show (3 : Nat) ≤ 100000; decide)) e_gNm ?_)
  refine s_Seq (s_SetE (d := .v (blP [b0, b1, b2, b3, b4])) (S1 := S) (e_f2 (e_var rfl) (e_lst (ds := [.v (.bl b3), .v (.bl b4)]) (e_cons (is_at rfl h3) (e_cons (is_at rfl h4) e_nil)) rfl (by show (2 : Nat) ≤ 100000; decide)) (e_l2 rfl rfl rfl)) e_gNm ?_)
  refine s_Seq (s_SetE (d := .v (blP [b0, b1, b2, b3, b4, b5, b6])) (S1 := S) (e_f2 (e_var rfl) (e_lst (ds := [.v (.bl b5), .v (.bl b6)]) (e_cons (is_at rfl h5) (e_cons (is_at rfl h6) e_nil)) rfl (by show (2 : Nat) ≤ 100000; decide)) (e_l2 rfl rfl rfl)) e_gNm ?_)
  refine s_Seq (s_SetE (d := .v (blP [b0, b1, b2, b3, b4, b5, b6, b7, b8, b9])) (S1 := S) (e_f2 (e_var rfl) (e_lst (ds := [.v (.bl b7), .v (.bl b8), .v (.bl b9)]) (e_cons (is_at rfl h7) (e_cons (is_at rfl h8) (e_cons (is_at rfl h9) e_nil))) rfl (by show (3 : Nat) ≤ 100000; decide)) (e_l2 rfl rfl rfl)) e_gNm ?_)
  exact s_RetE (e_f2 (e_var rfl) (e_lst (ds := [.v (.bl b10), .v (.bl b11)]) (e_cons (is_at rfl h10) (e_cons (is_at rfl h11) e_nil)) rfl (by show (2 : Nat) ≤ 100000; decide)) (e_l2 rfl rfl rfl)) ⟨rfl, rfl⟩
end
section
variable {t : Ts} {f : Addr} {τ : Sto → Ox D} {S S2 : Sto} {p : P}
abbrev e00 (f : Addr) : Dnv := [some (.v (.adr f)), some (.v (.tup [.str "other"])), none, none, none, none, none]
theorem out_of {env : Dnv} (hl : S2.length = S.length) (hu : ∀ ad, tryU ad (xSet (xTup (xCons (xE (fC (.v (.str "result")))) (xCons (xThk 0 f τ) xNil))) (gNm 1)) [⟨t.me, (some 2), Hf t⟩] (e00 f) S = .nx env S2) (hp : env[1]? = some (some (.v p))) : Gf t f τ S = .ok (.v p) S2 := by
  have z : BTf t f τ [some (.v (.adr f)), none, none, none, none, none, none] S = .rt (.v p) S2 := by
    unfold BTf dS
    rw [z_seq (r := .rt (.v p) S2) (z_S (fx_nx (s_SetE (e_tup (ds := [.v (.str "other")]) (e_cons e_c e_nil) rfl (by show (1 : Nat) ≤ 100000; decide)) e_gNm ⟨rfl, rfl⟩))) (z_seq (xUni_of hu) (z_SR (fx_rt (s_RetE (e_var hp) ⟨rfl, rfl⟩))))]
    rfl
  show (match BTf t f τ [some (.v (.adr f)), none, none, none, none, none, none] S with | .nx _ S1 => closeD false S.length (.v .non) S1 | .rt d S1 => closeD false S.length d S1 | _ => .bad) = _
  rw [z]
  exact closeS hl
theorem out_ok (h : τ S = .ok (.v p) S2) (hl : S2.length = S.length) : Gf t f τ S = .ok (.v (.tup [.str "result", p])) S2 :=
  out_of hl (fun ad => u_ok (z_set (v_xtup (ps := [.str "result", p]) (v_xcons (v_E e_c) (v_xcons ((v_thk rfl).trans h) v_xnil)) rfl (by show (2 : Nat) ≤ 100000; decide)) e_gNm)) rfl
theorem raised {q : Xn} (h : τ S = .ex q S2) : xSet (xTup (xCons (xE (fC (.v (.str "result")))) (xCons (xThk 0 f τ) xNil))) (gNm 1) (e00 f) S = .ex q (e00 f) S2 :=
  z_setX (w_tup (w_cons2 (v_E e_c) (w_cons1 ((v_thk rfl).trans h))))
theorem suite {q : Xn} {b0 b1 b2 b3 b4 b5 b6 b7 b8 b9 b10 b11 : Bool} {j : Nat} {u : P} {ad : Addr × Addr} (h : t.at q.c = [some b0, some b1, some b2, some b3, some b4, some b5, some b6, some b7, some b8, some b9, some b10, some b11])
    (hj : (List.range 7).filter (fun i => ([b0, b1, b2, b3, b4, b5, b6, b7, b8, b9, b10, b11] : List Bool).getD i false) = [j]) (hp : [b7, b8, b9, b10, b11] = [decide (j = 0), decide (0 < j ∧ j < 5), decide (4 < j), true, true]) (h4 : j = 0 ∨ j = 1 ∨ j = 2 ∨ j = 5)
    (r0 : j = 0 → ∀ env : Dnv, env[2]? = some (some (.v (.exn ad.1 ad.2 q.c q.ns q.ps))) → (fTup (fCons (fC (.v (.str "paper"))) (fCons (fXg t.kw ad.1 ad.2 q.c 2 "word") (fCons (fXg t.ka ad.1 ad.2 q.c 2 "at") fNil)))) env S = .ok (.v u) S)
    (r1 : j = 1 → ∀ env : Dnv, env[2]? = some (some (.v (.exn ad.1 ad.2 q.c q.ns q.ps))) → (fTup (fCons (fC (.v (.str "step"))) (fCons (fXg t.ks ad.1 ad.2 q.c 2 "step") fNil))) env S = .ok (.v u) S)
    (r2 : j = 2 → ∀ env : Dnv, env[2]? = some (some (.v (.exn ad.1 ad.2 q.c q.ns q.ps))) → (fTup (fCons (fC (.v (.str "move"))) (fCons (fXg t.km ad.1 ad.2 q.c 2 "move") (fCons (fXg t.kr ad.1 ad.2 q.c 2 "reason") fNil)))) env S = .ok (.v u) S)
    (r5 : j = 5 → ∀ env : Dnv, env[2]? = some (some (.v (.exn ad.1 ad.2 q.c q.ns q.ps))) → (fTup (fCons (fC (.v (.str "text"))) (fCons (fXg t.kl ad.1 ad.2 q.c 2 "line") (fCons (fXg t.kf ad.1 ad.2 q.c 2 "field") fNil)))) env S = .ok (.v u) S) :
    unFlo (some 2) (Hf t ad.1 ad.2 q.c (putE (e00 f) ad.1 ad.2 q (some 2)) S) = .nx [some (.v (.adr f)), some (.v u), none, some (.v (blP [b0, b1, b2, b3, b4, b5, b6, b7, b8, b9, b10, b11])), some (.v (.lst [.int (j : Int)])), none, some (.v (.bl true))] S := by
  have main : (Hf t ad.1 ad.2 q.c [some (.v (.adr f)), some (.v (.tup [.str "other"])), some (.v (.exn ad.1 ad.2 q.c q.ns q.ps)), none, none, none, none] S).F ⟨fun env S1 => env = [some (.v (.adr f)), some (.v u), some (.v (.exn ad.1 ad.2 q.c q.ns q.ps)), some (.v (blP [b0, b1, b2, b3, b4, b5, b6, b7, b8, b9, b10, b11])), some (.v (.lst [.int (j : Int)])), none, some (.v (.bl true))] ∧ S1 = S, fun _ _ => False, fun _ _ => False, fun _ _ => False⟩ := by
    unfold Hf
    obtain ⟨bs, hbs⟩ : ∃ bs : List Bool, bs = [b0, b1, b2, b3, b4, b5, b6, b7, b8, b9, b10, b11] := ⟨_, rfl⟩
    rw [← hbs] at hj
    refine s_Seq (s_SetE (d := .v (blP bs)) (S1 := S) (e_call (e_cons (e_var rfl) e_nil) (by rw [hbs]; exact flags h)) e_gNm ?_)
    have h12 : bs.length = 12 := by rw [hbs]; rfl
    refine s_Seq (s_SetE (d := .v (.lst [.int (j : Int)])) (S1 := S) ((e_lc (xs := List.range 7) (f := fun i : Nat => P.int (i : Int)) (own := none) (q := fun i => bs.getD i false) (hh := fun i : Nat => P.int (i : Int)) (e_rg (n := 7) (e_cons e_c e_nil) (by decide) (by decide)) own_none (by decide) (fun i hi => ?_)).trans (by rw [hj]; rfl)) e_gNm ?_)
    · have hi7 : i < 7 := List.mem_range.mp hi
      exact e_body e_gNm (e_tru (e_f2 (e_var rfl) (e_var rfl) (e_l2 rfl rfl (o_ix (f := P.bl) (a := bs.getD i false) (by rw [List.getD_eq_getElem?_getD, List.getElem?_eq_getElem (by omega)]; rfl)).1)) rfl rfl) fun _ => e_var rfl
    refine s_Seq (s_SetE e_c e_gNm ?_)
    refine s_Seq (s_IfE (k := true) (S1 := S) (e_tru (e_f2 (e_cb (e_cons (e_var rfl) e_nil) (a_cons rfl a_nil) rfl) e_c (e_l2 rfl rfl rfl)) rfl rfl) (fun _ => ?_) fun z => nomatch z)
    have tail : pSl (blP bs) (some 7) none = some (blP [b7, b8, b9, b10, b11]) := by rw [hbs]; rfl
    rw [hp] at tail
    rcases h4 with rfl | rfl | rfl | rfl
    · refine s_SetE (d := .v (.bl true)) (S1 := S) (e_f2 (e_sl (e_var rfl) (e_oAt e_c) e_oNo rfl tail) (e_lst (ds := [.v (.bl true), .v (.bl false), .v (.bl false), .v (.bl true), .v (.bl true)]) (e_cons (e_f2 (e_f2 (e_var rfl) e_c (e_l2 rfl rfl rfl)) e_c (e_l2 rfl rfl rfl)) (e_cons (CH.e_ch (p := .int 0) (q := .int 0) (p2 := .int 0) (q2 := .int 5) (c := .v (.int 5)) (k := false) e_c (e_f2 (e_var rfl) e_c (e_l2 rfl rfl rfl)) rfl rfl rfl (fun _ => ⟨rfl, rfl⟩) (fun z => nomatch z)) (e_cons (e_f2 (e_f2 (e_var rfl) e_c (e_l2 rfl rfl rfl)) e_c (e_l2 rfl rfl rfl)) (e_cons e_c (e_cons e_c e_nil))))) rfl (by show (5 : Nat) ≤ 100000; decide)) (e_l2 rfl rfl (by kernel_rfl))) e_gNm ?_
      refine s_IfE (k := true && true) (S1 := S) (e_and (e_tru (e_var rfl) rfl rfl) fun _ => e_tru (e_f2 (e_f2 (e_var rfl) e_c (e_l2 rfl rfl rfl)) e_c (e_l2 rfl rfl rfl)) rfl rfl) (fun _ => ?_) (fun z => nomatch z)
      exact s_SetE (r0 rfl _ rfl) e_gNm ⟨by rw [hbs]; rfl, rfl⟩
    · refine s_SetE (d := .v (.bl true)) (S1 := S) (e_f2 (e_sl (e_var rfl) (e_oAt e_c) e_oNo rfl tail) (e_lst (ds := [.v (.bl false), .v (.bl true), .v (.bl false), .v (.bl true), .v (.bl true)]) (e_cons (e_f2 (e_f2 (e_var rfl) e_c (e_l2 rfl rfl rfl)) e_c (e_l2 rfl rfl rfl)) (e_cons (CH.e_ch (p := .int 0) (q := .int 1) (k := true) e_c (e_f2 (e_var rfl) e_c (e_l2 rfl rfl rfl)) rfl rfl rfl (fun z => nomatch z) (fun _ => ⟨e_c, rfl, rfl, rfl⟩)) (e_cons (e_f2 (e_f2 (e_var rfl) e_c (e_l2 rfl rfl rfl)) e_c (e_l2 rfl rfl rfl)) (e_cons e_c (e_cons e_c e_nil))))) rfl (by show (5 : Nat) ≤ 100000; decide)) (e_l2 rfl rfl (by kernel_rfl))) e_gNm ?_
      refine s_IfE (k := true && false) (S1 := S) (e_and (e_tru (e_var rfl) rfl rfl) fun _ => e_tru (e_f2 (e_f2 (e_var rfl) e_c (e_l2 rfl rfl rfl)) e_c (e_l2 rfl rfl rfl)) rfl rfl) (fun z => nomatch z) (fun _ => ?_)
      refine s_IfE (k := true && true) (S1 := S) (e_and (e_tru (e_var rfl) rfl rfl) fun _ => e_tru (e_f2 (e_f2 (e_var rfl) e_c (e_l2 rfl rfl rfl)) e_c (e_l2 rfl rfl rfl)) rfl rfl) (fun _ => ?_) (fun z => nomatch z)
      exact s_SetE (r1 rfl _ rfl) e_gNm ⟨by rw [hbs]; rfl, rfl⟩
    · refine s_SetE (d := .v (.bl true)) (S1 := S) (e_f2 (e_sl (e_var rfl) (e_oAt e_c) e_oNo rfl tail) (e_lst (ds := [.v (.bl false), .v (.bl true), .v (.bl false), .v (.bl true), .v (.bl true)]) (e_cons (e_f2 (e_f2 (e_var rfl) e_c (e_l2 rfl rfl rfl)) e_c (e_l2 rfl rfl rfl)) (e_cons (CH.e_ch (p := .int 0) (q := .int 2) (k := true) e_c (e_f2 (e_var rfl) e_c (e_l2 rfl rfl rfl)) rfl rfl rfl (fun z => nomatch z) (fun _ => ⟨e_c, rfl, rfl, rfl⟩)) (e_cons (e_f2 (e_f2 (e_var rfl) e_c (e_l2 rfl rfl rfl)) e_c (e_l2 rfl rfl rfl)) (e_cons e_c (e_cons e_c e_nil))))) rfl (by show (5 : Nat) ≤ 100000; decide)) (e_l2 rfl rfl (by kernel_rfl))) e_gNm ?_
      refine s_IfE (k := true && false) (S1 := S) (e_and (e_tru (e_var rfl) rfl rfl) fun _ => e_tru (e_f2 (e_f2 (e_var rfl) e_c (e_l2 rfl rfl rfl)) e_c (e_l2 rfl rfl rfl)) rfl rfl) (fun z => nomatch z) (fun _ => ?_)
      refine s_IfE (k := true && false) (S1 := S) (e_and (e_tru (e_var rfl) rfl rfl) fun _ => e_tru (e_f2 (e_f2 (e_var rfl) e_c (e_l2 rfl rfl rfl)) e_c (e_l2 rfl rfl rfl)) rfl rfl) (fun z => nomatch z) (fun _ => ?_)
      refine s_IfE (k := true && true) (S1 := S) (e_and (e_tru (e_var rfl) rfl rfl) fun _ => e_tru (e_f2 (e_f2 (e_var rfl) e_c (e_l2 rfl rfl rfl)) e_c (e_l2 rfl rfl rfl)) rfl rfl) (fun _ => ?_) (fun z => nomatch z)
      exact s_SetE (r2 rfl _ rfl) e_gNm ⟨by rw [hbs]; rfl, rfl⟩
    · refine s_SetE (d := .v (.bl true)) (S1 := S) (e_f2 (e_sl (e_var rfl) (e_oAt e_c) e_oNo rfl tail) (e_lst (ds := [.v (.bl false), .v (.bl false), .v (.bl true), .v (.bl true), .v (.bl true)]) (e_cons (e_f2 (e_f2 (e_var rfl) e_c (e_l2 rfl rfl rfl)) e_c (e_l2 rfl rfl rfl)) (e_cons (CH.e_ch (p := .int 0) (q := .int 5) (k := true) e_c (e_f2 (e_var rfl) e_c (e_l2 rfl rfl rfl)) rfl rfl rfl (fun z => nomatch z) (fun _ => ⟨e_c, rfl, rfl, rfl⟩)) (e_cons (e_f2 (e_f2 (e_var rfl) e_c (e_l2 rfl rfl rfl)) e_c (e_l2 rfl rfl rfl)) (e_cons e_c (e_cons e_c e_nil))))) rfl (by show (5 : Nat) ≤ 100000; decide)) (e_l2 rfl rfl (by kernel_rfl))) e_gNm ?_
      refine s_IfE (k := true && false) (S1 := S) (e_and (e_tru (e_var rfl) rfl rfl) fun _ => e_tru (e_f2 (e_f2 (e_var rfl) e_c (e_l2 rfl rfl rfl)) e_c (e_l2 rfl rfl rfl)) rfl rfl) (fun z => nomatch z) (fun _ => ?_)
      refine s_IfE (k := true && false) (S1 := S) (e_and (e_tru (e_var rfl) rfl rfl) fun _ => e_tru (e_f2 (e_f2 (e_var rfl) e_c (e_l2 rfl rfl rfl)) e_c (e_l2 rfl rfl rfl)) rfl rfl) (fun z => nomatch z) (fun _ => ?_)
      refine s_IfE (k := true && false) (S1 := S) (e_and (e_tru (e_var rfl) rfl rfl) fun _ => e_tru (e_f2 (e_f2 (e_var rfl) e_c (e_l2 rfl rfl rfl)) e_c (e_l2 rfl rfl rfl)) rfl rfl) (fun z => nomatch z) (fun _ => ?_)
      refine s_IfE (k := true && true) (S1 := S) (e_and (e_tru (e_var rfl) rfl rfl) fun _ => e_tru (e_f2 (e_f2 (e_var rfl) e_c (e_l2 rfl rfl rfl)) e_c (e_l2 rfl rfl rfl)) rfl rfl) (fun _ => ?_) (fun z => nomatch z)
      exact s_SetE (r5 rfl _ rfl) e_gNm ⟨by rw [hbs]; rfl, rfl⟩
  obtain ⟨e1, S1, e, rfl, rfl⟩ := nx_of main
  show unFlo (some 2) (Hf t ad.1 ad.2 q.c [some (.v (.adr f)), some (.v (.tup [.str "other"])), some (.v (.exn ad.1 ad.2 q.c q.ns q.ps)), none, none, none, none] S1) = _
  rw [e]
  rfl
theorem out_ex {q : Xn} {u : P} {b0 b1 b2 b3 b4 b5 b6 b7 b8 b9 b10 b11 : Bool} {j : Nat} (hτ : τ S = .ex q S2) (hl : S2.length = S.length) (h : t.at q.c = [some b0, some b1, some b2, some b3, some b4, some b5, some b6, some b7, some b8, some b9, some b10, some b11])
    (hj : (List.range 7).filter (fun i => ([b0, b1, b2, b3, b4, b5, b6, b7, b8, b9, b10, b11] : List Bool).getD i false) = [j]) (hp : [b7, b8, b9, b10, b11] = [decide (j = 0), decide (0 < j ∧ j < 5), decide (4 < j), true, true]) (h4 : j = 0 ∨ j = 1 ∨ j = 2 ∨ j = 5)
    (r0 : j = 0 → ∀ (ad : Addr × Addr) (env : Dnv), env[2]? = some (some (.v (.exn ad.1 ad.2 q.c q.ns q.ps))) → (fTup (fCons (fC (.v (.str "paper"))) (fCons (fXg t.kw ad.1 ad.2 q.c 2 "word") (fCons (fXg t.ka ad.1 ad.2 q.c 2 "at") fNil)))) env S2 = .ok (.v u) S2)
    (r1 : j = 1 → ∀ (ad : Addr × Addr) (env : Dnv), env[2]? = some (some (.v (.exn ad.1 ad.2 q.c q.ns q.ps))) → (fTup (fCons (fC (.v (.str "step"))) (fCons (fXg t.ks ad.1 ad.2 q.c 2 "step") fNil))) env S2 = .ok (.v u) S2)
    (r2 : j = 2 → ∀ (ad : Addr × Addr) (env : Dnv), env[2]? = some (some (.v (.exn ad.1 ad.2 q.c q.ns q.ps))) → (fTup (fCons (fC (.v (.str "move"))) (fCons (fXg t.km ad.1 ad.2 q.c 2 "move") (fCons (fXg t.kr ad.1 ad.2 q.c 2 "reason") fNil)))) env S2 = .ok (.v u) S2)
    (r5 : j = 5 → ∀ (ad : Addr × Addr) (env : Dnv), env[2]? = some (some (.v (.exn ad.1 ad.2 q.c q.ns q.ps))) → (fTup (fCons (fC (.v (.str "text"))) (fCons (fXg t.kl ad.1 ad.2 q.c 2 "line") (fCons (fXg t.kf ad.1 ad.2 q.c 2 "field") fNil)))) env S2 = .ok (.v u) S2) : Gf t f τ S = .ok (.v u) S2 := by
  have hme : t.me.lookup q.c = some true := by
    have e10 := congrArg (fun l : List (Option Bool) => l[10]?) h
    simp only [Ts.at, List.map_cons, List.map_nil, List.getElem?_cons_succ, List.getElem?_cons_zero] at e10
    rw [Option.some.inj e10]
    simp only [List.cons.injEq] at hp
    rw [hp.2.2.2.1]
  exact out_of hl (fun ad => u_ex (h := ⟨t.me, some 2, Hf t⟩) (raised hτ) (by unfold pickH; rw [hme]) (suite (f := f) (ad := ad) h hj hp h4 (fun z => r0 z ad) (fun z => r1 z ad) (fun z => r2 z ad) fun z => r5 z ad)) rfl
def Ts.up (t : Ts) : Prop := t.at "UnknownStep" = [some false, some true, some false, some false, some false, some false, some false, some false, some true, some false, some true, some true] ∧ t.ks.contains "UnknownStep" = true
def Ts.imp (t : Ts) : Prop := t.at "ImpossibleMove" = [some false, some false, some true, some false, some false, some false, some false, some false, some true, some false, some true, some true] ∧ t.km.contains "ImpossibleMove" = true ∧ t.kr.contains "ImpossibleMove" = true
theorem out_unk {x : P} (hu : t.up) (h : τ S = .ex ⟨"UnknownStep", ["step"], [x]⟩ S2) (hl : S2.length = S.length) : Gf t f τ S = .ok (.v (.tup [.str "step", x])) S2 :=
  out_ex (j := 1) h hl hu.1 (by decide) (by decide) (by decide) (fun z => by cases z) (fun _ ad env he => e_tup (ds := [.v (.str "step"), .v x]) (e_cons e_c (e_cons (xg_at (by simpa using hu.2) he rfl) e_nil)) rfl (by show (2 : Nat) ≤ 100000; decide)) (fun z => by cases z) fun z => by cases z
end
end HO
namespace XL
open PySem PySem.Spec PyProof.Rows L2 DL GA GM
structure Fs (f : Nat → Bool) (n j : Nat) : Prop where
  lt : j < n
  no : f j = false
  bef : ∀ i, i < j → f i = true
def first (f : Nat → Bool) (n : Nat) : Option Nat := (List.range n).find? fun i => !f i
theorem loop_fs {I : Nat → Dnv → Sto → Prop} {f : Nat → Bool} {E : Nat → Xn} {W : Sto → Prop} {g : FG} {b : XS} {all : List P} : ∀ (xs : List P) (k : Nat) (env : Dnv) (S : Sto), (∀ j p, xs[j]? = some p → all[k + j]? = some p) → k + xs.length = all.length → (∀ i, i < k → f i = true) → I k env S →
    (∀ j p env S, all[j]? = some p → (∀ i, i < j → f i = true) → I j env S → ∃ env1 S2, g (.v p) env S = .ok env1 S2 ∧ ((f j = true ∧ ∃ e2 S3, b env1 S2 = .nx e2 S3 ∧ I (j + 1) e2 S3) ∨ (f j = false ∧ ∃ e2 S3, b env1 S2 = .ex (E j) e2 S3 ∧ W S3))) →
    ((∀ i, i < all.length → f i = true) ∧ ∃ e2 S2, loopX none all g b xs env S = .nx e2 S2 ∧ I all.length e2 S2) ∨ (∃ j, Fs f all.length j ∧ ∃ e2 S2, loopX none all g b xs env S = .ex (E j) e2 S2 ∧ W S2)
  | [], k, env, S, _, hl, hf, h0, _ => .inl ⟨fun i hi => hf i (by rw [List.length_nil] at hl; omega), env, S, by unfold loopX; rw [if_pos own_none], by rw [List.length_nil] at hl; rw [← hl]; exact h0⟩
  | p :: ps, k, env, S, hx, hl, hf, h0, step => by
    have hk := hx 0 p rfl
    rw [Nat.add_zero] at hk
    obtain ⟨env1, S2, eg, h⟩ := step k p env S hk hf h0
    rcases h with ⟨yes, e2, S3, eb, hI⟩ | ⟨no, e2, S3, eb, hW⟩
    · have next := loop_fs ps (k + 1) e2 S3 (fun j q hq => by
        have := hx (j + 1) q hq
        rw [← Nat.add_assoc, Nat.add_right_comm] at this
        exact this) (by rw [List.length_cons] at hl; omega) (fun i hi => by
          rcases Nat.lt_succ_iff_lt_or_eq.mp hi with h1 | rfl
          · exact hf i h1
          · exact yes) hI step
      have e : loopX none all g b (p :: ps) env S = loopX none all g b ps e2 S3 := by
        conv => lhs; unfold loopX
        rw [if_pos own_none]
        simp only [eg, eb]
      rw [e]
      exact next
    · refine .inr ⟨k, ⟨lt_of_at hk, no, hf⟩, e2, S3, ?_, hW⟩
      unfold loopX
      rw [if_pos own_none]
      simp only [eg, eb]
theorem for_fs {I : Nat → Dnv → Sto → Prop} {f : Nat → Bool} {E : Nat → Xn} {W : Sto → Prop} {g : FG} {b : XS} {it : FI} {xs : List P} {env : Dnv} {S S1 : Sto} (hi : it env S = .ok (xs, none) S1) (h0 : I 0 env S1)
    (step : ∀ j p env S, xs[j]? = some p → (∀ i, i < j → f i = true) → I j env S → ∃ env1 S2, g (.v p) env S = .ok env1 S2 ∧ ((f j = true ∧ ∃ e2 S3, b env1 S2 = .nx e2 S3 ∧ I (j + 1) e2 S3) ∨ (f j = false ∧ ∃ e2 S3, b env1 S2 = .ex (E j) e2 S3 ∧ W S3))) :
    ((∀ i, i < xs.length → f i = true) ∧ ∃ e2 S2, xFor it g b env S = .nx e2 S2 ∧ I xs.length e2 S2) ∨ (∃ j, Fs f xs.length j ∧ ∃ e2 S2, xFor it g b env S = .ex (E j) e2 S2 ∧ W S2) := by
  have e : xFor it g b env S = loopX none xs g b xs env S1 := by
    unfold xFor
    simp only [hi]
  rw [e]
  exact loop_fs xs 0 env S1 (fun j p h => by rw [Nat.zero_add]; exact h) (Nat.zero_add _) (fun i h => by cases h) h0 step
theorem find_at {xs : List Nm} {p : Nm → Bool} {i : Nat} {x : Nm} (h : ∀ j, j < i → ∀ y, xs[j]? = some y → p y = false) (hx : xs[i]? = some x) (hp : p x = true) : xs.find? p = some x := by
  rw [List.find?_eq_some_iff_getElem]
  have hl := lt_of_at hx
  refine ⟨hp, i, hl, by rw [List.getElem?_eq_getElem hl] at hx; exact Option.some.inj hx, fun j hj => ?_⟩
  rw [h j hj xs[j] (List.getElem?_eq_getElem (by omega))]
  rfl
section
variable {o : Ob} {T : Sto} {rs : List Rw} {ms : List Nm}
def odd1 (rs : List Rw) (ms : List Nm) : Option Nm := ms.find? fun x => !decide (x ∈ nm rs)
theorem steps (h : WOk rs) {d : P} (hd : seqOf (.v d) (o :: T) = some (ms.map nP, none)) : RU.X_require_steps [.v (wkP rs), .v d] (o :: T) = match odd1 rs ms with
    | none => .ok (.v .non) (o :: T)
    | some x => .ex (RU.unkX x) (o :: T) := by
  have main := for_fs (I := fun i env S => ∃ e3, env = [some (.v (wkP rs)), some (.v d), some (.v (dcP rs)), e3] ∧ S = o :: T) (f := fun j => match ms[j]? with | some x => decide (x ∈ nm rs) | none => true) (E := fun j => RU.unkX (ms.getD j default)) (W := fun S => S = o :: T) (g := gNm 3) (b := RU.LX_require_steps_0) (it := iVal (fVar 1))
    (env := [some (.v (wkP rs)), some (.v d), some (.v (dcP rs)), none]) (S := o :: T) (e_iv (e_var rfl) hd) ⟨_, rfl, rfl⟩ (fun j p env S hp bef ⟨e3, e, eS⟩ => by
      subst e eS
      rw [List.getElem?_map] at hp
      obtain ⟨x, hx, rfl⟩ := Option.map_eq_some_iff.mp hp
      refine ⟨_, _, e_gNm, ?_⟩
      by_cases hm : x ∈ nm rs
      · refine .inl ⟨by simp only [hx]; exact decide_eq_true hm, [some (.v (wkP rs)), some (.v d), some (.v (dcP rs)), some (.v (nP x))], o :: T, ?_, _, rfl, rfl⟩
        unfold RU.LX_require_steps_0
        exact z_ifF (v_T (e_tru (e_f2 (e_var rfl) (e_var rfl) (e_l2 rfl rfl o_niD)) rfl (by rw [decide_eq_true hm]; rfl))) z_next
      · refine .inr ⟨by simp only [hx]; exact decide_eq_false hm, [some (.v (wkP rs)), some (.v d), some (.v (dcP rs)), some (.v (nP x))], o :: T, ?_, rfl⟩
        unfold RU.LX_require_steps_0
        rw [show ms.getD j default = x by rw [List.getD_eq_getElem?_getD, hx]; rfl]
        exact z_ifT (v_T (e_tru (e_f2 (e_var rfl) (e_var rfl) (e_l2 rfl rfl o_niD)) rfl (by rw [decide_eq_false hm]; rfl))) (z_raise (c := "UnknownStep") (ns := ["step"]) (ps := [nP x]) (e_cons (e_var rfl) e_nil) rfl rfl))
  have body : ∀ r : Flx, xFor (iVal (fVar 1)) (gNm 3) RU.LX_require_steps_0 [some (.v (wkP rs)), some (.v d), some (.v (dcP rs)), none] (o :: T) = r → RU.BX_require_steps [some (.v (wkP rs)), some (.v d), none, none] (o :: T) = r := fun r hr => by
    unfold RU.BX_require_steps
    exact z_seq (z_S (fx_nx (s_SetE (e_call (e_cons (e_var rfl) e_nil) (rows_by h)) e_gNm ⟨rfl, rfl⟩))) hr
  rcases main with ⟨all, e2, S2, e, e3, rfl, rfl⟩ | ⟨j, F, e2, S2, e, rfl⟩
  · have hn : odd1 rs ms = none := by
      unfold odd1
      rw [List.find?_eq_none]
      intro x hx
      obtain ⟨i, hi, ei⟩ := List.getElem_of_mem hx
      have := all i (by rw [List.length_map]; exact hi)
      rw [List.getElem?_eq_getElem hi] at this
      simp only [ei] at this
      rw [this]
      decide
    rw [hn]
    exact r_nx (S2 := o :: T) (B := []) (by rw [List.append_nil]; exact body _ e) rfl
  · have hj := F.lt
    rw [List.length_map] at hj
    have hs : odd1 rs ms = some (ms.getD j default) := by
      have ej : ms[j]? = some (ms.getD j default) := by rw [List.getD_eq_getElem?_getD, List.getElem?_eq_getElem hj]; rfl
      refine find_at (i := j) (fun i hi y hy => ?_) ej ?_
      · have := F.bef i hi
        simp only [hy] at this
        rw [this]
        rfl
      · have := F.no
        simp only [ej] at this
        rw [this]
        rfl
    rw [hs]
    exact r_ex (S2 := o :: T) (B := []) (by rw [List.append_nil]; exact body _ e) rfl
end
end XL
namespace K04
open PySem PySem.Spec PyProof.Rows L2 DL GA GM FM RU XL GO
open FA (AOk)
def tS : HO.Ts := ⟨cs_InvalidPaper, cs_UnknownStep, cs_ImpossibleMove, cs_InvalidPurchase, cs_NothingToUndo, cs_InvalidText, cs_InvalidRow, cs_PaperError, cs_WorkError, cs_TextError, cs_MaybeError, cs_ValueError, ks_word, ks_at, ks_step, ks_move, ks_reason, ks_line, ks_field⟩
theorem tS_up : tS.up := ⟨by decide +kernel, by decide +kernel⟩
theorem g_eq : G__law_outcome = HO.Gf tS := rfl
theorem leT_nil (w : List Nm) : leT [] w = true := by
  unfold leT
  rw [MN.le_lt]
  rw [tN_st, tN_st, py_st, py_st]
  cases w with
  | nil => rw [PySem.W.dataLt_tuple]; decide +kernel
  | cons x xs =>
    rw [PySem.W.dataLt_tuple]
    rfl
theorem leT_cons {x y : Nm} {xs ys : List Nm} (h : x = y ∧ leT xs ys = true ∨ x ≠ y ∧ leN x y = true) : leT (x :: xs) (y :: ys) = true := by
  unfold leT
  rw [MN.le_lt]
  rw [tN_st, tN_st, py_st, py_st, PySem.W.dataLt_tuple]
  rw [List.map_cons, List.map_cons, List.map_cons, List.map_cons, PySem.W.dataLt_cons (by simp [PySem.W.alike])]
  rcases h with ⟨rfl, h⟩ | ⟨hn, h⟩
  · unfold leT at h
    rw [MN.le_lt, tN_st, tN_st, py_st, py_st, PySem.W.dataLt_tuple] at h
    have : PyData.eqv (.str x.s) (.str x.s) = true := by simp [PyData.eqv]
    rw [if_pos this]
    exact h
  · have : ¬ PyData.eqv (.str y.s) (.str x.s) = true := fun e => hn (Nm.inj (by
      have : y.s = x.s := by simpa [PyData.eqv] using e
      exact this.symm))
    rw [if_neg this]
    have h' : PySem.W.dataLe false pyOf (nP x) (nP y) = true := h
    rw [MN.le_lt] at h'
    exact h'
theorem o_minT {xss : List (List Nm)} {m : List Nm} (hm : m ∈ xss) (h : ∀ y ∈ xss, leT m y = true) : MN.bMin1 [.lst (xss.map tN)] = some (tN m) := by
  cases xss with
  | nil => cases hm
  | cons x xs =>
    refine MN.o_min (x := tN x) (xs := xs.map tN) (cmp_tN (x :: xs)) (fun p hp => ?_) (fun p hp => ?_) (List.mem_map_of_mem (f := tN) hm) fun p hp => ?_
    · obtain ⟨y, _, rfl⟩ := List.mem_map.mp (show p ∈ (x :: xs).map tN from hp)
      have dep : ∀ xs : List Str, PyData.depthAll (xs.map PyData.str) = 0 := fun xs => by
        induction xs with
        | nil => rfl
        | cons x xs ih => simp [PyData.depthAll, PyData.depth, ih]
      rw [tN_st, py_st]
      show PyData.depthAll _ + 1 ≤ 64
      rw [dep]
      omega
    · obtain ⟨y, _, rfl⟩ := List.mem_map.mp (show p ∈ (x :: xs).map tN from hp)
      rw [tN_st, py_st]
      rfl
    · obtain ⟨y, hy, rfl⟩ := List.mem_map.mp (show p ∈ (x :: xs).map tN from hp)
      exact h y hy
theorem nodup_len {α : Type} [DecidableEq α] : ∀ (l D : List α), l.Nodup → (∀ x ∈ l, x ∈ D) → l.length ≤ D.length
  | [], _, _, _ => Nat.zero_le _
  | a :: l, D, hn, h => by
    obtain ⟨h1, h2⟩ := List.nodup_cons.mp hn
    have ha := h a (List.mem_cons_self ..)
    have h3 := nodup_len l (D.erase a) h2 fun x hx => by
      have hne : x ≠ a := fun e => h1 (e ▸ hx)
      exact (List.mem_erase_of_ne hne).mpr (h x (List.mem_cons_of_mem _ hx))
    rw [List.length_erase_of_mem ha] at h3
    have := List.length_pos_of_mem ha
    rw [List.length_cons]
    omega
def ordB (rs : List Rw) (zs : List Nm) : Bool := (List.range zs.length).all fun k => (rowOf rs (zs.getD k default)).ne.all fun y => !decide (y ∈ zs.drop k)
def Arr (ms zs : List Nm) : Prop := zs.Nodup ∧ zs.length = ms.length ∧ ∀ x ∈ zs, x ∈ ms
section
variable {rs : List Rw} {ms : List Nm}
theorem arr_mem {zs : List Nm} (hm : ms.Nodup) (h : Arr ms zs) {x : Nm} (hx : x ∈ ms) : x ∈ zs := by
  obtain ⟨h1, h2, h3⟩ := h
  refine Classical.byContradiction fun hn => ?_
  have := nodup_len (x :: zs) ms (List.nodup_cons.mpr ⟨hn, h1⟩) fun y hy => by
    rcases List.mem_cons.mp hy with rfl | hy
    · exact hx
    · exact h3 y hy
  rw [List.length_cons] at this
  omega
theorem ord_at {zs : List Nm} (h : ordB rs zs = true) {k : Nat} {x y : Nm} (hx : zs[k]? = some x) (hy : y ∈ (rowOf rs x).ne) : y ∉ zs.drop k := by
  unfold ordB at h
  rw [List.all_eq_true] at h
  have h1 := h k (List.mem_range.mpr (lt_of_at hx))
  rw [show zs.getD k default = x by rw [List.getD_eq_getElem?_getD, hx]; rfl, List.all_eq_true] at h1
  have := h1 y hy
  simpa using this
theorem nord_arr (hr : Rank rs) (hm : MOk rs ms) : Arr ms (nord rs ms) := ⟨nord_nd hr hm, nord_len hr hm, fun _ hx => (nord_mem hr hm).mp hx⟩
theorem nord_ord (hr : Rank rs) (hm : MOk rs ms) : ordB rs (nord rs ms) = true := by
  unfold ordB
  rw [List.all_eq_true]
  intro k hk
  have hkl := List.mem_range.mp hk
  obtain ⟨x, hx⟩ : ∃ x, (nord rs ms)[k]? = some x := ⟨_, List.getElem?_eq_getElem hkl⟩
  rw [show (nord rs ms).getD k default = x by rw [List.getD_eq_getElem?_getD, hx]; rfl, List.all_eq_true]
  intro y hy
  have hn : y ∉ (nord rs ms).drop k := fun hd => by
    have hym : y ∈ ms := (nord_mem hr hm).mp (List.mem_of_mem_drop hd)
    have hp := nord_pre hr hm hx hy hym
    have hnd := nord_nd hr hm
    rw [← List.take_append_drop k (nord rs ms)] at hnd
    exact (List.nodup_append.mp hnd).2.2 y hp y hd rfl
  simpa using hn
theorem least_from (hr : Rank rs) (hm : MOk rs ms) (ha : Asc ms) {zs : List Nm} (hz : Arr ms zs) (ho : ordB rs zs = true) : ∀ (d k : Nat), k + d = ms.length → zs.take k = (nord rs ms).take k → leT ((nord rs ms).drop k) (zs.drop k) = true
  | 0, k, hk, _ => by
    have h1 := nord_len hr hm
    rw [List.drop_eq_nil_of_le (by omega)]
    exact leT_nil _
  | d + 1, k, hk, ht => by
    have h1 := nord_len hr hm
    have h2 := hz.2.1
    obtain ⟨x, hx⟩ : ∃ x, (nord rs ms)[k]? = some x := ⟨_, List.getElem?_eq_getElem (by omega)⟩
    obtain ⟨y, hy⟩ : ∃ y, zs[k]? = some y := ⟨_, List.getElem?_eq_getElem (by omega)⟩
    have dx : (nord rs ms).drop k = x :: (nord rs ms).drop (k + 1) := by
      rw [List.drop_eq_getElem_cons (by omega)]
      rw [List.getElem?_eq_getElem (by omega)] at hx
      rw [Option.some.inj hx]
    have dy : zs.drop k = y :: zs.drop (k + 1) := by
      rw [List.drop_eq_getElem_cons (by omega)]
      rw [List.getElem?_eq_getElem (by omega)] at hy
      rw [Option.some.inj hy]
    rw [dx, dy]
    by_cases hxy : x = y
    · subst hxy
      refine leT_cons (.inl ⟨rfl, least_from hr hm ha hz ho d (k + 1) (by omega) ?_⟩)
      rw [List.take_add_one, List.take_add_one, ht, hx, hy]
    · refine leT_cons (.inr ⟨hxy, ?_⟩)
      have hf := nord_at hr hm hx
      have hg : gr rs ms k = (nord rs ms).take k := (nord_take hr hm (by omega)).symm
      refine find_le ha hf (hz.2.2 y (List.mem_of_getElem? hy)) (av_iff.mpr ⟨?_, fun q hq => ?_⟩)
      · rw [hg, ← ht]
        intro hmem
        have hnd := hz.1
        rw [← List.take_append_drop k zs] at hnd
        exact (List.nodup_append.mp hnd).2.2 y hmem y (by rw [dy]; exact List.mem_cons_self ..) rfl
      · by_cases hqm : q ∈ ms
        · left
          rw [hg, ← ht]
          have hqz := arr_mem hm.nd hz hqm
          have hnot := ord_at ho hy hq
          rw [← List.take_append_drop k zs] at hqz
          exact (List.mem_append.mp hqz).resolve_right hnot
        · exact .inr hqm
theorem least (hr : Rank rs) (hm : MOk rs ms) (ha : Asc ms) {zs : List Nm} (hz : Arr ms zs) (ho : ordB rs zs = true) : leT (nord rs ms) zs = true := by
  have := least_from hr hm ha hz ho ms.length 0 (by omega) (by simp)
  simpa using this
end
section
variable {o : Ob} {T : Sto} {rs : List Rw} {ms : List Nm}
theorem need_ok (h : WOk rs) (hr : Rank rs) (hm : MOk rs ms) : X_need_order [.v (wkP rs), .v (tN ms)] (o :: T) = .ok (.v (tN (nord rs ms))) (o :: T) := by
  have hml := hm.len h
  have hst := XL.steps (o := o) (T := T) (ms := ms) (d := tN ms) h rfl
  have hodd : odd1 rs ms = none := by
    unfold odd1
    rw [List.find?_eq_none]
    intro x hx
    simp [hm.sub x hx]
  rw [hodd] at hst
  have main : (fWhile (fTru (f2 pLt (fCb bLen (fCons (fVar 3) fNil)) (fCb bLen (fCons (fVar 1) fNil)))) LX_need_order_1 [some (.v (wkP rs)), some (.v (tN ms)), some (.v (dcP rs)), some (.v (tN [])), none, none] (o :: T)).F ⟨fun env S => ∃ e4 e5 : Option DL.D, env = [some (.v (wkP rs)), some (.v (tN ms)), some (.v (dcP rs)), some (.v (tN (nord rs ms))), e4, e5] ∧ S = o :: T, fun _ _ => False, fun _ _ => False, fun _ _ => False⟩ := by
    refine s_While (fun n env S => ∃ (k : Nat) (e4 e5 : Option DL.D), env = [some (.v (wkP rs)), some (.v (tN ms)), some (.v (dcP rs)), some (.v (tN (gr rs ms k))), e4, e5] ∧ S = o :: T ∧ k ≤ ms.length ∧ ms.length - k = n) ms.length (by omega)
      ⟨0, _, _, rfl, rfl, Nat.zero_le _, rfl⟩ ?_
    rintro n env S ⟨k, e4, e5, rfl, rfl, hk, hn⟩
    have hgl := (gr_ok hr hm k hk).2.2
    have elen : bLen [tN (gr rs ms k)] = some (.int k) := by
      show some (P.int ((gr rs ms k).map nP).length) = _
      rw [List.length_map, hgl]
    have elen2 : bLen [tN ms] = some (.int ms.length) := by
      show some (P.int (ms.map nP).length) = _
      rw [List.length_map]
    refine P_of (a := decide ((k : Int) < ms.length)) (S := o :: T) (e_tru (e_f2 (e_cb (e_cons (e_var rfl) e_nil) (a_cons rfl a_nil) elen) (e_cb (e_cons (e_var rfl) e_nil) (a_cons rfl a_nil) elen2) (e_l2 rfl rfl GO.o_ltI)) rfl rfl) ⟨fun hlt => ?_, fun hge => ?_⟩
    · rw [decide_eq_true_eq] at hlt
      unfold LX_need_order_1
      refine s_ForE (z := (ms.map nP, none)) (S1 := o :: T) (e_iv (e_var rfl) rfl) ?_
      refine s_Loop (fun i env S => ∃ (e4 e5 : Option DL.D), env = [some (.v (wkP rs)), some (.v (tN ms)), some (.v (dcP rs)), some (.v (tN (gr rs ms k))), e4, e5] ∧ S = o :: T ∧ ∀ y ∈ ms.take i, av rs ms (gr rs ms k) y = false)
        ⟨_, _, rfl, rfl, fun y hy => by simp at hy⟩ (fun _ _ _ _ => own_none) ?_ ?_
      · rintro i p env S hi ⟨e4, e5, rfl, rfl, hno⟩
        have hi' : (ms.map nP)[i]? = some p := hi
        rw [List.getElem?_map] at hi'
        obtain ⟨x, hx, rfl⟩ := Option.map_eq_some_iff.mp hi'
        have hxm := hm.sub x (List.mem_of_getElem? hx)
        have hnel := h.ne _ (rowOf_mem hxm).1
        refine P_of e_gNm ?_
        unfold LX_need_order_0
        refine s_IfE (k := av rs ms (gr rs ms k) x) (S1 := o :: T) ?_ (fun hc => ?_) fun hc => ?_
        · refine e_and (e_tru (e_f2 (e_var rfl) (e_var rfl) (e_l2 rfl rfl o_niT)) rfl rfl) fun _ => e_tru (e_cb (e_cons (e_lcA (xs := (rowOf rs x).ne) (f := nP) (own := none) (hh := fun y => .bl (decide (y ∈ gr rs ms k) || !decide (y ∈ ms))) (S1 := o :: T) (e_iv (e_f2 (e_f2 (e_var rfl) (e_var rfl) (e_l2 rfl rfl (o_row hxm))) e_c (e_l2 rfl rfl o_r1)) rfl) own_none (by omega) fun y hy => ?_) e_nil) (a_cons rfl a_nil) (GM.o_all (f := fun y => decide (y ∈ gr rs ms k) || !decide (y ∈ ms)))) rfl rfl
          exact e_body e_gNm e_yes fun _ => e_orV (e_f2 (e_var rfl) (e_var rfl) (e_l2 rfl rfl o_inT)) fun _ => e_f2 (e_var rfl) (e_var rfl) (e_l2 rfl rfl o_niT)
        · have hf := GO.find_at hno hx hc
          have hg : gr rs ms (k + 1) = gr rs ms k ++ [x] := by
            show stepG rs ms (gr rs ms k) = _
            unfold stepG
            rw [hf]
          refine s_Seq (s_SetE (d := .v (tN (gr rs ms (k + 1)))) (S1 := o :: T) ?_ e_gNm ?_)
          · rw [hg]
            exact e_f2 (e_var rfl) (e_tup (ds := [.v (nP x)]) (e_cons (e_var rfl) e_nil) rfl (by show (1 : Nat) ≤ 100000; decide)) (e_l2 rfl rfl (o_addT1 (by omega)))
          · refine s_Bk ?_
            exact ⟨ms.length - (k + 1), by omega, k + 1, _, _, rfl, rfl, by omega, rfl⟩
        · refine s_Nx ⟨_, _, rfl, rfl, fun y hy => ?_⟩
          have e2 : ms.take (i + 1) = ms.take i ++ [x] := by
            rw [List.take_add_one, hx]
            rfl
          rw [e2] at hy
          rcases List.mem_append.mp hy with hy | hy
          · exact hno y hy
          · rw [List.mem_singleton.mp hy]
            exact hc
      · rintro env S ⟨e4, e5, rfl, rfl, hno⟩
        exfalso
        obtain ⟨x, hx⟩ := av_ex hr hm (f := gr rs ms k) (by omega)
        have := hno x (by
          show x ∈ ms.take (ms.map nP).length
          rw [List.length_map, List.take_length]
          exact List.mem_of_find?_eq_some hx)
        rw [List.find?_some hx] at this
        cases this
    · rw [decide_eq_false_iff_not] at hge
      have : k = ms.length := by omega
      subst this
      exact ⟨_, _, rfl, rfl⟩
  obtain ⟨e1, S1, e, e4, e5, rfl, rfl⟩ := HO.nx_of main
  refine r_rt (S2 := o :: T) (B := []) ?_ rfl
  rw [List.append_nil]
  show BX_need_order [some (.v (wkP rs)), some (.v (tN ms)), none, none, none, none] (o :: T) = _
  unfold BX_need_order
  refine z_seq (z_drop ((v_call (v_A (e_cons (e_var rfl) (e_cons (e_var rfl) e_nil)))).trans hst)) (z_seq (z_S (fx_nx ?_)) (z_seq (z_S e) (z_SR (fx_rt (s_RetE (e_var rfl) ⟨rfl, rfl⟩)))))
  exact s_Par2 (d := .v (dcP rs)) (e := .v (tN [])) (S1 := o :: T) (e_cons (e_call (e_cons (e_var rfl) e_nil) (rows_by h)) (e_cons (e_tup e_nil v_nil (by decide)) e_nil)) ⟨rfl, rfl⟩
theorem need_ex (h : WOk rs) {x : Nm} (hx : odd1 rs ms = some x) : X_need_order [.v (wkP rs), .v (tN ms)] (o :: T) = .ex (unkX x) (o :: T) := by
  have hst := XL.steps (o := o) (T := T) (ms := ms) (d := tN ms) h rfl
  rw [hx] at hst
  refine r_ex (S2 := o :: T) (B := []) (env := [some (.v (wkP rs)), some (.v (tN ms)), none, none, none, none]) ?_ rfl
  rw [List.append_nil]
  show BX_need_order [some (.v (wkP rs)), some (.v (tN ms)), none, none, none, none] (o :: T) = _
  unfold BX_need_order
  exact z_seqX (z_dropX ((v_call (v_A (e_cons (e_var rfl) (e_cons (e_var rfl) e_nil)))).trans hst))
theorem unkT (h : WOk rs) (hl : ms.length ≤ 62) : F__law_unknown [.v (wkP rs), .v (tN ms)] (o :: T) = .ok (.v (match odd1 rs ms with
    | some x => .tup [.str "step", nP x]
    | none => .non)) (o :: T) := by
  refine e_run ?_
  show (B__law_unknown [some (.v (wkP rs)), some (.v (tN ms)), none, none] _).F _
  unfold B__law_unknown
  refine s_Seq (s_SetE (d := .v (lN (ms.filter fun y => !decide (y ∈ nm rs)))) (S1 := o :: (T ++ [])) (e_lc (xs := ms) (f := nP) (own := none) (q := fun y => !decide (y ∈ nm rs)) (hh := nP) (S1 := o :: (T ++ [])) (e_iv (e_var rfl) rfl) own_none (by omega) fun y hy => ?_) e_gNm ?_)
  · exact e_body e_gNm (e_tru (e_f2 (e_var rfl) (e_call (e_cons (e_var rfl) e_nil) (FA.names h)) (e_l2 rfl rfl o_niLs)) rfl rfl) fun _ => e_var rfl
  unfold odd1
  rw [← List.head?_filter]
  cases hf : ms.filter fun y => !decide (y ∈ nm rs) with
  | nil => exact s_RetE (e_ite (a := false) (p := .non) (q := .non) (e_tru (e_f2 (e_var rfl) (e_lst e_nil rfl (by decide)) (e_l2 rfl rfl o_neLs0)) rfl rfl) (fun z => by cases z) fun _ => e_c) e_close
  | cons x r => exact s_RetE (e_ite (a := true) (p := .tup [.str "step", nP x]) (q := .tup [.str "step", nP x]) (e_tru (e_f2 (e_var rfl) (e_lst e_nil rfl (by decide)) (e_l2 rfl rfl (o_neLs0 (xs := x :: r)))) rfl rfl) (fun _ => e_tup (ds := [.v (.str "step"), .v (nP x)]) (e_cons e_c (e_cons (e_f2 (e_var rfl) e_c (e_l2 rfl rfl (o_ix (f := nP) (i := 0) (xs := x :: r) rfl).1)) e_nil)) rfl (by show (2 : Nat) ≤ 100000; decide)) fun z => by cases z) e_close
theorem lenT {xs : List Nm} : bLen [tN xs] = some (.int xs.length) := by
  show some (P.int (xs.map nP).length) = _
  rw [List.length_map]
theorem ordered {zs : List Nm} (h : WOk rs) (hz : ∀ x ∈ zs, x ∈ nm rs) (hl : zs.length ≤ 62) : F__law_is_ordered [.v (wkP rs), .v (tN zs)] (o :: T) = .ok (.v (.bl (ordB rs zs))) (o :: T) := by
  have rgz : iR1 (fCons (fCb bLen (fCons (fVar 1) fNil)) fNil) [some (.v (wkP rs)), some (.v (tN zs)), none, none] (o :: (T ++ [])) = .ok ((List.range zs.length).map (fun i : Nat => P.int (i : Int)), none) (o :: (T ++ [])) := e_rg (n := zs.length) (e_cons (e_cb (e_cons (e_var rfl) e_nil) (a_cons rfl a_nil) lenT) e_nil) (by omega) (by omega)
  refine e_run ?_
  show (B__law_is_ordered [some (.v (wkP rs)), some (.v (tN zs)), none, none] _).F _
  unfold B__law_is_ordered
  refine s_Seq (s_ForE (z := ((List.range zs.length).map (fun i : Nat => P.int (i : Int)), none)) (S1 := o :: (T ++ [])) rgz ?_)
  have step : ∀ k x, zs[k]? = some x → ∃ b : Bool, b = ((rowOf rs x).ne.all fun y => !decide (y ∈ zs.drop k)) := fun k x _ => ⟨_, rfl⟩
  refine s_Loop (fun i env S => (∀ k, k < i → ((rowOf rs (zs.getD k default)).ne.all fun y => !decide (y ∈ zs.drop k)) = true) ∧ ∃ e2 e3 : Option DL.D, env = [some (.v (wkP rs)), some (.v (tN zs)), e2, e3] ∧ S = o :: (T ++ [])) ⟨(fun k hk => by omega), _, _, rfl, rfl⟩ (fun _ _ _ _ => own_none) ?_ ?_
  · rintro k p env S hk ⟨bef, e2, e3, rfl, rfl⟩
    have hk' : ((List.range zs.length).map fun i : Nat => P.int (i : Int))[k]? = some p := hk
    have hkl : k < zs.length := by have := lt_of_at hk'; simpa using this
    have hp : p = .int (k : Int) := by
      rw [List.getElem?_map, List.getElem?_range hkl] at hk'
      simpa using hk'.symm
    subst hp
    obtain ⟨x, hx⟩ : ∃ x, zs[k]? = some x := ⟨_, List.getElem?_eq_getElem hkl⟩
    have hxd : zs.getD k default = x := by rw [List.getD_eq_getElem?_getD, hx]; rfl
    have hxm := hz x (List.mem_of_getElem? hx)
    have hnel := h.ne _ (rowOf_mem hxm).1
    refine P_of e_gNm ?_
    unfold L__law_is_ordered_0
    refine s_IfE (k := !decide ((rowOf rs x).ne.filter (fun y => decide (y ∈ zs.drop k)) = [])) (S1 := o :: (T ++ [])) (e_tru (e_f2 (e_lc (xs := (rowOf rs x).ne) (f := nP) (own := none) (q := fun y => decide (y ∈ zs.drop k)) (hh := nP) (S1 := o :: (T ++ [])) (e_iv (e_f2 (e_call (e_cons (e_var rfl) (e_cons (e_f2 (e_var rfl) (e_var rfl) (e_l2 rfl rfl (o_ix (f := nP) hx).2)) e_nil)) (FA.entry h hxm)) e_c (e_l2 rfl rfl o_r1)) rfl) own_none (by omega) fun y hy => ?_) (e_lst e_nil rfl (by decide)) (e_l2 rfl rfl o_neLs0)) rfl rfl) (fun hc => ?_) fun hc => s_Nx ⟨fun j hj => ?_, _, _, rfl, rfl⟩
    · exact e_body e_gNm (e_tru (e_f2 (e_var rfl) (e_sl (e_var rfl) (e_oAt (e_var rfl)) e_oNo rfl (o_slFromT (f := nP) (by omega))) (e_l2 rfl rfl o_inT)) rfl rfl) fun _ => e_var rfl
    · have hf : ordB rs zs = false := by
        unfold ordB
        rw [List.all_eq_false]
        refine ⟨k, List.mem_range.mpr hkl, ?_⟩
        rw [hxd]
        intro hall
        have hne : ¬ (rowOf rs x).ne.filter (fun y => decide (y ∈ zs.drop k)) = [] := by simpa using hc
        refine hne (List.filter_eq_nil_iff.mpr fun y hy => ?_)
        have := List.all_eq_true.mp hall y hy
        simpa using this
      rw [hf]
      exact s_RetE e_c e_close
    · rcases Nat.lt_succ_iff_lt_or_eq.mp hj with h2 | rfl
      · exact bef j h2
      · rw [hxd, List.all_eq_true]
        intro y hy
        have he : (rowOf rs x).ne.filter (fun y => decide (y ∈ zs.drop j)) = [] := by simpa using hc
        have := List.filter_eq_nil_iff.mp he y hy
        simpa using this
  · rintro env S ⟨all, e2, e3, rfl, rfl⟩
    have ht : ordB rs zs = true := by
      unfold ordB
      rw [List.all_eq_true]
      intro k hk
      exact all k (by rw [List.length_map, List.length_range]; exact List.mem_range.mp hk)
    rw [ht]
    dsimp only
    exact s_RetE e_c e_close
end
end K04
namespace K04
open PySem PySem.Spec PyProof.Rows L2 DL GA GM FM RU XL GO
open FA (AOk)
theorem o_gtI {i j : Int} : pGt (.int i) (.int j) = some (.bl (decide (j < i))) := rfl
def nxt (ms : List Nm) (zss : List (List Nm)) : List (List Nm) := zss.flatMap fun z => (ms.filter fun x => !decide (x ∈ z)).map fun x => z ++ [x]
def lev (ms : List Nm) : Nat → List (List Nm)
  | 0 => [[]]
  | n + 1 => nxt ms (lev ms n)
theorem nxt_len (ms : List Nm) : ∀ zss : List (List Nm), (nxt ms zss).length ≤ zss.length * ms.length
  | [] => Nat.zero_le _
  | z :: zss => by
    have ih := nxt_len ms zss
    unfold nxt at ih ⊢
    rw [List.flatMap_cons, List.length_append, List.length_map, List.length_cons, Nat.succ_mul]
    have := List.length_filter_le (fun x => !decide (x ∈ z)) ms
    omega
theorem lev_len {ms : List Nm} (h : ms.length ≤ 4) : ∀ n, (lev ms n).length ≤ 4 ^ n
  | 0 => Nat.le_refl _
  | n + 1 => by
    refine Nat.le_trans (nxt_len ms (lev ms n)) ?_
    rw [Nat.pow_succ]
    exact Nat.mul_le_mul (lev_len h n) h
theorem lev_mem {ms : List Nm} : ∀ {n : Nat} {z : List Nm}, z ∈ lev ms n ↔ z.Nodup ∧ z.length = n ∧ ∀ x ∈ z, x ∈ ms
  | 0, z => by
    show z ∈ [[]] ↔ _
    rw [List.mem_singleton]
    constructor
    · rintro rfl
      exact ⟨List.nodup_nil, rfl, fun x hx => by cases hx⟩
    · rintro ⟨_, h, _⟩
      exact List.length_eq_zero_iff.mp h
  | n + 1, z => by
    show z ∈ nxt ms (lev ms n) ↔ _
    unfold nxt
    rw [List.mem_flatMap]
    constructor
    · rintro ⟨y, hy, hz⟩
      obtain ⟨x, hx, rfl⟩ := List.mem_map.mp hz
      obtain ⟨hx1, hx2⟩ := List.mem_filter.mp hx
      have hx2 : x ∉ y := by simpa using hx2
      obtain ⟨h1, h2, h3⟩ := lev_mem.mp hy
      refine ⟨?_, by simp [h2], fun q hq => ?_⟩
      · rw [List.nodup_append]
        refine ⟨h1, by simp, fun a ha b hb e => ?_⟩
        rw [List.mem_singleton] at hb
        exact hx2 (by rw [← hb, ← e]; exact ha)
      · rcases List.mem_append.mp hq with h | h
        · exact h3 q h
        · rw [List.mem_singleton.mp h]
          exact hx1
    · rintro ⟨h1, h2, h3⟩
      obtain ⟨y, x, rfl⟩ : ∃ y x, z = y ++ [x] := by
        have hne : z ≠ [] := fun e => by rw [e] at h2; cases h2
        exact ⟨z.dropLast, z.getLast hne, (List.dropLast_concat_getLast hne).symm⟩
      obtain ⟨k1, _, k3⟩ := List.nodup_append.mp h1
      refine ⟨y, lev_mem.mpr ⟨k1, by simpa using h2, fun q hq => h3 q (List.mem_append_left _ hq)⟩, List.mem_map.mpr ⟨x, List.mem_filter.mpr ⟨h3 x (List.mem_append_right _ (List.mem_singleton.mpr rfl)), ?_⟩, rfl⟩⟩
      have : x ∉ y := fun h => k3 x h x (List.mem_singleton.mpr rfl) rfl
      simpa using this
theorem nxt_add {ms : List Nm} {a : List (List Nm)} {z : List Nm} : nxt ms (a ++ [z]) = nxt ms a ++ (ms.filter fun x => !decide (x ∈ z)).map fun x => z ++ [x] := by
  unfold nxt
  rw [List.flatMap_append]
  simp
section
variable {o : Ob} {T : Sto} {rs : List Rw} {ms : List Nm}
theorem arrangements (hl : ms.length ≤ 4) : (F__law_arrangements [.v (tN ms)] (o :: T)).P fun d S => d = .v (.lst ((lev ms ms.length).map tN)) ∧ S = o :: T := by
  have pw : ∀ i : Nat, i ≤ 4 → 4 ^ i ≤ 256 := fun i hi => Nat.pow_le_pow_right (by decide) hi
  have rgz : iR1 (fCons (fCb bLen (fCons (fVar 0) fNil)) fNil) [some (.v (tN ms)), some (.v (.lst ([([] : List Nm)].map tN))), none, none, none, none] (o :: (T ++ [])) = .ok ((List.range ms.length).map (fun i : Nat => P.int (i : Int)), none) (o :: (T ++ [])) := e_rg (n := ms.length) (e_cons (e_cb (e_cons (e_var rfl) e_nil) (a_cons rfl a_nil) lenT) e_nil) (by omega) (by omega)
  refine p_runC ?_
  show (B__law_arrangements [some (.v (tN ms)), none, none, none, none, none] _).F _
  unfold B__law_arrangements
  refine s_Seq (s_SetE (d := .v (.lst ([([] : List Nm)].map tN))) (S1 := o :: (T ++ [])) (e_lst (ds := [.v (tN [])]) (e_cons (e_tup e_nil v_nil (by decide)) e_nil) rfl (by show (1 : Nat) ≤ 100000; decide)) e_gNm ?_)
  refine s_Seq (s_ForE (z := ((List.range ms.length).map (fun i : Nat => P.int (i : Int)), none)) (S1 := o :: (T ++ [])) rgz ?_)
  refine s_Loop (fun i env S => ∃ (f : DL.D) (e2 e3 e4 e5 : Option DL.D) (B : Sto), env = [some (.v (tN ms)), some f, e2, e3, e4, e5] ∧ S = o :: (T ++ B) ∧ (f = .v (.lst ((lev ms i).map tN)) ∧ i = 0 ∨ ∃ j, f = .r (bx T j) ∧ B[j]? = some (.lst ((lev ms i).map tN)) ∧ j < B.length))
    ⟨_, _, _, _, _, [], rfl, rfl, .inl ⟨rfl, rfl⟩⟩ (fun _ _ _ _ => own_none) ?_ ?_
  · rintro i p env S hi ⟨f, e2, e3, e4, e5, B, rfl, rfl, hf⟩
    have hi' : ((List.range ms.length).map fun i : Nat => P.int (i : Int))[i]? = some p := hi
    have hil : i < ms.length := by have := lt_of_at hi'; simpa using this
    have hlv := lev_len hl i
    have h4 := pw i (by omega)
    refine P_of e_gNm ?_
    unfold L__law_arrangements_1
    refine s_Seq (s_SetE (d := .r (bx T B.length)) (S1 := o :: (T ++ (B ++ [Ob.lst []]))) (e_lstB e_nil v_nil (by decide)) e_gNm ?_)
    obtain ⟨own, hsq, hown⟩ : ∃ own : Own, (∀ ls, seqOf f (o :: (T ++ (B ++ [Ob.lst ls]))) = some ((lev ms i).map tN, own)) ∧ ∀ ls, OwnOk own ((lev ms i).map tN) (o :: (T ++ (B ++ [Ob.lst ls]))) := by
      rcases hf with ⟨rfl, h0⟩ | ⟨j, rfl, hB, hj⟩
      · exact ⟨none, fun _ => rfl, fun _ => own_none⟩
      · have hB2 : ∀ ls, (B ++ [Ob.lst ls])[j]? = some (.lst ((lev ms i).map tN)) := fun ls => by rw [List.getElem?_append_left hj]; exact hB
        exact ⟨some (bx T j : Nat), fun ls => seq_bx (hB2 ls), fun ls => own_bx (hB2 ls)⟩
    refine s_Seq (s_ForE (z := ((lev ms i).map tN, own)) (S1 := o :: (T ++ (B ++ [Ob.lst []]))) (e_iv (e_var rfl) (hsq _)) ?_)
    refine s_Loop (fun k env S => ∃ (e4 e5 : Option DL.D) (e2 : Option DL.D), env = [some (.v (tN ms)), some f, e2, some (.r (bx T B.length)), e4, e5] ∧ S = o :: (T ++ (B ++ [Ob.lst ((nxt ms ((lev ms i).take k)).map tN)])))
      ⟨_, _, _, rfl, rfl⟩ (fun k env S ⟨e4, e5, e2, _, h⟩ => by rw [h]; exact hown _) ?_ ?_
    · rintro k p env S hk ⟨e4, e5, e2, rfl, rfl⟩
      have hk' : ((lev ms i).map tN)[k]? = some p := hk
      rw [List.getElem?_map] at hk'
      obtain ⟨z, hz, rfl⟩ := Option.map_eq_some_iff.mp hk'
      obtain ⟨z1, z2, z3⟩ := lev_mem.mp (List.mem_of_getElem? hz)
      refine P_of e_gNm ?_
      unfold L__law_arrangements_0
      have hn1 := nxt_len ms ((lev ms i).take k)
      have hn2 : ((lev ms i).take k).length ≤ 256 := by rw [List.length_take]; omega
      have hn3 : ((lev ms i).take k).length * ms.length ≤ 256 * 4 := Nat.mul_le_mul hn2 hl
      refine s_DropE (e_mt (j := B.length) (ps := (nxt ms ((lev ms i).take k)).map tN) (ds := [.v (.lst ((ms.filter fun x => !decide (x ∈ z)).map fun x => tN (z ++ [x])))]) rfl (by simp) (e_cons (e_lc (xs := ms) (f := nP) (own := none) (q := fun x => !decide (x ∈ z)) (hh := fun x => tN (z ++ [x])) (S1 := o :: (T ++ (B ++ [Ob.lst ((nxt ms ((lev ms i).take k)).map tN)]))) (e_iv (e_var rfl) rfl) own_none (by omega) fun x hx => ?_) e_nil) (o_ext rfl ?_)) ?_
      · exact e_body e_gNm (e_tru (e_f2 (e_var rfl) (e_var rfl) (e_l2 rfl rfl o_niT)) rfl rfl) fun _ => e_f2 (e_var rfl) (e_tup (ds := [.v (nP x)]) (e_cons (e_var rfl) e_nil) rfl (by show (1 : Nat) ≤ 100000; decide)) (e_l2 rfl rfl (o_addT1 (by omega)))
      · have := List.length_filter_le (fun x => !decide (x ∈ z)) ms
        simp only [List.length_map]
        omega
      · refine ⟨_, _, _, rfl, ?_⟩
        have et : (lev ms i).take (k + 1) = (lev ms i).take k ++ [z] := by rw [List.take_add_one, hz]; rfl
        rw [List.set_append_right _ _ (Nat.le_refl _), Nat.sub_self, et, nxt_add, List.map_append, List.map_map]
        rfl
    · rintro env S ⟨e4, e5, e2, rfl, rfl⟩
      dsimp only
      rw [List.length_map, List.take_length]
      refine s_SetE (d := .r (bx T B.length)) (S1 := o :: (T ++ (B ++ [Ob.lst ((nxt ms (lev ms i)).map tN)]))) (e_var rfl) e_gNm ?_
      exact ⟨_, _, _, _, _, B ++ [Ob.lst ((nxt ms (lev ms i)).map tN)], rfl, rfl, .inr ⟨B.length, rfl, by simp; rfl, by simp⟩⟩
  · rintro env S ⟨f, e2, e3, e4, e5, B, rfl, rfl, hf⟩
    dsimp only
    rw [List.length_map, List.length_range] at hf
    refine s_RetE (e_var rfl) ?_
    rcases hf with ⟨rfl, h0⟩ | ⟨j, rfl, hB, hj⟩
    · exact c_ret ⟨rfl, rfl⟩
    · exact c_retL (ps := (lev ms ms.length).map tN) hB ⟨rfl, rfl⟩
end
end K04
namespace K09
open PySem PySem.Spec PyProof.Rows L2 DL GA GM FM RU
open FA (AOk)
theorem aok_shw {rs : List Rw} (A : AOk rs) : FN.Shw rs := ⟨A.len, fun r hr => ⟨A.ne8 hr, A.se8 hr, Nat.le_trans (A.ab4 hr) (by decide)⟩⟩
section
variable {o : Ob} {T : Sto} {rs : List Rw} {ps : List Nm} {w x out : Nm}
theorem sh_w : ∀ s ∈ ([("status" : Str), "ability", "needs", "needed", "sealed", "result", "step", "move"] : List Str), Sh 20 0 (.str s) := fun s hs => by
  have key : (([("status" : Str), "ability", "needs", "needed", "sealed", "result", "step", "move"] : List Str).all fun s => PyData.strOk (reprText s) && decide ((reprText s).length ≤ 20)) = true := by decide +kernel
  have h1 := List.all_eq_true.mp key s hs
  rw [Bool.and_eq_true, decide_eq_true_eq] at h1
  exact sh_str h1.1 h1.2
theorem sh_res {s : Str} {p : P} (hs : s ∈ ([("status" : Str), "ability", "needs", "needed", "sealed", "result", "step", "move"] : List Str)) (hp : Sh 200 1 p) : Sh 800 2 (.tup [.str s, p]) := by
  refine (FN.sh_tupN (n := 200) (m := 1) (k := 2) (fun z hz => ?_) (by show (2 : Nat) ≤ 2; decide)).mono (by decide) (Nat.le_refl _)
  simp only [List.mem_cons, List.not_mem_nil, or_false] at hz
  rcases hz with rfl | rfl
  · exact (sh_w _ hs).mono (by decide) (by decide)
  · exact hp
end
end K09
namespace K04
open PySem PySem.Spec PyProof.Rows L2 DL GA GM FM RU XL GO
open FA (AOk AOp)
section
variable {o : Ob} {T B : Sto} {rs : List Rw} {ms : List Nm}
theorem expected (A : AOk rs) (ha : Asc ms) (hs : ∀ x ∈ ms, x ∈ nm rs) : (F__law_expected [.v (wkP rs), .v (tN ms)] (o :: T)).P fun d S => d = .v (tN (nord rs ms)) ∧ S = o :: T := by
  have W := A.wok
  have hm : MOk rs ms := ⟨hs, ha.nd⟩
  have hr : Rank rs := A.rank
  have hml : ms.length ≤ 8 := by
    have h1 := (asc_sub ha A.asc hs).length_le
    rw [FA.nm_len] at h1
    exact Nat.le_trans h1 A.len
  refine p_runC ?_
  show (B__law_expected [some (.v (wkP rs)), some (.v (tN ms)), none, none, none, none, none] _).F _
  unfold B__law_expected
  by_cases h5 : ms.length < 5
  · refine s_Seq (s_IfE (k := true) (S1 := o :: (T ++ [])) (e_tru (e_f2 (e_cb (e_cons (e_var rfl) e_nil) (a_cons rfl a_nil) lenT) e_c (e_l2 rfl rfl GO.o_ltI)) rfl (by rw [decide_eq_true (by omega)]; rfl)) (fun _ => ?_) fun z => nomatch z)
    obtain ⟨d, S, ea, rfl, rfl⟩ := (arrangements (o := o) (T := T ++ []) (ms := ms) (by omega)).ex
    have hlv := lev_len (ms := ms) (by omega) ms.length
    have h4 : 4 ^ ms.length ≤ 256 := Nat.pow_le_pow_right (by decide) (show ms.length ≤ 4 by omega)
    have hin : ∀ z ∈ (lev ms ms.length).filter (ordB rs), Arr ms z ∧ ordB rs z = true := fun z hz => by
      obtain ⟨h1, h2⟩ := List.mem_filter.mp hz
      exact ⟨lev_mem.mp h1, h2⟩
    have hmem : nord rs ms ∈ (lev ms ms.length).filter (ordB rs) := List.mem_filter.mpr ⟨lev_mem.mpr (nord_arr hr hm), nord_ord hr hm⟩
    refine s_RetE (d := .v (tN (nord rs ms))) (e_cb (e_cons (e_lc (xs := lev ms ms.length) (f := tN) (own := none) (q := ordB rs) (hh := tN) (S1 := o :: (T ++ [])) (e_iv (e_call (e_cons (e_var rfl) e_nil) ea) rfl) own_none (by omega) fun z hz => ?_) e_nil) (a_cons rfl a_nil) (o_minT hmem fun y hy => least hr hm ha (hin y hy).1 (hin y hy).2)) (c_ret ⟨rfl, rfl⟩)
    have hz' := lev_mem.mp hz
    exact e_body e_gNm (e_tru (e_call (e_cons (e_var rfl) (e_cons (e_var rfl) e_nil)) (ordered W (fun x hx => hs x (hz'.2.2 x hx)) (by rw [hz'.2.1]; omega))) rfl rfl) fun _ => e_var rfl
  · refine s_Seq (s_IfE (k := false) (S1 := o :: (T ++ [])) (e_tru (e_f2 (e_cb (e_cons (e_var rfl) e_nil) (a_cons rfl a_nil) lenT) e_c (e_l2 rfl rfl GO.o_ltI)) rfl (by rw [decide_eq_false (by omega)]; rfl)) (fun z => nomatch z) fun _ => s_Nx ?_)
    refine s_Seq (s_SetE (d := .v (tN [])) (S1 := o :: (T ++ [])) (e_tup e_nil v_nil (by decide)) e_gNm ?_)
    refine s_Seq ?_
    refine s_While (fun n env S => ∃ (k : Nat) (e4 e5 e6 : Option DL.D), env = [some (.v (wkP rs)), some (.v (tN ms)), none, some (.v (tN (gr rs ms k))), e4, e5, e6] ∧ S = o :: (T ++ []) ∧ k ≤ ms.length ∧ ms.length - k = n) ms.length (by omega)
      ⟨0, _, _, _, rfl, rfl, Nat.zero_le _, rfl⟩ ?_
    rintro n env S ⟨k, e4, e5, e6, rfl, rfl, hk, hn⟩
    have hgl := (gr_ok hr hm k hk).2.2
    refine P_of (a := decide (((gr rs ms k).length : Int) < ms.length)) (S := o :: (T ++ [])) (e_tru (e_f2 (e_cb (e_cons (e_var rfl) e_nil) (a_cons rfl a_nil) lenT) (e_cb (e_cons (e_var rfl) e_nil) (a_cons rfl a_nil) lenT) (e_l2 rfl rfl GO.o_ltI)) rfl rfl) ⟨fun hlt => ?_, fun hge => ?_⟩
    · rw [decide_eq_true_eq, hgl] at hlt
      unfold L__law_expected_1
      refine s_ForE (z := (ms.map nP, none)) (S1 := o :: (T ++ [])) (e_iv (e_var rfl) rfl) ?_
      refine s_Loop (fun i env S => ∃ (e4 e5 e6 : Option DL.D), env = [some (.v (wkP rs)), some (.v (tN ms)), none, some (.v (tN (gr rs ms k))), e4, e5, e6] ∧ S = o :: (T ++ []) ∧ ∀ y ∈ ms.take i, av rs ms (gr rs ms k) y = false)
        ⟨_, _, _, rfl, rfl, fun y hy => by simp at hy⟩ (fun _ _ _ _ => own_none) ?_ ?_
      · rintro i p env S hi ⟨e4, e5, e6, rfl, rfl, hno⟩
        have hi' : (ms.map nP)[i]? = some p := hi
        rw [List.getElem?_map] at hi'
        obtain ⟨x, hx, rfl⟩ := Option.map_eq_some_iff.mp hi'
        have hxm := hs x (List.mem_of_getElem? hx)
        have hnel := W.ne _ (rowOf_mem hxm).1
        refine P_of e_gNm ?_
        unfold L__law_expected_0
        refine s_Seq (s_SetE (d := .v (lN ((rowOf rs x).ne.filter fun y => decide (y ∈ ms) && !decide (y ∈ gr rs ms k)))) (S1 := o :: (T ++ [])) (e_lc (xs := (rowOf rs x).ne) (f := nP) (own := none) (q := fun y => decide (y ∈ ms) && !decide (y ∈ gr rs ms k)) (hh := nP) (S1 := o :: (T ++ [])) (e_iv (e_f2 (e_call (e_cons (e_var rfl) (e_cons (e_var rfl) e_nil)) (FA.entry W hxm)) e_c (e_l2 rfl rfl o_r1)) rfl) own_none (by omega) fun y hy => ?_) e_gNm ?_)
        · exact e_body e_gNm (e_and (e_tru (e_f2 (e_var rfl) (e_var rfl) (e_l2 rfl rfl o_inT)) rfl rfl) fun _ => e_tru (e_f2 (e_var rfl) (e_var rfl) (e_l2 rfl rfl o_niT)) rfl rfl) fun _ => e_var rfl
        have hav : av rs ms (gr rs ms k) x = (!decide (x ∈ gr rs ms k) && decide ((rowOf rs x).ne.filter (fun y => decide (y ∈ ms) && !decide (y ∈ gr rs ms k)) = [])) := by
          unfold av
          congr 1
          refine boolE ?_
          rw [List.all_eq_true, List.filter_eq_nil_iff]
          refine forall_congr' fun y => forall_congr' fun _ => ?_
          by_cases h1 : y ∈ ms <;> by_cases h2 : y ∈ gr rs ms k <;> simp [h1, h2]
        refine s_IfE (k := av rs ms (gr rs ms k) x) (S1 := o :: (T ++ [])) ?_ (fun hc => ?_) fun hc => ?_
        · rw [hav]
          exact e_and (e_tru (e_f2 (e_var rfl) (e_var rfl) (e_l2 rfl rfl o_niT)) rfl rfl) fun _ => e_tru (e_f2 (e_var rfl) (e_lst e_nil rfl (by decide)) (e_l2 rfl rfl o_eqLs0)) rfl rfl
        · have hf := GO.find_at hno hx hc
          have hg : gr rs ms (k + 1) = gr rs ms k ++ [x] := by
            show stepG rs ms (gr rs ms k) = _
            unfold stepG
            rw [hf]
          refine s_Seq (s_SetE (d := .v (tN (gr rs ms (k + 1)))) (S1 := o :: (T ++ [])) ?_ e_gNm ?_)
          · rw [hg]
            exact e_f2 (e_var rfl) (e_tup (ds := [.v (nP x)]) (e_cons (e_var rfl) e_nil) rfl (by show (1 : Nat) ≤ 100000; decide)) (e_l2 rfl rfl (o_addT1 (by omega)))
          · refine s_Bk ?_
            exact ⟨ms.length - (k + 1), by omega, k + 1, _, _, _, rfl, rfl, by omega, rfl⟩
        · refine s_Nx ⟨_, _, _, rfl, rfl, fun y hy => ?_⟩
          have e2 : ms.take (i + 1) = ms.take i ++ [x] := by
            rw [List.take_add_one, hx]
            rfl
          rw [e2] at hy
          rcases List.mem_append.mp hy with hy | hy
          · exact hno y hy
          · rw [List.mem_singleton.mp hy]
            exact hc
      · rintro env S ⟨e4, e5, e6, rfl, rfl, hno⟩
        exfalso
        obtain ⟨x, hx⟩ := av_ex hr hm (f := gr rs ms k) (by omega)
        have := hno x (by
          show x ∈ ms.take (ms.map nP).length
          rw [List.length_map, List.take_length]
          exact List.mem_of_find?_eq_some hx)
        rw [List.find?_some hx] at this
        cases this
    · rw [decide_eq_false_iff_not, hgl] at hge
      have : k = ms.length := by omega
      subst this
      dsimp only
      exact s_RetE (e_var rfl) (c_ret ⟨rfl, rfl⟩)
end
end K04
namespace K04
open PySem PySem.Spec PyProof.Rows L2 DL GA GM FM RU XL GO
open FA (AOk AOp)
local macro_rules | `(tactic| trivial) => `(tactic| first
  | with_reducible refine s_Seq ?_
  | with_reducible refine s_Set ?_
  | with_reducible refine s_If ?_
  | with_reducible refine s_Drop ?_
  | with_reducible refine s_Ret ?_
  | with_reducible refine s_Par ?_
  | with_reducible refine s_For ?_
  | with_reducible refine s_Nx ?_
  | with_reducible refine p_f2 ?_
  | ((with_reducible apply p_var); (exact rfl))
  | with_reducible refine p_c ?_
  | with_reducible refine p_gNm ?_
  | with_reducible refine p_gSb ?_
  | with_reducible refine p_tru ?_
  | with_reducible refine p_and ?_
  | with_reducible refine p_or ?_
  | with_reducible refine p_not ?_
  | with_reducible refine p_yes ?_
  | with_reducible refine p_ite ?_
  | with_reducible refine p_cons ?_
  | with_reducible refine p_nil ?_
  | with_reducible refine p_cb ?_
  | with_reducible refine p_cbB ?_
  | with_reducible refine p_tup ?_
  | with_reducible refine p_lst ?_
  | with_reducible refine p_lstB ?_
  | with_reducible refine p_lc ?_
  | with_reducible refine p_dc ?_
  | with_reducible refine p_sl ?_
  | with_reducible refine p_oNo ?_
  | with_reducible refine c_oAt ?_
  | with_reducible refine c_atE ?_
  | ((with_reducible apply p_slE); (first | exact rfl | exact deP_bx rfl); (exact rfl))
  | with_reducible refine p_call ?_
  | with_reducible refine p_callN ?_
  | with_reducible refine s_ParE ?_
  | with_reducible refine c_iv ?_
  | with_reducible refine c_rg ?_
  | ((with_reducible apply c_mt); (exact rfl); (exact rfl))
  | with_reducible refine c_ret ?_
  | with_reducible refine p_closeV ?_
  | with_reducible refine p_closeK ?_
  | with_reducible refine ff ?_
  | with_reducible refine tt ?_
  | with_reducible refine nff ?_
  | with_reducible refine ntt ?_
  | with_reducible refine ndt (fun _ => ?_) (fun _ => ?_)
  | with_reducible refine dt (fun _ => ?_) (fun _ => ?_)
  | ((with_reducible apply p_l2); (first | exact rfl | exact deP_bx rfl); (first | exact rfl | exact deP_bx rfl); (first | assumption | exact rfl | exact mod_ok (by omega) | exact fdiv_ok (by omega) (by omega) | exact mul_ok (by omega) (by omega) | exact pow_ok (by omega) (by omega) (by omega)))
  | ((with_reducible apply p_truE); (first | exact rfl | exact deP_bx rfl); (exact rfl))
  | ((with_reducible apply p_cbE); (repeat (first | exact a_nil | (apply a_cons; first | exact rfl | exact deP_bx rfl))); (first | assumption | exact rfl))
  | ((with_reducible apply c_cbB); (repeat (first | exact a_nil | (apply a_cons; first | exact rfl | exact deP_bx rfl))); (first | assumption | exact rfl))
  | ((with_reducible apply p_lstE); (repeat (first | exact v_nil | apply v_cons)); (focus (show _ ≤ (100000 : Nat); first | decide | (simp; done) | (simp; omega))))
  | ((with_reducible apply p_tupE); (repeat (first | exact v_nil | apply v_cons)); (focus (show _ ≤ (100000 : Nat); first | decide | (simp; done) | (simp; omega))))
  | ((with_reducible apply c_lstB); (repeat (first | exact v_nil | apply v_cons)); (focus (show _ ≤ (100000 : Nat); first | decide | (simp; done) | (simp; omega))))
  | ((with_reducible apply c_ivE); (first | exact rfl | exact seq_bx rfl))
  | ((with_reducible apply p_sbL); (exact rfl); (exact rfl)))
theorem random_set {b : Int} {o : Ob} {T : Sto} {Q : D → Sto → Prop} {rs : List Rw} (A : AOk rs) (h : SOA b o) (hb : b ≤ 800000) (q : ∀ (ms : List Nm) (o' : Ob), Asc ms → (∀ x ∈ ms, x ∈ nm rs) → SOA (b + 10) o' → Q (.v (tN ms)) (o' :: T)) : (F__law_random_set [.r 0, .v (wkP rs)] (o :: T)).P Q := by
  have W := A.wok
  have hnl : (nm rs).length ≤ 8 := by rw [FA.nm_len]; exact A.len
  refine p_runC ?_
  show (B__law_random_set [some (.r 0), some (.v (wkP rs)), none, none] _).F _
  unfold B__law_random_set
  repeat' trivial
  refine FA.draw h (by omega) (by decide) (by decide) fun v o v0 v1 hs => ?_
  refine p_gNm (s_Ret (p_cb (p_cons (p_lc (P_of (e_iv (e_call (e_cons (e_var rfl) e_nil) (FA.names W)) rfl) ?_)))))
  refine lc_some (f := nP) (hh := nP) (xs := nm rs) (fun i S => ∃ o, S = o :: (T ++ []) ∧ SOA (b + 1 + i) o) ⟨o, rfl, by simpa using hs⟩ (fun _ _ _ => own_none) (by omega) ?_ ?_
  · rintro i x S hx ⟨o, rfl, hs⟩
    have hil := lt_of_at hx
    refine p_gNm (p_or (P_of (e_tru (e_f2 (e_var rfl) e_c (e_l2 rfl rfl o_eqI)) rfl rfl) ⟨fun h0 => ?_, fun h0 => ?_⟩))
    · refine ⟨fun _ => p_var rfl ⟨rfl, o, rfl, hs.mono (by omega)⟩, (fun z => by cases z)⟩
    · refine p_and (P_of (e_tru (e_f2 (e_var rfl) e_c (e_l2 rfl rfl o_gtI)) rfl rfl) ⟨fun h1 => ?_, fun h1 => ?_⟩)
      · rw [decide_eq_true_eq] at h1
        refine p_tru (p_f2 (p_call (p_cons (p_var rfl (p_cons (p_var rfl (p_nil ?_)))))))
        refine FA.draw hs (by omega) (by omega) (by omega) fun w o w0 w1 hs => ?_
        refine p_c (p_l2 rfl rfl o_gtI (p_truE rfl rfl ⟨fun _ => p_var rfl ⟨rfl, o, rfl, ?_⟩, fun _ => ⟨o, rfl, ?_⟩⟩))
        · exact hs.mono (by omega)
        · exact hs.mono (by omega)
      · exact ⟨(fun z => by cases z), fun _ => ⟨o, rfl, hs.mono (by omega)⟩⟩
  · rintro ys S hsub ⟨o, rfl, hs⟩
    refine p_nil (p_cbE (a_cons rfl a_nil) o_tupleN ?_)
    refine c_ret (q ys o (A.asc.sub hsub) (fun x hx => hsub.subset hx) (hs.mono (by omega)))
section
variable {o : Ob} {T B : Sto} {rs : List Rw} {ms : List Nm} {a0 a1 a2 a3 a4 a5 a8 e9 e10 : Option DL.D} {En : Dnv → Sto → Prop} {Er : DL.D → Sto → Prop} {Eb Ec : Dnv → Sto → Prop}
theorem lam_ok {env : Dnv} {S : Sto} {i j : Nat} (A : AOk rs) (hm : MOk rs ms) (hi : env[i]? = some (some (.v (wkP rs)))) (hj : env[j]? = some (some (.v (tN ms)))) : fLam G__law_outcome (xCall X_need_order [] (xA (fCons (fVar i) (fCons (fVar j) fNil)))) env (o :: T) = .ok (.v (.tup [.str "result", tN (nord rs ms)])) (o :: T) := by
  rw [g_eq]
  exact uniO_of fun f => HO.out_ok ((v_call (v_A (e_cons (e_var hi) (e_cons (e_var hj) e_nil)))).trans (need_ok A.wok A.rank hm)) rfl
theorem lam_ex {env : Dnv} {S : Sto} {i j : Nat} {x : Nm} (A : AOk rs) (hx : odd1 rs ms = some x) (hi : env[i]? = some (some (.v (wkP rs)))) (hj : env[j]? = some (some (.v (tN ms)))) : fLam G__law_outcome (xCall X_need_order [] (xA (fCons (fVar i) (fCons (fVar j) fNil)))) env (o :: T) = .ok (.v (.tup [.str "step", nP x])) (o :: T) := by
  rw [g_eq]
  exact uniO_of fun f => HO.out_unk tS_up ((v_call (v_A (e_cons (e_var hi) (e_cons (e_var hj) e_nil)))).trans (need_ex A.wok hx)) rfl
theorem law_1 (A : AOk rs) (ha : Asc ms) (hs : ∀ x ∈ ms, x ∈ nm rs) (q : ∀ e10, En [a0, a1, a2, a3, a4, a5, some (.v (wkP rs)), some (.v (.str (shw (wkP rs)))), a8, some (.v (tN ms)), e10] (o :: T)) :
    (L_law_1 [a0, a1, a2, a3, a4, a5, some (.v (wkP rs)), some (.v (.str (shw (wkP rs)))), a8, some (.v (tN ms)), e10] (o :: T)).F ⟨En, Er, Eb, Ec⟩ := by
  unfold L_law_1
  have hm : MOk rs ms := ⟨hs, ha.nd⟩
  obtain ⟨d, S, ee, rfl, rfl⟩ := (expected (o := o) (T := T) A ha hs).ex
  have hml : (nord rs ms).length ≤ 8 := by
    rw [nord_len A.rank hm]
    have h1 := (asc_sub ha A.asc hs).length_le
    rw [FA.nm_len] at h1
    exact Nat.le_trans h1 A.len
  have hsh := K09.sh_res (s := "result") (by decide +kernel) (FN.sh_tN hml)
  refine s_Seq (s_SetE (e_call (e_cons (e_var rfl) (e_cons (e_var rfl) e_nil)) ee) e_gNm ?_)
  refine s_IfE (k := false) (S1 := o :: T) (e_tru (e_f2 (e_cb (e_cons (lam_ok (S := T) A hm rfl rfl) e_nil) (a_cons rfl a_nil) (FN.repr_of hsh)) (e_cb (e_cons (e_tup (ds := [.v (.str "result"), .v (tN (nord rs ms))]) (e_cons e_c (e_cons (e_var rfl) e_nil)) rfl (by show (2 : Nat) ≤ 100000; decide)) e_nil) (a_cons rfl a_nil) (FN.repr_of hsh)) (e_l2 rfl rfl (FN.ne_shw hsh))) rfl rfl) (fun z => by cases z) fun _ => s_Nx (q _)
theorem law_2 {x : Nm} (A : AOk rs) (hx : odd1 rs ms = some x) (hl : ms.length ≤ 62) (q : ∀ e10, En [a0, a1, a2, a3, a4, a5, some (.v (wkP rs)), some (.v (.str (shw (wkP rs)))), a8, some (.v (tN ms)), e10] (o :: T)) :
    (L_law_2 [a0, a1, a2, a3, a4, a5, some (.v (wkP rs)), some (.v (.str (shw (wkP rs)))), a8, some (.v (tN ms)), e10] (o :: T)).F ⟨En, Er, Eb, Ec⟩ := by
  unfold L_law_2
  have hun := unkT (o := o) (T := T) A.wok hl
  rw [hx] at hun
  have hsw := FN.sh_wk (K09.aok_shw A)
  have hsh := K09.sh_res (s := "step") (by decide +kernel) ((FN.sh_nm x).mono (by decide) (by decide))
  refine s_Seq (s_SetE (e_call (e_cons (e_var rfl) (e_cons (e_var rfl) e_nil)) hun) e_gNm ?_)
  refine s_IfE (k := false || false) (S1 := o :: T) (e_or (e_tru (e_f2 (e_cb (e_cons (lam_ex (S := T) A hx rfl rfl) e_nil) (a_cons rfl a_nil) (FN.repr_of hsh)) (e_cb (e_cons (e_var rfl) e_nil) (a_cons rfl a_nil) (FN.repr_of hsh)) (e_l2 rfl rfl (FN.ne_shw hsh))) rfl rfl) fun _ => e_tru (e_f2 (e_cb (e_cons (e_var rfl) e_nil) (a_cons rfl a_nil) (FN.repr_of hsw)) (e_var rfl) (e_l2 rfl rfl (FN.ne_shw hsw))) rfl rfl) (fun z => by cases z) fun _ => s_Nx (q _)
theorem odd_of {x : Nm} (hx : x ∈ ms) (hn : x ∉ nm rs) : ∃ y, odd1 rs ms = some y := by
  cases h : odd1 rs ms with
  | some y => exact ⟨y, rfl⟩
  | none =>
    unfold odd1 at h
    rw [List.find?_eq_none] at h
    exact absurd (by simpa using h x hx) hn
theorem not_pool {x : Nm} (A : AOp rs) (h : FA.inB x FA.poolF = false) : x ∉ nm rs := fun hm => FA.inB_no h (A.pool x hm)
theorem cutL_mapT {lo hi : Option Int} : pSl (tN ms) lo hi = some (tN (cutL ms lo hi)) := by
  show some (P.tup (cutL (ms.map nP) lo hi)) = some (P.tup ((cutL ms lo hi).map nP))
  unfold cutL
  rw [List.length_map, List.map_take, List.map_drop]
theorem cutL_sub {α : Type} {xs : List α} {lo hi : Option Int} : (cutL xs lo hi).Sublist xs := (List.take_sublist _ _).trans (List.drop_sublist _ _)
theorem e_neg4 {env : Dnv} {S : Sto} : f1 pNeg (fC (.v (.int 4))) env S = .ok (.v (.int (-4))) S := e_f1 e_c rfl rfl
abbrev lE (a0 a2 a3 a4 a5 : Option DL.D) (rs : List Rw) (e9 e10 : Option DL.D) : Dnv := [a0, some (.r 0), a2, a3, a4, a5, some (.v (wkP rs)), some (.v (.str (shw (wkP rs)))), some (.v (tN (nm rs))), e9, e10]
set_option maxHeartbeats 400000 in
theorem law_3 {b : Int} {a7 : Option DL.D} (A : AOp rs) (h : SOA b o) (hb : b ≤ 700000) (q : ∀ (o' : Ob) e9 e10, SOA (b + 30) o' → En (lE a0 a2 a3 a4 a5 rs e9 e10) (o' :: T)) :
    (L_law_3 [a0, some (.r 0), a2, a3, a4, a5, some (.v (wkP rs)), a7, a8, e9, e10] (o :: T)).F ⟨En, Er, Eb, Ec⟩ := by
  have Aa := A.a
  have W := Aa.wok
  have hsw := FN.sh_wk (K09.aok_shw Aa)
  have hnl : (nm rs).length ≤ 8 := by rw [FA.nm_len]; exact Aa.len
  unfold L_law_3
  refine s_Seq (s_Par2 (d := .v (.str (shw (wkP rs)))) (e := .v (tN (nm rs))) (S1 := o :: T) (e_cons (e_cb (e_cons (e_var rfl) e_nil) (a_cons rfl a_nil) (FN.repr_of hsw)) (e_cons (e_cb (e_cons (e_call (e_cons (e_var rfl) e_nil) (FA.names W)) e_nil) (a_cons rfl a_nil) o_tupleN) e_nil)) ?_)
  have e4 : fLst (fCons (fVar 8) (fCons (fTup fNil) (fCons (fSl (fVar 8) oNo (oAt (fC (.v (.int 4))))) (fCons (fSl (fVar 8) (oAt (f1 pNeg (fC (.v (.int 4))))) oNo) fNil)))) (lE a0 a2 a3 a4 a5 rs e9 e10) (o :: T) = .ok (.v (.lst ([nm rs, [], cutL (nm rs) none (some 4), cutL (nm rs) (some (-4)) none].map tN))) (o :: T) := by
    have h3 : fSl (fVar 8) oNo (oAt (fC (.v (.int 4)))) (lE a0 a2 a3 a4 a5 rs e9 e10) (o :: T) = .ok (.v (tN (cutL (nm rs) none (some 4)))) (o :: T) := e_sl (e_var rfl) e_oNo (e_oAt e_c) rfl cutL_mapT
    have h4 : fSl (fVar 8) (oAt (f1 pNeg (fC (.v (.int 4))))) oNo (lE a0 a2 a3 a4 a5 rs e9 e10) (o :: T) = .ok (.v (tN (cutL (nm rs) (some (-4)) none))) (o :: T) := e_sl (e_var rfl) (e_oAt e_neg4) e_oNo rfl cutL_mapT
    exact e_lst (ds := [.v (tN (nm rs)), .v (tN []), .v (tN (cutL (nm rs) none (some 4))), .v (tN (cutL (nm rs) (some (-4)) none))]) (e_cons (e_var rfl) (e_cons (e_tup e_nil v_nil (by decide)) (e_cons h3 (e_cons h4 e_nil)))) rfl (by show (4 : Nat) ≤ 100000; decide)
  refine s_Seq (s_For (c_iv (p_f2 (P_of e4 (p_lc (P_of (e_rg (n := 3) (e_cons e_c e_nil) (by decide) (by decide)) ?_))))))
  refine p_Lc (fun i S acc => ∃ (o : Ob) (mss : List (List Nm)), S = o :: T ∧ acc = mss.map tN ∧ mss.length = i ∧ (∀ ms ∈ mss, Asc ms ∧ ∀ x ∈ ms, x ∈ nm rs) ∧ SOA (b + 10 * i) o) ⟨o, [], rfl, rfl, rfl, (fun _ h => nomatch h), by simpa using h⟩ (fun _ _ _ _ => own_none) ?_ ?_
  · rintro k p S acc hk ⟨o, mss, rfl, rfl, hpl, hps, hs⟩
    have hk2 : k < 3 := lt_of_at hk
    refine ⟨by rw [List.length_map]; omega, p_gNm (p_yes ⟨fun _ => ?_, fun z => (by cases z)⟩)⟩
    refine p_call (p_cons (p_var rfl (p_cons (p_var rfl (p_nil ?_)))))
    refine random_set Aa hs (by omega) fun ms o ha hm hs => ?_
    refine ⟨_, rfl, o, mss ++ [ms], rfl, by simp, by simp [hpl], fun z hz => ?_, hs.mono (by omega)⟩
    rcases List.mem_append.mp hz with hz | hz
    · exact hps z hz
    · rw [List.mem_singleton.mp hz]
      exact ⟨ha, hm⟩
  · rintro S acc ⟨o, mss, rfl, rfl, hpl, hps, hs⟩
    have hpl : mss.length = 3 := hpl
    have hs : SOA (b + 10 * (3 : Nat)) o := hs
    generalize hX : [nm rs, [], cutL (nm rs) none (some 4), cutL (nm rs) (some (-4)) none] = four
    have h4 : (∀ ms ∈ four, Asc ms ∧ ∀ x ∈ ms, x ∈ nm rs) ∧ four.length = 4 := by
      subst hX
      refine ⟨fun ms hm => ?_, rfl⟩
      simp only [List.mem_cons, List.not_mem_nil, or_false] at hm
      rcases hm with rfl | rfl | rfl | rfl
      · exact ⟨Aa.asc, fun x hx => hx⟩
      · exact ⟨Aa.asc.sub (List.nil_sublist _), fun x hx => by cases hx⟩
      · exact ⟨Aa.asc.sub cutL_sub, fun x hx => cutL_sub.subset hx⟩
      · exact ⟨Aa.asc.sub cutL_sub, fun x hx => cutL_sub.subset hx⟩
    obtain ⟨h4, l4⟩ := h4
    have h7 : ∀ ms ∈ four ++ mss, Asc ms ∧ ∀ x ∈ ms, x ∈ nm rs := fun ms hm => (List.mem_append.mp hm).elim (h4 ms) (hps ms)
    refine p_l2 (u := .lst ((four ++ mss).map tN)) rfl rfl (by rw [List.map_append]; exact o_addLs (by rw [List.length_map, List.length_map]; omega)) ?_
    refine c_ivE rfl ?_
    refine s_Loop (fun j env S => ∃ (e9 e10 : Option DL.D), env = lE a0 a2 a3 a4 a5 rs e9 e10 ∧ S = o :: T) ⟨_, _, rfl, rfl⟩ (fun _ _ _ _ => own_none) ?_ ?_
    · rintro j p env S hj ⟨e9, e10, rfl, rfl⟩
      have hj' : ((four ++ mss).map tN)[j]? = some p := hj
      rw [List.getElem?_map] at hj'
      obtain ⟨ms, hms, rfl⟩ := Option.map_eq_some_iff.mp hj'
      obtain ⟨k1, k2⟩ := h7 ms (List.mem_of_getElem? hms)
      refine P_of e_gNm ?_
      exact law_1 Aa k1 k2 fun e10 => ⟨_, _, rfl, rfl⟩
    · rintro env S ⟨e9, e10, rfl, rfl⟩
      dsimp only
      have cl := cutL_sub (xs := nm rs) (lo := none) (hi := some (2 : Int))
      have hcl := cl.length_le
      refine s_ForE (z := ([[lit "qq"], asort (cutL (nm rs) none (some 2) ++ [lit "aa", lit "zz"])].map tN, none)) (S1 := o :: T) (e_iv (e_tup (ds := [.v (tN [lit "qq"]), .v (tN (asort (cutL (nm rs) none (some 2) ++ [lit "aa", lit "zz"])))]) (e_cons (e_tup (ds := [.v (nP (lit "qq"))]) (e_cons e_c e_nil) rfl (by show (1 : Nat) ≤ 100000; decide)) (e_cons (e_cb (e_cons (e_cb (e_cons (e_f2 (e_sl (e_var rfl) e_oNo (e_oAt e_c) rfl cutL_mapT) (e_tup (ds := [.v (nP (lit "aa")), .v (nP (lit "zz"))]) (e_cons e_c (e_cons e_c e_nil)) rfl (by show (2 : Nat) ≤ 100000; decide)) (e_l2 rfl rfl (o_addT (ys := [lit "aa", lit "zz"]) (by show _ + 2 ≤ 100000; omega)))) e_nil) (a_cons rfl a_nil) (o_sortT (by rw [List.length_append]; show _ + 2 ≤ 100000; omega))) e_nil) (a_cons rfl a_nil) o_tupleN) e_nil)) rfl (by show (2 : Nat) ≤ 100000; decide)) rfl) ?_
      have odd : ∀ ms ∈ [[lit "qq"], asort (cutL (nm rs) none (some 2) ++ [lit "aa", lit "zz"])], (∃ x, odd1 rs ms = some x) ∧ ms.length ≤ 62 := fun ms hm => by
        simp only [List.mem_cons, List.not_mem_nil, or_false] at hm
        rcases hm with rfl | rfl
        · exact ⟨odd_of (List.mem_singleton.mpr rfl) (not_pool A (by decide +kernel)), by decide⟩
        · have hp : (asort (cutL (nm rs) none (some 2) ++ [lit "aa", lit "zz"])).Perm (cutL (nm rs) none (some 2) ++ [lit "aa", lit "zz"]) := List.mergeSort_perm _ _
          refine ⟨odd_of (x := lit "aa") (hp.mem_iff.mpr (List.mem_append_right _ (by simp))) (not_pool A (by decide +kernel)), ?_⟩
          rw [hp.length_eq, List.length_append]
          show _ + 2 ≤ 62
          omega
      refine s_Loop (fun j env S => ∃ (e9 e10 : Option DL.D), env = lE a0 a2 a3 a4 a5 rs e9 e10 ∧ S = o :: T) ⟨_, _, rfl, rfl⟩ (fun _ _ _ _ => own_none) ?_ ?_
      · rintro j p env S hj ⟨e9, e10, rfl, rfl⟩
        have hj' : ([[lit "qq"], asort (cutL (nm rs) none (some 2) ++ [lit "aa", lit "zz"])].map tN)[j]? = some p := hj
        rw [List.getElem?_map] at hj'
        obtain ⟨ms, hms, rfl⟩ := Option.map_eq_some_iff.mp hj'
        obtain ⟨⟨x, hx⟩, hl⟩ := odd ms (List.mem_of_getElem? hms)
        refine P_of e_gNm ?_
        exact law_2 Aa hx hl fun e10 => ⟨_, _, rfl, rfl⟩
      · rintro env S ⟨e9, e10, rfl, rfl⟩
        exact q o _ _ (hs.mono (by omega))
end
end K04
namespace K04
open PySem PySem.Spec PyProof.Rows L2 DL GA GM FM RU XL GO
open FA (AOk AOp)
local macro_rules | `(tactic| trivial) => `(tactic| first
  | with_reducible refine s_Seq ?_
  | with_reducible refine s_Set ?_
  | with_reducible refine s_If ?_
  | with_reducible refine s_Drop ?_
  | with_reducible refine s_Ret ?_
  | with_reducible refine s_Par ?_
  | with_reducible refine s_For ?_
  | with_reducible refine s_Nx ?_
  | with_reducible refine p_f2 ?_
  | ((with_reducible apply p_var); (exact rfl))
  | with_reducible refine p_c ?_
  | with_reducible refine p_gNm ?_
  | with_reducible refine p_gSb ?_
  | with_reducible refine p_tru ?_
  | with_reducible refine p_and ?_
  | with_reducible refine p_or ?_
  | with_reducible refine p_not ?_
  | with_reducible refine p_yes ?_
  | with_reducible refine p_ite ?_
  | with_reducible refine p_cons ?_
  | with_reducible refine p_nil ?_
  | with_reducible refine p_cb ?_
  | with_reducible refine p_cbB ?_
  | with_reducible refine p_tup ?_
  | with_reducible refine p_lst ?_
  | with_reducible refine p_lstB ?_
  | with_reducible refine p_lc ?_
  | with_reducible refine p_dc ?_
  | with_reducible refine p_sl ?_
  | with_reducible refine p_oNo ?_
  | with_reducible refine c_oAt ?_
  | with_reducible refine c_atE ?_
  | ((with_reducible apply p_slE); (first | exact rfl | exact deP_bx rfl); (exact rfl))
  | with_reducible refine p_call ?_
  | with_reducible refine p_callN ?_
  | with_reducible refine s_ParE ?_
  | with_reducible refine c_iv ?_
  | with_reducible refine c_rg ?_
  | ((with_reducible apply c_mt); (exact rfl); (exact rfl))
  | with_reducible refine c_ret ?_
  | with_reducible refine p_closeV ?_
  | with_reducible refine p_closeK ?_
  | with_reducible refine ff ?_
  | with_reducible refine tt ?_
  | with_reducible refine nff ?_
  | with_reducible refine ntt ?_
  | with_reducible refine ndt (fun _ => ?_) (fun _ => ?_)
  | with_reducible refine dt (fun _ => ?_) (fun _ => ?_)
  | ((with_reducible apply p_l2); (first | exact rfl | exact deP_bx rfl); (first | exact rfl | exact deP_bx rfl); (first | assumption | exact rfl | exact mod_ok (by omega) | exact fdiv_ok (by omega) (by omega) | exact mul_ok (by omega) (by omega) | exact pow_ok (by omega) (by omega) (by omega)))
  | ((with_reducible apply p_truE); (first | exact rfl | exact deP_bx rfl); (exact rfl))
  | ((with_reducible apply p_cbE); (repeat (first | exact a_nil | (apply a_cons; first | exact rfl | exact deP_bx rfl))); (first | assumption | exact rfl))
  | ((with_reducible apply c_cbB); (repeat (first | exact a_nil | (apply a_cons; first | exact rfl | exact deP_bx rfl))); (first | assumption | exact rfl))
  | ((with_reducible apply p_lstE); (repeat (first | exact v_nil | apply v_cons)); (focus (show _ ≤ (100000 : Nat); first | decide | (simp; done) | (simp; omega))))
  | ((with_reducible apply p_tupE); (repeat (first | exact v_nil | apply v_cons)); (focus (show _ ≤ (100000 : Nat); first | decide | (simp; done) | (simp; omega))))
  | ((with_reducible apply c_lstB); (repeat (first | exact v_nil | apply v_cons)); (focus (show _ ≤ (100000 : Nat); first | decide | (simp; done) | (simp; omega))))
  | ((with_reducible apply c_ivE); (first | exact rfl | exact seq_bx rfl))
  | ((with_reducible apply p_sbL); (exact rfl); (exact rfl)))
theorem wx_okp : ∀ rs ∈ FA.wxW, AOp rs := by
  have h : ∀ rs ∈ FA.wxW, FA.wkB FA.poolA rs = true := by decide +kernel
  exact fun rs hr => FA.wkB_okp (h rs hr)
def tw : List Rw := ⟨lit "a", [lit "ab", lit "b", lit "book", lit "call", lit "pay", lit "ship", lit "zzzzzzzz"], [], []⟩ :: ((FA.fx1.drop 1).map fun r => ⟨r.x, [], [], []⟩)
theorem tw_okp : AOp tw := FA.wkB_okp (ord := FA.poolA.reverse) (by decide +kernel)
set_option maxHeartbeats 600000 in
theorem law_ok : LawOk F_law 63 := by
  intro ns hn
  have main : (F_law [.v (.frz (ns.map P.int))] []).P fun d S => d = .v (.bl true) := by
    refine p_run ?_
    show (B_law [some (.v (.frz (ns.map P.int))), none, none, none, none, none, none, none, none, none, none] _).F _
    unfold B_law
    refine s_Seq (s_Set (p_call (p_cons (p_var rfl (p_nil ?_)))))
    refine (FA.reader hn).mono ?_
    rintro d S ⟨o, rfl, rfl, hs⟩
    refine p_gNm ?_
    have hfx : FA.F__law_fixed_works [] [o] = .ok (.r 1) (o :: ([] ++ [Ob.lst (FA.fxW.map wkP)])) := FA.fixed [o]
    refine s_Seq (s_SetE (d := .r 1) (S1 := o :: ([] ++ [Ob.lst (FA.fxW.map wkP)])) (e_call e_nil hfx) e_gNm ?_)
    refine s_Seq (s_For (P_of (e_rg (n := 6) (e_cons e_c e_nil) (by decide) (by decide)) ?_))
    refine s_Loop (fun i env S => ∃ (o : Ob) (ws : List (List Rw)) (e3 : Option DL.D), env = [some (.v (.frz (ns.map P.int))), some (.r 0), some (.r 1), e3, none, none, none, none, none, none, none] ∧ S = o :: ([] ++ [Ob.lst (ws.map wkP)]) ∧ (∀ rs ∈ ws, AOp rs) ∧ ws.length = 6 + i ∧ ws[1]? = some FA.fx1 ∧ SOA (1000 * i) o)
      ⟨o, FA.fxW, none, rfl, rfl, FA.fx_okp, rfl, rfl, by simpa using hs⟩ (fun _ _ _ _ => own_none) ?_ ?_
    · rintro i p env S hi ⟨o, ws, e3, rfl, rfl, hws, hwl, hw1, hs⟩
      have hi2 : i < 6 := lt_of_at hi
      refine P_of e_gNm ?_
      unfold L_law_0
      refine s_Drop (c_mt (j := 0) rfl rfl (p_cons (p_call (p_cons (p_var rfl (p_cons (p_c (p_nil ?_))))))))
      refine FA.workP hs (by omega) (by decide) (by decide) fun rs o A hrm hs => p_nil ?_
      refine c_mtE (T := []) (j := 0) rfl (o_app (by rw [List.length_map]; omega)) ?_
      refine ⟨o, ws ++ [rs], _, rfl, by simp, fun r hr => ?_, by simp; omega, by rw [List.getElem?_append_left (by omega)]; exact hw1, hs.mono (by omega)⟩
      rcases List.mem_append.mp hr with hr | hr
      · exact hws r hr
      · rw [List.mem_singleton.mp hr]
        exact A
    · rintro env S ⟨o, ws, e3, rfl, rfl, hws, hwl, hw1, hs⟩
      have hwl : ws.length = 12 := hwl
      have hs : SOA 6000 o := hs
      dsimp only
      have names : ∀ {l : List Str}, True := fun {_} => trivial
      have eturn : fTup (fCons (fTup (fCons (fC (.v (.str "a"))) (fCons (fTup (fCons (fC (.v (.str "ab"))) (fCons (fC (.v (.str "b"))) (fCons (fC (.v (.str "book"))) (fCons (fC (.v (.str "call"))) (fCons (fC (.v (.str "pay"))) (fCons (fC (.v (.str "ship"))) (fCons (fC (.v (.str "zzzzzzzz"))) fNil)))))))) (fCons (fTup fNil) (fCons (fTup fNil) fNil))))) fNil) [some (.v (.frz (ns.map P.int))), some (.r 0), some (.r 1), e3, none, none, none, none, none, none, none] (o :: ([] ++ [Ob.lst (ws.map wkP)])) = .ok (.v (.tup ((tw.take 1).map rwP))) (o :: ([] ++ [Ob.lst (ws.map wkP)])) :=
        e_tup (ds := [.v (rwP ⟨lit "a", [lit "ab", lit "b", lit "book", lit "call", lit "pay", lit "ship", lit "zzzzzzzz"], [], []⟩)]) (e_cons (e_tup (ds := [.v (nP (lit "a")), .v (tN [lit "ab", lit "b", lit "book", lit "call", lit "pay", lit "ship", lit "zzzzzzzz"]), .v (tN []), .v (tN [])]) (e_cons e_c (e_cons (e_tup (ds := [.v (nP (lit "ab")), .v (nP (lit "b")), .v (nP (lit "book")), .v (nP (lit "call")), .v (nP (lit "pay")), .v (nP (lit "ship")), .v (nP (lit "zzzzzzzz"))]) (e_cons e_c (e_cons e_c (e_cons e_c (e_cons e_c (e_cons e_c (e_cons e_c (e_cons e_c e_nil))))))) rfl (by show (7 : Nat) ≤ 100000; decide)) (e_cons (e_tup e_nil v_nil (by decide)) (e_cons (e_tup e_nil v_nil (by decide)) e_nil)))) rfl (by show (4 : Nat) ≤ 100000; decide)) e_nil) rfl (by show (1 : Nat) ≤ 100000; decide)
      refine s_Seq (s_SetE eturn e_gNm ?_)
      have ew : ∀ S, FA.F__law_wide_works [] S = .ok (.v (.lst (FA.wxW.map wkP))) S := FA.wide_works
      have rest : ∀ (env : Dnv), env[2]? = some (some (.r 1)) → 5 < env.length → fCb bTuple (fCons (fLc (iVal (fSl (f2 pIx (fVar 2) (fC (.v (.int 1)))) (oAt (fC (.v (.int 1)))) oNo)) (gNm 5) fYes (f2 pAdd (fSl (fVar 5) oNo (oAt (fC (.v (.int 1))))) (fTup (fCons (fTup fNil) (fCons (fTup fNil) (fCons (fTup fNil) fNil))))) [5]) fNil) env (o :: ([] ++ [Ob.lst (ws.map wkP)])) = .ok (.v (.tup ((tw.drop 1).map rwP))) (o :: ([] ++ [Ob.lst (ws.map wkP)])) := fun env h2 h5 => by
        have hset : ∀ (e : Dnv) (r : Rw), e.length = env.length → (e.set 5 (some (.v (rwP r))))[5]? = some (some (.v (rwP r))) := fun e r he => List.getElem?_set_self (by omega)
        have hlc : fLc (iVal (fSl (f2 pIx (fVar 2) (fC (.v (.int 1)))) (oAt (fC (.v (.int 1)))) oNo)) (gNm 5) fYes (f2 pAdd (fSl (fVar 5) oNo (oAt (fC (.v (.int 1))))) (fTup (fCons (fTup fNil) (fCons (fTup fNil) (fCons (fTup fNil) fNil))))) [5] env (o :: ([] ++ [Ob.lst (ws.map wkP)])) = .ok (.v (.lst ((FA.fx1.drop 1).map fun r => rwP ⟨r.x, [], [], []⟩))) (o :: ([] ++ [Ob.lst (ws.map wkP)])) := by
          refine e_lcA (xs := FA.fx1.drop 1) (f := rwP) (own := none) (hh := fun r => rwP ⟨r.x, [], [], []⟩) (S1 := o :: ([] ++ [Ob.lst (ws.map wkP)])) (e_iv (e_sl (q := .tup ((FA.fx1.drop 1).map rwP)) (e_f2 (e_var h2) e_c (e_l2 (deP_bx (T := []) (j := 0) rfl) rfl (o_ix (f := wkP) (i := 1) hw1).1)) (e_oAt e_c) e_oNo rfl rfl) rfl) own_none (by decide) fun r _ => e_body e_gNm e_yes fun _ => ?_
          refine e_f2 (e_sl (q := .tup [nP r.x]) (e_var (hset _ r (by simp [wipeE]))) e_oNo (e_oAt e_c) rfl rfl) (e_tup (ds := [.v (tN []), .v (tN []), .v (tN [])]) (e_cons (e_tup e_nil v_nil (by decide)) (e_cons (e_tup e_nil v_nil (by decide)) (e_cons (e_tup e_nil v_nil (by decide)) e_nil))) rfl (by show (3 : Nat) ≤ 100000; decide)) (e_l2 rfl rfl rfl)
        exact e_cb (e_cons hlc e_nil) (a_cons rfl a_nil) o_tuple
      refine s_Seq (s_SetE (d := .r (bx [] 1)) (S1 := o :: ([] ++ [Ob.lst (ws.map wkP), Ob.lst ((ws ++ FA.wxW ++ [tw]).map wkP)])) ((e_addB (T := []) (B := [Ob.lst (ws.map wkP)]) (a := (ws ++ FA.wxW).map wkP) (b := [wkP tw]) (e_f2 (e_var rfl) (e_call e_nil (ew _)) (e_l2 (deP_bx (T := []) (j := 0) rfl) rfl (by rw [List.map_append]; exact o_addLs (by rw [List.length_map]; show _ + 2 ≤ 100000; omega)))) (e_lst (ds := [.v (wkP tw)]) (e_cons (e_f2 (e_var rfl) (rest _ rfl (by show (5 : Nat) < 11; decide)) (e_l2 rfl rfl rfl)) e_nil) rfl (by show (1 : Nat) ≤ 100000; decide)) rfl rfl (by rw [List.length_map, List.length_append]; show _ + 2 + 1 ≤ 100000; omega)).trans (by rw [List.map_append (l₁ := ws ++ FA.wxW)]; rfl)) e_gNm ?_)
      have hall : ∀ rs ∈ ws ++ FA.wxW ++ [tw], AOp rs := fun rs hr => by
        simp only [List.mem_append, List.mem_singleton] at hr
        rcases hr with (hr | hr) | rfl
        · exact hws rs hr
        · exact wx_okp rs hr
        · exact tw_okp
      have hal : (ws ++ FA.wxW ++ [tw]).length = 15 := by
        simp only [List.length_append, List.length_singleton, hwl]
        rfl
      generalize ws ++ FA.wxW ++ [tw] = us at hall hal
      refine s_Seq (s_ForE (z := (us.map wkP, some (bx [] 1 : Nat))) (S1 := o :: ([] ++ [Ob.lst (ws.map wkP), Ob.lst (us.map wkP)])) (e_iv (e_var rfl) (seq_bx (T := []) (j := 1) rfl)) ?_)
      refine s_Loop (fun i env S => ∃ (o : Ob) (e5 e6 e7 e8 e9 e10 : Option DL.D), env = [some (.v (.frz (ns.map P.int))), some (.r 0), some (.r (bx [] 1)), e3, some (.v (.tup ((tw.take 1).map rwP))), e5, e6, e7, e8, e9, e10] ∧ S = o :: ([] ++ [Ob.lst (ws.map wkP), Ob.lst (us.map wkP)]) ∧ SOA (6000 + 100 * i) o)
        ⟨o, _, _, _, _, _, _, rfl, rfl, by simpa using hs⟩ (fun i env S ⟨o, e5, e6, e7, e8, e9, e10, _, h, _⟩ => by rw [h]; exact own_bx (T := []) (j := 1) rfl) ?_ ?_
      · rintro i p env S hi ⟨o, e5, e6, e7, e8, e9, e10, rfl, rfl, hs⟩
        have hi' : (us.map wkP)[i]? = some p := hi
        rw [List.getElem?_map] at hi'
        obtain ⟨rs, hrs, rfl⟩ := Option.map_eq_some_iff.mp hi'
        have hil := lt_of_at hrs
        refine P_of e_gNm ?_
        exact law_3 (hall rs (List.mem_of_getElem? hrs)) hs (by omega) fun o e9 e10 hs => ⟨o, _, _, _, _, _, _, rfl, rfl, hs.mono (by omega)⟩
      · rintro env S ⟨o, e5, e6, e7, e8, e9, e10, rfl, rfl, hs⟩
        dsimp only
        exact s_RetE e_c (p_closeV rfl)
  obtain ⟨d, S', e, rfl⟩ := main.ex
  exact ⟨S', e⟩
end K04
open PySem PySem.W PySem.Calls PyProof.Rows
theorem PySem.Challenge.cw_maybedone_k04_need_orders_holds : PySem.Challenge.rw_maybedone_k04_need_orders.Holds := by
  w_on; o_law
  refine HandSHeadRun.head_any (r := OpenLaw.row PySem.Challenge.rw_maybedone_k04_need_orders) (q := view (OpenLaw.row PySem.Challenge.rw_maybedone_k04_need_orders).prog [34]) (H := K04.hk) (ob := K04.ob) (M := 4000) (loose := K04.lo) (d := HandSHeadRun.topDef (OpenLaw.row PySem.Challenge.rw_maybedone_k04_need_orders).prog 34) (kwd := []) K04.ob_eq
    (by kernel_rfl) (fun s => by kernel_rfl) K04.run (by kernel_rfl) (by kernel_rfl) (by kernel_rfl) (by rfl) (by first | assumption | decide +kernel) (by decide +kernel) ⟨rfl, rfl, rfl, rfl, rfl, by decide +kernel⟩ ?hw ?hc
  case hw => w_witness2
  case hc =>
    refine DL.walk_gW (l := PySem.Challenge.rw_maybedone_k04_need_orders) (n := 63) (k := 7) (x := "_law_script") (F := K04.F_law) rfl (by decide) (by kernel_rfl) ⟨rfl, by decide, by decide⟩ ?F K04.law_ok
    intro w mg fa h Y G hmg0
    obtain ⟨K, KX, c⟩ := Y
    have hmg : mg ("law" : PySem.Str) = some (.ref fa) := by
      have e : (HandSHeadRun.topDef (OpenLaw.row PySem.Challenge.rw_maybedone_k04_need_orders).prog 34).name = ("law" : PySem.Str) := by kernel_rfl
      rw [← e]
      exact hmg0
    letI : DL.Tb := DL.tbW K04.hl w
    obtain ⟨C, _⟩ := K04.facts KX G c rfl rfl
    have e := hmg.symm.trans C.g_law
    cases e
    obtain ⟨l1, l2, l3⟩ := DL.says_l KX c
    have b := L2.FunD.bindsA (ps := ["_law_script"]) C.d_law fun _ _ _ _ _ _ us hl => match us, hl with | [_], _ => rfl
    exact ⟨DL.tbW K04.hl w, K, C.k_law, DL.csF K K04.hl, KX, l1, l2, l3, DL.lm_tbW, fun s v => b s [v] rfl, fun base _ _ tb => K04.ok_law C tb⟩
