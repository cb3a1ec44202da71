import PyProof.Rows.All
import Wide.All
import OpenK.AllK
import Wide.FinOn
import HandS.ForMost
import HandS.Flow
import HandS.HeadHook1
import HandS.Lambda
import KE.KeyNested
import HandS.HeadHook2
import HandS.HeadHook3
import HandS.HeadHook4
import HandS.Head2
import HandS.ExcInit
import HandS.ExcField
import KE.KExcIs
import HandS.TupAny
import HandS.TupMul
import HandS.Deep
import KE.SortData
import HandS.WrittenGet
import HandS.Text
import KE.KDictWalk
import HandS.Iter
import HandS.Comp
import HandS.More
import PyProof.ReprRoads
import HandS.Defaults
import HandS.EndTab
import HandS.DictComp
import HandS.IsInst
import PyProof.ReprReads
import PyProof.ReprLoop
import HandS.Dict
import HandS.Conv
import PyProof.ZipIter
import HandS.Zip
import HandS.SortKw
import HandS.Strs
import HandS.SetFor
import HandS.TupSets
import PyProof.SetScanFacts
import KE.KDictCopyH
import KE.KDictSum
import HandS.Style
import KE.GoesEnum
import KE.GoesMore
import HandS.Exc
import HandS.TryOnly
import HandS.TryMany
import HandS.ExcCtx
import HandS.ExcInitHot
import HandS.HotCalls
import HandS.Call
import HandS.Finally
import KE.SortKeyHeap
import KE.DataMinMax
import HandS.Remove
import PyProof.Rows.StrInSeq3
import KE.KIndexOf
import PyProof.AutoSeq1
import KE.KDictKeyed
import PyProof.DictRoadsH
import HandS.List
import KE.KDictPairs
import HandS.HeadEnd
import HandS.Head0
import HandS.Head1
import PySem.Challenge.RW_maybedone_k07_whole_worlds
set_option Elab.async false
set_option linter.all false
set_option maxRecDepth 100000
set_option maxHeartbeats 4000000
namespace DL
open PySem PySem.Spec PyProof.Rows L2
inductive P where
  | non | bl (b : Bool) | int (i : Int) | str (x : Str)
  | tup (ps : List P) | lst (ps : List P) | frz (ps : List P)
  | dic (ks : List Key) (ps : List P)
  | fn (x : Str)
  | dn (ks : List P) (ps : List P)
  | exn (a d : Addr) (c : Str) (ns : List Str) (ps : List P)
  | adr (a : Addr)
inductive D where
  | v (p : P)
  | r (n : Nat)
  | o (n k : Nat)
  | t (ds : List D)
instance : Inhabited P := ⟨.non⟩
instance : Inhabited D := ⟨.v .non⟩
inductive Co where
  | lst (ps : List P)
  | dic (ks : List Key) (ps : List P)
  | dn (ks : List P) (ps : List P)
inductive Fv where
  | p (p : P)
  | c (k : Nat) (o : Co)
inductive Ob where
  | lst (ps : List P)
  | dic (ks : List Key) (ps : List P)
  | dn (ks : List P) (ps : List P)
  | dl (ks : List P) (cs : List (List P))
  | ins (c : Str) (nv : Nat) (ns : List Str) (fs : List Fv)
abbrev Sto := List Ob
def Ob.isOwn : Ob → Bool
  | .ins _ _ _ _ => true
  | .dl _ _ => true
  | _ => false
abbrev Dnv := List (Option D)
inductive Oc (α : Type) where
  | ok (a : α) (S : Sto)
  | bad
def Oc.bind {α β : Type} : Oc α → (α → Sto → Oc β) → Oc β
  | .ok a S, f => f a S
  | .bad, _ => .bad
@[simp] theorem Oc.bind_ok {α β : Type} (a : α) (S : Sto) (f : α → Sto → Oc β) : (Oc.ok a S).bind f = f a S := rfl
@[simp] theorem Oc.bind_bad {α β : Type} (f : α → Sto → Oc β) : (Oc.bad : Oc α).bind f = .bad := rfl
theorem Oc.bind_eq {α β : Type} {o : Oc α} {f : α → Sto → Oc β} {b : β} {S : Sto} (h : o.bind f = .ok b S) : ∃ a S1, o = .ok a S1 ∧ f a S1 = .ok b S := by
  cases o with
  | ok a S1 => exact ⟨a, S1, rfl, h⟩
  | bad => cases h
inductive Flo where
  | nx (env : Dnv) (S : Sto)
  | rt (d : D) (S : Sto)
  | bk (env : Dnv) (S : Sto)
  | ct (env : Dnv) (S : Sto)
  | bad
abbrev FE := Dnv → Sto → Oc D
abbrev FA := Dnv → Sto → Oc (List D)
abbrev FT := Dnv → Sto → Oc Bool
abbrev FS := Dnv → Sto → Flo
class Tb where
  t : PySem.W.Frag → List (Addr × Str)
  hf : Str → Int
instance (priority := low) Tb.none : Tb := ⟨fun _ => [], fun _ => 0⟩
structure Cn where
  o : List (Addr × Nat × Addr)
structure Mp where
  l : List Addr
  h : List Addr
  c : Cn
def notTbl (o : HO) : Prop := ∀ ps, o ≠ .tbl ps
def off (m : Mp) (b : Addr) : Prop := b ∈ m.l ∨ b ∈ m.h ∨ b ∈ m.c.o.map (·.2.2)
open Classical in
noncomputable def mask (m : Mp) (H : Hp) : Hp := fun b => if off m b then none else match H b with
  | some (.tbl _) => none
  | x => x
theorem mask_at {m : Mp} {H : Hp} {b : Addr} {o : HO} (h : ¬ off m b) (e : H b = some o) (n : notTbl o) : mask m H b = some o := by
  unfold mask
  rw [if_neg h, e]
  cases o with
  | tbl ps => exact (n ps rfl).elim
  | _ => rfl
theorem mask_some {m : Mp} {H : Hp} {b : Addr} {o : HO} (h : mask m H b = some o) : ¬ off m b ∧ H b = some o := by
  unfold mask at h
  split at h
  · cases h
  · rename_i hb
    refine ⟨hb, ?_⟩
    split at h
    · cases h
    · exact h
theorem mask_nt {m : Mp} {H : Hp} {b : Addr} {o : HO} (h : mask m H b = some o) : notTbl o := fun ps z => by
  unfold mask at h
  split at h
  · cases h
  · split at h
    · cases h
    · rename_i n
      exact n ps (by rw [h, z])
theorem mask_off {m : Mp} {H : Hp} {b : Addr} (h : off m b) : mask m H b = none := if_pos h
theorem mask_none {m : Mp} {H : Hp} {b : Addr} (h : H b = none) : mask m H b = none := by
  unfold mask
  split
  · rfl
  · rw [h]
theorem mask_eq {m m' : Mp} {H H' : Hp} {b : Addr} (ho : off m b ↔ off m' b) (e : H b = H' b) : mask m H b = mask m' H' b := by
  by_cases z : off m b
  · rw [mask_off z, mask_off (ho.mp z)]
  · unfold mask
    rw [if_neg z, if_neg fun q => z (ho.mpr q), e]
def Exh (G G' : Hp) : Prop := ∀ a o, G a = some o → G' a = some o
mutual
def nkP : P → Option NestedKey
  | .int i => some (.num i)
  | .str x => some (.text x)
  | .tup ps => (nkPs ps).map .tup
  | _ => none
def nkPs : List P → Option (List NestedKey)
  | [] => some []
  | p :: ps => match nkP p, nkPs ps with
    | some k, some ks => some (k :: ks)
    | _, _ => none
end
mutual
def hashN (hf : Str → Int) : NestedKey → Int
  | .none => reduceHash 0xFCA86420
  | .num i => hashInt i
  | .text x => hf x
  | .tup ks => reduceHash (Builtin.Tuple.tupleHashOf (hashNs hf ks))
def hashNs (hf : Str → Int) : List NestedKey → List Int
  | [] => []
  | k :: ks => hashN hf k :: hashNs hf ks
end
def KeysOk (ns : List NestedKey) : Prop := ns.Nodup ∧ ∀ n ∈ ns, n.depth ≤ 8
def NDo (a : Addr) (hs : List Int) (as xs : List V) : HO := .ext fun h => ∃ (o : Obj) (es : Array DictEntry) (us vs : List Value), h.get? a = some o ∧ o.ExactDict ∧ o.data = .dict es es.size ∧ (a == sysModules) = false ∧ Vals as us ∧ Vals xs vs ∧
  es.toList = (hs.zip (us.zip vs)).map fun x => ⟨x.1, x.2.1, x.2.2⟩
def offO (b : Addr) (o : HO) : Prop := (∃ xs, o = .lst xs) ∨ (∃ kvs, o = .dK kvs) ∨ (∃ hs as xs, o = NDo b hs as xs) ∨ ∃ C dx fs, o = .ins C dx fs
theorem NDo_nt {a : Addr} {hs : List Int} {as xs : List V} : notTbl (NDo a hs as xs) := fun ps z => by
  unfold NDo at z
  cases z
theorem offO.nt {b : Addr} {o : HO} (h : offO b o) : notTbl o := by
  rcases h with ⟨xs, rfl⟩ | ⟨kvs, rfl⟩ | ⟨hs, as, xs, rfl⟩ | ⟨C, dx, fs, rfl⟩
  · intro ps z; cases z
  · intro ps z; cases z
  · exact NDo_nt
  · intro ps z; cases z
mutual
def Is [Tb] (K : PySem.W.Frag) (G : Hp) : P → V → Prop
  | .non, v => v = .non
  | .bl b, v => v = .bl b
  | .int i, v => v = .int i
  | .str x, v => v = .str x
  | .tup ds, v => ∃ a xs, v = .ref a ∧ SqT K G a xs ∧ IsAll K G ds xs
  | .lst ds, v => ∃ a xs, v = .ref a ∧ G a = some (.lst xs) ∧ IsAll K G ds xs
  | .frz ds, v => ∃ a xs, v = .ref a ∧ SqL K G a xs ∧ IsAll K G ds xs
  | .dic ks ds, v => ∃ a xs, v = .ref a ∧ G a = some (.dK (ks.zip xs)) ∧ ks.length = xs.length ∧ ks.Nodup ∧ IsAll K G ds xs
  | .fn x, v => v = .ref (He.ga K x)
  | .dn ks ds, v => ∃ a as xs ns, v = .ref a ∧ G a = some (NDo a (hashNs Tb.hf ns) as xs) ∧ nkPs ks = some ns ∧ KeysOk ns ∧ xs.length = ks.length ∧ xs.length ≤ sizeLine ∧ IsAll K G ks as ∧ IsAll K G ds xs
  | .exn a d _ ns ds, v => ∃ xs, v = .ref a ∧ G d = some (.xd (ns.zip xs)) ∧ ns.length = xs.length ∧ IsAll K G ds xs
  | .adr a, v => v = .ref a
def IsAll [Tb] (K : PySem.W.Frag) (G : Hp) : List P → List V → Prop
  | [], xs => xs = []
  | d :: ds, xs => ∃ v vs, xs = v :: vs ∧ Is K G d v ∧ IsAll K G ds vs
end
mutual
def IsD [Tb] (K : PySem.W.Frag) (m : Mp) (G : Hp) : D → V → Prop
  | .v p, v => Is K G p v
  | .r n, v => ∃ a, v = .ref a ∧ m.l[n]? = some a
  | .o n k, v => ∃ a b, v = .ref b ∧ m.l[n]? = some a ∧ (a, k, b) ∈ m.c.o
  | .t ds, v => ∃ a xs, v = .ref a ∧ SqT K G a xs ∧ IsDs K m G ds xs
def IsDs [Tb] (K : PySem.W.Frag) (m : Mp) (G : Hp) : List D → List V → Prop
  | [], xs => xs = []
  | d :: ds, xs => ∃ v vs, xs = v :: vs ∧ IsD K m G d v ∧ IsDs K m G ds vs
end
section
variable [Tb]
variable {K : PySem.W.Frag} {m m' : Mp} {G G' H H' : Hp}
theorem sqT_mono {a : Addr} {xs : List V} (e : Exh G G') (h : SqT K G a xs) : SqT K G' a xs := by
  rcases h with h | h
  · rcases h with h | ⟨o, h⟩
    · exact .inl (.inl (e _ _ h))
    · exact .inl (.inr ⟨o, e _ _ h⟩)
  · exact .inr h
theorem sqL_mono {a : Addr} {xs : List V} (e : Exh G G') (h : SqL K G a xs) : SqL K G' a xs := by
  rcases h with h | h
  · rcases h with h | ⟨o, h⟩
    · exact .inl (.inl (e _ _ h))
    · exact .inl (.inr ⟨o, e _ _ h⟩)
  · exact .inr h
theorem mask_ex (m : Mp) (H : Hp) : Exh (mask m H) H := fun _ _ h => (mask_some h).2
mutual
theorem Is.mono (e : Exh G G') : ∀ (d : P) (v : V), Is K G d v → Is K G' d v
  | .non, _, h => h
  | .bl _, _, h => h
  | .int _, _, h => h
  | .str _, _, h => h
  | .tup ds, _, ⟨a, xs, h1, h2, h3⟩ => ⟨a, xs, h1, sqT_mono e h2, IsAll.mono e ds xs h3⟩
  | .lst ds, _, ⟨a, xs, h1, h2, h3⟩ => ⟨a, xs, h1, e _ _ h2, IsAll.mono e ds xs h3⟩
  | .frz ds, _, ⟨a, xs, h1, h2, h3⟩ => ⟨a, xs, h1, sqL_mono e h2, IsAll.mono e ds xs h3⟩
  | .dic ks ds, _, ⟨a, xs, h1, h2, h4, h5, h3⟩ => ⟨a, xs, h1, e _ _ h2, h4, h5, IsAll.mono e ds xs h3⟩
  | .fn _, _, h => h
  | .dn ks ds, _, ⟨a, as, xs, ns, h1, h2, h3, h4, h5, h6, h7, h8⟩ => ⟨a, as, xs, ns, h1, e _ _ h2, h3, h4, h5, h6, IsAll.mono e ks _ h7, IsAll.mono e ds xs h8⟩
  | .exn _ _ _ _ ds, _, ⟨xs, h1, h2, h3, h4⟩ => ⟨xs, h1, e _ _ h2, h3, IsAll.mono e ds xs h4⟩
  | .adr _, _, h => h
theorem IsAll.mono (e : Exh G G') : ∀ (ds : List P) (vs : List V), IsAll K G ds vs → IsAll K G' ds vs
  | [], _, h => h
  | d :: ds, _, ⟨v, vs, h1, h2, h3⟩ => ⟨v, vs, h1, Is.mono e d v h2, IsAll.mono e ds vs h3⟩
end
theorem IsAll.len : ∀ {ds : List P} {vs : List V}, IsAll K G ds vs → ds.length = vs.length
  | [], _, h => by cases h; rfl
  | d :: ds, _, ⟨v, vs, h1, h2, h3⟩ => by
    subst h1
    simp [IsAll.len h3]
theorem IsAll.get : ∀ {ds : List P} {vs : List V} {i : Nat} {d : P}, IsAll K G ds vs → ds[i]? = some d → ∃ v, vs[i]? = some v ∧ Is K G d v
  | [], _, _, _, _, h => by simp at h
  | d :: ds, _, 0, _, ⟨v, vs, h1, h2, h3⟩, h => by
    subst h1
    simp at h
    subst h
    exact ⟨v, rfl, h2⟩
  | d :: ds, _, i + 1, _, ⟨v, vs, h1, h2, h3⟩, h => by
    subst h1
    obtain ⟨u, e, q⟩ := IsAll.get (i := i) h3 (by simpa using h)
    exact ⟨u, by simpa using e, q⟩
theorem IsAll.append : ∀ {ds es : List P} {vs us : List V}, IsAll K G ds vs → IsAll K G es us → IsAll K G (ds ++ es) (vs ++ us)
  | [], _, _, _, h, h' => by cases h; exact h'
  | d :: ds, _, _, _, ⟨v, vs, h1, h2, h3⟩, h' => by
    subst h1
    exact ⟨v, vs ++ _, rfl, h2, IsAll.append h3 h'⟩
theorem IsAll.set : ∀ {ds : List P} {vs : List V} {i : Nat} {d : P} {v : V}, IsAll K G ds vs → Is K G d v → IsAll K G (ds.set i d) (vs.set i v)
  | [], _, _, _, _, h, _ => by cases h; exact rfl
  | d :: ds, _, 0, _, _, ⟨v, vs, h1, h2, h3⟩, h => by
    subst h1
    exact ⟨_, vs, rfl, h, h3⟩
  | d :: ds, _, i + 1, _, _, ⟨v, vs, h1, h2, h3⟩, h => by
    subst h1
    exact ⟨v, _, rfl, h2, IsAll.set (i := i) h3 h⟩
theorem IsAll.take : ∀ {ds : List P} {vs : List V} (n : Nat), IsAll K G ds vs → IsAll K G (ds.take n) (vs.take n)
  | [], _, n, h => by cases h; simp [IsAll]
  | d :: ds, _, 0, h => by simp [IsAll]
  | d :: ds, _, n + 1, ⟨v, vs, h1, h2, h3⟩ => by
    subst h1
    exact ⟨v, _, rfl, h2, IsAll.take n h3⟩
theorem IsAll.drop : ∀ {ds : List P} {vs : List V} (n : Nat), IsAll K G ds vs → IsAll K G (ds.drop n) (vs.drop n)
  | [], _, n, h => by cases h; simp [IsAll]
  | d :: ds, _, 0, h => h
  | d :: ds, _, n + 1, ⟨v, vs, h1, h2, h3⟩ => by
    subst h1
    exact IsAll.drop n h3
theorem IsAll.one {d : P} {v : V} (h : Is K G d v) : IsAll K G [d] [v] := ⟨v, [], rfl, h, rfl⟩
theorem IsAll.eraseIdx : ∀ {ds : List P} {vs : List V} (n : Nat), IsAll K G ds vs → IsAll K G (ds.eraseIdx n) (vs.eraseIdx n)
  | [], _, n, h => by cases h; simp [IsAll]
  | d :: ds, _, 0, ⟨v, vs, h1, h2, h3⟩ => by
    subst h1
    exact h3
  | d :: ds, _, n + 1, ⟨v, vs, h1, h2, h3⟩ => by
    subst h1
    exact ⟨v, _, rfl, h2, IsAll.eraseIdx n h3⟩
mutual
theorem IsD.mono (hm : ∀ (r : Nat) (a : Addr), m.l[r]? = some a → m'.l[r]? = some a) (e : Exh G G') (ho : ∀ p ∈ m.c.o, p ∈ m'.c.o) : ∀ {d : D} {v : V}, IsD K m G d v → IsD K m' G' d v
  | .v p, v, h => Is.mono e p v h
  | .r n, _, ⟨a, h1, h2⟩ => ⟨a, h1, hm n a h2⟩
  | .o n k, _, ⟨a, b, h1, h2, h3⟩ => ⟨a, b, h1, hm n a h2, ho _ h3⟩
  | .t ds, _, ⟨a, xs, h1, h2, h3⟩ => ⟨a, xs, h1, sqT_mono e h2, IsDs.mono hm e ho h3⟩
theorem IsDs.mono (hm : ∀ (r : Nat) (a : Addr), m.l[r]? = some a → m'.l[r]? = some a) (e : Exh G G') (ho : ∀ p ∈ m.c.o, p ∈ m'.c.o) : ∀ {ds : List D} {vs : List V}, IsDs K m G ds vs → IsDs K m' G' ds vs
  | [], _, h => h
  | d :: ds, _, ⟨v, vs, h1, h2, h3⟩ => ⟨v, vs, h1, IsD.mono hm e ho h2, IsDs.mono hm e ho h3⟩
end
theorem IsDs.len : ∀ {ds : List D} {vs : List V}, IsDs K m G ds vs → ds.length = vs.length
  | [], _, h => by cases h; rfl
  | d :: ds, _, ⟨v, vs, h1, h2, h3⟩ => by
    subst h1
    simp [IsDs.len h3]
theorem IsDs.append : ∀ {ds es : List D} {vs us : List V}, IsDs K m G ds vs → IsDs K m G es us → IsDs K m G (ds ++ es) (vs ++ us)
  | [], _, _, _, h, h' => by cases h; exact h'
  | d :: ds, _, _, _, ⟨v, vs, h1, h2, h3⟩, h' => by
    subst h1
    exact ⟨v, vs ++ _, rfl, h2, IsDs.append h3 h'⟩
def vals : List D → Option (List P)
  | [] => some []
  | .v p :: ds => (vals ds).map (p :: ·)
  | .r _ :: _ => none
  | .o _ _ :: _ => none
  | .t _ :: _ => none
theorem vals_is : ∀ {ds : List D} {ps : List P} {vs : List V}, vals ds = some ps → IsDs K m G ds vs → IsAll K G ps vs
  | [], ps, _, h, q => by
    cases h
    exact q
  | .v p :: ds, ps, _, h, ⟨v, vs, h1, h2, h3⟩ => by
    unfold vals at h
    cases e : vals ds with
    | none => rw [e] at h; cases h
    | some qs =>
      rw [e] at h
      cases h
      exact ⟨v, vs, h1, h2, vals_is e h3⟩
  | .r _ :: _, _, _, h, _ => by cases h
  | .o _ _ :: _, _, _, h, _ => by cases h
  | .t _ :: _, _, _, h, _ => by cases h
end
def CoIs [Tb] (K : PySem.W.Frag) (m : Mp) (H : Hp) (b : Addr) : Co → Prop
  | .lst ds => ∃ xs, H b = some (.lst xs) ∧ IsAll K (mask m H) ds xs
  | .dic ks ds => ∃ xs, H b = some (.dK (ks.zip xs)) ∧ ks.length = xs.length ∧ ks.Nodup ∧ IsAll K (mask m H) ds xs
  | .dn ks ds => ∃ as xs ns, H b = some (NDo b (hashNs Tb.hf ns) as xs) ∧ nkPs ks = some ns ∧ KeysOk ns ∧ xs.length = ks.length ∧ xs.length ≤ sizeLine ∧ IsAll K (mask m H) ks as ∧ IsAll K (mask m H) ds xs
def FvIs [Tb] (K : PySem.W.Frag) (m : Mp) (H : Hp) (a : Addr) : Fv → V → Prop
  | .p p, v => Is K (mask m H) p v
  | .c k o, v => ∃ b, v = .ref b ∧ (a, k, b) ∈ m.c.o ∧ CoIs K m H b o
def FvAll [Tb] (K : PySem.W.Frag) (m : Mp) (H : Hp) (a : Addr) : List Fv → List V → Prop
  | [], xs => xs = []
  | f :: fs, xs => ∃ v vs, xs = v :: vs ∧ FvIs K m H a f v ∧ FvAll K m H a fs vs
def ObIs [Tb] (K : PySem.W.Frag) (m : Mp) (H : Hp) (a : Addr) : Ob → Prop
  | .lst ds => ∃ xs, H a = some (.lst xs) ∧ IsAll K (mask m H) ds xs
  | .dic ks ds => ∃ xs, H a = some (.dK (ks.zip xs)) ∧ ks.length = xs.length ∧ ks.Nodup ∧ IsAll K (mask m H) ds xs
  | .dn ks ds => ∃ as xs ns, H a = some (NDo a (hashNs Tb.hf ns) as xs) ∧ nkPs ks = some ns ∧ KeysOk ns ∧ xs.length = ks.length ∧ xs.length ≤ sizeLine ∧ IsAll K (mask m H) ks as ∧ IsAll K (mask m H) ds xs
  | .dl ks cs => ∃ (as : List V) (bs : List Addr) (ns : List NestedKey), H a = some (NDo a (hashNs Tb.hf ns) as (bs.map V.ref)) ∧ nkPs ks = some ns ∧ KeysOk ns ∧ bs.length = ks.length ∧ bs.length ≤ sizeLine ∧ IsAll K (mask m H) ks as ∧ cs.length = ks.length ∧ (∀ k b, (a, k, b) ∈ m.c.o → k < cs.length) ∧
      ∀ (i : Nat) (b : Addr) (ps : List P), bs[i]? = some b → cs[i]? = some ps → (a, i, b) ∈ m.c.o ∧ CoIs K m H b (.lst ps)
  | .ins c nv ns fs => ∃ dx xs, H a = some (.ins (He.ga K c) dx (ns.zip xs)) ∧ ns.length = xs.length ∧ (∀ k b, (a, k, b) ∈ m.c.o → k < nv) ∧ FvAll K m H a fs xs
def TabM (m : Mp) (H : Hp) (P : Addr) (q : Str) : Prop := ∃ ps : Array Value, ¬ off m P ∧ H P = some (.tbl ps) ∧ TriplesOk ps.toList ∧ ∀ (pos : Pos) (cv : Value), codeAmong pos ps.toList = some cv → ∃ c, cv = .ref c ∧ mask m H c = some (LamX.CodeO c q)
structure Rel [Tb] (K : PySem.W.Frag) (m : Mp) (H : Hp) (S : Sto) : Prop where
  len : m.l.length = S.length
  nd : m.l.Nodup
  ob : ∀ (r : Nat) (a : Addr) (o : Ob), m.l[r]? = some a → S[r]? = some o → ObIs K m H a o
  hid : ∀ b, b ∈ m.h → b ∉ m.l ∧ ∃ o, H b = some o
  hnt : ∀ b, b ∈ m.h → ∀ o, H b = some o → offO b o
  own : ∀ p ∈ m.c.o, p.2.2 ∉ m.l ∧ p.2.2 ∉ m.h ∧ (∃ o, H p.2.2 = some o ∧ offO p.2.2 o) ∧ ∃ o, H p.1 = some o ∧ notTbl o
  inj : ∀ p ∈ m.c.o, ∀ q ∈ m.c.o, p.2.2 = q.2.2 → p = q
  fnc : ∀ p ∈ m.c.o, ∀ q ∈ m.c.o, p.1 = q.1 → p.2.1 = q.2.1 → p = q
  ow : ∀ p ∈ m.c.o, ∃ (r : Nat) (o : Ob), m.l[r]? = some p.1 ∧ S[r]? = some o ∧ o.isOwn = true
  tab : ∀ p ∈ Tb.t K, TabM m H p.1 p.2
structure Stp (m : Mp) (H : Hp) (m' : Mp) (H' : Hp) : Prop where
  ext : ∀ (r : Nat) (a : Addr), m.l[r]? = some a → m'.l[r]? = some a
  ex : Exh (mask m H) (mask m' H')
  hh : m'.h = m.h
  hk : ∀ b, b ∈ m.h → H' b = H b
  co : ∀ p, p ∈ m.c.o → p ∈ m'.c.o
section
variable [Tb]
variable {K : PySem.W.Frag} {m m' m2 : Mp} {H H' H2 : Hp} {S S' : Sto}
theorem Stp.refl (m : Mp) (H : Hp) : Stp m H m H := ⟨fun _ _ h => h, fun _ _ h => h, rfl, fun _ _ => rfl, fun _ h => h⟩
theorem Stp.trans (a : Stp m H m' H') (b : Stp m' H' m2 H2) : Stp m H m2 H2 := ⟨fun r x h => b.ext r x (a.ext r x h), fun x o h => b.ex x o (a.ex x o h), b.hh.trans a.hh, fun x h => (b.hk x (by rw [a.hh]; exact h)).trans (a.hk x h), fun p h => b.co p (a.co p h)⟩
theorem Stp.is {d : D} {v : V} (a : Stp m H m' H') (h : IsD K m (mask m H) d v) : IsD K m' (mask m' H') d v := h.mono a.ext a.ex a.co
theorem Stp.ids {ds : List D} {vs : List V} (a : Stp m H m' H') (h : IsDs K m (mask m H) ds vs) : IsDs K m' (mask m' H') ds vs := h.mono a.ext a.ex a.co
theorem Stp.val {p : P} {v : V} (a : Stp m H m' H') (h : Is K (mask m H) p v) : Is K (mask m' H') p v := Is.mono a.ex p v h
theorem Stp.all {ps : List P} {vs : List V} (a : Stp m H m' H') (h : IsAll K (mask m H) ps vs) : IsAll K (mask m' H') ps vs := IsAll.mono a.ex ps vs h
theorem lt_of_at {α : Type} {xs : List α} {r : Nat} {a : α} (h : xs[r]? = some a) : r < xs.length := by
  rcases Nat.lt_or_ge r xs.length with q | q
  · exact q
  · rw [List.getElem?_eq_none q] at h; cases h
theorem ObIs.at {a : Addr} {o : Ob} (h : ObIs K m H a o) : ∃ u, H a = some u ∧ offO a u := by
  cases o with
  | lst ds => obtain ⟨xs, q, _⟩ := h; exact ⟨_, q, .inl ⟨_, rfl⟩⟩
  | dic ks ds => obtain ⟨xs, q, _⟩ := h; exact ⟨_, q, .inr (.inl ⟨_, rfl⟩)⟩
  | dn ks ds => obtain ⟨as, xs, ns, q, _⟩ := h; exact ⟨_, q, .inr (.inr (.inl ⟨_, _, _, rfl⟩))⟩
  | dl ks cs => obtain ⟨as, bs, ns, q, _⟩ := h; exact ⟨_, q, .inr (.inr (.inl ⟨_, _, _, rfl⟩))⟩
  | ins c nv ns fs => obtain ⟨dx, xs, q, _⟩ := h; exact ⟨_, q, .inr (.inr (.inr ⟨_, _, _, rfl⟩))⟩
theorem Rel.tracked {a : Addr} (R : Rel K m H S) (h : off m a) : ∃ o, H a = some o ∧ offO a o := by
  rcases h with h | h | h
  · obtain ⟨r, hr, e⟩ := List.getElem_of_mem h
    have hs : r < S.length := by rw [← R.len]; exact hr
    exact (R.ob r a S[r] (by rw [List.getElem?_eq_getElem hr, e]) (List.getElem?_eq_getElem hs)).at
  · obtain ⟨o, e⟩ := (R.hid a h).2
    exact ⟨o, e, R.hnt a h o e⟩
  · obtain ⟨p, hp, e⟩ := List.mem_map.mp h
    rw [← e]
    exact (R.own p hp).2.2.1
theorem Rel.out {a : Addr} (R : Rel K m H S) (h : H a = none) : ¬ off m a := fun z => by
  obtain ⟨o, e, _⟩ := R.tracked z
  rw [h] at e; cases e
theorem mask_upd {a : Addr} {o : HO} (h : ¬ off m a) (n : notTbl o := by intro _ z; cases z) : mask m (upd H a o) = upd (mask m H) a o := by
  funext b
  by_cases e : b = a
  · subst e
    rw [upd_same]
    exact mask_at h upd_same n
  · rw [upd_ne e]
    exact mask_eq Iff.rfl (upd_ne e)
theorem ex_of (h : ∀ b u, ¬ off m b → H b = some u → notTbl u → ¬ off m' b ∧ H' b = some u) : Exh (mask m H) (mask m' H') := fun b u z => by
  obtain ⟨z1, z2⟩ := mask_some z
  obtain ⟨q1, q2⟩ := h b u z1 z2 (mask_nt z)
  exact mask_at q1 q2 (mask_nt z)
theorem CoIs.mono {b : Addr} {o : Co} (h : CoIs K m H b o) (st : Exh (mask m H) (mask m' H')) (ha : H' b = H b) : CoIs K m' H' b o := by
  cases o with
  | lst ds =>
    obtain ⟨xs, e, q⟩ := h
    exact ⟨xs, by rw [ha]; exact e, IsAll.mono st _ _ q⟩
  | dic ks ds =>
    obtain ⟨xs, e, h1, h2, q⟩ := h
    exact ⟨xs, by rw [ha]; exact e, h1, h2, IsAll.mono st _ _ q⟩
  | dn ks ds =>
    obtain ⟨as, xs, ns, e, h1, h2, h3, h4, q1, q2⟩ := h
    exact ⟨as, xs, ns, by rw [ha]; exact e, h1, h2, h3, h4, IsAll.mono st _ _ q1, IsAll.mono st _ _ q2⟩
theorem FvIs.mono2 {a : Addr} {f : Fv} {v : V} (h : FvIs K m H a f v) (st : Exh (mask m H) (mask m' H')) (co : ∀ k b, (a, k, b) ∈ m.c.o → (a, k, b) ∈ m'.c.o) (hk : ∀ k b, (a, k, b) ∈ m.c.o → H' b = H b) : FvIs K m' H' a f v := by
  cases f with
  | p p => exact Is.mono st _ _ h
  | c k o =>
    obtain ⟨b, h1, h2, h3⟩ := h
    exact ⟨b, h1, co _ _ h2, h3.mono st (hk _ _ h2)⟩
theorem FvAll.mono2 {a : Addr} : ∀ {fs : List Fv} {vs : List V}, FvAll K m H a fs vs → Exh (mask m H) (mask m' H') → (∀ k b, (a, k, b) ∈ m.c.o → (a, k, b) ∈ m'.c.o) → (∀ k b, (a, k, b) ∈ m.c.o → H' b = H b) → FvAll K m' H' a fs vs
  | [], _, h, _, _, _ => h
  | f :: fs, _, ⟨v, vs, h1, h2, h3⟩, st, co, hk => ⟨v, vs, h1, FvIs.mono2 h2 st co hk, FvAll.mono2 h3 st co hk⟩
theorem ObIs.mono2 {a : Addr} {o : Ob} (h : ObIs K m H a o) (st : Exh (mask m H) (mask m' H')) (co : ∀ k b, (a, k, b) ∈ m.c.o → (a, k, b) ∈ m'.c.o) (ha : H' a = H a) (hk : ∀ k b, (a, k, b) ∈ m.c.o → H' b = H b) (hn : ∀ k b, (a, k, b) ∈ m'.c.o → (a, k, b) ∈ m.c.o) : ObIs K m' H' a o := by
  cases o with
  | lst ds =>
    obtain ⟨xs, e, q⟩ := h
    exact ⟨xs, by rw [ha]; exact e, IsAll.mono st _ _ q⟩
  | dic ks ds =>
    obtain ⟨xs, e, h1, h2, q⟩ := h
    exact ⟨xs, by rw [ha]; exact e, h1, h2, IsAll.mono st _ _ q⟩
  | dn ks ds =>
    obtain ⟨as, xs, ns, e, h1, h2, h3, h4, q1, q2⟩ := h
    exact ⟨as, xs, ns, by rw [ha]; exact e, h1, h2, h3, h4, IsAll.mono st _ _ q1, IsAll.mono st _ _ q2⟩
  | dl ks cs =>
    obtain ⟨as, bs, ns, e, h1, h2, h3, h4, q1, q2, q3, q4⟩ := h
    exact ⟨as, bs, ns, by rw [ha]; exact e, h1, h2, h3, h4, IsAll.mono st _ _ q1, q2, fun k b z => q3 k b (hn k b z), fun i b ps e1 e2 => ⟨co _ _ (q4 i b ps e1 e2).1, (q4 i b ps e1 e2).2.mono st (hk i b (q4 i b ps e1 e2).1)⟩⟩
  | ins c nv ns fs =>
    obtain ⟨dx, xs, e, h1, h2, q⟩ := h
    exact ⟨dx, xs, by rw [ha]; exact e, h1, fun k b z => h2 k b (hn k b z), FvAll.mono2 q st co hk⟩
theorem ObIs.mono' {a : Addr} {o : Ob} (h : ObIs K m H a o) (st : Exh (mask m H) (mask m' H')) (co : ∀ p, p ∈ m.c.o → p ∈ m'.c.o) (ha : H' a = H a) (hk : ∀ k b, (a, k, b) ∈ m.c.o → H' b = H b) (hn : ∀ k b, (a, k, b) ∈ m'.c.o → (a, k, b) ∈ m.c.o) : ObIs K m' H' a o := h.mono2 st (fun _ _ z => co _ z) ha hk hn
theorem ObIs.mono {a : Addr} {o : Ob} (h : ObIs K m H a o) (st : Stp m H m' H') (ha : H' a = H a) (hk : ∀ k b, (a, k, b) ∈ m.c.o → H' b = H b) (hn : m'.c.o = m.c.o) : ObIs K m' H' a o := h.mono' st.ex st.co ha hk fun k b z => by rw [← hn]; exact z
theorem TabM.mono {P : Addr} {q : Str} (h : TabM m H P q) (ex : Exh (mask m H) (mask m' H')) (hp : H' P = H P) (ho : off m' P → off m P) : TabM m' H' P q := by
  obtain ⟨ps, h1, h2, h3, h4⟩ := h
  exact ⟨ps, fun z => h1 (ho z), by rw [hp]; exact h2, h3, fun pos cv hc => by
    obtain ⟨c, e, z⟩ := h4 pos cv hc
    exact ⟨c, e, ex _ _ z⟩⟩
theorem Rel.step (R : Rel K m H S) (h : ∀ b u, H b = some u → H' b = some u) : Rel K m H' S ∧ Stp m H m H' := by
  have same : ∀ b, off m b → H' b = H b := fun b hb => by
    obtain ⟨o, ho, _⟩ := R.tracked hb
    rw [h _ _ ho, ho]
  have st : Stp m H m H' := ⟨fun _ _ z => z, ex_of fun b u z1 z2 _ => ⟨z1, h b u z2⟩, rfl, fun b hb => same b (.inr (.inl hb)), fun _ z => z⟩
  have so : ∀ p ∈ m.c.o, H' p.2.2 = H p.2.2 := fun p hp => same _ (.inr (.inr (List.mem_map.mpr ⟨p, hp, rfl⟩)))
  refine ⟨⟨R.len, R.nd, fun r a x h1 h2 => ?_, fun b hb => ⟨(R.hid b hb).1, ?_⟩, fun b hb o e => ?_, fun p hp => ?_, R.inj, R.fnc, R.ow, fun p hp => ?_⟩, st⟩
  · exact (R.ob r a x h1 h2).mono st (same a (.inl (List.mem_of_getElem? h1))) (fun k b hb => so _ hb) rfl
  · rw [st.hk b hb]
    exact (R.hid b hb).2
  · rw [st.hk b hb] at e
    exact R.hnt b hb o e
  · obtain ⟨o1, o2, ⟨o, o3, o4⟩, u, o5, o6⟩ := R.own p hp
    exact ⟨o1, o2, ⟨o, h _ _ o3, o4⟩, u, h _ _ o5, o6⟩
  · have t := R.tab p hp
    obtain ⟨ps, h1, h2, _⟩ := id t
    exact t.mono st.ex (by rw [h _ _ h2, h2]) (fun z => z)
theorem Rel.fresh {a : Addr} {o : HO} (R : Rel K m H S) (h : H a = none) : Rel K m (upd H a o) S ∧ Stp m H m (upd H a o) := R.step fun b u e => by rw [upd_ne (ne_of_none e h)]; exact e
theorem Rel.tab_ne {a : Addr} {p : Addr × Str} (R : Rel K m H S) (hp : p ∈ Tb.t K) (ha : off m a) : p.1 ≠ a := fun z => by
  obtain ⟨ps, h1, _⟩ := R.tab p hp
  exact h1 (z ▸ ha)
theorem mask_offupd {a : Addr} {o : HO} (h : off m a) : mask m (upd H a o) = mask m H := by
  funext b
  by_cases e : b = a
  · rw [e, mask_off h, mask_off h]
  · exact mask_eq Iff.rfl (upd_ne e)
theorem Rel.writeG {r : Nat} {a : Addr} {o : HO} {x : Ob} (R : Rel K m H S) (h : m.l[r]? = some a) (hno : notTbl o) (hx : ∀ H', Stp m H m H' → H' a = some o → (∀ b, b ≠ a → H' b = H b) → ObIs K m H' a x) (hw : ∀ o, S[r]? = some o → o.isOwn = true → x.isOwn = true) : Rel K m (upd H a o) (S.set r x) ∧ Stp m H m (upd H a o) := by
  have hin : a ∈ m.l := List.mem_of_getElem? h
  have em := mask_offupd (H := H) (o := o) (.inl hin : off m a)
  have hn : ∀ b, b ∈ m.h → b ≠ a := fun b hb z => (R.hid b hb).1 (by rw [z]; exact hin)
  have st : Stp m H m (upd H a o) := ⟨fun _ _ z => z, fun b u z => by rw [em]; exact z, rfl, fun b hb => upd_ne (hn b hb), fun _ z => z⟩
  have no : ∀ p ∈ m.c.o, p.2.2 ≠ a := fun p hp z => (R.own p hp).1 (by rw [z]; exact hin)
  refine ⟨⟨by rw [List.length_set]; exact R.len, R.nd, fun q b y h1 h2 => ?_, fun b hb => ⟨(R.hid b hb).1, by rw [upd_ne (hn b hb)]; exact (R.hid b hb).2⟩, fun b hb u e => ?_, fun p hp => ?_, R.inj, R.fnc, fun p hp => ?_, fun p hp => ?_⟩, st⟩
  · by_cases hq : q = r
    · subst hq
      rw [h] at h1; cases h1
      have hl : q < S.length := by rw [← R.len]; exact lt_of_at h
      rw [List.getElem?_set_self hl] at h2
      cases h2
      exact hx _ st upd_same fun b hb => upd_ne hb
    · rw [List.getElem?_set_ne (fun z => hq z.symm)] at h2
      refine (R.ob q b y h1 h2).mono st (upd_ne fun z => hq ?_) (fun k c hc => upd_ne (no _ hc)) rfl
      subst z
      have l1 := lt_of_at h1
      have l2 := lt_of_at h
      rw [List.getElem?_eq_getElem l1] at h1
      rw [List.getElem?_eq_getElem l2] at h
      exact (List.getElem_inj R.nd).mp ((Option.some.inj h1).trans (Option.some.inj h).symm)
  · rw [upd_ne (hn b hb)] at e
    exact R.hnt b hb u e
  · obtain ⟨o1, o2, ⟨u, o3, o4⟩, w, o5, o6⟩ := R.own p hp
    refine ⟨o1, o2, ⟨u, by rw [upd_ne (no p hp)]; exact o3, o4⟩, ?_⟩
    by_cases e : p.1 = a
    · exact ⟨o, by rw [e]; exact upd_same, hno⟩
    · exact ⟨w, by rw [upd_ne e]; exact o5, o6⟩
  · obtain ⟨q, y, h1, h2, h3⟩ := R.ow p hp
    by_cases e : r = q
    · subst e
      exact ⟨r, x, h1, List.getElem?_set_self (lt_of_at h2), hw y h2 h3⟩
    · exact ⟨q, y, h1, by rw [List.getElem?_set_ne e]; exact h2, h3⟩
  · exact (R.tab p hp).mono st.ex (upd_ne (R.tab_ne hp (.inl hin))) fun z => z
theorem Rel.allocG {a : Addr} {o : HO} {x : Ob} (R : Rel K m H S) (h : H a = none) (hx : ∀ H', Stp m H ⟨m.l ++ [a], m.h, m.c⟩ H' → H' a = some o → (∀ k b, (a, k, b) ∉ m.c.o) → ObIs K ⟨m.l ++ [a], m.h, m.c⟩ H' a x) :
    Rel K ⟨m.l ++ [a], m.h, m.c⟩ (upd H a o) (S ++ [x]) ∧ Stp m H ⟨m.l ++ [a], m.h, m.c⟩ (upd H a o) := by
  have ho := R.out h
  have sp : ∀ b, b ≠ a → off (⟨m.l ++ [a], m.h, m.c⟩ : Mp) b → off m b := fun b hb z => by
    rcases z with z | z
    · have z' : b ∈ m.l ++ [a] := z
      rcases List.mem_append.mp z' with q | q
      · exact .inl q
      · exact absurd (by simpa using q) hb
    · exact .inr z
  have st : Stp m H ⟨m.l ++ [a], m.h, m.c⟩ (upd H a o) := by
    refine ⟨fun r b z => ?_, ex_of fun b u z1 z2 _ => ?_, rfl, fun b hb => upd_ne fun z => ho (.inr (.inl (z ▸ hb))), fun _ z => z⟩
    · show (m.l ++ [a])[r]? = some b
      rw [List.getElem?_append_left (lt_of_at z)]
      exact z
    · have hb : b ≠ a := ne_of_none z2 h
      exact ⟨fun z => z1 (sp b hb z), by rw [upd_ne hb]; exact z2⟩
  have no : ∀ p ∈ m.c.o, p.2.2 ≠ a := fun p hp z => ho (.inr (.inr (List.mem_map.mpr ⟨p, hp, z⟩)))
  have nk : ∀ k b, (a, k, b) ∉ m.c.o := fun k b z => by
    obtain ⟨_, _, _, u, e, _⟩ := R.own _ z
    rw [h] at e; cases e
  refine ⟨⟨by simp [R.len], ?_, fun r b y h1 h2 => ?_, fun b hb => ⟨?_, ?_⟩, fun b hb u e => ?_, fun p hp => ?_, R.inj, R.fnc, fun p hp => ?_, fun p hp => ?_⟩, st⟩
  · show (m.l ++ [a]).Nodup
    rw [List.nodup_append]
    exact ⟨R.nd, by simp, fun b hb c hc z => by
      simp at hc
      subst hc
      subst z
      exact ho (.inl hb)⟩
  · have h1' : (m.l ++ [a])[r]? = some b := h1
    rcases Nat.lt_or_ge r m.l.length with q | q
    · rw [List.getElem?_append_left q] at h1'
      rw [List.getElem?_append_left (by rw [← R.len]; exact q)] at h2
      exact (R.ob r b y h1' h2).mono st (upd_ne fun z => ho (.inl (by rw [← z]; exact List.mem_of_getElem? h1'))) (fun k c hc => upd_ne (no _ hc)) rfl
    · have e1 : b = a := by
        rw [List.getElem?_append_right q] at h1'
        have := List.mem_of_getElem? h1'
        simpa using this
      subst e1
      rw [List.getElem?_append_right (by rw [← R.len]; exact q)] at h2
      have := List.mem_of_getElem? h2
      simp at this
      subst this
      exact hx _ st upd_same nk
  · intro z
    have z' : b ∈ m.l ++ [a] := z
    rcases List.mem_append.mp z' with q | q
    · exact (R.hid b hb).1 q
    · exact ho (.inr (.inl (by have : b = a := by simpa using q
                               exact this ▸ hb)))
  · rw [st.hk b hb]
    exact (R.hid b hb).2
  · rw [st.hk b hb] at e
    exact R.hnt b hb u e
  · obtain ⟨o1, o2, ⟨u, o3, o4⟩, w, o5, o6⟩ := R.own p hp
    refine ⟨fun z => ?_, o2, ⟨u, by rw [upd_ne (no p hp)]; exact o3, o4⟩, w, by rw [upd_ne (ne_of_none o5 h)]; exact o5, o6⟩
    have z' : p.2.2 ∈ m.l ++ [a] := z
    rcases List.mem_append.mp z' with q | q
    · exact o1 q
    · exact no p hp (by simpa using q)
  · obtain ⟨q, y, h1, h2, h3⟩ := R.ow p hp
    exact ⟨q, y, by show (m.l ++ [a])[q]? = _; rw [List.getElem?_append_left (lt_of_at h1)]; exact h1, by rw [List.getElem?_append_left (lt_of_at h2)]; exact h2, h3⟩
  · have t := R.tab p hp
    obtain ⟨ps, h1, h2, _⟩ := id t
    have hne : p.1 ≠ a := ne_of_none h2 h
    exact t.mono st.ex (upd_ne hne) (sp _ hne)
theorem Rel.write {r : Nat} {a : Addr} {o : HO} {x : Ob} (R : Rel K m H S) (h : m.l[r]? = some a) (hx : ∀ H', Stp m H m H' → H' a = some o → ObIs K m H' a x) (hno : notTbl o := by first | exact NDo_nt | (intro _ z; cases z)) (hw : ∀ o, S[r]? = some o → o.isOwn = true → x.isOwn = true := by intro o h1 h2; first | rfl | simp_all [Ob.isOwn]) : Rel K m (upd H a o) (S.set r x) ∧ Stp m H m (upd H a o) := R.writeG h hno (fun H' s e _ => hx H' s e) hw
theorem Rel.alloc {a : Addr} {o : HO} {x : Ob} (R : Rel K m H S) (h : H a = none) (hx : ∀ H', Stp m H ⟨m.l ++ [a], m.h, m.c⟩ H' → H' a = some o → ObIs K ⟨m.l ++ [a], m.h, m.c⟩ H' a x) :
    Rel K ⟨m.l ++ [a], m.h, m.c⟩ (upd H a o) (S ++ [x]) ∧ Stp m H ⟨m.l ++ [a], m.h, m.c⟩ (upd H a o) := R.allocG h fun H' s e _ => hx H' s e
abbrev Mp.hide (m : Mp) (a : Addr) : Mp := ⟨m.l, a :: m.h, m.c⟩
theorem off_hide {a b : Addr} (hb : b ≠ a) : off (m.hide a) b ↔ off m b := by
  unfold off
  simp [hb]
theorem mask_hide {a : Addr} {o : HO} (h : H a = none) : mask (m.hide a) (upd H a o) = mask m H := by
  funext b
  by_cases hb : b = a
  · subst hb
    rw [mask_off (.inr (.inl (List.mem_cons_self ..))), mask_none h]
  · exact mask_eq (off_hide hb) (upd_ne hb)
theorem Rel.hide {a : Addr} {o : HO} (R : Rel K m H S) (h : H a = none) (hn : offO a o := by first | exact .inl ⟨_, rfl⟩ | exact .inr (.inl ⟨_, rfl⟩)) : Rel K (m.hide a) (upd H a o) S := by
  have ho := R.out h
  have em := mask_hide (m := m) (o := o) h
  have ex : Exh (mask m H) (mask (m.hide a) (upd H a o)) := fun b u z => by rw [em]; exact z
  have no : ∀ p ∈ m.c.o, p.2.2 ≠ a := fun p hp z => ho (.inr (.inr (List.mem_map.mpr ⟨p, hp, z⟩)))
  refine ⟨R.len, R.nd, fun r b x h1 h2 => ?_, fun b hb => ?_, fun b hb u e => ?_, fun p hp => ?_, R.inj, R.fnc, R.ow, fun p hp => ?_⟩
  · have hn : b ≠ a := fun z => ho (.inl (by rw [← z]; exact List.mem_of_getElem? h1))
    exact (R.ob r b x h1 h2).mono' ex (fun _ z => z) (upd_ne hn) (fun k c hc => upd_ne (no _ hc)) fun _ _ z => z
  · by_cases hn : b = a
    · subst hn
      exact ⟨fun z => ho (.inl z), _, upd_same⟩
    · have hb' : b ∈ m.h := by simpa [hn] using hb
      exact ⟨(R.hid b hb').1, by rw [upd_ne hn]; exact (R.hid b hb').2⟩
  · by_cases hn' : b = a
    · subst hn'
      rw [upd_same] at e
      cases e
      exact hn
    · have hb' : b ∈ m.h := by simpa [hn'] using hb
      rw [upd_ne hn'] at e
      exact R.hnt b hb' u e
  · obtain ⟨o1, o2, ⟨u, o3, o4⟩, w, o5, o6⟩ := R.own p hp
    refine ⟨o1, fun z => ?_, ⟨u, by rw [upd_ne (no p hp)]; exact o3, o4⟩, w, by rw [upd_ne (ne_of_none o5 h)]; exact o5, o6⟩
    rcases List.mem_cons.mp z with q | q
    · exact no p hp q
    · exact o2 q
  · have t := R.tab p hp
    obtain ⟨ps, h1, h2, _⟩ := id t
    have hne : p.1 ≠ a := ne_of_none h2 h
    exact t.mono ex (upd_ne hne) (off_hide hne).mp
theorem mask_hid {a : Addr} {o : HO} (h : a ∈ m.h) : mask m (upd H a o) = mask m H := mask_offupd (.inr (.inl h))
theorem Rel.hidden {a : Addr} {o : HO} (R : Rel K m H S) (h : a ∈ m.h) (hnt : offO a o := by first | exact .inl ⟨_, rfl⟩ | exact .inr (.inl ⟨_, rfl⟩)) : Rel K m (upd H a o) S := by
  have em := mask_hid (H := H) (o := o) h
  have ex : Exh (mask m H) (mask m (upd H a o)) := fun b u z => by rw [em]; exact z
  have hn : ∀ b, b ∈ m.l → b ≠ a := fun b hb z => (R.hid a h).1 (z ▸ hb)
  have no : ∀ p ∈ m.c.o, p.2.2 ≠ a := fun p hp z => (R.own p hp).2.1 (by rw [z]; exact h)
  refine ⟨R.len, R.nd, fun r b x h1 h2 => ?_, fun b hb => ⟨(R.hid b hb).1, ?_⟩, fun b hb u e => ?_, fun p hp => ?_, R.inj, R.fnc, R.ow, fun p hp => ?_⟩
  · exact (R.ob r b x h1 h2).mono' ex (fun _ z => z) (upd_ne (hn b (List.mem_of_getElem? h1))) (fun k c hc => upd_ne (no _ hc)) fun _ _ z => z
  · by_cases hb2 : b = a
    · subst hb2; exact ⟨_, upd_same⟩
    · rw [upd_ne hb2]; exact (R.hid b hb).2
  · by_cases hb2 : b = a
    · subst hb2
      rw [upd_same] at e
      cases e
      exact hnt
    · rw [upd_ne hb2] at e
      exact R.hnt b hb u e
  · obtain ⟨o1, o2, ⟨u, o3, o4⟩, w, o5, o6⟩ := R.own p hp
    refine ⟨o1, o2, ⟨u, by rw [upd_ne (no p hp)]; exact o3, o4⟩, ?_⟩
    by_cases e : p.1 = a
    · exact ⟨o, by rw [e]; exact upd_same, hnt.nt⟩
    · exact ⟨w, by rw [upd_ne e]; exact o5, o6⟩
  · exact (R.tab p hp).mono ex (upd_ne (R.tab_ne hp (.inr (.inl h)))) fun z => z
theorem Rel.show' {a : Addr} {l : List Addr} {h : List Addr} {c : Cn} (R : Rel K ⟨l, a :: h, c⟩ H S) (ha : a ∉ h) : Rel K ⟨l, h, c⟩ H S ∧ Exh (mask ⟨l, a :: h, c⟩ H) (mask ⟨l, h, c⟩ H) := by
  have so : ∀ b, off (⟨l, h, c⟩ : Mp) b → off (⟨l, a :: h, c⟩ : Mp) b := fun b z => z.imp id fun w => w.imp (fun w => List.mem_cons_of_mem _ w) id
  have ex : Exh (mask ⟨l, a :: h, c⟩ H) (mask ⟨l, h, c⟩ H) := ex_of fun b u z1 z2 _ => ⟨fun q => z1 (so b q), z2⟩
  refine ⟨⟨R.len, R.nd, fun r b x h1 h2 => ?_, fun b hb => R.hid b (List.mem_cons_of_mem _ hb), fun b hb => R.hnt b (List.mem_cons_of_mem _ hb), fun p hp => ?_, R.inj, R.fnc, R.ow, fun p hp => ?_⟩, ex⟩
  · exact (R.ob r b x h1 h2).mono' ex (fun _ z => z) rfl (fun _ _ _ => rfl) fun _ _ z => z
  · obtain ⟨o1, o2, o3, o5⟩ := R.own p hp
    exact ⟨o1, fun z => o2 (List.mem_cons_of_mem _ z), o3, o5⟩
  · exact (R.tab p hp).mono ex rfl (so _)
end
variable [Tb]
structure EnvIs (K : PySem.W.Frag) (m : Mp) (G : Hp) (σ : L2.St) (env : Dnv) : Prop where
  len : σ.length = env.length
  get : ∀ (i : Nat) (d : D), env[i]? = some (some d) → ∃ v, σ[i]? = some (some v) ∧ IsD K m G d v
section
variable {K : PySem.W.Frag} {m m' : Mp} {H H' : Hp} {σ : L2.St} {env : Dnv}
theorem EnvIs.step (h : EnvIs K m (mask m H) σ env) (st : Stp m H m' H') : EnvIs K m' (mask m' H') σ env := ⟨h.len, fun i d e => by
  obtain ⟨v, h1, h2⟩ := h.get i d e
  exact ⟨v, h1, st.is h2⟩⟩
theorem EnvIs.set {G : Hp} {i : Nat} {d : D} {v : V} (h : EnvIs K m G σ env) (hd : IsD K m G d v) : EnvIs K m G (σ.set i (some v)) (env.set i (some d)) := by
  refine ⟨by rw [List.length_set, List.length_set]; exact h.len, fun j e q => ?_⟩
  by_cases hj : i = j
  · subst hj
    by_cases hl : i < env.length
    · rw [List.getElem?_set_self hl] at q
      cases q
      exact ⟨v, List.getElem?_set_self (by rw [h.len]; exact hl), hd⟩
    · rw [List.getElem?_eq_none (by rw [List.length_set]; omega)] at q
      cases q
  · rw [List.getElem?_set_ne hj] at q
    rw [List.getElem?_set_ne hj]
    exact h.get j e q
end
def TD (K : PySem.W.Frag) (f : FE) : TE := fun σ H Q => ∃ m env S, Rel K m H S ∧ EnvIs K m (mask m H) σ env ∧ ∃ d S', f env S = .ok d S' ∧
  ∀ v m' H', Stp m H m' H' → Rel K m' H' S' → IsD K m' (mask m' H') d v → Q v H'
def TDt (K : PySem.W.Frag) (f : FT) : TT := fun σ H Q => ∃ m env S, Rel K m H S ∧ EnvIs K m (mask m H) σ env ∧ ∃ b S', f env S = .ok b S' ∧
  ∀ m' H', Stp m H m' H' → Rel K m' H' S' → Q b H'
def TDa (K : PySem.W.Frag) (f : FA) : TA := fun σ H Q => ∃ m env S, Rel K m H S ∧ EnvIs K m (mask m H) σ env ∧ ∃ ds S', f env S = .ok ds S' ∧
  ∀ vs m' H', Stp m H m' H' → Rel K m' H' S' → IsDs K m' (mask m' H') ds vs → Q vs H'
def FloOk (K : PySem.W.Frag) (m : Mp) (H : Hp) (E : Ends) : Flo → Prop
  | .nx env S => ∀ m' H' σ, Stp m H m' H' → Rel K m' H' S → EnvIs K m' (mask m' H') σ env → E.nx σ H'
  | .rt d S => ∀ v m' H', Stp m H m' H' → Rel K m' H' S → IsD K m' (mask m' H') d v → E.rt v H'
  | .bk env S => ∀ m' H' σ, Stp m H m' H' → Rel K m' H' S → EnvIs K m' (mask m' H') σ env → E.bk σ H'
  | .ct env S => ∀ m' H' σ, Stp m H m' H' → Rel K m' H' S → EnvIs K m' (mask m' H') σ env → E.ct σ H'
  | .bad => False
def TDs (K : PySem.W.Frag) (f : FS) : TS := fun E σ H => ∃ m env S, Rel K m H S ∧ EnvIs K m (mask m H) σ env ∧ FloOk K m H E (f env S)
theorem FloOk.step {K : PySem.W.Frag} {m m' : Mp} {H H' : Hp} {E : Ends} {f : Flo} (h : FloOk K m H E f) (st : Stp m H m' H') : FloOk K m' H' E f := by
  cases f with
  | nx env S => exact fun m2 H2 σ s2 => h m2 H2 σ (st.trans s2)
  | rt d S => exact fun v m2 H2 s2 => h v m2 H2 (st.trans s2)
  | bk env S => exact fun m2 H2 σ s2 => h m2 H2 σ (st.trans s2)
  | ct env S => exact fun m2 H2 σ s2 => h m2 H2 σ (st.trans s2)
  | bad => exact h
section
variable {X : Cx} {e : Expr} {es : List Expr} {st : Stmt} {sts : List Stmt}
theorem pe_weak {t t' : TE} (h : PE X e t) (q : ∀ σ H Q, t' σ H Q → t σ H Q) : PE X e t' := ⟨fun pins s σ H Q I w => h.run pins s σ H Q I (q σ H Q w)⟩
theorem pt_weak {t t' : TT} (h : PT X e t) (q : ∀ σ H Q, t' σ H Q → t σ H Q) : PT X e t' := ⟨fun pins s σ H Q I w => h.run pins s σ H Q I (q σ H Q w)⟩
theorem pw_weak {t t' : TT} (h : PW X e t) (q : ∀ σ H Q, t' σ H Q → t σ H Q) : PW X e t' := ⟨fun wh pins s σ H Q I w => h.run wh pins s σ H Q I (q σ H Q w)⟩
theorem pa_weak {t t' : TA} (h : PA X es t) (q : ∀ σ H Q, t' σ H Q → t σ H Q) : PA X es t' := ⟨fun pos pins s σ H Q I w => h.run pos pins s σ H Q I (q σ H Q w)⟩
theorem ps_weak {t t' : TS} (h : PS X st t) (q : ∀ E σ H, t' E σ H → t E σ H) : PS X st t' := ⟨fun pins s σ H E I w => h.run pins s σ H E I (q E σ H w)⟩
theorem pss_weak {t t' : TS} (h : PSs X sts t) (q : ∀ E σ H, t' E σ H → t E σ H) : PSs X sts t' := ⟨fun pins s σ H E I w => h.run pins s σ H E I (q E σ H w)⟩
abbrev PEd (X : Cx) (e : Expr) (f : FE) : Prop := PE X e (TD X.K f)
abbrev PTd (X : Cx) (e : Expr) (f : FT) : Prop := PT X e (TDt X.K f)
abbrev PWd (X : Cx) (e : Expr) (f : FT) : Prop := PW X e (TDt X.K f)
abbrev PAd (X : Cx) (es : List Expr) (f : FA) : Prop := PA X es (TDa X.K f)
abbrev PSd (X : Cx) (st : Stmt) (f : FS) : Prop := PS X st (TDs X.K f)
abbrev PSsd (X : Cx) (sts : List Stmt) (f : FS) : Prop := PSs X sts (TDs X.K f)
end
def fVar (i : Nat) : FE := fun env S => match env[i]? with
  | some (some d) => .ok d S
  | _ => .bad
def fC (d : D) : FE := fun _ S => .ok d S
def fNil : FA := fun _ S => .ok [] S
def fCons (f : FE) (g : FA) : FA := fun env S => (f env S).bind fun d S1 => (g env S1).bind fun ds S2 => .ok (d :: ds) S2
def onVals (k : List P → Sto → Oc D) (ds : List D) (S : Sto) : Oc D := match vals ds with
  | some ps => if ps.length ≤ 100000 then k ps S else .bad
  | none => .bad
theorem onVals_of {k : List P → Sto → Oc D} {ds : List D} {S S' : Sto} {d : D} (h : onVals k ds S = .ok d S') : ∃ ps, vals ds = some ps ∧ ps.length ≤ 100000 ∧ k ps S = .ok d S' := by
  unfold onVals at h
  split at h
  · rename_i ps e
    split at h
    · rename_i hl
      exact ⟨ps, e, hl, h⟩
    · cases h
  · cases h
def fTup (g : FA) : FE := fun env S => (g env S).bind (onVals fun ps S1 => .ok (.v (.tup ps)) S1)
def fLst (g : FA) : FE := fun env S => (g env S).bind (onVals fun ps S1 => .ok (.v (.lst ps)) S1)
def fLstB (g : FA) : FE := fun env S => (g env S).bind (onVals fun ps S1 => .ok (.r S1.length) (S1 ++ [.lst ps]))
theorem size_of {n : Nat} (h : n ≤ 100000) : n ≤ sizeLine := Nat.le_trans h (by decide)
theorem size_lt {n : Nat} (h : n < 100000) : n < sizeLine := Nat.lt_of_lt_of_le h (by decide)
section
variable {X : Cx} {e : Expr} {es : List Expr} {pos : Pos} {f : FE} {g : FA}
theorem d_var {i : Nat} (h : PE X e (tVar i)) : PEd X e (fVar i) := pe_weak h fun σ H Q ⟨m, env, S, R, E, d, S', e1, q⟩ => by
  unfold fVar at e1
  split at e1
  · rename_i d' h1
    cases e1
    obtain ⟨v, h2, h3⟩ := E.get _ _ h1
    exact ⟨v, h2, q v m H (Stp.refl m H) R h3⟩
  · cases e1
theorem d_const {v : V} {p : P} (h : PE X e (tC v)) (hd : ∀ G, Is X.K G p v) : PEd X e (fC (.v p)) := pe_weak h fun σ H Q ⟨m, env, S, R, E, d', S', e1, q⟩ => by
  cases e1
  exact q v m H (Stp.refl m H) R (hd _)
theorem d_int {i j} : PEd X (.Constant (.int i) j pos) (fC (.v (.int i))) := d_const pe_int fun _ => rfl
theorem d_bl {b j} : PEd X (.Constant (.bool b) j pos) (fC (.v (.bl b))) := d_const pe_bl fun _ => rfl
theorem d_str {x j} : PEd X (.Constant (.str x) j pos) (fC (.v (.str x))) := d_const pe_str fun _ => rfl
theorem d_nil : PAd X [] fNil := pa_weak pa_nil fun σ H Q ⟨m, env, S, R, E, d', S', e1, q⟩ => by
  cases e1
  exact q [] m H (Stp.refl m H) R rfl
theorem d_cons (he : PEd X e f) (hr : PAd X es g) (hs : starEach (e :: es) X.env = (false, eval e X.env) :: starEach es X.env := by rfl) : PAd X (e :: es) (fCons f g) := pa_weak (pa_cons he hr hs) fun σ H Q ⟨m, env, S, R, E, d', S', e1, q⟩ => by
  obtain ⟨d, S1, k1, e2⟩ := Oc.bind_eq e1
  obtain ⟨ds, S2, k2, e3⟩ := Oc.bind_eq e2
  cases e3
  exact ⟨m, env, S, R, E, d, S1, k1, fun v m1 H1 st1 R1 i1 => ⟨m1, env, S1, R1, E.step st1, ds, _, k2, fun vs m2 H2 st2 R2 i2 =>
    q (v :: vs) m2 H2 (st1.trans st2) R2 ⟨v, vs, rfl, st2.is i1, i2⟩⟩⟩
theorem disp {K : PySem.W.Frag} {g : FA} {k : List P → Sto → Oc D} {σ : L2.St} {H : Hp} {m : Mp} {env : Dnv} {S S' : Sto} {d : D} {Q : List V → Hp → Prop} (R : Rel K m H S) (E : EnvIs K m (mask m H) σ env)
    (e : ((g env S).bind (onVals k)) = .ok d S')
    (q : ∀ ps S1 vs m1 H1, k ps S1 = .ok d S' → ps.length ≤ 100000 → Stp m H m1 H1 → Rel K m1 H1 S1 → IsAll K (mask m1 H1) ps vs → Q vs H1) : TDa K g σ H Q := by
  obtain ⟨ds, S1, k1, e2⟩ := Oc.bind_eq e
  obtain ⟨ps, hv, hl, e3⟩ := onVals_of e2
  exact ⟨m, env, S, R, E, ds, S1, k1, fun vs m1 H1 st1 R1 i1 => q ps S1 vs m1 H1 e3 hl st1 R1 (vals_is hv i1)⟩
theorem d_tup {k} (h : PAd X es g) : PEd X (.Tuple es k pos) (fTup g) := pe_weak (pe_tup h) fun σ H Q ⟨m, env, S, R, E, d', S', e1, q⟩ =>
  disp R E e1 fun ps S1 vs m1 H1 ek hl st1 R1 i1 => by
    cases ek
    refine ⟨size_of (by rw [← i1.len]; exact hl), fun p hp => ?_⟩
    obtain ⟨R2, st2⟩ := R1.fresh (o := .tup vs) hp
    refine q (.ref p) m1 _ (st1.trans st2) R2 ⟨p, vs, rfl, .inl (.inl ?_), st2.all i1⟩
    rw [mask_upd (R1.out hp)]
    exact upd_same
theorem d_lst (h : PAd X es g) : PEd X (.List es pos) (fLst g) := pe_weak (pe_lst h) fun σ H Q ⟨m, env, S, R, E, d', S', e1, q⟩ =>
  disp R E e1 fun ps S1 vs m1 H1 ek hl st1 R1 i1 => by
    cases ek
    refine ⟨size_of (by rw [← i1.len]; exact hl), fun p hp => ?_⟩
    obtain ⟨R2, st2⟩ := R1.fresh (o := .lst vs) hp
    refine q (.ref p) m1 _ (st1.trans st2) R2 ⟨p, vs, rfl, ?_, st2.all i1⟩
    rw [mask_upd (R1.out hp)]
    exact upd_same
theorem d_lstB (h : PAd X es g) : PEd X (.List es pos) (fLstB g) := pe_weak (pe_lst h) fun σ H Q ⟨m, env, S, R, E, d', S', e1, q⟩ =>
  disp R E e1 fun ps S1 vs m1 H1 ek hl st1 R1 i1 => by
    cases ek
    refine ⟨size_of (by rw [← i1.len]; exact hl), fun p hp => ?_⟩
    obtain ⟨R2, st2⟩ := R1.alloc (o := .lst vs) (x := .lst ps) hp fun H' st e => ⟨vs, e, st.all i1⟩
    refine q (.ref p) _ _ (st1.trans st2) R2 ⟨p, rfl, ?_⟩
    show (_ ++ [p])[S1.length]? = some p
    rw [List.getElem?_append_right (by rw [R1.len]; exact Nat.le_refl _), R1.len, Nat.sub_self]
    rfl
end
end DL
namespace DL
open PySem PySem.Spec PyProof.Rows L2
mutual
def isB (K : PySem.W.Frag) : P → Value → Bool
  | .non, u => (match u with
    | .none => true
    | _ => false)
  | .bl b, u => (match u with
    | .bool c => b == c
    | _ => false)
  | .int i, u => (match u with
    | .int j _ => decide (i = j)
    | _ => false)
  | .str x, u => (match u with
    | .str y _ => decide (x = y)
    | _ => false)
  | .tup ps, u => (match u with
    | .ref a => (match K.lookup a with
      | some ⟨.type c, _, .seq its _, _⟩ => decide (c = "tuple") && (decide (its.size ≤ sizeLine) && isBs K ps its.toList)
      | _ => false)
    | _ => false)
  | _, _ => false
def isBs (K : PySem.W.Frag) : List P → List Value → Bool
  | [], us => (match us with
    | [] => true
    | _ => false)
  | p :: ps, us => (match us with
    | u :: us => isB K p u && isBs K ps us
    | [] => false)
end
def gvV (x : Str) (K : PySem.W.Frag) : Value := match PySem.W.nsIn K mainGlobals x with
  | some (some u) => u
  | _ => .none
abbrev CsT := (PySem.W.Frag → Value) × P
def valsT (K : PySem.W.Frag) (a : Addr) (kvs : List (Str × P)) : Bool := kvs.all fun q => match PySem.W.nsIn K a q.1 with
  | some (some u) => isB K q.2 u
  | _ => false
abbrev TabT := (PySem.W.Frag → Addr) × List (Str × P)
def excObjB (K : PySem.W.Frag) (C : Addr) : Bool := match K.lookup C with
  | some ⟨.type "type", _, .cls cd, sl⟩ => (match cd.mro, sl.toList with
    | .ref D :: bm, [_, _, _, _, some (.builtin n), _] => decide (D = C) && (decide (n = "ValueError.__new__") && (cd.hasDict && (!cd.hasDel && PySem.HandSPX.refsVE bm)))
    | _, _ => false)
  | _ => false
def isO (a : Option (Option Value)) (b : Value) : Bool := decide (a = some (some b))
abbrev baseGA : Value := .builtin "BaseException.__getattribute__"
def clsB (K : PySem.W.Frag) (C : Addr) : Bool := isO (PySem.W.findIn K (.ref C) "__getattribute__") baseGA && (decide (PySem.W.findIn K (.ref C) "__getattr__" = some none) && (decide (PySem.W.subIn K (.ref C) (.type "BaseException") = some true) &&
  (PySem.W.hasDictIn K C && (isO (PySem.W.findIn K (.ref C) "__class__") (.builtin "object.__class__") && (isO (PySem.W.specialIn K (.builtin "object.__class__") "__get__") (.builtin "getset_descriptor.__get__") && (decide (PySem.W.takesIn K (.builtin "object.__class__") = some true) &&
  (decide (PySem.W.mroIn K C (.type "object") = some true) && (decide (PySem.W.typeIn K (.ref C) = some (.type "type")) && PySem.W.keepIn K (.ref C)))))))))
def tyV' : Value := .type "type"
def baseB (K : PySem.W.Frag) (C : Addr) : Bool := isO (PySem.W.specialIn K (.ref C) "__getattribute__") (.builtin "type.__getattribute__") && (PySem.W.readsIn K C tyV' && (match PySem.W.findCls K (.ref C) tyV' "__init__" with
  | some (.val (.builtin n)) => decide (n = "ValueError.__init__")
  | _ => false))
def xcB (K : PySem.W.Frag) (x b : Str) (fs : List Str) : Bool := clsB K (He.ga K x) && (baseB K (He.ga K b) && (excObjB K (He.ga K x) && (isO (PySem.W.findIn K (.ref (He.ga K x)) "__setattr__") (.builtin "object.__setattr__") &&
  (isO (PySem.W.findIn K (.ref (He.ga K x)) "__init__") (.ref (He.ma K (He.ga K x) "__init__")) && (decide (PySem.W.typeIn K (.ref (He.ma K (He.ga K x) "__init__")) = some (.type "function")) && fs.all fun f => decide (PySem.W.findIn K (.ref (He.ga K x)) f = some none))))))
theorem and2 {a b : Bool} (h : (a && b) = true) : a = true ∧ b = true := Bool.and_eq_true_iff.mp h
def emB (K : PySem.W.Frag) (cv : Value) (cs : List (Str × Bool)) : Bool := cs.all fun q => decide (PySem.W.exmOne K (.ref (He.ga K q.1)) cv = some q.2) && decide (PySem.W.kitOne K (.ref (He.ga K q.1)) cv = some q.2)
abbrev XlT := Str × Str × List Str
abbrev ElT := (PySem.W.Frag → Value) × List (Str × Bool)
abbrev LmT := He.Defn × Str
def exB (cs : List CsT) (ts : List TabT) (xl : List XlT) (el : List ElT) (tf : List LmT) (K : PySem.W.Frag) : Bool := decide ((tf.map fun q => (He.cT K q.1).2).Nodup) && ((cs.all fun c => isB K c.2 (c.1 K)) && ((ts.all fun t => valsT K (t.1 K) t.2) && ((xl.all fun x => xcB K x.1 x.2.1 x.2.2) && el.all fun e => emB K (e.1 K) e.2)))
abbrev keysT (ts : List TabT) : List He.Tab := ts.map fun t => (t.1, t.2.map (·.1))
abbrev SaysF (fa : List He.Fa) (fn : List He.DefD) (cs : List CsT) (ts : List TabT) (xl : List XlT) (el : List ElT) (tf : List LmT) (w : World) (h : Heap) (K : PySem.W.Frag) : Prop := He.SaysX fa fn (keysT ts) (tf.map (·.1)) (exB cs ts xl el tf) w h K
def kF (n : Nat) (g : Addr → Option Obj) : PySem.W.Frag := He.frT g (He.asD g n ++ [cStatics])
def obsF (n : Nat) (fa : List He.Fa) (fn : List He.DefD) (cs : List CsT) (ts : List TabT) (xl : List XlT) (el : List ElT) (tf : List LmT) (g : Addr → Option Obj) : He.AlX :=
  (He.obsT fa fn (keysT ts) (kF n g), exB cs ts xl el tf (kF n g) && He.tabsB g (tf.map (·.1)) (kF n g))
theorem saysF_of {n : Nat} {fa : List He.Fa} {fn : List He.DefD} {cs : List CsT} {ts : List TabT} {xl : List XlT} {el : List ElT} {tf : List LmT} {w : World} {h : Heap} (e : obsF n fa fn cs ts xl el tf h.get? = He.valX fn (keysT ts) w) : SaysF fa fn cs ts xl el tf w h (kF n h.get?) := by
  obtain ⟨b1, b2⟩ := and2 (show (exB cs ts xl el tf (kF n h.get?) && He.tabsB h.get? (tf.map (·.1)) (kF n h.get?)) = true from congrArg (fun z : He.AlX => z.2) e)
  have look : ∀ p ∈ tf.map (·.1), PySem.W.codeHdIn (kF n h.get?) (He.cT (kF n h.get?) p).1 (He.cT (kF n h.get?) p).2 = true ∧ ∃ o, h.get? (He.cT (kF n h.get?) p).2 = some o ∧ He.emptyTab o = true := fun p hp => by
    obtain ⟨c1, c2⟩ := and2 (List.all_eq_true.mp b2 p hp)
    split at c2
    · rename_i o ho
      exact ⟨c1, o, ho, c2⟩
    · cases c2
  exact ⟨congrArg (fun z : He.AlX => z.1) e, b1, fun p hp => (look p hp).1, fun p hp => by
    obtain ⟨_, o, ho, z⟩ := look p hp
    exact He.frT_none ho z, fun p hp => by
    obtain ⟨_, o, ho, z⟩ := look p hp
    rw [ho, He.emptyTab_eq z]⟩
def hookF (n : Nat) (fa : List He.Fa) (fn : List He.DefD) (cs : List CsT) (ts : List TabT) (xl : List XlT) (el : List ElT) (tf : List LmT) : PySem.W.Hook where
  α := He.AlX
  obs := fun s => obsF n fa fn cs ts xl el tf s.heap.get?
  val := fun w => He.valX fn (keysT ts) w
  says := fun w h => ∃ K : PySem.W.Frag, K.In h ∧ SaysF fa fn cs ts xl el tf w h K
  of := fun _ _ e => ⟨_, He.frT_in, saysF_of e⟩
  keeps := fun _ _ _ ⟨K, hK, c⟩ k => ⟨K, PySem.W.Frag.In.keeps hK k, ⟨c.t, c.more, c.hd, c.out, fun p hp => k _ _ (c.empty p hp)⟩⟩
theorem obsF_eq {n : Nat} {fa : List He.Fa} {fn : List He.DefD} {cs : List CsT} {ts : List TabT} {xl : List XlT} {el : List ElT} {tf : List LmT} {g : Addr → Option Obj} {s : Shared} (h : ∀ a, g a = s.heap.get? a) : obsF n fa fn cs ts xl el tf g = (hookF n fa fn cs ts xl el tf).obs s := by
  obtain rfl : g = s.heap.get? := funext h
  rfl
def memb (s : Stmt) (i : Nat) : Stmt := match s with
  | .ClassDef _ _ _ b _ _ _ _ _ _ _ => b.getD i (.Pass ⟨0, 0, 0, 0⟩)
  | s => s
end DL
namespace K07
open PySem PySem.Spec PyProof.Rows L2 DL
def top (i : Nat) : Stmt := PySem.Challenge.pw_maybedone_k07_whole_worlds.main.body.getD i (.Pass ⟨0, 0, 0, 0⟩)
def hl : List LmT := []
abbrev s__law_is_position : Stmt := top 30
abbrev s__law_names : Stmt := top 25
abbrev s__law_all_positions : Stmt := top 29
abbrev s__law_entry : Stmt := top 26
abbrev s_is_one_of : Stmt := top 12
abbrev s_is_status : Stmt := top 13
abbrev s_is_tuple_of : Stmt := top 14
abbrev s_require_paper : Stmt := top 16
abbrev s_statuses_by_step : Stmt := top 5
abbrev s_lets_position : Stmt := top 17
abbrev s_steps_with : Stmt := top 6
abbrev s_worlds_of : Stmt := top 9
abbrev s__law_check_position : Stmt := top 31
abbrev s__law_fixed_works : Stmt := top 24
abbrev s__law_draw : Stmt := top 20
abbrev s__law_order : Stmt := top 27
abbrev s__law_random_position : Stmt := top 28
abbrev s__law_random_abilities : Stmt := top 21
abbrev s__law_random_some : Stmt := top 22
abbrev s__law_random_work : Stmt := top 23
abbrev s__law_reader : Stmt := top 19
abbrev s_start_of : Stmt := top 7
abbrev s_law : Stmt := top 32
abbrev si_InvalidPaper : Stmt := memb (top 3) 0
def hd : List He.DefD := [⟨("_law_is_position", none), "_law_is_position", "_law_is_position", defArgs s__law_is_position, defBody s__law_is_position, defScope s__law_is_position, [], []⟩, ⟨("_law_names", none), "_law_names", "_law_names", defArgs s__law_names, defBody s__law_names, defScope s__law_names, [], []⟩, ⟨("_law_all_positions", none), "_law_all_positions", "_law_all_positions", defArgs s__law_all_positions, defBody s__law_all_positions, defScope s__law_all_positions, [], []⟩, ⟨("_law_entry", none), "_law_entry", "_law_entry", defArgs s__law_entry, defBody s__law_entry, defScope s__law_entry, [], []⟩, ⟨("is_one_of", none), "is_one_of", "is_one_of", defArgs s_is_one_of, defBody s_is_one_of, defScope s_is_one_of, [], []⟩, ⟨("is_status", none), "is_status", "is_status", defArgs s_is_status, defBody s_is_status, defScope s_is_status, [], []⟩, ⟨("is_tuple_of", none), "is_tuple_of", "is_tuple_of", defArgs s_is_tuple_of, defBody s_is_tuple_of, defScope s_is_tuple_of, [], []⟩, ⟨("require_paper", none), "require_paper", "require_paper", defArgs s_require_paper, defBody s_require_paper, defScope s_require_paper, [], []⟩, ⟨("statuses_by_step", none), "statuses_by_step", "statuses_by_step", defArgs s_statuses_by_step, defBody s_statuses_by_step, defScope s_statuses_by_step, [], []⟩, ⟨("lets_position", none), "lets_position", "lets_position", defArgs s_lets_position, defBody s_lets_position, defScope s_lets_position, [], []⟩, ⟨("steps_with", none), "steps_with", "steps_with", defArgs s_steps_with, defBody s_steps_with, defScope s_steps_with, [], []⟩, ⟨("worlds_of", none), "worlds_of", "worlds_of", defArgs s_worlds_of, defBody s_worlds_of, defScope s_worlds_of, [], []⟩, ⟨("_law_check_position", none), "_law_check_position", "_law_check_position", defArgs s__law_check_position, defBody s__law_check_position, defScope s__law_check_position, [], []⟩, ⟨("_law_fixed_works", none), "_law_fixed_works", "_law_fixed_works", defArgs s__law_fixed_works, defBody s__law_fixed_works, defScope s__law_fixed_works, [], []⟩, ⟨("_law_draw", none), "_law_draw", "_law_draw", defArgs s__law_draw, defBody s__law_draw, defScope s__law_draw, [], []⟩, ⟨("_law_order", none), "_law_order", "_law_order", defArgs s__law_order, defBody s__law_order, defScope s__law_order, [], []⟩, ⟨("_law_random_position", none), "_law_random_position", "_law_random_position", defArgs s__law_random_position, defBody s__law_random_position, defScope s__law_random_position, [], []⟩, ⟨("_law_random_abilities", none), "_law_random_abilities", "_law_random_abilities", defArgs s__law_random_abilities, defBody s__law_random_abilities, defScope s__law_random_abilities, [], []⟩, ⟨("_law_random_some", none), "_law_random_some", "_law_random_some", defArgs s__law_random_some, defBody s__law_random_some, defScope s__law_random_some, [], []⟩, ⟨("_law_random_work", none), "_law_random_work", "_law_random_work", defArgs s__law_random_work, defBody s__law_random_work, defScope s__law_random_work, [], []⟩, ⟨("_law_reader", none), "_law_reader", "_law_reader", defArgs s__law_reader, defBody s__law_reader, defScope s__law_reader, [], []⟩, ⟨("start_of", none), "start_of", "start_of", defArgs s_start_of, defBody s_start_of, defScope s_start_of, [], []⟩, ⟨("law", none), "law", "law", defArgs s_law, defBody s_law, defScope s_law, [], []⟩, ⟨("InvalidPaper", some "__init__"), "__init__", "InvalidPaper.__init__", defArgs si_InvalidPaper, defBody si_InvalidPaper, defScope si_InvalidPaper, [], []⟩]
def hf : List He.Fa := [.glo "_law_is_position", .glo "_law_names", .glo "_law_all_positions", .glo "_law_entry", .glo "is_one_of", .glo "is_status", .glo "is_tuple_of", .glo "require_paper", .glo "statuses_by_step", .glo "lets_position", .glo "steps_with", .glo "worlds_of", .glo "_law_check_position", .glo "_law_fixed_works", .glo "_law_draw", .glo "_law_order", .glo "_law_random_position", .glo "_law_random_abilities", .glo "_law_random_some", .glo "_law_random_work", .glo "_law_reader", .glo "start_of", .glo "law", .free "all", .free "dict", .free "enumerate", .free "int", .free "isinstance", .free "len", .free "list", .free "min", .free "range", .free "set", .free "sorted", .free "str", .free "tuple", .free "zip", .glo "InvalidPaper", .glo "PaperError"]
def ht : List TabT := []
def hc : List CsT := [(gvV "STATUSES", (.tup [(.str "open"), (.str "done"), (.str "maybe"), (.str "dead")]))]
def hx : List XlT := [("InvalidPaper", "PaperError", ["word", "at"])]
def he : List ElT := []
abbrev R : PySem.W.OpenRow := PySem.W.OpenLaw.row PySem.Challenge.rw_maybedone_k07_whole_worlds
abbrev hk : PySem.W.Hook := hookF 4 hf hd hc ht hx he hl
def ob (s : PySem.W.SharedT) : He.AlX := obsF 4 hf hd hc ht hx he hl (HandSHeadRun.getT s)
theorem ob_eq (s : PySem.W.SharedT) : ob s = hk.obs s.abs := obsF_eq (HandSHeadRun.getT_eq s)
def lo0 : List Str := ["__name__", "MaybeError", "PaperError", "InvalidPaper", "statuses_by_step", "steps_with", "start_of", "worlds_of", "STATUSES", "is_one_of", "is_status", "is_tuple_of", "require_paper", "lets_position", "_law_reader", "_law_draw", "_law_random_abilities", "_law_random_some", "_law_random_work", "_law_fixed_works", "_law_names", "_law_entry", "_law_order", "_law_random_position", "_law_all_positions", "_law_is_position", "_law_check_position"]
abbrev lo : List Str := (lo0)
theorem run (w : World) : HandSHeadRun.RunEq R (PySem.W.view R.prog [32]) hk ob 4000 lo w := by
  intro os
  kernel_rfl
end K07
namespace ZM
open PySem PySem.Spec PyProof.Rows L2
theorem mul_one (l : Addr) (items : Array Value) (n : Nat) (dd : Option Addr) (sl : Array (Option Value)) (u : Tok) (c1 : (items.isEmpty || (1 : Int) == 1) = true) :
    Meets (Builtin.«tuple.__mul__» ⟨[.ref l, .int 1 u], []⟩) (fun _ R s => s.heap.get? l = some { cls := .type "tuple", dict := dd, data := .seq items n, slots := sl } ∧ R (.ok (.ret (.ref l))) s) :=
  .of_wp fun prog w A R s h => by
    obtain ⟨hp, g, d, tk, os⟩ := s
    obtain ⟨hl, h⟩ := h
    have f1 := AutoSeq1.idx_int
    wp_walk using wpAny_loadPart' hl
    repeat (first
      | (refine wpAny_ite_true (decide_eq_true (by rw [c1])) ?_; wp_walk using wpAny_loadPart' hl)
      | (refine wpAny_ite_false (decide_eq_false (by decide)) ?_; wp_walk using wpAny_loadPart' hl))
    exact ⟨_, rfl, h⟩
def rOne (K : PySem.W.Frag) : R2 := fun x y H Q => ∃ l xs, x = .ref l ∧ y = .int 1 ∧ SqT K H l xs ∧ Q (.ref l) H
theorem op_one {X : Cx} : OpR X (binaryOp .Mult) (rOne X.K) := by
  intro pins s σ H x y v u Q I rx ry h
  obtain ⟨l, xs, rfl, rfl, hT, q⟩ := h
  cases rx
  obtain ⟨t, rfl⟩ := ry
  obtain ⟨its, r, ⟨⟨cls, dd, data, sl⟩, ho, hc, n, hd⟩, hs⟩ := I.tuple hT
  simp only at hc hd
  subst hc hd
  refine wpAny_binaryOp_repeat_ref (T := "tuple") (U := "int") (by decide) ⟨_, ho, rfl⟩ (fun s' => typeIs_int s' 1 t) noFill_tuple_mul F.fills_int_mul F.slot_int_rmul repeat_tuple F.slot_int_index.lookup
    (call_meets F.slot_int_rmul (typeIs_int s 1 t) F.entry_int_rmul (F.args_int_rmul_2 _ _) (int_rmul_tuple 1 t l its.toArray n dd sl)
      ⟨ho, rfl, ⟨_, ho, rfl⟩, call_meets F.slot_tuple_mul ⟨_, ho, rfl⟩ F.entry_tuple_mul (F.args_tuple_mul_2 _ _) (mul_one l its.toArray n dd sl t (by simp)) ⟨ho, ?_⟩⟩)
  exact ⟨.ref l, H, I, rfl, q⟩
theorem mul_zero (l : Addr) (items : Array Value) (n : Nat) (dd : Option Addr) (sl : Array (Option Value)) (u : Tok) (c1 : (items.isEmpty || (0 : Int) == 1) = false) (c2 : (decide ((0 : Int) ≤ 0) || items.isEmpty) = true) :
    Meets (Builtin.«tuple.__mul__» ⟨[.ref l, .int 0 u], []⟩) (fun _ R s => s.heap.get? l = some { cls := .type "tuple", dict := dd, data := .seq items n, slots := sl } ∧
      R (.ok (.ret (Value.ref s.heap.objs.size))) { s with heap := s.heap.push { cls := Value.type "tuple", data := Data.seq #[] }, toks := s.toks }) :=
  .of_wp fun prog w A R s h => by
    obtain ⟨hp, g, d, tk, os⟩ := s
    obtain ⟨hl, h⟩ := h
    have f1 := AutoSeq1.idx_int
    wp_walk using wpAny_loadPart' hl
    repeat (first
      | (refine wpAny_ite_false (decide_eq_false (by rw [c1]; exact Bool.false_ne_true)) ?_; wp_walk using wpAny_loadPart' hl)
      | (refine wpAny_ite_true (decide_eq_true (by rw [c2])) ?_; wp_walk using wpAny_loadPart' hl)
      | (refine wpAny_ite_false (decide_eq_false (by decide)) ?_; wp_walk using wpAny_loadPart' hl))
    exact ⟨_, rfl, h⟩
def rZero (K : PySem.W.Frag) : R2 := fun x y H Q => ∃ l xs, x = .ref l ∧ y = .int 0 ∧ SqT K H l xs ∧ xs ≠ [] ∧ ∀ p, H p = none → Q (.ref p) (upd H p (.tup []))
theorem op_zero {X : Cx} : OpR X (binaryOp .Mult) (rZero X.K) := by
  intro pins s σ H x y v u Q I rx ry h
  obtain ⟨l, xs, rfl, rfl, hT, hne, q⟩ := h
  cases rx
  obtain ⟨t, rfl⟩ := ry
  obtain ⟨its, r, ⟨⟨cls, dd, data, sl⟩, ho, hc, n, hd⟩, hs⟩ := I.tuple hT
  simp only at hc hd
  subst hc hd
  have hi : its.toArray.isEmpty = false := by
    cases its with
    | nil => cases r; exact absurd rfl hne
    | cons a b => rfl
  refine wpAny_binaryOp_repeat_ref (T := "tuple") (U := "int") (by decide) ⟨_, ho, rfl⟩ (fun s' => typeIs_int s' 0 t) noFill_tuple_mul F.fills_int_mul F.slot_int_rmul repeat_tuple F.slot_int_index.lookup
    (call_meets F.slot_int_rmul (typeIs_int s 0 t) F.entry_int_rmul (F.args_int_rmul_2 _ _) (int_rmul_tuple 0 t l its.toArray n dd sl)
      ⟨ho, rfl, ⟨_, ho, rfl⟩, call_meets F.slot_tuple_mul ⟨_, ho, rfl⟩ F.entry_tuple_mul (F.args_tuple_mul_2 _ _) (mul_zero l its.toArray n dd sl t (by rw [hi]; rfl) (by simp)) ⟨ho, ?_⟩⟩)
  refine ⟨.ref s.heap.objs.size, _, I.laid (t' := s.toks) (o := .tup []) (fun b ob q => Heap.get?_push_of_some _ q) (Nat.le_refl _) ?_, rfl, q _ (I.hok.fresh (Nat.le_refl _))⟩
  exact ⟨Nat.zero_le _, [], .nil, IsTup.new _ _⟩
end ZM
namespace DL
open PySem PySem.Spec PyProof.Rows L2
variable [Tb]
def IsR (K : PySem.W.Frag) (m : Mp) (H : Hp) : P → V → Prop
  | .lst ps, v => ∃ a xs, v = .ref a ∧ H a = some (.lst xs) ∧ IsAll K (mask m H) ps xs
  | .dic ks ps, v => ∃ a xs, v = .ref a ∧ H a = some (.dK (ks.zip xs)) ∧ ks.length = xs.length ∧ ks.Nodup ∧ IsAll K (mask m H) ps xs
  | .non, v => v = .non
  | .bl b, v => v = .bl b
  | .int i, v => v = .int i
  | .str x, v => v = .str x
  | .tup ds, v => ∃ a xs, v = .ref a ∧ SqT K (mask m H) a xs ∧ IsAll K (mask m H) ds xs
  | .frz ds, v => ∃ a xs, v = .ref a ∧ SqL K (mask m H) a xs ∧ IsAll K (mask m H) ds xs
  | .fn x, v => v = .ref (He.ga K x)
  | .dn ks ds, v => ∃ a as xs ns, v = .ref a ∧ H a = some (NDo a (hashNs Tb.hf ns) as xs) ∧ nkPs ks = some ns ∧ KeysOk ns ∧ xs.length = ks.length ∧ xs.length ≤ sizeLine ∧ IsAll K (mask m H) ks as ∧ IsAll K (mask m H) ds xs
  | .exn a d _ ns ds, v => ∃ xs, v = .ref a ∧ mask m H d = some (.xd (ns.zip xs)) ∧ ns.length = xs.length ∧ IsAll K (mask m H) ds xs
  | .adr a, v => v = .ref a
def Co.p : Co → P
  | .lst ps => .lst ps
  | .dic ks ps => .dic ks ps
  | .dn ks ps => .dn ks ps
def coAt (k : Nat) : List Fv → Option Co
  | [] => none
  | .p _ :: fs => coAt k fs
  | .c j o :: fs => if j = k then some o else coAt k fs
def deP (S : Sto) : D → Option P
  | .v p => some p
  | .r n => match S[n]? with
    | some (.lst ps) => some (.lst ps)
    | some (.dic ks ps) => some (.dic ks ps)
    | some (.dn ks ps) => some (.dn ks ps)
    | some (.dl _ _) => none
    | some (.ins _ _ _ _) => none
    | none => none
  | .o n k => match S[n]? with
    | some (.ins _ _ _ fs) => (coAt k fs).map Co.p
    | some (.dl _ cs) => cs[k]?.map P.lst
    | _ => none
  | .t _ => none
@[simp] theorem deP_v (S : Sto) (p : P) : deP S (.v p) = some p := rfl
section
variable {K : PySem.W.Frag} {m : Mp} {H : Hp} {S : Sto}
theorem isR_val {p : P} {v : V} (h : Is K (mask m H) p v) : IsR K m H p v := by
  cases p with
  | lst ps =>
    obtain ⟨a, xs, h1, h2, h3⟩ := h
    exact ⟨a, xs, h1, (mask_some h2).2, h3⟩
  | dic ks ps =>
    obtain ⟨a, xs, h1, h2, h4, h5, h3⟩ := h
    exact ⟨a, xs, h1, (mask_some h2).2, h4, h5, h3⟩
  | dn ks ps =>
    obtain ⟨a, as, xs, ns, h1, h2, h3⟩ := h
    exact ⟨a, as, xs, ns, h1, (mask_some h2).2, h3⟩
  | _ => exact h
theorem coAt_is {a : Addr} {k : Nat} {o : Co} : ∀ {fs : List Fv} {vs : List V}, FvAll K m H a fs vs → coAt k fs = some o → ∃ b, (a, k, b) ∈ m.c.o ∧ CoIs K m H b o
  | [], _, _, h => by cases h
  | .p _ :: fs, _, ⟨v, vs, h1, h2, h3⟩, h => coAt_is h3 h
  | .c j u :: fs, _, ⟨v, vs, h1, h2, h3⟩, h => by
    unfold coAt at h
    split at h
    · rename_i e
      subst e
      cases h
      obtain ⟨b, q1, q2, q3⟩ := h2
      exact ⟨b, q2, q3⟩
    · exact coAt_is h3 h
theorem CoIs.r {b : Addr} {o : Co} (h : CoIs K m H b o) : IsR K m H o.p (.ref b) := by
  cases o with
  | lst ps =>
    obtain ⟨xs, q1, q2⟩ := h
    exact ⟨b, xs, rfl, q1, q2⟩
  | dic ks ps =>
    obtain ⟨xs, q1, q2⟩ := h
    exact ⟨b, xs, rfl, q1, q2⟩
  | dn ks ps =>
    obtain ⟨as, xs, ns, q1, q2⟩ := h
    exact ⟨b, as, xs, ns, rfl, q1, q2⟩
theorem isR_of {d : D} {p : P} {v : V} (R : Rel K m H S) (h : IsD K m (mask m H) d v) (e : deP S d = some p) : IsR K m H p v := by
  cases d with
  | v q =>
    cases e
    exact isR_val h
  | r n =>
    obtain ⟨a, h1, h2⟩ := h
    unfold deP at e
    cases hS : S[n]? with
    | none => simp [hS] at e
    | some o =>
      have q := R.ob n a o h2 hS
      cases o with
      | lst ps =>
        simp [hS] at e
        subst e
        obtain ⟨xs, q1, q2⟩ := q
        exact ⟨a, xs, h1, q1, q2⟩
      | dic ks ps =>
        simp [hS] at e
        subst e
        obtain ⟨xs, q1, q2, q3, q4⟩ := q
        exact ⟨a, xs, h1, q1, q2, q3, q4⟩
      | dn ks ps =>
        simp [hS] at e
        subst e
        obtain ⟨as, xs, ns, q⟩ := q
        exact ⟨a, as, xs, ns, h1, q⟩
      | dl ks cs => simp [hS] at e
      | ins c nv ns fs => simp [hS] at e
  | o n k =>
    obtain ⟨a, b, h1, h2, h3⟩ := h
    unfold deP at e
    cases hS : S[n]? with
    | none => simp [hS] at e
    | some o =>
      have q := R.ob n a o h2 hS
      cases o with
      | ins c nv ns fs =>
        simp [hS] at e
        obtain ⟨co, e1, e2⟩ := e
        obtain ⟨dx, xs, q1, q2, q3, q4⟩ := q
        obtain ⟨b2, p1, p2⟩ := coAt_is q4 e1
        have := R.fnc _ h3 _ p1 rfl rfl
        cases this
        subst h1
        subst e2
        exact p2.r
      | lst ps => simp [hS] at e
      | dic ks ps => simp [hS] at e
      | dn ks ps => simp [hS] at e
      | dl ks cs =>
        simp only [hS] at e
        obtain ⟨ps, e1, e2⟩ := Option.map_eq_some_iff.mp e
        obtain ⟨as, bs, ns, q1, q2, q3, q4, q5, q6, q7, q8, q9⟩ := q
        have hk := q8 k b h3
        have hb : k < bs.length := by rw [q4, ← q7]; exact hk
        obtain ⟨p1, p2⟩ := q9 k bs[k] ps (List.getElem?_eq_getElem hb) e1
        have := R.fnc _ h3 _ p1 rfl rfl
        cases this
        subst h1
        subst e2
        exact p2.r
  | t ds => cases e
theorem IsR.is {p : P} {v : V} (h : IsR K m H p v) : Is K H p v := by
  cases p with
  | lst ps =>
    obtain ⟨a, xs, h1, h2, h3⟩ := h
    exact ⟨a, xs, h1, h2, IsAll.mono (mask_ex m H) _ _ h3⟩
  | dic ks ps =>
    obtain ⟨a, xs, h1, h2, h4, h5, h3⟩ := h
    exact ⟨a, xs, h1, h2, h4, h5, IsAll.mono (mask_ex m H) _ _ h3⟩
  | tup ps =>
    obtain ⟨a, xs, h1, h2, h3⟩ := h
    exact ⟨a, xs, h1, sqT_mono (mask_ex m H) h2, IsAll.mono (mask_ex m H) _ _ h3⟩
  | frz ps =>
    obtain ⟨a, xs, h1, h2, h3⟩ := h
    exact ⟨a, xs, h1, sqL_mono (mask_ex m H) h2, IsAll.mono (mask_ex m H) _ _ h3⟩
  | non => exact h
  | bl b => exact h
  | int i => exact h
  | str x => exact h
  | fn x => exact h
  | dn ks ps =>
    obtain ⟨a, as, xs, ns, h1, h2, h3, h4, h5, h6, h7, h8⟩ := h
    exact ⟨a, as, xs, ns, h1, h2, h3, h4, h5, h6, IsAll.mono (mask_ex m H) _ _ h7, IsAll.mono (mask_ex m H) _ _ h8⟩
  | exn a d c ns ps =>
    obtain ⟨xs, h1, h2, h3, h4⟩ := h
    exact ⟨xs, h1, (mask_some h2).2, h3, IsAll.mono (mask_ex m H) _ _ h4⟩
  | adr a => exact h
end
section
variable {K : PySem.W.Frag} {m : Mp} {H : Hp} {S : Sto} {ps : List P} {xs : List V} {Q : VK}
theorem newTup (R : Rel K m H S) (i : IsAll K (mask m H) ps xs) (q : ∀ v m' H', Stp m H m' H' → Rel K m' H' S → Is K (mask m' H') (.tup ps) v → Q v H') : ∀ p, H p = none → Q (.ref p) (upd H p (.tup xs)) := fun p hp => by
  obtain ⟨R2, st2⟩ := R.fresh (o := .tup xs) hp
  refine q (.ref p) m _ st2 R2 ⟨p, xs, rfl, .inl (.inl ?_), st2.all i⟩
  rw [mask_upd (R.out hp)]
  exact upd_same
theorem newLst (R : Rel K m H S) (i : IsAll K (mask m H) ps xs) (q : ∀ v m' H', Stp m H m' H' → Rel K m' H' S → Is K (mask m' H') (.lst ps) v → Q v H') : ∀ p, H p = none → Q (.ref p) (upd H p (.lst xs)) := fun p hp => by
  obtain ⟨R2, st2⟩ := R.fresh (o := .lst xs) hp
  refine q (.ref p) m _ st2 R2 ⟨p, xs, rfl, ?_, st2.all i⟩
  rw [mask_upd (R.out hp)]
  exact upd_same
end
mutual
def toPy : P → Option PyData
  | .non => some .none
  | .bl b => some (.bool b)
  | .int i => some (.int i)
  | .str x => some (.str x)
  | .tup ps => (toPys ps).map .tuple
  | .lst ps => (toPys ps).map .list
  | .frz ps => (toPys ps).map .list
  | .dic _ _ => none
  | .fn _ => none
  | .dn _ _ => none
  | .exn _ _ _ _ _ => none
  | .adr _ => none
def toPys : List P → Option (List PyData)
  | [] => some []
  | p :: ps => match toPy p, toPys ps with
    | some d, some ds => some (d :: ds)
    | _, _ => none
end
section
variable {K : PySem.W.Frag} {H : Hp}
mutual
theorem Is.dp : ∀ (p : P) (v : V) (d : PyData), Is K H p v → toPy p = some d → Dp K H v d
  | .non, _, _, h, e => by cases e; cases h; exact .non
  | .bl b, _, _, h, e => by cases e; cases h; exact .bl b
  | .int i, _, _, h, e => by cases e; cases h; exact .int i
  | .str x, _, _, h, e => by cases e; cases h; exact .str x
  | .tup ps, _, _, ⟨a, xs, h1, h2, h3⟩, e => by
    subst h1
    unfold toPy at e
    cases hp : toPys ps with
    | none => rw [hp] at e; cases e
    | some ds => rw [hp] at e; cases e; exact .tup h2 (IsAll.dp ps xs ds h3 hp)
  | .lst ps, _, _, ⟨a, xs, h1, h2, h3⟩, e => by
    subst h1
    unfold toPy at e
    cases hp : toPys ps with
    | none => rw [hp] at e; cases e
    | some ds => rw [hp] at e; cases e; exact .lst (.of h2) (IsAll.dp ps xs ds h3 hp)
  | .frz ps, _, _, ⟨a, xs, h1, h2, h3⟩, e => by
    subst h1
    unfold toPy at e
    cases hp : toPys ps with
    | none => rw [hp] at e; cases e
    | some ds => rw [hp] at e; cases e; exact .lst h2 (IsAll.dp ps xs ds h3 hp)
  | .dic _ _, _, _, _, e => by cases e
  | .fn _, _, _, _, e => by cases e
  | .dn _ _, _, _, _, e => by cases e
  | .exn _ _ _ _ _, _, _, _, e => by cases e
  | .adr _, _, _, _, e => by cases e
theorem IsAll.dp : ∀ (ps : List P) (vs : List V) (ds : List PyData), IsAll K H ps vs → toPys ps = some ds → DpAll K H vs ds
  | [], _, _, h, e => by cases e; cases h; exact .nil
  | p :: ps, _, _, ⟨v, vs, h1, h2, h3⟩, e => by
    subst h1
    unfold toPys at e
    split at e
    · rename_i d ds hd hds
      cases e
      exact .cons (Is.dp p v d h2 hd) (IsAll.dp ps vs ds h3 hds)
    · cases e
end
end
def oP : Option P → Sto → Oc D
  | some q, S => .ok (.v q) S
  | none, _ => .bad
@[simp] theorem oP_some (q : P) (S : Sto) : oP (some q) S = .ok (.v q) S := rfl
@[simp] theorem oP_none (S : Sto) : oP none S = .bad := rfl
def lift1 (op : P → Option P) (d : D) (S : Sto) : Oc D := match deP S d with
  | some p => oP (op p) S
  | none => .bad
def lift2 (op : P → P → Option P) (d e : D) (S : Sto) : Oc D := match deP S d with
  | some p => match deP S e with
    | some q => oP (op p q) S
    | none => .bad
  | none => .bad
@[simp] theorem lift1_v (op : P → Option P) (p : P) (S : Sto) : lift1 op (.v p) S = oP (op p) S := rfl
@[simp] theorem lift2_v (op : P → P → Option P) (p q : P) (S : Sto) : lift2 op (.v p) (.v q) S = oP (op p q) S := rfl
def f1 (op : P → Option P) (f : FE) : FE := fun env S => (f env S).bind fun d S1 => lift1 op d S1
def f2 (op : P → P → Option P) (f g : FE) : FE := fun env S => (f env S).bind fun d S1 => (g env S1).bind fun e S2 => lift2 op d e S2
abbrev Kont (K : PySem.W.Frag) (m : Mp) (H : Hp) (S : Sto) (u : P) (Q : VK) : Prop := ∀ v m' H', Stp m H m' H' → Rel K m' H' S → Is K (mask m' H') u v → Q v H'
def Op1 (K : PySem.W.Frag) (r : V → Hp → VK → Prop) (op : P → Option P) : Prop :=
  ∀ m H S p u x Q, Rel K m H S → IsR K m H p x → op p = some u → Kont K m H S u Q → r x H Q
def Op2 (K : PySem.W.Frag) (r : R2) (op : P → P → Option P) : Prop :=
  ∀ m H S p q u x y Q, Rel K m H S → IsR K m H p x → IsR K m H q y → op p q = some u → Kont K m H S u Q → r x y H Q
theorem lift1_of {op : P → Option P} {d d' : D} {S S' : Sto} (h : lift1 op d S = .ok d' S') : ∃ p u, deP S d = some p ∧ op p = some u ∧ d' = .v u ∧ S' = S := by
  unfold lift1 at h
  cases e : deP S d with
  | none => rw [e] at h; cases h
  | some p =>
    rw [e] at h
    cases e2 : op p with
    | none => simp [e2] at h
    | some u => simp [e2] at h; exact ⟨p, u, rfl, e2, h.1.symm, h.2.symm⟩
theorem lift2_of {op : P → P → Option P} {d e d' : D} {S S' : Sto} (h : lift2 op d e S = .ok d' S') : ∃ p q u, deP S d = some p ∧ deP S e = some q ∧ op p q = some u ∧ d' = .v u ∧ S' = S := by
  unfold lift2 at h
  cases e1 : deP S d with
  | none => rw [e1] at h; cases h
  | some p =>
    rw [e1] at h
    cases e2 : deP S e with
    | none => rw [e2] at h; cases h
    | some q =>
      rw [e2] at h
      cases e3 : op p q with
      | none => simp [e3] at h
      | some u => simp [e3] at h; exact ⟨p, q, u, rfl, rfl, e3, h.1.symm, h.2.symm⟩
section
variable {K : PySem.W.Frag} {f g : FE} {σ : L2.St} {H : Hp} {Q : VK}
theorem td_op {r : R2} {op : P → P → Option P} (ho : Op2 K r op) (h : TD K (f2 op f g) σ H Q) : tOp r (TD K f) (TD K g) σ H Q := by
  obtain ⟨m, env, S, R, E, d', S', e1, q⟩ := h
  obtain ⟨d, S1, k1, e2⟩ := Oc.bind_eq e1
  obtain ⟨e, S2, k2, e3⟩ := Oc.bind_eq e2
  obtain ⟨p, p2, u, h1, h2, h3, rfl, rfl⟩ := lift2_of e3
  exact ⟨m, env, S, R, E, d, S1, k1, fun v m1 H1 st1 R1 i1 => ⟨m1, env, S1, R1, E.step st1, e, _, k2, fun w m2 H2 st2 R2 i2 =>
    ho m2 H2 _ p p2 u v w Q R2 (isR_of R2 (st2.is i1) h1) (isR_of R2 i2 h2) h3 fun x m3 H3 st3 R3 i3 => q x m3 H3 ((st1.trans st2).trans st3) R3 i3⟩⟩
theorem td_un {r : V → Hp → VK → Prop} {op : P → Option P} (ho : Op1 K r op) (h : TD K (f1 op f) σ H Q) : (TD K f) σ H fun x H1 => r x H1 Q := by
  obtain ⟨m, env, S, R, E, d', S', e1, q⟩ := h
  obtain ⟨d, S1, k1, e2⟩ := Oc.bind_eq e1
  obtain ⟨p, u, h1, h3, rfl, rfl⟩ := lift1_of e2
  exact ⟨m, env, S, R, E, d, _, k1, fun v m1 H1 st1 R1 i1 => ho m1 H1 _ p u v Q R1 (isR_of R1 i1 h1) h3 fun x m3 H3 st3 R3 i3 => q x m3 H3 (st1.trans st3) R3 i3⟩
end
theorem opr_or {X : Cx} {f : Value → Value → Sem Value} {r r' : R2} (h : OpR X f r) (h' : OpR X f r') : OpR X f (fun x y H Q => r x y H Q ∨ r' x y H Q) := by
  intro pins s σ H x y v u Q I rx ry q
  rcases q with q | q
  · exact h pins s σ H x y v u Q I rx ry q
  · exact h' pins s σ H x y v u Q I rx ry q
def pAdd : P → P → Option P
  | .int i, .int j => some (.int (i + j))
  | .str x, .str y => if x.length + y.length ≤ 100000 then some (.str (x ++ y)) else none
  | .tup a, .tup b => if a.length + b.length ≤ 100000 then some (.tup (a ++ b)) else none
  | .lst a, .lst b => if a.length + b.length ≤ 100000 then some (.lst (a ++ b)) else none
  | _, _ => none
def pSub : P → P → Option P
  | .int i, .int j => some (.int (i - j))
  | _, _ => none
def pMul : P → P → Option P
  | .int i, .int j => if -(2 ^ 64) < j ∧ j < 2 ^ 64 then some (.int (i * j)) else if -(2 ^ 64) < i ∧ i < 2 ^ 64 then some (.int (i * j)) else none
  | .lst a, .int k => if 0 ≤ k ∧ k ≤ 1000 ∧ a.length ≤ 100 then some (.lst (List.replicate k.toNat a).flatten) else none
  | .tup a, .int k => if a.length ≤ 1000 ∧ a ≠ [] ∧ 2 ≤ k ∧ k ≤ 1000 then some (.tup (List.replicate k.toNat a).flatten) else if k = 1 then some (.tup a) else if k = 0 ∧ a ≠ [] then some (.tup []) else none
  | _, _ => none
def pFdiv : P → P → Option P
  | .int i, .int j => if 0 < j ∧ j < 1073741824 then some (.int (i / j)) else none
  | _, _ => none
def pMod : P → P → Option P
  | .int i, .int j => if 0 < j then some (.int (i % j)) else none
  | _, _ => none
def pPow : P → P → Option P
  | .int i, .int j => if 0 ≤ j ∧ j ≤ 1000000 ∧ i.natAbs < 2 ^ 64 then some (.int (i ^ j.toNat)) else none
  | _, _ => none
def pNeg : P → Option P
  | .int i => some (.int (-i))
  | _ => none
theorem Kont.here {K : PySem.W.Frag} {m : Mp} {H : Hp} {S : Sto} {u : P} {Q : VK} {v : V} (k : Kont K m H S u Q) (R : Rel K m H S) (h : Is K (mask m H) u v) : Q v H := k v m H (Stp.refl m H) R h
section
variable {K : PySem.W.Frag}
theorem op2_int {C : Int → Int → Prop} {g : Int → Int → Int} {op : P → P → Option P} (h : ∀ p q u, op p q = some u → ∃ i j, p = .int i ∧ q = .int j ∧ C i j ∧ u = .int (g i j)) : Op2 K (rI C fun i j => .int (g i j)) op := by
  intro m H S p q u x y Q R hx hy e k
  obtain ⟨i, j, rfl, rfl, hc, rfl⟩ := h p q u e
  exact ⟨i, j, hx, hy, hc, k.here R rfl⟩
theorem op2_int0 {g : Int → Int → Int} {op : P → P → Option P} (h : ∀ p q u, op p q = some u → ∃ i j, p = .int i ∧ q = .int j ∧ u = .int (g i j)) : Op2 K (rI0 fun i j => .int (g i j)) op := by
  intro m H S p q u x y Q R hx hy e k
  obtain ⟨i, j, rfl, rfl, rfl⟩ := h p q u e
  exact ⟨i, j, hx, hy, k.here R rfl⟩
end
section
variable {X : Cx} {a b : Expr} {f g : FE} {pos : Pos}
abbrev rAddAll (K : PySem.W.Frag) : R2 := fun x y H Q => ((rI0 fun i j => .int (i + j)) x y H Q ∨ (∃ i j, x = .str i ∧ y = .str j ∧ i.length + j.length ≤ sizeLine ∧ Q (.str (i ++ j)) H)) ∨ (rCatA K x y H Q ∨ rCat x y H Q)
theorem opr_add : OpR X (binaryOp .Add) (rAddAll X.K) := opr_or (opr_or op_add op_add_str) (opr_or op_catA op_cat)
theorem op2_add {K : PySem.W.Frag} : Op2 K (rAddAll K) pAdd := by
  intro m H S p q u x y Q R hx hy e k
  unfold pAdd at e
  split at e
  · cases e
    exact .inl (.inl ⟨_, _, hx, hy, k.here R rfl⟩)
  · split at e
    · rename_i hl
      cases e
      exact .inl (.inr ⟨_, _, hx, hy, size_of hl, k.here R rfl⟩)
    · cases e
  · rename_i A B
    split at e
    · rename_i hl
      cases e
      obtain ⟨a, xs, rfl, hsx, hax⟩ := hx
      obtain ⟨b, ys, rfl, hsy, hay⟩ := hy
      refine .inr (.inl ⟨a, b, xs, ys, rfl, rfl, sqT_mono (mask_ex m H) hsx, sqT_mono (mask_ex m H) hsy, ?_, ?_, ?_, ?_⟩)
      · rw [← hax.len, ← hay.len]; exact size_of hl
      · intro hz
        subst hz
        have : A = [] := by have := hax.len; simpa using this
        subst this
        exact k.here R ⟨b, ys, rfl, hsy, hay⟩
      · intro _ hz
        subst hz
        have : B = [] := by have := hay.len; simpa using this
        subst this
        rw [List.append_nil] at k
        exact k.here R ⟨a, xs, rfl, hsx, hax⟩
      · exact fun _ _ => newTup R (hax.append hay) k
    · cases e
  · split at e
    · rename_i hl
      cases e
      obtain ⟨a, xs, rfl, hsx, hax⟩ := hx
      obtain ⟨b, ys, rfl, hsy, hay⟩ := hy
      exact .inr (.inr ⟨a, b, xs, ys, rfl, rfl, hsx, hsy, by rw [← hax.len, ← hay.len]; exact size_of hl, newLst R (hax.append hay) k⟩)
    · cases e
  · cases e
theorem d_add (ha : PEd X a f) (hb : PEd X b g) : PEd X (.BinOp a .Add b pos) (f2 pAdd f g) := pe_weak (pe_op opr_add ha hb) fun _ _ _ => td_op op2_add
theorem d_sub (ha : PEd X a f) (hb : PEd X b g) : PEd X (.BinOp a .Sub b pos) (f2 pSub f g) := pe_weak (pe_op op_sub ha hb) fun _ _ _ => td_op (op2_int0 (g := fun i j => i - j) fun p q u e => by
  unfold pSub at e
  split at e
  · cases e; exact ⟨_, _, rfl, rfl, rfl⟩
  · cases e)
abbrev rMulAll (K : PySem.W.Frag) : R2 := fun x y H Q => (rI CMul fun i j => .int (i * j)) x y H Q ∨ (rRep x y H Q ∨ (rRepT K x y H Q ∨ (ZM.rOne K x y H Q ∨ ZM.rZero K x y H Q)))
theorem all_flat {K : PySem.W.Frag} {G : Hp} {ps : List P} {xs : List V} (h : IsAll K G ps xs) : ∀ n : Nat, IsAll K G (List.replicate n ps).flatten (List.replicate n xs).flatten
  | 0 => rfl
  | n + 1 => by
    rw [List.replicate_succ, List.replicate_succ, List.flatten_cons, List.flatten_cons]
    exact h.append (all_flat h n)
theorem op2_mul {K : PySem.W.Frag} : Op2 K (rMulAll K) pMul := by
  intro m H S p q u x y Q R hx hy e k
  unfold pMul at e
  split at e
  · split at e
    · rename_i hc
      cases e
      exact .inl ⟨_, _, hx, hy, .inr hc, k.here R rfl⟩
    · split at e
      · rename_i hc
        cases e
        exact .inl ⟨_, _, hx, hy, .inl hc, k.here R rfl⟩
      · cases e
  · rename_i A n
    split at e
    · rename_i hc
      cases e
      obtain ⟨a, xs, rfl, hsx, hax⟩ := hx
      have hl := hax.len
      refine .inr (.inl ⟨a, n, xs, rfl, hy, hsx, by omega, by omega, ?_, ?_⟩)
      · refine Nat.le_trans (Nat.mul_le_mul (show xs.length ≤ 100 by omega) (show n.toNat ≤ 1000 by omega)) (by decide)
      · exact newLst R (all_flat hax n.toNat) k
    · cases e
  · rename_i A n
    split at e
    · rename_i hc
      cases e
      obtain ⟨a, xs, rfl, hsx, hax⟩ := hx
      have hl := hax.len
      refine .inr (.inr (.inl ⟨a, n, xs, rfl, hy, sqT_mono (mask_ex m H) hsx, ?_, by omega, by omega, by omega, newTup R (all_flat hax n.toNat) k⟩))
      intro hz
      subst hz
      exact hc.2.1 (by simpa using hl)
    · split at e
      · rename_i hn
        subst hn
        cases e
        obtain ⟨a, xs, rfl, hsx, hax⟩ := hx
        exact .inr (.inr (.inr (.inl ⟨a, xs, rfl, hy, sqT_mono (mask_ex m H) hsx, k.here R ⟨a, xs, rfl, hsx, hax⟩⟩)))
      · split at e
        · rename_i hn0 hc0
          obtain ⟨rfl, hne⟩ := hc0
          cases e
          obtain ⟨a, xs, rfl, hsx, hax⟩ := hx
          have hl := hax.len
          refine .inr (.inr (.inr (.inr ⟨a, xs, rfl, hy, sqT_mono (mask_ex m H) hsx, fun hz => ?_, newTup (ps := []) R rfl k⟩)))
          subst hz
          exact hne (by simpa using hl)
        · cases e
  · cases e
end
end DL
namespace DL
open PySem PySem.Spec PyProof.Rows L2
variable [Tb]
structure SX (X : Cx) : Prop where
  calm : X.calm = true
  nd : X.N.Nodup
  units : X.A.units + 200 < cLine
  guards : X.A.guards = some []
section
variable {X : Cx} {a b : Expr} {f g : FE} {pos : Pos}
theorem d_mul (ha : PEd X a f) (hb : PEd X b g) : PEd X (.BinOp a .Mult b pos) (f2 pMul f g) := pe_weak (pe_op (opr_or op_mul (opr_or op_rep (opr_or op_repT (opr_or ZM.op_one ZM.op_zero)))) ha hb) fun _ _ _ => td_op op2_mul
theorem d_fdiv (ha : PEd X a f) (hb : PEd X b g) : PEd X (.BinOp a .FloorDiv b pos) (f2 pFdiv f g) := pe_weak (pe_op op_fdiv ha hb) fun _ _ _ => td_op (op2_int (C := CDiv) (g := fun i j => i / j) fun p q u e => by
  unfold pFdiv at e
  split at e
  · split at e
    · rename_i h; cases e; exact ⟨_, _, rfl, rfl, h, rfl⟩
    · cases e
  · cases e)
theorem d_mod (ha : PEd X a f) (hb : PEd X b g) : PEd X (.BinOp a .Mod b pos) (f2 pMod f g) := pe_weak (pe_op op_mod ha hb) fun _ _ _ => td_op (op2_int (g := fun i j => i % j) fun p q u e => by
  unfold pMod at e
  split at e
  · split at e
    · rename_i h; cases e; exact ⟨_, _, rfl, rfl, h, rfl⟩
    · cases e
  · cases e)
theorem d_pow (ha : PEd X a f) (hb : PEd X b g) : PEd X (.BinOp a .Pow b pos) (f2 pPow f g) := pe_weak (pe_op op_pow ha hb) fun _ _ _ => td_op (op2_int (C := CPow) (g := fun i j => i ^ j.toNat) fun p q u e => by
  unfold pPow at e
  split at e
  · split at e
    · rename_i h; cases e; exact ⟨_, _, rfl, rfl, h, rfl⟩
    · cases e
  · cases e)
theorem d_neg (ha : PEd X a f) : PEd X (.UnaryOp .USub a pos) (f1 pNeg f) := pe_weak (pe_un un_neg ha) fun _ _ _ => td_un (r := rU fun i => .int (-i)) fun m H S p u x Q R hx e k => by
  unfold pNeg at e
  split at e
  · cases e; exact ⟨_, hx, k.here R rfl⟩
  · cases e
end
def pEq (p q : P) : Option P := match toPy p with
  | some d => match toPy q with
    | some e => if SeqAt.shaped d = true ∧ SeqAt.shaped e = true then some (.bl (PyData.eqv d e)) else none
    | none => none
  | none => none
def pNe (p q : P) : Option P := match toPy p with
  | some d => match toPy q with
    | some e => if SeqAt.shaped d = true ∧ SeqAt.shaped e = true then some (.bl (!PyData.eqv d e)) else none
    | none => none
  | none => none
def pIsN : P → P → Option P
  | .non, .non => some (.bl true)
  | _, .non => some (.bl false)
  | _, _ => none
def pNotN : P → P → Option P
  | .non, .non => some (.bl false)
  | _, .non => some (.bl true)
  | _, _ => none
def pLt : P → P → Option P
  | .int i, .int j => some (.bl (decide (i < j)))
  | .str x, .str y => some (.bl (decide (x.cps.toList < y.cps.toList)))
  | _, _ => none
def pLe : P → P → Option P
  | .int i, .int j => some (.bl (decide (i ≤ j)))
  | _, _ => none
def pGt : P → P → Option P
  | .int i, .int j => some (.bl (decide (j < i)))
  | _, _ => none
def pGe : P → P → Option P
  | .int i, .int j => some (.bl (decide (j ≤ i)))
  | _, _ => none
def pKey : P → Option Key
  | .int i => some (.inl i)
  | .str x => some (.inr x)
  | _ => none
def look (ks : List Key) (ps : List P) (k : Key) : Option P := ((ks.zip ps).find? fun kv => decide (kv.1 = k)).map (·.2)
def canD (d : PyData) : Bool := d.canLay0 && decide (d.depth ≤ 64)
def pInB (x : P) : P → Option Bool
  | .dic ks ps => match pKey x with
    | some k => some (look ks ps k).isSome
    | none => none
  | .str y => match x with
    | .str z => some (!(Builtin.Str.occurrences y z 0 y.length 1).isEmpty)
    | _ => none
  | c => match toPy c with
    | some (.list xs) => match toPy x with
      | some d => if PyData.canLayAll0 xs = true ∧ canD d = true then some (xs.any fun y => PyData.eqv y d) else none
      | none => none
    | some (.tuple xs) => match toPy x with
      | some d => if PyData.canLayAll0 xs = true ∧ canD d = true then some (xs.any fun y => PyData.eqv y d) else none
      | none => none
    | _ => none
def pIn (x c : P) : Option P := (pInB x c).map .bl
def pNotIn (x c : P) : Option P := (pInB x c).map fun b => .bl (!b)
section
variable {K : PySem.W.Frag} {X : Cx}
theorem op2_eq : Op2 K (rEqD K) pEq := by
  intro m H S p q u x y Q R hx hy e k
  unfold pEq at e
  split at e
  · rename_i d hd
    split at e
    · rename_i d2 hd2
      split at e
      · rename_i hs
        cases e
        exact ⟨d, d2, Is.dp p x d hx.is hd, Is.dp q y d2 hy.is hd2, hs.1, hs.2, k.here R rfl⟩
      · cases e
    · cases e
  · cases e
theorem op2_ne : Op2 K (rNeD K) pNe := by
  intro m H S p q u x y Q R hx hy e k
  unfold pNe at e
  split at e
  · rename_i d hd
    split at e
    · rename_i d2 hd2
      split at e
      · rename_i hs
        cases e
        exact ⟨d, d2, Is.dp p x d hx.is hd, Is.dp q y d2 hy.is hd2, hs.1, hs.2, k.here R rfl⟩
      · cases e
    · cases e
  · cases e
theorem pKey_is {m : Mp} {H : Hp} {p : P} {x : V} {k : Key} (h : IsR K m H p x) (e : pKey p = some k) : x = kV k := by
  unfold pKey at e
  split at e
  · cases e; exact h
  · cases e; exact h
  · cases e
theorem look_is {G : Hp} : ∀ {ks : List Key} {ps : List P} {xs : List V} {k : Key}, IsAll K G ps xs → (∀ p, look ks ps k = some p → ∃ v, valV (ks.zip xs) k = some v ∧ Is K G p v) ∧ ((look ks ps k).isSome = (valV (ks.zip xs) k).isSome)
  | [], ps, xs, k, h => ⟨fun p e => by simp [look] at e, by simp [look, valV]⟩
  | j :: ks, [], xs, k, h => by
    have h' : xs = [] := h
    subst h'
    exact ⟨fun p e => by simp [look] at e, by simp [look, valV]⟩
  | j :: ks, p :: ps, xs, k, ⟨v, vs, h1, h2, h3⟩ => by
    subst h1
    by_cases hj : j = k
    · have e1 : look (j :: ks) (p :: ps) k = some p := by simp [look, hj]
      have e2 : valV ((j :: ks).zip (v :: vs)) k = some v := by simp [valV, hj]
      rw [e1, e2]
      exact ⟨fun q e => by cases e; exact ⟨v, rfl, h2⟩, rfl⟩
    · have e1 : look (j :: ks) (p :: ps) k = look ks ps k := by simp [look, hj]
      have e2 : valV ((j :: ks).zip (v :: vs)) k = valV (ks.zip vs) k := by simp [valV, hj]
      rw [e1, e2]
      exact look_is h3
theorem opr_in (hX : SX X) : OpR X (compareOp .In) (fun x y H Q => (∃ a o, y = .ref a ∧ DGet H a x o ∧ Q (.bl o.isSome) H) ∨ (∃ i j, x = .str i ∧ y = .str j ∧ Q (.bl (!(Builtin.Str.occurrences j i 0 j.length 1).isEmpty)) H) ∨
    (∃ xs d, (Dp X.K H y (.list xs) ∨ Dp X.K H y (.tuple xs)) ∧ Dp X.K H x d ∧ PyData.canLayAll0 xs = true ∧ canD d = true ∧ Q (.bl (xs.any fun z => PyData.eqv z d)) H)) := by
  intro pins s σ H x y v u Q I rx ry h
  have hu := hX.units
  rcases h with ⟨a, o, rfl, hg, q⟩ | ⟨i, j, rfl, rfl, q⟩ | ⟨xs, d, hc, hd, h1, h2, q⟩
  · obtain rfl : u = Value.ref a := ry
    exact d_in (by omega) I hg rx fun s' I' => ⟨.bl o.isSome, H, I', rfl, q⟩
  · exact op_in_str pins s σ H _ _ v u Q I rx ry ⟨i, j, rfl, rfl, q⟩
  · obtain ⟨h3, h4⟩ := Bool.and_eq_true_iff.mp h2
    have h5 : d.depth ≤ 64 := of_decide_eq_true h4
    obtain ⟨bs, rd⟩ := Dp.reads I d x v hd rx
    rcases hc with hc | hc
    · obtain ⟨as, rc⟩ := Dp.reads I _ y u hc ry
      exact SeqAt.in_list_reads rc rd h1 h3 (by omega) ⟨.bl _, H, I, rfl, q⟩
    · obtain ⟨as, rc⟩ := Dp.reads I _ y u hc ry
      exact SeqAt.in_tuple_reads rc rd h1 h3 (by omega) ⟨.bl _, H, I, rfl, q⟩
theorem opr_notIn (hX : SX X) : OpR X (compareOp .NotIn) (fun x y H Q => (∃ a o, y = .ref a ∧ DGet H a x o ∧ Q (.bl (!o.isSome)) H) ∨ (∃ i j, x = .str i ∧ y = .str j ∧ Q (.bl (!(!(Builtin.Str.occurrences j i 0 j.length 1).isEmpty))) H) ∨
    (∃ xs d, (Dp X.K H y (.list xs) ∨ Dp X.K H y (.tuple xs)) ∧ Dp X.K H x d ∧ PyData.canLayAll0 xs = true ∧ canD d = true ∧ Q (.bl (!xs.any fun z => PyData.eqv z d)) H)) := by
  intro pins s σ H x y v u Q I rx ry h
  have hu := hX.units
  rcases h with ⟨a, o, rfl, hg, q⟩ | ⟨i, j, rfl, rfl, q⟩ | ⟨xs, d, hc, hd, h1, h2, q⟩
  · obtain rfl : u = Value.ref a := ry
    exact d_notIn (by omega) I hg rx fun s' I' => ⟨.bl (!o.isSome), H, I', rfl, q⟩
  · exact op_notIn_str pins s σ H _ _ v u Q I rx ry ⟨i, j, rfl, rfl, q⟩
  · obtain ⟨h3, h4⟩ := Bool.and_eq_true_iff.mp h2
    have h5 : d.depth ≤ 64 := of_decide_eq_true h4
    obtain ⟨bs, rd⟩ := Dp.reads I d x v hd rx
    rcases hc with hc | hc
    · obtain ⟨as, rc⟩ := Dp.reads I _ y u hc ry
      exact SeqAt.notIn_list_reads rc rd h1 h3 (by omega) ⟨.bl _, H, I, rfl, q⟩
    · obtain ⟨as, rc⟩ := Dp.reads I _ y u hc ry
      exact SeqAt.notIn_tuple_reads rc rd h1 h3 (by omega) ⟨.bl _, H, I, rfl, q⟩
theorem inB_is {m : Mp} {H : Hp} {p c : P} {x y : V} {b : Bool} (hx : IsR K m H p x) (hy : IsR K m H c y) (e : pInB p c = some b) :
    (∃ a o, y = .ref a ∧ DGet H a x o ∧ o.isSome = b) ∨ (∃ i j, x = .str i ∧ y = .str j ∧ (!(Builtin.Str.occurrences j i 0 j.length 1).isEmpty) = b) ∨
    (∃ xs d, (Dp K H y (.list xs) ∨ Dp K H y (.tuple xs)) ∧ Dp K H x d ∧ PyData.canLayAll0 xs = true ∧ canD d = true ∧ (xs.any fun z => PyData.eqv z d) = b) := by
  unfold pInB at e
  split at e
  · rename_i ks ps
    split at e
    · rename_i k hk
      cases e
      obtain ⟨a, xs, rfl, h1, h2, h3, h4⟩ := hy
      have ex := pKey_is hx hk
      subst ex
      refine .inl ⟨a, valV (ks.zip xs) k, rfl, DGet.k h1, ?_⟩
      exact (look_is h4).2.symm
    · cases e
  · rename_i z
    split at e
    · rename_i w
      cases e
      exact .inr (.inl ⟨w, z, hx, hy, rfl⟩)
    · cases e
  · split at e
    · rename_i xs hc
      split at e
      · rename_i d hd
        split at e
        · rename_i hs
          cases e
          exact .inr (.inr ⟨xs, d, .inl (Is.dp c y _ hy.is hc), Is.dp p x d hx.is hd, hs.1, hs.2, rfl⟩)
        · cases e
      · cases e
    · rename_i xs hc
      split at e
      · rename_i d hd
        split at e
        · rename_i hs
          cases e
          exact .inr (.inr ⟨xs, d, .inr (Is.dp c y _ hy.is hc), Is.dp p x d hx.is hd, hs.1, hs.2, rfl⟩)
        · cases e
      · cases e
    · cases e
end
section
variable {X : Cx} {a b : Expr} {f g : FE} {pos : Pos}
theorem d_eq (hX : SX X) (ha : PEd X a f) (hb : PEd X b g) : PEd X (.Compare a [.Eq] [b] pos) (f2 pEq f g) := pe_weak (pe_cmpR (op_eqD (by have := hX.units; omega)) ha hb (nobehind _ (by decide) (by decide))) fun _ _ _ => td_op op2_eq
theorem d_ne (hX : SX X) (ha : PEd X a f) (hb : PEd X b g) : PEd X (.Compare a [.NotEq] [b] pos) (f2 pNe f g) := pe_weak (pe_cmpR (op_neD (by have := hX.units; omega)) ha hb (nobehind _ (by decide) (by decide))) fun _ _ _ => td_op op2_ne
theorem d_in (hX : SX X) (ha : PEd X a f) (hb : PEd X b g) (hm : behindInMarks .In b = false := by rfl) : PEd X (.Compare a [.In] [b] pos) (f2 pIn f g) := pe_weak (pe_cmpR (opr_in hX) ha hb hm) fun _ _ _ => td_op fun m H S p q u x y Q R hx hy e k => by
  unfold pIn at e
  cases hb : pInB p q with
  | none => rw [hb] at e; cases e
  | some b =>
    rw [hb] at e
    cases e
    rcases inB_is hx hy hb with ⟨a, o, h1, h2, rfl⟩ | ⟨i, j, h1, h2, rfl⟩ | ⟨xs, d, h1, h2, h3, h4, rfl⟩
    · exact .inl ⟨a, o, h1, h2, k.here R rfl⟩
    · exact .inr (.inl ⟨i, j, h1, h2, k.here R rfl⟩)
    · exact .inr (.inr ⟨xs, d, h1, h2, h3, h4, k.here R rfl⟩)
theorem d_notIn (hX : SX X) (ha : PEd X a f) (hb : PEd X b g) (hm : behindInMarks .NotIn b = false := by rfl) : PEd X (.Compare a [.NotIn] [b] pos) (f2 pNotIn f g) := pe_weak (pe_cmpR (opr_notIn hX) ha hb hm) fun _ _ _ => td_op fun m H S p q u x y Q R hx hy e k => by
  unfold pNotIn at e
  cases hb : pInB p q with
  | none => rw [hb] at e; cases e
  | some b =>
    rw [hb] at e
    cases e
    rcases inB_is hx hy hb with ⟨a, o, h1, h2, rfl⟩ | ⟨i, j, h1, h2, rfl⟩ | ⟨xs, d, h1, h2, h3, h4, rfl⟩
    · exact .inl ⟨a, o, h1, h2, k.here R rfl⟩
    · exact .inr (.inl ⟨i, j, h1, h2, k.here R rfl⟩)
    · exact .inr (.inr ⟨xs, d, h1, h2, h3, h4, k.here R rfl⟩)
end
def truP : P → Option Bool
  | .non => some false
  | .bl b => some b
  | .int i => some (i != 0)
  | .str x => if x.length ≤ 100000 then some ((x.length : Int) != 0) else none
  | .tup ps => some (!ps.isEmpty)
  | .lst ps => some (!ps.isEmpty)
  | .frz ps => some (!ps.isEmpty)
  | .dic ks _ => some (!ks.isEmpty)
  | .fn _ => none
  | .dn _ _ => none
  | .exn _ _ _ _ _ => none
  | .adr _ => none
def fTru (f : FE) : FT := fun env S => (f env S).bind fun d S1 => match deP S1 d with
  | some p => match truP p with
    | some b => .ok b S1
    | none => .bad
  | none => .bad
def fAnd (f g : FT) : FT := fun env S => (f env S).bind fun b S1 => if b = true then g env S1 else .ok false S1
def fOr (f g : FT) : FT := fun env S => (f env S).bind fun b S1 => if b = true then .ok true S1 else g env S1
def fNot (f : FT) : FT := fun env S => (f env S).bind fun b S1 => .ok (!b) S1
def fIte (t : FT) (f g : FE) : FE := fun env S => (t env S).bind fun b S1 => if b = true then f env S1 else g env S1
theorem isEmpty_len {α β : Type} {xs : List α} {ys : List β} (h : xs.length = ys.length) : xs.isEmpty = ys.isEmpty := by
  cases xs <;> cases ys <;> simp at h ⊢
theorem truP_is {K : PySem.W.Frag} {m : Mp} {H : Hp} {p : P} {x : V} {b : Bool} (h : IsR K m H p x) (e : truP p = some b) : TruV K x H b := by
  cases p with
  | non => have h' : x = .non := h; subst h'; cases e; rfl
  | bl c => have h' : x = .bl c := h; subst h'; cases e; rfl
  | int i => have h' : x = .int i := h; subst h'; cases e; rfl
  | str y =>
    have h' : x = .str y := h
    subst h'
    have e : (if y.length ≤ 100000 then some ((y.length : Int) != 0) else none) = some b := e
    split at e
    · rename_i hl
      cases e
      exact ⟨size_of hl, rfl⟩
    · cases e
  | tup ps =>
    obtain ⟨a, xs, rfl, h1, h2⟩ := h
    cases e
    exact .inr (.inl ⟨xs, sqT_mono (mask_ex m H) h1, by rw [isEmpty_len h2.len]⟩)
  | lst ps =>
    obtain ⟨a, xs, rfl, h1, h2⟩ := h
    cases e
    exact .inl ⟨xs, .of h1, by rw [isEmpty_len h2.len]⟩
  | frz ps =>
    obtain ⟨a, xs, rfl, h1, h2⟩ := h
    cases e
    exact .inl ⟨xs, sqL_mono (mask_ex m H) h1, by rw [isEmpty_len h2.len]⟩
  | dic ks ps =>
    obtain ⟨a, xs, rfl, h1, h2, _, h4⟩ := h
    cases e
    refine .inr (.inr ⟨_, h1, ?_⟩)
    have : ks.length = (ks.zip xs).length := by rw [List.length_zip, h2, Nat.min_self]
    rw [isEmpty_len this]
  | fn y => cases e
  | dn ks ps => cases e
  | exn _ _ _ _ _ => cases e
  | adr _ => cases e
section
variable {X : Cx} {a b c : Expr} {rest : List Expr} {f g : FE} {t u : FT} {pos : Pos}
theorem d_tru (ha : PEd X a f) (he : ∀ whole, isTrue a X.env whole = (do let v ← whole; standAt a.pos; holding [v] (truthy v)) := by intro _; rfl) : PTd X a (fTru f) := pt_weak (pt_truth ha he) fun σ H Q ⟨m, env, S, R, E, b, S', e1, q⟩ => by
  obtain ⟨d, S1, k1, e2⟩ := Oc.bind_eq e1
  cases h1 : deP S1 d with
  | none => simp [h1] at e2
  | some p =>
    cases h2 : truP p with
    | none => simp [h1, h2] at e2
    | some b2 =>
      simp [h1, h2] at e2
      obtain ⟨rfl, rfl⟩ := e2
      exact ⟨m, env, S, R, E, d, S1, k1, fun v m1 H1 st1 R1 i1 => ⟨b2, truP_is (isR_of R1 i1 h1) h2, q m1 H1 st1 R1⟩⟩
theorem d_cmpT {op : CmpOp} {r : R2} {o : P → P → Option P} (ho : OpR X (compareOp op) r) (h2 : Op2 X.K r o) (hbl : ∀ p q u, o p q = some u → ∃ b, u = .bl b) (ha : PEd X a f) (hb : PEd X b g) (hm : behindInMarks op b = false) :
    PTd X (.Compare a [op] [b] pos) (fTru (f2 o f g)) := pt_weak (pt_cmpR ho ha hb hm) fun σ H Q ⟨m, env, S, R, E, b, S', e1, q⟩ => by
  obtain ⟨d, S1, k1, e2⟩ := Oc.bind_eq e1
  refine td_op (Q := fun x H' => ∃ k, x = .bl k ∧ Q k H') h2 ⟨m, env, S, R, E, d, S1, k1, fun v m1 H1 st1 R1 i1 => ?_⟩
  have k2 := k1
  unfold f2 at k2
  obtain ⟨d1, S2, _, k2⟩ := Oc.bind_eq k2
  obtain ⟨d2, S3, _, k2⟩ := Oc.bind_eq k2
  obtain ⟨p, p2, u, _, _, h3, rfl, rfl⟩ := lift2_of k2
  obtain ⟨b', rfl⟩ := hbl p p2 u h3
  have hv : v = .bl b' := i1
  have e3 : Oc.ok b' S1 = Oc.ok b S' := e2
  cases e3
  exact ⟨_, hv, q m1 H1 st1 R1⟩
theorem w_and1 (ha : PTd X a t) : PWd X (.BoolOp .And [a] pos) t := pw_and1 ha
theorem w_or1 (ha : PTd X a t) : PWd X (.BoolOp .Or [a] pos) t := pw_or1 ha
theorem w_and (ha : PTd X a t) (hb : PWd X (.BoolOp .And (b :: rest) pos) u) : PWd X (.BoolOp .And (a :: b :: rest) pos) (fAnd t u) := pw_weak (pw_and ha hb) fun σ H Q ⟨m, env, S, R, E, b, S', e1, q⟩ => by
  obtain ⟨c, S1, k1, e2⟩ := Oc.bind_eq e1
  refine ⟨m, env, S, R, E, c, S1, k1, fun m1 H1 st1 R1 => ?_⟩
  cases c with
  | true =>
    rw [if_pos rfl]
    exact ⟨m1, env, S1, R1, E.step st1, b, S', by simpa using e2, fun m2 H2 st2 R2 => q m2 H2 (st1.trans st2) R2⟩
  | false =>
    have e3 : Oc.ok false S1 = Oc.ok b S' := by simpa using e2
    cases e3
    rw [if_neg (by decide)]
    exact q m1 H1 st1 R1
theorem w_or (ha : PTd X a t) (hb : PWd X (.BoolOp .Or (b :: rest) pos) u) : PWd X (.BoolOp .Or (a :: b :: rest) pos) (fOr t u) := pw_weak (pw_or ha hb) fun σ H Q ⟨m, env, S, R, E, b, S', e1, q⟩ => by
  obtain ⟨c, S1, k1, e2⟩ := Oc.bind_eq e1
  refine ⟨m, env, S, R, E, c, S1, k1, fun m1 H1 st1 R1 => ?_⟩
  cases c with
  | false =>
    rw [if_neg (by decide)]
    exact ⟨m1, env, S1, R1, E.step st1, b, S', by simpa using e2, fun m2 H2 st2 R2 => q m2 H2 (st1.trans st2) R2⟩
  | true =>
    have e3 : Oc.ok true S1 = Oc.ok b S' := by simpa using e2
    cases e3
    rw [if_pos rfl]
    exact q m1 H1 st1 R1
theorem d_pt (h : PWd X a t) : PTd X a t := h.pt
theorem d_not (ha : PTd X a t) : PTd X (.UnaryOp .Not a pos) (fNot t) := pt_weak (pt_not ha) fun σ H Q ⟨m, env, S, R, E, b, S', e1, q⟩ => by
  obtain ⟨c, S1, k1, e2⟩ := Oc.bind_eq e1
  cases e2
  exact ⟨m, env, S, R, E, c, _, k1, fun m1 H1 st1 R1 => q m1 H1 st1 R1⟩
theorem d_ite (hc : PTd X c t) (ha : PEd X a f) (hb : PEd X b g) : PEd X (.IfExp c a b pos) (fIte t f g) := pe_weak (pe_ifExp hc ha hb) fun σ H Q ⟨m, env, S, R, E, d, S', e1, q⟩ => by
  obtain ⟨k, S1, k1, e2⟩ := Oc.bind_eq e1
  refine ⟨m, env, S, R, E, k, S1, k1, fun m1 H1 st1 R1 => ?_⟩
  cases k with
  | true =>
    rw [if_pos rfl]
    exact ⟨m1, env, S1, R1, E.step st1, d, S', by simpa using e2, fun v m2 H2 st2 R2 i2 => q v m2 H2 (st1.trans st2) R2 i2⟩
  | false =>
    rw [if_neg (by decide)]
    exact ⟨m1, env, S1, R1, E.step st1, d, S', by simpa using e2, fun v m2 H2 st2 R2 i2 => q v m2 H2 (st1.trans st2) R2 i2⟩
def asB (d : D) : Option Bool := match d with
  | .v (.bl b) => some b
  | _ => none
def fAndV (f g : FE) : FE := fun env S => (f env S).bind fun d S1 => match asB d with
  | some true => g env S1
  | some false => .ok (.v (.bl false)) S1
  | none => .bad
def fOrV (f g : FE) : FE := fun env S => (f env S).bind fun d S1 => match asB d with
  | some false => g env S1
  | some true => .ok (.v (.bl true)) S1
  | none => .bad
def fNotV (f : FE) : FE := fun env S => (f env S).bind fun d S1 => match asB d with
  | some b => .ok (.v (.bl (!b))) S1
  | none => .bad
theorem asB_is {d : D} {b : Bool} (h : asB d = some b) : d = .v (.bl b) := by
  unfold asB at h
  split at h
  · cases h; rfl
  · cases h
theorem d_one {op} (h : PEd X a f) : PEd X (.BoolOp op [a] pos) f := pe_one h
theorem d_andV (ha : PEd X a f) (hb : PEd X (.BoolOp .And (b :: rest) pos) g) : PEd X (.BoolOp .And (a :: b :: rest) pos) (fAndV f g) := pe_weak (pe_and ha hb) fun σ H Q ⟨m, env, S, R, E, d, S', e1, q⟩ => by
  obtain ⟨c, S1, k1, e2⟩ := Oc.bind_eq e1
  refine ⟨m, env, S, R, E, c, S1, k1, fun v m1 H1 st1 R1 i1 => ?_⟩
  cases hc : asB c with
  | none => simp [hc] at e2
  | some k =>
    have ec := asB_is hc
    subst ec
    have hv : v = .bl k := i1
    refine ⟨k, hv, ?_⟩
    cases k with
    | true =>
      rw [if_pos rfl]
      exact ⟨m1, env, S1, R1, E.step st1, d, S', by simpa [asB] using e2, fun v m2 H2 st2 R2 i2 => q v m2 H2 (st1.trans st2) R2 i2⟩
    | false =>
      have e3 : Oc.ok (D.v (.bl false)) S1 = Oc.ok d S' := by simpa [asB] using e2
      cases e3
      rw [if_neg (by decide)]
      exact q _ m1 H1 st1 R1 rfl
theorem d_orV (ha : PEd X a f) (hb : PEd X (.BoolOp .Or (b :: rest) pos) g) : PEd X (.BoolOp .Or (a :: b :: rest) pos) (fOrV f g) := pe_weak (pe_or ha hb) fun σ H Q ⟨m, env, S, R, E, d, S', e1, q⟩ => by
  obtain ⟨c, S1, k1, e2⟩ := Oc.bind_eq e1
  refine ⟨m, env, S, R, E, c, S1, k1, fun v m1 H1 st1 R1 i1 => ?_⟩
  cases hc : asB c with
  | none => simp [hc] at e2
  | some k =>
    have ec := asB_is hc
    subst ec
    have hv : v = .bl k := i1
    refine ⟨k, hv, ?_⟩
    cases k with
    | false =>
      rw [if_neg (by decide)]
      exact ⟨m1, env, S1, R1, E.step st1, d, S', by simpa [asB] using e2, fun v m2 H2 st2 R2 i2 => q v m2 H2 (st1.trans st2) R2 i2⟩
    | true =>
      have e3 : Oc.ok (D.v (.bl true)) S1 = Oc.ok d S' := by simpa [asB] using e2
      cases e3
      rw [if_pos rfl]
      exact q _ m1 H1 st1 R1 rfl
end
end DL
namespace DL
open PySem PySem.Spec PyProof.Rows L2
variable [Tb]
def pIx : P → P → Option P
  | .lst ps, .int i => atI ps i
  | .frz ps, .int i => atI ps i
  | .tup ps, .int i => atI ps i
  | .str z, .int i => if z.length ≤ 100000 then (atI z.cps.toList i).map fun c => .str ⟨#[c]⟩ else none
  | .dic ks ps, p => match pKey p with
    | some k => look ks ps k
    | none => none
  | _, _ => none
def cutL {α : Type} (xs : List α) (lo hi : Option Int) : List α := (xs.drop (HT.sIx xs.length 0 lo)).take (HT.sIx xs.length xs.length hi - HT.sIx xs.length 0 lo)
def pSl (p : P) (lo hi : Option Int) : Option P := match p with
  | .lst ps => some (.lst (cutL ps lo hi))
  | .frz ps => some (.lst (cutL ps lo hi))
  | .tup ps => some (.tup (cutL ps lo hi))
  | .str z => if z.length ≤ 100000 then some (.str (cutS z lo hi)) else none
  | _ => none
theorem atI_is {K : PySem.W.Frag} {G : Hp} {ps : List P} {xs : List V} {i : Int} {p : P} (h : IsAll K G ps xs) (e : atI ps i = some p) : ∃ v, atI xs i = some v ∧ Is K G p v := by
  unfold atI at e ⊢
  rw [← h.len]
  cases hx : ixN ps.length i with
  | none => rw [hx] at e; cases e
  | some j =>
    rw [hx] at e
    exact h.get (i := j) e
theorem ix_dict {X : Cx} (hu : X.A.units + 1 < cLine) : IxR X (fun x y H Q => ∃ a v, x = .ref a ∧ DGet H a y (some v) ∧ Q v H) := by
  intro value slice pins s σ H x y v u Q I rx ry h hs
  obtain ⟨a, z, rfl, hg, q⟩ := h
  obtain rfl : v = Value.ref a := rx
  exact tail_any (dict_typeIs I hg) PySem.F.slot_dict_getitem.lookup (d_getItem hu I hg ry fun w' s3 I3 rw' => ⟨z, H, I3, rw', q⟩) hs
abbrev rIxAll (K : PySem.W.Frag) : R2 := fun x y H Q => rIx K x y H Q ∨ ∃ a v, x = .ref a ∧ DGet H a y (some v) ∧ Q v H
theorem op2_ix {K : PySem.W.Frag} : Op2 K (rIxAll K) pIx := by
  intro m H S p q u x y Q R hx hy e k
  unfold pIx at e
  split at e
  · obtain ⟨a, xs, rfl, h1, h2⟩ := hx
    obtain ⟨v, h3, h4⟩ := atI_is h2 e
    exact .inl (.inl ⟨a, xs, _, v, rfl, hy, .of h1, h3, k.here R h4⟩)
  · obtain ⟨a, xs, rfl, h1, h2⟩ := hx
    obtain ⟨v, h3, h4⟩ := atI_is h2 e
    exact .inl (.inl ⟨a, xs, _, v, rfl, hy, sqL_mono (mask_ex m H) h1, h3, k.here R h4⟩)
  · obtain ⟨a, xs, rfl, h1, h2⟩ := hx
    obtain ⟨v, h3, h4⟩ := atI_is h2 e
    exact .inl (.inr (.inl ⟨a, xs, _, v, rfl, hy, sqT_mono (mask_ex m H) h1, h3, k.here R h4⟩))
  · rename_i z i
    split at e
    · rename_i hl
      cases hc : atI z.cps.toList i with
      | none => rw [hc] at e; cases e
      | some c =>
        rw [hc] at e
        cases e
        exact .inl (.inr (.inr ⟨z, i, c, hx, hy, size_of hl, hc, k.here R rfl⟩))
    · cases e
  · rename_i ks ps p2
    split at e
    · rename_i kk hk
      obtain ⟨a, xs, rfl, h1, h2, h3, h4⟩ := hx
      have ex := pKey_is hy hk
      subst ex
      obtain ⟨v, h5, h6⟩ := (look_is h4).1 u e
      exact .inr ⟨a, v, rfl, by rw [← h5]; exact DGet.k h1, k.here R h6⟩
    · cases e
  · cases e
theorem cut_is {K : PySem.W.Frag} {G : Hp} {ps : List P} {xs : List V} (h : IsAll K G ps xs) (lo hi : Option Int) : IsAll K G (cutL ps lo hi) (cutV xs lo hi) := by
  unfold cutL cutV
  rw [← h.len]
  exact (h.drop _).take _
abbrev FO := Dnv → Sto → Oc (Option Int)
def oNo : FO := fun _ S => .ok none S
def oAt (f : FE) : FO := fun env S => (f env S).bind fun d S1 => match d with
  | .v (.int i) => .ok (some i) S1
  | _ => .bad
def TDo (K : PySem.W.Frag) (f : FO) : TO := fun σ H Q => ∃ m env S, Rel K m H S ∧ EnvIs K m (mask m H) σ env ∧ ∃ o S', f env S = .ok o S' ∧ ∀ m' H', Stp m H m' H' → Rel K m' H' S' → Q o H'
theorem po_weak {X : Cx} {e : Option Expr} {t t' : TO} (h : PO X e t) (q : ∀ σ H Q, t' σ H Q → t σ H Q) : PO X e t' := ⟨fun pins s σ H Q I w => h.run pins s σ H Q I (q σ H Q w)⟩
def fSl (f : FE) (lo hi : FO) : FE := fun env S => (f env S).bind fun d S1 => (lo env S1).bind fun l S2 => (hi env S2).bind fun u S3 => match deP S3 d with
  | some p => oP (pSl p l u) S3
  | none => .bad
section
variable {X : Cx} {a b : Expr} {f g : FE} {pos p2 : Pos}
theorem d_ix (hX : SX X) (ha : PEd X a f) (hb : PEd X b g) (hs : PlainIx b := by intro _ _; rfl) : PEd X (.Subscript a b pos) (f2 pIx f g) := pe_weak (pe_ix (IxR.or ix_seq (ix_dict (by have := hX.units; omega))) ha hb hs) fun _ _ _ => td_op op2_ix
theorem o_no : PO X none (TDo X.K oNo) := po_weak po_none fun σ H Q ⟨m, env, S, R, E, o, S', e1, q⟩ => by
  cases e1
  exact q m H (Stp.refl m H) R
theorem o_at (h : PEd X a f) : PO X (some a) (TDo X.K (oAt f)) := po_weak (po_some h) fun σ H Q ⟨m, env, S, R, E, o, S', e1, q⟩ => by
  obtain ⟨d, S1, k1, e2⟩ := Oc.bind_eq e1
  refine ⟨m, env, S, R, E, d, S1, k1, fun v m1 H1 st1 R1 i1 => ?_⟩
  split at e2
  · cases e2
    exact ⟨_, i1, q m1 H1 st1 R1⟩
  · cases e2
theorem d_sl {lo hi : Option Expr} {l u : FO} (ha : PEd X a f) (hl : PO X lo (TDo X.K l)) (hu : PO X hi (TDo X.K u)) : PEd X (.Subscript a (.Slice lo hi none p2) pos) (fSl f l u) :=
  pe_weak (pe_slice (SlR.or sl_list (SlR.or sl_tupA sl_str)) ha hl hu) fun σ H Q ⟨m, env, S, R, E, d', S', e1, q⟩ => by
  obtain ⟨d, S1, k1, e2⟩ := Oc.bind_eq e1
  obtain ⟨lo, S2, k2, e3⟩ := Oc.bind_eq e2
  obtain ⟨hi, S3, k3, e4⟩ := Oc.bind_eq e3
  refine ⟨m, env, S, R, E, d, S1, k1, fun v m1 H1 st1 R1 i1 => ⟨m1, env, S1, R1, E.step st1, lo, S2, k2, fun m2 H2 st2 R2 => ⟨m2, env, S2, R2, (E.step st1).step st2, hi, S3, k3, fun m3 H3 st3 R3 => ?_⟩⟩⟩
  cases h1 : deP S3 d with
  | none => simp [h1] at e4
  | some p =>
    cases h2 : pSl p lo hi with
    | none => simp [h1, h2] at e4
    | some r =>
      simp [h1, h2] at e4
      obtain ⟨rfl, rfl⟩ := e4
      have st := (st1.trans st2).trans st3
      have hx := isR_of R3 (st3.is (st2.is i1)) h1
      have k : Kont X.K m3 H3 S3 r Q := fun w m4 H4 s4 R4 i4 => q w m4 H4 (st.trans s4) R4 i4
      unfold pSl at h2
      split at h2
      · cases h2
        obtain ⟨a, xs, rfl, h3, h4⟩ := hx
        exact .inl ⟨a, xs, rfl, .of h3, newLst R3 (cut_is h4 lo hi) k⟩
      · cases h2
        obtain ⟨a, xs, rfl, h3, h4⟩ := hx
        exact .inl ⟨a, xs, rfl, sqL_mono (mask_ex m3 H3) h3, newLst R3 (cut_is h4 lo hi) k⟩
      · cases h2
        obtain ⟨a, xs, rfl, h3, h4⟩ := hx
        refine .inr (.inl ⟨a, xs, rfl, sqT_mono (mask_ex m3 H3) h3, fun hw => ?_, fun _ => newTup R3 (cut_is h4 lo hi) k⟩)
        refine k.here R3 ⟨a, xs, rfl, h3, ?_⟩
        have : cutV xs lo hi = xs := by
          unfold cutV
          rw [hw.1, hw.2]
          simp
        rw [← this]
        exact cut_is h4 lo hi
      · split at h2
        · rename_i z hl
          cases h2
          exact .inr (.inr ⟨z, hx, size_of hl, k.here R3 rfl⟩)
        · cases h2
      · cases h2
end
abbrev FG := D → Dnv → Sto → Oc Dnv
abbrev FGs := List P → Dnv → Sto → Oc Dnv
def TDg (K : PySem.W.Frag) (g : FG) : TG := fun v σ H Q => ∃ m env S d, Rel K m H S ∧ EnvIs K m (mask m H) σ env ∧ IsD K m (mask m H) d v ∧ ∃ env' S', g d env S = .ok env' S' ∧ ∀ m' H' σ', Stp m H m' H' → Rel K m' H' S' → EnvIs K m' (mask m' H') σ' env' → Q σ' H'
def TDgs (K : PySem.W.Frag) (g : FGs) : TGs := fun vs σ H Q => ∃ m env S ps, Rel K m H S ∧ EnvIs K m (mask m H) σ env ∧ IsAll K (mask m H) ps vs ∧ ∃ env' S', g ps env S = .ok env' S' ∧ ∀ m' H' σ', Stp m H m' H' → Rel K m' H' S' → EnvIs K m' (mask m' H') σ' env' → Q σ' H'
abbrev PGd (X : Cx) (e : Expr) (g : FG) : Prop := PG X e (TDg X.K g)
abbrev PGsd (X : Cx) (es : List Expr) (g : FGs) : Prop := PGs X es (TDgs X.K g)
theorem pg_weak {X : Cx} {e : Expr} {t t' : TG} (h : PG X e t) (q : ∀ v σ H Q, t' v σ H Q → t v σ H Q) : PG X e t' := ⟨fun pins s σ H v u Q I r w => h.run pins s σ H v u Q I r (q v σ H Q w)⟩
theorem pgs_weak {X : Cx} {es : List Expr} {t t' : TGs} (h : PGs X es t) (q : ∀ v σ H Q, t' v σ H Q → t v σ H Q) : PGs X es t' := ⟨fun pins s σ H v u Q I r w => h.run pins s σ H v u Q I r (q v σ H Q w)⟩
def gNm (i : Nat) : FG := fun d env S => .ok (env.set i (some d)) S
def gNl : FGs := fun ps env S => match ps with
  | [] => .ok env S
  | _ :: _ => .bad
def gCn (g : FG) (k : FGs) : FGs := fun ps env S => match ps with
  | [] => .bad
  | p :: r => (g (.v p) env S).bind fun env1 S1 => k r env1 S1
def gTp (n : Nat) (k : FGs) : FG := fun d env S => match d with
  | .v (.tup ps) => if ps.length = n then k ps env S else .bad
  | _ => .bad
def putP (ks : List Key) (ps : List P) (k : Key) (p : P) : List Key × List P :=
  match ks, ps with
  | j :: ks, q :: ps => if j = k then (j :: ks, p :: ps) else ((j :: (putP ks ps k p).1), (q :: (putP ks ps k p).2))
  | _, _ => ([k], [p])
def setD (o i d : D) (S : Sto) : Option Sto := match o, i, d with
  | .r n, .v q, .v p => match S[n]? with
    | some (.lst ps) => match q with
      | .int k => (ixN ps.length k).map fun j => S.set n (.lst (ps.set j p))
      | _ => none
    | some (.dic ks ps) => match pKey q with
      | some k => if ks.length < 10000 then some (S.set n (.dic (putP ks ps k p).1 (putP ks ps k p).2)) else none
      | none => none
    | _ => none
  | _, _, _ => none
def gSb (fo fi : FE) : FG := fun d env S => (fo env S).bind fun o S1 => (fi env S1).bind fun i S2 => match setD o i d S2 with
  | some S3 => .ok env S3
  | none => .bad
theorem put_is {K : PySem.W.Frag} {G : Hp} {p : P} {v : V} {k : Key} (hp : Is K G p v) : ∀ {ks : List Key} {ps : List P} {xs : List V}, ks.length = xs.length → ks.Nodup → IsAll K G ps xs →
    ∃ ys, putK (ks.zip xs) k v = (putP ks ps k p).1.zip ys ∧ (putP ks ps k p).1.length = ys.length ∧ (putP ks ps k p).1.Nodup ∧ IsAll K G (putP ks ps k p).2 ys ∧ (∀ j, j ∈ (putP ks ps k p).1 ↔ (j ∈ ks ∨ j = k))
  | [], ps, xs, hl, hn, h => by
    have : xs = [] := by simpa using hl.symm
    subst this
    have : ps = [] := by have := h.len; simpa using this
    subst this
    exact ⟨[v], by simp [putK, putP], by simp [putP], by simp [putP], by simpa [putP] using IsAll.one hp, by simp [putP]⟩
  | j :: ks, [], xs, hl, hn, h => by
    have h' : xs = [] := h
    subst h'
    simp at hl
  | j :: ks, q :: ps, xs, hl, hn, ⟨w, ws, h1, h2, h3⟩ => by
    subst h1
    obtain ⟨hn1, hn2⟩ := List.nodup_cons.mp hn
    by_cases hj : j = k
    · subst hj
      have e0 : ∀ {ls : List Key} {zs : List V}, j ∉ ls → (ls.zip zs).map (fun kv => if kv.1 = j then (kv.1, v) else kv) = ls.zip zs := fun {ls zs} hx => by
        conv => rhs; rw [← List.map_id (ls.zip zs)]
        refine List.map_congr_left fun kv hkv => ?_
        rw [if_neg]
        · rfl
        · intro e
          exact hx (e ▸ (List.of_mem_zip (a := kv.1) (b := kv.2) hkv).1)
      refine ⟨v :: ws, ?_, by simpa [putP] using hl, by simpa [putP] using hn, ?_, fun i => by simp only [putP, if_pos, List.mem_cons]; constructor <;> (intro h; rcases h with h | h) <;> simp_all⟩
      · simp [putK, putP]
        exact e0 hn1
      · simp only [putP, if_pos]
        exact ⟨v, ws, rfl, hp, h3⟩
    · obtain ⟨ys, a1, a2, a3, a4, a5⟩ := put_is (k := k) hp (ks := ks) (ps := ps) (xs := ws) (by simpa using hl) hn2 h3
      refine ⟨w :: ys, ?_, by simp [putP, hj, a2], ?_, ?_, ?_⟩
      · simp only [putP, if_neg hj, List.zip_cons_cons]
        rw [← a1]
        simp only [putK, List.any_cons, List.map_cons, hj, decide_false, Bool.false_or, if_false]
        split <;> simp
      · simp only [putP, if_neg hj]
        refine List.nodup_cons.mpr ⟨fun hm => ?_, a3⟩
        rcases (a5 j).mp hm with z | z
        · exact hn1 z
        · exact hj z
      · simp only [putP, if_neg hj]
        exact ⟨w, ys, rfl, h2, a4⟩
      · intro i
        simp only [putP, if_neg hj, List.mem_cons, a5]
        constructor
        · rintro (h | h | h)
          · exact .inl (.inl h)
          · exact .inl (.inr h)
          · exact .inr h
        · rintro ((h | h) | h)
          · exact .inl h
          · exact .inr (.inl h)
          · exact .inr (.inr h)
section
variable {X : Cx} {pos : Pos}
theorem set_dict (hu : X.A.units + 1 < cLine) : PSet X (fun o i v H Q => ∃ a H', o = .ref a ∧ DPut H a i v H' ∧ Q H') := by
  intro pins s σ H o i v ov iv u Q I ro ri rv h
  obtain ⟨a, H', rfl, hp, q⟩ := h
  obtain rfl : ov = Value.ref a := ro
  exact d_setItem hu I hp ri rv fun s' I' => ⟨H', I', q⟩
theorem pset_or {t t' : TSet} (h : PSet X t) (h' : PSet X t') : PSet X (fun o i v H Q => t o i v H Q ∨ t' o i v H Q) := by
  intro pins s σ H o i v ov iv u Q I ro ri rv q
  rcases q with q | q
  · exact h pins s σ H o i v ov iv u Q I ro ri rv q
  · exact h' pins s σ H o i v ov iv u Q I ro ri rv q
theorem g_nm (hX : SX X) {i : Nat} {x : Str} (hi : X.N[i]? = some x := by rfl) (hx : Loc X.env.scope x := by first | exact .inl rfl | exact .inr rfl) (hf : X.fn x = true ∨ X.env.scope.names.lookup x = some .local := by first | exact .inl rfl | exact .inr rfl | assumption) : PGd X (.Name x pos) (gNm i) :=
  pg_weak (pg_name hX.nd hi hx hf) fun v σ H Q ⟨m, env, S, d, R, E, i1, env', S', e1, q⟩ => by
  cases e1
  exact q m H _ (Stp.refl m H) R (E.set i1)
theorem g_nl : PGsd X [] gNl := pgs_weak pgs_nil fun vs σ H Q ⟨m, env, S, ps, R, E, i1, env', S', e1, q⟩ => by
  cases ps with
  | nil =>
    cases e1
    exact ⟨i1, q m H σ (Stp.refl m H) R E⟩
  | cons p r => cases e1
theorem g_cn {e : Expr} {es : List Expr} {g : FG} {k : FGs} (h1 : PGd X e g) (h2 : PGsd X es k) (hs : (assignEach (e :: es) X.env).map (·.2) = assign e X.env :: (assignEach es X.env).map (·.2) := by rfl) : PGsd X (e :: es) (gCn g k) :=
  pgs_weak (pgs_cons h1 h2 hs) fun vs σ H Q ⟨m, env, S, ps, R, E, i1, env', S', e1, q⟩ => by
  cases ps with
  | nil => cases e1
  | cons p r =>
    obtain ⟨v, ws, rfl, h3, h4⟩ := i1
    obtain ⟨env1, S1, k1, e2⟩ := Oc.bind_eq e1
    exact ⟨v, ws, rfl, m, env, S, .v p, R, E, h3, env1, S1, k1, fun m1 H1 σ1 st1 R1 E1 => ⟨m1, env1, S1, r, R1, E1, st1.all h4, env', S', e2, fun m2 H2 σ2 st2 R2 E2 => q m2 H2 σ2 (st1.trans st2) R2 E2⟩⟩
theorem g_tp (hX : SX X) {es : List Expr} {k : Nat} {t : FGs} {n : Nat} (h : PGsd X es t) (hn : (assignEach es X.env).length = n := by rfl) (hst : (assignEach es X.env).findIdx? (·.1) = none := by rfl) : PGd X (.Tuple es k pos) (gTp n t) :=
  pg_weak (pg_tup hX.calm h hn hst) fun v σ H Q ⟨m, env, S, d, R, E, i1, env', S', e1, q⟩ => by
  unfold gTp at e1
  split at e1
  · rename_i ps
    split at e1
    · rename_i hl
      obtain ⟨a, xs, rfl, h1, h2⟩ := i1
      exact ⟨a, xs, rfl, sqT_mono (mask_ex m H) h1, by rw [← h2.len]; exact hl, m, env, S, ps, R, E, h2, env', S', e1, q⟩
    · cases e1
  · cases e1
theorem g_sb (hX : SX X) {o i : Expr} {fo fi : FE} (ho : PEd X o fo) (hi : PEd X i fi)
    (ha : ∀ v, assign (.Subscript o i pos) X.env v = (do
      let ov ← holding [v] (eval o X.env)
      let iv ← holding [v, ov] (eval i X.env)
      standAt pos
      holding [v, ov, iv] (setItem ov iv v)
      release [v, ov, iv] []) := by intro _; rfl) : PGd X (.Subscript o i pos) (gSb fo fi) :=
  pg_weak (pg_sub ho hi (pset_or set_list (set_dict (by have := hX.units; omega))) ha) fun v σ H Q ⟨m, env, S, d, R, E, i1, env', S', e1, q⟩ => by
  obtain ⟨od, S1, k1, e2⟩ := Oc.bind_eq e1
  obtain ⟨ind, S2, k2, e3⟩ := Oc.bind_eq e2
  refine ⟨m, env, S, R, E, od, S1, k1, fun ov m1 H1 st1 R1 j1 => ⟨m1, env, S1, R1, E.step st1, ind, S2, k2, fun iv m2 H2 st2 R2 j2 => ?_⟩⟩
  cases hs : setD od ind d S2 with
  | none => rw [hs] at e3; cases e3
  | some S3 =>
    rw [hs] at e3
    cases e3
    have st := st1.trans st2
    have i2 := st.is i1
    have o2 := st2.is j1
    unfold setD at hs
    split at hs
    · rename_i n qi p
      obtain ⟨a, rfl, h3⟩ := o2
      have hp : Is X.K (mask m2 H2) p v := i2
      have hq : Is X.K (mask m2 H2) qi iv := j2
      split at hs
      · rename_i ps hS
        split at hs
        · rename_i k
          have hk : iv = .int k := hq
          cases hj : ixN ps.length k with
          | none => rw [hj] at hs; cases hs
          | some j =>
            rw [hj] at hs
            cases hs
            obtain ⟨xs, h4, h5⟩ := R2.ob n a _ h3 hS
            obtain ⟨R3, st3⟩ := R2.write (o := .lst (xs.set j v)) (x := .lst (ps.set j p)) h3 fun H' s' e' => ⟨_, e', (by exact (s'.all h5).set (s'.val hp))⟩
            exact .inl ⟨a, xs, k, j, rfl, hk, h4, by rw [← h5.len]; exact hj, q _ _ _ (st.trans st3) R3 (E.step (st.trans st3))⟩
        · cases hs
      · rename_i ks ps hS
        split at hs
        · rename_i kk hkk
          split at hs
          · rename_i hlen
            cases hs
            obtain ⟨xs, h4, h5, h6, h7⟩ := R2.ob n a _ h3 hS
            have ek : iv = kV kk := pKey_is (isR_val hq) hkk
            obtain ⟨ys, b1, b2, b3, b4, _⟩ := put_is (k := kk) hp h5 h6 h7
            obtain ⟨R3, st3⟩ := R2.write (o := .dK (putK (ks.zip xs) kk v)) (x := .dic (putP ks ps kk p).1 (putP ks ps kk p).2) h3 fun H' s' e' => ⟨ys, by rw [e', b1], b2, b3, s'.all b4⟩
            refine .inr ⟨a, _, rfl, ?_, q _ _ _ (st.trans st3) R3 (E.step (st.trans st3))⟩
            rw [ek]
            exact DPut.k h4 (by rw [List.length_zip, h5, Nat.min_self, ← h5]; exact Nat.lt_of_lt_of_le hlen (by decide))
          · cases hs
        · cases hs
      · cases hs
    · cases hs
end
end DL
namespace DL
open PySem PySem.Spec PyProof.Rows L2
def NKat (d : Addr) (n : Nat) (H : Hp) : Prop := ∃ hs kv xs, H d = some (NDo d hs kv xs) ∧ hs.length = n ∧ kv.length = n ∧ xs.length = n
def NKof (d : Addr) (n : Nat) (H : Hp) (p : List V → List V → Prop) : Prop := ∀ hs kv xs, H d = some (NDo d hs kv xs) → hs.length = n → kv.length = n → xs.length = n → p kv xs
def Itnk (d : Addr) (n : Nat) : It := ⟨fun i H => NKat d n H ∧ i < n, fun i H x H' => H' = H ∧ NKof d n H fun kv _ => kv[i]? = some x, fun i H => NKat d n H ∧ n ≤ i⟩
section
variable {X : Cx} {pins : List (Addr × Obj)} {σ : L2.St} {H : Hp} {s : Shared} {d : Addr} {n : Nat}
theorem NKat.raw (I : Inv X pins σ H s) (h : NKat d n H) : ∃ es : Array DictEntry, (d == sysModules) = false ∧ s.heap.DictRaw d es es.size ∧ es.size = n ∧
    NKof d n H fun kv xs => ∀ i (hi : i < es.size), (∃ k, kv[i]? = some k ∧ RelV k es[i].key) ∧ ∃ v, xs[i]? = some v ∧ RelV v es[i].val := by
  have main : ∀ hs kv xs, H d = some (NDo d hs kv xs) → hs.length = n → kv.length = n → xs.length = n → ∃ es : Array DictEntry, (d == sysModules) = false ∧ s.heap.DictRaw d es es.size ∧ es.size = n ∧
      ∀ i (hi : i < es.size), (∃ k, kv[i]? = some k ∧ RelV k es[i].key) ∧ ∃ v, xs[i]? = some v ∧ RelV v es[i].val := fun hs kv xs e l1 l2 l3 => by
    obtain ⟨⟨o, es, us, vs, h1, h2, h3, h4, h5, h6, h7⟩, _⟩ := I.hok d _ e
    have l4 := h5.length
    have l5 := h6.length
    have hz : es.size = n := by
      rw [← Array.length_toList, h7, List.length_map, List.length_zip, List.length_zip]
      omega
    refine ⟨es, h4, ⟨o, h1, h2, h3⟩, hz, fun i hi => ?_⟩
    have hi2 : i < n := by omega
    have q : es[i] = ⟨hs[i]'(by omega), us[i]'(by omega), vs[i]'(by omega)⟩ := by
      have : es[i] = es.toList[i]'(by simpa using hi) := by simp
      rw [this]
      simp only [h7, List.getElem_map, List.getElem_zip]
    rw [q]
    obtain ⟨u, u1, u2⟩ := h5.get (List.getElem?_eq_getElem (l := kv) (i := i) (by omega))
    obtain ⟨w, w1, w2⟩ := h6.get (List.getElem?_eq_getElem (l := xs) (i := i) (by omega))
    rw [List.getElem?_eq_getElem (by omega)] at u1 w1
    exact ⟨⟨kv[i]'(by omega), List.getElem?_eq_getElem (by omega), by rw [Option.some.inj u1]; exact u2⟩, ⟨xs[i]'(by omega), List.getElem?_eq_getElem (by omega), by rw [Option.some.inj w1]; exact w2⟩⟩
  obtain ⟨hs, kv, xs, e, l1, l2, l3⟩ := h
  obtain ⟨es, e1, e2, e3, e4⟩ := main hs kv xs e l1 l2 l3
  refine ⟨es, e1, e2, e3, fun hs' kv' xs' e' l1' l2' l3' => ?_⟩
  obtain ⟨es', f1, f2, f3, f4⟩ := main hs' kv' xs' e' l1' l2' l3'
  have : es' = es := by
    obtain ⟨o, o1, o2, o3⟩ := e2
    obtain ⟨o', p1, p2, p3⟩ := f2
    rw [o1] at p1
    cases p1
    rw [o3] at p3
    cases p3
    rfl
  subst this
  exact f4
end
section
variable {P : Program} {w : World} {K : PySem.W.Frag} {tg : Expr} {d : Addr} {n : Nat}
theorem turn_nk (it : Addr) : Turn P w K tg (Itnk d n) [it] it (fun i h => h.IsKeyIter it d i n n) where
  mem := by simp
  obj := fun i h st b hb => by
    have e : b = it := by simpa using hb
    subst e
    obtain ⟨oi, e, c, dd⟩ := st
    exact ⟨oi, e, fun v z => by rw [dd] at z; cases z⟩
  keep := fun i h h' st k => st.at fun oi e => k it (by simp) oi e
  item := by
    intro X hP hw hK hc i pins s σ H E I hf st hg
    subst hP hw hK
    obtain ⟨hd, hi⟩ := hg
    obtain ⟨f0, f1, f2, f3, f4, f5⟩ := hf it (by simp)
    obtain ⟨es, hs, hr, hz, hk⟩ := hd.raw I
    subst hz
    obtain ⟨hs0, kv0, xs0, q1, q2, q3, q4⟩ := id hd
    obtain ⟨⟨k, k1, k2⟩, _⟩ := hk _ _ _ q1 q2 q3 q4 i hi
    refine wpAny_pyNext_keys_item_raw st hr hi fun h' st' sb => ?_
    have I1 : Inv X pins σ H { s with heap := h' } := I.turned (t' := s.toks) (fun b ob hb e => (sb.2 b hb).trans e) f0 f1 f3 f4 f5
    obtain ⟨oi, e, c, dd⟩ := id st'
    refine ⟨es[i].key, rfl, go_of (s := { s with heap := h' }) e c dd (by decide) ⟨k, H, I1, k2, ⟨rfl, fun hs2 kv2 xs2 p1 p2 p3 p4 => ?_⟩, st', fun b hb => (hf b hb).1⟩⟩
    obtain ⟨⟨k', m1, m2⟩, _⟩ := hk _ _ _ p1 p2 p3 p4 i hi
    rw [m1, RelV.inj m2 k2]
  done := by
    intro X hP hw hK hc i pins s σ H E I hf st hg
    subst hP hw hK
    obtain ⟨hd, hi⟩ := hg
    obtain ⟨f0, f1, f2, f3, f4, f5⟩ := hf it (by simp)
    obtain ⟨es, hs, hr, hz, hk⟩ := hd.raw I
    subst hz
    exact wpAny_pyNext_keys_end_raw (I.ok.hd hc) st hr hi fun h' eb => ⟨rfl, I.turned (t' := s.toks) (fun b ob hb e => eb b ob hb e) f0 f1 f3 f4 f5⟩
  self := fun A i s Q E st h => wpAny_pyIter_keyiter st h
end
end DL
namespace DL
open PySem PySem.Spec PyProof.Rows L2
variable [Tb]
def Oc.fl {α : Type} : Oc α → (α → Sto → Flo) → Flo
  | .ok a S, f => f a S
  | .bad, _ => .bad
@[simp] theorem Oc.fl_ok {α : Type} (a : α) (S : Sto) (f : α → Sto → Flo) : (Oc.ok a S).fl f = f a S := rfl
@[simp] theorem Oc.fl_bad {α : Type} (f : α → Sto → Flo) : (Oc.bad : Oc α).fl f = .bad := rfl
def fNext : FS := fun env S => .nx env S
def Flo.seq : Flo → FS → Flo
  | .nx env S, g => g env S
  | f, _ => f
@[simp] theorem Flo.seq_nx (env : Dnv) (S : Sto) (g : FS) : (Flo.nx env S).seq g = g env S := rfl
@[simp] theorem Flo.seq_rt (d : D) (S : Sto) (g : FS) : (Flo.rt d S).seq g = .rt d S := rfl
@[simp] theorem Flo.seq_bad (g : FS) : Flo.bad.seq g = .bad := rfl
@[simp] theorem Flo.seq_bk (env : Dnv) (S : Sto) (g : FS) : (Flo.bk env S).seq g = .bk env S := rfl
@[simp] theorem Flo.seq_ct (env : Dnv) (S : Sto) (g : FS) : (Flo.ct env S).seq g = .ct env S := rfl
def fSeq (f g : FS) : FS := fun env S => (f env S).seq g
def fSet (f : FE) (g : FG) : FS := fun env S => (f env S).fl fun d S1 => (g d env S1).fl fun env2 S2 => .nx env2 S2
def fDrop (f : FE) : FS := fun env S => (f env S).fl fun _ S1 => .nx env S1
def fRet (f : FE) : FS := fun env S => (f env S).fl fun d S1 => .rt d S1
def fIf (t : FT) (f g : FS) : FS := fun env S => (t env S).fl fun b S1 => if b = true then f env S1 else g env S1
def fNever : FS := fun _ _ => .bad
theorem Oc.fl_ne {α : Type} {K : PySem.W.Frag} {m : Mp} {H : Hp} {E : Ends} {o : Oc α} {f : α → Sto → Flo} (h : FloOk K m H E (o.fl f)) : ∃ a S, o = .ok a S ∧ FloOk K m H E (f a S) := by
  cases o with
  | ok a S => exact ⟨a, S, rfl, h⟩
  | bad => exact h.elim
section
variable {X : Cx} {e : Expr} {st : Stmt} {rest : List Stmt} {f : FE} {g : FG} {a b : FS} {t : FT} {pos : Pos}
theorem s_nil : PSsd X [] fNext := pss_weak pss_nil fun D σ H ⟨m, env, S, R, E, q⟩ => q m H σ (Stp.refl m H) R E
theorem seq_ok {K : PySem.W.Frag} {m : Mp} {H : Hp} {D : Ends} {r : Flo} {g : FS} (h : FloOk K m H D (r.seq g)) : FloOk K m H { D with nx := TDs K g D } r := by
  cases r with
  | nx env S => exact fun m' H' σ st R E => ⟨m', env, S, R, E, h.step st⟩
  | rt d S => exact h
  | bk env S => exact h
  | ct env S => exact h
  | bad => exact h
theorem s_cons (h1 : PSd X st a) (h2 : PSsd X rest b) : PSsd X (st :: rest) (fSeq a b) := pss_weak (pss_cons h1 h2) fun D σ H ⟨m, env, S, R, E, q⟩ => ⟨m, env, S, R, E, seq_ok q⟩
theorem s_one (h1 : PSd X st a) : PSsd X [st] a := pss_one h1
theorem s_never : PSd X st fNever := ps_weak (ps_never (st := st)) fun D σ H ⟨m, env, S, R, E, q⟩ => q
theorem s_drop (he : PEd X e f) (hs : swapsWith e none pos.line X.env = pure false := by rfl) : PSd X (.Expr e pos) (fDrop f) := ps_weak (ps_expr he hs) fun D σ H ⟨m, env, S, R, E, q⟩ => by
  obtain ⟨d, S1, k1, q⟩ := Oc.fl_ne q
  exact ⟨m, env, S, R, E, d, S1, k1, fun v m1 H1 st1 R1 i1 => q m1 H1 σ st1 R1 (E.step st1)⟩
theorem s_ret (he : PEd X e f) : PSd X (.Return (some e) pos) (fRet f) := ps_weak (ps_ret he) fun D σ H ⟨m, env, S, R, E, q⟩ => by
  obtain ⟨d, S1, k1, q⟩ := Oc.fl_ne q
  exact ⟨m, env, S, R, E, d, S1, k1, fun v m1 H1 st1 R1 i1 => q v m1 H1 st1 R1 i1⟩
theorem s_if {c : Expr} {s1 s2 : List Stmt} (hc : PTd X c t) (ha : PSsd X s1 a) (hb : PSsd X s2 b) : PSd X (.If c s1 s2 pos) (fIf t a b) := ps_weak (ps_if hc ha hb) fun D σ H ⟨m, env, S, R, E, q⟩ => by
  obtain ⟨k, S1, k1, q⟩ := Oc.fl_ne q
  refine ⟨m, env, S, R, E, k, S1, k1, fun m1 H1 st1 R1 => ?_⟩
  cases k with
  | true =>
    rw [if_pos rfl] at q ⊢
    exact ⟨m1, env, S1, R1, E.step st1, q.step st1⟩
  | false =>
    rw [if_neg (by decide)] at q ⊢
    exact ⟨m1, env, S1, R1, E.step st1, q.step st1⟩
theorem asg_ok {K : PySem.W.Frag} {D : Ends} {σ : L2.St} {H : Hp} (h : TDs K (fSet f g) D σ H) : tAsg (TD K f) (TDg K g) D σ H := by
  obtain ⟨m, env, S, R, E, q⟩ := h
  obtain ⟨d, S1, k1, q⟩ := Oc.fl_ne q
  obtain ⟨env2, S2, k2, q⟩ := Oc.fl_ne q
  exact ⟨m, env, S, R, E, d, S1, k1, fun v m1 H1 st1 R1 i1 => ⟨m1, env, S1, d, R1, E.step st1, i1, env2, S2, k2, fun m2 H2 σ2 st2 R2 E2 => q m2 H2 σ2 (st1.trans st2) R2 E2⟩⟩
theorem s_asg {tg : Expr} (he : PEd X e f) (hg : PGd X tg g) (hs : swapsWithSole [tg] e pos.line X.env = pure false := by rfl) (hw : swappedStores [tg] e X.env = pure none := by rfl)
    (h1 : (assignEach [tg] X.env).map (·.2) = [assign tg X.env] := by rfl) : PSd X (.Assign [tg] e pos) (fSet f g) := ps_weak (ps_asg he hg hs hw h1) fun D σ H h => asg_ok h
def fPar (i j : Nat) (g : FA) : FS := fun env S => (g env S).fl fun ds S1 => match ds with
  | [d, e] => .nx ((env.set i (some d)).set j (some e)) S1
  | _ => .bad
theorem s_par (hX : SX X) {i j : Nat} {x y : Str} {a b : Expr} {g : FA} {px py pt : Pos} {kt k2 pt2} (ha : PAd X [a, b] g)
    (hw : swappedStores [.Tuple [.Name x px, .Name y py] kt pt] (.Tuple [a, b] k2 pt2) X.env = pure (some [x, y]) := by rfl)
    (hi : X.N[i]? = some x := by rfl) (hj : X.N[j]? = some y := by rfl) (hij : i ≠ j := by decide)
    (hx : X.env.scope.names.lookup x = some .local := by rfl) (hy : X.env.scope.names.lookup y = some .local := by rfl)
    (hs : swapsWithSole [.Tuple [.Name x px, .Name y py] kt pt] (.Tuple [a, b] k2 pt2) pos.line X.env = pure false := by rfl) :
    PSd X (.Assign [.Tuple [.Name x px, .Name y py] kt pt] (.Tuple [a, b] k2 pt2) pos) (fPar i j g) := ps_weak (ps_par hX.calm hX.nd hi hj hij hx hy ha hw hs) fun D σ H ⟨m, env, S, R, E, q⟩ => by
  obtain ⟨ds, S1, k1, q⟩ := Oc.fl_ne q
  refine ⟨m, env, S, R, E, ds, S1, k1, fun vs m1 H1 st1 R1 i1 => ?_⟩
  split at q
  · obtain ⟨v, ws, rfl, h2, h3⟩ := i1
    obtain ⟨w, ws, rfl, h4, h5⟩ := h3
    have h5' : ws = [] := h5
    subst h5'
    exact ⟨v, w, rfl, q m1 H1 _ st1 R1 (((E.step st1).set h2).set h4)⟩
  · exact q.elim
end
structure Wk (m : Mp) (H : Hp) (m' : Mp) (H' : Hp) : Prop where
  ext : ∀ (r : Nat) (a : Addr), m.l[r]? = some a → m'.l[r]? = some a
  ex : Exh (mask m H) (mask m' H')
  co : ∀ p, p ∈ m.c.o → p ∈ m'.c.o
theorem Stp.wk {m m' : Mp} {H H' : Hp} (s : Stp m H m' H') : Wk m H m' H' := ⟨s.ext, s.ex, s.co⟩
theorem Wk.trans {m m' m2 : Mp} {H H' H2 : Hp} (a : Wk m H m' H') (b : Wk m' H' m2 H2) : Wk m H m2 H2 := ⟨fun r x h => b.ext r x (a.ext r x h), fun x o h => b.ex x o (a.ex x o h), fun p h => b.co p (a.co p h)⟩
theorem Wk.refl (m : Mp) (H : Hp) : Wk m H m H := (Stp.refl m H).wk
inductive Wo where
  | l (r : Nat)
  | k (r : Nat)
  | o (r j : Nat)
instance : Coe Nat Wo := ⟨.l⟩
abbrev Own := Option Wo
def Wo.ok (all : List P) (S : Sto) : Wo → Prop
  | .l r => S[r]? = some (.lst all)
  | .k r => (∃ ps, S[r]? = some (.dn all ps)) ∨ ∃ cs, S[r]? = some (.dl all cs)
  | .o r j => deP S (.o r j) = some (.lst all)
def OwnOk (own : Own) (all : List P) (S : Sto) : Prop := ∀ r, own = some r → r.ok all S
@[simp] theorem ownOk_none (all : List P) (S : Sto) : OwnOk none all S := fun _ h => nomatch h
@[simp] theorem ownOk_some (r : Nat) (all : List P) (S : Sto) : OwnOk (some r) all S ↔ S[r]? = some (.lst all) := ⟨fun h => h _ rfl, fun h _ e => by cases e; exact h⟩
theorem ownOk_wo {r : Wo} {all : List P} {S : Sto} : OwnOk (some r) all S ↔ r.ok all S := ⟨fun h => h _ rfl, fun h _ e => by cases e; exact h⟩
structure ItD (K : PySem.W.Frag) (m : Mp) (H : Hp) (J : It) (ps : List P) (own : Own) : Prop where
  go : ∀ (i : Nat) (p : P) (m2 : Mp) (H2 : Hp) (S2 : Sto), ps[i]? = some p → Wk m H m2 H2 → Rel K m2 H2 S2 → OwnOk own ps S2 → J.go i H2 ∧ ∀ x H3, J.yld i H2 x H3 → Rel K m2 H3 S2 ∧ Stp m2 H2 m2 H3 ∧ Is K (mask m2 H3) p x ∧ ∀ b o, H2 b = some o → H3 b = some o
  stop : ∀ (i : Nat) (m2 : Mp) (H2 : Hp) (S2 : Sto), ps.length ≤ i → Wk m H m2 H2 → Rel K m2 H2 S2 → OwnOk own ps S2 → J.stop i H2
abbrev FI := Dnv → Sto → Oc (List P × Own)
def TDi (K : PySem.W.Frag) (f : FI) : TI := fun σ H W => ∃ m env S, Rel K m H S ∧ EnvIs K m (mask m H) σ env ∧ ∃ ps own S', f env S = .ok (ps, own) S' ∧
  ∀ m' H' J, Stp m H m' H' → Rel K m' H' S' → ItD K m' H' J ps own → W J H'
abbrev PId (X : Cx) (tg e : Expr) (f : FI) : Prop := PI X tg e (TDi X.K f)
theorem pi_weak {X : Cx} {tg e : Expr} {t t' : TI} (h : PI X tg e t) (q : ∀ σ H W, t' σ H W → t σ H W) : PI X tg e t' := ⟨fun pins s σ H W I w => h.run pins s σ H W I (q σ H W w)⟩
section
variable {K : PySem.W.Frag} {m : Mp} {H : Hp} {S : Sto}
theorem itd_seq {a : Addr} {ps : List P} {own : Own} (h : ∀ (m2 : Mp) (H2 : Hp) (S2 : Sto), Wk m H m2 H2 → Rel K m2 H2 S2 → OwnOk own ps S2 → ∃ xs, SqL K H2 a xs ∧ IsAll K (mask m2 H2) ps xs) : ItD K m H (Itl K a) ps own where
  go := fun i p m2 H2 S2 hp w R o => by
    obtain ⟨xs, h1, h2⟩ := h m2 H2 S2 w R o
    obtain ⟨v, h3, h4⟩ := h2.get hp
    refine ⟨⟨xs, v, h1, h3⟩, fun x H3 y => ?_⟩
    obtain ⟨rfl, y⟩ := y
    have e := y xs h1
    rw [h3] at e
    cases e
    exact ⟨R, Stp.refl _ _, h4, fun _ _ z => z⟩
  stop := fun i m2 H2 S2 hl w R o => by
    obtain ⟨xs, h1, h2⟩ := h m2 H2 S2 w R o
    exact ⟨xs, h1, by rw [← h2.len]; exact hl⟩
theorem itd_tup {a : Addr} {ps : List P} (h : ∀ (m2 : Mp) (H2 : Hp), Wk m H m2 H2 → ∃ xs, SqT K H2 a xs ∧ IsAll K (mask m2 H2) ps xs) : ItD K m H (Itt K a) ps none where
  go := fun i p m2 H2 S2 hp w R o => by
    obtain ⟨xs, h1, h2⟩ := h m2 H2 w
    obtain ⟨v, h3, h4⟩ := h2.get hp
    refine ⟨⟨xs, v, h1, h3⟩, fun x H3 y => ?_⟩
    obtain ⟨rfl, y⟩ := y
    have e := y xs h1
    rw [h3] at e
    cases e
    exact ⟨R, Stp.refl _ _, h4, fun _ _ z => z⟩
  stop := fun i m2 H2 S2 hl w R o => by
    obtain ⟨xs, h1, h2⟩ := h m2 H2 w
    exact ⟨xs, h1, by rw [← h2.len]; exact hl⟩
theorem itd_rng {lo : Int} {n : Nat} : ItD K m H (Itr lo n) ((List.range n).map fun i : Nat => .int (lo + i)) none where
  go := fun i p m2 H2 S2 hp w R o => by
    rw [List.getElem?_map] at hp
    obtain ⟨j, h1, h2⟩ := Option.map_eq_some_iff.mp hp
    have hl := lt_of_at h1
    rw [List.length_range] at hl
    rw [List.getElem?_range hl] at h1
    cases h1
    refine ⟨hl, fun x H3 y => ?_⟩
    obtain ⟨rfl, rfl⟩ := y
    rw [← h2]
    exact ⟨R, Stp.refl _ _, rfl, fun _ _ z => z⟩
  stop := fun i m2 H2 S2 hl w R o => by
    rw [List.length_map, List.length_range] at hl
    exact hl
def signs (x : Str) : List P := x.cps.toList.map fun c => .str ⟨#[c]⟩
theorem itd_str {x : Str} : ItD K m H (Its x) (signs x) none where
  go := fun i p m2 H2 S2 hp w R o => by
    unfold signs at hp
    rw [List.getElem?_map] at hp
    obtain ⟨c, h1, h2⟩ := Option.map_eq_some_iff.mp hp
    have hl := lt_of_at h1
    refine ⟨show i < x.cps.size by simpa using hl, fun z H3 y => ?_⟩
    obtain ⟨rfl, c2, h3, rfl⟩ := y
    have : c2 = c := by
      have e : x.cps.toList[i]? = some c2 := by simpa using h3
      rw [h1] at e
      exact (Option.some.inj e).symm
    rw [← h2, this]
    exact ⟨R, Stp.refl _ _, rfl, fun _ _ z => z⟩
  stop := fun i m2 H2 S2 hl w R o => by
    unfold signs at hl
    rw [List.length_map] at hl
    exact (show x.cps.size ≤ i by simpa using hl)
end
def iAny (K : PySem.W.Frag) (tl : TE) : TI := fun σ H R => tl σ H fun x H1 => (∃ a, x = .ref a ∧ (∃ xs, SqL K H1 a xs) ∧ R (Itl K a) H1) ∨ (∃ a, x = .ref a ∧ (∃ xs, SqT K H1 a xs) ∧ R (Itt K a) H1) ∨ (∃ z, x = .str z ∧ R (Its z) H1) ∨ (∃ d n, x = .ref d ∧ NKat d n H1 ∧ R (Itnk d n) H1)
theorem pi_any {X : Cx} {tg e : Expr} {tl : TE} (hl : PE X e tl) : PI X tg e (iAny X.K tl) := by
  refine ⟨fun pins s σ H R I h => ?_⟩
  refine thn (hl.run pins s σ H _ I h) fun v s1 ⟨x, H1, I1, r1, q1⟩ => ?_
  have mine : ∀ {Ts : Heap → Nat → Addr → Prop} {o : Obj}, Inv X pins σ H1 { s1 with heap := s1.heap.push o } := fun {Ts o} => I1.kept (t' := s1.toks) fun b o e => Heap.get?_push_of_some _ e
  have fpo : ∀ b ∈ [s1.heap.objs.size], FpOk X pins H1 b := fun b hb => by
    have e : b = s1.heap.objs.size := by simpa using hb
    subst e
    exact I1.fpOk (Nat.le_refl _) (I1.hok.fresh (Nat.le_refl _))
  rcases q1 with ⟨a, rfl, ⟨xs, hq⟩, q⟩ | ⟨a, rfl, ⟨xs, hq⟩, q⟩ | ⟨z, rfl, q⟩ | ⟨d, n, rfl, hn, q⟩
  · obtain rfl : v = Value.ref a := r1
    obtain ⟨its, rv, p, hz⟩ := I1.list hq
    refine wpAny_pyIter_list p.isList ?_
    exact ⟨s1.heap.objs.size, [s1.heap.objs.size], _, _, H1, rfl, I1.kept (t' := s1.toks) fun b o e => Heap.get?_push_of_some _ e, turn_list a _, ⟨_, Heap.get?_push_size _ rfl, rfl, rfl⟩, fpo, q⟩
  · obtain rfl : v = Value.ref a := r1
    obtain ⟨its, rv, p, hz⟩ := I1.tuple hq
    refine wpAny_pyIter_tuple (show s1.heap.IsTuple a its.toArray from p) ?_
    exact ⟨s1.heap.objs.size, [s1.heap.objs.size], _, _, H1, rfl, I1.kept (t' := s1.toks) fun b o e => Heap.get?_push_of_some _ e, turn_tuple a _, ⟨_, Heap.get?_push_size _ rfl, rfl, rfl⟩, fpo, q⟩
  · obtain ⟨t, rfl⟩ := r1
    cases ha : z.cps.all (· < 128)
    · exact wpAny_pyIter_wide ha (pi_one (tk := s1.toks) I1 _ (turn_str _ z t "str_iterator" (.inr rfl)) ⟨_, Heap.get?_push_size _ rfl, rfl, rfl⟩ q)
    · exact wpAny_pyIter_ascii ha (pi_one (tk := s1.toks) I1 _ (turn_str _ z t "str_ascii_iterator" (.inl rfl)) ⟨_, Heap.get?_push_size _ rfl, rfl, rfl⟩ q)
  · obtain rfl : v = Value.ref d := r1
    obtain ⟨es, hs, hr, hz, hk⟩ := hn.raw I1
    subst hz
    exact wpAny_pyIter_dict_raw hs hr (pi_one (tk := s1.toks) I1 _ (turn_nk _) ⟨_, Heap.get?_push_size _ rfl, rfl, rfl⟩ q)
def seqOf (d : D) (S : Sto) : Option (List P × Own) := match d with
  | .v (.lst ps) => some (ps, none)
  | .v (.frz ps) => some (ps, none)
  | .v (.tup ps) => some (ps, none)
  | .v (.str x) => some (signs x, none)
  | .v (.dn ks _) => some (ks, none)
  | .r n => match S[n]? with
    | some (.lst ps) => some (ps, some (.l n))
    | some (.dn ks _) => some (ks, some (.k n))
    | some (.dl ks _) => some (ks, some (.k n))
    | _ => none
  | .o n j => match deP S (.o n j) with
    | some (.lst ps) => some (ps, some (.o n j))
    | _ => none
  | _ => none
theorem itd_nk {K : PySem.W.Frag} {m : Mp} {H : Hp} {a : Addr} {ks : List P} {own : Own} (h : ∀ (m2 : Mp) (H2 : Hp) (S2 : Sto), Wk m H m2 H2 → Rel K m2 H2 S2 → OwnOk own ks S2 → ∃ hs kv xs, H2 a = some (NDo a hs kv xs) ∧ hs.length = ks.length ∧ xs.length = ks.length ∧ IsAll K (mask m2 H2) ks kv) : ItD K m H (Itnk a ks.length) ks own where
  go := fun i p m2 H2 S2 hp w R o => by
    obtain ⟨hs, kv, xs, h1, h2, h3, h4⟩ := h m2 H2 S2 w R o
    obtain ⟨v, h5, h6⟩ := h4.get hp
    refine ⟨⟨⟨hs, kv, xs, h1, h2, h4.len.symm, h3⟩, lt_of_at hp⟩, fun x H3 y => ?_⟩
    obtain ⟨rfl, y⟩ := y
    have e : kv[i]? = some x := y hs kv xs h1 h2 h4.len.symm h3
    rw [h5] at e
    cases e
    exact ⟨R, Stp.refl _ _, h6, fun _ _ z => z⟩
  stop := fun i m2 H2 S2 hl w R o => by
    obtain ⟨hs, kv, xs, h1, h2, h3, h4⟩ := h m2 H2 S2 w R o
    exact ⟨⟨hs, kv, xs, h1, h2, h4.len.symm, h3⟩, hl⟩
theorem hashNs_len {hf : Str → Int} : ∀ ns : List NestedKey, (hashNs hf ns).length = ns.length
  | [] => rfl
  | n :: ns => by
    unfold hashNs
    simp [hashNs_len ns]
theorem nkPs_len : ∀ {ps : List P} {ns : List NestedKey}, nkPs ps = some ns → ns.length = ps.length
  | [], ns, h => by cases h; rfl
  | p :: ps, ns, h => by
    unfold nkPs at h
    split at h
    · rename_i h1 h2
      cases h
      simp [nkPs_len h2]
    · cases h
def iVal (f : FE) : FI := fun env S => (f env S).bind fun d S1 => match seqOf d S1 with
  | some r => .ok r S1
  | none => .bad
theorem i_val {X : Cx} {tg e : Expr} {f : FE} (h : PEd X e f) : PId X tg e (iVal f) := pi_weak (pi_any h) fun σ H W ⟨m, env, S, R, E, ps, own, S', e1, q⟩ => by
  obtain ⟨d, S1, k1, e2⟩ := Oc.bind_eq e1
  refine ⟨m, env, S, R, E, d, S1, k1, fun v m1 H1 st1 R1 i1 => ?_⟩
  cases h1 : seqOf d S1 with
  | none => rw [h1] at e2; cases e2
  | some r =>
    rw [h1] at e2
    cases e2
    unfold seqOf at h1
    split at h1
    · cases h1
      obtain ⟨a, xs, rfl, h2, h3⟩ := i1
      exact .inl ⟨a, rfl, ⟨xs, .of (mask_some h2).2⟩, q m1 H1 _ st1 R1 (itd_seq fun m2 H2 S2 w R2 o => ⟨xs, .of (mask_some (w.ex _ _ h2)).2, IsAll.mono w.ex _ _ h3⟩)⟩
    · cases h1
      obtain ⟨a, xs, rfl, h2, h3⟩ := i1
      exact .inl ⟨a, rfl, ⟨xs, sqL_mono (mask_ex _ _) h2⟩, q m1 H1 _ st1 R1 (itd_seq fun m2 H2 S2 w R2 o => ⟨xs, sqL_mono (mask_ex _ _) (sqL_mono w.ex h2), IsAll.mono w.ex _ _ h3⟩)⟩
    · cases h1
      obtain ⟨a, xs, rfl, h2, h3⟩ := i1
      exact .inr (.inl ⟨a, rfl, ⟨xs, sqT_mono (mask_ex _ _) h2⟩, q m1 H1 _ st1 R1 (itd_tup fun m2 H2 w => ⟨xs, sqT_mono (mask_ex _ _) (sqT_mono w.ex h2), IsAll.mono w.ex _ _ h3⟩)⟩)
    · cases h1
      exact .inr (.inr (.inl ⟨_, i1, q m1 H1 _ st1 R1 itd_str⟩))
    · cases h1
      obtain ⟨a, as, xs, ns, rfl, h2, h3, h4, h5, h6, h7, h8⟩ := i1
      refine .inr (.inr (.inr ⟨a, _, rfl, ⟨_, _, _, (mask_some h2).2, (hashNs_len ns).trans (nkPs_len h3), h7.len.symm, h5⟩, q m1 H1 _ st1 R1 (itd_nk fun m2 H2 S2 w R2 o => ⟨_, _, _, (mask_some (w.ex _ _ h2)).2, (hashNs_len ns).trans (nkPs_len h3), h5, IsAll.mono w.ex _ _ h7⟩)⟩))
    · rename_i n
      split at h1
      · rename_i ps' hS
        cases h1
        obtain ⟨a, rfl, h2⟩ := i1
        obtain ⟨xs, h3, h4⟩ := R1.ob n a _ h2 hS
        exact .inl ⟨a, rfl, ⟨xs, .of h3⟩, q m1 H1 _ st1 R1 (itd_seq fun m2 H2 S2 w R2 o => by
          obtain ⟨ys, h5, h6⟩ := R2.ob n a _ (w.ext _ _ h2) (o _ rfl)
          exact ⟨ys, .of h5, h6⟩)⟩
      · rename_i ks' ps' hS
        cases h1
        obtain ⟨a, rfl, h2⟩ := i1
        have go : ∀ (m2 : Mp) (H2 : Hp) (S2 : Sto), Wk m1 H1 m2 H2 → Rel X.K m2 H2 S2 → OwnOk (some (.k n)) ps S2 → ∃ hs kv xs, H2 a = some (NDo a hs kv xs) ∧ hs.length = ps.length ∧ xs.length = ps.length ∧ IsAll X.K (mask m2 H2) ps kv := fun m2 H2 S2 w R2 o => by
          rcases o _ rfl with ⟨ps2, o⟩ | ⟨cs2, o⟩
          · obtain ⟨as, xs, ns, z1, z2, z3, z4, z5, z6, z7⟩ := R2.ob n a _ (w.ext _ _ h2) o
            exact ⟨_, _, _, z1, (hashNs_len ns).trans (nkPs_len z2), z4, z6⟩
          · obtain ⟨as, bs, ns, z1, z2, z3, z4, z5, z6, z7⟩ := R2.ob n a _ (w.ext _ _ h2) o
            exact ⟨_, _, _, z1, (hashNs_len ns).trans (nkPs_len z2), (List.length_map ..).trans z4, z6⟩
        obtain ⟨hs, kv, xs, z1, z2, z3, z4⟩ := go m1 H1 _ (Wk.refl _ _) R1 (ownOk_wo.mpr (.inl ⟨_, hS⟩))
        exact .inr (.inr (.inr ⟨a, _, rfl, ⟨hs, kv, xs, z1, z2, z4.len.symm, z3⟩, q m1 H1 _ st1 R1 (itd_nk go)⟩))
      · rename_i ks' cs' hS
        cases h1
        obtain ⟨a, rfl, h2⟩ := i1
        have go : ∀ (m2 : Mp) (H2 : Hp) (S2 : Sto), Wk m1 H1 m2 H2 → Rel X.K m2 H2 S2 → OwnOk (some (.k n)) ps S2 → ∃ hs kv xs, H2 a = some (NDo a hs kv xs) ∧ hs.length = ps.length ∧ xs.length = ps.length ∧ IsAll X.K (mask m2 H2) ps kv := fun m2 H2 S2 w R2 o => by
          rcases o _ rfl with ⟨ps2, o⟩ | ⟨cs2, o⟩
          · obtain ⟨as, xs, ns, z1, z2, z3, z4, z5, z6, z7⟩ := R2.ob n a _ (w.ext _ _ h2) o
            exact ⟨_, _, _, z1, (hashNs_len ns).trans (nkPs_len z2), z4, z6⟩
          · obtain ⟨as, bs, ns, z1, z2, z3, z4, z5, z6, z7⟩ := R2.ob n a _ (w.ext _ _ h2) o
            exact ⟨_, _, _, z1, (hashNs_len ns).trans (nkPs_len z2), (List.length_map ..).trans z4, z6⟩
        obtain ⟨hs, kv, xs, z1, z2, z3, z4⟩ := go m1 H1 _ (Wk.refl _ _) R1 (ownOk_wo.mpr (.inr ⟨_, hS⟩))
        exact .inr (.inr (.inr ⟨a, _, rfl, ⟨hs, kv, xs, z1, z2, z4.len.symm, z3⟩, q m1 H1 _ st1 R1 (itd_nk go)⟩))
      · cases h1
    · rename_i n j
      split at h1
      · rename_i ps' hS
        cases h1
        obtain ⟨a, xs, rfl, h3, h4⟩ := isR_of R1 i1 hS
        exact .inl ⟨a, rfl, ⟨xs, .of h3⟩, q m1 H1 _ st1 R1 (itd_seq fun m2 H2 S2 w R2 o => by
          obtain ⟨b, ys, e, h5, h6⟩ := isR_of R2 (i1.mono w.ext w.ex w.co) (o _ rfl)
          cases e
          exact ⟨ys, .of h5, h6⟩)⟩
      · cases h1
    · cases h1
def intsD : List D → Option (List Int)
  | [] => some []
  | .v (.int i) :: ds => (intsD ds).map (i :: ·)
  | _ :: _ => none
def iR1 (g : FA) : FI := fun env S => (g env S).bind fun ds S1 => match intsD ds with
  | some [n] => if -1000000 ≤ n ∧ n ≤ 1000000 then .ok ((List.range n.toNat).map fun i : Nat => .int ((0 : Int) + i), none) S1 else .bad
  | _ => .bad
def iR2 (g : FA) : FI := fun env S => (g env S).bind fun ds S1 => match intsD ds with
  | some [a, b] => if (-1000000 ≤ a ∧ a ≤ 1000000) ∧ (-1000000 ≤ b ∧ b ≤ 1000000) then .ok ((List.range (b - a).toNat).map fun i : Nat => .int (a + i), none) S1 else .bad
  | _ => .bad
theorem ints_is {K : PySem.W.Frag} {m : Mp} {G : Hp} : ∀ {ds : List D} {ns : List Int} {vs : List V}, intsD ds = some ns → IsDs K m G ds vs → vs = ns.map V.int
  | [], ns, vs, h, i => by
    cases h
    exact i
  | .v (.int i) :: ds, ns, vs, h, ⟨v, ws, h1, h2, h3⟩ => by
    unfold intsD at h
    obtain ⟨ms, h4, h5⟩ := Option.map_eq_some_iff.mp h
    subst h5
    have e := ints_is h4 h3
    subst e
    subst h1
    have h2' : v = .int i := h2
    rw [h2']
    rfl
  | .r _ :: _, _, _, h, _ => by cases h
  | .o _ _ :: _, _, _, h, _ => by cases h
  | .v .non :: _, _, _, h, _ => by cases h
  | .v (.bl _) :: _, _, _, h, _ => by cases h
  | .v (.str _) :: _, _, _, h, _ => by cases h
  | .v (.tup _) :: _, _, _, h, _ => by cases h
  | .v (.lst _) :: _, _, _, h, _ => by cases h
  | .v (.frz _) :: _, _, _, h, _ => by cases h
  | .v (.dic _ _) :: _, _, _, h, _ => by cases h
  | .v (.fn _) :: _, _, _, h, _ => by cases h
  | .v (.dn _ _) :: _, _, _, h, _ => by cases h
  | .v (.exn _ _ _ _ _) :: _, _, _, h, _ => by cases h
  | .v (.adr _) :: _, _, _, h, _ => by cases h
theorem i_rng1 {X : Cx} {tg a : Expr} {g : FA} {p pos : Pos} (hm : X.mg "range" = none) (ha : PAd X [a] g) (hg : Gl X "range" := by rfl) (hs : starEach [a] X.env = [(false, eval a X.env)] := by rfl) : PId X tg (.Call (.Name "range" p) [a] [] pos) (iR1 g) :=
  pi_weak (pi_range1 hg hm ha hs) fun σ H W ⟨m, env, S, R, E, ps, own, S', e1, q⟩ => by
  obtain ⟨ds, S1, k1, e2⟩ := Oc.bind_eq e1
  refine ⟨m, env, S, R, E, ds, S1, k1, fun vs m1 H1 st1 R1 i1 => ?_⟩
  split at e2
  · rename_i n hn
    split at e2
    · rename_i hb
      cases e2
      have ev := ints_is hn i1
      exact ⟨n, ev, by omega, by omega, q m1 H1 _ st1 R1 itd_rng⟩
    · cases e2
  · cases e2
open Classical in
noncomputable def loopF (own : Own) (all : List P) (g : FG) (b : FS) : List P → Dnv → Sto → Flo
  | [], env, S => if OwnOk own all S then .nx env S else .bad
  | p :: ps, env, S => if OwnOk own all S then (g (.v p) env S).fl fun env1 S1 => match b env1 S1 with
    | .nx e s => loopF own all g b ps e s
    | .ct e s => loopF own all g b ps e s
    | .bk e s => .nx e s
    | .rt d s => .rt d s
    | .bad => .bad else .bad
noncomputable def fFor (it : FI) (g : FG) (b : FS) : FS := fun env S => (it env S).fl fun r S1 => loopF r.2 r.1 g b r.1 env S1
def whileF (t : FT) (b : FS) : Nat → Dnv → Sto → Flo
  | 0, _, _ => .bad
  | n + 1, env, S => (t env S).fl fun k S1 => if k = true then match b env S1 with
    | .nx e s => whileF t b n e s
    | .ct e s => whileF t b n e s
    | .bk e s => .nx e s
    | .rt d s => .rt d s
    | .bad => .bad else .nx env S1
def fWhile (t : FT) (b : FS) : FS := fun env S => whileF t b 100000 env S
section
variable {X : Cx} {pos : Pos} {it : FI} {g : FG} {b : FS} {t : FT}
theorem s_for (hX : SX X) (hp : PassesOwn (model X.prog X.w) X.A X.env X.xe) {tg iter : Expr} {body : List Stmt} (hi : PId X tg iter it) (hg : PGd X tg g) (hb : PSsd X body b) (hs : ∀ x, foldedSetIterable iter X.env x = pure x := by intro _; rfl) :
    PSd X (.For tg iter body [] pos) (fFor it g b) := ps_weak (ps_for hp hX.calm hi hg hb hs) fun D σ H ⟨m, env, S, R, E, q⟩ => by
  obtain ⟨⟨ps, own⟩, S1, k1, q⟩ := Oc.fl_ne q
  refine ⟨m, env, S, R, E, ps, own, S1, k1, fun m1 H1 J st1 R1 T => ?_⟩
  have q : FloOk X.K m1 H1 D (loopF own ps g b ps env S1) := q.step st1
  refine ⟨fun i k σ2 H2 => k + i = ps.length ∧ ∃ m2 env2 S2, Stp m1 H1 m2 H2 ∧ Rel X.K m2 H2 S2 ∧ EnvIs X.K m2 (mask m2 H2) σ2 env2 ∧ FloOk X.K m2 H2 D (loopF own ps g b (ps.drop i) env2 S2), ⟨ps.length, by omega, m1, env, S1, Stp.refl _ _, R1, E.step st1, by simpa using q⟩, ?_⟩
  rintro i k σ2 H2 ⟨hk, m2, env2, S2, st2, R2, E2, q2⟩
  by_cases hi : i < ps.length
  · right
    rw [List.drop_eq_getElem_cons hi] at q2
    unfold loopF at q2
    split at q2
    · rename_i ho
      obtain ⟨env3, S3, k3, q3⟩ := Oc.fl_ne q2
      obtain ⟨hgo, hy⟩ := T.go i _ m2 H2 S2 (List.getElem?_eq_getElem hi) st2.wk R2 ho
      refine ⟨hgo, fun σ' H' => ∃ k', k' < k ∧ (k' + (i + 1) = ps.length ∧ ∃ m2 env2 S2, Stp m1 H1 m2 H' ∧ Rel X.K m2 H' S2 ∧ EnvIs X.K m2 (mask m2 H') σ' env2 ∧ FloOk X.K m2 H' D (loopF own ps g b (ps.drop (i + 1)) env2 S2)), fun σ' H' z => z, fun x H3 y => ?_⟩
      obtain ⟨R3, st3, i3, _⟩ := hy x H3 y
      refine ⟨m2, env2, S2, .v ps[i], R3, E2.step st3, i3, env3, S3, k3, fun m4 H4 σ4 st4 R4 E4 => ⟨m4, env3, S3, R4, E4, ?_⟩⟩
      have stA := (st2.trans st3).trans st4
      have q4 := q3.step (st3.trans st4)
      cases hb : b env3 S3 with
      | nx e s =>
        rw [hb] at q4
        exact fun m5 H5 σ5 st5 R5 E5 => ⟨k - 1, by omega, by omega, m5, e, s, stA.trans st5, R5, E5, q4.step st5⟩
      | ct e s =>
        rw [hb] at q4
        exact fun m5 H5 σ5 st5 R5 E5 => ⟨k - 1, by omega, by omega, m5, e, s, stA.trans st5, R5, E5, q4.step st5⟩
      | bk e s =>
        rw [hb] at q4
        exact q4
      | rt d s =>
        rw [hb] at q4
        exact q4
      | bad =>
        rw [hb] at q4
        exact q4
    · exact q2.elim
  · left
    have e : ps.drop i = [] := List.drop_eq_nil_of_le (by omega)
    rw [e] at q2
    unfold loopF at q2
    split at q2
    · rename_i ho
      exact ⟨T.stop i m2 H2 S2 (by omega) st2.wk R2 ho, q2 m2 H2 σ2 (Stp.refl _ _) R2 E2⟩
    · exact q2.elim
theorem s_while (hp : PassesOwn (model X.prog X.w) X.A X.env X.xe) {c : Expr} {body : List Stmt} (hc : PTd X c t) (hb : PSsd X body b) : PSd X (.While c body [] pos) (fWhile t b) := ps_weak (ps_while hp hc hb) fun D σ H ⟨m, env, S, R, E, q⟩ => by
  refine ⟨fun n σ2 H2 => ∃ m2 env2 S2, Stp m H m2 H2 ∧ Rel X.K m2 H2 S2 ∧ EnvIs X.K m2 (mask m2 H2) σ2 env2 ∧ FloOk X.K m2 H2 D (whileF t b n env2 S2), ⟨_, m, env, S, Stp.refl _ _, R, E, q⟩, ?_⟩
  rintro n σ2 H2 ⟨m2, env2, S2, st2, R2, E2, q2⟩
  cases n with
  | zero => exact q2.elim
  | succ n =>
    unfold whileF at q2
    obtain ⟨k, S3, k3, q3⟩ := Oc.fl_ne q2
    refine ⟨m2, env2, S2, R2, E2, k, S3, k3, fun m3 H3 st3 R3 => ?_⟩
    cases k with
    | false =>
      rw [if_neg (by decide)] at q3 ⊢
      exact q3 m3 H3 σ2 st3 R3 (E2.step st3)
    | true =>
      rw [if_pos rfl] at q3 ⊢
      refine ⟨fun σ' H' => ∃ m', m' < n + 1 ∧ ∃ m2 env2 S2, Stp m H m2 H' ∧ Rel X.K m2 H' S2 ∧ EnvIs X.K m2 (mask m2 H') σ' env2 ∧ FloOk X.K m2 H' D (whileF t b m' env2 S2), fun σ' H' z => z, m3, env2, S3, R3, E2.step st3, ?_⟩
      have q4 := q3.step st3
      have stA := st2.trans st3
      cases hb : b env2 S3 with
      | nx e s =>
        rw [hb] at q4
        exact fun m5 H5 σ5 st5 R5 E5 => ⟨n, by omega, m5, e, s, stA.trans st5, R5, E5, q4.step st5⟩
      | ct e s =>
        rw [hb] at q4
        exact fun m5 H5 σ5 st5 R5 E5 => ⟨n, by omega, m5, e, s, stA.trans st5, R5, E5, q4.step st5⟩
      | bk e s =>
        rw [hb] at q4
        exact q4
      | rt d s =>
        rw [hb] at q4
        exact q4
      | bad =>
        rw [hb] at q4
        exact q4
end
def wipeE (env : Dnv) : List Nat → Dnv
  | [] => env
  | v :: vs => (wipeE env vs).set v none
theorem wipe_at {σ : L2.St} {i : Nat} : ∀ {vs : List Nat}, i ∉ vs → (wipe σ vs)[i]? = σ[i]?
  | [], _ => rfl
  | v :: vs, h => by
    unfold wipe
    rw [List.getElem?_set_ne (fun e => h (by simp [e]))]
    exact wipe_at (fun z => h (List.mem_cons_of_mem _ z))
theorem wipeE_some {env : Dnv} {i : Nat} {d : D} : ∀ {vs : List Nat}, (wipeE env vs)[i]? = some (some d) → env[i]? = some (some d) ∧ i ∉ vs
  | [], h => ⟨h, by simp⟩
  | v :: vs, h => by
    unfold wipeE at h
    by_cases hi : v = i
    · subst hi
      by_cases hl : v < (wipeE env vs).length
      · rw [List.getElem?_set_self hl] at h; cases h
      · rw [List.getElem?_eq_none (by simpa using hl)] at h; cases h
    · rw [List.getElem?_set_ne hi] at h
      obtain ⟨h1, h2⟩ := wipeE_some h
      exact ⟨h1, by simp only [List.mem_cons, not_or]; exact ⟨fun e => hi e.symm, h2⟩⟩
theorem wipeE_len (env : Dnv) : ∀ vs : List Nat, (wipeE env vs).length = env.length
  | [] => rfl
  | v :: vs => by unfold wipeE; rw [List.length_set, wipeE_len env vs]
theorem EnvIs.wipe {K : PySem.W.Frag} {m : Mp} {G : Hp} {σ : L2.St} {env : Dnv} (h : EnvIs K m G σ env) (vs : List Nat) : EnvIs K m G (L2.wipe σ vs) (wipeE env vs) := by
  refine ⟨by rw [wipe_length, wipeE_len]; exact h.len, fun i d e => ?_⟩
  obtain ⟨e1, e2⟩ := wipeE_some e
  obtain ⟨v, h1, h2⟩ := h.get i d e1
  exact ⟨v, by rw [wipe_at e2]; exact h1, h2⟩
theorem wipe_set {σ : L2.St} {i : Nat} {x : Option V} : ∀ {vs : List Nat}, i ∈ vs → L2.wipe (σ.set i x) vs = L2.wipe σ vs
  | [], h => by cases h
  | v :: vs, h => by
    by_cases hi : i ∈ vs
    · unfold L2.wipe
      rw [wipe_set hi]
    · have e : i = v := by simpa [hi] using h
      subst e
      unfold L2.wipe
      refine List.ext_getElem? fun j => ?_
      by_cases hj : i = j
      · subst hj
        by_cases hl : i < σ.length
        · rw [List.getElem?_set_self (by rw [wipe_length, List.length_set]; exact hl), List.getElem?_set_self (by rw [wipe_length]; exact hl)]
        · rw [List.getElem?_eq_none (by rw [List.length_set, wipe_length, List.length_set]; omega), List.getElem?_eq_none (by rw [List.length_set, wipe_length]; omega)]
      · rw [List.getElem?_set_ne hj, List.getElem?_set_ne hj]
        have : ∀ {vs : List Nat}, (L2.wipe (σ.set i x) vs)[j]? = (L2.wipe σ vs)[j]? := by
          intro vs
          induction vs with
          | nil => exact List.getElem?_set_ne hj
          | cons w ws ih =>
            unfold L2.wipe
            by_cases hw : w = j
            · subst hw
              by_cases hl : w < σ.length
              · rw [List.getElem?_set_self (by rw [wipe_length, List.length_set]; exact hl), List.getElem?_set_self (by rw [wipe_length]; exact hl)]
              · rw [List.getElem?_eq_none (by rw [List.length_set, wipe_length, List.length_set]; omega), List.getElem?_eq_none (by rw [List.length_set, wipe_length]; omega)]
            · rw [List.getElem?_set_ne hw, List.getElem?_set_ne hw]
              exact ih
        exact this
theorem wipe_idem (σ : L2.St) (vs : List Nat) : L2.wipe (L2.wipe σ vs) vs = L2.wipe σ vs := by
  have step : ∀ (us ws : List Nat), (∀ u ∈ us, u ∈ ws) → ∀ τ : L2.St, L2.wipe (L2.wipe τ us) ws = L2.wipe τ ws := by
    intro us
    induction us with
    | nil => exact fun ws _ τ => rfl
    | cons u us ih =>
      intro ws h τ
      show L2.wipe ((L2.wipe τ us).set u none) ws = _
      rw [wipe_set (h u (List.mem_cons_self ..))]
      exact ih ws (fun x hx => h x (List.mem_cons_of_mem _ hx)) τ
  exact step vs vs (fun _ h => h) σ
def TDw (K : PySem.W.Frag) (vs : List Nat) (g : FG) : TG := fun v σ H Q => ∃ m env S d, Rel K m H S ∧ EnvIs K m (mask m H) σ env ∧ IsD K m (mask m H) d v ∧ ∃ env' S', g d env S = .ok env' S' ∧ ∀ m' H' σ', Stp m H m' H' → Rel K m' H' S' → EnvIs K m' (mask m' H') σ' env' → (∀ b o, H b = some o → H' b = some o) → L2.wipe σ' vs = L2.wipe σ vs → Q σ' H'
def TDws (K : PySem.W.Frag) (vs : List Nat) (g : FGs) : TGs := fun ws σ H Q => ∃ m env S ps, Rel K m H S ∧ EnvIs K m (mask m H) σ env ∧ IsAll K (mask m H) ps ws ∧ ∃ env' S', g ps env S = .ok env' S' ∧ ∀ m' H' σ', Stp m H m' H' → Rel K m' H' S' → EnvIs K m' (mask m' H') σ' env' → (∀ b o, H b = some o → H' b = some o) → L2.wipe σ' vs = L2.wipe σ vs → Q σ' H'
theorem w_nm {X : Cx} {i : Nat} {x : Str} {pos : Pos} {vs : List Nat} (hN : X.N.Nodup) (hi : X.N[i]? = some x) (hx : Loc X.env.scope x) (hv : i ∈ vs) (hf : X.fn x = true ∨ X.env.scope.names.lookup x = some .local) : PG X (.Name x pos) (TDw X.K vs (gNm i)) :=
  pg_weak (pg_name hN hi hx hf) fun v σ H Q ⟨m, env, S, d, R, E, i1, env', S', e1, q⟩ => by
  cases e1
  exact q m H _ (Stp.refl m H) R (E.set i1) (fun _ _ z => z) (wipe_set hv)
theorem w_nl {X : Cx} {vs : List Nat} : PGs X [] (TDws X.K vs gNl) := pgs_weak pgs_nil fun ws σ H Q ⟨m, env, S, ps, R, E, i1, env', S', e1, q⟩ => by
  cases ps with
  | nil =>
    cases e1
    exact ⟨i1, q m H σ (Stp.refl m H) R E (fun _ _ z => z) rfl⟩
  | cons p r => cases e1
theorem w_cn {X : Cx} {vs : List Nat} {e : Expr} {es : List Expr} {g : FG} {k : FGs} (h1 : PG X e (TDw X.K vs g)) (h2 : PGs X es (TDws X.K vs k)) (hs : (assignEach (e :: es) X.env).map (·.2) = assign e X.env :: (assignEach es X.env).map (·.2) := by rfl) : PGs X (e :: es) (TDws X.K vs (gCn g k)) :=
  pgs_weak (pgs_cons h1 h2 hs) fun ws σ H Q ⟨m, env, S, ps, R, E, i1, env', S', e1, q⟩ => by
  cases ps with
  | nil => cases e1
  | cons p r =>
    obtain ⟨v, us, rfl, h3, h4⟩ := i1
    obtain ⟨env1, S1, k1, e2⟩ := Oc.bind_eq e1
    exact ⟨v, us, rfl, m, env, S, .v p, R, E, h3, env1, S1, k1, fun m1 H1 σ1 st1 R1 E1 x1 w1 => ⟨m1, env1, S1, r, R1, E1, st1.all h4, env', S', e2, fun m2 H2 σ2 st2 R2 E2 x2 w2 => q m2 H2 σ2 (st1.trans st2) R2 E2 (fun b o z => x2 b o (x1 b o z)) (w2.trans w1)⟩⟩
theorem w_tp {X : Cx} {vs : List Nat} {es : List Expr} {k : Nat} {pos : Pos} {t : FGs} {n : Nat} (hc : X.calm = true) (h : PGs X es (TDws X.K vs t)) (hn : (assignEach es X.env).length = n := by rfl) (hst : (assignEach es X.env).findIdx? (·.1) = none := by rfl) : PG X (.Tuple es k pos) (TDw X.K vs (gTp n t)) :=
  pg_weak (pg_tup hc h hn hst) fun v σ H Q ⟨m, env, S, d, R, E, i1, env', S', e1, q⟩ => by
  unfold gTp at e1
  split at e1
  · rename_i ps
    split at e1
    · rename_i hl
      obtain ⟨a, xs, rfl, h1, h2⟩ := i1
      exact ⟨a, xs, rfl, sqT_mono (mask_ex m H) h1, by rw [← h2.len]; exact hl, m, env, S, ps, R, E, h2, env', S', e1, q⟩
    · cases e1
  · cases e1
def fYes : FT := fun _ S => .ok true S
open Classical in
noncomputable def lcF (own : Own) (all : List P) (g : FG) (t : FT) (e : FE) (env : Dnv) : List P → Sto → List P → Oc (List P)
  | [], S, acc => if OwnOk own all S then .ok acc S else .bad
  | p :: ps, S, acc => if OwnOk own all S then (g (.v p) env S).bind fun env1 S1 => (t env1 S1).bind fun b S2 => if b = true then (e env1 S2).bind fun d S3 => match d with
      | .v q => if acc.length < 100000 then lcF own all g t e env ps S3 (acc ++ [q]) else .bad
      | _ => .bad else lcF own all g t e env ps S2 acc else .bad
noncomputable def fLc (it : FI) (g : FG) (t : FT) (e : FE) (vs : List Nat) : FE := fun env S => (it env S).bind fun r S1 => (lcF r.2 r.1 g t e (wipeE env vs) r.1 S1 []).bind fun acc S2 => .ok (.v (.lst acc)) S2
noncomputable def fLcB (it : FI) (g : FG) (t : FT) (e : FE) (vs : List Nat) : FE := fun env S => (it env S).bind fun r S1 => (lcF r.2 r.1 g t e (wipeE env vs) r.1 S1 []).bind fun acc S2 => .ok (.r S2.length) (S2 ++ [.lst acc])
section
variable {K : PySem.W.Frag}
theorem lc_walk {it : FI} {g : FG} {t : FT} {e : FE} {vs : List Nat} {σ : L2.St} {H : Hp} {Q : VK} {m : Mp} {env : Dnv} {S : Sto} (R : Rel K m H S) (E : EnvIs K m (mask m H) σ env) {ps : List P} {own : Own} {S1 S2 : Sto} {acc : List P} (k1 : it env S = .ok (ps, own) S1)
    (k2 : lcF own ps g t e (wipeE env vs) ps S1 [] = .ok acc S2)
    (q : ∀ p xs l2 c2 H2, p ∉ m.h → Wk m H ⟨l2, p :: m.h, c2⟩ H2 → (∀ b, b ∈ m.h → H2 b = H b) → Rel K ⟨l2, p :: m.h, c2⟩ H2 S2 → H2 p = some (.lst xs) → IsAll K (mask ⟨l2, p :: m.h, c2⟩ H2) acc xs → Q (.ref p) H2) : tLc (TDi K it) (TDw K vs g) (TDt K t) (TD K e) vs σ H Q := by
  refine ⟨m, env, S, R, E, ps, own, S1, k1, fun m1 H1 J st1 R1 T Dl hD => ?_⟩
  have R1h := R1.hide (o := .lst []) hD
  have emk := mask_hide (m := m1) (o := .lst []) hD
  have hDm := R1.out hD
  refine ⟨fun i k H2 => k + i = ps.length ∧ ∃ m2 S3 ac xs, m2.h = Dl :: m1.h ∧ Wk m1 H1 m2 H2 ∧ (∀ b, b ∈ m1.h → H2 b = H1 b) ∧ Rel K m2 H2 S3 ∧ H2 Dl = some (.lst xs) ∧ IsAll K (mask m2 H2) ac xs ∧ lcF own ps g t e (wipeE env vs) (ps.drop i) S3 ac = .ok acc S2,
    ⟨ps.length, by omega, m1.hide Dl, S1, [], [], rfl, ⟨fun _ _ h => h, by rw [emk]; exact fun _ _ h => h, fun _ h => h⟩, fun b hb => upd_ne fun z => hDm (.inr (.inl (z ▸ hb))), R1h, upd_same, rfl, by simpa using k2⟩, ?_⟩
  rintro i k H2 ⟨hk, m2, S3, ac, xs, hh, w2, hk2, R2, eD, iac, k3⟩
  by_cases hi : i < ps.length
  · right
    rw [List.drop_eq_getElem_cons hi] at k3
    unfold lcF at k3
    split at k3
    · rename_i ho
      obtain ⟨env3, S4, k4, k5⟩ := Oc.bind_eq k3
      obtain ⟨b, S5, k6, k7⟩ := Oc.bind_eq k5
      obtain ⟨hgo, hy⟩ := T.go i _ m2 H2 S3 (List.getElem?_eq_getElem hi) w2 R2 ho
      refine ⟨hgo, fun H' => ∃ k', k' < k ∧ (k' + (i + 1) = ps.length ∧ ∃ m2 S3 ac xs, m2.h = Dl :: m1.h ∧ Wk m1 H1 m2 H' ∧ (∀ b, b ∈ m1.h → H' b = H1 b) ∧ Rel K m2 H' S3 ∧ H' Dl = some (.lst xs) ∧ IsAll K (mask m2 H') ac xs ∧ lcF own ps g t e (wipeE env vs) (ps.drop (i + 1)) S3 ac = .ok acc S2), fun H' z => z, fun x H3 y => ?_⟩
      obtain ⟨R3, st3, i3, _⟩ := hy x H3 y
      have hDh : Dl ∈ m2.h := by rw [hh]; exact List.mem_cons_self ..
      -- everything from (m2, H2) on
      have E2 : EnvIs K m2 (mask m2 H3) (L2.wipe σ vs) (wipeE env vs) := by
        have E1 := (E.step st1).wipe vs
        refine ⟨E1.len, fun j d z => ?_⟩
        obtain ⟨v, h1, h2⟩ := E1.get j d z
        exact ⟨v, h1, (h2.mono (w2.trans st3.wk).ext (w2.trans st3.wk).ex (w2.trans st3.wk).co)⟩
      refine ⟨m2, wipeE env vs, S3, .v ps[i], R3, E2, i3, env3, S4, k4, fun m4 H4 σ4 st4 R4 E4 _ hw => ⟨by rw [hw, wipe_idem], m4, env3, S4, R4, E4, b, S5, k6, fun m5 H5 st5 R5 => ?_⟩⟩
      have stA := (st3.trans st4).trans st5
      have next : ∀ {m6 : Mp} {H6 : Hp} {S6 : Sto} {ac' : List P} {xs' : List V}, Stp m2 H2 m6 H6 → Rel K m6 H6 S6 → H6 Dl = some (.lst xs') → IsAll K (mask m6 H6) ac' xs' → lcF own ps g t e (wipeE env vs) (ps.drop (i + 1)) S6 ac' = .ok acc S2 →
          ∃ k', k' < k ∧ (k' + (i + 1) = ps.length ∧ ∃ m2 S3 ac xs, m2.h = Dl :: m1.h ∧ Wk m1 H1 m2 H6 ∧ (∀ b, b ∈ m1.h → H6 b = H1 b) ∧ Rel K m2 H6 S3 ∧ H6 Dl = some (.lst xs) ∧ IsAll K (mask m2 H6) ac xs ∧ lcF own ps g t e (wipeE env vs) (ps.drop (i + 1)) S3 ac = .ok acc S2) :=
        fun {m6 H6 S6 ac' xs'} st6 R6 e6 i6 k8 => ⟨k - 1, by omega, by omega, m6, S6, ac', xs', by rw [st6.hh, hh], w2.trans st6.wk, fun b hb => (st6.hk b (by rw [hh]; exact List.mem_cons_of_mem _ hb)).trans (hk2 b hb), R6, e6, i6, k8⟩
      have eD5 : H5 Dl = some (.lst xs) := by rw [stA.hk Dl hDh]; exact eD
      cases b with
      | false =>
        rw [if_neg (by decide)] at k7
        refine iteF ?_
        exact next stA R5 eD5 (stA.all iac) k7
      | true =>
        rw [if_pos rfl] at k7
        refine iteT ?_
        obtain ⟨d, S6, k8, k9⟩ := Oc.bind_eq k7
        refine ⟨m5, env3, S5, R5, E4.step st5, d, S6, k8, fun v m6 H6 st6 R6 i6 => ?_⟩
        have stB := stA.trans st6
        split at k9
        · rename_i q'
          split at k9
          · rename_i hl
            have eD6 : H6 Dl = some (.lst xs) := by rw [stB.hk Dl hDh]; exact eD
            have hDh6 : Dl ∈ m6.h := by rw [stB.hh]; exact hDh
            have em6 := mask_hid (m := m6) (H := H6) (o := .lst (xs ++ [v])) hDh6
            refine ⟨xs, eD6, size_lt (by rw [← iac.len]; exact hl), ?_⟩
            have R7 := R6.hidden (o := .lst (xs ++ [v])) hDh6
            refine ⟨k - 1, by omega, by omega, m6, S6, ac ++ [q'], xs ++ [v], by rw [stB.hh, hh], ⟨(w2.trans stB.wk).ext, by rw [em6]; exact (w2.trans stB.wk).ex, (w2.trans stB.wk).co⟩, fun b hb => ?_, R7, upd_same, by rw [em6]; exact (stB.all iac).append (IsAll.one i6), k9⟩
            have hne : b ≠ Dl := fun z => by
              subst z
              exact hDm (.inr (.inl hb))
            rw [upd_ne hne]
            exact (stB.hk b (by rw [hh]; exact List.mem_cons_of_mem _ hb)).trans (hk2 b hb)
          · cases k9
        · cases k9
    · cases k3
  · left
    have ed : ps.drop i = [] := List.drop_eq_nil_of_le (by omega)
    rw [ed] at k3
    unfold lcF at k3
    split at k3
    · rename_i ho
      cases k3
      refine ⟨T.stop i m2 H2 _ (by omega) w2 R2 ho, ?_⟩
      obtain ⟨l2, h2, c2⟩ := m2
      have hh' : h2 = Dl :: m1.h := hh
      subst hh'
      have hDn : Dl ∉ m1.h := fun z => hDm (.inr (.inl z))
      have e1 : m1.h = m.h := st1.hh
      rw [e1] at hDn w2 R2 iac
      exact q Dl xs l2 c2 H2 hDn ⟨(st1.wk.trans w2).ext, (st1.wk.trans w2).ex, (st1.wk.trans w2).co⟩ (fun b hb => (hk2 b (by rw [e1]; exact hb)).trans (st1.hk b hb)) R2 eD iac
    · cases k3
end
end DL
namespace DL
open PySem PySem.Spec PyProof.Rows L2
variable [Tb]
section
variable {K : PySem.W.Frag}
theorem Rel.shown {l h : List Addr} {c : Cn} {a : Addr} {H : Hp} {S : Sto} (R : Rel K ⟨l, a :: h, c⟩ H S) (ha : a ∉ h) : ¬ off (⟨l, h, c⟩ : Mp) a := fun z => by
  rcases z with z | z | z
  · exact (R.hid a (List.mem_cons_self ..)).1 z
  · exact ha z
  · obtain ⟨p, hp, e⟩ := List.mem_map.mp z
    exact (R.own p hp).2.1 (by rw [e]; exact List.mem_cons_self ..)
theorem off_box {l h : List Addr} {c : Cn} {a b : Addr} : off (⟨l ++ [a], h, c⟩ : Mp) b ↔ off (⟨l, a :: h, c⟩ : Mp) b := by
  unfold off
  simp only [List.mem_append, List.mem_cons, List.not_mem_nil, or_false]
  constructor
  · rintro ((z | z) | z | z)
    · exact .inl z
    · exact .inr (.inl (.inl z))
    · exact .inr (.inl (.inr z))
    · exact .inr (.inr z)
  · rintro (z | (z | z) | z)
    · exact .inl (.inl z)
    · exact .inl (.inr z)
    · exact .inr (.inl z)
    · exact .inr (.inr z)
theorem Rel.boxO {l h : List Addr} {c : Cn} {a : Addr} {H : Hp} {S : Sto} {x : Ob} (R : Rel K ⟨l, a :: h, c⟩ H S) (ha : a ∉ h) (hx : ∀ m', mask m' H = mask ⟨l, a :: h, c⟩ H → ObIs K m' H a x) :
    Rel K ⟨l ++ [a], h, c⟩ H (S ++ [x]) ∧ mask ⟨l ++ [a], h, c⟩ H = mask ⟨l, a :: h, c⟩ H := by
  have em : mask ⟨l ++ [a], h, c⟩ H = mask ⟨l, a :: h, c⟩ H := by
    funext b
    exact mask_eq off_box rfl
  have ex : Exh (mask ⟨l, a :: h, c⟩ H) (mask ⟨l ++ [a], h, c⟩ H) := fun b u z => by rw [em]; exact z
  have hal : a ∉ l := (R.hid a (List.mem_cons_self ..)).1
  have hlen : l.length = S.length := R.len
  refine ⟨⟨by simp [hlen], ?_, fun r b y h1 h2 => ?_, fun b hb => ⟨?_, (R.hid b (List.mem_cons_of_mem _ hb)).2⟩, fun b hb => R.hnt b (List.mem_cons_of_mem _ hb), fun p hp => ?_, R.inj, R.fnc, fun p hp => ?_, fun p hp => (R.tab p hp).mono ex rfl off_box.mp⟩, em⟩
  · show (l ++ [a]).Nodup
    rw [List.nodup_append]
    exact ⟨R.nd, by simp, fun b hb c hc z => by
      simp at hc
      subst hc
      subst z
      exact hal hb⟩
  · have h1' : (l ++ [a])[r]? = some b := h1
    rcases Nat.lt_or_ge r l.length with q | q
    · rw [List.getElem?_append_left q] at h1'
      rw [List.getElem?_append_left (by rw [← hlen]; exact q)] at h2
      exact (R.ob r b y h1' h2).mono' ex (fun _ z => z) rfl (fun _ _ _ => rfl) fun _ _ z => z
    · have e1 : b = a := by
        rw [List.getElem?_append_right q] at h1'
        have := List.mem_of_getElem? h1'
        simpa using this
      subst e1
      rw [List.getElem?_append_right (by rw [← hlen]; exact q)] at h2
      have := List.mem_of_getElem? h2
      simp at this
      subst this
      exact hx _ em
  · intro z
    have z' : b ∈ l ++ [a] := z
    rcases List.mem_append.mp z' with q | q
    · exact (R.hid b (List.mem_cons_of_mem _ hb)).1 q
    · have : b = a := by simpa using q
      exact ha (this ▸ hb)
  · obtain ⟨o1, o2, o3, o5⟩ := R.own p hp
    refine ⟨fun z => ?_, fun z => o2 (List.mem_cons_of_mem _ z), o3, o5⟩
    have z' : p.2.2 ∈ l ++ [a] := z
    rcases List.mem_append.mp z' with q | q
    · exact o1 q
    · exact o2 (by rw [show p.2.2 = a by simpa using q]; exact List.mem_cons_self ..)
  · obtain ⟨q, y, h1, h2, h3⟩ := R.ow p hp
    exact ⟨q, y, by show (l ++ [a])[q]? = _; rw [List.getElem?_append_left (lt_of_at h1)]; exact h1, by rw [List.getElem?_append_left (lt_of_at h2)]; exact h2, h3⟩
theorem lc_val {it : FI} {g : FG} {t : FT} {e : FE} {vs : List Nat} {σ : L2.St} {H : Hp} {Q : VK} (h : TD K (fLc it g t e vs) σ H Q) : tLc (TDi K it) (TDw K vs g) (TDt K t) (TD K e) vs σ H Q := by
  obtain ⟨m, env, S, R, E, d, S', e1, q⟩ := h
  obtain ⟨⟨ps, own⟩, S1, k1, e2⟩ := Oc.bind_eq e1
  obtain ⟨acc, S2, k2, e3⟩ := Oc.bind_eq e2
  cases e3
  refine lc_walk R E k1 k2 fun p xs l2 c2 H2 hp w hk R2 e2 i2 => ?_
  obtain ⟨R3, ex3⟩ := R2.show' hp
  have hpl := (R2.hid p (List.mem_cons_self ..)).1
  refine q (.ref p) ⟨l2, m.h, c2⟩ H2 ⟨w.ext, fun b o z => ex3 b o (w.ex b o z), rfl, hk, w.co⟩ R3 ⟨p, xs, rfl, ?_, IsAll.mono ex3 _ _ i2⟩
  exact mask_at (m := ⟨l2, m.h, c2⟩) (R2.shown hp) e2 (by intro _ z; cases z)
end
theorem pts_weak {X : Cx} {ifs : List Expr} {t t' : TT} (h : PTs X ifs t) (q : ∀ σ H Q, t' σ H Q → t σ H Q) : PTs X ifs t' := ⟨fun pins s σ H Q I w => h.run pins s σ H Q I (q σ H Q w)⟩
theorem t_yes {X : Cx} : PTs X [] (TDt X.K fYes) := pts_weak pts_nil fun σ H Q ⟨m, env, S, R, E, b, S', e1, q⟩ => by
  cases e1
  exact q m H (Stp.refl m H) R
theorem t_one {X : Cx} {c : Expr} {t : FT} (h : PTd X c t) : PTs X [c] (TDt X.K t) := pts_one h
section
variable {X : Cx} {elt tg iter : Expr} {ifs : List Expr} {scope : Scope} {pos spos py : Pos} {it : FI} {g : FG} {t : FT} {e : FE} {i : Nat} {y : Str}
theorem d_lc (hX : SX X) (own : List (Str × Nat)) (hi : PId X tg iter it) (ok : BlkOk X.N X.env.scope scope own) (hg : ∀ (s : Shared) (H : Hp) (C : Addr) (cl : List (Str × Addr)) (fp : List Addr), PG (X.blk s H scope (compEnvC scope cl C X.env) fp) tg (TDw X.K (own.map (·.2)) g))
    (ht : ∀ (s : Shared) (H : Hp) (C : Addr) (cl : List (Str × Addr)) (fp : List Addr), PTs (X.blk s H scope (compEnvC scope cl C X.env) fp) ifs (TDt X.K t)) (he : ∀ (s : Shared) (H : Hp) (C : Addr) (cl : List (Str × Addr)) (fp : List Addr), PE (X.blk s H scope (compEnvC scope cl C X.env) fp) elt (TD X.K e))
    (hs : ∀ x, foldedSetIterable iter X.env x = pure x := by intro _; rfl) : PEd X (.ListComp elt [⟨tg, iter, ifs, 0⟩] scope pos) (fLc it g t e (own.map (·.2))) := pe_weak (pe_lc hX.calm hX.nd hi ok hg ht he hs) fun _ _ _ => lc_val
end
theorem SX.blk {X : Cx} (h : SX X) (s : Shared) (H : Hp) (scope : Scope) (cenv : PySem.Env) (fp : List Addr) : SX (X.blk s H scope cenv fp) := ⟨h.calm, h.nd, h.units, h.guards⟩
end DL
namespace SE
open PySem PySem.Calls PyProof.Rows PySem.W PySem.SeqAt
section
variable {A : Around} {s : Shared}
theorem call_tuple_lt {prog : Program} {w : World} {E : Value → Shared → Prop} {Q : Value → Shared → Prop} {l b : Addr} {items items2 : Array Value} {e r : Nat → Bool} (hl : s.heap.IsTuple l items) (hb : s.heap.IsTuple b items2)
    (he : ∀ j (h1 : j < items.size) (h2 : j < items2.size), EqAt A.in1 s items[j] items2[j] (e j)) (hr : ∀ j (h1 : j < items.size) (h2 : j < items2.size), e j = false → RcLt A.in1 s items[j] items2[j] (r j))
    (h : Q (.bool (firstLt e r (decide (items.size < items2.size)) (List.range (min items.size items2.size)))) s) : wpAny (model prog w) A (call (.builtin "tuple.__lt__") [.ref l, .ref b]) Q E s := by
  obtain ⟨⟨cls, dd, data, sl⟩, ho, hc, n, hd⟩ := id hl
  obtain ⟨⟨cls2, dd2, data2, sl2⟩, ho2, hc2, n2, hd2⟩ := id hb
  simp only at hc hd hc2 hd2
  subst hc hd hc2 hd2
  exact call_meets F.slot_tuple_lt ⟨_, ho, rfl⟩ F.entry_tuple_lt (F.args_tuple_lt_2 _ _) (tuple_ltAt l b items items2 n n2 dd dd2 sl sl2 e r) ⟨ho, ho2, he, hr, h⟩
end
section
variable {prog : Program} {w : World} {A : Around} {E : Value → Shared → Prop} {s : Shared}
theorem oneLt_tup {f : Bool} {xs ys : List PyData} {a b : Value} {as bs : List Addr} {Q : Bool → Shared → Prop} (ra : Reads s.heap a (.tuple xs) as) (rb : Reads s.heap b (.tuple ys) bs) (hal : alikeAll xs ys = true)
    (hu : A.units + min (PyData.tuple xs).depth (PyData.tuple ys).depth < cLine) (hq : Q (dataLt (.tuple xs) (.tuple ys)) s) : wpAny (model prog w) A (oneLt' f a b) Q E s := by
  cases f with
  | false => exact oneLt_alike (fun h => nomatch h) ra rb (by simpa [alike] using hal) (fun h => nomatch h) hu hq
  | true =>
    cases ra with
    | @tuple l o vs n _ as₁ h1 h2 h3 h4 =>
      cases rb with
      | @tuple l' o' vs' n' _ bs₁ k1 k2 k3 k4 =>
        have n1 : vs.size = xs.length := by simpa using ReadsAll.length _ _ _ h4
        have n2 : vs'.size = ys.length := by simpa using ReadsAll.length _ _ _ k4
        rw [dataLt_tuple, ← firstLt_toks xs ys hal, ← n1, ← n2] at hq
        rw [oneLt'_eq]
        simp only [if_true]
        refine wpAny_bind (wpAny_cRoomFor (room_here hu) ?_)
        refine wpAny_bind (wpAny_callSpecialIfBound?_slot (T := "tuple") ⟨_, h1, h2⟩ F.slot_tuple_lt (call_tuple_lt (e := pairEq xs ys) (r := fun j => dataLt (xs.getD j .none) (ys.getD j .none)) ⟨_, h1, h2, _, h3⟩ ⟨_, k1, k2, _, k3⟩ (fun j j1 j2 => ?_) (fun j j1 j2 hj => ?_) ?_))
        · have := eqAt_alikeAll xs ys A.in1 s vs.toList vs'.toList _ _ h4 k4 hal (room_in hu) j (by simpa using j1) (by simpa using j2)
          simpa using this
        · have := rcLt_alikeAll xs ys A.in1 s vs.toList vs'.toList _ _ h4 k4 hal (room_in hu) j (by simpa using j1) (by simpa using j2) hj
          simpa using this
        · exact wpAny_truthy_bool hq
def fstOf : PyData → Bool
  | .tuple (_ :: _) => true
  | _ => false
theorem firsts : ∀ {vs : List Value} {ds : List PyData} {Q : List (Option Value) → Shared → Prop}, EachIs (fun v d => ∃ as, Reads s.heap v d as) vs ds → (∀ d, d ∈ ds → ∃ xs, d = .tuple xs) →
    (∀ fs : List (Option Value), fs.map (·.isSome) = ds.map fstOf → Q fs s) → wpAny (model prog w) A (vs.mapM firstOfTuple') Q E s
  | _, _, Q, .nil, _, h => by
    rw [List.mapM_nil]
    exact wpAny_pure (h [] rfl)
  | _, _, Q, .cons (b := d) ⟨as, r⟩ t, hd, h => by
    rw [List.mapM_cons]
    refine wpAny_bind ?_
    rw [kas_first_eq]
    obtain ⟨xs, rfl⟩ := hd d (List.mem_cons_self ..)
    cases r with
    | @tuple a o vs n _ _ ho hc hdat hr =>
      refine wpAny_bind (Looks.here (show Looks _ s.heap (typeOf (.ref a)) o.cls from (Looks.ld ho).andThen .now) ?_)
      rw [hc, if_neg (by first | decide | simp)]
      refine wpAny_bind (listItems_at ho hdat (wpAny_pure ?_))
      refine wpAny_bind (firsts t (fun d hd' => hd d (List.mem_cons_of_mem _ hd')) fun fs hf => wpAny_pure (h _ ?_))
      rw [List.map_cons, List.map_cons, hf]
      congr 1
      have hn : vs.size = xs.length := by simpa using ReadsAll.length _ _ _ hr
      cases xs with
      | nil =>
        have : vs.size = 0 := hn
        simp [fstOf, this]
      | cons x r =>
        have : 0 < vs.size := by rw [hn]; exact Nat.succ_pos _
        simp [fstOf, this]
theorem SortsAt.tups {vs : List Value} {ds : List PyData} (e : EachIs (fun v d => ∃ as, Reads s.heap v d as) vs ds) (hal : AllAlike ds) (ht : ∀ d, d ∈ ds → ∃ xs, d = .tuple xs) (hu : ∀ d, d ∈ ds → A.units + d.depth < cLine) : SortsAt prog w A s (dataKind s.heap ds) vs := by
  by_cases hne : ∀ d, d ∈ ds → ∃ x r, d = .tuple (x :: r)
  · exact SortsAt.data e hal (.inl hne) hu
  have hlt : ∀ kd : SortKind, (kd = general' ∨ kd = oneType') → H.LtAt prog w A s (dataKind s.heap ds) kd := by
    intro kd hk E x y a b Q ha hb hq
    obtain ⟨d, as, hd, ra, rfl⟩ := dataKind_inv ha
    obtain ⟨d', as', hd', rb, rfl⟩ := dataKind_inv hb
    have hdd := hal d hd d' hd'
    have hroom : A.units + min d.depth d'.depth < cLine := Nat.lt_of_le_of_lt (Nat.add_le_add_left (Nat.min_le_left _ _) _) (hu d hd)
    obtain ⟨xs, rfl⟩ := ht d hd
    obtain ⟨ys, rfl⟩ := ht d' hd'
    rcases hk with rfl | rfl
    · exact oneLt_tup (f := false) ra rb (by simpa [alike] using hdd) hroom hq
    · exact oneLt_tup (f := true) ra rb (by simpa [alike] using hdd) hroom hq
  refine ⟨fun v hv => ?_, ?_⟩
  · obtain ⟨d, hd, as, r⟩ := e.left v hv
    exact ⟨_, dataKind_some hal hd r⟩
  have hno : ds.all fstOf = false := by
    cases h : ds.all fstOf with
    | false => rfl
    | true =>
      refine absurd (fun d hd => ?_) hne
      have := List.all_eq_true.mp h d hd
      obtain ⟨xs, rfl⟩ := ht d hd
      cases xs with
      | nil => cases this
      | cons x r => exact ⟨x, r, rfl⟩
  refine ⟨if (ds.head?.map fstOf).getD false = true then general' else oneType', hlt _ (by split; exact .inl rfl; exact .inr rfl), fun h2 E Q hq => ?_⟩
  rw [keyKind'_eq, List.mapM_toArray, map_eq_pure_bind]
  refine wpAny_bind (wpAny_bind (firsts e ht fun fs hf => wpAny_pure ?_))
  have hall : (fs.toArray.all fun x => x.isSome) = false := by
    rw [List.all_toArray]
    have h1 : (fs.map (·.isSome)).all id = (ds.map fstOf).all id := by rw [hf]
    rw [List.all_map, List.all_map] at h1
    exact h1.trans hno
  rw [if_neg (by rw [hall]; decide)]
  have hl := e.length
  obtain ⟨d0, ds', rfl⟩ : ∃ d0 ds', ds = d0 :: ds' := by
    cases ds with
    | nil => rw [hl] at h2; simp at h2
    | cons d ds => exact ⟨d, ds, rfl⟩
  obtain ⟨f0, fr, rfl⟩ : ∃ f0 fr, fs = f0 :: fr := by
    cases fs with
    | nil => cases hf
    | cons f fs => exact ⟨f, fs, rfl⟩
  have hf0 : f0.isSome = fstOf d0 := by
    have := congrArg List.head? hf
    simpa using this
  have hq' : Q (if fstOf d0 = true then general' else oneType') s := hq
  have hb : (((f0 :: fr).toArray[0]?).bind id).isSome = fstOf d0 := by
    rw [← hf0]
    simp
  rw [hb]
  cases hd0 : fstOf d0 with
  | true =>
    rw [hd0] at hq'
    rw [if_pos rfl]
    exact wpAny_pure hq'
  | false =>
    rw [hd0] at hq'
    rw [if_neg (by decide)]
    have hT : ∀ v ∈ vs, Looks (model prog w) s.heap (typeOf v) (Value.type "tuple") := fun v hv => by
      obtain ⟨d, hd, as, r⟩ := e.left v hv
      obtain ⟨xs, rfl⟩ := ht d hd
      exact looks_reads r
    obtain ⟨v₁, vr, rfl⟩ : ∃ v₁ vr, vs = v₁ :: vr := by
      cases vs with
      | nil => simp at h2
      | cons v vs => exact ⟨v, vs, rfl⟩
    rw [oneTypeOnly'_eq, List.mapM_toArray, map_eq_pure_bind]
    refine wpAny_bind (wpAny_bind (wpAny_bind (kas_mapM (r := Value.type "tuple") _ (fun v hv Q' hq => (hT v hv).here hq) (wpAny_pure ?_))))
    have hall2 : ((List.map (fun _ => Value.type "tuple") (v₁ :: vr)).toArray.all fun x => x == Value.type "tuple") = true := by
      rw [List.all_toArray, List.all_map]
      exact List.all_eq_true.mpr fun _ _ => rfl
    have h0 : (List.map (fun _ => Value.type "tuple") (v₁ :: vr)).toArray[0]? = some (Value.type "tuple") := by simp
    rw [h0]
    simp only [hall2, if_true]
    exact wpAny_pure (wpAny_pure hq')
end
section
variable {prog : Program} {w : World} {A : Around} {E : Value → Shared → Prop} {s : Shared} {β : Type} {vs : List Value} {bs : List β} {enc : β → PyData} {R : Value → β → Prop}
theorem sorted_tups {l : Addr} {Q : Value → Shared → Prop} (hl : s.heap.IsList l vs.toArray) (e : EachIs R vs bs) (er : EachIs (fun v b => ∃ as, Reads s.heap v (enc b) as) vs bs) (hal : AllAlike (bs.map enc)) (ht : ∀ d, d ∈ bs.map enc → ∃ xs, d = .tuple xs) (hL : bs.length ≤ sizeLine)
    (hu : ∀ b, b ∈ bs → A.units + 2 + (enc b).depth < cLine) (h : ∀ out, out.length = bs.length → EachIs R out (bs.mergeSort (dataLe false enc)) → Q (.ref (s.heap.objs.size + 1)) { s with heap := sortedAll s.heap vs (List.toArray out) }) :
    wpAny (model prog w) A (call (.builtin "sorted") [.ref l]) Q E s := by
  have er' : EachIs (fun v b => ∃ as, Reads (sortingHeap (copyHeap s.heap vs) (s.heap.objs.size + 1) vs) v (enc b) as) vs bs := er.mono fun _ _ ⟨as, r⟩ => ⟨as, PyProof.Rows.Reads.keeps (fun _ _ => sorting_copy_old) r⟩
  exact sorted_vals hl (SortsAt.tups (s := { s with heap := sortingHeap (copyHeap s.heap vs) (s.heap.objs.size + 1) vs }) (each_map (R := fun v d => ∃ as, Reads (sortingHeap (copyHeap s.heap vs) (s.heap.objs.size + 1) vs) v d as) enc er') hal ht (bound_map hu)) (by rw [e.length]; exact hL)
    (h _ (by rw [sortVals_length false rfl]; exact e.length) (sortVals_data false e er' hal))
end
section
variable {prog : Program} {w : World} {A : Around} {E : Value → Shared → Prop} {s : Shared}
theorem collect_tup {l : Addr} {vs : List Value} {Q : List Value → Shared → Prop} (hl : s.heap.IsTuple l vs.toArray)
    (h : Q vs { s with heap := (s.heap.push (seqObj "list" #[] 0)).update s.heap.objs.size (Obj.mapSeq (· ++ vs.toArray)) }) (hsz : vs.length ≤ sizeLine) :
    wpAny (model prog w) A (collect (.ref l)) Q E s := by
  obtain ⟨o, ho, hc, n, hd⟩ := id hl
  unfold collect
  refine wpAny_bind (wpAny_runValue (codeAny_builtin entry_proto_collect' ?_))
  show wpAny _ _ (do again (.builtin "list.__iadd__" ⟨[← newList [], .ref l], []⟩)) _ _ s
  refine wpAny_bind (wpAny_newList (wpAny_pure ⟨Code.quiet_builtin _ (by decide +kernel), codeAny_builtin entry_list_iadd' ?_⟩))
  show wpAny _ _ (Builtin.List.listExtendWith (.ref s.heap.objs.size) (.ref l) (.ref s.heap.objs.size)) _ _ { s with heap := s.heap.push (seqObj "list" #[] 0) }
  unfold Builtin.List.listExtendWith
  have ho' : (s.heap.push (seqObj "list" #[] 0)).get? l = some o := Heap.get?_push_of_some _ ho
  refine wpAny_bind (wpAny_typeOf (T := "tuple") ⟨o, ho', hc⟩ ?_)
  have ht : (Value.type "tuple" == Value.type "tuple") = true := by rfl
  rw [if_pos (by rw [ht]; simp)]
  refine wpAny_bind (listItems_at ho' hd ?_)
  refine wpAny_bind (listItems_at (xs := #[]) (n := 0) (Heap.get?_push_size _ rfl) rfl ?_)
  rw [if_neg (by simp)]
  refine wpAny_bind (listUpdate_at (xs := #[]) (n := 0) (Heap.get?_push_size _ rfl) rfl ?_ (Nat.zero_le _) (by show (#[] ++ vs.toArray).size ≤ sizeLine + 1; simp only [Array.size_append, List.size_toArray, List.length_nil]; omega))
  refine wpAny_pure ?_
  show wpAny (model prog w) A (do
      let o ← load s.heap.objs.size
      match o.data with
      | .seq xs _ => pure xs.toList
      | _ => unsupported "internal:collect") Q E { s with heap := (s.heap.push (seqObj "list" #[] 0)).update s.heap.objs.size (Obj.mapSeq (· ++ vs.toArray)) }
  refine wpAny_bind (wpAny_load (get?_update_seq (Heap.get?_push_size _ rfl) _) ?_)
  show wpAny _ _ (pure ((#[] : Array Value) ++ vs.toArray).toList) Q E _
  rw [show ((#[] : Array Value) ++ vs.toArray).toList = vs by simp]
  exact wpAny_pure h
theorem sorted_of_sortT {l : Addr} {vs : List Value} {Q : Value → Shared → Prop} (hl : s.heap.IsTuple l vs.toArray) (hL : vs.length ≤ sizeLine)
    (body : ∀ E' : Value → Shared → Prop, wpAny (model prog w) A.in1.in1 (Builtin.«list.sort» ⟨[.ref (s.heap.objs.size + 1)], []⟩) (fun f s' => f = .done (.ret .none) ∧ Q (.ref (s.heap.objs.size + 1)) s') E' { s with heap := copyHeap s.heap vs }) :
    wpAny (model prog w) A (call (.builtin "sorted") [.ref l] []) Q E s := by
  refine call_function_entry_kw kind_sorted plain_sorted entry_sorted (args_sorted1 _) ?_
  unfold Builtin.«sorted»
  refine wpAny_bind (m := checkCount "sorted" 1 1 _) (wpAny_pure ?_)
  refine wpAny_bind (collect_tup hl ?_ hL)
  refine wpAny_bind (wpAny_newList ?_ hL)
  have hsz : ((s.heap.push (seqObj "list" #[] 0)).update s.heap.objs.size (Obj.mapSeq (· ++ vs.toArray))).objs.size = s.heap.objs.size + 1 := by
    rw [Heap.size_update, size_push']
  show wpAny _ _ _ _ _ { s with heap := copyHeap s.heap vs }
  rw [hsz]
  refine wpAny_bind (wpAny_holding (wpAny_call_entry_kw slot_list_sort ⟨_, copyHeap_at s.heap vs, rfl⟩ entry_list_sort ?body (args_list_sort _)))
  case body =>
    show wpAny (model prog w) A.in1.in1 (Builtin.«list.sort» ⟨[.ref (s.heap.objs.size + 1)], []⟩) _ _ _
    refine wpAny_mono (body _) (fun f s' hf => ?_) fun _ _ e => e
    obtain ⟨rfl, hq⟩ := hf
    exact ⟨_, rfl, wpAny_pure ⟨_, rfl, hq⟩⟩
end
section
variable {prog : Program} {w : World} {A : Around} {E : Value → Shared → Prop} {s : Shared} {β : Type} {vs : List Value} {bs : List β} {enc : β → PyData} {R : Value → β → Prop}
theorem sorted_T {l : Addr} {Q : Value → Shared → Prop} (hl : s.heap.IsTuple l vs.toArray) (e : EachIs R vs bs) (er : EachIs (fun v b => ∃ as, Reads s.heap v (enc b) as) vs bs) (hal : AllAlike (bs.map enc)) (hk : (∀ d, d ∈ bs.map enc → ∃ xs, d = .tuple xs) ∨ Sortable (bs.map enc)) (hL : bs.length ≤ sizeLine)
    (hu : ∀ b, b ∈ bs → A.units + 2 + (enc b).depth < cLine) (h : ∀ out, out.length = bs.length → EachIs R out (bs.mergeSort (dataLe false enc)) → Q (.ref (s.heap.objs.size + 1)) { s with heap := sortedAll s.heap vs (List.toArray out) }) :
    wpAny (model prog w) A (call (.builtin "sorted") [.ref l]) Q E s := by
  have er' : EachIs (fun v b => ∃ as, Reads (sortingHeap (copyHeap s.heap vs) (s.heap.objs.size + 1) vs) v (enc b) as) vs bs := er.mono fun _ _ ⟨as, r⟩ => ⟨as, PyProof.Rows.Reads.keeps (fun _ _ => sorting_copy_old) r⟩
  have hLv : vs.length ≤ sizeLine := by rw [e.length]; exact hL
  have er2 := each_map (R := fun v d => ∃ as, Reads (sortingHeap (copyHeap s.heap vs) (s.heap.objs.size + 1) vs) v d as) enc er'
  refine sorted_of_sortT hl hLv fun E' => ?_
  refine list_sort_vals (κ := dataKind (sortingHeap (copyHeap s.heap vs) (s.heap.objs.size + 1) vs) (bs.map enc)) (s := { s with heap := copyHeap s.heap vs }) (copyHeap_at s.heap vs) ?_ hLv ⟨rfl, h _ (by rw [sortVals_length false rfl]; exact e.length) (sortVals_data false e er' hal)⟩
  rcases hk with ht | hk
  · exact SortsAt.tups (s := { s with heap := sortingHeap (copyHeap s.heap vs) (s.heap.objs.size + 1) vs }) er2 hal ht (bound_map hu)
  · exact SortsAt.data (s := { s with heap := sortingHeap (copyHeap s.heap vs) (s.heap.objs.size + 1) vs }) er2 hal hk (bound_map hu)
end
end SE
namespace DL
open PySem PySem.Spec PyProof.Rows L2
variable [Tb]
def deAll (S : Sto) : List D → Option (List P)
  | [] => some []
  | d :: ds => match deP S d with
    | some p => (deAll S ds).map (p :: ·)
    | none => none
@[simp] theorem deAll_nil (S : Sto) : deAll S [] = some [] := rfl
@[simp] theorem deAll_v (S : Sto) (p : P) (ds : List D) : deAll S (.v p :: ds) = (deAll S ds).map (p :: ·) := rfl
def IsRs (K : PySem.W.Frag) (m : Mp) (H : Hp) : List P → List V → Prop
  | [], xs => xs = []
  | p :: ps, xs => ∃ v vs, xs = v :: vs ∧ IsR K m H p v ∧ IsRs K m H ps vs
theorem deAll_is {K : PySem.W.Frag} {m : Mp} {H : Hp} {S : Sto} (R : Rel K m H S) : ∀ {ds : List D} {ps : List P} {vs : List V}, deAll S ds = some ps → IsDs K m (mask m H) ds vs → IsRs K m H ps vs
  | [], ps, vs, h, i => by
    cases h
    exact i
  | d :: ds, ps, vs, h, ⟨v, ws, h1, h2, h3⟩ => by
    unfold deAll at h
    cases e : deP S d with
    | none => rw [e] at h; cases h
    | some p =>
      rw [e] at h
      obtain ⟨qs, h4, h5⟩ := Option.map_eq_some_iff.mp h
      subst h5
      exact ⟨v, ws, h1, isR_of R h2 e, deAll_is R h4 h3⟩
def fCb (op : List P → Option P) (g : FA) : FE := fun env S => (g env S).bind fun ds S1 => match deAll S1 ds with
  | some ps => oP (op ps) S1
  | none => .bad
def oB (o : Option P) (S : Sto) : Oc D := match o with
  | some (.lst qs) => .ok (.r S.length) (S ++ [.lst qs])
  | _ => .bad
@[simp] theorem oB_some (qs : List P) (S : Sto) : oB (some (.lst qs)) S = .ok (.r S.length) (S ++ [.lst qs]) := rfl
def fCbB (op : List P → Option P) (g : FA) : FE := fun env S => (g env S).bind fun ds S1 => match deAll S1 ds with
  | some ps => oB (op ps) S1
  | none => .bad
def OpN (K : PySem.W.Frag) (r : List V → Hp → VK → Prop) (op : List P → Option P) : Prop :=
  ∀ m H S ps u xs Q, Rel K m H S → IsRs K m H ps xs → op ps = some u → Kont K m H S u Q → r xs H Q
def OpL (K : PySem.W.Frag) (r : List V → Hp → VK → Prop) (op : List P → Option P) : Prop :=
  ∀ m H S ps qs xs Q, Rel K m H S → IsRs K m H ps xs → op ps = some (.lst qs) → (∀ ys, IsAll K (mask m H) qs ys → ∀ p, H p = none → Q (.ref p) (upd H p (.lst ys))) → r xs H Q
section
variable {K : PySem.W.Frag} {g : FA} {σ : L2.St} {H : Hp} {Q : VK}
theorem td_cb {r : List V → Hp → VK → Prop} {op : List P → Option P} (ho : OpN K r op) (h : TD K (fCb op g) σ H Q) : tCB r (TDa K g) σ H Q := by
  obtain ⟨m, env, S, R, E, d', S', e1, q⟩ := h
  obtain ⟨ds, S1, k1, e2⟩ := Oc.bind_eq e1
  refine ⟨m, env, S, R, E, ds, S1, k1, fun vs m1 H1 st1 R1 i1 => ?_⟩
  cases h1 : deAll S1 ds with
  | none => simp [h1] at e2
  | some ps =>
    cases h2 : op ps with
    | none => simp [h1, h2] at e2
    | some u =>
      simp [h1, h2] at e2
      obtain ⟨rfl, rfl⟩ := e2
      exact ho m1 H1 S1 ps u vs Q R1 (deAll_is R1 h1 i1) h2 fun v m3 H3 st3 R3 i3 => q v m3 H3 (st1.trans st3) R3 i3
end
theorem cr_or {X : Cx} {f : Value} {r r' : List V → Hp → VK → Prop} (h : CallR X f r) (h' : CallR X f r') : CallR X f (fun xs H Q => r xs H Q ∨ r' xs H Q) := by
  intro pins s σ H xs us Q I rv q
  rcases q with q | q
  · exact h pins s σ H xs us Q I rv q
  · exact h' pins s σ H xs us Q I rv q
theorem IsRs.one {K : PySem.W.Frag} {m : Mp} {H : Hp} {p : P} {xs : List V} (h : IsRs K m H [p] xs) : ∃ x, xs = [x] ∧ IsR K m H p x := by
  obtain ⟨v, vs, rfl, h1, h2⟩ := h
  have h2' : vs = [] := h2
  subst h2'
  exact ⟨v, rfl, h1⟩
def bLen : List P → Option P
  | [.lst ps] => some (.int ps.length)
  | [.frz ps] => some (.int ps.length)
  | [.tup ps] => some (.int ps.length)
  | [.str x] => if x.length ≤ 100000 then some (.int x.length) else none
  | [.dic ks _] => some (.int ks.length)
  | _ => none
def bList : List P → Option P
  | [.lst ps] => some (.lst ps)
  | [.frz ps] => some (.lst ps)
  | [.tup ps] => some (.lst ps)
  | _ => none
def bTuple : List P → Option P
  | [.lst ps] => some (.tup ps)
  | [.frz ps] => some (.tup ps)
  | [.tup ps] => some (.tup ps)
  | _ => none
def bInt : List P → Option P
  | [.int i] => some (.int i)
  | [.bl b] => some (.int (if b then 1 else 0))
  | _ => none
def bools : List P → Option (List Bool)
  | [] => some []
  | .bl b :: ps => (bools ps).map (b :: ·)
  | _ :: _ => none
def bAll : List P → Option P
  | [.lst ps] => (bools ps).map fun bs => .bl (bs.all id)
  | _ => none
theorem bools_is {K : PySem.W.Frag} {G : Hp} : ∀ {ps : List P} {bs : List Bool} {vs : List V}, bools ps = some bs → IsAll K G ps vs → vs = bs.map V.bl
  | [], bs, vs, h, i => by cases h; exact i
  | .bl b :: ps, bs, vs, h, ⟨v, ws, h1, h2, h3⟩ => by
    unfold bools at h
    obtain ⟨cs, h4, h5⟩ := Option.map_eq_some_iff.mp h
    subst h5 h1
    have h2' : v = .bl b := h2
    rw [h2', bools_is h4 h3]
    rfl
  | .non :: _, _, _, h, _ => by cases h
  | .int _ :: _, _, _, h, _ => by cases h
  | .str _ :: _, _, _, h, _ => by cases h
  | .tup _ :: _, _, _, h, _ => by cases h
  | .lst _ :: _, _, _, h, _ => by cases h
  | .frz _ :: _, _, _, h, _ => by cases h
  | .dic _ _ :: _, _, _, h, _ => by cases h
  | .fn _ :: _, _, _, h, _ => by cases h
section
variable {K : PySem.W.Frag}
theorem sq_r {m : Mp} {H : Hp} {ps : List P} {x : V} (h : IsR K m H (.lst ps) x) : ∃ a xs, x = .ref a ∧ SqL K H a xs ∧ IsAll K (mask m H) ps xs := by
  obtain ⟨a, xs, h1, h2, h3⟩ := h
  exact ⟨a, xs, h1, .of h2, h3⟩
theorem sq_f {m : Mp} {H : Hp} {ps : List P} {x : V} (h : IsR K m H (.frz ps) x) : ∃ a xs, x = .ref a ∧ SqL K H a xs ∧ IsAll K (mask m H) ps xs := by
  obtain ⟨a, xs, h1, h2, h3⟩ := h
  exact ⟨a, xs, h1, sqL_mono (mask_ex m H) h2, h3⟩
theorem sq_t {m : Mp} {H : Hp} {ps : List P} {x : V} (h : IsR K m H (.tup ps) x) : ∃ a xs, x = .ref a ∧ SqT K H a xs ∧ IsAll K (mask m H) ps xs := by
  obtain ⟨a, xs, h1, h2, h3⟩ := h
  exact ⟨a, xs, h1, sqT_mono (mask_ex m H) h2, h3⟩
abbrev rLenAll (K : PySem.W.Frag) : List V → Hp → VK → Prop := fun xs H Q => (∃ x n, xs = [x] ∧ LenV K x H n ∧ Q (.int n) H) ∨ ∃ a kvs, xs = [V.ref a] ∧ H a = some (.dK kvs) ∧ Q (.int kvs.length) H
theorem on_len : OpN K (rLenAll K) bLen := by
  intro m H S ps u xs Q R h e k
  unfold bLen at e
  split at e
  · cases e
    obtain ⟨x, rfl, h0⟩ := h.one
    obtain ⟨a, ys, rfl, h1, h2⟩ := sq_r h0
    exact .inl ⟨_, ys.length, rfl, .inl ⟨ys, h1, rfl⟩, k.here R (by rw [h2.len]; rfl)⟩
  · cases e
    obtain ⟨x, rfl, h0⟩ := h.one
    obtain ⟨a, ys, rfl, h1, h2⟩ := sq_f h0
    exact .inl ⟨_, ys.length, rfl, .inl ⟨ys, h1, rfl⟩, k.here R (by rw [h2.len]; rfl)⟩
  · cases e
    obtain ⟨x, rfl, h0⟩ := h.one
    obtain ⟨a, ys, rfl, h1, h2⟩ := sq_t h0
    exact .inl ⟨_, ys.length, rfl, .inr ⟨ys, h1, rfl⟩, k.here R (by rw [h2.len]; rfl)⟩
  · split at e
    · rename_i z hl
      cases e
      obtain ⟨x, rfl, h0⟩ := h.one
      have h' : x = .str z := h0
      subst h'
      exact .inl ⟨_, z.length, rfl, ⟨size_of hl, rfl⟩, k.here R rfl⟩
    · cases e
  · cases e
    obtain ⟨x, rfl, h0⟩ := h.one
    obtain ⟨a, ys, rfl, h1, h2, h3, h4⟩ := h0
    refine .inr ⟨a, _, rfl, h1, k.here R ?_⟩
    show V.int _ = V.int _
    rw [List.length_zip, h2, Nat.min_self]
  · cases e
theorem ol_list : OpL K (fun xs H Q => ∃ p ys, xs = [.ref p] ∧ (SqL K H p ys ∨ SqT K H p ys) ∧ ∀ l, H l = none → Q (.ref l) (upd H l (.lst ys))) bList := by
  intro m H S ps qs xs Q R h e k
  unfold bList at e
  split at e
  · cases e
    obtain ⟨x, rfl, h0⟩ := h.one
    obtain ⟨a, ys, rfl, h1, h2⟩ := sq_r h0
    exact ⟨a, ys, rfl, .inl h1, k ys h2⟩
  · cases e
    obtain ⟨x, rfl, h0⟩ := h.one
    obtain ⟨a, ys, rfl, h1, h2⟩ := sq_f h0
    exact ⟨a, ys, rfl, .inl h1, k ys h2⟩
  · cases e
    obtain ⟨x, rfl, h0⟩ := h.one
    obtain ⟨a, ys, rfl, h1, h2⟩ := sq_t h0
    exact ⟨a, ys, rfl, .inr h1, k ys h2⟩
  · cases e
theorem on_of_ol {r : List V → Hp → VK → Prop} {op : List P → Option P} (h : OpL K r op) (hl : ∀ ps u, op ps = some u → ∃ qs, u = .lst qs) : OpN K r op := by
  intro m H S ps u xs Q R hx e k
  obtain ⟨qs, rfl⟩ := hl ps u e
  exact h m H S ps qs xs Q R hx e fun ys iy => newLst R iy k
theorem bList_lst (ps : List P) (u : P) (e : bList ps = some u) : ∃ qs, u = .lst qs := by
  unfold bList at e
  split at e
  · cases e; exact ⟨_, rfl⟩
  · cases e; exact ⟨_, rfl⟩
  · cases e; exact ⟨_, rfl⟩
  · cases e
theorem on_tuple : OpN K (fun xs H Q => ∃ p ys, xs = [.ref p] ∧ ((SqL K H p ys ∧ ∀ l, H l = none → Q (.ref l) (upd H l (.tup ys))) ∨ (SqT K H p ys ∧ Q (.ref p) H))) bTuple := by
  intro m H S ps u xs Q R h e k
  unfold bTuple at e
  split at e
  · cases e
    obtain ⟨x, rfl, h0⟩ := h.one
    obtain ⟨a, ys, rfl, h1, h2⟩ := sq_r h0
    exact ⟨a, ys, rfl, .inl ⟨h1, newTup R h2 k⟩⟩
  · cases e
    obtain ⟨x, rfl, h0⟩ := h.one
    obtain ⟨a, ys, rfl, h1, h2⟩ := sq_f h0
    exact ⟨a, ys, rfl, .inl ⟨h1, newTup R h2 k⟩⟩
  · cases e
    obtain ⟨x, rfl, h0⟩ := h.one
    obtain ⟨a, ys, rfl, h1, h2⟩ := h0
    exact ⟨a, ys, rfl, .inr ⟨sqT_mono (mask_ex m H) h1, k.here R ⟨a, ys, rfl, h1, h2⟩⟩⟩
  · cases e
theorem on_int : OpN K (fun xs H Q => (∃ i, xs = [.int i] ∧ Q (.int i) H) ∨ ∃ k, xs = [.bl k] ∧ Q (.int (if k then 1 else 0)) H) bInt := by
  intro m H S ps u xs Q R h e k
  unfold bInt at e
  split at e
  · cases e
    obtain ⟨x, rfl, h1⟩ := h.one
    have h1' : x = .int _ := h1
    subst h1'
    exact .inl ⟨_, rfl, k.here R rfl⟩
  · cases e
    obtain ⟨x, rfl, h1⟩ := h.one
    have h1' : x = .bl _ := h1
    subst h1'
    exact .inr ⟨_, rfl, k.here R rfl⟩
  · cases e
theorem on_all : OpN K (rAll K) bAll := by
  intro m H S ps u xs Q R h e k
  unfold bAll at e
  split at e
  · obtain ⟨bs, h4, h5⟩ := Option.map_eq_some_iff.mp e
    subst h5
    obtain ⟨x, rfl, h0⟩ := h.one
    obtain ⟨a, ys, rfl, h1, h2⟩ := sq_r h0
    exact ⟨a, bs, rfl, by rw [← bools_is h4 h2]; exact h1, k.here R rfl⟩
  · cases e
end
def alikeB (ds : List PyData) : Bool := ds.all fun d => ds.all fun e => PySem.W.alike d e
def sortableB (ds : List PyData) : Bool := (ds.all fun d => match d with | .tuple _ => true | _ => false) || (ds.all fun d => match d with | .none => false | .tuple _ => false | _ => true)
def pyOf (p : P) : PyData := (toPy p).getD .none
def bSorted : List P → Option P
  | [.lst ps] => match toPys ps with
    | some ds => if alikeB ds = true ∧ sortableB ds = true ∧ ps.length ≤ 100000 ∧ (ds.all fun d => decide (d.depth ≤ 64)) = true then some (.lst (ps.mergeSort (PySem.W.dataLe false pyOf))) else none
    | none => none
  | [.tup ps] => match toPys ps with
    | some ds => if alikeB ds = true ∧ sortableB ds = true ∧ ps.length ≤ 100000 ∧ (ds.all fun d => decide (d.depth ≤ 64)) = true then some (.lst (ps.mergeSort (PySem.W.dataLe false pyOf))) else none
    | none => none
  | _ => none
theorem toPys_map : ∀ {ps : List P} {ds : List PyData}, toPys ps = some ds → ds = ps.map pyOf ∧ ∀ p ∈ ps, toPy p = some (pyOf p)
  | [], ds, h => by cases h; exact ⟨rfl, fun _ h => nomatch h⟩
  | p :: ps, ds, h => by
    unfold toPys at h
    split at h
    · rename_i d es h1 h2
      cases h
      obtain ⟨a, b⟩ := toPys_map h2
      have e : pyOf p = d := by unfold pyOf; rw [h1]; rfl
      refine ⟨by rw [a, List.map_cons, e], fun q hq => ?_⟩
      rcases List.mem_cons.mp hq with rfl | hq
      · rw [e]; exact h1
      · exact b q hq
    · cases h
section
variable {X : Cx}
def SortR (K : PySem.W.Frag) (m : Mp) (H : Hp) (v : Value) (p : P) : Prop := ∃ x, RelV x v ∧ Is K (mask m H) p x
theorem each_of {K : PySem.W.Frag} {m : Mp} {H : Hp} : ∀ {ps : List P} {xs : List V} {us : List Value}, IsAll K (mask m H) ps xs → Vals xs us → PySem.W.EachIs (SortR K m H) us ps
  | [], _, _, h, r => by
    have h' : _ = [] := h
    subst h'
    cases r
    exact .nil
  | p :: ps, _, _, ⟨v, vs, h1, h2, h3⟩, r => by
    subst h1
    cases r with
    | cons r1 r2 => exact .cons ⟨v, r1, h2⟩ (each_of h3 r2)
theorem all_of_each {K : PySem.W.Frag} {m : Mp} {H : Hp} : ∀ {ps : List P} {us : List Value}, PySem.W.EachIs (SortR K m H) us ps → ∃ xs, IsAll K (mask m H) ps xs ∧ Vals xs us
  | _, _, .nil => ⟨[], rfl, .nil⟩
  | _, _, .cons ⟨v, r1, h2⟩ t => by
    obtain ⟨xs, h3, r2⟩ := all_of_each t
    exact ⟨v :: xs, ⟨v, xs, rfl, h2, h3⟩, .cons r1 r2⟩
theorem each_reads {m : Mp} {pins : List (Addr × Obj)} {σ : L2.St} {H : Hp} {s : Shared} (I : Inv X pins σ H s) : ∀ {us : List Value} {ps : List P}, (∀ p ∈ ps, toPy p = some (pyOf p)) → PySem.W.EachIs (SortR X.K m H) us ps → PySem.W.EachIs (fun v b => ∃ as, Reads s.heap v (pyOf b) as) us ps
  | _, _, _, .nil => .nil
  | _, _, hp, .cons ⟨x, r1, h2⟩ t => .cons (Dp.reads I _ x _ (Is.dp _ x _ (Is.mono (mask_ex m H) _ _ h2) (hp _ (List.mem_cons_self ..))) r1) (each_reads I (fun q hq => hp q (List.mem_cons_of_mem _ hq)) t)
theorem sortable_of {ds : List PyData} (h : sortableB ds = true) : (∀ d, d ∈ ds → ∃ xs, d = .tuple xs) ∨ PySem.W.Sortable ds := by
  unfold sortableB at h
  rcases Bool.or_eq_true_iff.mp h with h | h
  · refine .inl fun d hd => ?_
    have q := List.all_eq_true.mp h d hd
    split at q
    · exact ⟨_, rfl⟩
    · cases q
  · refine .inr (.inr fun d hd => ?_)
    have q := List.all_eq_true.mp h d hd
    refine ⟨fun e => ?_, fun xs e => ?_⟩
    · subst e; cases q
    · subst e; cases q
theorem alike_of {ds : List PyData} (h : alikeB ds = true) : PySem.W.AllAlike ds := fun d hd d' hd' => List.all_eq_true.mp (List.all_eq_true.mp h d hd) d' hd'
def rSortD (K : PySem.W.Frag) : List V → Hp → VK → Prop := fun xs H Q => ∃ a ys m ps qs, xs = [.ref a] ∧ (SqL K H a ys ∨ SqT K H a ys) ∧ IsAll K (mask m H) ps ys ∧ bSorted [.lst ps] = some (.lst qs) ∧ ∀ zs, IsAll K (mask m H) qs zs → ∀ p, H p = none → Q (.ref p) (upd H p (.lst zs))
theorem cr_sortD (hX : SX X) : CallR X (.builtin "sorted") (rSortD X.K) := by
  intro pins s σ H vs us Q I r h
  obtain ⟨a, ys, m, ps, qs, rfl, hs, hi, hb, q⟩ := h
  obtain ⟨its, rv, hl, hz⟩ : ∃ its : List Value, Vals ys its ∧ (PlainL s.heap a its.toArray ∨ IsTup s.heap a its.toArray) ∧ ys.length ≤ sizeLine := by
    rcases hs with hs | hs
    · obtain ⟨its, rv, hl, hz⟩ := I.list hs
      exact ⟨its, rv, .inl hl, hz⟩
    · obtain ⟨its, rv, hl, hz⟩ := I.tuple hs
      exact ⟨its, rv, .inr hl, hz⟩
  rw [Vals.ref1 r]
  unfold bSorted at hb
  cases hp : toPys ps with
  | none => simp [hp] at hb
  | some ds =>
    simp only [hp] at hb
    split at hb
    · rename_i hc
      obtain ⟨c1, c2, c3, c4⟩ := hc
      cases hb
      obtain ⟨e1, e2⟩ := toPys_map hp
      subst e1
      have hu := hX.units
      have he := each_of hi rv
      have fin : ∀ out : List Value, out.length = ps.length → PySem.W.EachIs (SortR X.K m H) out (ps.mergeSort (PySem.W.dataLe false pyOf)) → EP X pins σ Q (.ref (s.heap.objs.size + 1)) { s with heap := PyProof.Rows.sortedAll s.heap its (List.toArray out) } := fun out h1 h2 => by
        obtain ⟨zs, iz, rz⟩ := all_of_each h2
        obtain ⟨ep, he'⟩ := PyProof.Rows.sortedAll_at s.heap its out.toArray
        have hlen : zs.length ≤ sizeLine := by
          rw [← iz.len, List.length_mergeSort]
          exact size_of c3
        exact ⟨.ref _, upd H (s.heap.objs.size + 1) (.lst zs), I.laid (t' := s.toks) (fun _ _ => PyProof.Rows.sortedAll_old) (Nat.le_succ _) ⟨hlen, out, ep, rz, he'⟩, rfl, q zs iz _ (I.hok.fresh (Nat.le_succ _))⟩
      have hdep : ∀ b ∈ ps, X.A.units + 2 + (pyOf b).depth < cLine := fun b hb => by
        have q := of_decide_eq_true (List.all_eq_true.mp c4 (pyOf b) (List.mem_map_of_mem hb))
        omega
      rcases hl with hl | hl
      · rcases sortable_of c2 with ht | hk
        · exact SE.sorted_tups hl.isList he (each_reads I e2 he) (alike_of c1) ht (size_of c3) hdep fin
        · exact PySem.W.sorted_data hl.isList he (each_reads I e2 he) (alike_of c1) hk (size_of c3) hdep fin
      · exact SE.sorted_T hl he (each_reads I e2 he) (alike_of c1) (sortable_of c2) (size_of c3) hdep fin
    · cases hb
theorem ol_sorted {K : PySem.W.Frag} : OpL K (rSortD K) bSorted := by
  intro m H S ps qs xs Q R h e k
  have e0 := e
  unfold bSorted at e
  split at e
  · obtain ⟨x, rfl, h0⟩ := h.one
    obtain ⟨a, ys, rfl, h1, h2⟩ := sq_r h0
    exact ⟨a, ys, m, _, qs, rfl, .inl h1, h2, e0, k⟩
  · obtain ⟨x, rfl, h0⟩ := h.one
    obtain ⟨a, ys, rfl, h1, h2⟩ := sq_t h0
    exact ⟨a, ys, m, _, qs, rfl, .inr h1, h2, e0, k⟩
  · cases e
theorem bSorted_lst (ps : List P) (u : P) (e : bSorted ps = some u) : ∃ qs, u = .lst qs := by
  unfold bSorted at e
  split at e
  · split at e
    · split at e
      · cases e; exact ⟨_, rfl⟩
      · cases e
    · cases e
  · split at e
    · split at e
      · cases e; exact ⟨_, rfl⟩
      · cases e
    · cases e
  · cases e
end
section
variable {X : Cx} {e : Expr} {es : List Expr} {x : Str} {p pos : Pos} {g : FA} {id T : String} {r : List V → Hp → VK → Prop} {op : List P → Option P}
theorem d_cb (hc : CallR X (.builtin id) r) (ho : OpN X.K r op) (hm : X.mg x = none) (hv : bootBuiltins x = some (.builtin id)) (ha : PAd X (e :: es) g) (hg : Gl X x := by rfl) (hn : x ≠ "__name__" := by decide) (hdb : (x == ("__debug__" : Str)) = false := by decide)
    (he : starEach (e :: es) X.env = (false, eval e X.env) :: starEach es X.env := by rfl) (hpl : (backTo pos (starEach es X.env)).any (·.1) = false := by rfl) : PEd X (.Call (.Name x p) (e :: es) [] pos) (fCb op g) :=
  pe_weak (pe_callB hc hg hm hv ha hn hdb he hpl) fun _ _ _ => td_cb ho
theorem d_ct (hc : CallR X (.type T) r) (ho : OpN X.K r op) (hm : X.mg x = none) (hv : bootBuiltins x = some (.type T)) (ha : PAd X (e :: es) g) (hg : Gl X x := by rfl) (hn : x ≠ "__name__" := by decide) (hdb : (x == ("__debug__" : Str)) = false := by decide)
    (he : starEach (e :: es) X.env = (false, eval e X.env) :: starEach es X.env := by rfl) (hpl : (backTo pos (starEach es X.env)).any (·.1) = false := by rfl) : PEd X (.Call (.Name x p) (e :: es) [] pos) (fCb op g) :=
  pe_weak (pe_callTy hc hg hm hv ha hn hdb he hpl) fun _ _ _ => td_cb ho
end
abbrev MOp := List P → List D → Sto → Option (P × List P)
def fMt (op : MOp) (fo : FE) (ga : FA) : FE := fun env S => (fo env S).bind fun o S1 => match o with
  | .r n => match S1[n]? with
    | some (.lst _) => (ga env S1).bind fun ds S2 => match S2[n]? with
      | some (.lst ps) => match op ps ds S2 with
        | some (u, qs) => .ok (.v u) (S2.set n (.lst qs))
        | none => .bad
      | _ => .bad
    | _ => .bad
  | _ => .bad
def OpM (K : PySem.W.Frag) (r : V → List V → Hp → VK → Prop) (op : MOp) : Prop :=
  ∀ m H S n a ps ds u qs xs Q, Rel K m H S → m.l[n]? = some a → S[n]? = some (.lst ps) → IsDs K m (mask m H) ds xs → op ps ds S = some (u, qs) →
    (∀ v m' H', Stp m H m' H' → Rel K m' H' (S.set n (.lst qs)) → Is K (mask m' H') u v → Q v H') → r (.ref a) xs H Q
section
variable {K : PySem.W.Frag}
theorem td_mt {r : V → List V → Hp → VK → Prop} {op : MOp} {fo : FE} {ga : FA} {σ : L2.St} {H : Hp} {Q : VK} (ho : OpM K r op) (h : TD K (fMt op fo ga) σ H Q) : tBM K "list" r (TD K fo) (TDa K ga) σ H Q := by
  obtain ⟨m, env, S, R, E, d', S', e1, q⟩ := h
  obtain ⟨o, S1, k1, e2⟩ := Oc.bind_eq e1
  refine ⟨m, env, S, R, E, o, S1, k1, fun v m1 H1 st1 R1 i1 => ?_⟩
  split at e2
  · rename_i n
    split at e2
    · rename_i ps0 hS0
      obtain ⟨a, rfl, h1⟩ := i1
      obtain ⟨xs0, h2, _⟩ := R1.ob n a _ h1 hS0
      obtain ⟨ds, S2, k2, e3⟩ := Oc.bind_eq e2
      refine ⟨.inl ⟨rfl, xs0, .of h2⟩, m1, env, S1, R1, E.step st1, ds, S2, k2, fun vs m2 H2 st2 R2 i2 => ?_⟩
      split at e3
      · rename_i ps hS
        split at e3
        · rename_i u qs hop
          cases e3
          exact ho m2 H2 S2 n a ps ds u qs vs Q R2 (st2.ext _ _ h1) hS i2 hop fun v m3 H3 st3 R3 i3 => q v m3 H3 ((st1.trans st2).trans st3) R3 i3
        · cases e3
      · cases e3
    · cases e2
  · cases e2
def mAppend : MOp := fun ps ds _ => match ds with
  | [.v p] => if ps.length < 100000 then some (.non, ps ++ [p]) else none
  | _ => none
def mPopAt : MOp := fun ps ds _ => match ds with
  | [.v (.int i)] => if -1000000 ≤ i ∧ i ≤ 1000000 then match ixN ps.length i with
    | some k => match ps[k]? with
      | some p => some (p, ps.eraseIdx k)
      | none => none
    | none => none else none
  | _ => none
def mExtend : MOp := fun ps ds S => match ds with
  | [d] => match deP S d with
    | some (.lst qs) => if ps.length + qs.length ≤ 100000 then some (.non, ps ++ qs) else none
    | _ => none
  | _ => none
theorem one_v {m : Mp} {G : Hp} {p : P} {xs : List V} (h : IsDs K m G [.v p] xs) : ∃ x, xs = [x] ∧ Is K G p x := by
  obtain ⟨v, vs, rfl, h1, h2⟩ := h
  have h2' : vs = [] := h2
  subst h2'
  exact ⟨v, rfl, h1⟩
theorem om_append : OpM K rAppend mAppend := by
  intro m H S n a ps ds u qs xs Q R hm hS hd e k
  unfold mAppend at e
  split at e
  · split at e
    · rename_i p hl
      cases e
      obtain ⟨x, rfl, hx⟩ := one_v hd
      obtain ⟨ys, h1, h2⟩ := R.ob n a _ hm hS
      obtain ⟨R3, st3⟩ := R.write (o := .lst (ys ++ [x])) (x := .lst (ps ++ [p])) hm fun H' s' e' => ⟨_, e', (s'.all h2).append (IsAll.one (s'.val hx))⟩
      exact ⟨a, ys, x, rfl, rfl, h1, size_lt (by rw [← h2.len]; exact hl), k _ _ _ st3 R3 rfl⟩
    · cases e
  · cases e
theorem om_popAt : OpM K rPopAt mPopAt := by
  intro m H S n a ps ds u qs xs Q R hm hS hd e k
  unfold mPopAt at e
  split at e
  · rename_i i
    split at e
    · rename_i hb
      split at e
      · rename_i j hj
        split at e
        · rename_i p hp
          cases e
          obtain ⟨x0, rfl, hx0⟩ := one_v hd
          have hx0' : x0 = .int i := hx0
          subst hx0'
          obtain ⟨ys, h1, h2⟩ := R.ob n a _ hm hS
          obtain ⟨x, hx, ix⟩ := h2.get hp
          have hlen := h2.len
          rw [hlen] at hj
          obtain ⟨b1, b2, b3, b4⟩ := ixN_seq hj
          obtain ⟨R3, st3⟩ := R.write (o := .lst (ys.eraseIdx j)) (x := .lst (ps.eraseIdx j)) hm fun H' s' e' => ⟨_, e', (s'.all h2).eraseIdx j⟩
          exact ⟨a, ys, i, j, x, rfl, rfl, h1, by omega, by omega, b1, hx, k _ _ _ st3 R3 (st3.val ix)⟩
        · cases e
      · cases e
    · cases e
  · cases e
theorem om_extend : OpM K rExtend mExtend := by
  intro m H S n a ps ds u qs xs Q R hm hS hd e k
  unfold mExtend at e
  split at e
  · rename_i d
    split at e
    · rename_i zs hz
      split at e
      · rename_i hl
        cases e
        obtain ⟨v, vs, rfl, hv, hvs⟩ := hd
        have hvs' : vs = [] := hvs
        subst hvs'
        obtain ⟨b, ws, rfl, h3, h4⟩ := isR_of R hv hz
        obtain ⟨ys, h1, h2⟩ := R.ob n a _ hm hS
        obtain ⟨R3, st3⟩ := R.write (o := .lst (ys ++ ws)) (x := .lst (ps ++ zs)) hm fun H' s' e' => ⟨_, e', (s'.all h2).append (s'.all h4)⟩
        exact ⟨a, b, ys, ws, rfl, rfl, h1, h3, size_of (by rw [← h2.len, ← h4.len]; exact hl), k _ _ _ st3 R3 rfl⟩
      · cases e
    · cases e
  · cases e
end
end DL
namespace DL
open PySem PySem.Spec PyProof.Rows L2
variable [Tb]
abbrev FF := List D → Sto → Oc D
def SpD (K : PySem.W.Frag) (n : Nat) (F : FF) (vs : List V) (H : Hp) (Q : VK) : Prop := ∃ m S ds d S', Rel K m H S ∧ IsDs K m (mask m H) ds vs ∧ ds.length = n ∧ F ds S = .ok d S' ∧
  ∀ v m' H', Stp m H m' H' → Rel K m' H' S' → IsD K m' (mask m' H') d v → Q v H'
structure FnG (P : Program) (w : World) (K : PySem.W.Frag) (mg : Str → Option Value) (base : Heap) (k : Nat) (f : Addr) (fd : FuncData) (ps : List Str) (F : FF) : Prop where
  run : ∀ (A : Around) (outer : List PySem.Env) (s : Shared) (H : Hp) (args : Args) (us : List Value) (vs : List V) (Q : VK), Room k A → A.guards = some [] → Env0 P w K mg base A outer s H → BindsTo s fd args (ps.zip us) → Vals vs us → SpD K ps.length F vs H Q →
    codeAny (model P w) A (.call (.ref f) args) (CR CX0 outer P w H s Q E0) s
def closeD (keep : Bool) (n : Nat) (d : D) (S : Sto) : Oc D := if keep = true then .ok d S else match d with
  | .v p => .ok (.v p) (S.take n)
  | .r r => if r < n then .ok (.r r) (S.take n) else match S[r]? with
    | some (.lst ps) => .ok (.v (.lst ps)) (S.take n)
    | some (.dic ks ps) => .ok (.v (.dic ks ps)) (S.take n)
    | some (.dn ks ps) => .ok (.v (.dn ks ps)) (S.take n)
    | some (.dl ks cs) => .ok (.v (.dn ks (cs.map P.lst))) (S.take n)
    | _ => .bad
  | .o r k => if r < n then .ok (.o r k) (S.take n) else .bad
  | .t _ => .bad
def startD (n : Nat) (ds : List D) : Dnv := ds.map some ++ List.replicate (n - ds.length) none
def runF (n : Nat) (keep : Bool) (b : FS) : FF := fun ds S => match b (startD n ds) S with
  | .nx _ S1 => closeD keep S.length (.v .non) S1
  | .rt d S1 => closeD keep S.length d S1
  | _ => .bad
section
variable {K : PySem.W.Frag} {m m' : Mp} {H H' : Hp} {S S' : Sto}
abbrev Mp.cut (m m' : Mp) : Mp := ⟨m.l, m.h, ⟨m'.c.o.filter fun p => decide (p.1 ∈ m.l)⟩⟩
theorem Rel.trunc (R0 : Rel K m H S) (R : Rel K m' H' S') (st : Stp m H m' H') (n : Nat) (hn : m.l.length = n) : Rel K (m.cut m') H' (S'.take n) ∧ Stp m H (m.cut m') H' ∧ Exh (mask m' H') (mask (m.cut m') H') := by
  have sub : ∀ b, b ∈ m.l → b ∈ m'.l := fun b hb => by
    obtain ⟨r, hr, e⟩ := List.getElem_of_mem hb
    exact List.mem_of_getElem? (st.ext r b (by rw [List.getElem?_eq_getElem hr, e]))
  have so : ∀ b, off ((m.cut m') : Mp) b → off m' b := fun b z => z.imp (sub b) fun w => w.imp (fun w => by rw [st.hh]; exact w) fun w => by
    obtain ⟨p, hp, e⟩ := List.mem_map.mp w
    exact List.mem_map.mpr ⟨p, (List.mem_filter.mp hp).1, e⟩
  have ex : Exh (mask m' H') (mask (m.cut m') H') := ex_of fun b u z1 z2 _ => ⟨fun q => z1 (so b q), z2⟩
  have mem1 : ∀ {p : Addr × Nat × Addr}, p ∈ (m.cut m').c.o → p ∈ m'.c.o := fun hp => (List.mem_filter.mp hp).1
  have hle : n ≤ S'.length := by
    rw [← R.len, ← hn]
    rcases Nat.lt_or_ge m'.l.length m.l.length with q | q
    · exfalso
      have := st.ext m'.l.length m.l[m'.l.length] (List.getElem?_eq_getElem q)
      rw [List.getElem?_eq_none (Nat.le_refl _)] at this
      cases this
    · exact q
  refine ⟨⟨by rw [List.length_take]; show m.l.length = _; rw [hn]; omega, ?_, fun r a x h1 h2 => ?_, fun b hb => ?_, fun b hb => R.hnt b (by rw [st.hh]; exact hb), fun p hp => ?_, fun p hp p2 hp2 => R.inj p (mem1 hp) p2 (mem1 hp2), fun p hp p2 hp2 => R.fnc p (mem1 hp) p2 (mem1 hp2), fun p hp => ?_, fun p hp => (R.tab p hp).mono ex rfl (so _)⟩,
    ⟨fun _ _ h => h, fun b o z => ex b o (st.ex b o z), rfl, st.hk, fun p hp => List.mem_filter.mpr ⟨st.co p hp, decide_eq_true (by
      obtain ⟨r, o, h1, _⟩ := R0.ow p hp
      exact List.mem_of_getElem? h1)⟩⟩, ex⟩
  · have : m.l = m'.l.take n := List.ext_getElem? fun i => by
      by_cases hi : i < n
      · rw [List.getElem?_take_of_lt hi, List.getElem?_eq_getElem (by omega)]
        exact (st.ext i _ (List.getElem?_eq_getElem (by omega))).symm
      · rw [List.getElem?_eq_none (by omega), List.getElem?_eq_none (by rw [List.length_take]; omega)]
    show m.l.Nodup
    rw [this]
    exact R.nd.sublist (List.take_sublist _ _)
  · have hr : r < n := by rw [← hn]; exact lt_of_at h1
    rw [List.getElem?_take_of_lt hr] at h2
    exact (R.ob r a x (st.ext r a h1) h2).mono2 ex (fun k b z => List.mem_filter.mpr ⟨z, decide_eq_true (List.mem_of_getElem? h1)⟩) rfl (fun _ _ _ => rfl) fun _ _ z => mem1 z
  · obtain ⟨q1, q2⟩ := R.hid b (by rw [st.hh]; exact hb)
    exact ⟨fun z => q1 (sub b z), q2⟩
  · obtain ⟨o1, o2, o3, o5⟩ := R.own p (mem1 hp)
    exact ⟨fun z => o1 (sub _ z), fun z => o2 (by rw [st.hh]; exact z), o3, o5⟩
  · obtain ⟨r, o, h1, h2, h3⟩ := R.ow p (mem1 hp)
    have hin : p.1 ∈ m.l := of_decide_eq_true (List.mem_filter.mp hp).2
    obtain ⟨j, hj, ej⟩ := List.getElem_of_mem hin
    have e1 := st.ext j p.1 (by rw [List.getElem?_eq_getElem hj, ej])
    have l1 := lt_of_at e1
    have l2 := lt_of_at h1
    rw [List.getElem?_eq_getElem l1] at e1
    rw [List.getElem?_eq_getElem l2] at h1
    obtain rfl : j = r := (List.getElem_inj R.nd).mp ((Option.some.inj e1).trans (Option.some.inj h1).symm)
    exact ⟨j, o, by show m.l[j]? = _; rw [List.getElem?_eq_getElem hj, ej], by rw [List.getElem?_take_of_lt (by omega)]; exact h2, h3⟩
theorem isAll_of {G : Hp} : ∀ {ps : List P} {vs : List V}, ps.length = vs.length → (∀ (i : Nat) (p : P), ps[i]? = some p → ∃ v, vs[i]? = some v ∧ Is K G p v) → IsAll K G ps vs
  | [], vs, hl, _ => List.length_eq_zero_iff.mp hl.symm
  | p :: ps, [], hl, _ => by cases hl
  | p :: ps, v :: vs, hl, h => by
    obtain ⟨u, e, i⟩ := h 0 p rfl
    cases e
    exact ⟨_, _, rfl, i, isAll_of (by simpa using hl) fun i p e => by simpa using h (i + 1) p (by simpa using e)⟩
theorem close_ok {keep : Bool} {d d2 : D} {S1 : Sto} {v : V} {Q : VK} (R : Rel K m H S) (st : Stp m H m' H') (R1 : Rel K m' H' S1) (i1 : IsD K m' (mask m' H') d v) (e : closeD keep S.length d S1 = .ok d2 S')
    (q : ∀ v m' H', Stp m H m' H' → Rel K m' H' S' → IsD K m' (mask m' H') d2 v → Q v H') : Q v H' := by
  unfold closeD at e
  by_cases hk : keep = true
  · rw [if_pos hk] at e
    cases e
    exact q v m' H' st R1 i1
  · rw [if_neg hk] at e
    obtain ⟨R2, st2, ex⟩ := R.trunc R1 st S.length R.len
    have low : ∀ {r : Nat} {a : Addr}, r < S.length → m'.l[r]? = some a → m.l[r]? = some a := fun {r a} hr ha => by
      rw [← R.len] at hr
      rw [List.getElem?_eq_getElem hr]
      have := st.ext r _ (List.getElem?_eq_getElem hr)
      rw [ha] at this
      exact this.symm
    split at e
    · cases e
      exact q v _ H' st2 R2 (Is.mono ex _ _ i1)
    · rename_i r
      obtain ⟨a, rfl, ha⟩ := i1
      split at e
      · rename_i hr
        cases e
        exact q _ _ H' st2 R2 ⟨a, rfl, low hr ha⟩
      · rename_i hr
        have hout : ¬ off (m.cut m') a := by
          rintro (z | z | z)
          · obtain ⟨j, hj, ej⟩ := List.getElem_of_mem z
            have e1 := st.ext j a (by rw [List.getElem?_eq_getElem hj, ej])
            have l1 := lt_of_at e1
            have l2 := lt_of_at ha
            rw [List.getElem?_eq_getElem l1] at e1
            rw [List.getElem?_eq_getElem l2] at ha
            have : j = r := (List.getElem_inj R1.nd).mp ((Option.some.inj e1).trans (Option.some.inj ha).symm)
            have hj' : j < m.l.length := hj
            rw [R.len] at hj'
            omega
          · exact (R1.hid a (by rw [st.hh]; exact z)).1 (List.mem_of_getElem? ha)
          · obtain ⟨p, hp, e⟩ := List.mem_map.mp z
            exact (R1.own p (List.mem_filter.mp hp).1).1 (by rw [e]; exact List.mem_of_getElem? ha)
        split at e
        · rename_i ps hS
          cases e
          obtain ⟨xs, h1, h2⟩ := R1.ob r a _ ha hS
          exact q _ _ H' st2 R2 ⟨a, xs, rfl, mask_at hout h1 (by intro _ z; cases z), IsAll.mono ex _ _ h2⟩
        · rename_i ks ps hS
          cases e
          obtain ⟨xs, h1, h2, h3, h4⟩ := R1.ob r a _ ha hS
          exact q _ _ H' st2 R2 ⟨a, xs, rfl, mask_at hout h1 (by intro _ z; cases z), h2, h3, IsAll.mono ex _ _ h4⟩
        · rename_i ks ps hS
          cases e
          obtain ⟨as, xs, ns, h1, h2, h3, h4, h5, h6, h7⟩ := R1.ob r a _ ha hS
          exact q _ _ H' st2 R2 ⟨a, as, xs, ns, rfl, mask_at hout h1 NDo_nt, h2, h3, h4, h5, IsAll.mono ex _ _ h6, IsAll.mono ex _ _ h7⟩
        · rename_i ks cs hS
          cases e
          obtain ⟨as, bs, ns, h1, h2, h3, h4, h5, h6, h7, h8, h9⟩ := R1.ob r a _ ha hS
          refine q _ _ H' st2 R2 ⟨a, as, bs.map V.ref, ns, rfl, mask_at hout h1 NDo_nt, h2, h3, by rw [List.length_map]; exact h4, by rw [List.length_map]; exact h5, IsAll.mono ex _ _ h6, ?_⟩
          have hal : a ∉ m.l := fun z => hout (.inl z)
          refine isAll_of (by rw [List.length_map, List.length_map, h7, h4]) fun i p e1 => ?_
          rw [List.getElem?_map] at e1
          obtain ⟨ys, e2, rfl⟩ := Option.map_eq_some_iff.mp e1
          have hi : i < bs.length := by rw [h4, ← h7]; exact lt_of_at e2
          obtain ⟨g1, zs, g2, g3⟩ := h9 i bs[i] ys (List.getElem?_eq_getElem hi) e2
          refine ⟨.ref bs[i], by rw [List.getElem?_map, List.getElem?_eq_getElem hi]; rfl, bs[i], zs, rfl, mask_at ?_ g2 (by intro _ z; cases z), IsAll.mono ex _ _ g3⟩
          rintro (z | z | z)
          · obtain ⟨j, hj, ej⟩ := List.getElem_of_mem z
            exact (R1.own _ g1).1 (List.mem_of_getElem? (st.ext j _ (by rw [List.getElem?_eq_getElem hj, ej])))
          · exact (R1.own _ g1).2.1 (by rw [st.hh]; exact z)
          · obtain ⟨p, hp, e⟩ := List.mem_map.mp z
            have hp2 := List.mem_filter.mp hp
            have := R1.inj p hp2.1 _ g1 e
            subst this
            exact hal (of_decide_eq_true hp2.2)
        · cases e
    · rename_i r k
      split at e
      · rename_i hr
        cases e
        obtain ⟨a, b, rfl, ha, hb⟩ := i1
        have hl := low hr ha
        exact q _ _ H' st2 R2 ⟨a, b, rfl, hl, List.mem_filter.mpr ⟨hb, decide_eq_true (List.mem_of_getElem? hl)⟩⟩
      · cases e
    · cases e
theorem isDs_get : ∀ {ds : List D} {vs : List V} {i : Nat} {d : D} {G : Hp}, IsDs K m G ds vs → ds[i]? = some d → ∃ v, vs[i]? = some v ∧ IsD K m G d v
  | [], _, _, _, _, _, h => by simp at h
  | d :: ds, _, 0, _, _, ⟨v, vs, h1, h2, h3⟩, h => by
    subst h1
    simp at h
    subst h
    exact ⟨v, rfl, h2⟩
  | d :: ds, _, i + 1, _, _, ⟨v, vs, h1, h2, h3⟩, h => by
    subst h1
    obtain ⟨u, e, q⟩ := isDs_get (i := i) h3 (by simpa using h)
    exact ⟨u, by simpa using e, q⟩
theorem start_is {N : List Str} {ds : List D} {vs : List V} {G : Hp} (h : IsDs K m G ds vs) : EnvIs K m G (start N vs) (startD N.length ds) := by
  have hl := h.len
  refine ⟨by simp [L2.start, startD, hl], fun i d e => ?_⟩
  unfold startD at e
  rcases Nat.lt_or_ge i ds.length with q | q
  · rw [List.getElem?_append_left (by simpa using q), List.getElem?_map] at e
    obtain ⟨d', h1, h2⟩ := Option.map_eq_some_iff.mp e
    cases h2
    obtain ⟨v, h3, h4⟩ := isDs_get h h1
    refine ⟨v, ?_, h4⟩
    unfold L2.start
    rw [List.getElem?_append_left (by rw [List.length_map, ← hl]; exact q), List.getElem?_map, h3]
    rfl
  · rw [List.getElem?_append_right (by simpa using q)] at e
    have := List.mem_of_getElem? e
    have := List.eq_of_mem_replicate this
    cases this
end
theorem fn_g {P : Program} {w : World} {K : PySem.W.Frag} {mg : Str → Option Value} {base : Heap} {k : Nat} {f : Addr} {name qual : Str} {params : Arguments} {body : List Stmt} {scope : Scope} {dV kV doc pm cdv ct oc : Value} {an od : Option Addr}
    {osl : Array (Option Value)} {N ps : List Str} {b : FS} {keep : Bool} (lk : K.lookup f = some ⟨oc, od, .func (PySem.W.fnOf name qual params body scope dV kV doc pm an cdv ct), osl⟩) (hcd : PySem.W.codeIn K cdv qual = true) (S : FnScope N ps scope)
    (hbody : ∀ (A : Around) (outer : List PySem.Env) (s : Shared) (H : Hp), Room k (A.deeper (envOfC qual scope s.heap.objs.size f cdv)) → A.guards = some [] → PSsd (cxOf CX0 P w K mg base N qual scope f cdv A outer s H E0).nox body b) :
    FnG P w K mg base (k + 1) f (PySem.W.fnOf name qual params body scope dV kV doc pm an cdv ct) ps (runF N.length keep b) := by
  refine ⟨fun A outer s H args us vs Q hr hgd e0 hb r hsp => ?_⟩
  obtain ⟨m, S0, ds, d, S', R, iD, hlen, hF, q⟩ := hsp
  have hl : vs.length = ps.length := by rw [← iD.len]; exact hlen
  have KX : K.In s.heap := e0.mod.kin.keeps fun b o e => (e0.bs b o e).1
  have lim : s.heap.NoLimit := e0.mod.nolimit.keeps fun b o e => (e0.bs b o e).1
  refine codeAny_call_function hr.depth (KX _ _ lk) rfl S.co S.gen rfl (PySem.W.codeRec_of KX hcd) (hb _ _ _ _ ?_)
  refine wpAny_newFunctionEnv_cells S.kind (fun ⟨n, v⟩ hy => ?_) fun env he s1 x => ?_
  · rcases S.par n (List.of_mem_zip hy).1 with z | z
    · exact .inl z
    · exact .inr ⟨z, PySem.W.cellsFrom_some _ _ _ (.inl z)⟩
  subst he
  refine ⟨lim.keeps x.toInCall.keep, codeAny_func ?_⟩
  have I : Inv (cxOf CX0 P w K mg base N qual scope f cdv A outer s H E0) [] (start N vs) H s1 := inv_start S hr.hd e0 hl r x
  have hB := (hbody A outer s H (hr.deeper _) hgd).nox
  have reading : TDs K b { nx := fun _ H' => Q .non H', rt := Q } (start N vs) H := by
    refine ⟨m, startD N.length ds, S0, R, start_is iD, ?_⟩
    unfold runF at hF
    cases hb : b (startD N.length ds) S0 with
    | nx env1 S1 =>
      rw [hb] at hF
      exact fun m1 H1 σ1 st1 R1 E1 => close_ok (d := .v .non) (v := .non) R st1 R1 (show V.non = V.non from rfl) hF q
    | rt d1 S1 =>
      rw [hb] at hF
      exact fun v m1 H1 st1 R1 i1 => close_ok R st1 R1 i1 hF q
    | bk env1 S1 => rw [hb] at hF; cases hF
    | ct env1 S1 => rw [hb] at hF; cases hF
    | bad => rw [hb] at hF; cases hF
  refine wpAny_mono (hB.run [] s1 (start N vs) H _ I reading) (fun fl s' hs => ?_) fun e s' hs => hs
  cases fl with
  | ret u =>
    obtain ⟨v, σ', H', J, rv, q⟩ := hs
    exact ⟨v, H', J.os, J.bare, J.base, J.hok, rv, q⟩
  | next =>
    obtain ⟨σ', H', J, q⟩ := hs
    exact ⟨.non, H', J.os, J.bare, J.base, J.hok, rfl, q⟩
  | brk =>
    obtain ⟨_, _, _, q⟩ := hs
    exact False.elim q
  | cont =>
    obtain ⟨_, _, _, q⟩ := hs
    exact False.elim q
def fCall (F : FF) (dv : List D) (g : FA) : FE := fun env S => (g env S).bind fun ds S1 => F (ds ++ dv) S1
def fCallN (F : FF) (n k : Nat) (gd : List D → List D → List D) (g gk : FA) : FE := fun env S => (g env S).bind fun ds S1 => (gk env S1).bind fun es S2 => if ds.length = n ∧ es.length = k then F (gd ds es) S2 else .bad
section
variable {X : Cx} {k n : Nat} {f : Addr} {fd : FuncData} {ps ks : List Str} {F : FF} {x : Str} {p pos : Pos} {e : Expr} {es : List Expr} {kws : List Keyword} {g gk : FA}
theorem run_g {pins : List (Addr × Obj)} {σ : L2.St} {H : Hp} {s : Shared} {Q : VK} {args : Args} {us : List Value} {vs : List V} (G : FnG X.prog X.w X.K X.mg X.base k f fd ps F) (hr : Room k X.A) (hX : SX X) (I : Inv X pins σ H s) (hb : BindsTo s fd args (ps.zip us)) (r : Vals vs us)
    (h : SpD X.K ps.length F vs H Q) : codeAny (model X.prog X.w) X.A (.call (.ref f) args) (fun r s' => match r with | .ok (.ret v) => EP X pins σ Q v s' | .ok _ => False | .error e => X.xe e s') s := by
  refine codeAny_mono (G.run X.A X.stack s H args us vs Q hr hX.guards I.env0 hb r h) fun r s' hq => ?_
  cases r with
  | error e => exact False.elim hq
  | ok fl =>
    cases fl with
    | ret u => exact I.after hq
    | next => exact False.elim hq
    | brk => exact False.elim hq
    | cont => exact False.elim hq
theorem run_gW {pins : List (Addr × Obj)} {σ : L2.St} {H : Hp} {s : Shared} {Q : VK} {us0 : List Value} {kw : List (Str × Value)} {us : List Value} {vs : List V} (G : FnG X.prog X.w X.K X.mg X.base k f fd ps F) (hr : Room k X.A) (hX : SX X) (I : Inv X pins σ H s) (hb : BindsTo s fd ⟨us0, kw⟩ (ps.zip us)) (r : Vals vs us)
    (h : SpD X.K ps.length F vs H Q) : wpAny (model X.prog X.w) X.A (call (.ref f) us0 kw) (EP X pins σ Q) X.xe s := by
  refine wpAny_call (codeAny_mono (run_g G hr hX I hb r h) fun r s' hq => ?_)
  cases r with
  | error e => exact hq
  | ok fl =>
    cases fl with
    | ret u => exact hq
    | next => exact False.elim hq
    | brk => exact False.elim hq
    | cont => exact False.elim hq
def DvIs (K : PySem.W.Frag) (dv : List D) (ds : List Value) : Prop := ∃ dvs : List V, Vals dvs ds ∧ ∀ m G, IsDs K m G dv dvs
theorem DvIs.nil {K : PySem.W.Frag} : DvIs K [] [] := ⟨[], .nil, fun _ _ => rfl⟩
theorem d_call {dv : List D} {ds : List Value} (G : FnG X.prog X.w X.K X.mg X.base k f fd ps F) (hr : Room k X.A) (hX : SX X) (hm : X.mg x = some (.ref f)) (hk : PySem.W.keepIn X.K (.ref f) = true) (hb : Binds X.K fd ps ds) (hd : DvIs X.K dv ds) (ha : PAd X (e :: es) g) (hlen : (e :: es).length + dv.length = ps.length := by rfl)
    (hl : ∀ env S qs S', g env S = .ok qs S' → qs.length = (e :: es).length) (hg : Gl X x := by rfl) (hdb : (x == ("__debug__" : Str)) = false := by decide) (he : starEach (e :: es) X.env = (false, eval e X.env) :: starEach es X.env := by rfl) (hpl : (backTo pos (starEach es X.env)).any (·.1) = false := by rfl) :
    PEd X (.Call (.Name x p) (e :: es) [] pos) (fCall F dv g) := by
  refine ⟨fun pins s σ H Q I h => ?_⟩
  obtain ⟨m, env, S, R, E, d, S', e1, q⟩ := h
  obtain ⟨qs, S1, k1, e2⟩ := Oc.bind_eq e1
  obtain ⟨dvs, hd1, hd2⟩ := hd
  refine wpAny_Call_Name_kw (ld_glob I hg hm ?_ hdb)
  refine PySem.W.callWith_K (h₀ := X.base) I.ok.mod.kin hk (thn (ha.run pos pins s σ H (fun vs H1 => SpD X.K ps.length F (vs ++ dvs) H1 Q ∧ (vs ++ dvs).length = ps.length) I ⟨m, env, S, R, E, qs, S1, k1, fun vs m1 H1 st1 R1 i1 => ?_⟩) fun us s1 ⟨vs, H1, I1, r, q1, q2⟩ => ⟨I1.kIn, ?_⟩) he hpl
  · have hlq := hl _ _ _ _ k1
    refine ⟨⟨m1, S1, qs ++ dv, d, S', R1, i1.append (hd2 m1 _), by rw [List.length_append, hlq]; exact hlen, e2, fun v m2 H2 st2 R2 i2 => q v m2 H2 (st1.trans st2) R2 i2⟩, ?_⟩
    have h1 := i1.len
    have h2 := (hd2 m1 (mask m1 H1)).len
    rw [List.length_append, ← h1, ← h2, hlq]
    exact hlen
  · have r2 : Vals (vs ++ dvs) (us ++ ds) := r.append hd1
    exact run_gW G hr hX I1 (hb s1 us I1.kIn (by rw [← r2.length]; exact q2)) r2 q1
theorem d_call0 {dv : List D} {ds : List Value} (G : FnG X.prog X.w X.K X.mg X.base k f fd ps F) (hr : Room k X.A) (hX : SX X) (hm : X.mg x = some (.ref f)) (hk : PySem.W.keepIn X.K (.ref f) = true) (hb : Binds X.K fd ps ds) (hd : DvIs X.K dv ds) (hlen : dv.length = ps.length := by rfl)
    (hg : Gl X x := by rfl) (hdb : (x == ("__debug__" : Str)) = false := by decide) : PEd X (.Call (.Name x p) [] [] pos) (fCall F dv fNil) := by
  refine ⟨fun pins s σ H Q I h => ?_⟩
  obtain ⟨m, env, S, R, E, d, S', e1, q⟩ := h
  obtain ⟨qs, S1, k1, e2⟩ := Oc.bind_eq e1
  cases k1
  obtain ⟨dvs, hd1, hd2⟩ := hd
  refine wpAny_Call_Name_kw (ld_glob I hg hm ?_ hdb)
  have h2 := (hd2 m (mask m H)).len
  exact PySem.W.callWith_K0 I.kIn hk (run_gW G hr hX I (hb s [] I.kIn (by rw [List.nil_append, ← hd1.length, ← h2]; exact hlen)) hd1 ⟨m, S, dv, d, S', R, hd2 m _, hlen, e2, q⟩)
abbrev PKd (X : Cx) (kws : List Keyword) (g : FA) : Prop := PK X kws (TDa X.K g)
theorem pk_weak {t t' : TA} (h : PK X kws t) (q : ∀ σ H Q, t' σ H Q → t σ H Q) : PK X kws t' := ⟨fun pos pins s σ H Q I w => h.run pos pins s σ H Q I (q σ H Q w)⟩
theorem k_nil : PKd X [] fNil := pk_weak pk_nil fun σ H Q ⟨m, env, S, R, E, d', S', e1, q⟩ => by
  cases e1
  exact q [] m H (Stp.refl m H) R rfl
theorem k_cons {fe : FE} {nm : Option Str} {kpos : Pos} (he : PEd X e fe) (hr : PKd X kws g) : PKd X (⟨nm, e, kpos⟩ :: kws) (fCons fe g) := pk_weak (pk_cons he hr) fun σ H Q ⟨m, env, S, R, E, d', S', e1, q⟩ => by
  obtain ⟨d, S1, k1, e2⟩ := Oc.bind_eq e1
  obtain ⟨ds, S2, k2, e3⟩ := Oc.bind_eq e2
  cases e3
  exact ⟨m, env, S, R, E, d, S1, k1, fun v m1 H1 st1 R1 i1 => ⟨m1, env, S1, R1, E.step st1, ds, _, k2, fun vs m2 H2 st2 R2 i2 =>
    q (v :: vs) m2 H2 (st1.trans st2) R2 ⟨v, vs, rfl, st2.is i1, i2⟩⟩⟩
theorem len_nil {env : Dnv} {S S' : Sto} {qs : List D} (h : fNil env S = .ok qs S') : qs.length = 0 := by cases h; rfl
theorem len_cons {fe : FE} {g : FA} {n : Nat} (hg : ∀ env S qs S', g env S = .ok qs S' → qs.length = n) : ∀ env S qs S', fCons fe g env S = .ok qs S' → qs.length = n + 1 := fun env S qs S' h => by
  obtain ⟨d, S1, k1, e2⟩ := Oc.bind_eq h
  obtain ⟨ds, S2, k2, e3⟩ := Oc.bind_eq e2
  cases e3
  simp [hg _ _ _ _ k2]
end
end DL
namespace DL
open PySem PySem.Spec PyProof.Rows L2
variable [Tb]
def LawOk (F : FF) (n : Nat) : Prop := ∀ ns : List Int, ns.length ≤ n → ∃ S', F [.v (.frz (ns.map P.int))] [] = .ok (.v (.bl true)) S'
theorem ints_all {K : PySem.W.Frag} {G : Hp} : ∀ ns : List Int, IsAll K G (ns.map P.int) (ns.map V.int)
  | [] => rfl
  | n :: ns => ⟨.int n, ns.map V.int, rfl, rfl, ints_all ns⟩
theorem mask_nilat {H : Hp} {b : Addr} {o : HO} (e : H b = some o) (n : notTbl o) : mask ⟨[], [], ⟨[]⟩⟩ H b = some o := mask_at (by unfold off; simp) e n
abbrev tabO : Obj := { cls := .none, data := .fields #[] }
abbrev scrO (vs : List Value) : Obj := { cls := .type "list", data := .seq vs.toArray }
structure Entry (K : PySem.W.Frag) (H : Hp) (a : Addr) (ns : List Int) (ts : List Addr) : Prop where
  tbl : ∀ P ∈ ts, H P = some (.tbl #[])
  any : ∀ b u, H b = some u → (b ∈ ts ∧ u = .tbl #[]) ∨ (b = a ∧ K.lookup a = none ∧ ∃ ob xs, u = .frz ob (.lst xs))
  scr : SqL K H a (ns.map V.int)
theorem entry_rel {K : PySem.W.Frag} {H : Hp} {a : Addr} {ns : List Int} {ts : List Addr} (E : Entry K H a ns ts) (hTb : ∀ p ∈ Tb.t K, p.1 ∈ ts) : Rel K ⟨[], [], ⟨[]⟩⟩ H [] where
  len := rfl
  nd := List.nodup_nil
  ob := fun r b o h => by simp at h
  hid := fun b z => nomatch (show b ∈ ([] : List Addr) from z)
  hnt := fun b z => nomatch (show b ∈ ([] : List Addr) from z)
  own := fun p z => nomatch (show p ∈ ([] : List (Addr × Nat × Addr)) from z)
  inj := fun p z => nomatch (show p ∈ ([] : List (Addr × Nat × Addr)) from z)
  fnc := fun p z => nomatch (show p ∈ ([] : List (Addr × Nat × Addr)) from z)
  ow := fun p z => nomatch (show p ∈ ([] : List (Addr × Nat × Addr)) from z)
  tab := fun p hp => ⟨#[], by unfold off; simp, E.tbl _ (hTb p hp), True.intro, fun pos cv z => nomatch (show codeAmong pos [] = some cv from z)⟩
theorem law_callG {P : Program} {w : World} {K : PySem.W.Frag} {mg mb : Str → Option Value} {k n : Nat} {fa a : Addr} {cs : List (Addr × Addr)} {fd : FuncData} {x : Str} {F : FF} {s1 : Shared} {vs : List Value} {ns : List Int}
    (KX : K.In s1.heap) (nsG : s1.heap.Ns mainGlobals mg) (nsB : s1.heap.Ns builtinsNs mb) (bb : ∀ x : Str, x ≠ "__name__" → mb x = bootBuiltins x) (lim : s1.heap.NoLimit) (gens : s1.gens = #[])
    (tE : ∀ p ∈ cs, s1.heap.get? p.2 = some tabO) (tK : ∀ p ∈ cs, K.lookup p.2 = none) (tC : ∀ p ∈ cs, PySem.W.CodeHd s1.heap p.1 p.2)
    (main : ∃ (bm : Addr) (ob : Obj), mg "__builtins__" = some (.ref bm) ∧ bm ≠ builtinsNs ∧ s1.heap.get? bm = some ob ∧ ob.cls = .type "module" ∧ ob.dict = some builtinsNs ∧ ob.data = .plain)
    (ha : s1.heap.get? a = some (scrO vs)) (hi : IntsAre vs ns) (hn : ns.length ≤ n) (hl : ns.length ≤ sizeLine) (hr : Room k callerA)
    (G : ∀ base : Heap, K.In base → base.Ns mainGlobals mg → (∀ p ∈ cs, LamX.TabB base mg p.1 p.2) → FnG P w K mg base k fa fd [x] F) (hTb : ∀ p ∈ Tb.t K, p.1 ∈ cs.map (·.2)) (hbind : ∀ (s : Shared) (u : Value), BindsTo s fd ⟨[u], []⟩ [(x, u)]) (hF : LawOk F n) :
    codeAny (model P w) callerA (.call (.ref fa) ⟨[.ref a], []⟩) (fun r s' => r = .ok (.ret (.bool true)) ∧ OldK s1.heap s'.heap ∧ s'.os = s1.os ∧ AllBare s'.gens) s1 := by
  have rv := vals_ints hi
  have lenV := hi.length
  have tb : ∀ b ∈ cs.map (·.2), s1.heap.get? b = some tabO ∧ K.lookup b = none := fun b hb => by
    obtain ⟨p, hp, rfl⟩ := List.mem_map.mp hb
    exact ⟨tE p hp, tK p hp⟩
  have aT : a ∉ cs.map (·.2) := fun z => by
    have q := (tb a z).1.symm.trans ha
    cases Option.some.inj q
  -- the call, from whatever is known of the heap at the entry
  have go : ∀ H : Hp, Entry K H a ns (cs.map (·.2)) → HOk P w H s1.heap → codeAny (model P w) callerA (.call (.ref fa) ⟨[.ref a], []⟩) (fun r s' => r = .ok (.ret (.bool true)) ∧ OldK s1.heap s'.heap ∧ s'.os = s1.os ∧ AllBare s'.gens) s1 := by
    intro H E hok
    have up : ∀ {b : Addr} {o : Obj}, s1.heap.get? b = some o → H b = none → (hidT s1.heap H).get? b = some o := fun e z => hidT_get e z
    -- what is neither the script nor a table is not tracked
    have un : ∀ {b : Addr} {o : Obj}, s1.heap.get? b = some o → o ≠ tabO → (b = a → K.lookup a ≠ none) → H b = none := fun {b o} e h1 h2 => by
      cases z : H b with
      | none => rfl
      | some u =>
        rcases E.any b u z with ⟨q, _⟩ | ⟨q, q2, _⟩
        · exact (h1 (Option.some.inj (e.symm.trans (tb b q).1))).elim
        · exact (h2 q q2).elim
    have una : ∀ {b : Addr} {o : Obj}, s1.heap.get? b = some o → o ≠ tabO → o ≠ scrO vs → H b = none := fun {b o} e h1 h2 => by
      cases z : H b with
      | none => rfl
      | some u =>
        rcases E.any b u z with ⟨q, _⟩ | ⟨q, _⟩
        · exact (h1 (Option.some.inj (e.symm.trans (tb b q).1))).elim
        · exact (h2 (Option.some.inj (e.symm.trans (q ▸ ha)))).elim
    have nsU : ∀ {b : Addr} {m : Str → Option Value}, s1.heap.Ns b m → (hidT s1.heap H).Ns b m := fun {b m} ⟨o, es, ep, e, d, r⟩ => ⟨o, es, ep, up e (una e (fun z => by rw [z] at d; cases d) (fun z => by rw [z] at d; cases d)), d, r⟩
    have inB : K.In (hidT s1.heap H) := fun b o e => up (KX b o e) (by
      cases z : H b with
      | none => rfl
      | some u =>
        rcases E.any b u z with ⟨q, _⟩ | ⟨q, q2, _⟩
        · rw [(tb b q).2] at e; cases e
        · rw [q, q2] at e; cases e)
    obtain ⟨mc, lim1, lim2⟩ := lim
    have hM : Mod K mg (hidT s1.heap H) := ⟨inB, nsU nsG, ⟨mb, nsU nsB, bb⟩, ⟨mc, nsU lim1, lim2⟩⟩
    have TBs : ∀ p ∈ cs, LamX.TabB (hidT s1.heap H) mg p.1 p.2 := fun p hp => by
      have gN : mainGlobals ≠ p.2 := fun z => by
        obtain ⟨o, es, ep, e, d, _⟩ := nsG
        rw [z, tE p hp] at e
        cases e
        cases d
      refine ⟨?_, ?_, gN⟩
      · obtain ⟨o, us, file, tf, flags, tg, inF, text, tt, e1, r1, r2, r3, rest⟩ := tC p hp
        refine ⟨o, us, file, tf, flags, tg, inF, text, tt, up e1 (una e1 (fun z => ?_) fun z => ?_), r1, r2, r3, rest⟩
        · rw [z] at r2
          cases r2
          simp at r3
        · rw [z] at r2
          cases r2
      · obtain ⟨bm, ob, b1, b2, b3, b4, b5, b6⟩ := main
        have notTab : ob ≠ tabO := fun z => by rw [z] at b6; cases b6
        have notScr : ob ≠ scrO vs := fun z => by rw [z] at b6; cases b6
        refine ⟨bm, ob, b1, b2, fun z => ?_, fun z => notTab (Option.some.inj ((z ▸ b3).symm.trans (tE p hp))), up b3 (una b3 notTab notScr), b4, b5, b6⟩
        obtain ⟨o, es, ep, e, d, _⟩ := nsG
        rw [z, e] at b3
        cases b3
        rw [d] at b6
        cases b6
    have e0 : Env0 P w K mg (hidT s1.heap H) callerA [] s1 H := ⟨rfl, hM, fun b o e => of_hidT e, Nat.le_of_eq (hidT_size _ _), trivial, fun b z => absurd (show b ∈ ([] : List Addr) from z) List.not_mem_nil, hok, .of_eq gens⟩
    obtain ⟨S', hS'⟩ := hF ns hn
    have inSeq : SqL K (mask ⟨[], [], ⟨[]⟩⟩ H) a (ns.map V.int) := by
      rcases E.scr with (q | ⟨o, q⟩) | q
      · exact .inl (.inl (mask_nilat q (by intro _ z; cases z)))
      · exact .inl (.inr ⟨o, mask_nilat q (by intro _ z; cases z)⟩)
      · exact .inr q
    have sp : SpD K ([x] : List Str).length F [.ref a] H (fun v _ => v = .bl true) :=
      ⟨⟨[], [], ⟨[]⟩⟩, [], [.v (.frz (ns.map DL.P.int))], .v (.bl true), S', entry_rel E hTb, ⟨.ref a, [], rfl, ⟨a, ns.map V.int, rfl, inSeq, ints_all ns⟩, rfl⟩, rfl, hS', fun v m' H' _ _ i => i⟩
    refine codeAny_mono ((G _ inB (nsU nsG) TBs).run callerA [] s1 H ⟨[.ref a], []⟩ [.ref a] [.ref a] _ hr rfl e0 (hbind s1 (.ref a)) (.cons rfl .nil) sp) fun r s' h => ?_
    cases r with
    | error e => exact False.elim h
    | ok fl =>
      cases fl with
      | next => exact False.elim h
      | brk => exact False.elim h
      | cont => exact False.elim h
      | ret u =>
        obtain ⟨v, H', os, bare, U, hok', r', q⟩ := h
        have q' : v = .bl true := q
        subst q'
        obtain rfl : u = Value.bool true := r'
        have more : ∀ b ∈ cs.map (·.2), ∃ zs : Array Value, s'.heap.get? b = some { cls := .none, data := .fields zs } := fun b hb => by
          obtain ⟨zs, z⟩ := U.tbls b #[] (E.tbl b hb)
          exact ⟨_, hok' b _ z⟩
        have same : ∀ b o, b ∉ cs.map (·.2) → s1.heap.get? b = some o → s'.heap.get? b = some o := fun b o nb e => by
          cases z : H b with
          | none => exact U.keep b o e z (fun y => nomatch (show b ∈ ([] : List Addr) from y)) (by simp)
          | some u =>
            rcases E.any b u z with ⟨y, _⟩ | ⟨_, _, ob, xs, rfl⟩
            · exact (nb y).elim
            · obtain ⟨e1, _⟩ := hok b _ z
              obtain ⟨e2, _⟩ := hok' b _ (U.frzs b ob _ z)
              cases e.symm.trans e1
              exact e2
        refine ⟨rfl, ⟨fun b o e => ?_, fun b o e => ?_⟩, os, bare⟩
        · by_cases hb : b ∈ cs.map (·.2)
          · obtain ⟨zs, hz⟩ := more b hb
            obtain ⟨p, hp, rfl⟩ := List.mem_map.mp hb
            cases e.symm.trans (tE p hp)
            exact .inr (.inl ⟨((tC p hp).tab (tE p hp)).isCodeTable, rfl, #[], zs, rfl, by rw [Array.empty_append]; exact hz⟩)
          · exact .inl (same b o hb e)
        · by_cases hb : b ∈ cs.map (·.2)
          · obtain ⟨zs, hz⟩ := more b hb
            exact ⟨_, hz⟩
          · exact ⟨o, same b o hb e⟩
  open Classical in
  have both : ∀ (scr : Option HO), (K.lookup a = none → scr = some (.frz (scrO vs) (.lst (ns.map V.int)))) → (K.lookup a ≠ none → scr = none) →
      ∃ H : Hp, Entry K H a ns (cs.map (·.2)) ∧ HOk P w H s1.heap := fun scr h1 h2 => by
    refine ⟨fun b => if b ∈ cs.map (·.2) then some (.tbl #[]) else if b = a then scr else none, ⟨fun b hb => if_pos hb, fun b u z => ?_, ?_⟩, fun b u z => ?_⟩
    · split at z
      · rename_i hb
        cases z
        exact .inl ⟨hb, rfl⟩
      · split at z
        · rename_i hb
          by_cases q : K.lookup a = none
          · rw [h1 q] at z
            cases z
            exact .inr ⟨hb, q, _, _, rfl⟩
          · rw [h2 q] at z
            cases z
        · cases z
    · cases q : K.lookup a with
      | none => exact .inl (.inr ⟨scrO vs, (if_neg aT).trans ((if_pos rfl).trans (h1 q))⟩)
      | some o =>
        cases (KX a o q).symm.trans ha
        exact .inr ⟨_, vs.toArray, _, q, rfl, rfl, rfl, by rw [List.size_toArray, lenV]; exact hl, by simpa using rv⟩
    · dsimp only at z
      split at z
      · rename_i hb
        cases z
        exact (tb b hb).1
      · split at z
        · rename_i hb
          subst hb
          by_cases q : K.lookup b = none
          · rw [h1 q] at z
            cases z
            exact ⟨ha, by rw [List.length_map]; exact hl, vs, _, rv, ha⟩
          · rw [h2 q] at z
            cases z
        · cases z
  by_cases q : K.lookup a = none
  · obtain ⟨H, E, hok⟩ := both (some (.frz (scrO vs) (.lst (ns.map V.int)))) (fun _ => rfl) fun z => (z q).elim
    exact go H E hok
  · obtain ⟨H, E, hok⟩ := both none (fun z => (q z).elim) fun _ => rfl
    exact go H E hok
end DL
namespace DL
open PySem PySem.Spec PyProof.Rows L2
variable [Tb]
open Classical in
noncomputable def dcF (own : Own) (all : List P) (g : FG) (t : FT) (fk e : FE) (env : Dnv) : List P → Sto → List Key → List P → Oc (List Key × List P)
  | [], S, ks, acc => if OwnOk own all S then .ok (ks, acc) S else .bad
  | p :: ps, S, ks, acc => if OwnOk own all S then (g (.v p) env S).bind fun env1 S1 => (t env1 S1).bind fun b S2 => if b = true then (fk env1 S2).bind fun dk S3 => (e env1 S3).bind fun d S4 => match dk, d with
      | .v qk, .v q => match pKey qk with
        | some k => if ks.length < 10000 then dcF own all g t fk e env ps S4 (putP ks acc k q).1 (putP ks acc k q).2 else .bad
        | none => .bad
      | _, _ => .bad else dcF own all g t fk e env ps S2 ks acc else .bad
noncomputable def fDc (it : FI) (g : FG) (t : FT) (fk e : FE) (vs : List Nat) : FE := fun env S => (it env S).bind fun r S1 => (dcF r.2 r.1 g t fk e (wipeE env vs) r.1 S1 [] []).bind fun acc S2 => .ok (.v (.dic acc.1 acc.2)) S2
section
variable {K : PySem.W.Frag}
theorem dc_walk {it : FI} {g : FG} {t : FT} {fk e : FE} {vs : List Nat} {σ : L2.St} {H : Hp} {Q : VK} {m : Mp} {env : Dnv} {S S1 S' : Sto} {ps : List P} {own : Own} {akk : List Key} {acc : List P} (R : Rel K m H S) (E : EnvIs K m (mask m H) σ env) (k1 : it env S = .ok (ps, own) S1) (k2 : dcF own ps g t fk e (wipeE env vs) ps S1 [] [] = .ok (akk, acc) S')
    (q : ∀ p xs l2 c2 H2, p ∉ m.h → Wk m H ⟨l2, p :: m.h, c2⟩ H2 → (∀ b, b ∈ m.h → H2 b = H b) → Rel K ⟨l2, p :: m.h, c2⟩ H2 S' → H2 p = some (.dK (akk.zip xs)) → akk.length = xs.length → akk.Nodup → IsAll K (mask ⟨l2, p :: m.h, c2⟩ H2) acc xs → Q (.ref p) H2) : tDc (TDi K it) (TDw K vs g) (TDt K t) (TD K fk) (TD K e) vs σ H Q := by
  refine ⟨m, env, S, R, E, ps, own, S1, k1, fun m1 H1 J st1 R1 T Dl hD => ?_⟩
  have R1h := R1.hide (o := .dK []) hD
  have emk := mask_hide (m := m1) (o := .dK []) hD
  have hDm := R1.out hD
  refine ⟨fun i k H2 => k + i = ps.length ∧ ∃ m2 S3 kk ac xs, m2.h = Dl :: m1.h ∧ Wk m1 H1 m2 H2 ∧ (∀ b, b ∈ m1.h → H2 b = H1 b) ∧ Rel K m2 H2 S3 ∧ H2 Dl = some (.dK (kk.zip xs)) ∧ kk.length = xs.length ∧ kk.Nodup ∧ IsAll K (mask m2 H2) ac xs ∧ dcF own ps g t fk e (wipeE env vs) (ps.drop i) S3 kk ac = .ok (akk, acc) S',
    ⟨ps.length, by omega, m1.hide Dl, S1, [], [], [], rfl, ⟨fun _ _ h => h, by rw [emk]; exact fun _ _ h => h, fun _ h => h⟩, fun b hb => upd_ne fun z => hDm (.inr (.inl (z ▸ hb))), R1h, upd_same, rfl, List.nodup_nil, rfl, by simpa using k2⟩, ?_⟩
  rintro i k H2 ⟨hk, m2, S3, kk, ac, xs, hh, w2, hk2, R2, eD, hkl, hkn, iac, k3⟩
  by_cases hi : i < ps.length
  · right
    rw [List.drop_eq_getElem_cons hi] at k3
    unfold dcF at k3
    split at k3
    · rename_i ho
      obtain ⟨env3, S4, k4, k5⟩ := Oc.bind_eq k3
      obtain ⟨b, S5, k6, k7⟩ := Oc.bind_eq k5
      obtain ⟨hgo, hy⟩ := T.go i _ m2 H2 S3 (List.getElem?_eq_getElem hi) w2 R2 ho
      refine ⟨hgo, fun H' => ∃ k', k' < k ∧ (k' + (i + 1) = ps.length ∧ ∃ m2 S3 kk ac xs, m2.h = Dl :: m1.h ∧ Wk m1 H1 m2 H' ∧ (∀ b, b ∈ m1.h → H' b = H1 b) ∧ Rel K m2 H' S3 ∧ H' Dl = some (.dK (kk.zip xs)) ∧ kk.length = xs.length ∧ kk.Nodup ∧ IsAll K (mask m2 H') ac xs ∧ dcF own ps g t fk e (wipeE env vs) (ps.drop (i + 1)) S3 kk ac = .ok (akk, acc) S'), fun H' z => z, fun x H3 y => ?_⟩
      obtain ⟨R3, st3, i3, _⟩ := hy x H3 y
      have hDh : Dl ∈ m2.h := by rw [hh]; exact List.mem_cons_self ..
      have E2 : EnvIs K m2 (mask m2 H3) (L2.wipe σ vs) (wipeE env vs) := by
        have E1 := (E.step st1).wipe vs
        refine ⟨E1.len, fun j d z => ?_⟩
        obtain ⟨v, h1, h2⟩ := E1.get j d z
        exact ⟨v, h1, (h2.mono (w2.trans st3.wk).ext (w2.trans st3.wk).ex (w2.trans st3.wk).co)⟩
      refine ⟨m2, wipeE env vs, S3, .v ps[i], R3, E2, i3, env3, S4, k4, fun m4 H4 σ4 st4 R4 E4 _ hw => ⟨by rw [hw, wipe_idem], m4, env3, S4, R4, E4, b, S5, k6, fun m5 H5 st5 R5 => ?_⟩⟩
      have stA := (st3.trans st4).trans st5
      cases b with
      | false =>
        rw [if_neg (by decide)] at k7
        refine iteF ?_
        have eD5 : H5 Dl = some (.dK (kk.zip xs)) := by rw [stA.hk Dl hDh]; exact eD
        exact ⟨k - 1, by omega, by omega, m5, S5, kk, ac, xs, by rw [stA.hh, hh], w2.trans stA.wk, fun b hb => (stA.hk b (by rw [hh]; exact List.mem_cons_of_mem _ hb)).trans (hk2 b hb), R5, eD5, hkl, hkn, stA.all iac, k7⟩
      | true =>
        rw [if_pos rfl] at k7
        refine iteT ?_
        obtain ⟨dk, S6, k8, k9⟩ := Oc.bind_eq k7
        refine ⟨m5, env3, S5, R5, E4.step st5, dk, S6, k8, fun vk m6 H6 st6 R6 i6 => ?_⟩
        obtain ⟨d, S7, k10, k11⟩ := Oc.bind_eq k9
        refine ⟨m6, env3, S6, R6, (E4.step st5).step st6, d, S7, k10, fun v m7 H7 st7 R7 i7 => ?_⟩
        have stB := (stA.trans st6).trans st7
        split at k11
        · rename_i qk q'
          split at k11
          · rename_i ky hky
            split at k11
            · rename_i hl
              have eD7 : H7 Dl = some (.dK (kk.zip xs)) := by rw [stB.hk Dl hDh]; exact eD
              have hDh7 : Dl ∈ m7.h := by rw [stB.hh]; exact hDh
              obtain ⟨ys, b1, b2, b3, b4, _⟩ := put_is (k := ky) (show Is K (mask m7 H7) q' v from i7) hkl hkn (stB.all iac)
              have em7 := mask_hid (m := m7) (H := H7) (o := .dK ((putP kk ac ky q').1.zip ys)) hDh7
              refine ⟨kk.zip xs, ky, pKey_is (isR_val (show Is K (mask m6 H6) qk vk from i6)) hky, eD7, by rw [List.length_zip, hkl, Nat.min_self, ← hkl]; exact Nat.lt_of_lt_of_le hl (by decide), ?_⟩
              rw [b1]
              have R8 := R7.hidden (o := .dK ((putP kk ac ky q').1.zip ys)) hDh7
              refine ⟨k - 1, by omega, by omega, m7, S7, _, _, ys, by rw [stB.hh, hh], ⟨(w2.trans stB.wk).ext, by rw [em7]; exact (w2.trans stB.wk).ex, (w2.trans stB.wk).co⟩, fun b hb => ?_, R8, upd_same, b2, b3, by rw [em7]; exact b4, k11⟩
              have hne : b ≠ Dl := fun z => by
                subst z
                exact hDm (.inr (.inl hb))
              rw [upd_ne hne]
              exact (stB.hk b (by rw [hh]; exact List.mem_cons_of_mem _ hb)).trans (hk2 b hb)
            · cases k11
          · cases k11
        · cases k11
    · cases k3
  · left
    have ed : ps.drop i = [] := List.drop_eq_nil_of_le (by omega)
    rw [ed] at k3
    unfold dcF at k3
    split at k3
    · rename_i ho
      cases k3
      refine ⟨T.stop i m2 H2 _ (by omega) w2 R2 ho, ?_⟩
      obtain ⟨l2, h2, c2⟩ := m2
      have hh' : h2 = Dl :: m1.h := hh
      subst hh'
      have hDn : Dl ∉ m1.h := fun z => hDm (.inr (.inl z))
      have e1 : m1.h = m.h := st1.hh
      rw [e1] at hDn w2 R2 iac
      exact q Dl xs l2 c2 H2 hDn ⟨(st1.wk.trans w2).ext, (st1.wk.trans w2).ex, (st1.wk.trans w2).co⟩ (fun b hb => (hk2 b (by rw [e1]; exact hb)).trans (st1.hk b hb)) R2 eD hkl hkn iac
    · cases k3
theorem dc_val {it : FI} {g : FG} {t : FT} {fk e : FE} {vs : List Nat} {σ : L2.St} {H : Hp} {Q : VK} (h : TD K (fDc it g t fk e vs) σ H Q) : tDc (TDi K it) (TDw K vs g) (TDt K t) (TD K fk) (TD K e) vs σ H Q := by
  obtain ⟨m, env, S, R, E, d, S', e1, q0⟩ := h
  obtain ⟨⟨ps, own⟩, S1, k1, e2⟩ := Oc.bind_eq e1
  obtain ⟨⟨akk, acc⟩, S2, k2, e3⟩ := Oc.bind_eq e2
  cases e3
  refine dc_walk R E k1 k2 fun p xs l2 c2 H2 hp w hk R2 e2 hl2 hn2 i2 => ?_
  obtain ⟨R3, ex3⟩ := R2.show' hp
  have hpl := (R2.hid p (List.mem_cons_self ..)).1
  refine q0 (.ref p) ⟨l2, m.h, c2⟩ H2 ⟨w.ext, fun b o z => ex3 b o (w.ex b o z), rfl, hk, w.co⟩ R3 ⟨p, xs, rfl, ?_, hl2, hn2, IsAll.mono ex3 _ _ i2⟩
  exact mask_at (m := ⟨l2, m.h, c2⟩) (R2.shown hp) e2 (by intro _ z; cases z)
end
section
variable {X : Cx} {kx vx tg iter : Expr} {ifs : List Expr} {scope : Scope} {pos : Pos} {it : FI} {g : FG} {t : FT} {fk e : FE}
theorem d_dc (hX : SX X) (own : List (Str × Nat)) (hi : PId X tg iter it) (ok : BlkOk X.N X.env.scope scope own) (hg : ∀ (s : Shared) (H : Hp) (C : Addr) (cl : List (Str × Addr)) (fp : List Addr), PG (X.blk s H scope (compEnvC scope cl C X.env) fp) tg (TDw X.K (own.map (·.2)) g))
    (ht : ∀ (s : Shared) (H : Hp) (C : Addr) (cl : List (Str × Addr)) (fp : List Addr), PTs (X.blk s H scope (compEnvC scope cl C X.env) fp) ifs (TDt X.K t)) (hk : ∀ (s : Shared) (H : Hp) (C : Addr) (cl : List (Str × Addr)) (fp : List Addr), PE (X.blk s H scope (compEnvC scope cl C X.env) fp) kx (TD X.K fk))
    (he : ∀ (s : Shared) (H : Hp) (C : Addr) (cl : List (Str × Addr)) (fp : List Addr), PE (X.blk s H scope (compEnvC scope cl C X.env) fp) vx (TD X.K e))
    (hs : ∀ x, foldedSetIterable iter X.env x = pure x := by intro _; rfl) : PEd X (.DictComp kx vx [⟨tg, iter, ifs, 0⟩] scope pos) (fDc it g t fk e (own.map (·.2))) := pe_weak (pe_dc hX.calm hX.nd hi ok hg ht hk he hs) fun _ _ _ => dc_val
end
section
variable {X : Cx} {o e : Expr} {es : List Expr} {fo : FE} {ga : FA} {name : Str} {apos cpos : Pos} {id : String} {r : V → List V → Hp → VK → Prop} {op : MOp}
theorem d_mt (slot : Slot "list" name id) (hty : typeOf (.builtin id) = pure (.type "method_descriptor")) (hm : MtR X id r) (hop : OpM X.K r op) (ho : PEd X o fo) (ha : PAd X (e :: es) ga)
    (hbase : attributeBase o name X.env (eval o X.env) = eval o X.env := by rfl)
    (hfew : ((backTo cpos (starEach (e :: es) X.env)).all (fun x => !x.1) && (backToKw cpos (keywordEach [] X.env)).all (fun x => x.1.isSome)
      && decide ((e :: es).length + ([] : List Keyword).length + (if ([] : List Keyword).isEmpty then 0 else 1) < 30)) = true := by rfl)
    (hline : (apos.endLine == cpos.line) = true := by rfl) (hs : starEach (e :: es) X.env = (false, eval e X.env) :: starEach es X.env := by rfl) (hplain : (backTo cpos (starEach es X.env)).any (·.1) = false := by rfl) :
    PEd X (.Call (.Attribute o name apos) (e :: es) [] cpos) (fMt op fo ga) := pe_weak (pe_bm PySem.F.plainAttrs_list slot hty hm ho ha hbase hfew hline hs hplain) fun _ _ _ => td_mt hop
theorem d_append (ho : PEd X o fo) (ha : PAd X [e] ga) (hbase : attributeBase o "append" X.env (eval o X.env) = eval o X.env := by rfl)
    (hfew : ((backTo cpos (starEach [e] X.env)).all (fun x => !x.1) && (backToKw cpos (keywordEach [] X.env)).all (fun x => x.1.isSome)
      && decide ([e].length + ([] : List Keyword).length + (if ([] : List Keyword).isEmpty then 0 else 1) < 30)) = true := by rfl)
    (hline : (apos.endLine == cpos.line) = true := by rfl) (hs : starEach [e] X.env = (false, eval e X.env) :: starEach [] X.env := by rfl) : PEd X (.Call (.Attribute o "append" apos) [e] [] cpos) (fMt mAppend fo ga) := d_mt PySem.F.slot_list_append PySem.F.type_list_append mt_append om_append ho ha hbase hfew hline hs
theorem d_extend (ho : PEd X o fo) (ha : PAd X [e] ga) (hbase : attributeBase o "extend" X.env (eval o X.env) = eval o X.env := by rfl)
    (hfew : ((backTo cpos (starEach [e] X.env)).all (fun x => !x.1) && (backToKw cpos (keywordEach [] X.env)).all (fun x => x.1.isSome)
      && decide ([e].length + ([] : List Keyword).length + (if ([] : List Keyword).isEmpty then 0 else 1) < 30)) = true := by rfl)
    (hline : (apos.endLine == cpos.line) = true := by rfl) (hs : starEach [e] X.env = (false, eval e X.env) :: starEach [] X.env := by rfl) : PEd X (.Call (.Attribute o "extend" apos) [e] [] cpos) (fMt mExtend fo ga) := d_mt PySem.F.slot_list_extend PySem.F.type_list_extend mt_extend om_extend ho ha hbase hfew hline hs
theorem d_popAt (ho : PEd X o fo) (ha : PAd X [e] ga) (hbase : attributeBase o "pop" X.env (eval o X.env) = eval o X.env := by rfl)
    (hfew : ((backTo cpos (starEach [e] X.env)).all (fun x => !x.1) && (backToKw cpos (keywordEach [] X.env)).all (fun x => x.1.isSome)
      && decide ([e].length + ([] : List Keyword).length + (if ([] : List Keyword).isEmpty then 0 else 1) < 30)) = true := by rfl)
    (hline : (apos.endLine == cpos.line) = true := by rfl) (hs : starEach [e] X.env = (false, eval e X.env) :: starEach [] X.env := by rfl) : PEd X (.Call (.Attribute o "pop" apos) [e] [] cpos) (fMt mPopAt fo ga) := d_mt PySem.F.slot_list_pop PySem.F.type_list_pop mt_popAt om_popAt ho ha hbase hfew hline hs
end
theorem fn_D {P : Program} {w : World} {K : PySem.W.Frag} {mg : Str → Option Value} {base : Heap} {k : Nat} {f : Addr} {name qual : Str} {params : Arguments} {body : List Stmt} {scope : Scope} {dvs : List V} {kws : List (Str × V)} {fd : FuncData}
    {N ps : List Str} {b : FS} {keep : Bool} (F : FunD K name qual params body scope dvs kws f fd) (S : FnScope N ps scope)
    (hbody : ∀ (cdv : Value) (A : Around) (outer : List PySem.Env) (s : Shared) (H : Hp), Room k (A.deeper (envOfC qual scope s.heap.objs.size f cdv)) → SX (cxOf CX0 P w K mg base N qual scope f cdv A outer s H E0).nox → PassesOwn (model P w) (A.deeper (envOfC qual scope s.heap.objs.size f cdv)) (cxOf CX0 P w K mg base N qual scope f cdv A outer s H E0).nox.env (cxOf CX0 P w K mg base N qual scope f cdv A outer s H E0).nox.xe → PSsd (cxOf CX0 P w K mg base N qual scope f cdv A outer s H E0).nox body b) :
    FnG P w K mg base (k + 1) f fd ps (runF N.length keep b) := by
  obtain ⟨oc, od, dV, kV, doc, pm, an, cdv, ct, osl, rfl, lk, hcd, _, _⟩ := F.ex
  refine fn_g lk hcd S fun A outer s H hr hgd => hbody cdv A outer s H hr ⟨rfl, S.nd, ?_, hgd⟩ ?_
  · have := hr.un
    show (A.deeper (envOfC qual scope s.heap.objs.size f cdv)).units + 200 < cLine
    omega
  · exact PassesOwn.never
end DL
namespace DL
open PySem PySem.Spec PyProof.Rows L2
variable [Tb]
theorem bb_len : bootBuiltins "len" = some (.builtin "len") := by decide +kernel
theorem bb_list : bootBuiltins "list" = some (.type "list") := by decide +kernel
theorem bb_tuple : bootBuiltins "tuple" = some (.type "tuple") := by decide +kernel
theorem bb_min : bootBuiltins "min" = some (.builtin "min") := by decide +kernel
theorem bb_int : bootBuiltins "int" = some (.type "int") := by decide +kernel
theorem bb_all : bootBuiltins "all" = some (.builtin "all") := by decide +kernel
theorem bb_sorted : bootBuiltins "sorted" = some (.builtin "sorted") := by decide +kernel
theorem cr_len {X : Cx} : CallR X (.builtin "len") (rLenAll X.K) := cr_or call_len call_lenD
theorem on_list {K : PySem.W.Frag} : OpN K (fun xs H Q => ∃ p ys, xs = [.ref p] ∧ (SqL K H p ys ∨ SqT K H p ys) ∧ ∀ l, H l = none → Q (.ref l) (upd H l (.lst ys))) bList := on_of_ol ol_list bList_lst
theorem on_sorted {K : PySem.W.Frag} : OpN K (rSortD K) bSorted := on_of_ol ol_sorted bSorted_lst
section
variable {X : Cx} {a b : Expr} {f g : FE} {pos : Pos}
theorem bl_eq (p q u : P) (e : pEq p q = some u) : ∃ b, u = .bl b := by
  unfold pEq at e
  repeat' (split at e)
  all_goals first | cases e <;> exact ⟨_, rfl⟩ | (cases e; exact ⟨_, rfl⟩) | cases e
theorem bl_ne (p q u : P) (e : pNe p q = some u) : ∃ b, u = .bl b := by
  unfold pNe at e
  repeat' (split at e)
  all_goals first | cases e <;> exact ⟨_, rfl⟩ | (cases e; exact ⟨_, rfl⟩) | cases e
theorem bl_lt (p q u : P) (e : pLt p q = some u) : ∃ b, u = .bl b := by
  unfold pLt at e
  repeat' (split at e)
  all_goals first | cases e <;> exact ⟨_, rfl⟩ | (cases e; exact ⟨_, rfl⟩) | cases e
theorem bl_gt (p q u : P) (e : pGt p q = some u) : ∃ b, u = .bl b := by
  unfold pGt at e
  repeat' (split at e)
  all_goals first | cases e <;> exact ⟨_, rfl⟩ | (cases e; exact ⟨_, rfl⟩) | cases e
theorem bl_ge (p q u : P) (e : pGe p q = some u) : ∃ b, u = .bl b := by
  unfold pGe at e
  repeat' (split at e)
  all_goals first | cases e <;> exact ⟨_, rfl⟩ | (cases e; exact ⟨_, rfl⟩) | cases e
theorem bl_in (p q u : P) (e : pIn p q = some u) : ∃ b, u = .bl b := by
  unfold pIn at e
  obtain ⟨b, _, h⟩ := Option.map_eq_some_iff.mp e
  exact ⟨b, h.symm⟩
theorem bl_notIn (p q u : P) (e : pNotIn p q = some u) : ∃ b, u = .bl b := by
  unfold pNotIn at e
  obtain ⟨b, _, h⟩ := Option.map_eq_some_iff.mp e
  exact ⟨!b, h.symm⟩
theorem t_of {op : CmpOp} {r : R2} {o : P → P → Option P} (ho : OpR X (compareOp op) r) (h2 : Op2 X.K r o) (hbl : ∀ p q u, o p q = some u → ∃ b, u = .bl b) (ha : PEd X a f) (hb : PEd X b g) (h1 : op ≠ .In) (h2' : op ≠ .NotIn) : PTd X (.Compare a [op] [b] pos) (fTru (f2 o f g)) := d_cmpT ho h2 hbl ha hb (nobehind _ h1 h2')
theorem t_eq (hX : SX X) (ha : PEd X a f) (hb : PEd X b g) : PTd X (.Compare a [.Eq] [b] pos) (fTru (f2 pEq f g)) := t_of (op_eqD (by have := hX.units; omega)) op2_eq bl_eq ha hb (by decide) (by decide)
theorem t_ne (hX : SX X) (ha : PEd X a f) (hb : PEd X b g) : PTd X (.Compare a [.NotEq] [b] pos) (fTru (f2 pNe f g)) := t_of (op_neD (by have := hX.units; omega)) op2_ne bl_ne ha hb (by decide) (by decide)
theorem t_lt (ha : PEd X a f) (hb : PEd X b g) : PTd X (.Compare a [.Lt] [b] pos) (fTru (f2 pLt f g)) := t_of (opr_or op_lt op_lt_str) (fun m H S p q u x y Q R hx hy e k => by
  unfold pLt at e
  split at e
  · cases e; exact .inl ⟨_, _, hx, hy, k.here R rfl⟩
  · cases e; exact .inr ⟨_, _, hx, hy, k.here R rfl⟩
  · cases e) bl_lt ha hb (by decide) (by decide)
theorem t_gt (ha : PEd X a f) (hb : PEd X b g) : PTd X (.Compare a [.Gt] [b] pos) (fTru (f2 pGt f g)) := t_of op_gt (fun m H S p q u x y Q R hx hy e k => by
  unfold pGt at e
  split at e
  · cases e; exact ⟨_, _, hx, hy, k.here R rfl⟩
  · cases e) bl_gt ha hb (by decide) (by decide)
theorem t_ge (ha : PEd X a f) (hb : PEd X b g) : PTd X (.Compare a [.GtE] [b] pos) (fTru (f2 pGe f g)) := t_of op_ge (fun m H S p q u x y Q R hx hy e k => by
  unfold pGe at e
  split at e
  · cases e; exact ⟨_, _, hx, hy, k.here R rfl⟩
  · cases e) bl_ge ha hb (by decide) (by decide)
theorem t_in (hX : SX X) (ha : PEd X a f) (hb : PEd X b g) (hm : behindInMarks .In b = false := by rfl) : PTd X (.Compare a [.In] [b] pos) (fTru (f2 pIn f g)) := d_cmpT (opr_in hX) (fun m H S p q u x y Q R hx hy e k => by
  unfold pIn at e
  cases hb : pInB p q with
  | none => rw [hb] at e; cases e
  | some b =>
    rw [hb] at e
    cases e
    rcases inB_is hx hy hb with ⟨a, o, h1, h2, rfl⟩ | ⟨i, j, h1, h2, rfl⟩ | ⟨xs, d, h1, h2, h3, h4, rfl⟩
    · exact .inl ⟨a, o, h1, h2, k.here R rfl⟩
    · exact .inr (.inl ⟨i, j, h1, h2, k.here R rfl⟩)
    · exact .inr (.inr ⟨xs, d, h1, h2, h3, h4, k.here R rfl⟩)) bl_in ha hb hm
theorem t_notIn (hX : SX X) (ha : PEd X a f) (hb : PEd X b g) (hm : behindInMarks .NotIn b = false := by rfl) : PTd X (.Compare a [.NotIn] [b] pos) (fTru (f2 pNotIn f g)) := d_cmpT (opr_notIn hX) (fun m H S p q u x y Q R hx hy e k => by
  unfold pNotIn at e
  cases hb : pInB p q with
  | none => rw [hb] at e; cases e
  | some b =>
    rw [hb] at e
    cases e
    rcases inB_is hx hy hb with ⟨a, o, h1, h2, rfl⟩ | ⟨i, j, h1, h2, rfl⟩ | ⟨xs, d, h1, h2, h3, h4, rfl⟩
    · exact .inl ⟨a, o, h1, h2, k.here R rfl⟩
    · exact .inr (.inl ⟨i, j, h1, h2, k.here R rfl⟩)
    · exact .inr (.inr ⟨xs, d, h1, h2, h3, h4, k.here R rfl⟩)) bl_notIn ha hb hm
end
def blkB (N : List Str) (sc scope : Scope) (own : List (Str × Nat)) : Bool :=
  decide (scope.kind = .function) && ((scope.names.all fun y => decide (scope.names.lookup y.1 = some y.2)) && ((own.all fun p => decide (N[p.2]? = some p.1)) &&
    ((scope.names.all fun y => !decide (y.2 = .free) || (decide (sc.names.lookup y.1 = some .cell) || decide (sc.names.lookup y.1 = some .free))) &&
      scope.names.all fun y => !(decide (y.2 = .local) || decide (y.2 = .cell)) || (decide (y.1 ∈ own.map (·.1)) || decide (y.1 ∉ N)))))
theorem blk_ok {N : List Str} {sc scope : Scope} {own : List (Str × Nat)} (h : blkB N sc scope own = true := by kernel_rfl) : BlkOk N sc scope own := by
  unfold blkB at h
  simp only [Bool.and_eq_true, List.all_eq_true, decide_eq_true_eq, Bool.or_eq_true, Bool.not_eq_true', decide_eq_false_iff_not, Bool.or_eq_false_iff] at h
  obtain ⟨h1, h2, h3, h4, h5⟩ := h
  exact ⟨h1, h2, h3, fun y hy e => (h4 y hy).resolve_left fun z => z e, fun y hy e => (h5 y hy).resolve_left fun z => e.elim z.1 z.2⟩
section
variable {X : Cx} {pos : Pos}
theorem s_parC (hX : SX X) {i j : Nat} {x y : Str} {a b : Expr} {g : FA} {px py pt : Pos} {kt k2 pt2} (ha : PAd X [a, b] g)
    (hi : X.N[i]? = some x := by rfl) (hj : X.N[j]? = some y := by rfl)
    (hx : Loc X.env.scope x := by first | exact .inl rfl | exact .inr rfl) (hy : Loc X.env.scope y := by first | exact .inl rfl | exact .inr rfl)
    (hfx : X.fn x = true ∨ X.env.scope.names.lookup x = some .local := by first | exact .inl rfl | exact .inr rfl | assumption) (hfy : X.fn y = true ∨ X.env.scope.names.lookup y = some .local := by first | exact .inl rfl | exact .inr rfl | assumption)
    (hs : swapsWithSole [.Tuple [.Name x px, .Name y py] kt pt] (.Tuple [a, b] k2 pt2) pos.line X.env = pure false := by rfl)
    (hw : swappedStores [.Tuple [.Name x px, .Name y py] kt pt] (.Tuple [a, b] k2 pt2) X.env = pure none := by rfl) :
    PSd X (.Assign [.Tuple [.Name x px, .Name y py] kt pt] (.Tuple [a, b] k2 pt2) pos) (fPar i j g) :=
  ps_weak (ps_asg (pe_tup ha) (pg_tup hX.calm (pgs_cons (pg_name hX.nd hi hx hfx) (pgs_cons (pg_name hX.nd hj hy hfy) pgs_nil))) hs hw) fun D σ H ⟨m, env, S, R, E, q⟩ => by
  obtain ⟨ds, S1, k1, q⟩ := Oc.fl_ne q
  refine ⟨m, env, S, R, E, ds, S1, k1, fun vs m1 H1 st1 R1 i1 => ?_⟩
  split at q
  · obtain ⟨v, ws, rfl, h2, h3⟩ := i1
    obtain ⟨w, ws, rfl, h4, h5⟩ := h3
    have h5' : ws = [] := h5
    subst h5'
    refine ⟨size_of (show 2 ≤ 100000 by decide), fun p hp => ?_⟩
    obtain ⟨R2, st2⟩ := R1.fresh (o := .tup [v, w]) hp
    exact ⟨p, [v, w], rfl, .inl (.inl upd_same), rfl, v, [w], rfl, w, [], rfl, rfl, q m1 _ _ (st1.trans st2) R2 (((E.step (st1.trans st2)).set (st2.is h2)).set (st2.is h4))⟩
  · exact q.elim
end
end DL
namespace FV
open PySem PySem.Spec PyProof.Rows L2 DL
variable [Tb]
section
variable {X : Cx} {x : Str} {p pos : Pos}
theorem d_fnv (hm : X.mg x = some (.ref (He.ga X.K x))) (hg : Gl X x := by rfl) (hd : (x == ("__debug__" : Str)) = false := by decide) : PEd X (.Name x p) (fC (.v (.fn x))) := d_const (v := .ref (He.ga X.K x)) (pe_glob hg hm rfl hd) fun _ => rfl
end
structure TabF (X : Cx) (n : Nat) (tab : List (Str × FF)) : Prop where
  of : ∀ y F, tab.lookup y = some F → ∃ (k : Nat) (fd : FuncData) (ps : List Str), FnG X.prog X.w X.K X.mg X.base k (He.ga X.K y) fd ps F ∧ Room k X.A ∧ PySem.W.keepIn X.K (.ref (He.ga X.K y)) = true ∧ Binds X.K fd ps [] ∧ ps.length = n
theorem TabF.nil {X : Cx} {n : Nat} : TabF X n [] := ⟨fun y F h => by simp at h⟩
theorem TabF.cons {X : Cx} {n k : Nat} {x : Str} {F : FF} {fd : FuncData} {ps : List Str} {tab : List (Str × FF)} (G : FnG X.prog X.w X.K X.mg X.base k (He.ga X.K x) fd ps F) (hr : Room k X.A) (hk : PySem.W.keepIn X.K (.ref (He.ga X.K x)) = true) (hb : Binds X.K fd ps []) (hl : ps.length = n)
    (t : TabF X n tab) : TabF X n ((x, F) :: tab) := ⟨fun y F' h => by
  rw [List.lookup_cons] at h
  by_cases e : (y == x) = true
  · rw [e] at h
    have ey : y = x := beq_iff_eq.mp e
    subst ey
    cases h
    exact ⟨k, fd, ps, G, hr, hk, hb, hl⟩
  · rw [Bool.eq_false_iff.mpr e] at h
    exact t.of y F' h⟩
def fCallV (tab : List (Str × FF)) (i : Nat) (g : FA) : FE := fun env S => match env[i]? with
  | some (some (.v (.fn y))) => match tab.lookup y with
    | some F => (g env S).bind fun ds S1 => F ds S1
    | none => .bad
  | _ => .bad
section
variable {X : Cx} {n i : Nat} {x : Str} {p pos : Pos} {e : Expr} {es : List Expr} {g : FA} {tab : List (Str × FF)}
theorem d_callv (hX : SX X) (ht : TabF X n tab) (hv : PEd X (.Name x p) (fVar i)) (ha : PAd X (e :: es) g) (hlen : (e :: es).length = n := by rfl)
    (hl : ∀ env S qs S', g env S = .ok qs S' → qs.length = (e :: es).length)
    (he : starEach (e :: es) X.env = (false, eval e X.env) :: starEach es X.env := by rfl) (hpl : (backTo pos (starEach es X.env)).any (·.1) = false := by rfl) :
    PEd X (.Call (.Name x p) (e :: es) [] pos) (fCallV tab i g) := by
  refine ⟨fun pins s σ H Q I h => ?_⟩
  obtain ⟨m, env, S, R, E, d, S', e1, q⟩ := h
  unfold fCallV at e1
  split at e1
  · rename_i y hy
    split at e1
    · rename_i F hF
      obtain ⟨qs, S1, k1, e2⟩ := Oc.bind_eq e1
      obtain ⟨k, fd, ps, G, hr, hk, hb, hps⟩ := ht.of y F hF
      have hev : fVar i env S = .ok (.v (.fn y)) S := by
        unfold fVar
        rw [hy]
      refine wpAny_Call_Name_kw (thn (hv.run pins s σ H (fun v H1 => v = .ref (He.ga X.K y) ∧ ∃ m1, Stp m H m1 H1 ∧ Rel X.K m1 H1 S) I ⟨m, env, S, R, E, .v (.fn y), S, hev, fun v m1 H1 st1 R1 i1 => ⟨i1, m1, st1, R1⟩⟩) fun u s1 ⟨v, H1, I1, rv, ev, m1, st1, R1⟩ => ?_)
      subst ev
      obtain rfl : u = Value.ref (He.ga X.K y) := rv
      refine PySem.W.callWith_K (h₀ := X.base) I.ok.mod.kin hk (thn (ha.run pos pins s1 σ H1 (fun vs H2 => SpD X.K ps.length F vs H2 Q ∧ vs.length = ps.length) I1 ⟨m1, env, S, R1, E.step st1, qs, S1, k1, fun vs m2 H2 st2 R2 i2 => ?_⟩) fun us s2 ⟨vs, H2, I2, r, q1, q2⟩ => ⟨I2.kIn, ?_⟩) he hpl
      · have hlq := hl _ _ _ _ k1
        have hlv : vs.length = ps.length := by rw [← i2.len, hlq, hlen, hps]
        refine ⟨⟨m2, S1, qs, d, S', R2, i2, by rw [hlq, hlen, hps], e2, fun v m3 H3 st3 R3 i3 => q v m3 H3 ((st1.trans st2).trans st3) R3 i3⟩, hlv⟩
      · have b := hb s2 us I2.kIn (by rw [List.append_nil, ← r.length]; exact q2)
        rw [List.append_nil] at b
        exact run_gW G hr hX I2 b r q1
    · cases e1
  · cases e1
end
def tyN : P → Option String
  | .non => some "NoneType"
  | .bl _ => some "bool"
  | .int _ => some "int"
  | .str _ => some "str"
  | .tup _ => some "tuple"
  | .lst _ => some "list"
  | .dic _ _ => some "dict"
  | _ => none
def pIsi (T : String) (p : P) : Option P := (tyN p).bind fun n => (kitB n T).map .bl
theorem tyX_of {K : PySem.W.Frag} {m : Mp} {H : Hp} {p : P} {x : V} {n : String} (h : IsR K m H p x) (e : tyN p = some n) : TyX K H x (.type n) := by
  cases p with
  | non => have h' : x = .non := h; subst h'; cases e; exact .base .non
  | bl b => have h' : x = .bl b := h; subst h'; cases e; exact .base (.bl b)
  | int i => have h' : x = .int i := h; subst h'; cases e; exact .base (.int i)
  | str y => have h' : x = .str y := h; subst h'; cases e; exact .base (.str y)
  | tup ps =>
    obtain ⟨a, xs, rfl, h1, _⟩ := h
    cases e
    rcases sqT_mono (mask_ex m H) h1 with (h2 | ⟨o, h2⟩) | ⟨o, its, n, h2, h3, _⟩
    · exact .base (.tup h2)
    · exact .fTuple h2
    · exact .kTuple h2 h3
  | lst ps =>
    obtain ⟨a, xs, rfl, h1, _⟩ := h
    cases e
    exact .base (.lst h1)
  | frz ps => cases e
  | dic ks ps =>
    obtain ⟨a, xs, rfl, h1, _⟩ := h
    cases e
    exact .base (.dK h1)
  | fn y => cases e
  | dn ks ps => cases e
  | exn _ _ _ _ _ => cases e
  | adr _ => cases e
section
variable {X : Cx} {a : Expr} {f : FE} {p p2 pos : Pos}
theorem pe_ty {T : String} {x : Str} (hm : X.mg x = none) (hv : bootBuiltins x = some (.type T)) (hg : Gl X x := by rfl) (hn : x ≠ "__name__" := by decide) (hdb : (x == ("__debug__" : Str)) = false := by decide) : PE X (.Name x p) (tC (.ty T)) :=
  ⟨fun pins s σ H Q I h => ld_blt I hg hm hv ⟨.ty T, H, I, rfl, h⟩ hn hdb⟩
theorem d_isi {T : String} {x : Str} (hm : X.mg "isinstance" = none) (hmT : X.mg x = none) (hv : bootBuiltins x = some (.type T)) (ha : PEd X a f) (hg : Gl X "isinstance" := by rfl) (hgT : Gl X x := by rfl) (hn : x ≠ "__name__" := by decide) (hdb : (x == ("__debug__" : Str)) = false := by decide)
    (he : starEach [a, .Name x p2] X.env = (false, eval a X.env) :: starEach [.Name x p2] X.env := by rfl) (he2 : starEach [.Name x p2] X.env = (false, eval (.Name x p2) X.env) :: starEach [] X.env := by rfl) (hpl : (backTo pos (starEach [.Name x p2] X.env)).any (·.1) = false := by rfl) :
    PEd X (.Call (.Name "isinstance" p) [a, .Name x p2] [] pos) (f1 (pIsi T) f) :=
  pe_weak (pe_callB call_isi hg hm PyProof.Rows.boot_isinstance (pa_cons ha (pa_cons (pe_ty hmT hv hgT hn hdb) pa_nil he2) he) (by decide) (by decide) he hpl) fun σ H Q h => by
    refine td_un (r := fun x H1 Q1 => rIsi X.K [x, .ty T] H1 Q1) (fun m H1 S1 p u x Q1 R hx e k => ?_) h
    unfold pIsi at e
    obtain ⟨n, h1, h2⟩ := Option.bind_eq_some_iff.mp e
    obtain ⟨b, h3, rfl⟩ := Option.map_eq_some_iff.mp h2
    exact ⟨x, .ty T, _, _, b, rfl, .ty T, tyX_of hx h1, kit_ty h3, k.here R rfl⟩
end
end FV
namespace DL
open PySem PySem.Spec PyProof.Rows L2
def Oc.P {α : Type} (o : Oc α) (Q : α → Sto → Prop) : Prop := match o with
  | .ok a S => Q a S
  | .bad => False
structure FEn where
  nx : Dnv → Sto → Prop
  rt : D → Sto → Prop
  bk : Dnv → Sto → Prop
  ct : Dnv → Sto → Prop
def Flo.F (f : Flo) (E : FEn) : Prop := match f with
  | .nx e S => E.nx e S
  | .rt d S => E.rt d S
  | .bk e S => E.bk e S
  | .ct e S => E.ct e S
  | .bad => False
section
variable {α β : Type} {Q R : α → Sto → Prop} {o : Oc α} {S S1 : Sto} {E : FEn} {env : Dnv}
theorem Oc.P.ex (h : o.P Q) : ∃ a S, o = .ok a S ∧ Q a S := by
  cases o with
  | ok a S => exact ⟨a, S, rfl, h⟩
  | bad => exact h.elim
theorem Oc.P.mono (h : o.P R) (q : ∀ a S, R a S → Q a S) : o.P Q := by
  cases o with
  | ok a S => exact q a S h
  | bad => exact h.elim
theorem P_of {a : α} (h : o = .ok a S) (q : Q a S) : o.P Q := by rw [h]; exact q
theorem P_bind {f : α → Sto → Oc β} {Q : β → Sto → Prop} (h : o.P fun a S => (f a S).P Q) : (o.bind f).P Q := by
  cases o with
  | ok a S => exact h
  | bad => exact h.elim
theorem F_fl {f : α → Sto → Flo} (h : o.P fun a S => (f a S).F E) : (o.fl f).F E := by
  cases o with
  | ok a S => exact h
  | bad => exact h.elim
theorem Flo.F.mono {f : Flo} {E' : FEn} (h : f.F E) (n : ∀ e S, E.nx e S → E'.nx e S) (r : ∀ e S, E.rt e S → E'.rt e S) (b : ∀ e S, E.bk e S → E'.bk e S) (c : ∀ e S, E.ct e S → E'.ct e S) : f.F E' := by
  cases f with
  | nx e S => exact n e S h
  | rt d S => exact r d S h
  | bk e S => exact b e S h
  | ct e S => exact c e S h
  | bad => exact h.elim
end
section
variable {f g h : FE} {ga gb : FA} {t u : FT} {env env2 : Dnv} {S S1 : Sto} {Q : D → Sto → Prop} {Qa : List D → Sto → Prop} {Qt : Bool → Sto → Prop}
theorem p_c {d : D} (q : Q d S) : (fC d env S).P Q := q
theorem p_var {i : Nat} {d : D} (h : env[i]? = some (some d)) (q : Q d S) : (fVar i env S).P Q := by
  unfold fVar
  rw [h]
  exact q
theorem p_nil (q : Qa [] S) : (fNil env S).P Qa := q
theorem p_cons (h : (f env S).P fun d S1 => (ga env S1).P fun ds S2 => Qa (d :: ds) S2) : (fCons f ga env S).P Qa := P_bind (h.mono fun _ _ h => P_bind (h.mono fun _ _ h => h))
theorem onVals_P {k : List P → Sto → Oc D} {ds : List D} {ps : List P} (h : vals ds = some ps) (hl : ps.length ≤ 100000) (q : (k ps S).P Q) : (onVals k ds S).P Q := by
  unfold onVals
  rw [h]
  show (if _ then _ else _ : Oc D).P Q
  rw [if_pos hl]
  exact q
theorem v_nil : vals [] = some [] := rfl
theorem v_cons {p : P} {ds : List D} {ps : List P} (h : vals ds = some ps) : vals (.v p :: ds) = some (p :: ps) := by
  show (vals ds).map _ = _
  rw [h]
  rfl
def tupE (ds : List D) (S : Sto) : Oc D := onVals (fun ps S1 => .ok (.v (.tup ps)) S1) ds S
def lstE (ds : List D) (S : Sto) : Oc D := onVals (fun ps S1 => .ok (.v (.lst ps)) S1) ds S
def lstBE (ds : List D) (S : Sto) : Oc D := onVals (fun ps S1 => .ok (.r S1.length) (S1 ++ [.lst ps])) ds S
theorem p_tup (h : (ga env S).P fun ds S1 => (tupE ds S1).P Q) : (fTup ga env S).P Q := P_bind h
theorem p_lst (h : (ga env S).P fun ds S1 => (lstE ds S1).P Q) : (fLst ga env S).P Q := P_bind h
theorem p_lstB (h : (ga env S).P fun ds S1 => (lstBE ds S1).P Q) : (fLstB ga env S).P Q := P_bind h
theorem p_tupE {ds : List D} {ps : List P} (h : vals ds = some ps) (hl : ps.length ≤ 100000) (q : Q (.v (.tup ps)) S) : (tupE ds S).P Q := onVals_P h hl q
theorem p_lstE {ds : List D} {ps : List P} (h : vals ds = some ps) (hl : ps.length ≤ 100000) (q : Q (.v (.lst ps)) S) : (lstE ds S).P Q := onVals_P h hl q
theorem p_lstBE {ds : List D} {ps : List P} (h : vals ds = some ps) (hl : ps.length ≤ 100000) (q : Q (.r S.length) (S ++ [.lst ps])) : (lstBE ds S).P Q := onVals_P h hl q
theorem p_f2 {op : P → P → Option P} (h : (f env S).P fun d S1 => (g env S1).P fun e S2 => (lift2 op d e S2).P Q) : (f2 op f g env S).P Q := P_bind (h.mono fun _ _ h => P_bind h)
theorem p_l2 {op : P → P → Option P} {d e : D} {p q u : P} (h1 : deP S d = some p) (h2 : deP S e = some q) (h3 : op p q = some u) (k : Q (.v u) S) : (lift2 op d e S).P Q := by
  unfold lift2
  rw [h1]
  show (match deP S e with | some q => oP (op p q) S | none => .bad : Oc D).P Q
  rw [h2]
  show (oP (op p q) S).P Q
  rw [h3]
  exact k
def truE (d : D) (S : Sto) : Oc Bool := match deP S d with
  | some p => match truP p with
    | some b => .ok b S
    | none => .bad
  | none => .bad
theorem p_tru (h : (f env S).P fun d S1 => (truE d S1).P Qt) : (fTru f env S).P Qt := by
  unfold fTru
  refine P_bind (h.mono fun d S1 h => ?_)
  unfold truE at h
  exact h
theorem p_truE {d : D} {p : P} {b : Bool} (h1 : deP S d = some p) (h2 : truP p = some b) (q : Qt b S) : (truE d S).P Qt := by
  unfold truE
  rw [h1]
  show (match truP p with | some b => .ok b S | none => .bad : Oc Bool).P Qt
  rw [h2]
  exact q
theorem p_and (h : (t env S).P fun b S1 => (b = true → (u env S1).P Qt) ∧ (b = false → Qt false S1)) : (fAnd t u env S).P Qt := P_bind (h.mono fun b S1 h => by
  cases b with
  | true => exact h.1 rfl
  | false => exact h.2 rfl)
theorem p_or (h : (t env S).P fun b S1 => (b = true → Qt true S1) ∧ (b = false → (u env S1).P Qt)) : (fOr t u env S).P Qt := P_bind (h.mono fun b S1 h => by
  cases b with
  | true => exact h.1 rfl
  | false => exact h.2 rfl)
theorem p_not (h : (t env S).P fun b S1 => Qt (!b) S1) : (fNot t env S).P Qt := P_bind h
theorem p_yes (h : Qt true S) : (fYes env S).P Qt := h
theorem p_ite (h : (t env S).P fun b S1 => (b = true → (f env S1).P Q) ∧ (b = false → (g env S1).P Q)) : (fIte t f g env S).P Q := P_bind (h.mono fun b S1 h => by
  cases b with
  | true => exact h.1 rfl
  | false => exact h.2 rfl)
def slE (d : D) (l u : Option Int) (S : Sto) : Oc D := match deP S d with
  | some p => oP (pSl p l u) S
  | none => .bad
theorem p_sl {lo hi : FO} (h : (f env S).P fun d S1 => (lo env S1).P fun l S2 => (hi env S2).P fun u S3 => (slE d l u S3).P Q) : (fSl f lo hi env S).P Q := P_bind (h.mono fun _ _ h => P_bind (h.mono fun _ _ h => P_bind (h.mono fun _ _ h => h)))
theorem p_slE {d : D} {l u : Option Int} {p q : P} (h1 : deP S d = some p) (h2 : pSl p l u = some q) (k : Q (.v q) S) : (slE d l u S).P Q := by
  unfold slE
  rw [h1]
  show (oP (pSl p l u) S).P Q
  rw [h2]
  exact k
theorem p_oNo {Qo : Option Int → Sto → Prop} (q : Qo none S) : (oNo env S).P Qo := q
def atE (d : D) (S : Sto) : Oc (Option Int) := match d with
  | .v (.int i) => .ok (some i) S
  | _ => .bad
def cbE (op : List P → Option P) (ds : List D) (S : Sto) : Oc D := match deAll S ds with
  | some ps => oP (op ps) S
  | none => .bad
def cbBE (op : List P → Option P) (ds : List D) (S : Sto) : Oc D := match deAll S ds with
  | some ps => oB (op ps) S
  | none => .bad
theorem p_cb {op : List P → Option P} (h : (ga env S).P fun ds S1 => (cbE op ds S1).P Q) : (fCb op ga env S).P Q := P_bind (h.mono fun _ _ h => h)
theorem p_cbB {op : List P → Option P} (h : (ga env S).P fun ds S1 => (cbBE op ds S1).P Q) : (fCbB op ga env S).P Q := P_bind (h.mono fun _ _ h => h)
theorem p_cbE {op : List P → Option P} {ds : List D} {ps : List P} {u : P} (h1 : deAll S ds = some ps) (h2 : op ps = some u) (q : Q (.v u) S) : (cbE op ds S).P Q := by
  unfold cbE
  rw [h1]
  show (oP (op ps) S).P Q
  rw [h2]
  exact q
theorem p_cbBE {op : List P → Option P} {ds : List D} {ps qs : List P} (h1 : deAll S ds = some ps) (h2 : op ps = some (.lst qs)) (q : Q (.r S.length) (S ++ [.lst qs])) : (cbBE op ds S).P Q := by
  unfold cbBE
  rw [h1]
  show (oB (op ps) S).P Q
  rw [h2]
  exact q
theorem a_nil : deAll S [] = some [] := rfl
theorem a_cons {d : D} {ds : List D} {p : P} {ps : List P} (h1 : deP S d = some p) (h2 : deAll S ds = some ps) : deAll S (d :: ds) = some (p :: ps) := by
  show (match deP S d with | some p => (deAll S ds).map (p :: ·) | none => none) = _
  rw [h1, h2]
  rfl
def mtE (op : MOp) (n : Nat) (ds : List D) (S : Sto) : Oc D := match S[n]? with
  | some (.lst ps) => match op ps ds S with
    | some (u, qs) => .ok (.v u) (S.set n (.lst qs))
    | none => .bad
  | _ => .bad
theorem p_mt {op : MOp} {i n : Nat} {ps : List P} (h : env[i]? = some (some (.r n))) (h1 : S[n]? = some (.lst ps)) (q : (ga env S).P fun ds S1 => (mtE op n ds S1).P Q) : (fMt op (fVar i) ga env S).P Q := by
  unfold fMt
  refine P_bind (p_var h ?_)
  show (match S[n]? with
    | some (.lst _) => (ga env S).bind fun ds S2 => match S2[n]? with
      | some (.lst ps) => match op ps ds S2 with
        | some (u, qs) => .ok (.v u) (S2.set n (.lst qs))
        | none => .bad
      | _ => .bad
    | _ => .bad : Oc D).P Q
  rw [h1]
  exact P_bind (q.mono fun _ _ h => h)
theorem p_mtE {op : MOp} {n : Nat} {ds : List D} {ps qs : List P} {u : P} (h1 : S[n]? = some (.lst ps)) (h2 : op ps ds S = some (u, qs)) (q : Q (.v u) (S.set n (.lst qs))) : (mtE op n ds S).P Q := by
  unfold mtE
  rw [h1]
  show (match op ps ds S with | some (u, qs) => .ok (.v u) (S.set n (.lst qs)) | none => .bad : Oc D).P Q
  rw [h2]
  exact q
theorem p_call {G : FF} {dv : List D} (h : (ga env S).P fun ds S1 => (G (ds ++ dv) S1).P Q) : (fCall G dv ga env S).P Q := P_bind h
theorem p_callN {G : FF} {n k : Nat} {gd : List D → List D → List D} (h : (ga env S).P fun ds S1 => (gb env S1).P fun es S2 => ds.length = n ∧ es.length = k ∧ (G (gd ds es) S2).P Q) : (fCallN G n k gd ga gb env S).P Q := P_bind (h.mono fun ds _ h => P_bind (h.mono fun es _ h => by
  show (if _ then _ else _ : Oc D).P Q
  rw [if_pos ⟨h.1, h.2.1⟩]
  exact h.2.2))
end
section
variable {env : Dnv} {S S1 : Sto} {Q : Dnv → Sto → Prop} {d : D}
theorem p_gNm {i : Nat} (q : Q (env.set i (some d)) S) : (gNm i d env S).P Q := q
def sbE (o i d : D) (env : Dnv) (S : Sto) : Oc Dnv := match setD o i d S with
  | some S3 => .ok env S3
  | none => .bad
theorem p_gSb {fo fi : FE} (h : (fo env S).P fun o S1 => (fi env S1).P fun i S2 => (sbE o i d env S2).P Q) : (gSb fo fi d env S).P Q := P_bind (h.mono fun _ _ h => P_bind (h.mono fun _ _ h => h))
theorem p_sbL {n j : Nat} {k : Int} {p : P} {ps : List P} (h1 : S[n]? = some (.lst ps)) (h2 : ixN ps.length k = some j) (q : Q env (S.set n (.lst (ps.set j p)))) : (sbE (.r n) (.v (.int k)) (.v p) env S).P Q := by
  have e : setD (.r n) (.v (.int k)) (.v p) S = some (S.set n (.lst (ps.set j p))) := by simp [setD, h1, h2]
  unfold sbE
  rw [e]
  exact q
theorem p_sbD {n : Nat} {kp p : P} {k : Key} {ks : List Key} {ps : List P} (h1 : S[n]? = some (.dic ks ps)) (h2 : pKey kp = some k) (h3 : ks.length < 10000) (q : Q env (S.set n (.dic (putP ks ps k p).1 (putP ks ps k p).2))) : (sbE (.r n) (.v kp) (.v p) env S).P Q := by
  have e : setD (.r n) (.v kp) (.v p) S = some (S.set n (.dic (putP ks ps k p).1 (putP ks ps k p).2)) := by simp [setD, h1, h2, h3]
  unfold sbE
  rw [e]
  exact q
end
section
variable {f : FE} {ga : FA} {g : FG} {t : FT} {a b : FS} {env : Dnv} {S S1 : Sto} {E : FEn}
theorem s_Nx (q : E.nx env S) : (fNext env S).F E := q
theorem s_Seq {En : Dnv → Sto → Prop} {Er : D → Sto → Prop} {Eb Ec : Dnv → Sto → Prop} (h : (a env S).F ⟨fun e s => (b e s).F ⟨En, Er, Eb, Ec⟩, Er, Eb, Ec⟩) : (fSeq a b env S).F ⟨En, Er, Eb, Ec⟩ := by
  unfold fSeq
  cases e : a env S with
  | nx e S => rw [e] at h; exact h
  | rt d S => rw [e] at h; exact h
  | bk e S => rw [e] at h; exact h
  | ct e S => rw [e] at h; exact h
  | bad => rw [e] at h; exact h.elim
theorem s_Set (h : (f env S).P fun d S1 => (g d env S1).P fun e s => E.nx e s) : (fSet f g env S).F E := F_fl (h.mono fun _ _ h => F_fl h)
theorem s_Drop (h : (f env S).P fun _ S1 => E.nx env S1) : (fDrop f env S).F E := F_fl h
theorem s_Ret (h : (f env S).P fun d S1 => E.rt d S1) : (fRet f env S).F E := F_fl h
theorem s_If (h : (t env S).P fun k S1 => (k = true → (a env S1).F E) ∧ (k = false → (b env S1).F E)) : (fIf t a b env S).F E := F_fl (h.mono fun k S1 h => by
  cases k with
  | true => exact h.1 rfl
  | false => exact h.2 rfl)
def parE (i j : Nat) (env : Dnv) (ds : List D) (S : Sto) : Flo := match ds with
  | [d, e] => .nx ((env.set i (some d)).set j (some e)) S
  | _ => .bad
theorem s_Par {i j : Nat} (h : (ga env S).P fun ds S1 => (parE i j env ds S1).F E) : (fPar i j ga env S).F E := F_fl (h.mono fun _ _ h => h)
theorem s_ParE {i j : Nat} {d e : D} (q : E.nx ((env.set i (some d)).set j (some e)) S) : (parE i j env [d, e] S).F E := q
theorem s_loop {own : Own} {all : List P} (I : Nat → Dnv → Sto → Prop) (ho : ∀ i env S, I i env S → OwnOk own all S)
    (hs : ∀ i p env S, all[i]? = some p → I i env S → (g (.v p) env S).P fun e s => (b e s).F ⟨I (i + 1), E.rt, E.nx, I (i + 1)⟩)
    (hd : ∀ env S, I all.length env S → E.nx env S) : ∀ (ps : List P) (i : Nat) (env : Dnv) (S : Sto), ps = all.drop i → i ≤ all.length → I i env S → (loopF own all g b ps env S).F E
  | [], i, env, S, hp, hi, h => by
    have e : i = all.length := by
      have := congrArg List.length hp
      rw [List.length_nil, List.length_drop] at this
      omega
    subst e
    unfold loopF
    rw [if_pos (ho _ _ _ h)]
    exact hd _ _ h
  | p :: ps, i, env, S, hp, hi, h => by
    have hlt : i < all.length := by
      have := congrArg List.length hp
      rw [List.length_cons, List.length_drop] at this
      omega
    rw [List.drop_eq_getElem_cons hlt] at hp
    injection hp with h1 h2
    subst h1
    unfold loopF
    rw [if_pos (ho _ _ _ h)]
    refine F_fl ((hs i _ env S (List.getElem?_eq_getElem hlt) h).mono fun e s q => ?_)
    cases hb : b e s with
    | nx e2 s2 =>
      rw [hb] at q
      exact s_loop I ho hs hd ps (i + 1) e2 s2 h2 hlt q
    | ct e2 s2 =>
      rw [hb] at q
      exact s_loop I ho hs hd ps (i + 1) e2 s2 h2 hlt q
    | bk e2 s2 =>
      rw [hb] at q
      exact q
    | rt d2 s2 =>
      rw [hb] at q
      exact q
    | bad =>
      rw [hb] at q
      exact q.elim
theorem s_For {it : FI} (h : (it env S).P fun r S1 => (loopF r.2 r.1 g b r.1 env S1).F E) : (fFor it g b env S).F E := F_fl h
theorem s_Loop {own : Own} {all : List P} (I : Nat → Dnv → Sto → Prop) (h0 : I 0 env S) (ho : ∀ i env S, I i env S → OwnOk own all S)
    (hs : ∀ i p env S, all[i]? = some p → I i env S → (g (.v p) env S).P fun e s => (b e s).F ⟨I (i + 1), E.rt, E.nx, I (i + 1)⟩)
    (hd : ∀ env S, I all.length env S → E.nx env S) : (loopF own all g b all env S).F E := s_loop I ho hs hd all 0 env S rfl (Nat.zero_le _) h0
theorem s_While (I : Nat → Dnv → Sto → Prop) (n : Nat) (hn : n < 100000) (h0 : I n env S) (hs : ∀ i env S, I i env S → (t env S).P fun k S1 => (k = true → (b env S1).F ⟨fun e s => ∃ j, j < i ∧ I j e s, E.rt, E.nx, fun e s => ∃ j, j < i ∧ I j e s⟩) ∧ (k = false → E.nx env S1)) : (fWhile t b env S).F E := by
  have go : ∀ (m i : Nat) (env : Dnv) (S : Sto), i < m → I i env S → (whileF t b m env S).F E := by
    intro m
    induction m with
    | zero => exact fun i env S h => absurd h (Nat.not_lt_zero _)
    | succ m ih =>
      intro i env S him h
      unfold whileF
      refine F_fl ((hs i env S h).mono fun k S1 q => ?_)
      cases k with
      | false =>
        rw [if_neg (by decide)]
        exact q.2 rfl
      | true =>
        rw [if_pos rfl]
        have q := q.1 rfl
        cases hb : b env S1 with
        | nx e2 s2 =>
          rw [hb] at q
          obtain ⟨j, hj, q⟩ := q
          exact ih j e2 s2 (by omega) q
        | ct e2 s2 =>
          rw [hb] at q
          obtain ⟨j, hj, q⟩ := q
          exact ih j e2 s2 (by omega) q
        | bk e2 s2 => rw [hb] at q; exact q
        | rt e2 s2 => rw [hb] at q; exact q
        | bad => rw [hb] at q; exact q.elim
  exact go 100000 n env S hn h0
def rgP (n : Nat) : List P := (List.range n).map fun i : Nat => .int (i : Int)
theorem p_iR1 {Qi : List P × Own → Sto → Prop} (h : (ga env S).P fun ds S1 => ∃ n : Int, ds = [.v (.int n)] ∧ -1000000 ≤ n ∧ n ≤ 1000000 ∧ Qi (rgP n.toNat, none) S1) : (iR1 ga env S).P Qi := P_bind (h.mono fun ds S1 ⟨n, h1, h2, h3, q⟩ => by
  subst h1
  show (if _ then _ else _ : Oc (List P × Own)).P Qi
  rw [if_pos ⟨h2, h3⟩]
  have e : ((List.range n.toNat).map fun i : Nat => P.int ((0 : Int) + i)) = rgP n.toNat := by
    unfold rgP
    exact List.map_congr_left fun i _ => by rw [Int.zero_add]
  show Qi (((List.range n.toNat).map fun i : Nat => P.int ((0 : Int) + i)), none) S1
  rw [e]
  exact q)
theorem rgP_at {n i : Nat} {p : P} (h : (rgP n)[i]? = some p) : i < n ∧ p = .int i := by
  unfold rgP at h
  rw [List.getElem?_map] at h
  obtain ⟨j, h1, h2⟩ := Option.map_eq_some_iff.mp h
  have hl := lt_of_at h1
  rw [List.length_range] at hl
  rw [List.getElem?_range hl] at h1
  cases h1
  exact ⟨hl, h2.symm⟩
@[simp] theorem rgP_len (n : Nat) : (rgP n).length = n := by simp [rgP]
theorem own_none {all : List P} {S : Sto} : OwnOk none all S := fun _ h => by cases h
end
section
variable {it : FI} {g : FG} {t : FT} {e fk : FE} {vs : List Nat} {env : Dnv} {S : Sto}
theorem lc_P {own : Own} {all : List P} {Q : List P → Sto → Prop} (I : Nat → Sto → List P → Prop) (ho : ∀ i S acc, I i S acc → OwnOk own all S)
    (hs : ∀ i p S acc, all[i]? = some p → I i S acc → acc.length < 100000 ∧ (g (.v p) env S).P fun env1 S1 => (t env1 S1).P fun b S2 => (b = true → (e env1 S2).P fun d S3 => ∃ q, d = .v q ∧ I (i + 1) S3 (acc ++ [q])) ∧ (b = false → I (i + 1) S2 acc))
    (hd : ∀ S acc, I all.length S acc → Q acc S) : ∀ (ps : List P) (i : Nat) (S : Sto) (acc : List P), ps = all.drop i → i ≤ all.length → I i S acc → (lcF own all g t e env ps S acc).P Q
  | [], i, S, acc, hp, hi, h => by
    have e : i = all.length := by
      have := congrArg List.length hp
      rw [List.length_nil, List.length_drop] at this
      omega
    subst e
    unfold lcF
    rw [if_pos (ho _ _ _ h)]
    exact hd _ _ h
  | p :: ps, i, S, acc, hp, hi, h => by
    have hlt : i < all.length := by
      have := congrArg List.length hp
      rw [List.length_cons, List.length_drop] at this
      omega
    rw [List.drop_eq_getElem_cons hlt] at hp
    injection hp with h1 h2
    subst h1
    unfold lcF
    rw [if_pos (ho _ _ _ h)]
    obtain ⟨hl, hq⟩ := hs i _ S acc (List.getElem?_eq_getElem hlt) h
    refine P_bind (hq.mono fun env1 S1 q => P_bind (q.mono fun b S2 q => ?_))
    cases b with
    | false =>
      rw [if_neg (by decide)]
      exact lc_P I ho hs hd ps (i + 1) S2 acc h2 hlt (q.2 rfl)
    | true =>
      rw [if_pos rfl]
      refine P_bind ((q.1 rfl).mono fun d S3 q => ?_)
      obtain ⟨x, rfl, q⟩ := q
      show (if acc.length < 100000 then lcF own all g t e env ps S3 (acc ++ [x]) else .bad : Oc (List P)).P Q
      rw [if_pos hl]
      exact lc_P I ho hs hd ps (i + 1) S3 (acc ++ [x]) h2 hlt q
theorem p_lc {Q : D → Sto → Prop} (h : (it env S).P fun r S1 => (lcF r.2 r.1 g t e (wipeE env vs) r.1 S1 []).P fun acc S2 => Q (.v (.lst acc)) S2) : (fLc it g t e vs env S).P Q := P_bind (h.mono fun _ _ h => P_bind h)
theorem p_Lc {own : Own} {all : List P} {Q : List P → Sto → Prop} (I : Nat → Sto → List P → Prop) (h0 : I 0 S []) (ho : ∀ i S acc, I i S acc → OwnOk own all S)
    (hs : ∀ i p S acc, all[i]? = some p → I i S acc → acc.length < 100000 ∧ (g (.v p) env S).P fun env1 S1 => (t env1 S1).P fun b S2 => (b = true → (e env1 S2).P fun d S3 => ∃ q, d = .v q ∧ I (i + 1) S3 (acc ++ [q])) ∧ (b = false → I (i + 1) S2 acc))
    (hd : ∀ S acc, I all.length S acc → Q acc S) : (lcF own all g t e env all S []).P Q := lc_P I ho hs hd all 0 S [] rfl (Nat.zero_le _) h0
theorem dc_P {own : Own} {all : List P} {Q : List Key × List P → Sto → Prop} (I : Nat → Sto → List Key → List P → Prop) (ho : ∀ i S ks acc, I i S ks acc → OwnOk own all S)
    (hs : ∀ i p S ks acc, all[i]? = some p → I i S ks acc → ks.length < 10000 ∧ (g (.v p) env S).P fun env1 S1 => (t env1 S1).P fun b S2 => (b = true → (fk env1 S2).P fun dk S3 => (e env1 S3).P fun d S4 => ∃ qk k q, dk = .v qk ∧ pKey qk = some k ∧ d = .v q ∧ I (i + 1) S4 (putP ks acc k q).1 (putP ks acc k q).2) ∧ (b = false → I (i + 1) S2 ks acc))
    (hd : ∀ S ks acc, I all.length S ks acc → Q (ks, acc) S) : ∀ (ps : List P) (i : Nat) (S : Sto) (ks : List Key) (acc : List P), ps = all.drop i → i ≤ all.length → I i S ks acc → (dcF own all g t fk e env ps S ks acc).P Q
  | [], i, S, ks, acc, hp, hi, h => by
    have e : i = all.length := by
      have := congrArg List.length hp
      rw [List.length_nil, List.length_drop] at this
      omega
    subst e
    unfold dcF
    rw [if_pos (ho _ _ _ _ h)]
    exact hd _ _ _ h
  | p :: ps, i, S, ks, acc, hp, hi, h => by
    have hlt : i < all.length := by
      have := congrArg List.length hp
      rw [List.length_cons, List.length_drop] at this
      omega
    rw [List.drop_eq_getElem_cons hlt] at hp
    injection hp with h1 h2
    subst h1
    unfold dcF
    rw [if_pos (ho _ _ _ _ h)]
    obtain ⟨hl, hq⟩ := hs i _ S ks acc (List.getElem?_eq_getElem hlt) h
    refine P_bind (hq.mono fun env1 S1 q => P_bind (q.mono fun b S2 q => ?_))
    cases b with
    | false =>
      rw [if_neg (by decide)]
      exact dc_P I ho hs hd ps (i + 1) S2 ks acc h2 hlt (q.2 rfl)
    | true =>
      rw [if_pos rfl]
      refine P_bind ((q.1 rfl).mono fun dk S3 q => P_bind (q.mono fun d S4 q => ?_))
      obtain ⟨qk, k, x, rfl, hk, rfl, q⟩ := q
      show (match pKey qk with | some k => if ks.length < 10000 then dcF own all g t fk e env ps S4 (putP ks acc k x).1 (putP ks acc k x).2 else .bad | none => .bad : Oc (List Key × List P)).P Q
      rw [hk]
      show (if ks.length < 10000 then dcF own all g t fk e env ps S4 (putP ks acc k x).1 (putP ks acc k x).2 else .bad : Oc (List Key × List P)).P Q
      rw [if_pos hl]
      exact dc_P I ho hs hd ps (i + 1) S4 _ _ h2 hlt q
theorem p_dc {Q : D → Sto → Prop} (h : (it env S).P fun r S1 => (dcF r.2 r.1 g t fk e (wipeE env vs) r.1 S1 [] []).P fun acc S2 => Q (.v (.dic acc.1 acc.2)) S2) : (fDc it g t fk e vs env S).P Q := P_bind (h.mono fun _ _ h => P_bind h)
theorem p_Dc {own : Own} {all : List P} {Q : List Key × List P → Sto → Prop} (I : Nat → Sto → List Key → List P → Prop) (h0 : I 0 S [] []) (ho : ∀ i S ks acc, I i S ks acc → OwnOk own all S)
    (hs : ∀ i p S ks acc, all[i]? = some p → I i S ks acc → ks.length < 10000 ∧ (g (.v p) env S).P fun env1 S1 => (t env1 S1).P fun b S2 => (b = true → (fk env1 S2).P fun dk S3 => (e env1 S3).P fun d S4 => ∃ qk k q, dk = .v qk ∧ pKey qk = some k ∧ d = .v q ∧ I (i + 1) S4 (putP ks acc k q).1 (putP ks acc k q).2) ∧ (b = false → I (i + 1) S2 ks acc))
    (hd : ∀ S ks acc, I all.length S ks acc → Q (ks, acc) S) : (dcF own all g t fk e env all S [] []).P Q := dc_P I ho hs hd all 0 S [] [] rfl (Nat.zero_le _) h0
end
section
variable {n : Nat} {keep : Bool} {b : FS} {ds : List D} {S S1 : Sto} {Q : D → Sto → Prop}
theorem p_run (h : (b (startD n ds) S).F ⟨fun _ S1 => (closeD keep S.length (.v .non) S1).P Q, fun d S1 => (closeD keep S.length d S1).P Q, fun _ _ => False, fun _ _ => False⟩) : (runF n keep b ds S).P Q := by
  unfold runF
  cases e : b (startD n ds) S with
  | nx e2 S1 => rw [e] at h; exact h
  | rt d S1 => rw [e] at h; exact h
  | bk e2 S1 => rw [e] at h; exact h.elim
  | ct e2 S1 => rw [e] at h; exact h.elim
  | bad => rw [e] at h; exact h.elim
theorem p_closeV {p : P} (h : Q (.v p) (S1.take n)) : (closeD false n (.v p) S1).P Q := h
theorem p_closeK {d : D} (h : Q d S1) : (closeD true n d S1).P Q := h
theorem p_closeR {r : Nat} {ps : List P} (hr : ¬ r < n) (hs : S1[r]? = some (.lst ps)) (h : Q (.v (.lst ps)) (S1.take n)) : (closeD false n (.r r) S1).P Q := by
  unfold closeD
  rw [if_neg (by decide)]
  dsimp only
  rw [if_neg hr, hs]
  exact h
end
end DL
namespace DL
open PySem PySem.Spec PyProof.Rows L2
mutual
def pl : P → Bool
  | .non => true
  | .int _ => true
  | .str x => PyData.strOk x
  | .tup ps => pls ps
  | .lst ps => pls ps
  | _ => false
def pls : List P → Bool
  | [] => true
  | p :: ps => pl p && pls ps
end
mutual
def dp : P → Nat
  | .tup ps => dps ps + 1
  | .lst ps => dps ps + 1
  | _ => 0
def dps : List P → Nat
  | [] => 0
  | p :: ps => max (dp p) (dps ps)
end
mutual
theorem pl_py : ∀ p : P, pl p = true → ∃ d, toPy p = some d ∧ d.canLay0 = true ∧ d.depth = dp p
  | .non, _ => ⟨.none, rfl, rfl, rfl⟩
  | .int i, _ => ⟨.int i, rfl, rfl, rfl⟩
  | .str x, h => ⟨.str x, rfl, h, rfl⟩
  | .tup ps, h => by
    obtain ⟨ds, h1, h2, h3⟩ := pls_py ps h
    exact ⟨.tuple ds, by simp [toPy, h1], h2, by show PyData.depthAll ds + 1 = dps ps + 1; rw [h3]⟩
  | .lst ps, h => by
    obtain ⟨ds, h1, h2, h3⟩ := pls_py ps h
    exact ⟨.list ds, by simp [toPy, h1], h2, by show PyData.depthAll ds + 1 = dps ps + 1; rw [h3]⟩
  | .bl _, h => by cases h
  | .frz _, h => by cases h
  | .dic _ _, h => by cases h
  | .fn _, h => by cases h
theorem pls_py : ∀ ps : List P, pls ps = true → ∃ ds, toPys ps = some ds ∧ PyData.canLayAll0 ds = true ∧ PyData.depthAll ds = dps ps
  | [], _ => ⟨[], rfl, rfl, rfl⟩
  | p :: ps, h => by
    have hh : (pl p && pls ps) = true := h
    obtain ⟨a, b⟩ := Bool.and_eq_true_iff.mp hh
    obtain ⟨d, h1, h2, h3⟩ := pl_py p a
    obtain ⟨ds, k1, k2, k3⟩ := pls_py ps b
    exact ⟨d :: ds, by simp [toPys, h1, k1], by simp [PyData.canLayAll0, h2, k2], by show max d.depth (PyData.depthAll ds) = max (dp p) (dps ps); rw [h3, k3]⟩
end
mutual
theorem pl_eqv : ∀ (p q : P) (d e : PyData), pl p = true → pl q = true → toPy p = some d → toPy q = some e → (PyData.eqv d e = true ↔ p = q)
  | .non, q, d, e, hp, hq, h1, h2 => by
    cases h1
    cases q <;> first | (cases hq; done) | (simp [toPy] at h2; first | (subst h2; simp [PyData.eqv]) | (obtain ⟨x, _, rfl⟩ := h2; simp [PyData.eqv]))
  | .int i, q, d, e, hp, hq, h1, h2 => by
    cases h1
    cases q <;> first | (cases hq; done) | (simp [toPy] at h2; first | (subst h2; simp [PyData.eqv]) | (obtain ⟨x, _, rfl⟩ := h2; simp [PyData.eqv]))
  | .str i, q, d, e, hp, hq, h1, h2 => by
    cases h1
    cases q <;> first | (cases hq; done) | (simp [toPy] at h2; first | (subst h2; simp [PyData.eqv]) | (obtain ⟨x, _, rfl⟩ := h2; simp [PyData.eqv]))
  | .tup ps, q, d, e, hp, hq, h1, h2 => by
    obtain ⟨ds, h1', rfl⟩ := Option.map_eq_some_iff.mp (show (toPys ps).map PyData.tuple = some d from h1)
    cases q with
    | tup qs =>
      obtain ⟨es, h2', rfl⟩ := Option.map_eq_some_iff.mp (show (toPys qs).map PyData.tuple = some e from h2)
      have := pls_eqv ps qs ds es hp hq h1' h2'
      simp only [PyData.eqv, this, P.tup.injEq]
    | lst qs =>
      obtain ⟨es, h2', rfl⟩ := Option.map_eq_some_iff.mp (show (toPys qs).map PyData.list = some e from h2)
      simp [PyData.eqv]
    | non => cases h2; simp [PyData.eqv]
    | int i => cases h2; simp [PyData.eqv]
    | str x => cases h2; simp [PyData.eqv]
    | bl _ => cases hq
    | frz _ => cases hq
    | dic _ _ => cases hq
    | fn _ => cases hq
    | dn _ _ => cases hq
    | exn _ _ _ _ _ => cases hq
    | adr _ => cases hq
  | .lst ps, q, d, e, hp, hq, h1, h2 => by
    obtain ⟨ds, h1', rfl⟩ := Option.map_eq_some_iff.mp (show (toPys ps).map PyData.list = some d from h1)
    cases q with
    | lst qs =>
      obtain ⟨es, h2', rfl⟩ := Option.map_eq_some_iff.mp (show (toPys qs).map PyData.list = some e from h2)
      have := pls_eqv ps qs ds es hp hq h1' h2'
      simp only [PyData.eqv, this, P.lst.injEq]
    | tup qs =>
      obtain ⟨es, h2', rfl⟩ := Option.map_eq_some_iff.mp (show (toPys qs).map PyData.tuple = some e from h2)
      simp [PyData.eqv]
    | non => cases h2; simp [PyData.eqv]
    | int i => cases h2; simp [PyData.eqv]
    | str x => cases h2; simp [PyData.eqv]
    | bl _ => cases hq
    | frz _ => cases hq
    | dic _ _ => cases hq
    | fn _ => cases hq
    | dn _ _ => cases hq
    | exn _ _ _ _ _ => cases hq
    | adr _ => cases hq
  | .bl _, _, _, _, h, _, _, _ => by cases h
  | .frz _, _, _, _, h, _, _, _ => by cases h
  | .dic _ _, _, _, _, h, _, _, _ => by cases h
  | .fn _, _, _, _, h, _, _, _ => by cases h
  | .dn _ _, _, _, _, h, _, _, _ => by cases h
  | .exn _ _ _ _ _, _, _, _, h, _, _, _ => by cases h
  | .adr _, _, _, _, h, _, _, _ => by cases h
theorem pls_eqv : ∀ (ps qs : List P) (ds es : List PyData), pls ps = true → pls qs = true → toPys ps = some ds → toPys qs = some es → (PyData.eqvAll ds es = true ↔ ps = qs)
  | [], qs, ds, es, hp, hq, h1, h2 => by
    cases h1
    cases qs with
    | nil => cases h2; simp [PyData.eqvAll]
    | cons q qs =>
      have hh : (pl q && pls qs) = true := hq
      obtain ⟨a, b⟩ := Bool.and_eq_true_iff.mp hh
      obtain ⟨e, k1, _⟩ := pl_py q a
      obtain ⟨es', k2, _⟩ := pls_py qs b
      simp [toPys, k1, k2] at h2
      subst h2
      simp [PyData.eqvAll]
  | p :: ps, qs, ds, es, hp, hq, h1, h2 => by
    have hh : (pl p && pls ps) = true := hp
    obtain ⟨a, b⟩ := Bool.and_eq_true_iff.mp hh
    obtain ⟨d, k1, _⟩ := pl_py p a
    obtain ⟨ds', k2, _⟩ := pls_py ps b
    simp [toPys, k1, k2] at h1
    subst h1
    cases qs with
    | nil => cases h2; simp [PyData.eqvAll]
    | cons q qs =>
      have hh2 : (pl q && pls qs) = true := hq
      obtain ⟨a2, b2⟩ := Bool.and_eq_true_iff.mp hh2
      obtain ⟨e, l1, _⟩ := pl_py q a2
      obtain ⟨es', l2, _⟩ := pls_py qs b2
      simp [toPys, l1, l2] at h2
      subst h2
      have i1 := pl_eqv p q d e a a2 k1 l1
      have i2 := pls_eqv ps qs ds' es' b b2 k2 l2
      simp only [PyData.eqvAll, Bool.and_eq_true, i1, i2, List.cons.injEq]
end
theorem pls_mem : ∀ {ps : List P}, pls ps = true ↔ ∀ p ∈ ps, pl p = true
  | [] => by simp [pls]
  | p :: ps => by simp [pls, pls_mem (ps := ps)]
theorem dps_le {n : Nat} : ∀ {ps : List P}, dps ps ≤ n ↔ ∀ p ∈ ps, dp p ≤ n
  | [] => by simp [dps]
  | p :: ps => by simp [dps, dps_le (ps := ps), Nat.max_le]
def Pl (n : Nat) (p : P) : Prop := pl p = true ∧ dp p ≤ n
theorem Pl.mono {n m : Nat} {p : P} (h : Pl n p) (hm : n ≤ m) : Pl m p := ⟨h.1, Nat.le_trans h.2 hm⟩
theorem pl_tup {n : Nat} {ps : List P} (h : ∀ p ∈ ps, Pl n p) : Pl (n + 1) (.tup ps) := ⟨pls_mem.mpr fun p hp => (h p hp).1, Nat.succ_le_succ (dps_le.mpr fun p hp => (h p hp).2)⟩
theorem pl_lst {n : Nat} {ps : List P} (h : ∀ p ∈ ps, Pl n p) : Pl (n + 1) (.lst ps) := ⟨pls_mem.mpr fun p hp => (h p hp).1, Nat.succ_le_succ (dps_le.mpr fun p hp => (h p hp).2)⟩
theorem pl_int {i : Int} : Pl 0 (.int i) := ⟨rfl, Nat.le_refl _⟩
theorem pl_str {x : Str} (h : PyData.strOk x = true) : Pl 0 (.str x) := ⟨h, Nat.le_refl _⟩
theorem pl_shaped {n : Nat} {p : P} (h : Pl n p) (hn : n ≤ 64) : ∃ d, toPy p = some d ∧ SeqAt.shaped d = true ∧ d.canLay0 = true ∧ d.depth ≤ 64 := by
  obtain ⟨d, h1, h2, h3⟩ := pl_py p h.1
  have : d.depth ≤ 64 := by rw [h3]; exact Nat.le_trans h.2 hn
  exact ⟨d, h1, by simp [SeqAt.shaped, h2, this], h2, this⟩
theorem eq_pl {n m : Nat} {p q : P} (hp : Pl n p) (hq : Pl m q) (hn : n ≤ 64) (hm : m ≤ 64) : ∃ b, pEq p q = some (.bl b) ∧ (b = true ↔ p = q) := by
  obtain ⟨d, h1, h2, _⟩ := pl_shaped hp hn
  obtain ⟨e, k1, k2, _⟩ := pl_shaped hq hm
  refine ⟨PyData.eqv d e, ?_, pl_eqv p q d e hp.1 hq.1 h1 k1⟩
  unfold pEq
  rw [h1]
  simp only []
  rw [k1]
  simp [h2, k2]
theorem ne_pl {n m : Nat} {p q : P} (hp : Pl n p) (hq : Pl m q) (hn : n ≤ 64) (hm : m ≤ 64) : ∃ b, pNe p q = some (.bl b) ∧ (b = true ↔ p ≠ q) := by
  obtain ⟨d, h1, h2, _⟩ := pl_shaped hp hn
  obtain ⟨e, k1, k2, _⟩ := pl_shaped hq hm
  have := pl_eqv p q d e hp.1 hq.1 h1 k1
  refine ⟨!PyData.eqv d e, ?_, by rw [Ne, ← this]; cases PyData.eqv d e <;> simp⟩
  unfold pNe
  rw [h1]
  simp only []
  rw [k1]
  simp [h2, k2]
theorem any_pl {p : P} {d : PyData} (hp : pl p = true) (h1 : toPy p = some d) : ∀ {ps : List P} {ds : List PyData}, pls ps = true → toPys ps = some ds → ((ds.any fun y => PyData.eqv y d) = true ↔ p ∈ ps)
  | [], ds, _, h => by cases h; simp
  | q :: ps, ds, hq, h => by
    have hh2 : (pl q && pls ps) = true := hq
    obtain ⟨a2, b2⟩ := Bool.and_eq_true_iff.mp hh2
    obtain ⟨e, l1, _⟩ := pl_py q a2
    obtain ⟨es', l2, _⟩ := pls_py ps b2
    simp [toPys, l1, l2] at h
    subst h
    have i1 := pl_eqv q p e d a2 hp l1 h1
    have i2 := any_pl hp h1 (ps := ps) b2 l2
    rw [List.any_cons, Bool.or_eq_true, i1, i2, List.mem_cons]
    constructor
    · rintro (h | h)
      · exact .inl h.symm
      · exact .inr h
    · rintro (h | h)
      · exact .inl h.symm
      · exact .inr h
theorem inB_pl {n m : Nat} {p : P} {ps : List P} (hp : Pl n p) (hq : ∀ q ∈ ps, Pl m q) (hn : n ≤ 64) : ∃ b, pInB p (.tup ps) = some b ∧ pInB p (.lst ps) = some b ∧ (b = true ↔ p ∈ ps) := by
  obtain ⟨d, h1, h2, h3, h4⟩ := pl_shaped hp hn
  have hps : pls ps = true := pls_mem.mpr fun q h => (hq q h).1
  obtain ⟨ds, k1, k2, _⟩ := pls_py ps hps
  refine ⟨ds.any fun y => PyData.eqv y d, ?_, ?_, any_pl hp.1 h1 hps k1⟩
  · simp [pInB, toPy, k1, h1, k2, canD, h3, h4]
  · simp [pInB, toPy, k1, h1, k2, canD, h3, h4]
theorem in_tup {n m : Nat} {p : P} {ps : List P} (hp : Pl n p) (hq : ∀ q ∈ ps, Pl m q) (hn : n ≤ 64) : ∃ b, pIn p (.tup ps) = some (.bl b) ∧ (b = true ↔ p ∈ ps) := by
  obtain ⟨b, h1, _, h2⟩ := inB_pl hp hq hn
  exact ⟨b, by simp [pIn, h1], h2⟩
theorem in_lst {n m : Nat} {p : P} {ps : List P} (hp : Pl n p) (hq : ∀ q ∈ ps, Pl m q) (hn : n ≤ 64) : ∃ b, pIn p (.lst ps) = some (.bl b) ∧ (b = true ↔ p ∈ ps) := by
  obtain ⟨b, _, h1, h2⟩ := inB_pl hp hq hn
  exact ⟨b, by simp [pIn, h1], h2⟩
theorem look_hit {ks : List Key} {ps : List P} {k : Key} {i : Nat} {p : P} (hn : ks.Nodup) (h1 : ks[i]? = some k) (h2 : ps[i]? = some p) : look ks ps k = some p := by
  induction ks generalizing ps i with
  | nil => simp at h1
  | cons j ks ih =>
    cases ps with
    | nil => simp at h2
    | cons q ps =>
      obtain ⟨hn1, hn2⟩ := List.nodup_cons.mp hn
      cases i with
      | zero =>
        simp at h1 h2
        subst h1 h2
        simp [look]
      | succ i =>
        have h1' : ks[i]? = some k := by simpa using h1
        have h2' : ps[i]? = some p := by simpa using h2
        have := ih hn2 h1' h2'
        have hne : j ≠ k := fun e => hn1 (e ▸ List.mem_of_getElem? h1')
        unfold look at this ⊢
        rw [List.zip_cons_cons, List.find?_cons, decide_eq_false hne]
        exact this
theorem put_new {ks : List Key} {ps : List P} {k : Key} {p : P} (hk : k ∉ ks) (hl : ks.length = ps.length) : putP ks ps k p = (ks ++ [k], ps ++ [p]) := by
  induction ks generalizing ps with
  | nil =>
    have : ps = [] := by simpa using hl.symm
    subst this
    rfl
  | cons j ks ih =>
    cases ps with
    | nil => simp at hl
    | cons q ps =>
      have h1 : j ≠ k := fun e => hk (e ▸ List.mem_cons_self ..)
      have := ih (ps := ps) (fun h => hk (List.mem_cons_of_mem _ h)) (by simpa using hl)
      unfold putP
      rw [if_neg h1, this]
      rfl
theorem sorted_of {ps : List P} {ds : List PyData} (h1 : toPys ps = some ds) (h2 : alikeB ds = true) (h3 : sortableB ds = true) (h4 : ps.length ≤ 100000) (h5 : ∀ d ∈ ds, d.depth ≤ 64) : bSorted [.lst ps] = some (.lst (ps.mergeSort (PySem.W.dataLe false pyOf))) := by
  unfold bSorted
  simp only [h1]
  rw [if_pos ⟨h2, h3, h4, List.all_eq_true.mpr fun d hd => decide_eq_true (h5 d hd)⟩]
theorem alike_strs : ∀ (xs ys : List Str), PySem.W.alikeAll (xs.map .str) (ys.map .str) = true
  | [], _ => by simp [PySem.W.alikeAll]
  | x :: xs, [] => by simp [PySem.W.alikeAll]
  | x :: xs, y :: ys => by simp [PySem.W.alikeAll, PySem.W.alike, alike_strs xs ys]
theorem toPys_strs : ∀ xs : List Str, toPys (xs.map .str) = some (xs.map .str)
  | [] => rfl
  | x :: xs => by simp [toPys, toPy, toPys_strs xs]
theorem sorted_strs {xs : List Str} (h : xs.length ≤ 100000) : ∃ ys : List Str, bSorted [.lst (xs.map .str)] = some (.lst (ys.map .str)) ∧ ys.Perm xs := by
  have e := sorted_of (toPys_strs xs) (by
    unfold alikeB
    simp only [List.all_eq_true, List.mem_map]
    rintro _ ⟨x, _, rfl⟩ _ ⟨y, _, rfl⟩
    simp [PySem.W.alike]) (by
    unfold sortableB
    rw [Bool.or_eq_true]
    right
    simp only [List.all_eq_true, List.mem_map]
    rintro _ ⟨x, _, rfl⟩
    rfl) (by simpa using h) (by
    simp only [List.mem_map]
    rintro _ ⟨x, _, rfl⟩
    exact Nat.zero_le _)
  have hp := List.mergeSort_perm (xs.map P.str) (PySem.W.dataLe false pyOf)
  have back : ∀ zs : List P, (∀ z ∈ zs, ∃ x : Str, z = .str x) → ∃ ys : List Str, zs = ys.map .str := by
    intro zs
    induction zs with
    | nil => exact fun _ => ⟨[], rfl⟩
    | cons z zs ih =>
      intro h
      obtain ⟨x, rfl⟩ := h z (List.mem_cons_self ..)
      obtain ⟨ys, rfl⟩ := ih fun w hw => h w (List.mem_cons_of_mem _ hw)
      exact ⟨x :: ys, rfl⟩
  obtain ⟨ys, hy⟩ := back _ fun z hz => by
    obtain ⟨x, _, e⟩ := List.mem_map.mp (hp.mem_iff.mp hz)
    exact ⟨x, e.symm⟩
  refine ⟨ys, by rw [e, hy], ?_⟩
  rw [hy] at hp
  have := hp.map fun p => match p with | .str x => x | _ => ""
  have e2 : ∀ zs : List Str, (zs.map P.str).map (fun p => match p with | .str x => x | _ => "") = zs := fun zs => by
    rw [List.map_map]
    exact List.map_id zs
  rw [e2, e2] at this
  exact this
end DL
namespace DL
open PySem PySem.Spec PyProof.Rows L2
theorem mod_ok {i j : Int} (h : 0 < j) : pMod (.int i) (.int j) = some (.int (i % j)) := if_pos h
theorem fdiv_ok {i j : Int} (h : 0 < j) (h2 : j < 1073741824) : pFdiv (.int i) (.int j) = some (.int (i / j)) := if_pos ⟨h, h2⟩
theorem pow_ok {i j : Int} (h : 0 ≤ j) (h2 : j ≤ 1000000) (h3 : i.natAbs < 2 ^ 64) : pPow (.int i) (.int j) = some (.int (i ^ j.toNat)) := if_pos ⟨h, h2, h3⟩
theorem mul_ok {i j : Int} (h : -(2 ^ 64) < i) (h2 : i < 2 ^ 64) : pMul (.int i) (.int j) = some (.int (i * j)) := by
  show (if -(2 ^ 64) < j ∧ j < 2 ^ 64 then some (P.int (i * j)) else if -(2 ^ 64) < i ∧ i < 2 ^ 64 then some (P.int (i * j)) else none) = _
  split
  · rfl
  · exact if_pos ⟨h, h2⟩
theorem dt {p : Prop} [Decidable p] {A B : Prop} (h1 : p → A) (h2 : ¬ p → B) : (decide p = true → A) ∧ (decide p = false → B) := ⟨fun h => h1 (of_decide_eq_true h), fun h => h2 (of_decide_eq_false h)⟩
theorem ff {A B : Prop} (h : B) : (false = true → A) ∧ (false = false → B) := ⟨(fun h => nomatch h), fun _ => h⟩
theorem tt {A B : Prop} (h : A) : (true = true → A) ∧ (true = false → B) := ⟨fun _ => h, (fun h => nomatch h)⟩
theorem nff {A B : Prop} (h : A) : ((!false) = true → A) ∧ ((!false) = false → B) := ⟨fun _ => h, (fun h => nomatch h)⟩
theorem ntt {A B : Prop} (h : B) : ((!true) = true → A) ∧ ((!true) = false → B) := ⟨(fun h => nomatch h), fun _ => h⟩
theorem ndt {p : Prop} [Decidable p] {A B : Prop} (h1 : ¬ p → A) (h2 : p → B) : ((!decide p) = true → A) ∧ ((!decide p) = false → B) := ⟨fun h => h1 (by simpa using h), fun h => h2 (by simpa using h)⟩
theorem at_nn {α : Type} {xs : List α} {i : Int} {j : Nat} {a : α} (hi : i = j) (h : xs[j]? = some a) : atI xs i = some a := by
  have hl := lt_of_at h
  unfold atI ixN
  subst hi
  rw [if_pos (by omega), if_pos (by omega)]
  exact h
def bx (T : Sto) (j : Nat) : Nat := T.length + 1 + j
section
variable {o : Ob} {T B : Sto} {j : Nat} {z : Ob}
theorem bx_get : (o :: (T ++ B))[bx T j]? = B[j]? := by
  unfold bx
  rw [show T.length + 1 + j = (T.length + j) + 1 by omega, List.getElem?_cons_succ, List.getElem?_append_right (by omega)]
  congr 1
  omega
theorem bx_set : (o :: (T ++ B)).set (bx T j) z = o :: (T ++ B.set j z) := by
  unfold bx
  have e : ∀ (A : Sto), (A ++ B).set (A.length + j) z = A ++ B.set j z := fun A => by
    induction A with
    | nil => simp
    | cons a A ih =>
      have e2 : (a :: A).length + j = (A.length + j) + 1 := by
        rw [List.length_cons]
        omega
      rw [e2, List.cons_append, List.set_cons_succ, ih, List.cons_append]
  rw [show T.length + 1 + j = (T.length + j) + 1 by omega, List.set_cons_succ, e]
theorem bx_len : (o :: (T ++ B)).length = bx T B.length := by
  unfold bx
  simp
  omega
theorem bx_put : (o :: (T ++ B)) ++ [z] = o :: (T ++ (B ++ [z])) := by simp
theorem bx_take {T2 : Sto} (h : (o :: T).length = T2.length + 1) : (o :: (T ++ B)).take (T2.length + 1) = o :: T := by
  rw [List.length_cons] at h
  rw [List.take_succ_cons, ← Nat.add_right_cancel h, List.take_left]
theorem deP_bx {ps : List P} (h : B[j]? = some (.lst ps)) : deP (o :: (T ++ B)) (.r (bx T j)) = some (.lst ps) := by
  unfold deP
  dsimp only
  rw [bx_get, h]
theorem seq_bx {ps : List P} (h : B[j]? = some (.lst ps)) : seqOf (.r (bx T j)) (o :: (T ++ B)) = some (ps, some (Wo.l (bx T j))) := by
  unfold seqOf
  dsimp only
  rw [bx_get, h]
theorem own_bx {ps : List P} (h : B[j]? = some (.lst ps)) : OwnOk (some (Wo.l (bx T j))) ps (o :: (T ++ B)) := fun r e => by
  cases e
  show (o :: (T ++ B))[bx T j]? = _
  rw [bx_get, h]
variable {Q : D → Sto → Prop} {ga : FA} {env : Dnv}
theorem c_lstB {ds : List D} {ps : List P} (h : vals ds = some ps) (hl : ps.length ≤ 100000) (q : Q (.r (bx T B.length)) (o :: (T ++ (B ++ [.lst ps])))) : (lstBE ds (o :: (T ++ B))).P Q := by
  refine p_lstBE h hl ?_
  rw [bx_put, bx_len]
  exact q
theorem c_cbB {op : List P → Option P} {ds : List D} {ps qs : List P} (h1 : deAll (o :: (T ++ B)) ds = some ps) (h2 : op ps = some (.lst qs)) (q : Q (.r (bx T B.length)) (o :: (T ++ (B ++ [.lst qs])))) : (cbBE op ds (o :: (T ++ B))).P Q := by
  refine p_cbBE h1 h2 ?_
  rw [bx_put, bx_len]
  exact q
theorem c_mt {op : MOp} {i : Nat} {ps : List P} (h : env[i]? = some (some (.r (bx T j)))) (h1 : B[j]? = some (.lst ps)) (q : (ga env (o :: (T ++ B))).P fun ds S1 => (mtE op (bx T j) ds S1).P Q) : (fMt op (fVar i) ga env (o :: (T ++ B))).P Q :=
  p_mt h (by rw [bx_get]; exact h1) q
theorem c_mtE {op : MOp} {ds : List D} {ps qs : List P} {u : P} (h1 : B[j]? = some (.lst ps)) (h2 : op ps ds (o :: (T ++ B)) = some (u, qs)) (q : Q (.v u) (o :: (T ++ B.set j (.lst qs)))) : (mtE op (bx T j) ds (o :: (T ++ B))).P Q := by
  refine p_mtE (by rw [bx_get]; exact h1) h2 ?_
  rw [bx_set]
  exact q
def ivE (d : D) (S : Sto) : Oc (List P × Own) := match seqOf d S with
  | some r => .ok r S
  | none => .bad
theorem c_iv {f : FE} {Qi : List P × Own → Sto → Prop} {S : Sto} (h : (f env S).P fun d S1 => (ivE d S1).P Qi) : (iVal f env S).P Qi := P_bind h
theorem c_ivE {Qi : List P × Own → Sto → Prop} {S : Sto} {d : D} {r : List P × Own} (h : seqOf d S = some r) (q : Qi r S) : (ivE d S).P Qi := by
  unfold ivE
  rw [h]
  exact q
def rgE (ds : List D) (S : Sto) : Oc (List P × Own) := match ds with
  | [.v (.int n)] => if -1000000 ≤ n ∧ n ≤ 1000000 then .ok (rgP n.toNat, none) S else .bad
  | _ => .bad
theorem c_rg {Qi : List P × Own → Sto → Prop} {S : Sto} (h : (ga env S).P fun ds S1 => (rgE ds S1).P Qi) : (iR1 ga env S).P Qi := p_iR1 (h.mono fun ds S1 h => by
  unfold rgE at h
  split at h
  · rename_i n
    split at h
    · rename_i hn
      exact ⟨n, rfl, hn.1, hn.2, h⟩
    · exact h.elim
  · exact h.elim)
theorem c_rgE {Qi : List P × Own → Sto → Prop} {S : Sto} {n : Int} (h1 : -1000000 ≤ n) (h2 : n ≤ 1000000) (q : Qi (rgP n.toNat, none) S) : (rgE [.v (.int n)] S).P Qi := by
  show (if _ then _ else _ : Oc (List P × Own)).P Qi
  rw [if_pos ⟨h1, h2⟩]
  exact q
theorem c_oAt {f : FE} {Qo : Option Int → Sto → Prop} {S : Sto} (h : (f env S).P fun d S1 => (atE d S1).P Qo) : (oAt f env S).P Qo := by
  unfold oAt
  exact P_bind (h.mono fun d S1 h => h)
theorem c_atE {Qo : Option Int → Sto → Prop} {S : Sto} {i : Int} (q : Qo (some i) S) : (atE (.v (.int i)) S).P Qo := q
theorem cut_map {α β : Type} (f : α → β) (xs : List α) (lo hi : Option Int) : cutL (xs.map f) lo hi = (cutL xs lo hi).map f := by
  unfold cutL
  rw [List.map_take, List.map_drop, List.length_map]
theorem cut_len {α : Type} {xs : List α} {lo hi : Option Int} : (cutL xs lo hi).length ≤ xs.length := by
  unfold cutL
  rw [List.length_take, List.length_drop]
  omega
theorem p_runC {n : Nat} {b : FS} {ds : List D} (h : (b (startD n ds) (o :: (T ++ []))).F ⟨fun _ S1 => (closeD false (T.length + 1) (.v .non) S1).P Q, fun d S1 => (closeD false (T.length + 1) d S1).P Q, fun _ _ => False, fun _ _ => False⟩) : (runF n false b ds (o :: T)).P Q := by
  rw [List.append_nil] at h
  exact p_run h
theorem c_ret {p : P} (h : Q (.v p) (o :: T)) : (closeD false (T.length + 1) (.v p) (o :: (T ++ B))).P Q := by
  refine p_closeV ?_
  rw [bx_take rfl]
  exact h
theorem c_retL {ps : List P} (h1 : B[j]? = some (.lst ps)) (h : Q (.v (.lst ps)) (o :: T)) : (closeD false (T.length + 1) (.r (bx T j)) (o :: (T ++ B))).P Q := by
  refine p_closeR (ps := ps) (by unfold bx; omega) (by rw [bx_get]; exact h1) ?_
  rw [bx_take rfl]
  exact h
end
local macro_rules | `(tactic| trivial) => `(tactic| first
  | with_reducible refine s_Seq ?_
  | with_reducible refine s_Set ?_
  | with_reducible refine s_If ?_
  | with_reducible refine s_Drop ?_
  | with_reducible refine s_Ret ?_
  | with_reducible refine s_Par ?_
  | with_reducible refine s_For ?_
  | with_reducible refine s_Nx ?_
  | with_reducible refine p_f2 ?_
  | ((with_reducible apply p_var); (exact rfl))
  | with_reducible refine p_c ?_
  | with_reducible refine p_gNm ?_
  | with_reducible refine p_gSb ?_
  | with_reducible refine p_tru ?_
  | with_reducible refine p_and ?_
  | with_reducible refine p_or ?_
  | with_reducible refine p_not ?_
  | with_reducible refine p_yes ?_
  | with_reducible refine p_ite ?_
  | with_reducible refine p_cons ?_
  | with_reducible refine p_nil ?_
  | with_reducible refine p_cb ?_
  | with_reducible refine p_cbB ?_
  | with_reducible refine p_tup ?_
  | with_reducible refine p_lst ?_
  | with_reducible refine p_lstB ?_
  | with_reducible refine p_lc ?_
  | with_reducible refine p_dc ?_
  | with_reducible refine p_sl ?_
  | with_reducible refine p_oNo ?_
  | with_reducible refine c_oAt ?_
  | with_reducible refine c_atE ?_
  | ((with_reducible apply p_slE); (first | exact rfl | exact deP_bx rfl); (exact rfl))
  | with_reducible refine p_call ?_
  | with_reducible refine p_callN ?_
  | with_reducible refine s_ParE ?_
  | with_reducible refine c_iv ?_
  | with_reducible refine c_rg ?_
  | ((with_reducible apply c_mt); (exact rfl); (exact rfl))
  | with_reducible refine c_ret ?_
  | with_reducible refine p_closeV ?_
  | with_reducible refine p_closeK ?_
  | with_reducible refine ff ?_
  | with_reducible refine tt ?_
  | with_reducible refine nff ?_
  | with_reducible refine ntt ?_
  | with_reducible refine ndt (fun _ => ?_) (fun _ => ?_)
  | with_reducible refine dt (fun _ => ?_) (fun _ => ?_)
  | ((with_reducible apply p_l2); (first | exact rfl | exact deP_bx rfl); (first | exact rfl | exact deP_bx rfl); (first | assumption | exact rfl | exact mod_ok (by omega) | exact fdiv_ok (by omega) (by omega) | exact mul_ok (by omega) (by omega) | exact pow_ok (by omega) (by omega) (by omega)))
  | ((with_reducible apply p_truE); (first | exact rfl | exact deP_bx rfl); (exact rfl))
  | ((with_reducible apply p_cbE); (repeat (first | exact a_nil | (apply a_cons; first | exact rfl | exact deP_bx rfl))); (first | assumption | exact rfl))
  | ((with_reducible apply c_cbB); (repeat (first | exact a_nil | (apply a_cons; first | exact rfl | exact deP_bx rfl))); (first | assumption | exact rfl))
  | ((with_reducible apply p_lstE); (repeat (first | exact v_nil | apply v_cons)); (focus (show _ ≤ (100000 : Nat); first | decide | (simp; done) | (simp; omega))))
  | ((with_reducible apply p_tupE); (repeat (first | exact v_nil | apply v_cons)); (focus (show _ ≤ (100000 : Nat); first | decide | (simp; done) | (simp; omega))))
  | ((with_reducible apply c_lstB); (repeat (first | exact v_nil | apply v_cons)); (focus (show _ ≤ (100000 : Nat); first | decide | (simp; done) | (simp; omega))))
  | ((with_reducible apply c_ivE); (first | exact rfl | exact seq_bx rfl))
  | ((with_reducible apply p_sbL); (exact rfl); (exact rfl)))
end DL
namespace DL
open PySem PySem.Spec PyProof.Rows L2
theorem erase_perm {α : Type} : ∀ {xs : List α} {i : Nat} (h : i < xs.length), (xs[i] :: xs.eraseIdx i).Perm xs
  | [], i, h => by simp at h
  | x :: xs, 0, _ => List.Perm.refl _
  | x :: xs, i + 1, h => by
    have h' : i < xs.length := by simpa using h
    show ((xs[i]) :: x :: xs.eraseIdx i).Perm (x :: xs)
    exact (List.Perm.swap x xs[i] _).trans ((erase_perm h').cons x)
theorem map_erase {α β : Type} (f : α → β) : ∀ (xs : List α) (i : Nat), (xs.map f).eraseIdx i = (xs.eraseIdx i).map f
  | [], _ => by simp
  | x :: xs, 0 => rfl
  | x :: xs, i + 1 => by
    show f x :: (xs.map f).eraseIdx i = f x :: (xs.eraseIdx i).map f
    rw [map_erase f xs i]
end DL
namespace DL
open PySem PySem.Spec PyProof.Rows L2
variable [Tb]
abbrev FKs := List (FE × FE)
def kvF : FKs → Dnv → Sto → Oc (List (Key × P))
  | [], _, S => .ok [] S
  | (fk, fv) :: r, env, S => (fk env S).bind fun dk S1 => (fv env S1).bind fun dv S2 => match dk, dv with
    | .v pk, .v pv => match pKey pk with
      | some k => (kvF r env S2).bind fun kvs S3 => .ok ((k, pv) :: kvs) S3
      | none => .bad
    | _, _ => .bad
def mergeP (kvs : List (Key × P)) : List Key × List P := kvs.foldl (fun a kv => putP a.1 a.2 kv.1 kv.2) ([], [])
def fDic (l : FKs) : FE := fun env S => (kvF l env S).bind fun kvs S1 => if kvs.length ≤ 15 then .ok (.v (.dic (mergeP kvs).1 (mergeP kvs).2)) S1 else .bad
def fDicB (l : FKs) : FE := fun env S => (kvF l env S).bind fun kvs S1 => if kvs.length ≤ 15 then .ok (.r S1.length) (S1 ++ [.dic (mergeP kvs).1 (mergeP kvs).2]) else .bad
def trsOf (K : PySem.W.Frag) (l : FKs) : List (TE × TE) := l.map fun p => (TD K p.1, TD K p.2)
section
variable {K : PySem.W.Frag}
theorem kv_ok {σ : L2.St} {env : Dnv} : ∀ {l : FKs} {m : Mp} {H : Hp} {S S' : Sto} {kvs : List (Key × P)} {Q : List (V × V) → Hp → Prop}, Rel K m H S → EnvIs K m (mask m H) σ env → kvF l env S = .ok kvs S' →
    (∀ m' H' vs, Stp m H m' H' → Rel K m' H' S' → IsAll K (mask m' H') (kvs.map (·.2)) vs → Q (((kvs.map (·.1)).zip vs).map fun kv => (kV kv.1, kv.2)) H') → tPairs (trsOf K l) σ H Q
  | [], m, H, S, S', kvs, Q, R, E, e, q => by
    cases e
    exact q m H [] (Stp.refl m H) R rfl
  | (fk, fv) :: r, m, H, S, S', kvs, Q, R, E, e, q => by
    obtain ⟨dk, S1, k1, e2⟩ := Oc.bind_eq e
    obtain ⟨dv, S2, k2, e3⟩ := Oc.bind_eq e2
    refine ⟨m, env, S, R, E, dk, S1, k1, fun x m1 H1 st1 R1 i1 => ⟨m1, env, S1, R1, E.step st1, dv, S2, k2, fun y m2 H2 st2 R2 i2 => ?_⟩⟩
    split at e3
    · rename_i pk pv
      split at e3
      · rename_i k hk
        obtain ⟨kvs', S3, k3, e4⟩ := Oc.bind_eq e3
        cases e4
        refine kv_ok R2 ((E.step st1).step st2) k3 fun m3 H3 vs st3 R3 i3 => ?_
        have ex : x = kV k := pKey_is (isR_val (show Is K (mask m1 H1) pk x from i1)) hk
        rw [ex]
        exact q m3 H3 (y :: vs) ((st1.trans st2).trans st3) R3 ⟨y, vs, rfl, st3.val i2, i3⟩
      · cases e3
    · cases e3
theorem merge_is {G : Hp} : ∀ {kvs : List (Key × P)} {vs : List V} {ks : List Key} {ps : List P} {xs : List V}, IsAll K G (kvs.map (·.2)) vs → ks.length = xs.length → ks.Nodup → IsAll K G ps xs →
    ∃ ys, mergeK (ks.zip xs) ((kvs.map (·.1)).zip vs) = (kvs.foldl (fun a kv => putP a.1 a.2 kv.1 kv.2) (ks, ps)).1.zip ys ∧ (kvs.foldl (fun a kv => putP a.1 a.2 kv.1 kv.2) (ks, ps)).1.length = ys.length ∧ (kvs.foldl (fun a kv => putP a.1 a.2 kv.1 kv.2) (ks, ps)).1.Nodup ∧ IsAll K G (kvs.foldl (fun a kv => putP a.1 a.2 kv.1 kv.2) (ks, ps)).2 ys
  | [], vs, ks, ps, xs, h, h1, h2, h3 => by
    cases h
    exact ⟨xs, rfl, h1, h2, h3⟩
  | (k, p) :: r, vs, ks, ps, xs, h, h1, h2, h3 => by
    obtain ⟨v, us, rfl, h4, h5⟩ := h
    obtain ⟨ys, b1, b2, b3, b4, _⟩ := put_is (k := k) h4 h1 h2 h3
    obtain ⟨zs, c1, c2, c3, c4⟩ := merge_is (kvs := r) h5 b2 b3 b4
    refine ⟨zs, ?_, c2, c3, c4⟩
    refine Eq.trans ?_ c1
    show mergeK (putK (ks.zip xs) k v) ((r.map (·.1)).zip us) = _
    rw [b1]
theorem dic_walk {l : FKs} {σ : L2.St} {H : Hp} {Q : VK} {m : Mp} {env : Dnv} {S S' : Sto} {kvs : List (Key × P)} (R : Rel K m H S) (E : EnvIs K m (mask m H) σ env) (k1 : kvF l env S = .ok kvs S') (hl : kvs.length ≤ 15)
    (q : ∀ p ys l2 c2 H2, p ∉ m.h → Wk m H ⟨l2, p :: m.h, c2⟩ H2 → (∀ b, b ∈ m.h → H2 b = H b) → Rel K ⟨l2, p :: m.h, c2⟩ H2 S' → H2 p = some (.dK ((mergeP kvs).1.zip ys)) → (mergeP kvs).1.length = ys.length → (mergeP kvs).1.Nodup → IsAll K (mask ⟨l2, p :: m.h, c2⟩ H2) (mergeP kvs).2 ys → Q (.ref p) H2) :
    tDisp (trsOf K l) σ H Q := by
  intro p hp
  have Rh := R.hide (o := .dK []) hp
  have emk := mask_hide (m := m) (o := .dK []) hp
  have hpm := R.out hp
  have Eh : EnvIs K (m.hide p) (mask (m.hide p) (upd H p (.dK []))) σ env := by
    rw [emk]
    exact ⟨E.len, fun i d z => by
      obtain ⟨v, h1, h2⟩ := E.get i d z
      exact ⟨v, h1, IsD.mono (m := m) (m' := m.hide p) (G := mask m H) (G' := mask m H) (fun _ _ h => h) (fun _ _ h => h) (fun _ h => h) h2⟩⟩
  refine kv_ok Rh Eh k1 fun m2 H2 vs st2 R2 i2 => ?_
  have hph : p ∈ m2.h := by rw [st2.hh]; exact List.mem_cons_self ..
  have eD : H2 p = some (.dK []) := by
    rw [st2.hk p (List.mem_cons_self ..)]
    exact upd_same
  have hlen : ((kvs.map (·.1)).zip vs).length ≤ 15 := by
    rw [List.length_zip, List.length_map]
    omega
  refine ⟨eD, (kvs.map (·.1)).zip vs, rfl, hlen, ?_⟩
  obtain ⟨ys, b1, b2, b3, b4⟩ := merge_is (ks := []) (ps := []) (xs := []) i2 rfl List.nodup_nil (show IsAll K _ [] [] from rfl)
  have b1' : mergeK [] ((kvs.map (·.1)).zip vs) = (mergeP kvs).1.zip ys := b1
  rw [b1']
  have R3 := R2.hidden (o := .dK ((mergeP kvs).1.zip ys)) hph
  have em := mask_hid (m := m2) (H := H2) (o := .dK ((mergeP kvs).1.zip ys)) hph
  obtain ⟨l2, h2, c2⟩ := m2
  have hh : h2 = p :: m.h := st2.hh
  subst hh
  refine q p ys l2 c2 _ (fun z => hpm (.inr (.inl z))) ⟨fun r a h => st2.ext r a h, fun b o z => ?_, st2.co⟩ (fun b hb => ?_) R3 upd_same b2 b3 (by rw [em]; exact b4)
  · rw [em]
    exact st2.ex b o (by rw [emk]; exact z)
  · have hne : b ≠ p := fun z => hpm (.inr (.inl (z ▸ hb)))
    rw [upd_ne hne, st2.hk b (List.mem_cons_of_mem _ hb), upd_ne hne]
theorem dic_val {l : FKs} {σ : L2.St} {H : Hp} {Q : VK} (h : TD K (fDic l) σ H Q) : tDisp (trsOf K l) σ H Q := by
  obtain ⟨m, env, S, R, E, d, S', e1, q⟩ := h
  obtain ⟨kvs, S1, k1, e2⟩ := Oc.bind_eq e1
  split at e2
  · rename_i hl
    cases e2
    refine dic_walk R E k1 hl fun p ys l2 c2 H2 hp w hk R2 e2 hl2 hn2 i2 => ?_
    obtain ⟨R3, ex3⟩ := R2.show' hp
    have hpl := (R2.hid p (List.mem_cons_self ..)).1
    refine q (.ref p) ⟨l2, m.h, c2⟩ H2 ⟨w.ext, fun b o z => ex3 b o (w.ex b o z), rfl, hk, w.co⟩ R3 ⟨p, ys, rfl, ?_, hl2, hn2, IsAll.mono ex3 _ _ i2⟩
    exact mask_at (m := ⟨l2, m.h, c2⟩) (R2.shown hp) e2 (by intro _ z; cases z)
  · cases e2
theorem dic_box {l : FKs} {σ : L2.St} {H : Hp} {Q : VK} (h : TD K (fDicB l) σ H Q) : tDisp (trsOf K l) σ H Q := by
  obtain ⟨m, env, S, R, E, d, S', e1, q⟩ := h
  obtain ⟨kvs, S1, k1, e2⟩ := Oc.bind_eq e1
  split at e2
  · rename_i hl
    cases e2
    refine dic_walk R E k1 hl fun p ys l2 c2 H2 hp w hk R2 e2 hl2 hn2 i2 => ?_
    obtain ⟨R3, em⟩ := R2.boxO (x := .dic (mergeP kvs).1 (mergeP kvs).2) hp fun m' em => ⟨ys, e2, hl2, hn2, by rw [em]; exact i2⟩
    refine q (.ref p) ⟨l2 ++ [p], m.h, c2⟩ H2 ⟨fun r a h => ?_, fun b o z => by rw [em]; exact w.ex b o z, rfl, hk, w.co⟩ R3 ⟨p, rfl, ?_⟩
    · have := w.ext r a h
      have hlt : r < l2.length := lt_of_at this
      show (l2 ++ [p])[r]? = some a
      rw [List.getElem?_append_left hlt]
      exact this
    · show (l2 ++ [p])[S1.length]? = some p
      have hlen : l2.length = S1.length := R2.len
      rw [List.getElem?_append_right (by omega), hlen, Nat.sub_self]
      rfl
  · cases e2
end
section
variable {X : Cx} {pos : Pos} {keys : List (Option Expr)} {values : List Expr} {l : FKs}
abbrev PKv (X : Cx) (pos : Pos) (keys : List (Option Expr)) (values : List Expr) (l : FKs) : Prop := PPs X pos keys values (trsOf X.K l)
theorem kv_nil : PKv X pos [] [] [] := pps_nil
theorem kv_cons {k v : Expr} {fk fv : FE} (hk : PEd X k fk) (hv : PEd X v fv) (hr : PKv X pos keys values l) : PKv X pos (some k :: keys) (v :: values) ((fk, fv) :: l) := pps_cons hk hv hr
theorem d_dic (h : PKv X pos keys values l) (hall : keys.all (·.isSome) = true := by rfl) (hl : keys.length = values.length := by rfl) (h0 : keys ≠ [] := by simp) (h15 : keys.length ≤ 15 := by decide) : PEd X (.Dict keys values pos) (fDic l) := pe_weak (pe_disp h hall hl h0 h15) fun _ _ _ => dic_val
theorem d_dicB (h : PKv X pos keys values l) (hall : keys.all (·.isSome) = true := by rfl) (hl : keys.length = values.length := by rfl) (h0 : keys ≠ [] := by simp) (h15 : keys.length ≤ 15 := by decide) : PEd X (.Dict keys values pos) (fDicB l) := pe_weak (pe_disp h hall hl h0 h15) fun _ _ _ => dic_box
def fDic0B : FE := fun _ S => .ok (.r S.length) (S ++ [.dic [] []])
theorem d_dic0B : PEd X (.Dict [] [] pos) fDic0B := pe_weak pe_dnewK fun σ H Q ⟨m, env, S, R, E, d, S', e1, q⟩ => by
  cases e1
  intro p hp
  obtain ⟨R2, st2⟩ := R.alloc (o := .dK []) (x := .dic [] []) hp fun H' st e => ⟨[], e, rfl, List.nodup_nil, rfl⟩
  refine q (.ref p) _ _ st2 R2 ⟨p, rfl, ?_⟩
  show (_ ++ [p])[S.length]? = some p
  rw [List.getElem?_append_right (by rw [R.len]; exact Nat.le_refl _), R.len, Nat.sub_self]
  rfl
end
end DL
namespace DL
open PySem PySem.Spec PyProof.Rows L2
section
variable {α : Type} {g : FG} {t : FT} {e : FE} {env : Dnv} {S : Sto} {own : Own} {xs : List α} {f hh : α → P} {Q : List P → Sto → Prop}
theorem lc_pure (q : α → Prop) [DecidablePred q] (ho : OwnOk own (xs.map f) S) (hl : xs.length < 100000)
    (hs : ∀ x ∈ xs, (g (.v (f x)) env S).P fun env1 S1 => (t env1 S1).P fun b S2 => S2 = S ∧ (b = true ↔ q x) ∧ (b = true → (e env1 S).P fun d S3 => S3 = S ∧ d = .v (hh x)))
    (hd : Q ((xs.filter fun x => decide (q x)).map hh) S) : (lcF own (xs.map f) g t e env (xs.map f) S []).P Q := by
  refine p_Lc (fun i S' acc => S' = S ∧ acc = ((xs.take i).filter fun x => decide (q x)).map hh) ⟨rfl, by simp⟩ (fun i S' acc h => by rw [h.1]; exact ho) ?_ ?_
  · rintro i p S' acc hi ⟨rfl, rfl⟩
    rw [List.getElem?_map] at hi
    obtain ⟨x, hx, rfl⟩ := Option.map_eq_some_iff.mp hi
    have hm := List.mem_of_getElem? hx
    have e2 : xs.take (i + 1) = xs.take i ++ [x] := by
      rw [List.take_add_one, hx]
      rfl
    refine ⟨?_, (hs x hm).mono fun env1 S1 h => h.mono fun b S2 h => ?_⟩
    · rw [List.length_map]
      have := List.length_filter_le (fun x => decide (q x)) (xs.take i)
      rw [List.length_take] at this
      omega
    obtain ⟨rfl, h1, h2⟩ := h
    refine ⟨fun hb => (h2 hb).mono fun d S3 h3 => ?_, fun hb => ⟨rfl, ?_⟩⟩
    · obtain ⟨rfl, rfl⟩ := h3
      refine ⟨_, rfl, rfl, ?_⟩
      rw [e2, List.filter_append, List.map_append, List.filter_cons, if_pos (decide_eq_true (h1.mp hb))]
      rfl
    · rw [e2, List.filter_append, List.map_append, List.filter_cons, if_neg (by
        rw [decide_eq_true_eq]
        intro hq
        rw [h1.mpr hq] at hb
        cases hb)]
      simp
  · rintro S' acc ⟨rfl, rfl⟩
    rw [List.length_map, List.take_length]
    exact hd
theorem lc_some (J : Nat → Sto → Prop) (h0 : J 0 S) (ho : ∀ i S, J i S → OwnOk own (xs.map f) S) (hl : xs.length < 100000)
    (hs : ∀ i x S, xs[i]? = some x → J i S → (g (.v (f x)) env S).P fun env1 S1 => (t env1 S1).P fun b S2 => (b = true → (e env1 S2).P fun d S3 => d = .v (hh x) ∧ J (i + 1) S3) ∧ (b = false → J (i + 1) S2))
    (hd : ∀ (ys : List α) (S : Sto), ys.Sublist xs → J xs.length S → Q (ys.map hh) S) : (lcF own (xs.map f) g t e env (xs.map f) S []).P Q := by
  refine p_Lc (fun i S acc => ∃ ys : List α, acc = ys.map hh ∧ ys.Sublist (xs.take i) ∧ J i S) ⟨[], rfl, List.nil_sublist _, h0⟩ (fun i S acc ⟨_, _, _, h⟩ => ho i S h) ?_ ?_
  · rintro i p S acc hi ⟨ys, rfl, hsub, hJ⟩
    rw [List.getElem?_map] at hi
    obtain ⟨x, hx, rfl⟩ := Option.map_eq_some_iff.mp hi
    have e2 : xs.take (i + 1) = xs.take i ++ [x] := by
      rw [List.take_add_one, hx]
      rfl
    refine ⟨?_, (hs i x S hx hJ).mono fun env1 S1 h => h.mono fun b S2 h => ⟨fun hb => (h.1 hb).mono fun d S3 h3 => ?_, fun hb => ?_⟩⟩
    · rw [List.length_map]
      have := hsub.length_le
      rw [List.length_take] at this
      omega
    · obtain ⟨rfl, h4⟩ := h3
      exact ⟨_, rfl, ys ++ [x], by simp, by rw [e2]; exact hsub.append (List.Sublist.refl _), h4⟩
    · exact ⟨ys, rfl, by rw [e2]; exact hsub.trans (List.sublist_append_left _ _), h.2 hb⟩
  · rintro S acc ⟨ys, rfl, hsub, hJ⟩
    rw [List.length_map] at hsub hJ
    rw [List.take_length] at hsub
    exact hd ys S hsub hJ
end
noncomputable def srt (ps : List P) : List P := ps.mergeSort (PySem.W.dataLe false pyOf)
theorem srt_perm (ps : List P) : (srt ps).Perm ps := List.mergeSort_perm ps _
theorem le_total (a b : P) : (PySem.W.dataLe false pyOf a b || PySem.W.dataLe false pyOf b a) = true := Bool.or_eq_true_iff.mpr ((PySem.W.sortLe_total (PyProof.Rows.listOrd itemOrd) false fun b => PySem.W.keyToks (pyOf b)).total a b)
theorem le_trans (a b c : P) (h1 : PySem.W.dataLe false pyOf a b = true) (h2 : PySem.W.dataLe false pyOf b c = true) : PySem.W.dataLe false pyOf a c = true := (PySem.W.sortLe_total (PyProof.Rows.listOrd itemOrd) false fun b => PySem.W.keyToks (pyOf b)).trans a b c h1 h2
theorem srt_sorted (ps : List P) : (srt ps).Pairwise fun a b => PySem.W.dataLe false pyOf a b = true := List.pairwise_mergeSort le_trans le_total ps
def Cmp (ps : List P) : Prop := (∀ p ∈ ps, pl p = true) ∧ ∀ p ∈ ps, ∀ q ∈ ps, PySem.W.alike (pyOf p) (pyOf q) = true
theorem py_of {p : P} (h : pl p = true) : toPy p = some (pyOf p) := by
  obtain ⟨d, h1, _⟩ := pl_py p h
  unfold pyOf
  rw [h1]
  rfl
theorem le_anti {p q : P} (hp : pl p = true) (hq : pl q = true) (ha : PySem.W.alike (pyOf p) (pyOf q) = true) (h1 : PySem.W.dataLe false pyOf p q = true) (h2 : PySem.W.dataLe false pyOf q p = true) : p = q := by
  have k1 : (!PyProof.Rows.lexLt itemOrd (PySem.W.keyToks (pyOf q)) (PySem.W.keyToks (pyOf p))) = true := h1
  have k2 : (!PyProof.Rows.lexLt itemOrd (PySem.W.keyToks (pyOf p)) (PySem.W.keyToks (pyOf q))) = true := h2
  rw [Bool.not_eq_true'] at k1 k2
  have ek : PySem.W.keyToks (pyOf p) = PySem.W.keyToks (pyOf q) := (PyProof.Rows.listOrd itemOrd).total _ _ k2 k1
  have e := pl_eqv p q _ _ hp hq (py_of hp) (py_of hq)
  cases hE : PyData.eqv (pyOf p) (pyOf q) with
  | true => exact e.mp hE
  | false =>
    exfalso
    have := (PySem.W.toks_eqv _ _ ha).2 hE [.inl 0] [.inl 1]
    rw [ek, PySem.W.lex_pre, PyProof.Rows.lex_irrefl] at this
    revert this
    decide
theorem sorted_unique {le : P → P → Bool} : ∀ {xs ys : List P}, xs.Perm ys → xs.Pairwise (fun a b => le a b = true) → ys.Pairwise (fun a b => le a b = true) → (∀ a ∈ xs, ∀ b ∈ xs, le a b = true → le b a = true → a = b) → xs = ys
  | [], ys, h, _, _, _ => by rw [List.nil_perm.mp h]
  | x :: xs, [], h, _, _, _ => by cases h.length_eq
  | x :: xs, y :: ys, h, h1, h2, ha => by
    have hy : y ∈ x :: xs := h.mem_iff.mpr (List.mem_cons_self ..)
    have hx : x ∈ y :: ys := h.mem_iff.mp (List.mem_cons_self ..)
    have e : x = y := by
      rcases List.mem_cons.mp hy with e | hy'
      · exact e.symm
      · rcases List.mem_cons.mp hx with e | hx'
        · exact e
        · exact ha x (List.mem_cons_self ..) y hy ((List.pairwise_cons.mp h1).1 y hy') ((List.pairwise_cons.mp h2).1 x hx')
    subst e
    rw [sorted_unique (xs := xs) (ys := ys) (List.Perm.cons_inv h) (List.pairwise_cons.mp h1).2 (List.pairwise_cons.mp h2).2 fun a hA b hB => ha a (List.mem_cons_of_mem _ hA) b (List.mem_cons_of_mem _ hB)]
theorem srt_eq {ps qs : List P} (h : ps.Perm qs) (hc : Cmp ps) : srt ps = srt qs := by
  refine sorted_unique (le := PySem.W.dataLe false pyOf) (((srt_perm ps).trans h).trans (srt_perm qs).symm) (srt_sorted ps) (srt_sorted qs) fun a ha b hb => ?_
  have ha := (srt_perm ps).mem_iff.mp ha
  have hb := (srt_perm ps).mem_iff.mp hb
  exact le_anti (hc.1 a ha) (hc.1 b hb) (hc.2 a ha b hb)
theorem pyAll_of : ∀ {ps : List P}, (∀ p ∈ ps, pl p = true) → toPys ps = some (ps.map pyOf)
  | [], _ => rfl
  | p :: ps, h => by
    simp [toPys, py_of (h p (List.mem_cons_self ..)), pyAll_of (ps := ps) fun q hq => h q (List.mem_cons_of_mem _ hq)]
def stP (xs : List Str) : P := .tup (xs.map P.str)
theorem pl_st {xs : List Str} (h : ∀ x ∈ xs, PyData.strOk x = true) : Pl 1 (stP xs) := pl_tup fun q hq => by
  obtain ⟨x, hx, rfl⟩ := List.mem_map.mp hq
  exact pl_str (h x hx)
theorem py_st (xs : List Str) : pyOf (stP xs) = .tuple (xs.map .str) := by
  unfold pyOf
  rw [show toPy (stP xs) = some (.tuple (xs.map .str)) by simp [stP, toPy, toPys_strs]]
  rfl
theorem cmp_st {xss : List (List Str)} (h : ∀ xs ∈ xss, ∀ x ∈ xs, PyData.strOk x = true) : Cmp (xss.map stP) := ⟨fun p hp => by
    obtain ⟨xs, hx, rfl⟩ := List.mem_map.mp hp
    exact (pl_st (h xs hx)).1, fun p hp q hq => by
    obtain ⟨xs, hx, rfl⟩ := List.mem_map.mp hp
    obtain ⟨ys, hy, rfl⟩ := List.mem_map.mp hq
    rw [py_st, py_st]
    simp [PySem.W.alike, alike_strs]⟩
theorem sorted_st {xss : List (List Str)} (h : ∀ xs ∈ xss, ∀ x ∈ xs, PyData.strOk x = true) (hn : ∀ xs ∈ xss, xs ≠ []) (hl : xss.length ≤ 100000) : bSorted [.lst (xss.map stP)] = some (.lst (srt (xss.map stP))) := by
  have hc := cmp_st h
  refine sorted_of (pyAll_of hc.1) ?_ ?_ (by simpa using hl) ?_
  · unfold alikeB
    simp only [List.all_eq_true, List.mem_map]
    rintro _ ⟨p, hp, rfl⟩ _ ⟨q, hq, rfl⟩
    exact hc.2 p (by simpa using hp) q (by simpa using hq)
  · unfold sortableB
    rw [Bool.or_eq_true]
    left
    simp only [List.all_eq_true, List.mem_map]
    rintro _ ⟨p, ⟨xs, hx, rfl⟩, rfl⟩
    rw [py_st]
  · simp only [List.mem_map]
    rintro _ ⟨p, ⟨xs, hx, rfl⟩, rfl⟩
    rw [py_st]
    have dep : ∀ xs : List Str, PyData.depthAll (xs.map PyData.str) = 0 := fun xs => by
      induction xs with
      | nil => rfl
      | cons x xs ih => simp [PyData.depthAll, PyData.depth, ih]
    show PyData.depthAll _ + 1 ≤ 64
    rw [dep]
    omega
end DL
namespace DL
open PySem PySem.Spec PyProof.Rows L2
variable [Tb]
mutual
theorem isB_ok {K : PySem.W.Frag} : ∀ (p : P) (u : Value), isB K p u = true → ∃ v, RelV v u ∧ ∀ G, Is K G p v
  | .non, u, h => by
    cases u <;> first | (cases h; done) | exact ⟨.non, rfl, fun _ => rfl⟩
  | .bl b, u, h => by
    cases u <;> first | (cases h; done) | skip
    rename_i c
    have e : b = c := eq_of_beq (show (b == c) = true from h)
    subst e
    exact ⟨.bl b, rfl, fun _ => rfl⟩
  | .int i, u, h => by
    cases u <;> first | (cases h; done) | skip
    rename_i j t
    have e : i = j := of_decide_eq_true h
    subst e
    exact ⟨.int i, ⟨t, rfl⟩, fun _ => rfl⟩
  | .str x, u, h => by
    cases u <;> first | (cases h; done) | skip
    rename_i y t
    have e : x = y := of_decide_eq_true h
    subst e
    exact ⟨.str x, ⟨t, rfl⟩, fun _ => rfl⟩
  | .tup ps, u, h => by
    cases u <;> first | (cases h; done) | skip
    rename_i a
    have h0 : (match K.lookup a with
      | some ⟨.type c, _, .seq its _, _⟩ => decide (c = "tuple") && (decide (its.size ≤ sizeLine) && isBs K ps its.toList)
      | _ => false) = true := h
    cases q : K.lookup a with
    | none => rw [q] at h0; cases h0
    | some o =>
      obtain ⟨oc, od, dt, osl⟩ := o
      rw [q] at h0
      cases oc with
      | type c =>
        cases dt with
        | seq its n =>
          obtain ⟨h1, h2⟩ := Bool.and_eq_true_iff.mp (show (decide (c = "tuple") && (decide (its.size ≤ sizeLine) && isBs K ps its.toList)) = true from h0)
          obtain ⟨h3, h4⟩ := Bool.and_eq_true_iff.mp h2
          obtain ⟨vs, r, hv⟩ := isBs_ok ps its.toList h4
          exact ⟨.ref a, rfl, fun G => ⟨a, vs, rfl, .inr ⟨_, its, n, q, congrArg Value.type (of_decide_eq_true h1), rfl, of_decide_eq_true h3, r⟩, hv G⟩⟩
        | _ => cases h0
      | _ => cases dt <;> cases h0
  | .lst _, _, h => by cases h
  | .frz _, _, h => by cases h
  | .dic _ _, _, h => by cases h
  | .fn _, _, h => by cases h
theorem isBs_ok {K : PySem.W.Frag} : ∀ (ps : List P) (us : List Value), isBs K ps us = true → ∃ vs, Vals vs us ∧ ∀ G, IsAll K G ps vs
  | [], us, h => by
    cases us with
    | nil => exact ⟨[], .nil, fun _ => rfl⟩
    | cons u us => cases h
  | p :: ps, us, h => by
    cases us with
    | nil => cases h
    | cons u us =>
      obtain ⟨h1, h2⟩ := Bool.and_eq_true_iff.mp (show (isB K p u && isBs K ps us) = true from h)
      obtain ⟨v, r, hv⟩ := isB_ok p u h1
      obtain ⟨vs, rs, hvs⟩ := isBs_ok ps us h2
      exact ⟨v :: vs, .cons r rs, fun G => ⟨v, vs, rfl, hv G, hvs G⟩⟩
end
abbrev AlP : Type := He.AlD × Bool
def obsP (fa : List He.Fa) (fn : List He.DefD) (cs : List CsT) (K : PySem.W.Frag) : AlP := (He.obsD fa fn K, (cs.all fun c => isB K c.2 (c.1 K)) && cs.all fun c => match c.2 with
  | .bl _ => true
  | _ => true)
def SaysP (fa : List He.Fa) (fn : List He.DefD) (cs : List CsT) (K : PySem.W.Frag) : Prop := obsP fa fn cs K = (He.valD fn, true)
theorem SaysP.c {fa : List He.Fa} {fn : List He.DefD} {cs : List CsT} {K : PySem.W.Frag} (c : SaysP fa fn cs K) (i : Nat) {q : CsT} (h : cs[i]? = some q := by rfl) : isB K q.2 (q.1 K) = true := by
  have c1 := (Bool.and_eq_true_iff.mp (show ((cs.all fun c => isB K c.2 (c.1 K)) && _) = true from congrArg (fun z : AlP => z.2) c)).1
  exact List.all_eq_true.mp c1 q (List.mem_of_getElem? h)
theorem d_glob {X : Cx} {x : Str} {p : P} {u : Value} {pos : Pos} (hm : X.mg x = some u) (hb : isB X.K p u = true) (hg : Gl X x := by rfl) (hd : (x == ("__debug__" : Str)) = false := by decide) : PEd X (.Name x pos) (fC (.v p)) := by
  obtain ⟨v, r, hi⟩ := isB_ok p u hb
  exact d_const (pe_glob hg hm r hd) hi
theorem gv_ok {K : PySem.W.Frag} {h : Heap} {mg : Str → Option Value} {x : Str} {p : P} (X : K.In h) (G : h.Ns mainGlobals mg) (c : isB K p (gvV x K) = true) (hp : p ≠ .non) : mg x = some (gvV x K) := by
  have key : PySem.W.nsIn K mainGlobals x = some (some (gvV x K)) := by
    have no : isB K p .none = true → False := fun z => by
      cases p <;> first | exact hp rfl | cases z
    unfold gvV at c ⊢
    split at c
    · rename_i u e
      rw [e]
    · exact (no c).elim
  exact PySem.W.mg_of X G key
end DL
namespace DL
open PySem PySem.Spec PyProof.Rows L2
theorem of_P {α : Type} {o : Oc α} {a : α} {S : Sto} (h : o.P fun b S2 => b = a ∧ S2 = S) : o = .ok a S := by
  cases o with
  | ok b S2 => rw [h.1, h.2]
  | bad => exact h.elim
section
variable {f g h fk : FE} {ga gb : FA} {t u : FT} {env env1 env2 : Dnv} {S S1 S2 S3 : Sto} {d e r : D} {ds es : List D} {p q v w : P} {a b : Bool}
theorem e_c : fC d env S = .ok d S := rfl
theorem e_var {i : Nat} (h : env[i]? = some (some d)) : fVar i env S = .ok d S := by
  unfold fVar
  rw [h]
theorem e_f2 {op : P → P → Option P} (h1 : f env S = .ok d S1) (h2 : g env S1 = .ok e S2) (h3 : lift2 op d e S2 = .ok r S3) : f2 op f g env S = .ok r S3 := by
  unfold f2
  rw [h1]
  simp only [Oc.bind_ok]
  rw [h2]
  exact h3
theorem e_l2 {op : P → P → Option P} (h1 : deP S d = some p) (h2 : deP S e = some q) (h3 : op p q = some v) : lift2 op d e S = .ok (.v v) S := by
  unfold lift2
  rw [h1]
  show (match deP S e with | some q => oP (op p q) S | none => .bad : Oc D) = _
  rw [h2]
  show oP (op p q) S = _
  rw [h3]
  rfl
theorem e_f1 {op : P → Option P} (h1 : f env S = .ok d S1) (h2 : deP S1 d = some p) (h3 : op p = some v) : f1 op f env S = .ok (.v v) S1 := by
  unfold f1
  rw [h1]
  show lift1 op d S1 = _
  unfold lift1
  rw [h2]
  show oP (op p) S1 = _
  rw [h3]
  rfl
theorem e_nil : fNil env S = .ok [] S := rfl
theorem e_cons (h1 : f env S = .ok d S1) (h2 : ga env S1 = .ok ds S2) : fCons f ga env S = .ok (d :: ds) S2 := by
  unfold fCons
  rw [h1]
  simp only [Oc.bind_ok]
  rw [h2]
  rfl
theorem onVals_E {k : List P → Sto → Oc D} {ps : List P} (h : vals ds = some ps) (hl : ps.length ≤ 100000) : onVals k ds S = k ps S := by
  unfold onVals
  rw [h]
  show (if _ then _ else _ : Oc D) = _
  rw [if_pos hl]
theorem e_tup (h1 : ga env S = .ok ds S1) {ps : List P} (h2 : vals ds = some ps) (h3 : ps.length ≤ 100000) : fTup ga env S = .ok (.v (.tup ps)) S1 := by
  unfold fTup
  rw [h1]
  exact onVals_E h2 h3
theorem e_lst (h1 : ga env S = .ok ds S1) {ps : List P} (h2 : vals ds = some ps) (h3 : ps.length ≤ 100000) : fLst ga env S = .ok (.v (.lst ps)) S1 := by
  unfold fLst
  rw [h1]
  exact onVals_E h2 h3
theorem e_lstB {o : Ob} {T B : Sto} (h1 : ga env S = .ok ds (o :: (T ++ B))) {ps : List P} (h2 : vals ds = some ps) (h3 : ps.length ≤ 100000) : fLstB ga env S = .ok (.r (bx T B.length)) (o :: (T ++ (B ++ [.lst ps]))) := by
  unfold fLstB
  rw [h1]
  show onVals (fun ps S1 => .ok (.r S1.length) (S1 ++ [.lst ps])) ds (o :: (T ++ B)) = _
  rw [onVals_E h2 h3, bx_put, bx_len]
theorem e_cb {op : List P → Option P} {ps : List P} (h1 : ga env S = .ok ds S1) (h2 : deAll S1 ds = some ps) (h3 : op ps = some v) : fCb op ga env S = .ok (.v v) S1 := by
  show (ga env S).bind _ = _
  rw [h1]
  show (match deAll S1 ds with | some ps => oP (op ps) S1 | none => .bad : Oc D) = _
  rw [h2]
  show oP (op ps) S1 = _
  rw [h3]
  rfl
theorem e_cbB {op : List P → Option P} {ps qs : List P} {o : Ob} {T B : Sto} (h1 : ga env S = .ok ds (o :: (T ++ B))) (h2 : deAll (o :: (T ++ B)) ds = some ps) (h3 : op ps = some (.lst qs)) : fCbB op ga env S = .ok (.r (bx T B.length)) (o :: (T ++ (B ++ [.lst qs]))) := by
  show (ga env S).bind _ = _
  rw [h1]
  show (match deAll (o :: (T ++ B)) ds with | some ps => oB (op ps) (o :: (T ++ B)) | none => .bad : Oc D) = _
  rw [h2]
  show oB (op ps) (o :: (T ++ B)) = _
  rw [h3]
  show Oc.ok (D.r (o :: (T ++ B)).length) ((o :: (T ++ B)) ++ [.lst qs]) = _
  rw [bx_put, bx_len]
theorem e_oNo : oNo env S = .ok none S := rfl
theorem e_oAt {i : Int} (h1 : f env S = .ok (.v (.int i)) S1) : oAt f env S = .ok (some i) S1 := by
  unfold oAt
  rw [h1]
  rfl
theorem e_sl {lo hi : FO} {l m : Option Int} (h1 : f env S = .ok d S1) (h2 : lo env S1 = .ok l S2) (h3 : hi env S2 = .ok m S3) (h4 : deP S3 d = some p) (h5 : pSl p l m = some q) : fSl f lo hi env S = .ok (.v q) S3 := by
  unfold fSl
  rw [h1]
  simp only [Oc.bind_ok]
  rw [h2]
  simp only [Oc.bind_ok]
  rw [h3]
  show (match deP S3 d with | some p => oP (pSl p l m) S3 | none => .bad : Oc D) = _
  rw [h4]
  show oP (pSl p l m) S3 = _
  rw [h5]
  rfl
theorem e_tru (h1 : f env S = .ok d S1) (h2 : deP S1 d = some p) (h3 : truP p = some a) : fTru f env S = .ok a S1 := by
  unfold fTru
  rw [h1]
  show (match deP S1 d with | some p => (match truP p with | some b => .ok b S1 | none => .bad) | none => .bad : Oc Bool) = _
  rw [h2]
  show (match truP p with | some b => .ok b S1 | none => .bad : Oc Bool) = _
  rw [h3]
theorem e_yes : fYes env S = .ok true S := rfl
theorem e_and (h1 : t env S = .ok a S) (h2 : a = true → u env S = .ok b S) : fAnd t u env S = .ok (a && b) S := by
  unfold fAnd
  rw [h1]
  cases a with
  | true => exact (h2 rfl).trans (by rfl)
  | false => rfl
theorem e_or (h1 : t env S = .ok a S) (h2 : a = false → u env S = .ok b S) : fOr t u env S = .ok (a || b) S := by
  unfold fOr
  rw [h1]
  cases a with
  | true => rfl
  | false => exact (h2 rfl).trans (by rfl)
theorem e_not (h1 : t env S = .ok a S1) : fNot t env S = .ok (!a) S1 := by
  unfold fNot
  rw [h1]
  rfl
theorem e_ite (h1 : t env S = .ok a S) (h2 : a = true → f env S = .ok (.v p) S) (h3 : a = false → g env S = .ok (.v q) S) : fIte t f g env S = .ok (.v (if a = true then p else q)) S := by
  unfold fIte
  rw [h1]
  cases a with
  | true => exact h2 rfl
  | false => exact h3 rfl
theorem e_iteB {o : Ob} {T B : Sto} {ps qs : List P} (h1 : t env (o :: (T ++ B)) = .ok a (o :: (T ++ B))) (h2 : a = true → fLstB ga env (o :: (T ++ B)) = .ok (.r (bx T B.length)) (o :: (T ++ (B ++ [.lst ps])))) (h3 : a = false → fLstB gb env (o :: (T ++ B)) = .ok (.r (bx T B.length)) (o :: (T ++ (B ++ [.lst qs])))) :
    fIte t (fLstB ga) (fLstB gb) env (o :: (T ++ B)) = .ok (.r (bx T B.length)) (o :: (T ++ (B ++ [.lst (if a = true then ps else qs)]))) := by
  unfold fIte
  rw [h1]
  cases a with
  | true => exact h2 rfl
  | false => exact h3 rfl
theorem e_andV (h1 : f env S = .ok (.v (.bl a)) S) (h2 : a = true → g env S = .ok (.v (.bl b)) S) : fAndV f g env S = .ok (.v (.bl (a && b))) S := by
  unfold fAndV
  rw [h1]
  cases a with
  | true => exact (h2 rfl).trans (by rfl)
  | false => rfl
theorem e_orV (h1 : f env S = .ok (.v (.bl a)) S) (h2 : a = false → g env S = .ok (.v (.bl b)) S) : fOrV f g env S = .ok (.v (.bl (a || b))) S := by
  unfold fOrV
  rw [h1]
  cases a with
  | true => rfl
  | false => exact (h2 rfl).trans (by rfl)
theorem e_notV (h1 : f env S = .ok (.v (.bl a)) S1) : fNotV f env S = .ok (.v (.bl (!a))) S1 := by
  unfold fNotV
  rw [h1]
  rfl
theorem e_call {G : FF} {dv : List D} (h1 : ga env S = .ok ds S1) (h2 : G (ds ++ dv) S1 = .ok r S2) : fCall G dv ga env S = .ok r S2 := by
  unfold fCall
  rw [h1]
  exact h2
theorem e_callN {G : FF} {n k : Nat} {gd : List D → List D → List D} (h1 : ga env S = .ok ds S1) (h2 : gb env S1 = .ok es S2) (h3 : ds.length = n ∧ es.length = k) (h4 : G (gd ds es) S2 = .ok r S3) : fCallN G n k gd ga gb env S = .ok r S3 := by
  unfold fCallN
  rw [h1]
  simp only [Oc.bind_ok]
  rw [h2]
  show (if _ then _ else _ : Oc D) = _
  rw [if_pos h3]
  exact h4
theorem e_gNm {i : Nat} : gNm i d env S = .ok (env.set i (some d)) S := rfl
theorem e_gNl : gNl [] env S = .ok env S := rfl
theorem e_gCn {k : FG} {m : FGs} {ps : List P} (h1 : k (.v p) env S = .ok env1 S1) (h2 : m ps env1 S1 = .ok env2 S2) : gCn k m (p :: ps) env S = .ok env2 S2 := by
  unfold gCn
  show (k (.v p) env S).bind _ = _
  rw [h1]
  exact h2
theorem e_gTp {n : Nat} {k : FGs} {ps : List P} (hl : ps.length = n) (h : k ps env S = .ok env1 S1) : gTp n k (.v (.tup ps)) env S = .ok env1 S1 := by
  unfold gTp
  show (if _ then _ else _ : Oc Dnv) = _
  rw [if_pos hl]
  exact h
theorem e_iv {z : List P × Own} (h1 : f env S = .ok d S1) (h2 : seqOf d S1 = some z) : iVal f env S = .ok z S1 := by
  unfold iVal
  rw [h1]
  show (match seqOf d S1 with | some r => .ok r S1 | none => .bad : Oc (List P × Own)) = _
  rw [h2]
theorem e_rg {n : Int} (h1 : ga env S = .ok [.v (.int n)] S1) (h2 : -1000000 ≤ n) (h3 : n ≤ 1000000) : iR1 ga env S = .ok ((List.range n.toNat).map (fun i : Nat => P.int (i : Int)), none) S1 := by
  unfold iR1
  rw [h1]
  show (if _ then _ else _ : Oc (List P × Own)) = _
  rw [if_pos ⟨h2, h3⟩]
  congr 2
  exact List.map_congr_left fun i _ => by rw [Int.zero_add]
theorem e_rg2 {m n : Int} (h1 : ga env S = .ok [.v (.int m), .v (.int n)] S1) (h2 : (-1000000 ≤ m ∧ m ≤ 1000000) ∧ (-1000000 ≤ n ∧ n ≤ 1000000)) : iR2 ga env S = .ok ((List.range (n - m).toNat).map (fun i : Nat => P.int (m + i)), none) S1 := by
  unfold iR2
  rw [h1]
  show (if _ then _ else _ : Oc (List P × Own)) = _
  rw [if_pos h2]
end
structure BodyE (g : FG) (t : FT) (e : FE) (env : Dnv) (S : Sto) (p : P) (b : Bool) (r : P) : Prop where
  ex : ∃ env1, g (.v p) env S = .ok env1 S ∧ t env1 S = .ok b S ∧ (b = true → e env1 S = .ok (.v r) S)
theorem e_body {g : FG} {t : FT} {e : FE} {env env1 : Dnv} {S : Sto} {p r : P} {b : Bool} (h1 : g (.v p) env S = .ok env1 S) (h2 : t env1 S = .ok b S) (h3 : b = true → e env1 S = .ok (.v r) S) : BodyE g t e env S p b r := ⟨env1, h1, h2, h3⟩
section
variable {α : Type} {it : FI} {g : FG} {t : FT} {e fk : FE} {vs : List Nat} {env : Dnv} {S S1 : Sto} {own : Own} {xs : List α} {f hh : α → P} {q : α → Bool}
theorem lcF_E (ho : OwnOk own (xs.map f) S) (hl : xs.length < 100000) (hs : ∀ x ∈ xs, BodyE g t e env S (f x) (q x) (hh x)) : lcF own (xs.map f) g t e env (xs.map f) S [] = .ok ((xs.filter q).map hh) S := by
  refine of_P ?_
  refine lc_pure (fun x => q x = true) ho hl (fun x hx => ?_) ?_ (hh := hh)
  · obtain ⟨env1, h1, h2, h3⟩ := (hs x hx).ex
    exact P_of h1 (P_of h2 ⟨rfl, Iff.rfl, fun hb => P_of (h3 hb) ⟨rfl, rfl⟩⟩)
  · refine ⟨?_, rfl⟩
    congr 2
    funext x
    cases q x <;> rfl
theorem e_lc (hi : it env S = .ok (xs.map f, own) S1) (ho : OwnOk own (xs.map f) S1) (hl : xs.length < 100000) (hs : ∀ x ∈ xs, BodyE g t e (wipeE env vs) S1 (f x) (q x) (hh x)) : fLc it g t e vs env S = .ok (.v (.lst ((xs.filter q).map hh))) S1 := by
  unfold fLc
  rw [hi]
  show (lcF own (xs.map f) g t e (wipeE env vs) (xs.map f) S1 []).bind _ = _
  rw [lcF_E ho hl hs]
  rfl
theorem filter_yes : xs.filter (fun _ => true) = xs := by simp
theorem e_lcA (hi : it env S = .ok (xs.map f, own) S1) (ho : OwnOk own (xs.map f) S1) (hl : xs.length < 100000) (hs : ∀ x ∈ xs, BodyE g fYes e (wipeE env vs) S1 (f x) true (hh x)) : fLc it g fYes e vs env S = .ok (.v (.lst (xs.map hh))) S1 := by
  rw [e_lc (q := fun _ => true) hi ho hl hs, filter_yes]
theorem e_lcB {o : Ob} {T B : Sto} (hi : it env S = .ok (xs.map f, own) (o :: (T ++ B))) (ho : OwnOk own (xs.map f) (o :: (T ++ B))) (hl : xs.length < 100000) (hs : ∀ x ∈ xs, BodyE g t e (wipeE env vs) (o :: (T ++ B)) (f x) (q x) (hh x)) :
    fLcB it g t e vs env S = .ok (.r (bx T B.length)) (o :: (T ++ (B ++ [.lst ((xs.filter q).map hh)]))) := by
  unfold fLcB
  rw [hi]
  show (lcF own (xs.map f) g t e (wipeE env vs) (xs.map f) _ []).bind _ = _
  rw [lcF_E ho hl hs]
  show Oc.ok (D.r (o :: (T ++ B)).length) ((o :: (T ++ B)) ++ [.lst _]) = _
  rw [bx_put, bx_len]
structure BodyD (g : FG) (t : FT) (fk e : FE) (env : Dnv) (S : Sto) (p : P) (b : Bool) (kp : P) (k : Key) (r : P) : Prop where
  ex : ∃ env1, g (.v p) env S = .ok env1 S ∧ t env1 S = .ok b S ∧ (b = true → fk env1 S = .ok (.v kp) S ∧ pKey kp = some k ∧ e env1 S = .ok (.v r) S)
theorem e_bodyD {env1 : Dnv} {p kp r : P} {k : Key} {b : Bool} (h1 : g (.v p) env S = .ok env1 S) (h2 : t env1 S = .ok b S) (h3 : b = true → fk env1 S = .ok (.v kp) S) (h4 : b = true → pKey kp = some k) (h5 : b = true → e env1 S = .ok (.v r) S) : BodyD g t fk e env S p b kp k r := ⟨env1, h1, h2, fun hb => ⟨h3 hb, h4 hb, h5 hb⟩⟩
theorem e_dc {kk : α → Key} {kp : α → P} (hi : it env S = .ok (xs.map f, own) S1) (ho : OwnOk own (xs.map f) S1) (hl : xs.length < 10000) (hs : ∀ x ∈ xs, BodyD g t fk e (wipeE env vs) S1 (f x) (q x) (kp x) (kk x) (hh x)) (hn : ((xs.filter q).map kk).Nodup) :
    fDc it g t fk e vs env S = .ok (.v (.dic ((xs.filter q).map kk) ((xs.filter q).map hh))) S1 := by
  refine of_P ?_
  refine p_dc (P_of hi ?_)
  refine p_Dc (fun i S2 ks acc => S2 = S1 ∧ ks = ((xs.take i).filter q).map kk ∧ acc = ((xs.take i).filter q).map hh) ⟨rfl, by simp, by simp⟩ (fun i S2 ks acc h => by rw [h.1]; exact ho) ?_ ?_
  · rintro i p S2 ks acc hx ⟨rfl, rfl, rfl⟩
    have hx : (xs.map f)[i]? = some p := hx
    rw [List.getElem?_map] at hx
    obtain ⟨x, hxx, rfl⟩ := Option.map_eq_some_iff.mp hx
    clear hx
    have hx := hxx
    have hm := List.mem_of_getElem? hx
    have e2 : xs.take (i + 1) = xs.take i ++ [x] := by
      rw [List.take_add_one, hx]
      rfl
    refine ⟨?_, ?_⟩
    · rw [List.length_map]
      have := List.length_filter_le q (xs.take i)
      rw [List.length_take] at this
      omega
    obtain ⟨env1, h1, h2, h3⟩ := (hs x hm).ex
    refine P_of h1 (P_of h2 ⟨fun hb => ?_, fun hb => ?_⟩)
    · obtain ⟨h4, h5, h6⟩ := h3 hb
      refine P_of h4 (P_of h6 ⟨_, _, _, rfl, h5, rfl, rfl, ?_⟩)
      have e3 : (xs.take (i + 1)).filter q = (xs.take i).filter q ++ [x] := by
        rw [e2, List.filter_append, List.filter_cons, if_pos hb]
        rfl
      have hnew : kk x ∉ ((xs.take i).filter q).map kk := fun hmem => by
        have e4 : xs.filter q = (xs.take (i + 1)).filter q ++ (xs.drop (i + 1)).filter q := by
          rw [← List.filter_append, List.take_append_drop]
        rw [e4, e3, List.map_append, List.map_append] at hn
        have hn2 := (List.nodup_append.mp hn).1
        exact (List.nodup_append.mp hn2).2.2 _ hmem _ (by simp) rfl
      rw [put_new hnew (by simp), e3]
      exact ⟨by simp, by simp⟩
    · have e3 : (xs.take (i + 1)).filter q = (xs.take i).filter q := by
        rw [e2, List.filter_append, List.filter_cons, if_neg (by rw [hb]; decide)]
        simp
      exact ⟨rfl, by rw [e3], by rw [e3]⟩
  · rintro S2 ks acc ⟨rfl, rfl, rfl⟩
    have e3 : xs.take (xs.map f, own).1.length = xs := by
      show xs.take (xs.map f).length = xs
      rw [List.length_map, List.take_length]
    refine ⟨?_, rfl⟩
    show D.v (.dic (((xs.take (xs.map f, own).1.length).filter q).map kk) (((xs.take (xs.map f, own).1.length).filter q).map hh)) = _
    rw [e3]
end
section
variable {f : FE} {ga : FA} {g : FG} {t : FT} {a b : FS} {env env2 : Dnv} {S S1 S2 : Sto} {d : D} {k : Bool} {En : Dnv → Sto → Prop} {Er : D → Sto → Prop} {Eb Ec : Dnv → Sto → Prop}
theorem s_SetE (h1 : f env S = .ok d S1) (h2 : g d env S1 = .ok env2 S2) (h : En env2 S2) : (fSet f g env S).F ⟨En, Er, Eb, Ec⟩ := s_Set (P_of h1 (P_of h2 h))
theorem s_DropE (h1 : f env S = .ok d S1) (h : En env S1) : (fDrop f env S).F ⟨En, Er, Eb, Ec⟩ := s_Drop (P_of h1 h)
theorem s_RetE (h1 : f env S = .ok d S1) (h : Er d S1) : (fRet f env S).F ⟨En, Er, Eb, Ec⟩ := s_Ret (P_of h1 h)
theorem s_IfE (h1 : t env S = .ok k S1) (h2 : k = true → (a env S1).F ⟨En, Er, Eb, Ec⟩) (h3 : k = false → (b env S1).F ⟨En, Er, Eb, Ec⟩) : (fIf t a b env S).F ⟨En, Er, Eb, Ec⟩ := s_If (P_of h1 ⟨h2, h3⟩)
theorem s_Par2 {i j : Nat} {d e : D} (h1 : ga env S = .ok [d, e] S1) (h : En ((env.set i (some d)).set j (some e)) S1) : (fPar i j ga env S).F ⟨En, Er, Eb, Ec⟩ := s_Par (P_of h1 (s_ParE h))
theorem s_ForE {it : FI} {z : List P × Own} (h1 : it env S = .ok z S1) (h : (loopF z.2 z.1 g b z.1 env S1).F ⟨En, Er, Eb, Ec⟩) : (fFor it g b env S).F ⟨En, Er, Eb, Ec⟩ := s_For (P_of h1 h)
theorem e_run {n : Nat} {b : FS} {ds : List D} {o : Ob} {T : Sto} {r : D} (h : (b (startD n ds) (o :: (T ++ []))).F ⟨fun _ S1 => closeD false (T.length + 1) (.v .non) S1 = .ok r (o :: T), fun d S1 => closeD false (T.length + 1) d S1 = .ok r (o :: T), fun _ _ => False, fun _ _ => False⟩) : runF n false b ds (o :: T) = .ok r (o :: T) := by
  refine of_P (p_runC (Q := fun d S => d = r ∧ S = o :: T) (Flo.F.mono h ?_ ?_ ?_ ?_))
  · exact fun _ _ h => P_of (Q := fun d S => d = r ∧ S = o :: T) h ⟨rfl, rfl⟩
  · exact fun _ _ h => P_of (Q := fun d S => d = r ∧ S = o :: T) h ⟨rfl, rfl⟩
  · exact fun _ _ h => h
  · exact fun _ _ h => h
theorem e_close {o : Ob} {T B : Sto} {p : P} : closeD false (T.length + 1) (.v p) (o :: (T ++ B)) = .ok (.v p) (o :: T) := of_P (c_ret (B := B) ⟨rfl, rfl⟩)
theorem e_closeT {o : Ob} {T B : Sto} {p q : P} (h : p = q) : closeD false (T.length + 1) (.v p) (o :: (T ++ B)) = .ok (.v q) (o :: T) := h ▸ e_close
theorem e_closeLT {o : Ob} {T B : Sto} {j : Nat} {ps : List P} {q : P} (h1 : B[j]? = some (.lst ps)) (h : .lst ps = q) : closeD false (T.length + 1) (.r (bx T j)) (o :: (T ++ B)) = .ok (.v q) (o :: T) := h ▸ of_P (c_retL h1 ⟨rfl, rfl⟩)
theorem e_mt {op : MOp} {i : Nat} {o : Ob} {T B : Sto} {j : Nat} {ps qs : List P} {ds : List D} {u : P} (h : env[i]? = some (some (.r (bx T j)))) (h1 : B[j]? = some (.lst ps)) (h2 : ga env (o :: (T ++ B)) = .ok ds (o :: (T ++ B))) (h3 : op ps ds (o :: (T ++ B)) = some (u, qs)) :
    fMt op (fVar i) ga env (o :: (T ++ B)) = .ok (.v u) (o :: (T ++ B.set j (.lst qs))) := of_P (c_mt h h1 (P_of h2 (c_mtE h1 h3 ⟨rfl, rfl⟩)))
end
def OkS (x : Str) : Prop := PyData.strOk x = true ∧ PyData.strOk (reprText x) = true ∧ (reprText x).length ≤ 20
structure Nm where
  s : Str
  ok : OkS s
theorem Nm.inj {a b : Nm} (h : a.s = b.s) : a = b := by
  cases a
  cases b
  cases h
  rfl
theorem Nm.eq_iff {a b : Nm} : a = b ↔ a.s = b.s := ⟨fun h => h ▸ rfl, Nm.inj⟩
instance : DecidableEq Nm := fun a b => decidable_of_iff (a.s = b.s) Nm.eq_iff.symm
instance : Inhabited Nm := ⟨⟨"", by
  have : PyData.strOk "" = true ∧ PyData.strOk (reprText "") = true ∧ (reprText "").length ≤ 20 := by decide +kernel
  exact this⟩⟩
def nP (x : Nm) : P := .str x.s
abbrev tN (xs : List Nm) : P := .tup (xs.map nP)
abbrev lN (xs : List Nm) : P := .lst (xs.map nP)
theorem pl_nm (x : Nm) : Pl 0 (nP x) := pl_str x.ok.1
theorem pl_tN (xs : List Nm) : Pl 1 (tN xs) := pl_tup fun q hq => by
  obtain ⟨x, _, rfl⟩ := List.mem_map.mp hq
  exact pl_nm x
theorem pl_lN (xs : List Nm) : Pl 1 (lN xs) := pl_lst fun q hq => by
  obtain ⟨x, _, rfl⟩ := List.mem_map.mp hq
  exact pl_nm x
theorem nP_inj {a b : Nm} : nP a = nP b ↔ a = b := ⟨fun h => Nm.inj (P.str.inj h), fun h => h ▸ rfl⟩
theorem nP_map {xs ys : List Nm} : xs.map nP = ys.map nP ↔ xs = ys := ⟨fun h => (List.map_inj_right fun _ _ e => nP_inj.mp e).mp h, fun h => h ▸ rfl⟩
theorem tN_inj {xs ys : List Nm} : tN xs = tN ys ↔ xs = ys := by
  unfold tN
  rw [P.tup.injEq, nP_map]
theorem lN_inj {xs ys : List Nm} : lN xs = lN ys ↔ xs = ys := by
  unfold lN
  rw [P.lst.injEq, nP_map]
theorem mem_nP {a : Nm} {xs : List Nm} : nP a ∈ xs.map nP ↔ a ∈ xs := by
  rw [List.mem_map]
  exact ⟨fun ⟨b, h, e⟩ => nP_inj.mp e ▸ h, fun h => ⟨a, h, rfl⟩⟩
theorem boolE {b : Bool} {q : Prop} [Decidable q] (h : b = true ↔ q) : b = decide q := by
  cases b with
  | true => exact (decide_eq_true (h.mp rfl)).symm
  | false => exact (decide_eq_false fun z => Bool.noConfusion (h.mpr z)).symm
theorem eqP {n m : Nat} {p q : P} {z : Prop} [Decidable z] (hp : Pl n p) (hq : Pl m q) (hz : p = q ↔ z) (hn : n ≤ 64 := by decide) (hm : m ≤ 64 := by decide) : pEq p q = some (.bl (decide z)) := by
  obtain ⟨b, h1, h2⟩ := eq_pl hp hq hn hm
  rw [h1, boolE (h2.trans hz)]
theorem neP {n m : Nat} {p q : P} {z : Prop} [Decidable z] (hp : Pl n p) (hq : Pl m q) (hz : p = q ↔ z) (hn : n ≤ 64 := by decide) (hm : m ≤ 64 := by decide) : pNe p q = some (.bl (!decide z)) := by
  obtain ⟨b, h1, h2⟩ := ne_pl hp hq hn hm
  rw [h1]
  have : (!b) = decide z := boolE (by rw [← hz, ← Classical.not_not (a := p = q), ← Ne, ← h2]; cases b <;> simp)
  rw [← this]
  simp
section
variable {a b : Nm} {xs ys : List Nm} {l l1 l2 l3 : Str} {i j : Int}
theorem o_eqN : pEq (nP a) (nP b) = some (.bl (decide (a = b))) := eqP (pl_nm a) (pl_nm b) nP_inj
theorem o_neN : pNe (nP a) (nP b) = some (.bl (!decide (a = b))) := neP (pl_nm a) (pl_nm b) nP_inj
theorem o_eqL (h : PyData.strOk l = true) : pEq (nP a) (.str l) = some (.bl (decide (a.s = l))) := eqP (pl_nm a) (pl_str h) (by unfold nP; rw [P.str.injEq])
theorem o_neL (h : PyData.strOk l = true) : pNe (nP a) (.str l) = some (.bl (!decide (a.s = l))) := neP (pl_nm a) (pl_str h) (by unfold nP; rw [P.str.injEq])
theorem o_eqT : pEq (tN xs) (tN ys) = some (.bl (decide (xs = ys))) := eqP (pl_tN xs) (pl_tN ys) tN_inj
theorem o_neT : pNe (tN xs) (tN ys) = some (.bl (!decide (xs = ys))) := neP (pl_tN xs) (pl_tN ys) tN_inj
theorem o_eqT0 : pEq (tN xs) (.tup []) = some (.bl (decide (xs = []))) := o_eqT (ys := [])
theorem o_neT0 : pNe (tN xs) (.tup []) = some (.bl (!decide (xs = []))) := o_neT (ys := [])
theorem o_eqLs0 : pEq (lN xs) (.lst []) = some (.bl (decide (xs = []))) := eqP (pl_lN xs) (pl_lN []) (lN_inj (ys := []))
theorem o_neLs0 : pNe (lN xs) (.lst []) = some (.bl (!decide (xs = []))) := neP (pl_lN xs) (pl_lN []) (lN_inj (ys := []))
theorem o_inT : pIn (nP a) (tN xs) = some (.bl (decide (a ∈ xs))) := by
  obtain ⟨b, h1, h2⟩ := in_tup (n := 0) (m := 0) (p := nP a) (ps := xs.map nP) (pl_nm a) (fun q hq => by
    obtain ⟨x, _, rfl⟩ := List.mem_map.mp hq
    exact pl_nm x) (by decide)
  show pIn (nP a) (.tup (xs.map nP)) = _
  rw [h1, boolE (h2.trans mem_nP)]
theorem o_inLs : pIn (nP a) (lN xs) = some (.bl (decide (a ∈ xs))) := by
  obtain ⟨b, h1, h2⟩ := in_lst (n := 0) (m := 0) (p := nP a) (ps := xs.map nP) (pl_nm a) (fun q hq => by
    obtain ⟨x, _, rfl⟩ := List.mem_map.mp hq
    exact pl_nm x) (by decide)
  show pIn (nP a) (.lst (xs.map nP)) = _
  rw [h1, boolE (h2.trans mem_nP)]
theorem notIn_of {x c : P} {z : Bool} (h : pIn x c = some (.bl z)) : pNotIn x c = some (.bl (!z)) := by
  unfold pIn at h
  unfold pNotIn
  cases e : pInB x c with
  | none => rw [e] at h; cases h
  | some w =>
    rw [e] at h
    have : w = z := by simpa using h
    subst this
    rfl
theorem o_niT : pNotIn (nP a) (tN xs) = some (.bl (!decide (a ∈ xs))) := notIn_of o_inT
theorem o_niLs : pNotIn (nP a) (lN xs) = some (.bl (!decide (a ∈ xs))) := notIn_of o_inLs
def has (l : Str) (xs : List Nm) : Bool := decide (l ∈ xs.map Nm.s)
theorem o_inW (h : PyData.strOk l = true) : pIn (.str l) (tN xs) = some (.bl (has l xs)) := by
  obtain ⟨b, h1, h2⟩ := in_tup (n := 0) (m := 0) (p := .str l) (ps := xs.map nP) (pl_str h) (fun q hq => by
    obtain ⟨x, _, rfl⟩ := List.mem_map.mp hq
    exact pl_nm x) (by decide)
  show pIn (.str l) (.tup (xs.map nP)) = _
  rw [h1]
  have : b = has l xs := boolE (h2.trans (by
    rw [List.mem_map, List.mem_map]
    constructor
    · rintro ⟨x, hx, e⟩
      exact ⟨x, hx, P.str.inj e⟩
    · rintro ⟨x, hx, e⟩
      exact ⟨x, hx, congrArg P.str e⟩))
  rw [this]
theorem o_niW (h : PyData.strOk l = true) : pNotIn (.str l) (tN xs) = some (.bl (!has l xs)) := notIn_of (o_inW h)
theorem in_lits {ls : List Str} (h : ∀ l ∈ ls, PyData.strOk l = true) : pIn (nP a) (.tup (ls.map P.str)) = some (.bl (decide (a.s ∈ ls))) := by
  obtain ⟨b, h1, h2⟩ := in_tup (n := 0) (m := 0) (p := nP a) (ps := ls.map P.str) (pl_nm a) (fun q hq => by
    obtain ⟨x, hx, rfl⟩ := List.mem_map.mp hq
    exact pl_str (h x hx)) (by decide)
  rw [h1]
  have : b = decide (a.s ∈ ls) := boolE (h2.trans (by
    rw [List.mem_map]
    constructor
    · rintro ⟨x, hx, e⟩
      exact P.str.inj e ▸ hx
    · exact fun hx => ⟨a.s, hx, rfl⟩))
  rw [this]
theorem o_in1 (h1 : PyData.strOk l1 = true) : pIn (nP a) (.tup [.str l1]) = some (.bl (decide (a.s = l1))) := (in_lits (ls := [l1]) (by simpa using h1)).trans (by simp)
theorem o_in2 (h1 : PyData.strOk l1 = true) (h2 : PyData.strOk l2 = true) : pIn (nP a) (.tup [.str l1, .str l2]) = some (.bl (decide (a.s = l1 ∨ a.s = l2))) := (in_lits (ls := [l1, l2]) (by simpa using ⟨h1, h2⟩)).trans (by simp)
theorem o_in3 (h1 : PyData.strOk l1 = true) (h2 : PyData.strOk l2 = true) (h3 : PyData.strOk l3 = true) : pIn (nP a) (.tup [.str l1, .str l2, .str l3]) = some (.bl (decide (a.s = l1 ∨ a.s = l2 ∨ a.s = l3))) := (in_lits (ls := [l1, l2, l3]) (by simpa using ⟨h1, h2, h3⟩)).trans (by simp)
theorem o_ni1 (h1 : PyData.strOk l1 = true) : pNotIn (nP a) (.tup [.str l1]) = some (.bl (!decide (a.s = l1))) := notIn_of (o_in1 h1)
theorem o_ni2 (h1 : PyData.strOk l1 = true) (h2 : PyData.strOk l2 = true) : pNotIn (nP a) (.tup [.str l1, .str l2]) = some (.bl (!decide (a.s = l1 ∨ a.s = l2))) := notIn_of (o_in2 h1 h2)
theorem o_eqI : pEq (.int i) (.int j) = some (.bl (decide (i = j))) := eqP pl_int pl_int (by rw [P.int.injEq])
theorem o_neI : pNe (.int i) (.int j) = some (.bl (!decide (i = j))) := neP pl_int pl_int (by rw [P.int.injEq])
theorem o_addLs {ps qs : List P} (h : ps.length + qs.length ≤ 100000) : pAdd (.lst ps) (.lst qs) = some (.lst (ps ++ qs)) := if_pos h
theorem o_addTp {ps qs : List P} (h : ps.length + qs.length ≤ 100000) : pAdd (.tup ps) (.tup qs) = some (.tup (ps ++ qs)) := if_pos h
theorem o_addT (h : xs.length + ys.length ≤ 100000) : pAdd (tN xs) (tN ys) = some (tN (xs ++ ys)) := by
  unfold tN
  rw [o_addTp (by simpa using h), List.map_append]
theorem o_addT1 (h : xs.length + 1 ≤ 100000) : pAdd (tN xs) (.tup [nP a]) = some (tN (xs ++ [a])) := o_addT (ys := [a]) h
theorem o_tupleN {xs : List Nm} : bTuple [lN xs] = some (tN xs) := rfl
theorem o_tuple {ps : List P} : bTuple [.lst ps] = some (.tup ps) := rfl
theorem o_app {ps : List P} {p : P} {S : Sto} (h : ps.length < 100000) : mAppend ps [.v p] S = some (.non, ps ++ [p]) := if_pos h
theorem o_ext {ps qs : List P} {d : D} {S : Sto} (h1 : deP S d = some (.lst qs)) (h : ps.length + qs.length ≤ 100000) : mExtend ps [d] S = some (.non, ps ++ qs) := by
  show (match deP S d with | some (.lst qs) => if ps.length + qs.length ≤ 100000 then some (.non, ps ++ qs) else none | _ => none : Option (P × List P)) = _
  rw [h1]
  exact if_pos h
end
end DL
namespace DL
open PySem PySem.Spec PyProof.Rows L2
instance (x : Str) : Decidable (OkS x) := inferInstanceAs (Decidable (_ ∧ _))
def lit (x : Str) (h : OkS x := by decide +kernel) : Nm := ⟨x, h⟩
def nAgain : Nm := lit "again"
def nAsk : Nm := lit "ask"
def nRepeat : Nm := lit "repeat"
def nUndo : Nm := lit "undo"
theorem has_iff {l : Nm} {xs : List Nm} : has l.s xs = decide (l ∈ xs) := by
  unfold has
  refine boolE ?_
  rw [decide_eq_true_eq, List.mem_map]
  exact ⟨fun ⟨a, h, e⟩ => Nm.inj e ▸ h, fun h => ⟨l, h, rfl⟩⟩
theorem sbD_bxN {T B : Sto} {o : Ob} {j : Nat} {ks : List Key} {ps : List P} {x : Nm} {p : P} {env : Dnv} {Q : Dnv → Sto → Prop} (h1 : B[j]? = some (.dic ks ps)) (hn : (Sum.inr x.s : Key) ∉ ks) (hl : ks.length = ps.length) (h3 : ks.length < 10000)
    (q : Q env (o :: (T ++ B.set j (.dic (ks ++ [.inr x.s]) (ps ++ [p]))))) : (sbE (.r (bx T j)) (.v (nP x)) (.v p) env (o :: (T ++ B))).P Q := by
  refine p_sbD (ks := ks) (ps := ps) (k := .inr x.s) (by rw [bx_get]; exact h1) rfl h3 ?_
  rw [bx_set, put_new hn hl]
  exact q
theorem deP_bxD {o : Ob} {T B : Sto} {j : Nat} {ks : List Key} {ps : List P} (h : B[j]? = some (.dic ks ps)) : deP (o :: (T ++ B)) (.r (bx T j)) = some (.dic ks ps) := by
  unfold deP
  dsimp only
  rw [bx_get, h]
theorem c_dic0B {o : Ob} {T B : Sto} {env : Dnv} {Q : D → Sto → Prop} (q : Q (.r (bx T B.length)) (o :: (T ++ (B ++ [.dic [] []])))) : (fDic0B env (o :: (T ++ B))).P Q := by
  show Q (.r (o :: (T ++ B)).length) ((o :: (T ++ B)) ++ [.dic [] []])
  rw [bx_put, bx_len]
  exact q
theorem e_dic0B {o : Ob} {T B : Sto} {env : Dnv} : fDic0B env (o :: (T ++ B)) = .ok (.r (bx T B.length)) (o :: (T ++ (B ++ [.dic [] []]))) := of_P (c_dic0B ⟨rfl, rfl⟩)
theorem o_ix {α : Type} {xs : List α} {f : α → P} {i : Nat} {a : α} (h : xs[i]? = some a) : pIx (.lst (xs.map f)) (.int i) = some (f a) ∧ pIx (.tup (xs.map f)) (.int i) = some (f a) := by
  have e : atI (xs.map f) (i : Int) = some (f a) := at_nn (j := i) rfl (by rw [List.getElem?_map, h]; rfl)
  exact ⟨e, e⟩
end DL
namespace ZS
open PySem
open PySem.Sem (wp)
def Sq (t : Bool) (g : Heap) (u : Addr) (vs : Array Value) : Prop := cond t (g.IsTuple u vs) (g.IsList u vs)
def Im (t : Bool) (g : Heap) (p u : Addr) (k : Nat) : Prop := cond t (g.IsTupleIter p u k) (g.IsListIter p u k)
section
variable {t : Bool} {g g2 : Heap} {u p b : Addr} {vs : Array Value} {k : Nat}
theorem Sq.ext (q : Sq t g u vs) (e : Heap.ExtBut b g g2) (n : u ≠ b) : Sq t g2 u vs := by
  cases t
  · exact Heap.IsList.extBut q e n
  · exact Heap.IsTuple.extBut q e n
theorem Im.ext (q : Im t g p u k) (e : Heap.ExtBut b g g2) (n : p ≠ b) : Im t g2 p u k := by
  cases t
  · exact Heap.IsListIter.extBut q e n
  · exact Heap.IsTupleIter.extBut q e n
theorem Im.at (q : Im t g p u k) (e : ∀ o, g.get? p = some o → g2.get? p = some o) : Im t g2 p u k := by
  cases t
  · exact Heap.IsListIter.at q e
  · exact Heap.IsTupleIter.at q e
theorem Im.obj (q : Im t g p u k) : ∃ o, g.get? p = some o ∧ ∀ v, o.data ≠ .cell v := by
  cases t
  · obtain ⟨o, e1, _, d1⟩ := q
    exact ⟨o, e1, fun v z => by rw [d1] at z; cases z⟩
  · obtain ⟨o, e1, _, d1⟩ := q
    exact ⟨o, e1, fun v z => by rw [d1] at z; cases z⟩
end
section
variable {prog : Program} {w : World} {A : Around} {E : Value → Shared → Prop} {s : Shared}
theorem draw_item {t : Bool} {p u : Addr} {k : Nat} {vs : Array Value} {x : Value} {Q : Option Value → Shared → Prop} (i : Im t s.heap p u k) (q : Sq t s.heap u vs) (hx : vs[k]? = some x)
    (h : ∀ g, Im t g p u (k + 1) → Heap.SameBut p s.heap g → Q (some x) { s with heap := g }) : wpAny (model prog w) A (Builtin.SmallTypes.nextOrEnd (.ref p)) Q E s := by
  unfold Builtin.SmallTypes.nextOrEnd
  refine wpAny_bind (wpAny_attempt ?_)
  cases t with
  | false => exact wpAny_nextOf_list_item i q hx fun g ig sg => wpAny_pure (h g ig sg)
  | true => exact RZ.nextOf_tuple_item i q hx fun g ig sg => wpAny_pure (h g ig sg)
theorem draw_end {t : Bool} {p u : Addr} {k : Nat} {vs : Array Value} {Q : Option Value → Shared → Prop} (hh : A.handled = none) (i : Im t s.heap p u k) (q : Sq t s.heap u vs) (hx : vs[k]? = none)
    (h : ∀ g, Heap.ExtBut p s.heap g → Q none { s with heap := g }) : wpAny (model prog w) A (Builtin.SmallTypes.nextOrEnd (.ref p)) Q E s := by
  unfold Builtin.SmallTypes.nextOrEnd
  refine wpAny_bind (wpAny_attempt ?_)
  cases t with
  | false => exact wpAny_nextOf_list_end hh i q hx fun g e eg ⟨o, ho, hc⟩ => wpAny_bind (wpAny_isInstance (T := "StopIteration") (b := true) ⟨o, ho, hc⟩ isSubtype_stop (wpAny_pure (h g eg)))
  | true => exact RZ.nextOf_tuple_end hh i q hx fun g e eg ⟨o, ho, hc⟩ => wpAny_bind (wpAny_isInstance (T := "StopIteration") (b := true) ⟨o, ho, hc⟩ isSubtype_stop (wpAny_pure (h g eg)))
abbrev IsZs (g : Heap) (z ti to : Addr) (f : Value) : Prop := g.get? z = some { cls := .type "zip", dict := none, data := .fields #[f, .bool false, .bool true, .ref ti, .ref to], slots := #[] }
structure Ap (z ti to p r u v : Addr) : Prop where
  a1 : ti ≠ z
  a2 : to ≠ z
  a3 : p ≠ z
  a4 : r ≠ z
  a5 : ti ≠ to
  a6 : ti ≠ p
  a7 : ti ≠ r
  a8 : to ≠ p
  a9 : to ≠ r
  b1 : p ≠ r
  b2 : u ≠ z
  b3 : u ≠ to
  b4 : u ≠ p
  b5 : u ≠ r
  b6 : v ≠ z
  b7 : v ≠ to
  b8 : v ≠ p
  b9 : v ≠ r
theorem item {t1 t2 : Bool} {z ti to p r u v : Addr} {k : Nat} {xs ys : Array Value} {x y a b : Value} {Q : Value → Shared → Prop} (D : Ap z ti to p r u v)
    (hz : IsZs s.heap z ti to .none) (hti : IsPair s.heap ti (.ref p) (.ref r)) (hto : IsPair s.heap to a b) (i1 : Im t1 s.heap p u k) (i2 : Im t2 s.heap r v k) (q1 : Sq t1 s.heap u xs) (q2 : Sq t2 s.heap v ys) (hx : xs[k]? = some x) (hy : ys[k]? = some y)
    (hQ : ∀ g, IsZs g z ti to (rawInt s.heap.objs.size) → IsPair g to x y → Im t1 g p u (k + 1) → Im t2 g r v (k + 1) → IsPair g s.heap.objs.size x y → g.objs.size = s.heap.objs.size + 1 →
      (∀ c o, c ≠ z → c ≠ to → c ≠ p → c ≠ r → s.heap.get? c = some o → g.get? c = some o) → Q (.ref s.heap.objs.size) { s with heap := g }) :
    wpAny (model prog w) A (Builtin.«zip.__next__» ⟨[.ref z], []⟩) (fun fin s' => ∃ d, fin = .done (.ret d) ∧ Q d s') E s := by
  show wpAny _ _ (field (.ref z) 2 >>= _) _ _ s
  refine wpAny_bind (wpAny_field hz rfl (x := .bool true) rfl ?_)
  show wpAny _ _ (field (.ref z) 3 >>= _) _ _ s
  refine wpAny_bind (wpAny_field hz rfl (x := .ref ti) rfl (wpAny_bind (wpAny_seqItems hti rfl ?_)))
  show wpAny _ _ (Builtin.SmallTypes.ownedTupleIsFree (.ref z) >>= _) _ _ s
  refine wpAny_bind ?_
  unfold Builtin.SmallTypes.ownedTupleIsFree
  refine wpAny_bind (wpAny_field hz rfl (x := .none) rfl (wpAny_pure ?_))
  simp only [if_true]
  refine wpAny_bind (wpAny_rule (wpAny_bind (wpAny_field hz rfl (x := .ref to) rfl ?_)))
  refine wpAny_bind (wpAny_setField_rec hz (by simp) fun g₁ hz₁ hs₁ => ?_)
  replace hz₁ : IsZs g₁ z ti to .ellipsis := hz₁
  refine wpAny_bind ?_
  simp only [List.zipIdx_cons, List.zipIdx_nil, List.forIn_cons, List.forIn_nil]
  refine wpAny_bind (wpAny_bind (wpAny_onRaise ?_))
  show wpAny _ _ (Builtin.SmallTypes.nextOrEnd (.ref p)) _ _ _
  refine draw_item (i1.ext hs₁.extBut D.a3) (q1.ext hs₁.extBut D.b2) hx fun g₂ i₂ hs₂ => ?_
  have to₂ : IsPair g₂ to a b := hs₂.extBut _ _ D.a8 (hs₁.extBut _ _ D.a2 hto)
  refine wpAny_bind (wpAny_seqItems to₂ rfl (wpAny_bind (wpAny_updateSeq_pair to₂ fun g₃ to₃ hs₃ => ?_)))
  replace to₃ : IsPair g₃ to x b := to₃
  refine wpAny_bind (wpAny_letGo (wpAny_pure (wpAny_bind (wpAny_bind (wpAny_onRaise ?_)))))
  show wpAny _ _ (Builtin.SmallTypes.nextOrEnd (.ref r)) _ _ _
  refine draw_item (((i2.ext hs₁.extBut D.a4).ext hs₂.extBut D.b1.symm).ext hs₃.extBut D.a9.symm) (((q2.ext hs₁.extBut D.b6).ext hs₂.extBut D.b8).ext hs₃.extBut D.b7) hy fun g₄ i₄ hs₄ => ?_
  have to₄ : IsPair g₄ to x b := hs₄.extBut _ _ D.a9 to₃
  refine wpAny_bind (wpAny_seqItems to₄ rfl (wpAny_bind (wpAny_updateSeq_pair to₄ fun g₅ to₅ hs₅ => ?_)))
  replace to₅ : IsPair g₅ to x y := to₅
  refine wpAny_bind (wpAny_letGo (wpAny_pure (wpAny_pure ?_)))
  refine wpAny_bind (wpAny_seqItems to₅ rfl (wpAny_bind (wpAny_newTuple ?_)))
  have hsz : g₅.objs.size = s.heap.objs.size := by rw [hs₅.1, hs₄.1, hs₃.1, hs₂.1, hs₁.1]
  have hz₅ : IsZs g₅ z ti to .ellipsis := hs₅.extBut _ _ D.a2.symm (hs₄.extBut _ _ D.a4.symm (hs₃.extBut _ _ D.a2.symm (hs₂.extBut _ _ D.a3.symm hz₁)))
  have hk₅ : ∀ c o, c ≠ z → c ≠ to → c ≠ p → c ≠ r → s.heap.get? c = some o → g₅.get? c = some o := fun c o c1 c2 c3 c4 e =>
    hs₅.extBut _ _ c2 (hs₄.extBut _ _ c4 (hs₃.extBut _ _ c2 (hs₂.extBut _ _ c3 (hs₁.extBut _ _ c1 e))))
  have j1 : Im t1 g₅ p u (k + 1) := ((i₂.ext hs₃.extBut D.a8.symm).ext hs₄.extBut D.b1).ext hs₅.extBut D.a8.symm
  have j2 : Im t2 g₅ r v (k + 1) := i₄.ext hs₅.extBut D.a9.symm
  have lz : z < g₅.objs.size := Heap.lt_size hz₅
  show wpAny _ _ (Builtin.SmallTypes.ownedTupleHandOut (.ref z) (.ref g₅.objs.size) >>= _) _ _ _
  refine wpAny_bind ?_
  unfold Builtin.SmallTypes.ownedTupleHandOut
  have hz₆ : IsZs (g₅.push { cls := .type "tuple", data := .seq #[x, y] }) z ti to .ellipsis := Heap.get?_push_of_some _ hz₅
  refine wpAny_bind (wpAny_setField_rec hz₆ (by simp) fun g₇ hz₇ hs₇ => ?_)
  replace hz₇ : IsZs g₇ z ti to (rawInt g₅.objs.size) := hz₇
  refine wpAny_setField_rec hz₇ (by simp) fun g₈ hz₈ hs₈ => ?_
  replace hz₈ : IsZs g₈ z ti to (rawInt g₅.objs.size) := hz₈
  have up : ∀ c o, c ≠ z → g₅.get? c = some o → g₈.get? c = some o := fun c o c1 e => hs₈.extBut _ _ c1 (hs₇.extBut _ _ c1 (Heap.get?_push_of_some _ e))
  have new₈ : IsPair g₈ g₅.objs.size x y := hs₈.extBut _ _ (Nat.ne_of_gt lz) (hs₇.extBut _ _ (Nat.ne_of_gt lz) (Heap.get?_push_size _ rfl))
  have sz₈ : g₈.objs.size = g₅.objs.size + 1 := by rw [hs₈.1, hs₇.1, Heap.size_push]
  rw [hsz] at hz₈ new₈ sz₈
  refine wpAny_pure ⟨_, rfl, ?_⟩
  show Q (.ref g₅.objs.size) _
  rw [hsz]
  exact hQ g₈ hz₈ (up _ _ D.a2 to₅) (j1.at fun o e => up _ o D.a3 e) (j2.at fun o e => up _ o D.a4 e) new₈ sz₈ fun c o c1 c2 c3 c4 e => up c o c1 (hk₅ c o c1 c2 c3 c4 e)
theorem ended {t1 t2 : Bool} {z ti to p r u v : Addr} {k : Nat} {xs ys : Array Value} {a b : Value} {Q : Fin → Shared → Prop} (hh : A.handled = none) (D : Ap z ti to p r u v)
    (hz : IsZs s.heap z ti to .none) (hti : IsPair s.heap ti (.ref p) (.ref r)) (hto : IsPair s.heap to a b) (i1 : Im t1 s.heap p u k) (i2 : Im t2 s.heap r v k) (q1 : Sq t1 s.heap u xs) (q2 : Sq t2 s.heap v ys) (hx : xs[k]? = none) (hy : ys[k]? = none)
    (hE : ∀ g e, (∀ c o, c ≠ z → c ≠ to → c ≠ p → c ≠ r → s.heap.get? c = some o → g.get? c = some o) → (∃ o, g.get? e = some o ∧ o.cls = .type "StopIteration") → E (.ref e) { s with heap := g }) :
    wpAny (model prog w) A (Builtin.«zip.__next__» ⟨[.ref z], []⟩) Q E s := by
  show wpAny _ _ (field (.ref z) 2 >>= _) _ _ s
  refine wpAny_bind (wpAny_field hz rfl (x := .bool true) rfl ?_)
  show wpAny _ _ (field (.ref z) 3 >>= _) _ _ s
  refine wpAny_bind (wpAny_field hz rfl (x := .ref ti) rfl (wpAny_bind (wpAny_seqItems hti rfl ?_)))
  show wpAny _ _ (Builtin.SmallTypes.ownedTupleIsFree (.ref z) >>= _) _ _ s
  refine wpAny_bind ?_
  unfold Builtin.SmallTypes.ownedTupleIsFree
  refine wpAny_bind (wpAny_field hz rfl (x := .none) rfl (wpAny_pure ?_))
  simp only [if_true]
  refine wpAny_bind (wpAny_rule (wpAny_bind (wpAny_field hz rfl (x := .ref to) rfl ?_)))
  refine wpAny_bind (wpAny_setField_rec hz (by simp) fun g₁ hz₁ hs₁ => ?_)
  replace hz₁ : IsZs g₁ z ti to .ellipsis := hz₁
  refine wpAny_bind ?_
  simp only [List.zipIdx_cons, List.zipIdx_nil, List.forIn_cons, List.forIn_nil]
  refine wpAny_bind (wpAny_bind (wpAny_onRaise ?_))
  show wpAny _ _ (Builtin.SmallTypes.nextOrEnd (.ref p)) _ _ _
  refine draw_end hh (i1.ext hs₁.extBut D.a3) (q1.ext hs₁.extBut D.b2) hx fun g₂ hs₂ => ?_
  have hz₂ : IsZs g₂ z ti to .ellipsis := hs₂ _ _ D.a3.symm hz₁
  refine wpAny_bind (wpAny_setField_rec hz₂ (by simp) fun g₃ hz₃ hs₃ => ?_)
  refine wpAny_bind (wpAny_bind ?_)
  show wpAny _ _ (bind _ _) _ _ _
  refine wpAny_bind ?_
  show wpAny _ _ (Builtin.SmallTypes.nextOrEnd (.ref r) >>= _) _ _ _
  have i2₃ : Im t2 g₃ r v k := ((i2.ext hs₁.extBut D.a4).ext hs₂ D.b1.symm).ext hs₃.extBut D.a4
  have q2₃ : Sq t2 g₃ v ys := ((q2.ext hs₁.extBut D.b6).ext hs₂ D.b8).ext hs₃.extBut D.b6
  refine wpAny_bind (draw_end hh i2₃ q2₃ hy fun g₄ hs₄ => ?_)
  show wpAny _ _ (pure _) _ _ _
  refine wpAny_pure ?_
  show wpAny _ _ (pure _) _ _ _
  refine wpAny_pure (wpAny_bind (wpAny_rule ?_))
  show wpAny _ _ (newExc (.type "StopIteration") [] >>= _) _ _ _
  refine wpAny_bind ?_
  simp only [newExc, newTuple]
  refine wpAny_bind (wpAny_newObj_type (wpAny_bind (m := firstArgMember _ _) (wpAny_of_eq (a := Value.none) (by first | rfl | (simp only [firstArgMember]; rfl)) (wpAny_newObj_type ?_ (by size_fits)))) (by size_fits))
  simp only [raiseNew]
  refine wpAny_bind (wpAny_handled ?_)
  first | rw [show A.in1.handled = none from hh] | rw [hh]
  refine wpAny_bind (wpAny_pure (wpAny_throw ?_))
  refine hE _ _ (fun c o c1 c2 c3 c4 e => ?_) ⟨_, Heap.get?_push_size _ rfl, rfl⟩
  exact Heap.get?_push_of_some _ (Heap.get?_push_of_some _ (hs₄ _ _ c4 (hs₃.extBut _ _ c1 (hs₂ _ _ c3 (hs₁.extBut _ _ c1 e)))))
theorem next_item {t1 t2 : Bool} {z ti to p r u v : Addr} {k : Nat} {xs ys : Array Value} {x y a b : Value} {Q : Option Value → Shared → Prop} (D : Ap z ti to p r u v)
    (hz : IsZs s.heap z ti to .none) (hti : IsPair s.heap ti (.ref p) (.ref r)) (hto : IsPair s.heap to a b) (i1 : Im t1 s.heap p u k) (i2 : Im t2 s.heap r v k) (q1 : Sq t1 s.heap u xs) (q2 : Sq t2 s.heap v ys) (hx : xs[k]? = some x) (hy : ys[k]? = some y)
    (hQ : ∀ g, IsZs g z ti to (rawInt s.heap.objs.size) → IsPair g to x y → Im t1 g p u (k + 1) → Im t2 g r v (k + 1) → IsPair g s.heap.objs.size x y → g.objs.size = s.heap.objs.size + 1 →
      (∀ c o, c ≠ z → c ≠ to → c ≠ p → c ≠ r → s.heap.get? c = some o → g.get? c = some o) → Q (some (.ref s.heap.objs.size)) { s with heap := g }) : wpAny (model prog w) A (pyNext (.ref z)) Q E s := by
  have ht : s.TypeIs (.ref z) "zip" := ⟨_, hz, rfl⟩
  unfold pyNext
  refine wpAny_bind (wpAny_attempt (wpAny_callSpecial?_slot (name := Str.ofString "__next__") ht F.slot_zip_next (wpAny_call_entry F.slot_zip_next ht F.entry_zip_next ?_ (F.args_zip_next_1 _))))
  exact item D hz hti hto i1 i2 q1 q2 hx hy fun g b1 b2 b3 b4 b5 b6 b7 => wpAny_pure (hQ g b1 b2 b3 b4 b5 b6 b7)
theorem next_end {t1 t2 : Bool} {z ti to p r u v : Addr} {k : Nat} {xs ys : Array Value} {a b : Value} {Q : Option Value → Shared → Prop} (hh : A.handled = none) (D : Ap z ti to p r u v)
    (hz : IsZs s.heap z ti to .none) (hti : IsPair s.heap ti (.ref p) (.ref r)) (hto : IsPair s.heap to a b) (i1 : Im t1 s.heap p u k) (i2 : Im t2 s.heap r v k) (q1 : Sq t1 s.heap u xs) (q2 : Sq t2 s.heap v ys) (hx : xs[k]? = none) (hy : ys[k]? = none)
    (hQ : ∀ g, (∀ c o, c ≠ z → c ≠ to → c ≠ p → c ≠ r → s.heap.get? c = some o → g.get? c = some o) → Q none { s with heap := g }) : wpAny (model prog w) A (pyNext (.ref z)) Q E s := by
  have ht : s.TypeIs (.ref z) "zip" := ⟨_, hz, rfl⟩
  unfold pyNext
  refine wpAny_bind (wpAny_attempt (wpAny_callSpecial?_slot (name := Str.ofString "__next__") ht F.slot_zip_next (wpAny_call_entry F.slot_zip_next ht F.entry_zip_next ?_ (F.args_zip_next_1 _))))
  refine ended hh D hz hti hto i1 i2 q1 q2 hx hy fun g e hk ⟨o, ho, hc⟩ => ?_
  exact wpAny_bind (wpAny_isInstance (T := "StopIteration") (b := true) ⟨o, ho, hc⟩ isSubtype_stop (wpAny_pure (hQ _ hk)))
theorem let_go {es : List Expr} {x1} {pos : Pos} {z ti to d : Addr} {Q : Unit → Shared → Prop} (hz : IsZs s.heap z ti to (rawInt d)) (hQ : ∀ g, IsZs g z ti to .none → Heap.SameBut z s.heap g → Q () { s with heap := g }) :
    wpAny (model prog w) A (letOwnedTupleGo (.Tuple es x1 pos) (.ref z) (.ref d)) Q E s := by
  unfold letOwnedTupleGo
  refine wpAny_bind (wpAny_load hz ?_)
  show wpAny _ _ (if (["enumerate", "zip", "dict_itemiterator", "dict_reverseitemiterator", "odict_iterator", "itertools.zip_longest", "itertools.pairwise"].contains "zip" && (#[rawInt d, .bool false, .bool true, .ref ti, .ref to] : Array Value)[0]? == some (rawInt d)) = true then _ else _) Q E s
  rw [if_pos (by simp)]
  refine wpAny_bind (wpAny_rule ?_)
  show wpAny _ _ (setField (.ref z) 0 .none) Q E s
  exact wpAny_setField_rec hz (by simp) fun g hg sg => hQ g hg sg
theorem iter_self {z ti to : Addr} {f : Value} {Q : Value → Shared → Prop} (hz : IsZs s.heap z ti to f) (h : Q (.ref z) s) : wpAny (model prog w) A (pyIter (.ref z)) Q E s := by
  have ht : s.TypeIs (.ref z) "zip" := ⟨_, hz, rfl⟩
  refine wpAny_pyIter_slot ht F.slot_zip_iter (wpAny_call_entry F.slot_zip_iter ht F.entry_zip_iter ?_ (F.args_zip_iter_1 _))
  show wpAny _ _ (ret (.ref z)) _ _ s
  exact wpAny_pure ⟨_, rfl, "zip", _, ht, F.slot_zip_next.lookup, h⟩
end
def icl (t : Bool) : String := cond t "tuple_iterator" "list_iterator"
abbrev g1 (g : Heap) (t : Bool) (u : Addr) : Heap := g.push { cls := .type (icl t), data := .fields #[.ref u, .int 0 0] }
abbrev g2 (g : Heap) (t1 t2 : Bool) (u v : Addr) : Heap := (g1 g t1 u).push { cls := .type (icl t2), data := .fields #[.ref v, .int 0 0] }
abbrev g3 (g : Heap) (t1 t2 : Bool) (u v : Addr) : Heap := (g2 g t1 t2 u v).push { cls := .type "tuple", data := .seq #[.ref g.objs.size, .ref (g1 g t1 u).objs.size] }
abbrev g4 (g : Heap) (t1 t2 : Bool) (u v : Addr) : Heap := (g3 g t1 t2 u v).push { cls := .type "tuple", data := .seq #[.none, .none] }
abbrev g5 (g : Heap) (t1 t2 : Bool) (u v : Addr) : Heap := (g4 g t1 t2 u v).push { cls := .type "zip", data := .fields #[.none, .bool false, .bool true, .ref (g2 g t1 t2 u v).objs.size, .ref (g3 g t1 t2 u v).objs.size] }
theorem meets_new (t1 t2 : Bool) (u v : Addr) (xs ys : Array Value) :
    Meets (Builtin.«zip.__new__» ⟨[.type "zip", .ref u, .ref v], [("strict", .bool true)]⟩) (fun _ R s => Sq t1 s.heap u xs ∧ Sq t2 s.heap v ys ∧ R (.ok (.ret (.ref (g4 s.heap t1 t2 u v).objs.size))) { s with heap := g5 s.heap t1 t2 u v }) :=
  .of_wp fun prog w A R s h => by
    obtain ⟨hp, g, d, tk, os⟩ := s
    obtain ⟨hu, hv, h⟩ := h
    have hsub := sub_zip
    cases t1 <;> cases t2
    · have hL1 : Heap.IsList (Shared.heap ⟨hp, g, d, tk, os⟩) u xs := hu
      have hL2 : Heap.IsList (Shared.heap ⟨hp.push { cls := .type "list_iterator", data := .fields #[.ref u, .int 0 0] }, g, d, tk, os⟩) v ys := Heap.IsList.push hv _
      wp_walk using wpAny_pyIter_list hL1, wpAny_pyIter_list hL2
      exact ⟨_, rfl, h⟩
    · have hL1 : Heap.IsList (Shared.heap ⟨hp, g, d, tk, os⟩) u xs := hu
      have hL2 : Heap.IsTuple (Shared.heap ⟨hp.push { cls := .type "list_iterator", data := .fields #[.ref u, .int 0 0] }, g, d, tk, os⟩) v ys := Heap.IsTuple.push hv _
      wp_walk using wpAny_pyIter_list hL1, wpAny_pyIter_tuple hL2
      exact ⟨_, rfl, h⟩
    · have hL1 : Heap.IsTuple (Shared.heap ⟨hp, g, d, tk, os⟩) u xs := hu
      have hL2 : Heap.IsList (Shared.heap ⟨hp.push { cls := .type "tuple_iterator", data := .fields #[.ref u, .int 0 0] }, g, d, tk, os⟩) v ys := Heap.IsList.push hv _
      wp_walk using wpAny_pyIter_tuple hL1, wpAny_pyIter_list hL2
      exact ⟨_, rfl, h⟩
    · have hL1 : Heap.IsTuple (Shared.heap ⟨hp, g, d, tk, os⟩) u xs := hu
      have hL2 : Heap.IsTuple (Shared.heap ⟨hp.push { cls := .type "tuple_iterator", data := .fields #[.ref u, .int 0 0] }, g, d, tk, os⟩) v ys := Heap.IsTuple.push hv _
      wp_walk using wpAny_pyIter_tuple hL1, wpAny_pyIter_tuple hL2
      exact ⟨_, rfl, h⟩
end ZS
namespace ZS
open PySem
open PySem.Sem (wp)
section
variable {prog : Program} {w : World} {A : Around} {E : Value → Shared → Prop} {s : Shared}
theorem init_meets {T newId : String} {self : Value} {rest : List Value} {kw : List (Str × Value)} (hl : typeLookup (.type T) "__init__" = pure (some (.builtin "object.__init__"))) (hm : Bind.madeBy (.type T) = pure (some newId)) (hne : (some newId != some "object.__new__") = true) (hr : rest ≠ []) :
    Meets (Builtin.«object.__init__» ⟨self :: rest, kw⟩) (fun _ R s => s.TypeIs self T ∧ R (.ok (.ret .none)) s) := by
  refine Meets.of_wp fun prog w A R s ⟨hT, hq⟩ => ?_
  cases rest with
  | nil => exact absurd rfl hr
  | cons a rest =>
    repeat (any_goals (first | assumption | wp_step))
    exact ⟨_, rfl, hq⟩
theorem type_meets {T newId initId : String} {Bn Bi : Builtin} {ps : List Value} {kw : List (Str × Value)} {Sp : Spec} {Q Q₁ : Value → Shared → Prop} (ft : TypeCalled T newId initId) (hct : checkTypeCall T ⟨ps, kw⟩ = pure ()) (hcn : checkBuiltinCall newId ⟨.type T :: ps, kw⟩ = pure ())
    (eN : entryFor table newId = some Bn) (eI : entryFor table initId = some Bi) (g : Meets (Bn ⟨.type T :: ps, kw⟩) Sp) (h : Sp A.in1 (wants Q₁ E) s)
    (next : ∀ obj s₁, Q₁ obj s₁ → s₁.TypeIs obj T ∧ argsOk initId ⟨obj :: ps, kw⟩ ∧ ∃ Si, Meets (Bi ⟨obj :: ps, kw⟩) Si ∧ Si A.in1 (wants (fun r s₂ => r = .none ∧ Q obj s₂) E) s₁) :
    wpAny (model prog w) A (call (.type T) ps kw) Q E s := by
  obtain ⟨c, tl, hmro⟩ := ft.mro
  have hmade := ft.made
  have hsub := ft.sub
  refine wpAny_call (codeAny_of_tree ?_)
  show wpAny _ _ (callAny (.type T) _) _ _ s
  refine wpAny_pure ⟨Code.quiet_builtin _ (by decide +kernel), codeAny_builtin F.entry_type_call ?_⟩
  rw [Around.under_plain (weight_type_call_type T ps kw) (units_type_call_type T ps kw)]
  have k1 := ft.notType
  have k2 := ft.canCreate
  repeat (any_goals (first | assumption | wp_step))
  refine codeAny_mono (codeAny_call_builtin ft.plain eN (wpAny_of_eq hcn (g prog w A.in1 _ s h))) fun r s₁ hr => ?_
  cases r with
  | error e => exact hr
  | ok fl =>
    cases fl with
    | ret obj =>
      obtain ⟨hT, hok, Si, gi, hsi⟩ := next _ _ hr
      have hli := ft.init.lookup
      have hbi := ft.init.bind obj
      repeat (any_goals (first | assumption | wp_step))
      refine codeAny_mono (codeAny_call_builtin ft.init.plain eI (ft.init.check _ _ _ _ _ _ _ _ hT hok (gi prog w A.in1 _ s₁ hsi))) fun r₂ s₂ hr₂ => ?_
      cases r₂ with
      | error e => exact hr₂
      | ok fl₂ =>
        cases fl₂ with
        | ret r =>
          obtain ⟨rfl, hq⟩ := hr₂
          repeat (any_goals (first | assumption | wp_step))
        | _ => exact hr₂.elim
    | _ => exact hr.elim
abbrev kwS : List (Str × Value) := [("strict", .bool true)]
theorem ck_type (a b : Value) : checkTypeCall "zip" ⟨[a, b], kwS⟩ = pure () := by kernel_rfl
theorem ck_new (a b : Value) : checkBuiltinCall "zip.__new__" ⟨[.type "zip", a, b], kwS⟩ = pure () := by kernel_rfl
theorem ck_init (a b c : Value) : argsOk "object.__init__" ⟨[a, b, c], kwS⟩ := by
  unfold argsOk
  rw [signature?_of (id := "object.__init__") (n := ['_', '_', 't', 'i', 'n', 'i', '_', '_']) (o := ['t', 'c', 'e', 'j', 'b', 'o']) (by kernel_rfl) F.owner_object]
  kernel_rfl
theorem call_zs {t1 t2 : Bool} {u v : Addr} {xs ys : Array Value} {Q : Value → Shared → Prop} (q1 : Sq t1 s.heap u xs) (q2 : Sq t2 s.heap v ys)
    (h : ∀ g, IsZs g (s.heap.objs.size + 4) (s.heap.objs.size + 2) (s.heap.objs.size + 3) .none → IsPair g (s.heap.objs.size + 2) (.ref s.heap.objs.size) (.ref (s.heap.objs.size + 1)) → IsPair g (s.heap.objs.size + 3) .none .none → Im t1 g s.heap.objs.size u 0 → Im t2 g (s.heap.objs.size + 1) v 0 →
      (∀ c o, s.heap.get? c = some o → g.get? c = some o) → Q (.ref (s.heap.objs.size + 4)) { s with heap := g }) :
    wpAny (model prog w) A (call (.type "zip") [.ref u, .ref v] kwS) Q E s := by
  refine type_meets (Q₁ := fun obj s₁ => s₁.TypeIs obj "zip" ∧ Q obj s₁) F.called_zip (ck_type _ _) (ck_new _ _) F.entry_zip_new F.entry_object_init (meets_new t1 t2 u v xs ys) ⟨q1, q2, ?_⟩ fun obj _ hq =>
    ⟨hq.1, ck_init obj _ _, _, init_meets F.called_zip.init.lookup F.called_zip.made (by decide) (by simp), hq.1, rfl, hq.2⟩
  have z1 : (g1 s.heap t1 u).objs.size = s.heap.objs.size + 1 := Heap.size_push ..
  have z2 : (g2 s.heap t1 t2 u v).objs.size = s.heap.objs.size + 2 := by rw [Heap.size_push, z1]
  have z3 : (g3 s.heap t1 t2 u v).objs.size = s.heap.objs.size + 3 := by rw [Heap.size_push, z2]
  have z4 : (g4 s.heap t1 t2 u v).objs.size = s.heap.objs.size + 4 := by rw [Heap.size_push, z3]
  have n1 : ∀ t (g : Heap) (a : Addr), (g.push { cls := .type (icl t), data := .fields #[.ref a, .int 0 0] }).get? g.objs.size = some { cls := .type (icl t), data := .fields #[.ref a, .int 0 0] } := fun t g a => Heap.get?_push_size _ rfl
  have im : ∀ t (g : Heap) (p a : Addr), g.get? p = some { cls := .type (icl t), data := .fields #[.ref a, .int 0 0] } → Im t g p a 0 := fun t g p a e => by
    cases t
    · exact ⟨_, e, rfl, rfl⟩
    · exact ⟨_, e, rfl, rfl⟩
  have e5 : (g5 s.heap t1 t2 u v).get? (g4 s.heap t1 t2 u v).objs.size = some _ := Heap.get?_push_size _ rfl
  have e4 : (g5 s.heap t1 t2 u v).get? (g3 s.heap t1 t2 u v).objs.size = some _ := Heap.get?_push_of_some _ (Heap.get?_push_size _ rfl)
  have e3 : (g5 s.heap t1 t2 u v).get? (g2 s.heap t1 t2 u v).objs.size = some _ := Heap.get?_push_of_some _ (Heap.get?_push_of_some _ (Heap.get?_push_size _ rfl))
  have e2 : (g5 s.heap t1 t2 u v).get? (g1 s.heap t1 u).objs.size = some _ := Heap.get?_push_of_some _ (Heap.get?_push_of_some _ (Heap.get?_push_of_some _ (n1 t2 _ v)))
  have e1 : (g5 s.heap t1 t2 u v).get? s.heap.objs.size = some _ := Heap.get?_push_of_some _ (Heap.get?_push_of_some _ (Heap.get?_push_of_some _ (Heap.get?_push_of_some _ (n1 t1 _ u))))
  show _ ∧ _
  rw [z2, z3, z4] at e5
  rw [z1, z2] at e3
  rw [z3] at e4
  rw [z1] at e2
  rw [z4]
  exact ⟨⟨_, e5, rfl⟩, h _ e5 e3 e4 (im t1 _ _ _ e1) (im t2 _ _ _ e2) fun c o e => Heap.get?_push_of_some _ (Heap.get?_push_of_some _ (Heap.get?_push_of_some _ (Heap.get?_push_of_some _ (Heap.get?_push_of_some _ e))))⟩
end
theorem with_type {M : Model} {A : Around} {E : Value → Shared → Prop} {s : Shared} {pos : Pos} {T : String} {first : List Value} {args : List (Bool × Sem Value)} {keywords : List (Option Str × Sem Value)} {Q : Value → Shared → Prop}
    (hp : args.any (·.1) = false) (hk : keywords.any (·.1.isNone) = false) (h : wpAny M A (evalArgs (.type T) true args keywords) (fun a s₁ => wpAny M A (call (.type T) (first ++ a.pos) a.kw) Q E s₁) E s) : wpAny M A (callWith pos (.type T) first args keywords) Q E s := by
  unfold callWith
  refine wpAny_bind (wpAny_holding (wpAny_mono h (fun a s₁ h₁ => wpAny_bind (wpAny_standAt ?_)) fun _ _ x => x))
  simp only [hp, hk, Bool.or_false]
  refine wpAny_bind (wpAny_pure (wpAny_bind (wpAny_mono h₁ (fun r s₂ hr => wpAny_bind (wpAny_holding (wpAny_point (wpAny_pure hr)))) fun _ _ x => x)))
end ZS
namespace ZS
open PySem PySem.Spec PyProof.Rows L2
def SqB (K : PySem.W.Frag) (H : Hp) (t : Bool) (a : Addr) (xs : List V) : Prop := cond t (SqT K H a xs) (SqL K H a xs)
def ItS (K : PySem.W.Frag) (t1 t2 : Bool) (a b : Addr) : It :=
  ⟨fun i H => ∃ (xs ys : List V) (x y : V), SqB K H t1 a xs ∧ SqB K H t2 b ys ∧ xs[i]? = some x ∧ ys[i]? = some y,
    fun i H v H' => ∃ d x y, v = .ref d ∧ H d = none ∧ H' = upd H d (.tup [x, y]) ∧ (∀ xs, SqB K H t1 a xs → xs[i]? = some x) ∧ ∀ ys, SqB K H t2 b ys → ys[i]? = some y,
    fun i H => ∃ xs ys : List V, SqB K H t1 a xs ∧ SqB K H t2 b ys ∧ xs.length ≤ i ∧ ys.length ≤ i⟩
theorem sq_of {X : Cx} {pins : List (Addr × Obj)} {σ : L2.St} {H : Hp} {s : Shared} {t : Bool} {a : Addr} {xs : List V} (I : Inv X pins σ H s) (h : SqB X.K H t a xs) : ∃ its : List Value, Vals xs its ∧ Sq t s.heap a its.toArray ∧ a < s.heap.objs.size := by
  cases t with
  | false =>
    obtain ⟨its, rv, p, _⟩ := I.list h
    exact ⟨its, rv, p.isList, p.lt⟩
  | true =>
    obtain ⟨its, rv, p, _⟩ := I.tuple h
    exact ⟨its, rv, p, by obtain ⟨o, e, _⟩ := p; exact Heap.lt_size e⟩
theorem sq_inj {X : Cx} {pins : List (Addr × Obj)} {σ : L2.St} {H : Hp} {s : Shared} {t : Bool} {a : Addr} {xs ys : List V} (I : Inv X pins σ H s) (h : SqB X.K H t a xs) (h2 : SqB X.K H t a ys) : xs = ys := by
  cases t with
  | false => exact I.list_inj h h2
  | true => exact I.tuple_inj h h2
theorem ap_of (n u v : Addr) (hu : u < n) (hv : v < n) : Ap (n + 4) (n + 2) (n + 3) n (n + 1) u v := by
  have D := PySem.W.ktu_apart n u v hu hv
  exact ⟨D.TIz, D.TOz, D.i1z, D.i2z, D.TITO, D.TIi1, D.TIi2, D.TOi1, D.TOi2, D.i12, D.l1z, D.l1TO, D.l1i1, D.l1i2, D.l2z, D.l2TO, D.l2i1, D.l2i2⟩
theorem turn {P : Program} {w : World} {K : PySem.W.Frag} {elts : List Expr} {kk : Nat} {tpos : Pos} {t1 t2 : Bool} {a b z ti to p r : Addr} (D : Ap z ti to p r a b) :
    Turn P w K (.Tuple elts kk tpos) (ItS K t1 t2 a b) [z, ti, to, p, r] z (fun i h => IsZs h z ti to .none ∧ IsPair h ti (.ref p) (.ref r) ∧ (∃ x y, IsPair h to x y) ∧ Im t1 h p a i ∧ Im t2 h r b i) where
  mem := by simp
  obj := fun i h ⟨hz, hti, ⟨x, y, hto⟩, h1, h2⟩ c hc => by
    have e' : c = z ∨ c = ti ∨ c = to ∨ c = p ∨ c = r := by simpa using hc
    rcases e' with q | q | q | q | q
    · rw [q]; exact ⟨_, hz, fun v q => nomatch q⟩
    · rw [q]; exact ⟨_, hti, fun v q => nomatch q⟩
    · rw [q]; exact ⟨_, hto, fun v q => nomatch q⟩
    · rw [q]; exact h1.obj
    · rw [q]; exact h2.obj
  keep := fun i h h' ⟨hz, hti, ⟨x, y, hto⟩, h1, h2⟩ k => ⟨k z (by simp) _ hz, k ti (by simp) _ hti, ⟨x, y, k to (by simp) _ hto⟩, h1.at fun o q => k p (by simp) o q, h2.at fun o q => k r (by simp) o q⟩
  item := by
    intro X hP hw hK hc i pins s σ H E I hf st hg
    subst hP hw hK
    obtain ⟨hz, hti, ⟨x0, y0, hto⟩, h1, h2⟩ := st
    obtain ⟨xs, ys, x, y, hqx, hqy, hx, hy⟩ := hg
    obtain ⟨its, rv, w1, _⟩ := sq_of I hqx
    obtain ⟨its2, rv2, w2, _⟩ := sq_of I hqy
    obtain ⟨u, hu, ru⟩ := rv.get hx
    obtain ⟨u2, hu2, ru2⟩ := rv2.get hy
    have lz : z < s.heap.objs.size := Heap.lt_size hz
    refine next_item D hz hti hto h1 h2 w1 w2 (x := u) (y := u2) (by simpa using hu) (by simpa using hu2) fun g z' to' k1 k2 hT hsz hk => ?_
    refine ⟨_, rfl, let_go (s := { s with heap := g }) z' fun g2 z'' sb => ?_⟩
    have hT2 : g2.get? s.heap.objs.size = some { cls := .type "tuple", data := .seq #[u, u2] } := (sb.2 _ (Nat.ne_of_gt lz)).trans hT
    have new : ObjOk X.prog X.w (upd H s.heap.objs.size (.tup [x, y])) g2 s.heap.objs.size (.tup [x, y]) := ⟨(by show 2 ≤ sizeLine; decide), [u, u2], .cons ru (.cons ru2 .nil), ⟨_, hT2, rfl, _, rfl⟩⟩
    have I1 : Inv X pins σ (upd H s.heap.objs.size (.tup [x, y])) { s with heap := g2 } :=
      I.turnedNew (t' := s.toks) (ch := [z, ti, to, p, r]) (fun c o hb q => (sb.2 c (fun q' => hb (by simp [q']))).trans (hk c o (fun q' => hb (by simp [q'])) (fun q' => hb (by simp [q'])) (fun q' => hb (by simp [q'])) (fun q' => hb (by simp [q'])) q)) hf (Nat.le_refl _) new
    refine ⟨.ref s.heap.objs.size, _, I1, rfl, ⟨_, x, y, rfl, I.hok.fresh (Nat.le_refl _), rfl, fun l hl => by rw [sq_inj I hl hqx]; exact hx, fun l hl => by rw [sq_inj I hl hqy]; exact hy⟩, ⟨z'', ?_, ⟨u, u2, ?_⟩, ?_, ?_⟩, fun c hcm => ?_⟩
    · exact (sb.2 _ D.a1).trans (hk _ _ D.a1 D.a5 D.a6 D.a7 hti)
    · exact (sb.2 _ D.a2).trans to'
    · exact k1.at fun o q => (sb.2 _ D.a3).trans q
    · exact k2.at fun o q => (sb.2 _ D.a4).trans q
    · have hlt : c < s.heap.objs.size := by
        have e' : c = z ∨ c = ti ∨ c = to ∨ c = p ∨ c = r := by simpa using hcm
        rcases e' with q | q | q | q | q
        · rw [q]; exact lz
        · rw [q]; exact Heap.lt_size hti
        · rw [q]; exact Heap.lt_size hto
        · rw [q]; obtain ⟨_, e1, _⟩ := h1.obj; exact Heap.lt_size e1
        · rw [q]; obtain ⟨_, e1, _⟩ := h2.obj; exact Heap.lt_size e1
      rw [upd_ne (Nat.ne_of_lt hlt)]
      exact (hf c hcm).1
  done := by
    intro X hP hw hK hc i pins s σ H E I hf st hg
    subst hP hw hK
    obtain ⟨hz, hti, ⟨x0, y0, hto⟩, h1, h2⟩ := st
    obtain ⟨xs, ys, hqx, hqy, e1, e2⟩ := hg
    obtain ⟨its, rv, w1, _⟩ := sq_of I hqx
    obtain ⟨its2, rv2, w2, _⟩ := sq_of I hqy
    have l1 := rv.length
    have l2 := rv2.length
    exact next_end (I.ok.hd hc) D hz hti hto h1 h2 w1 w2 (by simp; omega) (by simp; omega) fun g hk => ⟨rfl, I.turnedL (t' := s.toks) (ch := [z, ti, to, p, r]) (fun c o hb q =>
      hk c o (fun q' => hb (by simp [q'])) (fun q' => hb (by simp [q'])) (fun q' => hb (by simp [q'])) (fun q' => hb (by simp [q'])) q) hf⟩
  self := fun A i s Q E st h => iter_self st.1 h
def iZs (K : PySem.W.Frag) (ta tk : TA) : TI := fun σ H R => ta σ H fun vs H1 => tk σ H1 fun zs H2 => ∃ a b xs ys t1 t2, vs = [.ref a, .ref b] ∧ zs = [.bl true] ∧ SqB K H2 t1 a xs ∧ SqB K H2 t2 b ys ∧ R (ItS K t1 t2 a b) H2
theorem pi_zs {X : Cx} {e e2 : Expr} {ta tk : TA} {p pos tpos : Pos} {elts : List Expr} {kk : Nat} {kws : List Keyword} (hg : Gl X "zip") (hm : X.mg "zip" = none) (ha : PA X [e, e2] ta) (hk : PK X kws tk)
    (he : backTo pos (starEach [e, e2] X.env) = (false, eval e X.env) :: backTo pos (starEach [e2] X.env) := by rfl) (hpl : (backTo pos (starEach [e, e2] X.env)).any (·.1) = false := by rfl)
    (hall : (backToKw pos (keywordEach kws X.env)).all (·.1.isSome) = true := by rfl) (hnone : (backToKw pos (keywordEach kws X.env)).any (·.1.isNone) = false := by rfl) (hks : (backToKw pos (keywordEach kws X.env)).filterMap (·.1) = ([("strict" : Str)] : List Str) := by rfl) :
    PI X (.Tuple elts kk tpos) (.Call (.Name "zip" p) [e, e2] kws pos) (iZs X.K ta tk) := by
  refine ⟨fun pins s σ H R I h => ?_⟩
  refine wpAny_Call_Name_kw (ld_blt I hg hm PyProof.Rows.boot_zip ?_ (by decide) (by decide))
  refine with_type hpl hnone ?_
  rw [he]
  refine evalArgs_kwB hall ?_
  rw [← he]
  refine thn (ha.run pos pins s σ H _ I h) fun us s1 ⟨vs, H1, I1, r1, q1⟩ => thn (hk.run pos pins s1 σ H1 _ I1 q1) fun ws s2 ⟨zs, H2, I2, r2, q2⟩ => ?_
  rw [hks]
  obtain ⟨a, b, xs, ys, t1, t2, ex, ez, hqx, hqy, q⟩ := q2
  subst ex ez
  cases r1 with
  | cons r rr =>
    cases rr with
    | cons r' rr =>
      cases rr
      cases r
      cases r'
      cases r2 with
      | cons r3 rr =>
        cases rr
        cases r3
        obtain ⟨its, rv, w1, la⟩ := sq_of I2 hqx
        obtain ⟨its2, rv2, w2, lb⟩ := sq_of I2 hqy
        refine call_zs w1 w2 fun g hz hti hto h1 h2 hk => iter_self hz ?_
        have I3 : Inv X pins σ H2 { s2 with heap := g } := I2.kept (t' := s2.toks) hk
        refine ⟨s2.heap.objs.size + 4, [s2.heap.objs.size + 4, s2.heap.objs.size + 2, s2.heap.objs.size + 3, s2.heap.objs.size, s2.heap.objs.size + 1], _, _, H2, rfl, I3, turn (ap_of s2.heap.objs.size a b la lb), ⟨hz, hti, ⟨_, _, hto⟩, h1, h2⟩, fun c hcm => ?_, q⟩
        have e' : c = s2.heap.objs.size + 4 ∨ c = s2.heap.objs.size + 2 ∨ c = s2.heap.objs.size + 3 ∨ c = s2.heap.objs.size ∨ c = s2.heap.objs.size + 1 := by simpa using hcm
        have hle : s2.heap.objs.size ≤ c := by rcases e' with z | z | z | z | z <;> (rw [z]; first | exact Nat.le_add_right _ _ | exact Nat.le_refl _)
        exact I2.fpOk hle (I2.hok.fresh hle)
end ZS
namespace DL
open PySem PySem.Spec PyProof.Rows L2 ZS
variable [Tb]
def seqV : D → Option (Bool × List P)
  | .v (.lst ps) => some (false, ps)
  | .v (.frz ps) => some (false, ps)
  | .v (.tup ps) => some (true, ps)
  | _ => none
section
variable {K : PySem.W.Frag} {m m2 : Mp} {G G2 H H2 : Hp} {t : Bool} {a : Addr} {xs : List V} {ps qs : List P}
theorem sqB_mono (e : Exh G G2) (h : SqB K G t a xs) : SqB K G2 t a xs := by
  cases t
  · exact sqL_mono e h
  · exact sqT_mono e h
theorem seqV_is {d : D} {v : V} (h : seqV d = some (t, ps)) (i : IsD K m G d v) : ∃ a xs, v = .ref a ∧ SqB K G t a xs ∧ IsAll K G ps xs := by
  unfold seqV at h
  split at h
  · cases h
    obtain ⟨a, xs, h1, h2, h3⟩ := i
    exact ⟨a, xs, h1, .of h2, h3⟩
  · cases h
    obtain ⟨a, xs, h1, h2, h3⟩ := i
    exact ⟨a, xs, h1, h2, h3⟩
  · cases h
    obtain ⟨a, xs, h1, h2, h3⟩ := i
    exact ⟨a, xs, h1, h2, h3⟩
  · cases h
def prs (ps qs : List P) : List P := List.zipWith (fun a b => .tup [a, b]) ps qs
theorem prs_at {i : Nat} {p : P} (h : (prs ps qs)[i]? = some p) : ∃ x y, ps[i]? = some x ∧ qs[i]? = some y ∧ p = .tup [x, y] := by
  unfold prs at h
  rw [List.getElem?_zipWith] at h
  cases hx : ps[i]? with
  | none => rw [hx] at h; cases h
  | some x =>
    cases hy : qs[i]? with
    | none => rw [hx, hy] at h; cases h
    | some y =>
      rw [hx, hy] at h
      exact ⟨x, y, rfl, rfl, (Option.some.inj h).symm⟩
theorem pair_new {d : Addr} {vx vy : V} {x y : P} {S2 : Sto} (R : Rel K m2 H2 S2) (hd : H2 d = none) (h1 : Is K (mask m2 H2) x vx) (h2 : Is K (mask m2 H2) y vy) :
    Rel K m2 (upd H2 d (.tup [vx, vy])) S2 ∧ Stp m2 H2 m2 (upd H2 d (.tup [vx, vy])) ∧ Is K (mask m2 (upd H2 d (.tup [vx, vy]))) (.tup [x, y]) (.ref d) ∧ ∀ b o, H2 b = some o → upd H2 d (.tup [vx, vy]) b = some o := by
  obtain ⟨R2, st2⟩ := R.fresh (o := .tup [vx, vy]) hd
  refine ⟨R2, st2, ⟨d, [vx, vy], rfl, .inl (.inl ?_), ⟨vx, [vy], rfl, st2.val h1, ⟨vy, [], rfl, st2.val h2, rfl⟩⟩⟩, fun b o e => ?_⟩
  · rw [mask_upd (R.out hd)]
    exact upd_same
  · rw [upd_ne (ne_of_none e hd)]
    exact e
theorem itd_zs {t1 t2 : Bool} {a b : Addr} {xs ys : List V} (hl : ps.length = qs.length) (h1 : SqB K (mask m H) t1 a xs) (h2 : SqB K (mask m H) t2 b ys) (i1 : IsAll K (mask m H) ps xs) (i2 : IsAll K (mask m H) qs ys) : ItD K m H (ItS K t1 t2 a b) (prs ps qs) none where
  go := fun i p m2 H2 S2 hp w R o => by
    obtain ⟨x, y, hx, hy, rfl⟩ := prs_at hp
    have k1 := sqB_mono (mask_ex m2 H2) (sqB_mono w.ex h1)
    have k2 := sqB_mono (mask_ex m2 H2) (sqB_mono w.ex h2)
    obtain ⟨vx, e1, j1⟩ := (IsAll.mono w.ex _ _ i1).get hx
    obtain ⟨vy, e2, j2⟩ := (IsAll.mono w.ex _ _ i2).get hy
    refine ⟨⟨xs, ys, vx, vy, k1, k2, e1, e2⟩, fun z H3 hy => ?_⟩
    obtain ⟨d, ux, uy, rfl, hd, rfl, f1, f2⟩ := hy
    have g1 := f1 xs k1
    have g2 := f2 ys k2
    rw [e1] at g1
    rw [e2] at g2
    cases g1
    cases g2
    exact pair_new R hd j1 j2
  stop := fun i m2 H2 S2 hi w R o => by
    have k1 := sqB_mono (mask_ex m2 H2) (sqB_mono w.ex h1)
    have k2 := sqB_mono (mask_ex m2 H2) (sqB_mono w.ex h2)
    unfold prs at hi
    rw [List.length_zipWith] at hi
    exact ⟨xs, ys, k1, k2, by rw [← i1.len]; omega, by rw [← i2.len]; omega⟩
end
def two (ds : List D) : Option ((Bool × List P) × (Bool × List P)) := match ds with
  | [d, e] => match seqV d, seqV e with
    | some x, some y => some (x, y)
    | _, _ => none
  | _ => none
theorem two_is {K : PySem.W.Frag} {m : Mp} {G : Hp} {ds : List D} {vs : List V} {t1 t2 : Bool} {ps qs : List P} (h : two ds = some ((t1, ps), (t2, qs))) (i : IsDs K m G ds vs) :
    ∃ a b xs ys, vs = [.ref a, .ref b] ∧ SqB K G t1 a xs ∧ SqB K G t2 b ys ∧ IsAll K G ps xs ∧ IsAll K G qs ys := by
  unfold two at h
  split at h
  · rename_i d e
    split at h
    · rename_i x y hx hy
      cases h
      obtain ⟨v, r, rfl, i1, w, r2, rfl, i2, rfl⟩ := i
      obtain ⟨a, xs, rfl, j1, j2⟩ := seqV_is hx i1
      obtain ⟨b, ys, rfl, j3, j4⟩ := seqV_is hy i2
      exact ⟨a, b, xs, ys, rfl, j1, j3, j2, j4⟩
    · cases h
  · cases h
def iZpS (g gk : FA) : FI := fun env S => (g env S).bind fun ds S1 => (gk env S1).bind fun es S2 => match es with
  | [.v (.bl true)] => match two ds with
    | some ((_, ps), (_, qs)) => if ps.length = qs.length then .ok (prs ps qs, none) S2 else .bad
    | none => .bad
  | _ => .bad
section
variable {X : Cx} {e e2 : Expr} {p pos tpos : Pos} {elts : List Expr} {kk : Nat} {kws : List Keyword} {g gk : FA}
theorem i_zpS (hm : X.mg "zip" = none) (ha : PAd X [e, e2] g) (hk : PKd X kws gk) (hg : Gl X "zip" := by rfl) (he : backTo pos (starEach [e, e2] X.env) = (false, eval e X.env) :: backTo pos (starEach [e2] X.env) := by rfl) (hpl : (backTo pos (starEach [e, e2] X.env)).any (·.1) = false := by rfl)
    (hall : (backToKw pos (keywordEach kws X.env)).all (·.1.isSome) = true := by rfl) (hnone : (backToKw pos (keywordEach kws X.env)).any (·.1.isNone) = false := by rfl) (hks : (backToKw pos (keywordEach kws X.env)).filterMap (·.1) = ([("strict" : Str)] : List Str) := by rfl) :
    PId X (.Tuple elts kk tpos) (.Call (.Name "zip" p) [e, e2] kws pos) (iZpS g gk) := pi_weak (pi_zs hg hm ha hk he hpl hall hnone hks) fun σ H W ⟨m, env, S, R, E, ps, own, S', e1, q⟩ => by
  obtain ⟨ds, S1, k1, e2⟩ := Oc.bind_eq e1
  obtain ⟨es, S2, k2, e3⟩ := Oc.bind_eq e2
  refine ⟨m, env, S, R, E, ds, S1, k1, fun vs m1 H1 st1 R1 i1 => ⟨m1, env, S1, R1, E.step st1, es, S2, k2, fun zs m2 H2 st2 R2 i2 => ?_⟩⟩
  split at e3
  · split at e3
    · rename_i t1 pp t2 qq hw
      split at e3
      · rename_i hl
        cases e3
        obtain ⟨a, b, xs, ys, rfl, j1, j2, j3, j4⟩ := two_is hw (st2.ids i1)
        obtain ⟨z, r, rfl, hz, rfl⟩ := i2
        refine ⟨a, b, xs, ys, t1, t2, rfl, congrArg (fun v => [v]) hz, sqB_mono (mask_ex _ _) j1, sqB_mono (mask_ex _ _) j2, q m2 H2 _ (st1.trans st2) R2 (itd_zs hl j1 j2 j3 j4)⟩
      · cases e3
    · cases e3
  · cases e3
end
theorem prs_zip {α β : Type} {xs : List α} {ys : List β} {f : α → P} {g : β → P} : prs (xs.map f) (ys.map g) = (xs.zip ys).map fun z => .tup [f z.1, g z.2] := by
  unfold prs
  rw [List.zipWith_map, List.map_zip_eq_zipWith]
  rfl
section
variable {α β : Type} {xs : List α} {ys : List β} {f : α → P} {h : β → P} {g gk : FA} {env : Dnv} {S S1 S2 : Sto} {ds es : List D} {t1 t2 : Bool}
theorem e_zpS (h1 : g env S = .ok ds S1) (h2 : gk env S1 = .ok [.v (.bl true)] S2) (h3 : two ds = some ((t1, xs.map f), (t2, ys.map h))) (hl : xs.length = ys.length) : iZpS g gk env S = .ok ((xs.zip ys).map (fun z => P.tup [f z.1, h z.2]), none) S2 := by
  unfold iZpS
  rw [h1]
  simp only [Oc.bind_ok]
  rw [h2]
  simp only [Oc.bind_ok]
  rw [h3]
  show (if _ then _ else _ : Oc (List P × Own)) = _
  rw [if_pos (by simpa using hl), prs_zip]
end
end DL
namespace SX
open PySem PySem.Spec L2
abbrev TK (P : Program) (w : World) := PySem.strKind P w
abbrev fresh0 (w : World) : Obj := { cls := .type "set", dict := none, data := .set #[] 0 (.fresh 0 0 (!w.params.followText "set-order")) }
def keyT (e : Int × Value) : Str := match e.2 with | .str k _ => k | _ => Str.empty
def GoodT (w : World) (e : Int × Value) : Prop := ∃ k u, e.2 = Value.str k u ∧ e.1 = hashStr w k
def SetT (w : World) (g : Heap) (a : Addr) (M : Str → Prop) (n : Nat) : Prop :=
  ∃ o es ep t, g.get? a = some o ∧ o.ExactSet ∧ o.data = .set es ep t ∧ (∀ e ∈ es.toList, GoodT w e) ∧ (es.toList.map keyT).Nodup ∧ (∀ k, M k ↔ k ∈ es.toList.map keyT) ∧ es.size < scanBound ∧ t.fits es.size = true ∧ es.size = n ∧ Ris t.place.toList ∧ (w.params.followText "set-order" = true ∨ t.led = true)
section
variable {P : Program} {w : World} {g g' : Heap} {a : Addr} {M : Str → Prop} {n : Nat}
theorem SetT.at (R : SetT w g a M n) (k : ∀ o, g.get? a = some o → g'.get? a = some o) : SetT w g' a M n := by
  obtain ⟨o, es, ep, t, ho, r⟩ := R
  exact ⟨o, es, ep, t, k o ho, r⟩
theorem SetT.congr {M' : Str → Prop} (R : SetT w g a M n) (e : ∀ k, M' k ↔ M k) : SetT w g a M' n := by
  have q : M' = M := funext fun k => propext (e k)
  rw [q]
  exact R
theorem is_t (k : Str) (u : Tok) : (TK P w).is k (.str k u) = true := by
  show Value.isStrOf k (.str k u) = true
  simp [Value.isStrOf]
theorem el_of {l : List (Int × Value)} (q : ∀ e ∈ l, GoodT w e) : ElemsOf (TK P w) l := fun e he => by
  obtain ⟨k, u, h1, h2⟩ := q e he
  exact ⟨⟨k, by rw [h1]; exact is_t k u, h2⟩, by rw [h1] <;> rfl⟩
theorem is_iff {e : Int × Value} (q : GoodT w e) (k : Str) : (TK P w).is k e.2 = true ↔ keyT e = k := by
  obtain ⟨k0, u, h1, _⟩ := q
  unfold keyT
  rw [h1]
  exact ⟨fun h => (TK P w).inj (.str k0 u) k0 k (is_t k0 u) h, fun h => h ▸ is_t k0 u⟩
theorem key_iff {l : List (Int × Value)} (q : ∀ e ∈ l, GoodT w e) (k : Str) : k ∈ l.map keyT ↔ ∃ e ∈ l, (TK P w).is k e.2 = true := by
  rw [List.mem_map]
  exact ⟨fun ⟨e, he, z⟩ => ⟨e, he, (is_iff (q e he) k).2 z⟩, fun ⟨e, he, z⟩ => ⟨e, he, (is_iff (q e he) k).1 z⟩⟩
theorem SetT.new (ho : g.get? a = some (fresh0 w)) : SetT w g a (fun _ => False) 0 :=
  ⟨_, #[], 0, _, ho, ⟨rfl, rfl, rfl⟩, rfl, (fun e he => by simp at he), (by simp), (fun k => by simp), (by decide), (by rfl), rfl, List.Pairwise.nil, by
    show _ ∨ (!w.params.followText "set-order") = true
    cases w.params.followText "set-order"
    · exact .inr rfl
    · exact .inl rfl⟩
end
section
variable {P : Program} {w : World} {A : Around} {E : Value → Shared → Prop} {s : Shared} {a : Addr} {M : Str → Prop} {n : Nat}
theorem tail {f : Bool → Sem Unit} (hf : ∀ (b : Bool) (s₁ : Shared) (Q' : Unit → Shared → Prop), Q' () s₁ → wpAny (model P w) A (f b) Q' E s₁) {o : Obj} {es : Array (Int × Value)} {ep : Nat} {t : SetTable} (ho : s.heap.get? a = some o) (hex : o.ExactSet) (hd : o.data = .set es ep t)
    {e1 : Array (Int × Value)} {t1 : SetTable} {M' : Str → Prop} (q1 : ∀ e ∈ e1.toList, GoodT w e) (n1 : (e1.toList.map keyT).Nodup) (m1 : ∀ k, M' k ↔ k ∈ e1.toList.map keyT) (b1 : e1.size < scanBound) (f1 : t1.fits e1.size = true) (r1 : Ris t1.place.toList) (l1 : w.params.followText "set-order" = true ∨ t1.led = true)
    {dm : Bool} {R : Option Bool → Shared → Prop} (hR : ∀ g, Heap.SameBut a s.heap g → SetT w g a M' e1.size → R (some true) { s with heap := g }) :
    wpAny (model P w) A (do
        storeSet a e1 t1
        if (!dm && t1.tooFull) = true then do
            f (relayAll t1 e1 (SetTable.grown e1.size)).2.2
            storeSet a (relayAll t1 e1 (SetTable.grown e1.size)).1 (relayAll t1 e1 (SetTable.grown e1.size)).2.1
            pure (some true)
          else pure (some true)) R E s := by
  refine wpAny_bind (wpAny_storeSet_of ho hd ?_ (fits_of_scanBound b1))
  have ho1 := store_at (es' := e1) (t' := t1) ho hd
  have sb := Heap.SameBut.update s.heap a (Obj.putSet e1 t1)
  split
  · have pm := relayAll_perm t1 e1 (SetTable.grown e1.size)
    have k1 := relayAll_fits t1 e1 (SetTable.grown e1.size)
    have k2 := relayAll_ris t1 e1 (SetTable.grown e1.size)
    have k3 := relayAll_led t1 e1 (SetTable.grown e1.size)
    generalize relayAll t1 e1 (SetTable.grown e1.size) = Z at pm k1 k2 k3 ⊢
    obtain ⟨e2, t2, gv⟩ := Z
    dsimp only at pm k1 k2 k3 ⊢
    have hsz : e2.size = e1.size := by rw [← Array.length_toList, pm.length_eq, Array.length_toList]
    have b2 : e2.size < scanBound := hsz ▸ b1
    refine wpAny_bind (hf _ _ _ (wpAny_bind (wpAny_storeSet_of ho1 rfl ?_ (fits_of_scanBound b2))))
    have ho2 := store_at (es' := e2) (t' := t2) ho1 rfl
    refine wpAny_pure (hR _ (sb.trans (Heap.SameBut.update _ a _)) ?_)
    exact ⟨_, e2, _, t2, ho2, hex, rfl, fun e he => q1 e (pm.mem_iff.mp he), (pm.map keyT).nodup_iff.mpr n1, fun k => (m1 k).trans (pm.map keyT).mem_iff.symm, b2, k1, hsz, k2, l1.imp id fun z => by rw [k3]; exact z⟩
  · exact wpAny_pure (hR _ sb ⟨_, e1, _, t1, ho1, hex, rfl, q1, n1, m1, b1, f1, rfl, r1, l1⟩)
theorem add {k : Str} {u : Tok} {Q : Bool → Shared → Prop} (R : SetT w s.heap a M n) (room : n + 1 < scanBound)
    (hQ : ∀ g c b, Heap.SameBut a s.heap g → c ≤ n + 1 → SetT w g a (fun j => M j ∨ j = k) c → Q b { s with heap := g }) : wpAny (model P w) A (setAddHashed a (.str k u) ((TK P w).hash k)) Q E s := by
  obtain ⟨o, es, ep, t, ho, hex, hd, q, nd, hm, hb, hf, hn, hr, hl⟩ := R
  have hkey : (TK P w).is k (.str k u) = true := is_t k u
  have hsc : (Value.str k u).scannable = true := rfl
  have hel : ElemsOf (TK P w) es.toList := el_of q
  unfold setAddHashed setAddHashedIn
  refine wpAny_holding (wpAny_bind (wpAny_setState_of ho hd hf ?_))
  dsimp only
  rw [byScan_of hsc hb hel]
  simp only [↓reduceIte]
  unfold setAddByScan
  refine wpAny_bind (wpAny_bind (wpAny_rule (wpAny_bind (wpAny_setScan_of hkey ho hd hf hel ?_))))
  cases hfi : List.findIdx? (fun e => (TK P w).is k e.2) es.toList with
  | some j =>
    dsimp only
    obtain ⟨hj, pj, _⟩ := List.findIdx?_eq_some_iff_getElem.mp hfi
    have hk : M k := (hm k).2 ((key_iff (P := P) (w := w) q k).2 ⟨es.toList[j], List.getElem_mem hj, pj⟩)
    refine wpAny_pure (wpAny_pure (hQ s.heap n _ (Heap.SameBut.refl a s.heap) (Nat.le_succ _) ⟨o, es, ep, t, ho, hex, hd, q, nd, fun i => ?_, hb, hf, hn, hr, hl⟩))
    rw [← hm i]
    exact ⟨fun z => z.elim id fun e => e ▸ hk, .inl⟩
  | none =>
    dsimp only
    have hnk : k ∉ es.toList.map keyT := fun z => by
      obtain ⟨e, he, z⟩ := (key_iff (P := P) (w := w) q k).1 z
      have c := List.findIdx?_eq_none_iff.mp hfi e he
      rw [z] at c
      cases c
    have hgv : ∀ (b : Bool) {s₁ : Shared} {Q' : Unit → Shared → Prop}, Q' () s₁ → wpAny (model P w) A (match b with | true => rule "set.scan.the-table-gave-way" | false => pure ()) Q' E s₁ := fun b s₁ Q' z => by cases b <;> first | exact wpAny_pure z | exact wpAny_rule z
    have pm := layNew_perm t es ((TK P w).hash k) (.str k u)
    have f1 := layNew_fits t es ((TK P w).hash k) (.str k u)
    have r1 := layNew_ris t es ((TK P w).hash k) (.str k u) hr
    have l1 := layNew_led t es ((TK P w).hash k) (.str k u)
    generalize layNew t es ((TK P w).hash k) (.str k u) = Z at pm f1 r1 l1 ⊢
    obtain ⟨e1, t1, dm, gv⟩ := Z
    dsimp only at pm f1 r1 l1 ⊢
    rw [Array.toList_push] at pm
    have pc : e1.toList.Perm (((TK P w).hash k, Value.str k u) :: es.toList) := pm.trans (List.perm_append_singleton _ _)
    have pk : (e1.toList.map keyT).Perm (k :: es.toList.map keyT) := pc.map keyT
    have q1 : ∀ e ∈ e1.toList, GoodT w e := fun e he => by
      rcases List.mem_cons.mp (pc.mem_iff.mp he) with z | z
      · rw [z]
        exact ⟨k, u, rfl, rfl⟩
      · exact q e z
    have n1 : (e1.toList.map keyT).Nodup := pk.nodup_iff.mpr (List.nodup_cons.mpr ⟨hnk, nd⟩)
    have m1 : ∀ i, (M i ∨ i = k) ↔ i ∈ e1.toList.map keyT := fun i => by
      rw [hm i, pk.mem_iff, List.mem_cons]
      exact Or.comm
    have hsz : e1.size = n + 1 := by rw [← Array.length_toList, pc.length_eq, List.length_cons, Array.length_toList, hn]
    have b1 : e1.size < scanBound := hsz ▸ room
    have hled : w.params.followText "set-order" = true ∨ t1.led = true := hl.imp id fun z => by rw [l1]; exact z
    have fin : ∀ g, Heap.SameBut a s.heap g → SetT w g a (fun j => M j ∨ j = k) e1.size → Q true { s with heap := g } := fun g sb z => hQ g _ _ sb (Nat.le_of_eq hsz) z
    refine wpAny_bind (hgv _ ?_)
    split
    · refine wpAny_bind ?_
      rw [hashByValue_scannable 8 hsc]
      refine wpAny_pure (tail ?_ ho hex hd q1 n1 m1 b1 ?_ ?_ ?_ ?_)
      · exact fun b s₁ Q' z => by cases b <;> first | exact wpAny_pure z | exact wpAny_rule z
      · first | (split <;> first | exact f1 | exact SetTable.fits_plain_off f1) | exact f1
      · first | (split <;> exact r1) | exact r1
      · first | (split <;> exact hled) | exact hled
      · exact fun g sb z => wpAny_pure (fin g sb z)
    · refine wpAny_bind (wpAny_pure ?_)
      simp only [↓reduceIte]
      refine tail ?_ ho hex hd q1 n1 m1 b1 f1 r1 hled ?_
      · exact fun b s₁ Q' z => by cases b <;> first | exact wpAny_pure z | exact wpAny_rule z
      · exact fun g sb z => wpAny_pure (fin g sb z)
theorem update {I : Addr} {fp wr : List Addr} {G : Array GenState → Array GenState → Prop} {n : Nat} {Pv : Nat → Value → Prop} {St : Nat → Shared → Prop} {R : Result → Shared → Prop} (W : WalksS P w A.in1 I fp wr G n Pv St) (S : Addr) (hSf : S ∉ fp) (xs : List Str) (hn : n = xs.length) (hb : xs.length + 1 < scanBound)
    (hval : ∀ i v, Pv i v → ∃ k t, xs[i]? = some k ∧ v = .str k t) :
    ∀ (k i : Nat) (s : Shared), n - i = k → i ≤ n → St i s → (∃ c, c ≤ i ∧ SetT w s.heap S (fun j => j ∈ xs.take i) c) →
      (∀ s' c, Moved (S :: wr) G s s' → c ≤ n → SetT w s'.heap S (fun j => j ∈ xs) c → R (.ok (.ret .none)) s') → codeAny (model P w) A (.builtin "set.update.loop" ⟨[.ref S, .ref I], []⟩) R s := by
  have hSw : S ∉ wr := fun h => hSf (W.sub _ h)
  have up : ∀ b ∈ wr, b ∈ S :: wr := fun b hb => List.mem_cons_of_mem _ hb
  intro k
  induction k with
  | zero =>
    intro i s hk' hi hst ⟨c, hc, hS⟩ hR
    have hin : i = n := by omega
    subst hin
    refine codeAny_builtin PyProof.Rows.F.entry_set_update_loop ?_
    rw [Around.under_plainId PyProof.Rows.F.plain_set_update_loop _]
    show wpAny _ A.in1 (pyNext (.ref I) >>= _) _ _ s
    refine wpAny_bind (W.done s _ _ hst fun s' hm => ?_)
    show wpAny _ A.in1 (ret Value.none) _ _ s'
    rw [List.take_of_length_le (by omega)] at hS
    exact wpAny_pure (hR s' c (hm.mono up) hc (hS.at fun o e => hm.heap S o hSw e))
  | succ k ih =>
    intro i s hk' hi hst ⟨c, hc, hS⟩ hR
    have hlt : i < n := by omega
    refine codeAny_builtin PyProof.Rows.F.entry_set_update_loop ?_
    rw [Around.under_plainId PyProof.Rows.F.plain_set_update_loop _]
    show wpAny _ A.in1 (pyNext (.ref I) >>= _) _ _ s
    refine wpAny_bind (W.item i s _ _ hlt hst fun v s' hP hst' hm => ?_)
    obtain ⟨z, t, hz, rfl⟩ := hval i v hP
    have hS' : SetT w s'.heap S (fun j => j ∈ xs.take i) c := hS.at fun o e => hm.heap S o hSw e
    show wpAny _ A.in1 (holding [Value.str z t] (setAdd S (.str z t)) >>= _) _ _ s'
    refine wpAny_bind (wpAny_holding ?_)
    unfold setAdd
    refine wpAny_holding (wpAny_bind ((TK P w).pyHash (k := z) (is_t _ _) ?_))
    refine add (s := { s' with toks := s'.toks + 1 }) hS' (by omega) fun g c2 b2 sb hc2 hS2 => ?_
    have hS3 : SetT w g S (fun j => j ∈ xs.take (i + 1)) c2 := hS2.congr fun j => by
      rw [List.take_add_one, hz]
      simp [List.mem_append]
    refine wpAny_pure ⟨plainId_quiet PyProof.Rows.F.plain_set_update_loop _, ih (i + 1) _ (by omega) hlt (W.frame _ s' _ _ hst' (Nat.le_succ _) fun b hb o e => ?_) ⟨_, by omega, hS3⟩ fun s'' c3 hm'' hc'' hS'' => ?_⟩
    · rw [sb.2 b (fun h : b = S => hSf (by rw [← h]; exact hb))]
      exact e
    · refine hR s'' c3 (Moved.trans W.gtrans ((hm.mono up).then_heap (Nat.le_succ _) fun b o hb e => ?_) hm'') hc'' hS''
      rw [sb.2 b (fun h : b = S => hb (by rw [h]; exact List.mem_cons_self))]
      exact e
end
end SX
namespace SX
open PySem PySem.Spec L2 ZS
section
variable {P : Program} {w : World} {A : Around} {E : Value → Shared → Prop} {s : Shared}
theorem make {t : Bool} {l : Addr} {items : Array Value} (xs : List Str) {Q : Value → Shared → Prop} (hh : A.handled = none) (hl : Sq t s.heap l items) (hv : ∀ (i : Nat) (v : Value), items[i]? = some v → ∃ k u, xs[i]? = some k ∧ v = .str k u) (hz : items.size = xs.length) (hb : xs.length + 1 < scanBound)
    (h : ∀ (g : Heap) (tk c : Nat), SetT w g s.heap.objs.size (fun j => j ∈ xs) c → c ≤ xs.length → (∀ b o, s.heap.get? b = some o → g.get? b = some o) → Q (.ref s.heap.objs.size) { s with heap := g, toks := tk }) : wpAny (model P w) A (call (.type "set") [.ref l]) Q E s := by
  obtain ⟨c0, tl, hmro⟩ := F.called_set.mro
  have hmade := F.called_set.made
  have hsub := F.called_set.sub
  refine wpAny_call (codeAny_of_tree ?_)
  show wpAny _ _ (callAny (.type "set") _) _ _ s
  refine wpAny_pure ⟨Code.quiet_builtin _ (by decide +kernel), codeAny_builtin F.entry_type_call ?_⟩
  rw [Around.under_plain (weight_type_call_type "set" [.ref l] []) rfl]
  have k1 := F.called_set.notType
  have k2 := F.called_set.canCreate
  have hct := F.typeCall_set_1 (.ref l)
  repeat (any_goals (first | assumption | wp_step))
  refine codeAny_mono (code_set_led1 (.ref l) (E := E) (Q₁ := fun obj s₁ => obj = .ref s.heap.objs.size ∧ s₁ = { s with heap := s.heap.push (fresh0 w) }) ⟨rfl, rfl⟩) fun r s₁ hr => ?_
  cases r with
  | error e => exact hr
  | ok fl =>
    cases fl with
    | ret obj =>
      obtain ⟨rfl, rfl⟩ := hr
      have hS : (s.heap.push (fresh0 w)).get? s.heap.objs.size = some (fresh0 w) := Heap.get?_push_size _ rfl
      have hT : Shared.TypeIs { s with heap := s.heap.push (fresh0 w) } (.ref s.heap.objs.size) "set" := ⟨_, hS, rfl⟩
      have hli := F.called_set.init.lookup
      have hbi := F.called_set.init.bind (.ref s.heap.objs.size)
      repeat (any_goals (first | assumption | wp_step))
      refine codeAny_mono (codeAny_call_builtin (R := wants (fun r s₂ => r = .none ∧ ∃ g tk c, s₂ = { s with heap := g, toks := tk } ∧ SetT w g s.heap.objs.size (fun j => j ∈ xs) c ∧ c ≤ xs.length ∧ (∀ b o, s.heap.get? b = some o → g.get? b = some o)) E) F.called_set.init.plain F.entry_set_init (check_set_init_1 hT ?_)) fun r₂ s₂ hr₂ => ?_
      · have hlS : l < s.heap.objs.size := by
          cases t with
          | false => obtain ⟨_, e, _⟩ := hl; exact Heap.lt_size e
          | true => obtain ⟨_, e, _⟩ := hl; exact Heap.lt_size e
        have hneI : l ≠ (s.heap.push (fresh0 w)).objs.size := by
          rw [Heap.size_push]
          exact Nat.ne_of_lt (Nat.lt_succ_of_lt hlS)
        have hSf : s.heap.objs.size ∉ [(s.heap.push (fresh0 w)).objs.size, l] := by
          rw [Heap.size_push]
          simp only [List.mem_cons, List.mem_singleton, List.not_mem_nil, or_false, not_or]
          exact ⟨Nat.ne_of_lt (Nat.lt_succ_self _), Nat.ne_of_gt hlS⟩
        have hh3 : A.in1.in1.in1.handled = none := by simp [hh]
        have fin : ∀ {R : Result → Shared → Prop} {s' : Shared} {c' : Nat}, Moved [s.heap.objs.size, (s.heap.push (fresh0 w)).objs.size] (fun x y => y = x) { s with heap := (s.heap.push (fresh0 w)).push { cls := .type (icl t), data := .fields #[.ref l, .int 0 0] } } s' → c' ≤ items.size → SetT w s'.heap s.heap.objs.size (fun j => j ∈ xs) c' →
            ∃ g tk c, s' = { s with heap := g, toks := tk } ∧ SetT w g s.heap.objs.size (fun j => j ∈ xs) c ∧ c ≤ xs.length ∧ ∀ b o, s.heap.get? b = some o → g.get? b = some o := by
          intro R s' c' hm hc' hS'
          obtain ⟨g, g2, d', tk', os'⟩ := s'
          have eg : g2 = s.gens := hm.gens
          have ed : d' = s.drawn := hm.drawn
          have eo : os' = s.os := hm.os
          subst eg ed eo
          refine ⟨g, tk', c', rfl, hS', hz ▸ hc', fun b o e => ?_⟩
          have hb0 : b < s.heap.objs.size := Heap.lt_size e
          have hb2 : b ≠ (s.heap.push (fresh0 w)).objs.size := by
            rw [Heap.size_push]
            exact Nat.ne_of_lt (Nat.lt_succ_of_lt hb0)
          exact hm.heap b o (by simp only [List.mem_cons, List.mem_singleton, List.not_mem_nil, or_false, not_or]; exact ⟨Nat.ne_of_lt hb0, hb2⟩) (Heap.get?_push_of_some _ (Heap.get?_push_of_some _ e))
        cases t with
        | true =>
          obtain ⟨⟨ocls, odict, odata, oslots⟩, hol, hcl, nl, hdl⟩ := hl
          simp only at hcl hdl
          subst hcl hdl
          have hol' : (s.heap.push (fresh0 w)).get? l = some { cls := .type "tuple", dict := odict, data := .seq items nl, slots := oslots } := Heap.get?_push_of_some _ hol
          have hsls := F.sub_tuple_set
          have hslf := F.sub_tuple_frozenset
          have hne : (Value.type "tuple" == Value.type "dict") = false := by decide
          have hl1 : (s.heap.push (fresh0 w)).IsTuple l items := ⟨_, hol', rfl, nl, rfl⟩
          unfold Builtin.«set.__init__» noKeywords Builtin.Frozenset.updateFrom
          generalize hPI : pyIter = PI
          wp_walk
          subst hPI
          refine wpAny_pyIter_tuple hl1 (wpAny_bind (wpAny_runValue ?_))
          refine update ((Walks.tuple hh3 _ l hneI items).toS) s.heap.objs.size hSf xs hz hb hv (items.size - 0) 0 _ (by omega) (Nat.zero_le _) ⟨⟨_, Heap.get?_push_size _ rfl, rfl, rfl⟩, (hl1.push _)⟩ ⟨0, Nat.le_refl 0, (SetT.new (Heap.get?_push_of_some _ hS)).congr fun j => by simp⟩ fun s' c' hm hc' hS' => ?_
          show wpAny _ _ _ _ _ _
          refine wpAny_pure ?_
          show wpAny _ _ (ret Value.none) _ _ _
          exact wpAny_pure ⟨rfl, fin (R := fun _ _ => True) hm hc' hS'⟩
        | false =>
          obtain ⟨⟨ocls, odict, odata, oslots⟩, hol, hcl, nl, hdl⟩ := hl
          simp only at hcl hdl
          subst hcl hdl
          have hol' : (s.heap.push (fresh0 w)).get? l = some { cls := .type "list", dict := odict, data := .seq items nl, slots := oslots } := Heap.get?_push_of_some _ hol
          have hsls := F.sub_list_set
          have hslf := F.sub_list_frozenset
          have hne : (Value.type "list" == Value.type "dict") = false := by decide
          have hl1 : (s.heap.push (fresh0 w)).IsList l items := ⟨_, hol', rfl, nl, rfl⟩
          unfold Builtin.«set.__init__» noKeywords Builtin.Frozenset.updateFrom
          generalize hPI : pyIter = PI
          wp_walk
          subst hPI
          refine wpAny_pyIter_list hl1 (wpAny_bind (wpAny_runValue ?_))
          refine update ((Walks.list hh3 _ l hneI items).toS) s.heap.objs.size hSf xs hz hb hv (items.size - 0) 0 _ (by omega) (Nat.zero_le _) ⟨⟨_, Heap.get?_push_size _ rfl, rfl, rfl⟩, (hl1.push _)⟩ ⟨0, Nat.le_refl 0, (SetT.new (Heap.get?_push_of_some _ hS)).congr fun j => by simp⟩ fun s' c' hm hc' hS' => ?_
          show wpAny _ _ _ _ _ _
          refine wpAny_pure ?_
          show wpAny _ _ (ret Value.none) _ _ _
          exact wpAny_pure ⟨rfl, fin (R := fun _ _ => True) hm hc' hS'⟩
      · cases r₂ with
        | error e => exact hr₂
        | ok fl₂ =>
          cases fl₂ with
          | ret r =>
            obtain ⟨rfl, g, tk, c, rfl, hS', hc', hk'⟩ := hr₂
            repeat (any_goals (first | assumption | wp_step))
            exact h _ _ _ hS' hc' hk'
          | _ => exact hr₂.elim
    | _ => exact hr.elim
end
end SX
namespace SX
open PySem PySem.Spec PyProof.Rows L2 ZS
section
variable {P : Program} {w : World} {A : Around} {E : Value → Shared → Prop} {s : Shared} {a : Addr} {M : Str → Prop} {n : Nat}
theorem sorted_of {Q : Value → Shared → Prop} (R : SetT w s.heap a M n) (hh : A.handled = none) (hn : n ≤ 100000) (hu : A.units + 2 < cLine)
    (hQ : ∀ s' p (out : List Value) (c : Nat) (bs : List Str), (∀ b o, s.heap.get? b = some o → s'.heap.get? b = some o) → s'.gens = s.gens → s'.os = s.os → s.heap.objs.size ≤ p → s'.heap.get? p = some (seqObj "list" out.toArray c) → bs.Nodup → (∀ k, k ∈ bs ↔ M k) → bs.length = n →
      PySem.W.EachIs (fun v k => ∃ u, v = Value.str k u) out (bs.mergeSort (PySem.W.dataLe false PyData.str)) → Q (.ref p) s') :
    wpAny (model P w) A (call (.builtin "sorted") [.ref a]) Q E s := by
  obtain ⟨o, es, ep, t, ho, hex, hd, q, nd, hm, hb, hf, hsz, hr, hl⟩ := R
  refine Calls.call_function_entry kind_sorted plain_sorted entry_sorted (args_sorted1 _) ?_
  unfold Builtin.«sorted»
  refine wpAny_bind (m := checkCount "sorted" 1 1 _) (wpAny_pure (wpAny_bind (collect_set (A := A.in1) hh ⟨o, ho, hex.1, hd⟩ hf hb hr hl fun s1 vs k1 hz g1 o1 pm => ?_)))
  have hvl : vs.length = n := by rw [pm.length_eq, List.length_map, Array.length_toList]; exact hsz
  have hv : ∀ v ∈ vs, ∃ k u, v = Value.str k u := fun v hv => by
    obtain ⟨e, he, rfl⟩ := List.mem_map.mp (pm.mem_iff.mp hv)
    obtain ⟨k, u, h1, _⟩ := q e he
    exact ⟨k, u, h1⟩
  let bs : List Str := vs.map fun v => match v with | .str k _ => k | _ => Str.empty
  have each : ∀ us : List Value, (∀ v ∈ us, ∃ k u, v = Value.str k u) → PySem.W.EachIs (fun v k => ∃ u, v = Value.str k u) us (us.map fun v => match v with | .str k _ => k | _ => Str.empty) := by
    intro us
    induction us with
    | nil => exact fun _ => .nil
    | cons v us ih =>
      intro h
      obtain ⟨k, u, rfl⟩ := h v (List.mem_cons_self ..)
      exact .cons ⟨u, rfl⟩ (ih fun y hy => h y (List.mem_cons_of_mem _ hy))
  have hea := each vs hv
  have pk : bs.Perm (es.toList.map keyT) := by
    have z := pm.map fun v : Value => match v with | .str k _ => k | _ => Str.empty
    rw [List.map_map] at z
    exact z
  refine wpAny_bind (wpAny_newList ?_ (by rw [hvl, sizeLine_eq]; omega))
  have hoL : (s1.heap.push (seqObj "list" vs.toArray 0)).get? s1.heap.objs.size = some (seqObj "list" vs.toArray 0) := Heap.get?_push_size _ rfl
  have hal : PySem.W.AllAlike (bs.map PyData.str) := fun x hx y hy => by
    obtain ⟨i, _, rfl⟩ := List.mem_map.mp hx
    obtain ⟨j, _, rfl⟩ := List.mem_map.mp hy
    simp [PySem.W.alike]
  have hso : PySem.W.Sortable (bs.map PyData.str) := .inr fun x hx => by
    obtain ⟨i, _, rfl⟩ := List.mem_map.mp hx
    exact ⟨(by intro e; cases e), (by intro xs e; cases e)⟩
  refine wpAny_bind (wpAny_holding (PySem.W.list_sort_data (s := { s1 with heap := s1.heap.push (seqObj "list" vs.toArray 0) }) (enc := PyData.str) hoL hea (hea.mono fun v k ⟨u, e⟩ => ⟨[], e ▸ .str _ _, by simp⟩) hal hso (by show bs.length ≤ _; rw [List.length_map, hvl, sizeLine_eq]; omega) (fun b _ => by
    show A.in1.units + 1 + 0 < cLine
    have : A.in1.units ≤ A.units + 1 := (by simp)
    omega) fun out ol oe => ?_))
  obtain ⟨c, hc⟩ := sortedHeap_at (vs := vs) (out := out.toArray) hoL
  refine wpAny_pure ⟨_, rfl, hQ _ s1.heap.objs.size out c bs (fun b u e => ?_) g1 o1 hz hc (pk.nodup_iff.mpr nd) (fun k => by rw [pk.mem_iff, ← hm k]) (by show bs.length = n; rw [List.length_map, hvl]) oe⟩
  have z := k1 b u e
  have hlt := Heap.lt_size z
  show (sortedHeap (s1.heap.push (seqObj "list" vs.toArray 0)) s1.heap.objs.size vs out.toArray).get? b = some u
  rw [sortedHeap_old (Nat.ne_of_lt hlt) (by rw [Heap.size_push]; exact Nat.lt_succ_of_lt hlt)]
  exact Heap.get?_push_of_some _ z
end
def SetX (w : World) (a : Addr) (M : Str → Prop) (n : Nat) : HO := .ext fun g => SetT w g a M n
section
variable {X : Cx} {pins : List (Addr × Obj)} {σ : L2.St} {H : Hp} {s : Shared} {a : Addr} {M : Str → Prop} {n : Nat}
theorem setX_new {w : World} {P : Program} {H : Hp} {g : Heap} (R : SetT w g a M n) : ObjOk P w H g a (SetX w a M n) := by
  have ⟨o, _, _, _, ho, _⟩ := R
  exact ⟨R, ⟨o, ho⟩, fun h1 h2 p k => p.at k⟩
theorem setX_get (I : Inv X pins σ H s) (ha : H a = some (SetX X.w a M n)) : SetT X.w s.heap a M n := (I.hok a _ ha).1
end
theorem inv_drawn {X : Cx} {pins : List (Addr × Obj)} {σ : L2.St} {H : Hp} {s : Shared} (I : Inv X pins σ H s) (dd : Drawn) : Inv X pins σ H { s with drawn := dd } :=
  I.step (h' := s.heap) (g' := s.gens) (t' := s.toks) (d' := dd) (ch := []) (fun _ z => nomatch z) (fun b o _ _ _ e _ => e) (fun b o _ _ _ e _ => ⟨o.slots, e⟩) (fun _ _ _ _ n => n) (fun b o _ e => ⟨o, e⟩) (fun _ _ e => e) (fun _ _ _ e => e) (fun b ps e => ⟨#[], by rw [e]; simp⟩) (fun m hm => hm) I.hok I.bare
def rSetX (K : PySem.W.Frag) (w : World) : List V → Hp → VK → Prop := fun xs H Q => ∃ (l : Addr) (ys : List Str) (t : Bool), xs = [.ref l] ∧ SqB K H t l (ys.map V.str) ∧ ys.length ≤ 1000 ∧ ∀ (p : Addr) (c : Nat), H p = none → c ≤ ys.length → Q (.ref p) (upd H p (SetX w p (fun k => k ∈ ys) c))
theorem vals_strs : ∀ {ys : List Str} {us : List Value}, Vals (ys.map V.str) us → ∀ (i : Nat) (v : Value), us[i]? = some v → ∃ k u, ys[i]? = some k ∧ v = .str k u
  | [], us, h, i, v, e => by cases h; simp at e
  | y :: ys, us, h, i, v, e => by
    cases h with
    | cons r rs =>
      obtain ⟨u, rfl⟩ := r
      cases i with
      | zero =>
        simp at e
        exact ⟨y, u, rfl, e.symm⟩
      | succ i => exact vals_strs rs i v (by simpa using e)
theorem cr_setX {X : Cx} (hc : X.calm = true) : CallR X (.type "set") (rSetX X.K X.w) := by
  intro pins s σ H xs us Q I r h
  obtain ⟨l, ys, t, rfl, hq, hl, q⟩ := h
  obtain ⟨its, rv, hs, _⟩ := sq_of I hq
  rw [Vals.ref1 r]
  have hlen : its.toArray.size = ys.length := by rw [List.size_toArray, ← rv.length, List.length_map]
  refine make ys (I.ok.hd hc) hs (fun i v e => vals_strs rv i v (by simpa using e)) hlen (by unfold scanBound; omega) fun g tk c R hcl hk => ?_
  exact ⟨.ref _, upd H s.heap.objs.size (SetX X.w s.heap.objs.size (fun k => k ∈ ys) c), I.laid (t' := tk) hk (Nat.le_refl _) (setX_new R), rfl, q _ c (I.hok.fresh (Nat.le_refl _)) hcl⟩
def rSortX (w : World) : List V → Hp → VK → Prop := fun xs H Q => ∃ (a : Addr) (M : Str → Prop) (c : Nat), xs = [.ref a] ∧ H a = some (SetX w a M c) ∧ c ≤ 1000 ∧ ∀ (bs : List Str) (p : Addr), bs.Nodup → (∀ k, k ∈ bs ↔ M k) → H p = none → Q (.ref p) (upd H p (.lst ((bs.mergeSort (PySem.W.dataLe false PyData.str)).map V.str)))
theorem each_vals : ∀ {out : List Value} {bs : List Str}, PySem.W.EachIs (fun v k => ∃ u, v = Value.str k u) out bs → Vals (bs.map V.str) out
  | _, _, .nil => .nil
  | _, _, .cons ⟨u, e⟩ t => .cons ⟨u, e⟩ (each_vals t)
theorem cr_sortX {X : Cx} (hc : X.calm = true) (hu : X.A.units + 2 < cLine) : CallR X (.builtin "sorted") (rSortX X.w) := by
  intro pins s σ H xs us Q I r h
  obtain ⟨a, M, c, rfl, ha, hcl, q⟩ := h
  rw [Vals.ref1 r]
  refine sorted_of (setX_get I ha) (I.ok.hd hc) (by omega) hu fun s' p out e bs k1 g1 o1 hp hob nd hm hbl oe => ?_
  obtain ⟨g, gg, dd, tk, os⟩ := s'
  have e1 : gg = s.gens := g1
  have e2 : os = s.os := o1
  subst e1 e2
  have rv := each_vals oe
  have hlen : ((bs.mergeSort (PySem.W.dataLe false PyData.str)).map V.str).length ≤ sizeLine := by rw [List.length_map, List.length_mergeSort, sizeLine_eq, hbl]; omega
  exact ⟨.ref p, upd H p (.lst ((bs.mergeSort (PySem.W.dataLe false PyData.str)).map V.str)), (inv_drawn I dd).laid (t' := tk) k1 hp ⟨hlen, out, e, rv, hob⟩, rfl, q bs p nd hm (I.hok.fresh hp)⟩
end SX
namespace SW
open PySem PySem.Spec PyProof.Rows L2
def orb (m : Nat) : Nat → Nat → List Nat
  | 0, _ => []
  | n + 1, x => x :: orb m n ((x * 5 + 1) % (m + 1))
theorem lcg_shift (m x : Nat) : ∀ k, lcgI m ((x * 5 + 1) % (m + 1)) k = lcgI m x (k + 1)
  | 0 => rfl
  | k + 1 => by
    show (lcgI m ((x * 5 + 1) % (m + 1)) k * 5 + 1) % (m + 1) = _
    rw [lcg_shift m x k]
    rfl
theorem orb_mem (m : Nat) : ∀ (n x j : Nat), j ∈ orb m n x → ∃ b, b < n ∧ lcgI m x b = j
  | 0, x, j, h => by cases h
  | n + 1, x, j, h => by
    rcases List.mem_cons.mp h with rfl | h
    · exact ⟨0, Nat.succ_pos _, rfl⟩
    · obtain ⟨b, hb, e⟩ := orb_mem m n _ j h
      exact ⟨b + 1, by omega, (lcg_shift m x b).symm.trans e⟩
theorem lcg_add (m x a : Nat) : ∀ k, lcgI m (lcgI m x a) k = lcgI m x (a + k)
  | 0 => rfl
  | k + 1 => congrArg (fun z => (z * 5 + 1) % (m + 1)) (lcg_add m x a k)
theorem orb_all : ((List.range 512).all fun j => (orb 511 512 0).contains j) = true := by decide +kernel
theorem orb_round : lcgI 511 0 512 = 0 := by decide +kernel
def Big (m : Nat) : Prop := MaskOk m ∨ m = 511
theorem Big.odd {m : Nat} (h : Big m) : m % 2 = 1 := h.elim mask_odd fun e => by subst e; rfl
theorem walk_all {m i j : Nat} (hm : Big m) (hi : i ≤ m) (hj : j ≤ m) : ∃ k, k ≤ m ∧ lcgI m i k = j := by
  rcases hm with hm | rfl
  · exact lcgI_all hm hi hj
  · have key : ∀ j, j ≤ 511 → ∃ b, b < 512 ∧ lcgI 511 0 b = j := fun j hj => orb_mem 511 512 0 j (by
      have := List.all_eq_true.mp orb_all j (List.mem_range.mpr (by omega))
      simpa using this)
    obtain ⟨a, ha, ea⟩ := key i hi
    obtain ⟨b, hb, eb⟩ := key j hj
    by_cases c : a ≤ b
    · exact ⟨b - a, by omega, by rw [← ea, lcg_add, show a + (b - a) = b by omega, eb]⟩
    · refine ⟨b + 512 - a, by omega, ?_⟩
      rw [← ea, lcg_add, show a + (b + 512 - a) = 512 + b by omega, ← lcg_add, orb_round, eb]
theorem meets {m j : Nat} (hm : Big m) (h : Int) (hj : j ≤ m) : ∃ n, n ≤ m + 12 ∧ runI m (SetTable.bits h) n = j := by
  obtain ⟨k, hk, e⟩ := walk_all hm (runI_le m (SetTable.bits h) 12) hj
  exact ⟨12 + k, by omega, (runI_tail (bits_lt h) k).trans e⟩
theorem on_way {m j : Nat} (hm : Big m) (h : Int) (hj : j ≤ m) : ∃ k, k < 10 * SetTable.turns m ∧ way m h k = j := by
  obtain ⟨n, hn, e⟩ := meets hm h hj
  obtain ⟨k, hk, e2⟩ := run_nth m (SetTable.bits h) n
  exact ⟨k, by unfold SetTable.turns; omega, (congrArg SetTable.Probe.j e2).trans e⟩
theorem in_table (m : Nat) (h : Int) (k : Nat) : way m h k ≤ m := by
  have hi : SetTable.bits h % (m + 1) ≤ m := Nat.le_of_lt_succ (Nat.mod_lt _ (Nat.succ_pos _))
  have r := runEnd_bd hi
  have q := nth_in (m := m) k (runAt m (SetTable.bits h % (m + 1)) (SetTable.bits h)) (by simp only [runAt]; omega)
  exact Nat.le_trans (Nat.le_add_right _ _) q
structure TabG (t : SetTable) (hs : List Int) : Prop where
  ris : Ris t.place.toList
  dm : t.dummies = #[]
  sz : t.place.size = hs.length
  mok : Big t.mask
  met : ∀ q ∈ hs.zip t.place.toList, ∃ k, way t.mask q.1 k = q.2 ∧ ∀ k', k' < k → way t.mask q.1 k' ∈ t.place.toList
section
variable {t : SetTable} {hs : List Int} {h : Int} {K : Nat}
theorem TabG.first (T : TabG t hs) (hl : hs.length ≤ t.mask) (h : Int) : ∃ K, K < 10 * SetTable.turns t.mask ∧ way t.mask h K ∉ t.place.toList ∧ ∀ k, k < K → way t.mask h k ∈ t.place.toList := by
  obtain ⟨j, hj, hn⟩ := st_missing t.place.toList (t.mask + 1) (by rw [Array.length_toList, T.sz]; omega)
  obtain ⟨k, hk, e⟩ := on_way T.mok h (Nat.le_of_lt_succ hj)
  obtain ⟨K, h1, h2, h3⟩ := st_least (p := fun k => way t.mask h k ∉ t.place.toList) k (by show way t.mask h k ∉ _; rw [show way t.mask h k = j from e]; exact hn)
  exact ⟨K, Nat.lt_of_le_of_lt h1 hk, h2, fun k' hk' => Classical.byContradiction (h3 k' hk')⟩
theorem TabG.before (T : TabG t hs) {i j : Nat} (hK : way t.mask h K ∉ t.place.toList) (hi : hs[i]? = some h) (hj : t.place.toList[i]? = some j) : ∃ k, k < K ∧ way t.mask h k = j := by
  obtain ⟨k, e, hb⟩ := T.met (h, j) (List.mem_of_getElem? (i := i) (List.getElem?_zip_eq_some.mpr ⟨hi, hj⟩))
  refine ⟨k, Nat.lt_of_not_le fun c => hK ?_, e⟩
  rcases Nat.lt_or_eq_of_le c with c | rfl
  · exact hb K c
  · rw [show way t.mask h K = j from e]
    exact List.mem_of_getElem? hj
theorem zip_ins {α β : Type} {a : List α} {b : List β} {p : Nat} {x : α} {y : β} {q : α × β} (hl : a.length = b.length) (h : q ∈ (a.take p ++ x :: a.drop p).zip (b.take p ++ y :: b.drop p)) : q = (x, y) ∨ q ∈ a.zip b := by
  have e1 : (a.take p).zip (b.take p) = (a.zip b).take p := by simp [List.zip, List.take_zipWith]
  have e2 : (a.drop p).zip (b.drop p) = (a.zip b).drop p := by simp [List.zip, List.drop_zipWith]
  rw [List.zip_append (by rw [List.length_take, List.length_take, hl]), List.zip_cons_cons, e1, e2] at h
  rcases List.mem_append.mp h with h | h
  · exact .inr (List.mem_of_mem_take h)
  · rcases List.mem_cons.mp h with h | h
    · exact .inl h
    · exact .inr (List.mem_of_mem_drop h)
theorem TabG.put (T : TabG t hs) (hK : way t.mask h K ∉ t.place.toList) (hb : ∀ k, k < K → way t.mask h k ∈ t.place.toList) :
    (t.put (way t.mask h K)).2 = SetTable.below t.place (way t.mask h K) ∧
    TabG (t.put (way t.mask h K)).1 (hs.take (SetTable.below t.place (way t.mask h K)) ++ h :: hs.drop (SetTable.below t.place (way t.mask h K))) ∧
    (t.put (way t.mask h K)).1.mask = t.mask ∧ (t.put (way t.mask h K)).1.led = t.led ∧ (t.put (way t.mask h K)).1.fill = hs.length + 1 := by
  obtain ⟨j, hj⟩ : ∃ j, j = way t.mask h K := ⟨_, rfl⟩
  rw [← hj] at hK ⊢
  have c1 : SetTable.below t.place j ≤ t.place.size := (below_cut T.ris j).1
  have hn : t.place[SetTable.below t.place j]? ≠ some j := fun e => hK (List.mem_of_getElem? (by rw [Array.getElem?_toList]; exact e))
  have hz : hs.length = t.place.toList.length := T.sz.symm.trans Array.length_toList.symm
  have pl := put_place t j
  have hsize : (t.put j).1.place.size = hs.length + 1 := by
    rw [← Array.length_toList, pl, len_ins _ (by rw [Array.length_toList]; exact c1), hz]
  have up : ∀ x, x ∈ t.place.toList → x ∈ (t.put j).1.place.toList := fun x hx => by
    rw [pl]
    exact mem_ins.2 (.inr hx)
  refine ⟨rfl, ⟨ris_insert T.ris hn, put_dm T.dm j, ?_, T.mok, fun q hq => ?_⟩, rfl, rfl, ?_⟩
  · rw [hsize, len_ins _ (by rw [← T.sz]; exact c1)]
  · rw [pl] at hq
    rcases zip_ins hz hq with rfl | hq
    · exact ⟨K, hj.symm, fun k' hk' => up _ (hb k' hk')⟩
    · obtain ⟨k, e, z⟩ := T.met q hq
      exact ⟨k, e, fun k' hk' => up _ (z k' hk')⟩
  · show (t.put j).1.place.size + (t.put j).1.dummies.size = hs.length + 1
    rw [hsize, put_dm T.dm j]
    rfl
end
section
variable {m : Nat} {owner : Array (Option Nat)} {done : List Int}
theorem seek {j : Nat} (hm : Big m) (owner : Array (Option Nat)) (h : Int) (hj : j ≤ m) (hf : oAt owner j = none) :
    ∃ K, SetTable.layClean.free m owner (SetTable.turns m) (SetTable.bits h % (m + 1)) (SetTable.bits h) = some (way m h K) ∧ oAt owner (way m h K) = none ∧ ∀ k, k < K → oAt owner (way m h k) ≠ none := by
  obtain ⟨n, hn, e⟩ := meets hm h hj
  have hw : way m h (off m (SetTable.bits h % (m + 1)) (SetTable.bits h) n) = j := by
    refine (congrArg SetTable.Probe.j (nth_off m n (SetTable.bits h % (m + 1)) (SetTable.bits h))).trans ?_
    rw [itL_run]
    exact e
  obtain ⟨K, k1, k2, k3⟩ := st_least (p := fun k => oAt owner (way m h k) = none) (off m (SetTable.bits h % (m + 1)) (SetTable.bits h) n) ((congrArg (oAt owner) hw).trans hf)
  refine ⟨K, free_spec m owner (SetTable.turns m) n _ _ K (by unfold SetTable.turns; omega) k1 (fun k hk => ?_) ?_, k2, k3⟩
  · cases z : oAt owner (nth m (runAt m (SetTable.bits h % (m + 1)) (SetTable.bits h)) k).j with
    | none => exact absurd z (k3 k hk)
    | some _ => rfl
  · rw [show oAt owner (nth m (runAt m (SetTable.bits h % (m + 1)) (SetTable.bits h)) K).j = none from k2]
    rfl
theorem seat {m : Nat} (hm : Big m) {done : List Int} {owner : Array (Option Nat)} (W : Own m done owner) (hl : done.length ≤ m) (h : Int) :
    ∃ j, SetTable.layClean.free m owner (SetTable.turns m) (SetTable.bits h % (m + 1)) (SetTable.bits h) = some j ∧ Own m (done ++ [h]) (owner.setIfInBounds j (some done.length)) := by
  obtain ⟨ps, hps, hin⟩ := W.ps
  obtain ⟨j0, h0, hn0⟩ := st_missing ps (m + 1) (by omega)
  have hj0 : oAt owner j0 = none := Classical.byContradiction fun c => hn0 (hin j0 (Nat.le_of_lt_succ h0) c)
  obtain ⟨K, e1, e2, e3⟩ := seek hm owner h (Nat.le_of_lt_succ h0) hj0
  have hjm := in_table m h K
  generalize hx : way m h K = x at *
  have self : oAt (owner.setIfInBounds x (some done.length)) x = some done.length := oAt_set_self _ (by rw [W.sz]; omega)
  have other : ∀ {i : Nat}, i ≠ x → oAt (owner.setIfInBounds x (some done.length)) i = oAt owner i := fun hi => oAt_set_ne _ hi
  have mono : ∀ {i : Nat}, oAt owner i ≠ none → oAt (owner.setIfInBounds x (some done.length)) i ≠ none := fun {i} hi => by
    by_cases c : i = x
    · rw [c, self]
      exact Option.some_ne_none _
    · rw [other c]
      exact hi
  refine ⟨x, e1, by rw [Array.size_setIfInBounds]; exact W.sz, fun j k hj e => ?_, fun k hk => ?_, x :: ps, by rw [List.length_cons, List.length_append, hps]; rfl, fun j hj e => ?_⟩
  · by_cases c : j = x
    · subst c
      rw [self] at e
      cases e
      exact ⟨h, K, by simp, hx, fun k' hk' => mono (e3 k' hk')⟩
    · rw [other c] at e
      obtain ⟨h', K', a1, a2, a3⟩ := W.at_ j k hj e
      exact ⟨h', K', by rw [List.getElem?_append_left (List.getElem?_eq_some_iff.mp a1).1]; exact a1, a2, fun k' hk' => mono (a3 k' hk')⟩
  · rw [List.length_append, List.length_singleton] at hk
    rcases Nat.lt_or_eq_of_le (Nat.le_of_lt_succ hk) with c | rfl
    · obtain ⟨j, hj, e⟩ := W.all k c
      exact ⟨j, hj, by rw [other (fun z => by rw [z, e2] at e; cases e)]; exact e⟩
    · exact ⟨x, hjm, self⟩
  · by_cases c : j = x
    · rw [c]
      exact List.mem_cons_self
    · rw [other c] at e
      exact List.mem_cons_of_mem _ (hin j hj e)
theorem seats {m : Nat} (hm : Big m) : ∀ (rest done : List Int) (owner : Array (Option Nat)), Own m done owner → done.length + rest.length ≤ m →
    ∃ owner', rest.foldl (stepF m) (some (owner, done.length)) = some (owner', done.length + rest.length) ∧ Own m (done ++ rest) owner'
  | [], done, owner, W, _ => ⟨owner, rfl, by rw [List.append_nil]; exact W⟩
  | h :: rest, done, owner, W, hl => by
    rw [List.length_cons] at hl ⊢
    obtain ⟨j, e, W'⟩ := seat hm W (by omega) h
    have hl' : (done ++ [h]).length = done.length + 1 := by rw [List.length_append]; rfl
    obtain ⟨owner', f, W2⟩ := seats hm rest (done ++ [h]) _ W' (by omega)
    rw [hl'] at f
    rw [List.append_assoc] at W2
    refine ⟨owner', ?_, W2⟩
    rw [List.foldl_cons, stepF_some e, f, show done.length + 1 + rest.length = done.length + (rest.length + 1) by omega]
theorem zip_maps {α β γ : Type} (f : α → β) (g : α → γ) : ∀ l : List α, (l.map f).zip (l.map g) = l.map fun x => (f x, g x)
  | [] => rfl
  | x :: l => by
    rw [List.map_cons, List.map_cons, List.zip_cons_cons, zip_maps f g l]
    rfl
theorem relaid (t : SetTable) {hs : Array Int} {wanted M : Nat} (hw : SetTable.sizeAbove wanted - 1 = M) (hM : Big M) (hn : hs.size ≤ M) :
    ∃ t' order, t.relaid hs wanted = some (t', order) ∧ order.toList.Perm (List.range hs.size) ∧ TabG t' (order.toList.map fun i => hs.getD i 0) ∧ t'.mask = M ∧ t'.led = t.led ∧ t'.dummies = #[] := by
  obtain ⟨owner, f, W⟩ := seats hM hs.toList [] _ (Own.init M) (by rw [Array.length_toList]; show 0 + hs.size ≤ M; omega)
  have e : SetTable.layClean M hs = some owner := by
    rw [layClean_eq]
    exact congrArg (Option.map (·.1)) f
  rw [List.nil_append] at W
  have hr : t.relaid hs wanted = some (tabOf t M owner, ((liveOf M owner).map (·.2)).toArray) := by
    rw [relaid_eq, hw, e]
    rfl
  have ris : Ris ((liveOf M owner).map (·.1)) := (ris_live (fun j => owner.getD j none) (List.range (M + 1)) (by
    unfold Ris
    first | exact List.pairwise_lt_range | exact List.pairwise_lt_range _)).1
  have nd : ((liveOf M owner).map (·.1)).Nodup := List.Pairwise.imp (fun h => Nat.ne_of_lt h) ris
  have every : ∀ k, k < hs.size → k ∈ (liveOf M owner).map (·.2) := fun k hk => by
    obtain ⟨j, b1, b2⟩ := W.all k (by rw [Array.length_toList]; exact hk)
    exact List.mem_map.mpr ⟨(j, k), (mem_live W.sz).2 ⟨b1, b2⟩, rfl⟩
  have len : (liveOf M owner).length = hs.size := by
    obtain ⟨ps, p1, p2⟩ := W.ps
    have a := nat_nodup_len ((liveOf M owner).map (·.1)) ps nd fun x hx => by
      obtain ⟨⟨y, k⟩, hq, rfl⟩ := List.mem_map.mp hx
      obtain ⟨b1, b2⟩ := (mem_live W.sz).1 hq
      exact p2 y b1 (by rw [b2]; exact Option.some_ne_none _)
    have b := nat_nodup_len (List.range hs.size) ((liveOf M owner).map (·.2)) List.nodup_range fun k hk => every k (List.mem_range.mp hk)
    have hz : hs.toList.length = hs.size := Array.length_toList
    rw [List.length_map, p1] at a
    rw [List.length_map, List.length_range] at b
    omega
  refine ⟨tabOf t M owner, ((liveOf M owner).map (·.2)).toArray, hr, perm_range hs.size _ (by show ((liveOf M owner).map (·.2)).length = _; rw [List.length_map, len]) every, ⟨ris, rfl, ?_, hM, fun q hq => ?_⟩, rfl, rfl, rfl⟩
  · show ((liveOf M owner).map (·.1)).toArray.size = (((liveOf M owner).map (·.2)).map fun i => hs.getD i 0).length
    rw [List.size_toArray, List.length_map, List.length_map, List.length_map]
  · have hq : q ∈ (((liveOf M owner).map (·.2)).map fun i => hs.getD i 0).zip ((liveOf M owner).map (·.1)) := hq
    rw [List.map_map, zip_maps] at hq
    obtain ⟨⟨y, k⟩, hm, rfl⟩ := List.mem_map.mp hq
    obtain ⟨b1, b2⟩ := (mem_live W.sz).1 hm
    obtain ⟨h0, K, a1, a2, a3⟩ := W.at_ y k b1 b2
    have e0 : hs.getD k 0 = h0 := by
      rw [Array.getD_eq_getD_getElem?, ← Array.getElem?_toList, a1]
      rfl
    refine ⟨K, ?_, fun k' hk' => ?_⟩
    · show way M (hs.getD k 0) K = y
      rw [e0]
      exact a2
    · show way M (hs.getD k 0) k' ∈ (liveOf M owner).map (·.1)
      rw [e0]
      cases z : oAt owner (way M h0 k') with
      | none => exact absurd z (a3 k' hk')
      | some k2 => exact List.mem_map.mpr ⟨(way M h0 k', k2), (mem_live W.sz).2 ⟨in_table M h0 k', z⟩, rfl⟩
end
theorem size_308 : SetTable.sizeAbove (SetTable.grown 77) = 512 := by decide +kernel
end SW
namespace NS
open PySem PySem.Spec PyProof.Rows L2
abbrev KS (P : Program) (w : World) := PySem.strKind P w
abbrev IsW (P : Program) (w : World) (g : Heap) (k : List Str) (a : Addr) : Prop := IsTupleKey (KS P w) g k a
abbrev wh (P : Program) (w : World) (k : List Str) : Int := tupleKeyHash (KS P w) k
abbrev Row := Addr × List Str
section
variable {P : Program} {w : World} {g g' : Heap} {k : List Str} {a b : Addr}
theorem IsW.up (x : IsW P w g k a) (e : ∀ o, g.get? a = some o → g'.get? a = some o) : IsW P w g' k a := by
  obtain ⟨o, its, n, h1, r⟩ := x
  exact ⟨o, its, n, e o h1, r⟩
theorem txts {vs : List Value} (h : ItemsAre (KS P w) k vs) : ∀ v ∈ vs, ∃ x t, v = Value.str x t := by
  induction h with
  | nil => exact fun v z => nomatch z
  | cons h1 _ ih =>
    intro v hv
    rcases List.mem_cons.mp hv with rfl | hv
    · obtain ⟨t, e⟩ := Value.isStrOf_shape h1
      exact ⟨_, t, e⟩
    · exact ih v hv
end
section
variable {P : Program} {w : World} {A : Around} {E : Value → Shared → Prop} {s : Shared} {k : List Str} {b : Addr}
theorem stmt_str (n : Nat) (x : Str) (t : Tok) : ofAClassStatement n (.str x t) = pure false := by cases n <;> rfl
theorem hash_str (n : Nat) (x : Str) (t : Tok) : hashByValue n (.str x t) = pure false := by cases n <;> rfl
theorem no_stmt {Q : Bool → Shared → Prop} (x : IsW P w s.heap k b) (h : Q false s) : wpAny (model P w) A (ofAClassStatement 8 (.ref b)) Q E s := by
  have ty := x.typeIs
  obtain ⟨o, its, n, ho, _, hd, hi⟩ := x
  unfold ofAClassStatement
  refine wpAny_bind (wpAny_typeOf ty ?_)
  dsimp only
  have e : (("tuple" : String) == "tuple") = true := by decide
  simp only [e, if_true, Bool.not_true, Bool.false_eq_true, if_false]
  try refine wpAny_bind (wpAny_pure ?_)
  try simp only [Bool.not_true, Bool.false_eq_true, if_false]
  show wpAny _ _ (seqItems? (.ref b) >>= _) _ _ s
  refine wpAny_bind (wpAny_seqItems ho hd ?_)
  dsimp only
  refine wpAny_bind ?_
  show wpAny _ _ (forIn its _ _) _ _ s
  rw [← Array.forIn_toList]
  refine wpAny_forIn_list _ (fun rest r s' => r.1 = none ∧ s' = s ∧ ∀ v ∈ rest, ∃ x t, v = Value.str x t) _ (fun v rest r s' hr => ?_) (fun r s' hr => ?_) _ _ ⟨rfl, rfl, txts hi⟩
  · obtain ⟨_, rfl, hall⟩ := hr
    obtain ⟨x, t, rfl⟩ := hall v List.mem_cons_self
    rw [stmt_str]
    refine wpAny_bind (wpAny_pure ?_)
    simp only [Bool.false_eq_true, if_false]
    exact wpAny_pure ⟨rfl, rfl, fun u hu => hall u (List.mem_cons_of_mem _ hu)⟩
  · obtain ⟨r1, r2⟩ := r
    obtain ⟨h1, rfl, _⟩ := hr
    dsimp only at h1
    subst h1
    exact wpAny_pure h
theorem by_value {Q : Bool → Shared → Prop} (x : IsW P w s.heap k b) (h : ∀ c, Q c s) : wpAny (model P w) A (hashByValue 8 (.ref b)) Q E s := by
  have ty := x.typeIs
  obtain ⟨o, its, n, ho, _, hd, hi⟩ := x
  unfold hashByValue
  refine wpAny_bind (wpAny_specialOf ty F.slot_tuple_hash.lookup ?_)
  show wpAny _ _ (seqItems? (.ref b) >>= _) _ _ s
  refine wpAny_bind (wpAny_seqItems ho hd ?_)
  refine wpAny_bind ?_
  show wpAny _ _ (forIn its _ _) _ _ s
  rw [← Array.forIn_toList]
  have ht := txts hi
  cases q : its.toList with
  | nil => exact wpAny_pure (wpAny_pure (h true))
  | cons v vs =>
    obtain ⟨y, t, rfl⟩ := ht v (by rw [q]; exact List.mem_cons_self)
    rw [List.forIn_cons, hash_str]
    refine wpAny_bind (wpAny_bind (wpAny_pure ?_))
    simp only [Bool.not_false, if_true]
    exact wpAny_pure (wpAny_pure (wpAny_pure (h false)))
theorem unseen {Q : Bool → Shared → Prop} (x : IsW P w s.heap k b) {ys : List Value} (hy : ∀ y ∈ ys, ∃ k' c, y = Value.ref c ∧ IsW P w s.heap k' c) (h : Q false s) : wpAny (model P w) A (searchCouldBeSeen (.ref b) ys) Q E s := by
  unfold searchCouldBeSeen
  refine wpAny_bind (wpAny_forIn_list _ (fun rest r s' => r.1 = none ∧ s' = s ∧ ∀ y ∈ rest, ∃ k' c, y = Value.ref c ∧ IsW P w s.heap k' c) _ (fun v rest r s' hr => ?_) (fun r s' hr => ?_) _ _ ⟨rfl, rfl, hy⟩)
  · obtain ⟨_, rfl, hall⟩ := hr
    obtain ⟨k', c, rfl, hc⟩ := hall v List.mem_cons_self
    have more := fun u hu => hall u (List.mem_cons_of_mem _ hu)
    dsimp only
    split
    · exact wpAny_pure ⟨rfl, rfl, more⟩
    · refine wpAny_bind (wpAny_eqIsQuiet_tuple x ?_)
      simp only [Bool.not_true, Bool.false_eq_true, if_false]
      refine wpAny_bind (wpAny_eqIsQuiet_tuple hc ?_)
      simp only [Bool.not_true, Bool.false_eq_true, if_false]
      refine wpAny_bind (no_stmt x ?_)
      simp only [Bool.false_eq_true, if_false]
      refine wpAny_bind (no_stmt hc ?_)
      simp only [Bool.false_eq_true, if_false]
      exact wpAny_pure ⟨rfl, rfl, more⟩
  · obtain ⟨r1, r2⟩ := r
    obtain ⟨h1, rfl, _⟩ := hr
    dsimp only at h1
    subst h1
    exact wpAny_pure h
end
abbrev wayP (m : Nat) (h : Int) (c : Nat) : SetTable.Probe := nth m (runAt m (SetTable.bits h % (m + 1)) (SetTable.bits h)) c
theorem way_dummy (m : Nat) (h : Int) : ∀ c, (wayP m h c).dummy = none := by
  have key : ∀ (n : Nat) (p : SetTable.Probe), p.dummy = none → (nth m p n).dummy = none := fun n => by
    induction n with
    | zero => exact fun p z => z
    | succ n ih =>
      refine fun p z => ih _ ?_
      unfold adv
      split <;> exact z
  exact fun c => key c _ rfl
theorem way_add (m : Nat) (h : Int) (c q : Nat) : nth m (wayP m h c) q = wayP m h (c + q) := (nth_add m c _ q).symm
structure Ends (t : SetTable) (h : Int) (K : Nat) : Prop where
  free : way t.mask h K ∉ t.place.toList
  full : ∀ c, c < K → way t.mask h c ∈ t.place.toList
  few : K < 10 * SetTable.turns t.mask
theorem step_of {t : SetTable} {hs : List Int} (T : SW.TabG t hs) {h : Int} {K c : Nat} (Z : Ends t h K) (hc : c ≤ K) (hashAt : Nat → Int) :
    (∃ q i, c + q < K ∧ t.place.toList[i]? = some (way t.mask h (c + q)) ∧ hashAt i = h ∧ (∀ q' i', q' < q → t.place.toList[i']? = some (way t.mask h (c + q')) → hashAt i' ≠ h) ∧
      t.probe hashAt h (wayP t.mask h c) = some (.candidate (way t.mask h (c + q)) i (wayP t.mask h (c + (q + 1))))) ∨
    ((∀ q' i', c + q' < K → t.place.toList[i']? = some (way t.mask h (c + q')) → hashAt i' ≠ h) ∧ t.probe hashAt h (wayP t.mask h c) = some (.empty (way t.mask h K) none)) := by
  have at_ : ∀ q, (nth t.mask (wayP t.mask h c) q).j = way t.mask h (c + q) := fun q => congrArg SetTable.Probe.j (way_add t.mask h c q)
  have end_ : c + (K - c) = K := by omega
  have z := go_spec t T.ris T.dm hashAt h (10 * SetTable.turns t.mask) (K - c) (wayP t.mask h c) (way_dummy _ _ c) (by have := Z.few; omega) (fun q hq => by rw [at_]; exact Z.full _ (by omega)) (by rw [at_, end_]; exact Z.free)
  rcases z with ⟨q, i, hq, h1, h2, h3, h4⟩ | ⟨h1, h2⟩
  · rw [at_] at h1 h4
    rw [way_add] at h4
    exact .inl ⟨q, i, by omega, h1, h2, fun q' i' hq' hi' => h3 q' i' hq' (by rw [at_]; exact hi'), h4⟩
  · rw [at_, end_] at h2
    exact .inr ⟨fun q' i' hq' hi' => h1 q' i' (by omega) (by rw [at_]; exact hi'), h2⟩
def rws (P : Program) (w : World) (L : List Row) : List (Int × Value) := L.map fun p => (wh P w p.2, Value.ref p.1)
structure SetW (P : Program) (w : World) (g : Heap) (a : Addr) (L : List Row) (es : Array (Int × Value)) (ep : Nat) (t : SetTable) : Prop where
  ob : ∃ o, g.get? a = some o ∧ o.ExactSet ∧ o.data = .set es ep t
  rows : es.toList = rws P w L
  tab : SW.TabG t (L.map fun p => wh P w p.2)
  nd : (L.map (·.2)).Nodup
  tup : ∀ p ∈ L, IsW P w g p.2 p.1
  led : w.params.followText "set-order" = true ∨ t.led = true
  room : L.length * 5 < t.mask * 3
  few : L.length < 306
theorem len_of {P : Program} {w : World} {L : List Row} {es : Array (Int × Value)} (h : es.toList = rws P w L) : es.size = L.length := by
  rw [← Array.length_toList, h]
  exact List.length_map _
theorem ent_of {P : Program} {w : World} {L : List Row} {es : Array (Int × Value)} (h : es.toList = rws P w L) {i : Nat} {p : Row} (e : L[i]? = some p) : es[i]? = some (wh P w p.2, Value.ref p.1) := by
  rw [← Array.getElem?_toList, h]
  show (L.map _)[i]? = _
  rw [List.getElem?_map, e]
  rfl
theorem fits_of {t : SetTable} {es : Array (Int × Value)} {n : Nat} (h1 : t.place.size = n) (h2 : es.size = n) (hd : t.dummies = #[]) (h3 : n ≤ t.mask) : t.fits es.size = true := by
  unfold SetTable.fits SetTable.fill
  rw [hd, Bool.and_eq_true, beq_iff_eq, decide_eq_true_eq]
  refine ⟨by rw [h1, h2], ?_⟩
  show t.place.size + 0 ≤ t.mask
  omega
section
variable {P : Program} {w : World} {A : Around} {E : Value → Shared → Prop} {s : Shared} {a : Addr} {L : List Row} {es : Array (Int × Value)} {ep : Nat} {t : SetTable}
theorem SetW.places (R : SetW P w s.heap a L es ep t) : t.place.size = L.length := by rw [R.tab.sz, List.length_map]
theorem SetW.fits (R : SetW P w s.heap a L es ep t) : t.fits es.size = true := fits_of R.places (len_of R.rows) R.tab.dm (by have := R.room; omega)
theorem gave_not (T : SW.TabG t (L.map fun p => wh P w p.2)) : ¬ t.gaveWay = true := by
  unfold SetTable.gaveWay
  rw [T.mok.odd]
  decide
def Ahead (t : SetTable) (L : List Row) (h : Int) (k : List Str) (K c : Nat) : Prop := ∀ (i : Nat) (p : Row), L[i]? = some p → p.2 = k → ∃ c', c ≤ c' ∧ c' < K ∧ t.place.toList[i]? = some (way t.mask h c')
theorem search {x : Addr} {k : List Str} {K : Nat} {Q : SetFound → Shared → Prop} (R : SetW P w s.heap a L es ep t) (hx : IsW P w s.heap k x) (hu : A.units < cLine) (Z : Ends t (wh P w k) K) (hin : k ∈ L.map (·.2) → Q (.there none) s) (hout : k ∉ L.map (·.2) → Q (.free (way t.mask (wh P w k) K) false) s) :
    ∀ (f c : Nat) (stand : Option SetTable.Probe), stand.getD (t.probeStart (wh P w k)) = wayP t.mask (wh P w k) c → c ≤ K → K < c + f → Ahead t L (wh P w k) k K c → wpAny (model P w) A (setSearchFrom a (.ref x) (wh P w k) true f stand) Q E s := by
  obtain ⟨o, ho, hex, hd⟩ := R.ob
  intro f
  induction f with
  | zero => exact fun c _ _ h1 h2 => absurd h2 (by omega)
  | succ f ih =>
    intro c stand hst hc hf hre
    rw [setSearchFrom_succ]
    refine wpAny_bind (wpAny_setState_of ho hd R.fits ?_)
    dsimp only
    refine wp_if_neg (gave_not R.tab) ?_
    try refine wpAny_bind (wpAny_pure ?_)
    have hash : ∀ (i : Nat) (p : Row), L[i]? = some p → (fun i => (es[i]?.map (·.1)).getD 0) i = wh P w p.2 := fun i p e => by
      show (es[i]?.map (·.1)).getD 0 = _
      rw [ent_of R.rows e]
      rfl
    rw [hst]
    rcases step_of R.tab Z hc (fun i => (es[i]?.map (·.1)).getD 0) with ⟨q, i, hq, hi, hh, hno, hpr⟩ | ⟨hno, hpr⟩
    · rw [hpr]
      dsimp only
      obtain ⟨p, hp⟩ : ∃ p, L[i]? = some p := by
        have z := (List.getElem?_eq_some_iff.mp hi).1
        rw [Array.length_toList, R.places] at z
        exact ⟨_, List.getElem?_eq_getElem z⟩
      have hpt := R.tup p (List.mem_of_getElem? hp)
      have go : wpAny (model P w) A (searchRest a (.ref x) (wh P w k) true f es t (way t.mask (wh P w k) (c + q)) i (wayP t.mask (wh P w k) (c + (q + 1)))) Q E s := by
        unfold searchRest
        rw [ent_of R.rows hp]
        dsimp only
        refine wpAny_bind (wpAny_holding (wpAny_eqBool_tuple hu hpt hx (wpAny_bind (wpAny_setState_of ho hd R.fits ?_))))
        dsimp only
        by_cases same : p.2 = k
        · refine wp_if_pos (by simp [same]) (wpAny_pure (hin (List.mem_map.mpr ⟨p, List.mem_of_getElem? hp, same⟩)))
        · refine wp_if_neg (by simp [same]) ?_
          try refine wpAny_bind (wpAny_pure ?_)
          rw [sameMem]
          dsimp only
          have hsl : t.slot (way t.mask (wh P w k) (c + q)) = .live i := slot_live R.tab.ris hi
          simp only [if_true, hsl, ent_of R.rows hp]
          refine wpAny_bind (wpAny_isSame_ref_self (wpAny_bind (wpAny_pure ?_)))
          simp only [if_true]
          refine wp_if_neg (by simp [same]) (ih (c + (q + 1)) _ rfl (by omega) (by omega) fun i0 p0 e0 k0 => ?_)
          obtain ⟨c', a1, a2, a3⟩ := hre i0 p0 e0 k0
          have h0 := (hash i0 p0 e0).trans (congrArg (wh P w) k0)
          have n1 : ¬ c' < c + q := fun z => hno (c' - c) i0 (by omega) (by rw [show c + (c' - c) = c' by omega]; exact a3) h0
          have n2 : c' ≠ c + q := fun z => by
            rw [z] at a3
            have z2 := slot_live R.tab.ris a3
            rw [hsl] at z2
            injection z2 with z2
            rw [← z2, hp] at e0
            cases e0
            exact same k0
          exact ⟨c', by omega, a2, a3⟩
      by_cases hl : t.led = true
      · refine wp_if_neg (by simp [hl]) ?_
        try refine wpAny_bind (wpAny_pure ?_)
        exact go
      · refine wp_if_pos (by simp [hl]) (wpAny_bind (unseen hx (fun y hy => ?_) ?_))
        · obtain ⟨e, he, rfl⟩ := List.mem_map.mp hy
          have he2 : e ∈ es.toList := by
            have z : e ∈ es ∧ e.1 = wh P w k := by simpa using he
            simpa using z.1
          rw [R.rows] at he2
          obtain ⟨p2, m2, rfl⟩ := List.mem_map.mp he2
          exact ⟨p2.2, p2.1, rfl, R.tup p2 m2⟩
        · refine wp_if_neg (by decide) ?_
          try refine wpAny_bind (wpAny_pure ?_)
          exact go
    · rw [hpr]
      dsimp only
      refine wpAny_pure (hout fun hm => ?_)
      obtain ⟨p0, m0, k0⟩ := List.mem_map.mp hm
      obtain ⟨i0, l0, e0⟩ := List.getElem_of_mem m0
      have e00 : L[i0]? = some p0 := by rw [List.getElem?_eq_getElem l0, e0]
      obtain ⟨c', a1, a2, a3⟩ := hre i0 p0 e00 k0
      exact hno (c' - c) i0 (by omega) (by rw [show c + (c' - c) = c' by omega]; exact a3) ((hash i0 p0 e00).trans (congrArg (wh P w) k0))
theorem turns_le {t : SetTable} (h : SW.Big t.mask) : 10 * SetTable.turns t.mask ≤ 6000 := by
  unfold SetTable.turns
  rcases h with (e | e | e) | e <;> omega
theorem found {x : Addr} {k : List Str} {Q : SetFound → Shared → Prop} (R : SetW P w s.heap a L es ep t) (hx : IsW P w s.heap k x) (hu : A.units < cLine) (hin : k ∈ L.map (·.2) → Q (.there none) s)
    (hout : ∀ K, Ends t (wh P w k) K → k ∉ L.map (·.2) → Q (.free (way t.mask (wh P w k) K) false) s) : wpAny (model P w) A (setSearch a (.ref x) (wh P w k) true) Q E s := by
  obtain ⟨K, z1, z2, z3⟩ := R.tab.first (by rw [List.length_map]; have := R.room; omega) (wh P w k)
  have big := turns_le R.tab.mok
  unfold setSearch
  refine search R hx hu ⟨z2, z3, z1⟩ hin (hout K ⟨z2, z3, z1⟩) 100000 0 none rfl (Nat.zero_le _) (by omega) fun i p e hk => ?_
  have l : i < t.place.toList.length := by
    rw [Array.length_toList, R.places]
    exact (List.getElem?_eq_some_iff.mp e).1
  have hj := List.getElem?_eq_getElem l
  obtain ⟨c, hc, ec⟩ := R.tab.before (h := wh P w k) z2 (by rw [List.getElem?_map, e, ← hk]; rfl) hj
  exact ⟨c, Nat.zero_le _, hc, by rw [hj, ec]⟩
end
end NS
namespace NS
open PySem PySem.Spec PyProof.Rows L2
section
variable {P : Program} {w : World} {g g' : Heap} {k : List Str} {a b : Addr} {L : List Row} {es : Array (Int × Value)}
theorem IsW.beside {o : Obj} {ep : Nat} {t : SetTable} (x : IsW P w g k b) (ho : g.get? a = some o) (hd : o.data = .set es ep t) (sb : Heap.SameBut a g g') : IsW P w g' k b := by
  obtain ⟨o2, its, n, h1, h2, h3, h4⟩ := x
  have ne : b ≠ a := fun z => by
    rw [z, ho] at h1
    cases h1
    rw [hd] at h3
    cases h3
  exact ⟨o2, its, n, (sb.2 b ne).trans h1, h2, h3, h4⟩
theorem get_map (h : es.toList = rws P w L) (i : Nat) : es[i]? = (L[i]?).map fun p => (wh P w p.2, Value.ref p.1) := by
  rw [← Array.getElem?_toList, h]
  exact List.getElem?_map
theorem reorder (h : es.toList = rws P w L) (order : Array Nat) (pm : order.toList.Perm (List.range L.length)) :
    ∃ L2 : List Row, (order.filterMap (es[·]?)).toList = rws P w L2 ∧ L2.Perm L ∧ (L2.map fun p => wh P w p.2) = order.toList.map fun i => (es.map (·.1)).getD i 0 := by
  refine ⟨order.toList.filterMap (L[·]?), ?_, ?_, ?_⟩
  · rw [Array.toList_filterMap]
    unfold rws
    rw [List.map_filterMap]
    exact congrArg (fun f => List.filterMap f order.toList) (funext fun i => get_map h i)
  · have z := pm.filterMap fun i => L[i]?
    rw [PySem.List.filterMap_getElem?_range_length] at z
    exact z
  · have key : ∀ l : List Nat, (∀ i ∈ l, i < L.length) → ((l.filterMap (L[·]?)).map fun p => wh P w p.2) = l.map fun i => (es.map (·.1)).getD i 0 := fun l => by
      induction l with
      | nil => exact fun _ => rfl
      | cons i l ih =>
        intro hl
        have hi := hl i List.mem_cons_self
        have e1 : L[i]? = some L[i] := List.getElem?_eq_getElem hi
        have e2 : (es.map (·.1)).getD i 0 = wh P w L[i].2 := by
          have z : (es.map (·.1))[i]? = some (wh P w L[i].2) := by
            rw [Array.getElem?_map, get_map h i, e1]
            rfl
          simp [Array.getD_eq_getD_getElem?, z]
        rw [List.filterMap_cons_some e1, List.map_cons, List.map_cons, e2, ih fun j hj => hl j (List.mem_cons_of_mem _ hj)]
    exact key _ fun i hi => List.mem_range.mp (pm.mem_iff.mp hi)
end
section
variable {P : Program} {w : World} {A : Around} {E : Value → Shared → Prop} {s : Shared} {a : Addr} {L : List Row} {es : Array (Int × Value)} {ep : Nat} {t : SetTable}
theorem relay {o : Obj} {wanted M : Nat} {Q : Unit → Shared → Prop} (ho : s.heap.get? a = some o) (hex : o.ExactSet) (hd : o.data = .set es ep t) (rows : es.toList = rws P w L) (pl : t.place.size = L.length) (dm : t.dummies = #[]) (fl : L.length ≤ t.mask)
    (nd : (L.map (·.2)).Nodup) (tup : ∀ p ∈ L, IsW P w s.heap p.2 p.1) (ld : w.params.followText "set-order" = true ∨ t.led = true) (few : L.length < 306) (hw : SetTable.sizeAbove wanted - 1 = M) (hM : SW.Big M) (hb : SetTable.sizeAbove wanted ≤ 512) (hn : L.length * 5 < M * 3)
    (hQ : ∀ g L2 es2 ep2 t2, Heap.SameBut a s.heap g → SetW P w g a L2 es2 ep2 t2 → L2.Perm L → Q () { s with heap := g }) : wpAny (model P w) A (setRelay a wanted) Q E s := by
  have sz := len_of rows
  obtain ⟨t2, order, e, pm, T, em, el, _⟩ := SW.relaid t (hs := es.map (·.1)) (wanted := wanted) hw hM (by rw [Array.size_map, sz]; omega)
  rw [Array.size_map, sz] at pm
  obtain ⟨L2, r1, r2, r3⟩ := reorder rows order pm
  rw [← r3] at T
  have sz2 : (order.filterMap (es[·]?)).size = L.length := (len_of r1).trans r2.length_eq
  rw [setRelay_eq]
  refine wpAny_bind (wpAny_setState_of ho hd (fits_of pl sz dm fl) ?_)
  dsimp only
  refine wp_if_neg (by rw [sizeLine_eq]; omega) ?_
  try refine wpAny_bind (wpAny_pure ?_)
  rw [e]
  dsimp only
  refine wpAny_bind ?_
  refine wp_if_neg (by rw [sz2, sz]; simp) ?_
  try refine wpAny_bind (wpAny_pure ?_)
  refine wpAny_pure ?_
  dsimp only
  refine wpAny_storeSet_of ho hd ?_ (by rw [sz2, sizeLine_eq]; omega)
  have sb := Heap.SameBut.update s.heap a (Obj.putSet (order.filterMap (es[·]?)) t2)
  exact hQ _ L2 _ (ep + 1) t2 sb ⟨⟨_, store_at ho hd, hex, rfl⟩, r1, T, (r2.map (·.2)).nodup_iff.mpr nd, fun p hp => (tup p (r2.mem_iff.mp hp)).beside ho hd sb, by rw [el]; exact ld, by rw [r2.length_eq, em]; exact hn, by rw [r2.length_eq]; exact few⟩ r2
theorem cut_perm {α : Type} (l : List α) (p : Nat) (x : α) : (l.take p ++ x :: l.drop p).Perm (x :: l) := by
  have z : (l.take p ++ x :: l.drop p).Perm (x :: (l.take p ++ l.drop p)) := List.perm_middle
  rwa [List.take_append_drop] at z
theorem put {x : Addr} {k : List Str} {K : Nat} {byV : Bool} {Q : Bool → Shared → Prop} (R : SetW P w s.heap a L es ep t) (hx : IsW P w s.heap k x) (Z : Ends t (wh P w k) K) (hm : k ∉ L.map (·.2)) (hfew : L.length + 1 < 306)
    (hQ : ∀ g L2 es2 ep2 t2, Heap.SameBut a s.heap g → SetW P w g a L2 es2 ep2 t2 → L2.Perm ((x, k) :: L) → Q true { s with heap := g }) {t1 : SetTable} (ht : t1 = (t.put (way t.mask (wh P w k) K)).1 ∨ t1 = { (t.put (way t.mask (wh P w k) K)).1 with plain := false }) :
    wpAny (model P w) A (do
      storeSet a (SetTable.insertAt es (t.put (way t.mask (wh P w k) K)).2 (wh P w k, .ref x)) t1
      if t1.tooFull then setRelay a (SetTable.grown (es.size + 1))
      return true) Q E s := by
  obtain ⟨o, ho, hex, hd⟩ := R.ob
  have room := R.room
  obtain ⟨q1, q3, q4, q5, q9⟩ := R.tab.put Z.free Z.full
  have e1 : t1.mask = t.mask := by rcases ht with rfl | rfl <;> exact q4
  have e2 : t1.led = t.led := by rcases ht with rfl | rfl <;> exact q5
  have e3 : t1.fill = L.length + 1 := by rw [List.length_map] at q9; rcases ht with rfl | rfl <;> exact q9
  have T1 : SW.TabG t1 ((L.map fun p => wh P w p.2).take (SetTable.below t.place (way t.mask (wh P w k) K)) ++ wh P w k :: (L.map fun p => wh P w p.2).drop (SetTable.below t.place (way t.mask (wh P w k) K))) := by
    rcases ht with rfl | rfl
    · exact q3
    · exact ⟨q3.ris, q3.dm, q3.sz, q3.mok, q3.met⟩
  clear ht q3 q4 q5 q9
  rw [q1]
  generalize SetTable.below t.place (way t.mask (wh P w k) K) = p at T1 ⊢
  have pm := cut_perm L p (x, k)
  have rows1 : (SetTable.insertAt es p (wh P w k, Value.ref x)).toList = rws P w (L.take p ++ (x, k) :: L.drop p) := by
    rw [SetTable.toList_insertAt, R.rows]
    unfold rws
    rw [List.map_append, List.map_cons, List.map_take, List.map_drop]
  have T1 : SW.TabG t1 ((L.take p ++ (x, k) :: L.drop p).map fun p => wh P w p.2) := by
    rw [List.map_append, List.map_cons, List.map_take, List.map_drop]
    exact T1
  generalize L.take p ++ (x, k) :: L.drop p = L1 at pm rows1 T1
  have len1 : L1.length = L.length + 1 := pm.length_eq
  have sz1 := len_of rows1
  generalize SetTable.insertAt es p (wh P w k, Value.ref x) = es1 at rows1 sz1 ⊢
  refine wpAny_bind (wpAny_storeSet_of ho hd ?_ (by rw [sz1, len1, sizeLine_eq]; omega))
  have sb := Heap.SameBut.update s.heap a (Obj.putSet es1 t1)
  have ho1 := store_at (es' := es1) (t' := t1) ho hd
  generalize s.heap.update a (Obj.putSet es1 t1) = g1 at sb ho1 ⊢
  have nd1 : (L1.map (·.2)).Nodup := (pm.map (·.2)).nodup_iff.mpr (List.nodup_cons.mpr ⟨hm, R.nd⟩)
  have tup1 : ∀ p ∈ L1, IsW P w g1 p.2 p.1 := fun p hp => by
    rcases List.mem_cons.mp (pm.mem_iff.mp hp) with e | hp
    · rw [e]
      exact hx.beside ho hd sb
    · exact (R.tup p hp).beside ho hd sb
  have ld1 : w.params.followText "set-order" = true ∨ t1.led = true := by rw [e2]; exact R.led
  have pl1 : t1.place.size = L1.length := by rw [T1.sz, List.length_map]
  have full_iff : t1.tooFull = decide ((L.length + 1) * 5 ≥ t.mask * 3) := by
    unfold SetTable.tooFull
    rw [e3, e1]
  by_cases hf : (L.length + 1) * 5 ≥ t.mask * 3
  · have hf1 : t1.tooFull = true := by rw [full_iff]; exact decide_eq_true hf
    have two : (t.mask = 7 ∧ L.length = 4) ∨ (t.mask = 31 ∧ L.length = 18) ∨ (t.mask = 127 ∧ L.length = 76) := by
      rcases R.tab.mok with (e | e | e) | e <;> rw [e] at hf room
      · exact .inl ⟨e, by omega⟩
      · exact .inr (.inl ⟨e, by omega⟩)
      · exact .inr (.inr ⟨e, by omega⟩)
      · omega
    have go : ∀ M, SetTable.sizeAbove (SetTable.grown (L.length + 1)) - 1 = M → SW.Big M → SetTable.sizeAbove (SetTable.grown (L.length + 1)) ≤ 512 → (L.length + 1) * 5 < M * 3 →
        wpAny (model P w) A (setRelay a (SetTable.grown (L.length + 1))) (fun _ s' => wpAny (model P w) A (pure true) Q E s') E { s with heap := g1 } := fun M m1 m2 m3 m4 =>
      relay (s := { s with heap := g1 }) ho1 hex rfl rows1 pl1 T1.dm (by rw [len1, e1]; omega) nd1 tup1 ld1 (by rw [len1]; exact hfew) m1 m2 m3 (by rw [len1]; exact m4) fun g2 L2 es2 ep2 t2 sb2 R2 pm2 => wpAny_pure (hQ g2 L2 es2 ep2 t2 (sb.trans sb2) R2 (pm2.trans pm))
    rw [len_of R.rows]
    first
      | (refine wpAny_bind ?_; refine wp_if_pos hf1 ?_)
      | (refine wp_if_pos hf1 ?_; refine wpAny_bind ?_)
    rcases two with ⟨_, z⟩ | ⟨_, z⟩ | ⟨_, z⟩
    · exact go 31 (by rw [z, size_20]) (.inl (.inr (.inl rfl))) (by rw [z, size_20]; decide) (by omega)
    · exact go 127 (by rw [z, size_76]) (.inl (.inr (.inr rfl))) (by rw [z, size_76]; decide) (by omega)
    · exact go 511 (by rw [z, SW.size_308]) (.inr rfl) (by rw [z, SW.size_308]; decide) (by omega)
  · have hf1 : ¬ t1.tooFull = true := by rw [full_iff, decide_eq_true_eq]; exact hf
    first
      | refine wp_if_neg hf1 ?_
      | (refine wpAny_bind ?_; refine wp_if_neg hf1 ?_; refine wpAny_pure ?_)
    exact wpAny_pure (hQ g1 L1 es1 (ep + 1) t1 sb ⟨⟨_, ho1, hex, rfl⟩, rows1, T1, nd1, tup1, ld1, by rw [len1, e1]; omega, by rw [len1]; exact hfew⟩ pm)
theorem add {x : Addr} {k : List Str} {Q : Bool → Shared → Prop} (R : SetW P w s.heap a L es ep t) (hx : IsW P w s.heap k x) (hu : A.units < cLine) (hfew : L.length + 1 < 306)
    (hQ : ∀ b g L2 es2 ep2 t2, Heap.SameBut a s.heap g → SetW P w g a L2 es2 ep2 t2 → (L2 = L ∧ k ∈ L.map (·.2)) ∨ L2.Perm ((x, k) :: L) → Q b { s with heap := g }) : wpAny (model P w) A (setAddHashed a (.ref x) (wh P w k)) Q E s := by
  obtain ⟨o, ho, hex, hd⟩ := R.ob
  unfold setAddHashed
  refine wpAny_holding ?_
  rw [show (100000 : Nat) = 99999 + 1 from rfl, setAddHashedIn_succ]
  refine wpAny_bind (wpAny_setState_of ho hd R.fits ?_)
  dsimp only
  refine wp_if_neg (by simp [byScan, Value.scannable]) ?_
  try refine wpAny_bind (wpAny_pure ?_)
  refine wpAny_bind (found R hx hu (fun hm => ?_) fun K Z hm => ?_)
  · dsimp only
    exact wpAny_pure (hQ false s.heap L es ep t (Heap.SameBut.refl a s.heap) R (.inl ⟨rfl, hm⟩))
  · dsimp only
    refine wpAny_bind (wpAny_setState_of ho hd R.fits ?_)
    dsimp only
    have fin : ∀ t1 : SetTable, (t1 = (t.put (way t.mask (wh P w k) K)).1 ∨ t1 = { (t.put (way t.mask (wh P w k) K)).1 with plain := false }) → wpAny (model P w) A (do
      storeSet a (SetTable.insertAt es (t.put (way t.mask (wh P w k) K)).2 (wh P w k, .ref x)) t1
      if t1.tooFull then setRelay a (SetTable.grown (es.size + 1))
      return true) Q E s := fun t1 ht => put (byV := true) R hx Z hm hfew (fun g L2 es2 ep2 t2 sb R2 pm => hQ true g L2 es2 ep2 t2 sb R2 (.inr pm)) ht
    generalize t.put (way t.mask (wh P w k) K) = pt at fin ⊢
    obtain ⟨t0, p⟩ := pt
    dsimp only at fin ⊢
    split
    · refine wpAny_bind (by_value hx fun c => ?_)
      cases c with
      | true => exact fin _ (.inl rfl)
      | false => exact fin _ (.inr rfl)
    · refine wpAny_bind (wpAny_pure ?_)
      exact fin _ (.inl rfl)
end
end NS
namespace NS
open PySem PySem.Spec PyProof.Rows L2
open SX (fresh0)
open ZS (icl Sq)
section
variable {P : Program} {w : World} {A : Around} {E : Value → Shared → Prop} {s : Shared}
def HasW (P : Program) (w : World) (g : Heap) (a : Addr) (xs : List Row) (i : Nat) : Prop := ∃ L es ep t, SetW P w g a L es ep t ∧ (∀ p ∈ L, p ∈ xs) ∧ (∀ p ∈ xs.take i, p.2 ∈ L.map (·.2)) ∧ L.length ≤ i
theorem SetW.up {g g' : Heap} {a : Addr} {L : List Row} {es : Array (Int × Value)} {ep : Nat} {t : SetTable} (R : SetW P w g a L es ep t) (ha : ∀ o, g.get? a = some o → g'.get? a = some o) (ht : ∀ p ∈ L, IsW P w g' p.2 p.1) : SetW P w g' a L es ep t := by
  obtain ⟨o, h1, r⟩ := R.ob
  exact ⟨⟨o, ha o h1, r⟩, R.rows, R.tab, R.nd, ht, R.led, R.room, R.few⟩
theorem HasW.new {g : Heap} {a : Addr} {xs : List Row} (ho : g.get? a = some (fresh0 w)) : HasW P w g a xs 0 :=
  ⟨[], #[], 0, .fresh 0 0 (!w.params.followText "set-order"), ⟨⟨_, ho, ⟨rfl, rfl, rfl⟩, rfl⟩, rfl, ⟨List.Pairwise.nil, rfl, rfl, .inl (.inl rfl), (fun q hq => by simp at hq)⟩, List.nodup_nil, (fun p hp => by cases hp), by
    show _ ∨ (!w.params.followText "set-order") = true
    cases w.params.followText "set-order"
    · exact .inr rfl
    · exact .inl rfl, by show 0 * 5 < 7 * 3; decide, by show 0 < 306; decide⟩, (fun p hp => by cases hp), (fun p hp => by simp at hp), Nat.le_refl _⟩
def Few (xs : List Row) : Prop := xs.length < 306 ∨ ∀ L : List Row, (∀ p ∈ L, p ∈ xs) → (L.map (·.2)).Nodup → L.length < 305
theorem update {I : Addr} {fp wr : List Addr} {G : Array GenState → Array GenState → Prop} {n : Nat} {Pv : Nat → Value → Prop} {St : Nat → Shared → Prop} {R : Result → Shared → Prop} (W : WalksS P w A.in1 I fp wr G n Pv St) (S : Addr) (hSf : S ∉ fp) (xs : List Row) (hn : n = xs.length) (few : Few xs)
    (hval : ∀ i v, Pv i v → ∃ p, xs[i]? = some p ∧ v = .ref p.1) (h0 : Heap) (hk : ∀ p ∈ xs, IsW P w h0 p.2 p.1) (hS0 : h0.get? S = none) (hw0 : ∀ b ∈ wr, h0.get? b = none) (hu : A.in1.units < cLine) :
    ∀ (k i : Nat) (s : Shared), n - i = k → i ≤ n → St i s → (∀ b o, h0.get? b = some o → s.heap.get? b = some o) → HasW P w s.heap S xs i →
      (∀ s', Moved (S :: wr) G s s' → HasW P w s'.heap S xs n → R (.ok (.ret .none)) s') → codeAny (model P w) A (.builtin "set.update.loop" ⟨[.ref S, .ref I], []⟩) R s := by
  have hSw : S ∉ wr := fun h => hSf (W.sub _ h)
  have sub : ∀ b ∈ wr, b ∈ S :: wr := fun b hb => List.mem_cons_of_mem _ hb
  have old : ∀ {s s' : Shared}, Moved wr G s s' → (∀ b o, h0.get? b = some o → s.heap.get? b = some o) → ∀ b o, h0.get? b = some o → s'.heap.get? b = some o := fun hm kp b o e =>
    hm.heap b o (fun hb => by rw [hw0 b hb] at e; cases e) (kp b o e)
  have still : ∀ {s s' : Shared} {i : Nat}, Moved wr G s s' → (∀ b o, h0.get? b = some o → s'.heap.get? b = some o) → HasW P w s.heap S xs i → HasW P w s'.heap S xs i := fun {s s' i} hm kp' ⟨L, es, ep, t, hS, g1, g2⟩ =>
    ⟨L, es, ep, t, hS.up (fun o e => hm.heap S o hSw e) fun p hp => (hk p (g1 p hp)).up fun o e => kp' _ o e, g1, g2⟩
  intro k
  induction k with
  | zero =>
    intro i s hk' hi hst kp hS hR
    have hin : i = n := by omega
    subst hin
    refine codeAny_builtin F.entry_set_update_loop ?_
    rw [Around.under_plainId F.plain_set_update_loop _]
    show wpAny _ A.in1 (pyNext (.ref I) >>= _) _ _ s
    refine wpAny_bind (W.done s _ _ hst fun s' hm => ?_)
    show wpAny _ A.in1 (ret Value.none) _ _ s'
    exact wpAny_pure (hR s' (hm.mono sub) (still hm (old hm kp) hS))
  | succ k ih =>
    intro i s hk' hi hst kp hS hR
    have hlt : i < n := by omega
    refine codeAny_builtin F.entry_set_update_loop ?_
    rw [Around.under_plainId F.plain_set_update_loop _]
    show wpAny _ A.in1 (pyNext (.ref I) >>= _) _ _ s
    refine wpAny_bind (W.item i s _ _ hlt hst fun v s' hP hst' hm => ?_)
    obtain ⟨p, hp, rfl⟩ := hval i v hP
    have kp' := old hm kp
    obtain ⟨L, es, ep, t, hS', g1, g2, g3⟩ := still hm kp' hS
    have hx : IsW P w s'.heap p.2 p.1 := (hk p (List.mem_of_getElem? hp)).up fun o e => kp' _ o e
    show wpAny _ A.in1 (holding [Value.ref p.1] (setAdd S (.ref p.1)) >>= _) _ _ s'
    refine wpAny_bind (wpAny_holding ?_)
    unfold setAdd
    refine wpAny_holding (wpAny_bind (wpAny_pyHash_tuple hu hx ?_))
    refine add (s := { s' with toks := s'.toks + (p.2.length + 1) }) hS' hx hu (by
      rcases few with z | z
      · omega
      · have := z L g1 hS'.nd
        omega) fun b g L2 es2 ep2 t2 sb hS2 cs => ?_
    have next : HasW P w g S xs (i + 1) := by
      refine ⟨L2, es2, ep2, t2, hS2, ?_⟩
      have e2 : xs.take (i + 1) = xs.take i ++ [p] := by
        rw [List.take_add_one, hp]
        rfl
      rcases cs with ⟨rfl, hm⟩ | pm
      · refine ⟨g1, fun q hq => ?_, by omega⟩
        rw [e2] at hq
        rcases List.mem_append.mp hq with z | z
        · exact g2 q z
        · rw [List.mem_singleton.mp z]
          exact hm
      · refine ⟨fun q hq => ?_, fun q hq => ?_, ?_⟩
        · rcases List.mem_cons.mp (pm.mem_iff.mp hq) with rfl | z
          · exact List.mem_of_getElem? hp
          · exact g1 q z
        · refine (pm.map (·.2)).mem_iff.mpr ?_
          rw [e2] at hq
          rcases List.mem_append.mp hq with z | z
          · exact List.mem_cons_of_mem _ (g2 q z)
          · rw [List.mem_singleton.mp z]
            exact List.mem_cons_self
        · rw [pm.length_eq, List.length_cons]
          omega
    have kp2 : ∀ b o, h0.get? b = some o → g.get? b = some o := fun b o e => (sb.2 b (fun z => by rw [z, hS0] at e; cases e)).trans (kp' b o e)
    refine wpAny_pure ⟨plainId_quiet F.plain_set_update_loop _, ih (i + 1) _ (by omega) hlt (W.frame _ s' _ _ hst' (Nat.le_add_right _ _) fun b hb o e => ?_) kp2 next fun s'' hm'' hS'' => ?_⟩
    · rw [sb.2 b (fun h : b = S => hSf (by rw [← h]; exact hb))]
      exact e
    · refine hR s'' (Moved.trans W.gtrans ((hm.mono sub).then_heap (Nat.le_add_right _ _) fun b o hb e => ?_) hm'') hS''
      rw [sb.2 b (fun h : b = S => hb (by rw [h]; exact List.mem_cons_self))]
      exact e
theorem make {t : Bool} {l : Addr} {items : Array Value} (xs : List Row) {Q : Value → Shared → Prop} (hh : A.handled = none) (hl : Sq t s.heap l items) (hv : ∀ (i : Nat) (v : Value), items[i]? = some v → ∃ p, xs[i]? = some p ∧ v = .ref p.1) (hz : items.size = xs.length) (hb : Few xs) (hk : ∀ p ∈ xs, IsW P w s.heap p.2 p.1) (hu : A.units + 3 < cLine)
    (h : ∀ (g : Heap) (tk : Nat), HasW P w g s.heap.objs.size xs xs.length → (∀ b o, s.heap.get? b = some o → g.get? b = some o) → Q (.ref s.heap.objs.size) { s with heap := g, toks := tk }) : wpAny (model P w) A (call (.type "set") [.ref l]) Q E s := by
  have gone : ∀ b, s.heap.objs.size ≤ b → s.heap.get? b = none := fun b hb => by
    cases q : s.heap.get? b with
    | none => rfl
    | some o => exact absurd (Nat.lt_of_lt_of_le (Heap.lt_size q) hb) (Nat.lt_irrefl _)
  obtain ⟨c0, tl, hmro⟩ := F.called_set.mro
  have hmade := F.called_set.made
  have hsub := F.called_set.sub
  refine wpAny_call (codeAny_of_tree ?_)
  show wpAny _ _ (callAny (.type "set") _) _ _ s
  refine wpAny_pure ⟨Code.quiet_builtin _ (by decide +kernel), codeAny_builtin F.entry_type_call ?_⟩
  rw [Around.under_plain (weight_type_call_type "set" [.ref l] []) rfl]
  have k1 := F.called_set.notType
  have k2 := F.called_set.canCreate
  have hct := F.typeCall_set_1 (.ref l)
  repeat (any_goals (first | assumption | wp_step))
  refine codeAny_mono (code_set_led1 (.ref l) (E := E) (Q₁ := fun obj s₁ => obj = .ref s.heap.objs.size ∧ s₁ = { s with heap := s.heap.push (fresh0 w) }) ⟨rfl, rfl⟩) fun r s₁ hr => ?_
  cases r with
  | error e => exact hr
  | ok fl =>
    cases fl with
    | ret obj =>
      obtain ⟨rfl, rfl⟩ := hr
      have hS : (s.heap.push (fresh0 w)).get? s.heap.objs.size = some (fresh0 w) := Heap.get?_push_size _ rfl
      have hT : Shared.TypeIs { s with heap := s.heap.push (fresh0 w) } (.ref s.heap.objs.size) "set" := ⟨_, hS, rfl⟩
      have hli := F.called_set.init.lookup
      have hbi := F.called_set.init.bind (.ref s.heap.objs.size)
      repeat (any_goals (first | assumption | wp_step))
      refine codeAny_mono (codeAny_call_builtin (R := wants (fun r s₂ => r = .none ∧ ∃ g tk, s₂ = { s with heap := g, toks := tk } ∧ HasW P w g s.heap.objs.size xs xs.length ∧ (∀ b o, s.heap.get? b = some o → g.get? b = some o)) E) F.called_set.init.plain F.entry_set_init (check_set_init_1 hT ?_)) fun r₂ s₂ hr₂ => ?_
      · have hlS : l < s.heap.objs.size := by
          cases t with
          | false => obtain ⟨_, e, _⟩ := hl; exact Heap.lt_size e
          | true => obtain ⟨_, e, _⟩ := hl; exact Heap.lt_size e
        have hneI : l ≠ (s.heap.push (fresh0 w)).objs.size := by
          rw [Heap.size_push]
          exact Nat.ne_of_lt (Nat.lt_succ_of_lt hlS)
        have hSf : s.heap.objs.size ∉ [(s.heap.push (fresh0 w)).objs.size, l] := by
          rw [Heap.size_push]
          simp only [List.mem_cons, List.mem_singleton, List.not_mem_nil, or_false, not_or]
          exact ⟨Nat.ne_of_lt (Nat.lt_succ_self _), Nat.ne_of_gt hlS⟩
        have hh3 : A.in1.in1.in1.handled = none := by simp [hh]
        have fin : ∀ {s' : Shared}, Moved [s.heap.objs.size, (s.heap.push (fresh0 w)).objs.size] (fun x y => y = x) { s with heap := (s.heap.push (fresh0 w)).push { cls := .type (icl t), data := .fields #[.ref l, .int 0 0] } } s' → HasW P w s'.heap s.heap.objs.size xs items.size →
            ∃ g tk, s' = { s with heap := g, toks := tk } ∧ HasW P w g s.heap.objs.size xs xs.length ∧ ∀ b o, s.heap.get? b = some o → g.get? b = some o := by
          intro s' hm hS'
          obtain ⟨g, g2, d', tk', os'⟩ := s'
          have eg : g2 = s.gens := hm.gens
          have ed : d' = s.drawn := hm.drawn
          have eo : os' = s.os := hm.os
          subst eg ed eo
          refine ⟨g, tk', rfl, hz ▸ hS', fun b o e => ?_⟩
          have hb0 : b < s.heap.objs.size := Heap.lt_size e
          have hb2 : b ≠ (s.heap.push (fresh0 w)).objs.size := by
            rw [Heap.size_push]
            exact Nat.ne_of_lt (Nat.lt_succ_of_lt hb0)
          exact hm.heap b o (by simp only [List.mem_cons, List.mem_singleton, List.not_mem_nil, or_false, not_or]; exact ⟨Nat.ne_of_lt hb0, hb2⟩) (Heap.get?_push_of_some _ (Heap.get?_push_of_some _ e))
        cases t with
        | true =>
          obtain ⟨⟨ocls, odict, odata, oslots⟩, hol, hcl, nl, hdl⟩ := hl
          simp only at hcl hdl
          subst hcl hdl
          have hol' : (s.heap.push (fresh0 w)).get? l = some { cls := .type "tuple", dict := odict, data := .seq items nl, slots := oslots } := Heap.get?_push_of_some _ hol
          have hsls := F.sub_tuple_set
          have hslf := F.sub_tuple_frozenset
          have hne : (Value.type "tuple" == Value.type "dict") = false := by decide
          have hl1 : (s.heap.push (fresh0 w)).IsTuple l items := ⟨_, hol', rfl, nl, rfl⟩
          unfold Builtin.«set.__init__» noKeywords Builtin.Frozenset.updateFrom
          generalize hPI : pyIter = PI
          wp_walk
          subst hPI
          refine wpAny_pyIter_tuple hl1 (wpAny_bind (wpAny_runValue ?_))
          refine update ((Walks.tuple hh3 _ l hneI items).toS) s.heap.objs.size hSf xs hz hb hv s.heap hk (gone _ (Nat.le_refl _)) (fun b hb => gone b (by
            rw [List.mem_singleton.mp hb, Heap.size_push]
            exact Nat.le_succ _)) (by simp; omega) (items.size - 0) 0 _ (by omega) (Nat.zero_le _) ⟨⟨_, Heap.get?_push_size _ rfl, rfl, rfl⟩, (hl1.push _)⟩ (fun b o e => Heap.get?_push_of_some _ (Heap.get?_push_of_some _ e)) (HasW.new (Heap.get?_push_of_some _ hS)) fun s' hm hS' => ?_
          show wpAny _ _ _ _ _ _
          refine wpAny_pure ?_
          show wpAny _ _ (ret Value.none) _ _ _
          exact wpAny_pure ⟨rfl, fin hm hS'⟩
        | false =>
          obtain ⟨⟨ocls, odict, odata, oslots⟩, hol, hcl, nl, hdl⟩ := hl
          simp only at hcl hdl
          subst hcl hdl
          have hol' : (s.heap.push (fresh0 w)).get? l = some { cls := .type "list", dict := odict, data := .seq items nl, slots := oslots } := Heap.get?_push_of_some _ hol
          have hsls := F.sub_list_set
          have hslf := F.sub_list_frozenset
          have hne : (Value.type "list" == Value.type "dict") = false := by decide
          have hl1 : (s.heap.push (fresh0 w)).IsList l items := ⟨_, hol', rfl, nl, rfl⟩
          unfold Builtin.«set.__init__» noKeywords Builtin.Frozenset.updateFrom
          generalize hPI : pyIter = PI
          wp_walk
          subst hPI
          refine wpAny_pyIter_list hl1 (wpAny_bind (wpAny_runValue ?_))
          refine update ((Walks.list hh3 _ l hneI items).toS) s.heap.objs.size hSf xs hz hb hv s.heap hk (gone _ (Nat.le_refl _)) (fun b hb => gone b (by
            rw [List.mem_singleton.mp hb, Heap.size_push]
            exact Nat.le_succ _)) (by simp; omega) (items.size - 0) 0 _ (by omega) (Nat.zero_le _) ⟨⟨_, Heap.get?_push_size _ rfl, rfl, rfl⟩, (hl1.push _)⟩ (fun b o e => Heap.get?_push_of_some _ (Heap.get?_push_of_some _ e)) (HasW.new (Heap.get?_push_of_some _ hS)) fun s' hm hS' => ?_
          show wpAny _ _ _ _ _ _
          refine wpAny_pure ?_
          show wpAny _ _ (ret Value.none) _ _ _
          exact wpAny_pure ⟨rfl, fin hm hS'⟩
      · cases r₂ with
        | error e => exact hr₂
        | ok fl₂ =>
          cases fl₂ with
          | ret r =>
            obtain ⟨rfl, g, tk, rfl, hS', hk'⟩ := hr₂
            repeat (any_goals (first | assumption | wp_step))
            exact h _ _ hS' hk'
          | _ => exact hr₂.elim
    | _ => exact hr.elim
end
end NS
namespace NS
open PySem PySem.Spec PyProof.Rows L2
theorem perm_map {α β : Type} {f : α → β} {xs ys : List β} (pm : xs.Perm ys) : ∀ L : List α, ys = L.map f → ∃ L1 : List α, L1.Perm L ∧ xs = L1.map f := by
  induction pm with
  | nil => exact fun L h => ⟨L, List.Perm.refl _, h⟩
  | cons x p ih =>
    intro L h
    cases L with
    | nil => cases h
    | cons a L =>
      rw [List.map_cons] at h
      injection h with h1 h2
      obtain ⟨L1, p1, e1⟩ := ih L h2
      exact ⟨a :: L1, p1.cons a, by rw [List.map_cons, ← e1, h1]⟩
  | swap x y l =>
    intro L h
    cases L with
    | nil => cases h
    | cons a L =>
      cases L with
      | nil => simp at h
      | cons b L =>
        simp only [List.map_cons] at h
        injection h with h1 h2
        injection h2 with h2 h3
        exact ⟨b :: a :: L, List.Perm.swap a b L, by simp [h1, h2, h3]⟩
  | trans p1 p2 ih1 ih2 =>
    intro L h
    obtain ⟨L2, q2, e2⟩ := ih2 L h
    obtain ⟨L1, q1, e1⟩ := ih1 L2 e2
    exact ⟨L1, q1.trans q2, e1⟩
abbrev encR (p : Row) : PyData := .tuple (p.2.map PyData.str)
theorem reads_items {P : Program} {w : World} {g : Heap} : ∀ {k : List Str} {vs : List Value}, ItemsAre (KS P w) k vs → ReadsAll g vs (k.map PyData.str) []
  | _, _, .nil => .nil
  | _, _, .cons h1 h2 => by
    obtain ⟨t, rfl⟩ := Value.isStrOf_shape h1
    exact .cons (as := []) (bs := []) (.str _ t) (reads_items h2)
theorem IsW.reads {P : Program} {w : World} {g : Heap} {k : List Str} {a : Addr} (x : IsW P w g k a) : Reads g (.ref a) (.tuple (k.map PyData.str)) [] := by
  obtain ⟨o, its, n, h1, h2, h3, h4⟩ := x
  exact .tuple h1 h2 h3 (reads_items h4)
theorem each_refs {R : Value → Row → Prop} (h : ∀ p : Row, R (.ref p.1) p) : ∀ L : List Row, PySem.W.EachIs R (L.map fun p => Value.ref p.1) L
  | [] => .nil
  | p :: L => .cons (h p) (each_refs h L)
theorem each_of_mem {R S : Value → Row → Prop} : ∀ {vs : List Value} {L : List Row}, PySem.W.EachIs R vs L → (∀ v p, p ∈ L → R v p → S v p) → PySem.W.EachIs S vs L
  | _, _, .nil, _ => .nil
  | _, _, .cons h t, q => .cons (q _ _ List.mem_cons_self h) (each_of_mem t fun v p hp => q v p (List.mem_cons_of_mem _ hp))
theorem refs_of_each : ∀ {vs : List Value} {L : List Row}, PySem.W.EachIs (fun v p => v = Value.ref p.1) vs L → vs = L.map fun p => Value.ref p.1
  | _, _, .nil => rfl
  | _, _, .cons h t => by rw [h, refs_of_each t]; rfl
theorem dep_strs : ∀ xs : List Str, PyData.depthAll (xs.map PyData.str) = 0
  | [] => rfl
  | x :: xs => by simp [PyData.depthAll, PyData.depth, dep_strs xs]
section
variable {P : Program} {w : World} {A : Around} {E : Value → Shared → Prop} {s : Shared} {a : Addr} {L : List Row} {es : Array (Int × Value)} {ep : Nat} {t : SetTable}
theorem sorted_of {Q : Value → Shared → Prop} (R : SetW P w s.heap a L es ep t) (hh : A.handled = none) (hu : A.units + 4 < cLine)
    (hQ : ∀ s' p (c : Nat) (L1 : List Row), (∀ b o, s.heap.get? b = some o → s'.heap.get? b = some o) → s'.gens = s.gens → s'.os = s.os → s.heap.objs.size ≤ p → L1.Perm L → s'.heap.get? p = some (seqObj "list" ((L1.mergeSort (PySem.W.dataLe false encR)).map fun p => Value.ref p.1).toArray c) → Q (.ref p) s') :
    wpAny (model P w) A (call (.builtin "sorted") [.ref a]) Q E s := by
  obtain ⟨o, ho, hex, hd⟩ := R.ob
  refine Calls.call_function_entry kind_sorted plain_sorted entry_sorted (args_sorted1 _) ?_
  unfold Builtin.«sorted»
  refine wpAny_bind (m := checkCount "sorted" 1 1 _) (wpAny_pure (wpAny_bind (collect_set (A := A.in1) hh ⟨o, ho, hex.1, hd⟩ R.fits (by rw [len_of R.rows]; have := R.few; unfold scanBound; omega) R.tab.ris R.led fun s1 vs k1 hz g1 o1 pm => ?_)))
  have hes : es.toList.map (·.2) = L.map fun p => Value.ref p.1 := by
    rw [R.rows]
    unfold rws
    rw [List.map_map]
    rfl
  rw [hes] at pm
  obtain ⟨L1, p1, e1⟩ := perm_map pm L rfl
  have few := R.few
  have hvl : vs.length = L.length := by rw [pm.length_eq, List.length_map]
  refine wpAny_bind (wpAny_newList ?_ (by rw [hvl, sizeLine_eq]; omega))
  have hoL : (s1.heap.push (seqObj "list" vs.toArray 0)).get? s1.heap.objs.size = some (seqObj "list" vs.toArray 0) := Heap.get?_push_size _ rfl
  have hea : PySem.W.EachIs (fun v p => v = Value.ref p.1) vs L1 := e1 ▸ each_refs (fun _ => rfl) L1
  have up : ∀ b o, s.heap.get? b = some o → (PySem.W.sortingHeap (s1.heap.push (seqObj "list" vs.toArray 0)) s1.heap.objs.size vs).get? b = some o := fun b o e => by
    have z := k1 b o e
    exact PySem.W.sortingHeap_old (Nat.ne_of_lt (Heap.lt_size z)) (Heap.get?_push_of_some _ z)
  have er : PySem.W.EachIs (fun v p => ∃ as, Reads (PySem.W.sortingHeap (s1.heap.push (seqObj "list" vs.toArray 0)) s1.heap.objs.size vs) v (encR p) as) vs L1 := each_of_mem hea fun v p hp e => by
    rw [e]
    exact ⟨[], ((R.tup p (p1.mem_iff.mp hp)).up fun o e => up _ o e).reads⟩
  have hal : PySem.W.AllAlike (L1.map encR) := fun x hx y hy => by
    obtain ⟨i, _, rfl⟩ := List.mem_map.mp hx
    obtain ⟨j, _, rfl⟩ := List.mem_map.mp hy
    simp [PySem.W.alike, DL.alike_strs]
  have ht : ∀ d, d ∈ L1.map encR → ∃ xs, d = PyData.tuple xs := fun d hd => by
    obtain ⟨i, _, rfl⟩ := List.mem_map.mp hd
    exact ⟨_, rfl⟩
  have hdep : ∀ d, d ∈ L1.map encR → A.in1.in1.units + d.depth < cLine := fun d hd => by
    obtain ⟨i, _, rfl⟩ := List.mem_map.mp hd
    show A.in1.in1.units + (PyData.depthAll _ + 1) < cLine
    rw [dep_strs]
    have : A.in1.in1.units ≤ A.units + 2 := by simp
    omega
  have er2 := PySem.W.each_map (R := fun v d => ∃ as, Reads (PySem.W.sortingHeap (s1.heap.push (seqObj "list" vs.toArray 0)) s1.heap.objs.size vs) v d as) encR er
  refine wpAny_bind (wpAny_holding (PySem.wpAny_call_entry F.slot_list_sort ⟨_, hoL, rfl⟩ F.entry_list_sort (PySem.W.list_sort_vals (κ := PySem.W.dataKind (PySem.W.sortingHeap (s1.heap.push (seqObj "list" vs.toArray 0)) s1.heap.objs.size vs) (L1.map encR)) (s := { s1 with heap := s1.heap.push (seqObj "list" vs.toArray 0) }) hoL (SE.SortsAt.tups (s := { s1 with heap := PySem.W.sortingHeap (s1.heap.push (seqObj "list" vs.toArray 0)) s1.heap.objs.size vs }) er2 hal ht hdep) (by rw [hvl, sizeLine_eq]; omega) ⟨.none, rfl, ?_⟩) (args_list_sort _)))
  have out := refs_of_each (PySem.W.sortVals_data false hea er hal)
  rw [out]
  obtain ⟨c, hc⟩ := sortedHeap_at (vs := vs) (out := ((L1.mergeSort (PySem.W.dataLe false encR)).map fun p => Value.ref p.1).toArray) hoL
  refine wpAny_pure ⟨_, rfl, hQ _ s1.heap.objs.size c L1 (fun b u e => ?_) g1 o1 hz p1 hc⟩
  have z := k1 b u e
  have hlt := Heap.lt_size z
  show (sortedHeap (s1.heap.push (seqObj "list" vs.toArray 0)) s1.heap.objs.size vs _).get? b = some u
  rw [sortedHeap_old (Nat.ne_of_lt hlt) (by rw [Heap.size_push]; exact Nat.lt_succ_of_lt hlt)]
  exact Heap.get?_push_of_some _ z
end
def SetO (P : Program) (w : World) (a : Addr) (L : List Row) : HO := .ext fun g => ∃ es ep t, (∃ o, g.get? a = some o ∧ o.ExactSet ∧ o.data = .set es ep t) ∧ es.toList = rws P w L ∧ SW.TabG t (L.map fun p => wh P w p.2) ∧ (L.map (·.2)).Nodup ∧ (w.params.followText "set-order" = true ∨ t.led = true) ∧ L.length * 5 < t.mask * 3 ∧ L.length < 306
theorem setO_new {P : Program} {w : World} {H : Hp} {g : Heap} {a : Addr} {L : List Row} {es : Array (Int × Value)} {ep : Nat} {t : SetTable} (R : SetW P w g a L es ep t) : ObjOk P w H g a (SetO P w a L) := by
  have ⟨o, ho, _⟩ := R.ob
  exact ⟨⟨es, ep, t, R.ob, R.rows, R.tab, R.nd, R.led, R.room, R.few⟩, ⟨o, ho⟩, fun h1 h2 ⟨es, ep, t, ⟨o, e1, e2⟩, r⟩ k => ⟨es, ep, t, ⟨o, k _ e1, e2⟩, r⟩⟩
section
variable {X : Cx} {pins : List (Addr × Obj)} {σ : L2.St} {H : Hp} {s : Shared}
theorem items_of : ∀ {k : List Str} {us : List Value}, Vals (k.map V.str) us → ∀ {P : Program} {w : World}, ItemsAre (KS P w) k us
  | [], _, h, _, _ => by cases h; exact .nil
  | x :: k, _, h, P, w => by
    cases h with
    | cons r rs =>
      obtain ⟨t, rfl⟩ := r
      exact .cons (SX.is_t x t) (items_of rs)
theorem isW_of (I : Inv X pins σ H s) {b : Addr} {k : List Str} (h : SqT X.K H b (k.map V.str)) : IsW X.prog X.w s.heap k b := by
  obtain ⟨its, rv, hl, _⟩ := I.tuple h
  obtain ⟨o, h1, h2, n, h3⟩ := hl
  exact ⟨o, _, n, h1, h2, h3, items_of rv⟩
theorem refs_of {L : List Row} : ∀ {us : List Value}, Vals (L.map fun p => V.ref p.1) us → us = L.map fun p => Value.ref p.1 := by
  induction L with
  | nil => intro us h; cases h; rfl
  | cons p L ih =>
    intro us h
    cases h with
    | cons r rs =>
      have r' : _ = Value.ref p.1 := r
      rw [r', ih rs]
      rfl
theorem vals_refs : ∀ L : List Row, Vals (L.map fun p => V.ref p.1) (L.map fun p => Value.ref p.1)
  | [] => .nil
  | p :: L => .cons rfl (vals_refs L)
def rSetN (K : PySem.W.Frag) (P : Program) (w : World) : List V → Hp → VK → Prop := fun xs H Q => ∃ (l : Addr) (ks : List Row) (t : Bool), xs = [.ref l] ∧ ZS.SqB K H t l (ks.map fun p => V.ref p.1) ∧ (∀ p ∈ ks, SqT K H p.1 (p.2.map V.str)) ∧ Few ks ∧
  ∀ (a : Addr) (L : List Row), H a = none → (∀ p ∈ L, p ∈ ks) → (∀ p ∈ ks, p.2 ∈ L.map (·.2)) → (L.map (·.2)).Nodup → Q (.ref a) (upd H a (SetO P w a L))
theorem cr_setN (hc : X.calm = true) (hu : X.A.units + 3 < cLine) : CallR X (.type "set") (rSetN X.K X.prog X.w) := by
  intro pins s σ H xs us Q I r h
  obtain ⟨l, ks, t, rfl, hq, ht, few, q⟩ := h
  obtain ⟨its, rv, hs, _⟩ := ZS.sq_of I hq
  rw [Vals.ref1 r]
  have e := refs_of rv
  subst e
  refine make ks (I.ok.hd hc) hs (fun i v z => ?_) (by simp) few (fun p hp => isW_of I (ht p hp)) hu fun g tk hW hk => ?_
  · have z : (ks.map fun p => Value.ref p.1)[i]? = some v := by simpa using z
    rw [List.getElem?_map] at z
    obtain ⟨p, hp, rfl⟩ := Option.map_eq_some_iff.mp z
    exact ⟨p, hp, rfl⟩
  · obtain ⟨L, es, ep, tb, R, g1, g2, _⟩ := hW
    rw [List.take_length] at g2
    exact ⟨.ref _, upd H s.heap.objs.size (SetO X.prog X.w s.heap.objs.size L), I.laid (t' := tk) hk (Nat.le_refl _) (setO_new R), rfl, q _ L (I.hok.fresh (Nat.le_refl _)) g1 g2 R.nd⟩
def rSortN (K : PySem.W.Frag) (P : Program) (w : World) : List V → Hp → VK → Prop := fun xs H Q => ∃ (a : Addr) (L : List Row), xs = [.ref a] ∧ H a = some (SetO P w a L) ∧ (∀ p ∈ L, SqT K H p.1 (p.2.map V.str)) ∧
  ∀ (L1 : List Row) (p : Addr), L1.Perm L → H p = none → Q (.ref p) (upd H p (.lst ((L1.mergeSort (PySem.W.dataLe false encR)).map fun q => V.ref q.1)))
theorem cr_sortN (hc : X.calm = true) (hu : X.A.units + 4 < cLine) : CallR X (.builtin "sorted") (rSortN X.K X.prog X.w) := by
  intro pins s σ H xs us Q I r h
  obtain ⟨a, L, rfl, ha, ht, q⟩ := h
  rw [Vals.ref1 r]
  obtain ⟨⟨es, ep, t, r1, r2, r3, r4, r5, r6, r7⟩, _⟩ := I.hok a _ ha
  refine sorted_of (L := L) (es := es) (ep := ep) (t := t) ⟨r1, r2, r3, r4, fun p hp => isW_of I (ht p hp), r5, r6, r7⟩ (I.ok.hd hc) hu fun s' p c L1 k1 g1 o1 hp pm hob => ?_
  obtain ⟨g, gg, dd, tk, os⟩ := s'
  have e1 : gg = s.gens := g1
  have e2 : os = s.os := o1
  subst e1 e2
  have hlen : ((L1.mergeSort (PySem.W.dataLe false encR)).map fun q => V.ref q.1).length ≤ sizeLine := by
    rw [List.length_map, List.length_mergeSort, sizeLine_eq, pm.length_eq]
    omega
  exact ⟨.ref p, upd H p (.lst ((L1.mergeSort (PySem.W.dataLe false encR)).map fun q => V.ref q.1)), (SX.inv_drawn I dd).laid (t' := tk) k1 hp ⟨hlen, _, c, vals_refs _, hob⟩, rfl, q L1 p pm (I.hok.fresh hp)⟩
end
theorem cr_or {X : Cx} {f : Value} {r1 r2 : List V → Hp → VK → Prop} (h1 : CallR X f r1) (h2 : CallR X f r2) : CallR X f fun xs H Q => r1 xs H Q ∨ r2 xs H Q := by
  intro pins s σ H xs us Q I r h
  rcases h with h | h
  · exact h1 pins s σ H xs us Q I r h
  · exact h2 pins s σ H xs us Q I r h
end NS
namespace DL
open PySem PySem.Spec PyProof.Rows L2
variable [Tb]
def strsP : List P → Option (List Str)
  | [] => some []
  | .str x :: ps => (strsP ps).map (x :: ·)
  | _ :: _ => none
theorem strsP_of : ∀ {ps : List P} {ks : List Str}, strsP ps = some ks → ps = ks.map .str
  | [], ks, h => by cases h; rfl
  | .str x :: ps, ks, h => by
    unfold strsP at h
    obtain ⟨r, h1, rfl⟩ := Option.map_eq_some_iff.mp h
    rw [strsP_of h1]
    rfl
  | .int _ :: _, _, h => by cases h
  | .bl _ :: _, _, h => by cases h
  | .non :: _, _, h => by cases h
  | .lst _ :: _, _, h => by cases h
  | .frz _ :: _, _, h => by cases h
  | .tup _ :: _, _, h => by cases h
  | .dic _ _ :: _, _, h => by cases h
theorem strsP_map : ∀ ks : List Str, strsP (ks.map .str) = some ks
  | [] => rfl
  | k :: ks => by
    show (strsP (ks.map .str)).map (k :: ·) = _
    rw [strsP_map ks]
    rfl
def ddS : List Str → List Str
  | [] => []
  | x :: xs => if x ∈ xs then ddS xs else x :: ddS xs
theorem mem_ddS : ∀ {xs : List Str} {k : Str}, k ∈ ddS xs ↔ k ∈ xs
  | [], k => Iff.rfl
  | x :: xs, k => by
    unfold ddS
    split
    · rename_i h
      rw [mem_ddS, List.mem_cons]
      exact ⟨.inr, fun z => z.elim (fun e => e ▸ h) id⟩
    · rw [List.mem_cons, List.mem_cons, mem_ddS]
theorem nd_ddS : ∀ xs : List Str, (ddS xs).Nodup
  | [] => .nil
  | x :: xs => by
    unfold ddS
    split
    · exact nd_ddS xs
    · rename_i h
      exact List.nodup_cons.mpr ⟨fun z => h (mem_ddS.mp z), nd_ddS xs⟩
def txts : List P → Option (List Str)
  | [.lst ps] => match strsP ps with
    | some ks => if ks.length ≤ 1000 ∧ (ks.all PyData.strOk) = true then some ks else none
    | none => none
  | [.frz ps] => match strsP ps with
    | some ks => if ks.length ≤ 1000 ∧ (ks.all PyData.strOk) = true then some ks else none
    | none => none
  | [.tup ps] => match strsP ps with
    | some ks => if ks.length ≤ 1000 ∧ (ks.all PyData.strOk) = true then some ks else none
    | none => none
  | _ => none
def stsP : List P → Option (List (List Str))
  | [] => some []
  | .tup qs :: ps => match strsP qs, stsP ps with
    | some k, some r => some (k :: r)
    | _, _ => none
  | _ :: _ => none
theorem stsP_of : ∀ {ps : List P} {kss : List (List Str)}, stsP ps = some kss → ps = kss.map stP
  | [], kss, h => by cases h; rfl
  | .tup qs :: ps, kss, h => by
    unfold stsP at h
    split at h
    · rename_i k r h1 h2
      cases h
      rw [strsP_of h1, stsP_of h2]
      rfl
    · cases h
  | .str _ :: _, _, h => by cases h
  | .int _ :: _, _, h => by cases h
  | .bl _ :: _, _, h => by cases h
  | .non :: _, _, h => by cases h
  | .lst _ :: _, _, h => by cases h
  | .frz _ :: _, _, h => by cases h
  | .dic _ _ :: _, _, h => by cases h
theorem stsP_map : ∀ kss : List (List Str), stsP (kss.map stP) = some kss
  | [] => rfl
  | k :: kss => by
    show (match strsP (k.map .str), stsP (kss.map stP) with | some k, some r => some (k :: r) | _, _ => none) = _
    rw [strsP_map, stsP_map kss]
def ddL : List (List Str) → List (List Str)
  | [] => []
  | x :: xs => if x ∈ xs then ddL xs else x :: ddL xs
theorem mem_ddL : ∀ {xs : List (List Str)} {k : List Str}, k ∈ ddL xs ↔ k ∈ xs
  | [], k => Iff.rfl
  | x :: xs, k => by
    unfold ddL
    split
    · rename_i h
      rw [mem_ddL, List.mem_cons]
      exact ⟨.inr, fun z => z.elim (fun e => e ▸ h) id⟩
    · rw [List.mem_cons, List.mem_cons, mem_ddL]
theorem nd_ddL : ∀ xs : List (List Str), (ddL xs).Nodup
  | [] => .nil
  | x :: xs => by
    unfold ddL
    split
    · exact nd_ddL xs
    · rename_i h
      exact List.nodup_cons.mpr ⟨fun z => h (mem_ddL.mp z), nd_ddL xs⟩
def okL (kss : List (List Str)) : Prop := (kss.length < 306 ∨ (ddL kss).length < 305) ∧ (kss.all fun k => k.all PyData.strOk) = true
instance (kss : List (List Str)) : Decidable (okL kss) := inferInstanceAs (Decidable (_ ∧ _))
def itemsP : List P → Option (List P)
  | [.lst ps] => some ps
  | [.frz ps] => some ps
  | [.tup ps] => some ps
  | _ => none
def tups (ps : List P) : Option (List (List Str)) := (itemsP ps).bind fun qs => (stsP qs).bind fun kss => if okL kss then some kss else none
noncomputable def bSortSet (ps : List P) : Option P := match txts ps with
  | some ks => some (P.lst (srt ((ddS ks).map .str)))
  | none => (tups ps).map fun kss => P.lst (srt ((ddL kss).map stP))
theorem is_strs {K : PySem.W.Frag} {G : Hp} : ∀ {ks : List Str} {xs : List V}, IsAll K G (ks.map .str) xs → xs = ks.map V.str
  | [], _, h => h
  | k :: ks, _, ⟨v, vs, h1, h2, h3⟩ => by
    subst h1
    have h2' : v = .str k := h2
    rw [h2', is_strs h3]
    rfl
theorem all_strs {K : PySem.W.Frag} {G : Hp} : ∀ ks : List Str, IsAll K G (ks.map .str) (ks.map V.str)
  | [] => rfl
  | k :: ks => ⟨_, _, rfl, rfl, all_strs ks⟩
theorem txts_is {K : PySem.W.Frag} {m : Mp} {H : Hp} {ps : List P} {ks : List Str} {vs : List V} (h : txts ps = some ks) (i : IsRs K m H ps vs) : ∃ a t, vs = [.ref a] ∧ ZS.SqB K H t a (ks.map V.str) ∧ ks.length ≤ 1000 ∧ ∀ k ∈ ks, PyData.strOk k = true := by
  unfold txts at h
  split at h
  · split at h
    · rename_i ks' e
      split at h
      · rename_i hc
        cases h
        obtain ⟨x, rfl, h0⟩ := i.one
        obtain ⟨a, ys, rfl, h1, h2⟩ := sq_r h0
        rw [strsP_of e] at h2
        rw [is_strs h2] at h1
        exact ⟨a, false, rfl, h1, hc.1, List.all_eq_true.mp hc.2⟩
      · cases h
    · cases h
  · split at h
    · rename_i ks' e
      split at h
      · rename_i hc
        cases h
        obtain ⟨x, rfl, h0⟩ := i.one
        obtain ⟨a, ys, rfl, h1, h2⟩ := sq_f h0
        rw [strsP_of e] at h2
        rw [is_strs h2] at h1
        exact ⟨a, false, rfl, h1, hc.1, List.all_eq_true.mp hc.2⟩
      · cases h
    · cases h
  · split at h
    · rename_i ks' e
      split at h
      · rename_i hc
        cases h
        obtain ⟨x, rfl, h0⟩ := i.one
        obtain ⟨a, ys, rfl, h1, h2⟩ := sq_t h0
        rw [strsP_of e] at h2
        rw [is_strs h2] at h1
        exact ⟨a, true, rfl, h1, hc.1, List.all_eq_true.mp hc.2⟩
      · cases h
    · cases h
  · cases h
theorem py_strs (k : Str) : pyOf (.str k) = PyData.str k := rfl
theorem sort_strs (bs : List Str) : (bs.mergeSort (PySem.W.dataLe false PyData.str)).map P.str = srt (bs.map .str) := by
  unfold srt
  exact List.map_mergeSort (fun a _ b _ => rfl)
theorem cmp_strs {ks : List Str} (h : ∀ k ∈ ks, PyData.strOk k = true) : Cmp (ks.map .str) := ⟨fun p hp => by
    obtain ⟨k, hk, rfl⟩ := List.mem_map.mp hp
    exact (pl_str (h k hk)).1, fun p hp q hq => by
    obtain ⟨k, hk, rfl⟩ := List.mem_map.mp hp
    obtain ⟨j, hj, rfl⟩ := List.mem_map.mp hq
    rw [py_strs, py_strs]
    simp [PySem.W.alike]⟩
theorem perm_nd {as bs : List Str} (h1 : as.Nodup) (h2 : bs.Nodup) (h : ∀ k, k ∈ as ↔ k ∈ bs) : as.Perm bs := by
  induction as generalizing bs with
  | nil =>
    cases bs with
    | nil => exact .nil
    | cons b bs => exact absurd ((h b).mpr (List.mem_cons_self ..)) (by simp)
  | cons a as ih =>
    have ha : a ∈ bs := (h a).mp (List.mem_cons_self ..)
    have p := List.perm_cons_erase ha
    refine (List.Perm.cons a (ih (List.nodup_cons.mp h1).2 (h2.erase a) fun k => ?_)).trans p.symm
    rw [h2.mem_erase_iff, ← h k, List.mem_cons]
    exact ⟨fun z => ⟨fun e => (List.nodup_cons.mp h1).1 (e ▸ z), .inr z⟩, fun ⟨n, z⟩ => z.elim (fun e => absurd e n) id⟩
section
variable {X : Cx} {e : Expr} {p p2 pos q : Pos} {g : FA}
theorem items_is {K : PySem.W.Frag} {m : Mp} {H : Hp} {ps qs : List P} {vs : List V} (h : itemsP ps = some qs) (i : IsRs K m H ps vs) : ∃ a t xs, vs = [.ref a] ∧ ZS.SqB K H t a xs ∧ IsAll K (mask m H) qs xs := by
  unfold itemsP at h
  split at h
  · cases h
    obtain ⟨x, rfl, h0⟩ := i.one
    obtain ⟨a, ys, rfl, h1, h2⟩ := sq_r h0
    exact ⟨a, false, ys, rfl, h1, h2⟩
  · cases h
    obtain ⟨x, rfl, h0⟩ := i.one
    obtain ⟨a, ys, rfl, h1, h2⟩ := sq_f h0
    exact ⟨a, false, ys, rfl, h1, h2⟩
  · cases h
    obtain ⟨x, rfl, h0⟩ := i.one
    obtain ⟨a, ys, rfl, h1, h2⟩ := sq_t h0
    exact ⟨a, true, ys, rfl, h1, h2⟩
  · cases h
theorem rows_is {K : PySem.W.Frag} {G : Hp} : ∀ {kss : List (List Str)} {vs : List V}, IsAll K G (kss.map stP) vs → ∃ L : List NS.Row, vs = L.map (fun p => V.ref p.1) ∧ L.map (·.2) = kss ∧ ∀ p ∈ L, SqT K G p.1 (p.2.map V.str) ∧ Is K G (stP p.2) (V.ref p.1)
  | [], _, h => ⟨[], h, rfl, fun p hp => nomatch hp⟩
  | k :: kss, _, ⟨v, vs, h1, h2, h3⟩ => by
    subst h1
    obtain ⟨L, e1, e2, e3⟩ := rows_is h3
    obtain ⟨a, xs, rfl, s1, s2⟩ := id h2
    rw [is_strs s2] at s1
    refine ⟨(a, k) :: L, by rw [List.map_cons, e1], by rw [List.map_cons, e2], fun p hp => ?_⟩
    rcases List.mem_cons.mp hp with rfl | hp
    · exact ⟨s1, h2⟩
    · exact e3 p hp
theorem rows_back {K : PySem.W.Frag} {G : Hp} : ∀ {L : List NS.Row}, (∀ p ∈ L, Is K G (stP p.2) (V.ref p.1)) → IsAll K G (L.map fun p => stP p.2) (L.map fun p => V.ref p.1)
  | [], _ => rfl
  | p :: L, h => ⟨_, _, rfl, h p List.mem_cons_self, rows_back fun q hq => h q (List.mem_cons_of_mem _ hq)⟩
theorem sort_rows (L : List NS.Row) : (L.mergeSort (PySem.W.dataLe false NS.encR)).map (fun p => stP p.2) = srt (L.map fun p => stP p.2) := by
  unfold srt
  refine List.map_mergeSort fun a _ b _ => ?_
  have e : ∀ p : NS.Row, pyOf (stP p.2) = NS.encR p := fun p => py_st p.2
  show (!PyProof.Rows.lexLt itemOrd (PySem.W.keyToks (NS.encR b)) (PySem.W.keyToks (NS.encR a))) = !PyProof.Rows.lexLt itemOrd (PySem.W.keyToks (pyOf (stP b.2))) (PySem.W.keyToks (pyOf (stP a.2)))
  rw [e, e]
theorem d_sortSet (hX : SX X) (hm : X.mg "sorted" = none) (hm2 : X.mg "set" = none) (ha : PAd X [e] g) (hg : Gl X "sorted" := by rfl) (hg2 : Gl X "set" := by rfl)
    (he : starEach [e] X.env = (false, eval e X.env) :: starEach [] X.env := by rfl)
    (he2 : starEach [.Call (.Name "set" p2) [e] [] q] X.env = (false, eval (.Call (.Name "set" p2) [e] [] q) X.env) :: starEach [] X.env := by rfl) :
    PEd X (.Call (.Name "sorted" p) [.Call (.Name "set" p2) [e] [] q] [] pos) (fCb bSortSet g) := by
  have hu := hX.units
  refine pe_weak (pe_callB (NS.cr_or (_root_.SX.cr_sortX hX.calm (by omega)) (NS.cr_sortN hX.calm (by omega))) hg hm (by decide +kernel) (pa_cons (pe_callTy (NS.cr_or (_root_.SX.cr_setX hX.calm) (NS.cr_setN hX.calm (by omega))) hg2 hm2 (by decide +kernel) ha (by decide) (by decide) he rfl) pa_nil he2) (by decide) (by decide) he2 rfl) fun σ H Q ⟨m, env, S, R, E, d', S', e1, qq⟩ => ?_
  obtain ⟨ds, S1, k1, e2⟩ := Oc.bind_eq e1
  refine ⟨m, env, S, R, E, ds, S1, k1, fun vs m1 H1 st1 R1 i1 => ?_⟩
  cases h1 : deAll S1 ds with
  | none => simp [h1] at e2
  | some ps =>
    cases h2 : bSortSet ps with
    | none => simp [h1, h2] at e2
    | some u =>
      simp [h1, h2] at e2
      obtain ⟨rfl, rfl⟩ := e2
      unfold bSortSet at h2
      cases hk : txts ps with
      | some ks =>
        rw [hk] at h2
        cases h2
        obtain ⟨a, t, rfl, hs, hl, hok⟩ := txts_is hk (deAll_is R1 h1 i1)
        refine .inl ⟨a, ks, t, rfl, hs, hl, fun pp c hp hc => ?_⟩
        obtain ⟨R2, st2⟩ := R1.fresh (o := _root_.SX.SetX X.w pp (fun k => k ∈ ks) c) hp
        refine .inl ⟨pp, _, c, rfl, upd_same, by omega, fun bs p3 nd hm3 hp3 => ?_⟩
        have pm : (bs.map P.str).Perm ((ddS ks).map .str) := (perm_nd nd (nd_ddS ks) fun k => by rw [hm3 k, mem_ddS]).map _
        have es : (bs.mergeSort (PySem.W.dataLe false PyData.str)).map P.str = srt ((ddS ks).map .str) := by
          rw [sort_strs]
          exact srt_eq pm (cmp_strs fun k hk' => hok k ((hm3 k).mp hk'))
        have iz : IsAll X.K (mask m1 (upd H1 pp (_root_.SX.SetX X.w pp (fun k => k ∈ ks) c))) (srt ((ddS ks).map .str)) ((bs.mergeSort (PySem.W.dataLe false PyData.str)).map V.str) := by
          rw [← es]
          exact all_strs _
        exact newLst R2 iz (fun v m3 H3 st3 R3 i3 => qq v m3 H3 ((st1.trans st2).trans st3) R3 i3) p3 hp3
      | none =>
        rw [hk] at h2
        obtain ⟨kss, ht, rfl⟩ := Option.map_eq_some_iff.mp h2
        obtain ⟨qs, hi, ht⟩ := Option.bind_eq_some_iff.mp ht
        obtain ⟨kss', hs, ht⟩ := Option.bind_eq_some_iff.mp ht
        split at ht
        · rename_i ok
          cases ht
          obtain ⟨a, t, xs, rfl, hq, hx⟩ := items_is hi (deAll_is R1 h1 i1)
          rw [stsP_of hs] at hx
          obtain ⟨L, rfl, hL, hrow⟩ := rows_is hx
          have hlen : NS.Few L := by
            have z := congrArg List.length hL
            rw [List.length_map] at z
            rcases ok.1 with k | k
            · exact .inl (by rw [z]; exact k)
            · refine .inr fun L' h1 h2 => Nat.lt_of_le_of_lt ?_ k
              have h3 : (L'.map (·.2)).length ≤ (ddL kss).length := h2.length_le_of_subset fun q hq => mem_ddL.mpr (by
                obtain ⟨p, hp, rfl⟩ := List.mem_map.mp hq
                rw [← hL]
                exact List.mem_map_of_mem (h1 p hp))
              rwa [List.length_map] at h3
          refine .inr ⟨a, L, t, rfl, hq, fun p hp => sqT_mono (mask_ex m1 H1) (hrow p hp).1, hlen, fun pp L2 hp g1 g2 nd => ?_⟩
          obtain ⟨R2, st2⟩ := R1.fresh (o := NS.SetO X.prog X.w pp L2) hp
          refine .inr ⟨pp, L2, rfl, upd_same, fun p hp2 => sqT_mono ((mask_ex m1 _)) (sqT_mono st2.ex (hrow p (g1 p hp2)).1), fun L3 p3 pm3 hp3 => ?_⟩
          have mem3 : ∀ p ∈ L3, p ∈ L := fun p hp => g1 p (pm3.mem_iff.mp hp)
          have pmk : (L3.map (·.2)).Perm (ddL kss) := by
            refine (List.perm_ext_iff_of_nodup ((pm3.map (·.2)).nodup_iff.mpr nd) (nd_ddL kss)).mpr fun k => ?_
            rw [mem_ddL, ← hL, (pm3.map (·.2)).mem_iff]
            constructor
            · intro h
              obtain ⟨p, hp, rfl⟩ := List.mem_map.mp h
              exact List.mem_map.mpr ⟨p, g1 p hp, rfl⟩
            · intro h
              obtain ⟨p, hp, rfl⟩ := List.mem_map.mp h
              exact g2 p hp
          have okk : ∀ xs ∈ L3.map (·.2), ∀ x ∈ xs, PyData.strOk x = true := fun xs hxs x hx => by
            have z := mem_ddL.mp (pmk.mem_iff.mp hxs)
            exact List.all_eq_true.mp (List.all_eq_true.mp ok.2 xs z) x hx
          have es : (L3.mergeSort (PySem.W.dataLe false NS.encR)).map (fun p => stP p.2) = srt ((ddL kss).map stP) := by
            rw [sort_rows]
            have e : (L3.map fun p => stP p.2) = (L3.map (·.2)).map stP := by rw [List.map_map]; rfl
            rw [e]
            exact srt_eq (pmk.map stP) (cmp_st okk)
          have iz : IsAll X.K (mask m1 (upd H1 pp (NS.SetO X.prog X.w pp L2))) (srt ((ddL kss).map stP)) ((L3.mergeSort (PySem.W.dataLe false NS.encR)).map fun p => V.ref p.1) := by
            rw [← es]
            exact rows_back fun p hp => st2.val (hrow p (mem3 p ((List.mergeSort_perm L3 _).mem_iff.mp hp))).2
          exact newLst R2 iz (fun v m3 H3 st3 R3 i3 => qq v m3 H3 ((st1.trans st2).trans st3) R3 i3) p3 hp3
        · cases ht
end
theorem strs_nm (xs : List Nm) : xs.map nP = (xs.map (·.s)).map P.str := by
  rw [List.map_map]
  rfl
theorem txts_tN {xs : List Nm} (h : xs.length ≤ 1000) : txts [tN xs] = some (xs.map (·.s)) := by
  show (match strsP (xs.map nP) with | some ks => if ks.length ≤ 1000 ∧ (ks.all PyData.strOk) = true then some ks else none | none => none) = _
  rw [strs_nm, strsP_map]
  show (if _ then _ else _) = _
  rw [if_pos ⟨by simpa using h, List.all_eq_true.mpr fun k hk => by
    obtain ⟨x, _, rfl⟩ := List.mem_map.mp hk
    exact x.ok.1⟩]
theorem txts_lN {xs : List Nm} (h : xs.length ≤ 1000) : txts [lN xs] = some (xs.map (·.s)) := by
  show (match strsP (xs.map nP) with | some ks => if ks.length ≤ 1000 ∧ (ks.all PyData.strOk) = true then some ks else none | none => none) = _
  rw [strs_nm, strsP_map]
  show (if _ then _ else _) = _
  rw [if_pos ⟨by simpa using h, List.all_eq_true.mpr fun k hk => by
    obtain ⟨x, _, rfl⟩ := List.mem_map.mp hk
    exact x.ok.1⟩]
theorem so_ex (xs : List Nm) : ∃ ys : List Nm, ys.Nodup ∧ (∀ x, x ∈ ys ↔ x ∈ xs) ∧ srt ((ddS (xs.map (·.s))).map .str) = ys.map nP ∧ (ys.map nP).Pairwise (fun a b => PySem.W.dataLe false pyOf a b = true) := by
  have back : ∀ zs : List P, (∀ z ∈ zs, ∃ x ∈ xs, z = nP x) → ∃ ys : List Nm, (∀ y ∈ ys, y ∈ xs) ∧ zs = ys.map nP := by
    intro zs
    induction zs with
    | nil => exact fun _ => ⟨[], (fun _ h => nomatch h), rfl⟩
    | cons z zs ih =>
      intro h
      obtain ⟨x, hx, rfl⟩ := h z (List.mem_cons_self ..)
      obtain ⟨ys, hy, rfl⟩ := ih fun w hw => h w (List.mem_cons_of_mem _ hw)
      exact ⟨x :: ys, (fun y hy' => (List.mem_cons.mp hy').elim (fun e => e ▸ hx) (hy y)), rfl⟩
  have pm := srt_perm ((ddS (xs.map (·.s))).map .str)
  obtain ⟨ys, hy, e⟩ := back (srt ((ddS (xs.map (·.s))).map .str)) fun z hz => by
    obtain ⟨k, hk, rfl⟩ := List.mem_map.mp (pm.mem_iff.mp hz)
    obtain ⟨x, hx, rfl⟩ := List.mem_map.mp (mem_ddS.mp hk)
    exact ⟨x, hx, rfl⟩
  have hs := srt_sorted ((ddS (xs.map (·.s))).map .str)
  rw [e] at pm hs
  refine ⟨ys, ?_, fun x => ⟨hy x, fun hx => ?_⟩, e, hs⟩
  · have : (ys.map nP).Nodup := pm.nodup_iff.mpr (List.Pairwise.map _ (fun a b h z => h (P.str.inj z)) (nd_ddS _))
    exact List.Pairwise.of_map nP (fun a b h z => h (z ▸ rfl)) this
  · have h1 : nP x ∈ (ddS (xs.map (·.s))).map P.str := List.mem_map.mpr ⟨x.s, mem_ddS.mpr (List.mem_map.mpr ⟨x, hx, rfl⟩), rfl⟩
    obtain ⟨y, hy', e'⟩ := List.mem_map.mp (pm.mem_iff.mpr h1)
    rwa [nP_inj.mp e'] at hy'
noncomputable def so (xs : List Nm) : List Nm := (so_ex xs).choose
theorem so_nd (xs : List Nm) : (so xs).Nodup := (so_ex xs).choose_spec.1
theorem so_mem {xs : List Nm} {x : Nm} : x ∈ so xs ↔ x ∈ xs := (so_ex xs).choose_spec.2.1 x
theorem so_eq (xs : List Nm) : srt ((ddS (xs.map (·.s))).map .str) = (so xs).map nP := (so_ex xs).choose_spec.2.2.1
theorem o_soT {xs : List Nm} (h : xs.length ≤ 1000) : bSortSet [tN xs] = some (lN (so xs)) := by
  unfold bSortSet
  rw [txts_tN h]
  show some (P.lst (srt ((ddS (xs.map (·.s))).map P.str))) = _
  rw [so_eq]
theorem o_soL {xs : List Nm} (h : xs.length ≤ 1000) : bSortSet [lN xs] = some (lN (so xs)) := by
  unfold bSortSet
  rw [txts_lN h]
  show some (P.lst (srt ((ddS (xs.map (·.s))).map P.str))) = _
  rw [so_eq]
theorem strsP_st : ∀ {kss : List (List Str)}, kss ≠ [] → strsP (kss.map stP) = none
  | [], h => (h rfl).elim
  | _ :: _, _ => rfl
theorem o_stL {kss : List (List Str)} (h : okL kss) (h0 : kss ≠ []) : bSortSet [.lst (kss.map stP)] = some (.lst (srt ((ddL kss).map stP))) := by
  have e : txts [.lst (kss.map stP)] = none := by
    show (match strsP (kss.map stP) with | some ks => if ks.length ≤ 1000 ∧ (ks.all PyData.strOk) = true then some ks else none | none => none) = _
    rw [strsP_st h0]
  have e2 : tups [.lst (kss.map stP)] = some kss := by
    show ((stsP (kss.map stP)).bind fun kss => if okL kss then some kss else none) = _
    rw [stsP_map]
    exact if_pos h
  unfold bSortSet
  rw [e, e2]
  rfl
end DL
namespace DL
open PySem PySem.Spec PyProof.Rows L2
def fPar3 (i j l : Nat) (g : FA) : FS := fun env S => (g env S).fl fun ds S1 => match ds with
  | [d, e, f] => .nx (((env.set i (some d)).set j (some e)).set l (some f)) S1
  | _ => .bad
section
variable {ga : FA} {env : Dnv} {S S1 : Sto} {E : FEn}
theorem s_Par3 {i j l : Nat} {d e f : D} (h1 : ga env S = .ok [d, e, f] S1) (h : E.nx (((env.set i (some d)).set j (some e)).set l (some f)) S1) : (fPar3 i j l ga env S).F E := by
  unfold fPar3
  rw [h1]
  exact h
end
end DL
namespace DL
open PySem PySem.Spec PyProof.Rows L2
variable [Tb]
def kvP : List P → Option (List (Key × P))
  | [] => some []
  | .tup [a, b] :: r => match pKey a, kvP r with
    | some k, some kvs => some ((k, b) :: kvs)
    | _, _ => none
  | _ :: _ => none
def bDict : List P → Option P
  | [.lst ps] => match kvP ps with
    | some kvs => if kvs.length ≤ 10000 then some (.dic (mergeP kvs).1 (mergeP kvs).2) else none
    | none => none
  | _ => none
def rDictP (K : PySem.W.Frag) : List V → Hp → VK → Prop := fun xs H Q => ∃ (a : Addr) (ps : List Addr) (kvs : List (Key × V)), xs = [.ref a] ∧ SqL K H a (ps.map V.ref) ∧ Paired (fun p kv => SqT K H p [kV kv.1, kv.2]) ps kvs ∧ ∀ p, H p = none → Q (.ref p) (upd H p (.dK (mergeK [] kvs)))
theorem kvP_is {K : PySem.W.Frag} {m : Mp} {H : Hp} : ∀ {ps : List P} {kvs : List (Key × P)} {xs : List V}, kvP ps = some kvs → IsAll K (mask m H) ps xs → ∃ (as : List Addr) (vs : List V), xs = as.map V.ref ∧ IsAll K (mask m H) (kvs.map (·.2)) vs ∧ Paired (fun p kv => SqT K H p [kV kv.1, kv.2]) as ((kvs.map (·.1)).zip vs)
  | [], kvs, xs, h, i => by
    cases h
    have : xs = [] := i
    subst this
    exact ⟨[], [], rfl, rfl, .nil⟩
  | p :: ps, kvs, xs, h, i => by
    obtain ⟨v, us, ex, h1, h2⟩ := i
    subst ex
    unfold kvP at h
    split at h
    · rename_i e0
      cases e0
    · rename_i a b r e
      cases e
      split at h
      · rename_i k kvs' hk hr
        cases h
        obtain ⟨as, vs, rfl, h3, h4⟩ := kvP_is hr h2
        obtain ⟨t, ys, rfl, h5, w1, ws, rfl, h6, w2, ws2, rfl, h7, h8⟩ := h1
        have h8' : ws2 = [] := h8
        subst h8'
        have ek := pKey_is (isR_val h6) hk
        subst ek
        exact ⟨t :: as, w2 :: vs, rfl, ⟨w2, vs, rfl, h7, h3⟩, .cons (sqT_mono (mask_ex m H) h5) h4⟩
      · cases h
    · cases h
theorem on_dict {K : PySem.W.Frag} : OpN K (rDictP K) bDict := by
  intro m H S ps u xs Q R h e k
  unfold bDict at e
  split at e
  · rename_i qs
    split at e
    · rename_i kvs hk
      split at e
      · cases e
        obtain ⟨x, rfl, h0⟩ := h.one
        obtain ⟨a, ys, rfl, h1, h2⟩ := sq_r h0
        obtain ⟨as, vs, rfl, h3, h4⟩ := kvP_is hk h2
        refine ⟨a, as, _, rfl, h1, h4, fun p hp => ?_⟩
        obtain ⟨zs, c1, c2, c3, c4⟩ := merge_is (kvs := kvs) (ks := []) (ps := []) (xs := []) h3 rfl .nil rfl
        have c1' : mergeK [] ((kvs.map (·.1)).zip vs) = (mergeP kvs).1.zip zs := c1
        rw [c1']
        obtain ⟨R2, st2⟩ := R.fresh (o := .dK ((mergeP kvs).1.zip zs)) hp
        refine k (.ref p) m _ st2 R2 ⟨p, zs, rfl, ?_, c2, c3, st2.all c4⟩
        rw [mask_upd (R.out hp)]
        exact upd_same
      · cases e
    · cases e
  · cases e
theorem bb_dict : bootBuiltins "dict" = some (.type "dict") := by decide +kernel
end DL
namespace EN
open PySem PySem.Spec PyProof.Rows L2 DL
variable [Tb]
theorem meets_newT (l : Addr) (items : Array Value) :
    Meets (Builtin.«enumerate.__new__» ⟨[.type "enumerate", .ref l], []⟩) (fun _ R s => s.heap.IsTuple l items ∧
      R (.ok (.ret (.ref (s.heap.push { cls := .type "tuple_iterator", data := .fields #[.ref l, .int 0 0] }).objs.size)))
        { s with heap := (s.heap.push { cls := .type "tuple_iterator", data := .fields #[.ref l, .int 0 0] }).push { cls := .type "enumerate", data := .fields #[.none, .bool false, .ref s.heap.objs.size, rawInt 0, .none, .none] } }) :=
  .of_wp fun prog w A R s h => by
    obtain ⟨hp, g, d, tk, os⟩ := s
    obtain ⟨hl, h⟩ := h
    have hsub := sub_enumerate
    have hi : ∀ {A' : Around} {E : Value → Shared → Prop} {Q : Value → Shared → Prop}, Q (.ref hp.objs.size) ⟨hp.push { cls := .type "tuple_iterator", data := .fields #[.ref l, .int 0 0] }, g, d, tk, os⟩ → wpAny (model prog w) A' (pyIter (.ref l)) Q E ⟨hp, g, d, tk, os⟩ := fun q => wpAny_pyIter_tuple hl q
    wp_walk using hi
    refine wpAny_stack_any fun st => wpAny_pure ?_
    split
    · rename_i c _ _ _ _ _
      cases (c == Value.type "enumerate")
      · wp_walk using hi
        exact ⟨_, rfl, h⟩
      · wp_walk using hi
        exact ⟨_, rfl, h⟩
    · wp_walk using hi
      exact ⟨_, rfl, h⟩
section
variable {prog : Program} {w : World} {A : Around} {E : Value → Shared → Prop} {s : Shared}
theorem call_enumT {l : Addr} {items : Array Value} {Q : Value → Shared → Prop} (hL : s.heap.IsTuple l items)
    (h : ∀ h', IsEnum h' (s.heap.objs.size + 1) s.heap.objs.size 0 .none → h'.IsTupleIter s.heap.objs.size l 0 → h'.objs.size = s.heap.objs.size + 2 →
      (∀ b o, s.heap.get? b = some o → h'.get? b = some o) → Q (.ref (s.heap.objs.size + 1)) { s with heap := h' }) :
    wpAny (model prog w) A (call (.type "enumerate") [.ref l]) Q E s := by
  refine callType_new F.called_enumerate (by decide) (F.typeCall_enumerate_1 _) (F.newCall_enumerate_1 _) (fun obj => F.args_object_init_2 obj _) F.entry_enumerate_new
    (meets_newT l items) ⟨hL, ?_⟩
  have hz : (s.heap.push { cls := .type "tuple_iterator", data := .fields #[.ref l, .int 0 0] }).objs.size = s.heap.objs.size + 1 := Heap.size_push ..
  show _ ∧ _
  rw [hz]
  have he : IsEnum ((s.heap.push { cls := .type "tuple_iterator", data := .fields #[.ref l, .int 0 0] }).push
      { cls := .type "enumerate", data := .fields #[.none, .bool false, .ref s.heap.objs.size, rawInt 0, .none, .none] }) (s.heap.objs.size + 1) s.heap.objs.size 0 .none := by
    have := Heap.get?_push_size (s.heap.push { cls := .type "tuple_iterator", data := .fields #[.ref l, .int 0 0] })
      (o := { cls := .type "enumerate", data := .fields #[.none, .bool false, .ref s.heap.objs.size, rawInt 0, .none, .none] }) rfl
    rw [hz] at this
    exact this
  exact ⟨⟨_, he, rfl⟩, h _ he ⟨_, Heap.get?_push_of_some _ (Heap.get?_push_size _ rfl), rfl, rfl⟩ (by rw [Heap.size_push, hz]) fun b o x => Heap.get?_push_of_some _ (Heap.get?_push_of_some _ x)⟩
end
def IteT (K : PySem.W.Frag) (a : Addr) : It :=
  ⟨fun i H => ∃ (xs : List V) (x : V), SqT K H a xs ∧ xs[i]? = some x, fun i H v H' => ∃ T x, v = .ref T ∧ H T = none ∧ H' = upd H T (.tup [.int (i : Nat), x]) ∧ ∀ xs, SqT K H a xs → xs[i]? = some x, fun i H => ∃ xs : List V, SqT K H a xs ∧ xs.length ≤ i⟩
theorem turnT {P : Program} {w : World} {K : PySem.W.Frag} {elts : List Expr} {kk : Nat} {tpos : Pos} (a e it : Addr) :
    Turn P w K (.Tuple elts kk tpos) (IteT K a) [e, it] e (fun i h => (∃ old, IsEnum h e it ((i : Nat) : Int) old) ∧ h.IsTupleIter it a i ∧ e ≠ it ∧ a ≠ it ∧ e ≠ a) where
  mem := by simp
  obj := fun i h st b hb => by
    obtain ⟨⟨old, he⟩, ⟨o, ho, hc, hd⟩, _⟩ := st
    have e' : b = e ∨ b = it := by simpa using hb
    rcases e' with z | z
    · rw [z]; exact ⟨_, he, fun v q => nomatch q⟩
    · rw [z]; exact ⟨o, ho, fun v q => by rw [hd] at q; cases q⟩
  keep := fun i h h' st k => let ⟨⟨old, he⟩, hi, hne⟩ := st; ⟨⟨old, k e (by simp) _ he⟩, hi.at fun o q => k it (by simp) o q, hne⟩
  item := by
    intro X hP hw hK hc i pins s σ H E I hf st hg
    subst hP hw hK
    obtain ⟨⟨old, he⟩, hit, hne, hai, hea⟩ := st
    obtain ⟨xs, x, hq, hx⟩ := hg
    obtain ⟨its, rv, p, hz⟩ := I.tuple hq
    obtain ⟨u, hu, ru⟩ := rv.get hx
    have hil0 : i < its.toArray.size := by
      rw [List.size_toArray]
      exact (List.getElem?_eq_some_iff.mp hu).1
    have hel : e < s.heap.objs.size := Heap.lt_size he
    have hil : it < s.heap.objs.size := by obtain ⟨_, q, _⟩ := hit; exact Heap.lt_size q
    refine wpAny_pyNext_enum_itemD (Draws.tuple (A := X.A.in1) (I.ok.hd hc) it a hai its.toArray) he ⟨hit, p⟩ hil0 hne (by simp [hne, hea]) fun u2 h' tk hP ho hst' hT hsz hk => ?_
    have eu : u2 = u := by
      have hP' : its.toArray[i]? = some u2 := hP
      rw [List.getElem?_toArray, hu] at hP'
      exact (Option.some.inj hP').symm
    subst eu
    refine ⟨_, rfl, wpAny_letOwnedTupleGo_enum (s := { s with heap := h', toks := tk + 1 }) ho fun h'' he' sb => ?_⟩
    have hT2 : h''.get? s.heap.objs.size = some { cls := .type "tuple", data := .seq #[.int i tk, u2] } := (sb.2 _ (Nat.ne_of_gt hel)).trans hT
    have new : ObjOk X.prog X.w (upd H s.heap.objs.size (.tup [.int (i : Nat), x])) h'' s.heap.objs.size (.tup [.int (i : Nat), x]) :=
      ⟨by show 2 ≤ sizeLine; decide, [.int i tk, u2], .cons ⟨_, rfl⟩ (.cons ru .nil), ⟨_, hT2, rfl, _, rfl⟩⟩
    have I1 : Inv X pins σ (upd H s.heap.objs.size (.tup [.int (i : Nat), x])) { s with heap := h'', toks := tk + 1 } :=
      I.turnedNew (ch := [e, it]) (fun b ob hb q => (sb.2 b (fun z => hb (by simp [z]))).trans (hk b ob (fun z => hb (by simp [z])) (fun z => hb (by simp [z])) q)) hf (Nat.le_refl _) new
    refine ⟨.ref s.heap.objs.size, _, I1, rfl, ⟨_, x, rfl, I.hok.fresh (Nat.le_refl _), rfl, fun ys hy => by rw [I.tuple_inj hy hq]; exact hx⟩, ⟨⟨u2, ?_⟩, hst'.1.at fun o q => (sb.2 it (Ne.symm hne)).trans q, hne, hai, hea⟩, fun b hb => ?_⟩
    · have e1 : ((i + 1 : Nat) : Int) = (i : Int) + 1 := by omega
      rw [e1]; exact he'
    · have hb' : b < s.heap.objs.size := by
        have e' : b = e ∨ b = it := by simpa using hb
        rcases e' with z | z
        · rw [z]; exact hel
        · rw [z]; exact hil
      rw [upd_ne (Nat.ne_of_lt hb')]
      exact (hf b hb).1
  done := by
    intro X hP hw hK hc i pins s σ H E I hf st hg
    subst hP hw hK
    obtain ⟨⟨old, he⟩, hit, hne, hai, hea⟩ := st
    obtain ⟨xs, hq, hx⟩ := hg
    obtain ⟨its, rv, p, hz⟩ := I.tuple hq
    obtain ⟨f0, f1, f2, f3, f4, f5⟩ := hf it (by simp)
    have hl := rv.length
    have D : Draws X.prog X.w X.A.in1 it [it, a] i (fun _ _ => False) (fun j h => j = i ∧ h.IsTupleIter it a i ∧ h.IsTuple a its.toArray) :=
      { live := fun _ _ st => let ⟨o, ho, _⟩ := st.2.1; ⟨o, ho⟩
        frame := fun _ _ _ st hk => ⟨st.1, st.2.1.at fun o e => hk it (by simp) o e, st.2.2.at fun o e => hk a (by simp) o e⟩
        item := fun j s Q E hj st hQ => absurd st.1 (Nat.ne_of_lt hj)
        done := fun s Q E st hE => wpAny_nextOf_tuple_end (I.ok.hd hc) st.2.1 st.2.2 (by simp; omega) hE }
    exact wpAny_pyNext_enum_endD D he ⟨rfl, hit, p⟩ fun h' eb => ⟨rfl, I.turned (t' := s.toks) (fun b o hb q => eb b o hb q) f0 f1 f3 f4 f5⟩
  self := fun A i s Q E st h => let ⟨⟨_, he⟩, _⟩ := st; wpAny_pyIter_enum he h
def iEnB (K : PySem.W.Frag) (ta : TA) : TI := fun σ H R => ta σ H fun vs H1 => ∃ a xs, vs = [.ref a] ∧ ((SqT K H1 a xs ∧ R (IteT K a) H1) ∨ (SqL K H1 a xs ∧ R (Ite K a) H1))
theorem pi_enB {X : Cx} {e : Expr} {ta : TA} {p pos tpos : Pos} {elts : List Expr} {kk : Nat} (hg : Gl X "enumerate") (hm : X.mg "enumerate" = none) (ha : PA X [e] ta) (hs : starEach [e] X.env = [(false, eval e X.env)] := by rfl) :
    PI X (.Tuple elts kk tpos) (.Call (.Name "enumerate" p) [e] [] pos) (iEnB X.K ta) := by
  refine ⟨fun pins s σ H R I h => ?_⟩
  refine Call_ (ld_blt I hg hm boot_enumerate (PyProof.Rows.callWith_type1 (thn (ha.run pos pins s σ H _ I h) fun us s1 ⟨vs, H1, I1, r1, q1⟩ => ?_) hs rfl))
  obtain ⟨a, xs, ex, q⟩ := q1
  subst ex
  cases r1 with
  | cons r rr =>
    cases rr
    cases r
    have hle : ∀ b, b ∈ [s1.heap.objs.size + 1, s1.heap.objs.size] → s1.heap.objs.size ≤ b := fun b hb => by
      have e' : b = s1.heap.objs.size + 1 ∨ b = s1.heap.objs.size := by simpa using hb
      rcases e' with z | z
      · rw [z]; exact Nat.le_add_right _ _
      · rw [z]; exact Nat.le_refl _
    rcases q with ⟨hq, q⟩ | ⟨hq, q⟩
    · obtain ⟨its, rv, p', hz⟩ := I1.tuple hq
      have hal : a < s1.heap.objs.size := by obtain ⟨o, e1, _⟩ := p'; exact Heap.lt_size e1
      refine call_enumT p' fun h' he hit hsz hk => wpAny_pyIter_enum he ?_
      have I2 : Inv X pins σ H1 { s1 with heap := h' } := I1.kept (t' := s1.toks) hk
      exact ⟨s1.heap.objs.size + 1, [s1.heap.objs.size + 1, s1.heap.objs.size], _, _, H1, rfl, I2, turnT a (s1.heap.objs.size + 1) s1.heap.objs.size, ⟨⟨.none, he⟩, hit, Nat.succ_ne_self _, Nat.ne_of_lt hal, Nat.ne_of_gt (Nat.lt_succ_of_lt hal)⟩, fun b hb => I1.fpOk (hle b hb) (I1.hok.fresh (hle b hb)), q⟩
    · obtain ⟨its, rv, p', hz⟩ := I1.list hq
      refine call_enumerate_list p'.isList fun h' he hit hsz hk => wpAny_pyIter_enum he ?_
      have I2 : Inv X pins σ H1 { s1 with heap := h' } := I1.kept (t' := s1.toks) hk
      exact ⟨s1.heap.objs.size + 1, [s1.heap.objs.size + 1, s1.heap.objs.size], _, _, H1, rfl, I2, turn_enum a (s1.heap.objs.size + 1) s1.heap.objs.size, ⟨⟨.none, he⟩, hit, Nat.succ_ne_self _⟩, fun b hb => I1.fpOk (hle b hb) (I1.hok.fresh (hle b hb)), q⟩
def enP : Nat → List P → List P
  | _, [] => []
  | k, p :: ps => .tup [.int (k : Nat), p] :: enP (k + 1) ps
theorem enP_len : ∀ (k : Nat) (ps : List P), (enP k ps).length = ps.length
  | _, [] => rfl
  | k, p :: ps => by simp [enP, enP_len]
theorem enP_at : ∀ {k : Nat} {ps : List P} {i : Nat} {q : P}, (enP k ps)[i]? = some q → ∃ p, ps[i]? = some p ∧ q = .tup [.int ((k + i : Nat) : Int), p]
  | k, [], i, q, h => by simp [enP] at h
  | k, p :: ps, 0, q, h => by
    have h' : some (P.tup [.int (k : Nat), p]) = some q := h
    cases h'
    exact ⟨p, rfl, rfl⟩
  | k, p :: ps, i + 1, q, h => by
    have h' : (enP (k + 1) ps)[i]? = some q := h
    obtain ⟨x, h1, h2⟩ := enP_at h'
    refine ⟨x, h1, ?_⟩
    rw [h2, show k + 1 + i = k + (i + 1) by omega]
section
variable {K : PySem.W.Frag} {m m2 : Mp} {G G2 H H2 : Hp} {a : Addr} {xs : List V} {ps : List P}
theorem itd_enT (h1 : SqT K (mask m H) a xs) (i1 : IsAll K (mask m H) ps xs) : ItD K m H (IteT K a) (enP 0 ps) none where
  go := fun i p m2 H2 S2 hp w R o => by
    obtain ⟨x, hx, rfl⟩ := enP_at hp
    have k1 := sqT_mono (mask_ex m2 H2) (sqT_mono w.ex h1)
    obtain ⟨vx, e1, j1⟩ := (IsAll.mono w.ex _ _ i1).get hx
    refine ⟨⟨xs, vx, k1, e1⟩, fun z H3 hy => ?_⟩
    obtain ⟨d, ux, rfl, hd, rfl, f1⟩ := hy
    have g1 := f1 xs k1
    rw [e1] at g1
    cases g1
    rw [Nat.zero_add]
    exact pair_new (x := .int (i : Nat)) R hd rfl j1
  stop := fun i m2 H2 S2 hi w R o => by
    have k1 := sqT_mono (mask_ex m2 H2) (sqT_mono w.ex h1)
    rw [enP_len] at hi
    exact ⟨xs, k1, by rw [← i1.len]; omega⟩
theorem itd_enL (h1 : SqL K (mask m H) a xs) (i1 : IsAll K (mask m H) ps xs) : ItD K m H (Ite K a) (enP 0 ps) none where
  go := fun i p m2 H2 S2 hp w R o => by
    obtain ⟨x, hx, rfl⟩ := enP_at hp
    have k1 := sqL_mono (mask_ex m2 H2) (sqL_mono w.ex h1)
    obtain ⟨vx, e1, j1⟩ := (IsAll.mono w.ex _ _ i1).get hx
    refine ⟨⟨xs, vx, k1, e1⟩, fun z H3 hy => ?_⟩
    obtain ⟨d, ux, rfl, hd, rfl, f1⟩ := hy
    have g1 := f1 xs k1
    rw [e1] at g1
    cases g1
    rw [Nat.zero_add]
    exact pair_new (x := .int (i : Nat)) R hd rfl j1
  stop := fun i m2 H2 S2 hi w R o => by
    have k1 := sqL_mono (mask_ex m2 H2) (sqL_mono w.ex h1)
    rw [enP_len] at hi
    exact ⟨xs, k1, by rw [← i1.len]; omega⟩
end
def iEn (g : FA) : FI := fun env S => (g env S).bind fun ds S1 => match ds with
  | [d] => match seqV d with
    | some (_, ps) => .ok (enP 0 ps, none) S1
    | none => .bad
  | _ => .bad
theorem i_en {X : Cx} {e : Expr} {g : FA} {p pos tpos : Pos} {elts : List Expr} {kk : Nat} (hm : X.mg "enumerate" = none) (ha : PAd X [e] g) (hg : Gl X "enumerate" := by rfl) (hs : starEach [e] X.env = [(false, eval e X.env)] := by rfl) :
    PId X (.Tuple elts kk tpos) (.Call (.Name "enumerate" p) [e] [] pos) (iEn g) := pi_weak (pi_enB hg hm ha hs) fun σ H W ⟨m, env, S, R, E, ps, own, S', e1, q⟩ => by
  obtain ⟨ds, S1, k1, e2⟩ := Oc.bind_eq e1
  refine ⟨m, env, S, R, E, ds, S1, k1, fun vs m1 H1 st1 R1 i1 => ?_⟩
  split at e2
  · rename_i d
    split at e2
    · rename_i t qs hd
      cases e2
      obtain ⟨v, r, rfl, hv, rfl⟩ := i1
      obtain ⟨a, xs, rfl, h1, h2⟩ := seqV_is hd hv
      refine ⟨a, xs, rfl, ?_⟩
      cases t with
      | true => exact .inl ⟨sqT_mono (mask_ex m1 H1) h1, q m1 H1 _ st1 R1 (itd_enT h1 h2)⟩
      | false => exact .inr ⟨sqL_mono (mask_ex m1 H1) h1, q m1 H1 _ st1 R1 (itd_enL h1 h2)⟩
    · cases e2
  · cases e2
end EN
namespace DL
open PySem PySem.Spec PyProof.Rows L2
variable [Tb]
structure Bs where
  p : Mp → Hp → Prop
  k : ∀ {m m' : Mp} {H H' : Hp}, Stp m H m' H' → p m H → p m' H'
def Bs.none : Bs := ⟨fun _ _ => True, fun _ h => h⟩
end DL
namespace DL
open PySem PySem.Spec PyProof.Rows L2
variable [Tb]
structure ClsC (K : PySem.W.Frag) (C : Addr) : Prop where
  ga : PySem.W.findIn K (.ref C) "__getattribute__" = some (some (.builtin "BaseException.__getattribute__"))
  gg : PySem.W.findIn K (.ref C) "__getattr__" = some none
  exC : PySem.W.subIn K (.ref C) (.type "BaseException") = some true
  hdC : PySem.W.hasDictIn K C = true
  ha : PySem.W.findIn K (.ref C) "__class__" = some (some (.builtin "object.__class__"))
  hn : PySem.W.specialIn K (.builtin "object.__class__") "__get__" = some (some (.builtin "getset_descriptor.__get__"))
  ht : PySem.W.takesIn K (.builtin "object.__class__") = some true
  hm : PySem.W.mroIn K C (.type "object") = some true
  tyC : PySem.W.typeIn K (.ref C) = some (.type "type")
  kC : PySem.W.keepIn K (.ref C) = true
structure BaseC (K : PySem.W.Frag) (C : Addr) : Prop where
  sp : PySem.W.specialIn K (.ref C) "__getattribute__" = some (some (.builtin "type.__getattribute__"))
  rd : PySem.W.readsIn K C tyV' = true
  fi : PySem.W.findCls K (.ref C) tyV' "__init__" = some (.val (.builtin "ValueError.__init__"))
structure XcC (K : PySem.W.Frag) (x b : Str) (fs : List Str) : Prop where
  cl : ClsC K (He.ga K x)
  bs : BaseC K (He.ga K b)
  ox : OexC K (He.ga K x)
  ini : PySem.W.findIn K (.ref (He.ga K x)) "__init__" = some (some (.ref (He.ma K (He.ga K x) "__init__")))
  tyI : PySem.W.typeIn K (.ref (He.ma K (He.ga K x) "__init__")) = some (.type "function")
  nof : ∀ f ∈ fs, PySem.W.findIn K (.ref (He.ga K x)) f = some none
theorem isO_ok {a : Option (Option Value)} {b : Value} (h : isO a b = true) : a = some (some b) := of_decide_eq_true h
theorem clsB_ok {K : PySem.W.Frag} {C : Addr} (h : clsB K C = true) : ClsC K C := by
  unfold clsB at h
  obtain ⟨h1, h⟩ := and2 h
  obtain ⟨h2, h⟩ := and2 h
  obtain ⟨h3, h⟩ := and2 h
  obtain ⟨h4, h⟩ := and2 h
  obtain ⟨h5, h⟩ := and2 h
  obtain ⟨h6, h⟩ := and2 h
  obtain ⟨h7, h⟩ := and2 h
  obtain ⟨h8, h⟩ := and2 h
  obtain ⟨h9, h10⟩ := and2 h
  exact ⟨isO_ok h1, of_decide_eq_true h2, of_decide_eq_true h3, h4, isO_ok h5, isO_ok h6, of_decide_eq_true h7, of_decide_eq_true h8, of_decide_eq_true h9, h10⟩
theorem baseB_ok {K : PySem.W.Frag} {C : Addr} (h : baseB K C = true) : BaseC K C := by
  unfold baseB at h
  obtain ⟨h1, h⟩ := and2 h
  obtain ⟨h2, h3⟩ := and2 h
  refine ⟨isO_ok h1, h2, ?_⟩
  split at h3
  · rename_i n e
    rw [e, of_decide_eq_true h3]
  · cases h3
theorem excObj_ok {K : PySem.W.Frag} {C : Addr} (h : excObjB K C = true) : ∃ nm q N bs bm sn sub ab col dd k0 k1 k2 k3 k5, K.lookup C = some (excClassObj nm q C N bs bm true sn sub ab col dd k0 k1 k2 k3 k5 "ValueError.__new__") ∧ PySem.HandSPX.refsVE bm = true := by
  unfold excObjB at h
  split at h
  · rename_i dd cd sl ho
    split at h
    · rename_i D bm k0 k1 k2 k3 n k5 hm hs
      obtain ⟨h1, h⟩ := and2 h
      obtain ⟨h2, h⟩ := and2 h
      obtain ⟨h3, h⟩ := and2 h
      obtain ⟨h4, h5⟩ := and2 h
      obtain rfl := of_decide_eq_true h1
      obtain rfl := of_decide_eq_true h2
      obtain ⟨nm, bs, mro, ns, qn, hd, sn, sub, ab, col, del⟩ := cd
      dsimp only at hm h3 h4
      subst hm
      subst h3
      have h4' : del = false := by simpa using h4
      subst h4'
      have hsl : sl = #[k0, k1, k2, k3, some (.builtin "ValueError.__new__"), k5] := by
        obtain ⟨l⟩ := sl
        simp only at hs
        rw [hs]
      subst hsl
      exact ⟨nm, qn, ns, bs, bm, sn, sub, ab, col, dd, k0, k1, k2, k3, k5, ho, h5⟩
    · cases h
  · cases h
theorem xcB_ok {K : PySem.W.Frag} {x b : Str} {fs : List Str} (h : xcB K x b fs = true) : XcC K x b fs := by
  unfold xcB at h
  obtain ⟨h1, h⟩ := and2 h
  obtain ⟨h2, h⟩ := and2 h
  obtain ⟨h3, h⟩ := and2 h
  obtain ⟨h4, h⟩ := and2 h
  obtain ⟨h5, h⟩ := and2 h
  obtain ⟨h6, h7⟩ := and2 h
  have c := clsB_ok h1
  exact ⟨c, baseB_ok h2, ⟨excObj_ok h3, isO_ok h4, c.exC, c.tyC, c.kC⟩, isO_ok h5, of_decide_eq_true h6, fun f hf => of_decide_eq_true (List.all_eq_true.mp h7 f hf)⟩
end DL
namespace DL
open PySem PySem.Spec PyProof.Rows L2
variable [Tb]
section
variable {fa : List He.Fa} {fn : List He.DefD} {cs : List CsT} {ts : List TabT} {xl : List XlT} {el : List ElT} {tf : List LmT} {w : World} {h : Heap} {K : PySem.W.Frag}
theorem says_d (c : SaysF fa fn cs ts xl el tf w h K) : He.SaysD fa fn K := congrArg (fun z : He.AlT => z.1) c.t
theorem says_c (c : SaysF fa fn cs ts xl el tf w h K) (i : Nat) {q : CsT} (h : cs[i]? = some q := by rfl) : isB K q.2 (q.1 K) = true :=
  List.all_eq_true.mp (and2 (and2 c.more).2).1 q (List.mem_of_getElem? h)
theorem says_x (c : SaysF fa fn cs ts xl el tf w h K) (i : Nat) {q : XlT} (h : xl[i]? = some q := by rfl) : XcC K q.1 q.2.1 q.2.2 :=
  xcB_ok (List.all_eq_true.mp (and2 (and2 (and2 (and2 c.more).2).2).2).1 q (List.mem_of_getElem? h))
theorem says_n (c : SaysF fa fn cs ts xl el tf w h K) : (tf.map fun q => (He.cT K q.1).2).Nodup := of_decide_eq_true (and2 c.more).1
def csF (K : PySem.W.Frag) (tf : List LmT) : List (Addr × Addr) := tf.map fun q => He.cT K q.1
theorem says_l (KX : K.In h) (c : SaysF fa fn cs ts xl el tf w h K) : (∀ p ∈ csF K tf, h.get? p.2 = some tabO) ∧ (∀ p ∈ csF K tf, K.lookup p.2 = none) ∧ ∀ p ∈ csF K tf, PySem.W.CodeHd h p.1 p.2 := by
  refine ⟨fun p hp => ?_, fun p hp => ?_, fun p hp => ?_⟩
  · obtain ⟨q, hq, rfl⟩ := List.mem_map.mp hp
    exact c.empty q.1 (List.mem_map.mpr ⟨q, hq, rfl⟩)
  · obtain ⟨q, hq, rfl⟩ := List.mem_map.mp hp
    exact c.out q.1 (List.mem_map.mpr ⟨q, hq, rfl⟩)
  · obtain ⟨q, hq, rfl⟩ := List.mem_map.mp hp
    exact PySem.W.codeHd_of_K KX (c.hd q.1 (List.mem_map.mpr ⟨q, hq, rfl⟩))
@[reducible] def tbOf (l : List LmT) : Tb := ⟨fun K => l.map fun q => ((He.cT K q.1).2, q.2 ++ "<lambda>"), fun _ => 0⟩
theorem lm_tb {l : List LmT} {K : PySem.W.Frag} : ∀ p ∈ (tbOf l).t K, p.1 ∈ (csF K l).map (·.2) := fun p hp => by
  obtain ⟨r, hr, rfl⟩ := List.mem_map.mp hp
  exact List.mem_map.mpr ⟨He.cT K r.1, List.mem_map.mpr ⟨r, hr, rfl⟩, rfl⟩
end
end DL
namespace DL
open PySem PySem.Spec PyProof.Rows L2
variable [Tb]
def setCo (k : Nat) (o : Co) : List Fv → List Fv
  | [] => []
  | .p p :: fs => .p p :: setCo k o fs
  | .c j u :: fs => .c j (if j = k then o else u) :: setCo k o fs
section
variable {K : PySem.W.Frag} {m m' : Mp} {H H' : Hp} {S : Sto}
theorem offO_not {b : Addr} {o : HO} (h : offO b o) : notTbl o := by
  rcases h with ⟨_, rfl⟩ | ⟨_, rfl⟩ | ⟨_, _, _, rfl⟩ | ⟨_, _, _, rfl⟩
  · intro _ z; cases z
  · intro _ z; cases z
  · exact NDo_nt
  · intro _ z; cases z
theorem fv_setCo {a b : Addr} {k : Nat} {o : Co} (inj : ∀ j c, (a, j, c) ∈ m.c.o → (c = b ↔ j = k)) (st : Exh (mask m H) (mask m H')) (hk : ∀ c, c ≠ b → H' c = H c) (ho : CoIs K m H' b o) (hb : (a, k, b) ∈ m.c.o) :
    ∀ {fs : List Fv} {xs : List V}, FvAll K m H a fs xs → FvAll K m H' a (setCo k o fs) xs
  | [], _, h => h
  | .p p :: fs, _, ⟨v, vs, e, h1, h2⟩ => ⟨v, vs, e, Is.mono st p v h1, fv_setCo inj st hk ho hb h2⟩
  | .c j u :: fs, _, ⟨v, vs, e, ⟨c, e2, h3, h4⟩, h2⟩ => by
    refine ⟨v, vs, e, ?_, fv_setCo inj st hk ho hb h2⟩
    by_cases ej : j = k
    · have ec := (inj j c h3).mpr ej
      subst ec
      show FvIs K m H' a (.c j (if j = k then o else u)) v
      rw [if_pos ej]
      exact ⟨c, e2, h3, ho⟩
    · have nc : c ≠ b := fun z => ej ((inj j c h3).mp z)
      show FvIs K m H' a (.c j (if j = k then o else u)) v
      rw [if_neg ej]
      exact ⟨c, e2, h3, h4.mono st (hk c nc)⟩
theorem Rel.writeC {i : Nat} {a b : Addr} {k nv : Nat} {c : Str} {ns : List Str} {fs : List Fv} {o : HO} {co : Co} (R : Rel K m H S) (ha : m.l[i]? = some a) (hS : S[i]? = some (.ins c nv ns fs)) (hb : (a, k, b) ∈ m.c.o) (ho : offO b o)
    (hx : ∀ H', Stp m H m H' → H' b = some o → CoIs K m H' b co) : Rel K m (upd H b o) (S.set i (.ins c nv ns (setCo k co fs))) ∧ Stp m H m (upd H b o) := by
  have hnt := offO_not ho
  have hown := R.own _ hb
  have hof : off m b := .inr (.inr (List.mem_map.mpr ⟨_, hb, rfl⟩))
  have em := mask_offupd (H := H) (o := o) hof
  have hn : ∀ q, q ∈ m.h → q ≠ b := fun q hq z => hown.2.1 (z ▸ hq)
  have nl : ∀ q, q ∈ m.l → q ≠ b := fun q hq z => hown.1 (z ▸ hq)
  have st : Stp m H m (upd H b o) := ⟨fun _ _ z => z, fun q u z => by rw [em]; exact z, rfl, fun q hq => upd_ne (hn q hq), fun _ z => z⟩
  refine ⟨⟨by rw [List.length_set]; exact R.len, R.nd, fun q d y h1 h2 => ?_, fun q hq => ⟨(R.hid q hq).1, by rw [upd_ne (hn q hq)]; exact (R.hid q hq).2⟩, fun q hq u e => ?_, fun p hp => ?_, R.inj, R.fnc, fun p hp => ?_, fun p hp => ?_⟩, st⟩
  · by_cases hq : q = i
    · subst hq
      rw [ha] at h1
      cases h1
      have hl : q < S.length := by rw [← R.len]; exact lt_of_at ha
      rw [List.getElem?_set_self hl] at h2
      cases h2
      obtain ⟨dx, xs, e1, e2, e3, e4⟩ := R.ob q a _ ha hS
      refine ⟨dx, xs, by rw [upd_ne (nl a (List.mem_of_getElem? ha))]; exact e1, e2, e3, ?_⟩
      refine fv_setCo (b := b) (fun j c' hj => ⟨fun z => ?_, fun z => ?_⟩) st.ex (fun c' hc => upd_ne hc) (hx _ st upd_same) hb e4
      · have := R.inj _ hj _ hb z
        exact congrArg (fun p : Addr × Nat × Addr => p.2.1) this
      · have := R.fnc _ hj _ hb rfl z
        exact congrArg (fun p : Addr × Nat × Addr => p.2.2) this
    · rw [List.getElem?_set_ne (fun z => hq z.symm)] at h2
      refine (R.ob q d y h1 h2).mono st (upd_ne (nl d (List.mem_of_getElem? h1))) (fun k' b' hb' => upd_ne fun z => hq ?_) rfl
      have := R.inj _ hb' _ hb z
      have ed : d = a := congrArg (fun p : Addr × Nat × Addr => p.1) this
      subst ed
      have l1 := lt_of_at h1
      have l2 := lt_of_at ha
      rw [List.getElem?_eq_getElem l1] at h1
      rw [List.getElem?_eq_getElem l2] at ha
      exact (List.getElem_inj R.nd).mp ((Option.some.inj h1).trans (Option.some.inj ha).symm)
  · rw [upd_ne (hn q hq)] at e
    exact R.hnt q hq u e
  · obtain ⟨o1, o2, ⟨u, o3, o4⟩, w, o5, o6⟩ := R.own p hp
    refine ⟨o1, o2, ?_, ?_⟩
    · by_cases e : p.2.2 = b
      · exact ⟨o, by rw [e]; exact upd_same, by rw [e]; exact ho⟩
      · exact ⟨u, by rw [upd_ne e]; exact o3, o4⟩
    · by_cases e : p.1 = b
      · exact ⟨o, by rw [e]; exact upd_same, hnt⟩
      · exact ⟨w, by rw [upd_ne e]; exact o5, o6⟩
  · obtain ⟨q, y, h1, h2, h3⟩ := R.ow p hp
    by_cases e : i = q
    · subst e
      exact ⟨i, _, h1, List.getElem?_set_self (lt_of_at h2), rfl⟩
    · exact ⟨q, y, h1, by rw [List.getElem?_set_ne e]; exact h2, h3⟩
  · exact (R.tab p hp).mono st.ex (upd_ne (R.tab_ne hp hof)) fun z => z
def Ob.co : Ob → Option Co
  | .lst ps => some (.lst ps)
  | .dic ks ps => some (.dic ks ps)
  | .dn ks ps => some (.dn ks ps)
  | _ => none
end
end DL
namespace DL
open PySem PySem.Spec PyProof.Rows L2
variable [Tb]
section
variable {X : Cx}
theorem s_par3T (hX : SX X) {i j l : Nat} {x y z : Str} {a b c : Expr} {g : FA} {px py pz pt pos : Pos} {kt k2 pt2} (ha : PAd X [a, b, c] g)
    (hw : swappedStores [.Tuple [.Name x px, .Name y py, .Name z pz] kt pt] (.Tuple [a, b, c] k2 pt2) X.env = pure (some [x, y, z]) := by rfl)
    (hi : X.N[i]? = some x := by rfl) (hj : X.N[j]? = some y := by rfl) (hl : X.N[l]? = some z := by rfl) (hij : i ≠ j := by decide) (hil : i ≠ l := by decide) (hjl : j ≠ l := by decide)
    (hx : X.env.scope.names.lookup x = some .local := by rfl) (hy : X.env.scope.names.lookup y = some .local := by rfl) (hz : X.env.scope.names.lookup z = some .local := by rfl)
    (hs : swapsWithSole [.Tuple [.Name x px, .Name y py, .Name z pz] kt pt] (.Tuple [a, b, c] k2 pt2) pos.line X.env = pure false := by rfl) :
    PSd X (.Assign [.Tuple [.Name x px, .Name y py, .Name z pz] kt pt] (.Tuple [a, b, c] k2 pt2) pos) (fPar3 i j l g) := ps_weak (ps_par3 hX.calm hX.nd hi hj hl hij hil hjl hx hy hz ha hw hs) fun D σ H ⟨m, env, S, R, E, q⟩ => by
  obtain ⟨ds, S1, k1, q⟩ := Oc.fl_ne q
  refine ⟨m, env, S, R, E, ds, S1, k1, fun vs m1 H1 st1 R1 i1 => ?_⟩
  split at q
  · obtain ⟨u, ws, rfl, h2, h3⟩ := i1
    obtain ⟨v, ws, rfl, h4, h5⟩ := h3
    obtain ⟨w, ws, rfl, h6, h7⟩ := h5
    have h7' : ws = [] := h7
    subst h7'
    exact ⟨u, v, w, rfl, q m1 H1 _ st1 R1 ((((E.step st1).set h2).set h4).set h6)⟩
  · exact q.elim
end
end DL
namespace DL
open PySem PySem.Spec PyProof.Rows L2
theorem put_hit {ks : List Key} {ps : List P} {k : Key} {p : P} {i : Nat} (hn : ks.Nodup) (h1 : ks[i]? = some k) (hl : ks.length = ps.length) : putP ks ps k p = (ks, ps.set i p) := by
  induction ks generalizing ps i with
  | nil => simp at h1
  | cons j ks ih =>
    cases ps with
    | nil => simp at hl
    | cons q ps =>
      obtain ⟨hn1, hn2⟩ := List.nodup_cons.mp hn
      cases i with
      | zero =>
        simp at h1
        subst h1
        unfold putP
        rw [if_pos rfl]
        rfl
      | succ i =>
        have h1' : ks[i]? = some k := by simpa using h1
        have hne : j ≠ k := fun e => hn1 (e ▸ List.mem_of_getElem? h1')
        unfold putP
        rw [if_neg hne, ih hn2 h1' (by simpa using hl)]
        rfl
theorem ix_at {ks : List Key} {ps : List P} {x : Str} {p : P} (i : Nat) (hn : ks.Nodup) (h1 : ks[i]? = some (.inr x)) (h2 : ps[i]? = some p) : pIx (.dic ks ps) (.str x) = some p := look_hit hn h1 h2
theorem sb_at {env : Dnv} {T : Sto} {Q : Dnv → Sto → Prop} {ks : List Key} {ps : List P} {x : Str} {p : P} (i : Nat) (hn : ks.Nodup) (h1 : ks[i]? = some (.inr x)) (hl : ks.length = ps.length) (h3 : ks.length < 10000) (q : Q env (.dic ks (ps.set i p) :: T)) :
    (sbE (.r 0) (.v (.str x)) (.v p) env (.dic ks ps :: T)).P Q := by
  refine p_sbD (ks := ks) (ps := ps) (k := .inr x) rfl rfl h3 ?_
  rw [put_hit hn h1 hl]
  exact q
def kB : List Key := [.inr "cells", .inr "at", .inr "left", .inr "count"]
theorem kB_nd : kB.Nodup := by decide +kernel
theorem kB_0 {a b c d : P} : pIx (.dic kB [a, b, c, d]) (.str "cells") = some a := ix_at 0 kB_nd rfl rfl
theorem kB_1 {a b c d : P} : pIx (.dic kB [a, b, c, d]) (.str "at") = some b := ix_at 1 kB_nd rfl rfl
theorem kB_2 {a b c d : P} : pIx (.dic kB [a, b, c, d]) (.str "left") = some c := ix_at 2 kB_nd rfl rfl
theorem kB_3 {a b c d : P} : pIx (.dic kB [a, b, c, d]) (.str "count") = some d := ix_at 3 kB_nd rfl rfl
section
variable {a b c d p : P} {env : Dnv} {T : Sto} {Q : Dnv → Sto → Prop}
theorem kB_s1 (q : Q env (.dic kB [a, p, c, d] :: T)) : (sbE (.r 0) (.v (.str "at")) (.v p) env (.dic kB [a, b, c, d] :: T)).P Q := sb_at 1 kB_nd rfl rfl (by decide) q
theorem kB_s2 (q : Q env (.dic kB [a, b, p, d] :: T)) : (sbE (.r 0) (.v (.str "left")) (.v p) env (.dic kB [a, b, c, d] :: T)).P Q := sb_at 2 kB_nd rfl rfl (by decide) q
theorem kB_s3 (q : Q env (.dic kB [a, b, c, p] :: T)) : (sbE (.r 0) (.v (.str "count")) (.v p) env (.dic kB [a, b, c, d] :: T)).P Q := sb_at 3 kB_nd rfl rfl (by decide) q
end
local macro_rules | `(tactic| trivial) => `(tactic| first
  | with_reducible refine s_Seq ?_
  | with_reducible refine s_Set ?_
  | with_reducible refine s_If ?_
  | with_reducible refine s_Drop ?_
  | with_reducible refine s_Ret ?_
  | with_reducible refine s_Par ?_
  | with_reducible refine s_For ?_
  | with_reducible refine s_Nx ?_
  | with_reducible refine p_f2 ?_
  | ((with_reducible apply p_var); (exact rfl))
  | with_reducible refine p_c ?_
  | with_reducible refine p_gNm ?_
  | with_reducible refine p_gSb ?_
  | with_reducible refine p_tru ?_
  | with_reducible refine p_and ?_
  | with_reducible refine p_or ?_
  | with_reducible refine p_not ?_
  | with_reducible refine p_yes ?_
  | with_reducible refine p_ite ?_
  | with_reducible refine p_cons ?_
  | with_reducible refine p_nil ?_
  | with_reducible refine p_cb ?_
  | with_reducible refine p_cbB ?_
  | with_reducible refine p_tup ?_
  | with_reducible refine p_lst ?_
  | with_reducible refine p_lstB ?_
  | with_reducible refine p_lc ?_
  | with_reducible refine p_dc ?_
  | with_reducible refine p_sl ?_
  | with_reducible refine p_oNo ?_
  | with_reducible refine c_oAt ?_
  | with_reducible refine c_atE ?_
  | ((with_reducible apply p_slE); (first | exact rfl | exact deP_bx rfl); (exact rfl))
  | with_reducible refine p_call ?_
  | with_reducible refine p_callN ?_
  | with_reducible refine s_ParE ?_
  | with_reducible refine c_iv ?_
  | with_reducible refine c_rg ?_
  | ((with_reducible apply c_mt); (exact rfl); (exact rfl))
  | with_reducible refine c_ret ?_
  | with_reducible refine p_closeV ?_
  | with_reducible refine p_closeK ?_
  | with_reducible refine ff ?_
  | with_reducible refine tt ?_
  | with_reducible refine nff ?_
  | with_reducible refine ntt ?_
  | with_reducible refine ndt (fun _ => ?_) (fun _ => ?_)
  | with_reducible refine dt (fun _ => ?_) (fun _ => ?_)
  | ((with_reducible apply p_l2); (first | exact rfl | exact deP_bx rfl); (first | exact rfl | exact deP_bx rfl); (first | assumption | exact rfl | exact mod_ok (by omega) | exact fdiv_ok (by omega) (by omega) | exact mul_ok (by omega) (by omega) | exact pow_ok (by omega) (by omega) (by omega)))
  | ((with_reducible apply p_truE); (first | exact rfl | exact deP_bx rfl); (exact rfl))
  | ((with_reducible apply p_cbE); (repeat (first | exact a_nil | (apply a_cons; first | exact rfl | exact deP_bx rfl))); (first | assumption | exact rfl))
  | ((with_reducible apply c_cbB); (repeat (first | exact a_nil | (apply a_cons; first | exact rfl | exact deP_bx rfl))); (first | assumption | exact rfl))
  | ((with_reducible apply p_lstE); (repeat (first | exact v_nil | apply v_cons)); (focus (show _ ≤ (100000 : Nat); first | decide | (simp; done) | (simp; omega))))
  | ((with_reducible apply p_tupE); (repeat (first | exact v_nil | apply v_cons)); (focus (show _ ≤ (100000 : Nat); first | decide | (simp; done) | (simp; omega))))
  | ((with_reducible apply c_lstB); (repeat (first | exact v_nil | apply v_cons)); (focus (show _ ≤ (100000 : Nat); first | decide | (simp; done) | (simp; omega))))
  | ((with_reducible apply c_ivE); (first | exact rfl | exact seq_bx rfl))
  | ((with_reducible apply p_sbL); (exact rfl); (exact rfl)))
local macro_rules | `(tactic| trivial) => `(tactic| first
  | ((with_reducible apply p_l2); (exact rfl); (exact rfl); (first | exact kB_0 | exact kB_1 | exact kB_2 | exact kB_3))
  | with_reducible refine kB_s1 ?_
  | with_reducible refine kB_s2 ?_
  | with_reducible refine kB_s3 ?_)
end DL
namespace DL
open PySem PySem.Spec PyProof.Rows L2
def kA : List Key := [.inr "cells", .inr "spot", .inr "rest", .inr "calls"]
theorem kA_nd : kA.Nodup := by decide +kernel
theorem kA_0 {a b c d : P} : pIx (.dic kA [a, b, c, d]) (.str "cells") = some a := ix_at 0 kA_nd rfl rfl
theorem kA_1 {a b c d : P} : pIx (.dic kA [a, b, c, d]) (.str "spot") = some b := ix_at 1 kA_nd rfl rfl
theorem kA_2 {a b c d : P} : pIx (.dic kA [a, b, c, d]) (.str "rest") = some c := ix_at 2 kA_nd rfl rfl
theorem kA_3 {a b c d : P} : pIx (.dic kA [a, b, c, d]) (.str "calls") = some d := ix_at 3 kA_nd rfl rfl
section
variable {a b c d p : P} {env : Dnv} {T : Sto} {Q : Dnv → Sto → Prop}
theorem kA_s1 (q : Q env (.dic kA [a, p, c, d] :: T)) : (sbE (.r 0) (.v (.str "spot")) (.v p) env (.dic kA [a, b, c, d] :: T)).P Q := sb_at 1 kA_nd rfl rfl (by decide) q
theorem kA_s2 (q : Q env (.dic kA [a, b, p, d] :: T)) : (sbE (.r 0) (.v (.str "rest")) (.v p) env (.dic kA [a, b, c, d] :: T)).P Q := sb_at 2 kA_nd rfl rfl (by decide) q
theorem kA_s3 (q : Q env (.dic kA [a, b, c, p] :: T)) : (sbE (.r 0) (.v (.str "calls")) (.v p) env (.dic kA [a, b, c, d] :: T)).P Q := sb_at 3 kA_nd rfl rfl (by decide) q
end
local macro_rules | `(tactic| trivial) => `(tactic| first
  | with_reducible refine s_Seq ?_
  | with_reducible refine s_Set ?_
  | with_reducible refine s_If ?_
  | with_reducible refine s_Drop ?_
  | with_reducible refine s_Ret ?_
  | with_reducible refine s_Par ?_
  | with_reducible refine s_For ?_
  | with_reducible refine s_Nx ?_
  | with_reducible refine p_f2 ?_
  | ((with_reducible apply p_var); (exact rfl))
  | with_reducible refine p_c ?_
  | with_reducible refine p_gNm ?_
  | with_reducible refine p_gSb ?_
  | with_reducible refine p_tru ?_
  | with_reducible refine p_and ?_
  | with_reducible refine p_or ?_
  | with_reducible refine p_not ?_
  | with_reducible refine p_yes ?_
  | with_reducible refine p_ite ?_
  | with_reducible refine p_cons ?_
  | with_reducible refine p_nil ?_
  | with_reducible refine p_cb ?_
  | with_reducible refine p_cbB ?_
  | with_reducible refine p_tup ?_
  | with_reducible refine p_lst ?_
  | with_reducible refine p_lstB ?_
  | with_reducible refine p_lc ?_
  | with_reducible refine p_dc ?_
  | with_reducible refine p_sl ?_
  | with_reducible refine p_oNo ?_
  | with_reducible refine c_oAt ?_
  | with_reducible refine c_atE ?_
  | ((with_reducible apply p_slE); (first | exact rfl | exact deP_bx rfl); (exact rfl))
  | with_reducible refine p_call ?_
  | with_reducible refine p_callN ?_
  | with_reducible refine s_ParE ?_
  | with_reducible refine c_iv ?_
  | with_reducible refine c_rg ?_
  | ((with_reducible apply c_mt); (exact rfl); (exact rfl))
  | with_reducible refine c_ret ?_
  | with_reducible refine p_closeV ?_
  | with_reducible refine p_closeK ?_
  | with_reducible refine ff ?_
  | with_reducible refine tt ?_
  | with_reducible refine nff ?_
  | with_reducible refine ntt ?_
  | with_reducible refine ndt (fun _ => ?_) (fun _ => ?_)
  | with_reducible refine dt (fun _ => ?_) (fun _ => ?_)
  | ((with_reducible apply p_l2); (first | exact rfl | exact deP_bx rfl); (first | exact rfl | exact deP_bx rfl); (first | assumption | exact rfl | exact mod_ok (by omega) | exact fdiv_ok (by omega) (by omega) | exact mul_ok (by omega) (by omega) | exact pow_ok (by omega) (by omega) (by omega)))
  | ((with_reducible apply p_truE); (first | exact rfl | exact deP_bx rfl); (exact rfl))
  | ((with_reducible apply p_cbE); (repeat (first | exact a_nil | (apply a_cons; first | exact rfl | exact deP_bx rfl))); (first | assumption | exact rfl))
  | ((with_reducible apply c_cbB); (repeat (first | exact a_nil | (apply a_cons; first | exact rfl | exact deP_bx rfl))); (first | assumption | exact rfl))
  | ((with_reducible apply p_lstE); (repeat (first | exact v_nil | apply v_cons)); (focus (show _ ≤ (100000 : Nat); first | decide | (simp; done) | (simp; omega))))
  | ((with_reducible apply p_tupE); (repeat (first | exact v_nil | apply v_cons)); (focus (show _ ≤ (100000 : Nat); first | decide | (simp; done) | (simp; omega))))
  | ((with_reducible apply c_lstB); (repeat (first | exact v_nil | apply v_cons)); (focus (show _ ≤ (100000 : Nat); first | decide | (simp; done) | (simp; omega))))
  | ((with_reducible apply c_ivE); (first | exact rfl | exact seq_bx rfl))
  | ((with_reducible apply p_sbL); (exact rfl); (exact rfl)))
local macro_rules | `(tactic| trivial) => `(tactic| first
  | ((with_reducible apply p_l2); (exact rfl); (exact rfl); (first | exact kA_0 | exact kA_1 | exact kA_2 | exact kA_3))
  | with_reducible refine kA_s1 ?_
  | with_reducible refine kA_s2 ?_
  | with_reducible refine kA_s3 ?_)
noncomputable def drawAB : FS :=
 (fSeq (fSet (f2 pAdd (f2 pIx (fVar 0) (fC (.v (.str "calls")))) (fC (.v (.int 1)))) (gNm 2))
 (fSeq (fSet (fVar 2) (gSb (fVar 0) (fC (.v (.str "calls")))))
 (fSeq (fIf (fTru (f2 pGt (f2 pIx (fVar 0) (fC (.v (.str "rest")))) (fC (.v (.int 0)))))
  (fSeq (fSet (f2 pMod (f2 pIx (fVar 0) (fC (.v (.str "rest")))) (fVar 1)) (gNm 3))
  (fSeq (fSet (f2 pFdiv (f2 pIx (fVar 0) (fC (.v (.str "rest")))) (fVar 1)) (gSb (fVar 0) (fC (.v (.str "rest")))))
  (fRet (fVar 3))))
  fNext)
 (fSeq (fSet (f2 pIx (fVar 0) (fC (.v (.str "spot")))) (gNm 4))
 (fSeq (fSet (f2 pAdd (fVar 4) (fC (.v (.int 1)))) (gSb (fVar 0) (fC (.v (.str "spot")))))
 (fSeq (fSet (f2 pIx (fVar 0) (fC (.v (.str "cells")))) (gNm 5))
 (fSeq (fSet (fIte (fTru (f2 pGt (fCb bLen (fCons (fVar 5) fNil)) (fC (.v (.int 0))))) (f2 pIx (fVar 5) (f2 pMod (fVar 4) (fCb bLen (fCons (fVar 5) fNil)))) (fC (.v (.int 11)))) (gNm 6))
 (fSeq (fIf (fAnd (fTru (f2 pLt (fVar 4) (fCb bLen (fCons (fVar 5) fNil)))) (fTru (f2 pGe (fVar 6) (f2 pPow (fC (.v (.int 10))) (fC (.v (.int 18)))))))
  (fSeq (fSet (f2 pFdiv (fVar 6) (fVar 1)) (gSb (fVar 0) (fC (.v (.str "rest")))))
  (fRet (f2 pMod (fVar 6) (fVar 1))))
  fNext)
 (fSeq (fSet (f2 pMod (f2 pPow (f2 pAdd (f2 pAdd (f2 pMod (fVar 6) (fC (.v (.int 2147483629)))) (f2 pMul (fC (.v (.int 6053))) (fVar 2))) (fC (.v (.int 31)))) (fC (.v (.int 5)))) (fC (.v (.int 2147483647)))) (gNm 7))
 (fRet (f2 pMod (f2 pFdiv (f2 pMod (f2 pPow (f2 pAdd (fVar 7) (f2 pMul (f2 pMul (fC (.v (.int 4133))) (fVar 2)) (fVar 2))) (fC (.v (.int 5)))) (fC (.v (.int 2147483587)))) (fC (.v (.int 32)))) (fVar 1))))))))))))
noncomputable def drawAF : FF := runF 8 false drawAB
def SOA (b : Int) (o : Ob) : Prop := ∃ (ns : List Int) (at' c k : Int), o = .dic kA [.lst (ns.map P.int), .int at', .int c, .int k] ∧ 0 ≤ k ∧ k ≤ b ∧ ns.length ≤ 63
theorem SOA.mono {b b' : Int} {o : Ob} (h : SOA b o) (hb : b ≤ b') : SOA b' o := by
  obtain ⟨ns, at', c, k, e, h1, h2, h3⟩ := h
  exact ⟨ns, at', c, k, e, h1, by omega, h3⟩
theorem drawA_raw {n at' c k : Int} {ns : List Int} {T : Sto} (hk : 0 ≤ k) (hb : k ≤ 1000000) (h0 : 0 < n) (hn : n < 1000000) (hl : ns.length ≤ 63) :
    (drawAF [.r 0, .v (.int n)] (.dic kA [.lst (ns.map P.int), .int at', .int c, .int k] :: T)).P fun d S => ∃ v at2 c2, d = .v (.int v) ∧ S = .dic kA [.lst (ns.map P.int), .int at2, .int c2, .int (k + 1)] :: T ∧ 0 ≤ v ∧ v < n := by
  have fin : ∀ {at2 c2 v : Int} {S1 : Sto}, S1.take (T.length + 1) = .dic kA [.lst (ns.map P.int), .int at2, .int c2, .int (k + 1)] :: T → 0 ≤ v → v < n →
      ∃ v2 at3 c3, D.v (.int v) = .v (.int v2) ∧ S1.take ((Ob.dic kA [.lst (ns.map P.int), .int at', .int c, .int k] :: T).length) = .dic kA [.lst (ns.map P.int), .int at3, .int c3, .int (k + 1)] :: T ∧ 0 ≤ v2 ∧ v2 < n :=
    fun h1 h2 h3 => ⟨_, _, _, rfl, h1, h2, h3⟩
  have hlen : (List.map P.int ns).length = ns.length := List.length_map ..
  have nb : ∀ i : Int, (i % 2147483629 + 6053 * (k + 1) + 31).natAbs < 2 ^ 64 := fun i => by
    have := Int.emod_nonneg i (show (2147483629 : Int) ≠ 0 by decide)
    have := Int.emod_lt_of_pos i (show (0 : Int) < 2147483629 by decide)
    omega
  have nb2 : ∀ i : Int, (i % 2147483647 + 4133 * (k + 1) * (k + 1)).natAbs < 2 ^ 64 := fun i => by
    have := Int.emod_nonneg i (show (2147483647 : Int) ≠ 0 by decide)
    have := Int.emod_lt_of_pos i (show (0 : Int) < 2147483647 by decide)
    have h1 : 4133 * (k + 1) * (k + 1) ≤ 4133 * 1000001 * 1000001 := Int.mul_le_mul (by omega) (by omega) (by omega) (by omega)
    have h2 : 0 ≤ 4133 * (k + 1) * (k + 1) := Int.mul_nonneg (by omega) (by omega)
    omega
  have hq1 : 4133 * (k + 1) * (k + 1) ≤ 4133 * 1000001 * 1000001 := Int.mul_le_mul (by omega) (by omega) (by omega) (by omega)
  have hq2 : 0 ≤ 4133 * (k + 1) * (k + 1) := Int.mul_nonneg (by omega) (by omega)
  have hq3 : ∀ i : Int, 0 ≤ i % 2147483647 ∧ i % 2147483647 < 2147483647 := fun i => ⟨Int.emod_nonneg i (by decide), Int.emod_lt_of_pos i (by decide)⟩
  refine p_run ?_
  show (drawAB [some (.r 0), some (.v (.int n)), none, none, none, none, none, none] _).F _
  unfold drawAB
  repeat' trivial
  · exact fin (by simp; exact ⟨rfl, rfl⟩) (Int.emod_nonneg _ (by omega)) (Int.emod_lt_of_pos _ h0)
  · rename_i _ hz
    have hz : 0 < ns.length := by
      rw [hlen] at hz
      omega
    have hi : ∃ x : Int, pIx (.lst (ns.map P.int)) (.int (at' % ((ns.map P.int).length : Int))) = some (.int x) := by
      rw [hlen]
      have h1 := Int.emod_nonneg at' (show (ns.length : Int) ≠ 0 by omega)
      have h2 := Int.emod_lt_of_pos at' (show (0 : Int) < (ns.length : Int) by omega)
      have hj : (at' % (ns.length : Int)).toNat < ns.length := by omega
      exact ⟨ns[(at' % (ns.length : Int)).toNat], at_nn (j := (at' % (ns.length : Int)).toNat) (by omega) (by rw [List.getElem?_map, List.getElem?_eq_getElem hj]; rfl)⟩
    obtain ⟨cell, hi⟩ := hi
    repeat' trivial
    all_goals exact fin (by simp; exact ⟨rfl, rfl⟩) (Int.emod_nonneg _ (by omega)) (Int.emod_lt_of_pos _ h0)
  all_goals exact fin (by simp; exact ⟨rfl, rfl⟩) (Int.emod_nonneg _ (by omega)) (Int.emod_lt_of_pos _ h0)
theorem drawA_ok {b n : Int} {o : Ob} {T : Sto} (h : SOA b o) (hb : b ≤ 1000000) (h0 : 0 < n) (hn : n < 1000000) : (drawAF [.r 0, .v (.int n)] (o :: T)).P fun d S => ∃ v o', d = .v (.int v) ∧ S = o' :: T ∧ 0 ≤ v ∧ v < n ∧ SOA (b + 1) o' := by
  obtain ⟨ns, at', c, k, rfl, h1, h2, h3⟩ := h
  refine (drawA_raw h1 (by omega) h0 hn h3).mono ?_
  rintro d S ⟨v, a2, c2, rfl, rfl, k1, k2⟩
  exact ⟨v, _, rfl, rfl, k1, k2, ns, a2, c2, k + 1, rfl, by omega, by omega, h3⟩
end DL
namespace GA
open PySem PySem.Spec PyProof.Rows L2 DL
local macro_rules | `(tactic| array_get_dec) => `(tactic| first
  | (focus ((with_reducible (show deP _ _ = _)); exact rfl))
  | (focus ((with_reducible (show seqOf _ _ = _)); exact rfl))
  | (focus ((with_reducible (show truP _ = _)); exact rfl))
  | (focus ((with_reducible (show pIx _ _ = _)); exact rfl))
  | (focus ((with_reducible (show pKey _ = _)); exact rfl))
  | (focus ((with_reducible (show bLen _ = _)); exact rfl))
  | (focus ((with_reducible (show bInt _ = _)); exact rfl))
  | (focus ((with_reducible (show bList _ = _)); exact rfl))
  | (focus ((with_reducible (show pAdd (.int _) (.int _) = _)); exact rfl))
  | (focus ((with_reducible (show pSub (.int _) (.int _) = _)); exact rfl))
  | (focus ((with_reducible (show pLt (.int _) (.int _) = _)); exact rfl))
  | (focus ((with_reducible (show pLe (.int _) (.int _) = _)); exact rfl))
  | (focus ((with_reducible (show pGt (.int _) (.int _) = _)); exact rfl))
  | (focus ((with_reducible (show pGe (.int _) (.int _) = _)); exact rfl))
  | (focus ((with_reducible (show List.length _ = _)); exact rfl))
  | (focus ((with_reducible (show pSl _ _ _ = _)); exact rfl))
  | (focus ((with_reducible (show pIsN _ _ = _)); exact rfl))
  | (focus ((with_reducible (show pNotN _ _ = _)); exact rfl))
  | (focus ((with_reducible (show pNeg _ = _)); exact rfl))
  | (focus ((with_reducible (show setD _ _ _ _ = _)); exact rfl))
  | with_reducible exact rfl)
local macro_rules | `(tactic| array_get_dec) => `(tactic| first
  | (focus ((with_reducible show _ = _); with_reducible assumption))
  | (focus (with_reducible apply e_l2))
  | with_reducible exact o_eqN
  | with_reducible exact o_neN
  | with_reducible exact o_eqT
  | with_reducible exact o_neT
  | with_reducible exact o_eqT0
  | with_reducible exact o_neT0
  | with_reducible exact o_eqLs0
  | with_reducible exact o_neLs0
  | with_reducible exact o_inT
  | with_reducible exact o_inLs
  | with_reducible exact o_niT
  | with_reducible exact o_niLs
  | with_reducible exact o_eqI
  | with_reducible exact o_neI
  | with_reducible exact o_eqL (by decide +kernel)
  | with_reducible exact o_neL (by decide +kernel)
  | with_reducible exact o_inW (by decide +kernel)
  | with_reducible exact o_niW (by decide +kernel)
  | with_reducible exact o_in1 (by decide +kernel)
  | with_reducible exact o_in2 (by decide +kernel) (by decide +kernel)
  | with_reducible exact o_in3 (by decide +kernel) (by decide +kernel) (by decide +kernel)
  | with_reducible exact o_ni1 (by decide +kernel)
  | with_reducible exact o_ni2 (by decide +kernel) (by decide +kernel)
  | with_reducible exact o_addT1 (by first | omega | (simp; omega))
  | with_reducible exact o_addT (by first | omega | (simp; omega))
  | with_reducible exact o_addLs (by first | omega | (simp; omega))
  | with_reducible exact o_addTp (by first | omega | (simp; omega))
  | with_reducible exact o_tupleN
  | with_reducible exact o_tuple)
local macro_rules | `(tactic| array_get_dec) => `(tactic| first
  | with_reducible exact e_c
  | ((with_reducible apply e_var); (exact rfl))
  | with_reducible apply e_f2
  | with_reducible exact e_nil
  | with_reducible apply e_cons
  | with_reducible apply e_tup
  | with_reducible apply e_lst
  | with_reducible apply e_lstB
  | with_reducible apply e_cb
  | with_reducible apply e_cbB
  | with_reducible apply e_tru
  | with_reducible exact e_yes
  | with_reducible apply e_and
  | with_reducible apply e_or
  | with_reducible apply e_not
  | with_reducible apply e_iteB
  | with_reducible apply e_ite
  | with_reducible apply e_andV
  | with_reducible apply e_orV
  | with_reducible apply e_notV
  | with_reducible apply e_f1
  | with_reducible apply e_call
  | with_reducible apply e_callN
  | with_reducible apply e_sl
  | with_reducible exact e_oNo
  | with_reducible apply e_oAt
  | with_reducible apply e_iv
  | with_reducible apply e_lcA
  | with_reducible apply e_lc
  | with_reducible apply e_lcB
  | with_reducible apply e_rg
  | with_reducible apply e_rg2
  | ((with_reducible apply e_mt); (exact rfl); (exact rfl))
  | with_reducible exact e_gNm
  | with_reducible exact e_gNl
  | with_reducible apply e_gCn
  | (focus ((with_reducible (show gTp _ _ _ _ _ = _)); (apply e_gTp); (exact rfl)))
  | (with_reducible (intro _ _; apply e_body))
  | with_reducible exact v_nil
  | with_reducible apply v_cons
  | with_reducible exact a_nil
  | ((with_reducible apply a_cons); (first | exact deP_bx rfl | exact deP_bxD rfl | exact rfl))
  | with_reducible exact deP_bx rfl
  | with_reducible exact deP_bxD rfl
  | with_reducible exact own_none
  | with_reducible exact own_bx rfl
  | (focus (show _ ≤ (100000 : Nat); first | decide | omega | (simp; done) | (simp; omega)))
  | (focus (show _ < (100000 : Nat); first | omega | (simp; omega) | (refine Nat.lt_of_le_of_lt (List.length_filter_le _ _) ?_; omega)))
  | with_reducible exact o_app (by first | omega | (simp; omega))
  | with_reducible exact o_ext rfl (by first | omega | (simp; omega))
  | (with_reducible intro _))
local macro_rules | `(tactic| get_elem_tactic_extensible) => `(tactic| first
  | with_reducible refine s_Seq ?_
  | with_reducible refine s_Nx ?_
  | with_reducible apply e_closeT
  | ((with_reducible apply e_closeLT); (exact rfl))
  | with_reducible apply s_SetE
  | with_reducible apply s_DropE
  | with_reducible apply s_RetE
  | with_reducible apply s_IfE
  | with_reducible apply s_Par2
  | with_reducible apply s_ForE)
noncomputable def B_rows_by_step : FS :=
 (fRet (fDc (iVal (fVar 0)) (gNm 1) fYes (f2 pIx (fVar 1) (fC (.v (.int 0)))) (fVar 1) [1]))
noncomputable def F_rows_by_step : FF := runF 2 false B_rows_by_step
noncomputable def L_require_steps_0 : FS :=
 (fIf (fTru (f2 pNotIn (fVar 3) (fVar 2)))
   fNever
   fNext)
noncomputable def B_require_steps : FS :=
 (fSeq (fSet (fCall F_rows_by_step [] (fCons (fVar 0) fNil)) (gNm 2))
 (fFor (iVal (fVar 1)) (gNm 3) L_require_steps_0))
noncomputable def F_require_steps : FF := runF 4 false B_require_steps
noncomputable def B_reasons_in : FS :=
 (fSeq (fSet (fCall F_rows_by_step [] (fCons (fVar 0) fNil)) (gNm 3))
 (fSeq (fSet (f2 pIx (fVar 3) (fVar 2)) (gTp 4 (gCn (gNm 4) (gCn (gNm 5) (gCn (gNm 6) (gCn (gNm 7) gNl))))))
 (fSeq (fSet (fIte (fTru (f2 pIn (fC (.v (.str "undo"))) (fVar 7))) (fLstB fNil) (fLstB (fCons (fTup (fCons (fC (.v (.str "ability"))) fNil)) fNil))) (gNm 8))
 (fSeq (fDrop (fMt mExtend (fVar 8) (fCons (fLc (iVal (fVar 1)) (gNm 9) (fTru (f2 pIn (fVar 2) (f2 pIx (f2 pIx (fVar 3) (fVar 9)) (fC (.v (.int 1)))))) (fTup (fCons (fC (.v (.str "needed"))) (fCons (fVar 9) fNil))) [9]) fNil)))
 (fSeq (fDrop (fMt mExtend (fVar 8) (fCons (fLc (iVal (fVar 6)) (gNm 9) (fTru (f2 pIn (fVar 9) (fVar 1))) (fTup (fCons (fC (.v (.str "seal"))) (fCons (fVar 9) fNil))) [9]) fNil)))
 (fRet (fCb bTuple (fCons (fCb bSorted (fCons (fVar 8) fNil)) fNil))))))))
noncomputable def F_reasons_in : FF := runF 10 false B_reasons_in
structure Rw where
  x : Nm
  ne : List Nm
  se : List Nm
  ab : List Nm
deriving DecidableEq
instance : Inhabited Rw := ⟨⟨default, [], [], []⟩⟩
abbrev rwP (r : Rw) : P := .tup [nP r.x, tN r.ne, tN r.se, tN r.ab]
abbrev wkP (rs : List Rw) : P := .tup (rs.map rwP)
def nm (rs : List Rw) : List Nm := rs.map (·.x)
structure WOk (rs : List Rw) : Prop where
  len : rs.length ≤ 500
  ne : ∀ r ∈ rs, r.ne.length ≤ 500
  se : ∀ r ∈ rs, r.se.length ≤ 500
  ab : ∀ r ∈ rs, r.ab.length ≤ 500
  nd : (nm rs).Nodup
abbrev dcP (rs : List Rw) : P := .dic (rs.map fun r => .inr r.x.s) (rs.map rwP)
def rowOf (rs : List Rw) (x : Nm) : Rw := (rs.find? fun q => decide (q.x = x)).getD default
theorem mem_nm {rs : List Rw} {x : Nm} : x ∈ nm rs ↔ ∃ r ∈ rs, r.x = x := by
  unfold nm
  rw [List.mem_map]
theorem rowOf_mem {rs : List Rw} {x : Nm} (h : x ∈ nm rs) : rowOf rs x ∈ rs ∧ (rowOf rs x).x = x := by
  obtain ⟨r, hr, rfl⟩ := mem_nm.mp h
  unfold rowOf
  cases e : rs.find? fun q => decide (q.x = r.x) with
  | none => exact absurd (List.find?_eq_none.mp e r hr) (by simp)
  | some q => exact ⟨List.mem_of_find?_eq_some e, by simpa using List.find?_some e⟩
theorem row_uniq {rs : List Rw} (hn : (nm rs).Nodup) {r q : Rw} (hr : r ∈ rs) (hq : q ∈ rs) (e : r.x = q.x) : r = q := by
  induction rs with
  | nil => cases hr
  | cons a rs ih =>
    obtain ⟨h1, h2⟩ := List.nodup_cons.mp (show (a.x :: nm rs).Nodup from hn)
    rcases List.mem_cons.mp hr with e1 | hr1
    · rcases List.mem_cons.mp hq with e2 | hq1
      · rw [e1, e2]
      · exact absurd (mem_nm.mpr ⟨q, hq1, by rw [← e, e1]⟩) h1
    · rcases List.mem_cons.mp hq with e2 | hq1
      · exact absurd (mem_nm.mpr ⟨r, hr1, by rw [e, e2]⟩) h1
      · exact ih h2 hr1 hq1
theorem rowOf_eq {rs : List Rw} (hn : (nm rs).Nodup) {r : Rw} (hr : r ∈ rs) : rowOf rs r.x = r := by
  have h := rowOf_mem (mem_nm.mpr ⟨r, hr, rfl⟩)
  exact row_uniq hn h.1 hr h.2
theorem look_find {rs : List Rw} {x : Nm} : look (rs.map fun r => (.inr r.x.s : Key)) (rs.map rwP) (.inr x.s) = (rs.find? fun q => decide (q.x = x)).map rwP := by
  unfold look
  induction rs with
  | nil => rfl
  | cons r rs ih =>
    simp only [List.map_cons, List.zip_cons_cons, List.find?_cons]
    have e : decide ((Sum.inr r.x.s : Key) = .inr x.s) = decide (r.x = x) := by
      simp only [Sum.inr.injEq, Nm.eq_iff]
    rw [e]
    cases hq : decide (r.x = x) with
    | true => simp
    | false => exact ih
theorem o_row {rs : List Rw} {x : Nm} (h : x ∈ nm rs) : pIx (dcP rs) (nP x) = some (rwP (rowOf rs x)) := by
  show look (rs.map fun r => (.inr r.x.s : Key)) (rs.map rwP) (.inr x.s) = _
  rw [look_find]
  obtain ⟨r, hr, rfl⟩ := mem_nm.mp h
  unfold rowOf
  cases e : rs.find? fun q => decide (q.x = r.x) with
  | none => exact absurd (List.find?_eq_none.mp e r hr) (by simp)
  | some q => rfl
theorem o_inD {rs : List Rw} {x : Nm} : pIn (nP x) (dcP rs) = some (.bl (decide (x ∈ nm rs))) := by
  have e : (look (rs.map fun r => (.inr r.x.s : Key)) (rs.map rwP) (.inr x.s)).isSome = decide (x ∈ nm rs) := by
    rw [look_find]
    refine boolE ?_
    rw [Option.isSome_map, List.find?_isSome, mem_nm]
    simp
  show some (P.bl (look _ _ _).isSome) = _
  rw [e]
theorem o_niD {rs : List Rw} {x : Nm} : pNotIn (nP x) (dcP rs) = some (.bl (!decide (x ∈ nm rs))) := notIn_of o_inD
theorem o_r0 {r : Rw} : pIx (rwP r) (.int 0) = some (nP r.x) := rfl
theorem o_r1 {r : Rw} : pIx (rwP r) (.int 1) = some (tN r.ne) := rfl
theorem o_r2 {r : Rw} : pIx (rwP r) (.int 2) = some (tN r.se) := rfl
theorem o_r3 {r : Rw} : pIx (rwP r) (.int 3) = some (tN r.ab) := rfl
local macro_rules | `(tactic| array_get_dec) => `(tactic| first
  | with_reducible exact o_inD
  | with_reducible exact o_niD
  | with_reducible exact o_row (by assumption)
  | with_reducible exact o_r0
  | with_reducible exact o_r1
  | with_reducible exact o_r2
  | with_reducible exact o_r3)
theorem rows_by {o : Ob} {T : Sto} {rs : List Rw} (h : WOk rs) : F_rows_by_step [.v (wkP rs)] (o :: T) = .ok (.v (dcP rs)) (o :: T) := by
  have hl := h.len
  have hn : ((rs.filter fun _ => true).map fun r => (.inr r.x.s : Key)).Nodup := by
    rw [filter_yes]
    have := h.nd
    unfold nm at this
    have h2 : ((rs.map (·.x)).map fun x : Nm => (.inr x.s : Key)).Nodup := List.Pairwise.map _ (fun a b h e => h (Nm.inj (Sum.inr.inj e))) this
    rw [List.map_map] at h2
    exact h2
  refine e_run ?_
  show (B_rows_by_step [some (.v (wkP rs)), none] _).F _
  unfold B_rows_by_step
  refine s_RetE (S1 := o :: (T ++ [])) (e_dc (xs := rs) (f := rwP) (q := fun _ => true) (kp := fun r => nP r.x) (kk := fun r => .inr r.x.s) (hh := rwP) (own := none) ?_ own_none (by omega) ?_ hn) ?_
  · repeat' array_get_dec
  · intro r hr
    apply e_bodyD
    repeat' array_get_dec
  · rw [filter_yes]
    exact e_close
local macro_rules | `(tactic| array_get_dec) => `(tactic| (focus ((with_reducible (show F_rows_by_step _ _ = _)); exact rows_by (by assumption))))
theorem require {o : Ob} {T : Sto} {rs : List Rw} {ms : List Nm} (h : WOk rs) (hm : ∀ m ∈ ms, m ∈ nm rs) : F_require_steps [.v (wkP rs), .v (tN ms)] (o :: T) = .ok (.v .non) (o :: T) := by
  refine e_run ?_
  show (B_require_steps [some (.v (wkP rs)), some (.v (tN ms)), none, none] _).F _
  unfold B_require_steps
  repeat' (first | get_elem_tactic_extensible | array_get_dec)
  refine s_Loop (fun i env S => ∃ e3 : Option D, env = [some (.v (wkP rs)), some (.v (tN ms)), some (.v (dcP rs)), e3] ∧ S = o :: (T ++ [])) ⟨none, rfl, rfl⟩ (fun _ _ _ _ => own_none) ?_ ?_
  · rintro i p env S hi ⟨e3, rfl, rfl⟩
    have hi' : (ms.map nP)[i]? = some p := hi
    rw [List.getElem?_map] at hi'
    obtain ⟨x, hx, rfl⟩ := Option.map_eq_some_iff.mp hi'
    have hxm := hm x (List.mem_of_getElem? hx)
    refine P_of e_gNm ?_
    unfold L_require_steps_0
    refine s_IfE (k := !decide (x ∈ nm rs)) (by repeat' array_get_dec) (fun z => ?_) fun _ => ⟨_, rfl, rfl⟩
    simp [hxm] at z
  · rintro env S ⟨e3, rfl, rfl⟩
    exact e_close
end GA
namespace GA
open PySem PySem.Spec PyProof.Rows L2 DL
local macro_rules | `(tactic| array_get_dec) => `(tactic| first
  | (focus ((with_reducible (show deP _ _ = _)); exact rfl))
  | (focus ((with_reducible (show seqOf _ _ = _)); exact rfl))
  | (focus ((with_reducible (show truP _ = _)); exact rfl))
  | (focus ((with_reducible (show pIx _ _ = _)); exact rfl))
  | (focus ((with_reducible (show pKey _ = _)); exact rfl))
  | (focus ((with_reducible (show bLen _ = _)); exact rfl))
  | (focus ((with_reducible (show bInt _ = _)); exact rfl))
  | (focus ((with_reducible (show bList _ = _)); exact rfl))
  | (focus ((with_reducible (show pAdd (.int _) (.int _) = _)); exact rfl))
  | (focus ((with_reducible (show pSub (.int _) (.int _) = _)); exact rfl))
  | (focus ((with_reducible (show pLt (.int _) (.int _) = _)); exact rfl))
  | (focus ((with_reducible (show pLe (.int _) (.int _) = _)); exact rfl))
  | (focus ((with_reducible (show pGt (.int _) (.int _) = _)); exact rfl))
  | (focus ((with_reducible (show pGe (.int _) (.int _) = _)); exact rfl))
  | (focus ((with_reducible (show List.length _ = _)); exact rfl))
  | (focus ((with_reducible (show pSl _ _ _ = _)); exact rfl))
  | (focus ((with_reducible (show pIsN _ _ = _)); exact rfl))
  | (focus ((with_reducible (show pNotN _ _ = _)); exact rfl))
  | (focus ((with_reducible (show pNeg _ = _)); exact rfl))
  | (focus ((with_reducible (show setD _ _ _ _ = _)); exact rfl))
  | with_reducible exact rfl)
local macro_rules | `(tactic| array_get_dec) => `(tactic| first
  | (focus ((with_reducible show _ = _); with_reducible assumption))
  | (focus (with_reducible apply e_l2))
  | with_reducible exact o_eqN
  | with_reducible exact o_neN
  | with_reducible exact o_eqT
  | with_reducible exact o_neT
  | with_reducible exact o_eqT0
  | with_reducible exact o_neT0
  | with_reducible exact o_eqLs0
  | with_reducible exact o_neLs0
  | with_reducible exact o_inT
  | with_reducible exact o_inLs
  | with_reducible exact o_niT
  | with_reducible exact o_niLs
  | with_reducible exact o_eqI
  | with_reducible exact o_neI
  | with_reducible exact o_eqL (by decide +kernel)
  | with_reducible exact o_neL (by decide +kernel)
  | with_reducible exact o_inW (by decide +kernel)
  | with_reducible exact o_niW (by decide +kernel)
  | with_reducible exact o_in1 (by decide +kernel)
  | with_reducible exact o_in2 (by decide +kernel) (by decide +kernel)
  | with_reducible exact o_in3 (by decide +kernel) (by decide +kernel) (by decide +kernel)
  | with_reducible exact o_ni1 (by decide +kernel)
  | with_reducible exact o_ni2 (by decide +kernel) (by decide +kernel)
  | with_reducible exact o_addT1 (by first | omega | (simp; omega))
  | with_reducible exact o_addT (by first | omega | (simp; omega))
  | with_reducible exact o_addLs (by first | omega | (simp; omega))
  | with_reducible exact o_addTp (by first | omega | (simp; omega))
  | with_reducible exact o_tupleN
  | with_reducible exact o_tuple)
local macro_rules | `(tactic| array_get_dec) => `(tactic| first
  | with_reducible exact e_c
  | ((with_reducible apply e_var); (exact rfl))
  | with_reducible apply e_f2
  | with_reducible exact e_nil
  | with_reducible apply e_cons
  | with_reducible apply e_tup
  | with_reducible apply e_lst
  | with_reducible apply e_lstB
  | with_reducible apply e_cb
  | with_reducible apply e_cbB
  | with_reducible apply e_tru
  | with_reducible exact e_yes
  | with_reducible apply e_and
  | with_reducible apply e_or
  | with_reducible apply e_not
  | with_reducible apply e_iteB
  | with_reducible apply e_ite
  | with_reducible apply e_andV
  | with_reducible apply e_orV
  | with_reducible apply e_notV
  | with_reducible apply e_f1
  | with_reducible apply e_call
  | with_reducible apply e_callN
  | with_reducible apply e_sl
  | with_reducible exact e_oNo
  | with_reducible apply e_oAt
  | with_reducible apply e_iv
  | with_reducible apply e_lcA
  | with_reducible apply e_lc
  | with_reducible apply e_lcB
  | with_reducible apply e_rg
  | with_reducible apply e_rg2
  | ((with_reducible apply e_mt); (exact rfl); (exact rfl))
  | with_reducible exact e_gNm
  | with_reducible exact e_gNl
  | with_reducible apply e_gCn
  | (focus ((with_reducible (show gTp _ _ _ _ _ = _)); (apply e_gTp); (exact rfl)))
  | (with_reducible (intro _ _; apply e_body))
  | with_reducible exact v_nil
  | with_reducible apply v_cons
  | with_reducible exact a_nil
  | ((with_reducible apply a_cons); (first | exact deP_bx rfl | exact deP_bxD rfl | exact rfl))
  | with_reducible exact deP_bx rfl
  | with_reducible exact deP_bxD rfl
  | with_reducible exact own_none
  | with_reducible exact own_bx rfl
  | (focus (show _ ≤ (100000 : Nat); first | decide | omega | (simp; done) | (simp; omega)))
  | (focus (show _ < (100000 : Nat); first | omega | (simp; omega) | (refine Nat.lt_of_le_of_lt (List.length_filter_le _ _) ?_; omega)))
  | with_reducible exact o_app (by first | omega | (simp; omega))
  | with_reducible exact o_ext rfl (by first | omega | (simp; omega))
  | (with_reducible intro _))
local macro_rules | `(tactic| get_elem_tactic_extensible) => `(tactic| first
  | with_reducible refine s_Seq ?_
  | with_reducible refine s_Nx ?_
  | with_reducible apply e_closeT
  | ((with_reducible apply e_closeLT); (exact rfl))
  | with_reducible apply s_SetE
  | with_reducible apply s_DropE
  | with_reducible apply s_RetE
  | with_reducible apply s_IfE
  | with_reducible apply s_Par2
  | with_reducible apply s_ForE)
local macro_rules | `(tactic| array_get_dec) => `(tactic| first
  | with_reducible exact o_inD
  | with_reducible exact o_niD
  | with_reducible exact o_row (by first | assumption | solve_by_elim)
  | with_reducible exact o_r0
  | with_reducible exact o_r1
  | with_reducible exact o_r2
  | with_reducible exact o_r3
  | (focus ((with_reducible (show F_rows_by_step _ _ = _)); exact rows_by (by assumption)))
  | (focus ((with_reducible (show F_require_steps _ _ = _)); exact require (by assumption) (by assumption))))
inductive Rs where
  | ab
  | nd (x : Nm)
  | sl (x : Nm)
deriving DecidableEq
def rsS : Rs → List Str
  | .ab => ["ability"]
  | .nd x => ["needed", x.s]
  | .sl x => ["seal", x.s]
abbrev rsP (r : Rs) : P := stP (rsS r)
theorem rsS_ok (r : Rs) : rsS r ≠ [] ∧ (rsS r).length ≤ 2 ∧ ∀ x ∈ rsS r, OkS x := by
  have h1 : OkS "ability" ∧ OkS "needed" ∧ OkS "seal" := by
    have : ∀ x ∈ (["ability", "needed", "seal"] : List Str), PyData.strOk x = true ∧ PyData.strOk (reprText x) = true ∧ (reprText x).length ≤ 20 := by decide +kernel
    exact ⟨this _ (by simp), this _ (by simp), this _ (by simp)⟩
  cases r with
  | ab => exact ⟨by simp [rsS], by simp [rsS], by simpa [rsS] using h1.1⟩
  | nd x => exact ⟨by simp [rsS], by simp [rsS], by simpa [rsS] using ⟨h1.2.1, x.ok⟩⟩
  | sl x => exact ⟨by simp [rsS], by simp [rsS], by simpa [rsS] using ⟨h1.2.2, x.ok⟩⟩
def abil (r : Rw) : List Rs := if has "undo" r.ab = true then [] else [.ab]
def raw (rs : List Rw) (ms : List Nm) (x : Nm) : List Rs := abil (rowOf rs x) ++ (ms.filter fun m => decide (x ∈ (rowOf rs m).ne)).map .nd ++ ((rowOf rs x).se.filter fun y => decide (y ∈ ms)).map .sl
noncomputable def RS (rs : List Rw) (ms : List Nm) (x : Nm) : List P := srt ((raw rs ms x).map rsP)
theorem srt_rs {l : List Rs} (hl : l.length ≤ 100000) : bSorted [.lst (l.map rsP)] = some (.lst (srt (l.map rsP))) := by
  have := sorted_st (xss := l.map rsS) (fun xs hx x hxx => by
    obtain ⟨r, _, rfl⟩ := List.mem_map.mp hx
    exact ((rsS_ok r).2.2 x hxx).1) (fun xs hx => by
    obtain ⟨r, _, rfl⟩ := List.mem_map.mp hx
    exact (rsS_ok r).1) (by simpa using hl)
  rw [List.map_map] at this
  exact this
theorem srt_nil {ps : List P} : srt ps = [] ↔ ps = [] := by
  rw [← List.length_eq_zero_iff, (srt_perm ps).length_eq, List.length_eq_zero_iff]
structure MOk (rs : List Rw) (ms : List Nm) : Prop where
  sub : ∀ m ∈ ms, m ∈ nm rs
  nd : ms.Nodup
theorem MOk.filter {rs : List Rw} {ms : List Nm} (hm : MOk rs ms) (q : Nm → Bool) : MOk rs (ms.filter q) := ⟨fun m h => hm.sub m (List.mem_filter.mp h).1, hm.nd.sublist List.filter_sublist⟩
theorem raw_len {rs : List Rw} {ms : List Nm} {x : Nm} (h : WOk rs) (hm : ms.length ≤ 1000) (hx : x ∈ nm rs) : (raw rs ms x).length ≤ 2000 := by
  have h1 := List.length_filter_le (fun m => decide (x ∈ (rowOf rs m).ne)) ms
  have h2 := List.length_filter_le (fun y => decide (y ∈ ms)) (rowOf rs x).se
  have h3 := h.se _ (rowOf_mem hx).1
  have h5 : (abil (rowOf rs x)).length ≤ 1 := by
    unfold abil
    split <;> simp
  unfold raw
  simp only [List.length_append, List.length_map]
  omega
theorem reasons_in {o : Ob} {T : Sto} {rs : List Rw} {ms : List Nm} {x : Nm} (h : WOk rs) (hl : ms.length ≤ 1000) (hm : ∀ m ∈ ms, m ∈ nm rs) (hx : x ∈ nm rs) : F_reasons_in [.v (wkP rs), .v (tN ms), .v (nP x)] (o :: T) = .ok (.v (.tup (RS rs ms x))) (o :: T) := by
  have hsl := h.se _ (rowOf_mem hx).1
  have hrl := raw_len h hl hx
  have h1 := List.length_filter_le (fun m => decide (x ∈ (rowOf rs m).ne)) ms
  have h2 := List.length_filter_le (fun y => decide (y ∈ ms)) (rowOf rs x).se
  have e1 : (if has "undo" (rowOf rs x).ab = true then ([] : List P) else [.tup [.str "ability"]]) = (abil (rowOf rs x)).map rsP := by
    unfold abil
    split <;> rfl
  have h5 : (abil (rowOf rs x)).length ≤ 1 := by
    unfold abil
    split <;> simp
  refine e_run ?_
  show (B_reasons_in [some (.v (wkP rs)), some (.v (tN ms)), some (.v (nP x)), none, none, none, none, none, none, none] _).F _
  unfold B_reasons_in
  refine s_Seq (s_SetE (rows_by h) e_gNm ?_)
  refine s_Seq (s_SetE (d := .v (rwP (rowOf rs x))) (by repeat' array_get_dec) (by repeat' array_get_dec) ?_)
  refine s_Seq (s_SetE (S1 := o :: (T ++ ([] ++ [.lst ((abil (rowOf rs x)).map rsP)]))) (d := .r (bx T 0)) (e1 ▸ e_iteB (ps := []) (qs := [.tup [.str "ability"]]) (by repeat' array_get_dec) (fun _ => by repeat' array_get_dec) (fun _ => by repeat' array_get_dec)) e_gNm ?_)
  repeat' (first | get_elem_tactic_extensible | array_get_dec)
  · refine (congrArg (fun l => bSorted [P.lst l]) ?_).trans (srt_rs (l := raw rs ms x) (by omega))
    unfold raw
    rw [List.map_append, List.map_append, List.map_map, List.map_map]
    rfl
  exact o_tuple
local macro_rules | `(tactic| array_get_dec) => `(tactic| first
  | (focus ((with_reducible (show F_reasons_in _ _ = _)); exact reasons_in (by assumption) (by first | assumption | omega) (by assumption) (by first | assumption | solve_by_elim))))
def free (rs : List Rw) (ms : List Nm) : List Nm := ms.filter fun m => decide (raw rs ms m = [])
end GA
namespace GA
open PySem PySem.Spec PyProof.Rows L2 DL
def fr (rs : List Rw) (kept L : List Nm) : List Nm := (free rs L).filter fun m => !decide (m ∈ kept)
abbrev wo (L : List Nm) (x : Nm) : List Nm := L.filter fun y => !decide (y = x)
def ordF (rs : List Rw) (kept : List Nm) : Nat → List Nm → List Nm
  | 0, _ => []
  | n + 1, L => match fr rs kept L with
    | [] => []
    | x :: _ => x :: ordF rs kept n (wo L x)
def ord (rs : List Rw) (kept ms : List Nm) : List Nm := ordF rs kept ms.length ms
end GA
namespace GA
open PySem PySem.Spec PyProof.Rows L2 DL
local macro_rules | `(tactic| array_get_dec) => `(tactic| first
  | (focus ((with_reducible (show deP _ _ = _)); exact rfl))
  | (focus ((with_reducible (show seqOf _ _ = _)); exact rfl))
  | (focus ((with_reducible (show truP _ = _)); exact rfl))
  | (focus ((with_reducible (show pIx _ _ = _)); exact rfl))
  | (focus ((with_reducible (show pKey _ = _)); exact rfl))
  | (focus ((with_reducible (show bLen _ = _)); exact rfl))
  | (focus ((with_reducible (show bInt _ = _)); exact rfl))
  | (focus ((with_reducible (show bList _ = _)); exact rfl))
  | (focus ((with_reducible (show pAdd (.int _) (.int _) = _)); exact rfl))
  | (focus ((with_reducible (show pSub (.int _) (.int _) = _)); exact rfl))
  | (focus ((with_reducible (show pLt (.int _) (.int _) = _)); exact rfl))
  | (focus ((with_reducible (show pLe (.int _) (.int _) = _)); exact rfl))
  | (focus ((with_reducible (show pGt (.int _) (.int _) = _)); exact rfl))
  | (focus ((with_reducible (show pGe (.int _) (.int _) = _)); exact rfl))
  | (focus ((with_reducible (show List.length _ = _)); exact rfl))
  | (focus ((with_reducible (show pSl _ _ _ = _)); exact rfl))
  | (focus ((with_reducible (show pIsN _ _ = _)); exact rfl))
  | (focus ((with_reducible (show pNotN _ _ = _)); exact rfl))
  | (focus ((with_reducible (show pNeg _ = _)); exact rfl))
  | (focus ((with_reducible (show setD _ _ _ _ = _)); exact rfl))
  | with_reducible exact rfl)
local macro_rules | `(tactic| array_get_dec) => `(tactic| first
  | (focus ((with_reducible show _ = _); with_reducible assumption))
  | (focus (with_reducible apply e_l2))
  | with_reducible exact o_eqN
  | with_reducible exact o_neN
  | with_reducible exact o_eqT
  | with_reducible exact o_neT
  | with_reducible exact o_eqT0
  | with_reducible exact o_neT0
  | with_reducible exact o_eqLs0
  | with_reducible exact o_neLs0
  | with_reducible exact o_inT
  | with_reducible exact o_inLs
  | with_reducible exact o_niT
  | with_reducible exact o_niLs
  | with_reducible exact o_eqI
  | with_reducible exact o_neI
  | with_reducible exact o_eqL (by decide +kernel)
  | with_reducible exact o_neL (by decide +kernel)
  | with_reducible exact o_inW (by decide +kernel)
  | with_reducible exact o_niW (by decide +kernel)
  | with_reducible exact o_in1 (by decide +kernel)
  | with_reducible exact o_in2 (by decide +kernel) (by decide +kernel)
  | with_reducible exact o_in3 (by decide +kernel) (by decide +kernel) (by decide +kernel)
  | with_reducible exact o_ni1 (by decide +kernel)
  | with_reducible exact o_ni2 (by decide +kernel) (by decide +kernel)
  | with_reducible exact o_addT1 (by first | omega | (simp; omega))
  | with_reducible exact o_addT (by first | omega | (simp; omega))
  | with_reducible exact o_addLs (by first | omega | (simp; omega))
  | with_reducible exact o_addTp (by first | omega | (simp; omega))
  | with_reducible exact o_tupleN
  | with_reducible exact o_tuple)
local macro_rules | `(tactic| array_get_dec) => `(tactic| first
  | with_reducible exact e_c
  | ((with_reducible apply e_var); (exact rfl))
  | with_reducible apply e_f2
  | with_reducible exact e_nil
  | with_reducible apply e_cons
  | with_reducible apply e_tup
  | with_reducible apply e_lst
  | with_reducible apply e_lstB
  | with_reducible apply e_cb
  | with_reducible apply e_cbB
  | with_reducible apply e_tru
  | with_reducible exact e_yes
  | with_reducible apply e_and
  | with_reducible apply e_or
  | with_reducible apply e_not
  | with_reducible apply e_iteB
  | with_reducible apply e_ite
  | with_reducible apply e_andV
  | with_reducible apply e_orV
  | with_reducible apply e_notV
  | with_reducible apply e_f1
  | with_reducible apply e_call
  | with_reducible apply e_callN
  | with_reducible apply e_sl
  | with_reducible exact e_oNo
  | with_reducible apply e_oAt
  | with_reducible apply e_iv
  | with_reducible apply e_lcA
  | with_reducible apply e_lc
  | with_reducible apply e_lcB
  | with_reducible apply e_rg
  | with_reducible apply e_rg2
  | ((with_reducible apply e_mt); (exact rfl); (exact rfl))
  | with_reducible exact e_gNm
  | with_reducible exact e_gNl
  | with_reducible apply e_gCn
  | (focus ((with_reducible (show gTp _ _ _ _ _ = _)); (apply e_gTp); (exact rfl)))
  | (with_reducible (intro _ _; apply e_body))
  | with_reducible exact v_nil
  | with_reducible apply v_cons
  | with_reducible exact a_nil
  | ((with_reducible apply a_cons); (first | exact deP_bx rfl | exact deP_bxD rfl | exact rfl))
  | with_reducible exact deP_bx rfl
  | with_reducible exact deP_bxD rfl
  | with_reducible exact own_none
  | with_reducible exact own_bx rfl
  | (focus (show _ ≤ (100000 : Nat); first | decide | omega | (simp; done) | (simp; omega)))
  | (focus (show _ < (100000 : Nat); first | omega | (simp; omega) | (refine Nat.lt_of_le_of_lt (List.length_filter_le _ _) ?_; omega)))
  | with_reducible exact o_app (by first | omega | (simp; omega))
  | with_reducible exact o_ext rfl (by first | omega | (simp; omega))
  | (with_reducible intro _))
local macro_rules | `(tactic| get_elem_tactic_extensible) => `(tactic| first
  | with_reducible refine s_Seq ?_
  | with_reducible refine s_Nx ?_
  | with_reducible apply e_closeT
  | ((with_reducible apply e_closeLT); (exact rfl))
  | with_reducible apply s_SetE
  | with_reducible apply s_DropE
  | with_reducible apply s_RetE
  | with_reducible apply s_IfE
  | with_reducible apply s_Par2
  | with_reducible apply s_ForE)
noncomputable def B_steps_with : FS :=
 (fRet (fCb bTuple (fCons (fLc (iZpS (fCons (fVar 0) (fCons (fVar 1) fNil)) (fCons (fC (.v (.bl true))) fNil)) (gTp 2 (gCn (gNm 3) (gCn (gNm 4) gNl))) (fTru (f2 pIn (fVar 4) (fVar 2))) (f2 pIx (fVar 3) (fC (.v (.int 0)))) [3, 4]) fNil)))
noncomputable def F_steps_with : FF := runF 5 false B_steps_with
local macro_rules | `(tactic| array_get_dec) => `(tactic| first
  | with_reducible exact o_r0
  | with_reducible exact o_r1
  | with_reducible exact o_r2
  | with_reducible exact o_r3)
def sel (rs : List Rw) (ps : List Nm) (q : Rw × Nm → Bool) : List Nm := ((rs.zip ps).filter q).map fun z => z.1.x
theorem fst_sub : ∀ (rs : List Rw) (ps : List Nm), ((rs.zip ps).map Prod.fst).Sublist rs
  | [], _ => by simp
  | r :: rs, [] => by simp
  | r :: rs, p :: ps => by
    rw [List.zip_cons_cons, List.map_cons]
    exact (fst_sub rs ps).cons_cons r
theorem sel_sub {rs : List Rw} {ps : List Nm} {q : Rw × Nm → Bool} : (sel rs ps q).Sublist (nm rs) := by
  have h2 := (fst_sub rs ps).map fun r : Rw => r.x
  rw [List.map_map] at h2
  exact (List.filter_sublist.map _).trans h2
theorem zip_uniq {rs : List Rw} (hn : (nm rs).Nodup) {ps : List Nm} {z y : Rw × Nm} (hz : z ∈ rs.zip ps) (hy : y ∈ rs.zip ps) (e : z.1.x = y.1.x) : z = y := by
  obtain ⟨i, hi, ei⟩ := List.getElem_of_mem hz
  obtain ⟨j, hj, ej⟩ := List.getElem_of_mem hy
  have li : i < rs.length := by rw [List.length_zip] at hi; omega
  have lj : j < rs.length := by rw [List.length_zip] at hj; omega
  have e1 : z.1 = rs[i] := by rw [← ei, List.getElem_zip]
  have e2 : y.1 = rs[j] := by rw [← ej, List.getElem_zip]
  have e3 : (nm rs)[i]'(by unfold nm; rw [List.length_map]; exact li) = (nm rs)[j]'(by unfold nm; rw [List.length_map]; exact lj) := by
    unfold nm
    rw [List.getElem_map, List.getElem_map, ← e1, ← e2]
    exact e
  have : i = j := (List.getElem_inj hn).mp e3
  subst this
  rw [← ei, ← ej]
abbrev isD (z : Rw × Nm) : Bool := decide (z.2.s = "done")
abbrev isM (z : Rw × Nm) : Bool := decide (z.2.s = "maybe")
abbrev isO (z : Rw × Nm) : Bool := decide (z.2.s = "open")
def upS (rs : List Rw) (ps : List Nm) : List Nm := sel rs ps fun z => decide (z.2.s = "done" ∨ z.2.s = "maybe")
theorem zip_len {rs : List Rw} {ps : List Nm} (h : WOk rs) : (rs.zip ps).length ≤ 500 := by
  have := h.len
  rw [List.length_zip]
  omega
section
variable {o : Ob} {T : Sto} {rs : List Rw} {ps : List Nm}
theorem steps_with1 {l1 : Str} (h : WOk rs) (hl : rs.length = ps.length) (h1 : PyData.strOk l1 = true) : F_steps_with [.v (wkP rs), .v (tN ps), .v (.tup [.str l1])] (o :: T) = .ok (.v (tN (sel rs ps fun z => decide (z.2.s = l1)))) (o :: T) := by
  have hz := zip_len (ps := ps) h
  have e : ∀ x : Nm, pIn (nP x) (.tup [.str l1]) = some (.bl (decide (x.s = l1))) := fun x => o_in1 h1
  refine e_run ?_
  show (B_steps_with [some (.v (wkP rs)), some (.v (tN ps)), some (.v (.tup [.str l1])), none, none] _).F _
  unfold B_steps_with
  refine s_RetE (e_cb (S1 := o :: (T ++ [])) (e_cons (e_lc (xs := rs.zip ps) (f := fun z => .tup [rwP z.1, nP z.2]) (own := none) (q := fun z => decide (z.2.s = l1)) (hh := fun z => nP z.1.x) (S1 := o :: (T ++ [])) (e_zpS (by repeat' array_get_dec) (by repeat' array_get_dec) (t1 := true) (t2 := true) rfl hl) own_none (by omega) fun z hz => ?_) e_nil) (a_cons rfl a_nil) o_tuple) (e_closeT ?_)
  · apply e_body
    · repeat' array_get_dec
    · repeat' (first | array_get_dec | (with_reducible exact e _))
    · repeat' array_get_dec
  · unfold sel
    rw [tN, List.map_map]
    rfl
end
end GA
namespace GA
open PySem PySem.Spec PyProof.Rows L2 DL
def leN (a b : Nm) : Bool := PySem.W.dataLe false pyOf (nP a) (nP b)
theorem leN_total (a b : Nm) : leN a b = true ∨ leN b a = true := Bool.or_eq_true_iff.mp (le_total (nP a) (nP b))
theorem leN_trans {a b c : Nm} (h1 : leN a b = true) (h2 : leN b c = true) : leN a c = true := le_trans _ _ _ h1 h2
theorem leN_anti {a b : Nm} (h1 : leN a b = true) (h2 : leN b a = true) : a = b := nP_inj.mp (le_anti (pl_nm a).1 (pl_nm b).1 (by
  show PySem.W.alike (PyData.str a.s) (PyData.str b.s) = true
  simp [PySem.W.alike]) h1 h2)
structure Asc (xs : List Nm) : Prop where
  le : xs.Pairwise fun a b => leN a b = true
  nd : xs.Nodup
theorem Asc.nil : Asc [] := ⟨List.Pairwise.nil, List.nodup_nil⟩
theorem Asc.tail {x : Nm} {xs : List Nm} (h : Asc (x :: xs)) : Asc xs := ⟨(List.pairwise_cons.mp h.le).2, (List.nodup_cons.mp h.nd).2⟩
theorem Asc.head {x : Nm} {xs : List Nm} (h : Asc (x :: xs)) : ∀ y ∈ xs, leN x y = true := (List.pairwise_cons.mp h.le).1
theorem Asc.sub {xs ys : List Nm} (h : Asc ys) (hs : xs.Sublist ys) : Asc xs := ⟨h.le.sublist hs, h.nd.sublist hs⟩
theorem asc_sub : ∀ {ys xs : List Nm}, Asc xs → Asc ys → (∀ x ∈ xs, x ∈ ys) → xs.Sublist ys
  | [], xs, _, _, h => by
    have : xs = [] := List.eq_nil_iff_forall_not_mem.mpr fun x hx => by cases h x hx
    rw [this]
    exact List.Sublist.refl _
  | y :: ys, [], _, _, _ => List.nil_sublist _
  | y :: ys, x :: xs, hx, hy, h => by
    by_cases e : x = y
    · subst e
      refine (asc_sub hx.tail hy.tail fun z hz => ?_).cons_cons x
      rcases List.mem_cons.mp (h z (List.mem_cons_of_mem _ hz)) with rfl | h2
      · exact absurd hz (List.nodup_cons.mp hx.nd).1
      · exact h2
    · have h1 : x ∈ ys := by
        rcases List.mem_cons.mp (h x (List.mem_cons_self ..)) with e2 | h2
        · exact absurd e2 e
        · exact h2
      refine (asc_sub hx hy.tail fun z hz => ?_).cons y
      rcases List.mem_cons.mp (h z hz) with e2 | h2
      · subst e2
        rcases List.mem_cons.mp hz with e3 | h3
        · exact absurd e3.symm e
        · exact absurd (leN_anti (hx.head _ h3) (hy.head _ h1)) e
      · exact h2
theorem asc_eq {xs ys : List Nm} (hx : Asc xs) (hy : Asc ys) (h : ∀ x, x ∈ xs ↔ x ∈ ys) : xs = ys := (asc_sub hx hy fun x => (h x).mp).eq_of_length_le (asc_sub hy hx fun x => (h x).mpr).length_le
theorem so_asc (xs : List Nm) : Asc (so xs) := ⟨List.pairwise_map.mp (so_ex xs).choose_spec.2.2.2, so_nd xs⟩
theorem toPys_nm (xs : List Nm) : toPys (xs.map nP) = some (xs.map fun x => PyData.str x.s) := by
  have := toPys_strs (xs.map (·.s))
  rw [List.map_map, List.map_map] at this
  exact this
theorem py_rw (r : Rw) : pyOf (rwP r) = .tuple [.str r.x.s, .tuple (r.ne.map fun x => .str x.s), .tuple (r.se.map fun x => .str x.s), .tuple (r.ab.map fun x => .str x.s)] := by
  unfold pyOf
  simp [toPy, toPys, toPys_nm, nP]
theorem pl_rw (r : Rw) : Pl 2 (rwP r) := pl_tup fun q hq => by
  simp only [List.mem_cons, List.not_mem_nil, or_false] at hq
  rcases hq with rfl | rfl | rfl | rfl
  · exact (pl_nm _).mono (by decide)
  · exact pl_tN _
  · exact pl_tN _
  · exact pl_tN _
theorem alike_nms (xs ys : List Nm) : PySem.W.alikeAll (xs.map fun x => PyData.str x.s) (ys.map fun x => PyData.str x.s) = true := by
  have := alike_strs (xs.map (·.s)) (ys.map (·.s))
  rw [List.map_map, List.map_map] at this
  exact this
theorem alike_rw (r q : Rw) : PySem.W.alike (pyOf (rwP r)) (pyOf (rwP q)) = true := by
  rw [py_rw, py_rw]
  simp [PySem.W.alike, PySem.W.alikeAll, alike_nms]
theorem lt_nm {a b : Nm} : PySem.W.dataLt (pyOf (nP a)) (pyOf (nP b)) = PyProof.Rows.lexLt itemOrd [.inr a.s.cps.toList] [.inr b.s.cps.toList] := rfl
theorem row_le {r q : Rw} (h : r.x ≠ q.x) : PySem.W.dataLe false pyOf (rwP r) (rwP q) = leN r.x q.x := by
  have hc : (Sum.inr q.x.s.cps.toList : Int ⊕ List Nat) ≠ .inr r.x.s.cps.toList := fun e => h (Nm.inj (PySem.W.str_of_cps (Sum.inr.inj e))).symm
  show (!PySem.W.dataLt (pyOf (rwP q)) (pyOf (rwP r))) = !PySem.W.dataLt (pyOf (nP q.x)) (pyOf (nP r.x))
  congr 1
  rw [lt_nm, py_rw, py_rw, PySem.W.dataLt_tuple]
  show PyProof.Rows.lexLt itemOrd (.inl 1 :: (.inr q.x.s.cps.toList :: _)) (.inl 1 :: (.inr r.x.s.cps.toList :: _)) = _
  rw [PyProof.Rows.lex_self (O := itemOrd)]
  exact PySem.W.lex_atom hc _ _
theorem srt_rows {rows : List Rw} (hl : rows.length ≤ 100000) (hn : (nm rows).Nodup) : ∃ rs : List Rw, bSorted [.lst (rows.map rwP)] = some (.lst (rs.map rwP)) ∧ rs.Perm rows ∧ Asc (nm rs) := by
  have hm : (rows.mergeSort fun a b => PySem.W.dataLe false pyOf (rwP a) (rwP b)).map rwP = srt (rows.map rwP) := List.map_mergeSort fun _ _ _ _ => rfl
  have hp : (rows.mergeSort fun a b => PySem.W.dataLe false pyOf (rwP a) (rwP b)).Perm rows := List.mergeSort_perm _ _
  have hs : (rows.mergeSort fun a b => PySem.W.dataLe false pyOf (rwP a) (rwP b)).Pairwise fun a b => PySem.W.dataLe false pyOf (rwP a) (rwP b) = true := List.pairwise_mergeSort (le := fun a b => PySem.W.dataLe false pyOf (rwP a) (rwP b)) (fun a b c => le_trans (rwP a) (rwP b) (rwP c)) (fun a b => le_total (rwP a) (rwP b)) rows
  generalize (rows.mergeSort fun a b => PySem.W.dataLe false pyOf (rwP a) (rwP b)) = rs at hm hp hs
  have hn2 : (nm rs).Nodup := by
    unfold nm at hn ⊢
    exact (hp.map (·.x)).nodup_iff.mpr hn
  refine ⟨rs, ?_, hp, ?_, hn2⟩
  · rw [hm]
    refine sorted_of (pyAll_of fun p hp => ?_) ?_ ?_ (by simpa using hl) ?_
    · obtain ⟨r, _, rfl⟩ := List.mem_map.mp hp
      exact (pl_rw r).1
    · unfold alikeB
      simp only [List.all_eq_true, List.mem_map]
      rintro _ ⟨_, ⟨p, _, rfl⟩, rfl⟩ _ ⟨_, ⟨q, _, rfl⟩, rfl⟩
      exact alike_rw p q
    · unfold sortableB
      rw [Bool.or_eq_true]
      left
      simp only [List.all_eq_true, List.mem_map]
      rintro _ ⟨_, ⟨p, _, rfl⟩, rfl⟩
      rw [py_rw]
    · simp only [List.mem_map]
      rintro _ ⟨_, ⟨p, _, rfl⟩, rfl⟩
      obtain ⟨d, h1, h2, h3⟩ := pl_py (rwP p) (pl_rw p).1
      have : pyOf (rwP p) = d := by
        unfold pyOf
        rw [h1]
        rfl
      rw [this, h3]
      exact Nat.le_trans (pl_rw p).2 (by decide)
  · unfold nm at hn2 ⊢
    rw [List.pairwise_map]
    have hn3 := List.pairwise_map.mp hn2
    refine (hs.and hn3).imp fun {a b} h => ?_
    rw [← row_le h.2]
    exact h.1
end GA
namespace FA
open PySem PySem.Spec PyProof.Rows L2 DL GA
local macro_rules | `(tactic| trivial) => `(tactic| first
  | with_reducible refine s_Seq ?_
  | with_reducible refine s_Set ?_
  | with_reducible refine s_If ?_
  | with_reducible refine s_Drop ?_
  | with_reducible refine s_Ret ?_
  | with_reducible refine s_Par ?_
  | with_reducible refine s_For ?_
  | with_reducible refine s_Nx ?_
  | with_reducible refine p_f2 ?_
  | ((with_reducible apply p_var); (exact rfl))
  | with_reducible refine p_c ?_
  | with_reducible refine p_gNm ?_
  | with_reducible refine p_gSb ?_
  | with_reducible refine p_tru ?_
  | with_reducible refine p_and ?_
  | with_reducible refine p_or ?_
  | with_reducible refine p_not ?_
  | with_reducible refine p_yes ?_
  | with_reducible refine p_ite ?_
  | with_reducible refine p_cons ?_
  | with_reducible refine p_nil ?_
  | with_reducible refine p_cb ?_
  | with_reducible refine p_cbB ?_
  | with_reducible refine p_tup ?_
  | with_reducible refine p_lst ?_
  | with_reducible refine p_lstB ?_
  | with_reducible refine p_lc ?_
  | with_reducible refine p_dc ?_
  | with_reducible refine p_sl ?_
  | with_reducible refine p_oNo ?_
  | with_reducible refine c_oAt ?_
  | with_reducible refine c_atE ?_
  | ((with_reducible apply p_slE); (first | exact rfl | exact deP_bx rfl); (exact rfl))
  | with_reducible refine p_call ?_
  | with_reducible refine p_callN ?_
  | with_reducible refine s_ParE ?_
  | with_reducible refine c_iv ?_
  | with_reducible refine c_rg ?_
  | ((with_reducible apply c_mt); (exact rfl); (exact rfl))
  | with_reducible refine c_ret ?_
  | with_reducible refine p_closeV ?_
  | with_reducible refine p_closeK ?_
  | with_reducible refine ff ?_
  | with_reducible refine tt ?_
  | with_reducible refine nff ?_
  | with_reducible refine ntt ?_
  | with_reducible refine ndt (fun _ => ?_) (fun _ => ?_)
  | with_reducible refine dt (fun _ => ?_) (fun _ => ?_)
  | ((with_reducible apply p_l2); (first | exact rfl | exact deP_bx rfl); (first | exact rfl | exact deP_bx rfl); (first | assumption | exact rfl | exact mod_ok (by omega) | exact fdiv_ok (by omega) (by omega) | exact mul_ok (by omega) (by omega) | exact pow_ok (by omega) (by omega) (by omega)))
  | ((with_reducible apply p_truE); (first | exact rfl | exact deP_bx rfl); (exact rfl))
  | ((with_reducible apply p_cbE); (repeat (first | exact a_nil | (apply a_cons; first | exact rfl | exact deP_bx rfl))); (first | assumption | exact rfl))
  | ((with_reducible apply c_cbB); (repeat (first | exact a_nil | (apply a_cons; first | exact rfl | exact deP_bx rfl))); (first | assumption | exact rfl))
  | ((with_reducible apply p_lstE); (repeat (first | exact v_nil | apply v_cons)); (focus (show _ ≤ (100000 : Nat); first | decide | (simp; done) | (simp; omega))))
  | ((with_reducible apply p_tupE); (repeat (first | exact v_nil | apply v_cons)); (focus (show _ ≤ (100000 : Nat); first | decide | (simp; done) | (simp; omega))))
  | ((with_reducible apply c_lstB); (repeat (first | exact v_nil | apply v_cons)); (focus (show _ ≤ (100000 : Nat); first | decide | (simp; done) | (simp; omega))))
  | ((with_reducible apply c_ivE); (first | exact rfl | exact seq_bx rfl))
  | ((with_reducible apply p_sbL); (exact rfl); (exact rfl)))
noncomputable def B__law_reader : FS :=
 (fRet (fDicB [((fC (.v (.str "cells"))), (fCb bList (fCons (fSl (fVar 0) oNo (oAt (fC (.v (.int 63))))) fNil))), ((fC (.v (.str "spot"))), (fC (.v (.int 0)))), ((fC (.v (.str "rest"))), (fC (.v (.int 0)))), ((fC (.v (.str "calls"))), (fC (.v (.int 0))))]))
noncomputable def F__law_reader : FF := runF 1 true B__law_reader
noncomputable def B__law_draw : FS :=
 (fSeq (fSet (f2 pAdd (f2 pIx (fVar 0) (fC (.v (.str "calls")))) (fC (.v (.int 1)))) (gNm 2))
 (fSeq (fSet (fVar 2) (gSb (fVar 0) (fC (.v (.str "calls")))))
 (fSeq (fIf (fTru (f2 pGt (f2 pIx (fVar 0) (fC (.v (.str "rest")))) (fC (.v (.int 0)))))
  (fSeq (fSet (f2 pMod (f2 pIx (fVar 0) (fC (.v (.str "rest")))) (fVar 1)) (gNm 3))
  (fSeq (fSet (f2 pFdiv (f2 pIx (fVar 0) (fC (.v (.str "rest")))) (fVar 1)) (gSb (fVar 0) (fC (.v (.str "rest")))))
  (fRet (fVar 3))))
  fNext)
 (fSeq (fSet (f2 pIx (fVar 0) (fC (.v (.str "spot")))) (gNm 4))
 (fSeq (fSet (f2 pAdd (fVar 4) (fC (.v (.int 1)))) (gSb (fVar 0) (fC (.v (.str "spot")))))
 (fSeq (fSet (f2 pIx (fVar 0) (fC (.v (.str "cells")))) (gNm 5))
 (fSeq (fSet (fIte (fTru (f2 pGt (fCb bLen (fCons (fVar 5) fNil)) (fC (.v (.int 0))))) (f2 pIx (fVar 5) (f2 pMod (fVar 4) (fCb bLen (fCons (fVar 5) fNil)))) (fC (.v (.int 11)))) (gNm 6))
 (fSeq (fIf (fAnd (fTru (f2 pLt (fVar 4) (fCb bLen (fCons (fVar 5) fNil)))) (fTru (f2 pGe (fVar 6) (f2 pPow (fC (.v (.int 10))) (fC (.v (.int 18)))))))
  (fSeq (fSet (f2 pFdiv (fVar 6) (fVar 1)) (gSb (fVar 0) (fC (.v (.str "rest")))))
  (fRet (f2 pMod (fVar 6) (fVar 1))))
  fNext)
 (fSeq (fSet (f2 pMod (f2 pPow (f2 pAdd (f2 pAdd (f2 pMod (fVar 6) (fC (.v (.int 2147483629)))) (f2 pMul (fC (.v (.int 6053))) (fVar 2))) (fC (.v (.int 31)))) (fC (.v (.int 5)))) (fC (.v (.int 2147483647)))) (gNm 7))
 (fRet (f2 pMod (f2 pFdiv (f2 pMod (f2 pPow (f2 pAdd (fVar 7) (f2 pMul (f2 pMul (fC (.v (.int 4133))) (fVar 2)) (fVar 2))) (fC (.v (.int 5)))) (fC (.v (.int 2147483587)))) (fC (.v (.int 32)))) (fVar 1))))))))))))
noncomputable def F__law_draw : FF := runF 8 false B__law_draw
noncomputable def B__law_random_abilities : FS :=
 (fSeq (fSet (fLc (iVal (fTup (fCons (fC (.v (.str "again"))) (fCons (fC (.v (.str "ask"))) (fCons (fC (.v (.str "repeat"))) (fCons (fC (.v (.str "undo"))) fNil)))))) (gNm 2) (fTru (f2 pEq (fCall F__law_draw [] (fCons (fVar 0) (fCons (fC (.v (.int 2))) fNil))) (fC (.v (.int 0))))) (fVar 2) [2]) (gNm 1))
 (fRet (fCb bTuple (fCons (fLc (iVal (fVar 1)) (gNm 2) (fOr (fTru (f2 pNe (fVar 2) (fC (.v (.str "repeat"))))) (fTru (f2 pIn (fC (.v (.str "again"))) (fVar 1)))) (fVar 2) [2]) fNil))))
noncomputable def F__law_random_abilities : FF := runF 3 false B__law_random_abilities
noncomputable def B__law_random_some : FS :=
 (fSeq (fSet (f2 pMul (fCall F__law_draw [] (fCons (fVar 0) (fCons (f2 pAdd (fVar 2) (fC (.v (.int 1)))) fNil))) (fCb bInt (fCons (f2 pNe (fVar 1) (fLst fNil)) fNil))) (gNm 3))
 (fRet (fCb bTuple (fCons (fCb bSortSet (fCons (fLc (iR1 (fCons (fVar 3) fNil)) (gNm 4) fYes (f2 pIx (fVar 1) (fCall F__law_draw [] (fCons (fVar 0) (fCons (fCb bLen (fCons (fVar 1) fNil)) fNil)))) [4]) fNil)) fNil))))
noncomputable def F__law_random_some : FF := runF 5 false B__law_random_some
noncomputable def L__law_random_work_0 : FS :=
 (fDrop (fMt mAppend (fVar 3) (fCons (fMt mPopAt (fVar 2) (fCons (fCall F__law_draw [] (fCons (fVar 0) (fCons (fCb bLen (fCons (fVar 2) fNil)) fNil))) fNil)) fNil)))
noncomputable def L__law_random_work_1 : FS :=
 (fSeq (fSet (f2 pAdd (fSl (fVar 3) oNo (oAt (fVar 5))) (fSl (fVar 3) (oAt (f2 pAdd (fVar 5) (fC (.v (.int 1))))) oNo)) (gNm 6))
  (fSeq (fPar 7 8 (fCons (fCall F__law_random_some [] (fCons (fVar 0) (fCons (fSl (fVar 3) oNo (oAt (fVar 5))) (fCons (fC (.v (.int 2))) fNil)))) (fCons (fCall F__law_random_some [] (fCons (fVar 0) (fCons (fVar 6) (fCons (fC (.v (.int 2))) fNil)))) fNil)))
  (fDrop (fMt mAppend (fVar 4) (fCons (fTup (fCons (f2 pIx (fVar 3) (fVar 5)) (fCons (fVar 7) (fCons (fVar 8) (fCons (fCall F__law_random_abilities [] (fCons (fVar 0) fNil)) fNil))))) fNil)))))
noncomputable def B__law_random_work : FS :=
 (fSeq (fPar3 2 3 4 (fCons (fLstB (fCons (fC (.v (.str "a"))) (fCons (fC (.v (.str "ab"))) (fCons (fC (.v (.str "b"))) (fCons (fC (.v (.str "book"))) (fCons (fC (.v (.str "call"))) (fCons (fC (.v (.str "pay"))) (fCons (fC (.v (.str "ship"))) (fCons (fC (.v (.str "zzzzzzzz"))) fNil))))))))) (fCons (fLstB fNil) (fCons (fLstB fNil) fNil))))
 (fSeq (fFor (iR1 (fCons (f2 pAdd (fC (.v (.int 1))) (fCall F__law_draw [] (fCons (fVar 0) (fCons (fVar 1) fNil)))) fNil)) (gNm 5) L__law_random_work_0)
 (fSeq (fFor (iR1 (fCons (fCb bLen (fCons (fVar 3) fNil)) fNil)) (gNm 5) L__law_random_work_1)
 (fRet (fCb bTuple (fCons (fCb bSorted (fCons (fVar 4) fNil)) fNil))))))
noncomputable def F__law_random_work : FF := runF 9 false B__law_random_work
theorem draw {b n : Int} {o : Ob} {T : Sto} {Q : D → Sto → Prop} (h : SOA b o) (hb : b ≤ 1000000) (h0 : 0 < n) (hn : n < 1000000) (q : ∀ (v : Int) (o' : Ob), 0 ≤ v → v < n → SOA (b + 1) o' → Q (.v (.int v)) (o' :: T)) : (F__law_draw [.r 0, .v (.int n)] (o :: T)).P Q := (drawA_ok h hb h0 hn).mono fun d S ⟨v, o', e1, e2, h1, h2, h3⟩ => by
  subst e1 e2
  exact q v o' h1 h2 h3
theorem reader {ns : List Int} (hn : ns.length ≤ 63) : (F__law_reader [.v (.frz (ns.map P.int))] []).P fun d S => ∃ o, d = .r 0 ∧ S = [o] ∧ SOA 0 o := by
  have e : kvF [((fC (.v (.str "cells"))), (fCb bList (fCons (fSl (fVar 0) oNo (oAt (fC (.v (.int 63))))) fNil))), ((fC (.v (.str "spot"))), (fC (.v (.int 0)))), ((fC (.v (.str "rest"))), (fC (.v (.int 0)))), ((fC (.v (.str "calls"))), (fC (.v (.int 0))))]
      [some (.v (.frz (ns.map P.int)))] [] = .ok [(.inr "cells", .lst (cutL (ns.map P.int) none (some 63))), (.inr "spot", .int 0), (.inr "rest", .int 0), (.inr "calls", .int 0)] [] := rfl
  have em : mergeP [(.inr "cells", P.lst (cutL (ns.map P.int) none (some 63))), (.inr "spot", .int 0), (.inr "rest", .int 0), (.inr "calls", .int 0)] = (kA, [P.lst (cutL (ns.map P.int) none (some 63)), .int 0, .int 0, .int 0]) := by
    unfold mergeP
    simp only [List.foldl_cons, List.foldl_nil]
    have k1 : (Sum.inr "cells" : Key) ≠ .inr "spot" := by decide +kernel
    have k2 : (Sum.inr "cells" : Key) ≠ .inr "rest" := by decide +kernel
    have k3 : (Sum.inr "cells" : Key) ≠ .inr "calls" := by decide +kernel
    have k4 : (Sum.inr "spot" : Key) ≠ .inr "rest" := by decide +kernel
    have k5 : (Sum.inr "spot" : Key) ≠ .inr "calls" := by decide +kernel
    have k6 : (Sum.inr "rest" : Key) ≠ .inr "calls" := by decide +kernel
    simp only [putP, if_neg k1, if_neg k2, if_neg k3, if_neg k4, if_neg k5, if_neg k6]
    rfl
  refine p_run ?_
  show (B__law_reader [some (.v (.frz (ns.map P.int)))] _).F _
  unfold B__law_reader
  repeat' trivial
  refine P_of (a := .r 0) (S := [.dic kA [.lst (cutL (ns.map P.int) none (some 63)), .int 0, .int 0, .int 0]]) ?_ ?_
  · unfold fDicB
    rw [e]
    simp only [Oc.bind_ok]
    rw [em]
    rfl
  show (closeD true 0 _ _).P _
  refine p_closeK ?_
  refine ⟨_, rfl, rfl, cutL ns none (some 63), 0, 0, 0, ?_, by decide, by decide, Nat.le_trans cut_len hn⟩
  rw [← cut_map]
theorem o_inWL {l : Str} {xs : List Nm} (h : PyData.strOk l = true) : pIn (.str l) (lN xs) = some (.bl (has l xs)) := by
  obtain ⟨b, h1, h2⟩ := in_lst (n := 0) (m := 0) (p := .str l) (ps := xs.map nP) (pl_str h) (fun q hq => by
    obtain ⟨x, _, rfl⟩ := List.mem_map.mp hq
    exact pl_nm x) (by decide)
  rw [h1]
  congr 2
  unfold has
  refine (boolE (h2.trans ?_)).trans rfl
  rw [List.mem_map, List.mem_map]
  exact ⟨fun ⟨x, hx, e⟩ => ⟨x, hx, P.str.inj e⟩, fun ⟨x, hx, e⟩ => ⟨x, hx, congrArg P.str e⟩⟩
def abN : List Nm := [nAgain, nAsk, nRepeat, nUndo]
theorem abilities {b : Int} {o : Ob} {T : Sto} {Q : D → Sto → Prop} (h : SOA b o) (hb : b ≤ 900000) (q : ∀ (xs : List Nm) (o' : Ob), xs.Sublist abN → (nRepeat ∈ xs → nAgain ∈ xs) → SOA (b + 4) o' → Q (.v (tN xs)) (o' :: T)) : (F__law_random_abilities [.r 0] (o :: T)).P Q := by
  refine p_runC ?_
  show (B__law_random_abilities [some (.r 0), none, none] _).F _
  unfold B__law_random_abilities
  refine s_Seq (s_Set (p_lc ?_))
  refine P_of (a := (abN.map nP, none)) (S := o :: (T ++ [])) (e_iv (d := .v (tN abN)) (e_tup (ds := abN.map fun x => .v (nP x)) (e_cons e_c (e_cons e_c (e_cons e_c (e_cons e_c e_nil)))) rfl (by show (4 : Nat) ≤ 100000; decide)) rfl) ?_
  refine lc_some (f := nP) (hh := nP) (xs := abN) (fun i S => ∃ o, S = o :: (T ++ []) ∧ SOA (b + i) o) ⟨o, rfl, by simpa using h⟩ (fun _ _ _ => own_none) (by decide) ?_ ?_
  · rintro i x S hx ⟨o, rfl, hs⟩
    have : i < 4 := lt_of_at hx
    repeat' trivial
    refine draw hs (by omega) (by decide) (by decide) fun v o' v0 v1 hs' => ?_
    have hs' : SOA (b + ((i + 1 : Nat) : Int)) o' := by
      rw [show b + ((i + 1 : Nat) : Int) = b + i + 1 by omega]
      exact hs'
    refine p_c (P_of (e_l2 rfl rfl o_eqI) ?_)
    repeat' trivial
    · exact ⟨rfl, o', rfl, hs'⟩
    · exact ⟨o', rfl, hs'⟩
  · rintro ys S hsub ⟨o, rfl, hs⟩
    have hs : SOA (b + 4) o := hs
    have hl : ys.length ≤ 4 := hsub.length_le
    refine p_gNm ?_
    refine s_RetE (d := .v (tN (ys.filter fun x => !decide (x.s = "repeat") || has "again" ys))) (S1 := o :: (T ++ [])) ?_ ?_
    · refine e_cb (e_cons (e_lc (xs := ys) (f := nP) (q := fun x => !decide (x.s = "repeat") || has "again" ys) (hh := nP) (own := none) (S1 := o :: (T ++ [])) (e_iv (e_var rfl) rfl) own_none (by omega) fun x hx => ?_) e_nil) (a_cons rfl a_nil) o_tupleN
      apply e_body
      · exact e_gNm
      · exact e_or (e_tru (e_f2 (e_var rfl) e_c (e_l2 rfl rfl (o_neL (by decide +kernel)))) rfl rfl) fun _ => e_tru (e_f2 e_c (e_var rfl) (e_l2 rfl rfl (o_inWL (by decide +kernel)))) rfl rfl
      · exact fun _ => e_var rfl
    · refine c_ret ?_
      refine q _ o (List.filter_sublist.trans hsub) (fun hr => ?_) hs
      obtain ⟨_, h2⟩ := List.mem_filter.mp hr
      have h3 : has nAgain.s ys = true := by
        have e1 : decide (nRepeat.s = ("repeat" : Str)) = true := decide_eq_true rfl
        rw [e1] at h2
        exact h2
      rw [has_iff, decide_eq_true_eq] at h3
      refine List.mem_filter.mpr ⟨h3, ?_⟩
      have h4 : decide (nAgain.s = ("repeat" : Str)) = false := by decide +kernel
      rw [h4]
      rfl
end FA
namespace FA
open PySem PySem.Spec PyProof.Rows L2 DL GA
local macro_rules | `(tactic| trivial) => `(tactic| first
  | with_reducible refine s_Seq ?_
  | with_reducible refine s_Set ?_
  | with_reducible refine s_If ?_
  | with_reducible refine s_Drop ?_
  | with_reducible refine s_Ret ?_
  | with_reducible refine s_Par ?_
  | with_reducible refine s_For ?_
  | with_reducible refine s_Nx ?_
  | with_reducible refine p_f2 ?_
  | ((with_reducible apply p_var); (exact rfl))
  | with_reducible refine p_c ?_
  | with_reducible refine p_gNm ?_
  | with_reducible refine p_gSb ?_
  | with_reducible refine p_tru ?_
  | with_reducible refine p_and ?_
  | with_reducible refine p_or ?_
  | with_reducible refine p_not ?_
  | with_reducible refine p_yes ?_
  | with_reducible refine p_ite ?_
  | with_reducible refine p_cons ?_
  | with_reducible refine p_nil ?_
  | with_reducible refine p_cb ?_
  | with_reducible refine p_cbB ?_
  | with_reducible refine p_tup ?_
  | with_reducible refine p_lst ?_
  | with_reducible refine p_lstB ?_
  | with_reducible refine p_lc ?_
  | with_reducible refine p_dc ?_
  | with_reducible refine p_sl ?_
  | with_reducible refine p_oNo ?_
  | with_reducible refine c_oAt ?_
  | with_reducible refine c_atE ?_
  | ((with_reducible apply p_slE); (first | exact rfl | exact deP_bx rfl); (exact rfl))
  | with_reducible refine p_call ?_
  | with_reducible refine p_callN ?_
  | with_reducible refine s_ParE ?_
  | with_reducible refine c_iv ?_
  | with_reducible refine c_rg ?_
  | ((with_reducible apply c_mt); (exact rfl); (exact rfl))
  | with_reducible refine c_ret ?_
  | with_reducible refine p_closeV ?_
  | with_reducible refine p_closeK ?_
  | with_reducible refine ff ?_
  | with_reducible refine tt ?_
  | with_reducible refine nff ?_
  | with_reducible refine ntt ?_
  | with_reducible refine ndt (fun _ => ?_) (fun _ => ?_)
  | with_reducible refine dt (fun _ => ?_) (fun _ => ?_)
  | ((with_reducible apply p_l2); (first | exact rfl | exact deP_bx rfl); (first | exact rfl | exact deP_bx rfl); (first | assumption | exact rfl | exact mod_ok (by omega) | exact fdiv_ok (by omega) (by omega) | exact mul_ok (by omega) (by omega) | exact pow_ok (by omega) (by omega) (by omega)))
  | ((with_reducible apply p_truE); (first | exact rfl | exact deP_bx rfl); (exact rfl))
  | ((with_reducible apply p_cbE); (repeat (first | exact a_nil | (apply a_cons; first | exact rfl | exact deP_bx rfl))); (first | assumption | exact rfl))
  | ((with_reducible apply c_cbB); (repeat (first | exact a_nil | (apply a_cons; first | exact rfl | exact deP_bx rfl))); (first | assumption | exact rfl))
  | ((with_reducible apply p_lstE); (repeat (first | exact v_nil | apply v_cons)); (focus (show _ ≤ (100000 : Nat); first | decide | (simp; done) | (simp; omega))))
  | ((with_reducible apply p_tupE); (repeat (first | exact v_nil | apply v_cons)); (focus (show _ ≤ (100000 : Nat); first | decide | (simp; done) | (simp; omega))))
  | ((with_reducible apply c_lstB); (repeat (first | exact v_nil | apply v_cons)); (focus (show _ ≤ (100000 : Nat); first | decide | (simp; done) | (simp; omega))))
  | ((with_reducible apply c_ivE); (first | exact rfl | exact seq_bx rfl))
  | ((with_reducible apply p_sbL); (exact rfl); (exact rfl)))
theorem ddS_len : ∀ xs : List Str, (ddS xs).length ≤ xs.length
  | [] => Nat.le_refl _
  | x :: xs => by
    have := ddS_len xs
    unfold ddS
    split
    · show _ ≤ xs.length + 1
      omega
    · show (ddS xs).length + 1 ≤ xs.length + 1
      omega
theorem so_lenL (xs : List Nm) : (so xs).length ≤ xs.length := by
  have h1 := congrArg List.length (so_eq xs)
  rw [(srt_perm _).length_eq, List.length_map, List.length_map] at h1
  have h2 := ddS_len (xs.map (·.s))
  rw [List.length_map] at h2
  omega
theorem some' {b m : Int} {o : Ob} {T : Sto} {Q : D → Sto → Prop} {xs : List Nm} (h : SOA b o) (hb : b ≤ 900000) (hm0 : 0 ≤ m) (hm : m ≤ 20) (hl : xs.length ≤ 100) (q : ∀ (ys : List Nm) (o' : Ob), Asc ys → (∀ y ∈ ys, y ∈ xs) → ys.length ≤ m → SOA (b + 30) o' → Q (.v (tN ys)) (o' :: T)) :
    (F__law_random_some [.r 0, .v (lN xs), .v (.int m)] (o :: T)).P Q := by
  refine p_runC ?_
  show (B__law_random_some [some (.r 0), some (.v (lN xs)), some (.v (.int m)), none, none] _).F _
  unfold B__law_random_some
  repeat' trivial
  refine draw h (by omega) (by omega) (by omega) fun v o v0 v1 hs => ?_
  have e1 : pNe (lN xs) (.lst []) = some (.bl (!decide (xs = []))) := o_neLs0
  have e2 : bInt [.bl (!decide (xs = []))] = some (.int (if (!decide (xs = [])) = true then 1 else 0)) := rfl
  have e3 : bLen [lN xs] = some (.int xs.length) := by
    show some (P.int (xs.map nP).length) = _
    rw [List.length_map]
  repeat' trivial
  have hc0 : 0 ≤ v * (if (!decide (xs = [])) = true then 1 else 0) := by
    split
    · omega
    · omega
  have hc1 : v * (if (!decide (xs = [])) = true then 1 else 0) ≤ v := by
    split
    · omega
    · omega
  have hc2 : xs = [] → v * (if (!decide (xs = [])) = true then 1 else 0) = 0 := fun e => by
    subst e
    simp
  generalize v * (if (!decide (xs = [])) = true then 1 else 0) = c at hc0 hc1 hc2
  have e4 : c ≤ 20 := by omega
  refine c_rgE (by omega) (by omega) ?_
  refine p_Lc (fun i S acc => ∃ (o : Ob) (zs : List Nm), S = o :: (T ++ []) ∧ acc = zs.map nP ∧ zs.length = i ∧ (∀ z ∈ zs, z ∈ xs) ∧ SOA (b + 1 + i) o) ⟨o, [], rfl, rfl, rfl, (fun _ h => nomatch h), by simpa using hs⟩ (fun _ _ _ _ => own_none) ?_ ?_
  · rintro i p S acc hi ⟨o, zs, rfl, rfl, hzl, hzs, hs⟩
    obtain ⟨hi1, rfl⟩ := rgP_at hi
    have hi2 : i < c.toNat := hi1
    have hne : xs ≠ [] := fun e => by
      have := hc2 e
      omega
    have hpos := List.length_pos_iff.mpr hne
    refine ⟨by rw [List.length_map]; omega, ?_⟩
    repeat' trivial
    refine draw hs (by omega) (by omega) (by omega) fun w o w0 w1 hs => ?_
    have hw : w.toNat < xs.length := by omega
    have ex : pIx (lN xs) (.int w) = some (nP xs[w.toNat]) := at_nn (j := w.toNat) (by omega) (by rw [List.getElem?_map, List.getElem?_eq_getElem hw]; rfl)
    refine p_l2 rfl rfl ex ?_
    refine ⟨_, rfl, o, zs ++ [xs[w.toNat]], rfl, by simp, by simp [hzl], fun z hz => ?_, hs.mono (by omega)⟩
    rcases List.mem_append.mp hz with hz | hz
    · exact hzs z hz
    · rw [List.mem_singleton.mp hz]
      exact List.getElem_mem hw
  · rintro S acc ⟨o, zs, rfl, rfl, hzl, hzs, hs⟩
    have hzl : zs.length = (rgP c.toNat).length := hzl
    have hrl : (rgP c.toNat).length = c.toNat := by
      unfold rgP
      simp
    rw [hrl] at hzl
    have hs : SOA (b + 1 + ((rgP c.toNat).length : Nat)) o := hs
    rw [hrl] at hs
    have hsl := so_lenL zs
    have es : bSortSet [lN zs] = some (lN (so zs)) := o_soL (by omega)
    have et : bTuple [lN (so zs)] = some (tN (so zs)) := o_tupleN
    repeat' trivial
    exact q (so zs) o (so_asc zs) (fun y hy => hzs y (so_mem.mp hy)) (by omega) (hs.mono (by omega))
end FA
namespace FA
open PySem PySem.Spec PyProof.Rows L2 DL GA
local macro_rules | `(tactic| trivial) => `(tactic| first
  | with_reducible refine s_Seq ?_
  | with_reducible refine s_Set ?_
  | with_reducible refine s_If ?_
  | with_reducible refine s_Drop ?_
  | with_reducible refine s_Ret ?_
  | with_reducible refine s_Par ?_
  | with_reducible refine s_For ?_
  | with_reducible refine s_Nx ?_
  | with_reducible refine p_f2 ?_
  | ((with_reducible apply p_var); (exact rfl))
  | with_reducible refine p_c ?_
  | with_reducible refine p_gNm ?_
  | with_reducible refine p_gSb ?_
  | with_reducible refine p_tru ?_
  | with_reducible refine p_and ?_
  | with_reducible refine p_or ?_
  | with_reducible refine p_not ?_
  | with_reducible refine p_yes ?_
  | with_reducible refine p_ite ?_
  | with_reducible refine p_cons ?_
  | with_reducible refine p_nil ?_
  | with_reducible refine p_cb ?_
  | with_reducible refine p_cbB ?_
  | with_reducible refine p_tup ?_
  | with_reducible refine p_lst ?_
  | with_reducible refine p_lstB ?_
  | with_reducible refine p_lc ?_
  | with_reducible refine p_dc ?_
  | with_reducible refine p_sl ?_
  | with_reducible refine p_oNo ?_
  | with_reducible refine c_oAt ?_
  | with_reducible refine c_atE ?_
  | ((with_reducible apply p_slE); (first | exact rfl | exact deP_bx rfl); (exact rfl))
  | with_reducible refine p_call ?_
  | with_reducible refine p_callN ?_
  | with_reducible refine s_ParE ?_
  | with_reducible refine c_iv ?_
  | with_reducible refine c_rg ?_
  | ((with_reducible apply c_mt); (exact rfl); (exact rfl))
  | with_reducible refine c_ret ?_
  | with_reducible refine p_closeV ?_
  | with_reducible refine p_closeK ?_
  | with_reducible refine ff ?_
  | with_reducible refine tt ?_
  | with_reducible refine nff ?_
  | with_reducible refine ntt ?_
  | with_reducible refine ndt (fun _ => ?_) (fun _ => ?_)
  | with_reducible refine dt (fun _ => ?_) (fun _ => ?_)
  | ((with_reducible apply p_l2); (first | exact rfl | exact deP_bx rfl); (first | exact rfl | exact deP_bx rfl); (first | assumption | exact rfl | exact mod_ok (by omega) | exact fdiv_ok (by omega) (by omega) | exact mul_ok (by omega) (by omega) | exact pow_ok (by omega) (by omega) (by omega)))
  | ((with_reducible apply p_truE); (first | exact rfl | exact deP_bx rfl); (exact rfl))
  | ((with_reducible apply p_cbE); (repeat (first | exact a_nil | (apply a_cons; first | exact rfl | exact deP_bx rfl))); (first | assumption | exact rfl))
  | ((with_reducible apply c_cbB); (repeat (first | exact a_nil | (apply a_cons; first | exact rfl | exact deP_bx rfl))); (first | assumption | exact rfl))
  | ((with_reducible apply p_lstE); (repeat (first | exact v_nil | apply v_cons)); (focus (show _ ≤ (100000 : Nat); first | decide | (simp; done) | (simp; omega))))
  | ((with_reducible apply p_tupE); (repeat (first | exact v_nil | apply v_cons)); (focus (show _ ≤ (100000 : Nat); first | decide | (simp; done) | (simp; omega))))
  | ((with_reducible apply c_lstB); (repeat (first | exact v_nil | apply v_cons)); (focus (show _ ≤ (100000 : Nat); first | decide | (simp; done) | (simp; omega))))
  | ((with_reducible apply c_ivE); (first | exact rfl | exact seq_bx rfl))
  | ((with_reducible apply p_sbL); (exact rfl); (exact rfl)))
def poolA : List Nm := [lit "a", lit "ab", lit "b", lit "book", lit "call", lit "pay", lit "ship", lit "zzzzzzzz"]
theorem poolA_nd : poolA.Nodup := by
  have h : ∀ i j : Fin 8, i < j → (poolA[i]).s ≠ (poolA[j]).s := by decide +kernel
  refine List.pairwise_iff_getElem.mpr fun i j hi hj hij e => ?_
  exact h ⟨i, hi⟩ ⟨j, hj⟩ hij (congrArg Nm.s e)
def poolF : List Nm := poolA ++ [lit "flight", lit "hotel", lit "mail"]
structure AOk (rs : List Rw) : Prop where
  len : rs.length ≤ 8
  pos : 1 ≤ rs.length
  asc : Asc (nm rs)
  ne : ∀ r ∈ rs, Asc r.ne ∧ ∀ y ∈ r.ne, y ∈ nm rs
  se : ∀ r ∈ rs, Asc r.se ∧ (∀ y ∈ r.se, y ∈ nm rs) ∧ r.x ∉ r.se
  rank : ∃ rk : Nm → Int, ∀ r ∈ rs, ∀ y ∈ r.ne, rk y < rk r.x
  ab : ∀ r ∈ rs, r.ab.Sublist abN ∧ (nRepeat ∈ r.ab → nAgain ∈ r.ab)
structure AOp (rs : List Rw) : Prop where
  a : AOk rs
  pool : ∀ x ∈ nm rs, x ∈ poolF
theorem nm_len {rs : List Rw} : (nm rs).length = rs.length := List.length_map ..
theorem AOk.nesub {rs : List Rw} (h : AOk rs) {r : Rw} (hr : r ∈ rs) : r.ne.Sublist (nm rs) := asc_sub (h.ne r hr).1 h.asc (h.ne r hr).2
theorem AOk.sesub {rs : List Rw} (h : AOk rs) {r : Rw} (hr : r ∈ rs) : r.se.Sublist (nm rs) := asc_sub (h.se r hr).1 h.asc (h.se r hr).2.1
theorem AOk.ne8 {rs : List Rw} (h : AOk rs) {r : Rw} (hr : r ∈ rs) : r.ne.length ≤ 8 := by
  have := (h.nesub hr).length_le
  rw [nm_len] at this
  exact Nat.le_trans this h.len
theorem AOk.se8 {rs : List Rw} (h : AOk rs) {r : Rw} (hr : r ∈ rs) : r.se.length ≤ 8 := by
  have := (h.sesub hr).length_le
  rw [nm_len] at this
  exact Nat.le_trans this h.len
theorem AOk.ab4 {rs : List Rw} (h : AOk rs) {r : Rw} (hr : r ∈ rs) : r.ab.length ≤ 4 := (h.ab r hr).1.length_le
theorem AOk.nd {rs : List Rw} (h : AOk rs) : (nm rs).Nodup := h.asc.nd
theorem AOk.wok {rs : List Rw} (h : AOk rs) : WOk rs where
  len := Nat.le_trans h.len (by decide)
  ne := fun r hr => Nat.le_trans (h.ne8 hr) (by decide)
  se := fun r hr => Nat.le_trans (h.se8 hr) (by decide)
  ab := fun r hr => Nat.le_trans (h.ab4 hr) (by decide)
  nd := h.nd
def ixd : List Nm → Nm → Nat
  | [], _ => 0
  | x :: xs, y => if x = y then 0 else ixd xs y + 1
theorem ixd_at : ∀ {xs : List Nm} {i : Nat} {x : Nm}, xs.Nodup → xs[i]? = some x → ixd xs x = i
  | [], i, x, _, h => by simp at h
  | y :: xs, 0, x, _, h => by
    have : y = x := by simpa using h
    unfold ixd
    rw [if_pos this]
  | y :: xs, i + 1, x, hn, h => by
    have h1 : xs[i]? = some x := by simpa using h
    have h2 : y ≠ x := fun e => (List.nodup_cons.mp hn).1 (e ▸ List.mem_of_getElem? h1)
    unfold ixd
    rw [if_neg h2, ixd_at (List.nodup_cons.mp hn).2 h1]
theorem ixd_take {xs : List Nm} {i : Nat} {y : Nm} (hn : xs.Nodup) (h : y ∈ xs.take i) : ixd xs y < i := by
  obtain ⟨j, hj, e⟩ := List.getElem_of_mem h
  rw [List.length_take] at hj
  rw [List.getElem_take] at e
  rw [ixd_at (i := j) hn (by rw [List.getElem?_eq_getElem (by omega), e])]
  omega
theorem cut_to {α : Type} {xs : List α} {i : Nat} (h : i ≤ xs.length) : cutL xs none (some (i : Int)) = xs.take i := by
  unfold cutL
  rw [HT.sIx_none, HT.sIx_nat, List.drop_zero, Nat.sub_zero, Nat.min_eq_left h]
theorem cut_from {α : Type} {xs : List α} {i : Nat} (h : i ≤ xs.length) : cutL xs (some (i : Int)) none = xs.drop i := by
  unfold cutL
  rw [HT.sIx_none, HT.sIx_nat, Nat.min_eq_left h, List.take_of_length_le (by rw [List.length_drop]; exact Nat.le_refl _)]
theorem o_slTo {α : Type} {f : α → P} {xs : List α} {i : Nat} (h : i ≤ xs.length) : pSl (.lst (xs.map f)) none (some (i : Int)) = some (.lst ((xs.take i).map f)) := by
  show some (P.lst (cutL (xs.map f) none (some (i : Int)))) = _
  rw [cut_map, cut_to h]
theorem o_slFrom {α : Type} {f : α → P} {xs : List α} {i : Nat} (h : i ≤ xs.length) : pSl (.lst (xs.map f)) (some (i : Int)) none = some (.lst ((xs.drop i).map f)) := by
  show some (P.lst (cutL (xs.map f) (some (i : Int)) none)) = _
  rw [cut_map, cut_from h]
structure RwOk (ord : List Nm) (r : Rw) : Prop where
  x : r.x ∈ ord
  ne : Asc r.ne ∧ ∀ y ∈ r.ne, y ∈ ord ∧ ixd ord y < ixd ord r.x
  se : Asc r.se ∧ (∀ y ∈ r.se, y ∈ ord) ∧ r.x ∉ r.se
  ab : r.ab.Sublist abN ∧ (nRepeat ∈ r.ab → nAgain ∈ r.ab)
theorem others_mem {ord : List Nm} {i : Nat} {x y : Nm} (hn : ord.Nodup) (hx : ord[i]? = some x) (h : y ∈ ord.take i ++ ord.drop (i + 1)) : y ∈ ord ∧ y ≠ x := by
  refine ⟨?_, fun e => ?_⟩
  · rcases List.mem_append.mp h with h | h
    · exact List.mem_of_mem_take h
    · exact List.mem_of_mem_drop h
  · subst e
    have hi := lt_of_at hx
    rcases List.mem_append.mp h with h | h
    · have := ixd_take hn h
      rw [ixd_at hn hx] at this
      omega
    · obtain ⟨j, hj, e⟩ := List.getElem_of_mem h
      rw [List.length_drop] at hj
      rw [List.getElem_drop] at e
      have := ixd_at (i := i + 1 + j) hn (by rw [List.getElem?_eq_getElem (by omega), e])
      rw [ixd_at hn hx] at this
      omega
theorem o_popNP {xs : List Nm} {S : Sto} {v : Int} (h0 : 0 ≤ v) (h1 : v < xs.length) (hl : xs.length ≤ 100000) : ∃ x, mPopAt (xs.map nP) [.v (.int v)] S = some (nP x, (xs.eraseIdx v.toNat).map nP) ∧ (x :: xs.eraseIdx v.toNat).Perm xs := by
  have hj : v.toNat < xs.length := by omega
  refine ⟨xs[v.toNat], ?_, erase_perm hj⟩
  have e1 : ixN (xs.map nP).length v = some v.toNat := by
    unfold ixN
    rw [if_pos h0, List.length_map, if_pos h1]
  have e2 : (xs.map nP)[v.toNat]? = some (nP xs[v.toNat]) := by
    rw [List.getElem?_map, List.getElem?_eq_getElem hj]
    rfl
  unfold mPopAt
  simp only []
  rw [if_pos (by omega), e1]
  simp only []
  rw [e2]
  simp only []
  rw [map_erase]
theorem workP {b m : Int} {o : Ob} {T : Sto} {Q : D → Sto → Prop} (h : SOA b o) (hb : b ≤ 800000) (hm0 : 1 ≤ m) (hm : m ≤ 8) (q : ∀ (rs : List Rw) (o' : Ob), AOp rs → (rs.length : Int) ≤ m → SOA (b + 1000) o' → Q (.v (wkP rs)) (o' :: T)) : (F__law_random_work [.r 0, .v (.int m)] (o :: T)).P Q := by
  refine p_runC ?_
  show (B__law_random_work [some (.r 0), some (.v (.int m)), none, none, none, none, none, none, none] _).F _
  unfold B__law_random_work
  refine s_Seq (s_Par3 (d := .r (bx T 0)) (e := .r (bx T 1)) (f := .r (bx T 2)) (S1 := o :: (T ++ [.lst (poolA.map nP), .lst (([] : List Nm).map nP), .lst (([] : List Rw).map rwP)])) ?_ ?_)
  · refine e_cons (S1 := o :: (T ++ ([] ++ [.lst (poolA.map nP)]))) (e_lstB (T := T) (B := []) (ps := poolA.map nP) (ds := poolA.map fun x => .v (nP x)) rfl rfl (by decide)) ?_
    refine e_cons (S1 := o :: (T ++ (([] ++ [.lst (poolA.map nP)]) ++ [.lst []]))) (e_lstB e_nil v_nil (by decide)) ?_
    exact e_cons (e_lstB e_nil v_nil (by decide)) e_nil
  repeat' trivial
  refine draw h (by omega) (by omega) (by omega) fun v o v0 v1 hs => ?_
  repeat' trivial
  refine c_rgE (by omega) (by omega) ?_
  refine s_Loop (fun i env S => ∃ (o : Ob) (pool ord : List Nm) (e5 : Option D), env = [some (.r 0), some (.v (.int m)), some (.r (bx T 0)), some (.r (bx T 1)), some (.r (bx T 2)), e5, none, none, none] ∧
      S = o :: (T ++ [.lst (pool.map nP), .lst (ord.map nP), .lst (([] : List Rw).map rwP)]) ∧ (ord ++ pool).Perm poolA ∧ ord.length = i ∧ SOA (b + 1 + i) o)
    ⟨o, poolA, [], _, rfl, rfl, List.Perm.refl _, rfl, by simpa using hs⟩ (fun _ _ _ _ => own_none) ?_ ?_
  · rintro i p env S hi ⟨o, pool, ord, e5, rfl, rfl, hpm, hol, hs⟩
    obtain ⟨hi1, rfl⟩ := rgP_at hi
    have hi2 : i < (1 + v).toNat := hi1
    have hlen : ord.length + pool.length = 8 := by
      have := hpm.length_eq
      rw [List.length_append] at this
      exact this
    have hml : (List.map nP pool).length = pool.length := List.length_map ..
    have e1 : bLen [.lst (pool.map nP)] = some (.int pool.length) := by
      show some (P.int (pool.map nP).length) = _
      rw [List.length_map]
    unfold L__law_random_work_0
    repeat' trivial
    refine draw hs (by omega) (by omega) (by omega) fun w o w0 w1 hs => ?_
    obtain ⟨x, ex, px⟩ := o_popNP (xs := pool) (S := o :: (T ++ [.lst (pool.map nP), .lst (ord.map nP), .lst (([] : List Rw).map rwP)])) w0 w1 (by omega)
    repeat' trivial
    refine c_mtE rfl ex ?_
    repeat' trivial
    refine c_mtE rfl (o_app (by rw [List.length_map]; omega)) ?_
    refine ⟨o, pool.eraseIdx w.toNat, ord ++ [x], _, rfl, by simp, ?_, by simp [hol], hs.mono (by omega)⟩
    rw [List.append_assoc]
    exact (List.Perm.append_left ord px).trans hpm
  · rintro env S ⟨o, pool, ord, e5, rfl, rfl, hpm, hol, hs⟩
    have hol : ord.length = (1 + v).toNat := by rw [hol]; unfold rgP; rw [List.length_map, List.length_range]
    have hlen : ord.length + pool.length = 8 := by
      have := hpm.length_eq
      rw [List.length_append] at this
      exact this
    have hon : ord.Nodup := (List.nodup_append.mp (hpm.nodup_iff.mpr poolA_nd)).1
    have hs : SOA (b + 20) o := hs.mono (by rw [show (rgP (1 + v).toNat).length = (1 + v).toNat by unfold rgP; rw [List.length_map, List.length_range]]; omega)
    have e1 : bLen [.lst (ord.map nP)] = some (.int ord.length) := by
      show some (P.int (ord.map nP).length) = _
      rw [List.length_map]
    repeat' trivial
    refine c_rgE (by omega) (by omega) ?_
    refine s_Loop (fun i env S => ∃ (o : Ob) (rows : List Rw) (e5 e6 e7 e8 : Option D), env = [some (.r 0), some (.v (.int m)), some (.r (bx T 0)), some (.r (bx T 1)), some (.r (bx T 2)), e5, e6, e7, e8] ∧
        S = o :: (T ++ [.lst (pool.map nP), .lst (ord.map nP), .lst (rows.map rwP)]) ∧ nm rows = ord.take i ∧ (∀ r ∈ rows, RwOk ord r) ∧ SOA (b + 20 + 100 * i) o)
      ⟨o, [], _, _, _, _, rfl, rfl, rfl, (fun _ h => nomatch h), by simpa using hs⟩ (fun _ _ _ _ => own_none) ?_ ?_
    · rintro i p env S hi ⟨o, rows, e5, e6, e7, e8, rfl, rfl, hnr, hrows, hs⟩
      obtain ⟨hi1, rfl⟩ := rgP_at hi
      have hi2 : i < ord.length := by
        have : i < ((ord.length : Nat) : Int).toNat := hi1
        omega
      obtain ⟨x, hx⟩ : ∃ x, ord[i]? = some x := ⟨ord[i], List.getElem?_eq_getElem hi2⟩
      have hxm := List.mem_of_getElem? hx
      have hix : pIx (.lst (ord.map nP)) (.int i) = some (nP x) := (o_ix hx).1
      have hrl : rows.length = i := by
        rw [← nm_len, hnr, List.length_take]
        omega
      unfold L__law_random_work_1
      refine s_Seq (s_SetE (d := .v (lN (ord.take i ++ ord.drop (i + 1)))) (S1 := o :: (T ++ [.lst (pool.map nP), .lst (ord.map nP), .lst (rows.map rwP)])) ?_ e_gNm ?_)
      · refine (e_f2 (e_sl (e_var rfl) e_oNo (e_oAt (e_var rfl)) (deP_bx rfl) (o_slTo (by omega))) (e_sl (e_var rfl) (e_oAt (i := ((i + 1 : Nat) : Int)) (e_f2 (e_var rfl) e_c (e_l2 rfl rfl rfl))) e_oNo (deP_bx rfl) (o_slFrom (by omega))) (e_l2 rfl rfl (o_addLs (by rw [List.length_map, List.length_map, List.length_take, List.length_drop]; omega)))).trans ?_
        rw [← List.map_append]
      have hol1 : (ord.take i).length ≤ 8 := by rw [List.length_take]; omega
      have hol2 : (ord.take i ++ ord.drop (i + 1)).length ≤ 8 := by rw [List.length_append, List.length_take, List.length_drop]; omega
      refine s_Seq (s_Par (p_cons (p_call (P_of (a := [.r 0, .v (lN (ord.take i)), .v (.int 2)]) (S := o :: (T ++ [.lst (pool.map nP), .lst (ord.map nP), .lst (rows.map rwP)])) (e_cons (e_var rfl) (e_cons (e_sl (e_var rfl) e_oNo (e_oAt (e_var rfl)) (deP_bx rfl) (o_slTo (by omega))) (e_cons e_c e_nil))) ?_))))
      refine some' hs (by omega) (by decide) (by decide) (by omega) fun ns o hn1 hn2 hn3 hs => ?_
      refine p_cons (p_call (P_of (a := [.r 0, .v (lN (ord.take i ++ ord.drop (i + 1))), .v (.int 2)]) (S := o :: (T ++ [.lst (pool.map nP), .lst (ord.map nP), .lst (rows.map rwP)])) (e_cons (e_var rfl) (e_cons (e_var rfl) (e_cons e_c e_nil))) ?_))
      refine some' hs (by omega) (by decide) (by decide) (by omega) fun ss o hs1 hs2 hs3 hs => ?_
      refine p_nil (s_ParE ?_)
      repeat' trivial
      refine abilities hs (by omega) fun ab o ha1 ha2 hs => ?_
      repeat' trivial
      refine c_mtE rfl (o_app (by rw [List.length_map]; omega)) ?_
      refine ⟨o, rows ++ [⟨x, ns, ss, ab⟩], _, _, _, _, rfl, by simp, ?_, fun r hr => ?_, hs.mono (by omega)⟩
      · have : nm (rows ++ [(⟨x, ns, ss, ab⟩ : Rw)]) = nm rows ++ [x] := by unfold nm; simp
        rw [this, hnr, List.take_add_one, hx]
        rfl
      · rcases List.mem_append.mp hr with hr | hr
        · exact hrows r hr
        · rw [List.mem_singleton.mp hr]
          exact ⟨hxm, ⟨hn1, fun y hy => ⟨List.mem_of_mem_take (hn2 y hy), by
            show ixd ord y < ixd ord x
            rw [ixd_at hon hx]
            exact ixd_take hon (hn2 y hy)⟩⟩, ⟨hs1, fun y hy => (others_mem hon hx (hs2 y hy)).1, fun hxs => (others_mem hon hx (hs2 x hxs)).2 rfl⟩, ha1, ha2⟩
    · rintro env S ⟨o, rows, e5, e6, e7, e8, rfl, rfl, hnr, hrows, hs⟩
      have hrr : (rgP ((ord.length : Nat) : Int).toNat).length = ord.length := by unfold rgP; rw [List.length_map, List.length_range]; omega
      have hnr : nm rows = ord := by
        have h1 : nm rows = ord.take (rgP ((ord.length : Nat) : Int).toNat).length := hnr
        rw [hrr, List.take_length] at h1
        exact h1
      have hs : SOA (b + 1000) o := hs.mono (by
        show b + 20 + 100 * ((rgP ((ord.length : Nat) : Int).toNat).length : Int) ≤ _
        rw [hrr]
        omega)
      have hrl : rows.length = ord.length := by rw [← nm_len, hnr]
      obtain ⟨rs, e2, hp, hasc⟩ := srt_rows (rows := rows) (by omega) (by rw [hnr]; exact hon)
      have hlr : rs.length = ord.length := hp.length_eq.trans hrl
      have hmem : ∀ y, y ∈ nm rs ↔ y ∈ ord := fun y => by
        rw [← hnr]
        unfold nm
        exact (hp.map (·.x)).mem_iff
      refine s_RetE (e_cb (S1 := o :: (T ++ [.lst (pool.map nP), .lst (ord.map nP), .lst (rows.map rwP)])) (e_cons (e_cb (e_cons (e_var rfl) e_nil) (a_cons (deP_bx rfl) a_nil) e2) e_nil) (a_cons rfl a_nil) o_tuple) (c_ret (q rs o ⟨⟨by omega, by omega, hasc, fun r hr => ?_, fun r hr => ?_, ⟨fun y => (ixd ord y : Int), fun r hr y hy => ?_⟩, fun r hr => (hrows r (hp.mem_iff.mp hr)).ab⟩, fun x hx => List.mem_append_left _ (hpm.mem_iff.mp (List.mem_append_left _ ((hmem x).mp hx)))⟩ (by omega) hs))
      · have := (hrows r (hp.mem_iff.mp hr)).ne
        exact ⟨this.1, fun y hy => (hmem y).mpr (this.2 y hy).1⟩
      · have := (hrows r (hp.mem_iff.mp hr)).se
        exact ⟨this.1, fun y hy => (hmem y).mpr (this.2.1 y hy), this.2.2⟩
      · have := ((hrows r (hp.mem_iff.mp hr)).ne.2 y hy).2
        show (ixd ord y : Int) < (ixd ord r.x : Int)
        omega
end FA
namespace FN
open PySem PySem.Spec PyProof.Rows L2 DL GA
theorem first_row {rs : List Rw} (hn : (nm rs).Nodup) {x : Nm} (hx : x ∈ nm rs) : rs.filter (fun r => decide (r.x = x)) = [rowOf rs x] := by
  obtain ⟨h1, h2⟩ := rowOf_mem hx
  have h3 : ∀ r ∈ rs, decide (r.x = x) = decide (r = rowOf rs x) := fun r hr => by
    refine boolE ?_
    rw [decide_eq_true_eq]
    exact ⟨fun e => row_uniq hn hr h1 (e.trans h2.symm), fun e => e ▸ h2⟩
  have hnd : rs.Nodup := List.Pairwise.of_map (fun r : Rw => r.x) (fun _ _ hne e => hne (congrArg _ e)) hn
  rw [List.filter_congr h3]
  clear h3
  generalize rowOf rs x = q at h1 h2
  clear hx hn h2
  induction rs with
  | nil => cases h1
  | cons a rs ih =>
    obtain ⟨n1, n2⟩ := List.nodup_cons.mp hnd
    rcases List.mem_cons.mp h1 with e | h
    · subst e
      have : rs.filter (fun r => decide (r = q)) = [] := List.filter_eq_nil_iff.mpr fun r hr => by
        rw [decide_eq_true_eq]
        exact fun e => n1 (e ▸ hr)
      rw [List.filter_cons, if_pos (by simp), this]
    · rw [List.filter_cons, if_neg (by
        rw [decide_eq_true_eq]
        exact fun e => n1 (e ▸ h))]
      exact ih n2 h
end FN
namespace FN
open PySem PySem.Spec PyProof.Rows L2 DL GA
def nOpen : Nm := lit "open"
def nDone : Nm := lit "done"
def nMaybe : Nm := lit "maybe"
def nDead : Nm := lit "dead"
def St4 (x : Nm) : Prop := x = nOpen ∨ x = nDone ∨ x = nMaybe ∨ x = nDead
def StOk (ab needs : List Nm) (x : Nm) : Prop := St4 x ∧ (x = nDone ∨ x = nMaybe → ∀ y ∈ needs, y = nDone) ∧ (x = nDead → has "again" ab = false)
theorem o_ltI {i j : Int} : pLt (.int i) (.int j) = some (.bl (decide (i < j))) := rfl
abbrev kvK (kv : List (Nm × Nm)) : List Key := kv.map fun z => .inr z.1.s
abbrev kvV (kv : List (Nm × Nm)) : List P := kv.map fun z => nP z.2
abbrev kvO (kv : List (Nm × Nm)) : Ob := .dic (kvK kv) (kvV kv)
abbrev kvP (kv : List (Nm × Nm)) : P := .dic (kvK kv) (kvV kv)
def keys (kv : List (Nm × Nm)) : List Nm := kv.map (·.1)
def val (kv : List (Nm × Nm)) (x : Nm) : Nm := ((kv.find? fun z => decide (z.1 = x)).map (·.2)).getD default
theorem look_kv {kv : List (Nm × Nm)} {x : Nm} : look (kvK kv) (kvV kv) (.inr x.s) = (kv.find? fun z => decide (z.1 = x)).map fun z => nP z.2 := by
  unfold look
  induction kv with
  | nil => rfl
  | cons r kv ih =>
    simp only [List.map_cons, List.zip_cons_cons, List.find?_cons]
    have e : decide ((Sum.inr r.1.s : Key) = .inr x.s) = decide (r.1 = x) := by simp only [Sum.inr.injEq, Nm.eq_iff]
    rw [e]
    cases hq : decide (r.1 = x) with
    | true => simp
    | false => exact ih
theorem find_kv {kv : List (Nm × Nm)} {x : Nm} (h : x ∈ keys kv) : ∃ z ∈ kv, z.1 = x ∧ (kv.find? fun z => decide (z.1 = x)) = some z := by
  obtain ⟨y, hy, e⟩ := List.mem_map.mp h
  cases hf : kv.find? fun z => decide (z.1 = x) with
  | none => exact absurd (List.find?_eq_none.mp hf y hy) (by simp [e])
  | some z => exact ⟨z, List.mem_of_find?_eq_some hf, by simpa using List.find?_some hf, rfl⟩
theorem o_kv {kv : List (Nm × Nm)} {x : Nm} (h : x ∈ keys kv) : pIx (kvP kv) (nP x) = some (nP (val kv x)) := by
  obtain ⟨z, hz, e, hf⟩ := find_kv h
  show look (kvK kv) (kvV kv) (.inr x.s) = _
  rw [look_kv, hf]
  unfold val
  rw [hf]
  rfl
theorem val_mem {kv : List (Nm × Nm)} {x : Nm} (h : x ∈ keys kv) : (x, val kv x) ∈ kv := by
  obtain ⟨z, hz, e, hf⟩ := find_kv h
  unfold val
  rw [hf]
  subst e
  exact hz
structure KvOk (rs : List Rw) (kv : List (Nm × Nm)) : Prop where
  nd : (keys kv).Nodup
  sub : ∀ x ∈ keys kv, x ∈ nm rs
  cl : ∀ z ∈ kv, ∀ y ∈ (rowOf rs z.1).ne, y ∈ keys kv
  ok : ∀ z ∈ kv, StOk (rowOf rs z.1).ab ((rowOf rs z.1).ne.map (val kv)) z.2
structure PosOk (rs : List Rw) (ps : List Nm) : Prop where
  len : rs.length = ps.length
  ok : ∀ z ∈ rs.zip ps, St4 z.2 ∧ (z.2 = nDead → has "again" z.1.ab = false) ∧ (z.2 = nDone ∨ z.2 = nMaybe → ∀ y ∈ rs.zip ps, y.1.x ∈ z.1.ne → y.2 = nDone)
theorem KvOk.add {rs : List Rw} {kv : List (Nm × Nm)} (h : KvOk rs kv) {x s : Nm} (hx : x ∈ nm rs) (hnew : x ∉ keys kv) (hne : ∀ y ∈ (rowOf rs x).ne, y ∈ keys kv) (hs : StOk (rowOf rs x).ab ((rowOf rs x).ne.map (val kv)) s) : KvOk rs (kv ++ [(x, s)]) := by
  have ek : keys (kv ++ [(x, s)]) = keys kv ++ [x] := by unfold keys; simp
  have ev : ∀ y ∈ keys kv, val (kv ++ [(x, s)]) y = val kv y := fun y hy => by
    obtain ⟨z, hz, e, hf⟩ := find_kv hy
    unfold val
    rw [List.find?_append, hf]
    rfl
  have em : ∀ ns : List Nm, (∀ y ∈ ns, y ∈ keys kv) → ns.map (val (kv ++ [(x, s)])) = ns.map (val kv) := fun ns hns => List.map_congr_left fun y hy => ev y (hns y hy)
  refine ⟨?_, fun y hy => ?_, fun z hz y hy => ?_, fun z hz => ?_⟩
  · rw [ek, List.nodup_append]
    exact ⟨h.nd, by simp, fun a ha b hb e => hnew (by
      have : b = x := by simpa using hb
      rw [← this, ← e]
      exact ha)⟩
  · rw [ek] at hy
    rcases List.mem_append.mp hy with hy | hy
    · exact h.sub y hy
    · rw [List.mem_singleton.mp hy]
      exact hx
  · rw [ek]
    rcases List.mem_append.mp hz with hz | hz
    · exact List.mem_append_left _ (h.cl z hz y hy)
    · rw [List.mem_singleton.mp hz] at hy
      exact List.mem_append_left _ (hne y hy)
  · rcases List.mem_append.mp hz with hz | hz
    · rw [em _ (h.cl z hz)]
      exact h.ok z hz
    · rw [List.mem_singleton.mp hz]
      rw [em _ hne]
      exact hs
end FN
namespace FN
open PySem PySem.Spec PyProof.Rows L2 DL GA
theorem ex_min {α : Type} (f : α → Int) : ∀ {l : List α}, l ≠ [] → ∃ a ∈ l, ∀ b ∈ l, f a ≤ f b
  | [], h => absurd rfl h
  | [a], _ => ⟨a, by simp, fun b hb => by rw [List.mem_singleton.mp hb]; exact Int.le_refl _⟩
  | a :: b :: l, _ => by
    obtain ⟨c, hc, hm⟩ := ex_min f (l := b :: l) (by simp)
    by_cases h : f a ≤ f c
    · exact ⟨a, by simp, fun d hd => by
        rcases List.mem_cons.mp hd with rfl | hd
        · exact Int.le_refl _
        · exact Int.le_trans h (hm d hd)⟩
    · exact ⟨c, List.mem_cons_of_mem _ hc, fun d hd => by
        rcases List.mem_cons.mp hd with rfl | hd
        · omega
        · exact hm d hd⟩
theorem keys_len {kv : List (Nm × Nm)} : (keys kv).length = kv.length := by unfold keys; simp
end FN
namespace FA
open PySem PySem.Spec PyProof.Rows L2 DL GA
open FN (kvK kvV kvO kvP keys val look_kv find_kv o_kv val_mem KvOk PosOk StOk St4 nOpen nDone nMaybe nDead first_row ex_min keys_len)
local macro_rules | `(tactic| trivial) => `(tactic| first
  | with_reducible refine s_Seq ?_
  | with_reducible refine s_Set ?_
  | with_reducible refine s_If ?_
  | with_reducible refine s_Drop ?_
  | with_reducible refine s_Ret ?_
  | with_reducible refine s_Par ?_
  | with_reducible refine s_For ?_
  | with_reducible refine s_Nx ?_
  | with_reducible refine p_f2 ?_
  | ((with_reducible apply p_var); (exact rfl))
  | with_reducible refine p_c ?_
  | with_reducible refine p_gNm ?_
  | with_reducible refine p_gSb ?_
  | with_reducible refine p_tru ?_
  | with_reducible refine p_and ?_
  | with_reducible refine p_or ?_
  | with_reducible refine p_not ?_
  | with_reducible refine p_yes ?_
  | with_reducible refine p_ite ?_
  | with_reducible refine p_cons ?_
  | with_reducible refine p_nil ?_
  | with_reducible refine p_cb ?_
  | with_reducible refine p_cbB ?_
  | with_reducible refine p_tup ?_
  | with_reducible refine p_lst ?_
  | with_reducible refine p_lstB ?_
  | with_reducible refine p_lc ?_
  | with_reducible refine p_dc ?_
  | with_reducible refine p_sl ?_
  | with_reducible refine p_oNo ?_
  | with_reducible refine c_oAt ?_
  | with_reducible refine c_atE ?_
  | ((with_reducible apply p_slE); (first | exact rfl | exact deP_bx rfl); (exact rfl))
  | with_reducible refine p_call ?_
  | with_reducible refine p_callN ?_
  | with_reducible refine s_ParE ?_
  | with_reducible refine c_iv ?_
  | with_reducible refine c_rg ?_
  | ((with_reducible apply c_mt); (exact rfl); (exact rfl))
  | with_reducible refine c_ret ?_
  | with_reducible refine p_closeV ?_
  | with_reducible refine p_closeK ?_
  | with_reducible refine ff ?_
  | with_reducible refine tt ?_
  | with_reducible refine nff ?_
  | with_reducible refine ntt ?_
  | with_reducible refine ndt (fun _ => ?_) (fun _ => ?_)
  | with_reducible refine dt (fun _ => ?_) (fun _ => ?_)
  | ((with_reducible apply p_l2); (first | exact rfl | exact deP_bx rfl); (first | exact rfl | exact deP_bx rfl); (first | assumption | exact rfl | exact mod_ok (by omega) | exact fdiv_ok (by omega) (by omega) | exact mul_ok (by omega) (by omega) | exact pow_ok (by omega) (by omega) (by omega)))
  | ((with_reducible apply p_truE); (first | exact rfl | exact deP_bx rfl); (exact rfl))
  | ((with_reducible apply p_cbE); (repeat (first | exact a_nil | (apply a_cons; first | exact rfl | exact deP_bx rfl))); (first | assumption | exact rfl))
  | ((with_reducible apply c_cbB); (repeat (first | exact a_nil | (apply a_cons; first | exact rfl | exact deP_bx rfl))); (first | assumption | exact rfl))
  | ((with_reducible apply p_lstE); (repeat (first | exact v_nil | apply v_cons)); (focus (show _ ≤ (100000 : Nat); first | decide | (simp; done) | (simp; omega))))
  | ((with_reducible apply p_tupE); (repeat (first | exact v_nil | apply v_cons)); (focus (show _ ≤ (100000 : Nat); first | decide | (simp; done) | (simp; omega))))
  | ((with_reducible apply c_lstB); (repeat (first | exact v_nil | apply v_cons)); (focus (show _ ≤ (100000 : Nat); first | decide | (simp; done) | (simp; omega))))
  | ((with_reducible apply c_ivE); (first | exact rfl | exact seq_bx rfl))
  | ((with_reducible apply p_sbL); (exact rfl); (exact rfl)))
noncomputable def B__law_names : FS :=
 (fRet (fLc (iVal (fVar 0)) (gNm 1) fYes (f2 pIx (fVar 1) (fC (.v (.int 0)))) [1]))
noncomputable def F__law_names : FF := runF 2 false B__law_names
noncomputable def B__law_entry : FS :=
 (fRet (f2 pIx (fLc (iVal (fVar 0)) (gNm 2) (fTru (f2 pEq (f2 pIx (fVar 2) (fC (.v (.int 0)))) (fVar 1))) (fVar 2) [2]) (fC (.v (.int 0)))))
noncomputable def F__law_entry : FF := runF 3 false B__law_entry
noncomputable def L__law_order_0 : FS :=
 (fIf (fAnd (fTru (f2 pNotIn (fVar 2) (fVar 1))) (fTru (f2 pEq (fLc (iVal (fVar 3)) (gNm 6) (fTru (f2 pNotIn (fVar 6) (fVar 1))) (fVar 6) [6]) (fLst fNil))))
    (fDrop (fMt mAppend (fVar 1) (fCons (fVar 2) fNil)))
    fNext)
noncomputable def L__law_order_1 : FS :=
 (fFor (iVal (fVar 0)) (gTp 4 (gCn (gNm 2) (gCn (gNm 3) (gCn (gNm 4) (gCn (gNm 5) gNl))))) L__law_order_0)
noncomputable def B__law_order : FS :=
 (fSeq (fSet (fLstB fNil) (gNm 1))
 (fSeq (fWhile (fTru (f2 pLt (fCb bLen (fCons (fVar 1) fNil)) (fCb bLen (fCons (fVar 0) fNil)))) L__law_order_1)
 (fRet (fVar 1))))
noncomputable def F__law_order : FF := runF 7 false B__law_order
noncomputable def L__law_random_position_0 : FS :=
 (fSeq (fPar 4 5 (fCons (f2 pIx (fCall F__law_entry [] (fCons (fVar 1) (fCons (fVar 3) fNil))) (fC (.v (.int 1)))) (fCons (f2 pIx (fCall F__law_entry [] (fCons (fVar 1) (fCons (fVar 3) fNil))) (fC (.v (.int 3)))) fNil)))
  (fSeq (fSet (fIte (fTru (f2 pIn (fC (.v (.str "again"))) (fVar 5))) (fLst (fCons (fC (.v (.str "open"))) fNil)) (fLst (fCons (fC (.v (.str "open"))) (fCons (fC (.v (.str "dead"))) fNil)))) (gNm 6))
  (fSeq (fIf (fTru (f2 pEq (fLc (iVal (fVar 4)) (gNm 7) (fTru (f2 pNe (f2 pIx (fVar 2) (fVar 7)) (fC (.v (.str "done"))))) (fVar 7) [7]) (fLst fNil)))
   (fSet (f2 pAdd (fVar 6) (fLst (fCons (fC (.v (.str "done"))) (fCons (fC (.v (.str "done"))) (fCons (fC (.v (.str "maybe"))) (fCons (fC (.v (.str "maybe"))) fNil)))))) (gNm 6))
   fNext)
  (fSet (f2 pIx (fVar 6) (fCall F__law_draw [] (fCons (fVar 0) (fCons (fCb bLen (fCons (fVar 6) fNil)) fNil)))) (gSb (fVar 2) (fVar 3))))))
noncomputable def B__law_random_position : FS :=
 (fSeq (fSet fDic0B (gNm 2))
 (fSeq (fFor (iVal (fCall F__law_order [] (fCons (fVar 1) fNil))) (gNm 3) L__law_random_position_0)
 (fRet (fCb bTuple (fCons (fLc (iVal (fCall F__law_names [] (fCons (fVar 1) fNil))) (gNm 3) fYes (f2 pIx (fVar 2) (fVar 3)) [3]) fNil)))))
noncomputable def F__law_random_position : FF := runF 8 false B__law_random_position
noncomputable def B__law_fixed_works : FS :=
 (fSeq (fSet (fTup (fCons (fC (.v (.str "a"))) (fCons (fC (.v (.str "ab"))) (fCons (fC (.v (.str "b"))) (fCons (fC (.v (.str "book"))) (fCons (fC (.v (.str "call"))) (fCons (fC (.v (.str "pay"))) (fCons (fC (.v (.str "ship"))) (fCons (fC (.v (.str "zzzzzzzz"))) fNil))))))))) (gNm 0))
 (fSeq (fSet (fCb bTuple (fCons (fLc (iR1 (fCons (fC (.v (.int 8))) fNil)) (gNm 2) fYes (fTup (fCons (f2 pIx (fVar 0) (fVar 2)) (fCons (fIte (fTru (f2 pGt (fVar 2) (fC (.v (.int 0))))) (fSl (fVar 0) (oAt (f2 pSub (fVar 2) (fC (.v (.int 1))))) (oAt (fVar 2))) (fTup fNil)) (fCons (fTup fNil) (fCons (fTup (fCons (fC (.v (.str "again"))) (fCons (fC (.v (.str "ask"))) fNil))) fNil))))) [2]) fNil)) (gNm 1))
 (fSeq (fSet (fCb bTuple (fCons (fLc (iR1 (fCons (fC (.v (.int 8))) fNil)) (gNm 2) fYes (fTup (fCons (f2 pIx (fVar 0) (fVar 2)) (fCons (fTup fNil) (fCons (fCb bTuple (fCons (fCb bSorted (fCons (fLst (fCons (f2 pIx (fVar 0) (f2 pSub (fVar 2) (fC (.v (.int 1))))) (fCons (f2 pIx (fVar 0) (f2 pMod (f2 pAdd (fVar 2) (fC (.v (.int 1)))) (fC (.v (.int 8))))) fNil))) fNil)) fNil)) (fCons (fTup (fCons (fC (.v (.str "undo"))) fNil)) fNil))))) [2]) fNil)) (gNm 3))
 (fSeq (fSet (fCb bTuple (fCons (fLc (iVal (fVar 0)) (gNm 5) fYes (fTup (fCons (fVar 5) (fCons (fTup fNil) (fCons (fTup fNil) (fCons (fTup (fCons (fC (.v (.str "again"))) (fCons (fC (.v (.str "ask"))) (fCons (fC (.v (.str "repeat"))) (fCons (fC (.v (.str "undo"))) fNil))))) fNil))))) [5]) fNil)) (gNm 4))
 (fSeq (fSet (fCb bTuple (fCons (fLc (iR1 (fCons (fC (.v (.int 8))) fNil)) (gNm 2) fYes (fTup (fCons (f2 pIx (fVar 0) (fVar 2)) (fCons (fSl (fVar 0) (oAt (f2 pAdd (fVar 2) (fC (.v (.int 1))))) (oAt (f2 pAdd (fVar 2) (fC (.v (.int 4)))))) (fCons (fSl (fVar 0) oNo (oAt (fVar 2))) (fCons (fTup fNil) fNil))))) [2]) fNil)) (gNm 6))
 (fSeq (fSet (fTup (fCons (fTup (fCons (fC (.v (.str "flight"))) (fCons (fTup fNil) (fCons (fTup fNil) (fCons (fTup (fCons (fC (.v (.str "undo"))) fNil)) fNil))))) (fCons (fTup (fCons (fC (.v (.str "hotel"))) (fCons (fTup fNil) (fCons (fTup (fCons (fC (.v (.str "flight"))) fNil)) (fCons (fTup (fCons (fC (.v (.str "undo"))) fNil)) fNil))))) fNil))) (gNm 7))
 (fSeq (fSet (f2 pAdd (fVar 7) (fTup (fCons (fTup (fCons (fC (.v (.str "mail"))) (fCons (fTup (fCons (fC (.v (.str "pay"))) fNil)) (fCons (fTup fNil) (fCons (fTup (fCons (fC (.v (.str "again"))) (fCons (fC (.v (.str "repeat"))) fNil))) fNil))))) (fCons (fTup (fCons (fC (.v (.str "pay"))) (fCons (fTup (fCons (fC (.v (.str "flight"))) (fCons (fC (.v (.str "hotel"))) fNil))) (fCons (fTup fNil) (fCons (fTup (fCons (fC (.v (.str "ask"))) fNil)) fNil))))) fNil)))) (gNm 7))
 (fRet (fLstB (fCons (fTup (fCons (fTup (fCons (fC (.v (.str "a"))) (fCons (fTup fNil) (fCons (fTup fNil) (fCons (fTup fNil) fNil))))) fNil)) (fCons (fVar 1) (fCons (fVar 3) (fCons (fVar 4) (fCons (fVar 6) (fCons (fVar 7) fNil)))))))))))))))
noncomputable def F__law_fixed_works : FF := runF 8 true B__law_fixed_works
theorem names {o : Ob} {T : Sto} {rs : List Rw} (h : WOk rs) : F__law_names [.v (wkP rs)] (o :: T) = .ok (.v (lN (nm rs))) (o :: T) := by
  have hl := h.len
  refine e_run ?_
  show (B__law_names [some (.v (wkP rs)), none] _).F _
  unfold B__law_names
  refine s_RetE (d := .v (.lst (rs.map fun r => nP r.x))) (S1 := o :: (T ++ [])) (e_lcA (xs := rs) (f := rwP) (own := none) (hh := fun r => nP r.x) (S1 := o :: (T ++ [])) (e_iv (e_var rfl) rfl) own_none (by omega) fun r hr => ?_) (e_closeT ?_)
  · exact e_body e_gNm e_yes fun _ => e_f2 (e_var rfl) e_c (e_l2 rfl rfl o_r0)
  · unfold nm lN
    rw [List.map_map]
    rfl
theorem entry {o : Ob} {T : Sto} {rs : List Rw} {x : Nm} (h : WOk rs) (hx : x ∈ nm rs) : F__law_entry [.v (wkP rs), .v (nP x)] (o :: T) = .ok (.v (rwP (rowOf rs x))) (o :: T) := by
  have hl := h.len
  have e : pIx (.lst ((rs.filter fun r => decide (r.x = x)).map rwP)) (.int 0) = some (rwP (rowOf rs x)) := by
    rw [first_row h.nd hx]
    exact at_nn (j := 0) rfl rfl
  refine e_run ?_
  show (B__law_entry [some (.v (wkP rs)), some (.v (nP x)), none] _).F _
  unfold B__law_entry
  refine s_RetE (d := .v (rwP (rowOf rs x))) (S1 := o :: (T ++ [])) (e_f2 (d := .v (.lst ((rs.filter fun r => decide (r.x = x)).map rwP))) (S1 := o :: (T ++ [])) (e_lc (xs := rs) (f := rwP) (own := none) (q := fun r => decide (r.x = x)) (hh := rwP) (S1 := o :: (T ++ [])) (e_iv (e_var rfl) rfl) own_none (by omega) fun r hr => ?_) e_c (e_l2 rfl rfl e)) e_close
  exact e_body e_gNm (e_tru (e_f2 (e_f2 (e_var rfl) e_c (e_l2 rfl rfl o_r0)) (e_var rfl) (e_l2 rfl rfl o_eqN)) rfl rfl) fun _ => e_var rfl
structure OrdOk (rs : List Rw) (xs : List Nm) : Prop where
  nd : xs.Nodup
  sub : ∀ x ∈ xs, x ∈ nm rs
  pre : ∀ (i : Nat) (x : Nm), xs[i]? = some x → ∀ y ∈ (rowOf rs x).ne, y ∈ xs.take i
theorem OrdOk.nil {rs : List Rw} : OrdOk rs [] := ⟨List.nodup_nil, (fun _ h => nomatch h), fun i x h => by simp at h⟩
theorem OrdOk.len {rs : List Rw} {xs : List Nm} (h : OrdOk rs xs) : xs.length ≤ rs.length := by
  have := h.nd.length_le_of_subset h.sub
  rwa [nm_len] at this
theorem OrdOk.add {rs : List Rw} {xs : List Nm} (h : OrdOk rs xs) {x : Nm} (hx : x ∈ nm rs) (hn : x ∉ xs) (hne : ∀ y ∈ (rowOf rs x).ne, y ∈ xs) : OrdOk rs (xs ++ [x]) := by
  refine ⟨?_, fun y hy => ?_, fun i y hi z hz => ?_⟩
  · rw [List.nodup_append]
    exact ⟨h.nd, by simp, fun a ha b hb e => hn (by
      have : b = x := by simpa using hb
      rw [← this, ← e]
      exact ha)⟩
  · rcases List.mem_append.mp hy with hy | hy
    · exact h.sub y hy
    · rw [List.mem_singleton.mp hy]
      exact hx
  · have hil := lt_of_at hi
    rw [List.length_append] at hil
    by_cases hi2 : i < xs.length
    · rw [List.getElem?_append_left hi2] at hi
      rw [List.take_append_of_le_length (by omega)]
      exact h.pre i y hi z hz
    · have : i = xs.length := by simp at hil; omega
      subst this
      rw [List.getElem?_append_right (Nat.le_refl _)] at hi
      have : x = y := by simpa using hi
      subst this
      rw [List.take_left]
      exact hne z hz
theorem ord_all {rs : List Rw} (A : AOk rs) {xs : List Nm} (h : OrdOk rs xs) (hl : rs.length ≤ xs.length) : ∀ x ∈ nm rs, x ∈ xs := fun x hx => by
  by_cases hk : x ∈ xs
  · exact hk
  · have h1 : (x :: xs).Nodup := List.nodup_cons.mpr ⟨hk, h.nd⟩
    have h2 := h1.length_le_of_subset (l₂ := nm rs) fun y hy => by
      rcases List.mem_cons.mp hy with rfl | hy
      · exact hx
      · exact h.sub y hy
    rw [List.length_cons, nm_len] at h2
    omega
theorem ord_next {rs : List Rw} (A : AOk rs) {xs : List Nm} (h : OrdOk rs xs) (hl : xs.length < rs.length) : ∃ r ∈ rs, r.x ∉ xs ∧ ∀ y ∈ r.ne, y ∈ xs := by
  obtain ⟨rk, hrk⟩ := A.rank
  have hne : rs.filter (fun r => !decide (r.x ∈ xs)) ≠ [] := fun e => by
    have h1 : ∀ x ∈ nm rs, x ∈ xs := fun x hx => by
      obtain ⟨r, hr, rfl⟩ := mem_nm.mp hx
      have := List.filter_eq_nil_iff.mp e r hr
      simpa using this
    have h2 := A.nd.length_le_of_subset h1
    rw [nm_len] at h2
    omega
  obtain ⟨r, hr, hm⟩ := ex_min (fun r : Rw => rk r.x) hne
  obtain ⟨hr1, hr2⟩ := List.mem_filter.mp hr
  refine ⟨r, hr1, by simpa using hr2, fun y hy => ?_⟩
  by_cases hk : y ∈ xs
  · exact hk
  · obtain ⟨q, hq, rfl⟩ := mem_nm.mp ((A.ne r hr1).2 y hy)
    have := hm q (List.mem_filter.mpr ⟨hq, by simpa using hk⟩)
    have := hrk r hr1 _ hy
    omega
theorem o_ltI {i j : Int} : pLt (.int i) (.int j) = some (.bl (decide (i < j))) := rfl
theorem order {o : Ob} {T : Sto} {rs : List Rw} (A : AOk rs) : (F__law_order [.v (wkP rs)] (o :: T)).P fun d S => ∃ xs, d = .v (lN xs) ∧ S = o :: T ∧ OrdOk rs xs ∧ ∀ x ∈ nm rs, x ∈ xs := by
  have W := A.wok
  have hl8 := A.len
  refine p_runC ?_
  show (B__law_order [some (.v (wkP rs)), none, none, none, none, none, none] _).F _
  unfold B__law_order
  refine s_Seq (s_SetE (d := .r (bx T 0)) (S1 := o :: (T ++ [.lst (([] : List Nm).map nP)])) (e_lstB e_nil v_nil (by decide)) e_gNm ?_)
  refine s_Seq ?_
  refine s_While (fun n env S => ∃ (xs : List Nm) (e2 e3 e4 e5 e6 : Option D), env = [some (.v (wkP rs)), some (.r (bx T 0)), e2, e3, e4, e5, e6] ∧ S = o :: (T ++ [.lst (xs.map nP)]) ∧ OrdOk rs xs ∧ rs.length - xs.length = n) rs.length (by omega)
    ⟨[], _, _, _, _, _, rfl, rfl, OrdOk.nil, by simp⟩ ?_
  rintro n env S ⟨xs, e2, e3, e4, e5, e6, rfl, rfl, hk, hn⟩
  have hkl := hk.len
  have elen : bLen [.lst (xs.map nP)] = some (.int xs.length) := by
    show some (P.int (xs.map nP).length) = _
    rw [List.length_map]
  have elen2 : bLen [wkP rs] = some (.int rs.length) := by
    show some (P.int (rs.map rwP).length) = _
    rw [List.length_map]
  refine P_of (a := decide ((xs.length : Int) < rs.length)) (S := o :: (T ++ [.lst (xs.map nP)])) (e_tru (e_f2 (e_cb (e_cons (e_var rfl) e_nil) (a_cons (deP_bx rfl) a_nil) elen) (e_cb (e_cons (e_var rfl) e_nil) (a_cons rfl a_nil) elen2) (e_l2 rfl rfl o_ltI)) rfl rfl) ⟨fun hlt => ?_, fun hge => ?_⟩
  · rw [decide_eq_true_eq] at hlt
    unfold L__law_order_1
    refine s_ForE (z := (rs.map rwP, none)) (S1 := o :: (T ++ [.lst (xs.map nP)])) (e_iv (e_var rfl) rfl) ?_
    refine s_Loop (fun i env S => ∃ (ys : List Nm) (e2 e3 e4 e5 e6 : Option D), env = [some (.v (wkP rs)), some (.r (bx T 0)), e2, e3, e4, e5, e6] ∧ S = o :: (T ++ [.lst (ys.map nP)]) ∧ OrdOk rs ys ∧ (∀ x ∈ xs, x ∈ ys) ∧ (∀ r ∈ rs.take i, (∀ y ∈ r.ne, y ∈ xs) → r.x ∈ ys))
      ⟨xs, _, _, _, _, _, rfl, rfl, hk, (fun _ h => h), (fun r h => by simp at h)⟩ (fun _ _ _ _ => own_none) ?_ ?_
    · rintro i p env S hi ⟨ys, e2, e3, e4, e5, e6, rfl, rfl, hk2, hsub, hdone⟩
      have hi' : (rs.map rwP)[i]? = some p := hi
      rw [List.getElem?_map] at hi'
      obtain ⟨r, hr, rfl⟩ := Option.map_eq_some_iff.mp hi'
      have hrm := List.mem_of_getElem? hr
      have hnel := W.ne r hrm
      have hk2l := hk2.len
      have et : rs.take (i + 1) = rs.take i ++ [r] := by
        rw [List.take_add_one, hr]
        rfl
      have hro := rowOf_eq A.nd hrm
      refine P_of (a := [some (.v (wkP rs)), some (.r (bx T 0)), some (.v (nP r.x)), some (.v (tN r.ne)), some (.v (tN r.se)), some (.v (tN r.ab)), e6]) (S := o :: (T ++ [.lst (ys.map nP)])) (e_gTp rfl (e_gCn e_gNm (e_gCn e_gNm (e_gCn e_gNm (e_gCn e_gNm e_gNl))))) ?_
      unfold L__law_order_0
      refine s_IfE (k := !decide (r.x ∈ ys) && decide (r.ne.filter (fun y => !decide (y ∈ ys)) = [])) (S1 := o :: (T ++ [.lst (ys.map nP)])) ?_ (fun hc => ?_) fun hc => ?_
      · refine e_and (e_tru (e_f2 (e_var rfl) (e_var rfl) (e_l2 rfl (deP_bx rfl) o_niLs)) rfl rfl) fun _ => e_tru (e_f2 (e_lc (xs := r.ne) (f := nP) (own := none) (q := fun y => !decide (y ∈ ys)) (hh := nP) (S1 := o :: (T ++ [.lst (ys.map nP)])) (e_iv (e_var rfl) rfl) own_none (by omega) fun y hy => ?_) (e_lst e_nil v_nil (by decide)) (e_l2 rfl rfl o_eqLs0)) rfl rfl
        exact e_body e_gNm (e_tru (e_f2 (e_var rfl) (e_var rfl) (e_l2 rfl (deP_bx rfl) o_niLs)) rfl rfl) fun _ => e_var rfl
      · rw [Bool.and_eq_true] at hc
        have hnew : r.x ∉ ys := by simpa using hc.1
        have hall : ∀ y ∈ r.ne, y ∈ ys := by simpa using hc.2
        refine s_DropE (e_mt (ps := ys.map nP) (ds := [.v (nP r.x)]) rfl rfl (e_cons (e_var rfl) e_nil) (o_app (by rw [List.length_map]; omega))) ?_
        refine ⟨ys ++ [r.x], _, _, _, _, _, rfl, by simp, hk2.add (mem_nm.mpr ⟨r, hrm, rfl⟩) hnew (by rw [hro]; exact hall), fun x hx => List.mem_append_left _ (hsub x hx), fun z hz hzn => ?_⟩
        rw [et] at hz
        rcases List.mem_append.mp hz with hz | hz
        · exact List.mem_append_left _ (hdone z hz hzn)
        · rw [List.mem_singleton.mp hz]
          exact List.mem_append_right _ (by simp)
      · refine s_Nx ⟨ys, _, _, _, _, _, rfl, rfl, hk2, hsub, fun z hz hzn => ?_⟩
        rw [et] at hz
        rcases List.mem_append.mp hz with hz | hz
        · exact hdone z hz hzn
        · rw [List.mem_singleton.mp hz] at hzn ⊢
          by_cases hin : r.x ∈ ys
          · exact hin
          · exfalso
            have : r.ne.filter (fun y => !decide (y ∈ ys)) = [] := List.filter_eq_nil_iff.mpr fun y hy => by
              have := hsub y (hzn y hy)
              simp [this]
            rw [this] at hc
            simp [hin] at hc
    · rintro env S ⟨ys, e2, e3, e4, e5, e6, rfl, rfl, hk2, hsub, hdone⟩
      obtain ⟨r, hr, hr1, hr2⟩ := ord_next A hk (by omega)
      have hr3 : r.x ∈ ys := hdone r (by show r ∈ rs.take (rs.map rwP).length; rw [List.length_map, List.take_length]; exact hr) hr2
      have hlt2 : xs.length < ys.length := by
        have h1 : (r.x :: xs).Nodup := List.nodup_cons.mpr ⟨hr1, hk.nd⟩
        have h2 := h1.length_le_of_subset (l₂ := ys) fun y hy => by
          rcases List.mem_cons.mp hy with rfl | hy
          · exact hr3
          · exact hsub y hy
        rwa [List.length_cons] at h2
      have := hk2.len
      exact ⟨rs.length - ys.length, by omega, ys, _, _, _, _, _, rfl, rfl, hk2, rfl⟩
  · rw [decide_eq_false_iff_not] at hge
    dsimp only
    show (fRet (fVar 1) _ _).F _
    refine s_RetE (d := .r (bx T 0)) (S1 := o :: (T ++ [.lst (xs.map nP)])) ?_ ?_
    · exact e_var rfl
    refine c_retL (ps := xs.map nP) rfl ?_
    exact ⟨xs, rfl, rfl, hk, ord_all A hk (by omega)⟩
theorem s_SeqN {a c : FS} {env env1 : Dnv} {S S1 : Sto} {E : FEn} (h1 : a env S = .nx env1 S1) (h : (c env1 S1).F E) : (fSeq a c env S).F E := by
  unfold fSeq
  rw [h1]
  exact h
theorem n_If {t : FT} {a c : FS} {env e2 : Dnv} {S S1 S2 : Sto} {k : Bool} (ht : t env S = .ok k S1) (h1 : k = true → a env S1 = .nx e2 S2) (h2 : k = false → c env S1 = .nx e2 S2) : fIf t a c env S = .nx e2 S2 := by
  unfold fIf
  rw [ht]
  cases k with
  | true => exact h1 rfl
  | false => exact h2 rfl
theorem n_Set {f : FE} {g : FG} {env e2 : Dnv} {S S1 S2 : Sto} {d : D} (h1 : f env S = .ok d S1) (h2 : g d env S1 = .ok e2 S2) : fSet f g env S = .nx e2 S2 := by
  unfold fSet
  rw [h1]
  show ((g d env S1).fl _ : Flo) = _
  rw [h2]
  rfl
theorem ks_pos {rs : List Rw} (A : AOk rs) {kv : List (Nm × Nm)} (h : KvOk rs kv) (hall : ∀ x ∈ nm rs, x ∈ keys kv) : PosOk rs ((nm rs).map (val kv)) := by
  have hz : ∀ z ∈ rs.zip ((nm rs).map (val kv)), z.1 ∈ rs ∧ z.2 = val kv z.1.x := fun z hz => by
    unfold nm at hz
    rw [List.map_map, List.zip_map_right] at hz
    obtain ⟨y, hy, rfl⟩ := List.mem_map.mp hz
    rw [← List.map_id rs, List.zip_map_left, ] at hy
    obtain ⟨i, hi, e⟩ := List.getElem_of_mem hy
    have e2 : y.1 = y.2 := by
      rw [← e]
      simp
    have e3 : y.1 ∈ rs := by
      rw [← e]
      simp
    exact ⟨e3, by simp [Prod.map, e2]⟩
  refine ⟨by unfold nm; simp, fun z hzz => ?_⟩
  obtain ⟨h1, h2⟩ := hz z hzz
  have hk : z.1.x ∈ keys kv := hall _ (mem_nm.mpr ⟨z.1, h1, rfl⟩)
  have ho := h.ok _ (val_mem hk)
  rw [← h2] at ho
  simp only [rowOf_eq A.nd h1] at ho
  refine ⟨ho.1, ho.2.2, fun hd y hy hyn => ?_⟩
  have := ho.2.1 hd (val kv y.1.x) (List.mem_map.mpr ⟨y.1.x, hyn, rfl⟩)
  rw [(hz y hy).2]
  exact this
def ch0 (ag : Bool) : List Nm := if ag = true then [nOpen] else [nOpen, nDead]
def ch1 (k : Bool) : List Nm := if k = true then [nDone, nDone, nMaybe, nMaybe] else []
theorem ch_len (ag k : Bool) : 0 < (ch0 ag ++ ch1 k).length ∧ (ch0 ag ++ ch1 k).length ≤ 6 := by cases ag <;> cases k <;> simp [ch0, ch1]
theorem ch_ok {ab ns : List Nm} {k : Bool} (hk : k = true → ∀ y ∈ ns, y = nDone) {s : Nm} (h : s ∈ ch0 (has "again" ab) ++ ch1 k) : StOk ab ns s := by
  have hn2 : nDead ≠ nDone := fun e => absurd (congrArg Nm.s e) (show ("dead" : Str) ≠ "done" by decide +kernel)
  have hn3 : nDead ≠ nMaybe := fun e => absurd (congrArg Nm.s e) (show ("dead" : Str) ≠ "maybe" by decide +kernel)
  have hn4 : nOpen ≠ nDone := fun e => absurd (congrArg Nm.s e) (show ("open" : Str) ≠ "done" by decide +kernel)
  have hn5 : nOpen ≠ nMaybe := fun e => absurd (congrArg Nm.s e) (show ("open" : Str) ≠ "maybe" by decide +kernel)
  have hn6 : nOpen ≠ nDead := fun e => absurd (congrArg Nm.s e) (show ("open" : Str) ≠ "dead" by decide +kernel)
  rcases List.mem_append.mp h with h | h
  · cases ha : has "again" ab with
    | true =>
      rw [ha] at h
      have : s = nOpen := by simpa [ch0] using h
      subst this
      exact ⟨.inl rfl, fun e => (e.elim (fun e => absurd e hn4) fun e => absurd e hn5), fun e => absurd e hn6⟩
    | false =>
      rw [ha] at h
      have : s = nOpen ∨ s = nDead := by simpa [ch0] using h
      rcases this with rfl | rfl
      · exact ⟨.inl rfl, fun e => (e.elim (fun e => absurd e hn4) fun e => absurd e hn5), fun e => absurd e hn6⟩
      · exact ⟨.inr (.inr (.inr rfl)), fun e => (e.elim (fun e => absurd e hn2) fun e => absurd e hn3), fun _ => ha⟩
  · cases k with
    | false => simp [ch1] at h
    | true =>
      have : s = nDone ∨ s = nMaybe := by simpa [ch1] using h
      rcases this with rfl | rfl
      · exact ⟨.inr (.inl rfl), fun _ => hk rfl, fun e => absurd e.symm hn2⟩
      · exact ⟨.inr (.inr (.inl rfl)), fun _ => hk rfl, fun e => absurd e.symm hn3⟩
theorem position {b : Int} {o : Ob} {T : Sto} {Q : D → Sto → Prop} {rs : List Rw} (A : AOk rs) (h : SOA b o) (hb : b ≤ 800000) (q : ∀ (ps : List Nm) (o' : Ob), PosOk rs ps → SOA (b + 10) o' → Q (.v (tN ps)) (o' :: T)) : (F__law_random_position [.r 0, .v (wkP rs)] (o :: T)).P Q := by
  have W := A.wok
  have hl8 := A.len
  refine p_runC ?_
  show (B__law_random_position [some (.r 0), some (.v (wkP rs)), none, none, none, none, none, none] _).F _
  unfold B__law_random_position
  refine s_Seq (s_SetE (d := .r (bx T 0)) (S1 := o :: (T ++ [kvO []])) e_dic0B e_gNm ?_)
  obtain ⟨d, S, ex, xs, rfl, rfl, hx, hall⟩ := (order (o := o) (T := T ++ [kvO []]) A).ex
  refine s_Seq (s_ForE (z := (xs.map nP, none)) (S1 := o :: (T ++ [kvO []])) (e_iv (e_call (e_cons (e_var rfl) e_nil) ex) rfl) ?_)
  refine s_Loop (fun i env S => ∃ (o : Ob) (kv : List (Nm × Nm)) (e3 e4 e5 e6 e7 : Option D), env = [some (.r 0), some (.v (wkP rs)), some (.r (bx T 0)), e3, e4, e5, e6, e7] ∧ S = o :: (T ++ [kvO kv]) ∧ KvOk rs kv ∧ keys kv = xs.take i ∧ SOA (b + i) o)
    ⟨o, [], _, _, _, _, _, rfl, rfl, ⟨List.nodup_nil, (fun _ h => by cases h), (fun _ h => by cases h), (fun _ h => by cases h)⟩, rfl, by simpa using h⟩ (fun _ _ _ _ => own_none) ?_ ?_
  · rintro i p env S hi ⟨o, kv, e3, e4, e5, e6, e7, rfl, rfl, hkv, hks, hs⟩
    have hi' : (xs.map nP)[i]? = some p := hi
    rw [List.getElem?_map] at hi'
    obtain ⟨x, hxi, rfl⟩ := Option.map_eq_some_iff.mp hi'
    have hil := lt_of_at hxi
    have hxl := hx.len
    have hxm := hx.sub x (List.mem_of_getElem? hxi)
    have hrm := (rowOf_mem hxm).1
    have hnel := A.ne8 hrm
    have hne : ∀ y ∈ (rowOf rs x).ne, y ∈ keys kv := fun y hy => by rw [hks]; exact hx.pre i x hxi y hy
    have hkl : kv.length = i := by
      rw [← keys_len, hks, List.length_take]
      omega
    refine P_of e_gNm ?_
    unfold L__law_random_position_0
    refine s_Seq (s_Par2 (d := .v (tN (rowOf rs x).ne)) (e := .v (tN (rowOf rs x).ab)) (S1 := o :: (T ++ [kvO kv])) (e_cons (e_f2 (e_call (e_cons (e_var rfl) (e_cons (e_var rfl) e_nil)) (entry W hxm)) e_c (e_l2 rfl rfl o_r1)) (e_cons (e_f2 (e_call (e_cons (e_var rfl) (e_cons (e_var rfl) e_nil)) (entry W hxm)) e_c (e_l2 rfl rfl o_r3)) e_nil)) ?_)
    refine s_Seq (s_SetE (d := .v (lN (ch0 (has "again" (rowOf rs x).ab)))) (S1 := o :: (T ++ [kvO kv])) ?_ e_gNm ?_)
    · refine (e_ite (a := has "again" (rowOf rs x).ab) (p := lN [nOpen]) (q := lN [nOpen, nDead]) (e_tru (e_f2 e_c (e_var rfl) (e_l2 rfl rfl (o_inW (by decide +kernel)))) rfl rfl) (fun _ => e_lst (ds := [.v (nP nOpen)]) (e_cons e_c e_nil) rfl (by show (1 : Nat) ≤ 100000; decide)) fun _ => e_lst (ds := [.v (nP nOpen), .v (nP nDead)]) (e_cons e_c (e_cons e_c e_nil)) rfl (by show (2 : Nat) ≤ 100000; decide)).trans ?_
      cases has "again" (rowOf rs x).ab <;> rfl
    have hcl := ch_len (has "again" (rowOf rs x).ab)
    refine s_SeqN (S1 := o :: (T ++ [kvO kv])) (env1 := [some (.r 0), some (.v (wkP rs)), some (.r (bx T 0)), some (.v (nP x)), some (.v (tN (rowOf rs x).ne)), some (.v (tN (rowOf rs x).ab)), some (.v (lN (ch0 (has "again" (rowOf rs x).ab) ++ ch1 (decide ((rowOf rs x).ne.filter (fun y => !decide ((val kv y).s = "done")) = []))))), e7]) ?_ ?_
    · refine n_If (k := decide ((rowOf rs x).ne.filter (fun y => !decide ((val kv y).s = "done")) = [])) (S1 := o :: (T ++ [kvO kv])) (e_tru (e_f2 (e_lc (xs := (rowOf rs x).ne) (f := nP) (own := none) (q := fun y => !decide ((val kv y).s = "done")) (hh := nP) (S1 := o :: (T ++ [kvO kv])) (e_iv (e_var rfl) rfl) own_none (by omega) fun y hy => ?_) (e_lst e_nil v_nil (by decide)) (e_l2 rfl rfl o_eqLs0)) rfl rfl) (fun hk => ?_) fun hk => ?_
      · exact e_body e_gNm (e_tru (e_f2 (e_f2 (e_var rfl) (e_var rfl) (e_l2 (deP_bxD rfl) rfl (o_kv (hne y hy)))) e_c (e_l2 rfl rfl (o_neL (by decide +kernel)))) rfl rfl) fun _ => e_var rfl
      · rw [hk]
        refine n_Set (d := .v (lN (ch0 (has "again" (rowOf rs x).ab) ++ ch1 true))) (S1 := o :: (T ++ [kvO kv])) ?_ rfl
        refine (e_f2 (e_var rfl) (e_lst (ds := [.v (nP nDone), .v (nP nDone), .v (nP nMaybe), .v (nP nMaybe)]) (e_cons e_c (e_cons e_c (e_cons e_c (e_cons e_c e_nil)))) rfl (by show (4 : Nat) ≤ 100000; decide)) (e_l2 rfl rfl (o_addLs (by
          have := (hcl false).2
          simp only [ch1, List.append_nil] at this
          rw [List.length_map]
          show _ + 4 ≤ 100000
          simp at this
          omega)))).trans ?_
        unfold lN
        rw [List.map_append]
        rfl
      · rw [hk]
        show Flo.nx _ _ = _
        simp [ch1]
    · generalize hkk : decide ((rowOf rs x).ne.filter (fun y => !decide ((val kv y).s = "done")) = []) = k
      have hst : ∀ s ∈ ch0 (has "again" (rowOf rs x).ab) ++ ch1 k, StOk (rowOf rs x).ab ((rowOf rs x).ne.map (val kv)) s := fun s hs => ch_ok (k := k) (fun hk y hy => by
        obtain ⟨z, hz, rfl⟩ := List.mem_map.mp hy
        rw [hk, decide_eq_true_eq] at hkk
        have := List.filter_eq_nil_iff.mp hkk z hz
        have h2 : (val kv z).s = ("done" : Str) := by simpa using this
        exact Nm.inj h2) hs
      have hcl := hcl k
      generalize ch0 (has "again" (rowOf rs x).ab) ++ ch1 k = ch at hst hcl
      have e1 : bLen [lN ch] = some (.int ch.length) := by
        show some (P.int (ch.map nP).length) = _
        rw [List.length_map]
      refine s_Set ?_
      repeat' trivial
      refine draw hs (by omega) (by omega) (by omega) fun w o w0 w1 hs => ?_
      have hw : w.toNat < ch.length := by omega
      have hix : pIx (lN ch) (.int w) = some (nP ch[w.toNat]) := at_nn (j := w.toNat) (by omega) (by rw [List.getElem?_map, List.getElem?_eq_getElem hw]; rfl)
      refine p_l2 rfl rfl hix ?_
      have hnew : x ∉ keys kv := fun hm => by
        rw [hks] at hm
        obtain ⟨j, hj, e⟩ := List.getElem_of_mem hm
        rw [List.length_take] at hj
        rw [List.getElem_take] at e
        have h1 : xs[i]? = xs[j]? := by rw [hxi, List.getElem?_eq_getElem (by omega), e]
        have := (List.getElem?_inj hil hx.nd).mp h1
        omega
      refine p_gSb (p_var rfl (p_var rfl ?_))
      refine sbD_bxN (ks := kvK kv) (ps := kvV kv) rfl (fun hm => hnew ?_) (by simp) (by rw [List.length_map]; omega) ?_
      · obtain ⟨z, hz, e⟩ := List.mem_map.mp hm
        exact List.mem_map.mpr ⟨z, hz, Nm.inj (Sum.inr.inj e)⟩
      have ek : keys (kv ++ [(x, ch[w.toNat])]) = keys kv ++ [x] := by unfold keys; simp
      refine ⟨o, kv ++ [(x, ch[w.toNat])], _, _, _, _, _, rfl, by simp [kvO], hkv.add hxm hnew hne (hst _ (List.getElem_mem hw)), ?_, ?_⟩
      · rw [ek, hks, List.take_add_one, hxi]
        rfl
      · show SOA (b + ((i + 1 : Nat) : Int)) o
        exact hs.mono (by omega)
  · rintro env S ⟨o, kv, e3, e4, e5, e6, e7, rfl, rfl, hkv, hks, hs⟩
    have hxl := hx.len
    have hks : keys kv = xs := by
      have h1 : keys kv = xs.take (xs.map nP).length := hks
      rw [List.length_map, List.take_length] at h1
      exact h1
    have hs : SOA (b + ((xs.map nP).length : Nat)) o := hs
    rw [List.length_map] at hs
    have hall : ∀ x ∈ nm rs, x ∈ keys kv := fun x hx => by rw [hks]; exact hall x hx
    have hnl : (nm rs).length ≤ 8 := by rw [nm_len]; exact hl8
    refine s_RetE (d := .v (tN ((nm rs).map (val kv)))) (S1 := o :: (T ++ [kvO kv])) ?_ (c_ret (q _ o (ks_pos A hkv hall) (hs.mono (by omega))))
    have et : tN ((nm rs).map (val kv)) = .tup ((nm rs).map fun y => nP (val kv y)) := by
      unfold tN
      rw [List.map_map]
      rfl
    rw [et]
    refine e_cb (e_cons (e_lcA (xs := nm rs) (f := nP) (own := none) (hh := fun y => nP (val kv y)) (S1 := o :: (T ++ [kvO kv])) (e_iv (e_call (e_cons (e_var rfl) e_nil) (names W)) rfl) own_none (by omega) fun y hy => ?_) e_nil) (a_cons rfl a_nil) o_tuple
    exact e_body e_gNm e_yes fun _ => e_f2 (e_var rfl) (e_var rfl) (e_l2 (deP_bxD rfl) rfl (o_kv (hall y hy)))
end FA
namespace GM
open PySem PySem.Spec PyProof.Rows L2 DL GA
local macro_rules | `(tactic| array_get_dec) => `(tactic| first
  | (focus ((with_reducible (show deP _ _ = _)); exact rfl))
  | (focus ((with_reducible (show seqOf _ _ = _)); exact rfl))
  | (focus ((with_reducible (show truP _ = _)); exact rfl))
  | (focus ((with_reducible (show pIx _ _ = _)); exact rfl))
  | (focus ((with_reducible (show pKey _ = _)); exact rfl))
  | (focus ((with_reducible (show bLen _ = _)); exact rfl))
  | (focus ((with_reducible (show bInt _ = _)); exact rfl))
  | (focus ((with_reducible (show bList _ = _)); exact rfl))
  | (focus ((with_reducible (show pAdd (.int _) (.int _) = _)); exact rfl))
  | (focus ((with_reducible (show pSub (.int _) (.int _) = _)); exact rfl))
  | (focus ((with_reducible (show pLt (.int _) (.int _) = _)); exact rfl))
  | (focus ((with_reducible (show pLe (.int _) (.int _) = _)); exact rfl))
  | (focus ((with_reducible (show pGt (.int _) (.int _) = _)); exact rfl))
  | (focus ((with_reducible (show pGe (.int _) (.int _) = _)); exact rfl))
  | (focus ((with_reducible (show List.length _ = _)); exact rfl))
  | (focus ((with_reducible (show pSl _ _ _ = _)); exact rfl))
  | (focus ((with_reducible (show pIsN _ _ = _)); exact rfl))
  | (focus ((with_reducible (show pNotN _ _ = _)); exact rfl))
  | (focus ((with_reducible (show pNeg _ = _)); exact rfl))
  | (focus ((with_reducible (show setD _ _ _ _ = _)); exact rfl))
  | with_reducible exact rfl)
local macro_rules | `(tactic| array_get_dec) => `(tactic| first
  | (focus ((with_reducible show _ = _); with_reducible assumption))
  | (focus (with_reducible apply e_l2))
  | with_reducible exact o_eqN
  | with_reducible exact o_neN
  | with_reducible exact o_eqT
  | with_reducible exact o_neT
  | with_reducible exact o_eqT0
  | with_reducible exact o_neT0
  | with_reducible exact o_eqLs0
  | with_reducible exact o_neLs0
  | with_reducible exact o_inT
  | with_reducible exact o_inLs
  | with_reducible exact o_niT
  | with_reducible exact o_niLs
  | with_reducible exact o_eqI
  | with_reducible exact o_neI
  | with_reducible exact o_eqL (by decide +kernel)
  | with_reducible exact o_neL (by decide +kernel)
  | with_reducible exact o_inW (by decide +kernel)
  | with_reducible exact o_niW (by decide +kernel)
  | with_reducible exact o_in1 (by decide +kernel)
  | with_reducible exact o_in2 (by decide +kernel) (by decide +kernel)
  | with_reducible exact o_in3 (by decide +kernel) (by decide +kernel) (by decide +kernel)
  | with_reducible exact o_ni1 (by decide +kernel)
  | with_reducible exact o_ni2 (by decide +kernel) (by decide +kernel)
  | with_reducible exact o_addT1 (by first | omega | (simp; omega))
  | with_reducible exact o_addT (by first | omega | (simp; omega))
  | with_reducible exact o_addLs (by first | omega | (simp; omega))
  | with_reducible exact o_addTp (by first | omega | (simp; omega))
  | with_reducible exact o_tupleN
  | with_reducible exact o_tuple)
local macro_rules | `(tactic| array_get_dec) => `(tactic| first
  | with_reducible exact e_c
  | ((with_reducible apply e_var); (exact rfl))
  | with_reducible apply e_f2
  | with_reducible exact e_nil
  | with_reducible apply e_cons
  | with_reducible apply e_tup
  | with_reducible apply e_lst
  | with_reducible apply e_lstB
  | with_reducible apply e_cb
  | with_reducible apply e_cbB
  | with_reducible apply e_tru
  | with_reducible exact e_yes
  | with_reducible apply e_and
  | with_reducible apply e_or
  | with_reducible apply e_not
  | with_reducible apply e_iteB
  | with_reducible apply e_ite
  | with_reducible apply e_andV
  | with_reducible apply e_orV
  | with_reducible apply e_notV
  | with_reducible apply e_f1
  | with_reducible apply e_call
  | with_reducible apply e_callN
  | with_reducible apply e_sl
  | with_reducible exact e_oNo
  | with_reducible apply e_oAt
  | with_reducible apply e_iv
  | with_reducible apply e_lcA
  | with_reducible apply e_lc
  | with_reducible apply e_lcB
  | with_reducible apply e_rg
  | with_reducible apply e_rg2
  | ((with_reducible apply e_mt); (exact rfl); (exact rfl))
  | with_reducible exact e_gNm
  | with_reducible exact e_gNl
  | with_reducible apply e_gCn
  | (focus ((with_reducible (show gTp _ _ _ _ _ = _)); (apply e_gTp); (exact rfl)))
  | (with_reducible (intro _ _; apply e_body))
  | with_reducible exact v_nil
  | with_reducible apply v_cons
  | with_reducible exact a_nil
  | ((with_reducible apply a_cons); (first | exact deP_bx rfl | exact deP_bxD rfl | exact rfl))
  | with_reducible exact deP_bx rfl
  | with_reducible exact deP_bxD rfl
  | with_reducible exact own_none
  | with_reducible exact own_bx rfl
  | (focus (show _ ≤ (100000 : Nat); first | decide | omega | (simp; done) | (simp; omega)))
  | (focus (show _ < (100000 : Nat); first | omega | (simp; omega) | (refine Nat.lt_of_le_of_lt (List.length_filter_le _ _) ?_; omega)))
  | with_reducible exact o_app (by first | omega | (simp; omega))
  | with_reducible exact o_ext rfl (by first | omega | (simp; omega))
  | (with_reducible intro _))
noncomputable def B_statuses_by_step : FS :=
 (fRet (fDc (iZpS (fCons (fVar 0) (fCons (fVar 1) fNil)) (fCons (fC (.v (.bl true))) fNil)) (gTp 2 (gCn (gNm 2) (gCn (gNm 3) gNl))) fYes (f2 pIx (fVar 2) (fC (.v (.int 0)))) (fVar 3) [2, 3]))
noncomputable def F_statuses_by_step : FF := runF 4 false B_statuses_by_step
noncomputable def B_start_of : FS :=
 (fRet (f2 pMul (fTup (fCons (fC (.v (.str "open"))) fNil)) (fCb bLen (fCons (fVar 0) fNil))))
noncomputable def F_start_of : FF := runF 1 false B_start_of
def sOpen : Nm := lit "open"
def sDone : Nm := lit "done"
def sMaybe : Nm := lit "maybe"
def sDead : Nm := lit "dead"
def wAtt : Nm := lit "attempt"
def wAsk : Nm := lit "ask"
def wUndo : Nm := lit "undo"
def wRep : Nm := lit "repeat"
def Wd (w : Nm) : Prop := w = wAtt ∨ w = wAsk ∨ w = wUndo
def mov (w : Nm) : List Nm := if w.s = "attempt" then [sOpen, sMaybe] else if w.s = "ask" then [sMaybe] else [sDone, sMaybe]
def need (w : Nm) : Nm := if w.s = "attempt" then wRep else w
theorem bools_map {α : Type} {f : α → Bool} : ∀ xs : List α, bools (xs.map fun x => P.bl (f x)) = some (xs.map f)
  | [] => rfl
  | x :: xs => by
    show (bools (xs.map fun x => P.bl (f x))).map (f x :: ·) = _
    rw [bools_map xs]
    rfl
theorem o_all {α : Type} {f : α → Bool} {xs : List α} : bAll [.lst (xs.map fun x => P.bl (f x))] = some (.bl (xs.all f)) := by
  show (bools _).map _ = _
  rw [bools_map, Option.map_some, List.all_map]
  rfl
def stOf (rs : List Rw) (ps : List Nm) (x : Nm) : Nm := (((rs.zip ps).find? fun z => decide (z.1.x = x)).map fun z => z.2).getD default
abbrev sdP (rs : List Rw) (ps : List Nm) : P := .dic ((rs.zip ps).map fun z => .inr z.1.x.s) ((rs.zip ps).map fun z => nP z.2)
theorem zip_fst : ∀ {rs : List Rw} {ps : List Nm}, rs.length = ps.length → (rs.zip ps).map (fun z => z.1) = rs
  | [], [], _ => rfl
  | [], _ :: _, h => by cases h
  | _ :: _, [], h => by cases h
  | r :: rs, p :: ps, h => by
    rw [List.zip_cons_cons, List.map_cons, zip_fst (Nat.succ.inj h)]
theorem zip_of {rs : List Rw} {ps : List Nm} (hl : rs.length = ps.length) {x : Nm} (h : x ∈ nm rs) : ∃ z ∈ rs.zip ps, z.1.x = x := by
  obtain ⟨r, hr, rfl⟩ := mem_nm.mp h
  rw [← zip_fst hl] at hr
  obtain ⟨z, hz, rfl⟩ := List.mem_map.mp hr
  exact ⟨z, hz, rfl⟩
theorem stOf_z {rs : List Rw} {ps : List Nm} (hn : (nm rs).Nodup) {z : Rw × Nm} (hz : z ∈ rs.zip ps) : stOf rs ps z.1.x = z.2 := by
  unfold stOf
  cases e : (rs.zip ps).find? fun y => decide (y.1.x = z.1.x) with
  | none => exact absurd (List.find?_eq_none.mp e z hz) (by simp)
  | some y =>
    have h1 : y.1.x = z.1.x := by simpa using List.find?_some e
    rw [zip_uniq hn (List.mem_of_find?_eq_some e) hz h1]
    rfl
theorem zlook : ∀ (l : List (Rw × Nm)) (x : Nm), look (l.map fun z => (.inr z.1.x.s : Key)) (l.map fun z => nP z.2) (.inr x.s) = (l.find? fun z => decide (z.1.x = x)).map fun z => nP z.2 := by
  intro l x
  unfold look
  induction l with
  | nil => rfl
  | cons r l ih =>
    simp only [List.map_cons, List.zip_cons_cons, List.find?_cons]
    have e : decide ((Sum.inr r.1.x.s : Key) = .inr x.s) = decide (r.1.x = x) := by
      simp only [Sum.inr.injEq, Nm.eq_iff]
    rw [e]
    cases hq : decide (r.1.x = x) with
    | true => simp
    | false => exact ih
theorem o_st {rs : List Rw} {ps : List Nm} {x : Nm} (hl : rs.length = ps.length) (h : x ∈ nm rs) : pIx (sdP rs ps) (nP x) = some (nP (stOf rs ps x)) := by
  show look ((rs.zip ps).map fun z => (.inr z.1.x.s : Key)) ((rs.zip ps).map fun z => nP z.2) (.inr x.s) = _
  rw [zlook]
  obtain ⟨z, hz, rfl⟩ := zip_of hl h
  unfold stOf
  cases e : (rs.zip ps).find? fun y => decide (y.1.x = z.1.x) with
  | none => exact absurd (List.find?_eq_none.mp e z hz) (by simp)
  | some y => rfl
local macro_rules | `(tactic| array_get_dec) => `(tactic| first
  | with_reducible exact o_r0
  | with_reducible exact o_r1
  | with_reducible exact o_r2
  | with_reducible exact o_r3)
theorem statuses {o : Ob} {T : Sto} {rs : List Rw} {ps : List Nm} (h : WOk rs) (hl : rs.length = ps.length) : F_statuses_by_step [.v (wkP rs), .v (tN ps)] (o :: T) = .ok (.v (sdP rs ps)) (o :: T) := by
  have hz := zip_len (ps := ps) h
  have hn : (((rs.zip ps).filter fun _ => true).map fun z => (.inr z.1.x.s : Key)).Nodup := by
    rw [filter_yes]
    have h2 : ((nm rs).map fun x : Nm => (.inr x.s : Key)).Nodup := List.Pairwise.map _ (fun a b h e => h (Nm.inj (Sum.inr.inj e))) h.nd
    have e : (rs.zip ps).map (fun z => (.inr z.1.x.s : Key)) = (nm rs).map fun x : Nm => (.inr x.s : Key) := by
      conv => rhs; rw [← zip_fst hl]
      unfold nm
      rw [List.map_map, List.map_map]
      rfl
    rw [e]
    exact h2
  refine e_run ?_
  show (B_statuses_by_step [some (.v (wkP rs)), some (.v (tN ps)), none, none] _).F _
  unfold B_statuses_by_step
  refine s_RetE (S1 := o :: (T ++ [])) (e_dc (xs := rs.zip ps) (f := fun z => .tup [rwP z.1, nP z.2]) (q := fun _ => true) (kp := fun z => nP z.1.x) (kk := fun z => .inr z.1.x.s) (hh := fun z => nP z.2) (own := none) (e_zpS (by repeat' array_get_dec) (by repeat' array_get_dec) (t1 := true) (t2 := true) rfl hl) own_none (by omega) ?_ hn) ?_
  · intro z hz'
    apply e_bodyD
    · repeat' array_get_dec
    · repeat' array_get_dec
    · exact fun _ => e_f2 (e_var rfl) e_c (e_l2 rfl rfl (o_r0 (r := z.1)))
    · exact fun _ => rfl
    · exact fun _ => e_var rfl
  · refine e_closeT ?_
    rw [filter_yes]
def lacks (w st : Nm) (r : Rw) : Bool := if (decide (w.s = "attempt") && decide (st.s = "open")) = true then false else !decide (need w ∈ r.ab)
def why (rs : List Rw) (ps : List Nm) (w x : Nm) : P :=
  if (!decide (stOf rs ps x ∈ mov w)) = true then .str "status"
  else if lacks w (stOf rs ps x) (rowOf rs x) = true then .str "ability"
  else if (decide (w.s = "attempt") && (decide ((stOf rs ps x).s = "open") && !((rowOf rs x).ne.all fun y => decide ((stOf rs ps y).s = "done")))) = true then .str "needs"
  else if (!decide (w.s = "undo")) = true then .non
  else if (rs.any fun r => decide (x ∈ r.ne) && decide (r.x ∈ upS rs ps)) = true then .str "needed"
  else if ((rowOf rs x).se.any fun y => decide (y ∈ upS rs ps)) = true then .str "sealed" else .non
def Clo (rs : List Rw) : Prop := ∀ r ∈ rs, ∀ y ∈ r.ne, y ∈ nm rs
end GM
namespace GM
open PySem PySem.Spec PyProof.Rows L2 DL GA
local macro_rules | `(tactic| array_get_dec) => `(tactic| first
  | (focus ((with_reducible (show deP _ _ = _)); exact rfl))
  | (focus ((with_reducible (show seqOf _ _ = _)); exact rfl))
  | (focus ((with_reducible (show truP _ = _)); exact rfl))
  | (focus ((with_reducible (show pIx _ _ = _)); exact rfl))
  | (focus ((with_reducible (show pKey _ = _)); exact rfl))
  | (focus ((with_reducible (show bLen _ = _)); exact rfl))
  | (focus ((with_reducible (show bInt _ = _)); exact rfl))
  | (focus ((with_reducible (show bList _ = _)); exact rfl))
  | (focus ((with_reducible (show pAdd (.int _) (.int _) = _)); exact rfl))
  | (focus ((with_reducible (show pSub (.int _) (.int _) = _)); exact rfl))
  | (focus ((with_reducible (show pLt (.int _) (.int _) = _)); exact rfl))
  | (focus ((with_reducible (show pLe (.int _) (.int _) = _)); exact rfl))
  | (focus ((with_reducible (show pGt (.int _) (.int _) = _)); exact rfl))
  | (focus ((with_reducible (show pGe (.int _) (.int _) = _)); exact rfl))
  | (focus ((with_reducible (show List.length _ = _)); exact rfl))
  | (focus ((with_reducible (show pSl _ _ _ = _)); exact rfl))
  | (focus ((with_reducible (show pIsN _ _ = _)); exact rfl))
  | (focus ((with_reducible (show pNotN _ _ = _)); exact rfl))
  | (focus ((with_reducible (show pNeg _ = _)); exact rfl))
  | (focus ((with_reducible (show setD _ _ _ _ = _)); exact rfl))
  | with_reducible exact rfl)
local macro_rules | `(tactic| array_get_dec) => `(tactic| first
  | (focus ((with_reducible show _ = _); with_reducible assumption))
  | (focus (with_reducible apply e_l2))
  | with_reducible exact o_eqN
  | with_reducible exact o_neN
  | with_reducible exact o_eqT
  | with_reducible exact o_neT
  | with_reducible exact o_eqT0
  | with_reducible exact o_neT0
  | with_reducible exact o_eqLs0
  | with_reducible exact o_neLs0
  | with_reducible exact o_inT
  | with_reducible exact o_inLs
  | with_reducible exact o_niT
  | with_reducible exact o_niLs
  | with_reducible exact o_eqI
  | with_reducible exact o_neI
  | with_reducible exact o_eqL (by decide +kernel)
  | with_reducible exact o_neL (by decide +kernel)
  | with_reducible exact o_inW (by decide +kernel)
  | with_reducible exact o_niW (by decide +kernel)
  | with_reducible exact o_in1 (by decide +kernel)
  | with_reducible exact o_in2 (by decide +kernel) (by decide +kernel)
  | with_reducible exact o_in3 (by decide +kernel) (by decide +kernel) (by decide +kernel)
  | with_reducible exact o_ni1 (by decide +kernel)
  | with_reducible exact o_ni2 (by decide +kernel) (by decide +kernel)
  | with_reducible exact o_addT1 (by first | omega | (simp; omega))
  | with_reducible exact o_addT (by first | omega | (simp; omega))
  | with_reducible exact o_addLs (by first | omega | (simp; omega))
  | with_reducible exact o_addTp (by first | omega | (simp; omega))
  | with_reducible exact o_tupleN
  | with_reducible exact o_tuple)
local macro_rules | `(tactic| array_get_dec) => `(tactic| first
  | with_reducible exact e_c
  | ((with_reducible apply e_var); (exact rfl))
  | with_reducible apply e_f2
  | with_reducible exact e_nil
  | with_reducible apply e_cons
  | with_reducible apply e_tup
  | with_reducible apply e_lst
  | with_reducible apply e_lstB
  | with_reducible apply e_cb
  | with_reducible apply e_cbB
  | with_reducible apply e_tru
  | with_reducible exact e_yes
  | with_reducible apply e_and
  | with_reducible apply e_or
  | with_reducible apply e_not
  | with_reducible apply e_iteB
  | with_reducible apply e_ite
  | with_reducible apply e_andV
  | with_reducible apply e_orV
  | with_reducible apply e_notV
  | with_reducible apply e_f1
  | with_reducible apply e_call
  | with_reducible apply e_callN
  | with_reducible apply e_sl
  | with_reducible exact e_oNo
  | with_reducible apply e_oAt
  | with_reducible apply e_iv
  | with_reducible apply e_lcA
  | with_reducible apply e_lc
  | with_reducible apply e_lcB
  | with_reducible apply e_rg
  | with_reducible apply e_rg2
  | ((with_reducible apply e_mt); (exact rfl); (exact rfl))
  | with_reducible exact e_gNm
  | with_reducible exact e_gNl
  | with_reducible apply e_gCn
  | (focus ((with_reducible (show gTp _ _ _ _ _ = _)); (apply e_gTp); (exact rfl)))
  | (with_reducible (intro _ _; apply e_body))
  | with_reducible exact v_nil
  | with_reducible apply v_cons
  | with_reducible exact a_nil
  | ((with_reducible apply a_cons); (first | exact deP_bx rfl | exact deP_bxD rfl | exact rfl))
  | with_reducible exact deP_bx rfl
  | with_reducible exact deP_bxD rfl
  | with_reducible exact own_none
  | with_reducible exact own_bx rfl
  | (focus (show _ ≤ (100000 : Nat); first | decide | omega | (simp; done) | (simp; omega)))
  | (focus (show _ < (100000 : Nat); first | omega | (simp; omega) | (refine Nat.lt_of_le_of_lt (List.length_filter_le _ _) ?_; omega)))
  | with_reducible exact o_app (by first | omega | (simp; omega))
  | with_reducible exact o_ext rfl (by first | omega | (simp; omega))
  | (with_reducible intro _))
local macro_rules | `(tactic| array_get_dec) => `(tactic| first
  | with_reducible exact o_r0
  | with_reducible exact o_r1
  | with_reducible exact o_r2
  | with_reducible exact o_r3)
def reop (ab : List Nm) : Nm := if has "again" ab = true then sOpen else sDead
def stAfter (w st : Nm) (ab : List Nm) (out : Nm) : Nm :=
  if out.s = "silent" then sMaybe
  else if w.s = "undo" then (if out.s = "yes" then reop ab else st)
  else if out.s = "yes" then sDone
  else if w.s = "attempt" ∧ st.s = "maybe" then st else reop ab
def posAfter (rs : List Rw) (ps : List Nm) (w x out : Nm) : List Nm := (rs.zip ps).map fun z => if z.1.x = x then stAfter w z.2 z.1.ab out else z.2
theorem o_repN {x : Nm} {n : Nat} (h1 : 1 ≤ n) (h2 : n ≤ 1000) : pMul (.tup [nP x]) (.int n) = some (tN (List.replicate n x)) := by
  by_cases h : n = 1
  · subst h
    rfl
  · show (if _ then _ else _ : Option P) = _
    rw [if_pos ⟨(by show (1 : Nat) ≤ 1000; decide), by simp, by omega, by omega⟩]
    congr 2
    rw [show ((n : Int)).toNat = n by omega, List.map_replicate]
    clear h h1 h2
    induction n with
    | zero => rfl
    | succ n ih => rw [List.replicate_succ, List.flatten_cons, ih, List.replicate_succ]; rfl
theorem start_of {o : Ob} {T : Sto} {rs : List Rw} (h : WOk rs) (h1 : 1 ≤ rs.length) : F_start_of [.v (wkP rs)] (o :: T) = .ok (.v (tN (List.replicate rs.length sOpen))) (o :: T) := by
  have hl := h.len
  have elen : bLen [wkP rs] = some (.int rs.length) := by
    show some (P.int (rs.map rwP).length) = _
    rw [List.length_map]
  refine e_run ?_
  show (B_start_of [some (.v (wkP rs))] _).F _
  unfold B_start_of
  exact s_RetE (S1 := o :: (T ++ [])) (e_f2 (e_tup (ds := [.v (nP sOpen)]) (e_cons e_c e_nil) rfl (by show (1 : Nat) ≤ 100000; decide)) (e_cb (e_cons (e_var rfl) e_nil) (a_cons rfl a_nil) elen) (e_l2 rfl rfl (o_repN h1 (by omega)))) e_close
end GM
namespace FM
open PySem PySem.Spec PyProof.Rows L2 DL GA GM
open FA (F__law_names F__law_entry AOk)
theorem kvP_map {α : Type} {f : α → Nm} {g : α → P} : ∀ xs : List α, kvP (xs.map fun x => .tup [nP (f x), g x]) = some (xs.map fun x => (.inr (f x).s, g x))
  | [] => rfl
  | x :: xs => by
    show (match pKey (nP (f x)), kvP (xs.map fun x => .tup [nP (f x), g x]) with
      | some k, some kvs => some ((k, g x) :: kvs)
      | _, _ => none) = _
    rw [kvP_map xs]
    rfl
theorem fold_nd : ∀ (kvs : List (Key × P)) (ks : List Key) (ps : List P), ks.length = ps.length → (ks ++ kvs.map (·.1)).Nodup → kvs.foldl (fun a kv => putP a.1 a.2 kv.1 kv.2) (ks, ps) = (ks ++ kvs.map (·.1), ps ++ kvs.map (·.2))
  | [], ks, ps, _, _ => by simp
  | kv :: kvs, ks, ps, hl, hn => by
    have hk : kv.1 ∉ ks := fun h => by
      have := List.nodup_append.mp hn
      exact this.2.2 _ h kv.1 (by simp) rfl
    rw [List.foldl_cons, put_new hk hl, fold_nd kvs _ _ (by simp [hl]) (by simpa using hn)]
    simp
theorem merge_nd {kvs : List (Key × P)} (hn : (kvs.map (·.1)).Nodup) : mergeP kvs = (kvs.map (·.1), kvs.map (·.2)) := by
  have := fold_nd kvs [] [] rfl (by simpa using hn)
  rw [List.nil_append, List.nil_append] at this
  exact this
theorem zip_range {rs : List Rw} {ps : List Nm} (hl : rs.length = ps.length) : rs.zip ps = (List.range rs.length).map fun i => (rs.getD i default, ps.getD i default) := by
  refine List.ext_getElem (by simp; omega) fun i h1 h2 => ?_
  have hi : i < rs.length := by rw [List.length_zip] at h1; omega
  simp [List.getD_eq_getElem?_getD, List.getElem?_eq_getElem hi, List.getElem?_eq_getElem (show i < ps.length by omega)]
theorem zip_nd {rs : List Rw} {ps : List Nm} (hn : (nm rs).Nodup) (hl : rs.length = ps.length) : ((rs.zip ps).map fun z => (.inr z.1.x.s : Key)).Nodup := by
  have h2 : ((nm rs).map fun x : Nm => (.inr x.s : Key)).Nodup := List.Pairwise.map _ (fun a b h e => h (Nm.inj (Sum.inr.inj e))) hn
  have e : (rs.zip ps).map (fun z => (.inr z.1.x.s : Key)) = (nm rs).map fun x : Nm => (.inr x.s : Key) := by
    conv => rhs; rw [← zip_fst hl]
    unfold nm
    rw [List.map_map, List.map_map]
    rfl
  rw [e]
  exact h2
theorem at_row {rs : List Rw} {i : Nat} (h : i < rs.length) : pIx (wkP rs) (.int (i : Int)) = some (rwP (rs.getD i default)) := (o_ix (f := rwP) (a := rs.getD i default) (by rw [List.getD_eq_getElem?_getD, List.getElem?_eq_getElem h]; rfl)).2
theorem at_nm {ps : List Nm} {i : Nat} (h : i < ps.length) : pIx (tN ps) (.int (i : Int)) = some (nP (ps.getD i default)) := (o_ix (f := nP) (a := ps.getD i default) (by rw [List.getD_eq_getElem?_getD, List.getElem?_eq_getElem h]; rfl)).2
theorem o_bdict {rs : List Rw} {ps : List Nm} (h : WOk rs) (hl : rs.length = ps.length) : bDict [.lst ((List.range rs.length).map fun i => .tup [nP (rs.getD i default).x, nP (ps.getD i default)])] = some (sdP rs ps) := by
  have e : ((List.range rs.length).map fun i => P.tup [nP (rs.getD i default).x, nP (ps.getD i default)]) = (rs.zip ps).map fun z => .tup [nP z.1.x, nP z.2] := by
    rw [zip_range hl, List.map_map]
    rfl
  have hz := zip_len (ps := ps) h
  rw [e]
  unfold bDict
  simp only [kvP_map (f := fun z : Rw × Nm => z.1.x) (g := fun z => nP z.2)]
  rw [if_pos (by rw [List.length_map]; omega), merge_nd (by rw [List.map_map]; exact zip_nd h.nd hl), List.map_map, List.map_map]
  rfl
noncomputable abbrev sdE (i : Nat) : FE := fCb bDict (fCons (fLc (iR1 (fCons (fCb bLen (fCons (fVar 0) fNil)) fNil)) (gNm i) fYes (fTup (fCons (f2 pIx (f2 pIx (fVar 0) (fVar i)) (fC (.v (.int 0)))) (fCons (f2 pIx (fVar 1) (fVar i)) fNil))) [i]) fNil)
theorem sdict {i : Nat} {env : Dnv} {o : Ob} {T : Sto} {rs : List Rw} {ps : List Nm} (h : WOk rs) (hl : rs.length = ps.length) (h0 : env[0]? = some (some (.v (wkP rs)))) (h1 : env[1]? = some (some (.v (tN ps)))) (hi : 2 ≤ i) (hi2 : i < env.length) :
    sdE i env (o :: T) = .ok (.v (sdP rs ps)) (o :: T) := by
  have hlen := h.len
  have e1 : bLen [wkP rs] = some (.int rs.length) := by
    show some (P.int (rs.map rwP).length) = _
    rw [List.length_map]
  refine e_cb (e_cons (e_lcA (xs := List.range rs.length) (f := fun i : Nat => P.int (i : Int)) (own := none) (hh := fun i => .tup [nP (rs.getD i default).x, nP (ps.getD i default)]) (S1 := o :: T) (e_rg (n := (rs.length : Int)) (e_cons (e_cb (e_cons (e_var h0) e_nil) (a_cons rfl a_nil) e1) e_nil) (by omega) (by omega)) own_none (by rw [List.length_range]; omega) fun k hk => ?_) e_nil) (a_cons rfl a_nil) (o_bdict h hl)
  have hk := List.mem_range.mp hk
  have w0 : ∀ d : D, ((wipeE env [i]).set i (some d))[0]? = some (some (.v (wkP rs))) := fun d => by
    show ((env.set i none).set i (some d))[0]? = _
    rw [List.getElem?_set_ne (by omega), List.getElem?_set_ne (by omega), h0]
  have w1 : ∀ d : D, ((wipeE env [i]).set i (some d))[1]? = some (some (.v (tN ps))) := fun d => by
    show ((env.set i none).set i (some d))[1]? = _
    rw [List.getElem?_set_ne (by omega), List.getElem?_set_ne (by omega), h1]
  have wi : ∀ d : D, ((wipeE env [i]).set i (some d))[i]? = some (some d) := fun d => by
    show ((env.set i none).set i (some d))[i]? = _
    rw [List.getElem?_set_self (by rw [List.length_set]; exact hi2)]
  exact e_body e_gNm e_yes fun _ => e_tup (ds := [.v (nP (rs.getD k default).x), .v (nP (ps.getD k default))]) (e_cons (e_f2 (e_f2 (e_var (w0 _)) (e_var (wi _)) (e_l2 rfl rfl (at_row hk))) e_c (e_l2 rfl rfl o_r0)) (e_cons (e_f2 (e_var (w1 _)) (e_var (wi _)) (e_l2 rfl rfl (at_nm (by omega)))) e_nil)) rfl (by show (2 : Nat) ≤ 100000; decide)
theorem e_dic {l : FKs} {env : Dnv} {S S1 : Sto} {kvs : List (Key × P)} (h : kvF l env S = .ok kvs S1) (hl : kvs.length ≤ 15) (hn : (kvs.map (·.1)).Nodup) : fDic l env S = .ok (.v (.dic (kvs.map (·.1)) (kvs.map (·.2)))) S1 := by
  unfold fDic
  rw [h]
  show (if kvs.length ≤ 15 then Oc.ok (D.v (.dic (mergeP kvs).1 (mergeP kvs).2)) S1 else .bad) = _
  rw [if_pos hl, merge_nd hn]
end FM
namespace GA
open PySem PySem.Spec PyProof.Rows L2 DL
def asort (xs : List Nm) : List Nm := xs.mergeSort leN
theorem asort_map (xs : List Nm) : (asort xs).map nP = srt (xs.map nP) := List.map_mergeSort fun _ _ _ _ => rfl
theorem asort_perm (xs : List Nm) : (asort xs).Perm xs := List.mergeSort_perm _ _
theorem asort_mem {xs : List Nm} {x : Nm} : x ∈ asort xs ↔ x ∈ xs := (asort_perm xs).mem_iff
theorem asort_le (xs : List Nm) : (asort xs).Pairwise fun a b => leN a b = true := List.pairwise_mergeSort (le := leN) (fun a b c => leN_trans) (fun a b => Bool.or_eq_true_iff.mpr (leN_total a b)) xs
theorem asort_asc {xs : List Nm} (h : xs.Nodup) : Asc (asort xs) := ⟨asort_le xs, (asort_perm xs).nodup_iff.mpr h⟩
theorem cmp_nm (xs : List Nm) : Cmp (xs.map nP) := by
  have := cmp_strs (ks := xs.map (·.s)) fun k hk => by
    obtain ⟨x, _, rfl⟩ := List.mem_map.mp hk
    exact x.ok.1
  rwa [← strs_nm] at this
theorem asort_eq {xs ys : List Nm} (h : xs.Perm ys) : asort xs = asort ys := by
  refine nP_map.mp ?_
  rw [asort_map, asort_map]
  exact srt_eq (h.map nP) (cmp_nm xs)
theorem asort_of {xs : List Nm} (h : Asc xs) : asort xs = xs := asc_eq (asort_asc h.nd) h fun _ => asort_mem
theorem asort_is {xs ys : List Nm} (h : xs.Perm ys) (ha : Asc ys) : asort xs = ys := (asort_eq h).trans (asort_of ha)
theorem o_sortL {xs : List Nm} (hl : xs.length ≤ 100000) : bSorted [lN xs] = some (lN (asort xs)) := by
  obtain ⟨ys, h1, _⟩ := sorted_strs (xs := xs.map (·.s)) (by simpa using hl)
  have e : bSorted [lN xs] = some (.lst (srt (xs.map nP))) := by
    refine sorted_of (toPys_nm xs) ?_ ?_ (by simpa using hl) ?_
    · unfold alikeB
      simp only [List.all_eq_true, List.mem_map]
      rintro _ ⟨x, _, rfl⟩ _ ⟨y, _, rfl⟩
      simp [PySem.W.alike]
    · unfold sortableB
      rw [Bool.or_eq_true]
      right
      simp only [List.all_eq_true, List.mem_map]
      rintro _ ⟨x, _, rfl⟩
      rfl
    · simp only [List.mem_map]
      rintro _ ⟨x, _, rfl⟩
      exact Nat.zero_le _
  rw [e, ← asort_map]
theorem o_sortT {xs : List Nm} (hl : xs.length ≤ 100000) : bSorted [tN xs] = some (lN (asort xs)) := o_sortL hl
theorem tN_st (xs : List Nm) : tN xs = stP (xs.map (·.s)) := by
  unfold stP
  rw [List.map_map]
  rfl
theorem tNs_st (xss : List (List Nm)) : xss.map tN = (xss.map fun xs => xs.map (·.s)).map stP := by
  rw [List.map_map]
  exact List.map_congr_left fun xs _ => tN_st xs
theorem ok_nms {xss : List (List Nm)} : ∀ xs ∈ (xss.map fun xs => xs.map (·.s)), ∀ x ∈ xs, PyData.strOk x = true := fun xs h x hx => by
  obtain ⟨ys, _, rfl⟩ := List.mem_map.mp h
  obtain ⟨y, _, rfl⟩ := List.mem_map.mp hx
  exact y.ok.1
theorem cmp_tN (xss : List (List Nm)) : Cmp (xss.map tN) := by
  rw [tNs_st]
  exact cmp_st ok_nms
def leT (a b : List Nm) : Bool := PySem.W.dataLe false pyOf (tN a) (tN b)
def tsort (xss : List (List Nm)) : List (List Nm) := xss.mergeSort leT
theorem tsort_map (xss : List (List Nm)) : (tsort xss).map tN = srt (xss.map tN) := List.map_mergeSort fun _ _ _ _ => rfl
theorem tsort_perm (xss : List (List Nm)) : (tsort xss).Perm xss := List.mergeSort_perm _ _
theorem tN_map {xss yss : List (List Nm)} : xss.map tN = yss.map tN ↔ xss = yss := ⟨fun h => (List.map_inj_right fun _ _ e => tN_inj.mp e).mp h, fun h => h ▸ rfl⟩
theorem tsort_eq {xss yss : List (List Nm)} (h : xss.Perm yss) : tsort xss = tsort yss := by
  refine tN_map.mp ?_
  rw [tsort_map, tsort_map]
  exact srt_eq (h.map tN) (cmp_tN xss)
theorem o_sortTs {xss : List (List Nm)} (hl : xss.length ≤ 100000) : bSorted [.lst (xss.map tN)] = some (.lst ((tsort xss).map tN)) := by
  rw [tsort_map]
  have hc := cmp_tN xss
  refine sorted_of (pyAll_of hc.1) ?_ ?_ (by simpa using hl) ?_
  · unfold alikeB
    simp only [List.all_eq_true, List.mem_map]
    rintro _ ⟨p, hp, rfl⟩ _ ⟨q, hq, rfl⟩
    exact hc.2 p (by simpa using hp) q (by simpa using hq)
  · unfold sortableB
    rw [Bool.or_eq_true]
    left
    simp only [List.all_eq_true, List.mem_map]
    rintro _ ⟨p, ⟨xs, hx, rfl⟩, rfl⟩
    rw [tN_st, py_st]
  · simp only [List.mem_map]
    rintro _ ⟨p, ⟨xs, hx, rfl⟩, rfl⟩
    rw [tN_st, py_st]
    have dep : ∀ xs : List Str, PyData.depthAll (xs.map PyData.str) = 0 := fun xs => by
      induction xs with
      | nil => rfl
      | cons x xs ih => simp [PyData.depthAll, PyData.depth, ih]
    show PyData.depthAll _ + 1 ≤ 64
    rw [dep]
    omega
end GA
namespace FA
open PySem PySem.Spec PyProof.Rows L2 DL GA
def fx0 : List Rw := [⟨lit "a", [], [], []⟩]
def fx1 : List Rw := [⟨lit "a", [], [], [lit "again", lit "ask"]⟩,
    ⟨lit "ab", [lit "a"], [], [lit "again", lit "ask"]⟩,
    ⟨lit "b", [lit "ab"], [], [lit "again", lit "ask"]⟩,
    ⟨lit "book", [lit "b"], [], [lit "again", lit "ask"]⟩,
    ⟨lit "call", [lit "book"], [], [lit "again", lit "ask"]⟩,
    ⟨lit "pay", [lit "call"], [], [lit "again", lit "ask"]⟩,
    ⟨lit "ship", [lit "pay"], [], [lit "again", lit "ask"]⟩,
    ⟨lit "zzzzzzzz", [lit "ship"], [], [lit "again", lit "ask"]⟩]
def fx2 : List Rw := [⟨lit "a", [], [lit "ab", lit "zzzzzzzz"], [lit "undo"]⟩,
    ⟨lit "ab", [], [lit "a", lit "b"], [lit "undo"]⟩,
    ⟨lit "b", [], [lit "ab", lit "book"], [lit "undo"]⟩,
    ⟨lit "book", [], [lit "b", lit "call"], [lit "undo"]⟩,
    ⟨lit "call", [], [lit "book", lit "pay"], [lit "undo"]⟩,
    ⟨lit "pay", [], [lit "call", lit "ship"], [lit "undo"]⟩,
    ⟨lit "ship", [], [lit "pay", lit "zzzzzzzz"], [lit "undo"]⟩,
    ⟨lit "zzzzzzzz", [], [lit "a", lit "ship"], [lit "undo"]⟩]
def fx3 : List Rw := [⟨lit "a", [], [], [lit "again", lit "ask", lit "repeat", lit "undo"]⟩,
    ⟨lit "ab", [], [], [lit "again", lit "ask", lit "repeat", lit "undo"]⟩,
    ⟨lit "b", [], [], [lit "again", lit "ask", lit "repeat", lit "undo"]⟩,
    ⟨lit "book", [], [], [lit "again", lit "ask", lit "repeat", lit "undo"]⟩,
    ⟨lit "call", [], [], [lit "again", lit "ask", lit "repeat", lit "undo"]⟩,
    ⟨lit "pay", [], [], [lit "again", lit "ask", lit "repeat", lit "undo"]⟩,
    ⟨lit "ship", [], [], [lit "again", lit "ask", lit "repeat", lit "undo"]⟩,
    ⟨lit "zzzzzzzz", [], [], [lit "again", lit "ask", lit "repeat", lit "undo"]⟩]
def fx4 : List Rw := [⟨lit "a", [lit "ab", lit "b", lit "book"], [], []⟩,
    ⟨lit "ab", [lit "b", lit "book", lit "call"], [lit "a"], []⟩,
    ⟨lit "b", [lit "book", lit "call", lit "pay"], [lit "a", lit "ab"], []⟩,
    ⟨lit "book", [lit "call", lit "pay", lit "ship"], [lit "a", lit "ab", lit "b"], []⟩,
    ⟨lit "call", [lit "pay", lit "ship", lit "zzzzzzzz"], [lit "a", lit "ab", lit "b", lit "book"], []⟩,
    ⟨lit "pay", [lit "ship", lit "zzzzzzzz"], [lit "a", lit "ab", lit "b", lit "book", lit "call"], []⟩,
    ⟨lit "ship", [lit "zzzzzzzz"], [lit "a", lit "ab", lit "b", lit "book", lit "call", lit "pay"], []⟩,
    ⟨lit "zzzzzzzz", [], [lit "a", lit "ab", lit "b", lit "book", lit "call", lit "pay", lit "ship"], []⟩]
def fx5 : List Rw := [⟨lit "flight", [], [], [lit "undo"]⟩,
    ⟨lit "hotel", [], [lit "flight"], [lit "undo"]⟩,
    ⟨lit "mail", [lit "pay"], [], [lit "again", lit "repeat"]⟩,
    ⟨lit "pay", [lit "flight", lit "hotel"], [], [lit "ask"]⟩]
def fxW : List (List Rw) := [fx0, fx1, fx2, fx3, fx4, fx5]
theorem rg8 {i : Nat} (h : i ∈ List.range 8) : i = 0 ∨ i = 1 ∨ i = 2 ∨ i = 3 ∨ i = 4 ∨ i = 5 ∨ i = 6 ∨ i = 7 := by
  have := List.mem_range.mp h
  omega
theorem o_sort2 {a b : Nm} (h : leN a b = true) (hn : a ≠ b) : bSorted [.lst [nP a, nP b]] = some (.lst [nP a, nP b]) ∧ bSorted [.lst [nP b, nP a]] = some (.lst [nP a, nP b]) := by
  have ha : Asc [a, b] := ⟨by simpa using h, by simpa using hn⟩
  have h1 : bSorted [lN [a, b]] = some (lN (asort [a, b])) := o_sortL (by show (2 : Nat) ≤ 100000; decide)
  have h2 : bSorted [lN [b, a]] = some (lN (asort [b, a])) := o_sortL (by show (2 : Nat) ≤ 100000; decide)
  rw [asort_of ha] at h1
  rw [asort_is (List.Perm.swap a b []) ha] at h2
  exact ⟨h1, h2⟩
theorem rg8E {env : Dnv} {S : Sto} : iR1 (fCons (fC (.v (.int 8))) fNil) env S = .ok ((List.range 8).map (fun i : Nat => P.int (i : Int)), none) S := e_rg (n := 8) (e_cons e_c e_nil) (by decide) (by decide)
theorem leB {a b : Nm} (h : leN a b = true ∧ a.s ≠ b.s) : leN a b = true ∧ a ≠ b := ⟨h.1, fun e => h.2 (congrArg Nm.s e)⟩
def ringE : FE := fCb bTuple (fCons (fCb bSorted (fCons (fLst (fCons (f2 pIx (fVar 0) (f2 pSub (fVar 2) (fC (.v (.int 1))))) (fCons (f2 pIx (fVar 0) (f2 pMod (f2 pAdd (fVar 2) (fC (.v (.int 1)))) (fC (.v (.int 8))))) fNil))) fNil)) fNil)
theorem ring_se {env : Dnv} {S : Sto} {k : Int} {a b : Nm} {ys : List Nm} (h0 : env[0]? = some (some (.v (tN poolA)))) (h2 : env[2]? = some (some (.v (.int k)))) (e1 : pIx (tN poolA) (.int (k - 1)) = some (nP a)) (e2 : pIx (tN poolA) (.int ((k + 1) % 8)) = some (nP b))
    (e3 : bSorted [.lst [nP a, nP b]] = some (lN ys)) : ringE env S = .ok (.v (tN ys)) S := by
  unfold ringE
  have em : pMod (.int (k + 1)) (.int 8) = some (.int ((k + 1) % 8)) := mod_ok (by decide)
  exact e_cb (e_cons (e_cb (e_cons (e_lst (ds := [.v (nP a), .v (nP b)]) (e_cons (e_f2 (e_var h0) (e_f2 (e_var h2) e_c (e_l2 rfl rfl rfl)) (e_l2 rfl rfl e1)) (e_cons (e_f2 (e_var h0) (e_f2 (e_f2 (e_var h2) e_c (e_l2 rfl rfl rfl)) e_c (e_l2 rfl rfl em)) (e_l2 rfl rfl e2)) e_nil)) rfl (by show (2 : Nat) ≤ 100000; decide)) e_nil) (a_cons rfl a_nil) e3) e_nil) (a_cons rfl a_nil) o_tupleN
theorem fixed (S : Sto) : F__law_fixed_works [] S = .ok (.r S.length) (S ++ [.lst (fxW.map wkP)]) := by
  refine of_P ?_
  refine p_run ?_
  show (B__law_fixed_works [none, none, none, none, none, none, none, none] _).F _
  unfold B__law_fixed_works
  refine s_Seq (s_SetE (d := .v (tN poolA)) (S1 := S) (e_tup (ds := poolA.map fun x => .v (nP x)) (e_cons e_c (e_cons e_c (e_cons e_c (e_cons e_c (e_cons e_c (e_cons e_c (e_cons e_c (e_cons e_c e_nil)))))))) rfl (by show (8 : Nat) ≤ 100000; decide)) e_gNm ?_)
  refine s_Seq (s_SetE (d := .v (wkP fx1)) (S1 := S) (e_cb (e_cons (e_lcA (xs := List.range 8) (f := fun i : Nat => P.int (i : Int)) (own := none) (hh := fun i => rwP (fx1.getD i default)) (S1 := S) rg8E own_none (by decide) fun i hi => e_body e_gNm e_yes fun _ => ?_) e_nil) (a_cons rfl a_nil) rfl) e_gNm ?_)
  · rcases rg8 hi with rfl | rfl | rfl | rfl | rfl | rfl | rfl | rfl <;> rfl
  refine s_Seq (s_SetE (d := .v (wkP fx2)) (S1 := S) (e_cb (e_cons (e_lcA (xs := List.range 8) (f := fun i : Nat => P.int (i : Int)) (own := none) (hh := fun i => rwP (fx2.getD i default)) (S1 := S) rg8E own_none (by decide) fun i hi => e_body e_gNm e_yes fun _ => ?_) e_nil) (a_cons rfl a_nil) rfl) e_gNm ?_)
  · have go : ∀ {env : Dnv} {k : Int} {a b : Nm} {ys : List Nm} {x : Nm}, env[0]? = some (some (.v (tN poolA))) → env[2]? = some (some (.v (.int k))) → pIx (tN poolA) (.int k) = some (nP x) → pIx (tN poolA) (.int (k - 1)) = some (nP a) → pIx (tN poolA) (.int ((k + 1) % 8)) = some (nP b) → bSorted [.lst [nP a, nP b]] = some (lN ys) →
        fTup (fCons (f2 pIx (fVar 0) (fVar 2)) (fCons (fTup fNil) (fCons ringE (fCons (fTup (fCons (fC (.v (.str "undo"))) fNil)) fNil)))) env S = .ok (.v (rwP ⟨x, [], ys, [lit "undo"]⟩)) S := fun h0 h2 e0 e1 e2 e3 =>
      e_tup (ds := [_, _, _, _]) (e_cons (e_f2 (e_var h0) (e_var h2) (e_l2 rfl rfl e0)) (e_cons (e_tup e_nil v_nil (by decide)) (e_cons (ring_se h0 h2 e1 e2 e3) (e_cons (e_tup (ds := [.v (nP (lit "undo"))]) (e_cons e_c e_nil) rfl (by show (1 : Nat) ≤ 100000; decide)) e_nil)))) rfl (by show (4 : Nat) ≤ 100000; decide)
    have le : ∀ {a b : Nm}, (leN a b = true ∧ a.s ≠ b.s) → bSorted [.lst [nP a, nP b]] = some (lN [a, b]) ∧ bSorted [.lst [nP b, nP a]] = some (lN [a, b]) := fun h => o_sort2 (leB h).1 (leB h).2
    rcases rg8 hi with rfl | rfl | rfl | rfl | rfl | rfl | rfl | rfl
    · exact go (a := lit "zzzzzzzz") (b := lit "ab") (ys := [lit "ab", lit "zzzzzzzz"]) rfl rfl rfl rfl rfl (le (by decide +kernel)).2
    · exact go (a := lit "a") (b := lit "b") (ys := [lit "a", lit "b"]) rfl rfl rfl rfl rfl (le (by decide +kernel)).1
    · exact go (a := lit "ab") (b := lit "book") (ys := [lit "ab", lit "book"]) rfl rfl rfl rfl rfl (le (by decide +kernel)).1
    · exact go (a := lit "b") (b := lit "call") (ys := [lit "b", lit "call"]) rfl rfl rfl rfl rfl (le (by decide +kernel)).1
    · exact go (a := lit "book") (b := lit "pay") (ys := [lit "book", lit "pay"]) rfl rfl rfl rfl rfl (le (by decide +kernel)).1
    · exact go (a := lit "call") (b := lit "ship") (ys := [lit "call", lit "ship"]) rfl rfl rfl rfl rfl (le (by decide +kernel)).1
    · exact go (a := lit "pay") (b := lit "zzzzzzzz") (ys := [lit "pay", lit "zzzzzzzz"]) rfl rfl rfl rfl rfl (le (by decide +kernel)).1
    · exact go (a := lit "ship") (b := lit "a") (ys := [lit "a", lit "ship"]) rfl rfl rfl rfl rfl (le (by decide +kernel)).2
  refine s_Seq (s_SetE (d := .v (wkP fx3)) (S1 := S) (e_cb (e_cons (e_lcA (xs := poolA) (f := nP) (own := none) (hh := fun x => rwP ⟨x, [], [], abN⟩) (S1 := S) (e_iv (e_var rfl) rfl) own_none (by decide) fun x hx => e_body e_gNm e_yes fun _ => ?_) e_nil) (a_cons rfl a_nil) rfl) e_gNm ?_)
  · exact e_tup (ds := [.v (nP x), .v (tN []), .v (tN []), .v (tN abN)]) (e_cons (e_var rfl) (e_cons (e_tup e_nil v_nil (by decide)) (e_cons (e_tup e_nil v_nil (by decide)) (e_cons (e_tup (ds := abN.map fun x => .v (nP x)) (e_cons e_c (e_cons e_c (e_cons e_c (e_cons e_c e_nil)))) rfl (by show (4 : Nat) ≤ 100000; decide)) e_nil)))) rfl (by show (4 : Nat) ≤ 100000; decide)
  refine s_Seq (s_SetE (d := .v (wkP fx4)) (S1 := S) (e_cb (e_cons (e_lcA (xs := List.range 8) (f := fun i : Nat => P.int (i : Int)) (own := none) (hh := fun i => rwP (fx4.getD i default)) (S1 := S) rg8E own_none (by decide) fun i hi => e_body e_gNm e_yes fun _ => ?_) e_nil) (a_cons rfl a_nil) rfl) e_gNm ?_)
  · rcases rg8 hi with rfl | rfl | rfl | rfl | rfl | rfl | rfl | rfl <;> rfl
  refine s_Seq (s_SetE (d := .v (wkP (fx5.take 2))) (S1 := S) rfl e_gNm ?_)
  refine s_Seq (s_SetE (d := .v (wkP fx5)) (S1 := S) rfl e_gNm ?_)
  refine s_Ret (p_lstB (P_of (a := fxW.map fun w => .v (wkP w)) (S := S) rfl ?_))
  refine p_lstBE (ps := fxW.map wkP) rfl (by show (6 : Nat) ≤ 100000; decide) ?_
  dsimp only
  exact p_closeK ⟨rfl, rfl⟩
def ascB : List Nm → Bool
  | [] => true
  | x :: xs => xs.all (fun y => leN x y && !decide (x.s = y.s)) && ascB xs
theorem ascB_ok : ∀ {xs : List Nm}, ascB xs = true → Asc xs
  | [], _ => Asc.nil
  | x :: xs, h => by
    obtain ⟨h1, h2⟩ := Bool.and_eq_true_iff.mp (show (xs.all (fun y => leN x y && !decide (x.s = y.s)) && ascB xs) = true from h)
    have h3 := ascB_ok h2
    have h4 : ∀ y ∈ xs, leN x y = true ∧ x ≠ y := fun y hy => by
      obtain ⟨a, b⟩ := Bool.and_eq_true_iff.mp (List.all_eq_true.mp h1 y hy)
      exact ⟨a, fun e => by simp [e] at b⟩
    exact ⟨List.pairwise_cons.mpr ⟨fun y hy => (h4 y hy).1, h3.le⟩, List.nodup_cons.mpr ⟨fun hx => (h4 x hx).2 rfl, h3.nd⟩⟩
def inB (x : Nm) (xs : List Nm) : Bool := xs.any fun y => decide (y.s = x.s)
theorem inB_ok {x : Nm} {xs : List Nm} (h : inB x xs = true) : x ∈ xs := by
  obtain ⟨y, hy, e⟩ := List.any_eq_true.mp h
  have : y = x := Nm.inj (of_decide_eq_true e)
  exact this ▸ hy
theorem inB_no {x : Nm} {xs : List Nm} (h : inB x xs = false) : x ∉ xs := fun hx => by
  have : inB x xs = true := List.any_eq_true.mpr ⟨x, hx, by simp⟩
  rw [h] at this
  cases this
def ixB : List Nm → Nm → Nat
  | [], _ => 0
  | x :: xs, y => if x.s = y.s then 0 else ixB xs y + 1
def rowB (ord ms : List Nm) (r : Rw) : Bool := ascB r.ne && r.ne.all (fun y => inB y ms && decide (ixB ord y < ixB ord r.x)) && (ascB r.se && r.se.all (fun y => inB y ms) && !inB r.x r.se) && (r.ab.isSublist abN && (!inB nRepeat r.ab || inB nAgain r.ab))
def wkB (ord : List Nm) (rs : List Rw) : Bool := decide (rs.length ≤ 8) && decide (1 ≤ rs.length) && ascB (nm rs) && rs.all (rowB ord (nm rs)) && (nm rs).all fun x => inB x poolF
theorem wkB_okp {ord : List Nm} {rs : List Rw} (h : wkB ord rs = true) : AOp rs := by
  unfold wkB rowB at h
  simp only [Bool.and_eq_true, decide_eq_true_eq, List.all_eq_true, Bool.or_eq_true, Bool.not_eq_true'] at h
  obtain ⟨⟨⟨⟨h1, h2⟩, h3⟩, h4⟩, h5⟩ := h
  exact ⟨⟨h1, h2, ascB_ok h3, fun r hr => ⟨ascB_ok (h4 r hr).1.1.1, fun y hy => inB_ok ((h4 r hr).1.1.2 y hy).1⟩, fun r hr => ⟨ascB_ok (h4 r hr).1.2.1.1, fun y hy => inB_ok ((h4 r hr).1.2.1.2 y hy), inB_no (h4 r hr).1.2.2⟩,
    ⟨fun y => (ixB ord y : Int), fun r hr y hy => by
      have := ((h4 r hr).1.1.2 y hy).2
      show (ixB ord y : Int) < (ixB ord r.x : Int)
      omega⟩, fun r hr => ⟨List.isSublist_iff_sublist.mp (h4 r hr).2.1, fun h => by
      rcases (h4 r hr).2.2 with h5 | h5
      · exact absurd h (inB_no h5)
      · exact inB_ok h5⟩⟩, fun x hx => inB_ok (h5 x hx)⟩
theorem fx_okp : ∀ rs ∈ fxW, AOp rs := by
  have h : ∀ rs ∈ fxW, wkB (poolA ++ [lit "flight", lit "hotel", lit "pay", lit "mail"]) rs = true ∨ wkB poolA.reverse rs = true ∨ wkB [lit "flight", lit "hotel", lit "pay", lit "mail"] rs = true := by decide +kernel
  intro rs hr
  rcases h rs hr with h | h | h
  · exact wkB_okp h
  · exact wkB_okp h
  · exact wkB_okp h
end FA
namespace FH
open PySem PySem.Spec PyProof.Rows L2 DL GA GM
def oYes : Nm := lit "yes"
def oNo : Nm := lit "no"
def oSil : Nm := lit "silent"
def Ou (x : Nm) : Prop := x = oYes ∨ x = oNo ∨ x = oSil
abbrev Hr := Nm × Nm × Nm
def endP (rs : List Rw) (ps : List Nm) (hs : List Hr) : List Nm := hs.foldl (fun q h => posAfter rs q h.1 h.2.1 h.2.2) ps
theorem take_add {α : Type} {xs : List α} {i : Nat} {x : α} (h : xs[i]? = some x) : xs.take (i + 1) = xs.take i ++ [x] := by
  rw [List.take_add_one, h]
  rfl
structure RowOk (rs : List Rw) (ps : List Nm) (h : Hr) : Prop where
  w : Wd h.1
  x : h.2.1 ∈ nm rs
  y : why rs ps h.1 h.2.1 = .non
  o : Ou h.2.2
def HOk (rs : List Rw) (ps : List Nm) (hs : List Hr) : Prop := ∀ i h, hs[i]? = some h → RowOk rs (endP rs ps (hs.take i)) h
def c1 (w out : Nm) : Int := if (decide (out.s = "no") && !decide (w.s = "ask")) = true then 1 else 0
def c2 (out : Nm) : Int := if decide (out.s = "silent") = true then 1 else 0
abbrev st0 (rs : List Rw) : List Nm := List.replicate rs.length sOpen
theorem st0_len {rs : List Rw} : rs.length = (st0 rs).length := by simp
def cs2 (hs : List Hr) : Int := (hs.map fun h => c2 h.2.2).sum
end FH
namespace MN
open PySem PySem.Spec PyProof.Rows L2 DL
variable [Tb]
def minP (x : P) (xs : List P) : P := xs.foldl (fun a y => if PySem.W.dataLt (pyOf y) (pyOf a) = true then y else a) x
theorem minD_minP (x : P) : ∀ xs : List P, PySem.W.minD (pyOf x) (xs.map pyOf) = pyOf (minP x xs) := fun xs => by
  unfold PySem.W.minD minP
  induction xs generalizing x with
  | nil => rfl
  | cons y ys ih =>
    rw [List.map_cons, List.foldl_cons, List.foldl_cons, ← ih]
    congr 1
    split <;> rfl
theorem minP_mem (x : P) : ∀ xs : List P, minP x xs ∈ x :: xs := fun xs => by
  unfold minP
  induction xs generalizing x with
  | nil => exact List.mem_cons_self ..
  | cons y ys ih =>
    rw [List.foldl_cons]
    split
    · exact List.mem_cons_of_mem _ (ih y)
    · rcases List.mem_cons.mp (ih x) with h | h
      · rw [h]; exact List.mem_cons_self ..
      · exact List.mem_cons_of_mem _ (List.mem_cons_of_mem _ h)
theorem le_refl (p : P) : PySem.W.dataLe false pyOf p p = true := (Bool.or_self _).symm.trans (le_total p p)
theorem le_lt (a b : P) : PySem.W.dataLe false pyOf a b = !PySem.W.dataLt (pyOf b) (pyOf a) := by
  rw [PySem.W.dataLe_eq]
  rfl
theorem minP_le (x : P) : ∀ xs : List P, ∀ y ∈ x :: xs, PySem.W.dataLe false pyOf (minP x xs) y = true := fun xs => by
  unfold minP
  induction xs generalizing x with
  | nil =>
    intro y hy
    rw [List.mem_singleton.mp hy]
    exact le_refl x
  | cons z zs ih =>
    intro y hy
    rw [List.foldl_cons]
    split
    · rename_i h
      have hzx : PySem.W.dataLe false pyOf z x = true := by
        have := le_total z x
        rw [le_lt x z, h, Bool.not_true, Bool.or_false] at this
        exact this
      rcases List.mem_cons.mp hy with rfl | hy
      · exact le_trans _ _ _ (ih z z (List.mem_cons_self ..)) hzx
      · exact ih z y hy
    · rename_i h
      have hxz : PySem.W.dataLe false pyOf x z = true := by
        rw [le_lt, Bool.not_eq_true']
        exact Bool.eq_false_iff.mpr h
      rcases List.mem_cons.mp hy with rfl | hy
      · exact ih y y (List.mem_cons_self ..)
      · rcases List.mem_cons.mp hy with rfl | hy
        · exact le_trans _ _ _ (ih x x (List.mem_cons_self ..)) hxz
        · exact ih x y (List.mem_cons_of_mem _ hy)
theorem minP_is {x : P} {xs : List P} (hc : Cmp (x :: xs)) {m : P} (hm : m ∈ x :: xs) (h : ∀ y ∈ x :: xs, PySem.W.dataLe false pyOf m y = true) : minP x xs = m := by
  have h1 := minP_mem x xs
  exact le_anti (hc.1 _ h1) (hc.1 _ hm) (hc.2 _ h1 _ hm) (minP_le x xs m hm) (h _ h1)
def someD : PyData → Bool
  | .none => false
  | _ => true
def bMin1 : List P → Option P
  | [.lst (x :: xs)] => if ((x :: xs).all pl) = true ∧ alikeB ((x :: xs).map pyOf) = true ∧ (((x :: xs).map pyOf).all fun d => decide (d.depth ≤ 64)) = true ∧ (((x :: xs).map pyOf).all someD) = true then some (minP x xs) else none
  | [.tup (x :: xs)] => if ((x :: xs).all pl) = true ∧ alikeB ((x :: xs).map pyOf) = true ∧ (((x :: xs).map pyOf).all fun d => decide (d.depth ≤ 64)) = true ∧ (((x :: xs).map pyOf).all someD) = true then some (minP x xs) else none
  | _ => none
theorem bMin1_tup (ps : List P) : bMin1 [.tup ps] = bMin1 [.lst ps] := by cases ps <;> rfl
theorem depthAll_le {n : Nat} : ∀ {ds : List PyData}, (∀ d ∈ ds, d.depth ≤ n) → PyData.depthAll ds ≤ n
  | [], _ => Nat.zero_le _
  | d :: ds, h => by
    show max d.depth (PyData.depthAll ds) ≤ n
    exact Nat.max_le.mpr ⟨h d (List.mem_cons_self ..), depthAll_le fun e he => h e (List.mem_cons_of_mem _ he)⟩
def rMin1 (K : PySem.W.Frag) : List V → Hp → VK → Prop := fun xs H Q => ∃ a ys m ps u, xs = [.ref a] ∧ (SqL K H a ys ∨ SqT K H a ys) ∧ IsAll K (mask m H) ps ys ∧ bMin1 [.lst ps] = some u ∧ ∀ v, Is K (mask m H) u v → Q v H
theorem isAll_at {K : PySem.W.Frag} {G : Hp} : ∀ {ps : List P} {vs : List V} {i : Nat} {v : V}, IsAll K G ps vs → vs[i]? = some v → ∃ p, ps[i]? = some p ∧ Is K G p v
  | [], _, _, _, h, e => by
    have h' : _ = [] := h
    subst h'
    simp at e
  | p :: ps, _, 0, v, ⟨x, xs, h1, h2, h3⟩, e => by
    subst h1
    cases e
    exact ⟨p, rfl, h2⟩
  | p :: ps, _, i + 1, v, ⟨x, xs, h1, h2, h3⟩, e => by
    subst h1
    have e' : xs[i]? = some v := e
    obtain ⟨q, h4, h5⟩ := isAll_at (ps := ps) h3 e'
    exact ⟨q, h4, h5⟩
theorem cr_min1 {X : Cx} (hc : X.calm = true) (hX : SX X) : CallR X (.builtin "min") (rMin1 X.K) := by
  intro pins s σ H vs us Q I r h
  obtain ⟨a, ys, m, ps, u, rfl, hs, hi, hb, q⟩ := h
  obtain ⟨its, rv, hl, hz⟩ : ∃ its : List Value, Vals ys its ∧ (PlainL s.heap a its.toArray ∨ IsTup s.heap a its.toArray) ∧ ys.length ≤ sizeLine := by
    rcases hs with hs | hs
    · obtain ⟨its, rv, hl, hz⟩ := I.list hs
      exact ⟨its, rv, .inl hl, hz⟩
    · obtain ⟨its, rv, hl, hz⟩ := I.tuple hs
      exact ⟨its, rv, .inr hl, hz⟩
  rw [Vals.ref1 r]
  unfold bMin1 at hb
  split at hb
  · rename_i x xs hxs
    injection hxs with hxs _
    injection hxs with hxs
    subst hxs
    split at hb
    · rename_i hcd
      obtain ⟨c1, c2, c3, c4⟩ := hcd
      cases hb
      have hpl : ∀ p ∈ x :: xs, pl p = true := List.all_eq_true.mp c1
      have he := each_of hi rv
      obtain ⟨as, hr⟩ := PySem.W.each_readsAll pyOf (each_reads I (fun p hp => py_of (hpl p hp)) he)
      have hal := alike_of c2
      have hu := hX.units
      have hd : PyData.depthAll ((x :: xs).map pyOf) ≤ 64 := depthAll_le fun d hd => of_decide_eq_true (List.all_eq_true.mp c3 d hd)
      have hA : PySem.W.AlikeAll (pyOf x :: xs.map pyOf) := ⟨fun d hd e he => hal d hd e he, fun d hd e => by
        have := List.all_eq_true.mp c4 d hd
        rw [e] at this
        cases this⟩
      have hdd : X.A.units + 1 + PyData.depthAll (pyOf x :: xs.map pyOf) < cLine := by
        have : PyData.depthAll (pyOf x :: xs.map pyOf) ≤ 64 := hd
        omega
      have fin : ∀ (i : Nat) (v : Value) (h' : Heap) tk bs, its.toArray[i]? = some v → Reads h' v (PySem.W.minD (pyOf x) (xs.map pyOf)) bs → (∀ b o, s.heap.get? b = some o → h'.get? b = some o) → EP X pins σ Q v { s with heap := h', toks := tk } := fun i v h' tk bs hv rd k => by
        have hv' : its[i]? = some v := by simpa using hv
        rw [minD_minP] at rd
        obtain ⟨y, hy, ry⟩ : ∃ y, ys[i]? = some y ∧ RelV y v := by
          have hlt : i < ys.length := by
            rw [rv.length]
            exact (List.getElem?_eq_some_iff.mp hv').1
          obtain ⟨u, hu1, hu2⟩ := Vals.get rv (List.getElem?_eq_getElem hlt)
          rw [hu1] at hv'
          cases hv'
          exact ⟨_, List.getElem?_eq_getElem hlt, hu2⟩
        obtain ⟨p, hp, ip⟩ := isAll_at hi hy
        have hpm := List.mem_of_getElem? hp
        have I2 : Inv X pins σ H { s with heap := h', toks := tk } := I.kept k
        have rd2 : ∃ bs, Reads h' v (pyOf p) bs := by
          obtain ⟨as2, r2⟩ := Dp.reads I _ y _ (Is.dp _ y _ (Is.mono (mask_ex m H) _ _ ip) (py_of (hpl p hpm))) ry
          exact ⟨as2, PyProof.Rows.Reads.keeps k r2⟩
        obtain ⟨bs2, rd2⟩ := rd2
        have hl0 : (pyOf p).canLay0 = true := by
          obtain ⟨d, d1, d2, _⟩ := pl_py p (hpl p hpm)
          have : pyOf p = d := by unfold pyOf; rw [d1]; rfl
          rw [this]; exact d2
        have eq : pyOf p = pyOf (minP x xs) := PySem.SeqAt.Reads.unique _ _ _ _ _ hl0 rd2 rd
        have hmm := minP_mem x xs
        have e1 : PySem.W.dataLe false pyOf p (minP x xs) = true := by
          rw [le_lt, eq, ← le_lt (minP x xs) (minP x xs)]
          exact le_refl _
        have e2 : PySem.W.dataLe false pyOf (minP x xs) p = true := by
          rw [le_lt, eq, ← le_lt (minP x xs) (minP x xs)]
          exact le_refl _
        have epm : p = minP x xs := le_anti (hpl p hpm) (hpl _ hmm) (hal _ (List.mem_map_of_mem hpm) _ (List.mem_map_of_mem hmm)) e1 e2
        rw [← epm] at q
        exact ⟨y, H, I2, ry, q y ip⟩
      rcases hl with hl | hl
      · exact PySem.W.min_list_data (x := pyOf x) (xs := xs.map pyOf) (I.ok.hd hc) hl.isList hr hA hdd fin
      · exact PySem.W.min_tuple_data (x := pyOf x) (xs := xs.map pyOf) (I.ok.hd hc) hl hr hA hdd fin
    · cases hb
  · rename_i x xs hxs
    injection hxs with hxs _
    injection hxs
  · cases hb
theorem on_min1 {K : PySem.W.Frag} : OpN K (rMin1 K) bMin1 := by
  intro m H S ps u xs Q R h e k
  have e0 := e
  unfold bMin1 at e
  split at e
  · obtain ⟨x, rfl, h0⟩ := h.one
    obtain ⟨a, ys, rfl, h1, h2⟩ := sq_r h0
    exact ⟨a, ys, m, _, u, rfl, .inl h1, h2, e0, fun v i => k v m H (Stp.refl m H) R i⟩
  · obtain ⟨x, rfl, h0⟩ := h.one
    obtain ⟨a, ys, rfl, h1, h2⟩ := sq_t h0
    rw [bMin1_tup] at e0
    exact ⟨a, ys, m, _, u, rfl, .inr h1, h2, e0, fun v i => k v m H (Stp.refl m H) R i⟩
  · cases e
theorem o_min {x : P} {xs : List P} (hc : Cmp (x :: xs)) (hd : ∀ p ∈ x :: xs, (pyOf p).depth ≤ 64) (hs : ∀ p ∈ x :: xs, someD (pyOf p) = true) {m : P} (hm : m ∈ x :: xs) (h : ∀ y ∈ x :: xs, PySem.W.dataLe false pyOf m y = true) : bMin1 [.lst (x :: xs)] = some m := by
  have h1 : alikeB ((x :: xs).map pyOf) = true := by
    unfold alikeB
    rw [List.all_eq_true]
    intro d hd'
    rw [List.all_eq_true]
    intro e he
    obtain ⟨p, hp, rfl⟩ := List.mem_map.mp hd'
    obtain ⟨q, hq, rfl⟩ := List.mem_map.mp he
    exact hc.2 p hp q hq
  have h2 : (((x :: xs).map pyOf).all fun d => decide (d.depth ≤ 64)) = true := by
    rw [List.all_eq_true]
    intro d hd'
    obtain ⟨p, hp, rfl⟩ := List.mem_map.mp hd'
    exact decide_eq_true (hd p hp)
  have h3 : (((x :: xs).map pyOf).all someD) = true := by
    rw [List.all_eq_true]
    intro d hd'
    obtain ⟨p, hp, rfl⟩ := List.mem_map.mp hd'
    exact hs p hp
  show (if _ then _ else _ : Option P) = _
  rw [if_pos ⟨List.all_eq_true.mpr hc.1, h1, h2, h3⟩, minP_is hc hm h]
end MN
namespace NR
open PySem PySem.Spec PyProof.Rows L2 DL
def RawE (h : Heap) (d : Addr) (es : Array DictEntry) : Prop := ∃ o, h.get? d = some o ∧ o.ExactDict ∧ o.data = .dict es es.size
theorem RawE.typeIs {s : Shared} {d : Addr} {es : Array DictEntry} (x : RawE s.heap d es) : s.TypeIs (.ref d) "dict" := let ⟨o, ho, hc, _⟩ := x; ⟨o, ho, hc.1⟩
structure Fnd (prog : Program) (w : World) (A : Around) (s : Shared) (d : Addr) (key : Value) (hash : Int) (tk : Nat) (i? : Option Nat) : Prop where
  py : ∀ (E : Value → Shared → Prop) (Q : Int → Shared → Prop), Q hash { s with toks := tk } → wpAny (model prog w) A (pyHash key) Q E s
  find : ∀ (E : Value → Shared → Prop) (Q : Option Nat → Shared → Prop), Q i? { s with toks := tk } → wpAny (model prog w) A (dictFind d key hash) Q E { s with toks := tk }
section
variable {prog : Program} {w : World} {A : Around} {E : Value → Shared → Prop} {s : Shared} {d : Addr} {key v : Value} {hash : Int} {tk : Nat} {i? : Option Nat} {es : Array DictEntry}
theorem dictGet_raw {Q : Option Value → Shared → Prop} (F : Fnd prog w A s d key hash tk i?) (R : RawE s.heap d es) (h : Q (i?.bind fun i => (es[i]?).map (·.val)) { s with toks := tk }) : wpAny (model prog w) A (dictGet d key) Q E s := by
  obtain ⟨o, ho, hc, hd⟩ := R
  unfold dictGet
  try with_reducible refine wpAny_holding ?_
  refine wpAny_bind (F.py _ _ (wpAny_bind (F.find _ _ ?_)))
  cases i? with
  | none => exact wpAny_pure h
  | some i =>
    refine wpAny_bind (wpAny_dictEntries (s := { s with toks := tk }) ho hd ?_)
    exact wpAny_pure h
def setEs (es : Array DictEntry) (i? : Option Nat) (hash : Int) (key v : Value) : Array DictEntry := match i? with
  | some i => es.modify i fun e => { e with val := v }
  | none => es.push ⟨hash, key, v⟩
theorem dictSet_raw {Q : Unit → Shared → Prop} (F : Fnd prog w A s d key hash tk i?) (R : RawE s.heap d es) (hz : es.size ≤ sizeLine)
    (hQ : ∀ h', RawE h' d (setEs es i? hash key v) → Heap.SameBut d s.heap h' → Q () { s with heap := h', toks := tk }) : wpAny (model prog w) A (dictSet d key v) Q E s := by
  obtain ⟨o, ho, hc, hd⟩ := R
  unfold dictSet
  try with_reducible refine wpAny_holding ?_
  refine wpAny_bind (F.py _ _ ?_)
  unfold dictSetHashed
  try with_reducible refine wpAny_holding ?_
  refine wpAny_bind (F.find _ _ ?_)
  cases i? with
  | none =>
    refine wpAny_bind (wpAny_rule (wpAny_updateDictKeys (hz := hz) (s := { s with toks := tk }) ho hd (hQ _ ⟨_, Heap.get?_update_self _ ho (Obj.isFreed_of_dict (Obj.data_mapDictKeys hd _)), hc.mapDictKeys _, ?_⟩ (Heap.SameBut.update ..))))
    rw [Obj.data_mapDictKeys hd _]
    unfold setEs
    simp
  | some i =>
    refine wpAny_bind (wpAny_rule (wpAny_bind (wpAny_updateDict (s := { s with toks := tk }) ho hd (wpAny_point (hQ _ ⟨_, Heap.get?_update_self _ ho (Obj.isFreed_of_dict (Obj.data_mapDict hd _)), hc.mapDict _, ?_⟩ (Heap.SameBut.update ..))))))
    rw [Obj.data_mapDict hd _]
    unfold setEs
    simp
theorem setItem_raw {Q : Unit → Shared → Prop} (F : Fnd prog w A.in1 s d key hash tk i?) (R : RawE s.heap d es) (hz : es.size ≤ sizeLine)
    (hQ : ∀ h', RawE h' d (setEs es i? hash key v) → Heap.SameBut d s.heap h' → Q () { s with heap := h', toks := tk }) : wpAny (model prog w) A (setItem (.ref d) key v) Q E s := by
  unfold setItem
  try with_reducible refine wpAny_holding ?_
  refine wpAny_bind (wpAny_sequenceKey R.typeIs (by decide) ?_)
  refine wpAny_bind (wpAny_callSpecial?_slot (name := Str.ofString "__setitem__") R.typeIs slot_dict_setitem
    (wpAny_call_entry slot_dict_setitem R.typeIs entry_dict_setitem ?_ (args_dict_setitem _ _ _)))
  show wpAny _ _ (Builtin.Dict.notOrdered "__setitem__" ⟨[.ref d, key, v], []⟩ >>= _) _ _ s
  refine wpAny_bind (wpAny_notOrdered_dict R.typeIs ?_)
  show wpAny _ _ (dictSet d key v >>= _) _ _ s
  exact wpAny_bind (dictSet_raw F R hz fun h' hm' hs' => wpAny_pure ⟨.none, rfl, wpAny_pure (hQ h' hm' hs')⟩)
end
end NR
namespace DL
open PySem PySem.Spec PyProof.Rows L2
variable [Tb]
mutual
theorem hashN_eq {hf : Str → Int} {w : World} (h : hf = hashStr w) : ∀ k : NestedKey, hashN hf k = NestedKey.hash w k
  | .none => rfl
  | .num _ => rfl
  | .text x => by rw [h]; rfl
  | .tup ks => by
    unfold hashN NestedKey.hash
    rw [hashNs_eq h ks]
theorem hashNs_eq {hf : Str → Int} {w : World} (h : hf = hashStr w) : ∀ ks : List NestedKey, hashNs hf ks = NestedKey.hashes w ks
  | [] => rfl
  | k :: ks => by
    unfold hashNs NestedKey.hashes
    rw [hashN_eq h k, hashNs_eq h ks]
end
theorem hashNs_map {hf : Str → Int} : ∀ ks : List NestedKey, hashNs hf ks = ks.map (hashN hf)
  | [] => rfl
  | k :: ks => by
    unfold hashNs
    rw [hashNs_map ks]
    rfl
def keyN (p : P) : Option NestedKey := match nkP p with
  | some k => if k.depth ≤ 8 then some k else none
  | none => none
theorem keyN_some {p : P} {n : NestedKey} (h : keyN p = some n) : nkP p = some n ∧ n.depth ≤ 8 := by
  unfold keyN at h
  split at h
  · rename_i k hk
    split at h
    · rename_i hd
      cases h
      exact ⟨hk, hd⟩
    · cases h
  · cases h
def tupB : P → Bool
  | .tup _ => true
  | _ => false
def sameK (ks : List P) (k : P) : Bool := ks.all fun j => tupB j == tupB k
theorem nkPs_get : ∀ {ps : List P} {ns : List NestedKey}, nkPs ps = some ns → ps.length = ns.length ∧ ∀ (i : Nat) (p : P), ps[i]? = some p → ∃ n, ns[i]? = some n ∧ nkP p = some n
  | [], ns, h => by
    cases h
    exact ⟨rfl, fun i p e => by simp at e⟩
  | p :: ps, ns, h => by
    unfold nkPs at h
    split at h
    · rename_i k ks h1 h2
      cases h
      obtain ⟨e1, e2⟩ := nkPs_get h2
      refine ⟨by simp [e1], fun i q e => ?_⟩
      cases i with
      | zero =>
        simp at e
        subst e
        exact ⟨k, rfl, h1⟩
      | succ i => exact e2 i q (by simpa using e)
    · cases h
def idxN (ks : List P) (k : P) : Option Nat := ks.findIdx? fun j => decide (nkP j = nkP k)
def putN (ks ps : List P) (k p : P) : List P × List P := match idxN ks k with
  | some i => (ks, ps.set i p)
  | none => (ks ++ [k], ps ++ [p])
theorem idxN_some {ks : List P} {ns : List NestedKey} {k : P} {n : NestedKey} {i : Nat} (h : nkPs ks = some ns) (hk : nkP k = some n) (e : idxN ks k = some i) : ns[i]? = some n := by
  unfold idxN at e
  obtain ⟨h1, h2⟩ := nkPs_get h
  obtain ⟨hl, e1, _⟩ := List.findIdx?_eq_some_iff_getElem.mp e
  obtain ⟨m, m1, m2⟩ := h2 i ks[i] (List.getElem?_eq_getElem hl)
  have e1 := of_decide_eq_true e1
  rw [m2, hk] at e1
  rw [m1, e1]
theorem idxN_none {ks : List P} {ns : List NestedKey} {k : P} {n : NestedKey} (h : nkPs ks = some ns) (hk : nkP k = some n) (e : idxN ks k = none) : n ∉ ns := fun hn => by
  obtain ⟨h1, h2⟩ := nkPs_get h
  obtain ⟨i, hi, ei⟩ := List.getElem_of_mem hn
  have hik : i < ks.length := by omega
  obtain ⟨m, m1, m2⟩ := h2 i ks[i] (List.getElem?_eq_getElem hik)
  have := List.findIdx?_eq_none_iff.mp e ks[i] (List.getElem_mem hik)
  rw [decide_eq_false_iff_not] at this
  refine this ?_
  rw [m2, hk, ← m1, List.getElem?_eq_getElem hi, ei]
section
variable {X : Cx} {pins : List (Addr × Obj)} {σ : L2.St} {H : Hp} {s : Shared}
mutual
theorem nested_of (I : Inv X pins σ H s) : ∀ (p : P) (v : V) (u : Value) (k : NestedKey), Is X.K H p v → RelV v u → nkP p = some k → NestedIs s.heap k u
  | .int i, v, u, k, h, r, e => by
    cases e
    obtain rfl : v = .int i := h
    obtain ⟨t, rfl⟩ := r
    exact .int _ _
  | .str x, v, u, k, h, r, e => by
    cases e
    obtain rfl : v = .str x := h
    obtain ⟨t, rfl⟩ := r
    exact .text _ _
  | .tup ps, v, u, k, h, r, e => by
    obtain ⟨a, xs, rfl, h1, h2⟩ := h
    obtain rfl : u = Value.ref a := r
    unfold nkP at e
    obtain ⟨ks, e1, rfl⟩ := Option.map_eq_some_iff.mp e
    obtain ⟨its, rv, ⟨o, g1, g2, n, g3⟩, _⟩ := I.tuple h1
    exact .tup g1 g2 g3 (by rw [List.toList_toArray]; exact nesteds_of I ps xs its ks h2 rv e1)
  | .non, _, _, _, _, _, e => by cases e
  | .bl _, _, _, _, _, _, e => by cases e
  | .lst _, _, _, _, _, _, e => by cases e
  | .frz _, _, _, _, _, _, e => by cases e
  | .dic _ _, _, _, _, _, _, e => by cases e
  | .fn _, _, _, _, _, _, e => by cases e
  | .dn _ _, _, _, _, _, _, e => by cases e
  | .exn _ _ _ _ _, _, _, _, _, _, e => by cases e
  | .adr _, _, _, _, _, _, e => by cases e
theorem nesteds_of (I : Inv X pins σ H s) : ∀ (ps : List P) (vs : List V) (us : List Value) (ks : List NestedKey), IsAll X.K H ps vs → Vals vs us → nkPs ps = some ks → NestedAll s.heap ks us
  | [], vs, us, ks, h, r, e => by
    cases e
    obtain rfl : vs = [] := h
    cases r
    exact .nil
  | p :: ps, vs, us, ks, h, r, e => by
    obtain ⟨v, ws, rfl, h1, h2⟩ := h
    cases r with
    | cons r1 r2 =>
      unfold nkPs at e
      split at e
      · rename_i k ks' e1 e2
        cases e
        exact .cons (nested_of I p v _ k h1 r1 e1) (nesteds_of I ps ws _ ks' h2 r2 e2)
      · cases e
end
theorem nestedV_of (I : Inv X pins σ H s) {p : P} {v : V} {u : Value} {n : NestedKey} (hk : keyN p = some n) (ht : tupB p = true) (i : Is X.K H p v) (r : RelV v u) : ∃ a, u = Value.ref a ∧ (nestedKind X.prog X.w).is s.heap n a := by
  obtain ⟨h1, h2⟩ := keyN_some hk
  have h3 := nested_of I p v u n i r h1
  cases p <;> cases ht
  obtain ⟨a, xs, rfl, _⟩ := i
  obtain rfl : u = Value.ref a := r
  exact ⟨a, rfl, h3, h2⟩
def keyOfN : NestedKey → L2.Key
  | .num i => .inl i
  | .text x => .inr x
  | _ => .inl 0
theorem mixV_of {p : P} {v : V} {u : Value} {n : NestedKey} (hk : nkP p = some n) (ht : tupB p = false) (i : Is X.K H p v) (r : RelV v u) : keyIs (keyOfN n) u = true ∧ hashN Tb.hf n = (match keyOfN n with | .inl i => hashInt i | .inr x => Tb.hf x) ∧ ((∃ i, n = .num i) ∨ ∃ x, n = .text x) := by
  cases p <;> cases ht <;> cases hk
  · obtain rfl : v = .int _ := i
    obtain ⟨t, rfl⟩ := r
    exact ⟨keyIs_int _ _, rfl, .inl ⟨_, rfl⟩⟩
  · obtain rfl : v = .str _ := i
    obtain ⟨t, rfl⟩ := r
    exact ⟨keyIs_str _ _, rfl, .inr ⟨_, rfl⟩⟩
end
structure NDat (K : PySem.W.Frag) (H : Hp) (d : Addr) (ks : List P) (ns : List NestedKey) (kv xs : List V) : Prop where
  at_ : H d = some (NDo d (hashNs Tb.hf ns) kv xs)
  key : nkPs ks = some ns
  ok : KeysOk ns
  len : xs.length = ks.length
  few : xs.length ≤ sizeLine
  ka : IsAll K H ks kv
structure Ents (h : Heap) (d : Addr) (ns : List NestedKey) (kv xs : List V) (es : Array DictEntry) (us vs : List Value) : Prop where
  raw : NR.RawE h d es
  sys : (d == sysModules) = false
  ku : Vals kv us
  xv : Vals xs vs
  l1 : us.length = ns.length
  l2 : vs.length = ns.length
  size : es.size = ns.length
  ent : es.toList = (ns.zip (us.zip vs)).map fun x => ⟨hashN Tb.hf x.1, x.2.1, x.2.2⟩
section
variable {X : Cx} {pins : List (Addr × Obj)} {σ : L2.St} {H : Hp} {s : Shared} {d : Addr} {ks : List P} {ns : List NestedKey} {kv xs : List V} {k : P} {n : NestedKey}
theorem NDat.ents (I : Inv X pins σ H s) (D : NDat X.K H d ks ns kv xs) : ∃ es us vs, Ents s.heap d ns kv xs es us vs := by
  obtain ⟨⟨o, es, us, vs, h1, h2, h3, h4, h5, h6, h7⟩, _⟩ := I.hok d _ D.at_
  have l1 := (nkPs_get D.key).1
  have l2 := D.ka.len
  have l3 := D.len
  have l4 := h5.length
  have l5 := h6.length
  have e1 : es.toList = (ns.zip (us.zip vs)).map fun x => ⟨hashN Tb.hf x.1, x.2.1, x.2.2⟩ := by
    rw [h7, hashNs_map, List.zip_map_left, List.map_map]
    rfl
  refine ⟨es, us, vs, ⟨⟨o, h1, h2, h3⟩, h4, h5, h6, by omega, by omega, ?_, e1⟩⟩
  rw [← Array.length_toList, e1, List.length_map, List.length_zip, List.length_zip]
  omega
theorem Ents.at {h : Heap} {es : Array DictEntry} {us vs : List Value} (E : Ents h d ns kv xs es us vs) {i : Nat} (hi : i < ns.length) : es[i]? = some ⟨hashN Tb.hf ns[i], us[i]'(by have := E.l1; omega), vs[i]'(by have := E.l2; omega)⟩ := by
  rw [← Array.getElem?_toList, E.ent, List.getElem?_map, List.getElem?_eq_getElem (by have := E.l1; have := E.l2; rw [List.length_zip, List.length_zip]; omega), List.getElem_zip, List.getElem_zip]
  rfl
theorem NDat.fnd {A : Around} (I : Inv X pins σ H s) (hX : A.units + 8 < cLine) (hw : Tb.hf = hashStr X.w) (D : NDat X.K H d ks ns kv xs) {es : Array DictEntry} {us vs : List Value} (E : Ents s.heap d ns kv xs es us vs) {x : V} {u : Value} (hk : keyN k = some n) (hs : sameK ks k = true) (ik : Is X.K H k x) (rx : RelV x u) :
    ∃ tk, NR.Fnd X.prog X.w A s d u (hashN Tb.hf n) tk (idxN ks k) := by
  obtain ⟨hn1, hn2⟩ := keyN_some hk
  obtain ⟨l1, g1⟩ := nkPs_get D.key
  obtain ⟨o, ho, hc, hd⟩ := E.raw
  have hj : ∀ (i : Nat) (hi : i < ns.length), ∃ (j : P) (v : V) (w : Value), ks[i]? = some j ∧ nkP j = some ns[i] ∧ kv[i]? = some v ∧ us[i]? = some w ∧ Is X.K H j v ∧ RelV v w ∧ tupB j = tupB k := fun i hi => by
    have h1 : i < ks.length := by omega
    obtain ⟨m, m1, m2⟩ := g1 i ks[i] (List.getElem?_eq_getElem h1)
    obtain ⟨v, v1, v2⟩ := D.ka.get (List.getElem?_eq_getElem h1)
    obtain ⟨w, w1, w2⟩ := E.ku.get v1
    rw [List.getElem?_eq_getElem hi] at m1
    have e := Option.some.inj m1
    have h2 := List.all_eq_true.mp hs ks[i] (List.getElem_mem h1)
    exact ⟨ks[i], v, w, List.getElem?_eq_getElem h1, by rw [e]; exact m2, v1, w1, v2, w2, by simpa using h2⟩
  cases ht : tupB k with
  | true =>
    obtain ⟨a, rfl, ka⟩ := nestedV_of I hk ht ik rx
    let rf : Value → Addr := fun u => match u with | .ref a => a | _ => 0
    have hus : ∀ i (hi : i < ns.length), (nestedKind X.prog X.w).is s.heap ns[i] (rf (us[i]'(by have := E.l1; omega))) ∧ us[i]'(by have := E.l1; omega) = Value.ref (rf (us[i]'(by have := E.l1; omega))) := fun i hi => by
      obtain ⟨j, v, w, q1, q2, q3, q4, q5, q6, q7⟩ := hj i hi
      have hk2 : keyN j = some ns[i] := by
        unfold keyN
        rw [q2]
        exact if_pos (D.ok.2 _ (List.getElem_mem hi))
      obtain ⟨b, rfl, kb⟩ := nestedV_of I hk2 (q7.trans ht) q5 q6
      rw [List.getElem?_eq_getElem (by have := E.l1; omega)] at q4
      rw [Option.some.inj q4]
      exact ⟨kb, rfl⟩
    have he : es.toList = (ns.zip ((us.map rf).zip vs)).map (entryOfKey (nestedKind X.prog X.w)) := by
      rw [E.ent]
      refine List.ext_getElem (by simp) fun i h1 h2 => ?_
      rw [List.length_map, List.length_zip, List.length_zip] at h1
      have hi : i < ns.length := by omega
      simp only [List.getElem_map, List.getElem_zip]
      show (⟨hashN Tb.hf ns[i], _, _⟩ : DictEntry) = ⟨NestedKey.hash X.w ns[i], .ref (rf _), _⟩
      rw [← (hus i hi).2, hashN_eq hw]
    have his : ∀ y ∈ ns.zip ((us.map rf).zip vs), (nestedKind X.prog X.w).is s.heap y.1 y.2.1 := fun y hy => by
      obtain ⟨i, hi, ei⟩ := List.getElem_of_mem hy
      rw [List.length_zip, List.length_zip, List.length_map] at hi
      rw [List.getElem_zip, List.getElem_zip, List.getElem_map] at ei
      rw [← ei]
      exact (hus i (by omega)).1
    have hnd : ((ns.zip ((us.map rf).zip vs)).map (·.1)).Nodup := by
      rw [List.map_fst_zip (by rw [List.length_zip, List.length_map]; have := E.l1; have := E.l2; omega)]
      exact D.ok.1
    have room : (nestedKind X.prog X.w).room A := hX
    rw [hashN_eq hw]
    refine ⟨s.toks + (nestedKind X.prog X.w).draws n, ⟨fun E' Q q => (nestedKind X.prog X.w).pyHash room ka q, fun E' Q q => ?_⟩⟩
    refine wpAny_dictFind_heap (knd := nestedKind X.prog X.w) (s := { s with toks := s.toks + (nestedKind X.prog X.w).draws n }) room ka ho hd he his hnd (fun hno => ?_) fun j p hjp => ?_
    · cases hi : idxN ks k with
      | none => rw [hi] at q; exact q
      | some i =>
        have e1 := idxN_some D.key hn1 hi
        have l := lt_of_at e1
        refine absurd ?_ (hno i ((us.map rf)[i]'(by have := E.l1; rw [List.length_map]; omega), vs[i]'(by have := E.l2; omega)))
        rw [List.getElem?_zip_eq_some]
        exact ⟨e1, by rw [List.getElem?_zip_eq_some]; exact ⟨List.getElem?_eq_getElem _, List.getElem?_eq_getElem _⟩⟩
    · rw [List.getElem?_zip_eq_some] at hjp
      cases hi : idxN ks k with
      | none => exact absurd (List.mem_of_getElem? hjp.1) (idxN_none D.key hn1 hi)
      | some i =>
        have e1 := idxN_some D.key hn1 hi
        have : i = j := (List.getElem?_inj (lt_of_at e1) D.ok.1).mp (e1.trans hjp.1.symm)
        rw [hi, this] at q
        exact q
  | false =>
    obtain ⟨m1, m2, m3⟩ := mixV_of hn1 ht ik rx
    have inj : ∀ a b : NestedKey, ((∃ i, a = .num i) ∨ ∃ x, a = .text x) → ((∃ i, b = .num i) ∨ ∃ x, b = .text x) → keyOfN a = keyOfN b → a = b := by
      rintro a b (⟨i, rfl⟩ | ⟨x, rfl⟩) (⟨j, rfl⟩ | ⟨y, rfl⟩) e <;> cases e <;> rfl
    have hus : ∀ i (hi : i < ns.length), keyIs (keyOfN ns[i]) (us[i]'(by have := E.l1; omega)) = true ∧ hashN Tb.hf ns[i] = (mixKind X.prog X.w).hash (keyOfN ns[i]) ∧ ((∃ i', ns[i] = .num i') ∨ ∃ x, ns[i] = .text x) := fun i hi => by
      obtain ⟨j, v, w, q1, q2, q3, q4, q5, q6, q7⟩ := hj i hi
      obtain ⟨k1, k2, k3⟩ := mixV_of q2 (q7.trans ht) q5 q6
      rw [List.getElem?_eq_getElem (by have := E.l1; omega)] at q4
      rw [Option.some.inj q4]
      refine ⟨k1, k2.trans ?_, k3⟩
      cases keyOfN ns[i] with
      | inl i => rfl
      | inr x => exact congrFun hw x
    have hko : KeysOf (mixKind X.prog X.w) es := fun e he => by
      have h1 : e ∈ es.toList := Array.mem_toList_iff.mpr he
      rw [E.ent] at h1
      obtain ⟨y, hy, rfl⟩ := List.mem_map.mp h1
      obtain ⟨i, hi, ei⟩ := List.getElem_of_mem hy
      rw [List.length_zip, List.length_zip] at hi
      rw [List.getElem_zip, List.getElem_zip] at ei
      have hi2 : i < ns.length := by omega
      refine ⟨keyOfN ns[i], ?_, ?_⟩
      · rw [← ei]
        exact (hus i hi2).1
      · rw [← ei]
        exact (hus i hi2).2.1
    have hh : hashN Tb.hf n = (mixKind X.prog X.w).hash (keyOfN n) := by
      rw [m2]
      cases keyOfN n with
      | inl i => rfl
      | inr x => exact congrFun hw x
    rw [hh]
    refine ⟨s.toks + 1, ⟨fun E' Q q => (mixKind X.prog X.w).pyHash m1 q, fun E' Q q => ?_⟩⟩
    refine wpAny_dictFind_of (knd := mixKind X.prog X.w) (s := { s with toks := s.toks + 1 }) m1 ho hd hko ?_
    have key : (es.findIdx? fun e => (mixKind X.prog X.w).is (keyOfN n) e.key) = idxN ks k := by
      have at_ : ∀ (i : Nat) (h : i < es.size), (mixKind X.prog X.w).is (keyOfN n) es[i].key = true ↔ ns[i]'(by have := E.size; omega) = n := fun i h => by
        have hi : i < ns.length := by have := E.size; omega
        have e := E.at hi
        rw [Array.getElem?_eq_getElem h] at e
        rw [Option.some.inj e]
        obtain ⟨k1, k2, k3⟩ := hus i hi
        constructor
        · exact fun z => inj _ _ k3 m3 ((mixKind X.prog X.w).inj _ _ _ k1 z)
        · intro z
          have := k1
          rw [z] at this
          exact this
      cases hi : idxN ks k with
      | none =>
        rw [Array.findIdx?_eq_none_iff]
        intro e he
        obtain ⟨i, h, rfl⟩ := Array.getElem_of_mem he
        rw [Bool.eq_false_iff]
        intro z
        exact idxN_none D.key hn1 hi ((at_ i h).mp z ▸ List.getElem_mem _)
      | some i =>
        have e1 := idxN_some D.key hn1 hi
        have l := lt_of_at e1
        rw [Array.findIdx?_eq_some_iff_getElem]
        have hz : i < es.size := by have := E.size; omega
        refine ⟨hz, (at_ i hz).mpr ?_, fun j hj2 z => ?_⟩
        · rw [List.getElem?_eq_getElem l] at e1
          exact Option.some.inj e1
        · have h2 := (at_ j (by omega)).mp (by simpa using z)
          have : j = i := (List.getElem?_inj (by have := E.size; omega) D.ok.1).mp ((List.getElem?_eq_getElem (by have := E.size; omega)).trans ((congrArg some h2).trans e1.symm))
          omega
    rw [key]
    exact q
end
end DL
namespace DL
open PySem PySem.Spec PyProof.Rows L2
variable [Tb]
section
variable {X : Cx} {pins : List (Addr × Obj)} {σ : L2.St} {H : Hp} {s : Shared} {d : Addr} {ks : List P} {ns : List NestedKey} {kv xs : List V} {k : P} {n : NestedKey}
theorem idxN_lt {i : Nat} (h : idxN ks k = some i) : i < ks.length := by
  obtain ⟨h1, _⟩ := List.findIdx?_eq_some_iff_getElem.mp h
  exact h1
theorem Ents.lt {h : Heap} {es : Array DictEntry} {us vs : List Value} (D : NDat X.K H d ks ns kv xs) (E : Ents h d ns kv xs es us vs) : ∀ i, idxN ks k = some i → i < es.size := fun i e => by
  have := idxN_lt e
  have := (nkPs_get D.key).1
  have := E.size
  omega
end
def fDn0B : FE := fun _ S => .ok (.r S.length) (S ++ [.dn [] []])
theorem nd_empty {P : Program} {w : World} {H : Hp} (h : Heap) (hb : sysModules < h.objs.size) : ObjOk P w H (h.push { cls := .type "dict", data := .dict #[] }) h.objs.size (NDo h.objs.size [] [] []) := by
  refine ⟨⟨_, #[], [], [], Heap.get?_push_size _ rfl, ⟨rfl, rfl, rfl⟩, rfl, beq_eq_false_iff_ne.mpr (Ne.symm (Nat.ne_of_lt hb)), .nil, .nil, rfl⟩, ⟨_, Heap.get?_push_size _ rfl⟩, fun h1 h2 ⟨o, es, us, vs, e1, r⟩ k => ⟨o, es, us, vs, k _ e1, r⟩⟩
theorem pe_dnewN {X : Cx} {pos : Pos} : PE X (.Dict [] [] pos) (fun _ H Q => ∀ p, H p = none → Q (.ref p) (upd H p (NDo p [] [] []))) := ⟨fun pins s σ H Q I h =>
  wpAny_Dict_empty ⟨.ref s.heap.objs.size, _, I.laid (a := s.heap.objs.size) (o := NDo s.heap.objs.size [] [] []) (t' := s.toks) (fun _ _ q => Heap.get?_push_of_some _ q) (Nat.le_refl _) (nd_empty s.heap I.big), rfl, h _ (I.hok.fresh (Nat.le_refl _))⟩⟩
section
variable {X : Cx} {pos : Pos}
theorem d_dn0B : PEd X (.Dict [] [] pos) fDn0B := pe_weak pe_dnewN fun σ H Q ⟨m, env, S, R, E, d, S', e1, q⟩ => by
  cases e1
  intro p hp
  obtain ⟨R2, st2⟩ := R.alloc (o := NDo p [] [] []) (x := .dn [] []) hp fun H' st e => ⟨[], [], [], e, rfl, ⟨List.nodup_nil, fun _ z => nomatch z⟩, rfl, Nat.zero_le _, rfl, rfl⟩
  refine q (.ref p) _ _ st2 R2 ⟨p, rfl, ?_⟩
  show (_ ++ [p])[S.length]? = some p
  rw [List.getElem?_append_right (by rw [R.len]; exact Nat.le_refl _), R.len, Nat.sub_self]
  rfl
end
end DL
namespace DL
open PySem PySem.Spec PyProof.Rows L2
variable [Tb]
def putNs (i? : Option Nat) (ns : List NestedKey) (n : NestedKey) : List NestedKey := match i? with | some _ => ns | none => ns ++ [n]
def putKv (i? : Option Nat) (kv : List V) (b : V) : List V := match i? with | some _ => kv | none => kv ++ [b]
def putXs {α : Type} (i? : Option Nat) (xs : List α) (v : α) : List α := match i? with | some i => xs.set i v | none => xs ++ [v]
def rSetN (K : PySem.W.Frag) : V → V → V → Hp → (Hp → Prop) → Prop := fun o i v H Q => ∃ (d : Addr) (k : P) (n : NestedKey) (ks : List P) (ns : List NestedKey) (kv xs : List V), o = .ref d ∧ Is K H k i ∧ keyN k = some n ∧ sameK ks k = true ∧ NDat K H d ks ns kv xs ∧ ks.length < 40000 ∧
  Q (upd H d (NDo d (hashNs Tb.hf (putNs (idxN ks k) ns n)) (putKv (idxN ks k) kv i) (putXs (idxN ks k) xs v)))
theorem vals_set : ∀ {xs : List V} {us : List Value} {i : Nat} {v : V} {u : Value}, Vals xs us → RelV v u → Vals (xs.set i v) (us.set i u)
  | [], _, _, _, _, h, _ => by cases h; exact .nil
  | x :: xs, _, 0, _, _, h, r => by cases h with | cons r1 r2 => exact .cons r r2
  | x :: xs, _, i + 1, _, _, h, r => by cases h with | cons r1 r2 => exact .cons r1 (vals_set r2 r)
theorem zip_app {α β : Type} {xs : List α} {ys : List β} {x : α} {y : β} (h : xs.length = ys.length) : (xs ++ [x]).zip (ys ++ [y]) = xs.zip ys ++ [(x, y)] := by
  rw [List.zip_append h]
  rfl
section
variable {X : Cx} {pins : List (Addr × Obj)} {σ : L2.St} {H : Hp} {s : Shared} {d : Addr} {ks : List P} {ns : List NestedKey} {kv xs : List V} {k : P} {n : NestedKey}
theorem ents_set {h h' : Heap} {es : Array DictEntry} {us vs : List Value} {x v : V} {u w : Value} (D : NDat X.K H d ks ns kv xs) (hk : keyN k = some n) (E : Ents h d ns kv xs es us vs) (R : NR.RawE h' d (NR.setEs es (idxN ks k) (hashN Tb.hf n) u w)) (rx : RelV x u) (rv : RelV v w) :
    ∃ us' vs', Ents h' d (putNs (idxN ks k) ns n) (putKv (idxN ks k) kv x) (putXs (idxN ks k) xs v) (NR.setEs es (idxN ks k) (hashN Tb.hf n) u w) us' vs' := by
  have l1 := E.l1
  have l2 := E.l2
  cases hi : idxN ks k with
  | some i =>
    rw [hi] at R
    have hl : i < ns.length := by rw [← (nkPs_get D.key).1]; exact idxN_lt hi
    refine ⟨us, vs.set i w, ⟨R, E.sys, E.ku, vals_set E.xv rv, l1, by rw [List.length_set]; exact l2, ?_, ?_⟩⟩
    · show (es.modify i _).size = ns.length
      rw [Array.size_modify]
      exact E.size
    · show (es.modify i _).toList = (ns.zip (us.zip (vs.set i w))).map (fun x : NestedKey × Value × Value => (⟨hashN Tb.hf x.1, x.2.1, x.2.2⟩ : DictEntry))
      refine List.ext_getElem (by simp [E.size]; omega) fun j h1 h2 => ?_
      rw [Array.length_toList, Array.size_modify] at h1
      have hj : j < ns.length := by have := E.size; omega
      have e := E.at hj
      rw [Array.getElem?_eq_getElem h1] at e
      have e := Option.some.inj e
      rw [Array.getElem_toList, Array.getElem_modify, List.getElem_map, List.getElem_zip, List.getElem_zip, List.getElem_set]
      by_cases hij : i = j
      · rw [if_pos hij, if_pos hij, e]
      · rw [if_neg hij, if_neg hij, e]
  | none =>
    rw [hi] at R
    refine ⟨us ++ [u], vs ++ [w], ⟨R, E.sys, E.ku.append (.cons rx .nil), E.xv.append (.cons rv .nil), ?_, ?_, ?_, ?_⟩⟩
    · show (us ++ [u]).length = (ns ++ [n]).length
      simp [l1]
    · show (vs ++ [w]).length = (ns ++ [n]).length
      simp [l2]
    · show (es.push _).size = (ns ++ [n]).length
      simp [E.size]
    · show (es.push _).toList = ((ns ++ [n]).zip ((us ++ [u]).zip (vs ++ [w]))).map _
      rw [zip_app (by omega), zip_app (by rw [List.length_zip]; omega), List.map_append, ← E.ent]
      simp
theorem ents_ok {P : Program} {w : World} {H' : Hp} {h' : Heap} {es : Array DictEntry} {us vs : List Value} (E : Ents h' d ns kv xs es us vs) : ObjOk P w H' h' d (NDo d (hashNs Tb.hf ns) kv xs) := by
  obtain ⟨o, h1, h2, h3⟩ := E.raw
  refine ⟨⟨o, es, us, vs, h1, h2, h3, E.sys, E.ku, E.xv, ?_⟩, ⟨o, h1⟩, fun g1 g2 ⟨o, es, us, vs, e1, r⟩ k => ⟨o, es, us, vs, k _ e1, r⟩⟩
  rw [E.ent, hashNs_map, List.zip_map_left, List.map_map]
  rfl
theorem set_N (hX : X.A.units + 200 < cLine) (hw : Tb.hf = hashStr X.w) : PSet X (rSetN X.K) := by
  intro pins s σ H o i v ov iv u Q I ro ri rv h
  obtain ⟨d, k, n, ks, ns, kv, xs, rfl, ik, hk, sk, D, hfew, q⟩ := h
  obtain rfl : ov = Value.ref d := ro
  obtain ⟨es, us, vs, E⟩ := D.ents I
  obtain ⟨tk, F⟩ := D.fnd (A := X.A.in1) I (by rw [Around.in1_units]; omega) hw E hk sk ik ri
  refine NR.setItem_raw F E.raw (by have := E.size; have := (nkPs_get D.key).1; have := D.few; have := D.len; omega) fun h' R sb => ?_
  obtain ⟨us', vs', E'⟩ := ents_set D hk E R ri rv
  have he : ∃ q, h'.get? d = some q := let ⟨q, hq, _⟩ := R; ⟨q, hq⟩
  exact ⟨_, I.write (x := d) (e := d) (t' := tk) (by rw [D.at_]; trivial) (.inl rfl) (fun b' u' hb q => (sb.2 b' hb).trans q) he (ents_ok E'), q⟩
end
theorem nkPs_app : ∀ {ks : List P} {ns : List NestedKey} {k : P} {n : NestedKey}, nkPs ks = some ns → nkP k = some n → nkPs (ks ++ [k]) = some (ns ++ [n])
  | [], ns, k, n, h, hk => by
    cases h
    show nkPs [k] = some [n]
    unfold nkPs
    rw [hk]
    rfl
  | p :: ks, ns, k, n, h, hk => by
    unfold nkPs at h
    split at h
    · rename_i m ms h1 h2
      cases h
      show nkPs (p :: (ks ++ [k])) = _
      unfold nkPs
      rw [h1, nkPs_app h2 hk]
      rfl
    · cases h
section
variable {K : PySem.W.Frag} {m : Mp} {H : Hp} {S : Sto}
theorem put_dn {G : Hp} {ks ps : List P} {ns : List NestedKey} {kv xs : List V} {k p : P} {n : NestedKey} {v b : V} (hk : nkPs ks = some ns) (ok : KeysOk ns) (hl : xs.length = ks.length) (hz : ks.length < 40000) (ka : IsAll K G ks kv) (kp : IsAll K G ps xs) (hn : keyN k = some n) (ib : Is K G k b) (iv : Is K G p v) :
    nkPs (putN ks ps k p).1 = some (putNs (idxN ks k) ns n) ∧ KeysOk (putNs (idxN ks k) ns n) ∧ (putXs (idxN ks k) xs v).length = (putN ks ps k p).1.length ∧ (putXs (idxN ks k) xs v).length ≤ sizeLine ∧
      IsAll K G (putN ks ps k p).1 (putKv (idxN ks k) kv b) ∧ IsAll K G (putN ks ps k p).2 (putXs (idxN ks k) xs v) := by
  obtain ⟨h1, h2⟩ := keyN_some hn
  have big : (40000 : Nat) ≤ sizeLine := by decide
  unfold putN
  cases hi : idxN ks k with
  | some i =>
    refine ⟨hk, ok, ?_, ?_, ka, kp.set iv⟩
    · show (xs.set i v).length = _
      rw [List.length_set]
      exact hl
    · show (xs.set i v).length ≤ _
      rw [List.length_set]
      omega
  | none =>
    have := idxN_none hk h1 hi
    refine ⟨nkPs_app hk h1, ⟨List.nodup_append.mpr ⟨ok.1, by simp, fun a ha c hc z => ?_⟩, fun a ha => ?_⟩, ?_, ?_, ?_, kp.append (IsAll.one iv)⟩
    · rw [List.mem_singleton.mp hc] at z
      exact this (z ▸ ha)
    · rcases List.mem_append.mp ha with h | h
      · exact ok.2 a h
      · rw [List.mem_singleton.mp h]
        exact h2
    · show (xs ++ [v]).length = (ks ++ [k]).length
      simp [hl]
    · show (xs ++ [v]).length ≤ _
      rw [List.length_append]
      show xs.length + 1 ≤ _
      omega
    · show IsAll K G (ks ++ [k]) (kv ++ [b])
      exact ka.append (IsAll.one ib)
end
def setN (o i d : D) (S : Sto) : Option Sto := match o, i, d with
  | .r n, .v q, .v p => match S[n]? with
    | some (.dn ks ps) => match keyN q with
      | some _ => if ks.length < 40000 ∧ sameK ks q = true then some (S.set n (.dn (putN ks ps q p).1 (putN ks ps q p).2)) else none
      | none => none
    | _ => none
  | .o n j, .v q, .v p => match S[n]? with
    | some (.ins c nv ns fs) => match coAt j fs with
      | some (.dn ks ps) => match keyN q with
        | some _ => if ks.length < 40000 ∧ sameK ks q = true then some (S.set n (.ins c nv ns (setCo j (.dn (putN ks ps q p).1 (putN ks ps q p).2) fs))) else none
        | none => none
      | _ => none
    | _ => none
  | _, _, _ => none
def gSbN (fo fi : FE) : FG := fun d env S => (fo env S).bind fun o S1 => (fi env S1).bind fun i S2 => match setN o i d S2 with
  | some S3 => .ok env S3
  | none => .bad
theorem own_dn {K : PySem.W.Frag} {m : Mp} {H : Hp} {S : Sto} {i k : Nat} {a b : Addr} {c : Str} {nv : Nat} {ms : List Str} {fs : List Fv} {ks ps : List P} (R : Rel K m H S) (hm : m.l[i]? = some a) (hS : S[i]? = some (.ins c nv ms fs)) (hb : (a, k, b) ∈ m.c.o) (hco : coAt k fs = some (.dn ks ps)) : CoIs K m H b (.dn ks ps) := by
  obtain ⟨dx, xs, q1, q2, q3, q4⟩ := R.ob i a _ hm hS
  obtain ⟨b2, p1, p2⟩ := coAt_is q4 hco
  have := R.fnc _ hb _ p1 rfl rfl
  cases this
  exact p2
section
variable {X : Cx} {pos : Pos}
theorem g_sbN (hX : SX X) (hw : Tb.hf = hashStr X.w) {o i : Expr} {fo fi : FE} (ho : PEd X o fo) (hi : PEd X i fi)
    (ha : ∀ v, assign (.Subscript o i pos) X.env v = (do
      let ov ← holding [v] (eval o X.env)
      let iv ← holding [v, ov] (eval i X.env)
      standAt pos
      holding [v, ov, iv] (setItem ov iv v)
      release [v, ov, iv] []) := by intro _; rfl) : PGd X (.Subscript o i pos) (gSbN fo fi) :=
  pg_weak (pg_sub ho hi (set_N hX.units hw) ha) fun v σ H Q ⟨m, env, S, d, R, E, i1, env', S', e1, q⟩ => by
  obtain ⟨od, S1, k1, e2⟩ := Oc.bind_eq e1
  obtain ⟨ind, S2, k2, e3⟩ := Oc.bind_eq e2
  refine ⟨m, env, S, R, E, od, S1, k1, fun ov m1 H1 st1 R1 j1 => ⟨m1, env, S1, R1, E.step st1, ind, S2, k2, fun iv m2 H2 st2 R2 j2 => ?_⟩⟩
  cases hs : setN od ind d S2 with
  | none => rw [hs] at e3; cases e3
  | some S3 =>
    rw [hs] at e3
    cases e3
    have st := st1.trans st2
    have i2 := st.is i1
    have o2 := st2.is j1
    unfold setN at hs
    split at hs
    · rename_i n qi p
      obtain ⟨a, rfl, h3⟩ := o2
      have hp : Is X.K (mask m2 H2) p v := i2
      have hq : Is X.K (mask m2 H2) qi iv := j2
      split at hs
      · rename_i ks ps hS
        split at hs
        · rename_i kk hkk
          split at hs
          · rename_i hlen
            cases hs
            obtain ⟨hlen, hsk⟩ := hlen
            obtain ⟨as, xs, ns, h4, h5, h6, h7, h8, h9, h10⟩ := R2.ob n a _ h3 hS
            obtain ⟨c1, c2, c3, c4, c5, c6⟩ := put_dn h5 h6 h7 hlen h9 h10 hkk hq hp
            obtain ⟨R3, st3⟩ := R2.write (o := NDo a (hashNs Tb.hf (putNs (idxN ks qi) ns kk)) (putKv (idxN ks qi) as iv) (putXs (idxN ks qi) xs v)) (x := .dn (putN ks ps qi p).1 (putN ks ps qi p).2) h3 fun H' s' e' => ⟨_, _, _, e', c1, c2, c3, c4, s'.all c5, s'.all c6⟩
            exact ⟨a, qi, kk, ks, ns, as, xs, rfl, Is.mono (mask_ex m2 H2) _ _ hq, hkk, hsk, ⟨h4, h5, h6, h7, h8, IsAll.mono (mask_ex m2 H2) _ _ h9⟩, hlen, q _ _ _ (st.trans st3) R3 (E.step (st.trans st3))⟩
          · cases hs
        · cases hs
      · cases hs
    · rename_i n j qi p
      obtain ⟨a, d, rfl, h3, hb⟩ := o2
      have hp : Is X.K (mask m2 H2) p v := i2
      have hq : Is X.K (mask m2 H2) qi iv := j2
      split at hs
      · rename_i c nv ms fs hS
        split at hs
        · rename_i ks ps hco
          split at hs
          · rename_i kk hkk
            split at hs
            · rename_i hlen
              cases hs
              obtain ⟨hlen, hsk⟩ := hlen
              obtain ⟨as, xs, ns, h4, h5, h6, h7, h8, h9, h10⟩ := own_dn R2 h3 hS hb hco
              obtain ⟨c1, c2, c3, c4, c5, c6⟩ := put_dn h5 h6 h7 hlen h9 h10 hkk hq hp
              obtain ⟨R3, st3⟩ := R2.writeC (o := NDo d (hashNs Tb.hf (putNs (idxN ks qi) ns kk)) (putKv (idxN ks qi) as iv) (putXs (idxN ks qi) xs v)) (co := .dn (putN ks ps qi p).1 (putN ks ps qi p).2) h3 hS hb (.inr (.inr (.inl ⟨_, _, _, rfl⟩))) fun H' s' e' => ⟨_, _, _, e', c1, c2, c3, c4, s'.all c5, s'.all c6⟩
              exact ⟨d, qi, kk, ks, ns, as, xs, rfl, Is.mono (mask_ex m2 H2) _ _ hq, hkk, hsk, ⟨h4, h5, h6, h7, h8, IsAll.mono (mask_ex m2 H2) _ _ h9⟩, hlen, q _ _ _ (st.trans st3) R3 (E.step (st.trans st3))⟩
            · cases hs
          · cases hs
        · cases hs
      · cases hs
    · cases hs
end
end DL
namespace DL
open PySem PySem.Spec PyProof.Rows L2
variable [Tb]
def dnOf (d : D) (S : Sto) : Option (List P × List P) := match deP S d with
  | some (.dn ks ps) => some (ks, ps)
  | _ => none
theorem dnOf_eq {d : D} {S : Sto} {ks ps : List P} (h : dnOf d S = some (ks, ps)) : deP S d = some (.dn ks ps) := by
  unfold dnOf at h
  split at h
  · rename_i e
    cases h
    exact e
  · cases h
end DL
namespace GW
open PySem PySem.Spec PyProof.Rows L2 DL GA
noncomputable def L_worlds_of_0 : FS :=
 (fDrop (fMt mExtend (fVar 2) (fCons (fLc (iVal (fVar 2)) (gNm 4) fYes (f2 pAdd (fVar 4) (fTup (fCons (fVar 3) fNil))) [4]) fNil)))
noncomputable def B_worlds_of : FS :=
 (fSeq (fSet (fLstB (fCons (fCall F_steps_with [] (fCons (fVar 0) (fCons (fVar 1) (fCons (fTup (fCons (fC (.v (.str "done"))) fNil)) fNil)))) fNil)) (gNm 2))
 (fSeq (fFor (iVal (fCall F_steps_with [] (fCons (fVar 0) (fCons (fVar 1) (fCons (fTup (fCons (fC (.v (.str "maybe"))) fNil)) fNil))))) (gNm 3) L_worlds_of_0)
 (fRet (fCb bTuple (fCons (fCb bSorted (fCons (fLc (iVal (fVar 2)) (gNm 4) fYes (fCb bTuple (fCons (fCb bSorted (fCons (fVar 4) fNil)) fNil)) [4]) fNil)) fNil)))))
noncomputable def F_worlds_of : FF := runF 5 false B_worlds_of
def subsF (found : List (List Nm)) (ms : List Nm) : List (List Nm) := ms.foldl (fun f m => f ++ f.map (· ++ [m])) found
theorem subsF_cons {f : List (List Nm)} {m : Nm} {ms : List Nm} : subsF f (m :: ms) = subsF (f ++ f.map (· ++ [m])) ms := rfl
theorem subsF_add {f : List (List Nm)} {ms : List Nm} {m : Nm} : subsF f (ms ++ [m]) = subsF f ms ++ (subsF f ms).map (· ++ [m]) := by
  unfold subsF
  rw [List.foldl_append]
  rfl
theorem subsF_len : ∀ {ms : List Nm} {f : List (List Nm)}, (subsF f ms).length = f.length * 2 ^ ms.length
  | [], f => by simp [subsF]
  | m :: ms, f => by
    rw [subsF_cons, subsF_len, List.length_append, List.length_map, List.length_cons, Nat.pow_succ]
    rw [← Nat.two_mul, Nat.mul_comm 2 f.length, Nat.mul_assoc, Nat.mul_comm 2]
theorem subsF_mem : ∀ {ms : List Nm} {f : List (List Nm)} {w : List Nm}, w ∈ subsF f ms → ∃ v ∈ f, ∃ s : List Nm, s.Sublist ms ∧ w = v ++ s
  | [], f, w, h => ⟨w, h, [], List.Sublist.refl _, by simp⟩
  | m :: ms, f, w, h => by
    obtain ⟨v, hv, s, hs, rfl⟩ := subsF_mem (ms := ms) (show w ∈ subsF (f ++ f.map (· ++ [m])) ms from h)
    rcases List.mem_append.mp hv with hv | hv
    · exact ⟨v, hv, s, hs.cons m, rfl⟩
    · obtain ⟨u, hu, rfl⟩ := List.mem_map.mp hv
      exact ⟨u, hu, m :: s, hs.cons_cons m, by simp⟩
def WL (rs : List Rw) (ps : List Nm) : List (List Nm) := tsort ((subsF [sel rs ps isD] (sel rs ps isM)).map asort)
theorem sel_len {rs : List Rw} {ps : List Nm} {q : Rw × Nm → Bool} : (sel rs ps q).length ≤ rs.length := by
  have := (sel_sub (rs := rs) (ps := ps) (q := q)).length_le
  unfold nm at this
  rwa [List.length_map] at this
theorem pow_le {n : Nat} (h : n ≤ 8) : 2 ^ n ≤ 256 := Nat.pow_le_pow_right (by decide) h
theorem subs1_len {a ms : List Nm} (h : ms.length ≤ 8) : (subsF [a] ms).length ≤ 256 := by
  rw [subsF_len]
  have := pow_le h
  simpa using this
theorem subs1_wlen {a ms w : List Nm} (ha : a.length ≤ 8) (h : ms.length ≤ 8) (hw : w ∈ subsF [a] ms) : w.length ≤ 16 := by
  obtain ⟨v, hv, s, hs, rfl⟩ := subsF_mem hw
  have h1 : v = a := by simpa using hv
  have h2 := hs.length_le
  rw [List.length_append, h1]
  omega
theorem worlds {o : Ob} {T : Sto} {rs : List Rw} {ps : List Nm} (h : WOk rs) (h8 : rs.length ≤ 8) (hl : rs.length = ps.length) : F_worlds_of [.v (wkP rs), .v (tN ps)] (o :: T) = .ok (.v (.tup ((WL rs ps).map tN))) (o :: T) := by
  have hD : (sel rs ps isD).length ≤ 8 := Nat.le_trans sel_len h8
  have hM : (sel rs ps isM).length ≤ 8 := Nat.le_trans sel_len h8
  have hfl := subs1_len (a := sel rs ps isD) hM
  have c1 : ∀ T : Sto, F_steps_with [.v (wkP rs), .v (tN ps), .v (.tup [.str "done"])] (o :: T) = .ok (.v (tN (sel rs ps isD))) (o :: T) := fun T => steps_with1 h hl (by decide +kernel)
  have c2 : ∀ T : Sto, F_steps_with [.v (wkP rs), .v (tN ps), .v (.tup [.str "maybe"])] (o :: T) = .ok (.v (tN (sel rs ps isM))) (o :: T) := fun T => steps_with1 h hl (by decide +kernel)
  refine e_run ?_
  show (B_worlds_of [some (.v (wkP rs)), some (.v (tN ps)), none, none, none] _).F _
  unfold B_worlds_of
  refine s_Seq (s_SetE (d := .r (bx T 0)) (S1 := o :: (T ++ [.lst ([sel rs ps isD].map tN)])) (e_lstB (B := []) (ds := [.v (tN (sel rs ps isD))]) (e_cons (e_call (ds := [.v (wkP rs), .v (tN ps), .v (.tup [.str "done"])]) (e_cons (e_var rfl) (e_cons (e_var rfl) (e_cons (e_tup (ds := [.v (.str "done")]) (e_cons e_c e_nil) rfl (by show (1 : Nat) ≤ 100000; decide)) e_nil))) (c1 _)) e_nil) rfl (by show (1 : Nat) ≤ 100000; decide)) e_gNm ?_)
  refine s_Seq (s_ForE (z := ((sel rs ps isM).map nP, none)) (S1 := o :: (T ++ [Ob.lst ([sel rs ps isD].map tN)])) (e_iv (e_call (ds := [.v (wkP rs), .v (tN ps), .v (.tup [.str "maybe"])]) (e_cons (e_var rfl) (e_cons (e_var rfl) (e_cons (e_tup (ds := [.v (.str "maybe")]) (e_cons e_c e_nil) rfl (by show (1 : Nat) ≤ 100000; decide)) e_nil))) (c2 _)) rfl) ?_)
  refine s_Loop (fun i env S => ∃ (e3 e4 : Option D), env = [some (.v (wkP rs)), some (.v (tN ps)), some (.r (bx T 0)), e3, e4] ∧ S = o :: (T ++ [.lst ((subsF [sel rs ps isD] ((sel rs ps isM).take i)).map tN)]))
    ⟨_, _, rfl, rfl⟩ (fun _ _ _ _ => own_none) ?_ ?_
  · rintro i p env S hi ⟨e3, e4, rfl, rfl⟩
    have hi' : ((sel rs ps isM).map nP)[i]? = some p := hi
    rw [List.getElem?_map] at hi'
    obtain ⟨m, hm, rfl⟩ := Option.map_eq_some_iff.mp hi'
    have htl : ((sel rs ps isM).take i).length ≤ 8 := by rw [List.length_take]; omega
    have hfl := subs1_len (a := sel rs ps isD) htl
    refine P_of e_gNm ?_
    unfold L_worlds_of_0
    refine s_DropE (e_mt (ds := [.v (.lst ((subsF [sel rs ps isD] ((sel rs ps isM).take i)).map fun w => tN (w ++ [m])))]) rfl rfl (e_cons (e_lcA (xs := subsF [sel rs ps isD] ((sel rs ps isM).take i)) (f := tN) (own := some (bx T 0)) (hh := fun w => tN (w ++ [m])) (S1 := o :: (T ++ [.lst ((subsF [sel rs ps isD] ((sel rs ps isM).take i)).map tN)])) (e_iv (e_var rfl) (seq_bx rfl)) (own_bx rfl) (by omega) fun w hw => e_body e_gNm e_yes fun _ => ?_) e_nil) (o_ext rfl (by rw [List.length_map, List.length_map]; omega))) ?_
    · have := subs1_wlen hD htl hw
      exact e_f2 (e_var rfl) (e_tup (ds := [.v (nP m)]) (e_cons (e_var rfl) e_nil) rfl (by show (1 : Nat) ≤ 100000; decide)) (e_l2 rfl rfl (o_addT1 (by omega)))
    · refine ⟨_, _, rfl, ?_⟩
      have e2 : (sel rs ps isM).take (i + 1) = (sel rs ps isM).take i ++ [m] := by
        rw [List.take_add_one, hm]
        rfl
      rw [e2, subsF_add, List.map_append, List.map_map]
      rfl
  · rintro env S ⟨e3, e4, rfl, rfl⟩
    rw [show (List.map nP (sel rs ps isM)).length = (sel rs ps isM).length by simp, List.take_length]
    have e : bSorted [.lst ((subsF [sel rs ps isD] (sel rs ps isM)).map fun w => tN (asort w))] = some (.lst ((WL rs ps).map tN)) := by
      have := o_sortTs (xss := (subsF [sel rs ps isD] (sel rs ps isM)).map asort) (by rw [List.length_map]; omega)
      rw [List.map_map] at this
      exact this
    dsimp only
    refine s_RetE (e_cb (S1 := o :: (T ++ [.lst ((subsF [sel rs ps isD] (sel rs ps isM)).map tN)])) (e_cons (e_cb (e_cons (e_lcA (xs := subsF [sel rs ps isD] (sel rs ps isM)) (f := tN) (own := some (bx T 0)) (hh := fun w => tN (asort w)) (S1 := o :: (T ++ [.lst ((subsF [sel rs ps isD] (sel rs ps isM)).map tN)])) (e_iv (e_var rfl) (seq_bx rfl)) (own_bx rfl) (by omega) fun w hw => e_body e_gNm e_yes fun _ => ?_) e_nil) (a_cons rfl a_nil) e) e_nil) (a_cons rfl a_nil) o_tuple) e_close
    have := subs1_wlen hD hM hw
    exact e_cb (e_cons (e_cb (e_cons (e_var rfl) e_nil) (a_cons rfl a_nil) (o_sortT (by omega))) e_nil) (a_cons rfl a_nil) o_tupleN
end GW
namespace DL
open PySem PySem.Spec PyProof.Rows L2
variable [Tb]
section
variable {prog : Program} {w : World} {d : Addr} {key : Value}
theorem meetsR_get2 (hd : (d == sysModules) = false) (dflt : Value) :
    MeetsIn prog w (Builtin.«dict.get» ⟨[.ref d, key, dflt], []⟩) (fun A R s => ∃ es hash tk i?, NR.Fnd prog w A.in1 s d key hash tk i? ∧ NR.RawE s.heap d es ∧
      R (.ok (.ret ((i?.bind fun i => (es[i]?).map (·.val)).getD dflt))) { s with toks := tk }) :=
  .of_wp fun A R s ⟨es, hash, tk, i?, F, hr, h⟩ => by
    show wpAny _ _ (dictGet d key >>= _) _ _ s
    refine wpAny_bind (NR.dictGet_raw F hr ?_)
    cases hf : (i?.bind fun i => (es[i]?).map (·.val)) with
    | some v =>
      rw [hf] at h
      exact wpAny_pure ⟨v, rfl, h⟩
    | none =>
      rw [hf] at h
      show wpAny _ _ (Builtin.Dict.missed d key >>= _) _ _ _
      exact wpAny_bind (wpAny_missed_other hd (wpAny_pure ⟨dflt, rfl, h⟩))
end
def rGetN (K : PySem.W.Frag) (d : Addr) (y z : V) (H : Hp) (Q : VK) : Prop := ∃ (k : P) (n : NestedKey) (ks : List P) (ns : List NestedKey) (kv xs : List V), Is K H k y ∧ keyN k = some n ∧ sameK ks k = true ∧ NDat K H d ks ns kv xs ∧ Q (((idxN ks k).bind fun i => xs[i]?).getD z) H
def tGetN2 (td ty tx : TE) (K : PySem.W.Frag) : TE := fun σ H Q => td σ H fun x H1 => ∃ d n, x = .ref d ∧ NKat d n H1 ∧ ty σ H1 fun y H2 => tx σ H2 fun z H3 => rGetN K d y z H3 Q
section
variable {X : Cx} {o e f : Expr} {apos cpos : Pos} {td ty tx : TE}
theorem get_rel {pins : List (Addr × Obj)} {σ : L2.St} {H : Hp} {s : Shared} {d : Addr} {ks : List P} {ns : List NestedKey} {kv xs : List V} {es : Array DictEntry} {us vs : List Value} {k : P} {z : V} {r : Value} (D : NDat X.K H d ks ns kv xs) (E : Ents s.heap d ns kv xs es us vs) (rz : RelV z r) :
    RelV (((idxN ks k).bind fun i => xs[i]?).getD z) (((idxN ks k).bind fun i => (es[i]?).map (·.val)).getD r) := by
  cases hi : idxN ks k with
  | none => exact rz
  | some i =>
    have hl : i < ns.length := by rw [← (nkPs_get D.key).1]; exact idxN_lt hi
    have e := E.at hl
    have hx : i < xs.length := by have := D.len; have := idxN_lt hi; omega
    obtain ⟨w, w1, w2⟩ := E.xv.get (List.getElem?_eq_getElem hx)
    rw [List.getElem?_eq_getElem (by have := E.l2; omega)] at w1
    show RelV ((xs[i]?).getD z) (((es[i]?).map (·.val)).getD r)
    rw [e, List.getElem?_eq_getElem hx]
    show RelV xs[i] (vs[i]'(by have := E.l2; omega))
    rw [Option.some.inj w1]
    exact w2
theorem pe_getN2 (hX : X.A.units + 200 < cLine) (hw : Tb.hf = hashStr X.w) (ho : PE X o td) (he : PE X e ty) (hf : PE X f tx) (m : M2 X o "get" apos e f cpos) : PE X (.Call (.Attribute o "get" apos) [e, f] [] cpos) (tGetN2 td ty tx X.K) := by
  refine ⟨fun pins s σ H Q I h => ?_⟩
  refine wpAny_Call_method m.base m.few m.line PySem.F.plainAttrs_dict PySem.F.slot_dict_get PySem.F.type_dict_get (thn (ho.run pins s σ H _ I h) fun u s1 ⟨x, H1, I1, rx, d, n, ex, hn, q1⟩ => ?_)
  subst ex
  obtain rfl : u = Value.ref d := rx
  obtain ⟨es0, hs0, hr0, _, _⟩ := hn.raw I1
  refine ⟨hr0.typeIs, (fun b e => by cases e; obtain ⟨o, o1, o2, _⟩ := hr0; exact ⟨o, o1, o2.2.1⟩), ?_⟩
  rw [m.trees]
  refine Calls.callWith_builtin rfl (Calls.evalArgs_plain (Calls.spliced_cons (thn (he.run pins s1 σ H1 _ I1 q1) fun iv s2 ⟨y, H2, I2, ry, q2⟩ =>
    Calls.spliced_cons (thn (hf.run pins s2 σ H2 _ I2 q2) fun fv s3 ⟨z, H3, I3, rz, k, n, ks, ns, kv, xs, ik, hk, sk, D, q3⟩ => Calls.spliced_nil ?_))))
  obtain ⟨es, us, vs, E⟩ := D.ents I3
  obtain ⟨tk, F⟩ := D.fnd (A := X.A.in1) I3 (by rw [Around.in1_units]; omega) hw E hk sk ik ry
  exact call_meetsIn PySem.F.slot_dict_get E.raw.typeIs PySem.F.entry_dict_get (PySem.F.args_dict_get_3 _ _ _) (meetsR_get2 hs0 fv) ⟨es, _, tk, _, F, E.raw, ⟨_, H3, I3.kept (t' := tk) fun _ _ z => z, get_rel (pins := pins) (σ := σ) D E rz, q3⟩⟩
end
def getN (ks ps : List P) (k z : P) : Option P := match keyN k with
  | some _ => if sameK ks k = true then (match idxN ks k with
    | some i => ps[i]?
    | none => some z) else none
  | none => none
def fGetN2 (fo fi fx : FE) : FE := fun env S => (fo env S).bind fun d S1 => match dnOf d S1 with
  | some _ => (fi env S1).bind fun k S2 => (fx env S2).bind fun z S3 => match k, z, dnOf d S3 with
    | .v k, .v z, some (ks, ps) => match getN ks ps k z with
      | some p => .ok (.v p) S3
      | none => .bad
    | _, _, _ => .bad
  | none => .bad
section
variable {X : Cx} {o e f : Expr} {apos cpos : Pos} {fo fi fx : FE}
theorem dn_dat {K : PySem.W.Frag} {m : Mp} {H : Hp} {S : Sto} {d : D} {v : V} {ks ps : List P} (R : Rel K m H S) (h : IsD K m (mask m H) d v) (e : dnOf d S = some (ks, ps)) : ∃ a ns kv xs, v = .ref a ∧ NDat K H a ks ns kv xs ∧ IsAll K (mask m H) ps xs := by
  obtain ⟨a, as, xs, ns, rfl, h2, h3, h4, h5, h6, h7, h8⟩ := isR_of R h (dnOf_eq e)
  exact ⟨a, ns, as, xs, rfl, ⟨h2, h3, h4, h5, h6, IsAll.mono (mask_ex m H) _ _ h7⟩, h8⟩
theorem NDat.nk {K : PySem.W.Frag} {H : Hp} {a : Addr} {ks : List P} {ns : List NestedKey} {kv xs : List V} (D : NDat K H a ks ns kv xs) : NKat a ks.length H := ⟨_, kv, xs, D.at_, (hashNs_len ns).trans (nkPs_len D.key), D.ka.len.symm, D.len⟩
theorem getN_is {K : PySem.W.Frag} {G : Hp} {ks ps : List P} {xs : List V} {k z p : P} {y : V} (h : getN ks ps k z = some p) (hp : IsAll K G ps xs) (hz : Is K G z y) : (∃ n, keyN k = some n) ∧ sameK ks k = true ∧ Is K G p (((idxN ks k).bind fun i => xs[i]?).getD y) := by
  unfold getN at h
  split at h
  · rename_i n hn
    split at h
    · rename_i hs
      refine ⟨⟨n, hn⟩, hs, ?_⟩
      split at h
      · rename_i i hi
        obtain ⟨v, h1, h2⟩ := hp.get h
        rw [hi]
        show Is K G p ((xs[i]?).getD y)
        rw [h1]
        exact h2
      · rename_i hi
        cases h
        rw [hi]
        exact hz
    · cases h
  · cases h
theorem d_getN2 (hX : SX X) (hw : Tb.hf = hashStr X.w) (ho : PEd X o fo) (hi : PEd X e fi) (hf : PEd X f fx) (m : M2 X o "get" apos e f cpos := by exact ⟨rfl, rfl, rfl, rfl⟩) : PEd X (.Call (.Attribute o "get" apos) [e, f] [] cpos) (fGetN2 fo fi fx) :=
  pe_weak (pe_getN2 hX.units hw ho hi hf m) fun σ H Q ⟨m, env, S, R, E, d', S', e1, q⟩ => by
  obtain ⟨d, S1, k1, e2⟩ := Oc.bind_eq e1
  refine ⟨m, env, S, R, E, d, S1, k1, fun v m1 H1 st1 R1 i1 => ?_⟩
  split at e2
  · rename_i x hx
    obtain ⟨ks0, ps0⟩ := x
    obtain ⟨a, ns0, kv0, xs0, rfl, D0, _⟩ := dn_dat R1 i1 hx
    obtain ⟨kd, S2, k2, e3⟩ := Oc.bind_eq e2
    obtain ⟨zd, S3, k3, e4⟩ := Oc.bind_eq e3
    refine ⟨a, _, rfl, D0.nk, m1, env, S1, R1, E.step st1, kd, S2, k2, fun y m2 H2 st2 R2 i2 => ⟨m2, env, S2, R2, E.step (st1.trans st2), zd, S3, k3, fun z m3 H3 st3 R3 i3 => ?_⟩⟩
    split at e4
    · rename_i k z' ks ps hks
      split at e4
      · rename_i p hp
        cases e4
        obtain ⟨b, ns, kv, xs, eb, D, hps⟩ := dn_dat R3 ((st2.trans st3).is i1) hks
        cases eb
        obtain ⟨⟨n, hn⟩, hs, ip⟩ := getN_is hp hps (show Is X.K (mask m3 H3) z' z from i3)
        have ik : Is X.K (mask m3 H3) k y := st3.is i2
        exact ⟨k, n, ks, ns, kv, xs, Is.mono (mask_ex m3 H3) _ _ ik, hn, hs, D, q _ m3 H3 ((st1.trans st2).trans st3) R3 ip⟩
      · cases e4
    · cases e4
  · cases e2
end
end DL
namespace DL
open PySem PySem.Spec PyProof.Rows L2
@[reducible] def tbW (l : List LmT) (w : World) : Tb := ⟨(tbOf l).t, hashStr w⟩
theorem lm_tbW {l : List LmT} {w : World} {K : PySem.W.Frag} : ∀ p ∈ (tbW l w).t K, p.1 ∈ (csF K l).map (·.2) := lm_tb
theorem walk_gW {l : PySem.W.OpenLaw} {n k : Nat} {q : Program} {loose : List Str} {XP : (Str → Option Value) → Heap → Prop} {YP : World → Heap → Prop} {d : DefRec} {F : FF} {x : Str}
    (hn : l.most = some n) (hn2 : n ≤ sizeLine) (hdf : d.params.defaults = []) (hr : Room k callerA)
    (G : ∀ (w : World) (mg : Str → Option Value) (fa : Addr) (h : Heap), YP w h → h.Ns mainGlobals mg → mg d.name = some (.ref fa) →
      ∃ (T : Tb) (K : PySem.W.Frag) (fd : FuncData) (cs : List (Addr × Addr)), K.In h ∧ (∀ p ∈ cs, h.get? p.2 = some tabO) ∧ (∀ p ∈ cs, K.lookup p.2 = none) ∧ (∀ p ∈ cs, PySem.W.CodeHd h p.1 p.2) ∧ (∀ p ∈ T.t K, p.1 ∈ cs.map (·.2)) ∧
        (∀ (s : Shared) (u : Value), BindsTo s fd ⟨[u], []⟩ [(x, u)]) ∧ ∀ base : Heap, K.In base → base.Ns mainGlobals mg → (∀ p ∈ cs, LamX.TabB base mg p.1 p.2) → @FnG T l.prog w K mg base k fa fd [x] F)
    (hF : LawOk F n) : PySem.W.WalkO q loose XP YP l.row.toRowW d [] (fun f vs => PySem.call f vs) := by
  refine Att.attach_call hn hdf fun w s₀ s₁ mg mb fa o pm cd doc a vs ns Gh Y ho hd hcd hmg hobj hints hlen hg => ?_
  obtain ⟨T, K, fd, cs, KX, hT, nT, C, hTb, hb, hG⟩ := G w mg fa _ Y Gh.T.g hmg
  letI := T
  exact law_callG KX Gh.T.g Gh.T.b Gh.T.builtins Gh.T.nolimit hg hT nT C Gh.T.bmain hobj hints hlen (Nat.le_trans hlen hn2) hr hG hTb hb hF
end DL
namespace MG
open PySem PySem.Spec PyProof.Rows L2 DL GA GM
abbrev po (rs : List Rw) (g : Nm → Nm) : List Nm := (nm rs).map g
section
variable {rs : List Rw} {g g' : Nm → Nm} {w x y out : Nm}
theorem zipg {g : Nm → Nm} : ∀ rs : List Rw, rs.zip (po rs g) = rs.map fun r => (r, g r.x)
  | [] => rfl
  | r :: rs => by
    show (r, g r.x) :: rs.zip (po rs g) = _
    rw [zipg rs]
    rfl
theorem po_len : rs.length = (po rs g).length := by
  unfold po nm
  simp
def liv (s : Nm) : Bool := decide (s.s = "done" ∨ s.s = "maybe")
theorem liv_done : liv sDone = true := by decide +kernel
theorem n1 : ¬ ("attempt" : Str) = "undo" := by decide +kernel
theorem n2 : ¬ ("ask" : Str) = "attempt" := by decide +kernel
theorem n3 : ¬ ("ask" : Str) = "undo" := by decide +kernel
theorem n4 : ¬ ("undo" : Str) = "attempt" := by decide +kernel
theorem n5 : ¬ ("maybe" : Str) = "open" := by decide +kernel
end
end MG
namespace VP
open PySem PySem.Spec PyProof.Rows L2 DL GA
noncomputable def B_is_one_of : FS :=
 (fRet (fAndV (f1 (FV.pIsi "str") (fVar 0)) (f2 pIn (fVar 0) (fVar 1))))
noncomputable def F_is_one_of : FF := runF 2 false B_is_one_of
noncomputable def B_is_status : FS :=
 (fRet (fCall F_is_one_of [] (fCons (fVar 0) (fCons (fC (.v (.tup [(.str "open"), (.str "done"), (.str "maybe"), (.str "dead")]))) fNil))))
noncomputable def F_is_status : FF := runF 1 false B_is_status
noncomputable def B_is_tuple_of_of_is_status : FS :=
 (fRet (fAndV (f1 (FV.pIsi "tuple") (fVar 0)) (fCb bAll (fCons (fLc (iVal (fVar 0)) (gNm 2) fYes (FV.fCallV [("is_status", F_is_status)] 1 (fCons (fVar 2) fNil)) [2]) fNil))))
noncomputable def F_is_tuple_of_of_is_status : FF := runF 3 false B_is_tuple_of_of_is_status
noncomputable def B_require_paper : FS :=
 (fIf (fNot (fTru (fVar 0)))
  fNever
  fNext)
noncomputable def F_require_paper : FF := runF 3 false B_require_paper
noncomputable def L_lets_position_0 : FS :=
 (fSeq (fDrop (fCall F_require_paper [] (fCons (fOrV (f2 pNe (f2 pIx (fVar 1) (fVar 3)) (fC (.v (.str "dead")))) (f2 pNotIn (fC (.v (.str "again"))) (fVar 7))) (fCons (fC (.v (.str "dead"))) (fCons (fVar 3) fNil)))))
  (fSeq (fSet (fOrV (f2 pNotIn (f2 pIx (fVar 1) (fVar 3)) (fTup (fCons (fC (.v (.str "done"))) (fCons (fC (.v (.str "maybe"))) fNil)))) (fCb bAll (fCons (fLc (iVal (fVar 5)) (gNm 9) fYes (f2 pEq (f2 pIx (fVar 2) (fVar 9)) (fC (.v (.str "done")))) [9]) fNil))) (gNm 8))
  (fDrop (fCall F_require_paper [] (fCons (fVar 8) (fCons (fC (.v (.str "needs"))) (fCons (fVar 3) fNil)))))))
noncomputable def B_lets_position : FS :=
 (fSeq (fDrop (fCall F_require_paper [] (fCons (fAndV (fCall F_is_tuple_of_of_is_status [] (fCons (fVar 1) (fCons (fC (.v (.fn "is_status"))) fNil))) (f2 pEq (fCb bLen (fCons (fVar 1) fNil)) (fCb bLen (fCons (fVar 0) fNil)))) (fCons (fC (.v (.str "shape"))) (fCons (f1 pNeg (fC (.v (.int 1)))) fNil)))))
 (fSeq (fSet (fCall GM.F_statuses_by_step [] (fCons (fVar 0) (fCons (fVar 1) fNil))) (gNm 2))
 (fSeq (fFor (EN.iEn (fCons (fVar 0) fNil)) (gTp 2 (gCn (gNm 3) (gCn (gTp 4 (gCn (gNm 4) (gCn (gNm 5) (gCn (gNm 6) (gCn (gNm 7) gNl))))) gNl))) L_lets_position_0)
 (fRet (fCb bLen (fCons (fLc (iVal (fVar 1)) (gNm 10) (fTru (f2 pEq (fVar 10) (fC (.v (.str "done"))))) (fVar 10) [10]) fNil))))))
noncomputable def F_lets_position : FF := runF 11 false B_lets_position
theorem e_callV {tab : List (Str × FF)} {i : Nat} {g : FA} {env : Dnv} {S S1 S2 : Sto} {y : Str} {F : FF} {ds : List D} {r : D} (h1 : env[i]? = some (some (.v (.fn y)))) (h2 : tab.lookup y = some F) (h3 : g env S = .ok ds S1) (h4 : F ds S1 = .ok r S2) : FV.fCallV tab i g env S = .ok r S2 := by
  unfold FV.fCallV
  rw [h1]
  show (match tab.lookup y with | some F => (g env S).bind fun ds S1 => F ds S1 | none => .bad : Oc D) = _
  rw [h2]
  show (g env S).bind _ = _
  rw [h3]
  exact h4
theorem lk1 {x : Str} {F : FF} : ([(x, F)] : List (Str × FF)).lookup x = some F := by simp
theorem isi_s {x : Str} : FV.pIsi "str" (.str x) = some (.bl true) := by
  show (kitB "str" "str").map P.bl = _
  rw [show kitB "str" "str" = some true by decide +kernel]
  rfl
theorem isi_t {ps : List P} : FV.pIsi "tuple" (.tup ps) = some (.bl true) := by
  show (kitB "tuple" "tuple").map P.bl = _
  rw [show kitB "tuple" "tuple" = some true by decide +kernel]
  rfl
def stL : List Str := ["open", "done", "maybe", "dead"]
def abL : List Str := ["again", "ask", "repeat", "undo"]
theorem one_of {o : Ob} {T : Sto} {x : Nm} {ls : List Str} (h : x.s ∈ ls) (hk : ∀ l ∈ ls, PyData.strOk l = true) : F_is_one_of [.v (nP x), .v (.tup (ls.map P.str))] (o :: T) = .ok (.v (.bl true)) (o :: T) := by
  have e := in_lits (a := x) hk
  rw [decide_eq_true h] at e
  refine e_run ?_
  show (B_is_one_of [some (.v (nP x)), some (.v (.tup (ls.map P.str)))] _).F _
  unfold B_is_one_of
  exact s_RetE (S1 := o :: (T ++ [])) (e_andV (a := true) (e_f1 (e_var rfl) rfl isi_s) fun _ => e_f2 (e_var rfl) (e_var rfl) (e_l2 rfl rfl e)) e_close
theorem is_status {o : Ob} {T : Sto} {x : Nm} (h : x.s ∈ stL) : F_is_status [.v (nP x)] (o :: T) = .ok (.v (.bl true)) (o :: T) := by
  have c : ∀ T : Sto, F_is_one_of ([.v (nP x), .v (.tup (stL.map P.str))] ++ []) (o :: T) = .ok (.v (.bl true)) (o :: T) := fun T => one_of h (by decide +kernel)
  refine e_run ?_
  show (B_is_status [some (.v (nP x))] _).F _
  unfold B_is_status
  exact s_RetE (S1 := o :: (T ++ [])) (e_call (ds := [.v (nP x), .v (.tup (stL.map P.str))]) (e_cons (e_var rfl) (e_cons e_c e_nil)) (c _)) e_close
def az : P := .str "abcdefghijklmnopqrstuvwxyz"
def blOf : Option P → Bool
  | some (.bl b) => b
  | _ => false
def lowB (x : Nm) : Bool := decide (1 ≤ x.s.length) && decide (x.s.length ≤ 8) && (DL.signs x.s).all fun q => blOf (pIn q az)
theorem tup_sts {o : Ob} {T : Sto} {xs : List Nm} (h : ∀ x ∈ xs, x.s ∈ stL) (hl : xs.length ≤ 1000) : F_is_tuple_of_of_is_status [.v (tN xs), .v (.fn "is_status")] (o :: T) = .ok (.v (.bl true)) (o :: T) := by
  have ea := GM.o_all (f := fun _ : Nm => true) (xs := xs)
  rw [List.all_eq_true.mpr (fun _ _ => rfl)] at ea
  refine e_run ?_
  show (B_is_tuple_of_of_is_status [some (.v (tN xs)), some (.v (.fn "is_status")), none] _).F _
  unfold B_is_tuple_of_of_is_status
  exact s_RetE (S1 := o :: (T ++ [])) (e_andV (a := true) (e_f1 (e_var rfl) rfl isi_t) fun _ => e_cb (e_cons (e_lcA (xs := xs) (f := nP) (own := none) (hh := fun _ => P.bl true) (S1 := o :: (T ++ [])) (e_iv (e_var rfl) rfl) own_none (by omega) fun x hx => e_body e_gNm e_yes fun _ => e_callV rfl lk1 (e_cons (e_var rfl) e_nil) (is_status (h x hx))) e_nil) (a_cons rfl a_nil) ea) e_close
structure RwV (ns : List Nm) (r : Rw) : Prop where
  x : lowB r.x = true
  ne : Asc r.ne ∧ ∀ y ∈ r.ne, y ∈ ns ∧ y ≠ r.x
  se : Asc r.se ∧ ∀ y ∈ r.se, y ∈ ns ∧ y ≠ r.x
  ab : Asc r.ab ∧ (∀ y ∈ r.ab, y.s ∈ abL) ∧ (has "repeat" r.ab = true → has "again" r.ab = true)
structure VOk (rs : List Rw) : Prop where
  wok : WOk rs
  pos : 1 ≤ rs.length
  asc : Asc (nm rs)
  rw : ∀ r ∈ rs, RwV (nm rs) r
  rank : ∃ rk : Nm → Int, ∀ r ∈ rs, ∀ y ∈ r.ne, rk y < rk r.x
theorem paper {o : Ob} {T : Sto} {d e : D} : F_require_paper [.v (.bl true), d, e] (o :: T) = .ok (.v .non) (o :: T) := by
  refine e_run ?_
  show (B_require_paper [some (.v (.bl true)), some d, some e] _).F _
  unfold B_require_paper
  refine s_IfE (k := false) (S1 := o :: (T ++ [])) (e_not (a := true) (e_tru (e_var rfl) rfl rfl)) (fun z => by cases z) fun _ => s_Nx ?_
  dsimp only
  exact e_close (B := [])
theorem e_en {g : FA} {env : Dnv} {S S1 : Sto} {d : D} {t : Bool} {ps : List P} (h1 : g env S = .ok [d] S1) (h2 : seqV d = some (t, ps)) : EN.iEn g env S = .ok (EN.enP 0 ps, none) S1 := by
  unfold EN.iEn
  rw [h1]
  show (match seqV d with | some (_, ps) => .ok (EN.enP 0 ps, none) S1 | none => .bad : Oc (List P × Own)) = _
  rw [h2]
theorem en_at {α : Type} {f : α → P} {xs : List α} {i : Nat} {p : P} (h : (EN.enP 0 (xs.map f))[i]? = some p) : ∃ x, xs[i]? = some x ∧ p = .tup [.int (i : Nat), f x] := by
  obtain ⟨q, h1, h2⟩ := EN.enP_at h
  rw [List.getElem?_map] at h1
  obtain ⟨x, h3, rfl⟩ := Option.map_eq_some_iff.mp h1
  rw [Nat.zero_add] at h2
  exact ⟨x, h3, h2⟩
def rest (rs : List Rw) (ks : List Nm) : Nat := ((nm rs).filter fun x => !decide (x ∈ ks)).foldr (fun x n => (rowOf rs x).ne.length + n) 0
structure PV (rs : List Rw) (ps : List Nm) : Prop where
  len : rs.length = ps.length
  st : ∀ x ∈ ps, x.s ∈ stL
  dead : ∀ z ∈ rs.zip ps, z.2.s = "dead" → has "again" z.1.ab = false
  needs : ∀ z ∈ rs.zip ps, z.2.s = "done" ∨ z.2.s = "maybe" → ∀ y ∈ z.1.ne, (GM.stOf rs ps y).s = "done"
theorem lets_position {o : Ob} {T : Sto} {rs : List Rw} {ps : List Nm} (h : VOk rs) (v : PV rs ps) : F_lets_position [.v (wkP rs), .v (tN ps)] (o :: T) = .ok (.v (.int (ps.filter fun x : Nm => decide (x.s = ("done" : Str))).length)) (o :: T) := by
  have W := h.wok
  have hl := v.len
  have hll := W.len
  have hlenR : bLen [wkP rs] = some (.int rs.length) := by
    show some (P.int (rs.map rwP).length) = _
    rw [List.length_map]
  have hlenP : bLen [tN ps] = some (.int rs.length) := by
    show some (P.int (ps.map nP).length) = _
    rw [List.length_map, hl]
  have eE : pEq (.int (rs.length : Int)) (.int (rs.length : Int)) = some (.bl true) := by
    rw [o_eqI, decide_eq_true rfl]
  have c1 : ∀ T : Sto, GM.F_statuses_by_step ([.v (wkP rs), .v (tN ps)] ++ []) (o :: T) = .ok (.v (GM.sdP rs ps)) (o :: T) := fun T => GM.statuses W hl
  refine e_run ?_
  show (B_lets_position [some (.v (wkP rs)), some (.v (tN ps)), none, none, none, none, none, none, none, none, none] _).F _
  unfold B_lets_position
  refine s_Seq (s_DropE (S1 := o :: (T ++ [])) (e_call (ds := [.v (.bl true), .v (.str "shape"), .v (.int (-1))]) (e_cons (e_andV (a := true) (b := true) (e_call (e_cons (e_var rfl) (e_cons e_c e_nil)) (tup_sts v.st (by omega))) fun _ => e_f2 (e_cb (e_cons (e_var rfl) e_nil) (a_cons rfl a_nil) hlenP) (e_cb (e_cons (e_var rfl) e_nil) (a_cons rfl a_nil) hlenR) (e_l2 rfl rfl eE)) (e_cons e_c (e_cons (e_f1 e_c rfl rfl) e_nil))) paper) ?_)
  refine s_Seq (s_SetE (S1 := o :: (T ++ [])) (e_call (ds := [.v (wkP rs), .v (tN ps)]) (e_cons (e_var rfl) (e_cons (e_var rfl) e_nil)) (c1 _)) e_gNm ?_)
  refine s_Seq (s_ForE (z := (EN.enP 0 (rs.map rwP), none)) (S1 := o :: (T ++ [])) (e_en (t := true) (e_cons (e_var rfl) e_nil) rfl) ?_)
  refine s_Loop (fun i env S => ∃ e3 e4 e5 e6 e7 e8 e9 e10 : Option D, env = [some (.v (wkP rs)), some (.v (tN ps)), some (.v (GM.sdP rs ps)), e3, e4, e5, e6, e7, e8, e9, e10] ∧ S = o :: (T ++ []))
    ⟨_, _, _, _, _, _, _, _, rfl, rfl⟩ (fun _ _ _ _ => own_none) ?_ ?_
  · rintro i p env S hi ⟨e3, e4, e5, e6, e7, e8, e9, e10, rfl, rfl⟩
    obtain ⟨r, hr, rfl⟩ := en_at hi
    have hrm := List.mem_of_getElem? hr
    have hil := lt_of_at hr
    have hw := h.rw r hrm
    obtain ⟨x, hx⟩ : ∃ x, ps[i]? = some x := ⟨_, List.getElem?_eq_getElem (by omega)⟩
    have hz : (r, x) ∈ rs.zip ps := List.mem_of_getElem? (i := i) (by rw [List.getElem?_zip_eq_some]; exact ⟨hr, hx⟩)
    have eix : pIx (tN ps) (.int i) = some (nP x) := (o_ix (f := nP) hx).2
    have eD : (!decide (x.s = "dead") || !has "again" r.ab) = true := by
      by_cases e : x.s = "dead"
      · rw [v.dead _ hz e]
        simp
      · rw [decide_eq_false e]
        rfl
    have ea := GM.o_all (f := fun y : Nm => decide ((GM.stOf rs ps y).s = "done")) (xs := r.ne)
    have hnel := W.ne r hrm
    have eF : (!decide (x.s = "done" ∨ x.s = "maybe") || r.ne.all fun y => decide ((GM.stOf rs ps y).s = "done")) = true := by
      by_cases e : x.s = "done" ∨ x.s = "maybe"
      · rw [List.all_eq_true.mpr fun y hy => decide_eq_true (v.needs _ hz e y hy)]
        simp
      · rw [decide_eq_false e]
        rfl
    refine P_of (S := o :: (T ++ [])) (e_gTp rfl (e_gCn e_gNm (e_gCn (e_gTp rfl (e_gCn e_gNm (e_gCn e_gNm (e_gCn e_gNm (e_gCn e_gNm e_gNl))))) e_gNl))) ?_
    unfold L_lets_position_0
    refine s_Seq (s_DropE (S1 := o :: (T ++ [])) (e_call (ds := [.v (.bl (!decide (x.s = "dead") || !has "again" r.ab)), .v (.str "dead"), .v (.int i)]) (e_cons (e_orV (e_f2 (e_f2 (e_var rfl) (e_var rfl) (e_l2 rfl rfl eix)) e_c (e_l2 rfl rfl (o_neL (by decide +kernel)))) fun _ => e_f2 e_c (e_var rfl) (e_l2 rfl rfl (o_niW (by decide +kernel)))) (e_cons e_c (e_cons (e_var rfl) e_nil))) (by rw [eD]; exact paper)) ?_)
    refine s_Seq (s_SetE (d := .v (.bl (!decide (x.s = "done" ∨ x.s = "maybe") || r.ne.all fun y => decide ((GM.stOf rs ps y).s = "done")))) (S1 := o :: (T ++ [])) (e_orV (e_f2 (e_f2 (e_var rfl) (e_var rfl) (e_l2 rfl rfl eix)) (e_tup (ds := [.v (.str "done"), .v (.str "maybe")]) (e_cons e_c (e_cons e_c e_nil)) rfl (by show (2 : Nat) ≤ 100000; decide)) (e_l2 rfl rfl (o_ni2 (by decide +kernel) (by decide +kernel)))) fun _ => e_cb (e_cons (e_lcA (xs := r.ne) (f := nP) (own := none) (hh := fun y => P.bl (decide ((GM.stOf rs ps y).s = "done"))) (S1 := o :: (T ++ [])) (e_iv (e_var rfl) rfl) own_none (by omega) fun y hy => e_body e_gNm e_yes fun _ => e_f2 (e_f2 (e_var rfl) (e_var rfl) (e_l2 rfl rfl (GM.o_st hl (hw.ne.2 y hy).1))) e_c (e_l2 rfl rfl (o_eqL (by decide +kernel)))) e_nil) (a_cons rfl a_nil) ea) e_gNm ?_)
    exact s_DropE (S1 := o :: (T ++ [])) (e_call (ds := [.v (.bl (!decide (x.s = "done" ∨ x.s = "maybe") || r.ne.all fun y => decide ((GM.stOf rs ps y).s = "done"))), .v (.str "needs"), .v (.int i)]) (e_cons (e_var rfl) (e_cons e_c (e_cons (e_var rfl) e_nil))) (by rw [eF]; exact paper)) ⟨_, _, _, _, _, _, _, _, rfl, rfl⟩
  · rintro env S ⟨e3, e4, e5, e6, e7, e8, e9, e10, rfl, rfl⟩
    dsimp only
    have hbl : bLen [.lst ((ps.filter fun x : Nm => decide (x.s = ("done" : Str))).map nP)] = some (.int (ps.filter fun x : Nm => decide (x.s = ("done" : Str))).length) := by
      show some (P.int ((ps.filter fun x : Nm => decide (x.s = ("done" : Str))).map nP).length) = _
      rw [List.length_map]
    exact s_RetE (e_cb (e_cons (e_lc (xs := ps) (f := nP) (own := none) (q := fun x : Nm => decide (x.s = ("done" : Str))) (hh := nP) (S1 := o :: (T ++ [])) (e_iv (e_var rfl) rfl) own_none (by omega) fun x hx => e_body e_gNm (e_tru (e_f2 (e_var rfl) e_c (e_l2 rfl rfl (o_eqL (by decide +kernel)))) rfl rfl) fun _ => e_var rfl) e_nil) (a_cons rfl a_nil) hbl) e_close
end VP
namespace K07
open PySem PySem.Spec PyProof.Rows L2 DL
variable [Tb]
abbrev N__law_is_position : List Str := ["_law_work", "_law_position", "_law_status", "_law_k", "_law_name", "_law_needs", "_law_seals", "_law_abilities", "_law_own"]
noncomputable def L__law_is_position_0 : FS :=
 (fSeq (fIf (fAnd (fTru (f2 pEq (f2 pIx (fVar 2) (fVar 4)) (fC (.v (.str "dead"))))) (fTru (f2 pIn (fC (.v (.str "again"))) (fVar 7))))
   (fRet (fC (.v (.bl false))))
   fNext)
  (fIf (fAnd (fTru (f2 pIn (f2 pIx (fVar 2) (fVar 4)) (fTup (fCons (fC (.v (.str "done"))) (fCons (fC (.v (.str "maybe"))) fNil))))) (fTru (f2 pNe (fLc (iVal (fVar 5)) (gNm 8) (fTru (f2 pNe (f2 pIx (fVar 2) (fVar 8)) (fC (.v (.str "done"))))) (fVar 8) [8]) (fLst fNil))))
   (fRet (fC (.v (.bl false))))
   fNext))
noncomputable def B__law_is_position : FS :=
 (fSeq (fSet (fCb bDict (fCons (fLc (iR1 (fCons (fCb bLen (fCons (fVar 0) fNil)) fNil)) (gNm 3) fYes (fTup (fCons (f2 pIx (f2 pIx (fVar 0) (fVar 3)) (fC (.v (.int 0)))) (fCons (f2 pIx (fVar 1) (fVar 3)) fNil))) [3]) fNil)) (gNm 2))
 (fSeq (fFor (iVal (fVar 0)) (gTp 4 (gCn (gNm 4) (gCn (gNm 5) (gCn (gNm 6) (gCn (gNm 7) gNl))))) L__law_is_position_0)
 (fRet (fC (.v (.bl true))))))
noncomputable def F__law_is_position : FF := runF 9 false B__law_is_position
abbrev N__law_names : List Str := ["_law_work", "_law_entry_here"]
abbrev N__law_all_positions : List Str := ["_law_work", "_law_found", "_law_name", "_law_longer", "_law_one", "_law_status"]
noncomputable def L__law_all_positions_0 : FS :=
 (fDrop (fMt mExtend (fVar 3) (fCons (fLc (iVal (fTup (fCons (fC (.v (.str "dead"))) (fCons (fC (.v (.str "done"))) (fCons (fC (.v (.str "maybe"))) (fCons (fC (.v (.str "open"))) fNil)))))) (gNm 5) fYes (f2 pAdd (fVar 4) (fTup (fCons (fVar 5) fNil))) [5]) fNil)))
noncomputable def L__law_all_positions_1 : FS :=
 (fSeq (fSet (fLstB fNil) (gNm 3))
  (fSeq (fFor (iVal (fVar 1)) (gNm 4) L__law_all_positions_0)
  (fSet (fVar 3) (gNm 1))))
noncomputable def B__law_all_positions : FS :=
 (fSeq (fSet (fLst (fCons (fTup fNil) fNil)) (gNm 1))
 (fSeq (fFor (iVal (fCall FA.F__law_names [] (fCons (fVar 0) fNil))) (gNm 2) L__law_all_positions_1)
 (fRet (fLc (iVal (fVar 1)) (gNm 4) (fTru (fCall F__law_is_position [] (fCons (fVar 0) (fCons (fVar 4) fNil)))) (fVar 4) [4]))))
noncomputable def F__law_all_positions : FF := runF 6 false B__law_all_positions
abbrev N__law_entry : List Str := ["_law_work", "_law_name", "_law_entry_here"]
abbrev N_is_one_of : List Str := ["thing", "words"]
abbrev N_is_status : List Str := ["thing"]
abbrev N_is_tuple_of : List Str := ["thing", "check", "one"]
abbrev N_require_paper : List Str := ["condition", "word", "at"]
abbrev N_statuses_by_step : List Str := ["work", "position", "row", "status"]
abbrev N_lets_position : List Str := ["work", "thing", "status_of", "k", "step", "needs", "seals", "abilities", "is_free", "need", "status"]
abbrev N_steps_with : List Str := ["work", "position", "statuses", "row", "status"]
abbrev N_worlds_of : List Str := ["work", "position", "found", "step", "world"]
abbrev N__law_check_position : List Str := ["_law_work", "_law_position", "_law_found", "_law_names_here", "_law_size", "_law_status", "_law_k", "_law_many", "_law_one", "_law_want", "_law_name", "_law_own", "_law_other", "_law_both"]
noncomputable def L__law_check_position_0 : FS :=
 (fSet (fIte (fTru (f2 pEq (fVar 5) (fC (.v (.str "maybe"))))) (f2 pMul (fC (.v (.int 2))) (fVar 4)) (fVar 4)) (gNm 4))
noncomputable def L__law_check_position_1 : FS :=
 (fSeq (fSet (fCb bLen (fCons (fLc (iVal (fVar 2)) (gNm 8) (fTru (f2 pIn (f2 pIx (fVar 3) (fVar 6)) (fVar 8))) (fVar 8) [8]) fNil)) (gNm 7))
  (fSeq (fSet (f2 pIx (fDic [((fC (.v (.str "done"))), (fVar 4)), ((fC (.v (.str "maybe"))), (f2 pFdiv (fVar 4) (fC (.v (.int 2))))), ((fC (.v (.str "open"))), (fC (.v (.int 0)))), ((fC (.v (.str "dead"))), (fC (.v (.int 0))))]) (f2 pIx (fVar 1) (fVar 6))) (gNm 9))
  (fIf (fTru (f2 pNe (fVar 7) (fVar 9)))
   (fRet (fC (.v (.bl false))))
   fNext)))
noncomputable def L__law_check_position_2 : FS :=
 (fSeq (fIf (fTru (f2 pNe (fLc (iVal (fVar 8)) (gNm 10) (fTru (f2 pNotIn (fVar 10) (fVar 3))) (fVar 10) [10]) (fLst fNil)))
   (fRet (fC (.v (.bl false))))
   fNext)
  (fIf (fTru (f2 pNe (fLc (iVal (fVar 8)) (gNm 10) (fTru (f2 pNe (fLc (iVal (f2 pIx (fCall FA.F__law_entry [] (fCons (fVar 0) (fCons (fVar 10) fNil))) (fC (.v (.int 1))))) (gNm 11) (fTru (f2 pNotIn (fVar 11) (fVar 8))) (fVar 11) [11]) (fLst fNil))) (fVar 10) [10]) (fLst fNil)))
   (fRet (fC (.v (.bl false))))
   fNext))
noncomputable def L__law_check_position_3 : FS :=
 (fSeq (fSet (fCb bTuple (fCons (fLc (iVal (fVar 8)) (gNm 10) (fTru (f2 pIn (fVar 10) (fVar 12))) (fVar 10) [10]) fNil)) (gNm 13))
   (fIf (fOr (fTru (f2 pNotIn (fVar 13) (fVar 2))) (fTru (f2 pNotIn (fCb bTuple (fCons (fCb bSortSet (fCons (f2 pAdd (fVar 8) (fVar 12)) fNil)) fNil)) (fVar 2))))
    (fRet (fC (.v (.bl false))))
    fNext))
noncomputable def L__law_check_position_4 : FS :=
 (fFor (iVal (fSl (fVar 2) (oAt (f1 pNeg (fC (.v (.int 3))))) oNo)) (gNm 12) L__law_check_position_3)
noncomputable def B__law_check_position : FS :=
 (fSeq (fPar 2 3 (fCons (fCall GW.F_worlds_of [] (fCons (fVar 0) (fCons (fVar 1) fNil))) (fCons (fCall FA.F__law_names [] (fCons (fVar 0) fNil)) fNil)))
 (fSeq (fSet (fC (.v (.int 1))) (gNm 4))
 (fSeq (fFor (iVal (fVar 1)) (gNm 5) L__law_check_position_0)
 (fSeq (fIf (fOr (fTru (f2 pNe (fCb bLen (fCons (fVar 2) fNil)) (fVar 4))) (fTru (f2 pNe (fCb bList (fCons (fVar 2) fNil)) (fCb bSortSet (fCons (fVar 2) fNil)))))
  (fRet (fC (.v (.bl false))))
  fNext)
 (fSeq (fFor (iR1 (fCons (fCb bLen (fCons (fVar 3) fNil)) fNil)) (gNm 6) L__law_check_position_1)
 (fSeq (fFor (iVal (fVar 2)) (gNm 8) L__law_check_position_2)
 (fSeq (fFor (iVal (fSl (fVar 2) oNo (oAt (fC (.v (.int 3)))))) (gNm 8) L__law_check_position_4)
 (fRet (f2 pEq (fCall VP.F_lets_position [] (fCons (fVar 0) (fCons (fVar 1) fNil))) (fCb MN.bMin1 (fCons (fLc (iVal (fVar 2)) (gNm 8) fYes (fCb bLen (fCons (fVar 8) fNil)) [8]) fNil)))))))))))
noncomputable def F__law_check_position : FF := runF 14 false B__law_check_position
abbrev N__law_fixed_works : List Str := ["_law_names_here", "_law_chain", "_law_k", "_law_ring", "_law_free", "_law_name", "_law_back", "_law_trip"]
abbrev N__law_draw : List Str := ["_law_reader_here", "_law_many", "_law_calls", "_law_figure", "_law_spot", "_law_cells", "_law_cell", "_law_once"]
abbrev N__law_order : List Str := ["_law_work", "_law_found", "_law_name", "_law_needs", "_law_seals", "_law_abilities", "_law_own"]
abbrev N__law_random_position : List Str := ["_law_reader_here", "_law_work", "_law_status", "_law_name", "_law_needs", "_law_abilities", "_law_choices", "_law_own"]
abbrev N__law_random_abilities : List Str := ["_law_reader_here", "_law_found", "_law_one"]
abbrev N__law_random_some : List Str := ["_law_reader_here", "_law_names_here", "_law_most", "_law_count", "_law_k"]
abbrev N__law_random_work : List Str := ["_law_reader_here", "_law_most", "_law_pool", "_law_order_here", "_law_found", "_law_k", "_law_others", "_law_needs", "_law_seals"]
abbrev N__law_reader : List Str := ["_law_script"]
abbrev N_start_of : List Str := ["work"]
abbrev N_law : List Str := ["_law_script", "_law_reader_here", "_law_cases", "_law_k", "_law_work", "_law_small", "_law_seen", "_law_position", "_law_own", "_law_status", "_law_found"]
noncomputable def L_law_0 : FS :=
 (fDrop (fMt mAppend (fVar 2) (fCons (fCall FA.F__law_random_work [] (fCons (fVar 1) (fCons (fC (.v (.int 8))) fNil))) fNil)))
noncomputable def L_law_1 : FS :=
 (fIf (fNot (fTru (fCall F__law_check_position [] (fCons (fVar 4) (fCons (fCall FA.F__law_random_position [] (fCons (fVar 1) (fCons (fVar 4) fNil))) fNil)))))
    (fRet (fC (.v (.bl false))))
    fNext)
noncomputable def L_law_2 : FS :=
 (fSeq (fIf (fTru (f2 pNe (fCall GW.F_worlds_of [] (fCons (fVar 4) (fCons (fCall GM.F_start_of [] (fCons (fVar 4) fNil)) fNil))) (fTup (fCons (fTup fNil) fNil))))
   (fRet (fC (.v (.bl false))))
   fNext)
  (fFor (iR1 (fCons (fC (.v (.int 3))) fNil)) (gNm 3) L_law_1))
noncomputable def L_law_3 : FS :=
 (fSeq (fSet (fCb bTuple (fCons (fLc (iVal (fVar 7)) (gNm 9) fYes (fIte (fTru (f2 pIn (fVar 9) (fTup (fCons (fC (.v (.str "done"))) (fCons (fC (.v (.str "maybe"))) fNil))))) (fVar 9) (fC (.v (.str "out")))) [9]) fNil)) (gNm 8))
  (fSeq (fSet (fCall GW.F_worlds_of [] (fCons (fVar 5) (fCons (fVar 7) fNil))) (gNm 10))
  (fSeq (fIf (fOr (fNot (fTru (fCall F__law_check_position [] (fCons (fVar 5) (fCons (fVar 7) fNil))))) (fTru (f2 pNe (fGetN2 (fVar 6) (fVar 10) (fVar 8)) (fVar 8))))
   (fRet (fC (.v (.bl false))))
   fNext)
  (fSet (fVar 8) (gSbN (fVar 6) (fVar 10))))))
noncomputable def B_law : FS :=
 (fSeq (fSet (fCall FA.F__law_reader [] (fCons (fVar 0) fNil)) (gNm 1))
 (fSeq (fSet (fCall FA.F__law_fixed_works [] fNil) (gNm 2))
 (fSeq (fFor (iR1 (fCons (fC (.v (.int 4))) fNil)) (gNm 3) L_law_0)
 (fSeq (fFor (iVal (fVar 2)) (gNm 4) L_law_2)
 (fSeq (fPar 5 6 (fCons (fCall FA.F__law_random_work [] (fCons (fVar 1) (fCons (fC (.v (.int 3))) fNil))) (fCons fDn0B fNil)))
 (fSeq (fFor (iVal (fCall F__law_all_positions [] (fCons (fVar 5) fNil))) (gNm 7) L_law_3)
 (fRet (fC (.v (.bl true))))))))))
noncomputable def F_law : FF := runF 11 false B_law
structure Cf (w : World) (K : PySem.W.Frag) (mg : Str → Option Value) where
  k__law_is_position : FuncData
  d__law_is_position : FunD K "_law_is_position" "_law_is_position" (defArgs s__law_is_position) (defBody s__law_is_position) (defScope s__law_is_position) [] [] (He.ga K "_law_is_position") k__law_is_position
  g__law_is_position : mg "_law_is_position" = some (.ref (He.ga K "_law_is_position"))
  k__law_names : FuncData
  d__law_names : FunD K "_law_names" "_law_names" (defArgs s__law_names) (defBody s__law_names) (defScope s__law_names) [] [] (He.ga K "_law_names") k__law_names
  g__law_names : mg "_law_names" = some (.ref (He.ga K "_law_names"))
  k__law_all_positions : FuncData
  d__law_all_positions : FunD K "_law_all_positions" "_law_all_positions" (defArgs s__law_all_positions) (defBody s__law_all_positions) (defScope s__law_all_positions) [] [] (He.ga K "_law_all_positions") k__law_all_positions
  g__law_all_positions : mg "_law_all_positions" = some (.ref (He.ga K "_law_all_positions"))
  k__law_entry : FuncData
  d__law_entry : FunD K "_law_entry" "_law_entry" (defArgs s__law_entry) (defBody s__law_entry) (defScope s__law_entry) [] [] (He.ga K "_law_entry") k__law_entry
  g__law_entry : mg "_law_entry" = some (.ref (He.ga K "_law_entry"))
  k_is_one_of : FuncData
  d_is_one_of : FunD K "is_one_of" "is_one_of" (defArgs s_is_one_of) (defBody s_is_one_of) (defScope s_is_one_of) [] [] (He.ga K "is_one_of") k_is_one_of
  g_is_one_of : mg "is_one_of" = some (.ref (He.ga K "is_one_of"))
  k_is_status : FuncData
  d_is_status : FunD K "is_status" "is_status" (defArgs s_is_status) (defBody s_is_status) (defScope s_is_status) [] [] (He.ga K "is_status") k_is_status
  g_is_status : mg "is_status" = some (.ref (He.ga K "is_status"))
  k_is_tuple_of : FuncData
  d_is_tuple_of : FunD K "is_tuple_of" "is_tuple_of" (defArgs s_is_tuple_of) (defBody s_is_tuple_of) (defScope s_is_tuple_of) [] [] (He.ga K "is_tuple_of") k_is_tuple_of
  g_is_tuple_of : mg "is_tuple_of" = some (.ref (He.ga K "is_tuple_of"))
  k_require_paper : FuncData
  d_require_paper : FunD K "require_paper" "require_paper" (defArgs s_require_paper) (defBody s_require_paper) (defScope s_require_paper) [] [] (He.ga K "require_paper") k_require_paper
  g_require_paper : mg "require_paper" = some (.ref (He.ga K "require_paper"))
  k_statuses_by_step : FuncData
  d_statuses_by_step : FunD K "statuses_by_step" "statuses_by_step" (defArgs s_statuses_by_step) (defBody s_statuses_by_step) (defScope s_statuses_by_step) [] [] (He.ga K "statuses_by_step") k_statuses_by_step
  g_statuses_by_step : mg "statuses_by_step" = some (.ref (He.ga K "statuses_by_step"))
  k_lets_position : FuncData
  d_lets_position : FunD K "lets_position" "lets_position" (defArgs s_lets_position) (defBody s_lets_position) (defScope s_lets_position) [] [] (He.ga K "lets_position") k_lets_position
  g_lets_position : mg "lets_position" = some (.ref (He.ga K "lets_position"))
  k_steps_with : FuncData
  d_steps_with : FunD K "steps_with" "steps_with" (defArgs s_steps_with) (defBody s_steps_with) (defScope s_steps_with) [] [] (He.ga K "steps_with") k_steps_with
  g_steps_with : mg "steps_with" = some (.ref (He.ga K "steps_with"))
  k_worlds_of : FuncData
  d_worlds_of : FunD K "worlds_of" "worlds_of" (defArgs s_worlds_of) (defBody s_worlds_of) (defScope s_worlds_of) [] [] (He.ga K "worlds_of") k_worlds_of
  g_worlds_of : mg "worlds_of" = some (.ref (He.ga K "worlds_of"))
  k__law_check_position : FuncData
  d__law_check_position : FunD K "_law_check_position" "_law_check_position" (defArgs s__law_check_position) (defBody s__law_check_position) (defScope s__law_check_position) [] [] (He.ga K "_law_check_position") k__law_check_position
  g__law_check_position : mg "_law_check_position" = some (.ref (He.ga K "_law_check_position"))
  k__law_fixed_works : FuncData
  d__law_fixed_works : FunD K "_law_fixed_works" "_law_fixed_works" (defArgs s__law_fixed_works) (defBody s__law_fixed_works) (defScope s__law_fixed_works) [] [] (He.ga K "_law_fixed_works") k__law_fixed_works
  g__law_fixed_works : mg "_law_fixed_works" = some (.ref (He.ga K "_law_fixed_works"))
  k__law_draw : FuncData
  d__law_draw : FunD K "_law_draw" "_law_draw" (defArgs s__law_draw) (defBody s__law_draw) (defScope s__law_draw) [] [] (He.ga K "_law_draw") k__law_draw
  g__law_draw : mg "_law_draw" = some (.ref (He.ga K "_law_draw"))
  k__law_order : FuncData
  d__law_order : FunD K "_law_order" "_law_order" (defArgs s__law_order) (defBody s__law_order) (defScope s__law_order) [] [] (He.ga K "_law_order") k__law_order
  g__law_order : mg "_law_order" = some (.ref (He.ga K "_law_order"))
  k__law_random_position : FuncData
  d__law_random_position : FunD K "_law_random_position" "_law_random_position" (defArgs s__law_random_position) (defBody s__law_random_position) (defScope s__law_random_position) [] [] (He.ga K "_law_random_position") k__law_random_position
  g__law_random_position : mg "_law_random_position" = some (.ref (He.ga K "_law_random_position"))
  k__law_random_abilities : FuncData
  d__law_random_abilities : FunD K "_law_random_abilities" "_law_random_abilities" (defArgs s__law_random_abilities) (defBody s__law_random_abilities) (defScope s__law_random_abilities) [] [] (He.ga K "_law_random_abilities") k__law_random_abilities
  g__law_random_abilities : mg "_law_random_abilities" = some (.ref (He.ga K "_law_random_abilities"))
  k__law_random_some : FuncData
  d__law_random_some : FunD K "_law_random_some" "_law_random_some" (defArgs s__law_random_some) (defBody s__law_random_some) (defScope s__law_random_some) [] [] (He.ga K "_law_random_some") k__law_random_some
  g__law_random_some : mg "_law_random_some" = some (.ref (He.ga K "_law_random_some"))
  k__law_random_work : FuncData
  d__law_random_work : FunD K "_law_random_work" "_law_random_work" (defArgs s__law_random_work) (defBody s__law_random_work) (defScope s__law_random_work) [] [] (He.ga K "_law_random_work") k__law_random_work
  g__law_random_work : mg "_law_random_work" = some (.ref (He.ga K "_law_random_work"))
  k__law_reader : FuncData
  d__law_reader : FunD K "_law_reader" "_law_reader" (defArgs s__law_reader) (defBody s__law_reader) (defScope s__law_reader) [] [] (He.ga K "_law_reader") k__law_reader
  g__law_reader : mg "_law_reader" = some (.ref (He.ga K "_law_reader"))
  k_start_of : FuncData
  d_start_of : FunD K "start_of" "start_of" (defArgs s_start_of) (defBody s_start_of) (defScope s_start_of) [] [] (He.ga K "start_of") k_start_of
  g_start_of : mg "start_of" = some (.ref (He.ga K "start_of"))
  k_law : FuncData
  d_law : FunD K "law" "law" (defArgs s_law) (defBody s_law) (defScope s_law) [] [] (He.ga K "law") k_law
  g_law : mg "law" = some (.ref (He.ga K "law"))
  n_all : mg "all" = none
  n_dict : mg "dict" = none
  n_enumerate : mg "enumerate" = none
  n_int : mg "int" = none
  n_isinstance : mg "isinstance" = none
  n_len : mg "len" = none
  n_list : mg "list" = none
  n_min : mg "min" = none
  n_range : mg "range" = none
  n_set : mg "set" = none
  n_sorted : mg "sorted" = none
  n_str : mg "str" = none
  n_tuple : mg "tuple" = none
  n_zip : mg "zip" = none
  c_STATUSES : isB K (.tup [(.str "open"), (.str "done"), (.str "maybe"), (.str "dead")]) (gvV "STATUSES" K) = true
  m_STATUSES : mg "STATUSES" = some (gvV "STATUSES" K)
  g_InvalidPaper : mg "InvalidPaper" = some (.ref (He.ga K "InvalidPaper"))
  g_PaperError : mg "PaperError" = some (.ref (He.ga K "PaperError"))
  k_InvalidPaper_init : FuncData
  i_InvalidPaper : FunD K "__init__" "InvalidPaper.__init__" (defArgs si_InvalidPaper) (defBody si_InvalidPaper) (defScope si_InvalidPaper) [] [] (He.ma K (He.ga K "InvalidPaper") "__init__") k_InvalidPaper_init
  x_InvalidPaper : XcC K "InvalidPaper" "PaperError" ["word", "at"]
  hw : Tb.hf = hashStr w
  ht : Tb.t = (tbOf hl).t
  lm : (hl.map fun q => (He.cT K q.1).2).Nodup
theorem sc__law_is_position : FnScope N__law_is_position ["_law_work", "_law_position"] (defScope s__law_is_position) := ⟨rfl, rfl, rfl, by decide +kernel, rfl, by decide +kernel, by decide +kernel⟩
theorem sc__law_names : FnScope N__law_names ["_law_work"] (defScope s__law_names) := ⟨rfl, rfl, rfl, by decide +kernel, rfl, by decide +kernel, by decide +kernel⟩
theorem sc__law_all_positions : FnScope N__law_all_positions ["_law_work"] (defScope s__law_all_positions) := ⟨rfl, rfl, rfl, by decide +kernel, rfl, by decide +kernel, by decide +kernel⟩
theorem sc__law_entry : FnScope N__law_entry ["_law_work", "_law_name"] (defScope s__law_entry) := ⟨rfl, rfl, rfl, by decide +kernel, rfl, by decide +kernel, by decide +kernel⟩
theorem sc_is_one_of : FnScope N_is_one_of ["thing", "words"] (defScope s_is_one_of) := ⟨rfl, rfl, rfl, by decide +kernel, rfl, by decide +kernel, by decide +kernel⟩
theorem sc_is_status : FnScope N_is_status ["thing"] (defScope s_is_status) := ⟨rfl, rfl, rfl, by decide +kernel, rfl, by decide +kernel, by decide +kernel⟩
theorem sc_is_tuple_of : FnScope N_is_tuple_of ["thing", "check"] (defScope s_is_tuple_of) := ⟨rfl, rfl, rfl, by decide +kernel, rfl, by decide +kernel, by decide +kernel⟩
theorem sc_require_paper : FnScope N_require_paper ["condition", "word", "at"] (defScope s_require_paper) := ⟨rfl, rfl, rfl, by decide +kernel, rfl, by decide +kernel, by decide +kernel⟩
theorem sc_statuses_by_step : FnScope N_statuses_by_step ["work", "position"] (defScope s_statuses_by_step) := ⟨rfl, rfl, rfl, by decide +kernel, rfl, by decide +kernel, by decide +kernel⟩
theorem sc_lets_position : FnScope N_lets_position ["work", "thing"] (defScope s_lets_position) := ⟨rfl, rfl, rfl, by decide +kernel, rfl, by decide +kernel, by decide +kernel⟩
theorem sc_steps_with : FnScope N_steps_with ["work", "position", "statuses"] (defScope s_steps_with) := ⟨rfl, rfl, rfl, by decide +kernel, rfl, by decide +kernel, by decide +kernel⟩
theorem sc_worlds_of : FnScope N_worlds_of ["work", "position"] (defScope s_worlds_of) := ⟨rfl, rfl, rfl, by decide +kernel, rfl, by decide +kernel, by decide +kernel⟩
theorem sc__law_check_position : FnScope N__law_check_position ["_law_work", "_law_position"] (defScope s__law_check_position) := ⟨rfl, rfl, rfl, by decide +kernel, rfl, by decide +kernel, by decide +kernel⟩
theorem sc__law_fixed_works : FnScope N__law_fixed_works [] (defScope s__law_fixed_works) := ⟨rfl, rfl, rfl, by decide +kernel, rfl, by decide +kernel, by decide +kernel⟩
theorem sc__law_draw : FnScope N__law_draw ["_law_reader_here", "_law_many"] (defScope s__law_draw) := ⟨rfl, rfl, rfl, by decide +kernel, rfl, by decide +kernel, by decide +kernel⟩
theorem sc__law_order : FnScope N__law_order ["_law_work"] (defScope s__law_order) := ⟨rfl, rfl, rfl, by decide +kernel, rfl, by decide +kernel, by decide +kernel⟩
theorem sc__law_random_position : FnScope N__law_random_position ["_law_reader_here", "_law_work"] (defScope s__law_random_position) := ⟨rfl, rfl, rfl, by decide +kernel, rfl, by decide +kernel, by decide +kernel⟩
theorem sc__law_random_abilities : FnScope N__law_random_abilities ["_law_reader_here"] (defScope s__law_random_abilities) := ⟨rfl, rfl, rfl, by decide +kernel, rfl, by decide +kernel, by decide +kernel⟩
theorem sc__law_random_some : FnScope N__law_random_some ["_law_reader_here", "_law_names_here", "_law_most"] (defScope s__law_random_some) := ⟨rfl, rfl, rfl, by decide +kernel, rfl, by decide +kernel, by decide +kernel⟩
theorem sc__law_random_work : FnScope N__law_random_work ["_law_reader_here", "_law_most"] (defScope s__law_random_work) := ⟨rfl, rfl, rfl, by decide +kernel, rfl, by decide +kernel, by decide +kernel⟩
theorem sc__law_reader : FnScope N__law_reader ["_law_script"] (defScope s__law_reader) := ⟨rfl, rfl, rfl, by decide +kernel, rfl, by decide +kernel, by decide +kernel⟩
theorem sc_start_of : FnScope N_start_of ["work"] (defScope s_start_of) := ⟨rfl, rfl, rfl, by decide +kernel, rfl, by decide +kernel, by decide +kernel⟩
theorem sc_law : FnScope N_law ["_law_script"] (defScope s_law) := ⟨rfl, rfl, rfl, by decide +kernel, rfl, by decide +kernel, by decide +kernel⟩
section
variable {P : Program} {w : World} {K : PySem.W.Frag} {mg : Str → Option Value} {base : Heap}
theorem b__law_reader_1 (C : Cf w K mg) : Binds K C.k__law_reader ["_law_script"] [] := C.d__law_reader.bindsN fun _ _ _ _ _ _ us hl => match us, hl with | [_], _ => rfl
theorem b__law_fixed_works_0 (C : Cf w K mg) : Binds K C.k__law_fixed_works [] [] := C.d__law_fixed_works.bindsN fun _ _ _ _ _ _ us hl => match us, hl with | [], _ => rfl
theorem b__law_random_work_2 (C : Cf w K mg) : Binds K C.k__law_random_work ["_law_reader_here", "_law_most"] [] := C.d__law_random_work.bindsN fun _ _ _ _ _ _ us hl => match us, hl with | [_, _], _ => rfl
theorem b_start_of_1 (C : Cf w K mg) : Binds K C.k_start_of ["work"] [] := C.d_start_of.bindsN fun _ _ _ _ _ _ us hl => match us, hl with | [_], _ => rfl
theorem b_worlds_of_2 (C : Cf w K mg) : Binds K C.k_worlds_of ["work", "position"] [] := C.d_worlds_of.bindsN fun _ _ _ _ _ _ us hl => match us, hl with | [_, _], _ => rfl
theorem b__law_random_position_2 (C : Cf w K mg) : Binds K C.k__law_random_position ["_law_reader_here", "_law_work"] [] := C.d__law_random_position.bindsN fun _ _ _ _ _ _ us hl => match us, hl with | [_, _], _ => rfl
theorem b__law_check_position_2 (C : Cf w K mg) : Binds K C.k__law_check_position ["_law_work", "_law_position"] [] := C.d__law_check_position.bindsN fun _ _ _ _ _ _ us hl => match us, hl with | [_, _], _ => rfl
theorem b__law_all_positions_1 (C : Cf w K mg) : Binds K C.k__law_all_positions ["_law_work"] [] := C.d__law_all_positions.bindsN fun _ _ _ _ _ _ us hl => match us, hl with | [_], _ => rfl
theorem b__law_names_1 (C : Cf w K mg) : Binds K C.k__law_names ["_law_work"] [] := C.d__law_names.bindsN fun _ _ _ _ _ _ us hl => match us, hl with | [_], _ => rfl
theorem b__law_is_position_2 (C : Cf w K mg) : Binds K C.k__law_is_position ["_law_work", "_law_position"] [] := C.d__law_is_position.bindsN fun _ _ _ _ _ _ us hl => match us, hl with | [_, _], _ => rfl
theorem b__law_entry_2 (C : Cf w K mg) : Binds K C.k__law_entry ["_law_work", "_law_name"] [] := C.d__law_entry.bindsN fun _ _ _ _ _ _ us hl => match us, hl with | [_, _], _ => rfl
theorem b_lets_position_2 (C : Cf w K mg) : Binds K C.k_lets_position ["work", "thing"] [] := C.d_lets_position.bindsN fun _ _ _ _ _ _ us hl => match us, hl with | [_, _], _ => rfl
theorem b_is_tuple_of_2 (C : Cf w K mg) : Binds K C.k_is_tuple_of ["thing", "check"] [] := C.d_is_tuple_of.bindsN fun _ _ _ _ _ _ us hl => match us, hl with | [_, _], _ => rfl
theorem b_require_paper_3 (C : Cf w K mg) : Binds K C.k_require_paper ["condition", "word", "at"] [] := C.d_require_paper.bindsN fun _ _ _ _ _ _ us hl => match us, hl with | [_, _, _], _ => rfl
theorem b_statuses_by_step_2 (C : Cf w K mg) : Binds K C.k_statuses_by_step ["work", "position"] [] := C.d_statuses_by_step.bindsN fun _ _ _ _ _ _ us hl => match us, hl with | [_, _], _ => rfl
theorem b_is_one_of_2 (C : Cf w K mg) : Binds K C.k_is_one_of ["thing", "words"] [] := C.d_is_one_of.bindsN fun _ _ _ _ _ _ us hl => match us, hl with | [_, _], _ => rfl
theorem b_is_status_1 (C : Cf w K mg) : Binds K C.k_is_status ["thing"] [] := C.d_is_status.bindsN fun _ _ _ _ _ _ us hl => match us, hl with | [_], _ => rfl
theorem b_steps_with_3 (C : Cf w K mg) : Binds K C.k_steps_with ["work", "position", "statuses"] [] := C.d_steps_with.bindsN fun _ _ _ _ _ _ us hl => match us, hl with | [_, _, _], _ => rfl
theorem b__law_order_1 (C : Cf w K mg) : Binds K C.k__law_order ["_law_work"] [] := C.d__law_order.bindsN fun _ _ _ _ _ _ us hl => match us, hl with | [_], _ => rfl
theorem b__law_draw_2 (C : Cf w K mg) : Binds K C.k__law_draw ["_law_reader_here", "_law_many"] [] := C.d__law_draw.bindsN fun _ _ _ _ _ _ us hl => match us, hl with | [_, _], _ => rfl
theorem b__law_random_some_3 (C : Cf w K mg) : Binds K C.k__law_random_some ["_law_reader_here", "_law_names_here", "_law_most"] [] := C.d__law_random_some.bindsN fun _ _ _ _ _ _ us hl => match us, hl with | [_, _, _], _ => rfl
theorem b__law_random_abilities_1 (C : Cf w K mg) : Binds K C.k__law_random_abilities ["_law_reader_here"] [] := C.d__law_random_abilities.bindsN fun _ _ _ _ _ _ us hl => match us, hl with | [_], _ => rfl
theorem ok__law_is_position (C : Cf w K mg) : FnG P w K mg base 1 (He.ga K "_law_is_position") C.k__law_is_position ["_law_work", "_law_position"] F__law_is_position :=
 fn_D (k := 0) (N := N__law_is_position) C.d__law_is_position sc__law_is_position fun cdv A outer s H hr hX hp =>
 (s_cons (s_asg (d_ct (call_dictP hX.calm) on_dict C.n_dict bb_dict (d_cons (d_lc hX [(("_law_k" : Str), 3)] (i_rng1 C.n_range (d_cons (d_cb cr_len on_len C.n_len bb_len (d_cons (d_var (pv 0)) d_nil)) d_nil)) blk_ok (fun s H Cc cl fp => (w_nm (i := 3) hX.nd rfl (by first | exact .inl rfl | exact .inr rfl) (by decide) (by first | exact .inl rfl | exact .inr rfl))) (fun s H Cc cl fp => t_yes) (fun s H Cc cl fp => (d_tup (d_cons (d_ix (hX.blk _ _ _ _ _) (d_ix (hX.blk _ _ _ _ _) (d_var (pv 0)) (d_var (pv 3))) d_int) (d_cons (d_ix (hX.blk _ _ _ _ _) (d_var (pv 1)) (d_var (pv 3))) d_nil))))) d_nil)) (g_nm (i := 2) hX))
 (s_cons (s_for hX hp (b := L__law_is_position_0) (i_val (d_var (pv 0))) (g_tp hX (g_cn (g_nm (i := 4) hX) (g_cn (g_nm (i := 5) hX) (g_cn (g_nm (i := 6) hX) (g_cn (g_nm (i := 7) hX) g_nl)))))
  (s_cons (s_if (d_pt (w_and (t_eq hX (d_ix hX (d_var (pv 2)) (d_var (pv 4))) d_str) (w_and1 (t_in hX d_str (d_var (pv 7))))))
   (s_one (s_ret d_bl))
   s_nil)
  (s_one (s_if (d_pt (w_and (t_in hX (d_ix hX (d_var (pv 2)) (d_var (pv 4))) (d_tup (d_cons d_str (d_cons d_str d_nil)))) (w_and1 (t_ne hX (d_lc hX [(("_law_own" : Str), 8)] (i_val (d_var (pv 5))) blk_ok (fun s H Cc cl fp => (w_nm (i := 8) hX.nd rfl (by first | exact .inl rfl | exact .inr rfl) (by decide) (by first | exact .inl rfl | exact .inr rfl))) (fun s H Cc cl fp => (t_one (t_ne (hX.blk _ _ _ _ _) (d_ix (hX.blk _ _ _ _ _) (d_var (pv 2)) (d_var (pv 8))) d_str))) (fun s H Cc cl fp => (d_var (pv 8)))) (d_lst d_nil)))))
   (s_one (s_ret d_bl))
   s_nil))))
 (s_one (s_ret d_bl))))
theorem ok__law_names (C : Cf w K mg) : FnG P w K mg base 1 (He.ga K "_law_names") C.k__law_names ["_law_work"] FA.F__law_names :=
 fn_D (k := 0) (N := N__law_names) C.d__law_names sc__law_names fun cdv A outer s H hr hX hp =>
 (s_one (s_ret (d_lc hX [(("_law_entry_here" : Str), 1)] (i_val (d_var (pv 0))) blk_ok (fun s H Cc cl fp => (w_nm (i := 1) hX.nd rfl (by first | exact .inl rfl | exact .inr rfl) (by decide) (by first | exact .inl rfl | exact .inr rfl))) (fun s H Cc cl fp => t_yes) (fun s H Cc cl fp => (d_ix (hX.blk _ _ _ _ _) (d_var (pv 1)) d_int)))))
theorem ok__law_all_positions (C : Cf w K mg) : FnG P w K mg base 2 (He.ga K "_law_all_positions") C.k__law_all_positions ["_law_work"] F__law_all_positions :=
 fn_D (k := 1) (N := N__law_all_positions) C.d__law_all_positions sc__law_all_positions fun cdv A outer s H hr hX hp =>
 (s_cons (s_asg (d_lst (d_cons (d_tup d_nil) d_nil)) (g_nm (i := 1) hX))
 (s_cons (s_for hX hp (b := L__law_all_positions_1) (i_val (d_call (ok__law_names C) (hr.mono (by decide)) hX C.g__law_names C.d__law_names.kp (b__law_names_1 C) DvIs.nil (d_cons (d_var (pv 0)) d_nil) rfl (len_cons (n := 0) (fun _ _ _ _ h => len_nil h)))) (g_nm (i := 2) hX)
  (s_cons (s_asg (d_lstB d_nil) (g_nm (i := 3) hX))
  (s_cons (s_for hX hp (b := L__law_all_positions_0) (i_val (d_var (pv 1))) (g_nm (i := 4) hX)
   (s_one (s_drop (d_extend (d_var (pv 3)) (d_cons (d_lc hX [(("_law_status" : Str), 5)] (i_val (d_tup (d_cons d_str (d_cons d_str (d_cons d_str (d_cons d_str d_nil)))))) blk_ok (fun s H Cc cl fp => (w_nm (i := 5) hX.nd rfl (by first | exact .inl rfl | exact .inr rfl) (by decide) (by first | exact .inl rfl | exact .inr rfl))) (fun s H Cc cl fp => t_yes) (fun s H Cc cl fp => (d_add (d_var (pv 4)) (d_tup (d_cons (d_var (pv 5)) d_nil))))) d_nil)))))
  (s_one (s_asg (d_var (pv 3)) (g_nm (i := 1) hX))))))
 (s_one (s_ret (d_lc hX [(("_law_one" : Str), 4)] (i_val (d_var (pv 1))) blk_ok (fun s H Cc cl fp => (w_nm (i := 4) hX.nd rfl (by first | exact .inl rfl | exact .inr rfl) (by decide) (by first | exact .inl rfl | exact .inr rfl))) (fun s H Cc cl fp => (t_one (d_tru (d_call (ok__law_is_position C) (hr.mono (by decide)) (hX.blk _ _ _ _ _) C.g__law_is_position C.d__law_is_position.kp (b__law_is_position_2 C) DvIs.nil (d_cons (d_var (pv 0)) (d_cons (d_var (pv 4)) d_nil)) rfl (len_cons (n := 1) (len_cons (n := 0) (fun _ _ _ _ h => len_nil h))))))) (fun s H Cc cl fp => (d_var (pv 4))))))))
theorem ok__law_entry (C : Cf w K mg) : FnG P w K mg base 1 (He.ga K "_law_entry") C.k__law_entry ["_law_work", "_law_name"] FA.F__law_entry :=
 fn_D (k := 0) (N := N__law_entry) C.d__law_entry sc__law_entry fun cdv A outer s H hr hX hp =>
 (s_one (s_ret (d_ix hX (d_lc hX [(("_law_entry_here" : Str), 2)] (i_val (d_var (pv 0))) blk_ok (fun s H Cc cl fp => (w_nm (i := 2) hX.nd rfl (by first | exact .inl rfl | exact .inr rfl) (by decide) (by first | exact .inl rfl | exact .inr rfl))) (fun s H Cc cl fp => (t_one (t_eq (hX.blk _ _ _ _ _) (d_ix (hX.blk _ _ _ _ _) (d_var (pv 2)) d_int) (d_var (pv 1))))) (fun s H Cc cl fp => (d_var (pv 2)))) d_int)))
theorem ok_is_one_of (C : Cf w K mg) : FnG P w K mg base 1 (He.ga K "is_one_of") C.k_is_one_of ["thing", "words"] VP.F_is_one_of :=
 fn_D (k := 0) (N := N_is_one_of) C.d_is_one_of sc_is_one_of fun cdv A outer s H hr hX hp =>
 (s_one (s_ret (d_andV (FV.d_isi C.n_isinstance C.n_str (by decide +kernel) (d_var (pv 0))) (d_one (d_in hX (d_var (pv 0)) (d_var (pv 1)))))))
theorem ok_is_status (C : Cf w K mg) : FnG P w K mg base 2 (He.ga K "is_status") C.k_is_status ["thing"] VP.F_is_status :=
 fn_D (k := 1) (N := N_is_status) C.d_is_status sc_is_status fun cdv A outer s H hr hX hp =>
 (s_one (s_ret (d_call (ok_is_one_of C) (hr.mono (by decide)) hX C.g_is_one_of C.d_is_one_of.kp (b_is_one_of_2 C) DvIs.nil (d_cons (d_var (pv 0)) (d_cons (d_glob C.m_STATUSES C.c_STATUSES) d_nil)) rfl (len_cons (n := 1) (len_cons (n := 0) (fun _ _ _ _ h => len_nil h))))))
theorem ok_is_tuple_of_of_is_status (C : Cf w K mg) : FnG P w K mg base 3 (He.ga K "is_tuple_of") C.k_is_tuple_of ["thing", "check"] VP.F_is_tuple_of_of_is_status :=
 fn_D (k := 2) (N := N_is_tuple_of) C.d_is_tuple_of sc_is_tuple_of fun cdv A outer s H hr hX hp =>
 (s_one (s_ret (d_andV (FV.d_isi C.n_isinstance C.n_tuple (by decide +kernel) (d_var (pv 0))) (d_one (d_cb (cr_all hX.calm) on_all C.n_all bb_all (d_cons (d_lc hX [(("one" : Str), 2)] (i_val (d_var (pv 0))) blk_ok (fun s H Cc cl fp => (w_nm (i := 2) hX.nd rfl (by first | exact .inl rfl | exact .inr rfl) (by decide) (by first | exact .inl rfl | exact .inr rfl))) (fun s H Cc cl fp => t_yes) (fun s H Cc cl fp => (FV.d_callv (hX.blk _ _ _ _ _) (FV.TabF.cons (ok_is_status C) (hr.mono (by decide)) C.d_is_status.kp (b_is_status_1 C) rfl FV.TabF.nil) (d_var (pv 1)) (d_cons (d_var (pv 2)) d_nil) rfl (len_cons (n := 0) (fun _ _ _ _ h => len_nil h))))) d_nil))))))
theorem ok_require_paper (C : Cf w K mg) : FnG P w K mg base 1 (He.ga K "require_paper") C.k_require_paper ["condition", "word", "at"] VP.F_require_paper :=
 fn_D (k := 0) (N := N_require_paper) C.d_require_paper sc_require_paper fun cdv A outer s H hr hX hp =>
 (s_one (s_if (d_not (d_tru (d_var (pv 0))))
  (s_one s_never)
  s_nil))
theorem ok_statuses_by_step (C : Cf w K mg) : FnG P w K mg base 1 (He.ga K "statuses_by_step") C.k_statuses_by_step ["work", "position"] GM.F_statuses_by_step :=
 fn_D (k := 0) (N := N_statuses_by_step) C.d_statuses_by_step sc_statuses_by_step fun cdv A outer s H hr hX hp =>
 (s_one (s_ret (d_dc hX [(("row" : Str), 2), (("status" : Str), 3)] (i_zpS C.n_zip (d_cons (d_var (pv 0)) (d_cons (d_var (pv 1)) d_nil)) (k_cons d_bl k_nil)) blk_ok (fun s H Cc cl fp => (w_tp rfl (w_cn (w_nm (i := 2) hX.nd rfl (by first | exact .inl rfl | exact .inr rfl) (by decide) (by first | exact .inl rfl | exact .inr rfl)) (w_cn (w_nm (i := 3) hX.nd rfl (by first | exact .inl rfl | exact .inr rfl) (by decide) (by first | exact .inl rfl | exact .inr rfl)) w_nl)))) (fun s H Cc cl fp => t_yes) (fun s H Cc cl fp => (d_ix (hX.blk _ _ _ _ _) (d_var (pv 2)) d_int)) (fun s H Cc cl fp => (d_var (pv 3))))))
theorem ok_lets_position (C : Cf w K mg) : FnG P w K mg base 4 (He.ga K "lets_position") C.k_lets_position ["work", "thing"] VP.F_lets_position :=
 fn_D (k := 3) (N := N_lets_position) C.d_lets_position sc_lets_position fun cdv A outer s H hr hX hp =>
 (s_cons (s_drop (d_call (ok_require_paper C) (hr.mono (by decide)) hX C.g_require_paper C.d_require_paper.kp (b_require_paper_3 C) DvIs.nil (d_cons (d_andV (d_call (ok_is_tuple_of_of_is_status C) (hr.mono (by decide)) hX C.g_is_tuple_of C.d_is_tuple_of.kp (b_is_tuple_of_2 C) DvIs.nil (d_cons (d_var (pv 1)) (d_cons (FV.d_fnv C.g_is_status) d_nil)) rfl (len_cons (n := 1) (len_cons (n := 0) (fun _ _ _ _ h => len_nil h)))) (d_one (d_eq hX (d_cb cr_len on_len C.n_len bb_len (d_cons (d_var (pv 1)) d_nil)) (d_cb cr_len on_len C.n_len bb_len (d_cons (d_var (pv 0)) d_nil))))) (d_cons d_str (d_cons (d_neg d_int) d_nil))) rfl (len_cons (n := 2) (len_cons (n := 1) (len_cons (n := 0) (fun _ _ _ _ h => len_nil h))))))
 (s_cons (s_asg (d_call (ok_statuses_by_step C) (hr.mono (by decide)) hX C.g_statuses_by_step C.d_statuses_by_step.kp (b_statuses_by_step_2 C) DvIs.nil (d_cons (d_var (pv 0)) (d_cons (d_var (pv 1)) d_nil)) rfl (len_cons (n := 1) (len_cons (n := 0) (fun _ _ _ _ h => len_nil h)))) (g_nm (i := 2) hX))
 (s_cons (s_for hX hp (b := VP.L_lets_position_0) (EN.i_en C.n_enumerate (d_cons (d_var (pv 0)) d_nil)) (g_tp hX (g_cn (g_nm (i := 3) hX) (g_cn (g_tp hX (g_cn (g_nm (i := 4) hX) (g_cn (g_nm (i := 5) hX) (g_cn (g_nm (i := 6) hX) (g_cn (g_nm (i := 7) hX) g_nl))))) g_nl)))
  (s_cons (s_drop (d_call (ok_require_paper C) (hr.mono (by decide)) hX C.g_require_paper C.d_require_paper.kp (b_require_paper_3 C) DvIs.nil (d_cons (d_orV (d_ne hX (d_ix hX (d_var (pv 1)) (d_var (pv 3))) d_str) (d_one (d_notIn hX d_str (d_var (pv 7))))) (d_cons d_str (d_cons (d_var (pv 3)) d_nil))) rfl (len_cons (n := 2) (len_cons (n := 1) (len_cons (n := 0) (fun _ _ _ _ h => len_nil h))))))
  (s_cons (s_asg (d_orV (d_notIn hX (d_ix hX (d_var (pv 1)) (d_var (pv 3))) (d_tup (d_cons d_str (d_cons d_str d_nil)))) (d_one (d_cb (cr_all hX.calm) on_all C.n_all bb_all (d_cons (d_lc hX [(("need" : Str), 9)] (i_val (d_var (pv 5))) blk_ok (fun s H Cc cl fp => (w_nm (i := 9) hX.nd rfl (by first | exact .inl rfl | exact .inr rfl) (by decide) (by first | exact .inl rfl | exact .inr rfl))) (fun s H Cc cl fp => t_yes) (fun s H Cc cl fp => (d_eq (hX.blk _ _ _ _ _) (d_ix (hX.blk _ _ _ _ _) (d_var (pv 2)) (d_var (pv 9))) d_str))) d_nil)))) (g_nm (i := 8) hX))
  (s_one (s_drop (d_call (ok_require_paper C) (hr.mono (by decide)) hX C.g_require_paper C.d_require_paper.kp (b_require_paper_3 C) DvIs.nil (d_cons (d_var (pv 8)) (d_cons d_str (d_cons (d_var (pv 3)) d_nil))) rfl (len_cons (n := 2) (len_cons (n := 1) (len_cons (n := 0) (fun _ _ _ _ h => len_nil h))))))))))
 (s_one (s_ret (d_cb cr_len on_len C.n_len bb_len (d_cons (d_lc hX [(("status" : Str), 10)] (i_val (d_var (pv 1))) blk_ok (fun s H Cc cl fp => (w_nm (i := 10) hX.nd rfl (by first | exact .inl rfl | exact .inr rfl) (by decide) (by first | exact .inl rfl | exact .inr rfl))) (fun s H Cc cl fp => (t_one (t_eq (hX.blk _ _ _ _ _) (d_var (pv 10)) d_str))) (fun s H Cc cl fp => (d_var (pv 10)))) d_nil)))))))
theorem ok_steps_with (C : Cf w K mg) : FnG P w K mg base 1 (He.ga K "steps_with") C.k_steps_with ["work", "position", "statuses"] GA.F_steps_with :=
 fn_D (k := 0) (N := N_steps_with) C.d_steps_with sc_steps_with fun cdv A outer s H hr hX hp =>
 (s_one (s_ret (d_ct call_tuple_of on_tuple C.n_tuple bb_tuple (d_cons (d_lc hX [(("row" : Str), 3), (("status" : Str), 4)] (i_zpS C.n_zip (d_cons (d_var (pv 0)) (d_cons (d_var (pv 1)) d_nil)) (k_cons d_bl k_nil)) blk_ok (fun s H Cc cl fp => (w_tp rfl (w_cn (w_nm (i := 3) hX.nd rfl (by first | exact .inl rfl | exact .inr rfl) (by decide) (by first | exact .inl rfl | exact .inr rfl)) (w_cn (w_nm (i := 4) hX.nd rfl (by first | exact .inl rfl | exact .inr rfl) (by decide) (by first | exact .inl rfl | exact .inr rfl)) w_nl)))) (fun s H Cc cl fp => (t_one (t_in (hX.blk _ _ _ _ _) (d_var (pv 4)) (d_var (pv 2))))) (fun s H Cc cl fp => (d_ix (hX.blk _ _ _ _ _) (d_var (pv 3)) d_int))) d_nil))))
theorem ok_worlds_of (C : Cf w K mg) : FnG P w K mg base 2 (He.ga K "worlds_of") C.k_worlds_of ["work", "position"] GW.F_worlds_of :=
 fn_D (k := 1) (N := N_worlds_of) C.d_worlds_of sc_worlds_of fun cdv A outer s H hr hX hp =>
 (s_cons (s_asg (d_lstB (d_cons (d_call (ok_steps_with C) (hr.mono (by decide)) hX C.g_steps_with C.d_steps_with.kp (b_steps_with_3 C) DvIs.nil (d_cons (d_var (pv 0)) (d_cons (d_var (pv 1)) (d_cons (d_tup (d_cons d_str d_nil)) d_nil))) rfl (len_cons (n := 2) (len_cons (n := 1) (len_cons (n := 0) (fun _ _ _ _ h => len_nil h))))) d_nil)) (g_nm (i := 2) hX))
 (s_cons (s_for hX hp (b := GW.L_worlds_of_0) (i_val (d_call (ok_steps_with C) (hr.mono (by decide)) hX C.g_steps_with C.d_steps_with.kp (b_steps_with_3 C) DvIs.nil (d_cons (d_var (pv 0)) (d_cons (d_var (pv 1)) (d_cons (d_tup (d_cons d_str d_nil)) d_nil))) rfl (len_cons (n := 2) (len_cons (n := 1) (len_cons (n := 0) (fun _ _ _ _ h => len_nil h)))))) (g_nm (i := 3) hX)
  (s_one (s_drop (d_extend (d_var (pv 2)) (d_cons (d_lc hX [(("world" : Str), 4)] (i_val (d_var (pv 2))) blk_ok (fun s H Cc cl fp => (w_nm (i := 4) hX.nd rfl (by first | exact .inl rfl | exact .inr rfl) (by decide) (by first | exact .inl rfl | exact .inr rfl))) (fun s H Cc cl fp => t_yes) (fun s H Cc cl fp => (d_add (d_var (pv 4)) (d_tup (d_cons (d_var (pv 3)) d_nil))))) d_nil)))))
 (s_one (s_ret (d_ct call_tuple_of on_tuple C.n_tuple bb_tuple (d_cons (d_cb (cr_sortD hX) on_sorted C.n_sorted bb_sorted (d_cons (d_lc hX [(("world" : Str), 4)] (i_val (d_var (pv 2))) blk_ok (fun s H Cc cl fp => (w_nm (i := 4) hX.nd rfl (by first | exact .inl rfl | exact .inr rfl) (by decide) (by first | exact .inl rfl | exact .inr rfl))) (fun s H Cc cl fp => t_yes) (fun s H Cc cl fp => (d_ct call_tuple_of on_tuple C.n_tuple bb_tuple (d_cons (d_cb (cr_sortD (hX.blk _ _ _ _ _)) on_sorted C.n_sorted bb_sorted (d_cons (d_var (pv 4)) d_nil)) d_nil)))) d_nil)) d_nil))))))
theorem ok__law_check_position (C : Cf w K mg) : FnG P w K mg base 5 (He.ga K "_law_check_position") C.k__law_check_position ["_law_work", "_law_position"] F__law_check_position :=
 fn_D (k := 4) (N := N__law_check_position) C.d__law_check_position sc__law_check_position fun cdv A outer s H hr hX hp =>
 (s_cons (s_parC (i := 2) (j := 3) hX (d_cons (d_call (ok_worlds_of C) (hr.mono (by decide)) hX C.g_worlds_of C.d_worlds_of.kp (b_worlds_of_2 C) DvIs.nil (d_cons (d_var (pv 0)) (d_cons (d_var (pv 1)) d_nil)) rfl (len_cons (n := 1) (len_cons (n := 0) (fun _ _ _ _ h => len_nil h)))) (d_cons (d_call (ok__law_names C) (hr.mono (by decide)) hX C.g__law_names C.d__law_names.kp (b__law_names_1 C) DvIs.nil (d_cons (d_var (pv 0)) d_nil) rfl (len_cons (n := 0) (fun _ _ _ _ h => len_nil h))) d_nil)))
 (s_cons (s_asg d_int (g_nm (i := 4) hX))
 (s_cons (s_for hX hp (b := L__law_check_position_0) (i_val (d_var (pv 1))) (g_nm (i := 5) hX)
  (s_one (s_asg (d_ite (t_eq hX (d_var (pv 5)) d_str) (d_mul d_int (d_var (pv 4))) (d_var (pv 4))) (g_nm (i := 4) hX))))
 (s_cons (s_if (d_pt (w_or (t_ne hX (d_cb cr_len on_len C.n_len bb_len (d_cons (d_var (pv 2)) d_nil)) (d_var (pv 4))) (w_or1 (t_ne hX (d_ct call_list_of on_list C.n_list bb_list (d_cons (d_var (pv 2)) d_nil)) (d_sortSet hX C.n_sorted C.n_set (d_cons (d_var (pv 2)) d_nil))))))
  (s_one (s_ret d_bl))
  s_nil)
 (s_cons (s_for hX hp (b := L__law_check_position_1) (i_rng1 C.n_range (d_cons (d_cb cr_len on_len C.n_len bb_len (d_cons (d_var (pv 3)) d_nil)) d_nil)) (g_nm (i := 6) hX)
  (s_cons (s_asg (d_cb cr_len on_len C.n_len bb_len (d_cons (d_lc hX [(("_law_one" : Str), 8)] (i_val (d_var (pv 2))) blk_ok (fun s H Cc cl fp => (w_nm (i := 8) hX.nd rfl (by first | exact .inl rfl | exact .inr rfl) (by decide) (by first | exact .inl rfl | exact .inr rfl))) (fun s H Cc cl fp => (t_one (t_in (hX.blk _ _ _ _ _) (d_ix (hX.blk _ _ _ _ _) (d_var (pv 3)) (d_var (pv 6))) (d_var (pv 8))))) (fun s H Cc cl fp => (d_var (pv 8)))) d_nil)) (g_nm (i := 7) hX))
  (s_cons (s_asg (d_ix hX (d_dic (kv_cons d_str (d_var (pv 4)) (kv_cons d_str (d_fdiv (d_var (pv 4)) d_int) (kv_cons d_str d_int (kv_cons d_str d_int kv_nil))))) (d_ix hX (d_var (pv 1)) (d_var (pv 6)))) (g_nm (i := 9) hX))
  (s_one (s_if (t_ne hX (d_var (pv 7)) (d_var (pv 9)))
   (s_one (s_ret d_bl))
   s_nil)))))
 (s_cons (s_for hX hp (b := L__law_check_position_2) (i_val (d_var (pv 2))) (g_nm (i := 8) hX)
  (s_cons (s_if (t_ne hX (d_lc hX [(("_law_name" : Str), 10)] (i_val (d_var (pv 8))) blk_ok (fun s H Cc cl fp => (w_nm (i := 10) hX.nd rfl (by first | exact .inl rfl | exact .inr rfl) (by decide) (by first | exact .inl rfl | exact .inr rfl))) (fun s H Cc cl fp => (t_one (t_notIn (hX.blk _ _ _ _ _) (d_var (pv 10)) (d_var (pv 3))))) (fun s H Cc cl fp => (d_var (pv 10)))) (d_lst d_nil))
   (s_one (s_ret d_bl))
   s_nil)
  (s_one (s_if (t_ne hX (d_lc hX [(("_law_name" : Str), 10)] (i_val (d_var (pv 8))) blk_ok (fun s H Cc cl fp => (w_nm (i := 10) hX.nd rfl (by first | exact .inl rfl | exact .inr rfl) (by decide) (by first | exact .inl rfl | exact .inr rfl))) (fun s H Cc cl fp => (t_one (t_ne (hX.blk _ _ _ _ _) (d_lc (hX.blk _ _ _ _ _) [(("_law_own" : Str), 11)] (i_val (d_ix (hX.blk _ _ _ _ _) (d_call (ok__law_entry C) (hr.mono (by decide)) (hX.blk _ _ _ _ _) C.g__law_entry C.d__law_entry.kp (b__law_entry_2 C) DvIs.nil (d_cons (d_var (pv 0)) (d_cons (d_var (pv 10)) d_nil)) rfl (len_cons (n := 1) (len_cons (n := 0) (fun _ _ _ _ h => len_nil h)))) d_int)) blk_ok (fun s H Cc cl fp => (w_nm (i := 11) hX.nd rfl (by first | exact .inl rfl | exact .inr rfl) (by decide) (by first | exact .inl rfl | exact .inr rfl))) (fun s H Cc cl fp => (t_one (t_notIn ((hX.blk _ _ _ _ _).blk _ _ _ _ _) (d_var (pv 11)) (d_var (pv 8))))) (fun s H Cc cl fp => (d_var (pv 11)))) (d_lst d_nil)))) (fun s H Cc cl fp => (d_var (pv 10)))) (d_lst d_nil))
   (s_one (s_ret d_bl))
   s_nil))))
 (s_cons (s_for hX hp (b := L__law_check_position_4) (i_val (d_sl (d_var (pv 2)) o_no (o_at d_int))) (g_nm (i := 8) hX)
  (s_one (s_for hX hp (b := L__law_check_position_3) (i_val (d_sl (d_var (pv 2)) (o_at (d_neg d_int)) o_no)) (g_nm (i := 12) hX)
   (s_cons (s_asg (d_ct call_tuple_of on_tuple C.n_tuple bb_tuple (d_cons (d_lc hX [(("_law_name" : Str), 10)] (i_val (d_var (pv 8))) blk_ok (fun s H Cc cl fp => (w_nm (i := 10) hX.nd rfl (by first | exact .inl rfl | exact .inr rfl) (by decide) (by first | exact .inl rfl | exact .inr rfl))) (fun s H Cc cl fp => (t_one (t_in (hX.blk _ _ _ _ _) (d_var (pv 10)) (d_var (pv 12))))) (fun s H Cc cl fp => (d_var (pv 10)))) d_nil)) (g_nm (i := 13) hX))
   (s_one (s_if (d_pt (w_or (t_notIn hX (d_var (pv 13)) (d_var (pv 2))) (w_or1 (t_notIn hX (d_ct call_tuple_of on_tuple C.n_tuple bb_tuple (d_cons (d_sortSet hX C.n_sorted C.n_set (d_cons (d_add (d_var (pv 8)) (d_var (pv 12))) d_nil)) d_nil)) (d_var (pv 2))))))
    (s_one (s_ret d_bl))
    s_nil))))))
 (s_one (s_ret (d_eq hX (d_call (ok_lets_position C) (hr.mono (by decide)) hX C.g_lets_position C.d_lets_position.kp (b_lets_position_2 C) DvIs.nil (d_cons (d_var (pv 0)) (d_cons (d_var (pv 1)) d_nil)) rfl (len_cons (n := 1) (len_cons (n := 0) (fun _ _ _ _ h => len_nil h)))) (d_cb (MN.cr_min1 hX.calm hX) MN.on_min1 C.n_min bb_min (d_cons (d_lc hX [(("_law_one" : Str), 8)] (i_val (d_var (pv 2))) blk_ok (fun s H Cc cl fp => (w_nm (i := 8) hX.nd rfl (by first | exact .inl rfl | exact .inr rfl) (by decide) (by first | exact .inl rfl | exact .inr rfl))) (fun s H Cc cl fp => t_yes) (fun s H Cc cl fp => (d_cb cr_len on_len C.n_len bb_len (d_cons (d_var (pv 8)) d_nil)))) d_nil))))))))))))
theorem ok__law_fixed_works (C : Cf w K mg) : FnG P w K mg base 1 (He.ga K "_law_fixed_works") C.k__law_fixed_works [] FA.F__law_fixed_works :=
 fn_D (k := 0) (N := N__law_fixed_works) C.d__law_fixed_works sc__law_fixed_works fun cdv A outer s H hr hX hp =>
 (s_cons (s_asg (d_tup (d_cons d_str (d_cons d_str (d_cons d_str (d_cons d_str (d_cons d_str (d_cons d_str (d_cons d_str (d_cons d_str d_nil))))))))) (g_nm (i := 0) hX))
 (s_cons (s_asg (d_ct call_tuple_of on_tuple C.n_tuple bb_tuple (d_cons (d_lc hX [(("_law_k" : Str), 2)] (i_rng1 C.n_range (d_cons d_int d_nil)) blk_ok (fun s H Cc cl fp => (w_nm (i := 2) hX.nd rfl (by first | exact .inl rfl | exact .inr rfl) (by decide) (by first | exact .inl rfl | exact .inr rfl))) (fun s H Cc cl fp => t_yes) (fun s H Cc cl fp => (d_tup (d_cons (d_ix (hX.blk _ _ _ _ _) (d_var (pv 0)) (d_var (pv 2))) (d_cons (d_ite (t_gt (d_var (pv 2)) d_int) (d_sl (d_var (pv 0)) (o_at (d_sub (d_var (pv 2)) d_int)) (o_at (d_var (pv 2)))) (d_tup d_nil)) (d_cons (d_tup d_nil) (d_cons (d_tup (d_cons d_str (d_cons d_str d_nil))) d_nil))))))) d_nil)) (g_nm (i := 1) hX))
 (s_cons (s_asg (d_ct call_tuple_of on_tuple C.n_tuple bb_tuple (d_cons (d_lc hX [(("_law_k" : Str), 2)] (i_rng1 C.n_range (d_cons d_int d_nil)) blk_ok (fun s H Cc cl fp => (w_nm (i := 2) hX.nd rfl (by first | exact .inl rfl | exact .inr rfl) (by decide) (by first | exact .inl rfl | exact .inr rfl))) (fun s H Cc cl fp => t_yes) (fun s H Cc cl fp => (d_tup (d_cons (d_ix (hX.blk _ _ _ _ _) (d_var (pv 0)) (d_var (pv 2))) (d_cons (d_tup d_nil) (d_cons (d_ct call_tuple_of on_tuple C.n_tuple bb_tuple (d_cons (d_cb (cr_sortD (hX.blk _ _ _ _ _)) on_sorted C.n_sorted bb_sorted (d_cons (d_lst (d_cons (d_ix (hX.blk _ _ _ _ _) (d_var (pv 0)) (d_sub (d_var (pv 2)) d_int)) (d_cons (d_ix (hX.blk _ _ _ _ _) (d_var (pv 0)) (d_mod (d_add (d_var (pv 2)) d_int) d_int)) d_nil))) d_nil)) d_nil)) (d_cons (d_tup (d_cons d_str d_nil)) d_nil))))))) d_nil)) (g_nm (i := 3) hX))
 (s_cons (s_asg (d_ct call_tuple_of on_tuple C.n_tuple bb_tuple (d_cons (d_lc hX [(("_law_name" : Str), 5)] (i_val (d_var (pv 0))) blk_ok (fun s H Cc cl fp => (w_nm (i := 5) hX.nd rfl (by first | exact .inl rfl | exact .inr rfl) (by decide) (by first | exact .inl rfl | exact .inr rfl))) (fun s H Cc cl fp => t_yes) (fun s H Cc cl fp => (d_tup (d_cons (d_var (pv 5)) (d_cons (d_tup d_nil) (d_cons (d_tup d_nil) (d_cons (d_tup (d_cons d_str (d_cons d_str (d_cons d_str (d_cons d_str d_nil))))) d_nil))))))) d_nil)) (g_nm (i := 4) hX))
 (s_cons (s_asg (d_ct call_tuple_of on_tuple C.n_tuple bb_tuple (d_cons (d_lc hX [(("_law_k" : Str), 2)] (i_rng1 C.n_range (d_cons d_int d_nil)) blk_ok (fun s H Cc cl fp => (w_nm (i := 2) hX.nd rfl (by first | exact .inl rfl | exact .inr rfl) (by decide) (by first | exact .inl rfl | exact .inr rfl))) (fun s H Cc cl fp => t_yes) (fun s H Cc cl fp => (d_tup (d_cons (d_ix (hX.blk _ _ _ _ _) (d_var (pv 0)) (d_var (pv 2))) (d_cons (d_sl (d_var (pv 0)) (o_at (d_add (d_var (pv 2)) d_int)) (o_at (d_add (d_var (pv 2)) d_int))) (d_cons (d_sl (d_var (pv 0)) o_no (o_at (d_var (pv 2)))) (d_cons (d_tup d_nil) d_nil))))))) d_nil)) (g_nm (i := 6) hX))
 (s_cons (s_asg (d_tup (d_cons (d_tup (d_cons d_str (d_cons (d_tup d_nil) (d_cons (d_tup d_nil) (d_cons (d_tup (d_cons d_str d_nil)) d_nil))))) (d_cons (d_tup (d_cons d_str (d_cons (d_tup d_nil) (d_cons (d_tup (d_cons d_str d_nil)) (d_cons (d_tup (d_cons d_str d_nil)) d_nil))))) d_nil))) (g_nm (i := 7) hX))
 (s_cons (s_asg (d_add (d_var (pv 7)) (d_tup (d_cons (d_tup (d_cons d_str (d_cons (d_tup (d_cons d_str d_nil)) (d_cons (d_tup d_nil) (d_cons (d_tup (d_cons d_str (d_cons d_str d_nil))) d_nil))))) (d_cons (d_tup (d_cons d_str (d_cons (d_tup (d_cons d_str (d_cons d_str d_nil))) (d_cons (d_tup d_nil) (d_cons (d_tup (d_cons d_str d_nil)) d_nil))))) d_nil)))) (g_nm (i := 7) hX))
 (s_one (s_ret (d_lstB (d_cons (d_tup (d_cons (d_tup (d_cons d_str (d_cons (d_tup d_nil) (d_cons (d_tup d_nil) (d_cons (d_tup d_nil) d_nil))))) d_nil)) (d_cons (d_var (pv 1)) (d_cons (d_var (pv 3)) (d_cons (d_var (pv 4)) (d_cons (d_var (pv 6)) (d_cons (d_var (pv 7)) d_nil))))))))))))))))
theorem ok__law_draw (C : Cf w K mg) : FnG P w K mg base 1 (He.ga K "_law_draw") C.k__law_draw ["_law_reader_here", "_law_many"] FA.F__law_draw :=
 fn_D (k := 0) (N := N__law_draw) C.d__law_draw sc__law_draw fun cdv A outer s H hr hX hp =>
 (s_cons (s_asg (d_add (d_ix hX (d_var (pv 0)) d_str) d_int) (g_nm (i := 2) hX))
 (s_cons (s_asg (d_var (pv 2)) (g_sb hX (d_var (pv 0)) d_str))
 (s_cons (s_if (t_gt (d_ix hX (d_var (pv 0)) d_str) d_int)
  (s_cons (s_asg (d_mod (d_ix hX (d_var (pv 0)) d_str) (d_var (pv 1))) (g_nm (i := 3) hX))
  (s_cons (s_asg (d_fdiv (d_ix hX (d_var (pv 0)) d_str) (d_var (pv 1))) (g_sb hX (d_var (pv 0)) d_str))
  (s_one (s_ret (d_var (pv 3))))))
  s_nil)
 (s_cons (s_asg (d_ix hX (d_var (pv 0)) d_str) (g_nm (i := 4) hX))
 (s_cons (s_asg (d_add (d_var (pv 4)) d_int) (g_sb hX (d_var (pv 0)) d_str))
 (s_cons (s_asg (d_ix hX (d_var (pv 0)) d_str) (g_nm (i := 5) hX))
 (s_cons (s_asg (d_ite (t_gt (d_cb cr_len on_len C.n_len bb_len (d_cons (d_var (pv 5)) d_nil)) d_int) (d_ix hX (d_var (pv 5)) (d_mod (d_var (pv 4)) (d_cb cr_len on_len C.n_len bb_len (d_cons (d_var (pv 5)) d_nil)))) d_int) (g_nm (i := 6) hX))
 (s_cons (s_if (d_pt (w_and (t_lt (d_var (pv 4)) (d_cb cr_len on_len C.n_len bb_len (d_cons (d_var (pv 5)) d_nil))) (w_and1 (t_ge (d_var (pv 6)) (d_pow d_int d_int)))))
  (s_cons (s_asg (d_fdiv (d_var (pv 6)) (d_var (pv 1))) (g_sb hX (d_var (pv 0)) d_str))
  (s_one (s_ret (d_mod (d_var (pv 6)) (d_var (pv 1))))))
  s_nil)
 (s_cons (s_asg (d_mod (d_pow (d_add (d_add (d_mod (d_var (pv 6)) d_int) (d_mul d_int (d_var (pv 2)))) d_int) d_int) d_int) (g_nm (i := 7) hX))
 (s_one (s_ret (d_mod (d_fdiv (d_mod (d_pow (d_add (d_var (pv 7)) (d_mul (d_mul d_int (d_var (pv 2))) (d_var (pv 2)))) d_int) d_int) d_int) (d_var (pv 1))))))))))))))
theorem ok__law_order (C : Cf w K mg) : FnG P w K mg base 1 (He.ga K "_law_order") C.k__law_order ["_law_work"] FA.F__law_order :=
 fn_D (k := 0) (N := N__law_order) C.d__law_order sc__law_order fun cdv A outer s H hr hX hp =>
 (s_cons (s_asg (d_lstB d_nil) (g_nm (i := 1) hX))
 (s_cons (s_while hp (b := FA.L__law_order_1) (t_lt (d_cb cr_len on_len C.n_len bb_len (d_cons (d_var (pv 1)) d_nil)) (d_cb cr_len on_len C.n_len bb_len (d_cons (d_var (pv 0)) d_nil)))
  (s_one (s_for hX hp (b := FA.L__law_order_0) (i_val (d_var (pv 0))) (g_tp hX (g_cn (g_nm (i := 2) hX) (g_cn (g_nm (i := 3) hX) (g_cn (g_nm (i := 4) hX) (g_cn (g_nm (i := 5) hX) g_nl)))))
   (s_one (s_if (d_pt (w_and (t_notIn hX (d_var (pv 2)) (d_var (pv 1))) (w_and1 (t_eq hX (d_lc hX [(("_law_own" : Str), 6)] (i_val (d_var (pv 3))) blk_ok (fun s H Cc cl fp => (w_nm (i := 6) hX.nd rfl (by first | exact .inl rfl | exact .inr rfl) (by decide) (by first | exact .inl rfl | exact .inr rfl))) (fun s H Cc cl fp => (t_one (t_notIn (hX.blk _ _ _ _ _) (d_var (pv 6)) (d_var (pv 1))))) (fun s H Cc cl fp => (d_var (pv 6)))) (d_lst d_nil)))))
    (s_one (s_drop (d_append (d_var (pv 1)) (d_cons (d_var (pv 2)) d_nil))))
    s_nil)))))
 (s_one (s_ret (d_var (pv 1))))))
theorem ok__law_random_position (C : Cf w K mg) : FnG P w K mg base 2 (He.ga K "_law_random_position") C.k__law_random_position ["_law_reader_here", "_law_work"] FA.F__law_random_position :=
 fn_D (k := 1) (N := N__law_random_position) C.d__law_random_position sc__law_random_position fun cdv A outer s H hr hX hp =>
 (s_cons (s_asg d_dic0B (g_nm (i := 2) hX))
 (s_cons (s_for hX hp (b := FA.L__law_random_position_0) (i_val (d_call (ok__law_order C) (hr.mono (by decide)) hX C.g__law_order C.d__law_order.kp (b__law_order_1 C) DvIs.nil (d_cons (d_var (pv 1)) d_nil) rfl (len_cons (n := 0) (fun _ _ _ _ h => len_nil h)))) (g_nm (i := 3) hX)
  (s_cons (s_par (i := 4) (j := 5) hX (d_cons (d_ix hX (d_call (ok__law_entry C) (hr.mono (by decide)) hX C.g__law_entry C.d__law_entry.kp (b__law_entry_2 C) DvIs.nil (d_cons (d_var (pv 1)) (d_cons (d_var (pv 3)) d_nil)) rfl (len_cons (n := 1) (len_cons (n := 0) (fun _ _ _ _ h => len_nil h)))) d_int) (d_cons (d_ix hX (d_call (ok__law_entry C) (hr.mono (by decide)) hX C.g__law_entry C.d__law_entry.kp (b__law_entry_2 C) DvIs.nil (d_cons (d_var (pv 1)) (d_cons (d_var (pv 3)) d_nil)) rfl (len_cons (n := 1) (len_cons (n := 0) (fun _ _ _ _ h => len_nil h)))) d_int) d_nil)))
  (s_cons (s_asg (d_ite (t_in hX d_str (d_var (pv 5))) (d_lst (d_cons d_str d_nil)) (d_lst (d_cons d_str (d_cons d_str d_nil)))) (g_nm (i := 6) hX))
  (s_cons (s_if (t_eq hX (d_lc hX [(("_law_own" : Str), 7)] (i_val (d_var (pv 4))) blk_ok (fun s H Cc cl fp => (w_nm (i := 7) hX.nd rfl (by first | exact .inl rfl | exact .inr rfl) (by decide) (by first | exact .inl rfl | exact .inr rfl))) (fun s H Cc cl fp => (t_one (t_ne (hX.blk _ _ _ _ _) (d_ix (hX.blk _ _ _ _ _) (d_var (pv 2)) (d_var (pv 7))) d_str))) (fun s H Cc cl fp => (d_var (pv 7)))) (d_lst d_nil))
   (s_one (s_asg (d_add (d_var (pv 6)) (d_lst (d_cons d_str (d_cons d_str (d_cons d_str (d_cons d_str d_nil)))))) (g_nm (i := 6) hX)))
   s_nil)
  (s_one (s_asg (d_ix hX (d_var (pv 6)) (d_call (ok__law_draw C) (hr.mono (by decide)) hX C.g__law_draw C.d__law_draw.kp (b__law_draw_2 C) DvIs.nil (d_cons (d_var (pv 0)) (d_cons (d_cb cr_len on_len C.n_len bb_len (d_cons (d_var (pv 6)) d_nil)) d_nil)) rfl (len_cons (n := 1) (len_cons (n := 0) (fun _ _ _ _ h => len_nil h))))) (g_sb hX (d_var (pv 2)) (d_var (pv 3)))))))))
 (s_one (s_ret (d_ct call_tuple_of on_tuple C.n_tuple bb_tuple (d_cons (d_lc hX [(("_law_name" : Str), 3)] (i_val (d_call (ok__law_names C) (hr.mono (by decide)) hX C.g__law_names C.d__law_names.kp (b__law_names_1 C) DvIs.nil (d_cons (d_var (pv 1)) d_nil) rfl (len_cons (n := 0) (fun _ _ _ _ h => len_nil h)))) blk_ok (fun s H Cc cl fp => (w_nm (i := 3) hX.nd rfl (by first | exact .inl rfl | exact .inr rfl) (by decide) (by first | exact .inl rfl | exact .inr rfl))) (fun s H Cc cl fp => t_yes) (fun s H Cc cl fp => (d_ix (hX.blk _ _ _ _ _) (d_var (pv 2)) (d_var (pv 3))))) d_nil))))))
theorem ok__law_random_abilities (C : Cf w K mg) : FnG P w K mg base 2 (He.ga K "_law_random_abilities") C.k__law_random_abilities ["_law_reader_here"] FA.F__law_random_abilities :=
 fn_D (k := 1) (N := N__law_random_abilities) C.d__law_random_abilities sc__law_random_abilities fun cdv A outer s H hr hX hp =>
 (s_cons (s_asg (d_lc hX [(("_law_one" : Str), 2)] (i_val (d_tup (d_cons d_str (d_cons d_str (d_cons d_str (d_cons d_str d_nil)))))) blk_ok (fun s H Cc cl fp => (w_nm (i := 2) hX.nd rfl (by first | exact .inl rfl | exact .inr rfl) (by decide) (by first | exact .inl rfl | exact .inr rfl))) (fun s H Cc cl fp => (t_one (t_eq (hX.blk _ _ _ _ _) (d_call (ok__law_draw C) (hr.mono (by decide)) (hX.blk _ _ _ _ _) C.g__law_draw C.d__law_draw.kp (b__law_draw_2 C) DvIs.nil (d_cons (d_var (pv 0)) (d_cons d_int d_nil)) rfl (len_cons (n := 1) (len_cons (n := 0) (fun _ _ _ _ h => len_nil h)))) d_int))) (fun s H Cc cl fp => (d_var (pv 2)))) (g_nm (i := 1) hX))
 (s_one (s_ret (d_ct call_tuple_of on_tuple C.n_tuple bb_tuple (d_cons (d_lc hX [(("_law_one" : Str), 2)] (i_val (d_var (pv 1))) blk_ok (fun s H Cc cl fp => (w_nm (i := 2) hX.nd rfl (by first | exact .inl rfl | exact .inr rfl) (by decide) (by first | exact .inl rfl | exact .inr rfl))) (fun s H Cc cl fp => (t_one (d_pt (w_or (t_ne (hX.blk _ _ _ _ _) (d_var (pv 2)) d_str) (w_or1 (t_in (hX.blk _ _ _ _ _) d_str (d_var (pv 1)))))))) (fun s H Cc cl fp => (d_var (pv 2)))) d_nil)))))
theorem ok__law_random_some (C : Cf w K mg) : FnG P w K mg base 2 (He.ga K "_law_random_some") C.k__law_random_some ["_law_reader_here", "_law_names_here", "_law_most"] FA.F__law_random_some :=
 fn_D (k := 1) (N := N__law_random_some) C.d__law_random_some sc__law_random_some fun cdv A outer s H hr hX hp =>
 (s_cons (s_asg (d_mul (d_call (ok__law_draw C) (hr.mono (by decide)) hX C.g__law_draw C.d__law_draw.kp (b__law_draw_2 C) DvIs.nil (d_cons (d_var (pv 0)) (d_cons (d_add (d_var (pv 2)) d_int) d_nil)) rfl (len_cons (n := 1) (len_cons (n := 0) (fun _ _ _ _ h => len_nil h)))) (d_ct call_int1 on_int C.n_int bb_int (d_cons (d_ne hX (d_var (pv 1)) (d_lst d_nil)) d_nil))) (g_nm (i := 3) hX))
 (s_one (s_ret (d_ct call_tuple_of on_tuple C.n_tuple bb_tuple (d_cons (d_sortSet hX C.n_sorted C.n_set (d_cons (d_lc hX [(("_law_k" : Str), 4)] (i_rng1 C.n_range (d_cons (d_var (pv 3)) d_nil)) blk_ok (fun s H Cc cl fp => (w_nm (i := 4) hX.nd rfl (by first | exact .inl rfl | exact .inr rfl) (by decide) (by first | exact .inl rfl | exact .inr rfl))) (fun s H Cc cl fp => t_yes) (fun s H Cc cl fp => (d_ix (hX.blk _ _ _ _ _) (d_var (pv 1)) (d_call (ok__law_draw C) (hr.mono (by decide)) (hX.blk _ _ _ _ _) C.g__law_draw C.d__law_draw.kp (b__law_draw_2 C) DvIs.nil (d_cons (d_var (pv 0)) (d_cons (d_cb cr_len on_len C.n_len bb_len (d_cons (d_var (pv 1)) d_nil)) d_nil)) rfl (len_cons (n := 1) (len_cons (n := 0) (fun _ _ _ _ h => len_nil h))))))) d_nil)) d_nil)))))
theorem ok__law_random_work (C : Cf w K mg) : FnG P w K mg base 3 (He.ga K "_law_random_work") C.k__law_random_work ["_law_reader_here", "_law_most"] FA.F__law_random_work :=
 fn_D (k := 2) (N := N__law_random_work) C.d__law_random_work sc__law_random_work fun cdv A outer s H hr hX hp =>
 (s_cons (s_par3T (i := 2) (j := 3) (l := 4) hX (d_cons (d_lstB (d_cons d_str (d_cons d_str (d_cons d_str (d_cons d_str (d_cons d_str (d_cons d_str (d_cons d_str (d_cons d_str d_nil))))))))) (d_cons (d_lstB d_nil) (d_cons (d_lstB d_nil) d_nil))))
 (s_cons (s_for hX hp (b := FA.L__law_random_work_0) (i_rng1 C.n_range (d_cons (d_add d_int (d_call (ok__law_draw C) (hr.mono (by decide)) hX C.g__law_draw C.d__law_draw.kp (b__law_draw_2 C) DvIs.nil (d_cons (d_var (pv 0)) (d_cons (d_var (pv 1)) d_nil)) rfl (len_cons (n := 1) (len_cons (n := 0) (fun _ _ _ _ h => len_nil h))))) d_nil)) (g_nm (i := 5) hX)
  (s_one (s_drop (d_append (d_var (pv 3)) (d_cons (d_popAt (d_var (pv 2)) (d_cons (d_call (ok__law_draw C) (hr.mono (by decide)) hX C.g__law_draw C.d__law_draw.kp (b__law_draw_2 C) DvIs.nil (d_cons (d_var (pv 0)) (d_cons (d_cb cr_len on_len C.n_len bb_len (d_cons (d_var (pv 2)) d_nil)) d_nil)) rfl (len_cons (n := 1) (len_cons (n := 0) (fun _ _ _ _ h => len_nil h)))) d_nil)) d_nil)))))
 (s_cons (s_for hX hp (b := FA.L__law_random_work_1) (i_rng1 C.n_range (d_cons (d_cb cr_len on_len C.n_len bb_len (d_cons (d_var (pv 3)) d_nil)) d_nil)) (g_nm (i := 5) hX)
  (s_cons (s_asg (d_add (d_sl (d_var (pv 3)) o_no (o_at (d_var (pv 5)))) (d_sl (d_var (pv 3)) (o_at (d_add (d_var (pv 5)) d_int)) o_no)) (g_nm (i := 6) hX))
  (s_cons (s_par (i := 7) (j := 8) hX (d_cons (d_call (ok__law_random_some C) (hr.mono (by decide)) hX C.g__law_random_some C.d__law_random_some.kp (b__law_random_some_3 C) DvIs.nil (d_cons (d_var (pv 0)) (d_cons (d_sl (d_var (pv 3)) o_no (o_at (d_var (pv 5)))) (d_cons d_int d_nil))) rfl (len_cons (n := 2) (len_cons (n := 1) (len_cons (n := 0) (fun _ _ _ _ h => len_nil h))))) (d_cons (d_call (ok__law_random_some C) (hr.mono (by decide)) hX C.g__law_random_some C.d__law_random_some.kp (b__law_random_some_3 C) DvIs.nil (d_cons (d_var (pv 0)) (d_cons (d_var (pv 6)) (d_cons d_int d_nil))) rfl (len_cons (n := 2) (len_cons (n := 1) (len_cons (n := 0) (fun _ _ _ _ h => len_nil h))))) d_nil)))
  (s_one (s_drop (d_append (d_var (pv 4)) (d_cons (d_tup (d_cons (d_ix hX (d_var (pv 3)) (d_var (pv 5))) (d_cons (d_var (pv 7)) (d_cons (d_var (pv 8)) (d_cons (d_call (ok__law_random_abilities C) (hr.mono (by decide)) hX C.g__law_random_abilities C.d__law_random_abilities.kp (b__law_random_abilities_1 C) DvIs.nil (d_cons (d_var (pv 0)) d_nil) rfl (len_cons (n := 0) (fun _ _ _ _ h => len_nil h))) d_nil))))) d_nil)))))))
 (s_one (s_ret (d_ct call_tuple_of on_tuple C.n_tuple bb_tuple (d_cons (d_cb (cr_sortD hX) on_sorted C.n_sorted bb_sorted (d_cons (d_var (pv 4)) d_nil)) d_nil)))))))
theorem ok__law_reader (C : Cf w K mg) : FnG P w K mg base 1 (He.ga K "_law_reader") C.k__law_reader ["_law_script"] FA.F__law_reader :=
 fn_D (k := 0) (N := N__law_reader) C.d__law_reader sc__law_reader fun cdv A outer s H hr hX hp =>
 (s_one (s_ret (d_dicB (kv_cons d_str (d_ct call_list_of on_list C.n_list bb_list (d_cons (d_sl (d_var (pv 0)) o_no (o_at d_int)) d_nil)) (kv_cons d_str d_int (kv_cons d_str d_int (kv_cons d_str d_int kv_nil)))))))
theorem ok_start_of (C : Cf w K mg) : FnG P w K mg base 1 (He.ga K "start_of") C.k_start_of ["work"] GM.F_start_of :=
 fn_D (k := 0) (N := N_start_of) C.d_start_of sc_start_of fun cdv A outer s H hr hX hp =>
 (s_one (s_ret (d_mul (d_tup (d_cons d_str d_nil)) (d_cb cr_len on_len C.n_len bb_len (d_cons (d_var (pv 0)) d_nil)))))
theorem ok_law (C : Cf w K mg) : FnG P w K mg base 6 (He.ga K "law") C.k_law ["_law_script"] F_law :=
 fn_D (k := 5) (N := N_law) C.d_law sc_law fun cdv A outer s H hr hX hp =>
 (s_cons (s_asg (d_call (ok__law_reader C) (hr.mono (by decide)) hX C.g__law_reader C.d__law_reader.kp (b__law_reader_1 C) DvIs.nil (d_cons (d_var (pv 0)) d_nil) rfl (len_cons (n := 0) (fun _ _ _ _ h => len_nil h))) (g_nm (i := 1) hX))
 (s_cons (s_asg (d_call0 (ok__law_fixed_works C) (hr.mono (by decide)) hX C.g__law_fixed_works C.d__law_fixed_works.kp (b__law_fixed_works_0 C) DvIs.nil) (g_nm (i := 2) hX))
 (s_cons (s_for hX hp (b := L_law_0) (i_rng1 C.n_range (d_cons d_int d_nil)) (g_nm (i := 3) hX)
  (s_one (s_drop (d_append (d_var (pv 2)) (d_cons (d_call (ok__law_random_work C) (hr.mono (by decide)) hX C.g__law_random_work C.d__law_random_work.kp (b__law_random_work_2 C) DvIs.nil (d_cons (d_var (pv 1)) (d_cons d_int d_nil)) rfl (len_cons (n := 1) (len_cons (n := 0) (fun _ _ _ _ h => len_nil h)))) d_nil)))))
 (s_cons (s_for hX hp (b := L_law_2) (i_val (d_var (pv 2))) (g_nm (i := 4) hX)
  (s_cons (s_if (t_ne hX (d_call (ok_worlds_of C) (hr.mono (by decide)) hX C.g_worlds_of C.d_worlds_of.kp (b_worlds_of_2 C) DvIs.nil (d_cons (d_var (pv 4)) (d_cons (d_call (ok_start_of C) (hr.mono (by decide)) hX C.g_start_of C.d_start_of.kp (b_start_of_1 C) DvIs.nil (d_cons (d_var (pv 4)) d_nil) rfl (len_cons (n := 0) (fun _ _ _ _ h => len_nil h))) d_nil)) rfl (len_cons (n := 1) (len_cons (n := 0) (fun _ _ _ _ h => len_nil h)))) (d_tup (d_cons (d_tup d_nil) d_nil)))
   (s_one (s_ret d_bl))
   s_nil)
  (s_one (s_for hX hp (b := L_law_1) (i_rng1 C.n_range (d_cons d_int d_nil)) (g_nm (i := 3) hX)
   (s_one (s_if (d_not (d_tru (d_call (ok__law_check_position C) (hr.mono (by decide)) hX C.g__law_check_position C.d__law_check_position.kp (b__law_check_position_2 C) DvIs.nil (d_cons (d_var (pv 4)) (d_cons (d_call (ok__law_random_position C) (hr.mono (by decide)) hX C.g__law_random_position C.d__law_random_position.kp (b__law_random_position_2 C) DvIs.nil (d_cons (d_var (pv 1)) (d_cons (d_var (pv 4)) d_nil)) rfl (len_cons (n := 1) (len_cons (n := 0) (fun _ _ _ _ h => len_nil h)))) d_nil)) rfl (len_cons (n := 1) (len_cons (n := 0) (fun _ _ _ _ h => len_nil h))))))
    (s_one (s_ret d_bl))
    s_nil))))))
 (s_cons (s_par (i := 5) (j := 6) hX (d_cons (d_call (ok__law_random_work C) (hr.mono (by decide)) hX C.g__law_random_work C.d__law_random_work.kp (b__law_random_work_2 C) DvIs.nil (d_cons (d_var (pv 1)) (d_cons d_int d_nil)) rfl (len_cons (n := 1) (len_cons (n := 0) (fun _ _ _ _ h => len_nil h)))) (d_cons d_dn0B d_nil)))
 (s_cons (s_for hX hp (b := L_law_3) (i_val (d_call (ok__law_all_positions C) (hr.mono (by decide)) hX C.g__law_all_positions C.d__law_all_positions.kp (b__law_all_positions_1 C) DvIs.nil (d_cons (d_var (pv 5)) d_nil) rfl (len_cons (n := 0) (fun _ _ _ _ h => len_nil h)))) (g_nm (i := 7) hX)
  (s_cons (s_asg (d_ct call_tuple_of on_tuple C.n_tuple bb_tuple (d_cons (d_lc hX [(("_law_status" : Str), 9)] (i_val (d_var (pv 7))) blk_ok (fun s H Cc cl fp => (w_nm (i := 9) hX.nd rfl (by first | exact .inl rfl | exact .inr rfl) (by decide) (by first | exact .inl rfl | exact .inr rfl))) (fun s H Cc cl fp => t_yes) (fun s H Cc cl fp => (d_ite (t_in (hX.blk _ _ _ _ _) (d_var (pv 9)) (d_tup (d_cons d_str (d_cons d_str d_nil)))) (d_var (pv 9)) d_str))) d_nil)) (g_nm (i := 8) hX))
  (s_cons (s_asg (d_call (ok_worlds_of C) (hr.mono (by decide)) hX C.g_worlds_of C.d_worlds_of.kp (b_worlds_of_2 C) DvIs.nil (d_cons (d_var (pv 5)) (d_cons (d_var (pv 7)) d_nil)) rfl (len_cons (n := 1) (len_cons (n := 0) (fun _ _ _ _ h => len_nil h)))) (g_nm (i := 10) hX))
  (s_cons (s_if (d_pt (w_or (d_not (d_tru (d_call (ok__law_check_position C) (hr.mono (by decide)) hX C.g__law_check_position C.d__law_check_position.kp (b__law_check_position_2 C) DvIs.nil (d_cons (d_var (pv 5)) (d_cons (d_var (pv 7)) d_nil)) rfl (len_cons (n := 1) (len_cons (n := 0) (fun _ _ _ _ h => len_nil h)))))) (w_or1 (t_ne hX (d_getN2 hX C.hw (d_var (pv 6)) (d_var (pv 10)) (d_var (pv 8))) (d_var (pv 8))))))
   (s_one (s_ret d_bl))
   s_nil)
  (s_one (s_asg (d_var (pv 8)) (g_sbN hX C.hw (d_var (pv 6)) (d_var (pv 10)))))))))
 (s_one (s_ret d_bl))))))))
end
theorem facts {w : World} {K : PySem.W.Frag} {h : Heap} {mg : Str → Option Value} (X : K.In h) (G : h.Ns mainGlobals mg) (cF : SaysF hf hd hc ht hx he hl w h K) (hw : Tb.hf = hashStr w) (htt : Tb.t = (tbOf hl).t) : ∃ C : Cf w K mg, True := by
  have c := says_d cF
  obtain ⟨k0, F0⟩ := c.def_ 0 rfl
  obtain ⟨k1, F1⟩ := c.def_ 1 rfl
  obtain ⟨k2, F2⟩ := c.def_ 2 rfl
  obtain ⟨k3, F3⟩ := c.def_ 3 rfl
  obtain ⟨k4, F4⟩ := c.def_ 4 rfl
  obtain ⟨k5, F5⟩ := c.def_ 5 rfl
  obtain ⟨k6, F6⟩ := c.def_ 6 rfl
  obtain ⟨k7, F7⟩ := c.def_ 7 rfl
  obtain ⟨k8, F8⟩ := c.def_ 8 rfl
  obtain ⟨k9, F9⟩ := c.def_ 9 rfl
  obtain ⟨k10, F10⟩ := c.def_ 10 rfl
  obtain ⟨k11, F11⟩ := c.def_ 11 rfl
  obtain ⟨k12, F12⟩ := c.def_ 12 rfl
  obtain ⟨k13, F13⟩ := c.def_ 13 rfl
  obtain ⟨k14, F14⟩ := c.def_ 14 rfl
  obtain ⟨k15, F15⟩ := c.def_ 15 rfl
  obtain ⟨k16, F16⟩ := c.def_ 16 rfl
  obtain ⟨k17, F17⟩ := c.def_ 17 rfl
  obtain ⟨k18, F18⟩ := c.def_ 18 rfl
  obtain ⟨k19, F19⟩ := c.def_ 19 rfl
  obtain ⟨k20, F20⟩ := c.def_ 20 rfl
  obtain ⟨k21, F21⟩ := c.def_ 21 rfl
  obtain ⟨k22, F22⟩ := c.def_ 22 rfl
  obtain ⟨k23, F23⟩ := c.def_ 23 rfl
  exact ⟨⟨k0, F0, He.glo_ok X G (c.fact 0 (f := .glo "_law_is_position") rfl), k1, F1, He.glo_ok X G (c.fact 1 (f := .glo "_law_names") rfl), k2, F2, He.glo_ok X G (c.fact 2 (f := .glo "_law_all_positions") rfl), k3, F3, He.glo_ok X G (c.fact 3 (f := .glo "_law_entry") rfl), k4, F4, He.glo_ok X G (c.fact 4 (f := .glo "is_one_of") rfl), k5, F5, He.glo_ok X G (c.fact 5 (f := .glo "is_status") rfl), k6, F6, He.glo_ok X G (c.fact 6 (f := .glo "is_tuple_of") rfl), k7, F7, He.glo_ok X G (c.fact 7 (f := .glo "require_paper") rfl), k8, F8, He.glo_ok X G (c.fact 8 (f := .glo "statuses_by_step") rfl), k9, F9, He.glo_ok X G (c.fact 9 (f := .glo "lets_position") rfl), k10, F10, He.glo_ok X G (c.fact 10 (f := .glo "steps_with") rfl), k11, F11, He.glo_ok X G (c.fact 11 (f := .glo "worlds_of") rfl), k12, F12, He.glo_ok X G (c.fact 12 (f := .glo "_law_check_position") rfl), k13, F13, He.glo_ok X G (c.fact 13 (f := .glo "_law_fixed_works") rfl), k14, F14, He.glo_ok X G (c.fact 14 (f := .glo "_law_draw") rfl), k15, F15, He.glo_ok X G (c.fact 15 (f := .glo "_law_order") rfl), k16, F16, He.glo_ok X G (c.fact 16 (f := .glo "_law_random_position") rfl), k17, F17, He.glo_ok X G (c.fact 17 (f := .glo "_law_random_abilities") rfl), k18, F18, He.glo_ok X G (c.fact 18 (f := .glo "_law_random_some") rfl), k19, F19, He.glo_ok X G (c.fact 19 (f := .glo "_law_random_work") rfl), k20, F20, He.glo_ok X G (c.fact 20 (f := .glo "_law_reader") rfl), k21, F21, He.glo_ok X G (c.fact 21 (f := .glo "start_of") rfl), k22, F22, He.glo_ok X G (c.fact 22 (f := .glo "law") rfl), He.free_ok X G (c.fact 23 (f := .free "all") rfl), He.free_ok X G (c.fact 24 (f := .free "dict") rfl), He.free_ok X G (c.fact 25 (f := .free "enumerate") rfl), He.free_ok X G (c.fact 26 (f := .free "int") rfl), He.free_ok X G (c.fact 27 (f := .free "isinstance") rfl), He.free_ok X G (c.fact 28 (f := .free "len") rfl), He.free_ok X G (c.fact 29 (f := .free "list") rfl), He.free_ok X G (c.fact 30 (f := .free "min") rfl), He.free_ok X G (c.fact 31 (f := .free "range") rfl), He.free_ok X G (c.fact 32 (f := .free "set") rfl), He.free_ok X G (c.fact 33 (f := .free "sorted") rfl), He.free_ok X G (c.fact 34 (f := .free "str") rfl), He.free_ok X G (c.fact 35 (f := .free "tuple") rfl), He.free_ok X G (c.fact 36 (f := .free "zip") rfl), says_c cF 0 rfl, gv_ok X G (says_c cF 0 rfl) (by intro h; cases h), He.glo_ok X G (c.fact 37 (f := .glo "InvalidPaper") rfl), He.glo_ok X G (c.fact 38 (f := .glo "PaperError") rfl), k23, F23, says_x cF 0 rfl, hw, htt, says_n cF⟩, trivial⟩
end K07
namespace WS
open PySem PySem.Spec PyProof.Rows L2 DL GA GM GW MG
theorem sl_inj {a b : List Nm} (h : a.map (·.s) = b.map (·.s)) : a = b := (List.map_inj_right fun _ _ e => Nm.inj e).mp h
theorem ts_same {A B : List (List Nm)} (ha : A.Nodup) (hb : B.Nodup) (h : ∀ w, w ∈ A ↔ w ∈ B) : tsort A = tsort B := tsort_eq ((List.perm_ext_iff_of_nodup ha hb).mpr h)
theorem subs_nd : ∀ {ms : List Nm} {f : List (List Nm)}, f.Nodup → ms.Nodup → (∀ w ∈ f, ∀ m ∈ ms, m ∉ w) → (subsF f ms).Nodup
  | [], f, h, _, _ => h
  | m :: ms, f, h, hm, hd => by
    rw [subsF_cons]
    obtain ⟨h1, h2⟩ := List.nodup_cons.mp hm
    refine subs_nd ?_ h2 fun w hw y hy => ?_
    · rw [List.nodup_append]
      refine ⟨h, List.Pairwise.map _ (fun a b hab e => hab (List.append_cancel_right e)) h, fun a ha b hb e => ?_⟩
      obtain ⟨c, hc, rfl⟩ := List.mem_map.mp hb
      refine hd a ha m (List.mem_cons_self ..) ?_
      rw [e]
      exact List.mem_append_right _ (List.mem_singleton.mpr rfl)
    · rcases List.mem_append.mp hw with hw | hw
      · exact hd w hw y (List.mem_cons_of_mem _ hy)
      · obtain ⟨c, hc, rfl⟩ := List.mem_map.mp hw
        intro hz
        rcases List.mem_append.mp hz with hz | hz
        · exact hd c hc y (List.mem_cons_of_mem _ hy) hz
        · exact h1 (List.mem_singleton.mp hz ▸ hy)
theorem subs_of : ∀ {ms : List Nm} {f : List (List Nm)} {v s : List Nm}, v ∈ f → s.Sublist ms → v ++ s ∈ subsF f ms
  | [], f, v, s, hv, hs => by
    rw [List.sublist_nil.mp hs, List.append_nil]
    exact hv
  | m :: ms, f, v, s, hv, hs => by
    rw [subsF_cons]
    cases hs with
    | cons _ hs => exact subs_of (List.mem_append_left _ hv) hs
    | cons_cons _ hs =>
      rename_i s
      have := subs_of (f := f ++ f.map (· ++ [m])) (v := v ++ [m]) (s := s) (List.mem_append_right _ (List.mem_map.mpr ⟨v, hv, rfl⟩)) hs
      rwa [List.append_assoc] at this
theorem sub_filter : ∀ {ms s : List Nm}, s.Sublist ms → ms.Nodup → s = ms.filter fun y => decide (y ∈ s)
  | [], s, h, _ => by
    rw [List.sublist_nil.mp h]
    rfl
  | m :: ms, s, h, hn => by
    obtain ⟨h1, h2⟩ := List.nodup_cons.mp hn
    cases h with
    | cons _ h =>
      rw [List.filter_cons, if_neg (by simpa using fun z => h1 (h.subset z))]
      exact sub_filter h h2
    | cons_cons _ h =>
      rename_i s
      rw [List.filter_cons, if_pos (by simp)]
      have e := sub_filter h h2
      congr 1
      refine e.trans (List.filter_congr fun y hy => ?_)
      have : y ≠ m := fun z => h1 (z ▸ hy)
      simp [this]
section
variable {rs : List Rw} {g : Nm → Nm} {w : List Nm} {x : Nm}
structure Wr (rs : List Rw) (g : Nm → Nm) (w : List Nm) : Prop where
  asc : Asc w
  inn : ∀ y ∈ w, y ∈ nm rs ∧ liv (g y) = true
  don : ∀ y ∈ nm rs, g y = sDone → y ∈ w
theorem selD : sel rs (po rs g) isD = (nm rs).filter fun y => decide ((g y).s = "done") := by
  unfold sel
  rw [zipg, List.filter_map, List.map_map]
  unfold nm
  rw [List.filter_map]
  rfl
theorem selM : sel rs (po rs g) isM = (nm rs).filter fun y => decide ((g y).s = "maybe") := by
  unfold sel
  rw [zipg, List.filter_map, List.map_map]
  unfold nm
  rw [List.filter_map]
  rfl
theorem wl_ex (hn : (nm rs).Nodup) : ∃ N : List (List Nm), WL rs (po rs g) = tsort N ∧ N.Nodup ∧ (∀ w, w ∈ N ↔ Wr rs g w) ∧ N ≠ [] ∧ N.length = 2 ^ (sel rs (po rs g) isM).length := by
  have n1 : ¬ ("done" : Str) = "maybe" := by decide +kernel
  have hD : ∀ y, y ∈ sel rs (po rs g) isD ↔ y ∈ nm rs ∧ (g y).s = "done" := fun y => by rw [selD, List.mem_filter, decide_eq_true_eq]
  have hM : ∀ y, y ∈ sel rs (po rs g) isM ↔ y ∈ nm rs ∧ (g y).s = "maybe" := fun y => by rw [selM, List.mem_filter, decide_eq_true_eq]
  have nD : (sel rs (po rs g) isD).Nodup := by rw [selD]; exact hn.sublist List.filter_sublist
  have nM : (sel rs (po rs g) isM).Nodup := by rw [selM]; exact hn.sublist List.filter_sublist
  have dis : ∀ y ∈ sel rs (po rs g) isM, y ∉ sel rs (po rs g) isD := fun y h1 h2 => n1 (((hD y).mp h2).2.symm.trans ((hM y).mp h1).2)
  generalize hDd : sel rs (po rs g) isD = D at hD nD dis
  generalize hMd : sel rs (po rs g) isM = M at hM nM dis
  have hW : WL rs (po rs g) = tsort ((subsF [sel rs (po rs g) isD] (sel rs (po rs g) isM)).map asort) := rfl
  refine ⟨(subsF [sel rs (po rs g) isD] (sel rs (po rs g) isM)).map asort, hW, ?_, fun w => ?_, ?_, ?_⟩
  · rw [hMd, hDd]
    have h1 : (subsF [D] M).Nodup := subs_nd (by simp) nM fun v hv m hm => by
      rw [List.mem_singleton.mp hv]
      exact dis m hm
    unfold List.Nodup
    rw [List.pairwise_map]
    refine List.Pairwise.imp_of_mem (fun {a b} ha hb hab e => hab ?_) h1
    obtain ⟨v, hv, s, hs, rfl⟩ := subsF_mem ha
    obtain ⟨v', hv', s', hs', rfl⟩ := subsF_mem hb
    rw [List.mem_singleton.mp hv, List.mem_singleton.mp hv'] at e ⊢
    congr 1
    rw [sub_filter hs nM, sub_filter hs' nM]
    refine List.filter_congr fun y hy => ?_
    rw [decide_eq_decide]
    have h2 : y ∈ D ++ s ↔ y ∈ D ++ s' := by rw [← asort_mem, e, asort_mem]
    rw [List.mem_append, List.mem_append] at h2
    have := dis y hy
    constructor
    · exact fun z => (h2.mp (.inr z)).resolve_left this
    · exact fun z => (h2.mpr (.inr z)).resolve_left this
  · rw [hMd, hDd, List.mem_map]
    constructor
    · rintro ⟨u, hu, rfl⟩
      obtain ⟨v, hv, s, hs, rfl⟩ := subsF_mem hu
      rw [List.mem_singleton.mp hv]
      have hnd : (D ++ s).Nodup := by
        rw [List.nodup_append]
        refine ⟨nD, nM.sublist hs, fun a ha b hb e => dis b (hs.subset hb) (e ▸ ha)⟩
      refine ⟨asort_asc hnd, fun y hy => ?_, fun y hy e => asort_mem.mpr (List.mem_append_left _ ((hD y).mpr ⟨hy, by rw [e]; rfl⟩))⟩
      rcases List.mem_append.mp (asort_mem.mp hy) with h | h
      · exact ⟨((hD y).mp h).1, decide_eq_true (.inl ((hD y).mp h).2)⟩
      · have := (hM y).mp (hs.subset h)
        exact ⟨this.1, decide_eq_true (.inr this.2)⟩
    · intro h
      refine ⟨D ++ M.filter fun y => decide (y ∈ w), subs_of (List.mem_singleton.mpr rfl) List.filter_sublist, ?_⟩
      have hnd : (D ++ M.filter fun y => decide (y ∈ w)).Nodup := by
        rw [List.nodup_append]
        refine ⟨nD, nM.sublist List.filter_sublist, fun a ha b hb e => dis b (List.mem_filter.mp hb).1 (e ▸ ha)⟩
      refine asc_eq (asort_asc hnd) h.asc fun y => ?_
      rw [asort_mem, List.mem_append, List.mem_filter, decide_eq_true_eq]
      constructor
      · rintro (z | ⟨_, z⟩)
        · obtain ⟨z1, z2⟩ := (hD y).mp z
          exact h.don y z1 (Nm.inj z2)
        · exact z
      · intro z
        obtain ⟨z1, z2⟩ := h.inn y z
        rcases of_decide_eq_true z2 with z3 | z3
        · exact .inl ((hD y).mpr ⟨z1, z3⟩)
        · exact .inr ⟨(hM y).mpr ⟨z1, z3⟩, z⟩
  · intro e
    have := congrArg List.length e
    rw [List.length_map, subsF_len] at this
    have h2 : 0 < 2 ^ (sel rs (po rs g) isM).length := Nat.two_pow_pos _
    simp at this
  · rw [List.length_map, subsF_len]
    simp [hMd]
end
end WS
namespace RN
open PySem PySem.Spec PyProof.Rows L2 DL GA GM GW FH
theorem zipg {g : Nm → Nm} : ∀ rs : List Rw, rs.zip ((nm rs).map g) = rs.map fun r => (r, g r.x)
  | [] => rfl
  | r :: rs => by
    show (r, g r.x) :: rs.zip ((nm rs).map g) = _
    rw [zipg rs]
    rfl
theorem stOf_map {g : Nm → Nm} {rs : List Rw} (hn : (nm rs).Nodup) {y : Nm} (hy : y ∈ nm rs) : stOf rs ((nm rs).map g) y = g y := by
  obtain ⟨r, hr, rfl⟩ := mem_nm.mp hy
  have hz : (r, g r.x) ∈ rs.zip ((nm rs).map g) := by
    rw [zipg]
    exact List.mem_map.mpr ⟨r, hr, rfl⟩
  exact stOf_z (z := (r, g r.x)) hn hz
theorem zip_snd : ∀ {rs : List Rw} {ps : List Nm}, rs.length = ps.length → (rs.zip ps).map (fun z => z.2) = ps
  | [], [], _ => rfl
  | [], _ :: _, h => by cases h
  | _ :: _, [], h => by cases h
  | r :: rs, p :: ps, h => by
    rw [List.zip_cons_cons, List.map_cons, zip_snd (Nat.succ.inj h)]
section
variable {rs : List Rw} {ps qs : List Nm} {w x out : Nm}
theorem pos_map (hn : (nm rs).Nodup) (hl : rs.length = ps.length) : ps = (nm rs).map (stOf rs ps) := by
  have h1 : (rs.zip ps).map (fun z => z.2) = (rs.zip ps).map (fun z => stOf rs ps z.1.x) := List.map_congr_left fun z hz => (stOf_z hn hz).symm
  rw [zip_snd hl] at h1
  have e : (rs.zip ps).map (fun z => stOf rs ps z.1.x) = ((rs.zip ps).map fun z => z.1).map fun r => stOf rs ps r.x := by
    rw [List.map_map]
    rfl
  refine h1.trans ?_
  rw [e, zip_fst hl]
  unfold nm
  rw [List.map_map]
  rfl
end
def renR (f : Nm → Nm) (r : Rw) : Rw := ⟨f r.x, asort (r.ne.map f), asort (r.se.map f), r.ab⟩
structure Ren (f : Nm → Nm) (rs rs' : List Rw) : Prop where
  inj : ∀ x ∈ nm rs, ∀ y ∈ nm rs, f x = f y → x = y
  perm : rs'.Perm (rs.map (renR f))
  asc : Asc (nm rs')
structure Cl (rs : List Rw) : Prop where
  ne : ∀ r ∈ rs, ∀ y ∈ r.ne, y ∈ nm rs
  se : ∀ r ∈ rs, ∀ y ∈ r.se, y ∈ nm rs
def inv (f : Nm → Nm) (rs : List Rw) (y : Nm) : Nm := ((nm rs).find? fun x => decide (f x = y)).getD default
def mvd (f : Nm → Nm) (rs rs' : List Rw) (ps : List Nm) : List Nm := (nm rs').map fun y => stOf rs ps (inv f rs y)
section
variable {f : Nm → Nm} {rs rs' : List Rw} {ps : List Nm} {w x out : Nm}
theorem Ren.inv (R : Ren f rs rs') (hx : x ∈ nm rs) : RN.inv f rs (f x) = x := by
  unfold RN.inv
  cases e : (nm rs).find? fun y => decide (f y = f x) with
  | none => exact absurd (List.find?_eq_none.mp e x hx) (by simp)
  | some y => exact R.inj y (List.mem_of_find?_eq_some e) x hx (by simpa using List.find?_some e)
theorem Ren.nmp (R : Ren f rs rs') : (nm rs').Perm ((nm rs).map f) := by
  have := R.perm.map (fun r : Rw => r.x)
  rw [List.map_map] at this
  unfold nm
  rw [List.map_map]
  exact this
theorem Ren.mem (R : Ren f rs rs') (hx : x ∈ nm rs) : f x ∈ nm rs' := R.nmp.mem_iff.mpr (List.mem_map.mpr ⟨x, hx, rfl⟩)
theorem Ren.of (R : Ren f rs rs') {y : Nm} (hy : y ∈ nm rs') : ∃ x ∈ nm rs, f x = y := List.mem_map.mp (R.nmp.mem_iff.mp hy)
theorem Ren.rows (R : Ren f rs rs') {q : Rw} : q ∈ rs' ↔ ∃ r ∈ rs, renR f r = q := R.perm.mem_iff.trans List.mem_map
theorem Ren.row (R : Ren f rs rs') (hx : x ∈ nm rs) : rowOf rs' (f x) = renR f (rowOf rs x) := by
  obtain ⟨h1, h2⟩ := rowOf_mem hx
  have := rowOf_eq R.asc.nd (R.rows.mpr ⟨_, h1, rfl⟩)
  rw [← this]
  show _ = rowOf rs' (f (rowOf rs x).x)
  rw [h2]
theorem Ren.st (R : Ren f rs rs') (hx : x ∈ nm rs) : stOf rs' (mvd f rs rs' ps) (f x) = stOf rs ps x := by
  unfold mvd
  rw [stOf_map R.asc.nd (R.mem hx), R.inv hx]
theorem HOk.mem {rs : List Rw} {ps : List Nm} {hs : List Hr} (H : HOk rs ps hs) : ∀ h ∈ hs, h.2.1 ∈ nm rs := fun h hh => by
  obtain ⟨i, hi, e⟩ := List.getElem_of_mem hh
  exact (H i h (by rw [List.getElem?_eq_getElem hi, e])).x
end
end RN
namespace RN
open PySem PySem.Spec PyProof.Rows L2 DL GA GM GW FH VP
open FA (AOk AOp poolF)
theorem poolF_low : ∀ x ∈ poolF, lowB x = true := by decide +kernel
theorem abA_ok : ∀ y ∈ FA.abN, y.s ∈ abL := by decide +kernel
theorem abA_asc : Asc FA.abN := ⟨by decide +kernel, by decide +kernel⟩
theorem aok_v {rs : List Rw} (Ap : AOp rs) : VOk rs where
  wok := Ap.a.wok
  pos := Ap.a.pos
  asc := Ap.a.asc
  rank := Ap.a.rank
  rw := fun r hr => by
    have A := Ap.a
    obtain ⟨rk, hrk⟩ := A.rank
    obtain ⟨a1, a2⟩ := A.ab r hr
    refine ⟨poolF_low _ (Ap.pool _ (mem_nm.mpr ⟨r, hr, rfl⟩)), ⟨(A.ne r hr).1, fun y hy => ⟨(A.ne r hr).2 y hy, fun e => ?_⟩⟩, ⟨(A.se r hr).1, fun y hy => ⟨(A.se r hr).2.1 y hy, fun e => (A.se r hr).2.2 (e ▸ hy)⟩⟩, abA_asc.sub a1, fun y hy => abA_ok y (a1.subset hy), fun h => ?_⟩
    · have := hrk r hr y hy
      rw [e] at this
      omega
    · have h1 : nRepeat ∈ r.ab := of_decide_eq_true (has_iff.symm.trans h)
      exact has_iff.trans (decide_eq_true (a2 h1))
theorem st4_l : ∀ x : Nm, FN.St4 x → x.s ∈ stL := fun x h => by
  have hh : FN.nOpen.s ∈ stL ∧ FN.nDone.s ∈ stL ∧ FN.nMaybe.s ∈ stL ∧ FN.nDead.s ∈ stL := by decide +kernel
  rcases h with rfl | rfl | rfl | rfl
  · exact hh.1
  · exact hh.2.1
  · exact hh.2.2.1
  · exact hh.2.2.2
theorem pv_of {rs : List Rw} {ps : List Nm} (C : Cl rs) (hn : (nm rs).Nodup) (p : FN.PosOk rs ps) : PV rs ps where
  len := p.len
  st := fun x hx => by
    have h := pos_map hn p.len
    rw [h] at hx
    obtain ⟨y, hy, rfl⟩ := List.mem_map.mp hx
    obtain ⟨z, hz, rfl⟩ := zip_of p.len hy
    rw [stOf_z hn hz]
    exact st4_l _ (p.ok z hz).1
  dead := fun z hz e => (p.ok z hz).2.1 (Nm.inj e)
  needs := fun z hz e y hy => by
    have hr : z.1 ∈ rs := (fst_sub rs ps).subset (List.mem_map.mpr ⟨z, hz, rfl⟩)
    obtain ⟨q, hq, rfl⟩ := zip_of p.len (C.ne _ hr y hy)
    rw [stOf_z hn hq, (p.ok z hz).2.2 (e.imp Nm.inj Nm.inj) q hq hy]
    rfl
structure Jn (r1 r2 rs : List Rw) : Prop where
  perm : rs.Perm (r1 ++ r2)
  asc : Asc (nm rs)
section
variable {r1 r2 rs : List Rw} {p1 p2 : List Nm} {w x out : Nm}
theorem Jn.symm (J : Jn r1 r2 rs) : Jn r2 r1 rs := ⟨J.perm.trans List.perm_append_comm, J.asc⟩
theorem Jn.nmp (J : Jn r1 r2 rs) : (nm rs).Perm (nm r1 ++ nm r2) := by
  unfold nm
  rw [← List.map_append]
  exact J.perm.map _
theorem Jn.in1 (J : Jn r1 r2 rs) (h : x ∈ nm r1) : x ∈ nm rs := J.nmp.mem_iff.mpr (List.mem_append_left _ h)
theorem Jn.of (J : Jn r1 r2 rs) (h : x ∈ nm rs) : x ∈ nm r1 ∨ x ∈ nm r2 := List.mem_append.mp (J.nmp.mem_iff.mp h)
end
def bare (rs : List Rw) : List Rw := rs.map fun r => ⟨r.x, r.ne, [], r.ab⟩
end RN
namespace GK
open PySem PySem.Spec PyProof.Rows L2 DL
structure KF {α : Type} (kf : α → P) where
  nk : α → NestedKey
  key : ∀ a, keyN (kf a) = some (nk a)
  inj : ∀ a b, nk a = nk b → a = b
  t : Bool
  tup : ∀ a, tupB (kf a) = t
section
variable {α : Type} {kf : α → P} (F : KF kf)
include F
theorem nkp (a : α) : nkP (kf a) = some (F.nk a) := (keyN_some (F.key a)).1
theorem same (xs : List α) (a : α) : sameK (xs.map kf) (kf a) = true := by
  unfold sameK
  rw [List.all_eq_true]
  intro p hp
  obtain ⟨b, _, rfl⟩ := List.mem_map.mp hp
  rw [F.tup a, F.tup b]
  simp
open Classical in
theorem idx (xs : List α) (a : α) : idxN (xs.map kf) (kf a) = xs.findIdx? fun b => decide (b = a) := by
  unfold idxN
  rw [List.findIdx?_map]
  congr 1
  funext b
  show decide (nkP (kf b) = nkP (kf a)) = _
  rw [nkp F a, nkp F b]
  by_cases h : b = a
  · subst h; simp
  · have : F.nk b ≠ F.nk a := fun z => h (F.inj _ _ z)
    simp [h, this]
theorem idx_none {xs : List α} {a : α} (h : a ∉ xs) : idxN (xs.map kf) (kf a) = none := by
  rw [idx F, List.findIdx?_eq_none_iff]
  intro b hb
  simp only [decide_eq_false_iff_not]
  exact fun z => h (z ▸ hb)
theorem idx_some {xs : List α} {a : α} (h : a ∈ xs) : ∃ i, ∃ hi : i < xs.length, idxN (xs.map kf) (kf a) = some i ∧ xs[i] = a := by
  rw [idx F]
  cases e : xs.findIdx? fun b => @decide (b = a) (Classical.propDecidable _) with
  | none =>
    have := List.findIdx?_eq_none_iff.mp e a h
    simp at this
  | some i =>
    obtain ⟨hl, e1, _⟩ := List.findIdx?_eq_some_iff_getElem.mp e
    exact ⟨i, hl, rfl, by simpa using e1⟩
theorem isSome (xs : List α) (a : α) [Decidable (a ∈ xs)] : (idxN (xs.map kf) (kf a)).isSome = decide (a ∈ xs) := by
  by_cases h : a ∈ xs
  · obtain ⟨i, _, e, _⟩ := idx_some F h
    rw [e]
    simp [h]
  · rw [idx_none F h]
    simp [h]
open Classical in
noncomputable def up {β : Type} (v : α → β) (a : α) (p : β) : α → β := fun b => if b = a then p else v b
omit F in
theorem up_same {β : Type} {v : α → β} {a : α} {p : β} : up v a p a = p := if_pos rfl
omit F in
theorem up_ne {β : Type} {v : α → β} {a b : α} {p : β} (h : b ≠ a) : up v a p b = v b := if_neg h
omit F in
theorem map_up_set {β : Type} {xs : List α} {v : α → β} {a : α} {p : β} {i : Nat} (nd : xs.Nodup) (hi : i < xs.length) (e : xs[i] = a) : (xs.map v).set i p = xs.map (up v a p) := by
  refine List.ext_getElem (by simp) fun j h1 h2 => ?_
  rw [List.length_set, List.length_map] at h1
  rw [List.getElem_set, List.getElem_map, List.getElem_map]
  by_cases h : i = j
  · subst h
    rw [if_pos rfl, e, up_same]
  · rw [if_neg h, up_ne]
    intro z
    exact h ((List.getElem_inj nd).mp (e.trans z.symm))
omit F in
theorem map_up_off {β : Type} {xs : List α} {v : α → β} {a : α} {p : β} (h : a ∉ xs) : xs.map (up v a p) = xs.map v := List.map_congr_left fun b hb => up_ne fun z => h (z ▸ hb)
theorem put_in {xs : List α} {a : α} {v : α → P} {p : P} (nd : xs.Nodup) (h : a ∈ xs) : putN (xs.map kf) (xs.map v) (kf a) p = (xs.map kf, xs.map (up v a p)) := by
  obtain ⟨i, hi, e, e2⟩ := idx_some F h
  unfold putN
  rw [e]
  show (xs.map kf, (xs.map v).set i p) = _
  rw [map_up_set nd hi e2]
theorem put_new {xs : List α} {a : α} {v : α → P} {p : P} (h : a ∉ xs) : putN (xs.map kf) (xs.map v) (kf a) p = ((xs ++ [a]).map kf, (xs ++ [a]).map (up v a p)) := by
  unfold putN
  rw [idx_none F h]
  show (xs.map kf ++ [kf a], xs.map v ++ [p]) = _
  rw [List.map_append, List.map_append, map_up_off h]
  show _ = (_ ++ [kf a], _ ++ [up v a p a])
  rw [up_same]
open Classical in
noncomputable def ins (xs : List α) (a : α) : List α := if a ∈ xs then xs else xs ++ [a]
omit F in
theorem ins_nodup {xs : List α} {a : α} (h : xs.Nodup) : (ins xs a).Nodup := by
  unfold ins
  split
  · exact h
  · rename_i ha
    exact List.nodup_append.mpr ⟨h, by simp, fun b hb c hc z => ha (by rw [List.mem_singleton.mp hc] at z; exact z ▸ hb)⟩
omit F in
theorem mem_ins {xs : List α} {a b : α} : b ∈ ins xs a ↔ b ∈ xs ∨ b = a := by
  unfold ins
  split
  · rename_i h
    exact ⟨.inl, fun z => z.elim id fun e => e ▸ h⟩
  · simp
omit F in
theorem ins_len {xs : List α} {a : α} : (ins xs a).length ≤ xs.length + 1 := by
  unfold ins
  split
  · omega
  · simp
theorem put {xs : List α} {a : α} {v : α → P} {p : P} (nd : xs.Nodup) : putN (xs.map kf) (xs.map v) (kf a) p = ((ins xs a).map kf, (ins xs a).map (up v a p)) := by
  unfold ins
  split
  · rename_i h
    exact put_in F nd h
  · rename_i h
    exact put_new F h
end
end GK
namespace GK
open PySem PySem.Spec PyProof.Rows L2 DL
section
variable {α : Type} {kf : α → P} (F : KF kf) {env : Dnv} {S S1 S2 S3 : Sto} {f g fo fi v : FE} {d : D} {a : α} {xs : List α} {w : α → P}
include F
theorem e_sbR {i : Nat} {p : P} (h0 : v env S = .ok (.v p) S1) (h1 : fo env S1 = .ok (.r i) S2) (h2 : fi env S2 = .ok (.v (kf a)) S3) (h3 : S3[i]? = some (.dn (xs.map kf) (xs.map w))) (nd : xs.Nodup) (hl : xs.length < 40000) :
    fSet v (gSbN fo fi) env S = .nx env (S3.set i (.dn ((ins xs a).map kf) ((ins xs a).map (up w a p)))) := by
  unfold fSet
  rw [h0]
  show (gSbN fo fi (.v p) env S1).fl _ = _
  have : gSbN fo fi (.v p) env S1 = .ok env (S3.set i (.dn ((ins xs a).map kf) ((ins xs a).map (up w a p)))) := by
    unfold gSbN
    rw [h1]
    show (fi env S2).bind _ = _
    rw [h2]
    simp only [Oc.bind_ok]
    have e : setN (.r i) (.v (kf a)) (.v p) S3 = some (S3.set i (.dn ((ins xs a).map kf) ((ins xs a).map (up w a p)))) := by
      unfold setN
      simp only [h3, F.key]
      rw [if_pos ⟨by rw [List.length_map]; exact hl, same F xs a⟩, put F nd]
    rw [e]
  rw [this]
  rfl
end
theorem F_nx {s : FS} {env e2 : Dnv} {S S2 : Sto} {E : FEn} (h : s env S = .nx e2 S2) (q : E.nx e2 S2) : (s env S).F E := by
  rw [h]
  exact q
end GK
namespace GG
open PySem PySem.Spec PyProof.Rows L2 DL GA GM GK GW
abbrev St := List Nm × (Nat × Nat)
theorem nkPs_N : ∀ xs : List Nm, nkPs (xs.map nP) = some (xs.map fun x => .text x.s)
  | [] => rfl
  | x :: xs => by
    show nkPs (nP x :: xs.map nP) = _
    unfold nkPs
    rw [nkPs_N xs]
    rfl
theorem dep_N : ∀ xs : List Nm, NestedKey.depthAll (xs.map fun x => NestedKey.text x.s) = 0
  | [] => rfl
  | x :: xs => by
    show max (NestedKey.depth (.text x.s)) (NestedKey.depthAll (xs.map fun x => NestedKey.text x.s)) = 0
    rw [dep_N xs]
    rfl
def nkT (ps : List Nm) : NestedKey := .tup (ps.map fun x => .text x.s)
theorem nkP_T (ps : List Nm) : nkP (tN ps) = some (nkT ps) := by
  show (nkPs (ps.map nP)).map NestedKey.tup = _
  rw [nkPs_N]
  rfl
theorem dep_T (ps : List Nm) : (nkT ps).depth = 1 := by
  show NestedKey.depthAll (ps.map fun x => NestedKey.text x.s) + 1 = 1
  rw [dep_N]
theorem nkT_inj {a b : List Nm} (h : nkT a = nkT b) : a = b := by
  unfold nkT at h
  injection h with h
  exact (List.map_inj_right fun x y e => Nm.inj (by injection e)).mp h
end GG
namespace GK
open PySem PySem.Spec PyProof.Rows L2 DL
section
variable {α : Type} {kf : α → P} (F : KF kf)
include F
open Classical in
theorem e_get2 {env : Dnv} {S S1 S2 S3 : Sto} {fo fi fx : FE} {d : D} {a : α} {xs : List α} {w : α → P} {z : P} (h1 : fo env S = .ok d S1) (h0 : dnOf d S1 = some (xs.map kf, xs.map w)) (h2 : fi env S1 = .ok (.v (kf a)) S2) (h3 : fx env S2 = .ok (.v z) S3) (h4 : dnOf d S3 = some (xs.map kf, xs.map w)) :
    fGetN2 fo fi fx env S = .ok (.v (if a ∈ xs then w a else z)) S3 := by
  unfold fGetN2
  rw [h1]
  simp only [Oc.bind_ok, h0, h2, h3, h4]
  have : getN (xs.map kf) (xs.map w) (kf a) z = some (if a ∈ xs then w a else z) := by
    unfold getN
    simp only [F.key, same F, if_true]
    by_cases h : a ∈ xs
    · obtain ⟨i, hi, e, e2⟩ := idx_some F h
      rw [e, if_pos h]
      show (xs.map w)[i]? = _
      rw [List.getElem?_map, List.getElem?_eq_getElem hi, e2]
      rfl
    · rw [idx_none F h, if_neg h]
  rw [this]
end
end GK
namespace K07
open PySem PySem.Spec PyProof.Rows L2 DL GA GM GW MG WS
open FA (AOk AOp)
open FN (PosOk)
theorem ne_same {n : Nat} {p : P} (h : Pl n p) (hn : n ≤ 64 := by decide) : pNe p p = some (.bl false) := (neP (z := True) h h (by simp) hn hn).trans rfl
theorem eq_same {n : Nat} {p : P} (h : Pl n p) (hn : n ≤ 64 := by decide) : pEq p p = some (.bl true) := (eqP (z := True) h h (by simp) hn hn).trans rfl
theorem pl_tsT (A : List (List Nm)) : Pl 2 (.tup (A.map tN)) := pl_tup (n := 1) fun q hq => by
  obtain ⟨s, _, rfl⟩ := List.mem_map.mp hq
  exact pl_tN s
theorem pl_tsL (A : List (List Nm)) : Pl 2 (.lst (A.map tN)) := pl_lst (n := 1) fun q hq => by
  obtain ⟨s, _, rfl⟩ := List.mem_map.mp hq
  exact pl_tN s
theorem eN {env : Dnv} {S : Sto} : (fTup fNil : FE) env S = .ok (.v (.tup [])) S := e_tup (ds := []) e_nil rfl (by show (0 : Nat) ≤ 100000; decide)
theorem e2 {f g : FE} {env : Dnv} {S S1 S2 : Sto} {p q : P} (h : f env S = .ok (.v p) S1) (h2 : g env S1 = .ok (.v q) S2) : (fTup (fCons f (fCons g fNil)) : FE) env S = .ok (.v (.tup [p, q])) S2 := e_tup (ds := [.v p, .v q]) (e_cons h (e_cons h2 e_nil)) rfl (by show (2 : Nat) ≤ 100000; decide)
theorem e1 {f : FE} {env : Dnv} {S S1 : Sto} {p : P} (h : f env S = .ok (.v p) S1) : (fTup (fCons f fNil) : FE) env S = .ok (.v (.tup [p])) S1 := e_tup (ds := [.v p]) (e_cons h e_nil) rfl (by show (1 : Nat) ≤ 100000; decide)
theorem dsetF {M B : List (List Nm)} (h : ∀ w ∈ M, w ∈ B) (hB : B.length ≤ 300) : ∃ N : List (List Nm), bSortSet [.lst (M.map tN)] = some (.lst ((tsort N).map tN)) ∧ N.Nodup ∧ ∀ w, w ∈ N ↔ w ∈ M := by
  by_cases h0 : M = []
  · subst h0
    refine ⟨[], ?_, List.nodup_nil, fun w => Iff.rfl⟩
    have e1 : tsort [] = [] := by
      unfold tsort
      simp
    rw [e1]
    show some (P.lst (srt [])) = _
    rw [srt_nil.mpr rfl]
    rfl
  have e : M.map tN = (M.map fun w => w.map (·.s)).map stP := by
    rw [List.map_map]
    exact List.map_congr_left fun w _ => tN_st w
  have few : (ddL (M.map fun w => w.map (·.s))).length < 305 := by
    have h1 := (nd_ddL (M.map fun w => w.map (·.s))).length_le_of_subset (l₂ := B.map fun w => w.map (·.s)) fun k hk => by
      obtain ⟨w, hw, rfl⟩ := List.mem_map.mp (mem_ddL.mp hk)
      exact List.mem_map.mpr ⟨w, h w hw, rfl⟩
    rw [List.length_map] at h1
    omega
  have ok : okL (M.map fun w => w.map (·.s)) := ⟨.inr few, List.all_eq_true.mpr fun k hk => by
    obtain ⟨w, _, rfl⟩ := List.mem_map.mp hk
    refine List.all_eq_true.mpr fun x hx => ?_
    obtain ⟨n, _, rfl⟩ := List.mem_map.mp hx
    exact n.ok.1⟩
  have ne : (M.map fun w => w.map (·.s)) ≠ [] := fun z => h0 (List.map_eq_nil_iff.mp z)
  have hsub : ∀ k ∈ ddL (M.map fun w => w.map (·.s)), ∃ w ∈ M, w.map (·.s) = k := fun k hk => List.mem_map.mp (mem_ddL.mp hk)
  obtain ⟨N, hN⟩ : ∃ N : List (List Nm), ddL (M.map fun w => w.map (·.s)) = N.map fun w => w.map (·.s) := by
    generalize ddL (M.map fun w => w.map (·.s)) = L at hsub
    induction L with
    | nil => exact ⟨[], rfl⟩
    | cons k L ih =>
      obtain ⟨N, hN⟩ := ih fun k hk => hsub k (List.mem_cons_of_mem _ hk)
      obtain ⟨w, _, rfl⟩ := hsub k (List.mem_cons_self ..)
      exact ⟨w :: N, by rw [hN]; rfl⟩
  refine ⟨N, ?_, ?_, fun w => ?_⟩
  · rw [e, o_stL ok ne, hN, tsort_map]
    congr 2
    have : N.map tN = (N.map fun w => w.map (·.s)).map stP := by
      rw [List.map_map]
      exact List.map_congr_left fun w _ => tN_st w
    rw [this]
  · have h1 := nd_ddL (M.map fun w => w.map (·.s))
    rw [hN] at h1
    exact List.Pairwise.of_map _ (fun a b h z => h (by rw [z])) h1
  · constructor
    · intro hw
      obtain ⟨v, hv, ev⟩ := hsub _ (by rw [hN]; exact List.mem_map.mpr ⟨w, hw, rfl⟩)
      rw [← sl_inj ev]
      exact hv
    · intro hw
      have h1 : w.map (·.s) ∈ N.map fun w => w.map (·.s) := by
        rw [← hN]
        exact mem_ddL.mpr (List.mem_map.mpr ⟨w, hw, rfl⟩)
      obtain ⟨v, hv, ev⟩ := List.mem_map.mp h1
      rw [← sl_inj ev]
      exact hv
def cx (x : Nm) (f : List (List Nm)) : Nat := (f.filter fun w => decide (x ∈ w)).length
section
variable {o : Ob} {T : Sto} {rs : List Rw} {ps : List Nm} {x : Nm} {g g' : Nm → Nm}
theorem cx_no : ∀ {ms : List Nm} {f : List (List Nm)}, x ∉ ms → cx x (subsF f ms) = cx x f * 2 ^ ms.length
  | [], f, _ => by simp [subsF]
  | m :: ms, f, h => by
    have hm : x ≠ m := fun e => h (e ▸ List.mem_cons_self ..)
    have e : cx x (f ++ f.map (· ++ [m])) = cx x f + cx x f := by
      unfold cx
      rw [List.filter_append, List.length_append, List.filter_map, List.length_map]
      have : ((fun w : List Nm => decide (x ∈ w)) ∘ fun w : List Nm => w ++ [m]) = fun w => decide (x ∈ w) := by
        funext w
        simp [hm]
      rw [this]
    rw [subsF_cons, cx_no fun z => h (List.mem_cons_of_mem _ z), e, List.length_cons, Nat.pow_succ, ← Nat.two_mul, Nat.mul_comm 2, Nat.mul_assoc, Nat.mul_comm 2]
theorem cx_yes : ∀ {ms : List Nm} {f : List (List Nm)}, x ∈ ms → ms.Nodup → (∀ w ∈ f, x ∉ w) → 2 * cx x (subsF f ms) = f.length * 2 ^ ms.length
  | m :: ms, f, hx, hn, hf => by
    obtain ⟨h1, h2⟩ := List.nodup_cons.mp hn
    by_cases e : x = m
    · subst e
      have e2 : cx x (f ++ f.map (· ++ [x])) = f.length := by
        unfold cx
        rw [List.filter_append, List.length_append, List.filter_map, List.length_map]
        have h3 : f.filter (fun w => decide (x ∈ w)) = [] := List.filter_eq_nil_iff.mpr fun w hw => by simp [hf w hw]
        have h4 : ((fun w : List Nm => decide (x ∈ w)) ∘ fun w : List Nm => w ++ [x]) = fun _ => true := by
          funext w
          simp
        rw [h3, h4, filter_yes, List.length_nil, Nat.zero_add]
      rw [subsF_cons, cx_no h1, e2, List.length_cons, Nat.pow_succ, Nat.mul_comm 2, Nat.mul_assoc]
    · have hx : x ∈ ms := (List.mem_cons.mp hx).resolve_left e
      have := cx_yes (f := f ++ f.map (· ++ [m])) hx h2 fun w hw => by
        rcases List.mem_append.mp hw with hw | hw
        · exact hf w hw
        · obtain ⟨u, hu, rfl⟩ := List.mem_map.mp hw
          intro z
          rcases List.mem_append.mp z with z | z
          · exact hf u hu z
          · exact e (List.mem_singleton.mp z)
      rw [subsF_cons, this, List.length_append, List.length_map, List.length_cons, Nat.pow_succ, ← Nat.two_mul, Nat.mul_comm 2, Nat.mul_assoc, Nat.mul_comm 2]
def mc (ps : List Nm) : Nat := (ps.filter fun s : Nm => decide (s.s = ("maybe" : Str))).length
theorem sel_mc (hl : rs.length = ps.length) : (sel rs ps isM).length = mc ps := by
  have h2 : (rs.zip ps).map (·.2) = ps := by
    rw [List.map_snd_zip (by omega)]
  unfold sel mc
  rw [List.length_map]
  conv => rhs; rw [← h2, List.filter_map, List.length_map]
  rfl
theorem wl_def : WL rs ps = tsort ((subsF [sel rs ps isD] (sel rs ps isM)).map asort) := rfl
theorem wl_cnt (x : Nm) : ((WL rs ps).filter fun w => decide (x ∈ w)).length = cx x (subsF [sel rs ps isD] (sel rs ps isM)) := by
  rw [wl_def, ((tsort_perm _).filter _).length_eq, List.filter_map, List.length_map]
  unfold cx
  refine congrArg List.length (List.filter_congr fun w _ => ?_)
  show decide (x ∈ asort w) = decide (x ∈ w)
  rw [decide_eq_decide]
  exact asort_mem
theorem wl_len (hl : rs.length = ps.length) : (WL rs ps).length = 2 ^ mc ps := by
  rw [wl_def, (tsort_perm _).length_eq, List.length_map, subsF_len, sel_mc hl]
  simp
def due (ps : List Nm) (s : Nm) : Nat := if s.s = "done" then 2 ^ mc ps else if s.s = "maybe" then 2 ^ mc ps / 2 else 0
theorem cnt_due (hn : (nm rs).Nodup) (hx : x ∈ nm rs) : ((WL rs (po rs g)).filter fun w => decide (x ∈ w)).length = due (po rs g) (g x) := by
  have n1 : ¬ ("done" : Str) = "maybe" := by decide +kernel
  have hD : ∀ y, y ∈ sel rs (po rs g) isD ↔ y ∈ nm rs ∧ (g y).s = "done" := fun y => by rw [selD, List.mem_filter, decide_eq_true_eq]
  have hM : ∀ y, y ∈ sel rs (po rs g) isM ↔ y ∈ nm rs ∧ (g y).s = "maybe" := fun y => by rw [selM, List.mem_filter, decide_eq_true_eq]
  have nM : (sel rs (po rs g) isM).Nodup := by rw [selM]; exact hn.sublist List.filter_sublist
  have hl := sel_mc (rs := rs) (ps := po rs g) po_len
  rw [wl_cnt]
  unfold due
  rw [← hl]
  by_cases h1 : (g x).s = "done"
  · rw [if_pos h1, cx_no fun z => n1 (h1.symm.trans ((hM x).mp z).2)]
    have : cx x [sel rs (po rs g) isD] = 1 := by
      unfold cx
      rw [List.filter_cons, if_pos (decide_eq_true ((hD x).mpr ⟨hx, h1⟩))]
      rfl
    rw [this, Nat.one_mul]
  · rw [if_neg h1]
    by_cases h2 : (g x).s = "maybe"
    · rw [if_pos h2]
      have := cx_yes (f := [sel rs (po rs g) isD]) ((hM x).mpr ⟨hx, h2⟩) nM fun w hw z => by
        rw [List.mem_singleton.mp hw] at z
        exact h1 ((hD x).mp z).2
      rw [List.length_singleton, Nat.one_mul] at this
      omega
    · rw [if_neg h2, cx_no fun z => h2 ((hM x).mp z).2]
      have : cx x [sel rs (po rs g) isD] = 0 := by
        unfold cx
        rw [List.filter_cons, if_neg (by simpa using fun z => h1 ((hD x).mp z).2)]
        rfl
      rw [this, Nat.zero_mul]
theorem wl_mem (hn : (nm rs).Nodup) {w : List Nm} : w ∈ WL rs (po rs g) ↔ Wr rs g w := by
  obtain ⟨N, e, _, n2, _, _⟩ := wl_ex (rs := rs) (g := g) hn
  rw [e]
  exact ((tsort_perm N).mem_iff).trans (n2 w)
theorem wl_nd (hn : (nm rs).Nodup) : (WL rs (po rs g)).Nodup := by
  obtain ⟨N, e, n1, _, _, _⟩ := wl_ex (rs := rs) (g := g) hn
  rw [e]
  exact ((tsort_perm N).nodup_iff).mpr n1
theorem wl_sort (hn : (nm rs).Nodup) (h8 : rs.length ≤ 8) : bSortSet [.tup ((WL rs (po rs g)).map tN)] = some (.lst ((WL rs (po rs g)).map tN)) := by
  have hl : (WL rs (po rs g)).length ≤ 300 := by
    rw [wl_len po_len, ← sel_mc po_len]
    have h1 : (sel rs (po rs g) isM).length ≤ 8 := Nat.le_trans sel_len h8
    calc 2 ^ (sel rs (po rs g) isM).length ≤ 2 ^ 8 := Nat.pow_le_pow_right (by decide) h1
      _ ≤ 300 := by decide
  obtain ⟨N, e1, e2, e3⟩ := dsetF (M := WL rs (po rs g)) (B := WL rs (po rs g)) (fun _ h => h) hl
  have e4 : tsort N = WL rs (po rs g) := by
    obtain ⟨Z, z1, z2, _, _, _⟩ := wl_ex (rs := rs) (g := g) hn
    rw [z1, ts_same e2 z2 fun w => ?_]
    rw [e3, z1]
    exact (tsort_perm Z).mem_iff
  rw [e4] at e1
  exact e1
theorem wr_inter {a b : List Nm} (ha : Wr rs g a) (hb : Wr rs g b) : Wr rs g (a.filter fun y => decide (y ∈ b)) where
  asc := ha.asc.sub List.filter_sublist
  inn := fun y hy => ha.inn y (List.mem_filter.mp hy).1
  don := fun y hy e => List.mem_filter.mpr ⟨ha.don y hy e, decide_eq_true (hb.don y hy e)⟩
theorem wr_union {a b : List Nm} (ha : Wr rs g a) (hb : Wr rs g b) : Wr rs g (so (a ++ b)) where
  asc := so_asc _
  inn := fun y hy => (List.mem_append.mp (so_mem.mp hy)).elim (ha.inn y) (hb.inn y)
  don := fun y hy e => so_mem.mpr (List.mem_append_left _ (ha.don y hy e))
theorem w_in {L : List (List Nm)} {u : List Nm} : pIn (tN u) (.tup (L.map tN)) = some (.bl (decide (u ∈ L))) := by
  obtain ⟨k, h1, h2⟩ := in_tup (n := 1) (m := 1) (p := tN u) (ps := L.map tN) (pl_tN _) (fun q hq => by
    obtain ⟨z, _, rfl⟩ := List.mem_map.mp hq
    exact pl_tN _) (by decide)
  rw [h1]
  congr 2
  refine boolE (h2.trans ?_)
  rw [List.mem_map]
  exact ⟨fun ⟨z, hz, e⟩ => by rw [← tN_inj.mp e]; exact hz, fun h => ⟨u, h, rfl⟩⟩
theorem w_ni {L : List (List Nm)} {u : List Nm} (h : u ∈ L) : pNotIn (tN u) (.tup (L.map tN)) = some (.bl false) := (notIn_of w_in).trans (by rw [decide_eq_true h]; rfl)
theorem sl_any {qs : List P} {a b : Option Int} : ∃ ks : List P, pSl (.tup qs) a b = some (.tup ks) ∧ ks.Sublist qs := by
  refine ⟨_, rfl, ?_⟩
  unfold cutL
  exact (List.take_sublist _ _).trans (List.drop_sublist _ _)
theorem o_minI {xs : List Nat} {m : Nat} (hm : m ∈ xs) (h : ∀ y ∈ xs, m ≤ y) : MN.bMin1 [.lst (xs.map fun n : Nat => P.int (n : Int))] = some (.int (m : Int)) := by
  cases xs with
  | nil => cases hm
  | cons x xs =>
    have py : ∀ n : Nat, pyOf (P.int (n : Int)) = PyData.int (n : Int) := fun _ => rfl
    have le : ∀ a b : Nat, PySem.W.dataLe false pyOf (P.int (a : Int)) (P.int (b : Int)) = decide ((a : Int) ≤ b) := fun a b => congrFun (congrFun (PySem.W.dataLe_int (β := Nat) fun n => (n : Int)) a) b
    refine MN.o_min (x := P.int (x : Int)) (xs := xs.map fun n : Nat => P.int (n : Int)) ⟨fun p hp => ?_, fun p hp q hq => ?_⟩ (fun p hp => ?_) (fun p hp => ?_) (List.mem_map_of_mem (f := fun n : Nat => P.int (n : Int)) hm) fun p hp => ?_
    · obtain ⟨y, _, rfl⟩ := List.mem_map.mp (show p ∈ (x :: xs).map (fun n : Nat => P.int (n : Int)) from hp)
      rfl
    · obtain ⟨y, _, rfl⟩ := List.mem_map.mp (show p ∈ (x :: xs).map (fun n : Nat => P.int (n : Int)) from hp)
      obtain ⟨z, _, rfl⟩ := List.mem_map.mp (show q ∈ (x :: xs).map (fun n : Nat => P.int (n : Int)) from hq)
      rfl
    · obtain ⟨y, _, rfl⟩ := List.mem_map.mp (show p ∈ (x :: xs).map (fun n : Nat => P.int (n : Int)) from hp)
      exact Nat.zero_le _
    · obtain ⟨y, _, rfl⟩ := List.mem_map.mp (show p ∈ (x :: xs).map (fun n : Nat => P.int (n : Int)) from hp)
      rfl
    · obtain ⟨y, hy, rfl⟩ := List.mem_map.mp (show p ∈ (x :: xs).map (fun n : Nat => P.int (n : Int)) from hp)
      rw [le]
      exact decide_eq_true (by exact_mod_cast h y hy)
theorem wl_min (hn : (nm rs).Nodup) : MN.bMin1 [.lst ((WL rs (po rs g)).map fun w => P.int (w.length : Int))] = some (.int (((po rs g).filter fun s : Nm => decide (s.s = ("done" : Str))).length : Int)) := by
  have hD : ∀ y, y ∈ sel rs (po rs g) isD ↔ y ∈ nm rs ∧ (g y).s = "done" := fun y => by rw [selD, List.mem_filter, decide_eq_true_eq]
  have nD : (sel rs (po rs g) isD).Nodup := by rw [selD]; exact hn.sublist List.filter_sublist
  have hlen : ((po rs g).filter fun s : Nm => decide (s.s = ("done" : Str))).length = (sel rs (po rs g) isD).length := by
    rw [selD]
    unfold po
    rw [List.filter_map, List.length_map]
    rfl
  have hw : Wr rs g (asort (sel rs (po rs g) isD)) := ⟨asort_asc nD, fun y hy => by
    obtain ⟨h1, h2⟩ := (hD y).mp (asort_mem.mp hy)
    exact ⟨h1, decide_eq_true (.inl h2)⟩, fun y hy e => asort_mem.mpr ((hD y).mpr ⟨hy, by rw [e]; rfl⟩)⟩
  rw [hlen, ← (asort_perm (sel rs (po rs g) isD)).length_eq]
  have := o_minI (xs := (WL rs (po rs g)).map List.length) (m := (asort (sel rs (po rs g) isD)).length) (List.mem_map_of_mem ((wl_mem hn).mpr hw)) fun y hy => by
    obtain ⟨w, hw2, rfl⟩ := List.mem_map.mp hy
    have W := (wl_mem hn).mp hw2
    rw [(asort_perm (sel rs (po rs g) isD)).length_eq]
    exact nD.length_le_of_subset fun y hy => by
      obtain ⟨h1, h2⟩ := (hD y).mp hy
      exact W.don y h1 (Nm.inj h2)
  rw [List.map_map] at this
  exact this
def ow (s : Nm) : Nm := if s.s = "done" ∨ s.s = "maybe" then s else lit "out"
theorem wl_own (hn : (nm rs).Nodup) (h : WL rs (po rs g) = WL rs (po rs g')) {y : Nm} (hy : y ∈ nm rs) : ow (g y) = ow (g' y) := by
  have hw : ∀ w, Wr rs g w ↔ Wr rs g' w := fun w => by rw [← wl_mem hn, ← wl_mem hn, h]
  have lvl : ∀ {f f' : Nm → Nm}, (∀ w, Wr rs f w → Wr rs f' w) → liv (f y) = true → liv (f' y) = true := fun {f f'} hf hl => by
    have hW : Wr rs f ((asort (nm rs)).filter fun z => liv (f z)) := ⟨(asort_asc hn).sub List.filter_sublist, fun z hz => by
      obtain ⟨h1, h2⟩ := List.mem_filter.mp hz
      exact ⟨asort_mem.mp h1, h2⟩, fun z hz e => List.mem_filter.mpr ⟨asort_mem.mpr hz, by rw [e]; exact liv_done⟩⟩
    exact ((hf _ hW).inn y (List.mem_filter.mpr ⟨asort_mem.mpr hy, hl⟩)).2
  have don : ∀ {f f' : Nm → Nm}, (∀ w, Wr rs f' w → Wr rs f w) → (f y).s = "done" → (f' y).s = "done" := fun {f f'} hf hd => by
    have hd : f y = sDone := Nm.inj hd
    have hW : Wr rs f' ((asort (nm rs)).filter fun z => decide ((f' z).s = "done")) := ⟨(asort_asc hn).sub List.filter_sublist, fun z hz => by
      obtain ⟨h1, h2⟩ := List.mem_filter.mp hz
      exact ⟨asort_mem.mp h1, decide_eq_true (.inl (of_decide_eq_true h2))⟩, fun z hz e => List.mem_filter.mpr ⟨asort_mem.mpr hz, decide_eq_true (by rw [e]; rfl)⟩⟩
    exact of_decide_eq_true (List.mem_filter.mp ((hf _ hW).don y hy hd)).2
  have d1 : (g y).s = "done" ↔ (g' y).s = "done" := ⟨don fun w => (hw w).mpr, don fun w => (hw w).mp⟩
  have l1 : liv (g y) = liv (g' y) := Bool.eq_iff_iff.mpr ⟨lvl fun w => (hw w).mp, lvl fun w => (hw w).mpr⟩
  have l2 : ∀ s : Nm, liv s = decide (s.s = "done" ∨ s.s = "maybe") := fun _ => rfl
  rw [l2, l2, decide_eq_decide] at l1
  unfold ow
  by_cases z : (g y).s = "done" ∨ (g y).s = "maybe"
  · rw [if_pos z, if_pos (l1.mp z)]
    rcases z with z | z
    · exact Nm.inj (z.trans (d1.mp z).symm)
    · refine Nm.inj (z.trans ?_)
      rcases l1.mp (.inr z) with z2 | z2
      · exact absurd ((d1.mpr z2).symm.trans z) (by decide +kernel)
      · exact z2.symm
  · rw [if_neg z, if_neg fun z2 => z (l1.mpr z2)]
end
end K07
namespace K07
open PySem PySem.Spec PyProof.Rows L2 DL GA GM GW MG WS
open FA (AOk AOp)
open FN (PosOk)
section
variable {o : Ob} {T : Sto} {rs : List Rw} {ps : List Nm} {x : Nm} {g g' : Nm → Nm} {k : Nat}
theorem ne_int {a b : Int} (h : a = b) : pNe (.int a) (.int b) = some (.bl false) := by
  subst h
  exact ne_same pl_int
theorem ne_nil0 : pNe (.lst []) (.lst []) = some (.bl false) := ne_same (pl_lst (n := 0) (ps := []) (by simp))
def kD : List Key := [.inr "done", .inr "maybe", .inr "open", .inr "dead"]
theorem kD_nd : kD.Nodup := by decide +kernel
theorem o_due {n : Nat} {s : Nm} (h : FN.St4 s) : pIx (.dic kD [.int ((2 ^ n : Nat) : Int), .int (((2 ^ n : Nat) : Int) / 2), .int 0, .int 0]) (nP s) = some (.int (((if s.s = "done" then 2 ^ n else if s.s = "maybe" then 2 ^ n / 2 else 0 : Nat)) : Int)) := by
  have n1 : ("maybe" : Str) ≠ "done" := by decide +kernel
  have n2 : ("open" : Str) ≠ "done" := by decide +kernel
  have n3 : ("open" : Str) ≠ "maybe" := by decide +kernel
  have n4 : ("dead" : Str) ≠ "done" := by decide +kernel
  have n5 : ("dead" : Str) ≠ "maybe" := by decide +kernel
  rcases h with rfl | rfl | rfl | rfl
  · rw [if_neg (show ¬ FN.nOpen.s = "done" from n2), if_neg (show ¬ FN.nOpen.s = "maybe" from n3)]
    exact ix_at 2 kD_nd rfl rfl
  · rw [if_pos (show FN.nDone.s = "done" from rfl)]
    exact ix_at 0 kD_nd rfl rfl
  · rw [if_neg (show ¬ FN.nMaybe.s = "done" from n1), if_pos (show FN.nMaybe.s = "maybe" from rfl), Int.natCast_ediv]
    exact ix_at 1 kD_nd rfl rfl
  · rw [if_neg (show ¬ FN.nDead.s = "done" from n4), if_neg (show ¬ FN.nDead.s = "maybe" from n5)]
    exact ix_at 3 kD_nd rfl rfl
theorem mul2 (n : Int) : pMul (.int 2) (.int n) = some (.int (2 * n)) := by
  show (if -(2 ^ 64) < n ∧ n < 2 ^ 64 then some (P.int (2 * n)) else if -(2 ^ 64) < (2 : Int) ∧ (2 : Int) < 2 ^ 64 then some (P.int (2 * n)) else none) = _
  split
  · rfl
  · exact if_pos (by decide)
theorem mc_take {s : Nm} (h : ps[k]? = some s) : mc (ps.take (k + 1)) = mc (ps.take k) + (if s.s = "maybe" then 1 else 0) := by
  unfold mc
  rw [FH.take_add h, List.filter_append, List.length_append, List.filter_cons]
  by_cases z : s.s = "maybe"
  · rw [if_pos (decide_eq_true z), if_pos z]
    rfl
  · rw [if_neg (by simpa using z), if_neg z]
    rfl
set_option maxHeartbeats 8000000 in
theorem check_position (A : AOk rs) (V : VP.VOk rs) (hp : PosOk rs ps) : F__law_check_position [.v (wkP rs), .v (tN ps)] (o :: T) = .ok (.v (.bl true)) (o :: T) := by
  have W := A.wok
  have hn := W.nd
  have h8 := A.len
  have hl := hp.len
  have hc : Clo rs := fun r hr y hy => (A.ne r hr).2 y hy
  obtain ⟨g, rfl⟩ : ∃ g, ps = po rs g := ⟨stOf rs ps, RN.pos_map hn hl⟩
  have hnl : (nm rs).length = rs.length := List.length_map ..
  have hpl : (po rs g).length = rs.length := by rw [po_len (rs := rs) (g := g)]
  have hgs : ∀ y ∈ nm rs, FN.St4 (g y) := fun y hy => by
    obtain ⟨r, hr, rfl⟩ := mem_nm.mp hy
    exact (hp.ok (r, g r.x) (by rw [zipg]; exact List.mem_map.mpr ⟨r, hr, rfl⟩)).1
  have hne : ∀ r ∈ rs, liv (g r.x) = true → ∀ y ∈ r.ne, y ∈ nm rs ∧ g y = sDone := fun r hr hlv y hy => by
    have hyn := (A.ne r hr).2 y hy
    obtain ⟨r2, hr2, rfl⟩ := mem_nm.mp hyn
    refine ⟨hyn, (hp.ok (r, g r.x) (by rw [zipg]; exact List.mem_map.mpr ⟨r, hr, rfl⟩)).2.2 ?_ (r2, g r2.x) (by rw [zipg]; exact List.mem_map.mpr ⟨r2, hr2, rfl⟩) hy⟩
    rcases of_decide_eq_true hlv with z | z
    · exact .inl (Nm.inj z)
    · exact .inr (Nm.inj z)
  have hWl : (WL rs (po rs g)).length = 2 ^ mc (po rs g) := wl_len hl
  have h300 : (WL rs (po rs g)).length ≤ 256 := by
    rw [hWl, ← sel_mc hl]
    exact Nat.pow_le_pow_right (by decide) (Nat.le_trans sel_len h8)
  have hml : ∀ w ∈ WL rs (po rs g), Wr rs g w ∧ w.length ≤ 8 := fun w hw => by
    have hW := (wl_mem hn).mp hw
    refine ⟨hW, Nat.le_trans ((asc_sub hW.asc A.asc fun y hy => (hW.inn y hy).1).length_le) (by rw [hnl]; exact h8)⟩
  have hnd := wl_nd (g := g) hn
  have hso := wl_sort (g := g) hn h8
  have hmn := wl_min (g := g) hn
  have hcn := fun y hy => cnt_due (g := g) (x := y) hn hy
  refine e_run ?_
  show (B__law_check_position [some (.v (wkP rs)), some (.v (tN (po rs g))), none, none, none, none, none, none, none, none, none, none, none, none] (o :: (T ++ []))).F _
  unfold B__law_check_position
  refine s_Seq (s_Par2 (d := .v (.tup ((WL rs (po rs g)).map tN))) (e := .v (lN (nm rs))) (S1 := o :: (T ++ [])) (e_cons (e_call (e_cons (e_var rfl) (e_cons (e_var rfl) e_nil)) (GW.worlds W h8 hl)) (e_cons (e_call (e_cons (e_var rfl) e_nil) (FA.names W)) e_nil)) ?_)
  simp only [List.set_cons_succ, List.set_cons_zero]
  have hmem : ∀ w ∈ WL rs (po rs g), w ∈ WL rs (po rs g) := fun _ h => h
  have hin : ∀ u, Wr rs g u → u ∈ WL rs (po rs g) := fun u hu => (wl_mem hn).mpr hu
  have hget : ∀ {i : Nat} {w : List Nm}, (WL rs (po rs g))[i]? = some w → Wr rs g w ∧ w.length ≤ 8 := fun h => hml _ (List.mem_of_getElem? h)
  have hWs := GW.worlds (o := o) (T := T ++ []) W h8 hl
  generalize WL rs (po rs g) = L at hWl h300 hml hnd hso hmn hcn hmem hin hget hWs ⊢
  have h1 : (1 : Int) = ((2 ^ mc ((po rs g).take 0) : Nat) : Int) := by
    rw [List.take_zero]
    rfl
  refine s_Seq (s_SetE (d := .v (.int 1)) (S1 := o :: (T ++ [])) e_c e_gNm ?_)
  simp only [List.set_cons_succ, List.set_cons_zero]
  refine s_Seq (s_ForE (z := ((po rs g).map nP, none)) (S1 := o :: (T ++ [])) (e_iv (e_var rfl) rfl) ?_)
  refine s_Loop (fun i env S => ∃ a5 : Option D, env = [some (.v (wkP rs)), some (.v (tN (po rs g))), some (.v (.tup (L.map tN))), some (.v (lN (nm rs))), some (.v (.int ((2 ^ mc ((po rs g).take i) : Nat) : Int))), a5, none, none, none, none, none, none, none, none] ∧ S = o :: (T ++ [])) ⟨none, by rw [← h1], rfl⟩ (fun _ _ _ _ => own_none) ?_ ?_
  · rintro i p env S hi ⟨a5, rfl, rfl⟩
    have hi' : ((po rs g).map nP)[i]? = some p := hi
    rw [List.getElem?_map] at hi'
    obtain ⟨s, hs, rfl⟩ := Option.map_eq_some_iff.mp hi'
    refine P_of e_gNm ?_
    unfold L__law_check_position_0
    simp only [List.set_cons_succ, List.set_cons_zero]
    have hm2 : ∀ n : Int, pMul (.int 2) (.int n) = some (.int (2 * n)) := mul2
    have eqv : (if decide (s.s = "maybe") = true then P.int (2 * ((2 ^ mc ((po rs g).take i) : Nat) : Int)) else P.int ((2 ^ mc ((po rs g).take i) : Nat) : Int)) = P.int ((2 ^ mc ((po rs g).take (i + 1)) : Nat) : Int) := by
      rw [mc_take hs]
      by_cases z : s.s = "maybe"
      · rw [if_pos (decide_eq_true z), if_pos z, Nat.pow_succ, Nat.mul_comm]
        rfl
      · rw [if_neg (by simpa using z), if_neg z]
        rfl
    have hset := e_ite (a := decide (s.s = "maybe")) (p := .int (2 * ((2 ^ mc ((po rs g).take i) : Nat) : Int))) (q := .int ((2 ^ mc ((po rs g).take i) : Nat) : Int)) (t := fTru (f2 pEq (fVar 5) (fC (.v (.str "maybe"))))) (f := f2 pMul (fC (.v (.int 2))) (fVar 4)) (g := fVar 4) (env := [some (.v (wkP rs)), some (.v (tN (po rs g))), some (.v (.tup (L.map tN))), some (.v (lN (nm rs))), some (.v (.int ((2 ^ mc ((po rs g).take i) : Nat) : Int))), some (.v (nP s)), none, none, none, none, none, none, none, none]) (S := o :: (T ++ [])) (e_tru (e_f2 (e_var rfl) e_c (e_l2 rfl rfl (o_eqL (by decide +kernel)))) rfl rfl) (fun _ => e_f2 e_c (e_var rfl) (e_l2 rfl rfl (hm2 _))) fun _ => e_var rfl
    rw [eqv] at hset
    exact s_SetE hset e_gNm ⟨_, rfl, rfl⟩
  rintro env S ⟨a5, rfl, rfl⟩
  dsimp only
  rw [List.length_map, List.take_length]
  have bF : bLen [.tup (L.map tN)] = some (.int (L.length : Int)) := by
    show some (P.int ((L.map tN).length : Int)) = _
    rw [List.length_map]
  have bl1 : bList [.tup (L.map tN)] = some (.lst (L.map tN)) := rfl
  refine s_Seq (s_IfE (k := false) (S1 := o :: (T ++ [])) (e_or (a := false) (b := false) (e_tru (e_f2 (e_cb (e_cons (e_var rfl) e_nil) (a_cons rfl a_nil) bF) (e_var rfl) (e_l2 rfl rfl (ne_int (by rw [hWl])))) rfl rfl) fun _ => e_tru (e_f2 (e_cb (e_cons (e_var rfl) e_nil) (a_cons rfl a_nil) bl1) (e_cb (e_cons (e_var rfl) e_nil) (a_cons rfl a_nil) hso) (e_l2 rfl rfl (ne_same (pl_tsL _)))) rfl rfl) (fun z => by cases z) fun _ => s_Nx ?_)
  dsimp only
  have bN : bLen [lN (nm rs)] = some (.int ((nm rs).length : Int)) := by
    show some (P.int (((nm rs).map nP).length : Int)) = _
    rw [List.length_map]
  refine s_Seq (s_ForE (e_rg (n := ((nm rs).length : Int)) (e_cons (e_cb (e_cons (e_var rfl) e_nil) (a_cons rfl a_nil) bN) e_nil) (by omega) (by omega)) ?_)
  refine s_Loop (fun i env S => ∃ a6 a7 a9 : Option D, env = [some (.v (wkP rs)), some (.v (tN (po rs g))), some (.v (.tup (L.map tN))), some (.v (lN (nm rs))), some (.v (.int ((2 ^ mc (po rs g) : Nat) : Int))), a5, a6, a7, none, a9, none, none, none, none] ∧ S = o :: (T ++ [])) ⟨_, _, _, rfl, rfl⟩ (fun _ _ _ _ => own_none) ?_ ?_
  · rintro i p env S hi ⟨a6, a7, a9, rfl, rfl⟩
    obtain ⟨hi1, rfl⟩ := rgP_at hi
    have hil : i < (nm rs).length := by omega
    obtain ⟨y, hy⟩ : ∃ y, (nm rs)[i]? = some y := ⟨_, List.getElem?_eq_getElem hil⟩
    have hym := List.mem_of_getElem? hy
    have xi : pIx (lN (nm rs)) (.int (i : Int)) = some (nP y) := (o_ix (f := nP) hy).1
    have xs : pIx (tN (po rs g)) (.int (i : Int)) = some (nP (g y)) := (o_ix (f := nP) (xs := po rs g) (by rw [List.getElem?_map, hy]; rfl)).2
    refine P_of e_gNm ?_
    unfold L__law_check_position_1
    simp only [List.set_cons_succ, List.set_cons_zero]
    have bc : bLen [.lst ((L.filter fun w => decide (y ∈ w)).map tN)] = some (.int ((due (po rs g) (g y) : Nat) : Int)) := by
      show some (P.int (((L.filter fun w => decide (y ∈ w)).map tN).length : Int)) = _
      rw [List.length_map, hcn y hym]
    refine s_Seq (s_SetE (S1 := o :: (T ++ [])) (e_cb (e_cons (e_lc (xs := L) (f := tN) (own := none) (q := fun w => decide (y ∈ w)) (hh := tN) (S1 := o :: (T ++ [])) (e_iv (e_var rfl) rfl) own_none (by omega) fun w hw => e_body e_gNm (e_tru (e_f2 (e_f2 (e_var rfl) (e_var rfl) (e_l2 rfl rfl xi)) (e_var rfl) (e_l2 rfl rfl o_inT)) rfl rfl) fun _ => e_var rfl) e_nil) (a_cons rfl a_nil) bc) e_gNm ?_)
    simp only [List.set_cons_succ, List.set_cons_zero]
    have hdic : fDic [((fC (.v (.str "done"))), (fVar 4)), ((fC (.v (.str "maybe"))), (f2 pFdiv (fVar 4) (fC (.v (.int 2))))), ((fC (.v (.str "open"))), (fC (.v (.int 0)))), ((fC (.v (.str "dead"))), (fC (.v (.int 0))))] [some (.v (wkP rs)), some (.v (tN (po rs g))), some (.v (.tup (L.map tN))), some (.v (lN (nm rs))), some (.v (.int ((2 ^ mc (po rs g) : Nat) : Int))), a5, some (.v (.int (i : Int))), some (.v (.int ((due (po rs g) (g y) : Nat) : Int))), none, a9, none, none, none, none] (o :: (T ++ [])) = .ok (.v (.dic kD [.int ((2 ^ mc (po rs g) : Nat) : Int), .int (((2 ^ mc (po rs g) : Nat) : Int) / 2), .int 0, .int 0])) (o :: (T ++ [])) :=
      FM.e_dic (kvs := [(.inr "done", .int ((2 ^ mc (po rs g) : Nat) : Int)), (.inr "maybe", .int (((2 ^ mc (po rs g) : Nat) : Int) / 2)), (.inr "open", .int 0), (.inr "dead", .int 0)]) rfl (by show (4 : Nat) ≤ 15; decide) kD_nd
    refine s_Seq (s_SetE (d := .v (.int ((due (po rs g) (g y) : Nat) : Int))) (S1 := o :: (T ++ [])) (e_f2 hdic (e_f2 (e_var rfl) (e_var rfl) (e_l2 rfl rfl xs)) (e_l2 rfl rfl (o_due (hgs y hym)))) e_gNm ?_)
    simp only [List.set_cons_succ, List.set_cons_zero]
    exact s_IfE (k := false) (S1 := o :: (T ++ [])) (e_tru (e_f2 (e_var rfl) (e_var rfl) (e_l2 rfl rfl (ne_int rfl))) rfl rfl) (fun z => by cases z) fun _ => s_Nx ⟨_, _, _, rfl, rfl⟩
  rintro env S ⟨a6, a7, a9, rfl, rfl⟩
  dsimp only
  refine s_Seq (s_ForE (z := (L.map tN, none)) (S1 := o :: (T ++ [])) (e_iv (e_var rfl) rfl) ?_)
  refine s_Loop (fun i env S => ∃ a8 : Option D, env = [some (.v (wkP rs)), some (.v (tN (po rs g))), some (.v (.tup (L.map tN))), some (.v (lN (nm rs))), some (.v (.int ((2 ^ mc (po rs g) : Nat) : Int))), a5, a6, a7, a8, a9, none, none, none, none] ∧ S = o :: (T ++ [])) ⟨_, rfl, rfl⟩ (fun _ _ _ _ => own_none) ?_ ?_
  · rintro i p env S hi ⟨a8, rfl, rfl⟩
    have hi' : (L.map tN)[i]? = some p := hi
    rw [List.getElem?_map] at hi'
    obtain ⟨w, hw, rfl⟩ := Option.map_eq_some_iff.mp hi'
    obtain ⟨hW, hw8⟩ := hget hw
    refine P_of e_gNm ?_
    unfold L__law_check_position_2
    simp only [List.set_cons_succ, List.set_cons_zero]
    have c1 : ∀ {env : Dnv}, env[8]? = some (some (.v (tN w))) → env[3]? = some (some (.v (lN (nm rs)))) → 10 < env.length → fLc (iVal (fVar 8)) (gNm 10) (fTru (f2 pNotIn (fVar 10) (fVar 3))) (fVar 10) [10] env (o :: (T ++ [])) = .ok (.v (.lst [])) (o :: (T ++ [])) := fun {env} h1 h2 h3 => by
      refine (e_lc (xs := w) (f := nP) (own := none) (q := fun _ => false) (hh := nP) (S1 := o :: (T ++ [])) (e_iv (e_var h1) rfl) own_none (by omega) fun y hy => ?_).trans (by simp)
      have hyn := (hW.inn y hy).1
      have e3 : ((wipeE env [10]).set 10 (some (.v (nP y))))[3]? = some (some (.v (lN (nm rs)))) := by
        show ((env.set 10 none).set 10 _)[3]? = _
        rw [List.getElem?_set_ne (by decide), List.getElem?_set_ne (by decide), h2]
      have e10 : ((wipeE env [10]).set 10 (some (.v (nP y))))[10]? = some (some (.v (nP y))) := by
        show ((env.set 10 none).set 10 _)[10]? = _
        rw [List.getElem?_set_self (by rw [List.length_set]; exact h3)]
      exact e_body e_gNm (e_tru (e_f2 (e_var e10) (e_var e3) (e_l2 rfl rfl ((notIn_of o_inLs).trans (by rw [decide_eq_true hyn] <;> rfl)))) rfl rfl) fun z => by cases z
    refine s_Seq (s_IfE (k := false) (S1 := o :: (T ++ [])) (e_tru (e_f2 (c1 rfl rfl (by show 10 < 14; decide)) (e_lst (ds := []) e_nil rfl (by show (0 : Nat) ≤ 100000; decide)) (e_l2 rfl rfl ne_nil0)) rfl rfl) (fun z => by cases z) fun _ => s_Nx ?_)
    dsimp only
    have c2 : fLc (iVal (fVar 8)) (gNm 10) (fTru (f2 pNe (fLc (iVal (f2 pIx (fCall FA.F__law_entry [] (fCons (fVar 0) (fCons (fVar 10) fNil))) (fC (.v (.int 1))))) (gNm 11) (fTru (f2 pNotIn (fVar 11) (fVar 8))) (fVar 11) [11]) (fLst fNil))) (fVar 10) [10] [some (.v (wkP rs)), some (.v (tN (po rs g))), some (.v (.tup (L.map tN))), some (.v (lN (nm rs))), some (.v (.int ((2 ^ mc (po rs g) : Nat) : Int))), a5, a6, a7, some (.v (tN w)), a9, none, none, none, none] (o :: (T ++ [])) = .ok (.v (.lst [])) (o :: (T ++ [])) := by
      refine (e_lc (xs := w) (f := nP) (own := none) (q := fun _ => false) (hh := nP) (S1 := o :: (T ++ [])) (e_iv (e_var rfl) rfl) own_none (by omega) fun y hy => ?_).trans (by simp)
      obtain ⟨hyn, hlv⟩ := hW.inn y hy
      obtain ⟨hr1, hr2⟩ := rowOf_mem hyn
      have hnl' := W.ne _ hr1
      have i1 : pIx (rwP (rowOf rs y)) (.int 1) = some (tN (rowOf rs y).ne) := rfl
      have c3 : fLc (iVal (f2 pIx (fCall FA.F__law_entry [] (fCons (fVar 0) (fCons (fVar 10) fNil))) (fC (.v (.int 1))))) (gNm 11) (fTru (f2 pNotIn (fVar 11) (fVar 8))) (fVar 11) [11] [some (.v (wkP rs)), some (.v (tN (po rs g))), some (.v (.tup (L.map tN))), some (.v (lN (nm rs))), some (.v (.int ((2 ^ mc (po rs g) : Nat) : Int))), a5, a6, a7, some (.v (tN w)), a9, some (.v (nP y)), none, none, none] (o :: (T ++ [])) = .ok (.v (.lst [])) (o :: (T ++ [])) := by
        refine (e_lc (xs := (rowOf rs y).ne) (f := nP) (own := none) (q := fun _ => false) (hh := nP) (S1 := o :: (T ++ [])) (e_iv (e_f2 (e_call (e_cons (e_var rfl) (e_cons (e_var rfl) e_nil)) (FA.entry W hyn)) e_c (e_l2 rfl rfl i1)) rfl) own_none (by omega) fun z hz => ?_).trans (by simp)
        obtain ⟨hz1, hz2⟩ := hne _ hr1 (by rw [hr2]; exact hlv) z hz
        have hzw := hW.don z hz1 hz2
        exact e_body e_gNm (e_tru (e_f2 (e_var rfl) (e_var rfl) (e_l2 rfl rfl ((notIn_of o_inT).trans (by rw [decide_eq_true hzw] <;> rfl)))) rfl rfl) fun z => by cases z
      exact e_body e_gNm (e_tru (e_f2 c3 (e_lst (ds := []) e_nil rfl (by show (0 : Nat) ≤ 100000; decide)) (e_l2 rfl rfl ne_nil0)) rfl rfl) fun z => by cases z
    exact s_IfE (k := false) (S1 := o :: (T ++ [])) (e_tru (e_f2 c2 (e_lst (ds := []) e_nil rfl (by show (0 : Nat) ≤ 100000; decide)) (e_l2 rfl rfl ne_nil0)) rfl rfl) (fun z => by cases z) fun _ => s_Nx ⟨_, rfl, rfl⟩
  rintro env S ⟨a8, rfl, rfl⟩
  dsimp only
  obtain ⟨q1, hq1, hs1⟩ := sl_any (qs := L.map tN) (a := none) (b := some 3)
  obtain ⟨q2, hq2, hs2⟩ := sl_any (qs := L.map tN) (a := some (-3)) (b := none)
  have hneg : ∀ {env : Dnv} {S : Sto}, f1 pNeg (fC (.v (.int 3))) env S = .ok (.v (.int (-3))) S := fun {env S} => rfl
  refine s_Seq (s_ForE (z := (q1, none)) (S1 := o :: (T ++ [])) (e_iv (e_sl (e_var rfl) e_oNo (e_oAt e_c) rfl hq1) rfl) ?_)
  refine s_Loop (fun i env S => ∃ a8 a12 a13 : Option D, env = [some (.v (wkP rs)), some (.v (tN (po rs g))), some (.v (.tup (L.map tN))), some (.v (lN (nm rs))), some (.v (.int ((2 ^ mc (po rs g) : Nat) : Int))), a5, a6, a7, a8, a9, none, none, a12, a13] ∧ S = o :: (T ++ [])) ⟨_, _, _, rfl, rfl⟩ (fun _ _ _ _ => own_none) ?_ ?_
  · rintro i p env S hi ⟨a8, a12, a13, rfl, rfl⟩
    obtain ⟨a, ha, rfl⟩ := List.mem_map.mp (hs1.subset (List.mem_of_getElem? hi))
    obtain ⟨hWa, ha8⟩ := hml a ha
    refine P_of e_gNm ?_
    unfold L__law_check_position_4
    simp only [List.set_cons_succ, List.set_cons_zero]
    refine s_ForE (z := (q2, none)) (S1 := o :: (T ++ [])) (e_iv (e_sl (e_var rfl) (e_oAt hneg) e_oNo rfl hq2) rfl) ?_
    refine s_Loop (fun j env S => ∃ a12 a13 : Option D, env = [some (.v (wkP rs)), some (.v (tN (po rs g))), some (.v (.tup (L.map tN))), some (.v (lN (nm rs))), some (.v (.int ((2 ^ mc (po rs g) : Nat) : Int))), a5, a6, a7, some (.v (tN a)), a9, none, none, a12, a13] ∧ S = o :: (T ++ [])) ⟨_, _, rfl, rfl⟩ (fun _ _ _ _ => own_none) ?_ ?_
    · rintro j p env S hj ⟨a12, a13, rfl, rfl⟩
      obtain ⟨b, hb, rfl⟩ := List.mem_map.mp (hs2.subset (List.mem_of_getElem? hj))
      obtain ⟨hWb, hb8⟩ := hml b hb
      refine P_of e_gNm ?_
      unfold L__law_check_position_3
      simp only [List.set_cons_succ, List.set_cons_zero]
      refine s_Seq (s_SetE (d := .v (tN (a.filter fun y => decide (y ∈ b)))) (S1 := o :: (T ++ [])) (e_cb (e_cons (e_lc (xs := a) (f := nP) (own := none) (q := fun y => decide (y ∈ b)) (hh := nP) (S1 := o :: (T ++ [])) (e_iv (e_var rfl) rfl) own_none (by omega) fun y hy => e_body e_gNm (e_tru (e_f2 (e_var rfl) (e_var rfl) (e_l2 rfl rfl o_inT)) rfl rfl) fun _ => e_var rfl) e_nil) (a_cons rfl a_nil) o_tuple) e_gNm ?_)
      simp only [List.set_cons_succ, List.set_cons_zero]
      exact s_IfE (k := false) (S1 := o :: (T ++ [])) (e_or (a := false) (b := false) (e_tru (e_f2 (e_var rfl) (e_var rfl) (e_l2 rfl rfl (w_ni (hin _ (wr_inter hWa hWb))))) rfl rfl) fun _ => e_tru (e_f2 (e_cb (e_cons (e_cb (e_cons (e_f2 (e_var rfl) (e_var rfl) (e_l2 rfl rfl (o_addT (by omega)))) e_nil) (a_cons rfl a_nil) (o_soT (by rw [List.length_append]; omega))) e_nil) (a_cons rfl a_nil) o_tuple) (e_var rfl) (e_l2 rfl rfl (w_ni (hin _ (wr_union hWa hWb))))) rfl rfl) (fun z => by cases z) fun _ => s_Nx ⟨_, _, rfl, rfl⟩
    · rintro env S ⟨a12, a13, rfl, rfl⟩
      exact ⟨_, _, _, rfl, rfl⟩
  rintro env S ⟨a8, a12, a13, rfl, rfl⟩
  dsimp only
  have hlp := VP.lets_position (o := o) (T := T ++ []) V (RN.pv_of ⟨hc, fun r hr y hy => (A.se r hr).2.1 y hy⟩ hn hp)
  refine s_RetE (S1 := o :: (T ++ [])) (e_f2 (e_call (e_cons (e_var rfl) (e_cons (e_var rfl) e_nil)) hlp) (e_cb (e_cons (e_lcA (xs := L) (f := tN) (own := none) (hh := fun w => P.int (w.length : Int)) (S1 := o :: (T ++ [])) (e_iv (e_var rfl) rfl) own_none (by omega) fun w hw => e_body e_gNm e_yes fun _ => e_cb (e_cons (e_var rfl) e_nil) (a_cons rfl a_nil) (by show some (P.int ((w.map nP).length : Int)) = _; rw [List.length_map])) e_nil) (a_cons rfl a_nil) hmn) (e_l2 rfl rfl (eq_same pl_int))) e_close
end
end K07
namespace K07
open PySem PySem.Spec PyProof.Rows L2 DL GA GM GW MG WS GK
open FA (AOk AOp)
open FN (PosOk St4)
def kW (L : List (List Nm)) : P := .tup (L.map tN)
theorem nkPs_T : ∀ L : List (List Nm), nkPs (L.map tN) = some (L.map GG.nkT)
  | [] => rfl
  | w :: L => by
    show (match nkP (tN w), nkPs (L.map tN) with | some k, some ks => some (k :: ks) | _, _ => none) = _
    rw [GG.nkP_T, nkPs_T L]
    rfl
theorem dep_W : ∀ L : List (List Nm), NestedKey.depthAll (L.map GG.nkT) ≤ 1
  | [] => Nat.zero_le _
  | w :: L => by
    show max (GG.nkT w).depth (NestedKey.depthAll (L.map GG.nkT)) ≤ 1
    rw [GG.dep_T]
    exact Nat.max_le.mpr ⟨Nat.le_refl _, dep_W L⟩
def kfW : KF kW := ⟨fun L => .tup (L.map GG.nkT), fun L => by
  unfold keyN kW
  have e : nkP (.tup (L.map tN)) = some (.tup (L.map GG.nkT)) := by
    show (nkPs (L.map tN)).map NestedKey.tup = _
    rw [nkPs_T]
    rfl
  rw [e]
  have h : (NestedKey.tup (L.map GG.nkT)).depth ≤ 8 := by
    show NestedKey.depthAll (L.map GG.nkT) + 1 ≤ 8
    have := dep_W L
    omega
  exact if_pos h, fun a b h => by
    injection h with h
    exact (List.map_inj_right fun x y e => GG.nkT_inj e).mp h, true, fun _ => rfl⟩
section
variable {o : Ob} {T : Sto} {rs : List Rw} {ps : List Nm} {x : Nm} {k : Nat}
theorem o_in2 {s : Nm} : pIn (nP s) (.tup [.str "done", .str "maybe"]) = some (.bl (decide (s ∈ [sDone, sMaybe]))) := o_inT (xs := [sDone, sMaybe])
theorem in2 {s : Nm} : s ∈ [sDone, sMaybe] ↔ s.s = "done" ∨ s.s = "maybe" := by
  simp only [List.mem_cons, List.not_mem_nil, or_false]
  exact ⟨fun h => h.imp (fun e => by rw [e]; rfl) fun e => by rw [e]; rfl, fun h => h.imp (fun e => Nm.inj e) fun e => Nm.inj e⟩
def okR (rs : List Rw) (ps : List Nm) (r : Rw) : Prop := ((stOf rs ps r.x).s = "dead" → has "again" r.ab = false) ∧ ((stOf rs ps r.x).s = "done" ∨ (stOf rs ps r.x).s = "maybe" → ∀ y ∈ r.ne, (stOf rs ps y).s = "done")
theorem pos_of (A : AOk rs) (hl : rs.length = ps.length) (hs : ∀ s ∈ ps, St4 s) (h : ∀ r ∈ rs, okR rs ps r) : PosOk rs ps where
  len := hl
  ok := fun z hz => by
    have hn := A.wok.nd
    have e := stOf_z hn hz
    have hr := h z.1 (List.of_mem_zip hz).1
    unfold okR at hr
    rw [e] at hr
    refine ⟨hs _ (List.of_mem_zip hz).2, fun d => hr.1 (by rw [d]; rfl), fun d y hy hyn => ?_⟩
    have := hr.2 (d.imp (fun e => by rw [e]; rfl) fun e => by rw [e]; rfl) _ hyn
    rw [stOf_z hn hy] at this
    exact Nm.inj this
set_option maxHeartbeats 4000000 in
theorem is_position (A : AOk rs) (hl : rs.length = ps.length) (hs : ∀ s ∈ ps, St4 s) : ∃ b : Bool, F__law_is_position [.v (wkP rs), .v (tN ps)] (o :: T) = .ok (.v (.bl b)) (o :: T) ∧ (b = true → PosOk rs ps) := by
  have W := A.wok
  have hn := W.nd
  have key : (F__law_is_position [.v (wkP rs), .v (tN ps)] (o :: T)).P fun d S => S = o :: T ∧ ∃ b : Bool, d = .v (.bl b) ∧ (b = true → PosOk rs ps) := by
    refine p_runC ?_
    show (B__law_is_position [some (.v (wkP rs)), some (.v (tN ps)), none, none, none, none, none, none, none] (o :: (T ++ []))).F _
    unfold B__law_is_position
    refine s_Seq (s_SetE (FM.sdict (i := 3) (T := T ++ []) W hl rfl rfl (by decide) (by show (3 : Nat) < 9; decide)) e_gNm ?_)
    simp only [List.set_cons_succ, List.set_cons_zero]
    refine s_Seq (s_ForE (z := (rs.map rwP, none)) (S1 := o :: (T ++ [])) (e_iv (e_var rfl) rfl) ?_)
    refine s_Loop (fun i env S => ∃ a4 a5 a6 a7 : Option D, env = [some (.v (wkP rs)), some (.v (tN ps)), some (.v (sdP rs ps)), none, a4, a5, a6, a7, none] ∧ S = o :: (T ++ []) ∧ ∀ r ∈ rs.take i, okR rs ps r) ⟨_, _, _, _, rfl, rfl, fun r hr => by simp at hr⟩ (fun _ _ _ _ => own_none) ?_ ?_
    · rintro i p env S hi ⟨a4, a5, a6, a7, rfl, rfl, hok⟩
      have hi' : (rs.map rwP)[i]? = some p := hi
      rw [List.getElem?_map] at hi'
      obtain ⟨r, hr, rfl⟩ := Option.map_eq_some_iff.mp hi'
      have hrm := List.mem_of_getElem? hr
      have hx : r.x ∈ nm rs := mem_nm.mpr ⟨r, hrm, rfl⟩
      have hnl := W.ne r hrm
      have et : rs.take (i + 1) = rs.take i ++ [r] := FH.take_add hr
      refine P_of (e_gTp rfl (e_gCn e_gNm (e_gCn e_gNm (e_gCn e_gNm (e_gCn e_gNm e_gNl))))) ?_
      unfold L__law_is_position_0
      simp only [List.set_cons_succ, List.set_cons_zero]
      have hag : pIn (.str "again") (tN r.ab) = some (.bl (has "again" r.ab)) := o_inW (by decide +kernel)
      have sd : PyData.strOk "dead" = true := by decide +kernel
      have sn : PyData.strOk "done" = true := by decide +kernel
      refine s_Seq (s_IfE (k := decide ((stOf rs ps r.x).s = "dead") && has "again" r.ab) (S1 := o :: (T ++ [])) (e_and (e_tru (e_f2 (e_f2 (e_var rfl) (e_var rfl) (e_l2 rfl rfl (o_st hl hx))) e_c (e_l2 rfl rfl (o_eqL sd))) rfl rfl) fun _ => e_tru (e_f2 e_c (e_var rfl) (e_l2 rfl rfl hag)) rfl rfl) (fun z => ?_) fun z => s_Nx ?_)
      · exact s_RetE e_c (c_ret ⟨rfl, false, rfl, fun z => by cases z⟩)
      dsimp only
      have hlc : fLc (iVal (fVar 5)) (gNm 8) (fTru (f2 pNe (f2 pIx (fVar 2) (fVar 8)) (fC (.v (.str "done"))))) (fVar 8) [8] [some (.v (wkP rs)), some (.v (tN ps)), some (.v (sdP rs ps)), none, some (.v (nP r.x)), some (.v (tN r.ne)), some (.v (tN r.se)), some (.v (tN r.ab)), none] (o :: (T ++ [])) = .ok (.v (lN (r.ne.filter fun y => !decide ((stOf rs ps y).s = "done")))) (o :: (T ++ [])) :=
        e_lc (xs := r.ne) (f := nP) (own := none) (q := fun y => !decide ((stOf rs ps y).s = "done")) (hh := nP) (S1 := o :: (T ++ [])) (e_iv (e_var rfl) rfl) own_none (by omega) fun y hy => e_body e_gNm (e_tru (e_f2 (e_f2 (e_var rfl) (e_var rfl) (e_l2 rfl rfl (o_st hl ((A.ne r hrm).2 y hy)))) e_c (e_l2 rfl rfl (o_neL sn))) rfl rfl) fun _ => e_var rfl
      refine s_IfE (k := decide (stOf rs ps r.x ∈ [sDone, sMaybe]) && !decide ((r.ne.filter fun y => !decide ((stOf rs ps y).s = "done")) = [])) (S1 := o :: (T ++ [])) (e_and (e_tru (e_f2 (e_f2 (e_var rfl) (e_var rfl) (e_l2 rfl rfl (o_st hl hx))) (e2 e_c e_c) (e_l2 rfl rfl o_in2)) rfl rfl) fun _ => e_tru (e_f2 hlc (e_lst (ds := []) e_nil rfl (by show (0 : Nat) ≤ 100000; decide)) (e_l2 rfl rfl o_neLs0)) rfl rfl) (fun z2 => ?_) fun z2 => s_Nx ?_
      · exact s_RetE e_c (c_ret ⟨rfl, false, rfl, fun z => by cases z⟩)
      refine ⟨_, _, _, _, rfl, rfl, fun r' hr' => ?_⟩
      rw [et] at hr'
      rcases List.mem_append.mp hr' with h | h
      · exact hok r' h
      · rw [List.mem_singleton.mp h]
        refine ⟨fun d => ?_, fun d y hy => ?_⟩
        · rw [decide_eq_true d, Bool.true_and] at z
          exact z
        · rw [decide_eq_true (in2.mpr d), Bool.true_and, Bool.not_eq_false', decide_eq_true_eq, List.filter_eq_nil_iff] at z2
          have := z2 y hy
          simpa using this
    · rintro env S ⟨a4, a5, a6, a7, rfl, rfl, hok⟩
      dsimp only at hok ⊢
      rw [List.length_map, List.take_length] at hok
      exact s_RetE e_c (c_ret ⟨rfl, true, rfl, fun _ => pos_of A hl hs hok⟩)
  obtain ⟨d, S, e, rfl, b, rfl, hb⟩ := key.ex
  exact ⟨b, e, hb⟩
def st4 : List Nm := [sDead, sDone, sMaybe, sOpen]
theorem st4_ok : ∀ s ∈ st4, St4 s := fun s hs => by
  simp only [st4, List.mem_cons, List.not_mem_nil, or_false] at hs
  rcases hs with rfl | rfl | rfl | rfl
  · exact .inr (.inr (.inr rfl))
  · exact .inr (.inl rfl)
  · exact .inr (.inr (.inl rfl))
  · exact .inl rfl
def ext (p : List Nm) : List (List Nm) := st4.map fun s => p ++ [s]
theorem ext_all (L : List (List Nm)) {i : Nat} (h : ∀ p ∈ L, p.length = i ∧ ∀ s ∈ p, St4 s) : ∀ p ∈ L.flatMap ext, p.length = i + 1 ∧ ∀ s ∈ p, St4 s := fun p hp => by
  obtain ⟨q, hq, hp⟩ := List.mem_flatMap.mp hp
  obtain ⟨s, hs, rfl⟩ := List.mem_map.mp hp
  obtain ⟨h1, h2⟩ := h q hq
  refine ⟨by rw [List.length_append, h1]; rfl, fun y hy => ?_⟩
  rcases List.mem_append.mp hy with hy | hy
  · exact h2 y hy
  · rw [List.mem_singleton.mp hy]
    exact st4_ok s hs
theorem ext_len : ∀ L : List (List Nm), (L.flatMap ext).length = L.length * 4
  | [] => rfl
  | p :: L => by
    rw [List.flatMap_cons, List.length_append, ext_len L, List.length_cons]
    show 4 + _ = _
    omega
theorem longer {L : List (List Nm)} {d1 : D} {own : Own} {B : Sto} {a2 a4 a5 : Option D} {i : Nat} {En : Dnv → Sto → Prop} {Er : D → Sto → Prop} {Eb Ec : Dnv → Sto → Prop} {a0 a3 : Option D} (hL : ∀ p ∈ L, p.length = i ∧ ∀ s ∈ p, St4 s) (hi : i ≤ 8) (hl : L.length ≤ 64)
    (hseq : ∀ Y, seqOf d1 (o :: (T ++ (B ++ [Ob.lst Y]))) = some (L.map tN, own)) (hown : ∀ Y, OwnOk own (L.map tN) (o :: (T ++ (B ++ [Ob.lst Y]))))
    (q : ∀ a4 a5, En [a0, some (.r (bx T B.length)), a2, some (.r (bx T B.length)), a4, a5] (o :: (T ++ (B ++ [Ob.lst ((L.flatMap ext).map tN)])))) :
    (L__law_all_positions_1 [a0, some d1, a2, a3, a4, a5] (o :: (T ++ B))).F ⟨En, Er, Eb, Ec⟩ := by
  unfold L__law_all_positions_1
  refine s_Seq (s_SetE (d := .r (bx T B.length)) (S1 := o :: (T ++ (B ++ [Ob.lst []]))) (e_lstB (B := B) e_nil rfl (by decide)) e_gNm ?_)
  simp only [List.set_cons_succ, List.set_cons_zero]
  refine s_Seq (s_ForE (z := (L.map tN, own)) (S1 := o :: (T ++ (B ++ [Ob.lst []]))) (e_iv (e_var rfl) (hseq [])) ?_)
  refine s_Loop (fun j env S => ∃ a4 a5 : Option D, env = [a0, some d1, a2, some (.r (bx T B.length)), a4, a5] ∧ S = o :: (T ++ (B ++ [Ob.lst (((L.take j).flatMap ext).map tN)]))) ⟨_, _, rfl, rfl⟩ (fun j env S ⟨_, _, _, h⟩ => by rw [h]; exact hown _) ?_ ?_
  · rintro j p env S hj ⟨a4, a5, rfl, rfl⟩
    have hj' : (L.map tN)[j]? = some p := hj
    rw [List.getElem?_map] at hj'
    obtain ⟨p, hp, rfl⟩ := Option.map_eq_some_iff.mp hj'
    have hp1 := (hL p (List.mem_of_getElem? hp)).1
    have et : L.take (j + 1) = L.take j ++ [p] := FH.take_add hp
    have hjl : ((L.take j).flatMap ext).length ≤ 256 := by
      rw [ext_len, List.length_take]
      omega
    refine P_of e_gNm ?_
    unfold L__law_all_positions_0
    simp only [List.set_cons_succ, List.set_cons_zero]
    have hx : ∀ S : Sto, mExtend (((L.take j).flatMap ext).map tN) [.v (.lst (st4.map fun s => tN (p ++ [s])))] S = some (.non, ((L.take (j + 1)).flatMap ext).map tN) := fun S => by
      refine (if_pos (c := (((L.take j).flatMap ext).map tN).length + (st4.map fun s => tN (p ++ [s])).length ≤ 100000) (by rw [List.length_map, List.length_map]; show _ + 4 ≤ 100000; omega)).trans ?_
      rw [et, List.flatMap_append, List.map_append, List.flatMap_cons, List.flatMap_nil, List.append_nil]
      unfold ext
      rw [List.map_map]
      rfl
    refine s_DropE (e_mt (B := B ++ [Ob.lst (((L.take j).flatMap ext).map tN)]) (j := B.length) rfl (by simp) (e_cons (e_lcA (xs := st4) (f := nP) (own := none) (hh := fun s => tN (p ++ [s])) (S1 := o :: (T ++ (B ++ [Ob.lst (((L.take j).flatMap ext).map tN)]))) (e_iv (e_tup (ds := [.v (nP sDead), .v (nP sDone), .v (nP sMaybe), .v (nP sOpen)]) (e_cons e_c (e_cons e_c (e_cons e_c (e_cons e_c e_nil)))) rfl (by show (4 : Nat) ≤ 100000; decide)) rfl) own_none (by decide) fun s hs => e_body e_gNm e_yes fun _ => e_f2 (e_var rfl) (e1 (p := nP s) (e_var rfl)) (e_l2 rfl rfl (o_addT1 (by omega)))) e_nil) (hx _)) ⟨_, _, rfl, ?_⟩
    simp
  · rintro env S ⟨a4, a5, rfl, rfl⟩
    dsimp only
    rw [List.length_map, List.take_length]
    refine s_SetE (e_var rfl) e_gNm ?_
    simp only [List.set_cons_succ, List.set_cons_zero]
    exact q _ _
set_option maxHeartbeats 4000000 in
theorem all_positions (A : AOk rs) (h3 : rs.length ≤ 3) : ∃ L : List (List Nm), F__law_all_positions [.v (wkP rs)] (o :: T) = .ok (.v (.lst (L.map tN))) (o :: T) ∧ (∀ p ∈ L, PosOk rs p) ∧ L.length ≤ 64 := by
  have W := A.wok
  have key : (F__law_all_positions [.v (wkP rs)] (o :: T)).P fun d S => S = o :: T ∧ ∃ L : List (List Nm), d = .v (.lst (L.map tN)) ∧ (∀ p ∈ L, PosOk rs p) ∧ L.length ≤ 64 := by
    refine p_runC ?_
    show (B__law_all_positions [some (.v (wkP rs)), none, none, none, none, none] (o :: (T ++ []))).F _
    unfold B__law_all_positions
    refine s_Seq (s_SetE (d := .v (.lst [.tup []])) (S1 := o :: (T ++ [])) (e_lst (ds := [.v (.tup [])]) (e_cons eN e_nil) rfl (by show (1 : Nat) ≤ 100000; decide)) e_gNm ?_)
    simp only [List.set_cons_succ, List.set_cons_zero]
    have hnl : (nm rs).length = rs.length := List.length_map ..
    refine s_Seq (s_ForE (z := ((nm rs).map nP, none)) (S1 := o :: (T ++ [])) (e_iv (e_call (e_cons (e_var rfl) e_nil) (FA.names W)) rfl) ?_)
    refine s_Loop (fun i env S => ∃ (B : Sto) (L : List (List Nm)) (d1 : D) (own : Own) (a2 a3 a4 a5 : Option D), env = [some (.v (wkP rs)), some d1, a2, a3, a4, a5] ∧ S = o :: (T ++ B) ∧ (∀ p ∈ L, p.length = i ∧ ∀ s ∈ p, St4 s) ∧ L.length = 4 ^ i ∧ (∀ X, seqOf d1 (o :: (T ++ (B ++ X))) = some (L.map tN, own)) ∧ ∀ X, OwnOk own (L.map tN) (o :: (T ++ (B ++ X))))
      ⟨[], [[]], _, none, _, _, _, _, rfl, rfl, fun p hp => by rw [List.mem_singleton.mp hp]; exact ⟨rfl, fun s hs => by cases hs⟩, rfl, fun _ => rfl, fun _ => own_none⟩ (fun _ _ _ _ => own_none) ?_ ?_
    · rintro i p env S hi ⟨B, L, d1, own, a2, a3, a4, a5, rfl, rfl, hL, hLl, hseq, hown⟩
      have hi3 : i < 3 := by
        have h1 : i < ((nm rs).map nP).length := lt_of_at hi
        rw [List.length_map] at h1
        omega
      have h64 : 4 ^ i ≤ 4 ^ 2 := Nat.pow_le_pow_right (by decide) (by omega)
      have h16 : (4 : Nat) ^ 2 = 16 := rfl
      refine P_of e_gNm ?_
      simp only [List.set_cons_succ, List.set_cons_zero]
      refine longer (own := own) hL (by omega) (by omega) (fun Y => hseq _) (fun Y => hown _) fun a4 a5 => ⟨B ++ [Ob.lst ((L.flatMap ext).map tN)], L.flatMap ext, _, some (.l (bx T B.length)), _, _, _, _, rfl, rfl, ext_all L hL, by rw [ext_len, hLl, Nat.pow_succ], fun X => ?_, fun X => ?_⟩
      · have hg : (B ++ [Ob.lst ((L.flatMap ext).map tN)] ++ X)[B.length]? = some (Ob.lst ((L.flatMap ext).map tN)) := by
          rw [List.getElem?_append_left (by simp)]
          simp
        exact seq_bx hg
      · have hg : (B ++ [Ob.lst ((L.flatMap ext).map tN)] ++ X)[B.length]? = some (Ob.lst ((L.flatMap ext).map tN)) := by
          rw [List.getElem?_append_left (by simp)]
          simp
        exact own_bx hg
    · rintro env S ⟨B, L, d1, own, a2, a3, a4, a5, rfl, rfl, hL, hLl, hseq, hown⟩
      dsimp only at hL hLl ⊢
      rw [List.length_map, hnl] at hL hLl
      have h64 : L.length ≤ 64 := by
        rw [hLl]
        exact Nat.le_trans (Nat.pow_le_pow_right (by decide : 0 < 4) h3) (by decide : 4 ^ 3 ≤ 64)
      have hip := fun p (hp : p ∈ L) => is_position (o := o) (T := T ++ B) A (hL p hp).1.symm (hL p hp).2
      classical
      let b : List Nm → Bool := fun p => if hp : p ∈ L then (hip p hp).choose else false
      have hb : ∀ p ∈ L, F__law_is_position [.v (wkP rs), .v (tN p)] (o :: (T ++ B)) = .ok (.v (.bl (b p))) (o :: (T ++ B)) ∧ (b p = true → PosOk rs p) := fun p hp => by
        have e : b p = (hip p hp).choose := dif_pos hp
        rw [e]
        exact (hip p hp).choose_spec
      have hs := hseq []
      have ho := hown []
      rw [List.append_nil] at hs ho
      refine s_RetE (d := .v (.lst ((L.filter b).map tN))) (S1 := o :: (T ++ B)) (e_lc (xs := L) (f := tN) (own := own) (q := b) (hh := tN) (S1 := o :: (T ++ B)) (e_iv (e_var rfl) hs) ho (by omega) fun p hp => e_body e_gNm (e_tru (e_call (ds := [.v (wkP rs), .v (tN p)]) (e_cons (e_var rfl) (e_cons (e_var rfl) e_nil)) (hb p hp).1) rfl rfl) fun _ => e_var rfl) (c_ret ⟨rfl, L.filter b, rfl, fun p hp => ?_, Nat.le_trans (List.length_filter_le ..) h64⟩)
      obtain ⟨h1, h2⟩ := List.mem_filter.mp hp
      exact (hb p h1).2 h2
  obtain ⟨d, S, e, rfl, L, rfl, h1, h2⟩ := key.ex
  exact ⟨L, e, h1, h2⟩
end
end K07
namespace K07
open PySem PySem.Spec PyProof.Rows L2 DL GA GM GW MG WS GK
open FA (AOk AOp)
open FN (PosOk St4)
open FH (st0)
section
variable {o : Ob} {T : Sto} {rs : List Rw} {ps ps' : List Nm} {x : Nm} {k : Nat}
theorem ow_eq {s : Nm} : (if decide (s ∈ [sDone, sMaybe]) = true then nP s else (.str "out" : P)) = nP (ow s) := by
  unfold ow
  by_cases h : s.s = "done" ∨ s.s = "maybe"
  · rw [if_pos (decide_eq_true (in2.mpr h)), if_pos h]
  · rw [if_neg (by simpa using fun z => h (in2.mp z)), if_neg h]
    rfl
theorem own_eq (hn : (nm rs).Nodup) (hl : rs.length = ps.length) (hl' : rs.length = ps'.length) (h : WL rs ps = WL rs ps') : ps.map ow = ps'.map ow := by
  have e := RN.pos_map hn hl
  have e' := RN.pos_map hn hl'
  rw [e, e'] at h ⊢
  rw [List.map_map, List.map_map]
  exact List.map_congr_left fun y hy => wl_own hn h hy
theorem wl_start : WL rs (st0 rs) = [[]] := by
  have hs : ∀ q : Rw × Nm → Bool, (∀ z : Rw × Nm, z.2 = sOpen → q z = false) → sel rs (st0 rs) q = [] := fun q hq => by
    unfold sel
    rw [List.map_eq_nil_iff, List.filter_eq_nil_iff]
    intro z hz
    rw [hq z (List.eq_of_mem_replicate (List.of_mem_zip hz).2)]
    decide
  rw [wl_def, hs isD (fun z e => by show decide (z.2.s = "done") = false; rw [e]; decide +kernel), hs isM (fun z e => by show decide (z.2.s = "maybe") = false; rw [e]; decide +kernel)]
  show tsort [asort []] = [[]]
  have e2 : asort [] = [] := by
    unfold asort
    simp
  rw [e2]
  unfold tsort
  simp
theorem vok (A : AOp rs) : VP.VOk rs := RN.aok_v A
end
set_option maxHeartbeats 4000000 in
theorem law_ok : LawOk F_law 63 := by
  intro ns hn
  have main : (F_law [.v (.frz (ns.map P.int))] []).P fun d S => d = .v (.bl true) := by
    refine p_run ?_
    show (B_law [some (.v (.frz (ns.map P.int))), none, none, none, none, none, none, none, none, none, none] _).F _
    unfold B_law
    refine s_Seq (s_Set (p_call (p_cons (p_var rfl (p_nil ?_)))))
    refine (FA.reader hn).mono ?_
    rintro d S ⟨o, rfl, rfl, hs⟩
    refine p_gNm ?_
    simp only [List.set_cons_succ, List.set_cons_zero]
    have hfx : FA.F__law_fixed_works [] (o :: ([] ++ [])) = .ok (.r (bx [] 0)) (o :: ([] ++ [Ob.lst (FA.fxW.map wkP)])) := FA.fixed (o :: ([] ++ []))
    refine s_Seq (s_SetE (d := .r (bx [] 0)) (S1 := o :: ([] ++ [Ob.lst (FA.fxW.map wkP)])) (e_call e_nil hfx) e_gNm ?_)
    simp only [List.set_cons_succ, List.set_cons_zero]
    refine s_Seq (s_For (P_of (e_rg (n := 4) (e_cons e_c e_nil) (by decide) (by decide)) ?_))
    refine s_Loop (fun i env S => ∃ (o : Ob) (ws : List (List Rw)) (e3 : Option DL.D), env = [some (.v (.frz (ns.map P.int))), some (.r 0), some (.r (bx [] 0)), e3, none, none, none, none, none, none, none] ∧ S = o :: ([] ++ [Ob.lst (ws.map wkP)]) ∧ (∀ rs ∈ ws, AOp rs) ∧ ws.length = 6 + i ∧ SOA (1000 * i) o)
      ⟨o, FA.fxW, none, rfl, rfl, FA.fx_okp, rfl, by simpa using hs⟩ (fun _ _ _ _ => own_none) ?_ ?_
    · rintro i p env S hi ⟨o, ws, e3, rfl, rfl, hws, hwl, hs⟩
      have hi2 : i < 4 := lt_of_at hi
      refine P_of e_gNm ?_
      unfold L_law_0
      simp only [List.set_cons_succ, List.set_cons_zero]
      refine s_Drop (c_mt (T := []) (j := 0) rfl rfl (p_cons (p_call (p_cons (p_var rfl (p_cons (p_c (p_nil ?_))))))))
      refine FA.workP hs (by omega) (by decide) (by decide) fun rs o A hrm hs => p_nil ?_
      refine c_mtE (T := []) (j := 0) rfl (o_app (by rw [List.length_map]; omega)) ?_
      refine ⟨o, ws ++ [rs], _, rfl, by simp, fun r hr => ?_, by simp; omega, hs.mono (by omega)⟩
      rcases List.mem_append.mp hr with hr | hr
      · exact hws r hr
      · rw [List.mem_singleton.mp hr]
        exact A
    rintro env S ⟨o, ws, e3, rfl, rfl, hws, hwl, hs⟩
    have hwl : ws.length = 10 := hwl
    have hs : SOA 4000 o := hs
    dsimp only
    refine s_Seq (s_ForE (z := (ws.map wkP, some (bx [] 0 : Nat))) (S1 := o :: ([] ++ [Ob.lst (ws.map wkP)])) (e_iv (e_var rfl) (seq_bx rfl)) ?_)
    refine s_Loop (fun i env S => ∃ (o : Ob) (e3 e4 : Option DL.D), env = [some (.v (.frz (ns.map P.int))), some (.r 0), some (.r (bx [] 0)), e3, e4, none, none, none, none, none, none] ∧ S = o :: ([] ++ [Ob.lst (ws.map wkP)]) ∧ SOA (4000 + 100 * i) o)
      ⟨o, _, _, rfl, rfl, by simpa using hs⟩ (fun i env S ⟨o, e3, e4, _, h, _⟩ => by rw [h]; exact own_bx (T := []) rfl) ?_ ?_
    · rintro i p env S hi ⟨o, e3, e4, rfl, rfl, hs⟩
      have hi' : (ws.map wkP)[i]? = some p := hi
      rw [List.getElem?_map] at hi'
      obtain ⟨rs, hrs, rfl⟩ := Option.map_eq_some_iff.mp hi'
      have hil := lt_of_at hrs
      have Ap := hws rs (List.mem_of_getElem? hrs)
      have A := Ap.a
      have W := A.wok
      refine P_of e_gNm ?_
      unfold L_law_2
      simp only [List.set_cons_succ, List.set_cons_zero]
      have hst := GM.start_of (o := o) (T := [Ob.lst (ws.map wkP)]) W A.pos
      have hwo := GW.worlds (o := o) (T := [Ob.lst (ws.map wkP)]) W A.len (FH.st0_len (rs := rs))
      rw [wl_start] at hwo
      refine s_Seq (s_IfE (k := false) (S1 := o :: ([] ++ [Ob.lst (ws.map wkP)])) (e_tru (e_f2 (e_call (e_cons (e_var rfl) (e_cons (e_call (e_cons (e_var rfl) e_nil) hst) e_nil)) hwo) (e1 eN) (e_l2 rfl rfl (ne_same (pl_tsT [[]])))) rfl rfl) (fun z => by cases z) fun _ => s_Nx ?_)
      dsimp only
      refine s_For (P_of (e_rg (n := 3) (e_cons e_c e_nil) (by decide) (by decide)) ?_)
      refine s_Loop (fun j env S => ∃ (o : Ob) (e3 : Option DL.D), env = [some (.v (.frz (ns.map P.int))), some (.r 0), some (.r (bx [] 0)), e3, some (.v (wkP rs)), none, none, none, none, none, none] ∧ S = o :: ([] ++ [Ob.lst (ws.map wkP)]) ∧ SOA (4000 + 100 * i + 10 * j) o) ⟨o, _, rfl, rfl, by simpa using hs⟩ (fun _ _ _ _ => own_none) ?_ ?_
      · rintro j p env S hj ⟨o, e3, rfl, rfl, hs⟩
        have hj2 : j < 3 := lt_of_at hj
        refine P_of e_gNm ?_
        unfold L_law_1
        simp only [List.set_cons_succ, List.set_cons_zero]
        refine s_If (p_not (p_tru (p_call (p_cons (p_var rfl (p_cons (p_call (p_cons (p_var rfl (p_cons (p_var rfl (p_nil ?_))))))))))))
        refine FA.position A hs (by omega) fun ps o hp hs => p_nil ?_
        refine P_of (check_position (o := o) (T := [] ++ [Ob.lst (ws.map wkP)]) A (vok Ap) hp) ?_
        exact p_truE rfl rfl ⟨fun z => (by cases z), fun _ => s_Nx ⟨o, _, rfl, rfl, hs.mono (by omega)⟩⟩
      · rintro env S ⟨o, e3, rfl, rfl, hs⟩
        have hs : SOA (4000 + 100 * i + 30) o := hs
        exact ⟨o, _, _, rfl, rfl, hs.mono (by omega)⟩
    rintro env S ⟨o, e3, e4, rfl, rfl, hs⟩
    rw [List.length_map, hwl] at hs
    dsimp only
    have hdn : ∀ (env : Dnv) (o : Ob), fDn0B env (o :: ([] ++ [Ob.lst (ws.map wkP)])) = .ok (.r (bx [] 1)) (o :: ([] ++ [Ob.lst (ws.map wkP), Ob.dn [] []])) := fun env o => rfl
    refine s_Seq (s_Par (p_cons (p_call (p_cons (p_var rfl (p_cons (p_c (p_nil ?_))))))))
    refine FA.workP hs (by omega) (by decide) (by decide) fun rs o Ap hrm hs => P_of (a := [.r (bx [] 1)]) (S := o :: ([] ++ [Ob.lst (ws.map wkP), Ob.dn [] []])) (e_cons (hdn _ o) e_nil) (s_ParE ?_)
    simp only [List.set_cons_succ, List.set_cons_zero]
    have A := Ap.a
    have W := A.wok
    have hnd := W.nd
    have h3 : rs.length ≤ 3 := by omega
    obtain ⟨L, hL1, hL2, hL3⟩ := all_positions (o := o) (T := [] ++ [Ob.lst (ws.map wkP), Ob.dn [] []]) A h3
    refine s_Seq (s_ForE (z := (L.map tN, none)) (S1 := o :: ([] ++ [Ob.lst (ws.map wkP), Ob.dn [] []])) (e_iv (e_call (e_cons (e_var rfl) e_nil) hL1) rfl) ?_)
    classical
    refine s_Loop (fun i env S => ∃ (us : List (List (List Nm))) (w : List (List Nm) → P) (e7 e8 e9 e10 : Option DL.D), env = [some (.v (.frz (ns.map P.int))), some (.r 0), some (.r (bx [] 0)), e3, e4, some (.v (wkP rs)), some (.r (bx [] 1)), e7, e8, e9, e10] ∧ S = o :: ([] ++ [Ob.lst (ws.map wkP), Ob.dn (us.map kW) (us.map w)]) ∧ us.Nodup ∧ us.length ≤ i ∧ ∀ u ∈ us, ∃ p, PosOk rs p ∧ WL rs p = u ∧ w u = tN (p.map ow))
      ⟨[], fun _ => .non, _, _, _, _, rfl, rfl, List.nodup_nil, Nat.le_refl _, fun u hu => by cases hu⟩ (fun _ _ _ _ => own_none) ?_ ?_
    · rintro i p env S hi ⟨us, w, e7, e8, e9, e10, rfl, rfl, hu1, hu2, hu3⟩
      have hi' : (L.map tN)[i]? = some p := hi
      rw [List.getElem?_map] at hi'
      obtain ⟨ps, hps, rfl⟩ := Option.map_eq_some_iff.mp hi'
      have hil := lt_of_at hps
      have hp := hL2 ps (List.mem_of_getElem? hps)
      have hpl := hp.len
      refine P_of e_gNm ?_
      unfold L_law_3
      simp only [List.set_cons_succ, List.set_cons_zero]
      refine s_Seq (s_SetE (d := .v (tN (ps.map ow))) (S1 := o :: ([] ++ [Ob.lst (ws.map wkP), Ob.dn (us.map kW) (us.map w)])) (e_cb (e_cons (e_lcA (xs := ps) (f := nP) (own := none) (hh := fun s => if decide (s ∈ [sDone, sMaybe]) = true then nP s else (.str "out" : P)) (S1 := o :: ([] ++ [Ob.lst (ws.map wkP), Ob.dn (us.map kW) (us.map w)])) (e_iv (e_var rfl) rfl) own_none (by have := A.len; omega) fun s hs => e_body e_gNm e_yes fun _ => e_ite (e_tru (e_f2 (e_var rfl) (e2 e_c e_c) (e_l2 rfl rfl o_in2)) rfl rfl) (fun _ => e_var rfl) fun _ => e_c) e_nil) (a_cons rfl a_nil) (by
        show some (P.tup _) = some (P.tup ((ps.map ow).map nP))
        rw [List.map_map]
        exact congrArg (fun z => some (P.tup z)) (List.map_congr_left fun s _ => ow_eq))) e_gNm ?_)
      simp only [List.set_cons_succ, List.set_cons_zero]
      refine s_Seq (s_SetE (d := .v (kW (WL rs ps))) (S1 := o :: ([] ++ [Ob.lst (ws.map wkP), Ob.dn (us.map kW) (us.map w)])) (e_call (e_cons (e_var rfl) (e_cons (e_var rfl) e_nil)) (GW.worlds W A.len hpl)) e_gNm ?_)
      simp only [List.set_cons_succ, List.set_cons_zero]
      have hval : ∀ inst : Decidable (WL rs ps ∈ us), @ite _ (WL rs ps ∈ us) inst (w (WL rs ps)) (tN (ps.map ow)) = tN (ps.map ow) := fun inst => by
        by_cases h : WL rs ps ∈ us
        · rw [if_pos h]
          obtain ⟨p', hp', e1, e2⟩ := hu3 _ h
          rw [e2, own_eq hnd hp'.len hpl e1]
        · exact if_neg h
      have hget := e_get2 kfW (fo := fVar 6) (fi := fVar 10) (fx := fVar 8) (env := [some (.v (.frz (ns.map P.int))), some (.r 0), some (.r (bx [] 0)), e3, e4, some (.v (wkP rs)), some (.r (bx [] 1)), some (.v (tN ps)), some (.v (tN (ps.map ow))), e9, some (.v (kW (WL rs ps)))]) (S := o :: ([] ++ [Ob.lst (ws.map wkP), Ob.dn (us.map kW) (us.map w)])) (a := WL rs ps) (xs := us) (w := w) (z := tN (ps.map ow)) (e_var rfl) rfl (e_var rfl) (e_var rfl) rfl
      rw [hval] at hget
      refine s_Seq (s_IfE (k := false) (S1 := o :: ([] ++ [Ob.lst (ws.map wkP), Ob.dn (us.map kW) (us.map w)])) (e_or (a := false) (b := false) (e_not (a := true) (e_tru (e_call (e_cons (e_var rfl) (e_cons (e_var rfl) e_nil)) (check_position A (vok Ap) hp)) rfl rfl)) fun _ => e_tru (e_f2 hget (e_var rfl) (e_l2 rfl rfl (ne_same (pl_tN _)))) rfl rfl) (fun z => by cases z) fun _ => s_Nx ?_)
      dsimp only
      refine F_nx (e_sbR kfW (i := bx [] 1) (a := WL rs ps) (xs := us) (w := w) (p := tN (ps.map ow)) (e_var rfl) (e_var rfl) (e_var rfl) rfl hu1 (by omega)) ?_
      refine ⟨ins us (WL rs ps), up w (WL rs ps) (tN (ps.map ow)), _, _, _, _, rfl, rfl, ins_nodup hu1, Nat.le_trans ins_len (by omega), fun u hu => ?_⟩
      by_cases e : u = WL rs ps
      · exact ⟨ps, hp, e.symm, by rw [e, up_same]⟩
      · obtain ⟨p', h1, h2, h3⟩ := hu3 u ((mem_ins.mp hu).resolve_right e)
        exact ⟨p', h1, h2, by rw [up_ne e]; exact h3⟩
    · rintro env S ⟨us, w, e7, e8, e9, e10, rfl, rfl, hu1, hu2, hu3⟩
      dsimp only
      exact s_RetE e_c (p_closeV rfl)
  obtain ⟨d, S', e, rfl⟩ := main.ex
  exact ⟨S', e⟩
end K07
open PySem PySem.W PySem.Calls PyProof.Rows
theorem PySem.Challenge.cw_maybedone_k07_whole_worlds_holds : PySem.Challenge.rw_maybedone_k07_whole_worlds.Holds := by
  w_on; o_law
  refine HandSHeadRun.head_any (r := OpenLaw.row PySem.Challenge.rw_maybedone_k07_whole_worlds) (q := view (OpenLaw.row PySem.Challenge.rw_maybedone_k07_whole_worlds).prog [32]) (H := K07.hk) (ob := K07.ob) (M := 4000) (loose := K07.lo) (d := HandSHeadRun.topDef (OpenLaw.row PySem.Challenge.rw_maybedone_k07_whole_worlds).prog 32) (kwd := []) K07.ob_eq
    (by kernel_rfl) (fun s => by kernel_rfl) K07.run (by kernel_rfl) (by kernel_rfl) (by kernel_rfl) (by rfl) (by first | assumption | decide +kernel) (by decide +kernel) ⟨rfl, rfl, rfl, rfl, rfl, by decide +kernel⟩ ?hw ?hc
  case hw => w_witness2
  case hc =>
    refine DL.walk_gW (l := PySem.Challenge.rw_maybedone_k07_whole_worlds) (n := 63) (k := 6) (x := "_law_script") (F := K07.F_law) rfl (by decide) (by kernel_rfl) ⟨rfl, by decide, by decide⟩ ?F K07.law_ok
    intro w mg fa h Y G hmg0
    obtain ⟨K, KX, c⟩ := Y
    have hmg : mg ("law" : PySem.Str) = some (.ref fa) := by
      have e : (HandSHeadRun.topDef (OpenLaw.row PySem.Challenge.rw_maybedone_k07_whole_worlds).prog 32).name = ("law" : PySem.Str) := by kernel_rfl
      rw [← e]
      exact hmg0
    letI : DL.Tb := DL.tbW K07.hl w
    obtain ⟨C, _⟩ := K07.facts KX G c rfl rfl
    have e := hmg.symm.trans C.g_law
    cases e
    obtain ⟨l1, l2, l3⟩ := DL.says_l KX c
    have b := L2.FunD.bindsA (ps := ["_law_script"]) C.d_law fun _ _ _ _ _ _ us hl => match us, hl with | [_], _ => rfl
    exact ⟨DL.tbW K07.hl w, K, C.k_law, DL.csF K K07.hl, KX, l1, l2, l3, DL.lm_tbW, fun s v => b s [v] rfl, fun base _ _ tb => K07.ok_law C⟩
