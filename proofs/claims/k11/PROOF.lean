import PyProof.Rows.All
import Wide.All
import OpenK.AllK
import Wide.FinOn
import PySem.Challenge.RW_patternwright_k11_whole_known_groups_by
import KE.KDictKeyed
import HandS.ForMost
import HandS.ForExc
import HandS.Lambda
import HandS.EndTab
import HandS.TryMany
import HandS.ExcInit
import HandS.Deep
import HandS.IsInst
import HandS.Conv
import HandS.TupAny
import HandS.TupMul
import HandS.Wide
import HandS.Gcd
import KE.DataCmp
import HandS.Style
import HandS.Rev
import HandS.Iter
import HandS.Star
import HandS.More
import KE.SortData
import PyProof.ReprRoads
import PyProof.CallFns
import PyProof.Rows.ChunkLeaf
import HandS.Text
import HandS.Dict
import HandS.NoneIn
import KE.KDictPairs
import HandS.List
import KE.GoesMore
import PyProof.EnumMake
import HandS.ExcValue
import HandS.ExcField
import KE.KExcInit
import PyProof.ExcBaseAll.OverflowError
import PyProof.ExcBaseAll.LookupError
import KE.KDflt
import KE.KExcIs
import HandS.ExcIs
import HandS.TupSets
import PyProof.SeqIndex
import HandS.HeadHook4
import HandS.Head2
import HandS.NestedK
import HandS.Words
import KE.KStateDown
import HandS.WordsExc
import HandS.Defaults
import HandS.Head0
import HandS.Head1
import HandS.Head3
import HandS.HeadEnd
set_option Elab.async false
set_option linter.all false
set_option maxRecDepth 100000
set_option maxHeartbeats 4000000
/-! YBase: data trees over the hand layer: what a value is, in a frozen part of the heap; the slots of a frame by data; results. -/
namespace Y
open PySem PySem.Spec PyProof.Rows L2

abbrev St := L2.St
/-! ### results -/
inductive R (α : Type) where
  | ok (a : α)
  | er (c : Str) (d : PyData)
  | no
def R.bind {α β : Type} (r : R α) (f : α → R β) : R β := match r with
  | .ok a => f a
  | .er c d => .er c d
  | .no => .no
instance : Monad R where
  pure := R.ok
  bind := R.bind
def R.sat {α : Type} (r : R α) (P : α → Prop) (E : Str → PyData → Prop) : Prop := match r with
  | .ok a => P a
  | .er c d => E c d
  | .no => False
theorem R.sat_bind {α β : Type} {r : R α} {f : α → R β} {P : β → Prop} {E : Str → PyData → Prop} (h : (r.bind f).sat P E) : r.sat (fun a => (f a).sat P E) E := by
  cases r with
  | ok a => exact h
  | er c d => exact h
  | no => exact h
theorem R.sat.imp {α : Type} {r : R α} {P P' : α → Prop} {E : Str → PyData → Prop} (h : r.sat P E) (k : ∀ a, P a → P' a) : r.sat P' E := by
  cases r with
  | ok a => exact k a h
  | er c d => exact h
  | no => exact h

/-! ### data in a heap -/
def kD : Key → PyData
  | .inl i => .int i
  | .inr s => .str s
/-- an exception object that was caught: of the class cls, its dict at dx -/
def ExF (a : Addr) (cls : Value) (dx : Addr) : HO := .ext fun h => ∃ (oe : Obj) (vs : Array Value), h.get? a = some oe ∧ Zc cls (some dx) oe ∧ oe.data = .fields vs
theorem exF_ok {P : Program} {w : World} {H : Hp} {h : Heap} {a dx : Addr} {cls : Value} {oe : Obj} {vs : Array Value} (e : h.get? a = some oe) (z : Zc cls (some dx) oe) (d : oe.data = .fields vs) : ObjOk P w H h a (ExF a cls dx) :=
  ⟨⟨oe, vs, e, z, d⟩, ⟨oe, e⟩, fun _ _ ⟨o, v, q, r⟩ k => ⟨o, v, k o q, r⟩⟩
/-- the class of a name -/
def clsOf (K : PySem.W.Frag) (c : Str) : Option Addr := (K.find? fun p => match p.2.data with
  | .cls cd => decide (cd.name = c)
  | _ => false).map (·.1)
/-- the field of an error -/
def fld (c : Str) : Str :=
  if c = "TooMany" then "most"
  else if c ∈ (["BadGroup", "BadPattern", "BadTile", "BadTiles", "BadWeave", "BadBand", "BadText", "BadPaper", "BadDeed", "BadWord"] : List String).map Str.ofString then "place"
  else "value"
/-- an error as data: its class's name, its field -/
def excD (c : Str) (d : PyData) : PyData := .dict [(.none, .str c), (.none, d)]
/-! dicts whose keys are tuples (without texts) -/
mutual
def nkD : PyData → Option NestedKey
  | .none => some .none
  | .bool b => some (.num (if b = true then 1 else 0))
  | .int i => some (.num i)
  | .tuple ds => (nkDs ds).map .tup
  | _ => none
def nkDs : List PyData → Option (List NestedKey)
  | [] => some []
  | d :: ds => match nkD d, nkDs ds with
    | some k, some ks => some (k :: ks)
    | _, _ => none
end
mutual
def hN : NestedKey → Int
  | .none => reduceHash 0xFCA86420
  | .num i => hashInt i
  | .text _ => 0
  | .tup ks => reduceHash (Builtin.Tuple.tupleHashOf (hNs ks))
def hNs : List NestedKey → List Int
  | [] => []
  | k :: ks => hN k :: hNs ks
end
mutual
theorem nk_hash (w : World) : ∀ (d : PyData) (k : NestedKey), nkD d = some k → k.hash w = hN k
  | .none, k, h => by simp only [nkD, Option.some.injEq] at h; subst h; simp only [NestedKey.hash, hN]
  | .bool b, k, h => by simp only [nkD, Option.some.injEq] at h; subst h; simp only [NestedKey.hash, hN]
  | .int i, k, h => by simp only [nkD, Option.some.injEq] at h; subst h; simp only [NestedKey.hash, hN]
  | .str _, _, h => by simp [nkD] at h
  | .list _, _, h => by simp [nkD] at h
  | .dict _, _, h => by simp [nkD] at h
  | .tuple ds, k, h => by
    simp only [nkD, Option.map_eq_some_iff] at h
    obtain ⟨ks, h, rfl⟩ := h
    simp only [NestedKey.hash, hN, nk_hashes w ds ks h]
theorem nk_hashes (w : World) : ∀ (ds : List PyData) (ks : List NestedKey), nkDs ds = some ks → NestedKey.hashes w ks = hNs ks
  | [], ks, h => by simp only [nkDs, Option.some.injEq] at h; subst h; simp only [NestedKey.hashes, hNs]
  | d :: ds, ks, h => by
    simp only [nkDs] at h
    split at h
    · rename_i k ks' h1 h2
      simp only [Option.some.injEq] at h
      subst h
      simp only [NestedKey.hashes, hNs, nk_hash w d k h1, nk_hashes w ds ks' h2]
    · cases h
end
def xEs (xs : List (NestedKey × Addr × V)) (us : List Value) : List DictEntry := List.zipWith (fun x u => ⟨hN x.1, .ref x.2.1, u⟩) xs us
def rawX (a : Addr) (xs : List (NestedKey × Addr × V)) (h : Heap) : Prop := ∃ o es ep us, h.get? a = some o ∧ o.ExactDict ∧ o.data = .dict es ep ∧ Vals (xs.map (·.2.2)) us ∧ es.toList = xEs xs us
def dX (a : Addr) (xs : List (NestedKey × Addr × V)) : HO := .ext (rawX a xs)
mutual
inductive Tr (K : PySem.W.Frag) (G : Hp) : V → PyData → Prop
  | non : Tr K G .non .none
  | bl (b : Bool) : Tr K G (.bl b) (.bool b)
  | int (i : Int) : Tr K G (.int i) (.int i)
  | str (x : Str) : Tr K G (.str x) (.str x)
  | lst {a : Addr} {xs : List V} {ds : List PyData} : Rd G a (.lst xs) → TrAll K G xs ds → Tr K G (.ref a) (.list ds)
  | tup {a : Addr} {xs : List V} {ds : List PyData} : Rd G a (.tup xs) → TrAll K G xs ds → Tr K G (.ref a) (.tuple ds)
  | dK {a : Addr} {kvs : List (Key × V)} {es : List (PyData × PyData)} : Rd G a (.dK kvs) → TrKV K G kvs es → Tr K G (.ref a) (.dict es)
  | dX {a : Addr} {xs : List (NestedKey × Addr × V)} {es : List (PyData × PyData)} : Rd G a (dX a xs) → (a == sysModules) = false → (xs.map (·.1)).Nodup → xs ≠ [] → TrX K G xs es → Tr K G (.ref a) (.dict es)
  | exc {a dx C : Addr} {c : Str} {v : V} {d : PyData} : G a = some (ExF a (.ref C) dx) → clsOf K c = some C → G dx = some (.xd [(fld c, v)]) → Tr K G v d → Tr K G (.ref a) (.dict [(.none, .str c), (.none, d)])
inductive TrAll (K : PySem.W.Frag) (G : Hp) : List V → List PyData → Prop
  | nil : TrAll K G [] []
  | cons {v : V} {vs : List V} {d : PyData} {ds : List PyData} : Tr K G v d → TrAll K G vs ds → TrAll K G (v :: vs) (d :: ds)
inductive TrKV (K : PySem.W.Frag) (G : Hp) : List (Key × V) → List (PyData × PyData) → Prop
  | nil : TrKV K G [] []
  | cons {k : Key} {v : V} {vs : List (Key × V)} {d : PyData} {ds : List (PyData × PyData)} : Tr K G v d → TrKV K G vs ds → TrKV K G ((k, v) :: vs) ((kD k, d) :: ds)
inductive TrX (K : PySem.W.Frag) (G : Hp) : List (NestedKey × Addr × V) → List (PyData × PyData) → Prop
  | nil : TrX K G [] []
  | cons {k : NestedKey} {b : Addr} {v : V} {kd d : PyData} {xs : List (NestedKey × Addr × V)} {es : List (PyData × PyData)} : Tr K G (.ref b) kd → nkD kd = some k → (∃ ds, kd = .tuple ds) → k.depth ≤ 8 → Tr K G v d → TrX K G xs es → TrX K G ((k, b, v) :: xs) ((kd, d) :: es)
end
def Sub (G G' : Hp) : Prop := ∀ b o, G b = some o → G' b = some o
theorem Sub.refl (G : Hp) : Sub G G := fun _ _ h => h
theorem Sub.trans {G G1 G2 : Hp} (a : Sub G G1) (b : Sub G1 G2) : Sub G G2 := fun c o h => b c o (a c o h)
theorem Sub.new {G : Hp} {p : Addr} {o : HO} (h : G p = none) : Sub G (upd G p o) := fun b u e => by rw [upd_ne (ne_of_none e h)]; exact e
theorem Sub.l {K : PySem.W.Frag} {G G' : Hp} {a : Addr} {xs : List V} (s : Sub G G') (h : SqL K G a xs) : SqL K G' a xs := by
  rcases h with (h | ⟨o, h⟩) | h
  · exact .inl (.inl (s _ _ h))
  · exact .inl (.inr ⟨o, s _ _ h⟩)
  · exact .inr h
theorem Sub.rd {G G' : Hp} {a : Addr} {u : HO} (s : Sub G G') (h : Rd G a u) : Rd G' a u := by
  rcases h with h | ⟨o, h⟩
  · exact .inl (s _ _ h)
  · exact .inr ⟨o, s _ _ h⟩
theorem Sub.t {K : PySem.W.Frag} {G G' : Hp} {a : Addr} {xs : List V} (s : Sub G G') (h : SqT K G a xs) : SqT K G' a xs := by
  rcases h with (h | ⟨o, h⟩) | h
  · exact .inl (.inl (s _ _ h))
  · exact .inl (.inr ⟨o, s _ _ h⟩)
  · exact .inr h
mutual
theorem Tr.mono {K : PySem.W.Frag} {G G' : Hp} (s : Sub G G') : ∀ {v : V} {d : PyData}, Tr K G v d → Tr K G' v d
  | _, _, .non => .non
  | _, _, .bl b => .bl b
  | _, _, .int i => .int i
  | _, _, .str x => .str x
  | _, _, .lst h t => .lst (s.rd h) (TrAll.mono s t)
  | _, _, .tup h t => .tup (s.rd h) (TrAll.mono s t)
  | _, _, .dK h t => .dK (s.rd h) (TrKV.mono s t)
  | _, _, .dX h m n ne t => .dX (s.rd h) m n ne (TrX.mono s t)
  | _, _, .exc h n x t => .exc (s _ _ h) n (s _ _ x) (Tr.mono s t)
theorem TrAll.mono {K : PySem.W.Frag} {G G' : Hp} (s : Sub G G') : ∀ {v : List V} {d : List PyData}, TrAll K G v d → TrAll K G' v d
  | _, _, .nil => .nil
  | _, _, .cons h t => .cons (Tr.mono s h) (TrAll.mono s t)
theorem TrKV.mono {K : PySem.W.Frag} {G G' : Hp} (s : Sub G G') : ∀ {v : List (Key × V)} {d : List (PyData × PyData)}, TrKV K G v d → TrKV K G' v d
  | _, _, .nil => .nil
  | _, _, .cons h t => .cons (Tr.mono s h) (TrKV.mono s t)
theorem TrX.mono {K : PySem.W.Frag} {G G' : Hp} (s : Sub G G') : ∀ {v : List (NestedKey × Addr × V)} {d : List (PyData × PyData)}, TrX K G v d → TrX K G' v d
  | _, _, .nil => .nil
  | _, _, .cons h n ht hd u t => .cons (Tr.mono s h) n ht hd (Tr.mono s u) (TrX.mono s t)
end
theorem TrAll.length {K : PySem.W.Frag} {G : Hp} : ∀ {vs : List V} {ds : List PyData}, TrAll K G vs ds → vs.length = ds.length
  | _, _, .nil => rfl
  | _, _, .cons _ t => by rw [List.length_cons, List.length_cons, TrAll.length t]
theorem TrAll.get {K : PySem.W.Frag} {G : Hp} : ∀ {vs : List V} {ds : List PyData} {i : Nat} {d : PyData}, TrAll K G vs ds → ds[i]? = some d → ∃ v, vs[i]? = some v ∧ Tr K G v d
  | _, _, _, _, .nil, e => by simp at e
  | _, _, 0, _, .cons h _, e => by simp at e; subst e; exact ⟨_, rfl, h⟩
  | _, _, i + 1, _, .cons _ t, e => by
    obtain ⟨v, h1, h2⟩ := TrAll.get (i := i) t (by simpa using e)
    exact ⟨v, by simpa using h1, h2⟩
theorem TrAll.append {K : PySem.W.Frag} {G : Hp} : ∀ {vs ws : List V} {ds es : List PyData}, TrAll K G vs ds → TrAll K G ws es → TrAll K G (vs ++ ws) (ds ++ es)
  | _, _, _, _, .nil, s => s
  | _, _, _, _, .cons h t, s => .cons h (TrAll.append t s)
theorem TrAll.take {K : PySem.W.Frag} {G : Hp} : ∀ {vs : List V} {ds : List PyData} (n : Nat), TrAll K G vs ds → TrAll K G (vs.take n) (ds.take n)
  | _, _, 0, _ => .nil
  | _, _, _ + 1, .nil => .nil
  | _, _, n + 1, .cons h t => .cons h (TrAll.take n t)
theorem TrAll.drop {K : PySem.W.Frag} {G : Hp} : ∀ {vs : List V} {ds : List PyData} (n : Nat), TrAll K G vs ds → TrAll K G (vs.drop n) (ds.drop n)
  | _, _, 0, t => t
  | _, _, _ + 1, .nil => .nil
  | _, _, n + 1, .cons h t => TrAll.drop n t
theorem sqt {K : PySem.W.Frag} {G : Hp} {a : Addr} {xs : List V} (h : Rd G a (.tup xs)) : SqT K G a xs := .inl h
/-- the code tables; the module's constants -/
structure YT where
  t : List (Addr × Str)
  c : List (V × PyData)
/-! as Tr, of what the module holds: each tuple a known object without a dict of its own -/
mutual
inductive TrF (K : PySem.W.Frag) (G : Hp) : V → PyData → Prop
  | non : TrF K G .non .none
  | bl (b : Bool) : TrF K G (.bl b) (.bool b)
  | int (i : Int) : TrF K G (.int i) (.int i)
  | str (x : Str) : TrF K G (.str x) (.str x)
  | tup {a : Addr} {o : Obj} {xs : List V} {ds : List PyData} : G a = some (.frz o (.tup xs)) → o.dict = none → TrFAll K G xs ds → TrF K G (.ref a) (.tuple ds)
  | dK {a : Addr} {kvs : List (Key × V)} {es : List (PyData × PyData)} : Rd G a (.dK kvs) → TrFKV K G kvs es → TrF K G (.ref a) (.dict es)
inductive TrFAll (K : PySem.W.Frag) (G : Hp) : List V → List PyData → Prop
  | nil : TrFAll K G [] []
  | cons {v : V} {vs : List V} {d : PyData} {ds : List PyData} : TrF K G v d → TrFAll K G vs ds → TrFAll K G (v :: vs) (d :: ds)
inductive TrFKV (K : PySem.W.Frag) (G : Hp) : List (Key × V) → List (PyData × PyData) → Prop
  | nil : TrFKV K G [] []
  | cons {k : Key} {v : V} {vs : List (Key × V)} {d : PyData} {ds : List (PyData × PyData)} : TrF K G v d → TrFKV K G vs ds → TrFKV K G ((k, v) :: vs) ((kD k, d) :: ds)
end
mutual
theorem TrF.tr {K : PySem.W.Frag} {G : Hp} : ∀ {v : V} {d : PyData}, TrF K G v d → Tr K G v d
  | _, _, .non => .non
  | _, _, .bl b => .bl b
  | _, _, .int i => .int i
  | _, _, .str x => .str x
  | _, _, .tup h _ t => .tup (.inr ⟨_, h⟩) (TrFAll.tr t)
  | _, _, .dK h t => .dK h (TrFKV.tr t)
theorem TrFAll.tr {K : PySem.W.Frag} {G : Hp} : ∀ {v : List V} {d : List PyData}, TrFAll K G v d → TrAll K G v d
  | _, _, .nil => .nil
  | _, _, .cons h t => .cons (TrF.tr h) (TrFAll.tr t)
theorem TrFKV.tr {K : PySem.W.Frag} {G : Hp} : ∀ {v : List (Key × V)} {d : List (PyData × PyData)}, TrFKV K G v d → TrKV K G v d
  | _, _, .nil => .nil
  | _, _, .cons h t => .cons (TrF.tr h) (TrFKV.tr t)
end
mutual
theorem TrF.mono {K : PySem.W.Frag} {G G' : Hp} (s : Sub G G') : ∀ {v : V} {d : PyData}, TrF K G v d → TrF K G' v d
  | _, _, .non => .non
  | _, _, .bl b => .bl b
  | _, _, .int i => .int i
  | _, _, .str x => .str x
  | _, _, .tup h n t => .tup (s _ _ h) n (TrFAll.mono s t)
  | _, _, .dK h t => .dK (s.rd h) (TrFKV.mono s t)
theorem TrFAll.mono {K : PySem.W.Frag} {G G' : Hp} (s : Sub G G') : ∀ {v : List V} {d : List PyData}, TrFAll K G v d → TrFAll K G' v d
  | _, _, .nil => .nil
  | _, _, .cons h t => .cons (TrF.mono s h) (TrFAll.mono s t)
theorem TrFKV.mono {K : PySem.W.Frag} {G G' : Hp} (s : Sub G G') : ∀ {v : List (Key × V)} {d : List (PyData × PyData)}, TrFKV K G v d → TrFKV K G' v d
  | _, _, .nil => .nil
  | _, _, .cons h t => .cons (TrF.mono s h) (TrFKV.mono s t)
end
/-- the module's constants are at hand -/
def Cst (K : PySem.W.Frag) (T : YT) (G : Hp) : Prop := ∀ p ∈ T.c, TrF K G p.1 p.2
theorem Cst.mono {K : PySem.W.Frag} {T : YT} {G G' : Hp} (c : Cst K T G) (s : Sub G G') : Cst K T G' := fun p hp => (c p hp).mono s
def Base (K : PySem.W.Frag) (T : YT) (G H : Hp) : Prop := LamX.Tabs T.t H ∧ Cst K T G
/-! no dict within -/
mutual
def flat : PyData → Bool
  | .list xs => flatAll xs
  | .tuple xs => flatAll xs
  | .dict _ => false
  | _ => true
def flatAll : List PyData → Bool
  | [] => true
  | x :: xs => flat x && flatAll xs
end
mutual
theorem Tr.dp {K : PySem.W.Frag} {G : Hp} : ∀ {v : V} {d : PyData}, flat d = true → Tr K G v d → Dp K G v d
  | _, _, _, .non => .non
  | _, _, _, .bl b => .bl b
  | _, _, _, .int i => .int i
  | _, _, _, .str x => .str x
  | _, _, f, .lst h t => .lst (.inl h) (TrAll.dp (by simpa [flat] using f) t)
  | _, _, f, .tup h t => .tup (.inl h) (TrAll.dp (by simpa [flat] using f) t)
  | _, _, f, .dK _ _ => absurd f (by simp [flat])
  | _, _, f, .dX _ _ _ _ _ => absurd f (by simp [flat])
  | _, _, f, .exc _ _ _ _ => absurd f (by simp [flat])
theorem TrAll.dp {K : PySem.W.Frag} {G : Hp} : ∀ {v : List V} {d : List PyData}, flatAll d = true → TrAll K G v d → DpAll K G v d
  | _, _, _, .nil => .nil
  | _, _, f, .cons h t => by
    simp only [flatAll, Bool.and_eq_true] at f
    exact .cons (Tr.dp f.1 h) (TrAll.dp f.2 t)
end

/-! ### growing -/
/-- from (G, H) to (G', H'): G is what is frozen, H what is tracked; but io's addresses and the code tables, nothing that stood is changed; what is newly frozen is new -/
structure Grow (T : YT) (io : List Addr) (G H G' H' : Hp) : Prop where
  sub : ∀ b o, G' b = some o → H' b = some o ∧ ∀ ps, o ≠ .tbl ps
  gm : Sub G G'
  hm : ∀ b o, H b = some o → b ∉ io → (∀ ps, o ≠ .tbl ps) → H' b = some o
  hs : ∀ b, H b ≠ none → H' b ≠ none
  gn : ∀ b, G' b ≠ none → H b ≠ none → G b ≠ none
  tb : LamX.Tabs T.t H → LamX.Tabs T.t H'
section
variable {T : YT} {io : List Addr} {G H G1 H1 G2 H2 : Hp} {p : Addr} {o : HO}
theorem Grow.refl (h : ∀ b o, G b = some o → H b = some o ∧ ∀ ps, o ≠ .tbl ps) : Grow T io G H G H :=
  ⟨h, Sub.refl G, fun _ _ e _ _ => e, fun _ e => e, fun _ e _ => e, fun t => t⟩
theorem Grow.trans (a : Grow T io G H G1 H1) (b : Grow T io G1 H1 G2 H2) : Grow T io G H G2 H2 :=
  ⟨b.sub, a.gm.trans b.gm, fun c o e n t => b.hm c o (a.hm c o e n t) n t, fun c e => b.hs c (a.hs c e), fun c e h => a.gn c (b.gn c e (a.hs c h)) h, fun t => b.tb (a.tb t)⟩
theorem Grow.weak {jo : List Addr} (a : Grow T io G H G1 H1) (h : ∀ b, b ∈ io → b ∈ jo) : Grow T jo G H G1 H1 :=
  ⟨a.sub, a.gm, fun c o e n t => a.hm c o e (fun z => n (h c z)) t, a.hs, a.gn, a.tb⟩
theorem none_of_sub (h : ∀ b o, G b = some o → H b = some o ∧ ∀ ps, o ≠ .tbl ps) (hp : H p = none) : G p = none := by
  cases e : G p with
  | none => rfl
  | some u => rw [(h p u e).1] at hp; cases hp
/-- a new object, frozen -/
theorem Grow.new (h : ∀ b o, G b = some o → H b = some o ∧ ∀ ps, o ≠ .tbl ps) (hp : H p = none) (ho : ∀ ps, o ≠ .tbl ps) : Grow T io G H (upd G p o) (upd H p o) := by
  have gp := none_of_sub h hp
  refine ⟨fun b u e => ?_, Sub.new gp, fun b u e _ _ => ?_, fun b e => ?_, fun b e hb => ?_, fun t => t.ext fun b u e => ?_⟩
  · by_cases hb : b = p
    · subst hb; rw [upd_same] at e; cases e; exact ⟨upd_same, ho⟩
    · rw [upd_ne hb] at e ⊢; exact h b u e
  · rw [upd_ne (ne_of_none e hp)]; exact e
  · by_cases hb : b = p
    · subst hb; rw [upd_same]; simp
    · rw [upd_ne hb]; exact e
  · by_cases hb2 : b = p
    · subst hb2; exact absurd hp hb
    · rw [upd_ne hb2] at e; exact e
  · rw [upd_ne (ne_of_none e hp)]; exact e
/-- a new object, not frozen -/
theorem Grow.newO (h : ∀ b o, G b = some o → H b = some o ∧ ∀ ps, o ≠ .tbl ps) (hp : H p = none) : Grow T io G H G (upd H p o) := by
  have gp := none_of_sub h hp
  refine ⟨fun b u e => ?_, Sub.refl G, fun b u e _ _ => ?_, fun b e => ?_, fun b e hb => e, fun t => t.ext fun b u e => ?_⟩
  · have hb : b ≠ p := fun z => by rw [z, gp] at e; cases e
    rw [upd_ne hb]; exact h b u e
  · rw [upd_ne (ne_of_none e hp)]; exact e
  · by_cases hb : b = p
    · subst hb; rw [upd_same]; simp
    · rw [upd_ne hb]; exact e
  · rw [upd_ne (ne_of_none e hp)]; exact e
/-- what stands already is frozen -/
theorem Grow.freeze (h : ∀ b o, G b = some o → H b = some o ∧ ∀ ps, o ≠ .tbl ps) (hp : H p = some o) (ho : ∀ ps, o ≠ .tbl ps) : (∀ b u, upd G p o b = some u → H b = some u ∧ ∀ ps, u ≠ .tbl ps) := fun b u e => by
  by_cases hb : b = p
  · subst hb; rw [upd_same] at e; cases e; exact ⟨hp, ho⟩
  · rw [upd_ne hb] at e; exact h b u e
end

/-! ### a frame's slots, by data -/
inductive Sl where
  | un
  | sh (d : PyData)
  | ow (d : PyData)
  | io (d : PyData)
  /-- the function that was handed in -/
  | lam
abbrev En := List Sl
/-- the entry: what was frozen and tracked, the addresses that may be changed, the tables -/
structure Ent where
  T : YT
  io : List Addr
  G : Hp
  H : Hp
  lam : Addr := 0
/-- at a: an object of one's own with this content -/
inductive Own (K : PySem.W.Frag) (G H : Hp) (a : Addr) : PyData → Prop
  | lst {vs : List V} {ds : List PyData} : H a = some (.lst vs) → TrAll K G vs ds → Own K G H a (.list ds)
  | dK {kvs : List (Key × V)} {es : List (PyData × PyData)} : H a = some (.dK kvs) → TrKV K G kvs es → Own K G H a (.dict es)
  | dX {xs : List (NestedKey × Addr × V)} {es : List (PyData × PyData)} : H a = some (Y.dX a xs) → (a == sysModules) = false → (xs.map (·.1)).Nodup → xs ≠ [] → TrX K G xs es → Own K G H a (.dict es)
/-- the address of one's own object in a slot -/
def adr (s : Sl) (v : Option (Option V)) (a : Addr) : Prop := match s with
  | .ow _ => v = some (some (.ref a))
  | .io _ => v = some (some (.ref a))
  | _ => False
def SlOk (K : PySem.W.Frag) (B : Ent) (G H : Hp) (v : Option (Option V)) : Sl → Prop
  | .un => True
  | .sh d => ∃ x, v = some (some x) ∧ Tr K G x d
  | .ow d => ∃ a, v = some (some (.ref a)) ∧ G a = none ∧ B.H a = none ∧ Own K G H a d
  | .io d => ∃ a, v = some (some (.ref a)) ∧ G a = none ∧ a ∈ B.io ∧ Own K G H a d
  | .lam => v = some (some (.ref B.lam))
structure Rel (K : PySem.W.Frag) (B : Ent) (G H : Hp) (σ : St) (ρ : En) : Prop where
  bd : Grow B.T B.io B.G B.H G H
  len : σ.length = ρ.length
  at_ : ∀ (i : Nat) s, ρ[i]? = some s → SlOk K B G H σ[i]? s
  sep : ∀ (i j : Nat) s t a, i ≠ j → ρ[i]? = some s → ρ[j]? = some t → adr s σ[i]? a → adr t σ[j]? a → False
section
variable {K : PySem.W.Frag} {B : Ent} {G H G' H' : Hp} {σ : St} {ρ : En} {a : Addr} {d : PyData}
theorem Own.nt (h : Own K G H a d) : ∃ o, H a = some o ∧ ∀ ps, o ≠ .tbl ps := by
  cases h with
  | lst h _ => exact ⟨_, h, fun _ z => nomatch z⟩
  | dK h _ => exact ⟨_, h, fun _ z => nomatch z⟩
  | dX h _ _ _ _ => exact ⟨_, h, fun _ z => nomatch z⟩
theorem Own.keep (h : Own K G H a d) (s : Sub G G') (e : ∀ o, H a = some o → H' a = some o) : Own K G' H' a d := by
  cases h with
  | lst h t => exact .lst (e _ h) (t.mono s)
  | dK h t => exact .dK (e _ h) (t.mono s)
  | dX h m n ne t => exact .dX (e _ h) m n ne (t.mono s)
theorem Rel.sub (r : Rel K B G H σ ρ) : ∀ b o, G b = some o → H b = some o ∧ ∀ ps, o ≠ .tbl ps := r.bd.sub
theorem Rel.subG (r : Rel K B G H σ ρ) : Sub G H := fun b o e => (r.bd.sub b o e).1
theorem Rel.ownOf (r : Rel K B G H σ ρ) {i : Nat} {s : Sl} (h : ρ[i]? = some s) {a : Addr} (e : adr s σ[i]? a) : G a = none ∧ (B.H a = none ∨ a ∈ B.io) ∧ ∃ d, (s = .ow d ∨ s = .io d) ∧ Own K G H a d ∧ σ[i]? = some (some (.ref a)) := by
  have q := r.at_ i s h
  cases s with
  | un => exact e.elim
  | sh d => exact e.elim
  | ow d =>
    obtain ⟨b, e1, e2, e3, e4⟩ := q
    have e : σ[i]? = some (some (.ref a)) := e
    rw [e1] at e; cases e
    exact ⟨e2, .inl e3, d, .inl rfl, e4, e1⟩
  | io d =>
    obtain ⟨b, e1, e2, e3, e4⟩ := q
    have e : σ[i]? = some (some (.ref a)) := e
    rw [e1] at e; cases e
    exact ⟨e2, .inr e3, d, .inr rfl, e4, e1⟩
  | lam => exact e.elim
/-- the heap grows -/
theorem Rel.step (r : Rel K B G H σ ρ) (g : Grow B.T [] G H G' H') : Rel K B G' H' σ ρ := by
  have own : ∀ {a d}, G a = none → Own K G H a d → G' a = none ∧ Own K G' H' a d := fun {a d} n w => by
    obtain ⟨o, ho, ht⟩ := w.nt
    refine ⟨?_, w.keep g.gm fun u hu => g.hm a u hu (by simp) (by rw [ho] at hu; cases hu; exact ht)⟩
    cases e : G' a with
    | none => rfl
    | some u => exact absurd n (g.gn a (by rw [e]; simp) (by rw [ho]; simp))
  refine ⟨r.bd.trans (g.weak (by simp)), r.len, fun i s h => ?_, r.sep⟩
  have q := r.at_ i s h
  cases s with
  | un => trivial
  | sh d => obtain ⟨x, e, t⟩ := q; exact ⟨x, e, t.mono g.gm⟩
  | ow d => obtain ⟨a, e, n, z, w⟩ := q; exact ⟨a, e, (own n w).1, z, (own n w).2⟩
  | io d => obtain ⟨a, e, n, z, w⟩ := q; exact ⟨a, e, (own n w).1, z, (own n w).2⟩
  | lam => exact q
/-- a slot set to a shared value -/
theorem Rel.setSh (r : Rel K B G H σ ρ) {i : Nat} {v : V} (t : Tr K G v d) : Rel K B G H (σ.set i (some v)) (ρ.set i (.sh d)) := by
  refine ⟨r.bd, by simp [r.len], fun j s h => ?_, fun j k s u b n hj hk ej ek => ?_⟩
  · by_cases hji : i = j
    · subst hji
      have hi : i < ρ.length := by
        have := (List.getElem?_eq_some_iff.mp h).1
        simpa using this
      rw [List.getElem?_set_self hi] at h
      cases h
      rw [List.getElem?_set_self (by rw [r.len]; exact hi)]
      exact ⟨v, rfl, t⟩
    · rw [List.getElem?_set_ne hji] at h ⊢
      exact r.at_ j s h
  · have key : ∀ {j : Nat} {s : Sl}, (ρ.set i (.sh d))[j]? = some s → adr s (σ.set i (some v))[j]? b → i ≠ j := fun {j s} h e z => by
      subst z
      have hi : i < ρ.length := by
        have := (List.getElem?_eq_some_iff.mp h).1
        simpa using this
      rw [List.getElem?_set_self hi] at h
      cases h
      exact e
    have n1 := key hj ej
    have n2 := key hk ek
    rw [List.getElem?_set_ne n1] at hj ej
    rw [List.getElem?_set_ne n2] at hk ek
    exact r.sep j k s u b n hj hk ej ek
/-- a slot's knowledge is forgotten -/
theorem Rel.setUn (r : Rel K B G H σ ρ) {i : Nat} {v : Option V} : Rel K B G H (σ.set i v) (ρ.set i .un) := by
  refine ⟨r.bd, by simp [r.len], fun j s h => ?_, fun j k s u b n hj hk ej ek => ?_⟩
  · by_cases hji : i = j
    · subst hji
      have hi : i < ρ.length := by
        have := (List.getElem?_eq_some_iff.mp h).1
        simpa using this
      rw [List.getElem?_set_self hi] at h
      cases h
      trivial
    · rw [List.getElem?_set_ne hji] at h ⊢
      exact r.at_ j s h
  · have key : ∀ {j : Nat} {s : Sl}, (ρ.set i .un)[j]? = some s → adr s (σ.set i v)[j]? b → i ≠ j := fun {j s} h e z => by
      subst z
      have hi : i < ρ.length := by
        have := (List.getElem?_eq_some_iff.mp h).1
        simpa using this
      rw [List.getElem?_set_self hi] at h
      cases h
      exact e
    have n1 := key hj ej
    have n2 := key hk ek
    rw [List.getElem?_set_ne n1] at hj ej
    rw [List.getElem?_set_ne n2] at hk ek
    exact r.sep j k s u b n hj hk ej ek
/-- only the knowledge of a slot is forgotten -/
theorem Rel.forget (r : Rel K B G H σ ρ) {i : Nat} : Rel K B G H σ (ρ.set i .un) := by
  refine ⟨r.bd, by simp [r.len], fun j s h => ?_, fun j k s u b n hj hk ej ek => ?_⟩
  · by_cases hji : i = j
    · subst hji
      have hi : i < ρ.length := by
        have := (List.getElem?_eq_some_iff.mp h).1
        simpa using this
      rw [List.getElem?_set_self hi] at h
      cases h
      trivial
    · rw [List.getElem?_set_ne hji] at h
      exact r.at_ j s h
  · have key : ∀ {j : Nat} {s : Sl}, (ρ.set i .un)[j]? = some s → adr s σ[j]? b → i ≠ j := fun {j s} h e z => by
      subst z
      have hi : i < ρ.length := by
        have := (List.getElem?_eq_some_iff.mp h).1
        simpa using this
      rw [List.getElem?_set_self hi] at h
      cases h
      exact e
    have n1 := key hj ej
    have n2 := key hk ek
    rw [List.getElem?_set_ne n1] at hj
    rw [List.getElem?_set_ne n2] at hk
    exact r.sep j k s u b n hj hk ej ek
/-- a slot set to a new object of one's own -/
theorem Rel.setOw (r : Rel K B G H σ ρ) {i : Nat} {p : Addr} (gp : G p = none) (hp : B.H p = none) (w : Own K G H p d) (ap : ∀ (j : Nat) s, ρ[j]? = some s → adr s σ[j]? p → False) :
    Rel K B G H (σ.set i (some (.ref p))) (ρ.set i (.ow d)) := by
  refine ⟨r.bd, by simp [r.len], fun j s h => ?_, fun j k s u b n hj hk ej ek => ?_⟩
  · by_cases hji : i = j
    · subst hji
      have hi : i < ρ.length := by
        have := (List.getElem?_eq_some_iff.mp h).1
        simpa using this
      rw [List.getElem?_set_self hi] at h
      cases h
      rw [List.getElem?_set_self (by rw [r.len]; exact hi)]
      exact ⟨p, rfl, gp, hp, w⟩
    · rw [List.getElem?_set_ne hji] at h ⊢
      exact r.at_ j s h
  · have key : ∀ {j : Nat} {s : Sl}, (ρ.set i (.ow d))[j]? = some s → adr s (σ.set i (some (.ref p)))[j]? b → (i = j ∧ b = p) ∨ (i ≠ j ∧ ρ[j]? = some s ∧ adr s σ[j]? b) := fun {j s} h e => by
      by_cases z : i = j
      · subst z
        have hi : i < ρ.length := by
          have := (List.getElem?_eq_some_iff.mp h).1
          simpa using this
        rw [List.getElem?_set_self hi] at h
        cases h
        rw [List.getElem?_set_self (by rw [r.len]; exact hi)] at e
        cases e
        exact .inl ⟨rfl, rfl⟩
      · rw [List.getElem?_set_ne z] at h e
        exact .inr ⟨z, h, e⟩
    rcases key hj ej with ⟨e1, e2⟩ | ⟨n1, h1, e1⟩
    · rcases key hk ek with ⟨e3, _⟩ | ⟨n2, h2, e3⟩
      · exact n (e1.symm.trans e3)
      · subst e2; exact ap k u h2 e3
    · rcases key hk ek with ⟨_, e3⟩ | ⟨n2, h2, e3⟩
      · subst e3; exact ap j s h1 e1
      · exact r.sep j k s u b n h1 h2 e1 e3
end
end Y


/-! YExpr: expressions by data. -/
namespace Y
open PySem PySem.Spec PyProof.Rows L2
/-- an expression's function: from the slots to the value and the slots -/
abbrev EF := En → R (PyData × En)
abbrev AF := En → R (List PyData × En)
abbrev TF := En → R (Bool × En)
abbrev OkX := Str → PyData → Prop
def noX : OkX := fun _ _ => False

/-- no slot holds the object at p -/
def Free (σ : St) (ρ : En) (p : Addr) : Prop := ∀ (j : Nat) s, ρ[j]? = some s → adr s σ[j]? p → False
/-- what an expression leaves: what is frozen stays so; a loose object stays as it is, and loose -/
structure Adv (σ : St) (G H : Hp) (ρ : En) (G' H' : Hp) (ρ' : En) : Prop where
  sub : Sub G G'
  hs : ∀ b, H b ≠ none → H' b ≠ none
  loose : ∀ p o, H p = some o → G p = none → (∀ ps, o ≠ .tbl ps) → Free σ ρ p → H' p = some o ∧ G' p = none ∧ Free σ ρ' p
theorem Adv.refl {σ : St} {G H : Hp} {ρ : En} : Adv σ G H ρ G H ρ := ⟨Sub.refl G, fun _ h => h, fun _ _ h g _ f => ⟨h, g, f⟩⟩
theorem Adv.trans {σ : St} {G H G1 H1 G2 H2 : Hp} {ρ ρ1 ρ2 : En} (a : Adv σ G H ρ G1 H1 ρ1) (b : Adv σ G1 H1 ρ1 G2 H2 ρ2) : Adv σ G H ρ G2 H2 ρ2 :=
  ⟨a.sub.trans b.sub, fun c h => b.hs c (a.hs c h), fun p o h g t f => let ⟨h1, g1, f1⟩ := a.loose p o h g t f; b.loose p o h1 g1 t f1⟩
theorem Adv.grow {T : YT} {σ : St} {G H G1 H1 : Hp} {ρ : En} (g : Grow T [] G H G1 H1) : Adv σ G H ρ G1 H1 ρ :=
  ⟨g.gm, g.hs, fun p o h n t f => ⟨g.hm p o h (by simp) t, by
    cases e : G1 p with
    | none => rfl
    | some u => exact absurd n (g.gn p (by rw [e]; simp) (by rw [h]; simp)), f⟩⟩
theorem Adv.pre {σ : St} {G H G1 H1 : Hp} {ρ ρ1 : En} {p : Addr} (a : Adv σ G H ρ G1 H1 ρ1) (h : H1 p = none) : H p = none := by
  cases e : H p with
  | none => rfl
  | some u => exact absurd h (a.hs p (by rw [e]; simp))
/-- the value is frozen -/
structure EE (X : Cx) (B : Ent) (ok : OkX) (e : Expr) (f : EF) : Prop where
  ex : ∃ t : TE, PE X e t ∧ ∀ (σ : St) (H G : Hp) (ρ : En) (Q : VK), Rel X.K B G H σ ρ →
    (f ρ).sat (fun r => ∀ v H' G', Adv σ G H ρ G' H' r.2 → Rel X.K B G' H' σ r.2 → Tr X.K G' v r.1 → Q v H') ok → t σ H Q
/-- a new object -/
structure Fresh (K : PySem.W.Frag) (B : Ent) (G H : Hp) (σ : St) (ρ : En) (p : Addr) (d : PyData) : Prop where
  g : G p = none
  b : B.H p = none
  own : Own K G H p d
  ap : ∀ (j : Nat) s, ρ[j]? = some s → adr s σ[j]? p → False
/-- the value is a new object of one's own -/
structure EN (X : Cx) (B : Ent) (ok : OkX) (e : Expr) (f : EF) : Prop where
  ex : ∃ t : TE, PE X e t ∧ ∀ (σ : St) (H G : Hp) (ρ : En) (Q : VK), Rel X.K B G H σ ρ →
    (f ρ).sat (fun r => ∀ p H' G', H p = none → Adv σ G H ρ G' H' r.2 → Rel X.K B G' H' σ r.2 → Fresh X.K B G' H' σ r.2 p r.1 → Q (.ref p) H') ok → t σ H Q
structure ET (X : Cx) (B : Ent) (ok : OkX) (e : Expr) (f : TF) : Prop where
  ex : ∃ t : TT, PT X e t ∧ ∀ (σ : St) (H G : Hp) (ρ : En) (Q : Bool → Hp → Prop), Rel X.K B G H σ ρ →
    (f ρ).sat (fun r => ∀ H' G', Adv σ G H ρ G' H' r.2 → Rel X.K B G' H' σ r.2 → Q r.1 H') ok → t σ H Q
structure EW (X : Cx) (B : Ent) (ok : OkX) (e : Expr) (f : TF) : Prop where
  ex : ∃ t : TT, PW X e t ∧ ∀ (σ : St) (H G : Hp) (ρ : En) (Q : Bool → Hp → Prop), Rel X.K B G H σ ρ →
    (f ρ).sat (fun r => ∀ H' G', Adv σ G H ρ G' H' r.2 → Rel X.K B G' H' σ r.2 → Q r.1 H') ok → t σ H Q
structure EA (X : Cx) (B : Ent) (ok : OkX) (es : List Expr) (f : AF) : Prop where
  len : ∀ ρ r, f ρ = .ok r → r.1.length = es.length
  ex : ∃ t : TA, PA X es t ∧ ∀ (σ : St) (H G : Hp) (ρ : En) (Q : List V → Hp → Prop), Rel X.K B G H σ ρ →
    (f ρ).sat (fun r => ∀ vs H' G', Adv σ G H ρ G' H' r.2 → Rel X.K B G' H' σ r.2 → TrAll X.K G' vs r.1 → Q vs H') ok → t σ H Q

section
variable {X : Cx} {B : Ent} {ok : OkX} {a b c e : Expr} {es : List Expr} {fa fb fc f : EF} {fs : AF} {ta tb : TF} {pos : Pos}
/-- a new object is frozen -/
theorem Rel.frz {K : PySem.W.Frag} {G H : Hp} {σ : St} {ρ : En} {p : Addr} {d : PyData} (r : Rel K B G H σ ρ) (x : Fresh K B G H σ ρ p d) : ∃ G', Sub G G' ∧ (∀ q, q ≠ p → G' q = G q) ∧ Rel K B G' H σ ρ ∧ Tr K G' (.ref p) d := by
  obtain ⟨o, ho, ht⟩ := x.own.nt
  have s1 : Sub G (upd G p o) := Sub.new x.g
  refine ⟨upd G p o, s1, fun q hq => upd_ne hq, ⟨⟨Grow.freeze r.sub ho ht, r.bd.gm.trans s1, r.bd.hm, r.bd.hs, fun b e h => ?_, r.bd.tb⟩, r.len, fun i s h => ?_, r.sep⟩, ?_⟩
  · by_cases hb : b = p
    · subst hb; exact absurd x.b h
    · rw [upd_ne hb] at e; exact r.bd.gn b e h
  · have q := r.at_ i s h
    cases s with
    | un => trivial
    | lam => exact q
    | sh d => obtain ⟨y, e, t⟩ := q; exact ⟨y, e, t.mono s1⟩
    | ow d =>
      obtain ⟨a, e, n, z, w⟩ := q
      have np : a ≠ p := fun z => x.ap i _ h (by subst z; exact e)
      exact ⟨a, e, by rw [upd_ne np]; exact n, z, w.keep s1 fun o e => e⟩
    | io d =>
      obtain ⟨a, e, n, z, w⟩ := q
      have np : a ≠ p := fun z => x.ap i _ h (by subst z; exact e)
      exact ⟨a, e, by rw [upd_ne np]; exact n, z, w.keep s1 fun o e => e⟩
  · cases x.own with
    | lst h t => rw [ho] at h; cases h; exact .lst (.inl upd_same) (t.mono s1)
    | dK h t => rw [ho] at h; cases h; exact .dK (.inl upd_same) (t.mono s1)
    | dX h m n ne t => rw [ho] at h; cases h; exact .dX (.inl upd_same) m n ne (t.mono s1)
theorem EN.ee (h : EN X B ok e f) : EE X B ok e f := by
  obtain ⟨t, p, k⟩ := h.ex
  refine ⟨t, p, fun σ H G ρ Q r q => k σ H G ρ Q r (q.imp fun z g p H' G' hp s1 r1 x => ?_)⟩
  obtain ⟨G2, s2, e2, r2, t2⟩ := r1.frz x
  refine g _ _ _ ⟨s1.sub.trans s2, s1.hs, fun q o h n t f => ?_⟩ r2 t2
  obtain ⟨h1, g1, f1⟩ := s1.loose q o h n t f
  exact ⟨h1, by rw [e2 q (ne_of_none h hp)]; exact g1, f1⟩
/-! ### names, constants -/
def getSh (ρ : En) (i : Nat) : R PyData := match ρ[i]? with
  | some (.sh d) => .ok d
  | _ => .no
def fVar (i : Nat) : EF := fun ρ => (getSh ρ i).bind fun d => .ok (d, ρ)
theorem getSh_sat {ρ : En} {i : Nat} {P : PyData → Prop} {E : OkX} (h : (getSh ρ i).sat P E) : ∃ d, ρ[i]? = some (.sh d) ∧ P d := by
  unfold getSh at h
  split at h
  · exact ⟨_, by assumption, h⟩
  · exact h.elim
theorem ee_var (i : Nat) {x : Str} (hN : X.N[i]? = some x := by rfl) (hv : Vis X.env.scope x := by first | exact Or.inl rfl | exact Or.inr (Or.inl rfl) | exact Or.inr (Or.inr rfl)) (hd : (x == ("__debug__" : Str)) = false := by decide)
    (hcd : (x == ("__classdict__" : Str)) = false := by decide) : EE X B ok (.Name x pos) (fVar i) := by
  refine ⟨_, pe_var hN hv hd hcd, fun σ H G ρ Q r q => ?_⟩
  obtain ⟨d, e, q⟩ := getSh_sat (R.sat_bind (r := getSh ρ i) (f := fun d => R.ok (d, ρ)) q)
  obtain ⟨v, e1, t⟩ := r.at_ i _ e
  exact ⟨v, e1, q v H G Adv.refl r t⟩
def fC (d : PyData) : EF := fun ρ => .ok (d, ρ)
theorem ee_c {v : V} {d : PyData} (h : PE X e (tC v)) (t : ∀ G, Tr X.K G v d) : EE X B ok e (fC d) :=
  ⟨_, h, fun σ H G ρ Q r q => q v H G Adv.refl r (t G)⟩
theorem ee_int {i j} : EE X B ok (.Constant (.int i) j pos) (fC (.int i)) := ee_c pe_int fun _ => .int i
theorem ee_bl {i j} : EE X B ok (.Constant (.bool i) j pos) (fC (.bool i)) := ee_c pe_bl fun _ => .bl i
theorem ee_non {j} : EE X B ok (.Constant .none j pos) (fC .none) := ee_c pe_non fun _ => .non
theorem ee_str {i j} : EE X B ok (.Constant (.str i) j pos) (fC (.str i)) := ee_c pe_str fun _ => .str i
/-- a module's constant -/
def GlC (K : PySem.W.Frag) (T : YT) (mg : Str → Option Value) (x : Str) (d : PyData) : Prop := ∃ u v, mg x = some u ∧ RelV v u ∧ ∀ G, Cst K T G → Tr K G v d
theorem ee_glob {x : Str} {d : PyData} (hc : Cst X.K B.T B.G) (h : GlC X.K B.T X.mg x d) (hg : Gl X x := by rfl) (hd : (x == ("__debug__" : Str)) = false := by decide) : EE X B ok (.Name x pos) (fC d) := by
  obtain ⟨u, v, h1, h2, h3⟩ := h
  exact ⟨_, pe_glob hg h1 h2 hd, fun σ H G ρ Q r q => q v H G Adv.refl r (h3 G (hc.mono r.bd.gm))⟩
/-! ### operators -/
/-- an operation of two values, by data; it may lay new objects -/
def RD (T : YT) (K : PySem.W.Frag) (r : R2) (g : PyData → PyData → Option PyData) : Prop :=
  ∀ (G H : Hp) (x y : V) (dx dy d : PyData) (Q : VK), (∀ b o, G b = some o → H b = some o ∧ ∀ ps, o ≠ .tbl ps) → Tr K G x dx → Tr K G y dy → g dx dy = some d →
    (∀ v H' G', Grow T [] G H G' H' → Tr K G' v d → Q v H') → r x y H Q
def OpD (X : Cx) (T : YT) (F : Value → Value → Sem Value) (g : PyData → PyData → Option PyData) : Prop := ∃ r, OpR X F r ∧ RD T X.K r g
def ofO {α : Type} : Option α → R α
  | some a => .ok a
  | none => .no
theorem ofO_sat {α : Type} {o : Option α} {P : α → Prop} {E : OkX} (h : (ofO o).sat P E) : ∃ a, o = some a ∧ P a := by
  cases o with
  | some a => exact ⟨a, rfl, h⟩
  | none => exact h.elim
def fOp (g : PyData → PyData → Option PyData) (fa fb : EF) : EF := fun ρ => (fa ρ).bind fun x => (fb x.2).bind fun y => (ofO (g x.1 y.1)).bind fun d => .ok (d, y.2)
theorem two_ok {fa fb : EF} {g : PyData → PyData → Option PyData} {ta tb : TE} (ka : ∀ (σ : St) (H G : Hp) (ρ : En) (Q : VK), Rel X.K B G H σ ρ → (fa ρ).sat (fun r => ∀ v H' G', Adv σ G H ρ G' H' r.2 → Rel X.K B G' H' σ r.2 → Tr X.K G' v r.1 → Q v H') ok → ta σ H Q)
    (kb : ∀ (σ : St) (H G : Hp) (ρ : En) (Q : VK), Rel X.K B G H σ ρ → (fb ρ).sat (fun r => ∀ v H' G', Adv σ G H ρ G' H' r.2 → Rel X.K B G' H' σ r.2 → Tr X.K G' v r.1 → Q v H') ok → tb σ H Q) {r : R2} (hr : RD B.T X.K r g)
    {σ : St} {H G : Hp} {ρ : En} {Q : VK} (h : Rel X.K B G H σ ρ) (q : (fOp g fa fb ρ).sat (fun r => ∀ v H' G', Adv σ G H ρ G' H' r.2 → Rel X.K B G' H' σ r.2 → Tr X.K G' v r.1 → Q v H') ok) : tOp r ta tb σ H Q := by
  refine ka σ H G ρ _ h ((R.sat_bind (r := fa ρ) (f := fun x => (fb x.2).bind fun y => (ofO (g x.1 y.1)).bind fun d => R.ok (d, y.2)) q).imp fun x qx v1 H1 G1 s1 r1 t1 => ?_)
  refine kb σ H1 G1 x.2 _ r1 ((R.sat_bind (r := fb x.2) (f := fun y => (ofO (g x.1 y.1)).bind fun d => R.ok (d, y.2)) qx).imp fun y qy v2 H2 G2 s2 r2 t2 => ?_)
  obtain ⟨d, e, qd⟩ := ofO_sat (R.sat_bind (r := ofO (g x.1 y.1)) (f := fun d => R.ok (d, y.2)) qy)
  exact hr G2 H2 v1 v2 x.1 y.1 d Q r2.sub (t1.mono s2.sub) t2 e fun v H' G' g t => qd v H' G' ((s1.trans s2).trans (Adv.grow g)) (r2.step g) t
theorem ee_op {op : Operator} {g : PyData → PyData → Option PyData} (ho : OpD X B.T (binaryOp op) g) (ha : EE X B ok a fa) (hb : EE X B ok b fb) : EE X B ok (.BinOp a op b pos) (fOp g fa fb) := by
  obtain ⟨r, h1, h2⟩ := ho
  obtain ⟨ta, pa, ka⟩ := ha.ex
  obtain ⟨tb, pb, kb⟩ := hb.ex
  exact ⟨_, pe_op h1 pa pb, fun σ H G ρ Q h q => two_ok ka kb h2 h q⟩
theorem ee_cmp {op : CmpOp} {g : PyData → PyData → Option PyData} (ho : OpD X B.T (compareOp op) g) (ha : EE X B ok a fa) (hb : EE X B ok b fb) (hm : behindInMarks op b = false := by rfl) : EE X B ok (.Compare a [op] [b] pos) (fOp g fa fb) := by
  obtain ⟨r, h1, h2⟩ := ho
  obtain ⟨ta, pa, ka⟩ := ha.ex
  obtain ⟨tb, pb, kb⟩ := hb.ex
  exact ⟨_, pe_cmpR h1 pa pb hm, fun σ H G ρ Q h q => two_ok ka kb h2 h q⟩
/-- a bool's test -/
def asB : PyData → Option Bool
  | .bool b => some b
  | _ => none
def fB (f : EF) : TF := fun ρ => (f ρ).bind fun x => (ofO (asB x.1)).bind fun k => .ok (k, x.2)
theorem asB_tr {K : PySem.W.Frag} {G : Hp} {v : V} {d : PyData} {k : Bool} (t : Tr K G v d) (h : asB d = some k) : v = .bl k := by
  cases t <;> simp [asB] at h
  subst h; rfl
theorem fB_sat {f : EF} {ρ : En} {P : Bool × En → Prop} {E : OkX} (h : (fB f ρ).sat P E) : (f ρ).sat (fun x => ∃ k, asB x.1 = some k ∧ P (k, x.2)) E := by
  refine (R.sat_bind (r := f ρ) (f := fun x => (ofO (asB x.1)).bind fun k => R.ok (k, x.2)) h).imp fun x q => ?_
  exact ofO_sat (R.sat_bind (r := ofO (asB x.1)) (f := fun k => R.ok (k, x.2)) q)
theorem et_cmp {op : CmpOp} {g : PyData → PyData → Option PyData} (ho : OpD X B.T (compareOp op) g) (ha : EE X B ok a fa) (hb : EE X B ok b fb) (hm : behindInMarks op b = false := by rfl) : ET X B ok (.Compare a [op] [b] pos) (fB (fOp g fa fb)) := by
  obtain ⟨r, h1, h2⟩ := ho
  obtain ⟨ta, pa, ka⟩ := ha.ex
  obtain ⟨tb, pb, kb⟩ := hb.ex
  refine ⟨_, pt_cmpR h1 pa pb hm, fun σ H G ρ Q h q => two_ok (g := g) ka kb h2 h ((fB_sat q).imp fun x ⟨k, e, qk⟩ v H' G' s' r' t' => ?_)⟩
  exact ⟨k, asB_tr t' e, qk H' G' s' r'⟩
/-- a bool's expression as a test -/
theorem et_val (h : EE X B ok e f) (he : ∀ whole, isTrue e X.env whole = (do let v ← whole; standAt e.pos; holding [v] (truthy v)) := by intro _; rfl) : ET X B ok e (fB f) := by
  obtain ⟨t, p, k⟩ := h.ex
  refine ⟨_, pt_val p he, fun σ H G ρ Q r q => k σ H G ρ _ r ((fB_sat q).imp fun x ⟨k, e, qk⟩ v H' G' s' r' t' => ?_)⟩
  exact ⟨k, asB_tr t' e, qk H' G' s' r'⟩
/-! ### and, or, not, if -/
def fAnd (s t : TF) : TF := fun ρ => (s ρ).bind fun x => if x.1 = true then t x.2 else .ok (false, x.2)
def fOr (s t : TF) : TF := fun ρ => (s ρ).bind fun x => if x.1 = true then .ok (true, x.2) else t x.2
def fNot (s : TF) : TF := fun ρ => (s ρ).bind fun x => .ok (!x.1, x.2)
theorem ew_and1 (h : ET X B ok a ta) : EW X B ok (.BoolOp .And [a] pos) ta := by
  obtain ⟨t, p, k⟩ := h.ex
  exact ⟨t, pw_and1 p, k⟩
theorem ew_or1 (h : ET X B ok a ta) : EW X B ok (.BoolOp .Or [a] pos) ta := by
  obtain ⟨t, p, k⟩ := h.ex
  exact ⟨t, pw_or1 p, k⟩
theorem ew_and {rest : List Expr} (ha : ET X B ok a ta) (hb : EW X B ok (.BoolOp .And (b :: rest) pos) tb) : EW X B ok (.BoolOp .And (a :: b :: rest) pos) (fAnd ta tb) := by
  obtain ⟨t, p, k⟩ := ha.ex
  obtain ⟨u, p2, k2⟩ := hb.ex
  refine ⟨_, pw_and p p2, fun σ H G ρ Q r q => k σ H G ρ _ r ((R.sat_bind (r := ta ρ) (f := fun x => if x.1 = true then tb x.2 else R.ok (false, x.2)) q).imp fun x qx H1 G1 s1 r1 => ?_)⟩
  by_cases hx : x.1 = true
  · rw [if_pos hx] at qx ⊢
    exact k2 σ H1 G1 x.2 _ r1 (qx.imp fun y qy H2 G2 s2 r2 => qy H2 G2 (s1.trans s2) r2)
  · rw [if_neg hx] at qx ⊢
    exact qx H1 G1 s1 r1
theorem ew_or {rest : List Expr} (ha : ET X B ok a ta) (hb : EW X B ok (.BoolOp .Or (b :: rest) pos) tb) : EW X B ok (.BoolOp .Or (a :: b :: rest) pos) (fOr ta tb) := by
  obtain ⟨t, p, k⟩ := ha.ex
  obtain ⟨u, p2, k2⟩ := hb.ex
  refine ⟨_, pw_or p p2, fun σ H G ρ Q r q => k σ H G ρ _ r ((R.sat_bind (r := ta ρ) (f := fun x => if x.1 = true then R.ok (true, x.2) else tb x.2) q).imp fun x qx H1 G1 s1 r1 => ?_)⟩
  by_cases hx : x.1 = true
  · rw [if_pos hx] at qx ⊢
    exact qx H1 G1 s1 r1
  · rw [if_neg hx] at qx ⊢
    exact k2 σ H1 G1 x.2 _ r1 (qx.imp fun y qy H2 G2 s2 r2 => qy H2 G2 (s1.trans s2) r2)
theorem ew_t (h : EW X B ok e ta) : ET X B ok e ta := by
  obtain ⟨t, p, k⟩ := h.ex
  exact ⟨t, p.pt, k⟩
theorem et_not (h : ET X B ok a ta) : ET X B ok (.UnaryOp .Not a pos) (fNot ta) := by
  obtain ⟨t, p, k⟩ := h.ex
  exact ⟨_, pt_not p, fun σ H G ρ Q r q => k σ H G ρ _ r (R.sat_bind (r := ta ρ) (f := fun x : Bool × En => R.ok (!x.1, x.2)) q)⟩
def fAndV (fa fb : EF) : EF := fun ρ => (fB fa ρ).bind fun x => if x.1 = true then fb x.2 else .ok (.bool false, x.2)
def fOrV (fa fb : EF) : EF := fun ρ => (fB fa ρ).bind fun x => if x.1 = true then .ok (.bool true, x.2) else fb x.2
def fNotV (fa : EF) : EF := fun ρ => (fB fa ρ).bind fun x => .ok (.bool (!x.1), x.2)
theorem ee_one {op} (h : EE X B ok a fa) : EE X B ok (.BoolOp op [a] pos) fa := by
  obtain ⟨t, p, k⟩ := h.ex
  exact ⟨t, pe_one p, k⟩
theorem ee_and {rest : List Expr} (ha : EE X B ok a fa) (hb : EE X B ok (.BoolOp .And (b :: rest) pos) fb) : EE X B ok (.BoolOp .And (a :: b :: rest) pos) (fAndV fa fb) := by
  obtain ⟨t, p, k⟩ := ha.ex
  obtain ⟨u, p2, k2⟩ := hb.ex
  refine ⟨_, pe_and p p2, fun σ H G ρ Q r q => k σ H G ρ _ r ((fB_sat (R.sat_bind (r := fB fa ρ) (f := fun x : Bool × En => if x.1 = true then fb x.2 else R.ok (PyData.bool false, x.2)) q)).imp fun x ⟨c, ec, qx⟩ v H1 G1 s1 r1 t1 => ?_)⟩
  refine ⟨c, asB_tr t1 ec, ?_⟩
  cases c with
  | true => exact k2 σ H1 G1 x.2 _ r1 (R.sat.imp qx fun y qy v H2 G2 s2 r2 t2 => qy v H2 G2 (s1.trans s2) r2 t2)
  | false => exact qx (.bl false) H1 G1 s1 r1 (.bl false)
theorem ee_or {rest : List Expr} (ha : EE X B ok a fa) (hb : EE X B ok (.BoolOp .Or (b :: rest) pos) fb) : EE X B ok (.BoolOp .Or (a :: b :: rest) pos) (fOrV fa fb) := by
  obtain ⟨t, p, k⟩ := ha.ex
  obtain ⟨u, p2, k2⟩ := hb.ex
  refine ⟨_, pe_or p p2, fun σ H G ρ Q r q => k σ H G ρ _ r ((fB_sat (R.sat_bind (r := fB fa ρ) (f := fun x : Bool × En => if x.1 = true then R.ok (PyData.bool true, x.2) else fb x.2) q)).imp fun x ⟨c, ec, qx⟩ v H1 G1 s1 r1 t1 => ?_)⟩
  refine ⟨c, asB_tr t1 ec, ?_⟩
  cases c with
  | true => exact qx (.bl true) H1 G1 s1 r1 (.bl true)
  | false => exact k2 σ H1 G1 x.2 _ r1 (R.sat.imp qx fun y qy v H2 G2 s2 r2 t2 => qy v H2 G2 (s1.trans s2) r2 t2)
theorem ee_not (h : EE X B ok a fa) : EE X B ok (.UnaryOp .Not a pos) (fNotV fa) := by
  obtain ⟨t, p, k⟩ := h.ex
  refine ⟨_, pe_not p, fun σ H G ρ Q r q => k σ H G ρ _ r ((fB_sat (R.sat_bind (r := fB fa ρ) (f := fun x : Bool × En => R.ok (PyData.bool (!x.1), x.2)) q)).imp fun x ⟨c, ec, qx⟩ v H1 G1 s1 r1 t1 => ?_)⟩
  exact ⟨c, asB_tr t1 ec, qx _ H1 G1 s1 r1 (.bl _)⟩
/-- a test as a value: not t, where t is a test (truth of anything) -/
def fIf (t : TF) (fa fb : EF) : EF := fun ρ => (t ρ).bind fun x => if x.1 = true then fa x.2 else fb x.2
theorem ee_if (hc : ET X B ok c ta) (ha : EE X B ok a fa) (hb : EE X B ok b fb) : EE X B ok (.IfExp c a b pos) (fIf ta fa fb) := by
  obtain ⟨t, p, k⟩ := hc.ex
  obtain ⟨u, p2, k2⟩ := ha.ex
  obtain ⟨v, p3, k3⟩ := hb.ex
  refine ⟨_, pe_ifExp p p2 p3, fun σ H G ρ Q r q => k σ H G ρ _ r ((R.sat_bind (r := ta ρ) (f := fun x : Bool × En => if x.1 = true then fa x.2 else fb x.2) q).imp fun x qx H1 G1 s1 r1 => ?_)⟩
  by_cases hx : x.1 = true
  · rw [if_pos hx] at qx ⊢
    exact k2 σ H1 G1 x.2 _ r1 (qx.imp fun y qy v H2 G2 s2 r2 t2 => qy v H2 G2 (s1.trans s2) r2 t2)
  · rw [if_neg hx] at qx ⊢
    exact k3 σ H1 G1 x.2 _ r1 (qx.imp fun y qy v H2 G2 s2 r2 t2 => qy v H2 G2 (s1.trans s2) r2 t2)
/-! ### lists of arguments, displays -/
def fNil : AF := fun ρ => .ok ([], ρ)
def fCons (f : EF) (fs : AF) : AF := fun ρ => (f ρ).bind fun x => (fs x.2).bind fun xs => .ok (x.1 :: xs.1, xs.2)
theorem fCons_len {f : EF} {fs : AF} {m : Nat} (hl : ∀ ρ r, fs ρ = .ok r → r.1.length = m) {ρ : En} {r : List PyData × En} (h : fCons f fs ρ = .ok r) : r.1.length = m + 1 := by
  unfold fCons at h
  cases e : f ρ with
  | ok x =>
    rw [e] at h
    cases e2 : fs x.2 with
    | ok y =>
      have h : (fs x.2).bind (fun xs => R.ok (x.1 :: xs.1, xs.2)) = .ok r := h
      rw [e2] at h
      cases h
      rw [List.length_cons, hl _ _ e2]
    | er c d =>
      have h : (fs x.2).bind (fun xs => R.ok (x.1 :: xs.1, xs.2)) = .ok r := h
      rw [e2] at h; cases h
    | no =>
      have h : (fs x.2).bind (fun xs => R.ok (x.1 :: xs.1, xs.2)) = .ok r := h
      rw [e2] at h; cases h
  | er c d => rw [e] at h; cases h
  | no => rw [e] at h; cases h
theorem ea_nil : EA X B ok [] fNil := ⟨fun ρ r h => by cases h; rfl, _, pa_nil, fun σ H G ρ Q r q => q [] H G Adv.refl r .nil⟩
theorem ea_cons (h : EE X B ok e f) (hs : EA X B ok es fs) (he : starEach (e :: es) X.env = (false, eval e X.env) :: starEach es X.env := by rfl) : EA X B ok (e :: es) (fCons f fs) := by
  obtain ⟨t, p, k⟩ := h.ex
  obtain ⟨u, p2, k2⟩ := hs.ex
  refine ⟨fun ρ r h => fCons_len hs.len h, _, pa_cons p p2 he, fun σ H G ρ Q r q => k σ H G ρ _ r ((R.sat_bind (r := f ρ) (f := fun x : PyData × En => (fs x.2).bind fun xs => R.ok (x.1 :: xs.1, xs.2)) q).imp fun x qx v H1 G1 s1 r1 t1 => ?_)⟩
  refine k2 σ H1 G1 x.2 _ r1 ((R.sat_bind (r := fs x.2) (f := fun xs : List PyData × En => R.ok (x.1 :: xs.1, xs.2)) qx).imp fun xs qs vs H2 G2 s2 r2 t2 => ?_)
  exact qs (v :: vs) H2 G2 (s1.trans s2) r2 (.cons (t1.mono s2.sub) t2)
theorem sz1000 {n : Nat} (h : n ≤ 1000) : n ≤ sizeLine := Nat.le_trans h (by decide)
def fTup (fs : AF) : EF := fun ρ => (fs ρ).bind fun x => if x.1.length ≤ 1000 then .ok (.tuple x.1, x.2) else .no
def fLst (fs : AF) : EF := fun ρ => (fs ρ).bind fun x => if x.1.length ≤ 1000 then .ok (.list x.1, x.2) else .no
theorem ite_sat {α : Type} {c : Prop} [Decidable c] {r : R α} {P : α → Prop} {E : OkX} (h : (if c then r else .no).sat P E) : c ∧ r.sat P E := by
  by_cases hc : c
  · rw [if_pos hc] at h; exact ⟨hc, h⟩
  · rw [if_neg hc] at h; exact h.elim
theorem ee_tup {x1} (h : EA X B ok es fs) : EE X B ok (.Tuple es x1 pos) (fTup fs) := by
  obtain ⟨t, p, k⟩ := h.ex
  refine ⟨_, pe_tup p, fun σ H G ρ Q r q => k σ H G ρ _ r ((R.sat_bind (r := fs ρ) (f := fun x : List PyData × En => if x.1.length ≤ 1000 then R.ok (PyData.tuple x.1, x.2) else .no) q).imp fun x qx vs H1 G1 s1 r1 t1 => ?_)⟩
  obtain ⟨hl, qx⟩ := ite_sat qx
  refine ⟨by rw [t1.length]; exact sz1000 hl, fun p hp => ?_⟩
  have g : Grow B.T [] G1 H1 (upd G1 p (.tup vs)) (upd H1 p (.tup vs)) := Grow.new r1.sub hp (fun _ z => nomatch z)
  exact qx _ _ _ (s1.trans (Adv.grow g)) (r1.step g) (.tup (.inl upd_same) (t1.mono g.gm))
theorem fresh_new {K : PySem.W.Frag} {G H : Hp} {σ : St} {ρ : En} {p : Addr} {d : PyData} {o : HO} (r : Rel K B G H σ ρ) (hp : H p = none) (w : Own K G (upd H p o) p d) : Rel K B G (upd H p o) σ ρ ∧ Fresh K B G (upd H p o) σ ρ p d := by
  refine ⟨r.step (Grow.newO r.sub hp), ⟨none_of_sub r.sub hp, ?_, w, fun j s h e => ?_⟩⟩
  · cases e : B.H p with
    | none => rfl
    | some u => exact absurd hp (r.bd.hs p (by rw [e]; simp))
  · obtain ⟨_, _, d', _, w', _⟩ := r.ownOf h e
    obtain ⟨o', ho, _⟩ := w'.nt
    rw [hp] at ho; cases ho
theorem en_lst (h : EA X B ok es fs) : EN X B ok (.List es pos) (fLst fs) := by
  obtain ⟨t, p, k⟩ := h.ex
  refine ⟨_, pe_lst p, fun σ H G ρ Q r q => k σ H G ρ _ r ((R.sat_bind (r := fs ρ) (f := fun x : List PyData × En => if x.1.length ≤ 1000 then R.ok (PyData.list x.1, x.2) else .no) q).imp fun x qx vs H1 G1 s1 r1 t1 => ?_)⟩
  obtain ⟨hl, qx⟩ := ite_sat qx
  refine ⟨by rw [t1.length]; exact sz1000 hl, fun p hp => ?_⟩
  obtain ⟨r2, x2⟩ := fresh_new r1 hp (o := .lst vs) (.lst upd_same t1)
  exact qx p _ _ (s1.pre hp) (s1.trans (Adv.grow (Grow.newO (T := B.T) (io := []) r1.sub hp))) r2 x2
end
end Y


/-! YOps: operators by data. -/
namespace Y
open PySem PySem.Spec PyProof.Rows L2
section
variable {X : Cx} {T : YT}
theorem lim_sz {n : Nat} (h : n ≤ 1000000) : n ≤ sizeLine := Nat.le_trans h (by decide)
theorem sub_of {G H : Hp} (s : ∀ b o, G b = some o → H b = some o ∧ ∀ ps, o ≠ .tbl ps) : Sub G H := fun b o e => (s b o e).1
/-- an operation of two ints -/
def g2I (p : Int → Int → Bool) (g : Int → Int → PyData) : PyData → PyData → Option PyData
  | .int i, .int j => if p i j = true then some (g i j) else none
  | _, _ => none
theorem g2I_inv {p : Int → Int → Bool} {g : Int → Int → PyData} {a b d : PyData} (h : g2I p g a b = some d) : ∃ i j, a = .int i ∧ b = .int j ∧ p i j = true ∧ d = g i j := by
  unfold g2I at h
  split at h
  · rename_i i j
    by_cases hp : p i j = true
    · rw [if_pos hp] at h; cases h; exact ⟨i, j, rfl, rfl, hp, rfl⟩
    · rw [if_neg hp] at h; cases h
  · cases h
theorem opd_2I {F : Value → Value → Sem Value} {p : Int → Int → Bool} {g : Int → Int → PyData} {C : Int → Int → Prop} {gv : Int → Int → V} (o : OpR X F (rI C gv)) (hc : ∀ i j, p i j = true → C i j) (hg : ∀ K G i j, Tr K G (gv i j) (g i j)) : OpD X T F (g2I p g) := by
  refine ⟨_, o, fun G H x y dx dy d Q s tx ty e q => ?_⟩
  obtain ⟨i, j, rfl, rfl, hp, rfl⟩ := g2I_inv e
  cases tx; cases ty
  exact ⟨i, j, rfl, rfl, hc i j hp, q _ H G (Grow.refl s) (hg _ _ i j)⟩
theorem opd_2I0 {F : Value → Value → Sem Value} {g : Int → Int → PyData} {gv : Int → Int → V} (o : OpR X F (rI0 gv)) (hg : ∀ K G i j, Tr K G (gv i j) (g i j)) : OpD X T F (g2I (fun _ _ => true) g) := by
  refine ⟨_, o, fun G H x y dx dy d Q s tx ty e q => ?_⟩
  obtain ⟨i, j, rfl, rfl, hp, rfl⟩ := g2I_inv e
  cases tx; cases ty
  exact ⟨i, j, rfl, rfl, q _ H G (Grow.refl s) (hg _ _ i j)⟩

/-! ### + -/
def rCatR : R2 := fun x y H Q => ∃ l b xs zs, x = V.ref l ∧ y = V.ref b ∧ Rd H l (.lst xs) ∧ Rd H b (.lst zs) ∧ xs.length + zs.length ≤ sizeLine ∧ ∀ p, H p = none → Q (.ref p) (upd H p (.lst (xs ++ zs)))
theorem op_catR : OpR X (binaryOp .Add) rCatR := by
  intro pins s σ H x y v u Q I rx ry h
  obtain ⟨l, b, xs, zs, rfl, rfl, h1, h2, hz, q⟩ := h
  obtain rfl : v = Value.ref l := rx
  obtain rfl : u = Value.ref b := ry
  obtain ⟨_, i1, n1, v1, e1⟩ := h1.ok I.hok
  obtain ⟨_, i2, n2, v2, e2⟩ := h2.ok I.hok
  refine PySem.P.add_list e1 e2 ?_ (by have := v1.length; have := v2.length; simp; omega)
  rw [show i1.toArray ++ i2.toArray = (i1 ++ i2).toArray by simp]
  exact ⟨.ref s.heap.objs.size, _, I.lnew (t' := s.toks) (v1.append v2) (by simpa using hz), rfl, q _ I.fresh⟩
def gAdd : PyData → PyData → Option PyData
  | .int i, .int j => some (.int (i + j))
  | .str x, .str y => if x.length + y.length ≤ 1000000 then some (.str (x ++ y)) else none
  | .tuple xs, .tuple ys => if xs.length + ys.length ≤ 1000000 then some (.tuple (xs ++ ys)) else none
  | .list xs, .list ys => if xs.length + ys.length ≤ 1000000 then some (.list (xs ++ ys)) else none
  | _, _ => none
theorem opd_add : OpD X T (binaryOp .Add) gAdd := by
  refine ⟨_, op_add.or (op_add_str.or (op_catA.or op_catR)), fun G H x y dx dy d Q s tx ty e q => ?_⟩
  unfold gAdd at e
  split at e
  · cases e; cases tx; cases ty
    exact .inl ⟨_, _, rfl, rfl, q _ H G (Grow.refl s) (.int _)⟩
  · split at e
    · cases e; cases tx; cases ty
      exact .inr (.inl ⟨_, _, rfl, rfl, lim_sz (by assumption), q _ H G (Grow.refl s) (.str _)⟩)
    · cases e
  · split at e
    · cases e
      cases tx with | tup ha ta =>
      cases ty with | tup hb tb =>
      rename_i a vs b ws
      refine .inr (.inr (.inl ⟨_, _, vs, ws, rfl, rfl, sqt ((sub_of s).rd ha), sqt ((sub_of s).rd hb), by rw [ta.length, tb.length]; exact lim_sz (by assumption), fun z => ?_, fun _ z => ?_, fun _ _ p hp => ?_⟩))
      · subst z
        cases ta
        exact q _ H G (Grow.refl s) (.tup hb tb)
      · subst z
        cases tb
        rw [List.append_nil] at q
        exact q _ H G (Grow.refl s) (.tup ha ta)
      · have g : Grow T [] G H (upd G p (.tup (vs ++ ws))) (upd H p (.tup (vs ++ ws))) := Grow.new s hp (fun _ z => nomatch z)
        exact q _ _ _ g (.tup (.inl upd_same) ((ta.append tb).mono g.gm))
    · cases e
  · split at e
    · cases e
      cases tx with | lst ha ta =>
      cases ty with | lst hb tb =>
      rename_i a vs b ws
      refine .inr (.inr (.inr ⟨_, _, vs, ws, rfl, rfl, (sub_of s).rd ha, (sub_of s).rd hb, by rw [ta.length, tb.length]; exact lim_sz (by assumption), fun p hp => ?_⟩))
      have g : Grow T [] G H (upd G p (.lst (vs ++ ws))) (upd H p (.lst (vs ++ ws))) := Grow.new s hp (fun _ z => nomatch z)
      exact q _ _ _ g (.lst (.inl upd_same) ((ta.append tb).mono g.gm))
    · cases e
  · cases e
/-! ### - * // % ** -/
def gSub : PyData → PyData → Option PyData := g2I (fun _ _ => true) fun i j => .int (i - j)
theorem opd_sub : OpD X T (binaryOp .Sub) gSub := opd_2I0 op_sub fun _ _ _ _ => .int _
def mulOk (i j : Int) : Bool := decide (i.natAbs < 2 ^ 64) || decide (j.natAbs < 2 ^ 64) || decide (i.natAbs.log2 + j.natAbs.log2 < 1000000)
theorem mulOk_c {i j : Int} (h : mulOk i j = true) : CMul i j ∨ CMulW i j := by
  unfold mulOk at h
  simp only [Bool.or_eq_true, decide_eq_true_eq] at h
  rcases h with (h | h) | h
  · exact .inl (.inl (by omega))
  · exact .inl (.inr (by omega))
  · exact .inr h
/-- a list, a tuple times an int -/
def rRepL : R2 := fun x y H Q => ∃ l k xs, x = V.ref l ∧ y = V.int k ∧ H l = some (.lst xs) ∧ 0 ≤ k ∧ k ≤ 1000 ∧ xs.length ≤ 1000 ∧ ∀ p, H p = none → Q (.ref p) (upd H p (.lst (List.replicate k.toNat xs).flatten))
theorem op_repL : OpR X (binaryOp .Mult) rRepL := by
  intro pins s σ H x y v u Q I rx ry h
  obtain ⟨l, k, xs, rfl, rfl, hl, k0, k1, hx, q⟩ := h
  refine op_rep pins s σ H _ _ v u Q I rx ry ⟨l, k, xs, rfl, rfl, hl, by omega, by omega, ?_, q⟩
  exact Nat.le_trans (Nat.mul_le_mul hx (show k.toNat ≤ 1000 by omega)) (by decide)
theorem TrAll.rep {K : PySem.W.Frag} {G : Hp} {vs : List V} {ds : List PyData} (t : TrAll K G vs ds) : ∀ n : Nat, TrAll K G (List.replicate n vs).flatten (List.replicate n ds).flatten
  | 0 => .nil
  | n + 1 => by
    rw [List.replicate_succ, List.replicate_succ, List.flatten_cons, List.flatten_cons]
    exact t.append (TrAll.rep t n)
/-- a list (read, of any standing) times an int -/
def rRepR : R2 := fun x y H Q => ∃ l k xs, x = .ref l ∧ y = .int k ∧ Rd H l (.lst xs) ∧ 0 ≤ k ∧ k ≤ 1000 ∧ xs.length ≤ 1000 ∧ ∀ p, H p = none → Q (.ref p) (upd H p (.lst (List.replicate k.toNat xs).flatten))
theorem rd_lst {pins : List (Addr × Obj)} {σ : St} {H : Hp} {s : Shared} {l : Addr} {xs : List V} (I : Inv X pins σ H s) (h : Rd H l (.lst xs)) : ∃ (its : List Value) (n : Nat), Vals xs its ∧ s.heap.get? l = some { cls := .type "list", data := .seq its.toArray n } := by
  rcases h with h | ⟨o, h⟩
  · obtain ⟨_, its, n, r, e⟩ := (show ObjOk X.prog X.w H s.heap l (.lst xs) from I.hok l _ h)
    exact ⟨its, n, r, e⟩
  · obtain ⟨_, _, its, n, r, e⟩ := (show ObjOk X.prog X.w H s.heap l (.frz o (.lst xs)) from I.hok l _ h)
    exact ⟨its, n, r, e⟩
theorem op_repR : OpR X (binaryOp .Mult) rRepR := by
  intro pins s σ H x y v u Q I rx ry h
  obtain ⟨l, k, xs, rfl, rfl, hH, h1, h2, hz0, q⟩ := h
  cases rx
  obtain ⟨t, rfl⟩ := ry
  obtain ⟨its, n, r, e⟩ := rd_lst I hH
  have hl := r.length
  have hz : xs.length * k.toNat ≤ sizeLine := by
    have a1 : xs.length * k.toNat ≤ 1000 * 1000 := Nat.mul_le_mul hz0 (by omega)
    have a2 : (1000 * 1000 : Nat) ≤ sizeLine := by decide
    omega
  have hlen : its.toArray.size * k.toNat ≤ sizeLine := by rw [List.size_toArray, ← hl]; exact hz
  have hcap : ¬ its.toArray.size * k.toNat > (2 ^ 63 - 1) / 8 := by
    have : (sizeLine : Nat) ≤ (2 ^ 63 - 1) / 8 := by decide
    omega
  have hfit : ¬ (!Builtin.List.listFitsIndex k) = true := by
    rw [fitsIndex_both (by omega) (by omega)]
    exact Bool.false_ne_true
  have hlong : ¬ Builtin.List.listTooLong (its.toArray.size * k.toNat) = true := by
    rw [notLongL hlen]
    exact Bool.false_ne_true
  have hnew : List.foldl (fun x1 x2 => x1 ++ x2) #[] (List.replicate (if its.toArray.isEmpty = true then 0 else k.toNat) its.toArray) = (List.replicate k.toNat its).flatten.toArray := by
    have f0 : ∀ m : Nat, List.foldl (fun x1 x2 => x1 ++ x2) #[] (List.replicate m its.toArray) = (List.replicate m its).flatten.toArray := fun m => by
      have := foldl_rep its m []
      rw [List.nil_append] at this
      exact this
    rw [f0]
    cases its with
    | nil => simp
    | cons a r' => rw [if_neg (by simp)]
  refine wpAny_binaryOp_repeat_ref (T := "list") (U := "int") (by decide) ⟨_, e, rfl⟩ (fun s' => typeIs_int s' k t) noFill_list_mul F.fills_int_mul F.slot_int_rmul repeat_list F.slot_int_index.lookup
    (call_meets F.slot_int_rmul (typeIs_int s k t) F.entry_int_rmul (F.args_int_rmul_2 _ _) (int___rmul___int_list k t l its.toArray n)
      ⟨e, rfl, ⟨_, e, rfl⟩, call_meets F.slot_list_mul ⟨_, e, rfl⟩ F.entry_list_mul (F.args_list_mul_2 _ _) (AutoListH.list___mul___list_int_3 l its.toArray n k t hfit hcap hlong) ⟨e, ?_⟩⟩)
  rw [hnew]
  exact ⟨.ref _, _, I.lnew (t' := s.toks) (r.rep k.toNat) (by rw [PyProof.Rows.lm_len_rep_flat, Nat.mul_comm]; exact hz), rfl, q _ I.fresh⟩
def gMul : PyData → PyData → Option PyData
  | .int i, .int j => if mulOk i j = true then some (.int (i * j)) else none
  | .tuple xs, .int k => if xs ≠ [] ∧ 2 ≤ k ∧ k ≤ 1000 ∧ xs.length ≤ 1000 then some (.tuple (List.replicate k.toNat xs).flatten) else none
  | .list xs, .int k => if 0 ≤ k ∧ k ≤ 1000 ∧ xs.length ≤ 1000 then some (.list (List.replicate k.toNat xs).flatten) else none
  | _, _ => none
theorem opd_mul : OpD X T (binaryOp .Mult) gMul := by
  refine ⟨_, op_mul.or (op_mulW.or (op_repT.or op_repR)), fun G H x y dx dy d Q s tx ty e q => ?_⟩
  unfold gMul at e
  split at e
  · split at e
    · rename_i hm
      cases e; cases tx; cases ty
      rcases mulOk_c hm with c | c
      · exact .inl ⟨_, _, rfl, rfl, c, q _ H G (Grow.refl s) (.int _)⟩
      · exact .inr (.inl ⟨_, _, rfl, rfl, c, q _ H G (Grow.refl s) (.int _)⟩)
    · cases e
  · rename_i xs k
    split at e
    · rename_i hm
      obtain ⟨h0, h1, h2, h3⟩ := hm
      cases e; cases ty
      cases tx with | tup ha ta =>
      rename_i a vs
      refine .inr (.inr (.inl ⟨_, _, vs, rfl, rfl, sqt ((sub_of s).rd ha), fun z => h0 (by subst z; cases ta; rfl), h1, h2, by rw [ta.length]; exact h3, fun p hp => ?_⟩))
      have g := Grow.new (T := T) (io := []) s hp (o := .tup (List.replicate k.toNat vs).flatten) (fun _ z => nomatch z)
      exact q _ _ _ g (.tup (.inl upd_same) ((ta.rep _).mono g.gm))
    · cases e
  · rename_i xs k
    split at e
    · rename_i hm
      obtain ⟨h1, h2, h3⟩ := hm
      cases e; cases ty
      cases tx with | lst ha ta =>
      rename_i a vs
      refine .inr (.inr (.inr ⟨_, _, vs, rfl, rfl, (sub_of s).rd ha, h1, h2, by rw [ta.length]; exact h3, fun p hp => ?_⟩))
      have g := Grow.new (T := T) (io := []) s hp (o := .lst (List.replicate k.toNat vs).flatten) (fun _ z => nomatch z)
      exact q _ _ _ g (.lst (.inl upd_same) ((ta.rep _).mono g.gm))
    · cases e
  · cases e
def divOk (j : Int) : Bool := decide (j ≠ 0 ∧ j.natAbs < 1073741824) || decide (0 < j ∧ j.natAbs.log2 < 9000)
def gDiv : PyData → PyData → Option PyData := g2I (fun _ j => divOk j) fun i j => .int (i.fdiv j)
theorem opd_div : OpD X T (binaryOp .FloorDiv) gDiv := by
  refine ⟨_, op_fdivN.or op_fdivW, fun G H x y dx dy d Q s tx ty e q => ?_⟩
  obtain ⟨i, j, rfl, rfl, hp, rfl⟩ := g2I_inv e
  cases tx; cases ty
  unfold divOk at hp
  simp only [Bool.or_eq_true, decide_eq_true_eq] at hp
  rcases hp with hp | hp
  · exact .inl ⟨i, j, rfl, rfl, hp, q _ H G (Grow.refl s) (.int _)⟩
  · refine .inr ⟨i, j, rfl, rfl, hp, ?_⟩
    show Q (.int (i / j)) H
    rw [← Int.fdiv_eq_ediv_of_nonneg i (Int.le_of_lt hp.1)]
    exact q _ H G (Grow.refl s) (.int _)
def gMod : PyData → PyData → Option PyData := g2I (fun _ j => decide (j ≠ 0)) fun i j => .int (i.fmod j)
theorem opd_mod : OpD X T (binaryOp .Mod) gMod := opd_2I op_modN (fun _ _ h => of_decide_eq_true h) fun _ _ _ _ => .int _
def gPow : PyData → PyData → Option PyData := g2I (fun i j => decide (0 ≤ j ∧ j ≤ 1000 ∧ i.natAbs < 2 ^ 64)) fun i j => .int (i ^ j.toNat)
theorem opd_pow : OpD X T (binaryOp .Pow) gPow := opd_2I op_pow (fun i j h => by
  have z : 0 ≤ j ∧ j ≤ 1000 ∧ i.natAbs < 2 ^ 64 := of_decide_eq_true h
  exact ⟨z.1, by omega, z.2.2⟩) fun _ _ _ _ => .int _
/-! ### comparisons -/
def gEq (a b : PyData) : Option PyData := if SeqAt.shaped a = true ∧ SeqAt.shaped b = true then some (.bool (PyData.eqv a b)) else none
def gNe (a b : PyData) : Option PyData := if SeqAt.shaped a = true ∧ SeqAt.shaped b = true then some (.bool (!PyData.eqv a b)) else none
mutual
theorem flat_lay : ∀ d : PyData, d.canLay0 = true → flat d = true
  | .none, _ => rfl
  | .bool _, _ => rfl
  | .int _, _ => rfl
  | .str _, _ => rfl
  | .list xs, h => by
    rw [flat]
    exact flatAll_lay xs (by simpa [PyData.canLay0] using h)
  | .tuple xs, h => by
    rw [flat]
    exact flatAll_lay xs (by simpa [PyData.canLay0] using h)
  | .dict _, h => by simp [PyData.canLay0] at h
theorem flatAll_lay : ∀ ds : List PyData, PyData.canLayAll0 ds = true → flatAll ds = true
  | [], _ => rfl
  | x :: xs, h => by
    simp only [PyData.canLayAll0, Bool.and_eq_true] at h
    rw [flatAll, flat_lay x h.1, flatAll_lay xs h.2]
    rfl
end
theorem flat_of {d : PyData} (h : SeqAt.shaped d = true) : flat d = true := flat_lay d (SeqAt.canLay_of_shaped h)
theorem Dp.mono' {K : PySem.W.Frag} {G H : Hp} {v : V} {d : PyData} (s : Sub G H) (f : flat d = true) (t : Tr K G v d) : Dp K H v d := (t.mono s).dp f
theorem opd_eq (hu : X.A.units + 64 < cLine) : OpD X T (compareOp .Eq) gEq := by
  refine ⟨_, op_eqD hu, fun G H x y dx dy d Q s tx ty e q => ?_⟩
  unfold gEq at e
  split at e
  · rename_i h
    cases e
    exact ⟨dx, dy, Dp.mono' (sub_of s) (flat_of h.1) tx, Dp.mono' (sub_of s) (flat_of h.2) ty, h.1, h.2, q _ H G (Grow.refl s) (.bl _)⟩
  · cases e
theorem opd_ne (hu : X.A.units + 64 < cLine) : OpD X T (compareOp .NotEq) gNe := by
  refine ⟨_, op_neD hu, fun G H x y dx dy d Q s tx ty e q => ?_⟩
  unfold gNe at e
  split at e
  · rename_i h
    cases e
    exact ⟨dx, dy, Dp.mono' (sub_of s) (flat_of h.1) tx, Dp.mono' (sub_of s) (flat_of h.2) ty, h.1, h.2, q _ H G (Grow.refl s) (.bl _)⟩
  · cases e
/-! ### <, <=, >, >=: ints, and data that are alike -/
def cmpOk (x y : PyData) : Bool := flat x && (flat y && (PySem.W.alike x y && (decide (x.depth ≤ 64) && (match x with | .none => false | _ => true))))
def gCmp (f : Int → Int → Bool) (g : PyData → PyData → Bool) : PyData → PyData → Option PyData := fun x y => match x, y with
  | .int i, .int j => some (.bool (f i j))
  | x, y => if cmpOk x y = true then some (.bool (g x y)) else none
def gLt : PyData → PyData → Option PyData := gCmp (fun i j => decide (i < j)) fun x y => PySem.W.dataLt x y
def gLe : PyData → PyData → Option PyData := gCmp (fun i j => decide (i ≤ j)) fun x y => !PySem.W.dataLt y x
def gGt : PyData → PyData → Option PyData := gCmp (fun i j => decide (j < i)) fun x y => PySem.W.dataLt y x
def gGe : PyData → PyData → Option PyData := gCmp (fun i j => decide (j ≤ i)) fun x y => !PySem.W.dataLt x y
def rCmpD (K : PySem.W.Frag) (g : PyData → PyData → Bool) : R2 := fun x y H Q => ∃ d e, Dp K H x d ∧ Dp K H y e ∧ PySem.W.alike d e = true ∧ d ≠ .none ∧ d.depth ≤ 64 ∧ Q (.bl (g d e)) H
theorem op_ltD (hu : X.A.units + 64 < cLine) : OpR X (compareOp .Lt) (rCmpD X.K fun x y => PySem.W.dataLt x y) := by
  intro pins s σ H x y v u Q I rx ry h
  obtain ⟨d, e, hd, he, ha, hn, hz, q⟩ := h
  obtain ⟨as, r1⟩ := Dp.reads I d x v hd rx
  obtain ⟨bs, r2⟩ := Dp.reads I e y u he ry
  exact PySem.W.lt_data r1 r2 ha hn (by omega) ⟨.bl _, H, I, rfl, q⟩
theorem op_leD (hu : X.A.units + 64 < cLine) : OpR X (compareOp .LtE) (rCmpD X.K fun x y => !PySem.W.dataLt y x) := by
  intro pins s σ H x y v u Q I rx ry h
  obtain ⟨d, e, hd, he, ha, hn, hz, q⟩ := h
  obtain ⟨as, r1⟩ := Dp.reads I d x v hd rx
  obtain ⟨bs, r2⟩ := Dp.reads I e y u he ry
  exact PySem.W.le_data r1 r2 ha hn (by omega) ⟨.bl _, H, I, rfl, q⟩
theorem op_gtD (hu : X.A.units + 64 < cLine) : OpR X (compareOp .Gt) (rCmpD X.K fun x y => PySem.W.dataLt y x) := by
  intro pins s σ H x y v u Q I rx ry h
  obtain ⟨d, e, hd, he, ha, hn, hz, q⟩ := h
  obtain ⟨as, r1⟩ := Dp.reads I d x v hd rx
  obtain ⟨bs, r2⟩ := Dp.reads I e y u he ry
  exact PySem.W.gt_data r1 r2 ha hn (by omega) ⟨.bl _, H, I, rfl, q⟩
theorem op_geD (hu : X.A.units + 64 < cLine) : OpR X (compareOp .GtE) (rCmpD X.K fun x y => !PySem.W.dataLt x y) := by
  intro pins s σ H x y v u Q I rx ry h
  obtain ⟨d, e, hd, he, ha, hn, hz, q⟩ := h
  obtain ⟨as, r1⟩ := Dp.reads I d x v hd rx
  obtain ⟨bs, r2⟩ := Dp.reads I e y u he ry
  exact PySem.W.ge_data r1 r2 ha hn (by omega) ⟨.bl _, H, I, rfl, q⟩
theorem opd_cmp {op : Value → Value → Sem Value} {f : Int → Int → Bool} {g : PyData → PyData → Bool} (h1 : OpR X op (rI0 fun i j => .bl (f i j))) (h2 : OpR X op (rCmpD X.K g)) : OpD X T op (gCmp f g) := by
  refine ⟨_, h1.or h2, fun G H x y dx dy d Q s tx ty e q => ?_⟩
  unfold gCmp at e
  split at e
  · cases e; cases tx; cases ty
    exact .inl ⟨_, _, rfl, rfl, q _ H G (Grow.refl s) (.bl _)⟩
  · split at e
    · rename_i h
      cases e
      unfold cmpOk at h
      simp only [Bool.and_eq_true, decide_eq_true_eq] at h
      obtain ⟨f1, f2, ha, hz, hn⟩ := h
      exact .inr ⟨dx, dy, Dp.mono' (sub_of s) f1 tx, Dp.mono' (sub_of s) f2 ty, ha, (fun z => by subst z; cases hn), hz, q _ H G (Grow.refl s) (.bl _)⟩
    · cases e
theorem opd_lt (hu : X.A.units + 64 < cLine) : OpD X T (compareOp .Lt) gLt := opd_cmp op_lt (op_ltD hu)
theorem opd_le (hu : X.A.units + 64 < cLine) : OpD X T (compareOp .LtE) gLe := opd_cmp op_le (op_leD hu)
theorem opd_gt (hu : X.A.units + 64 < cLine) : OpD X T (compareOp .Gt) gGt := opd_cmp op_gt (op_gtD hu)
theorem opd_ge (hu : X.A.units + 64 < cLine) : OpD X T (compareOp .GtE) gGe := opd_cmp op_ge (op_geD hu)
def isNone : PyData → Bool
  | .none => true
  | _ => false
theorem isNone_tr {K : PySem.W.Frag} {G : Hp} {v : V} {d : PyData} (t : Tr K G v d) : decide (v = .non) = isNone d := by
  cases t <;> simp [isNone]
def gIs (a b : PyData) : Option PyData := match b with
  | .bool y => (match a with | .bool x => some (.bool (decide (x = y))) | _ => none)
  | b => if isNone b = true then some (.bool (isNone a)) else none
def gIsNot (a b : PyData) : Option PyData := match b with
  | .bool y => (match a with | .bool x => some (.bool (!decide (x = y))) | _ => none)
  | b => if isNone b = true then some (.bool (!isNone a)) else none
theorem opd_is : OpD X T (compareOp .Is) gIs := by
  refine ⟨_, op_isN.or op_isBl, fun G H x y dx dy d Q s tx ty e q => ?_⟩
  unfold gIs at e
  split at e
  · split at e
    · cases e; cases tx; cases ty
      exact .inr ⟨_, _, rfl, rfl, q _ H G (Grow.refl s) (.bl _)⟩
    · cases e
  · split at e
    · rename_i h
      cases e
      have e1 := isNone_tr ty
      rw [h] at e1
      exact .inl ⟨of_decide_eq_true e1, by rw [isNone_tr tx]; exact q _ H G (Grow.refl s) (.bl _)⟩
    · cases e
theorem opd_isnot : OpD X T (compareOp .IsNot) gIsNot := by
  refine ⟨_, op_notN.or op_notBl, fun G H x y dx dy d Q s tx ty e q => ?_⟩
  unfold gIsNot at e
  split at e
  · split at e
    · cases e; cases tx; cases ty
      exact .inr ⟨_, _, rfl, rfl, q _ H G (Grow.refl s) (.bl _)⟩
    · cases e
  · split at e
    · rename_i h
      cases e
      have e1 := isNone_tr ty
      rw [h] at e1
      exact .inl ⟨of_decide_eq_true e1, by rw [isNone_tr tx]; exact q _ H G (Grow.refl s) (.bl _)⟩
    · cases e
/-! in -/
def rInT (K : PySem.W.Frag) (neg : Bool) : R2 := fun x y H Q => ∃ d ds, Dp K H x d ∧ (Dp K H y (.list ds) ∨ Dp K H y (.tuple ds)) ∧ SeqAt.shaped d = true ∧ SeqAt.shaped (.list ds) = true ∧ Q (.bl (if neg = true then !ds.any fun z => PyData.eqv z d else ds.any fun z => PyData.eqv z d)) H
theorem op_inT (hu : X.A.units + 65 < cLine) : OpR X (compareOp .In) (rInT X.K false) := by
  intro pins s σ H x y v u Q I rx ry h
  obtain ⟨d, ds, hd, he, sd, se, q⟩ := h
  have c1 := SeqAt.canLay_of_shaped se
  have c2 := SeqAt.canLay_of_shaped sd
  have fin : EP X pins σ Q (.bool (ds.any fun z => PyData.eqv z d)) s := ⟨.bl _, H, I, rfl, q⟩
  obtain ⟨as, r1⟩ := Dp.reads I d x v hd rx
  rcases he with he | he
  · obtain ⟨bs, r2⟩ := Dp.reads I (.list ds) y u he ry
    exact SeqAt.in_list_reads r2 r1 c1 c2 (room_in_shaped sd hu) fin
  · obtain ⟨bs, r2⟩ := Dp.reads I (.tuple ds) y u he ry
    exact SeqAt.in_tuple_reads r2 r1 c1 c2 (room_in_shaped sd hu) fin
theorem op_notInT (hu : X.A.units + 65 < cLine) : OpR X (compareOp .NotIn) (rInT X.K true) := by
  intro pins s σ H x y v u Q I rx ry h
  obtain ⟨d, ds, hd, he, sd, se, q⟩ := h
  have c1 := SeqAt.canLay_of_shaped se
  have c2 := SeqAt.canLay_of_shaped sd
  have fin : EP X pins σ Q (.bool (!ds.any fun z => PyData.eqv z d)) s := ⟨.bl _, H, I, rfl, q⟩
  obtain ⟨as, r1⟩ := Dp.reads I d x v hd rx
  rcases he with he | he
  · obtain ⟨bs, r2⟩ := Dp.reads I (.list ds) y u he ry
    exact SeqAt.notIn_list_reads r2 r1 c1 c2 (room_in_shaped sd hu) fin
  · obtain ⟨bs, r2⟩ := Dp.reads I (.tuple ds) y u he ry
    exact SeqAt.notIn_tuple_reads r2 r1 c1 c2 (room_in_shaped sd hu) fin
def itemsOf : PyData → Option (List PyData)
  | .list ds => some ds
  | .tuple ds => some ds
  | _ => none
def gInB (a b : PyData) : Option Bool := match itemsOf b with
  | some ds => if SeqAt.shaped a = true ∧ SeqAt.shaped (.list ds) = true then some (ds.any fun z => PyData.eqv z a) else none
  | none => none
def gIn (a b : PyData) : Option PyData := (gInB a b).map .bool
def gNotIn (a b : PyData) : Option PyData := (gInB a b).map fun k => .bool (!k)
theorem gInB_inv {K : PySem.W.Frag} {G H : Hp} {x y : V} {a b : PyData} {k : Bool} (s : Sub G H) (tx : Tr K G x a) (ty : Tr K G y b) (e : gInB a b = some k) :
    ∃ ds, Dp K H x a ∧ (Dp K H y (.list ds) ∨ Dp K H y (.tuple ds)) ∧ SeqAt.shaped a = true ∧ SeqAt.shaped (.list ds) = true ∧ k = ds.any fun z => PyData.eqv z a := by
  unfold gInB at e
  split at e
  · rename_i ds hi
    split at e
    · rename_i h
      cases e
      have f2 : flatAll ds = true := by have := flat_of h.2; rw [flat] at this; exact this
      refine ⟨ds, Dp.mono' s (flat_of h.1) tx, ?_, h.1, h.2, rfl⟩
      cases ty <;> simp [itemsOf] at hi
      · subst hi
        exact .inl (Dp.mono' s (flat_of h.2) (.lst (by assumption) (by assumption)))
      · subst hi
        exact .inr (Dp.mono' s (by rw [flat]; exact f2) (.tup (by assumption) (by assumption)))
    · cases e
  · cases e
theorem opd_in (hu : X.A.units + 65 < cLine) : OpD X T (compareOp .In) gIn := by
  refine ⟨_, op_inT hu, fun G H x y dx dy d Q s tx ty e q => ?_⟩
  unfold gIn at e
  cases e1 : gInB dx dy with
  | none => rw [e1] at e; cases e
  | some k =>
    rw [e1] at e; cases e
    obtain ⟨ds, h1, h2, h3, h4, rfl⟩ := gInB_inv (sub_of s) tx ty e1
    exact ⟨dx, ds, h1, h2, h3, h4, q _ H G (Grow.refl s) (.bl _)⟩
theorem opd_notin (hu : X.A.units + 65 < cLine) : OpD X T (compareOp .NotIn) gNotIn := by
  refine ⟨_, op_notInT hu, fun G H x y dx dy d Q s tx ty e q => ?_⟩
  unfold gNotIn at e
  cases e1 : gInB dx dy with
  | none => rw [e1] at e; cases e
  | some k =>
    rw [e1] at e; cases e
    obtain ⟨ds, h1, h2, h3, h4, rfl⟩ := gInB_inv (sub_of s) tx ty e1
    exact ⟨dx, ds, h1, h2, h3, h4, q _ H G (Grow.refl s) (.bl _)⟩
end
/-! ### subscripts -/
section
variable {X : Cx} {B : Ent} {ok : OkX} {a b c e : Expr} {es : List Expr} {fa fb fc f : EF} {fs : AF} {pos : Pos}
def gIx : PyData → PyData → Option PyData
  | .list ds, .int i => atI ds i
  | .tuple ds, .int i => atI ds i
  | _, _ => none
theorem atI_tr {K : PySem.W.Frag} {G : Hp} {vs : List V} {ds : List PyData} {i : Int} {d : PyData} (t : TrAll K G vs ds) (h : atI ds i = some d) : ∃ v, atI vs i = some v ∧ Tr K G v d := by
  unfold atI at h ⊢
  rw [t.length]
  cases e : ixN ds.length i with
  | none => rw [e] at h; cases h
  | some j =>
    rw [e] at h
    exact t.get h
theorem ee_ix (ha : EE X B ok a fa) (hb : EE X B ok b fb) (hs : PlainIx b := by exact fun _ _ => rfl) : EE X B ok (.Subscript a b pos) (fOp gIx fa fb) := by
  obtain ⟨ta, pa, ka⟩ := ha.ex
  obtain ⟨tb, pb, kb⟩ := hb.ex
  refine ⟨_, pe_ix (ix_list.or ix_tup) pa pb hs, fun σ H G ρ Q h q => two_ok ka kb ?_ h q⟩
  intro G H x y dx dy d Q s tx ty e q
  unfold gIx at e
  split at e
  · cases ty
    cases tx with | lst h t =>
    obtain ⟨v, e1, t1⟩ := atI_tr t e
    exact .inl ⟨_, _, _, v, rfl, rfl, .inl ((sub_of s).rd h), e1, q v H G (Grow.refl s) t1⟩
  · cases ty
    cases tx with | tup h t =>
    obtain ⟨v, e1, t1⟩ := atI_tr t e
    exact .inr ⟨_, _, _, v, rfl, rfl, sqt ((sub_of s).rd h), e1, q v H G (Grow.refl s) t1⟩
  · cases e
/-! -x -/
def gNeg : PyData → Option PyData
  | .int i => some (.int (-i))
  | _ => none
def fUn (g : PyData → Option PyData) (fa : EF) : EF := fun ρ => (fa ρ).bind fun x => (ofO (g x.1)).bind fun d => .ok (d, x.2)
theorem fUn_sat {g : PyData → Option PyData} {fa : EF} {ρ : En} {P : PyData × En → Prop} {E : OkX} (h : (fUn g fa ρ).sat P E) : (fa ρ).sat (fun x => ∃ d, g x.1 = some d ∧ P (d, x.2)) E := by
  refine (R.sat_bind (r := fa ρ) (f := fun x => (ofO (g x.1)).bind fun d => R.ok (d, x.2)) h).imp fun x q => ?_
  exact ofO_sat (R.sat_bind (r := ofO (g x.1)) (f := fun d => R.ok (d, x.2)) q)
theorem ee_neg (ha : EE X B ok a fa) : EE X B ok (.UnaryOp .USub a pos) (fUn gNeg fa) := by
  obtain ⟨t, p, k⟩ := ha.ex
  refine ⟨_, pe_un un_neg p, fun σ H G ρ Q r q => k σ H G ρ _ r ((fUn_sat q).imp fun ⟨z, ρ1⟩ ⟨d, e, qd⟩ v H1 G1 s1 r1 t1 => ?_)⟩
  cases t1 with
  | int i => cases e; exact ⟨i, rfl, qd _ H1 G1 s1 r1 (.int _)⟩
  | _ => simp [gNeg] at e
end
end Y


/-! YUnp: a, b, .. = a list. -/
namespace Y
open PySem PySem.Spec PyProof.Rows L2
section
variable {prog : Program} {w : World} {A : Around} {E : Value → Shared → Prop} {s : Shared}
theorem draw_lst {it l : Addr} {items : Array Value} (hne : l ≠ it) : ∀ (n i : Nat) (s : Shared) (Q : List Value → Shared → Prop), s.heap.IsListIter it l i → s.heap.IsList l items → i + n ≤ items.size →
    (∀ h', h'.IsListIter it l (i + n) → Heap.SameBut it s.heap h' → Q ((items.toList.drop i).take n) { s with heap := h' }) → wpAny (model prog w) A (draw (.ref it) n) Q E s
  | 0, i, s, Q, hit, _, _, hQ => by
    show wpAny _ _ (pure []) Q E s
    exact wpAny_pure (by simpa using hQ s.heap hit (Heap.SameBut.refl ..))
  | n + 1, i, s, Q, hit, ht, hle, hQ => by
    have hlt : i < items.size := by omega
    show wpAny _ _ (pyNext (.ref it) >>= _) Q E s
    refine wpAny_bind (wpAny_pyNext_list_item hit ht (x := items[i]) (by simp [hlt]) fun h₁ hit₁ hs₁ => ?_)
    refine wpAny_bind (wpAny_holding (draw_lst hne n (i + 1) _ _ hit₁ (ht.extBut hs₁.extBut hne) (by omega) fun h₂ hit₂ hs₂ => wpAny_pure ?_))
    have hd : items.toList.drop i = items[i] :: items.toList.drop (i + 1) := by simp [List.drop_eq_getElem_cons, hlt]
    have := hQ h₂ (by rw [show i + (n + 1) = i + 1 + n by omega]; exact hit₂) (hs₁.trans hs₂)
    rw [hd, List.take_succ_cons] at this
    exact this
theorem unpackItems_lst {l : Addr} {items : Array Value} {Q : List Value → Shared → Prop} (hh : A.handled = none) (ht : s.heap.IsList l items)
    (hQ : ∀ h', Heap.ExtBut s.heap.objs.size s.heap h' → Q items.toList { s with heap := h' }) : wpAny (model prog w) A (unpackItems (.ref l) items.size none) Q E s := by
  have hlt : l ≠ s.heap.objs.size := by obtain ⟨o, ho, _⟩ := ht; exact Nat.ne_of_lt (Heap.lt_size ho)
  unfold unpackItems
  refine wpAny_bind ?_
  · unfold notIterableAtAll
    refine wpAny_bind (wpAny_specialOf ht.typeIs slot_list_iter.lookup ?_)
    refine wpAny_pure ?_
    simp only [Bool.false_eq_true, if_false]
    refine wpAny_bind (wpAny_holding (wpAny_pyIter_list ht ?_))
    refine wpAny_bind (wpAny_holding (draw_lst hlt items.size 0 _ _ ⟨_, Heap.get?_push_size _ rfl, rfl, rfl⟩ (ht.push _) (by omega) fun h₁ hit₁ hs₁ => ?_))
    have hall : List.take items.size (List.drop 0 items.toList) = items.toList := by
      rw [List.drop_zero]; exact List.take_of_length_le (by simp)
    rw [hall]
    rw [if_neg (by simp)]
    have ht₁ : h₁.IsList l items := (ht.push _).extBut hs₁.extBut hlt
    refine wpAny_bind (wpAny_holding (wpAny_pyNext_list_end hh hit₁ ht₁ (by simp) fun h₂ he₂ => ?_))
    simp only [Option.isSome_none, Bool.false_eq_true, if_false]
    refine wpAny_pure (hQ h₂ fun b o hb e => he₂ b o hb (hs₁.extBut b o hb (Heap.get?_push_of_some _ e)))
theorem assign_Tuple_lst {env : Env} {elts : List Expr} {x1} {pos : Pos} {l : Addr} {items : Array Value} {Q : Unit → Shared → Prop} (hh : A.handled = none) (ht : s.heap.IsList l items)
    (hn : (assignEach elts env).length = items.size) (hstar : (assignEach elts env).findIdx? (·.1) = none)
    (h : ∀ h', Heap.ExtBut s.heap.objs.size s.heap h' → wpAny (model prog w) A (assignInOrder ((assignEach elts env).map (·.2)) items.toList) Q E { s with heap := h' }) :
    wpAny (model prog w) A (assign (.Tuple elts x1 pos) env (.ref l)) Q E s := by
  rw [assign_Tuple]
  refine wpAny_bind (wpAny_standAt ?_)
  unfold unpack
  rw [hn, hstar]
  exact wpAny_bind (wpAny_holding (unpackItems_lst hh ht h))
end
/-- (a, b, ..) = a list of that length -/
def gLs (K : PySem.W.Frag) (n : Nat) (t : TGs) : TG := fun v σ H Q => ∃ a xs, v = .ref a ∧ SqL K H a xs ∧ xs.length = n ∧ t xs σ H Q
theorem pg_lst {X : Cx} {pos : Pos} {es : List Expr} {k : Nat} {t : TGs} {n : Nat} (hc : X.calm = true) (h : PGs X es t)
    (hn : (assignEach es X.env).length = n := by rfl) (hst : (assignEach es X.env).findIdx? (·.1) = none := by rfl) : PG X (.Tuple es k pos) (gLs X.K n t) := by
  refine ⟨fun pins s σ H v u Q I r hw => ?_⟩
  obtain ⟨a, xs, e1, hq, hl, hw⟩ := hw
  subst e1
  cases r
  obtain ⟨its, rv, pl, hz⟩ := I.list hq
  refine assign_Tuple_lst (I.ok.hd hc) pl.isList (by simp [hn, ← hl, rv.length]) hst fun h' hx => ?_
  have I1 : Inv X pins σ H { s with heap := h' } := I.kept (t' := s.toks) fun b o e => hx b o (Nat.ne_of_lt (Heap.lt_size e)) e
  exact h.run pins _ σ H xs _ Q I1 (by simpa using rv) hw
theorem pg_or {X : Cx} {e : Expr} {g g' : TG} (h : PG X e g) (h' : PG X e g') : PG X e (fun v σ H Q => g v σ H Q ∨ g' v σ H Q) := by
  refine ⟨fun pins s σ H v u Q I r hw => ?_⟩
  rcases hw with hw | hw
  · exact h.run pins s σ H v u Q I r hw
  · exact h'.run pins s σ H v u Q I r hw
end Y


/-! YStmt: statements by data. -/
namespace Y
open PySem PySem.Spec PyProof.Rows L2
inductive Out where
  | nx (ρ : En)
  | rt (d : PyData) (ρ : En)
  | rn (d : PyData) (ρ : En)
  | bk (ρ : En)
  | ct (ρ : En)
  | er (c : Str) (d : PyData)
  | no
abbrev SF := En → Out
def ofR {α : Type} (r : R α) (k : α → Out) : Out := match r with
  | .ok a => k a
  | .er c d => .er c d
  | .no => .no
/-- what is to hold of an outcome -/
def Out.sat (o : Out) (K : PySem.W.Frag) (B : Ent) (ok : OkX) (G : Hp) (D : Ends) : Prop := match o with
  | .nx ρ => ∀ σ H' G', Sub G G' → Rel K B G' H' σ ρ → D.nx σ H'
  | .rt d ρ => ∀ v σ H' G', Sub G G' → Rel K B G' H' σ ρ → Tr K G' v d → D.rt v H'
  | .rn d ρ => ∀ p σ H' G', Sub G G' → Rel K B G' H' σ ρ → Fresh K B G' H' σ ρ p d → D.rt (.ref p) H'
  | .bk ρ => ∀ σ H' G', Sub G G' → Rel K B G' H' σ ρ → D.bk σ H'
  | .ct ρ => ∀ σ H' G', Sub G G' → Rel K B G' H' σ ρ → D.ct σ H'
  | .er c d => ok c d
  | .no => False
theorem Out.sat.sub {o : Out} {K : PySem.W.Frag} {B : Ent} {ok : OkX} {G G1 : Hp} {D : Ends} (h : o.sat K B ok G D) (s : Sub G G1) : o.sat K B ok G1 D := by
  cases o with
  | nx ρ => exact fun σ H' G' s' r => h σ H' G' (s.trans s') r
  | rt d ρ => exact fun v σ H' G' s' r => h v σ H' G' (s.trans s') r
  | rn d ρ => exact fun v σ H' G' s' r => h v σ H' G' (s.trans s') r
  | bk ρ => exact fun σ H' G' s' r => h σ H' G' (s.trans s') r
  | ct ρ => exact fun σ H' G' s' r => h σ H' G' (s.trans s') r
  | er c d => exact h
  | no => exact h
theorem ofR_sat {α : Type} {r : R α} {k : α → Out} {K : PySem.W.Frag} {B : Ent} {ok : OkX} {G : Hp} {D : Ends} (h : (ofR r k).sat K B ok G D) : r.sat (fun a => (k a).sat K B ok G D) ok := by
  cases r with
  | ok a => exact h
  | er c d => exact h
  | no => exact h
structure SS (X : Cx) (B : Ent) (ok : OkX) (st : Stmt) (f : SF) : Prop where
  ex : ∃ t : TS, PS X st t ∧ ∀ (σ : St) (H G : Hp) (ρ : En) (D : Ends), Rel X.K B G H σ ρ → (f ρ).sat X.K B ok G D → t D σ H
structure SB (X : Cx) (B : Ent) (ok : OkX) (st : List Stmt) (f : SF) : Prop where
  ex : ∃ t : TS, PSs X st t ∧ ∀ (σ : St) (H G : Hp) (ρ : En) (D : Ends), Rel X.K B G H σ ρ → (f ρ).sat X.K B ok G D → t D σ H
/-- all slots but these are as they were -/
structure Mv (sl : List Nat) (σ : St) (ρ : En) (σ' : St) (ρ' : En) : Prop where
  len : σ'.length = σ.length
  same : ∀ i : Nat, i ∉ sl → σ'[i]? = σ[i]?
  free : ∀ p, Free σ ρ p → Free σ' ρ' p
theorem Free.setSh {σ : St} {ρ : En} {p : Addr} {i : Nat} {v : Option V} {d : PyData} (f : Free σ ρ p) : Free (σ.set i v) (ρ.set i (.sh d)) p := fun j s h e => by
  by_cases hj : i = j
  · subst hj
    by_cases hl : i < ρ.length
    · rw [List.getElem?_set_self hl] at h; cases h; exact e
    · rw [List.getElem?_eq_none (by rw [List.length_set]; omega)] at h; cases h
  · rw [List.getElem?_set_ne hj] at h e
    exact f j s h e
/-- a target of an assignment -/
structure TT' (X : Cx) (B : Ent) (tg : Expr) (sl : List Nat) (g : PyData → En → Option En) : Prop where
  ex : ∃ t : TG, PG X tg t ∧ ∀ (σ : St) (H G : Hp) (ρ ρ' : En) (v : V) (d : PyData) (Q : St → Hp → Prop), Rel X.K B G H σ ρ → Tr X.K G v d → g d ρ = some ρ' → (∀ σ', Rel X.K B G H σ' ρ' → Mv sl σ ρ σ' ρ' → Q σ' H) → t v σ H Q
structure TTs (X : Cx) (B : Ent) (tgs : List Expr) (sl : List Nat) (g : List PyData → En → Option En) : Prop where
  ex : ∃ t : TGs, PGs X tgs t ∧ ∀ (σ : St) (H G : Hp) (ρ ρ' : En) (vs : List V) (ds : List PyData) (Q : St → Hp → Prop), Rel X.K B G H σ ρ → TrAll X.K G vs ds → g ds ρ = some ρ' → (∀ σ', Rel X.K B G H σ' ρ' → Mv sl σ ρ σ' ρ' → Q σ' H) → t vs σ H Q
section
variable {X : Cx} {B : Ent} {ok : OkX} {a b c e : Expr} {es : List Expr} {fa fb fc f : EF} {fs : AF} {ft : TF} {pos : Pos} {st : Stmt} {sts : List Stmt} {g h : SF}
/-! ### blocks -/
def sSeq (g h : SF) : SF := fun ρ => match g ρ with
  | .nx ρ' => h ρ'
  | o => o
def sNil : SF := fun ρ => .nx ρ
theorem sb_nil : SB X B ok [] sNil := ⟨_, pss_nil, fun σ H G ρ D r q => q σ H G (Sub.refl G) r⟩
theorem sSeq_ok {t u : TS} (k1 : ∀ (σ : St) (H G : Hp) (ρ : En) (D : Ends), Rel X.K B G H σ ρ → (g ρ).sat X.K B ok G D → t D σ H)
    (k2 : ∀ (σ : St) (H G : Hp) (ρ : En) (D : Ends), Rel X.K B G H σ ρ → (h ρ).sat X.K B ok G D → u D σ H) {σ : St} {H G : Hp} {ρ : En} {D : Ends} (r : Rel X.K B G H σ ρ) (q : (sSeq g h ρ).sat X.K B ok G D) : tSeq t u D σ H := by
  refine k1 σ H G ρ _ r ?_
  unfold sSeq at q
  split at q
  · rename_i ρ' e
    rw [e]
    exact fun σ' H' G' s r' => k2 σ' H' G' ρ' D r' (q.sub s)
  · rename_i hn
    cases e : g ρ with
    | nx ρ' => exact absurd e (hn ρ')
    | _ => rw [e] at q; exact q
theorem sb_cons (h1 : SS X B ok st g) (h2 : SB X B ok sts h) : SB X B ok (st :: sts) (sSeq g h) := by
  obtain ⟨t, p, k⟩ := h1.ex
  obtain ⟨u, p2, k2⟩ := h2.ex
  exact ⟨_, pss_cons p p2, fun σ H G ρ D r q => sSeq_ok k k2 r q⟩
theorem sb_one (h1 : SS X B ok st g) : SB X B ok [st] g := by
  obtain ⟨t, p, k⟩ := h1.ex
  exact ⟨_, pss_one p, k⟩
def sNo : SF := fun _ => .no
theorem ss_never : SS X B ok st sNo := ⟨_, ps_never, fun _ _ _ _ _ _ q => q⟩
theorem sb_never : SB X B ok sts sNo := ⟨_, pss_never, fun _ _ _ _ _ _ q => q⟩
/-! ### simple statements -/
def sRet (f : EF) : SF := fun ρ => ofR (f ρ) fun x => .rt x.1 x.2
theorem ss_ret (h : EE X B ok e f) : SS X B ok (.Return (some e) pos) (sRet f) := by
  obtain ⟨t, p, k⟩ := h.ex
  exact ⟨_, ps_ret p, fun σ H G ρ D r q => k σ H G ρ _ r ((ofR_sat q).imp fun x qx v H1 G1 s1 r1 t1 => qx v σ H1 G1 s1.sub r1 t1)⟩
def sRetN (f : EF) : SF := fun ρ => ofR (f ρ) fun x => .rn x.1 x.2
theorem ss_retN (h : EN X B ok e f) : SS X B ok (.Return (some e) pos) (sRetN f) := by
  obtain ⟨t, p, k⟩ := h.ex
  exact ⟨_, ps_ret p, fun σ H G ρ D r q => k σ H G ρ _ r ((ofR_sat q).imp fun x qx v H1 G1 hp s1 r1 x1 => qx v σ H1 G1 s1.sub r1 x1)⟩
def sRet0 : SF := fun ρ => .rt .none ρ
theorem ss_ret0 : SS X B ok (.Return none pos) sRet0 := ⟨_, ps_retN, fun σ H G ρ D r q => q .non σ H G (Sub.refl G) r .non⟩
theorem ss_pass : SS X B ok (.Pass pos) sNil := ⟨_, ps_pass, fun σ H G ρ D r q => q σ H G (Sub.refl G) r⟩
def sBrk : SF := fun ρ => .bk ρ
def sCt : SF := fun ρ => .ct ρ
theorem ss_break : SS X B ok (.Break pos) sBrk := ⟨_, ps_break, fun σ H G ρ D r q => q σ H G (Sub.refl G) r⟩
theorem ss_cont : SS X B ok (.Continue pos) sCt := ⟨_, ps_continue, fun σ H G ρ D r q => q σ H G (Sub.refl G) r⟩
def sExpr (f : EF) : SF := fun ρ => ofR (f ρ) fun x => .nx x.2
theorem ss_expr (h : EE X B ok e f) (hs : swapsWith e none pos.line X.env = pure false := by rfl) : SS X B ok (.Expr e pos) (sExpr f) := by
  obtain ⟨t, p, k⟩ := h.ex
  exact ⟨_, ps_expr p hs, fun σ H G ρ D r q => k σ H G ρ _ r ((ofR_sat q).imp fun x qx v H1 G1 s1 r1 t1 => qx σ H1 G1 s1.sub r1)⟩
def sIf (t : TF) (g h : SF) : SF := fun ρ => ofR (t ρ) fun x => if x.1 = true then g x.2 else h x.2
theorem ss_if {p q : List Stmt} (hc : ET X B ok c ft) (ha : SB X B ok p g) (hb : SB X B ok q h) : SS X B ok (.If c p q pos) (sIf ft g h) := by
  obtain ⟨t, p1, k1⟩ := hc.ex
  obtain ⟨u, p2, k2⟩ := ha.ex
  obtain ⟨w, p3, k3⟩ := hb.ex
  refine ⟨_, ps_if p1 p2 p3, fun σ H G ρ D r q => k1 σ H G ρ _ r ((ofR_sat q).imp fun x qx H1 G1 s1 r1 => ?_)⟩
  by_cases hx : x.1 = true
  · rw [if_pos hx] at qx ⊢
    exact k2 σ H1 G1 x.2 D r1 (qx.sub s1.sub)
  · rw [if_neg hx] at qx ⊢
    exact k3 σ H1 G1 x.2 D r1 (qx.sub s1.sub)
/-- a slot of one's own is frozen from here on -/
def fz (i : Nat) (ρ : En) : En := match ρ[i]? with
  | some (.ow d) => ρ.set i (.sh d)
  | _ => ρ
theorem Rel.fz {K : PySem.W.Frag} {G H : Hp} {σ : St} {ρ : En} {i : Nat} (r : Rel K B G H σ ρ) : ∃ G', Sub G G' ∧ Rel K B G' H σ (fz i ρ) := by
  unfold Y.fz
  split
  · rename_i d e
    obtain ⟨a, e1, n, z, w⟩ := r.at_ i _ e
    have r1 : Rel K B G H σ (ρ.set i .un) := r.forget
    have hi : i < ρ.length := (List.getElem?_eq_some_iff.mp e).1
    have x : Fresh K B G H σ (ρ.set i .un) a d := ⟨n, z, w, fun j s hj ej => by
      by_cases hji : i = j
      · subst hji
        rw [List.getElem?_set_self hi] at hj
        cases hj
        exact ej
      · rw [List.getElem?_set_ne hji] at hj
        exact r.sep i j _ s a hji e hj e1 ej⟩
    obtain ⟨G', s', _, r', t'⟩ := r1.frz x
    refine ⟨G', s', ?_⟩
    have r2 := r'.setSh (i := i) t'
    rw [List.set_set] at r2
    have es : σ.set i (some (.ref a)) = σ := by
      apply List.ext_getElem?
      intro j
      by_cases hji : i = j
      · subst hji
        rw [List.getElem?_set_self (by rw [r.len]; exact hi), e1]
      · rw [List.getElem?_set_ne hji]
    rw [es] at r2
    exact r2
  · exact ⟨G, Sub.refl G, r⟩
theorem ss_fz {i : Nat} (h : SS X B ok st g) : SS X B ok st (fun ρ => g (fz i ρ)) := by
  obtain ⟨t, p, k⟩ := h.ex
  refine ⟨t, p, fun σ H G ρ D r q => ?_⟩
  obtain ⟨G', s', r'⟩ := r.fz (i := i)
  exact k σ H G' _ D r' (q.sub s')
/-! ### targets, assignments -/
def tNm (i : Nat) : PyData → En → Option En := fun d ρ => some (ρ.set i (.sh d))
theorem tt_nm (i : Nat) {x : Str} (hN : X.N.Nodup) (hi : X.N[i]? = some x := by rfl) (hx : Loc X.env.scope x := by first | exact Or.inl rfl | exact Or.inr rfl) (hf : X.fn x = true ∨ X.env.scope.names.lookup x = some .local := by first | exact .inl rfl | exact .inr rfl) : TT' X B (.Name x pos) [i] (tNm i) := by
  refine ⟨_, pg_name hN hi hx hf, fun σ H G ρ ρ' v d Q r t e q => ?_⟩
  cases e
  exact q _ (r.setSh t) ⟨by simp, fun j hj => List.getElem?_set_ne (fun z => hj (by simp [z])), fun p f => f.setSh⟩
def tsNil : List PyData → En → Option En := fun ds ρ => match ds with
  | [] => some ρ
  | _ => none
def tsCons (g : PyData → En → Option En) (gs : List PyData → En → Option En) : List PyData → En → Option En := fun ds ρ => match ds with
  | d :: ds => (g d ρ).bind fun ρ1 => gs ds ρ1
  | [] => none
theorem tts_nil : TTs X B [] [] tsNil := by
  refine ⟨_, pgs_nil, fun σ H G ρ ρ' vs ds Q r t e q => ?_⟩
  unfold tsNil at e
  split at e
  · cases e; cases t
    exact ⟨rfl, q σ r ⟨rfl, fun _ _ => rfl, fun _ f => f⟩⟩
  · cases e
theorem tts_cons {tg : Expr} {tgs : List Expr} {g : PyData → En → Option En} {gs : List PyData → En → Option En} {s1 s2 : List Nat} (h1 : TT' X B tg s1 g) (h2 : TTs X B tgs s2 gs)
    (hs : (assignEach (tg :: tgs) X.env).map (·.2) = assign tg X.env :: (assignEach tgs X.env).map (·.2) := by rfl) : TTs X B (tg :: tgs) (s1 ++ s2) (tsCons g gs) := by
  obtain ⟨t, p, k⟩ := h1.ex
  obtain ⟨u, p2, k2⟩ := h2.ex
  refine ⟨_, pgs_cons p p2 hs, fun σ H G ρ ρ' vs ds Q r tr e q => ?_⟩
  unfold tsCons at e
  split at e
  · rename_i d ds
    cases tr with | cons tv tvs =>
    cases e1 : g d ρ with
    | none => rw [e1] at e; cases e
    | some ρ1 =>
      rw [e1] at e
      exact ⟨_, _, rfl, k σ H G ρ ρ1 _ d _ r tv e1 fun σ1 r1 m1 => k2 σ1 H G ρ1 ρ' _ ds Q r1 tvs e fun σ2 r2 m2 => q σ2 r2 ⟨m2.len.trans m1.len, fun j hj => (m2.same j (fun z => hj (List.mem_append_right _ z))).trans (m1.same j fun z => hj (List.mem_append_left _ z)), fun p f => m2.free p (m1.free p f)⟩⟩
  · cases e
def tTp (n : Nat) (gs : List PyData → En → Option En) : PyData → En → Option En := fun d ρ => match d with
  | .tuple ds => if ds.length = n then gs ds ρ else none
  | .list ds => if ds.length = n then gs ds ρ else none
  | _ => none
theorem tt_tup {tgs : List Expr} {k n : Nat} {gs : List PyData → En → Option En} {sl : List Nat} (hc : X.calm = true) (h : TTs X B tgs sl gs) (hn : (assignEach tgs X.env).length = n := by rfl)
    (hst : (assignEach tgs X.env).findIdx? (·.1) = none := by rfl) : TT' X B (.Tuple tgs k pos) sl (tTp n gs) := by
  obtain ⟨t, p, kk⟩ := h.ex
  refine ⟨_, pg_or (pg_tup hc p hn hst) (pg_lst hc p hn hst), fun σ H G ρ ρ' v d Q r tr e q => ?_⟩
  unfold tTp at e
  split at e
  · rename_i ds
    split at e
    · rename_i hl
      cases tr with | tup ht ta =>
      exact .inl ⟨_, _, rfl, sqt (r.subG.rd ht), by rw [ta.length]; exact hl, kk σ H G ρ ρ' _ ds Q r ta e q⟩
    · cases e
  · rename_i ds
    split at e
    · rename_i hl
      cases tr with | lst ht ta =>
      exact .inr ⟨_, _, rfl, .inl (r.subG.rd ht), by rw [ta.length]; exact hl, kk σ H G ρ ρ' _ ds Q r ta e q⟩
    · cases e
  · cases e
def sAsg (f : EF) (g : PyData → En → Option En) : SF := fun ρ => ofR (f ρ) fun x => match g x.1 x.2 with
  | some ρ' => .nx ρ'
  | none => .no
theorem asg_sat {K : PySem.W.Frag} {G : Hp} {D : Ends} {o : Option En} (h : (match o with | some ρ' => Out.nx ρ' | none => Out.no).sat K B ok G D) : ∃ ρ', o = some ρ' ∧ (Out.nx ρ').sat K B ok G D := by
  cases o with
  | some ρ' => exact ⟨ρ', rfl, h⟩
  | none => exact h.elim
theorem ss_asg {tg : Expr} {g : PyData → En → Option En} {sl : List Nat} (he : EE X B ok e f) (hg : TT' X B tg sl g) (hs : swapsWithSole [tg] e pos.line X.env = pure false := by rfl) (hw : swappedStores [tg] e X.env = pure none := by rfl)
    (h1 : (assignEach [tg] X.env).map (·.2) = [assign tg X.env] := by rfl) : SS X B ok (.Assign [tg] e pos) (sAsg f g) := by
  obtain ⟨t, p, k⟩ := he.ex
  obtain ⟨u, p2, k2⟩ := hg.ex
  refine ⟨_, ps_asg p p2 hs hw h1, fun σ H G ρ D r q => k σ H G ρ _ r ((ofR_sat q).imp fun x qx v H1 G1 s1 r1 t1 => ?_)⟩
  obtain ⟨ρ', e1, qn⟩ := asg_sat qx
  exact k2 σ H1 G1 x.2 ρ' v x.1 _ r1 t1 e1 fun σ' r' _ => qn σ' H1 G1 s1.sub r'
/-- a name gets a new object of its own -/
def sOwn (f : EF) (i : Nat) : SF := fun ρ => ofR (f ρ) fun x => .nx (x.2.set i (.ow x.1))
theorem ss_own (i : Nat) {x : Str} {p2 : Pos} (he : EN X B ok e f) (hN : X.N.Nodup) (hi : X.N[i]? = some x := by rfl) (hx : Loc X.env.scope x := by first | exact Or.inl rfl | exact Or.inr rfl)
    (hf : X.fn x = true ∨ X.env.scope.names.lookup x = some .local := by first | exact .inl rfl | exact .inr rfl)
    (hs : swapsWithSole [.Name x p2] e pos.line X.env = pure false := by rfl) (hw : swappedStores [.Name x p2] e X.env = pure none := by rfl)
    (h1 : (assignEach [.Name x p2] X.env).map (·.2) = [assign (.Name x p2) X.env] := by rfl) : SS X B ok (.Assign [.Name x p2] e pos) (sOwn f i) := by
  obtain ⟨t, p, k⟩ := he.ex
  refine ⟨_, ps_asg p (pg_name hN hi hx hf) hs hw h1, fun σ H G ρ D r q => k σ H G ρ _ r ((ofR_sat q).imp fun x qx v H1 G1 hp s1 r1 x1 => ?_)⟩
  exact qx _ H1 G1 s1.sub (r1.setOw x1.g x1.b x1.own x1.ap)
end
end Y


/-! YCall: what a def promises by data; calls. -/
namespace Y
open PySem PySem.Spec PyProof.Rows L2
/-- the classes of the errors -/
abbrev Clss := Str → Option Addr
/-- an error of the class c with the field d is wished for -/
def ErrOk (K : PySem.W.Frag) (T : YT) (cls : Clss) (io : List Addr) (G H : Hp) (E : XK) (c : Str) (d : PyData) : Prop :=
  ∀ C, cls c = some C → ∀ (v : V) (dx : Addr) (H' G' : Hp), Grow T io G H G' H' → Tr K G' v d → H dx = none → H' dx = some (.xd [(fld c, v)]) → E (.ref C) (some dx) H'
theorem ErrOk.later {K : PySem.W.Frag} {T : YT} {cls : Clss} {io : List Addr} {G H G1 H1 : Hp} {E : XK} {c : Str} {d : PyData} (h : ErrOk K T cls io G H E c d) (g : Grow T io G H G1 H1) : ErrOk K T cls io G1 H1 E c d :=
  fun C hC v dx H' G' g' t hn hd => h C hC v dx H' G' (g.trans g') t (by
    cases e : H dx with
    | none => rfl
    | some u => exact absurd hn (g.hs dx (by rw [e]; simp))) hd
theorem ErrOk.io {K : PySem.W.Frag} {T : YT} {cls : Clss} {io : List Addr} {G H : Hp} {E : XK} {c : Str} {d : PyData} (h : ErrOk K T cls io G H E c d) : ErrOk K T cls [] G H E c d :=
  fun C hC v dx H' G' g' t hn hd => h C hC v dx H' G' (g'.weak (by simp)) t hn hd
/-- the data promise of a def: arguments frozen, the answer frozen -/
def spF (K : PySem.W.Frag) (T : YT) (cls : Clss) (n : Nat) (F : List PyData → R PyData) : Sp := fun vs H Q E => ∃ (G : Hp) (ds : List PyData),
  (∀ b o, G b = some o → H b = some o ∧ ∀ ps, o ≠ .tbl ps) ∧ TrAll K G vs ds ∧ ds.length = n ∧ Base K T G H ∧
  (F ds).sat (fun d => ∀ v H' G', Grow T [] G H G' H' → Tr K G' v d → Q v H') (fun c d => ErrOk K T cls [] G H E c d)
/-- .. the answer a new object -/
def spN (K : PySem.W.Frag) (T : YT) (cls : Clss) (n : Nat) (F : List PyData → R PyData) : Sp := fun vs H Q E => ∃ (G : Hp) (ds : List PyData),
  (∀ b o, G b = some o → H b = some o ∧ ∀ ps, o ≠ .tbl ps) ∧ TrAll K G vs ds ∧ ds.length = n ∧ Base K T G H ∧
  (F ds).sat (fun d => ∀ p H' G', H p = none → Grow T [] G H G' H' → G' p = none → Own K G' H' p d → Q (.ref p) H') (fun c d => ErrOk K T cls [] G H E c d)
/-- .. the first argument an object that may be changed -/
def spS (K : PySem.W.Frag) (T : YT) (cls : Clss) (n : Nat) (F : PyData → List PyData → R (PyData × PyData)) : Sp := fun vs H Q E => ∃ (G : Hp) (ds : List PyData) (a : Addr) (d0 : PyData) (ws : List V),
  (∀ b o, G b = some o → H b = some o ∧ ∀ ps, o ≠ .tbl ps) ∧ vs = .ref a :: ws ∧ G a = none ∧ Own K G H a d0 ∧ TrAll K G ws ds ∧ ds.length = n ∧ Base K T G H ∧
  (F d0 ds).sat (fun r => ∀ v H' G', Grow T [a] G H G' H' → G' a = none → Own K G' H' a r.2 → Tr K G' v r.1 → Q v H') (fun c d => ErrOk K T cls [a] G H E c d)
/-- how an expression's exceptions leave -/
structure CtxE (cls : Clss) (X : Cx) (B : Ent) (ok : OkX) : Prop where
  calm : X.calm = true
  tabs : Base X.K B.T B.G B.H
  gd : X.A.guards = some []
  exc : ∃ E : XK, Takes X (fun c d _ H => E c d H) ∧ ∀ c d, ok c d → ErrOk X.K B.T cls B.io B.G B.H E c d
/-- .. and a body's -/
structure CtxOk (cls : Clss) (X : Cx) (B : Ent) (ok : OkX) : Prop extends CtxE cls X B ok where
  own : PassesOwn (model X.prog X.w) X.A X.env X.xe
/-- what a def keeps where nothing is being shown (a repr's own guard is free) -/
structure FnG (P : Program) (w : World) (K : PySem.W.Frag) (mg : Str → Option Value) (base : Heap) (k : Nat) (f : Addr) (fd : FuncData) (ps : List Str) (sp : Sp) : Prop where
  len : ∀ vs H Q E, sp vs H Q E → vs.length = ps.length
  run : ∀ (A : Around) (outer : List Env) (s : Shared) (H : Hp) (args : Args) (us : List Value) (vs : List V) (Q : VK) (E : XK), Room k A → A.guards = some [] → Env0 P w K mg base A outer s H →
    BindsTo s fd args (ps.zip us) → Vals vs us → sp vs H Q E → codeAny (model P w) A (.call (.ref f) args) (CR (L2.CX P w) outer P w H s Q E) s
theorem FnG.of {P : Program} {w : World} {K : PySem.W.Frag} {mg : Str → Option Value} {base : Heap} {k : Nat} {f : Addr} {fd : FuncData} {ps : List Str} {sp : Sp} (F : FnOk P w K mg base (L2.CX P w) k f fd ps sp) : FnG P w K mg base k f fd ps sp :=
  ⟨F.len, fun A outer s H args us vs Q E hr _ => F.run A outer s H args us vs Q E hr⟩
section
variable {X : Cx} {k : Nat} {f : Addr} {fd : FuncData} {ps : List Str} {sp : Sp} {E : XK} {x : Str} {p pos : Pos} {e : Expr} {es : List Expr} {t : TA}
theorem runG {pins : List (Addr × Obj)} {σ : St} {H : Hp} {s : Shared} {Q : VK} {us : List Value} {vs : List V} (F : FnG X.prog X.w X.K X.mg X.base k f fd ps sp) (hr : Room k X.A) (hG : X.A.guards = some []) (hb : Binds X.K fd ps []) (hx : Passes (L2.CX X.prog X.w) X E)
    (I : Inv X pins σ H s) (r : Vals vs us) (h : sp vs H Q E) : wpAny (model X.prog X.w) X.A (call (.ref f) us) (EP X pins σ Q) X.xe s := by
  have hl : (us ++ []).length = ps.length := by
    rw [List.append_nil, ← r.length]
    exact F.len _ _ _ _ h
  have b := hb s us I.kIn hl
  rw [List.append_nil] at b
  have z := F.run X.A X.stack s H ⟨us, []⟩ us vs Q E hr hG I.env0 b r h
  refine wpAny_call (codeAny_mono z fun o s' q => ?_)
  match o, q with
  | .error e, q => exact hx pins σ H s e s' I q
  | .ok (.ret u), q => exact I.after q
def tCl (sp : Sp) (E : XK) (t : TA) : TE := fun σ H Q => t σ H fun vs H1 => sp vs H1 Q E
theorem pe_callG (F : FnG X.prog X.w X.K X.mg X.base k f fd ps sp) (hr : Room k X.A) (hG : X.A.guards = some []) (hg : Gl X x) (hm : X.mg x = some (.ref f)) (hk : PySem.W.keepIn X.K (.ref f) = true) (hb : Binds X.K fd ps []) (hx : Passes (L2.CX X.prog X.w) X E)
    (ha : PA X (e :: es) t) (hdb : (x == ("__debug__" : Str)) = false) (he : starEach (e :: es) X.env = (false, eval e X.env) :: starEach es X.env) (hpl : (backTo pos (starEach es X.env)).any (·.1) = false) :
    PE X (.Call (.Name x p) (e :: es) [] pos) (tCl sp E t) := by
  constructor
  intro pins s σ H Q I h
  have z := thn (ha.run pos pins s σ H _ I h) fun us s1 ⟨vs, H1, I1, r, q⟩ => (⟨I1.kIn, runG F hr hG hb hx I1 r q⟩ : X.K.In s1.heap ∧ wpAny _ _ (call (.ref f) us) (EP X pins σ Q) X.xe s1)
  exact wpAny_Call_Name_kw (ld_glob I hg hm (PySem.W.callWith_K (h₀ := X.base) I.ok.mod.kin hk z he hpl) hdb)
theorem pe_callG0 (F : FnG X.prog X.w X.K X.mg X.base k f fd ps sp) (hr : Room k X.A) (hG : X.A.guards = some []) (hg : Gl X x) (hm : X.mg x = some (.ref f)) (hk : PySem.W.keepIn X.K (.ref f) = true) (hb : Binds X.K fd ps []) (hx : Passes (L2.CX X.prog X.w) X E)
    (hdb : (x == ("__debug__" : Str)) = false) : PE X (.Call (.Name x p) [] [] pos) (tCl sp E tNil) := by
  constructor
  intro pins s σ H Q I h
  have z := runG (us := []) F hr hG hb hx I .nil h
  exact wpAny_Call_Name_kw (ld_glob I hg hm (PySem.W.callWith_K0 I.kIn hk z) hdb)
end
/-- a def that stands in the module -/
structure Callee (P : Program) (w : World) (K : PySem.W.Frag) (mg : Str → Option Value) (base : Heap) (k : Nat) (x : Str) (n : Nat) (sp : Sp) : Prop where
  ex : ∃ (f : Addr) (fd : FuncData) (ps : List Str), FnG P w K mg base k f fd ps sp ∧ mg x = some (.ref f) ∧ PySem.W.keepIn K (.ref f) = true ∧ Binds K fd ps [] ∧ ps.length = n
section
variable {X : Cx} {B : Ent} {ok : OkX} {cls : Clss} {a b c e : Expr} {es : List Expr} {fa fb fc f : EF} {fs : AF} {pos p : Pos} {k j n : Nat} {x : Str}
def fCall (F : List PyData → R PyData) (fs : AF) : EF := fun ρ => (fs ρ).bind fun x => (F x.1).bind fun d => .ok (d, x.2)
theorem fCall_sat {F : List PyData → R PyData} {fs : AF} {ρ : En} {P : PyData × En → Prop} {E : OkX} (h : (fCall F fs ρ).sat P E) : (fs ρ).sat (fun x => (F x.1).sat (fun d => P (d, x.2)) E) E :=
  (R.sat_bind (r := fs ρ) (f := fun x => (F x.1).bind fun d => R.ok (d, x.2)) h).imp fun x q => R.sat_bind (r := F x.1) (f := fun d => R.ok (d, x.2)) q
theorem R.sat.imp2 {α : Type} {r : R α} {P P' : α → Prop} {E E' : OkX} (h : r.sat P E) (k : ∀ a, P a → P' a) (k2 : ∀ c d, E c d → E' c d) : r.sat P' E' := by
  cases r with
  | ok a => exact k a h
  | er c d => exact k2 c d h
  | no => exact h
/-- the tables at hand -/
theorem Rel.tabs {K : PySem.W.Frag} {G H : Hp} {σ : St} {ρ : En} (r : Rel K B G H σ ρ) (h : Base K B.T B.G B.H) : Base K B.T G H := ⟨r.bd.tb h.1, h.2.mono r.bd.gm⟩
theorem ee_call {F : List PyData → R PyData} (cx : CtxE cls X B ok) (C : Callee X.prog X.w X.K X.mg X.base k x n (spF X.K B.T cls n F)) (hr : Room j X.A) (ha : EA X B ok (e :: es) fs) (hk : k ≤ j := by decide) (hg : Gl X x := by rfl)
    (hdb : (x == ("__debug__" : Str)) = false := by decide) (he : starEach (e :: es) X.env = (false, eval e X.env) :: starEach es X.env := by rfl) (hpl : (backTo pos (starEach es X.env)).any (·.1) = false := by rfl)
    (hn : (e :: es).length = n := by rfl) : EE X B ok (.Call (.Name x p) (e :: es) [] pos) (fCall F fs) := by
  have hT := cx.tabs
  obtain ⟨E, tk, good⟩ := cx.exc
  have px : Passes (L2.CX X.prog X.w) X E := passes_call tk fun _ _ _ _ h => h
  obtain ⟨f, fd, ps, FO, hm, hkp, hb, hps⟩ := C.ex
  obtain ⟨t, pa, ka⟩ := ha.ex
  refine ⟨_, pe_callG FO (hr.mono hk) cx.gd hg hm hkp hb px pa hdb he hpl, fun σ H G ρ Q r q => ka σ H G ρ _ r ?_⟩
  have q := fCall_sat q
  cases ef : fs ρ with
  | er c d => rw [ef] at q; exact q
  | no => rw [ef] at q; exact q
  | ok y =>
    rw [ef] at q
    have hy := ha.len ρ y ef
    intro vs H1 G1 s1 r1 t1
    refine ⟨G1, y.1, r1.sub, t1, by rw [hy, hn], r1.tabs hT, R.sat.imp2 q (fun d qd v H' G' g t => ?_) (fun c d hc => ?_)⟩
    · exact qd v H' G' (s1.trans (Adv.grow g)) (r1.step g) t
    · exact ((good c d hc).later r1.bd).io
theorem ee_call0 {F : List PyData → R PyData} (cx : CtxE cls X B ok) (C : Callee X.prog X.w X.K X.mg X.base k x 0 (spF X.K B.T cls 0 F)) (hr : Room j X.A) (hk : k ≤ j := by decide) (hg : Gl X x := by rfl)
    (hdb : (x == ("__debug__" : Str)) = false := by decide) : EE X B ok (.Call (.Name x p) [] [] pos) (fCall F fNil) := by
  have hT := cx.tabs
  obtain ⟨E, tk, good⟩ := cx.exc
  have px : Passes (L2.CX X.prog X.w) X E := passes_call tk fun _ _ _ _ h => h
  obtain ⟨f, fd, ps, FO, hm, hkp, hb, hps⟩ := C.ex
  refine ⟨_, pe_callG0 FO (hr.mono hk) cx.gd hg hm hkp hb px hdb, fun σ H G ρ Q r q => ?_⟩
  have q : (fNil ρ).sat (fun x => (F x.1).sat (fun d => ∀ v H' G', Adv σ G H ρ G' H' x.2 → Rel X.K B G' H' σ x.2 → Tr X.K G' v d → Q v H') ok) ok := fCall_sat q
  refine ⟨G, [], r.sub, .nil, rfl, r.tabs hT, R.sat.imp2 q (fun d qd v H' G' g t => ?_) (fun c d hc => ?_)⟩
  · exact qd v H' G' (Adv.grow g) (r.step g) t
  · exact ((good c d hc).later r.bd).io
/-- a def whose answer is a new object -/
theorem en_call {F : List PyData → R PyData} (cx : CtxE cls X B ok) (C : Callee X.prog X.w X.K X.mg X.base k x n (spN X.K B.T cls n F)) (hr : Room j X.A) (ha : EA X B ok (e :: es) fs) (hk : k ≤ j := by decide) (hg : Gl X x := by rfl)
    (hdb : (x == ("__debug__" : Str)) = false := by decide) (he : starEach (e :: es) X.env = (false, eval e X.env) :: starEach es X.env := by rfl) (hpl : (backTo pos (starEach es X.env)).any (·.1) = false := by rfl)
    (hn : (e :: es).length = n := by rfl) : EN X B ok (.Call (.Name x p) (e :: es) [] pos) (fCall F fs) := by
  have hT := cx.tabs
  obtain ⟨E, tk, good⟩ := cx.exc
  have px : Passes (L2.CX X.prog X.w) X E := passes_call tk fun _ _ _ _ h => h
  obtain ⟨f, fd, ps, FO, hm, hkp, hb, hps⟩ := C.ex
  obtain ⟨t, pa, ka⟩ := ha.ex
  refine ⟨_, pe_callG FO (hr.mono hk) cx.gd hg hm hkp hb px pa hdb he hpl, fun σ H G ρ Q r q => ka σ H G ρ _ r ?_⟩
  have q := fCall_sat q
  cases ef : fs ρ with
  | er c d => rw [ef] at q; exact q
  | no => rw [ef] at q; exact q
  | ok y =>
    rw [ef] at q
    have hy := ha.len ρ y ef
    intro vs H1 G1 s1 r1 t1
    refine ⟨G1, y.1, r1.sub, t1, by rw [hy, hn], r1.tabs hT, R.sat.imp2 q (fun d qd p H' G' hp g n' w => ?_) (fun c d hc => ?_)⟩
    · have hpB : B.H p = none := by
        cases e : B.H p with
        | none => rfl
        | some u => exact absurd hp (r1.bd.hs p (by rw [e]; simp))
      refine qd p H' G' (s1.pre hp) (s1.trans (Adv.grow g)) (r1.step g) ⟨n', hpB, w, fun j s h ej => ?_⟩
      obtain ⟨_, _, d', _, w', _⟩ := r1.ownOf h ej
      obtain ⟨o', ho, _⟩ := w'.nt
      rw [hp] at ho; cases ho
    · exact ((good c d hc).later r1.bd).io
/-- a def that may change the object in slot i -/
def ioAt (ρ : En) (i : Nat) : R PyData := match ρ[i]? with
  | some (.ow d) => .ok d
  | some (.io d) => .ok d
  | _ => .no
def ioSet (ρ : En) (i : Nat) (d : PyData) : En := match ρ[i]? with
  | some (.ow _) => ρ.set i (.ow d)
  | some (.io _) => ρ.set i (.io d)
  | _ => ρ
def fCallS (F : PyData → List PyData → R (PyData × PyData)) (i : Nat) (fs : AF) : EF := fun ρ => (ioAt ρ i).bind fun _ => (fs ρ).bind fun x => (ioAt x.2 i).bind fun d0 => (F d0 x.1).bind fun r => .ok (r.1, ioSet x.2 i r.2)
theorem ioAt_ok {ρ : En} {i : Nat} {d : PyData} (h : ioAt ρ i = .ok d) : ∃ s, ρ[i]? = some s ∧ (s = .ow d ∨ s = .io d) := by
  unfold ioAt at h
  split at h
  · cases h; exact ⟨_, by assumption, .inl rfl⟩
  · cases h; exact ⟨_, by assumption, .inr rfl⟩
  · cases h
theorem ioAt_sat {ρ : En} {i : Nat} {P : PyData → Prop} {E : OkX} (h : (ioAt ρ i).sat P E) : ∃ d, ioAt ρ i = .ok d ∧ P d := by
  cases e : ioAt ρ i with
  | ok d => rw [e] at h; exact ⟨d, rfl, h⟩
  | er c d =>
    unfold ioAt at e
    split at e <;> cases e
  | no => rw [e] at h; exact h.elim
/-- the object in slot i, where it stands -/
theorem Rel.at_io {K : PySem.W.Frag} {G H : Hp} {σ : St} {ρ : En} {i : Nat} {d : PyData} (r : Rel K B G H σ ρ) (h : ioAt ρ i = .ok d) : ∃ a s, ρ[i]? = some s ∧ adr s σ[i]? a ∧ σ[i]? = some (some (.ref a)) ∧ G a = none ∧ Own K G H a d := by
  obtain ⟨s, e, hs⟩ := ioAt_ok h
  rcases hs with rfl | rfl
  · obtain ⟨a, e1, n, z, w⟩ := r.at_ i _ e
    exact ⟨a, _, e, e1, e1, n, w⟩
  · obtain ⟨a, e1, n, z, w⟩ := r.at_ i _ e
    exact ⟨a, _, e, e1, e1, n, w⟩
theorem Grow.ioTrans {T : YT} {io : List Addr} {G0 H0 G H G' H' : Hp} {a : Addr} (h : Grow T io G0 H0 G H) (hB : H0 a = none ∨ a ∈ io) (g : Grow T [a] G H G' H') : Grow T io G0 H0 G' H' := by
  refine ⟨g.sub, h.gm.trans g.gm, fun b o e nb t => g.hm b o (h.hm b o e nb t) (fun z => ?_) t, fun b e => g.hs b (h.hs b e), fun b e z => h.gn b (g.gn b e (h.hs b z)) z, fun t => g.tb (h.tb t)⟩
  have z : b = a := by simpa using z
  subst z
  rcases hB with h | h
  · rw [h] at e; cases e
  · exact nb h
/-- the object in slot i has changed -/
theorem Rel.stepIo {K : PySem.W.Frag} {G H G' H' : Hp} {σ : St} {ρ : En} {i : Nat} {a : Addr} {s : Sl} {d' : PyData} (r : Rel K B G H σ ρ) (hs : ρ[i]? = some s) (ha : adr s σ[i]? a) (g : Grow B.T [a] G H G' H') (n' : G' a = none) (w' : Own K G' H' a d') :
    Rel K B G' H' σ (ioSet ρ i d') ∧ Adv σ G H ρ G' H' (ioSet ρ i d') := by
  obtain ⟨n0, hB, d0, es, w0, e0⟩ := r.ownOf hs ha
  have hi : i < ρ.length := (List.getElem?_eq_some_iff.mp hs).1
  obtain ⟨o0, ho0, _⟩ := w0.nt
  have bd : Grow B.T B.io B.G B.H G' H' := r.bd.ioTrans hB g
  -- the slots behind: i's object is the changed one, the others stand
  have key : ∀ (j : Nat) t, (ioSet ρ i d')[j]? = some t → (j = i ∧ ((∃ d, s = .ow d ∧ t = .ow d') ∨ ∃ d, s = .io d ∧ t = .io d')) ∨ (j ≠ i ∧ ρ[j]? = some t) := fun j t h => by
    unfold ioSet at h
    rw [hs] at h
    rcases es with rfl | rfl
    · by_cases hj : i = j
      · subst hj
        have h : (ρ.set i (.ow d'))[i]? = some t := h
        rw [List.getElem?_set_self hi] at h
        cases h
        exact .inl ⟨rfl, .inl ⟨_, rfl, rfl⟩⟩
      · have h : (ρ.set i (.ow d'))[j]? = some t := h
        rw [List.getElem?_set_ne hj] at h
        exact .inr ⟨fun z => hj z.symm, h⟩
    · by_cases hj : i = j
      · subst hj
        have h : (ρ.set i (.io d'))[i]? = some t := h
        rw [List.getElem?_set_self hi] at h
        cases h
        exact .inl ⟨rfl, .inr ⟨_, rfl, rfl⟩⟩
      · have h : (ρ.set i (.io d'))[j]? = some t := h
        rw [List.getElem?_set_ne hj] at h
        exact .inr ⟨fun z => hj z.symm, h⟩
  have adrK : ∀ (j : Nat) t b, (ioSet ρ i d')[j]? = some t → adr t σ[j]? b → ∃ u, ρ[j]? = some u ∧ adr u σ[j]? b := fun j t b h e => by
    rcases key j t h with ⟨rfl, ⟨d, es', et⟩ | ⟨d, es', et⟩⟩ | ⟨_, h⟩
    · subst es' et; exact ⟨_, hs, e⟩
    · subst es' et; exact ⟨_, hs, e⟩
    · exact ⟨t, h, e⟩
  have other : ∀ (j : Nat) t b d, j ≠ i → ρ[j]? = some t → adr t σ[j]? b → Own K G H b d → G b = none → G' b = none ∧ Own K G' H' b d := fun j t b d hj h e w n => by
    have hb : b ≠ a := fun z => r.sep j i t s a hj h hs (z ▸ e) ha
    obtain ⟨o, ho, ht⟩ := w.nt
    refine ⟨?_, w.keep g.gm fun u hu => g.hm b u hu (by simp [hb]) (by rw [ho] at hu; cases hu; exact ht)⟩
    cases e : G' b with
    | none => rfl
    | some u => exact absurd n (g.gn b (by rw [e]; simp) (by rw [ho]; simp))
  refine ⟨⟨bd, ?_, fun j t h => ?_, fun j k t u b njk hj hk ej ek => ?_⟩, g.gm, g.hs, fun p o hp np ht fr => ?_⟩
  · unfold ioSet
    rw [hs]
    rcases es with rfl | rfl
    · show σ.length = (ρ.set i (.ow d')).length
      rw [List.length_set, r.len]
    · show σ.length = (ρ.set i (.io d')).length
      rw [List.length_set, r.len]
  · rcases key j t h with ⟨rfl, ⟨d, es', et⟩ | ⟨d, es', et⟩⟩ | ⟨hj, h⟩
    · subst es' et
      obtain ⟨a', e1, _, z, _⟩ := r.at_ j _ hs
      have ha : σ[j]? = some (some (.ref a)) := ha
      rw [ha] at e1; cases e1
      exact ⟨a, ha, n', z, w'⟩
    · subst es' et
      obtain ⟨a', e1, _, z, _⟩ := r.at_ j _ hs
      have ha : σ[j]? = some (some (.ref a)) := ha
      rw [ha] at e1; cases e1
      exact ⟨a, ha, n', z, w'⟩
    · have q := r.at_ j t h
      cases t with
      | un => trivial
      | lam => exact q
      | sh d => obtain ⟨x, e, t⟩ := q; exact ⟨x, e, t.mono g.gm⟩
      | ow d =>
        obtain ⟨b, e, n, z, w⟩ := q
        obtain ⟨n2, w2⟩ := other j _ b d hj h e w n
        exact ⟨b, e, n2, z, w2⟩
      | io d =>
        obtain ⟨b, e, n, z, w⟩ := q
        obtain ⟨n2, w2⟩ := other j _ b d hj h e w n
        exact ⟨b, e, n2, z, w2⟩
  · obtain ⟨t', h1, e1⟩ := adrK j t b hj ej
    obtain ⟨u', h2, e2⟩ := adrK k u b hk ek
    exact r.sep j k t' u' b njk h1 h2 e1 e2
  · have hpa : p ≠ a := fun z => fr i s hs (by subst z; exact ha)
    refine ⟨g.hm p o hp (by simp [hpa]) ht, ?_, fun j t h e => ?_⟩
    · cases e : G' p with
      | none => rfl
      | some u => exact absurd np (g.gn p (by rw [e]; simp) (by rw [hp]; simp))
    · obtain ⟨u, h1, e1⟩ := adrK j t p h e
      exact fr j u h1 e1
theorem ee_callS (i : Nat) {y : Str} {p1 : Pos} {F : PyData → List PyData → R (PyData × PyData)} (cx : CtxE cls X B ok) (C : Callee X.prog X.w X.K X.mg X.base k x (n + 1) (spS X.K B.T cls n F)) (hr : Room j X.A) (ha : EA X B ok es fs)
    (hN : X.N[i]? = some y := by rfl) (hv : Vis X.env.scope y := by first | exact Or.inl rfl | exact Or.inr (Or.inl rfl) | exact Or.inr (Or.inr rfl)) (hk : k ≤ j := by decide) (hg : Gl X x := by rfl)
    (hdb : (x == ("__debug__" : Str)) = false := by decide) (hd1 : (y == ("__debug__" : Str)) = false := by decide) (hd2 : (y == ("__classdict__" : Str)) = false := by decide)
    (he : starEach (.Name y p1 :: es) X.env = (false, eval (.Name y p1) X.env) :: starEach es X.env := by rfl) (hpl : (backTo pos (starEach es X.env)).any (·.1) = false := by rfl)
    (hn : es.length = n := by rfl) : EE X B ok (.Call (.Name x p) (.Name y p1 :: es) [] pos) (fCallS F i fs) := by
  have hT := cx.tabs
  obtain ⟨E, tk, good⟩ := cx.exc
  have px : Passes (L2.CX X.prog X.w) X E := passes_call tk fun _ _ _ _ h => h
  obtain ⟨f, fd, ps, FO, hm, hkp, hb, hps⟩ := C.ex
  obtain ⟨t, pa, ka⟩ := ha.ex
  refine ⟨_, pe_callG FO (hr.mono hk) cx.gd hg hm hkp hb px (pa_cons (pe_var hN hv hd1 hd2) pa he) hdb he hpl, fun σ H G ρ Q r q => ?_⟩
  obtain ⟨d1, e1, q⟩ := ioAt_sat (R.sat_bind (r := ioAt ρ i) (f := fun _ => (fs ρ).bind fun x => (ioAt x.2 i).bind fun d0 => (F d0 x.1).bind fun r => R.ok (r.1, ioSet x.2 i r.2)) q)
  obtain ⟨a0, _, _, _, ea0, _, _⟩ := r.at_io e1
  have q := R.sat_bind (r := fs ρ) (f := fun x => (ioAt x.2 i).bind fun d0 => (F d0 x.1).bind fun r => R.ok (r.1, ioSet x.2 i r.2)) q
  refine ⟨.ref a0, ea0, ka σ H G ρ _ r ?_⟩
  cases ef : fs ρ with
  | er c d => rw [ef] at q; exact q
  | no => rw [ef] at q; exact q
  | ok y =>
    rw [ef] at q
    have hy := ha.len ρ y ef
    intro ws H1 G1 s1 r1 t1
    obtain ⟨d0, e0, q0⟩ := ioAt_sat (R.sat_bind (r := ioAt y.2 i) (f := fun d0 => (F d0 y.1).bind fun r => R.ok (r.1, ioSet y.2 i r.2)) q)
    have q1 := R.sat_bind (r := F d0 y.1) (f := fun r => R.ok (r.1, ioSet y.2 i r.2)) q0
    obtain ⟨a, s, hs, had, ea, n0, w0⟩ := r1.at_io e0
    rw [ea0] at ea; cases ea
    obtain ⟨_, hB, _⟩ := r1.ownOf hs had
    refine ⟨G1, y.1, a0, d0, ws, r1.sub, rfl, n0, w0, t1, by rw [hy, hn], r1.tabs hT, R.sat.imp2 q1 (fun z qz v H' G' g n' w' t' => ?_) (fun c d hc C hC v dx H' G' g' t' hn' hd' => ?_)⟩
    · obtain ⟨r2, s2⟩ := r1.stepIo hs had g n' w'
      exact qz v H' G' (s1.trans s2) r2 t'
    · refine good c d hc C hC v dx H' G' (r1.bd.ioTrans hB g') t' ?_ hd'
      cases e : B.H dx with
      | none => rfl
      | some u => exact absurd hn' (r1.bd.hs dx (by rw [e]; simp))
end
end Y


/-! YDef: a def keeps its data promise, by its body. -/
namespace Y
open PySem PySem.Spec PyProof.Rows L2
/-- the slots at the entry -/
def start (N : List Str) (ds : List PyData) : En := ds.map Sl.sh ++ List.replicate (N.length - ds.length) Sl.un
def outR : Out → R PyData
  | .nx _ => .ok .none
  | .rt d _ => .ok d
  | .rn d _ => .ok d
  | .er c d => .er c d
  | _ => .no
/-- a def's function, by its body's -/
def fnR (N : List Str) (g : SF) : List PyData → R PyData := fun ds => outR (g (start N ds))
section
variable {P : Program} {w : World} {K : PySem.W.Frag} {mg : Str → Option Value} {base : Heap} {cls : Clss} {T : YT}
theorem rel_start {K : PySem.W.Frag} {T : YT} {G H : Hp} {vs : List V} {ds : List PyData} {N : List Str} (hs : ∀ b o, G b = some o → H b = some o ∧ ∀ ps, o ≠ .tbl ps) (t : TrAll K G vs ds) :
    Rel K { T := T, io := [], G := G, H := H } G H (L2.start N vs) (start N ds) := by
  have hl := t.length
  have none_adr : ∀ (i : Nat) s a v, (start N ds)[i]? = some s → adr s v a → False := fun i s a v h e => by
    unfold start at h
    by_cases hi : i < (ds.map Sl.sh).length
    · rw [List.getElem?_append_left hi, List.getElem?_map] at h
      cases e1 : ds[i]? with
      | none => rw [e1] at h; cases h
      | some d => rw [e1] at h; cases h; exact e
    · rw [List.getElem?_append_right (by omega)] at h
      have := List.getElem?_replicate (a := Sl.un) (n := N.length - ds.length) (i := i - (ds.map Sl.sh).length)
      rw [this] at h
      split at h
      · cases h; exact e
      · cases h
  refine ⟨Grow.refl hs, ?_, fun i s h => ?_, fun i j s u a _ h _ e _ => none_adr i s a _ h e⟩
  · unfold L2.start start
    simp [hl]
  · unfold start at h
    unfold L2.start
    by_cases hi : i < (ds.map Sl.sh).length
    · rw [List.getElem?_append_left hi, List.getElem?_map] at h
      cases e1 : ds[i]? with
      | none => rw [e1] at h; cases h
      | some d =>
        rw [e1] at h; cases h
        obtain ⟨v, e2, tv⟩ := t.get e1
        have hi2 : i < (vs.map some).length := by rw [List.length_map, hl]; simpa using hi
        rw [List.getElem?_append_left hi2, List.getElem?_map, e2]
        exact ⟨v, rfl, tv⟩
    · rw [List.getElem?_append_right (by omega)] at h
      have := List.getElem?_replicate (a := Sl.un) (n := N.length - ds.length) (i := i - (ds.map Sl.sh).length)
      rw [this] at h
      split at h
      · cases h; trivial
      · cases h
/-- the code object of the def at f -/
def CodeIs (K : PySem.W.Frag) (f : Addr) (cdv : Value) : Prop := ∃ (oc : Value) (od : Option Addr) (fd : FuncData) (osl : Array (Option Value)), K.lookup f = some ⟨oc, od, .func fd, osl⟩ ∧ fd.code = cdv
/-- a body's derivation, for every entry -/
def BodyOk (P : Program) (w : World) (K : PySem.W.Frag) (mg : Str → Option Value) (base : Heap) (cls : Clss) (T : YT) (k : Nat) (N : List Str) (qual : Str) (st : Stmt) (f : Addr) (g : SF) : Prop :=
  ∀ (cdv : Value) (A : Around) (outer : List Env) (s : Shared) (H : Hp) (E : XK) (B : Ent) (ok : OkX), CodeIs K f cdv → B.T = T →
    Room k (A.deeper (envOfC qual (defScope st) s.heap.objs.size f cdv)) → A.guards = some [] →
    CtxOk cls (cxOf (L2.CX P w) P w K mg base N qual (defScope st) f cdv A outer s H E) B ok →
    SB (cxOf (L2.CX P w) P w K mg base N qual (defScope st) f cdv A outer s H E) B ok (defBody st) g
theorem fnG_of {x qual : Str} {st : Stmt} {f : Addr} {fd : FuncData} {N ps : List Str} {k : Nat} {sp : Sp} (F : Fun K x qual st f fd) (S : FnScope N ps (defScope st)) (len : ∀ vs H Q E, sp vs H Q E → vs.length = ps.length)
    (body : ∀ (cdv : Value) (A : Around) (outer : List Env) (s : Shared) (H : Hp) (vs : List V) (Q : VK) (E : XK), CodeIs K f cdv → Room k (A.deeper (envOfC qual (defScope st) s.heap.objs.size f cdv)) → A.guards = some [] → sp vs H Q E →
      ∃ t, PSs (cxOf (L2.CX P w) P w K mg base N qual (defScope st) f cdv A outer s H E) (defBody st) t ∧ t { nx := fun _ H' => Q .non H', rt := Q } (L2.start N vs) H) : FnG P w K mg base (k + 1) f fd ps sp := by
  obtain ⟨oc, od, kV, doc, pm, an, cdv, ct, osl, rfl, lk, hcd⟩ := F.ex
  exact ⟨len, fun A outer s H args us vs Q E hr hG e0 hb r hsp => LamX.run_ofS lk hcd S hr e0 hb r (len _ _ _ _ hsp) fun hr' => body cdv A outer s H vs Q E ⟨oc, od, _, osl, lk, rfl⟩ hr' hG hsp⟩
theorem ctx_of {N : List Str} {qual : Str} {sc : Scope} {f : Addr} {cdv : Value} {A : Around} {outer : List Env} {s : Shared} {H : Hp} {E : XK} {B : Ent} (hT : Base K B.T B.G B.H) (hG : A.guards = some []) : CtxOk cls (cxOf (L2.CX P w) P w K mg base N qual sc f cdv A outer s H E) B (ErrOk K B.T cls B.io B.G B.H E) :=
  ⟨⟨rfl, hT, hG, E, takes_of rfl rfl rfl rfl, fun _ _ h => h⟩, passes_of rfl⟩
theorem fn_pure {x qual : Str} {st : Stmt} {f : Addr} {fd : FuncData} {N ps : List Str} {k n : Nat} {g : SF} (Fn : Fun K x qual st f fd) (S : FnScope N ps (defScope st)) (hps : ps.length = n) (body : BodyOk P w K mg base cls T k N qual st f g) :
    FnG P w K mg base (k + 1) f fd ps (spF K T cls n (fnR N g)) := by
  refine fnG_of Fn S (fun vs H Q E h => ?_) (fun cdv A outer s H vs Q E hcd hr hG h => ?_)
  · obtain ⟨G, ds, _, t, hl, _⟩ := h
    rw [t.length, hl, hps]
  · obtain ⟨G, ds, hs, t, hl, hT, q⟩ := h
    obtain ⟨u, pu, ku⟩ := (body cdv A outer s H E { T := T, io := [], G := G, H := H } (ErrOk K T cls [] G H E) hcd rfl hr hG (ctx_of hT hG)).ex
    refine ⟨u, pu, ku (L2.start N vs) H G (start N ds) _ (rel_start hs t) ?_⟩
    unfold fnR at q
    cases e : g (start N ds) with
    | nx ρ => rw [e] at q; exact fun σ H' G' s' r => q .non H' G' r.bd .non
    | rt d ρ => rw [e] at q; exact fun v σ H' G' s' r t' => q v H' G' r.bd t'
    | rn d ρ =>
      rw [e] at q
      exact fun p σ H' G' s' r x => by
        obtain ⟨G2, s2, _, r2, t2⟩ := r.frz x
        exact q _ H' G2 r2.bd t2
    | er c d => rw [e] at q; exact q
    | bk ρ => rw [e] at q; exact q.elim
    | ct ρ => rw [e] at q; exact q.elim
    | no => rw [e] at q; exact q.elim
def outN : Out → R PyData
  | .rn d _ => .ok d
  | .er c d => .er c d
  | _ => .no
def fnN (N : List Str) (g : SF) : List PyData → R PyData := fun ds => outN (g (start N ds))
theorem fn_new {x qual : Str} {st : Stmt} {f : Addr} {fd : FuncData} {N ps : List Str} {k n : Nat} {g : SF} (Fn : Fun K x qual st f fd) (S : FnScope N ps (defScope st)) (hps : ps.length = n) (body : BodyOk P w K mg base cls T k N qual st f g) :
    FnG P w K mg base (k + 1) f fd ps (spN K T cls n (fnN N g)) := by
  refine fnG_of Fn S (fun vs H Q E h => ?_) (fun cdv A outer s H vs Q E hcd hr hG h => ?_)
  · obtain ⟨G, ds, _, t, hl, _⟩ := h
    rw [t.length, hl, hps]
  · obtain ⟨G, ds, hs, t, hl, hT, q⟩ := h
    obtain ⟨u, pu, ku⟩ := (body cdv A outer s H E { T := T, io := [], G := G, H := H } (ErrOk K T cls [] G H E) hcd rfl hr hG (ctx_of hT hG)).ex
    refine ⟨u, pu, ku (L2.start N vs) H G (start N ds) _ (rel_start hs t) ?_⟩
    unfold fnN at q
    cases e : g (start N ds) with
    | nx ρ => rw [e] at q; exact q.elim
    | rt d ρ => rw [e] at q; exact q.elim
    | rn d ρ => rw [e] at q; exact fun p σ H' G' s' r x => q p H' G' x.b r.bd x.g x.own
    | er c d => rw [e] at q; exact q
    | bk ρ => rw [e] at q; exact q.elim
    | ct ρ => rw [e] at q; exact q.elim
    | no => rw [e] at q; exact q.elim
/-- the first parameter an object that may be changed -/
def startS (N : List Str) (d0 : PyData) (ds : List PyData) : En := .io d0 :: start N.tail ds
def outS (ρ : En) (r : PyData) : R (PyData × PyData) := (ioAt ρ 0).bind fun d => .ok (r, d)
def ioOnly (ρ : En) : Bool := match ρ with
  | .io _ :: _ => true
  | _ => false
def fnS (N : List Str) (g : SF) : PyData → List PyData → R (PyData × PyData) := fun d0 ds => match g (startS N d0 ds) with
  | .nx ρ => if ioOnly ρ = true then outS ρ .none else .no
  | .rt r ρ => if ioOnly ρ = true then outS ρ r else .no
  | .rn r ρ => if ioOnly ρ = true then outS ρ r else .no
  | .er c d => .er c d
  | _ => .no
theorem rel_startS {K : PySem.W.Frag} {T : YT} {G H : Hp} {a : Addr} {d0 : PyData} {vs : List V} {ds : List PyData} {x : Str} {N : List Str} (hs : ∀ b o, G b = some o → H b = some o ∧ ∀ ps, o ≠ .tbl ps) (n : G a = none) (w : Own K G H a d0) (t : TrAll K G vs ds) :
    Rel K { T := T, io := [a], G := G, H := H } G H (L2.start (x :: N) (.ref a :: vs)) (startS (x :: N) d0 ds) := by
  have r := rel_start (T := T) (N := N) hs t
  have e : L2.start (x :: N) (.ref a :: vs) = some (.ref a) :: L2.start N vs := by
    unfold L2.start
    simp
  rw [e]
  refine ⟨Grow.refl hs, ?_, fun i s h => ?_, fun i j s u b nij hi hj ei ej => ?_⟩
  · show (L2.start N vs).length + 1 = (start N ds).length + 1
    rw [r.len]
  · cases i with
    | zero =>
      have h : some (Sl.io d0) = some s := h
      cases h
      exact ⟨a, rfl, n, by simp, w⟩
    | succ i =>
      have h : (start N ds)[i]? = some s := h
      have q := r.at_ i s h
      show SlOk K _ G H (L2.start N vs)[i]? s
      cases s with
      | un => trivial
      | lam => exact q
      | sh d => exact q
      | ow d => exact q
      | io d =>
        obtain ⟨b, _, _, z, _⟩ := q
        cases z
  · have no : ∀ (i : Nat) s, (start N ds)[i]? = some s → adr s (L2.start N vs)[i]? b → False := fun i s h e => by
      obtain ⟨_, _, d, es, _, _⟩ := r.ownOf h e
      unfold start at h
      by_cases hl : i < (ds.map Sl.sh).length
      · rw [List.getElem?_append_left hl, List.getElem?_map] at h
        cases e1 : ds[i]? with
        | none => rw [e1] at h; cases h
        | some z => rw [e1] at h; cases h; exact e
      · rw [List.getElem?_append_right (by omega)] at h
        have := List.getElem?_replicate (a := Sl.un) (n := N.length - ds.length) (i := i - (ds.map Sl.sh).length)
        rw [this] at h
        split at h
        · cases h; exact e
        · cases h
    cases i with
    | zero =>
      cases j with
      | zero => exact nij rfl
      | succ j => exact no j u hj ej
    | succ i => exact no i s hi ei
theorem ioOnly_at {K : PySem.W.Frag} {T : YT} {G0 H0 G H : Hp} {a : Addr} {σ : St} {ρ : En} (r : Rel K { T := T, io := [a], G := G0, H := H0 } G H σ ρ) (h : ioOnly ρ = true) : ∃ d, ioAt ρ 0 = .ok d ∧ G a = none ∧ Own K G H a d := by
  unfold ioOnly at h
  split at h
  · rename_i d ρ'
    obtain ⟨b, _, n, z, w⟩ := r.at_ 0 (.io d) rfl
    have z : b = a := by simpa using z
    subst z
    exact ⟨d, by unfold ioAt; rfl, n, w⟩
  · cases h
theorem fn_st {x qual y : Str} {st : Stmt} {f : Addr} {fd : FuncData} {N ps : List Str} {k n : Nat} {g : SF} (Fn : Fun K x qual st f fd) (S : FnScope (y :: N) ps (defScope st)) (hps : ps.length = n + 1) (body : BodyOk P w K mg base cls T k (y :: N) qual st f g) :
    FnG P w K mg base (k + 1) f fd ps (spS K T cls n (fnS (y :: N) g)) := by
  refine fnG_of Fn S (fun vs H Q E h => ?_) (fun cdv A outer s H vs Q E hcd hr hG h => ?_)
  · obtain ⟨G, ds, a, d0, ws, _, rfl, _, _, t, hl, _⟩ := h
    rw [List.length_cons, t.length, hl, hps]
  · obtain ⟨G, ds, a, d0, ws, hs, rfl, n0, w0, t, hl, hT, q⟩ := h
    obtain ⟨u, pu, ku⟩ := (body cdv A outer s H E { T := T, io := [a], G := G, H := H } (ErrOk K T cls [a] G H E) hcd rfl hr hG (ctx_of hT hG)).ex
    refine ⟨u, pu, ku _ H G (startS (y :: N) d0 ds) _ (rel_startS hs n0 w0 t) ?_⟩
    unfold fnS at q
    cases e : g (startS (y :: N) d0 ds) with
    | nx ρ =>
      rw [e] at q
      obtain ⟨hi, q⟩ := ite_sat q
      exact fun σ H' G' s' r => by
        obtain ⟨d, ed, n', w'⟩ := ioOnly_at r hi
        unfold outS at q
        rw [ed] at q
        exact q .non H' G' r.bd n' w' .non
    | rt d ρ =>
      rw [e] at q
      obtain ⟨hi, q⟩ := ite_sat q
      exact fun v σ H' G' s' r t' => by
        obtain ⟨d, ed, n', w'⟩ := ioOnly_at r hi
        unfold outS at q
        rw [ed] at q
        exact q v H' G' r.bd n' w' t'
    | rn d ρ =>
      rw [e] at q
      obtain ⟨hi, q⟩ := ite_sat q
      exact fun p σ H' G' s' r x => by
        obtain ⟨G2, s2, _, r2, t2⟩ := r.frz x
        obtain ⟨d, ed, n', w'⟩ := ioOnly_at r2 hi
        unfold outS at q
        rw [ed] at q
        exact q _ H' G2 r2.bd n' w' t2
    | er c d => rw [e] at q; exact q
    | bk ρ => rw [e] at q; exact q.elim
    | ct ρ => rw [e] at q; exact q.elim
    | no => rw [e] at q; exact q.elim
end
end Y


/-! YLoop: loops and comprehensions by data. -/
namespace Y
open PySem PySem.Spec PyProof.Rows L2
/-- what a walk gives: these data, in order, whatever grows meanwhile -/
structure Yields (K : PySem.W.Frag) (T : YT) (J : It) (G : Hp) (ds : List PyData) : Prop where
  go : ∀ (i : Nat) d (G2 H2 : Hp), ds[i]? = some d → Sub G G2 → (∀ b o, G2 b = some o → H2 b = some o ∧ ∀ ps, o ≠ .tbl ps) →
    J.go i H2 ∧ ∀ x H3, J.yld i H2 x H3 → ∃ G3, Grow T [] G2 H2 G3 H3 ∧ Tr K G3 x d
  stop : ∀ (i : Nat) (G2 H2 : Hp), ds.length ≤ i → Sub G G2 → (∀ b o, G2 b = some o → H2 b = some o ∧ ∀ ps, o ≠ .tbl ps) → J.stop i H2
structure EI (X : Cx) (B : Ent) (ok : OkX) (tg e : Expr) (f : AF) : Prop where
  ex : ∃ wi : TI, PI X tg e wi ∧ ∀ (σ : St) (H G : Hp) (ρ : En) (W : It → Hp → Prop), Rel X.K B G H σ ρ →
    (f ρ).sat (fun r => ∀ J H' G', Adv σ G H ρ G' H' r.2 → Rel X.K B G' H' σ r.2 → Yields X.K B.T J G' r.1 → W J H') ok → wi σ H W
section
variable {X : Cx} {B : Ent} {ok : OkX} {cls : Clss} {tg a b c e : Expr} {es : List Expr} {fa fb fc f : EF} {fs : AF} {ft : TF} {pos p : Pos}
theorem piOr {w w' : TI} (h : PI X tg e w) (h' : PI X tg e w') : PI X tg e (fun σ H R => w σ H R ∨ w' σ H R) := by
  refine ⟨fun pins s σ H R I q => ?_⟩
  rcases q with q | q
  · exact h.run pins s σ H R I q
  · exact h'.run pins s σ H R I q
def fItems (f : EF) : AF := fun ρ => (f ρ).bind fun x => (ofO (itemsOf x.1)).bind fun ds => .ok (ds, x.2)
theorem ei_seq (h : EE X B ok e f) : EI X B ok tg e (fItems f) := by
  obtain ⟨t, p, k⟩ := h.ex
  refine ⟨_, piOr (pi_list p) (pi_tup p), fun σ H G ρ W r q => ?_⟩
  have q := R.sat_bind (r := f ρ) (f := fun x => (ofO (itemsOf x.1)).bind fun ds => R.ok (ds, x.2)) q
  cases ef : f ρ with
  | er c d => rw [ef] at q; exact .inl (k σ H G ρ _ r (by rw [ef]; exact q))
  | no => rw [ef] at q; exact q.elim
  | ok y =>
    rw [ef] at q
    obtain ⟨ds, ei, q⟩ := ofO_sat (R.sat_bind (r := ofO (itemsOf y.1)) (f := fun ds => R.ok (ds, y.2)) q)
    obtain ⟨d, ρ1⟩ := y
    cases d with
    | list xs =>
      cases ei
      refine .inl (k σ H G ρ _ r ?_)
      rw [ef]
      intro v H1 G1 s1 r1 t1
      cases t1 with | lst h t =>
      rename_i a vs
      refine ⟨a, rfl, ⟨vs, .inl (r1.subG.rd h)⟩, q _ H1 G1 s1 r1 ⟨fun i d G2 H2 hi s2 h2 => ?_, fun i G2 H2 hi s2 h2 => ?_⟩⟩
      · obtain ⟨x, e1, tx⟩ := t.get hi
        have hL : SqL X.K H2 a vs := .inl ((sub_of h2).rd (s2.rd h))
        exact ⟨⟨vs, x, hL, e1⟩, fun y H3 hy => by
          obtain ⟨rfl, hy⟩ := hy
          have e2 := hy vs hL
          rw [e1] at e2; cases e2
          exact ⟨G2, Grow.refl h2, tx.mono s2⟩⟩
      · exact ⟨vs, .inl ((sub_of h2).rd (s2.rd h)), by rw [t.length]; exact hi⟩
    | tuple xs =>
      cases ei
      refine .inr (k σ H G ρ _ r ?_)
      rw [ef]
      intro v H1 G1 s1 r1 t1
      cases t1 with | tup h t =>
      rename_i a vs
      refine ⟨a, rfl, ⟨vs, sqt (r1.subG.rd h)⟩, q _ H1 G1 s1 r1 ⟨fun i d G2 H2 hi s2 h2 => ?_, fun i G2 H2 hi s2 h2 => ?_⟩⟩
      · obtain ⟨x, e1, tx⟩ := t.get hi
        have hL : SqT X.K H2 a vs := sqt ((sub_of h2).rd (s2.rd h))
        exact ⟨⟨vs, x, hL, e1⟩, fun y H3 hy => by
          obtain ⟨rfl, hy⟩ := hy
          have e2 := hy vs hL
          rw [e1] at e2; cases e2
          exact ⟨G2, Grow.refl h2, tx.mono s2⟩⟩
      · exact ⟨vs, sqt ((sub_of h2).rd (s2.rd h)), by rw [t.length]; exact hi⟩
    | _ => cases ei
/-! ### range -/
def rangeD (lo hi : Int) : List PyData := (List.range (hi - lo).toNat).map fun i => .int (lo + (i : Nat))
def rngOf : List PyData → Option (List PyData)
  | [.int j] => if -1000000 ≤ j ∧ j ≤ 1000000 then some (rangeD 0 j) else none
  | [.int i, .int j] => if (-1000000 ≤ i ∧ i ≤ 1000000) ∧ -1000000 ≤ j ∧ j ≤ 1000000 then some (rangeD i j) else none
  | _ => none
def fRng (fs : AF) : AF := fun ρ => (fs ρ).bind fun x => (ofO (rngOf x.1)).bind fun ds => .ok (ds, x.2)
theorem rangeD_get {lo hi : Int} {i : Nat} {d : PyData} (h : (rangeD lo hi)[i]? = some d) : i < (hi - lo).toNat ∧ d = .int (lo + (i : Nat)) := by
  unfold rangeD at h
  rw [List.getElem?_map] at h
  cases e : (List.range (hi - lo).toNat)[i]? with
  | none => rw [e] at h; cases h
  | some j =>
    rw [e] at h; cases h
    obtain ⟨h1, h2⟩ := List.getElem?_eq_some_iff.mp e
    simp at h1 h2
    subst h2
    exact ⟨by omega, rfl⟩
theorem yields_rng {K : PySem.W.Frag} {T : YT} {G : Hp} {lo hi : Int} {n : Nat} (hn : n = (hi - lo).toNat) : Yields K T (Itr lo n) G (rangeD lo hi) := by
  subst hn
  refine ⟨fun i d G2 H2 h _ h2 => ?_, fun i G2 H2 h _ _ => ?_⟩
  · obtain ⟨h1, rfl⟩ := rangeD_get h
    exact ⟨h1, fun x H3 hy => by
      obtain ⟨rfl, rfl⟩ := hy
      exact ⟨G2, Grow.refl h2, .int _⟩⟩
  · unfold rangeD at h
    rw [List.length_map, List.length_range] at h
    exact h
theorem ei_range1 (hm : X.mg "range" = none) (h : EA X B ok [a] fs) (hg : Gl X "range" := by rfl) (hs : starEach [a] X.env = [(false, eval a X.env)] := by rfl) : EI X B ok tg (.Call (.Name "range" p) [a] [] pos) (fRng fs) := by
  obtain ⟨t, pa, k⟩ := h.ex
  refine ⟨_, pi_range1 hg hm pa hs, fun σ H G ρ W r q => k σ H G ρ _ r ?_⟩
  have q := R.sat_bind (r := fs ρ) (f := fun x => (ofO (rngOf x.1)).bind fun ds => R.ok (ds, x.2)) q
  cases ef : fs ρ with
  | er c d => rw [ef] at q; exact q
  | no => rw [ef] at q; exact q
  | ok y =>
    rw [ef] at q
    have hl := h.len ρ y ef
    obtain ⟨xs, ρ1⟩ := y
    obtain ⟨ds, ei, q⟩ := ofO_sat (R.sat_bind (r := ofO (rngOf xs)) (f := fun ds => R.ok (ds, ρ1)) q)
    intro vs H1 G1 s1 r1 t1
    match xs, hl, ei, t1 with
    | [.int j], _, ei, .cons (.int _) .nil =>
      unfold rngOf at ei
      simp only at ei
      split at ei
      · rename_i hb
        cases ei
        exact ⟨j, rfl, by omega, by omega, q _ H1 G1 s1 r1 (yields_rng (by simp))⟩
      · cases ei
    | [.none], _, ei, _ => simp [rngOf] at ei
    | [.bool _], _, ei, _ => simp [rngOf] at ei
    | [.str _], _, ei, _ => simp [rngOf] at ei
    | [.list _], _, ei, _ => simp [rngOf] at ei
    | [.tuple _], _, ei, _ => simp [rngOf] at ei
    | [.dict _], _, ei, _ => simp [rngOf] at ei
theorem ei_range2 (hm : X.mg "range" = none) (h : EA X B ok [a, b] fs) (hg : Gl X "range" := by rfl) (hs : starEach [a, b] X.env = [(false, eval a X.env), (false, eval b X.env)] := by rfl) (hs2 : starEach [b] X.env = [(false, eval b X.env)] := by rfl) :
    EI X B ok tg (.Call (.Name "range" p) [a, b] [] pos) (fRng fs) := by
  obtain ⟨t, pa, k⟩ := h.ex
  refine ⟨_, pi_range2 hg hm pa hs hs2, fun σ H G ρ W r q => k σ H G ρ _ r ?_⟩
  have q := R.sat_bind (r := fs ρ) (f := fun x => (ofO (rngOf x.1)).bind fun ds => R.ok (ds, x.2)) q
  cases ef : fs ρ with
  | er c d => rw [ef] at q; exact q
  | no => rw [ef] at q; exact q
  | ok y =>
    rw [ef] at q
    have hl := h.len ρ y ef
    obtain ⟨xs, ρ1⟩ := y
    obtain ⟨ds, ei, q⟩ := ofO_sat (R.sat_bind (r := ofO (rngOf xs)) (f := fun ds => R.ok (ds, ρ1)) q)
    intro vs H1 G1 s1 r1 t1
    unfold rngOf at ei
    split at ei
    · simp at hl
    · split at ei
      · rename_i i j hb
        cases ei
        cases t1 with | cons u t1 =>
        cases t1 with | cons w t1 =>
        cases t1
        cases u; cases w
        exact ⟨i, j, rfl, by omega, q _ H1 G1 s1 r1 (yields_rng rfl)⟩
      · cases ei
    · cases ei
/-! ### for -/
def forF (g : PyData → En → Option En) (b : SF) : List PyData → En → Out
  | [], ρ => .nx ρ
  | d :: ds, ρ => match g d ρ with
    | some ρ1 => match b ρ1 with
      | .nx ρ2 => forF g b ds ρ2
      | .ct ρ2 => forF g b ds ρ2
      | .bk ρ2 => .nx ρ2
      | o => o
    | none => .no
def sFor (fi : AF) (g : PyData → En → Option En) (b : SF) : SF := fun ρ => ofR (fi ρ) fun x => forF g b x.1 x.2
theorem ss_for {body : List Stmt} {fi : AF} {g : PyData → En → Option En} {bf : SF} {sl : List Nat} (cx : CtxOk cls X B ok) (hi : EI X B ok tg e fi) (hg : TT' X B tg sl g) (hb : SB X B ok body bf) (hs : ∀ x, foldedSetIterable e X.env x = pure x := by intro _; rfl) :
    SS X B ok (.For tg e body [] pos) (sFor fi g bf) := by
  obtain ⟨wi, pw, kw⟩ := hi.ex
  obtain ⟨tt, pg, kg⟩ := hg.ex
  obtain ⟨tb, pb, kb⟩ := hb.ex
  refine ⟨_, ps_for cx.own cx.calm pw pg pb hs, fun σ H G ρ D r q => kw σ H G ρ _ r ((ofR_sat q).imp fun y qy J H1 G1 s1 r1 Yl => ?_)⟩
  have qy := qy.sub s1.sub
  obtain ⟨ds, ρ1⟩ := y
  refine ⟨fun i m σ2 H2 => m + i = ds.length ∧ ∃ G2 ρ2, Sub G1 G2 ∧ Rel X.K B G2 H2 σ2 ρ2 ∧ (forF g bf (ds.drop i) ρ2).sat X.K B ok G2 D, ⟨ds.length, by omega, G1, ρ1, Sub.refl _, r1, qy⟩, fun i m σ2 H2 hW => ?_⟩
  obtain ⟨hm, G2, ρ2, s2, r2, q2⟩ := hW
  cases hd : ds[i]? with
  | none =>
    have hl := List.getElem?_eq_none_iff.mp hd
    rw [List.drop_eq_nil_of_le hl] at q2
    exact .inl ⟨Yl.stop i G2 H2 hl s2 r2.sub, q2 σ2 H2 G2 (Sub.refl _) r2⟩
  | some d =>
    obtain ⟨hlt, hget⟩ := List.getElem?_eq_some_iff.mp hd
    rw [List.drop_eq_getElem_cons hlt, hget] at q2
    obtain ⟨hgo, hy⟩ := Yl.go i d G2 H2 hd s2 r2.sub
    refine .inr ⟨hgo, fun σ3 H3 => (m - 1) + (i + 1) = ds.length ∧ ∃ G3 ρ3, Sub G1 G3 ∧ Rel X.K B G3 H3 σ3 ρ3 ∧ (forF g bf (ds.drop (i + 1)) ρ3).sat X.K B ok G3 D, fun σ3 H3 h3 => ⟨m - 1, by omega, h3⟩, fun x H3 hx => ?_⟩
    obtain ⟨G3, g3, t3⟩ := hy x H3 hx
    have r3 := r2.step g3
    unfold forF at q2
    cases eg : g d ρ2 with
    | none => rw [eg] at q2; exact q2.elim
    | some ρ3 =>
      rw [eg] at q2
      refine kg σ2 H3 G3 ρ2 ρ3 x d _ r3 t3 eg fun σ4 r4 _ => kb σ4 H3 G3 ρ3 _ r4 ?_
      have q2 : Out.sat (match bf ρ3 with | .nx ρ2 => forF g bf (ds.drop (i + 1)) ρ2 | .ct ρ2 => forF g bf (ds.drop (i + 1)) ρ2 | .bk ρ2 => .nx ρ2 | o => o) X.K B ok G2 D := q2
      have q2 := q2.sub g3.gm
      cases eb : bf ρ3 with
      | nx ρ4 => rw [eb] at q2; exact fun σ5 H5 G5 s5 r5 => ⟨by omega, G5, ρ4, (s2.trans g3.gm).trans s5, r5, q2.sub s5⟩
      | ct ρ4 => rw [eb] at q2; exact fun σ5 H5 G5 s5 r5 => ⟨by omega, G5, ρ4, (s2.trans g3.gm).trans s5, r5, q2.sub s5⟩
      | bk ρ4 => rw [eb] at q2; exact q2
      | rt d ρ4 => rw [eb] at q2; exact q2
      | rn d ρ4 => rw [eb] at q2; exact q2
      | er c d => rw [eb] at q2; exact q2
      | no => rw [eb] at q2; exact q2
/-! ### while -/
def whileF (c : TF) (b : SF) : Nat → En → Out
  | 0, _ => .no
  | n + 1, ρ => ofR (c ρ) fun x => if x.1 = true then (match b x.2 with
      | .nx ρ2 => whileF c b n ρ2
      | .ct ρ2 => whileF c b n ρ2
      | .bk ρ2 => .nx ρ2
      | o => o) else .nx x.2
/-- the turns that a while may take -/
def fuel : Nat := 1000000000
def sWhile (c : TF) (b : SF) : SF := fun ρ => whileF c b fuel ρ
theorem ss_while {body : List Stmt} {bf : SF} (cx : CtxOk cls X B ok) (hc : ET X B ok c ft) (hb : SB X B ok body bf) : SS X B ok (.While c body [] pos) (sWhile ft bf) := by
  obtain ⟨tc, pc, kc⟩ := hc.ex
  obtain ⟨tb, pb, kb⟩ := hb.ex
  refine ⟨_, ps_while cx.own pc pb, fun σ H G ρ D r q => ?_⟩
  refine ⟨fun m σ2 H2 => ∃ G2 ρ2, Rel X.K B G2 H2 σ2 ρ2 ∧ (whileF ft bf m ρ2).sat X.K B ok G2 D, ⟨fuel, G, ρ, r, q⟩, fun m σ2 H2 hW => ?_⟩
  obtain ⟨G2, ρ2, r2, q2⟩ := hW
  cases m with
  | zero => exact q2.elim
  | succ m =>
    unfold whileF at q2
    refine kc σ2 H2 G2 ρ2 _ r2 ((ofR_sat q2).imp fun x qx H3 G3 s3 r3 => ?_)
    have qx := qx.sub s3.sub
    by_cases hx : x.1 = true
    · rw [if_pos hx] at qx ⊢
      refine ⟨fun σ5 H5 => ∃ G5 ρ5, Rel X.K B G5 H5 σ5 ρ5 ∧ (whileF ft bf m ρ5).sat X.K B ok G5 D, fun σ5 H5 h5 => ⟨m, by omega, h5⟩, kb σ2 H3 G3 x.2 _ r3 ?_⟩
      cases eb : bf x.2 with
      | nx ρ4 => rw [eb] at qx; exact fun σ5 H5 G5 s5 r5 => ⟨G5, ρ4, r5, qx.sub s5⟩
      | ct ρ4 => rw [eb] at qx; exact fun σ5 H5 G5 s5 r5 => ⟨G5, ρ4, r5, qx.sub s5⟩
      | bk ρ4 => rw [eb] at qx; exact qx
      | rt d ρ4 => rw [eb] at qx; exact qx
      | rn d ρ4 => rw [eb] at qx; exact qx
      | er c d => rw [eb] at qx; exact qx
      | no => rw [eb] at qx; exact qx
    · rw [if_neg hx] at qx ⊢
      exact qx σ2 H3 G3 (Sub.refl _) r3
end
end Y


/-! YComp: list comprehensions by data. -/
namespace Y
open PySem PySem.Spec PyProof.Rows L2
def wipeE (ρ : En) : List Nat → En
  | [] => ρ
  | v :: vs => (wipeE ρ vs).set v .un
/-- the comprehension's own names are told again as they were -/
def backE (ρ0 ρ : En) : List Nat → En
  | [] => ρ
  | v :: vs => match ρ0[v]? with
    | some (.sh d) => (backE ρ0 ρ vs).set v (.sh d)
    | _ => backE ρ0 ρ vs
section
variable {K : PySem.W.Frag} {B : Ent} {G H : Hp} {σ : St} {ρ : En}
theorem wipe_at : ∀ {vs : List Nat} {i : Nat}, (wipe σ vs)[i]? = if i ∈ vs then (if i < σ.length then some none else none) else σ[i]?
  | [], i => by simp [wipe]
  | v :: vs, i => by
    unfold wipe
    by_cases h : v = i
    · subst h
      by_cases hl : v < σ.length
      · rw [List.getElem?_set_self (by rw [wipe_length]; exact hl), if_pos List.mem_cons_self, if_pos hl]
      · rw [List.getElem?_eq_none (by rw [List.length_set, wipe_length]; omega), if_pos List.mem_cons_self, if_neg hl]
    · rw [List.getElem?_set_ne h, wipe_at]
      by_cases hm : i ∈ vs
      · rw [if_pos hm, if_pos (List.mem_cons_of_mem _ hm)]
      · rw [if_neg hm, if_neg (by simp only [List.mem_cons, not_or]; exact ⟨fun e => h e.symm, hm⟩)]
theorem wipe_same {σ σ' : St} {ρ ρ' : En} {sl vs : List Nat} (h : Mv sl σ ρ σ' ρ') (hs : ∀ i, i ∈ sl → i ∈ vs) : wipe σ' vs = wipe σ vs := by
  apply List.ext_getElem?
  intro i
  rw [wipe_at, wipe_at, h.len]
  by_cases hm : i ∈ vs
  · rw [if_pos hm, if_pos hm]
  · rw [if_neg hm, if_neg hm]
    exact h.same i fun z => hm (hs i z)
theorem wipe_wipe {vs : List Nat} : wipe (wipe σ vs) vs = wipe σ vs := by
  apply List.ext_getElem?
  intro i
  rw [wipe_at, wipe_at, wipe_length]
  by_cases hm : i ∈ vs
  · rw [if_pos hm, if_pos hm]
  · rw [if_neg hm]
theorem Rel.wipe : ∀ {vs : List Nat}, Rel K B G H σ ρ → Rel K B G H (L2.wipe σ vs) (wipeE ρ vs)
  | [], r => r
  | v :: vs, r => (Rel.wipe (vs := vs) r).setUn
theorem wipeE_at : ∀ {vs : List Nat} {i : Nat}, i ∈ vs → (wipeE ρ vs)[i]? = if i < ρ.length then some Sl.un else none := by
  have hl : ∀ vs : List Nat, (wipeE ρ vs).length = ρ.length := fun vs => by
    induction vs with
    | nil => rfl
    | cons v vs ih => unfold wipeE; rw [List.length_set, ih]
  intro vs
  induction vs with
  | nil => intro i h; cases h
  | cons v vs ih =>
    intro i h
    unfold wipeE
    by_cases e : v = i
    · subst e
      by_cases hi : v < ρ.length
      · rw [List.getElem?_set_self (by rw [hl]; exact hi), if_pos hi]
      · rw [List.getElem?_eq_none (by rw [List.length_set, hl]; omega), if_neg hi]
    · rw [List.getElem?_set_ne e]
      exact ih (by rcases List.mem_cons.mp h with z | z; exact absurd z.symm e; exact z)
/-- knowledge of the other slots holds of the frame's own -/
theorem Rel.unwipe {vs : List Nat} (r : Rel K B G H (L2.wipe σ vs) (wipeE ρ vs)) : Rel K B G H σ (wipeE ρ vs) := by
  have eq : ∀ i, i ∉ vs → (L2.wipe σ vs)[i]? = σ[i]? := fun i h => by rw [wipe_at, if_neg h]
  have un : ∀ i s, i ∈ vs → (wipeE ρ vs)[i]? = some s → s = .un := fun i s h e => by
    rw [wipeE_at h] at e
    split at e <;> cases e
    rfl
  refine ⟨r.bd, by have := r.len; rw [wipe_length] at this; exact this, fun i s h => ?_, fun i j s t a n hi hj ei ej => ?_⟩
  · by_cases hm : i ∈ vs
    · rw [un i s hm h]; trivial
    · have q := r.at_ i s h
      rw [eq i hm] at q
      exact q
  · have hmi : i ∉ vs := fun z => by rw [un i s z hi] at ei; exact ei
    have hmj : j ∉ vs := fun z => by rw [un j t z hj] at ej; exact ej
    exact r.sep i j s t a n hi hj (by rw [eq i hmi]; exact ei) (by rw [eq j hmj]; exact ej)
theorem Rel.back {G0 H0 : Hp} {ρ0 : En} (r0 : Rel K B G0 H0 σ ρ0) (s : Sub G0 G) : ∀ {vs : List Nat}, Rel K B G H σ ρ → Rel K B G H σ (backE ρ0 ρ vs)
  | [], r => r
  | v :: vs, r => by
    have r1 := Rel.back r0 s (vs := vs) r
    unfold backE
    split
    · rename_i d e
      obtain ⟨x, ex, t⟩ := r0.at_ v _ e
      have r2 := r1.setSh (i := v) (t.mono s)
      have es : σ.set v (some x) = σ := by
        apply List.ext_getElem?
        intro j
        by_cases hj : v = j
        · subst hj
          have hl : v < σ.length := (List.getElem?_eq_some_iff.mp ex).1
          rw [List.getElem?_set_self hl, ex]
        · rw [List.getElem?_set_ne hj]
      rw [es] at r2
      exact r2
    · exact r1
theorem free_back {ρ0 : En} {p : Addr} (f : Free σ ρ p) : ∀ {vs : List Nat}, Free σ (backE ρ0 ρ vs) p
  | [] => f
  | v :: vs => by
    have ih := free_back (ρ0 := ρ0) f (vs := vs)
    unfold backE
    split
    · intro j s h e
      by_cases hj : v = j
      · subst hj
        by_cases hl : v < (backE ρ0 ρ vs).length
        · rw [List.getElem?_set_self hl] at h; cases h; exact e
        · rw [List.getElem?_eq_none (by rw [List.length_set]; omega)] at h; cases h
      · rw [List.getElem?_set_ne hj] at h
        exact ih j s h e
    · exact ih
theorem free_wipeE {p : Addr} {τ : St} (f : Free τ ρ p) : ∀ {vs : List Nat}, Free (L2.wipe τ vs) (wipeE ρ vs) p := by
  intro vs j s h e
  by_cases hm : j ∈ vs
  · rw [wipeE_at hm] at h
    split at h <;> cases h
    exact e
  · have h1 : ∀ {vs : List Nat}, j ∉ vs → (wipeE ρ vs)[j]? = ρ[j]? := by
      intro vs
      induction vs with
      | nil => intro _; rfl
      | cons v vs ih =>
        intro hv
        simp only [List.mem_cons, not_or] at hv
        unfold wipeE
        rw [List.getElem?_set_ne (fun z => hv.1 z.symm)]
        exact ih hv.2
    rw [h1 hm] at h
    rw [wipe_at, if_neg hm] at e
    exact f j s h e
theorem free_unwipe {p : Addr} {vs : List Nat} (f : Free (L2.wipe σ vs) (wipeE ρ vs) p) : Free σ (wipeE ρ vs) p := fun j s h e => by
  by_cases hm : j ∈ vs
  · rw [wipeE_at hm] at h
    split at h <;> cases h
    exact e
  · exact f j s h (by rw [wipe_at, if_neg hm]; exact e)
/-- a loose list is changed -/
theorem Rel.loose {p : Addr} {ys xs : List V} (r : Rel K B G H σ ρ) (hp : H p = some (.lst ys)) (gp : G p = none) (bp : B.H p = none) (f : Free σ ρ p) : Rel K B G (upd H p (.lst xs)) σ ρ := by
  have nb : ∀ {b o}, B.H b = some o → b ≠ p := fun {b o} e z => by rw [z, bp] at e; cases e
  have ng : ∀ {b o}, G b = some o → b ≠ p := fun {b o} e z => by rw [z, gp] at e; cases e
  have own : ∀ {a d}, a ≠ p → Own K G H a d → Own K G (upd H p (.lst xs)) a d := fun {a d} n w => w.keep (Sub.refl G) fun o e => by rw [upd_ne n]; exact e
  refine ⟨⟨fun b o e => by rw [upd_ne (ng e)]; exact r.sub b o e, r.bd.gm, fun b o e n t => by rw [upd_ne (nb e)]; exact r.bd.hm b o e n t, fun b e => ?_, r.bd.gn, fun t => ?_⟩, r.len, fun i s h => ?_, r.sep⟩
  · by_cases hb : b = p
    · subst hb; rw [upd_same]; simp
    · rw [upd_ne hb]; exact r.bd.hs b e
  · intro P hP
    obtain ⟨ps, h1, h2, h3⟩ := r.bd.tb t P hP
    refine ⟨ps, by rw [upd_ne (fun z => by rw [z, hp] at h1; cases h1)]; exact h1, h2, fun pos cv hc => ?_⟩
    obtain ⟨c, e1, e2⟩ := h3 pos cv hc
    refine ⟨c, e1, ?_⟩
    rw [upd_ne (fun z => by rw [z, hp] at e2; cases e2)]
    exact e2
  · have q := r.at_ i s h
    cases s with
    | un => trivial
    | lam => exact q
    | sh d => exact q
    | ow d => obtain ⟨a, e, n, z, w⟩ := q; exact ⟨a, e, n, z, own (fun z => f i _ h (by subst z; exact e)) w⟩
    | io d => obtain ⟨a, e, n, z, w⟩ := q; exact ⟨a, e, n, z, own (fun z => f i _ h (by subst z; exact e)) w⟩
end
def tYes' : TF := fun ρ => .ok (true, ρ)
structure EC (X : Cx) (B : Ent) (ok : OkX) (ifs : List Expr) (f : TF) : Prop where
  ex : ∃ t : TT, PTs X ifs t ∧ ∀ (σ : St) (H G : Hp) (ρ : En) (Q : Bool → Hp → Prop), Rel X.K B G H σ ρ →
    (f ρ).sat (fun r => ∀ H' G', Adv σ G H ρ G' H' r.2 → Rel X.K B G' H' σ r.2 → Q r.1 H') ok → t σ H Q
def compF (vs : List Nat) (g : PyData → En → Option En) (t : TF) (f : EF) : List PyData → En → R (List PyData × En)
  | [], ρ => .ok ([], ρ)
  | d :: ds, ρ => match g d ρ with
    | some ρ1 => (t ρ1).bind fun x => if x.1 = true then (f x.2).bind fun y => (compF vs g t f ds (wipeE y.2 vs)).bind fun z => .ok (y.1 :: z.1, z.2)
      else compF vs g t f ds (wipeE x.2 vs)
    | none => .no
def strict {α : Type} : R α → R α
  | .er _ _ => .no
  | r => r
theorem strict_sat {α : Type} {r : R α} {P : α → Prop} {E : OkX} (h : (strict r).sat P E) : r.sat P noX := by
  cases r with
  | ok a => exact h
  | er c d => exact h.elim
  | no => exact h
def fComp (vs : List Nat) (fi : AF) (g : PyData → En → Option En) (t : TF) (f : EF) : EF := fun ρ => (fi ρ).bind fun x => if x.1.length ≤ 1000000 then (strict (compF vs g t f x.1 (wipeE x.2 vs))).bind fun z => .ok (.list z.1, backE x.2 z.2 vs) else .no
section
variable {X : Cx} {B : Ent} {ok : OkX} {cls : Clss} {tg elt e c : Expr} {fa f : EF} {ft : TF} {pos p : Pos}
theorem ec_nil : EC X B ok [] tYes' := ⟨_, pts_nil, fun σ H G ρ Q r q => q H G Adv.refl r⟩
theorem ec_one (h : ET X B ok c ft) : EC X B ok [c] ft := by
  obtain ⟨t, p, k⟩ := h.ex
  exact ⟨_, pts_one p, k⟩
/-- a comprehension's parts run in its own block -/
abbrev Blk (X : Cx) (scope : Scope) (P : Cx → Prop) : Prop := ∀ (s : Shared) (H : Hp) (C : Addr) (cl : List (Str × Addr)) (fp : List Addr), P (X.blk s H scope (compEnvC scope cl C X.env) fp)
theorem takes_nil {X : Cx} : Takes X (fun _ _ _ _ => False) := fun _ _ x => by
  obtain ⟨_, _, _, _, _, _, _, _, _, _, _, _, _, _, _, _, z⟩ := x
  exact z.elim
/-- in a comprehension's block nothing is raised -/
theorem CtxE.blk (cx : CtxE cls X B ok) {s : Shared} {H : Hp} {scope : Scope} {cenv : Env} {fp : List Addr} : CtxE cls (X.blk s H scope cenv fp) B noX := ⟨cx.calm, cx.tabs, cx.gd, fun _ _ _ => False, takes_nil, fun _ _ h => h.elim⟩
theorem uniE {scope : Scope} (h : Blk X scope fun Y => EE Y B noX elt f) : ∃ te : TE, (Blk X scope fun Y => PE Y elt te) ∧ ∀ (σ : St) (H G : Hp) (ρ : En) (Q : VK), Rel X.K B G H σ ρ →
    (f ρ).sat (fun r => ∀ v H' G', Adv σ G H ρ G' H' r.2 → Rel X.K B G' H' σ r.2 → Tr X.K G' v r.1 → Q v H') noX → te σ H Q := by
  refine ⟨fun σ H Q => ∀ t : TE, (∀ (σ : St) (H G : Hp) (ρ : En) (Q : VK), Rel X.K B G H σ ρ → (f ρ).sat (fun r => ∀ v H' G', Adv σ G H ρ G' H' r.2 → Rel X.K B G' H' σ r.2 → Tr X.K G' v r.1 → Q v H') noX → t σ H Q) → t σ H Q, fun s H C cl fp => ?_, fun σ H G ρ Q r q t k => k σ H G ρ Q r q⟩
  obtain ⟨t, p, k⟩ := (h s H C cl fp).ex
  exact ⟨fun pins s σ H Q I w => p.run pins s σ H Q I (w t k)⟩
theorem uniC {scope : Scope} {ifs : List Expr} (h : Blk X scope fun Y => EC Y B noX ifs ft) : ∃ te : TT, (Blk X scope fun Y => PTs Y ifs te) ∧ ∀ (σ : St) (H G : Hp) (ρ : En) (Q : Bool → Hp → Prop), Rel X.K B G H σ ρ →
    (ft ρ).sat (fun r => ∀ H' G', Adv σ G H ρ G' H' r.2 → Rel X.K B G' H' σ r.2 → Q r.1 H') noX → te σ H Q := by
  refine ⟨fun σ H Q => ∀ t : TT, (∀ (σ : St) (H G : Hp) (ρ : En) (Q : Bool → Hp → Prop), Rel X.K B G H σ ρ → (ft ρ).sat (fun r => ∀ H' G', Adv σ G H ρ G' H' r.2 → Rel X.K B G' H' σ r.2 → Q r.1 H') noX → t σ H Q) → t σ H Q, fun s H C cl fp => ?_, fun σ H G ρ Q r q t k => k σ H G ρ Q r q⟩
  obtain ⟨t, p, k⟩ := (h s H C cl fp).ex
  exact ⟨fun pins s σ H Q I w => p.run pins s σ H Q I (w t k)⟩
theorem uniT {scope : Scope} {sl : List Nat} {g : PyData → En → Option En} (h : Blk X scope fun Y => TT' Y B tg sl g) : ∃ gt : TG, (Blk X scope fun Y => PG Y tg gt) ∧ ∀ (σ : St) (H G : Hp) (ρ ρ' : En) (v : V) (d : PyData) (Q : St → Hp → Prop), Rel X.K B G H σ ρ → Tr X.K G v d → g d ρ = some ρ' → (∀ σ', Rel X.K B G H σ' ρ' → Mv sl σ ρ σ' ρ' → Q σ' H) → gt v σ H Q := by
  refine ⟨fun v σ H Q => ∀ t : TG, (∀ (σ : St) (H G : Hp) (ρ ρ' : En) (v : V) (d : PyData) (Q : St → Hp → Prop), Rel X.K B G H σ ρ → Tr X.K G v d → g d ρ = some ρ' → (∀ σ', Rel X.K B G H σ' ρ' → Mv sl σ ρ σ' ρ' → Q σ' H) → t v σ H Q) → t v σ H Q, fun s H C cl fp => ?_, fun σ H G ρ ρ' v d Q r tr e q t k => k σ H G ρ ρ' v d Q r tr e q⟩
  obtain ⟨t, p, k⟩ := (h s H C cl fp).ex
  exact ⟨fun pins s σ H v u Q I r w => p.run pins s σ H v u Q I r (w t k)⟩
/-- a comprehension's reading, whatever takes the list -/
theorem comp_rd {ifs : List Expr} {scope : Scope} {own : List (Str × Nat)} {sl : List Nat} {fi : AF} {g : PyData → En → Option En}
    (hi : EI X B ok tg e fi) (hg : Blk X scope fun Y => TT' Y B tg sl g) (ht : Blk X scope fun Y => EC Y B noX ifs ft) (he : Blk X scope fun Y => EE Y B noX elt f)
    (hsl : ∀ i, i ∈ sl → i ∈ own.map (·.2)) :
    ∃ (wi : TI) (gt : TG) (tt : TT) (te : TE), PI X tg e wi ∧ (Blk X scope fun Y => PG Y tg gt) ∧ (Blk X scope fun Y => PTs Y ifs tt) ∧ (Blk X scope fun Y => PE Y elt te) ∧
      ∀ (σ : St) (H G : Hp) (ρ : En) (Q : VK), Rel X.K B G H σ ρ → (fComp (own.map (·.2)) fi g ft f ρ).sat (fun r => ∀ p H' G', H p = none → Adv σ G H ρ G' H' r.2 → Rel X.K B G' H' σ r.2 → Fresh X.K B G' H' σ r.2 p r.1 → Q (.ref p) H') ok → tLc wi gt tt te (own.map (·.2)) σ H Q := by
  obtain ⟨wi, pw, kw⟩ := hi.ex
  obtain ⟨gt, pg, kg⟩ := uniT hg
  obtain ⟨tt, pt, kt⟩ := uniC ht
  obtain ⟨te, pe, ke⟩ := uniE he
  refine ⟨wi, gt, tt, te, pw, pg, pt, pe, fun σ H G ρ Q r q => kw σ H G ρ _ r ?_⟩
  generalize own.map (·.2) = vs at hsl q ⊢
  refine (R.sat_bind (r := fi ρ) (f := fun x => if x.1.length ≤ 1000000 then (strict (compF vs g ft f x.1 (wipeE x.2 vs))).bind fun z => R.ok (PyData.list z.1, backE x.2 z.2 vs) else .no) q).imp fun y q J H1 G1 s1 r1 Yl => ?_
  obtain ⟨ds, ρ1⟩ := y
  obtain ⟨hsz, q⟩ := ite_sat q
  have hsz : ds.length ≤ 1000000 := hsz
  have q := strict_sat (R.sat_bind (r := strict (compF vs g ft f ds (wipeE ρ1 vs))) (f := fun z => R.ok (PyData.list z.1, backE ρ1 z.2 vs)) q)
  intro D hD
  have hD0 : H D = none := s1.pre hD
  -- what stands between two turns: the list so far, what the rest is to give
  let PF : List PyData → List PyData × En → Prop := fun acc z => ∀ p H' G', H p = none → Adv σ G H ρ G' H' (backE ρ1 z.2 vs) → Rel X.K B G' H' σ (backE ρ1 z.2 vs) → Fresh X.K B G' H' σ (backE ρ1 z.2 vs) p (.list (acc ++ z.1)) → Q (.ref p) H'
  let IV : Nat → Hp → Prop := fun i H2 => ∃ G2 ρ2 accV accD, Adv (wipe σ vs) G1 H1 (wipeE ρ1 vs) G2 H2 ρ2 ∧ (∃ ρ3, ρ2 = wipeE ρ3 vs) ∧ Rel X.K B G2 H2 (wipe σ vs) ρ2 ∧ H2 D = some (.lst accV) ∧ TrAll X.K G2 accV accD ∧ accD.length ≤ i ∧
      G2 D = none ∧ Free (wipe σ vs) ρ2 D ∧ (compF vs g ft f (ds.drop i) ρ2).sat (PF accD) noX
  have hBD : B.H D = none := by
    cases e : B.H D with
    | none => rfl
    | some u => exact absurd hD (r1.bd.hs D (by rw [e]; simp))
  have fD : Free σ ρ1 D := fun j s h e => by
    obtain ⟨_, _, d', _, w', _⟩ := r1.ownOf h e
    obtain ⟨o', ho, _⟩ := w'.nt
    rw [hD] at ho; cases ho
  have g0 : Grow B.T [] G1 H1 G1 (upd H1 D (.lst [])) := Grow.newO r1.sub hD
  refine ⟨fun i m H2 => m + i = ds.length ∧ IV i H2, ⟨ds.length, rfl, G1, wipeE ρ1 vs, [], [], Adv.grow g0, ⟨_, rfl⟩, (r1.step g0).wipe, upd_same, .nil, Nat.le_refl _, none_of_sub r1.sub hD, free_wipeE fD, q⟩, fun i m H2 hW => ?_⟩
  obtain ⟨hm, G2, ρ2, accV, accD, s2, hw2, r2, hD2, tA, hlen, gD2, fD2, q2⟩ := hW
  cases hd : ds[i]? with
  | none =>
    have hl := List.getElem?_eq_none_iff.mp hd
    rw [List.drop_eq_nil_of_le hl] at q2
    refine .inl ⟨Yl.stop i G2 H2 hl s2.sub r2.sub, ?_⟩
    obtain ⟨ρ3, rfl⟩ := hw2
    have rb : Rel X.K B G2 H2 σ (backE ρ1 (wipeE ρ3 vs) vs) := Rel.back r1 s2.sub r2.unwipe
    have fr : ∀ p, Free (wipe σ vs) (wipeE ρ3 vs) p → Free σ (backE ρ1 (wipeE ρ3 vs) vs) p := fun p f => free_back (free_unwipe f)
    have q3 := q2 D H2 G2 hD0 (s1.trans ⟨s2.sub, s2.hs, fun p o h n t f => by
      obtain ⟨a1, a2, a3⟩ := s2.loose p o h n t (free_wipeE f)
      exact ⟨a1, a2, fr p a3⟩⟩) rb ⟨gD2, hBD, by rw [List.append_nil]; exact .lst hD2 tA, fr D fD2⟩
    exact q3
  | some d =>
    obtain ⟨hlt, hget⟩ := List.getElem?_eq_some_iff.mp hd
    rw [List.drop_eq_getElem_cons hlt, hget] at q2
    obtain ⟨hgo, hy⟩ := Yl.go i d G2 H2 hd s2.sub r2.sub
    refine .inr ⟨hgo, IV (i + 1), fun H' h' => ⟨m - 1, by omega, by omega, h'⟩, fun x H3 hx => ?_⟩
    obtain ⟨G3, g3, t3⟩ := hy x H3 hx
    have r3 := r2.step g3
    have a3 : Adv (wipe σ vs) G2 H2 ρ2 G3 H3 ρ2 := Adv.grow g3
    obtain ⟨hD3, gD3, fD3⟩ := a3.loose D _ hD2 gD2 (fun _ z => nomatch z) fD2
    unfold compF at q2
    cases eg : g d ρ2 with
    | none => rw [eg] at q2; exact q2.elim
    | some ρ3 =>
      rw [eg] at q2
      refine kg (wipe σ vs) H3 G3 ρ2 ρ3 x d _ r3 t3 eg fun σ4 r4 m4 => ?_
      have e4 : wipe σ4 vs = wipe σ vs := (wipe_same m4 hsl).trans wipe_wipe
      refine ⟨e4, kt σ4 H3 G3 ρ3 _ r4 ((R.sat_bind (r := ft ρ3) (f := fun x => if x.1 = true then (f x.2).bind fun y => (compF vs g ft f (ds.drop (i + 1)) (wipeE y.2 vs)).bind fun z => R.ok (y.1 :: z.1, z.2)
        else compF vs g ft f (ds.drop (i + 1)) (wipeE x.2 vs)) q2).imp fun y qy H5 G5 s5 r5 => ?_)⟩
      have fD4 := m4.free D fD3
      obtain ⟨hD5, gD5, fD5⟩ := s5.loose D _ hD3 gD3 (fun _ z => nomatch z) fD4
      -- a loose object ahead of the turn is loose behind it
      have adv : ∀ {G6 H6 : Hp} {ρ6 : En}, Adv σ4 G3 H3 ρ3 G6 H6 ρ6 → ∀ H7 : Hp, (∀ b, b ≠ D → H7 b = H6 b) → H7 D ≠ none → Adv (wipe σ vs) G1 H1 (wipeE ρ1 vs) G6 H7 (wipeE ρ6 vs) := fun {G6 H6 ρ6} s6 H7 h7 h8 => by
        refine ⟨(s2.sub.trans g3.gm).trans s6.sub, fun b hb => ?_, fun p o hp np tp fp => ?_⟩
        · by_cases z : b = D
          · subst z; exact h8
          · rw [h7 b z]; exact s6.hs b (a3.hs b (s2.hs b hb))
        · obtain ⟨b1, b2, b3⟩ := (s2.trans a3).loose p o hp np tp fp
          obtain ⟨c1, c2, c3⟩ := s6.loose p o b1 b2 tp (m4.free p b3)
          refine ⟨by rw [h7 p (ne_of_none hp hD)]; exact c1, c2, ?_⟩
          have := free_wipeE (vs := vs) c3
          rw [e4] at this
          exact this
      by_cases hx : y.1 = true
      · rw [if_pos hx] at qy ⊢
        refine ke σ4 H5 G5 y.2 _ r5 ((R.sat_bind (r := f y.2) (f := fun y => (compF vs g ft f (ds.drop (i + 1)) (wipeE y.2 vs)).bind fun z => R.ok (y.1 :: z.1, z.2)) qy).imp fun u qu v H6 G6 s6 r6 t6 => ?_)
        obtain ⟨hD6, gD6, fD6⟩ := s6.loose D _ hD5 gD5 (fun _ z => nomatch z) fD5
        have sz : accV.length < sizeLine := by
          have := tA.length
          have z : (1000000 : Nat) < sizeLine := by decide
          omega
        refine ⟨accV, hD6, sz, G6, wipeE u.2 vs, accV ++ [v], accD ++ [u.1], adv (s5.trans s6) _ (fun b hb => upd_ne hb) (by rw [upd_same]; simp), ⟨_, rfl⟩, ?_, upd_same, (tA.mono (((g3.gm.trans s5.sub)).trans s6.sub)).append (.cons t6 .nil), by simp; omega, gD6, ?_, ?_⟩
        · have := (r6.loose hD6 gD6 hBD fD6 (xs := accV ++ [v])).wipe (vs := vs)
          rw [e4] at this
          exact this
        · have := free_wipeE (vs := vs) fD6
          rw [e4] at this
          exact this
        · refine (R.sat_bind (r := compF vs g ft f (ds.drop (i + 1)) (wipeE u.2 vs)) (f := fun z => R.ok (u.1 :: z.1, z.2)) qu).imp fun z qz => ?_
          intro p H' G' hp a r' x'
          exact qz p H' G' hp a r' (by rw [List.append_assoc] at x'; exact x')
      · rw [if_neg hx] at qy ⊢
        refine ⟨G5, wipeE y.2 vs, accV, accD, adv s5 H5 (fun _ _ => rfl) (by rw [hD5]; simp), ⟨_, rfl⟩, ?_, hD5, tA.mono (g3.gm.trans s5.sub), by omega, gD5, ?_, qy⟩
        · have := r5.wipe (vs := vs)
          rw [e4] at this
          exact this
        · have := free_wipeE (vs := vs) fD5
          rw [e4] at this
          exact this
theorem en_comp {ifs : List Expr} {scope : Scope} {own : List (Str × Nat)} {sl : List Nat} {fi : AF} {g : PyData → En → Option En} (cx : CtxE cls X B ok) (hN : X.N.Nodup) (bk : BlkOk X.N X.env.scope scope own)
    (hi : EI X B ok tg e fi) (hg : Blk X scope fun Y => TT' Y B tg sl g) (ht : Blk X scope fun Y => EC Y B noX ifs ft) (he : Blk X scope fun Y => EE Y B noX elt f)
    (hsl : ∀ i, i ∈ sl → i ∈ own.map (·.2) := by decide) (hs : ∀ x, foldedSetIterable e X.env x = pure x := by intro _; rfl) :
    EN X B ok (.ListComp elt [⟨tg, e, ifs, 0⟩] scope pos) (fComp (own.map (·.2)) fi g ft f) := by
  obtain ⟨wi, gt, tt, te, pw, pg, pt, pe, k⟩ := comp_rd hi hg ht he hsl
  exact ⟨_, pe_lc cx.calm hN pw bk pg pt pe hs, k⟩
/-- name = [..] on one line, the name a local -/
theorem ss_ownC {ifs : List Expr} {scope : Scope} {own : List (Str × Nat)} {sl : List Nat} {fi : AF} {g : PyData → En → Option En} {x : Str} {p2 : Pos} {spos : Pos} (i : Nat) (cx : CtxE cls X B ok) (hN : X.N.Nodup) (bk : BlkOk X.N X.env.scope scope own)
    (hi : EI X B ok tg e fi) (hg : Blk X scope fun Y => TT' Y B tg sl g) (ht : Blk X scope fun Y => EC Y B noX ifs ft) (he : Blk X scope fun Y => EE Y B noX elt f)
    (hx : X.N[i]? = some x := by rfl) (hl : X.env.scope.names.lookup x = some .local := by rfl) (hk : X.env.scope.kind = .function := by rfl) (hln : (p2.line == pos.line) = true := by rfl)
    (ha : (scope.names.any fun (n, k) => n == x && (k == .local || k == .cell)) = false := by rfl)
    (hsl : ∀ i, i ∈ sl → i ∈ own.map (·.2) := by decide) (hs : ∀ x, foldedSetIterable e X.env x = pure x := by intro _; rfl) :
    SS X B ok (.Assign [.Name x p2] (.ListComp elt [⟨tg, e, ifs, 0⟩] scope pos) spos) (sOwn (fComp (own.map (·.2)) fi g ft f) i) := by
  obtain ⟨wi, gt, tt, te, pw, pg, pt, pe, k⟩ := comp_rd hi hg ht he hsl
  refine ⟨_, ps_setLc cx.calm hN hx hl (sw_true hk hl hln ha) pw bk pg pt pe hs, fun σ H G ρ D r q => k σ H G ρ _ r ((ofR_sat q).imp fun y qx v H1 G1 hp s1 r1 x1 => ?_)⟩
  exact qx _ H1 G1 s1.sub (r1.setOw x1.g x1.b x1.own x1.ap)
end
end Y


/-! YComp2: list comprehensions with two clauses. -/
namespace Y
open PySem PySem.Spec PyProof.Rows L2
def compF2 (vs : List Nat) (g : PyData → En → Option En) (t : TF) (fi1 : AF) (vs1 : List Nat) (g1 : PyData → En → Option En) (t1 : TF) (f : EF) : List PyData → En → R (List PyData × En)
  | [], ρ => .ok ([], ρ)
  | d :: ds, ρ => match g d ρ with
    | some ρ1 => (t ρ1).bind fun x => if x.1 = true then (fi1 x.2).bind fun y => (compF vs1 g1 t1 f y.1 (wipeE y.2 vs1)).bind fun z => (compF2 vs g t fi1 vs1 g1 t1 f ds (wipeE z.2 vs)).bind fun w => .ok (z.1 ++ w.1, w.2)
      else compF2 vs g t fi1 vs1 g1 t1 f ds (wipeE x.2 vs)
    | none => .no
def fComp2 (vs : List Nat) (fi : AF) (g : PyData → En → Option En) (t : TF) (fi1 : AF) (vs1 : List Nat) (g1 : PyData → En → Option En) (t1 : TF) (f : EF) : EF := fun ρ => (fi ρ).bind fun x => (strict (compF2 vs g t fi1 vs1 g1 t1 f x.1 (wipeE x.2 vs))).bind fun z => if z.1.length ≤ 1000000 then .ok (.list z.1, backE x.2 z.2 vs) else .no
theorem wipe_sub {σ : St} {vs1 vs : List Nat} (h : ∀ i ∈ vs1, i ∈ vs) : wipe (wipe σ vs1) vs = wipe σ vs := by
  apply List.ext_getElem?
  intro i
  rw [wipe_at (vs := vs), wipe_at (vs := vs), wipe_length]
  by_cases hm : i ∈ vs
  · rw [if_pos hm, if_pos hm]
  · rw [if_neg hm, if_neg hm, wipe_at, if_neg fun z => hm (h i z)]
theorem sat_noX {α : Type} {r : R α} {P : α → Prop} (h : r.sat P noX) : ∃ a, r = .ok a ∧ P a := by
  cases r with
  | ok a => exact ⟨a, rfl, h⟩
  | er c d => exact h.elim
  | no => exact h.elim
section
variable {K : PySem.W.Frag} {B : Ent}
/-- what is loose stays loose -/
def Lo (P : Addr → HO → Prop) (G H : Hp) (σ : St) (ρ : En) : Prop := ∀ p o, P p o → H p = some o ∧ G p = none ∧ Free σ ρ p
theorem Lo.adv {P : Addr → HO → Prop} {G H G' H' : Hp} {σ : St} {ρ ρ' : En} (hP : ∀ p o, P p o → ∀ ps, o ≠ .tbl ps) (l : Lo P G H σ ρ) (a : Adv σ G H ρ G' H' ρ') : Lo P G' H' σ ρ' := fun p o h => by
  obtain ⟨h1, h2, h3⟩ := l p o h
  exact a.loose p o h1 h2 (hP p o h) h3
/-- a loop of a comprehension: the list D grows -/
theorem turns {D : Addr} {vs1 sl1 : List Nat} {g1 : PyData → En → Option En} {t1 : TF} {f : EF} {gt : TG} {tt : TT} {te : TE}
    (kg : ∀ (σ : St) (H G : Hp) (ρ ρ' : En) (v : V) (d : PyData) (Q : St → Hp → Prop), Rel K B G H σ ρ → Tr K G v d → g1 d ρ = some ρ' → (∀ σ', Rel K B G H σ' ρ' → Mv sl1 σ ρ σ' ρ' → Q σ' H) → gt v σ H Q)
    (kt : ∀ (σ : St) (H G : Hp) (ρ : En) (Q : Bool → Hp → Prop), Rel K B G H σ ρ → (t1 ρ).sat (fun r => ∀ H' G', Adv σ G H ρ G' H' r.2 → Rel K B G' H' σ r.2 → Q r.1 H') noX → tt σ H Q)
    (ke : ∀ (σ : St) (H G : Hp) (ρ : En) (Q : VK), Rel K B G H σ ρ → (f ρ).sat (fun r => ∀ v H' G', Adv σ G H ρ G' H' r.2 → Rel K B G' H' σ r.2 → Tr K G' v r.1 → Q v H') noX → te σ H Q)
    (hsl : ∀ i, i ∈ sl1 → i ∈ vs1) {P : Addr → HO → Prop} (hP : ∀ p o, P p o → ∀ ps, o ≠ .tbl ps) (hPD : ∀ p o, P p o → p ≠ D) {Hs : Addr → Prop} (hBD : B.H D = none) {Done : Hp → Prop} {ds : List PyData} {J : It} {G1 H1 : Hp} {σ : St} {ρ1 : En} {accV0 : List V} {accD0 : List PyData}
    (Yl : Yields K B.T J G1 ds) (r1 : Rel K B G1 H1 σ ρ1) (hD1 : H1 D = some (.lst accV0)) (tA1 : TrAll K G1 accV0 accD0) (gD1 : G1 D = none) (fD1 : Free σ ρ1 D) (lo1 : Lo P G1 H1 σ ρ1) (hs1 : ∀ b, Hs b → H1 b ≠ none)
    (q : (compF vs1 g1 t1 f ds (wipeE ρ1 vs1)).sat (fun z => (accD0 ++ z.1).length ≤ 1000000 ∧ ∀ G' H' accV, Sub G1 G' → Rel K B G' H' (wipe σ vs1) z.2 → H' D = some (.lst accV) → TrAll K G' accV (accD0 ++ z.1) → G' D = none → Free (wipe σ vs1) z.2 D → Lo P G' H' (wipe σ vs1) z.2 → (∀ b, Hs b → H' b ≠ none) → Done H') noX) :
    ∃ W1 : Nat → Nat → Hp → Prop, (∃ m, W1 0 m H1) ∧ ∀ j k H, W1 j k H → (J.stop j H ∧ Done H) ∨ (J.go j H ∧ ∃ Nx1 : Hp → Prop, (∀ H', Nx1 H' → ∃ k', k' < k ∧ W1 (j + 1) k' H') ∧ ∀ x H', J.yld j H x H' → gt x (wipe σ vs1) H' fun σ3 H5 => wipe σ3 vs1 = wipe σ vs1 ∧ tt σ3 H5 fun b H6 =>
      if b = true then te σ3 H6 fun y H7 => ∃ acc, H7 D = some (.lst acc) ∧ acc.length < sizeLine ∧ Nx1 (upd H7 D (.lst (acc ++ [y]))) else Nx1 H6) := by
  let PF : List PyData → List PyData × En → Prop := fun acc z => (acc ++ z.1).length ≤ 1000000 ∧ ∀ G' H' accV, Sub G1 G' → Rel K B G' H' (wipe σ vs1) z.2 → H' D = some (.lst accV) → TrAll K G' accV (acc ++ z.1) → G' D = none → Free (wipe σ vs1) z.2 D → Lo P G' H' (wipe σ vs1) z.2 → (∀ b, Hs b → H' b ≠ none) → Done H'
  let IV : Nat → Hp → Prop := fun i H2 => ∃ G2 ρ2 accV accD, Sub G1 G2 ∧ Rel K B G2 H2 (wipe σ vs1) ρ2 ∧ H2 D = some (.lst accV) ∧ TrAll K G2 accV accD ∧ G2 D = none ∧ Free (wipe σ vs1) ρ2 D ∧ Lo P G2 H2 (wipe σ vs1) ρ2 ∧ (∀ b, Hs b → H2 b ≠ none) ∧ (compF vs1 g1 t1 f (ds.drop i) ρ2).sat (PF accD) noX
  refine ⟨fun i m H2 => m + i = ds.length ∧ IV i H2, ⟨ds.length, rfl, G1, wipeE ρ1 vs1, accV0, accD0, Sub.refl G1, r1.wipe, hD1, tA1, gD1, free_wipeE fD1, fun p o h => let ⟨a, b, c⟩ := lo1 p o h; ⟨a, b, free_wipeE c⟩, hs1, q⟩, fun i m H2 hW => ?_⟩
  obtain ⟨hm, G2, ρ2, accV, accD, s2, r2, hD2, tA, gD2, fD2, lo2, hs2, q2⟩ := hW
  cases hd : ds[i]? with
  | none =>
    have hl := List.getElem?_eq_none_iff.mp hd
    rw [List.drop_eq_nil_of_le hl] at q2
    exact .inl ⟨Yl.stop i G2 H2 hl s2 r2.sub, q2.2 G2 H2 accV s2 r2 hD2 (by rw [List.append_nil]; exact tA) gD2 fD2 lo2 hs2⟩
  | some d =>
    obtain ⟨hlt, hget⟩ := List.getElem?_eq_some_iff.mp hd
    rw [List.drop_eq_getElem_cons hlt, hget] at q2
    obtain ⟨hgo, hy⟩ := Yl.go i d G2 H2 hd s2 r2.sub
    refine .inr ⟨hgo, IV (i + 1), fun H' h' => ⟨m - 1, by omega, by omega, h'⟩, fun x H3 hx => ?_⟩
    obtain ⟨G3, g3, t3⟩ := hy x H3 hx
    have r3 := r2.step g3
    have a3 : Adv (wipe σ vs1) G2 H2 ρ2 G3 H3 ρ2 := Adv.grow g3
    obtain ⟨hD3, gD3, fD3⟩ := a3.loose D _ hD2 gD2 (fun _ z => nomatch z) fD2
    have lo3 := lo2.adv hP a3
    unfold compF at q2
    cases eg : g1 d ρ2 with
    | none => rw [eg] at q2; exact q2.elim
    | some ρ3 =>
      rw [eg] at q2
      refine kg (wipe σ vs1) H3 G3 ρ2 ρ3 x d _ r3 t3 eg fun σ4 r4 m4 => ?_
      have e4 : wipe σ4 vs1 = wipe σ vs1 := (wipe_same m4 hsl).trans wipe_wipe
      refine ⟨e4, kt σ4 H3 G3 ρ3 _ r4 ((R.sat_bind (r := t1 ρ3) (f := fun x => if x.1 = true then (f x.2).bind fun y => (compF vs1 g1 t1 f (ds.drop (i + 1)) (wipeE y.2 vs1)).bind fun z => R.ok (y.1 :: z.1, z.2)
        else compF vs1 g1 t1 f (ds.drop (i + 1)) (wipeE x.2 vs1)) q2).imp fun y qy H5 G5 s5 r5 => ?_)⟩
      have fD4 := m4.free D fD3
      have lo4 : Lo P G3 H3 σ4 ρ3 := fun p o h => let ⟨a, b, c⟩ := lo3 p o h; ⟨a, b, m4.free p c⟩
      obtain ⟨hD5, gD5, fD5⟩ := s5.loose D _ hD3 gD3 (fun _ z => nomatch z) fD4
      have lo5 := lo4.adv hP s5
      have hs5 : ∀ b, Hs b → H5 b ≠ none := fun b h => s5.hs b (a3.hs b (hs2 b h))
      have wl : ∀ {G6 H6 : Hp} {ρ6 : En}, Lo P G6 H6 σ4 ρ6 → ∀ H7 : Hp, (∀ b, b ≠ D → H7 b = H6 b) → Lo P G6 H7 (wipe σ vs1) (wipeE ρ6 vs1) := fun {G6 H6 ρ6} l H7 h7 p o h => by
        obtain ⟨a, b, c⟩ := l p o h
        have := free_wipeE (vs := vs1) c
        rw [e4] at this
        exact ⟨by rw [h7 p (hPD p o h)]; exact a, b, this⟩
      by_cases hx : y.1 = true
      · rw [if_pos hx] at qy ⊢
        refine ke σ4 H5 G5 y.2 _ r5 ((R.sat_bind (r := f y.2) (f := fun y => (compF vs1 g1 t1 f (ds.drop (i + 1)) (wipeE y.2 vs1)).bind fun z => R.ok (y.1 :: z.1, z.2)) qy).imp fun u qu v H6 G6 s6 r6 t6 => ?_)
        obtain ⟨hD6, gD6, fD6⟩ := s6.loose D _ hD5 gD5 (fun _ z => nomatch z) fD5
        have lo6 := lo5.adv hP s6
        have qz := R.sat_bind (r := compF vs1 g1 t1 f (ds.drop (i + 1)) (wipeE u.2 vs1)) (f := fun z => R.ok (u.1 :: z.1, z.2)) qu
        obtain ⟨z0, ez, hz0⟩ := sat_noX qz
        have sz : accV.length < sizeLine := by
          have h1 := tA.length
          have h2 : (accD ++ u.1 :: z0.1).length ≤ 1000000 := hz0.1
          rw [List.length_append, List.length_cons] at h2
          have z : (1000000 : Nat) < sizeLine := by decide
          omega
        refine ⟨accV, hD6, sz, G6, wipeE u.2 vs1, accV ++ [v], accD ++ [u.1], ((s2.trans g3.gm).trans s5.sub).trans s6.sub, ?_, upd_same, (tA.mono (((g3.gm.trans s5.sub)).trans s6.sub)).append (.cons t6 .nil), gD6, ?_, wl lo6 _ (fun b hb => upd_ne hb), fun b h => ?_, ?_⟩
        · have := (r6.loose hD6 gD6 hBD fD6 (xs := accV ++ [v])).wipe (vs := vs1)
          rw [e4] at this
          exact this
        · have := free_wipeE (vs := vs1) fD6
          rw [e4] at this
          exact this
        · by_cases hb : b = D
          · subst hb; rw [upd_same]; simp
          · rw [upd_ne hb]; exact s6.hs b (hs5 b h)
        · refine qz.imp fun z ⟨qz1, qz2⟩ => ?_
          have e : (accD ++ [u.1]) ++ z.1 = accD ++ (u.1 :: z.1) := by simp
          show ((accD ++ [u.1]) ++ z.1).length ≤ 1000000 ∧ _
          rw [e]
          exact ⟨qz1, fun G' H' accV' a b c d e2 e3 e4 e5 => qz2 G' H' accV' a b c d e2 e3 e4 e5⟩
      · rw [if_neg hx] at qy ⊢
        refine ⟨G5, wipeE y.2 vs1, accV, accD, (s2.trans g3.gm).trans s5.sub, ?_, hD5, tA.mono (g3.gm.trans s5.sub), gD5, ?_, wl lo5 _ (fun _ _ => rfl), hs5, qy⟩
        · have := r5.wipe (vs := vs1)
          rw [e4] at this
          exact this
        · have := free_wipeE (vs := vs1) fD5
          rw [e4] at this
          exact this
end
section
variable {X : Cx} {B : Ent} {ok : OkX} {cls : Clss} {tg elt e c tg1 e1 : Expr} {fa f : EF} {ft ft1 : TF} {pos p : Pos}
theorem uniI {scope : Scope} {fi : AF} (h : Blk X scope fun Y => EI Y B noX tg e fi) : ∃ wi : TI, (Blk X scope fun Y => PI Y tg e wi) ∧ ∀ (σ : St) (H G : Hp) (ρ : En) (W : It → Hp → Prop), Rel X.K B G H σ ρ →
    (fi ρ).sat (fun r => ∀ J H' G', Adv σ G H ρ G' H' r.2 → Rel X.K B G' H' σ r.2 → Yields X.K B.T J G' r.1 → W J H') noX → wi σ H W := by
  refine ⟨fun σ H W => ∀ t : TI, (∀ (σ : St) (H G : Hp) (ρ : En) (W : It → Hp → Prop), Rel X.K B G H σ ρ → (fi ρ).sat (fun r => ∀ J H' G', Adv σ G H ρ G' H' r.2 → Rel X.K B G' H' σ r.2 → Yields X.K B.T J G' r.1 → W J H') noX → t σ H W) → t σ H W, fun s H C cl fp => ?_, fun σ H G ρ Q r q t k => k σ H G ρ Q r q⟩
  obtain ⟨t, p, k⟩ := (h s H C cl fp).ex
  exact ⟨fun pins s σ H R I w => p.run pins s σ H R I (w t k)⟩
theorem comp_rd2 {ifs ifs1 : List Expr} {scope : Scope} {own : List (Str × Nat)} {sl sl1 vs1 : List Nat} {fi fi1 : AF} {g g1 : PyData → En → Option En}
    (hi : EI X B ok tg e fi) (hg : Blk X scope fun Y => TT' Y B tg sl g) (ht : Blk X scope fun Y => EC Y B noX ifs ft)
    (hi1 : Blk X scope fun Y => EI Y B noX tg1 e1 fi1) (hg1 : Blk X scope fun Y => TT' Y B tg1 sl1 g1) (ht1 : Blk X scope fun Y => EC Y B noX ifs1 ft1) (he : Blk X scope fun Y => EE Y B noX elt f)
    (hsl : ∀ i, i ∈ sl → i ∈ own.map (·.2)) (hsl1 : ∀ i, i ∈ sl1 → i ∈ vs1) (hv : ∀ i ∈ vs1, i ∈ own.map (·.2)) :
    ∃ (wi wi1 : TI) (gt gt1 : TG) (tt tt1 : TT) (te : TE), PI X tg e wi ∧ (Blk X scope fun Y => PG Y tg gt) ∧ (Blk X scope fun Y => PTs Y ifs tt) ∧ (Blk X scope fun Y => PI Y tg1 e1 wi1) ∧ (Blk X scope fun Y => PG Y tg1 gt1) ∧ (Blk X scope fun Y => PTs Y ifs1 tt1) ∧ (Blk X scope fun Y => PE Y elt te) ∧
      ∀ (σ : St) (H G : Hp) (ρ : En) (Q : VK), Rel X.K B G H σ ρ → (fComp2 (own.map (·.2)) fi g ft fi1 vs1 g1 ft1 f ρ).sat (fun r => ∀ p H' G', H p = none → Adv σ G H ρ G' H' r.2 → Rel X.K B G' H' σ r.2 → Fresh X.K B G' H' σ r.2 p r.1 → Q (.ref p) H') ok → tLc2 wi gt tt wi1 gt1 tt1 te (own.map (·.2)) vs1 σ H Q := by
  obtain ⟨wi, pw, kw⟩ := hi.ex
  obtain ⟨gt, pg, kg⟩ := uniT hg
  obtain ⟨tt, pt, kt⟩ := uniC ht
  obtain ⟨wi1, pw1, kw1⟩ := uniI hi1
  obtain ⟨gt1, pg1, kg1⟩ := uniT hg1
  obtain ⟨tt1, pt1, kt1⟩ := uniC ht1
  obtain ⟨te, pe, ke⟩ := uniE he
  refine ⟨wi, wi1, gt, gt1, tt, tt1, te, pw, pg, pt, pw1, pg1, pt1, pe, fun σ H G ρ Q r q => kw σ H G ρ _ r ?_⟩
  generalize own.map (·.2) = vs at hsl hv q ⊢
  refine (R.sat_bind (r := fi ρ) (f := fun x => (strict (compF2 vs g ft fi1 vs1 g1 ft1 f x.1 (wipeE x.2 vs))).bind fun z => if z.1.length ≤ 1000000 then R.ok (PyData.list z.1, backE x.2 z.2 vs) else .no) q).imp fun y q J H1 G1 s1 r1 Yl => ?_
  obtain ⟨ds, ρ1⟩ := y
  have q := strict_sat (R.sat_bind (r := strict (compF2 vs g ft fi1 vs1 g1 ft1 f ds (wipeE ρ1 vs))) (f := fun z => if z.1.length ≤ 1000000 then R.ok (PyData.list z.1, backE ρ1 z.2 vs) else .no) q)
  intro D hD
  have hD0 : H D = none := s1.pre hD
  let PF : List PyData → List PyData × En → Prop := fun acc z => (acc ++ z.1).length ≤ 1000000 ∧ ∀ p H' G', H p = none → Adv σ G H ρ G' H' (backE ρ1 z.2 vs) → Rel X.K B G' H' σ (backE ρ1 z.2 vs) → Fresh X.K B G' H' σ (backE ρ1 z.2 vs) p (.list (acc ++ z.1)) → Q (.ref p) H'
  let IV : Nat → Hp → Prop := fun i H2 => ∃ G2 ρ2 accV accD, Adv (wipe σ vs) G1 H1 (wipeE ρ1 vs) G2 H2 ρ2 ∧ (∃ ρ3, ρ2 = wipeE ρ3 vs) ∧ Rel X.K B G2 H2 (wipe σ vs) ρ2 ∧ H2 D = some (.lst accV) ∧ TrAll X.K G2 accV accD ∧
      G2 D = none ∧ Free (wipe σ vs) ρ2 D ∧ (compF2 vs g ft fi1 vs1 g1 ft1 f (ds.drop i) ρ2).sat (PF accD) noX
  have hBD : B.H D = none := by
    cases e : B.H D with
    | none => rfl
    | some u => exact absurd hD (r1.bd.hs D (by rw [e]; simp))
  have fD : Free σ ρ1 D := fun j s h e => by
    obtain ⟨_, _, d', _, w', _⟩ := r1.ownOf h e
    obtain ⟨o', ho, _⟩ := w'.nt
    rw [hD] at ho; cases ho
  have g0 : Grow B.T [] G1 H1 G1 (upd H1 D (.lst [])) := Grow.newO r1.sub hD
  have q0 : (compF2 vs g ft fi1 vs1 g1 ft1 f ds (wipeE ρ1 vs)).sat (PF []) noX := q.imp fun z qz => by
    obtain ⟨h1, h2⟩ := ite_sat qz
    exact ⟨h1, h2⟩
  refine ⟨fun i m H2 => m + i = ds.length ∧ IV i H2, ⟨ds.length, rfl, G1, wipeE ρ1 vs, [], [], Adv.grow g0, ⟨_, rfl⟩, (r1.step g0).wipe, upd_same, .nil, none_of_sub r1.sub hD, free_wipeE fD, q0⟩, fun i m H2 hW => ?_⟩
  obtain ⟨hm, G2, ρ2, accV, accD, s2, hw2, r2, hD2, tA, gD2, fD2, q2⟩ := hW
  cases hd : ds[i]? with
  | none =>
    have hl := List.getElem?_eq_none_iff.mp hd
    rw [List.drop_eq_nil_of_le hl] at q2
    refine .inl ⟨Yl.stop i G2 H2 hl s2.sub r2.sub, ?_⟩
    obtain ⟨ρ3, rfl⟩ := hw2
    have rb : Rel X.K B G2 H2 σ (backE ρ1 (wipeE ρ3 vs) vs) := Rel.back r1 s2.sub r2.unwipe
    have fr : ∀ p, Free (wipe σ vs) (wipeE ρ3 vs) p → Free σ (backE ρ1 (wipeE ρ3 vs) vs) p := fun p f => free_back (free_unwipe f)
    exact q2.2 D H2 G2 hD0 (s1.trans ⟨s2.sub, s2.hs, fun p o h n t f => by
      obtain ⟨a1, a2, a3⟩ := s2.loose p o h n t (free_wipeE f)
      exact ⟨a1, a2, fr p a3⟩⟩) rb ⟨gD2, hBD, by rw [List.append_nil]; exact .lst hD2 tA, fr D fD2⟩
  | some d =>
    obtain ⟨hlt, hget⟩ := List.getElem?_eq_some_iff.mp hd
    rw [List.drop_eq_getElem_cons hlt, hget] at q2
    obtain ⟨hgo, hy⟩ := Yl.go i d G2 H2 hd s2.sub r2.sub
    refine .inr ⟨hgo, IV (i + 1), fun H' h' => ⟨m - 1, by omega, by omega, h'⟩, fun x H3 hx => ?_⟩
    obtain ⟨G3, g3, t3⟩ := hy x H3 hx
    have r3 := r2.step g3
    have a3 : Adv (wipe σ vs) G2 H2 ρ2 G3 H3 ρ2 := Adv.grow g3
    obtain ⟨hD3, gD3, fD3⟩ := a3.loose D _ hD2 gD2 (fun _ z => nomatch z) fD2
    unfold compF2 at q2
    cases eg : g d ρ2 with
    | none => rw [eg] at q2; exact q2.elim
    | some ρ3 =>
      rw [eg] at q2
      refine kg (wipe σ vs) H3 G3 ρ2 ρ3 x d _ r3 t3 eg fun σ4 r4 m4 => ?_
      have e4 : wipe σ4 vs = wipe σ vs := (wipe_same m4 hsl).trans wipe_wipe
      refine ⟨e4, kt σ4 H3 G3 ρ3 _ r4 ((R.sat_bind (r := ft ρ3) (f := fun x => if x.1 = true then (fi1 x.2).bind fun y => (compF vs1 g1 ft1 f y.1 (wipeE y.2 vs1)).bind fun z => (compF2 vs g ft fi1 vs1 g1 ft1 f (ds.drop (i + 1)) (wipeE z.2 vs)).bind fun w => R.ok (z.1 ++ w.1, w.2)
        else compF2 vs g ft fi1 vs1 g1 ft1 f (ds.drop (i + 1)) (wipeE x.2 vs)) q2).imp fun y qy H5 G5 s5 r5 => ?_)⟩
      have fD4 := m4.free D fD3
      obtain ⟨hD5, gD5, fD5⟩ := s5.loose D _ hD3 gD3 (fun _ z => nomatch z) fD4
      let P : Addr → HO → Prop := fun p o => H1 p = some o ∧ G1 p = none ∧ (∀ ps, o ≠ .tbl ps) ∧ Free (wipe σ vs) (wipeE ρ1 vs) p
      have hP : ∀ p o, P p o → ∀ ps, o ≠ .tbl ps := fun p o h => h.2.2.1
      have hPD : ∀ p o, P p o → p ≠ D := fun p o h z => by
        have := h.1
        rw [z, hD] at this; cases this
      have lo5 : Lo P G5 H5 σ4 y.2 := by
        have l4 : Lo P G3 H3 σ4 ρ3 := fun p o h => by
          obtain ⟨b1, b2, b3⟩ := (s2.trans a3).loose p o h.1 h.2.1 h.2.2.1 h.2.2.2
          exact ⟨b1, b2, m4.free p b3⟩
        exact l4.adv hP s5
      have hs5 : ∀ b, H1 b ≠ none → H5 b ≠ none := fun b h => s5.hs b (a3.hs b (s2.hs b h))
      have s15 : Sub G1 G5 := (s2.sub.trans g3.gm).trans s5.sub
      -- the loose list's state after a turn
      have fin : ∀ {G6 H6 : Hp} {ρ6 : En} {accV6 : List V} {accD6 : List PyData}, Sub G1 G6 → Lo P G6 H6 (wipe σ vs) (wipeE ρ6 vs) → (∀ b, H1 b ≠ none → H6 b ≠ none) → Adv (wipe σ vs) G1 H1 (wipeE ρ1 vs) G6 H6 (wipeE ρ6 vs) := fun s l h => ⟨s, h, fun p o a b c d => l p o ⟨a, b, c, d⟩⟩
      by_cases hx : y.1 = true
      · rw [if_pos hx] at qy ⊢
        refine kw1 σ4 H5 G5 y.2 _ r5 ((R.sat_bind (r := fi1 y.2) (f := fun y => (compF vs1 g1 ft1 f y.1 (wipeE y.2 vs1)).bind fun z => (compF2 vs g ft fi1 vs1 g1 ft1 f (ds.drop (i + 1)) (wipeE z.2 vs)).bind fun w => R.ok (z.1 ++ w.1, w.2)) qy).imp fun u qu J1 H6 G6 s6 r6 Y6 => ?_)
        obtain ⟨hD6, gD6, fD6⟩ := s6.loose D _ hD5 gD5 (fun _ z => nomatch z) fD5
        have lo6 := lo5.adv hP s6
        refine turns (Hs := fun b => H1 b ≠ none) (Done := IV (i + 1)) kg1 kt1 ke hsl1 hP hPD hBD Y6 r6 hD6 (tA.mono ((g3.gm.trans s5.sub).trans s6.sub)) gD6 fD6 lo6 (fun b h => s6.hs b (hs5 b h)) ((R.sat_bind (r := compF vs1 g1 ft1 f u.1 (wipeE u.2 vs1)) (f := fun z => (compF2 vs g ft fi1 vs1 g1 ft1 f (ds.drop (i + 1)) (wipeE z.2 vs)).bind fun w => R.ok (z.1 ++ w.1, w.2)) qu).imp fun z qz => ?_)
        have qw := R.sat_bind (r := compF2 vs g ft fi1 vs1 g1 ft1 f (ds.drop (i + 1)) (wipeE z.2 vs)) (f := fun w => R.ok (z.1 ++ w.1, w.2)) qz
        obtain ⟨w0, ew, hw0⟩ := sat_noX qw
        refine ⟨?_, fun G7 H7 accV7 s7 r7 hD7 tA7 gD7 fD7 lo7 hs7 => ?_⟩
        · have h2 : (accD ++ (z.1 ++ w0.1)).length ≤ 1000000 := hw0.1
          rw [List.length_append, List.length_append] at h2
          rw [List.length_append]; omega
        · have ew : wipe (wipe σ4 vs1) vs = wipe σ vs := (wipe_sub hv).trans e4
          have r8 := r7.wipe (vs := vs)
          rw [ew] at r8
          have f8 := free_wipeE (vs := vs) fD7
          rw [ew] at f8
          refine ⟨G7, wipeE z.2 vs, accV7, accD ++ z.1, fin (accV6 := accV7) (accD6 := accD) ((s15.trans s6.sub).trans s7) (fun p o h => ?_) hs7, ⟨_, rfl⟩, r8, hD7, tA7, gD7, f8, qw.imp fun w ⟨qw1, qw2⟩ => ?_⟩
          · obtain ⟨a, b, c⟩ := lo7 p o h
            have c2 := free_wipeE (vs := vs) c
            rw [ew] at c2
            exact ⟨a, b, c2⟩
          · show ((accD ++ z.1) ++ w.1).length ≤ 1000000 ∧ _
            rw [List.append_assoc]
            exact ⟨qw1, fun p H' G' hp a r' x' => qw2 p H' G' hp a r' x'⟩
      · rw [if_neg hx] at qy ⊢
        refine ⟨G5, wipeE y.2 vs, accV, accD, fin (accV6 := accV) (accD6 := accD) s15 (fun p o h => ?_) hs5, ⟨_, rfl⟩, ?_, hD5, tA.mono (g3.gm.trans s5.sub), gD5, ?_, qy⟩
        · obtain ⟨a, b, c⟩ := lo5 p o h
          have c2 := free_wipeE (vs := vs) c
          rw [e4] at c2
          exact ⟨a, b, c2⟩
        · have := r5.wipe (vs := vs)
          rw [e4] at this
          exact this
        · have := free_wipeE (vs := vs) fD5
          rw [e4] at this
          exact this
theorem en_comp2 {ifs ifs1 : List Expr} {scope : Scope} {own : List (Str × Nat)} {sl sl1 : List Nat} (vs1 : List Nat) {fi fi1 : AF} {g g1 : PyData → En → Option En} (cx : CtxE cls X B ok) (hN : X.N.Nodup) (bk : BlkOk X.N X.env.scope scope own)
    (hi : EI X B ok tg e fi) (hg : Blk X scope fun Y => TT' Y B tg sl g) (ht : Blk X scope fun Y => EC Y B noX ifs ft)
    (hi1 : Blk X scope fun Y => EI Y B noX tg1 e1 fi1) (hg1 : Blk X scope fun Y => TT' Y B tg1 sl1 g1) (ht1 : Blk X scope fun Y => EC Y B noX ifs1 ft1) (he : Blk X scope fun Y => EE Y B noX elt f)
    (hsl : ∀ i, i ∈ sl → i ∈ own.map (·.2) := by decide) (hsl1 : ∀ i, i ∈ sl1 → i ∈ vs1 := by decide) (hv : ∀ i ∈ vs1, i ∈ own.map (·.2) := by decide) (hs : ∀ x, foldedSetIterable e X.env x = pure x := by intro _; rfl) (hs1 : ∀ env x, foldedSetIterable e1 env x = pure x := by intro _ _; rfl) :
    EN X B ok (.ListComp elt [⟨tg, e, ifs, 0⟩, ⟨tg1, e1, ifs1, 0⟩] scope pos) (fComp2 (own.map (·.2)) fi g ft fi1 vs1 g1 ft1 f) := by
  obtain ⟨wi, wi1, gt, gt1, tt, tt1, te, pw, pg, pt, pw1, pg1, pt1, pe, k⟩ := comp_rd2 hi hg ht hi1 hg1 ht1 he hsl hsl1 hv
  exact ⟨_, pe_lc2 cx.calm hN pw bk hv pg pt pw1 pg1 pt1 pe hs hs1, k⟩
theorem ss_ownC2 {ifs ifs1 : List Expr} {scope : Scope} {own : List (Str × Nat)} {sl sl1 : List Nat} {fi fi1 : AF} {g g1 : PyData → En → Option En} {x : Str} {p2 : Pos} {spos : Pos} (i : Nat) (vs1 : List Nat) (cx : CtxE cls X B ok) (hN : X.N.Nodup) (bk : BlkOk X.N X.env.scope scope own)
    (hi : EI X B ok tg e fi) (hg : Blk X scope fun Y => TT' Y B tg sl g) (ht : Blk X scope fun Y => EC Y B noX ifs ft)
    (hi1 : Blk X scope fun Y => EI Y B noX tg1 e1 fi1) (hg1 : Blk X scope fun Y => TT' Y B tg1 sl1 g1) (ht1 : Blk X scope fun Y => EC Y B noX ifs1 ft1) (he : Blk X scope fun Y => EE Y B noX elt f)
    (hx : X.N[i]? = some x := by rfl) (hl : X.env.scope.names.lookup x = some .local := by rfl) (hk : X.env.scope.kind = .function := by rfl) (hln : (p2.line == pos.line) = true := by rfl)
    (ha : (scope.names.any fun (n, k) => n == x && (k == .local || k == .cell)) = false := by rfl)
    (hsl : ∀ i, i ∈ sl → i ∈ own.map (·.2) := by decide) (hsl1 : ∀ i, i ∈ sl1 → i ∈ vs1 := by decide) (hv : ∀ i ∈ vs1, i ∈ own.map (·.2) := by decide) (hs : ∀ x, foldedSetIterable e X.env x = pure x := by intro _; rfl) (hs1 : ∀ env x, foldedSetIterable e1 env x = pure x := by intro _ _; rfl) :
    SS X B ok (.Assign [.Name x p2] (.ListComp elt [⟨tg, e, ifs, 0⟩, ⟨tg1, e1, ifs1, 0⟩] scope pos) spos) (sOwn (fComp2 (own.map (·.2)) fi g ft fi1 vs1 g1 ft1 f) i) := by
  obtain ⟨wi, wi1, gt, gt1, tt, tt1, te, pw, pg, pt, pw1, pg1, pt1, pe, k⟩ := comp_rd2 hi hg ht hi1 hg1 ht1 he hsl hsl1 hv
  refine ⟨_, ps_setLc2 cx.calm hN hx hl (sw_true hk hl hln ha) pw bk hv pg pt pw1 pg1 pt1 pe hs hs1, fun σ H G ρ D r q => k σ H G ρ _ r ((ofR_sat q).imp fun y qx v H1 G1 hp s1 r1 x1 => ?_)⟩
  exact qx _ H1 G1 s1.sub (r1.setOw x1.g x1.b x1.own x1.ap)
end
end Y


/-! YStar: tuples and lists with parts that are spread. -/
namespace Y
open PySem PySem.Spec PyProof.Rows L2
structure EAS (X : Cx) (B : Ent) (ok : OkX) (es : List Expr) (f : AF) : Prop where
  ex : ∃ t : TA, PA X es t ∧ ∀ (σ : St) (H G : Hp) (ρ : En) (Q : List V → Hp → Prop), Rel X.K B G H σ ρ →
    (f ρ).sat (fun r => ∀ vs H' G', Adv σ G H ρ G' H' r.2 → Rel X.K B G' H' σ r.2 → TrAll X.K G' vs r.1 → Q vs H') ok → t σ H Q
def fStar (f : EF) (fs : AF) : AF := fun ρ => (f ρ).bind fun x => (ofO (itemsOf x.1)).bind fun ds => (fs x.2).bind fun xs => .ok (ds ++ xs.1, xs.2)
section
variable {X : Cx} {B : Ent} {ok : OkX} {e : Expr} {es : List Expr} {f : EF} {fs : AF} {pos p : Pos}
theorem eas_end (h : EA X B ok es fs) : EAS X B ok es fs := ⟨h.ex⟩
theorem eas_cons (h : EE X B ok e f) (hs : EAS X B ok es fs) (he : starEach (e :: es) X.env = (false, eval e X.env) :: starEach es X.env := by rfl) : EAS X B ok (e :: es) (fCons f fs) := by
  obtain ⟨t, p, k⟩ := h.ex
  obtain ⟨u, p2, k2⟩ := hs.ex
  refine ⟨_, pa_cons p p2 he, fun σ H G ρ Q r q => k σ H G ρ _ r ((R.sat_bind (r := f ρ) (f := fun x : PyData × En => (fs x.2).bind fun xs => R.ok (x.1 :: xs.1, xs.2)) q).imp fun x qx v H1 G1 s1 r1 t1 => ?_)⟩
  refine k2 σ H1 G1 x.2 _ r1 ((R.sat_bind (r := fs x.2) (f := fun xs : List PyData × En => R.ok (x.1 :: xs.1, xs.2)) qx).imp fun xs qs vs H2 G2 s2 r2 t2 => ?_)
  exact qs (v :: vs) H2 G2 (s1.trans s2) r2 (.cons (t1.mono s2.sub) t2)
theorem eas_star (h : EE X B ok e f) (hs : EAS X B ok es fs) (he : starEach (.Starred e p :: es) X.env = (true, eval e X.env) :: starEach es X.env := by rfl) : EAS X B ok (.Starred e p :: es) (fStar f fs) := by
  obtain ⟨t, p, k⟩ := h.ex
  obtain ⟨u, p2, k2⟩ := hs.ex
  refine ⟨_, StX.pa_star p p2 he, fun σ H G ρ Q r q => k σ H G ρ _ r ((R.sat_bind (r := f ρ) (f := fun x : PyData × En => (ofO (itemsOf x.1)).bind fun ds => (fs x.2).bind fun xs => R.ok (ds ++ xs.1, xs.2)) q).imp fun x qx v H1 G1 s1 r1 t1 => ?_)⟩
  obtain ⟨ds, ei, qx⟩ := ofO_sat (R.sat_bind (r := ofO (itemsOf x.1)) (f := fun ds => (fs x.2).bind fun xs => R.ok (ds ++ xs.1, xs.2)) qx)
  have key : ∃ a vs, v = V.ref a ∧ (SqT X.K H1 a vs ∨ SqL X.K H1 a vs) ∧ TrAll X.K G1 vs ds := by
    obtain ⟨d, ρ1⟩ := x
    cases d with
    | list xs =>
      cases ei
      cases t1 with | lst h t => exact ⟨_, _, rfl, .inr (.inl (r1.subG.rd h)), t⟩
    | tuple xs =>
      cases ei
      cases t1 with | tup h t => exact ⟨_, _, rfl, .inl (sqt (r1.subG.rd h)), t⟩
    | _ => cases ei
  obtain ⟨a, vs, rfl, hq, tA⟩ := key
  refine ⟨a, vs, rfl, hq, k2 σ H1 G1 x.2 _ r1 ((R.sat_bind (r := fs x.2) (f := fun xs : List PyData × En => R.ok (ds ++ xs.1, xs.2)) qx).imp fun xs qs ws H2 G2 s2 r2 t2 => ?_)⟩
  exact qs (vs ++ ws) H2 G2 (s1.trans s2) r2 ((tA.mono s2.sub).append t2)
theorem ee_tupS {x1} (h : EAS X B ok es fs) : EE X B ok (.Tuple es x1 pos) (fTup fs) := by
  obtain ⟨t, p, k⟩ := h.ex
  refine ⟨_, pe_tup p, fun σ H G ρ Q r q => k σ H G ρ _ r ((R.sat_bind (r := fs ρ) (f := fun x : List PyData × En => if x.1.length ≤ 1000 then R.ok (PyData.tuple x.1, x.2) else .no) q).imp fun x qx vs H1 G1 s1 r1 t1 => ?_)⟩
  obtain ⟨hl, qx⟩ := ite_sat qx
  refine ⟨by rw [t1.length]; exact sz1000 hl, fun p hp => ?_⟩
  have g : Grow B.T [] G1 H1 (upd G1 p (.tup vs)) (upd H1 p (.tup vs)) := Grow.new r1.sub hp (fun _ z => nomatch z)
  exact qx _ _ _ (s1.trans (Adv.grow g)) (r1.step g) (.tup (.inl upd_same) (t1.mono g.gm))
theorem en_lstS (h : EAS X B ok es fs) : EN X B ok (.List es pos) (fLst fs) := by
  obtain ⟨t, p, k⟩ := h.ex
  refine ⟨_, pe_lst p, fun σ H G ρ Q r q => k σ H G ρ _ r ((R.sat_bind (r := fs ρ) (f := fun x : List PyData × En => if x.1.length ≤ 1000 then R.ok (PyData.list x.1, x.2) else .no) q).imp fun x qx vs H1 G1 s1 r1 t1 => ?_)⟩
  obtain ⟨hl, qx⟩ := ite_sat qx
  refine ⟨by rw [t1.length]; exact sz1000 hl, fun p hp => ?_⟩
  obtain ⟨r2, x2⟩ := fresh_new r1 hp (o := .lst vs) (.lst upd_same t1)
  exact qx p _ _ (s1.pre hp) (s1.trans (Adv.grow (Grow.newO (T := B.T) (io := []) r1.sub hp))) r2 x2
end
end Y


/-! YBuilt: built-in functions by data. -/
namespace Y
open PySem PySem.Spec PyProof.Rows L2
/-- a built-in by data -/
def BD (X : Cx) (T : YT) (fv : Value) (g : List PyData → Option PyData) : Prop := ∃ r, CallR X fv r ∧ ∀ (G H : Hp) (vs : List V) (ds : List PyData) (d : PyData) (Q : VK),
  (∀ b o, G b = some o → H b = some o ∧ ∀ ps, o ≠ .tbl ps) → TrAll X.K G vs ds → g ds = some d → (∀ v H' G', Grow T [] G H G' H' → Tr X.K G' v d → Q v H') → r vs H Q
/-- .. whose answer is a new list -/
def BN (X : Cx) (T : YT) (fv : Value) (g : List PyData → Option (List PyData)) : Prop := ∃ r, CallR X fv r ∧ ∀ (G H : Hp) (vs : List V) (ds es : List PyData) (Q : VK),
  (∀ b o, G b = some o → H b = some o ∧ ∀ ps, o ≠ .tbl ps) → TrAll X.K G vs ds → g ds = some es → (∀ p xs, H p = none → TrAll X.K G xs es → Q (.ref p) (upd H p (.lst xs))) → r vs H Q
def fBlt (g : List PyData → Option PyData) (fs : AF) : EF := fun ρ => (fs ρ).bind fun x => (ofO (g x.1)).bind fun d => .ok (d, x.2)
def fBltN (g : List PyData → Option (List PyData)) (fs : AF) : EF := fun ρ => (fs ρ).bind fun x => (ofO (g x.1)).bind fun ds => .ok (.list ds, x.2)
section
variable {X : Cx} {B : Ent} {ok : OkX} {cls : Clss} {e : Expr} {es : List Expr} {fa fb fc f : EF} {fs : AF} {pos p : Pos} {x : Str} {T : YT}
theorem blt_ok {r : List V → Hp → VK → Prop} {g : List PyData → Option PyData} {t : TA} (k : ∀ (σ : St) (H G : Hp) (ρ : En) (Q : List V → Hp → Prop), Rel X.K B G H σ ρ → (fs ρ).sat (fun r => ∀ vs H' G', Adv σ G H ρ G' H' r.2 → Rel X.K B G' H' σ r.2 → TrAll X.K G' vs r.1 → Q vs H') ok → t σ H Q)
    (hr : ∀ (G H : Hp) (vs : List V) (ds : List PyData) (d : PyData) (Q : VK), (∀ b o, G b = some o → H b = some o ∧ ∀ ps, o ≠ .tbl ps) → TrAll X.K G vs ds → g ds = some d → (∀ v H' G', Grow B.T [] G H G' H' → Tr X.K G' v d → Q v H') → r vs H Q)
    {σ : St} {H G : Hp} {ρ : En} {Q : VK} (h : Rel X.K B G H σ ρ) (q : (fBlt g fs ρ).sat (fun r => ∀ v H' G', Adv σ G H ρ G' H' r.2 → Rel X.K B G' H' σ r.2 → Tr X.K G' v r.1 → Q v H') ok) : tCB r t σ H Q := by
  refine k σ H G ρ _ h ((R.sat_bind (r := fs ρ) (f := fun x => (ofO (g x.1)).bind fun d => R.ok (d, x.2)) q).imp fun y q vs H1 G1 s1 r1 t1 => ?_)
  obtain ⟨d, e1, qd⟩ := ofO_sat (R.sat_bind (r := ofO (g y.1)) (f := fun d => R.ok (d, y.2)) q)
  exact hr G1 H1 vs y.1 d Q r1.sub t1 e1 fun v H' G' gr t => qd v H' G' (s1.trans (Adv.grow gr)) (r1.step gr) t
theorem ee_blt {id : String} {g : List PyData → Option PyData} (h : BD X B.T (.builtin id) g) (hm : X.mg x = none) (hv : bootBuiltins x = some (.builtin id)) (ha : EA X B ok (e :: es) fs) (hg : Gl X x := by rfl) (hn : x ≠ "__name__" := by decide) (hdb : (x == ("__debug__" : Str)) = false := by decide)
    (he : starEach (e :: es) X.env = (false, eval e X.env) :: starEach es X.env := by rfl) (hpl : (backTo pos (starEach es X.env)).any (·.1) = false := by rfl) : EE X B ok (.Call (.Name x p) (e :: es) [] pos) (fBlt g fs) := by
  obtain ⟨r, hc, hr⟩ := h
  obtain ⟨t, pa, k⟩ := ha.ex
  exact ⟨_, pe_callB hc hg hm hv pa hn hdb he hpl, fun σ H G ρ Q r q => blt_ok k hr r q⟩
theorem ee_blty {id : String} {g : List PyData → Option PyData} (h : BD X B.T (.type id) g) (hm : X.mg x = none) (hv : bootBuiltins x = some (.type id)) (ha : EA X B ok (e :: es) fs) (hg : Gl X x := by rfl) (hn : x ≠ "__name__" := by decide) (hdb : (x == ("__debug__" : Str)) = false := by decide)
    (he : starEach (e :: es) X.env = (false, eval e X.env) :: starEach es X.env := by rfl) (hpl : (backTo pos (starEach es X.env)).any (·.1) = false := by rfl) : EE X B ok (.Call (.Name x p) (e :: es) [] pos) (fBlt g fs) := by
  obtain ⟨r, hc, hr⟩ := h
  obtain ⟨t, pa, k⟩ := ha.ex
  exact ⟨_, pe_callTy hc hg hm hv pa hn hdb he hpl, fun σ H G ρ Q r q => blt_ok k hr r q⟩
/-- a module's name for a built-in function -/
theorem ee_bltm {id : String} {g : List PyData → Option PyData} (h : BD X B.T (.builtin id) g) (hm : X.mg x = some (.builtin id)) (ha : EA X B ok (e :: es) fs) (hg : Gl X x := by rfl) (hdb : (x == ("__debug__" : Str)) = false := by decide)
    (he : starEach (e :: es) X.env = (false, eval e X.env) :: starEach es X.env := by rfl) (hpl : (backTo pos (starEach es X.env)).any (·.1) = false := by rfl) : EE X B ok (.Call (.Name x p) (e :: es) [] pos) (fBlt g fs) := by
  obtain ⟨r, hc, hr⟩ := h
  obtain ⟨t, pa, k⟩ := ha.ex
  exact ⟨_, pe_callBfun hc hg hm pa hdb he hpl, fun σ H G ρ Q r q => blt_ok k hr r q⟩
theorem bltN_ok {r : List V → Hp → VK → Prop} {g : List PyData → Option (List PyData)} {t : TA} (k : ∀ (σ : St) (H G : Hp) (ρ : En) (Q : List V → Hp → Prop), Rel X.K B G H σ ρ → (fs ρ).sat (fun r => ∀ vs H' G', Adv σ G H ρ G' H' r.2 → Rel X.K B G' H' σ r.2 → TrAll X.K G' vs r.1 → Q vs H') ok → t σ H Q)
    (hr : ∀ (G H : Hp) (vs : List V) (ds es : List PyData) (Q : VK), (∀ b o, G b = some o → H b = some o ∧ ∀ ps, o ≠ .tbl ps) → TrAll X.K G vs ds → g ds = some es → (∀ p xs, H p = none → TrAll X.K G xs es → Q (.ref p) (upd H p (.lst xs))) → r vs H Q)
    {σ : St} {H G : Hp} {ρ : En} {Q : VK} (h : Rel X.K B G H σ ρ) (q : (fBltN g fs ρ).sat (fun r => ∀ p H' G', H p = none → Adv σ G H ρ G' H' r.2 → Rel X.K B G' H' σ r.2 → Fresh X.K B G' H' σ r.2 p r.1 → Q (.ref p) H') ok) : tCB r t σ H Q := by
  refine k σ H G ρ _ h ((R.sat_bind (r := fs ρ) (f := fun x => (ofO (g x.1)).bind fun ds => R.ok (PyData.list ds, x.2)) q).imp fun y q vs H1 G1 s1 r1 t1 => ?_)
  obtain ⟨es, e1, qd⟩ := ofO_sat (R.sat_bind (r := ofO (g y.1)) (f := fun ds => R.ok (PyData.list ds, y.2)) q)
  refine hr G1 H1 vs y.1 es Q r1.sub t1 e1 fun p xs hp tx => ?_
  obtain ⟨r2, x2⟩ := fresh_new r1 hp (o := .lst xs) (.lst upd_same tx)
  exact qd p _ _ (s1.pre hp) (s1.trans (Adv.grow (Grow.newO (T := B.T) (io := []) r1.sub hp))) r2 x2
theorem en_blt {id : String} {g : List PyData → Option (List PyData)} (h : BN X B.T (.builtin id) g) (hm : X.mg x = none) (hv : bootBuiltins x = some (.builtin id)) (ha : EA X B ok (e :: es) fs) (hg : Gl X x := by rfl) (hn : x ≠ "__name__" := by decide) (hdb : (x == ("__debug__" : Str)) = false := by decide)
    (he : starEach (e :: es) X.env = (false, eval e X.env) :: starEach es X.env := by rfl) (hpl : (backTo pos (starEach es X.env)).any (·.1) = false := by rfl) : EN X B ok (.Call (.Name x p) (e :: es) [] pos) (fBltN g fs) := by
  obtain ⟨r, hc, hr⟩ := h
  obtain ⟨t, pa, k⟩ := ha.ex
  exact ⟨_, pe_callB hc hg hm hv pa hn hdb he hpl, fun σ H G ρ Q r q => bltN_ok k hr r q⟩
theorem en_blty {id : String} {g : List PyData → Option (List PyData)} (h : BN X B.T (.type id) g) (hm : X.mg x = none) (hv : bootBuiltins x = some (.type id)) (ha : EA X B ok (e :: es) fs) (hg : Gl X x := by rfl) (hn : x ≠ "__name__" := by decide) (hdb : (x == ("__debug__" : Str)) = false := by decide)
    (he : starEach (e :: es) X.env = (false, eval e X.env) :: starEach es X.env := by rfl) (hpl : (backTo pos (starEach es X.env)).any (·.1) = false := by rfl) : EN X B ok (.Call (.Name x p) (e :: es) [] pos) (fBltN g fs) := by
  obtain ⟨r, hc, hr⟩ := h
  obtain ⟨t, pa, k⟩ := ha.ex
  exact ⟨_, pe_callTy hc hg hm hv pa hn hdb he hpl, fun σ H G ρ Q r q => bltN_ok k hr r q⟩
/-! ### len -/
def gLen : List PyData → Option PyData
  | [.list ds] => some (.int ds.length)
  | [.tuple ds] => some (.int ds.length)
  | [.str s] => if s.length ≤ 1000000 then some (.int s.length) else none
  | _ => none
theorem bd_len : BD X T (.builtin "len") gLen := by
  refine ⟨_, call_len, fun G H vs ds d Q s t e q => ?_⟩
  unfold gLen at e
  split at e
  · cases e
    cases t with | cons u t =>
    cases t
    cases u with | lst h t =>
    exact ⟨_, _, rfl, .inl ⟨_, .inl ((sub_of s).rd h), rfl⟩, by rw [t.length]; exact q _ H G (Grow.refl s) (.int _)⟩
  · cases e
    cases t with | cons u t =>
    cases t
    cases u with | tup h t =>
    exact ⟨_, _, rfl, .inr ⟨_, sqt ((sub_of s).rd h), rfl⟩, by rw [t.length]; exact q _ H G (Grow.refl s) (.int _)⟩
  · split at e
    · cases e
      cases t with | cons u t =>
      cases t
      cases u
      exact ⟨_, _, rfl, ⟨lim_sz (by assumption), rfl⟩, q _ H G (Grow.refl s) (.int _)⟩
    · cases e
  · cases e
/-! ### abs, min, max of two ints -/
def gAbs : List PyData → Option PyData
  | [.int i] => some (.int (if i < 0 then -i else i))
  | _ => none
theorem bd_abs : BD X T (.builtin "abs") gAbs := by
  refine ⟨_, call_abs, fun G H vs ds d Q s t e q => ?_⟩
  unfold gAbs at e
  split at e
  · cases e
    cases t with | cons u t =>
    cases t
    cases u
    exact ⟨_, rfl, q _ H G (Grow.refl s) (.int _)⟩
  · cases e
def g2i (g : Int → Int → Int) : List PyData → Option PyData
  | [.int i, .int j] => some (.int (g i j))
  | _ => none
theorem g2i_inv {K : PySem.W.Frag} {G : Hp} {g : Int → Int → Int} {vs : List V} {ds : List PyData} {d : PyData} (t : TrAll K G vs ds) (e : g2i g ds = some d) : ∃ i j, vs = [.int i, .int j] ∧ d = .int (g i j) := by
  unfold g2i at e
  split at e
  · cases e
    cases t with | cons u t =>
    cases t with | cons w t =>
    cases t
    cases u; cases w
    exact ⟨_, _, rfl, rfl⟩
  · cases e
theorem bd_max2 (hc : X.calm = true) : BD X T (.builtin "max") (g2i fun i j => if j > i then j else i) := by
  refine ⟨_, call_max2 hc, fun G H vs ds d Q s t e q => ?_⟩
  obtain ⟨i, j, rfl, rfl⟩ := g2i_inv t e
  exact ⟨i, j, rfl, q _ H G (Grow.refl s) (.int _)⟩
theorem bd_min2 (hc : X.calm = true) : BD X T (.builtin "min") (g2i fun i j => if j < i then j else i) := by
  refine ⟨_, call_min2 hc, fun G H vs ds d Q s t e q => ?_⟩
  obtain ⟨i, j, rfl, rfl⟩ := g2i_inv t e
  exact ⟨i, j, rfl, q _ H G (Grow.refl s) (.int _)⟩
theorem bd_gcd : BD X T (.builtin "math.gcd") (g2i fun i j => ((Nat.gcd i.natAbs j.natAbs : Nat) : Int)) := by
  refine ⟨_, cr_gcd, fun G H vs ds d Q s t e q => ?_⟩
  obtain ⟨i, j, rfl, rfl⟩ := g2i_inv t e
  exact ⟨i, j, rfl, q _ H G (Grow.refl s) (.int _)⟩
/-! ### sum, all, any -/
def intsOf : List PyData → Option (List Int)
  | [] => some []
  | .int i :: ds => (intsOf ds).map (i :: ·)
  | _ => none
theorem intsOf_tr {K : PySem.W.Frag} {G : Hp} : ∀ {vs : List V} {ds : List PyData} {ns : List Int}, TrAll K G vs ds → intsOf ds = some ns → vs = ns.map V.int
  | _, _, _, .nil, e => by cases e; rfl
  | _, _, ns, .cons (d := d) (ds := ds) u t, e => by
    cases u with
    | int i =>
      unfold intsOf at e
      cases e1 : intsOf ds with
      | none => rw [e1] at e; cases e
      | some ms => rw [e1] at e; cases e; rw [intsOf_tr t e1]; rfl
    | _ => cases e
def bolsOf : List PyData → Option (List Bool)
  | [] => some []
  | .bool i :: ds => (bolsOf ds).map (i :: ·)
  | _ => none
theorem bolsOf_tr {K : PySem.W.Frag} {G : Hp} : ∀ {vs : List V} {ds : List PyData} {ns : List Bool}, TrAll K G vs ds → bolsOf ds = some ns → vs = ns.map V.bl
  | _, _, _, .nil, e => by cases e; rfl
  | _, _, ns, .cons (d := d) (ds := ds) u t, e => by
    cases u with
    | bl i =>
      unfold bolsOf at e
      cases e1 : bolsOf ds with
      | none => rw [e1] at e; cases e
      | some ms => rw [e1] at e; cases e; rw [bolsOf_tr t e1]; rfl
    | _ => cases e
def gSum : List PyData → Option PyData
  | [.list ds] => (intsOf ds).map fun ns => .int ns.sum
  | _ => none
def gAll : List PyData → Option PyData
  | [.list ds] => (bolsOf ds).map fun ns => .bool (ns.all id)
  | _ => none
def gAny : List PyData → Option PyData
  | [.list ds] => (bolsOf ds).map fun ns => .bool (ns.any id)
  | _ => none
theorem bd_sum (hc : X.calm = true) : BD X T (.builtin "sum") gSum := by
  refine ⟨_, cr_sum hc, fun G H vs ds d Q s t e q => ?_⟩
  unfold gSum at e
  split at e
  · rename_i ds
    cases e1 : intsOf ds with
    | none => rw [e1] at e; cases e
    | some ns =>
      rw [e1] at e; cases e
      cases t with | cons u t =>
      cases t
      cases u with | lst h t =>
      have := intsOf_tr t e1
      subst this
      exact ⟨_, ns, rfl, .inl ((sub_of s).rd h), q _ H G (Grow.refl s) (.int _)⟩
  · cases e
theorem bd_all (hc : X.calm = true) : BD X T (.builtin "all") gAll := by
  refine ⟨_, cr_all hc, fun G H vs ds d Q s t e q => ?_⟩
  unfold gAll at e
  split at e
  · rename_i ds
    cases e1 : bolsOf ds with
    | none => rw [e1] at e; cases e
    | some ns =>
      rw [e1] at e; cases e
      cases t with | cons u t =>
      cases t
      cases u with | lst h t =>
      have := bolsOf_tr t e1
      subst this
      exact ⟨_, ns, rfl, .inl ((sub_of s).rd h), q _ H G (Grow.refl s) (.bl _)⟩
  · cases e
theorem bd_any (hc : X.calm = true) : BD X T (.builtin "any") gAny := by
  refine ⟨_, cr_any hc, fun G H vs ds d Q s t e q => ?_⟩
  unfold gAny at e
  split at e
  · rename_i ds
    cases e1 : bolsOf ds with
    | none => rw [e1] at e; cases e
    | some ns =>
      rw [e1] at e; cases e
      cases t with | cons u t =>
      cases t
      cases u with | lst h t =>
      have := bolsOf_tr t e1
      subst this
      exact ⟨_, ns, rfl, .inl ((sub_of s).rd h), q _ H G (Grow.refl s) (.bl _)⟩
  · cases e
/-! ### tuple(x), list(x) -/
def gTuple : List PyData → Option PyData
  | [.list ds] => some (.tuple ds)
  | [.tuple ds] => some (.tuple ds)
  | _ => none
theorem bd_tuple : BD X T (.type "tuple") gTuple := by
  refine ⟨_, call_tuple_of, fun G H vs ds d Q s t e q => ?_⟩
  unfold gTuple at e
  split at e
  · cases e
    cases t with | cons u t =>
    cases t
    cases u with | lst h t =>
    rename_i a xs
    refine ⟨a, xs, rfl, .inl ⟨.inl ((sub_of s).rd h), fun l hl => ?_⟩⟩
    have g : Grow T [] G H (upd G l (.tup xs)) (upd H l (.tup xs)) := Grow.new s hl (fun _ z => nomatch z)
    exact q _ _ _ g (.tup (.inl upd_same) (t.mono g.gm))
  · cases e
    cases t with | cons u t =>
    cases t
    cases u with | tup h t =>
    exact ⟨_, _, rfl, .inr ⟨sqt ((sub_of s).rd h), q _ H G (Grow.refl s) (.tup h t)⟩⟩
  · cases e
def gList : List PyData → Option (List PyData)
  | [.list ds] => some ds
  | [.tuple ds] => some ds
  | _ => none
theorem bn_list : BN X T (.type "list") gList := by
  refine ⟨_, call_list_of, fun G H vs ds es Q s t e q => ?_⟩
  unfold gList at e
  split at e
  · cases e
    cases t with | cons u t =>
    cases t
    cases u with | lst h t =>
    exact ⟨_, _, rfl, .inl (.inl ((sub_of s).rd h)), fun l hl => q l _ hl t⟩
  · cases e
    cases t with | cons u t =>
    cases t
    cases u with | tup h t =>
    exact ⟨_, _, rfl, .inr (sqt ((sub_of s).rd h)), fun l hl => q l _ hl t⟩
  · cases e
/-! ### sorted -/
def sortOk (ds : List PyData) : Bool :=
  (ds.all fun d => ds.all fun d' => PySem.W.alike d d') && ((ds.all fun d => match d with | .tuple (_ :: _) => true | _ => false) || (ds.all fun d => match d with | .none => false | .tuple _ => false | _ => true)) &&
    ds.all fun d => SeqAt.shaped d
def sortD (ds : List PyData) : List PyData := ds.mergeSort (PySem.W.dataLe false id)
def intKeys : List (PyData × PyData) → Option (List Int)
  | [] => some []
  | (.int k, _) :: es => (intKeys es).map (k :: ·)
  | _ => none
def sortI (ks : List Int) : List Int := ks.mergeSort fun a b => decide (a ≤ b)
def gSorted : List PyData → Option (List PyData)
  | [.list ds] => if sortOk ds = true ∧ ds.length ≤ 1000000 then some (sortD ds) else none
  | [.dict es] => match intKeys es with
    | some ks => if ks.length < 64 then some ((sortI ks).map PyData.int) else none
    | none => none
  | _ => none
def rSortD (K : PySem.W.Frag) : List V → Hp → VK → Prop := fun vs H Q => ∃ (a : Addr) (xs : List V) (ds : List PyData), vs = [V.ref a] ∧ SqL K H a xs ∧ DpAll K H xs ds ∧ sortOk ds = true ∧ ds.length ≤ 1000000 ∧
  ∀ p, H p = none → Q (.ref p) (upd H p (.lst ((((xs.zip ds).mergeSort (PySem.W.dataLe false (·.2))).map (·.1)))))
theorem dpAll_len {K : PySem.W.Frag} {H : Hp} : ∀ {vs : List V} {ds : List PyData}, DpAll K H vs ds → vs.length = ds.length
  | _, _, .nil => rfl
  | _, _, .cons _ t => by rw [List.length_cons, List.length_cons, dpAll_len t]
theorem each_zip {X : Cx} {pins : List (Addr × Obj)} {σ : St} {H : Hp} {s : Shared} (I : Inv X pins σ H s) : ∀ {xs : List V} {ds : List PyData} {its : List Value}, DpAll X.K H xs ds → Vals xs its →
    PySem.W.EachIs (fun v (b : V × PyData) => L2.RelV b.1 v) its (xs.zip ds) ∧ PySem.W.EachIs (fun v (b : V × PyData) => ∃ as, Reads s.heap v b.2 as) its (xs.zip ds)
  | _, _, _, .nil, .nil => ⟨.nil, .nil⟩
  | _, _, _, .cons h t, .cons r v => by
    obtain ⟨a, b⟩ := each_zip I t v
    exact ⟨.cons r a, .cons (Dp.reads I _ _ _ h r) b⟩
theorem vals_each : ∀ {out : List Value} {bs : List (V × PyData)}, PySem.W.EachIs (fun v (b : V × PyData) => L2.RelV b.1 v) out bs → Vals (bs.map (·.1)) out
  | _, _, .nil => .nil
  | _, _, .cons h t => .cons h (vals_each t)
theorem zip_snd : ∀ {xs : List V} {ds : List PyData}, xs.length = ds.length → (xs.zip ds).map (·.2) = ds
  | [], [], _ => rfl
  | x :: xs, d :: ds, h => by
    rw [List.zip_cons_cons, List.map_cons, zip_snd (by simpa using h)]
theorem cr_sortD (hu : X.A.units + 70 < cLine) : CallR X (.builtin "sorted") (rSortD X.K) := by
  intro pins s σ H vs us Q I r h
  obtain ⟨a, xs, ds, rfl, hs, hd, hok, hsz, q⟩ := h
  obtain ⟨its, rv, hl, _⟩ := I.list hs
  have hlen := dpAll_len hd
  rw [Vals.ref1 r]
  obtain ⟨e1, e2⟩ := each_zip I hd rv
  unfold sortOk at hok
  simp only [Bool.and_eq_true, Bool.or_eq_true, List.all_eq_true] at hok
  obtain ⟨⟨h1, h2⟩, h3⟩ := hok
  have em : (xs.zip ds).map (·.2) = ds := zip_snd hlen
  have hL : (xs.zip ds).length ≤ sizeLine := by
    rw [List.length_zip, hlen, Nat.min_self]
    exact lim_sz hsz
  refine PySem.W.sorted_data (R := fun v (b : V × PyData) => L2.RelV b.1 v) (enc := fun b : V × PyData => b.2) hl.isList e1 e2 ?_ ?_ hL (fun b hb => ?_) fun out ho eo => ?_
  · rw [em]
    exact fun d hd d' hd' => h1 d hd d' hd'
  · rw [em]
    rcases h2 with h2 | h2
    · refine .inl fun d hd => ?_
      have z := h2 d hd
      split at z
      · exact ⟨_, _, rfl⟩
      · cases z
    · refine .inr fun d hd => ⟨fun e => ?_, fun ys e => ?_⟩
      · have z := h2 d hd
        subst e
        cases z
      · have z := h2 d hd
        subst e
        cases z
  · have hm : b.2 ∈ ds := by rw [← em]; exact List.mem_map.mpr ⟨b, hb, rfl⟩
    have z := h3 _ hm
    unfold SeqAt.shaped at z
    simp only [Bool.and_eq_true, decide_eq_true_eq] at z
    have := z.2
    omega
  · have hv := vals_each eo
    obtain ⟨ep, he⟩ := PyProof.Rows.sortedAll_at s.heap its (List.toArray out)
    have hl2 : (((xs.zip ds).mergeSort (PySem.W.dataLe false (·.2))).map (·.1)).length ≤ sizeLine := by rw [List.length_map, List.length_mergeSort]; exact hL
    exact ⟨.ref _, _, I.laid (t' := s.toks) (a := s.heap.objs.size + 1) (o := .lst ((((xs.zip ds).mergeSort (PySem.W.dataLe false (·.2))).map (·.1)))) (fun _ _ => PyProof.Rows.sortedAll_old) (Nat.le_succ _) ⟨hl2, out, ep, hv, he⟩, rfl, q _ (I.hok.fresh (Nat.le_succ _))⟩
theorem TrAll.zip_perm {K : PySem.W.Frag} {G : Hp} {xs : List V} {ds : List PyData} (t : TrAll K G xs ds) : ∀ p ∈ xs.zip ds, Tr K G p.1 p.2 := by
  intro p hp
  obtain ⟨i, hi⟩ := List.mem_iff_getElem?.mp hp
  rw [List.getElem?_zip_eq_some] at hi
  obtain ⟨v, e, tv⟩ := t.get hi.2
  rw [hi.1] at e; cases e
  exact tv
theorem TrAll.of_pairs {K : PySem.W.Frag} {G : Hp} : ∀ {l : List (V × PyData)}, (∀ p ∈ l, Tr K G p.1 p.2) → TrAll K G (l.map (·.1)) (l.map (·.2))
  | [], _ => .nil
  | p :: l, h => .cons (h p List.mem_cons_self) (TrAll.of_pairs fun q hq => h q (List.mem_cons_of_mem _ hq))
theorem flatAll_of : ∀ {ds : List PyData}, (∀ d ∈ ds, SeqAt.shaped d = true) → flatAll ds = true
  | [], _ => rfl
  | d :: ds, h => by
    rw [flatAll, flat_of (h d List.mem_cons_self), flatAll_of fun x hx => h x (List.mem_cons_of_mem _ hx)]
    rfl
theorem CallR.or {fv : Value} {r1 r2 : List V → Hp → VK → Prop} (h1 : CallR X fv r1) (h2 : CallR X fv r2) : CallR X fv (fun vs H Q => r1 vs H Q ∨ r2 vs H Q) := by
  intro pins s σ H vs us Q I r h
  rcases h with h | h
  · exact h1 pins s σ H vs us Q I r h
  · exact h2 pins s σ H vs us Q I r h
theorem intKeys_kv {K : PySem.W.Frag} {G : Hp} : ∀ {kvs : List (Key × V)} {es : List (PyData × PyData)} {ks : List Int}, TrKV K G kvs es → intKeys es = some ks → kvs.map (·.1) = ks.map Sum.inl
  | _, _, ks, .nil, h => by
    cases h; rfl
  | _, _, ks, .cons (k := k) t u, h => by
    cases k with
    | inr x => cases h
    | inl i =>
      simp only [kD, intKeys, Option.map_eq_some_iff] at h
      obtain ⟨ks', h', rfl⟩ := h
      rw [List.map_cons, List.map_cons, intKeys_kv u h']
theorem sortI_uniq {ys ks : List Int} (hp : ys.Perm ks) (hs : ys.Pairwise (· ≤ ·)) : ys = sortI ks := by
  unfold sortI
  have h1 := List.pairwise_mergeSort (le := fun a b : Int => decide (a ≤ b)) (fun a b c h1 h2 => by simp at *; omega) (fun a b => by simp; omega) ks
  refine List.Perm.eq_of_pairwise (le := fun a b : Int => decide (a ≤ b) = true) (fun a b _ _ h1 h2 => by simp at *; omega) (hs.imp fun h => by simpa using h) h1 (hp.trans (List.mergeSort_perm ks _).symm)
theorem ints_trB {K : PySem.W.Frag} {G : Hp} : ∀ ks : List Int, TrAll K G (ks.map V.int) (ks.map PyData.int)
  | [] => .nil
  | k :: ks => .cons (.int k) (ints_trB ks)
theorem bn_sorted (hcalm : X.calm = true) (hu : X.A.units + 70 < cLine) : BN X T (.builtin "sorted") gSorted := by
  refine ⟨_, CallR.or (cr_sortD hu) (call_sortedDI hcalm), fun G H vs ds es Q s t e q => ?_⟩
  unfold gSorted at e
  split at e
  · rename_i ds
    split at e
    · rename_i hc
      cases e
      cases t with | cons u t =>
      cases t
      cases u with | lst h t =>
      rename_i a xs
      have hf : flatAll ds = true := flatAll_of (by
        have z := hc.1
        unfold sortOk at z
        simp only [Bool.and_eq_true, List.all_eq_true] at z
        exact z.2)
      refine .inl ⟨a, xs, ds, rfl, .inl ((sub_of s).rd h), (t.mono (sub_of s)).dp hf, hc.1, hc.2, fun p hp => q p _ hp ?_⟩
      have em : (xs.zip ds).map (·.2) = ds := zip_snd t.length
      have e2 : sortD ds = ((xs.zip ds).mergeSort (PySem.W.dataLe false (·.2))).map (·.2) := by
        have z := PySem.W.sort_maps (r := PySem.W.dataLe false fun b : V × PyData => b.2) (s := PySem.W.dataLe false (id : PyData → PyData)) (fun b : V × PyData => b.2) (l := xs.zip ds) fun _ _ _ _ => rfl
        rw [z, em]
        rfl
      rw [e2]
      exact TrAll.of_pairs fun p hp => t.zip_perm p ((List.mergeSort_perm _ _).mem_iff.mp hp)
    · cases e
  · rename_i es0
    split at e
    · rename_i ks hk
      split at e
      · rename_i hl
        cases e
        cases t with | cons u t =>
        cases t
        cases u with
        | dK h t =>
          rename_i a kvs
          exact .inr ⟨a, kvs, ks, rfl, (sub_of s).rd h, intKeys_kv t hk, hl, fun ys p hp hs hn => q p _ hn (by rw [sortI_uniq hp hs]; exact ints_trB _)⟩
        | exc h1 h2 h3 h4 => cases hk
        | dX h m n ne t =>
          exfalso
          cases t with
          | nil => exact ne rfl
          | cons _ _ hd _ _ _ => obtain ⟨ds, rfl⟩ := hd; cases hk
      · cases e
    · cases e
  · cases e
/-! ### repr -/
def gRepr : List PyData → Option PyData
  | [d] => if SeqAt.shaped d = true ∧ d.showable = true ∧ d.shown.length ≤ 1000000 then some (.str d.shown) else none
  | _ => none
mutual
theorem nodict : ∀ d : PyData, flat d = true → d.hasDict = false
  | .none, _ => rfl
  | .bool _, _ => rfl
  | .int _, _ => rfl
  | .str _, _ => rfl
  | .list xs, h => by
    rw [PyData.hasDict]
    exact nodictAll xs (by simpa [flat] using h)
  | .tuple xs, h => by
    rw [PyData.hasDict]
    exact nodictAll xs (by simpa [flat] using h)
  | .dict _, h => by simp [flat] at h
theorem nodictAll : ∀ ds : List PyData, flatAll ds = true → PyData.hasDictAll ds = false
  | [], _ => rfl
  | x :: xs, h => by
    simp only [flatAll, Bool.and_eq_true] at h
    rw [PyData.hasDictAll, nodict x h.1, nodictAll xs h.2]
    rfl
end
def rReprD (K : PySem.W.Frag) : List V → Hp → VK → Prop := fun vs H Q => ∃ (x : V) (d : PyData), vs = [x] ∧ Dp K H x d ∧ SeqAt.shaped d = true ∧ d.showable = true ∧ d.shown.length ≤ 1000000 ∧ Q (.str d.shown) H
theorem cr_reprD (hG : X.A.guards = some []) (hu : X.A.units + 70 < cLine) : CallR X (.builtin "repr") (rReprD X.K) := by
  intro pins s σ H vs us Q I r h
  obtain ⟨x, d, rfl, hd, hs, hsh, hsz, q⟩ := h
  obtain ⟨u, rfl, ru⟩ := vals1 r
  have hz := lim_sz hsz
  cases hd with
  | non =>
    cases ru
    exact PySem.P.repr_of_none ⟨.str _, H, I.tok _, ⟨_, rfl⟩, q⟩
  | bl b =>
    cases ru
    exact PySem.P.repr_of_bool ⟨.str _, H, I.tok _, ⟨_, rfl⟩, q⟩
  | int i =>
    obtain ⟨t, rfl⟩ := ru
    exact PySem.P.repr_of_int (by simpa [PyData.showable] using hsh) ⟨.str _, H, I.tok _, ⟨_, rfl⟩, q⟩
  | str y =>
    obtain ⟨t, rfl⟩ := ru
    exact PySem.P.repr_of_str ⟨.str _, H, I.tok _, ⟨_, rfl⟩, q⟩ hz
  | @lst a ys ds h1 h2 =>
    cases ru
    obtain ⟨as, hr⟩ := Dp.reads I (.list ds) (.ref a) (.ref a) (.lst h1 h2) rfl
    have hdep : (PyData.list ds).depth ≤ 64 := by
      unfold SeqAt.shaped at hs
      simp only [Bool.and_eq_true, decide_eq_true_eq] at hs
      exact hs.2
    refine repr_of_reads' hr hsh (fun z => by rw [nodict _ (flat_of hs)] at z; cases z) hG (by omega) (fun _ _ e => e) (fun h' u tk hk => ?_) hz
    exact ⟨.str _, H, I.kept hk, ⟨_, rfl⟩, q⟩
  | @tup a ys ds h1 h2 =>
    cases ru
    obtain ⟨as, hr⟩ := Dp.reads I (.tuple ds) (.ref a) (.ref a) (.tup h1 h2) rfl
    have hdep : (PyData.tuple ds).depth ≤ 64 := by
      unfold SeqAt.shaped at hs
      simp only [Bool.and_eq_true, decide_eq_true_eq] at hs
      exact hs.2
    refine repr_of_reads' hr hsh (fun z => by rw [nodict _ (flat_of hs)] at z; cases z) hG (by omega) (fun _ _ e => e) (fun h' u tk hk => ?_) hz
    exact ⟨.str _, H, I.kept hk, ⟨_, rfl⟩, q⟩
theorem bd_repr (hG : X.A.guards = some []) (hu : X.A.units + 70 < cLine) : BD X T (.builtin "repr") gRepr := by
  refine ⟨_, cr_reprD hG hu, fun G H vs ds d Q s t e q => ?_⟩
  unfold gRepr at e
  split at e
  · split at e
    · rename_i hc
      cases e
      cases t with | cons u t =>
      cases t
      exact ⟨_, _, rfl, Dp.mono' (sub_of s) (flat_of hc.1) u, hc.1, hc.2.1, hc.2.2, q _ H G (Grow.refl s) (.str _)⟩
    · cases e
  · cases e
/-! ### isinstance -/
def tyOf : PyData → String
  | .none => "NoneType"
  | .bool _ => "bool"
  | .int _ => "int"
  | .str _ => "str"
  | .list _ => "list"
  | .tuple _ => "tuple"
  | .dict _ => "dict"
def isExc : PyData → Bool
  | .dict ((.none, _) :: _) => true
  | .dict ((.tuple _, _) :: _) => true
  | _ => false
theorem tyx_of {K : PySem.W.Frag} {G H : Hp} {v : V} {d : PyData} (s : Sub G H) (t : Tr K G v d) (hx : isExc d = false) : TyX K H v (.type (tyOf d)) := by
  cases t with
  | non => exact .base .non
  | bl b => exact .base (.bl b)
  | int i => exact .base (.int i)
  | str x => exact .base (.str x)
  | lst h _ =>
    rcases h with h | ⟨o, h⟩
    · exact .base (.lst (s _ _ h))
    · exact .base (.frz (s _ _ h))
  | tup h _ =>
    rcases h with h | ⟨o, h⟩
    · exact .base (.tup (s _ _ h))
    · exact .fTuple (s _ _ h)
  | dK h _ =>
    rcases h with h | ⟨o, h⟩
    · exact .base (.dK (s _ _ h))
    · exact .fDict (s _ _ h)
  | dX _ _ _ ne t =>
    cases t with
    | nil => exact absurd rfl ne
    | cons _ _ hd _ _ _ => obtain ⟨ds, rfl⟩ := hd; cases hx
  | exc _ _ _ _ => cases hx
def isTyS (n t : String) : Bool := decide (t = n) || (decide (n = "int") && decide (t = "bool"))
def isTy (n : String) (d : PyData) : Bool := isTyS n (tyOf d)
theorem kit_all : ∀ n ∈ ["int", "bool", "str", "tuple", "list", "dict"], ∀ t ∈ ["NoneType", "bool", "int", "str", "list", "tuple", "dict"], kitB t n = some (isTyS n t) := by decide +kernel
theorem tyOf_mem (d : PyData) : tyOf d ∈ ["NoneType", "bool", "int", "str", "list", "tuple", "dict"] := by cases d <;> simp [tyOf]
theorem kit_is {K : PySem.W.Frag} {n : String} (hn : n ∈ ["int", "bool", "str", "tuple", "list", "dict"]) (d : PyData) : PySem.W.kitOne K (.type (tyOf d)) (.type n) = some (isTy n d) := by
  exact kit_ty (kit_all n hn _ (tyOf_mem d))
def fIsi (n : String) (f : EF) : EF := fun ρ => (f ρ).bind fun x => if isExc x.1 = false then .ok (.bool (isTy n x.1), x.2) else .no
theorem ee_isi {y : Str} {n : String} {p1 : Pos} (hm : X.mg "isinstance" = none) (hy : X.mg y = none) (hv : bootBuiltins y = some (.type n)) (h : EE X B ok e f) (hn : n ∈ ["int", "bool", "str", "tuple", "list", "dict"] := by decide) (hg : Gl X "isinstance" := by rfl) (hgy : Gl X y := by rfl)
    (hny : y ≠ "__name__" := by decide) (hdy : (y == ("__debug__" : Str)) = false := by decide)
    (h1 : starEach [e, .Name y p1] X.env = (false, eval e X.env) :: starEach [.Name y p1] X.env := by rfl) (h2 : starEach [.Name y p1] X.env = (false, eval (.Name y p1) X.env) :: starEach [] X.env := by rfl)
    (hpl : (backTo pos (starEach [.Name y p1] X.env)).any (·.1) = false := by rfl) : EE X B ok (.Call (.Name "isinstance" p) [e, .Name y p1] [] pos) (fIsi n f) := by
  obtain ⟨t, pe, k⟩ := h.ex
  have py : PE X (.Name y p1) (tC (.ty n)) := pe_bltn hgy hy hv rfl hny hdy
  refine ⟨_, pe_callB call_isi hg hm (by decide +kernel) (pa_cons pe (pa_cons py pa_nil h2) h1) (by decide) (by decide) h1 hpl, fun σ H G ρ Q r q => k σ H G ρ _ r ((R.sat_bind q).imp fun y q v H1 G1 s1 r1 t1 => ?_)⟩
  obtain ⟨hx, q⟩ := ite_sat q
  exact ⟨v, .ty n, _, _, _, rfl, .ty n, tyx_of r1.subG t1 hx, kit_is hn y.1, q _ H1 G1 s1 r1 (.bl _)⟩
end
end Y


/-! YInt: int(x), str(x), ranges with a step. -/
namespace Y
open PySem PySem.Spec PyProof.Rows L2
section
variable {X : Cx} {T : YT}
def gIntOf : List PyData → Option PyData
  | [.int i] => some (.int i)
  | [.bool b] => some (.int (if b = true then 1 else 0))
  | [.str s] => if s.length ≤ 640 then (PySem.intText? s).map PyData.int else none
  | _ => none
theorem bd_int : BD X T (.type "int") gIntOf := by
  refine ⟨fun vs H Q => ((∃ i, vs = [.int i] ∧ Q (.int i) H) ∨ ∃ k, vs = [.bl k] ∧ Q (.int (if k then 1 else 0)) H) ∨ ∃ a n, vs = [.str a] ∧ PySem.intText? a = some n ∧ a.length ≤ 640 ∧ Q (.int n) H, fun pins s σ H xs us Q I r h => ?_, fun G H vs ds d Q s t e q => ?_⟩
  · rcases h with h | h
    · exact call_int1 pins s σ H xs us Q I r h
    · exact call_int_str pins s σ H xs us Q I r h
  · unfold gIntOf at e
    split at e
    · cases e
      cases t with | cons u t =>
      cases t
      cases u
      exact .inl (.inl ⟨_, rfl, q _ H G (Grow.refl s) (.int _)⟩)
    · cases e
      cases t with | cons u t =>
      cases t
      cases u
      exact .inl (.inr ⟨_, rfl, q _ H G (Grow.refl s) (.int _)⟩)
    · split at e
      · rename_i hl
        obtain ⟨n, hn, rfl⟩ := Option.map_eq_some_iff.mp e
        cases t with | cons u t =>
        cases t
        cases u
        exact .inr ⟨_, _, rfl, hn, hl, q _ H G (Grow.refl s) (.int _)⟩
      · cases e
    · cases e
def gStrOf : List PyData → Option PyData
  | [.int i] => if i.natAbs.log2 < 1920 then some (.str (toString i)) else none
  | _ => none
theorem bd_str : BD X T (.type "str") gStrOf := by
  refine ⟨_, call_str_int, fun G H vs ds d Q s t e q => ?_⟩
  unfold gStrOf at e
  split at e
  · split at e
    · rename_i hl
      cases e
      cases t with | cons u t =>
      cases t
      cases u
      exact ⟨_, rfl, hl, q _ H G (Grow.refl s) (.str _)⟩
    · cases e
  · cases e
end
/-! ### range(i, j, c) -/
def rangeC (lo c : Int) (n : Nat) : List PyData := (List.range n).map fun i => .int (lo + (i : Nat) * c)
def rng3Of : List PyData → Option (List PyData)
  | [.int i, .int j, .int c] => if c ≠ 0 ∧ c.natAbs < 1073741824 ∧ Builtin.Range.small i j c = true then some (rangeC i c (Builtin.Range.rangeSize i j c).toNat) else none
  | _ => none
def fRng3 (fs : AF) : AF := fun ρ => (fs ρ).bind fun x => (ofO (rng3Of x.1)).bind fun ds => .ok (ds, x.2)
theorem rangeC_get {lo c : Int} {n i : Nat} {d : PyData} (h : (rangeC lo c n)[i]? = some d) : i < n ∧ d = .int (lo + (i : Nat) * c) := by
  unfold rangeC at h
  rw [List.getElem?_map] at h
  obtain ⟨k, hk, rfl⟩ := Option.map_eq_some_iff.mp h
  obtain ⟨hl, e⟩ := List.getElem?_eq_some_iff.mp hk
  rw [List.getElem_range] at e
  subst e
  rw [List.length_range] at hl
  exact ⟨hl, rfl⟩
theorem yields_rngC {K : PySem.W.Frag} {T : YT} {G : Hp} {lo c : Int} {n : Nat} : Yields K T (Itc lo c n) G (rangeC lo c n) := by
  refine ⟨fun i d G2 H2 h _ h2 => ?_, fun i G2 H2 h _ _ => ?_⟩
  · obtain ⟨h1, rfl⟩ := rangeC_get h
    exact ⟨h1, fun x H3 hy => by
      obtain ⟨rfl, rfl⟩ := hy
      exact ⟨G2, Grow.refl h2, .int _⟩⟩
  · unfold rangeC at h
    rw [List.length_map, List.length_range] at h
    exact h
section
variable {X : Cx} {B : Ent} {ok : OkX} {a b c tg : Expr} {fs : AF} {p pos : Pos}
theorem ei_range3 (hm : X.mg "range" = none) (h : EA X B ok [a, b, c] fs) (hg : Gl X "range" := by rfl) (hs : starEach [a, b, c] X.env = (false, eval a X.env) :: starEach [b, c] X.env := by rfl) (hpl : (backTo pos (starEach [b, c] X.env)).any (·.1) = false := by rfl) : EI X B ok tg (.Call (.Name "range" p) [a, b, c] [] pos) (fRng3 fs) := by
  obtain ⟨t, pa, k⟩ := h.ex
  refine ⟨_, pi_range3 hg hm pa hs hpl, fun σ H G ρ W r q => k σ H G ρ _ r ((R.sat_bind (r := fs ρ) (f := fun x => (ofO (rng3Of x.1)).bind fun ds => R.ok (ds, x.2)) q).imp fun x qx vs H1 G1 s1 r1 t1 => ?_)⟩
  obtain ⟨ds, ei, qx⟩ := ofO_sat (R.sat_bind (r := ofO (rng3Of x.1)) (f := fun ds => R.ok (ds, x.2)) qx)
  obtain ⟨xs, ρ1⟩ := x
  unfold rng3Of at ei
  split at ei
  · rename_i i j c0 hx
    dsimp only at hx
    subst hx
    split at ei
    · rename_i hc
      cases ei
      cases t1 with | cons u t1 =>
      cases t1 with | cons w t1 =>
      cases t1 with | cons z t1 =>
      cases t1
      cases u; cases w; cases z
      exact ⟨i, j, c0, _, rfl, ⟨hc.1, hc.2.1, hc.2.2, PyProof.Rows.rangeSize_toNat i j c0⟩, qx _ H1 G1 s1 r1 yields_rngC⟩
    · cases ei
  · cases ei
end
end Y


/-! YMore: chains, slices, methods of one's own objects, their entries, dict displays, names set side by side, enumerate. -/
namespace Y
open PySem PySem.Spec PyProof.Rows L2
section
variable {X : Cx} {B : Ent} {ok : OkX} {cls : Clss} {a b c e : Expr} {es : List Expr} {fa fb fc f : EF} {fs : AF} {pos p p1 p2 : Pos} {k j n : Nat} {x y : Str} {T : YT}
/-! ### a < b < c -/
def fChain (g g' : PyData → PyData → Option PyData) (fa fb fc : EF) : EF := fun ρ => (fa ρ).bind fun x => (fb x.2).bind fun y => (ofO (g x.1 y.1)).bind fun d => (ofO (asB d)).bind fun k =>
  if k = true then (fc y.2).bind fun z => (ofO (g' y.1 z.1)).bind fun d' => .ok (d', z.2) else .ok (.bool false, y.2)
theorem chain_ok {ta tb tc : TE} {r r' : R2} {g g' : PyData → PyData → Option PyData}
    (ka : ∀ (σ : St) (H G : Hp) (ρ : En) (Q : VK), Rel X.K B G H σ ρ → (fa ρ).sat (fun r => ∀ v H' G', Adv σ G H ρ G' H' r.2 → Rel X.K B G' H' σ r.2 → Tr X.K G' v r.1 → Q v H') ok → ta σ H Q)
    (kb : ∀ (σ : St) (H G : Hp) (ρ : En) (Q : VK), Rel X.K B G H σ ρ → (fb ρ).sat (fun r => ∀ v H' G', Adv σ G H ρ G' H' r.2 → Rel X.K B G' H' σ r.2 → Tr X.K G' v r.1 → Q v H') ok → tb σ H Q)
    (kc : ∀ (σ : St) (H G : Hp) (ρ : En) (Q : VK), Rel X.K B G H σ ρ → (fc ρ).sat (fun r => ∀ v H' G', Adv σ G H ρ G' H' r.2 → Rel X.K B G' H' σ r.2 → Tr X.K G' v r.1 → Q v H') ok → tc σ H Q)
    (hr : RD B.T X.K r g) (hr' : RD B.T X.K r' g') {σ : St} {H G : Hp} {ρ : En} {Q : VK} (h : Rel X.K B G H σ ρ) (q : (fChain g g' fa fb fc ρ).sat (fun r => ∀ v H' G', Adv σ G H ρ G' H' r.2 → Rel X.K B G' H' σ r.2 → Tr X.K G' v r.1 → Q v H') ok) :
    tChain r r' ta tb tc σ H Q := by
  refine ka σ H G ρ _ h ((R.sat_bind q).imp fun x qx v1 H1 G1 s1 r1 t1 => ?_)
  refine kb σ H1 G1 x.2 _ r1 ((R.sat_bind qx).imp fun y qy v2 H2 G2 s2 r2 t2 => ?_)
  obtain ⟨d, e, qd⟩ := ofO_sat (R.sat_bind qy)
  obtain ⟨kk, ek, qk⟩ := ofO_sat (R.sat_bind qd)
  refine hr G2 H2 v1 v2 x.1 y.1 d _ r2.sub (t1.mono s2.sub) t2 e fun v H' G' g t => ⟨kk, asB_tr t ek, ?_⟩
  have r3 := r2.step g
  have a3 := (s1.trans s2).trans (Adv.grow (σ := σ) (ρ := y.2) g)
  by_cases hk : kk = true
  · rw [if_pos hk] at qk ⊢
    refine kc σ H' G' y.2 _ r3 ((R.sat_bind qk).imp fun z qz v3 H3 G3 s3 r4 t3 => ?_)
    obtain ⟨d', e', qd'⟩ := ofO_sat (R.sat_bind qz)
    exact hr' G3 H3 v2 v3 y.1 z.1 d' Q r4.sub ((t2.mono g.gm).mono s3.sub) t3 e' fun v H4 G4 g4 t4 => qd' v H4 G4 ((a3.trans s3).trans (Adv.grow g4)) (r4.step g4) t4
  · rw [if_neg hk] at qk ⊢
    exact qk (.bl false) H' G' a3 r3 (.bl false)
theorem ee_chain {op op' : CmpOp} {g g' : PyData → PyData → Option PyData} (ho : OpD X B.T (compareOp op) g) (ho' : OpD X B.T (compareOp op') g') (ha : EE X B ok a fa) (hb : EE X B ok b fb) (hc : EE X B ok c fc)
    (hm : lastMarks [op, op'] [b, c] = false := by with_unfolding_all rfl) : EE X B ok (.Compare a [op, op'] [b, c] pos) (fChain g g' fa fb fc) := by
  obtain ⟨r, h1, h2⟩ := ho
  obtain ⟨r', h3, h4⟩ := ho'
  obtain ⟨ta, pa, ka⟩ := ha.ex
  obtain ⟨tb, pb, kb⟩ := hb.ex
  obtain ⟨tc, pc, kc⟩ := hc.ex
  exact ⟨_, pe_chain h1 h3 pa pb pc hm, fun σ H G ρ Q h q => chain_ok ka kb kc h2 h4 h q⟩
theorem et_chain {op op' : CmpOp} {g g' : PyData → PyData → Option PyData} (ho : OpD X B.T (compareOp op) g) (ho' : OpD X B.T (compareOp op') g') (ha : EE X B ok a fa) (hb : EE X B ok b fb) (hc : EE X B ok c fc)
    (hm : lastMarks [op, op'] [b, c] = false := by with_unfolding_all rfl) : ET X B ok (.Compare a [op, op'] [b, c] pos) (fB (fChain g g' fa fb fc)) := by
  obtain ⟨r, h1, h2⟩ := ho
  obtain ⟨r', h3, h4⟩ := ho'
  obtain ⟨ta, pa, ka⟩ := ha.ex
  obtain ⟨tb, pb, kb⟩ := hb.ex
  obtain ⟨tc, pc, kc⟩ := hc.ex
  refine ⟨_, pt_chain h1 h3 pa pb pc hm, fun σ H G ρ Q h q => chain_ok ka kb kc h2 h4 h ((fB_sat q).imp fun x ⟨k, e, qk⟩ v H' G' s' r' t' => ?_)⟩
  exact ⟨k, asB_tr t' e, qk H' G' s' r'⟩
/-! ### slices -/
abbrev OF := En → R (Option Int × En)
structure EO (X : Cx) (B : Ent) (ok : OkX) (e : Option Expr) (f : OF) : Prop where
  ex : ∃ t : TO, PO X e t ∧ ∀ (σ : St) (H G : Hp) (ρ : En) (Q : Option Int → Hp → Prop), Rel X.K B G H σ ρ →
    (f ρ).sat (fun r => ∀ H' G', Adv σ G H ρ G' H' r.2 → Rel X.K B G' H' σ r.2 → Q r.1 H') ok → t σ H Q
def oNo : OF := fun ρ => .ok (none, ρ)
def asI : PyData → Option Int
  | .int i => some i
  | _ => none
def oEx (f : EF) : OF := fun ρ => (f ρ).bind fun x => (ofO (asI x.1)).bind fun i => .ok (some i, x.2)
theorem eo_no : EO X B ok none oNo := ⟨_, po_none, fun σ H G ρ Q r q => q H G Adv.refl r⟩
theorem eo_ex (h : EE X B ok e f) : EO X B ok (some e) (oEx f) := by
  obtain ⟨t, pe, ke⟩ := h.ex
  refine ⟨_, po_some pe, fun σ H G ρ Q r q => ke σ H G ρ _ r ((R.sat_bind q).imp fun x qx v H1 G1 s1 r1 t1 => ?_)⟩
  obtain ⟨i, ei, qi⟩ := ofO_sat (R.sat_bind qx)
  have ex : x.1 = .int i := by
    unfold asI at ei
    split at ei
    · cases ei; assumption
    · cases ei
  rw [ex] at t1
  cases t1
  exact ⟨i, rfl, qi H1 G1 s1 r1⟩
def cutD (xs : List PyData) (lo hi : Option Int) : List PyData := (xs.drop (HT.sIx xs.length 0 lo)).take (HT.sIx xs.length xs.length hi - HT.sIx xs.length 0 lo)
def slD (d : PyData) (lo hi : Option Int) : Option PyData := match d with
  | .list ds => some (.list (cutD ds lo hi))
  | .tuple ds => some (.tuple (cutD ds lo hi))
  | .str z => if z.length ≤ 1000000 then some (.str (cutS z lo hi)) else none
  | _ => none
theorem cut_tr {K : PySem.W.Frag} {G : Hp} {vs : List V} {ds : List PyData} (t : TrAll K G vs ds) (lo hi : Option Int) : TrAll K G (cutV vs lo hi) (cutD ds lo hi) := by
  unfold cutV cutD
  rw [t.length]
  exact (t.drop _).take _
theorem cut_all {α : Type} {xs : List α} {lo hi : Option Int} (h : HT.sIx xs.length 0 lo = 0 ∧ HT.sIx xs.length xs.length hi = xs.length) : (xs.drop (HT.sIx xs.length 0 lo)).take (HT.sIx xs.length xs.length hi - HT.sIx xs.length 0 lo) = xs := by
  rw [h.1, h.2]
  simp
def fSl (f : EF) (lo hi : OF) : EF := fun ρ => (f ρ).bind fun x => (lo x.2).bind fun l => (hi l.2).bind fun u => (ofO (slD x.1 l.1 u.1)).bind fun d => .ok (d, u.2)
theorem ee_sl {lo hi : Option Expr} {fl fh : OF} (h : EE X B ok e f) (hl : EO X B ok lo fl) (hh : EO X B ok hi fh) : EE X B ok (.Subscript e (.Slice lo hi none p2) pos) (fSl f fl fh) := by
  obtain ⟨t, pe, ke⟩ := h.ex
  obtain ⟨tl, pl, kl⟩ := hl.ex
  obtain ⟨th, ph, kh⟩ := hh.ex
  refine ⟨_, pe_slice ((sl_list.or sl_tupA).or sl_str) pe pl ph, fun σ H G ρ Q r q => ke σ H G ρ _ r ((R.sat_bind q).imp fun x qx v H1 G1 s1 r1 t1 => ?_)⟩
  refine kl σ H1 G1 x.2 _ r1 ((R.sat_bind qx).imp fun l ql H2 G2 s2 r2 => ?_)
  refine kh σ H2 G2 l.2 _ r2 ((R.sat_bind ql).imp fun u qu H3 G3 s3 r3 => ?_)
  obtain ⟨d, ed, qd⟩ := ofO_sat (R.sat_bind qu)
  have t3 := t1.mono (s2.sub.trans s3.sub)
  have a3 := (s1.trans s2).trans s3
  unfold slD at ed
  split at ed
  · rename_i ds hx
    cases ed
    rw [hx] at t3
    cases t3 with
    | lst hr ta =>
      rename_i a xs
      refine .inl (.inl ⟨a, xs, rfl, .inl (r3.subG.rd hr), fun pp hp => ?_⟩)
      have g : Grow B.T [] G3 H3 (upd G3 pp (.lst (cutV xs l.1 u.1))) (upd H3 pp (.lst (cutV xs l.1 u.1))) := Grow.new r3.sub hp (fun _ z => nomatch z)
      exact qd _ _ _ (a3.trans (Adv.grow g)) (r3.step g) (.lst (.inl upd_same) ((cut_tr ta _ _).mono g.gm))
  · rename_i ds hx
    cases ed
    rw [hx] at t3
    cases t3 with
    | tup hr ta =>
      rename_i a xs
      refine .inl (.inr ⟨a, xs, rfl, sqt (r3.subG.rd hr), fun hw => ?_, fun hw pp hp => ?_⟩)
      · refine qd _ _ _ a3 r3 (.tup hr ?_)
        have hw' := hw
        rw [ta.length] at hw'
        unfold cutD
        rw [cut_all hw']
        exact ta
      · have g : Grow B.T [] G3 H3 (upd G3 pp (.tup (cutV xs l.1 u.1))) (upd H3 pp (.tup (cutV xs l.1 u.1))) := Grow.new r3.sub hp (fun _ z => nomatch z)
        exact qd _ _ _ (a3.trans (Adv.grow g)) (r3.step g) (.tup (.inl upd_same) ((cut_tr ta _ _).mono g.gm))
  · rename_i z hx
    split at ed
    · rename_i hz
      cases ed
      rw [hx] at t3
      cases t3
      exact .inr ⟨z, rfl, lim_sz hz, qd _ _ _ a3 r3 (.str _)⟩
    · cases ed
  · cases ed
/-! ### one's own objects are changed -/
def Pl : HO → Prop
  | .lst _ => True
  | .dK _ => True
  | .dT _ => True
  | .ext φ => ∀ c q, HO.ext φ ≠ LamX.CodeO c q
  | _ => False
theorem dX_ne {a c : Addr} {q : Str} {xs : List (NestedKey × Addr × V)} : dX a xs ≠ LamX.CodeO c q := fun e => by
  have e2 := HO.ext.inj e
  have hg : ∀ b, b < a + c + 1 → (Heap.mk (Array.replicate (a + c + 1) ({ cls := .none, data := .fields #[.none, .str q default] } : Obj)) {}).get? b = some ({ cls := .none, data := .fields #[.none, .str q default] } : Obj) := fun b hb => by
    simp [Heap.get?, hb]
  have h : rawX a xs (Heap.mk (Array.replicate (a + c + 1) ({ cls := .none, data := .fields #[.none, .str q default] } : Obj)) {}) := by
    rw [e2]
    exact ⟨_, _, default, hg c (Nat.lt_succ_of_le (Nat.le_add_left c a)), rfl, rfl⟩
  obtain ⟨o, es, ep, us, ho, hx, hd, _⟩ := h
  rw [hg a (Nat.lt_succ_of_le (Nat.le_add_right a c))] at ho
  cases ho
  cases hd
theorem Own.pl {K : PySem.W.Frag} {G H : Hp} {a : Addr} {d : PyData} (w : Own K G H a d) : ∃ o, H a = some o ∧ Pl o := by
  cases w with
  | lst h _ => exact ⟨_, h, trivial⟩
  | dK h _ => exact ⟨_, h, trivial⟩
  | dX h _ _ _ _ => exact ⟨_, h, fun _ _ => dX_ne⟩
theorem Grow.wr {io : List Addr} {G H : Hp} {a : Addr} {o o' : HO} (h : ∀ b o, G b = some o → H b = some o ∧ ∀ ps, o ≠ .tbl ps) (n : G a = none) (e : H a = some o) (ht : Pl o) (hi : a ∈ io) : Grow T io G H G (upd H a o') := by
  refine ⟨fun b u q => ?_, Sub.refl G, fun b u q hb _ => ?_, fun b q => ?_, fun b q _ => q, fun t => fun pr hp => ?_⟩
  · have hb : b ≠ a := fun z => by rw [z, n] at q; cases q
    rw [upd_ne hb]; exact h b u q
  · have hb : b ≠ a := fun z => hb (z ▸ hi)
    rw [upd_ne hb]; exact q
  · by_cases hb : b = a
    · subst hb; rw [upd_same]; simp
    · rw [upd_ne hb]; exact q
  · obtain ⟨ps, h1, h2, h3⟩ := t pr hp
    have hb : pr.1 ≠ a := fun z => by rw [z, e] at h1; cases h1; exact ht
    refine ⟨ps, by rw [upd_ne hb]; exact h1, h2, fun ps' cv hcv => ?_⟩
    obtain ⟨c, e1, e2⟩ := h3 ps' cv hcv
    have hc : c ≠ a := fun z => by rw [z, e] at e2; cases e2; exact ht _ _ rfl
    exact ⟨c, e1, by rw [upd_ne hc]; exact e2⟩
/-- a method that may change the object -/
def MtD (X : Cx) (T : YT) (id : String) (F : PyData → List PyData → Option (PyData × PyData)) : Prop := ∃ r, MtR X id r ∧ ∀ (G H : Hp) (a : Addr) (d0 d' res : PyData) (vs : List V) (ds : List PyData) (Q : VK),
  (∀ b o, G b = some o → H b = some o ∧ ∀ ps, o ≠ .tbl ps) → G a = none → Own X.K G H a d0 → TrAll X.K G vs ds → F d0 ds = some (res, d') →
  (∀ v H' G', Grow T [a] G H G' H' → G' a = none → Own X.K G' H' a d' → Tr X.K G' v res → Q v H') → r (.ref a) vs H Q
def gApp : PyData → List PyData → Option (PyData × PyData)
  | .list ds, [d] => if ds.length < 1000000 then some (.none, .list (ds ++ [d])) else none
  | _, _ => none
theorem lim_lt {n : Nat} (h : n < 1000000) : n < sizeLine := Nat.lt_of_lt_of_le h (by rw [sizeLine_eq]; decide)
theorem md_append : MtD X T "list.append" gApp := by
  refine ⟨_, mt_append, fun G H a d0 d' res vs ds Q s n w t e q => ?_⟩
  unfold gApp at e
  split at e
  · rename_i xs d
    split at e
    · rename_i hl
      cases e
      cases t with | cons t0 t1 =>
      cases t1
      cases w with | lst hH ta =>
      rename_i vs0 _
      refine ⟨a, _, _, rfl, rfl, hH, by rw [ta.length]; exact lim_lt hl, ?_⟩
      exact q .non _ G (Grow.wr s n hH trivial (by simp)) n (.lst upd_same (ta.append (.cons t0 .nil))) .non
    · cases e
  · cases e
def gPop : PyData → List PyData → Option (PyData × PyData)
  | .list ds, [] => match ds.getLast? with
    | some d => some (d, .list ds.dropLast)
    | none => none
  | _, _ => none
theorem TrAll.dropLast {K : PySem.W.Frag} {G : Hp} {vs : List V} {ds : List PyData} (t : TrAll K G vs ds) : TrAll K G vs.dropLast ds.dropLast := by
  rw [List.dropLast_eq_take, List.dropLast_eq_take, t.length]
  exact t.take _
theorem md_pop : MtD X T "list.pop" gPop := by
  refine ⟨_, mt_pop, fun G H a d0 d' res vs ds Q s n w t e q => ?_⟩
  unfold gPop at e
  split at e
  · rename_i xs
    split at e
    · rename_i d hd
      cases e
      cases t
      cases w with | lst hH ta =>
      rename_i vs0
      have hd2 : xs[vs0.length - 1]? = some res := by rw [ta.length, ← List.getLast?_eq_getElem?]; exact hd
      obtain ⟨v, hv, tv⟩ := ta.get hd2
      refine ⟨a, _, v, rfl, rfl, hH, hv, ?_⟩
      exact q v _ G (Grow.wr s n hH trivial (by simp)) n (.lst upd_same ta.dropLast) tv
    · cases e
  · cases e
def gPopAt : PyData → List PyData → Option (PyData × PyData)
  | .list ds, [.int i] => if -1000000 ≤ i ∧ i ≤ 1000000 then match seqIndex? i ds.length with
    | some k => match ds[k]? with
      | some d => some (d, .list (ds.eraseIdx k))
      | none => none
    | none => none else none
  | _, _ => none
theorem TrAll.eraseIdx {K : PySem.W.Frag} {G : Hp} : ∀ {vs : List V} {ds : List PyData} (k : Nat), TrAll K G vs ds → TrAll K G (vs.eraseIdx k) (ds.eraseIdx k)
  | _, _, _, .nil => .nil
  | _, _, 0, .cons _ t => t
  | _, _, k + 1, .cons h t => .cons h (TrAll.eraseIdx k t)
theorem md_popAt : MtD X T "list.pop" gPopAt := by
  refine ⟨_, mt_popAt, fun G H a d0 d' res vs ds Q s n w t e q => ?_⟩
  unfold gPopAt at e
  split at e
  · rename_i xs i
    split at e
    · rename_i hl
      split at e
      · rename_i k hk
        split at e
        · rename_i d hd
          cases e
          cases t with | cons t0 t1 =>
          cases t1
          cases t0
          cases w with | lst hH ta =>
          rename_i vs0
          obtain ⟨v, hv, tv⟩ := ta.get hd
          refine ⟨a, _, i, k, v, rfl, rfl, hH, by omega, by omega, by rw [ta.length]; exact hk, hv, ?_⟩
          exact q v _ G (Grow.wr s n hH trivial (by simp)) n (.lst upd_same (ta.eraseIdx k)) tv
        · cases e
      · cases e
    · cases e
  · cases e
def gExt : PyData → List PyData → Option (PyData × PyData)
  | .list ds, [.list es] => if ds.length + es.length ≤ 1000000 then some (.none, .list (ds ++ es)) else none
  | _, _ => none
theorem TrAll.app {K : PySem.W.Frag} {G : Hp} : ∀ {vs ws : List V} {ds es : List PyData}, TrAll K G vs ds → TrAll K G ws es → TrAll K G (vs ++ ws) (ds ++ es)
  | _, _, _, _, .nil, u => u
  | _, _, _, _, .cons h t, u => .cons h (TrAll.app t u)
def rExtR : V → List V → Hp → VK → Prop := fun x vs H Q => ∃ l b xs zs, x = .ref l ∧ vs = [.ref b] ∧ H l = some (.lst xs) ∧ Rd H b (.lst zs) ∧ xs.length + zs.length ≤ sizeLine ∧ Q .non (upd H l (.lst (xs ++ zs)))
theorem mt_extR : MtM X "list.extend" rExtR := by
  intro pins s σ H x vs v us Q I rx rv h
  obtain ⟨l, b, xs, zs, rfl, rfl, hH, hB, hz, q⟩ := h
  cases rx
  obtain ⟨u, rfl, ru⟩ := rv.one
  cases ru
  obtain ⟨z, its, n, r, hl, e⟩ := I.lstM hH
  obtain ⟨its2, n2, r2, e2⟩ := rd_lst I hB
  have hl2 := r2.length
  have hsz : its.toArray.size + its2.toArray.size ≤ sizeLine := by rw [List.size_toArray, List.size_toArray]; omega
  have hlong : ¬ (!its.toArray.isEmpty && Builtin.List.listTooLong (its.toArray.size + its2.toArray.size)) = true := by
    rw [notLongL hsz, Bool.and_false]
    exact Bool.false_ne_true
  refine call_meets F.slot_list_extend ⟨_, e, rfl⟩ F.entry_list_extend (F.args_list_extend_2 _ _)
    (AutoSeq1.list_extend_list_list_0 l its.toArray n b its2.toArray n2 hlong (by rw [List.size_toArray]; omega) (by omega)) ⟨e, e2, ?_⟩
  refine ⟨.non, _, I.lset (its' := its ++ its2) hH e (by simp) (r.append r2) ?_, rfl, q⟩
  rw [List.length_append]
  omega
theorem md_extend : MtD X T "list.extend" gExt := by
  refine ⟨_, mt_extR, fun G H a d0 d' res vs ds Q s n w t e q => ?_⟩
  unfold gExt at e
  split at e
  · rename_i xs es
    split at e
    · rename_i hl
      cases e
      cases t with | cons t0 t1 =>
      cases t1
      cases t0 with | lst hB tb =>
      rename_i b zs
      cases w with | lst hH ta =>
      rename_i vs0
      refine ⟨a, b, vs0, zs, rfl, rfl, hH, hB.imp (fun h => (s _ _ h).1) (fun ⟨o, h⟩ => ⟨o, (s _ _ h).1⟩), by rw [ta.length, tb.length, sizeLine_eq]; omega, ?_⟩
      exact q .non _ G (Grow.wr s n hH trivial (by simp)) n (.lst upd_same (ta.app tb)) .non
    · cases e
  · cases e
/-- x.m(..), x a slot of one's own -/
def isLst : PyData → Bool
  | .list _ => true
  | _ => false
def fMth (F : PyData → List PyData → Option (PyData × PyData)) (i : Nat) (fs : AF) : EF := fun ρ => (ioAt ρ i).bind fun z => if isLst z = true then (fs ρ).bind fun x => (ioAt x.2 i).bind fun d0 => (ofO (F d0 x.1)).bind fun r => .ok (r.1, ioSet x.2 i r.2) else .no
theorem isLst_own {K : PySem.W.Frag} {G H : Hp} {a : Addr} {d : PyData} (w : Own K G H a d) (h : isLst d = true) : tyV K "list" (.ref a) H := by
  cases w with
  | lst hH _ => exact .inl ⟨rfl, _, .inl (.inl hH)⟩
  | dK _ _ => cases h
  | dX _ _ _ _ _ => cases h
theorem mth_fin {F : PyData → List PyData → Option (PyData × PyData)} {id : String} {i : Nat} {r : V → List V → Hp → VK → Prop} {σ : St} {H G H1 G1 : Hp} {ρ : En} {Q : VK} {y : List PyData × En} {vs : List V} {a0 : Addr}
    (km : ∀ (G H : Hp) (a : Addr) (d0 d' res : PyData) (vs : List V) (ds : List PyData) (Q : VK), (∀ b o, G b = some o → H b = some o ∧ ∀ ps, o ≠ .tbl ps) → G a = none → Own X.K G H a d0 → TrAll X.K G vs ds → F d0 ds = some (res, d') →
      (∀ v H' G', Grow B.T [a] G H G' H' → G' a = none → Own X.K G' H' a d' → Tr X.K G' v res → Q v H') → r (.ref a) vs H Q)
    (ea0 : σ[i]? = some (some (.ref a0))) (s1 : Adv σ G H ρ G1 H1 y.2) (r1 : Rel X.K B G1 H1 σ y.2) (t1 : TrAll X.K G1 vs y.1)
    (q : ((ioAt y.2 i).bind fun d0 => (ofO (F d0 y.1)).bind fun r => R.ok (r.1, ioSet y.2 i r.2)).sat (fun r => ∀ v H' G', Adv σ G H ρ G' H' r.2 → Rel X.K B G' H' σ r.2 → Tr X.K G' v r.1 → Q v H') ok) : r (.ref a0) vs H1 Q := by
  obtain ⟨d0, e0, q0⟩ := ioAt_sat (R.sat_bind q)
  obtain ⟨rr, er, qr⟩ := ofO_sat (R.sat_bind q0)
  obtain ⟨a, s, hs, had, ea, n0, w0⟩ := r1.at_io e0
  rw [ea0] at ea; cases ea
  refine km G1 H1 a0 d0 rr.2 rr.1 vs y.1 Q r1.sub n0 w0 t1 er fun v H' G' g n' w' t' => ?_
  obtain ⟨r2, s2⟩ := r1.stepIo hs had g n' w'
  exact qr v H' G' (s1.trans s2) r2 t'
theorem ee_mth {id : String} {m : Str} {apos : Pos} {F : PyData → List PyData → Option (PyData × PyData)} (i : Nat) (M : MtD X B.T id F) (pa : PlainAttrs "list") (slot : Slot "list" m id) (hty : typeOf (.builtin id) = pure (.type "method_descriptor"))
    (ha : EA X B ok (e :: es) fs)
    (hN : X.N[i]? = some y := by rfl) (hv : Vis X.env.scope y := by first | exact Or.inl rfl | exact Or.inr (Or.inl rfl) | exact Or.inr (Or.inr rfl))
    (hd1 : (y == ("__debug__" : Str)) = false := by decide) (hd2 : (y == ("__classdict__" : Str)) = false := by decide)
    (hbase : attributeBase (.Name y p1) m X.env (eval (.Name y p1) X.env) = eval (.Name y p1) X.env := by rfl)
    (hfew : ((backTo pos (starEach (e :: es) X.env)).all (fun x => !x.1) && (backToKw pos (keywordEach [] X.env)).all (fun x => x.1.isSome)
      && decide ((e :: es).length + ([] : List Keyword).length + (if ([] : List Keyword).isEmpty then 0 else 1) < 30)) = true := by rfl)
    (hline : (apos.endLine == pos.line) = true := by rfl) (hs : starEach (e :: es) X.env = (false, eval e X.env) :: starEach es X.env := by rfl) (hplain : (backTo pos (starEach es X.env)).any (·.1) = false := by rfl) :
    EE X B ok (.Call (.Attribute (.Name y p1) m apos) (e :: es) [] pos) (fMth F i fs) := by
  obtain ⟨r, hm, km⟩ := M
  obtain ⟨t, pa', ka⟩ := ha.ex
  refine ⟨_, pe_bm pa slot hty hm (pe_var hN hv hd1 hd2) pa' hbase hfew hline hs hplain, fun σ H G ρ Q rr q => ?_⟩
  obtain ⟨z, ez, q⟩ := ioAt_sat (R.sat_bind q)
  obtain ⟨hl, q⟩ := ite_sat q
  obtain ⟨a0, _, _, _, ea0, _, w0⟩ := rr.at_io ez
  refine ⟨_, ea0, isLst_own w0 hl, ka σ H G ρ _ rr ((R.sat_bind q).imp fun y qy vs H1 G1 s1 r1 t1 => ?_)⟩
  exact mth_fin (id := id) km ea0 s1 r1 t1 qy
theorem ee_mth0 {id : String} {m : Str} {apos : Pos} {F : PyData → List PyData → Option (PyData × PyData)} (i : Nat) (M : MtD X B.T id F) (pa : PlainAttrs "list") (slot : Slot "list" m id) (hty : typeOf (.builtin id) = pure (.type "method_descriptor"))
    (hN : X.N[i]? = some y := by rfl) (hv : Vis X.env.scope y := by first | exact Or.inl rfl | exact Or.inr (Or.inl rfl) | exact Or.inr (Or.inr rfl))
    (hd1 : (y == ("__debug__" : Str)) = false := by decide) (hd2 : (y == ("__classdict__" : Str)) = false := by decide)
    (hbase : attributeBase (.Name y p1) m X.env (eval (.Name y p1) X.env) = eval (.Name y p1) X.env := by rfl)
    (hline : (apos.endLine == pos.line) = true := by rfl) :
    EE X B ok (.Call (.Attribute (.Name y p1) m apos) [] [] pos) (fMth F i fNil) := by
  obtain ⟨r, hm, km⟩ := M
  refine ⟨_, pe_bm0 pa slot hty hm (pe_var hN hv hd1 hd2) hbase hline, fun σ H G ρ Q rr q => ?_⟩
  obtain ⟨z, ez, q⟩ := ioAt_sat (R.sat_bind q)
  obtain ⟨hl, q⟩ := ite_sat q
  obtain ⟨a0, _, _, _, ea0, _, w0⟩ := rr.at_io ez
  exact ⟨_, ea0, isLst_own w0 hl, mth_fin (id := id) (ok := ok) (y := ([], ρ)) km ea0 Adv.refl rr .nil (R.sat_bind (r := fNil ρ) q)⟩
end
end Y


/-! YDict: entries of dicts and lists, of one's own or shared; names that are handed on; dict displays. -/
namespace Y
open PySem PySem.Spec PyProof.Rows L2
/-! ### keys -/
def keyOf : PyData → Option Key
  | .int i => some (.inl i)
  | .str s => some (.inr s)
  | _ => none
def keysOf : List PyData → Option (List Key)
  | [] => some []
  | d :: ds => match keyOf d, keysOf ds with
    | some k, some ks => some (k :: ks)
    | _, _ => none
def kc : PyData → Option (Key ⊕ List Key)
  | .int i => some (.inl (.inl i))
  | .str s => some (.inl (.inr s))
  | _ => none
def lkD (es : List (PyData × PyData)) (c : Key ⊕ List Key) : Option PyData := (es.find? fun p => decide (kc p.1 = some c)).map (·.2)
def putD (es : List (PyData × PyData)) (dk : PyData) (c : Key ⊕ List Key) (d : PyData) : List (PyData × PyData) :=
  if (es.any fun p => decide (kc p.1 = some c)) = true then es.map (fun p => if kc p.1 = some c then (p.1, d) else p) else es ++ [(dk, d)]
theorem kc_kD (k : Key) : kc (kD k) = some (.inl k) := by cases k <;> rfl
theorem keyOf_kD (k : Key) : keyOf (kD k) = some k := by cases k <;> rfl
theorem keysOf_kD : ∀ ks : List Key, keysOf (ks.map kD) = some ks
  | [] => rfl
  | k :: ks => by rw [List.map_cons]; unfold keysOf; rw [keyOf_kD, keysOf_kD ks]
theorem keyOf_inv {d : PyData} {k : Key} (h : keyOf d = some k) : d = kD k := by
  unfold keyOf at h
  split at h <;> cases h <;> rfl
theorem keysOf_inv : ∀ {ds : List PyData} {ks : List Key}, keysOf ds = some ks → ds = ks.map kD
  | [], ks, h => by cases h; rfl
  | d :: ds, ks, h => by
    unfold keysOf at h
    split at h
    · rename_i k ks' h1 h2
      cases h
      rw [List.map_cons, ← keyOf_inv h1, ← keysOf_inv h2]
    · cases h
theorem kc_inv {d : PyData} {c : Key ⊕ List Key} (h : kc d = some c) : ∃ k, c = .inl k ∧ d = kD k := by
  unfold kc at h
  split at h
  · cases h; exact ⟨_, rfl, rfl⟩
  · cases h; exact ⟨_, rfl, rfl⟩
  · cases h
theorem kV_tr {K : PySem.W.Frag} {G : Hp} {v : V} {k : Key} (t : Tr K G v (kD k)) : v = kV k := by
  cases k with
  | inl i => cases t; rfl
  | inr s => cases t; rfl
section
variable {K : PySem.W.Frag} {G : Hp}
theorem kv_look : ∀ {kvs : List (Key × V)} {es : List (PyData × PyData)} (k : Key), TrKV K G kvs es → (∃ v d, valV kvs k = some v ∧ lkD es (.inl k) = some d ∧ Tr K G v d) ∨ (valV kvs k = none ∧ lkD es (.inl k) = none)
  | _, _, k, .nil => .inr ⟨rfl, rfl⟩
  | _, _, k, .cons (k := k') (v := v) (d := d) h t => by
    by_cases e : k' = k
    · subst e
      refine .inl ⟨v, d, by simp [valV, List.find?_cons], ?_, h⟩
      unfold lkD
      rw [List.find?_cons, kc_kD]
      simp
    · have e1 : decide (k' = k) = false := by simp [e]
      have e2 : decide (kc (kD k') = some (.inl k)) = false := by rw [kc_kD]; simp [e]
      have a1 : ∀ r : List (Key × V), valV ((k', v) :: r) k = valV r k := fun r => valV_neg e
      have a2 : ∀ es, lkD ((kD k', d) :: es) (.inl k) = lkD es (.inl k) := fun es => by unfold lkD; rw [List.find?_cons]; simp only [e2]
      rw [a1, a2]
      exact kv_look k t
theorem kv_any : ∀ {kvs : List (Key × V)} {es : List (PyData × PyData)} (k : Key), TrKV K G kvs es → (kvs.any fun kv => decide (kv.1 = k)) = es.any fun p => decide (kc p.1 = some (.inl k))
  | _, _, k, .nil => rfl
  | _, _, k, .cons (k := k') h t => by
    rw [List.any_cons, List.any_cons, kv_any k t]
    simp only [kc_kD, Option.some.injEq, Sum.inl.injEq]
theorem kv_repl {v : V} {d : PyData} (tv : Tr K G v d) : ∀ {kvs : List (Key × V)} {es : List (PyData × PyData)} (k : Key), TrKV K G kvs es → TrKV K G (kvs.map fun kv => if kv.1 = k then (kv.1, v) else kv) (es.map fun p => if kc p.1 = some (.inl k) then (p.1, d) else p)
  | _, _, k, .nil => .nil
  | _, _, k, .cons (k := k') h t => by
    rw [List.map_cons, List.map_cons]
    by_cases e : k' = k
    · have e2 : kc (kD k') = some (.inl k) := by rw [kc_kD, e]
      simp only [if_pos e, if_pos e2]
      exact .cons tv (kv_repl tv k t)
    · have e2 : ¬ kc (kD k') = some (.inl k) := by rw [kc_kD]; simp [e]
      simp only [if_neg e, if_neg e2]
      exact .cons h (kv_repl tv k t)
theorem kv_snoc {v : V} {d : PyData} (k : Key) (tv : Tr K G v d) : ∀ {kvs : List (Key × V)} {es : List (PyData × PyData)}, TrKV K G kvs es → TrKV K G (kvs ++ [(k, v)]) (es ++ [(kD k, d)])
  | _, _, .nil => .cons tv .nil
  | _, _, .cons h t => .cons h (kv_snoc k tv t)
theorem kv_put {kvs : List (Key × V)} {es : List (PyData × PyData)} {v : V} {d : PyData} (k : Key) (t : TrKV K G kvs es) (tv : Tr K G v d) : TrKV K G (putK kvs k v) (putD es (kD k) (.inl k) d) := by
  unfold putK putD
  rw [kv_any k t]
  split
  · exact kv_repl tv k t
  · exact kv_snoc k tv t
theorem TrKV.length {kvs : List (Key × V)} {es : List (PyData × PyData)} : TrKV K G kvs es → kvs.length = es.length
  | .nil => rfl
  | .cons _ t => by rw [List.length_cons, List.length_cons, TrKV.length t]
end
/-! ### a name's value, whoever owns it -/
/-- what an object shows -/
inductive Shw (K : PySem.W.Frag) (G H : Hp) (a : Addr) : PyData → Prop
  | lst {vs : List V} {ds : List PyData} : SqL K H a vs → TrAll K G vs ds → Shw K G H a (.list ds)
  | tup {vs : List V} {ds : List PyData} : SqT K H a vs → TrAll K G vs ds → Shw K G H a (.tuple ds)
  | dK {kvs : List (Key × V)} {es : List (PyData × PyData)} : Rd H a (.dK kvs) → TrKV K G kvs es → Shw K G H a (.dict es)
  | dX {xs : List (NestedKey × Addr × V)} {es : List (PyData × PyData)} : Rd H a (Y.dX a xs) → (a == sysModules) = false → (xs.map (·.1)).Nodup → xs ≠ [] → TrX K G xs es → Shw K G H a (.dict es)
  | exc {c : Str} {d : PyData} : Shw K G H a (.dict [(.none, .str c), (.none, d)])
theorem Own.shw {K : PySem.W.Frag} {G H : Hp} {a : Addr} {d : PyData} (w : Own K G H a d) : Shw K G H a d := by
  cases w with
  | lst h t => exact .lst (.inl (.inl h)) t
  | dK h t => exact .dK (.inl h) t
  | dX h m n ne t => exact .dX (.inl h) m n ne t
theorem Tr.shw {K : PySem.W.Frag} {G H : Hp} {v : V} {d : PyData} (s : Sub G H) (t : Tr K G v d) : (∃ a, v = .ref a ∧ Shw K G H a d) ∨ ((∀ ds, d ≠ .list ds) ∧ (∀ ds, d ≠ .tuple ds) ∧ ∀ es, d ≠ .dict es) := by
  cases t with
  | lst h t => exact .inl ⟨_, rfl, .lst (.inl (s.rd h)) t⟩
  | tup h t => exact .inl ⟨_, rfl, .tup (sqt (s.rd h)) t⟩
  | dK h t => exact .inl ⟨_, rfl, .dK (s.rd h) t⟩
  | dX h m n ne t => exact .inl ⟨_, rfl, .dX (s.rd h) m n ne t⟩
  | exc h n x t => exact .inl ⟨_, rfl, .exc⟩
  | non => exact .inr ⟨nofun, nofun, nofun⟩
  | bl b => exact .inr ⟨nofun, nofun, nofun⟩
  | int b => exact .inr ⟨nofun, nofun, nofun⟩
  | str b => exact .inr ⟨nofun, nofun, nofun⟩
/-- the data in a slot -/
def anyAt (ρ : En) (i : Nat) : R PyData := match ρ[i]? with
  | some (.sh d) => .ok d
  | some (.ow d) => .ok d
  | some (.io d) => .ok d
  | _ => .no
theorem anyAt_sat {ρ : En} {i : Nat} {P : PyData → Prop} {E : OkX} (h : (anyAt ρ i).sat P E) : ∃ d, anyAt ρ i = .ok d ∧ P d := by
  cases e : anyAt ρ i with
  | ok d => rw [e] at h; exact ⟨d, rfl, h⟩
  | er c d =>
    unfold anyAt at e
    split at e <;> cases e
  | no => rw [e] at h; exact h.elim
theorem Rel.any {K : PySem.W.Frag} {B : Ent} {G H : Hp} {σ : St} {ρ : En} {i : Nat} {d : PyData} (r : Rel K B G H σ ρ) (h : anyAt ρ i = .ok d) : ∃ v, σ[i]? = some (some v) ∧ ((∃ a, v = .ref a ∧ Shw K G H a d) ∨ ((∀ ds, d ≠ .list ds) ∧ (∀ ds, d ≠ .tuple ds) ∧ (∀ es, d ≠ .dict es) ∧ Tr K G v d)) := by
  unfold anyAt at h
  split at h
  · rename_i d' e
    cases h
    obtain ⟨v, e1, t⟩ := r.at_ i _ e
    rcases t.shw r.subG with q | q
    · exact ⟨v, e1, .inl q⟩
    · exact ⟨v, e1, .inr ⟨q.1, q.2.1, q.2.2, t⟩⟩
  · rename_i d' e
    cases h
    obtain ⟨a, e1, n, z, w⟩ := r.at_ i _ e
    exact ⟨_, e1, .inl ⟨a, rfl, w.shw⟩⟩
  · rename_i d' e
    cases h
    obtain ⟨a, e1, n, z, w⟩ := r.at_ i _ e
    exact ⟨_, e1, .inl ⟨a, rfl, w.shw⟩⟩
  · cases h
section
variable {X : Cx} {B : Ent} {ok : OkX} {cls : Clss} {a b c e : Expr} {es : List Expr} {fa fb fc f : EF} {fs : AF} {ft : TF} {pos p p1 p2 : Pos} {k j n i : Nat} {x y : Str} {T : YT}
/-- a name that is handed on: what was one's own is frozen -/
def fNm (i : Nat) : EF := fun ρ => match ρ[i]? with
  | some (.sh d) => .ok (d, ρ)
  | some (.ow d) => .ok (d, ρ.set i (.sh d))
  | _ => .no
theorem Adv.free {σ : St} {G H G' : Hp} {ρ ρ' : En} (s : Sub G G') (h : ∀ p, H p ≠ none → G p = none → Free σ ρ p → G' p = none ∧ Free σ ρ' p) : Adv σ G H ρ G' H ρ' :=
  ⟨s, fun _ h => h, fun p o e n _ f => ⟨e, h p (by rw [e]; simp) n f⟩⟩
theorem Rel.fzA {K : PySem.W.Frag} {G H : Hp} {σ : St} {ρ : En} {d : PyData} (r : Rel K B G H σ ρ) (e : ρ[i]? = some (.ow d)) : ∃ G' v, Adv σ G H ρ G' H (ρ.set i (.sh d)) ∧ Rel K B G' H σ (ρ.set i (.sh d)) ∧ σ[i]? = some (some v) ∧ Tr K G' v d := by
  obtain ⟨a, e1, n, z, w⟩ := r.at_ i _ e
  have r1 : Rel K B G H σ (ρ.set i .un) := r.forget
  have hi : i < ρ.length := (List.getElem?_eq_some_iff.mp e).1
  have x : Fresh K B G H σ (ρ.set i .un) a d := ⟨n, z, w, fun j s hj ej => by
    by_cases hji : i = j
    · subst hji
      rw [List.getElem?_set_self hi] at hj
      cases hj
      exact ej
    · rw [List.getElem?_set_ne hji] at hj
      exact r.sep i j _ s a hji e hj e1 ej⟩
  obtain ⟨G', s', eq, r', t'⟩ := r1.frz x
  have r2 := r'.setSh (i := i) t'
  rw [List.set_set] at r2
  have es : σ.set i (some (.ref a)) = σ := by
    apply List.ext_getElem?
    intro j
    by_cases hji : i = j
    · subst hji
      rw [List.getElem?_set_self (by rw [r.len]; exact hi), e1]
    · rw [List.getElem?_set_ne hji]
  rw [es] at r2
  refine ⟨G', _, Adv.free s' (fun p hp np fr => ?_), r2, e1, t'⟩
  have hpa : p ≠ a := fun z => fr i _ e (by subst z; exact e1)
  refine ⟨by rw [eq p hpa]; exact np, fun j s hj ej => ?_⟩
  by_cases hji : i = j
  · subst hji
    rw [List.getElem?_set_self hi] at hj
    cases hj
    exact ej
  · rw [List.getElem?_set_ne hji] at hj
    exact fr j s hj ej
theorem ee_nm (i : Nat) {x : Str} (hN : X.N[i]? = some x := by rfl) (hv : Vis X.env.scope x := by first | exact Or.inl rfl | exact Or.inr (Or.inl rfl) | exact Or.inr (Or.inr rfl)) (hd : (x == ("__debug__" : Str)) = false := by decide)
    (hcd : (x == ("__classdict__" : Str)) = false := by decide) : EE X B ok (.Name x pos) (fNm i) := by
  refine ⟨_, pe_var hN hv hd hcd, fun σ H G ρ Q r q => ?_⟩
  unfold fNm at q
  split at q
  · rename_i d e
    obtain ⟨v, e1, t⟩ := r.at_ i _ e
    exact ⟨v, e1, q v H G Adv.refl r t⟩
  · rename_i d e
    obtain ⟨G', v, a', r', e1, t'⟩ := r.fzA e
    exact ⟨v, e1, q v H G' a' r' t'⟩
  · exact q.elim
/-- .. and is not used any more -/
def fNmN (i : Nat) : EF := fun ρ => match ρ[i]? with
  | some (.ow d) => .ok (d, ρ.set i .un)
  | _ => .no
/-! ### x[e] -/
def gIxD : PyData → PyData → Option PyData
  | .list ds, .int i => atI ds i
  | .tuple ds, .int i => atI ds i
  | .dict es, d => (kc d).bind fun c => lkD es c
  | _, _ => none
theorem keys_all {K : PySem.W.Frag} {G : Hp} : ∀ {xs : List V} {ks : List Key}, TrAll K G xs (ks.map kD) → xs = ks.map kV
  | _, [], t => by cases t; rfl
  | _, k :: ks, t => by
    rw [List.map_cons] at t ⊢
    cases t with | cons t0 t1 => rw [kV_tr t0, keys_all t1]
/-- a value that is a key -/
theorem key_tr {K : PySem.W.Frag} {G : Hp} {v : V} {dk : PyData} {c : Key ⊕ List Key} (t : Tr K G v dk) (h : kc dk = some c) : ∃ k, c = .inl k ∧ dk = kD k ∧ v = kV k := by
  obtain ⟨k, rfl, rfl⟩ := kc_inv h
  exact ⟨k, rfl, rfl, kV_tr t⟩
theorem dget_rd {H : Hp} {a : Addr} {kvs : List (Key × V)} {k : Key} (e : Rd H a (.dK kvs)) : DGet H a (kV k) (valV kvs k) := .inl ⟨kvs, k, e, rfl, rfl⟩
theorem lkD_X {K : PySem.W.Frag} {G : Hp} {dk : PyData} {c : Key ⊕ List Key} (hc : kc dk = some c) : ∀ {xs : List (NestedKey × Addr × V)} {es : List (PyData × PyData)}, TrX K G xs es → lkD es c = none
  | _, _, .nil => rfl
  | _, _, .cons (kd := kd) _ _ hd _ _ t => by
    obtain ⟨ds, rfl⟩ := hd
    have ih := lkD_X hc t
    simp [lkD, kc] at ih ⊢
    exact ih
theorem shw_dget {K : PySem.W.Frag} {G H : Hp} {a : Addr} {es : List (PyData × PyData)} {v : V} {dk d : PyData} {c : Key ⊕ List Key} (s : Sub G H) (w : Shw K G H a (.dict es)) (t : Tr K G v dk) (hc : kc dk = some c) (e : lkD es c = some d) :
    ∃ u, DGet H a v (some u) ∧ Tr K G u d := by
  cases w with
  | dK hH tk =>
    obtain ⟨k, rfl, rfl, rfl⟩ := key_tr t hc
    rcases kv_look k tk with ⟨u, d', e1, e2, t'⟩ | ⟨_, e2⟩
    · rw [e] at e2; cases e2
      exact ⟨u, e1 ▸ dget_rd hH, t'⟩
    · rw [e] at e2; cases e2
  | exc => simp [lkD, kc] at e
  | dX _ _ _ _ tx => rw [lkD_X hc tx] at e; cases e
end
/-! ### an empty dict is of both kinds -/
section
variable {X : Cx} {pins : List (Addr × Obj)} {σ : St} {H : Hp} {s : Shared} {a : Addr} {y v d : V} {u r : Value} {o : Option V} {A : Around} {E : Value → Shared → Prop}
theorem upd_id {o : HO} (h : H a = some o) : upd H a o = H := by
  funext b
  by_cases e : b = a
  · subst e; rw [upd_same, h]
  · rw [upd_ne e]
theorem upd_upd {H : Hp} {o o' : HO} : upd (upd H a o) a o' = upd H a o' := by
  funext b
  by_cases e : b = a
  · subst e; rw [upd_same, upd_same]
  · rw [upd_ne e, upd_ne e, upd_ne e]
theorem same_refl {h : Heap} : Heap.SameBut a h h := ⟨rfl, fun _ _ => rfl⟩
theorem toT (I : Inv X pins σ H s) (e : H a = some (.dK [])) : Inv X pins σ (upd H a (.dT [])) s := by
  obtain ⟨_, hd, vs, rel, o, es, ep, h1, h2, h3, h4, h5, h6⟩ := dk_of I.hok e
  cases rel
  cases h5' : es.toList with
  | cons x r => rw [h5'] at h5; cases h5
  | nil =>
    exact d_write I (by rw [e]; exact True.intro) same_refl ⟨o, h1⟩ ⟨Nat.zero_le _, hd, [], .nil, o, es, ep, h1, h2, h3, by rw [h5']; rfl, List.nodup_nil⟩
theorem toK (I : Inv X pins σ H s) (e : H a = some (.dT [])) : Inv X pins σ (upd H a (.dK [])) s := by
  obtain ⟨_, hd, vs, rel, o, es, ep, h1, h2, h3, h4, _, h6⟩ := dt_of I.hok e
  cases rel
  have h4 : es.toList = [] := h4
  have h5 : es = #[] := by rw [← Array.toArray_toList (xs := es), h4]
  subst h5
  exact d_write I (by rw [e]; exact True.intro) same_refl ⟨o, h1⟩ ⟨Nat.zero_le _, hd, [], .nil, o, #[], ep, h1, h2, h3, fun e he => by simp at he, .nil, List.nodup_nil⟩
/-- y is a key -/
def IsKey (H : Hp) (y : V) : Prop := (∃ k, y = kV k) ∨ ∃ (k : List Key) (b : Addr), y = .ref b ∧ H b = some (.tup (k.map kV))
def DGetE (H : Hp) (a : Addr) (y : V) (o : Option V) : Prop := DGet H a y o ∨ ((H a = some (.dK []) ∨ H a = some (.dT [])) ∧ IsKey H y ∧ o = none)
theorem getE {P : Inv X pins σ H s → Prop} (I : Inv X pins σ H s) (g : DGetE H a y o)
    (k : ∀ H1, Inv X pins σ H1 s → DGet H1 a y o → (∀ s', Inv X pins σ H1 s' → Inv X pins σ H s') → P I) : P I := by
  rcases g with g | ⟨h, hk, rfl⟩
  · exact k H I g fun _ z => z
  · rcases hk with ⟨q, rfl⟩ | ⟨q, b, rfl, hb⟩
    · rcases h with h | h
      · exact k H I (DGet.k h) fun _ z => z
      · refine k _ (toK I h) (DGet.k upd_same) fun s' z => ?_
        have z' := toT z upd_same
        rw [upd_upd, upd_id h] at z'
        exact z'
    · rcases h with h | h
      · have hne : b ≠ a := fun z => by rw [z, h] at hb; cases hb
        refine k _ (toT I h) (DGet.t upd_same (by rw [upd_ne hne]; exact hb)) fun s' z => ?_
        have z' := toK z upd_same
        rw [upd_upd, upd_id h] at z'
        exact z'
      · exact k H I (DGet.t h hb) fun _ z => z
theorem d_inE {Q : Value → Shared → Prop} (hu : A.units + 1 < cLine) (I : Inv X pins σ H s) (g : DGetE H a y o) (ry : RelV y u) (h : ∀ s', Inv X pins σ H s' → Q (.bool o.isSome) s') :
    wpAny (model X.prog X.w) A (compareOp .In u (.ref a)) Q E s :=
  getE (P := fun _ => wpAny (model X.prog X.w) A (compareOp .In u (.ref a)) Q E s) I g fun _ I1 g1 bk => d_in hu I1 g1 ry fun s' I2 => h s' (bk s' I2)
theorem d_notInE {Q : Value → Shared → Prop} (hu : A.units + 1 < cLine) (I : Inv X pins σ H s) (g : DGetE H a y o) (ry : RelV y u) (h : ∀ s', Inv X pins σ H s' → Q (.bool (!o.isSome)) s') :
    wpAny (model X.prog X.w) A (compareOp .NotIn u (.ref a)) Q E s :=
  getE (P := fun _ => wpAny (model X.prog X.w) A (compareOp .NotIn u (.ref a)) Q E s) I g fun _ I1 g1 bk => d_notIn hu I1 g1 ry fun s' I2 => h s' (bk s' I2)
theorem d_get1E {Q : Value → Shared → Prop} (hu : A.units + 1 < cLine) (I : Inv X pins σ H s) (g : DGetE H a y o) (ry : RelV y u) (h : ∀ w' s', Inv X pins σ H s' → RelV (o.getD .non) w' → Q w' s') :
    wpAny (model X.prog X.w) A (call (.builtin "dict.get") [.ref a, u]) Q E s :=
  getE (P := fun _ => wpAny (model X.prog X.w) A (call (.builtin "dict.get") [.ref a, u]) Q E s) I g fun _ I1 g1 bk => d_get1 hu I1 g1 ry fun w' s' I2 => h w' s' (bk s' I2)
theorem d_get2E {Q : Value → Shared → Prop} (hu : A.units + 1 < cLine) (I : Inv X pins σ H s) (g : DGetE H a y o) (ry : RelV y u) (rd : RelV d r) (h : ∀ w' s', Inv X pins σ H s' → RelV (o.getD d) w' → Q w' s') :
    wpAny (model X.prog X.w) A (call (.builtin "dict.get") [.ref a, u, r]) Q E s :=
  getE (P := fun _ => wpAny (model X.prog X.w) A (call (.builtin "dict.get") [.ref a, u, r]) Q E s) I g fun _ I1 g1 bk => d_get2 hu I1 g1 ry rd fun w' s' I2 => h w' s' (bk s' I2)
def DPutE (H : Hp) (a : Addr) (y v : V) (H' : Hp) : Prop := DPut H a y v H' ∨ (∃ k, H a = some (.dT []) ∧ y = kV k ∧ H' = upd H a (.dK [(k, v)])) ∨
  ∃ k b, H a = some (.dK []) ∧ y = .ref b ∧ H b = some (.tup (k.map kV)) ∧ H' = upd H a (.dT [(k, v)])
theorem d_setItemE {H' : Hp} {Q : Unit → Shared → Prop} (hu : A.units + 1 < cLine) (I : Inv X pins σ H s) (g : DPutE H a y v H') (ry : RelV y u) (rv : RelV v r) (h : ∀ s', Inv X pins σ H' s' → Q () s') :
    wpAny (model X.prog X.w) A (setItem (.ref a) u r) Q E s := by
  rcases g with g | ⟨k, e, rfl, rfl⟩ | ⟨k, b, e, rfl, eb, rfl⟩
  · exact d_setItem hu I g ry rv h
  · refine d_setItem hu (toK I e) (DPut.k upd_same (by rw [sizeLine_eq]; decide)) ry rv fun s' z => h s' ?_
    rw [upd_upd] at z
    exact z
  · have hne : b ≠ a := fun z => by rw [z, e] at eb; cases eb
    refine d_setItem hu (toT I e) (DPut.t upd_same (by rw [upd_ne hne]; exact eb) (by rw [sizeLine_eq]; decide)) ry rv fun s' z => h s' ?_
    rw [upd_upd] at z
    exact z
/-! the rules -/
def rInE : R2 := fun x y H Q => ∃ a o, y = .ref a ∧ DGetE H a x o ∧ Q (.bl o.isSome) H
def rNotInE : R2 := fun x y H Q => ∃ a o, y = .ref a ∧ DGetE H a x o ∧ Q (.bl (!o.isSome)) H
theorem op_inE (hu : X.A.units + 1 < cLine) : OpR X (compareOp .In) rInE := by
  intro pins s σ H x y v u Q I rx ry h
  obtain ⟨a, o, rfl, g, q⟩ := h
  cases ry
  exact d_inE hu I g rx fun s' I' => ⟨.bl o.isSome, H, I', rfl, q⟩
theorem op_notInE (hu : X.A.units + 1 < cLine) : OpR X (compareOp .NotIn) rNotInE := by
  intro pins s σ H x y v u Q I rx ry h
  obtain ⟨a, o, rfl, g, q⟩ := h
  cases ry
  exact d_notInE hu I g rx fun s' I' => ⟨.bl (!o.isSome), H, I', rfl, q⟩
end
section
variable {K : PySem.W.Frag} {G H : Hp}
/-- the kind of a dict's keys fits the key -/
def kindOk (es : List (PyData × PyData)) (c : Key ⊕ List Key) : Bool := es.all fun p => match kc p.1, c with
  | some (.inl _), .inl _ => true
  | some (.inr _), .inr _ => true
  | _, _ => false
theorem shw_din {a : Addr} {es : List (PyData × PyData)} {v : V} {dk : PyData} {c : Key ⊕ List Key} (s : Sub G H) (w : Shw K G H a (.dict es)) (t : Tr K G v dk) (hc : kc dk = some c) (hk : kindOk es c = true) :
    ∃ o, DGetE H a v o ∧ ((∃ u d, o = some u ∧ lkD es c = some d ∧ Tr K G u d) ∨ (o = none ∧ lkD es c = none)) := by
  cases w with
  | dK hH tk =>
    obtain ⟨k, rfl, rfl, rfl⟩ := key_tr t hc
    refine ⟨_, .inl (dget_rd hH), ?_⟩
    rcases kv_look k tk with ⟨u, d', e1, e2, t'⟩ | ⟨e1, e2⟩
    · exact .inl ⟨u, d', e1, e2, t'⟩
    · exact .inr ⟨e1, e2⟩
  | exc => simp [kindOk, kc] at hk
  | dX _ _ _ ne tx =>
    cases tx with
    | nil => exact absurd rfl ne
    | cons _ _ hd _ _ _ => obtain ⟨ds, rfl⟩ := hd; simp [kindOk, kc] at hk
theorem own_dput {a : Addr} {es : List (PyData × PyData)} {v y : V} {dk d : PyData} {c : Key ⊕ List Key} (s : Sub G H) (w : Own K G H a (.dict es)) (ty : Tr K G y dk) (tv : Tr K G v d) (hc : kc dk = some c) (hk : kindOk es c = true) (hl : es.length < 1000000) :
    ∃ o, DPutE H a y v (upd H a o) ∧ Pl o ∧ Own K G (upd H a o) a (.dict (putD es dk c d)) := by
  cases w with
  | dK hH tk =>
    obtain ⟨k, rfl, rfl, rfl⟩ := key_tr ty hc
    exact ⟨_, .inl (DPut.k hH (by rw [tk.length]; exact lim_lt hl)), trivial, .dK upd_same (kv_put k tk tv)⟩
  | dX _ _ _ ne tx =>
    cases tx with
    | nil => exact absurd rfl ne
    | cons _ _ hd _ _ _ => obtain ⟨ds, rfl⟩ := hd; simp [kindOk, kc] at hk
end

section
variable {X : Cx} {B : Ent} {ok : OkX} {cls : Clss} {a b c e : Expr} {es : List Expr} {fa fb fc fk fv f : EF} {fs : AF} {ft : TF} {pos p p1 p2 tpos apos cpos : Pos} {j n i : Nat} {x y : Str} {T : YT}
/-! ### x[e], the base any value -/
theorem peOr {t t' : TE} (h : PE X e t) (h' : PE X e t') : PE X e (fun σ H Q => t σ H Q ∨ t' σ H Q) := by
  refine ⟨fun pins s σ H Q I q => ?_⟩
  rcases q with q | q
  · exact h.run pins s σ H Q I q
  · exact h'.run pins s σ H Q I q
theorem shw_ix {K : PySem.W.Frag} {G H : Hp} {a0 : Addr} {d dr : PyData} {i : Int} (w : Shw K G H a0 d) (e : gIxD d (.int i) = some dr) (hd : ∀ es, d ≠ .dict es) : ∃ v, Tr K G v dr ∧ ((∃ xs, SqL K H a0 xs ∧ atI xs i = some v) ∨ ∃ xs, SqT K H a0 xs ∧ atI xs i = some v) := by
  cases w with
  | lst h t =>
    obtain ⟨v, e1, t1⟩ := atI_tr t e
    exact ⟨v, t1, .inl ⟨_, h, e1⟩⟩
  | tup h t =>
    obtain ⟨v, e1, t1⟩ := atI_tr t e
    exact ⟨v, t1, .inr ⟨_, h, e1⟩⟩
  | dK _ _ => exact absurd rfl (hd _)
  | dX _ _ _ _ _ => exact absurd rfl (hd _)
  | exc => exact absurd rfl (hd _)
def isDct : PyData → Bool
  | .dict _ => true
  | _ => false
theorem isDct_not {d : PyData} (h : isDct d = false) : ∀ es, d ≠ .dict es := fun es z => by subst z; cases h
theorem isDct_is {d : PyData} (h : isDct d = true) : ∃ es, d = .dict es := by
  cases d <;> first | exact ⟨_, rfl⟩ | cases h
theorem gIxD_int {d k r : PyData} (e : gIxD d k = some r) (h : isDct d = false) : ∃ i, k = .int i := by
  cases d with
  | list ds => cases k <;> first | exact ⟨_, rfl⟩ | cases e
  | tuple ds => cases k <;> first | exact ⟨_, rfl⟩ | cases e
  | dict es => cases h
  | _ => cases e
theorem gIxD_dct {es : List (PyData × PyData)} {k r : PyData} (e : gIxD (.dict es) k = some r) : ∃ c, kc k = some c ∧ lkD es c = some r := by
  have e : (kc k).bind (fun c => lkD es c) = some r := e
  cases h : kc k with
  | none => rw [h] at e; cases e
  | some c => rw [h] at e; exact ⟨c, rfl, e⟩
theorem ee_ixd (hu : X.A.units + 64 < cLine) (ha : EE X B ok a fa) (hb : EE X B ok b fb) (hs : PlainIx b := by exact fun _ _ => rfl) : EE X B ok (.Subscript a b pos) (fOp gIxD fa fb) := by
  obtain ⟨ta, pa, ka⟩ := ha.ex
  obtain ⟨tb, pb, kb⟩ := hb.ex
  refine ⟨_, peOr (pe_ix (ix_list.or ix_tup) pa pb hs) (pe_dget (by omega) pa pb hs), fun σ H G ρ Q h q => ?_⟩
  have q : ((fa ρ).bind fun x => (fb x.2).bind fun y => (ofO (gIxD x.1 y.1)).bind fun d => .ok (d, y.2)).sat _ ok := q
  cases ef : fa ρ with
  | er c d => rw [ef] at q; exact .inl (ka σ H G ρ _ h (by rw [ef]; exact q))
  | no => rw [ef] at q; exact q.elim
  | ok x =>
    rw [ef] at q
    have q : ((fb x.2).bind fun y => (ofO (gIxD x.1 y.1)).bind fun d => .ok (d, y.2)).sat _ ok := q
    cases hd : isDct x.1 with
    | false =>
      refine .inl (ka σ H G ρ _ h ?_)
      rw [ef]
      intro v1 H1 G1 s1 r1 t1
      refine kb σ H1 G1 x.2 _ r1 ((R.sat_bind q).imp fun y qy v2 H2 G2 s2 r2 t2 => ?_)
      obtain ⟨d, ed, qd⟩ := ofO_sat (R.sat_bind qy)
      obtain ⟨i, ei⟩ := gIxD_int ed hd
      rw [ei] at ed t2
      cases t2
      rcases (t1.mono s2.sub).shw r2.subG with ⟨a0, rfl, w⟩ | ⟨n1, n2, n3⟩
      · obtain ⟨v, tv, ⟨xs, hx, e1⟩ | ⟨xs, hx, e1⟩⟩ := shw_ix w ed (isDct_not hd)
        · exact .inl ⟨_, _, _, v, rfl, rfl, hx, e1, qd v H2 G2 (s1.trans s2) r2 tv⟩
        · exact .inr ⟨_, _, _, v, rfl, rfl, hx, e1, qd v H2 G2 (s1.trans s2) r2 tv⟩
      · obtain ⟨d1, ρ1⟩ := x
        cases d1 with
        | list _ => exact absurd rfl (n1 _)
        | tuple _ => exact absurd rfl (n2 _)
        | dict _ => cases hd
        | _ => cases ed
    | true =>
      obtain ⟨es, hes⟩ := isDct_is hd
      refine .inr (ka σ H G ρ _ h ?_)
      rw [ef]
      intro v1 H1 G1 s1 r1 t1
      refine kb σ H1 G1 x.2 _ r1 ((R.sat_bind q).imp fun y qy v2 H2 G2 s2 r2 t2 => ?_)
      obtain ⟨d, ed, qd⟩ := ofO_sat (R.sat_bind qy)
      rw [hes] at ed t1
      obtain ⟨c, hc, hl⟩ := gIxD_dct ed
      rcases (t1.mono s2.sub).shw r2.subG with ⟨a0, rfl, w⟩ | ⟨_, _, n3⟩
      · obtain ⟨u, g, tu⟩ := shw_dget r2.subG w t2 hc hl
        exact ⟨a0, u, rfl, g, qd u H2 G2 (s1.trans s2) r2 tu⟩
      · exact absurd rfl (n3 _)
/-- x[e], x a name, whoever owns it -/
def fIxN (i : Nat) (fk : EF) : EF := fun ρ => (anyAt ρ i).bind fun d0 => (fk ρ).bind fun y => (anyAt y.2 i).bind fun d => if isDct d = isDct d0 then (ofO (gIxD d y.1)).bind fun r => .ok (r, y.2) else .no
theorem ee_ixn (i : Nat) (hu : X.A.units + 64 < cLine) (hb : EE X B ok b fk) (hN : X.N[i]? = some x := by rfl) (hv : Vis X.env.scope x := by first | exact Or.inl rfl | exact Or.inr (Or.inl rfl) | exact Or.inr (Or.inr rfl))
    (hd1 : (x == ("__debug__" : Str)) = false := by decide) (hd2 : (x == ("__classdict__" : Str)) = false := by decide) (hs : PlainIx b := by exact fun _ _ => rfl) : EE X B ok (.Subscript (.Name x p) b pos) (fIxN i fk) := by
  obtain ⟨tb, pb, kb⟩ := hb.ex
  refine ⟨_, peOr (pe_ix (ix_list.or ix_tup) (pe_var hN hv hd1 hd2) pb hs) (pe_dget (by omega) (pe_var hN hv hd1 hd2) pb hs), fun σ H G ρ Q h q => ?_⟩
  obtain ⟨d0, e0, q⟩ := anyAt_sat (R.sat_bind q)
  obtain ⟨v0, ev, _⟩ := h.any e0
  have fin : ∀ (y : PyData × En) (d r : PyData) (H2 G2 : Hp) (v2 : V), Rel X.K B G2 H2 σ y.2 → Tr X.K G2 v2 y.1 → anyAt y.2 i = .ok d → gIxD d y.1 = some r → ∃ a0 u, v0 = .ref a0 ∧ Tr X.K G2 u r ∧
      ((isDct d = false ∧ ∃ j, v2 = .int j ∧ ((∃ xs, SqL X.K H2 a0 xs ∧ atI xs j = some u) ∨ ∃ xs, SqT X.K H2 a0 xs ∧ atI xs j = some u)) ∨ (isDct d = true ∧ DGet H2 a0 v2 (some u))) := fun y d r H2 G2 v2 r2 t2 e1 ed => by
    obtain ⟨v, ev2, hw⟩ := r2.any e1
    rw [ev] at ev2; cases ev2
    rcases hw with ⟨a0, rfl, w⟩ | ⟨n1, n2, n3, _⟩
    · cases hd : isDct d with
      | false =>
        obtain ⟨j, ej⟩ := gIxD_int ed hd
        rw [ej] at ed t2
        cases t2
        obtain ⟨u, tu, hx⟩ := shw_ix w ed (isDct_not hd)
        exact ⟨a0, u, rfl, tu, .inl ⟨rfl, j, rfl, hx⟩⟩
      | true =>
        obtain ⟨es, rfl⟩ := isDct_is hd
        obtain ⟨c, hc, hl⟩ := gIxD_dct ed
        obtain ⟨u, g, tu⟩ := shw_dget r2.subG w t2 hc hl
        exact ⟨a0, u, rfl, tu, .inr ⟨rfl, g⟩⟩
    · cases d with
      | list _ => exact absurd rfl (n1 _)
      | tuple _ => exact absurd rfl (n2 _)
      | dict _ => exact absurd rfl (n3 _)
      | _ => cases ed
  cases hd : isDct d0 with
  | false =>
    refine .inl ⟨v0, ev, kb σ H G ρ _ h ((R.sat_bind q).imp fun y qy v2 H2 G2 s2 r2 t2 => ?_)⟩
    obtain ⟨d, e1, q1⟩ := anyAt_sat (R.sat_bind qy)
    obtain ⟨hk, q1⟩ := ite_sat q1
    obtain ⟨r, er, qr⟩ := ofO_sat (R.sat_bind q1)
    obtain ⟨a0, u, rfl, tu, ⟨_, j, rfl, ⟨xs, hx, hi⟩ | ⟨xs, hx, hi⟩⟩ | ⟨hdt, _⟩⟩ := fin y d r H2 G2 v2 r2 t2 e1 er
    · exact .inl ⟨_, _, _, u, rfl, rfl, hx, hi, qr u H2 G2 s2 r2 tu⟩
    · exact .inr ⟨_, _, _, u, rfl, rfl, hx, hi, qr u H2 G2 s2 r2 tu⟩
    · rw [hk, hd] at hdt; cases hdt
  | true =>
    refine .inr ⟨v0, ev, kb σ H G ρ _ h ((R.sat_bind q).imp fun y qy v2 H2 G2 s2 r2 t2 => ?_)⟩
    obtain ⟨d, e1, q1⟩ := anyAt_sat (R.sat_bind qy)
    obtain ⟨hk, q1⟩ := ite_sat q1
    obtain ⟨r, er, qr⟩ := ofO_sat (R.sat_bind q1)
    obtain ⟨a0, u, rfl, tu, ⟨hdf, _⟩ | ⟨_, g⟩⟩ := fin y d r H2 G2 v2 r2 t2 e1 er
    · rw [hk, hd] at hdf; cases hdf
    · exact ⟨a0, u, rfl, g, qr u H2 G2 s2 r2 tu⟩
/-! ### d[k] = v, d one's own -/
def sPut (i : Nat) (fk fv : EF) : SF := fun ρ => ofR ((fv ρ).bind fun v => (ioAt v.2 i).bind fun _ => (fk v.2).bind fun k => (ioAt k.2 i).bind fun d => match d, kc k.1 with
  | .dict es, some c => if kindOk es c = true ∧ es.length < 1000000 then .ok (.dict (putD es k.1 c v.1), k.2) else .no
  | _, _ => .no) fun x => .nx (ioSet x.2 i x.1)
theorem ss_put (i : Nat) (hu : X.A.units + 64 < cLine) (hk : EE X B ok b fk) (hv : EE X B ok c fv) (hN : X.N[i]? = some x := by rfl) (hvis : Vis X.env.scope x := by first | exact Or.inl rfl | exact Or.inr (Or.inl rfl) | exact Or.inr (Or.inr rfl))
    (hd1 : (x == ("__debug__" : Str)) = false := by decide) (hd2 : (x == ("__classdict__" : Str)) = false := by decide) (hs : swapsWith c (some (.Subscript (.Name x p) b p2)) pos.line X.env = pure false := by rfl) :
    SS X B ok (.Assign [.Subscript (.Name x p) b p2] c pos) (sPut i fk fv) := by
  obtain ⟨tk, pk, kk⟩ := hk.ex
  obtain ⟨tv, pv, kv⟩ := hv.ex
  refine ⟨fun D σ H => tv σ H fun v H1 => ∃ x0, σ[i]? = some (some x0) ∧ tk σ H1 fun y H3 => ∃ a H4, x0 = .ref a ∧ DPutE H3 a y v H4 ∧ D.nx σ H4, ⟨fun pins s σ H D I h => ?_⟩, fun σ H G ρ D r q => ?_⟩
  · refine wpAny_Assign_Subscript (thn (pv.run pins s σ H _ I h) fun r s1 ⟨v, H1, I1, rv, x0, e0, q1⟩ => thn ((pe_var hN hvis hd1 hd2).run pins s1 σ H1 (fun x1 H2 => x1 = x0 ∧ H2 = H1) I1 ⟨x0, e0, rfl, rfl⟩) fun u s2 ⟨x, H2, I2, rx, ex, eh⟩ => ?_) hs
    subst ex eh
    refine thn (pk.run pins s2 σ H2 _ I2 q1) fun iv s3 ⟨y, H3, I3, ry, a, H4, ex, g, q3⟩ => ?_
    subst ex
    obtain rfl : u = Value.ref a := rx
    exact d_setItemE (by omega) I3 g ry rv fun s4 I4 => ⟨σ, H4, I4, q3⟩
  · refine kv σ H G ρ _ r ((R.sat_bind (ofR_sat q)).imp fun v qv v1 H1 G1 s1 r1 t1 => ?_)
    obtain ⟨d1, e1, q1⟩ := ioAt_sat (R.sat_bind qv)
    obtain ⟨a0, _, _, _, ea0, _, _⟩ := r1.at_io e1
    refine ⟨_, ea0, kk σ H1 G1 v.2 _ r1 ((R.sat_bind q1).imp fun k qk v2 H2 G2 s2 r2 t2 => ?_)⟩
    obtain ⟨d2, e2, q2⟩ := ioAt_sat (R.sat_bind qk)
    obtain ⟨a, s, hs', had, ea, n0, w0⟩ := r2.at_io e2
    rw [ea0] at ea; cases ea
    split at q2
    · rename_i es c hc
      obtain ⟨⟨hk1, hl⟩, q2⟩ := ite_sat q2
      obtain ⟨o, g, hp, w'⟩ := own_dput r2.subG w0 t2 (t1.mono s2.sub) hc hk1 hl
      obtain ⟨o0, h0, p0⟩ := w0.pl
      obtain ⟨r3, s3⟩ := r2.stepIo hs' had (Grow.wr r2.sub n0 h0 p0 (by simp)) n0 w'
      exact ⟨_, _, rfl, g, q2 σ _ G2 (s1.sub.trans s2.sub) r3⟩
    · exact q2.elim
end
end Y


/-! YOwn: objects of one's own read without handing them on; dicts in tests; displays; names set side by side; enumerate; keywords. -/
namespace Y
open PySem PySem.Spec PyProof.Rows L2
section
variable {X : Cx} {B : Ent} {ok : OkX} {cls : Clss} {a b c e : Expr} {es : List Expr} {fa fb fc fk fv f : EF} {fs : AF} {ft : TF} {pos p p1 p2 tpos apos cpos : Pos} {j n i k : Nat} {x y : Str} {T : YT}
/-! ### in, with dicts -/
def gInD (a b : PyData) : Option PyData := match b with
  | .dict es => (kc a).bind fun c => if kindOk es c = true then some (.bool (lkD es c).isSome) else none
  | _ => gIn a b
def gNotInD (a b : PyData) : Option PyData := match b with
  | .dict es => (kc a).bind fun c => if kindOk es c = true then some (.bool (!(lkD es c).isSome)) else none
  | _ => gNotIn a b
theorem din_inv {K : PySem.W.Frag} {G H : Hp} {x y : V} {dx : PyData} {es : List (PyData × PyData)} {f : Bool → PyData} {d : PyData} (s : Sub G H) (tx : Tr K G x dx) (ty : Tr K G y (.dict es)) (e : ((kc dx).bind fun c => if kindOk es c = true then some (f (lkD es c).isSome) else none) = some d) :
    ∃ a o, y = .ref a ∧ DGetE H a x o ∧ d = f o.isSome := by
  cases hc : kc dx with
  | none => rw [hc] at e; cases e
  | some c =>
    rw [hc] at e
    have e : (if kindOk es c = true then some (f (lkD es c).isSome) else none) = some d := e
    split at e
    · rename_i hk
      cases e
      rcases ty.shw s with ⟨a, rfl, w⟩ | ⟨_, _, n3⟩
      · obtain ⟨o, g, h⟩ := shw_din s w tx hc hk
        refine ⟨a, o, rfl, g, ?_⟩
        rcases h with ⟨u, d, rfl, e2, _⟩ | ⟨rfl, e2⟩
        · rw [e2]; rfl
        · rw [e2]; rfl
      · exact absurd rfl (n3 _)
    · cases e
theorem opd_inD (hu : X.A.units + 65 < cLine) : OpD X T (compareOp .In) gInD := by
  obtain ⟨r, h1, h2⟩ := opd_in (X := X) (T := T) hu
  refine ⟨_, h1.or (op_inE (by omega)), fun G H x y dx dy d Q s tx ty e q => ?_⟩
  unfold gInD at e
  split at e
  · obtain ⟨a, o, rfl, g, rfl⟩ := din_inv (sub_of s) tx ty e
    exact .inr ⟨a, o, rfl, g, q _ H G (Grow.refl s) (.bl _)⟩
  · exact .inl (h2 G H x y dx dy d Q s tx ty e q)
theorem opd_notinD (hu : X.A.units + 65 < cLine) : OpD X T (compareOp .NotIn) gNotInD := by
  obtain ⟨r, h1, h2⟩ := opd_notin (X := X) (T := T) hu
  refine ⟨_, h1.or (op_notInE (by omega)), fun G H x y dx dy d Q s tx ty e q => ?_⟩
  unfold gNotInD at e
  split at e
  · obtain ⟨a, o, rfl, g, rfl⟩ := din_inv (f := fun z => .bool (!z)) (sub_of s) tx ty e
    exact .inr ⟨a, o, rfl, g, q _ H G (Grow.refl s) (.bl _)⟩
  · exact .inl (h2 G H x y dx dy d Q s tx ty e q)
/-! ### one's own object, read -/
def scl : PyData → Bool
  | .none => true
  | .bool _ => true
  | .int _ => true
  | .str _ => true
  | _ => false
theorem scl_tr {K : PySem.W.Frag} {G G' : Hp} {v : V} {d : PyData} (t : Tr K G v d) (h : scl d = true) : Tr K G' v d := by
  cases t with
  | non => exact .non
  | bl b => exact .bl b
  | int i => exact .int i
  | str z => exact .str z
  | _ => cases h
/-- in a larger frozen part the object is a shared one -/
theorem Rel.anyTr {K : PySem.W.Frag} {G H : Hp} {σ : St} {ρ : En} {d : PyData} (r : Rel K B G H σ ρ) (h : anyAt ρ i = .ok d) : ∃ v G2, σ[i]? = some (some v) ∧ Sub G G2 ∧ (∀ b o, G2 b = some o → H b = some o ∧ ∀ ps, o ≠ .tbl ps) ∧ Tr K G2 v d ∧
    (∀ T G' H', Grow T [] G2 H G' H' → Grow T [] G H G H') := by
  have own : ∀ {a : Addr}, G a = none → Own K G H a d → ∃ G2, Sub G G2 ∧ (∀ b o, G2 b = some o → H b = some o ∧ ∀ ps, o ≠ .tbl ps) ∧ Tr K G2 (.ref a) d ∧ (∀ T G' H', Grow T [] G2 H G' H' → Grow T [] G H G H') := fun {a} n w => by
    obtain ⟨o, ho, ht⟩ := w.nt
    have s1 : Sub G (upd G a o) := Sub.new n
    refine ⟨upd G a o, s1, Grow.freeze r.sub ho ht, ?_, fun T G' H' g => ?_⟩
    · cases w with
      | lst h' t => rw [ho] at h'; cases h'; exact .lst (.inl upd_same) (t.mono s1)
      | dK h' t => rw [ho] at h'; cases h'; exact .dK (.inl upd_same) (t.mono s1)
      | dX h' m n ne t => rw [ho] at h'; cases h'; exact .dX (.inl upd_same) m n ne (t.mono s1)
    · refine ⟨fun b u e => ⟨(g.sub b u (g.gm b u (s1 b u e))).1, (r.sub b u e).2⟩, Sub.refl G, g.hm, g.hs, fun b e _ => e, g.tb⟩
  unfold anyAt at h
  split at h
  · rename_i d' e
    cases h
    obtain ⟨v, e1, t⟩ := r.at_ i _ e
    exact ⟨v, G, e1, Sub.refl G, r.sub, t, fun T G' H' g => ⟨fun b u e => ⟨(g.sub b u (g.gm b u e)).1, (r.sub b u e).2⟩, Sub.refl G, g.hm, g.hs, fun b e _ => e, g.tb⟩⟩
  · rename_i d' e
    cases h
    obtain ⟨a, e1, n, z, w⟩ := r.at_ i _ e
    obtain ⟨G2, h1, h2, h3, h4⟩ := own n w
    exact ⟨_, G2, e1, h1, h2, h3, h4⟩
  · rename_i d' e
    cases h
    obtain ⟨a, e1, n, z, w⟩ := r.at_ i _ e
    obtain ⟨G2, h1, h2, h3, h4⟩ := own n w
    exact ⟨_, G2, e1, h1, h2, h3, h4⟩
  · cases h
/-- a op x -/
def fOpN (g : PyData → PyData → Option PyData) (fa : EF) (i : Nat) : EF := fun ρ => (fa ρ).bind fun x => (anyAt x.2 i).bind fun d => (ofO (g x.1 d)).bind fun r => if scl r = true then .ok (r, x.2) else .no
theorem opN_ok {ta : TE} {g : PyData → PyData → Option PyData} (ka : ∀ (σ : St) (H G : Hp) (ρ : En) (Q : VK), Rel X.K B G H σ ρ → (fa ρ).sat (fun r => ∀ v H' G', Adv σ G H ρ G' H' r.2 → Rel X.K B G' H' σ r.2 → Tr X.K G' v r.1 → Q v H') ok → ta σ H Q)
    {r : R2} (hr : RD B.T X.K r g) {σ : St} {H G : Hp} {ρ : En} {Q : VK} (h : Rel X.K B G H σ ρ) (q : (fOpN g fa i ρ).sat (fun r => ∀ v H' G', Adv σ G H ρ G' H' r.2 → Rel X.K B G' H' σ r.2 → Tr X.K G' v r.1 → Q v H') ok) : tOp r ta (tVar i) σ H Q := by
  refine ka σ H G ρ _ h ((R.sat_bind q).imp fun x qx v1 H1 G1 s1 r1 t1 => ?_)
  obtain ⟨d, e, q1⟩ := anyAt_sat (R.sat_bind qx)
  obtain ⟨z, ez, q2⟩ := ofO_sat (R.sat_bind q1)
  obtain ⟨hs, q2⟩ := ite_sat q2
  obtain ⟨v2, G2, e2, s2, sub2, t2, bk⟩ := r1.anyTr e
  refine ⟨v2, e2, hr G2 H1 v1 v2 x.1 d z Q sub2 (t1.mono s2) t2 ez fun v H' G' g t => ?_⟩
  have g' := bk _ _ _ g
  exact q2 v H' G1 (s1.trans (Adv.grow g')) (r1.step g') (scl_tr t hs)
theorem ee_cmpN {op : CmpOp} {g : PyData → PyData → Option PyData} (i : Nat) (ho : OpD X B.T (compareOp op) g) (ha : EE X B ok a fa) (hN : X.N[i]? = some x := by rfl) (hv : Vis X.env.scope x := by first | exact Or.inl rfl | exact Or.inr (Or.inl rfl) | exact Or.inr (Or.inr rfl)) (hm : behindInMarks op (.Name x p) = false := by rfl)
    (hd1 : (x == ("__debug__" : Str)) = false := by decide) (hd2 : (x == ("__classdict__" : Str)) = false := by decide) : EE X B ok (.Compare a [op] [.Name x p] pos) (fOpN g fa i) := by
  obtain ⟨r, h1, h2⟩ := ho
  obtain ⟨ta, pa, ka⟩ := ha.ex
  exact ⟨_, pe_cmpR h1 pa (pe_var hN hv hd1 hd2) hm, fun σ H G ρ Q h q => opN_ok ka h2 h q⟩
theorem et_cmpN {op : CmpOp} {g : PyData → PyData → Option PyData} (i : Nat) (ho : OpD X B.T (compareOp op) g) (ha : EE X B ok a fa) (hN : X.N[i]? = some x := by rfl) (hv : Vis X.env.scope x := by first | exact Or.inl rfl | exact Or.inr (Or.inl rfl) | exact Or.inr (Or.inr rfl)) (hm : behindInMarks op (.Name x p) = false := by rfl)
    (hd1 : (x == ("__debug__" : Str)) = false := by decide) (hd2 : (x == ("__classdict__" : Str)) = false := by decide) : ET X B ok (.Compare a [op] [.Name x p] pos) (fB (fOpN g fa i)) := by
  obtain ⟨r, h1, h2⟩ := ho
  obtain ⟨ta, pa, ka⟩ := ha.ex
  refine ⟨_, pt_cmpR h1 pa (pe_var hN hv hd1 hd2) hm, fun σ H G ρ Q h q => opN_ok (g := g) ka h2 h ((fB_sat q).imp fun x ⟨k, e, qk⟩ v H' G' s' r' t' => ?_)⟩
  exact ⟨k, asB_tr t' e, qk H' G' s' r'⟩
/-- f(x), f a built-in, x a name -/
def fBltX (g : List PyData → Option PyData) (i : Nat) : EF := fun ρ => (anyAt ρ i).bind fun d => (ofO (g [d])).bind fun r => if scl r = true then .ok (r, ρ) else .no
theorem ee_bltN {z : Str} {id : String} {g : List PyData → Option PyData} (i : Nat) (h : BD X B.T (.builtin id) g) (hm : X.mg z = none) (hv : bootBuiltins z = some (.builtin id)) (hN : X.N[i]? = some x := by rfl) (hvis : Vis X.env.scope x := by first | exact Or.inl rfl | exact Or.inr (Or.inl rfl) | exact Or.inr (Or.inr rfl))
    (hg : Gl X z := by rfl) (hn : z ≠ "__name__" := by decide) (hdb : (z == ("__debug__" : Str)) = false := by decide) (hd1 : (x == ("__debug__" : Str)) = false := by decide) (hd2 : (x == ("__classdict__" : Str)) = false := by decide)
    (he : starEach [.Name x p1] X.env = (false, eval (.Name x p1) X.env) :: starEach [] X.env := by rfl) (hpl : (backTo pos (starEach [] X.env)).any (·.1) = false := by rfl) : EE X B ok (.Call (.Name z p) [.Name x p1] [] pos) (fBltX g i) := by
  obtain ⟨r, hc, hr⟩ := h
  refine ⟨_, pe_callB hc hg hm hv (pa_cons (pe_var hN hvis hd1 hd2) pa_nil he) hn hdb he hpl, fun σ H G ρ Q r' q => ?_⟩
  obtain ⟨d, e, q1⟩ := anyAt_sat (R.sat_bind q)
  obtain ⟨z, ez, q2⟩ := ofO_sat (R.sat_bind q1)
  obtain ⟨hs, q2⟩ := ite_sat q2
  obtain ⟨v2, G2, e2, s2, sub2, t2, bk⟩ := r'.anyTr e
  refine ⟨v2, e2, hr G2 H [v2] [d] z Q sub2 (.cons t2 .nil) ez fun v H' G' g t => ?_⟩
  have g' := bk _ _ _ g
  exact q2 v H' G (Adv.grow g') (r'.step g') (scl_tr t hs)
/-! ### dict displays -/
theorem en_d0 : EN X B ok (.Dict [] [] pos) (fC (.dict [])) := by
  refine ⟨_, pe_dnewK, fun σ H G ρ Q r q p hp => ?_⟩
  obtain ⟨r2, x2⟩ := fresh_new r hp (o := .dK []) (.dK upd_same .nil)
  exact q p _ G hp (Adv.grow (Grow.newO (T := B.T) (io := []) r.sub hp)) r2 x2
inductive TrP (K : PySem.W.Frag) (G : Hp) : List (V × V) → List (PyData × PyData) → Prop
  | nil : TrP K G [] []
  | cons {u v : V} {dk d : PyData} {ps : List (V × V)} {es : List (PyData × PyData)} {k : Key} : u = kV k → dk = kD k → Tr K G v d → TrP K G ps es → TrP K G ((u, v) :: ps) ((dk, d) :: es)
theorem TrP.kvs {K : PySem.W.Frag} {G : Hp} : ∀ {ps : List (V × V)} {es : List (PyData × PyData)}, TrP K G ps es → ∃ kvs : List (Key × V), ps = kvs.map (fun kv => (kV kv.1, kv.2)) ∧ TrKV K G kvs es
  | _, _, .nil => ⟨[], rfl, .nil⟩
  | _, _, .cons (k := k) e1 e2 t r => by
    obtain ⟨kvs, h1, h2⟩ := TrP.kvs r
    subst e1 e2 h1
    exact ⟨(k, _) :: kvs, rfl, .cons t h2⟩
structure EP (X : Cx) (B : Ent) (ok : OkX) (pos : Pos) (ks : List (Option Expr)) (vs : List Expr) (f : En → R (List (PyData × PyData) × En)) : Prop where
  ex : ∃ trs, PPs X pos ks vs trs ∧ ∀ (σ : St) (H G : Hp) (ρ : En) (Q : List (V × V) → Hp → Prop), Rel X.K B G H σ ρ →
    (f ρ).sat (fun r => ∀ ps H' G', Adv σ G H ρ G' H' r.2 → Rel X.K B G' H' σ r.2 → TrP X.K G' ps r.1 → Q ps H') ok → tPairs trs σ H Q
def pNil : En → R (List (PyData × PyData) × En) := fun ρ => .ok ([], ρ)
def pCons (fk fv : EF) (fr : En → R (List (PyData × PyData) × En)) : En → R (List (PyData × PyData) × En) := fun ρ => (fk ρ).bind fun k => (fv k.2).bind fun v => (ofO (keyOf k.1)).bind fun _ => (fr v.2).bind fun r => .ok ((k.1, v.1) :: r.1, r.2)
theorem TrP.mono {K : PySem.W.Frag} {G G' : Hp} (s : Sub G G') {ps : List (V × V)} {es : List (PyData × PyData)} : TrP K G ps es → TrP K G' ps es
  | .nil => .nil
  | .cons e1 e2 t r => .cons e1 e2 (t.mono s) (TrP.mono s r)
theorem ep_nil : EP X B ok pos [] [] pNil := ⟨[], pps_nil, fun σ H G ρ Q r q => q [] H G Adv.refl r .nil⟩
theorem ep_cons {ks : List (Option Expr)} {vs : List Expr} {fr : En → R (List (PyData × PyData) × En)} (hk : EE X B ok a fk) (hv : EE X B ok b fv) (hr : EP X B ok pos ks vs fr) : EP X B ok pos (some a :: ks) (b :: vs) (pCons fk fv fr) := by
  obtain ⟨tk, pk, kk⟩ := hk.ex
  obtain ⟨tv, pv, kv⟩ := hv.ex
  obtain ⟨tr, pr, kr⟩ := hr.ex
  refine ⟨_, pps_cons pk pv pr, fun σ H G ρ Q r q => ?_⟩
  refine kk σ H G ρ _ r ((R.sat_bind q).imp fun k qk v1 H1 G1 s1 r1 t1 => ?_)
  refine kv σ H1 G1 k.2 _ r1 ((R.sat_bind qk).imp fun v qv v2 H2 G2 s2 r2 t2 => ?_)
  obtain ⟨kk', ek, q3⟩ := ofO_sat (R.sat_bind qv)
  refine kr σ H2 G2 v.2 _ r2 ((R.sat_bind q3).imp fun w qw ps H3 G3 s3 r3 t3 => ?_)
  have e1 := keyOf_inv ek
  rw [e1] at t1
  exact qw _ H3 G3 ((s1.trans s2).trans s3) r3 (.cons (kV_tr t1) e1 (t2.mono s3.sub) t3)
def mergeD (es : List (PyData × PyData)) : List (PyData × PyData) := es.foldl (fun acc p => match kc p.1 with
  | some c => putD acc p.1 c p.2
  | none => acc) []
theorem merge_tr {K : PySem.W.Frag} {G : Hp} : ∀ {kvs : List (Key × V)} {es : List (PyData × PyData)} {acc : List (Key × V)} {ae : List (PyData × PyData)}, TrKV K G kvs es → TrKV K G acc ae → TrKV K G (mergeK acc kvs) (es.foldl (fun acc p => match kc p.1 with
  | some c => putD acc p.1 c p.2
  | none => acc) ae)
  | _, _, _, _, .nil, t => t
  | _, _, _, _, .cons (k := k) h r, t => by
    have z := merge_tr r (kv_put k t h)
    rw [List.foldl_cons, kc_kD]
    exact z
def fDsp (fr : En → R (List (PyData × PyData) × En)) : EF := fun ρ => (fr ρ).bind fun r => if r.1.length ≤ 15 then .ok (.dict (mergeD r.1), r.2) else .no
theorem en_dsp {ks : List (Option Expr)} {vs : List Expr} {fr : En → R (List (PyData × PyData) × En)} (h : EP X B ok pos ks vs fr) (hall : ks.all (·.isSome) = true := by rfl) (hl : ks.length = vs.length := by rfl) (h0 : ks ≠ [] := by exact nofun) (h15 : ks.length ≤ 15 := by decide) :
    EN X B ok (.Dict ks vs pos) (fDsp fr) := by
  obtain ⟨trs, pp, kp⟩ := h.ex
  refine ⟨_, pe_disp pp hall hl h0 h15, fun σ H G ρ Q r q p hp => ?_⟩
  obtain ⟨r1, x1⟩ := fresh_new r hp (o := .dK []) (.dK (es := []) upd_same .nil)
  refine kp σ _ G ρ _ r1 ((R.sat_bind q).imp fun w qw ps H2 G2 s2 r2 t2 => ?_)
  obtain ⟨hl, qw⟩ := ite_sat qw
  obtain ⟨h2, g2, f2⟩ := s2.loose p (.dK []) upd_same x1.g (fun _ z => nomatch z) x1.ap
  obtain ⟨kvs, e1, t3⟩ := t2.kvs
  have lk : kvs.length ≤ 15 := by rw [t3.length]; exact hl
  refine ⟨h2, kvs, e1, lk, ?_⟩
  have g : Grow B.T [p] G2 H2 G2 (upd H2 p (.dK (mergeK [] kvs))) := Grow.wr r2.sub g2 h2 trivial (by simp)
  -- the new dict is nobody's yet
  have r3 : Rel X.K B G2 (upd H2 p (.dK (mergeK [] kvs))) σ w.2 := by
    refine ⟨r2.bd.ioTrans (.inl x1.b) g, r2.len, fun j s hj => ?_, r2.sep⟩
    have z := r2.at_ j s hj
    cases s with
    | un => trivial
    | lam => exact z
    | sh d => exact z
    | ow d =>
      obtain ⟨a, e, n, y, ww⟩ := z
      have hne : a ≠ p := fun zz => f2 j _ hj (by subst zz; exact e)
      exact ⟨a, e, n, y, ww.keep (Sub.refl _) fun o eo => by rw [upd_ne hne]; exact eo⟩
    | io d =>
      obtain ⟨a, e, n, y, ww⟩ := z
      have hne : a ≠ p := fun zz => f2 j _ hj (by subst zz; exact e)
      exact ⟨a, e, n, y, ww.keep (Sub.refl _) fun o eo => by rw [upd_ne hne]; exact eo⟩
  have s3 : Adv σ G H ρ G2 (upd H2 p (.dK (mergeK [] kvs))) w.2 := by
    refine ⟨s2.sub, fun b hb => ?_, fun b o hb nb tb fb => ?_⟩
    · have hb2 := s2.hs b (by rw [upd_ne (fun z => by rw [z] at hb; exact hb hp)]; exact hb)
      exact g.hs b hb2
    · have hne : b ≠ p := ne_of_none hb hp
      obtain ⟨z1, z2, z3⟩ := s2.loose b o (by rw [upd_ne hne]; exact hb) nb tb fb
      exact ⟨by rw [upd_ne hne]; exact z1, z2, z3⟩
  exact qw p _ G2 hp s3 r3 ⟨g2, x1.b, .dK upd_same (merge_tr t3 .nil), f2⟩
/-! ### d.get(..) -/
theorem pe_dget1E {td ty : TE} {o : Expr} (hu : X.A.units + 1 < cLine) (ho : PE X o td) (he : PE X e ty) (m : M1 X o "get" apos e cpos) : PE X (.Call (.Attribute o "get" apos) [e] [] cpos)
    (fun σ H Q => td σ H fun x H1 => ∃ a, x = .ref a ∧ IsD H1 a ∧ ty σ H1 fun y H2 => ∃ o, DGetE H2 a y o ∧ Q (o.getD .non) H2) := by
  refine ⟨fun pins s σ H Q I h => ?_⟩
  refine wpAny_Call_method m.base m.few m.line PySem.F.plainAttrs_dict PySem.F.slot_dict_get PySem.F.type_dict_get (thn (ho.run pins s σ H _ I h) fun u s1 ⟨x, H1, I1, rx, a, ex, d, q1⟩ => ?_)
  subst ex
  obtain rfl : u = Value.ref a := rx
  obtain ⟨t1, t2, _⟩ := isD_at I1 d
  refine ⟨t1, t2, ?_⟩
  rw [m.trees]
  exact Calls.callWith_builtin rfl (Calls.evalArgs_plain (Calls.spliced_cons (thn (he.run pins s1 σ H1 _ I1 q1) fun iv s2 ⟨y, H2, I2, ry, ov, g, q2⟩ => Calls.spliced_nil (d_get1E hu I2 g ry fun w' s3 I3 rw' => ⟨_, H2, I3, rw', q2⟩))))
theorem pe_dget2E {td ty tx : TE} {o f : Expr} (hu : X.A.units + 1 < cLine) (ho : PE X o td) (he : PE X e ty) (hf : PE X f tx) (m : M2 X o "get" apos e f cpos) : PE X (.Call (.Attribute o "get" apos) [e, f] [] cpos)
    (fun σ H Q => td σ H fun x H1 => ∃ a, x = .ref a ∧ IsD H1 a ∧ ty σ H1 fun y H2 => tx σ H2 fun z H3 => ∃ o, DGetE H3 a y o ∧ Q (o.getD z) H3) := by
  refine ⟨fun pins s σ H Q I h => ?_⟩
  refine wpAny_Call_method m.base m.few m.line PySem.F.plainAttrs_dict PySem.F.slot_dict_get PySem.F.type_dict_get (thn (ho.run pins s σ H _ I h) fun u s1 ⟨x, H1, I1, rx, a, ex, d, q1⟩ => ?_)
  subst ex
  obtain rfl : u = Value.ref a := rx
  obtain ⟨t1, t2, _⟩ := isD_at I1 d
  refine ⟨t1, t2, ?_⟩
  rw [m.trees]
  exact Calls.callWith_builtin rfl (Calls.evalArgs_plain (Calls.spliced_cons (thn (he.run pins s1 σ H1 _ I1 q1) fun iv s2 ⟨y, H2, I2, ry, q2⟩ =>
    Calls.spliced_cons (thn (hf.run pins s2 σ H2 _ I2 q2) fun fv s3 ⟨z, H3, I3, rz, ov, g, q3⟩ => Calls.spliced_nil (d_get2E hu I3 g ry rz fun w' s4 I4 rw' => ⟨_, H3, I4, rw', q3⟩)))))
/-! ### names set side by side -/
inductive KAll (K : PySem.W.Frag) (B : Ent) (G H : Hp) (σ : St) (ρ : En) : List Bool → List V → List PyData → List Addr → Prop
  | nil : KAll K B G H σ ρ [] [] [] []
  | sh {v : V} {d : PyData} {ks vs ds as} : Tr K G v d → KAll K B G H σ ρ ks vs ds as → KAll K B G H σ ρ (false :: ks) (v :: vs) (d :: ds) as
  | ow {q : Addr} {d : PyData} {ks vs ds as} : Fresh K B G H σ ρ q d → q ∉ as → KAll K B G H σ ρ ks vs ds as → KAll K B G H σ ρ (true :: ks) (.ref q :: vs) (d :: ds) (q :: as)
structure EK (X : Cx) (B : Ent) (ok : OkX) (es : List Expr) (ks : List Bool) (f : AF) : Prop where
  ex : ∃ t : TA, PA X es t ∧ ∀ (σ : St) (H G : Hp) (ρ : En) (Q : List V → Hp → Prop), Rel X.K B G H σ ρ →
    (f ρ).sat (fun r => ∀ vs as H' G', (∀ q ∈ as, H q = none) → Adv σ G H ρ G' H' r.2 → Rel X.K B G' H' σ r.2 → KAll X.K B G' H' σ r.2 ks vs r.1 as → Q vs H') ok → t σ H Q
theorem ek_nil : EK X B ok [] [] fNil := ⟨_, pa_nil, fun σ H G ρ Q r q => q [] [] H G (by simp) Adv.refl r .nil⟩
variable {ks : List Bool}
theorem ek_sh (h : EE X B ok e f) (hs : EK X B ok es ks fs) (he : starEach (e :: es) X.env = (false, eval e X.env) :: starEach es X.env := by rfl) : EK X B ok (e :: es) (false :: ks) (fCons f fs) := by
  obtain ⟨t, p, k⟩ := h.ex
  obtain ⟨u, p2, k2⟩ := hs.ex
  refine ⟨_, pa_cons p p2 he, fun σ H G ρ Q r q => k σ H G ρ _ r ((R.sat_bind q).imp fun x qx v H1 G1 s1 r1 t1 => ?_)⟩
  refine k2 σ H1 G1 x.2 _ r1 ((R.sat_bind qx).imp fun xs qs vs as H2 G2 na s2 r2 t2 => ?_)
  exact qs (v :: vs) as H2 G2 (fun q hq => s1.pre (na q hq)) (s1.trans s2) r2 (.sh (t1.mono s2.sub) t2)
theorem ek_ow (h : EN X B ok e f) (hs : EK X B ok es ks fs) (he : starEach (e :: es) X.env = (false, eval e X.env) :: starEach es X.env := by rfl) : EK X B ok (e :: es) (true :: ks) (fCons f fs) := by
  obtain ⟨t, p, k⟩ := h.ex
  obtain ⟨u, p2, k2⟩ := hs.ex
  refine ⟨_, pa_cons p p2 he, fun σ H G ρ Q r q => k σ H G ρ _ r ((R.sat_bind q).imp fun x qx v H1 G1 hv s1 r1 x1 => ?_)⟩
  refine k2 σ H1 G1 x.2 _ r1 ((R.sat_bind qx).imp fun xs qs vs as H2 G2 na s2 r2 t2 => ?_)
  obtain ⟨o, ho, ht⟩ := x1.own.nt
  obtain ⟨z1, z2, z3⟩ := s2.loose v o ho x1.g ht x1.ap
  have w2 : Own X.K G2 H2 v x.1 := x1.own.keep s2.sub fun o' e' => by rw [ho] at e'; cases e'; exact z1
  refine qs (.ref v :: vs) (v :: as) H2 G2 (fun q hq => ?_) (s1.trans s2) r2 (.ow ⟨z2, x1.b, w2, z3⟩ (fun hq => ?_) t2)
  · rcases List.mem_cons.mp hq with rfl | hq
    · exact hv
    · exact s1.pre (na q hq)
  · rw [na v hq] at ho; cases ho
def slK : Bool → PyData → Sl
  | false, d => .sh d
  | true, d => .ow d
def setK : List Nat → List Bool → List PyData → En → En
  | i :: is, k :: ks, d :: ds, ρ => setK is ks ds (ρ.set i (slK k d))
  | _, _, _, ρ => ρ
def setV : List Nat → List V → St → St
  | i :: is, v :: vs, σ => setV is vs (σ.set i (some v))
  | _, _, σ => σ
theorem Free.setOw {σ : St} {ρ : En} {q p : Addr} {d : PyData} (f : Free σ ρ q) (h : q ≠ p) : Free (σ.set i (some (.ref p))) (ρ.set i (.ow d)) q := fun j s hj ej => by
  by_cases hji : i = j
  · subst hji
    by_cases hl : i < ρ.length
    · rw [List.getElem?_set_self hl] at hj
      cases hj
      by_cases hl2 : i < σ.length
      · have ej : (σ.set i (some (V.ref p)))[i]? = some (some (.ref q)) := ej
        rw [List.getElem?_set_self hl2] at ej
        cases ej
        exact h rfl
      · have ej : (σ.set i (some (V.ref p)))[i]? = some (some (.ref q)) := ej
        rw [List.getElem?_eq_none (by rw [List.length_set]; omega)] at ej
        cases ej
    · rw [List.getElem?_eq_none (by rw [List.length_set]; omega)] at hj; cases hj
  · rw [List.getElem?_set_ne hji] at hj ej
    exact f j s hj ej
theorem KAll.set {K : PySem.W.Frag} {G H : Hp} : ∀ {is : List Nat} {ks : List Bool} {vs : List V} {ds : List PyData} {as : List Addr} {σ : St} {ρ : En}, is.length = ks.length → KAll K B G H σ ρ ks vs ds as → Rel K B G H σ ρ → Rel K B G H (setV is vs σ) (setK is ks ds ρ) := by
  intro is
  induction is with
  | nil =>
    intro ks vs ds as σ ρ hl h r
    cases h with
    | nil => exact r
    | sh _ _ => cases hl
    | ow _ _ _ => cases hl
  | cons i is ih =>
    intro ks vs ds as σ ρ hl h r
    have mv : ∀ {ks vs ds as} {σ' : St} {ρ' : En}, (∀ q, q ∈ as → Free σ ρ q → Free σ' ρ' q) → KAll K B G H σ ρ ks vs ds as → KAll K B G H σ' ρ' ks vs ds as := fun {ks vs ds as σ' ρ'} hf h => by
      induction h with
      | nil => exact .nil
      | sh t _ ih => exact .sh t (ih hf)
      | ow x hn _ ih => exact .ow ⟨x.g, x.b, x.own, hf _ List.mem_cons_self x.ap⟩ hn (ih fun q hq => hf q (List.mem_cons_of_mem _ hq))
    cases h with
    | nil => cases hl
    | sh t h => exact ih (by simpa using hl) (mv (fun q _ f => f.setSh) h) (r.setSh t)
    | ow x hn h => exact ih (by simpa using hl) (mv (fun q hq f => f.setOw (fun z => hn (z ▸ hq))) h) (r.setOw x.g x.b x.own x.ap)
def sPar (is : List Nat) (ks : List Bool) (fs : AF) : SF := fun ρ => ofR (fs ρ) fun x => if x.1.length = is.length then .nx (setK is ks x.1 x.2) else .no
theorem ofIte_sat {K : PySem.W.Frag} {G : Hp} {D : Ends} {c : Prop} [Decidable c] {o : Out} (h : (if c then o else Out.no).sat K B ok G D) : c ∧ o.sat K B ok G D := by
  by_cases hc : c
  · rw [if_pos hc] at h; exact ⟨hc, h⟩
  · rw [if_neg hc] at h; exact h.elim
theorem ss_par (i j : Nat) {px py pt : Pos} {kt k2 pt2} (hc : X.calm = true) (hN : X.N.Nodup) (ha : EK X B ok [a, b] ks fs) (hi : X.N[i]? = some x := by rfl) (hj : X.N[j]? = some y := by rfl) (hij : i ≠ j := by decide)
    (hx : X.env.scope.names.lookup x = some .local := by rfl) (hy : X.env.scope.names.lookup y = some .local := by rfl)
    (hw : swappedStores [.Tuple [.Name x px, .Name y py] kt pt] (.Tuple [a, b] k2 pt2) X.env = pure (some [x, y]) := by rfl)
    (hs : swapsWithSole [.Tuple [.Name x px, .Name y py] kt pt] (.Tuple [a, b] k2 pt2) pos.line X.env = pure false := by rfl) (hk : ks.length = 2 := by rfl) :
    SS X B ok (.Assign [.Tuple [.Name x px, .Name y py] kt pt] (.Tuple [a, b] k2 pt2) pos) (sPar [i, j] ks fs) := by
  obtain ⟨t, pa, k⟩ := ha.ex
  refine ⟨_, ps_par hc hN hi hj hij hx hy pa hw hs, fun σ H G ρ D r q => k σ H G ρ _ r ((ofR_sat q).imp fun x qx vs as H1 G1 na s1 r1 t1 => ?_)⟩
  obtain ⟨hl, qx⟩ := ofIte_sat qx
  have hv : vs.length = 2 := by
    have : ∀ {ks vs ds as}, KAll X.K B G1 H1 σ x.2 ks vs ds as → vs.length = ks.length := fun h => by
      induction h with
      | nil => rfl
      | sh _ _ ih => simp [ih]
      | ow _ _ _ ih => simp [ih]
    rw [this t1, hk]
  match vs, hv with
  | [u, v], _ => exact ⟨u, v, rfl, qx _ H1 G1 s1.sub (t1.set (is := [i, j]) (by rw [hk]; rfl) r1)⟩
theorem ss_par3 {z : Str} (i j l : Nat) {px py pz pt : Pos} {kt k2 pt2} (hc : X.calm = true) (hN : X.N.Nodup) (ha : EK X B ok [a, b, c] ks fs) (hi : X.N[i]? = some x := by rfl) (hj : X.N[j]? = some y := by rfl) (hl : X.N[l]? = some z := by rfl) (hij : i ≠ j := by decide) (hil : i ≠ l := by decide) (hjl : j ≠ l := by decide)
    (hx : X.env.scope.names.lookup x = some .local := by rfl) (hy : X.env.scope.names.lookup y = some .local := by rfl) (hz : X.env.scope.names.lookup z = some .local := by rfl)
    (hw : swappedStores [.Tuple [.Name x px, .Name y py, .Name z pz] kt pt] (.Tuple [a, b, c] k2 pt2) X.env = pure (some [x, y, z]) := by rfl)
    (hs : swapsWithSole [.Tuple [.Name x px, .Name y py, .Name z pz] kt pt] (.Tuple [a, b, c] k2 pt2) pos.line X.env = pure false := by rfl) (hk : ks.length = 3 := by rfl) :
    SS X B ok (.Assign [.Tuple [.Name x px, .Name y py, .Name z pz] kt pt] (.Tuple [a, b, c] k2 pt2) pos) (sPar [i, j, l] ks fs) := by
  obtain ⟨t, pa, k⟩ := ha.ex
  refine ⟨_, L2.ps_par3 hc hN hi hj hl hij hil hjl hx hy hz pa hw hs, fun σ H G ρ D r q => k σ H G ρ _ r ((ofR_sat q).imp fun x qx vs as H1 G1 na s1 r1 t1 => ?_)⟩
  obtain ⟨_, qx⟩ := ofIte_sat qx
  have hv : vs.length = 3 := by
    have : ∀ {ks vs ds as}, KAll X.K B G1 H1 σ x.2 ks vs ds as → vs.length = ks.length := fun h => by
      induction h with
      | nil => rfl
      | sh _ _ ih => simp [ih]
      | ow _ _ _ ih => simp [ih]
    rw [this t1, hk]
  match vs, hv with
  | [u, v, w], _ => exact ⟨u, v, w, rfl, qx _ H1 G1 s1.sub (t1.set (is := [i, j, l]) (by rw [hk]; rfl) r1)⟩
/-! ### enumerate -/
def enumD (n : Nat) : List PyData → List PyData
  | [] => []
  | d :: ds => .tuple [.int n, d] :: enumD (n + 1) ds
theorem enumD_get : ∀ {ds : List PyData} {n i : Nat} {d : PyData}, (enumD n ds)[i]? = some d → ∃ d0, ds[i]? = some d0 ∧ d = .tuple [.int ((n + i : Nat) : Int), d0]
  | [], _, _, _, h => by simp [enumD] at h
  | d0 :: ds, n, 0, d, h => by
    simp [enumD] at h
    exact ⟨d0, rfl, by rw [← h]; simp⟩
  | d0 :: ds, n, i + 1, d, h => by
    obtain ⟨d1, h1, h2⟩ := enumD_get (ds := ds) (n := n + 1) (i := i) (by simpa [enumD] using h)
    exact ⟨d1, by simpa using h1, by rw [h2]; congr 3; omega⟩
theorem enumD_len : ∀ (ds : List PyData) (n : Nat), (enumD n ds).length = ds.length
  | [], _ => rfl
  | _ :: ds, n => by simp [enumD, enumD_len ds]
def lstOf : List PyData → Option (List PyData)
  | [.list ds] => some ds
  | _ => none
def fEnum (fs : AF) : AF := fun ρ => (fs ρ).bind fun x => (ofO (lstOf x.1)).bind fun ds => .ok (enumD 0 ds, x.2)
theorem ei_enum {elts : List Expr} {kk : Nat} (hm : X.mg "enumerate" = none) (h : EA X B ok [e] fs) (hg : Gl X "enumerate" := by rfl) (hs : starEach [e] X.env = [(false, eval e X.env)] := by rfl) : EI X B ok (.Tuple elts kk tpos) (.Call (.Name "enumerate" p) [e] [] pos) (fEnum fs) := by
  obtain ⟨t, pa, k⟩ := h.ex
  refine ⟨_, pi_enum hg hm pa hs, fun σ H G ρ W r q => k σ H G ρ _ r ((R.sat_bind q).imp fun x qx vs H1 G1 s1 r1 t1 => ?_)⟩
  obtain ⟨ds, ed, qd⟩ := ofO_sat (R.sat_bind qx)
  have ex : x.1 = [.list ds] := by
    unfold lstOf at ed
    split at ed
    · cases ed; assumption
    · cases ed
  rw [ex] at t1
  cases t1 with | cons t0 tn =>
  cases tn
  cases t0 with | lst hr ta =>
  rename_i a xs
  refine ⟨a, xs, rfl, .inl (r1.subG.rd hr), qd _ H1 G1 s1 r1 ⟨fun i d G2 H2 hi s2 h2 => ?_, fun i G2 H2 hi s2 h2 => ?_⟩⟩
  · obtain ⟨d0, e0, rfl⟩ := enumD_get hi
    obtain ⟨v, ev, tv⟩ := ta.get e0
    have hL : SqL X.K H2 a xs := .inl ((sub_of h2).rd (s2.rd hr))
    refine ⟨⟨xs, v, hL, ev⟩, fun y H3 hy => ?_⟩
    obtain ⟨tt, z, rfl, hn, rfl, hz⟩ := hy
    have e2 := hz xs hL
    rw [ev] at e2; cases e2
    have g : Grow B.T [] G2 H2 (upd G2 tt (.tup [.int (i : Nat), v])) (upd H2 tt (.tup [.int (i : Nat), v])) := Grow.new h2 hn (fun _ z => nomatch z)
    refine ⟨_, g, .tup (.inl upd_same) (.cons ?_ (.cons ((tv.mono s2).mono g.gm) .nil))⟩
    rw [Nat.zero_add]
    exact .int _
  · rw [enumD_len] at hi
    exact ⟨xs, .inl ((sub_of h2).rd (s2.rd hr)), by rw [ta.length]; exact hi⟩
end
end Y


/-! YKey: dicts whose keys are tuples. -/
namespace Y
open PySem PySem.Spec PyProof.Rows L2
section
variable {X : Cx} {pins : List (Addr × Obj)} {σ : St} {H G : Hp} {s : Shared}
mutual
/-- a value that shows a key is that key -/
theorem tr_nested (I : Inv X pins σ H s) (sb : Sub G H) : ∀ (d : PyData) (v : V) (k : NestedKey) (u : Value), Tr X.K G v d → nkD d = some k → RelV v u → NestedIs s.heap k u
  | .none, v, k, u, t, h, r => by
    simp only [nkD, Option.some.injEq] at h; subst h
    cases t; cases r; exact .none
  | .bool b, v, k, u, t, h, r => by
    simp only [nkD, Option.some.injEq] at h; subst h
    cases t; cases r; exact .bool rfl
  | .int i, v, k, u, t, h, r => by
    simp only [nkD, Option.some.injEq] at h; subst h
    cases t; obtain ⟨tk, rfl⟩ := r; exact .int _ _
  | .str _, _, _, _, _, h, _ => by simp [nkD] at h
  | .list _, _, _, _, _, h, _ => by simp [nkD] at h
  | .dict _, _, _, _, _, h, _ => by simp [nkD] at h
  | .tuple ds, v, k, u, t, h, r => by
    simp only [nkD, Option.map_eq_some_iff] at h
    obtain ⟨ks, h, rfl⟩ := h
    cases t with | tup hA ta =>
    cases r
    obtain ⟨its, rv, ⟨o, ho, hc, n, hd⟩, _⟩ := I.tuple (sqt (sb.rd hA))
    exact .tup ho hc hd (tr_nesteds I sb ds _ ks its ta h rv)
theorem tr_nesteds (I : Inv X pins σ H s) (sb : Sub G H) : ∀ (ds : List PyData) (vs : List V) (ks : List NestedKey) (us : List Value), TrAll X.K G vs ds → nkDs ds = some ks → Vals vs us → NestedAll s.heap ks us
  | [], vs, ks, us, t, h, r => by
    simp only [nkDs, Option.some.injEq] at h; subst h
    cases t; cases r; exact .nil
  | d :: ds, vs, ks, us, t, h, r => by
    cases t with | cons t0 t1 =>
    cases r with | cons r0 r1 =>
    simp only [nkDs] at h
    split at h
    · rename_i k ks' h1 h2
      simp only [Option.some.injEq] at h
      subst h
      exact .cons (tr_nested I sb d _ k _ t0 h1 r0) (tr_nesteds I sb ds _ ks' _ t1 h2 r1)
    · cases h
end
/-- the entries with their values -/
def xsU (xs : List (NestedKey × Addr × V)) (us : List Value) : List (NestedKey × Addr × Value) := List.zipWith (fun x u => (x.1, x.2.1, u)) xs us
theorem xsU_keys : ∀ {xs : List (NestedKey × Addr × V)} {us : List Value}, Vals (xs.map (·.2.2)) us → (xsU xs us).map (·.1) = xs.map (·.1)
  | [], _, .nil => rfl
  | x :: xs, _, .cons _ r => by
    show x.1 :: (xsU xs _).map (·.1) = _
    rw [xsU_keys r]; rfl
theorem xsU_len : ∀ {xs : List (NestedKey × Addr × V)} {us : List Value}, Vals (xs.map (·.2.2)) us → (xsU xs us).length = xs.length
  | [], _, .nil => rfl
  | x :: xs, _, .cons _ r => by
    show (xsU xs _).length + 1 = _
    rw [xsU_len r]; rfl
theorem xEs_U (w : World) : ∀ {xs : List (NestedKey × Addr × V)} {es : List (PyData × PyData)} {us : List Value}, TrX X.K G xs es → Vals (xs.map (·.2.2)) us → xEs xs us = (xsU xs us).map (entryOfKey (nestedKind X.prog w))
  | _, _, _, .nil, .nil => rfl
  | _, _, _, .cons t n hd hk tv tx, .cons r rs => by
    show _ :: xEs _ _ = _ :: (xsU _ _).map _
    rw [xEs_U w tx rs]
    congr 1
    show DictEntry.mk _ _ _ = DictEntry.mk _ _ _
    rw [← nk_hash w _ _ n]
    rfl
theorem xs_is (I : Inv X pins σ H s) (sb : Sub G H) : ∀ {xs : List (NestedKey × Addr × V)} {es : List (PyData × PyData)} {us : List Value}, TrX X.K G xs es → Vals (xs.map (·.2.2)) us → ∀ x ∈ xsU xs us, (nestedKind X.prog X.w).is s.heap x.1 x.2.1
  | _, _, _, .nil, .nil, _, h => nomatch h
  | _, _, _, .cons t n hd hk tv tx, .cons r rs, x, h => by
    rcases List.mem_cons.mp h with rfl | h
    · exact ⟨tr_nested I sb _ _ _ _ t n rfl, hk⟩
    · exact xs_is I sb tx rs x h
/-- the dict stands there -/
theorem dx_dict (I : Inv X pins σ H s) (sb : Sub G H) {a : Addr} {xs : List (NestedKey × Addr × V)} {es : List (PyData × PyData)} (h : Rd H a (dX a xs)) (hn : (xs.map (·.1)).Nodup) (t : TrX X.K G xs es) :
    ∃ us, Vals (xs.map (·.2.2)) us ∧ s.heap.DictOfH (nestedKind X.prog X.w) a (xsU xs us) := by
  have ok : rawX a xs s.heap := by
    rcases h with h | ⟨o, h⟩
    · exact (show ObjOk X.prog X.w H s.heap a (dX a xs) from I.hok a _ h).1
    · exact (show ObjOk X.prog X.w H s.heap a (.frz o (dX a xs)) from I.hok a _ h).2.1
  obtain ⟨o, ea, ep, us, ho, hx, hd, hv, he⟩ := ok
  exact ⟨us, hv, o, ea, ep, ho, hx, hd, by rw [he, xEs_U X.w t hv], xs_is I sb t hv, by rw [xsU_keys hv]; exact hn⟩
theorem any_U {k : NestedKey} : ∀ {xs : List (NestedKey × Addr × V)} {es : List (PyData × PyData)} {us : List Value}, TrX X.K G xs es → Vals (xs.map (·.2.2)) us → (atKey (xsU xs us) k).isSome = es.any fun p => decide (nkD p.1 = some k)
  | _, _, _, .nil, .nil => rfl
  | _, _, _, .cons (k := k0) t n hd hk tv tx, .cons r rs => by
    have ih := any_U (k := k) tx rs
    rw [List.any_cons, n, ← ih]
    unfold atKey xsU
    rw [List.zipWith_cons_cons, List.find?_cons]
    by_cases e : k0 = k
    · simp [e]
    · simp [e]
/-! in, of a dict whose keys are tuples -/
def rInX (K : PySem.W.Frag) (f : Bool → Bool) : R2 := fun x y H Q => ∃ (a b : Addr) (xs : List (NestedKey × Addr × V)) (es : List (PyData × PyData)) (kd : PyData) (k : NestedKey) (G : Hp), y = .ref a ∧ x = .ref b ∧ Sub G H ∧ Tr K G (.ref b) kd ∧ nkD kd = some k ∧ k.depth ≤ 8 ∧
  Rd H a (dX a xs) ∧ (a == sysModules) = false ∧ (xs.map (·.1)).Nodup ∧ TrX K G xs es ∧ Q (.bl (f (es.any fun p => decide (nkD p.1 = some k)))) H
theorem op_inX (hu : X.A.units + 60 < cLine) : OpR X (compareOp .In) (rInX X.K id) := by
  intro pins s σ H x y v u Q I rx ry h
  obtain ⟨a, b, xs, es, kd, k, G, rfl, rfl, sb, t, hk, hdep, hr, hm, hn, tx, q⟩ := h
  cases ry
  cases rx
  obtain ⟨us, hv, hd⟩ := dx_dict I sb hr hn tx
  refine wpAny_in_heap (knd := nestedKind X.prog X.w) (k := k) ?_ ⟨tr_nested I sb _ _ _ _ t hk rfl, hdep⟩ hm hd ?_
  · show X.A.in1.units + 8 < cLine
    have : X.A.in1.units ≤ X.A.units + 1 := by simp [Around.in1]
    omega
  · rw [any_U tx hv]
    exact ⟨.bl (es.any fun p => decide (nkD p.1 = some k)), H, I.tok _, rfl, q⟩
theorem op_notInX (hu : X.A.units + 60 < cLine) : OpR X (compareOp .NotIn) (rInX X.K not) := by
  intro pins s σ H x y v u Q I rx ry h
  obtain ⟨a, b, xs, es, kd, k, G, rfl, rfl, sb, t, hk, hdep, hr, hm, hn, tx, q⟩ := h
  cases ry
  cases rx
  obtain ⟨us, hv, hd⟩ := dx_dict I sb hr hn tx
  refine wpAny_notIn_heap (knd := nestedKind X.prog X.w) (k := k) ?_ ⟨tr_nested I sb _ _ _ _ t hk rfl, hdep⟩ hm hd ?_
  · show X.A.in1.units + 8 < cLine
    have : X.A.in1.units ≤ X.A.units + 1 := by simp [Around.in1]
    omega
  · rw [any_U tx hv]
    exact ⟨.bl (!(es.any fun p => decide (nkD p.1 = some k))), H, I.tok _, rfl, q⟩
def isKeyed : List (PyData × PyData) → Bool
  | (.tuple _, _) :: _ => true
  | _ => false
def inX (a : PyData) (es : List (PyData × PyData)) : Option Bool := match a with
  | .tuple ds => match nkD (.tuple ds) with
    | some k => if k.depth ≤ 8 then some (es.any fun p => decide (nkD p.1 = some k)) else none
    | none => none
  | _ => none
def gInE (a b : PyData) : Option PyData := match b with
  | .dict es => if isKeyed es = true then (inX a es).map .bool else gInD a (.dict es)
  | b => gInD a b
def gNotInE (a b : PyData) : Option PyData := match b with
  | .dict es => if isKeyed es = true then (inX a es).map fun z => .bool (!z) else gNotInD a (.dict es)
  | b => gNotInD a b
theorem inX_inv {T : YT} {K : PySem.W.Frag} {f : Bool → Bool} {H : Hp} {x y : V} {dx : PyData} {es : List (PyData × PyData)} {b : Bool} {Q : VK} (s : Sub G H) (tx : Tr K G x dx) (ty : Tr K G y (.dict es)) (hk : isKeyed es = true) (e : inX dx es = some b) (q : Q (.bl (f b)) H) : rInX K f x y H Q := by
  unfold inX at e
  split at e
  · rename_i ds
    split at e
    · rename_i k hn
      split at e
      · rename_i hd
        cases e
        cases tx with | tup h1 h2 =>
        cases ty with
        | dX hr hm nd ne tt => exact ⟨_, _, _, es, _, k, G, rfl, rfl, s, .tup h1 h2, hn, hd, s.rd hr, hm, nd, tt, q⟩
        | dK h t => cases t with
          | nil => cases hk
          | @cons k _ _ _ _ _ _ => cases k <;> cases hk
        | exc => cases hk
      · cases e
    · cases e
  · cases e
theorem opd_inE {T : YT} (hu : X.A.units + 65 < cLine) : OpD X T (compareOp .In) gInE := by
  obtain ⟨r, h1, h2⟩ := opd_inD (X := X) (T := T) hu
  refine ⟨_, h1.or (op_inX (by omega)), fun G H x y dx dy d Q s tx ty e q => ?_⟩
  unfold gInE at e
  split at e
  · split at e
    · rename_i hk
      obtain ⟨b, eb, rfl⟩ := Option.map_eq_some_iff.mp e
      exact .inr (inX_inv (T := T) (f := id) (sub_of s) tx ty hk eb (q _ H G (Grow.refl s) (.bl _)))
    · exact .inl (h2 G H x y dx _ d Q s tx ty e q)
  · exact .inl (h2 G H x y dx _ d Q s tx ty e q)
theorem opd_notinE {T : YT} (hu : X.A.units + 65 < cLine) : OpD X T (compareOp .NotIn) gNotInE := by
  obtain ⟨r, h1, h2⟩ := opd_notinD (X := X) (T := T) hu
  refine ⟨_, h1.or (op_notInX (by omega)), fun G H x y dx dy d Q s tx ty e q => ?_⟩
  unfold gNotInE at e
  split at e
  · split at e
    · rename_i hk
      obtain ⟨b, eb, rfl⟩ := Option.map_eq_some_iff.mp e
      exact .inr (inX_inv (T := T) (f := not) (sub_of s) tx ty hk eb (q _ H G (Grow.refl s) (.bl _)))
    · exact .inl (h2 G H x y dx _ d Q s tx ty e q)
  · exact .inl (h2 G H x y dx _ d Q s tx ty e q)
end
end Y


/-! YKey2: dict(pairs), the keys tuples. -/
namespace Y
open PySem PySem.Spec PyProof.Rows L2
section
variable {X : Cx} {pins : List (Addr × Obj)} {σ : St} {H G : Hp} {s : Shared} {K : PySem.W.Frag}
/-- put, by keys -/
def stX {α : Type} (xs : List (NestedKey × Addr × α)) (k : NestedKey) (b : Addr) (v : α) : List (NestedKey × Addr × α) :=
  if (xs.any fun x => decide (x.1 = k)) = true then xs.map (fun x => if x.1 = k then (x.1, x.2.1, v) else x) else xs ++ [(k, b, v)]
def putX (es : List (PyData × PyData)) (kd d : PyData) : List (PyData × PyData) :=
  if (es.any fun p => decide (nkD p.1 = nkD kd)) = true then es.map (fun p => if nkD p.1 = nkD kd then (p.1, d) else p) else es ++ [(kd, d)]
theorem any_X {k : NestedKey} : ∀ {xs : List (NestedKey × Addr × V)} {es : List (PyData × PyData)}, TrX K G xs es → (xs.any fun x => decide (x.1 = k)) = es.any fun p => decide (nkD p.1 = some k)
  | _, _, .nil => rfl
  | _, _, .cons (k := k0) t n hd hk tv tx => by
    rw [List.any_cons, List.any_cons, n, any_X tx]
    congr 1
    by_cases e : k0 = k <;> simp [e]
theorem repl_X {k : NestedKey} {v : V} {d : PyData} (tv : Tr K G v d) : ∀ {xs : List (NestedKey × Addr × V)} {es : List (PyData × PyData)}, TrX K G xs es →
    TrX K G (xs.map (fun x => if x.1 = k then (x.1, x.2.1, v) else x)) (es.map (fun p => if nkD p.1 = some k then (p.1, d) else p))
  | _, _, .nil => .nil
  | _, _, .cons (k := k0) t n hd hk tv0 tx => by
    rw [List.map_cons, List.map_cons]
    have ih := repl_X (k := k) tv tx
    by_cases e : k0 = k
    · rw [if_pos e, if_pos (by rw [n, e])]
      exact .cons t n hd hk tv ih
    · rw [if_neg e, if_neg (by rw [n]; simpa using e)]
      exact .cons t n hd hk tv0 ih
theorem snoc_X {k : NestedKey} {b : Addr} {v : V} {kd d : PyData} (t : Tr K G (.ref b) kd) (n : nkD kd = some k) (hd : ∃ ds, kd = .tuple ds) (hk : k.depth ≤ 8) (tv : Tr K G v d) : ∀ {xs : List (NestedKey × Addr × V)} {es : List (PyData × PyData)}, TrX K G xs es → TrX K G (xs ++ [(k, b, v)]) (es ++ [(kd, d)])
  | _, _, .nil => .cons t n hd hk tv .nil
  | _, _, .cons t0 n0 hd0 hk0 tv0 tx => .cons t0 n0 hd0 hk0 tv0 (snoc_X t n hd hk tv tx)
theorem st_X {k : NestedKey} {b : Addr} {v : V} {kd d : PyData} (t : Tr K G (.ref b) kd) (n : nkD kd = some k) (hd : ∃ ds, kd = .tuple ds) (hk : k.depth ≤ 8) (tv : Tr K G v d) {xs : List (NestedKey × Addr × V)} {es : List (PyData × PyData)} (tx : TrX K G xs es) : TrX K G (stX xs k b v) (putX es kd d) := by
  unfold stX putX
  rw [any_X tx, n]
  split
  · exact repl_X tv tx
  · exact snoc_X t n hd hk tv tx
theorem stX_ne {α : Type} {xs : List (NestedKey × Addr × α)} {k : NestedKey} {b : Addr} {v : α} : stX xs k b v ≠ [] := by
  unfold stX
  split
  · rename_i h
    cases xs with
    | nil => cases h
    | cons x xs => simp
  · simp
theorem stX_keys {α : Type} {xs : List (NestedKey × Addr × α)} {k : NestedKey} {b : Addr} {v : α} (h : (xs.map (·.1)).Nodup) : ((stX xs k b v).map (·.1)).Nodup := by
  unfold stX
  split
  · rw [List.map_map]
    have : ((fun x : NestedKey × Addr × α => x.1) ∘ fun x => if x.1 = k then (x.1, x.2.1, v) else x) = fun x => x.1 := by
      funext x; dsimp only [Function.comp]; split <;> rfl
    rw [this]; exact h
  · rename_i hn
    rw [List.map_append]
    refine List.nodup_append.mpr ⟨h, by simp, ?_⟩
    intro a ha b hb
    simp at hb
    subst hb
    intro e
    subst e
    apply hn
    obtain ⟨x, hx, rfl⟩ := List.mem_map.mp ha
    exact List.any_eq_true.mpr ⟨x, hx, by simp⟩
theorem at_any (k : NestedKey) : ∀ xs : List (NestedKey × Addr × Value), (atKey xs k).isSome = xs.any fun x => decide (x.1 = k)
  | [] => rfl
  | x :: xs => by
    have ih := at_any k xs
    unfold atKey at ih ⊢
    rw [List.find?_cons, List.any_cons, ← ih]
    by_cases e : x.1 = k <;> simp [e]
theorem storedH_st (xs : List (NestedKey × Addr × Value)) (k : NestedKey) (b : Addr) (v : Value) : storedH xs k b v = stX xs k b v := by
  unfold storedH stX
  rw [← at_any]
  rfl
/-- entries with their values -/
def RX (x : NestedKey × Addr × V) (z : NestedKey × Addr × Value) : Prop := x.1 = z.1 ∧ x.2.1 = z.2.1 ∧ RelV x.2.2 z.2.2
theorem rx_any {k : NestedKey} : ∀ {xs : List (NestedKey × Addr × V)} {zs : List (NestedKey × Addr × Value)}, Paired RX xs zs → (xs.any fun x => decide (x.1 = k)) = zs.any fun x => decide (x.1 = k)
  | _, _, .nil => rfl
  | _, _, .cons h t => by rw [List.any_cons, List.any_cons, rx_any t, h.1]
theorem rx_map {k : NestedKey} {v : V} {u : Value} (r : RelV v u) : ∀ {xs : List (NestedKey × Addr × V)} {zs : List (NestedKey × Addr × Value)}, Paired RX xs zs → Paired RX (xs.map fun x => if x.1 = k then (x.1, x.2.1, v) else x) (zs.map fun x => if x.1 = k then (x.1, x.2.1, u) else x)
  | _, _, .nil => .nil
  | _, _, .cons (a := x) (b := z) h t => by
    refine .cons ?_ (rx_map r t)
    obtain ⟨h1, h2, h3⟩ := h
    show RX (if x.1 = k then (x.1, x.2.1, v) else x) (if z.1 = k then (z.1, z.2.1, u) else z)
    rw [← h1]
    split
    · exact ⟨rfl, h2, r⟩
    · exact ⟨h1, h2, h3⟩
theorem rx_app {k : NestedKey} {b : Addr} {v : V} {u : Value} (r : RelV v u) : ∀ {xs : List (NestedKey × Addr × V)} {zs : List (NestedKey × Addr × Value)}, Paired RX xs zs → Paired RX (xs ++ [(k, b, v)]) (zs ++ [(k, b, u)])
  | _, _, .nil => .cons ⟨rfl, rfl, r⟩ .nil
  | _, _, .cons h t => .cons h (rx_app r t)
theorem rx_st {k : NestedKey} {b : Addr} {v : V} {u : Value} (r : RelV v u) {xs : List (NestedKey × Addr × V)} {zs : List (NestedKey × Addr × Value)} (h : Paired RX xs zs) : Paired RX (stX xs k b v) (stX zs k b u) := by
  unfold stX
  rw [rx_any h]
  split
  · exact rx_map r h
  · exact rx_app r h
theorem rx_vals : ∀ {xs : List (NestedKey × Addr × V)} {zs : List (NestedKey × Addr × Value)}, Paired RX xs zs → Vals (xs.map (·.2.2)) (zs.map (·.2.2)) ∧ xsU xs (zs.map (·.2.2)) = zs
  | _, _, .nil => ⟨.nil, rfl⟩
  | _, _, .cons h t => by
    obtain ⟨a, b⟩ := rx_vals t
    obtain ⟨h1, h2, h3⟩ := h
    refine ⟨.cons h3 a, ?_⟩
    show (_, _, _) :: xsU _ _ = _
    rw [b, h1, h2]
/-- the dict that is told, as an object -/
theorem dx_laid {w : World} {p : Addr} {h' : Heap} {H1 : Hp} {xs : List (NestedKey × Addr × V)} {zs : List (NestedKey × Addr × Value)} {es : List (PyData × PyData)} (hd : h'.DictOfH (nestedKind X.prog w) p zs) (r : Paired RX xs zs) (t : TrX X.K G xs es) : ObjOk X.prog w H1 h' p (dX p xs) := by
  obtain ⟨o, ea, ep, ho, hx, hda, he, _, _⟩ := hd
  obtain ⟨rv, ru⟩ := rx_vals r
  refine ⟨⟨o, ea, ep, _, ho, hx, hda, rv, by rw [xEs_U w t rv, ru, he]⟩, ⟨o, ho⟩, fun h1 h2 z k => ?_⟩
  obtain ⟨o, ea, ep, us, ho, r⟩ := z
  exact ⟨o, ea, ep, us, k _ ho, r⟩
def mgX (its : List (NestedKey × Addr × V)) (acc : List (NestedKey × Addr × V)) : List (NestedKey × Addr × V) := its.foldl (fun acc x => stX acc x.1 x.2.1 x.2.2) acc
def mgD (es acc : List (PyData × PyData)) : List (PyData × PyData) := es.foldl (fun acc p => putX acc p.1 p.2) acc
theorem mg_tr : ∀ {its : List (NestedKey × Addr × V)} {es : List (PyData × PyData)} {acc : List (NestedKey × Addr × V)} {ac : List (PyData × PyData)}, TrX K G its es → TrX K G acc ac → TrX K G (mgX its acc) (mgD es ac)
  | _, _, _, _, .nil, u => u
  | _, _, acc, ac, .cons (k := k) (b := b) (v := v) (kd := kd) (d := d) t n hd hk tv tx, u => by
    have z := mg_tr (acc := stX acc k b v) (ac := putX ac kd d) tx (st_X t n hd hk tv u)
    exact z
theorem mg_rx : ∀ {its : List (NestedKey × Addr × V)} {zs : List (NestedKey × Addr × Value)} {acc : List (NestedKey × Addr × V)} {ac : List (NestedKey × Addr × Value)}, Paired RX its zs → Paired RX acc ac → Paired RX (mgX its acc) (storedAllH ac zs)
  | _, _, _, _, .nil, u => u
  | _, _, acc, ac, .cons (a := x) (b := z) h t, u => by
    obtain ⟨h1, h2, h3⟩ := h
    show Paired RX (mgX _ (stX acc x.1 x.2.1 x.2.2)) (storedAllH (storedH ac z.1 z.2.1 z.2.2) _)
    refine mg_rx t ?_
    rw [storedH_st, h1, h2]
    exact rx_st h3 u
theorem mg_keys : ∀ (its acc : List (NestedKey × Addr × V)), (acc.map (·.1)).Nodup → ((mgX its acc).map (·.1)).Nodup
  | [], _, h => h
  | x :: its, acc, h => mg_keys its _ (stX_keys h)
theorem mg_ne : ∀ (its acc : List (NestedKey × Addr × V)), acc ≠ [] ∨ its ≠ [] → mgX its acc ≠ []
  | [], acc, h => by rcases h with h | h; exact h; exact absurd rfl h
  | x :: its, acc, _ => mg_ne its _ (.inl stX_ne)
theorem rx_of (I : Inv X pins σ H s) : ∀ {ps : List Addr} {its : List (NestedKey × Addr × V)}, Paired (fun p x => SqT X.K H p [.ref x.2.1, x.2.2]) ps its →
    ∃ zs : List (NestedKey × Addr × Value), Paired RX its zs ∧ zs.length = ps.length ∧ ∀ (j : Nat) (z : NestedKey × Addr × Value), zs[j]? = some z → ∃ b : Addr, ps[j]? = some b ∧ IsTup s.heap b #[.ref z.2.1, z.2.2]
  | _, _, .nil => ⟨[], .nil, rfl, fun j q e => by simp at e⟩
  | _, _, .cons (a := p) (b := x) h t => by
    obtain ⟨zs, r, hl, hp⟩ := rx_of I t
    obtain ⟨its, rv, ht, _⟩ := I.tuple h
    obtain ⟨u, y, ei, ru, ry⟩ := vals2 rv
    subst ei
    cases ru
    refine ⟨(x.1, x.2.1, y) :: zs, .cons ⟨rfl, rfl, ry⟩ r, by rw [List.length_cons, List.length_cons, hl], fun j q e => ?_⟩
    cases j with
    | zero =>
      have e' : (x.1, x.2.1, y) = q := Option.some.inj e
      subst e'
      exact ⟨p, rfl, ht⟩
    | succ j => exact hp j q (by simpa using e)
def rDictX (X : Cx) : List V → Hp → VK → Prop := fun vs H Q => ∃ (a : Addr) (ps : List Addr) (its : List (NestedKey × Addr × V)) (es : List (PyData × PyData)) (G : Hp), vs = [.ref a] ∧ SqL X.K H a (ps.map V.ref) ∧ Sub G H ∧ TrX X.K G its es ∧
  Paired (fun p x => SqT X.K H p [.ref x.2.1, x.2.2]) ps its ∧ ∀ p, H p = none → (p == sysModules) = false → Q (.ref p) (upd H p (dX p (mgX its [])))
theorem call_dictX (hcalm : X.calm = true) (hu : X.A.units + 60 < cLine) : CallR X (.type "dict") (rDictX X) := by
  intro pins s σ H vs us Q I r q
  obtain ⟨a, ps, its, es, G, rfl, hq, sb, tx, hp, q⟩ := q
  obtain ⟨u, eu, rx⟩ := vals1 r
  subst eu
  cases rx
  obtain ⟨items, rv, pl, hz⟩ := I.list hq
  have ei := refs_at rv
  subst ei
  rw [List.length_map] at hz
  obtain ⟨zs, rel, hl, hpr⟩ := rx_of I hp
  obtain ⟨o, n, ho, hc, hd, hdat⟩ := pl
  obtain ⟨rvv, ruu⟩ := rx_vals rel
  have his : ∀ x ∈ zs, (nestedKind X.prog X.w).is s.heap x.1 x.2.1 := by
    have := xs_is I sb tx rvv
    rw [ruu] at this
    exact this
  let prs : List (Value × Value) := zs.map fun z => (.ref z.2.1, z.2.2)
  have pok : PlainSeq "list" s.heap a (ps.map Value.ref).toArray ∧ PairItems s.heap (ps.map Value.ref).toArray (fun j => ps[j]?.getD 0) prs := by
    refine ⟨⟨o, n, ho, hc, hd, hdat⟩, by simp [prs, hl], fun j k v e => ?_⟩
    rw [List.getElem?_map] at e
    obtain ⟨z, ez, ee⟩ := Option.map_eq_some_iff.mp e
    cases ee
    obtain ⟨b, eb, et⟩ := hpr j z ez
    refine ⟨by simp [eb], .inl ?_⟩
    simp only [eb, Option.getD_some]
    exact et
  refine call_dict_pairsH (knd := nestedKind X.prog X.w) (ps := zs) (PairArg.list (prog := X.prog) (w := X.w) a (ps.map Value.ref).toArray (fun j => ps[j]?.getD 0) prs) (I.ok.hd hcalm) ?_ pok ⟨by simp [prs], fun i key v e => ?_⟩ (fun h' hk x hx => ?_) (by simp [prs]; omega) fun h' tk hd' k => ?_
  · show X.A.in1.in1.units + 8 < cLine
    have : X.A.in1.in1.units ≤ X.A.units + 2 := by simp [Around.in1]
    omega
  · have e : prs[i]? = some (key, v) := e
    rw [List.getElem?_map] at e
    obtain ⟨z, ez, ee⟩ := Option.map_eq_some_iff.mp e
    cases ee
    exact ⟨z.1, z.2.1, ez, rfl⟩
  · exact nestedKind_stays.stays (fun b o vs m e q => hk b o (Nat.ne_of_lt (Heap.lt_size e)) (fun q => nomatch q) e) (his x hx)
  · have hm : (s.heap.objs.size == sysModules) = false := beq_eq_false_iff_ne.mpr (Nat.ne_of_gt I.big)
    exact ⟨.ref s.heap.objs.size, upd H s.heap.objs.size (dX s.heap.objs.size (mgX its [])), I.laid (t' := tk) (fun b o e => k b o (fun q => nomatch q) e) (Nat.le_refl _) (dx_laid hd' (mg_rx rel .nil) (mg_tr tx .nil)), rfl, q _ (I.hok.fresh (Nat.le_refl _)) hm⟩
end
end Y


/-! YKey3: dict(pairs) as an expression. -/
namespace Y
open PySem PySem.Spec PyProof.Rows L2
/-- a builtin whose result is a new object of one's own -/
def BO (X : Cx) (T : YT) (fv : Value) (g : List PyData → Option PyData) : Prop := ∃ r, CallR X fv r ∧ ∀ (G H : Hp) (vs : List V) (ds : List PyData) (d : PyData) (Q : VK),
  (∀ b o, G b = some o → H b = some o ∧ ∀ ps, o ≠ .tbl ps) → TrAll X.K G vs ds → g ds = some d → (∀ p o, H p = none → Own X.K G (upd H p o) p d → Q (.ref p) (upd H p o)) → r vs H Q
def fBltO (g : List PyData → Option PyData) (fs : AF) : EF := fun ρ => (fs ρ).bind fun x => (ofO (g x.1)).bind fun d => .ok (d, x.2)
section
variable {X : Cx} {B : Ent} {ok : OkX} {cls : Clss} {e : Expr} {es : List Expr} {fs : AF} {pos p : Pos} {x : Str} {T : YT} {K : PySem.W.Frag} {G H : Hp}
theorem bltO_ok {r : List V → Hp → VK → Prop} {g : List PyData → Option PyData} {t : TA} (k : ∀ (σ : St) (H G : Hp) (ρ : En) (Q : List V → Hp → Prop), Rel X.K B G H σ ρ → (fs ρ).sat (fun r => ∀ vs H' G', Adv σ G H ρ G' H' r.2 → Rel X.K B G' H' σ r.2 → TrAll X.K G' vs r.1 → Q vs H') ok → t σ H Q)
    (hr : ∀ (G H : Hp) (vs : List V) (ds : List PyData) (d : PyData) (Q : VK), (∀ b o, G b = some o → H b = some o ∧ ∀ ps, o ≠ .tbl ps) → TrAll X.K G vs ds → g ds = some d → (∀ p o, H p = none → Own X.K G (upd H p o) p d → Q (.ref p) (upd H p o)) → r vs H Q)
    {σ : St} {H G : Hp} {ρ : En} {Q : VK} (h : Rel X.K B G H σ ρ) (q : (fBltO g fs ρ).sat (fun r => ∀ p H' G', H p = none → Adv σ G H ρ G' H' r.2 → Rel X.K B G' H' σ r.2 → Fresh X.K B G' H' σ r.2 p r.1 → Q (.ref p) H') ok) : tCB r t σ H Q := by
  refine k σ H G ρ _ h ((R.sat_bind (r := fs ρ) (f := fun x => (ofO (g x.1)).bind fun d => R.ok (d, x.2)) q).imp fun y q vs H1 G1 s1 r1 t1 => ?_)
  obtain ⟨d, e1, qd⟩ := ofO_sat (R.sat_bind (r := ofO (g y.1)) (f := fun d => R.ok (d, y.2)) q)
  refine hr G1 H1 vs y.1 d Q r1.sub t1 e1 fun p o hp tx => ?_
  obtain ⟨r2, x2⟩ := fresh_new r1 hp (o := o) tx
  exact qd p _ _ (s1.pre hp) (s1.trans (Adv.grow (Grow.newO (T := B.T) (io := []) r1.sub hp))) r2 x2
theorem en_blto {id : String} {g : List PyData → Option PyData} (h : BO X B.T (.type id) g) (hm : X.mg x = none) (hv : bootBuiltins x = some (.type id)) (ha : EA X B ok (e :: es) fs) (hg : Gl X x := by rfl) (hn : x ≠ "__name__" := by decide) (hdb : (x == ("__debug__" : Str)) = false := by decide)
    (he : starEach (e :: es) X.env = (false, eval e X.env) :: starEach es X.env := by rfl) (hpl : (backTo pos (starEach es X.env)).any (·.1) = false := by rfl) : EN X B ok (.Call (.Name x p) (e :: es) [] pos) (fBltO g fs) := by
  obtain ⟨r, hc, hr⟩ := h
  obtain ⟨t, pa, k⟩ := ha.ex
  exact ⟨_, pe_callTy hc hg hm hv pa hn hdb he hpl, fun σ H G ρ Q r q => bltO_ok k hr r q⟩
/-- the pairs -/
def pairsD : List PyData → Option (List (PyData × PyData))
  | [] => some []
  | .tuple [k, d] :: ps => (pairsD ps).map ((k, d) :: ·)
  | _ => none
def keyOk (p : PyData × PyData) : Bool := match p.1 with
  | .tuple ds => match nkD (.tuple ds) with
    | some k => decide (k.depth ≤ 8)
    | none => false
  | _ => false
def gDict : List PyData → Option PyData
  | [.list ps] => match pairsD ps with
    | some es => if es.isEmpty = false ∧ es.all keyOk = true then some (.dict (mgD es [])) else none
    | none => none
  | _ => none
theorem pairs_tr (s : Sub G H) : ∀ {vs : List V} {ps : List PyData} {es : List (PyData × PyData)}, TrAll K G vs ps → pairsD ps = some es → es.all keyOk = true →
    ∃ (as : List Addr) (its : List (NestedKey × Addr × V)), vs = as.map V.ref ∧ TrX K G its es ∧ Paired (fun p x => SqT K H p [.ref x.2.1, x.2.2]) as its
  | _, _, es, .nil, h, _ => by
    simp only [pairsD, Option.some.injEq] at h; subst h
    exact ⟨[], [], rfl, .nil, .nil⟩
  | _, d :: ds, es, .cons t ts, h, hk => by
    unfold pairsD at h
    split at h
    · rename_i z; cases z
    · rename_i k d0 ps z
      cases z
      obtain ⟨es', h', rfl⟩ := Option.map_eq_some_iff.mp h
      rw [List.all_cons, Bool.and_eq_true] at hk
      obtain ⟨as, its, rfl, tx, pp⟩ := pairs_tr s ts h' hk.2
      cases t with | @tup a0 _ _ h1 ta =>
      cases ta with | cons t0 ta =>
      cases ta with | @cons v1 _ _ _ t1 ta =>
      cases ta
      have hk1 := hk.1
      unfold keyOk at hk1
      split at hk1
      · rename_i kds e0
        dsimp only at e0
        subst e0
        split at hk1
        · rename_i kk hn
          cases t0 with | @tup b0 _ _ h2 t2 =>
          exact ⟨a0 :: as, (kk, b0, v1) :: its, rfl, .cons (.tup h2 t2) hn ⟨_, rfl⟩ (of_decide_eq_true hk1) t1 tx, .cons (sqt (s.rd h1)) pp⟩
        · cases hk1
      · cases hk1
    · cases h
theorem bo_dict (hcalm : X.calm = true) (hu : X.A.units + 65 < cLine) : BO X T (.type "dict") gDict := by
  refine ⟨_, call_dictX hcalm (by omega), fun G H vs ds d Q s t e q => ?_⟩
  unfold gDict at e
  split at e
  · rename_i ps
    split at e
    · rename_i es hp
      split at e
      · rename_i hc
        cases e
        cases t with | cons t0 t1 =>
        cases t1
        cases t0 with | lst h1 ta =>
        rename_i a vs
        obtain ⟨as, its, rfl, tx, pp⟩ := pairs_tr (sub_of s) ta hp hc.2
        have ne : its ≠ [] := fun z => by
          subst z; cases tx; exact absurd hc.1 (by simp)
        exact ⟨a, as, its, es, G, rfl, .inl ((sub_of s).rd h1), sub_of s, tx, pp, fun p hn hm => q p _ hn (.dX upd_same hm (mg_keys _ _ .nil) (mg_ne _ _ (.inr ne)) (mg_tr tx .nil))⟩
      · cases e
    · cases e
  · cases e
end
end Y


/-! YRev: xs[::-1] of a list, a tuple. -/
namespace HT
open PySem PySem.Spec PyProof.Rows
section
variable {prog : Program} {w : World} {A : Around} {E : Value → Shared → Prop} {s : Shared}
theorem adjust_rev (n : Nat) : Builtin.Slice.sliceAdjust none none (-1) (n : Int) = ((n : Int) - 1, -1) := by
  unfold Builtin.Slice.sliceAdjust
  rfl
theorem places_rev (n : Nat) : Builtin.Slice.slicePlaces ((n : Int) - 1) (-1) (-1) = n := by
  unfold Builtin.Slice.slicePlaces
  cases n with
  | zero => rfl
  | succ n =>
    simp only [show ¬ ((-1 : Int) > 0) by omega, if_false]
    split
    · simp
    · omega
theorem pick_rev (xs : Array Value) : ((List.range xs.size).filterMap fun (m : Nat) => xs[((xs.size : Int) - 1 + (m : Int) * (-1)).toNat]?).toArray = xs.toList.reverse.toArray := by
  congr 1
  refine List.ext_getElem? fun i => ?_
  have fc : ∀ {l : List Nat} {f g : Nat → Option Value}, (∀ m ∈ l, f m = g m) → l.filterMap f = l.filterMap g := fun {l f g} h => by
    induction l with
    | nil => rfl
    | cons a as ih => rw [List.filterMap_cons, List.filterMap_cons, h a List.mem_cons_self, ih fun m hm => h m (List.mem_cons_of_mem _ hm)]
  have key : (List.range xs.size).filterMap (fun (m : Nat) => xs[((xs.size : Int) - 1 + (m : Int) * (-1)).toNat]?) = (List.range xs.size).map fun m => (xs[xs.size - 1 - m]?).getD .none := by
    rw [← List.filterMap_eq_map]
    refine fc fun m hm => ?_
    have hm := List.mem_range.mp hm
    have e : ((xs.size : Int) - 1 + (m : Int) * (-1)).toNat = xs.size - 1 - m := by omega
    rw [e]
    have hl : xs.size - 1 - m < xs.size := by omega
    simp [hl]
  rw [key, List.getElem?_map]
  by_cases h : i < xs.size
  · rw [List.getElem?_range h, List.getElem?_reverse (by simpa using h)]
    have hl : xs.size - 1 - i < xs.size := by omega
    simp [hl]
  · rw [List.getElem?_eq_none (by simpa using h), List.getElem?_eq_none (by simpa using h)]
    rfl
theorem sliceApplied_rev {sl : Addr} {vl vu vs : Value} {n : Nat} {Q : Int × Int × Nat → Shared → Prop} (hs : s.heap.IsSliceOf sl vl vu vs) (pl : IsPart vl none) (pu : IsPart vu none) (ps : IsPart vs (some (-1)))
    (h : Q ((n : Int) - 1, -1, n) s) : wpAny (model prog w) A (Builtin.Slice.sliceApplied (.ref sl) (pure (n : Int))) Q E s := by
  obtain ⟨os, hos, hcs, hds⟩ := id hs
  unfold Builtin.Slice.sliceApplied Builtin.Slice.sliceFields
  refine wpAny_bind (wpAny_bind (wpAny_field hos hds (x := vl) rfl (wpAny_bind (wpAny_field hos hds (x := vu) rfl (wpAny_bind (wpAny_field hos hds (x := vs) rfl (wpAny_pure ?_)))))))
  refine wpAny_bind (slicePart_ ps ?_)
  show wpAny _ _ (if ((-1 : Int) == 0) = true then _ else _) _ _ s
  rw [if_neg (by decide)]
  refine wpAny_bind (slicePart_ pl (wpAny_bind (slicePart_ pu (wpAny_bind (wpAny_pure ?_)))))
  show wpAny _ _ (match Builtin.Slice.sliceAdjust none none (-1) (n : Int) with | (lo, hi) => pure (lo, (-1 : Int), Builtin.Slice.slicePlaces lo hi (-1))) _ _ s
  rw [adjust_rev n]
  show wpAny _ _ (pure ((n : Int) - 1, (-1 : Int), Builtin.Slice.slicePlaces ((n : Int) - 1) (-1) (-1))) _ _ s
  rw [places_rev]
  exact wpAny_pure h
theorem getItem_tuple_rev {t sl : Addr} {items : Array Value} {vl vu vs : Value} {Q : Value → Shared → Prop} (ht : IsTup s.heap t items) (hs : s.heap.IsSliceOf sl vl vu vs) (pl : IsPart vl none) (pu : IsPart vu none) (ps : IsPart vs (some (-1)))
    (h : Q (.ref s.heap.objs.size) { s with heap := s.heap.push { cls := .type "tuple", data := .seq items.toList.reverse.toArray } })
    (hsz : items.size ≤ sizeLine) : wpAny (model prog w) A (getItem (.ref t) (.ref sl)) Q E s := by
  have htake : sizeOk (.seq items.toList.reverse.toArray) := by
    show items.toList.reverse.toArray.size ≤ sizeLine
    rw [List.size_toArray, List.length_reverse, Array.length_toList]
    exact hsz
  obtain ⟨os, hos, hcs, hds⟩ := id hs
  have hTs : s.TypeIs (.ref sl) "slice" := ⟨os, hos, hcs⟩
  unfold getItem
  try with_reducible refine wpAny_holding ?_
  first | refine wpAny_bind (wpAny_pure ?_) | skip
  refine wpAny_bind (wpAny_sequenceKey ht.typeIs (by decide) ?_)
  refine wpAny_bind (wpAny_callSpecial?_slot (name := Str.ofString "__getitem__") ht.typeIs PyProof.Rows.slot_tuple_getitem
    (wpAny_call_entry PyProof.Rows.slot_tuple_getitem ht.typeIs entry_tuple_getitem ?_ (args_tuple_getitem _ _)))
  show wpAny _ _ (Builtin.Tuple.tupleItemsOf (.ref t) >>= _) _ _ s
  refine wpAny_bind (tupleItemsOf_ ht ?_)
  refine wpAny_bind (wpAny_typeOf hTs ?_)
  rw [if_pos (by decide)]
  refine wpAny_bind (sliceApplied_rev hs pl pu ps ?_)
  show wpAny _ _ (if ((((items.size : Int) - 1) == 0 && (-1 : Int) == 1 && items.size == items.size) = true) then _ else _) _ _ s
  rw [if_neg (by simp)]
  rw [pick_rev]
  first
    | exact wpAny_bind (m := Builtin.Tuple.tupleExact _) (wpAny_newObj_type (wpAny_pure ⟨_, rfl, wpAny_pure h⟩) htake)
    | exact wpAny_bind (m := Builtin.Tuple.tupleExact _) (wpAny_newObj_type (wpAny_bind (wpAny_pure (wpAny_pure ⟨_, rfl, wpAny_pure h⟩))) htake)
    | exact wpAny_bind (wpAny_bind (m := Builtin.Tuple.tupleExact _) (wpAny_newObj_type (wpAny_pure (wpAny_pure ⟨_, rfl, wpAny_pure h⟩)) htake))
    | exact wpAny_bind (wpAny_bind (m := Builtin.Tuple.tupleExact _) (wpAny_newObj_type (wpAny_pure ⟨_, rfl, wpAny_pure h⟩) htake))
end
end HT
namespace Y
open PySem PySem.Spec PyProof.Rows L2
section
variable {X : Cx} {B : Ent} {ok : OkX} {e : Expr} {f : EF}
def tRevD (te : TE) : TE := fun σ H Q => te σ H fun x H1 => (∃ a xs, x = .ref a ∧ Rd H1 a (.lst xs) ∧ ∀ p, H1 p = none → Q (.ref p) (upd H1 p (.lst xs.reverse))) ∨ ∃ a xs, x = .ref a ∧ Rd H1 a (.tup xs) ∧ ∀ p, H1 p = none → Q (.ref p) (upd H1 p (.tup xs.reverse))
theorem pe_revD {te : TE} {k : Nat} {p1 p2 p3 pos : Pos} (he : PE X e te) : PE X (.Subscript e (.Slice none none (some (.UnaryOp .USub (.Constant (.int 1) k p1) p2)) p3) pos) (tRevD te) := by
  refine ⟨fun pins s σ H Q I h => ?_⟩
  refine Subscript_ (thn (he.run pins s σ H _ I h) fun v s1 ⟨x, H1, I1, r1, q1⟩ => ?_)
  have hst : PO X (some (.UnaryOp .USub (.Constant (.int 1) k p1) p2)) (tPart (tUn (rU fun i => .int (-i)) (tC (.int 1)))) := po_some (pe_un un_neg pe_int)
  refine wpAny_Slice (thn (po_none.run pins s1 σ H1 (fun o H2 => o = none ∧ H2 = H1) I1 ⟨rfl, rfl⟩) fun vl s2 ⟨l, H2, I2, pl, el, e2⟩ => ?_)
  subst el e2
  refine thn (po_none.run pins s2 σ H2 (fun o H3 => o = none ∧ H3 = H2) I2 ⟨rfl, rfl⟩) fun vu s3 ⟨u, H3, I3, pu, eu, e3⟩ => ?_
  subst eu e3
  refine thn (hst.run pins s3 σ H3 (fun o H4 => o = some (-1) ∧ H4 = H3) I3 ⟨1, rfl, -1, rfl, rfl, rfl⟩) fun vs s4 ⟨o, H4, I4, ps, eo, e4⟩ => ?_
  subst eo e4
  have I5 : Inv X pins σ H4 { s4 with heap := s4.heap.push { cls := .type "slice", data := .fields #[vl, vu, vs] } } := I4.kept (t' := s4.toks) fun b ob q => Heap.get?_push_of_some _ q
  rcases q1 with ⟨a, xs, ex, hx, q⟩ | ⟨a, xs, ex, hx, q⟩
  · subst ex
    cases r1
    obtain ⟨its, r, ht, hz⟩ := I5.list (show SqL X.K H4 a xs from .inl hx)
    have hlen := r.length
    show wpAny (model X.prog X.w) X.A (subscriptTail e (.Slice none none (some (.UnaryOp .USub (.Constant (.int 1) k p1) p2)) p3) (.ref a) (.ref s4.heap.objs.size)) _ _ { s4 with heap := s4.heap.push { cls := .type "slice", data := .fields #[vl, vu, vs] } }
    refine tail_any (ops := [.ref a, .ref s4.heap.objs.size]) ht.isList.typeIs (PySem.slot_list_getitem.lookup) ?_ (by with_unfolding_all rfl)
    refine wpAny_getItem_list_slice ht.isList (Heap.IsSliceOf.new _ vl vu vs) pl pu ps (by decide) ?_ (by rw [List.size_toArray]; omega)
    rw [PySem.W.krv_pick]
    refine ⟨.ref _, _, I5.laid (t' := s4.toks) (o := .lst xs.reverse) (fun b ob q => Heap.get?_push_of_some _ q) (Nat.le_refl _) ?_, rfl, q _ (I5.hok.fresh (Nat.le_refl _))⟩
    exact ⟨by rw [List.length_reverse]; exact hz, _, 0, r.reverse, Heap.get?_push_size _ rfl⟩
  · subst ex
    cases r1
    obtain ⟨its, r, ht, hz⟩ := I5.tuple (sqt hx)
    have hlen := r.length
    show wpAny (model X.prog X.w) X.A (subscriptTail e (.Slice none none (some (.UnaryOp .USub (.Constant (.int 1) k p1) p2)) p3) (.ref a) (.ref s4.heap.objs.size)) _ _ { s4 with heap := s4.heap.push { cls := .type "slice", data := .fields #[vl, vu, vs] } }
    refine tail_any (ops := [.ref a, .ref s4.heap.objs.size]) ht.typeIs (PyProof.Rows.slot_tuple_getitem.lookup) ?_ (by with_unfolding_all rfl)
    refine HT.getItem_tuple_rev ht (Heap.IsSliceOf.new _ vl vu vs) pl pu ps ?_ (by rw [List.size_toArray, ← hlen]; exact hz)
    refine ⟨.ref _, _, I5.laid (t' := s4.toks) (o := .tup xs.reverse) (fun b ob q => Heap.get?_push_of_some _ q) (Nat.le_refl _) ?_, rfl, q _ (I5.hok.fresh (Nat.le_refl _))⟩
    exact ⟨by rw [List.length_reverse]; exact hz, _, r.reverse, IsTup.new _ _⟩
theorem TrAll.rev {K : PySem.W.Frag} {G : Hp} : ∀ {vs : List V} {ds : List PyData}, TrAll K G vs ds → TrAll K G vs.reverse ds.reverse
  | _, _, .nil => .nil
  | _, _, .cons h t => by
    rw [List.reverse_cons, List.reverse_cons]
    exact (TrAll.rev t).append (.cons h .nil)
def gRev : PyData → Option PyData
  | .list ds => some (.list ds.reverse)
  | .tuple ds => some (.tuple ds.reverse)
  | _ => none
@[simp] theorem gRev_l {ds : List PyData} : gRev (.list ds) = some (.list ds.reverse) := rfl
@[simp] theorem gRev_t {ds : List PyData} : gRev (.tuple ds) = some (.tuple ds.reverse) := rfl
theorem ee_rev {k : Nat} {p1 p2 p3 pos : Pos} (h : EE X B ok e f) : EE X B ok (.Subscript e (.Slice none none (some (.UnaryOp .USub (.Constant (.int 1) k p1) p2)) p3) pos) (fUn gRev f) := by
  obtain ⟨t, pe, ke⟩ := h.ex
  refine ⟨_, pe_revD pe, fun σ H G ρ Q r q => ke σ H G ρ _ r ((R.sat_bind q).imp fun x qx v H1 G1 s1 r1 t1 => ?_)⟩
  obtain ⟨d, ed, qd⟩ := ofO_sat (R.sat_bind qx)
  unfold gRev at ed
  split at ed
  · rename_i ds hx
    cases ed
    rw [hx] at t1
    cases t1 with
    | lst hr ta =>
      rename_i a xs
      refine .inl ⟨a, xs, rfl, r1.subG.rd hr, fun pp hp => ?_⟩
      have g : Grow B.T [] G1 H1 (upd G1 pp (.lst xs.reverse)) (upd H1 pp (.lst xs.reverse)) := Grow.new r1.sub hp (fun _ z => nomatch z)
      exact qd _ _ _ (s1.trans (Adv.grow g)) (r1.step g) (.lst (.inl upd_same) (ta.rev.mono g.gm))
  · rename_i ds hx
    cases ed
    rw [hx] at t1
    cases t1 with
    | tup hr ta =>
      rename_i a xs
      refine .inr ⟨a, xs, rfl, r1.subG.rd hr, fun pp hp => ?_⟩
      have g : Grow B.T [] G1 H1 (upd G1 pp (.tup xs.reverse)) (upd H1 pp (.tup xs.reverse)) := Grow.new r1.sub hp (fun _ z => nomatch z)
      exact qd _ _ _ (s1.trans (Adv.grow g)) (r1.step g) (.tup (.inl upd_same) (ta.rev.mono g.gm))
  · cases ed
end

/-! x op b, x a name that is one's own -/
section
variable {X : Cx} {B : Ent} {ok : OkX} {a b : Expr} {fb : EF} {x : Str} {p pos : Pos} {i : Nat}
def fOpL (g : PyData → PyData → Option PyData) (i : Nat) (fb : EF) : EF := fun ρ => (anyAt ρ i).bind fun _ => (fb ρ).bind fun y => (anyAt y.2 i).bind fun d => (ofO (g d y.1)).bind fun r => if scl r = true then .ok (r, y.2) else .no
@[simp] theorem ap_fOpL {g : PyData → PyData → Option PyData} {ρ : En} : fOpL g i fb ρ = (anyAt ρ i).bind fun _ => (fb ρ).bind fun y => (anyAt y.2 i).bind fun d => (ofO (g d y.1)).bind fun r => if scl r = true then .ok (r, y.2) else .no := rfl
theorem opL_ok {tb : TE} {g : PyData → PyData → Option PyData} (kb : ∀ (σ : St) (H G : Hp) (ρ : En) (Q : VK), Rel X.K B G H σ ρ → (fb ρ).sat (fun r => ∀ v H' G', Adv σ G H ρ G' H' r.2 → Rel X.K B G' H' σ r.2 → Tr X.K G' v r.1 → Q v H') ok → tb σ H Q)
    {r : R2} (hr : RD B.T X.K r g) {σ : St} {H G : Hp} {ρ : En} {Q : VK} (h : Rel X.K B G H σ ρ) (q : (fOpL g i fb ρ).sat (fun r => ∀ v H' G', Adv σ G H ρ G' H' r.2 → Rel X.K B G' H' σ r.2 → Tr X.K G' v r.1 → Q v H') ok) : tOp r (tVar i) tb σ H Q := by
  obtain ⟨d0, e0, q0⟩ := anyAt_sat (R.sat_bind q)
  obtain ⟨v0, _, ev0, _⟩ := h.anyTr e0
  refine ⟨v0, ev0, ?_⟩
  refine kb σ H G ρ _ h ((R.sat_bind q0).imp fun x qx v1 H1 G1 s1 r1 t1 => ?_)
  obtain ⟨d, e, q1⟩ := anyAt_sat (R.sat_bind qx)
  obtain ⟨z, ez, q2⟩ := ofO_sat (R.sat_bind q1)
  obtain ⟨hs, q2⟩ := ite_sat q2
  obtain ⟨v2, G2, e2, s2, sub2, t2, bk⟩ := r1.anyTr e
  rw [ev0] at e2
  cases e2
  refine hr G2 H1 v0 v1 d x.1 z Q sub2 t2 (t1.mono s2) ez fun v H' G' g t => ?_
  have g' := bk _ _ _ g
  exact q2 v H' G1 (s1.trans (Adv.grow g')) (r1.step g') (scl_tr t hs)
theorem ee_cmpL {op : CmpOp} {g : PyData → PyData → Option PyData} (i : Nat) (ho : OpD X B.T (compareOp op) g) (hb : EE X B ok b fb) (hN : X.N[i]? = some x := by rfl) (hv : Vis X.env.scope x := by first | exact Or.inl rfl | exact Or.inr (Or.inl rfl) | exact Or.inr (Or.inr rfl)) (hm : behindInMarks op b = false := by rfl)
    (hd1 : (x == ("__debug__" : Str)) = false := by decide) (hd2 : (x == ("__classdict__" : Str)) = false := by decide) : EE X B ok (.Compare (.Name x p) [op] [b] pos) (fOpL g i fb) := by
  obtain ⟨r, h1, h2⟩ := ho
  obtain ⟨tb, pb, kb⟩ := hb.ex
  exact ⟨_, pe_cmpR h1 (pe_var hN hv hd1 hd2) pb hm, fun σ H G ρ Q h q => opL_ok kb h2 h q⟩
theorem et_cmpL {op : CmpOp} {g : PyData → PyData → Option PyData} (i : Nat) (ho : OpD X B.T (compareOp op) g) (hb : EE X B ok b fb) (hN : X.N[i]? = some x := by rfl) (hv : Vis X.env.scope x := by first | exact Or.inl rfl | exact Or.inr (Or.inl rfl) | exact Or.inr (Or.inr rfl)) (hm : behindInMarks op b = false := by rfl)
    (hd1 : (x == ("__debug__" : Str)) = false := by decide) (hd2 : (x == ("__classdict__" : Str)) = false := by decide) : ET X B ok (.Compare (.Name x p) [op] [b] pos) (fB (fOpL g i fb)) := by
  obtain ⟨r, h1, h2⟩ := ho
  obtain ⟨tb, pb, kb⟩ := hb.ex
  refine ⟨_, pt_cmpR h1 (pe_var hN hv hd1 hd2) pb hm, fun σ H G ρ Q h q => opL_ok (g := g) kb h2 h ((fB_sat q).imp fun x ⟨k, e, qk⟩ v H' G' s' r' t' => ?_)⟩
  exact ⟨k, asB_tr t' e, qk H' G' s' r'⟩
end
/-! x[k] = v, x a dict or a list of one's own -/
section
variable {X : Cx} {B : Ent} {ok : OkX} {b c : Expr} {fk fv : EF} {x : Str} {p p2 pos : Pos}
def putA (d k v : PyData) : R PyData := match d with
  | .dict es => match kc k with
    | some c => if kindOk es c = true ∧ es.length < 1000000 then .ok (.dict (putD es k c v)) else .no
    | none => .no
  | .list ds => match k with
    | .int j => match ixN ds.length j with
      | some n => .ok (.list (ds.set n v))
      | none => .no
    | _ => .no
  | _ => .no
def sPutA (i : Nat) (fk fv : EF) : SF := fun ρ => ofR ((fv ρ).bind fun v => (ioAt v.2 i).bind fun _ => (fk v.2).bind fun k => (ioAt k.2 i).bind fun d => (putA d k.1 v.1).bind fun z => .ok (z, k.2)) fun x => .nx (ioSet x.2 i x.1)
@[simp] theorem ap_sPutA {i : Nat} {ρ : En} : sPutA i fk fv ρ = ofR ((fv ρ).bind fun v => (ioAt v.2 i).bind fun _ => (fk v.2).bind fun k => (ioAt k.2 i).bind fun d => (putA d k.1 v.1).bind fun z => .ok (z, k.2)) fun x => .nx (ioSet x.2 i x.1) := rfl
@[simp] theorem putA_l {ds : List PyData} {j : Int} {v : PyData} : putA (.list ds) (.int j) v = match ixN ds.length j with
  | some n => .ok (.list (ds.set n v))
  | none => .no := rfl
theorem TrAll.set {K : PySem.W.Frag} {G : Hp} {v : V} {d : PyData} : ∀ {vs : List V} {ds : List PyData} (n : Nat), TrAll K G vs ds → Tr K G v d → TrAll K G (vs.set n v) (ds.set n d)
  | _, _, _, .nil, _ => .nil
  | _, _, 0, .cons _ t, h => .cons h t
  | _, _, n + 1, .cons a t, h => .cons a (TrAll.set n t h)
theorem ss_putA (i : Nat) (hu : X.A.units + 64 < cLine) (hk : EE X B ok b fk) (hv : EE X B ok c fv) (hN : X.N[i]? = some x := by rfl) (hvis : Vis X.env.scope x := by first | exact Or.inl rfl | exact Or.inr (Or.inl rfl) | exact Or.inr (Or.inr rfl))
    (hd1 : (x == ("__debug__" : Str)) = false := by decide) (hd2 : (x == ("__classdict__" : Str)) = false := by decide) (hs : swapsWith c (some (.Subscript (.Name x p) b p2)) pos.line X.env = pure false := by rfl) :
    SS X B ok (.Assign [.Subscript (.Name x p) b p2] c pos) (sPutA i fk fv) := by
  obtain ⟨tk, pk, kk⟩ := hk.ex
  obtain ⟨tv, pv, kv⟩ := hv.ex
  refine ⟨fun D σ H => tv σ H fun v H1 => ∃ x0, σ[i]? = some (some x0) ∧ tk σ H1 fun y H3 => (∃ a H4, x0 = .ref a ∧ DPutE H3 a y v H4 ∧ D.nx σ H4) ∨ rSetL x0 y v H3 (fun H4 => D.nx σ H4), ⟨fun pins s σ H D I h => ?_⟩, fun σ H G ρ D r q => ?_⟩
  · refine wpAny_Assign_Subscript (thn (pv.run pins s σ H _ I h) fun r s1 ⟨v, H1, I1, rv, x0, e0, q1⟩ => thn ((pe_var hN hvis hd1 hd2).run pins s1 σ H1 (fun x1 H2 => x1 = x0 ∧ H2 = H1) I1 ⟨x0, e0, rfl, rfl⟩) fun u s2 ⟨x, H2, I2, rx, ex, eh⟩ => ?_) hs
    subst ex eh
    refine thn (pk.run pins s2 σ H2 _ I2 q1) fun iv s3 ⟨y, H3, I3, ry, q2⟩ => ?_
    rcases q2 with ⟨a, H4, ex, g, q3⟩ | q2
    · subst ex
      obtain rfl : u = Value.ref a := rx
      exact d_setItemE (by omega) I3 g ry rv fun s4 I4 => ⟨σ, H4, I4, q3⟩
    · exact thn (set_list pins s3 σ H3 _ y v u iv r _ I3 rx ry rv q2) fun _ s4 ⟨H4, I4, q3⟩ => ⟨σ, H4, I4, q3⟩
  · refine kv σ H G ρ _ r ((R.sat_bind (ofR_sat q)).imp fun v qv v1 H1 G1 s1 r1 t1 => ?_)
    obtain ⟨d1, e1, q1⟩ := ioAt_sat (R.sat_bind qv)
    obtain ⟨a0, _, _, _, ea0, _, _⟩ := r1.at_io e1
    refine ⟨_, ea0, kk σ H1 G1 v.2 _ r1 ((R.sat_bind q1).imp fun k qk v2 H2 G2 s2 r2 t2 => ?_)⟩
    obtain ⟨d2, e2, q2⟩ := ioAt_sat (R.sat_bind qk)
    obtain ⟨a, s, hs', had, ea, n0, w0⟩ := r2.at_io e2
    rw [ea0] at ea; cases ea
    have q3 := R.sat_bind q2
    unfold putA at q3
    split at q3
    · rename_i es
      split at q3
      · rename_i c hc
        obtain ⟨⟨hk1, hl⟩, q3⟩ := ite_sat q3
        obtain ⟨o, g, hp, w'⟩ := own_dput r2.subG w0 t2 (t1.mono s2.sub) hc hk1 hl
        obtain ⟨o0, h0, p0⟩ := w0.pl
        obtain ⟨r3, s3⟩ := r2.stepIo hs' had (Grow.wr r2.sub n0 h0 p0 (by simp)) n0 w'
        exact .inl ⟨_, _, rfl, g, q3 σ _ G2 (s1.sub.trans s2.sub) r3⟩
      · exact q3.elim
    · rename_i ds
      split at q3
      · rename_i j hj
        split at q3
        · rename_i n hn
          rw [hj] at t2
          cases t2
          cases w0 with
          | lst hH ta =>
            rename_i vs
            have w' : Own X.K G2 (upd H2 a0 (.lst (vs.set n v1))) a0 (.list (ds.set n v.1)) := .lst upd_same (ta.set n (t1.mono s2.sub))
            obtain ⟨r3, s3⟩ := r2.stepIo hs' had (Grow.wr r2.sub n0 hH trivial (by simp)) n0 w'
            exact .inr ⟨a0, vs, j, n, rfl, rfl, hH, by rw [ta.length]; exact hn, q3 σ _ G2 (s1.sub.trans s2.sub) r3⟩
        · exact q3.elim
      · exact q3.elim
    · exact q3.elim
end
end Y


/-! YEnum: enumerate of a tuple. -/
namespace PySem
open Sem (wp)
open AutoSeq1 (wpAny_loadPart')
theorem meets_enumerate_newT (l : Addr) (items : Array Value) (n : Nat) (dct : Option Addr) (sl : Array (Option Value)) :
    Meets (Builtin.«enumerate.__new__» ⟨[.type "enumerate", .ref l], []⟩) (fun _ R s => s.heap.get? l = some { cls := .type "tuple", dict := dct, data := .seq items n, slots := sl } ∧
      R (.ok (.ret (.ref (s.heap.push { cls := .type "tuple_iterator", data := .fields #[.ref l, .int 0 0] }).objs.size)))
        { s with heap := (s.heap.push { cls := .type "tuple_iterator", data := .fields #[.ref l, .int 0 0] }).push { cls := .type "enumerate", data := .fields #[.none, .bool false, .ref s.heap.objs.size, rawInt 0, .none, .none] } }) :=
  .of_wp fun prog w A R s h => by
    obtain ⟨hp, g, d, tk, os⟩ := s; obtain ⟨hl, h⟩ := h
    have hsub := sub_enumerate
    have hL : Heap.IsTuple (Shared.heap ⟨hp, g, d, tk, os⟩) l items := ⟨_, hl, rfl, n, rfl⟩
    wp_walk using wpAny_loadPart' hl
    refine wpAny_stack_any fun st => wpAny_pure ?_
    split
    · rename_i c _ _ _ _ _
      cases (c == Value.type "enumerate")
      · wp_walk using wpAny_loadPart' hl, wpAny_pyIter_tuple hL
        exact ⟨_, rfl, h⟩
      · wp_walk using wpAny_loadPart' hl, wpAny_pyIter_tuple hL
        exact ⟨_, rfl, h⟩
    · wp_walk using wpAny_loadPart' hl, wpAny_pyIter_tuple hL
      exact ⟨_, rfl, h⟩
section
variable {prog : Program} {w : World} {A : Around} {E : Value → Shared → Prop} {s : Shared}
theorem call_enumerate_tup {l : Addr} {items : Array Value} {Q : Value → Shared → Prop} (hL : s.heap.IsTuple l items)
    (h : ∀ h', IsEnum h' (s.heap.objs.size + 1) s.heap.objs.size 0 .none → h'.IsTupleIter s.heap.objs.size l 0 → h'.objs.size = s.heap.objs.size + 2 →
      (∀ b o, s.heap.get? b = some o → h'.get? b = some o) → Q (.ref (s.heap.objs.size + 1)) { s with heap := h' }) :
    wpAny (model prog w) A (call (.type "enumerate") [.ref l]) Q E s := by
  obtain ⟨⟨c, dct, dt, sl⟩, hl, hc, n, hd⟩ := hL
  replace hc : c = .type "tuple" := hc
  replace hd : dt = .seq items n := hd
  subst hc hd
  refine callType_new F.called_enumerate (by decide) (F.typeCall_enumerate_1 _) (F.newCall_enumerate_1 _) (fun obj => F.args_object_init_2 obj _) F.entry_enumerate_new
    (meets_enumerate_newT l items n dct sl) ⟨hl, ?_⟩
  have hz : (s.heap.push { cls := .type "tuple_iterator", data := .fields #[.ref l, .int 0 0] }).objs.size = s.heap.objs.size + 1 := Heap.size_push ..
  show _ ∧ _
  rw [hz]
  have he : IsEnum ((s.heap.push { cls := .type "tuple_iterator", data := .fields #[.ref l, .int 0 0] }).push
      { cls := .type "enumerate", data := .fields #[.none, .bool false, .ref s.heap.objs.size, rawInt 0, .none, .none] }) (s.heap.objs.size + 1) s.heap.objs.size 0 .none := by
    have := Heap.get?_push_size (s.heap.push { cls := .type "tuple_iterator", data := .fields #[.ref l, .int 0 0] })
      (o := { cls := .type "enumerate", data := .fields #[.none, .bool false, .ref s.heap.objs.size, rawInt 0, .none, .none] }) rfl
    rw [hz] at this; exact this
  refine ⟨⟨_, he, rfl⟩, h _ he ⟨_, Heap.get?_push_of_some _ (Heap.get?_push_size _ rfl), rfl, rfl⟩ (by rw [Heap.size_push, hz]) fun b o x => Heap.get?_push_of_some _ (Heap.get?_push_of_some _ x)⟩
end
end PySem
namespace L2
open PySem PySem.Spec PyProof.Rows
/-- the tuple at a, each item in a new pair -/
def Itet (K : PySem.W.Frag) (a : Addr) : It :=
  ⟨fun i H => ∃ (xs : List V) (x : V), SqT K H a xs ∧ xs[i]? = some x, fun i H v H' => ∃ T x, v = .ref T ∧ H T = none ∧ H' = upd H T (.tup [.int (i : Nat), x]) ∧ ∀ xs, SqT K H a xs → xs[i]? = some x, fun i H => ∃ xs : List V, SqT K H a xs ∧ xs.length ≤ i⟩
theorem turn_enumT {P : Program} {w : World} {K : PySem.W.Frag} {elts : List Expr} {kk : Nat} {tpos : Pos} (a e it : Addr) (ha : a ≠ it) (hae : e ≠ a) :
    Turn P w K (.Tuple elts kk tpos) (Itet K a) [e, it] e (fun i h => (∃ old, IsEnum h e it ((i : Nat) : Int) old) ∧ h.IsTupleIter it a i ∧ e ≠ it) where
  mem := by simp
  obj := fun i h st b hb => by
    obtain ⟨⟨old, he⟩, ⟨o, ho, hc, hd⟩, _⟩ := st
    have e' : b = e ∨ b = it := by simpa using hb
    rcases e' with z | z
    · rw [z]; exact ⟨_, he, fun v q => nomatch q⟩
    · rw [z]; exact ⟨o, ho, fun v q => by rw [hd] at q; cases q⟩
  keep := fun i h h' st k => let ⟨⟨old, he⟩, hi, hne⟩ := st; ⟨⟨old, k e (by simp) _ he⟩, hi.at fun o q => k it (by simp) o q, hne⟩
  item := by
    intro X hP hw hK hc i pins s σ H E I hf st hg
    subst hP hw hK
    obtain ⟨⟨old, he⟩, hit, hne⟩ := st
    obtain ⟨xs, x, hq, hx⟩ := hg
    obtain ⟨its, rv, p, hz⟩ := I.tuple hq
    obtain ⟨u, hu, ru⟩ := rv.get hx
    have hel : e < s.heap.objs.size := Heap.lt_size he
    have hil : it < s.heap.objs.size := by obtain ⟨_, q, _⟩ := hit; exact Heap.lt_size q
    have pT : s.heap.IsTuple a its.toArray := p
    have hlt : i < its.toArray.size := by
      obtain ⟨h1, _⟩ := List.getElem?_eq_some_iff.mp hu
      simpa using h1
    refine wpAny_pyNext_enum_itemD (Draws.tuple (prog := X.prog) (w := X.w) (A := X.A.in1) (show X.A.in1.handled = none from I.ok.hd hc) it a ha its.toArray) he ⟨hit, pT⟩ hlt hne (by intro z; rcases List.mem_cons.mp z with z | z; exact hne z; exact hae (List.mem_singleton.mp z)) fun x2 h' tk hP ho st' hT hsz hk => ?_
    obtain ⟨hit', _⟩ := st'
    have ex : x2 = u := by
      have h1 : its.toArray[i]? = some x2 := hP
      have h2 : its.toArray[i]? = some u := by simpa using hu
      rw [h1] at h2; exact Option.some.inj h2
    subst ex
    refine ⟨_, rfl, wpAny_letOwnedTupleGo_enum (s := { s with heap := h', toks := tk + 1 }) ho fun h'' he' sb => ?_⟩
    have hT2 : h''.get? s.heap.objs.size = some { cls := .type "tuple", data := .seq #[.int i tk, x2] } := (sb.2 _ (Nat.ne_of_gt hel)).trans hT
    have new : ObjOk X.prog X.w (upd H s.heap.objs.size (.tup [.int (i : Nat), x])) h'' s.heap.objs.size (.tup [.int (i : Nat), x]) :=
      ⟨by show 2 ≤ sizeLine; decide, [.int i tk, x2], .cons ⟨_, rfl⟩ (.cons ru .nil), ⟨_, hT2, rfl, _, rfl⟩⟩
    have I1 : Inv X pins σ (upd H s.heap.objs.size (.tup [.int (i : Nat), x])) { s with heap := h'', toks := tk + 1 } :=
      I.turnedNew (ch := [e, it]) (fun b ob hb q => (sb.2 b (fun z => hb (by simp [z]))).trans (hk b ob (fun z => hb (by simp [z])) (fun z => hb (by simp [z])) q)) hf (Nat.le_refl _) new
    refine ⟨.ref s.heap.objs.size, _, I1, rfl, ⟨_, x, rfl, I.hok.fresh (Nat.le_refl _), rfl, fun ys hy => by rw [I.tuple_inj hy hq]; exact hx⟩, ⟨⟨x2, ?_⟩, hit'.at fun o q => (sb.2 it (Ne.symm hne)).trans q, hne⟩, fun b hb => ?_⟩
    · have e1 : ((i + 1 : Nat) : Int) = (i : Int) + 1 := by omega
      rw [e1]; exact he'
    · have hb' : b < s.heap.objs.size := by
        have e' : b = e ∨ b = it := by simpa using hb
        rcases e' with z | z
        · rw [z]; exact hel
        · rw [z]; exact hil
      rw [upd_ne (Nat.ne_of_lt hb')]
      exact (hf b hb).1
  done := by
    intro X hP hw hK hc i pins s σ H E I hf st hg
    subst hP hw hK
    obtain ⟨⟨old, he⟩, hit, hne⟩ := st
    obtain ⟨xs, hq, hx⟩ := hg
    obtain ⟨its, rv, p, hz⟩ := I.tuple hq
    obtain ⟨f0, f1, f2, f3, f4, f5⟩ := hf it (by simp)
    have hl := rv.length
    have pT : s.heap.IsTuple a its.toArray := p
    have hTy : s.TypeIs (.ref e) "enumerate" := ⟨_, he, rfl⟩
    unfold pyNext
    refine wpAny_bind (wpAny_attempt (wpAny_callSpecial?_slot (name := Str.ofString "__next__") hTy F.slot_enumerate_next
      (wpAny_call_entry F.slot_enumerate_next hTy F.entry_enumerate_next ?_ (F.args_enumerate_next_1 _))))
    show wpAny _ _ (field (.ref e) 2 >>= _) _ _ _
    refine wpAny_bind (wpAny_field he rfl (x := .ref it) rfl ?_)
    refine wpAny_bind (PySem.wpAny_nextOf_tuple_end (I.ok.hd hc) hit pT (by simp; omega) fun h' x he' hx' => ?_)
    obtain ⟨o, ho, hcc⟩ := hx'
    refine wpAny_bind (wpAny_isInstance (T := "StopIteration") (b := true) ⟨o, ho, hcc⟩ isSubtype_stop ?_)
    exact wpAny_pure ⟨rfl, I.turned (t' := s.toks) (fun b o hb q => he' b o hb q) f0 f1 f3 f4 f5⟩
  self := fun A i s Q E st h => let ⟨⟨_, he⟩, _⟩ := st; wpAny_pyIter_enum he h
def iEnumT (K : PySem.W.Frag) (ta : TA) : TI := fun σ H R => ta σ H fun vs H1 => ∃ a xs, vs = [.ref a] ∧ SqT K H1 a xs ∧ R (Itet K a) H1
theorem pi_enumT {X : Cx} {e : Expr} {ta : TA} {p pos tpos : Pos} {elts : List Expr} {kk : Nat} (hg : Gl X "enumerate") (hm : X.mg "enumerate" = none) (ha : PA X [e] ta) (hs : starEach [e] X.env = [(false, eval e X.env)] := by rfl) :
    PI X (.Tuple elts kk tpos) (.Call (.Name "enumerate" p) [e] [] pos) (iEnumT X.K ta) := by
  refine ⟨fun pins s σ H R I h => ?_⟩
  refine Call_ (ld_blt I hg hm boot_enumerate (PyProof.Rows.callWith_type1 (thn (ha.run pos pins s σ H _ I h) fun us s1 ⟨vs, H1, I1, r1, q1⟩ => ?_) hs rfl))
  obtain ⟨a, xs, ex, hq, q⟩ := q1
  subst ex
  cases r1 with
  | cons r rr =>
    cases rr
    cases r
    obtain ⟨its, rv, p', hz⟩ := I1.tuple hq
    have pT : s1.heap.IsTuple a its.toArray := p'
    have hal : a < s1.heap.objs.size := by obtain ⟨o, ho, _⟩ := pT; exact Heap.lt_size ho
    refine PySem.call_enumerate_tup pT fun h' he hit hsz hk => wpAny_pyIter_enum he ?_
    have I2 : Inv X pins σ H1 { s1 with heap := h' } := I1.kept (t' := s1.toks) hk
    refine ⟨s1.heap.objs.size + 1, [s1.heap.objs.size + 1, s1.heap.objs.size], _, _, H1, rfl, I2, turn_enumT a (s1.heap.objs.size + 1) s1.heap.objs.size (Nat.ne_of_lt hal) (by have := hal; exact Nat.ne_of_gt (Nat.lt_succ_of_lt hal)), ⟨⟨.none, he⟩, hit, Nat.succ_ne_self _⟩, fun b hb => ?_, q⟩
    have e' : b = s1.heap.objs.size + 1 ∨ b = s1.heap.objs.size := by simpa using hb
    have hle : s1.heap.objs.size ≤ b := by
      rcases e' with z | z
      · rw [z]; exact Nat.le_add_right _ _
      · rw [z]; exact Nat.le_refl _
    exact I1.fpOk hle (I1.hok.fresh hle)
end L2
namespace Y
open PySem PySem.Spec PyProof.Rows L2
section
variable {X : Cx} {B : Ent} {ok : OkX} {e : Expr} {fs : AF} {p pos tpos : Pos}
def seqOf : List PyData → Option (List PyData)
  | [.list ds] => some ds
  | [.tuple ds] => some ds
  | _ => none
def fEnum2 (fs : AF) : AF := fun ρ => (fs ρ).bind fun x => (ofO (seqOf x.1)).bind fun ds => .ok (enumD 0 ds, x.2)
/-- enumerate of a list or of a tuple -/
theorem ei_enum2 {elts : List Expr} {kk : Nat} (hm : X.mg "enumerate" = none) (h : EA X B ok [e] fs) (hg : Gl X "enumerate" := by rfl) (hs : starEach [e] X.env = [(false, eval e X.env)] := by rfl) : EI X B ok (.Tuple elts kk tpos) (.Call (.Name "enumerate" p) [e] [] pos) (fEnum2 fs) := by
  obtain ⟨t, pa, k⟩ := h.ex
  refine ⟨_, piOr (pi_enum hg hm pa hs) (pi_enumT hg hm pa hs), fun σ H G ρ W r q => ?_⟩
  have q := R.sat_bind (r := fs ρ) (f := fun x => (ofO (seqOf x.1)).bind fun ds => R.ok (enumD 0 ds, x.2)) q
  cases ef : fs ρ with
  | er c d => rw [ef] at q; exact .inl (k σ H G ρ _ r (by rw [ef]; exact q))
  | no => rw [ef] at q; exact q.elim
  | ok y =>
    rw [ef] at q
    obtain ⟨ds, ed, qd⟩ := ofO_sat (R.sat_bind (r := ofO (seqOf y.1)) (f := fun ds => R.ok (enumD 0 ds, y.2)) q)
    obtain ⟨xs0, ρ1⟩ := y
    unfold seqOf at ed
    split at ed
    · rename_i ds0 hx
      dsimp only at hx
      subst hx
      cases ed
      refine .inl (k σ H G ρ _ r ?_)
      rw [ef]
      intro vs H1 G1 s1 r1 t1
      cases t1 with | cons t0 tn =>
      cases tn
      cases t0 with | lst hr ta =>
      rename_i a xs
      refine ⟨a, xs, rfl, .inl (r1.subG.rd hr), qd _ H1 G1 s1 r1 ⟨fun i d G2 H2 hi s2 h2 => ?_, fun i G2 H2 hi s2 h2 => ?_⟩⟩
      · obtain ⟨d0, e0, rfl⟩ := enumD_get hi
        obtain ⟨v, ev, tv⟩ := ta.get e0
        have hL : SqL X.K H2 a xs := .inl ((sub_of h2).rd (s2.rd hr))
        refine ⟨⟨xs, v, hL, ev⟩, fun y H3 hy => ?_⟩
        obtain ⟨tt, z, rfl, hn, rfl, hz⟩ := hy
        have e2 := hz xs hL
        rw [ev] at e2; cases e2
        have g : Grow B.T [] G2 H2 (upd G2 tt (.tup [.int (i : Nat), v])) (upd H2 tt (.tup [.int (i : Nat), v])) := Grow.new h2 hn (fun _ z => nomatch z)
        refine ⟨_, g, .tup (.inl upd_same) (.cons ?_ (.cons ((tv.mono s2).mono g.gm) .nil))⟩
        rw [Nat.zero_add]
        exact .int _
      · rw [enumD_len] at hi
        exact ⟨xs, .inl ((sub_of h2).rd (s2.rd hr)), by rw [ta.length]; exact hi⟩
    · rename_i ds0 hx
      dsimp only at hx
      subst hx
      cases ed
      refine .inr (k σ H G ρ _ r ?_)
      rw [ef]
      intro vs H1 G1 s1 r1 t1
      cases t1 with | cons t0 tn =>
      cases tn
      cases t0 with | tup hr ta =>
      rename_i a xs
      refine ⟨a, xs, rfl, sqt (r1.subG.rd hr), qd _ H1 G1 s1 r1 ⟨fun i d G2 H2 hi s2 h2 => ?_, fun i G2 H2 hi s2 h2 => ?_⟩⟩
      · obtain ⟨d0, e0, rfl⟩ := enumD_get hi
        obtain ⟨v, ev, tv⟩ := ta.get e0
        have hL : SqT X.K H2 a xs := sqt ((sub_of h2).rd (s2.rd hr))
        refine ⟨⟨xs, v, hL, ev⟩, fun y H3 hy => ?_⟩
        obtain ⟨tt, z, rfl, hn, rfl, hz⟩ := hy
        have e2 := hz xs hL
        rw [ev] at e2; cases e2
        have g : Grow B.T [] G2 H2 (upd G2 tt (.tup [.int (i : Nat), v])) (upd H2 tt (.tup [.int (i : Nat), v])) := Grow.new h2 hn (fun _ z => nomatch z)
        refine ⟨_, g, .tup (.inl upd_same) (.cons ?_ (.cons ((tv.mono s2).mono g.gm) .nil))⟩
        rw [Nat.zero_add]
        exact .int _
      · rw [enumD_len] at hi
        exact ⟨xs, sqt ((sub_of h2).rd (s2.rd hr)), by rw [ta.length]; exact hi⟩
    · cases ed
end
end Y


/-! YTry: errors caught, held and read. -/
namespace L2
open PySem PySem.Spec PyProof.Rows
section
variable {X : Cx} {pins : List (Addr × Obj)} {σ : St} {H : Hp} {s : Shared}
/-- a caught exception is tracked from here on -/
theorem Inv.trackE {a dx : Addr} {cls : Value} {oe : Obj} {vs : Array Value} (I : Inv X pins σ H s) (e : s.heap.get? a = some oe) (z : Zc cls (some dx) oe) (d : oe.data = .fields vs) (h0 : X.s_0.heap.get? a = none ∨ a ∈ X.ex) (hn : H a = none) (nL : a ≠ X.env.locals)
    (np : ∀ p ∈ X.pn ++ pins, p.1 ≠ a) : Inv X pins σ (upd H a (Y.ExF a cls dx)) s where
  ok := I.ok
  os := I.os
  bare := I.bare
  base := ⟨I.base.keep, I.base.slot, fun b o q n hx => by
      have hne : b ≠ a := fun z => by
        rcases h0 with h0 | h0
        · rw [z, h0] at q; cases q
        · exact hx (z ▸ h0)
      rw [upd_ne hne]; exact I.base.free b o q n hx, I.base.there,
    fun b xs q => by rw [upd_ne (ne_of_none (I.base.tups b xs q) hn)]; exact I.base.tups b xs q, fun b o u q => by rw [upd_ne (ne_of_none (I.base.frzs b o u q) hn)]; exact I.base.frzs b o u q,
    fun b ps q => by
      obtain ⟨m, w⟩ := I.base.tbls b ps q
      exact ⟨m, by rw [upd_ne (ne_of_none w hn)]; exact w⟩⟩
  loc := I.loc
  cell := I.cell
  free := by rw [upd_ne (Ne.symm nL)]; exact I.free
  freeC := fun x c q => by
    have hc : c ≠ a := fun w => by
      obtain ⟨v, o, h1, h2⟩ := I.cell x c q
      rw [w, e] at h1; cases h1
      rw [d] at h2; cases h2
    rw [upd_ne hc]; exact I.freeC x c q
  pin := fun p hp => by
    obtain ⟨p1, p2, p3⟩ := I.pin p hp
    exact ⟨p1, by rw [upd_ne (np p hp)]; exact p2, p3⟩
  hok := I.hok.laidN (fun b u q => q) hn (Y.exF_ok e z d)
  len := I.len
theorem Inv.suiteT {pins : List (Addr × Obj)} {a : Addr} (I : Inv X pins σ H s) : Inv (X.suite a (X.pn ++ pins)) [] σ H s :=
  ⟨I.ok.suite _ _, I.os, I.bare, I.base, I.loc, I.cell, I.free, I.freeC, fun p hp => I.pin p (by simpa using hp), I.hok, I.len⟩
theorem Inv.unsuiteT {a : Addr} {pn' : List (Addr × Obj)} (I : Inv (X.suite a (X.pn ++ pins)) pn' σ H s) (ok : X.Ok) : Inv X pins σ H s :=
  ⟨ok, I.os, I.bare, I.base, I.loc, I.cell, I.free, I.freeC, fun p hp => I.pin p (List.mem_append_left _ hp), I.hok, I.len⟩
end
abbrev TSu := Addr → Value → Addr → TS
/-- the end of a suite: its name goes -/
def Ends.as (o : Option Nat) (D : Ends) : Ends := match o with
  | none => D
  | some i => { nx := fun σ' H' => D.nx (σ'.set i none) H', rt := D.rt, bk := fun σ' H' => D.bk (σ'.set i none) H', ct := fun σ' H' => D.ct (σ'.set i none) H' }
def asSt (o : Option Nat) (σ : St) (v : V) : St := match o with
  | none => σ
  | some i => σ.set i (some v)
/-- what the clauses wish of an exception of the body, one after the other -/
def wManyA (K : PySem.W.Frag) (Wout : WX) (D : Ends) : List (List Value × Option Nat × TSu) → WX
  | [] => Wout
  | (cs, oi, ts) :: r => fun cls d σ H => ∃ b, PySem.W.exmAny K cls cs = some b ∧ (b = true → ∃ dx, d = some dx ∧ ∀ a, H a = none → ts a cls dx (D.as oi) (asSt oi σ (.ref a)) (upd H a (Y.ExF a cls dx))) ∧ (b = false → wManyA K Wout D r cls d σ H)
/-- the name of a clause -/
def AsOk (X : Cx) : Option Str → Option Nat → Prop
  | none, none => True
  | some n, some i => X.N[i]? = some n ∧ X.env.kindOf n = some .local
  | _, _ => False
/-- what a clause names: one class, or some in a tuple -/
inductive TyE (X : Cx) : Expr → List Value → Prop
  | one {x : Str} {c : Value} {p : Pos} (h : Names X x c) : TyE X (.Name x p) [c]
  | two {x y : Str} {c d : Value} {p q pos : Pos} {k : Nat} (h : Names X x c) (h' : Names X y d) : TyE X (.Tuple [.Name x p, .Name y q] k pos) [c, d]
  | three {x y z : Str} {c d e : Value} {p q r pos : Pos} {k : Nat} (h : Names X x c) (h' : Names X y d) (h'' : Names X z e) : TyE X (.Tuple [.Name x p, .Name y q, .Name z r] k pos) [c, d, e]
theorem TyE.test {X : Cx} {te : Expr} {cs : List Value} {cls : Value} {b : Bool} {a : Addr} {pn : List (Addr × Obj)} {σ : St} {H : Hp} {s : Shared} {Q : Value → Shared → Prop} {E : Value → Shared → Prop} (t : TyE X te cs) (S : Inv (X.suite a pn) [] σ H s)
    (hx : PySem.W.exmAny X.K cls cs = some b) (KI : X.K.In s.heap) (LT : PySem.W.Looks (model X.prog X.w) s.heap (typeOf (.ref a)) cls)
    (k : ∀ c h', (∀ b o, s.heap.get? b = some o → h'.get? b = some o) → PySem.W.Looks (model X.prog X.w) h' (excMatches (.ref a) c) b → Q c { s with heap := h' }) :
    wpAny (model X.prog X.w) (X.A.mark (some (.ref a))) (eval te X.env) Q E s := by
  have nm : ∀ {x : Str} {c : Value} {np : Pos} {Q : Value → Shared → Prop}, Names X x c → Q c s → wpAny (model X.prog X.w) (X.A.mark (some (.ref a))) (eval (.Name x np) X.env) Q E s := fun {x c np Q} hc q => by
    obtain ⟨hg, hdbg, hm | ⟨hm, hv, hnn⟩⟩ := hc
    · exact ld_glob (X := X.suite a pn) S hg hm q hdbg
    · exact ld_blt (X := X.suite a pn) S hg hm hv q hnn hdbg
  cases t with
  | @one x c p h =>
    obtain ⟨b1, d1, x1, y1, z1⟩ := PySem.W.exmAny_cons hx
    have w1 : some false = some d1 := y1
    cases w1
    rw [Bool.or_false] at z1
    subst z1
    exact nm h (k _ s.heap (fun _ _ e => e) (PySem.W.exm_one KI LT x1))
  | @two x y c d p q pos k0 h h' =>
    refine Tuple_ (spliced_more (nm h (spliced_more (nm h' (spliced_none ?_)))))
    have kp : ∀ b o, s.heap.get? b = some o → (s.heap.push { cls := .type "tuple", data := .seq [c, d].toArray }).get? b = some o := fun b o e => Heap.get?_push_of_some _ e
    exact wpAny_newObj_type (k _ _ kp (PySem.W.exm_tup2 (KI.keeps kp) (LT.keeps kp) (Heap.get?_push_size _ rfl) hx))
  | @three x y z c d e p q r pos k0 h h' h'' =>
    refine Tuple_ (spliced_more (nm h (spliced_more (nm h' (spliced_more (nm h'' (spliced_none ?_)))))))
    have kp : ∀ b o, s.heap.get? b = some o → (s.heap.push { cls := .type "tuple", data := .seq [c, d, e].toArray }).get? b = some o := fun b o e0 => Heap.get?_push_of_some _ e0
    exact wpAny_newObj_type (k _ _ kp (PySem.W.exm_tup3 (KI.keeps kp) (LT.keeps kp) (Heap.get?_push_size _ rfl) hx))
theorem flyingZ_keeps {B h h' : Heap} {l : List Env} {e : Addr} {Z : Obj → Prop} (R : HandSPX.FlyingZ B l e Z h) (k : ∀ b o, h.get? b = some o → h'.get? b = some o) : HandSPX.FlyingZ B l e Z h' := by
  obtain ⟨f1, f2, f3, oe, vs, T, oT, ts, he, hz, hd, h1, hn, hne, hT, hdT, h3⟩ := R
  exact ⟨fun b o q => k b o (f1 b o q), f2, f3.of_keeps fun b o q _ => ⟨o, k b o q, rfl⟩, oe, vs, T, oT, ts, k _ _ he, hz, hd, h1, hn, hne, k _ _ hT, hdT, h3⟩
inductive HdsA (X : Cx) : List ExceptHandler → List (List Value × Option Nat × TSu) → Prop
  | nil : HdsA X [] []
  | cons {te : Expr} {n : Option Str} {cs : List Value} {oi : Option Nat} {ts : TSu} {b₀ : Stmt} {suite : List Stmt} {pos' : Pos} {hds : List ExceptHandler} {l : List (List Value × Option Nat × TSu)} (hc : TyE X te cs) (hn : AsOk X n oi)
      (hsu : ∀ (a : Addr) (cls : Value) (dx : Addr) (pn : List (Addr × Obj)), PSs (X.suite a pn) (b₀ :: suite) (ts a cls dx)) (r : HdsA X hds l) :
      HdsA X (.ExceptHandler (some te) n (b₀ :: suite) pos' :: hds) ((cs, oi, ts) :: l)
section
variable {X : Cx} {body : List Stmt} {h₀ : ExceptHandler} {hds : List ExceptHandler} {l : List (List Value × Option Nat × TSu)} {pos : Pos} {tb : WX → TS} {Wout : WX}
theorem ps_try_manyA (hs : X.stack = X.env :: X.outer) (hf : X.env.frame = some X.env.locals) (hN : X.N.Nodup) (tk : Takes X Wout)
    (hb : ∀ (W : WX) (pn : List (Addr × Obj)) (xe : Value → Shared → Prop), Takes (X.tr pn xe) W → PassesOwn (model X.prog X.w) X.A X.env xe → PSs (X.tr pn xe) body (tb W))
    (hh : HdsA X (h₀ :: hds) l) : PS X (.Try body (h₀ :: hds) [] [] pos) (fun D σ H => tb (wManyA X.K Wout D l) D σ H) := by
  refine ⟨fun pins s σ H D I h => ?_⟩
  have ok := I.ok
  have hfr : X.A.frames = some (X.env :: X.outer) := by rw [ok.frames, hs]
  refine wpAny_Try_except ?_
  refine wpAny_mono ((hb (wManyA X.K Wout D l) (X.pn ++ pins) (fun u s₁ => wpAny (model X.prog X.w) X.A (noteFrame u X.env) (fun _ s₂ => wpAny (model X.prog X.w) X.A (setFlight u none) (fun _ s₃ =>
    wpAny (model X.prog X.w) X.A (handleBy u X.env (h₀ :: hds)) (SP X pins D) X.xe s₃) X.xe s₂) X.xe s₁) (fun u s' xx => ?_) PassesOwn.looking).run [] s σ H D (I.toTry _) h) (fun f s1 hsp => ?_) (fun e s1 he => he)
  · -- one is caught
    obtain ⟨a, Bh, sI, pins', σ', H', cls, d, rfl, J', nb, up, sky, na, os, ag, w⟩ := xx
    have J : Inv X pins σ' H' sI := J'.ofTry ok
    have sky' : Sky Bh (X.env :: X.outer) a (Zc cls d) X.env.locals s'.heap := by rw [← hs]; exact sky
    show wpAny (model X.prog X.w) X.A (noteFrame (.ref a) X.env) _ _ _
    refine Sky.land Zc.steady hfr hf sky' fun h3 fl3 up3 => ?_
    have go : ∀ {hds' : List ExceptHandler} {l' : List (List Value × Option Nat × TSu)}, HdsA X hds' l' → ∀ h3, HandSPX.FlyingZ Bh (X.env :: X.outer) a (Zc cls d) h3 → s'.heap.UpToSlots h3 → wManyA X.K Wout D l' cls d σ' H' →
        wpAny (model X.prog X.w) X.A (handleBy (.ref a) X.env hds') (SP X pins D) X.xe { s' with heap := h3 } := by
      intro hds' l' hk
      induction hk with
      | nil =>
        intro h3 fl3 up3 w
        refine wpAny_handleBy_nil ?_
        obtain ⟨k1, k2, k3, oe, vs, T, oT, ts', he, hz, hd, h1, hr⟩ := id fl3
        unfold PySem.passOn
        refine wpAny_bind (wpAny_field he hd h1 ?_)
        rw [if_neg (show ¬ ((Value.ref T == Value.none) = true) from by simp)]
        have fin : wpAny (model X.prog X.w) X.A (setFlight (.ref a) X.env.frame) (fun _ s4 => wpAny (model X.prog X.w) X.A (throw (.ref a) : Sem Flow) (SP X pins D) X.xe s4) X.xe { s' with heap := h3 } := by
          rw [hf]
          refine HandSPX.setFlight_upZ fl3 fun h4 hh4 up4 => wpAny_throw (tk _ _ ?_)
          exact ⟨a, Bh, sI, pins, σ', H', cls, d, rfl, J, nb, (up.trans up3).trans up4, .inr (.inr (by rw [hs]; exact hh4)), na, os, ag, w⟩
        first
          | exact wpAny_bind (wpAny_pure (wpAny_bind fin))
          | exact wpAny_bind fin
      | @cons te n cs oi ts b₀ suite pos' hds2 l2 hc hn hsu r ih =>
        intro h0 fl0 up0 w
        obtain ⟨b, hb1, hyes, hno⟩ := w
        refine wpAny_handleBy_cons (codeAny_handlers_test ?_) (by intro q; cases q)
        have J0 : Inv X pins σ' H' { s' with heap := h0 } := J.landed nb fl0.1 (up.trans up0) os ag
        obtain ⟨oe0, vs0, he0, hz0, hd0⟩ := fl0.there
        have nfr0 : a ∉ frs (X.env :: X.outer) := fun hm => by
          obtain ⟨_, o', e', hnf⟩ := (fl0.2.2.1).mem hm
          rw [he0] at e'; cases e'
          exact hnf _ hd0
        have nL0 : a ≠ X.env.locals := fun z => nfr0 (List.mem_filterMap.mpr ⟨X.env, List.mem_cons_self, by rw [hf, z]⟩)
        have nF0 : a ∉ X.fs := fun hm => by
          obtain ⟨e, he, q⟩ := List.mem_filterMap.mp hm
          exact nfr0 (List.mem_filterMap.mpr ⟨e, List.mem_cons_of_mem _ he, q⟩)
        have S0 := J0.suite he0 hd0 na nL0 nF0
        have LT : PySem.W.Looks (model X.prog X.w) h0 (typeOf (.ref a)) cls := fun A Q E s k q => wpAny_typeOf_ref (k _ _ he0) (by rw [hz0.1]; exact q)
        refine hc.test (cls := cls) (b := b) S0 hb1 J0.kIn LT fun cv h3 kp LM => ?_
        have fl3 := flyingZ_keeps fl0 kp
        have up3 : s'.heap.UpToSlots h3 := up0.trans (Heap.UpToSlots.of_keeps kp)
        have J3 : Inv X pins σ' H' { s' with heap := h3 } := J.landed nb fl3.1 (up.trans up3) os ag
        obtain ⟨oe3, vs3, he3, hz3, hd3⟩ := fl3.there
        have nfr : a ∉ frs (X.env :: X.outer) := fun hm => by
          obtain ⟨_, o', e', hnf⟩ := (fl3.2.2.1).mem hm
          rw [he3] at e'; cases e'
          exact hnf _ hd3
        have nL : a ≠ X.env.locals := fun z => nfr (List.mem_filterMap.mpr ⟨X.env, List.mem_cons_self, by rw [hf, z]⟩)
        have nF : a ∉ X.fs := fun hm => by
          obtain ⟨e, he, q⟩ := List.mem_filterMap.mp hm
          exact nfr (List.mem_filterMap.mpr ⟨e, List.mem_cons_of_mem _ he, q⟩)
        -- it is a new one
        have nI : sI.heap.get? a = none := by
          cases q : sI.heap.get? a with
          | none => rfl
          | some o =>
            have z := nb a o q (by rw [hs]; exact nfr)
            rw [fl3.2.1] at z; cases z
        have S3 := J3.suite he3 hd3 na nL nF
        refine LM.here ?_
        cases b with
        | true =>
          obtain ⟨dx, rfl, go2⟩ := hyes rfl
          -- the suite's state: the exception is tracked
          have suite_at : ∀ h4, HandSPX.FlyingZ Bh (X.env :: X.outer) a (Zc cls (some dx)) h4 → ({ s' with heap := h3 } : Shared).heap.UpToSlots h4 → Inv (X.suite a (X.pn ++ pins)) [] σ' (upd H' a (Y.ExF a cls dx)) { s' with heap := h4 } := fun h4 fl4 up4 => by
            have J4 : Inv X pins σ' H' { s' with heap := h4 } := J.landed nb fl4.1 ((up.trans up3).trans up4) os ag
            obtain ⟨oe4, vs4, he4, hz4, hd4⟩ := fl4.there
            have n0 : X.s_0.heap.get? a = none ∨ a ∈ X.ex := by
              cases q : X.s_0.heap.get? a with
              | none => exact .inl rfl
              | some o =>
                by_cases hx : a ∈ X.ex
                · exact .inr hx
                · obtain ⟨o', z⟩ := J.base.there a o q hx
                  rw [nI] at z; cases z
            exact (J4.trackE he4 hz4 hd4 n0 na nL fun p hp z => by
              obtain ⟨p1, _⟩ := J.pin p hp
              rw [z, nI] at p1; cases p1).suiteT
          cases n with
          | none =>
            cases oi with
            | some i => exact hn.elim
            | none =>
            refine codeAny_handlers_suite ?_
            refine HandSPX.lands_againZ fl3 fun h4 fl4 up4 => ?_
            refine wpAny_mono ((hsu a cls dx (X.pn ++ pins)).run [] _ _ _ D (suite_at h4 fl4 up4) (go2 a na)) (fun f s6 hsp => ?_) (fun _ _ z => False.elim z)
            cases f with
            | next =>
              obtain ⟨σ6, H6, S6, q6⟩ := hsp
              exact ⟨_, _, S6.unsuiteT ok, q6⟩
            | brk =>
              obtain ⟨σ6, H6, S6, q6⟩ := hsp
              exact ⟨_, _, S6.unsuiteT ok, q6⟩
            | cont =>
              obtain ⟨σ6, H6, S6, q6⟩ := hsp
              exact ⟨_, _, S6.unsuiteT ok, q6⟩
            | ret u =>
              obtain ⟨v6, σ6, H6, S6, r6, q6⟩ := hsp
              exact ⟨_, _, _, S6.unsuiteT ok, r6, q6⟩
          | some n =>
            cases oi with
            | none => exact hn.elim
            | some i =>
            obtain ⟨hi, hln⟩ := hn
            refine codeAny_handlers_suite_as ?_
            refine HandSPX.lands_againZ fl3 fun h4 fl4 up4 => ?_
            refine store_ok (X := X.suite a (X.pn ++ pins)) (v := .ref a) (suite_at h4 fl4 up4) hN hi (.inl hln) rfl (fun s5 S5 => ?_) (.inr hln)
            refine wpAny_mono ((hsu a cls dx (X.pn ++ pins)).run [] s5 _ _ (D.as (some i)) S5 (go2 a na)) (fun f s6 hsp => ?_) (fun _ _ z => False.elim z)
            have end_ : ∀ {σ6 : St} {H6 : Hp} {Q : Shared → Prop}, Inv (X.suite a (X.pn ++ pins)) [] σ6 H6 s6 → (∀ s7, Inv X pins (σ6.set i none) H6 s7 → Q s7) →
                wpAny (model X.prog X.w) X.A (do bindName X.env n .none; unbindBehindTheSuite X.env n pos') (fun _ s7 => Q s7) X.xe s6 := fun {σ6 H6 Q} S6 hq => gone_ok (S6.unsuiteT ok) hN hi hln hq
            cases f with
            | next =>
              obtain ⟨σ6, H6, S6, q6⟩ := hsp
              exact end_ S6 fun s7 J7 => ⟨_, _, J7, q6⟩
            | brk =>
              obtain ⟨σ6, H6, S6, q6⟩ := hsp
              exact end_ S6 fun s7 J7 => ⟨_, _, J7, q6⟩
            | cont =>
              obtain ⟨σ6, H6, S6, q6⟩ := hsp
              exact end_ S6 fun s7 J7 => ⟨_, _, J7, q6⟩
            | ret u =>
              obtain ⟨v6, σ6, H6, S6, r6, q6⟩ := hsp
              exact end_ S6 fun s7 J7 => ⟨_, _, _, J7, r6, q6⟩
        | false =>
          show wpAny _ X.A (handleBy (.ref a) X.env hds2) _ _ _
          exact ih h3 fl3 up3 (hno rfl)
    exact go hh h3 fl3 up3 w
  · cases f with
    | next =>
      obtain ⟨σ', H', J', q⟩ := hsp
      exact wpAny_execs_nil ⟨σ', H', J'.ofTry ok, q⟩
    | brk =>
      obtain ⟨σ', H', J', q⟩ := hsp
      exact ⟨σ', H', J'.ofTry ok, q⟩
    | cont =>
      obtain ⟨σ', H', J', q⟩ := hsp
      exact ⟨σ', H', J'.ofTry ok, q⟩
    | ret u =>
      obtain ⟨v, σ', H', J', r, q⟩ := hsp
      exact ⟨v, σ', H', J'.ofTry ok, r, q⟩
/-- err.f of a tracked exception -/
def tXfT (K : PySem.W.Frag) (f : Str) (te : TE) : TE := fun σ H Q => te σ H fun x H1 => ∃ (a C dx : Addr) (fs : List (Str × V)) (v : V), x = .ref a ∧ H1 a = some (Y.ExF a (.ref C) dx) ∧ XfC K C ∧ PySem.W.findIn K (.ref C) f = some none ∧ H1 dx = some (.xd fs) ∧ fs.lookup f = some v ∧ Q v H1
theorem pe_xfT {e : Expr} {te : TE} {n : Str} (he : PE X e te) (hb : attributeBase e n X.env (eval e X.env) = eval e X.env := by rfl) : PE X (.Attribute e n pos) (tXfT X.K n te) := by
  refine ⟨fun pins s σ H Q I h => ?_⟩
  refine attr_of hb (thn (he.run pins s σ H _ I h) fun u s1 ⟨x, H1, I1, rx, a, C, dx, fs, v, ex, ha, T, hno, hx, l, q⟩ => ?_)
  subst ex
  obtain rfl : u = Value.ref a := rx
  obtain ⟨⟨oe, vs, ho, hz, hd⟩, _⟩ := (show ObjOk X.prog X.w H1 s1.heap a (Y.ExF a (.ref C) dx) from I1.hok a _ ha)
  obtain ⟨mA, hns, hr⟩ := (show ObjOk X.prog X.w H1 s1.heap dx (.xd fs) from I1.hok dx _ hx)
  obtain ⟨od, hod, hl⟩ := lookIn_ns hns
  obtain ⟨u, hu, ru⟩ := RelO.some_of (v := v) (o := mA n) (by rw [← l]; exact hr n)
  have J : PySem.W.InstAt s1.heap a oe C (some od) := ⟨ho, hz.1, by unfold PySem.W.notCls; rw [hd] <;> rfl, by rw [hz.2]; exact hod⟩
  exact HandSPX.exc_get I1.kIn J T.ga T.gg T.exC (PySem.W.findObj_own T.hdC hno rfl (by rw [hl, hu])) (handed_of ru) ⟨v, H1, I1.tok _, ru, q⟩
end
end L2


/-! YRaise: own error classes over any of some built-in ones are made and raised. -/
namespace PySem
namespace YEX
open PySem.W PySem.Calls PyProof.Rows PySem.HandSPX
open Builtin Builtin.ObjectAttr
/-- a built-in base, as far as it is needed -/
structure BaseT (T newId initId : String) (tl : List Value) : Prop where
  F : ExcBaseFacts T newId initId tl
  pass : ∀ self, refuseLoop self "__setattr__" tl = pure ()
  obj : tl.contains (.type "object") = true
  ne : tl ≠ []
  nr : ∀ c r, tl ≠ .ref c :: r
  typ : typeOf (.type T) = pure (.type "type")
  stub : Manifest.isStub T = false
  hand : PySem.W.handedIn (.builtin initId) = true
theorem base_VE : BaseT "ValueError" "ValueError.__new__" "ValueError.__init__" [.type "ValueError", .type "Exception", .type "BaseException", .type "object"] :=
  ⟨F.excBase_ValueError, fun self => by kernel_rfl, by decide +kernel, by decide, fun _ _ => by simp, by kernel_rfl, by decide +kernel, by decide +kernel⟩
theorem base_OE : BaseT "OverflowError" "OverflowError.__new__" "OverflowError.__init__" [.type "OverflowError", .type "ArithmeticError", .type "Exception", .type "BaseException", .type "object"] :=
  ⟨F.excBase_OverflowError, fun self => by kernel_rfl, by decide +kernel, by decide, fun _ _ => by simp, by kernel_rfl, by decide +kernel, by decide +kernel⟩
theorem base_LE : BaseT "LookupError" "LookupError.__new__" "LookupError.__init__" [.type "LookupError", .type "Exception", .type "BaseException", .type "object"] :=
  ⟨F.excBase_LookupError, fun self => by kernel_rfl, by decide +kernel, by decide, fun _ _ => by simp, by kernel_rfl, by decide +kernel, by decide +kernel⟩
/-- some own classes, then the base's line -/
inductive RefsT (tl : List Value) : List Value → Prop
  | here : RefsT tl tl
  | more {c : Addr} {l : List Value} : RefsT tl l → RefsT tl (.ref c :: l)
section
variable {T newId initId : String} {tl : List Value}
theorem RefsT.pass {l : List Value} (b : BaseT T newId initId tl) (self : Value) (r : RefsT tl l) : refuseLoop self "__setattr__" l = pure () := by
  induction r with
  | here => exact b.pass self
  | more _ ih => rw [refuseLoop_ref]; exact ih
theorem RefsT.has {l : List Value} (r : RefsT tl l) (Y : String) : l.contains (.type Y) = tl.contains (.type Y) := by
  induction r with
  | here => rfl
  | more _ ih => rw [List.contains_cons, ih]; rfl
theorem RefsT.ne {l : List Value} (b : BaseT T newId initId tl) (r : RefsT tl l) : l.isEmpty = false := by
  cases r with
  | here => cases h : tl with
    | nil => exact absurd h b.ne
    | cons _ _ => rfl
  | more _ => rfl
variable {prog : Program} {w : World} {R : Result → Shared → Prop} {hp : Heap} {g : Array GenState} {d : Drawn} {t : Nat} {os : OsState} {A : Around}
/-- the first field of an error that has no dict as yet -/
theorem osaT {K : W.Frag} {name : Str} {tk : Tok} {v : Value} {x C : Addr} {fv : Array Value} {cd : ClassData} (b : BaseT T newId initId tl)
    (X : K.In hp) (hx : hp.get? x = some { cls := .ref C, data := .fields fv }) (hcd : W.clsIn K C = some cd) (hm : RefsT tl cd.mro) (hh : cd.hasDict = true) (ha : W.findIn K (.ref C) name = some none)
    (hq : ∀ h' tk' dx, (∀ b o, b ≠ x → hp.get? b = some o → h'.get? b = some o) → hp.objs.size ≤ dx → dx ≠ x → h'.get? x = some { cls := .ref C, dict := some dx, data := .fields fv } →
      h'.Ns1 dx (fun y => if y = name then some v else none) → R (.ok (.ret .none)) ⟨h', g, d, tk', os⟩) :
    codeAny (model prog w) A (.call (.builtin "object.__setattr__") ⟨[.ref x, .str name tk, v], []⟩) R ⟨hp, g, d, t, os⟩ := by
  have I : W.InstAt hp x { cls := .ref C, data := .fields fv } C none := ⟨hx, rfl, rfl, trivial⟩
  have SF := F.store_object
  have hob : cd.mro.contains (.type "object") = true := (hm.has "object").trans b.obj
  have hxs : x ≠ hp.objs.size := Nat.ne_of_lt (Heap.lt_size hx)
  have sub : W.Looks (model prog w) hp (isInstance (.ref x) (.type "object")) true := I.type.andThen (W.looks_mroIn X (by unfold W.mroIn; rw [hcd, Option.bind_some, if_neg (by rw [hm.ne b]; decide), hob]))
  refine codeAny_call_builtin SF.slot.plain SF.entry (@W.check_slot (model prog w) _ _ ⟨hp, g, d, t, os⟩ "object.__setattr__" "object" "__setattr__" (.ref x) [.str name tk, v] [] _ SF.kind SF.split sub (SF.args (.ref x) (.str name tk) v) ?_)
  have hmr : W.Looks (model prog w) hp (mroOf (.ref C)) cd.mro := (W.looks_clsIn X hcd).andThen .now
  have L3 : W.Looks (model prog w) hp (storeTaker? none) none := .now
  have hcls : W.Looks (model prog w) hp (classData C) cd := W.looks_clsIn X hcd
  rw [W.osa_eq, refuse_eq]
  refine wpAny_bind (wpAny_bind (I.type.at (wpAny_bind (hmr.at ?_))))
  rw [hm.pass b]
  refine wpAny_pure (wpAny_bind (I.type.at (wpAny_bind ((W.looks_findIn X ha).at (wpAny_bind (L3.at ?_))))))
  show wpAny _ _ (storeInOwnDict (.ref x) (.ref C) (.str name tk) name v false) _ _ _
  obtain ⟨nm, bs, mro, ns, qn, hd, sn, sb, ab, col, del⟩ := cd
  dsimp only at hh
  subst hh
  unfold storeInOwnDict ownDictForStores
  repeat (first | with_reducible refine store_in_new ?_ ?_ | with_reducible refine wpAny_loadPart_at hx ?_ | with_reducible refine hcls.at ?_ | wp_step)
  · exact ⟨_, #[], _, (Heap.get?_update_ne _ _ _ _ hxs.symm).trans (Heap.get?_push_at rfl rfl), rfl, fun e he => absurd he (by simp), fun _ => rfl⟩
  · intro h' tk' hn' hs
    have hx₁ : (hp.push { cls := .type "dict", data := .dict #[] }).get? x = some { cls := .ref C, data := .fields fv } := Heap.get?_push_of_some _ hx
    refine hq h' tk' hp.objs.size (fun b o hb ho => ?_) (Nat.le_refl _) hxs.symm ?_ hn'
    · exact (hs.2 b (Nat.ne_of_lt (Heap.lt_size ho))).trans ((Heap.get?_update_ne _ _ _ _ hb).trans (Heap.get?_push_of_some _ ho))
    · exact (hs.2 x hxs).trans (Heap.get?_update_self _ hx₁ rfl)
end
end YEX
end PySem
namespace L2
open PySem PySem.Spec PyProof.Rows YEX
/-- what the written part says of an own error class over the base T -/
structure OexT (T newId initId : String) (tl : List Value) (K : PySem.W.Frag) (C : Addr) : Prop where
  cls : ∃ nm q N bs bm sn sub ab col dd k0 k1 k2 k3 k5, K.lookup C = some (excClassObj nm q C N bs bm true sn sub ab col dd k0 k1 k2 k3 k5 newId) ∧ RefsT tl bm
  sa : PySem.W.findIn K (.ref C) "__setattr__" = some (some (.builtin "object.__setattr__"))
  exC : PySem.W.subIn K (.ref C) (.type "BaseException") = some true
  tyC : PySem.W.typeIn K (.ref C) = some (.type "type")
  kC : PySem.W.keepIn K (.ref C) = true
section
variable {T newId initId : String} {tl : List Value} {X : Cx} {pins : List (Addr × Obj)} {σ : St} {H : Hp} {s : Shared} {a C dx : Addr} {f : Str} {y : V} {u : Value} {fs : List (Str × V)} {E : Value → Shared → Prop} {A : Around}
/-- self.f = y, the first one -/
theorem ost_newT {Q : Unit → Shared → Prop} (b : BaseT T newId initId tl) (O : OexT T newId initId tl X.K C) (I : Inv X pins σ H s) (e : H a = some (exo a C none)) (hno : PySem.W.findIn X.K (.ref C) f = some none) (ry : RelV y u)
    (h : ∀ dx s', H dx = none → dx ≠ a → Inv X pins σ (upd (upd H dx (exd dx [(f, y)])) a (exo a C (some dx))) s' → Q () s') : wpAny (model X.prog X.w) A (setAttr (.ref a) f u) Q E s := by
  obtain ⟨nm, q, N, bs, bm, sn, sub, ab, col, dd, k0, k1, k2, k3, k5, hC, hbm⟩ := O.cls
  have hcl : PySem.W.clsIn X.K C = some { name := nm, bases := bs, mro := .ref C :: bm, ns := N, qualname := q, hasDict := true, slotNames := sn, subclasses := sub, abstract := ab, collection := col, hasDel := false } := by unfold PySem.W.clsIn; rw [hC] <;> rfl
  obtain ⟨t1, ho⟩ := exo_at I.hok e
  obtain ⟨hp, g, d, t, os⟩ := s
  refine PySem.W.set_plain I.kIn (ox := { cls := .ref C, dict := none, data := .fields #[.ref t1, .none, .none, .none, .bool false, .none] }) (od := none) ⟨ho, rfl, rfl, trivial⟩ O.sa ?_
  refine osaT b I.kIn ho hcl (RefsT.more hbm) rfl hno (fun h' tk' dx k dn dne hx hn => ?_)
  have hnd : H dx = none := I.hok.fresh dn
  have nd : ∀ {b : Addr} {o : Obj}, hp.get? b = some o → b ≠ dx := fun {b o} q => Nat.ne_of_lt (Nat.lt_of_lt_of_le (Heap.lt_size q) dn)
  have na : ∀ {b : Addr}, H b = none → b ≠ a := fun {b} n z => by
    rw [z, e] at n
    cases n
  have Un1 : Un X.fs [] H (upd (upd H dx (exd dx [(f, y)])) a (exo a C (some dx))) hp h' := {
    keep := fun b o q n _ _ => k b o (na n) q
    slot := fun b o q n _ _ => ⟨o.slots, k b o (na n) q⟩
    free := fun b o q n _ => by rw [upd_ne (na n), upd_ne (nd q)]; exact n
    there := fun b o q _ => by
      by_cases hb : b = a
      · exact ⟨_, by rw [hb]; exact hx⟩
      · exact ⟨o, k b o hb q⟩
    tups := fun b xs q => by rw [upd_ne (at_ne e q exo_tup), upd_ne (ne_of_none q hnd)]; exact q
    frzs := fun b o v q => by rw [upd_ne (at_ne e q exo_frz), upd_ne (ne_of_none q hnd)]; exact q
    tbls := fun b ps q => ⟨#[], by rw [upd_ne (at_ne e q exo_tbl), upd_ne (ne_of_none q hnd), q]; simp⟩ }
  refine h dx _ hnd dne (I.un (t' := tk') Un1 fun b o q => ?_)
  by_cases hb : b = a
  · subst hb
    rw [upd_same] at q
    cases q
    exact exo_ok hx
  · rw [upd_ne hb] at q
    by_cases hd : b = dx
    · subst hd
      rw [upd_same] at q
      cases q
      exact exd_ok hn (relO_put (fs := []) ry fun g => True.intro)
    · rw [upd_ne hd] at q
      refine (I.hok b o q).stay (fun c v hc z => k c v ?_ z) (fun c hc => ?_) fun c xs hc => ?_
      · rcases hc with hc | hc
        · rw [hc]; exact hb
        · exact at_ne e hc exo_own
      · rw [upd_ne (at_ne e hc exo_own), upd_ne (ne_of_none hc hnd)]; exact hc
      · rw [upd_ne (at_ne e hc exo_tup), upd_ne (ne_of_none hc hnd)]; exact hc
/-- the base's __init__(self, ..): nothing of it is told -/
theorem oinitT {us : List Value} {Q : Value → Shared → Prop} (b : BaseT T newId initId tl) (O : OexT T newId initId tl X.K C) (I : Inv X pins σ H s) (e : H a = some (exo a C none)) (hl : us.length ≤ sizeLine) (h : ∀ s', Inv X pins σ H s' → Q .none s') :
    wpAny (model X.prog X.w) A (call (.builtin initId) (.ref a :: us)) Q E s := by
  obtain ⟨nm, q, N, bs, bm, sn, sub, ab, col, dd, k0, k1, k2, k3, k5, hC, hbm⟩ := O.cls
  obtain ⟨t1, ho⟩ := exo_at I.hok e
  obtain ⟨hp, g, d, t, os⟩ := s
  refine wpAny_call (PySem.HandSPX.init_base b.F (fun Y => hbm.has Y) (I.kIn _ _ hC) ho hl fun h' t2 k hx => ?_)
  have J := I.write (t' := t) (x := a) (e := a) (o := exo a C none) (by rw [e]; exact True.intro) (.inl rfl) k ⟨_, hx⟩ (exo_ok hx)
  rw [show upd H a (exo a C none) = H from Y.upd_id e] at J
  exact h _ J
end
/-- what is told of the base's name in the call of its __init__: a built-in one, or an own class over it -/
inductive InitName (X : Cx) (x : Str) (initId : String) : Prop
  | blt {T : String} (hg : Gl X x) (hm : X.mg x = none) (hv : bootBuiltins x = some (.type T)) (hn : x ≠ "__name__") (hdb : (x == ("__debug__" : Str)) = false) (ty : typeOf (.type T) = pure (.type "type")) (st : Manifest.isStub T = false)
      (fd : PySem.W.findCls X.K (.type T) (.type "type") "__init__" = some (.val (.builtin initId))) (hh : PySem.W.handedIn (.builtin initId) = true)
  | own {C : Addr} (hg : Gl X x) (hm : X.mg x = some (.ref C)) (hdb : (x == ("__debug__" : Str)) = false) (sp : PySem.W.specialIn X.K (.ref C) "__getattribute__" = some (some (.builtin "type.__getattribute__")))
      (rd : PySem.W.readsIn X.K C (.type "type") = true) (fd : PySem.W.findCls X.K (.ref C) (.type "type") "__init__" = some (.val (.builtin initId))) (hh : PySem.W.handedIn (.builtin initId) = true)
def tIni (T newId initId : String) (tl : List Value) (K : PySem.W.Frag) (ta : TA) : TE := fun σ H Q => ta σ H fun vs H1 => ∃ (a C : Addr) (ws : List V), vs = .ref a :: ws ∧ ws.length ≤ 1000 ∧ OexT T newId initId tl K C ∧ H1 a = some (exo a C none) ∧ Q .non H1
section
variable {T newId initId : String} {tl : List Value} {X : Cx} {o e : Expr} {es : List Expr} {to te : TE} {ta : TA} {f x : Str} {p p' p1 p2 pos : Pos}
theorem pe_ini {pl : Sem Bool} (b : BaseT T newId initId tl) (N : InitName X x initId) (ha : PA X (e :: es) ta)
    (hc : eval (.Call (.Attribute (.Name x p1) "__init__" p2) (e :: es) [] pos) X.env = (do
      let ov ← eval (.Name x p1) X.env
      standAt p2.atName
      let (f, first) ← holding [ov] (getMethod ov "__init__" pl)
      callWith pos f first (backTo pos (starEach (e :: es) X.env)) (backToKw pos (keywordEach [] X.env))) := by rfl)
    (he : starEach (e :: es) X.env = (false, eval e X.env) :: starEach es X.env := by rfl) (hpl : (backTo pos (starEach es X.env)).any (·.1) = false := by rfl) :
    PE X (.Call (.Attribute (.Name x p1) "__init__" p2) (e :: es) [] pos) (tIni T newId initId tl X.K ta) := by
  refine ⟨fun pins s σ H Q I h => ?_⟩
  have fin : ∀ s, Inv X pins σ H s → wpAny (model X.prog X.w) X.A (callWith pos (Value.builtin initId) [] (backTo pos (starEach (e :: es) X.env)) []) (EP X pins σ Q) X.xe s := fun s I => by
    refine PyProof.Rows.callWith_method1 (thn (ha.run pos pins _ σ H _ I h) fun us s1 ⟨vs, H1, I1, r1, a, C, ws, ev, hl, O, ea, q⟩ => ?_) he hpl
    subst ev
    cases r1 with
    | @cons _ u0 _ ur ra rw' =>
      obtain rfl : u0 = Value.ref a := ra
      have hlen : ur.length ≤ sizeLine := by
        rw [← Paired.length rw', sizeLine_eq]
        omega
      exact oinitT b O I1 ea hlen fun s' J => ⟨.non, H1, J, rfl, q⟩
  rcases N with ⟨hg, hm, hv, hn, hdb, ty, st, fd, hh⟩ | ⟨hg, hm, hdb, sp, rd, fd, hh⟩
  · refine PySem.W.methodCall_KW (ld_blt I hg hm hv ?_ hn hdb) hc
    obtain ⟨m, fr⟩ := I.fr
    refine PySem.W.method_type fr I.ok.mod.kin ty st fd hh ?_
    exact fin _ (I.tok _)
  · refine PySem.W.methodCall_KW (ld_glob I hg hm ?_ hdb) hc
    refine PySem.W.method_cls I.kIn sp (PySem.W.cls_value I.kIn rd fd hh ?_)
    exact fin _ (I.tok _)
def tOstT (T newId initId : String) (tl : List Value) (K : PySem.W.Frag) (f : Str) (to te : TE) : TS := fun D σ H => te σ H fun y H1 => to σ H1 fun x H2 => ∃ a C : Addr, x = .ref a ∧ OexT T newId initId tl K C ∧ PySem.W.findIn K (.ref C) f = some none ∧
  H2 a = some (exo a C none) ∧ ∀ dx, H2 dx = none → dx ≠ a → D.nx σ (upd (upd H2 dx (exd dx [(f, y)])) a (exo a C (some dx)))
theorem ps_ostT (b : BaseT T newId initId tl) (ho : PE X o to) (he : PE X e te) (hs : swapsWith e (some (.Attribute o f p')) pos.line X.env = pure false := by rfl) : PS X (.Assign [.Attribute o f p'] e pos) (tOstT T newId initId tl X.K f to te) := by
  refine ⟨fun pins s σ H D I h => ?_⟩
  refine plainObj_wpAny_Assign_Attribute (thn (he.run pins s σ H _ I h) fun v s1 ⟨y, H1, I1, r1, q1⟩ => thn (ho.run pins s1 σ H1 _ I1 q1) fun u s2 ⟨x, H2, I2, r2, a, C, ex, O, hno, ea, q⟩ => ?_) hs
  subst ex
  obtain rfl : u = Value.ref a := r2
  exact ost_newT b O I2 ea hno r1 fun dx s' n ne J => ⟨σ, _, J, q dx n ne⟩
/-- what an error's own __init__ keeps: the one field is set -/
def spI (T newId initId : String) (tl : List Value) (K : PySem.W.Frag) (f : Str) : Sp := fun vs H Q _ => ∃ (a C : Addr) (v : V), vs = [.ref a, v] ∧ OexT T newId initId tl K C ∧ PySem.W.findIn K (.ref C) f = some none ∧ H a = some (exo a C none) ∧
  ∀ dx, H dx = none → dx ≠ a → Q .non (upd (upd H dx (exd dx [(f, v)])) a (exo a C (some dx)))
theorem init_ps {c : Const} {pl : Sem Bool} {kk : Nat} {p3 p4 p5 p6 p7 q1 q2 : Pos} {H : Hp} {vs : List V} {Q : VK} {E : XK} (b : BaseT T newId initId tl) (N : InitName X x initId) (hN : X.N = [Str.ofString "self", f]) (hc : ∃ s, c = .str s)
    (hv0 : Vis X.env.scope "self") (hv1 : Vis X.env.scope f) (hd : (f == ("__debug__" : Str)) = false) (hd2 : (f == ("__classdict__" : Str)) = false) (sp : spI T newId initId tl X.K f vs H Q E)
    (hc1 : eval (.Call (.Attribute (.Name x p1) "__init__" p2) [.Name "self" p3, .Constant c kk p4] [] pos) X.env = (do
      let ov ← eval (.Name x p1) X.env
      standAt p2.atName
      let (f, first) ← holding [ov] (getMethod ov "__init__" pl)
      callWith pos f first (backTo pos (starEach [.Name "self" p3, .Constant c kk p4] X.env)) (backToKw pos (keywordEach [] X.env))))
    (h1 : starEach [.Name "self" p3, .Constant c kk p4] X.env = (false, eval (.Name "self" p3) X.env) :: starEach [.Constant c kk p4] X.env) (h2 : starEach [.Constant c kk p4] X.env = (false, eval (.Constant c kk p4) X.env) :: starEach [] X.env)
    (hpl : (backTo pos (starEach [.Constant c kk p4] X.env)).any (·.1) = false)
    (hs1 : swapsWith (.Call (.Attribute (.Name x p1) "__init__" p2) [.Name "self" p3, .Constant c kk p4] [] pos) none q1.line X.env = pure false) (hs2 : swapsWith (.Name f p7) (some (.Attribute (.Name "self" p5) f p6)) q2.line X.env = pure false) :
    ∃ t, PSs X [.Expr (.Call (.Attribute (.Name x p1) "__init__" p2) [.Name "self" p3, .Constant c kk p4] [] pos) q1, .Assign [.Attribute (.Name "self" p5) f p6] (.Name f p7) q2] t ∧
      t { nx := fun _ H' => Q .non H', rt := Q } (L2.start X.N vs) H := by
  obtain ⟨s0, rfl⟩ := hc
  obtain ⟨a, C, v, rfl, O, hno, ea, q⟩ := sp
  have n0 : X.N[0]? = some (Str.ofString "self") := by rw [hN]; rfl
  have n1 : X.N[1]? = some f := by rw [hN]; rfl
  have es : L2.start X.N [.ref a, v] = [some (.ref a), some v] := by rw [hN]; rfl
  refine ⟨_, pss_cons (ps_expr (pe_ini b N (pa_cons (pe_var n0 hv0 (by decide) (by decide)) (pa_cons pe_str pa_nil h2) h1) hc1 h1 hpl) hs1) (pss_one (ps_ostT b (pe_var n0 hv0 (by decide) (by decide)) (pe_var n1 hv1 hd hd2) hs2)), ?_⟩
  rw [es]
  refine ⟨_, rfl, a, C, [.str s0], rfl, by show 1 ≤ 1000; omega, O, ea, ?_⟩
  exact ⟨v, rfl, _, rfl, a, C, rfl, O, hno, ea, q⟩
end
end L2
namespace Y
open PySem PySem.Spec PyProof.Rows L2 YEX
section
variable {T newId initId : String} {tl : List Value} {X : Cx} {B : Ent} {ok : OkX} {cls : Clss} {e : Expr} {te : TE} {f : EF} {x : Str} {fl : Str} {p pos pos2 : Pos} {k j : Nat}
/-- C(e), C's own __init__ setting the one field -/
def tMkI (C : Addr) (fl : Str) (te : TE) : St → Hp → XK → Prop := fun σ H Q => te σ H fun v H1 => ∀ dx, H1 dx = none → Q (.ref C) (some dx) (upd H1 dx (.xd [(fl, v)]))
theorem pmk_G {C fI : Addr} {fd : FuncData} {ps : List Str} (b : BaseT T newId initId tl) (O : OexT T newId initId tl X.K C) (hno : PySem.W.findIn X.K (.ref C) fl = some none) (iC : PySem.W.findIn X.K (.ref C) "__init__" = some (some (.ref fI))) (tI : PySem.W.typeIn X.K (.ref fI) = some (.type "function"))
    (F1 : FnG X.prog X.w X.K X.mg X.base k fI fd ps (spI T newId initId tl X.K fl)) (hr : Room (k + 1) X.A) (hG : X.A.guards = some []) (hb : Binds X.K fd ps []) (hx : Passes (L2.CX X.prog X.w) X (fun _ _ _ => False)) (hg : Gl X x) (hm : X.mg x = some (.ref C)) (he0 : PE X e te)
    (hdb : (x == ("__debug__" : Str)) = false := by decide) (he : starEach [e] X.env = (false, eval e X.env) :: starEach [] X.env := by rfl) (hpl : (backTo pos (starEach [] X.env)).any (·.1) = false := by rfl) :
    PMk X (.Call (.Name x p) [e] [] pos) (tMkI C fl te) := by
  intro pins s σ H Q I h
  obtain ⟨nm, q, N, bs, bm, sn, sub, ab, col, dd, k0, k1, k2, k3, k5, hC, hbm⟩ := O.cls
  refine wpAny_Call_Name_kw (ld_glob I hg hm ?_ hdb)
  have ha := pa_cons he0 pa_nil he
  refine PySem.W.callWith_K (h₀ := X.base) I.ok.mod.kin O.kC (thn (ha.run pos pins s σ H (fun vs H1 => match vs with
    | [v] => ∀ dx, H1 dx = none → Q (.ref C) (some dx) (upd H1 dx (.xd [(fl, v)]))
    | _ => False) I h) fun us s1 ⟨vs, H1, I1, r1, q1⟩ => ⟨I1.kIn, ?_⟩) he hpl
  obtain ⟨v, rfl, q1⟩ : ∃ v, vs = [v] ∧ ∀ dx, H1 dx = none → Q (.ref C) (some dx) (upd H1 dx (.xd [(fl, v)])) := by
    match vs, q1 with
    | [v], q1 => exact ⟨v, rfl, q1⟩
  show wpAny _ _ (call (.ref C) us) _ _ _
  obtain ⟨hp, g, dr, tk, os⟩ := s1
  have hsz : hp.objs.size ≤ hp.objs.size + 1 := Nat.le_succ _
  have hn : H1 (hp.objs.size + 1) = none := I1.hok.fresh hsz
  have kk : ∀ b o, hp.get? b = some o → ((hp.push (PySem.W.kdv_tup us)).push (PySem.HandSPX.excO C hp.objs.size)).get? b = some o := fun b o e => Heap.get?_push_of_some _ (Heap.get?_push_of_some _ e)
  have hget : ((hp.push (PySem.W.kdv_tup us)).push (PySem.HandSPX.excO C hp.objs.size)).get? (hp.objs.size + 1) = some (PySem.HandSPX.excO C hp.objs.size) := by heap_get
  have I2 : Inv X pins σ (upd H1 (hp.objs.size + 1) (exo (hp.objs.size + 1) C none)) ⟨(hp.push (PySem.W.kdv_tup us)).push (PySem.HandSPX.excO C hp.objs.size), g, dr, tk, os⟩ :=
    I1.laid (t' := tk) (a := hp.objs.size + 1) (o := exo (hp.objs.size + 1) C none) (h' := (hp.push (PySem.W.kdv_tup us)).push (PySem.HandSPX.excO C hp.objs.size)) kk hsz (exo_ok hget)
  have r2 : Vals [V.ref (hp.objs.size + 1), v] (Value.ref (hp.objs.size + 1) :: us) := .cons rfl r1
  have hq : spI T newId initId tl X.K fl [V.ref (hp.objs.size + 1), v] (upd H1 (hp.objs.size + 1) (exo (hp.objs.size + 1) C none))
      (fun z H2 => z = .non ∧ ∃ dx, H1 dx = none ∧ dx ≠ hp.objs.size + 1 ∧ H2 = upd (upd (upd H1 (hp.objs.size + 1) (exo (hp.objs.size + 1) C none)) dx (exd dx [(fl, v)])) (hp.objs.size + 1) (exo (hp.objs.size + 1) C (some dx))) (fun _ _ _ => False) := by
    refine ⟨hp.objs.size + 1, C, v, rfl, O, hno, upd_same, fun dx hdx hne => ⟨rfl, dx, ?_, hne, rfl⟩⟩
    rw [upd_ne hne] at hdx
    exact hdx
  have hl : (Value.ref (hp.objs.size + 1) :: us ++ []).length = ps.length := by
    rw [List.append_nil, ← r2.length]
    exact F1.len _ _ _ _ hq
  have b2 := hb _ (Value.ref (hp.objs.size + 1) :: us) I2.kIn hl
  rw [List.append_nil] at b2
  have hus : us.length ≤ sizeLine := by
    rw [← Paired.length r1, sizeLine_eq]
    show 1 ≤ _
    omega
  refine wpAny_call (PySem.HandSPX.call_own b.F (fun Y => hbm.has Y) (I1.kIn _ _ hC) (PySem.W.looks_findIn I1.kIn iC) (fun self => PySem.W.bind_fn I1.kIn self tI) hus
    (codeAny_mono (F1.run _ X.stack _ _ ⟨Value.ref (hp.objs.size + 1) :: us, []⟩ (Value.ref (hp.objs.size + 1) :: us) _ _ (fun _ _ _ => False) (hr.make C us []) hG (I2.env0.make C us []) b2 r2 hq) fun r s' hq' => ?_))
  cases r with
  | error er => exact hx pins σ _ _ er s' I2 hq'
  | ok fl2 =>
    cases fl2 with
    | ret u =>
      obtain ⟨z, H2, os2, bare2, un2, hok2, rv, ez, dx, hd1, hne, rfl⟩ := hq'
      subst ez
      obtain ⟨h2, g2, d2, t2, os'⟩ := s'
      refine ⟨rv, mk_end (fs := [(fl, v)]) (d := dx) (raises_own O.exC O.tyC) I1 hsz kk un2 hok2 os2 bare2 upd_same ?_ hd1 ?_⟩
      · rw [upd_ne hne, upd_same]
      · have eH : upd (L2.del (upd (upd (upd H1 (hp.objs.size + 1) (exo (hp.objs.size + 1) C none)) dx (exd dx [(fl, v)])) (hp.objs.size + 1) (exo (hp.objs.size + 1) C (some dx))) (hp.objs.size + 1)) dx (.xd [(fl, v)]) = upd H1 dx (.xd [(fl, v)]) := by
          funext c
          by_cases h1 : c = dx
          · rw [h1, upd_same, upd_same]
          · rw [upd_ne h1, upd_ne h1]
            by_cases h2 : c = hp.objs.size + 1
            · rw [h2, del_same, hn]
            · rw [del_ne h2, upd_ne h2, upd_ne h1, upd_ne h2]
        rw [eH]
        exact q1 dx hd1
    | next => exact False.elim hq'
    | brk => exact False.elim hq'
    | cont => exact False.elim hq'
def sRaise (c : Str) (f : EF) : SF := fun ρ => ofR (f ρ) fun x => .er c x.1
/-- an error class that stands in the module -/
structure ErrC (P : Program) (w : World) (K : PySem.W.Frag) (mg : Str → Option Value) (base : Heap) (k : Nat) (c : Str) (C : Addr) : Prop where
  ex : ∃ (T newId initId : String) (tl : List Value) (fI : Addr) (fd : FuncData) (ps : List Str), BaseT T newId initId tl ∧ OexT T newId initId tl K C ∧ PySem.W.findIn K (.ref C) (fld c) = some none ∧ PySem.W.findIn K (.ref C) "__init__" = some (some (.ref fI)) ∧
    PySem.W.typeIn K (.ref fI) = some (.type "function") ∧ FnG P w K mg base k fI fd ps (spI T newId initId tl K (fld c)) ∧ Binds K fd ps []
  mg : mg c = some (.ref C)
theorem ss_raise {c : Str} {C : Addr} (cx : CtxE cls X B ok) (D : ErrC X.prog X.w X.K X.mg X.base k c C) (hcl : cls c = some C) (hr : Room j X.A) (he : EE X B ok e f) (hk : k + 1 ≤ j := by decide) (hg : Gl X c := by rfl)
    (hdb : (c == ("__debug__" : Str)) = false := by decide) (hs : starEach [e] X.env = (false, eval e X.env) :: starEach [] X.env := by rfl) (hpl : (backTo pos (starEach [] X.env)).any (·.1) = false := by rfl) :
    SS X B ok (.Raise (some (.Call (.Name c p) [e] [] pos)) none pos2) (sRaise c f) := by
  obtain ⟨E, tk, good⟩ := cx.exc
  obtain ⟨T, newId, initId, tl, fI, fd, ps, b, O, hno, iC, tI, F1, hb⟩ := D.ex
  obtain ⟨t, pe, ke⟩ := he.ex
  refine ⟨_, ps_raise cx.calm tk (pmk_G b O hno iC tI F1 (hr.mono hk) cx.gd hb (passes_call tk fun _ _ _ _ h => h.elim) hg D.mg pe hdb hs hpl), fun σ H G ρ D r q => ?_⟩
  refine ke σ H G ρ _ r ((ofR_sat q).imp fun y qy v H1 G1 s1 r1 t1 dx hdx => ?_)
  refine good c y.1 qy C hcl v dx _ G1 (r1.bd.trans ?_) t1 ?_ upd_same
  · exact Grow.newO r1.sub hdx
  · cases e : B.H dx with
    | none => rfl
    | some u => exact absurd hdx (r1.bd.hs dx (by rw [e]; simp))
end
end Y


/-! YErr: try statements by data; an error's field. -/
namespace Y
open PySem PySem.Spec PyProof.Rows L2
/-- the slots where a suite begins -/
def begAs (oi : Option Nat) (n : Nat) (c : Str) (d : PyData) : En := match oi with
  | none => List.replicate n .un
  | some i => (List.replicate n .un).set i (.sh (excD c d))
def endAs (oi : Option Nat) (o : Out) : Out := match oi with
  | none => o
  | some i => match o with
    | .nx ρ => .nx (ρ.set i .un)
    | .bk ρ => .bk (ρ.set i .un)
    | .ct ρ => .ct (ρ.set i .un)
    | o => o
def noEr : Out → Out
  | .er _ _ => .no
  | o => o
abbrev Cla := Str × Option Nat × SF
def sSuites (sub : Str → Str → Bool) (n : Nat) (c : Str) (d : PyData) : List Cla → Out
  | [] => .er c d
  | (x, oi, g) :: r => if sub c x = true then endAs oi (noEr (g (begAs oi n c d))) else sSuites sub n c d r
def sTry (sub : Str → Str → Bool) (n : Nat) (gb : SF) (cl : List Cla) : SF := fun ρ => match gb ρ with
  | .er c d => sSuites sub n c d cl
  | o => o
/-- the clauses of a try statement -/
inductive CL (X : Cx) (B : Ent) (cls : Clss) (sub : Str → Str → Bool) : List ExceptHandler → List Cla → Prop
  | nil : CL X B cls sub [] []
  | cons {x : Str} {n : Option Str} {cv : Value} {oi : Option Nat} {g : SF} {b₀ : Stmt} {suite : List Stmt} {np pos' : Pos} {hds : List ExceptHandler} {l : List Cla} (hc : Names X x cv) (hs : ∀ c C, cls c = some C → PySem.W.exmOne X.K (.ref C) cv = some (sub c x)) (hn : AsOk X n oi)
      (hsu : ∀ (a : Addr) (pn : List (Addr × Obj)), SB (X.suite a pn) B noX (b₀ :: suite) g) (r : CL X B cls sub hds l) : CL X B cls sub (.ExceptHandler (some (.Name x np)) n (b₀ :: suite) pos' :: hds) ((x, oi, g) :: l)
  | cons2 {x y : Str} {n : Option Str} {cv dv : Value} {oi : Option Nat} {g : SF} {b₀ : Stmt} {suite : List Stmt} {p q pos pos' : Pos} {k : Nat} {hds : List ExceptHandler} {l : List Cla} (hc : Names X x cv) (hd : Names X y dv) (hs : ∀ c C, cls c = some C → PySem.W.exmOne X.K (.ref C) cv = some (sub c x)) (hs2 : ∀ c C, cls c = some C → PySem.W.exmOne X.K (.ref C) dv = some (sub c y)) (hn : AsOk X n oi)
      (hsu : ∀ (a : Addr) (pn : List (Addr × Obj)), SB (X.suite a pn) B noX (b₀ :: suite) g) (r : CL X B cls sub hds l) : CL X B cls sub (.ExceptHandler (some (.Tuple [.Name x p, .Name y q] k pos)) n (b₀ :: suite) pos' :: hds) ((x, oi, g) :: (y, oi, g) :: l)
  | cons3 {x y z : Str} {n : Option Str} {cv dv ev : Value} {oi : Option Nat} {g : SF} {b₀ : Stmt} {suite : List Stmt} {p q r' pos pos' : Pos} {k : Nat} {hds : List ExceptHandler} {l : List Cla} (hc : Names X x cv) (hd : Names X y dv) (he : Names X z ev) (hs : ∀ c C, cls c = some C → PySem.W.exmOne X.K (.ref C) cv = some (sub c x)) (hs2 : ∀ c C, cls c = some C → PySem.W.exmOne X.K (.ref C) dv = some (sub c y)) (hs3 : ∀ c C, cls c = some C → PySem.W.exmOne X.K (.ref C) ev = some (sub c z)) (hn : AsOk X n oi)
      (hsu : ∀ (a : Addr) (pn : List (Addr × Obj)), SB (X.suite a pn) B noX (b₀ :: suite) g) (r : CL X B cls sub hds l) : CL X B cls sub (.ExceptHandler (some (.Tuple [.Name x p, .Name y q, .Name z r'] k pos)) n (b₀ :: suite) pos' :: hds) ((x, oi, g) :: (y, oi, g) :: (z, oi, g) :: l)
theorem exmAny1 {K : PySem.W.Frag} {cls c : Value} {b : Bool} (h : PySem.W.exmOne K cls c = some b) : PySem.W.exmAny K cls [c] = some b := by
  unfold PySem.W.exmAny; rw [h]; show some (b || false) = _; rw [Bool.or_false]
theorem exmAnyC {K : PySem.W.Frag} {cls c : Value} {cs : List Value} {b d : Bool} (h : PySem.W.exmOne K cls c = some b) (h' : PySem.W.exmAny K cls cs = some d) : PySem.W.exmAny K cls (c :: cs) = some (b || d) := by
  rw [PySem.W.exmAny, h, h']
theorem Takes.len {X : Cx} {W : WX} (t : Takes X W) : Takes X (fun c d σ H => σ.length = X.N.length → W c d σ H) := fun u s' ⟨a, B, sI, pins, σ, H, cls, d, e, I, nb, up, sky, na, os, ag, w⟩ =>
  t u s' ⟨a, B, sI, pins, σ, H, cls, d, e, I, nb, up, sky, na, os, ag, w I.len⟩
section
variable {X : Cx} {B : Ent} {ok : OkX} {cls : Clss} {sub : Str → Str → Bool} {e : Expr} {f : EF} {pos : Pos}
theorem PSs.mono {st : List Stmt} {t t' : TS} (h : PSs X st t) (k : ∀ D σ H, t' D σ H → t D σ H) : PSs X st t' := ⟨fun pins s σ H D I q => h.run pins s σ H D I (k D σ H q)⟩
/-- the slots of a suite stand so -/
theorem rel_beg {K : PySem.W.Frag} {G' H' : Hp} {σ : St} {oi : Option Nat} {n : Nat} {a dx C : Addr} {c : Str} {d : PyData} {v : V} (g : Grow B.T B.io B.G B.H G' H') (hl : σ.length = n) (hC : clsOf K c = some C) (t : Tr K G' v d) (hdx : B.H dx = none) (hx : H' dx = some (.xd [(fld c, v)])) (na : H' a = none) (hne : a ≠ dx) :
    ∃ G2, Sub G' G2 ∧ Rel K B G2 (upd H' a (ExF a (.ref C) dx)) (asSt oi σ (.ref a)) (begAs oi n c d) := by
  have ga : G' a = none := none_of_sub g.sub na
  have ha : ∀ ps, ExF a (.ref C) dx ≠ .tbl ps := fun ps z => nomatch z
  -- its dict is frozen
  have dxG : ∃ G1, Sub G' G1 ∧ Grow B.T B.io B.G B.H G1 H' ∧ G1 dx = some (.xd [(fld c, v)]) ∧ G1 a = none := by
    cases e : G' dx with
    | some u =>
      have z := (g.sub dx u e).1
      rw [hx] at z; cases z
      exact ⟨G', Sub.refl _, g, e, ga⟩
    | none =>
      refine ⟨upd G' dx (.xd [(fld c, v)]), Sub.new e, ⟨Grow.freeze g.sub hx (fun ps z => nomatch z), g.gm.trans (Sub.new e), g.hm, g.hs, fun b hb h0 => ?_, g.tb⟩, upd_same, by rw [upd_ne hne]; exact ga⟩
      by_cases hb2 : b = dx
      · rw [hb2] at h0; exact absurd hdx h0
      · rw [upd_ne hb2] at hb; exact g.gn b hb h0
  obtain ⟨G1, s1, g1, x1, a1⟩ := dxG
  have gN : Grow B.T B.io G1 H' (upd G1 a (ExF a (.ref C) dx)) (upd H' a (ExF a (.ref C) dx)) := Grow.new g1.sub na ha
  have s2 : Sub G1 (upd G1 a (ExF a (.ref C) dx)) := Sub.new a1
  refine ⟨_, s1.trans s2, ?_⟩
  have r0 : Rel K B (upd G1 a (ExF a (.ref C) dx)) (upd H' a (ExF a (.ref C) dx)) σ (List.replicate n .un) := by
    refine ⟨g1.trans gN, by rw [hl]; simp, fun i s h => ?_, fun i j s u b _ h _ e _ => ?_⟩
    · have : s = .un := by
        rw [List.getElem?_replicate] at h
        split at h
        · cases h; rfl
        · cases h
      subst this
      trivial
    · have : s = .un := by
        rw [List.getElem?_replicate] at h
        split at h
        · cases h; rfl
        · cases h
      subst this
      exact e.elim
  cases oi with
  | none => exact r0
  | some i => exact r0.setSh (.exc upd_same hC (s2 _ _ x1) ((t.mono s1).mono s2))
theorem endAs_sat {K : PySem.W.Frag} {G : Hp} {D : Ends} {oi : Option Nat} {o : Out} (h : (endAs oi (noEr o)).sat K B ok G D) : o.sat K B noX G (D.as oi) := by
  cases oi with
  | none =>
    cases o with
    | er c d => exact h.elim
    | _ => exact h
  | some i =>
    cases o with
    | nx ρ => exact fun σ H' G' s r => h (σ.set i none) H' G' s r.setUn
    | bk ρ => exact fun σ H' G' s r => h (σ.set i none) H' G' s r.setUn
    | ct ρ => exact fun σ H' G' s r => h (σ.set i none) H' G' s r.setUn
    | er c d => exact h.elim
    | rt d ρ => exact h
    | rn d ρ => exact h
    | no => exact h
/-- the suites' readings, for the hand layer -/
theorem cl_hds {hds : List ExceptHandler} {l : List Cla} (h : CL X B cls sub hds l) (hcl : ∀ c C, cls c = some C → clsOf X.K c = some C) :
    ∃ L : List (List Value × Option Nat × TSu), HdsA X hds L ∧ ∀ (c : Str) (d : PyData) (C : Addr) (v : V) (dx : Addr) (H' G' G0 : Hp) (σ : St) (D : Ends) (Wout : WX), cls c = some C → Grow B.T B.io B.G B.H G' H' → Sub G0 G' → Tr X.K G' v d → B.H dx = none → H' dx = some (.xd [(fld c, v)]) →
      σ.length = X.N.length → (sSuites sub X.N.length c d l).sat X.K B ok G0 D → (ok c d → Wout (.ref C) (some dx) σ H') → wManyA X.K Wout D L (.ref C) (some dx) σ H' := by
  induction h with
  | nil => exact ⟨[], .nil, fun c d C v dx H' G' G0 σ D Wout hc g sg t hdx hx hl q ho => ho q⟩
  | @cons x n cv oi g b₀ suite np pos' hds l hc hs hn hsu r ih =>
    obtain ⟨L, hL, kL⟩ := ih
    refine ⟨([cv], oi, fun a cl dx D σ H => ∃ (c : Str) (d : PyData) (G : Hp), Rel X.K B G H σ (begAs oi X.N.length c d) ∧ (g (begAs oi X.N.length c d)).sat X.K B noX G D) :: L, .cons (.one hc) hn (fun a cl dx pn => ?_) hL, fun c d C v dx H' G' G0 σ D Wout hcc gr sg t hdx hx hl q ho => ?_⟩
    · obtain ⟨t, p, k⟩ := (hsu a pn).ex
      exact PSs.mono p fun D σ H ⟨c, d, G, rl, q⟩ => k σ H G _ D rl q
    · refine ⟨sub c x, exmAny1 (hs c C hcc), fun hb => ⟨dx, rfl, fun a na => ?_⟩, fun hb => ?_⟩
      · unfold sSuites at q
        rw [if_pos hb] at q
        have hne : a ≠ dx := fun z => by rw [z, hx] at na; cases na
        obtain ⟨G2, s2, rl⟩ := rel_beg (oi := oi) gr hl (hcl c C hcc) t hdx hx na hne
        exact ⟨c, d, G2, rl, (endAs_sat q).sub (sg.trans s2)⟩
      · unfold sSuites at q
        rw [if_neg (by rw [hb]; simp)] at q
        exact kL c d C v dx H' G' G0 σ D Wout hcc gr sg t hdx hx hl q ho
  | @cons2 x y n cv dv oi g b₀ suite p q pos pos' k hds l hc hd hs hs2 hn hsu r ih =>
    obtain ⟨L, hL, kL⟩ := ih
    refine ⟨([cv, dv], oi, fun a cl dx D σ H => ∃ (c : Str) (d : PyData) (G : Hp), Rel X.K B G H σ (begAs oi X.N.length c d) ∧ (g (begAs oi X.N.length c d)).sat X.K B noX G D) :: L, .cons (.two hc hd) hn (fun a cl dx pn => ?_) hL, fun c d C v dx H' G' G0 σ D Wout hcc gr sg t hdx hx hl q ho => ?_⟩
    · obtain ⟨t, p, k⟩ := (hsu a pn).ex
      exact PSs.mono p fun D σ H ⟨c, d, G, rl, q⟩ => k σ H G _ D rl q
    · have e : sSuites sub X.N.length c d ((x, oi, g) :: (y, oi, g) :: l) = if (sub c x || sub c y) = true then endAs oi (noEr (g (begAs oi X.N.length c d))) else sSuites sub X.N.length c d l := by
        simp only [sSuites]
        cases sub c x <;> cases sub c y <;> simp
      rw [e] at q
      refine ⟨(sub c x || sub c y), exmAnyC (hs c C hcc) (exmAny1 (hs2 c C hcc)), fun hb => ⟨dx, rfl, fun a na => ?_⟩, fun hb => ?_⟩
      · rw [if_pos hb] at q
        have hne : a ≠ dx := fun z => by rw [z, hx] at na; cases na
        obtain ⟨G2, s2, rl⟩ := rel_beg (oi := oi) gr hl (hcl c C hcc) t hdx hx na hne
        exact ⟨c, d, G2, rl, (endAs_sat q).sub (sg.trans s2)⟩
      · rw [if_neg (by rw [hb]; simp)] at q
        exact kL c d C v dx H' G' G0 σ D Wout hcc gr sg t hdx hx hl q ho
  | @cons3 x y z n cv dv ev oi g b₀ suite p q r0 pos pos' k hds l hc hd he hs hs2 hs3 hn hsu r ih =>
    obtain ⟨L, hL, kL⟩ := ih
    refine ⟨([cv, dv, ev], oi, fun a cl dx D σ H => ∃ (c : Str) (d : PyData) (G : Hp), Rel X.K B G H σ (begAs oi X.N.length c d) ∧ (g (begAs oi X.N.length c d)).sat X.K B noX G D) :: L, .cons (.three hc hd he) hn (fun a cl dx pn => ?_) hL, fun c d C v dx H' G' G0 σ D Wout hcc gr sg t hdx hx hl q ho => ?_⟩
    · obtain ⟨t, p, k⟩ := (hsu a pn).ex
      exact PSs.mono p fun D σ H ⟨c, d, G, rl, q⟩ => k σ H G _ D rl q
    · have e : sSuites sub X.N.length c d ((x, oi, g) :: (y, oi, g) :: (z, oi, g) :: l) = if (sub c x || (sub c y || sub c z)) = true then endAs oi (noEr (g (begAs oi X.N.length c d))) else sSuites sub X.N.length c d l := by
        simp only [sSuites]
        cases sub c x <;> cases sub c y <;> cases sub c z <;> simp
      rw [e] at q
      refine ⟨(sub c x || (sub c y || sub c z)), exmAnyC (hs c C hcc) (exmAnyC (hs2 c C hcc) (exmAny1 (hs3 c C hcc))), fun hb => ⟨dx, rfl, fun a na => ?_⟩, fun hb => ?_⟩
      · rw [if_pos hb] at q
        have hne : a ≠ dx := fun z => by rw [z, hx] at na; cases na
        obtain ⟨G2, s2, rl⟩ := rel_beg (oi := oi) gr hl (hcl c C hcc) t hdx hx na hne
        exact ⟨c, d, G2, rl, (endAs_sat q).sub (sg.trans s2)⟩
      · rw [if_neg (by rw [hb]; simp)] at q
        exact kL c d C v dx H' G' G0 σ D Wout hcc gr sg t hdx hx hl q ho
/-- the same entry, with all that is frozen by now -/
abbrev Ent.at (B : Ent) (F : Hp) : Ent := { B with G := F }
theorem Rel.up {K : PySem.W.Frag} {G H : Hp} {σ : St} {ρ : En} (r : Rel K B G H σ ρ) : Rel K (B.at G) G H σ ρ :=
  ⟨⟨r.bd.sub, Sub.refl G, r.bd.hm, r.bd.hs, fun _ e _ => e, r.bd.tb⟩, r.len, fun i s h => by
    have z := r.at_ i s h
    cases s <;> exact z, r.sep⟩
theorem Grow.down {T : YT} {io : List Addr} {G0 H0 G H G' H' : Hp} (a : Grow T io G0 H0 G H) (g : Grow T io G H0 G' H') : Grow T io G0 H0 G' H' :=
  ⟨g.sub, a.gm.trans g.gm, g.hm, g.hs, fun b e h => a.gn b (g.gn b e h) h, g.tb⟩
theorem Rel.down {K : PySem.W.Frag} {G H G' H' : Hp} {σ σ' : St} {ρ ρ' : En} (r : Rel K B G H σ ρ) (q : Rel K (B.at G) G' H' σ' ρ') : Rel K B G' H' σ' ρ' :=
  ⟨r.bd.down q.bd, q.len, fun i s h => by
    have z := q.at_ i s h
    cases s <;> exact z, q.sep⟩
theorem Fresh.down {K : PySem.W.Frag} {G G' H' : Hp} {σ' : St} {ρ' : En} {p : Addr} {d : PyData} (q : Fresh K (B.at G) G' H' σ' ρ' p d) : Fresh K B G' H' σ' ρ' p d := ⟨q.g, q.b, q.own, q.ap⟩
theorem sat_up {K : PySem.W.Frag} {G H : Hp} {σ : St} {ρ : En} {D : Ends} {o : Out} {ok' : OkX} (r : Rel K B G H σ ρ) (q : o.sat K B ok G D) (h : ∀ c d, o = .er c d → ok' c d) : o.sat K (B.at G) ok' G D := by
  cases o with
  | nx ρ => exact fun σ H' G' s' r' => q σ H' G' s' (r.down r')
  | rt d ρ => exact fun v σ H' G' s' r' => q v σ H' G' s' (r.down r')
  | rn d ρ => exact fun v σ H' G' s' r' x => q v σ H' G' s' (r.down r') x.down
  | bk ρ => exact fun σ H' G' s' r' => q σ H' G' s' (r.down r')
  | ct ρ => exact fun σ H' G' s' r' => q σ H' G' s' (r.down r')
  | er c d => exact h c d rfl
  | no => exact q
theorem ss_try {body : List Stmt} {h₀ : ExceptHandler} {hds : List ExceptHandler} {l : List Cla} {gb : SF} (cx : CtxOk cls X B ok) (hN : X.N.Nodup) (hb : ∀ (F : Hp) (pn : List (Addr × Obj)) (xe : Value → Shared → Prop) (okb : OkX), Sub B.G F → CtxOk cls (X.tr pn xe) (B.at F) okb → SB (X.tr pn xe) (B.at F) okb body gb)
    (hh : CL X B cls sub (h₀ :: hds) l) (hcl : ∀ c C, cls c = some C → clsOf X.K c = some C) (hs : X.stack = X.env :: X.outer := by rfl) (hf : X.env.frame = some X.env.locals := by rfl) :
    SS X B ok (.Try body (h₀ :: hds) [] [] pos) (sTry sub X.N.length gb l) := by
  obtain ⟨E, tk, good⟩ := cx.exc
  obtain ⟨L, hL, kL⟩ := cl_hds (ok := ok) hh hcl
  have hb2 : ∀ (W : WX) (pn : List (Addr × Obj)) (xe : Value → Shared → Prop), Takes (X.tr pn xe) W → PassesOwn (model X.prog X.w) X.A X.env xe →
      PSs (X.tr pn xe) body (fun D σ H => ∃ G ρ, Rel X.K B G H σ ρ ∧ (gb ρ).sat X.K (B.at G) (ErrOk X.K B.T cls B.io G B.H fun c d H => ∀ σ : St, σ.length = X.N.length → W c d σ H) G D) := fun W pn xe tkW ow => by
    refine ⟨fun pins s σ H D I ⟨G, ρ, rl, q⟩ => ?_⟩
    have cxb : CtxOk cls (X.tr pn xe) (B.at G) (ErrOk X.K B.T cls B.io G B.H fun c d H => ∀ σ : St, σ.length = X.N.length → W c d σ H) :=
      ⟨⟨cx.calm, ⟨cx.tabs.1, cx.tabs.2.mono rl.bd.gm⟩, cx.gd, _, (Takes.len tkW).imp fun c d σ H h hl => h σ hl, fun _ _ h => h⟩, ow⟩
    obtain ⟨t, p, k⟩ := (hb G pn xe _ rl.bd.gm cxb).ex
    exact p.run pins s σ H D I (k σ H G ρ D rl.up q)
  refine ⟨_, ps_try_manyA hs hf hN tk hb2 hL, fun σ H G ρ D r q => ?_⟩
  refine ⟨G, ρ, r, ?_⟩
  unfold sTry at q
  split at q
  · rename_i c d eg
    rw [eg]
    intro C hC v dx H' G' gr t hdx hx σ' hl
    exact kL c d C v dx H' G' G σ' D _ hC (r.bd.down gr) gr.gm t hdx hx hl q fun ho => good c d ho C hC v dx H' G' (r.bd.down gr) t hdx hx
  · rename_i hn
    refine sat_up (ok := ok) r ?_ (fun c d h => absurd h (hn c d))
    cases eg : gb ρ with
    | er c d => exact absurd eg (hn c d)
    | _ => rw [eg] at q; exact q
/-! ### an error's field -/
theorem trkv_none {K : PySem.W.Frag} {G : Hp} {d : PyData} {es l : List (PyData × PyData)} {kvs : List (Key × V)} (t : TrKV K G kvs l) (h : l = (.none, d) :: es) : False := by
  cases t with
  | nil => cases h
  | @cons k _ _ _ _ _ _ =>
    injection h with h1 _
    injection h1 with h2 _
    cases k <;> cases h2
def fXf (names : List Str) (n : Str) (f : EF) : EF := fun ρ => (f ρ).bind fun x => match x.1 with
  | .dict [(.none, .str c), (.none, d)] => if c ∈ names ∧ fld c = n then .ok (d, x.2) else .no
  | _ => .no
theorem ee_xf {names : List Str} {n : Str} (hC : ∀ c ∈ names, ∀ C, clsOf X.K c = some C → XfC X.K C ∧ PySem.W.findIn X.K (.ref C) (fld c) = some none) (h : EE X B ok e f) (hb : attributeBase e n X.env (eval e X.env) = eval e X.env := by rfl) : EE X B ok (.Attribute e n pos) (fXf names n f) := by
  obtain ⟨t, p, k⟩ := h.ex
  refine ⟨_, pe_xfT p hb, fun σ H G ρ Q r q => k σ H G ρ _ r ((R.sat_bind q).imp fun x qx v H1 G1 s1 r1 t1 => ?_)⟩
  split at qx
  · rename_i c d hx
    obtain ⟨⟨hc, hn⟩, qx⟩ := ite_sat qx
    rw [hx] at t1
    cases t1 with
    | dK h tk => exact (trkv_none tk rfl).elim
    | dX _ _ _ _ tk => cases tk with | cons _ _ hd _ _ _ => obtain ⟨_, z⟩ := hd; cases z
    | exc h1 h2 h3 h4 =>
      obtain ⟨z1, z2⟩ := hC c hc _ h2
      exact ⟨_, _, _, _, _, rfl, (r1.bd.sub _ _ h1).1, z1, hn ▸ z2, (r1.bd.sub _ _ h3).1, by rw [hn]; simp [List.lookup], qx _ H1 G1 s1 r1 h4⟩
  · exact qx.elim
end
end Y


/-! YTryK: try with one call as its body: the slots stand as they stood. -/
namespace Y
open PySem PySem.Spec PyProof.Rows L2
def begK (oi : Option Nat) (ρ : En) (c : Str) (d : PyData) : En := match oi with
  | none => ρ
  | some i => ρ.set i (.sh (excD c d))
def sSuitesK (sub : Str → Str → Bool) (ρ : En) (c : Str) (d : PyData) : List Cla → Out
  | [] => .er c d
  | (x, oi, g) :: r => if sub c x = true then endAs oi (noEr (g (begK oi ρ c d))) else sSuitesK sub ρ c d r
def sTryK (sub : Str → Str → Bool) (F : List PyData → R PyData) (fs : AF) (cl : List Cla) : SF := fun ρ => match fs ρ with
  | .ok y => (match F y.1 with
    | .ok _ => .nx y.2
    | .er c d => sSuitesK sub y.2 c d cl
    | .no => .no)
  | _ => .no
section
variable {X : Cx} {B : Ent} {ok : OkX} {cls : Clss} {sub : Str → Str → Bool} {e : Expr} {es : List Expr} {f : EF} {fs : AF} {pos p : Pos} {k j n : Nat} {x : Str}
theorem rel_begK {K : PySem.W.Frag} {Gc Hc G' H' : Hp} {σ : St} {ρ : En} {oi : Option Nat} {a dx C : Addr} {c : Str} {d : PyData} {v : V} (r : Rel K B Gc Hc σ ρ) (g : Grow B.T [] Gc Hc G' H') (hC : clsOf K c = some C) (t : Tr K G' v d) (hdx : Hc dx = none) (hx : H' dx = some (.xd [(fld c, v)])) (na : H' a = none) (hne : a ≠ dx) :
    ∃ G2, Sub G' G2 ∧ Rel K B G2 (upd H' a (ExF a (.ref C) dx)) (asSt oi σ (.ref a)) (begK oi ρ c d) := by
  have ga : G' a = none := none_of_sub g.sub na
  have ha : ∀ ps, ExF a (.ref C) dx ≠ .tbl ps := fun ps z => nomatch z
  have dxG : ∃ G1, Sub G' G1 ∧ Grow B.T [] Gc Hc G1 H' ∧ G1 dx = some (.xd [(fld c, v)]) ∧ G1 a = none := by
    cases e : G' dx with
    | some u =>
      have z := (g.sub dx u e).1
      rw [hx] at z; cases z
      exact ⟨G', Sub.refl _, g, e, ga⟩
    | none =>
      refine ⟨upd G' dx (.xd [(fld c, v)]), Sub.new e, ⟨Grow.freeze g.sub hx (fun ps z => nomatch z), g.gm.trans (Sub.new e), g.hm, g.hs, fun b hb h0 => ?_, g.tb⟩, upd_same, by rw [upd_ne hne]; exact ga⟩
      by_cases hb2 : b = dx
      · rw [hb2] at h0; exact absurd hdx h0
      · rw [upd_ne hb2] at hb; exact g.gn b hb h0
  obtain ⟨G1, s1, g1, x1, a1⟩ := dxG
  have gN : Grow B.T [] G1 H' (upd G1 a (ExF a (.ref C) dx)) (upd H' a (ExF a (.ref C) dx)) := Grow.new g1.sub na ha
  have s2 : Sub G1 (upd G1 a (ExF a (.ref C) dx)) := Sub.new a1
  refine ⟨_, s1.trans s2, ?_⟩
  have r0 := r.step (g1.trans gN)
  cases oi with
  | none => exact r0
  | some i => exact r0.setSh (.exc upd_same hC (s2 _ _ x1) ((t.mono s1).mono s2))
theorem cl_hdsK {hds : List ExceptHandler} {l : List Cla} (h : CL X B cls sub hds l) (hcl : ∀ c C, cls c = some C → clsOf X.K c = some C) :
    ∃ L : List (List Value × Option Nat × TSu), HdsA X hds L ∧ ∀ (c : Str) (d : PyData) (C : Addr) (v : V) (dx : Addr) (H' G' Gc Hc G0 : Hp) (σ : St) (ρ : En) (D : Ends) (Wout : WX), cls c = some C → Rel X.K B Gc Hc σ ρ → Grow B.T [] Gc Hc G' H' → Sub G0 G' → Tr X.K G' v d → Hc dx = none → H' dx = some (.xd [(fld c, v)]) →
      (sSuitesK sub ρ c d l).sat X.K B ok G0 D → (ok c d → Wout (.ref C) (some dx) σ H') → wManyA X.K Wout D L (.ref C) (some dx) σ H' := by
  induction h with
  | nil => exact ⟨[], .nil, fun c d C v dx H' G' Gc Hc G0 σ ρ D Wout hc r g sg t hdx hx q ho => ho q⟩
  | @cons x n cv oi g b₀ suite np pos' hds l hc hs hn hsu r ih =>
    obtain ⟨L, hL, kL⟩ := ih
    refine ⟨([cv], oi, fun a cl dx D σ H => ∃ (ρs : En) (G : Hp), Rel X.K B G H σ ρs ∧ (g ρs).sat X.K B noX G D) :: L, .cons (.one hc) hn (fun a cl dx pn => ?_) hL, fun c d C v dx H' G' Gc Hc G0 σ ρ D Wout hcc rl gr sg t hdx hx q ho => ?_⟩
    · obtain ⟨t, p, k⟩ := (hsu a pn).ex
      exact PSs.mono p fun D σ H ⟨ρs, G, rl, q⟩ => k σ H G _ D rl q
    · refine ⟨sub c x, exmAny1 (hs c C hcc), fun hb => ⟨dx, rfl, fun a na => ?_⟩, fun hb => ?_⟩
      · unfold sSuitesK at q
        rw [if_pos hb] at q
        have hne : a ≠ dx := fun z => by rw [z, hx] at na; cases na
        obtain ⟨G2, s2, rl2⟩ := rel_begK (oi := oi) rl gr (hcl c C hcc) t hdx hx na hne
        exact ⟨_, G2, rl2, (endAs_sat q).sub (sg.trans s2)⟩
      · unfold sSuitesK at q
        rw [if_neg (by rw [hb]; simp)] at q
        exact kL c d C v dx H' G' Gc Hc G0 σ ρ D Wout hcc rl gr sg t hdx hx q ho
  | @cons2 x y n cv dv oi g b₀ suite p q0 pos pos' k hds l hc hd hs hs2 hn hsu r ih =>
    obtain ⟨L, hL, kL⟩ := ih
    refine ⟨([cv, dv], oi, fun a cl dx D σ H => ∃ (ρs : En) (G : Hp), Rel X.K B G H σ ρs ∧ (g ρs).sat X.K B noX G D) :: L, .cons (.two hc hd) hn (fun a cl dx pn => ?_) hL, fun c d C v dx H' G' Gc Hc G0 σ ρ D Wout hcc rl gr sg t hdx hx q ho => ?_⟩
    · obtain ⟨t, p, k⟩ := (hsu a pn).ex
      exact PSs.mono p fun D σ H ⟨ρs, G, rl, q⟩ => k σ H G _ D rl q
    · have e : sSuitesK sub ρ c d ((x, oi, g) :: (y, oi, g) :: l) = if (sub c x || sub c y) = true then endAs oi (noEr (g (begK oi ρ c d))) else sSuitesK sub ρ c d l := by
        simp only [sSuitesK]
        cases sub c x <;> cases sub c y <;> simp
      rw [e] at q
      refine ⟨(sub c x || sub c y), exmAnyC (hs c C hcc) (exmAny1 (hs2 c C hcc)), fun hb => ⟨dx, rfl, fun a na => ?_⟩, fun hb => ?_⟩
      · rw [if_pos hb] at q
        have hne : a ≠ dx := fun z => by rw [z, hx] at na; cases na
        obtain ⟨G2, s2, rl2⟩ := rel_begK (oi := oi) rl gr (hcl c C hcc) t hdx hx na hne
        exact ⟨_, G2, rl2, (endAs_sat q).sub (sg.trans s2)⟩
      · rw [if_neg (by rw [hb]; simp)] at q
        exact kL c d C v dx H' G' Gc Hc G0 σ ρ D Wout hcc rl gr sg t hdx hx q ho
  | @cons3 x y z n cv dv ev oi g b₀ suite p q0 r0 pos pos' k hds l hc hd he hs hs2 hs3 hn hsu r ih =>
    obtain ⟨L, hL, kL⟩ := ih
    refine ⟨([cv, dv, ev], oi, fun a cl dx D σ H => ∃ (ρs : En) (G : Hp), Rel X.K B G H σ ρs ∧ (g ρs).sat X.K B noX G D) :: L, .cons (.three hc hd he) hn (fun a cl dx pn => ?_) hL, fun c d C v dx H' G' Gc Hc G0 σ ρ D Wout hcc rl gr sg t hdx hx q ho => ?_⟩
    · obtain ⟨t, p, k⟩ := (hsu a pn).ex
      exact PSs.mono p fun D σ H ⟨ρs, G, rl, q⟩ => k σ H G _ D rl q
    · have e : sSuitesK sub ρ c d ((x, oi, g) :: (y, oi, g) :: (z, oi, g) :: l) = if (sub c x || (sub c y || sub c z)) = true then endAs oi (noEr (g (begK oi ρ c d))) else sSuitesK sub ρ c d l := by
        simp only [sSuitesK]
        cases sub c x <;> cases sub c y <;> cases sub c z <;> simp
      rw [e] at q
      refine ⟨(sub c x || (sub c y || sub c z)), exmAnyC (hs c C hcc) (exmAnyC (hs2 c C hcc) (exmAny1 (hs3 c C hcc))), fun hb => ⟨dx, rfl, fun a na => ?_⟩, fun hb => ?_⟩
      · rw [if_pos hb] at q
        have hne : a ≠ dx := fun z => by rw [z, hx] at na; cases na
        obtain ⟨G2, s2, rl2⟩ := rel_begK (oi := oi) rl gr (hcl c C hcc) t hdx hx na hne
        exact ⟨_, G2, rl2, (endAs_sat q).sub (sg.trans s2)⟩
      · rw [if_neg (by rw [hb]; simp)] at q
        exact kL c d C v dx H' G' Gc Hc G0 σ ρ D Wout hcc rl gr sg t hdx hx q ho
/-- a call whose exceptions know the slots -/
theorem runGs {f : Addr} {fd : FuncData} {ps : List Str} {sp : Sp} {E : XK} {pins : List (Addr × Obj)} {σ : St} {H : Hp} {s : Shared} {Q : VK} {us : List Value} {vs : List V} (F : FnG X.prog X.w X.K X.mg X.base k f fd ps sp) (hr : Room k X.A) (hG : X.A.guards = some []) (hb : Binds X.K fd ps [])
    (I : Inv X pins σ H s) (hx : ∀ e s', L2.CX X.prog X.w X.stack H s E e s' → X.xe e s') (r : Vals vs us) (h : sp vs H Q E) : wpAny (model X.prog X.w) X.A (call (.ref f) us) (L2.EP X pins σ Q) X.xe s := by
  have hl : (us ++ []).length = ps.length := by
    rw [List.append_nil, ← r.length]
    exact F.len _ _ _ _ h
  have b := hb s us I.kIn hl
  rw [List.append_nil] at b
  have z := F.run X.A X.stack s H ⟨us, []⟩ us vs Q E hr hG I.env0 b r h
  refine wpAny_call (codeAny_mono z fun o s' q => ?_)
  match o, q with
  | .error e, q => exact hx e s' q
  | .ok (.ret u), q => exact I.after q
theorem pe_callGs {f : Addr} {fd : FuncData} {ps : List Str} {sp : Sp} {E : St → XK} {t : TA} (F : FnG X.prog X.w X.K X.mg X.base k f fd ps sp) (hr : Room k X.A) (hG : X.A.guards = some []) (hg : Gl X x) (hm : X.mg x = some (.ref f)) (hk : PySem.W.keepIn X.K (.ref f) = true) (hb : Binds X.K fd ps [])
    (hx : ∀ pins σ H s e s', Inv X pins σ H s → L2.CX X.prog X.w X.stack H s (E σ) e s' → X.xe e s')
    (ha : PA X (e :: es) t) (hdb : (x == ("__debug__" : Str)) = false) (he : starEach (e :: es) X.env = (false, eval e X.env) :: starEach es X.env) (hpl : (backTo pos (starEach es X.env)).any (·.1) = false) :
    PE X (.Call (.Name x p) (e :: es) [] pos) (fun σ H Q => t σ H fun vs H1 => sp vs H1 Q (E σ)) := by
  constructor
  intro pins s σ H Q I h
  have z := thn (ha.run pos pins s σ H _ I h) fun us s1 ⟨vs, H1, I1, r, q⟩ => (⟨I1.kIn, runGs F hr hG hb I1 (fun e s' c => hx pins σ H1 s1 e s' I1 c) r q⟩ : X.K.In s1.heap ∧ wpAny _ _ (call (.ref f) us) (L2.EP X pins σ Q) X.xe s1)
  exact wpAny_Call_Name_kw (ld_glob I hg hm (PySem.W.callWith_K (h₀ := X.base) I.ok.mod.kin hk z he hpl) hdb)
theorem ss_tryK {F : List PyData → R PyData} {h₀ : ExceptHandler} {hds : List ExceptHandler} {l : List Cla} {pos1 pos2 : Pos} (cx : CtxOk cls X B ok) (hN : X.N.Nodup) (C : Callee X.prog X.w X.K X.mg X.base k x n (spF X.K B.T cls n F)) (hr : Room j X.A)
    (ha : ∀ (pn : List (Addr × Obj)) (xe : Value → Shared → Prop), EA (X.tr pn xe) B noX (e :: es) fs)
    (hh : CL X B cls sub (h₀ :: hds) l) (hcl : ∀ c C, cls c = some C → clsOf X.K c = some C) (hk : k ≤ j := by decide) (hg : Gl X x := by rfl)
    (hdb : (x == ("__debug__" : Str)) = false := by decide) (he : starEach (e :: es) X.env = (false, eval e X.env) :: starEach es X.env := by rfl) (hpl : (backTo pos1 (starEach es X.env)).any (·.1) = false := by rfl)
    (hn : (e :: es).length = n := by rfl) (hsw : swapsWith (.Call (.Name x p) (e :: es) [] pos1) none pos2.line X.env = pure false := by rfl)
    (hs : X.stack = X.env :: X.outer := by rfl) (hf : X.env.frame = some X.env.locals := by rfl) :
    SS X B ok (.Try [.Expr (.Call (.Name x p) (e :: es) [] pos1) pos2] (h₀ :: hds) [] [] pos) (sTryK sub F fs l) := by
  have hT := cx.tabs
  obtain ⟨E, tk, good⟩ := cx.exc
  obtain ⟨L, hL, kL⟩ := cl_hdsK (ok := ok) hh hcl
  obtain ⟨f, fd, ps, FO, hm, hkp, hb, hps⟩ := C.ex
  have hb2 : ∀ (W : WX) (pn : List (Addr × Obj)) (xe : Value → Shared → Prop), Takes (X.tr pn xe) W → PassesOwn (model X.prog X.w) X.A X.env xe →
      PSs (X.tr pn xe) [.Expr (.Call (.Name x p) (e :: es) [] pos1) pos2] (fun D σ H => ∃ G ρ, Rel X.K B G H σ ρ ∧ (fs ρ).sat (fun y => (F y.1).sat (fun _ => ∀ H' G', Adv σ G H ρ G' H' y.2 → Rel X.K B G' H' σ y.2 → D.nx σ H')
        (fun c d => ∀ G1 H1, Adv σ G H ρ G1 H1 y.2 → Rel X.K B G1 H1 σ y.2 → ErrOk X.K B.T cls [] G1 H1 (fun c d H' => W c d σ H') c d)) noX) := fun W pn xe tkW ow => by
    obtain ⟨t, pa, ka⟩ := (ha pn xe).ex
    have hx : ∀ pins σ H s e s', Inv (X.tr pn xe) pins σ H s → L2.CX (X.tr pn xe).prog (X.tr pn xe).w (X.tr pn xe).stack H s ((fun (σ : St) (c : Value) (d : Option Addr) (H' : Hp) => W c d σ H') σ) e s' → (X.tr pn xe).xe e s' :=
      fun pins σ H s e s' I c => tkW e s' (XE.of_call I (fun cls d H' h => h) c)
    have p1 := pe_callGs (X := X.tr pn xe) (p := p) (pos := pos1) FO (hr.mono hk) cx.gd hg hm hkp hb hx pa hdb he hpl
    refine PSs.mono (pss_one (ps_expr p1 hsw)) fun D σ H ⟨G, ρ, rl, q⟩ => ?_
    refine ka σ H G ρ _ rl ?_
    cases ef : fs ρ with
    | er c d => rw [ef] at q; exact q
    | no => rw [ef] at q; exact q
    | ok y =>
      rw [ef] at q
      have hy := (ha pn xe).len ρ y ef
      intro vs H1 G1 s1 r1 t1
      refine ⟨G1, y.1, r1.sub, t1, by rw [hy, hn], r1.tabs hT, R.sat.imp2 q (fun d qd v H' G' g t => ?_) (fun c d hc => hc G1 H1 s1 r1)⟩
      exact qd H' G' (s1.trans (Adv.grow g)) (r1.step g)
  refine ⟨_, ps_try_manyA hs hf hN tk hb2 hL, fun σ H G ρ D r q => ?_⟩
  refine ⟨G, ρ, r, ?_⟩
  unfold sTryK at q
  cases ef : fs ρ with
  | er c d => rw [ef] at q; exact q.elim
  | no => rw [ef] at q; exact q.elim
  | ok y =>
    rw [ef] at q
    show (F y.1).sat _ _
    cases eF : F y.1 with
    | no => simp only [eF] at q; exact q.elim
    | ok d =>
      simp only [eF] at q
      intro H' G' s' r'
      exact q σ H' G' s'.sub r'
    | er c d =>
      simp only [eF] at q
      intro G1 H1 s1 r1 C hC v dx H' G' gr t hdx hx
      exact kL c d C v dx H' G' G1 H1 G σ y.2 D _ hC r1 gr (s1.sub.trans gr.gm) t hdx hx q fun ho => good c d ho C hC v dx H' G' (r1.bd.trans (gr.weak (by simp))) t (by
        cases e : B.H dx with
        | none => rfl
        | some u => exact absurd hdx (r1.bd.hs dx (by rw [e]; simp))) hx
end
end Y


/-! YLam: a lambda without parameters handed to a def, by data. -/
namespace Y
open PySem PySem.Spec PyProof.Rows L2 LamX
section
variable {X : Cx} {pins : List (Addr × Obj)} {σ : L2.St} {H HZ : Hp} {s s1 : Shared}
/-- x(), in the def that got the lambda: Z is that def's context, entered at s -/
theorem pe_actG {CXg : CXT} {Eg : XK} {Ng : List Str} {qg : Str} {sg : Scope} {g f c' : Addr} {cdg pm ctv : Value} {params : Arguments} {body : Expr} {scope : Scope} {k i : Nat} {a : Str} {pn : List (Addr × Obj)} {xe : Value → Shared → Prop} {W : WX} {E : XK} {tb : TE} {p1 p2 : Pos}
    (I : Inv X pins σ H s) (L : LamS X.env.scope scope) (hf : s.heap.get? f = some (PySem.W.kla_obj "<lambda>" (X.env.qual ++ "<lambda>") params body scope (cloFrom X.env.cells scope.names []) pm c' ctv)) (hfn : H f = none) (hfr : f ∉ frs X.stack)
    (hbind : bindArgs (PySem.W.kla_fn "<lambda>" (X.env.qual ++ "<lambda>") params body scope (cloFrom X.env.cells scope.names []) pm (.ref c') ctv) ⟨[], []⟩ = pure [])
    (tk : Takes ((cxOf CXg X.prog X.w X.K X.mg X.base Ng qg sg g cdg X.A X.stack s H Eg).tr pn xe) W) (hW : ∀ cls d σ' H', E cls d H' → W cls d σ' H') (hr : Room (k + 1) (X.A.deeper (envOfC qg sg s.heap.objs.size g cdg))) (hG : X.A.guards = some [])
    (hbody : ∀ (A : Around) (outer : List Env) (s : Shared) (H : Hp), Room k (A.deeper (lamEnv X scope s.heap.objs.size f c')) → A.guards = some [] → PE (lamCx X A outer s H E scope f c') body tb)
    (hN : Ng[i]? = some a) (hv : Vis sg a) (hd : (a == ("__debug__" : Str)) = false := by decide) (hcd : (a == ("__classdict__" : Str)) = false := by decide) :
    PE ((cxOf CXg X.prog X.w X.K X.mg X.base Ng qg sg g cdg X.A X.stack s H Eg).tr pn xe) (.Call (.Name a p1) [] [] p2)
      (fun σZ HZ Q => σZ[i]? = some (some (.ref f)) ∧ HZ c' = some (CodeO c' (X.env.qual ++ "<lambda>")) ∧ tb σ HZ Q) := by
  refine ⟨fun pinsZ sZ σZ HZ Q IZ ⟨hs, hc, ht⟩ => ?_⟩
  refine wpAny_Call_Name_kw (thn ((pe_var (pos := p1) (i := i) hN hv hd hcd).run pinsZ sZ σZ HZ (fun v H1 => v = .ref f ∧ H1 = HZ) IZ ⟨.ref f, hs, rfl, rfl⟩) fun u s1 ⟨v, H1, I1, r1, ev, eH⟩ => ?_)
  subst ev
  rw [eH] at I1
  obtain rfl : u = Value.ref f := r1
  have of1 : s1.heap.get? f = some (PySem.W.kla_obj "<lambda>" (X.env.qual ++ "<lambda>") params body scope (cloFrom X.env.cells scope.names []) pm c' ctv) := I1.base.keep f _ hf hfn hfr (fun z => nomatch (show f ∈ ([] : List Addr) from z))
  refine PySem.W.callWith_F0 ⟨_, _, _, _, of1⟩ ?_
  have un : Un (frs X.stack) [] H HZ s.heap s1.heap := I1.base
  obtain ⟨⟨oc, vs, t, hoc, hdc, hvc⟩, _, _⟩ := I1.hok c' _ hc
  have rc : codeAny (model X.prog X.w) (X.A.deeper (envOfC qg sg s.heap.objs.size g cdg)) (.call (.ref f) ⟨[], []⟩) (CR (L2.CX X.prog X.w) (envOfC qg sg s.heap.objs.size g cdg :: X.stack) X.prog X.w HZ s1 Q E) s1 := by
    refine PySem.W.kla_callFunE hr.depth of1 rfl L.co L.gen rfl ⟨c', oc, vs, t, rfl, hoc, hdc, hvc⟩ ?_
    rw [hbind]
    refine wpAny_pure (wpAny_newFunctionEnv (fun y hy => (L.own y hy).2) (fun y hy => absurd hy (by simp)) (fun h₁ hns hsb => ⟨I1.nolimit.fresh _ hsb, ?_⟩) L.kind)
    show codeAny _ _ (.expr body (lamEnv X scope s1.heap.objs.size f c')) _ _
    have kp : ∀ b o, s1.heap.get? b = some o → h₁.get? b = some o := fun b o e => hsb.extBut b o (Nat.ne_of_lt (Heap.lt_size e)) (Heap.get?_push_of_some _ e)
    have J : Inv (lamCx X (X.A.deeper (envOfC qg sg s.heap.objs.size g cdg)) (envOfC qg sg s.heap.objs.size g cdg :: X.stack) s1 HZ E scope f c') [] σ HZ { s1 with heap := h₁, toks := s1.toks + ([] : List (Str × Value)).length } :=
      lam_start2 I L I1.env0 hr.hd un hns kp
    refine PySem.W.kla_codeExpr (wpAny_mono ((hbody _ _ s1 HZ (hr.deeper _) hG).run [] _ _ HZ Q J ht) (fun v s' hq => ?_) fun e s' hq => hq)
    obtain ⟨w', H', J', rv, q⟩ := hq
    exact ⟨w', H', J'.os, J'.bare, J'.base, J'.hok, rv, q⟩
  have hx : Passes (L2.CX X.prog X.w) ((cxOf CXg X.prog X.w X.K X.mg X.base Ng qg sg g cdg X.A X.stack s H Eg).tr pn xe) E := passes_call tk hW
  refine wpAny_call (codeAny_mono rc fun r s' hq => ?_)
  cases r with
  | error e => exact hx pinsZ σZ HZ s1 e s' I1 hq
  | ok fl =>
    cases fl with
    | ret u => exact I1.after hq
    | next => exact False.elim hq
    | brk => exact False.elim hq
    | cont => exact False.elim hq
end
section
variable {X : Cx} {pins : List (Addr × Obj)} {σ : L2.St} {H : Hp} {s : Shared}
theorem lam_make3 {T : List (Addr × Str)} {c P : Addr} {params : Arguments} {body : Expr} {scope : Scope} {pos : Pos} {E : Value → Shared → Prop} {Q : Value → Shared → Prop} (I : Inv X pins σ H s) (TB : TabB X.base X.mg c P) (hcode : X.env.code = .ref c)
    (hm : (P, X.env.qual ++ "<lambda>") ∈ T) (hu : ∀ p ∈ T, p.1 = P → p.2 = X.env.qual ++ "<lambda>") (hT : Tabs T H) (hdef : defaultsOf params X.env = ([], [])) (hfree : ∀ y ∈ scope.names, y.2 = .free → ∃ c, X.env.cells.lookup y.1 = some c)
    (h : ∀ (f c' : Addr) (pm ctv : Value) (H1 : Hp) (s' : Shared), Inv X pins σ H1 s' → ExtN H H1 → (∀ b, H b ≠ none → H1 b ≠ none) → Tabs T H1 →
      s'.heap.get? f = some (PySem.W.kla_obj "<lambda>" (X.env.qual ++ "<lambda>") params body scope (cloFrom X.env.cells scope.names []) pm c' ctv) → H1 f = none → f ∉ frs X.stack → H1 c' = some (CodeO c' (X.env.qual ++ "<lambda>")) → Q (.ref f) s') :
    wpAny (model X.prog X.w) X.A (eval (.Lambda params body scope pos) X.env) Q E s := by
  obtain ⟨ps, hP, ht, ha⟩ := hT _ hm
  refine PySem.W.kla_eval hdef ?_
  have bP : s.heap.BuiltinsAt X.mg P := TB.bm.keeps I.bk
  have hP' : s.heap.get? P = some { cls := .none, data := .fields ps } := I.hok P _ hP
  have nofr : ∀ f, s.heap.objs.size ≤ f → f ∉ frs X.stack := fun f hf z => by
    rcases List.mem_cons.mp (I.stkSub _ z) with e | e
    · have h1 := I.lt
      rw [← e] at h1
      exact Nat.lt_irrefl _ (Nat.lt_of_lt_of_le h1 hf)
    · exact I.nofs hf e
  cases hc : codeAmong pos ps.toList with
  | none =>
    refine PySem.W.kla_makeFunction (mg := X.mg) (c := c) (P := P) (ps := ps) (closure_ok hfree) I.ok.glob (I.mod.glob.keeps I.bk) hcode (TB.code.keeps I.bk) hP' ht hc TB.gP bP fun c' ctv h' tk hx hge hlt hrec htb => ?_
    obtain ⟨c2, oc, vs, t, e2, hoc, hd, hv⟩ := hrec
    cases e2
    have hsz : s.heap.objs.size ≤ h'.objs.size := Nat.le_trans hge (Nat.le_of_lt hlt)
    have nC : H c' = none := I.hok.fresh hge
    have I1 := inv_table (t' := tk) (more := #[rawInt pos.line, rawInt pos.col, .ref c']) (h' := h'.push (PySem.W.kla_obj "<lambda>" (X.env.qual ++ "<lambda>") params body scope (cloFrom X.env.cells scope.names []) ((X.mg "__name__").getD .none) c' ctv)) I hP
      (fun b o hb e => Heap.get?_push_of_some _ (hx b o hb e)) (Heap.get?_push_of_some _ htb) hge ⟨oc, vs, t, Heap.get?_push_of_some _ hoc, hd, hv⟩
    have hE : ExtN H (upd (upd H P (.tbl (ps ++ #[rawInt pos.line, rawInt pos.col, .ref c']))) c' (CodeO c' (X.env.qual ++ "<lambda>"))) := fun b o e n => by
      rw [upd_ne (ne_of_none e nC), upd_ne (fun z => n ps (Option.some.inj (e.symm.trans (by rw [z]; exact hP))))]
      exact e
    have eL : (ps ++ #[rawInt pos.line, rawInt pos.col, .ref c']).toList = ps.toList ++ [rawInt pos.line, rawInt pos.col, .ref c'] := by simp
    refine h h'.objs.size c' ((X.mg "__name__").getD .none) ctv _ _ I1 hE (fun b hb => ?_) (fun p hp => ?_) (Heap.get?_push_size _ rfl) ?_ (nofr _ hsz) upd_same
    · by_cases z1 : b = c'
      · rw [z1, upd_same]; simp
      · rw [upd_ne z1]
        by_cases z2 : b = P
        · rw [z2, upd_same]; simp
        · rw [upd_ne z2]; exact hb
    · by_cases hb : p.1 = P
      · rw [hu p hp hb, hb]
        refine ⟨_, by rw [upd_ne (ne_of_none hP nC), upd_same], by rw [eL]; exact PySem.TriplesOk_snoc _ _ _ _ ht, fun p' cv hcv => ?_⟩
        rw [eL] at hcv
        rcases among_app _ ht hcv with z | z
        · obtain ⟨c0, e1, e2⟩ := ha p' cv z
          exact ⟨c0, e1, hE _ _ e2 codeO_ne⟩
        · exact ⟨c', z, upd_same⟩
      · obtain ⟨ps', a1, a2, a3⟩ := hT p hp
        refine ⟨ps', by rw [upd_ne (ne_of_none a1 nC), upd_ne hb]; exact a1, a2, fun p' cv hcv => ?_⟩
        obtain ⟨c0, e1, e2⟩ := a3 p' cv hcv
        exact ⟨c0, e1, hE _ _ e2 codeO_ne⟩
    · have n1 : h'.objs.size ≠ c' := Nat.ne_of_gt hlt
      have n2 : h'.objs.size ≠ P := Nat.ne_of_gt (Nat.lt_of_lt_of_le (Heap.lt_size hP') hsz)
      rw [upd_ne n1, upd_ne n2]
      exact I.hok.fresh hsz
  | some cv =>
    obtain ⟨c', e, hco⟩ := ha pos cv hc
    subst e
    refine PySem.W.kla_makeFunctionHit (mg := X.mg) (c := c) (P := P) (ps := ps) (closure_ok hfree) I.ok.glob (I.mod.glob.keeps I.bk) hcode (TB.code.keeps I.bk) hP' ht hc bP fun ctv h' tk hx hsz => ?_
    have I1 : Inv X pins σ H { s with heap := h'.push (PySem.W.kla_obj "<lambda>" (X.env.qual ++ "<lambda>") params body scope (cloFrom X.env.cells scope.names []) ((X.mg "__name__").getD .none) c' ctv), toks := tk } := I.kept fun b o e => Heap.get?_push_of_some _ (hx b o e)
    exact h h'.objs.size c' ((X.mg "__name__").getD .none) ctv H _ I1 (ExtN.refl H) (fun _ z => z) hT (Heap.get?_push_size _ rfl) (I.hok.fresh hsz) (nofr _ hsz) hco
end
/-- what the thunk's call gives -/
def fThk (r : R PyData) : EF := fun ρ => r.bind fun d => .ok (d, ρ)
def isLam : Option Sl → Bool
  | some Sl.lam => true
  | _ => false
def fThkL (r : R PyData) : EF := fun ρ => if isLam ρ[0]? = true then fThk r ρ else .no
theorem isLam_is {o : Option Sl} (h : isLam o = true) : o = some Sl.lam := by
  unfold isLam at h
  split at h
  · rfl
  · cases h
/-- the call of the function that was handed in, in the context Z (and within its try statements) -/
def Thk (cls : Clss) (Z : Cx) (B0 : Ent) (a : Str) (r : R PyData) : Prop := ∀ (pn : List (Addr × Obj)) (xe : Value → Shared → Prop) (B : Ent) (ok : OkX) (p1 p2 : Pos), CtxE cls (Z.tr pn xe) B ok → B.H = B0.H → B.T = B0.T → B.io = [] → B.lam = B0.lam → Sub B0.G B.G →
  EE (Z.tr pn xe) B ok (.Call (.Name a p1) [] [] p2) (fThkL r)
/-- a def that calls what it got: its slots at the entry; what it answers -/
def startL (N : List Str) : En := Sl.lam :: List.replicate (N.length - 1) .un
def fnL (N : List Str) (g : R PyData → SF) : R PyData → R PyData := fun r => outR (g r (startL N))
/-- its derivation, whatever the thunk gives -/
def HeardOk (P : Program) (w : World) (K : PySem.W.Frag) (mg : Str → Option Value) (base : Heap) (cls : Clss) (T : YT) (k : Nat) (N : List Str) (qual : Str) (st : Stmt) (f : Addr) (a : Str) (g : R PyData → SF) : Prop :=
  ∀ (cdv : Value) (A : Around) (outer : List Env) (s : Shared) (H : Hp) (E : XK) (B : Ent) (ok : OkX) (r : R PyData), B.T = T → B.io = [] →
    Room k (A.deeper (envOfC qual (defScope st) s.heap.objs.size f cdv)) → A.guards = some [] →
    CtxOk cls (cxOf (L2.CX P w) P w K mg base N qual (defScope st) f cdv A outer s H E) B ok →
    Thk cls (cxOf (L2.CX P w) P w K mg base N qual (defScope st) f cdv A outer s H E) B a r →
    SB (cxOf (L2.CX P w) P w K mg base N qual (defScope st) f cdv A outer s H E) B ok (defBody st) (g r)
/-- a def of that kind that stands in the module -/
structure HCallee (P : Program) (w : World) (K : PySem.W.Frag) (mg : Str → Option Value) (base : Heap) (cls : Clss) (T : YT) (k : Nat) (x : Str) (F : R PyData → R PyData) : Prop where
  ex : ∃ (f : Addr) (fd : FuncData) (a : Str) (N : List Str) (st : Stmt) (g : R PyData → SF), Fun K x x st f fd ∧ FnScope N [a] (defScope st) ∧ N[0]? = some a ∧ Vis (defScope st) a ∧ (a == ("__debug__" : Str)) = false ∧ (a == ("__classdict__" : Str)) = false ∧
    mg x = some (.ref f) ∧ PySem.W.keepIn K (.ref f) = true ∧ Binds K fd [a] [] ∧ HeardOk P w K mg base cls T k N x st f a g ∧ F = fnL N g
theorem HeardOk.mono {P : Program} {w : World} {K : PySem.W.Frag} {mg : Str → Option Value} {base : Heap} {cls : Clss} {T : YT} {j k : Nat} {N : List Str} {qual : Str} {st : Stmt} {f : Addr} {a : Str} {g : R PyData → SF} (h : HeardOk P w K mg base cls T j N qual st f a g) (hj : j ≤ k) :
    HeardOk P w K mg base cls T k N qual st f a g := fun cdv A outer s H E B ok r h1 h2 h3 => h cdv A outer s H E B ok r h1 h2 (h3.mono hj)
theorem HCallee.mono {P : Program} {w : World} {K : PySem.W.Frag} {mg : Str → Option Value} {base : Heap} {cls : Clss} {T : YT} {j k : Nat} {x : Str} {F : R PyData → R PyData} (h : HCallee P w K mg base cls T j x F) (hj : j ≤ k) : HCallee P w K mg base cls T k x F := by
  obtain ⟨f, fd, a, N, st, g, h1, h2, h3, h4, h5, h6, h7, h8, h9, h10, h11⟩ := h.ex
  exact ⟨f, fd, a, N, st, g, h1, h2, h3, h4, h5, h6, h7, h8, h9, h10.mono hj, h11⟩
/-- only what is shared is seen from within -/
def shOnly (ρ : En) : En := ρ.map fun s => match s with
  | .sh d => .sh d
  | _ => .un
def fzs : List Nat → En → En
  | [], ρ => ρ
  | i :: is, ρ => fzs is (fz i ρ)
def valR (r : R (PyData × En)) : R PyData := r.bind fun x => .ok x.1
/-- f(lambda: e) -/
def fLam (caps : List Nat) (F : R PyData → R PyData) (fl : EF) : EF := fun ρ => (F (valR (fl (shOnly (fzs caps ρ))))).bind fun d => .ok (d, fzs caps ρ)
section
variable {X : Cx} {B : Ent} {ok : OkX} {cls : Clss} {K : PySem.W.Frag} {G H : Hp} {σ : St} {ρ : En}
theorem rel_shOnly {T : YT} {G' H' : Hp} (r : Rel K B G H σ ρ) (s : Sub G G') (h : ∀ b o, G' b = some o → H' b = some o ∧ ∀ ps, o ≠ .tbl ps) : Rel K { T := T, io := [], G := G', H := H' } G' H' σ (shOnly ρ) := by
  have no : ∀ (i : Nat) s v a, (shOnly ρ)[i]? = some s → adr s v a → False := fun i s v a h e => by
    unfold shOnly at h
    rw [List.getElem?_map] at h
    cases e1 : ρ[i]? with
    | none => rw [e1] at h; cases h
    | some z => rw [e1] at h; cases h; cases z <;> exact e
  refine ⟨Grow.refl h, by unfold shOnly; rw [List.length_map]; exact r.len, fun i t ht => ?_, fun i j t u a _ ht _ e _ => no i t _ a ht e⟩
  unfold shOnly at ht
  rw [List.getElem?_map] at ht
  cases e1 : ρ[i]? with
  | none => rw [e1] at ht; cases ht
  | some z =>
    rw [e1] at ht; cases ht
    cases z with
    | sh d =>
      obtain ⟨x, e, t⟩ := r.at_ i _ e1
      exact ⟨x, e, t.mono s⟩
    | _ => trivial
theorem fzsA : ∀ {is : List Nat} {G : Hp} {ρ : En}, Rel K B G H σ ρ → ∃ G', Adv σ G H ρ G' H (fzs is ρ) ∧ Rel K B G' H σ (fzs is ρ)
  | [], G, ρ, r => ⟨G, Adv.refl, r⟩
  | i :: is, G, ρ, r => by
    have one : ∃ G', Adv σ G H ρ G' H (Y.fz i ρ) ∧ Rel K B G' H σ (Y.fz i ρ) := by
      unfold Y.fz
      split
      · rename_i d e
        obtain ⟨G', v, a', r', _, _⟩ := r.fzA e
        exact ⟨G', a', r'⟩
      · exact ⟨G, Adv.refl, r⟩
    obtain ⟨G1, a1, r1⟩ := one
    obtain ⟨G2, a2, r2⟩ := fzsA (is := is) r1
    exact ⟨G2, a1.trans a2, r2⟩
theorem grow_lam {T : YT} {G H H1 : Hp} (h : ∀ b o, G b = some o → H b = some o ∧ ∀ ps, o ≠ .tbl ps) (eN : ExtN H H1) (hs : ∀ b, H b ≠ none → H1 b ≠ none) (T1 : Tabs T.t H1) : Grow T [] G H G H1 :=
  ⟨fun b o e => ⟨eN b o (h b o e).1 (h b o e).2, (h b o e).2⟩, Sub.refl G, fun b o e _ n => eN b o e n, hs, fun _ e _ => e, fun _ => T1⟩
theorem rel_startL {T : YT} {a : Str} {N : List Str} {f : Addr} (hs : ∀ b o, G b = some o → H b = some o ∧ ∀ ps, o ≠ .tbl ps) (hN : N[0]? = some a) : Rel K { T := T, io := [], G := G, H := H, lam := f } G H (L2.start N [.ref f]) (startL N) := by
  have e : L2.start N [.ref f] = some (.ref f) :: List.replicate (N.length - 1) none := by
    unfold L2.start
    simp
  have un : ∀ (i : Nat) s, (startL N)[i + 1]? = some s → s = .un := fun i s h => by
    unfold startL at h
    rw [List.getElem?_cons_succ, List.getElem?_replicate] at h
    split at h
    · cases h; rfl
    · cases h
  have noA : ∀ (i : Nat) s v b, (startL N)[i]? = some s → adr s v b → False := fun i s v b h z => by
    cases i with
    | zero =>
      have h : some Sl.lam = some s := h
      cases h; exact z
    | succ i => rw [un i s h] at z; exact z
  rw [e]
  refine ⟨Grow.refl hs, by unfold startL; simp, fun i s h => ?_, fun i j s u b _ h _ z _ => noA i s _ b h z⟩
  cases i with
  | zero =>
    have h : some Sl.lam = some s := h
    cases h
    exact (rfl : some (some (V.ref f)) = _)
  | succ i => rw [un i s h]; trivial
theorem ee_lam {x : Str} {c P : Addr} {k j : Nat} {F : R PyData → R PyData} {params : Arguments} {body : Expr} {scope : Scope} {fl : EF} {p lpos pos : Pos} (caps : List Nat) (cx : CtxE cls X B ok) (C : HCallee X.prog X.w X.K X.mg X.base cls B.T (k + 1) x F) (hr : Room j X.A)
    (TB : TabB X.base X.mg c P) (hcode : X.env.code = .ref c) (hmT : (P, X.env.qual ++ "<lambda>") ∈ B.T.t) (hu : ∀ p ∈ B.T.t, p.1 = P → p.2 = X.env.qual ++ "<lambda>") (L : LamS X.env.scope scope)
    (hbody : ∀ (A : Around) (outer : List Env) (s : Shared) (H : Hp) (E : XK) (f c' : Addr) (B' : Ent) (ok' : OkX), B'.T = B.T → Room k (A.deeper (lamEnv X scope s.heap.objs.size f c')) → A.guards = some [] → CtxE cls (lamCx X A outer s H E scope f c') B' ok' →
      EE (lamCx X A outer s H E scope f c') B' ok' body fl)
    (hk : k + 2 ≤ j := by decide) (hg : Gl X x := by rfl) (hdef : defaultsOf params X.env = ([], []) := by rfl)
    (hbind : ∀ (q : Str) (cl : List (Str × Addr)) (pm cv ctv : Value), bindArgs (PySem.W.kla_fn "<lambda>" q params body scope cl pm cv ctv) ⟨[], []⟩ = pure [] := by intro _ _ _ _ _; rfl) (hdb : (x == ("__debug__" : Str)) = false := by decide) :
    EE X B ok (.Call (.Name x p) [.Lambda params body scope lpos] [] pos) (fLam caps F fl) := by
  obtain ⟨E, tk, good⟩ := cx.exc
  have px : Passes (L2.CX X.prog X.w) X E := passes_call tk fun _ _ _ _ h => h
  obtain ⟨g, fd, a, Ng, st, gh, Fn, S, hN0, hva, hda, hca, hm, hkp, hb, hOk, rfl⟩ := C.ex
  obtain ⟨oc, od, kV, doc, pm, an, cdv, ct, osl, rfl, lk, hcd⟩ := Fn.ex
  -- the reading: what the frame shares is seen from within
  refine ⟨fun σ H Q => ∃ G ρ, Rel X.K B G H σ ρ ∧ ((fnL Ng gh) (valR (fl (shOnly ρ)))).sat (fun d => ∀ v H' G', Grow B.T [] G H G' H' → Tr X.K G' v d → Q v H') ok, ⟨fun pins s σ H Q I ⟨G, ρ, rl, q⟩ => ?_⟩, fun σ H G ρ Q r q => ?_⟩
  · have hT := rl.tabs cx.tabs
    refine wpAny_Call_Name_kw (ld_glob I hg hm ?_ hdb)
    refine PySem.W.callWith_K (h₀ := X.base) I.ok.mod.kin hkp ?_ (by rfl) (by rfl)
    show wpAny _ _ (spliced ((false, eval (.Lambda params body scope lpos) X.env) :: backTo pos (starEach [] X.env))) _ _ s
    refine Calls.spliced_cons (lam_make3 I TB hcode hmT hu hT.1 hdef (L.has I.ok) fun f c' pm' ctv H1 s' I1 eN hsN T1 hf hfn hfr hco => ?_)
    refine Calls.spliced_nil ⟨I1.kIn, ?_⟩
    -- the making of the lambda is a growth
    have g1 : Grow B.T [] G H G H1 := grow_lam rl.sub eN hsN T1
    have rl1 := rl.step g1
    have B0T : Base X.K B.T G H1 := ⟨T1, hT.2⟩
    have rc : codeAny (model X.prog X.w) X.A (.call (.ref g) ⟨[.ref f], []⟩) (CR (L2.CX X.prog X.w) X.stack X.prog X.w H1 s' Q E) s' := by
      refine run_ofS (N := Ng) (ps := [a]) (us := [.ref f]) (vs := [.ref f]) lk hcd S (hr.mono hk) I1.env0 (hb s' [.ref f] I1.kIn rfl) (.cons rfl .nil) rfl fun hr' => ?_
      have cxg := ctx_of (cls := cls) (P := X.prog) (w := X.w) (K := X.K) (mg := X.mg) (base := X.base) (N := Ng) (qual := x) (sc := defScope st) (f := g) (cdv := cdv) (A := X.A) (outer := X.stack) (s := s') (H := H1) (E := E) (B := { T := B.T, io := [], G := G, H := H1, lam := f }) B0T cx.gd
      have thk : Thk cls (cxOf (L2.CX X.prog X.w) X.prog X.w X.K X.mg X.base Ng x (defScope st) g cdv X.A X.stack s' H1 E) { T := B.T, io := [], G := G, H := H1, lam := f } a (valR (fl (shOnly ρ))) := by
        intro pn xe B2 ok2 p1 p2 cx2 eH eT eIo eL sG
        obtain ⟨E2, tk2, good2⟩ := cx2.exc
        refine ⟨_, pe_actG (i := 0) (E := E2) (tb := fun σ' HZ Q => ∃ G1, Sub G G1 ∧ (∀ b o, G1 b = some o → HZ b = some o ∧ ∀ ps, o ≠ .tbl ps) ∧ Base X.K B.T G1 HZ ∧ Rel X.K B G H1 σ' ρ ∧
            (valR (fl (shOnly ρ))).sat (fun d => ∀ v H' G', Grow B.T [] G1 HZ G' H' → Tr X.K G' v d → Q v H') (ErrOk X.K B.T cls [] G1 HZ E2)) I1 L hf hfn hfr (hbind _ _ _ _ _) tk2 (fun _ _ _ _ h => h) (k := k) hr' cx.gd
          (fun A outer s2 H2 hr2 hg2 => ?_) hN0 hva hda hca, fun σ2 HZ GZ ρ2 Q2 rz qz => ?_⟩
        · refine ⟨fun pins2 s3 σ3 HZ Q3 I3 ⟨G1, sG1, sub3, bs, rl3, q3⟩ => ?_⟩
          have cxl : CtxE cls (lamCx X A outer s2 H2 E2 scope f c') { T := B.T, io := [], G := G1, H := HZ } (ErrOk X.K B.T cls [] G1 HZ E2) :=
            ⟨rfl, bs, hg2, E2, takes_of rfl rfl rfl rfl, fun _ _ h => h⟩
          obtain ⟨t, pe, kk⟩ := (hbody A outer s2 H2 E2 f c' { T := B.T, io := [], G := G1, H := HZ } _ rfl hr2 hg2 cxl).ex
          refine pe.run pins2 s3 σ3 HZ Q3 I3 (kk σ3 HZ G1 (shOnly ρ) Q3 (rel_shOnly rl3 sG1 sub3) ?_)
          cases ef : fl (shOnly ρ) with
          | ok y =>
            rw [ef] at q3
            exact fun v H' G' _ r' t' => q3 v H' G' r'.bd t'
          | er c d => rw [ef] at q3; exact q3
          | no => rw [ef] at q3; exact q3
        · obtain ⟨h0, qz⟩ := ite_sat qz
          · have e0 : σ2[0]? = some (some (.ref B2.lam)) := rz.at_ 0 _ (isLam_is h0)
            rw [eL] at e0
            have ec : HZ c' = some (CodeO c' (X.env.qual ++ "<lambda>")) := rz.bd.hm c' _ (by rw [eH]; exact hco) (by rw [eIo]; simp) codeO_ne
            have bz := rz.tabs cx2.tabs
            rw [eT] at bz
            refine ⟨e0, ec, GZ, sG.trans rz.bd.gm, rz.sub, bz, rl1, ?_⟩
            cases ev : valR (fl (shOnly ρ)) with
            | ok d =>
              rw [ev] at qz
              intro v H' G' g' t'
              have g2 : Grow B2.T [] GZ HZ G' H' := by rw [eT]; exact g'
              exact qz v H' G' (Adv.grow g2) (rz.step g2) t'
            | er c d =>
              rw [ev] at qz
              have z := (good2 c d qz).later rz.bd
              rw [eT, eIo] at z
              exact z
            | no => rw [ev] at qz; exact qz
      obtain ⟨t, pt, kt⟩ := (hOk cdv X.A X.stack s' H1 E { T := B.T, io := [], G := G, H := H1, lam := f } _ (valR (fl (shOnly ρ))) rfl rfl hr' cx.gd cxg thk).ex
      refine ⟨t, pt, kt _ H1 G (startL Ng) _ (rel_startL rl1.sub hN0) ?_⟩
      unfold fnL at q
      cases e : gh (valR (fl (shOnly ρ))) (startL Ng) with
      | nx ρ' => rw [e] at q; exact fun σ H' G' s' r => q .non H' G' (g1.trans r.bd) .non
      | rt d ρ' => rw [e] at q; exact fun v σ H' G' s' r t' => q v H' G' (g1.trans r.bd) t'
      | rn d ρ' =>
        rw [e] at q
        exact fun p σ H' G' s' r x => by
          obtain ⟨G2, s2, _, r2, t2⟩ := r.frz x
          exact q _ H' G2 (g1.trans r2.bd) t2
      | er c d =>
        rw [e] at q
        have z := ((good c d q).later rl1.bd).io
        exact z
      | bk ρ' => rw [e] at q; exact q.elim
      | ct ρ' => rw [e] at q; exact q.elim
      | no => rw [e] at q; exact q.elim
    refine wpAny_call (codeAny_mono rc fun r s2 hq => ?_)
    cases r with
    | error e => exact px pins σ _ _ e s2 I1 hq
    | ok fl =>
      cases fl with
      | ret u => exact I1.after hq
      | next => exact False.elim hq
      | brk => exact False.elim hq
      | cont => exact False.elim hq
  · obtain ⟨G', a', r'⟩ := fzsA (is := caps) r
    refine ⟨G', _, r', (R.sat_bind q).imp fun d qd v H2 G2 g t => ?_⟩
    exact qd v H2 G2 (a'.trans (Adv.grow g)) (r'.step g) t
end
end Y


/-! YLamD: a lambda whose one parameter has a default and is not given. -/
namespace Y
open PySem PySem.Spec PyProof.Rows L2 LamX
/-- f(lambda x=0: e): the slot of a name x of the def is not seen -/
def fLamX (caps : List Nat) (ix : Nat) (F : R PyData → R PyData) (fl : EF) : EF := fun ρ => (F (valR (fl (shOnly ((fzs caps ρ).set ix .un))))).bind fun d => .ok (d, fzs caps ρ)
/-- one parameter with a default, which the body doesn't name; captured names and globals -/
structure LamD (sc scope : Scope) (N : List Str) (px : Str) (ix : Nat) : Prop where
  kind : scope.kind = .function
  co : scope.isCoroutine = false
  gen : scope.isGenerator = false
  own : ∀ y ∈ scope.names, (y.2 = .local → y.1 = px) ∧ y.2 ≠ .cell
  free : ∀ y ∈ scope.names, y.2 = .free → sc.names.lookup y.1 = some .cell ∨ sc.names.lookup y.1 = some .free
  loc : scope.names.lookup px = some .local
  out : ∀ i : Nat, N[i]? = some px → i = ix
def lamDB (sc scope : Scope) (N : List Str) (px : Str) (ix : Nat) : Bool :=
  decide (scope.kind = .function) && !scope.isCoroutine && !scope.isGenerator && decide (scope.names.lookup px = some .local) && ((List.range N.length).all fun i => decide (N[i]? ≠ some px) || decide (i = ix)) && scope.names.all fun y => (!decide (y.2 = .local) || decide (y.1 = px)) && !decide (y.2 = .cell) && (!decide (y.2 = .free) || decide (sc.names.lookup y.1 = some .cell) || decide (sc.names.lookup y.1 = some .free))
theorem lamD_by {sc scope : Scope} {N : List Str} {px : Str} {ix : Nat} (h : lamDB sc scope N px ix = true) : LamD sc scope N px ix := by
  unfold lamDB at h
  simp only [Bool.and_eq_true, Bool.or_eq_true, Bool.not_eq_true', decide_eq_true_eq, decide_eq_false_iff_not, List.all_eq_true] at h
  obtain ⟨⟨⟨⟨⟨h1, h2⟩, h3⟩, h4⟩, h5⟩, h6⟩ := h
  refine ⟨h1, h2, h3, fun y hy => ⟨fun e => ?_, (h6 y hy).1.2⟩, fun y hy e => ?_, h4, fun i hi => ?_⟩
  · rcases (h6 y hy).1.1 with z | z
    · exact absurd e z
    · exact z
  · rcases (h6 y hy).2 with (z | z) | z
    · exact absurd e z
    · exact .inl z
    · exact .inr z
  · have hl := (List.getElem?_eq_some_iff.mp hi).1
    rcases h5 i (List.mem_range.mpr hl) with z | z
    · exact absurd hi z
    · exact z
theorem LamD.has {X : Cx} {scope : Scope} {N : List Str} {px : Str} {ix : Nat} (L : LamD X.env.scope scope N px ix) (ok : X.Ok) : ∀ y ∈ scope.names, y.2 = .free → ∃ c, X.env.cells.lookup y.1 = some c := fun y hy e => by
  rcases L.free y hy e with k | k
  · exact ok.has _ (.inl k)
  · exact ok.has _ (.inr k)
section
variable {X : Cx} {pins : List (Addr × Obj)} {σ : L2.St} {H HZ : Hp} {s s1 : Shared}
theorem lam_startD {A : Around} {outer : List Env} {E : XK} {scope : Scope} {f c' : Addr} {h₁ : Heap} {tk : Nat} {px : Str} {ix : Nat} {bs : List (Str × Value)} (I : Inv X pins σ H s) (L : LamD X.env.scope scope X.N px ix) (e0 : Env0 X.prog X.w X.K X.mg X.base A outer s1 HZ) (hd : A.handled = none)
    (un : Un (frs X.stack) [] H HZ s.heap s1.heap) (hns : h₁.Ns s1.heap.objs.size fun y => bs.reverse.lookup y) (kp : ∀ b o, s1.heap.get? b = some o → h₁.get? b = some o) :
    Inv (lamCx X A outer s1 HZ E scope f c') [] (σ.set ix none) HZ { s1 with heap := h₁, toks := tk } := by
  have hfree := L.has I.ok
  have cm : ∀ {y c}, (cloFrom X.env.cells scope.names []).lookup y = some c → X.env.cells.lookup y = some c := fun {y c} e => by
    rcases cloFrom_mem (PySem.mem_of_lookup e) with hm | ⟨h1, h2⟩
    · cases hm
    · obtain ⟨c1, hc⟩ := hfree _ h1 rfl
      have hc : X.env.cells.lookup y = some c1 := hc
      have e2 : c = c1 := by
        rw [h2, hc] <;> rfl
      rw [e2]
      exact hc
  have look : ∀ {y}, scope.names.lookup y = some .free → ∃ c, (cloFrom X.env.cells scope.names []).lookup y = some c := fun {y} hl => by
    have hy : (y, NameKind.free) ∈ scope.names := PySem.mem_of_lookup hl
    exact mem_lookup (cloFrom_has (cells := X.env.cells) (acc := []) hy)
  have cellK : ∀ {c : Addr} {v : Option Value}, H c = none → s.heap.IsCell c v → h₁.IsCell c v := fun {c v} n ⟨o, ho, hd⟩ => by
    obtain ⟨sl, q⟩ := un.any ho n (by simp)
    exact ⟨_, kp _ _ q, hd⟩
  have noA : ∀ b : Addr, b ∉ (lamCx X A outer s1 HZ E scope f c').ex := fun b z => absurd (show b ∈ ([] : List Addr) from z) (by simp)
  refine ⟨⟨e0.mod, L.kind, rfl, rfl, Nat.le_refl _, fun y z c e1 e2 => I.ok.inj y z c (cm e1) (cm e2), fun y hy => ?_, fun y c z _ => ?_, fun _ => hd, Around.frames_deeper e0.frames, .inr ⟨rfl, rfl⟩, fun b z => absurd z (noA b), e0.bs, e0.bsz, fun b _ _ => noA b,
      fun b z => absurd z (noA b), e0.funs, e0.frf⟩,
    rfl, e0.bare, Un.kept kp, ⟨_, hns, fun i y v e1 e2 e3 => ?_⟩, fun y c e => ?_, e0.hok.fresh (Nat.le_refl _), fun y c e => ?_, fun q hq => absurd (show q ∈ ([] : List (Addr × Obj)) ++ [] from hq) (by simp), e0.hok.kept kp, by rw [List.length_set]; exact I.len⟩
  · have hy : scope.names.lookup y = some .cell ∨ scope.names.lookup y = some .free := hy
    rcases hy with hy | hy
    · exact absurd rfl (L.own _ (PySem.mem_of_lookup hy)).2
    · exact look hy
  · have z : false = true := z
    cases z
  · have e3 : Vis scope y := e3
    rcases e3 with k | k | k
    · have ey : y = px := (L.own _ (PySem.mem_of_lookup k)).1 rfl
      have hN : X.N[i]? = some y := e1
      have hi := L.out i (ey ▸ hN)
      subst hi
      have e2 : (σ.set i none)[i]? = some (some v) := e2
      by_cases hl : i < σ.length
      · rw [List.getElem?_set_self hl] at e2; cases e2
      · rw [List.getElem?_eq_none (by rw [List.length_set]; omega)] at e2; cases e2
    · exact absurd rfl (L.own _ (PySem.mem_of_lookup k)).2
    · obtain ⟨m, hn, hl⟩ := I.loc
      have hvis : Vis X.env.scope y := (L.free _ (PySem.mem_of_lookup k) rfl).elim (fun k => .inr (.inl k)) (fun k => .inr (.inr k))
      have e2' : σ[i]? = some (some v) := by
        have e2 : (σ.set ix none)[i]? = some (some v) := e2
        by_cases hi : ix = i
        · subst hi
          by_cases hl2 : ix < σ.length
          · rw [List.getElem?_set_self hl2] at e2; cases e2
          · rw [List.getElem?_eq_none (by rw [List.length_set]; omega)] at e2; cases e2
        · rw [List.getElem?_set_ne hi] at e2; exact e2
      obtain ⟨w', r, q⟩ := hl i y v e1 e2' hvis
      obtain ⟨c2, h2⟩ := look k
      refine ⟨w', r, .inr ⟨.inr k, c2, h2, ?_⟩⟩
      have c1 := cm h2
      rcases q with ⟨k', _⟩ | ⟨_, c3, e', z⟩
      · have k' : X.env.scope.names.lookup y = some .local := k'
        rcases L.free _ (PySem.mem_of_lookup k) rfl with k2 | k2 <;> rw [show X.env.scope.names.lookup y = _ from k2] at k' <;> cases k'
      · rw [c1] at e'
        cases e'
        exact cellK (I.freeC y _ c1) z
  · obtain ⟨w', z⟩ := I.cell y c (cm e)
    exact ⟨w', cellK (I.freeC y c (cm e)) z⟩
  · obtain ⟨v, o, ho, hd⟩ := I.cell y c (cm e)
    exact un.free c o ho (I.freeC y c (cm e)) (by simp)
/-- x(), in the def that got the lambda: Z is that def's context, entered at s -/
theorem pe_actD {CXg : CXT} {Eg : XK} {Ng : List Str} {qg : Str} {sg : Scope} {g f c' t0 : Addr} {cdg pm ctv doc : Value} {i0 : Int} {tk0 : Tok} {px : Str} {ix : Nat} {params : Arguments} {body : Expr} {scope : Scope} {k i : Nat} {a : Str} {pn : List (Addr × Obj)} {xe : Value → Shared → Prop} {W : WX} {E : XK} {tb : TE} {p1 p2 : Pos}
    (I : Inv X pins σ H s) (L : LamD X.env.scope scope X.N px ix) (hf : s.heap.get? f = some (PySem.W.kdv_obj "<lambda>" (X.env.qual ++ "<lambda>") params (.expr body) scope (cloFrom X.env.cells scope.names []) (.ref t0) doc pm c' ctv)) (hfn : H f = none) (hfr : f ∉ frs X.stack) (hft : s.heap.get? t0 = some (PySem.W.kdv_tup [.int i0 tk0])) (htn : H t0 = none) (htr : t0 ∉ frs X.stack)
    (hbind : ∀ s : Shared, s.heap.get? t0 = some (PySem.W.kdv_tup [.int i0 tk0]) → BindsTo s (PySem.W.kdv_fn "<lambda>" (X.env.qual ++ "<lambda>") params (.expr body) scope (cloFrom X.env.cells scope.names []) (.ref t0) doc pm (.ref c') ctv) ⟨[], []⟩ [(px, .int i0 tk0)])
    (tk : Takes ((cxOf CXg X.prog X.w X.K X.mg X.base Ng qg sg g cdg X.A X.stack s H Eg).tr pn xe) W) (hW : ∀ cls d σ' H', E cls d H' → W cls d σ' H') (hr : Room (k + 1) (X.A.deeper (envOfC qg sg s.heap.objs.size g cdg))) (hG : X.A.guards = some [])
    (hbody : ∀ (A : Around) (outer : List Env) (s : Shared) (H : Hp), Room k (A.deeper (lamEnv X scope s.heap.objs.size f c')) → A.guards = some [] → PE (lamCx X A outer s H E scope f c') body tb)
    (hN : Ng[i]? = some a) (hv : Vis sg a) (hd : (a == ("__debug__" : Str)) = false := by decide) (hcd : (a == ("__classdict__" : Str)) = false := by decide) :
    PE ((cxOf CXg X.prog X.w X.K X.mg X.base Ng qg sg g cdg X.A X.stack s H Eg).tr pn xe) (.Call (.Name a p1) [] [] p2)
      (fun σZ HZ Q => σZ[i]? = some (some (.ref f)) ∧ HZ c' = some (CodeO c' (X.env.qual ++ "<lambda>")) ∧ tb (σ.set ix none) HZ Q) := by
  refine ⟨fun pinsZ sZ σZ HZ Q IZ ⟨hs, hc, ht⟩ => ?_⟩
  refine wpAny_Call_Name_kw (thn ((pe_var (pos := p1) (i := i) hN hv hd hcd).run pinsZ sZ σZ HZ (fun v H1 => v = .ref f ∧ H1 = HZ) IZ ⟨.ref f, hs, rfl, rfl⟩) fun u s1 ⟨v, H1, I1, r1, ev, eH⟩ => ?_)
  subst ev
  rw [eH] at I1
  obtain rfl : u = Value.ref f := r1
  have of1 : s1.heap.get? f = some (PySem.W.kdv_obj "<lambda>" (X.env.qual ++ "<lambda>") params (.expr body) scope (cloFrom X.env.cells scope.names []) (.ref t0) doc pm c' ctv) := I1.base.keep f _ hf hfn hfr (fun z => nomatch (show f ∈ ([] : List Addr) from z))
  have ot1 : s1.heap.get? t0 = some (PySem.W.kdv_tup [.int i0 tk0]) := I1.base.keep t0 _ hft htn htr (fun z => nomatch (show t0 ∈ ([] : List Addr) from z))
  refine PySem.W.callWith_F0 ⟨_, _, _, _, of1⟩ ?_
  have un : Un (frs X.stack) [] H HZ s.heap s1.heap := I1.base
  obtain ⟨⟨oc, vs, t, hoc, hdc, hvc⟩, _, _⟩ := I1.hok c' _ hc
  have rc : codeAny (model X.prog X.w) (X.A.deeper (envOfC qg sg s.heap.objs.size g cdg)) (.call (.ref f) ⟨[], []⟩) (CR (L2.CX X.prog X.w) (envOfC qg sg s.heap.objs.size g cdg :: X.stack) X.prog X.w HZ s1 Q E) s1 := by
    refine PySem.W.kla_callFunE hr.depth of1 rfl L.co L.gen rfl ⟨c', oc, vs, t, rfl, hoc, hdc, hvc⟩ ?_
    refine hbind s1 ot1 _ _ _ _ ?_
    refine (wpAny_newFunctionEnv (fun y hy => (L.own y hy).2) (fun y hy => by
        have hy : y ∈ [(px, Value.int i0 tk0)] := hy
        rw [List.mem_singleton] at hy
        rw [hy]
        exact L.loc) (fun h₁ hns hsb => ⟨I1.nolimit.fresh _ hsb, ?_⟩) L.kind)
    show codeAny _ _ (.expr body (lamEnv X scope s1.heap.objs.size f c')) _ _
    have kp : ∀ b o, s1.heap.get? b = some o → h₁.get? b = some o := fun b o e => hsb.extBut b o (Nat.ne_of_lt (Heap.lt_size e)) (Heap.get?_push_of_some _ e)
    have J : Inv (lamCx X (X.A.deeper (envOfC qg sg s.heap.objs.size g cdg)) (envOfC qg sg s.heap.objs.size g cdg :: X.stack) s1 HZ E scope f c') [] (σ.set ix none) HZ { s1 with heap := h₁, toks := s1.toks + ([(px, Value.int i0 tk0)] : List (Str × Value)).length } :=
      lam_startD I L I1.env0 hr.hd un hns kp
    refine PySem.W.kla_codeExpr (wpAny_mono ((hbody _ _ s1 HZ (hr.deeper _) hG).run [] _ _ HZ Q J ht) (fun v s' hq => ?_) fun e s' hq => hq)
    obtain ⟨w', H', J', rv, q⟩ := hq
    exact ⟨w', H', J'.os, J'.bare, J'.base, J'.hok, rv, q⟩
  have hx : Passes (L2.CX X.prog X.w) ((cxOf CXg X.prog X.w X.K X.mg X.base Ng qg sg g cdg X.A X.stack s H Eg).tr pn xe) E := passes_call tk hW
  refine wpAny_call (codeAny_mono rc fun r s' hq => ?_)
  cases r with
  | error e => exact hx pinsZ σZ HZ s1 e s' I1 hq
  | ok fl =>
    cases fl with
    | ret u => exact I1.after hq
    | next => exact False.elim hq
    | brk => exact False.elim hq
    | cont => exact False.elim hq
end
section
variable {X : Cx} {pins : List (Addr × Obj)} {σ : L2.St} {H : Hp} {s : Shared}
theorem lam_tailD {T : List (Addr × Str)} {c P t0 : Addr} {params : Arguments} {body : Expr} {scope : Scope} {pos : Pos} {E : Value → Shared → Prop} {Q : Value → Shared → Prop} {ot : Obj} (I : Inv X pins σ H s) (TB : TabB X.base X.mg c P) (hcode : X.env.code = .ref c)
    (hm : (P, X.env.qual ++ "<lambda>") ∈ T) (hu : ∀ p ∈ T, p.1 = P → p.2 = X.env.qual ++ "<lambda>") (hT : Tabs T H) (hfree : ∀ y ∈ scope.names, y.2 = .free → ∃ c, X.env.cells.lookup y.1 = some c)
    (ht0 : s.heap.get? t0 = some ot) (hn0 : H t0 = none)
    (h : ∀ (f c' : Addr) (pm ctv doc : Value) (H1 : Hp) (s' : Shared), Inv X pins σ H1 s' → ExtN H H1 → (∀ b, H b ≠ none → H1 b ≠ none) → Tabs T H1 →
      s'.heap.get? f = some (PySem.W.kdv_obj "<lambda>" (X.env.qual ++ "<lambda>") params (.expr body) scope (cloFrom X.env.cells scope.names []) (.ref t0) doc pm c' ctv) → H1 f = none → f ∉ frs X.stack → H1 c' = some (CodeO c' (X.env.qual ++ "<lambda>")) →
      s'.heap.get? t0 = some ot → H1 t0 = none → Q (.ref f) s') :
    wpAny (model X.prog X.w) X.A (makeTail "<lambda>" (X.env.qual ++ "<lambda>") params (.expr body) scope X.env (.ref t0) .none none pos pos.line) Q E s := by
  obtain ⟨ps, hP, ht, ha⟩ := hT _ hm
  have bP : s.heap.BuiltinsAt X.mg P := TB.bm.keeps I.bk
  have hP' : s.heap.get? P = some { cls := .none, data := .fields ps } := I.hok P _ hP
  have n0P : t0 ≠ P := fun z => by rw [z, hP] at hn0; cases hn0
  have nofr : ∀ f, s.heap.objs.size ≤ f → f ∉ frs X.stack := fun f hf z => by
    rcases List.mem_cons.mp (I.stkSub _ z) with e | e
    · have h1 := I.lt
      rw [← e] at h1
      exact Nat.lt_irrefl _ (Nat.lt_of_lt_of_le h1 hf)
    · exact I.nofs hf e
  cases hc : codeAmong pos ps.toList with
  | none =>
    refine PySem.W.kdv_makeTail (mg := X.mg) (c := c) (P := P) (ps := ps) (closure_ok hfree) I.ok.glob (I.mod.glob.keeps I.bk) hcode (TB.code.keeps I.bk) hP' ht hc TB.gP bP fun c' ctv doc h' tk hx hge hlt hrec htb => ?_
    obtain ⟨c2, oc, vs, t, e2, hoc, hd, hv⟩ := hrec
    cases e2
    have hsz : s.heap.objs.size ≤ h'.objs.size := Nat.le_trans hge (Nat.le_of_lt hlt)
    have nC : H c' = none := I.hok.fresh hge
    have I1 := inv_table (t' := tk) (more := #[rawInt pos.line, rawInt pos.col, .ref c']) (h' := h'.push (PySem.W.kdv_obj "<lambda>" (X.env.qual ++ "<lambda>") params (.expr body) scope (cloFrom X.env.cells scope.names []) (.ref t0) doc ((X.mg "__name__").getD .none) c' ctv)) I hP
      (fun b o hb e => Heap.get?_push_of_some _ (hx b o hb e)) (Heap.get?_push_of_some _ htb) hge ⟨oc, vs, t, Heap.get?_push_of_some _ hoc, hd, hv⟩
    have hE : ExtN H (upd (upd H P (.tbl (ps ++ #[rawInt pos.line, rawInt pos.col, .ref c']))) c' (CodeO c' (X.env.qual ++ "<lambda>"))) := fun b o e n => by
      rw [upd_ne (ne_of_none e nC), upd_ne (fun z => n ps (Option.some.inj (e.symm.trans (by rw [z]; exact hP))))]
      exact e
    have eL : (ps ++ #[rawInt pos.line, rawInt pos.col, .ref c']).toList = ps.toList ++ [rawInt pos.line, rawInt pos.col, .ref c'] := by simp
    refine h h'.objs.size c' ((X.mg "__name__").getD .none) ctv doc _ _ I1 hE (fun b hb => ?_) (fun p hp => ?_) (Heap.get?_push_size _ rfl) ?_ (nofr _ hsz) upd_same (Heap.get?_push_of_some _ (hx _ _ n0P ht0)) ?_
    · by_cases z1 : b = c'
      · rw [z1, upd_same]; simp
      · rw [upd_ne z1]
        by_cases z2 : b = P
        · rw [z2, upd_same]; simp
        · rw [upd_ne z2]; exact hb
    · by_cases hb : p.1 = P
      · rw [hu p hp hb, hb]
        refine ⟨_, by rw [upd_ne (ne_of_none hP nC), upd_same], by rw [eL]; exact PySem.TriplesOk_snoc _ _ _ _ ht, fun p' cv hcv => ?_⟩
        rw [eL] at hcv
        rcases among_app _ ht hcv with z | z
        · obtain ⟨c0, e1, e2⟩ := ha p' cv z
          exact ⟨c0, e1, hE _ _ e2 codeO_ne⟩
        · exact ⟨c', z, upd_same⟩
      · obtain ⟨ps', a1, a2, a3⟩ := hT p hp
        refine ⟨ps', by rw [upd_ne (ne_of_none a1 nC), upd_ne hb]; exact a1, a2, fun p' cv hcv => ?_⟩
        obtain ⟨c0, e1, e2⟩ := a3 p' cv hcv
        exact ⟨c0, e1, hE _ _ e2 codeO_ne⟩
    · have n1 : h'.objs.size ≠ c' := Nat.ne_of_gt hlt
      have n2 : h'.objs.size ≠ P := Nat.ne_of_gt (Nat.lt_of_lt_of_le (Heap.lt_size hP') hsz)
      rw [upd_ne n1, upd_ne n2]
      exact I.hok.fresh hsz
    · have n1 : t0 ≠ c' := Nat.ne_of_lt (Nat.lt_of_lt_of_le (Heap.lt_size ht0) hge)
      rw [upd_ne n1, upd_ne n0P]
      exact hn0
  | some cv =>
    obtain ⟨c', e, hco⟩ := ha pos cv hc
    subst e
    refine PySem.W.kdv_makeTailHit (mg := X.mg) (c := c) (P := P) (ps := ps) (closure_ok hfree) I.ok.glob (I.mod.glob.keeps I.bk) hcode (TB.code.keeps I.bk) hP' ht hc bP fun ctv doc h' tk hx hsz => ?_
    have I1 : Inv X pins σ H { s with heap := h'.push (PySem.W.kdv_obj "<lambda>" (X.env.qual ++ "<lambda>") params (.expr body) scope (cloFrom X.env.cells scope.names []) (.ref t0) doc ((X.mg "__name__").getD .none) c' ctv), toks := tk } := I.kept fun b o e => Heap.get?_push_of_some _ (hx b o e)
    exact h h'.objs.size c' ((X.mg "__name__").getD .none) ctv doc H _ I1 (ExtN.refl H) (fun _ z => z) hT (Heap.get?_push_size _ rfl) (I.hok.fresh hsz) (nofr _ hsz) hco (Heap.get?_push_of_some _ (hx _ _ ht0)) hn0
theorem lam_makeD {T : List (Addr × Str)} {c P : Addr} {params : Arguments} {body : Expr} {scope : Scope} {pos : Pos} {E : Value → Shared → Prop} {Q : Value → Shared → Prop} {i0 : Int} {cp : Pos} {j0} (I : Inv X pins σ H s) (TB : TabB X.base X.mg c P) (hcode : X.env.code = .ref c)
    (hm : (P, X.env.qual ++ "<lambda>") ∈ T) (hu : ∀ p ∈ T, p.1 = P → p.2 = X.env.qual ++ "<lambda>") (hT : Tabs T H) (hd2 : params.defaults = [.Constant (.int i0) j0 cp]) (hk0 : params.kw_defaults = []) (hfree : ∀ y ∈ scope.names, y.2 = .free → ∃ c, X.env.cells.lookup y.1 = some c)
    (h : ∀ (f c' t0 : Addr) (pm ctv doc : Value) (tk0 : Tok) (H1 : Hp) (s' : Shared), Inv X pins σ H1 s' → ExtN H H1 → (∀ b, H b ≠ none → H1 b ≠ none) → Tabs T H1 →
      s'.heap.get? f = some (PySem.W.kdv_obj "<lambda>" (X.env.qual ++ "<lambda>") params (.expr body) scope (cloFrom X.env.cells scope.names []) (.ref t0) doc pm c' ctv) → H1 f = none → f ∉ frs X.stack → H1 c' = some (CodeO c' (X.env.qual ++ "<lambda>")) →
      s'.heap.get? t0 = some (PySem.W.kdv_tup [.int i0 tk0]) → H1 t0 = none → t0 ∉ frs X.stack → Q (.ref f) s') :
    wpAny (model X.prog X.w) X.A (eval (.Lambda params body scope pos) X.env) Q E s := by
  refine PySem.W.kdv_lam (by rw [hd2]; rfl) hk0 ?_
  rw [hd2]
  refine PySem.W.kdv_all1 (thn ((pe_int (X := X) (i := i0) (j := j0) (pos := cp)).run pins s σ H (fun v H1 => v = .int i0 ∧ H1 = H) I ⟨rfl, rfl⟩) fun u0 s1 ⟨v0, H0, I0, r0, ev, eH⟩ => ?_)
  subst ev
  rw [eH] at I0
  obtain ⟨tk0, e0⟩ := (show ∃ t, u0 = Value.int i0 t from r0)
  subst e0
  refine PySem.W.kdv_all0 ?_
  rw [makeFunction_eq]
  simp only [List.zip_nil_right, List.filterMap_nil, List.isEmpty_nil, List.isEmpty_cons, if_true, pure_bind, Bool.false_eq_true, if_false]
  refine wpAny_bind (wpAny_newTextTuple ?_)
  have rt : s1.heap.objs.size ∉ frs X.stack := fun z => by
    rcases List.mem_cons.mp (I0.stkSub _ z) with e | e
    · have h1 := I0.lt
      rw [← e] at h1
      exact Nat.lt_irrefl _ h1
    · exact I0.nofs (Nat.le_refl _) e
  have I1 : Inv X pins σ H { s1 with heap := s1.heap.push (PySem.W.kdv_tup [.int i0 tk0]) } := I0.kept (t' := s1.toks) fun b o e => Heap.get?_push_of_some _ e
  exact lam_tailD I1 TB hcode hm hu hT hfree (Heap.get?_push_size _ rfl) (I0.hok.fresh (Nat.le_refl _)) fun f c' pm ctv doc H1 s' J eN hsN T1 hf hfn hfr hco ht1 hn1 => h f c' _ pm ctv doc tk0 H1 s' J eN hsN T1 hf hfn hfr hco ht1 hn1 rt
end
section
variable {X : Cx} {B : Ent} {ok : OkX} {cls : Clss} {K : PySem.W.Frag} {G H : Hp} {σ : St} {ρ : En}
theorem ee_lamD {x : Str} {c P : Addr} {k j : Nat} {F : R PyData → R PyData} {params : Arguments} {body : Expr} {scope : Scope} {fl : EF} {p lpos pos : Pos} (caps : List Nat) (cx : CtxE cls X B ok) (C : HCallee X.prog X.w X.K X.mg X.base cls B.T (k + 1) x F) (hr : Room j X.A)
    (TB : TabB X.base X.mg c P) (hcode : X.env.code = .ref c) (hmT : (P, X.env.qual ++ "<lambda>") ∈ B.T.t) (hu : ∀ p ∈ B.T.t, p.1 = P → p.2 = X.env.qual ++ "<lambda>") {px : Str} (ix : Nat) {i0 : Int} {cp : Pos} {j0} (L : LamD X.env.scope scope X.N px ix)
    (hbody : ∀ (A : Around) (outer : List Env) (s : Shared) (H : Hp) (E : XK) (f c' : Addr) (B' : Ent) (ok' : OkX), B'.T = B.T → Room k (A.deeper (lamEnv X scope s.heap.objs.size f c')) → A.guards = some [] → CtxE cls (lamCx X A outer s H E scope f c') B' ok' →
      EE (lamCx X A outer s H E scope f c') B' ok' body fl)
    (hk : k + 2 ≤ j := by decide) (hg : Gl X x := by rfl) (hd2 : params.defaults = [.Constant (.int i0) j0 cp] := by rfl) (hk0 : params.kw_defaults = [] := by rfl)
    (hbind : ∀ (q : Str) (cl : List (Str × Addr)) (t0 : Addr) (doc pm cv ctv : Value), ∃ kk, bindArgs (PySem.W.kdv_fn "<lambda>" q params (.expr body) scope cl (.ref t0) doc pm cv ctv) ⟨[], []⟩ = seqItems? (.ref t0) >>= kk ∧ ∀ tk, kk (some #[.int i0 tk]) = pure [(px, .int i0 tk)] := by intro _ _ _ _ _ _ _; exact ⟨_, rfl, fun _ => rfl⟩) (hdb : (x == ("__debug__" : Str)) = false := by decide) :
    EE X B ok (.Call (.Name x p) [.Lambda params body scope lpos] [] pos) (fLamX caps ix F fl) := by
  obtain ⟨E, tk, good⟩ := cx.exc
  have pss : Passes (L2.CX X.prog X.w) X E := passes_call tk fun _ _ _ _ h => h
  obtain ⟨g, fd, a, Ng, st, gh, Fn, S, hN0, hva, hda, hca, hm, hkp, hb, hOk, rfl⟩ := C.ex
  obtain ⟨oc, od, kV, doc, pm, an, cdv, ct, osl, rfl, lk, hcd⟩ := Fn.ex
  -- the reading: what the frame shares is seen from within
  refine ⟨fun σ H Q => ∃ G ρ, Rel X.K B G H σ ρ ∧ ((fnL Ng gh) (valR (fl (shOnly (ρ.set ix .un))))).sat (fun d => ∀ v H' G', Grow B.T [] G H G' H' → Tr X.K G' v d → Q v H') ok, ⟨fun pins s σ H Q I ⟨G, ρ, rl, q⟩ => ?_⟩, fun σ H G ρ Q r q => ?_⟩
  · have hT := rl.tabs cx.tabs
    refine wpAny_Call_Name_kw (ld_glob I hg hm ?_ hdb)
    refine PySem.W.callWith_K (h₀ := X.base) I.ok.mod.kin hkp ?_ (by rfl) (by rfl)
    show wpAny _ _ (spliced ((false, eval (.Lambda params body scope lpos) X.env) :: backTo pos (starEach [] X.env))) _ _ s
    refine Calls.spliced_cons (lam_makeD I TB hcode hmT hu hT.1 hd2 hk0 (L.has I.ok) fun f c' t0 pm' ctv doc tk0 H1 s' I1 eN hsN T1 hf hfn hfr hco ht1 hn1 hr1 => ?_)
    refine Calls.spliced_nil ⟨I1.kIn, ?_⟩
    -- the making of the lambda is a growth
    have g1 : Grow B.T [] G H G H1 := grow_lam rl.sub eN hsN T1
    have rl1 := rl.step g1
    have B0T : Base X.K B.T G H1 := ⟨T1, hT.2⟩
    have rc : codeAny (model X.prog X.w) X.A (.call (.ref g) ⟨[.ref f], []⟩) (CR (L2.CX X.prog X.w) X.stack X.prog X.w H1 s' Q E) s' := by
      refine run_ofS (N := Ng) (ps := [a]) (us := [.ref f]) (vs := [.ref f]) lk hcd S (hr.mono hk) I1.env0 (hb s' [.ref f] I1.kIn rfl) (.cons rfl .nil) rfl fun hr' => ?_
      have cxg := ctx_of (cls := cls) (P := X.prog) (w := X.w) (K := X.K) (mg := X.mg) (base := X.base) (N := Ng) (qual := x) (sc := defScope st) (f := g) (cdv := cdv) (A := X.A) (outer := X.stack) (s := s') (H := H1) (E := E) (B := { T := B.T, io := [], G := G, H := H1, lam := f }) B0T cx.gd
      have thk : Thk cls (cxOf (L2.CX X.prog X.w) X.prog X.w X.K X.mg X.base Ng x (defScope st) g cdv X.A X.stack s' H1 E) { T := B.T, io := [], G := G, H := H1, lam := f } a (valR (fl (shOnly (ρ.set ix .un)))) := by
        intro pn xe B2 ok2 p1 p2 cx2 eH eT eIo eL sG
        obtain ⟨E2, tk2, good2⟩ := cx2.exc
        refine ⟨_, pe_actD (i := 0) (i0 := i0) (tk0 := tk0) (px := px) (t0 := t0) (E := E2) (tb := fun σ' HZ Q => ∃ G1, Sub G G1 ∧ (∀ b o, G1 b = some o → HZ b = some o ∧ ∀ ps, o ≠ .tbl ps) ∧ Base X.K B.T G1 HZ ∧ Rel X.K B G H1 σ' (ρ.set ix .un) ∧
            (valR (fl (shOnly (ρ.set ix .un)))).sat (fun d => ∀ v H' G', Grow B.T [] G1 HZ G' H' → Tr X.K G' v d → Q v H') (ErrOk X.K B.T cls [] G1 HZ E2)) I1 L hf hfn hfr ht1 hn1 hr1 (fun s0 hs0 => by obtain ⟨kk, b1, b2⟩ := hbind (X.env.qual ++ "<lambda>") (cloFrom X.env.cells scope.names []) t0 doc pm' (.ref c') ctv; exact BindsTo.of_defaults rfl hs0 rfl b1 (b2 tk0)) tk2 (fun _ _ _ _ h => h) (k := k) hr' cx.gd
          (fun A outer s2 H2 hr2 hg2 => ?_) hN0 hva hda hca, fun σ2 HZ GZ ρ2 Q2 rz qz => ?_⟩
        · refine ⟨fun pins2 s3 σ3 HZ Q3 I3 ⟨G1, sG1, sub3, bs, rl3, q3⟩ => ?_⟩
          have cxl : CtxE cls (lamCx X A outer s2 H2 E2 scope f c') { T := B.T, io := [], G := G1, H := HZ } (ErrOk X.K B.T cls [] G1 HZ E2) :=
            ⟨rfl, bs, hg2, E2, takes_of rfl rfl rfl rfl, fun _ _ h => h⟩
          obtain ⟨t, pe, kk⟩ := (hbody A outer s2 H2 E2 f c' { T := B.T, io := [], G := G1, H := HZ } _ rfl hr2 hg2 cxl).ex
          refine pe.run pins2 s3 σ3 HZ Q3 I3 (kk σ3 HZ G1 (shOnly (ρ.set ix .un)) Q3 (rel_shOnly rl3 sG1 sub3) ?_)
          cases ef : fl (shOnly (ρ.set ix .un)) with
          | ok y =>
            rw [ef] at q3
            exact fun v H' G' _ r' t' => q3 v H' G' r'.bd t'
          | er c d => rw [ef] at q3; exact q3
          | no => rw [ef] at q3; exact q3
        · obtain ⟨h0, qz⟩ := ite_sat qz
          · have e0 : σ2[0]? = some (some (.ref B2.lam)) := rz.at_ 0 _ (isLam_is h0)
            rw [eL] at e0
            have ec : HZ c' = some (CodeO c' (X.env.qual ++ "<lambda>")) := rz.bd.hm c' _ (by rw [eH]; exact hco) (by rw [eIo]; simp) codeO_ne
            have bz := rz.tabs cx2.tabs
            rw [eT] at bz
            refine ⟨e0, ec, GZ, sG.trans rz.bd.gm, rz.sub, bz, rl1.setUn, ?_⟩
            cases ev : valR (fl (shOnly (ρ.set ix .un))) with
            | ok d =>
              rw [ev] at qz
              intro v H' G' g' t'
              have g2 : Grow B2.T [] GZ HZ G' H' := by rw [eT]; exact g'
              exact qz v H' G' (Adv.grow g2) (rz.step g2) t'
            | er c d =>
              rw [ev] at qz
              have z := (good2 c d qz).later rz.bd
              rw [eT, eIo] at z
              exact z
            | no => rw [ev] at qz; exact qz
      obtain ⟨t, pt, kt⟩ := (hOk cdv X.A X.stack s' H1 E { T := B.T, io := [], G := G, H := H1, lam := f } _ (valR (fl (shOnly (ρ.set ix .un)))) rfl rfl hr' cx.gd cxg thk).ex
      refine ⟨t, pt, kt _ H1 G (startL Ng) _ (rel_startL rl1.sub hN0) ?_⟩
      unfold fnL at q
      cases e : gh (valR (fl (shOnly (ρ.set ix .un)))) (startL Ng) with
      | nx ρ' => rw [e] at q; exact fun σ H' G' s' r => q .non H' G' (g1.trans r.bd) .non
      | rt d ρ' => rw [e] at q; exact fun v σ H' G' s' r t' => q v H' G' (g1.trans r.bd) t'
      | rn d ρ' =>
        rw [e] at q
        exact fun p σ H' G' s' r x => by
          obtain ⟨G2, s2, _, r2, t2⟩ := r.frz x
          exact q _ H' G2 (g1.trans r2.bd) t2
      | er c d =>
        rw [e] at q
        have z := ((good c d q).later rl1.bd).io
        exact z
      | bk ρ' => rw [e] at q; exact q.elim
      | ct ρ' => rw [e] at q; exact q.elim
      | no => rw [e] at q; exact q.elim
    refine wpAny_call (codeAny_mono rc fun r s2 hq => ?_)
    cases r with
    | error e => exact pss pins σ _ _ e s2 I1 hq
    | ok fl =>
      cases fl with
      | ret u => exact I1.after hq
      | next => exact False.elim hq
      | brk => exact False.elim hq
      | cont => exact False.elim hq
  · obtain ⟨G', a', r'⟩ := fzsA (is := caps) r
    refine ⟨G', _, r', (R.sat_bind q).imp fun d qd v H2 G2 g t => ?_⟩
    exact qd v H2 G2 (a'.trans (Adv.grow g)) (r'.step g) t
end
end Y


/-! YIsi: isinstance of an error, or of any other value, and an error's class. -/
namespace Y
open PySem PySem.Spec PyProof.Rows L2
/-- what a class tells of isinstance: of the errors, of all else -/
structure IsaC (K : PySem.W.Frag) (es : List Str) (sub : Str → Str → Bool) (x : Str) (u : Value) : Prop where
  exc : ∀ c ∈ es, ∀ C, clsOf K c = some C → ExcC K C ∧ PySem.W.kitOne K (.ref C) u = some (sub c x)
  typ : ∀ t ∈ ["NoneType", "bool", "int", "str", "list", "tuple", "dict"], PySem.W.kitOne K (.type t) u = some false
def isaV (es : List Str) (sub : Str → Str → Bool) (n : Str) : PyData → Option Bool
  | .dict [(.none, .str c), (.none, _)] => if c ∈ es then some (sub c n) else none
  | d => if isExc d = false then some false else none
def fIsa (es : List Str) (sub : Str → Str → Bool) (n : Str) (f : EF) : EF := fun ρ => (f ρ).bind fun x => match isaV es sub n x.1 with
  | some b => .ok (.bool b, x.2)
  | none => .no
theorem isa_ok {X : Cx} {pins : List (Addr × Obj)} {σ : St} {H G : Hp} {s : Shared} {es : List Str} {sub : Str → Str → Bool} {n : Str} {v : V} {u cu : Value} {d : PyData} {b : Bool} {A : Around} {E : Value → Shared → Prop} {Q : Value → Shared → Prop} (I : Inv X pins σ H s) (hs : Sub G H) (t : Tr X.K G v d) (rv : RelV v u) (C : IsaC X.K es sub n cu)
    (hb : isaV es sub n d = some b) (h : ∀ tk, Q (.bool b) { s with toks := tk }) : wpAny (model X.prog X.w) A (call (.builtin "isinstance") [u, cu]) Q E s := by
  by_cases hx : isExc d = false
  · have e : b = false := by
      unfold isaV at hb
      split at hb
      · cases hx
      · rw [if_pos hx] at hb
        exact (Option.some.inj hb).symm
    subst e
    obtain ⟨P, Z, p, hne⟩ := kit_of I rv (tyx_of hs t hx)
    exact PySem.W.kia_one Z I.kIn p (C.typ _ (tyOf_mem d)) hne h
  · cases t with
    | @exc a dx D c v0 d0 ha hn hd t0 =>
      have hb : (if c ∈ es then some (sub c n) else none) = some b := hb
      split at hb
      · rename_i hc
        cases hb
        obtain ⟨T, k⟩ := C.exc c hc D hn
        obtain rfl : u = Value.ref a := rv
        obtain ⟨⟨oe, vs, ho, hz, hda⟩, _⟩ := (show ObjOk X.prog X.w H s.heap a (Y.ExF a (.ref D) dx) from I.hok a _ (hs _ _ ha))
        obtain ⟨mA, hns, hr⟩ := (show ObjOk X.prog X.w H s.heap dx (.xd [(fld c, v0)]) from I.hok dx _ (hs _ _ hd))
        obtain ⟨od, hod, hl⟩ := lookIn_ns hns
        have J : PySem.W.InstAt s.heap a oe D (some od) := ⟨ho, hz.1, by unfold PySem.W.notCls; rw [hda] <;> rfl, by rw [hz.2]; exact hod⟩
        exact PySem.W.kia_one (PySem.W.kitx_exc (by obtain ⟨cd, hc, _⟩ := PySem.W.any_some T.hd; rw [hc]; rfl) T.hg T.hk T.hs T.ha T.hn T.ht T.hm) I.kIn J k (fun z => nomatch z) h
      · cases hb
    | dK h t =>
      exfalso
      apply hx
      cases t with
      | nil => rfl
      | @cons k _ _ _ _ _ _ => cases k <;> rfl
    | dX _ _ _ ne t =>
      exfalso
      cases t with
      | nil => exact ne rfl
      | cons _ _ hd _ _ _ => obtain ⟨ds, rfl⟩ := hd; simp [isaV, isExc] at hb
    | _ => exact absurd rfl hx
/-- isinstance(x, c) -/
def rIsaE (es : List Str) (sub : Str → Str → Bool) (n : Str) (K : PySem.W.Frag) (cu : Value) : List V → Hp → VK → Prop := fun xs H Q => ∃ (v c : V) (d : PyData) (G : Hp) (b : Bool), xs = [v, c] ∧ (∀ u, RelV c u → u = cu) ∧ Sub G H ∧ Tr K G v d ∧
  isaV es sub n d = some b ∧ Q (.bl b) H
theorem call_isaE {X : Cx} {es : List Str} {sub : Str → Str → Bool} {n : Str} {cu : Value} (C : IsaC X.K es sub n cu) : CallR X (.builtin "isinstance") (rIsaE es sub n X.K cu) := by
  intro pins s σ H xs us Q I r h
  obtain ⟨v, c, d, G, b, rfl, hc, hs, t, hb, q⟩ := h
  obtain ⟨u1, u2, rfl, r1, r2⟩ := vals2 r
  obtain rfl := hc _ r2
  exact isa_ok I hs t r1 C hb fun tk => ⟨.bl b, H, I.tok tk, rfl, q⟩
section
variable {X : Cx} {B : Ent} {ok : OkX} {e : Expr} {f : EF} {pos p : Pos} {es : List Str} {sub : Str → Str → Bool} {n : Str}
/-- an own class -/
theorem ee_isaO {D : Addr} {p1 : Pos} (hm : X.mg "isinstance" = none) (hy : X.mg n = some (.ref D)) (C : IsaC X.K es sub n (.ref D)) (h : EE X B ok e f) (hg : Gl X "isinstance" := by rfl) (hgy : Gl X n := by rfl) (hdy : (n == ("__debug__" : Str)) = false := by decide)
    (h1 : starEach [e, .Name n p1] X.env = (false, eval e X.env) :: starEach [.Name n p1] X.env := by rfl) (h2 : starEach [.Name n p1] X.env = (false, eval (.Name n p1) X.env) :: starEach [] X.env := by rfl)
    (hpl : (backTo pos (starEach [.Name n p1] X.env)).any (·.1) = false := by rfl) : EE X B ok (.Call (.Name "isinstance" p) [e, .Name n p1] [] pos) (fIsa es sub n f) := by
  obtain ⟨t, pe, k⟩ := h.ex
  have py : PE X (.Name n p1) (tC (.ref D)) := pe_glob (v := .ref D) hgy hy rfl hdy
  refine ⟨_, pe_callB (call_isaE C) hg hm (by decide +kernel) (pa_cons pe (pa_cons py pa_nil h2) h1) (by decide) (by decide) h1 hpl, fun σ H G ρ Q r q => k σ H G ρ _ r ((R.sat_bind q).imp fun y q v H1 G1 s1 r1 t1 => ?_)⟩
  cases hb : isaV es sub n y.1 with
  | none => rw [hb] at q; exact q.elim
  | some b => rw [hb] at q; exact ⟨v, .ref D, y.1, G1, b, rfl, fun u r => r, r1.subG, t1, hb, q _ H1 G1 s1 r1 (.bl b)⟩
/-- a built-in class -/
theorem ee_isaB {y : Str} {m : String} {p1 : Pos} (hm : X.mg "isinstance" = none) (hy : X.mg y = none) (hv : bootBuiltins y = some (.type m)) (C : IsaC X.K es sub y (.type m)) (h : EE X B ok e f) (hg : Gl X "isinstance" := by rfl) (hgy : Gl X y := by rfl)
    (hny : y ≠ "__name__" := by decide) (hdy : (y == ("__debug__" : Str)) = false := by decide)
    (h1 : starEach [e, .Name y p1] X.env = (false, eval e X.env) :: starEach [.Name y p1] X.env := by rfl) (h2 : starEach [.Name y p1] X.env = (false, eval (.Name y p1) X.env) :: starEach [] X.env := by rfl)
    (hpl : (backTo pos (starEach [.Name y p1] X.env)).any (·.1) = false := by rfl) : EE X B ok (.Call (.Name "isinstance" p) [e, .Name y p1] [] pos) (fIsa es sub y f) := by
  obtain ⟨t, pe, k⟩ := h.ex
  have py : PE X (.Name y p1) (tC (.ty m)) := pe_bltn hgy hy hv rfl hny hdy
  refine ⟨_, pe_callB (call_isaE C) hg hm (by decide +kernel) (pa_cons pe (pa_cons py pa_nil h2) h1) (by decide) (by decide) h1 hpl, fun σ H G ρ Q r q => k σ H G ρ _ r ((R.sat_bind q).imp fun yy q v H1 G1 s1 r1 t1 => ?_)⟩
  cases hb : isaV es sub y yy.1 with
  | none => rw [hb] at q; exact q.elim
  | some b => rw [hb] at q; exact ⟨v, .ty m, yy.1, G1, b, rfl, fun u r => r, r1.subG, t1, hb, q _ H1 G1 s1 r1 (.bl b)⟩
end
/-! looked at -/
def excCB (K : PySem.W.Frag) (D : Addr) : Bool :=
  decide (PySem.W.findIn K (.ref D) "__getattribute__" = some (some (.builtin "BaseException.__getattribute__"))) && (decide (PySem.W.findIn K (.ref D) "__getattr__" = some none) && (decide (PySem.W.subIn K (.ref D) (.type "BaseException") = some true) && (PySem.W.hasDictIn K D &&
    (decide (PySem.W.findIn K (.ref D) "__class__" = some (some (.builtin "object.__class__"))) && (decide (PySem.W.specialIn K (.builtin "object.__class__") "__get__" = some (some (.builtin "getset_descriptor.__get__"))) && (decide (PySem.W.takesIn K (.builtin "object.__class__") = some true) && decide (PySem.W.mroIn K D (.type "object") = some true)))))))
theorem excCB_ok {K : PySem.W.Frag} {D : Addr} (h : excCB K D = true) : ExcC K D := by
  unfold excCB at h
  simp only [Bool.and_eq_true, decide_eq_true_eq] at h
  obtain ⟨h1, h2, h3, h4, h5, h6, h7, h8⟩ := h
  exact ⟨h1, h2, h3, h4, h5, h6, h7, h8⟩
def isaB (K : PySem.W.Frag) (es : List Str) (ad : Str → Addr) (sub : Str → Str → Bool) (x : Str) (u : Value) : Bool :=
  es.all (fun c => decide (clsOf K c = some (ad c)) && (excCB K (ad c) && decide (PySem.W.kitOne K (.ref (ad c)) u = some (sub c x)))) && ["NoneType", "bool", "int", "str", "list", "tuple", "dict"].all fun t => decide (PySem.W.kitOne K (.type t) u = some false)
theorem isaB_ok {K : PySem.W.Frag} {es : List Str} {ad : Str → Addr} {sub : Str → Str → Bool} {x : Str} {u : Value} (h : isaB K es ad sub x u = true) : IsaC K es sub x u := by
  unfold isaB at h
  simp only [Bool.and_eq_true, decide_eq_true_eq, List.all_eq_true] at h
  refine ⟨fun c hc C hC => ?_, fun t ht => h.2 t ht⟩
  obtain ⟨h1, h2, h3⟩ := h.1 c hc
  rw [h1] at hC
  cases hC
  exact ⟨excCB_ok h2, h3⟩
end Y


/-! YSet: len(set(xs)), xs a list of tuples of ints. -/
namespace Y
open PySem PySem.Spec PyProof.Rows L2
def isI : List PyData → Option (List Int)
  | [] => some []
  | .int i :: r => (isI r).map (i :: ·)
  | _ => none
def tupsI : List PyData → Option (List (List Int))
  | [] => some []
  | .tuple ds :: r => match isI ds, tupsI r with
    | some k, some ks => some (k :: ks)
    | _, _ => none
  | _ => none
def ddup {α : Type} [DecidableEq α] : List α → List α
  | [] => []
  | x :: xs => if x ∈ xs then ddup xs else x :: ddup xs
theorem mem_ddup {α : Type} [DecidableEq α] {x : α} : ∀ {l : List α}, x ∈ ddup l ↔ x ∈ l
  | [] => Iff.rfl
  | y :: l => by
    unfold ddup
    split
    · rename_i h
      rw [mem_ddup, List.mem_cons]
      exact ⟨.inr, fun z => z.elim (fun e => e ▸ h) id⟩
    · rw [List.mem_cons, List.mem_cons, mem_ddup]
theorem nodup_ddup {α : Type} [DecidableEq α] : ∀ {l : List α}, (ddup l).Nodup
  | [] => List.nodup_nil
  | y :: l => by
    unfold ddup
    split
    · exact nodup_ddup
    · rename_i h
      exact List.nodup_cons.mpr ⟨fun z => h (mem_ddup.mp z), nodup_ddup⟩
theorem len_le_of_sub {α : Type} [DecidableEq α] : ∀ {l D : List α}, l.Nodup → (∀ x ∈ l, x ∈ D) → l.length ≤ D.length
  | [], _, _, _ => Nat.zero_le _
  | x :: l, D, hn, hs => by
    obtain ⟨h1, h2⟩ := List.nodup_cons.mp hn
    have hx : x ∈ D := hs x List.mem_cons_self
    have ih := len_le_of_sub (l := l) (D := D.erase x) h2 fun y hy => (List.mem_erase_of_ne (fun (e : y = x) => h1 (e ▸ hy))).2 (hs y (List.mem_cons_of_mem _ hy))
    have e := List.length_erase_of_mem hx
    have hp : 0 < D.length := List.length_pos_of_mem hx
    rw [List.length_cons]
    omega
theorem len_same {α : Type} [DecidableEq α] {l m : List α} (hl : l.Nodup) (hm : m.Nodup) (h : ∀ x, x ∈ l ↔ x ∈ m) : l.length = m.length :=
  Nat.le_antisymm (len_le_of_sub hl fun x hx => (h x).mp hx) (len_le_of_sub hm fun x hx => (h x).mpr hx)
section
variable {K : PySem.W.Frag} {G : Hp}
theorem isI_tr : ∀ {xs : List V} {ds : List PyData} {k : List Int}, TrAll K G xs ds → isI ds = some k → xs = k.map V.int
  | _, _, _, .nil, h => by cases h; rfl
  | _, _, _, .cons (d := d) t r, h => by
    cases d with
    | int i =>
      unfold isI at h
      obtain ⟨k', h1, h2⟩ := Option.map_eq_some_iff.mp h
      subst h2
      cases t
      rw [isI_tr r h1]; rfl
    | _ => cases h
theorem tupsI_tr : ∀ {xs : List V} {ds : List PyData} {kss : List (List Int)}, TrAll K G xs ds → tupsI ds = some kss →
    ∃ ks : List (Addr × List Int), xs = ks.map (fun p => V.ref p.1) ∧ ks.map (·.2) = kss ∧ ∀ p ∈ ks, Rd G p.1 (.tup (p.2.map V.int))
  | _, _, _, .nil, h => by cases h; exact ⟨[], rfl, rfl, fun p hp => by cases hp⟩
  | _, _, _, .cons (d := d) t r, h => by
    cases d with
    | tuple es =>
      unfold tupsI at h
      split at h
      · rename_i k ks h1 h2
        cases h
        obtain ⟨L, e1, e2, e3⟩ := tupsI_tr r h2
        cases t with | @tup a xs _ ha ta =>
        have e := isI_tr ta h1
        rw [e] at ha
        refine ⟨(a, k) :: L, by rw [e1]; rfl, by rw [List.map_cons, e2], fun p hp => ?_⟩
        rcases List.mem_cons.mp hp with rfl | hp
        · exact ha
        · exact e3 p hp
      · cases h
    | _ => cases h
end
def gLenSet : PyData → Option PyData
  | .list ds => match tupsI ds with
    | some kss => if kss.length < 64 then some (.int (ddup kss).length) else none
    | none => none
  | _ => none
def fLenSet (f : EF) : EF := fun ρ => (f ρ).bind fun x => match gLenSet x.1 with
  | some d => .ok (d, x.2)
  | none => .no
def tLenSetT (K : PySem.W.Frag) (ta : TE) : TE := fun σ H Q => ta σ H fun x H1 => ∃ (l : Addr) (ks : List (Addr × List Int)), x = V.ref l ∧ SqL K H1 l (ks.map fun p => V.ref p.1) ∧ (∀ p ∈ ks, SqT K H1 p.1 (p.2.map V.int)) ∧ ks.length < 64 ∧ Q (.int (ddup (ks.map (·.2))).length) H1
section
variable {X : Cx} {B : Ent} {ok : OkX} {e : Expr} {f : EF} {pos p p2 q : Pos} {k : Nat}
theorem pe_lenSetT {a : Expr} {ta : TE} (hc : X.calm = true) (hu : X.A.units + 64 < cLine) (hg : Gl X "len") (hm : X.mg "len" = none) (hg2 : Gl X "set") (hm2 : X.mg "set" = none) (ha : PE X a ta)
    (na : starEach [a] X.env = (false, eval a X.env) :: starEach [] X.env := by rfl) : PE X (.Call (.Name "len" p) [.Call (.Name "set" p2) [a] [] q] [] pos) (tLenSetT X.K ta) := by
  refine ⟨fun pins s σ H Q I h => ?_⟩
  refine Call_ (ld_blt I hg hm PySem.boot_len ?_)
  refine PyProof.Rows.callWith_builtin1 (PyProof.Rows.args_cons ?_ rfl) rfl rfl
  refine Call_ (ld_blt I hg2 hm2 PyProof.Rows.boot_set ?_)
  refine PyProof.Rows.callWith_type1 (PyProof.Rows.args_cons (thn (ha.run pins s σ H _ I h) fun v s1 ⟨x, H1, I1, r1, q1⟩ => PyProof.Rows.args_nil ?_) na) na rfl
  obtain ⟨l, ks, rfl, hq, hk, hf, q1⟩ := q1
  cases r1
  obtain ⟨its, rv, pl, hz⟩ := I1.list hq
  refine call_set_tups (P := X.prog) (w := X.w) ks (I1.ok.hd hc) pl.isList (by simpa using refs_of_vals rv) (fun p hp => I1.isT (hk p hp)) hf (by omega) fun h' tk L es ep t R g kp => ?_
  refine PyProof.Rows.args_nil ?_
  have I2 : Inv X pins σ H1 { s1 with heap := h', toks := tk } := I1.kept fun b o e => kp b o e
  obtain ⟨o, ho, hex, hd⟩ := R.ob
  have sz : es.size = L.length := R.size (s := { s1 with heap := h' })
  have en : L.length = (ddup (ks.map (·.2))).length := by
    rw [← List.length_map (f := (·.2))]
    refine len_same R.nd nodup_ddup fun x => ?_
    rw [mem_ddup]
    constructor
    · intro hx
      obtain ⟨p, hp, e⟩ := List.mem_map.mp hx
      exact List.mem_map.mpr ⟨p, List.mem_of_mem_take (g.sub p hp), e⟩
    · intro hx
      obtain ⟨p, hp, e⟩ := List.mem_map.mp hx
      exact e ▸ g.all p (by rw [List.take_length]; exact hp)
  have few := R.few
  refine call_len_set ho hex hd ?_ ?_ ⟨.int (ddup (ks.map (·.2))).length, H1, I2.tok _, ⟨_, by rw [sz, en]⟩, q1⟩
  · exact R.fits (s := { s1 with heap := h' })
  · rw [sz]; omega
theorem ee_lenSet (hc : X.calm = true) (hr : Room k X.A) (hm : X.mg "len" = none) (hm2 : X.mg "set" = none) (h : EE X B ok e f) (hg : Gl X "len" := by rfl) (hg2 : Gl X "set" := by rfl)
    (na : starEach [e] X.env = (false, eval e X.env) :: starEach [] X.env := by rfl) : EE X B ok (.Call (.Name "len" p) [.Call (.Name "set" p2) [e] [] q] [] pos) (fLenSet f) := by
  obtain ⟨t, pe, kk⟩ := h.ex
  refine ⟨_, pe_lenSetT hc (by have := hr.un; omega) hg hm hg2 hm2 pe na, fun σ H G ρ Q r q => kk σ H G ρ _ r ((R.sat_bind q).imp fun y q v H1 G1 s1 r1 t1 => ?_)⟩
  cases hy : gLenSet y.1 with
  | none => rw [hy] at q; exact q.elim
  | some d =>
    rw [hy] at q
    unfold gLenSet at hy
    split at hy
    · rename_i ds ed
      split at hy
      · rename_i kss ek
        split at hy
        · rename_i hl
          cases hy
          rw [ed] at t1
          cases t1 with | @lst a xs _ ha ta =>
          obtain ⟨ks, e1, e2, e3⟩ := tupsI_tr ta ek
          subst e2
          rw [e1] at ha
          exact ⟨a, ks, rfl, .inl (r1.subG.rd ha), fun p hp => sqt (r1.subG.rd (e3 p hp)), by rw [List.length_map] at hl; exact hl, q _ H1 G1 s1 r1 (.int _)⟩
        · cases hy
      · cases hy
    · cases hy
end
end Y


/-! YNew: an error made, as a value. -/
namespace Y
open PySem PySem.Spec PyProof.Rows L2 YEX
section
variable {X : Cx} {B : Ent} {ok : OkX} {cls : Clss} {e : Expr} {f : EF} {p pos : Pos} {k j : Nat}
/-- from a made error to a tracked one -/
theorem mkP_track {pins : List (Addr × Obj)} {σ : St} {C : Addr} {u : Value} {s' : Shared} {R : Addr → Hp → Prop} (h : MkP X pins σ (fun cls d H' => ∃ dx, cls = .ref C ∧ d = some dx ∧ ∀ a, H' a = none → R a (upd H' a (ExF a (.ref C) dx))) u s') :
    ∃ a H2, u = .ref a ∧ Inv X pins σ H2 s' ∧ R a H2 := by
  obtain ⟨a, oe, vs, sI, H', cl, d, rfl, J, k, hne, ha, hz, hd, h1, na, os, ag, r, dx, rfl, rfl, q⟩ := h
  have J2 : Inv X pins σ H' s' := J.call' (ch := []) os (Un.kept k) (J.hok.kept k) ag (fun b z => absurd z (by simp))
  have n0 : X.s_0.heap.get? a = none ∨ a ∈ X.ex := by
    cases q0 : X.s_0.heap.get? a with
    | none => exact .inl rfl
    | some o =>
      by_cases hx : a ∈ X.ex
      · exact .inr hx
      · obtain ⟨o', z⟩ := J.base.there a o q0 hx
        rw [hne] at z; cases z
  have nL : a ≠ X.env.locals := fun z => by
    obtain ⟨m, ⟨o, es, ep, e1, _⟩, _⟩ := J.loc
    rw [← z, hne] at e1; cases e1
  have np : ∀ p ∈ X.pn ++ pins, p.1 ≠ a := fun p hp z => by
    have := (J.pin p hp).1
    rw [z, hne] at this; cases this
  exact ⟨a, _, rfl, J2.trackE ha hz hd n0 na nL np, q a na⟩
theorem pe_of_mk {t : St → Hp → XK → Prop} {C : Addr} (h : PMk X e t) : PE X e (fun σ H Q => t σ H fun cls d H' => ∃ dx, cls = .ref C ∧ d = some dx ∧ ∀ a, H' a = none → Q (.ref a) (upd H' a (ExF a (.ref C) dx))) := by
  refine ⟨fun pins s σ H Q I q => thn (h pins s σ H _ I q) fun u s' hu => ?_⟩
  obtain ⟨a, H2, rfl, J, r⟩ := mkP_track hu
  exact ⟨.ref a, H2, J, rfl, r⟩
def fNew (c : Str) (f : EF) : EF := fun ρ => (f ρ).bind fun x => .ok (excD c x.1, x.2)
/-- what comes behind the making, by data -/
theorem new_fin {c : Str} {C dx : Addr} {σ : St} {H H1 G G1 : Hp} {ρ ρ1 : En} {v : V} {d : PyData} {Q : VK} (hC : clsOf X.K c = some C) (s1 : Adv σ G H ρ G1 H1 ρ1) (r1 : Rel X.K B G1 H1 σ ρ1) (t1 : Tr X.K G1 v d) (hdx : H1 dx = none)
    (q : ∀ v' H' G', Adv σ G H ρ G' H' ρ1 → Rel X.K B G' H' σ ρ1 → Tr X.K G' v' (excD c d) → Q v' H') : ∀ a, upd H1 dx (.xd [(fld c, v)]) a = none → Q (.ref a) (upd (upd H1 dx (.xd [(fld c, v)])) a (ExF a (.ref C) dx)) := by
  intro a ha
  have ne : a ≠ dx := fun z => by rw [z, upd_same] at ha; cases ha
  have g1 : Grow B.T [] G1 H1 (upd G1 dx (.xd [(fld c, v)])) (upd H1 dx (.xd [(fld c, v)])) := Grow.new r1.sub hdx (fun _ z => nomatch z)
  have r2 := r1.step g1
  have g2 : Grow B.T [] (upd G1 dx (.xd [(fld c, v)])) (upd H1 dx (.xd [(fld c, v)])) (upd (upd G1 dx (.xd [(fld c, v)])) a (ExF a (.ref C) dx)) (upd (upd H1 dx (.xd [(fld c, v)])) a (ExF a (.ref C) dx)) := Grow.new r2.sub ha (fun _ z => nomatch z)
  refine q _ _ _ ((s1.trans (Adv.grow g1)).trans (Adv.grow g2)) (r2.step g2) (.exc upd_same hC ?_ ((t1.mono g1.gm).mono g2.gm))
  exact g2.gm _ _ upd_same
/-- C(e) -/
theorem ee_new {c : Str} {C : Addr} (cx : CtxE cls X B ok) (D : ErrC X.prog X.w X.K X.mg X.base k c C) (hC : clsOf X.K c = some C) (hr : Room j X.A) (he : EE X B ok e f) (hk : k + 1 ≤ j := by decide) (hg : Gl X c := by rfl)
    (hdb : (c == ("__debug__" : Str)) = false := by decide) (hs : starEach [e] X.env = (false, eval e X.env) :: starEach [] X.env := by rfl) (hpl : (backTo pos (starEach [] X.env)).any (·.1) = false := by rfl) :
    EE X B ok (.Call (.Name c p) [e] [] pos) (fNew c f) := by
  obtain ⟨E, tk, good⟩ := cx.exc
  obtain ⟨T, newId, initId, tl, fI, fd, ps, b, O, hno, iC, tI, F1, hb⟩ := D.ex
  obtain ⟨t, pe, ke⟩ := he.ex
  refine ⟨_, pe_of_mk (C := C) (pmk_G b O hno iC tI F1 (hr.mono hk) cx.gd hb (passes_call tk fun _ _ _ _ h => h.elim) hg D.mg pe hdb hs hpl), fun σ H G ρ Q r q => ?_⟩
  refine ke σ H G ρ _ r ((R.sat_bind q).imp fun y qy v H1 G1 s1 r1 t1 dx hdx => ?_)
  exact ⟨dx, rfl, rfl, new_fin hC s1 r1 t1 hdx fun v' H' G' a b c => qy v' H' G' a b c⟩
end
end Y


/-! YIdx: xs.index(x), found; xs a list or a tuple of any value. -/
namespace Y
open PySem PySem.Spec PyProof.Rows L2 SeqAt
def idxB (ds : List PyData) (d : PyData) : List Bool := ds.map fun z => PyData.eqv z d
def gIndex (a d : PyData) : Option PyData := match itemsOf a with
  | some ds => if SeqAt.shaped d = true ∧ SeqAt.shaped (.list ds) = true ∧ ds.length ≤ 1000000 ∧ true ∈ idxB ds d then some (.int ((idxB ds d).idxOf true : Nat)) else none
  | none => none
def rIdx (K : PySem.W.Frag) : V → List V → Hp → VK → Prop := fun x xs H Q => ∃ (a : Addr) (y : V) (d : PyData) (vs : List V) (ds : List PyData), x = V.ref a ∧ xs = [y] ∧ (SqL K H a vs ∨ SqT K H a vs) ∧ DpAll K H vs ds ∧ Dp K H y d ∧ SeqAt.shaped (.list ds) = true ∧ SeqAt.shaped d = true ∧
  ds.length ≤ 1000000 ∧ true ∈ idxB ds d ∧ Q (.int ((idxB ds d).idxOf true : Nat)) H
theorem items_of {X : Cx} {pins : List (Addr × Obj)} {σ : St} {H : Hp} {s : Shared} {vs : List V} {ds : List PyData} {its : List Value} {y : V} {d : PyData} {u : Value} (I : Inv X pins σ H s) (ha : DpAll X.K H vs ds) (rv : Vals vs its) (hd : Dp X.K H y d) (ry : RelV y u)
    (sl : SeqAt.shaped (.list ds) = true) (sd : SeqAt.shaped d = true) (hu : X.A.units + 65 < cLine) : ItemsEq X.A.in1 s its (idxB ds d) u true := by
  obtain ⟨bs, r1⟩ := Dp.reads I d y u hd ry
  obtain ⟨as, h4⟩ := Dp.readsAll I ds _ its ha rv
  have hxs : PyData.canLayAll0 ds = true := SeqAt.canLay_of_shaped sl
  have hroom : X.A.units + 1 + min (PyData.depthAll ds) d.depth < cLine := room_in_shaped sd hu
  have hn : its.length = ds.length := SeqAt.ReadsAll.length ds its as h4
  have hmap : its.map (SeqAt.readOf s.heap) = ds := SeqAt.readsAll_map ds its as hxs h4
  have key := SeqAt.items_eqAt (vs := its.toArray) (show ReadsAll s.heap its.toArray.toList ds as from h4) r1 hxs (SeqAt.canLay_of_shaped sd) hroom
  refine ⟨by unfold idxB; rw [List.length_map]; exact hn, fun j h1 h2 => ?_⟩
  have e : (idxB ds d)[j] = PyData.eqv (SeqAt.readOf s.heap its[j]) d := by
    have e0 : (idxB ds d)[j]? = some (idxB ds d)[j] := List.getElem?_eq_getElem h2
    have e1 : (its.map (SeqAt.readOf s.heap))[j]? = some (SeqAt.readOf s.heap its[j]) := by rw [List.getElem?_map, List.getElem?_eq_getElem h1]; rfl
    rw [hmap] at e1
    have e2 : (idxB ds d)[j]? = some (PyData.eqv (SeqAt.readOf s.heap its[j]) d) := by
      show (ds.map fun z => PyData.eqv z d)[j]? = _
      rw [List.getElem?_map, e1]; rfl
    rw [e0] at e2
    exact Option.some.inj e2
  have k := key its[j] (by simp)
  have eb : decide ((idxB ds d)[j] = true) = PyData.eqv (SeqAt.readOf s.heap its[j]) d := by
    rw [e]
    cases PyData.eqv (SeqAt.readOf s.heap its[j]) d <;> rfl
  rw [eb]
  exact k
theorem mt_idxL {X : Cx} (hu : X.A.units + 65 < cLine) : MtR X "list.index" (fun x xs H Q => ∃ (a : Addr) (y : V) (d : PyData) (vs : List V) (ds : List PyData), x = V.ref a ∧ xs = [y] ∧ SqL X.K H a vs ∧ DpAll X.K H vs ds ∧ Dp X.K H y d ∧ SeqAt.shaped (.list ds) = true ∧ SeqAt.shaped d = true ∧
    ds.length ≤ 1000000 ∧ true ∈ idxB ds d ∧ Q (.int ((idxB ds d).idxOf true : Nat)) H) := by
  intro pins s σ H x xs v us Q I rx rxs h
  obtain ⟨a, y, d, vs, ds, rfl, rfl, hs, ha, hd, sl, sd, hz, hm, q⟩ := h
  cases rx
  cases rxs with | cons ry rt =>
  cases rt
  obtain ⟨its, rv, pl, hlen⟩ := I.list hs
  refine call_list_index pl.isList (items_of I ha rv hd ry sl sd hu) ?_ hm ⟨.int _, H, I.tok _, ⟨_, rfl⟩, q⟩
  unfold idxB
  rw [List.length_map]
  have z : (1000000 : Nat) < sizeLine := by decide
  omega
theorem mt_idxT {X : Cx} (hu : X.A.units + 65 < cLine) : MtR X "tuple.index" (fun x xs H Q => ∃ (a : Addr) (y : V) (d : PyData) (vs : List V) (ds : List PyData), x = V.ref a ∧ xs = [y] ∧ SqT X.K H a vs ∧ DpAll X.K H vs ds ∧ Dp X.K H y d ∧ SeqAt.shaped (.list ds) = true ∧ SeqAt.shaped d = true ∧
    ds.length ≤ 1000000 ∧ true ∈ idxB ds d ∧ Q (.int ((idxB ds d).idxOf true : Nat)) H) := by
  intro pins s σ H x xs v us Q I rx rxs h
  obtain ⟨a, y, d, vs, ds, rfl, rfl, hs, ha, hd, sl, sd, hz, hm, q⟩ := h
  cases rx
  cases rxs with | cons ry rt =>
  cases rt
  obtain ⟨its, rv, ⟨o, ho, hc, n, hdt⟩, hlen⟩ := I.tuple hs
  exact call_tuple_index ⟨o, ho, hc, n, hdt⟩ (items_of I ha rv hd ry sl sd hu) hm ⟨.int _, H, I.tok _, ⟨_, rfl⟩, q⟩
/-! ### D[e].index(x), D a dict of the module -/
/-- a known tuple of the module -/
def tyF (x : V) (H : Hp) : Prop := ∃ (b : Addr) (o : Obj) (xs : List V), x = .ref b ∧ H b = some (.frz o (.tup xs)) ∧ o.dict = none
theorem tyF_is {X : Cx} {pins : List (Addr × Obj)} {σ : St} {H : Hp} {s : Shared} {x : V} {v : Value} (I : Inv X pins σ H s) (r : RelV x v) (ty : tyF x H) : s.TypeIs v "tuple" ∧ ∀ a, v = .ref a → ∃ ob, s.heap.get? a = some ob ∧ ob.dict = none := by
  obtain ⟨b, o, xs, rfl, hb, hd⟩ := ty
  obtain rfl : v = Value.ref b := r
  obtain ⟨ho, _, its, _, o', h1, h2, _⟩ := (show ObjOk X.prog X.w H s.heap b (.frz o (.tup xs)) from I.hok b _ hb)
  rw [ho] at h1
  cases h1
  exact ⟨⟨o, ho, h2⟩, fun a e => by cases e; exact ⟨o, ho, hd⟩⟩
def tBF (r : V → List V → Hp → VK → Prop) (to : TE) (t : TA) : TE := fun σ H Q => to σ H fun x H1 => tyF x H1 ∧ t σ H1 fun xs H2 => r x xs H2 Q
section
variable {X : Cx} {B : Ent} {ok : OkX} {cls : Clss} {o e a : Expr} {es : List Expr} {to : TE} {t : TA} {name : Str} {apos cpos p pos : Pos} {id : String} {r : V → List V → Hp → VK → Prop} {f g : EF} {k : Nat}
theorem pe_bF (slot : Slot "tuple" name id) (hty : typeOf (.builtin id) = pure (.type "method_descriptor")) (hm : MtR X id r) (ho : PE X o to) (ha : PA X (e :: es) t)
    (hbase : attributeBase o name X.env (eval o X.env) = eval o X.env)
    (hfew : ((backTo cpos (starEach (e :: es) X.env)).all (fun x => !x.1) && (backToKw cpos (keywordEach [] X.env)).all (fun x => x.1.isSome)
      && decide ((e :: es).length + ([] : List Keyword).length + (if ([] : List Keyword).isEmpty then 0 else 1) < 30)) = true)
    (hline : (apos.endLine == cpos.line) = true) (hs : starEach (e :: es) X.env = (false, eval e X.env) :: starEach es X.env) (hplain : (backTo cpos (starEach es X.env)).any (·.1) = false) :
    PE X (.Call (.Attribute o name apos) (e :: es) [] cpos) (tBF r to t) := by
  refine ⟨fun pins s σ H Q I h => ?_⟩
  refine wpAny_Call_method_late hbase hfew hline rfl (thn (ho.run pins s σ H _ I h) fun v s1 ⟨x, H1, I1, r1, ty, q1⟩ => ?_)
  obtain ⟨h1, h2⟩ := tyF_is I1 r1 ty
  refine ⟨"tuple", id, PySem.F.plainAttrs_tuple, slot, hty, h1, h2, ?_⟩
  have hA := ha.run cpos pins s1 σ H1 _ I1 q1
  rw [hs] at hA ⊢
  refine Calls.callWith_builtin (by show (false || (backTo cpos (starEach es X.env)).any (·.1)) = false; rw [hplain] <;> rfl) (Calls.evalArgs_plain ?_)
  exact thn hA fun us s2 ⟨vs, H2, I2, r2, q2⟩ => hm pins s2 σ H2 x vs v us Q I2 r1 r2 q2
theorem kvF_look {K : PySem.W.Frag} {G : Hp} : ∀ {kvs : List (Key × V)} {es : List (PyData × PyData)} (k : Key) {d : PyData}, TrFKV K G kvs es → lkD es (.inl k) = some d → ∃ v, valV kvs k = some v ∧ TrF K G v d
  | _, _, k, _, .nil, e => by cases e
  | _, _, k, dd, .cons (k := k') (v := v) (d := d) h t, e => by
    by_cases ek : k' = k
    · subst ek
      refine ⟨v, by simp [valV, List.find?_cons], ?_⟩
      unfold lkD at e
      rw [List.find?_cons, kc_kD] at e
      simp at e
      exact e ▸ h
    · have e2 : decide (kc (kD k') = some (.inl k)) = false := by rw [kc_kD]; simp [ek]
      have a1 : ∀ r : List (Key × V), valV ((k', v) :: r) k = valV r k := fun r => valV_neg ek
      have a2 : ∀ es, lkD ((kD k', d) :: es) (.inl k) = lkD es (.inl k) := fun es => by unfold lkD; rw [List.find?_cons]; simp only [e2]
      rw [a2] at e
      rw [a1]
      exact kvF_look k t e
/-- the function: the item, then its index -/
def fCidx (es : List (PyData × PyData)) (f g : EF) : EF := fun ρ => (f ρ).bind fun x => match (kc x.1).bind (lkD es) with
  | some (.tuple ds) => (g x.2).bind fun y => (ofO (gIndex (.tuple ds) y.1)).bind fun z => .ok (z, y.2)
  | _ => .no
theorem ee_cidx {x : Str} {ds : List (PyData × PyData)} {spos : Pos} (hr : Room k X.A) (hc : Cst X.K B.T B.G) (h : ∃ a, X.mg x = some (.ref a) ∧ (V.ref a, PyData.dict ds) ∈ B.T.c) (he : EE X B ok e f) (ha : EE X B ok a g)
    (hg : Gl X x := by rfl) (hd : (x == ("__debug__" : Str)) = false := by decide) (hns : NoSl e := by intro _ _; rfl)
    (hbase : attributeBase (.Subscript (.Name x p) e spos) "index" X.env (eval (.Subscript (.Name x p) e spos) X.env) = eval (.Subscript (.Name x p) e spos) X.env := by rfl)
    (hfew : ((backTo cpos (starEach [a] X.env)).all (fun x => !x.1) && (backToKw cpos (keywordEach [] X.env)).all (fun x => x.1.isSome)
      && decide ([a].length + ([] : List Keyword).length + (if ([] : List Keyword).isEmpty then 0 else 1) < 30)) = true := by rfl)
    (hline : (apos.endLine == cpos.line) = true := by rfl) (hs : starEach [a] X.env = (false, eval a X.env) :: starEach [] X.env := by rfl) (hplain : (backTo cpos (starEach [] X.env)).any (·.1) = false := by rfl) :
    EE X B ok (.Call (.Attribute (.Subscript (.Name x p) e spos) "index" apos) [a] [] cpos) (fCidx ds f g) := by
  obtain ⟨ad, hm, hmem⟩ := h
  obtain ⟨te, pe, ke⟩ := he.ex
  obtain ⟨tg, pg, kg⟩ := ha.ex
  have pn : PE X (.Name x p) (tC (.ref ad)) := pe_glob (v := .ref ad) hg hm rfl hd
  have hu : X.A.units + 65 < cLine := by have := hr.un; omega
  refine ⟨_, pe_bF PySem.F.slot_tuple_index PySem.F.type_tuple_index (mt_idxT hu) (pe_dget (by omega) pn pe hns) (pa_cons pg pa_nil hs) hbase hfew hline hs hplain, fun σ H G ρ Q r q => ?_⟩
  refine ke σ H G ρ _ r ((R.sat_bind q).imp fun y q v H1 G1 s1 r1 t1 => ?_)
  have cst : TrF X.K G1 (.ref ad) (.dict ds) := (hc.mono (r.bd.gm.trans s1.sub)) _ hmem
  cases hk : (kc y.1).bind (lkD ds) with
  | none => rw [hk] at q; exact q.elim
  | some d =>
    rw [hk] at q
    obtain ⟨c, hc2, hl⟩ := Option.bind_eq_some_iff.mp hk
    cases d with
    | tuple dt =>
      cases cst with | dK hH tk =>
      obtain ⟨kk, rfl, e2, rfl⟩ := key_tr t1 hc2
      obtain ⟨u, e1, tu⟩ := kvF_look kk tk hl
      refine ⟨ad, u, rfl, ?_, ?_⟩
      · rw [← e1]
        exact dget_rd (r1.subG.rd hH)
      · cases tu with | @tup b o xs _ hb hdn ta =>
        refine ⟨⟨b, o, xs, rfl, r1.subG _ _ hb, hdn⟩, ?_⟩
        refine kg σ H1 G1 y.2 _ r1 ((R.sat_bind (r := g y.2) (f := fun z => (ofO (gIndex (.tuple dt) z.1)).bind fun w => R.ok (w, z.2)) q).imp fun z qz w H2 G2 s2 r2 t2 => ?_)
        obtain ⟨rr, er, qr⟩ := ofO_sat (R.sat_bind qz)
        unfold gIndex at er
        have hi : itemsOf (.tuple dt) = some dt := rfl
        rw [hi] at er
        dsimp only at er
        split at er
        · rename_i hcnd
          cases er
          obtain ⟨c1, c2, c3, c4⟩ := hcnd
          have fl : flatAll dt = true := by
            have := flat_of c2
            simpa [flat] using this
          refine ⟨b, w, z.1, xs, dt, rfl, rfl, sqt (r2.subG.rd (.inr ⟨o, s2.sub _ _ hb⟩)), TrAll.dp fl (((ta.tr).mono s2.sub).mono r2.subG), Dp.mono' r2.subG (flat_of c1) t2, c2, c1, c3, c4, ?_⟩
          exact qr _ H2 G2 (s1.trans s2) r2 (.int _)
        · cases er
    | _ => exact q.elim
end
end Y


/-! YEnd: the end of a law row, for promises that are kept where nothing is being shown. -/
namespace Y
open PySem PySem.Spec PyProof.Rows L2 LamX
theorem noCX {P : Program} {w : World} {H : Hp} {s : Shared} {e : Value} {s' : Shared} (h : L2.CX P w [] H s (fun _ _ _ => False) e s') : False := by
  obtain ⟨_, _, _, _, _, _, _, _, _, _, _, _, z⟩ := h
  exact z
/-! ### the module's constants: hidden from the frame's base, frozen -/
def absAll : List Value → Option (List V)
  | [] => some []
  | u :: us => match absV u, absAll us with
    | some v, some vs => some (v :: vs)
    | _, _ => none
def absEs : List DictEntry → Option (List (Key × V))
  | [] => some []
  | e :: es => match e.key, absV e.val, absEs es with
    | .str x _, some v, some kvs => some ((.inr x, v) :: kvs)
    | _, _, _ => none
/-- what a constant's object shows -/
def hoC (o : Obj) : Option HO := match o.data with
  | .seq its _ => (absAll its.toList).map .tup
  | .dict es _ => (absEs es.toList).map .dK
  | _ => none
/-- a hidden object: what it is, whatever else is tracked -/
def HidO (w : World) (b : Addr) (o : Obj) : Prop := ∃ u, hoC o = some u ∧ (∀ (P : Program) (H : Hp) (h : Heap), h.get? b = some o → ObjOk P w H h b u) ∧ o.cls ≠ .type "list" ∧ b ≠ builtinsNs ∧ b ≠ cStatics ∧ b ≠ mainGlobals
theorem HidO.data {w : World} {b : Addr} {o : Obj} (h : HidO w b o) : (∃ its n, o.data = .seq its n) ∨ ∃ es n, o.data = .dict es n := by
  obtain ⟨u, e, _⟩ := h
  unfold hoC at e
  split at e
  · rename_i its n q; exact .inl ⟨its, n, q⟩
  · rename_i es n q; exact .inr ⟨es, n, q⟩
  · cases e
theorem lk_mem {hs : List (Addr × Obj)} {b : Addr} {o : Obj} (h : hs.lookup b = some o) : (b, o) ∈ hs := by
  induction hs with
  | nil => cases h
  | cons p r ih =>
    obtain ⟨c, u⟩ := p
    cases e : (b == c) with
    | true =>
      rw [List.lookup, e] at h
      cases h
      rw [beq_iff_eq.mp e]
      exact List.mem_cons_self
    | false =>
      rw [List.lookup, e] at h
      exact List.mem_cons_of_mem _ (ih h)
theorem lk_of_mem {hs : List (Addr × Obj)} {b : Addr} {o : Obj} (h : (b, o) ∈ hs) : ∃ o', hs.lookup b = some o' := by
  induction hs with
  | nil => cases h
  | cons p r ih =>
    obtain ⟨c, u⟩ := p
    cases e : (b == c) with
    | true => exact ⟨u, by rw [List.lookup, e]⟩
    | false =>
      rcases List.mem_cons.mp h with z | z
      · cases z; simp at e
      · obtain ⟨o', q⟩ := ih z
        exact ⟨o', by rw [List.lookup, e]; exact q⟩
/-- the law called from the bottom, by a def that keeps its promise where nothing is being shown -/
theorem law_callG {P : Program} {w : World} {K : PySem.W.Frag} {mg mb : Str → Option Value} {k : Nat} {fa a : Addr} {cs : List (Addr × Addr)} {fd : FuncData} {x : Str} {sp : Sp} {s₁ : Shared} {vs : List Value} {ns : List Int} {hs : List (Addr × Obj)}
    (KX : K.In s₁.heap) (hns : s₁.heap.Ns mainGlobals mg) (hb : s₁.heap.Ns builtinsNs mb) (hbb : ∀ x : Str, x ≠ "__name__" → mb x = bootBuiltins x) (hlim : s₁.heap.NoLimit) (hg : s₁.gens = #[]) (nL : ∀ b o, K.lookup b = some o → o.cls ≠ .type "list")
    (hT : ∀ p ∈ cs, s₁.heap.get? p.2 = some { cls := .none, data := .fields #[] }) (nT : ∀ p ∈ cs, K.lookup p.2 = none) (C : ∀ p ∈ cs, PySem.W.CodeHd s₁.heap p.1 p.2)
    (hH0 : ∀ p ∈ hs, s₁.heap.get? p.1 = some p.2) (nH : ∀ p ∈ hs, K.lookup p.1 = none) (uH : ∀ p ∈ hs, HidO w p.1 p.2)
    (hbm : ∃ (bm : Addr) (ob : Obj), mg "__builtins__" = some (.ref bm) ∧ bm ≠ builtinsNs ∧ s₁.heap.get? bm = some ob ∧ ob.cls = .type "module" ∧ ob.dict = some builtinsNs ∧ ob.data = .plain)
    (ha : s₁.heap.get? a = some { cls := .type "list", data := .seq vs.toArray }) (hi : IntsAre vs ns) (hl : ns.length ≤ sizeLine) (hr : Room k callerA) (hG : callerA.guards = some [])
    (F : ∀ base : Heap, K.In base → base.Ns mainGlobals mg → (∀ p ∈ cs, TabB base mg p.1 p.2) → FnG P w K mg base k fa fd [x] sp) (hbind : ∀ (s : Shared) (u : Value), BindsTo s fd ⟨[u], []⟩ [(x, u)])
    (hsp : ∀ H : Hp, (∀ p ∈ cs, H p.2 = some (.tbl #[])) → (∀ p ∈ hs, ∃ u, hoC p.2 = some u ∧ H p.1 = some (.frz p.2 u)) → Rd H a (.lst (ns.map V.int)) → sp [.ref a] H (fun v _ => v = .bl true) fun _ _ _ => False) :
    codeAny (model P w) callerA (.call (.ref fa) ⟨[.ref a], []⟩) (fun r s' => r = .ok (.ret (.bool true)) ∧ OldK s₁.heap s'.heap ∧ s'.os = s₁.os ∧ AllBare s'.gens) s₁ := by
  have rv := vals_ints hi
  have lenV := hi.length
  have isT : ∀ b : Addr, b ∈ cs.map (·.2) → s₁.heap.get? b = some { cls := .none, data := .fields #[] } := fun b hb => by
    obtain ⟨p, hp, e⟩ := List.mem_map.mp hb
    rw [← e]
    exact hT p hp
  have aT : a ∉ cs.map (·.2) := fun z => by
    have q := isT a z
    rw [ha] at q
    have z' : Data.seq vs.toArray _ = Data.fields #[] := congrArg Obj.data (Option.some.inj q)
    cases z'
  have memT : ∀ p ∈ cs, p.2 ∈ cs.map (·.2) := fun p hp => List.mem_map.mpr ⟨p, hp, rfl⟩
  have isH : ∀ {b : Addr} {o : Obj}, hs.lookup b = some o → s₁.heap.get? b = some o ∧ HidO w b o ∧ K.lookup b = none := fun {b o} h => ⟨hH0 _ (lk_mem h), uH _ (lk_mem h), nH _ (lk_mem h)⟩
  have aH : hs.lookup a = none := by
    cases q : hs.lookup a with
    | none => rfl
    | some o =>
      obtain ⟨e, ⟨_, _, _, z, _⟩, _⟩ := isH q
      rw [ha] at e
      cases e
      exact absurd rfl z
  have tH : ∀ b : Addr, b ∈ cs.map (·.2) → hs.lookup b = none := fun b hb => by
    cases q : hs.lookup b with
    | none => rfl
    | some o =>
      obtain ⟨e, hu, _⟩ := isH q
      rw [isT b hb] at e
      cases e
      rcases hu.data with ⟨_, _, z⟩ | ⟨_, _, z⟩ <;> cases z
  -- from an abstract heap in which nothing but the script and the tables may be tracked
  have core : ∀ H : Hp, (∀ p ∈ cs, H p.2 = some (.tbl #[])) → (∀ p ∈ hs, ∃ u, hoC p.2 = some u ∧ H p.1 = some (.frz p.2 u)) → (∀ b, H b = none ∨ b ∈ cs.map (·.2) ∨ ∃ o u, H b = some (.frz o u)) → Rd H a (.lst (ns.map V.int)) → HOk P w H s₁.heap → (∀ b, H b ≠ none → b = a ∨ b ∈ cs.map (·.2) ∨ ∃ o, hs.lookup b = some o) → (H a ≠ none → K.lookup a = none) →
      codeAny (model P w) callerA (.call (.ref fa) ⟨[.ref a], []⟩) (fun r s' => r = .ok (.ret (.bool true)) ∧ OldK s₁.heap s'.heap ∧ s'.os = s₁.os ∧ AllBare s'.gens) s₁ := by
    intro H hH hC hO hS hok hA hK
    have base_of : ∀ {b : Addr} {o : Obj}, s₁.heap.get? b = some o → H b = none → (hidT s₁.heap H).get? b = some o := fun e n => hidT_get e n
    have noD : ∀ {b : Addr} {o : Obj}, s₁.heap.get? b = some o → (∀ vs n, o.data ≠ .seq vs n) → o.data ≠ .fields #[] → ((∀ es n, o.data ≠ .dict es n) ∨ b = builtinsNs ∨ b = cStatics ∨ b = mainGlobals) → H b = none := fun {b o} e h1 h2 h3 => by
      cases q : H b with
      | none => rfl
      | some u =>
        rcases hA b (by rw [q]; simp) with e' | e' | ⟨o', e'⟩
        · rw [e', ha] at e
          cases e
          exact (h1 _ _ rfl).elim
        · rw [isT b e'] at e
          cases e
          exact (h2 rfl).elim
        · obtain ⟨e2, hu, _⟩ := isH e'
          rw [e] at e2
          cases e2
          rcases hu.data with ⟨its, n, z⟩ | ⟨es, n, z⟩
          · exact (h1 _ _ z).elim
          · obtain ⟨_, _, _, _, n1, n2, n3⟩ := hu
            rcases h3 with h3 | h3 | h3 | h3
            · exact (h3 _ _ z).elim
            · exact (n1 h3).elim
            · exact (n2 h3).elim
            · exact (n3 h3).elim
    have noA : ∀ {b : Addr} {o : Obj} {es : Array DictEntry} {ep : Nat}, s₁.heap.get? b = some o → o.data = .dict es ep → (b = builtinsNs ∨ b = cStatics ∨ b = mainGlobals) → H b = none := fun {b o es ep} e d hb => by
      refine noD e (fun vs n z => ?_) (fun z => ?_) (.inr hb)
      · rw [d] at z
        cases z
      · rw [d] at z
        cases z
    have nsK : ∀ {b : Addr} {m : Str → Option Value}, s₁.heap.Ns b m → (b = builtinsNs ∨ b = cStatics ∨ b = mainGlobals) → (hidT s₁.heap H).Ns b m := fun {b m} ⟨o, es, ep, e, d, r⟩ hb => ⟨o, es, ep, base_of e (noA e d hb), d, r⟩
    have hKb : K.In (hidT s₁.heap H) := fun b o e => base_of (KX b o e) (by
      cases q : H b with
      | none => rfl
      | some u =>
        rcases hA b (by rw [q]; simp) with e' | e' | ⟨o', e'⟩
        · rw [e'] at e q
          rw [hK (by rw [q]; simp)] at e
          cases e
        · obtain ⟨p, hp, ep⟩ := List.mem_map.mp e'
          rw [← ep, nT p hp] at e
          cases e
        · rw [(isH e').2.2] at e
          cases e)
    have hM : L2.Mod K mg (hidT s₁.heap H) := ⟨hKb, nsK hns (.inr (.inr rfl)), ⟨mb, nsK hb (.inl rfl), hbb⟩, let ⟨mc, h1, h2⟩ := hlim; ⟨mc, nsK h1 (.inr (.inl rfl)), h2⟩⟩
    have TB : ∀ p ∈ cs, TabB (hidT s₁.heap H) mg p.1 p.2 := fun p hp => by
      have hTp := hT p hp
      refine ⟨?_, ?_, fun z => ?_⟩
      · obtain ⟨o, us, file, tf, flags, tg, inF, text, tt, e1, r1, r2, r3, r4, r5, r6, r7, r8, hne⟩ := C p hp
        refine ⟨o, us, file, tf, flags, tg, inF, text, tt, base_of e1 (noD e1 (fun vs n z => ?_) (fun z => ?_) (.inl fun es n z => ?_)), r1, r2, r3, r4, r5, r6, r7, r8, hne⟩
        · rw [r2] at z
          cases z
        · rw [r2] at z
          cases z
          simp at r3
        · rw [r2] at z
          cases z
      · obtain ⟨bm, ob, b1, b2, b3, b4, b5, b6⟩ := hbm
        have nG : bm ≠ mainGlobals := fun q => by
          obtain ⟨o, es, ep, e, hd, _⟩ := hns
          rw [q, e] at b3
          cases b3
          rw [hd] at b6
          cases b6
        have nP : bm ≠ p.2 := fun q => by
          rw [q, hTp] at b3
          cases b3
          cases b6
        refine ⟨bm, ob, b1, b2, nG, nP, base_of b3 (noD b3 (fun vs n z => ?_) (fun z => ?_) (.inl fun es n z => ?_)), b4, b5, b6⟩
        · rw [b6] at z
          cases z
        · rw [b6] at z
          cases z
        · rw [b6] at z
          cases z
      · obtain ⟨o, es, ep, e, hd, _⟩ := hns
        rw [z, hTp] at e
        cases e
        cases hd
    have e0 : Env0 P w K mg (hidT s₁.heap H) callerA [] s₁ H := ⟨rfl, hM, fun b o e => of_hidT e, Nat.le_of_eq (hidT_size _ _), trivial, fun b hb => absurd (show b ∈ ([] : List Addr) from hb) (by simp), hok, .of_eq hg⟩
    refine codeAny_mono ((F _ hKb (nsK hns (.inr (.inr rfl))) TB).run callerA [] s₁ H ⟨[.ref a], []⟩ [.ref a] [.ref a] _ _ hr hG e0 (hbind s₁ (.ref a)) (.cons rfl .nil) (hsp H hH hC hS)) fun r s' h => ?_
    cases r with
    | error e => exact (noCX h).elim
    | ok fl =>
      cases fl with
      | next => exact False.elim h
      | brk => exact False.elim h
      | cont => exact False.elim h
      | ret u =>
        obtain ⟨v, H', os, bare, un, hok', r', q⟩ := h
        have q' : v = .bl true := q
        subst q'
        obtain rfl : u = Value.bool true := r'
        have key : ∀ b o, b ∉ cs.map (·.2) → s₁.heap.get? b = some o → s'.heap.get? b = some o := fun b o nb e => by
          cases q : H b with
          | none => exact un.keep b o e q (by intro z; exact absurd (show b ∈ ([] : List Addr) from z) (by simp)) (by simp)
          | some u =>
            rcases hO b with z | z | ⟨ob, xs, z⟩
            · rw [q] at z; cases z
            · exact absurd z nb
            · have z2 := un.frzs b ob _ z
              obtain ⟨e1, _⟩ := hok b _ z
              obtain ⟨e2, _⟩ := hok' b _ z2
              rw [e] at e1; cases e1
              exact e2
        have grown : ∀ p ∈ cs, ∃ more : Array Value, s'.heap.get? p.2 = some { cls := .none, data := .fields more } := fun p hp => by
          obtain ⟨more, z⟩ := un.tbls p.2 #[] (hH p hp)
          exact ⟨_, hok' p.2 _ z⟩
        refine ⟨rfl, ⟨fun b o e => ?_, fun b o e => ?_⟩, os, bare⟩
        · by_cases hb : b ∈ cs.map (·.2)
          · obtain ⟨p, hp, ep⟩ := List.mem_map.mp hb
            obtain ⟨more, hm⟩ := grown p hp
            rw [← ep] at e ⊢
            rw [hT p hp] at e
            cases e
            exact .inr (.inl ⟨((C p hp).tab (hT p hp)).isCodeTable, rfl, #[], more, rfl, by rw [Array.empty_append]; exact hm⟩)
          · exact .inl (key b o hb e)
        · by_cases hb : b ∈ cs.map (·.2)
          · obtain ⟨p, hp, ep⟩ := List.mem_map.mp hb
            obtain ⟨more, hm⟩ := grown p hp
            rw [← ep]
            exact ⟨_, hm⟩
          · exact ⟨o, key b o hb e⟩
  cases hk : K.lookup a with
  | some o =>
    have e := KX a o hk
    rw [ha] at e
    cases e
    exact absurd rfl (nL a _ hk)
  | none =>
    refine core (fun b => if b = a then some (.frz { cls := .type "list", data := .seq vs.toArray } (.lst (ns.map V.int))) else if b ∈ cs.map (·.2) then some (.tbl #[]) else (hs.lookup b).bind fun o => (hoC o).map (HO.frz o)) (fun p hp => (if_neg (show ¬ p.2 = a from fun z => aT (by rw [← z]; exact memT p hp))).trans (if_pos (memT p hp))) (fun p hp => ?_) (fun b => ?_)
      (.inr ⟨{ cls := .type "list", data := .seq vs.toArray }, if_pos rfl⟩) (fun b u z => ?_) (fun b z => ?_) fun _ => hk
    · obtain ⟨o', q⟩ := lk_of_mem hp
      obtain ⟨e1, hu, _⟩ := isH q
      rw [hH0 p hp] at e1
      cases e1
      have n1 : ¬ p.1 = a := fun z => by rw [z, aH] at q; cases q
      have n2 : ¬ p.1 ∈ cs.map (·.2) := fun z => by rw [tH _ z] at q; cases q
      obtain ⟨u, e, _⟩ := hu
      refine ⟨u, e, (if_neg n1).trans ((if_neg n2).trans ?_)⟩
      rw [q]
      show (hoC p.2).map _ = _
      rw [e]
      rfl
    · by_cases hb : b = a
      · exact .inr (.inr ⟨_, _, if_pos hb⟩)
      · by_cases hb2 : b ∈ cs.map (·.2)
        · exact .inr (.inl hb2)
        · cases q : hs.lookup b with
          | none => exact .inl ((if_neg hb).trans (if_neg hb2))
          | some o =>
            obtain ⟨_, ⟨u, e, _⟩, _⟩ := isH q
            exact .inr (.inr ⟨o, u, (if_neg hb).trans ((if_neg hb2).trans (by show (hoC o).map _ = _; rw [e]; rfl))⟩)
    · by_cases hb : b = a
      · have z' := (if_pos hb).symm.trans z
        cases z'
        rw [hb]
        exact ⟨ha, by rw [List.length_map]; exact hl, vs, _, rv, ha⟩
      · have z1 := (if_neg hb).symm.trans z
        by_cases hb2 : b ∈ cs.map (·.2)
        · have z' := (if_pos hb2).symm.trans z1
          cases z'
          exact isT b hb2
        · have z' := (if_neg hb2).symm.trans z1
          cases q : hs.lookup b with
          | none => rw [q] at z'; cases z'
          | some o =>
            obtain ⟨e0, ⟨u', e, ok', _⟩, _⟩ := isH q
            rw [q] at z'
            have z2 : (hoC o).map (HO.frz o) = some u := z'
            rw [e] at z2
            cases z2
            exact ⟨e0, ok' P _ _ e0⟩
    · by_cases hb : b = a
      · exact .inl hb
      · by_cases hb2 : b ∈ cs.map (·.2)
        · exact .inr (.inl hb2)
        · cases q : hs.lookup b with
          | none => exact absurd ((if_neg hb).trans ((if_neg hb2).trans (by rw [q]; rfl))) z
          | some o => exact .inr (.inr ⟨o, rfl⟩)
/-- what is known of the law's promise at the head's heap h -/
def LawAtG (l : PySem.W.OpenLaw) (w : World) (K : PySem.W.Frag) (k n : Nat) (x : Str) (mg : Str → Option Value) (fa : Addr) (h : Heap) : Prop :=
  ∃ (fd : FuncData) (cs : List (Addr × Addr)) (hs : List (Addr × Obj)) (sp : Sp), ((∀ p ∈ hs, h.get? p.1 = some p.2) ∧ (∀ p ∈ hs, K.lookup p.1 = none) ∧ ∀ p ∈ hs, HidO w p.1 p.2) ∧ (∀ b o, K.lookup b = some o → o.cls ≠ .type "list") ∧ (∀ p ∈ cs, h.get? p.2 = some { cls := .none, data := .fields #[] }) ∧ (∀ p ∈ cs, K.lookup p.2 = none) ∧ (∀ p ∈ cs, PySem.W.CodeHd h p.1 p.2) ∧ (∀ (s : Shared) (u : Value), BindsTo s fd ⟨[u], []⟩ [(x, u)]) ∧
    (∀ (H : Hp) (a : Addr) (ns : List Int), ns.length ≤ n → (∀ z ∈ ns, Builtin.Int.intBits z ≤ 1048576) → (∀ p ∈ cs, H p.2 = some (.tbl #[])) → (∀ p ∈ hs, ∃ u, hoC p.2 = some u ∧ H p.1 = some (.frz p.2 u)) → Rd H a (.lst (ns.map V.int)) → sp [.ref a] H (fun v _ => v = .bl true) fun _ _ _ => False) ∧
    ∀ base : Heap, K.In base → base.Ns mainGlobals mg → (∀ p ∈ cs, TabB base mg p.1 p.2) → FnG l.prog w K mg base k fa fd [x] sp
theorem walk_ofG {l : PySem.W.OpenLaw} {n k : Nat} {q : Program} {loose : List Str} {XP : (Str → Option Value) → Heap → Prop} {YP : World → Heap → Prop} {d : DefRec} {x : Str}
    (hn : l.most = some n) (hn2 : n ≤ sizeLine) (hdf : d.params.defaults = []) (hr : Room k callerA) (hG : callerA.guards = some [])
    (F : ∀ (w : World) (mg : Str → Option Value) (fa : Addr) (h : Heap), YP w h → h.Ns mainGlobals mg → mg d.name = some (.ref fa) → ∃ K : PySem.W.Frag, K.In h ∧ LawAtG l w K k n x mg fa h) :
    PySem.W.WalkO q loose XP YP l.row.toRowW d [] (fun f vs => PySem.call f vs) := by
  refine Att.attach_callB hn hdf fun w s₀ s₁ mg mb fa o pm cd doc a vs ns G Yh ho hd hcd hmg hobj hints hlen hbits hg => ?_
  obtain ⟨K, KX, fd, cs, hs, sp, ⟨hH0, nH, uH⟩, nL, hT, nT, C, hb, hsp, hF⟩ := F w mg fa _ Yh G.T.g hmg
  exact law_callG KX G.T.g G.T.b G.T.builtins G.T.nolimit hg nL hT nT C hH0 nH uH G.T.bmain hobj hints (Nat.le_trans hlen hn2) hr hG hF hb (fun H hH hC hS => hsp H a ns hlen hbits hH hC hS)
end Y


/-! YGen: what the printed texts lean on. -/
namespace Y
open PySem PySem.Spec PyProof.Rows L2 LamX YEX
abbrev tlVE : List Value := [.type "ValueError", .type "Exception", .type "BaseException", .type "object"]
abbrev tlOE : List Value := [.type "OverflowError", .type "ArithmeticError", .type "Exception", .type "BaseException", .type "object"]
abbrev tlLE : List Value := [.type "LookupError", .type "Exception", .type "BaseException", .type "object"]
theorem room65 {k : Nat} {A : Around} (r : Room k A) : A.units + 65 < cLine := by have := r.un; omega
theorem room70 {k : Nat} {A : Around} (r : Room k A) : A.units + 70 < cLine := by have := r.un; omega
theorem glS {K : PySem.W.Frag} {T : YT} {mg : Str → Option Value} {x z : Str} (h : ∃ t, mg x = some (.str z t)) : GlC K T mg x (.str z) := by
  obtain ⟨t, e⟩ := h
  exact ⟨_, .str z, e, ⟨t, rfl⟩, fun G _ => .str z⟩
theorem glT {K : PySem.W.Frag} {T : YT} {mg : Str → Option Value} {x : Str} {d : PyData} (h : ∃ a, mg x = some (.ref a) ∧ (V.ref a, d) ∈ T.c) : GlC K T mg x d := by
  obtain ⟨a, e, m⟩ := h
  exact ⟨_, .ref a, e, rfl, fun G c => (c _ m).tr⟩
theorem glc {K : PySem.W.Frag} {T : YT} {mg : Str → Option Value} {x : Str} {i : Int} (h : ∃ t, mg x = some (.int i t)) : GlC K T mg x (.int i) := by
  obtain ⟨t, e⟩ := h
  exact ⟨_, .int i, e, ⟨t, rfl⟩, fun G _ => .int i⟩
/-- a comprehension's scope fits, as a Bool -/
def blkB (N : List Str) (sc scope : Scope) (own : List (Str × Nat)) : Bool :=
  decide (scope.kind = .function) && scope.names.all (fun y => decide (scope.names.lookup y.1 = some y.2)) && own.all (fun p => decide (N[p.2]? = some p.1)) &&
    scope.names.all (fun y => !decide (y.2 = .free) || decide (sc.names.lookup y.1 = some .cell) || decide (sc.names.lookup y.1 = some .free)) &&
    scope.names.all fun y => !(decide (y.2 = .local) || decide (y.2 = .cell)) || decide (y.1 ∈ own.map (·.1)) || decide (y.1 ∉ N)
theorem blk_of {N : List Str} {sc scope : Scope} {own : List (Str × Nat)} (h : blkB N sc scope own = true) : BlkOk N sc scope own := by
  unfold blkB at h
  simp only [Bool.and_eq_true, Bool.or_eq_true, Bool.not_eq_true', decide_eq_true_eq, decide_eq_false_iff_not, List.all_eq_true, Bool.or_eq_false_iff] at h
  obtain ⟨⟨⟨⟨h1, h2⟩, h3⟩, h4⟩, h5⟩ := h
  refine ⟨h1, h2, h3, fun y hy e => ?_, fun y hy e => ?_⟩
  · rcases h4 y hy with (z | z) | z
    · exact absurd e z
    · exact .inl z
    · exact .inr z
  · rcases h5 y hy with (z | z) | z
    · rcases e with e | e
      · exact absurd e z.1
      · exact absurd e z.2
    · exact .inl z
    · exact .inr z
def clsBody : Stmt → List Stmt
  | .ClassDef _ _ _ b _ _ _ _ _ _ _ => b
  | _ => []
/-- the qualified name of a def's lambdas -/
def lamQ (x : Str) : Str := (envOfC x ⟨.function, [], false, false, []⟩ 0 0 .none).qual ++ "<lambda>"
/-- the code object and the table of a def that makes lambdas -/
def LamAt (K : PySem.W.Frag) (mg : Str → Option Value) (base : Heap) (T : YT) (x : Str) : Prop := ∀ (f : Addr) (cdv : Value), mg x = some (.ref f) → CodeIs K f cdv →
  ∃ c P : Addr, cdv = .ref c ∧ TabB base mg c P ∧ (P, lamQ x) ∈ T.t ∧ ∀ p ∈ T.t, p.1 = P → p.2 = lamQ x
def clsGet (cls : Clss) (c : Str) : Addr := (cls c).getD 0
theorem clsGet_eq {cls : Clss} {c : Str} {C : Addr} (h : cls c = some C) : clsGet cls c = C := by unfold clsGet; rw [h]; rfl
/-- an error class, as it stands -/
structure ErrAt (K : PySem.W.Frag) (mg : Str → Option Value) (cls : Clss) (T newId initId : String) (tl : List Value) (c : Str) (params : Arguments) (body : List Stmt) (sc : Scope) (C fI : Addr) (fd : FuncData) (dvs : List V) : Prop where
  cl : cls c = some C
  mg : mg c = some (.ref C)
  oex : OexT T newId initId tl K C
  no : PySem.W.findIn K (.ref C) (fld c) = some none
  ini : PySem.W.findIn K (.ref C) "__init__" = some (some (.ref fI))
  ty : PySem.W.typeIn K (.ref fI) = some (.type "function")
  bnd : Binds K fd ["self", fld c] []
  fn : FunD K "__init__" (c ++ ".__init__") params body sc dvs [] fI fd
def ErrF (K : PySem.W.Frag) (mg : Str → Option Value) (cls : Clss) (T newId initId : String) (tl : List Value) (_b c : Str) (params : Arguments) (body : List Stmt) (sc : Scope) : Prop :=
  ∃ (C fI : Addr) (fd : FuncData) (dvs : List V), ErrAt K mg cls T newId initId tl c params body sc C fI fd dvs
/-- the name in an error's __init__: a built-in base, or an own class -/
inductive BaseN (K : PySem.W.Frag) (mg : Str → Option Value) (x : Str) (initId : String) : Prop
  | blt {T : String} (hm : mg x = none) (hv : bootBuiltins x = some (.type T)) (hn : x ≠ "__name__") (hdb : (x == ("__debug__" : Str)) = false) (ty : typeOf (.type T) = pure (.type "type")) (st : Manifest.isStub T = false)
      (fd : PySem.W.findCls K (.type T) (.type "type") "__init__" = some (.val (.builtin initId))) (hh : PySem.W.handedIn (.builtin initId) = true)
  | own {C : Addr} (hm : mg x = some (.ref C)) (hdb : (x == ("__debug__" : Str)) = false) (sp : PySem.W.specialIn K (.ref C) "__getattribute__" = some (some (.builtin "type.__getattribute__")))
      (rd : PySem.W.readsIn K C (.type "type") = true) (fd : PySem.W.findCls K (.ref C) (.type "type") "__init__" = some (.val (.builtin initId))) (hh : PySem.W.handedIn (.builtin initId) = true)
theorem baseN_name {X : Cx} {x : Str} {initId : String} (b : BaseN X.K X.mg x initId) (hg : Gl X x) : InitName X x initId := by
  rcases b with ⟨hm, hv, hn, hdb, ty, st, fd, hh⟩ | ⟨hm, hdb, sp, rd, fd, hh⟩
  · exact .blt hg hm hv hn hdb ty st fd hh
  · exact .own hg hm hdb sp rd fd hh
/-- what an except clause's name asks of the raised classes -/
structure ExmAt (K : PySem.W.Frag) (mg : Str → Option Value) (cls : Clss) (sub : Str → Str → Bool) (x : Str) : Prop where
  at_ : ∀ C, mg x = some (.ref C) → ∀ c D, cls c = some D → PySem.W.exmOne K (.ref D) (.ref C) = some (sub c x)
theorem names_of_glo {X : Cx} {x : Str} {C : Addr} (h : X.mg x = some (.ref C)) (hg : Gl X x := by rfl) (hd : (x == ("__debug__" : Str)) = false := by decide) : Names X x (.ref C) := ⟨hg, hd, .inl h⟩
theorem Thk.me {cls : Clss} {Z : Cx} {B : Ent} {a : Str} {r : R PyData} {ok : OkX} {p1 p2 : Pos} (t : Thk cls Z B a r) (hio : B.io = []) (cx : CtxE cls Z B ok) : EE Z B ok (.Call (.Name a p1) [] [] p2) (fThkL r) :=
  t Z.pn Z.xe B ok p1 p2 cx rfl rfl hio rfl (Sub.refl _)
theorem Thk.tr {cls : Clss} {Z : Cx} {B : Ent} {a : Str} {r : R PyData} {ok : OkX} {p1 p2 : Pos} {F : Hp} {pn : List (Addr × Obj)} {xe : Value → Shared → Prop} (t : Thk cls Z B a r) (hio : B.io = []) (sF : Sub B.G F) (cx : CtxE cls (Z.tr pn xe) (B.at F) ok) : EE (Z.tr pn xe) (B.at F) ok (.Call (.Name a p1) [] [] p2) (fThkL r) :=
  t pn xe (B.at F) ok p1 p2 cx rfl rfl hio rfl sF
section
variable {P : Program} {w : World} {K : PySem.W.Frag} {mg : Str → Option Value} {base : Heap}
theorem fnG_ofD {x qual : Str} {params : Arguments} {body : List Stmt} {scope : Scope} {dvs : List V} {kws : List (Str × V)} {f : Addr} {fd : FuncData} {N ps : List Str} {k : Nat} {sp : Sp} (F : FunD K x qual params body scope dvs kws f fd) (S : FnScope N ps scope) (len : ∀ vs H Q E, sp vs H Q E → vs.length = ps.length)
    (hb : ∀ (cdv : Value) (A : Around) (outer : List Env) (s : Shared) (H : Hp) (vs : List V) (Q : VK) (E : XK), CodeIs K f cdv → Room k (A.deeper (envOfC qual scope s.heap.objs.size f cdv)) → A.guards = some [] → sp vs H Q E →
      ∃ t, PSs (cxOf (L2.CX P w) P w K mg base N qual scope f cdv A outer s H E) body t ∧ t { nx := fun _ H' => Q .non H', rt := Q } (L2.start N vs) H) : FnG P w K mg base (k + 1) f fd ps sp := by
  obtain ⟨oc, od, dV, kV, doc, pm, an, cdv, ct, osl, rfl, lk, hcd, _, _⟩ := F.ex
  exact ⟨len, fun A outer s H args us vs Q E hr hG e0 hbd r hsp => run_ofS lk hcd S hr e0 hbd r (len _ _ _ _ hsp) fun hr' => hb cdv A outer s H vs Q E ⟨oc, od, _, osl, lk, rfl⟩ hr' hG hsp⟩
/-! ### keywords -/
def KwOnly (fd : FuncData) (ps : List Str) : Prop := ∀ (s : Shared) (ws : List Value), ws.length = ps.length → BindsTo s fd ⟨[], ps.zip ws⟩ (ps.zip ws)
structure CalleeK (P : Program) (w : World) (K : PySem.W.Frag) (mg : Str → Option Value) (base : Heap) (k : Nat) (x : Str) (ps : List Str) (sp : Sp) : Prop where
  ex : ∃ (f : Addr) (fd : FuncData), FnG P w K mg base k f fd ps sp ∧ mg x = some (.ref f) ∧ PySem.W.keepIn K (.ref f) = true ∧ KwOnly fd ps
end
section
variable {X : Cx} {B : Ent} {ok : OkX} {cls : Clss} {e : Expr} {f : EF} {fs : AF} {kws : List Keyword} {pos p kpos : Pos} {k j n : Nat} {x : Str}
structure EKw (X : Cx) (B : Ent) (ok : OkX) (kws : List Keyword) (f : AF) : Prop where
  ex : ∃ t : TA, PK X kws t ∧ ∀ (σ : St) (H G : Hp) (ρ : En) (Q : List V → Hp → Prop), Rel X.K B G H σ ρ →
    (f ρ).sat (fun r => ∀ vs H' G', Adv σ G H ρ G' H' r.2 → Rel X.K B G' H' σ r.2 → TrAll X.K G' vs r.1 → Q vs H') ok → t σ H Q
theorem kw_nil : EKw X B ok [] fNil := ⟨_, pk_nil, fun σ H G ρ Q r q => q [] H G Adv.refl r .nil⟩
theorem kw_cons {nm : Option Str} (h : EE X B ok e f) (hs : EKw X B ok kws fs) : EKw X B ok (⟨nm, e, kpos⟩ :: kws) (fCons f fs) := by
  obtain ⟨t, pe, ke⟩ := h.ex
  obtain ⟨u, pk, kk⟩ := hs.ex
  refine ⟨_, pk_cons pe pk, fun σ H G ρ Q r q => ke σ H G ρ _ r ((R.sat_bind q).imp fun y qy v H1 G1 s1 r1 t1 => ?_)⟩
  refine kk σ H1 G1 y.2 _ r1 ((R.sat_bind qy).imp fun ys qs vs H2 G2 s2 r2 t2 => ?_)
  exact qs (v :: vs) H2 G2 (s1.trans s2) r2 (.cons (t1.mono s2.sub) t2)
theorem ee_callKw {ps : List Str} {F : List PyData → R PyData} (cx : CtxE cls X B ok) (C : CalleeK X.prog X.w X.K X.mg X.base k x ps (spF X.K B.T cls n F)) (hr : Room j X.A) (ha : EKw X B ok kws fs) (hn : ∀ ρ r, fs ρ = .ok r → r.1.length = n := by intro ρ r h; exact fCons_len (fun _ _ h => fCons_len (fun _ _ h => by cases h; rfl) h) h)
    (hk : k ≤ j := by decide) (hg : Gl X x := by rfl) (hall : (backToKw pos (keywordEach kws X.env)).all (·.1.isSome) = true := by rfl) (hks : (backToKw pos (keywordEach kws X.env)).filterMap (·.1) = ps := by rfl)
    (hdb : (x == ("__debug__" : Str)) = false := by decide) (hpl : ((backTo pos (starEach [] X.env)).any (·.1) || (backToKw pos (keywordEach kws X.env)).any (·.1.isNone)) = false := by rfl) : EE X B ok (.Call (.Name x p) [] kws pos) (fCall F fs) := by
  have hT := cx.tabs
  obtain ⟨E, tk, good⟩ := cx.exc
  have px : Passes (L2.CX X.prog X.w) X E := passes_call tk fun _ _ _ _ h => h
  obtain ⟨fa, fd, FO, hm, hkp, hb⟩ := C.ex
  obtain ⟨t, pa, ka⟩ := ha.ex
  refine ⟨fun σ H Q => t σ H fun vs H1 => spF X.K B.T cls n F vs H1 Q E, ⟨fun pins s σ H Q I h => ?_⟩, fun σ H G ρ Q r q => ka σ H G ρ _ r ?_⟩
  · refine wpAny_Call_Name_kw (ld_glob I hg hm ?_ hdb)
    refine PySem.W.callWith_KW0 (h₀ := X.base) I.ok.mod.kin hkp hall (thn (pa.run pos pins s σ H _ I h) fun ws s2 ⟨zs, H2, I2, rz, q2⟩ => ⟨I2.kIn, ?_⟩) hpl
    rw [hks]
    have hl : ws.length = ps.length := by rw [← rz.length]; exact FO.len _ _ _ _ q2
    refine wpAny_call (codeAny_mono (FO.run X.A X.stack s2 H2 ⟨[], ps.zip ws⟩ ws zs Q E (hr.mono hk) cx.gd I2.env0 (hb s2 ws hl) rz q2) fun o s' q => ?_)
    match o, q with
    | .error e, q => exact px pins σ H2 s2 e s' I2 q
    | .ok (.ret u), q => exact I2.after q
  have q := fCall_sat q
  cases ef : fs ρ with
  | er c d => rw [ef] at q; exact q
  | no => rw [ef] at q; exact q
  | ok y =>
    rw [ef] at q
    intro vs H1 G1 s1 r1 t1
    refine ⟨G1, y.1, r1.sub, t1, hn ρ y ef, r1.tabs hT, R.sat.imp2 q (fun d qd v H' G' g t => ?_) (fun c d hc => ?_)⟩
    · exact qd v H' G' (s1.trans (Adv.grow g)) (r1.step g) t
    · exact ((good c d hc).later r1.bd).io
end
/-! ### math.gcd, math.lcm -/
abbrev gGcd : List PyData → Option PyData := g2i fun i j => ((Nat.gcd i.natAbs j.natAbs : Nat) : Int)
def gLcm : List PyData → Option PyData
  | [.int i, .int j] => if i.natAbs < 18446744073709551616 ∧ j.natAbs < 18446744073709551616 then some (.int ((Nat.lcm i.natAbs j.natAbs : Nat) : Int)) else none
  | _ => none
theorem lcm_bits {a b : Nat} (ha : a < 18446744073709551616) (hb : b < 18446744073709551616) : (Nat.lcm a b).log2 < bitsLine := by
  by_cases h : Nat.lcm a b = 0
  · rw [h]; decide
  · have h1 : Nat.lcm a b ≤ a * b := by unfold Nat.lcm; exact Nat.div_le_self _ _
    have h2 : a * b ≤ 18446744073709551615 * 18446744073709551615 := Nat.mul_le_mul (by omega) (by omega)
    have h3 : (Nat.lcm a b).log2 < 128 := (Nat.log2_lt h).mpr (by omega)
    have h4 : 128 ≤ bitsLine := by unfold bitsLine; decide
    omega
def rLcm : List V → Hp → VK → Prop := fun vs H Q => ∃ a b : Int, vs = [.int a, .int b] ∧ (a.natAbs < 18446744073709551616 ∧ b.natAbs < 18446744073709551616) ∧ Q (.int ((Nat.lcm a.natAbs b.natAbs : Nat) : Int)) H
theorem cr_lcm {X : Cx} : CallR X (.builtin "math.lcm") rLcm := by
  intro pins s σ H vs us Q I r h
  obtain ⟨a, b, rfl, ⟨ha, hb⟩, q⟩ := h
  obtain ⟨t, u, rfl⟩ := Vals.int2 r
  refine PySem.W.mg_lcm_v (c := ((Nat.lcm a.natAbs b.natAbs : Nat) : Int)) (by omega) (by omega) (by rw [Nat.lcm_one_left]) (by rw [Int.natAbs_natCast]; exact lcm_bits ha hb) ⟨.int _, H, I.tok _, ⟨_, rfl⟩, q⟩
theorem bd_lcm {X : Cx} {T : YT} : BD X T (.builtin "math.lcm") gLcm := by
  refine ⟨_, cr_lcm, fun G H vs ds d Q s t e q => ?_⟩
  unfold gLcm at e
  split at e
  · split at e
    · rename_i hb
      cases e
      cases t with | cons u t =>
      cases t with | cons w t =>
      cases t
      cases u; cases w
      exact ⟨_, _, rfl, hb, q _ H G (Grow.refl s) (.int _)⟩
    · cases e
  · cases e
end Y


/-! YHead: from what the head tells of the module to what the derivations ask. -/
namespace Y
open PySem PySem.Spec PyProof.Rows L2 LamX YEX He
/-! ### the module's constants, looked at -/
def okA (b : Addr) : Bool := !(b == builtinsNs) && (!(b == cStatics) && !(b == mainGlobals))
theorem okA_ok {b : Addr} (h : okA b = true) : b ≠ builtinsNs ∧ b ≠ cStatics ∧ b ≠ mainGlobals := by
  simpa [okA] using h
mutual
def conV (g : Addr → Option Obj) : PyData → Value → Bool
  | .none, v => (match v with | .none => true | _ => false)
  | .bool b, v => (match v with | .bool c => decide (b = c) | _ => false)
  | .int i, v => (match v with | .int j _ => decide (i = j) | _ => false)
  | .str x, v => (match v with | .str y _ => decide (x = y) | _ => false)
  | .tuple ds, v => (match v with
    | .ref a => (match g a with
      | some ⟨.type c, none, .seq its _, _⟩ => decide (c = "tuple") && (decide (its.size ≤ sizeLine) && (okA a && conAll g ds its.toList))
      | _ => false)
    | _ => false)
  | _, _ => false
def conAll (g : Addr → Option Obj) : List PyData → List Value → Bool
  | [], vs => (match vs with | [] => true | _ => false)
  | d :: ds, vs => (match vs with | v :: vs => conV g d v && conAll g ds vs | _ => false)
end
mutual
def hsV (g : Addr → Option Obj) : PyData → Value → List (Addr × Obj)
  | .tuple ds, v => (match v with
    | .ref a => (match g a with
      | some o => (a, o) :: (match o.data with
        | .seq its _ => hsAll g ds its.toList
        | _ => [])
      | _ => [])
    | _ => [])
  | _, _ => []
def hsAll (g : Addr → Option Obj) : List PyData → List Value → List (Addr × Obj)
  | [], _ => []
  | d :: ds, vs => (match vs with | v :: vs => hsV g d v ++ hsAll g ds vs | _ => [])
end
/-- what a hidden list of objects does for a value -/
def ConF (K : PySem.W.Frag) (w : World) (g : Addr → Option Obj) (hs : List (Addr × Obj)) (d : PyData) (v : Value) : Prop :=
  (∃ x, absV v = some x ∧ RelV x v ∧ ∀ G : Hp, (∀ p ∈ hs, ∀ u, hoC p.2 = some u → G p.1 = some (.frz p.2 u)) → TrF K G x d) ∧ ∀ p ∈ hs, HidO w p.1 p.2 ∧ g p.1 = some p.2
mutual
theorem conV_ok {K : PySem.W.Frag} {w : World} {g : Addr → Option Obj} : ∀ {d : PyData} {v : Value}, conV g d v = true → ConF K w g (hsV g d v) d v
  | .none, v, h => by
    unfold conV at h
    split at h
    · exact ⟨⟨.non, rfl, rfl, fun G _ => .non⟩, fun p hp => by cases hp⟩
    · cases h
  | .bool b, v, h => by
    unfold conV at h
    split at h
    · have h := of_decide_eq_true h
      subst h
      exact ⟨⟨.bl b, rfl, rfl, fun G _ => .bl b⟩, fun p hp => by cases hp⟩
    · cases h
  | .int i, v, h => by
    unfold conV at h
    split at h
    · have h := of_decide_eq_true h
      subst h
      exact ⟨⟨.int i, rfl, ⟨_, rfl⟩, fun G _ => .int i⟩, fun p hp => by cases hp⟩
    · cases h
  | .str x, v, h => by
    unfold conV at h
    split at h
    · have h := of_decide_eq_true h
      subst h
      exact ⟨⟨.str x, rfl, ⟨_, rfl⟩, fun G _ => .str x⟩, fun p hp => by cases hp⟩
    · cases h
  | .tuple ds, v, h => by
    unfold conV at h
    split at h
    · rename_i a
      split at h
      · rename_i c its n sl hg
        obtain ⟨h1, h⟩ := ba h
        obtain ⟨h2, h⟩ := ba h
        obtain ⟨h3, hf⟩ := ba h
        clear h
        have h1 := of_decide_eq_true h1
        subst h1
        have h2 := of_decide_eq_true h2
        obtain ⟨⟨xs, e1, e2, e3⟩, e4⟩ := conAll_ok (K := K) (w := w) hf
        have eh : hsV g (.tuple ds) (.ref a) = (a, (⟨.type "tuple", none, .seq its n, sl⟩ : Obj)) :: hsAll g ds its.toList := by
          unfold hsV; simp only [hg]
        have eu : hoC (⟨.type "tuple", none, .seq its n, sl⟩ : Obj) = some (.tup xs) := by
          show (absAll its.toList).map HO.tup = _
          rw [e1]; rfl
        have z := okA_ok h3
        rw [eh]
        refine ⟨⟨.ref a, rfl, rfl, fun G hG => ?_⟩, fun p hp => ?_⟩
        · refine .tup (hG _ List.mem_cons_self _ eu) rfl (e3 G fun p hp => hG p (List.mem_cons_of_mem _ hp))
        · rcases List.mem_cons.mp hp with rfl | hp
          · refine ⟨⟨_, eu, fun P H h he => ⟨?_, its.toList, e2, ⟨_, he, rfl, n, by simp⟩⟩, (fun z => absurd (Value.type.inj z) (by decide)), z.1, z.2.1, z.2.2⟩, hg⟩
            rw [e2.length, Array.length_toList]
            exact h2
          · exact e4 p hp
      · cases h
    · cases h
  | .list ds, v, h => by unfold conV at h; cases h
  | .dict ds, v, h => by unfold conV at h; cases h
theorem conAll_ok {K : PySem.W.Frag} {w : World} {g : Addr → Option Obj} : ∀ {ds : List PyData} {vs : List Value}, conAll g ds vs = true →
    (∃ xs, absAll vs = some xs ∧ Vals xs vs ∧ ∀ G : Hp, (∀ p ∈ hsAll g ds vs, ∀ u, hoC p.2 = some u → G p.1 = some (.frz p.2 u)) → TrFAll K G xs ds) ∧ ∀ p ∈ hsAll g ds vs, HidO w p.1 p.2 ∧ g p.1 = some p.2
  | [], vs, h => by
    unfold conAll at h
    split at h
    · exact ⟨⟨[], rfl, .nil, fun G _ => .nil⟩, fun p hp => by simp [hsAll] at hp⟩
    · cases h
  | d :: ds, vs, h => by
    unfold conAll at h
    split at h
    · rename_i v vs
      obtain ⟨h1, h2⟩ := ba h
      obtain ⟨⟨x, a1, a2, a3⟩, a4⟩ := conV_ok (K := K) (w := w) h1
      obtain ⟨⟨xs, b1, b2, b3⟩, b4⟩ := conAll_ok (K := K) (w := w) h2
      have eh : hsAll g (d :: ds) (v :: vs) = hsV g d v ++ hsAll g ds vs := rfl
      rw [eh]
      refine ⟨⟨x :: xs, by unfold absAll; rw [a1, b1], .cons a2 b2, fun G hG => .cons (a3 G fun p hp => hG p (List.mem_append_left _ hp)) (b3 G fun p hp => hG p (List.mem_append_right _ hp))⟩, fun p hp => ?_⟩
      rcases List.mem_append.mp hp with hp | hp
      · exact a4 p hp
      · exact b4 p hp
    · cases h
end
/-! a dict with text keys -/
def conEs (g : Addr → Option Obj) : List (PyData × PyData) → List DictEntry → Bool
  | [], es => (match es with | [] => true | _ => false)
  | (k, d) :: ds, es => (match k, es with
    | .str x, e :: es => (match e.key with
      | .str y _ => decide (x = y) && (conV g d e.val && conEs g ds es)
      | _ => false)
    | _, _ => false)
def hsEs (g : Addr → Option Obj) : List (PyData × PyData) → List DictEntry → List (Addr × Obj)
  | [], _ => []
  | (_, d) :: ds, es => (match es with | e :: es => hsV g d e.val ++ hsEs g ds es | _ => [])
def strKs : List (PyData × PyData) → List Str
  | [] => []
  | (.str x, _) :: r => x :: strKs r
  | _ :: r => strKs r
theorem conEs_ok {K : PySem.W.Frag} {w : World} {g : Addr → Option Obj} : ∀ {ds : List (PyData × PyData)} {es : List DictEntry}, conEs g ds es = true →
    ∃ kvs vs, absEs es = some kvs ∧ KV kvs vs ∧ kvs.map (·.1) = (strKs ds).map Sum.inr ∧ (∀ P : Program, Pairs (mixKind P w) es vs) ∧ kvs.length = es.length ∧
      (∀ G : Hp, (∀ p ∈ hsEs g ds es, ∀ u, hoC p.2 = some u → G p.1 = some (.frz p.2 u)) → TrFKV K G kvs ds) ∧ ∀ p ∈ hsEs g ds es, HidO w p.1 p.2 ∧ g p.1 = some p.2
  | [], es, h => by
    unfold conEs at h
    split at h
    · exact ⟨[], [], rfl, .nil, rfl, fun P => .nil, rfl, fun G _ => .nil, fun p hp => by simp [hsEs] at hp⟩
    · cases h
  | (k, d) :: ds, es, h => by
    unfold conEs at h
    split at h
    · rename_i x e es
      split at h
      · rename_i y t hk
        obtain ⟨h1, h⟩ := ba h
        obtain ⟨h2, h3⟩ := ba h
        have h1 := of_decide_eq_true h1
        subst h1
        obtain ⟨⟨v, a1, a2, a3⟩, a4⟩ := conV_ok (K := K) (w := w) h2
        obtain ⟨kvs, vs, b1, b2, b3, b4, b5, b6, b7⟩ := conEs_ok (K := K) (w := w) h3
        have eh : hsEs g ((.str x, d) :: ds) (e :: es) = hsV g d e.val ++ hsEs g ds es := rfl
        rw [eh]
        refine ⟨(.inr x, v) :: kvs, (.inr x, e.val) :: vs, by unfold absEs; rw [hk, a1, b1], .cons ⟨rfl, a2⟩ b2, by rw [List.map_cons, b3]; rfl, fun P => .cons (by rw [hk]; exact keyIs_str x t) rfl (b4 P), by rw [List.length_cons, List.length_cons, b5],
          fun G hG => .cons (k := .inr x) (a3 G fun p hp => hG p (List.mem_append_left _ hp)) (b6 G fun p hp => hG p (List.mem_append_right _ hp)), fun p hp => ?_⟩
        rcases List.mem_append.mp hp with hp | hp
        · exact a4 p hp
        · exact b7 p hp
      · cases h
    · cases h
theorem kv_keys {κ : Type} : ∀ {kvs : List (κ × V)} {vs : List (κ × Value)}, KV kvs vs → vs.map (·.1) = kvs.map (·.1)
  | _, _, .nil => rfl
  | _, _, .cons h t => by rw [List.map_cons, List.map_cons, kv_keys t]; exact List.cons_eq_cons.mpr ⟨h.1.symm, rfl⟩
/-- one constant: a tuple, or a dict with text keys -/
def conT (g : Addr → Option Obj) (d : PyData) (v : Value) : Bool := match d with
  | .dict ds => (match v with
    | .ref a => (match g a with
      | some ⟨.type c, none, .dict es _, sl⟩ => decide (c = "dict") && (sl.isEmpty && (!(a == sysModules) && (okA a && (decide (es.size ≤ sizeLine) && (decide (strKs ds).Nodup && conEs g ds es.toList)))))
      | _ => false)
    | _ => false)
  | _ => conV g d v
def hsT (g : Addr → Option Obj) (d : PyData) (v : Value) : List (Addr × Obj) := match d with
  | .dict ds => (match v with
    | .ref a => (match g a with
      | some o => (a, o) :: (match o.data with
        | .dict es _ => hsEs g ds es.toList
        | _ => [])
      | _ => [])
    | _ => [])
  | _ => hsV g d v
def haT (g : Addr → Option Obj) (d : PyData) (v : Value) : List (Option (Str × Int)) := match d with
  | .dict _ => (match v with
    | .ref a => (match g a with
      | some o => (match o.data with
        | .dict es _ => es.toList.map He.keyOf
        | _ => [])
      | _ => [])
    | _ => [])
  | _ => []
def hxT (P : Params) (d : PyData) : List (Option (Str × Int)) := match d with
  | .dict ds => keysIn P (strKs ds)
  | _ => []
theorem conT_ok {K : PySem.W.Frag} {w : World} {g : Addr → Option Obj} {d : PyData} {v : Value} (h : conT g d v = true) (hh : haT g d v = hxT w.params d) : ConF K w g (hsT g d v) d v := by
  unfold conT at h
  split at h
  · rename_i ds
    split at h
    · rename_i a
      split at h
      · rename_i c es n sl hg
        obtain ⟨h1, h⟩ := ba h
        obtain ⟨h2, h⟩ := ba h
        obtain ⟨h3, h⟩ := ba h
        obtain ⟨h4, h⟩ := ba h
        obtain ⟨h5, h⟩ := ba h
        obtain ⟨h6, hf⟩ := ba h
        clear h
        have h1 := of_decide_eq_true h1
        subst h1
        have h2 : sl = #[] := Array.isEmpty_iff.mp h2
        subst h2
        have h3 : (a == sysModules) = false := by simpa using h3
        have h5 := of_decide_eq_true h5
        have h6 := of_decide_eq_true h6
        obtain ⟨kvs, vs, b1, b2, b3, b4, b5, b6, b7⟩ := conEs_ok (K := K) (w := w) hf
        have eh : hsT g (.dict ds) (.ref a) = (a, (⟨.type "dict", none, .dict es n, #[]⟩ : Obj)) :: hsEs g ds es.toList := by
          unfold hsT; simp only [hg]
        have ea : haT g (.dict ds) (.ref a) = es.toList.map He.keyOf := by
          unfold haT; simp only [hg]
        rw [ea] at hh
        have kl := keysLit_of (P := w.params) hh
        have eu : hoC (⟨.type "dict", none, .dict es n, #[]⟩ : Obj) = some (.dK kvs) := by
          show (absEs es.toList).map HO.dK = _
          rw [b1]; rfl
        have z := okA_ok h4
        have nd : (vs.map (·.1)).Nodup := by
          rw [kv_keys b2, b3]
          exact List.pairwise_map.mpr (h6.imp fun hne q => hne (Sum.inr.inj q))
        rw [eh]
        refine ⟨⟨.ref a, rfl, rfl, fun G hG => ?_⟩, fun p hp => ?_⟩
        · exact .dK (.inr ⟨_, hG _ List.mem_cons_self _ eu⟩) (b6 G fun p hp => hG p (List.mem_cons_of_mem _ hp))
        · rcases List.mem_cons.mp hp with rfl | hp
          · refine ⟨⟨_, eu, fun P H h he => ⟨by rw [b5, Array.length_toList]; exact h5, h3, vs, b2, ⟨_, es, n, he, ⟨rfl, rfl, rfl⟩, rfl, fun e he => ?_, b4 P, nd⟩⟩, (fun z => absurd (Value.type.inj z) (by decide)), z.1, z.2.1, z.2.2⟩, hg⟩
            obtain ⟨x, t, k1, k2⟩ := kl.all e (Array.mem_toList_iff.mpr he)
            exact ⟨.inr x, by rw [k1]; exact keyIs_str x t, by rw [k2]; rfl⟩
          · exact b7 p hp
      · cases h
    · cases h
  · rename_i hd
    have e : hsT g d v = hsV g d v := by
      unfold hsT
      cases d with
      | dict ds => exact absurd rfl (hd ds)
      | _ => rfl
    rw [e]
    exact conV_ok h
abbrev Cons : Type := List (Str × PyData)
def gv (K : PySem.W.Frag) (x : Str) : Value := .ref (ga K x)
def hsC (g : Addr → Option Obj) (K : PySem.W.Frag) (cn : Cons) : List (Addr × Obj) := cn.flatMap fun q => hsT g q.2 (gv K q.1)
def consB (g : Addr → Option Obj) (K0 K : PySem.W.Frag) (cn : Cons) : Bool := cn.all fun q => eqO (PySem.W.nsIn K mainGlobals q.1) (some (some (gv K0 q.1))) && conT g q.2 (gv K0 q.1)
theorem gv_of {K0 K : PySem.W.Frag} {x : Str} (h : PySem.W.nsIn K mainGlobals x = some (some (gv K0 x))) : ga K x = ga K0 x := by
  have e : ga K x = (match PySem.W.nsIn K mainGlobals x with
    | some (some (.ref a)) => a
    | _ => 0) := rfl
  rw [e, h]
  rfl
def haC (g : Addr → Option Obj) (K : PySem.W.Frag) (cn : Cons) : List (List (Option (Str × Int))) := cn.map fun q => haT g q.2 (gv K q.1)
def hxC (P : Params) (cn : Cons) : List (List (Option (Str × Int))) := cn.map fun q => hxT P q.2
/-- what is told of the constants -/
structure ConS (w : World) (cn : Cons) (K : PySem.W.Frag) (hs : List (Addr × Obj)) (h : Heap) : Prop where
  at_ : ∀ p ∈ hs, h.get? p.1 = some p.2
  no : ∀ p ∈ hs, K.lookup p.1 = none
  ok : ∀ p ∈ hs, HidO w p.1 p.2
  tr : ∀ q ∈ cn, ∀ G : Hp, (∀ p ∈ hs, ∀ u, hoC p.2 = some u → G p.1 = some (.frz p.2 u)) → TrF K G (.ref (ga K q.1)) q.2
  ns : ∀ q ∈ cn, PySem.W.nsIn K mainGlobals q.1 = some (some (.ref (ga K q.1)))
def consT (K : PySem.W.Frag) (cn : Cons) : List (V × PyData) := cn.map fun q => (.ref (ga K q.1), q.2)
/-! ### the hook, with the class statics in view, the constants hidden -/
def asY (g : Addr → Option Obj) (n : Nat) : List Addr := PySem.cStatics :: asD g n
def frH (K0 : PySem.W.Frag) (hs : List (Addr × Obj)) : PySem.W.Frag := K0.filter fun q => !hs.any fun p => p.1 == q.1
theorem lookup_filter {K0 : PySem.W.Frag} {f : Addr × Obj → Bool} {a : Addr} {o : Obj} (h : (K0.filter f).lookup a = some o) : (a, o) ∈ K0 ∧ f (a, o) = true := List.mem_filter.mp (lk_mem h)
abbrev AlY : Type := AlX × List (List (Option (Str × Int)))
def obsY (n : Nat) (fa : List Fa) (fn : List DefD) (ts : List Tab) (tf : List Defn) (ex : PySem.W.Frag → Bool) (cn : Cons) (g : Addr → Option Obj) : AlY :=
  let K0 := frT g (asY g n)
  let K := frH K0 (hsC g K0 cn)
  ((obsT fa fn ts K, ex K && (tabsB g tf K && consB g K0 K cn)), haC g K0 cn)
def valY (fn : List DefD) (ts : List Tab) (cn : Cons) (w : World) : AlY := (valX fn ts w, hxC w.params cn)
theorem mem_frT {g : Addr → Option Obj} {as : List Addr} {a : Addr} {o : Obj} (h : (a, o) ∈ frT g as) : g a = some o ∧ emptyTab o = false := by
  obtain ⟨h1, h2⟩ := List.mem_filter.mp h
  exact ⟨frG_mem h1, by simpa using h2⟩
theorem ha_at : ∀ {cn : Cons} {g : Addr → Option Obj} {K : PySem.W.Frag} {P : Params}, haC g K cn = hxC P cn → ∀ q ∈ cn, haT g q.2 (gv K q.1) = hxT P q.2
  | [], _, _, _, _, q, hq => by cases hq
  | r :: cn, g, K, P, h, q, hq => by
    have h : haT g r.2 (gv K r.1) :: haC g K cn = hxT P r.2 :: hxC P cn := h
    injection h with h1 h2
    rcases List.mem_cons.mp hq with rfl | hq
    · exact h1
    · exact ha_at h2 q hq
theorem saysY_of {n : Nat} {fa : List Fa} {fn : List DefD} {ts : List Tab} {tf : List Defn} {ex : PySem.W.Frag → Bool} {cn : Cons} {w : World} {h : Heap} (e : obsY n fa fn ts tf ex cn h.get? = valY fn ts cn w) :
    ∃ (K : PySem.W.Frag) (hs : List (Addr × Obj)), K.In h ∧ SaysX fa fn ts tf ex w h K ∧ ConS w cn K hs h := by
  have e1 : (obsT fa fn ts (frH (frT h.get? (asY h.get? n)) (hsC h.get? (frT h.get? (asY h.get? n)) cn)), ex (frH (frT h.get? (asY h.get? n)) (hsC h.get? (frT h.get? (asY h.get? n)) cn)) &&
    (tabsB h.get? tf (frH (frT h.get? (asY h.get? n)) (hsC h.get? (frT h.get? (asY h.get? n)) cn)) && consB h.get? (frT h.get? (asY h.get? n)) (frH (frT h.get? (asY h.get? n)) (hsC h.get? (frT h.get? (asY h.get? n)) cn)) cn)) = valX fn ts w := congrArg (fun z : AlY => z.1) e
  have e2 : haC h.get? (frT h.get? (asY h.get? n)) cn = hxC w.params cn := congrArg (fun z : AlY => z.2) e
  have mm : ∀ a o, (a, o) ∈ frT h.get? (asY h.get? n) → h.get? a = some o ∧ emptyTab o = false := fun a o z => mem_frT z
  clear e
  revert e1 e2 mm
  generalize frT h.get? (asY h.get? n) = K0
  intro e1 e2 mm
  have lk : ∀ a o, (frH K0 (hsC h.get? K0 cn)).lookup a = some o → (h.get? a = some o ∧ emptyTab o = false) ∧ ∀ p ∈ hsC h.get? K0 cn, p.1 ≠ a := fun a o z => by
    obtain ⟨z1, z2⟩ := lookup_filter z
    refine ⟨mm a o z1, fun p hp z3 => ?_⟩
    have z2 : (!(hsC h.get? K0 cn).any fun p => p.1 == a) = true := z2
    rw [Bool.not_eq_true', ← Bool.not_eq_true, List.any_eq_true] at z2
    exact z2 ⟨p, hp, by rw [z3]; simp⟩
  revert e1 lk
  generalize hK : frH K0 (hsC h.get? K0 cn) = K
  intro e1 lk
  obtain ⟨h1, h2⟩ := ba (congrArg (fun z : AlX => z.2) e1 : (ex K && (tabsB h.get? tf K && consB h.get? K0 K cn)) = true)
  obtain ⟨h2, h3⟩ := ba h2
  have key : ∀ p ∈ tf, PySem.W.codeHdIn K (cT K p).1 (cT K p).2 = true ∧ ∃ o, h.get? (cT K p).2 = some o ∧ emptyTab o = true := fun p hp => by
    obtain ⟨h4, h5⟩ := ba (List.all_eq_true.mp h2 p hp)
    refine ⟨h4, ?_⟩
    cases q : h.get? (cT K p).2 with
    | none => rw [q] at h5; cases h5
    | some o => rw [q] at h5; exact ⟨o, rfl, h5⟩
  have cons : ∀ q ∈ cn, PySem.W.nsIn K mainGlobals q.1 = some (some (gv K0 q.1)) ∧ ConF K w h.get? (hsT h.get? q.2 (gv K0 q.1)) q.2 (gv K0 q.1) := fun q hq => by
    obtain ⟨h4, h5⟩ := ba (List.all_eq_true.mp h3 q hq)
    exact ⟨eqO_ok h4, conT_ok h5 (ha_at e2 q hq)⟩
  refine ⟨K, hsC h.get? K0 cn, fun a o z => (lk a o z).1.1, ⟨congrArg (fun z : AlX => z.1) e1, h1, fun p hp => (key p hp).1, fun p hp => ?_, fun p hp => ?_⟩, ⟨fun p hp => ?_, fun p hp => ?_, fun p hp => ?_, fun q hq G hG => ?_, fun q hq => ?_⟩⟩
  · obtain ⟨_, o, q, z⟩ := key p hp
    cases y : K.lookup (cT K p).2 with
    | none => rfl
    | some o' =>
      obtain ⟨⟨y1, y2⟩, _⟩ := lk _ _ y
      rw [q] at y1; cases y1
      rw [z] at y2; cases y2
  · obtain ⟨_, o, q, z⟩ := key p hp
    rw [q, emptyTab_eq z]
  · obtain ⟨q, hq, hp⟩ := List.mem_flatMap.mp hp
    exact ((cons q hq).2.2 p hp).2
  · cases y : K.lookup p.1 with
    | none => rfl
    | some o' => exact absurd rfl ((lk _ _ y).2 p hp)
  · obtain ⟨q, hq, hp⟩ := List.mem_flatMap.mp hp
    exact ((cons q hq).2.2 p hp).1
  · obtain ⟨z1, ⟨x, z2, z3, z4⟩, _⟩ := cons q hq
    rw [gv_of z1]
    have ex : x = .ref (ga K0 q.1) := by
      have z2 : some (V.ref (ga K0 q.1)) = some x := z2
      exact (Option.some.inj z2).symm
    rw [← ex]
    exact z4 G fun p hp => hG p (List.mem_flatMap.mpr ⟨q, hq, hp⟩)
  · rw [(cons q hq).1, gv_of (cons q hq).1]
    rfl
def hookY (n : Nat) (fa : List Fa) (fn : List DefD) (ts : List Tab) (tf : List Defn) (ex : PySem.W.Frag → Bool) (cn : Cons) : PySem.W.Hook where
  α := AlY
  obs := fun s => obsY n fa fn ts tf ex cn s.heap.get?
  val := fun w => valY fn ts cn w
  says := fun w h => ∃ (K : PySem.W.Frag) (hs : List (Addr × Obj)), K.In h ∧ SaysX fa fn ts tf ex w h K ∧ ConS w cn K hs h
  of := fun _ _ e => saysY_of e
  keeps := fun _ _ _ ⟨K, hs, hK, c, z⟩ k => ⟨K, hs, PySem.W.Frag.In.keeps hK k, ⟨c.t, c.more, c.hd, c.out, fun p hp => k _ _ (c.empty p hp)⟩, ⟨fun p hp => k _ _ (z.at_ p hp), z.no, z.ok, z.tr, z.ns⟩⟩
theorem obsY_eq {n : Nat} {fa : List Fa} {fn : List DefD} {ts : List Tab} {tf : List Defn} {ex : PySem.W.Frag → Bool} {cn : Cons} {g : Addr → Option Obj} {s : Shared} (h : ∀ a, g a = s.heap.get? a) : obsY n fa fn ts tf ex cn g = (hookY n fa fn ts tf ex cn).obs s := by
  rw [show g = s.heap.get? from funext h]
  rfl
/-! ### error classes, by Bools -/
def refsB (tl : List Value) : List Value → Bool
  | .ref c :: l => refsB tl l
  | l => decide (l = tl)
theorem refsB_ok {tl : List Value} : ∀ {l : List Value}, refsB tl l = true → RefsT tl l
  | [], h => by have h : [] = tl := of_decide_eq_true h; rw [← h]; exact .here
  | v :: l, h => by
    cases v with
    | ref c => exact .more (refsB_ok h)
    | _ => have h := of_decide_eq_true (show decide (_ = tl) = true from h); rw [h]; exact .here
def oexB (newId : String) (tl : List Value) (K : PySem.W.Frag) (C : Addr) : Bool := (match K.lookup C with
  | some ⟨.type "type", _, .cls cd, sl⟩ => (match cd.mro, sl.toList with
    | .ref C' :: bm, [_, _, _, _, some (.builtin n), _] => decide (C' = C) && (decide (n = newId) && (!cd.hasDel && (cd.hasDict && refsB tl bm)))
    | _, _ => false)
  | _ => false) && (decide (PySem.W.findIn K (.ref C) "__setattr__" = some (some (.builtin "object.__setattr__"))) && (decide (PySem.W.subIn K (.ref C) (.type "BaseException") = some true) &&
    (decide (PySem.W.typeIn K (.ref C) = some (.type "type")) && PySem.W.keepIn K (.ref C))))
theorem oexB_ok {T newId initId : String} {tl : List Value} {K : PySem.W.Frag} {C : Addr} (h : oexB newId tl K C = true) : OexT T newId initId tl K C := by
  unfold oexB at h
  obtain ⟨h, h2⟩ := ba h
  obtain ⟨h3, h2⟩ := ba h2
  obtain ⟨h4, h2⟩ := ba h2
  obtain ⟨h5, h6⟩ := ba h2
  refine ⟨?_, of_decide_eq_true h3, of_decide_eq_true h4, of_decide_eq_true h5, h6⟩
  split at h
  · rename_i dd cd sl ho
    split at h
    · rename_i C' bm k0 k1 k2 k3 n k5 hm hs
      obtain ⟨e1, h⟩ := ba h
      obtain ⟨e2, h⟩ := ba h
      obtain ⟨e3, h⟩ := ba h
      obtain ⟨e4, hr⟩ := ba h
      have e1 := of_decide_eq_true e1
      have e2 := of_decide_eq_true e2
      subst e1 e2
      obtain ⟨nm, bs, mro, ns, qn, hd, sn, sub, ab, col, del⟩ := cd
      dsimp only at hm e3 e4
      have e3 : del = false := by simpa using e3
      subst hm e3 e4
      have hsl : sl = #[k0, k1, k2, k3, some (.builtin n), k5] := by
        obtain ⟨l⟩ := sl
        simp only at hs
        rw [hs]
      subst hsl
      exact ⟨nm, qn, ns, bs, bm, sn, sub, ab, col, dd, k0, k1, k2, k3, k5, ho, refsB_ok hr⟩
    · cases h
  · cases h
/-- an error class and its __init__ -/
def errB (newId : String) (tl : List Value) (K : PySem.W.Frag) (c : Str) : Bool := oexB newId tl K (ga K c) && (decide (PySem.W.findIn K (.ref (ga K c)) (fld c) = some none) &&
  (decide (PySem.W.findIn K (.ref (ga K c)) "__init__" = some (some (.ref (ma K (ga K c) "__init__")))) && (decide (PySem.W.typeIn K (.ref (ma K (ga K c) "__init__")) = some (.type "function")) && (decide (clsOf K c = some (ga K c)) && xfB K (ga K c)))))
def valIs (r : Option PySem.W.CFound) (u : Value) : Bool := match r with
  | some (.val v) => decide (v = u)
  | _ => false
theorem valIs_ok {r : Option PySem.W.CFound} {u : Value} (h : valIs r u = true) : r = some (.val u) := by
  unfold valIs at h
  split at h
  · rw [of_decide_eq_true h]
  · cases h
/-- the base's name in it -/
def basB (K : PySem.W.Frag) (x : Str) (initId : String) : Bool := decide (PySem.W.specialIn K (.ref (ga K x)) "__getattribute__" = some (some (.builtin "type.__getattribute__"))) && (PySem.W.readsIn K (ga K x) (.type "type") &&
  valIs (PySem.W.findCls K (.ref (ga K x)) (.type "type") "__init__") (.builtin initId))
def bltB (K : PySem.W.Frag) (T initId : String) : Bool := valIs (PySem.W.findCls K (.type T) (.type "type") "__init__") (.builtin initId)
def exmB (K : PySem.W.Frag) (es : List Str) (sub : Str → Str → Bool) (x : Str) : Bool := es.all fun c => decide (PySem.W.exmOne K (.ref (ga K c)) (.ref (ga K x)) = some (sub c x))
def noLst (K : PySem.W.Frag) : Bool := K.all fun p => !decide (p.2.cls = .type "list")
theorem noLst_ok {K : PySem.W.Frag} (h : noLst K = true) : ∀ b o, K.lookup b = some o → o.cls ≠ .type "list" := fun b o e z => by
  have m := He.lookup_mem e
  have := List.all_eq_true.mp h _ m
  simp [z] at this
/-- the classes by their names -/
def clsE (K : PySem.W.Frag) (es : List Str) : Clss := fun c => if c ∈ es then some (ga K c) else none
theorem clsE_at {K : PySem.W.Frag} {es : List Str} {c : Str} (h : c ∈ es) : clsE K es c = some (ga K c) := if_pos h
theorem clsE_inv {K : PySem.W.Frag} {es : List Str} {c : Str} {C : Addr} (h : clsE K es c = some C) : c ∈ es ∧ C = ga K c := by
  unfold clsE at h
  split at h
  · cases h; exact ⟨by assumption, rfl⟩
  · cases h
theorem exmB_ok {K : PySem.W.Frag} {mg : Str → Option Value} {es : List Str} {sub : Str → Str → Bool} {x : Str} (h : exmB K es sub x = true) (hm : mg x = some (.ref (ga K x))) : ExmAt K mg (clsE K es) sub x :=
  ⟨fun C hC c D hD => by
    rw [hm] at hC; cases hC
    obtain ⟨hc, rfl⟩ := clsE_inv hD
    exact of_decide_eq_true (List.all_eq_true.mp h c hc)⟩
theorem errB_xf {newId : String} {tl : List Value} {K : PySem.W.Frag} {c : Str} (h : errB newId tl K c = true) : clsOf K c = some (ga K c) ∧ XfC K (ga K c) ∧ PySem.W.findIn K (.ref (ga K c)) (fld c) = some none := by
  unfold errB at h
  obtain ⟨_, h⟩ := ba h
  obtain ⟨h2, h⟩ := ba h
  obtain ⟨_, h⟩ := ba h
  obtain ⟨_, h⟩ := ba h
  obtain ⟨h5, h6⟩ := ba h
  exact ⟨of_decide_eq_true h5, xfB_ok h6, of_decide_eq_true h2⟩
theorem errB_at {T newId initId : String} {tl : List Value} {K : PySem.W.Frag} {mg : Str → Option Value} {es : List Str} {b c : Str} {params : Arguments} {body : List Stmt} {sc : Scope} {dvs : List V} {fd : FuncData} (h : errB newId tl K c = true) (hc : c ∈ es) (hm : mg c = some (.ref (ga K c)))
    (F : FunD K "__init__" (c ++ ".__init__") params body sc dvs [] (ma K (ga K c) "__init__") fd) (hb : Binds K fd ["self", fld c] []) : ErrF K mg (clsE K es) T newId initId tl b c params body sc := by
  have h0 := h
  unfold errB at h
  obtain ⟨h1, h⟩ := ba h
  obtain ⟨h2, h⟩ := ba h
  obtain ⟨h3, h⟩ := ba h
  obtain ⟨h4, _⟩ := ba h
  exact ⟨_, _, fd, dvs, ⟨clsE_at hc, hm, oexB_ok h1, of_decide_eq_true h2, of_decide_eq_true h3, of_decide_eq_true h4, hb, F⟩⟩
theorem basB_own {K : PySem.W.Frag} {mg : Str → Option Value} {x : Str} {initId : String} (h : basB K x initId = true) (hm : mg x = some (.ref (ga K x))) (hdb : (x == ("__debug__" : Str)) = false) (hh : PySem.W.handedIn (.builtin initId) = true) : BaseN K mg x initId := by
  unfold basB at h
  obtain ⟨h1, h⟩ := ba h
  obtain ⟨h2, h3⟩ := ba h
  exact .own hm hdb (of_decide_eq_true h1) h2 (valIs_ok h3) hh
/-! ### defs -/
theorem fun_of {K : PySem.W.Frag} {x qual : Str} {st : Stmt} {f : Addr} {fd : FuncData} (F : FunD K x qual (defArgs st) (defBody st) (defScope st) [] [] f fd) : L2.Fun K x qual st f fd := by
  obtain ⟨oc, od, dV, kV, doc, pm, an, cdv, ct, osl, e, lk, hcd, hD, hK⟩ := F.ex
  rcases hD with ⟨_, rfl⟩ | ⟨z, _⟩
  · exact ⟨⟨oc, od, kV, doc, pm, an, cdv, ct, osl, e, lk, hcd⟩, F.kp⟩
  · exact absurd rfl z
theorem kwOnly_of {K : PySem.W.Frag} {x qual : Str} {st : Stmt} {f : Addr} {fd : FuncData} {ps : List Str} (F : L2.Fun K x qual st f fd)
    (h : ∀ (kV doc pm : Value) (an : Option Addr) (cdv ct : Value) (ws : List Value), ws.length = ps.length → bindArgs (PySem.W.fnOf x qual (defArgs st) (defBody st) (defScope st) .none kV doc pm an cdv ct) ⟨[], ps.zip ws⟩ = pure (ps.zip ws)) : KwOnly fd ps := by
  obtain ⟨oc, od, kV, doc, pm, an, cdv, ct, osl, rfl, lk, hcd⟩ := F.ex
  exact fun s ws hl => .of_eq (h kV doc pm an cdv ct ws hl)
/-- all arguments given, the defaults not needed -/
theorem binds_full {K : PySem.W.Frag} {x qual : Str} {params : Arguments} {body : List Stmt} {scope : Scope} {dvs : List V} {f : Addr} {fd : FuncData} {ps : List Str} (F : FunD K x qual params body scope dvs [] f fd)
    (h0 : ∀ (kV doc pm : Value) (an : Option Addr) (cdv ct : Value) (us : List Value), us.length = ps.length → dvs = [] → bindArgs (PySem.W.fnOf x qual params body scope .none kV doc pm an cdv ct) ⟨us, []⟩ = pure (ps.zip us))
    (h : ∀ (T : Addr) (kV doc pm : Value) (an : Option Addr) (cdv ct : Value) (us its : List Value), us.length = ps.length → its.length = dvs.length → dvs ≠ [] →
      ∃ k, bindArgs (PySem.W.fnOf x qual params body scope (.ref T) kV doc pm an cdv ct) ⟨us, []⟩ = seqItems? (.ref T) >>= k ∧ k (some its.toArray) = pure (ps.zip (us ++ its.drop dvs.length))) : Binds K fd ps [] := by
  by_cases hd : dvs = []
  · subst hd
    exact F.bindsN fun kV doc pm an cdv ct us hl => h0 kV doc pm an cdv ct us hl rfl
  · obtain ⟨ds, r, b⟩ := F.binds1 ps.length dvs.length hd (by omega) fun T kV doc pm an cdv ct us its l1 l2 => h T kV doc pm an cdv ct us its l1 l2 hd
    rw [List.drop_length] at r
    cases r
    exact b
theorem lamAt_of {K : PySem.W.Frag} {mg : Str → Option Value} {base : Heap} {T : YT} {x : Str} {params : Arguments} {body : List Stmt} {scope : Scope} {dvs : List V} {kws : List (Str × V)} {fd : FuncData} (hm : mg x = some (.ref (ga K x)))
    (F : FunD K x x params body scope dvs kws (fAd K (x, none)) fd) (TB : TabB base mg (cT K (x, none)).1 (cT K (x, none)).2) (hmem : ((cT K (x, none)).2, lamQ x) ∈ T.t) (hu : ∀ p ∈ T.t, p.1 = (cT K (x, none)).2 → p.2 = lamQ x) : LamAt K mg base T x := by
  intro f cdv hf hcd
  rw [hm] at hf; cases hf
  obtain ⟨oc, od, dV, kV, doc, pm, an, cv, ct, osl, rfl, lk, hci, _, _⟩ := F.ex
  obtain ⟨oc2, od2, fd2, osl2, lk2, e2⟩ := hcd
  have lk2 : K.lookup (fAd K (x, none)) = some ⟨oc2, od2, .func fd2, osl2⟩ := lk2
  rw [lk] at lk2
  cases lk2
  obtain ⟨c, rfl⟩ := codeIn_ref hci
  have ec : codeOf K (x, none) = c := codeOf_eq lk rfl
  refine ⟨c, (cT K (x, none)).2, e2.symm, ?_, hmem, hu⟩
  have e1 : (cT K (x, none)).1 = c := ec
  rw [← e1]
  exact TB
/-- the tables of the defs that make lambdas -/
def tabs (K : PySem.W.Frag) (tf : List Str) : List (Addr × Str) := tf.map fun x => ((cT K (x, none)).2, lamQ x)
def tabNd (K : PySem.W.Frag) (tf : List Str) : Bool := decide ((tf.map fun x => (cT K (x, none)).2).Nodup)
theorem tabs_uniq {K : PySem.W.Frag} : ∀ {tf : List Str}, (tf.map fun x => (cT K (x, none)).2).Nodup → ∀ x ∈ tf, ∀ p ∈ tabs K tf, p.1 = (cT K (x, none)).2 → p.2 = lamQ x
  | [], _, x, hx, _, _, _ => by cases hx
  | y :: tf, nd, x, hx, p, hp, e => by
    rw [List.map_cons, List.nodup_cons] at nd
    unfold tabs at hp
    rw [List.map_cons] at hp
    rcases List.mem_cons.mp hx with rfl | hx
    · rcases List.mem_cons.mp hp with rfl | hp
      · rfl
      · obtain ⟨z, hz, rfl⟩ := List.mem_map.mp hp
        exact absurd (List.mem_map.mpr ⟨z, hz, e⟩) nd.1
    · rcases List.mem_cons.mp hp with rfl | hp
      · exact absurd (List.mem_map.mpr ⟨x, hx, e.symm⟩) nd.1
      · exact tabs_uniq nd.2 x hx p hp e
/-! ### the law's promise at the script -/
theorem ints_tr {K : PySem.W.Frag} {G : Hp} : ∀ ns : List Int, TrAll K G (ns.map V.int) (ns.map PyData.int)
  | [] => .nil
  | n :: ns => .cons (.int n) (ints_tr ns)
theorem sp_law {K : PySem.W.Frag} {T : YT} {cls : Clss} {F : List PyData → R PyData} {H : Hp} {a : Addr} {ns : List Int} {hs : List (Addr × Obj)} (hS : Rd H a (.lst (ns.map V.int))) (hT : Tabs T.t H) (hH : ∀ p ∈ hs, ∃ u, hoC p.2 = some u ∧ H p.1 = some (.frz p.2 u)) (hC : ∀ G : Hp, (∀ p ∈ hs, ∀ u, hoC p.2 = some u → G p.1 = some (.frz p.2 u)) → Cst K T G) (hF : F [.list (ns.map PyData.int)] = .ok (.bool true)) :
    spF K T cls 1 F [.ref a] H (fun v _ => v = .bl true) (fun _ _ _ => False) := by
  refine ⟨fun b => if b = a ∨ b ∈ hs.map (·.1) then H b else none, [.list (ns.map PyData.int)], fun b o e => ?_, .cons (.lst ?_ (ints_tr ns)) .nil, rfl, ⟨hT, hC _ fun p hp u hu => ?_⟩, ?_⟩
  · by_cases hb : b = a ∨ b ∈ hs.map (·.1)
    · have e' : H b = some o := (if_pos hb).symm.trans e
      clear e
      refine ⟨e', fun ps z => ?_⟩
      subst z
      rcases hb with hb | hb
      · rw [hb] at e'
        rcases hS with h | ⟨o, h⟩ <;> · rw [e'] at h; cases h
      · obtain ⟨p, hp, ep⟩ := List.mem_map.mp hb
        obtain ⟨u, _, h⟩ := hH p hp
        rw [ep, e'] at h; cases h
    · have e : (none : Option HO) = some o := (if_neg hb).symm.trans e
      cases e
  · rcases hS with h | ⟨o, h⟩
    · exact .inl ((if_pos (.inl rfl)).trans h)
    · exact .inr ⟨o, (if_pos (.inl rfl)).trans h⟩
  · obtain ⟨u', h1, h2⟩ := hH p hp
    rw [hu] at h1; cases h1
    exact (if_pos (.inr (List.mem_map.mpr ⟨p, hp, rfl⟩))).trans h2
  · rw [hF]
    intro v H' G' _ t
    cases t
    rfl
/-! ### the text flags that the top asks -/
/-- the world, one flag known -/
def setF (w : World) (b : Bool) : World := { w with params := { w.params with followText := fun s => if s = "special-get-raises" then b else w.params.followText s } }
theorem setF_eq (w : World) : setF w (w.params.followText "special-get-raises") = w := by
  have key : (fun s => if s = "special-get-raises" then w.params.followText "special-get-raises" else w.params.followText s) = w.params.followText := by
    funext s
    split
    · rename_i e; rw [e]
    · rfl
  unfold setF
  rw [key]
end Y


/-! YPlain: the functions over data, applied: what simp is to know. -/
namespace Y
open PySem PySem.Spec PyProof.Rows L2
section
variable {α β : Type} {a : α} {f : α → R β} {c : Str} {d : PyData} {ρ : En} {i : Nat}
@[simp] theorem bind_ok : (R.ok a).bind f = f a := rfl
@[simp] theorem bind_er : (R.er c d : R α).bind f = .er c d := rfl
@[simp] theorem bind_no : (R.no : R α).bind f = .no := rfl
@[simp] theorem ofR_ok {k : α → Out} : ofR (.ok a) k = k a := rfl
@[simp] theorem ofR_er {k : α → Out} : ofR (.er c d) k = .er c d := rfl
@[simp] theorem ofR_no {k : α → Out} : ofR .no k = .no := rfl
@[simp] theorem ofO_some : ofO (some a) = .ok a := rfl
@[simp] theorem ofO_none : ofO (none : Option α) = .no := rfl
@[simp] theorem ap_fNm : fNm i ρ = match ρ[i]? with
  | some (.sh d) => .ok (d, ρ)
  | some (.ow d) => .ok (d, ρ.set i (.sh d))
  | _ => .no := rfl
@[simp] theorem ap_fC : fC d ρ = .ok (d, ρ) := rfl
@[simp] theorem ap_fOp {g : PyData → PyData → Option PyData} {fa fb : EF} : fOp g fa fb ρ = (fa ρ).bind fun x => (fb x.2).bind fun y => (ofO (g x.1 y.1)).bind fun d => .ok (d, y.2) := rfl
@[simp] theorem ap_fUn {g : PyData → Option PyData} {fa : EF} : fUn g fa ρ = (fa ρ).bind fun x => (ofO (g x.1)).bind fun d => .ok (d, x.2) := rfl
@[simp] theorem ap_fB {f : EF} : fB f ρ = (f ρ).bind fun x => (ofO (asB x.1)).bind fun k => .ok (k, x.2) := rfl
@[simp] theorem ap_fAnd {s t : TF} : fAnd s t ρ = (s ρ).bind fun x => if x.1 = true then t x.2 else .ok (false, x.2) := rfl
@[simp] theorem ap_fOr {s t : TF} : fOr s t ρ = (s ρ).bind fun x => if x.1 = true then .ok (true, x.2) else t x.2 := rfl
@[simp] theorem ap_fNot {s : TF} : fNot s ρ = (s ρ).bind fun x => .ok (!x.1, x.2) := rfl
@[simp] theorem ap_fAndV {fa fb : EF} : fAndV fa fb ρ = (fB fa ρ).bind fun x => if x.1 = true then fb x.2 else .ok (.bool false, x.2) := rfl
@[simp] theorem ap_fOrV {fa fb : EF} : fOrV fa fb ρ = (fB fa ρ).bind fun x => if x.1 = true then .ok (.bool true, x.2) else fb x.2 := rfl
@[simp] theorem ap_fNotV {fa : EF} : fNotV fa ρ = (fB fa ρ).bind fun x => .ok (.bool (!x.1), x.2) := rfl
@[simp] theorem ap_fIf {t : TF} {fa fb : EF} : fIf t fa fb ρ = (t ρ).bind fun x => if x.1 = true then fa x.2 else fb x.2 := rfl
@[simp] theorem ap_fNil : fNil ρ = .ok ([], ρ) := rfl
@[simp] theorem ap_fCons {f : EF} {fs : AF} : fCons f fs ρ = (f ρ).bind fun x => (fs x.2).bind fun xs => .ok (x.1 :: xs.1, xs.2) := rfl
@[simp] theorem ap_fTup {fs : AF} : fTup fs ρ = (fs ρ).bind fun x => if x.1.length ≤ 1000 then .ok (.tuple x.1, x.2) else .no := rfl
@[simp] theorem ap_fLst {fs : AF} : fLst fs ρ = (fs ρ).bind fun x => if x.1.length ≤ 1000 then .ok (.list x.1, x.2) else .no := rfl
@[simp] theorem ap_fChain {g g' : PyData → PyData → Option PyData} {fa fb fc : EF} : fChain g g' fa fb fc ρ = (fa ρ).bind fun x => (fb x.2).bind fun y => (ofO (g x.1 y.1)).bind fun d => (ofO (asB d)).bind fun k =>
  if k = true then (fc y.2).bind fun z => (ofO (g' y.1 z.1)).bind fun d' => .ok (d', z.2) else .ok (.bool false, y.2) := rfl
@[simp] theorem ap_fIsi {n : String} {f : EF} : fIsi n f ρ = (f ρ).bind fun x => if isExc x.1 = false then .ok (.bool (isTy n x.1), x.2) else .no := rfl
@[simp] theorem ap_fCall {F : List PyData → R PyData} {fs : AF} : fCall F fs ρ = (fs ρ).bind fun x => (F x.1).bind fun d => .ok (d, x.2) := rfl
@[simp] theorem ap_fCallS {F : PyData → List PyData → R (PyData × PyData)} {fs : AF} : fCallS F i fs ρ = (ioAt ρ i).bind fun _ => (fs ρ).bind fun x => (ioAt x.2 i).bind fun d0 => (F d0 x.1).bind fun r => .ok (r.1, ioSet x.2 i r.2) := rfl
@[simp] theorem ap_fBlt {g : List PyData → Option PyData} {fs : AF} : fBlt g fs ρ = (fs ρ).bind fun x => (ofO (g x.1)).bind fun d => .ok (d, x.2) := rfl
@[simp] theorem ap_fBltN {g : List PyData → Option (List PyData)} {fs : AF} : fBltN g fs ρ = (fs ρ).bind fun x => (ofO (g x.1)).bind fun ds => .ok (.list ds, x.2) := rfl
@[simp] theorem ap_fBltO {g : List PyData → Option PyData} {fs : AF} : fBltO g fs ρ = (fs ρ).bind fun x => (ofO (g x.1)).bind fun d => .ok (d, x.2) := rfl
@[simp] theorem ap_fBltX {g : List PyData → Option PyData} : fBltX g i ρ = (anyAt ρ i).bind fun d => (ofO (g [d])).bind fun r => if scl r = true then .ok (r, ρ) else .no := rfl
@[simp] theorem ap_fIxN {fk : EF} : fIxN i fk ρ = (anyAt ρ i).bind fun d0 => (fk ρ).bind fun y => (anyAt y.2 i).bind fun d => if isDct d = isDct d0 then (ofO (gIxD d y.1)).bind fun r => .ok (r, y.2) else .no := rfl
@[simp] theorem ap_fOpN {g : PyData → PyData → Option PyData} {fa : EF} : fOpN g fa i ρ = (fa ρ).bind fun x => (anyAt x.2 i).bind fun d => (ofO (g x.1 d)).bind fun r => if scl r = true then .ok (r, x.2) else .no := rfl
@[simp] theorem ap_fMth {F : PyData → List PyData → Option (PyData × PyData)} {fs : AF} : fMth F i fs ρ = (ioAt ρ i).bind fun z => if isLst z = true then (fs ρ).bind fun x => (ioAt x.2 i).bind fun d0 => (ofO (F d0 x.1)).bind fun r => .ok (r.1, ioSet x.2 i r.2) else .no := rfl
@[simp] theorem ap_fDsp {fr : En → R (List (PyData × PyData) × En)} : fDsp fr ρ = (fr ρ).bind fun r => if r.1.length ≤ 15 then .ok (.dict (mergeD r.1), r.2) else .no := rfl
@[simp] theorem ap_pNil : pNil ρ = .ok ([], ρ) := rfl
@[simp] theorem ap_pCons {fk fv : EF} {fr : En → R (List (PyData × PyData) × En)} : pCons fk fv fr ρ = (fk ρ).bind fun k => (fv k.2).bind fun v => (ofO (keyOf k.1)).bind fun _ => (fr v.2).bind fun r => .ok ((k.1, v.1) :: r.1, r.2) := rfl
@[simp] theorem ap_fSl {f : EF} {lo hi : OF} : fSl f lo hi ρ = (f ρ).bind fun x => (lo x.2).bind fun l => (hi l.2).bind fun u => (ofO (slD x.1 l.1 u.1)).bind fun d => .ok (d, u.2) := rfl
@[simp] theorem ap_oNo : oNo ρ = .ok (none, ρ) := rfl
@[simp] theorem ap_oEx {f : EF} : oEx f ρ = (f ρ).bind fun x => (ofO (asI x.1)).bind fun i => .ok (some i, x.2) := rfl
@[simp] theorem ap_fItems {f : EF} : fItems f ρ = (f ρ).bind fun x => (ofO (itemsOf x.1)).bind fun ds => .ok (ds, x.2) := rfl
@[simp] theorem ap_fRng {fs : AF} : fRng fs ρ = (fs ρ).bind fun x => (ofO (rngOf x.1)).bind fun ds => .ok (ds, x.2) := rfl
@[simp] theorem ap_fRng3 {fs : AF} : fRng3 fs ρ = (fs ρ).bind fun x => (ofO (rng3Of x.1)).bind fun ds => .ok (ds, x.2) := rfl
@[simp] theorem ap_fEnum2 {fs : AF} : fEnum2 fs ρ = (fs ρ).bind fun x => (ofO (seqOf x.1)).bind fun ds => .ok (enumD 0 ds, x.2) := rfl
@[simp] theorem ap_fEnum {fs : AF} : fEnum fs ρ = (fs ρ).bind fun x => (ofO (lstOf x.1)).bind fun ds => .ok (enumD 0 ds, x.2) := rfl
/-! statements -/
@[simp] theorem ap_sSeq {g h : SF} : sSeq g h ρ = match g ρ with
  | .nx ρ' => h ρ'
  | o => o := rfl
@[simp] theorem ap_sNil : sNil ρ = .nx ρ := rfl
@[simp] theorem ap_sRet {f : EF} : sRet f ρ = ofR (f ρ) fun x => .rt x.1 x.2 := rfl
@[simp] theorem ap_sRetN {f : EF} : sRetN f ρ = ofR (f ρ) fun x => .rn x.1 x.2 := rfl
@[simp] theorem ap_sRet0 : sRet0 ρ = .rt .none ρ := rfl
@[simp] theorem ap_sExpr {f : EF} : sExpr f ρ = ofR (f ρ) fun x => .nx x.2 := rfl
@[simp] theorem ap_sIf {t : TF} {g h : SF} : sIf t g h ρ = ofR (t ρ) fun x => if x.1 = true then g x.2 else h x.2 := rfl
@[simp] theorem ap_sAsg {f : EF} {g : PyData → En → Option En} : sAsg f g ρ = ofR (f ρ) fun x => match g x.1 x.2 with
  | some ρ' => .nx ρ'
  | none => .no := rfl
@[simp] theorem ap_sOwn {f : EF} : sOwn f i ρ = ofR (f ρ) fun x => .nx (x.2.set i (.ow x.1)) := rfl
@[simp] theorem ap_sPar {is : List Nat} {ks : List Bool} {fs : AF} : sPar is ks fs ρ = ofR (fs ρ) fun x => if x.1.length = is.length then .nx (setK is ks x.1 x.2) else .no := rfl
@[simp] theorem ap_sRaise {f : EF} : sRaise c f ρ = ofR (f ρ) fun x => .er c x.1 := rfl
@[simp] theorem ap_sFor {fi : AF} {g : PyData → En → Option En} {b : SF} : sFor fi g b ρ = ofR (fi ρ) fun x => forF g b x.1 x.2 := rfl
@[simp] theorem ap_sWhile {t : TF} {b : SF} : sWhile t b ρ = whileF t b fuel ρ := rfl
@[simp] theorem ap_sPut {fk fv : EF} : sPut i fk fv ρ = ofR ((fv ρ).bind fun v => (ioAt v.2 i).bind fun _ => (fk v.2).bind fun k => (ioAt k.2 i).bind fun d => match d, kc k.1 with
  | .dict es, some c => if kindOk es c = true ∧ es.length < 1000000 then .ok (.dict (putD es k.1 c v.1), k.2) else .no
  | _, _ => .no) fun x => .nx (ioSet x.2 i x.1) := rfl
@[simp] theorem ap_tNm : tNm i d ρ = some (ρ.set i (.sh d)) := rfl
@[simp] theorem ap_tTp {n : Nat} {gs : List PyData → En → Option En} {ds : List PyData} : tTp n gs (.tuple ds) ρ = if ds.length = n then gs ds ρ else none := rfl
@[simp] theorem ap_tTpL {n : Nat} {gs : List PyData → En → Option En} {ds : List PyData} : tTp n gs (.list ds) ρ = if ds.length = n then gs ds ρ else none := rfl
@[simp] theorem ap_tsNil : tsNil [] ρ = some ρ := rfl
@[simp] theorem ap_tsCons {g : PyData → En → Option En} {gs : List PyData → En → Option En} {ds : List PyData} : tsCons g gs (d :: ds) ρ = (g d ρ).bind fun ρ1 => gs ds ρ1 := rfl
/-! slots, dicts with text keys -/
@[simp] theorem ap_anyAt : anyAt ρ i = match ρ[i]? with
  | some (.sh d) => .ok d
  | some (.ow d) => .ok d
  | some (.io d) => .ok d
  | _ => .no := rfl
@[simp] theorem ap_ioAt : ioAt ρ i = match ρ[i]? with
  | some (.ow d) => .ok d
  | some (.io d) => .ok d
  | _ => .no := rfl
@[simp] theorem ap_ioSet : ioSet ρ i d = match ρ[i]? with
  | some (.ow _) => ρ.set i (.ow d)
  | some (.io _) => ρ.set i (.io d)
  | _ => ρ := rfl
@[simp] theorem kc_s {s : Str} : kc (.str s) = some (.inl (.inr s)) := rfl
@[simp] theorem kc_i {n : Int} : kc (.int n) = some (.inl (.inl n)) := rfl
@[simp] theorem lk_nil {k : Key ⊕ List Key} : lkD [] k = none := rfl
theorem lk_cons {k : Key ⊕ List Key} {p : PyData × PyData} {es : List (PyData × PyData)} : lkD (p :: es) k = if kc p.1 = some k then some p.2 else lkD es k := by
  unfold lkD
  rw [List.find?_cons]
  by_cases h : kc p.1 = some k
  · simp [h]
  · simp [h]
@[simp] theorem lk_str {s t : Str} {d : PyData} {es : List (PyData × PyData)} : lkD ((.str s, d) :: es) (.inl (.inr t)) = if s = t then some d else lkD es (.inl (.inr t)) := by
  rw [lk_cons]; simp
@[simp] theorem kindOk_nil {k : Key ⊕ List Key} : kindOk [] k = true := rfl
@[simp] theorem kindOk_str {s t : Str} {d : PyData} {es : List (PyData × PyData)} : kindOk ((.str s, d) :: es) (.inl (.inr t)) = kindOk es (.inl (.inr t)) := by
  unfold kindOk; simp
/-! ints -/
variable {i j : Int}
@[simp] theorem gAdd_int : gAdd (.int i) (.int j) = some (.int (i + j)) := rfl
@[simp] theorem gSub_int : gSub (.int i) (.int j) = some (.int (i - j)) := rfl
@[simp] theorem gMod_int (h : j ≠ 0) : gMod (.int i) (.int j) = some (.int (i.fmod j)) := by unfold gMod g2I; simp [h]
@[simp] theorem gMul_int : gMul (.int i) (.int j) = if mulOk i j = true then some (.int (i * j)) else none := rfl
theorem mulOk_l (h : i.natAbs < 18446744073709551616) : mulOk i j = true := by unfold mulOk; simp [h]
theorem mulOk_r (h : j.natAbs < 18446744073709551616) : mulOk i j = true := by unfold mulOk; simp [h]
@[simp] theorem gDiv_int (h : 0 < j) (h2 : j < 1073741824) : gDiv (.int i) (.int j) = some (.int (i.fdiv j)) := by
  unfold gDiv g2I divOk
  have h3 : j ≠ 0 := by omega
  have h4 : j.natAbs < 1073741824 := by omega
  simp [h3, h4]
@[simp] theorem gLt_int : gLt (.int i) (.int j) = some (.bool (decide (i < j))) := rfl
@[simp] theorem gLe_int : gLe (.int i) (.int j) = some (.bool (decide (i ≤ j))) := rfl
@[simp] theorem gGt_int : gGt (.int i) (.int j) = some (.bool (decide (j < i))) := rfl
@[simp] theorem gGe_int : gGe (.int i) (.int j) = some (.bool (decide (j ≤ i))) := rfl
@[simp] theorem eqv_int : PyData.eqv (.int i) (.int j) = decide (i = j) := by
  unfold PyData.eqv
  rfl
@[simp] theorem shaped_int : SeqAt.shaped (.int i) = true := by unfold SeqAt.shaped; simp [PyData.canLay0, PyData.depth]
@[simp] theorem gEq_int : gEq (.int i) (.int j) = some (.bool (decide (i = j))) := by unfold gEq; simp
@[simp] theorem gNe_int : gNe (.int i) (.int j) = some (.bool (!decide (i = j))) := by unfold gNe; simp
@[simp] theorem asB_bool {b : Bool} : asB (.bool b) = some b := rfl
@[simp] theorem asI_int : asI (.int i) = some i := rfl
@[simp] theorem ixl {ds : List PyData} : gIxD (.list ds) (.int i) = atI ds i := rfl
@[simp] theorem ixt {ds : List PyData} : gIxD (.tuple ds) (.int i) = atI ds i := rfl
@[simp] theorem ixd {es : List (PyData × PyData)} {s : Str} : gIxD (.dict es) (.str s) = lkD es (.inl (.inr s)) := rfl
@[simp] theorem isDct_d {es : List (PyData × PyData)} : isDct (.dict es) = true := rfl
@[simp] theorem isDct_l {ds : List PyData} : isDct (.list ds) = false := rfl
@[simp] theorem isDct_t {ds : List PyData} : isDct (.tuple ds) = false := rfl
theorem while_run {c : TF} {b : SF} {I : Nat → En → Prop} {Post : En → Prop} (h : ∀ m ρ, I m ρ → (∃ ρ1 m' ρ2, c ρ = .ok (true, ρ1) ∧ (b ρ1 = .nx ρ2 ∨ b ρ1 = .ct ρ2) ∧ m' < m ∧ I m' ρ2) ∨ ∃ ρ', c ρ = .ok (false, ρ') ∧ Post ρ') :
    ∀ (n m : Nat) (ρ : En), m < n → I m ρ → ∃ ρ', whileF c b n ρ = .nx ρ' ∧ Post ρ'
  | 0, _, _, hm, _ => absurd hm (Nat.not_lt_zero _)
  | n + 1, m, ρ, hm, hI => by
    unfold whileF
    rcases h m ρ hI with ⟨ρ1, m', ρ2, e1, e2, hlt, hI2⟩ | ⟨ρ', e, hp⟩
    · rw [e1]
      obtain ⟨ρ', e3, hp⟩ := while_run h n m' ρ2 (by omega) hI2
      refine ⟨ρ', ?_, hp⟩
      rcases e2 with e2 | e2
      · simp [e2, e3]
      · simp [e2, e3]
    · rw [e]
      exact ⟨ρ', by simp, hp⟩
theorem for_run {g : PyData → En → Option En} {b : SF} {I : Nat → En → Prop} : ∀ {ds : List PyData} {k : Nat} {ρ : En}, (∀ (i : Nat) d ρ, ds[i]? = some d → I (k + i) ρ → ∃ ρ1 ρ2, g d ρ = some ρ1 ∧ (b ρ1 = .nx ρ2 ∨ b ρ1 = .ct ρ2) ∧ I (k + i + 1) ρ2) → I k ρ →
    ∃ ρ', forF g b ds ρ = .nx ρ' ∧ I (k + ds.length) ρ'
  | [], k, ρ, _, hI => ⟨ρ, rfl, hI⟩
  | d :: ds, k, ρ, h, hI => by
    obtain ⟨ρ1, ρ2, e1, e2, hI2⟩ := h 0 d ρ rfl hI
    obtain ⟨ρ', e3, hI3⟩ := for_run (g := g) (b := b) (I := I) (ds := ds) (k := k + 1) (ρ := ρ2) (fun i d' ρ' hd hi => by
      have z := h (i + 1) d' ρ' (by simpa using hd) (by rw [show k + (i + 1) = k + 1 + i by omega]; exact hi)
      rw [show k + (i + 1) + 1 = k + 1 + i + 1 by omega] at z
      exact z) hI2
    refine ⟨ρ', ?_, by rw [List.length_cons, show k + (ds.length + 1) = k + 1 + ds.length by omega]; exact hI3⟩
    unfold forF
    rw [e1]
    rcases e2 with e2 | e2
    · simp [e2, e3]
    · simp [e2, e3]
theorem comp_run {vs : List Nat} {g : PyData → En → Option En} {t : TF} {f : EF} (F : PyData → Option PyData) : ∀ {ds : List PyData}, (∀ d ∈ ds, ∃ ρ1 ρ2, g d ρ = some ρ1 ∧
    ((t ρ1 = .ok (true, ρ2) ∧ ∃ v ρ3, f ρ2 = .ok (v, ρ3) ∧ F d = some v ∧ wipeE ρ3 vs = ρ) ∨ (t ρ1 = .ok (false, ρ2) ∧ F d = none ∧ wipeE ρ2 vs = ρ))) → compF vs g t f ds ρ = .ok (ds.filterMap F, ρ)
  | [], _ => rfl
  | d :: ds, h => by
    obtain ⟨ρ1, ρ2, e1, h1⟩ := h d List.mem_cons_self
    have ih := comp_run (g := g) (t := t) (f := f) F (ds := ds) fun d hd => h d (List.mem_cons_of_mem _ hd)
    unfold compF
    rw [e1]
    rcases h1 with ⟨e2, v, ρ3, e3, e4, e5⟩ | ⟨e2, e4, e5⟩
    · simp [e2, e3, e4, e5, ih, List.filterMap_cons]
    · simp [e2, e4, e5, ih, List.filterMap_cons]
@[simp] theorem ap_fComp {vs : List Nat} {fi : AF} {g : PyData → En → Option En} {t : TF} {f : EF} : fComp vs fi g t f ρ = (fi ρ).bind fun x => if x.1.length ≤ 1000000 then (strict (compF vs g t f x.1 (wipeE x.2 vs))).bind fun z => .ok (.list z.1, backE x.2 z.2 vs) else .no := rfl
@[simp] theorem ap_strict {a : α} : strict (R.ok a) = .ok a := rfl
@[simp] theorem ap_tYes : tYes' ρ = .ok (true, ρ) := rfl
@[simp] theorem wipe0 : wipeE ρ [] = ρ := rfl
@[simp] theorem wipe1 {v : Nat} {vs : List Nat} : wipeE ρ (v :: vs) = (wipeE ρ vs).set v .un := rfl
@[simp] theorem back0 {ρ0 : En} : backE ρ0 ρ [] = ρ := rfl
@[simp] theorem back1 {ρ0 : En} {v : Nat} {vs : List Nat} : backE ρ0 ρ (v :: vs) = match ρ0[v]? with
  | some (.sh d) => (backE ρ0 ρ vs).set v (.sh d)
  | _ => backE ρ0 ρ vs := rfl
@[simp] theorem comp_nil {vs : List Nat} {g : PyData → En → Option En} {t : TF} {f : EF} : compF vs g t f [] ρ = .ok ([], ρ) := rfl
@[simp] theorem ap_fThkL {r : R PyData} : fThkL r ρ = if isLam ρ[0]? = true then (r.bind fun d => .ok (d, ρ)) else .no := rfl
@[simp] theorem isLam_some : isLam (some Sl.lam) = true := rfl
@[simp] theorem ap_fLam {caps : List Nat} {F : R PyData → R PyData} {fl : EF} : fLam caps F fl ρ = (F (valR (fl (shOnly (fzs caps ρ))))).bind fun d => .ok (d, fzs caps ρ) := rfl
@[simp] theorem ap_fLamX {caps : List Nat} {ix : Nat} {F : R PyData → R PyData} {fl : EF} : fLamX caps ix F fl ρ = (F (valR (fl (shOnly ((fzs caps ρ).set ix .un))))).bind fun d => .ok (d, fzs caps ρ) := rfl
@[simp] theorem ap_fComp2 {vs vs1 : List Nat} {fi fi1 : AF} {g g1 : PyData → En → Option En} {t t1 : TF} {f : EF} : fComp2 vs fi g t fi1 vs1 g1 t1 f ρ = (fi ρ).bind fun x => (strict (compF2 vs g t fi1 vs1 g1 t1 f x.1 (wipeE x.2 vs))).bind fun z => if z.1.length ≤ 1000000 then .ok (.list z.1, backE x.2 z.2 vs) else .no := rfl
@[simp] theorem comp2_nil {vs vs1 : List Nat} {g g1 : PyData → En → Option En} {t t1 : TF} {fi1 : AF} {f : EF} : compF2 vs g t fi1 vs1 g1 t1 f [] ρ = .ok ([], ρ) := rfl
@[simp] theorem ap_fStar {f : EF} {fs : AF} : fStar f fs ρ = (f ρ).bind fun x => (ofO (itemsOf x.1)).bind fun ds => (fs x.2).bind fun xs => .ok (ds ++ xs.1, xs.2) := rfl
@[simp] theorem ap_fXf {names : List Str} {n : Str} {f : EF} : fXf names n f ρ = (f ρ).bind fun x => match x.1 with
  | .dict [(.none, .str c), (.none, d)] => if c ∈ names ∧ fld c = n then .ok (d, x.2) else .no
  | _ => .no := rfl
@[simp] theorem ap_sTryK {sub : Str → Str → Bool} {F : List PyData → R PyData} {fs : AF} {cl : List Cla} : sTryK sub F fs cl ρ = match fs ρ with
  | .ok y => (match F y.1 with
    | .ok _ => .nx y.2
    | .er c d => sSuitesK sub y.2 c d cl
    | .no => .no)
  | _ => .no := rfl
@[simp] theorem ap_sTry {sub : Str → Str → Bool} {n : Nat} {gb : SF} {cl : List Cla} : sTry sub n gb cl ρ = match gb ρ with
  | .er c d => sSuites sub n c d cl
  | o => o := rfl
@[simp] theorem ap_valR {x : PyData × En} : valR (.ok x) = .ok x.1 := rfl
@[simp] theorem ap_valE : valR (.er c d) = .er c d := rfl
@[simp] theorem ap_setK0 : setK [] [] [] ρ = ρ := rfl
@[simp] theorem ap_setK {i : Nat} {is : List Nat} {ks : List Bool} {k : Bool} {ds : List PyData} : setK (i :: is) (k :: ks) (d :: ds) ρ = setK is ks ds (ρ.set i (slK k d)) := rfl
@[simp] theorem gNeg_int : gNeg (.int i) = some (.int (-i)) := rfl
@[simp] theorem ap_slF : slK false d = .sh d := rfl
@[simp] theorem ap_slT : slK true d = .ow d := rfl
@[simp] theorem for_nil {g : PyData → En → Option En} {b : SF} : forF g b [] ρ = .nx ρ := rfl
@[simp] theorem start_ap {N : List Str} {ds : List PyData} : start N ds = ds.map Sl.sh ++ List.replicate (N.length - ds.length) Sl.un := rfl
@[simp] theorem startS_ap {N : List Str} {d0 : PyData} {ds : List PyData} : startS N d0 ds = .io d0 :: start N.tail ds := rfl
end
end Y


/-! YShow: what is shown is text -/
namespace Y
open PySem PySem.Spec PyProof.Rows L2
def okT (s : Str) : Prop := ∀ c ∈ s.cps.toList, c < 0x110000
theorem okT_strOk {s : Str} (h : okT s) : PyData.strOk s = true := by
  unfold PyData.strOk
  rw [← Array.all_toList, List.all_eq_true]
  intro c hc
  exact decide_eq_true (h c hc)
theorem strOk_okT {s : Str} (h : PyData.strOk s = true) : okT s := by
  unfold PyData.strOk at h
  rw [← Array.all_toList, List.all_eq_true] at h
  intro c hc
  exact of_decide_eq_true (h c hc)
theorem okT_app {a b : Str} (ha : okT a) (hb : okT b) : okT (a ++ b) := by
  intro c hc
  rw [cps_toList_append, List.mem_append] at hc
  exact hc.elim (ha c) (hb c)
theorem okT_from : ∀ (ts : List Str) (k : Nat) (acc : Str), okT acc → (∀ t ∈ ts, okT t) → okT (textFrom k acc ts)
  | [], _, _, h, _ => h
  | t :: ts, k, acc, h, hs => by
    show okT (textFrom (k + 1) (acc ++ (if k > 0 then ", " else "" : String) ++ t) ts)
    refine okT_from ts (k + 1) _ (okT_app (okT_app h ?_) (hs t List.mem_cons_self)) fun t ht => hs t (List.mem_cons_of_mem _ ht)
    split
    · exact strOk_okT (by decide +kernel)
    · exact strOk_okT (by decide +kernel)
theorem okT_join : ∀ (ts : List Str), (∀ t ∈ ts, okT t) → okT (Str.join ", " ts)
  | [], _ => strOk_okT (by decide +kernel)
  | [t], h => h t List.mem_cons_self
  | t :: u :: ts, h => by
    show okT (t ++ ", " ++ Str.join ", " (u :: ts))
    exact okT_app (okT_app (h t List.mem_cons_self) (strOk_okT (by decide +kernel))) (okT_join (u :: ts) fun t ht => h t (List.mem_cons_of_mem _ ht))
theorem okT_list {ts : List Str} (h : ∀ t ∈ ts, okT t) : okT (listText ts) := okT_app (okT_from ts 0 _ (strOk_okT (by decide +kernel)) h) (strOk_okT (by decide +kernel))
theorem okT_tuple {ts : List Str} (h : ∀ t ∈ ts, okT t) : okT (tupleText ts) := by
  unfold tupleText
  refine okT_app (okT_app (strOk_okT (by decide +kernel)) (okT_join ts h)) ?_
  split
  · exact strOk_okT (by decide +kernel)
  · exact strOk_okT (by decide +kernel)
theorem okT_int (i : Int) : okT (PyData.int i).shown := by
  intro c hc
  by_cases h : c = 45 ∨ (48 ≤ c ∧ c ≤ 57)
  · omega
  · exact absurd hc (shown_int_free' (by omega) i)
/-! without texts and tables -/
mutual
def plainD : PyData → Bool
  | .none | .bool _ | .int _ => true
  | .list xs | .tuple xs => plainDs xs
  | _ => false
def plainDs : List PyData → Bool
  | [] => true
  | x :: xs => plainD x && plainDs xs
end
mutual
theorem okT_shown : ∀ d : PyData, plainD d = true → okT d.shown
  | .none, _ => strOk_okT (by decide +kernel)
  | .bool true, _ => strOk_okT (by decide +kernel)
  | .bool false, _ => strOk_okT (by decide +kernel)
  | .int i, _ => okT_int i
  | .list xs, h => okT_list (okT_shownAll xs (by simpa [plainD] using h))
  | .tuple xs, h => okT_tuple (okT_shownAll xs (by simpa [plainD] using h))
  | .str _, h => by simp [plainD] at h
  | .dict _, h => by simp [plainD] at h
theorem okT_shownAll : ∀ ds : List PyData, plainDs ds = true → ∀ t ∈ PyData.shownAll ds, okT t
  | [], _ => fun _ h => nomatch h
  | d :: ds, h => by
    simp only [plainDs, Bool.and_eq_true] at h
    intro t ht
    simp only [PyData.shownAll, List.mem_cons] at ht
    rcases ht with rfl | ht
    · exact okT_shown d h.1
    · exact okT_shownAll ds h.2 t ht
end
/-! with texts -/
mutual
def strsOk : PyData → Bool
  | .none | .bool _ | .int _ => true
  | .str x => PyData.strOk (reprText x)
  | .list xs | .tuple xs => strsOkAll xs
  | .dict _ => false
def strsOkAll : List PyData → Bool
  | [] => true
  | x :: xs => strsOk x && strsOkAll xs
end
mutual
theorem okT_shownS : ∀ d : PyData, strsOk d = true → okT d.shown
  | .none, _ => strOk_okT (by decide +kernel)
  | .bool true, _ => strOk_okT (by decide +kernel)
  | .bool false, _ => strOk_okT (by decide +kernel)
  | .int i, _ => okT_int i
  | .list xs, h => okT_list (okT_shownSAll xs (by simpa [strsOk] using h))
  | .tuple xs, h => okT_tuple (okT_shownSAll xs (by simpa [strsOk] using h))
  | .str x, h => strOk_okT (by simp only [strsOk] at h; exact h)
  | .dict _, h => by simp [strsOk] at h
theorem okT_shownSAll : ∀ ds : List PyData, strsOkAll ds = true → ∀ t ∈ PyData.shownAll ds, okT t
  | [], _ => fun _ h => nomatch h
  | d :: ds, h => by
    simp only [strsOkAll, Bool.and_eq_true] at h
    intro t ht
    simp only [PyData.shownAll, List.mem_cons] at ht
    rcases ht with rfl | ht
    · exact okT_shownS d h.1
    · exact okT_shownSAll ds h.2 t ht
end
theorem str_self {s : Str} (h : okT s) : gNe (.str s) (.str s) = some (.bool false) := by
  have c : PyData.canLay0 (.str s) = true := okT_strOk h
  have sh : SeqAt.shaped (.str s) = true := by
    unfold SeqAt.shaped
    rw [c]
    rfl
  unfold gNe
  rw [if_pos ⟨sh, sh⟩, SeqAt.eqv_refl _ c]
  rfl
/-- the text of a thing is there, and is itself -/
def shwOk (d : PyData) : Bool := SeqAt.shaped d && (d.showable && (d.leavesShort 13 && (decide (15 * d.bulk + 13 ≤ 1000000) && strsOk d)))
theorem repr_self {d : PyData} (h : shwOk d = true) : ∃ u, gRepr [d] = some u ∧ gNe u u = some (.bool false) := by
  unfold shwOk at h
  simp only [Bool.and_eq_true, decide_eq_true_eq] at h
  obtain ⟨h1, h2, h3, h4, h5⟩ := h
  have hb := PyData.shown_le_bulk 13 (by omega) d h3
  refine ⟨.str d.shown, ?_, str_self (okT_shownS d h5)⟩
  show (if SeqAt.shaped d = true ∧ d.showable = true ∧ d.shown.length ≤ 1000000 then some (PyData.str d.shown) else none) = _
  rw [if_pos ⟨h1, h2, by omega⟩]
end Y


/-! YTool: what plain laws have alike. -/
namespace Y
open PySem PySem.Spec PyProof.Rows L2
section
variable {ρ ρ' : En} {g h : SF} {P : Out → Prop}
theorem seq_nx (e : g ρ = .nx ρ') (k : P (h ρ')) : P (sSeq g h ρ) := by rw [ap_sSeq, e]; exact k
/-- a statement ends as told, the rest goes on -/
theorem seq_ex (e : ∃ ρ', g ρ = .nx ρ' ∧ P (h ρ')) : P (sSeq g h ρ) := by obtain ⟨ρ', e, k⟩ := e; exact seq_nx e k
theorem at_nat {ds : List PyData} {i : Nat} (h : i < ds.length) : atI ds (i : Int) = some ds[i] := by
  unfold atI ixN
  have : (i : Int) < ds.length := by omega
  simp [this, h]
@[simp] theorem at0 {a : PyData} {as : List PyData} : atI (a :: as) 0 = some a := at_nat (i := 0) (by simp)
@[simp] theorem at1 {a b : PyData} {as : List PyData} : atI (a :: b :: as) 1 = some b := at_nat (i := 1) (by simp)
@[simp] theorem at2 {a b c : PyData} {as : List PyData} : atI (a :: b :: c :: as) 2 = some c := at_nat (i := 2) (by simp)
@[simp] theorem at3 {a b c d : PyData} {as : List PyData} : atI (a :: b :: c :: d :: as) 3 = some d := at_nat (i := 3) (by simp)
@[simp] theorem at4 {a b c d e : PyData} {as : List PyData} : atI (a :: b :: c :: d :: e :: as) 4 = some e := at_nat (i := 4) (by simp)
@[simp] theorem at5 {a b c d e f : PyData} {as : List PyData} : atI (a :: b :: c :: d :: e :: f :: as) 5 = some f := at_nat (i := 5) (by simp)
@[simp] theorem at6 {a b c d e f g : PyData} {as : List PyData} : atI (a :: b :: c :: d :: e :: f :: g :: as) 6 = some g := at_nat (i := 6) (by simp)
@[simp] theorem itemsT {ds : List PyData} : itemsOf (.tuple ds) = some ds := rfl
@[simp] theorem itemsL {ds : List PyData} : itemsOf (.list ds) = some ds := rfl
@[simp] theorem lenT {ds : List PyData} : gLen [.tuple ds] = some (.int ds.length) := rfl
@[simp] theorem lenL {ds : List PyData} : gLen [.list ds] = some (.int ds.length) := rfl
@[simp] theorem seqL {ds : List PyData} : seqOf [.list ds] = some ds := rfl
@[simp] theorem seqT {ds : List PyData} : seqOf [.tuple ds] = some ds := rfl
@[simp] theorem lstL {ds : List PyData} : lstOf [.list ds] = some ds := rfl
@[simp] theorem tupL {ds : List PyData} : gTuple [.list ds] = some (.tuple ds) := rfl
@[simp] theorem tupT {ds : List PyData} : gTuple [.tuple ds] = some (.tuple ds) := rfl
@[simp] theorem isLst_l {ds : List PyData} : isLst (.list ds) = true := rfl
@[simp] theorem gcd_int {i j : Int} : gGcd [.int i, .int j] = some (.int ((Nat.gcd i.natAbs j.natAbs : Nat) : Int)) := rfl
@[simp] theorem abs_int {i : Int} : gAbs [.int i] = some (.int (i.natAbs : Nat)) := by
  show some (PyData.int (if i < 0 then -i else i)) = _
  congr 2
  split <;> omega
theorem addL {as bs : List PyData} (h : as.length + bs.length ≤ 1000000) : gAdd (.list as) (.list bs) = some (.list (as ++ bs)) := by
  show (if as.length + bs.length ≤ 1000000 then some (PyData.list (as ++ bs)) else none) = _
  rw [if_pos h]
theorem gEq_sh {a b : PyData} (ha : SeqAt.shaped a = true) (hb : SeqAt.shaped b = true) : gEq a b = some (.bool (PyData.eqv a b)) := by
  unfold gEq; rw [if_pos ⟨ha, hb⟩]
theorem gNe_sh2 {a b : PyData} (ha : SeqAt.shaped a = true) (hb : SeqAt.shaped b = true) : gNe a b = some (.bool (!PyData.eqv a b)) := by
  unfold gNe; rw [if_pos ⟨ha, hb⟩]
theorem sh_ints (ds : List Int) : PyData.canLayAll0 (ds.map PyData.int) = true ∧ PyData.depthAll (ds.map PyData.int) ≤ 1 := by
  induction ds with
  | nil => exact ⟨rfl, Nat.zero_le _⟩
  | cons a as ih => simp [PyData.canLayAll0, PyData.canLay0, PyData.depthAll, PyData.depth] at ih ⊢; omega
theorem sh_tupI (ds : List Int) : SeqAt.shaped (.tuple (ds.map PyData.int)) = true := by
  unfold SeqAt.shaped
  have := sh_ints ds
  simp [PyData.canLay0, PyData.depth, this.1]
  omega
theorem sh_lstI (ds : List Int) : SeqAt.shaped (.list (ds.map PyData.int)) = true := by
  unfold SeqAt.shaped
  have := sh_ints ds
  simp [PyData.canLay0, PyData.depth, this.1]
  omega
theorem eqvI : ∀ as bs : List Int, PyData.eqvAll (as.map PyData.int) (bs.map PyData.int) = decide (as = bs)
  | [], [] => rfl
  | [], b :: bs => by simp [PyData.eqvAll]
  | a :: as, [] => by simp [PyData.eqvAll]
  | a :: as, b :: bs => by
    have := eqvI as bs
    simp [PyData.eqvAll, this]
theorem eqTI (as bs : List Int) : gEq (.tuple (as.map PyData.int)) (.tuple (bs.map PyData.int)) = some (.bool (decide (as = bs))) := by
  rw [gEq_sh (sh_tupI as) (sh_tupI bs)]
  congr 2
  rw [← eqvI]; simp [PyData.eqv]
theorem neTI (as bs : List Int) : gNe (.tuple (as.map PyData.int)) (.tuple (bs.map PyData.int)) = some (.bool (!decide (as = bs))) := by
  rw [gNe_sh2 (sh_tupI as) (sh_tupI bs)]
  congr 3
  rw [← eqvI]; simp [PyData.eqv]
theorem eqLI (as bs : List Int) : gEq (.list (as.map PyData.int)) (.list (bs.map PyData.int)) = some (.bool (decide (as = bs))) := by
  rw [gEq_sh (sh_lstI as) (sh_lstI bs)]
  congr 2
  rw [← eqvI]; simp [PyData.eqv]
theorem rng1 {n : Int} (h : -1000000 ≤ n) (h2 : n ≤ 1000000) : rngOf [.int n] = some (rangeD 0 n) := by
  show (if -1000000 ≤ n ∧ n ≤ 1000000 then some (rangeD 0 n) else none) = _
  rw [if_pos ⟨h, h2⟩]
theorem rng2 {m n : Int} (h : (-1000000 ≤ m ∧ m ≤ 1000000) ∧ -1000000 ≤ n ∧ n ≤ 1000000) : rngOf [.int m, .int n] = some (rangeD m n) := by
  show (if (-1000000 ≤ m ∧ m ≤ 1000000) ∧ -1000000 ≤ n ∧ n ≤ 1000000 then some (rangeD m n) else none) = _
  rw [if_pos h]
theorem range_len (lo hi : Int) : (rangeD lo hi).length = (hi - lo).toNat := by unfold rangeD; rw [List.length_map, List.length_range]
theorem divI {i j : Int} (h : j ≠ 0) (h2 : j.natAbs < 1073741824) : gDiv (.int i) (.int j) = some (.int (i.fdiv j)) := by
  unfold gDiv g2I divOk
  simp [h, h2]
theorem at_mem {ds : List PyData} {d : Int} (h0 : 0 ≤ d) (h1 : d < ds.length) : ∃ o, atI ds d = some o ∧ o ∈ ds := by
  have hl : d.toNat < ds.length := by omega
  refine ⟨ds[d.toNat], ?_, List.getElem_mem hl⟩
  have e := at_nat hl
  rw [show ((d.toNat : Nat) : Int) = d by omega] at e
  exact e
theorem gEq_self {d : PyData} (h : SeqAt.shaped d = true) : gEq d d = some (.bool true) := by
  rw [gEq_sh h h, SeqAt.eqv_refl d (SeqAt.canLay_of_shaped h)]
theorem gNe_self {d : PyData} (h : SeqAt.shaped d = true) : gNe d d = some (.bool false) := by
  rw [gNe_sh2 h h, SeqAt.eqv_refl d (SeqAt.canLay_of_shaped h)]; rfl
theorem gNe_bool (x y : Bool) : gNe (.bool x) (.bool y) = some (.bool (x != y)) := by
  cases x <;> cases y <;> kernel_rfl
theorem gEq_bool (x y : Bool) : gEq (.bool x) (.bool y) = some (.bool (x == y)) := by
  cases x <;> cases y <;> kernel_rfl
/-! loops -/
theorem for_ret {g : PyData → En → Option En} {b : SF} {I : En → Prop} {r : PyData} : ∀ {ds : List PyData} {k : Nat} {ρ : En} {d : PyData}, ds[k]? = some d → (∀ (i : Nat) d ρ, i < k → ds[i]? = some d → I ρ → ∃ ρ1 ρ2, g d ρ = some ρ1 ∧ b ρ1 = .nx ρ2 ∧ I ρ2) →
    (∀ ρ, I ρ → ∃ ρ1 ρ2, g d ρ = some ρ1 ∧ b ρ1 = .rt r ρ2) → I ρ → ∃ ρ', forF g b ds ρ = .rt r ρ'
  | [], _, _, _, hk, _, _, _ => by cases hk
  | d0 :: ds, 0, ρ, d, hk, _, h2, hI => by
    have e : d0 = d := by simpa using hk
    subst e
    obtain ⟨ρ1, ρ2, e1, e2⟩ := h2 ρ hI
    refine ⟨ρ2, ?_⟩
    unfold forF
    rw [e1]
    simp [e2]
  | d0 :: ds, k + 1, ρ, d, hk, h1, h2, hI => by
    obtain ⟨ρ1, ρ2, e1, e2, hI2⟩ := h1 0 d0 ρ (Nat.succ_pos k) rfl hI
    obtain ⟨ρ', e3⟩ := for_ret (ds := ds) (k := k) (ρ := ρ2) (d := d) (by simpa using hk) (fun i d ρ hi hd hI => h1 (i + 1) d ρ (Nat.succ_lt_succ hi) (by simpa using hd) hI) h2 hI2
    refine ⟨ρ', ?_⟩
    unfold forF
    rw [e1]
    simp [e2, e3]
/-- a comprehension whose parts may change what is around -/
theorem comp_ex {vs : List Nat} {g : PyData → En → Option En} {t : TF} {f : EF} {Q : Nat → PyData → Prop} {J : Nat → En → Prop} : ∀ {ds : List PyData} {k : Nat} {ρ : En}, (∀ (i : Nat) d ρ, ds[i]? = some d → J (k + i) ρ → ∃ ρ1 ρ2 v ρ3, g d ρ = some ρ1 ∧ t ρ1 = .ok (true, ρ2) ∧ f ρ2 = .ok (v, ρ3) ∧ Q (k + i) v ∧ J (k + i + 1) (wipeE ρ3 vs)) → J k ρ →
    ∃ rs ρ', compF vs g t f ds ρ = .ok (rs, ρ') ∧ rs.length = ds.length ∧ (∀ (i : Nat) v, rs[i]? = some v → Q (k + i) v) ∧ J (k + ds.length) ρ'
  | [], k, ρ, _, hI => ⟨[], ρ, rfl, rfl, fun i v h => by simp at h, hI⟩
  | d :: ds, k, ρ, h, hI => by
    obtain ⟨ρ1, ρ2, v, ρ3, e1, e2, e3, q, hI2⟩ := h 0 d ρ rfl hI
    obtain ⟨rs, ρ', e4, hl, hq, hI3⟩ := comp_ex (g := g) (t := t) (f := f) (Q := Q) (J := J) (ds := ds) (k := k + 1) (ρ := wipeE ρ3 vs) (fun i d' ρ' hd hi => by
      have z := h (i + 1) d' ρ' (by simpa using hd) (by rw [show k + (i + 1) = k + 1 + i by omega]; exact hi)
      rw [show k + (i + 1) + 1 = k + 1 + i + 1 by omega, show k + (i + 1) = k + 1 + i by omega] at z
      exact z) hI2
    refine ⟨v :: rs, ρ', ?_, by simp [hl], fun i w hw => ?_, by rw [List.length_cons, show k + (ds.length + 1) = k + 1 + ds.length by omega]; exact hI3⟩
    · unfold compF
      rw [e1]
      simp [e2, e3, e4]
    · cases i with
      | zero => have : v = w := by simpa using hw
                subst this; exact q
      | succ i => have := hq i w (by simpa using hw)
                  rw [show k + (i + 1) = k + 1 + i by omega]; exact this
/-- a comprehension with two clauses that changes nothing around -/
theorem comp2_run {vs vs1 : List Nat} {g g1 : PyData → En → Option En} {t t1 : TF} {fi1 : AF} {f : EF} (F : PyData → List PyData) : ∀ {ds : List PyData}, (∀ d ∈ ds, ∃ ρ1 ρ2 ds1 ρ3 ρ4, g d ρ = some ρ1 ∧ t ρ1 = .ok (true, ρ2) ∧ fi1 ρ2 = .ok (ds1, ρ3) ∧ compF vs1 g1 t1 f ds1 (wipeE ρ3 vs1) = .ok (F d, ρ4) ∧ wipeE ρ4 vs = ρ) →
    compF2 vs g t fi1 vs1 g1 t1 f ds ρ = .ok (ds.flatMap F, ρ)
  | [], _ => rfl
  | d :: ds, h => by
    obtain ⟨ρ1, ρ2, ds1, ρ3, ρ4, e1, e2, e3, e4, e5⟩ := h d List.mem_cons_self
    have ih := comp2_run (g := g) (t := t) (f := f) (fi1 := fi1) (t1 := t1) (g1 := g1) (vs1 := vs1) F (ds := ds) fun d hd => h d (List.mem_cons_of_mem _ hd)
    unfold compF2
    rw [e1]
    simp [e2, e3, e4, e5, ih]
/-- one clause without a test that changes nothing around -/
theorem comp_map {vs : List Nat} {g : PyData → En → Option En} {f : EF} (F : PyData → PyData) : ∀ {ds : List PyData}, (∀ d ∈ ds, ∃ ρ1 ρ3, g d ρ = some ρ1 ∧ f ρ1 = .ok (F d, ρ3) ∧ wipeE ρ3 vs = ρ) → compF vs g tYes' f ds ρ = .ok (ds.map F, ρ)
  | [], _ => rfl
  | d :: ds, h => by
    obtain ⟨ρ1, ρ3, e1, e3, e5⟩ := h d List.mem_cons_self
    have ih := comp_map (g := g) (f := f) (vs := vs) F (ds := ds) fun d hd => h d (List.mem_cons_of_mem _ hd)
    unfold compF
    rw [e1]
    simp [e3, e5, ih]
theorem map_of {α : Type} {enc : α → PyData} {Q : α → Prop} : ∀ {rs : List PyData}, (∀ v ∈ rs, ∃ a, v = enc a ∧ Q a) → ∃ as : List α, rs = as.map enc ∧ as.length = rs.length ∧ ∀ a ∈ as, Q a
  | [], _ => ⟨[], rfl, rfl, fun _ h => by cases h⟩
  | r :: rs, h => by
    obtain ⟨a, e, q⟩ := h r List.mem_cons_self
    obtain ⟨as, e2, l, q2⟩ := map_of (enc := enc) (Q := Q) (rs := rs) fun v hv => h v (List.mem_cons_of_mem _ hv)
    exact ⟨a :: as, by rw [List.map_cons, ← e, ← e2], by simp [l], fun b hb => by
      rcases List.mem_cons.mp hb with z | z
      · rw [z]; exact q
      · exact q2 b z⟩
theorem all_of_ix {rs : List PyData} {Q : PyData → Prop} (h : ∀ (i : Nat) v, rs[i]? = some v → Q v) : ∀ v ∈ rs, Q v := fun v hv => by
  obtain ⟨i, hi⟩ := List.mem_iff_getElem?.mp hv
  exact h i v hi
theorem valR_bind (r : R PyData) (ρ : En) : valR (r.bind fun d => .ok (d, ρ)) = r := by cases r <;> rfl
/-- a loop that ends at the first item that hits -/
theorem for_first {g : PyData → En → Option En} {b : SF} {I : En → Prop} {Hit : PyData → Prop} {Fin : PyData → Out → Prop} (stop : ∀ d o, Fin d o → (∀ ρ, o ≠ .nx ρ) ∧ (∀ ρ, o ≠ .ct ρ) ∧ ∀ ρ, o ≠ .bk ρ) : ∀ {ds : List PyData} {ρ : En},
    (∀ d ∈ ds, ∀ ρ, I ρ → ∃ ρ1, g d ρ = some ρ1 ∧ ((¬ Hit d ∧ ∃ ρ2, (b ρ1 = .nx ρ2 ∨ b ρ1 = .ct ρ2) ∧ I ρ2) ∨ (Hit d ∧ Fin d (b ρ1)))) → I ρ →
    ((∀ d ∈ ds, ¬ Hit d) ∧ ∃ ρ', forF g b ds ρ = .nx ρ' ∧ I ρ') ∨ ∃ k d, ds[k]? = some d ∧ (∀ (i : Nat) d', i < k → ds[i]? = some d' → ¬ Hit d') ∧ Hit d ∧ Fin d (forF g b ds ρ)
  | [], ρ, _, hI => .inl ⟨fun _ h => (by cases h), ρ, rfl, hI⟩
  | d :: ds, ρ, h, hI => by
    obtain ⟨ρ1, e1, h1⟩ := h d List.mem_cons_self ρ hI
    rcases h1 with ⟨nh, ρ2, e2, hI2⟩ | ⟨hh, hf⟩
    · have ef : forF g b (d :: ds) ρ = forF g b ds ρ2 := by
        rw [forF, e1]
        rcases e2 with e2 | e2 <;> simp [e2]
      rcases for_first (g := g) (b := b) (I := I) (Hit := Hit) (Fin := Fin) stop (ds := ds) (ρ := ρ2) (fun d' hd' => h d' (List.mem_cons_of_mem _ hd')) hI2 with ⟨a, ρ', e, hI'⟩ | ⟨k, d', a, a2, a3, a4⟩
      · refine .inl ⟨fun d' hd' => ?_, ρ', by rw [ef, e], hI'⟩
        rcases List.mem_cons.mp hd' with z | z
        · rw [z]; exact nh
        · exact a d' z
      · refine .inr ⟨k + 1, d', by simpa using a, fun i d2 hi hd2 => ?_, a3, by rw [ef]; exact a4⟩
        cases i with
        | zero => have : d = d2 := by simpa using hd2
                  rw [← this]; exact nh
        | succ i => exact a2 i d2 (by omega) (by simpa using hd2)
    · obtain ⟨s1, s2, s3⟩ := stop d _ hf
      refine .inr ⟨0, d, rfl, fun i _ hi => absurd hi (Nat.not_lt_zero _), hh, ?_⟩
      have : forF g b (d :: ds) ρ = b ρ1 := by
        rw [forF, e1]
        cases e : b ρ1 with
        | nx ρ' => exact absurd e (s1 ρ')
        | ct ρ' => exact absurd e (s2 ρ')
        | bk ρ' => exact absurd e (s3 ρ')
        | rt d' ρ' => simp [e]
        | rn d' ρ' => simp [e]
        | er c d' => simp [e]
        | no => simp [e]
      rw [this]; exact hf
/-! the script's cells -/
theorem ints_sum : ∀ ns : List Int, intsOf (ns.map PyData.int) = some ns
  | [] => rfl
  | n :: ns => by show (intsOf (ns.map PyData.int)).map (n :: ·) = _; rw [ints_sum ns]; rfl
theorem cutN (m : Nat) (xs : List Int) : slD (.list (xs.map PyData.int)) none (some (m : Int)) = some (.list ((xs.take m).map PyData.int)) := by
  show some (PyData.list (List.take (HT.sIx (xs.map PyData.int).length (xs.map PyData.int).length (some ((m : Nat) : Int)) - HT.sIx (xs.map PyData.int).length 0 none) (List.drop (HT.sIx (xs.map PyData.int).length 0 none) (xs.map PyData.int)))) = _
  rw [HT.sIx_none, HT.sIx_nat, List.drop_zero, Nat.sub_zero, List.map_take]
  congr 2
  rw [List.take_eq_take_iff]
  omega
theorem enumD_at {ds : List PyData} {n i : Nat} {d : PyData} (h : (enumD n ds)[i]? = some d) : ∃ x, ds[i]? = some x ∧ d = .tuple [.int ((n + i : Nat) : Int), x] := by
  obtain ⟨d0, h0, e⟩ := enumD_get h
  exact ⟨d0, h0, e⟩
/-- a law's body for each of the first cells and the sum of all -/
def cellsF (m : Int) : AF := fEnum2 (fCons (fOp gAdd (fSl (fNm 0) oNo (oEx (fC (.int m)))) (fLst (fCons (fBlt gSum (fCons (fNm 0) fNil)) fNil))) fNil)
theorem law_cells {I : En → Prop} (m : Nat) (hm : m ≤ 63) (ns : List Int) {b : SF} {r : List Sl} {g : PyData → En → Option En}
    (h : ∀ (k : Nat) (x : Int) (ρ : En), k ≤ m → I ρ → ∃ ρ1 ρ2, g (.tuple [.int (k : Int), .int x]) ρ = some ρ1 ∧ (b ρ1 = .nx ρ2 ∨ b ρ1 = .ct ρ2) ∧ I ρ2) (h0 : I (.sh (.list (ns.map PyData.int)) :: r)) :
    ∃ ρ', I ρ' ∧ sFor (cellsF (m : Int)) g b (.sh (.list (ns.map PyData.int)) :: r) = .nx ρ' := by
  have h3 := cutN m ns
  have hs : gSum [.list (ns.map PyData.int)] = some (.int ns.sum) := by
    show (intsOf (ns.map PyData.int)).map (fun ns => PyData.int ns.sum) = _
    rw [ints_sum]; rfl
  have ha : gAdd (.list ((ns.take m).map PyData.int)) (.list [.int ns.sum]) = some (.list (((ns.take m) ++ [ns.sum]).map PyData.int)) := by
    show (if ((ns.take m).map PyData.int).length + [PyData.int ns.sum].length ≤ 1000000 then some (PyData.list ((ns.take m).map PyData.int ++ [.int ns.sum])) else none) = _
    rw [if_pos (by rw [List.length_map, List.length_take]; simp; omega), List.map_append]
    rfl
  have hlst : ∀ ds, seqOf [.list ds] = some ds := fun _ => rfl
  obtain ⟨ρ', e, hI⟩ := for_run (k := 0) (I := fun _ ρ => I ρ) (g := g) (b := b) (ds := enumD 0 (((ns.take m) ++ [ns.sum]).map PyData.int)) (ρ := .sh (.list (ns.map PyData.int)) :: r) (fun i d ρ hd hJ => by
    obtain ⟨d0, h0, rfl⟩ := enumD_at hd
    obtain ⟨hi, _⟩ := List.getElem?_eq_some_iff.mp h0
    rw [List.length_map] at hi
    rw [List.getElem?_map] at h0
    obtain ⟨x, _, rfl⟩ := Option.map_eq_some_iff.mp h0
    have : (ns.take m ++ [ns.sum]).length ≤ m + 1 := by rw [List.length_append, List.length_take]; simp; omega
    obtain ⟨ρ1, ρ2, e1, e2, e3⟩ := h (0 + i) x ρ (by omega) hJ
    exact ⟨ρ1, ρ2, e1, e2, e3⟩) h0
  refine ⟨ρ', hI, ?_⟩
  rw [ap_sFor]
  unfold cellsF
  have e1 : (fEnum2 (fCons (fOp gAdd (fSl (fNm 0) oNo (oEx (fC (.int (m : Int))))) (fLst (fCons (fBlt gSum (fCons (fNm 0) fNil)) fNil))) fNil)) (.sh (.list (ns.map PyData.int)) :: r) = .ok (enumD 0 (((ns.take m) ++ [ns.sum]).map PyData.int), .sh (.list (ns.map PyData.int)) :: r) := by
    generalize ((ns.take m) ++ [ns.sum]).map PyData.int = L2 at *
    generalize (ns.take m).map PyData.int = L3 at *
    generalize ns.map PyData.int = L at *
    simp [h3, hs, ha, hlst]
  rw [e1]
  exact e
end
end Y


/-! YLat: lattices of the plane, in plain Lean: spans, the one form, areas. -/
namespace Lat
abbrev Pt := Int × Int
def det (u v : Pt) : Int := u.1 * v.2 - u.2 * v.1
inductive Sp (vs : List Pt) : Pt → Prop
  | zero : Sp vs (0, 0)
  | mem {v : Pt} (h : v ∈ vs) : Sp vs v
  | add {u v : Pt} (a : Sp vs u) (b : Sp vs v) : Sp vs (u.1 + v.1, u.2 + v.2)
  | neg {u : Pt} (a : Sp vs u) : Sp vs (-u.1, -u.2)
theorem Sp.nat {vs : List Pt} {u : Pt} (h : Sp vs u) : ∀ n : Nat, Sp vs ((n : Int) * u.1, (n : Int) * u.2)
  | 0 => by simpa using Sp.zero
  | n + 1 => by
    have := (h.nat n).add h
    have e : (((n + 1 : Nat) : Int) * u.1, ((n + 1 : Nat) : Int) * u.2) = ((n : Int) * u.1 + u.1, (n : Int) * u.2 + u.2) := by
      refine Prod.ext ?_ ?_ <;> (simp only; push_cast; grind)
    rw [e]; exact this
theorem Sp.smul {vs : List Pt} {u : Pt} (h : Sp vs u) (n : Int) : Sp vs (n * u.1, n * u.2) := by
  rcases Int.eq_nat_or_neg n with ⟨k, rfl | rfl⟩
  · exact h.nat k
  · have := (h.nat k).neg
    have e : (-(k : Int) * u.1, -(k : Int) * u.2) = (-((k : Int) * u.1), -((k : Int) * u.2)) := by
      refine Prod.ext ?_ ?_ <;> (simp only; grind)
    rw [e]; exact this
theorem Sp.comb {vs : List Pt} {u v : Pt} (h : Sp vs u) (k : Sp vs v) (a b : Int) : Sp vs (a * u.1 + b * v.1, a * u.2 + b * v.2) := (h.smul a).add (k.smul b)
theorem Sp.mono {vs ws : List Pt} (k : ∀ v ∈ vs, Sp ws v) {u : Pt} (h : Sp vs u) : Sp ws u := by
  induction h with
  | zero => exact .zero
  | mem h => exact k _ h
  | add _ _ a b => exact a.add b
  | neg _ a => exact a.neg
theorem bezN (a b : Nat) : ∃ u v : Int, ((Nat.gcd a b : Nat) : Int) = u * a + v * b := by
  induction a, b using Nat.gcd.induction with
  | H0 n => exact ⟨0, 1, by simp⟩
  | H1 m n h ih =>
    obtain ⟨u, v, e⟩ := ih
    rw [Nat.gcd_rec, e]
    have := Nat.div_add_mod n m
    refine ⟨v - u * ((n / m : Nat) : Int), u, ?_⟩
    have e2 : ((n % m : Nat) : Int) = (n : Int) - (m : Int) * ((n / m : Nat) : Int) := by
      have : ((m * (n / m) + n % m : Nat) : Int) = (n : Int) := by rw [this]
      push_cast at this ⊢; omega
    rw [e2]; grind
theorem bez (a b : Int) : ∃ u v : Int, ((Nat.gcd a.natAbs b.natAbs : Nat) : Int) = u * a + v * b := by
  obtain ⟨u, v, e⟩ := bezN a.natAbs b.natAbs
  have ha : (a.natAbs : Int) = a ∨ (a.natAbs : Int) = -a := by omega
  have hb : (b.natAbs : Int) = b ∨ (b.natAbs : Int) = -b := by omega
  rw [e]
  rcases ha with h1 | h1 <;> rcases hb with h2 | h2 <;> rw [h1, h2]
  · exact ⟨u, v, rfl⟩
  · exact ⟨u, -v, by grind⟩
  · exact ⟨-u, v, by grind⟩
  · exact ⟨-u, -v, by grind⟩
theorem rem_lt {a b : Int} (h : b ≠ 0) : (a - a.fdiv b * b).natAbs < b.natAbs := by
  have e : a - a.fdiv b * b = a.fmod b := by
    have := Int.mul_fdiv_add_fmod a b
    grind
  rw [e]
  rcases Int.lt_or_gt_of_ne h with h | h
  · have : a.fmod b = -((-a).fmod (-b)) := by
      have h1 := Int.fmod_def (-a) (-b)
      have h2 := Int.fmod_def a b
      have h3 : (-a).fdiv (-b) = a.fdiv b := Int.neg_fdiv_neg a b
      rw [h1, h2, h3]; grind
    have h1 := Int.fmod_nonneg_of_pos (-a) (show 0 < -b by omega)
    have h2 := Int.fmod_lt_of_pos (-a) (show 0 < -b by omega)
    omega
  · have h1 := Int.fmod_nonneg_of_pos a h
    have h2 := Int.fmod_lt_of_pos a h
    omega
/-- a vector of the lattice (p, q, r) -/
def InL (p q r : Int) (v : Pt) : Prop := ∃ a b : Int, v = (a * p + b * q, b * r)
theorem InL.zero {p q r : Int} : InL p q r (0, 0) := ⟨0, 0, by simp⟩
theorem InL.add {p q r : Int} {u v : Pt} (h : InL p q r u) (k : InL p q r v) : InL p q r (u.1 + v.1, u.2 + v.2) := by
  obtain ⟨a, b, rfl⟩ := h
  obtain ⟨c, d, rfl⟩ := k
  exact ⟨a + c, b + d, by refine Prod.ext ?_ ?_ <;> (simp only; grind)⟩
theorem InL.neg {p q r : Int} {u : Pt} (h : InL p q r u) : InL p q r (-u.1, -u.2) := by
  obtain ⟨a, b, rfl⟩ := h
  exact ⟨-a, -b, by refine Prod.ext ?_ ?_ <;> (simp only; grind)⟩
theorem InL.of_sp {p q r : Int} {vs : List Pt} (k : ∀ v ∈ vs, InL p q r v) {u : Pt} (h : Sp vs u) : InL p q r u := by
  induction h with
  | zero => exact .zero
  | mem h => exact k _ h
  | add _ _ a b => exact a.add b
  | neg _ a => exact a.neg
theorem inL_e1 (p q r : Int) : InL p q r (p, 0) := ⟨1, 0, by simp⟩
theorem inL_e2 (p q r : Int) : InL p q r (q, r) := ⟨0, 1, by simp⟩
/-- the one form of what vectors span -/
structure IsRed (vs : List Pt) (p q r : Int) : Prop where
  p0 : 0 ≤ p
  r0 : 0 ≤ r
  s1 : Sp vs (p, 0)
  s2 : Sp vs (q, r)
  gen : ∀ v ∈ vs, InL p q r v
  q0 : 0 < p → 0 ≤ q ∧ q < p
theorem IsRed.iff {vs : List Pt} {p q r : Int} (h : IsRed vs p q r) (v : Pt) : Sp vs v ↔ InL p q r v := by
  constructor
  · exact InL.of_sp h.gen
  · rintro ⟨a, b, rfl⟩
    have := h.s1.comb h.s2 a b
    simpa using this
theorem red_uniq {p q r p' q' r' : Int} (hp : 0 < p) (hr : 0 < r) (hp' : 0 < p') (hr' : 0 < r') (hq : 0 ≤ q ∧ q < p) (hq' : 0 ≤ q' ∧ q' < p') (h : ∀ v, InL p q r v ↔ InL p' q' r' v) : p = p' ∧ q = q' ∧ r = r' := by
  have half : ∀ {p q r p' q' r' : Int}, 0 < p → 0 < r → 0 < p' → 0 < r' → (∀ v, InL p q r v → InL p' q' r' v) → p' ≤ p ∧ ∃ b, 0 < b ∧ r = b * r' ∧ ∃ a, q = a * p' + b * q' := by
    intro p q r p' q' r' hp hr hp' hr' h
    obtain ⟨a, b, e⟩ := h _ (inL_e1 p q r)
    have e1 := congrArg Prod.fst e
    have e2 := congrArg Prod.snd e
    dsimp only at e1 e2
    have hb : b = 0 := by
      rcases Int.mul_eq_zero.mp e2.symm with z | z
      · exact z
      · omega
    subst hb
    obtain ⟨a2, b2, f⟩ := h _ (inL_e2 p q r)
    have f1 := congrArg Prod.fst f
    have f2 := congrArg Prod.snd f
    dsimp only at f1 f2
    refine ⟨?_, b2, ?_, f2, a2, f1⟩
    · have ha : 0 < a := by
        by_cases z : 0 < a
        · exact z
        · have : a * p' ≤ 0 := Int.mul_nonpos_of_nonpos_of_nonneg (by omega) (by omega)
          omega
      have : 1 * p' ≤ a * p' := Int.mul_le_mul_of_nonneg_right (by omega) (by omega)
      omega
    · by_cases z : 0 < b2
      · exact z
      · have : b2 * r' ≤ 0 := Int.mul_nonpos_of_nonpos_of_nonneg (by omega) (by omega)
        omega
  obtain ⟨l1, b1, c1, d1, a1, f1⟩ := half hp hr hp' hr' fun v k => (h v).mp k
  obtain ⟨l2, b2, c2, d2, a2, f2⟩ := half hp' hr' hp hr fun v k => (h v).mpr k
  have ep : p = p' := by omega
  subst ep
  have h1 : 1 * r' ≤ b1 * r' := Int.mul_le_mul_of_nonneg_right (by omega) (by omega)
  have h2 : 1 * r ≤ b2 * r := Int.mul_le_mul_of_nonneg_right (by omega) (by omega)
  have er : r = r' := by omega
  subst er
  have hb1 : b1 = 1 := by
    have : (b1 - 1) * r = 0 := by grind
    rcases Int.mul_eq_zero.mp this with z | z <;> omega
  subst hb1
  have eq : q - q' = a1 * p := by grind
  have : a1 = 0 := by
    by_cases z : a1 = 0
    · exact z
    · rcases Int.lt_or_gt_of_ne z with z | z
      · have : a1 * p ≤ -1 * p := Int.mul_le_mul_of_nonneg_right (by omega) (by omega)
        omega
      · have : 1 * p ≤ a1 * p := Int.mul_le_mul_of_nonneg_right (by omega) (by omega)
        omega
  subst this
  exact ⟨rfl, by omega, rfl⟩
/-! ### areas -/
def minG : List Pt → Nat → Nat
  | [], acc => acc
  | v :: vs, acc => minG vs (vs.foldl (fun acc w => Nat.gcd acc (det v w).natAbs) acc)
theorem fold_dvd (n : Nat) (v : Pt) : ∀ (ws : List Pt) (acc : Nat), n ∣ ws.foldl (fun acc w => Nat.gcd acc (det v w).natAbs) acc ↔ n ∣ acc ∧ ∀ w ∈ ws, n ∣ (det v w).natAbs
  | [], acc => by simp
  | w :: ws, acc => by
    rw [List.foldl_cons, fold_dvd n v ws, Nat.dvd_gcd_iff]
    simp only [List.mem_cons, forall_eq_or_imp]
    exact and_assoc
theorem minG_dvd (n : Nat) : ∀ (vs : List Pt) (acc : Nat), n ∣ minG vs acc ↔ n ∣ acc ∧ vs.Pairwise fun v w => n ∣ (det v w).natAbs
  | [], acc => by simp [minG]
  | v :: vs, acc => by
    unfold minG
    rw [minG_dvd n vs, fold_dvd, List.pairwise_cons, and_assoc]
theorem det_sp {n : Int} {vs : List Pt} {w : Pt} (k : ∀ v ∈ vs, n ∣ det v w) {u : Pt} (h : Sp vs u) : n ∣ det u w := by
  induction h with
  | zero => exact ⟨0, by simp [det]⟩
  | mem h => exact k _ h
  | @add u v _ _ a b =>
    have : det (u.1 + v.1, u.2 + v.2) w = det u w + det v w := by unfold det; grind
    rw [this]; exact Int.dvd_add a b
  | @neg u _ a =>
    have : det (-u.1, -u.2) w = -det u w := by unfold det; grind
    rw [this]; exact Int.dvd_neg.mpr a
theorem det_swap (u v : Pt) : det u v = -det v u := by unfold det; grind
theorem pw_all {n : Int} : ∀ {vs : List Pt}, (vs.Pairwise fun v w => n ∣ det v w) → ∀ v ∈ vs, ∀ w ∈ vs, n ∣ det v w
  | [], _, v, hv, _, _ => by cases hv
  | u :: vs, h, v, hv, w, hw => by
    obtain ⟨h1, h2⟩ := List.pairwise_cons.mp h
    rcases List.mem_cons.mp hv with e1 | hv2
    · rcases List.mem_cons.mp hw with e2 | hw2
      · rw [e1, e2]; exact ⟨0, by unfold det; grind⟩
      · rw [e1]; exact h1 w hw2
    · rcases List.mem_cons.mp hw with e2 | hw2
      · rw [e2, det_swap]; exact Int.dvd_neg.mpr (h1 v hv2)
      · exact pw_all h2 v hv2 w hw2
theorem area_eq {vs : List Pt} {p q r : Int} (h : IsRed vs p q r) : (minG vs 0 : Int) = p * r := by
  have h0 : 0 ≤ p * r := Int.mul_nonneg h.p0 h.r0
  have e : minG vs 0 = (p * r).natAbs := by
    refine Nat.dvd_antisymm ?_ ?_
    · have k := ((minG_dvd (minG vs 0) vs 0).mp (Nat.dvd_refl _)).2
      have k2 : vs.Pairwise fun v w => (minG vs 0 : Int) ∣ det v w := k.imp fun {a b} x => Int.ofNat_dvd_left.mpr x
      have k3 := pw_all k2
      have k4 : ∀ w ∈ vs, ∀ u, Sp vs u → (minG vs 0 : Int) ∣ det u w := fun w hw u hu => det_sp (fun v hv => k3 v hv w hw) hu
      have k5 : (minG vs 0 : Int) ∣ det (q, r) (p, 0) := det_sp (fun v hv => by rw [det_swap]; exact Int.dvd_neg.mpr (k4 v hv _ h.s1)) h.s2
      have : det (q, r) (p, 0) = -(p * r) := by unfold det; grind
      rw [this] at k5
      exact Int.ofNat_dvd_left.mp (Int.dvd_neg.mp k5)
    · refine (minG_dvd _ vs 0).mpr ⟨Nat.dvd_zero _, ?_⟩
      have key : ∀ v ∈ vs, ∀ w ∈ vs, (p * r).natAbs ∣ (det v w).natAbs := fun v hv w hw => by
        obtain ⟨a, b, rfl⟩ := h.gen v hv
        obtain ⟨c, d, rfl⟩ := h.gen w hw
        refine Int.natAbs_dvd_natAbs.mpr ⟨a * d - b * c, ?_⟩
        unfold det; grind
      exact List.pairwise_of_forall_mem_list key
  rw [e]; omega
/-! ### the box -/
def inbox (p q r : Int) (v : Pt) : Pt := ((v.1 - v.2.fdiv r * q).fmod p, v.2 - v.2.fdiv r * r)
theorem fdiv_uniq {y r b : Int} (hr : 0 < r) (h0 : 0 ≤ y - b * r) (h1 : y - b * r < r) : y.fdiv r = b := by
  rw [Int.fdiv_eq_ediv_of_nonneg _ (by omega)]
  have h2 : b * r ≤ y := by omega
  have h3 : y < (b + 1) * r := by grind
  have a1 := Int.le_ediv_of_mul_le hr h2
  have a2 := Int.ediv_lt_of_lt_mul hr h3
  omega
theorem fdiv_rem {y r : Int} (hr : 0 < r) : 0 ≤ y - y.fdiv r * r ∧ y - y.fdiv r * r < r := by
  rw [Int.fdiv_eq_ediv_of_nonneg _ (by omega)]
  have h1 := Int.ediv_mul_le y (show r ≠ 0 by omega)
  have h2 := Int.lt_ediv_add_one_mul_self y hr
  constructor
  · omega
  · grind
theorem fmod_nn {x p : Int} (hp : 0 < p) : 0 ≤ x.fmod p ∧ x.fmod p < p := ⟨Int.fmod_nonneg_of_pos _ hp, Int.fmod_lt_of_pos _ hp⟩
theorem inbox_rng {p q r : Int} (hp : 0 < p) (hr : 0 < r) (v : Pt) : (0 ≤ (inbox p q r v).1 ∧ (inbox p q r v).1 < p) ∧ 0 ≤ (inbox p q r v).2 ∧ (inbox p q r v).2 < r := ⟨fmod_nn hp, fdiv_rem hr⟩
theorem inbox_diff {p q r : Int} (v : Pt) : InL p q r (v.1 - (inbox p q r v).1, v.2 - (inbox p q r v).2) := by
  refine ⟨(v.1 - v.2.fdiv r * q).fdiv p, v.2.fdiv r, ?_⟩
  unfold inbox
  have h := Int.mul_fdiv_add_fmod (v.1 - v.2.fdiv r * q) p
  refine Prod.ext ?_ ?_ <;> (simp only; grind)
/-- the cell of the box is the only one there -/
theorem inbox_uniq {p q r : Int} (hp : 0 < p) (hr : 0 < r) {v w : Pt} (h : InL p q r (v.1 - w.1, v.2 - w.2)) (h1 : 0 ≤ w.1 ∧ w.1 < p) (h2 : 0 ≤ w.2 ∧ w.2 < r) : inbox p q r v = w := by
  obtain ⟨a, b, e⟩ := h
  have e1 := congrArg Prod.fst e
  have e2 := congrArg Prod.snd e
  dsimp only at e1 e2
  have hb : v.2.fdiv r = b := fdiv_uniq hr (by omega) (by omega)
  have h3 : 0 ≤ (v.1 - b * q) - a * p := by omega
  have h4 : (v.1 - b * q) - a * p < p := by omega
  have ha : (v.1 - b * q).fdiv p = a := fdiv_uniq hp h3 h4
  have hm := Int.mul_fdiv_add_fmod (v.1 - b * q) p
  rw [ha] at hm
  unfold inbox
  rw [hb]
  refine Prod.ext ?_ ?_ <;> (simp only; grind)
theorem inbox_congr {p q r : Int} (hp : 0 < p) (hr : 0 < r) {v w : Pt} (h : InL p q r (v.1 - w.1, v.2 - w.2)) : inbox p q r v = inbox p q r w := by
  obtain ⟨a, b⟩ := inbox_rng (q := q) hp hr w
  refine inbox_uniq hp hr ?_ a b
  have := h.add (inbox_diff (p := p) (q := q) (r := r) w)
  have e : (v.1 - (inbox p q r w).1, v.2 - (inbox p q r w).2) = ((v.1 - w.1, v.2 - w.2).1 + (w.1 - (inbox p q r w).1, w.2 - (inbox p q r w).2).1, (v.1 - w.1, v.2 - w.2).2 + (w.1 - (inbox p q r w).1, w.2 - (inbox p q r w).2).2) := by
    refine Prod.ext ?_ ?_ <;> (simp only; omega)
  rw [e]; exact this
theorem inbox_eq_iff {p q r : Int} (hp : 0 < p) (hr : 0 < r) (v w : Pt) : inbox p q r v = inbox p q r w ↔ InL p q r (v.1 - w.1, v.2 - w.2) := by
  constructor
  · intro e
    have h1 := inbox_diff (p := p) (q := q) (r := r) v
    have h2 := (inbox_diff (p := p) (q := q) (r := r) w).neg
    rw [e] at h1
    have := h1.add h2
    have e2 : (v.1 - w.1, v.2 - w.2) = ((v.1 - (inbox p q r w).1, v.2 - (inbox p q r w).2).1 + (-(w.1 - (inbox p q r w).1, w.2 - (inbox p q r w).2).1, -(w.1 - (inbox p q r w).1, w.2 - (inbox p q r w).2).2).1, (v.1 - (inbox p q r w).1, v.2 - (inbox p q r w).2).2 + (-(w.1 - (inbox p q r w).1, w.2 - (inbox p q r w).2).1, -(w.1 - (inbox p q r w).1, w.2 - (inbox p q r w).2).2).2) := by
      refine Prod.ext ?_ ?_ <;> (simp only; omega)
    rw [e2]; exact this
  · exact inbox_congr hp hr
theorem inbox_zero {p q r : Int} (hp : 0 < p) (hr : 0 < r) (v : Pt) : inbox p q r v = (0, 0) ↔ InL p q r v := by
  constructor
  · intro e
    have h1 := inbox_diff (p := p) (q := q) (r := r) v
    rw [e] at h1
    simpa using h1
  · intro h
    exact inbox_uniq hp hr (by simpa using h) ⟨by simp, by simpa using hp⟩ ⟨by simp, by simpa using hr⟩
end Lat


/-! YLat2: the vectors that two lattices share; what two lattices span. -/
namespace Lat
/-- the numbers of two positive numbers -/
structure GL (a b g l : Int) : Prop where
  g0 : 0 < g
  l0 : 0 < l
  ga : g ∣ a
  gb : g ∣ b
  al : a ∣ l
  bl : b ∣ l
  le : ∀ x, a ∣ x → b ∣ x → l ∣ x
  gr : ∀ x, x ∣ a → x ∣ b → x ∣ g
  pr : l * g = a * b
  bz : ∃ u v : Int, g = u * a + v * b
theorem gl_of {a b : Int} (ha : 0 < a) (hb : 0 < b) : GL a b ((Nat.gcd a.natAbs b.natAbs : Nat) : Int) ((Nat.lcm a.natAbs b.natAbs : Nat) : Int) where
  g0 := by have := Nat.gcd_pos_of_pos_left b.natAbs (show 0 < a.natAbs by omega); omega
  l0 := by have := Nat.lcm_pos (show 0 < a.natAbs by omega) (show 0 < b.natAbs by omega); omega
  ga := Int.ofNat_dvd_left.mpr (Nat.gcd_dvd_left _ _)
  gb := Int.ofNat_dvd_left.mpr (Nat.gcd_dvd_right _ _)
  al := by
    have := Int.ofNat_dvd.mpr (Nat.dvd_lcm_left a.natAbs b.natAbs)
    rwa [show ((a.natAbs : Nat) : Int) = a by omega] at this
  bl := by
    have := Int.ofNat_dvd.mpr (Nat.dvd_lcm_right a.natAbs b.natAbs)
    rwa [show ((b.natAbs : Nat) : Int) = b by omega] at this
  le := fun x h1 h2 => Int.ofNat_dvd_left.mpr (Nat.lcm_dvd (Int.natAbs_dvd_natAbs.mpr h1) (Int.natAbs_dvd_natAbs.mpr h2))
  gr := fun x h1 h2 => by
    have := Nat.dvd_gcd (Int.natAbs_dvd_natAbs.mpr h1) (Int.natAbs_dvd_natAbs.mpr h2)
    exact Int.ofNat_dvd_right.mpr this
  pr := by
    have := Nat.gcd_mul_lcm a.natAbs b.natAbs
    have e : ((Nat.gcd a.natAbs b.natAbs * Nat.lcm a.natAbs b.natAbs : Nat) : Int) = ((a.natAbs * b.natAbs : Nat) : Int) := by rw [this]
    rw [Int.natCast_mul, Int.natCast_mul, show ((a.natAbs : Nat) : Int) = a by omega, show ((b.natAbs : Nat) : Int) = b by omega] at e
    rw [Int.mul_comm, e]
  bz := bez a b
theorem dvd_pos_le {a b : Int} (hb : 0 < b) (h : a ∣ b) : a ≤ b := Int.le_of_dvd hb h
/-- g divides t d just where its part without the divisor of d divides t -/
theorem part_iff {g d t : Int} (hg : 0 < g) : ∃ c e : Int, 0 < c ∧ 0 < e ∧ g = c * e ∧ c = ((Nat.gcd g.natAbs d.natAbs : Nat) : Int) ∧ ∀ t : Int, g ∣ t * d ↔ e ∣ t := by
  have hc : 0 < Nat.gcd g.natAbs d.natAbs := Nat.gcd_pos_of_pos_left _ (by omega)
  have c1 : ((Nat.gcd g.natAbs d.natAbs : Nat) : Int) ∣ g := Int.ofNat_dvd_left.mpr (Nat.gcd_dvd_left _ _)
  have c2 : ((Nat.gcd g.natAbs d.natAbs : Nat) : Int) ∣ d := Int.ofNat_dvd_left.mpr (Nat.gcd_dvd_right _ _)
  obtain ⟨u, v, bz⟩ := bez g d
  have hc' : 0 < ((Nat.gcd g.natAbs d.natAbs : Nat) : Int) := by omega
  generalize hC : ((Nat.gcd g.natAbs d.natAbs : Nat) : Int) = c at *
  obtain ⟨e, rfl⟩ := c1
  obtain ⟨f, rfl⟩ := c2
  have he : 0 < e := by
    by_cases z : 0 < e
    · exact z
    · have : c * e ≤ 0 := Int.mul_nonpos_of_nonneg_of_nonpos (by omega) (by omega)
      omega
  have b1 : u * e + v * f = 1 := by
    have : c * (u * e + v * f) = c * 1 := by grind
    exact Int.eq_of_mul_eq_mul_left (by omega) this
  refine ⟨c, e, hc', he, rfl, rfl, fun t => ?_⟩
  constructor
  · rintro ⟨k, hk⟩
    have : t * f = e * k := by
      have : c * (t * f) = c * (e * k) := by grind
      exact Int.eq_of_mul_eq_mul_left (by omega) this
    exact ⟨t * u + v * k, by grind⟩
  · rintro ⟨k, rfl⟩
    exact ⟨k * f, by grind⟩
section
variable {p1 q1 r1 p2 q2 r2 g P r' H a1 a2 : Int}
/-- two lattices, the numbers of their sides -/
structure Two (p1 q1 r1 p2 q2 r2 g P r' H a1 a2 : Int) : Prop where
  hp1 : 0 < p1
  hr1 : 0 < r1
  hp2 : 0 < p2
  hr2 : 0 < r2
  gp : GL p1 p2 g P
  gr : GL r1 r2 r' H
  h1 : H = r1 * a1
  h2 : H = r2 * a2
theorem two_of (h1 : 0 < p1) (h2 : 0 < r1) (h3 : 0 < p2) (h4 : 0 < r2) : ∃ a1 a2, Two p1 q1 r1 p2 q2 r2 ((Nat.gcd p1.natAbs p2.natAbs : Nat) : Int) ((Nat.lcm p1.natAbs p2.natAbs : Nat) : Int) ((Nat.gcd r1.natAbs r2.natAbs : Nat) : Int) ((Nat.lcm r1.natAbs r2.natAbs : Nat) : Int) a1 a2 := by
  have gp := gl_of h1 h3
  have gr := gl_of h2 h4
  obtain ⟨a1, e1⟩ := gr.al
  obtain ⟨a2, e2⟩ := gr.bl
  exact ⟨a1, a2, h1, h2, h3, h4, gp, gr, e1, e2⟩
variable (T : Two p1 q1 r1 p2 q2 r2 g P r' H a1 a2)
include T
theorem Two.first (t : Int) : (t * H).fdiv r1 = t * a1 := by
  rw [T.h1, show t * (r1 * a1) = r1 * (t * a1) by grind]
  exact Int.mul_fdiv_cancel_left _ (by have := T.hr1; omega)
theorem Two.second (t : Int) : (t * H).fdiv r2 = t * a2 := by
  rw [T.h2, show t * (r2 * a2) = r2 * (t * a2) by grind]
  exact Int.mul_fdiv_cancel_left _ (by have := T.hr2; omega)
theorem Two.ra : r' * a1 = r2 ∧ r' * a2 = r1 := by
  have := T.gr.pr
  have hr1 := T.hr1
  have hr2 := T.hr2
  constructor
  · have : r1 * (r' * a1) = r1 * r2 := by rw [T.h1] at this; grind
    exact Int.eq_of_mul_eq_mul_left (by omega) this
  · have : r2 * (r' * a2) = r2 * r1 := by rw [T.h2] at this; grind
    exact Int.eq_of_mul_eq_mul_left (by omega) this
/-- a vector of both -/
theorem Two.both (x y : Int) : (InL p1 q1 r1 (x, y) ∧ InL p2 q2 r2 (x, y)) ↔ ∃ t, y = t * H ∧ p1 ∣ x - t * a1 * q1 ∧ p2 ∣ x - t * a2 * q2 := by
  have hr1 := T.hr1
  have hr2 := T.hr2
  constructor
  · rintro ⟨⟨a, b, e⟩, c, d, f⟩
    have e1 := congrArg Prod.fst e
    have e2 := congrArg Prod.snd e
    have f1 := congrArg Prod.fst f
    have f2 := congrArg Prod.snd f
    dsimp only at e1 e2 f1 f2
    obtain ⟨t, ht⟩ := T.gr.le y ⟨b, by grind⟩ ⟨d, by grind⟩
    have hb : b = t * a1 := by
      have : r1 * b = r1 * (t * a1) := by have := T.h1; grind
      exact Int.eq_of_mul_eq_mul_left (by omega) this
    have hd : d = t * a2 := by
      have : r2 * d = r2 * (t * a2) := by have := T.h2; grind
      exact Int.eq_of_mul_eq_mul_left (by omega) this
    subst hb hd
    exact ⟨t, by grind, ⟨a, by grind⟩, ⟨c, by grind⟩⟩
  · rintro ⟨t, rfl, ⟨a, ha⟩, ⟨c, hc⟩⟩
    have h1 := T.h1
    have h2 := T.h2
    exact ⟨⟨a, t * a1, by refine Prod.ext ?_ ?_ <;> (try simp only) <;> grind⟩, ⟨c, t * a2, by refine Prod.ext ?_ ?_ <;> (try simp only) <;> grind⟩⟩
/-- is there a step -/
theorem Two.step (s : Int) : (∃ j : Nat, (j : Int) < P / p1 ∧ p2 ∣ s + j * p1) ↔ g ∣ s := by
  have hp1 := T.hp1
  have hp2 := T.hp2
  have hP := T.gp.l0
  obtain ⟨k, hk⟩ := T.gp.al
  obtain ⟨m, hm⟩ := T.gp.ga
  obtain ⟨n, hn⟩ := T.gp.gb
  have hPk : P / p1 = k := by rw [hk]; exact Int.mul_ediv_cancel_left _ (by omega)
  have hk0 : 0 < k := by
    by_cases z : 0 < k
    · exact z
    · have : p1 * k ≤ 0 := Int.mul_nonpos_of_nonneg_of_nonpos (by omega) (by omega)
      omega
  constructor
  · rintro ⟨j, _, d, hd⟩
    exact ⟨n * d - j * m, by grind⟩
  · rintro ⟨c, hc⟩
    obtain ⟨u, v, bz⟩ := T.gp.bz
    have h1 := Int.emod_nonneg (-(c * u)) (show k ≠ 0 by omega)
    have h2 := Int.emod_lt_of_pos (-(c * u)) hk0
    have h3 := Int.mul_ediv_add_emod (-(c * u)) k
    generalize hj : (-(c * u)) % k = j at *
    generalize (-(c * u)) / k = w at *
    refine ⟨j.toNat, by rw [hPk]; omega, ?_⟩
    rw [show ((j.toNat : Nat) : Int) = j by omega]
    obtain ⟨z, hz⟩ := T.gp.bl
    -- s + j p1 = c v p2 - w k p1
    refine ⟨c * v - w * z, ?_⟩
    have e1 : j = -(c * u) - k * w := by omega
    rw [hc, e1]
    have : p1 * k = p2 * z := by rw [← hk, hz]
    grind
/-- the met lattice: its rows are the multiples of the first that have a step -/
theorem Two.met {e x0 Q : Int} (he : 0 < e) (hd : ∀ t : Int, g ∣ t * (a1 * q1 - a2 * q2) ↔ e ∣ t) (h1 : p1 ∣ x0 - e * a1 * q1) (h2 : p2 ∣ x0 - e * a2 * q2) (hQ : P ∣ Q - x0) (v : Pt) : InL P Q (e * H) v ↔ InL p1 q1 r1 v ∧ InL p2 q2 r2 v := by
  obtain ⟨x, y⟩ := v
  rw [T.both]
  obtain ⟨n1, hn1⟩ := T.gp.al
  obtain ⟨n2, hn2⟩ := T.gp.bl
  obtain ⟨w, hw⟩ := hQ
  constructor
  · rintro ⟨a, b, eq⟩
    have e1 := congrArg Prod.fst eq
    have e2 := congrArg Prod.snd eq
    dsimp only at e1 e2
    obtain ⟨c1, hc1⟩ := h1
    obtain ⟨c2, hc2⟩ := h2
    exact ⟨b * e, by grind, ⟨a * n1 + b * w * n1 + b * c1, by grind⟩, ⟨a * n2 + b * w * n2 + b * c2, by grind⟩⟩
  · rintro ⟨t, rfl, k1, k2⟩
    obtain ⟨m, hm⟩ := T.gp.ga
    obtain ⟨n, hn⟩ := T.gp.gb
    have hg : g ∣ t * (a1 * q1 - a2 * q2) := by
      obtain ⟨c1, hc1⟩ := k1
      obtain ⟨c2, hc2⟩ := k2
      exact ⟨n * c2 - m * c1, by grind⟩
    obtain ⟨b, rfl⟩ := (hd t).mp hg
    have : P ∣ x - b * Q := T.gp.le _ (by
      obtain ⟨c1, hc1⟩ := k1
      obtain ⟨c2, hc2⟩ := h1
      exact ⟨c1 - b * c2 - b * w * n1, by grind⟩) (by
      obtain ⟨c1, hc1⟩ := k2
      obtain ⟨c2, hc2⟩ := h2
      exact ⟨c1 - b * c2 - b * w * n2, by grind⟩)
    obtain ⟨a, ha⟩ := this
    exact ⟨a, b, by refine Prod.ext ?_ ?_ <;> (try simp only) <;> grind⟩
/-- the area of what both span -/
theorem Two.joined {c : Int} (hc : c = ((Nat.gcd g.natAbs (a1 * q1 - a2 * q2).natAbs : Nat) : Int)) : (minG [(p1, 0), (q1, r1), (p2, 0), (q2, r2)] 0 : Int) = r' * c := by
  obtain ⟨e1, e2⟩ := T.ra
  have hr' := T.gr.g0
  have hp1 := T.hp1
  have hp2 := T.hp2
  have hr1 := T.hr1
  have hr2 := T.hr2
  have hg := T.gp.g0
  have c0 : 0 ≤ c := by omega
  have key : ∀ n : Nat, n ∣ minG [(p1, 0), (q1, r1), (p2, 0), (q2, r2)] 0 ↔ (n : Int) ∣ r' * c := by
    intro n
    rw [minG_dvd]
    simp only [List.pairwise_cons, List.mem_cons, List.not_mem_nil, or_false, forall_eq_or_imp, forall_eq, List.Pairwise.nil, and_true, Nat.dvd_zero, true_and, false_implies, implies_true]
    simp only [← Int.ofNat_dvd_left, det]
    constructor
    · rintro ⟨⟨x1, x2, x3⟩, ⟨x4, x5⟩, x6⟩
      -- n divides r' g and r' d
      have y1 : (n : Int) ∣ p1 * r1 := by obtain ⟨k, hk⟩ := x1; exact ⟨k, by grind⟩
      have y2 : (n : Int) ∣ p1 * r2 := by obtain ⟨k, hk⟩ := x3; exact ⟨k, by grind⟩
      have y3 : (n : Int) ∣ p2 * r1 := by obtain ⟨k, hk⟩ := x4; exact ⟨-k, by grind⟩
      have y4 : (n : Int) ∣ p2 * r2 := by obtain ⟨k, hk⟩ := x6; exact ⟨k, by grind⟩
      have y5 : (n : Int) ∣ q1 * r2 - q2 * r1 := by obtain ⟨k, hk⟩ := x5; exact ⟨k, by grind⟩
      obtain ⟨u, v, b1⟩ := T.gp.bz
      obtain ⟨s, t, b2⟩ := T.gr.bz
      have z1 : (n : Int) ∣ r' * g := by
        obtain ⟨k1, h1⟩ := y1
        obtain ⟨k2, h2⟩ := y2
        obtain ⟨k3, h3⟩ := y3
        obtain ⟨k4, h4⟩ := y4
        exact ⟨u * s * k1 + u * t * k2 + v * s * k3 + v * t * k4, by rw [b1, b2]; grind⟩
      have z2 : (n : Int) ∣ r' * (a1 * q1 - a2 * q2) := by
        have : r' * (a1 * q1 - a2 * q2) = q1 * r2 - q2 * r1 := by rw [← e1, ← e2]; grind
        rw [this]; exact y5
      obtain ⟨x, y, b3⟩ := bez g (a1 * q1 - a2 * q2)
      rw [hc, b3]
      obtain ⟨k1, h1⟩ := z1
      obtain ⟨k2, h2⟩ := z2
      exact ⟨x * k1 + y * k2, by grind⟩
    · intro h
      have c1 : c ∣ g := by rw [hc]; exact Int.ofNat_dvd_left.mpr (Nat.gcd_dvd_left _ _)
      have c2 : c ∣ a1 * q1 - a2 * q2 := by rw [hc]; exact Int.ofNat_dvd_left.mpr (Nat.gcd_dvd_right _ _)
      obtain ⟨m, hm⟩ := T.gp.ga
      obtain ⟨m2, hm2⟩ := T.gp.gb
      obtain ⟨k, hk⟩ := c1
      obtain ⟨l, hl⟩ := c2
      obtain ⟨z, hz⟩ := h
      have f : q1 * r2 - q2 * r1 = r' * (a1 * q1 - a2 * q2) := by rw [← e1, ← e2]; grind
      refine ⟨⟨⟨z * k * m * a2, ?_⟩, ⟨0, ?_⟩, ⟨z * k * m * a1, ?_⟩⟩, ⟨⟨-(z * k * m2 * a2), ?_⟩, ⟨z * l, ?_⟩⟩, ⟨z * k * m2 * a1, ?_⟩⟩
      · rw [hm, hk, ← e2]; grind
      · grind
      · rw [hm, hk, ← e1]; grind
      · rw [hm2, hk, ← e2]; grind
      · rw [show q1 * r2 - r1 * q2 = q1 * r2 - q2 * r1 by grind, f, hl]; grind
      · rw [hm2, hk, ← e1]; grind
  have h0 : 0 ≤ r' * c := Int.mul_nonneg (by omega) c0
  have e : minG [(p1, 0), (q1, r1), (p2, 0), (q2, r2)] 0 = (r' * c).natAbs := by
    refine Nat.dvd_antisymm ?_ ?_
    · exact Int.ofNat_dvd_left.mp ((key _).mp (Nat.dvd_refl _))
    · refine (key _).mpr ?_
      exact Int.natAbs_dvd.mpr (Int.dvd_refl _)
  rw [e]; omega
end
end Lat


/-! YLow: numbers in lowest terms, in plain Lean. -/
namespace Lw
def gcdF (g : Nat) : List Int → Nat
  | [] => g
  | n :: ns => gcdF (Nat.gcd g n.natAbs) ns
theorem gcdF_dvd : ∀ (ns : List Int) (g : Nat), gcdF g ns ∣ g ∧ ∀ n ∈ ns, gcdF g ns ∣ n.natAbs
  | [], g => ⟨Nat.dvd_refl _, fun n h => by cases h⟩
  | n :: ns, g => by
    obtain ⟨a, b⟩ := gcdF_dvd ns (Nat.gcd g n.natAbs)
    refine ⟨Nat.dvd_trans a (Nat.gcd_dvd_left _ _), fun m hm => ?_⟩
    rcases List.mem_cons.mp hm with rfl | hm
    · exact Nat.dvd_trans a (Nat.gcd_dvd_right _ _)
    · exact b m hm
theorem gcdF_scale (p : Int) : ∀ (ns : List Int) (g : Nat), gcdF (p.natAbs * g) (ns.map (p * ·)) = p.natAbs * gcdF g ns
  | [], g => rfl
  | n :: ns, g => by
    show gcdF (Nat.gcd (p.natAbs * g) (p * n).natAbs) (ns.map (p * ·)) = _
    rw [Int.natAbs_mul, Nat.gcd_mul_left, gcdF_scale p ns]
    rfl
theorem gcdF_one : ∀ (ns : List Int) (g : Nat), (∃ n ∈ ns, n.natAbs = 1) → gcdF g ns = 1 := fun ns g ⟨n, h, e⟩ => by
  have := (gcdF_dvd ns g).2 n h
  rw [e] at this
  exact Nat.dvd_one.mp this
theorem gcdF_le {ns : List Int} {n : Int} (h : n ∈ ns) (h0 : n ≠ 0) : gcdF 0 ns ≤ n.natAbs := Nat.le_of_dvd (by omega) ((gcdF_dvd ns 0).2 n h)
theorem gcdF_pos {ns : List Int} {n : Int} (h : n ∈ ns) (h0 : n ≠ 0) : 0 < gcdF 0 ns := Nat.pos_of_dvd_of_pos ((gcdF_dvd ns 0).2 n h) (by omega)
/-- the divisor with the sign of the last number -/
def den (w : Int) (ns : List Int) : Int := if w > 0 then (gcdF 0 ns : Int) else 0 - (gcdF 0 ns : Int)
theorem den_abs (w : Int) (ns : List Int) : (den w ns).natAbs = gcdF 0 ns := by unfold den; split <;> omega
theorem den_dvd {w : Int} {ns : List Int} {n : Int} (h : n ∈ ns) : den w ns ∣ n := by
  rw [← Int.natAbs_dvd_natAbs, den_abs]
  exact (gcdF_dvd ns 0).2 n h
theorem mul_fdiv {g n : Int} (h : g ∣ n) : g * n.fdiv g = n := by
  have := Int.mul_fdiv_add_fmod n g
  have z : n.fmod g = 0 := Int.fmod_eq_zero_of_dvd h
  omega
theorem map_scale {g : Int} : ∀ {ns : List Int}, (∀ n ∈ ns, g ∣ n) → (ns.map fun n => n.fdiv g).map (g * ·) = ns
  | [], _ => rfl
  | n :: ns, h => by
    rw [List.map_cons, List.map_cons, map_scale fun m hm => h m (List.mem_cons_of_mem _ hm), mul_fdiv (h n (List.mem_cons_self ..))]
theorem den_one {w : Int} {ns : List Int} (hw : w ≠ 0) (hm : w ∈ ns) : gcdF 0 (ns.map fun n => n.fdiv (den w ns)) = 1 := by
  have e := gcdF_scale (den w ns) (ns.map fun n => n.fdiv (den w ns)) 0
  rw [map_scale fun n hn => den_dvd hn, Nat.mul_zero, den_abs] at e
  have p := gcdF_pos hm hw
  exact Nat.eq_of_mul_eq_mul_left p (by omega)
theorem den_ne {w : Int} {ns : List Int} (hw : w ≠ 0) (hm : w ∈ ns) : den w ns ≠ 0 := by
  have := gcdF_pos hm hw
  have := den_abs w ns
  omega
theorem den_pos {w : Int} {ns : List Int} (hw : w ≠ 0) (hm : w ∈ ns) : 0 < w.fdiv (den w ns) := by
  have e := mul_fdiv (den_dvd (w := w) hm)
  have p := gcdF_pos hm hw
  have h0 : w.fdiv (den w ns) ≠ 0 := fun z => by rw [z] at e; omega
  by_cases h : w > 0
  · have hd : den w ns = gcdF 0 ns := if_pos h
    rcases Int.lt_or_gt_of_ne h0 with l | l
    · exfalso
      have : den w ns * w.fdiv (den w ns) < 0 := Int.mul_neg_of_pos_of_neg (by omega) l
      omega
    · exact l
  · have hd : den w ns = 0 - gcdF 0 ns := if_neg h
    rcases Int.lt_or_gt_of_ne h0 with l | l
    · exfalso
      have : 0 < den w ns * w.fdiv (den w ns) := Int.mul_pos_of_neg_of_neg (by omega) l
      omega
    · exact l
/-- one form in lowest terms -/
theorem uniq {as bs : List Int} {p q a b : Int} (hp : p ≠ 0) (h : as.map (p * ·) = bs.map (q * ·)) (ga : gcdF 0 as = 1) (gb : gcdF 0 bs = 1) (ha : 0 < a) (hb : 0 < b) (hab : p * a = q * b) : as = bs := by
  have e1 := gcdF_scale p as 0
  have e2 := gcdF_scale q bs 0
  rw [ga] at e1
  rw [gb] at e2
  rw [h] at e1
  have e : p.natAbs = q.natAbs := by rw [Nat.mul_zero] at e1 e2; omega
  have pq : p = q := by
    rcases (by omega : p = q ∨ p = -q) with r | r
    · exact r
    · exfalso
      subst r
      have : q * (a + b) = 0 := by grind
      rcases Int.mul_eq_zero.mp this with z | z <;> omega
  subst pq
  clear e1 e2 e hab ga gb
  induction as generalizing bs with
  | nil => cases bs with | nil => rfl | cons => cases h
  | cons x xs ih => cases bs with
    | nil => cases h
    | cons y ys =>
      rw [List.map_cons, List.map_cons] at h
      obtain ⟨h1, h2⟩ := List.cons.inj h
      rw [Int.eq_of_mul_eq_mul_left hp h1, ih h2]
/-- what is in lowest terms stays -/
theorem den_id {w : Int} {ns : List Int} (h : gcdF 0 ns = 1) (hw : 0 < w) : den w ns = 1 := by unfold den; rw [if_pos hw, h]; rfl
/-! ### charts and points -/
structure C7 where
  a : Int
  b : Int
  c : Int
  d : Int
  e : Int
  f : Int
  w : Int
  deriving DecidableEq
structure C3 where
  x : Int
  y : Int
  u : Int
  deriving DecidableEq
def C7.l (m : C7) : List Int := [m.a, m.b, m.c, m.d, m.e, m.f, m.w]
def C3.l (m : C3) : List Int := [m.x, m.y, m.u]
def low7 (m : C7) : C7 := let g := den m.w m.l; ⟨m.a.fdiv g, m.b.fdiv g, m.c.fdiv g, m.d.fdiv g, m.e.fdiv g, m.f.fdiv g, m.w.fdiv g⟩
def low3 (m : C3) : C3 := let g := den m.u m.l; ⟨m.x.fdiv g, m.y.fdiv g, m.u.fdiv g⟩
structure Low7 (m : C7) : Prop where
  w : 0 < m.w
  g : gcdF 0 m.l = 1
structure Low3 (m : C3) : Prop where
  u : 0 < m.u
  g : gcdF 0 m.l = 1
theorem C7.w_mem (m : C7) : m.w ∈ m.l := by simp [C7.l]
theorem C3.u_mem (m : C3) : m.u ∈ m.l := by simp [C3.l]
theorem low7_l (m : C7) : (low7 m).l = m.l.map fun n => n.fdiv (den m.w m.l) := rfl
theorem low3_l (m : C3) : (low3 m).l = m.l.map fun n => n.fdiv (den m.u m.l) := rfl
theorem low7_low {m : C7} (h : m.w ≠ 0) : Low7 (low7 m) := ⟨den_pos h m.w_mem, den_one h m.w_mem⟩
theorem low3_low {m : C3} (h : m.u ≠ 0) : Low3 (low3 m) := ⟨den_pos h m.u_mem, den_one h m.u_mem⟩
structure Sc7 (m n : C7) (g : Int) : Prop where
  a : m.a = g * n.a
  b : m.b = g * n.b
  c : m.c = g * n.c
  d : m.d = g * n.d
  e : m.e = g * n.e
  f : m.f = g * n.f
  w : m.w = g * n.w
structure Sc3 (m n : C3) (g : Int) : Prop where
  x : m.x = g * n.x
  y : m.y = g * n.y
  u : m.u = g * n.u
theorem low7_sc {m : C7} : Sc7 m (low7 m) (den m.w m.l) := by
  have k : ∀ n ∈ m.l, n = den m.w m.l * n.fdiv (den m.w m.l) := fun n hn => (mul_fdiv (den_dvd hn)).symm
  constructor <;> exact k _ (by simp [C7.l])
theorem low3_sc {m : C3} : Sc3 m (low3 m) (den m.u m.l) := by
  have k : ∀ n ∈ m.l, n = den m.u m.l * n.fdiv (den m.u m.l) := fun n hn => (mul_fdiv (den_dvd hn)).symm
  constructor <;> exact k _ (by simp [C3.l])
theorem uniq7 {m n : C7} {p q : Int} (hp : p ≠ 0) (hm : Low7 m) (hn : Low7 n) (a : p * m.a = q * n.a) (b : p * m.b = q * n.b) (c : p * m.c = q * n.c) (d : p * m.d = q * n.d) (e : p * m.e = q * n.e) (f : p * m.f = q * n.f) (w : p * m.w = q * n.w) : m = n := by
  have := uniq (as := m.l) (bs := n.l) hp (by simp only [C7.l, List.map_cons, List.map_nil]; rw [a, b, c, d, e, f, w]) hm.g hn.g hm.w hn.w w
  obtain ⟨⟩ := m
  obtain ⟨⟩ := n
  simp only [C7.l, List.cons.injEq] at this
  simp [this]
theorem uniq3 {m n : C3} {p q : Int} (hp : p ≠ 0) (hm : Low3 m) (hn : Low3 n) (x : p * m.x = q * n.x) (y : p * m.y = q * n.y) (u : p * m.u = q * n.u) : m = n := by
  have := uniq (as := m.l) (bs := n.l) hp (by simp only [C3.l, List.map_cons, List.map_nil]; rw [x, y, u]) hm.g hn.g hm.u hn.u u
  obtain ⟨⟩ := m
  obtain ⟨⟩ := n
  simp only [C3.l, List.cons.injEq] at this
  simp [this]
/-- what is a lowest form, is the one -/
theorem low7_is {m n : C7} (hm : m.w ≠ 0) (hn : Low7 n) {p q : Int} (hp : p ≠ 0) (a : p * m.a = q * n.a) (b : p * m.b = q * n.b) (c : p * m.c = q * n.c) (d : p * m.d = q * n.d) (e : p * m.e = q * n.e) (f : p * m.f = q * n.f) (w : p * m.w = q * n.w) : low7 m = n := by
  have S := low7_sc (m := m)
  have g0 := den_ne hm m.w_mem
  refine uniq7 (p := p * den m.w m.l) (q := q) (by intro z; rcases Int.mul_eq_zero.mp z with z | z <;> contradiction) (low7_low hm) hn ?_ ?_ ?_ ?_ ?_ ?_ ?_
  · rw [Int.mul_assoc, ← S.a]; exact a
  · rw [Int.mul_assoc, ← S.b]; exact b
  · rw [Int.mul_assoc, ← S.c]; exact c
  · rw [Int.mul_assoc, ← S.d]; exact d
  · rw [Int.mul_assoc, ← S.e]; exact e
  · rw [Int.mul_assoc, ← S.f]; exact f
  · rw [Int.mul_assoc, ← S.w]; exact w
theorem low3_is {m n : C3} (hm : m.u ≠ 0) (hn : Low3 n) {p q : Int} (hp : p ≠ 0) (x : p * m.x = q * n.x) (y : p * m.y = q * n.y) (u : p * m.u = q * n.u) : low3 m = n := by
  have S := low3_sc (m := m)
  have g0 := den_ne hm m.u_mem
  refine uniq3 (p := p * den m.u m.l) (q := q) (by intro z; rcases Int.mul_eq_zero.mp z with z | z <;> contradiction) (low3_low hm) hn ?_ ?_ ?_
  · rw [Int.mul_assoc, ← S.x]; exact x
  · rw [Int.mul_assoc, ← S.y]; exact y
  · rw [Int.mul_assoc, ← S.u]; exact u
theorem low7_id {m : C7} (h : Low7 m) : low7 m = m := low7_is (p := 1) (q := 1) (by have := h.w; omega) h (by decide) rfl rfl rfl rfl rfl rfl rfl
theorem low3_id {m : C3} (h : Low3 m) : low3 m = m := low3_is (p := 1) (q := 1) (by have := h.u; omega) h (by decide) rfl rfl rfl
/-- raw numbers -/
def at_ (m : C7) (p : C3) : C3 := ⟨m.a * p.x + m.b * p.y + m.e * p.u, m.c * p.x + m.d * p.y + m.f * p.u, m.w * p.u⟩
def then_ (m n : C7) : C7 := ⟨n.a * m.a + n.b * m.c, n.a * m.b + n.b * m.d, n.c * m.a + n.d * m.c, n.c * m.b + n.d * m.d, n.a * m.e + n.b * m.f + m.w * n.e, n.c * m.e + n.d * m.f + m.w * n.f, m.w * n.w⟩
def back_ (m : C7) : C7 := ⟨m.d * m.w, 0 - m.b * m.w, 0 - m.c * m.w, m.a * m.w, m.b * m.f - m.d * m.e, m.c * m.e - m.a * m.f, m.a * m.d - m.b * m.c⟩
def by_ (i j k : C3) : C7 := let n := i.u * j.u * k.u; let s := n.fdiv j.u; let t := n.fdiv k.u; let r := n.fdiv i.u; ⟨j.x * s - i.x * r, k.x * t - i.x * r, j.y * s - i.y * r, k.y * t - i.y * r, i.x * r, i.y * r, n⟩
def id7 : C7 := ⟨1, 0, 0, 1, 0, 0, 1⟩
theorem low_id7 : Low7 id7 := ⟨by decide, by decide⟩
theorem mul_ne {a b : Int} (ha : a ≠ 0) (hb : b ≠ 0) : a * b ≠ 0 := fun z => by rcases Int.mul_eq_zero.mp z with z | z <;> contradiction
/-- a chart followed by its back -/
theorem then_back {m : C7} (hm : m.w ≠ 0) (hd : m.a * m.d - m.b * m.c ≠ 0) : low7 (then_ m (low7 (back_ m))) = id7 := by
  have S := low7_sc (m := back_ m)
  have h0 : (back_ m).w ≠ 0 := hd
  have g0 := den_ne h0 (back_ m).w_mem
  have L := low7_low h0
  generalize den (back_ m).w (back_ m).l = g at *
  generalize low7 (back_ m) = n at *
  obtain ⟨a, b, c, d, e, f, w⟩ := m
  obtain ⟨a', b', c', d', e', f', w'⟩ := n
  obtain ⟨sa, sb, sc, sd, se, sf, sw⟩ := S
  dsimp only [back_] at *
  have lw := L.w
  dsimp only at lw
  refine low7_is (p := g) (q := w * (a * d - b * c)) (mul_ne hm (by dsimp only; omega)) low_id7 g0 ?_ ?_ ?_ ?_ ?_ ?_ ?_ <;> dsimp only [then_, id7] <;> grind
theorem back_then {m : C7} (hm : m.w ≠ 0) (hd : m.a * m.d - m.b * m.c ≠ 0) : low7 (then_ (low7 (back_ m)) m) = id7 := by
  have S := low7_sc (m := back_ m)
  have h0 : (back_ m).w ≠ 0 := hd
  have g0 := den_ne h0 (back_ m).w_mem
  have L := low7_low h0
  generalize den (back_ m).w (back_ m).l = g at *
  generalize low7 (back_ m) = n at *
  obtain ⟨a, b, c, d, e, f, w⟩ := m
  obtain ⟨a', b', c', d', e', f', w'⟩ := n
  obtain ⟨sa, sb, sc, sd, se, sf, sw⟩ := S
  dsimp only [back_] at *
  have lw := L.w
  dsimp only at lw
  refine low7_is (p := g) (q := w * (a * d - b * c)) (mul_ne (by dsimp only; omega) hm) low_id7 g0 ?_ ?_ ?_ ?_ ?_ ?_ ?_ <;> dsimp only [then_, id7] <;> grind
theorem at_u {m : C7} {p : C3} (hm : m.w ≠ 0) (hp : p.u ≠ 0) : (at_ m p).u ≠ 0 := mul_ne hm hp
/-- there and back -/
theorem at_back {m : C7} {p : C3} (hm : m.w ≠ 0) (hd : m.a * m.d - m.b * m.c ≠ 0) (hp : Low3 p) : low3 (at_ (low7 (back_ m)) (low3 (at_ m p))) = p := by
  have S := low7_sc (m := back_ m)
  have h0 : (back_ m).w ≠ 0 := hd
  have g0 := den_ne h0 (back_ m).w_mem
  have L := low7_low h0
  have hu : (at_ m p).u ≠ 0 := at_u hm (by have := hp.u; omega)
  have S2 := low3_sc (m := at_ m p)
  have g2 := den_ne hu (at_ m p).u_mem
  have L2 := low3_low hu
  generalize den (back_ m).w (back_ m).l = g at *
  generalize low7 (back_ m) = n at *
  generalize den (at_ m p).u (at_ m p).l = h at *
  generalize low3 (at_ m p) = r at *
  obtain ⟨a, b, c, d, e, f, w⟩ := m
  obtain ⟨a', b', c', d', e', f', w'⟩ := n
  obtain ⟨x, y, u⟩ := p
  obtain ⟨x', y', u'⟩ := r
  obtain ⟨sa, sb, sc, sd, se, sf, sw⟩ := S
  obtain ⟨tx, ty, tu⟩ := S2
  have lw := L.w
  have lu := L2.u
  dsimp only [back_, at_] at *
  refine low3_is (p := g * h) (q := w * (a * d - b * c)) (mul_ne (by omega) (by omega)) hp (mul_ne g0 g2) ?_ ?_ ?_
  · have k : g * h * (a' * x' + b' * y' + e' * u') = (g * a') * (h * x') + (g * b') * (h * y') + (g * e') * (h * u') := by grind only
    show g * h * (a' * x' + b' * y' + e' * u') = w * (a * d - b * c) * x
    rw [k, ← sa, ← sb, ← se, ← tx, ← ty, ← tu]; grind only
  · have k : g * h * (c' * x' + d' * y' + f' * u') = (g * c') * (h * x') + (g * d') * (h * y') + (g * f') * (h * u') := by grind only
    show g * h * (c' * x' + d' * y' + f' * u') = w * (a * d - b * c) * y
    rw [k, ← sc, ← sd, ← sf, ← tx, ← ty, ← tu]; grind only
  · have k : g * h * (w' * u') = (g * w') * (h * u') := by grind only
    show g * h * (w' * u') = w * (a * d - b * c) * u
    rw [k, ← sw, ← tu]; grind only
theorem back_at {m : C7} {p : C3} (hm : m.w ≠ 0) (hd : m.a * m.d - m.b * m.c ≠ 0) (hp : Low3 p) : low3 (at_ m (low3 (at_ (low7 (back_ m)) p))) = p := by
  have S := low7_sc (m := back_ m)
  have h0 : (back_ m).w ≠ 0 := hd
  have g0 := den_ne h0 (back_ m).w_mem
  have L := low7_low h0
  have hu : (at_ (low7 (back_ m)) p).u ≠ 0 := at_u (by have := L.w; omega) (by have := hp.u; omega)
  have S2 := low3_sc (m := at_ (low7 (back_ m)) p)
  have g2 := den_ne hu (at_ (low7 (back_ m)) p).u_mem
  have L2 := low3_low hu
  generalize den (back_ m).w (back_ m).l = g at *
  generalize low7 (back_ m) = n at *
  generalize den (at_ n p).u (at_ n p).l = h at *
  generalize low3 (at_ n p) = r at *
  obtain ⟨a, b, c, d, e, f, w⟩ := m
  obtain ⟨a', b', c', d', e', f', w'⟩ := n
  obtain ⟨x, y, u⟩ := p
  obtain ⟨x', y', u'⟩ := r
  obtain ⟨sa, sb, sc, sd, se, sf, sw⟩ := S
  obtain ⟨tx, ty, tu⟩ := S2
  have lw := L.w
  have lu := L2.u
  dsimp only [back_, at_] at *
  refine low3_is (p := g * h) (q := w * (a * d - b * c)) (mul_ne (by omega) (by omega)) hp (mul_ne g0 g2) ?_ ?_ ?_
  · show g * h * (a * x' + b * y' + e * u') = w * (a * d - b * c) * x
    have k : g * h * (a * x' + b * y' + e * u') = g * (a * (h * x') + b * (h * y') + e * (h * u')) := by grind only
    rw [k, ← tx, ← ty, ← tu]
    have k : g * (a * (a' * x + b' * y + e' * u) + b * (c' * x + d' * y + f' * u) + e * (w' * u)) = a * ((g * a') * x + (g * b') * y + (g * e') * u) + b * ((g * c') * x + (g * d') * y + (g * f') * u) + e * ((g * w') * u) := by grind only
    rw [k, ← sa, ← sb, ← sc, ← sd, ← se, ← sf, ← sw]; grind only
  · show g * h * (c * x' + d * y' + f * u') = w * (a * d - b * c) * y
    have k : g * h * (c * x' + d * y' + f * u') = g * (c * (h * x') + d * (h * y') + f * (h * u')) := by grind only
    rw [k, ← tx, ← ty, ← tu]
    have k : g * (c * (a' * x + b' * y + e' * u) + d * (c' * x + d' * y + f' * u) + f * (w' * u)) = c * ((g * a') * x + (g * b') * y + (g * e') * u) + d * ((g * c') * x + (g * d') * y + (g * f') * u) + f * ((g * w') * u) := by grind only
    rw [k, ← sa, ← sb, ← sc, ← sd, ← se, ← sf, ← sw]; grind only
  · show g * h * (w * u') = w * (a * d - b * c) * u
    have k : g * h * (w * u') = w * (g * (h * u')) := by grind only
    rw [k, ← tu]
    have k : w * (g * (w' * u)) = w * ((g * w') * u) := by grind only
    rw [k, ← sw]; grind only
/-- three points tell a chart -/
theorem by_then {m n : C7} (hm : m.w ≠ 0) (hn : n.w ≠ 0) :
    low7 (by_ (low3 (at_ n (low3 (at_ m ⟨0, 0, 1⟩)))) (low3 (at_ n (low3 (at_ m ⟨1, 0, 1⟩)))) (low3 (at_ n (low3 (at_ m ⟨0, 1, 1⟩))))) = low7 (then_ m n) := by
  have key : ∀ p : C3, p.u ≠ 0 → ∃ (g : Int) (r : C3), g ≠ 0 ∧ low3 (at_ n (low3 (at_ m p))) = r ∧ 0 < r.u ∧ g * r.x = (at_ n (at_ m p)).x ∧ g * r.y = (at_ n (at_ m p)).y ∧ g * r.u = (at_ n (at_ m p)).u := fun p hp => by
    have hu := at_u hm hp
    have S2 := low3_sc (m := at_ m p)
    have g2 := den_ne hu (at_ m p).u_mem
    have L2 := low3_low hu
    generalize den (at_ m p).u (at_ m p).l = h at *
    generalize low3 (at_ m p) = r at *
    have hv : (at_ n r).u ≠ 0 := at_u hn (by have := L2.u; omega)
    have S3 := low3_sc (m := at_ n r)
    have g3 := den_ne hv (at_ n r).u_mem
    have L3 := low3_low hv
    generalize den (at_ n r).u (at_ n r).l = h2 at *
    generalize low3 (at_ n r) = r2 at *
    refine ⟨h * h2, r2, mul_ne g2 g3, rfl, L3.u, ?_, ?_, ?_⟩
    · have := S3.x
      rw [Int.mul_assoc, ← this]
      have := S2.x; have := S2.y; have := S2.u
      dsimp only [at_] at *
      grind
    · have := S3.y
      rw [Int.mul_assoc, ← this]
      have := S2.x; have := S2.y; have := S2.u
      dsimp only [at_] at *
      grind
    · have := S3.u
      rw [Int.mul_assoc, ← this]
      have := S2.x; have := S2.y; have := S2.u
      dsimp only [at_] at *
      grind
  obtain ⟨g0, i, h0, e0, u0, x0, y0, z0⟩ := key ⟨0, 0, 1⟩ (by decide)
  obtain ⟨g1, j, h1, e1, u1, x1, y1, z1⟩ := key ⟨1, 0, 1⟩ (by decide)
  obtain ⟨g2, k, h2, e2, u2, x2, y2, z2⟩ := key ⟨0, 1, 1⟩ (by decide)
  rw [e0, e1, e2]
  clear e0 e1 e2 key
  have ht : (then_ m n).w ≠ 0 := mul_ne hm hn
  have S := low7_sc (m := then_ m n)
  have gt := den_ne ht (then_ m n).w_mem
  have L := low7_low ht
  have d1 : (i.u * j.u * k.u).fdiv j.u = i.u * k.u := by
    rw [show i.u * j.u * k.u = i.u * k.u * j.u by grind]; exact Int.mul_fdiv_cancel _ (by omega)
  have d2 : (i.u * j.u * k.u).fdiv k.u = i.u * j.u := Int.mul_fdiv_cancel _ (by omega)
  have d0 : (i.u * j.u * k.u).fdiv i.u = j.u * k.u := by
    rw [show i.u * j.u * k.u = j.u * k.u * i.u by grind]; exact Int.mul_fdiv_cancel _ (by omega)
  have hb : by_ i j k = ⟨j.x * (i.u * k.u) - i.x * (j.u * k.u), k.x * (i.u * j.u) - i.x * (j.u * k.u), j.y * (i.u * k.u) - i.y * (j.u * k.u), k.y * (i.u * j.u) - i.y * (j.u * k.u), i.x * (j.u * k.u), i.y * (j.u * k.u), i.u * j.u * k.u⟩ := by
    unfold by_; simp only [d0, d1, d2]
  rw [hb]
  clear hb d0 d1 d2
  have W : g0 * i.u = g1 * j.u ∧ g0 * i.u = g2 * k.u := by
    dsimp only [at_] at z0 z1 z2; constructor <;> grind
  generalize den (then_ m n).w (then_ m n).l = g at *
  generalize low7 (then_ m n) = r at *
  refine low7_is (p := g0 * g1 * g2) (q := (m.w * n.w) * (m.w * n.w) * g) (mul_ne (mul_ne (by omega) (by omega)) (by omega)) L (mul_ne (mul_ne h0 h1) h2) ?_ ?_ ?_ ?_ ?_ ?_ ?_
  · have := S.a
    rw [Int.mul_assoc _ g, ← this]
    dsimp only [at_, then_] at *
    have : g0 * g1 * g2 * (j.x * (i.u * k.u) - i.x * (j.u * k.u)) = (g1 * j.x) * (g0 * i.u) * (g2 * k.u) - (g0 * i.x) * (g1 * j.u) * (g2 * k.u) := by grind
    rw [this, x0, x1, z0, z1, z2]; grind
  · have := S.b
    rw [Int.mul_assoc _ g, ← this]
    dsimp only [at_, then_] at *
    have : g0 * g1 * g2 * (k.x * (i.u * j.u) - i.x * (j.u * k.u)) = (g2 * k.x) * (g0 * i.u) * (g1 * j.u) - (g0 * i.x) * (g1 * j.u) * (g2 * k.u) := by grind
    rw [this, x0, x2, z0, z1, z2]; grind
  · have := S.c
    rw [Int.mul_assoc _ g, ← this]
    dsimp only [at_, then_] at *
    have : g0 * g1 * g2 * (j.y * (i.u * k.u) - i.y * (j.u * k.u)) = (g1 * j.y) * (g0 * i.u) * (g2 * k.u) - (g0 * i.y) * (g1 * j.u) * (g2 * k.u) := by grind
    rw [this, y0, y1, z0, z1, z2]; grind
  · have := S.d
    rw [Int.mul_assoc _ g, ← this]
    dsimp only [at_, then_] at *
    have : g0 * g1 * g2 * (k.y * (i.u * j.u) - i.y * (j.u * k.u)) = (g2 * k.y) * (g0 * i.u) * (g1 * j.u) - (g0 * i.y) * (g1 * j.u) * (g2 * k.u) := by grind
    rw [this, y0, y2, z0, z1, z2]; grind
  · have := S.e
    rw [Int.mul_assoc _ g, ← this]
    dsimp only [at_, then_] at *
    have : g0 * g1 * g2 * (i.x * (j.u * k.u)) = (g0 * i.x) * (g1 * j.u) * (g2 * k.u) := by grind
    rw [this, x0, z1, z2]; grind
  · have := S.f
    rw [Int.mul_assoc _ g, ← this]
    dsimp only [at_, then_] at *
    have : g0 * g1 * g2 * (i.y * (j.u * k.u)) = (g0 * i.y) * (g1 * j.u) * (g2 * k.u) := by grind
    rw [this, y0, z1, z2]; grind
  · have := S.w
    rw [Int.mul_assoc _ g, ← this]
    dsimp only [at_, then_] at *
    have : g0 * g1 * g2 * (i.u * j.u * k.u) = (g0 * i.u) * (g1 * j.u) * (g2 * k.u) := by grind
    rw [this, z0, z1, z2]; grind
end Lw
namespace Y
open PySem PySem.Spec PyProof.Rows L2
theorem show_i {a : Int} (ha : a.natAbs < 10 ^ 12) : a.natAbs.log2 < 1920 := by
  by_cases h : a.natAbs = 0
  · rw [h]; decide
  · exact (Nat.log2_lt h).mpr (Nat.lt_of_lt_of_le ha (by decide +kernel))
theorem shwI_all : ∀ ns : List Int, (∀ n ∈ ns, n.natAbs < 10 ^ 12) → PyData.leavesShortAll 13 (ns.map PyData.int) = true ∧ PyData.showableAll (ns.map PyData.int) = true ∧ PyData.bulkAll (ns.map PyData.int) ≤ 2 * ns.length ∧ strsOkAll (ns.map PyData.int) = true
  | [], _ => ⟨rfl, rfl, by simp [PyData.bulkAll], rfl⟩
  | n :: ns, h => by
    obtain ⟨h1, h2, h3, h4⟩ := shwI_all ns fun m hm => h m (List.mem_cons_of_mem _ hm)
    have hn := h n List.mem_cons_self
    refine ⟨?_, ?_, ?_, ?_⟩
    · simp only [List.map_cons, PyData.leavesShortAll, PyData.leavesShort, h1, Bool.and_true, decide_eq_true_eq]; exact PyData.shown_int_le hn
    · simp only [List.map_cons, PyData.showableAll, PyData.showable, h2, Bool.and_true, decide_eq_true_eq]; exact show_i hn
    · simp only [List.map_cons, PyData.bulkAll, PyData.bulk, List.length_cons]; omega
    · simp only [List.map_cons, strsOkAll, strsOk, h4, Bool.and_true]
/-- a tuple of numbers that are not great is shown -/
theorem shwI {ns : List Int} (h : ∀ n ∈ ns, n.natAbs < 10 ^ 12) (hl : ns.length ≤ 1000) : shwOk (.tuple (ns.map PyData.int)) = true := by
  obtain ⟨h1, h2, h3, h4⟩ := shwI_all ns h
  unfold shwOk
  rw [sh_tupI]
  simp only [PyData.leavesShort, PyData.showable, PyData.bulk, strsOk, h1, h2, h4, Bool.true_and, Bool.and_true, decide_eq_true_eq, List.length_map]
  exact decide_eq_true (by omega)
theorem shwI2 {ns : List Int} (h : ∀ n ∈ ns, n.natAbs < 10 ^ 12) (hl : ns.length ≤ 1000) : shwOk (.list [.tuple (ns.map PyData.int), .tuple (ns.map PyData.int)]) = true := by
  obtain ⟨h1, h2, h3, h4⟩ := shwI_all ns h
  obtain ⟨c1, c2⟩ := sh_ints ns
  unfold shwOk SeqAt.shaped
  simp only [PyData.canLay0, PyData.canLayAll0, c1, PyData.depth, PyData.depthAll, PyData.leavesShort, PyData.leavesShortAll, PyData.showable, PyData.showableAll, PyData.bulk, PyData.bulkAll, strsOk, strsOkAll, h1, h2, h4, Bool.true_and, Bool.and_true, Bool.and_self, Bool.and_eq_true, decide_eq_true_eq, List.length_map, List.length_cons, List.length_nil]
  exact ⟨decide_eq_true (by omega), decide_eq_true (by omega)⟩
end Y


/-! YTool2: comprehensions and loops over a list that is told by one of its own. -/
namespace Y
open PySem PySem.Spec PyProof.Rows L2
section
theorem comp_mapL {α : Type} {ρ : En} {vs : List Nat} {g : PyData → En → Option En} {f : EF} {enc out : α → PyData} : ∀ {xs : List α}, (∀ x ∈ xs, ∃ ρ1 ρ3, g (enc x) ρ = some ρ1 ∧ f ρ1 = .ok (out x, ρ3) ∧ wipeE ρ3 vs = ρ) → compF vs g tYes' f (xs.map enc) ρ = .ok (xs.map out, ρ)
  | [], _ => rfl
  | x :: xs, h => by
    obtain ⟨ρ1, ρ3, e1, e3, e5⟩ := h x List.mem_cons_self
    have ih := comp_mapL (ρ := ρ) (g := g) (f := f) (vs := vs) (enc := enc) (out := out) (xs := xs) fun d hd => h d (List.mem_cons_of_mem _ hd)
    rw [List.map_cons, List.map_cons]
    unfold compF
    rw [e1]
    simp [e3, e5, ih]
theorem comp_filL {α : Type} {ρ : En} {vs : List Nat} {g : PyData → En → Option En} {t : TF} {f : EF} {enc out : α → PyData} (p : α → Bool) : ∀ {xs : List α}, (∀ x ∈ xs, ∃ ρ1 ρ2, g (enc x) ρ = some ρ1 ∧ ((p x = true ∧ t ρ1 = .ok (true, ρ2) ∧ ∃ ρ3, f ρ2 = .ok (out x, ρ3) ∧ wipeE ρ3 vs = ρ) ∨ (p x = false ∧ t ρ1 = .ok (false, ρ2) ∧ wipeE ρ2 vs = ρ))) → compF vs g t f (xs.map enc) ρ = .ok ((xs.filter p).map out, ρ)
  | [], _ => rfl
  | x :: xs, h => by
    obtain ⟨ρ1, ρ2, e1, h1⟩ := h x List.mem_cons_self
    have ih := comp_filL (ρ := ρ) (g := g) (f := f) (t := t) (vs := vs) (enc := enc) (out := out) p (xs := xs) fun d hd => h d (List.mem_cons_of_mem _ hd)
    rw [List.map_cons]
    unfold compF
    rw [e1]
    rcases h1 with ⟨hp, e2, ρ3, e3, e5⟩ | ⟨hp, e2, e5⟩
    · simp [e2, e3, e5, ih, List.filter_cons, hp]
    · simp [e2, e5, ih, List.filter_cons, hp]
/-- a loop over a list, its state along -/
theorem for_L {α : Type} {g : PyData → En → Option En} {b : SF} {enc : α → PyData} {I : List α → En → Prop} : ∀ {xs as : List α} {ρ : En}, (∀ (as' : List α) (x : α) (rest : List α) (ρ : En), as ++ xs = as' ++ x :: rest → I as' ρ → ∃ ρ1 ρ2, g (enc x) ρ = some ρ1 ∧ (b ρ1 = .nx ρ2 ∨ b ρ1 = .ct ρ2) ∧ I (as' ++ [x]) ρ2) → I as ρ →
    ∃ ρ', forF g b (xs.map enc) ρ = .nx ρ' ∧ I (as ++ xs) ρ'
  | [], as, ρ, _, hI => ⟨ρ, rfl, by rw [List.append_nil]; exact hI⟩
  | x :: xs, as, ρ, h, hI => by
    obtain ⟨ρ1, ρ2, e1, e2, hI2⟩ := h as x xs ρ rfl hI
    obtain ⟨ρ', e3, hI3⟩ := for_L (g := g) (b := b) (enc := enc) (I := I) (xs := xs) (as := as ++ [x]) (ρ := ρ2) (fun as' x' rest ρ e hi => h as' x' rest ρ (by rw [← e]; simp) hi) hI2
    refine ⟨ρ', ?_, by rw [List.append_assoc] at hI3; exact hI3⟩
    rw [List.map_cons, forF, e1]
    rcases e2 with e2 | e2 <;> simp [e2, e3]
/-- a loop over a list that ends at the first that hits, with what it tells -/
theorem for_hit {α : Type} {g : PyData → En → Option En} {b : SF} {enc : α → PyData} {I : En → Prop} {p : α → Bool} {r : α → PyData} : ∀ {xs : List α} {ρ : En}, (∀ x ∈ xs, ∀ ρ, I ρ → ∃ ρ1 ρ2, g (enc x) ρ = some ρ1 ∧ ((p x = false ∧ (b ρ1 = .nx ρ2 ∨ b ρ1 = .ct ρ2) ∧ I ρ2) ∨ (p x = true ∧ b ρ1 = .rt (r x) ρ2))) → I ρ →
    (xs.find? p = none ∧ ∃ ρ', forF g b (xs.map enc) ρ = .nx ρ' ∧ I ρ') ∨ ∃ x ρ', xs.find? p = some x ∧ forF g b (xs.map enc) ρ = .rt (r x) ρ'
  | [], ρ, _, hI => .inl ⟨rfl, ρ, rfl, hI⟩
  | x :: xs, ρ, h, hI => by
    obtain ⟨ρ1, ρ2, e1, h1⟩ := h x List.mem_cons_self ρ hI
    rcases h1 with ⟨hp, e2, hI2⟩ | ⟨hp, e2⟩
    · have ef : forF g b (enc x :: xs.map enc) ρ = forF g b (xs.map enc) ρ2 := by
        rw [forF, e1]
        rcases e2 with e2 | e2 <;> simp [e2]
      rcases for_hit (g := g) (b := b) (I := I) (p := p) (r := r) (enc := enc) (xs := xs) (ρ := ρ2) (fun y hy => h y (List.mem_cons_of_mem _ hy)) hI2 with ⟨a, ρ', e, i⟩ | ⟨y, ρ', a, e⟩
      · exact .inl ⟨by rw [List.find?_cons, hp]; exact a, ρ', by rw [List.map_cons, ef, e], i⟩
      · exact .inr ⟨y, ρ', by rw [List.find?_cons, hp]; exact a, by rw [List.map_cons, ef, e]⟩
    · exact .inr ⟨x, ρ2, by rw [List.find?_cons, hp], by rw [List.map_cons, forF, e1]; simp [e2]⟩
end
@[simp] theorem isNone_t (ds : List PyData) : isNone (.tuple ds) = false := rfl
@[simp] theorem isNone_l (ds : List PyData) : isNone (.list ds) = false := rfl
@[simp] theorem isNone_d (ds : List (PyData × PyData)) : isNone (.dict ds) = false := rfl
@[simp] theorem isNone_i (i : Int) : isNone (.int i) = false := rfl
@[simp] theorem isNone_s (i : Str) : isNone (.str i) = false := rfl
@[simp] theorem isNone_b (i : Bool) : isNone (.bool i) = false := rfl
@[simp] theorem isNone_n : isNone .none = true := rfl
end Y
namespace Y
open PySem PySem.Spec PyProof.Rows L2
/-- a comprehension whose parts may change what is around, item by item -/
theorem comp_rel {α β : Type} {vs : List Nat} {g : PyData → En → Option En} {t : TF} {f : EF} {enc : α → PyData} {enc' : β → PyData} {R : α → β → Prop} {J : Nat → En → Prop} : ∀ {xs : List α} {k : Nat} {ρ : En}, (∀ (i : Nat) x ρ, xs[i]? = some x → J (k + i) ρ → ∃ ρ1 ρ2 y ρ3, g (enc x) ρ = some ρ1 ∧ t ρ1 = .ok (true, ρ2) ∧ f ρ2 = .ok (enc' y, ρ3) ∧ R x y ∧ J (k + i + 1) (wipeE ρ3 vs)) → J k ρ →
    ∃ (ys : List β) (ρ' : En), compF vs g t f (xs.map enc) ρ = .ok (ys.map enc', ρ') ∧ ys.length = xs.length ∧ (∀ (i : Nat) x y, xs[i]? = some x → ys[i]? = some y → R x y) ∧ J (k + xs.length) ρ'
  | [], k, ρ, _, hI => ⟨[], ρ, rfl, rfl, fun i x y h => by simp at h, hI⟩
  | x :: xs, k, ρ, h, hI => by
    obtain ⟨ρ1, ρ2, y, ρ3, e1, e2, e3, q, hI2⟩ := h 0 x ρ rfl hI
    obtain ⟨ys, ρ', e4, hl, hq, hI3⟩ := comp_rel (g := g) (t := t) (f := f) (enc := enc) (enc' := enc') (R := R) (J := J) (vs := vs) (xs := xs) (k := k + 1) (ρ := wipeE ρ3 vs) (fun i d' ρ' hd hi => by
      have z := h (i + 1) d' ρ' (by simpa using hd) (by rw [show k + (i + 1) = k + 1 + i by omega]; exact hi)
      rw [show k + (i + 1) + 1 = k + 1 + i + 1 by omega] at z
      exact z) hI2
    refine ⟨y :: ys, ρ', ?_, by simp [hl], fun i a b ha hb => ?_, by rw [List.length_cons, show k + (xs.length + 1) = k + 1 + xs.length by omega]; exact hI3⟩
    · rw [List.map_cons, List.map_cons]
      unfold compF
      rw [e1]
      simp [e2, e3, e4]
    · cases i with
      | zero =>
        have h1 : x = a := by simpa using ha
        have h2 : y = b := by simpa using hb
        subst h1 h2; exact q
      | succ i => exact hq i a b (by simpa using ha) (by simpa using hb)
theorem at_last {ds : List PyData} (d : PyData) : atI (ds ++ [d]) (-1) = some d := by
  unfold atI ixN
  rw [List.length_append, List.length_singleton]
  have h2 : ¬ (0 ≤ (-1 : Int)) := by omega
  have h3 : -((ds.length + 1 : Nat) : Int) ≤ -1 := by omega
  rw [if_neg h2, if_pos h3]
  show (ds ++ [d])[((-1 : Int) + ((ds.length + 1 : Nat) : Int)).toNat]? = _
  rw [show ((-1 : Int) + ((ds.length + 1 : Nat) : Int)).toNat = ds.length by omega]
  simp
end Y


/-! YMot: motions of both grids, in plain Lean; how they are data. -/
namespace Mot
open PySem PySem.Spec PyProof.Rows L2 Y
abbrev pr (x y : Int) : PyData := .tuple [.int x, .int y]
def near (x : Int) : Prop := -1000000 ≤ x ∧ x ≤ 1000000
def gS (g : Str) : Prop := g = "square" ∨ g = "six"
def sq (t : Nat) (x y : Int) : Int × Int := match t with
  | 0 => (x, y) | 1 => (-y, x) | 2 => (-x, -y) | 3 => (y, -x) | 4 => (x, -y) | 5 => (y, x) | 6 => (-x, y) | _ => (-y, -x)
def hx (t : Nat) (x y : Int) : Int × Int := match t with
  | 0 => (x, y) | 1 => (-y, x + y) | 2 => (-x - y, x) | 3 => (-x, -y) | 4 => (y, -x - y) | 5 => (x + y, -x) | 6 => (x + y, -y) | 7 => (y, x) | 8 => (-x, x + y) | 9 => (-x - y, y) | 10 => (-y, -x) | _ => (x, -x - y)
abbrev prp (p : Int × Int) : PyData := pr p.1 p.2
/-! ### the turns as maps -/
abbrev Pt := Int × Int
def Tn (g : Str) (t : Nat) (p : Pt) : Pt := if g = "square" then sq t p.1 p.2 else hx t p.1 p.2
def MM (g : Str) : Nat := if g = "square" then 8 else 12
def adp (p q : Pt) : Pt := (p.1 + q.1, p.2 + q.2)
def ngp (p : Pt) : Pt := (-p.1, -p.2)
theorem TT_lin (g : Str) (t : Nat) (x y : Int) : Tn g t (x, y) = (x * (Tn g t (1, 0)).1 + y * (Tn g t (0, 1)).1, x * (Tn g t (1, 0)).2 + y * (Tn g t (0, 1)).2) := by
  unfold Tn
  split
  · unfold sq
    split <;> (refine Prod.ext ?_ ?_ <;> (simp; try omega))
  · unfold hx
    split <;> (refine Prod.ext ?_ ?_ <;> (simp; try omega))
theorem TT_ad (g : Str) (t : Nat) (p q : Pt) : Tn g t (adp p q) = adp (Tn g t p) (Tn g t q) := by
  obtain ⟨a, b⟩ := p
  obtain ⟨c, d⟩ := q
  unfold adp
  rw [TT_lin g t (a + c) (b + d), TT_lin g t a b, TT_lin g t c d]
  refine Prod.ext ?_ ?_ <;> (simp only; grind)
theorem TT_ng (g : Str) (t : Nat) (p : Pt) : Tn g t (ngp p) = ngp (Tn g t p) := by
  obtain ⟨a, b⟩ := p
  unfold ngp
  simp only
  rw [TT_lin g t (-a) (-b), TT_lin g t a b]
  refine Prod.ext ?_ ?_ <;> (simp only; grind)
theorem TT_0 (g : Str) (t : Nat) : Tn g t (0, 0) = (0, 0) := by
  rw [TT_lin]; simp
theorem TT_id (g : Str) (p : Pt) : Tn g 0 p = p := by
  unfold Tn
  split <;> rfl
def hit (g : Str) (s t u : Nat) : Bool := decide (Tn g u (1, 0) = Tn g t (Tn g s (1, 0)) ∧ Tn g u (0, 1) = Tn g t (Tn g s (0, 1)))
/-- one turn, then the other -/
def cmp (g : Str) (s t : Nat) : Nat := (List.range (MM g)).findIdx (hit g s t)
def ckC (g : Str) : Bool := (List.range (MM g)).all fun s => (List.range (MM g)).all fun t => decide (cmp g s t < MM g) && hit g s t (cmp g s t)
theorem ckC_all {g : Str} (h : gS g) : ckC g = true := by
  rcases h with rfl | rfl <;> decide +kernel
theorem cmp_ok {g : Str} (h : gS g) {s t : Nat} (hs : s < MM g) (ht : t < MM g) : cmp g s t < MM g ∧ hit g s t (cmp g s t) = true := by
  have c := ckC_all h
  unfold ckC at c
  simp only [List.all_eq_true, List.mem_range, Bool.and_eq_true, decide_eq_true_eq] at c
  exact c s hs t ht
theorem cmp_first {g : Str} {s t u : Nat} (h : u < cmp g s t) (hu : u < MM g) : hit g s t u = false := by
  have := List.not_of_lt_findIdx (p := hit g s t) (xs := List.range (MM g)) h
  simpa using this
def ckI (g : Str) : Bool := (List.range (MM g)).all fun s => (List.range (MM g)).all fun t => !decide (Tn g s (1, 0) = Tn g t (1, 0) ∧ Tn g s (0, 1) = Tn g t (0, 1)) || decide (s = t)
theorem ckI_all {g : Str} (h : gS g) : ckI g = true := by
  rcases h with rfl | rfl <;> decide +kernel
theorem TT_inj {g : Str} (h : gS g) {s t : Nat} (hs : s < MM g) (ht : t < MM g) (e1 : Tn g s (1, 0) = Tn g t (1, 0)) (e2 : Tn g s (0, 1) = Tn g t (0, 1)) : s = t := by
  have c := ckI_all h
  unfold ckI at c
  simp only [List.all_eq_true, List.mem_range, Bool.or_eq_true, Bool.not_eq_true', decide_eq_true_eq, decide_eq_false_iff_not] at c
  rcases c s hs t ht with z | z
  · exact absurd ⟨e1, e2⟩ z
  · exact z
theorem TT_cmp {g : Str} (h : gS g) {s t : Nat} (hs : s < MM g) (ht : t < MM g) (p : Pt) : Tn g (cmp g s t) p = Tn g t (Tn g s p) := by
  obtain ⟨_, k⟩ := cmp_ok h hs ht
  unfold hit at k
  obtain ⟨k1, k2⟩ := of_decide_eq_true k
  obtain ⟨x, y⟩ := p
  rw [TT_lin g (cmp g s t) x y, k1, k2]
  rw [TT_lin g s x y]
  rw [TT_lin g t (x * (Tn g s (1, 0)).1 + y * (Tn g s (0, 1)).1) (x * (Tn g s (1, 0)).2 + y * (Tn g s (0, 1)).2)]
  have l1 := TT_lin g t (Tn g s (1, 0)).1 (Tn g s (1, 0)).2
  have l2 := TT_lin g t (Tn g s (0, 1)).1 (Tn g s (0, 1)).2
  rw [show ((Tn g s (1, 0)).1, (Tn g s (1, 0)).2) = Tn g s (1, 0) from rfl] at l1
  rw [show ((Tn g s (0, 1)).1, (Tn g s (0, 1)).2) = Tn g s (0, 1) from rfl] at l2
  rw [l1, l2]
  refine Prod.ext ?_ ?_ <;> (simp only; grind)
theorem cmp_assoc {g : Str} (h : gS g) {r s t : Nat} (hr : r < MM g) (hs : s < MM g) (ht : t < MM g) : cmp g (cmp g r s) t = cmp g r (cmp g s t) := by
  have a := (cmp_ok h hr hs).1
  have b := (cmp_ok h hs ht).1
  refine TT_inj h (cmp_ok h a ht).1 (cmp_ok h hr b).1 ?_ ?_ <;> rw [TT_cmp h a ht, TT_cmp h hr hs, TT_cmp h hr b, TT_cmp h hs ht]
theorem M_pos (g : Str) : 0 < MM g := by unfold MM; split <;> decide
theorem cmp_0l {g : Str} (h : gS g) {t : Nat} (ht : t < MM g) : cmp g 0 t = t := by
  refine TT_inj h (cmp_ok h (M_pos g) ht).1 ht ?_ ?_ <;> rw [TT_cmp h (M_pos g) ht, TT_id]
theorem cmp_0r {g : Str} (h : gS g) {t : Nat} (ht : t < MM g) : cmp g t 0 = t := by
  refine TT_inj h (cmp_ok h ht (M_pos g)).1 ht ?_ ?_ <;> rw [TT_cmp h ht (M_pos g), TT_id]
/-- the turn back -/
def bk (g : Str) (t : Nat) : Nat := (List.range (MM g)).findIdx fun u => decide (cmp g t u = 0)
def ckB (g : Str) : Bool := (List.range (MM g)).all fun t => decide (bk g t < MM g) && (decide (cmp g t (bk g t) = 0) && decide (cmp g (bk g t) t = 0))
theorem ckB_all {g : Str} (h : gS g) : ckB g = true := by
  rcases h with rfl | rfl <;> decide +kernel
theorem bk_ok {g : Str} (h : gS g) {t : Nat} (ht : t < MM g) : bk g t < MM g ∧ cmp g t (bk g t) = 0 ∧ cmp g (bk g t) t = 0 := by
  have c := ckB_all h
  unfold ckB at c
  simp only [List.all_eq_true, List.mem_range, Bool.and_eq_true, decide_eq_true_eq] at c
  exact c t ht
theorem bk_first {g : Str} {t u : Nat} (h : u < bk g t) (hu : u < MM g) : cmp g t u ≠ 0 := by
  have := List.not_of_lt_findIdx (p := fun u => decide (cmp g t u = 0)) (xs := List.range (MM g)) h
  simpa using this
/-! ### motions -/
abbrev Mo := Nat × Pt
def mo (m : Mo) : PyData := .tuple [.int (m.1 : Nat), prp m.2]
def mul (g : Str) (a b : Mo) : Mo := (cmp g a.1 b.1, adp (Tn g b.1 a.2) b.2)
def inv (g : Str) (a : Mo) : Mo := (bk g a.1, ngp (Tn g (bk g a.1) a.2))
def one0 : Mo := (0, (0, 0))
theorem mul_lt {g : Str} (h : gS g) {a b : Mo} (ha : a.1 < MM g) (hb : b.1 < MM g) : (mul g a b).1 < MM g := (cmp_ok h ha hb).1
theorem inv_lt {g : Str} (h : gS g) {a : Mo} (ha : a.1 < MM g) : (inv g a).1 < MM g := (bk_ok h ha).1
theorem ad_assoc (p q r : Pt) : adp (adp p q) r = adp p (adp q r) := by unfold adp; refine Prod.ext ?_ ?_ <;> (simp only; omega)
theorem mul_assoc {g : Str} (h : gS g) {a b c : Mo} (ha : a.1 < MM g) (hb : b.1 < MM g) (hc : c.1 < MM g) : mul g (mul g a b) c = mul g a (mul g b c) := by
  unfold mul
  refine Prod.ext ?_ ?_
  · exact cmp_assoc h ha hb hc
  · simp only
    rw [TT_ad, TT_cmp h hb hc, ad_assoc]
theorem mul_1l {g : Str} (h : gS g) {a : Mo} (ha : a.1 < MM g) : mul g one0 a = a := by
  unfold mul one0
  refine Prod.ext ?_ ?_
  · exact cmp_0l h ha
  · simp only; rw [TT_0]; unfold adp; refine Prod.ext ?_ ?_ <;> (simp only; omega)
theorem mul_1r {g : Str} (h : gS g) {a : Mo} (ha : a.1 < MM g) : mul g a one0 = a := by
  unfold mul one0
  refine Prod.ext ?_ ?_
  · exact cmp_0r h ha
  · simp only; rw [TT_id]; unfold adp; refine Prod.ext ?_ ?_ <;> (simp only; omega)
theorem mul_inv {g : Str} (h : gS g) {a : Mo} (ha : a.1 < MM g) : mul g a (inv g a) = one0 := by
  obtain ⟨b1, b2, b3⟩ := bk_ok h ha
  unfold mul inv one0
  refine Prod.ext b2 ?_
  unfold adp ngp; refine Prod.ext ?_ ?_ <;> (simp only; omega)
theorem inv_mul {g : Str} (h : gS g) {a : Mo} (ha : a.1 < MM g) : mul g (inv g a) a = one0 := by
  obtain ⟨b1, b2, b3⟩ := bk_ok h ha
  unfold mul inv one0
  refine Prod.ext b3 ?_
  simp only
  rw [TT_ng, ← TT_cmp h b1 ha, b3, TT_id]
  unfold adp ngp; refine Prod.ext ?_ ?_ <;> (simp only; omega)
def pw (g : Str) (m : Mo) : Nat → Mo
  | 0 => one0
  | n + 1 => mul g (pw g m n) m
theorem pw_lt {g : Str} (h : gS g) {m : Mo} (hm : m.1 < MM g) : ∀ n, (pw g m n).1 < MM g
  | 0 => M_pos g
  | n + 1 => mul_lt h (pw_lt h hm n) hm
theorem pw_add {g : Str} (h : gS g) {m : Mo} (hm : m.1 < MM g) (a : Nat) : ∀ b, mul g (pw g m a) (pw g m b) = pw g m (a + b)
  | 0 => mul_1r h (pw_lt h hm a)
  | b + 1 => by
    show mul g (pw g m a) (mul g (pw g m b) m) = mul g (pw g m (a + b)) m
    rw [← mul_assoc h (pw_lt h hm a) (pw_lt h hm b) hm, pw_add h hm a b]
theorem pw_1 {g : Str} (h : gS g) {m : Mo} (hm : m.1 < MM g) : pw g m 1 = m := mul_1l h hm
theorem pw_mul {g : Str} (h : gS g) {m : Mo} (hm : m.1 < MM g) (a : Nat) : ∀ b, pw g (pw g m a) b = pw g m (a * b)
  | 0 => rfl
  | b + 1 => by
    show mul g (pw g (pw g m a) b) (pw g m a) = pw g m (a * (b + 1))
    rw [pw_mul h hm a b, pw_add h hm, Nat.mul_succ]
theorem inv_uniq {g : Str} (h : gS g) {a b : Mo} (ha : a.1 < MM g) (hb : b.1 < MM g) (e : mul g a b = one0) : b = inv g a := by
  have z := mul_assoc h (inv_lt h ha) ha hb
  rw [e, inv_mul h ha, mul_1l h hb, mul_1r h (inv_lt h ha)] at z
  exact z
theorem pw_inv {g : Str} (h : gS g) {m : Mo} (hm : m.1 < MM g) (n : Nat) : pw g (inv g m) n = inv g (pw g m n) := by
  refine inv_uniq h (pw_lt h hm n) (pw_lt h (inv_lt h hm) n) ?_
  induction n with
  | zero => exact mul_1l h (M_pos g)
  | succ n ih =>
    have hi := inv_lt h hm
    have p1 := pw_lt h hm n
    have p2 := pw_lt h hi n
    have e : pw g (inv g m) (n + 1) = mul g (inv g m) (pw g (inv g m) n) := by
      have := pw_add h hi 1 n
      rw [pw_1 h hi, Nat.add_comm] at this
      exact this.symm
    rw [e]
    show mul g (mul g (pw g m n) m) (mul g (inv g m) (pw g (inv g m) n)) = one0
    rw [mul_assoc h p1 hm (mul_lt h hi p2), ← mul_assoc h hm hi p2, mul_inv h hm, mul_1l h p2, ih]
def zp (g : Str) (m : Mo) (z : Int) : Mo := if 0 ≤ z then pw g m z.toNat else pw g (inv g m) z.natAbs
theorem zp_add1 {g : Str} (h : gS g) {s f : Mo} (hs : s.1 < MM g) (hf : f.1 < MM g) (l : Nat) : mul g (if l % 2 = 1 then mul g f s else f) (pw g (mul g s s) (l / 2)) = mul g f (pw g s l) := by
  have e2 : pw g (mul g s s) (l / 2) = pw g s (2 * (l / 2)) := by
    have : mul g s s = pw g s 2 := by
      show _ = mul g (mul g one0 s) s
      rw [mul_1l h hs]
    rw [this, pw_mul h hs]
  rw [e2]
  by_cases hl : l % 2 = 1
  · rw [if_pos hl, mul_assoc h hf hs (pw_lt h hs _)]
    have := pw_add h hs 1 (2 * (l / 2))
    rw [pw_1 h hs] at this
    rw [this, show 1 + 2 * (l / 2) = l by omega]
  · rw [if_neg hl, show 2 * (l / 2) = l by omega]
def okM (g : Str) (m : Mo) : Prop := m.1 < MM g ∧ near m.2.1 ∧ near m.2.2
theorem TT_near (g : Str) (t : Nat) {k : Int} {p : Pt} (a1 : -k ≤ p.1) (a2 : p.1 ≤ k) (b1 : -k ≤ p.2) (b2 : p.2 ≤ k) : -(2 * k) ≤ (Tn g t p).1 ∧ (Tn g t p).1 ≤ 2 * k ∧ -(2 * k) ≤ (Tn g t p).2 ∧ (Tn g t p).2 ≤ 2 * k := by
  obtain ⟨x, y⟩ := p
  simp only at a1 a2 b1 b2
  unfold Tn
  split
  · unfold sq
    split <;> (dsimp only; omega)
  · unfold hx
    split <;> (dsimp only; omega)
def bx (w : Int) (p : Pt) : Prop := -w ≤ p.1 ∧ p.1 ≤ w ∧ -w ≤ p.2 ∧ p.2 ≤ w
theorem bx.n1 {w : Int} {p : Pt} (h : bx w p) (hw : w ≤ 1000000) : near p.1 := ⟨by have := h.1; omega, by have := h.2.1; omega⟩
theorem bx.n2 {w : Int} {p : Pt} (h : bx w p) (hw : w ≤ 1000000) : near p.2 := ⟨by have := h.2.2.1; omega, by have := h.2.2.2; omega⟩
end Mot


/-! YGrp: what motions generate, in plain Lean: Schreier's way, the one form of a group. -/
namespace Mot
open PySem Lat
inductive Gen (g : Str) (ms : List Mo) : Mo → Prop
  | one : Gen g ms one0
  | step {m a : Mo} : Gen g ms m → a ∈ ms → Gen g ms (mul g m a)
  | back {m a : Mo} : Gen g ms m → a ∈ ms → Gen g ms (mul g m (inv g a))
def VM (g : Str) (ms : List Mo) : Prop := ∀ m ∈ ms, m.1 < MM g
section
variable {g : Str} {ms ns : List Mo} {m n a b : Mo}
theorem one_lt (g : Str) : one0.1 < MM g := M_pos g
theorem Gen.lt (h : gS g) (v : VM g ms) (k : Gen g ms m) : m.1 < MM g := by
  induction k with
  | one => exact M_pos g
  | step _ ha ih => exact mul_lt h ih (v _ ha)
  | back _ ha ih => exact mul_lt h ih (inv_lt h (v _ ha))
theorem inv_one (h : gS g) : inv g one0 = one0 := (inv_uniq h (M_pos g) (M_pos g) (mul_1l h (M_pos g))).symm
theorem inv_inv (h : gS g) (ha : a.1 < MM g) : inv g (inv g a) = a := (inv_uniq h (inv_lt h ha) ha (inv_mul h ha)).symm
theorem inv_rev (h : gS g) (ha : a.1 < MM g) (hb : b.1 < MM g) : inv g (mul g a b) = mul g (inv g b) (inv g a) := by
  have ia := inv_lt h ha
  have ib := inv_lt h hb
  refine (inv_uniq h (mul_lt h ha hb) (mul_lt h ib ia) ?_).symm
  rw [mul_assoc h ha hb (mul_lt h ib ia), ← mul_assoc h hb ib ia, mul_inv h hb, mul_1l h ia, mul_inv h ha]
theorem Gen.mul (h : gS g) (v : VM g ms) (km : Gen g ms m) (kn : Gen g ms n) : Gen g ms (Mot.mul g m n) := by
  induction kn with
  | one => rw [mul_1r h (km.lt h v)]; exact km
  | step kn ha ih => rw [← mul_assoc h (km.lt h v) (kn.lt h v) (v _ ha)]; exact ih.step ha
  | back kn ha ih => rw [← mul_assoc h (km.lt h v) (kn.lt h v) (inv_lt h (v _ ha))]; exact ih.back ha
theorem Gen.mem (h : gS g) (v : VM g ms) (ha : a ∈ ms) : Gen g ms a := by
  have := Gen.one.step (g := g) ha
  rwa [mul_1l h (v _ ha)] at this
theorem Gen.mem' (h : gS g) (v : VM g ms) (ha : a ∈ ms) : Gen g ms (Mot.inv g a) := by
  have := Gen.one.back (g := g) ha
  rwa [mul_1l h (inv_lt h (v _ ha))] at this
theorem Gen.inv (h : gS g) (v : VM g ms) (km : Gen g ms m) : Gen g ms (Mot.inv g m) := by
  induction km with
  | one => rw [inv_one h]; exact .one
  | step kn ha ih => rw [inv_rev h (kn.lt h v) (v _ ha)]; exact (Gen.mem' h v ha).mul h v ih
  | back kn ha ih =>
    rw [inv_rev h (kn.lt h v) (inv_lt h (v _ ha)), inv_inv h (v _ ha)]; exact (Gen.mem h v ha).mul h v ih
theorem Gen.of (h : gS g) (v : VM g ns) (k : ∀ a ∈ ms, Gen g ns a) (km : Gen g ms m) : Gen g ns m := by
  induction km with
  | one => exact .one
  | step _ ha ih => exact ih.mul h v (k _ ha)
  | back _ ha ih => exact ih.mul h v ((k _ ha).inv h v)
/-! shifts -/
theorem sh_add (h : gS g) (s t : Pt) : Mot.mul g (0, s) (0, t) = (0, adp s t) := by
  unfold Mot.mul
  refine Prod.ext (cmp_0l h (M_pos g)) ?_
  simp only [TT_id]
theorem sh_inv (h : gS g) (s : Pt) : Mot.inv g (0, s) = (0, ngp s) := by
  refine (inv_uniq h (M_pos g) (M_pos g) ?_).symm
  rw [sh_add h]
  unfold adp ngp one0
  refine Prod.ext rfl (Prod.ext ?_ ?_) <;> (simp only; omega)
/-- a motion, then a shift -/
theorem mul_sh (h : gS g) (ha : a.1 < MM g) (s : Pt) : Mot.mul g a (0, s) = (a.1, adp a.2 s) := by
  unfold Mot.mul
  refine Prod.ext (cmp_0r h ha) ?_
  simp only [TT_id]
theorem sh_mul (h : gS g) (ha : a.1 < MM g) (s : Pt) : Mot.mul g (0, s) a = (a.1, adp (Tn g a.1 s) a.2) := by
  unfold Mot.mul
  exact Prod.ext (cmp_0l h ha) rfl
/-- back, then a motion with the same turn -/
theorem inv_mul_same (h : gS g) (ha : a.1 < MM g) (e : b.1 = a.1) : Mot.mul g (Mot.inv g a) b = (0, adp b.2 (ngp a.2)) := by
  obtain ⟨b1, b2, b3⟩ := bk_ok h ha
  unfold Mot.mul Mot.inv
  refine Prod.ext ?_ ?_
  · simp only; rw [e]; exact b3
  · simp only
    rw [e, TT_ng, ← TT_cmp h b1 ha, b3, TT_id]
    unfold adp ngp; refine Prod.ext ?_ ?_ <;> (simp only; omega)
theorem mul_inv_same (h : gS g) (ha : a.1 < MM g) (e : b.1 = a.1) : (Mot.mul g b (Mot.inv g a)).1 = 0 := by
  obtain ⟨b1, b2, b3⟩ := bk_ok h ha
  show cmp g b.1 (bk g a.1) = 0
  rw [e]; exact b2
theorem conj_sh (h : gS g) (ha : a.1 < MM g) (s : Pt) : Mot.mul g (Mot.inv g a) (Mot.mul g (0, s) a) = (0, Tn g a.1 s) := by
  rw [sh_mul h ha, inv_mul_same (b := (a.1, adp (Tn g a.1 s) a.2)) h ha rfl]
  unfold adp ngp; refine Prod.ext rfl (Prod.ext ?_ ?_) <;> (simp only; omega)
theorem Gen.conj (h : gS g) (v : VM g ms) (km : Gen g ms m) {s : Pt} (ks : Gen g ms (0, s)) : Gen g ms (0, Tn g m.1 s) := by
  rw [← conj_sh h (km.lt h v)]
  exact (km.inv h v).mul h v (ks.mul h v km)
theorem Gen.addS (h : gS g) (v : VM g ms) {s t : Pt} (ks : Gen g ms (0, s)) (kt : Gen g ms (0, t)) : Gen g ms (0, (s.1 + t.1, s.2 + t.2)) := by
  have := ks.mul h v kt
  rwa [sh_add h] at this
theorem Gen.negS (h : gS g) (v : VM g ms) {s : Pt} (ks : Gen g ms (0, s)) : Gen g ms (0, (-s.1, -s.2)) := by
  have := ks.inv h v
  rwa [sh_inv h] at this
theorem Gen.sp (h : gS g) (v : VM g ms) {sh : List Pt} (k : ∀ s ∈ sh, Gen g ms (0, s)) {s : Pt} (hs : Sp sh s) : Gen g ms (0, s) := by
  induction hs with
  | zero => exact .one
  | mem hm => exact k _ hm
  | add _ _ a b => exact a.addS h v b
  | neg _ a => exact a.negS h v
/-! ### Schreier -/
/-- the turns of powers -/
def tpw (g : Str) (t : Nat) : Nat → Nat
  | 0 => 0
  | n + 1 => cmp g (tpw g t n) t
def ckP (g : Str) : Bool := (List.range (MM g)).all fun t => (List.range 12).any fun n => decide (tpw g t n = bk g t)
theorem ckP_all (h : gS g) : ckP g = true := by rcases h with rfl | rfl <;> decide +kernel
theorem tpw_bk (h : gS g) {t : Nat} (ht : t < MM g) : ∃ n, tpw g t n = bk g t := by
  have c := ckP_all h
  unfold ckP at c
  simp only [List.all_eq_true, List.mem_range, List.any_eq_true, decide_eq_true_eq] at c
  obtain ⟨n, _, e⟩ := c t ht
  exact ⟨n, e⟩
/-- what is known while the turns are gone through: t with the motions of as is at hand -/
structure Cl (g : Str) (ms fs : List Mo) (todo : List Nat) (sh : List Pt) (t : Nat) (as : List Mo) : Prop where
  nd : (fs.map (·.1)).Nodup
  z : one0 ∈ fs
  gen : ∀ f ∈ fs, Gen g ms f
  gs : ∀ s ∈ sh, Gen g ms (0, s)
  td : ∀ u ∈ todo, ∃ f ∈ fs, f.1 = u
  done : ∀ f ∈ fs, f.1 ∉ todo → ∀ a ∈ ms, (f.1 = t → a ∈ as) → ∃ f' ∈ fs, f'.1 = cmp g f.1 a.1 ∧ Sp sh (Mot.mul g (Mot.mul g f a) (Mot.inv g f')).2
theorem nd_eq {fs : List Mo} (nd : (fs.map (·.1)).Nodup) {f f' : Mo} (hf : f ∈ fs) (hf' : f' ∈ fs) (e : f.1 = f'.1) : f = f' := by
  induction fs with
  | nil => cases hf
  | cons x xs ih =>
    rw [List.map_cons, List.nodup_cons] at nd
    rcases List.mem_cons.mp hf with rfl | h1
    · rcases List.mem_cons.mp hf' with rfl | h2
      · rfl
      · exact absurd (List.mem_map.mpr ⟨f', h2, e.symm⟩) nd.1
    · rcases List.mem_cons.mp hf' with rfl | h2
      · exact absurd (List.mem_map.mpr ⟨f, h1, e⟩) nd.1
      · exact ih nd.2 h1 h2
variable {fs : List Mo} {todo : List Nat} {sh : List Pt} {t : Nat} {as : List Mo}
theorem Cl.start (g : Str) (ms : List Mo) (t : Nat) : Cl g ms [one0] [0] [] t [] where
  nd := by simp
  z := by simp
  gen := fun f hf => by rw [List.mem_singleton.mp hf]; exact .one
  gs := fun s hs => by cases hs
  td := fun u hu => by rw [List.mem_singleton.mp hu]; exact ⟨one0, by simp, rfl⟩
  done := fun f hf n => by rw [List.mem_singleton.mp hf] at n; exact absurd (by simp [one0]) n
/-- a turn is taken -/
theorem Cl.pop (c : Cl g ms fs (todo ++ [u]) sh t ms) : Cl g ms fs todo sh u [] where
  nd := c.nd
  z := c.z
  gen := c.gen
  gs := c.gs
  td := fun x hx => c.td x (List.mem_append_left _ hx)
  done := fun f hf n a ha k => by
    by_cases e : f.1 = u
    · exact absurd (k e) (by simp)
    · exact c.done f hf (by simp [n, e]) a ha fun _ => ha
/-- a motion leads to a new turn -/
theorem Cl.grow (h : gS g) (v : VM g ms) (c : Cl g ms fs todo sh t as) {f a : Mo} (hf : f ∈ fs) (ft : f.1 = t) (ha : a ∈ ms) (n : ∀ f' ∈ fs, f'.1 ≠ cmp g f.1 a.1) :
    Cl g ms (fs ++ [Mot.mul g f a]) (todo ++ [cmp g f.1 a.1]) sh t (as ++ [a]) where
  nd := by
    rw [List.map_append, List.nodup_append]
    refine ⟨c.nd, by simp, fun x hx y hy e => ?_⟩
    obtain ⟨f', hf', rfl⟩ := List.mem_map.mp hx
    simp only [List.map_cons, List.map_nil, List.mem_singleton] at hy
    exact n f' hf' (e.trans hy)
  z := List.mem_append_left _ c.z
  gen := fun x hx => by
    rcases List.mem_append.mp hx with hx | hx
    · exact c.gen x hx
    · rw [List.mem_singleton.mp hx]; exact (c.gen f hf).step ha
  gs := c.gs
  td := fun u hu => by
    rcases List.mem_append.mp hu with hu | hu
    · obtain ⟨x, hx, e⟩ := c.td u hu
      exact ⟨x, List.mem_append_left _ hx, e⟩
    · exact ⟨Mot.mul g f a, by simp, by rw [List.mem_singleton.mp hu]; rfl⟩
  done := fun x hx nx b hb k => by
    rcases List.mem_append.mp hx with hx | hx
    · by_cases e : x.1 = t ∧ b = a
      · have : x = f := nd_eq c.nd hx hf (e.1.trans ft.symm)
        rw [this] at e hx ⊢
        refine ⟨Mot.mul g f a, by simp, by rw [e.2]; rfl, ?_⟩
        have hl := mul_lt h ((c.gen f hf).lt h v) (v _ ha)
        rw [e.2, mul_inv h hl]
        exact .zero
      · obtain ⟨f', h1, h2, h3⟩ := c.done x hx (fun z => nx (List.mem_append_left _ z)) b hb fun z => by
          rcases List.mem_append.mp (k z) with z2 | z2
          · exact z2
          · exact absurd ⟨z, List.mem_singleton.mp z2⟩ e
        exact ⟨f', List.mem_append_left _ h1, h2, h3⟩
    · rw [List.mem_singleton.mp hx] at nx
      exact absurd (by simp [Mot.mul]) nx
/-- a motion leads to a turn that is known -/
theorem Cl.meet (h : gS g) (v : VM g ms) (c : Cl g ms fs todo sh t as) {f f' a : Mo} (hf : f ∈ fs) (ft : f.1 = t) (ha : a ∈ ms) (hf' : f' ∈ fs) (e' : f'.1 = cmp g f.1 a.1) :
    Cl g ms fs todo (sh ++ [(Mot.mul g (Mot.mul g f a) (Mot.inv g f')).2]) t (as ++ [a]) where
  nd := c.nd
  z := c.z
  gen := c.gen
  gs := fun s hs => by
    rcases List.mem_append.mp hs with hs | hs
    · exact c.gs s hs
    · rw [List.mem_singleton.mp hs]
      have k := ((c.gen f hf).step ha).mul h v ((c.gen f' hf').inv h v)
      have z : (Mot.mul g (Mot.mul g f a) (Mot.inv g f')).1 = 0 := mul_inv_same h ((c.gen f' hf').lt h v) e'.symm
      rw [← z]; exact k
  td := c.td
  done := fun x hx nx b hb k => by
    by_cases e : x.1 = t ∧ b = a
    · have : x = f := nd_eq c.nd hx hf (e.1.trans ft.symm)
      subst this
      exact ⟨f', hf', by rw [e.2]; exact e', by rw [e.2]; exact .mem (by simp)⟩
    · obtain ⟨f2, h1, h2, h3⟩ := c.done x hx nx b hb fun z => by
        rcases List.mem_append.mp (k z) with z2 | z2
        · exact z2
        · exact absurd ⟨z, List.mem_singleton.mp z2⟩ e
      exact ⟨f2, h1, h2, h3.mono fun w hw => .mem (List.mem_append_left _ hw)⟩
theorem Cl.follow (h : gS g) (v : VM g ms) (c : Cl g ms fs [] sh t ms) {f a : Mo} (hf : f ∈ fs) (ha : a ∈ ms) : ∀ n, ∃ f' ∈ fs, f'.1 = cmp g f.1 (tpw g a.1 n)
  | 0 => ⟨f, hf, by rw [show tpw g a.1 0 = 0 from rfl, cmp_0r h ((c.gen f hf).lt h v)]⟩
  | n + 1 => by
    obtain ⟨f1, h1, e1⟩ := Cl.follow h v c hf ha n
    obtain ⟨f2, h2, e2, _⟩ := c.done f1 h1 (by simp) a ha fun _ => ha
    have tl : ∀ n, tpw g a.1 n < MM g := fun n => by
      induction n with
      | zero => exact M_pos g
      | succ n ih => exact (cmp_ok h ih (v _ ha)).1
    exact ⟨f2, h2, by rw [e2, e1, cmp_assoc h ((c.gen f hf).lt h v) (tl n) (v _ ha)]; rfl⟩
theorem Cl.all (h : gS g) (v : VM g ms) (c : Cl g ms fs [] sh t ms) (k : Gen g ms m) : ∃ f ∈ fs, f.1 = m.1 ∧ Sp sh (Mot.mul g m (Mot.inv g f)).2 := by
  have lt : ∀ f ∈ fs, f.1 < MM g := fun f hf => (c.gen f hf).lt h v
  induction k with
  | one => exact ⟨one0, c.z, rfl, by rw [mul_inv h (M_pos g)]; exact .zero⟩
  | @step m a km ha ih =>
    obtain ⟨f, hf, e, s⟩ := ih
    obtain ⟨f', hf', e', s'⟩ := c.done f hf (by simp) a ha fun _ => ha
    refine ⟨f', hf', by rw [e', e]; rfl, ?_⟩
    have m1 := km.lt h v
    have f1 := lt f hf
    have f2 := lt f' hf'
    have i1 := inv_lt h f1
    have i2 := inv_lt h f2
    have a1 := v a ha
    have z1 : (Mot.mul g m (Mot.inv g f)).1 = 0 := mul_inv_same h f1 e.symm
    have z2 : (Mot.mul g (Mot.mul g f a) (Mot.inv g f')).1 = 0 := mul_inv_same h f2 e'.symm
    have eq : Mot.mul g (Mot.mul g m a) (Mot.inv g f') = Mot.mul g (Mot.mul g m (Mot.inv g f)) (Mot.mul g (Mot.mul g f a) (Mot.inv g f')) := by
      rw [mul_assoc h m1 i1 (mul_lt h (mul_lt h f1 a1) i2), mul_assoc h f1 a1 i2, ← mul_assoc h i1 f1 (mul_lt h a1 i2), inv_mul h f1, mul_1l h (mul_lt h a1 i2), mul_assoc h m1 a1 i2]
    rw [eq]
    rw [show Mot.mul g m (Mot.inv g f) = (0, (Mot.mul g m (Mot.inv g f)).2) from Prod.ext z1 rfl, show Mot.mul g (Mot.mul g f a) (Mot.inv g f') = (0, (Mot.mul g (Mot.mul g f a) (Mot.inv g f')).2) from Prod.ext z2 rfl, sh_add h]
    exact s.add s'
  | @back m a km ha ih =>
    obtain ⟨f, hf, e, s⟩ := ih
    have m1 := km.lt h v
    have f1 := lt f hf
    have a1 := v a ha
    obtain ⟨n, en⟩ := tpw_bk h a1
    obtain ⟨f2, hf2, e2⟩ := c.follow h v hf ha n
    rw [en] at e2
    have f2l := lt f2 hf2
    obtain ⟨f3, hf3, e3, s3⟩ := c.done f2 hf2 (by simp) a ha fun _ => ha
    obtain ⟨b1, b2, b3⟩ := bk_ok h a1
    have e4 : f3.1 = f.1 := by rw [e3, e2, cmp_assoc h f1 b1 a1, b3, cmp_0r h f1]
    have : f3 = f := nd_eq c.nd hf3 hf e4
    subst this
    refine ⟨f2, hf2, by rw [e2, e]; rfl, ?_⟩
    have i1 := inv_lt h f1
    have i2 := inv_lt h f2l
    have ia := inv_lt h a1
    have z1 : (Mot.mul g m (Mot.inv g f3)).1 = 0 := mul_inv_same h f1 e.symm
    have z2 : (Mot.mul g (Mot.mul g f2 a) (Mot.inv g f3)).1 = 0 := mul_inv_same h f1 e3.symm
    have eq : Mot.mul g (Mot.mul g m (Mot.inv g a)) (Mot.inv g f2) = Mot.mul g (Mot.mul g m (Mot.inv g f3)) (Mot.inv g (Mot.mul g (Mot.mul g f2 a) (Mot.inv g f3))) := by
      rw [inv_rev h (mul_lt h f2l a1) i1, inv_inv h f1, inv_rev h f2l a1, mul_assoc h m1 i1 (mul_lt h f1 (mul_lt h ia i2)), ← mul_assoc h i1 f1 (mul_lt h ia i2), inv_mul h f1, mul_1l h (mul_lt h ia i2), mul_assoc h m1 ia i2]
    rw [eq]
    rw [show Mot.mul g m (Mot.inv g f3) = (0, (Mot.mul g m (Mot.inv g f3)).2) from Prod.ext z1 rfl, show Mot.mul g (Mot.mul g f2 a) (Mot.inv g f3) = (0, (Mot.mul g (Mot.mul g f2 a) (Mot.inv g f3)).2) from Prod.ext z2 rfl, sh_inv h, sh_add h]
    exact s.add s3.neg
theorem Cl.shifts (h : gS g) (v : VM g ms) (c : Cl g ms fs [] sh t ms) (s : Pt) : Gen g ms (0, s) ↔ Sp sh s := by
  constructor
  · intro k
    obtain ⟨f, hf, e, q⟩ := c.all h v k
    have : f = one0 := nd_eq c.nd hf c.z e
    subst this
    rw [inv_one h, mul_1r h (M_pos g)] at q
    exact q
  · exact Gen.sp h v c.gs
end
end Mot


/-! YGrp2: the one form of a group. -/
namespace Mot
open PySem Lat
/-- the lattice and the parts of what motions generate -/
structure IsGrp (g : Str) (ms : List Mo) (p q r : Int) (ps : List Mo) : Prop where
  p0 : 0 < p
  r0 : 0 < r
  q0 : 0 ≤ q
  q1 : q < p
  lat : ∀ v, Gen g ms (0, v) ↔ InL p q r v
  box : ∀ m ∈ ps, (0 ≤ m.2.1 ∧ m.2.1 < p) ∧ 0 ≤ m.2.2 ∧ m.2.2 < r
  gen : ∀ m ∈ ps, Gen g ms m
  all : ∀ m, Gen g ms m → ∃ n ∈ ps, n.1 = m.1
  srt : ps.Pairwise fun a b => a.1 < b.1
section
variable {g : Str} {ms ns : List Mo} {m n a b : Mo} {p q r p' q' r' : Int} {ps ps' : List Mo}
/-- a cell of the box as a shift of a part -/
def bxd (p q r : Int) (m : Mo) : Mo := (m.1, inbox p q r m.2)
theorem Gen.diff (h : gS g) (v : VM g ms) (km : Gen g ms m) (kn : Gen g ms n) (e : n.1 = m.1) : Gen g ms (0, (n.2.1 - m.2.1, n.2.2 - m.2.2)) := by
  have := (km.inv h v).mul h v kn
  rw [inv_mul_same h (km.lt h v) e] at this
  have e2 : adp n.2 (ngp m.2) = (n.2.1 - m.2.1, n.2.2 - m.2.2) := by
    unfold adp ngp; refine Prod.ext ?_ ?_ <;> (simp only; omega)
  rwa [e2] at this
theorem IsGrp.mem (h : gS g) (v : VM g ms) (G : IsGrp g ms p q r ps) (hm : m.1 < MM g) : Gen g ms m ↔ bxd p q r m ∈ ps := by
  constructor
  · intro k
    obtain ⟨n, hn, e⟩ := G.all m k
    have d := (G.lat _).mp ((G.gen n hn).diff h v k e.symm)
    obtain ⟨b1, b2⟩ := G.box n hn
    have := inbox_uniq G.p0 G.r0 d b1 b2
    have e2 : bxd p q r m = n := Prod.ext e.symm this
    rw [e2]; exact hn
  · intro k
    have d := (G.lat _).mpr (inbox_diff (p := p) (q := q) (r := r) m.2)
    have := (G.gen _ k).mul h v d
    rw [mul_sh h (show (bxd p q r m).1 < MM g from hm)] at this
    have e2 : ((bxd p q r m).1, adp (bxd p q r m).2 (m.2.1 - (inbox p q r m.2).1, m.2.2 - (inbox p q r m.2).2)) = m := by
      unfold bxd adp; refine Prod.ext rfl (Prod.ext ?_ ?_) <;> (simp only; omega)
    rwa [e2] at this
theorem bxd_of (hp : 0 < p) (hr : 0 < r) (hb : (0 ≤ m.2.1 ∧ m.2.1 < p) ∧ 0 ≤ m.2.2 ∧ m.2.2 < r) : bxd p q r m = m :=
  Prod.ext rfl (inbox_uniq hp hr (by rw [Int.sub_self, Int.sub_self]; exact .zero) hb.1 hb.2)
theorem IsGrp.congr (G : IsGrp g ms p q r ps) (k : ∀ m, Gen g ms m ↔ Gen g ns m) : IsGrp g ns p q r ps :=
  ⟨G.p0, G.r0, G.q0, G.q1, fun v => (k _).symm.trans (G.lat v), G.box, fun m hm => (k m).mp (G.gen m hm), fun m km => G.all m ((k m).mpr km), G.srt⟩
theorem nd_of_srt (s : ps.Pairwise fun a b => a.1 < b.1) : ps.Nodup := s.imp fun {a b} hab e => by rw [e] at hab; exact Nat.lt_irrefl _ hab
theorem srt_ext : ∀ {ps ps' : List Mo}, (ps.Pairwise fun a b => a.1 < b.1) → (ps'.Pairwise fun a b => a.1 < b.1) → (∀ m, m ∈ ps ↔ m ∈ ps') → ps = ps'
  | [], [], _, _, _ => rfl
  | [], b :: bs, _, _, e => absurd ((e b).mpr List.mem_cons_self) (by simp)
  | a :: as, [], _, _, e => absurd ((e a).mp List.mem_cons_self) (by simp)
  | a :: as, b :: bs, s, s', e => by
    obtain ⟨s1, s2⟩ := List.pairwise_cons.mp s
    obtain ⟨t1, t2⟩ := List.pairwise_cons.mp s'
    have hab : a = b := by
      rcases List.mem_cons.mp ((e a).mp List.mem_cons_self) with z | z
      · exact z
      · rcases List.mem_cons.mp ((e b).mpr List.mem_cons_self) with w | w
        · exact w.symm
        · have := s1 b w; have := t1 a z; omega
    subst hab
    rw [srt_ext s2 t2 fun m => ?_]
    constructor
    · intro hm
      rcases List.mem_cons.mp ((e m).mp (List.mem_cons_of_mem _ hm)) with z | z
      · have := s1 m hm; rw [z] at this; exact absurd this (Nat.lt_irrefl _)
      · exact z
    · intro hm
      rcases List.mem_cons.mp ((e m).mpr (List.mem_cons_of_mem _ hm)) with z | z
      · have := t1 m hm; rw [z] at this; exact absurd this (Nat.lt_irrefl _)
      · exact z
/-- one form -/
theorem IsGrp.uniq (h : gS g) (v : VM g ms) (w : VM g ns) (G : IsGrp g ms p q r ps) (G' : IsGrp g ns p' q' r' ps') (k : ∀ m, Gen g ms m ↔ Gen g ns m) : p = p' ∧ q = q' ∧ r = r' ∧ ps = ps' := by
  have G2 := G'.congr fun m => (k m).symm
  obtain ⟨e1, e2, e3⟩ := red_uniq G.p0 G.r0 G'.p0 G'.r0 ⟨G.q0, G.q1⟩ ⟨G'.q0, G'.q1⟩ fun v => (G.lat v).symm.trans (G2.lat v)
  subst e1 e2 e3
  refine ⟨rfl, rfl, rfl, srt_ext G.srt G'.srt fun m => ?_⟩
  constructor
  · intro hm
    have := (G2.mem h v ((G.gen m hm).lt h v)).mp (G.gen m hm)
    rwa [bxd_of G.p0 G.r0 (G.box m hm)] at this
  · intro hm
    have := (G.mem h v ((G2.gen m hm).lt h v)).mp (G2.gen m hm)
    rwa [bxd_of G.p0 G.r0 (G2.box m hm)] at this
theorem IsGrp.head (h : gS g) (v : VM g ms) (G : IsGrp g ms p q r ps) : ∃ qs, ps = one0 :: qs := by
  have k := (G.mem h v (M_pos g)).mp (.one)
  have e : bxd p q r one0 = one0 := bxd_of G.p0 G.r0 ⟨⟨Int.le_refl _, G.p0⟩, Int.le_refl _, G.r0⟩
  rw [e] at k
  have S := G.srt
  cases ps with
  | nil => cases k
  | cons a as =>
    rcases List.mem_cons.mp k with z | z
    · exact ⟨as, by rw [← z]⟩
    · have := (List.pairwise_cons.mp S).1 _ z
      exact absurd this (Nat.not_lt_zero _)
/-- turns keep the lattice -/
theorem IsGrp.keep (h : gS g) (v : VM g ms) (G : IsGrp g ms p q r ps) (km : Gen g ms m) {s : Pt} (hs : InL p q r s) : InL p q r (Tn g m.1 s) :=
  (G.lat _).mp (km.conj h v ((G.lat _).mpr hs))
/-- products of parts are parts -/
theorem IsGrp.shut (h : gS g) (v : VM g ms) (G : IsGrp g ms p q r ps) (ha : a ∈ ps) (hb : b ∈ ps) : bxd p q r (Mot.mul g a b) ∈ ps := by
  have k := (G.gen a ha).mul h v (G.gen b hb)
  exact (G.mem h v (k.lt h v)).mp k
theorem IsGrp.vps (h : gS g) (v : VM g ms) (G : IsGrp g ms p q r ps) : VM g ps := fun m hm => (G.gen m hm).lt h v
/-! makers -/
def mkr (p q r : Int) (ps : List Mo) : List Mo := ps ++ [(0, (p, 0)), (0, (q, r))]
theorem IsGrp.vmk (h : gS g) (v : VM g ms) (G : IsGrp g ms p q r ps) : VM g (mkr p q r ps) := fun m hm => by
  rcases List.mem_append.mp hm with hm | hm
  · exact G.vps h v m hm
  · simp only [List.mem_cons, List.not_mem_nil, or_false] at hm
    rcases hm with rfl | rfl <;> exact M_pos g
theorem IsGrp.makers (h : gS g) (v : VM g ms) (G : IsGrp g ms p q r ps) (m : Mo) : Gen g (mkr p q r ps) m ↔ Gen g ms m := by
  have w := G.vmk h v
  constructor
  · refine fun k => k.of h v fun a ha => ?_
    rcases List.mem_append.mp ha with ha | ha
    · exact G.gen a ha
    · simp only [List.mem_cons, List.not_mem_nil, or_false] at ha
      rcases ha with rfl | rfl
      · exact (G.lat _).mpr (inL_e1 p q r)
      · exact (G.lat _).mpr (inL_e2 p q r)
  · intro k
    have hl := k.lt h v
    have hb := (G.mem h v hl).mp k
    have k1 : Gen g (mkr p q r ps) (bxd p q r m) := Gen.mem h w (List.mem_append_left _ hb)
    have k2 : Gen g (mkr p q r ps) (0, (m.2.1 - (inbox p q r m.2).1, m.2.2 - (inbox p q r m.2).2)) := by
      refine Gen.sp h w (sh := [(p, 0), (q, r)]) (fun s hs => ?_) ?_
      · simp only [List.mem_cons, List.not_mem_nil, or_false] at hs
        rcases hs with rfl | rfl <;> exact Gen.mem h w (by simp [mkr])
      · obtain ⟨x, y, e⟩ := inbox_diff (p := p) (q := q) (r := r) m.2
        rw [e]
        have := (Sp.mem (vs := [(p, 0), (q, r)]) (v := (p, 0)) (by simp)).comb (Sp.mem (vs := [(p, 0), (q, r)]) (v := (q, r)) (by simp)) x y
        simpa using this
    have := k1.mul h w k2
    rw [mul_sh h (show (bxd p q r m).1 < MM g from hl)] at this
    have e2 : ((bxd p q r m).1, adp (bxd p q r m).2 (m.2.1 - (inbox p q r m.2).1, m.2.2 - (inbox p q r m.2).2)) = m := by
      unfold bxd adp; refine Prod.ext rfl (Prod.ext ?_ ?_) <;> (simp only; omega)
    rwa [e2] at this
/-! seen after a motion -/
def cj (g : Str) (b m : Mo) : Mo := Mot.mul g (Mot.mul g (Mot.inv g b) m) b
theorem cj_lt (h : gS g) (hb : b.1 < MM g) (hm : m.1 < MM g) : (cj g b m).1 < MM g := mul_lt h (mul_lt h (inv_lt h hb) hm) hb
theorem cj_mul (h : gS g) (hb : b.1 < MM g) (hm : m.1 < MM g) (hn : n.1 < MM g) : cj g b (Mot.mul g m n) = Mot.mul g (cj g b m) (cj g b n) := by
  have i := inv_lt h hb
  unfold cj
  rw [mul_assoc h (mul_lt h i hm) hb (mul_lt h (mul_lt h i hn) hb), ← mul_assoc h hb (mul_lt h i hn) hb, ← mul_assoc h hb i hn, mul_inv h hb, mul_1l h hn, ← mul_assoc h i hm hn, mul_assoc h (mul_lt h i hm) hn hb]
theorem cj_one (h : gS g) (hb : b.1 < MM g) : cj g b one0 = one0 := by
  unfold cj; rw [mul_1r h (inv_lt h hb), inv_mul h hb]
theorem cj_inv (h : gS g) (hb : b.1 < MM g) (hm : m.1 < MM g) : cj g b (Mot.inv g m) = Mot.inv g (cj g b m) := by
  refine inv_uniq h (cj_lt h hb hm) (cj_lt h hb (inv_lt h hm)) ?_
  rw [← cj_mul h hb hm (inv_lt h hm), mul_inv h hm, cj_one h hb]
theorem cj_cj (h : gS g) (hb : b.1 < MM g) (hm : m.1 < MM g) : cj g b (cj g (Mot.inv g b) m) = m := by
  have i := inv_lt h hb
  unfold cj
  rw [inv_inv h hb, ← mul_assoc h i (mul_lt h hb hm) i, ← mul_assoc h i hb hm, inv_mul h hb, mul_1l h hm, mul_assoc h hm i hb, inv_mul h hb, mul_1r h hm]
theorem cj_cj' (h : gS g) (hb : b.1 < MM g) (hm : m.1 < MM g) : cj g (Mot.inv g b) (cj g b m) = m := by
  have := cj_cj h (inv_lt h hb) hm
  rwa [inv_inv h hb] at this
theorem Gen.cj (h : gS g) (v : VM g ms) (hb : b.1 < MM g) (km : Gen g ms m) : Gen g (ms.map (Mot.cj g b)) (Mot.cj g b m) := by
  induction km with
  | one => rw [cj_one h hb]; exact .one
  | step k ha ih => rw [cj_mul h hb (k.lt h v) (v _ ha)]; exact ih.step (List.mem_map.mpr ⟨_, ha, rfl⟩)
  | back k ha ih => rw [cj_mul h hb (k.lt h v) (inv_lt h (v _ ha)), cj_inv h hb (v _ ha)]; exact ih.back (List.mem_map.mpr ⟨_, ha, rfl⟩)
theorem vm_cj (h : gS g) (v : VM g ms) (hb : b.1 < MM g) : VM g (ms.map (Mot.cj g b)) := fun m hm => by
  obtain ⟨x, hx, rfl⟩ := List.mem_map.mp hm
  exact cj_lt h hb (v x hx)
theorem Gen.cj_iff (h : gS g) (v : VM g ms) (hb : b.1 < MM g) (hm : m.1 < MM g) : Gen g (ms.map (Mot.cj g b)) (Mot.cj g b m) ↔ Gen g ms m := by
  refine ⟨fun k => ?_, fun k => k.cj h v hb⟩
  have := k.cj h (vm_cj h v hb) (inv_lt h hb)
  rw [cj_cj' h hb hm, List.map_map] at this
  have e : List.map (Mot.cj g (Mot.inv g b) ∘ Mot.cj g b) ms = ms := by
    have : List.map (Mot.cj g (Mot.inv g b) ∘ Mot.cj g b) ms = List.map id ms := List.map_congr_left fun x hx => cj_cj' h hb (v x hx)
    rw [this, List.map_id]
  rwa [e] at this
/-- seen after one of its own -/
theorem Gen.own (h : gS g) (v : VM g ms) (kb : Gen g ms b) (hm : m.1 < MM g) : Gen g ms (Mot.cj g b m) ↔ Gen g ms m := by
  have hb := kb.lt h v
  refine ⟨fun k => ?_, fun k => ((kb.inv h v).mul h v k).mul h v kb⟩
  have := ((kb.mul h v k).mul h v (kb.inv h v))
  have e : Mot.mul g (Mot.mul g b (Mot.cj g b m)) (Mot.inv g b) = m := by
    have := cj_cj' h hb hm
    unfold Mot.cj at this ⊢
    rwa [inv_inv h hb] at this
  rwa [e] at this
theorem cj_sh (h : gS g) (hb : b.1 < MM g) (s : Pt) : Mot.cj g b (0, s) = (0, Tn g b.1 s) := by
  unfold Mot.cj
  rw [mul_assoc h (inv_lt h hb) (M_pos g) hb]
  exact conj_sh h hb s
/-! areas -/
def dt (g : Str) (t : Nat) : Int := det (Tn g t (1, 0)) (Tn g t (0, 1))
def ckD (g : Str) : Bool := (List.range (MM g)).all fun t => decide ((dt g t).natAbs = 1)
theorem ckD_all (h : gS g) : ckD g = true := by rcases h with rfl | rfl <;> decide +kernel
theorem dt_one (h : gS g) {t : Nat} (ht : t < MM g) : (dt g t).natAbs = 1 := by
  have c := ckD_all h
  unfold ckD at c
  simp only [List.all_eq_true, List.mem_range, decide_eq_true_eq] at c
  exact c t ht
theorem det_Tn (g : Str) (t : Nat) (u v : Pt) : det (Tn g t u) (Tn g t v) = dt g t * det u v := by
  obtain ⟨a, b⟩ := u
  obtain ⟨c, d⟩ := v
  unfold dt
  rw [TT_lin g t a b, TT_lin g t c d]
  generalize Tn g t (1, 0) = x
  generalize Tn g t (0, 1) = y
  unfold det
  grind
/-- a lattice seen after a turn has the same area -/
theorem area_Tn (h : gS g) {t : Nat} (ht : t < MM g) (hp : 0 < p) (hr : 0 < r) (hp' : 0 < p') (hr' : 0 < r') (hq' : 0 ≤ q' ∧ q' < p') (k : ∀ v, InL p' q' r' (Tn g t v) ↔ InL p q r v) : p' * r' = p * r := by
  obtain ⟨b1, b2, b3⟩ := bk_ok h ht
  have tb : ∀ v, Tn g t (Tn g (bk g t) v) = v := fun v => by rw [← TT_cmp h b1 ht, b3, TT_id]
  have R : IsRed [Tn g t (p, 0), Tn g t (q, r)] p' q' r' := by
    have sp : ∀ v, InL p' q' r' v → Sp [Tn g t (p, 0), Tn g t (q, r)] v := fun v hv => by
      have := (k (Tn g (bk g t) v)).mp (by rw [tb]; exact hv)
      obtain ⟨x, y, e⟩ := this
      have e2 : v = Tn g t (x * p + y * q, y * r) := by rw [← e, tb]
      rw [e2]
      have := (Sp.mem (vs := [Tn g t (p, 0), Tn g t (q, r)]) (v := Tn g t (p, 0)) (by simp)).comb (Sp.mem (vs := [Tn g t (p, 0), Tn g t (q, r)]) (v := Tn g t (q, r)) (by simp)) x y
      have e3 : Tn g t (x * p + y * q, y * r) = (x * (Tn g t (p, 0)).1 + y * (Tn g t (q, r)).1, x * (Tn g t (p, 0)).2 + y * (Tn g t (q, r)).2) := by
        rw [TT_lin g t (x * p + y * q) (y * r), TT_lin g t p 0, TT_lin g t q r]
        refine Prod.ext ?_ ?_ <;> (simp only; grind)
      rw [e3]; exact this
    refine ⟨by omega, by omega, sp _ (inL_e1 _ _ _), sp _ (inL_e2 _ _ _), fun v hv => ?_, fun _ => hq'⟩
    simp only [List.mem_cons, List.not_mem_nil, or_false] at hv
    rcases hv with rfl | rfl
    · exact (k _).mpr (inL_e1 _ _ _)
    · exact (k _).mpr (inL_e2 _ _ _)
  have a := area_eq R
  have m : minG [Tn g t (p, 0), Tn g t (q, r)] 0 = (det (Tn g t (p, 0)) (Tn g t (q, r))).natAbs := by
    show Nat.gcd 0 _ = _
    rw [Nat.gcd_zero_left]
  rw [m, det_Tn, Int.natAbs_mul, dt_one h ht, Nat.one_mul] at a
  have d : det (p, 0) (q, r) = p * r := by unfold det; grind
  rw [d] at a
  have : 0 < p * r := Int.mul_pos hp hr
  omega
theorem IsGrp.moved (h : gS g) (v : VM g ms) (G : IsGrp g ms p q r ps) (hb : b.1 < MM g) (G' : IsGrp g (ms.map (Mot.cj g b)) p' q' r' ps') : p' * r' = p * r :=
  area_Tn h hb G.p0 G.r0 G'.p0 G'.r0 ⟨G'.q0, G'.q1⟩ fun s => by
    rw [← G'.lat, ← G.lat, ← cj_sh h hb, Gen.cj_iff h v hb (M_pos g)]
/-! turns -/
/-- both have as many parts -/
theorem nd_turns (s : ps.Pairwise fun a b => a.1 < b.1) : (ps.map (·.1)).Nodup := by
  rw [List.Nodup, List.pairwise_map]
  exact s.imp fun {a b} hab e => by rw [e] at hab; exact Nat.lt_irrefl _ hab
theorem IsGrp.turns (h : gS g) (v : VM g ms) (G : IsGrp g ms p q r ps) (t : Nat) : t ∈ ps.map (·.1) ↔ ∃ m, Gen g ms m ∧ m.1 = t := by
  constructor
  · intro k
    obtain ⟨m, hm, e⟩ := List.mem_map.mp k
    exact ⟨m, G.gen m hm, e⟩
  · rintro ⟨m, k, rfl⟩
    obtain ⟨n, hn, e⟩ := G.all m k
    exact List.mem_map.mpr ⟨n, hn, e⟩
theorem IsGrp.len_moved (h : gS g) (v : VM g ms) (G : IsGrp g ms p q r ps) (hb : b.1 < MM g) (G' : IsGrp g (ms.map (Mot.cj g b)) p' q' r' ps') : ps'.length = ps.length := by
  have w := vm_cj h v hb
  have ib := inv_lt h hb
  have n1 := nd_turns G.srt
  have n2 := nd_turns G'.srt
  let f : Nat → Nat := fun t => cmp g (cmp g (bk g b.1) t) b.1
  have hl : ∀ {t}, t ∈ ps.map (·.1) → t < MM g := fun {t} ht => by
    obtain ⟨m, k, rfl⟩ := (G.turns h v t).mp ht
    exact k.lt h v
  have inj : ∀ x ∈ ps.map (·.1), ∀ y ∈ ps.map (·.1), f x = f y → x = y := fun x hx y hy e => by
    have a1 := cj_cj' h hb (m := (x, (0, 0))) (hl hx)
    have a2 := cj_cj' h hb (m := (y, (0, 0))) (hl hy)
    have e1 := congrArg Prod.fst a1
    have e2 := congrArg Prod.fst a2
    have e3 : (cj g (Mot.inv g b) (cj g b (x, (0, 0)))).1 = (cj g (Mot.inv g b) (cj g b (y, (0, 0)))).1 := by
      show cmp g (cmp g _ (f x)) _ = cmp g (cmp g _ (f y)) _
      rw [e]
    rw [e1, e2] at e3
    exact e3
  have nd : ((ps.map (·.1)).map f).Nodup := by
    rw [List.Nodup, List.pairwise_map]
    exact n1.imp_of_mem fun {x y} hx hy hne e => hne (inj x hx y hy e)
  have pm : ((ps.map (·.1)).map f).Perm (ps'.map (·.1)) := by
    rw [List.perm_ext_iff_of_nodup nd n2]
    intro t
    rw [G'.turns h w]
    constructor
    · intro ht
      obtain ⟨x, hx, rfl⟩ := List.mem_map.mp ht
      obtain ⟨m, k, rfl⟩ := (G.turns h v x).mp hx
      exact ⟨_, k.cj h v hb, rfl⟩
    · rintro ⟨m, k, rfl⟩
      have ml := k.lt h w
      have k2 : Gen g ms (cj g (Mot.inv g b) m) := by
        rw [← Gen.cj_iff h v hb (cj_lt h ib ml), cj_cj h hb ml]; exact k
      refine List.mem_map.mpr ⟨(cj g (Mot.inv g b) m).1, (G.turns h v _).mpr ⟨_, k2, rfl⟩, ?_⟩
      have := congrArg Prod.fst (cj_cj h hb ml)
      exact this
  have := pm.length_eq
  simpa using this.symm
end
end Mot


/-! YMotD: motions as data: comparisons, shapes. -/
namespace Mot
open PySem PySem.Spec PyProof.Rows L2 Y
theorem mo_inj {a b : Mo} (h : mo a = mo b) : a = b := by
  unfold mo at h
  simp only [PyData.tuple.injEq, List.cons.injEq, PyData.int.injEq, and_true] at h
  exact Prod.ext (by omega) (Prod.ext h.2.1 h.2.2)
theorem sh_mo (m : Mo) : SeqAt.shaped (mo m) = true := by
  unfold SeqAt.shaped mo
  simp [PyData.canLay0, PyData.canLayAll0, PyData.depth, PyData.depthAll]
theorem eqv_mo (a b : Mo) : PyData.eqv (mo a) (mo b) = decide (a = b) := by
  unfold mo
  simp only [PyData.eqv, PyData.eqvAll]
  have e : ((a.1 : Int) = (b.1 : Int)) ↔ a.1 = b.1 := Int.ofNat_inj
  by_cases h1 : a.1 = b.1 <;> by_cases h2 : a.2.1 = b.2.1 <;> by_cases h3 : a.2.2 = b.2.2
  all_goals simp [e, h1, h2, h3, Prod.ext_iff]
theorem eq_mo (a b : Mo) : gEq (mo a) (mo b) = some (.bool (decide (a = b))) := by
  rw [gEq_sh (sh_mo a) (sh_mo b), eqv_mo]
theorem ne_mo (a b : Mo) : gNe (mo a) (mo b) = some (.bool (!decide (a = b))) := by
  rw [gNe_sh2 (sh_mo a) (sh_mo b), eqv_mo]
theorem sh_mos (ms : List Mo) : PyData.canLayAll0 (ms.map mo) = true ∧ PyData.depthAll (ms.map mo) ≤ 3 := by
  induction ms with
  | nil => exact ⟨rfl, Nat.zero_le _⟩
  | cons a as ih =>
    simp only [List.map_cons]
    refine ⟨?_, ?_⟩
    · simp [PyData.canLayAll0, ih.1, mo, PyData.canLay0]
    · simp [PyData.depthAll, mo, PyData.depth]; omega
theorem eqv_mos : ∀ as bs : List Mo, PyData.eqvAll (as.map mo) (bs.map mo) = decide (as = bs)
  | [], [] => rfl
  | [], b :: bs => by simp [PyData.eqvAll]
  | a :: as, [] => by simp [PyData.eqvAll]
  | a :: as, b :: bs => by
    have h := eqv_mos as bs
    have h2 := eqv_mo a b
    simp only [List.map_cons, PyData.eqvAll, h, h2]
    by_cases e1 : a = b <;> by_cases e2 : as = bs <;> simp [e1, e2]
/-- a group -/
def grp (g : Str) (p q r : Int) (ps : List Mo) : PyData := .tuple [.str g, .tuple [.int p, .int q, .int r], .tuple (ps.map mo)]
theorem strOk_g {g : Str} (hg : gS g) : PyData.strOk g = true := by rcases hg with rfl | rfl <;> kernel_rfl
theorem sh_grp {g : Str} (hg : gS g) (p q r : Int) (ps : List Mo) : SeqAt.shaped (grp g p q r ps) = true := by
  have h := sh_mos ps
  unfold SeqAt.shaped grp
  simp only [PyData.canLay0, PyData.canLayAll0, PyData.depth, PyData.depthAll, h.1]
  have := h.2
  simp [strOk_g hg]
  omega
theorem eqv_str (a b : Str) : PyData.eqv (.str a) (.str b) = decide (a = b) := by
  simp only [PyData.eqv]
  exact Bool.eq_iff_iff.mpr (by simp)
theorem eqv_grp (g g' : Str) (p q r p' q' r' : Int) (ps ps' : List Mo) : PyData.eqv (grp g p q r ps) (grp g' p' q' r' ps') = decide (g = g' ∧ (p = p' ∧ q = q' ∧ r = r') ∧ ps = ps') := by
  unfold grp
  have h := eqv_mos ps ps'
  simp only [PyData.eqv, PyData.eqvAll, h, eqv_str]
  by_cases h0 : g = g' <;> by_cases h1 : p = p' <;> by_cases h2 : q = q' <;> by_cases h3 : r = r' <;> by_cases h4 : ps = ps' <;> simp [h0, h1, h2, h3, h4]
theorem eq_grp {g g' : Str} (hg : gS g) (hg' : gS g') (p q r p' q' r' : Int) (ps ps' : List Mo) : gEq (grp g p q r ps) (grp g' p' q' r' ps') = some (.bool (decide (g = g' ∧ (p = p' ∧ q = q' ∧ r = r') ∧ ps = ps'))) := by
  rw [gEq_sh (sh_grp hg ..) (sh_grp hg' ..), eqv_grp]
theorem ne_grp {g g' : Str} (hg : gS g) (hg' : gS g') (p q r p' q' r' : Int) (ps ps' : List Mo) : gNe (grp g p q r ps) (grp g' p' q' r' ps') = some (.bool (!decide (g = g' ∧ (p = p' ∧ q = q' ∧ r = r') ∧ ps = ps'))) := by
  rw [gNe_sh2 (sh_grp hg ..) (sh_grp hg' ..), eqv_grp]
/-! a motion for each turn, in a dict -/
def ent (f : Mo) : PyData × PyData := (.int (f.1 : Nat), mo f)
theorem lk_nat (es : List (PyData × PyData)) (p : PyData × PyData) (t : Nat) : lkD (p :: es) (.inl (.inl (t : Int))) = if kc p.1 = some (.inl (.inl (t : Int))) then some p.2 else lkD es (.inl (.inl (t : Int))) := lk_cons
theorem lk_none : ∀ {fs : List Mo} {t : Nat}, (∀ f ∈ fs, f.1 ≠ t) → lkD (fs.map ent) (.inl (.inl (t : Int))) = none
  | [], _, _ => rfl
  | f :: fs, t, h => by
    rw [List.map_cons, lk_cons, lk_none fun x hx => h x (List.mem_cons_of_mem _ hx), if_neg]
    show ¬ (kc (PyData.int (f.1 : Nat)) = _)
    have := h f List.mem_cons_self
    simp
    omega
theorem lk_some : ∀ {fs : List Mo} {f : Mo}, (fs.map (·.1)).Nodup → f ∈ fs → lkD (fs.map ent) (.inl (.inl ((f.1 : Nat) : Int))) = some (mo f)
  | [], _, _, h => by cases h
  | a :: fs, f, nd, h => by
    rw [List.map_cons, lk_cons]
    by_cases e : a.1 = f.1
    · have : a = f := nd_eq nd List.mem_cons_self h e
      subst this
      rw [if_pos (show kc (ent a).1 = some (Sum.inl (Sum.inl ((a.1 : Nat) : Int))) from rfl)]; rfl
    · rw [if_neg (by show ¬ (kc (PyData.int (a.1 : Nat)) = _); simp; omega)]
      rw [List.map_cons, List.nodup_cons] at nd
      rcases List.mem_cons.mp h with z | z
      · exact absurd (by rw [z]) e
      · exact lk_some nd.2 z
theorem kind_fd (fs : List Mo) (t : Int) : kindOk (fs.map ent) (.inl (.inl t)) = true := by
  unfold kindOk
  rw [List.all_eq_true]
  intro p hp
  obtain ⟨f, _, rfl⟩ := List.mem_map.mp hp
  rfl
theorem keyed_fd (fs : List Mo) : isKeyed (fs.map ent) = false := by cases fs <;> rfl
theorem put_new {fs : List Mo} {f : Mo} (h : ∀ x ∈ fs, x.1 ≠ f.1) : putD (fs.map ent) (.int ((f.1 : Nat) : Int)) (.inl (.inl ((f.1 : Nat) : Int))) (mo f) = (fs ++ [f]).map ent := by
  unfold putD
  rw [if_neg, List.map_append]
  · rfl
  · intro z
    obtain ⟨p, hp, e⟩ := List.any_eq_true.mp z
    obtain ⟨x, hx, rfl⟩ := List.mem_map.mp hp
    have e := of_decide_eq_true e
    have e : kc (PyData.int (x.1 : Nat)) = some (.inl (.inl ((f.1 : Nat) : Int))) := e
    simp at e
    have := h x hx
    omega
theorem nin_fd_t {fs : List Mo} {t : Nat} (h : ∀ f ∈ fs, f.1 ≠ t) : gNotInE (.int (t : Nat)) (.dict (fs.map ent)) = some (.bool true) := by
  show (if isKeyed (fs.map ent) = true then _ else gNotInD (.int (t : Nat)) (.dict (fs.map ent))) = _
  rw [keyed_fd, if_neg (by simp)]
  show (kc (PyData.int (t : Nat))).bind (fun c => if kindOk (fs.map ent) c = true then some (PyData.bool (!(lkD (fs.map ent) c).isSome)) else none) = _
  show (if kindOk (fs.map ent) (.inl (.inl (t : Int))) = true then some (PyData.bool (!(lkD (fs.map ent) (.inl (.inl (t : Int)))).isSome)) else none) = _
  rw [kind_fd, lk_none h]; rfl
theorem nin_fd_f {fs : List Mo} {f : Mo} (nd : (fs.map (·.1)).Nodup) (h : f ∈ fs) : gNotInE (.int (f.1 : Nat)) (.dict (fs.map ent)) = some (.bool false) := by
  show (if isKeyed (fs.map ent) = true then _ else gNotInD (.int (f.1 : Nat)) (.dict (fs.map ent))) = _
  rw [keyed_fd, if_neg (by simp)]
  show (if kindOk (fs.map ent) (.inl (.inl ((f.1 : Nat) : Int))) = true then some (PyData.bool (!(lkD (fs.map ent) (.inl (.inl ((f.1 : Nat) : Int)))).isSome)) else none) = _
  rw [kind_fd, lk_some nd h]; rfl
theorem ix_fd {fs : List Mo} {f : Mo} (nd : (fs.map (·.1)).Nodup) (h : f ∈ fs) : gIxD (.dict (fs.map ent)) (.int (f.1 : Nat)) = some (mo f) := by
  have := lk_some nd h
  show (match kc (PyData.int (f.1 : Nat)) with | some c => lkD (fs.map ent) c | none => none) = _
  exact this
theorem keys_fd : ∀ fs : List Mo, intKeys (fs.map ent) = some (fs.map fun f => ((f.1 : Nat) : Int))
  | [] => rfl
  | f :: fs => by
    show (intKeys (fs.map ent)).map (((f.1 : Nat) : Int) :: ·) = _
    rw [keys_fd fs]; rfl
/-! sizes: the turns keep them -/
def nb (g : Str) (W : Int) (p : Pt) : Prop := (-W ≤ p.1 ∧ p.1 ≤ W) ∧ (-W ≤ p.2 ∧ p.2 ≤ W) ∧ (g ≠ "square" → -W ≤ p.1 + p.2 ∧ p.1 + p.2 ≤ W)
theorem nb_TT {g : Str} {W : Int} {p : Pt} (t : Nat) (h : nb g W p) : nb g W (Tn g t p) := by
  obtain ⟨h1, h2, h3⟩ := h
  unfold Tn
  by_cases hg : g = "square"
  · rw [if_pos hg]
    unfold sq
    split <;> (refine ⟨?_, ?_, fun z => absurd hg z⟩ <;> (simp only; omega))
  · rw [if_neg hg]
    have h3 := h3 hg
    unfold hx
    split <;> (refine ⟨?_, ?_, fun _ => ?_⟩ <;> (simp only; omega))
theorem nb_ad {g : Str} {W V : Int} {p q : Pt} (h : nb g W p) (k : nb g V q) : nb g (W + V) (adp p q) := by
  obtain ⟨h1, h2, h3⟩ := h
  obtain ⟨k1, k2, k3⟩ := k
  unfold adp
  refine ⟨?_, ?_, fun z => ?_⟩
  · simp only; omega
  · simp only; omega
  · have := h3 z; have := k3 z; simp only; omega
theorem nb_ng {g : Str} {W : Int} {p : Pt} (h : nb g W p) : nb g W (ngp p) := by
  obtain ⟨h1, h2, h3⟩ := h
  unfold ngp
  refine ⟨?_, ?_, fun z => ?_⟩
  · simp only; omega
  · simp only; omega
  · have := h3 z; simp only; omega
theorem nb.le {g : Str} {W V : Int} {p : Pt} (h : nb g W p) (k : W ≤ V) : nb g V p := by
  obtain ⟨h1, h2, h3⟩ := h
  refine ⟨?_, ?_, fun z => ?_⟩
  · omega
  · omega
  · have := h3 z; omega
theorem nb_bx {g : Str} {W : Int} {p : Pt} (h : bx W p) : nb g (2 * W) p := by
  unfold bx at h
  refine ⟨?_, ?_, fun _ => ?_⟩ <;> omega
theorem nb_0 (g : Str) {W : Int} (h : 0 ≤ W) : nb g W (0, 0) := ⟨⟨by simp only; omega, h⟩, ⟨by simp only; omega, h⟩, fun _ => ⟨by simp only; omega, by simp only; omega⟩⟩
theorem nb_mul {g : Str} {W V : Int} {a b : Mo} (h : nb g W a.2) (k : nb g V b.2) : nb g (W + V) (mul g a b).2 := nb_ad (nb_TT b.1 h) k
theorem nb_inv {g : Str} {W : Int} {a : Mo} (h : nb g W a.2) : nb g W (inv g a).2 := nb_ng (nb_TT _ h)
@[simp] theorem ix_mo0 (m : Mo) : gIxD (mo m) (.int 0) = some (.int (m.1 : Nat)) := by unfold mo; simp
@[simp] theorem ix_mo1 (m : Mo) : gIxD (mo m) (.int 1) = some (prp m.2) := by unfold mo; simp
@[simp] theorem dct_mo (m : Mo) : isDct (mo m) = false := rfl
@[simp] theorem ix_pr0 (x y : Int) : gIxD (pr x y) (.int 0) = some (.int x) := by simp [pr]
@[simp] theorem ix_pr1 (x y : Int) : gIxD (pr x y) (.int 1) = some (.int y) := by simp [pr]
theorem app_ok {ds : List PyData} {d : PyData} (h : ds.length < 1000000) : gApp (.list ds) [d] = some (.none, .list (ds ++ [d])) := by
  show (if ds.length < 1000000 then some (PyData.none, PyData.list (ds ++ [d])) else none) = _
  rw [if_pos h]
theorem pop_ok (ds : List PyData) (d : PyData) : gPop (.list (ds ++ [d])) [] = some (d, .list ds) := by
  unfold gPop; simp
theorem nd_len {fs : List Mo} {n : Nat} (nd : (fs.map (·.1)).Nodup) (lt : ∀ f ∈ fs, f.1 < n) : fs.length ≤ n := by
  have := nd.length_le_of_subset (l₂ := List.range n) fun x hx => by
    obtain ⟨f, hf, rfl⟩ := List.mem_map.mp hx
    exact List.mem_range.mpr (lt f hf)
  simpa using this
theorem MM12 (g : Str) : MM g ≤ 12 := by unfold MM; split <;> decide
theorem Cl.len {g : Str} (h : gS g) {ms fs : List Mo} (v : VM g ms) {todo : List Nat} {sh : List Pt} {t : Nat} {as : List Mo} (c : Cl g ms fs todo sh t as) : fs.length ≤ MM g := nd_len c.nd fun f hf => (c.gen f hf).lt h v
def fdD (fs : List Mo) : PyData := .dict (fs.map ent)
def tdD (ts : List Nat) : PyData := .list (ts.map fun t => .int ((t : Nat) : Int))
def shD (ss : List Pt) : PyData := .list (ss.map prp)
theorem ne_tdD (ts : List Nat) : gNe (tdD ts) (.list []) = some (.bool (!decide (ts = []))) := by
  have e := neTI
  unfold tdD
  have h1 := sh_lstI (ts.map fun t => ((t : Nat) : Int))
  rw [List.map_map] at h1
  have h1 : SeqAt.shaped (.list (ts.map fun t => PyData.int ((t : Nat) : Int))) = true := h1
  rw [gNe_sh2 h1 (show SeqAt.shaped (.list []) = true from sh_lstI [])]
  cases ts <;> simp [PyData.eqv, PyData.eqvAll]
theorem app_td {ts : List Nat} {t : Nat} (h : ts.length < 1000000) : gApp (tdD ts) [.int (t : Nat)] = some (.none, tdD (ts ++ [t])) := by
  unfold tdD; rw [app_ok (by simpa using h)]; simp
theorem pop_td (ts : List Nat) (t : Nat) : gPop (tdD (ts ++ [t])) [] = some (.int (t : Nat), tdD ts) := by
  have : tdD (ts ++ [t]) = .list ((ts.map fun t => PyData.int ((t : Nat) : Int)) ++ [.int (t : Nat)]) := by unfold tdD; simp
  rw [this, pop_ok]; rfl
theorem app_sh {ss : List Pt} {s : Pt} (h : ss.length < 1000000) : gApp (shD ss) [prp s] = some (.none, shD (ss ++ [s])) := by
  unfold shD; rw [app_ok (by simpa using h)]; simp
@[simp] theorem lst_td (ts : List Nat) : isLst (tdD ts) = true := rfl
@[simp] theorem lst_sh (ts : List Pt) : isLst (shD ts) = true := rfl
@[simp] theorem dct_fd (fs : List Mo) : isDct (fdD fs) = true := rfl
theorem ix_fdD {fs : List Mo} {f : Mo} (nd : (fs.map (·.1)).Nodup) (h : f ∈ fs) : gIxD (fdD fs) (.int (f.1 : Nat)) = some (mo f) := ix_fd nd h
/-- a motion of a list, by its turn -/
theorem findT {fs : List Mo} (t : Nat) : (∃ f ∈ fs, f.1 = t) ∨ ∀ f ∈ fs, f.1 ≠ t := by
  by_cases h : ∃ f ∈ fs, f.1 = t
  · exact .inl h
  · exact .inr fun f hf e => h ⟨f, hf, e⟩
/-- bounds that go along -/
structure ClB (g : Str) (W : Int) (fs : List Mo) (sh : List Pt) : Prop where
  w : 0 ≤ W
  f : ∀ m ∈ fs, nb g (W * (fs.length : Int)) m.2
  s : ∀ p ∈ sh, nb g (25 * W) p
theorem ClB.start (g : Str) {W : Int} (h : 0 ≤ W) : ClB g W [one0] [] where
  w := h
  f := fun m hm => by rw [List.mem_singleton.mp hm]; exact nb_0 g (Int.mul_nonneg h (by simp))
  s := fun p hp => by cases hp
theorem ClB.grow {g : Str} {W : Int} {fs : List Mo} {sh : List Pt} {f a : Mo} (c : ClB g W fs sh) (hf : f ∈ fs) (ha : nb g W a.2) : ClB g W (fs ++ [mul g f a]) sh where
  w := c.w
  f := fun m hm => by
    have e : W * ((fs ++ [mul g f a]).length : Int) = W * (fs.length : Int) + W := by
      rw [List.length_append, List.length_singleton]; push_cast; grind
    have w := c.w
    rw [e]
    rcases List.mem_append.mp hm with hm | hm
    · exact (c.f m hm).le (by omega)
    · rw [List.mem_singleton.mp hm]; exact nb_mul (c.f f hf) ha
  s := c.s
theorem ClB.meet {g : Str} {W : Int} {fs : List Mo} {sh : List Pt} {f f' a : Mo} (c : ClB g W fs sh) (hl : fs.length ≤ 12) (hf : f ∈ fs) (ha : nb g W a.2) (hf' : f' ∈ fs) : ClB g W fs (sh ++ [(mul g (mul g f a) (inv g f')).2]) where
  w := c.w
  f := c.f
  s := fun p hp => by
    rcases List.mem_append.mp hp with hp | hp
    · exact c.s p hp
    · rw [List.mem_singleton.mp hp]
      have w := c.w
      have k : W * (fs.length : Int) ≤ W * 12 := Int.mul_le_mul_of_nonneg_left (by omega) w
      exact (nb_mul (nb_mul (c.f f hf) ha) (nb_inv (c.f f' hf'))).le (by omega)
theorem ix_g0 (g : Str) (p q r : Int) (ps : List Mo) : gIxD (grp g p q r ps) (.int 0) = some (.str g) := at0
theorem ix_g1 (g : Str) (p q r : Int) (ps : List Mo) : gIxD (grp g p q r ps) (.int 1) = some (.tuple [.int p, .int q, .int r]) := at1
theorem ix_g2 (g : Str) (p q r : Int) (ps : List Mo) : gIxD (grp g p q r ps) (.int 2) = some (.tuple (ps.map mo)) := at2
theorem dct_g (g : Str) (p q r : Int) (ps : List Mo) : isDct (grp g p q r ps) = false := rfl
theorem ix_l0 (p q r : Int) : gIxD (.tuple [.int p, .int q, .int r]) (.int 0) = some (.int p) := at0
theorem ix_l1 (p q r : Int) : gIxD (.tuple [.int p, .int q, .int r]) (.int 1) = some (.int q) := at1
theorem ix_l2 (p q r : Int) : gIxD (.tuple [.int p, .int q, .int r]) (.int 2) = some (.int r) := at2
theorem len_ps (ps : List Mo) : gLen [.tuple (ps.map mo)] = some (.int (ps.length : Nat)) := by
  show some (PyData.int ((ps.map mo).length : Nat)) = _
  rw [List.length_map]
end Mot


/-! YMotK: motions as keys of a dict. -/
namespace Mot
open PySem PySem.Spec PyProof.Rows L2 Y
def nk (m : Mo) : NestedKey := .tup [.num (m.1 : Nat), .tup [.num m.2.1, .num m.2.2]]
theorem nk_mo (m : Mo) : nkD (mo m) = some (nk m) := rfl
theorem nk_depth (m : Mo) : (nk m).depth ≤ 8 := by
  unfold nk
  simp [NestedKey.depth, NestedKey.depthAll]
theorem nk_inj {a b : Mo} : nk a = nk b ↔ a = b := by
  constructor
  · intro h
    unfold nk at h
    simp only [NestedKey.tup.injEq, List.cons.injEq, NestedKey.num.injEq, and_true] at h
    exact Prod.ext (by omega) (Prod.ext h.2.1 h.2.2)
  · rintro rfl; rfl
def kn (ps : List Mo) : List (PyData × PyData) := ps.map fun m => (mo m, .bool true)
def knP (m : Mo) : PyData := .tuple [mo m, .bool true]
theorem pairs_kn : ∀ ps : List Mo, pairsD (ps.map knP) = some (kn ps)
  | [] => rfl
  | m :: ps => by
    show (pairsD (ps.map knP)).map ((mo m, PyData.bool true) :: ·) = _
    rw [pairs_kn ps]; rfl
theorem mg_kn : ∀ {ps qs : List Mo}, (qs ++ ps).Nodup → mgD (kn ps) (kn qs) = kn (qs ++ ps)
  | [], qs, _ => by rw [List.append_nil]; rfl
  | m :: ps, qs, nd => by
    have h : putX (kn qs) (mo m) (.bool true) = kn (qs ++ [m]) := by
      unfold putX
      rw [if_neg]
      · unfold kn; simp
      · intro z
        obtain ⟨p, hp, e⟩ := List.any_eq_true.mp z
        obtain ⟨x, hx, rfl⟩ := List.mem_map.mp hp
        have e := of_decide_eq_true e
        rw [nk_mo, nk_mo] at e
        have e := nk_inj.mp (Option.some.inj e)
        rw [List.nodup_append] at nd
        exact nd.2.2 x hx m List.mem_cons_self e
    show mgD (kn ps) (putX (kn qs) (mo m) (.bool true)) = _
    rw [h, mg_kn (by simpa using nd)]
    simp
theorem dict_kn {ps : List Mo} (ne : ps ≠ []) (nd : ps.Nodup) : gDict [.list (ps.map knP)] = some (.dict (kn ps)) := by
  show (match pairsD (ps.map knP) with | some es => if es.isEmpty = false ∧ es.all keyOk = true then some (PyData.dict (mgD es [])) else none | none => none) = _
  rw [pairs_kn]
  have e : mgD (kn ps) [] = kn ps := mg_kn (qs := []) (by simpa using nd)
  show (if (kn ps).isEmpty = false ∧ (kn ps).all keyOk = true then some (PyData.dict (mgD (kn ps) [])) else none) = _
  rw [if_pos, e]
  refine ⟨by unfold kn; cases ps <;> simp_all, ?_⟩
  rw [List.all_eq_true]
  intro p hp
  obtain ⟨m, _, rfl⟩ := List.mem_map.mp hp
  show decide ((nk m).depth ≤ 8) = true
  exact decide_eq_true (nk_depth m)
theorem nin_kn {ps : List Mo} (ne : ps ≠ []) (m : Mo) : gNotInE (mo m) (.dict (kn ps)) = some (.bool (!decide (m ∈ ps))) := by
  have k : isKeyed (kn ps) = true := by
    cases ps with
    | nil => exact absurd rfl ne
    | cons a as => rfl
  show (if isKeyed (kn ps) = true then (inX (mo m) (kn ps)).map fun z => PyData.bool (!z) else _) = _
  rw [if_pos k]
  have e : inX (mo m) (kn ps) = some (decide (m ∈ ps)) := by
    show (if (nk m).depth ≤ 8 then some ((kn ps).any fun p => decide (nkD p.1 = some (nk m))) else none) = _
    rw [if_pos (nk_depth m)]
    congr 1
    rw [Bool.eq_iff_iff, List.any_eq_true, decide_eq_true_eq]
    constructor
    · rintro ⟨p, hp, e⟩
      obtain ⟨x, hx, rfl⟩ := List.mem_map.mp hp
      have e := of_decide_eq_true e
      rw [nk_mo] at e
      rw [← nk_inj.mp (Option.some.inj e)]; exact hx
    · intro h
      exact ⟨_, List.mem_map.mpr ⟨m, h, rfl⟩, by rw [decide_eq_true_eq, nk_mo]⟩
  rw [e]; rfl
end Mot
namespace Mot
open PySem PySem.Spec PyProof.Rows L2 Y
/-! motions read off data -/
def decMo : PyData → Option Mo
  | .tuple [.int t, .tuple [.int x, .int y]] => if 0 ≤ t then some (t.toNat, (x, y)) else none
  | _ => none
theorem decMo_ok {d : PyData} {m : Mo} (h : decMo d = some m) : d = mo m := by
  unfold decMo at h
  split at h
  · rename_i t x y
    split at h
    · cases h
      unfold mo
      simp only [PyData.tuple.injEq, List.cons.injEq, PyData.int.injEq, and_true]
      omega
    · cases h
  · cases h
def decMos : List PyData → Option (List Mo)
  | [] => some []
  | d :: ds => match decMo d, decMos ds with
    | some m, some ms => some (m :: ms)
    | _, _ => none
theorem decMos_ok : ∀ {ds : List PyData} {ms : List Mo}, decMos ds = some ms → ds = ms.map mo
  | [], ms, h => by cases h; rfl
  | d :: ds, ms, h => by
    unfold decMos at h
    split at h
    · rename_i m ms' h1 h2
      cases h
      rw [List.map_cons, ← decMo_ok h1, ← decMos_ok h2]
    · cases h
def okMb (g : Str) (W : Int) (m : Mo) : Bool := decide (m.1 < MM g) && decide (-W ≤ m.2.1 ∧ m.2.1 ≤ W ∧ -W ≤ m.2.2 ∧ m.2.2 ≤ W)
end Mot


/-! YGrp3: the turns gone through, to be run; the area of what comes. -/
namespace Mot
open PySem Lat
def tabS : List Nat := (List.range 64).map fun k => cmp "square" (k / 8) (k % 8)
def cmpSq : List (List Nat) := [[0,1,2,3,4,5,6,7],[1,2,3,0,7,4,5,6],[2,3,0,1,6,7,4,5],[3,0,1,2,5,6,7,4],[4,5,6,7,0,1,2,3],[5,6,7,4,3,0,1,2],[6,7,4,5,2,3,0,1],[7,4,5,6,1,2,3,0]]
def cmpHx : List (List Nat) := [[0,1,2,3,4,5,6,7,8,9,10,11],[1,2,3,4,5,0,11,6,7,8,9,10],[2,3,4,5,0,1,10,11,6,7,8,9],[3,4,5,0,1,2,9,10,11,6,7,8],[4,5,0,1,2,3,8,9,10,11,6,7],[5,0,1,2,3,4,7,8,9,10,11,6],[6,7,8,9,10,11,0,1,2,3,4,5],[7,8,9,10,11,6,5,0,1,2,3,4],[8,9,10,11,6,7,4,5,0,1,2,3],[9,10,11,6,7,8,3,4,5,0,1,2],[10,11,6,7,8,9,2,3,4,5,0,1],[11,6,7,8,9,10,1,2,3,4,5,0]]
/-- as cmp, by a table -/
def cmpT (s : Bool) (a b : Nat) : Nat := (((if s then cmpSq else cmpHx)[a]?.getD [])[b]?).getD 0
def bkT (s : Bool) (a : Nat) : Nat := if s then (if a = 1 then 3 else if a = 3 then 1 else a) else (if a = 1 then 5 else if a = 2 then 4 else if a = 4 then 2 else if a = 5 then 1 else a)
def isSq (g : Str) : Bool := decide (g = "square")
def ckT (g : Str) : Bool := (List.range (MM g)).all fun s => decide (bkT (isSq g) s = bk g s) && (List.range (MM g)).all fun t => decide (cmpT (isSq g) s t = cmp g s t)
theorem ckT_all {g : Str} (h : gS g) : ckT g = true := by rcases h with rfl | rfl <;> decide +kernel
theorem cmpT_ok {g : Str} (h : gS g) {s t : Nat} (hs : s < MM g) (ht : t < MM g) : cmpT (isSq g) s t = cmp g s t := by
  have c := ckT_all h
  unfold ckT at c
  simp only [List.all_eq_true, List.mem_range, Bool.and_eq_true, decide_eq_true_eq] at c
  exact (c s hs).2 t ht
theorem bkT_ok {g : Str} (h : gS g) {s : Nat} (hs : s < MM g) : bkT (isSq g) s = bk g s := by
  have c := ckT_all h
  unfold ckT at c
  simp only [List.all_eq_true, List.mem_range, Bool.and_eq_true, decide_eq_true_eq] at c
  exact (c s hs).1
def TnT (s : Bool) (t : Nat) (p : Pt) : Pt := if s then sq t p.1 p.2 else hx t p.1 p.2
theorem TnT_ok (g : Str) (t : Nat) (p : Pt) : TnT (isSq g) t p = Tn g t p := by
  unfold TnT Tn isSq
  by_cases h : g = "square" <;> simp [h]
def mulT (s : Bool) (a b : Mo) : Mo := (cmpT s a.1 b.1, ((TnT s b.1 a.2).1 + b.2.1, (TnT s b.1 a.2).2 + b.2.2))
def invT (s : Bool) (a : Mo) : Mo := (bkT s a.1, (-(TnT s (bkT s a.1) a.2).1, -(TnT s (bkT s a.1) a.2).2))
theorem mulT_ok {g : Str} (h : gS g) {a b : Mo} (ha : a.1 < MM g) (hb : b.1 < MM g) : mulT (isSq g) a b = mul g a b := by
  unfold mulT mul adp
  rw [cmpT_ok h ha hb, TnT_ok]
theorem invT_ok {g : Str} (h : gS g) {a : Mo} (ha : a.1 < MM g) : invT (isSq g) a = inv g a := by
  unfold invT inv ngp
  rw [bkT_ok h ha, TnT_ok]
/-- one motion -/
def stX (s : Bool) (f a : Mo) (fs : List Mo) (todo : List Nat) (sh : List Pt) : List Mo × List Nat × List Pt :=
  let b := mulT s f a
  match fs.find? fun x => decide (x.1 = b.1) with
  | none => (fs ++ [b], todo ++ [b.1], sh)
  | some f' => let z := (mulT s b (invT s f')).2
    (fs, todo, if z ∈ sh then sh else sh ++ [z])
def rowX (s : Bool) (f : Mo) : List Mo → List Mo → List Nat → List Pt → List Mo × List Nat × List Pt
  | [], fs, todo, sh => (fs, todo, sh)
  | a :: as, fs, todo, sh => let r := stX s f a fs todo sh
    rowX s f as r.1 r.2.1 r.2.2
def goX (s : Bool) (ms : List Mo) : Nat → List Mo → List Nat → List Pt → Option (List Mo × List Pt)
  | 0, _, _, _ => none
  | n + 1, fs, todo, sh => match todo.getLast? with
    | none => some (fs, sh)
    | some t => match fs.find? fun x => decide (x.1 = t) with
      | none => none
      | some f => let r := rowX s f ms fs todo.dropLast sh
        goX s ms n r.1 r.2.1 r.2.2
def closeX (s : Bool) (ms : List Mo) : Option (List Mo × List Pt) := goX s ms 14 [one0] [0] []
section
variable {g : Str} {ms fs : List Mo} {todo : List Nat} {sh : List Pt} {t : Nat} {as : List Mo} {f a : Mo}
theorem Cl.meet' (h : gS g) (v : VM g ms) (c : Cl g ms fs todo sh t as) {f' : Mo} (hf : f ∈ fs) (ft : f.1 = t) (ha : a ∈ ms) (hf' : f' ∈ fs) (e' : f'.1 = cmp g f.1 a.1) (hz : (Mot.mul g (Mot.mul g f a) (Mot.inv g f')).2 ∈ sh) : Cl g ms fs todo sh t (as ++ [a]) where
  nd := c.nd
  z := c.z
  gen := c.gen
  gs := c.gs
  td := c.td
  done := fun x hx nx b hb k => by
    by_cases e : x.1 = t ∧ b = a
    · have : x = f := nd_eq c.nd hx hf (e.1.trans ft.symm)
      subst this
      exact ⟨f', hf', by rw [e.2]; exact e', by rw [e.2]; exact .mem hz⟩
    · exact c.done x hx nx b hb fun z => by
        rcases List.mem_append.mp (k z) with z2 | z2
        · exact z2
        · exact absurd ⟨z, List.mem_singleton.mp z2⟩ e
theorem stX_ok (h : gS g) (v : VM g ms) (c : Cl g ms fs todo sh t as) (hf : f ∈ fs) (ft : f.1 = t) (ha : a ∈ ms) :
    Cl g ms (stX (isSq g) f a fs todo sh).1 (stX (isSq g) f a fs todo sh).2.1 (stX (isSq g) f a fs todo sh).2.2 t (as ++ [a]) ∧ f ∈ (stX (isSq g) f a fs todo sh).1 := by
  have fl := (c.gen f hf).lt h v
  have em := mulT_ok h fl (v a ha)
  unfold stX
  simp only [em]
  split
  · rename_i hn
    have n : ∀ f' ∈ fs, f'.1 ≠ cmp g f.1 a.1 := fun f' hf' e => by
      have := List.find?_eq_none.mp hn f' hf'
      simp at this
      exact this e
    exact ⟨c.grow h v hf ft ha n, List.mem_append_left _ hf⟩
  · rename_i f' hs
    have hf' := List.mem_of_find?_eq_some hs
    have e' : f'.1 = cmp g f.1 a.1 := by have := List.find?_some hs; exact of_decide_eq_true this
    have fl' := (c.gen f' hf').lt h v
    have e2 : mulT (isSq g) (mul g f a) (invT (isSq g) f') = mul g (mul g f a) (inv g f') := by
      rw [invT_ok h fl', mulT_ok h (mul_lt h fl (v a ha)) (inv_lt h fl')]
    simp only [e2]
    by_cases hz : (mul g (mul g f a) (inv g f')).2 ∈ sh
    · rw [if_pos hz]
      exact ⟨c.meet' h v hf ft ha hf' e' hz, hf⟩
    · rw [if_neg hz]
      exact ⟨c.meet h v hf ft ha hf' e', hf⟩
theorem rowX_ok (h : gS g) (v : VM g ms) (ft : f.1 = t) : ∀ {bs as : List Mo} {fs : List Mo} {todo : List Nat} {sh : List Pt}, (∀ b ∈ bs, b ∈ ms) → Cl g ms fs todo sh t as → f ∈ fs →
    Cl g ms (rowX (isSq g) f bs fs todo sh).1 (rowX (isSq g) f bs fs todo sh).2.1 (rowX (isSq g) f bs fs todo sh).2.2 t (as ++ bs)
  | [], as, fs, todo, sh, _, c, _ => by rw [List.append_nil]; exact c
  | b :: bs, as, fs, todo, sh, hb, c, hf => by
    obtain ⟨c1, hf1⟩ := stX_ok h v c hf ft (hb b List.mem_cons_self)
    have := rowX_ok h v ft (bs := bs) (fun x hx => hb x (List.mem_cons_of_mem _ hx)) c1 hf1
    rw [List.append_assoc] at this
    exact this
theorem goX_ok (h : gS g) (v : VM g ms) : ∀ {n : Nat} {fs : List Mo} {todo : List Nat} {sh : List Pt} {t : Nat} {r : List Mo × List Pt}, Cl g ms fs todo sh t ms → goX (isSq g) ms n fs todo sh = some r → Cl g ms r.1 [] r.2 0 ms
  | 0, _, _, _, _, _, _, e => by cases e
  | n + 1, fs, todo, sh, t, r, c, e => by
    unfold goX at e
    split at e
    · rename_i hn
      have : todo = [] := List.getLast?_eq_none_iff.mp hn
      subst this
      cases e
      exact ⟨c.nd, c.z, c.gen, c.gs, c.td, fun f hf nn a ha _ => c.done f hf nn a ha fun _ => ha⟩
    · rename_i u hu
      split at e
      · cases e
      · rename_i f hs
        have hf := List.mem_of_find?_eq_some hs
        have ef : f.1 = u := by simpa using List.find?_some hs
        have ed : todo = todo.dropLast ++ [u] := by
          obtain ⟨ys, rfl⟩ := List.getLast?_eq_some_iff.mp hu
          simp
        rw [ed] at c
        exact goX_ok h v (rowX_ok h v ef (as := []) (fun b hb => hb) c.pop hf) e
theorem closeX_ok (h : gS g) (v : VM g ms) {r : List Mo × List Pt} (e : closeX (isSq g) ms = some r) : Cl g ms r.1 [] r.2 0 ms := by
  refine goX_ok h v (t := MM g) ?_ e
  exact ⟨(Cl.start g ms 0).nd, (Cl.start g ms 0).z, (Cl.start g ms 0).gen, (Cl.start g ms 0).gs, (Cl.start g ms 0).td, fun f hf n => (by rw [List.mem_singleton.mp hf] at n; exact absurd (by simp [one0]) n)⟩
/-- the area of what vectors span -/
theorem area_lat {sh : List Pt} {p q r : Int} (p0 : 0 ≤ p) (r0 : 0 ≤ r) (k : ∀ v, Sp sh v ↔ InL p q r v) : p * r = (minG sh 0 : Nat) := by
  by_cases hp : p = 0
  · subst hp
    have R : IsRed sh 0 q r := ⟨Int.le_refl _, r0, by exact .zero, (k _).mpr (inL_e2 _ _ _), fun v hv => (k v).mp (.mem hv), fun z => absurd z (Int.lt_irrefl _)⟩
    rw [← area_eq R]
  · have hp : 0 < p := by omega
    have w : ∀ s, InL p (q.fmod p) r s ↔ InL p q r s := fun s => by
      have hm := Int.mul_fdiv_add_fmod q p
      constructor
      · rintro ⟨x, y, rfl⟩; exact ⟨x - y * q.fdiv p, y, by refine Prod.ext ?_ ?_ <;> (try simp only) <;> (try grind)⟩
      · rintro ⟨x, y, rfl⟩; exact ⟨x + y * q.fdiv p, y, by refine Prod.ext ?_ ?_ <;> (try simp only) <;> (try grind)⟩
    have R : IsRed sh p (q.fmod p) r := ⟨p0, r0, (k _).mpr ((w _).mp (inL_e1 _ _ _)), (k _).mpr ((w _).mp (inL_e2 _ _ _)), fun v hv => (w v).mpr ((k v).mp (.mem hv)), fun _ => fmod_nn hp⟩
    rw [← area_eq R]
theorem Cl.parts (h : gS g) (v : VM g ms) {p q r : Int} {ps : List Mo} (c : Cl g ms fs [] sh 0 ms) (G : IsGrp g ms p q r ps) : ps.length = fs.length := by
  have n1 := nd_turns G.srt
  have pm : (ps.map (·.1)).Perm (fs.map (·.1)) := by
    rw [List.perm_ext_iff_of_nodup n1 c.nd]
    intro t
    rw [G.turns h v]
    constructor
    · rintro ⟨m, k, rfl⟩
      obtain ⟨f, hf, e, _⟩ := c.all h v k
      exact List.mem_map.mpr ⟨f, hf, e⟩
    · intro ht
      obtain ⟨f, hf, rfl⟩ := List.mem_map.mp ht
      exact ⟨f, c.gen f hf, rfl⟩
  have := pm.length_eq
  simpa using this
end
end Mot
namespace Mot
open PySem Lat
/-- whether a group is what motions generate, to be run -/
def isGrpX (g : Str) (ms : List Mo) (p q r : Int) (ps : List Mo) : Bool := match closeX (isSq g) ms with
  | none => false
  | some (fs, sh) => decide (0 < p) && (decide (0 < r) && (decide (0 ≤ q ∧ q < p) && (sh.all (fun v => decide (inbox p q r v = (0, 0))) && (([(p, 0), (q, r)] : List Pt).all (fun v => decide (v ∈ sh) || decide ((-v.1, -v.2) ∈ sh)) &&
    (decide (ps.Pairwise fun a b => a.1 < b.1) && (ps.all (fun m => fs.any fun f => decide (bxd p q r f = m)) && fs.all fun f => decide (bxd p q r f ∈ ps)))))))
theorem isGrpX_ok {g : Str} (h : gS g) {ms ps : List Mo} {p q r : Int} (v : VM g ms) (k : isGrpX g ms p q r ps = true) : IsGrp g ms p q r ps := by
  unfold isGrpX at k
  split at k
  · cases k
  · rename_i fs sh hx
    simp only [Bool.and_eq_true, decide_eq_true_eq, List.all_eq_true, Bool.or_eq_true, List.any_eq_true] at k
    obtain ⟨p0, r0, ⟨q0, q1⟩, k1, k2, k3, k4, k5⟩ := k
    have c := closeX_ok h v hx
    have hs : ∀ u, u ∈ ([(p, 0), (q, r)] : List Pt) → Sp sh u := fun u hu => by
      rcases k2 u hu with z | z
      · exact .mem z
      · have := (Sp.mem z).neg
        simpa using this
    have hl : ∀ u, Sp sh u ↔ InL p q r u := fun u => by
      constructor
      · exact InL.of_sp fun w hw => (inbox_zero p0 r0 w).mp (k1 w hw)
      · rintro ⟨a, b, rfl⟩
        have := (hs (p, 0) (by simp)).comb (hs (q, r) (by simp)) a b
        simpa using this
    have hlat : ∀ u, Gen g ms (0, u) ↔ InL p q r u := fun u => (c.shifts h v u).trans (hl u)
    refine ⟨p0, r0, q0, q1, hlat, fun m hm => ?_, fun m hm => ?_, fun m km => ?_, k3⟩
    · obtain ⟨f, hf, rfl⟩ := k4 m hm
      exact inbox_rng p0 r0 f.2
    · obtain ⟨f, hf, rfl⟩ := k4 m hm
      have gf := c.gen f hf
      have d := (hlat _).mpr ((inbox_diff (p := p) (q := q) (r := r) f.2).neg)
      have := gf.mul h v d
      rw [mul_sh h (gf.lt h v)] at this
      have e3 : (f.1, adp f.2 (-(f.2.1 - (inbox p q r f.2).1), -(f.2.2 - (inbox p q r f.2).2))) = bxd p q r f := by
        unfold bxd adp; refine Prod.ext rfl (Prod.ext ?_ ?_) <;> (simp only; omega)
      rw [← e3]; exact this
    · obtain ⟨f, hf, e, _⟩ := c.all h v km
      exact ⟨bxd p q r f, k5 f hf, e⟩
end Mot


namespace K11
open PySem PySem.Spec PyProof.Rows L2 Y YEX
/-! ### the text -/
def top (i : Nat) : Stmt := PySem.Challenge.pw_patternwright_k11_whole_known_groups_by.main.body.getD i (.Pass ⟨0, 0, 0, 0⟩)
abbrev s_is_whole : Stmt := top 11
abbrev s_is_grid : Stmt := top 12
abbrev s_need_grid : Stmt := top 13
abbrev s_is_cell : Stmt := top 14
abbrev s_own_turned : Stmt := top 15
abbrev s_own_then_turn : Stmt := top 16
abbrev s_is_lattice : Stmt := top 19
abbrev s_own_in_box : Stmt := top 20
abbrev s_reduced : Stmt := top 21
abbrev s_own_lattice : Stmt := top 22
abbrev s_basis : Stmt := top 23
abbrev s_is_motion : Stmt := top 27
abbrev s_need_motions : Stmt := top 28
abbrev s_added : Stmt := top 29
abbrev s_own_moved : Stmt := top 30
abbrev s_own_then : Stmt := top 31
abbrev s_back_turn : Stmt := top 32
abbrev s_own_back : Stmt := top 33
abbrev s_is_part : Stmt := top 35
abbrev s_is_shut : Stmt := top 36
abbrev s_wrong_group : Stmt := top 37
abbrev s_need_group : Stmt := top 38
abbrev s_closed : Stmt := top 39
abbrev s_own_group : Stmt := top 40
abbrev s_group_by : Stmt := top 41
abbrev s_area_of : Stmt := top 42
abbrev s_makers : Stmt := top 43
abbrev s_moved_group : Stmt := top 45
abbrev s__law_mixed : Stmt := top 47
abbrev s__law_draw : Stmt := top 48
abbrev s__law_digit : Stmt := top 49
abbrev s__law_turned : Stmt := top 50
abbrev s__law_moved : Stmt := top 51
abbrev s__law_grid : Stmt := top 52
abbrev s__law_pair : Stmt := top 53
abbrev s__law_motion : Stmt := top 54
abbrev s__law_rows : Stmt := top 55
abbrev s_law : Stmt := top 56
abbrev i_BadGrid : Stmt := (clsBody (top 3)).getD 0 (.Pass ⟨0, 0, 0, 0⟩)
abbrev i_BadMotion : Stmt := (clsBody (top 4)).getD 0 (.Pass ⟨0, 0, 0, 0⟩)
abbrev i_BadGroup : Stmt := (clsBody (top 5)).getD 0 (.Pass ⟨0, 0, 0, 0⟩)
abbrev i_TooMany : Stmt := (clsBody (top 6)).getD 0 (.Pass ⟨0, 0, 0, 0⟩)
abbrev i_NoSuch : Stmt := (clsBody (top 7)).getD 0 (.Pass ⟨0, 0, 0, 0⟩)
/-! ### the defs by data -/
def v_FAR : PyData := .int 1000000
def e_TURNS : List (PyData × PyData) := [(.str "square", .tuple [.tuple [.tuple [.int 1, .int 0], .tuple [.int 0, .int 1]], .tuple [.tuple [.int 0, .int (-1)], .tuple [.int 1, .int 0]], .tuple [.tuple [.int (-1), .int 0], .tuple [.int 0, .int (-1)]], .tuple [.tuple [.int 0, .int 1], .tuple [.int (-1), .int 0]], .tuple [.tuple [.int 1, .int 0], .tuple [.int 0, .int (-1)]], .tuple [.tuple [.int 0, .int 1], .tuple [.int 1, .int 0]], .tuple [.tuple [.int (-1), .int 0], .tuple [.int 0, .int 1]], .tuple [.tuple [.int 0, .int (-1)], .tuple [.int (-1), .int 0]]]), (.str "six", .tuple [.tuple [.tuple [.int 1, .int 0], .tuple [.int 0, .int 1]], .tuple [.tuple [.int 0, .int (-1)], .tuple [.int 1, .int 1]], .tuple [.tuple [.int (-1), .int (-1)], .tuple [.int 1, .int 0]], .tuple [.tuple [.int (-1), .int 0], .tuple [.int 0, .int (-1)]], .tuple [.tuple [.int 0, .int 1], .tuple [.int (-1), .int (-1)]], .tuple [.tuple [.int 1, .int 1], .tuple [.int (-1), .int 0]], .tuple [.tuple [.int 1, .int 1], .tuple [.int 0, .int (-1)]], .tuple [.tuple [.int 0, .int 1], .tuple [.int 1, .int 0]], .tuple [.tuple [.int (-1), .int 0], .tuple [.int 1, .int 1]], .tuple [.tuple [.int (-1), .int (-1)], .tuple [.int 0, .int 1]], .tuple [.tuple [.int 0, .int (-1)], .tuple [.int (-1), .int 0]], .tuple [.tuple [.int 1, .int 0], .tuple [.int (-1), .int (-1)]]])]
def v_TURNS : PyData := .dict e_TURNS
def v_MOST_AREA : PyData := .int 1000
def v_IDENTITY : PyData := .tuple [.int 0, .tuple [.int 0, .int 0]]
def v_MOST_MOTIONS : PyData := .int 50
def eNames : List Str := ["BadGrid", "BadMotion", "BadGroup", "TooMany", "NoSuch"]
def subE (c x : Str) : Bool := ([("BadGrid", "BadGrid"), ("BadGrid", "PatternError"), ("BadGrid", "ValueError"), ("BadMotion", "BadMotion"), ("BadMotion", "PatternError"), ("BadMotion", "ValueError"), ("BadGroup", "BadGroup"), ("BadGroup", "PatternError"), ("BadGroup", "ValueError"), ("TooMany", "TooMany"), ("TooMany", "OverflowError"), ("NoSuch", "NoSuch"), ("NoSuch", "LookupError")] : List (Str × Str)).contains (c, x)
def n_is_whole : List Str := ["thing", "least", "most"]
def g_is_whole : SF := (sRet (fAndV (fIsi "int" (fNm 0)) (fAndV (fNotV (fIsi "bool" (fNm 0))) (fChain gLe gLe (fNm 1) (fNm 0) (fNm 2)))))
def F_is_whole := fnR n_is_whole g_is_whole
def n_is_grid : List Str := ["thing"]
def g_is_grid : SF := (sRet (fAndV (fIsi "str" (fNm 0)) (fOp gInE (fNm 0) (fTup (fCons (fC (.str "square")) (fCons (fC (.str "six")) fNil))))))
def F_is_grid := fnR n_is_grid g_is_grid
def n_need_grid : List Str := ["grid"]
def g_need_grid : SF := (sIf (fNot (fB (fCall F_is_grid (fCons (fNm 0) fNil)))) (sRaise "BadGrid" (fNm 0)) sNil)
def F_need_grid := fnR n_need_grid g_need_grid
def n_is_cell : List Str := ["thing", "part"]
def g_is_cell : SF := (sRet (fAndV (fIsi "tuple" (fNm 0)) (fAndV (fOp gEq (fBltX gLen 0) (fC (.int 2))) (fBlt gAll (fCons (fComp [1] (fItems (fNm 0)) (tNm 1) tYes' (fCall F_is_whole (fCons (fNm 1) (fCons (fOp gSub (fC (.int 0)) (fC v_FAR)) (fCons (fC v_FAR) fNil))))) fNil)))))
def F_is_cell := fnR n_is_cell g_is_cell
def n_own_turned : List Str := ["grid", "turn", "cell", "one", "other"]
def g_own_turned : SF := (sSeq (sAsg (fOp gIxD (fOp gIxD (fC v_TURNS) (fNm 0)) (fNm 1)) (tTp 2 (tsCons (tNm 3) (tsCons (tNm 4) tsNil))))
  (sRet (fTup (fCons (fOp gAdd (fOp gMul (fIxN 3 (fC (.int 0))) (fIxN 2 (fC (.int 0)))) (fOp gMul (fIxN 3 (fC (.int 1))) (fIxN 2 (fC (.int 1))))) (fCons (fOp gAdd (fOp gMul (fIxN 4 (fC (.int 0))) (fIxN 2 (fC (.int 0)))) (fOp gMul (fIxN 4 (fC (.int 1))) (fIxN 2 (fC (.int 1))))) fNil)))))
def F_own_turned := fnR n_own_turned g_own_turned
def n_own_then_turn : List Str := ["grid", "one", "other", "first", "second"]
def g_own_then_turn : SF := (sSeq (sAsg (fCall F_own_turned (fCons (fNm 0) (fCons (fNm 2) (fCons (fCall F_own_turned (fCons (fNm 0) (fCons (fNm 1) (fCons (fTup (fCons (fC (.int 1)) (fCons (fC (.int 0)) fNil))) fNil)))) fNil)))) (tNm 3))
  (sSeq (sAsg (fCall F_own_turned (fCons (fNm 0) (fCons (fNm 2) (fCons (fCall F_own_turned (fCons (fNm 0) (fCons (fNm 1) (fCons (fTup (fCons (fC (.int 0)) (fCons (fC (.int 1)) fNil))) fNil)))) fNil)))) (tNm 4))
  (sRet (fCidx e_TURNS (fNm 0) (fTup (fCons (fTup (fCons (fIxN 3 (fC (.int 0))) (fCons (fIxN 4 (fC (.int 0))) fNil))) (fCons (fTup (fCons (fIxN 3 (fC (.int 1))) (fCons (fIxN 4 (fC (.int 1))) fNil))) fNil)))))))
def F_own_then_turn := fnR n_own_then_turn g_own_then_turn
def n_is_lattice : List Str := ["thing", "part"]
def g_is_lattice : SF := (sSeq (sIf (fOr (fNot (fB (fIsi "tuple" (fNm 0)))) (fOr (fB (fOp gNe (fBltX gLen 0) (fC (.int 3)))) (fNot (fB (fBlt gAll (fCons (fComp [1] (fItems (fNm 0)) (tNm 1) tYes' (fCall F_is_whole (fCons (fNm 1) (fCons (fC (.int 0)) (fCons (fC v_MOST_AREA) fNil))))) fNil)))))) (sRet (fC (.bool false))) sNil)
  (sRet (fAndV (fOp gGe (fIxN 0 (fC (.int 0))) (fC (.int 1))) (fAndV (fOp gGe (fIxN 0 (fC (.int 2))) (fC (.int 1))) (fAndV (fOp gLt (fIxN 0 (fC (.int 1))) (fIxN 0 (fC (.int 0)))) (fOp gLe (fOp gMul (fIxN 0 (fC (.int 0))) (fIxN 0 (fC (.int 2)))) (fC v_MOST_AREA)))))))
def F_is_lattice := fnR n_is_lattice g_is_lattice
def n_own_in_box : List Str := ["lattice", "cell", "rows"]
def g_own_in_box : SF := (sSeq (sAsg (fOp gDiv (fIxN 1 (fC (.int 1))) (fIxN 0 (fC (.int 2)))) (tNm 2))
  (sRet (fTup (fCons (fOp gMod (fOp gSub (fIxN 1 (fC (.int 0))) (fOp gMul (fNm 2) (fIxN 0 (fC (.int 1))))) (fIxN 0 (fC (.int 0)))) (fCons (fOp gSub (fIxN 1 (fC (.int 1))) (fOp gMul (fNm 2) (fIxN 0 (fC (.int 2))))) fNil)))))
def F_own_in_box := fnR n_own_in_box g_own_in_box
def n_reduced : List Str := ["vectors", "p", "high", "vector", "low", "times"]
def g_reduced : SF := (sSeq (sAsg (fTup (fCons (fC (.int 0)) (fCons (fTup (fCons (fC (.int 0)) (fCons (fC (.int 0)) fNil))) fNil))) (tTp 2 (tsCons (tNm 1) (tsCons (tNm 2) tsNil))))
  (sSeq (sFor (fItems (fNm 0)) (tNm 3) (sSeq (sAsg (fNm 3) (tNm 4))
  (sSeq (sWhile (fB (fOp gNe (fIxN 4 (fC (.int 1))) (fC (.int 0)))) (sSeq (sAsg (fOp gDiv (fIxN 2 (fC (.int 1))) (fIxN 4 (fC (.int 1)))) (tNm 5))
  (sPar [2, 4] [false, false] (fCons (fNm 4) (fCons (fTup (fCons (fOp gSub (fIxN 2 (fC (.int 0))) (fOp gMul (fNm 5) (fIxN 4 (fC (.int 0))))) (fCons (fOp gSub (fIxN 2 (fC (.int 1))) (fOp gMul (fNm 5) (fIxN 4 (fC (.int 1))))) fNil))) fNil)))))
  (sAsg (fBlt gGcd (fCons (fNm 1) (fCons (fIxN 4 (fC (.int 0))) fNil))) (tNm 1)))))
  (sSeq (sIf (fB (fOp gLt (fIxN 2 (fC (.int 1))) (fC (.int 0)))) (sAsg (fTup (fCons (fOp gSub (fC (.int 0)) (fIxN 2 (fC (.int 0)))) (fCons (fOp gSub (fC (.int 0)) (fIxN 2 (fC (.int 1)))) fNil))) (tNm 2)) sNil)
  (sRet (fTup (fCons (fNm 1) (fCons (fIf (fB (fOp gGt (fNm 1) (fC (.int 0)))) (fOp gMod (fIxN 2 (fC (.int 0))) (fNm 1)) (fIxN 2 (fC (.int 0)))) (fCons (fIxN 2 (fC (.int 1))) fNil))))))))
def F_reduced := fnR n_reduced g_reduced
def n_own_lattice : List Str := ["vectors", "p", "q", "r"]
def g_own_lattice : SF := (sSeq (sAsg (fCall F_reduced (fCons (fNm 0) fNil)) (tTp 3 (tsCons (tNm 1) (tsCons (tNm 2) (tsCons (tNm 3) tsNil)))))
  (sSeq (sIf (fOr (fB (fOp gEq (fNm 1) (fC (.int 0)))) (fB (fOp gEq (fNm 3) (fC (.int 0))))) (sRet (fC .none)) sNil)
  (sSeq (sIf (fB (fOp gGt (fOp gMul (fNm 1) (fNm 3)) (fC v_MOST_AREA))) (sRaise "TooMany" (fC v_MOST_AREA)) sNil)
  (sRet (fTup (fCons (fNm 1) (fCons (fNm 2) (fCons (fNm 3) fNil))))))))
def F_own_lattice := fnR n_own_lattice g_own_lattice
def n_basis : List Str := ["lattice"]
def g_basis : SF := (sRet (fTup (fCons (fTup (fCons (fIxN 0 (fC (.int 0))) (fCons (fC (.int 0)) fNil))) (fCons (fTup (fCons (fIxN 0 (fC (.int 1))) (fCons (fIxN 0 (fC (.int 2))) fNil))) fNil))))
def F_basis := fnR n_basis g_basis
def n_is_motion : List Str := ["grid", "thing"]
def g_is_motion : SF := (sSeq (sIf (fOr (fNot (fB (fIsi "tuple" (fNm 1)))) (fOr (fB (fOp gNe (fBltX gLen 1) (fC (.int 2)))) (fNot (fB (fCall F_is_whole (fCons (fIxN 1 (fC (.int 0))) (fCons (fC (.int 0)) (fCons (fOp gSub (fBlt gLen (fCons (fOp gIxD (fC v_TURNS) (fNm 0)) fNil)) (fC (.int 1))) fNil)))))))) (sRet (fC (.bool false))) sNil)
  (sRet (fCall F_is_cell (fCons (fIxN 1 (fC (.int 1))) fNil))))
def F_is_motion := fnR n_is_motion g_is_motion
def n_need_motions : List Str := ["grid", "motions", "motion"]
def g_need_motions : SF := (sSeq (sExpr (fCall F_need_grid (fCons (fNm 0) fNil)))
  (sSeq (sIf (fOr (fNot (fB (fIsi "tuple" (fNm 1)))) (fB (fOp gGt (fBltX gLen 1) (fC v_MOST_MOTIONS)))) (sRaise "BadMotion" (fNm 1)) sNil)
  (sFor (fItems (fNm 1)) (tNm 2) (sIf (fNot (fB (fCall F_is_motion (fCons (fNm 0) (fCons (fNm 2) fNil))))) (sRaise "BadMotion" (fNm 2)) sNil))))
def F_need_motions := fnR n_need_motions g_need_motions
def n_added : List Str := ["one", "other"]
def g_added : SF := (sRet (fTup (fCons (fOp gAdd (fIxN 0 (fC (.int 0))) (fIxN 1 (fC (.int 0)))) (fCons (fOp gAdd (fIxN 0 (fC (.int 1))) (fIxN 1 (fC (.int 1)))) fNil))))
def F_added := fnR n_added g_added
def n_own_moved : List Str := ["grid", "motion", "cell"]
def g_own_moved : SF := (sRet (fCall F_added (fCons (fCall F_own_turned (fCons (fNm 0) (fCons (fIxN 1 (fC (.int 0))) (fCons (fNm 2) fNil)))) (fCons (fIxN 1 (fC (.int 1))) fNil))))
def F_own_moved := fnR n_own_moved g_own_moved
def n_own_then : List Str := ["grid", "one", "other"]
def g_own_then : SF := (sRet (fTup (fCons (fCall F_own_then_turn (fCons (fNm 0) (fCons (fIxN 1 (fC (.int 0))) (fCons (fIxN 2 (fC (.int 0))) fNil)))) (fCons (fCall F_own_moved (fCons (fNm 0) (fCons (fNm 2) (fCons (fIxN 1 (fC (.int 1))) fNil)))) fNil))))
def F_own_then := fnR n_own_then g_own_then
def n_back_turn : List Str := ["grid", "turn", "many"]
def g_back_turn : SF := (sSeq (sAsg (fOp gDiv (fBlt gLen (fCons (fOp gIxD (fC v_TURNS) (fNm 0)) fNil)) (fC (.int 2))) (tNm 2))
  (sRet (fIf (fB (fOp gLt (fNm 1) (fNm 2))) (fOp gMod (fOp gSub (fNm 2) (fNm 1)) (fNm 2)) (fNm 1))))
def F_back_turn := fnR n_back_turn g_back_turn
def n_own_back : List Str := ["grid", "motion", "turn", "shift"]
def g_own_back : SF := (sSeq (sAsg (fCall F_back_turn (fCons (fNm 0) (fCons (fIxN 1 (fC (.int 0))) fNil))) (tNm 2))
  (sSeq (sAsg (fCall F_own_turned (fCons (fNm 0) (fCons (fNm 2) (fCons (fIxN 1 (fC (.int 1))) fNil)))) (tNm 3))
  (sRet (fTup (fCons (fNm 2) (fCons (fTup (fCons (fOp gSub (fC (.int 0)) (fIxN 3 (fC (.int 0)))) (fCons (fOp gSub (fC (.int 0)) (fIxN 3 (fC (.int 1)))) fNil))) fNil))))))
def F_own_back := fnR n_own_back g_own_back
def n_is_part : List Str := ["grid", "lattice", "thing"]
def g_is_part : SF := (sRet (fAndV (fCall F_is_motion (fCons (fNm 0) (fCons (fNm 2) fNil))) (fOp gEq (fCall F_own_in_box (fCons (fNm 1) (fCons (fIxN 2 (fC (.int 1))) fNil))) (fIxN 2 (fC (.int 1))))))
def F_is_part := fnR n_is_part g_is_part
def n_is_shut : List Str := ["grid", "lattice", "parts", "known", "part", "other", "both", "vector"]
def g_is_shut : SF := (sSeq (sOwn (fBltO gDict (fCons (fComp [4] (fItems (fNm 2)) (tNm 4) tYes' (fTup (fCons (fNm 4) (fCons (fC (.bool true)) fNil)))) fNil)) 3)
  (sSeq (sFor (fItems (fNm 2)) (tNm 4) (sSeq (sIf (fB (fBlt gAny (fCons (fComp [7] (fItems (fCall F_basis (fCons (fNm 1) fNil))) (tNm 7) tYes' (fOp gNe (fCall F_own_in_box (fCons (fNm 1) (fCons (fCall F_own_turned (fCons (fNm 0) (fCons (fIxN 4 (fC (.int 0))) (fCons (fNm 7) fNil)))) fNil))) (fTup (fCons (fC (.int 0)) (fCons (fC (.int 0)) fNil))))) fNil))) (sRet (fC (.bool false))) sNil)
  (sFor (fItems (fNm 2)) (tNm 5) (sSeq (sAsg (fCall F_own_then (fCons (fNm 0) (fCons (fNm 4) (fCons (fNm 5) fNil)))) (tNm 6))
  (sIf (fB (fOpN gNotInE (fTup (fCons (fIxN 6 (fC (.int 0))) (fCons (fCall F_own_in_box (fCons (fNm 1) (fCons (fIxN 6 (fC (.int 1))) fNil))) fNil))) 3)) (sRet (fC (.bool false))) sNil)))))
  (sRet (fC (.bool true)))))
def F_is_shut := fnR n_is_shut g_is_shut
def n_wrong_group : List Str := ["thing", "grid", "lattice", "parts", "number", "part"]
def g_wrong_group : SF := (sSeq (sIf (fOr (fNot (fB (fIsi "tuple" (fNm 0)))) (fB (fOp gNe (fBltX gLen 0) (fC (.int 3))))) (sRet (fLst (fCons (fC .none) fNil))) sNil)
  (sSeq (sAsg (fNm 0) (tTp 3 (tsCons (tNm 1) (tsCons (tNm 2) (tsCons (tNm 3) tsNil)))))
  (sSeq (sIf (fNot (fB (fCall F_is_grid (fCons (fNm 1) fNil)))) (sRet (fLst (fCons (fC (.str "grid")) fNil))) sNil)
  (sSeq (sIf (fNot (fB (fCall F_is_lattice (fCons (fNm 2) fNil)))) (sRet (fLst (fCons (fC (.str "lattice")) fNil))) sNil)
  (sSeq (sIf (fOr (fNot (fB (fIsi "tuple" (fNm 3)))) (fNot (fB (fChain gLe gLe (fC (.int 1)) (fBltX gLen 3) (fBlt gLen (fCons (fOp gIxD (fC v_TURNS) (fNm 1)) fNil)))))) (sRet (fLst (fCons (fC (.str "parts")) fNil))) sNil)
  (sSeq (sFor (fEnum2 (fCons (fNm 3) fNil)) (tTp 2 (tsCons (tNm 4) (tsCons (tNm 5) tsNil))) (sIf (fOr (fNot (fB (fCall F_is_part (fCons (fNm 1) (fCons (fNm 2) (fCons (fNm 5) fNil)))))) (fAnd (fB (fOp gGt (fNm 4) (fC (.int 0)))) (fB (fOp gLe (fIxN 5 (fC (.int 0))) (fOp gIxD (fIxN 3 (fOp gSub (fNm 4) (fC (.int 1)))) (fC (.int 0))))))) (sRet (fLst (fCons (fNm 4) fNil))) sNil))
  (sSeq (sIf (fB (fOp gNe (fIxN 3 (fC (.int 0))) (fC v_IDENTITY))) (sRet (fLst (fCons (fC (.int 0)) fNil))) sNil)
  (sRet (fIf (fB (fCall F_is_shut (fCons (fNm 1) (fCons (fNm 2) (fCons (fNm 3) fNil))))) (fLst fNil) (fLst (fCons (fC (.str "closed")) fNil)))))))))))
def F_wrong_group := fnR n_wrong_group g_wrong_group
def n_need_group : List Str := ["group", "wrong"]
def g_need_group : SF := (sSeq (sAsg (fCall F_wrong_group (fCons (fNm 0) fNil)) (tNm 1))
  (sIf (fB (fOp gNe (fNm 1) (fLst fNil))) (sRaise "BadGroup" (fIxN 1 (fC (.int 0)))) sNil))
def F_need_group := fnR n_need_group g_need_group
def n_closed : List Str := ["grid", "motions", "found", "todo", "shifts", "turn", "motion", "both"]
def g_closed : SF := (sSeq (sPar [2, 3, 4] [true, true, true] (fCons (fDsp (pCons (fC (.int 0)) (fC v_IDENTITY) pNil)) (fCons (fLst (fCons (fC (.int 0)) fNil)) (fCons (fLst fNil) fNil))))
  (sSeq (sWhile (fB (fOpL gNe 3 (fLst fNil))) (sSeq (sAsg (fMth gPop 3 fNil) (tNm 5))
  (sFor (fItems (fNm 1)) (tNm 6) (sSeq (sAsg (fCall F_own_then (fCons (fNm 0) (fCons (fIxN 2 (fNm 5)) (fCons (fNm 6) fNil)))) (tNm 7))
  (sIf (fB (fOpN gNotInE (fIxN 7 (fC (.int 0))) 2)) (sSeq (sPut 2 (fIxN 7 (fC (.int 0))) (fNm 7))
  (sExpr (fMth gApp 3 (fCons (fIxN 7 (fC (.int 0))) fNil)))) (sExpr (fMth gApp 4 (fCons (fOp gIxD (fCall F_own_then (fCons (fNm 0) (fCons (fNm 7) (fCons (fCall F_own_back (fCons (fNm 0) (fCons (fIxN 2 (fIxN 7 (fC (.int 0)))) fNil))) fNil)))) (fC (.int 1))) fNil))))))))
  (sRet (fTup (fCons (fNm 2) (fCons (fNm 4) fNil))))))
def F_closed := fnR n_closed g_closed
def n_own_group : List Str := ["grid", "motions", "found", "shifts", "lattice", "turn"]
def g_own_group : SF := (sSeq (sAsg (fCall F_closed (fCons (fNm 0) (fCons (fNm 1) fNil))) (tTp 2 (tsCons (tNm 2) (tsCons (tNm 3) tsNil))))
  (sSeq (sAsg (fCall F_own_lattice (fCons (fNm 3) fNil)) (tNm 4))
  (sSeq (sIf (fB (fOp gIs (fNm 4) (fC .none))) (sRet (fC .none)) sNil)
  (sRet (fTup (fCons (fNm 0) (fCons (fNm 4) (fCons (fBlt gTuple (fCons (fComp [5] (fItems (fBltN gSorted (fCons (fNm 2) fNil))) (tNm 5) tYes' (fTup (fCons (fNm 5) (fCons (fCall F_own_in_box (fCons (fNm 4) (fCons (fOp gIxD (fIxN 2 (fNm 5)) (fC (.int 1))) fNil))) fNil)))) fNil)) fNil))))))))
def F_own_group := fnR n_own_group g_own_group
def n_group_by : List Str := ["grid", "motions", "group"]
def g_group_by : SF := (sSeq (sExpr (fCall F_need_motions (fCons (fNm 0) (fCons (fNm 1) fNil))))
  (sSeq (sAsg (fCall F_own_group (fCons (fNm 0) (fCons (fNm 1) fNil))) (tNm 2))
  (sSeq (sIf (fB (fOp gIs (fNm 2) (fC .none))) (sRaise "NoSuch" (fC (.str "lattice"))) sNil)
  (sRet (fNm 2)))))
def F_group_by := fnR n_group_by g_group_by
def n_area_of : List Str := ["group", "cells", "parts", "common"]
def g_area_of : SF := (sSeq (sExpr (fCall F_need_group (fCons (fNm 0) fNil)))
  (sSeq (sPar [1, 2] [false, false] (fCons (fOp gMul (fOp gIxD (fIxN 0 (fC (.int 1))) (fC (.int 0))) (fOp gIxD (fIxN 0 (fC (.int 1))) (fC (.int 2)))) (fCons (fBlt gLen (fCons (fIxN 0 (fC (.int 2))) fNil)) fNil)))
  (sSeq (sAsg (fBlt gGcd (fCons (fNm 1) (fCons (fNm 2) fNil))) (tNm 3))
  (sRet (fTup (fCons (fOp gDiv (fNm 1) (fNm 3)) (fCons (fOp gDiv (fNm 2) (fNm 3)) fNil)))))))
def F_area_of := fnR n_area_of g_area_of
def n_makers : List Str := ["group", "vector"]
def g_makers : SF := (sRet (fTup (fStar (fIxN 0 (fC (.int 2))) (fStar (fComp [1] (fItems (fCall F_basis (fCons (fIxN 0 (fC (.int 1))) fNil))) (tNm 1) tYes' (fTup (fCons (fC (.int 0)) (fCons (fNm 1) fNil)))) fNil))))
def F_makers := fnR n_makers g_makers
def n_moved_group : List Str := ["group", "motion", "before", "rows", "some"]
def g_moved_group : SF := (sSeq (sExpr (fCall F_need_group (fCons (fNm 0) fNil)))
  (sSeq (sIf (fNot (fB (fCall F_is_motion (fCons (fIxN 0 (fC (.int 0))) (fCons (fNm 1) fNil))))) (sRaise "BadMotion" (fNm 1)) sNil)
  (sSeq (sAsg (fCall F_own_back (fCons (fIxN 0 (fC (.int 0))) (fCons (fNm 1) fNil))) (tNm 2))
  (sSeq (sOwn (fComp [4] (fItems (fCall F_makers (fCons (fNm 0) fNil))) (tNm 4) tYes' (fCall F_own_then (fCons (fIxN 0 (fC (.int 0))) (fCons (fCall F_own_then (fCons (fIxN 0 (fC (.int 0))) (fCons (fNm 2) (fCons (fNm 4) fNil)))) (fCons (fNm 1) fNil))))) 3)
  (sRet (fCall F_own_group (fCons (fIxN 0 (fC (.int 0))) (fCons (fNm 3) fNil))))))))
def F_moved_group := fnR n_moved_group g_moved_group
def n__law_mixed : List Str := ["cell", "k", "number"]
def g__law_mixed : SF := (sSeq (sAsg (fOp gAdd (fOp gAdd (fOp gMod (fNm 0) (fOp gIxD (fLst (fCons (fC (.int 1000000007)) (fCons (fC (.int 998244353)) (fCons (fC (.int 2147483629)) (fCons (fC (.int 1000000009)) fNil))))) (fOp gMod (fNm 1) (fC (.int 4))))) (fOp gMul (fC (.int 7919)) (fNm 1))) (fC (.int 13))) (tNm 2))
  (sRet (fOp gMod (fOp gMul (fOp gMod (fOp gMul (fNm 2) (fNm 2)) (fC (.int 2147483647))) (fC (.int 48271))) (fC (.int 2147483647)))))
def F__law_mixed := fnR n__law_mixed g__law_mixed
def n__law_draw : List Str := ["cell", "k"]
def g__law_draw : SF := (sRetN (fDsp (pCons (fC (.str "left")) (fIf (fB (fOp gGe (fNm 0) (fOp gPow (fC (.int 10)) (fC (.int 18))))) (fNm 0) (fC (.int 0))) (pCons (fC (.str "cell")) (fNm 0) (pCons (fC (.str "turns")) (fOp gMul (fC (.int 1000)) (fNm 1)) pNil)))))
def F__law_draw := fnN n__law_draw g__law_draw
def n__law_digit : List Str := ["state", "below", "j", "found"]
def g__law_digit : SF := (sSeq (sIf (fB (fOp gEq (fIxN 0 (fC (.str "left"))) (fC (.int 0)))) (sFor (fRng (fCons (fC (.int 4)) fNil)) (tNm 2) (sSeq (sPut 0 (fC (.str "turns")) (fOp gAdd (fIxN 0 (fC (.str "turns"))) (fC (.int 1))))
  (sPut 0 (fC (.str "left")) (fOp gAdd (fOp gMul (fIxN 0 (fC (.str "left"))) (fC (.int 2147483647))) (fCall F__law_mixed (fCons (fIxN 0 (fC (.str "cell"))) (fCons (fIxN 0 (fC (.str "turns"))) fNil))))))) sNil)
  (sSeq (sAsg (fOp gMod (fIxN 0 (fC (.str "left"))) (fNm 1)) (tNm 3))
  (sSeq (sPut 0 (fC (.str "left")) (fOp gDiv (fIxN 0 (fC (.str "left"))) (fNm 1)))
  (sRet (fNm 3)))))
def F__law_digit := fnS n__law_digit g__law_digit
def n__law_turned : List Str := ["grid", "turn", "pair", "many", "x", "y", "j"]
def g__law_turned : SF := (sSeq (sAsg (fIf (fB (fOp gEq (fNm 0) (fC (.str "square")))) (fC (.int 4)) (fC (.int 6))) (tNm 3))
  (sSeq (sAsg (fNm 2) (tTp 2 (tsCons (tNm 4) (tsCons (tNm 5) tsNil))))
  (sSeq (sIf (fB (fOp gGe (fNm 1) (fNm 3))) (sAsg (fIf (fB (fOp gEq (fNm 0) (fC (.str "square")))) (fTup (fCons (fNm 4) (fCons (fOp gSub (fC (.int 0)) (fNm 5)) fNil))) (fTup (fCons (fOp gAdd (fNm 4) (fNm 5)) (fCons (fOp gSub (fC (.int 0)) (fNm 5)) fNil)))) (tTp 2 (tsCons (tNm 4) (tsCons (tNm 5) tsNil)))) sNil)
  (sSeq (sFor (fRng (fCons (fOp gMod (fNm 1) (fNm 3)) fNil)) (tNm 6) (sPar [4, 5] [false, false] (fCons (fOp gSub (fC (.int 0)) (fNm 5)) (fCons (fIf (fB (fOp gEq (fNm 0) (fC (.str "square")))) (fNm 4) (fOp gAdd (fNm 4) (fNm 5))) fNil))))
  (sRet (fTup (fCons (fNm 4) (fCons (fNm 5) fNil))))))))
def F__law_turned := fnR n__law_turned g__law_turned
def n__law_moved : List Str := ["grid", "motion", "pair", "x", "y"]
def g__law_moved : SF := (sSeq (sAsg (fCall F__law_turned (fCons (fNm 0) (fCons (fIxN 1 (fC (.int 0))) (fCons (fNm 2) fNil)))) (tTp 2 (tsCons (tNm 3) (tsCons (tNm 4) tsNil))))
  (sRet (fTup (fCons (fOp gAdd (fNm 3) (fOp gIxD (fIxN 1 (fC (.int 1))) (fC (.int 0)))) (fCons (fOp gAdd (fNm 4) (fOp gIxD (fIxN 1 (fC (.int 1))) (fC (.int 1)))) fNil)))))
def F__law_moved := fnR n__law_moved g__law_moved
def n__law_grid : List Str := ["state"]
def g__law_grid : SF := (sRet (fOp gIxD (fLst (fCons (fC (.str "square")) (fCons (fC (.str "six")) fNil))) (fCallS F__law_digit 0 (fCons (fC (.int 2)) fNil))))
def F__law_grid := fnS n__law_grid g__law_grid
def n__law_pair : List Str := ["state", "wide"]
def g__law_pair : SF := (sRet (fTup (fCons (fOp gSub (fCallS F__law_digit 0 (fCons (fOp gAdd (fOp gMul (fC (.int 2)) (fNm 1)) (fC (.int 1))) fNil)) (fNm 1)) (fCons (fOp gSub (fCallS F__law_digit 0 (fCons (fOp gAdd (fOp gMul (fC (.int 2)) (fNm 1)) (fC (.int 1))) fNil)) (fNm 1)) fNil))))
def F__law_pair := fnS n__law_pair g__law_pair
def n__law_motion : List Str := ["state", "grid", "wide"]
def g__law_motion : SF := (sRet (fTup (fCons (fCallS F__law_digit 0 (fCons (fIf (fB (fOp gEq (fNm 1) (fC (.str "square")))) (fC (.int 8)) (fC (.int 12))) fNil)) (fCons (fCallS F__law_pair 0 (fCons (fNm 2) fNil)) fNil))))
def F__law_motion := fnS n__law_motion g__law_motion
def n__law_rows : List Str := ["grid", "wide", "high", "many", "every", "turn", "rows"]
def g__law_rows : SF := (sSeq (sAsg (fIf (fB (fOp gEq (fNm 0) (fC (.str "square")))) (fC (.int 4)) (fC (.int 6))) (tNm 3))
  (sSeq (sOwn (fComp [5] (fRng (fCons (fOp gMul (fC (.int 2)) (fNm 3)) fNil)) (tNm 5) tYes' (fTup (fCons (fNm 5) (fCons (fTup (fCons (fC (.int 0)) (fCons (fC (.int 0)) fNil))) fNil)))) 4)
  (sSeq (sOwn (fLst (fCons (fTup (fCons (fOp gAdd (fNm 4) (fLst (fCons (fTup (fCons (fC (.int 0)) (fCons (fTup (fCons (fC (.int 1)) (fCons (fC (.int 0)) fNil))) fNil))) fNil))) (fCons (fC (.int 1)) (fCons (fOp gMul (fC (.int 2)) (fNm 3)) fNil)))) (fCons (fTup (fCons (fOp gAdd (fSl (fNm 4) oNo (oEx (fNm 3))) (fLst (fCons (fTup (fCons (fC (.int 0)) (fCons (fTup (fCons (fNm 1) (fCons (fC (.int 0)) fNil))) fNil))) fNil))) (fCons (fOp gMul (fNm 1) (fNm 1)) (fCons (fNm 3) fNil)))) fNil))) 6)
  (sSeq (sAsg (fOp gAdd (fNm 6) (fLst (fCons (fTup (fCons (fLst (fCons (fTup (fCons (fC (.int 0)) (fCons (fTup (fCons (fNm 1) (fCons (fC (.int 0)) fNil))) fNil))) (fCons (fTup (fCons (fC (.int 0)) (fCons (fTup (fCons (fC (.int 0)) (fCons (fNm 2) fNil))) fNil))) fNil))) (fCons (fOp gMul (fNm 1) (fNm 2)) (fCons (fC (.int 1)) fNil)))) fNil))) (tNm 6))
  (sSeq (sAsg (fOp gAdd (fNm 6) (fLst (fCons (fTup (fCons (fLst (fCons (fTup (fCons (fC (.int 0)) (fCons (fTup (fCons (fNm 1) (fCons (fC (.int 0)) fNil))) fNil))) (fCons (fTup (fCons (fC (.int 0)) (fCons (fTup (fCons (fC (.int 0)) (fCons (fNm 2) fNil))) fNil))) (fCons (fTup (fCons (fOp gDiv (fNm 3) (fC (.int 2))) (fCons (fTup (fCons (fC (.int 1)) (fCons (fC (.int 2)) fNil))) fNil))) fNil)))) (fCons (fOp gMul (fNm 1) (fNm 2)) (fCons (fC (.int 2)) fNil)))) fNil))) (tNm 6))
  (sSeq (sAsg (fOp gAdd (fNm 6) (fLst (fCons (fTup (fCons (fLst (fCons (fTup (fCons (fOp gDiv (fNm 3) (fC (.int 2))) (fCons (fTup (fCons (fC (.int 0)) (fCons (fC (.int 0)) fNil))) fNil))) (fCons (fTup (fCons (fOp gDiv (fNm 3) (fC (.int 2))) (fCons (fTup (fCons (fNm 1) (fCons (fC (.int 0)) fNil))) fNil))) (fCons (fTup (fCons (fOp gDiv (fNm 3) (fC (.int 2))) (fCons (fTup (fCons (fC (.int 0)) (fCons (fNm 2) fNil))) fNil))) fNil)))) (fCons (fOp gMul (fNm 1) (fNm 2)) (fCons (fC (.int 2)) fNil)))) fNil))) (tNm 6))
  (sSeq (sAsg (fOp gAdd (fNm 6) (fLst (fCons (fTup (fCons (fOp gAdd (fNm 4) (fLst (fCons (fTup (fCons (fC (.int 0)) (fCons (fTup (fCons (fNm 1) (fCons (fC (.int 0)) fNil))) fNil))) fNil))) (fCons (fOp gMul (fNm 1) (fNm 1)) (fCons (fOp gMul (fC (.int 2)) (fNm 3)) fNil)))) fNil))) (tNm 6))
  (sSeq (sIf (fB (fOp gEq (fNm 0) (fC (.str "square")))) (sSeq (sAsg (fOp gAdd (fNm 6) (fLst (fCons (fTup (fCons (fLst (fCons (fTup (fCons (fC (.int 4)) (fCons (fTup (fCons (fC (.int 0)) (fCons (fC (.int 0)) fNil))) fNil))) (fCons (fTup (fCons (fC (.int 4)) (fCons (fTup (fCons (fC (.int 0)) (fCons (fOp gMul (fC (.int 2)) (fNm 2)) fNil))) fNil))) (fCons (fTup (fCons (fC (.int 0)) (fCons (fTup (fCons (fNm 1) (fCons (fC (.int 0)) fNil))) fNil))) fNil)))) (fCons (fOp gMul (fOp gMul (fNm 1) (fC (.int 2))) (fNm 2)) (fCons (fC (.int 2)) fNil)))) fNil))) (tNm 6))
  (sSeq (sAsg (fOp gAdd (fNm 6) (fLst (fCons (fTup (fCons (fLst (fCons (fTup (fCons (fC (.int 4)) (fCons (fTup (fCons (fNm 1) (fCons (fC (.int 0)) fNil))) fNil))) (fCons (fTup (fCons (fC (.int 0)) (fCons (fTup (fCons (fC (.int 0)) (fCons (fNm 2) fNil))) fNil))) fNil))) (fCons (fOp gMul (fOp gMul (fC (.int 2)) (fNm 1)) (fNm 2)) (fCons (fC (.int 2)) fNil)))) (fCons (fTup (fCons (fLst (fCons (fTup (fCons (fC (.int 1)) (fCons (fTup (fCons (fC (.int 0)) (fCons (fC (.int 0)) fNil))) fNil))) (fCons (fTup (fCons (fC (.int 1)) (fCons (fTup (fCons (fNm 1) (fCons (fC (.int 0)) fNil))) fNil))) fNil))) (fCons (fOp gMul (fNm 1) (fNm 1)) (fCons (fC (.int 4)) fNil)))) fNil)))) (tNm 6))
  (sAsg (fOp gAdd (fNm 6) (fLst (fCons (fTup (fCons (fLst (fCons (fTup (fCons (fC (.int 5)) (fCons (fTup (fCons (fC (.int 0)) (fCons (fC (.int 0)) fNil))) fNil))) (fCons (fTup (fCons (fC (.int 0)) (fCons (fTup (fCons (fNm 1) (fCons (fC (.int 0)) fNil))) fNil))) fNil))) (fCons (fOp gMul (fNm 1) (fNm 1)) (fCons (fC (.int 2)) fNil)))) (fCons (fTup (fCons (fLst (fCons (fTup (fCons (fC (.int 4)) (fCons (fTup (fCons (fNm 1) (fCons (fC (.int 0)) fNil))) fNil))) (fCons (fTup (fCons (fC (.int 6)) (fCons (fTup (fCons (fC (.int 0)) (fCons (fNm 2) fNil))) fNil))) fNil))) (fCons (fOp gMul (fOp gMul (fC (.int 4)) (fNm 1)) (fNm 2)) (fCons (fC (.int 4)) fNil)))) fNil)))) (tNm 6)))) (sSeq (sAsg (fOp gAdd (fNm 6) (fLst (fCons (fTup (fCons (fLst (fCons (fTup (fCons (fC (.int 2)) (fCons (fTup (fCons (fC (.int 0)) (fCons (fC (.int 0)) fNil))) fNil))) (fCons (fTup (fCons (fC (.int 0)) (fCons (fTup (fCons (fNm 1) (fCons (fC (.int 0)) fNil))) fNil))) fNil))) (fCons (fOp gMul (fNm 1) (fNm 1)) (fCons (fC (.int 3)) fNil)))) (fCons (fTup (fCons (fLst (fCons (fTup (fCons (fC (.int 1)) (fCons (fTup (fCons (fC (.int 0)) (fCons (fC (.int 0)) fNil))) fNil))) (fCons (fTup (fCons (fC (.int 0)) (fCons (fTup (fCons (fNm 1) (fCons (fNm 1) fNil))) fNil))) fNil))) (fCons (fOp gMul (fOp gMul (fC (.int 3)) (fNm 1)) (fNm 1)) (fCons (fC (.int 6)) fNil)))) fNil)))) (tNm 6))
  (sSeq (sAsg (fOp gAdd (fNm 6) (fLst (fCons (fTup (fCons (fLst (fCons (fTup (fCons (fC (.int 7)) (fCons (fTup (fCons (fC (.int 0)) (fCons (fC (.int 0)) fNil))) fNil))) (fCons (fTup (fCons (fC (.int 2)) (fCons (fTup (fCons (fC (.int 0)) (fCons (fC (.int 0)) fNil))) fNil))) (fCons (fTup (fCons (fC (.int 0)) (fCons (fTup (fCons (fNm 1) (fCons (fC (.int 0)) fNil))) fNil))) fNil)))) (fCons (fOp gMul (fNm 1) (fNm 1)) (fCons (fC (.int 6)) fNil)))) fNil))) (tNm 6))
  (sAsg (fOp gAdd (fNm 6) (fLst (fCons (fTup (fCons (fLst (fCons (fTup (fCons (fC (.int 6)) (fCons (fTup (fCons (fC (.int 0)) (fCons (fC (.int 0)) fNil))) fNil))) (fCons (fTup (fCons (fC (.int 2)) (fCons (fTup (fCons (fC (.int 0)) (fCons (fC (.int 0)) fNil))) fNil))) (fCons (fTup (fCons (fC (.int 0)) (fCons (fTup (fCons (fNm 1) (fCons (fNm 1) fNil))) fNil))) fNil)))) (fCons (fOp gMul (fOp gMul (fC (.int 3)) (fNm 1)) (fNm 1)) (fCons (fC (.int 6)) fNil)))) fNil))) (tNm 6)))))
  (sRet (fNm 6))))))))))
def F__law_rows := fnR n__law_rows g__law_rows
def n_law : List Str := ["script", "k", "cell", "state", "grid", "before", "wide", "high", "motions", "cells", "parts", "group", "far", "turn"]
def g_law : SF := (sSeq (sFor (fEnum2 (fCons (fOp gAdd (fSl (fNm 0) oNo (oEx (fC (.int 1)))) (fLst (fCons (fBlt gSum (fCons (fNm 0) fNil)) fNil))) fNil)) (tTp 2 (tsCons (tNm 1) (tsCons (tNm 2) tsNil))) (sSeq (sOwn (fCall F__law_draw (fCons (fNm 2) (fCons (fNm 1) fNil))) 3)
  (sFor (fItems (fTup (fCons (fC (.str "square")) (fCons (fC (.str "six")) fNil)))) (tNm 4) (sSeq (sPar [6, 7] [false, false] (fCons (fOp gAdd (fC (.int 1)) (fCallS F__law_digit 3 (fCons (fC (.int 9)) fNil))) (fCons (fOp gAdd (fC (.int 1)) (fCallS F__law_digit 3 (fCons (fC (.int 9)) fNil))) fNil)))
  (sSeq (sAsg (fCallS F__law_motion 3 (fCons (fNm 4) (fCons (fC (.int 6)) fNil))) (tNm 5))
  (sFor (fItems (fCall F__law_rows (fCons (fNm 4) (fCons (fNm 6) (fCons (fNm 7) fNil))))) (tTp 3 (tsCons (tNm 8) (tsCons (tNm 9) (tsCons (tNm 10) tsNil)))) (sSeq (sAsg (fCall F_group_by (fCons (fNm 4) (fCons (fBlt gTuple (fCons (fNm 8) fNil)) fNil))) (tNm 11))
  (sSeq (sIf (fOr (fB (fOp gNe (fOp gMul (fOp gIxD (fIxN 11 (fC (.int 1))) (fC (.int 0))) (fOp gIxD (fIxN 11 (fC (.int 1))) (fC (.int 2)))) (fNm 9))) (fB (fOp gNe (fBlt gLen (fCons (fIxN 11 (fC (.int 2))) fNil)) (fNm 10)))) (sRet (fC (.bool false))) sNil)
  (sSeq (sAsg (fCall F_moved_group (fCons (fNm 11) (fCons (fNm 5) fNil))) (tNm 12))
  (sIf (fOr (fB (fOp gNe (fOp gMul (fOp gIxD (fIxN 12 (fC (.int 1))) (fC (.int 0))) (fOp gIxD (fIxN 12 (fC (.int 1))) (fC (.int 2)))) (fNm 9))) (fOr (fB (fOp gNe (fBlt gLen (fCons (fIxN 12 (fC (.int 2))) fNil)) (fNm 10))) (fB (fOp gNe (fCall F_area_of (fCons (fNm 12) fNil)) (fCall F_area_of (fCons (fNm 11) fNil)))))) (sRet (fC (.bool false))) sNil))))))))))
  (sRet (fOp gEq (fCall F_group_by (fCons (fC (.str "square")) (fCons (fTup (fCons (fTup (fCons (fC (.int 1)) (fCons (fTup (fCons (fC (.int 0)) (fCons (fC (.int 0)) fNil))) fNil))) (fCons (fTup (fCons (fC (.int 0)) (fCons (fTup (fCons (fC (.int 2)) (fCons (fC (.int 0)) fNil))) fNil))) fNil))) fNil))) (fTup (fCons (fC (.str "square")) (fCons (fTup (fCons (fC (.int 2)) (fCons (fC (.int 0)) (fCons (fC (.int 2)) fNil)))) (fCons (fBlt gTuple (fCons (fComp [13] (fRng (fCons (fC (.int 4)) fNil)) (tNm 13) tYes' (fTup (fCons (fNm 13) (fCons (fTup (fCons (fC (.int 0)) (fCons (fC (.int 0)) fNil))) fNil)))) fNil)) fNil)))))))
def F_law := fnR n_law g_law
/-! ### what is known of the module -/
structure Fx (K : PySem.W.Frag) (mg : Str → Option Value) (base : Heap) (T : YT) (cls : Clss) (ad : Str → Addr) : Prop where
  n_isinstance : mg "isinstance" = none
  n_int : mg "int" = none
  n_bool : mg "bool" = none
  n_str : mg "str" = none
  n_tuple : mg "tuple" = none
  n_len : mg "len" = none
  n_all : mg "all" = none
  n_dict : mg "dict" = none
  n_any : mg "any" = none
  n_enumerate : mg "enumerate" = none
  n_sorted : mg "sorted" = none
  n_range : mg "range" = none
  n_sum : mg "sum" = none
  i_gcd : mg "gcd" = some (.builtin "math.gcd")
  g_FAR : ∃ t, mg "FAR" = some (.int 1000000 t)
  g_TURNS : ∃ a, mg "TURNS" = some (.ref a) ∧ (V.ref a, v_TURNS) ∈ T.c
  g_MOST_AREA : ∃ t, mg "MOST_AREA" = some (.int 1000 t)
  g_IDENTITY : ∃ a, mg "IDENTITY" = some (.ref a) ∧ (V.ref a, v_IDENTITY) ∈ T.c
  g_MOST_MOTIONS : ∃ t, mg "MOST_MOTIONS" = some (.int 50 t)
  d_is_whole : ∃ f fd, Fun K "is_whole" "is_whole" s_is_whole f fd ∧ mg "is_whole" = some (.ref f) ∧ Binds K fd ["thing", "least", "most"] []
  d_is_grid : ∃ f fd, Fun K "is_grid" "is_grid" s_is_grid f fd ∧ mg "is_grid" = some (.ref f) ∧ Binds K fd ["thing"] []
  d_need_grid : ∃ f fd, Fun K "need_grid" "need_grid" s_need_grid f fd ∧ mg "need_grid" = some (.ref f) ∧ Binds K fd ["grid"] []
  d_is_cell : ∃ f fd, Fun K "is_cell" "is_cell" s_is_cell f fd ∧ mg "is_cell" = some (.ref f) ∧ Binds K fd ["thing"] []
  d_own_turned : ∃ f fd, Fun K "own_turned" "own_turned" s_own_turned f fd ∧ mg "own_turned" = some (.ref f) ∧ Binds K fd ["grid", "turn", "cell"] []
  d_own_then_turn : ∃ f fd, Fun K "own_then_turn" "own_then_turn" s_own_then_turn f fd ∧ mg "own_then_turn" = some (.ref f) ∧ Binds K fd ["grid", "one", "other"] []
  d_is_lattice : ∃ f fd, Fun K "is_lattice" "is_lattice" s_is_lattice f fd ∧ mg "is_lattice" = some (.ref f) ∧ Binds K fd ["thing"] []
  d_own_in_box : ∃ f fd, Fun K "own_in_box" "own_in_box" s_own_in_box f fd ∧ mg "own_in_box" = some (.ref f) ∧ Binds K fd ["lattice", "cell"] []
  d_reduced : ∃ f fd, Fun K "reduced" "reduced" s_reduced f fd ∧ mg "reduced" = some (.ref f) ∧ Binds K fd ["vectors"] []
  d_own_lattice : ∃ f fd, Fun K "own_lattice" "own_lattice" s_own_lattice f fd ∧ mg "own_lattice" = some (.ref f) ∧ Binds K fd ["vectors"] []
  d_basis : ∃ f fd, Fun K "basis" "basis" s_basis f fd ∧ mg "basis" = some (.ref f) ∧ Binds K fd ["lattice"] []
  d_is_motion : ∃ f fd, Fun K "is_motion" "is_motion" s_is_motion f fd ∧ mg "is_motion" = some (.ref f) ∧ Binds K fd ["grid", "thing"] []
  d_need_motions : ∃ f fd, Fun K "need_motions" "need_motions" s_need_motions f fd ∧ mg "need_motions" = some (.ref f) ∧ Binds K fd ["grid", "motions"] []
  d_added : ∃ f fd, Fun K "added" "added" s_added f fd ∧ mg "added" = some (.ref f) ∧ Binds K fd ["one", "other"] []
  d_own_moved : ∃ f fd, Fun K "own_moved" "own_moved" s_own_moved f fd ∧ mg "own_moved" = some (.ref f) ∧ Binds K fd ["grid", "motion", "cell"] []
  d_own_then : ∃ f fd, Fun K "own_then" "own_then" s_own_then f fd ∧ mg "own_then" = some (.ref f) ∧ Binds K fd ["grid", "one", "other"] []
  d_back_turn : ∃ f fd, Fun K "back_turn" "back_turn" s_back_turn f fd ∧ mg "back_turn" = some (.ref f) ∧ Binds K fd ["grid", "turn"] []
  d_own_back : ∃ f fd, Fun K "own_back" "own_back" s_own_back f fd ∧ mg "own_back" = some (.ref f) ∧ Binds K fd ["grid", "motion"] []
  d_is_part : ∃ f fd, Fun K "is_part" "is_part" s_is_part f fd ∧ mg "is_part" = some (.ref f) ∧ Binds K fd ["grid", "lattice", "thing"] []
  d_is_shut : ∃ f fd, Fun K "is_shut" "is_shut" s_is_shut f fd ∧ mg "is_shut" = some (.ref f) ∧ Binds K fd ["grid", "lattice", "parts"] []
  d_wrong_group : ∃ f fd, Fun K "wrong_group" "wrong_group" s_wrong_group f fd ∧ mg "wrong_group" = some (.ref f) ∧ Binds K fd ["thing"] []
  d_need_group : ∃ f fd, Fun K "need_group" "need_group" s_need_group f fd ∧ mg "need_group" = some (.ref f) ∧ Binds K fd ["group"] []
  d_closed : ∃ f fd, Fun K "closed" "closed" s_closed f fd ∧ mg "closed" = some (.ref f) ∧ Binds K fd ["grid", "motions"] []
  d_own_group : ∃ f fd, Fun K "own_group" "own_group" s_own_group f fd ∧ mg "own_group" = some (.ref f) ∧ Binds K fd ["grid", "motions"] []
  d_group_by : ∃ f fd, Fun K "group_by" "group_by" s_group_by f fd ∧ mg "group_by" = some (.ref f) ∧ Binds K fd ["grid", "motions"] []
  d_area_of : ∃ f fd, Fun K "area_of" "area_of" s_area_of f fd ∧ mg "area_of" = some (.ref f) ∧ Binds K fd ["group"] []
  d_makers : ∃ f fd, Fun K "makers" "makers" s_makers f fd ∧ mg "makers" = some (.ref f) ∧ Binds K fd ["group"] []
  d_moved_group : ∃ f fd, Fun K "moved_group" "moved_group" s_moved_group f fd ∧ mg "moved_group" = some (.ref f) ∧ Binds K fd ["group", "motion"] []
  d__law_mixed : ∃ f fd, Fun K "_law_mixed" "_law_mixed" s__law_mixed f fd ∧ mg "_law_mixed" = some (.ref f) ∧ Binds K fd ["cell", "k"] []
  d__law_draw : ∃ f fd, Fun K "_law_draw" "_law_draw" s__law_draw f fd ∧ mg "_law_draw" = some (.ref f) ∧ Binds K fd ["cell", "k"] []
  d__law_digit : ∃ f fd, Fun K "_law_digit" "_law_digit" s__law_digit f fd ∧ mg "_law_digit" = some (.ref f) ∧ Binds K fd ["state", "below"] []
  d__law_turned : ∃ f fd, Fun K "_law_turned" "_law_turned" s__law_turned f fd ∧ mg "_law_turned" = some (.ref f) ∧ Binds K fd ["grid", "turn", "pair"] []
  d__law_moved : ∃ f fd, Fun K "_law_moved" "_law_moved" s__law_moved f fd ∧ mg "_law_moved" = some (.ref f) ∧ Binds K fd ["grid", "motion", "pair"] []
  d__law_grid : ∃ f fd, Fun K "_law_grid" "_law_grid" s__law_grid f fd ∧ mg "_law_grid" = some (.ref f) ∧ Binds K fd ["state"] []
  d__law_pair : ∃ f fd, Fun K "_law_pair" "_law_pair" s__law_pair f fd ∧ mg "_law_pair" = some (.ref f) ∧ Binds K fd ["state", "wide"] []
  d__law_motion : ∃ f fd, Fun K "_law_motion" "_law_motion" s__law_motion f fd ∧ mg "_law_motion" = some (.ref f) ∧ Binds K fd ["state", "grid", "wide"] []
  d__law_rows : ∃ f fd, Fun K "_law_rows" "_law_rows" s__law_rows f fd ∧ mg "_law_rows" = some (.ref f) ∧ Binds K fd ["grid", "wide", "high"] []
  d_law : ∃ f fd, Fun K "law" "law" s_law f fd ∧ mg "law" = some (.ref f) ∧ Binds K fd ["script"] []
  c_BadGrid : ErrF K mg cls "ValueError" "ValueError.__new__" "ValueError.__init__" tlVE "PatternError" "BadGrid" (defArgs i_BadGrid) (defBody i_BadGrid) (defScope i_BadGrid)
  b_BadGrid : BaseN K mg "PatternError" "ValueError.__init__"
  c_BadMotion : ErrF K mg cls "ValueError" "ValueError.__new__" "ValueError.__init__" tlVE "PatternError" "BadMotion" (defArgs i_BadMotion) (defBody i_BadMotion) (defScope i_BadMotion)
  b_BadMotion : BaseN K mg "PatternError" "ValueError.__init__"
  c_BadGroup : ErrF K mg cls "ValueError" "ValueError.__new__" "ValueError.__init__" tlVE "PatternError" "BadGroup" (defArgs i_BadGroup) (defBody i_BadGroup) (defScope i_BadGroup)
  b_BadGroup : BaseN K mg "PatternError" "ValueError.__init__"
  c_TooMany : ErrF K mg cls "OverflowError" "OverflowError.__new__" "OverflowError.__init__" tlOE "OverflowError" "TooMany" (defArgs i_TooMany) (defBody i_TooMany) (defScope i_TooMany)
  b_TooMany : BaseN K mg "OverflowError" "OverflowError.__init__"
  c_NoSuch : ErrF K mg cls "LookupError" "LookupError.__new__" "LookupError.__init__" tlLE "LookupError" "NoSuch" (defArgs i_NoSuch) (defBody i_NoSuch) (defScope i_NoSuch)
  b_NoSuch : BaseN K mg "LookupError" "LookupError.__init__"
  m_PatternError : mg "PatternError" = some (.ref (ad "PatternError"))
  m_BadGrid : mg "BadGrid" = some (.ref (ad "BadGrid"))
  m_BadMotion : mg "BadMotion" = some (.ref (ad "BadMotion"))
  m_BadGroup : mg "BadGroup" = some (.ref (ad "BadGroup"))
  m_TooMany : mg "TooMany" = some (.ref (ad "TooMany"))
  m_NoSuch : mg "NoSuch" = some (.ref (ad "NoSuch"))
  clo : ∀ c C, cls c = some C → clsOf K c = some C
  xf : ∀ c ∈ eNames, ∀ C, clsOf K c = some C → XfC K C ∧ PySem.W.findIn K (.ref C) (Y.fld c) = some none
section
variable {P : Program} {w : World} {K : PySem.W.Frag} {mg : Str → Option Value} {base : Heap} {T : YT} {cls : Clss} {ad : Str → Addr}
theorem Fx.cast {T2 : YT} (e : T2 = T) (h : Fx K mg base T cls ad) : Fx K mg base T2 cls ad := e ▸ h
theorem e_BadGrid (h : Fx K mg base T cls ad) : ErrC P w K mg base 1 "BadGrid" (clsGet cls "BadGrid") ∧ cls "BadGrid" = some (clsGet cls "BadGrid") := by
  obtain ⟨C, fI, fd, dvs, z⟩ := h.c_BadGrid
  have e := clsGet_eq z.cl
  rw [e]
  refine ⟨⟨⟨_, _, _, _, fI, fd, _, base_VE, z.oex, z.no, z.ini, z.ty, ?_, z.bnd⟩, z.mg⟩, z.cl⟩
  refine fnG_ofD (N := ["self", "value"]) z.fn ⟨rfl, rfl, rfl, by decide +kernel, rfl, by decide +kernel, by decide +kernel⟩ (fun vs H Q E hh => by obtain ⟨_, _, _, rfl, _⟩ := hh; rfl) (fun cdv A outer s H vs Q E _ hr hG hh => ?_)
  exact init_ps (f := "value") base_VE (baseN_name h.b_BadGrid rfl) rfl ⟨_, rfl⟩ (Or.inl rfl) (Or.inl rfl) (by decide) (by decide) hh (by rfl) (by rfl) (by rfl) (by rfl) (by rfl) (by rfl)
theorem e_BadMotion (h : Fx K mg base T cls ad) : ErrC P w K mg base 1 "BadMotion" (clsGet cls "BadMotion") ∧ cls "BadMotion" = some (clsGet cls "BadMotion") := by
  obtain ⟨C, fI, fd, dvs, z⟩ := h.c_BadMotion
  have e := clsGet_eq z.cl
  rw [e]
  refine ⟨⟨⟨_, _, _, _, fI, fd, _, base_VE, z.oex, z.no, z.ini, z.ty, ?_, z.bnd⟩, z.mg⟩, z.cl⟩
  refine fnG_ofD (N := ["self", "value"]) z.fn ⟨rfl, rfl, rfl, by decide +kernel, rfl, by decide +kernel, by decide +kernel⟩ (fun vs H Q E hh => by obtain ⟨_, _, _, rfl, _⟩ := hh; rfl) (fun cdv A outer s H vs Q E _ hr hG hh => ?_)
  exact init_ps (f := "value") base_VE (baseN_name h.b_BadMotion rfl) rfl ⟨_, rfl⟩ (Or.inl rfl) (Or.inl rfl) (by decide) (by decide) hh (by rfl) (by rfl) (by rfl) (by rfl) (by rfl) (by rfl)
theorem e_BadGroup (h : Fx K mg base T cls ad) : ErrC P w K mg base 1 "BadGroup" (clsGet cls "BadGroup") ∧ cls "BadGroup" = some (clsGet cls "BadGroup") := by
  obtain ⟨C, fI, fd, dvs, z⟩ := h.c_BadGroup
  have e := clsGet_eq z.cl
  rw [e]
  refine ⟨⟨⟨_, _, _, _, fI, fd, _, base_VE, z.oex, z.no, z.ini, z.ty, ?_, z.bnd⟩, z.mg⟩, z.cl⟩
  refine fnG_ofD (N := ["self", "place"]) z.fn ⟨rfl, rfl, rfl, by decide +kernel, rfl, by decide +kernel, by decide +kernel⟩ (fun vs H Q E hh => by obtain ⟨_, _, _, rfl, _⟩ := hh; rfl) (fun cdv A outer s H vs Q E _ hr hG hh => ?_)
  exact init_ps (f := "place") base_VE (baseN_name h.b_BadGroup rfl) rfl ⟨_, rfl⟩ (Or.inl rfl) (Or.inl rfl) (by decide) (by decide) hh (by rfl) (by rfl) (by rfl) (by rfl) (by rfl) (by rfl)
theorem e_TooMany (h : Fx K mg base T cls ad) : ErrC P w K mg base 1 "TooMany" (clsGet cls "TooMany") ∧ cls "TooMany" = some (clsGet cls "TooMany") := by
  obtain ⟨C, fI, fd, dvs, z⟩ := h.c_TooMany
  have e := clsGet_eq z.cl
  rw [e]
  refine ⟨⟨⟨_, _, _, _, fI, fd, _, base_OE, z.oex, z.no, z.ini, z.ty, ?_, z.bnd⟩, z.mg⟩, z.cl⟩
  refine fnG_ofD (N := ["self", "most"]) z.fn ⟨rfl, rfl, rfl, by decide +kernel, rfl, by decide +kernel, by decide +kernel⟩ (fun vs H Q E hh => by obtain ⟨_, _, _, rfl, _⟩ := hh; rfl) (fun cdv A outer s H vs Q E _ hr hG hh => ?_)
  exact init_ps (f := "most") base_OE (baseN_name h.b_TooMany rfl) rfl ⟨_, rfl⟩ (Or.inl rfl) (Or.inl rfl) (by decide) (by decide) hh (by rfl) (by rfl) (by rfl) (by rfl) (by rfl) (by rfl)
theorem e_NoSuch (h : Fx K mg base T cls ad) : ErrC P w K mg base 1 "NoSuch" (clsGet cls "NoSuch") ∧ cls "NoSuch" = some (clsGet cls "NoSuch") := by
  obtain ⟨C, fI, fd, dvs, z⟩ := h.c_NoSuch
  have e := clsGet_eq z.cl
  rw [e]
  refine ⟨⟨⟨_, _, _, _, fI, fd, _, base_LE, z.oex, z.no, z.ini, z.ty, ?_, z.bnd⟩, z.mg⟩, z.cl⟩
  refine fnG_ofD (N := ["self", "value"]) z.fn ⟨rfl, rfl, rfl, by decide +kernel, rfl, by decide +kernel, by decide +kernel⟩ (fun vs H Q E hh => by obtain ⟨_, _, _, rfl, _⟩ := hh; rfl) (fun cdv A outer s H vs Q E _ hr hG hh => ?_)
  exact init_ps (f := "value") base_LE (baseN_name h.b_NoSuch rfl) rfl ⟨_, rfl⟩ (Or.inl rfl) (Or.inl rfl) (by decide) (by decide) hh (by rfl) (by rfl) (by rfl) (by rfl) (by rfl) (by rfl)
theorem S_is_whole : FnScope n_is_whole ["thing", "least", "most"] (defScope s_is_whole) := ⟨rfl, rfl, rfl, by decide +kernel, rfl, by decide +kernel, by decide +kernel⟩
theorem B_is_whole (h : Fx K mg base T cls ad) (f : Addr) (hm : mg "is_whole" = some (.ref f)) : BodyOk P w K mg base cls T 0 n_is_whole "is_whole" s_is_whole f g_is_whole := by
  intro cdv A outer s H E B ok hcd hT hr hG cx
  subst hT
  have nd := S_is_whole.nd
  exact (sb_one (ss_ret (ee_and (ee_isi h.n_isinstance h.n_int rfl (ee_nm 0)) (ee_and (ee_not (ee_isi h.n_isinstance h.n_bool rfl (ee_nm 0))) (ee_one (ee_chain (opd_le hr.units) (opd_le hr.units) (ee_nm 1) (ee_nm 0) (ee_nm 2)))))))
theorem c_is_whole (h : Fx K mg base T cls ad) : Callee P w K mg base 1 "is_whole" 3 (spF K T cls 3 F_is_whole) := by
  obtain ⟨f, fd, Fn, hm, hb⟩ := h.d_is_whole
  exact ⟨f, fd, _, fn_pure Fn S_is_whole rfl (B_is_whole h f hm), hm, Fn.kp, hb, rfl⟩
theorem S_is_grid : FnScope n_is_grid ["thing"] (defScope s_is_grid) := ⟨rfl, rfl, rfl, by decide +kernel, rfl, by decide +kernel, by decide +kernel⟩
theorem B_is_grid (h : Fx K mg base T cls ad) (f : Addr) (hm : mg "is_grid" = some (.ref f)) : BodyOk P w K mg base cls T 0 n_is_grid "is_grid" s_is_grid f g_is_grid := by
  intro cdv A outer s H E B ok hcd hT hr hG cx
  subst hT
  have nd := S_is_grid.nd
  exact (sb_one (ss_ret (ee_and (ee_isi h.n_isinstance h.n_str rfl (ee_nm 0)) (ee_one (ee_cmp (opd_inE (room65 hr)) (ee_nm 0) (ee_tup (ea_cons ee_str (ea_cons ee_str ea_nil))))))))
theorem c_is_grid (h : Fx K mg base T cls ad) : Callee P w K mg base 1 "is_grid" 1 (spF K T cls 1 F_is_grid) := by
  obtain ⟨f, fd, Fn, hm, hb⟩ := h.d_is_grid
  exact ⟨f, fd, _, fn_pure Fn S_is_grid rfl (B_is_grid h f hm), hm, Fn.kp, hb, rfl⟩
theorem S_need_grid : FnScope n_need_grid ["grid"] (defScope s_need_grid) := ⟨rfl, rfl, rfl, by decide +kernel, rfl, by decide +kernel, by decide +kernel⟩
theorem B_need_grid (h : Fx K mg base T cls ad) (f : Addr) (hm : mg "need_grid" = some (.ref f)) : BodyOk P w K mg base cls T 2 n_need_grid "need_grid" s_need_grid f g_need_grid := by
  intro cdv A outer s H E B ok hcd hT hr hG cx
  subst hT
  have nd := S_need_grid.nd
  exact (sb_one (ss_if (et_not (et_val (ee_call cx.toCtxE (c_is_grid h) hr (ea_cons (ee_nm 0) ea_nil)))) (sb_one (ss_raise cx.toCtxE (e_BadGrid h).1 (e_BadGrid (P := P) (w := w) h).2 hr (ee_nm 0))) sb_nil))
theorem c_need_grid (h : Fx K mg base T cls ad) : Callee P w K mg base 3 "need_grid" 1 (spF K T cls 1 F_need_grid) := by
  obtain ⟨f, fd, Fn, hm, hb⟩ := h.d_need_grid
  exact ⟨f, fd, _, fn_pure Fn S_need_grid rfl (B_need_grid h f hm), hm, Fn.kp, hb, rfl⟩
theorem S_is_cell : FnScope n_is_cell ["thing"] (defScope s_is_cell) := ⟨rfl, rfl, rfl, by decide +kernel, rfl, by decide +kernel, by decide +kernel⟩
theorem B_is_cell (h : Fx K mg base T cls ad) (f : Addr) (hm : mg "is_cell" = some (.ref f)) : BodyOk P w K mg base cls T 1 n_is_cell "is_cell" s_is_cell f g_is_cell := by
  intro cdv A outer s H E B ok hcd hT hr hG cx
  subst hT
  have nd := S_is_cell.nd
  exact (sb_one (ss_ret (ee_and (ee_isi h.n_isinstance h.n_tuple rfl (ee_nm 0)) (ee_and (ee_cmp (opd_eq hr.units) (ee_bltN 0 bd_len h.n_len rfl) ee_int) (ee_one (ee_blt (bd_all cx.toCtxE.calm) h.n_all rfl (ea_cons (EN.ee (en_comp (own := [("part", 1)]) cx.toCtxE nd (blk_of (N := n_is_cell) (sc := defScope s_is_cell) (by decide +kernel)) (ei_seq (ee_nm 0)) (fun _ _ _ _ _ => (tt_nm 1 nd)) (fun _ _ _ _ _ => ec_nil) (fun _ _ _ _ _ => (ee_call (CtxE.blk cx.toCtxE) (c_is_whole h) hr (ea_cons (ee_nm 1) (ea_cons (ee_op opd_sub ee_int (ee_glob (CtxE.blk cx.toCtxE).tabs.2 (glc h.g_FAR))) (ea_cons (ee_glob (CtxE.blk cx.toCtxE).tabs.2 (glc h.g_FAR)) ea_nil))))))) ea_nil)))))))
theorem c_is_cell (h : Fx K mg base T cls ad) : Callee P w K mg base 2 "is_cell" 1 (spF K T cls 1 F_is_cell) := by
  obtain ⟨f, fd, Fn, hm, hb⟩ := h.d_is_cell
  exact ⟨f, fd, _, fn_pure Fn S_is_cell rfl (B_is_cell h f hm), hm, Fn.kp, hb, rfl⟩
theorem S_own_turned : FnScope n_own_turned ["grid", "turn", "cell"] (defScope s_own_turned) := ⟨rfl, rfl, rfl, by decide +kernel, rfl, by decide +kernel, by decide +kernel⟩
theorem B_own_turned (h : Fx K mg base T cls ad) (f : Addr) (hm : mg "own_turned" = some (.ref f)) : BodyOk P w K mg base cls T 0 n_own_turned "own_turned" s_own_turned f g_own_turned := by
  intro cdv A outer s H E B ok hcd hT hr hG cx
  subst hT
  have nd := S_own_turned.nd
  exact (sb_cons (ss_asg (ee_ixd hr.units (ee_ixd hr.units (ee_glob cx.toCtxE.tabs.2 (glT h.g_TURNS)) (ee_nm 0)) (ee_nm 1)) (tt_tup cx.toCtxE.calm (tts_cons (tt_nm 3 nd) (tts_cons (tt_nm 4 nd) tts_nil))))
  (sb_one (ss_ret (ee_tup (ea_cons (ee_op opd_add (ee_op opd_mul (ee_ixn 3 hr.units ee_int) (ee_ixn 2 hr.units ee_int)) (ee_op opd_mul (ee_ixn 3 hr.units ee_int) (ee_ixn 2 hr.units ee_int))) (ea_cons (ee_op opd_add (ee_op opd_mul (ee_ixn 4 hr.units ee_int) (ee_ixn 2 hr.units ee_int)) (ee_op opd_mul (ee_ixn 4 hr.units ee_int) (ee_ixn 2 hr.units ee_int))) ea_nil))))))
theorem c_own_turned (h : Fx K mg base T cls ad) : Callee P w K mg base 1 "own_turned" 3 (spF K T cls 3 F_own_turned) := by
  obtain ⟨f, fd, Fn, hm, hb⟩ := h.d_own_turned
  exact ⟨f, fd, _, fn_pure Fn S_own_turned rfl (B_own_turned h f hm), hm, Fn.kp, hb, rfl⟩
theorem S_own_then_turn : FnScope n_own_then_turn ["grid", "one", "other"] (defScope s_own_then_turn) := ⟨rfl, rfl, rfl, by decide +kernel, rfl, by decide +kernel, by decide +kernel⟩
theorem B_own_then_turn (h : Fx K mg base T cls ad) (f : Addr) (hm : mg "own_then_turn" = some (.ref f)) : BodyOk P w K mg base cls T 1 n_own_then_turn "own_then_turn" s_own_then_turn f g_own_then_turn := by
  intro cdv A outer s H E B ok hcd hT hr hG cx
  subst hT
  have nd := S_own_then_turn.nd
  exact (sb_cons (ss_asg (ee_call cx.toCtxE (c_own_turned h) hr (ea_cons (ee_nm 0) (ea_cons (ee_nm 2) (ea_cons (ee_call cx.toCtxE (c_own_turned h) hr (ea_cons (ee_nm 0) (ea_cons (ee_nm 1) (ea_cons (ee_tup (ea_cons ee_int (ea_cons ee_int ea_nil))) ea_nil)))) ea_nil)))) (tt_nm 3 nd))
  (sb_cons (ss_asg (ee_call cx.toCtxE (c_own_turned h) hr (ea_cons (ee_nm 0) (ea_cons (ee_nm 2) (ea_cons (ee_call cx.toCtxE (c_own_turned h) hr (ea_cons (ee_nm 0) (ea_cons (ee_nm 1) (ea_cons (ee_tup (ea_cons ee_int (ea_cons ee_int ea_nil))) ea_nil)))) ea_nil)))) (tt_nm 4 nd))
  (sb_one (ss_ret (ee_cidx hr cx.toCtxE.tabs.2 h.g_TURNS (ee_nm 0) (ee_tup (ea_cons (ee_tup (ea_cons (ee_ixn 3 hr.units ee_int) (ea_cons (ee_ixn 4 hr.units ee_int) ea_nil))) (ea_cons (ee_tup (ea_cons (ee_ixn 3 hr.units ee_int) (ea_cons (ee_ixn 4 hr.units ee_int) ea_nil))) ea_nil))))))))
theorem c_own_then_turn (h : Fx K mg base T cls ad) : Callee P w K mg base 2 "own_then_turn" 3 (spF K T cls 3 F_own_then_turn) := by
  obtain ⟨f, fd, Fn, hm, hb⟩ := h.d_own_then_turn
  exact ⟨f, fd, _, fn_pure Fn S_own_then_turn rfl (B_own_then_turn h f hm), hm, Fn.kp, hb, rfl⟩
theorem S_is_lattice : FnScope n_is_lattice ["thing"] (defScope s_is_lattice) := ⟨rfl, rfl, rfl, by decide +kernel, rfl, by decide +kernel, by decide +kernel⟩
theorem B_is_lattice (h : Fx K mg base T cls ad) (f : Addr) (hm : mg "is_lattice" = some (.ref f)) : BodyOk P w K mg base cls T 1 n_is_lattice "is_lattice" s_is_lattice f g_is_lattice := by
  intro cdv A outer s H E B ok hcd hT hr hG cx
  subst hT
  have nd := S_is_lattice.nd
  exact (sb_cons (ss_if (ew_t (ew_or (et_not (et_val (ee_isi h.n_isinstance h.n_tuple rfl (ee_nm 0)))) (ew_or (et_cmp (opd_ne hr.units) (ee_bltN 0 bd_len h.n_len rfl) ee_int) (ew_or1 (et_not (et_val (ee_blt (bd_all cx.toCtxE.calm) h.n_all rfl (ea_cons (EN.ee (en_comp (own := [("part", 1)]) cx.toCtxE nd (blk_of (N := n_is_lattice) (sc := defScope s_is_lattice) (by decide +kernel)) (ei_seq (ee_nm 0)) (fun _ _ _ _ _ => (tt_nm 1 nd)) (fun _ _ _ _ _ => ec_nil) (fun _ _ _ _ _ => (ee_call (CtxE.blk cx.toCtxE) (c_is_whole h) hr (ea_cons (ee_nm 1) (ea_cons ee_int (ea_cons (ee_glob (CtxE.blk cx.toCtxE).tabs.2 (glc h.g_MOST_AREA)) ea_nil))))))) ea_nil)))))))) (sb_one (ss_ret ee_bl)) sb_nil)
  (sb_one (ss_ret (ee_and (ee_cmp (opd_ge hr.units) (ee_ixn 0 hr.units ee_int) ee_int) (ee_and (ee_cmp (opd_ge hr.units) (ee_ixn 0 hr.units ee_int) ee_int) (ee_and (ee_cmp (opd_lt hr.units) (ee_ixn 0 hr.units ee_int) (ee_ixn 0 hr.units ee_int)) (ee_one (ee_cmp (opd_le hr.units) (ee_op opd_mul (ee_ixn 0 hr.units ee_int) (ee_ixn 0 hr.units ee_int)) (ee_glob cx.toCtxE.tabs.2 (glc h.g_MOST_AREA))))))))))
theorem c_is_lattice (h : Fx K mg base T cls ad) : Callee P w K mg base 2 "is_lattice" 1 (spF K T cls 1 F_is_lattice) := by
  obtain ⟨f, fd, Fn, hm, hb⟩ := h.d_is_lattice
  exact ⟨f, fd, _, fn_pure Fn S_is_lattice rfl (B_is_lattice h f hm), hm, Fn.kp, hb, rfl⟩
theorem S_own_in_box : FnScope n_own_in_box ["lattice", "cell"] (defScope s_own_in_box) := ⟨rfl, rfl, rfl, by decide +kernel, rfl, by decide +kernel, by decide +kernel⟩
theorem B_own_in_box (h : Fx K mg base T cls ad) (f : Addr) (hm : mg "own_in_box" = some (.ref f)) : BodyOk P w K mg base cls T 0 n_own_in_box "own_in_box" s_own_in_box f g_own_in_box := by
  intro cdv A outer s H E B ok hcd hT hr hG cx
  subst hT
  have nd := S_own_in_box.nd
  exact (sb_cons (ss_asg (ee_op opd_div (ee_ixn 1 hr.units ee_int) (ee_ixn 0 hr.units ee_int)) (tt_nm 2 nd))
  (sb_one (ss_ret (ee_tup (ea_cons (ee_op opd_mod (ee_op opd_sub (ee_ixn 1 hr.units ee_int) (ee_op opd_mul (ee_nm 2) (ee_ixn 0 hr.units ee_int))) (ee_ixn 0 hr.units ee_int)) (ea_cons (ee_op opd_sub (ee_ixn 1 hr.units ee_int) (ee_op opd_mul (ee_nm 2) (ee_ixn 0 hr.units ee_int))) ea_nil))))))
theorem c_own_in_box (h : Fx K mg base T cls ad) : Callee P w K mg base 1 "own_in_box" 2 (spF K T cls 2 F_own_in_box) := by
  obtain ⟨f, fd, Fn, hm, hb⟩ := h.d_own_in_box
  exact ⟨f, fd, _, fn_pure Fn S_own_in_box rfl (B_own_in_box h f hm), hm, Fn.kp, hb, rfl⟩
theorem S_reduced : FnScope n_reduced ["vectors"] (defScope s_reduced) := ⟨rfl, rfl, rfl, by decide +kernel, rfl, by decide +kernel, by decide +kernel⟩
theorem B_reduced (h : Fx K mg base T cls ad) (f : Addr) (hm : mg "reduced" = some (.ref f)) : BodyOk P w K mg base cls T 0 n_reduced "reduced" s_reduced f g_reduced := by
  intro cdv A outer s H E B ok hcd hT hr hG cx
  subst hT
  have nd := S_reduced.nd
  exact (sb_cons (ss_asg (ee_tup (ea_cons ee_int (ea_cons (ee_tup (ea_cons ee_int (ea_cons ee_int ea_nil))) ea_nil))) (tt_tup cx.toCtxE.calm (tts_cons (tt_nm 1 nd) (tts_cons (tt_nm 2 nd) tts_nil))))
  (sb_cons (ss_for cx (ei_seq (ee_nm 0)) (tt_nm 3 nd) (sb_cons (ss_asg (ee_nm 3) (tt_nm 4 nd))
  (sb_cons (ss_while cx (et_cmp (opd_ne hr.units) (ee_ixn 4 hr.units ee_int) ee_int) (sb_cons (ss_asg (ee_op opd_div (ee_ixn 2 hr.units ee_int) (ee_ixn 4 hr.units ee_int)) (tt_nm 5 nd))
  (sb_one (ss_par 2 4 cx.toCtxE.calm nd (ek_sh (ee_nm 4) (ek_sh (ee_tup (ea_cons (ee_op opd_sub (ee_ixn 2 hr.units ee_int) (ee_op opd_mul (ee_nm 5) (ee_ixn 4 hr.units ee_int))) (ea_cons (ee_op opd_sub (ee_ixn 2 hr.units ee_int) (ee_op opd_mul (ee_nm 5) (ee_ixn 4 hr.units ee_int))) ea_nil))) ek_nil))))))
  (sb_one (ss_asg (ee_bltm bd_gcd h.i_gcd (ea_cons (ee_nm 1) (ea_cons (ee_ixn 4 hr.units ee_int) ea_nil))) (tt_nm 1 nd))))))
  (sb_cons (ss_if (et_cmp (opd_lt hr.units) (ee_ixn 2 hr.units ee_int) ee_int) (sb_one (ss_asg (ee_tup (ea_cons (ee_op opd_sub ee_int (ee_ixn 2 hr.units ee_int)) (ea_cons (ee_op opd_sub ee_int (ee_ixn 2 hr.units ee_int)) ea_nil))) (tt_nm 2 nd))) sb_nil)
  (sb_one (ss_ret (ee_tup (ea_cons (ee_nm 1) (ea_cons (ee_if (et_cmp (opd_gt hr.units) (ee_nm 1) ee_int) (ee_op opd_mod (ee_ixn 2 hr.units ee_int) (ee_nm 1)) (ee_ixn 2 hr.units ee_int)) (ea_cons (ee_ixn 2 hr.units ee_int) ea_nil)))))))))
theorem c_reduced (h : Fx K mg base T cls ad) : Callee P w K mg base 1 "reduced" 1 (spF K T cls 1 F_reduced) := by
  obtain ⟨f, fd, Fn, hm, hb⟩ := h.d_reduced
  exact ⟨f, fd, _, fn_pure Fn S_reduced rfl (B_reduced h f hm), hm, Fn.kp, hb, rfl⟩
theorem S_own_lattice : FnScope n_own_lattice ["vectors"] (defScope s_own_lattice) := ⟨rfl, rfl, rfl, by decide +kernel, rfl, by decide +kernel, by decide +kernel⟩
theorem B_own_lattice (h : Fx K mg base T cls ad) (f : Addr) (hm : mg "own_lattice" = some (.ref f)) : BodyOk P w K mg base cls T 2 n_own_lattice "own_lattice" s_own_lattice f g_own_lattice := by
  intro cdv A outer s H E B ok hcd hT hr hG cx
  subst hT
  have nd := S_own_lattice.nd
  exact (sb_cons (ss_asg (ee_call cx.toCtxE (c_reduced h) hr (ea_cons (ee_nm 0) ea_nil)) (tt_tup cx.toCtxE.calm (tts_cons (tt_nm 1 nd) (tts_cons (tt_nm 2 nd) (tts_cons (tt_nm 3 nd) tts_nil)))))
  (sb_cons (ss_if (ew_t (ew_or (et_cmp (opd_eq hr.units) (ee_nm 1) ee_int) (ew_or1 (et_cmp (opd_eq hr.units) (ee_nm 3) ee_int)))) (sb_one (ss_ret ee_non)) sb_nil)
  (sb_cons (ss_if (et_cmp (opd_gt hr.units) (ee_op opd_mul (ee_nm 1) (ee_nm 3)) (ee_glob cx.toCtxE.tabs.2 (glc h.g_MOST_AREA))) (sb_one (ss_raise cx.toCtxE (e_TooMany h).1 (e_TooMany (P := P) (w := w) h).2 hr (ee_glob cx.toCtxE.tabs.2 (glc h.g_MOST_AREA)))) sb_nil)
  (sb_one (ss_ret (ee_tup (ea_cons (ee_nm 1) (ea_cons (ee_nm 2) (ea_cons (ee_nm 3) ea_nil)))))))))
theorem c_own_lattice (h : Fx K mg base T cls ad) : Callee P w K mg base 3 "own_lattice" 1 (spF K T cls 1 F_own_lattice) := by
  obtain ⟨f, fd, Fn, hm, hb⟩ := h.d_own_lattice
  exact ⟨f, fd, _, fn_pure Fn S_own_lattice rfl (B_own_lattice h f hm), hm, Fn.kp, hb, rfl⟩
theorem S_basis : FnScope n_basis ["lattice"] (defScope s_basis) := ⟨rfl, rfl, rfl, by decide +kernel, rfl, by decide +kernel, by decide +kernel⟩
theorem B_basis (h : Fx K mg base T cls ad) (f : Addr) (hm : mg "basis" = some (.ref f)) : BodyOk P w K mg base cls T 0 n_basis "basis" s_basis f g_basis := by
  intro cdv A outer s H E B ok hcd hT hr hG cx
  subst hT
  have nd := S_basis.nd
  exact (sb_one (ss_ret (ee_tup (ea_cons (ee_tup (ea_cons (ee_ixn 0 hr.units ee_int) (ea_cons ee_int ea_nil))) (ea_cons (ee_tup (ea_cons (ee_ixn 0 hr.units ee_int) (ea_cons (ee_ixn 0 hr.units ee_int) ea_nil))) ea_nil)))))
theorem c_basis (h : Fx K mg base T cls ad) : Callee P w K mg base 1 "basis" 1 (spF K T cls 1 F_basis) := by
  obtain ⟨f, fd, Fn, hm, hb⟩ := h.d_basis
  exact ⟨f, fd, _, fn_pure Fn S_basis rfl (B_basis h f hm), hm, Fn.kp, hb, rfl⟩
theorem S_is_motion : FnScope n_is_motion ["grid", "thing"] (defScope s_is_motion) := ⟨rfl, rfl, rfl, by decide +kernel, rfl, by decide +kernel, by decide +kernel⟩
theorem B_is_motion (h : Fx K mg base T cls ad) (f : Addr) (hm : mg "is_motion" = some (.ref f)) : BodyOk P w K mg base cls T 2 n_is_motion "is_motion" s_is_motion f g_is_motion := by
  intro cdv A outer s H E B ok hcd hT hr hG cx
  subst hT
  have nd := S_is_motion.nd
  exact (sb_cons (ss_if (ew_t (ew_or (et_not (et_val (ee_isi h.n_isinstance h.n_tuple rfl (ee_nm 1)))) (ew_or (et_cmp (opd_ne hr.units) (ee_bltN 1 bd_len h.n_len rfl) ee_int) (ew_or1 (et_not (et_val (ee_call cx.toCtxE (c_is_whole h) hr (ea_cons (ee_ixn 1 hr.units ee_int) (ea_cons ee_int (ea_cons (ee_op opd_sub (ee_blt bd_len h.n_len rfl (ea_cons (ee_ixd hr.units (ee_glob cx.toCtxE.tabs.2 (glT h.g_TURNS)) (ee_nm 0)) ea_nil)) ee_int) ea_nil)))))))))) (sb_one (ss_ret ee_bl)) sb_nil)
  (sb_one (ss_ret (ee_call cx.toCtxE (c_is_cell h) hr (ea_cons (ee_ixn 1 hr.units ee_int) ea_nil)))))
theorem c_is_motion (h : Fx K mg base T cls ad) : Callee P w K mg base 3 "is_motion" 2 (spF K T cls 2 F_is_motion) := by
  obtain ⟨f, fd, Fn, hm, hb⟩ := h.d_is_motion
  exact ⟨f, fd, _, fn_pure Fn S_is_motion rfl (B_is_motion h f hm), hm, Fn.kp, hb, rfl⟩
theorem S_need_motions : FnScope n_need_motions ["grid", "motions"] (defScope s_need_motions) := ⟨rfl, rfl, rfl, by decide +kernel, rfl, by decide +kernel, by decide +kernel⟩
theorem B_need_motions (h : Fx K mg base T cls ad) (f : Addr) (hm : mg "need_motions" = some (.ref f)) : BodyOk P w K mg base cls T 3 n_need_motions "need_motions" s_need_motions f g_need_motions := by
  intro cdv A outer s H E B ok hcd hT hr hG cx
  subst hT
  have nd := S_need_motions.nd
  exact (sb_cons (ss_expr (ee_call cx.toCtxE (c_need_grid h) hr (ea_cons (ee_nm 0) ea_nil)))
  (sb_cons (ss_if (ew_t (ew_or (et_not (et_val (ee_isi h.n_isinstance h.n_tuple rfl (ee_nm 1)))) (ew_or1 (et_cmp (opd_gt hr.units) (ee_bltN 1 bd_len h.n_len rfl) (ee_glob cx.toCtxE.tabs.2 (glc h.g_MOST_MOTIONS)))))) (sb_one (ss_raise cx.toCtxE (e_BadMotion h).1 (e_BadMotion (P := P) (w := w) h).2 hr (ee_nm 1))) sb_nil)
  (sb_one (ss_for cx (ei_seq (ee_nm 1)) (tt_nm 2 nd) (sb_one (ss_if (et_not (et_val (ee_call cx.toCtxE (c_is_motion h) hr (ea_cons (ee_nm 0) (ea_cons (ee_nm 2) ea_nil))))) (sb_one (ss_raise cx.toCtxE (e_BadMotion h).1 (e_BadMotion (P := P) (w := w) h).2 hr (ee_nm 2))) sb_nil))))))
theorem c_need_motions (h : Fx K mg base T cls ad) : Callee P w K mg base 4 "need_motions" 2 (spF K T cls 2 F_need_motions) := by
  obtain ⟨f, fd, Fn, hm, hb⟩ := h.d_need_motions
  exact ⟨f, fd, _, fn_pure Fn S_need_motions rfl (B_need_motions h f hm), hm, Fn.kp, hb, rfl⟩
theorem S_added : FnScope n_added ["one", "other"] (defScope s_added) := ⟨rfl, rfl, rfl, by decide +kernel, rfl, by decide +kernel, by decide +kernel⟩
theorem B_added (h : Fx K mg base T cls ad) (f : Addr) (hm : mg "added" = some (.ref f)) : BodyOk P w K mg base cls T 0 n_added "added" s_added f g_added := by
  intro cdv A outer s H E B ok hcd hT hr hG cx
  subst hT
  have nd := S_added.nd
  exact (sb_one (ss_ret (ee_tup (ea_cons (ee_op opd_add (ee_ixn 0 hr.units ee_int) (ee_ixn 1 hr.units ee_int)) (ea_cons (ee_op opd_add (ee_ixn 0 hr.units ee_int) (ee_ixn 1 hr.units ee_int)) ea_nil)))))
theorem c_added (h : Fx K mg base T cls ad) : Callee P w K mg base 1 "added" 2 (spF K T cls 2 F_added) := by
  obtain ⟨f, fd, Fn, hm, hb⟩ := h.d_added
  exact ⟨f, fd, _, fn_pure Fn S_added rfl (B_added h f hm), hm, Fn.kp, hb, rfl⟩
theorem S_own_moved : FnScope n_own_moved ["grid", "motion", "cell"] (defScope s_own_moved) := ⟨rfl, rfl, rfl, by decide +kernel, rfl, by decide +kernel, by decide +kernel⟩
theorem B_own_moved (h : Fx K mg base T cls ad) (f : Addr) (hm : mg "own_moved" = some (.ref f)) : BodyOk P w K mg base cls T 1 n_own_moved "own_moved" s_own_moved f g_own_moved := by
  intro cdv A outer s H E B ok hcd hT hr hG cx
  subst hT
  have nd := S_own_moved.nd
  exact (sb_one (ss_ret (ee_call cx.toCtxE (c_added h) hr (ea_cons (ee_call cx.toCtxE (c_own_turned h) hr (ea_cons (ee_nm 0) (ea_cons (ee_ixn 1 hr.units ee_int) (ea_cons (ee_nm 2) ea_nil)))) (ea_cons (ee_ixn 1 hr.units ee_int) ea_nil)))))
theorem c_own_moved (h : Fx K mg base T cls ad) : Callee P w K mg base 2 "own_moved" 3 (spF K T cls 3 F_own_moved) := by
  obtain ⟨f, fd, Fn, hm, hb⟩ := h.d_own_moved
  exact ⟨f, fd, _, fn_pure Fn S_own_moved rfl (B_own_moved h f hm), hm, Fn.kp, hb, rfl⟩
theorem S_own_then : FnScope n_own_then ["grid", "one", "other"] (defScope s_own_then) := ⟨rfl, rfl, rfl, by decide +kernel, rfl, by decide +kernel, by decide +kernel⟩
theorem B_own_then (h : Fx K mg base T cls ad) (f : Addr) (hm : mg "own_then" = some (.ref f)) : BodyOk P w K mg base cls T 2 n_own_then "own_then" s_own_then f g_own_then := by
  intro cdv A outer s H E B ok hcd hT hr hG cx
  subst hT
  have nd := S_own_then.nd
  exact (sb_one (ss_ret (ee_tup (ea_cons (ee_call cx.toCtxE (c_own_then_turn h) hr (ea_cons (ee_nm 0) (ea_cons (ee_ixn 1 hr.units ee_int) (ea_cons (ee_ixn 2 hr.units ee_int) ea_nil)))) (ea_cons (ee_call cx.toCtxE (c_own_moved h) hr (ea_cons (ee_nm 0) (ea_cons (ee_nm 2) (ea_cons (ee_ixn 1 hr.units ee_int) ea_nil)))) ea_nil)))))
theorem c_own_then (h : Fx K mg base T cls ad) : Callee P w K mg base 3 "own_then" 3 (spF K T cls 3 F_own_then) := by
  obtain ⟨f, fd, Fn, hm, hb⟩ := h.d_own_then
  exact ⟨f, fd, _, fn_pure Fn S_own_then rfl (B_own_then h f hm), hm, Fn.kp, hb, rfl⟩
theorem S_back_turn : FnScope n_back_turn ["grid", "turn"] (defScope s_back_turn) := ⟨rfl, rfl, rfl, by decide +kernel, rfl, by decide +kernel, by decide +kernel⟩
theorem B_back_turn (h : Fx K mg base T cls ad) (f : Addr) (hm : mg "back_turn" = some (.ref f)) : BodyOk P w K mg base cls T 0 n_back_turn "back_turn" s_back_turn f g_back_turn := by
  intro cdv A outer s H E B ok hcd hT hr hG cx
  subst hT
  have nd := S_back_turn.nd
  exact (sb_cons (ss_asg (ee_op opd_div (ee_blt bd_len h.n_len rfl (ea_cons (ee_ixd hr.units (ee_glob cx.toCtxE.tabs.2 (glT h.g_TURNS)) (ee_nm 0)) ea_nil)) ee_int) (tt_nm 2 nd))
  (sb_one (ss_ret (ee_if (et_cmp (opd_lt hr.units) (ee_nm 1) (ee_nm 2)) (ee_op opd_mod (ee_op opd_sub (ee_nm 2) (ee_nm 1)) (ee_nm 2)) (ee_nm 1)))))
theorem c_back_turn (h : Fx K mg base T cls ad) : Callee P w K mg base 1 "back_turn" 2 (spF K T cls 2 F_back_turn) := by
  obtain ⟨f, fd, Fn, hm, hb⟩ := h.d_back_turn
  exact ⟨f, fd, _, fn_pure Fn S_back_turn rfl (B_back_turn h f hm), hm, Fn.kp, hb, rfl⟩
theorem S_own_back : FnScope n_own_back ["grid", "motion"] (defScope s_own_back) := ⟨rfl, rfl, rfl, by decide +kernel, rfl, by decide +kernel, by decide +kernel⟩
theorem B_own_back (h : Fx K mg base T cls ad) (f : Addr) (hm : mg "own_back" = some (.ref f)) : BodyOk P w K mg base cls T 1 n_own_back "own_back" s_own_back f g_own_back := by
  intro cdv A outer s H E B ok hcd hT hr hG cx
  subst hT
  have nd := S_own_back.nd
  exact (sb_cons (ss_asg (ee_call cx.toCtxE (c_back_turn h) hr (ea_cons (ee_nm 0) (ea_cons (ee_ixn 1 hr.units ee_int) ea_nil))) (tt_nm 2 nd))
  (sb_cons (ss_asg (ee_call cx.toCtxE (c_own_turned h) hr (ea_cons (ee_nm 0) (ea_cons (ee_nm 2) (ea_cons (ee_ixn 1 hr.units ee_int) ea_nil)))) (tt_nm 3 nd))
  (sb_one (ss_ret (ee_tup (ea_cons (ee_nm 2) (ea_cons (ee_tup (ea_cons (ee_op opd_sub ee_int (ee_ixn 3 hr.units ee_int)) (ea_cons (ee_op opd_sub ee_int (ee_ixn 3 hr.units ee_int)) ea_nil))) ea_nil)))))))
theorem c_own_back (h : Fx K mg base T cls ad) : Callee P w K mg base 2 "own_back" 2 (spF K T cls 2 F_own_back) := by
  obtain ⟨f, fd, Fn, hm, hb⟩ := h.d_own_back
  exact ⟨f, fd, _, fn_pure Fn S_own_back rfl (B_own_back h f hm), hm, Fn.kp, hb, rfl⟩
theorem S_is_part : FnScope n_is_part ["grid", "lattice", "thing"] (defScope s_is_part) := ⟨rfl, rfl, rfl, by decide +kernel, rfl, by decide +kernel, by decide +kernel⟩
theorem B_is_part (h : Fx K mg base T cls ad) (f : Addr) (hm : mg "is_part" = some (.ref f)) : BodyOk P w K mg base cls T 3 n_is_part "is_part" s_is_part f g_is_part := by
  intro cdv A outer s H E B ok hcd hT hr hG cx
  subst hT
  have nd := S_is_part.nd
  exact (sb_one (ss_ret (ee_and (ee_call cx.toCtxE (c_is_motion h) hr (ea_cons (ee_nm 0) (ea_cons (ee_nm 2) ea_nil))) (ee_one (ee_cmp (opd_eq hr.units) (ee_call cx.toCtxE (c_own_in_box h) hr (ea_cons (ee_nm 1) (ea_cons (ee_ixn 2 hr.units ee_int) ea_nil))) (ee_ixn 2 hr.units ee_int))))))
theorem c_is_part (h : Fx K mg base T cls ad) : Callee P w K mg base 4 "is_part" 3 (spF K T cls 3 F_is_part) := by
  obtain ⟨f, fd, Fn, hm, hb⟩ := h.d_is_part
  exact ⟨f, fd, _, fn_pure Fn S_is_part rfl (B_is_part h f hm), hm, Fn.kp, hb, rfl⟩
theorem S_is_shut : FnScope n_is_shut ["grid", "lattice", "parts"] (defScope s_is_shut) := ⟨rfl, rfl, rfl, by decide +kernel, rfl, by decide +kernel, by decide +kernel⟩
theorem B_is_shut (h : Fx K mg base T cls ad) (f : Addr) (hm : mg "is_shut" = some (.ref f)) : BodyOk P w K mg base cls T 3 n_is_shut "is_shut" s_is_shut f g_is_shut := by
  intro cdv A outer s H E B ok hcd hT hr hG cx
  subst hT
  have nd := S_is_shut.nd
  exact (sb_cons (ss_own 3 (en_blto (bo_dict cx.toCtxE.calm (room65 hr)) h.n_dict rfl (ea_cons (EN.ee (en_comp (own := [("part", 4)]) cx.toCtxE nd (blk_of (N := n_is_shut) (sc := defScope s_is_shut) (by decide +kernel)) (ei_seq (ee_nm 2)) (fun _ _ _ _ _ => (tt_nm 4 nd)) (fun _ _ _ _ _ => ec_nil) (fun _ _ _ _ _ => (ee_tup (ea_cons (ee_nm 4) (ea_cons ee_bl ea_nil)))))) ea_nil)) nd)
  (sb_cons (ss_for cx (ei_seq (ee_nm 2)) (tt_nm 4 nd) (sb_cons (ss_if (et_val (ee_blt (bd_any cx.toCtxE.calm) h.n_any rfl (ea_cons (EN.ee (en_comp (own := [("vector", 7)]) cx.toCtxE nd (blk_of (N := n_is_shut) (sc := defScope s_is_shut) (by decide +kernel)) (ei_seq (ee_call cx.toCtxE (c_basis h) hr (ea_cons (ee_nm 1) ea_nil))) (fun _ _ _ _ _ => (tt_nm 7 nd)) (fun _ _ _ _ _ => ec_nil) (fun _ _ _ _ _ => (ee_cmp (opd_ne hr.units) (ee_call (CtxE.blk cx.toCtxE) (c_own_in_box h) hr (ea_cons (ee_nm 1) (ea_cons (ee_call (CtxE.blk cx.toCtxE) (c_own_turned h) hr (ea_cons (ee_nm 0) (ea_cons (ee_ixn 4 hr.units ee_int) (ea_cons (ee_nm 7) ea_nil)))) ea_nil))) (ee_tup (ea_cons ee_int (ea_cons ee_int ea_nil))))))) ea_nil))) (sb_one (ss_ret ee_bl)) sb_nil)
  (sb_one (ss_for cx (ei_seq (ee_nm 2)) (tt_nm 5 nd) (sb_cons (ss_asg (ee_call cx.toCtxE (c_own_then h) hr (ea_cons (ee_nm 0) (ea_cons (ee_nm 4) (ea_cons (ee_nm 5) ea_nil)))) (tt_nm 6 nd))
  (sb_one (ss_if (et_cmpN 3 (opd_notinE (room65 hr)) (ee_tup (ea_cons (ee_ixn 6 hr.units ee_int) (ea_cons (ee_call cx.toCtxE (c_own_in_box h) hr (ea_cons (ee_nm 1) (ea_cons (ee_ixn 6 hr.units ee_int) ea_nil))) ea_nil)))) (sb_one (ss_ret ee_bl)) sb_nil)))))))
  (sb_one (ss_ret ee_bl))))
theorem c_is_shut (h : Fx K mg base T cls ad) : Callee P w K mg base 4 "is_shut" 3 (spF K T cls 3 F_is_shut) := by
  obtain ⟨f, fd, Fn, hm, hb⟩ := h.d_is_shut
  exact ⟨f, fd, _, fn_pure Fn S_is_shut rfl (B_is_shut h f hm), hm, Fn.kp, hb, rfl⟩
theorem S_wrong_group : FnScope n_wrong_group ["thing"] (defScope s_wrong_group) := ⟨rfl, rfl, rfl, by decide +kernel, rfl, by decide +kernel, by decide +kernel⟩
theorem B_wrong_group (h : Fx K mg base T cls ad) (f : Addr) (hm : mg "wrong_group" = some (.ref f)) : BodyOk P w K mg base cls T 4 n_wrong_group "wrong_group" s_wrong_group f g_wrong_group := by
  intro cdv A outer s H E B ok hcd hT hr hG cx
  subst hT
  have nd := S_wrong_group.nd
  exact (sb_cons (ss_if (ew_t (ew_or (et_not (et_val (ee_isi h.n_isinstance h.n_tuple rfl (ee_nm 0)))) (ew_or1 (et_cmp (opd_ne hr.units) (ee_bltN 0 bd_len h.n_len rfl) ee_int)))) (sb_one (ss_ret (EN.ee (en_lst (ea_cons ee_non ea_nil))))) sb_nil)
  (sb_cons (ss_asg (ee_nm 0) (tt_tup cx.toCtxE.calm (tts_cons (tt_nm 1 nd) (tts_cons (tt_nm 2 nd) (tts_cons (tt_nm 3 nd) tts_nil)))))
  (sb_cons (ss_if (et_not (et_val (ee_call cx.toCtxE (c_is_grid h) hr (ea_cons (ee_nm 1) ea_nil)))) (sb_one (ss_ret (EN.ee (en_lst (ea_cons ee_str ea_nil))))) sb_nil)
  (sb_cons (ss_if (et_not (et_val (ee_call cx.toCtxE (c_is_lattice h) hr (ea_cons (ee_nm 2) ea_nil)))) (sb_one (ss_ret (EN.ee (en_lst (ea_cons ee_str ea_nil))))) sb_nil)
  (sb_cons (ss_if (ew_t (ew_or (et_not (et_val (ee_isi h.n_isinstance h.n_tuple rfl (ee_nm 3)))) (ew_or1 (et_not (et_chain (opd_le hr.units) (opd_le hr.units) ee_int (ee_bltN 3 bd_len h.n_len rfl) (ee_blt bd_len h.n_len rfl (ea_cons (ee_ixd hr.units (ee_glob cx.toCtxE.tabs.2 (glT h.g_TURNS)) (ee_nm 1)) ea_nil))))))) (sb_one (ss_ret (EN.ee (en_lst (ea_cons ee_str ea_nil))))) sb_nil)
  (sb_cons (ss_for cx (ei_enum2 h.n_enumerate (ea_cons (ee_nm 3) ea_nil)) (tt_tup cx.toCtxE.calm (tts_cons (tt_nm 4 nd) (tts_cons (tt_nm 5 nd) tts_nil))) (sb_one (ss_if (ew_t (ew_or (et_not (et_val (ee_call cx.toCtxE (c_is_part h) hr (ea_cons (ee_nm 1) (ea_cons (ee_nm 2) (ea_cons (ee_nm 5) ea_nil)))))) (ew_or1 (ew_t (ew_and (et_cmp (opd_gt hr.units) (ee_nm 4) ee_int) (ew_and1 (et_cmp (opd_le hr.units) (ee_ixn 5 hr.units ee_int) (ee_ixd hr.units (ee_ixn 3 hr.units (ee_op opd_sub (ee_nm 4) ee_int)) ee_int)))))))) (sb_one (ss_ret (EN.ee (en_lst (ea_cons (ee_nm 4) ea_nil))))) sb_nil)))
  (sb_cons (ss_if (et_cmp (opd_ne hr.units) (ee_ixn 3 hr.units ee_int) (ee_glob cx.toCtxE.tabs.2 (glT h.g_IDENTITY))) (sb_one (ss_ret (EN.ee (en_lst (ea_cons ee_int ea_nil))))) sb_nil)
  (sb_one (ss_ret (ee_if (et_val (ee_call cx.toCtxE (c_is_shut h) hr (ea_cons (ee_nm 1) (ea_cons (ee_nm 2) (ea_cons (ee_nm 3) ea_nil))))) (EN.ee (en_lst ea_nil)) (EN.ee (en_lst (ea_cons ee_str ea_nil)))))))))))))
theorem c_wrong_group (h : Fx K mg base T cls ad) : Callee P w K mg base 5 "wrong_group" 1 (spF K T cls 1 F_wrong_group) := by
  obtain ⟨f, fd, Fn, hm, hb⟩ := h.d_wrong_group
  exact ⟨f, fd, _, fn_pure Fn S_wrong_group rfl (B_wrong_group h f hm), hm, Fn.kp, hb, rfl⟩
theorem S_need_group : FnScope n_need_group ["group"] (defScope s_need_group) := ⟨rfl, rfl, rfl, by decide +kernel, rfl, by decide +kernel, by decide +kernel⟩
theorem B_need_group (h : Fx K mg base T cls ad) (f : Addr) (hm : mg "need_group" = some (.ref f)) : BodyOk P w K mg base cls T 5 n_need_group "need_group" s_need_group f g_need_group := by
  intro cdv A outer s H E B ok hcd hT hr hG cx
  subst hT
  have nd := S_need_group.nd
  exact (sb_cons (ss_asg (ee_call cx.toCtxE (c_wrong_group h) hr (ea_cons (ee_nm 0) ea_nil)) (tt_nm 1 nd))
  (sb_one (ss_if (et_cmp (opd_ne hr.units) (ee_nm 1) (EN.ee (en_lst ea_nil))) (sb_one (ss_raise cx.toCtxE (e_BadGroup h).1 (e_BadGroup (P := P) (w := w) h).2 hr (ee_ixn 1 hr.units ee_int))) sb_nil)))
theorem c_need_group (h : Fx K mg base T cls ad) : Callee P w K mg base 6 "need_group" 1 (spF K T cls 1 F_need_group) := by
  obtain ⟨f, fd, Fn, hm, hb⟩ := h.d_need_group
  exact ⟨f, fd, _, fn_pure Fn S_need_group rfl (B_need_group h f hm), hm, Fn.kp, hb, rfl⟩
theorem S_closed : FnScope n_closed ["grid", "motions"] (defScope s_closed) := ⟨rfl, rfl, rfl, by decide +kernel, rfl, by decide +kernel, by decide +kernel⟩
theorem B_closed (h : Fx K mg base T cls ad) (f : Addr) (hm : mg "closed" = some (.ref f)) : BodyOk P w K mg base cls T 3 n_closed "closed" s_closed f g_closed := by
  intro cdv A outer s H E B ok hcd hT hr hG cx
  subst hT
  have nd := S_closed.nd
  exact (sb_cons (ss_par3 2 3 4 cx.toCtxE.calm nd (ek_ow (en_dsp (ep_cons ee_int (ee_glob cx.toCtxE.tabs.2 (glT h.g_IDENTITY)) ep_nil)) (ek_ow (en_lst (ea_cons ee_int ea_nil)) (ek_ow (en_lst ea_nil) ek_nil))))
  (sb_cons (ss_while cx (et_cmpL 3 (opd_ne hr.units) (EN.ee (en_lst ea_nil))) (sb_cons (ss_asg (ee_mth0 3 md_pop PySem.F.plainAttrs_list PySem.F.slot_list_pop PySem.F.type_list_pop) (tt_nm 5 nd))
  (sb_one (ss_for cx (ei_seq (ee_nm 1)) (tt_nm 6 nd) (sb_cons (ss_asg (ee_call cx.toCtxE (c_own_then h) hr (ea_cons (ee_nm 0) (ea_cons (ee_ixn 2 hr.units (ee_nm 5)) (ea_cons (ee_nm 6) ea_nil)))) (tt_nm 7 nd))
  (sb_one (ss_if (et_cmpN 2 (opd_notinE (room65 hr)) (ee_ixn 7 hr.units ee_int)) (sb_cons (ss_put 2 hr.units (ee_ixn 7 hr.units ee_int) (ee_nm 7))
  (sb_one (ss_expr (ee_mth 3 md_append PySem.F.plainAttrs_list PySem.F.slot_list_append PySem.F.type_list_append (ea_cons (ee_ixn 7 hr.units ee_int) ea_nil))))) (sb_one (ss_expr (ee_mth 4 md_append PySem.F.plainAttrs_list PySem.F.slot_list_append PySem.F.type_list_append (ea_cons (ee_ixd hr.units (ee_call cx.toCtxE (c_own_then h) hr (ea_cons (ee_nm 0) (ea_cons (ee_nm 7) (ea_cons (ee_call cx.toCtxE (c_own_back h) hr (ea_cons (ee_nm 0) (ea_cons (ee_ixn 2 hr.units (ee_ixn 7 hr.units ee_int)) ea_nil))) ea_nil)))) ee_int) ea_nil)))))))))))
  (sb_one (ss_ret (ee_tup (ea_cons (ee_nm 2) (ea_cons (ee_nm 4) ea_nil)))))))
theorem c_closed (h : Fx K mg base T cls ad) : Callee P w K mg base 4 "closed" 2 (spF K T cls 2 F_closed) := by
  obtain ⟨f, fd, Fn, hm, hb⟩ := h.d_closed
  exact ⟨f, fd, _, fn_pure Fn S_closed rfl (B_closed h f hm), hm, Fn.kp, hb, rfl⟩
theorem S_own_group : FnScope n_own_group ["grid", "motions"] (defScope s_own_group) := ⟨rfl, rfl, rfl, by decide +kernel, rfl, by decide +kernel, by decide +kernel⟩
theorem B_own_group (h : Fx K mg base T cls ad) (f : Addr) (hm : mg "own_group" = some (.ref f)) : BodyOk P w K mg base cls T 4 n_own_group "own_group" s_own_group f g_own_group := by
  intro cdv A outer s H E B ok hcd hT hr hG cx
  subst hT
  have nd := S_own_group.nd
  exact (sb_cons (ss_asg (ee_call cx.toCtxE (c_closed h) hr (ea_cons (ee_nm 0) (ea_cons (ee_nm 1) ea_nil))) (tt_tup cx.toCtxE.calm (tts_cons (tt_nm 2 nd) (tts_cons (tt_nm 3 nd) tts_nil))))
  (sb_cons (ss_asg (ee_call cx.toCtxE (c_own_lattice h) hr (ea_cons (ee_nm 3) ea_nil)) (tt_nm 4 nd))
  (sb_cons (ss_if (et_cmp opd_is (ee_nm 4) ee_non) (sb_one (ss_ret ee_non)) sb_nil)
  (sb_one (ss_ret (ee_tup (ea_cons (ee_nm 0) (ea_cons (ee_nm 4) (ea_cons (ee_blty bd_tuple h.n_tuple rfl (ea_cons (EN.ee (en_comp (own := [("turn", 5)]) cx.toCtxE nd (blk_of (N := n_own_group) (sc := defScope s_own_group) (by decide +kernel)) (ei_seq (EN.ee (en_blt (bn_sorted cx.toCtxE.calm (room70 hr)) h.n_sorted rfl (ea_cons (ee_nm 2) ea_nil)))) (fun _ _ _ _ _ => (tt_nm 5 nd)) (fun _ _ _ _ _ => ec_nil) (fun _ _ _ _ _ => (ee_tup (ea_cons (ee_nm 5) (ea_cons (ee_call (CtxE.blk cx.toCtxE) (c_own_in_box h) hr (ea_cons (ee_nm 4) (ea_cons (ee_ixd hr.units (ee_ixn 2 hr.units (ee_nm 5)) ee_int) ea_nil))) ea_nil)))))) ea_nil)) ea_nil)))))))))
theorem c_own_group (h : Fx K mg base T cls ad) : Callee P w K mg base 5 "own_group" 2 (spF K T cls 2 F_own_group) := by
  obtain ⟨f, fd, Fn, hm, hb⟩ := h.d_own_group
  exact ⟨f, fd, _, fn_pure Fn S_own_group rfl (B_own_group h f hm), hm, Fn.kp, hb, rfl⟩
theorem S_group_by : FnScope n_group_by ["grid", "motions"] (defScope s_group_by) := ⟨rfl, rfl, rfl, by decide +kernel, rfl, by decide +kernel, by decide +kernel⟩
theorem B_group_by (h : Fx K mg base T cls ad) (f : Addr) (hm : mg "group_by" = some (.ref f)) : BodyOk P w K mg base cls T 5 n_group_by "group_by" s_group_by f g_group_by := by
  intro cdv A outer s H E B ok hcd hT hr hG cx
  subst hT
  have nd := S_group_by.nd
  exact (sb_cons (ss_expr (ee_call cx.toCtxE (c_need_motions h) hr (ea_cons (ee_nm 0) (ea_cons (ee_nm 1) ea_nil))))
  (sb_cons (ss_asg (ee_call cx.toCtxE (c_own_group h) hr (ea_cons (ee_nm 0) (ea_cons (ee_nm 1) ea_nil))) (tt_nm 2 nd))
  (sb_cons (ss_if (et_cmp opd_is (ee_nm 2) ee_non) (sb_one (ss_raise cx.toCtxE (e_NoSuch h).1 (e_NoSuch (P := P) (w := w) h).2 hr ee_str)) sb_nil)
  (sb_one (ss_ret (ee_nm 2))))))
theorem c_group_by (h : Fx K mg base T cls ad) : Callee P w K mg base 6 "group_by" 2 (spF K T cls 2 F_group_by) := by
  obtain ⟨f, fd, Fn, hm, hb⟩ := h.d_group_by
  exact ⟨f, fd, _, fn_pure Fn S_group_by rfl (B_group_by h f hm), hm, Fn.kp, hb, rfl⟩
theorem S_area_of : FnScope n_area_of ["group"] (defScope s_area_of) := ⟨rfl, rfl, rfl, by decide +kernel, rfl, by decide +kernel, by decide +kernel⟩
theorem B_area_of (h : Fx K mg base T cls ad) (f : Addr) (hm : mg "area_of" = some (.ref f)) : BodyOk P w K mg base cls T 6 n_area_of "area_of" s_area_of f g_area_of := by
  intro cdv A outer s H E B ok hcd hT hr hG cx
  subst hT
  have nd := S_area_of.nd
  exact (sb_cons (ss_expr (ee_call cx.toCtxE (c_need_group h) hr (ea_cons (ee_nm 0) ea_nil)))
  (sb_cons (ss_par 1 2 cx.toCtxE.calm nd (ek_sh (ee_op opd_mul (ee_ixd hr.units (ee_ixn 0 hr.units ee_int) ee_int) (ee_ixd hr.units (ee_ixn 0 hr.units ee_int) ee_int)) (ek_sh (ee_blt bd_len h.n_len rfl (ea_cons (ee_ixn 0 hr.units ee_int) ea_nil)) ek_nil)))
  (sb_cons (ss_asg (ee_bltm bd_gcd h.i_gcd (ea_cons (ee_nm 1) (ea_cons (ee_nm 2) ea_nil))) (tt_nm 3 nd))
  (sb_one (ss_ret (ee_tup (ea_cons (ee_op opd_div (ee_nm 1) (ee_nm 3)) (ea_cons (ee_op opd_div (ee_nm 2) (ee_nm 3)) ea_nil))))))))
theorem c_area_of (h : Fx K mg base T cls ad) : Callee P w K mg base 7 "area_of" 1 (spF K T cls 1 F_area_of) := by
  obtain ⟨f, fd, Fn, hm, hb⟩ := h.d_area_of
  exact ⟨f, fd, _, fn_pure Fn S_area_of rfl (B_area_of h f hm), hm, Fn.kp, hb, rfl⟩
theorem S_makers : FnScope n_makers ["group"] (defScope s_makers) := ⟨rfl, rfl, rfl, by decide +kernel, rfl, by decide +kernel, by decide +kernel⟩
theorem B_makers (h : Fx K mg base T cls ad) (f : Addr) (hm : mg "makers" = some (.ref f)) : BodyOk P w K mg base cls T 1 n_makers "makers" s_makers f g_makers := by
  intro cdv A outer s H E B ok hcd hT hr hG cx
  subst hT
  have nd := S_makers.nd
  exact (sb_one (ss_ret (ee_tupS (eas_star (ee_ixn 0 hr.units ee_int) (eas_star (EN.ee (en_comp (own := [("vector", 1)]) cx.toCtxE nd (blk_of (N := n_makers) (sc := defScope s_makers) (by decide +kernel)) (ei_seq (ee_call cx.toCtxE (c_basis h) hr (ea_cons (ee_ixn 0 hr.units ee_int) ea_nil))) (fun _ _ _ _ _ => (tt_nm 1 nd)) (fun _ _ _ _ _ => ec_nil) (fun _ _ _ _ _ => (ee_tup (ea_cons ee_int (ea_cons (ee_nm 1) ea_nil)))))) (eas_end ea_nil))))))
theorem c_makers (h : Fx K mg base T cls ad) : Callee P w K mg base 2 "makers" 1 (spF K T cls 1 F_makers) := by
  obtain ⟨f, fd, Fn, hm, hb⟩ := h.d_makers
  exact ⟨f, fd, _, fn_pure Fn S_makers rfl (B_makers h f hm), hm, Fn.kp, hb, rfl⟩
theorem S_moved_group : FnScope n_moved_group ["group", "motion"] (defScope s_moved_group) := ⟨rfl, rfl, rfl, by decide +kernel, rfl, by decide +kernel, by decide +kernel⟩
theorem B_moved_group (h : Fx K mg base T cls ad) (f : Addr) (hm : mg "moved_group" = some (.ref f)) : BodyOk P w K mg base cls T 6 n_moved_group "moved_group" s_moved_group f g_moved_group := by
  intro cdv A outer s H E B ok hcd hT hr hG cx
  subst hT
  have nd := S_moved_group.nd
  exact (sb_cons (ss_expr (ee_call cx.toCtxE (c_need_group h) hr (ea_cons (ee_nm 0) ea_nil)))
  (sb_cons (ss_if (et_not (et_val (ee_call cx.toCtxE (c_is_motion h) hr (ea_cons (ee_ixn 0 hr.units ee_int) (ea_cons (ee_nm 1) ea_nil))))) (sb_one (ss_raise cx.toCtxE (e_BadMotion h).1 (e_BadMotion (P := P) (w := w) h).2 hr (ee_nm 1))) sb_nil)
  (sb_cons (ss_asg (ee_call cx.toCtxE (c_own_back h) hr (ea_cons (ee_ixn 0 hr.units ee_int) (ea_cons (ee_nm 1) ea_nil))) (tt_nm 2 nd))
  (sb_cons (ss_ownC 3 (own := [("some", 4)]) cx.toCtxE nd (blk_of (N := n_moved_group) (sc := defScope s_moved_group) (by decide +kernel)) (ei_seq (ee_call cx.toCtxE (c_makers h) hr (ea_cons (ee_nm 0) ea_nil))) (fun _ _ _ _ _ => (tt_nm 4 nd)) (fun _ _ _ _ _ => ec_nil) (fun _ _ _ _ _ => (ee_call (CtxE.blk cx.toCtxE) (c_own_then h) hr (ea_cons (ee_ixn 0 hr.units ee_int) (ea_cons (ee_call (CtxE.blk cx.toCtxE) (c_own_then h) hr (ea_cons (ee_ixn 0 hr.units ee_int) (ea_cons (ee_nm 2) (ea_cons (ee_nm 4) ea_nil)))) (ea_cons (ee_nm 1) ea_nil))))))
  (sb_one (ss_ret (ee_call cx.toCtxE (c_own_group h) hr (ea_cons (ee_ixn 0 hr.units ee_int) (ea_cons (ee_nm 3) ea_nil)))))))))
theorem c_moved_group (h : Fx K mg base T cls ad) : Callee P w K mg base 7 "moved_group" 2 (spF K T cls 2 F_moved_group) := by
  obtain ⟨f, fd, Fn, hm, hb⟩ := h.d_moved_group
  exact ⟨f, fd, _, fn_pure Fn S_moved_group rfl (B_moved_group h f hm), hm, Fn.kp, hb, rfl⟩
theorem S__law_mixed : FnScope n__law_mixed ["cell", "k"] (defScope s__law_mixed) := ⟨rfl, rfl, rfl, by decide +kernel, rfl, by decide +kernel, by decide +kernel⟩
theorem B__law_mixed (h : Fx K mg base T cls ad) (f : Addr) (hm : mg "_law_mixed" = some (.ref f)) : BodyOk P w K mg base cls T 0 n__law_mixed "_law_mixed" s__law_mixed f g__law_mixed := by
  intro cdv A outer s H E B ok hcd hT hr hG cx
  subst hT
  have nd := S__law_mixed.nd
  exact (sb_cons (ss_asg (ee_op opd_add (ee_op opd_add (ee_op opd_mod (ee_nm 0) (ee_ixd hr.units (EN.ee (en_lst (ea_cons ee_int (ea_cons ee_int (ea_cons ee_int (ea_cons ee_int ea_nil)))))) (ee_op opd_mod (ee_nm 1) ee_int))) (ee_op opd_mul ee_int (ee_nm 1))) ee_int) (tt_nm 2 nd))
  (sb_one (ss_ret (ee_op opd_mod (ee_op opd_mul (ee_op opd_mod (ee_op opd_mul (ee_nm 2) (ee_nm 2)) ee_int) ee_int) ee_int))))
theorem c__law_mixed (h : Fx K mg base T cls ad) : Callee P w K mg base 1 "_law_mixed" 2 (spF K T cls 2 F__law_mixed) := by
  obtain ⟨f, fd, Fn, hm, hb⟩ := h.d__law_mixed
  exact ⟨f, fd, _, fn_pure Fn S__law_mixed rfl (B__law_mixed h f hm), hm, Fn.kp, hb, rfl⟩
theorem S__law_draw : FnScope n__law_draw ["cell", "k"] (defScope s__law_draw) := ⟨rfl, rfl, rfl, by decide +kernel, rfl, by decide +kernel, by decide +kernel⟩
theorem B__law_draw (h : Fx K mg base T cls ad) (f : Addr) (hm : mg "_law_draw" = some (.ref f)) : BodyOk P w K mg base cls T 0 n__law_draw "_law_draw" s__law_draw f g__law_draw := by
  intro cdv A outer s H E B ok hcd hT hr hG cx
  subst hT
  have nd := S__law_draw.nd
  exact (sb_one (ss_retN (en_dsp (ep_cons ee_str (ee_if (et_cmp (opd_ge hr.units) (ee_nm 0) (ee_op opd_pow ee_int ee_int)) (ee_nm 0) ee_int) (ep_cons ee_str (ee_nm 0) (ep_cons ee_str (ee_op opd_mul ee_int (ee_nm 1)) ep_nil))))))
theorem c__law_draw (h : Fx K mg base T cls ad) : Callee P w K mg base 1 "_law_draw" 2 (spN K T cls 2 F__law_draw) := by
  obtain ⟨f, fd, Fn, hm, hb⟩ := h.d__law_draw
  exact ⟨f, fd, _, fn_new Fn S__law_draw rfl (B__law_draw h f hm), hm, Fn.kp, hb, rfl⟩
theorem S__law_digit : FnScope n__law_digit ["state", "below"] (defScope s__law_digit) := ⟨rfl, rfl, rfl, by decide +kernel, rfl, by decide +kernel, by decide +kernel⟩
theorem B__law_digit (h : Fx K mg base T cls ad) (f : Addr) (hm : mg "_law_digit" = some (.ref f)) : BodyOk P w K mg base cls T 1 n__law_digit "_law_digit" s__law_digit f g__law_digit := by
  intro cdv A outer s H E B ok hcd hT hr hG cx
  subst hT
  have nd := S__law_digit.nd
  exact (sb_cons (ss_if (et_cmp (opd_eq hr.units) (ee_ixn 0 hr.units ee_str) ee_int) (sb_one (ss_for cx (ei_range1 h.n_range (ea_cons ee_int ea_nil)) (tt_nm 2 nd) (sb_cons (ss_put 0 hr.units ee_str (ee_op opd_add (ee_ixn 0 hr.units ee_str) ee_int))
  (sb_one (ss_put 0 hr.units ee_str (ee_op opd_add (ee_op opd_mul (ee_ixn 0 hr.units ee_str) ee_int) (ee_call cx.toCtxE (c__law_mixed h) hr (ea_cons (ee_ixn 0 hr.units ee_str) (ea_cons (ee_ixn 0 hr.units ee_str) ea_nil))))))))) sb_nil)
  (sb_cons (ss_asg (ee_op opd_mod (ee_ixn 0 hr.units ee_str) (ee_nm 1)) (tt_nm 3 nd))
  (sb_cons (ss_put 0 hr.units ee_str (ee_op opd_div (ee_ixn 0 hr.units ee_str) (ee_nm 1)))
  (sb_one (ss_ret (ee_nm 3))))))
theorem c__law_digit (h : Fx K mg base T cls ad) : Callee P w K mg base 2 "_law_digit" 2 (spS K T cls 1 F__law_digit) := by
  obtain ⟨f, fd, Fn, hm, hb⟩ := h.d__law_digit
  exact ⟨f, fd, _, fn_st Fn S__law_digit rfl (B__law_digit h f hm), hm, Fn.kp, hb, rfl⟩
theorem S__law_turned : FnScope n__law_turned ["grid", "turn", "pair"] (defScope s__law_turned) := ⟨rfl, rfl, rfl, by decide +kernel, rfl, by decide +kernel, by decide +kernel⟩
theorem B__law_turned (h : Fx K mg base T cls ad) (f : Addr) (hm : mg "_law_turned" = some (.ref f)) : BodyOk P w K mg base cls T 0 n__law_turned "_law_turned" s__law_turned f g__law_turned := by
  intro cdv A outer s H E B ok hcd hT hr hG cx
  subst hT
  have nd := S__law_turned.nd
  exact (sb_cons (ss_asg (ee_if (et_cmp (opd_eq hr.units) (ee_nm 0) ee_str) ee_int ee_int) (tt_nm 3 nd))
  (sb_cons (ss_asg (ee_nm 2) (tt_tup cx.toCtxE.calm (tts_cons (tt_nm 4 nd) (tts_cons (tt_nm 5 nd) tts_nil))))
  (sb_cons (ss_if (et_cmp (opd_ge hr.units) (ee_nm 1) (ee_nm 3)) (sb_one (ss_asg (ee_if (et_cmp (opd_eq hr.units) (ee_nm 0) ee_str) (ee_tup (ea_cons (ee_nm 4) (ea_cons (ee_op opd_sub ee_int (ee_nm 5)) ea_nil))) (ee_tup (ea_cons (ee_op opd_add (ee_nm 4) (ee_nm 5)) (ea_cons (ee_op opd_sub ee_int (ee_nm 5)) ea_nil)))) (tt_tup cx.toCtxE.calm (tts_cons (tt_nm 4 nd) (tts_cons (tt_nm 5 nd) tts_nil))))) sb_nil)
  (sb_cons (ss_for cx (ei_range1 h.n_range (ea_cons (ee_op opd_mod (ee_nm 1) (ee_nm 3)) ea_nil)) (tt_nm 6 nd) (sb_one (ss_par 4 5 cx.toCtxE.calm nd (ek_sh (ee_op opd_sub ee_int (ee_nm 5)) (ek_sh (ee_if (et_cmp (opd_eq hr.units) (ee_nm 0) ee_str) (ee_nm 4) (ee_op opd_add (ee_nm 4) (ee_nm 5))) ek_nil)))))
  (sb_one (ss_ret (ee_tup (ea_cons (ee_nm 4) (ea_cons (ee_nm 5) ea_nil)))))))))
theorem c__law_turned (h : Fx K mg base T cls ad) : Callee P w K mg base 1 "_law_turned" 3 (spF K T cls 3 F__law_turned) := by
  obtain ⟨f, fd, Fn, hm, hb⟩ := h.d__law_turned
  exact ⟨f, fd, _, fn_pure Fn S__law_turned rfl (B__law_turned h f hm), hm, Fn.kp, hb, rfl⟩
theorem S__law_moved : FnScope n__law_moved ["grid", "motion", "pair"] (defScope s__law_moved) := ⟨rfl, rfl, rfl, by decide +kernel, rfl, by decide +kernel, by decide +kernel⟩
theorem B__law_moved (h : Fx K mg base T cls ad) (f : Addr) (hm : mg "_law_moved" = some (.ref f)) : BodyOk P w K mg base cls T 1 n__law_moved "_law_moved" s__law_moved f g__law_moved := by
  intro cdv A outer s H E B ok hcd hT hr hG cx
  subst hT
  have nd := S__law_moved.nd
  exact (sb_cons (ss_asg (ee_call cx.toCtxE (c__law_turned h) hr (ea_cons (ee_nm 0) (ea_cons (ee_ixn 1 hr.units ee_int) (ea_cons (ee_nm 2) ea_nil)))) (tt_tup cx.toCtxE.calm (tts_cons (tt_nm 3 nd) (tts_cons (tt_nm 4 nd) tts_nil))))
  (sb_one (ss_ret (ee_tup (ea_cons (ee_op opd_add (ee_nm 3) (ee_ixd hr.units (ee_ixn 1 hr.units ee_int) ee_int)) (ea_cons (ee_op opd_add (ee_nm 4) (ee_ixd hr.units (ee_ixn 1 hr.units ee_int) ee_int)) ea_nil))))))
theorem c__law_moved (h : Fx K mg base T cls ad) : Callee P w K mg base 2 "_law_moved" 3 (spF K T cls 3 F__law_moved) := by
  obtain ⟨f, fd, Fn, hm, hb⟩ := h.d__law_moved
  exact ⟨f, fd, _, fn_pure Fn S__law_moved rfl (B__law_moved h f hm), hm, Fn.kp, hb, rfl⟩
theorem S__law_grid : FnScope n__law_grid ["state"] (defScope s__law_grid) := ⟨rfl, rfl, rfl, by decide +kernel, rfl, by decide +kernel, by decide +kernel⟩
theorem B__law_grid (h : Fx K mg base T cls ad) (f : Addr) (hm : mg "_law_grid" = some (.ref f)) : BodyOk P w K mg base cls T 2 n__law_grid "_law_grid" s__law_grid f g__law_grid := by
  intro cdv A outer s H E B ok hcd hT hr hG cx
  subst hT
  have nd := S__law_grid.nd
  exact (sb_one (ss_ret (ee_ixd hr.units (EN.ee (en_lst (ea_cons ee_str (ea_cons ee_str ea_nil)))) (ee_callS 0 cx.toCtxE (c__law_digit h) hr (ea_cons ee_int ea_nil)))))
theorem c__law_grid (h : Fx K mg base T cls ad) : Callee P w K mg base 3 "_law_grid" 1 (spS K T cls 0 F__law_grid) := by
  obtain ⟨f, fd, Fn, hm, hb⟩ := h.d__law_grid
  exact ⟨f, fd, _, fn_st Fn S__law_grid rfl (B__law_grid h f hm), hm, Fn.kp, hb, rfl⟩
theorem S__law_pair : FnScope n__law_pair ["state", "wide"] (defScope s__law_pair) := ⟨rfl, rfl, rfl, by decide +kernel, rfl, by decide +kernel, by decide +kernel⟩
theorem B__law_pair (h : Fx K mg base T cls ad) (f : Addr) (hm : mg "_law_pair" = some (.ref f)) : BodyOk P w K mg base cls T 2 n__law_pair "_law_pair" s__law_pair f g__law_pair := by
  intro cdv A outer s H E B ok hcd hT hr hG cx
  subst hT
  have nd := S__law_pair.nd
  exact (sb_one (ss_ret (ee_tup (ea_cons (ee_op opd_sub (ee_callS 0 cx.toCtxE (c__law_digit h) hr (ea_cons (ee_op opd_add (ee_op opd_mul ee_int (ee_nm 1)) ee_int) ea_nil)) (ee_nm 1)) (ea_cons (ee_op opd_sub (ee_callS 0 cx.toCtxE (c__law_digit h) hr (ea_cons (ee_op opd_add (ee_op opd_mul ee_int (ee_nm 1)) ee_int) ea_nil)) (ee_nm 1)) ea_nil)))))
theorem c__law_pair (h : Fx K mg base T cls ad) : Callee P w K mg base 3 "_law_pair" 2 (spS K T cls 1 F__law_pair) := by
  obtain ⟨f, fd, Fn, hm, hb⟩ := h.d__law_pair
  exact ⟨f, fd, _, fn_st Fn S__law_pair rfl (B__law_pair h f hm), hm, Fn.kp, hb, rfl⟩
theorem S__law_motion : FnScope n__law_motion ["state", "grid", "wide"] (defScope s__law_motion) := ⟨rfl, rfl, rfl, by decide +kernel, rfl, by decide +kernel, by decide +kernel⟩
theorem B__law_motion (h : Fx K mg base T cls ad) (f : Addr) (hm : mg "_law_motion" = some (.ref f)) : BodyOk P w K mg base cls T 3 n__law_motion "_law_motion" s__law_motion f g__law_motion := by
  intro cdv A outer s H E B ok hcd hT hr hG cx
  subst hT
  have nd := S__law_motion.nd
  exact (sb_one (ss_ret (ee_tup (ea_cons (ee_callS 0 cx.toCtxE (c__law_digit h) hr (ea_cons (ee_if (et_cmp (opd_eq hr.units) (ee_nm 1) ee_str) ee_int ee_int) ea_nil)) (ea_cons (ee_callS 0 cx.toCtxE (c__law_pair h) hr (ea_cons (ee_nm 2) ea_nil)) ea_nil)))))
theorem c__law_motion (h : Fx K mg base T cls ad) : Callee P w K mg base 4 "_law_motion" 3 (spS K T cls 2 F__law_motion) := by
  obtain ⟨f, fd, Fn, hm, hb⟩ := h.d__law_motion
  exact ⟨f, fd, _, fn_st Fn S__law_motion rfl (B__law_motion h f hm), hm, Fn.kp, hb, rfl⟩
theorem S__law_rows : FnScope n__law_rows ["grid", "wide", "high"] (defScope s__law_rows) := ⟨rfl, rfl, rfl, by decide +kernel, rfl, by decide +kernel, by decide +kernel⟩
theorem B__law_rows (h : Fx K mg base T cls ad) (f : Addr) (hm : mg "_law_rows" = some (.ref f)) : BodyOk P w K mg base cls T 0 n__law_rows "_law_rows" s__law_rows f g__law_rows := by
  intro cdv A outer s H E B ok hcd hT hr hG cx
  subst hT
  have nd := S__law_rows.nd
  exact (sb_cons (ss_asg (ee_if (et_cmp (opd_eq hr.units) (ee_nm 0) ee_str) ee_int ee_int) (tt_nm 3 nd))
  (sb_cons (ss_ownC 4 (own := [("turn", 5)]) cx.toCtxE nd (blk_of (N := n__law_rows) (sc := defScope s__law_rows) (by decide +kernel)) (ei_range1 h.n_range (ea_cons (ee_op opd_mul ee_int (ee_nm 3)) ea_nil)) (fun _ _ _ _ _ => (tt_nm 5 nd)) (fun _ _ _ _ _ => ec_nil) (fun _ _ _ _ _ => (ee_tup (ea_cons (ee_nm 5) (ea_cons (ee_tup (ea_cons ee_int (ea_cons ee_int ea_nil))) ea_nil)))))
  (sb_cons (ss_own 6 (en_lst (ea_cons (ee_tup (ea_cons (ee_op opd_add (ee_nm 4) (EN.ee (en_lst (ea_cons (ee_tup (ea_cons ee_int (ea_cons (ee_tup (ea_cons ee_int (ea_cons ee_int ea_nil))) ea_nil))) ea_nil)))) (ea_cons ee_int (ea_cons (ee_op opd_mul ee_int (ee_nm 3)) ea_nil)))) (ea_cons (ee_tup (ea_cons (ee_op opd_add (ee_sl (ee_nm 4) eo_no (eo_ex (ee_nm 3))) (EN.ee (en_lst (ea_cons (ee_tup (ea_cons ee_int (ea_cons (ee_tup (ea_cons (ee_nm 1) (ea_cons ee_int ea_nil))) ea_nil))) ea_nil)))) (ea_cons (ee_op opd_mul (ee_nm 1) (ee_nm 1)) (ea_cons (ee_nm 3) ea_nil)))) ea_nil))) nd)
  (sb_cons (ss_asg (ee_op opd_add (ee_nm 6) (EN.ee (en_lst (ea_cons (ee_tup (ea_cons (EN.ee (en_lst (ea_cons (ee_tup (ea_cons ee_int (ea_cons (ee_tup (ea_cons (ee_nm 1) (ea_cons ee_int ea_nil))) ea_nil))) (ea_cons (ee_tup (ea_cons ee_int (ea_cons (ee_tup (ea_cons ee_int (ea_cons (ee_nm 2) ea_nil))) ea_nil))) ea_nil)))) (ea_cons (ee_op opd_mul (ee_nm 1) (ee_nm 2)) (ea_cons ee_int ea_nil)))) ea_nil)))) (tt_nm 6 nd))
  (sb_cons (ss_asg (ee_op opd_add (ee_nm 6) (EN.ee (en_lst (ea_cons (ee_tup (ea_cons (EN.ee (en_lst (ea_cons (ee_tup (ea_cons ee_int (ea_cons (ee_tup (ea_cons (ee_nm 1) (ea_cons ee_int ea_nil))) ea_nil))) (ea_cons (ee_tup (ea_cons ee_int (ea_cons (ee_tup (ea_cons ee_int (ea_cons (ee_nm 2) ea_nil))) ea_nil))) (ea_cons (ee_tup (ea_cons (ee_op opd_div (ee_nm 3) ee_int) (ea_cons (ee_tup (ea_cons ee_int (ea_cons ee_int ea_nil))) ea_nil))) ea_nil))))) (ea_cons (ee_op opd_mul (ee_nm 1) (ee_nm 2)) (ea_cons ee_int ea_nil)))) ea_nil)))) (tt_nm 6 nd))
  (sb_cons (ss_asg (ee_op opd_add (ee_nm 6) (EN.ee (en_lst (ea_cons (ee_tup (ea_cons (EN.ee (en_lst (ea_cons (ee_tup (ea_cons (ee_op opd_div (ee_nm 3) ee_int) (ea_cons (ee_tup (ea_cons ee_int (ea_cons ee_int ea_nil))) ea_nil))) (ea_cons (ee_tup (ea_cons (ee_op opd_div (ee_nm 3) ee_int) (ea_cons (ee_tup (ea_cons (ee_nm 1) (ea_cons ee_int ea_nil))) ea_nil))) (ea_cons (ee_tup (ea_cons (ee_op opd_div (ee_nm 3) ee_int) (ea_cons (ee_tup (ea_cons ee_int (ea_cons (ee_nm 2) ea_nil))) ea_nil))) ea_nil))))) (ea_cons (ee_op opd_mul (ee_nm 1) (ee_nm 2)) (ea_cons ee_int ea_nil)))) ea_nil)))) (tt_nm 6 nd))
  (sb_cons (ss_asg (ee_op opd_add (ee_nm 6) (EN.ee (en_lst (ea_cons (ee_tup (ea_cons (ee_op opd_add (ee_nm 4) (EN.ee (en_lst (ea_cons (ee_tup (ea_cons ee_int (ea_cons (ee_tup (ea_cons (ee_nm 1) (ea_cons ee_int ea_nil))) ea_nil))) ea_nil)))) (ea_cons (ee_op opd_mul (ee_nm 1) (ee_nm 1)) (ea_cons (ee_op opd_mul ee_int (ee_nm 3)) ea_nil)))) ea_nil)))) (tt_nm 6 nd))
  (sb_cons (ss_if (et_cmp (opd_eq hr.units) (ee_nm 0) ee_str) (sb_cons (ss_asg (ee_op opd_add (ee_nm 6) (EN.ee (en_lst (ea_cons (ee_tup (ea_cons (EN.ee (en_lst (ea_cons (ee_tup (ea_cons ee_int (ea_cons (ee_tup (ea_cons ee_int (ea_cons ee_int ea_nil))) ea_nil))) (ea_cons (ee_tup (ea_cons ee_int (ea_cons (ee_tup (ea_cons ee_int (ea_cons (ee_op opd_mul ee_int (ee_nm 2)) ea_nil))) ea_nil))) (ea_cons (ee_tup (ea_cons ee_int (ea_cons (ee_tup (ea_cons (ee_nm 1) (ea_cons ee_int ea_nil))) ea_nil))) ea_nil))))) (ea_cons (ee_op opd_mul (ee_op opd_mul (ee_nm 1) ee_int) (ee_nm 2)) (ea_cons ee_int ea_nil)))) ea_nil)))) (tt_nm 6 nd))
  (sb_cons (ss_asg (ee_op opd_add (ee_nm 6) (EN.ee (en_lst (ea_cons (ee_tup (ea_cons (EN.ee (en_lst (ea_cons (ee_tup (ea_cons ee_int (ea_cons (ee_tup (ea_cons (ee_nm 1) (ea_cons ee_int ea_nil))) ea_nil))) (ea_cons (ee_tup (ea_cons ee_int (ea_cons (ee_tup (ea_cons ee_int (ea_cons (ee_nm 2) ea_nil))) ea_nil))) ea_nil)))) (ea_cons (ee_op opd_mul (ee_op opd_mul ee_int (ee_nm 1)) (ee_nm 2)) (ea_cons ee_int ea_nil)))) (ea_cons (ee_tup (ea_cons (EN.ee (en_lst (ea_cons (ee_tup (ea_cons ee_int (ea_cons (ee_tup (ea_cons ee_int (ea_cons ee_int ea_nil))) ea_nil))) (ea_cons (ee_tup (ea_cons ee_int (ea_cons (ee_tup (ea_cons (ee_nm 1) (ea_cons ee_int ea_nil))) ea_nil))) ea_nil)))) (ea_cons (ee_op opd_mul (ee_nm 1) (ee_nm 1)) (ea_cons ee_int ea_nil)))) ea_nil))))) (tt_nm 6 nd))
  (sb_one (ss_asg (ee_op opd_add (ee_nm 6) (EN.ee (en_lst (ea_cons (ee_tup (ea_cons (EN.ee (en_lst (ea_cons (ee_tup (ea_cons ee_int (ea_cons (ee_tup (ea_cons ee_int (ea_cons ee_int ea_nil))) ea_nil))) (ea_cons (ee_tup (ea_cons ee_int (ea_cons (ee_tup (ea_cons (ee_nm 1) (ea_cons ee_int ea_nil))) ea_nil))) ea_nil)))) (ea_cons (ee_op opd_mul (ee_nm 1) (ee_nm 1)) (ea_cons ee_int ea_nil)))) (ea_cons (ee_tup (ea_cons (EN.ee (en_lst (ea_cons (ee_tup (ea_cons ee_int (ea_cons (ee_tup (ea_cons (ee_nm 1) (ea_cons ee_int ea_nil))) ea_nil))) (ea_cons (ee_tup (ea_cons ee_int (ea_cons (ee_tup (ea_cons ee_int (ea_cons (ee_nm 2) ea_nil))) ea_nil))) ea_nil)))) (ea_cons (ee_op opd_mul (ee_op opd_mul ee_int (ee_nm 1)) (ee_nm 2)) (ea_cons ee_int ea_nil)))) ea_nil))))) (tt_nm 6 nd))))) (sb_cons (ss_asg (ee_op opd_add (ee_nm 6) (EN.ee (en_lst (ea_cons (ee_tup (ea_cons (EN.ee (en_lst (ea_cons (ee_tup (ea_cons ee_int (ea_cons (ee_tup (ea_cons ee_int (ea_cons ee_int ea_nil))) ea_nil))) (ea_cons (ee_tup (ea_cons ee_int (ea_cons (ee_tup (ea_cons (ee_nm 1) (ea_cons ee_int ea_nil))) ea_nil))) ea_nil)))) (ea_cons (ee_op opd_mul (ee_nm 1) (ee_nm 1)) (ea_cons ee_int ea_nil)))) (ea_cons (ee_tup (ea_cons (EN.ee (en_lst (ea_cons (ee_tup (ea_cons ee_int (ea_cons (ee_tup (ea_cons ee_int (ea_cons ee_int ea_nil))) ea_nil))) (ea_cons (ee_tup (ea_cons ee_int (ea_cons (ee_tup (ea_cons (ee_nm 1) (ea_cons (ee_nm 1) ea_nil))) ea_nil))) ea_nil)))) (ea_cons (ee_op opd_mul (ee_op opd_mul ee_int (ee_nm 1)) (ee_nm 1)) (ea_cons ee_int ea_nil)))) ea_nil))))) (tt_nm 6 nd))
  (sb_cons (ss_asg (ee_op opd_add (ee_nm 6) (EN.ee (en_lst (ea_cons (ee_tup (ea_cons (EN.ee (en_lst (ea_cons (ee_tup (ea_cons ee_int (ea_cons (ee_tup (ea_cons ee_int (ea_cons ee_int ea_nil))) ea_nil))) (ea_cons (ee_tup (ea_cons ee_int (ea_cons (ee_tup (ea_cons ee_int (ea_cons ee_int ea_nil))) ea_nil))) (ea_cons (ee_tup (ea_cons ee_int (ea_cons (ee_tup (ea_cons (ee_nm 1) (ea_cons ee_int ea_nil))) ea_nil))) ea_nil))))) (ea_cons (ee_op opd_mul (ee_nm 1) (ee_nm 1)) (ea_cons ee_int ea_nil)))) ea_nil)))) (tt_nm 6 nd))
  (sb_one (ss_asg (ee_op opd_add (ee_nm 6) (EN.ee (en_lst (ea_cons (ee_tup (ea_cons (EN.ee (en_lst (ea_cons (ee_tup (ea_cons ee_int (ea_cons (ee_tup (ea_cons ee_int (ea_cons ee_int ea_nil))) ea_nil))) (ea_cons (ee_tup (ea_cons ee_int (ea_cons (ee_tup (ea_cons ee_int (ea_cons ee_int ea_nil))) ea_nil))) (ea_cons (ee_tup (ea_cons ee_int (ea_cons (ee_tup (ea_cons (ee_nm 1) (ea_cons (ee_nm 1) ea_nil))) ea_nil))) ea_nil))))) (ea_cons (ee_op opd_mul (ee_op opd_mul ee_int (ee_nm 1)) (ee_nm 1)) (ea_cons ee_int ea_nil)))) ea_nil)))) (tt_nm 6 nd))))))
  (sb_one (ss_ret (ee_nm 6)))))))))))
theorem c__law_rows (h : Fx K mg base T cls ad) : Callee P w K mg base 1 "_law_rows" 3 (spF K T cls 3 F__law_rows) := by
  obtain ⟨f, fd, Fn, hm, hb⟩ := h.d__law_rows
  exact ⟨f, fd, _, fn_pure Fn S__law_rows rfl (B__law_rows h f hm), hm, Fn.kp, hb, rfl⟩
theorem S_law : FnScope n_law ["script"] (defScope s_law) := ⟨rfl, rfl, rfl, by decide +kernel, rfl, by decide +kernel, by decide +kernel⟩
theorem B_law (h : Fx K mg base T cls ad) (f : Addr) (hm : mg "law" = some (.ref f)) : BodyOk P w K mg base cls T 7 n_law "law" s_law f g_law := by
  intro cdv A outer s H E B ok hcd hT hr hG cx
  subst hT
  have nd := S_law.nd
  exact (sb_cons (ss_for cx (ei_enum2 h.n_enumerate (ea_cons (ee_op opd_add (ee_sl (ee_nm 0) eo_no (eo_ex ee_int)) (EN.ee (en_lst (ea_cons (ee_blt (bd_sum cx.toCtxE.calm) h.n_sum rfl (ea_cons (ee_nm 0) ea_nil)) ea_nil)))) ea_nil)) (tt_tup cx.toCtxE.calm (tts_cons (tt_nm 1 nd) (tts_cons (tt_nm 2 nd) tts_nil))) (sb_cons (ss_own 3 (en_call cx.toCtxE (c__law_draw h) hr (ea_cons (ee_nm 2) (ea_cons (ee_nm 1) ea_nil))) nd)
  (sb_one (ss_for cx (ei_seq (ee_tup (ea_cons ee_str (ea_cons ee_str ea_nil)))) (tt_nm 4 nd) (sb_cons (ss_par 6 7 cx.toCtxE.calm nd (ek_sh (ee_op opd_add ee_int (ee_callS 3 cx.toCtxE (c__law_digit h) hr (ea_cons ee_int ea_nil))) (ek_sh (ee_op opd_add ee_int (ee_callS 3 cx.toCtxE (c__law_digit h) hr (ea_cons ee_int ea_nil))) ek_nil)))
  (sb_cons (ss_asg (ee_callS 3 cx.toCtxE (c__law_motion h) hr (ea_cons (ee_nm 4) (ea_cons ee_int ea_nil))) (tt_nm 5 nd))
  (sb_one (ss_for cx (ei_seq (ee_call cx.toCtxE (c__law_rows h) hr (ea_cons (ee_nm 4) (ea_cons (ee_nm 6) (ea_cons (ee_nm 7) ea_nil))))) (tt_tup cx.toCtxE.calm (tts_cons (tt_nm 8 nd) (tts_cons (tt_nm 9 nd) (tts_cons (tt_nm 10 nd) tts_nil)))) (sb_cons (ss_asg (ee_call cx.toCtxE (c_group_by h) hr (ea_cons (ee_nm 4) (ea_cons (ee_blty bd_tuple h.n_tuple rfl (ea_cons (ee_nm 8) ea_nil)) ea_nil))) (tt_nm 11 nd))
  (sb_cons (ss_if (ew_t (ew_or (et_cmp (opd_ne hr.units) (ee_op opd_mul (ee_ixd hr.units (ee_ixn 11 hr.units ee_int) ee_int) (ee_ixd hr.units (ee_ixn 11 hr.units ee_int) ee_int)) (ee_nm 9)) (ew_or1 (et_cmp (opd_ne hr.units) (ee_blt bd_len h.n_len rfl (ea_cons (ee_ixn 11 hr.units ee_int) ea_nil)) (ee_nm 10))))) (sb_one (ss_ret ee_bl)) sb_nil)
  (sb_cons (ss_asg (ee_call cx.toCtxE (c_moved_group h) hr (ea_cons (ee_nm 11) (ea_cons (ee_nm 5) ea_nil))) (tt_nm 12 nd))
  (sb_one (ss_if (ew_t (ew_or (et_cmp (opd_ne hr.units) (ee_op opd_mul (ee_ixd hr.units (ee_ixn 12 hr.units ee_int) ee_int) (ee_ixd hr.units (ee_ixn 12 hr.units ee_int) ee_int)) (ee_nm 9)) (ew_or (et_cmp (opd_ne hr.units) (ee_blt bd_len h.n_len rfl (ea_cons (ee_ixn 12 hr.units ee_int) ea_nil)) (ee_nm 10)) (ew_or1 (et_cmp (opd_ne hr.units) (ee_call cx.toCtxE (c_area_of h) hr (ea_cons (ee_nm 12) ea_nil)) (ee_call cx.toCtxE (c_area_of h) hr (ea_cons (ee_nm 11) ea_nil))))))) (sb_one (ss_ret ee_bl)) sb_nil)))))))))))))
  (sb_one (ss_ret (ee_cmp (opd_eq hr.units) (ee_call cx.toCtxE (c_group_by h) hr (ea_cons ee_str (ea_cons (ee_tup (ea_cons (ee_tup (ea_cons ee_int (ea_cons (ee_tup (ea_cons ee_int (ea_cons ee_int ea_nil))) ea_nil))) (ea_cons (ee_tup (ea_cons ee_int (ea_cons (ee_tup (ea_cons ee_int (ea_cons ee_int ea_nil))) ea_nil))) ea_nil))) ea_nil))) (ee_tup (ea_cons ee_str (ea_cons (ee_tup (ea_cons ee_int (ea_cons ee_int (ea_cons ee_int ea_nil)))) (ea_cons (ee_blty bd_tuple h.n_tuple rfl (ea_cons (EN.ee (en_comp (own := [("turn", 13)]) cx.toCtxE nd (blk_of (N := n_law) (sc := defScope s_law) (by decide +kernel)) (ei_range1 h.n_range (ea_cons ee_int ea_nil)) (fun _ _ _ _ _ => (tt_nm 13 nd)) (fun _ _ _ _ _ => ec_nil) (fun _ _ _ _ _ => (ee_tup (ea_cons (ee_nm 13) (ea_cons (ee_tup (ea_cons ee_int (ea_cons ee_int ea_nil))) ea_nil)))))) ea_nil)) ea_nil))))))))
theorem c_law (h : Fx K mg base T cls ad) : Callee P w K mg base 8 "law" 1 (spF K T cls 1 F_law) := by
  obtain ⟨f, fd, Fn, hm, hb⟩ := h.d_law
  exact ⟨f, fd, _, fn_pure Fn S_law rfl (B_law h f hm), hm, Fn.kp, hb, rfl⟩
end
/-! ### the head -/
def dd_is_whole : He.DefD := ⟨("is_whole", none), "is_whole", "is_whole", defArgs s_is_whole, defBody s_is_whole, defScope s_is_whole, [], []⟩
def dd_is_grid : He.DefD := ⟨("is_grid", none), "is_grid", "is_grid", defArgs s_is_grid, defBody s_is_grid, defScope s_is_grid, [], []⟩
def dd_need_grid : He.DefD := ⟨("need_grid", none), "need_grid", "need_grid", defArgs s_need_grid, defBody s_need_grid, defScope s_need_grid, [], []⟩
def dd_is_cell : He.DefD := ⟨("is_cell", none), "is_cell", "is_cell", defArgs s_is_cell, defBody s_is_cell, defScope s_is_cell, [], []⟩
def dd_own_turned : He.DefD := ⟨("own_turned", none), "own_turned", "own_turned", defArgs s_own_turned, defBody s_own_turned, defScope s_own_turned, [], []⟩
def dd_own_then_turn : He.DefD := ⟨("own_then_turn", none), "own_then_turn", "own_then_turn", defArgs s_own_then_turn, defBody s_own_then_turn, defScope s_own_then_turn, [], []⟩
def dd_is_lattice : He.DefD := ⟨("is_lattice", none), "is_lattice", "is_lattice", defArgs s_is_lattice, defBody s_is_lattice, defScope s_is_lattice, [], []⟩
def dd_own_in_box : He.DefD := ⟨("own_in_box", none), "own_in_box", "own_in_box", defArgs s_own_in_box, defBody s_own_in_box, defScope s_own_in_box, [], []⟩
def dd_reduced : He.DefD := ⟨("reduced", none), "reduced", "reduced", defArgs s_reduced, defBody s_reduced, defScope s_reduced, [], []⟩
def dd_own_lattice : He.DefD := ⟨("own_lattice", none), "own_lattice", "own_lattice", defArgs s_own_lattice, defBody s_own_lattice, defScope s_own_lattice, [], []⟩
def dd_basis : He.DefD := ⟨("basis", none), "basis", "basis", defArgs s_basis, defBody s_basis, defScope s_basis, [], []⟩
def dd_is_motion : He.DefD := ⟨("is_motion", none), "is_motion", "is_motion", defArgs s_is_motion, defBody s_is_motion, defScope s_is_motion, [], []⟩
def dd_need_motions : He.DefD := ⟨("need_motions", none), "need_motions", "need_motions", defArgs s_need_motions, defBody s_need_motions, defScope s_need_motions, [], []⟩
def dd_added : He.DefD := ⟨("added", none), "added", "added", defArgs s_added, defBody s_added, defScope s_added, [], []⟩
def dd_own_moved : He.DefD := ⟨("own_moved", none), "own_moved", "own_moved", defArgs s_own_moved, defBody s_own_moved, defScope s_own_moved, [], []⟩
def dd_own_then : He.DefD := ⟨("own_then", none), "own_then", "own_then", defArgs s_own_then, defBody s_own_then, defScope s_own_then, [], []⟩
def dd_back_turn : He.DefD := ⟨("back_turn", none), "back_turn", "back_turn", defArgs s_back_turn, defBody s_back_turn, defScope s_back_turn, [], []⟩
def dd_own_back : He.DefD := ⟨("own_back", none), "own_back", "own_back", defArgs s_own_back, defBody s_own_back, defScope s_own_back, [], []⟩
def dd_is_part : He.DefD := ⟨("is_part", none), "is_part", "is_part", defArgs s_is_part, defBody s_is_part, defScope s_is_part, [], []⟩
def dd_is_shut : He.DefD := ⟨("is_shut", none), "is_shut", "is_shut", defArgs s_is_shut, defBody s_is_shut, defScope s_is_shut, [], []⟩
def dd_wrong_group : He.DefD := ⟨("wrong_group", none), "wrong_group", "wrong_group", defArgs s_wrong_group, defBody s_wrong_group, defScope s_wrong_group, [], []⟩
def dd_need_group : He.DefD := ⟨("need_group", none), "need_group", "need_group", defArgs s_need_group, defBody s_need_group, defScope s_need_group, [], []⟩
def dd_closed : He.DefD := ⟨("closed", none), "closed", "closed", defArgs s_closed, defBody s_closed, defScope s_closed, [], []⟩
def dd_own_group : He.DefD := ⟨("own_group", none), "own_group", "own_group", defArgs s_own_group, defBody s_own_group, defScope s_own_group, [], []⟩
def dd_group_by : He.DefD := ⟨("group_by", none), "group_by", "group_by", defArgs s_group_by, defBody s_group_by, defScope s_group_by, [], []⟩
def dd_area_of : He.DefD := ⟨("area_of", none), "area_of", "area_of", defArgs s_area_of, defBody s_area_of, defScope s_area_of, [], []⟩
def dd_makers : He.DefD := ⟨("makers", none), "makers", "makers", defArgs s_makers, defBody s_makers, defScope s_makers, [], []⟩
def dd_moved_group : He.DefD := ⟨("moved_group", none), "moved_group", "moved_group", defArgs s_moved_group, defBody s_moved_group, defScope s_moved_group, [], []⟩
def dd__law_mixed : He.DefD := ⟨("_law_mixed", none), "_law_mixed", "_law_mixed", defArgs s__law_mixed, defBody s__law_mixed, defScope s__law_mixed, [], []⟩
def dd__law_draw : He.DefD := ⟨("_law_draw", none), "_law_draw", "_law_draw", defArgs s__law_draw, defBody s__law_draw, defScope s__law_draw, [], []⟩
def dd__law_digit : He.DefD := ⟨("_law_digit", none), "_law_digit", "_law_digit", defArgs s__law_digit, defBody s__law_digit, defScope s__law_digit, [], []⟩
def dd__law_turned : He.DefD := ⟨("_law_turned", none), "_law_turned", "_law_turned", defArgs s__law_turned, defBody s__law_turned, defScope s__law_turned, [], []⟩
def dd__law_moved : He.DefD := ⟨("_law_moved", none), "_law_moved", "_law_moved", defArgs s__law_moved, defBody s__law_moved, defScope s__law_moved, [], []⟩
def dd__law_grid : He.DefD := ⟨("_law_grid", none), "_law_grid", "_law_grid", defArgs s__law_grid, defBody s__law_grid, defScope s__law_grid, [], []⟩
def dd__law_pair : He.DefD := ⟨("_law_pair", none), "_law_pair", "_law_pair", defArgs s__law_pair, defBody s__law_pair, defScope s__law_pair, [], []⟩
def dd__law_motion : He.DefD := ⟨("_law_motion", none), "_law_motion", "_law_motion", defArgs s__law_motion, defBody s__law_motion, defScope s__law_motion, [], []⟩
def dd__law_rows : He.DefD := ⟨("_law_rows", none), "_law_rows", "_law_rows", defArgs s__law_rows, defBody s__law_rows, defScope s__law_rows, [], []⟩
def dd_law : He.DefD := ⟨("law", none), "law", "law", defArgs s_law, defBody s_law, defScope s_law, [], []⟩
def di_BadGrid : He.DefD := ⟨("BadGrid", some "__init__"), "__init__", ("BadGrid" : Str) ++ ".__init__", defArgs i_BadGrid, defBody i_BadGrid, defScope i_BadGrid, [.non], []⟩
def di_BadMotion : He.DefD := ⟨("BadMotion", some "__init__"), "__init__", ("BadMotion" : Str) ++ ".__init__", defArgs i_BadMotion, defBody i_BadMotion, defScope i_BadMotion, [.non], []⟩
def di_BadGroup : He.DefD := ⟨("BadGroup", some "__init__"), "__init__", ("BadGroup" : Str) ++ ".__init__", defArgs i_BadGroup, defBody i_BadGroup, defScope i_BadGroup, [.non], []⟩
def di_TooMany : He.DefD := ⟨("TooMany", some "__init__"), "__init__", ("TooMany" : Str) ++ ".__init__", defArgs i_TooMany, defBody i_TooMany, defScope i_TooMany, [], []⟩
def di_NoSuch : He.DefD := ⟨("NoSuch", some "__init__"), "__init__", ("NoSuch" : Str) ++ ".__init__", defArgs i_NoSuch, defBody i_NoSuch, defScope i_NoSuch, [.non], []⟩
def dsl : List He.DefD := [dd_is_whole, dd_is_grid, dd_need_grid, dd_is_cell, dd_own_turned, dd_own_then_turn, dd_is_lattice, dd_own_in_box, dd_reduced, dd_own_lattice, dd_basis, dd_is_motion, dd_need_motions, dd_added, dd_own_moved, dd_own_then, dd_back_turn, dd_own_back, dd_is_part, dd_is_shut, dd_wrong_group, dd_need_group, dd_closed, dd_own_group, dd_group_by, dd_area_of, dd_makers, dd_moved_group, dd__law_mixed, dd__law_draw, dd__law_digit, dd__law_turned, dd__law_moved, dd__law_grid, dd__law_pair, dd__law_motion, dd__law_rows, dd_law, di_BadGrid, di_BadMotion, di_BadGroup, di_TooMany, di_NoSuch]
def cns : Cons := [("TURNS", v_TURNS), ("IDENTITY", v_IDENTITY)]
def fcs : List He.Fa := [.glo "is_whole", .glo "is_grid", .glo "need_grid", .glo "is_cell", .glo "own_turned", .glo "own_then_turn", .glo "is_lattice", .glo "own_in_box", .glo "reduced", .glo "own_lattice", .glo "basis", .glo "is_motion", .glo "need_motions", .glo "added", .glo "own_moved", .glo "own_then", .glo "back_turn", .glo "own_back", .glo "is_part", .glo "is_shut", .glo "wrong_group", .glo "need_group", .glo "closed", .glo "own_group", .glo "group_by", .glo "area_of", .glo "makers", .glo "moved_group", .glo "_law_mixed", .glo "_law_draw", .glo "_law_digit", .glo "_law_turned", .glo "_law_moved", .glo "_law_grid", .glo "_law_pair", .glo "_law_motion", .glo "_law_rows", .glo "law", .glo "PatternError", .glo "BadGrid", .glo "BadMotion", .glo "BadGroup", .glo "TooMany", .glo "NoSuch", .free "isinstance", .free "int", .free "bool", .free "str", .free "tuple", .free "len", .free "all", .free "dict", .free "any", .free "enumerate", .free "sorted", .free "range", .free "sum", .free "OverflowError", .free "LookupError", .int "FAR" 1000000, .int "MOST_AREA" 1000, .int "MOST_MOTIONS" 50]
def tfn : List Str := []
def tfd : List He.Defn := tfn.map fun x => (x, none)
def exl (K : PySem.W.Frag) : List Bool := [errB "ValueError.__new__" tlVE K "BadGrid", errB "ValueError.__new__" tlVE K "BadMotion", errB "ValueError.__new__" tlVE K "BadGroup", errB "OverflowError.__new__" tlOE K "TooMany", errB "LookupError.__new__" tlLE K "NoSuch", basB K "PatternError" "ValueError.__init__", bltB K "OverflowError" "OverflowError.__init__", bltB K "LookupError" "LookupError.__init__", He.eqO (PySem.W.nsIn K mainGlobals "gcd") (some (some (.builtin "math.gcd"))), noLst K, tabNd K tfn]
def exb (K : PySem.W.Frag) : Bool := (exl K).all id
theorem exl_at {K : PySem.W.Frag} (h : exb K = true) (i : Nat) {b : Bool} (e : (exl K)[i]? = some b) : b = true := List.all_eq_true.mp h b (List.mem_of_getElem? e)
section
variable {K : PySem.W.Frag} {h : Heap} {mg : Str → Option Value} {base : Heap} {w : World}
theorem fx_of (X : K.In h) (G : h.Ns mainGlobals mg) (c : He.SaysX fcs dsl [] tfd exb w h K) {hs : List (Addr × Obj)} (cz : ConS w cns K hs h) (TB : ∀ p ∈ tfd.map (He.cT K), LamX.TabB base mg p.1 p.2) : Fx K mg base ⟨tabs K tfn, consT K cns⟩ (clsE K eNames) (He.ga K) := by
  have D := c.t.d
  have xl : ∀ (i : Nat) {b : Bool}, (exl K)[i]? = some b → b = true := fun i {b} e => exl_at c.more i e
  have m_is_whole : mg "is_whole" = some (.ref (He.ga K "is_whole")) := He.glo_ok X G (D.fact 0 (f := .glo "is_whole") rfl)
  have m_is_grid : mg "is_grid" = some (.ref (He.ga K "is_grid")) := He.glo_ok X G (D.fact 1 (f := .glo "is_grid") rfl)
  have m_need_grid : mg "need_grid" = some (.ref (He.ga K "need_grid")) := He.glo_ok X G (D.fact 2 (f := .glo "need_grid") rfl)
  have m_is_cell : mg "is_cell" = some (.ref (He.ga K "is_cell")) := He.glo_ok X G (D.fact 3 (f := .glo "is_cell") rfl)
  have m_own_turned : mg "own_turned" = some (.ref (He.ga K "own_turned")) := He.glo_ok X G (D.fact 4 (f := .glo "own_turned") rfl)
  have m_own_then_turn : mg "own_then_turn" = some (.ref (He.ga K "own_then_turn")) := He.glo_ok X G (D.fact 5 (f := .glo "own_then_turn") rfl)
  have m_is_lattice : mg "is_lattice" = some (.ref (He.ga K "is_lattice")) := He.glo_ok X G (D.fact 6 (f := .glo "is_lattice") rfl)
  have m_own_in_box : mg "own_in_box" = some (.ref (He.ga K "own_in_box")) := He.glo_ok X G (D.fact 7 (f := .glo "own_in_box") rfl)
  have m_reduced : mg "reduced" = some (.ref (He.ga K "reduced")) := He.glo_ok X G (D.fact 8 (f := .glo "reduced") rfl)
  have m_own_lattice : mg "own_lattice" = some (.ref (He.ga K "own_lattice")) := He.glo_ok X G (D.fact 9 (f := .glo "own_lattice") rfl)
  have m_basis : mg "basis" = some (.ref (He.ga K "basis")) := He.glo_ok X G (D.fact 10 (f := .glo "basis") rfl)
  have m_is_motion : mg "is_motion" = some (.ref (He.ga K "is_motion")) := He.glo_ok X G (D.fact 11 (f := .glo "is_motion") rfl)
  have m_need_motions : mg "need_motions" = some (.ref (He.ga K "need_motions")) := He.glo_ok X G (D.fact 12 (f := .glo "need_motions") rfl)
  have m_added : mg "added" = some (.ref (He.ga K "added")) := He.glo_ok X G (D.fact 13 (f := .glo "added") rfl)
  have m_own_moved : mg "own_moved" = some (.ref (He.ga K "own_moved")) := He.glo_ok X G (D.fact 14 (f := .glo "own_moved") rfl)
  have m_own_then : mg "own_then" = some (.ref (He.ga K "own_then")) := He.glo_ok X G (D.fact 15 (f := .glo "own_then") rfl)
  have m_back_turn : mg "back_turn" = some (.ref (He.ga K "back_turn")) := He.glo_ok X G (D.fact 16 (f := .glo "back_turn") rfl)
  have m_own_back : mg "own_back" = some (.ref (He.ga K "own_back")) := He.glo_ok X G (D.fact 17 (f := .glo "own_back") rfl)
  have m_is_part : mg "is_part" = some (.ref (He.ga K "is_part")) := He.glo_ok X G (D.fact 18 (f := .glo "is_part") rfl)
  have m_is_shut : mg "is_shut" = some (.ref (He.ga K "is_shut")) := He.glo_ok X G (D.fact 19 (f := .glo "is_shut") rfl)
  have m_wrong_group : mg "wrong_group" = some (.ref (He.ga K "wrong_group")) := He.glo_ok X G (D.fact 20 (f := .glo "wrong_group") rfl)
  have m_need_group : mg "need_group" = some (.ref (He.ga K "need_group")) := He.glo_ok X G (D.fact 21 (f := .glo "need_group") rfl)
  have m_closed : mg "closed" = some (.ref (He.ga K "closed")) := He.glo_ok X G (D.fact 22 (f := .glo "closed") rfl)
  have m_own_group : mg "own_group" = some (.ref (He.ga K "own_group")) := He.glo_ok X G (D.fact 23 (f := .glo "own_group") rfl)
  have m_group_by : mg "group_by" = some (.ref (He.ga K "group_by")) := He.glo_ok X G (D.fact 24 (f := .glo "group_by") rfl)
  have m_area_of : mg "area_of" = some (.ref (He.ga K "area_of")) := He.glo_ok X G (D.fact 25 (f := .glo "area_of") rfl)
  have m_makers : mg "makers" = some (.ref (He.ga K "makers")) := He.glo_ok X G (D.fact 26 (f := .glo "makers") rfl)
  have m_moved_group : mg "moved_group" = some (.ref (He.ga K "moved_group")) := He.glo_ok X G (D.fact 27 (f := .glo "moved_group") rfl)
  have m__law_mixed : mg "_law_mixed" = some (.ref (He.ga K "_law_mixed")) := He.glo_ok X G (D.fact 28 (f := .glo "_law_mixed") rfl)
  have m__law_draw : mg "_law_draw" = some (.ref (He.ga K "_law_draw")) := He.glo_ok X G (D.fact 29 (f := .glo "_law_draw") rfl)
  have m__law_digit : mg "_law_digit" = some (.ref (He.ga K "_law_digit")) := He.glo_ok X G (D.fact 30 (f := .glo "_law_digit") rfl)
  have m__law_turned : mg "_law_turned" = some (.ref (He.ga K "_law_turned")) := He.glo_ok X G (D.fact 31 (f := .glo "_law_turned") rfl)
  have m__law_moved : mg "_law_moved" = some (.ref (He.ga K "_law_moved")) := He.glo_ok X G (D.fact 32 (f := .glo "_law_moved") rfl)
  have m__law_grid : mg "_law_grid" = some (.ref (He.ga K "_law_grid")) := He.glo_ok X G (D.fact 33 (f := .glo "_law_grid") rfl)
  have m__law_pair : mg "_law_pair" = some (.ref (He.ga K "_law_pair")) := He.glo_ok X G (D.fact 34 (f := .glo "_law_pair") rfl)
  have m__law_motion : mg "_law_motion" = some (.ref (He.ga K "_law_motion")) := He.glo_ok X G (D.fact 35 (f := .glo "_law_motion") rfl)
  have m__law_rows : mg "_law_rows" = some (.ref (He.ga K "_law_rows")) := He.glo_ok X G (D.fact 36 (f := .glo "_law_rows") rfl)
  have m_law : mg "law" = some (.ref (He.ga K "law")) := He.glo_ok X G (D.fact 37 (f := .glo "law") rfl)
  have m_PatternError : mg "PatternError" = some (.ref (He.ga K "PatternError")) := He.glo_ok X G (D.fact 38 (f := .glo "PatternError") rfl)
  have m_BadGrid : mg "BadGrid" = some (.ref (He.ga K "BadGrid")) := He.glo_ok X G (D.fact 39 (f := .glo "BadGrid") rfl)
  have m_BadMotion : mg "BadMotion" = some (.ref (He.ga K "BadMotion")) := He.glo_ok X G (D.fact 40 (f := .glo "BadMotion") rfl)
  have m_BadGroup : mg "BadGroup" = some (.ref (He.ga K "BadGroup")) := He.glo_ok X G (D.fact 41 (f := .glo "BadGroup") rfl)
  have m_TooMany : mg "TooMany" = some (.ref (He.ga K "TooMany")) := He.glo_ok X G (D.fact 42 (f := .glo "TooMany") rfl)
  have m_NoSuch : mg "NoSuch" = some (.ref (He.ga K "NoSuch")) := He.glo_ok X G (D.fact 43 (f := .glo "NoSuch") rfl)
  obtain ⟨fd_is_whole, F_is_whole⟩ := D.def_ 0 (d := dd_is_whole) rfl
  obtain ⟨fd_is_grid, F_is_grid⟩ := D.def_ 1 (d := dd_is_grid) rfl
  obtain ⟨fd_need_grid, F_need_grid⟩ := D.def_ 2 (d := dd_need_grid) rfl
  obtain ⟨fd_is_cell, F_is_cell⟩ := D.def_ 3 (d := dd_is_cell) rfl
  obtain ⟨fd_own_turned, F_own_turned⟩ := D.def_ 4 (d := dd_own_turned) rfl
  obtain ⟨fd_own_then_turn, F_own_then_turn⟩ := D.def_ 5 (d := dd_own_then_turn) rfl
  obtain ⟨fd_is_lattice, F_is_lattice⟩ := D.def_ 6 (d := dd_is_lattice) rfl
  obtain ⟨fd_own_in_box, F_own_in_box⟩ := D.def_ 7 (d := dd_own_in_box) rfl
  obtain ⟨fd_reduced, F_reduced⟩ := D.def_ 8 (d := dd_reduced) rfl
  obtain ⟨fd_own_lattice, F_own_lattice⟩ := D.def_ 9 (d := dd_own_lattice) rfl
  obtain ⟨fd_basis, F_basis⟩ := D.def_ 10 (d := dd_basis) rfl
  obtain ⟨fd_is_motion, F_is_motion⟩ := D.def_ 11 (d := dd_is_motion) rfl
  obtain ⟨fd_need_motions, F_need_motions⟩ := D.def_ 12 (d := dd_need_motions) rfl
  obtain ⟨fd_added, F_added⟩ := D.def_ 13 (d := dd_added) rfl
  obtain ⟨fd_own_moved, F_own_moved⟩ := D.def_ 14 (d := dd_own_moved) rfl
  obtain ⟨fd_own_then, F_own_then⟩ := D.def_ 15 (d := dd_own_then) rfl
  obtain ⟨fd_back_turn, F_back_turn⟩ := D.def_ 16 (d := dd_back_turn) rfl
  obtain ⟨fd_own_back, F_own_back⟩ := D.def_ 17 (d := dd_own_back) rfl
  obtain ⟨fd_is_part, F_is_part⟩ := D.def_ 18 (d := dd_is_part) rfl
  obtain ⟨fd_is_shut, F_is_shut⟩ := D.def_ 19 (d := dd_is_shut) rfl
  obtain ⟨fd_wrong_group, F_wrong_group⟩ := D.def_ 20 (d := dd_wrong_group) rfl
  obtain ⟨fd_need_group, F_need_group⟩ := D.def_ 21 (d := dd_need_group) rfl
  obtain ⟨fd_closed, F_closed⟩ := D.def_ 22 (d := dd_closed) rfl
  obtain ⟨fd_own_group, F_own_group⟩ := D.def_ 23 (d := dd_own_group) rfl
  obtain ⟨fd_group_by, F_group_by⟩ := D.def_ 24 (d := dd_group_by) rfl
  obtain ⟨fd_area_of, F_area_of⟩ := D.def_ 25 (d := dd_area_of) rfl
  obtain ⟨fd_makers, F_makers⟩ := D.def_ 26 (d := dd_makers) rfl
  obtain ⟨fd_moved_group, F_moved_group⟩ := D.def_ 27 (d := dd_moved_group) rfl
  obtain ⟨fd__law_mixed, F__law_mixed⟩ := D.def_ 28 (d := dd__law_mixed) rfl
  obtain ⟨fd__law_draw, F__law_draw⟩ := D.def_ 29 (d := dd__law_draw) rfl
  obtain ⟨fd__law_digit, F__law_digit⟩ := D.def_ 30 (d := dd__law_digit) rfl
  obtain ⟨fd__law_turned, F__law_turned⟩ := D.def_ 31 (d := dd__law_turned) rfl
  obtain ⟨fd__law_moved, F__law_moved⟩ := D.def_ 32 (d := dd__law_moved) rfl
  obtain ⟨fd__law_grid, F__law_grid⟩ := D.def_ 33 (d := dd__law_grid) rfl
  obtain ⟨fd__law_pair, F__law_pair⟩ := D.def_ 34 (d := dd__law_pair) rfl
  obtain ⟨fd__law_motion, F__law_motion⟩ := D.def_ 35 (d := dd__law_motion) rfl
  obtain ⟨fd__law_rows, F__law_rows⟩ := D.def_ 36 (d := dd__law_rows) rfl
  obtain ⟨fd_law, F_law⟩ := D.def_ 37 (d := dd_law) rfl
  obtain ⟨fi_BadGrid, I_BadGrid⟩ := D.def_ 38 (d := di_BadGrid) rfl
  obtain ⟨fi_BadMotion, I_BadMotion⟩ := D.def_ 39 (d := di_BadMotion) rfl
  obtain ⟨fi_BadGroup, I_BadGroup⟩ := D.def_ 40 (d := di_BadGroup) rfl
  obtain ⟨fi_TooMany, I_TooMany⟩ := D.def_ 41 (d := di_TooMany) rfl
  obtain ⟨fi_NoSuch, I_NoSuch⟩ := D.def_ 42 (d := di_NoSuch) rfl
  have exs : ∀ c ∈ eNames, clsOf K c = some (He.ga K c) ∧ L2.XfC K (He.ga K c) ∧ PySem.W.findIn K (.ref (He.ga K c)) (Y.fld c) = some none := by
    intro c hc
    simp only [eNames, List.mem_cons, List.not_mem_nil, or_false] at hc
    rcases hc with rfl | rfl | rfl | rfl | rfl
    · exact errB_xf (xl 0 rfl)
    · exact errB_xf (xl 1 rfl)
    · exact errB_xf (xl 2 rfl)
    · exact errB_xf (xl 3 rfl)
    · exact errB_xf (xl 4 rfl)
  exact {
    n_isinstance := He.free_ok X G (D.fact 44 (f := .free "isinstance") rfl)
    n_int := He.free_ok X G (D.fact 45 (f := .free "int") rfl)
    n_bool := He.free_ok X G (D.fact 46 (f := .free "bool") rfl)
    n_str := He.free_ok X G (D.fact 47 (f := .free "str") rfl)
    n_tuple := He.free_ok X G (D.fact 48 (f := .free "tuple") rfl)
    n_len := He.free_ok X G (D.fact 49 (f := .free "len") rfl)
    n_all := He.free_ok X G (D.fact 50 (f := .free "all") rfl)
    n_dict := He.free_ok X G (D.fact 51 (f := .free "dict") rfl)
    n_any := He.free_ok X G (D.fact 52 (f := .free "any") rfl)
    n_enumerate := He.free_ok X G (D.fact 53 (f := .free "enumerate") rfl)
    n_sorted := He.free_ok X G (D.fact 54 (f := .free "sorted") rfl)
    n_range := He.free_ok X G (D.fact 55 (f := .free "range") rfl)
    n_sum := He.free_ok X G (D.fact 56 (f := .free "sum") rfl)
    i_gcd := PySem.W.mg_of X G (He.eqO_ok (xl 8 rfl))
    g_FAR := He.int_ok X G (D.fact 59 (f := .int "FAR" 1000000) rfl)
    g_MOST_AREA := He.int_ok X G (D.fact 60 (f := .int "MOST_AREA" 1000) rfl)
    g_MOST_MOTIONS := He.int_ok X G (D.fact 61 (f := .int "MOST_MOTIONS" 50) rfl)
    g_TURNS := ⟨_, PySem.W.mg_of X G (cz.ns ("TURNS", v_TURNS) (List.mem_of_getElem? (i := 0) rfl)), List.mem_map.mpr ⟨("TURNS", v_TURNS), List.mem_of_getElem? (i := 0) rfl, rfl⟩⟩
    g_IDENTITY := ⟨_, PySem.W.mg_of X G (cz.ns ("IDENTITY", v_IDENTITY) (List.mem_of_getElem? (i := 1) rfl)), List.mem_map.mpr ⟨("IDENTITY", v_IDENTITY), List.mem_of_getElem? (i := 1) rfl, rfl⟩⟩
    d_is_whole := ⟨_, fd_is_whole, fun_of F_is_whole, m_is_whole, L2.FunD.bindsN F_is_whole fun _ _ _ _ _ _ us hl => match us, hl with | [_, _, _], _ => rfl⟩
    d_is_grid := ⟨_, fd_is_grid, fun_of F_is_grid, m_is_grid, L2.FunD.bindsN F_is_grid fun _ _ _ _ _ _ us hl => match us, hl with | [_], _ => rfl⟩
    d_need_grid := ⟨_, fd_need_grid, fun_of F_need_grid, m_need_grid, L2.FunD.bindsN F_need_grid fun _ _ _ _ _ _ us hl => match us, hl with | [_], _ => rfl⟩
    d_is_cell := ⟨_, fd_is_cell, fun_of F_is_cell, m_is_cell, L2.FunD.bindsN F_is_cell fun _ _ _ _ _ _ us hl => match us, hl with | [_], _ => rfl⟩
    d_own_turned := ⟨_, fd_own_turned, fun_of F_own_turned, m_own_turned, L2.FunD.bindsN F_own_turned fun _ _ _ _ _ _ us hl => match us, hl with | [_, _, _], _ => rfl⟩
    d_own_then_turn := ⟨_, fd_own_then_turn, fun_of F_own_then_turn, m_own_then_turn, L2.FunD.bindsN F_own_then_turn fun _ _ _ _ _ _ us hl => match us, hl with | [_, _, _], _ => rfl⟩
    d_is_lattice := ⟨_, fd_is_lattice, fun_of F_is_lattice, m_is_lattice, L2.FunD.bindsN F_is_lattice fun _ _ _ _ _ _ us hl => match us, hl with | [_], _ => rfl⟩
    d_own_in_box := ⟨_, fd_own_in_box, fun_of F_own_in_box, m_own_in_box, L2.FunD.bindsN F_own_in_box fun _ _ _ _ _ _ us hl => match us, hl with | [_, _], _ => rfl⟩
    d_reduced := ⟨_, fd_reduced, fun_of F_reduced, m_reduced, L2.FunD.bindsN F_reduced fun _ _ _ _ _ _ us hl => match us, hl with | [_], _ => rfl⟩
    d_own_lattice := ⟨_, fd_own_lattice, fun_of F_own_lattice, m_own_lattice, L2.FunD.bindsN F_own_lattice fun _ _ _ _ _ _ us hl => match us, hl with | [_], _ => rfl⟩
    d_basis := ⟨_, fd_basis, fun_of F_basis, m_basis, L2.FunD.bindsN F_basis fun _ _ _ _ _ _ us hl => match us, hl with | [_], _ => rfl⟩
    d_is_motion := ⟨_, fd_is_motion, fun_of F_is_motion, m_is_motion, L2.FunD.bindsN F_is_motion fun _ _ _ _ _ _ us hl => match us, hl with | [_, _], _ => rfl⟩
    d_need_motions := ⟨_, fd_need_motions, fun_of F_need_motions, m_need_motions, L2.FunD.bindsN F_need_motions fun _ _ _ _ _ _ us hl => match us, hl with | [_, _], _ => rfl⟩
    d_added := ⟨_, fd_added, fun_of F_added, m_added, L2.FunD.bindsN F_added fun _ _ _ _ _ _ us hl => match us, hl with | [_, _], _ => rfl⟩
    d_own_moved := ⟨_, fd_own_moved, fun_of F_own_moved, m_own_moved, L2.FunD.bindsN F_own_moved fun _ _ _ _ _ _ us hl => match us, hl with | [_, _, _], _ => rfl⟩
    d_own_then := ⟨_, fd_own_then, fun_of F_own_then, m_own_then, L2.FunD.bindsN F_own_then fun _ _ _ _ _ _ us hl => match us, hl with | [_, _, _], _ => rfl⟩
    d_back_turn := ⟨_, fd_back_turn, fun_of F_back_turn, m_back_turn, L2.FunD.bindsN F_back_turn fun _ _ _ _ _ _ us hl => match us, hl with | [_, _], _ => rfl⟩
    d_own_back := ⟨_, fd_own_back, fun_of F_own_back, m_own_back, L2.FunD.bindsN F_own_back fun _ _ _ _ _ _ us hl => match us, hl with | [_, _], _ => rfl⟩
    d_is_part := ⟨_, fd_is_part, fun_of F_is_part, m_is_part, L2.FunD.bindsN F_is_part fun _ _ _ _ _ _ us hl => match us, hl with | [_, _, _], _ => rfl⟩
    d_is_shut := ⟨_, fd_is_shut, fun_of F_is_shut, m_is_shut, L2.FunD.bindsN F_is_shut fun _ _ _ _ _ _ us hl => match us, hl with | [_, _, _], _ => rfl⟩
    d_wrong_group := ⟨_, fd_wrong_group, fun_of F_wrong_group, m_wrong_group, L2.FunD.bindsN F_wrong_group fun _ _ _ _ _ _ us hl => match us, hl with | [_], _ => rfl⟩
    d_need_group := ⟨_, fd_need_group, fun_of F_need_group, m_need_group, L2.FunD.bindsN F_need_group fun _ _ _ _ _ _ us hl => match us, hl with | [_], _ => rfl⟩
    d_closed := ⟨_, fd_closed, fun_of F_closed, m_closed, L2.FunD.bindsN F_closed fun _ _ _ _ _ _ us hl => match us, hl with | [_, _], _ => rfl⟩
    d_own_group := ⟨_, fd_own_group, fun_of F_own_group, m_own_group, L2.FunD.bindsN F_own_group fun _ _ _ _ _ _ us hl => match us, hl with | [_, _], _ => rfl⟩
    d_group_by := ⟨_, fd_group_by, fun_of F_group_by, m_group_by, L2.FunD.bindsN F_group_by fun _ _ _ _ _ _ us hl => match us, hl with | [_, _], _ => rfl⟩
    d_area_of := ⟨_, fd_area_of, fun_of F_area_of, m_area_of, L2.FunD.bindsN F_area_of fun _ _ _ _ _ _ us hl => match us, hl with | [_], _ => rfl⟩
    d_makers := ⟨_, fd_makers, fun_of F_makers, m_makers, L2.FunD.bindsN F_makers fun _ _ _ _ _ _ us hl => match us, hl with | [_], _ => rfl⟩
    d_moved_group := ⟨_, fd_moved_group, fun_of F_moved_group, m_moved_group, L2.FunD.bindsN F_moved_group fun _ _ _ _ _ _ us hl => match us, hl with | [_, _], _ => rfl⟩
    d__law_mixed := ⟨_, fd__law_mixed, fun_of F__law_mixed, m__law_mixed, L2.FunD.bindsN F__law_mixed fun _ _ _ _ _ _ us hl => match us, hl with | [_, _], _ => rfl⟩
    d__law_draw := ⟨_, fd__law_draw, fun_of F__law_draw, m__law_draw, L2.FunD.bindsN F__law_draw fun _ _ _ _ _ _ us hl => match us, hl with | [_, _], _ => rfl⟩
    d__law_digit := ⟨_, fd__law_digit, fun_of F__law_digit, m__law_digit, L2.FunD.bindsN F__law_digit fun _ _ _ _ _ _ us hl => match us, hl with | [_, _], _ => rfl⟩
    d__law_turned := ⟨_, fd__law_turned, fun_of F__law_turned, m__law_turned, L2.FunD.bindsN F__law_turned fun _ _ _ _ _ _ us hl => match us, hl with | [_, _, _], _ => rfl⟩
    d__law_moved := ⟨_, fd__law_moved, fun_of F__law_moved, m__law_moved, L2.FunD.bindsN F__law_moved fun _ _ _ _ _ _ us hl => match us, hl with | [_, _, _], _ => rfl⟩
    d__law_grid := ⟨_, fd__law_grid, fun_of F__law_grid, m__law_grid, L2.FunD.bindsN F__law_grid fun _ _ _ _ _ _ us hl => match us, hl with | [_], _ => rfl⟩
    d__law_pair := ⟨_, fd__law_pair, fun_of F__law_pair, m__law_pair, L2.FunD.bindsN F__law_pair fun _ _ _ _ _ _ us hl => match us, hl with | [_, _], _ => rfl⟩
    d__law_motion := ⟨_, fd__law_motion, fun_of F__law_motion, m__law_motion, L2.FunD.bindsN F__law_motion fun _ _ _ _ _ _ us hl => match us, hl with | [_, _, _], _ => rfl⟩
    d__law_rows := ⟨_, fd__law_rows, fun_of F__law_rows, m__law_rows, L2.FunD.bindsN F__law_rows fun _ _ _ _ _ _ us hl => match us, hl with | [_, _, _], _ => rfl⟩
    d_law := ⟨_, fd_law, fun_of F_law, m_law, L2.FunD.bindsN F_law fun _ _ _ _ _ _ us hl => match us, hl with | [_], _ => rfl⟩
    c_BadGrid := errB_at (xl 0 rfl) (by decide) m_BadGrid I_BadGrid (binds_full I_BadGrid (fun _ _ _ _ _ _ us hl z => nomatch z) (fun T kV doc pm an cdv ct us its l1 l2 _ => match us, l1, its, l2 with | [_, _], _, [_], _ => ⟨_, rfl, rfl⟩))
    b_BadGrid := basB_own (xl 5 rfl) m_PatternError (by decide) base_VE.hand
    c_BadMotion := errB_at (xl 1 rfl) (by decide) m_BadMotion I_BadMotion (binds_full I_BadMotion (fun _ _ _ _ _ _ us hl z => nomatch z) (fun T kV doc pm an cdv ct us its l1 l2 _ => match us, l1, its, l2 with | [_, _], _, [_], _ => ⟨_, rfl, rfl⟩))
    b_BadMotion := basB_own (xl 5 rfl) m_PatternError (by decide) base_VE.hand
    c_BadGroup := errB_at (xl 2 rfl) (by decide) m_BadGroup I_BadGroup (binds_full I_BadGroup (fun _ _ _ _ _ _ us hl z => nomatch z) (fun T kV doc pm an cdv ct us its l1 l2 _ => match us, l1, its, l2 with | [_, _], _, [_], _ => ⟨_, rfl, rfl⟩))
    b_BadGroup := basB_own (xl 5 rfl) m_PatternError (by decide) base_VE.hand
    c_TooMany := errB_at (xl 3 rfl) (by decide) m_TooMany I_TooMany (L2.FunD.bindsN I_TooMany fun _ _ _ _ _ _ us hl => match us, hl with | [_, _], _ => rfl)
    b_TooMany := .blt (He.free_ok X G (D.fact 57 (f := .free "OverflowError") rfl)) rfl (by decide) (by decide) base_OE.typ base_OE.stub (valIs_ok (xl 6 rfl)) base_OE.hand
    c_NoSuch := errB_at (xl 4 rfl) (by decide) m_NoSuch I_NoSuch (binds_full I_NoSuch (fun _ _ _ _ _ _ us hl z => nomatch z) (fun T kV doc pm an cdv ct us its l1 l2 _ => match us, l1, its, l2 with | [_, _], _, [_], _ => ⟨_, rfl, rfl⟩))
    b_NoSuch := .blt (He.free_ok X G (D.fact 58 (f := .free "LookupError") rfl)) rfl (by decide) (by decide) base_LE.typ base_LE.stub (valIs_ok (xl 7 rfl)) base_LE.hand
    m_PatternError := m_PatternError
    m_BadGrid := m_BadGrid
    m_BadMotion := m_BadMotion
    m_BadGroup := m_BadGroup
    m_TooMany := m_TooMany
    m_NoSuch := m_NoSuch
    clo := fun c C hC => by obtain ⟨hc, rfl⟩ := clsE_inv hC; exact (exs c hc).1
    xf := fun c hc C hC => by obtain ⟨z1, z2, z3⟩ := exs c hc; rw [z1] at hC; cases hC; exact ⟨z2, z3⟩
  }
theorem lawAt {l : PySem.W.OpenLaw} {fa : Addr} (hl : l.prog = PySem.Challenge.pw_patternwright_k11_whole_known_groups_by) (X : K.In h) (G : h.Ns mainGlobals mg) (hfa : mg "law" = some (.ref fa)) (c : He.SaysX fcs dsl [] tfd exb w h K) {hs : List (Addr × Obj)} (cz : ConS w cns K hs h) (plain : ∀ ns : List Int, ns.length ≤ 63 → F_law [.list (ns.map PyData.int)] = .ok (.bool true)) : LawAtG l w K 8 63 "script" mg fa h := by
  obtain ⟨fd, FL⟩ := c.t.d.def_ 37 (d := dd_law) rfl
  have e := hfa.symm.trans (He.glo_ok X G (c.t.d.fact 37 (f := .glo "law") rfl))
  cases e
  have b := L2.FunD.bindsA (ps := ["script"]) FL fun _ _ _ _ _ _ us hl => match us, hl with | [_], _ => rfl
  refine ⟨fd, tfd.map (He.cT K), hs, spF K ⟨tabs K tfn, consT K cns⟩ (clsE K eNames) 1 F_law, ⟨cz.at_, cz.no, cz.ok⟩, noLst_ok (exl_at c.more 9 rfl), fun p hp => ?_, fun p hp => ?_, fun p hp => ?_, fun s v => b s [v] rfl, fun H a ns hlen hbits hH hC hS => sp_law hS (fun p hp => ?_) hC (fun G hG p hp => by obtain ⟨z, hz, rfl⟩ := List.mem_map.mp hp; exact cz.tr z hz G hG) (plain ns hlen), fun base kb nb TB => ?_⟩
  · obtain ⟨z, hz, rfl⟩ := List.mem_map.mp hp; exact c.empty z hz
  · obtain ⟨z, hz, rfl⟩ := List.mem_map.mp hp; exact c.out z hz
  · obtain ⟨z, hz, rfl⟩ := List.mem_map.mp hp; exact PySem.W.codeHd_of_K X (c.hd z hz)
  · obtain ⟨z, hz, rfl⟩ := List.mem_map.mp hp; exact LamX.TabS.nil (hH _ (List.mem_map.mpr ⟨(z, none), List.mem_map.mpr ⟨z, hz, rfl⟩, rfl⟩))
  · have fx := fx_of (base := base) X G c cz TB
    have Fn : L2.Fun K "law" "law" s_law (He.ga K "law") fd := fun_of FL
    exact fn_pure Fn S_law rfl (B_law fx _ (He.glo_ok X G (c.t.d.fact 37 (f := .glo "law") rfl)))
end
abbrev Rw : PySem.W.OpenRow := PySem.W.OpenLaw.row PySem.Challenge.rw_patternwright_k11_whole_known_groups_by
abbrev hk : PySem.W.Hook := hookY 4 fcs dsl [] tfd exb cns
def ob (s : PySem.W.SharedT) : AlY := obsY 4 fcs dsl [] tfd exb cns (HandSHeadRun.getT s)
theorem ob_eq (s : PySem.W.SharedT) : ob s = hk.obs s.abs := obsY_eq (HandSHeadRun.getT_eq s)
def loose : List Str := (["PatternError", "BadGrid", "BadMotion", "BadGroup", "TooMany", "NoSuch", "FAR", "TURNS", "MOST_AREA", "IDENTITY", "MOST_MOTIONS", "is_whole", "is_grid", "need_grid", "is_cell", "own_turned", "own_then_turn", "is_lattice", "own_in_box", "reduced"] : List Str) ++ (["own_lattice", "basis", "is_motion", "need_motions", "added", "own_moved", "own_then", "back_turn", "own_back", "is_part", "is_shut", "wrong_group", "need_group", "closed", "own_group", "group_by", "area_of", "makers", "moved_group", "_law_mixed"] : List Str) ++ (["_law_draw", "_law_digit", "_law_turned", "_law_moved", "_law_grid", "_law_pair", "_law_motion", "_law_rows"] : List Str)
theorem run1 (w : World) : HandSHeadRun.RunEqI Rw (PySem.W.view Rw.prog [0, 56]) hk ob 20600 loose (setF w true) := by
  unfold HandSHeadRun.RunEqI
  kernel_rfl
theorem run0 (w : World) : HandSHeadRun.RunEqI Rw (PySem.W.view Rw.prog [0, 56]) hk ob 20600 loose (setF w false) := by
  unfold HandSHeadRun.RunEqI
  kernel_rfl
theorem run (w : World) : HandSHeadRun.RunEqI Rw (PySem.W.view Rw.prog [0, 56]) hk ob 20600 loose w := by
  rw [← setF_eq w]
  cases w.params.followText "special-get-raises"
  · exact run0 w
  · exact run1 w
end K11
open PySem PySem.W PySem.Calls PyProof.Rows
theorem K11.holds_of (plain : ∀ ns : List Int, ns.length ≤ 63 → K11.F_law [.list (ns.map PyData.int)] = .ok (.bool true)) : PySem.Challenge.rw_patternwright_k11_whole_known_groups_by.Holds := by
  w_on; o_law
  refine HandSHeadRun.head_imp (r := OpenLaw.row PySem.Challenge.rw_patternwright_k11_whole_known_groups_by) (q := view (OpenLaw.row PySem.Challenge.rw_patternwright_k11_whole_known_groups_by).prog [0, 56]) (H := K11.hk) (ob := K11.ob) (M := 20600) (loose := K11.loose) (d := HandSHeadRun.topDef (OpenLaw.row PySem.Challenge.rw_patternwright_k11_whole_known_groups_by).prog 56) (kwd := []) K11.ob_eq
    K11.run (by kernel_rfl) (by kernel_rfl) (by kernel_rfl) (by rfl) (by first | assumption | decide +kernel) (by decide +kernel) ⟨rfl, rfl, rfl, rfl, rfl, by decide +kernel⟩ ?hw ?hc
  case hw => w_witness2
  case hc =>
    refine Y.walk_ofG (l := PySem.Challenge.rw_patternwright_k11_whole_known_groups_by) (n := 63) (k := 8) (x := "script") rfl (by decide) (by kernel_rfl) ⟨rfl, by decide, by decide⟩ rfl ?F
    intro w mg fa h Yh G hmg0
    obtain ⟨K, hs, KX, c, cz⟩ := Yh
    have hmg : mg ("law" : PySem.Str) = some (.ref fa) := by
      have e : (HandSHeadRun.topDef (OpenLaw.row PySem.Challenge.rw_patternwright_k11_whole_known_groups_by).prog 56).name = ("law" : PySem.Str) := by kernel_rfl
      rw [← e]
      exact hmg0
    exact ⟨K, KX, K11.lawAt rfl KX G hmg c cz plain⟩


namespace K11
open PySem PySem.Spec PyProof.Rows L2 Y Mot
theorem fmod4 (k : Int) : k.fmod 4 = 0 ∨ k.fmod 4 = 1 ∨ k.fmod 4 = 2 ∨ k.fmod 4 = 3 := by
  rw [Int.fmod_eq_emod_of_nonneg _ (by decide)]
  omega
/-- the drawn number -/
def mixed (c k : Int) : Int :=
  let m : Int := if k.fmod 4 = 0 then 1000000007 else if k.fmod 4 = 1 then 998244353 else if k.fmod 4 = 2 then 2147483629 else 1000000009
  let n := c.fmod m + 7919 * k + 13
  ((n * n).fmod 2147483647 * 48271).fmod 2147483647
theorem p_mixed (c k : Int) (h0 : 0 ≤ k) (h1 : k < 1000000000000) : F__law_mixed [.int c, .int k] = .ok (.int (mixed c k)) := by
  unfold F__law_mixed fnR g__law_mixed n__law_mixed mixed
  have b : ∀ m : Int, 0 < m → m ≤ 2147483629 → mulOk (c.fmod m + 7919 * k + 13) (c.fmod m + 7919 * k + 13) = true := fun m hm hm2 => by
    have z1 := Int.fmod_nonneg_of_pos c hm
    have z2 := Int.fmod_lt_of_pos c hm
    exact mulOk_l (by omega)
  have b1 := b 1000000007 (by decide) (by decide)
  have b2 := b 998244353 (by decide) (by decide)
  have b3 := b 2147483629 (by decide) (by decide)
  have b4 := b 1000000009 (by decide) (by decide)
  rcases fmod4 k with e | e | e | e
  all_goals simp [e, atI, ixN, mulOk_l (i := 7919) (j := k) (by decide), mulOk_r (j := 48271) (by decide), b1, b2, b3, b4, outR]
theorem mixed_range (c k : Int) : 0 ≤ mixed c k ∧ mixed c k < 2147483647 := ⟨Int.fmod_nonneg_of_pos _ (by decide), Int.fmod_lt_of_pos _ (by decide)⟩
/-- the state of the draws -/
def stD (l c t : Int) : PyData := .dict [(.str "left", .int l), (.str "cell", .int c), (.str "turns", .int t)]
theorem p_draw (c k : Int) (h0 : 0 ≤ k) (h1 : k < 1000) : F__law_draw [.int c, .int k] = .ok (stD (if c ≥ 1000000000000000000 then c else 0) c (1000 * k)) := by
  unfold F__law_draw fnN g__law_draw n__law_draw stD
  by_cases hc : c ≥ 1000000000000000000
  all_goals simp (decide := true) [gPow, g2I, hc, outN, Y.keyOf, mergeD, putD, mulOk_l (i := 1000) (j := k) (by decide)]
def dg (l c t : Int) : Int := l * 2147483647 + mixed c (t + 1)
/-- what is left, and the turns, ahead of the division -/
def fill (l c t : Int) : Int × Int := if l = 0 then (dg (dg (dg (dg l c t) c (t + 1)) c (t + 1 + 1)) c (t + 1 + 1 + 1), t + 1 + 1 + 1 + 1) else (l, t)
/-- one draw -/
theorem p_digit (l c t b : Int) (hb : 0 < b) (hb2 : b < 1073741824) (h0 : 0 ≤ t) (h1 : t < 100000000) :
    F__law_digit (stD l c t) [.int b] = .ok (.int ((fill l c t).1.fmod b), stD ((fill l c t).1.fdiv b) c (fill l c t).2) := by
  have hbz : b ≠ 0 := by omega
  have hbq : b < 1073741824 := by omega
  have m : ∀ i : Int, mulOk i 2147483647 = true := fun i => mulOk_r (by decide)
  unfold F__law_digit fnS g__law_digit n__law_digit stD fill dg
  by_cases hl : l = 0
  · have p1 := p_mixed c (t + 1) (by omega) (by omega)
    have p2 := p_mixed c (t + 1 + 1) (by omega) (by omega)
    have p3 := p_mixed c (t + 1 + 1 + 1) (by omega) (by omega)
    have p4 := p_mixed c (t + 1 + 1 + 1 + 1) (by omega) (by omega)
    have e4 : rangeD 0 4 = [.int 0, .int 1, .int 2, .int 3] := rfl
    simp (decide := true) [hl, rngOf, e4, forF, putD, m, p1, p2, p3, p4, hbz, hb, hbq, outS, ioOnly]
  · simp (decide := true) [hl, putD, hbz, hb, hbq, outS, ioOnly]
theorem p_dig (l c t b : Int) (hb : 0 < b) (hb2 : b < 1073741824) (h0 : 0 ≤ t) (h1 : t < 100000000) :
    ∃ d l' t', F__law_digit (stD l c t) [.int b] = .ok (.int d, stD l' c t') ∧ 0 ≤ d ∧ d < b ∧ 0 ≤ t' ∧ t' ≤ t + 4 := by
  refine ⟨_, _, _, p_digit l c t b hb hb2 h0 h1, Int.fmod_nonneg_of_pos _ hb, Int.fmod_lt_of_pos _ hb, ?_, ?_⟩
  · unfold fill; split <;> (simp only; omega)
  · unfold fill; split <;> (simp only; omega)
/-! ### the draws, their state hidden -/
def St (B : Int) (d : PyData) : Prop := ∃ l c t, d = stD l c t ∧ 0 ≤ t ∧ t ≤ B
theorem St.mono {B B' : Int} {d : PyData} (h : St B d) (hb : B ≤ B') : St B' d := by
  obtain ⟨l, c, t, e, h0, h1⟩ := h
  exact ⟨l, c, t, e, h0, by omega⟩
theorem drawS (c k : Int) (h0 : 0 ≤ k) (h1 : k < 1000) : ∃ d, F__law_draw [.int c, .int k] = .ok d ∧ St 1000000 d :=
  ⟨_, p_draw c k h0 h1, _, _, _, rfl, by omega, by omega⟩
theorem digS {B : Int} {d : PyData} (h : St B d) (b : Int) (hb : 0 < b) (hb2 : b < 1073741824) (hB : B < 100000000) : ∃ r d', F__law_digit d [.int b] = .ok (.int r, d') ∧ 0 ≤ r ∧ r < b ∧ St (B + 4) d' := by
  obtain ⟨l, c, t, rfl, h0, h1⟩ := h
  obtain ⟨r, l', t', e, a, b', c', f⟩ := p_dig l c t b hb hb2 h0 (by omega)
  exact ⟨r, _, e, a, b', l', c, t', rfl, c', by omega⟩
end K11


namespace K11
open PySem PySem.Spec PyProof.Rows L2 Y Mot
theorem p_whole (i l m : Int) : F_is_whole [.int i, .int l, .int m] = .ok (.bool (decide (l ≤ i ∧ i ≤ m))) := by
  unfold F_is_whole fnR g_is_whole n_is_whole
  by_cases h : l ≤ i
  all_goals simp (decide := true) [isExc, isTy, isTyS, tyOf, outR, h]
instance (x : Int) : Decidable (near x) := inferInstanceAs (Decidable (_ ∧ _))
theorem is_cell_iff (x y : Int) : F_is_cell [pr x y] = .ok (.bool (decide (near x ∧ near y))) := by
  have w1 := p_whole x (0 - 1000000) 1000000
  have w2 := p_whole y (0 - 1000000) 1000000
  unfold F_is_cell fnR g_is_cell n_is_cell pr
  simp (decide := true) at w1 w2
  simp (decide := true) [isExc, isTy, isTyS, tyOf, outR, compF, v_FAR, w1, w2, gAll, bolsOf, scl]
  unfold near
  by_cases h1 : -1000000 ≤ x <;> by_cases h2 : x ≤ 1000000 <;> by_cases h3 : -1000000 ≤ y <;> by_cases h4 : y ≤ 1000000 <;> simp [h1, h2, h3, h4]
theorem is_cell_ok {x y : Int} (hx : near x) (hy : near y) : F_is_cell [pr x y] = .ok (.bool true) := by
  rw [is_cell_iff, decide_eq_true ⟨hx, hy⟩]
theorem sh_pr (a b : Int) : SeqAt.shaped (pr a b) = true := sh_tupI [a, b]
theorem eq_pr (a b c d : Int) : gEq (pr a b) (pr c d) = some (.bool (decide (a = c ∧ b = d))) := by
  have := eqTI [a, b] [c, d]
  simp only [List.map_cons, List.map_nil] at this
  rw [this]
  by_cases h1 : a = c <;> by_cases h2 : b = d <;> simp [h1, h2]
theorem ne_pr (a b c d : Int) : gNe (pr a b) (pr c d) = some (.bool (!decide (a = c ∧ b = d))) := by
  have := neTI [a, b] [c, d]
  simp only [List.map_cons, List.map_nil] at this
  rw [this]
  by_cases h1 : a = c <;> by_cases h2 : b = d <;> simp [h1, h2]
theorem sh_ptsA (vs : List (Int × Int)) : PyData.canLayAll0 (vs.map prp) = true ∧ PyData.depthAll (vs.map prp) ≤ 2 := by
  induction vs with
  | nil => exact ⟨rfl, Nat.zero_le _⟩
  | cons a as ih => simp [PyData.canLayAll0, PyData.canLay0, PyData.depthAll, PyData.depth] at ih ⊢; first | exact ih | exact ⟨ih.1, by omega⟩ | omega
theorem sh_ptsT (vs : List (Int × Int)) : SeqAt.shaped (.tuple (vs.map prp)) = true := by
  unfold SeqAt.shaped
  have := sh_ptsA vs
  simp [PyData.canLay0, PyData.depth, this.1]
  omega
theorem sh_ptsL (vs : List (Int × Int)) : SeqAt.shaped (.list (vs.map prp)) = true := by
  unfold SeqAt.shaped
  have := sh_ptsA vs
  simp [PyData.canLay0, PyData.depth, this.1]
  omega
end K11


namespace K11
open PySem PySem.Spec PyProof.Rows L2 Y Mot
/-! ### lattices looked at -/
abbrev lat (p q r : Int) : PyData := .tuple [.int p, .int q, .int r]
structure okL (p q r : Int) : Prop where
  p1 : 1 ≤ p
  r1 : 1 ≤ r
  q0 : 0 ≤ q
  q1 : q < p
  a : p * r ≤ 1000
theorem okL.pb {p q r : Int} (h : okL p q r) : p ≤ 1000 := by
  have : p * 1 ≤ p * r := Int.mul_le_mul_of_nonneg_left h.r1 (by have := h.p1; omega)
  have := h.a; omega
theorem okL.rb {p q r : Int} (h : okL p q r) : r ≤ 1000 := by
  have : 1 * r ≤ p * r := Int.mul_le_mul_of_nonneg_right h.p1 (by have := h.r1; omega)
  have := h.a; omega
theorem is_lattice_ok {p q r : Int} (h : okL p q r) : F_is_lattice [lat p q r] = .ok (.bool true) := by
  have hp := h.pb
  have hr := h.rb
  obtain ⟨p1, r1, q0, q1, a⟩ := h
  have w1 := p_whole p 0 1000
  have w2 := p_whole q 0 1000
  have w3 := p_whole r 0 1000
  rw [decide_eq_true ⟨by omega, by omega⟩] at w1 w2 w3
  have m : mulOk p r = true := mulOk_l (by omega)
  unfold F_is_lattice fnR g_is_lattice n_is_lattice lat
  simp (decide := true) [isExc, isTy, isTyS, tyOf, outR, compF, v_MOST_AREA, w1, w2, w3, gAll, bolsOf, scl, m, p1, r1, q1, a]
theorem own_in_box_ok {p q r : Int} (h : okL p q r) (v : Lat.Pt) : F_own_in_box [lat p q r, prp v] = .ok (prp (Lat.inbox p q r v)) := by
  have hp := h.pb
  have hr := h.rb
  obtain ⟨p1, r1, q0, q1, a⟩ := h
  have m1 : ∀ j, mulOk j q = true := fun j => mulOk_r (by omega)
  have m2 : ∀ j, mulOk j r = true := fun j => mulOk_r (by omega)
  have d : ∀ j, gDiv (.int j) (.int r) = some (.int (j.fdiv r)) := fun j => divI (by omega) (by omega)
  have hp0 : p ≠ 0 := by omega
  unfold F_own_in_box fnR g_own_in_box n_own_in_box lat Lat.inbox prp pr
  simp (decide := true) [outR, m1, m2, d, hp0]
theorem basis_e (p q r : Int) : (PyData.tuple [.tuple [.int p, .int 0], .tuple [.int q, .int r]]) = .tuple ([(p, 0), (q, r)].map prp) := rfl
end K11


namespace K11
open PySem PySem.Spec PyProof.Rows L2 Y Mot
/-! ### the one form of what vectors span -/
def rdC : TF := fB (fOp gNe (fIxN 4 (fC (.int 1))) (fC (.int 0)))
def rdW : SF := sSeq (sAsg (fOp gDiv (fIxN 2 (fC (.int 1))) (fIxN 4 (fC (.int 1)))) (tNm 5))
  (sPar [2, 4] [false, false] (fCons (fNm 4) (fCons (fTup (fCons (fOp gSub (fIxN 2 (fC (.int 0))) (fOp gMul (fNm 5) (fIxN 4 (fC (.int 0))))) (fCons (fOp gSub (fIxN 2 (fC (.int 1))) (fOp gMul (fNm 5) (fIxN 4 (fC (.int 1))))) fNil))) fNil)))
def rdB : SF := sSeq (sAsg (fNm 3) (tNm 4)) (sSeq (sWhile rdC rdW) (sAsg (fBlt gGcd (fCons (fNm 1) (fCons (fIxN 4 (fC (.int 0))) fNil))) (tNm 1)))
def rd0 : SF := sAsg (fTup (fCons (fC (.int 0)) (fCons (fTup (fCons (fC (.int 0)) (fCons (fC (.int 0)) fNil))) fNil))) (tTp 2 (tsCons (tNm 1) (tsCons (tNm 2) tsNil)))
def rd2 : SF := sIf (fB (fOp gLt (fIxN 2 (fC (.int 1))) (fC (.int 0)))) (sAsg (fTup (fCons (fOp gSub (fC (.int 0)) (fIxN 2 (fC (.int 0)))) (fCons (fOp gSub (fC (.int 0)) (fIxN 2 (fC (.int 1)))) fNil))) (tNm 2)) sNil
def rd3 : SF := sRet (fTup (fCons (fNm 1) (fCons (fIf (fB (fOp gGt (fNm 1) (fC (.int 0)))) (fOp gMod (fIxN 2 (fC (.int 0))) (fNm 1)) (fIxN 2 (fC (.int 0)))) (fCons (fIxN 2 (fC (.int 1))) fNil))))
theorem rd_eq : g_reduced = sSeq rd0 (sSeq (sFor (fItems (fNm 0)) (tNm 3) rdB) (sSeq rd2 rd3)) := rfl
section
variable {c : PyData} {vs : List Lat.Pt} {Bd : Nat}
/-- the vectors looked at are combinations of the two that are kept -/
structure RdJ (Bd : Nat) (ws : List Lat.Pt) (P : Int) (h : Lat.Pt) : Prop where
  p0 : 0 ≤ P
  s1 : Lat.Sp ws (P, 0)
  s2 : Lat.Sp ws h
  gen : ∀ v ∈ ws, ∃ a b : Int, v = (a * P + b * h.1, b * h.2)
  bd : h.2.natAbs ≤ Bd
structure RdK (Bd : Nat) (ws : List Lat.Pt) (P : Int) (h l : Lat.Pt) : Prop where
  s2 : Lat.Sp ws h
  s3 : Lat.Sp ws l
  gen : ∀ v ∈ ws, ∃ a b d : Int, v = (a * P + b * h.1 + d * l.1, b * h.2 + d * l.2)
  bd : h.2.natAbs ≤ Bd
  bl : l.2.natAbs ≤ Bd
theorem RdK.step {ws : List Lat.Pt} {P : Int} {h l : Lat.Pt} (k : RdK Bd ws P h l) (n : l.2 ≠ 0) :
    RdK Bd ws P l (h.1 - h.2.fdiv l.2 * l.1, h.2 - h.2.fdiv l.2 * l.2) ∧ (h.2 - h.2.fdiv l.2 * l.2).natAbs < l.2.natAbs := by
  have lt := Lat.rem_lt (a := h.2) n
  refine ⟨⟨k.s3, ?_, fun v hv => ?_, k.bl, by have := k.bl; show (h.2 - h.2.fdiv l.2 * l.2).natAbs ≤ Bd; omega⟩, lt⟩
  · have := k.s2.comb k.s3 1 (-(h.2.fdiv l.2))
    have e : (h.1 - h.2.fdiv l.2 * l.1, h.2 - h.2.fdiv l.2 * l.2) = (1 * h.1 + -(h.2.fdiv l.2) * l.1, 1 * h.2 + -(h.2.fdiv l.2) * l.2) := by
      refine Prod.ext ?_ ?_ <;> (try simp only) <;> grind
    rw [e]; exact this
  · obtain ⟨a, b, d, rfl⟩ := k.gen v hv
    exact ⟨a, d + b * h.2.fdiv l.2, b, by refine Prod.ext ?_ ?_ <;> (try simp only) <;> grind⟩
theorem rd_while (hB : Bd < 10000000) {ws : List Lat.Pt} {P : Int} {h l : Lat.Pt} {s3 s5 : Sl} (k : RdK Bd ws P h l) :
    ∃ h' l' t, sWhile rdC rdW [.sh c, .sh (.int P), .sh (prp h), s3, .sh (prp l), s5] = .nx [.sh c, .sh (.int P), .sh (prp h'), s3, .sh (prp l'), t] ∧ RdK Bd ws P h' l' ∧ l'.2 = 0 := by
  obtain ⟨ρ', e, h', l', t, rfl, k', z⟩ := while_run (c := rdC) (b := rdW)
    (I := fun n ρ => ∃ h l t, ρ = [.sh c, .sh (.int P), .sh (prp h), s3, .sh (prp l), t] ∧ RdK Bd ws P h l ∧ l.2.natAbs = n)
    (Post := fun ρ => ∃ h l t, ρ = [.sh c, .sh (.int P), .sh (prp h), s3, .sh (prp l), t] ∧ RdK Bd ws P h l ∧ l.2 = 0) (fun n ρ hI => by
      obtain ⟨h, l, t, rfl, k, hn⟩ := hI
      by_cases z : l.2 = 0
      · refine .inr ⟨[.sh c, .sh (.int P), .sh (prp h), s3, .sh (prp l), t], ?_, h, l, t, rfl, k, z⟩
        unfold rdC prp pr
        simp (decide := true) [z]
      · obtain ⟨k', lt⟩ := k.step z
        have d : gDiv (.int h.2) (.int l.2) = some (.int (h.2.fdiv l.2)) := divI z (by have := k.bl; omega)
        have m : ∀ j, mulOk (h.2.fdiv l.2) j = true := fun j => mulOk_l (by
          have := k.bd
          have h1 : (h.2.fdiv l.2).natAbs ≤ h.2.natAbs + 1 := by
            have q := Int.mul_fdiv_add_fmod h.2 l.2
            have r := Lat.rem_lt (a := h.2) z
            by_cases z1 : (h.2.fdiv l.2).natAbs ≤ h.2.natAbs + 1
            · exact z1
            · exfalso
              have e1 : (h.2.fdiv l.2 * l.2).natAbs = (h.2.fdiv l.2).natAbs * l.2.natAbs := Int.natAbs_mul _ _
              have e2 : (h.2.natAbs + 2) * l.2.natAbs ≤ (h.2.fdiv l.2).natAbs * l.2.natAbs := Nat.mul_le_mul_right _ (by omega)
              have e3 : h.2.natAbs * 1 ≤ h.2.natAbs * l.2.natAbs := Nat.mul_le_mul_left _ (by omega)
              have e4 : (h.2.natAbs + 2) * l.2.natAbs = h.2.natAbs * l.2.natAbs + 2 * l.2.natAbs := by rw [Nat.add_mul]
              omega
          omega)
        refine .inl ⟨[.sh c, .sh (.int P), .sh (prp h), s3, .sh (prp l), t], (h.2 - h.2.fdiv l.2 * l.2).natAbs, [.sh c, .sh (.int P), .sh (prp l), s3, .sh (prp (h.1 - h.2.fdiv l.2 * l.1, h.2 - h.2.fdiv l.2 * l.2)), .sh (.int (h.2.fdiv l.2))], ?_, .inl ?_, by omega, _, _, _, rfl, k', rfl⟩
        · unfold rdC prp pr
          simp (decide := true) [z]
        · unfold rdW prp pr
          simp (decide := true) [d, m]) fuel l.2.natAbs [.sh c, .sh (.int P), .sh (prp h), s3, .sh (prp l), s5] (by have := k.bl; unfold fuel; omega) ⟨h, l, s5, rfl, k, rfl⟩
  exact ⟨h', l', t, e, k', z⟩
theorem rd_body (hB : Bd < 10000000) {ws : List Lat.Pt} {P : Int} {h v : Lat.Pt} {s4 s5 : Sl} (j : RdJ Bd ws P h) (hv : v.2.natAbs ≤ Bd) :
    ∃ P' h' t4 t5, rdB [.sh c, .sh (.int P), .sh (prp h), .sh (prp v), s4, s5] = .nx [.sh c, .sh (.int P'), .sh (prp h'), .sh (prp v), t4, t5] ∧ RdJ Bd (ws ++ [v]) P' h' := by
  have mono : ∀ u, Lat.Sp ws u → Lat.Sp (ws ++ [v]) u := fun u x => x.mono fun w hw => .mem (List.mem_append_left _ hw)
  have k0 : RdK Bd (ws ++ [v]) P h v := ⟨mono _ j.s2, .mem (by simp), fun w hw => by
    rcases List.mem_append.mp hw with hw | hw
    · obtain ⟨a, b, e⟩ := j.gen w hw
      exact ⟨a, b, 0, by rw [e]; simp⟩
    · rw [List.mem_singleton.mp hw]
      exact ⟨0, 0, 1, by simp⟩, j.bd, hv⟩
  obtain ⟨h', l', t, e, k, z⟩ := rd_while (c := c) hB (s3 := .sh (prp v)) (s5 := s5) k0
  refine ⟨((Nat.gcd P.natAbs l'.1.natAbs : Nat) : Int), h', .sh (prp l'), t, ?_, ?_⟩
  · unfold rdB
    refine seq_nx (P := fun o => o = _) (ρ' := [.sh c, .sh (.int P), .sh (prp h), .sh (prp v), .sh (prp v), s5]) (by simp (decide := true)) ?_
    refine seq_nx (P := fun o => o = _) e ?_
    unfold prp pr
    simp (decide := true)
  · obtain ⟨u, w, eb⟩ := Lat.bez P l'.1
    have d1 : ((Nat.gcd P.natAbs l'.1.natAbs : Nat) : Int) ∣ P := Int.gcd_dvd_left P l'.1
    have d2 : ((Nat.gcd P.natAbs l'.1.natAbs : Nat) : Int) ∣ l'.1 := Int.gcd_dvd_right P l'.1
    have s3 := k.s3
    obtain ⟨l1, l2⟩ := l'
    dsimp only at z eb d1 d2
    subst z
    refine ⟨by omega, ?_, k.s2, fun x hx => ?_, k.bd⟩
    · have := (mono _ j.s1).comb s3 u w
      rw [eb]
      simpa using this
    · obtain ⟨a, b, d, rfl⟩ := k.gen x hx
      dsimp only
      generalize ((Nat.gcd P.natAbs l1.natAbs : Nat) : Int) = g at *
      obtain ⟨x1, rfl⟩ := d1
      obtain ⟨x2, rfl⟩ := d2
      exact ⟨a * x1 + d * x2, b, by refine Prod.ext ?_ ?_ <;> (try simp only) <;> grind⟩
theorem reduced_ok (hc : itemsOf c = some (vs.map prp)) (hB : Bd < 10000000) (hv : ∀ v ∈ vs, v.2.natAbs ≤ Bd) :
    ∃ p q r : Int, F_reduced [c] = .ok (lat p q r) ∧ Lat.IsRed vs p q r ∧ r ≤ Bd := by
  obtain ⟨ρ', e, P, h, t3, t4, t5, rfl, J⟩ := for_run (k := 0) (I := fun k ρ => ∃ P h t3 t4 t5, ρ = [.sh c, .sh (.int P), .sh (prp h), t3, t4, t5] ∧ RdJ Bd (vs.take k) P h) (g := tNm 3) (b := rdB) (ds := vs.map prp) (ρ := [.sh c, .sh (.int 0), .sh (pr 0 0), .un, .un, .un]) (fun i d ρ hd hJ => by
    obtain ⟨P, h, t3, t4, t5, rfl, J⟩ := hJ
    rw [List.getElem?_map] at hd
    obtain ⟨v, hvi, rfl⟩ := Option.map_eq_some_iff.mp hd
    obtain ⟨P', h', u4, u5, e, J'⟩ := rd_body (c := c) hB (s4 := t4) (s5 := t5) J (hv v (List.mem_of_getElem? hvi))
    refine ⟨_, _, rfl, .inl e, P', h', _, u4, u5, rfl, ?_⟩
    have : vs.take (0 + i + 1) = vs.take (0 + i) ++ [v] := by
      rw [Nat.zero_add, List.take_add_one, hvi]; rfl
    rw [this]; exact J') ⟨0, (0, 0), _, _, _, rfl, ⟨by omega, .zero, .zero, fun v hv => by simp at hv, by simp⟩⟩
  rw [Nat.zero_add, List.length_map, List.take_length] at J
  have e1 : sFor (fItems (fNm 0)) (tNm 3) rdB [.sh c, .sh (.int 0), .sh (pr 0 0), .un, .un, .un] = .nx [.sh c, .sh (.int P), .sh (prp h), t3, t4, t5] := by
    simp only [ap_sFor, ap_fItems, ap_fNm, List.getElem?_cons_zero, bind_ok, hc, ofO_some, ofR_ok]; exact e
  -- the sign
  have key : ∃ H : Lat.Pt, rd2 [.sh c, .sh (.int P), .sh (prp h), t3, t4, t5] = .nx [.sh c, .sh (.int P), .sh (prp H), t3, t4, t5] ∧ RdJ Bd vs P H ∧ 0 ≤ H.2 := by
    by_cases z : h.2 < 0
    · refine ⟨(0 - h.1, 0 - h.2), ?_, ⟨J.p0, J.s1, ?_, fun v hv => ?_, ?_⟩, by show 0 ≤ 0 - h.2; omega⟩
      · unfold rd2 prp pr
        simp (decide := true) [z]
      · have := J.s2.neg
        simpa using this
      · obtain ⟨a, b, e⟩ := J.gen v hv
        exact ⟨a, -b, by rw [e]; refine Prod.ext ?_ ?_ <;> (try simp only) <;> grind⟩
      · have := J.bd
        show (0 - h.2).natAbs ≤ Bd
        omega
    · refine ⟨h, ?_, J, by omega⟩
      unfold rd2 prp pr
      simp (decide := true) [z]
  obtain ⟨H, e2, J, hH⟩ := key
  have st : Y.start n_reduced [c] = [.sh c, .un, .un, .un, .un, .un] := rfl
  have e0 : rd0 [.sh c, .un, .un, .un, .un, .un] = .nx [.sh c, .sh (.int 0), .sh (pr 0 0), .un, .un, .un] := by
    unfold rd0 pr
    simp (decide := true)
  by_cases hP : 0 < P
  · refine ⟨P, H.1.fmod P, H.2, ?_, ⟨J.p0, hH, J.s1, ?_, fun v hv => ?_, fun _ => Lat.fmod_nn hP⟩, by have := J.bd; omega⟩
    · have hP0 : P ≠ 0 := by omega
      unfold F_reduced fnR
      rw [rd_eq, st, ap_sSeq, e0]
      dsimp only
      rw [ap_sSeq, e1]
      dsimp only
      rw [ap_sSeq, e2]
      unfold rd3 prp pr lat
      simp (decide := true) [hP, hP0, outR]
    · have := J.s2.comb J.s1 1 (-(H.1.fdiv P))
      have q := Int.mul_fdiv_add_fmod H.1 P
      have e : (H.1.fmod P, H.2) = (1 * H.1 + -(H.1.fdiv P) * P, 1 * H.2 + -(H.1.fdiv P) * 0) := by
        refine Prod.ext ?_ ?_ <;> (try simp only) <;> grind
      rw [e]; exact this
    · obtain ⟨a, b, e⟩ := J.gen v hv
      have q := Int.mul_fdiv_add_fmod H.1 P
      refine ⟨a + b * H.1.fdiv P, b, ?_⟩
      rw [e]
      refine Prod.ext ?_ ?_ <;> (try simp only) <;> grind
  · refine ⟨P, H.1, H.2, ?_, ⟨J.p0, hH, J.s1, J.s2, fun v hv => J.gen v hv, fun z => absurd z hP⟩, by have := J.bd; omega⟩
    unfold F_reduced fnR
    rw [rd_eq, st, ap_sSeq, e0]
    dsimp only
    rw [ap_sSeq, e1]
    dsimp only
    rw [ap_sSeq, e2]
    unfold rd3 prp pr lat
    simp (decide := true) [hP, outR]
theorem own_lattice_ok (hc : itemsOf c = some (vs.map prp)) (hB : Bd < 10000000) (hv : ∀ v ∈ vs, v.2.natAbs ≤ Bd) :
    ∃ p q r : Int, Lat.IsRed vs p q r ∧ F_own_lattice [c] = if p = 0 ∨ r = 0 then .ok .none else if p * r > 1000 then .er "TooMany" (.int 1000) else .ok (lat p q r) := by
  obtain ⟨p, q, r, e, R, hr⟩ := reduced_ok hc hB hv
  refine ⟨p, q, r, R, ?_⟩
  have m : mulOk p r = true := mulOk_r (by have := R.r0; omega)
  unfold F_own_lattice fnR g_own_lattice n_own_lattice v_MOST_AREA
  unfold lat at *
  by_cases h1 : p = 0
  · simp (decide := true) [e, outR, h1]
  · by_cases h2 : r = 0
    · simp (decide := true) [e, outR, h1, h2]
    · by_cases h3 : p * r > 1000
      · have h4 : 1000 < p * r := h3
        simp (decide := true) [e, outR, h1, h2, h4, m]
      · have h4 : ¬ 1000 < p * r := h3
        simp (decide := true) [e, outR, h1, h2, h4, m]
end
end K11


namespace K11
open PySem PySem.Spec PyProof.Rows L2 Y Mot
theorem gridS {B : Int} {d : PyData} (h : St B d) (hB : B < 100000000) : ∃ g d', F__law_grid d [] = .ok (.str g, d') ∧ gS g ∧ St (B + 4) d' := by
  obtain ⟨r, d', e, a, b, s⟩ := digS h 2 (by decide) (by decide) hB
  refine ⟨if r = 0 then "square" else "six", d', ?_, ?_, s⟩
  · unfold F__law_grid fnS g__law_grid n__law_grid
    have : r = 0 ∨ r = 1 := by omega
    rcases this with rfl | rfl
    all_goals simp (decide := true) [startS, e, outS, ioOnly, atI, ixN]
  · unfold gS
    split
    · exact .inl rfl
    · exact .inr rfl
end K11


namespace K11
open PySem PySem.Spec PyProof.Rows L2 Y Mot
theorem pairS {B : Int} {d : PyData} (h : St B d) (w : Int) (hw : 0 < w) (hw2 : w ≤ 1000000) (hB : B < 10000000) : ∃ p d', F__law_pair d [.int w] = .ok (prp p, d') ∧ bx w p ∧ St (B + 8) d' := by
  have m := mulOk_l (i := 2) (j := w) (by decide)
  obtain ⟨r1, d1, e1, a1, b1, s1⟩ := digS h (2 * w + 1) (by omega) (by omega) (by omega)
  obtain ⟨r2, d2, e2, a2, b2, s2⟩ := digS s1 (2 * w + 1) (by omega) (by omega) (by omega)
  refine ⟨(r1 - w, r2 - w), d2, ?_, ⟨by show _ ≤ r1 - w; omega, by show r1 - w ≤ _; omega, by show _ ≤ r2 - w; omega, by show r2 - w ≤ _; omega⟩, s2.mono (by omega)⟩
  unfold F__law_pair fnS g__law_pair n__law_pair
  simp (decide := true) [startS, m, e1, e2, outS, ioOnly]
end K11


namespace K11
open PySem PySem.Spec PyProof.Rows L2 Y Mot
theorem motionS {B : Int} {d : PyData} {g : Str} (hg : gS g) (h : St B d) (w : Int) (hw : 0 < w) (hw2 : w ≤ 1000000) (hB : B < 1000000 + 1000000) : ∃ m d', F__law_motion d [.str g, .int w] = .ok (mo m, d') ∧ m.1 < MM g ∧ bx w m.2 ∧ St (B + 12) d' := by
  obtain ⟨r1, d1, e1, a1, b1, s1⟩ := digS h (MM g : Nat) (by have := M_pos g; omega) (by unfold MM; split <;> decide) (by omega)
  obtain ⟨p, d2, e2, hp, s2⟩ := pairS s1 w hw hw2 (by omega)
  have ed : ((r1.toNat : Nat) : Int) = r1 := by omega
  refine ⟨(r1.toNat, p), d2, ?_, by show r1.toNat < MM g; omega, hp, s2.mono (by omega)⟩
  unfold F__law_motion fnS g__law_motion n__law_motion mo
  unfold MM at e1
  rw [ed]
  have gs : gEq (.str "square") (.str "square") = some (.bool true) := by kernel_rfl
  have gs2 : gEq (.str "six") (.str "square") = some (.bool false) := by kernel_rfl
  rcases hg with rfl | rfl
  · simp (decide := true) at e1
    simp (decide := true) [startS, e1, e2, outS, ioOnly, gs]
  · simp (decide := true) at e1
    simp (decide := true) [startS, e1, e2, outS, ioOnly, gs2]
end K11


namespace K11
open PySem PySem.Spec PyProof.Rows L2 Y Mot
theorem own_sq (t : Nat) (ht : t < 8) (x y : Int) : F_own_turned [.str "square", .int (t : Nat), pr x y] = .ok (prp (sq t x y)) := by
  have : t = 0 ∨ t = 1 ∨ t = 2 ∨ t = 3 ∨ t = 4 ∨ t = 5 ∨ t = 6 ∨ t = 7 := by omega
  unfold F_own_turned fnR g_own_turned n_own_turned v_TURNS e_TURNS pr
  rcases this with rfl | rfl | rfl | rfl | rfl | rfl | rfl | rfl
  all_goals simp (decide := true) [atI, ixN, outR, mulOk_l, sq]
theorem own_hx (t : Nat) (ht : t < 12) (x y : Int) : F_own_turned [.str "six", .int (t : Nat), pr x y] = .ok (prp (hx t x y)) := by
  have : t = 0 ∨ t = 1 ∨ t = 2 ∨ t = 3 ∨ t = 4 ∨ t = 5 ∨ t = 6 ∨ t = 7 ∨ t = 8 ∨ t = 9 ∨ t = 10 ∨ t = 11 := by omega
  unfold F_own_turned fnR g_own_turned n_own_turned v_TURNS e_TURNS pr
  rcases this with rfl | rfl | rfl | rfl | rfl | rfl | rfl | rfl | rfl | rfl | rfl | rfl
  all_goals simp (decide := true) [atI, ixN, outR, mulOk_l, hx]
  all_goals omega
theorem own_T {g : Str} (h : gS g) {t : Nat} (ht : t < MM g) (p : Pt) : F_own_turned [.str g, .int (t : Nat), prp p] = .ok (prp (Tn g t p)) := by
  unfold MM at ht
  unfold Tn
  rcases h with rfl | rfl
  · exact own_sq t ht p.1 p.2
  · exact own_hx t ht p.1 p.2
def ckO (g : Str) (s t : Nat) : Bool := match F_own_then_turn [.str g, .int (s : Nat), .int (t : Nat)] with
  | .ok (.int i) => decide (i = (cmp g s t : Nat))
  | _ => false
theorem ckO_sq : ∀ s ∈ List.range 8, ∀ t ∈ List.range 8, ckO "square" s t = true := by decide +kernel
theorem ckO_s6 : ∀ s ∈ List.range 12, ∀ t ∈ List.range 12, ckO "six" s t = true := by decide +kernel
theorem own_tt {g : Str} (h : gS g) {s t : Nat} (hs : s < MM g) (ht : t < MM g) : F_own_then_turn [.str g, .int (s : Nat), .int (t : Nat)] = .ok (.int (cmp g s t : Nat)) := by
  have c : ckO g s t = true := by
    unfold MM at hs ht
    rcases h with rfl | rfl
    · exact ckO_sq s (List.mem_range.mpr hs) t (List.mem_range.mpr ht)
    · exact ckO_s6 s (List.mem_range.mpr hs) t (List.mem_range.mpr ht)
  unfold ckO at c
  split at c
  · rename_i i e
    rw [e, of_decide_eq_true c]
  · cases c
theorem own_mv {g : Str} (h : gS g) {m : Mo} (hm : m.1 < MM g) (p : Pt) : F_own_moved [.str g, mo m, prp p] = .ok (prp (adp (Tn g m.1 p) m.2)) := by
  have e := own_T h hm p
  unfold F_own_moved fnR g_own_moved n_own_moved F_added fnR g_added n_added mo
  unfold prp pr at *
  simp (decide := true) [e, atI, ixN, outR, adp]
theorem own_then_ok {g : Str} (h : gS g) {a b : Mo} (ha : a.1 < MM g) (hb : b.1 < MM g) : F_own_then [.str g, mo a, mo b] = .ok (mo (mul g a b)) := by
  have e1 := own_tt h ha hb
  have e2 := own_mv h hb a.2
  unfold F_own_then fnR g_own_then n_own_then
  unfold mul
  unfold mo prp pr at *
  simp (decide := true) [e1, e2, atI, ixN, outR]
def ckBT (g : Str) (t : Nat) : Bool := match F_back_turn [.str g, .int (t : Nat)] with
  | .ok (.int i) => decide (i = (bk g t : Nat))
  | _ => false
theorem ckBT_all : (∀ t ∈ List.range 8, ckBT "square" t = true) ∧ ∀ t ∈ List.range 12, ckBT "six" t = true := by decide +kernel
theorem back_turn_ok {g : Str} (h : gS g) {t : Nat} (ht : t < MM g) : F_back_turn [.str g, .int (t : Nat)] = .ok (.int (bk g t : Nat)) := by
  have c : ckBT g t = true := by
    unfold MM at ht
    rcases h with rfl | rfl
    · exact ckBT_all.1 t (List.mem_range.mpr ht)
    · exact ckBT_all.2 t (List.mem_range.mpr ht)
  unfold ckBT at c
  split at c
  · rename_i i e
    rw [e, of_decide_eq_true c]
  · cases c
theorem own_back_ok {g : Str} (h : gS g) {m : Mo} (hm : m.1 < MM g) : F_own_back [.str g, mo m] = .ok (mo (inv g m)) := by
  have e1 := back_turn_ok h hm
  have e2 := own_T h (bk_ok h hm).1 m.2
  unfold F_own_back fnR g_own_back n_own_back
  unfold inv
  generalize bk g m.1 = b at *
  unfold mo prp pr at *
  simp (decide := true) [e1, e2, atI, ixN, outR, ngp]
end K11


namespace K11
open PySem PySem.Spec PyProof.Rows L2 Y Mot
theorem is_motion_ok {g : Str} (h : gS g) {m : Mo} (hm : okM g m) : F_is_motion [.str g, mo m] = .ok (.bool true) := by
  obtain ⟨h1, h2, h3⟩ := hm
  have c := is_cell_ok h2 h3
  have hlen : ∀ ds, gLen [.tuple ds] = some (.int ds.length) := fun _ => rfl
  have w := p_whole (m.1 : Nat) 0 ((MM g : Nat) - 1)
  rw [decide_eq_true ⟨by omega, by omega⟩] at w
  unfold F_is_motion fnR g_is_motion n_is_motion v_TURNS e_TURNS
  unfold MM at w
  unfold mo prp pr at *
  have ix1 : atI [PyData.int (m.1 : Nat), .tuple [.int m.2.1, .int m.2.2]] 1 = some (.tuple [.int m.2.1, .int m.2.2]) := rfl
  have ix0 : atI [PyData.int (m.1 : Nat), .tuple [.int m.2.1, .int m.2.2]] 0 = some (.int (m.1 : Nat)) := rfl
  rcases h with rfl | rfl
  · simp (decide := true) at w
    simp (decide := true) [isExc, isTy, isTyS, tyOf, hlen, ix0, ix1, w, c, outR, scl]
  · simp (decide := true) at w
    simp (decide := true) [isExc, isTy, isTyS, tyOf, hlen, ix0, ix1, w, c, outR, scl]
end K11


namespace K11
open PySem PySem.Spec PyProof.Rows L2 Y Mot
def clA : SF := sAsg (fCall F_own_then (fCons (fNm 0) (fCons (fIxN 2 (fNm 5)) (fCons (fNm 6) fNil)))) (tNm 7)
def clB : SF := sIf (fB (fOpN gNotInE (fIxN 7 (fC (.int 0))) 2)) (sSeq (sPut 2 (fIxN 7 (fC (.int 0))) (fNm 7)) (sExpr (fMth gApp 3 (fCons (fIxN 7 (fC (.int 0))) fNil)))) (sExpr (fMth gApp 4 (fCons (fOp gIxD (fCall F_own_then (fCons (fNm 0) (fCons (fNm 7) (fCons (fCall F_own_back (fCons (fNm 0) (fCons (fIxN 2 (fIxN 7 (fC (.int 0)))) fNil))) fNil)))) (fC (.int 1))) fNil)))
def clI : SF := sSeq clA clB
def clP : SF := sAsg (fMth gPop 3 fNil) (tNm 5)
def clF : SF := sFor (fItems (fNm 1)) (tNm 6) clI
def clW : SF := sSeq clP clF
def clT : TF := fB (fOpL gNe 3 (fLst fNil))
def cl0 : SF := sPar [2, 3, 4] [true, true, true] (fCons (fDsp (pCons (fC (.int 0)) (fC v_IDENTITY) pNil)) (fCons (fLst (fCons (fC (.int 0)) fNil)) (fCons (fLst fNil) fNil)))
def cl2 : SF := sRet (fTup (fCons (fNm 2) (fCons (fNm 4) fNil)))
theorem cl_eq : g_closed = sSeq cl0 (sSeq (sWhile clT clW) cl2) := rfl
def clE (g : Str) (c : PyData) (fs : List Mo) (todo : List Nat) (sh : List Pt) (s5 s6 s7 : Sl) : En := [.sh (.str g), .sh c, .ow (fdD fs), .ow (tdD todo), .ow (shD sh), s5, s6, s7]
section
variable {g : Str} {ms fs : List Mo} {todo : List Nat} {sh : List Pt} {t : Nat} {as : List Mo} {a f : Mo} {W : Int} {cc : PyData} {s5 s6 s7 : Sl}
theorem clA_ok (h : gS g) (v : VM g ms) (c : Cl g ms fs todo sh t as) (hf : f ∈ fs) (ft : f.1 = t) (ha : a ∈ ms) :
    clA (clE g cc fs todo sh (.sh (.int (t : Nat))) (.sh (mo a)) s7) = .nx (clE g cc fs todo sh (.sh (.int (t : Nat))) (.sh (mo a)) (.sh (mo (mul g f a)))) := by
  have e := own_then_ok h ((c.gen f hf).lt h v) (v a ha)
  have ix := ix_fdD c.nd hf
  have dc := dct_fd fs
  subst ft
  unfold clA clE
  generalize tdD todo = T at *
  generalize shD sh = S at *
  generalize mo (mul g f a) = R at *
  generalize mo a = A at *
  generalize mo f = F at *
  generalize fdD fs = D at *
  simp (decide := true) [ix, e]
theorem clB_new (h : gS g) (v : VM g ms) (c : Cl g ms fs todo sh t as) (n : ∀ f' ∈ fs, f'.1 ≠ cmp g f.1 a.1) (hl : todo.length < 100) :
    clB (clE g cc fs todo sh s5 s6 (.sh (mo (mul g f a)))) = .nx (clE g cc (fs ++ [mul g f a]) (todo ++ [cmp g f.1 a.1]) sh s5 s6 (.sh (mo (mul g f a)))) := by
  have fl := c.len h v
  have m12 := MM12 g
  have e0 : (mul g f a).1 = cmp g f.1 a.1 := rfl
  have e1 : gNotInE (.int ((mul g f a).1 : Nat)) (fdD fs) = some (.bool true) := nin_fd_t n
  have e2 : putD (fs.map ent) (.int ((mul g f a).1 : Nat)) (.inl (.inl (((mul g f a).1 : Nat) : Int))) (mo (mul g f a)) = (fs ++ [mul g f a]).map ent := put_new n
  have e3 := kind_fd fs (((mul g f a).1 : Nat) : Int)
  have e4 : (fs.map ent).length < 1000000 := by rw [List.length_map]; omega
  have e7 : gApp (tdD todo) [.int ((mul g f a).1 : Nat)] = some (.none, tdD (todo ++ [(mul g f a).1])) := app_td (by omega)
  have l3 := lst_td todo
  have d7 := dct_mo (mul g f a)
  have i7 := ix_mo0 (mul g f a)
  have s7' : fdD (fs ++ [mul g f a]) = .dict ((fs ++ [mul g f a]).map ent) := rfl
  rw [← e0]
  unfold clB clE
  rw [s7']
  unfold fdD at *
  generalize tdD todo = T at *
  generalize tdD (todo ++ [(mul g f a).1]) = T2 at *
  generalize shD sh = S at *
  generalize mo (mul g f a) = R at *
  generalize (((mul g f a).1 : Nat) : Int) = I at *
  generalize (fs ++ [mul g f a]).map ent = D2 at *
  generalize fs.map ent = D at *
  simp (decide := true) [e1, e2, e3, e4, e7, l3, d7, i7]
theorem clB_old (h : gS g) (v : VM g ms) (c : Cl g ms fs todo sh t as) (hf : f ∈ fs) (ha : a ∈ ms) {f' : Mo} (hf' : f' ∈ fs) (e' : f'.1 = cmp g f.1 a.1) (hl : sh.length < 1000000) :
    clB (clE g cc fs todo sh s5 s6 (.sh (mo (mul g f a)))) = .nx (clE g cc fs todo (sh ++ [(mul g (mul g f a) (inv g f')).2]) s5 s6 (.sh (mo (mul g f a)))) := by
  have fl := (c.gen f hf).lt h v
  have fl' := (c.gen f' hf').lt h v
  have e0 : (mul g f a).1 = f'.1 := e'.symm
  have e1 : gNotInE (.int (f'.1 : Nat)) (fdD fs) = some (.bool false) := nin_fd_f c.nd hf'
  have e2 := ix_fdD c.nd hf'
  have e3 := own_back_ok h fl'
  have e4 := own_then_ok h (mul_lt h fl (v a ha)) (inv_lt h fl')
  have e5 := ix_mo1 (mul g (mul g f a) (inv g f'))
  have e7 := app_sh (ss := sh) (s := (mul g (mul g f a) (inv g f')).2) hl
  have l3 := lst_sh sh
  have d7 := dct_mo (mul g f a)
  have i7 := ix_mo0 (mul g f a)
  have dc := dct_fd fs
  rw [e0] at i7
  unfold clB clE
  generalize (mul g (mul g f a) (inv g f')).2 = q at *
  generalize prp q = Q at *
  generalize shD (sh ++ [q]) = S2 at *
  generalize mo (mul g (mul g f a) (inv g f')) = R2 at *
  generalize mo (inv g f') = R3 at *
  generalize mo f' = R4 at *
  generalize tdD todo = T at *
  generalize shD sh = S at *
  generalize mo (mul g f a) = R at *
  generalize fdD fs = D at *
  simp (decide := true) [e1, e2, e3, e4, e5, e7, l3, d7, i7, dc]
/-- the motions, one by one -/
theorem clF_ok (h : gS g) (v : VM g ms) (hW : ∀ m ∈ ms, nb g W m.2) (hms : ms.length ≤ 1000) (ft : f.1 = t) {k : Nat} : ∀ (bs as : List Mo) (fs : List Mo) (todo : List Nat) (sh : List Pt) (s6 s7 : Sl), (∀ b ∈ bs, b ∈ ms) → Cl g ms fs todo sh t as → ClB g W fs sh → f ∈ fs →
    todo.length + 2 * (12 - fs.length) ≤ 22 - k → k ≤ 22 → sh.length + bs.length ≤ 1000 * k + 1000 →
    ∃ fs' todo' sh' s6' s7', forF (tNm 6) clI (bs.map mo) (clE g cc fs todo sh (.sh (.int (t : Nat))) s6 s7) = .nx (clE g cc fs' todo' sh' (.sh (.int (t : Nat))) s6' s7') ∧ Cl g ms fs' todo' sh' t (as ++ bs) ∧ ClB g W fs' sh' ∧
      todo'.length + 2 * (12 - fs'.length) ≤ 22 - k ∧ sh'.length ≤ 1000 * k + 1000 := by
  intro bs
  induction bs with
  | nil => intro as fs todo sh s6 s7 _ c cb hf hm hk hs; exact ⟨fs, todo, sh, s6, s7, rfl, by rw [List.append_nil]; exact c, cb, hm, by simpa using hs⟩
  | cons b bs ih =>
    intro as fs todo sh s6 s7 hb c cb hf hm hk hs
    have hbm := hb b List.mem_cons_self
    have fl := c.len h v
    have m12 := MM12 g
    have a1 := clA_ok (cc := cc) (s7 := s7) h v c hf ft hbm
    have step : ∃ fs1 todo1 sh1, clB (clE g cc fs todo sh (.sh (.int (t : Nat))) (.sh (mo b)) (.sh (mo (mul g f b)))) = .nx (clE g cc fs1 todo1 sh1 (.sh (.int (t : Nat))) (.sh (mo b)) (.sh (mo (mul g f b)))) ∧ Cl g ms fs1 todo1 sh1 t (as ++ [b]) ∧ ClB g W fs1 sh1 ∧ f ∈ fs1 ∧
        todo1.length + 2 * (12 - fs1.length) ≤ 22 - k ∧ sh1.length + bs.length ≤ 1000 * k + 1000 := by
      rw [List.length_cons] at hs
      rcases findT (fs := fs) (cmp g f.1 b.1) with ⟨f', hf', e'⟩ | n
      · exact ⟨fs, todo, _, clB_old h v c hf hbm hf' e' (by omega), c.meet h v hf ft hbm hf' e', cb.meet (by omega) hf (hW b hbm) hf', hf, hm, by rw [List.length_append]; simp; omega⟩
      · have c2 := c.grow h v hf ft hbm n
        have fl2 := c2.len h v
        rw [List.length_append] at fl2
        simp only [List.length_cons, List.length_nil] at fl2
        refine ⟨_, _, sh, clB_new h v c n (by omega), c2, cb.grow hf (hW b hbm), List.mem_append_left _ hf, ?_, by omega⟩
        rw [List.length_append, List.length_append]
        simp only [List.length_cons, List.length_nil]
        omega
    obtain ⟨fs1, todo1, sh1, b1, c1, cb1, hf1, hm1, hs1⟩ := step
    obtain ⟨fs', todo', sh', s6', s7', e, c', cb', hm', hs'⟩ := ih (as ++ [b]) fs1 todo1 sh1 (.sh (mo b)) (.sh (mo (mul g f b))) (fun x hx => hb x (List.mem_cons_of_mem _ hx)) c1 cb1 hf1 hm1 hk hs1
    refine ⟨fs', todo', sh', s6', s7', ?_, by rw [List.append_assoc] at c'; exact c', cb', hm', hs'⟩
    rw [List.map_cons, forF]
    have tn : tNm 6 (mo b) (clE g cc fs todo sh (.sh (.int (t : Nat))) s6 s7) = some (clE g cc fs todo sh (.sh (.int (t : Nat))) (.sh (mo b)) s7) := rfl
    have ci : clI (clE g cc fs todo sh (.sh (.int (t : Nat))) (.sh (mo b)) s7) = .nx (clE g cc fs1 todo1 sh1 (.sh (.int (t : Nat))) (.sh (mo b)) (.sh (mo (mul g f b)))) := by
      unfold clI; rw [ap_sSeq, a1]; exact b1
    rw [tn]
    simp only [ci]
    exact e
theorem closed_ok (h : gS g) (v : VM g ms) (w0 : 0 ≤ W) (hW : ∀ m ∈ ms, nb g W m.2) (hms : ms.length ≤ 1000) (hc : itemsOf cc = some (ms.map mo)) :
    ∃ fs sh, F_closed [.str g, cc] = .ok (.tuple [fdD fs, shD sh]) ∧ Cl g ms fs [] sh 0 ms ∧ ClB g W fs sh ∧ sh.length ≤ 100000 := by
  obtain ⟨ρ', ew, fs, sh, s5, s6, s7, rfl, c, cb, hs⟩ := while_run (c := clT) (b := clW)
    (I := fun m ρ => ∃ fs todo sh t s5 s6 s7, ρ = clE g cc fs todo sh s5 s6 s7 ∧ Cl g ms fs todo sh t ms ∧ ClB g W fs sh ∧ m ≤ 23 ∧ todo.length + 2 * (12 - fs.length) ≤ m ∧ sh.length ≤ 1000 * (23 - m))
    (Post := fun ρ => ∃ fs sh s5 s6 s7, ρ = clE g cc fs [] sh s5 s6 s7 ∧ Cl g ms fs [] sh 0 ms ∧ ClB g W fs sh ∧ sh.length ≤ 100000) (fun m ρ hI => by
    obtain ⟨fs, todo, sh, t, s5, s6, s7, rfl, c, cb, hm, hm2, hs⟩ := hI
    have tt : clT (clE g cc fs todo sh s5 s6 s7) = .ok (!decide (todo = []), clE g cc fs todo sh s5 s6 s7) := by
      have e := ne_tdD todo
      unfold clT clE
      generalize tdD todo = T at *
      generalize fdD fs = D at *
      generalize shD sh = S at *
      simp (decide := true) [e, scl]
    rcases List.eq_nil_or_concat todo with rfl | ⟨todo', u, rfl⟩
    · exact .inr ⟨_, tt, fs, sh, s5, s6, s7, rfl, ⟨c.nd, c.z, c.gen, c.gs, c.td, fun f hf n a ha _ => c.done f hf n a ha fun _ => ha⟩, cb, by omega⟩
    · rw [List.concat_eq_append] at *
      obtain ⟨f, hf, eu⟩ := c.td u (by simp)
      have c1 := c.pop
      rw [List.length_append] at hm2
      simp only [List.length_cons, List.length_nil] at hm2
      have m1 : 1 ≤ m := by omega
      obtain ⟨fs', todo2, sh', s6', s7', ef, c', cb', hm', hs'⟩ := clF_ok (cc := cc) (k := 23 - m) h v hW hms eu ms [] fs todo' sh s6 s7 (fun b hb => hb) c1 cb hf (by omega) (by omega) (by omega)
      refine .inl ⟨_, m - 1, _, tt.trans (by rw [decide_eq_false (by simp)]; rfl), .inl ?_, by omega, fs', todo2, sh', u, .sh (.int (u : Nat)), s6', s7', rfl, by simpa using c', cb', by omega, by omega, by omega⟩
      unfold clW
      have p1 : clP (clE g cc fs (todo' ++ [u]) sh s5 s6 s7) = .nx (clE g cc fs todo' sh (.sh (.int (u : Nat))) s6 s7) := by
        have e := pop_td todo' u
        have l := lst_td (todo' ++ [u])
        unfold clP clE
        generalize tdD (todo' ++ [u]) = T at *
        generalize tdD todo' = T2 at *
        generalize fdD fs = D at *
        generalize shD sh = S at *
        simp (decide := true) [e, l]
      rw [ap_sSeq, p1]
      show clF _ = _
      unfold clF
      have ei : fItems (fNm 1) (clE g cc fs todo' sh (.sh (.int (u : Nat))) s6 s7) = .ok (ms.map mo, clE g cc fs todo' sh (.sh (.int (u : Nat))) s6 s7) := by
        unfold clE
        generalize tdD todo' = T2 at *
        generalize fdD fs = D at *
        generalize shD sh = S at *
        simp (decide := true) [hc]
      rw [ap_sFor, ei]
      exact ef) fuel 23 (clE g cc [one0] [0] [] .un .un .un) (by decide) ⟨[one0], [0], [], 0, .un, .un, .un, rfl, ⟨(Cl.start g ms 0).nd, (Cl.start g ms 0).z, (Cl.start g ms 0).gen, (Cl.start g ms 0).gs, (Cl.start g ms 0).td, fun f hf n => (by rw [List.mem_singleton.mp hf] at n; exact absurd (by simp [one0]) n)⟩, ClB.start g w0, by omega, by simp, by simp⟩
  refine ⟨fs, sh, ?_, c, cb, hs⟩
  unfold F_closed fnR
  rw [cl_eq]
  unfold n_closed
  have st : (Y.start ["grid", "motions", "found", "todo", "shifts", "turn", "motion", "both"] [.str g, cc]) = [.sh (.str g), .sh cc, .un, .un, .un, .un, .un, .un] := rfl
  rw [st, ap_sSeq]
  have e0 : cl0 [.sh (.str g), .sh cc, .un, .un, .un, .un, .un, .un] = .nx (clE g cc [one0] [0] [] .un .un .un) := by
    have a1 : fdD [one0] = .dict [(.int 0, v_IDENTITY)] := rfl
    have a2 : tdD [0] = .list [.int 0] := rfl
    have a3 : shD [] = .list [] := rfl
    unfold cl0 clE
    rw [a1, a2, a3]
    generalize v_IDENTITY = V
    simp (decide := true) [Y.keyOf, mergeD, putD]
  rw [e0]
  show outR ((sSeq (sWhile clT clW) cl2) (clE g cc [one0] [0] [] .un .un .un)) = _
  rw [ap_sSeq, ap_sWhile, ew]
  unfold cl2 clE
  generalize tdD [] = T2 at *
  generalize fdD fs = D at *
  generalize shD sh = S at *
  simp (decide := true) [outR]
end
end K11


namespace K11
open PySem PySem.Spec PyProof.Rows L2 Y Mot
def og0 : SF := sAsg (fCall F_closed (fCons (fNm 0) (fCons (fNm 1) fNil))) (tTp 2 (tsCons (tNm 2) (tsCons (tNm 3) tsNil)))
def og1 : SF := sAsg (fCall F_own_lattice (fCons (fNm 3) fNil)) (tNm 4)
def og2 : SF := sIf (fB (fOp gIs (fNm 4) (fC .none))) (sRet (fC .none)) sNil
def ogF : EF := fTup (fCons (fNm 5) (fCons (fCall F_own_in_box (fCons (fNm 4) (fCons (fOp gIxD (fIxN 2 (fNm 5)) (fC (.int 1))) fNil))) fNil))
def og3 : SF := sRet (fTup (fCons (fNm 0) (fCons (fNm 4) (fCons (fBlt gTuple (fCons (fComp [5] (fItems (fBltN gSorted (fCons (fNm 2) fNil))) (tNm 5) tYes' ogF) fNil)) fNil))))
theorem og_eq : g_own_group = sSeq og0 (sSeq og1 (sSeq og2 og3)) := rfl
section
variable {g : Str} {ms fs : List Mo} {sh : List Pt} {W : Int} {cc : PyData} {p q r : Int}
def srtM (fs : List Mo) : List Mo := fs.mergeSort fun a b => decide (a.1 ≤ b.1)
theorem srtM_perm (fs : List Mo) : (srtM fs).Perm fs := List.mergeSort_perm _ _
theorem srtM_sorted {fs : List Mo} (nd : (fs.map (·.1)).Nodup) : (srtM fs).Pairwise fun a b => a.1 < b.1 := by
  have h : (srtM fs).Pairwise fun a b => decide (a.1 ≤ b.1) = true := List.pairwise_mergeSort (fun a b c h1 h2 => by simp at *; omega) (fun a b => by simp; omega) fs
  have n2 : ((srtM fs).map (·.1)).Nodup := ((srtM_perm fs).map _).nodup_iff.mpr nd
  rw [List.Nodup, List.pairwise_map] at n2
  exact (h.and n2).imp fun {a b} ⟨x, y⟩ => by simp at x; omega
theorem sort_fd {fs : List Mo} (hl : fs.length ≤ 12) : gSorted [fdD fs] = some ((srtM fs).map fun f => .int ((f.1 : Nat) : Int)) := by
  have k := keys_fd fs
  show (match intKeys (fs.map ent) with | some ks => if ks.length < 64 then some ((Y.sortI ks).map PyData.int) else none | none => none) = _
  rw [k]
  show (if (fs.map fun f => ((f.1 : Nat) : Int)).length < 64 then _ else _) = _
  rw [if_pos (by rw [List.length_map]; omega)]
  have e : Y.sortI (fs.map fun f => ((f.1 : Nat) : Int)) = (srtM fs).map fun f => ((f.1 : Nat) : Int) := by
    unfold Y.sortI srtM
    exact (List.map_mergeSort fun a _ b _ => by simp).symm
  rw [e, List.map_map]
  rfl
theorem own_group_ok (h : gS g) (v : VM g ms) (w0 : 0 ≤ W) (w1 : W ≤ 300000) (hW : ∀ m ∈ ms, nb g W m.2) (hms : ms.length ≤ 1000) (hc : itemsOf cc = some (ms.map mo)) :
    ∃ p q r : Int, 0 ≤ p ∧ 0 ≤ r ∧ (∀ v, Gen g ms (0, v) ↔ Lat.InL p q r v) ∧ ((p = 0 ∨ r = 0) ∧ F_own_group [.str g, cc] = .ok .none ∨ (0 < p ∧ 0 < r ∧ 1000 < p * r) ∧ F_own_group [.str g, cc] = .er "TooMany" (.int 1000) ∨
      p * r ≤ 1000 ∧ ∃ ps, IsGrp g ms p q r ps ∧ F_own_group [.str g, cc] = .ok (grp g p q r ps)) := by
  obtain ⟨fs, sh, e1, c, cb, hs⟩ := closed_ok h v w0 hW hms hc
  have hsh : itemsOf (shD sh) = some (sh.map prp) := rfl
  obtain ⟨p, q, r, R, e2⟩ := own_lattice_ok (Bd := (25 * W).toNat) hsh (by omega) fun s hs => by
    have := cb.s s hs
    unfold nb at this
    omega
  have hlat : ∀ v, Gen g ms (0, v) ↔ Lat.InL p q r v := fun s => (c.shifts h v s).trans (R.iff s)
  have st : (Y.start n_own_group [.str g, cc]) = [.sh (.str g), .sh cc, .un, .un, .un, .un] := rfl
  have f0 : og0 [.sh (.str g), .sh cc, .un, .un, .un, .un] = .nx [.sh (.str g), .sh cc, .sh (fdD fs), .sh (shD sh), .un, .un] := by
    unfold og0
    generalize fdD fs = D at *
    generalize shD sh = S at *
    simp (decide := true) [e1]
  refine ⟨p, q, r, R.p0, R.r0, hlat, ?_⟩
  by_cases hz : p = 0 ∨ r = 0
  · rw [if_pos hz] at e2
    refine .inl ⟨hz, ?_⟩
    unfold F_own_group fnR
    rw [og_eq, st, ap_sSeq, f0]
    unfold og1 og2 og3
    generalize fdD fs = D at *
    generalize shD sh = S at *
    simp (decide := true) [e2, outR, gIs]
  · rw [if_neg hz] at e2
    have hp : 0 < p := by have := R.p0; omega
    have hr : 0 < r := by have := R.r0; omega
    by_cases hm : p * r > 1000
    · rw [if_pos hm] at e2
      refine .inr (.inl ⟨⟨hp, hr, hm⟩, ?_⟩)
      unfold F_own_group fnR
      rw [og_eq, st, ap_sSeq, f0]
      unfold og1 og2 og3
      generalize fdD fs = D at *
      generalize shD sh = S at *
      simp (decide := true) [e2, outR]
    · rw [if_neg hm] at e2
      obtain ⟨q0, q1⟩ := R.q0 hp
      have ol : okL p q r := ⟨by omega, by omega, q0, q1, by omega⟩
      have hl : fs.length ≤ 12 := Nat.le_trans (c.len h v) (MM12 g)
      have pm := srtM_perm fs
      have nd2 : ((srtM fs).map (·.1)).Nodup := (pm.map _).nodup_iff.mpr c.nd
      refine .inr (.inr ⟨by omega, (srtM fs).map (bxd p q r), ?_, ?_⟩)
      · refine ⟨hp, hr, q0, q1, hlat, fun m hm => ?_, fun m hm => ?_, fun m km => ?_, ?_⟩
        · obtain ⟨f, hf, rfl⟩ := List.mem_map.mp hm
          exact Lat.inbox_rng hp hr f.2
        · obtain ⟨f, hf, rfl⟩ := List.mem_map.mp hm
          have gf := c.gen f (pm.mem_iff.mp hf)
          have d := (hlat _).mpr ((Lat.inbox_diff (p := p) (q := q) (r := r) f.2).neg)
          have := gf.mul h v d
          rw [mul_sh h (gf.lt h v)] at this
          have e3 : (f.1, adp f.2 (-(f.2.1 - (Lat.inbox p q r f.2).1), -(f.2.2 - (Lat.inbox p q r f.2).2))) = bxd p q r f := by
            unfold bxd adp; refine Prod.ext rfl (Prod.ext ?_ ?_) <;> (simp only; omega)
          rw [← e3]; exact this
        · obtain ⟨f, hf, e, _⟩ := c.all h v km
          exact ⟨bxd p q r f, List.mem_map.mpr ⟨f, pm.mem_iff.mpr hf, rfl⟩, e⟩
        · rw [List.pairwise_map]
          exact srtM_sorted c.nd
      · have es := sort_fd hl
        have ec : compF [5] (tNm 5) tYes' ogF ((srtM fs).map fun f => .int ((f.1 : Nat) : Int)) [.sh (.str g), .sh cc, .sh (fdD fs), .sh (shD sh), .sh (lat p q r), .un] = .ok (((srtM fs).map (bxd p q r)).map mo, [.sh (.str g), .sh cc, .sh (fdD fs), .sh (shD sh), .sh (lat p q r), .un]) := by
          rw [List.map_map]
          refine comp_mapL fun f hf => ?_
          have ix := ix_fdD c.nd (pm.mem_iff.mp hf)
          have bx := own_in_box_ok ol f.2
          have i1 := ix_mo1 f
          have dc := dct_fd fs
          refine ⟨[.sh (.str g), .sh cc, .sh (fdD fs), .sh (shD sh), .sh (lat p q r), .sh (.int ((f.1 : Nat) : Int))], [.sh (.str g), .sh cc, .sh (fdD fs), .sh (shD sh), .sh (lat p q r), .sh (.int ((f.1 : Nat) : Int))], rfl, ?_, rfl⟩
          · have em : (mo ∘ bxd p q r) f = .tuple [.int ((f.1 : Nat) : Int), prp (Lat.inbox p q r f.2)] := rfl
            rw [em]
            unfold ogF
            generalize prp (Lat.inbox p q r f.2) = B1 at *
            generalize prp f.2 = B2 at *
            generalize mo f = F at *
            generalize fdD fs = D at *
            generalize shD sh = S at *
            generalize lat p q r = L at *
            simp (decide := true) [ix, bx, i1, dc]
        unfold F_own_group fnR
        rw [og_eq, st, ap_sSeq, f0]
        have f1 : og1 [.sh (.str g), .sh cc, .sh (fdD fs), .sh (shD sh), .un, .un] = .nx [.sh (.str g), .sh cc, .sh (fdD fs), .sh (shD sh), .sh (lat p q r), .un] := by
          unfold og1
          generalize fdD fs = D at *
          generalize shD sh = S at *
          generalize lat p q r = L at *
          simp (decide := true) [e2]
        have f2 : og2 [.sh (.str g), .sh cc, .sh (fdD fs), .sh (shD sh), .sh (lat p q r), .un] = .nx [.sh (.str g), .sh cc, .sh (fdD fs), .sh (shD sh), .sh (lat p q r), .un] := by
          unfold og2
          generalize fdD fs = D at *
          generalize shD sh = S at *
          unfold lat
          simp (decide := true) [gIs]
        show outR ((sSeq og1 (sSeq og2 og3)) _) = _
        rw [ap_sSeq, f1]
        show outR ((sSeq og2 og3) _) = _
        rw [ap_sSeq, f2]
        show outR (og3 _) = _
        unfold og3 grp
        have eg : (PyData.tuple [.int p, .int q, .int r]) = lat p q r := rfl
        rw [eg]
        have hl2 : (srtM fs).length ≤ 1000000 := by rw [pm.length_eq]; omega
        generalize ((srtM fs).map (bxd p q r)).map mo = P at *
        have hl3 : ((srtM fs).map fun f => PyData.int ((f.1 : Nat) : Int)).length ≤ 1000000 := by rw [List.length_map]; exact hl2
        generalize (srtM fs).map (fun f => PyData.int ((f.1 : Nat) : Int)) = KS at *
        generalize fdD fs = D at *
        generalize shD sh = S at *
        generalize lat p q r = L at *
        simp (decide := true) [es, ec, hl3, outR]
end
end K11


namespace K11
open PySem PySem.Spec PyProof.Rows L2 Y Mot
section
variable {g : Str} {ms ps : List Mo} {p q r : Int} {m : Mo}
theorem basis_ok (p q r : Int) : F_basis [lat p q r] = .ok (.tuple ([(p, 0), (q, r)].map prp)) := by
  unfold F_basis fnR g_basis n_basis lat
  simp (decide := true) [outR]
theorem near1000 {x : Int} (h : 0 ≤ x ∧ x < 1001) : near x := ⟨by omega, by omega⟩
/-- its lattice can be passed -/
theorem IsGrp.ol (G : IsGrp g ms p q r ps) (hm : p * r ≤ 1000) : okL p q r := ⟨by have := G.p0; omega, by have := G.r0; omega, G.q0, G.q1, by omega⟩
theorem ispart_ok (h : gS g) (ol : okL p q r) (hm : m.1 < MM g) (b : (0 ≤ m.2.1 ∧ m.2.1 < p) ∧ 0 ≤ m.2.2 ∧ m.2.2 < r) : F_is_part [.str g, lat p q r, mo m] = .ok (.bool true) := by
  have hp := ol.pb
  have hr := ol.rb
  have e1 := is_motion_ok h (m := m) ⟨hm, near1000 (by omega), near1000 (by omega)⟩
  have e2 := own_in_box_ok ol m.2
  have e3 : Lat.inbox p q r m.2 = m.2 := congrArg Prod.snd (bxd_of (m := m) (by have := ol.p1; omega) (by have := ol.r1; omega) b)
  rw [e3] at e2
  have i1 := ix_mo1 m
  have dc := dct_mo m
  have ee := gEq_self (sh_pr m.2.1 m.2.2)
  unfold F_is_part fnR g_is_part n_is_part
  generalize mo m = M at *
  generalize lat p q r = L at *
  unfold prp at *
  generalize pr m.2.1 m.2.2 = Q at *
  simp (decide := true) [e1, e2, i1, dc, ee, outR]
def isB0 : SF := sOwn (fBltO gDict (fCons (fComp [4] (fItems (fNm 2)) (tNm 4) tYes' (fTup (fCons (fNm 4) (fCons (fC (.bool true)) fNil)))) fNil)) 3
def isT : TF := fB (fBlt gAny (fCons (fComp [7] (fItems (fCall F_basis (fCons (fNm 1) fNil))) (tNm 7) tYes' (fOp gNe (fCall F_own_in_box (fCons (fNm 1) (fCons (fCall F_own_turned (fCons (fNm 0) (fCons (fIxN 4 (fC (.int 0))) (fCons (fNm 7) fNil)))) fNil))) (fTup (fCons (fC (.int 0)) (fCons (fC (.int 0)) fNil))))) fNil))
def isB1 : SF := sIf isT (sRet (fC (.bool false))) sNil
def isI0 : SF := sAsg (fCall F_own_then (fCons (fNm 0) (fCons (fNm 4) (fCons (fNm 5) fNil)))) (tNm 6)
def isI1 : SF := sIf (fB (fOpN gNotInE (fTup (fCons (fIxN 6 (fC (.int 0))) (fCons (fCall F_own_in_box (fCons (fNm 1) (fCons (fIxN 6 (fC (.int 1))) fNil))) fNil))) 3)) (sRet (fC (.bool false))) sNil
def isI : SF := sSeq isI0 isI1
def isO : SF := sSeq isB1 (sFor (fItems (fNm 2)) (tNm 5) isI)
theorem is_eq : g_is_shut = sSeq isB0 (sSeq (sFor (fItems (fNm 2)) (tNm 4) isO) (sRet (fC (.bool true)))) := rfl
def isE (g : Str) (L : PyData) (ps : List Mo) (s4 s5 s6 : Sl) : En := [.sh (.str g), .sh L, .sh (.tuple (ps.map mo)), .ow (.dict (kn ps)), s4, s5, s6, .un]
/-- what is asked of all pairs of parts -/
def shutP (g : Str) (p q r : Int) (ps : List Mo) (a b : Mo) : Bool := decide (bxd p q r (mul g a b) ∈ ps)
def keepP (g : Str) (p q r : Int) (a : Mo) : Bool := decide (Lat.inbox p q r (Tn g a.1 (p, 0)) = (0, 0) ∧ Lat.inbox p q r (Tn g a.1 (q, r)) = (0, 0))
theorem shut_in (h : gS g) (ol : okL p q r) (ne : ps ≠ []) {a b : Mo} (ha : a.1 < MM g) (hb : b.1 < MM g) {s6 : Sl} : isI (isE g (lat p q r) ps (.sh (mo a)) (.sh (mo b)) s6) =
    if shutP g p q r ps a b = true then .nx (isE g (lat p q r) ps (.sh (mo a)) (.sh (mo b)) (.sh (mo (mul g a b)))) else .rt (.bool false) (isE g (lat p q r) ps (.sh (mo a)) (.sh (mo b)) (.sh (mo (mul g a b)))) := by
  have e1 := own_then_ok h ha hb
  have e2 := own_in_box_ok ol (mul g a b).2
  have i0 := ix_mo0 (mul g a b)
  have i1 := ix_mo1 (mul g a b)
  have dc := dct_mo (mul g a b)
  have em : (.tuple [.int ((mul g a b).1 : Nat), prp (Lat.inbox p q r (mul g a b).2)] : PyData) = mo (bxd p q r (mul g a b)) := rfl
  have en := nin_kn ne (bxd p q r (mul g a b))
  unfold isI
  rw [ap_sSeq]
  have f0 : isI0 (isE g (lat p q r) ps (.sh (mo a)) (.sh (mo b)) s6) = .nx (isE g (lat p q r) ps (.sh (mo a)) (.sh (mo b)) (.sh (mo (mul g a b)))) := by
    unfold isI0 isE
    generalize lat p q r = L at *
    generalize mo (mul g a b) = R at *
    generalize mo a = A at *
    generalize mo b = B at *
    generalize ps.map mo = P at *
    generalize kn ps = N at *
    simp (decide := true) [e1]
  rw [f0]
  show isI1 _ = _
  unfold isI1 isE shutP
  generalize prp (Lat.inbox p q r (mul g a b).2) = Q2 at *
  generalize prp (mul g a b).2 = Q1 at *
  generalize (((mul g a b).1 : Nat) : Int) = I at *
  generalize mo (mul g a b) = R at *
  rw [← em] at en
  generalize hD : decide (bxd p q r (mul g a b) ∈ ps) = D at *
  generalize lat p q r = L at *
  generalize mo a = A at *
  generalize mo b = B at *
  generalize ps.map mo = P at *
  generalize kn ps = N at *
  cases D <;> simp (decide := true) [e2, i0, i1, dc, en, scl]
theorem keep_in (h : gS g) (ol : okL p q r) {a : Mo} (ha : a.1 < MM g) {s5 s6 : Sl} : isB1 (isE g (lat p q r) ps (.sh (mo a)) s5 s6) =
    if keepP g p q r a = true then .nx (isE g (lat p q r) ps (.sh (mo a)) s5 s6) else .rt (.bool false) (isE g (lat p q r) ps (.sh (mo a)) s5 s6) := by
  have b0 := basis_ok p q r
  have e1 := own_T h ha (p, 0)
  have e2 := own_T h ha (q, r)
  have e3 := own_in_box_ok ol (Tn g a.1 (p, 0))
  have e4 := own_in_box_ok ol (Tn g a.1 (q, r))
  have i0 := ix_mo0 a
  have dc := dct_mo a
  have n1 := ne_pr (Lat.inbox p q r (Tn g a.1 (p, 0))).1 (Lat.inbox p q r (Tn g a.1 (p, 0))).2 0 0
  have n2 := ne_pr (Lat.inbox p q r (Tn g a.1 (q, r))).1 (Lat.inbox p q r (Tn g a.1 (q, r))).2 0 0
  have hk : keepP g p q r a = (decide ((Lat.inbox p q r (Tn g a.1 (p, 0))).1 = 0 ∧ (Lat.inbox p q r (Tn g a.1 (p, 0))).2 = 0) && decide ((Lat.inbox p q r (Tn g a.1 (q, r))).1 = 0 ∧ (Lat.inbox p q r (Tn g a.1 (q, r))).2 = 0)) := by
    unfold keepP
    rw [Bool.eq_iff_iff]
    simp [Prod.ext_iff]
  rw [hk]
  clear hk
  generalize hX : decide ((Lat.inbox p q r (Tn g a.1 (p, 0))).1 = 0 ∧ (Lat.inbox p q r (Tn g a.1 (p, 0))).2 = 0) = X at *
  generalize hY : decide ((Lat.inbox p q r (Tn g a.1 (q, r))).1 = 0 ∧ (Lat.inbox p q r (Tn g a.1 (q, r))).2 = 0) = Y at *
  clear hX hY
  unfold isB1 isT isE
  unfold prp at *
  generalize pr (Lat.inbox p q r (Tn g a.1 (p, 0))).1 (Lat.inbox p q r (Tn g a.1 (p, 0))).2 = Q1 at *
  generalize pr (Lat.inbox p q r (Tn g a.1 (q, r))).1 (Lat.inbox p q r (Tn g a.1 (q, r))).2 = Q2 at *
  generalize pr (Tn g a.1 (p, 0)).1 (Tn g a.1 (p, 0)).2 = Q3 at *
  generalize pr (Tn g a.1 (q, r)).1 (Tn g a.1 (q, r)).2 = Q4 at *
  simp only [List.map_cons, List.map_nil] at b0
  generalize hV1 : pr p 0 = V1 at *
  generalize hV2 : pr q r = V2 at *
  clear hV1 hV2
  unfold pr at n1 n2
  generalize lat p q r = L at *
  generalize mo a = A at *
  generalize ps.map mo = P at *
  generalize kn ps = N at *
  generalize ((a.1 : Nat) : Int) = I at *
  cases X <;> cases Y <;> simp (decide := true) [b0, e1, e2, e3, e4, i0, dc, n1, n2, compF, gAny, bolsOf, scl]
theorem is_shut_ok (h : gS g) (ol : okL p q r) (ne : ps ≠ []) (nd : ps.Nodup) (hl : ps.length ≤ 1000) (v : VM g ps) :
    F_is_shut [.str g, lat p q r, .tuple (ps.map mo)] = .ok (.bool (ps.all fun a => keepP g p q r a && ps.all fun b => shutP g p q r ps a b)) := by
  have st : (Y.start n_is_shut [.str g, lat p q r, .tuple (ps.map mo)]) = [.sh (.str g), .sh (lat p q r), .sh (.tuple (ps.map mo)), .un, .un, .un, .un, .un] := rfl
  have f0 : isB0 [.sh (.str g), .sh (lat p q r), .sh (.tuple (ps.map mo)), .un, .un, .un, .un, .un] = .nx (isE g (lat p q r) ps .un .un .un) := by
    have ec : compF [4] (tNm 4) tYes' (fTup (fCons (fNm 4) (fCons (fC (.bool true)) fNil))) (ps.map mo) [.sh (.str g), .sh (lat p q r), .sh (.tuple (ps.map mo)), .un, .un, .un, .un, .un] = .ok (ps.map knP, [.sh (.str g), .sh (lat p q r), .sh (.tuple (ps.map mo)), .un, .un, .un, .un, .un]) := by
      refine comp_mapL fun m hm => ⟨[.sh (.str g), .sh (lat p q r), .sh (.tuple (ps.map mo)), .un, .sh (mo m), .un, .un, .un], [.sh (.str g), .sh (lat p q r), .sh (.tuple (ps.map mo)), .un, .sh (mo m), .un, .un, .un], rfl, ?_, rfl⟩
      unfold knP
      generalize mo m = M at *
      generalize ps.map mo = P at *
      generalize lat p q r = L at *
      simp (decide := true)
    have ed := dict_kn ne nd
    have hl2 : (ps.map mo).length ≤ 1000000 := by rw [List.length_map]; omega
    unfold isB0 isE
    generalize ps.map mo = P at *
    generalize ps.map knP = P2 at *
    generalize kn ps = N at *
    generalize lat p q r = L at *
    simp (decide := true) [ec, ed, hl2]
  unfold F_is_shut fnR
  rw [is_eq, st, ap_sSeq, f0]
  show outR ((sSeq (sFor (fItems (fNm 2)) (tNm 4) isO) (sRet (fC (.bool true)))) _) = _
  have fi : ∀ s4 s5 s6, (fItems (fNm 2)) (isE g (lat p q r) ps s4 s5 s6) = .ok (ps.map mo, isE g (lat p q r) ps s4 s5 s6) := fun s4 s5 s6 => by
    unfold isE
    generalize ps.map mo = P at *
    generalize kn ps = N at *
    generalize lat p q r = L at *
    simp (decide := true)
  have inner : ∀ (a : Mo), a ∈ ps → ∀ s5 s6, (ps.find? (fun b => !shutP g p q r ps a b) = none ∧ ∃ s5' s6', forF (tNm 5) isI (ps.map mo) (isE g (lat p q r) ps (.sh (mo a)) s5 s6) = .nx (isE g (lat p q r) ps (.sh (mo a)) s5' s6')) ∨ ∃ x ρ', ps.find? (fun b => !shutP g p q r ps a b) = some x ∧ forF (tNm 5) isI (ps.map mo) (isE g (lat p q r) ps (.sh (mo a)) s5 s6) = .rt (.bool false) ρ' := fun a ha s5 s6 => by
    have := for_hit (g := tNm 5) (b := isI) (enc := mo) (I := fun ρ => ∃ s5 s6, ρ = isE g (lat p q r) ps (.sh (mo a)) s5 s6) (p := fun b => !shutP g p q r ps a b) (r := fun _ => .bool false) (xs := ps) (ρ := isE g (lat p q r) ps (.sh (mo a)) s5 s6) (fun b hb ρ hI => by
      obtain ⟨t5, t6, rfl⟩ := hI
      have k := shut_in (s6 := t6) h ol ne (v a ha) (v b hb)
      by_cases hs : shutP g p q r ps a b = true
      · rw [if_pos hs] at k
        exact ⟨_, _, rfl, .inl ⟨by simp [hs], .inl k, _, _, rfl⟩⟩
      · rw [if_neg hs] at k
        exact ⟨_, _, rfl, .inr ⟨by simp [hs], k⟩⟩) ⟨_, _, rfl⟩
    rcases this with ⟨a1, ρ', a2, t5, t6, rfl⟩ | ⟨x, ρ', a1, a2⟩
    · exact .inl ⟨a1, t5, t6, a2⟩
    · exact .inr ⟨x, ρ', a1, a2⟩
  have outer := for_hit (g := tNm 4) (b := isO) (enc := mo) (I := fun ρ => ∃ s4 s5 s6, ρ = isE g (lat p q r) ps s4 s5 s6) (p := fun a => !(keepP g p q r a && ps.all fun b => shutP g p q r ps a b)) (r := fun _ => .bool false) (xs := ps) (ρ := isE g (lat p q r) ps .un .un .un) (fun a ha ρ hI => by
      obtain ⟨t4, t5, t6, rfl⟩ := hI
      have k := keep_in (ps := ps) (s5 := t5) (s6 := t6) h ol (v a ha)
      have tn : tNm 4 (mo a) (isE g (lat p q r) ps t4 t5 t6) = some (isE g (lat p q r) ps (.sh (mo a)) t5 t6) := rfl
      by_cases hk : keepP g p q r a = true
      · rw [if_pos hk] at k
        rcases inner a ha t5 t6 with ⟨a1, t5', t6', a2⟩ | ⟨x, ρ', a1, a2⟩
        · refine ⟨_, isE g (lat p q r) ps (.sh (mo a)) t5' t6', tn, .inl ⟨?_, .inl ?_, _, _, _, rfl⟩⟩
          · rw [hk, Bool.true_and, Bool.not_eq_false', List.all_eq_true]
            intro b hb
            have := List.find?_eq_none.mp a1 b hb
            simpa using this
          · unfold isO
            rw [ap_sSeq, k]
            show (sFor (fItems (fNm 2)) (tNm 5) isI) _ = _
            rw [ap_sFor, fi]
            exact a2
        · refine ⟨_, ρ', tn, .inr ⟨?_, ?_⟩⟩
          · rw [hk, Bool.true_and, Bool.not_eq_true', Bool.eq_false_iff]
            intro z
            have z1 := List.all_eq_true.mp z x (List.mem_of_find?_eq_some a1)
            have := List.find?_some a1
            rw [z1] at this
            cases this
          · unfold isO
            rw [ap_sSeq, k]
            show (sFor (fItems (fNm 2)) (tNm 5) isI) _ = _
            rw [ap_sFor, fi]
            exact a2
      · rw [if_neg hk] at k
        refine ⟨_, isE g (lat p q r) ps (.sh (mo a)) t5 t6, tn, .inr ⟨by simp [hk], ?_⟩⟩
        · unfold isO
          rw [ap_sSeq, k]) ⟨_, _, _, rfl⟩
  rw [ap_sSeq, ap_sFor, fi]
  rcases outer with ⟨a1, ρ', a2, t4, t5, t6, rfl⟩ | ⟨x, ρ', a1, a2⟩
  · have e : (ps.all fun a => keepP g p q r a && ps.all fun b => shutP g p q r ps a b) = true := by
      rw [List.all_eq_true]
      intro b hb
      have := List.find?_eq_none.mp a1 b hb
      simpa using this
    rw [e]
    show outR (match forF (tNm 4) isO (ps.map mo) (isE g (lat p q r) ps .un .un .un) with | .nx ρ' => _ | o => o) = _
    rw [a2]
    rfl
  · have e : (ps.all fun a => keepP g p q r a && ps.all fun b => shutP g p q r ps a b) = false := by
      rw [Bool.eq_false_iff]
      intro z
      have z1 := List.all_eq_true.mp z x (List.mem_of_find?_eq_some a1)
      have := List.find?_some a1
      rw [z1] at this
      cases this
    rw [e]
    show outR (match forF (tNm 4) isO (ps.map mo) (isE g (lat p q r) ps .un .un .un) with | .nx ρ' => _ | o => o) = _
    rw [a2]
    rfl
end
end K11


namespace K11
open PySem PySem.Spec PyProof.Rows L2 Y Mot
def wg0 : SF := sIf (fOr (fNot (fB (fIsi "tuple" (fNm 0)))) (fB (fOp gNe (fBltX gLen 0) (fC (.int 3))))) (sRet (fLst (fCons (fC .none) fNil))) sNil
def wg1 : SF := sAsg (fNm 0) (tTp 3 (tsCons (tNm 1) (tsCons (tNm 2) (tsCons (tNm 3) tsNil))))
def wg2 : SF := sIf (fNot (fB (fCall F_is_grid (fCons (fNm 1) fNil)))) (sRet (fLst (fCons (fC (.str "grid")) fNil))) sNil
def wg3 : SF := sIf (fNot (fB (fCall F_is_lattice (fCons (fNm 2) fNil)))) (sRet (fLst (fCons (fC (.str "lattice")) fNil))) sNil
def wg4 : SF := sIf (fOr (fNot (fB (fIsi "tuple" (fNm 3)))) (fNot (fB (fChain gLe gLe (fC (.int 1)) (fBltX gLen 3) (fBlt gLen (fCons (fOp gIxD (fC v_TURNS) (fNm 1)) fNil)))))) (sRet (fLst (fCons (fC (.str "parts")) fNil))) sNil
def wgB : SF := sIf (fOr (fNot (fB (fCall F_is_part (fCons (fNm 1) (fCons (fNm 2) (fCons (fNm 5) fNil)))))) (fAnd (fB (fOp gGt (fNm 4) (fC (.int 0)))) (fB (fOp gLe (fIxN 5 (fC (.int 0))) (fOp gIxD (fIxN 3 (fOp gSub (fNm 4) (fC (.int 1)))) (fC (.int 0))))))) (sRet (fLst (fCons (fNm 4) fNil))) sNil
def wg5 : SF := sFor (fEnum2 (fCons (fNm 3) fNil)) (tTp 2 (tsCons (tNm 4) (tsCons (tNm 5) tsNil))) wgB
def wg6 : SF := sIf (fB (fOp gNe (fIxN 3 (fC (.int 0))) (fC v_IDENTITY))) (sRet (fLst (fCons (fC (.int 0)) fNil))) sNil
def wg7 : SF := sRet (fIf (fB (fCall F_is_shut (fCons (fNm 1) (fCons (fNm 2) (fCons (fNm 3) fNil))))) (fLst fNil) (fLst (fCons (fC (.str "closed")) fNil)))
theorem wg_eq : g_wrong_group = sSeq wg0 (sSeq wg1 (sSeq wg2 (sSeq wg3 (sSeq wg4 (sSeq wg5 (sSeq wg6 wg7)))))) := rfl
theorem is_grid_ok {g : Str} (h : gS g) : F_is_grid [.str g] = .ok (.bool true) := by
  rcases h with rfl | rfl <;> kernel_rfl
theorem turns_len {g : Str} (h : gS g) : ∃ d, gIxD v_TURNS (.str g) = some d ∧ gLen [d] = some (.int (MM g : Nat)) := by
  rcases h with rfl | rfl
  · exact ⟨_, rfl, by kernel_rfl⟩
  · exact ⟨_, rfl, by kernel_rfl⟩
section
variable {g : Str} {ms ps : List Mo} {p q r : Int} {m : Mo}
theorem wg5_ok (h : gS g) (ol : okL p q r) (v : VM g ps) (bx : ∀ m ∈ ps, (0 ≤ m.2.1 ∧ m.2.1 < p) ∧ 0 ≤ m.2.2 ∧ m.2.2 < r) (sr : ps.Pairwise fun a b => a.1 < b.1) {s0 s4 s5 : Sl} :
    ∃ s4' s5', wg5 [s0, .sh (.str g), .sh (lat p q r), .sh (.tuple (ps.map mo)), s4, s5] = .nx [s0, .sh (.str g), .sh (lat p q r), .sh (.tuple (ps.map mo)), s4', s5'] := by
  obtain ⟨ρ', e, s4', s5', rfl⟩ := for_run (g := tTp 2 (tsCons (tNm 4) (tsCons (tNm 5) tsNil))) (b := wgB) (I := fun _ ρ => ∃ s4 s5, ρ = [s0, .sh (.str g), .sh (lat p q r), .sh (.tuple (ps.map mo)), s4, s5]) (ds := enumD 0 (ps.map mo)) (k := 0) (ρ := [s0, .sh (.str g), .sh (lat p q r), .sh (.tuple (ps.map mo)), s4, s5]) (fun i d ρ hd hI => by
    obtain ⟨t4, t5, rfl⟩ := hI
    obtain ⟨x, hx, rfl⟩ := enumD_at hd
    rw [List.getElem?_map] at hx
    obtain ⟨m, hm, rfl⟩ := Option.map_eq_some_iff.mp hx
    have mem := List.mem_of_getElem? hm
    have e1 := ispart_ok h ol (v m mem) (bx m mem)
    have i0 := ix_mo0 m
    have dc := dct_mo m
    rw [Nat.zero_add]
    refine ⟨[s0, .sh (.str g), .sh (lat p q r), .sh (.tuple (ps.map mo)), .sh (.int (i : Nat)), .sh (mo m)], [s0, .sh (.str g), .sh (lat p q r), .sh (.tuple (ps.map mo)), .sh (.int (i : Nat)), .sh (mo m)], rfl, .inl ?_, _, _, rfl⟩
    unfold wgB
    by_cases hi : i = 0
    · subst hi
      generalize mo m = M at *
      generalize lat p q r = L at *
      generalize ps.map mo = P at *
      simp (decide := true) [e1]
    · obtain ⟨hl, hm'⟩ := List.getElem?_eq_some_iff.mp hm
      have hlt : (ps[i - 1]'(by omega)).1 < m.1 := by
        have := List.pairwise_iff_getElem.mp sr (i - 1) i (by omega) hl (by omega)
        rwa [hm'] at this
      have ea : atI (ps.map mo) ((i : Int) - 1) = some (mo (ps[i - 1]'(by omega))) := by
        have := at_nat (ds := ps.map mo) (i := i - 1) (by rw [List.length_map]; omega)
        rw [List.getElem_map] at this
        rw [← this]
        congr 1
        omega
      have i0' := ix_mo0 (ps[i - 1]'(by omega))
      have c1 : ¬ (((m.1 : Nat) : Int) ≤ (((ps[i - 1]'(by omega)).1 : Nat) : Int)) := by omega
      have c2 : (0 : Int) < (i : Nat) := by omega
      generalize mo (ps[i - 1]'(by omega)) = M' at *
      generalize (((ps[i - 1]'(by omega)).1 : Nat) : Int) = I' at *
      generalize mo m = M at *
      generalize lat p q r = L at *
      generalize ps.map mo = P at *
      simp (decide := true) [e1, ea, i0, i0', c1, c2, dc]) ⟨_, _, rfl⟩
  refine ⟨s4', s5', ?_⟩
  have es : (fEnum2 (fCons (fNm 3) fNil)) [s0, .sh (.str g), .sh (lat p q r), .sh (.tuple (ps.map mo)), s4, s5] = .ok (enumD 0 (ps.map mo), [s0, .sh (.str g), .sh (lat p q r), .sh (.tuple (ps.map mo)), s4, s5]) := by
    generalize ps.map mo = P at *
    generalize lat p q r = L at *
    simp (decide := true)
  unfold wg5
  rw [ap_sFor, es]
  exact e
/-- what stands in a group's way: closed -/
theorem wrong_group_shape (h : gS g) (ol : okL p q r) {qs : List Mo} (hq : ps = one0 :: qs) (v : VM g ps) (bx : ∀ m ∈ ps, (0 ≤ m.2.1 ∧ m.2.1 < p) ∧ 0 ≤ m.2.2 ∧ m.2.2 < r) (sr : ps.Pairwise fun a b => a.1 < b.1) :
    F_wrong_group [grp g p q r ps] = .ok (if (ps.all fun a => keepP g p q r a && ps.all fun b => shutP g p q r ps a b) = true then .list [] else .list [.str "closed"]) := by
  have nd : ps.Nodup := nd_of_srt sr
  have hl : ps.length ≤ MM g := nd_len (nd_turns sr) v
  have m12 := MM12 g
  have ne : ps ≠ [] := by rw [hq]; simp
  have e3 := is_shut_ok h ol ne nd (by omega) v
  have st : (Y.start n_wrong_group [grp g p q r ps]) = [.sh (grp g p q r ps), .un, .un, .un, .un, .un] := rfl
  obtain ⟨TD, et, el⟩ := turns_len h
  have e1 := is_grid_ok h
  have e2 := is_lattice_ok ol
  unfold F_wrong_group fnR
  rw [wg_eq, st, ap_sSeq]
  have f0 : wg0 [.sh (grp g p q r ps), .un, .un, .un, .un, .un] = .nx [.sh (grp g p q r ps), .un, .un, .un, .un, .un] := by
    have eg : grp g p q r ps = .tuple [.str g, lat p q r, .tuple (ps.map mo)] := rfl
    unfold wg0
    rw [eg]
    generalize ps.map mo = P at *
    generalize lat p q r = L at *
    simp (decide := true) [isExc, isTy, isTyS, tyOf]
  rw [f0]
  show outR ((sSeq wg1 _) _) = _
  have f1 : wg1 [.sh (grp g p q r ps), .un, .un, .un, .un, .un] = .nx [.sh (grp g p q r ps), .sh (.str g), .sh (lat p q r), .sh (.tuple (ps.map mo)), .un, .un] := by
    have eg : grp g p q r ps = .tuple [.str g, lat p q r, .tuple (ps.map mo)] := rfl
    unfold wg1
    rw [eg]
    generalize ps.map mo = P at *
    generalize lat p q r = L at *
    simp (decide := true)
  rw [ap_sSeq, f1]
  show outR ((sSeq wg2 _) _) = _
  generalize hG : grp g p q r ps = GG at *
  have f2 : wg2 [.sh GG, .sh (.str g), .sh (lat p q r), .sh (.tuple (ps.map mo)), .un, .un] = .nx [.sh GG, .sh (.str g), .sh (lat p q r), .sh (.tuple (ps.map mo)), .un, .un] := by
    unfold wg2
    generalize ps.map mo = P at *
    generalize lat p q r = L at *
    simp (decide := true) [e1]
  rw [ap_sSeq, f2]
  show outR ((sSeq wg3 _) _) = _
  have f3 : wg3 [.sh GG, .sh (.str g), .sh (lat p q r), .sh (.tuple (ps.map mo)), .un, .un] = .nx [.sh GG, .sh (.str g), .sh (lat p q r), .sh (.tuple (ps.map mo)), .un, .un] := by
    unfold wg3
    generalize ps.map mo = P at *
    generalize lat p q r = L at *
    simp (decide := true) [e2]
  rw [ap_sSeq, f3]
  show outR ((sSeq wg4 _) _) = _
  have f4 : wg4 [.sh GG, .sh (.str g), .sh (lat p q r), .sh (.tuple (ps.map mo)), .un, .un] = .nx [.sh GG, .sh (.str g), .sh (lat p q r), .sh (.tuple (ps.map mo)), .un, .un] := by
    have hl1 : (1 : Int) ≤ ((ps.map mo).length : Nat) := by rw [List.length_map, hq, List.length_cons]; omega
    have hl2 : (((ps.map mo).length : Nat) : Int) ≤ ((MM g : Nat) : Int) := by rw [List.length_map]; omega
    unfold wg4
    generalize v_TURNS = TU at *
    generalize ps.map mo = P at *
    generalize lat p q r = L at *
    simp (decide := true) [isExc, isTy, isTyS, tyOf, et, el, hl1, hl2, scl]
  rw [ap_sSeq, f4]
  show outR ((sSeq wg5 _) _) = _
  obtain ⟨s4', s5', f5⟩ := wg5_ok h ol v bx sr (s0 := .sh GG) (s4 := .un) (s5 := .un)
  rw [ap_sSeq, f5]
  show outR ((sSeq wg6 _) _) = _
  have f6 : wg6 [.sh GG, .sh (.str g), .sh (lat p q r), .sh (.tuple (ps.map mo)), s4', s5'] = .nx [.sh GG, .sh (.str g), .sh (lat p q r), .sh (.tuple (ps.map mo)), s4', s5'] := by
    have ea : atI (ps.map mo) 0 = some v_IDENTITY := by rw [hq]; exact at0
    have en : gNe v_IDENTITY v_IDENTITY = some (.bool false) := gNe_self (sh_mo one0)
    unfold wg6
    generalize v_IDENTITY = I at *
    generalize ps.map mo = P at *
    generalize lat p q r = L at *
    simp (decide := true) [ea, en]
  rw [ap_sSeq, f6]
  show outR (wg7 _) = _
  unfold wg7
  generalize (ps.all fun a => keepP g p q r a && ps.all fun b => shutP g p q r ps a b) = B at *
  generalize ps.map mo = P at *
  generalize lat p q r = L at *
  cases B <;> simp (decide := true) [e3, outR]
theorem grp_all_shut (h : gS g) (v : VM g ms) (G : IsGrp g ms p q r ps) : (ps.all fun a => keepP g p q r a && ps.all fun b => shutP g p q r ps a b) = true := by
  rw [List.all_eq_true]
  intro a ha
  rw [Bool.and_eq_true, List.all_eq_true]
  refine ⟨?_, fun b hb => decide_eq_true (G.shut h v ha hb)⟩
  unfold keepP
  rw [decide_eq_true_eq, Lat.inbox_zero G.p0 G.r0, Lat.inbox_zero G.p0 G.r0]
  exact ⟨G.keep h v (G.gen a ha) (Lat.inL_e1 p q r), G.keep h v (G.gen a ha) (Lat.inL_e2 p q r)⟩
theorem wrong_group_ok (h : gS g) (v : VM g ms) (G : IsGrp g ms p q r ps) (hm : p * r ≤ 1000) : F_wrong_group [grp g p q r ps] = .ok (.list []) := by
  obtain ⟨qs, hq⟩ := G.head h v
  rw [wrong_group_shape h (IsGrp.ol G hm) hq (G.vps h v) G.box G.srt, grp_all_shut h v G, if_pos rfl]
theorem need_group_ok (h : gS g) (v : VM g ms) (G : IsGrp g ms p q r ps) (hm : p * r ≤ 1000) : F_need_group [grp g p q r ps] = .ok .none := by
  have e := wrong_group_ok h v G hm
  unfold F_need_group fnR g_need_group n_need_group
  generalize grp g p q r ps = GG at *
  have n0 : gNe (.list []) (.list []) = some (.bool false) := by kernel_rfl
  simp (decide := true) [e, outR, n0]
end
end K11


namespace K11
open PySem PySem.Spec PyProof.Rows L2 Y Mot
def nmB : SF := sIf (fNot (fB (fCall F_is_motion (fCons (fNm 0) (fCons (fNm 2) fNil))))) (sRaise "BadMotion" (fNm 2)) sNil
section
variable {g : Str} {ms ps : List Mo} {p q r W : Int} {m b : Mo} {cc : PyData}
theorem need_grid_ok (h : gS g) : F_need_grid [.str g] = .ok .none := by
  rcases h with rfl | rfl <;> kernel_rfl
theorem need_motions_ok (h : gS g) (ok : ∀ m ∈ ms, okM g m) (hl : ms.length ≤ 50) : F_need_motions [.str g, .tuple (ms.map mo)] = .ok .none := by
  have e0 := need_grid_ok h
  have e1 : ¬ ((50 : Int) < ((ms.map mo).length : Nat)) := by rw [List.length_map]; omega
  obtain ⟨ρ', e2, _⟩ := for_L (g := tNm 2) (b := nmB) (enc := mo) (I := fun _ ρ => ∃ s2, ρ = [.sh (.str g), .sh (.tuple (ms.map mo)), s2]) (xs := ms) (as := []) (ρ := [.sh (.str g), .sh (.tuple (ms.map mo)), .un]) (fun as' x rest ρ ha hI => by
    obtain ⟨s2, rfl⟩ := hI
    have e3 := is_motion_ok h (ok x (by rw [List.nil_append] at ha; rw [ha]; simp))
    refine ⟨[.sh (.str g), .sh (.tuple (ms.map mo)), .sh (mo x)], [.sh (.str g), .sh (.tuple (ms.map mo)), .sh (mo x)], rfl, .inl ?_, _, rfl⟩
    unfold nmB
    generalize mo x = X at *
    generalize ms.map mo = M at *
    simp (decide := true) [e3]) ⟨_, rfl⟩
  unfold F_need_motions fnR g_need_motions n_need_motions
  unfold nmB at e2
  have hv : v_MOST_MOTIONS = .int 50 := rfl
  rw [hv]
  generalize ms.map mo = M at *
  simp (decide := true) [e0, e1, e2, isExc, isTy, isTyS, tyOf, outR, scl]
theorem group_by_ok (h : gS g) (ok : ∀ m ∈ ms, okM g m) (hl : ms.length ≤ 50) (w0 : 0 ≤ W) (w1 : W ≤ 300000) (hW : ∀ m ∈ ms, nb g W m.2) :
    ∃ p q r : Int, 0 ≤ p ∧ 0 ≤ r ∧ (∀ v, Gen g ms (0, v) ↔ Lat.InL p q r v) ∧ ((p = 0 ∨ r = 0) ∧ F_group_by [.str g, .tuple (ms.map mo)] = .er "NoSuch" (.str "lattice") ∨ (0 < p ∧ 0 < r ∧ 1000 < p * r) ∧ F_group_by [.str g, .tuple (ms.map mo)] = .er "TooMany" (.int 1000) ∨
      p * r ≤ 1000 ∧ ∃ ps, IsGrp g ms p q r ps ∧ F_group_by [.str g, .tuple (ms.map mo)] = .ok (grp g p q r ps)) := by
  have v : VM g ms := fun m hm => (ok m hm).1
  have e0 := need_motions_ok h ok hl
  obtain ⟨p, q, r, p0, r0, hlat, hh⟩ := own_group_ok (cc := .tuple (ms.map mo)) h v w0 w1 hW (by omega) rfl
  refine ⟨p, q, r, p0, r0, hlat, ?_⟩
  have key : ∀ x, F_own_group [.str g, .tuple (ms.map mo)] = x → F_group_by [.str g, .tuple (ms.map mo)] = x.bind fun d => if isNone d = true then .er "NoSuch" (.str "lattice") else .ok d := fun x hx => by
    unfold F_group_by fnR g_group_by n_group_by
    generalize ms.map mo = M at *
    cases x with
    | ok d =>
      by_cases hd : isNone d = true
      · have gi : gIs d .none = some (.bool true) := by unfold gIs; simp [hd]
        simp (decide := true) [e0, hx, gi, outR, hd]
      · have gi : gIs d .none = some (.bool false) := by unfold gIs; simp [hd]
        simp (decide := true) [e0, hx, gi, outR, hd]
    | er c d => simp (decide := true) [e0, hx, outR]
    | no => simp (decide := true) [e0, hx, outR]
  rcases hh with ⟨a, e⟩ | ⟨a, e⟩ | ⟨a, ps, G, e⟩
  · exact .inl ⟨a, key _ e⟩
  · exact .inr (.inl ⟨a, key _ e⟩)
  · exact .inr (.inr ⟨a, ps, G, key _ e⟩)
/-- of makers that have two independent shifts -/
theorem grp_of (h : gS g) (ok : ∀ m ∈ ms, okM g m) (hl : ms.length ≤ 50) (w0 : 0 ≤ W) (w1 : W ≤ 300000) (hW : ∀ m ∈ ms, nb g W m.2) {s t : Pt} (hs : Gen g ms (0, s)) (ht : Gen g ms (0, t)) (hd : Lat.det s t ≠ 0) (hd2 : (Lat.det s t).natAbs ≤ 1000) :
    ∃ p q r ps, IsGrp g ms p q r ps ∧ p * r ≤ 1000 ∧ F_group_by [.str g, .tuple (ms.map mo)] = .ok (grp g p q r ps) := by
  obtain ⟨p, q, r, p0, r0, hlat, hh⟩ := group_by_ok h ok hl w0 w1 hW
  obtain ⟨a, b, es⟩ := (hlat _).mp hs
  obtain ⟨c, d, et⟩ := (hlat _).mp ht
  have e : Lat.det s t = (a * d - b * c) * (p * r) := by
    rw [es, et]; unfold Lat.det; grind
  have pr : 0 ≤ p * r := Int.mul_nonneg p0 r0
  have k : p * r ≤ 1000 ∧ p * r ≠ 0 := by
    have n : (Lat.det s t).natAbs = (a * d - b * c).natAbs * (p * r).natAbs := by rw [e, Int.natAbs_mul]
    have n1 : (a * d - b * c).natAbs ≠ 0 := fun z => by
      have : a * d - b * c = 0 := by omega
      rw [this, Int.zero_mul] at e; exact hd e
    have n2 : (p * r).natAbs ≠ 0 := fun z => by
      have : p * r = 0 := by omega
      rw [this, Int.mul_zero] at e; exact hd e
    have n3 : (p * r).natAbs ≤ (a * d - b * c).natAbs * (p * r).natAbs := Nat.le_mul_of_pos_left _ (by omega)
    omega
  rcases hh with ⟨z, _⟩ | ⟨z, _⟩ | ⟨z, ps, G, e2⟩
  · rcases z with z | z
    · rw [z, Int.zero_mul] at k; exact absurd rfl k.2
    · rw [z, Int.mul_zero] at k; exact absurd rfl k.2
  · omega
  · exact ⟨p, q, r, ps, G, z, e2⟩
theorem makers_ok (hl : ps.length ≤ 900) : F_makers [grp g p q r ps] = .ok (.tuple ((mkr p q r ps).map mo)) := by
  have b0 : F_basis [lat p q r] = .ok (.tuple [pr p 0, pr q r]) := basis_ok p q r
  have eg : grp g p q r ps = .tuple [.str g, lat p q r, .tuple (ps.map mo)] := rfl
  have e2 : (mkr p q r ps).map mo = ps.map mo ++ [.tuple [.int 0, pr p 0], .tuple [.int 0, pr q r]] := by unfold mkr; rw [List.map_append]; rfl
  have hl2 : (ps.map mo).length + 2 ≤ 1000 := by rw [List.length_map]; omega
  unfold F_makers fnR g_makers n_makers
  rw [eg, e2]
  generalize hV1 : pr p 0 = V1 at *
  generalize hV2 : pr q r = V2 at *
  clear hV1 hV2
  generalize ps.map mo = P at *
  generalize lat p q r = L at *
  simp (decide := true) [b0, compF, outR, hl2]
theorem mkr_len (p q r : Int) (ps : List Mo) : (mkr p q r ps).length = ps.length + 2 := by unfold mkr; simp
/-- sizes of what is moved -/
theorem nb_cj {V U : Int} (hb : nb g V b.2) (hm : nb g U m.2) : nb g (V + U + V) (cj g b m).2 := nb_mul (nb_mul (nb_inv hb) hm) hb
theorem IsGrp.len (h : gS g) (v : VM g ms) (G : IsGrp g ms p q r ps) : ps.length ≤ 12 := Nat.le_trans (nd_len (nd_turns G.srt) (G.vps h v)) (MM12 g)
theorem mkr_nb (h : gS g) (v : VM g ms) (G : IsGrp g ms p q r ps) (hm : p * r ≤ 1000) : ∀ m ∈ mkr p q r ps, nb g 2000 m.2 := fun m hm2 => by
  have ol := IsGrp.ol G hm
  have hp := ol.pb
  have hr := ol.rb
  refine nb_bx (W := 1000) ?_
  unfold bx
  rcases List.mem_append.mp hm2 with hm2 | hm2
  · have := G.box m hm2; omega
  · have := G.q0
    have := G.q1
    have := G.p0
    have := G.r0
    simp only [List.mem_cons, List.not_mem_nil, or_false] at hm2
    rcases hm2 with rfl | rfl <;> (simp only; omega)
theorem moved_group_ok (h : gS g) (v : VM g ms) (G : IsGrp g ms p q r ps) (hm : p * r ≤ 1000) (hb : okM g b) (w0 : 0 ≤ W) (w1 : W ≤ 100000) (hW : nb g W b.2) :
    ∃ p' q' r' ps', IsGrp g (ms.map (cj g b)) p' q' r' ps' ∧ p' * r' = p * r ∧ F_moved_group [grp g p q r ps, mo b] = .ok (grp g p' q' r' ps') := by
  have e0 := need_group_ok h v G hm
  have e1 := is_motion_ok h hb
  have e2 := own_back_ok h hb.1
  have e3 := makers_ok (g := g) (p := p) (q := q) (r := r) (ps := ps) (by have := IsGrp.len h v G; omega)
  have hv := G.vmk h v
  have st : (Y.start n_moved_group [grp g p q r ps, mo b]) = [.sh (grp g p q r ps), .sh (mo b), .un, .un, .un] := rfl
  have ec : compF [4] (tNm 4) tYes' (fCall F_own_then (fCons (fIxN 0 (fC (.int 0))) (fCons (fCall F_own_then (fCons (fIxN 0 (fC (.int 0))) (fCons (fNm 2) (fCons (fNm 4) fNil)))) (fCons (fNm 1) fNil)))) ((mkr p q r ps).map mo) [.sh (grp g p q r ps), .sh (mo b), .sh (mo (inv g b)), .un, .un] = .ok ((mkr p q r ps).map (fun m => mo (cj g b m)), [.sh (grp g p q r ps), .sh (mo b), .sh (mo (inv g b)), .un, .un]) := by
    refine comp_mapL fun m hm => ⟨[.sh (grp g p q r ps), .sh (mo b), .sh (mo (inv g b)), .un, .sh (mo m)], [.sh (grp g p q r ps), .sh (mo b), .sh (mo (inv g b)), .un, .sh (mo m)], rfl, ?_, rfl⟩
    have k1 := own_then_ok h (inv_lt h hb.1) (hv m hm)
    have k2 := own_then_ok h (mul_lt h (inv_lt h hb.1) (hv m hm)) hb.1
    have eg : grp g p q r ps = .tuple [.str g, lat p q r, .tuple (ps.map mo)] := rfl
    unfold cj
    rw [eg]
    generalize mo (mul g (mul g (inv g b) m) b) = R2 at *
    generalize mo (mul g (inv g b) m) = R1 at *
    generalize mo (inv g b) = R0 at *
    generalize mo b = B at *
    generalize mo m = M at *
    generalize ps.map mo = P at *
    generalize lat p q r = L at *
    simp (decide := true) [k1, k2]
  have hW2 : ∀ m ∈ (mkr p q r ps).map (cj g b), nb g (W + 2000 + W) m.2 := fun m hm2 => by
    obtain ⟨x, hx, rfl⟩ := List.mem_map.mp hm2
    exact nb_cj hW (mkr_nb h v G hm x hx)
  have len := IsGrp.len h v G
  obtain ⟨p', q', r', p0, r0, hlat, hh⟩ := own_group_ok (cc := .list (((mkr p q r ps).map (cj g b)).map mo)) h (vm_cj h hv hb.1) (by omega) (by omega) hW2 (by rw [List.length_map, mkr_len]; omega) rfl
  have key : F_moved_group [grp g p q r ps, mo b] = F_own_group [.str g, .list (((mkr p q r ps).map (cj g b)).map mo)] := by
    unfold F_moved_group fnR g_moved_group
    rw [st]
    have eg : gIxD (grp g p q r ps) (.int 0) = some (.str g) := at0
    have dg : isDct (grp g p q r ps) = false := rfl
    have em : ((mkr p q r ps).map (cj g b)).map mo = (mkr p q r ps).map (fun m => mo (cj g b m)) := by rw [List.map_map]; rfl
    have hl2 : ((mkr p q r ps).map mo).length ≤ 1000000 := by rw [List.length_map, mkr_len]; omega
    rw [em]
    generalize (mkr p q r ps).map (fun m => mo (cj g b m)) = R9 at *
    generalize (mkr p q r ps).map mo = R8 at *
    generalize mo (inv g b) = R0 at *
    generalize mo b = B at *
    generalize grp g p q r ps = GG at *
    cases hx : F_own_group [.str g, .list R9] <;> simp (decide := true) [e0, e1, e2, e3, eg, dg, ec, hl2, hx, outR]
  have gi : ∀ m, Gen g ((mkr p q r ps).map (cj g b)) m ↔ Gen g (ms.map (cj g b)) m := fun m => by
    have w1 := vm_cj h hv hb.1
    have w2 := vm_cj h v hb.1
    have ib := inv_lt h hb.1
    constructor
    · refine fun k => k.of h w2 fun a ha => ?_
      obtain ⟨x, hx, rfl⟩ := List.mem_map.mp ha
      exact ((G.makers h v x).mp (Gen.mem h hv hx)).cj h v hb.1
    · refine fun k => k.of h w1 fun a ha => ?_
      obtain ⟨x, hx, rfl⟩ := List.mem_map.mp ha
      exact ((G.makers h v x).mpr (Gen.mem h v hx)).cj h hv hb.1
  have lat2 : ∀ s, Lat.InL p' q' r' (Tn g b.1 s) ↔ Lat.InL p q r s := fun s => by
    rw [← hlat, gi, ← cj_sh h hb.1, Gen.cj_iff h v hb.1 (M_pos g), G.lat]
  have pr0 : 0 < p * r := Int.mul_pos G.p0 G.r0
  -- the lattice seen after the motion has two independent vectors
  have nz : 0 < p' ∧ 0 < r' := by
    obtain ⟨a1, b1, e1⟩ := (lat2 _).mpr (Lat.inL_e1 p q r)
    obtain ⟨a2, b2, e2⟩ := (lat2 _).mpr (Lat.inL_e2 p q r)
    have d := det_Tn g b.1 (p, 0) (q, r)
    rw [e1, e2] at d
    have d1 : Lat.det (a1 * p' + b1 * q', b1 * r') (a2 * p' + b2 * q', b2 * r') = (a1 * b2 - b1 * a2) * (p' * r') := by unfold Lat.det; grind
    have d2 : Lat.det (p, 0) (q, r) = p * r := by unfold Lat.det; grind
    rw [d1, d2] at d
    have n1 := dt_one h hb.1
    have ne : p' * r' ≠ 0 := fun z => by
      rw [z, Int.mul_zero] at d
      rcases Int.mul_eq_zero.mp d.symm with y | y
      · rw [y] at n1; cases n1
      · omega
    refine ⟨?_, ?_⟩
    · by_cases z : p' = 0
      · rw [z, Int.zero_mul] at ne; exact absurd rfl ne
      · omega
    · by_cases z : r' = 0
      · rw [z, Int.mul_zero] at ne; exact absurd rfl ne
      · omega
  -- any first vector's place will do
  have ar : p' * r' = p * r := by
    have w : ∀ s, Lat.InL p' (q'.fmod p') r' s ↔ Lat.InL p' q' r' s := fun s => by
      have hm := Int.mul_fdiv_add_fmod q' p'
      constructor
      · rintro ⟨x, y, rfl⟩; exact ⟨x - y * q'.fdiv p', y, by refine Prod.ext ?_ ?_ <;> (try simp only) <;> (try grind)⟩
      · rintro ⟨x, y, rfl⟩; exact ⟨x + y * q'.fdiv p', y, by refine Prod.ext ?_ ?_ <;> (try simp only) <;> (try grind)⟩
    exact area_Tn h hb.1 G.p0 G.r0 nz.1 nz.2 (Lat.fmod_nn (x := q') nz.1) fun s => (w _).trans (lat2 s)
  rcases hh with ⟨z, _⟩ | ⟨z, _⟩ | ⟨z, ps', G', e⟩
  · omega
  · omega
  · exact ⟨p', q', r', ps', G'.congr gi, ar, key.trans e⟩
end
end K11


namespace K11
open PySem PySem.Spec PyProof.Rows L2 Y Mot
def areaD (c n : Int) : PyData := .tuple [.int (c.fdiv ((Nat.gcd c.natAbs n.natAbs : Nat) : Int)), .int (n.fdiv ((Nat.gcd c.natAbs n.natAbs : Nat) : Int))]
theorem sh_area (c n : Int) : SeqAt.shaped (areaD c n) = true := sh_tupI [_, _]
theorem area_of_ok {g : Str} {ms ps : List Mo} {p q r : Int} (h : gS g) (v : VM g ms) (G : IsGrp g ms p q r ps) (hm : p * r ≤ 1000) : F_area_of [grp g p q r ps] = .ok (areaD (p * r) (ps.length : Nat)) := by
  have e0 := need_group_ok h v G hm
  have ol := IsGrp.ol G hm
  have m := mulOk_l (i := p) (j := r) (by have := ol.pb; have := G.p0; omega)
  have c0 : 0 < p * r := Int.mul_pos G.p0 G.r0
  have x1 := ix_g1 g p q r ps
  have x2 := ix_g2 g p q r ps
  have x3 := dct_g g p q r ps
  have x4 := ix_l0 p q r
  have x5 := ix_l2 p q r
  have el := len_ps ps
  generalize hc : p * r = c at *
  have gp : 0 < Nat.gcd c.natAbs (((ps.length : Nat) : Int)).natAbs := Nat.gcd_pos_of_pos_left _ (by omega)
  have gl : Nat.gcd c.natAbs (((ps.length : Nat) : Int)).natAbs ≤ c.natAbs := Nat.le_of_dvd (by omega) (Nat.gcd_dvd_left _ _)
  have gg := gcd_int (i := c) (j := ((ps.length : Nat) : Int))
  unfold areaD
  generalize Nat.gcd c.natAbs (((ps.length : Nat) : Int)).natAbs = G0 at *
  have d1 := divI (i := c) (j := (G0 : Int)) (by omega) (by omega)
  have d2 := divI (i := ((ps.length : Nat) : Int)) (j := (G0 : Int)) (by omega) (by omega)
  generalize c.fdiv (G0 : Int) = X1 at *
  generalize (((ps.length : Nat) : Int)).fdiv (G0 : Int) = X2 at *
  unfold F_area_of fnR g_area_of n_area_of
  generalize ps.map mo = P at *
  generalize grp g p q r ps = GG at *
  generalize (PyData.tuple [.int p, .int q, .int r]) = L at *
  simp (decide := true) [e0, m, hc, el, gg, d1, d2, outR, x1, x2, x3, x4, x5]
end K11


namespace K11
open PySem PySem.Spec PyProof.Rows L2 Y Mot
def rowCk (g : Str) : PyData → Bool
  | .tuple [.list ds, .int c, .int n] => match decMos ds with
    | some ms => ms.all (okMb g 1000) && (decide (ms.length ≤ 50) && (match closeX (isSq g) ms with
      | some (fs, sh) => decide ((Lat.minG sh 0 : Int) = c) && (decide (0 < c ∧ c ≤ 1000) && decide ((fs.length : Int) = n))
      | none => false))
    | none => false
  | _ => false
def rowsCk (g : Str) (w h : Int) : Bool := match F__law_rows [.str g, .int w, .int h] with
  | .ok (.list rows) => rows.all (rowCk g)
  | _ => false
theorem ckA : ∀ w ∈ List.range 9, ∀ h ∈ List.range 9, rowsCk "square" ((w : Nat) + 1 : Int) ((h : Nat) + 1 : Int) = true := by decide +kernel
theorem ckB : ∀ w ∈ List.range 9, ∀ h ∈ List.range 9, rowsCk "six" ((w : Nat) + 1 : Int) ((h : Nat) + 1 : Int) = true := by decide +kernel
/-- what a row holds -/
def Row (g : Str) (d : PyData) : Prop := ∃ ms c n p q r ps, d = .tuple [.list (ms.map mo), .int c, .int n] ∧ VM g ms ∧ IsGrp g ms p q r ps ∧ p * r ≤ 1000 ∧ p * r = c ∧ (ps.length : Int) = n ∧ F_group_by [.str g, .tuple (ms.map mo)] = .ok (grp g p q r ps)
theorem row_ok {g : Str} (h : gS g) {d : PyData} (k : rowCk g d = true) : Row g d := by
  unfold rowCk at k
  split at k
  · rename_i ds c n
    split at k
    · rename_i ms hd
      simp only [Bool.and_eq_true, decide_eq_true_eq] at k
      obtain ⟨k1, k2, k3⟩ := k
      rw [List.all_eq_true] at k1
      split at k3
      · rename_i fs sh hx
        simp only [Bool.and_eq_true, decide_eq_true_eq] at k3
        obtain ⟨a1, a2, a3⟩ := k3
        have bd : ∀ m ∈ ms, m.1 < MM g ∧ bx 1000 m.2 := fun m hm => by
          have := k1 m hm
          unfold okMb at this
          simp only [Bool.and_eq_true, decide_eq_true_eq] at this
          exact this
        have v : VM g ms := fun m hm => (bd m hm).1
        have cl := closeX_ok h v hx
        obtain ⟨p, q, r, p0, r0, hl, hh⟩ := group_by_ok (W := 2000) h (fun m hm => ⟨(bd m hm).1, (bd m hm).2.n1 (by decide), (bd m hm).2.n2 (by decide)⟩) k2 (by decide) (by decide) fun m hm => nb_bx (bd m hm).2
        have ar := area_lat (sh := sh) p0 r0 fun v' => (cl.shifts h v v').symm.trans (hl v')
        have ac : p * r = c := by rw [ar]; exact a1
        rcases hh with ⟨z, _⟩ | ⟨z, _⟩ | ⟨z, ps, G, e⟩
        · rcases z with z | z
          · rw [z, Int.zero_mul] at ac; omega
          · rw [z, Int.mul_zero] at ac; omega
        · omega
        · exact ⟨ms, c, n, p, q, r, ps, by rw [decMos_ok hd], v, G, z, ac, by rw [cl.parts h v G]; exact a3, e⟩
      · cases k3
    · cases k
  · cases k
theorem rows_ok {g : Str} (h : gS g) {w u : Int} (w0 : 1 ≤ w ∧ w ≤ 9) (u0 : 1 ≤ u ∧ u ≤ 9) : ∃ rows, F__law_rows [.str g, .int w, .int u] = .ok (.list rows) ∧ ∀ d ∈ rows, Row g d := by
  have k : rowsCk g w u = true := by
    have e1 : w = (((w - 1).toNat : Nat) : Int) + 1 := by omega
    have e2 : u = (((u - 1).toNat : Nat) : Int) + 1 := by omega
    rw [e1, e2]
    have m1 : (w - 1).toNat ∈ List.range 9 := List.mem_range.mpr (by omega)
    have m2 : (u - 1).toNat ∈ List.range 9 := List.mem_range.mpr (by omega)
    rcases h with rfl | rfl
    · exact ckA _ m1 _ m2
    · exact ckB _ m1 _ m2
  unfold rowsCk at k
  split at k
  · rename_i rows e
    exact ⟨rows, e, fun d hd => row_ok h (List.all_eq_true.mp k d hd)⟩
  · cases k
def lwR0 : SF := sAsg (fCall F_group_by (fCons (fNm 4) (fCons (fBlt gTuple (fCons (fNm 8) fNil)) fNil))) (tNm 11)
def lwR1 : SF := sIf (fOr (fB (fOp gNe (fOp gMul (fOp gIxD (fIxN 11 (fC (.int 1))) (fC (.int 0))) (fOp gIxD (fIxN 11 (fC (.int 1))) (fC (.int 2)))) (fNm 9))) (fB (fOp gNe (fBlt gLen (fCons (fIxN 11 (fC (.int 2))) fNil)) (fNm 10)))) (sRet (fC (.bool false))) sNil
def lwR2 : SF := sAsg (fCall F_moved_group (fCons (fNm 11) (fCons (fNm 5) fNil))) (tNm 12)
def lwR3 : SF := sIf (fOr (fB (fOp gNe (fOp gMul (fOp gIxD (fIxN 12 (fC (.int 1))) (fC (.int 0))) (fOp gIxD (fIxN 12 (fC (.int 1))) (fC (.int 2)))) (fNm 9))) (fOr (fB (fOp gNe (fBlt gLen (fCons (fIxN 12 (fC (.int 2))) fNil)) (fNm 10))) (fB (fOp gNe (fCall F_area_of (fCons (fNm 12) fNil)) (fCall F_area_of (fCons (fNm 11) fNil)))))) (sRet (fC (.bool false))) sNil
def lwR : SF := sSeq lwR0 (sSeq lwR1 (sSeq lwR2 lwR3))
def lwG0 : SF := sPar [6, 7] [false, false] (fCons (fOp gAdd (fC (.int 1)) (fCallS F__law_digit 3 (fCons (fC (.int 9)) fNil))) (fCons (fOp gAdd (fC (.int 1)) (fCallS F__law_digit 3 (fCons (fC (.int 9)) fNil))) fNil))
def lwG1 : SF := sAsg (fCallS F__law_motion 3 (fCons (fNm 4) (fCons (fC (.int 6)) fNil))) (tNm 5)
def lwG2 : SF := sFor (fItems (fCall F__law_rows (fCons (fNm 4) (fCons (fNm 6) (fCons (fNm 7) fNil))))) (tTp 3 (tsCons (tNm 8) (tsCons (tNm 9) (tsCons (tNm 10) tsNil)))) lwR
def lwG : SF := sSeq lwG0 (sSeq lwG1 lwG2)
def lwC0 : SF := sOwn (fCall F__law_draw (fCons (fNm 2) (fCons (fNm 1) fNil))) 3
def lwC1 : SF := sFor (fItems (fTup (fCons (fC (.str "square")) (fCons (fC (.str "six")) fNil)))) (tNm 4) lwG
def lwC : SF := sSeq lwC0 lwC1
def lwE : SF := sRet (fOp gEq (fCall F_group_by (fCons (fC (.str "square")) (fCons (fTup (fCons (fTup (fCons (fC (.int 1)) (fCons (fTup (fCons (fC (.int 0)) (fCons (fC (.int 0)) fNil))) fNil))) (fCons (fTup (fCons (fC (.int 0)) (fCons (fTup (fCons (fC (.int 2)) (fCons (fC (.int 0)) fNil))) fNil))) fNil))) fNil))) (fTup (fCons (fC (.str "square")) (fCons (fTup (fCons (fC (.int 2)) (fCons (fC (.int 0)) (fCons (fC (.int 2)) fNil)))) (fCons (fBlt gTuple (fCons (fComp [13] (fRng (fCons (fC (.int 4)) fNil)) (tNm 13) tYes' (fTup (fCons (fNm 13) (fCons (fTup (fCons (fC (.int 0)) (fCons (fC (.int 0)) fNil))) fNil)))) fNil)) fNil)))))
theorem lw_eq : g_law = sSeq (sFor (cellsF 1) (tTp 2 (tsCons (tNm 1) (tsCons (tNm 2) tsNil))) lwC) lwE := rfl
section
variable {s0 s1 s2 s3 s4 s5 s6 s7 s8 s9 s10 s11 s12 s13 : Sl}
theorem one_row {g : Str} (h : gS g) {b : Mo} (hb : b.1 < MM g) (bb : bx 6 b.2) {d : PyData} (R : Row g d) : ∃ ρ1 t8 t9 t10 t11 t12,
    (tTp 3 (tsCons (tNm 8) (tsCons (tNm 9) (tsCons (tNm 10) tsNil)))) d [s0, s1, s2, s3, .sh (.str g), .sh (mo b), s6, s7, s8, s9, s10, s11, s12, s13] = some ρ1 ∧ lwR ρ1 = .nx [s0, s1, s2, s3, .sh (.str g), .sh (mo b), s6, s7, t8, t9, t10, t11, t12, s13] := by
  obtain ⟨ms, c, n, p, q, r, ps, rfl, v, G, hm, ec, en, e1⟩ := R
  obtain ⟨p', q', r', ps', G', ar, e2⟩ := moved_group_ok (W := 12) h v G hm ⟨hb, bb.n1 (by decide), bb.n2 (by decide)⟩ (by decide) (by decide) (nb_bx bb)
  have v' := vm_cj h v hb
  have a1 := area_of_ok h v G hm
  have a2 := area_of_ok h v' G' (by omega)
  have l := G.len_moved h v hb G'
  rw [l, ar] at a2
  have m1 := mulOk_l (i := p) (j := r) (by have := (IsGrp.ol G hm).pb; have := G.p0; omega)
  have m2 := mulOk_l (i := p') (j := r') (by have := (IsGrp.ol G' (by omega)).pb; have := G'.p0; omega)
  have x1 := ix_g1 g p q r ps
  have x2 := ix_g2 g p q r ps
  have x3 := dct_g g p q r ps
  have x4 := ix_l0 p q r
  have x5 := ix_l2 p q r
  have x6 := len_ps ps
  have y1 := ix_g1 g p' q' r' ps'
  have y2 := ix_g2 g p' q' r' ps'
  have y3 := dct_g g p' q' r' ps'
  have y4 := ix_l0 p' q' r'
  have y5 := ix_l2 p' q' r'
  have y6 := len_ps ps'
  rw [l] at y6
  have na := gNe_self (sh_area (p * r) (ps.length : Nat))
  rw [ec] at a1 a2 na
  rw [en] at a1 a2 na x6 y6
  refine ⟨[s0, s1, s2, s3, .sh (.str g), .sh (mo b), s6, s7, .sh (.list (ms.map mo)), .sh (.int c), .sh (.int n), s11, s12, s13], .sh (.list (ms.map mo)), .sh (.int c), .sh (.int n), .sh (grp g p q r ps), .sh (grp g p' q' r' ps'), rfl, ?_⟩
  have e3 : p' * r' = c := by omega
  unfold lwR lwR0 lwR1 lwR2 lwR3
  generalize areaD c n = AR at *
  generalize mo b = B at *
  generalize ms.map mo = M at *
  generalize ps.map mo = P at *
  generalize ps'.map mo = P' at *
  generalize grp g p q r ps = GG at *
  generalize grp g p' q' r' ps' = GG' at *
  generalize lat p q r = L at *
  generalize lat p' q' r' = L' at *
  simp (decide := true) [e1, e2, a1, a2, m1, m2, x1, x2, x3, x4, x5, x6, y1, y2, y3, y4, y5, y6, na, ec, e3]
theorem all_rows {g : Str} (h : gS g) {b : Mo} (hb : b.1 < MM g) (bb : bx 6 b.2) {rows : List PyData} (R : ∀ d ∈ rows, Row g d) : ∃ ρ' t8 t9 t10 t11 t12, forF (tTp 3 (tsCons (tNm 8) (tsCons (tNm 9) (tsCons (tNm 10) tsNil)))) lwR rows [s0, s1, s2, s3, .sh (.str g), .sh (mo b), s6, s7, s8, s9, s10, s11, s12, s13] = .nx ρ' ∧ ρ' = [s0, s1, s2, s3, .sh (.str g), .sh (mo b), s6, s7, t8, t9, t10, t11, t12, s13] := by
  obtain ⟨ρ', e, t8, t9, t10, t11, t12, rfl⟩ := for_L (enc := id) (g := tTp 3 (tsCons (tNm 8) (tsCons (tNm 9) (tsCons (tNm 10) tsNil)))) (b := lwR) (I := fun _ ρ => ∃ t8 t9 t10 t11 t12, ρ = [s0, s1, s2, s3, .sh (.str g), .sh (mo b), s6, s7, t8, t9, t10, t11, t12, s13]) (xs := rows) (as := []) (ρ := [s0, s1, s2, s3, .sh (.str g), .sh (mo b), s6, s7, s8, s9, s10, s11, s12, s13]) (fun as' x rest ρ ha hI => by
    obtain ⟨t8, t9, t10, t11, t12, rfl⟩ := hI
    obtain ⟨ρ1, u8, u9, u10, u11, u12, e1, e2⟩ := one_row (s0 := s0) (s1 := s1) (s2 := s2) (s3 := s3) (s6 := s6) (s7 := s7) (s8 := t8) (s9 := t9) (s10 := t10) (s11 := t11) (s12 := t12) (s13 := s13) h hb bb (R x (by rw [List.nil_append] at ha; rw [ha]; simp))
    exact ⟨ρ1, _, e1, .inl e2, u8, u9, u10, u11, u12, rfl⟩) ⟨_, _, _, _, _, rfl⟩
  rw [List.map_id] at e
  exact ⟨_, t8, t9, t10, t11, t12, e, rfl⟩
theorem one_grid {g : Str} (h : gS g) {B : Int} {d : PyData} (S : St B d) (hB : B < 1500000) : ∃ d' t5 t6 t7 t8 t9 t10 t11 t12, St (B + 20) d' ∧ lwG [s0, s1, s2, .ow d, .sh (.str g), s5, s6, s7, s8, s9, s10, s11, s12, s13] = .nx [s0, s1, s2, .ow d', .sh (.str g), t5, t6, t7, t8, t9, t10, t11, t12, s13] := by
  obtain ⟨w, d1, e1, w0, w1, S1⟩ := digS S 9 (by decide) (by decide) (by omega)
  obtain ⟨u, d2, e2, u0, u1, S2⟩ := digS S1 9 (by decide) (by decide) (by omega)
  obtain ⟨b, d3, e3, hb, bb, S3⟩ := motionS h S2 6 (by decide) (by decide) (by omega)
  obtain ⟨rows, e4, R⟩ := rows_ok h (w := 1 + w) (u := 1 + u) (by omega) (by omega)
  obtain ⟨ρ', t8, t9, t10, t11, t12, e5, rfl⟩ := all_rows (s0 := s0) (s1 := s1) (s2 := s2) (s3 := .ow d3) (s6 := .sh (.int (1 + w))) (s7 := .sh (.int (1 + u))) (s8 := s8) (s9 := s9) (s10 := s10) (s11 := s11) (s12 := s12) (s13 := s13) h hb bb R
  refine ⟨d3, .sh (mo b), .sh (.int (1 + w)), .sh (.int (1 + u)), t8, t9, t10, t11, t12, S3.mono (by omega), ?_⟩
  unfold lwG lwG0 lwG1 lwG2
  generalize mo b = BB at *
  simp (decide := true) [e1, e2, e3, e4, e5]
theorem plain (ns : List Int) : F_law [.list (ns.map PyData.int)] = .ok (.bool true) := by
  let I : En → Prop := fun ρ => ∃ t1 t2 t3 t4 t5 t6 t7 t8 t9 t10 t11 t12, ρ = [.sh (.list (ns.map PyData.int)), t1, t2, t3, t4, t5, t6, t7, t8, t9, t10, t11, t12, .un]
  obtain ⟨ρ', hI, e⟩ := law_cells (I := I) 1 (by decide) ns (b := lwC) (g := tTp 2 (tsCons (tNm 1) (tsCons (tNm 2) tsNil))) (r := [.un, .un, .un, .un, .un, .un, .un, .un, .un, .un, .un, .un, .un]) (fun k x ρ hk hI => by
    obtain ⟨t1, t2, t3, t4, t5, t6, t7, t8, t9, t10, t11, t12, rfl⟩ := hI
    obtain ⟨d0, e0, S0⟩ := drawS x (k : Int) (by omega) (by omega)
    obtain ⟨d1, v5, v6, v7, v8, v9, v10, v11, v12, S1, e1⟩ := one_grid (s0 := .sh (.list (ns.map PyData.int))) (s1 := .sh (.int (k : Int))) (s2 := .sh (.int x)) (s5 := t5) (s6 := t6) (s7 := t7) (s8 := t8) (s9 := t9) (s10 := t10) (s11 := t11) (s12 := t12) (s13 := .un) (g := "square") (.inl rfl) S0 (by decide)
    obtain ⟨d2, u5, u6, u7, u8, u9, u10, u11, u12, S2, e2⟩ := one_grid (s0 := .sh (.list (ns.map PyData.int))) (s1 := .sh (.int (k : Int))) (s2 := .sh (.int x)) (s5 := v5) (s6 := v6) (s7 := v7) (s8 := v8) (s9 := v9) (s10 := v10) (s11 := v11) (s12 := v12) (s13 := .un) (g := "six") (.inr rfl) S1 (by decide)
    refine ⟨[.sh (.list (ns.map PyData.int)), .sh (.int (k : Int)), .sh (.int x), t3, t4, t5, t6, t7, t8, t9, t10, t11, t12, .un], [.sh (.list (ns.map PyData.int)), .sh (.int (k : Int)), .sh (.int x), .ow d2, .sh (.str "six"), u5, u6, u7, u8, u9, u10, u11, u12, .un], rfl, .inl ?_, _, _, _, _, _, _, _, _, _, _, _, _, rfl⟩
    unfold lwC lwC0 lwC1
    simp (decide := true) [e0, forF, e1, e2]) ⟨_, _, _, _, _, _, _, _, _, _, _, _, rfl⟩
  obtain ⟨t1, t2, t3, t4, t5, t6, t7, t8, t9, t10, t11, t12, rfl⟩ := hI
  have G : IsGrp "square" [(1, (0, 0)), (0, (2, 0))] 2 0 2 [(0, (0, 0)), (1, (0, 0)), (2, (0, 0)), (3, (0, 0))] := isGrpX_ok (.inl rfl) (fun m hm => by
    simp only [List.mem_cons, List.not_mem_nil, or_false] at hm
    rcases hm with rfl | rfl <;> (show _ < 8; decide)) (by decide +kernel)
  have v : VM "square" [(1, (0, 0)), (0, (2, 0))] := fun m hm => by
    simp only [List.mem_cons, List.not_mem_nil, or_false] at hm
    rcases hm with rfl | rfl <;> (show _ < 8; decide)
  have okm : ∀ m ∈ ([(1, (0, 0)), (0, (2, 0))] : List Mo), okM "square" m ∧ nb "square" 4 m.2 := fun m hm => by
    simp only [List.mem_cons, List.not_mem_nil, or_false] at hm
    rcases hm with rfl | rfl
    · exact ⟨⟨by show _ < 8; decide, by unfold near; decide, by unfold near; decide⟩, nb_bx (W := 2) (by unfold bx; decide)⟩
    · exact ⟨⟨by show _ < 8; decide, by unfold near; decide, by unfold near; decide⟩, nb_bx (W := 2) (by unfold bx; decide)⟩
  obtain ⟨p, q, r, ps, G', _, e2⟩ := grp_of (W := 4) (g := "square") (.inl rfl) (fun m hm => (okm m hm).1) (by decide) (by decide) (by decide) (fun m hm => (okm m hm).2) (s := (2, 0)) (t := (0, 2)) ((G.lat _).mpr ⟨1, 0, by decide⟩) ((G.lat _).mpr ⟨0, 1, by decide⟩) (by decide) (by decide)
  obtain ⟨rfl, rfl, rfl, rfl⟩ := G'.uniq (.inl rfl) v v G fun m => Iff.rfl
  have e3 : F_group_by [.str "square", .tuple [.tuple [.int 1, .tuple [.int 0, .int 0]], .tuple [.int 0, .tuple [.int 2, .int 0]]]] = .ok (.tuple [.str "square", .tuple [.int 2, .int 0, .int 2], .tuple [.tuple [.int 0, .tuple [.int 0, .int 0]], .tuple [.int 1, .tuple [.int 0, .int 0]], .tuple [.int 2, .tuple [.int 0, .int 0]], .tuple [.int 3, .tuple [.int 0, .int 0]]]]) := e2
  have e4 : gEq (.tuple [.str "square", .tuple [.int 2, .int 0, .int 2], .tuple [.tuple [.int 0, .tuple [.int 0, .int 0]], .tuple [.int 1, .tuple [.int 0, .int 0]], .tuple [.int 2, .tuple [.int 0, .int 0]], .tuple [.int 3, .tuple [.int 0, .int 0]]]]) (.tuple [.str "square", .tuple [.int 2, .int 0, .int 2], .tuple [.tuple [.int 0, .tuple [.int 0, .int 0]], .tuple [.int 1, .tuple [.int 0, .int 0]], .tuple [.int 2, .tuple [.int 0, .int 0]], .tuple [.int 3, .tuple [.int 0, .int 0]]]]) = some (.bool true) := by kernel_rfl
  have er : rngOf [.int 4] = some [.int 0, .int 1, .int 2, .int 3] := rfl
  have st : (Y.start n_law [.list (ns.map PyData.int)]) = [.sh (.list (ns.map PyData.int)), .un, .un, .un, .un, .un, .un, .un, .un, .un, .un, .un, .un, .un] := rfl
  unfold F_law fnR
  rw [lw_eq, st, ap_sSeq, show sFor (cellsF 1) (tTp 2 (tsCons (tNm 1) (tsCons (tNm 2) tsNil))) lwC _ = _ from e]
  show outR (lwE _) = _
  unfold lwE
  generalize ns.map PyData.int = NS at *
  simp (decide := true) [e3, e4, er, compF, outR]
end
end K11


theorem PySem.Challenge.cw_patternwright_k11_whole_known_groups_by_holds : PySem.Challenge.rw_patternwright_k11_whole_known_groups_by.Holds := by
  exact K11.holds_of fun ns _ => K11.plain ns
