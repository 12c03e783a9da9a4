import PyProof.Rows.All
import Wide.All
import OpenK.AllK
import Wide.FinOn
import PySem.Challenge.RW_patternwright_k14_whole_charts
import HandS.ForMost
import HandS.ForExc
import HandS.Lambda
import HandS.EndTab
import HandS.TryMany
import HandS.ExcInit
import HandS.Deep
import HandS.IsInst
import HandS.Conv
import HandS.TupAny
import HandS.TupMul
import HandS.Wide
import HandS.Gcd
import KE.DataCmp
import HandS.Style
import HandS.Rev
import HandS.Iter
import HandS.Star
import KE.SortData
import PyProof.ReprRoads
import PyProof.CallFns
import PyProof.Rows.ChunkLeaf
import HandS.Text
import HandS.Dict
import HandS.NoneIn
import KE.GoesMore
import PyProof.EnumMake
import HandS.ExcValue
import HandS.ExcField
import KE.KExcInit
import PyProof.ExcBaseAll.OverflowError
import PyProof.ExcBaseAll.LookupError
import KE.KDflt
import KE.KExcIs
import HandS.ExcIs
import HandS.TupSets
import PyProof.SeqIndex
import HandS.HeadHook4
import HandS.Head2
import HandS.NestedK
import HandS.Words
import KE.KStateDown
import HandS.WordsExc
import HandS.Defaults
import HandS.Head0
import HandS.Head1
import HandS.Head3
import HandS.HeadEnd
set_option Elab.async false
set_option linter.all false
set_option maxRecDepth 100000
set_option maxHeartbeats 4000000
/-! YBase: data trees over the hand layer: what a value is, in a frozen part of the heap; the slots of a frame by data; results. -/
namespace Y
open PySem PySem.Spec PyProof.Rows L2

abbrev St := L2.St
/-! ### results -/
inductive R (α : Type) where
  | ok (a : α)
  | er (c : Str) (d : PyData)
  | no
def R.bind {α β : Type} (r : R α) (f : α → R β) : R β := match r with
  | .ok a => f a
  | .er c d => .er c d
  | .no => .no
instance : Monad R where
  pure := R.ok
  bind := R.bind
def R.sat {α : Type} (r : R α) (P : α → Prop) (E : Str → PyData → Prop) : Prop := match r with
  | .ok a => P a
  | .er c d => E c d
  | .no => False
theorem R.sat_bind {α β : Type} {r : R α} {f : α → R β} {P : β → Prop} {E : Str → PyData → Prop} (h : (r.bind f).sat P E) : r.sat (fun a => (f a).sat P E) E := by
  cases r with
  | ok a => exact h
  | er c d => exact h
  | no => exact h
theorem R.sat.imp {α : Type} {r : R α} {P P' : α → Prop} {E : Str → PyData → Prop} (h : r.sat P E) (k : ∀ a, P a → P' a) : r.sat P' E := by
  cases r with
  | ok a => exact k a h
  | er c d => exact h
  | no => exact h

/-! ### data in a heap -/
def kD : Key → PyData
  | .inl i => .int i
  | .inr s => .str s
/-- an exception object that was caught: of the class cls, its dict at dx -/
def ExF (a : Addr) (cls : Value) (dx : Addr) : HO := .ext fun h => ∃ (oe : Obj) (vs : Array Value), h.get? a = some oe ∧ Zc cls (some dx) oe ∧ oe.data = .fields vs
theorem exF_ok {P : Program} {w : World} {H : Hp} {h : Heap} {a dx : Addr} {cls : Value} {oe : Obj} {vs : Array Value} (e : h.get? a = some oe) (z : Zc cls (some dx) oe) (d : oe.data = .fields vs) : ObjOk P w H h a (ExF a cls dx) :=
  ⟨⟨oe, vs, e, z, d⟩, ⟨oe, e⟩, fun _ _ ⟨o, v, q, r⟩ k => ⟨o, v, k o q, r⟩⟩
/-- the class of a name -/
def clsOf (K : PySem.W.Frag) (c : Str) : Option Addr := (K.find? fun p => match p.2.data with
  | .cls cd => decide (cd.name = c)
  | _ => false).map (·.1)
/-- the field of an error -/
def fld (c : Str) : Str :=
  if c = "TooMany" then "most"
  else if c ∈ (["BadGroup", "BadPattern", "BadTile", "BadTiles", "BadWeave", "BadBand", "BadText", "BadPaper", "BadDeed", "BadWord"] : List String).map Str.ofString then "place"
  else "value"
/-- an error as data: its class's name, its field -/
def excD (c : Str) (d : PyData) : PyData := .dict [(.none, .str c), (.none, d)]
mutual
inductive Tr (K : PySem.W.Frag) (G : Hp) : V → PyData → Prop
  | non : Tr K G .non .none
  | bl (b : Bool) : Tr K G (.bl b) (.bool b)
  | int (i : Int) : Tr K G (.int i) (.int i)
  | str (x : Str) : Tr K G (.str x) (.str x)
  | lst {a : Addr} {xs : List V} {ds : List PyData} : Rd G a (.lst xs) → TrAll K G xs ds → Tr K G (.ref a) (.list ds)
  | tup {a : Addr} {xs : List V} {ds : List PyData} : Rd G a (.tup xs) → TrAll K G xs ds → Tr K G (.ref a) (.tuple ds)
  | dK {a : Addr} {kvs : List (Key × V)} {es : List (PyData × PyData)} : Rd G a (.dK kvs) → TrKV K G kvs es → Tr K G (.ref a) (.dict es)
  | exc {a dx C : Addr} {c : Str} {v : V} {d : PyData} : G a = some (ExF a (.ref C) dx) → clsOf K c = some C → G dx = some (.xd [(fld c, v)]) → Tr K G v d → Tr K G (.ref a) (.dict [(.none, .str c), (.none, d)])
inductive TrAll (K : PySem.W.Frag) (G : Hp) : List V → List PyData → Prop
  | nil : TrAll K G [] []
  | cons {v : V} {vs : List V} {d : PyData} {ds : List PyData} : Tr K G v d → TrAll K G vs ds → TrAll K G (v :: vs) (d :: ds)
inductive TrKV (K : PySem.W.Frag) (G : Hp) : List (Key × V) → List (PyData × PyData) → Prop
  | nil : TrKV K G [] []
  | cons {k : Key} {v : V} {vs : List (Key × V)} {d : PyData} {ds : List (PyData × PyData)} : Tr K G v d → TrKV K G vs ds → TrKV K G ((k, v) :: vs) ((kD k, d) :: ds)
end
def Sub (G G' : Hp) : Prop := ∀ b o, G b = some o → G' b = some o
theorem Sub.refl (G : Hp) : Sub G G := fun _ _ h => h
theorem Sub.trans {G G1 G2 : Hp} (a : Sub G G1) (b : Sub G1 G2) : Sub G G2 := fun c o h => b c o (a c o h)
theorem Sub.new {G : Hp} {p : Addr} {o : HO} (h : G p = none) : Sub G (upd G p o) := fun b u e => by rw [upd_ne (ne_of_none e h)]; exact e
theorem Sub.l {K : PySem.W.Frag} {G G' : Hp} {a : Addr} {xs : List V} (s : Sub G G') (h : SqL K G a xs) : SqL K G' a xs := by
  rcases h with (h | ⟨o, h⟩) | h
  · exact .inl (.inl (s _ _ h))
  · exact .inl (.inr ⟨o, s _ _ h⟩)
  · exact .inr h
theorem Sub.rd {G G' : Hp} {a : Addr} {u : HO} (s : Sub G G') (h : Rd G a u) : Rd G' a u := by
  rcases h with h | ⟨o, h⟩
  · exact .inl (s _ _ h)
  · exact .inr ⟨o, s _ _ h⟩
theorem Sub.t {K : PySem.W.Frag} {G G' : Hp} {a : Addr} {xs : List V} (s : Sub G G') (h : SqT K G a xs) : SqT K G' a xs := by
  rcases h with (h | ⟨o, h⟩) | h
  · exact .inl (.inl (s _ _ h))
  · exact .inl (.inr ⟨o, s _ _ h⟩)
  · exact .inr h
mutual
theorem Tr.mono {K : PySem.W.Frag} {G G' : Hp} (s : Sub G G') : ∀ {v : V} {d : PyData}, Tr K G v d → Tr K G' v d
  | _, _, .non => .non
  | _, _, .bl b => .bl b
  | _, _, .int i => .int i
  | _, _, .str x => .str x
  | _, _, .lst h t => .lst (s.rd h) (TrAll.mono s t)
  | _, _, .tup h t => .tup (s.rd h) (TrAll.mono s t)
  | _, _, .dK h t => .dK (s.rd h) (TrKV.mono s t)
  | _, _, .exc h n x t => .exc (s _ _ h) n (s _ _ x) (Tr.mono s t)
theorem TrAll.mono {K : PySem.W.Frag} {G G' : Hp} (s : Sub G G') : ∀ {v : List V} {d : List PyData}, TrAll K G v d → TrAll K G' v d
  | _, _, .nil => .nil
  | _, _, .cons h t => .cons (Tr.mono s h) (TrAll.mono s t)
theorem TrKV.mono {K : PySem.W.Frag} {G G' : Hp} (s : Sub G G') : ∀ {v : List (Key × V)} {d : List (PyData × PyData)}, TrKV K G v d → TrKV K G' v d
  | _, _, .nil => .nil
  | _, _, .cons h t => .cons (Tr.mono s h) (TrKV.mono s t)
end
theorem TrAll.length {K : PySem.W.Frag} {G : Hp} : ∀ {vs : List V} {ds : List PyData}, TrAll K G vs ds → vs.length = ds.length
  | _, _, .nil => rfl
  | _, _, .cons _ t => by rw [List.length_cons, List.length_cons, TrAll.length t]
theorem TrAll.get {K : PySem.W.Frag} {G : Hp} : ∀ {vs : List V} {ds : List PyData} {i : Nat} {d : PyData}, TrAll K G vs ds → ds[i]? = some d → ∃ v, vs[i]? = some v ∧ Tr K G v d
  | _, _, _, _, .nil, e => by simp at e
  | _, _, 0, _, .cons h _, e => by simp at e; subst e; exact ⟨_, rfl, h⟩
  | _, _, i + 1, _, .cons _ t, e => by
    obtain ⟨v, h1, h2⟩ := TrAll.get (i := i) t (by simpa using e)
    exact ⟨v, by simpa using h1, h2⟩
theorem TrAll.append {K : PySem.W.Frag} {G : Hp} : ∀ {vs ws : List V} {ds es : List PyData}, TrAll K G vs ds → TrAll K G ws es → TrAll K G (vs ++ ws) (ds ++ es)
  | _, _, _, _, .nil, s => s
  | _, _, _, _, .cons h t, s => .cons h (TrAll.append t s)
theorem TrAll.take {K : PySem.W.Frag} {G : Hp} : ∀ {vs : List V} {ds : List PyData} (n : Nat), TrAll K G vs ds → TrAll K G (vs.take n) (ds.take n)
  | _, _, 0, _ => .nil
  | _, _, _ + 1, .nil => .nil
  | _, _, n + 1, .cons h t => .cons h (TrAll.take n t)
theorem TrAll.drop {K : PySem.W.Frag} {G : Hp} : ∀ {vs : List V} {ds : List PyData} (n : Nat), TrAll K G vs ds → TrAll K G (vs.drop n) (ds.drop n)
  | _, _, 0, t => t
  | _, _, _ + 1, .nil => .nil
  | _, _, n + 1, .cons h t => TrAll.drop n t
theorem sqt {K : PySem.W.Frag} {G : Hp} {a : Addr} {xs : List V} (h : Rd G a (.tup xs)) : SqT K G a xs := .inl h
/-- the code tables; the module's constants -/
structure YT where
  t : List (Addr × Str)
  c : List (V × PyData)
/-! as Tr, of what the module holds: each tuple a known object without a dict of its own -/
mutual
inductive TrF (K : PySem.W.Frag) (G : Hp) : V → PyData → Prop
  | non : TrF K G .non .none
  | bl (b : Bool) : TrF K G (.bl b) (.bool b)
  | int (i : Int) : TrF K G (.int i) (.int i)
  | str (x : Str) : TrF K G (.str x) (.str x)
  | tup {a : Addr} {o : Obj} {xs : List V} {ds : List PyData} : G a = some (.frz o (.tup xs)) → o.dict = none → TrFAll K G xs ds → TrF K G (.ref a) (.tuple ds)
  | dK {a : Addr} {kvs : List (Key × V)} {es : List (PyData × PyData)} : Rd G a (.dK kvs) → TrFKV K G kvs es → TrF K G (.ref a) (.dict es)
inductive TrFAll (K : PySem.W.Frag) (G : Hp) : List V → List PyData → Prop
  | nil : TrFAll K G [] []
  | cons {v : V} {vs : List V} {d : PyData} {ds : List PyData} : TrF K G v d → TrFAll K G vs ds → TrFAll K G (v :: vs) (d :: ds)
inductive TrFKV (K : PySem.W.Frag) (G : Hp) : List (Key × V) → List (PyData × PyData) → Prop
  | nil : TrFKV K G [] []
  | cons {k : Key} {v : V} {vs : List (Key × V)} {d : PyData} {ds : List (PyData × PyData)} : TrF K G v d → TrFKV K G vs ds → TrFKV K G ((k, v) :: vs) ((kD k, d) :: ds)
end
mutual
theorem TrF.tr {K : PySem.W.Frag} {G : Hp} : ∀ {v : V} {d : PyData}, TrF K G v d → Tr K G v d
  | _, _, .non => .non
  | _, _, .bl b => .bl b
  | _, _, .int i => .int i
  | _, _, .str x => .str x
  | _, _, .tup h _ t => .tup (.inr ⟨_, h⟩) (TrFAll.tr t)
  | _, _, .dK h t => .dK h (TrFKV.tr t)
theorem TrFAll.tr {K : PySem.W.Frag} {G : Hp} : ∀ {v : List V} {d : List PyData}, TrFAll K G v d → TrAll K G v d
  | _, _, .nil => .nil
  | _, _, .cons h t => .cons (TrF.tr h) (TrFAll.tr t)
theorem TrFKV.tr {K : PySem.W.Frag} {G : Hp} : ∀ {v : List (Key × V)} {d : List (PyData × PyData)}, TrFKV K G v d → TrKV K G v d
  | _, _, .nil => .nil
  | _, _, .cons h t => .cons (TrF.tr h) (TrFKV.tr t)
end
mutual
theorem TrF.mono {K : PySem.W.Frag} {G G' : Hp} (s : Sub G G') : ∀ {v : V} {d : PyData}, TrF K G v d → TrF K G' v d
  | _, _, .non => .non
  | _, _, .bl b => .bl b
  | _, _, .int i => .int i
  | _, _, .str x => .str x
  | _, _, .tup h n t => .tup (s _ _ h) n (TrFAll.mono s t)
  | _, _, .dK h t => .dK (s.rd h) (TrFKV.mono s t)
theorem TrFAll.mono {K : PySem.W.Frag} {G G' : Hp} (s : Sub G G') : ∀ {v : List V} {d : List PyData}, TrFAll K G v d → TrFAll K G' v d
  | _, _, .nil => .nil
  | _, _, .cons h t => .cons (TrF.mono s h) (TrFAll.mono s t)
theorem TrFKV.mono {K : PySem.W.Frag} {G G' : Hp} (s : Sub G G') : ∀ {v : List (Key × V)} {d : List (PyData × PyData)}, TrFKV K G v d → TrFKV K G' v d
  | _, _, .nil => .nil
  | _, _, .cons h t => .cons (TrF.mono s h) (TrFKV.mono s t)
end
/-- the module's constants are at hand -/
def Cst (K : PySem.W.Frag) (T : YT) (G : Hp) : Prop := ∀ p ∈ T.c, TrF K G p.1 p.2
theorem Cst.mono {K : PySem.W.Frag} {T : YT} {G G' : Hp} (c : Cst K T G) (s : Sub G G') : Cst K T G' := fun p hp => (c p hp).mono s
def Base (K : PySem.W.Frag) (T : YT) (G H : Hp) : Prop := LamX.Tabs T.t H ∧ Cst K T G
/-! no dict within -/
mutual
def flat : PyData → Bool
  | .list xs => flatAll xs
  | .tuple xs => flatAll xs
  | .dict _ => false
  | _ => true
def flatAll : List PyData → Bool
  | [] => true
  | x :: xs => flat x && flatAll xs
end
mutual
theorem Tr.dp {K : PySem.W.Frag} {G : Hp} : ∀ {v : V} {d : PyData}, flat d = true → Tr K G v d → Dp K G v d
  | _, _, _, .non => .non
  | _, _, _, .bl b => .bl b
  | _, _, _, .int i => .int i
  | _, _, _, .str x => .str x
  | _, _, f, .lst h t => .lst (.inl h) (TrAll.dp (by simpa [flat] using f) t)
  | _, _, f, .tup h t => .tup (.inl h) (TrAll.dp (by simpa [flat] using f) t)
  | _, _, f, .dK _ _ => absurd f (by simp [flat])
  | _, _, f, .exc _ _ _ _ => absurd f (by simp [flat])
theorem TrAll.dp {K : PySem.W.Frag} {G : Hp} : ∀ {v : List V} {d : List PyData}, flatAll d = true → TrAll K G v d → DpAll K G v d
  | _, _, _, .nil => .nil
  | _, _, f, .cons h t => by
    simp only [flatAll, Bool.and_eq_true] at f
    exact .cons (Tr.dp f.1 h) (TrAll.dp f.2 t)
end

/-! ### growing -/
/-- from (G, H) to (G', H'): G is what is frozen, H what is tracked; but io's addresses and the code tables, nothing that stood is changed; what is newly frozen is new -/
structure Grow (T : YT) (io : List Addr) (G H G' H' : Hp) : Prop where
  sub : ∀ b o, G' b = some o → H' b = some o ∧ ∀ ps, o ≠ .tbl ps
  gm : Sub G G'
  hm : ∀ b o, H b = some o → b ∉ io → (∀ ps, o ≠ .tbl ps) → H' b = some o
  hs : ∀ b, H b ≠ none → H' b ≠ none
  gn : ∀ b, G' b ≠ none → H b ≠ none → G b ≠ none
  tb : LamX.Tabs T.t H → LamX.Tabs T.t H'
section
variable {T : YT} {io : List Addr} {G H G1 H1 G2 H2 : Hp} {p : Addr} {o : HO}
theorem Grow.refl (h : ∀ b o, G b = some o → H b = some o ∧ ∀ ps, o ≠ .tbl ps) : Grow T io G H G H :=
  ⟨h, Sub.refl G, fun _ _ e _ _ => e, fun _ e => e, fun _ e _ => e, fun t => t⟩
theorem Grow.trans (a : Grow T io G H G1 H1) (b : Grow T io G1 H1 G2 H2) : Grow T io G H G2 H2 :=
  ⟨b.sub, a.gm.trans b.gm, fun c o e n t => b.hm c o (a.hm c o e n t) n t, fun c e => b.hs c (a.hs c e), fun c e h => a.gn c (b.gn c e (a.hs c h)) h, fun t => b.tb (a.tb t)⟩
theorem Grow.weak {jo : List Addr} (a : Grow T io G H G1 H1) (h : ∀ b, b ∈ io → b ∈ jo) : Grow T jo G H G1 H1 :=
  ⟨a.sub, a.gm, fun c o e n t => a.hm c o e (fun z => n (h c z)) t, a.hs, a.gn, a.tb⟩
theorem none_of_sub (h : ∀ b o, G b = some o → H b = some o ∧ ∀ ps, o ≠ .tbl ps) (hp : H p = none) : G p = none := by
  cases e : G p with
  | none => rfl
  | some u => rw [(h p u e).1] at hp; cases hp
/-- a new object, frozen -/
theorem Grow.new (h : ∀ b o, G b = some o → H b = some o ∧ ∀ ps, o ≠ .tbl ps) (hp : H p = none) (ho : ∀ ps, o ≠ .tbl ps) : Grow T io G H (upd G p o) (upd H p o) := by
  have gp := none_of_sub h hp
  refine ⟨fun b u e => ?_, Sub.new gp, fun b u e _ _ => ?_, fun b e => ?_, fun b e hb => ?_, fun t => t.ext fun b u e => ?_⟩
  · by_cases hb : b = p
    · subst hb; rw [upd_same] at e; cases e; exact ⟨upd_same, ho⟩
    · rw [upd_ne hb] at e ⊢; exact h b u e
  · rw [upd_ne (ne_of_none e hp)]; exact e
  · by_cases hb : b = p
    · subst hb; rw [upd_same]; simp
    · rw [upd_ne hb]; exact e
  · by_cases hb2 : b = p
    · subst hb2; exact absurd hp hb
    · rw [upd_ne hb2] at e; exact e
  · rw [upd_ne (ne_of_none e hp)]; exact e
/-- a new object, not frozen -/
theorem Grow.newO (h : ∀ b o, G b = some o → H b = some o ∧ ∀ ps, o ≠ .tbl ps) (hp : H p = none) : Grow T io G H G (upd H p o) := by
  have gp := none_of_sub h hp
  refine ⟨fun b u e => ?_, Sub.refl G, fun b u e _ _ => ?_, fun b e => ?_, fun b e hb => e, fun t => t.ext fun b u e => ?_⟩
  · have hb : b ≠ p := fun z => by rw [z, gp] at e; cases e
    rw [upd_ne hb]; exact h b u e
  · rw [upd_ne (ne_of_none e hp)]; exact e
  · by_cases hb : b = p
    · subst hb; rw [upd_same]; simp
    · rw [upd_ne hb]; exact e
  · rw [upd_ne (ne_of_none e hp)]; exact e
/-- what stands already is frozen -/
theorem Grow.freeze (h : ∀ b o, G b = some o → H b = some o ∧ ∀ ps, o ≠ .tbl ps) (hp : H p = some o) (ho : ∀ ps, o ≠ .tbl ps) : (∀ b u, upd G p o b = some u → H b = some u ∧ ∀ ps, u ≠ .tbl ps) := fun b u e => by
  by_cases hb : b = p
  · subst hb; rw [upd_same] at e; cases e; exact ⟨hp, ho⟩
  · rw [upd_ne hb] at e; exact h b u e
end

/-! ### a frame's slots, by data -/
inductive Sl where
  | un
  | sh (d : PyData)
  | ow (d : PyData)
  | io (d : PyData)
  /-- the function that was handed in -/
  | lam
abbrev En := List Sl
/-- the entry: what was frozen and tracked, the addresses that may be changed, the tables -/
structure Ent where
  T : YT
  io : List Addr
  G : Hp
  H : Hp
  lam : Addr := 0
/-- at a: an object of one's own with this content -/
inductive Own (K : PySem.W.Frag) (G H : Hp) (a : Addr) : PyData → Prop
  | lst {vs : List V} {ds : List PyData} : H a = some (.lst vs) → TrAll K G vs ds → Own K G H a (.list ds)
  | dK {kvs : List (Key × V)} {es : List (PyData × PyData)} : H a = some (.dK kvs) → TrKV K G kvs es → Own K G H a (.dict es)
/-- the address of one's own object in a slot -/
def adr (s : Sl) (v : Option (Option V)) (a : Addr) : Prop := match s with
  | .ow _ => v = some (some (.ref a))
  | .io _ => v = some (some (.ref a))
  | _ => False
def SlOk (K : PySem.W.Frag) (B : Ent) (G H : Hp) (v : Option (Option V)) : Sl → Prop
  | .un => True
  | .sh d => ∃ x, v = some (some x) ∧ Tr K G x d
  | .ow d => ∃ a, v = some (some (.ref a)) ∧ G a = none ∧ B.H a = none ∧ Own K G H a d
  | .io d => ∃ a, v = some (some (.ref a)) ∧ G a = none ∧ a ∈ B.io ∧ Own K G H a d
  | .lam => v = some (some (.ref B.lam))
structure Rel (K : PySem.W.Frag) (B : Ent) (G H : Hp) (σ : St) (ρ : En) : Prop where
  bd : Grow B.T B.io B.G B.H G H
  len : σ.length = ρ.length
  at_ : ∀ (i : Nat) s, ρ[i]? = some s → SlOk K B G H σ[i]? s
  sep : ∀ (i j : Nat) s t a, i ≠ j → ρ[i]? = some s → ρ[j]? = some t → adr s σ[i]? a → adr t σ[j]? a → False
section
variable {K : PySem.W.Frag} {B : Ent} {G H G' H' : Hp} {σ : St} {ρ : En} {a : Addr} {d : PyData}
theorem Own.nt (h : Own K G H a d) : ∃ o, H a = some o ∧ ∀ ps, o ≠ .tbl ps := by
  cases h with
  | lst h _ => exact ⟨_, h, fun _ z => nomatch z⟩
  | dK h _ => exact ⟨_, h, fun _ z => nomatch z⟩
theorem Own.keep (h : Own K G H a d) (s : Sub G G') (e : ∀ o, H a = some o → H' a = some o) : Own K G' H' a d := by
  cases h with
  | lst h t => exact .lst (e _ h) (t.mono s)
  | dK h t => exact .dK (e _ h) (t.mono s)
theorem Rel.sub (r : Rel K B G H σ ρ) : ∀ b o, G b = some o → H b = some o ∧ ∀ ps, o ≠ .tbl ps := r.bd.sub
theorem Rel.subG (r : Rel K B G H σ ρ) : Sub G H := fun b o e => (r.bd.sub b o e).1
theorem Rel.ownOf (r : Rel K B G H σ ρ) {i : Nat} {s : Sl} (h : ρ[i]? = some s) {a : Addr} (e : adr s σ[i]? a) : G a = none ∧ (B.H a = none ∨ a ∈ B.io) ∧ ∃ d, (s = .ow d ∨ s = .io d) ∧ Own K G H a d ∧ σ[i]? = some (some (.ref a)) := by
  have q := r.at_ i s h
  cases s with
  | un => exact e.elim
  | sh d => exact e.elim
  | ow d =>
    obtain ⟨b, e1, e2, e3, e4⟩ := q
    have e : σ[i]? = some (some (.ref a)) := e
    rw [e1] at e; cases e
    exact ⟨e2, .inl e3, d, .inl rfl, e4, e1⟩
  | io d =>
    obtain ⟨b, e1, e2, e3, e4⟩ := q
    have e : σ[i]? = some (some (.ref a)) := e
    rw [e1] at e; cases e
    exact ⟨e2, .inr e3, d, .inr rfl, e4, e1⟩
  | lam => exact e.elim
/-- the heap grows -/
theorem Rel.step (r : Rel K B G H σ ρ) (g : Grow B.T [] G H G' H') : Rel K B G' H' σ ρ := by
  have own : ∀ {a d}, G a = none → Own K G H a d → G' a = none ∧ Own K G' H' a d := fun {a d} n w => by
    obtain ⟨o, ho, ht⟩ := w.nt
    refine ⟨?_, w.keep g.gm fun u hu => g.hm a u hu (by simp) (by rw [ho] at hu; cases hu; exact ht)⟩
    cases e : G' a with
    | none => rfl
    | some u => exact absurd n (g.gn a (by rw [e]; simp) (by rw [ho]; simp))
  refine ⟨r.bd.trans (g.weak (by simp)), r.len, fun i s h => ?_, r.sep⟩
  have q := r.at_ i s h
  cases s with
  | un => trivial
  | sh d => obtain ⟨x, e, t⟩ := q; exact ⟨x, e, t.mono g.gm⟩
  | ow d => obtain ⟨a, e, n, z, w⟩ := q; exact ⟨a, e, (own n w).1, z, (own n w).2⟩
  | io d => obtain ⟨a, e, n, z, w⟩ := q; exact ⟨a, e, (own n w).1, z, (own n w).2⟩
  | lam => exact q
/-- a slot set to a shared value -/
theorem Rel.setSh (r : Rel K B G H σ ρ) {i : Nat} {v : V} (t : Tr K G v d) : Rel K B G H (σ.set i (some v)) (ρ.set i (.sh d)) := by
  refine ⟨r.bd, by simp [r.len], fun j s h => ?_, fun j k s u b n hj hk ej ek => ?_⟩
  · by_cases hji : i = j
    · subst hji
      have hi : i < ρ.length := by
        have := (List.getElem?_eq_some_iff.mp h).1
        simpa using this
      rw [List.getElem?_set_self hi] at h
      cases h
      rw [List.getElem?_set_self (by rw [r.len]; exact hi)]
      exact ⟨v, rfl, t⟩
    · rw [List.getElem?_set_ne hji] at h ⊢
      exact r.at_ j s h
  · have key : ∀ {j : Nat} {s : Sl}, (ρ.set i (.sh d))[j]? = some s → adr s (σ.set i (some v))[j]? b → i ≠ j := fun {j s} h e z => by
      subst z
      have hi : i < ρ.length := by
        have := (List.getElem?_eq_some_iff.mp h).1
        simpa using this
      rw [List.getElem?_set_self hi] at h
      cases h
      exact e
    have n1 := key hj ej
    have n2 := key hk ek
    rw [List.getElem?_set_ne n1] at hj ej
    rw [List.getElem?_set_ne n2] at hk ek
    exact r.sep j k s u b n hj hk ej ek
/-- a slot's knowledge is forgotten -/
theorem Rel.setUn (r : Rel K B G H σ ρ) {i : Nat} {v : Option V} : Rel K B G H (σ.set i v) (ρ.set i .un) := by
  refine ⟨r.bd, by simp [r.len], fun j s h => ?_, fun j k s u b n hj hk ej ek => ?_⟩
  · by_cases hji : i = j
    · subst hji
      have hi : i < ρ.length := by
        have := (List.getElem?_eq_some_iff.mp h).1
        simpa using this
      rw [List.getElem?_set_self hi] at h
      cases h
      trivial
    · rw [List.getElem?_set_ne hji] at h ⊢
      exact r.at_ j s h
  · have key : ∀ {j : Nat} {s : Sl}, (ρ.set i .un)[j]? = some s → adr s (σ.set i v)[j]? b → i ≠ j := fun {j s} h e z => by
      subst z
      have hi : i < ρ.length := by
        have := (List.getElem?_eq_some_iff.mp h).1
        simpa using this
      rw [List.getElem?_set_self hi] at h
      cases h
      exact e
    have n1 := key hj ej
    have n2 := key hk ek
    rw [List.getElem?_set_ne n1] at hj ej
    rw [List.getElem?_set_ne n2] at hk ek
    exact r.sep j k s u b n hj hk ej ek
/-- only the knowledge of a slot is forgotten -/
theorem Rel.forget (r : Rel K B G H σ ρ) {i : Nat} : Rel K B G H σ (ρ.set i .un) := by
  refine ⟨r.bd, by simp [r.len], fun j s h => ?_, fun j k s u b n hj hk ej ek => ?_⟩
  · by_cases hji : i = j
    · subst hji
      have hi : i < ρ.length := by
        have := (List.getElem?_eq_some_iff.mp h).1
        simpa using this
      rw [List.getElem?_set_self hi] at h
      cases h
      trivial
    · rw [List.getElem?_set_ne hji] at h
      exact r.at_ j s h
  · have key : ∀ {j : Nat} {s : Sl}, (ρ.set i .un)[j]? = some s → adr s σ[j]? b → i ≠ j := fun {j s} h e z => by
      subst z
      have hi : i < ρ.length := by
        have := (List.getElem?_eq_some_iff.mp h).1
        simpa using this
      rw [List.getElem?_set_self hi] at h
      cases h
      exact e
    have n1 := key hj ej
    have n2 := key hk ek
    rw [List.getElem?_set_ne n1] at hj
    rw [List.getElem?_set_ne n2] at hk
    exact r.sep j k s u b n hj hk ej ek
/-- a slot set to a new object of one's own -/
theorem Rel.setOw (r : Rel K B G H σ ρ) {i : Nat} {p : Addr} (gp : G p = none) (hp : B.H p = none) (w : Own K G H p d) (ap : ∀ (j : Nat) s, ρ[j]? = some s → adr s σ[j]? p → False) :
    Rel K B G H (σ.set i (some (.ref p))) (ρ.set i (.ow d)) := by
  refine ⟨r.bd, by simp [r.len], fun j s h => ?_, fun j k s u b n hj hk ej ek => ?_⟩
  · by_cases hji : i = j
    · subst hji
      have hi : i < ρ.length := by
        have := (List.getElem?_eq_some_iff.mp h).1
        simpa using this
      rw [List.getElem?_set_self hi] at h
      cases h
      rw [List.getElem?_set_self (by rw [r.len]; exact hi)]
      exact ⟨p, rfl, gp, hp, w⟩
    · rw [List.getElem?_set_ne hji] at h ⊢
      exact r.at_ j s h
  · have key : ∀ {j : Nat} {s : Sl}, (ρ.set i (.ow d))[j]? = some s → adr s (σ.set i (some (.ref p)))[j]? b → (i = j ∧ b = p) ∨ (i ≠ j ∧ ρ[j]? = some s ∧ adr s σ[j]? b) := fun {j s} h e => by
      by_cases z : i = j
      · subst z
        have hi : i < ρ.length := by
          have := (List.getElem?_eq_some_iff.mp h).1
          simpa using this
        rw [List.getElem?_set_self hi] at h
        cases h
        rw [List.getElem?_set_self (by rw [r.len]; exact hi)] at e
        cases e
        exact .inl ⟨rfl, rfl⟩
      · rw [List.getElem?_set_ne z] at h e
        exact .inr ⟨z, h, e⟩
    rcases key hj ej with ⟨e1, e2⟩ | ⟨n1, h1, e1⟩
    · rcases key hk ek with ⟨e3, _⟩ | ⟨n2, h2, e3⟩
      · exact n (e1.symm.trans e3)
      · subst e2; exact ap k u h2 e3
    · rcases key hk ek with ⟨_, e3⟩ | ⟨n2, h2, e3⟩
      · subst e3; exact ap j s h1 e1
      · exact r.sep j k s u b n h1 h2 e1 e3
end
end Y


/-! YExpr: expressions by data. -/
namespace Y
open PySem PySem.Spec PyProof.Rows L2
/-- an expression's function: from the slots to the value and the slots -/
abbrev EF := En → R (PyData × En)
abbrev AF := En → R (List PyData × En)
abbrev TF := En → R (Bool × En)
abbrev OkX := Str → PyData → Prop
def noX : OkX := fun _ _ => False

/-- no slot holds the object at p -/
def Free (σ : St) (ρ : En) (p : Addr) : Prop := ∀ (j : Nat) s, ρ[j]? = some s → adr s σ[j]? p → False
/-- what an expression leaves: what is frozen stays so; a loose object stays as it is, and loose -/
structure Adv (σ : St) (G H : Hp) (ρ : En) (G' H' : Hp) (ρ' : En) : Prop where
  sub : Sub G G'
  hs : ∀ b, H b ≠ none → H' b ≠ none
  loose : ∀ p o, H p = some o → G p = none → (∀ ps, o ≠ .tbl ps) → Free σ ρ p → H' p = some o ∧ G' p = none ∧ Free σ ρ' p
theorem Adv.refl {σ : St} {G H : Hp} {ρ : En} : Adv σ G H ρ G H ρ := ⟨Sub.refl G, fun _ h => h, fun _ _ h g _ f => ⟨h, g, f⟩⟩
theorem Adv.trans {σ : St} {G H G1 H1 G2 H2 : Hp} {ρ ρ1 ρ2 : En} (a : Adv σ G H ρ G1 H1 ρ1) (b : Adv σ G1 H1 ρ1 G2 H2 ρ2) : Adv σ G H ρ G2 H2 ρ2 :=
  ⟨a.sub.trans b.sub, fun c h => b.hs c (a.hs c h), fun p o h g t f => let ⟨h1, g1, f1⟩ := a.loose p o h g t f; b.loose p o h1 g1 t f1⟩
theorem Adv.grow {T : YT} {σ : St} {G H G1 H1 : Hp} {ρ : En} (g : Grow T [] G H G1 H1) : Adv σ G H ρ G1 H1 ρ :=
  ⟨g.gm, g.hs, fun p o h n t f => ⟨g.hm p o h (by simp) t, by
    cases e : G1 p with
    | none => rfl
    | some u => exact absurd n (g.gn p (by rw [e]; simp) (by rw [h]; simp)), f⟩⟩
theorem Adv.pre {σ : St} {G H G1 H1 : Hp} {ρ ρ1 : En} {p : Addr} (a : Adv σ G H ρ G1 H1 ρ1) (h : H1 p = none) : H p = none := by
  cases e : H p with
  | none => rfl
  | some u => exact absurd h (a.hs p (by rw [e]; simp))
/-- the value is frozen -/
structure EE (X : Cx) (B : Ent) (ok : OkX) (e : Expr) (f : EF) : Prop where
  ex : ∃ t : TE, PE X e t ∧ ∀ (σ : St) (H G : Hp) (ρ : En) (Q : VK), Rel X.K B G H σ ρ →
    (f ρ).sat (fun r => ∀ v H' G', Adv σ G H ρ G' H' r.2 → Rel X.K B G' H' σ r.2 → Tr X.K G' v r.1 → Q v H') ok → t σ H Q
/-- a new object -/
structure Fresh (K : PySem.W.Frag) (B : Ent) (G H : Hp) (σ : St) (ρ : En) (p : Addr) (d : PyData) : Prop where
  g : G p = none
  b : B.H p = none
  own : Own K G H p d
  ap : ∀ (j : Nat) s, ρ[j]? = some s → adr s σ[j]? p → False
/-- the value is a new object of one's own -/
structure EN (X : Cx) (B : Ent) (ok : OkX) (e : Expr) (f : EF) : Prop where
  ex : ∃ t : TE, PE X e t ∧ ∀ (σ : St) (H G : Hp) (ρ : En) (Q : VK), Rel X.K B G H σ ρ →
    (f ρ).sat (fun r => ∀ p H' G', H p = none → Adv σ G H ρ G' H' r.2 → Rel X.K B G' H' σ r.2 → Fresh X.K B G' H' σ r.2 p r.1 → Q (.ref p) H') ok → t σ H Q
structure ET (X : Cx) (B : Ent) (ok : OkX) (e : Expr) (f : TF) : Prop where
  ex : ∃ t : TT, PT X e t ∧ ∀ (σ : St) (H G : Hp) (ρ : En) (Q : Bool → Hp → Prop), Rel X.K B G H σ ρ →
    (f ρ).sat (fun r => ∀ H' G', Adv σ G H ρ G' H' r.2 → Rel X.K B G' H' σ r.2 → Q r.1 H') ok → t σ H Q
structure EW (X : Cx) (B : Ent) (ok : OkX) (e : Expr) (f : TF) : Prop where
  ex : ∃ t : TT, PW X e t ∧ ∀ (σ : St) (H G : Hp) (ρ : En) (Q : Bool → Hp → Prop), Rel X.K B G H σ ρ →
    (f ρ).sat (fun r => ∀ H' G', Adv σ G H ρ G' H' r.2 → Rel X.K B G' H' σ r.2 → Q r.1 H') ok → t σ H Q
structure EA (X : Cx) (B : Ent) (ok : OkX) (es : List Expr) (f : AF) : Prop where
  len : ∀ ρ r, f ρ = .ok r → r.1.length = es.length
  ex : ∃ t : TA, PA X es t ∧ ∀ (σ : St) (H G : Hp) (ρ : En) (Q : List V → Hp → Prop), Rel X.K B G H σ ρ →
    (f ρ).sat (fun r => ∀ vs H' G', Adv σ G H ρ G' H' r.2 → Rel X.K B G' H' σ r.2 → TrAll X.K G' vs r.1 → Q vs H') ok → t σ H Q

section
variable {X : Cx} {B : Ent} {ok : OkX} {a b c e : Expr} {es : List Expr} {fa fb fc f : EF} {fs : AF} {ta tb : TF} {pos : Pos}
/-- a new object is frozen -/
theorem Rel.frz {K : PySem.W.Frag} {G H : Hp} {σ : St} {ρ : En} {p : Addr} {d : PyData} (r : Rel K B G H σ ρ) (x : Fresh K B G H σ ρ p d) : ∃ G', Sub G G' ∧ (∀ q, q ≠ p → G' q = G q) ∧ Rel K B G' H σ ρ ∧ Tr K G' (.ref p) d := by
  obtain ⟨o, ho, ht⟩ := x.own.nt
  have s1 : Sub G (upd G p o) := Sub.new x.g
  refine ⟨upd G p o, s1, fun q hq => upd_ne hq, ⟨⟨Grow.freeze r.sub ho ht, r.bd.gm.trans s1, r.bd.hm, r.bd.hs, fun b e h => ?_, r.bd.tb⟩, r.len, fun i s h => ?_, r.sep⟩, ?_⟩
  · by_cases hb : b = p
    · subst hb; exact absurd x.b h
    · rw [upd_ne hb] at e; exact r.bd.gn b e h
  · have q := r.at_ i s h
    cases s with
    | un => trivial
    | lam => exact q
    | sh d => obtain ⟨y, e, t⟩ := q; exact ⟨y, e, t.mono s1⟩
    | ow d =>
      obtain ⟨a, e, n, z, w⟩ := q
      have np : a ≠ p := fun z => x.ap i _ h (by subst z; exact e)
      exact ⟨a, e, by rw [upd_ne np]; exact n, z, w.keep s1 fun o e => e⟩
    | io d =>
      obtain ⟨a, e, n, z, w⟩ := q
      have np : a ≠ p := fun z => x.ap i _ h (by subst z; exact e)
      exact ⟨a, e, by rw [upd_ne np]; exact n, z, w.keep s1 fun o e => e⟩
  · cases x.own with
    | lst h t => rw [ho] at h; cases h; exact .lst (.inl upd_same) (t.mono s1)
    | dK h t => rw [ho] at h; cases h; exact .dK (.inl upd_same) (t.mono s1)
theorem EN.ee (h : EN X B ok e f) : EE X B ok e f := by
  obtain ⟨t, p, k⟩ := h.ex
  refine ⟨t, p, fun σ H G ρ Q r q => k σ H G ρ Q r (q.imp fun z g p H' G' hp s1 r1 x => ?_)⟩
  obtain ⟨G2, s2, e2, r2, t2⟩ := r1.frz x
  refine g _ _ _ ⟨s1.sub.trans s2, s1.hs, fun q o h n t f => ?_⟩ r2 t2
  obtain ⟨h1, g1, f1⟩ := s1.loose q o h n t f
  exact ⟨h1, by rw [e2 q (ne_of_none h hp)]; exact g1, f1⟩
/-! ### names, constants -/
def getSh (ρ : En) (i : Nat) : R PyData := match ρ[i]? with
  | some (.sh d) => .ok d
  | _ => .no
def fVar (i : Nat) : EF := fun ρ => (getSh ρ i).bind fun d => .ok (d, ρ)
theorem getSh_sat {ρ : En} {i : Nat} {P : PyData → Prop} {E : OkX} (h : (getSh ρ i).sat P E) : ∃ d, ρ[i]? = some (.sh d) ∧ P d := by
  unfold getSh at h
  split at h
  · exact ⟨_, by assumption, h⟩
  · exact h.elim
theorem ee_var (i : Nat) {x : Str} (hN : X.N[i]? = some x := by rfl) (hv : Vis X.env.scope x := by first | exact Or.inl rfl | exact Or.inr (Or.inl rfl) | exact Or.inr (Or.inr rfl)) (hd : (x == ("__debug__" : Str)) = false := by decide)
    (hcd : (x == ("__classdict__" : Str)) = false := by decide) : EE X B ok (.Name x pos) (fVar i) := by
  refine ⟨_, pe_var hN hv hd hcd, fun σ H G ρ Q r q => ?_⟩
  obtain ⟨d, e, q⟩ := getSh_sat (R.sat_bind (r := getSh ρ i) (f := fun d => R.ok (d, ρ)) q)
  obtain ⟨v, e1, t⟩ := r.at_ i _ e
  exact ⟨v, e1, q v H G Adv.refl r t⟩
def fC (d : PyData) : EF := fun ρ => .ok (d, ρ)
theorem ee_c {v : V} {d : PyData} (h : PE X e (tC v)) (t : ∀ G, Tr X.K G v d) : EE X B ok e (fC d) :=
  ⟨_, h, fun σ H G ρ Q r q => q v H G Adv.refl r (t G)⟩
theorem ee_int {i j} : EE X B ok (.Constant (.int i) j pos) (fC (.int i)) := ee_c pe_int fun _ => .int i
theorem ee_bl {i j} : EE X B ok (.Constant (.bool i) j pos) (fC (.bool i)) := ee_c pe_bl fun _ => .bl i
theorem ee_non {j} : EE X B ok (.Constant .none j pos) (fC .none) := ee_c pe_non fun _ => .non
theorem ee_str {i j} : EE X B ok (.Constant (.str i) j pos) (fC (.str i)) := ee_c pe_str fun _ => .str i
/-- a module's constant -/
def GlC (K : PySem.W.Frag) (T : YT) (mg : Str → Option Value) (x : Str) (d : PyData) : Prop := ∃ u v, mg x = some u ∧ RelV v u ∧ ∀ G, Cst K T G → Tr K G v d
theorem ee_glob {x : Str} {d : PyData} (hc : Cst X.K B.T B.G) (h : GlC X.K B.T X.mg x d) (hg : Gl X x := by rfl) (hd : (x == ("__debug__" : Str)) = false := by decide) : EE X B ok (.Name x pos) (fC d) := by
  obtain ⟨u, v, h1, h2, h3⟩ := h
  exact ⟨_, pe_glob hg h1 h2 hd, fun σ H G ρ Q r q => q v H G Adv.refl r (h3 G (hc.mono r.bd.gm))⟩
/-! ### operators -/
/-- an operation of two values, by data; it may lay new objects -/
def RD (T : YT) (K : PySem.W.Frag) (r : R2) (g : PyData → PyData → Option PyData) : Prop :=
  ∀ (G H : Hp) (x y : V) (dx dy d : PyData) (Q : VK), (∀ b o, G b = some o → H b = some o ∧ ∀ ps, o ≠ .tbl ps) → Tr K G x dx → Tr K G y dy → g dx dy = some d →
    (∀ v H' G', Grow T [] G H G' H' → Tr K G' v d → Q v H') → r x y H Q
def OpD (X : Cx) (T : YT) (F : Value → Value → Sem Value) (g : PyData → PyData → Option PyData) : Prop := ∃ r, OpR X F r ∧ RD T X.K r g
def ofO {α : Type} : Option α → R α
  | some a => .ok a
  | none => .no
theorem ofO_sat {α : Type} {o : Option α} {P : α → Prop} {E : OkX} (h : (ofO o).sat P E) : ∃ a, o = some a ∧ P a := by
  cases o with
  | some a => exact ⟨a, rfl, h⟩
  | none => exact h.elim
def fOp (g : PyData → PyData → Option PyData) (fa fb : EF) : EF := fun ρ => (fa ρ).bind fun x => (fb x.2).bind fun y => (ofO (g x.1 y.1)).bind fun d => .ok (d, y.2)
theorem two_ok {fa fb : EF} {g : PyData → PyData → Option PyData} {ta tb : TE} (ka : ∀ (σ : St) (H G : Hp) (ρ : En) (Q : VK), Rel X.K B G H σ ρ → (fa ρ).sat (fun r => ∀ v H' G', Adv σ G H ρ G' H' r.2 → Rel X.K B G' H' σ r.2 → Tr X.K G' v r.1 → Q v H') ok → ta σ H Q)
    (kb : ∀ (σ : St) (H G : Hp) (ρ : En) (Q : VK), Rel X.K B G H σ ρ → (fb ρ).sat (fun r => ∀ v H' G', Adv σ G H ρ G' H' r.2 → Rel X.K B G' H' σ r.2 → Tr X.K G' v r.1 → Q v H') ok → tb σ H Q) {r : R2} (hr : RD B.T X.K r g)
    {σ : St} {H G : Hp} {ρ : En} {Q : VK} (h : Rel X.K B G H σ ρ) (q : (fOp g fa fb ρ).sat (fun r => ∀ v H' G', Adv σ G H ρ G' H' r.2 → Rel X.K B G' H' σ r.2 → Tr X.K G' v r.1 → Q v H') ok) : tOp r ta tb σ H Q := by
  refine ka σ H G ρ _ h ((R.sat_bind (r := fa ρ) (f := fun x => (fb x.2).bind fun y => (ofO (g x.1 y.1)).bind fun d => R.ok (d, y.2)) q).imp fun x qx v1 H1 G1 s1 r1 t1 => ?_)
  refine kb σ H1 G1 x.2 _ r1 ((R.sat_bind (r := fb x.2) (f := fun y => (ofO (g x.1 y.1)).bind fun d => R.ok (d, y.2)) qx).imp fun y qy v2 H2 G2 s2 r2 t2 => ?_)
  obtain ⟨d, e, qd⟩ := ofO_sat (R.sat_bind (r := ofO (g x.1 y.1)) (f := fun d => R.ok (d, y.2)) qy)
  exact hr G2 H2 v1 v2 x.1 y.1 d Q r2.sub (t1.mono s2.sub) t2 e fun v H' G' g t => qd v H' G' ((s1.trans s2).trans (Adv.grow g)) (r2.step g) t
theorem ee_op {op : Operator} {g : PyData → PyData → Option PyData} (ho : OpD X B.T (binaryOp op) g) (ha : EE X B ok a fa) (hb : EE X B ok b fb) : EE X B ok (.BinOp a op b pos) (fOp g fa fb) := by
  obtain ⟨r, h1, h2⟩ := ho
  obtain ⟨ta, pa, ka⟩ := ha.ex
  obtain ⟨tb, pb, kb⟩ := hb.ex
  exact ⟨_, pe_op h1 pa pb, fun σ H G ρ Q h q => two_ok ka kb h2 h q⟩
theorem ee_cmp {op : CmpOp} {g : PyData → PyData → Option PyData} (ho : OpD X B.T (compareOp op) g) (ha : EE X B ok a fa) (hb : EE X B ok b fb) (hm : behindInMarks op b = false := by rfl) : EE X B ok (.Compare a [op] [b] pos) (fOp g fa fb) := by
  obtain ⟨r, h1, h2⟩ := ho
  obtain ⟨ta, pa, ka⟩ := ha.ex
  obtain ⟨tb, pb, kb⟩ := hb.ex
  exact ⟨_, pe_cmpR h1 pa pb hm, fun σ H G ρ Q h q => two_ok ka kb h2 h q⟩
/-- a bool's test -/
def asB : PyData → Option Bool
  | .bool b => some b
  | _ => none
def fB (f : EF) : TF := fun ρ => (f ρ).bind fun x => (ofO (asB x.1)).bind fun k => .ok (k, x.2)
theorem asB_tr {K : PySem.W.Frag} {G : Hp} {v : V} {d : PyData} {k : Bool} (t : Tr K G v d) (h : asB d = some k) : v = .bl k := by
  cases t <;> simp [asB] at h
  subst h; rfl
theorem fB_sat {f : EF} {ρ : En} {P : Bool × En → Prop} {E : OkX} (h : (fB f ρ).sat P E) : (f ρ).sat (fun x => ∃ k, asB x.1 = some k ∧ P (k, x.2)) E := by
  refine (R.sat_bind (r := f ρ) (f := fun x => (ofO (asB x.1)).bind fun k => R.ok (k, x.2)) h).imp fun x q => ?_
  exact ofO_sat (R.sat_bind (r := ofO (asB x.1)) (f := fun k => R.ok (k, x.2)) q)
theorem et_cmp {op : CmpOp} {g : PyData → PyData → Option PyData} (ho : OpD X B.T (compareOp op) g) (ha : EE X B ok a fa) (hb : EE X B ok b fb) (hm : behindInMarks op b = false := by rfl) : ET X B ok (.Compare a [op] [b] pos) (fB (fOp g fa fb)) := by
  obtain ⟨r, h1, h2⟩ := ho
  obtain ⟨ta, pa, ka⟩ := ha.ex
  obtain ⟨tb, pb, kb⟩ := hb.ex
  refine ⟨_, pt_cmpR h1 pa pb hm, fun σ H G ρ Q h q => two_ok (g := g) ka kb h2 h ((fB_sat q).imp fun x ⟨k, e, qk⟩ v H' G' s' r' t' => ?_)⟩
  exact ⟨k, asB_tr t' e, qk H' G' s' r'⟩
/-- a bool's expression as a test -/
theorem et_val (h : EE X B ok e f) (he : ∀ whole, isTrue e X.env whole = (do let v ← whole; standAt e.pos; holding [v] (truthy v)) := by intro _; rfl) : ET X B ok e (fB f) := by
  obtain ⟨t, p, k⟩ := h.ex
  refine ⟨_, pt_val p he, fun σ H G ρ Q r q => k σ H G ρ _ r ((fB_sat q).imp fun x ⟨k, e, qk⟩ v H' G' s' r' t' => ?_)⟩
  exact ⟨k, asB_tr t' e, qk H' G' s' r'⟩
/-! ### and, or, not, if -/
def fAnd (s t : TF) : TF := fun ρ => (s ρ).bind fun x => if x.1 = true then t x.2 else .ok (false, x.2)
def fOr (s t : TF) : TF := fun ρ => (s ρ).bind fun x => if x.1 = true then .ok (true, x.2) else t x.2
def fNot (s : TF) : TF := fun ρ => (s ρ).bind fun x => .ok (!x.1, x.2)
theorem ew_and1 (h : ET X B ok a ta) : EW X B ok (.BoolOp .And [a] pos) ta := by
  obtain ⟨t, p, k⟩ := h.ex
  exact ⟨t, pw_and1 p, k⟩
theorem ew_or1 (h : ET X B ok a ta) : EW X B ok (.BoolOp .Or [a] pos) ta := by
  obtain ⟨t, p, k⟩ := h.ex
  exact ⟨t, pw_or1 p, k⟩
theorem ew_and {rest : List Expr} (ha : ET X B ok a ta) (hb : EW X B ok (.BoolOp .And (b :: rest) pos) tb) : EW X B ok (.BoolOp .And (a :: b :: rest) pos) (fAnd ta tb) := by
  obtain ⟨t, p, k⟩ := ha.ex
  obtain ⟨u, p2, k2⟩ := hb.ex
  refine ⟨_, pw_and p p2, fun σ H G ρ Q r q => k σ H G ρ _ r ((R.sat_bind (r := ta ρ) (f := fun x => if x.1 = true then tb x.2 else R.ok (false, x.2)) q).imp fun x qx H1 G1 s1 r1 => ?_)⟩
  by_cases hx : x.1 = true
  · rw [if_pos hx] at qx ⊢
    exact k2 σ H1 G1 x.2 _ r1 (qx.imp fun y qy H2 G2 s2 r2 => qy H2 G2 (s1.trans s2) r2)
  · rw [if_neg hx] at qx ⊢
    exact qx H1 G1 s1 r1
theorem ew_or {rest : List Expr} (ha : ET X B ok a ta) (hb : EW X B ok (.BoolOp .Or (b :: rest) pos) tb) : EW X B ok (.BoolOp .Or (a :: b :: rest) pos) (fOr ta tb) := by
  obtain ⟨t, p, k⟩ := ha.ex
  obtain ⟨u, p2, k2⟩ := hb.ex
  refine ⟨_, pw_or p p2, fun σ H G ρ Q r q => k σ H G ρ _ r ((R.sat_bind (r := ta ρ) (f := fun x => if x.1 = true then R.ok (true, x.2) else tb x.2) q).imp fun x qx H1 G1 s1 r1 => ?_)⟩
  by_cases hx : x.1 = true
  · rw [if_pos hx] at qx ⊢
    exact qx H1 G1 s1 r1
  · rw [if_neg hx] at qx ⊢
    exact k2 σ H1 G1 x.2 _ r1 (qx.imp fun y qy H2 G2 s2 r2 => qy H2 G2 (s1.trans s2) r2)
theorem ew_t (h : EW X B ok e ta) : ET X B ok e ta := by
  obtain ⟨t, p, k⟩ := h.ex
  exact ⟨t, p.pt, k⟩
theorem et_not (h : ET X B ok a ta) : ET X B ok (.UnaryOp .Not a pos) (fNot ta) := by
  obtain ⟨t, p, k⟩ := h.ex
  exact ⟨_, pt_not p, fun σ H G ρ Q r q => k σ H G ρ _ r (R.sat_bind (r := ta ρ) (f := fun x : Bool × En => R.ok (!x.1, x.2)) q)⟩
def fAndV (fa fb : EF) : EF := fun ρ => (fB fa ρ).bind fun x => if x.1 = true then fb x.2 else .ok (.bool false, x.2)
def fOrV (fa fb : EF) : EF := fun ρ => (fB fa ρ).bind fun x => if x.1 = true then .ok (.bool true, x.2) else fb x.2
def fNotV (fa : EF) : EF := fun ρ => (fB fa ρ).bind fun x => .ok (.bool (!x.1), x.2)
theorem ee_one {op} (h : EE X B ok a fa) : EE X B ok (.BoolOp op [a] pos) fa := by
  obtain ⟨t, p, k⟩ := h.ex
  exact ⟨t, pe_one p, k⟩
theorem ee_and {rest : List Expr} (ha : EE X B ok a fa) (hb : EE X B ok (.BoolOp .And (b :: rest) pos) fb) : EE X B ok (.BoolOp .And (a :: b :: rest) pos) (fAndV fa fb) := by
  obtain ⟨t, p, k⟩ := ha.ex
  obtain ⟨u, p2, k2⟩ := hb.ex
  refine ⟨_, pe_and p p2, fun σ H G ρ Q r q => k σ H G ρ _ r ((fB_sat (R.sat_bind (r := fB fa ρ) (f := fun x : Bool × En => if x.1 = true then fb x.2 else R.ok (PyData.bool false, x.2)) q)).imp fun x ⟨c, ec, qx⟩ v H1 G1 s1 r1 t1 => ?_)⟩
  refine ⟨c, asB_tr t1 ec, ?_⟩
  cases c with
  | true => exact k2 σ H1 G1 x.2 _ r1 (R.sat.imp qx fun y qy v H2 G2 s2 r2 t2 => qy v H2 G2 (s1.trans s2) r2 t2)
  | false => exact qx (.bl false) H1 G1 s1 r1 (.bl false)
theorem ee_or {rest : List Expr} (ha : EE X B ok a fa) (hb : EE X B ok (.BoolOp .Or (b :: rest) pos) fb) : EE X B ok (.BoolOp .Or (a :: b :: rest) pos) (fOrV fa fb) := by
  obtain ⟨t, p, k⟩ := ha.ex
  obtain ⟨u, p2, k2⟩ := hb.ex
  refine ⟨_, pe_or p p2, fun σ H G ρ Q r q => k σ H G ρ _ r ((fB_sat (R.sat_bind (r := fB fa ρ) (f := fun x : Bool × En => if x.1 = true then R.ok (PyData.bool true, x.2) else fb x.2) q)).imp fun x ⟨c, ec, qx⟩ v H1 G1 s1 r1 t1 => ?_)⟩
  refine ⟨c, asB_tr t1 ec, ?_⟩
  cases c with
  | true => exact qx (.bl true) H1 G1 s1 r1 (.bl true)
  | false => exact k2 σ H1 G1 x.2 _ r1 (R.sat.imp qx fun y qy v H2 G2 s2 r2 t2 => qy v H2 G2 (s1.trans s2) r2 t2)
theorem ee_not (h : EE X B ok a fa) : EE X B ok (.UnaryOp .Not a pos) (fNotV fa) := by
  obtain ⟨t, p, k⟩ := h.ex
  refine ⟨_, pe_not p, fun σ H G ρ Q r q => k σ H G ρ _ r ((fB_sat (R.sat_bind (r := fB fa ρ) (f := fun x : Bool × En => R.ok (PyData.bool (!x.1), x.2)) q)).imp fun x ⟨c, ec, qx⟩ v H1 G1 s1 r1 t1 => ?_)⟩
  exact ⟨c, asB_tr t1 ec, qx _ H1 G1 s1 r1 (.bl _)⟩
/-- a test as a value: not t, where t is a test (truth of anything) -/
def fIf (t : TF) (fa fb : EF) : EF := fun ρ => (t ρ).bind fun x => if x.1 = true then fa x.2 else fb x.2
theorem ee_if (hc : ET X B ok c ta) (ha : EE X B ok a fa) (hb : EE X B ok b fb) : EE X B ok (.IfExp c a b pos) (fIf ta fa fb) := by
  obtain ⟨t, p, k⟩ := hc.ex
  obtain ⟨u, p2, k2⟩ := ha.ex
  obtain ⟨v, p3, k3⟩ := hb.ex
  refine ⟨_, pe_ifExp p p2 p3, fun σ H G ρ Q r q => k σ H G ρ _ r ((R.sat_bind (r := ta ρ) (f := fun x : Bool × En => if x.1 = true then fa x.2 else fb x.2) q).imp fun x qx H1 G1 s1 r1 => ?_)⟩
  by_cases hx : x.1 = true
  · rw [if_pos hx] at qx ⊢
    exact k2 σ H1 G1 x.2 _ r1 (qx.imp fun y qy v H2 G2 s2 r2 t2 => qy v H2 G2 (s1.trans s2) r2 t2)
  · rw [if_neg hx] at qx ⊢
    exact k3 σ H1 G1 x.2 _ r1 (qx.imp fun y qy v H2 G2 s2 r2 t2 => qy v H2 G2 (s1.trans s2) r2 t2)
/-! ### lists of arguments, displays -/
def fNil : AF := fun ρ => .ok ([], ρ)
def fCons (f : EF) (fs : AF) : AF := fun ρ => (f ρ).bind fun x => (fs x.2).bind fun xs => .ok (x.1 :: xs.1, xs.2)
theorem fCons_len {f : EF} {fs : AF} {m : Nat} (hl : ∀ ρ r, fs ρ = .ok r → r.1.length = m) {ρ : En} {r : List PyData × En} (h : fCons f fs ρ = .ok r) : r.1.length = m + 1 := by
  unfold fCons at h
  cases e : f ρ with
  | ok x =>
    rw [e] at h
    cases e2 : fs x.2 with
    | ok y =>
      have h : (fs x.2).bind (fun xs => R.ok (x.1 :: xs.1, xs.2)) = .ok r := h
      rw [e2] at h
      cases h
      rw [List.length_cons, hl _ _ e2]
    | er c d =>
      have h : (fs x.2).bind (fun xs => R.ok (x.1 :: xs.1, xs.2)) = .ok r := h
      rw [e2] at h; cases h
    | no =>
      have h : (fs x.2).bind (fun xs => R.ok (x.1 :: xs.1, xs.2)) = .ok r := h
      rw [e2] at h; cases h
  | er c d => rw [e] at h; cases h
  | no => rw [e] at h; cases h
theorem ea_nil : EA X B ok [] fNil := ⟨fun ρ r h => by cases h; rfl, _, pa_nil, fun σ H G ρ Q r q => q [] H G Adv.refl r .nil⟩
theorem ea_cons (h : EE X B ok e f) (hs : EA X B ok es fs) (he : starEach (e :: es) X.env = (false, eval e X.env) :: starEach es X.env := by rfl) : EA X B ok (e :: es) (fCons f fs) := by
  obtain ⟨t, p, k⟩ := h.ex
  obtain ⟨u, p2, k2⟩ := hs.ex
  refine ⟨fun ρ r h => fCons_len hs.len h, _, pa_cons p p2 he, fun σ H G ρ Q r q => k σ H G ρ _ r ((R.sat_bind (r := f ρ) (f := fun x : PyData × En => (fs x.2).bind fun xs => R.ok (x.1 :: xs.1, xs.2)) q).imp fun x qx v H1 G1 s1 r1 t1 => ?_)⟩
  refine k2 σ H1 G1 x.2 _ r1 ((R.sat_bind (r := fs x.2) (f := fun xs : List PyData × En => R.ok (x.1 :: xs.1, xs.2)) qx).imp fun xs qs vs H2 G2 s2 r2 t2 => ?_)
  exact qs (v :: vs) H2 G2 (s1.trans s2) r2 (.cons (t1.mono s2.sub) t2)
theorem sz1000 {n : Nat} (h : n ≤ 1000) : n ≤ sizeLine := Nat.le_trans h (by decide)
def fTup (fs : AF) : EF := fun ρ => (fs ρ).bind fun x => if x.1.length ≤ 1000 then .ok (.tuple x.1, x.2) else .no
def fLst (fs : AF) : EF := fun ρ => (fs ρ).bind fun x => if x.1.length ≤ 1000 then .ok (.list x.1, x.2) else .no
theorem ite_sat {α : Type} {c : Prop} [Decidable c] {r : R α} {P : α → Prop} {E : OkX} (h : (if c then r else .no).sat P E) : c ∧ r.sat P E := by
  by_cases hc : c
  · rw [if_pos hc] at h; exact ⟨hc, h⟩
  · rw [if_neg hc] at h; exact h.elim
theorem ee_tup {x1} (h : EA X B ok es fs) : EE X B ok (.Tuple es x1 pos) (fTup fs) := by
  obtain ⟨t, p, k⟩ := h.ex
  refine ⟨_, pe_tup p, fun σ H G ρ Q r q => k σ H G ρ _ r ((R.sat_bind (r := fs ρ) (f := fun x : List PyData × En => if x.1.length ≤ 1000 then R.ok (PyData.tuple x.1, x.2) else .no) q).imp fun x qx vs H1 G1 s1 r1 t1 => ?_)⟩
  obtain ⟨hl, qx⟩ := ite_sat qx
  refine ⟨by rw [t1.length]; exact sz1000 hl, fun p hp => ?_⟩
  have g : Grow B.T [] G1 H1 (upd G1 p (.tup vs)) (upd H1 p (.tup vs)) := Grow.new r1.sub hp (fun _ z => nomatch z)
  exact qx _ _ _ (s1.trans (Adv.grow g)) (r1.step g) (.tup (.inl upd_same) (t1.mono g.gm))
theorem fresh_new {K : PySem.W.Frag} {G H : Hp} {σ : St} {ρ : En} {p : Addr} {d : PyData} {o : HO} (r : Rel K B G H σ ρ) (hp : H p = none) (w : Own K G (upd H p o) p d) : Rel K B G (upd H p o) σ ρ ∧ Fresh K B G (upd H p o) σ ρ p d := by
  refine ⟨r.step (Grow.newO r.sub hp), ⟨none_of_sub r.sub hp, ?_, w, fun j s h e => ?_⟩⟩
  · cases e : B.H p with
    | none => rfl
    | some u => exact absurd hp (r.bd.hs p (by rw [e]; simp))
  · obtain ⟨_, _, d', _, w', _⟩ := r.ownOf h e
    obtain ⟨o', ho, _⟩ := w'.nt
    rw [hp] at ho; cases ho
theorem en_lst (h : EA X B ok es fs) : EN X B ok (.List es pos) (fLst fs) := by
  obtain ⟨t, p, k⟩ := h.ex
  refine ⟨_, pe_lst p, fun σ H G ρ Q r q => k σ H G ρ _ r ((R.sat_bind (r := fs ρ) (f := fun x : List PyData × En => if x.1.length ≤ 1000 then R.ok (PyData.list x.1, x.2) else .no) q).imp fun x qx vs H1 G1 s1 r1 t1 => ?_)⟩
  obtain ⟨hl, qx⟩ := ite_sat qx
  refine ⟨by rw [t1.length]; exact sz1000 hl, fun p hp => ?_⟩
  obtain ⟨r2, x2⟩ := fresh_new r1 hp (o := .lst vs) (.lst upd_same t1)
  exact qx p _ _ (s1.pre hp) (s1.trans (Adv.grow (Grow.newO (T := B.T) (io := []) r1.sub hp))) r2 x2
end
end Y


/-! YOps: operators by data. -/
namespace Y
open PySem PySem.Spec PyProof.Rows L2
section
variable {X : Cx} {T : YT}
theorem lim_sz {n : Nat} (h : n ≤ 1000000) : n ≤ sizeLine := Nat.le_trans h (by decide)
theorem sub_of {G H : Hp} (s : ∀ b o, G b = some o → H b = some o ∧ ∀ ps, o ≠ .tbl ps) : Sub G H := fun b o e => (s b o e).1
/-- an operation of two ints -/
def g2I (p : Int → Int → Bool) (g : Int → Int → PyData) : PyData → PyData → Option PyData
  | .int i, .int j => if p i j = true then some (g i j) else none
  | _, _ => none
theorem g2I_inv {p : Int → Int → Bool} {g : Int → Int → PyData} {a b d : PyData} (h : g2I p g a b = some d) : ∃ i j, a = .int i ∧ b = .int j ∧ p i j = true ∧ d = g i j := by
  unfold g2I at h
  split at h
  · rename_i i j
    by_cases hp : p i j = true
    · rw [if_pos hp] at h; cases h; exact ⟨i, j, rfl, rfl, hp, rfl⟩
    · rw [if_neg hp] at h; cases h
  · cases h
theorem opd_2I {F : Value → Value → Sem Value} {p : Int → Int → Bool} {g : Int → Int → PyData} {C : Int → Int → Prop} {gv : Int → Int → V} (o : OpR X F (rI C gv)) (hc : ∀ i j, p i j = true → C i j) (hg : ∀ K G i j, Tr K G (gv i j) (g i j)) : OpD X T F (g2I p g) := by
  refine ⟨_, o, fun G H x y dx dy d Q s tx ty e q => ?_⟩
  obtain ⟨i, j, rfl, rfl, hp, rfl⟩ := g2I_inv e
  cases tx; cases ty
  exact ⟨i, j, rfl, rfl, hc i j hp, q _ H G (Grow.refl s) (hg _ _ i j)⟩
theorem opd_2I0 {F : Value → Value → Sem Value} {g : Int → Int → PyData} {gv : Int → Int → V} (o : OpR X F (rI0 gv)) (hg : ∀ K G i j, Tr K G (gv i j) (g i j)) : OpD X T F (g2I (fun _ _ => true) g) := by
  refine ⟨_, o, fun G H x y dx dy d Q s tx ty e q => ?_⟩
  obtain ⟨i, j, rfl, rfl, hp, rfl⟩ := g2I_inv e
  cases tx; cases ty
  exact ⟨i, j, rfl, rfl, q _ H G (Grow.refl s) (hg _ _ i j)⟩

/-! ### + -/
def rCatR : R2 := fun x y H Q => ∃ l b xs zs, x = V.ref l ∧ y = V.ref b ∧ Rd H l (.lst xs) ∧ Rd H b (.lst zs) ∧ xs.length + zs.length ≤ sizeLine ∧ ∀ p, H p = none → Q (.ref p) (upd H p (.lst (xs ++ zs)))
theorem op_catR : OpR X (binaryOp .Add) rCatR := by
  intro pins s σ H x y v u Q I rx ry h
  obtain ⟨l, b, xs, zs, rfl, rfl, h1, h2, hz, q⟩ := h
  obtain rfl : v = Value.ref l := rx
  obtain rfl : u = Value.ref b := ry
  obtain ⟨_, i1, n1, v1, e1⟩ := h1.ok I.hok
  obtain ⟨_, i2, n2, v2, e2⟩ := h2.ok I.hok
  refine PySem.P.add_list e1 e2 ?_ (by have := v1.length; have := v2.length; simp; omega)
  rw [show i1.toArray ++ i2.toArray = (i1 ++ i2).toArray by simp]
  exact ⟨.ref s.heap.objs.size, _, I.lnew (t' := s.toks) (v1.append v2) (by simpa using hz), rfl, q _ I.fresh⟩
def gAdd : PyData → PyData → Option PyData
  | .int i, .int j => some (.int (i + j))
  | .str x, .str y => if x.length + y.length ≤ 1000000 then some (.str (x ++ y)) else none
  | .tuple xs, .tuple ys => if xs.length + ys.length ≤ 1000000 then some (.tuple (xs ++ ys)) else none
  | .list xs, .list ys => if xs.length + ys.length ≤ 1000000 then some (.list (xs ++ ys)) else none
  | _, _ => none
theorem opd_add : OpD X T (binaryOp .Add) gAdd := by
  refine ⟨_, op_add.or (op_add_str.or (op_catA.or op_catR)), fun G H x y dx dy d Q s tx ty e q => ?_⟩
  unfold gAdd at e
  split at e
  · cases e; cases tx; cases ty
    exact .inl ⟨_, _, rfl, rfl, q _ H G (Grow.refl s) (.int _)⟩
  · split at e
    · cases e; cases tx; cases ty
      exact .inr (.inl ⟨_, _, rfl, rfl, lim_sz (by assumption), q _ H G (Grow.refl s) (.str _)⟩)
    · cases e
  · split at e
    · cases e
      cases tx with | tup ha ta =>
      cases ty with | tup hb tb =>
      rename_i a vs b ws
      refine .inr (.inr (.inl ⟨_, _, vs, ws, rfl, rfl, sqt ((sub_of s).rd ha), sqt ((sub_of s).rd hb), by rw [ta.length, tb.length]; exact lim_sz (by assumption), fun z => ?_, fun _ z => ?_, fun _ _ p hp => ?_⟩))
      · subst z
        cases ta
        exact q _ H G (Grow.refl s) (.tup hb tb)
      · subst z
        cases tb
        rw [List.append_nil] at q
        exact q _ H G (Grow.refl s) (.tup ha ta)
      · have g : Grow T [] G H (upd G p (.tup (vs ++ ws))) (upd H p (.tup (vs ++ ws))) := Grow.new s hp (fun _ z => nomatch z)
        exact q _ _ _ g (.tup (.inl upd_same) ((ta.append tb).mono g.gm))
    · cases e
  · split at e
    · cases e
      cases tx with | lst ha ta =>
      cases ty with | lst hb tb =>
      rename_i a vs b ws
      refine .inr (.inr (.inr ⟨_, _, vs, ws, rfl, rfl, (sub_of s).rd ha, (sub_of s).rd hb, by rw [ta.length, tb.length]; exact lim_sz (by assumption), fun p hp => ?_⟩))
      have g : Grow T [] G H (upd G p (.lst (vs ++ ws))) (upd H p (.lst (vs ++ ws))) := Grow.new s hp (fun _ z => nomatch z)
      exact q _ _ _ g (.lst (.inl upd_same) ((ta.append tb).mono g.gm))
    · cases e
  · cases e
/-! ### - * // % ** -/
def gSub : PyData → PyData → Option PyData := g2I (fun _ _ => true) fun i j => .int (i - j)
theorem opd_sub : OpD X T (binaryOp .Sub) gSub := opd_2I0 op_sub fun _ _ _ _ => .int _
def mulOk (i j : Int) : Bool := decide (i.natAbs < 2 ^ 64) || decide (j.natAbs < 2 ^ 64) || decide (i.natAbs.log2 + j.natAbs.log2 < 1000000)
theorem mulOk_c {i j : Int} (h : mulOk i j = true) : CMul i j ∨ CMulW i j := by
  unfold mulOk at h
  simp only [Bool.or_eq_true, decide_eq_true_eq] at h
  rcases h with (h | h) | h
  · exact .inl (.inl (by omega))
  · exact .inl (.inr (by omega))
  · exact .inr h
/-- a list, a tuple times an int -/
def rRepL : R2 := fun x y H Q => ∃ l k xs, x = V.ref l ∧ y = V.int k ∧ H l = some (.lst xs) ∧ 0 ≤ k ∧ k ≤ 1000 ∧ xs.length ≤ 1000 ∧ ∀ p, H p = none → Q (.ref p) (upd H p (.lst (List.replicate k.toNat xs).flatten))
theorem op_repL : OpR X (binaryOp .Mult) rRepL := by
  intro pins s σ H x y v u Q I rx ry h
  obtain ⟨l, k, xs, rfl, rfl, hl, k0, k1, hx, q⟩ := h
  refine op_rep pins s σ H _ _ v u Q I rx ry ⟨l, k, xs, rfl, rfl, hl, by omega, by omega, ?_, q⟩
  exact Nat.le_trans (Nat.mul_le_mul hx (show k.toNat ≤ 1000 by omega)) (by decide)
theorem TrAll.rep {K : PySem.W.Frag} {G : Hp} {vs : List V} {ds : List PyData} (t : TrAll K G vs ds) : ∀ n : Nat, TrAll K G (List.replicate n vs).flatten (List.replicate n ds).flatten
  | 0 => .nil
  | n + 1 => by
    rw [List.replicate_succ, List.replicate_succ, List.flatten_cons, List.flatten_cons]
    exact t.append (TrAll.rep t n)
/-- a list (read, of any standing) times an int -/
def rRepR : R2 := fun x y H Q => ∃ l k xs, x = .ref l ∧ y = .int k ∧ Rd H l (.lst xs) ∧ 0 ≤ k ∧ k ≤ 1000 ∧ xs.length ≤ 1000 ∧ ∀ p, H p = none → Q (.ref p) (upd H p (.lst (List.replicate k.toNat xs).flatten))
theorem rd_lst {pins : List (Addr × Obj)} {σ : St} {H : Hp} {s : Shared} {l : Addr} {xs : List V} (I : Inv X pins σ H s) (h : Rd H l (.lst xs)) : ∃ (its : List Value) (n : Nat), Vals xs its ∧ s.heap.get? l = some { cls := .type "list", data := .seq its.toArray n } := by
  rcases h with h | ⟨o, h⟩
  · obtain ⟨_, its, n, r, e⟩ := (show ObjOk X.prog X.w H s.heap l (.lst xs) from I.hok l _ h)
    exact ⟨its, n, r, e⟩
  · obtain ⟨_, _, its, n, r, e⟩ := (show ObjOk X.prog X.w H s.heap l (.frz o (.lst xs)) from I.hok l _ h)
    exact ⟨its, n, r, e⟩
theorem op_repR : OpR X (binaryOp .Mult) rRepR := by
  intro pins s σ H x y v u Q I rx ry h
  obtain ⟨l, k, xs, rfl, rfl, hH, h1, h2, hz0, q⟩ := h
  cases rx
  obtain ⟨t, rfl⟩ := ry
  obtain ⟨its, n, r, e⟩ := rd_lst I hH
  have hl := r.length
  have hz : xs.length * k.toNat ≤ sizeLine := by
    have a1 : xs.length * k.toNat ≤ 1000 * 1000 := Nat.mul_le_mul hz0 (by omega)
    have a2 : (1000 * 1000 : Nat) ≤ sizeLine := by decide
    omega
  have hlen : its.toArray.size * k.toNat ≤ sizeLine := by rw [List.size_toArray, ← hl]; exact hz
  have hcap : ¬ its.toArray.size * k.toNat > (2 ^ 63 - 1) / 8 := by
    have : (sizeLine : Nat) ≤ (2 ^ 63 - 1) / 8 := by decide
    omega
  have hfit : ¬ (!Builtin.List.listFitsIndex k) = true := by
    rw [fitsIndex_both (by omega) (by omega)]
    exact Bool.false_ne_true
  have hlong : ¬ Builtin.List.listTooLong (its.toArray.size * k.toNat) = true := by
    rw [notLongL hlen]
    exact Bool.false_ne_true
  have hnew : List.foldl (fun x1 x2 => x1 ++ x2) #[] (List.replicate (if its.toArray.isEmpty = true then 0 else k.toNat) its.toArray) = (List.replicate k.toNat its).flatten.toArray := by
    have f0 : ∀ m : Nat, List.foldl (fun x1 x2 => x1 ++ x2) #[] (List.replicate m its.toArray) = (List.replicate m its).flatten.toArray := fun m => by
      have := foldl_rep its m []
      rw [List.nil_append] at this
      exact this
    rw [f0]
    cases its with
    | nil => simp
    | cons a r' => rw [if_neg (by simp)]
  refine wpAny_binaryOp_repeat_ref (T := "list") (U := "int") (by decide) ⟨_, e, rfl⟩ (fun s' => typeIs_int s' k t) noFill_list_mul F.fills_int_mul F.slot_int_rmul repeat_list F.slot_int_index.lookup
    (call_meets F.slot_int_rmul (typeIs_int s k t) F.entry_int_rmul (F.args_int_rmul_2 _ _) (int___rmul___int_list k t l its.toArray n)
      ⟨e, rfl, ⟨_, e, rfl⟩, call_meets F.slot_list_mul ⟨_, e, rfl⟩ F.entry_list_mul (F.args_list_mul_2 _ _) (AutoListH.list___mul___list_int_3 l its.toArray n k t hfit hcap hlong) ⟨e, ?_⟩⟩)
  rw [hnew]
  exact ⟨.ref _, _, I.lnew (t' := s.toks) (r.rep k.toNat) (by rw [PyProof.Rows.lm_len_rep_flat, Nat.mul_comm]; exact hz), rfl, q _ I.fresh⟩
def gMul : PyData → PyData → Option PyData
  | .int i, .int j => if mulOk i j = true then some (.int (i * j)) else none
  | .tuple xs, .int k => if xs ≠ [] ∧ 2 ≤ k ∧ k ≤ 1000 ∧ xs.length ≤ 1000 then some (.tuple (List.replicate k.toNat xs).flatten) else none
  | .list xs, .int k => if 0 ≤ k ∧ k ≤ 1000 ∧ xs.length ≤ 1000 then some (.list (List.replicate k.toNat xs).flatten) else none
  | _, _ => none
theorem opd_mul : OpD X T (binaryOp .Mult) gMul := by
  refine ⟨_, op_mul.or (op_mulW.or (op_repT.or op_repR)), fun G H x y dx dy d Q s tx ty e q => ?_⟩
  unfold gMul at e
  split at e
  · split at e
    · rename_i hm
      cases e; cases tx; cases ty
      rcases mulOk_c hm with c | c
      · exact .inl ⟨_, _, rfl, rfl, c, q _ H G (Grow.refl s) (.int _)⟩
      · exact .inr (.inl ⟨_, _, rfl, rfl, c, q _ H G (Grow.refl s) (.int _)⟩)
    · cases e
  · rename_i xs k
    split at e
    · rename_i hm
      obtain ⟨h0, h1, h2, h3⟩ := hm
      cases e; cases ty
      cases tx with | tup ha ta =>
      rename_i a vs
      refine .inr (.inr (.inl ⟨_, _, vs, rfl, rfl, sqt ((sub_of s).rd ha), fun z => h0 (by subst z; cases ta; rfl), h1, h2, by rw [ta.length]; exact h3, fun p hp => ?_⟩))
      have g := Grow.new (T := T) (io := []) s hp (o := .tup (List.replicate k.toNat vs).flatten) (fun _ z => nomatch z)
      exact q _ _ _ g (.tup (.inl upd_same) ((ta.rep _).mono g.gm))
    · cases e
  · rename_i xs k
    split at e
    · rename_i hm
      obtain ⟨h1, h2, h3⟩ := hm
      cases e; cases ty
      cases tx with | lst ha ta =>
      rename_i a vs
      refine .inr (.inr (.inr ⟨_, _, vs, rfl, rfl, (sub_of s).rd ha, h1, h2, by rw [ta.length]; exact h3, fun p hp => ?_⟩))
      have g := Grow.new (T := T) (io := []) s hp (o := .lst (List.replicate k.toNat vs).flatten) (fun _ z => nomatch z)
      exact q _ _ _ g (.lst (.inl upd_same) ((ta.rep _).mono g.gm))
    · cases e
  · cases e
def divOk (j : Int) : Bool := decide (j ≠ 0 ∧ j.natAbs < 1073741824) || decide (0 < j ∧ j.natAbs.log2 < 9000)
def gDiv : PyData → PyData → Option PyData := g2I (fun _ j => divOk j) fun i j => .int (i.fdiv j)
theorem opd_div : OpD X T (binaryOp .FloorDiv) gDiv := by
  refine ⟨_, op_fdivN.or op_fdivW, fun G H x y dx dy d Q s tx ty e q => ?_⟩
  obtain ⟨i, j, rfl, rfl, hp, rfl⟩ := g2I_inv e
  cases tx; cases ty
  unfold divOk at hp
  simp only [Bool.or_eq_true, decide_eq_true_eq] at hp
  rcases hp with hp | hp
  · exact .inl ⟨i, j, rfl, rfl, hp, q _ H G (Grow.refl s) (.int _)⟩
  · refine .inr ⟨i, j, rfl, rfl, hp, ?_⟩
    show Q (.int (i / j)) H
    rw [← Int.fdiv_eq_ediv_of_nonneg i (Int.le_of_lt hp.1)]
    exact q _ H G (Grow.refl s) (.int _)
def gMod : PyData → PyData → Option PyData := g2I (fun _ j => decide (j ≠ 0)) fun i j => .int (i.fmod j)
theorem opd_mod : OpD X T (binaryOp .Mod) gMod := opd_2I op_modN (fun _ _ h => of_decide_eq_true h) fun _ _ _ _ => .int _
def gPow : PyData → PyData → Option PyData := g2I (fun i j => decide (0 ≤ j ∧ j ≤ 1000 ∧ i.natAbs < 2 ^ 64)) fun i j => .int (i ^ j.toNat)
theorem opd_pow : OpD X T (binaryOp .Pow) gPow := opd_2I op_pow (fun i j h => by
  have z : 0 ≤ j ∧ j ≤ 1000 ∧ i.natAbs < 2 ^ 64 := of_decide_eq_true h
  exact ⟨z.1, by omega, z.2.2⟩) fun _ _ _ _ => .int _
/-! ### comparisons -/
def gEq (a b : PyData) : Option PyData := if SeqAt.shaped a = true ∧ SeqAt.shaped b = true then some (.bool (PyData.eqv a b)) else none
def gNe (a b : PyData) : Option PyData := if SeqAt.shaped a = true ∧ SeqAt.shaped b = true then some (.bool (!PyData.eqv a b)) else none
mutual
theorem flat_lay : ∀ d : PyData, d.canLay0 = true → flat d = true
  | .none, _ => rfl
  | .bool _, _ => rfl
  | .int _, _ => rfl
  | .str _, _ => rfl
  | .list xs, h => by
    rw [flat]
    exact flatAll_lay xs (by simpa [PyData.canLay0] using h)
  | .tuple xs, h => by
    rw [flat]
    exact flatAll_lay xs (by simpa [PyData.canLay0] using h)
  | .dict _, h => by simp [PyData.canLay0] at h
theorem flatAll_lay : ∀ ds : List PyData, PyData.canLayAll0 ds = true → flatAll ds = true
  | [], _ => rfl
  | x :: xs, h => by
    simp only [PyData.canLayAll0, Bool.and_eq_true] at h
    rw [flatAll, flat_lay x h.1, flatAll_lay xs h.2]
    rfl
end
theorem flat_of {d : PyData} (h : SeqAt.shaped d = true) : flat d = true := flat_lay d (SeqAt.canLay_of_shaped h)
theorem Dp.mono' {K : PySem.W.Frag} {G H : Hp} {v : V} {d : PyData} (s : Sub G H) (f : flat d = true) (t : Tr K G v d) : Dp K H v d := (t.mono s).dp f
theorem opd_eq (hu : X.A.units + 64 < cLine) : OpD X T (compareOp .Eq) gEq := by
  refine ⟨_, op_eqD hu, fun G H x y dx dy d Q s tx ty e q => ?_⟩
  unfold gEq at e
  split at e
  · rename_i h
    cases e
    exact ⟨dx, dy, Dp.mono' (sub_of s) (flat_of h.1) tx, Dp.mono' (sub_of s) (flat_of h.2) ty, h.1, h.2, q _ H G (Grow.refl s) (.bl _)⟩
  · cases e
theorem opd_ne (hu : X.A.units + 64 < cLine) : OpD X T (compareOp .NotEq) gNe := by
  refine ⟨_, op_neD hu, fun G H x y dx dy d Q s tx ty e q => ?_⟩
  unfold gNe at e
  split at e
  · rename_i h
    cases e
    exact ⟨dx, dy, Dp.mono' (sub_of s) (flat_of h.1) tx, Dp.mono' (sub_of s) (flat_of h.2) ty, h.1, h.2, q _ H G (Grow.refl s) (.bl _)⟩
  · cases e
/-! ### <, <=, >, >=: ints, and data that are alike -/
def cmpOk (x y : PyData) : Bool := flat x && (flat y && (PySem.W.alike x y && (decide (x.depth ≤ 64) && (match x with | .none => false | _ => true))))
def gCmp (f : Int → Int → Bool) (g : PyData → PyData → Bool) : PyData → PyData → Option PyData := fun x y => match x, y with
  | .int i, .int j => some (.bool (f i j))
  | x, y => if cmpOk x y = true then some (.bool (g x y)) else none
def gLt : PyData → PyData → Option PyData := gCmp (fun i j => decide (i < j)) fun x y => PySem.W.dataLt x y
def gLe : PyData → PyData → Option PyData := gCmp (fun i j => decide (i ≤ j)) fun x y => !PySem.W.dataLt y x
def gGt : PyData → PyData → Option PyData := gCmp (fun i j => decide (j < i)) fun x y => PySem.W.dataLt y x
def gGe : PyData → PyData → Option PyData := gCmp (fun i j => decide (j ≤ i)) fun x y => !PySem.W.dataLt x y
def rCmpD (K : PySem.W.Frag) (g : PyData → PyData → Bool) : R2 := fun x y H Q => ∃ d e, Dp K H x d ∧ Dp K H y e ∧ PySem.W.alike d e = true ∧ d ≠ .none ∧ d.depth ≤ 64 ∧ Q (.bl (g d e)) H
theorem op_ltD (hu : X.A.units + 64 < cLine) : OpR X (compareOp .Lt) (rCmpD X.K fun x y => PySem.W.dataLt x y) := by
  intro pins s σ H x y v u Q I rx ry h
  obtain ⟨d, e, hd, he, ha, hn, hz, q⟩ := h
  obtain ⟨as, r1⟩ := Dp.reads I d x v hd rx
  obtain ⟨bs, r2⟩ := Dp.reads I e y u he ry
  exact PySem.W.lt_data r1 r2 ha hn (by omega) ⟨.bl _, H, I, rfl, q⟩
theorem op_leD (hu : X.A.units + 64 < cLine) : OpR X (compareOp .LtE) (rCmpD X.K fun x y => !PySem.W.dataLt y x) := by
  intro pins s σ H x y v u Q I rx ry h
  obtain ⟨d, e, hd, he, ha, hn, hz, q⟩ := h
  obtain ⟨as, r1⟩ := Dp.reads I d x v hd rx
  obtain ⟨bs, r2⟩ := Dp.reads I e y u he ry
  exact PySem.W.le_data r1 r2 ha hn (by omega) ⟨.bl _, H, I, rfl, q⟩
theorem op_gtD (hu : X.A.units + 64 < cLine) : OpR X (compareOp .Gt) (rCmpD X.K fun x y => PySem.W.dataLt y x) := by
  intro pins s σ H x y v u Q I rx ry h
  obtain ⟨d, e, hd, he, ha, hn, hz, q⟩ := h
  obtain ⟨as, r1⟩ := Dp.reads I d x v hd rx
  obtain ⟨bs, r2⟩ := Dp.reads I e y u he ry
  exact PySem.W.gt_data r1 r2 ha hn (by omega) ⟨.bl _, H, I, rfl, q⟩
theorem op_geD (hu : X.A.units + 64 < cLine) : OpR X (compareOp .GtE) (rCmpD X.K fun x y => !PySem.W.dataLt x y) := by
  intro pins s σ H x y v u Q I rx ry h
  obtain ⟨d, e, hd, he, ha, hn, hz, q⟩ := h
  obtain ⟨as, r1⟩ := Dp.reads I d x v hd rx
  obtain ⟨bs, r2⟩ := Dp.reads I e y u he ry
  exact PySem.W.ge_data r1 r2 ha hn (by omega) ⟨.bl _, H, I, rfl, q⟩
theorem opd_cmp {op : Value → Value → Sem Value} {f : Int → Int → Bool} {g : PyData → PyData → Bool} (h1 : OpR X op (rI0 fun i j => .bl (f i j))) (h2 : OpR X op (rCmpD X.K g)) : OpD X T op (gCmp f g) := by
  refine ⟨_, h1.or h2, fun G H x y dx dy d Q s tx ty e q => ?_⟩
  unfold gCmp at e
  split at e
  · cases e; cases tx; cases ty
    exact .inl ⟨_, _, rfl, rfl, q _ H G (Grow.refl s) (.bl _)⟩
  · split at e
    · rename_i h
      cases e
      unfold cmpOk at h
      simp only [Bool.and_eq_true, decide_eq_true_eq] at h
      obtain ⟨f1, f2, ha, hz, hn⟩ := h
      exact .inr ⟨dx, dy, Dp.mono' (sub_of s) f1 tx, Dp.mono' (sub_of s) f2 ty, ha, (fun z => by subst z; cases hn), hz, q _ H G (Grow.refl s) (.bl _)⟩
    · cases e
theorem opd_lt (hu : X.A.units + 64 < cLine) : OpD X T (compareOp .Lt) gLt := opd_cmp op_lt (op_ltD hu)
theorem opd_le (hu : X.A.units + 64 < cLine) : OpD X T (compareOp .LtE) gLe := opd_cmp op_le (op_leD hu)
theorem opd_gt (hu : X.A.units + 64 < cLine) : OpD X T (compareOp .Gt) gGt := opd_cmp op_gt (op_gtD hu)
theorem opd_ge (hu : X.A.units + 64 < cLine) : OpD X T (compareOp .GtE) gGe := opd_cmp op_ge (op_geD hu)
def isNone : PyData → Bool
  | .none => true
  | _ => false
theorem isNone_tr {K : PySem.W.Frag} {G : Hp} {v : V} {d : PyData} (t : Tr K G v d) : decide (v = .non) = isNone d := by
  cases t <;> simp [isNone]
def gIs (a b : PyData) : Option PyData := match b with
  | .bool y => (match a with | .bool x => some (.bool (decide (x = y))) | _ => none)
  | b => if isNone b = true then some (.bool (isNone a)) else none
def gIsNot (a b : PyData) : Option PyData := match b with
  | .bool y => (match a with | .bool x => some (.bool (!decide (x = y))) | _ => none)
  | b => if isNone b = true then some (.bool (!isNone a)) else none
theorem opd_is : OpD X T (compareOp .Is) gIs := by
  refine ⟨_, op_isN.or op_isBl, fun G H x y dx dy d Q s tx ty e q => ?_⟩
  unfold gIs at e
  split at e
  · split at e
    · cases e; cases tx; cases ty
      exact .inr ⟨_, _, rfl, rfl, q _ H G (Grow.refl s) (.bl _)⟩
    · cases e
  · split at e
    · rename_i h
      cases e
      have e1 := isNone_tr ty
      rw [h] at e1
      exact .inl ⟨of_decide_eq_true e1, by rw [isNone_tr tx]; exact q _ H G (Grow.refl s) (.bl _)⟩
    · cases e
theorem opd_isnot : OpD X T (compareOp .IsNot) gIsNot := by
  refine ⟨_, op_notN.or op_notBl, fun G H x y dx dy d Q s tx ty e q => ?_⟩
  unfold gIsNot at e
  split at e
  · split at e
    · cases e; cases tx; cases ty
      exact .inr ⟨_, _, rfl, rfl, q _ H G (Grow.refl s) (.bl _)⟩
    · cases e
  · split at e
    · rename_i h
      cases e
      have e1 := isNone_tr ty
      rw [h] at e1
      exact .inl ⟨of_decide_eq_true e1, by rw [isNone_tr tx]; exact q _ H G (Grow.refl s) (.bl _)⟩
    · cases e
/-! in -/
def rInT (K : PySem.W.Frag) (neg : Bool) : R2 := fun x y H Q => ∃ d ds, Dp K H x d ∧ (Dp K H y (.list ds) ∨ Dp K H y (.tuple ds)) ∧ SeqAt.shaped d = true ∧ SeqAt.shaped (.list ds) = true ∧ Q (.bl (if neg = true then !ds.any fun z => PyData.eqv z d else ds.any fun z => PyData.eqv z d)) H
theorem op_inT (hu : X.A.units + 65 < cLine) : OpR X (compareOp .In) (rInT X.K false) := by
  intro pins s σ H x y v u Q I rx ry h
  obtain ⟨d, ds, hd, he, sd, se, q⟩ := h
  have c1 := SeqAt.canLay_of_shaped se
  have c2 := SeqAt.canLay_of_shaped sd
  have fin : EP X pins σ Q (.bool (ds.any fun z => PyData.eqv z d)) s := ⟨.bl _, H, I, rfl, q⟩
  obtain ⟨as, r1⟩ := Dp.reads I d x v hd rx
  rcases he with he | he
  · obtain ⟨bs, r2⟩ := Dp.reads I (.list ds) y u he ry
    exact SeqAt.in_list_reads r2 r1 c1 c2 (room_in_shaped sd hu) fin
  · obtain ⟨bs, r2⟩ := Dp.reads I (.tuple ds) y u he ry
    exact SeqAt.in_tuple_reads r2 r1 c1 c2 (room_in_shaped sd hu) fin
theorem op_notInT (hu : X.A.units + 65 < cLine) : OpR X (compareOp .NotIn) (rInT X.K true) := by
  intro pins s σ H x y v u Q I rx ry h
  obtain ⟨d, ds, hd, he, sd, se, q⟩ := h
  have c1 := SeqAt.canLay_of_shaped se
  have c2 := SeqAt.canLay_of_shaped sd
  have fin : EP X pins σ Q (.bool (!ds.any fun z => PyData.eqv z d)) s := ⟨.bl _, H, I, rfl, q⟩
  obtain ⟨as, r1⟩ := Dp.reads I d x v hd rx
  rcases he with he | he
  · obtain ⟨bs, r2⟩ := Dp.reads I (.list ds) y u he ry
    exact SeqAt.notIn_list_reads r2 r1 c1 c2 (room_in_shaped sd hu) fin
  · obtain ⟨bs, r2⟩ := Dp.reads I (.tuple ds) y u he ry
    exact SeqAt.notIn_tuple_reads r2 r1 c1 c2 (room_in_shaped sd hu) fin
def itemsOf : PyData → Option (List PyData)
  | .list ds => some ds
  | .tuple ds => some ds
  | _ => none
def gInB (a b : PyData) : Option Bool := match itemsOf b with
  | some ds => if SeqAt.shaped a = true ∧ SeqAt.shaped (.list ds) = true then some (ds.any fun z => PyData.eqv z a) else none
  | none => none
def gIn (a b : PyData) : Option PyData := (gInB a b).map .bool
def gNotIn (a b : PyData) : Option PyData := (gInB a b).map fun k => .bool (!k)
theorem gInB_inv {K : PySem.W.Frag} {G H : Hp} {x y : V} {a b : PyData} {k : Bool} (s : Sub G H) (tx : Tr K G x a) (ty : Tr K G y b) (e : gInB a b = some k) :
    ∃ ds, Dp K H x a ∧ (Dp K H y (.list ds) ∨ Dp K H y (.tuple ds)) ∧ SeqAt.shaped a = true ∧ SeqAt.shaped (.list ds) = true ∧ k = ds.any fun z => PyData.eqv z a := by
  unfold gInB at e
  split at e
  · rename_i ds hi
    split at e
    · rename_i h
      cases e
      have f2 : flatAll ds = true := by have := flat_of h.2; rw [flat] at this; exact this
      refine ⟨ds, Dp.mono' s (flat_of h.1) tx, ?_, h.1, h.2, rfl⟩
      cases ty <;> simp [itemsOf] at hi
      · subst hi
        exact .inl (Dp.mono' s (flat_of h.2) (.lst (by assumption) (by assumption)))
      · subst hi
        exact .inr (Dp.mono' s (by rw [flat]; exact f2) (.tup (by assumption) (by assumption)))
    · cases e
  · cases e
theorem opd_in (hu : X.A.units + 65 < cLine) : OpD X T (compareOp .In) gIn := by
  refine ⟨_, op_inT hu, fun G H x y dx dy d Q s tx ty e q => ?_⟩
  unfold gIn at e
  cases e1 : gInB dx dy with
  | none => rw [e1] at e; cases e
  | some k =>
    rw [e1] at e; cases e
    obtain ⟨ds, h1, h2, h3, h4, rfl⟩ := gInB_inv (sub_of s) tx ty e1
    exact ⟨dx, ds, h1, h2, h3, h4, q _ H G (Grow.refl s) (.bl _)⟩
theorem opd_notin (hu : X.A.units + 65 < cLine) : OpD X T (compareOp .NotIn) gNotIn := by
  refine ⟨_, op_notInT hu, fun G H x y dx dy d Q s tx ty e q => ?_⟩
  unfold gNotIn at e
  cases e1 : gInB dx dy with
  | none => rw [e1] at e; cases e
  | some k =>
    rw [e1] at e; cases e
    obtain ⟨ds, h1, h2, h3, h4, rfl⟩ := gInB_inv (sub_of s) tx ty e1
    exact ⟨dx, ds, h1, h2, h3, h4, q _ H G (Grow.refl s) (.bl _)⟩
end
/-! ### subscripts -/
section
variable {X : Cx} {B : Ent} {ok : OkX} {a b c e : Expr} {es : List Expr} {fa fb fc f : EF} {fs : AF} {pos : Pos}
def gIx : PyData → PyData → Option PyData
  | .list ds, .int i => atI ds i
  | .tuple ds, .int i => atI ds i
  | _, _ => none
theorem atI_tr {K : PySem.W.Frag} {G : Hp} {vs : List V} {ds : List PyData} {i : Int} {d : PyData} (t : TrAll K G vs ds) (h : atI ds i = some d) : ∃ v, atI vs i = some v ∧ Tr K G v d := by
  unfold atI at h ⊢
  rw [t.length]
  cases e : ixN ds.length i with
  | none => rw [e] at h; cases h
  | some j =>
    rw [e] at h
    exact t.get h
theorem ee_ix (ha : EE X B ok a fa) (hb : EE X B ok b fb) (hs : PlainIx b := by exact fun _ _ => rfl) : EE X B ok (.Subscript a b pos) (fOp gIx fa fb) := by
  obtain ⟨ta, pa, ka⟩ := ha.ex
  obtain ⟨tb, pb, kb⟩ := hb.ex
  refine ⟨_, pe_ix (ix_list.or ix_tup) pa pb hs, fun σ H G ρ Q h q => two_ok ka kb ?_ h q⟩
  intro G H x y dx dy d Q s tx ty e q
  unfold gIx at e
  split at e
  · cases ty
    cases tx with | lst h t =>
    obtain ⟨v, e1, t1⟩ := atI_tr t e
    exact .inl ⟨_, _, _, v, rfl, rfl, .inl ((sub_of s).rd h), e1, q v H G (Grow.refl s) t1⟩
  · cases ty
    cases tx with | tup h t =>
    obtain ⟨v, e1, t1⟩ := atI_tr t e
    exact .inr ⟨_, _, _, v, rfl, rfl, sqt ((sub_of s).rd h), e1, q v H G (Grow.refl s) t1⟩
  · cases e
/-! -x -/
def gNeg : PyData → Option PyData
  | .int i => some (.int (-i))
  | _ => none
def fUn (g : PyData → Option PyData) (fa : EF) : EF := fun ρ => (fa ρ).bind fun x => (ofO (g x.1)).bind fun d => .ok (d, x.2)
theorem fUn_sat {g : PyData → Option PyData} {fa : EF} {ρ : En} {P : PyData × En → Prop} {E : OkX} (h : (fUn g fa ρ).sat P E) : (fa ρ).sat (fun x => ∃ d, g x.1 = some d ∧ P (d, x.2)) E := by
  refine (R.sat_bind (r := fa ρ) (f := fun x => (ofO (g x.1)).bind fun d => R.ok (d, x.2)) h).imp fun x q => ?_
  exact ofO_sat (R.sat_bind (r := ofO (g x.1)) (f := fun d => R.ok (d, x.2)) q)
theorem ee_neg (ha : EE X B ok a fa) : EE X B ok (.UnaryOp .USub a pos) (fUn gNeg fa) := by
  obtain ⟨t, p, k⟩ := ha.ex
  refine ⟨_, pe_un un_neg p, fun σ H G ρ Q r q => k σ H G ρ _ r ((fUn_sat q).imp fun ⟨z, ρ1⟩ ⟨d, e, qd⟩ v H1 G1 s1 r1 t1 => ?_)⟩
  cases t1 with
  | int i => cases e; exact ⟨i, rfl, qd _ H1 G1 s1 r1 (.int _)⟩
  | _ => simp [gNeg] at e
end
end Y


/-! YUnp: a, b, .. = a list. -/
namespace Y
open PySem PySem.Spec PyProof.Rows L2
section
variable {prog : Program} {w : World} {A : Around} {E : Value → Shared → Prop} {s : Shared}
theorem draw_lst {it l : Addr} {items : Array Value} (hne : l ≠ it) : ∀ (n i : Nat) (s : Shared) (Q : List Value → Shared → Prop), s.heap.IsListIter it l i → s.heap.IsList l items → i + n ≤ items.size →
    (∀ h', h'.IsListIter it l (i + n) → Heap.SameBut it s.heap h' → Q ((items.toList.drop i).take n) { s with heap := h' }) → wpAny (model prog w) A (draw (.ref it) n) Q E s
  | 0, i, s, Q, hit, _, _, hQ => by
    show wpAny _ _ (pure []) Q E s
    exact wpAny_pure (by simpa using hQ s.heap hit (Heap.SameBut.refl ..))
  | n + 1, i, s, Q, hit, ht, hle, hQ => by
    have hlt : i < items.size := by omega
    show wpAny _ _ (pyNext (.ref it) >>= _) Q E s
    refine wpAny_bind (wpAny_pyNext_list_item hit ht (x := items[i]) (by simp [hlt]) fun h₁ hit₁ hs₁ => ?_)
    refine wpAny_bind (wpAny_holding (draw_lst hne n (i + 1) _ _ hit₁ (ht.extBut hs₁.extBut hne) (by omega) fun h₂ hit₂ hs₂ => wpAny_pure ?_))
    have hd : items.toList.drop i = items[i] :: items.toList.drop (i + 1) := by simp [List.drop_eq_getElem_cons, hlt]
    have := hQ h₂ (by rw [show i + (n + 1) = i + 1 + n by omega]; exact hit₂) (hs₁.trans hs₂)
    rw [hd, List.take_succ_cons] at this
    exact this
theorem unpackItems_lst {l : Addr} {items : Array Value} {Q : List Value → Shared → Prop} (hh : A.handled = none) (ht : s.heap.IsList l items)
    (hQ : ∀ h', Heap.ExtBut s.heap.objs.size s.heap h' → Q items.toList { s with heap := h' }) : wpAny (model prog w) A (unpackItems (.ref l) items.size none) Q E s := by
  have hlt : l ≠ s.heap.objs.size := by obtain ⟨o, ho, _⟩ := ht; exact Nat.ne_of_lt (Heap.lt_size ho)
  unfold unpackItems
  refine wpAny_bind ?_
  · unfold notIterableAtAll
    refine wpAny_bind (wpAny_specialOf ht.typeIs slot_list_iter.lookup ?_)
    refine wpAny_pure ?_
    simp only [Bool.false_eq_true, if_false]
    refine wpAny_bind (wpAny_holding (wpAny_pyIter_list ht ?_))
    refine wpAny_bind (wpAny_holding (draw_lst hlt items.size 0 _ _ ⟨_, Heap.get?_push_size _ rfl, rfl, rfl⟩ (ht.push _) (by omega) fun h₁ hit₁ hs₁ => ?_))
    have hall : List.take items.size (List.drop 0 items.toList) = items.toList := by
      rw [List.drop_zero]; exact List.take_of_length_le (by simp)
    rw [hall]
    rw [if_neg (by simp)]
    have ht₁ : h₁.IsList l items := (ht.push _).extBut hs₁.extBut hlt
    refine wpAny_bind (wpAny_holding (wpAny_pyNext_list_end hh hit₁ ht₁ (by simp) fun h₂ he₂ => ?_))
    simp only [Option.isSome_none, Bool.false_eq_true, if_false]
    refine wpAny_pure (hQ h₂ fun b o hb e => he₂ b o hb (hs₁.extBut b o hb (Heap.get?_push_of_some _ e)))
theorem assign_Tuple_lst {env : Env} {elts : List Expr} {x1} {pos : Pos} {l : Addr} {items : Array Value} {Q : Unit → Shared → Prop} (hh : A.handled = none) (ht : s.heap.IsList l items)
    (hn : (assignEach elts env).length = items.size) (hstar : (assignEach elts env).findIdx? (·.1) = none)
    (h : ∀ h', Heap.ExtBut s.heap.objs.size s.heap h' → wpAny (model prog w) A (assignInOrder ((assignEach elts env).map (·.2)) items.toList) Q E { s with heap := h' }) :
    wpAny (model prog w) A (assign (.Tuple elts x1 pos) env (.ref l)) Q E s := by
  rw [assign_Tuple]
  refine wpAny_bind (wpAny_standAt ?_)
  unfold unpack
  rw [hn, hstar]
  exact wpAny_bind (wpAny_holding (unpackItems_lst hh ht h))
end
/-- (a, b, ..) = a list of that length -/
def gLs (K : PySem.W.Frag) (n : Nat) (t : TGs) : TG := fun v σ H Q => ∃ a xs, v = .ref a ∧ SqL K H a xs ∧ xs.length = n ∧ t xs σ H Q
theorem pg_lst {X : Cx} {pos : Pos} {es : List Expr} {k : Nat} {t : TGs} {n : Nat} (hc : X.calm = true) (h : PGs X es t)
    (hn : (assignEach es X.env).length = n := by rfl) (hst : (assignEach es X.env).findIdx? (·.1) = none := by rfl) : PG X (.Tuple es k pos) (gLs X.K n t) := by
  refine ⟨fun pins s σ H v u Q I r hw => ?_⟩
  obtain ⟨a, xs, e1, hq, hl, hw⟩ := hw
  subst e1
  cases r
  obtain ⟨its, rv, pl, hz⟩ := I.list hq
  refine assign_Tuple_lst (I.ok.hd hc) pl.isList (by simp [hn, ← hl, rv.length]) hst fun h' hx => ?_
  have I1 : Inv X pins σ H { s with heap := h' } := I.kept (t' := s.toks) fun b o e => hx b o (Nat.ne_of_lt (Heap.lt_size e)) e
  exact h.run pins _ σ H xs _ Q I1 (by simpa using rv) hw
theorem pg_or {X : Cx} {e : Expr} {g g' : TG} (h : PG X e g) (h' : PG X e g') : PG X e (fun v σ H Q => g v σ H Q ∨ g' v σ H Q) := by
  refine ⟨fun pins s σ H v u Q I r hw => ?_⟩
  rcases hw with hw | hw
  · exact h.run pins s σ H v u Q I r hw
  · exact h'.run pins s σ H v u Q I r hw
end Y


/-! YStmt: statements by data. -/
namespace Y
open PySem PySem.Spec PyProof.Rows L2
inductive Out where
  | nx (ρ : En)
  | rt (d : PyData) (ρ : En)
  | rn (d : PyData) (ρ : En)
  | bk (ρ : En)
  | ct (ρ : En)
  | er (c : Str) (d : PyData)
  | no
abbrev SF := En → Out
def ofR {α : Type} (r : R α) (k : α → Out) : Out := match r with
  | .ok a => k a
  | .er c d => .er c d
  | .no => .no
/-- what is to hold of an outcome -/
def Out.sat (o : Out) (K : PySem.W.Frag) (B : Ent) (ok : OkX) (G : Hp) (D : Ends) : Prop := match o with
  | .nx ρ => ∀ σ H' G', Sub G G' → Rel K B G' H' σ ρ → D.nx σ H'
  | .rt d ρ => ∀ v σ H' G', Sub G G' → Rel K B G' H' σ ρ → Tr K G' v d → D.rt v H'
  | .rn d ρ => ∀ p σ H' G', Sub G G' → Rel K B G' H' σ ρ → Fresh K B G' H' σ ρ p d → D.rt (.ref p) H'
  | .bk ρ => ∀ σ H' G', Sub G G' → Rel K B G' H' σ ρ → D.bk σ H'
  | .ct ρ => ∀ σ H' G', Sub G G' → Rel K B G' H' σ ρ → D.ct σ H'
  | .er c d => ok c d
  | .no => False
theorem Out.sat.sub {o : Out} {K : PySem.W.Frag} {B : Ent} {ok : OkX} {G G1 : Hp} {D : Ends} (h : o.sat K B ok G D) (s : Sub G G1) : o.sat K B ok G1 D := by
  cases o with
  | nx ρ => exact fun σ H' G' s' r => h σ H' G' (s.trans s') r
  | rt d ρ => exact fun v σ H' G' s' r => h v σ H' G' (s.trans s') r
  | rn d ρ => exact fun v σ H' G' s' r => h v σ H' G' (s.trans s') r
  | bk ρ => exact fun σ H' G' s' r => h σ H' G' (s.trans s') r
  | ct ρ => exact fun σ H' G' s' r => h σ H' G' (s.trans s') r
  | er c d => exact h
  | no => exact h
theorem ofR_sat {α : Type} {r : R α} {k : α → Out} {K : PySem.W.Frag} {B : Ent} {ok : OkX} {G : Hp} {D : Ends} (h : (ofR r k).sat K B ok G D) : r.sat (fun a => (k a).sat K B ok G D) ok := by
  cases r with
  | ok a => exact h
  | er c d => exact h
  | no => exact h
structure SS (X : Cx) (B : Ent) (ok : OkX) (st : Stmt) (f : SF) : Prop where
  ex : ∃ t : TS, PS X st t ∧ ∀ (σ : St) (H G : Hp) (ρ : En) (D : Ends), Rel X.K B G H σ ρ → (f ρ).sat X.K B ok G D → t D σ H
structure SB (X : Cx) (B : Ent) (ok : OkX) (st : List Stmt) (f : SF) : Prop where
  ex : ∃ t : TS, PSs X st t ∧ ∀ (σ : St) (H G : Hp) (ρ : En) (D : Ends), Rel X.K B G H σ ρ → (f ρ).sat X.K B ok G D → t D σ H
/-- all slots but these are as they were -/
structure Mv (sl : List Nat) (σ : St) (ρ : En) (σ' : St) (ρ' : En) : Prop where
  len : σ'.length = σ.length
  same : ∀ i : Nat, i ∉ sl → σ'[i]? = σ[i]?
  free : ∀ p, Free σ ρ p → Free σ' ρ' p
theorem Free.setSh {σ : St} {ρ : En} {p : Addr} {i : Nat} {v : Option V} {d : PyData} (f : Free σ ρ p) : Free (σ.set i v) (ρ.set i (.sh d)) p := fun j s h e => by
  by_cases hj : i = j
  · subst hj
    by_cases hl : i < ρ.length
    · rw [List.getElem?_set_self hl] at h; cases h; exact e
    · rw [List.getElem?_eq_none (by rw [List.length_set]; omega)] at h; cases h
  · rw [List.getElem?_set_ne hj] at h e
    exact f j s h e
/-- a target of an assignment -/
structure TT' (X : Cx) (B : Ent) (tg : Expr) (sl : List Nat) (g : PyData → En → Option En) : Prop where
  ex : ∃ t : TG, PG X tg t ∧ ∀ (σ : St) (H G : Hp) (ρ ρ' : En) (v : V) (d : PyData) (Q : St → Hp → Prop), Rel X.K B G H σ ρ → Tr X.K G v d → g d ρ = some ρ' → (∀ σ', Rel X.K B G H σ' ρ' → Mv sl σ ρ σ' ρ' → Q σ' H) → t v σ H Q
structure TTs (X : Cx) (B : Ent) (tgs : List Expr) (sl : List Nat) (g : List PyData → En → Option En) : Prop where
  ex : ∃ t : TGs, PGs X tgs t ∧ ∀ (σ : St) (H G : Hp) (ρ ρ' : En) (vs : List V) (ds : List PyData) (Q : St → Hp → Prop), Rel X.K B G H σ ρ → TrAll X.K G vs ds → g ds ρ = some ρ' → (∀ σ', Rel X.K B G H σ' ρ' → Mv sl σ ρ σ' ρ' → Q σ' H) → t vs σ H Q
section
variable {X : Cx} {B : Ent} {ok : OkX} {a b c e : Expr} {es : List Expr} {fa fb fc f : EF} {fs : AF} {ft : TF} {pos : Pos} {st : Stmt} {sts : List Stmt} {g h : SF}
/-! ### blocks -/
def sSeq (g h : SF) : SF := fun ρ => match g ρ with
  | .nx ρ' => h ρ'
  | o => o
def sNil : SF := fun ρ => .nx ρ
theorem sb_nil : SB X B ok [] sNil := ⟨_, pss_nil, fun σ H G ρ D r q => q σ H G (Sub.refl G) r⟩
theorem sSeq_ok {t u : TS} (k1 : ∀ (σ : St) (H G : Hp) (ρ : En) (D : Ends), Rel X.K B G H σ ρ → (g ρ).sat X.K B ok G D → t D σ H)
    (k2 : ∀ (σ : St) (H G : Hp) (ρ : En) (D : Ends), Rel X.K B G H σ ρ → (h ρ).sat X.K B ok G D → u D σ H) {σ : St} {H G : Hp} {ρ : En} {D : Ends} (r : Rel X.K B G H σ ρ) (q : (sSeq g h ρ).sat X.K B ok G D) : tSeq t u D σ H := by
  refine k1 σ H G ρ _ r ?_
  unfold sSeq at q
  split at q
  · rename_i ρ' e
    rw [e]
    exact fun σ' H' G' s r' => k2 σ' H' G' ρ' D r' (q.sub s)
  · rename_i hn
    cases e : g ρ with
    | nx ρ' => exact absurd e (hn ρ')
    | _ => rw [e] at q; exact q
theorem sb_cons (h1 : SS X B ok st g) (h2 : SB X B ok sts h) : SB X B ok (st :: sts) (sSeq g h) := by
  obtain ⟨t, p, k⟩ := h1.ex
  obtain ⟨u, p2, k2⟩ := h2.ex
  exact ⟨_, pss_cons p p2, fun σ H G ρ D r q => sSeq_ok k k2 r q⟩
theorem sb_one (h1 : SS X B ok st g) : SB X B ok [st] g := by
  obtain ⟨t, p, k⟩ := h1.ex
  exact ⟨_, pss_one p, k⟩
def sNo : SF := fun _ => .no
theorem ss_never : SS X B ok st sNo := ⟨_, ps_never, fun _ _ _ _ _ _ q => q⟩
theorem sb_never : SB X B ok sts sNo := ⟨_, pss_never, fun _ _ _ _ _ _ q => q⟩
/-! ### simple statements -/
def sRet (f : EF) : SF := fun ρ => ofR (f ρ) fun x => .rt x.1 x.2
theorem ss_ret (h : EE X B ok e f) : SS X B ok (.Return (some e) pos) (sRet f) := by
  obtain ⟨t, p, k⟩ := h.ex
  exact ⟨_, ps_ret p, fun σ H G ρ D r q => k σ H G ρ _ r ((ofR_sat q).imp fun x qx v H1 G1 s1 r1 t1 => qx v σ H1 G1 s1.sub r1 t1)⟩
def sRetN (f : EF) : SF := fun ρ => ofR (f ρ) fun x => .rn x.1 x.2
theorem ss_retN (h : EN X B ok e f) : SS X B ok (.Return (some e) pos) (sRetN f) := by
  obtain ⟨t, p, k⟩ := h.ex
  exact ⟨_, ps_ret p, fun σ H G ρ D r q => k σ H G ρ _ r ((ofR_sat q).imp fun x qx v H1 G1 hp s1 r1 x1 => qx v σ H1 G1 s1.sub r1 x1)⟩
def sRet0 : SF := fun ρ => .rt .none ρ
theorem ss_ret0 : SS X B ok (.Return none pos) sRet0 := ⟨_, ps_retN, fun σ H G ρ D r q => q .non σ H G (Sub.refl G) r .non⟩
theorem ss_pass : SS X B ok (.Pass pos) sNil := ⟨_, ps_pass, fun σ H G ρ D r q => q σ H G (Sub.refl G) r⟩
def sBrk : SF := fun ρ => .bk ρ
def sCt : SF := fun ρ => .ct ρ
theorem ss_break : SS X B ok (.Break pos) sBrk := ⟨_, ps_break, fun σ H G ρ D r q => q σ H G (Sub.refl G) r⟩
theorem ss_cont : SS X B ok (.Continue pos) sCt := ⟨_, ps_continue, fun σ H G ρ D r q => q σ H G (Sub.refl G) r⟩
def sExpr (f : EF) : SF := fun ρ => ofR (f ρ) fun x => .nx x.2
theorem ss_expr (h : EE X B ok e f) (hs : swapsWith e none pos.line X.env = pure false := by rfl) : SS X B ok (.Expr e pos) (sExpr f) := by
  obtain ⟨t, p, k⟩ := h.ex
  exact ⟨_, ps_expr p hs, fun σ H G ρ D r q => k σ H G ρ _ r ((ofR_sat q).imp fun x qx v H1 G1 s1 r1 t1 => qx σ H1 G1 s1.sub r1)⟩
def sIf (t : TF) (g h : SF) : SF := fun ρ => ofR (t ρ) fun x => if x.1 = true then g x.2 else h x.2
theorem ss_if {p q : List Stmt} (hc : ET X B ok c ft) (ha : SB X B ok p g) (hb : SB X B ok q h) : SS X B ok (.If c p q pos) (sIf ft g h) := by
  obtain ⟨t, p1, k1⟩ := hc.ex
  obtain ⟨u, p2, k2⟩ := ha.ex
  obtain ⟨w, p3, k3⟩ := hb.ex
  refine ⟨_, ps_if p1 p2 p3, fun σ H G ρ D r q => k1 σ H G ρ _ r ((ofR_sat q).imp fun x qx H1 G1 s1 r1 => ?_)⟩
  by_cases hx : x.1 = true
  · rw [if_pos hx] at qx ⊢
    exact k2 σ H1 G1 x.2 D r1 (qx.sub s1.sub)
  · rw [if_neg hx] at qx ⊢
    exact k3 σ H1 G1 x.2 D r1 (qx.sub s1.sub)
/-- a slot of one's own is frozen from here on -/
def fz (i : Nat) (ρ : En) : En := match ρ[i]? with
  | some (.ow d) => ρ.set i (.sh d)
  | _ => ρ
theorem Rel.fz {K : PySem.W.Frag} {G H : Hp} {σ : St} {ρ : En} {i : Nat} (r : Rel K B G H σ ρ) : ∃ G', Sub G G' ∧ Rel K B G' H σ (fz i ρ) := by
  unfold Y.fz
  split
  · rename_i d e
    obtain ⟨a, e1, n, z, w⟩ := r.at_ i _ e
    have r1 : Rel K B G H σ (ρ.set i .un) := r.forget
    have hi : i < ρ.length := (List.getElem?_eq_some_iff.mp e).1
    have x : Fresh K B G H σ (ρ.set i .un) a d := ⟨n, z, w, fun j s hj ej => by
      by_cases hji : i = j
      · subst hji
        rw [List.getElem?_set_self hi] at hj
        cases hj
        exact ej
      · rw [List.getElem?_set_ne hji] at hj
        exact r.sep i j _ s a hji e hj e1 ej⟩
    obtain ⟨G', s', _, r', t'⟩ := r1.frz x
    refine ⟨G', s', ?_⟩
    have r2 := r'.setSh (i := i) t'
    rw [List.set_set] at r2
    have es : σ.set i (some (.ref a)) = σ := by
      apply List.ext_getElem?
      intro j
      by_cases hji : i = j
      · subst hji
        rw [List.getElem?_set_self (by rw [r.len]; exact hi), e1]
      · rw [List.getElem?_set_ne hji]
    rw [es] at r2
    exact r2
  · exact ⟨G, Sub.refl G, r⟩
theorem ss_fz {i : Nat} (h : SS X B ok st g) : SS X B ok st (fun ρ => g (fz i ρ)) := by
  obtain ⟨t, p, k⟩ := h.ex
  refine ⟨t, p, fun σ H G ρ D r q => ?_⟩
  obtain ⟨G', s', r'⟩ := r.fz (i := i)
  exact k σ H G' _ D r' (q.sub s')
/-! ### targets, assignments -/
def tNm (i : Nat) : PyData → En → Option En := fun d ρ => some (ρ.set i (.sh d))
theorem tt_nm (i : Nat) {x : Str} (hN : X.N.Nodup) (hi : X.N[i]? = some x := by rfl) (hx : Loc X.env.scope x := by first | exact Or.inl rfl | exact Or.inr rfl) (hf : X.fn x = true ∨ X.env.scope.names.lookup x = some .local := by first | exact .inl rfl | exact .inr rfl) : TT' X B (.Name x pos) [i] (tNm i) := by
  refine ⟨_, pg_name hN hi hx hf, fun σ H G ρ ρ' v d Q r t e q => ?_⟩
  cases e
  exact q _ (r.setSh t) ⟨by simp, fun j hj => List.getElem?_set_ne (fun z => hj (by simp [z])), fun p f => f.setSh⟩
def tsNil : List PyData → En → Option En := fun ds ρ => match ds with
  | [] => some ρ
  | _ => none
def tsCons (g : PyData → En → Option En) (gs : List PyData → En → Option En) : List PyData → En → Option En := fun ds ρ => match ds with
  | d :: ds => (g d ρ).bind fun ρ1 => gs ds ρ1
  | [] => none
theorem tts_nil : TTs X B [] [] tsNil := by
  refine ⟨_, pgs_nil, fun σ H G ρ ρ' vs ds Q r t e q => ?_⟩
  unfold tsNil at e
  split at e
  · cases e; cases t
    exact ⟨rfl, q σ r ⟨rfl, fun _ _ => rfl, fun _ f => f⟩⟩
  · cases e
theorem tts_cons {tg : Expr} {tgs : List Expr} {g : PyData → En → Option En} {gs : List PyData → En → Option En} {s1 s2 : List Nat} (h1 : TT' X B tg s1 g) (h2 : TTs X B tgs s2 gs)
    (hs : (assignEach (tg :: tgs) X.env).map (·.2) = assign tg X.env :: (assignEach tgs X.env).map (·.2) := by rfl) : TTs X B (tg :: tgs) (s1 ++ s2) (tsCons g gs) := by
  obtain ⟨t, p, k⟩ := h1.ex
  obtain ⟨u, p2, k2⟩ := h2.ex
  refine ⟨_, pgs_cons p p2 hs, fun σ H G ρ ρ' vs ds Q r tr e q => ?_⟩
  unfold tsCons at e
  split at e
  · rename_i d ds
    cases tr with | cons tv tvs =>
    cases e1 : g d ρ with
    | none => rw [e1] at e; cases e
    | some ρ1 =>
      rw [e1] at e
      exact ⟨_, _, rfl, k σ H G ρ ρ1 _ d _ r tv e1 fun σ1 r1 m1 => k2 σ1 H G ρ1 ρ' _ ds Q r1 tvs e fun σ2 r2 m2 => q σ2 r2 ⟨m2.len.trans m1.len, fun j hj => (m2.same j (fun z => hj (List.mem_append_right _ z))).trans (m1.same j fun z => hj (List.mem_append_left _ z)), fun p f => m2.free p (m1.free p f)⟩⟩
  · cases e
def tTp (n : Nat) (gs : List PyData → En → Option En) : PyData → En → Option En := fun d ρ => match d with
  | .tuple ds => if ds.length = n then gs ds ρ else none
  | .list ds => if ds.length = n then gs ds ρ else none
  | _ => none
theorem tt_tup {tgs : List Expr} {k n : Nat} {gs : List PyData → En → Option En} {sl : List Nat} (hc : X.calm = true) (h : TTs X B tgs sl gs) (hn : (assignEach tgs X.env).length = n := by rfl)
    (hst : (assignEach tgs X.env).findIdx? (·.1) = none := by rfl) : TT' X B (.Tuple tgs k pos) sl (tTp n gs) := by
  obtain ⟨t, p, kk⟩ := h.ex
  refine ⟨_, pg_or (pg_tup hc p hn hst) (pg_lst hc p hn hst), fun σ H G ρ ρ' v d Q r tr e q => ?_⟩
  unfold tTp at e
  split at e
  · rename_i ds
    split at e
    · rename_i hl
      cases tr with | tup ht ta =>
      exact .inl ⟨_, _, rfl, sqt (r.subG.rd ht), by rw [ta.length]; exact hl, kk σ H G ρ ρ' _ ds Q r ta e q⟩
    · cases e
  · rename_i ds
    split at e
    · rename_i hl
      cases tr with | lst ht ta =>
      exact .inr ⟨_, _, rfl, .inl (r.subG.rd ht), by rw [ta.length]; exact hl, kk σ H G ρ ρ' _ ds Q r ta e q⟩
    · cases e
  · cases e
def sAsg (f : EF) (g : PyData → En → Option En) : SF := fun ρ => ofR (f ρ) fun x => match g x.1 x.2 with
  | some ρ' => .nx ρ'
  | none => .no
theorem asg_sat {K : PySem.W.Frag} {G : Hp} {D : Ends} {o : Option En} (h : (match o with | some ρ' => Out.nx ρ' | none => Out.no).sat K B ok G D) : ∃ ρ', o = some ρ' ∧ (Out.nx ρ').sat K B ok G D := by
  cases o with
  | some ρ' => exact ⟨ρ', rfl, h⟩
  | none => exact h.elim
theorem ss_asg {tg : Expr} {g : PyData → En → Option En} {sl : List Nat} (he : EE X B ok e f) (hg : TT' X B tg sl g) (hs : swapsWithSole [tg] e pos.line X.env = pure false := by rfl) (hw : swappedStores [tg] e X.env = pure none := by rfl)
    (h1 : (assignEach [tg] X.env).map (·.2) = [assign tg X.env] := by rfl) : SS X B ok (.Assign [tg] e pos) (sAsg f g) := by
  obtain ⟨t, p, k⟩ := he.ex
  obtain ⟨u, p2, k2⟩ := hg.ex
  refine ⟨_, ps_asg p p2 hs hw h1, fun σ H G ρ D r q => k σ H G ρ _ r ((ofR_sat q).imp fun x qx v H1 G1 s1 r1 t1 => ?_)⟩
  obtain ⟨ρ', e1, qn⟩ := asg_sat qx
  exact k2 σ H1 G1 x.2 ρ' v x.1 _ r1 t1 e1 fun σ' r' _ => qn σ' H1 G1 s1.sub r'
/-- a name gets a new object of its own -/
def sOwn (f : EF) (i : Nat) : SF := fun ρ => ofR (f ρ) fun x => .nx (x.2.set i (.ow x.1))
theorem ss_own (i : Nat) {x : Str} {p2 : Pos} (he : EN X B ok e f) (hN : X.N.Nodup) (hi : X.N[i]? = some x := by rfl) (hx : Loc X.env.scope x := by first | exact Or.inl rfl | exact Or.inr rfl)
    (hf : X.fn x = true ∨ X.env.scope.names.lookup x = some .local := by first | exact .inl rfl | exact .inr rfl)
    (hs : swapsWithSole [.Name x p2] e pos.line X.env = pure false := by rfl) (hw : swappedStores [.Name x p2] e X.env = pure none := by rfl)
    (h1 : (assignEach [.Name x p2] X.env).map (·.2) = [assign (.Name x p2) X.env] := by rfl) : SS X B ok (.Assign [.Name x p2] e pos) (sOwn f i) := by
  obtain ⟨t, p, k⟩ := he.ex
  refine ⟨_, ps_asg p (pg_name hN hi hx hf) hs hw h1, fun σ H G ρ D r q => k σ H G ρ _ r ((ofR_sat q).imp fun x qx v H1 G1 hp s1 r1 x1 => ?_)⟩
  exact qx _ H1 G1 s1.sub (r1.setOw x1.g x1.b x1.own x1.ap)
end
end Y


/-! YCall: what a def promises by data; calls. -/
namespace Y
open PySem PySem.Spec PyProof.Rows L2
/-- the classes of the errors -/
abbrev Clss := Str → Option Addr
/-- an error of the class c with the field d is wished for -/
def ErrOk (K : PySem.W.Frag) (T : YT) (cls : Clss) (io : List Addr) (G H : Hp) (E : XK) (c : Str) (d : PyData) : Prop :=
  ∀ C, cls c = some C → ∀ (v : V) (dx : Addr) (H' G' : Hp), Grow T io G H G' H' → Tr K G' v d → H dx = none → H' dx = some (.xd [(fld c, v)]) → E (.ref C) (some dx) H'
theorem ErrOk.later {K : PySem.W.Frag} {T : YT} {cls : Clss} {io : List Addr} {G H G1 H1 : Hp} {E : XK} {c : Str} {d : PyData} (h : ErrOk K T cls io G H E c d) (g : Grow T io G H G1 H1) : ErrOk K T cls io G1 H1 E c d :=
  fun C hC v dx H' G' g' t hn hd => h C hC v dx H' G' (g.trans g') t (by
    cases e : H dx with
    | none => rfl
    | some u => exact absurd hn (g.hs dx (by rw [e]; simp))) hd
theorem ErrOk.io {K : PySem.W.Frag} {T : YT} {cls : Clss} {io : List Addr} {G H : Hp} {E : XK} {c : Str} {d : PyData} (h : ErrOk K T cls io G H E c d) : ErrOk K T cls [] G H E c d :=
  fun C hC v dx H' G' g' t hn hd => h C hC v dx H' G' (g'.weak (by simp)) t hn hd
/-- the data promise of a def: arguments frozen, the answer frozen -/
def spF (K : PySem.W.Frag) (T : YT) (cls : Clss) (n : Nat) (F : List PyData → R PyData) : Sp := fun vs H Q E => ∃ (G : Hp) (ds : List PyData),
  (∀ b o, G b = some o → H b = some o ∧ ∀ ps, o ≠ .tbl ps) ∧ TrAll K G vs ds ∧ ds.length = n ∧ Base K T G H ∧
  (F ds).sat (fun d => ∀ v H' G', Grow T [] G H G' H' → Tr K G' v d → Q v H') (fun c d => ErrOk K T cls [] G H E c d)
/-- .. the answer a new object -/
def spN (K : PySem.W.Frag) (T : YT) (cls : Clss) (n : Nat) (F : List PyData → R PyData) : Sp := fun vs H Q E => ∃ (G : Hp) (ds : List PyData),
  (∀ b o, G b = some o → H b = some o ∧ ∀ ps, o ≠ .tbl ps) ∧ TrAll K G vs ds ∧ ds.length = n ∧ Base K T G H ∧
  (F ds).sat (fun d => ∀ p H' G', H p = none → Grow T [] G H G' H' → G' p = none → Own K G' H' p d → Q (.ref p) H') (fun c d => ErrOk K T cls [] G H E c d)
/-- .. the first argument an object that may be changed -/
def spS (K : PySem.W.Frag) (T : YT) (cls : Clss) (n : Nat) (F : PyData → List PyData → R (PyData × PyData)) : Sp := fun vs H Q E => ∃ (G : Hp) (ds : List PyData) (a : Addr) (d0 : PyData) (ws : List V),
  (∀ b o, G b = some o → H b = some o ∧ ∀ ps, o ≠ .tbl ps) ∧ vs = .ref a :: ws ∧ G a = none ∧ Own K G H a d0 ∧ TrAll K G ws ds ∧ ds.length = n ∧ Base K T G H ∧
  (F d0 ds).sat (fun r => ∀ v H' G', Grow T [a] G H G' H' → G' a = none → Own K G' H' a r.2 → Tr K G' v r.1 → Q v H') (fun c d => ErrOk K T cls [a] G H E c d)
/-- how an expression's exceptions leave -/
structure CtxE (cls : Clss) (X : Cx) (B : Ent) (ok : OkX) : Prop where
  calm : X.calm = true
  tabs : Base X.K B.T B.G B.H
  gd : X.A.guards = some []
  exc : ∃ E : XK, Takes X (fun c d _ H => E c d H) ∧ ∀ c d, ok c d → ErrOk X.K B.T cls B.io B.G B.H E c d
/-- .. and a body's -/
structure CtxOk (cls : Clss) (X : Cx) (B : Ent) (ok : OkX) : Prop extends CtxE cls X B ok where
  own : PassesOwn (model X.prog X.w) X.A X.env X.xe
/-- what a def keeps where nothing is being shown (a repr's own guard is free) -/
structure FnG (P : Program) (w : World) (K : PySem.W.Frag) (mg : Str → Option Value) (base : Heap) (k : Nat) (f : Addr) (fd : FuncData) (ps : List Str) (sp : Sp) : Prop where
  len : ∀ vs H Q E, sp vs H Q E → vs.length = ps.length
  run : ∀ (A : Around) (outer : List Env) (s : Shared) (H : Hp) (args : Args) (us : List Value) (vs : List V) (Q : VK) (E : XK), Room k A → A.guards = some [] → Env0 P w K mg base A outer s H →
    BindsTo s fd args (ps.zip us) → Vals vs us → sp vs H Q E → codeAny (model P w) A (.call (.ref f) args) (CR (L2.CX P w) outer P w H s Q E) s
theorem FnG.of {P : Program} {w : World} {K : PySem.W.Frag} {mg : Str → Option Value} {base : Heap} {k : Nat} {f : Addr} {fd : FuncData} {ps : List Str} {sp : Sp} (F : FnOk P w K mg base (L2.CX P w) k f fd ps sp) : FnG P w K mg base k f fd ps sp :=
  ⟨F.len, fun A outer s H args us vs Q E hr _ => F.run A outer s H args us vs Q E hr⟩
section
variable {X : Cx} {k : Nat} {f : Addr} {fd : FuncData} {ps : List Str} {sp : Sp} {E : XK} {x : Str} {p pos : Pos} {e : Expr} {es : List Expr} {t : TA}
theorem runG {pins : List (Addr × Obj)} {σ : St} {H : Hp} {s : Shared} {Q : VK} {us : List Value} {vs : List V} (F : FnG X.prog X.w X.K X.mg X.base k f fd ps sp) (hr : Room k X.A) (hG : X.A.guards = some []) (hb : Binds X.K fd ps []) (hx : Passes (L2.CX X.prog X.w) X E)
    (I : Inv X pins σ H s) (r : Vals vs us) (h : sp vs H Q E) : wpAny (model X.prog X.w) X.A (call (.ref f) us) (EP X pins σ Q) X.xe s := by
  have hl : (us ++ []).length = ps.length := by
    rw [List.append_nil, ← r.length]
    exact F.len _ _ _ _ h
  have b := hb s us I.kIn hl
  rw [List.append_nil] at b
  have z := F.run X.A X.stack s H ⟨us, []⟩ us vs Q E hr hG I.env0 b r h
  refine wpAny_call (codeAny_mono z fun o s' q => ?_)
  match o, q with
  | .error e, q => exact hx pins σ H s e s' I q
  | .ok (.ret u), q => exact I.after q
def tCl (sp : Sp) (E : XK) (t : TA) : TE := fun σ H Q => t σ H fun vs H1 => sp vs H1 Q E
theorem pe_callG (F : FnG X.prog X.w X.K X.mg X.base k f fd ps sp) (hr : Room k X.A) (hG : X.A.guards = some []) (hg : Gl X x) (hm : X.mg x = some (.ref f)) (hk : PySem.W.keepIn X.K (.ref f) = true) (hb : Binds X.K fd ps []) (hx : Passes (L2.CX X.prog X.w) X E)
    (ha : PA X (e :: es) t) (hdb : (x == ("__debug__" : Str)) = false) (he : starEach (e :: es) X.env = (false, eval e X.env) :: starEach es X.env) (hpl : (backTo pos (starEach es X.env)).any (·.1) = false) :
    PE X (.Call (.Name x p) (e :: es) [] pos) (tCl sp E t) := by
  constructor
  intro pins s σ H Q I h
  have z := thn (ha.run pos pins s σ H _ I h) fun us s1 ⟨vs, H1, I1, r, q⟩ => (⟨I1.kIn, runG F hr hG hb hx I1 r q⟩ : X.K.In s1.heap ∧ wpAny _ _ (call (.ref f) us) (EP X pins σ Q) X.xe s1)
  exact wpAny_Call_Name_kw (ld_glob I hg hm (PySem.W.callWith_K (h₀ := X.base) I.ok.mod.kin hk z he hpl) hdb)
theorem pe_callG0 (F : FnG X.prog X.w X.K X.mg X.base k f fd ps sp) (hr : Room k X.A) (hG : X.A.guards = some []) (hg : Gl X x) (hm : X.mg x = some (.ref f)) (hk : PySem.W.keepIn X.K (.ref f) = true) (hb : Binds X.K fd ps []) (hx : Passes (L2.CX X.prog X.w) X E)
    (hdb : (x == ("__debug__" : Str)) = false) : PE X (.Call (.Name x p) [] [] pos) (tCl sp E tNil) := by
  constructor
  intro pins s σ H Q I h
  have z := runG (us := []) F hr hG hb hx I .nil h
  exact wpAny_Call_Name_kw (ld_glob I hg hm (PySem.W.callWith_K0 I.kIn hk z) hdb)
end
/-- a def that stands in the module -/
structure Callee (P : Program) (w : World) (K : PySem.W.Frag) (mg : Str → Option Value) (base : Heap) (k : Nat) (x : Str) (n : Nat) (sp : Sp) : Prop where
  ex : ∃ (f : Addr) (fd : FuncData) (ps : List Str), FnG P w K mg base k f fd ps sp ∧ mg x = some (.ref f) ∧ PySem.W.keepIn K (.ref f) = true ∧ Binds K fd ps [] ∧ ps.length = n
section
variable {X : Cx} {B : Ent} {ok : OkX} {cls : Clss} {a b c e : Expr} {es : List Expr} {fa fb fc f : EF} {fs : AF} {pos p : Pos} {k j n : Nat} {x : Str}
def fCall (F : List PyData → R PyData) (fs : AF) : EF := fun ρ => (fs ρ).bind fun x => (F x.1).bind fun d => .ok (d, x.2)
theorem fCall_sat {F : List PyData → R PyData} {fs : AF} {ρ : En} {P : PyData × En → Prop} {E : OkX} (h : (fCall F fs ρ).sat P E) : (fs ρ).sat (fun x => (F x.1).sat (fun d => P (d, x.2)) E) E :=
  (R.sat_bind (r := fs ρ) (f := fun x => (F x.1).bind fun d => R.ok (d, x.2)) h).imp fun x q => R.sat_bind (r := F x.1) (f := fun d => R.ok (d, x.2)) q
theorem R.sat.imp2 {α : Type} {r : R α} {P P' : α → Prop} {E E' : OkX} (h : r.sat P E) (k : ∀ a, P a → P' a) (k2 : ∀ c d, E c d → E' c d) : r.sat P' E' := by
  cases r with
  | ok a => exact k a h
  | er c d => exact k2 c d h
  | no => exact h
/-- the tables at hand -/
theorem Rel.tabs {K : PySem.W.Frag} {G H : Hp} {σ : St} {ρ : En} (r : Rel K B G H σ ρ) (h : Base K B.T B.G B.H) : Base K B.T G H := ⟨r.bd.tb h.1, h.2.mono r.bd.gm⟩
theorem ee_call {F : List PyData → R PyData} (cx : CtxE cls X B ok) (C : Callee X.prog X.w X.K X.mg X.base k x n (spF X.K B.T cls n F)) (hr : Room j X.A) (ha : EA X B ok (e :: es) fs) (hk : k ≤ j := by decide) (hg : Gl X x := by rfl)
    (hdb : (x == ("__debug__" : Str)) = false := by decide) (he : starEach (e :: es) X.env = (false, eval e X.env) :: starEach es X.env := by rfl) (hpl : (backTo pos (starEach es X.env)).any (·.1) = false := by rfl)
    (hn : (e :: es).length = n := by rfl) : EE X B ok (.Call (.Name x p) (e :: es) [] pos) (fCall F fs) := by
  have hT := cx.tabs
  obtain ⟨E, tk, good⟩ := cx.exc
  have px : Passes (L2.CX X.prog X.w) X E := passes_call tk fun _ _ _ _ h => h
  obtain ⟨f, fd, ps, FO, hm, hkp, hb, hps⟩ := C.ex
  obtain ⟨t, pa, ka⟩ := ha.ex
  refine ⟨_, pe_callG FO (hr.mono hk) cx.gd hg hm hkp hb px pa hdb he hpl, fun σ H G ρ Q r q => ka σ H G ρ _ r ?_⟩
  have q := fCall_sat q
  cases ef : fs ρ with
  | er c d => rw [ef] at q; exact q
  | no => rw [ef] at q; exact q
  | ok y =>
    rw [ef] at q
    have hy := ha.len ρ y ef
    intro vs H1 G1 s1 r1 t1
    refine ⟨G1, y.1, r1.sub, t1, by rw [hy, hn], r1.tabs hT, R.sat.imp2 q (fun d qd v H' G' g t => ?_) (fun c d hc => ?_)⟩
    · exact qd v H' G' (s1.trans (Adv.grow g)) (r1.step g) t
    · exact ((good c d hc).later r1.bd).io
theorem ee_call0 {F : List PyData → R PyData} (cx : CtxE cls X B ok) (C : Callee X.prog X.w X.K X.mg X.base k x 0 (spF X.K B.T cls 0 F)) (hr : Room j X.A) (hk : k ≤ j := by decide) (hg : Gl X x := by rfl)
    (hdb : (x == ("__debug__" : Str)) = false := by decide) : EE X B ok (.Call (.Name x p) [] [] pos) (fCall F fNil) := by
  have hT := cx.tabs
  obtain ⟨E, tk, good⟩ := cx.exc
  have px : Passes (L2.CX X.prog X.w) X E := passes_call tk fun _ _ _ _ h => h
  obtain ⟨f, fd, ps, FO, hm, hkp, hb, hps⟩ := C.ex
  refine ⟨_, pe_callG0 FO (hr.mono hk) cx.gd hg hm hkp hb px hdb, fun σ H G ρ Q r q => ?_⟩
  have q : (fNil ρ).sat (fun x => (F x.1).sat (fun d => ∀ v H' G', Adv σ G H ρ G' H' x.2 → Rel X.K B G' H' σ x.2 → Tr X.K G' v d → Q v H') ok) ok := fCall_sat q
  refine ⟨G, [], r.sub, .nil, rfl, r.tabs hT, R.sat.imp2 q (fun d qd v H' G' g t => ?_) (fun c d hc => ?_)⟩
  · exact qd v H' G' (Adv.grow g) (r.step g) t
  · exact ((good c d hc).later r.bd).io
/-- a def whose answer is a new object -/
theorem en_call {F : List PyData → R PyData} (cx : CtxE cls X B ok) (C : Callee X.prog X.w X.K X.mg X.base k x n (spN X.K B.T cls n F)) (hr : Room j X.A) (ha : EA X B ok (e :: es) fs) (hk : k ≤ j := by decide) (hg : Gl X x := by rfl)
    (hdb : (x == ("__debug__" : Str)) = false := by decide) (he : starEach (e :: es) X.env = (false, eval e X.env) :: starEach es X.env := by rfl) (hpl : (backTo pos (starEach es X.env)).any (·.1) = false := by rfl)
    (hn : (e :: es).length = n := by rfl) : EN X B ok (.Call (.Name x p) (e :: es) [] pos) (fCall F fs) := by
  have hT := cx.tabs
  obtain ⟨E, tk, good⟩ := cx.exc
  have px : Passes (L2.CX X.prog X.w) X E := passes_call tk fun _ _ _ _ h => h
  obtain ⟨f, fd, ps, FO, hm, hkp, hb, hps⟩ := C.ex
  obtain ⟨t, pa, ka⟩ := ha.ex
  refine ⟨_, pe_callG FO (hr.mono hk) cx.gd hg hm hkp hb px pa hdb he hpl, fun σ H G ρ Q r q => ka σ H G ρ _ r ?_⟩
  have q := fCall_sat q
  cases ef : fs ρ with
  | er c d => rw [ef] at q; exact q
  | no => rw [ef] at q; exact q
  | ok y =>
    rw [ef] at q
    have hy := ha.len ρ y ef
    intro vs H1 G1 s1 r1 t1
    refine ⟨G1, y.1, r1.sub, t1, by rw [hy, hn], r1.tabs hT, R.sat.imp2 q (fun d qd p H' G' hp g n' w => ?_) (fun c d hc => ?_)⟩
    · have hpB : B.H p = none := by
        cases e : B.H p with
        | none => rfl
        | some u => exact absurd hp (r1.bd.hs p (by rw [e]; simp))
      refine qd p H' G' (s1.pre hp) (s1.trans (Adv.grow g)) (r1.step g) ⟨n', hpB, w, fun j s h ej => ?_⟩
      obtain ⟨_, _, d', _, w', _⟩ := r1.ownOf h ej
      obtain ⟨o', ho, _⟩ := w'.nt
      rw [hp] at ho; cases ho
    · exact ((good c d hc).later r1.bd).io
/-- a def that may change the object in slot i -/
def ioAt (ρ : En) (i : Nat) : R PyData := match ρ[i]? with
  | some (.ow d) => .ok d
  | some (.io d) => .ok d
  | _ => .no
def ioSet (ρ : En) (i : Nat) (d : PyData) : En := match ρ[i]? with
  | some (.ow _) => ρ.set i (.ow d)
  | some (.io _) => ρ.set i (.io d)
  | _ => ρ
def fCallS (F : PyData → List PyData → R (PyData × PyData)) (i : Nat) (fs : AF) : EF := fun ρ => (ioAt ρ i).bind fun _ => (fs ρ).bind fun x => (ioAt x.2 i).bind fun d0 => (F d0 x.1).bind fun r => .ok (r.1, ioSet x.2 i r.2)
theorem ioAt_ok {ρ : En} {i : Nat} {d : PyData} (h : ioAt ρ i = .ok d) : ∃ s, ρ[i]? = some s ∧ (s = .ow d ∨ s = .io d) := by
  unfold ioAt at h
  split at h
  · cases h; exact ⟨_, by assumption, .inl rfl⟩
  · cases h; exact ⟨_, by assumption, .inr rfl⟩
  · cases h
theorem ioAt_sat {ρ : En} {i : Nat} {P : PyData → Prop} {E : OkX} (h : (ioAt ρ i).sat P E) : ∃ d, ioAt ρ i = .ok d ∧ P d := by
  cases e : ioAt ρ i with
  | ok d => rw [e] at h; exact ⟨d, rfl, h⟩
  | er c d =>
    unfold ioAt at e
    split at e <;> cases e
  | no => rw [e] at h; exact h.elim
/-- the object in slot i, where it stands -/
theorem Rel.at_io {K : PySem.W.Frag} {G H : Hp} {σ : St} {ρ : En} {i : Nat} {d : PyData} (r : Rel K B G H σ ρ) (h : ioAt ρ i = .ok d) : ∃ a s, ρ[i]? = some s ∧ adr s σ[i]? a ∧ σ[i]? = some (some (.ref a)) ∧ G a = none ∧ Own K G H a d := by
  obtain ⟨s, e, hs⟩ := ioAt_ok h
  rcases hs with rfl | rfl
  · obtain ⟨a, e1, n, z, w⟩ := r.at_ i _ e
    exact ⟨a, _, e, e1, e1, n, w⟩
  · obtain ⟨a, e1, n, z, w⟩ := r.at_ i _ e
    exact ⟨a, _, e, e1, e1, n, w⟩
theorem Grow.ioTrans {T : YT} {io : List Addr} {G0 H0 G H G' H' : Hp} {a : Addr} (h : Grow T io G0 H0 G H) (hB : H0 a = none ∨ a ∈ io) (g : Grow T [a] G H G' H') : Grow T io G0 H0 G' H' := by
  refine ⟨g.sub, h.gm.trans g.gm, fun b o e nb t => g.hm b o (h.hm b o e nb t) (fun z => ?_) t, fun b e => g.hs b (h.hs b e), fun b e z => h.gn b (g.gn b e (h.hs b z)) z, fun t => g.tb (h.tb t)⟩
  have z : b = a := by simpa using z
  subst z
  rcases hB with h | h
  · rw [h] at e; cases e
  · exact nb h
/-- the object in slot i has changed -/
theorem Rel.stepIo {K : PySem.W.Frag} {G H G' H' : Hp} {σ : St} {ρ : En} {i : Nat} {a : Addr} {s : Sl} {d' : PyData} (r : Rel K B G H σ ρ) (hs : ρ[i]? = some s) (ha : adr s σ[i]? a) (g : Grow B.T [a] G H G' H') (n' : G' a = none) (w' : Own K G' H' a d') :
    Rel K B G' H' σ (ioSet ρ i d') ∧ Adv σ G H ρ G' H' (ioSet ρ i d') := by
  obtain ⟨n0, hB, d0, es, w0, e0⟩ := r.ownOf hs ha
  have hi : i < ρ.length := (List.getElem?_eq_some_iff.mp hs).1
  obtain ⟨o0, ho0, _⟩ := w0.nt
  have bd : Grow B.T B.io B.G B.H G' H' := r.bd.ioTrans hB g
  -- the slots behind: i's object is the changed one, the others stand
  have key : ∀ (j : Nat) t, (ioSet ρ i d')[j]? = some t → (j = i ∧ ((∃ d, s = .ow d ∧ t = .ow d') ∨ ∃ d, s = .io d ∧ t = .io d')) ∨ (j ≠ i ∧ ρ[j]? = some t) := fun j t h => by
    unfold ioSet at h
    rw [hs] at h
    rcases es with rfl | rfl
    · by_cases hj : i = j
      · subst hj
        have h : (ρ.set i (.ow d'))[i]? = some t := h
        rw [List.getElem?_set_self hi] at h
        cases h
        exact .inl ⟨rfl, .inl ⟨_, rfl, rfl⟩⟩
      · have h : (ρ.set i (.ow d'))[j]? = some t := h
        rw [List.getElem?_set_ne hj] at h
        exact .inr ⟨fun z => hj z.symm, h⟩
    · by_cases hj : i = j
      · subst hj
        have h : (ρ.set i (.io d'))[i]? = some t := h
        rw [List.getElem?_set_self hi] at h
        cases h
        exact .inl ⟨rfl, .inr ⟨_, rfl, rfl⟩⟩
      · have h : (ρ.set i (.io d'))[j]? = some t := h
        rw [List.getElem?_set_ne hj] at h
        exact .inr ⟨fun z => hj z.symm, h⟩
  have adrK : ∀ (j : Nat) t b, (ioSet ρ i d')[j]? = some t → adr t σ[j]? b → ∃ u, ρ[j]? = some u ∧ adr u σ[j]? b := fun j t b h e => by
    rcases key j t h with ⟨rfl, ⟨d, es', et⟩ | ⟨d, es', et⟩⟩ | ⟨_, h⟩
    · subst es' et; exact ⟨_, hs, e⟩
    · subst es' et; exact ⟨_, hs, e⟩
    · exact ⟨t, h, e⟩
  have other : ∀ (j : Nat) t b d, j ≠ i → ρ[j]? = some t → adr t σ[j]? b → Own K G H b d → G b = none → G' b = none ∧ Own K G' H' b d := fun j t b d hj h e w n => by
    have hb : b ≠ a := fun z => r.sep j i t s a hj h hs (z ▸ e) ha
    obtain ⟨o, ho, ht⟩ := w.nt
    refine ⟨?_, w.keep g.gm fun u hu => g.hm b u hu (by simp [hb]) (by rw [ho] at hu; cases hu; exact ht)⟩
    cases e : G' b with
    | none => rfl
    | some u => exact absurd n (g.gn b (by rw [e]; simp) (by rw [ho]; simp))
  refine ⟨⟨bd, ?_, fun j t h => ?_, fun j k t u b njk hj hk ej ek => ?_⟩, g.gm, g.hs, fun p o hp np ht fr => ?_⟩
  · unfold ioSet
    rw [hs]
    rcases es with rfl | rfl
    · show σ.length = (ρ.set i (.ow d')).length
      rw [List.length_set, r.len]
    · show σ.length = (ρ.set i (.io d')).length
      rw [List.length_set, r.len]
  · rcases key j t h with ⟨rfl, ⟨d, es', et⟩ | ⟨d, es', et⟩⟩ | ⟨hj, h⟩
    · subst es' et
      obtain ⟨a', e1, _, z, _⟩ := r.at_ j _ hs
      have ha : σ[j]? = some (some (.ref a)) := ha
      rw [ha] at e1; cases e1
      exact ⟨a, ha, n', z, w'⟩
    · subst es' et
      obtain ⟨a', e1, _, z, _⟩ := r.at_ j _ hs
      have ha : σ[j]? = some (some (.ref a)) := ha
      rw [ha] at e1; cases e1
      exact ⟨a, ha, n', z, w'⟩
    · have q := r.at_ j t h
      cases t with
      | un => trivial
      | lam => exact q
      | sh d => obtain ⟨x, e, t⟩ := q; exact ⟨x, e, t.mono g.gm⟩
      | ow d =>
        obtain ⟨b, e, n, z, w⟩ := q
        obtain ⟨n2, w2⟩ := other j _ b d hj h e w n
        exact ⟨b, e, n2, z, w2⟩
      | io d =>
        obtain ⟨b, e, n, z, w⟩ := q
        obtain ⟨n2, w2⟩ := other j _ b d hj h e w n
        exact ⟨b, e, n2, z, w2⟩
  · obtain ⟨t', h1, e1⟩ := adrK j t b hj ej
    obtain ⟨u', h2, e2⟩ := adrK k u b hk ek
    exact r.sep j k t' u' b njk h1 h2 e1 e2
  · have hpa : p ≠ a := fun z => fr i s hs (by subst z; exact ha)
    refine ⟨g.hm p o hp (by simp [hpa]) ht, ?_, fun j t h e => ?_⟩
    · cases e : G' p with
      | none => rfl
      | some u => exact absurd np (g.gn p (by rw [e]; simp) (by rw [hp]; simp))
    · obtain ⟨u, h1, e1⟩ := adrK j t p h e
      exact fr j u h1 e1
theorem ee_callS (i : Nat) {y : Str} {p1 : Pos} {F : PyData → List PyData → R (PyData × PyData)} (cx : CtxE cls X B ok) (C : Callee X.prog X.w X.K X.mg X.base k x (n + 1) (spS X.K B.T cls n F)) (hr : Room j X.A) (ha : EA X B ok es fs)
    (hN : X.N[i]? = some y := by rfl) (hv : Vis X.env.scope y := by first | exact Or.inl rfl | exact Or.inr (Or.inl rfl) | exact Or.inr (Or.inr rfl)) (hk : k ≤ j := by decide) (hg : Gl X x := by rfl)
    (hdb : (x == ("__debug__" : Str)) = false := by decide) (hd1 : (y == ("__debug__" : Str)) = false := by decide) (hd2 : (y == ("__classdict__" : Str)) = false := by decide)
    (he : starEach (.Name y p1 :: es) X.env = (false, eval (.Name y p1) X.env) :: starEach es X.env := by rfl) (hpl : (backTo pos (starEach es X.env)).any (·.1) = false := by rfl)
    (hn : es.length = n := by rfl) : EE X B ok (.Call (.Name x p) (.Name y p1 :: es) [] pos) (fCallS F i fs) := by
  have hT := cx.tabs
  obtain ⟨E, tk, good⟩ := cx.exc
  have px : Passes (L2.CX X.prog X.w) X E := passes_call tk fun _ _ _ _ h => h
  obtain ⟨f, fd, ps, FO, hm, hkp, hb, hps⟩ := C.ex
  obtain ⟨t, pa, ka⟩ := ha.ex
  refine ⟨_, pe_callG FO (hr.mono hk) cx.gd hg hm hkp hb px (pa_cons (pe_var hN hv hd1 hd2) pa he) hdb he hpl, fun σ H G ρ Q r q => ?_⟩
  obtain ⟨d1, e1, q⟩ := ioAt_sat (R.sat_bind (r := ioAt ρ i) (f := fun _ => (fs ρ).bind fun x => (ioAt x.2 i).bind fun d0 => (F d0 x.1).bind fun r => R.ok (r.1, ioSet x.2 i r.2)) q)
  obtain ⟨a0, _, _, _, ea0, _, _⟩ := r.at_io e1
  have q := R.sat_bind (r := fs ρ) (f := fun x => (ioAt x.2 i).bind fun d0 => (F d0 x.1).bind fun r => R.ok (r.1, ioSet x.2 i r.2)) q
  refine ⟨.ref a0, ea0, ka σ H G ρ _ r ?_⟩
  cases ef : fs ρ with
  | er c d => rw [ef] at q; exact q
  | no => rw [ef] at q; exact q
  | ok y =>
    rw [ef] at q
    have hy := ha.len ρ y ef
    intro ws H1 G1 s1 r1 t1
    obtain ⟨d0, e0, q0⟩ := ioAt_sat (R.sat_bind (r := ioAt y.2 i) (f := fun d0 => (F d0 y.1).bind fun r => R.ok (r.1, ioSet y.2 i r.2)) q)
    have q1 := R.sat_bind (r := F d0 y.1) (f := fun r => R.ok (r.1, ioSet y.2 i r.2)) q0
    obtain ⟨a, s, hs, had, ea, n0, w0⟩ := r1.at_io e0
    rw [ea0] at ea; cases ea
    obtain ⟨_, hB, _⟩ := r1.ownOf hs had
    refine ⟨G1, y.1, a0, d0, ws, r1.sub, rfl, n0, w0, t1, by rw [hy, hn], r1.tabs hT, R.sat.imp2 q1 (fun z qz v H' G' g n' w' t' => ?_) (fun c d hc C hC v dx H' G' g' t' hn' hd' => ?_)⟩
    · obtain ⟨r2, s2⟩ := r1.stepIo hs had g n' w'
      exact qz v H' G' (s1.trans s2) r2 t'
    · refine good c d hc C hC v dx H' G' (r1.bd.ioTrans hB g') t' ?_ hd'
      cases e : B.H dx with
      | none => rfl
      | some u => exact absurd hn' (r1.bd.hs dx (by rw [e]; simp))
end
end Y


/-! YDef: a def keeps its data promise, by its body. -/
namespace Y
open PySem PySem.Spec PyProof.Rows L2
/-- the slots at the entry -/
def start (N : List Str) (ds : List PyData) : En := ds.map Sl.sh ++ List.replicate (N.length - ds.length) Sl.un
def outR : Out → R PyData
  | .nx _ => .ok .none
  | .rt d _ => .ok d
  | .rn d _ => .ok d
  | .er c d => .er c d
  | _ => .no
/-- a def's function, by its body's -/
def fnR (N : List Str) (g : SF) : List PyData → R PyData := fun ds => outR (g (start N ds))
section
variable {P : Program} {w : World} {K : PySem.W.Frag} {mg : Str → Option Value} {base : Heap} {cls : Clss} {T : YT}
theorem rel_start {K : PySem.W.Frag} {T : YT} {G H : Hp} {vs : List V} {ds : List PyData} {N : List Str} (hs : ∀ b o, G b = some o → H b = some o ∧ ∀ ps, o ≠ .tbl ps) (t : TrAll K G vs ds) :
    Rel K { T := T, io := [], G := G, H := H } G H (L2.start N vs) (start N ds) := by
  have hl := t.length
  have none_adr : ∀ (i : Nat) s a v, (start N ds)[i]? = some s → adr s v a → False := fun i s a v h e => by
    unfold start at h
    by_cases hi : i < (ds.map Sl.sh).length
    · rw [List.getElem?_append_left hi, List.getElem?_map] at h
      cases e1 : ds[i]? with
      | none => rw [e1] at h; cases h
      | some d => rw [e1] at h; cases h; exact e
    · rw [List.getElem?_append_right (by omega)] at h
      have := List.getElem?_replicate (a := Sl.un) (n := N.length - ds.length) (i := i - (ds.map Sl.sh).length)
      rw [this] at h
      split at h
      · cases h; exact e
      · cases h
  refine ⟨Grow.refl hs, ?_, fun i s h => ?_, fun i j s u a _ h _ e _ => none_adr i s a _ h e⟩
  · unfold L2.start start
    simp [hl]
  · unfold start at h
    unfold L2.start
    by_cases hi : i < (ds.map Sl.sh).length
    · rw [List.getElem?_append_left hi, List.getElem?_map] at h
      cases e1 : ds[i]? with
      | none => rw [e1] at h; cases h
      | some d =>
        rw [e1] at h; cases h
        obtain ⟨v, e2, tv⟩ := t.get e1
        have hi2 : i < (vs.map some).length := by rw [List.length_map, hl]; simpa using hi
        rw [List.getElem?_append_left hi2, List.getElem?_map, e2]
        exact ⟨v, rfl, tv⟩
    · rw [List.getElem?_append_right (by omega)] at h
      have := List.getElem?_replicate (a := Sl.un) (n := N.length - ds.length) (i := i - (ds.map Sl.sh).length)
      rw [this] at h
      split at h
      · cases h; trivial
      · cases h
/-- the code object of the def at f -/
def CodeIs (K : PySem.W.Frag) (f : Addr) (cdv : Value) : Prop := ∃ (oc : Value) (od : Option Addr) (fd : FuncData) (osl : Array (Option Value)), K.lookup f = some ⟨oc, od, .func fd, osl⟩ ∧ fd.code = cdv
/-- a body's derivation, for every entry -/
def BodyOk (P : Program) (w : World) (K : PySem.W.Frag) (mg : Str → Option Value) (base : Heap) (cls : Clss) (T : YT) (k : Nat) (N : List Str) (qual : Str) (st : Stmt) (f : Addr) (g : SF) : Prop :=
  ∀ (cdv : Value) (A : Around) (outer : List Env) (s : Shared) (H : Hp) (E : XK) (B : Ent) (ok : OkX), CodeIs K f cdv → B.T = T →
    Room k (A.deeper (envOfC qual (defScope st) s.heap.objs.size f cdv)) → A.guards = some [] →
    CtxOk cls (cxOf (L2.CX P w) P w K mg base N qual (defScope st) f cdv A outer s H E) B ok →
    SB (cxOf (L2.CX P w) P w K mg base N qual (defScope st) f cdv A outer s H E) B ok (defBody st) g
theorem fnG_of {x qual : Str} {st : Stmt} {f : Addr} {fd : FuncData} {N ps : List Str} {k : Nat} {sp : Sp} (F : Fun K x qual st f fd) (S : FnScope N ps (defScope st)) (len : ∀ vs H Q E, sp vs H Q E → vs.length = ps.length)
    (body : ∀ (cdv : Value) (A : Around) (outer : List Env) (s : Shared) (H : Hp) (vs : List V) (Q : VK) (E : XK), CodeIs K f cdv → Room k (A.deeper (envOfC qual (defScope st) s.heap.objs.size f cdv)) → A.guards = some [] → sp vs H Q E →
      ∃ t, PSs (cxOf (L2.CX P w) P w K mg base N qual (defScope st) f cdv A outer s H E) (defBody st) t ∧ t { nx := fun _ H' => Q .non H', rt := Q } (L2.start N vs) H) : FnG P w K mg base (k + 1) f fd ps sp := by
  obtain ⟨oc, od, kV, doc, pm, an, cdv, ct, osl, rfl, lk, hcd⟩ := F.ex
  exact ⟨len, fun A outer s H args us vs Q E hr hG e0 hb r hsp => LamX.run_ofS lk hcd S hr e0 hb r (len _ _ _ _ hsp) fun hr' => body cdv A outer s H vs Q E ⟨oc, od, _, osl, lk, rfl⟩ hr' hG hsp⟩
theorem ctx_of {N : List Str} {qual : Str} {sc : Scope} {f : Addr} {cdv : Value} {A : Around} {outer : List Env} {s : Shared} {H : Hp} {E : XK} {B : Ent} (hT : Base K B.T B.G B.H) (hG : A.guards = some []) : CtxOk cls (cxOf (L2.CX P w) P w K mg base N qual sc f cdv A outer s H E) B (ErrOk K B.T cls B.io B.G B.H E) :=
  ⟨⟨rfl, hT, hG, E, takes_of rfl rfl rfl rfl, fun _ _ h => h⟩, passes_of rfl⟩
theorem fn_pure {x qual : Str} {st : Stmt} {f : Addr} {fd : FuncData} {N ps : List Str} {k n : Nat} {g : SF} (Fn : Fun K x qual st f fd) (S : FnScope N ps (defScope st)) (hps : ps.length = n) (body : BodyOk P w K mg base cls T k N qual st f g) :
    FnG P w K mg base (k + 1) f fd ps (spF K T cls n (fnR N g)) := by
  refine fnG_of Fn S (fun vs H Q E h => ?_) (fun cdv A outer s H vs Q E hcd hr hG h => ?_)
  · obtain ⟨G, ds, _, t, hl, _⟩ := h
    rw [t.length, hl, hps]
  · obtain ⟨G, ds, hs, t, hl, hT, q⟩ := h
    obtain ⟨u, pu, ku⟩ := (body cdv A outer s H E { T := T, io := [], G := G, H := H } (ErrOk K T cls [] G H E) hcd rfl hr hG (ctx_of hT hG)).ex
    refine ⟨u, pu, ku (L2.start N vs) H G (start N ds) _ (rel_start hs t) ?_⟩
    unfold fnR at q
    cases e : g (start N ds) with
    | nx ρ => rw [e] at q; exact fun σ H' G' s' r => q .non H' G' r.bd .non
    | rt d ρ => rw [e] at q; exact fun v σ H' G' s' r t' => q v H' G' r.bd t'
    | rn d ρ =>
      rw [e] at q
      exact fun p σ H' G' s' r x => by
        obtain ⟨G2, s2, _, r2, t2⟩ := r.frz x
        exact q _ H' G2 r2.bd t2
    | er c d => rw [e] at q; exact q
    | bk ρ => rw [e] at q; exact q.elim
    | ct ρ => rw [e] at q; exact q.elim
    | no => rw [e] at q; exact q.elim
def outN : Out → R PyData
  | .rn d _ => .ok d
  | .er c d => .er c d
  | _ => .no
def fnN (N : List Str) (g : SF) : List PyData → R PyData := fun ds => outN (g (start N ds))
theorem fn_new {x qual : Str} {st : Stmt} {f : Addr} {fd : FuncData} {N ps : List Str} {k n : Nat} {g : SF} (Fn : Fun K x qual st f fd) (S : FnScope N ps (defScope st)) (hps : ps.length = n) (body : BodyOk P w K mg base cls T k N qual st f g) :
    FnG P w K mg base (k + 1) f fd ps (spN K T cls n (fnN N g)) := by
  refine fnG_of Fn S (fun vs H Q E h => ?_) (fun cdv A outer s H vs Q E hcd hr hG h => ?_)
  · obtain ⟨G, ds, _, t, hl, _⟩ := h
    rw [t.length, hl, hps]
  · obtain ⟨G, ds, hs, t, hl, hT, q⟩ := h
    obtain ⟨u, pu, ku⟩ := (body cdv A outer s H E { T := T, io := [], G := G, H := H } (ErrOk K T cls [] G H E) hcd rfl hr hG (ctx_of hT hG)).ex
    refine ⟨u, pu, ku (L2.start N vs) H G (start N ds) _ (rel_start hs t) ?_⟩
    unfold fnN at q
    cases e : g (start N ds) with
    | nx ρ => rw [e] at q; exact q.elim
    | rt d ρ => rw [e] at q; exact q.elim
    | rn d ρ => rw [e] at q; exact fun p σ H' G' s' r x => q p H' G' x.b r.bd x.g x.own
    | er c d => rw [e] at q; exact q
    | bk ρ => rw [e] at q; exact q.elim
    | ct ρ => rw [e] at q; exact q.elim
    | no => rw [e] at q; exact q.elim
/-- the first parameter an object that may be changed -/
def startS (N : List Str) (d0 : PyData) (ds : List PyData) : En := .io d0 :: start N.tail ds
def outS (ρ : En) (r : PyData) : R (PyData × PyData) := (ioAt ρ 0).bind fun d => .ok (r, d)
def ioOnly (ρ : En) : Bool := match ρ with
  | .io _ :: _ => true
  | _ => false
def fnS (N : List Str) (g : SF) : PyData → List PyData → R (PyData × PyData) := fun d0 ds => match g (startS N d0 ds) with
  | .nx ρ => if ioOnly ρ = true then outS ρ .none else .no
  | .rt r ρ => if ioOnly ρ = true then outS ρ r else .no
  | .rn r ρ => if ioOnly ρ = true then outS ρ r else .no
  | .er c d => .er c d
  | _ => .no
theorem rel_startS {K : PySem.W.Frag} {T : YT} {G H : Hp} {a : Addr} {d0 : PyData} {vs : List V} {ds : List PyData} {x : Str} {N : List Str} (hs : ∀ b o, G b = some o → H b = some o ∧ ∀ ps, o ≠ .tbl ps) (n : G a = none) (w : Own K G H a d0) (t : TrAll K G vs ds) :
    Rel K { T := T, io := [a], G := G, H := H } G H (L2.start (x :: N) (.ref a :: vs)) (startS (x :: N) d0 ds) := by
  have r := rel_start (T := T) (N := N) hs t
  have e : L2.start (x :: N) (.ref a :: vs) = some (.ref a) :: L2.start N vs := by
    unfold L2.start
    simp
  rw [e]
  refine ⟨Grow.refl hs, ?_, fun i s h => ?_, fun i j s u b nij hi hj ei ej => ?_⟩
  · show (L2.start N vs).length + 1 = (start N ds).length + 1
    rw [r.len]
  · cases i with
    | zero =>
      have h : some (Sl.io d0) = some s := h
      cases h
      exact ⟨a, rfl, n, by simp, w⟩
    | succ i =>
      have h : (start N ds)[i]? = some s := h
      have q := r.at_ i s h
      show SlOk K _ G H (L2.start N vs)[i]? s
      cases s with
      | un => trivial
      | lam => exact q
      | sh d => exact q
      | ow d => exact q
      | io d =>
        obtain ⟨b, _, _, z, _⟩ := q
        cases z
  · have no : ∀ (i : Nat) s, (start N ds)[i]? = some s → adr s (L2.start N vs)[i]? b → False := fun i s h e => by
      obtain ⟨_, _, d, es, _, _⟩ := r.ownOf h e
      unfold start at h
      by_cases hl : i < (ds.map Sl.sh).length
      · rw [List.getElem?_append_left hl, List.getElem?_map] at h
        cases e1 : ds[i]? with
        | none => rw [e1] at h; cases h
        | some z => rw [e1] at h; cases h; exact e
      · rw [List.getElem?_append_right (by omega)] at h
        have := List.getElem?_replicate (a := Sl.un) (n := N.length - ds.length) (i := i - (ds.map Sl.sh).length)
        rw [this] at h
        split at h
        · cases h; exact e
        · cases h
    cases i with
    | zero =>
      cases j with
      | zero => exact nij rfl
      | succ j => exact no j u hj ej
    | succ i => exact no i s hi ei
theorem ioOnly_at {K : PySem.W.Frag} {T : YT} {G0 H0 G H : Hp} {a : Addr} {σ : St} {ρ : En} (r : Rel K { T := T, io := [a], G := G0, H := H0 } G H σ ρ) (h : ioOnly ρ = true) : ∃ d, ioAt ρ 0 = .ok d ∧ G a = none ∧ Own K G H a d := by
  unfold ioOnly at h
  split at h
  · rename_i d ρ'
    obtain ⟨b, _, n, z, w⟩ := r.at_ 0 (.io d) rfl
    have z : b = a := by simpa using z
    subst z
    exact ⟨d, by unfold ioAt; rfl, n, w⟩
  · cases h
theorem fn_st {x qual y : Str} {st : Stmt} {f : Addr} {fd : FuncData} {N ps : List Str} {k n : Nat} {g : SF} (Fn : Fun K x qual st f fd) (S : FnScope (y :: N) ps (defScope st)) (hps : ps.length = n + 1) (body : BodyOk P w K mg base cls T k (y :: N) qual st f g) :
    FnG P w K mg base (k + 1) f fd ps (spS K T cls n (fnS (y :: N) g)) := by
  refine fnG_of Fn S (fun vs H Q E h => ?_) (fun cdv A outer s H vs Q E hcd hr hG h => ?_)
  · obtain ⟨G, ds, a, d0, ws, _, rfl, _, _, t, hl, _⟩ := h
    rw [List.length_cons, t.length, hl, hps]
  · obtain ⟨G, ds, a, d0, ws, hs, rfl, n0, w0, t, hl, hT, q⟩ := h
    obtain ⟨u, pu, ku⟩ := (body cdv A outer s H E { T := T, io := [a], G := G, H := H } (ErrOk K T cls [a] G H E) hcd rfl hr hG (ctx_of hT hG)).ex
    refine ⟨u, pu, ku _ H G (startS (y :: N) d0 ds) _ (rel_startS hs n0 w0 t) ?_⟩
    unfold fnS at q
    cases e : g (startS (y :: N) d0 ds) with
    | nx ρ =>
      rw [e] at q
      obtain ⟨hi, q⟩ := ite_sat q
      exact fun σ H' G' s' r => by
        obtain ⟨d, ed, n', w'⟩ := ioOnly_at r hi
        unfold outS at q
        rw [ed] at q
        exact q .non H' G' r.bd n' w' .non
    | rt d ρ =>
      rw [e] at q
      obtain ⟨hi, q⟩ := ite_sat q
      exact fun v σ H' G' s' r t' => by
        obtain ⟨d, ed, n', w'⟩ := ioOnly_at r hi
        unfold outS at q
        rw [ed] at q
        exact q v H' G' r.bd n' w' t'
    | rn d ρ =>
      rw [e] at q
      obtain ⟨hi, q⟩ := ite_sat q
      exact fun p σ H' G' s' r x => by
        obtain ⟨G2, s2, _, r2, t2⟩ := r.frz x
        obtain ⟨d, ed, n', w'⟩ := ioOnly_at r2 hi
        unfold outS at q
        rw [ed] at q
        exact q _ H' G2 r2.bd n' w' t2
    | er c d => rw [e] at q; exact q
    | bk ρ => rw [e] at q; exact q.elim
    | ct ρ => rw [e] at q; exact q.elim
    | no => rw [e] at q; exact q.elim
end
end Y


/-! YLoop: loops and comprehensions by data. -/
namespace Y
open PySem PySem.Spec PyProof.Rows L2
/-- what a walk gives: these data, in order, whatever grows meanwhile -/
structure Yields (K : PySem.W.Frag) (T : YT) (J : It) (G : Hp) (ds : List PyData) : Prop where
  go : ∀ (i : Nat) d (G2 H2 : Hp), ds[i]? = some d → Sub G G2 → (∀ b o, G2 b = some o → H2 b = some o ∧ ∀ ps, o ≠ .tbl ps) →
    J.go i H2 ∧ ∀ x H3, J.yld i H2 x H3 → ∃ G3, Grow T [] G2 H2 G3 H3 ∧ Tr K G3 x d
  stop : ∀ (i : Nat) (G2 H2 : Hp), ds.length ≤ i → Sub G G2 → (∀ b o, G2 b = some o → H2 b = some o ∧ ∀ ps, o ≠ .tbl ps) → J.stop i H2
structure EI (X : Cx) (B : Ent) (ok : OkX) (tg e : Expr) (f : AF) : Prop where
  ex : ∃ wi : TI, PI X tg e wi ∧ ∀ (σ : St) (H G : Hp) (ρ : En) (W : It → Hp → Prop), Rel X.K B G H σ ρ →
    (f ρ).sat (fun r => ∀ J H' G', Adv σ G H ρ G' H' r.2 → Rel X.K B G' H' σ r.2 → Yields X.K B.T J G' r.1 → W J H') ok → wi σ H W
section
variable {X : Cx} {B : Ent} {ok : OkX} {cls : Clss} {tg a b c e : Expr} {es : List Expr} {fa fb fc f : EF} {fs : AF} {ft : TF} {pos p : Pos}
theorem piOr {w w' : TI} (h : PI X tg e w) (h' : PI X tg e w') : PI X tg e (fun σ H R => w σ H R ∨ w' σ H R) := by
  refine ⟨fun pins s σ H R I q => ?_⟩
  rcases q with q | q
  · exact h.run pins s σ H R I q
  · exact h'.run pins s σ H R I q
def fItems (f : EF) : AF := fun ρ => (f ρ).bind fun x => (ofO (itemsOf x.1)).bind fun ds => .ok (ds, x.2)
theorem ei_seq (h : EE X B ok e f) : EI X B ok tg e (fItems f) := by
  obtain ⟨t, p, k⟩ := h.ex
  refine ⟨_, piOr (pi_list p) (pi_tup p), fun σ H G ρ W r q => ?_⟩
  have q := R.sat_bind (r := f ρ) (f := fun x => (ofO (itemsOf x.1)).bind fun ds => R.ok (ds, x.2)) q
  cases ef : f ρ with
  | er c d => rw [ef] at q; exact .inl (k σ H G ρ _ r (by rw [ef]; exact q))
  | no => rw [ef] at q; exact q.elim
  | ok y =>
    rw [ef] at q
    obtain ⟨ds, ei, q⟩ := ofO_sat (R.sat_bind (r := ofO (itemsOf y.1)) (f := fun ds => R.ok (ds, y.2)) q)
    obtain ⟨d, ρ1⟩ := y
    cases d with
    | list xs =>
      cases ei
      refine .inl (k σ H G ρ _ r ?_)
      rw [ef]
      intro v H1 G1 s1 r1 t1
      cases t1 with | lst h t =>
      rename_i a vs
      refine ⟨a, rfl, ⟨vs, .inl (r1.subG.rd h)⟩, q _ H1 G1 s1 r1 ⟨fun i d G2 H2 hi s2 h2 => ?_, fun i G2 H2 hi s2 h2 => ?_⟩⟩
      · obtain ⟨x, e1, tx⟩ := t.get hi
        have hL : SqL X.K H2 a vs := .inl ((sub_of h2).rd (s2.rd h))
        exact ⟨⟨vs, x, hL, e1⟩, fun y H3 hy => by
          obtain ⟨rfl, hy⟩ := hy
          have e2 := hy vs hL
          rw [e1] at e2; cases e2
          exact ⟨G2, Grow.refl h2, tx.mono s2⟩⟩
      · exact ⟨vs, .inl ((sub_of h2).rd (s2.rd h)), by rw [t.length]; exact hi⟩
    | tuple xs =>
      cases ei
      refine .inr (k σ H G ρ _ r ?_)
      rw [ef]
      intro v H1 G1 s1 r1 t1
      cases t1 with | tup h t =>
      rename_i a vs
      refine ⟨a, rfl, ⟨vs, sqt (r1.subG.rd h)⟩, q _ H1 G1 s1 r1 ⟨fun i d G2 H2 hi s2 h2 => ?_, fun i G2 H2 hi s2 h2 => ?_⟩⟩
      · obtain ⟨x, e1, tx⟩ := t.get hi
        have hL : SqT X.K H2 a vs := sqt ((sub_of h2).rd (s2.rd h))
        exact ⟨⟨vs, x, hL, e1⟩, fun y H3 hy => by
          obtain ⟨rfl, hy⟩ := hy
          have e2 := hy vs hL
          rw [e1] at e2; cases e2
          exact ⟨G2, Grow.refl h2, tx.mono s2⟩⟩
      · exact ⟨vs, sqt ((sub_of h2).rd (s2.rd h)), by rw [t.length]; exact hi⟩
    | _ => cases ei
/-! ### range -/
def rangeD (lo hi : Int) : List PyData := (List.range (hi - lo).toNat).map fun i => .int (lo + (i : Nat))
def rngOf : List PyData → Option (List PyData)
  | [.int j] => if -1000000 ≤ j ∧ j ≤ 1000000 then some (rangeD 0 j) else none
  | [.int i, .int j] => if (-1000000 ≤ i ∧ i ≤ 1000000) ∧ -1000000 ≤ j ∧ j ≤ 1000000 then some (rangeD i j) else none
  | _ => none
def fRng (fs : AF) : AF := fun ρ => (fs ρ).bind fun x => (ofO (rngOf x.1)).bind fun ds => .ok (ds, x.2)
theorem rangeD_get {lo hi : Int} {i : Nat} {d : PyData} (h : (rangeD lo hi)[i]? = some d) : i < (hi - lo).toNat ∧ d = .int (lo + (i : Nat)) := by
  unfold rangeD at h
  rw [List.getElem?_map] at h
  cases e : (List.range (hi - lo).toNat)[i]? with
  | none => rw [e] at h; cases h
  | some j =>
    rw [e] at h; cases h
    obtain ⟨h1, h2⟩ := List.getElem?_eq_some_iff.mp e
    simp at h1 h2
    subst h2
    exact ⟨by omega, rfl⟩
theorem yields_rng {K : PySem.W.Frag} {T : YT} {G : Hp} {lo hi : Int} {n : Nat} (hn : n = (hi - lo).toNat) : Yields K T (Itr lo n) G (rangeD lo hi) := by
  subst hn
  refine ⟨fun i d G2 H2 h _ h2 => ?_, fun i G2 H2 h _ _ => ?_⟩
  · obtain ⟨h1, rfl⟩ := rangeD_get h
    exact ⟨h1, fun x H3 hy => by
      obtain ⟨rfl, rfl⟩ := hy
      exact ⟨G2, Grow.refl h2, .int _⟩⟩
  · unfold rangeD at h
    rw [List.length_map, List.length_range] at h
    exact h
theorem ei_range1 (hm : X.mg "range" = none) (h : EA X B ok [a] fs) (hg : Gl X "range" := by rfl) (hs : starEach [a] X.env = [(false, eval a X.env)] := by rfl) : EI X B ok tg (.Call (.Name "range" p) [a] [] pos) (fRng fs) := by
  obtain ⟨t, pa, k⟩ := h.ex
  refine ⟨_, pi_range1 hg hm pa hs, fun σ H G ρ W r q => k σ H G ρ _ r ?_⟩
  have q := R.sat_bind (r := fs ρ) (f := fun x => (ofO (rngOf x.1)).bind fun ds => R.ok (ds, x.2)) q
  cases ef : fs ρ with
  | er c d => rw [ef] at q; exact q
  | no => rw [ef] at q; exact q
  | ok y =>
    rw [ef] at q
    have hl := h.len ρ y ef
    obtain ⟨xs, ρ1⟩ := y
    obtain ⟨ds, ei, q⟩ := ofO_sat (R.sat_bind (r := ofO (rngOf xs)) (f := fun ds => R.ok (ds, ρ1)) q)
    intro vs H1 G1 s1 r1 t1
    match xs, hl, ei, t1 with
    | [.int j], _, ei, .cons (.int _) .nil =>
      unfold rngOf at ei
      simp only at ei
      split at ei
      · rename_i hb
        cases ei
        exact ⟨j, rfl, by omega, by omega, q _ H1 G1 s1 r1 (yields_rng (by simp))⟩
      · cases ei
    | [.none], _, ei, _ => simp [rngOf] at ei
    | [.bool _], _, ei, _ => simp [rngOf] at ei
    | [.str _], _, ei, _ => simp [rngOf] at ei
    | [.list _], _, ei, _ => simp [rngOf] at ei
    | [.tuple _], _, ei, _ => simp [rngOf] at ei
    | [.dict _], _, ei, _ => simp [rngOf] at ei
theorem ei_range2 (hm : X.mg "range" = none) (h : EA X B ok [a, b] fs) (hg : Gl X "range" := by rfl) (hs : starEach [a, b] X.env = [(false, eval a X.env), (false, eval b X.env)] := by rfl) (hs2 : starEach [b] X.env = [(false, eval b X.env)] := by rfl) :
    EI X B ok tg (.Call (.Name "range" p) [a, b] [] pos) (fRng fs) := by
  obtain ⟨t, pa, k⟩ := h.ex
  refine ⟨_, pi_range2 hg hm pa hs hs2, fun σ H G ρ W r q => k σ H G ρ _ r ?_⟩
  have q := R.sat_bind (r := fs ρ) (f := fun x => (ofO (rngOf x.1)).bind fun ds => R.ok (ds, x.2)) q
  cases ef : fs ρ with
  | er c d => rw [ef] at q; exact q
  | no => rw [ef] at q; exact q
  | ok y =>
    rw [ef] at q
    have hl := h.len ρ y ef
    obtain ⟨xs, ρ1⟩ := y
    obtain ⟨ds, ei, q⟩ := ofO_sat (R.sat_bind (r := ofO (rngOf xs)) (f := fun ds => R.ok (ds, ρ1)) q)
    intro vs H1 G1 s1 r1 t1
    unfold rngOf at ei
    split at ei
    · simp at hl
    · split at ei
      · rename_i i j hb
        cases ei
        cases t1 with | cons u t1 =>
        cases t1 with | cons w t1 =>
        cases t1
        cases u; cases w
        exact ⟨i, j, rfl, by omega, q _ H1 G1 s1 r1 (yields_rng rfl)⟩
      · cases ei
    · cases ei
/-! ### for -/
def forF (g : PyData → En → Option En) (b : SF) : List PyData → En → Out
  | [], ρ => .nx ρ
  | d :: ds, ρ => match g d ρ with
    | some ρ1 => match b ρ1 with
      | .nx ρ2 => forF g b ds ρ2
      | .ct ρ2 => forF g b ds ρ2
      | .bk ρ2 => .nx ρ2
      | o => o
    | none => .no
def sFor (fi : AF) (g : PyData → En → Option En) (b : SF) : SF := fun ρ => ofR (fi ρ) fun x => forF g b x.1 x.2
theorem ss_for {body : List Stmt} {fi : AF} {g : PyData → En → Option En} {bf : SF} {sl : List Nat} (cx : CtxOk cls X B ok) (hi : EI X B ok tg e fi) (hg : TT' X B tg sl g) (hb : SB X B ok body bf) (hs : ∀ x, foldedSetIterable e X.env x = pure x := by intro _; rfl) :
    SS X B ok (.For tg e body [] pos) (sFor fi g bf) := by
  obtain ⟨wi, pw, kw⟩ := hi.ex
  obtain ⟨tt, pg, kg⟩ := hg.ex
  obtain ⟨tb, pb, kb⟩ := hb.ex
  refine ⟨_, ps_for cx.own cx.calm pw pg pb hs, fun σ H G ρ D r q => kw σ H G ρ _ r ((ofR_sat q).imp fun y qy J H1 G1 s1 r1 Yl => ?_)⟩
  have qy := qy.sub s1.sub
  obtain ⟨ds, ρ1⟩ := y
  refine ⟨fun i m σ2 H2 => m + i = ds.length ∧ ∃ G2 ρ2, Sub G1 G2 ∧ Rel X.K B G2 H2 σ2 ρ2 ∧ (forF g bf (ds.drop i) ρ2).sat X.K B ok G2 D, ⟨ds.length, by omega, G1, ρ1, Sub.refl _, r1, qy⟩, fun i m σ2 H2 hW => ?_⟩
  obtain ⟨hm, G2, ρ2, s2, r2, q2⟩ := hW
  cases hd : ds[i]? with
  | none =>
    have hl := List.getElem?_eq_none_iff.mp hd
    rw [List.drop_eq_nil_of_le hl] at q2
    exact .inl ⟨Yl.stop i G2 H2 hl s2 r2.sub, q2 σ2 H2 G2 (Sub.refl _) r2⟩
  | some d =>
    obtain ⟨hlt, hget⟩ := List.getElem?_eq_some_iff.mp hd
    rw [List.drop_eq_getElem_cons hlt, hget] at q2
    obtain ⟨hgo, hy⟩ := Yl.go i d G2 H2 hd s2 r2.sub
    refine .inr ⟨hgo, fun σ3 H3 => (m - 1) + (i + 1) = ds.length ∧ ∃ G3 ρ3, Sub G1 G3 ∧ Rel X.K B G3 H3 σ3 ρ3 ∧ (forF g bf (ds.drop (i + 1)) ρ3).sat X.K B ok G3 D, fun σ3 H3 h3 => ⟨m - 1, by omega, h3⟩, fun x H3 hx => ?_⟩
    obtain ⟨G3, g3, t3⟩ := hy x H3 hx
    have r3 := r2.step g3
    unfold forF at q2
    cases eg : g d ρ2 with
    | none => rw [eg] at q2; exact q2.elim
    | some ρ3 =>
      rw [eg] at q2
      refine kg σ2 H3 G3 ρ2 ρ3 x d _ r3 t3 eg fun σ4 r4 _ => kb σ4 H3 G3 ρ3 _ r4 ?_
      have q2 : Out.sat (match bf ρ3 with | .nx ρ2 => forF g bf (ds.drop (i + 1)) ρ2 | .ct ρ2 => forF g bf (ds.drop (i + 1)) ρ2 | .bk ρ2 => .nx ρ2 | o => o) X.K B ok G2 D := q2
      have q2 := q2.sub g3.gm
      cases eb : bf ρ3 with
      | nx ρ4 => rw [eb] at q2; exact fun σ5 H5 G5 s5 r5 => ⟨by omega, G5, ρ4, (s2.trans g3.gm).trans s5, r5, q2.sub s5⟩
      | ct ρ4 => rw [eb] at q2; exact fun σ5 H5 G5 s5 r5 => ⟨by omega, G5, ρ4, (s2.trans g3.gm).trans s5, r5, q2.sub s5⟩
      | bk ρ4 => rw [eb] at q2; exact q2
      | rt d ρ4 => rw [eb] at q2; exact q2
      | rn d ρ4 => rw [eb] at q2; exact q2
      | er c d => rw [eb] at q2; exact q2
      | no => rw [eb] at q2; exact q2
/-! ### while -/
def whileF (c : TF) (b : SF) : Nat → En → Out
  | 0, _ => .no
  | n + 1, ρ => ofR (c ρ) fun x => if x.1 = true then (match b x.2 with
      | .nx ρ2 => whileF c b n ρ2
      | .ct ρ2 => whileF c b n ρ2
      | .bk ρ2 => .nx ρ2
      | o => o) else .nx x.2
/-- the turns that a while may take -/
def fuel : Nat := 1000000000
def sWhile (c : TF) (b : SF) : SF := fun ρ => whileF c b fuel ρ
theorem ss_while {body : List Stmt} {bf : SF} (cx : CtxOk cls X B ok) (hc : ET X B ok c ft) (hb : SB X B ok body bf) : SS X B ok (.While c body [] pos) (sWhile ft bf) := by
  obtain ⟨tc, pc, kc⟩ := hc.ex
  obtain ⟨tb, pb, kb⟩ := hb.ex
  refine ⟨_, ps_while cx.own pc pb, fun σ H G ρ D r q => ?_⟩
  refine ⟨fun m σ2 H2 => ∃ G2 ρ2, Rel X.K B G2 H2 σ2 ρ2 ∧ (whileF ft bf m ρ2).sat X.K B ok G2 D, ⟨fuel, G, ρ, r, q⟩, fun m σ2 H2 hW => ?_⟩
  obtain ⟨G2, ρ2, r2, q2⟩ := hW
  cases m with
  | zero => exact q2.elim
  | succ m =>
    unfold whileF at q2
    refine kc σ2 H2 G2 ρ2 _ r2 ((ofR_sat q2).imp fun x qx H3 G3 s3 r3 => ?_)
    have qx := qx.sub s3.sub
    by_cases hx : x.1 = true
    · rw [if_pos hx] at qx ⊢
      refine ⟨fun σ5 H5 => ∃ G5 ρ5, Rel X.K B G5 H5 σ5 ρ5 ∧ (whileF ft bf m ρ5).sat X.K B ok G5 D, fun σ5 H5 h5 => ⟨m, by omega, h5⟩, kb σ2 H3 G3 x.2 _ r3 ?_⟩
      cases eb : bf x.2 with
      | nx ρ4 => rw [eb] at qx; exact fun σ5 H5 G5 s5 r5 => ⟨G5, ρ4, r5, qx.sub s5⟩
      | ct ρ4 => rw [eb] at qx; exact fun σ5 H5 G5 s5 r5 => ⟨G5, ρ4, r5, qx.sub s5⟩
      | bk ρ4 => rw [eb] at qx; exact qx
      | rt d ρ4 => rw [eb] at qx; exact qx
      | rn d ρ4 => rw [eb] at qx; exact qx
      | er c d => rw [eb] at qx; exact qx
      | no => rw [eb] at qx; exact qx
    · rw [if_neg hx] at qx ⊢
      exact qx σ2 H3 G3 (Sub.refl _) r3
end
end Y


/-! YComp: list comprehensions by data. -/
namespace Y
open PySem PySem.Spec PyProof.Rows L2
def wipeE (ρ : En) : List Nat → En
  | [] => ρ
  | v :: vs => (wipeE ρ vs).set v .un
/-- the comprehension's own names are told again as they were -/
def backE (ρ0 ρ : En) : List Nat → En
  | [] => ρ
  | v :: vs => match ρ0[v]? with
    | some (.sh d) => (backE ρ0 ρ vs).set v (.sh d)
    | _ => backE ρ0 ρ vs
section
variable {K : PySem.W.Frag} {B : Ent} {G H : Hp} {σ : St} {ρ : En}
theorem wipe_at : ∀ {vs : List Nat} {i : Nat}, (wipe σ vs)[i]? = if i ∈ vs then (if i < σ.length then some none else none) else σ[i]?
  | [], i => by simp [wipe]
  | v :: vs, i => by
    unfold wipe
    by_cases h : v = i
    · subst h
      by_cases hl : v < σ.length
      · rw [List.getElem?_set_self (by rw [wipe_length]; exact hl), if_pos List.mem_cons_self, if_pos hl]
      · rw [List.getElem?_eq_none (by rw [List.length_set, wipe_length]; omega), if_pos List.mem_cons_self, if_neg hl]
    · rw [List.getElem?_set_ne h, wipe_at]
      by_cases hm : i ∈ vs
      · rw [if_pos hm, if_pos (List.mem_cons_of_mem _ hm)]
      · rw [if_neg hm, if_neg (by simp only [List.mem_cons, not_or]; exact ⟨fun e => h e.symm, hm⟩)]
theorem wipe_same {σ σ' : St} {ρ ρ' : En} {sl vs : List Nat} (h : Mv sl σ ρ σ' ρ') (hs : ∀ i, i ∈ sl → i ∈ vs) : wipe σ' vs = wipe σ vs := by
  apply List.ext_getElem?
  intro i
  rw [wipe_at, wipe_at, h.len]
  by_cases hm : i ∈ vs
  · rw [if_pos hm, if_pos hm]
  · rw [if_neg hm, if_neg hm]
    exact h.same i fun z => hm (hs i z)
theorem wipe_wipe {vs : List Nat} : wipe (wipe σ vs) vs = wipe σ vs := by
  apply List.ext_getElem?
  intro i
  rw [wipe_at, wipe_at, wipe_length]
  by_cases hm : i ∈ vs
  · rw [if_pos hm, if_pos hm]
  · rw [if_neg hm]
theorem Rel.wipe : ∀ {vs : List Nat}, Rel K B G H σ ρ → Rel K B G H (L2.wipe σ vs) (wipeE ρ vs)
  | [], r => r
  | v :: vs, r => (Rel.wipe (vs := vs) r).setUn
theorem wipeE_at : ∀ {vs : List Nat} {i : Nat}, i ∈ vs → (wipeE ρ vs)[i]? = if i < ρ.length then some Sl.un else none := by
  have hl : ∀ vs : List Nat, (wipeE ρ vs).length = ρ.length := fun vs => by
    induction vs with
    | nil => rfl
    | cons v vs ih => unfold wipeE; rw [List.length_set, ih]
  intro vs
  induction vs with
  | nil => intro i h; cases h
  | cons v vs ih =>
    intro i h
    unfold wipeE
    by_cases e : v = i
    · subst e
      by_cases hi : v < ρ.length
      · rw [List.getElem?_set_self (by rw [hl]; exact hi), if_pos hi]
      · rw [List.getElem?_eq_none (by rw [List.length_set, hl]; omega), if_neg hi]
    · rw [List.getElem?_set_ne e]
      exact ih (by rcases List.mem_cons.mp h with z | z; exact absurd z.symm e; exact z)
/-- knowledge of the other slots holds of the frame's own -/
theorem Rel.unwipe {vs : List Nat} (r : Rel K B G H (L2.wipe σ vs) (wipeE ρ vs)) : Rel K B G H σ (wipeE ρ vs) := by
  have eq : ∀ i, i ∉ vs → (L2.wipe σ vs)[i]? = σ[i]? := fun i h => by rw [wipe_at, if_neg h]
  have un : ∀ i s, i ∈ vs → (wipeE ρ vs)[i]? = some s → s = .un := fun i s h e => by
    rw [wipeE_at h] at e
    split at e <;> cases e
    rfl
  refine ⟨r.bd, by have := r.len; rw [wipe_length] at this; exact this, fun i s h => ?_, fun i j s t a n hi hj ei ej => ?_⟩
  · by_cases hm : i ∈ vs
    · rw [un i s hm h]; trivial
    · have q := r.at_ i s h
      rw [eq i hm] at q
      exact q
  · have hmi : i ∉ vs := fun z => by rw [un i s z hi] at ei; exact ei
    have hmj : j ∉ vs := fun z => by rw [un j t z hj] at ej; exact ej
    exact r.sep i j s t a n hi hj (by rw [eq i hmi]; exact ei) (by rw [eq j hmj]; exact ej)
theorem Rel.back {G0 H0 : Hp} {ρ0 : En} (r0 : Rel K B G0 H0 σ ρ0) (s : Sub G0 G) : ∀ {vs : List Nat}, Rel K B G H σ ρ → Rel K B G H σ (backE ρ0 ρ vs)
  | [], r => r
  | v :: vs, r => by
    have r1 := Rel.back r0 s (vs := vs) r
    unfold backE
    split
    · rename_i d e
      obtain ⟨x, ex, t⟩ := r0.at_ v _ e
      have r2 := r1.setSh (i := v) (t.mono s)
      have es : σ.set v (some x) = σ := by
        apply List.ext_getElem?
        intro j
        by_cases hj : v = j
        · subst hj
          have hl : v < σ.length := (List.getElem?_eq_some_iff.mp ex).1
          rw [List.getElem?_set_self hl, ex]
        · rw [List.getElem?_set_ne hj]
      rw [es] at r2
      exact r2
    · exact r1
theorem free_back {ρ0 : En} {p : Addr} (f : Free σ ρ p) : ∀ {vs : List Nat}, Free σ (backE ρ0 ρ vs) p
  | [] => f
  | v :: vs => by
    have ih := free_back (ρ0 := ρ0) f (vs := vs)
    unfold backE
    split
    · intro j s h e
      by_cases hj : v = j
      · subst hj
        by_cases hl : v < (backE ρ0 ρ vs).length
        · rw [List.getElem?_set_self hl] at h; cases h; exact e
        · rw [List.getElem?_eq_none (by rw [List.length_set]; omega)] at h; cases h
      · rw [List.getElem?_set_ne hj] at h
        exact ih j s h e
    · exact ih
theorem free_wipeE {p : Addr} {τ : St} (f : Free τ ρ p) : ∀ {vs : List Nat}, Free (L2.wipe τ vs) (wipeE ρ vs) p := by
  intro vs j s h e
  by_cases hm : j ∈ vs
  · rw [wipeE_at hm] at h
    split at h <;> cases h
    exact e
  · have h1 : ∀ {vs : List Nat}, j ∉ vs → (wipeE ρ vs)[j]? = ρ[j]? := by
      intro vs
      induction vs with
      | nil => intro _; rfl
      | cons v vs ih =>
        intro hv
        simp only [List.mem_cons, not_or] at hv
        unfold wipeE
        rw [List.getElem?_set_ne (fun z => hv.1 z.symm)]
        exact ih hv.2
    rw [h1 hm] at h
    rw [wipe_at, if_neg hm] at e
    exact f j s h e
theorem free_unwipe {p : Addr} {vs : List Nat} (f : Free (L2.wipe σ vs) (wipeE ρ vs) p) : Free σ (wipeE ρ vs) p := fun j s h e => by
  by_cases hm : j ∈ vs
  · rw [wipeE_at hm] at h
    split at h <;> cases h
    exact e
  · exact f j s h (by rw [wipe_at, if_neg hm]; exact e)
/-- a loose list is changed -/
theorem Rel.loose {p : Addr} {ys xs : List V} (r : Rel K B G H σ ρ) (hp : H p = some (.lst ys)) (gp : G p = none) (bp : B.H p = none) (f : Free σ ρ p) : Rel K B G (upd H p (.lst xs)) σ ρ := by
  have nb : ∀ {b o}, B.H b = some o → b ≠ p := fun {b o} e z => by rw [z, bp] at e; cases e
  have ng : ∀ {b o}, G b = some o → b ≠ p := fun {b o} e z => by rw [z, gp] at e; cases e
  have own : ∀ {a d}, a ≠ p → Own K G H a d → Own K G (upd H p (.lst xs)) a d := fun {a d} n w => w.keep (Sub.refl G) fun o e => by rw [upd_ne n]; exact e
  refine ⟨⟨fun b o e => by rw [upd_ne (ng e)]; exact r.sub b o e, r.bd.gm, fun b o e n t => by rw [upd_ne (nb e)]; exact r.bd.hm b o e n t, fun b e => ?_, r.bd.gn, fun t => ?_⟩, r.len, fun i s h => ?_, r.sep⟩
  · by_cases hb : b = p
    · subst hb; rw [upd_same]; simp
    · rw [upd_ne hb]; exact r.bd.hs b e
  · intro P hP
    obtain ⟨ps, h1, h2, h3⟩ := r.bd.tb t P hP
    refine ⟨ps, by rw [upd_ne (fun z => by rw [z, hp] at h1; cases h1)]; exact h1, h2, fun pos cv hc => ?_⟩
    obtain ⟨c, e1, e2⟩ := h3 pos cv hc
    refine ⟨c, e1, ?_⟩
    rw [upd_ne (fun z => by rw [z, hp] at e2; cases e2)]
    exact e2
  · have q := r.at_ i s h
    cases s with
    | un => trivial
    | lam => exact q
    | sh d => exact q
    | ow d => obtain ⟨a, e, n, z, w⟩ := q; exact ⟨a, e, n, z, own (fun z => f i _ h (by subst z; exact e)) w⟩
    | io d => obtain ⟨a, e, n, z, w⟩ := q; exact ⟨a, e, n, z, own (fun z => f i _ h (by subst z; exact e)) w⟩
end
def tYes' : TF := fun ρ => .ok (true, ρ)
structure EC (X : Cx) (B : Ent) (ok : OkX) (ifs : List Expr) (f : TF) : Prop where
  ex : ∃ t : TT, PTs X ifs t ∧ ∀ (σ : St) (H G : Hp) (ρ : En) (Q : Bool → Hp → Prop), Rel X.K B G H σ ρ →
    (f ρ).sat (fun r => ∀ H' G', Adv σ G H ρ G' H' r.2 → Rel X.K B G' H' σ r.2 → Q r.1 H') ok → t σ H Q
def compF (vs : List Nat) (g : PyData → En → Option En) (t : TF) (f : EF) : List PyData → En → R (List PyData × En)
  | [], ρ => .ok ([], ρ)
  | d :: ds, ρ => match g d ρ with
    | some ρ1 => (t ρ1).bind fun x => if x.1 = true then (f x.2).bind fun y => (compF vs g t f ds (wipeE y.2 vs)).bind fun z => .ok (y.1 :: z.1, z.2)
      else compF vs g t f ds (wipeE x.2 vs)
    | none => .no
def strict {α : Type} : R α → R α
  | .er _ _ => .no
  | r => r
theorem strict_sat {α : Type} {r : R α} {P : α → Prop} {E : OkX} (h : (strict r).sat P E) : r.sat P noX := by
  cases r with
  | ok a => exact h
  | er c d => exact h.elim
  | no => exact h
def fComp (vs : List Nat) (fi : AF) (g : PyData → En → Option En) (t : TF) (f : EF) : EF := fun ρ => (fi ρ).bind fun x => if x.1.length ≤ 1000000 then (strict (compF vs g t f x.1 (wipeE x.2 vs))).bind fun z => .ok (.list z.1, backE x.2 z.2 vs) else .no
section
variable {X : Cx} {B : Ent} {ok : OkX} {cls : Clss} {tg elt e c : Expr} {fa f : EF} {ft : TF} {pos p : Pos}
theorem ec_nil : EC X B ok [] tYes' := ⟨_, pts_nil, fun σ H G ρ Q r q => q H G Adv.refl r⟩
theorem ec_one (h : ET X B ok c ft) : EC X B ok [c] ft := by
  obtain ⟨t, p, k⟩ := h.ex
  exact ⟨_, pts_one p, k⟩
/-- a comprehension's parts run in its own block -/
abbrev Blk (X : Cx) (scope : Scope) (P : Cx → Prop) : Prop := ∀ (s : Shared) (H : Hp) (C : Addr) (cl : List (Str × Addr)) (fp : List Addr), P (X.blk s H scope (compEnvC scope cl C X.env) fp)
theorem takes_nil {X : Cx} : Takes X (fun _ _ _ _ => False) := fun _ _ x => by
  obtain ⟨_, _, _, _, _, _, _, _, _, _, _, _, _, _, _, _, z⟩ := x
  exact z.elim
/-- in a comprehension's block nothing is raised -/
theorem CtxE.blk (cx : CtxE cls X B ok) {s : Shared} {H : Hp} {scope : Scope} {cenv : Env} {fp : List Addr} : CtxE cls (X.blk s H scope cenv fp) B noX := ⟨cx.calm, cx.tabs, cx.gd, fun _ _ _ => False, takes_nil, fun _ _ h => h.elim⟩
theorem uniE {scope : Scope} (h : Blk X scope fun Y => EE Y B noX elt f) : ∃ te : TE, (Blk X scope fun Y => PE Y elt te) ∧ ∀ (σ : St) (H G : Hp) (ρ : En) (Q : VK), Rel X.K B G H σ ρ →
    (f ρ).sat (fun r => ∀ v H' G', Adv σ G H ρ G' H' r.2 → Rel X.K B G' H' σ r.2 → Tr X.K G' v r.1 → Q v H') noX → te σ H Q := by
  refine ⟨fun σ H Q => ∀ t : TE, (∀ (σ : St) (H G : Hp) (ρ : En) (Q : VK), Rel X.K B G H σ ρ → (f ρ).sat (fun r => ∀ v H' G', Adv σ G H ρ G' H' r.2 → Rel X.K B G' H' σ r.2 → Tr X.K G' v r.1 → Q v H') noX → t σ H Q) → t σ H Q, fun s H C cl fp => ?_, fun σ H G ρ Q r q t k => k σ H G ρ Q r q⟩
  obtain ⟨t, p, k⟩ := (h s H C cl fp).ex
  exact ⟨fun pins s σ H Q I w => p.run pins s σ H Q I (w t k)⟩
theorem uniC {scope : Scope} {ifs : List Expr} (h : Blk X scope fun Y => EC Y B noX ifs ft) : ∃ te : TT, (Blk X scope fun Y => PTs Y ifs te) ∧ ∀ (σ : St) (H G : Hp) (ρ : En) (Q : Bool → Hp → Prop), Rel X.K B G H σ ρ →
    (ft ρ).sat (fun r => ∀ H' G', Adv σ G H ρ G' H' r.2 → Rel X.K B G' H' σ r.2 → Q r.1 H') noX → te σ H Q := by
  refine ⟨fun σ H Q => ∀ t : TT, (∀ (σ : St) (H G : Hp) (ρ : En) (Q : Bool → Hp → Prop), Rel X.K B G H σ ρ → (ft ρ).sat (fun r => ∀ H' G', Adv σ G H ρ G' H' r.2 → Rel X.K B G' H' σ r.2 → Q r.1 H') noX → t σ H Q) → t σ H Q, fun s H C cl fp => ?_, fun σ H G ρ Q r q t k => k σ H G ρ Q r q⟩
  obtain ⟨t, p, k⟩ := (h s H C cl fp).ex
  exact ⟨fun pins s σ H Q I w => p.run pins s σ H Q I (w t k)⟩
theorem uniT {scope : Scope} {sl : List Nat} {g : PyData → En → Option En} (h : Blk X scope fun Y => TT' Y B tg sl g) : ∃ gt : TG, (Blk X scope fun Y => PG Y tg gt) ∧ ∀ (σ : St) (H G : Hp) (ρ ρ' : En) (v : V) (d : PyData) (Q : St → Hp → Prop), Rel X.K B G H σ ρ → Tr X.K G v d → g d ρ = some ρ' → (∀ σ', Rel X.K B G H σ' ρ' → Mv sl σ ρ σ' ρ' → Q σ' H) → gt v σ H Q := by
  refine ⟨fun v σ H Q => ∀ t : TG, (∀ (σ : St) (H G : Hp) (ρ ρ' : En) (v : V) (d : PyData) (Q : St → Hp → Prop), Rel X.K B G H σ ρ → Tr X.K G v d → g d ρ = some ρ' → (∀ σ', Rel X.K B G H σ' ρ' → Mv sl σ ρ σ' ρ' → Q σ' H) → t v σ H Q) → t v σ H Q, fun s H C cl fp => ?_, fun σ H G ρ ρ' v d Q r tr e q t k => k σ H G ρ ρ' v d Q r tr e q⟩
  obtain ⟨t, p, k⟩ := (h s H C cl fp).ex
  exact ⟨fun pins s σ H v u Q I r w => p.run pins s σ H v u Q I r (w t k)⟩
/-- a comprehension's reading, whatever takes the list -/
theorem comp_rd {ifs : List Expr} {scope : Scope} {own : List (Str × Nat)} {sl : List Nat} {fi : AF} {g : PyData → En → Option En}
    (hi : EI X B ok tg e fi) (hg : Blk X scope fun Y => TT' Y B tg sl g) (ht : Blk X scope fun Y => EC Y B noX ifs ft) (he : Blk X scope fun Y => EE Y B noX elt f)
    (hsl : ∀ i, i ∈ sl → i ∈ own.map (·.2)) :
    ∃ (wi : TI) (gt : TG) (tt : TT) (te : TE), PI X tg e wi ∧ (Blk X scope fun Y => PG Y tg gt) ∧ (Blk X scope fun Y => PTs Y ifs tt) ∧ (Blk X scope fun Y => PE Y elt te) ∧
      ∀ (σ : St) (H G : Hp) (ρ : En) (Q : VK), Rel X.K B G H σ ρ → (fComp (own.map (·.2)) fi g ft f ρ).sat (fun r => ∀ p H' G', H p = none → Adv σ G H ρ G' H' r.2 → Rel X.K B G' H' σ r.2 → Fresh X.K B G' H' σ r.2 p r.1 → Q (.ref p) H') ok → tLc wi gt tt te (own.map (·.2)) σ H Q := by
  obtain ⟨wi, pw, kw⟩ := hi.ex
  obtain ⟨gt, pg, kg⟩ := uniT hg
  obtain ⟨tt, pt, kt⟩ := uniC ht
  obtain ⟨te, pe, ke⟩ := uniE he
  refine ⟨wi, gt, tt, te, pw, pg, pt, pe, fun σ H G ρ Q r q => kw σ H G ρ _ r ?_⟩
  generalize own.map (·.2) = vs at hsl q ⊢
  refine (R.sat_bind (r := fi ρ) (f := fun x => if x.1.length ≤ 1000000 then (strict (compF vs g ft f x.1 (wipeE x.2 vs))).bind fun z => R.ok (PyData.list z.1, backE x.2 z.2 vs) else .no) q).imp fun y q J H1 G1 s1 r1 Yl => ?_
  obtain ⟨ds, ρ1⟩ := y
  obtain ⟨hsz, q⟩ := ite_sat q
  have hsz : ds.length ≤ 1000000 := hsz
  have q := strict_sat (R.sat_bind (r := strict (compF vs g ft f ds (wipeE ρ1 vs))) (f := fun z => R.ok (PyData.list z.1, backE ρ1 z.2 vs)) q)
  intro D hD
  have hD0 : H D = none := s1.pre hD
  -- what stands between two turns: the list so far, what the rest is to give
  let PF : List PyData → List PyData × En → Prop := fun acc z => ∀ p H' G', H p = none → Adv σ G H ρ G' H' (backE ρ1 z.2 vs) → Rel X.K B G' H' σ (backE ρ1 z.2 vs) → Fresh X.K B G' H' σ (backE ρ1 z.2 vs) p (.list (acc ++ z.1)) → Q (.ref p) H'
  let IV : Nat → Hp → Prop := fun i H2 => ∃ G2 ρ2 accV accD, Adv (wipe σ vs) G1 H1 (wipeE ρ1 vs) G2 H2 ρ2 ∧ (∃ ρ3, ρ2 = wipeE ρ3 vs) ∧ Rel X.K B G2 H2 (wipe σ vs) ρ2 ∧ H2 D = some (.lst accV) ∧ TrAll X.K G2 accV accD ∧ accD.length ≤ i ∧
      G2 D = none ∧ Free (wipe σ vs) ρ2 D ∧ (compF vs g ft f (ds.drop i) ρ2).sat (PF accD) noX
  have hBD : B.H D = none := by
    cases e : B.H D with
    | none => rfl
    | some u => exact absurd hD (r1.bd.hs D (by rw [e]; simp))
  have fD : Free σ ρ1 D := fun j s h e => by
    obtain ⟨_, _, d', _, w', _⟩ := r1.ownOf h e
    obtain ⟨o', ho, _⟩ := w'.nt
    rw [hD] at ho; cases ho
  have g0 : Grow B.T [] G1 H1 G1 (upd H1 D (.lst [])) := Grow.newO r1.sub hD
  refine ⟨fun i m H2 => m + i = ds.length ∧ IV i H2, ⟨ds.length, rfl, G1, wipeE ρ1 vs, [], [], Adv.grow g0, ⟨_, rfl⟩, (r1.step g0).wipe, upd_same, .nil, Nat.le_refl _, none_of_sub r1.sub hD, free_wipeE fD, q⟩, fun i m H2 hW => ?_⟩
  obtain ⟨hm, G2, ρ2, accV, accD, s2, hw2, r2, hD2, tA, hlen, gD2, fD2, q2⟩ := hW
  cases hd : ds[i]? with
  | none =>
    have hl := List.getElem?_eq_none_iff.mp hd
    rw [List.drop_eq_nil_of_le hl] at q2
    refine .inl ⟨Yl.stop i G2 H2 hl s2.sub r2.sub, ?_⟩
    obtain ⟨ρ3, rfl⟩ := hw2
    have rb : Rel X.K B G2 H2 σ (backE ρ1 (wipeE ρ3 vs) vs) := Rel.back r1 s2.sub r2.unwipe
    have fr : ∀ p, Free (wipe σ vs) (wipeE ρ3 vs) p → Free σ (backE ρ1 (wipeE ρ3 vs) vs) p := fun p f => free_back (free_unwipe f)
    have q3 := q2 D H2 G2 hD0 (s1.trans ⟨s2.sub, s2.hs, fun p o h n t f => by
      obtain ⟨a1, a2, a3⟩ := s2.loose p o h n t (free_wipeE f)
      exact ⟨a1, a2, fr p a3⟩⟩) rb ⟨gD2, hBD, by rw [List.append_nil]; exact .lst hD2 tA, fr D fD2⟩
    exact q3
  | some d =>
    obtain ⟨hlt, hget⟩ := List.getElem?_eq_some_iff.mp hd
    rw [List.drop_eq_getElem_cons hlt, hget] at q2
    obtain ⟨hgo, hy⟩ := Yl.go i d G2 H2 hd s2.sub r2.sub
    refine .inr ⟨hgo, IV (i + 1), fun H' h' => ⟨m - 1, by omega, by omega, h'⟩, fun x H3 hx => ?_⟩
    obtain ⟨G3, g3, t3⟩ := hy x H3 hx
    have r3 := r2.step g3
    have a3 : Adv (wipe σ vs) G2 H2 ρ2 G3 H3 ρ2 := Adv.grow g3
    obtain ⟨hD3, gD3, fD3⟩ := a3.loose D _ hD2 gD2 (fun _ z => nomatch z) fD2
    unfold compF at q2
    cases eg : g d ρ2 with
    | none => rw [eg] at q2; exact q2.elim
    | some ρ3 =>
      rw [eg] at q2
      refine kg (wipe σ vs) H3 G3 ρ2 ρ3 x d _ r3 t3 eg fun σ4 r4 m4 => ?_
      have e4 : wipe σ4 vs = wipe σ vs := (wipe_same m4 hsl).trans wipe_wipe
      refine ⟨e4, kt σ4 H3 G3 ρ3 _ r4 ((R.sat_bind (r := ft ρ3) (f := fun x => if x.1 = true then (f x.2).bind fun y => (compF vs g ft f (ds.drop (i + 1)) (wipeE y.2 vs)).bind fun z => R.ok (y.1 :: z.1, z.2)
        else compF vs g ft f (ds.drop (i + 1)) (wipeE x.2 vs)) q2).imp fun y qy H5 G5 s5 r5 => ?_)⟩
      have fD4 := m4.free D fD3
      obtain ⟨hD5, gD5, fD5⟩ := s5.loose D _ hD3 gD3 (fun _ z => nomatch z) fD4
      -- a loose object ahead of the turn is loose behind it
      have adv : ∀ {G6 H6 : Hp} {ρ6 : En}, Adv σ4 G3 H3 ρ3 G6 H6 ρ6 → ∀ H7 : Hp, (∀ b, b ≠ D → H7 b = H6 b) → H7 D ≠ none → Adv (wipe σ vs) G1 H1 (wipeE ρ1 vs) G6 H7 (wipeE ρ6 vs) := fun {G6 H6 ρ6} s6 H7 h7 h8 => by
        refine ⟨(s2.sub.trans g3.gm).trans s6.sub, fun b hb => ?_, fun p o hp np tp fp => ?_⟩
        · by_cases z : b = D
          · subst z; exact h8
          · rw [h7 b z]; exact s6.hs b (a3.hs b (s2.hs b hb))
        · obtain ⟨b1, b2, b3⟩ := (s2.trans a3).loose p o hp np tp fp
          obtain ⟨c1, c2, c3⟩ := s6.loose p o b1 b2 tp (m4.free p b3)
          refine ⟨by rw [h7 p (ne_of_none hp hD)]; exact c1, c2, ?_⟩
          have := free_wipeE (vs := vs) c3
          rw [e4] at this
          exact this
      by_cases hx : y.1 = true
      · rw [if_pos hx] at qy ⊢
        refine ke σ4 H5 G5 y.2 _ r5 ((R.sat_bind (r := f y.2) (f := fun y => (compF vs g ft f (ds.drop (i + 1)) (wipeE y.2 vs)).bind fun z => R.ok (y.1 :: z.1, z.2)) qy).imp fun u qu v H6 G6 s6 r6 t6 => ?_)
        obtain ⟨hD6, gD6, fD6⟩ := s6.loose D _ hD5 gD5 (fun _ z => nomatch z) fD5
        have sz : accV.length < sizeLine := by
          have := tA.length
          have z : (1000000 : Nat) < sizeLine := by decide
          omega
        refine ⟨accV, hD6, sz, G6, wipeE u.2 vs, accV ++ [v], accD ++ [u.1], adv (s5.trans s6) _ (fun b hb => upd_ne hb) (by rw [upd_same]; simp), ⟨_, rfl⟩, ?_, upd_same, (tA.mono (((g3.gm.trans s5.sub)).trans s6.sub)).append (.cons t6 .nil), by simp; omega, gD6, ?_, ?_⟩
        · have := (r6.loose hD6 gD6 hBD fD6 (xs := accV ++ [v])).wipe (vs := vs)
          rw [e4] at this
          exact this
        · have := free_wipeE (vs := vs) fD6
          rw [e4] at this
          exact this
        · refine (R.sat_bind (r := compF vs g ft f (ds.drop (i + 1)) (wipeE u.2 vs)) (f := fun z => R.ok (u.1 :: z.1, z.2)) qu).imp fun z qz => ?_
          intro p H' G' hp a r' x'
          exact qz p H' G' hp a r' (by rw [List.append_assoc] at x'; exact x')
      · rw [if_neg hx] at qy ⊢
        refine ⟨G5, wipeE y.2 vs, accV, accD, adv s5 H5 (fun _ _ => rfl) (by rw [hD5]; simp), ⟨_, rfl⟩, ?_, hD5, tA.mono (g3.gm.trans s5.sub), by omega, gD5, ?_, qy⟩
        · have := r5.wipe (vs := vs)
          rw [e4] at this
          exact this
        · have := free_wipeE (vs := vs) fD5
          rw [e4] at this
          exact this
theorem en_comp {ifs : List Expr} {scope : Scope} {own : List (Str × Nat)} {sl : List Nat} {fi : AF} {g : PyData → En → Option En} (cx : CtxE cls X B ok) (hN : X.N.Nodup) (bk : BlkOk X.N X.env.scope scope own)
    (hi : EI X B ok tg e fi) (hg : Blk X scope fun Y => TT' Y B tg sl g) (ht : Blk X scope fun Y => EC Y B noX ifs ft) (he : Blk X scope fun Y => EE Y B noX elt f)
    (hsl : ∀ i, i ∈ sl → i ∈ own.map (·.2) := by decide) (hs : ∀ x, foldedSetIterable e X.env x = pure x := by intro _; rfl) :
    EN X B ok (.ListComp elt [⟨tg, e, ifs, 0⟩] scope pos) (fComp (own.map (·.2)) fi g ft f) := by
  obtain ⟨wi, gt, tt, te, pw, pg, pt, pe, k⟩ := comp_rd hi hg ht he hsl
  exact ⟨_, pe_lc cx.calm hN pw bk pg pt pe hs, k⟩
/-- name = [..] on one line, the name a local -/
theorem ss_ownC {ifs : List Expr} {scope : Scope} {own : List (Str × Nat)} {sl : List Nat} {fi : AF} {g : PyData → En → Option En} {x : Str} {p2 : Pos} {spos : Pos} (i : Nat) (cx : CtxE cls X B ok) (hN : X.N.Nodup) (bk : BlkOk X.N X.env.scope scope own)
    (hi : EI X B ok tg e fi) (hg : Blk X scope fun Y => TT' Y B tg sl g) (ht : Blk X scope fun Y => EC Y B noX ifs ft) (he : Blk X scope fun Y => EE Y B noX elt f)
    (hx : X.N[i]? = some x := by rfl) (hl : X.env.scope.names.lookup x = some .local := by rfl) (hk : X.env.scope.kind = .function := by rfl) (hln : (p2.line == pos.line) = true := by rfl)
    (ha : (scope.names.any fun (n, k) => n == x && (k == .local || k == .cell)) = false := by rfl)
    (hsl : ∀ i, i ∈ sl → i ∈ own.map (·.2) := by decide) (hs : ∀ x, foldedSetIterable e X.env x = pure x := by intro _; rfl) :
    SS X B ok (.Assign [.Name x p2] (.ListComp elt [⟨tg, e, ifs, 0⟩] scope pos) spos) (sOwn (fComp (own.map (·.2)) fi g ft f) i) := by
  obtain ⟨wi, gt, tt, te, pw, pg, pt, pe, k⟩ := comp_rd hi hg ht he hsl
  refine ⟨_, ps_setLc cx.calm hN hx hl (sw_true hk hl hln ha) pw bk pg pt pe hs, fun σ H G ρ D r q => k σ H G ρ _ r ((ofR_sat q).imp fun y qx v H1 G1 hp s1 r1 x1 => ?_)⟩
  exact qx _ H1 G1 s1.sub (r1.setOw x1.g x1.b x1.own x1.ap)
end
end Y


/-! YComp2: list comprehensions with two clauses. -/
namespace Y
open PySem PySem.Spec PyProof.Rows L2
def compF2 (vs : List Nat) (g : PyData → En → Option En) (t : TF) (fi1 : AF) (vs1 : List Nat) (g1 : PyData → En → Option En) (t1 : TF) (f : EF) : List PyData → En → R (List PyData × En)
  | [], ρ => .ok ([], ρ)
  | d :: ds, ρ => match g d ρ with
    | some ρ1 => (t ρ1).bind fun x => if x.1 = true then (fi1 x.2).bind fun y => (compF vs1 g1 t1 f y.1 (wipeE y.2 vs1)).bind fun z => (compF2 vs g t fi1 vs1 g1 t1 f ds (wipeE z.2 vs)).bind fun w => .ok (z.1 ++ w.1, w.2)
      else compF2 vs g t fi1 vs1 g1 t1 f ds (wipeE x.2 vs)
    | none => .no
def fComp2 (vs : List Nat) (fi : AF) (g : PyData → En → Option En) (t : TF) (fi1 : AF) (vs1 : List Nat) (g1 : PyData → En → Option En) (t1 : TF) (f : EF) : EF := fun ρ => (fi ρ).bind fun x => (strict (compF2 vs g t fi1 vs1 g1 t1 f x.1 (wipeE x.2 vs))).bind fun z => if z.1.length ≤ 1000000 then .ok (.list z.1, backE x.2 z.2 vs) else .no
theorem wipe_sub {σ : St} {vs1 vs : List Nat} (h : ∀ i ∈ vs1, i ∈ vs) : wipe (wipe σ vs1) vs = wipe σ vs := by
  apply List.ext_getElem?
  intro i
  rw [wipe_at (vs := vs), wipe_at (vs := vs), wipe_length]
  by_cases hm : i ∈ vs
  · rw [if_pos hm, if_pos hm]
  · rw [if_neg hm, if_neg hm, wipe_at, if_neg fun z => hm (h i z)]
theorem sat_noX {α : Type} {r : R α} {P : α → Prop} (h : r.sat P noX) : ∃ a, r = .ok a ∧ P a := by
  cases r with
  | ok a => exact ⟨a, rfl, h⟩
  | er c d => exact h.elim
  | no => exact h.elim
section
variable {K : PySem.W.Frag} {B : Ent}
/-- what is loose stays loose -/
def Lo (P : Addr → HO → Prop) (G H : Hp) (σ : St) (ρ : En) : Prop := ∀ p o, P p o → H p = some o ∧ G p = none ∧ Free σ ρ p
theorem Lo.adv {P : Addr → HO → Prop} {G H G' H' : Hp} {σ : St} {ρ ρ' : En} (hP : ∀ p o, P p o → ∀ ps, o ≠ .tbl ps) (l : Lo P G H σ ρ) (a : Adv σ G H ρ G' H' ρ') : Lo P G' H' σ ρ' := fun p o h => by
  obtain ⟨h1, h2, h3⟩ := l p o h
  exact a.loose p o h1 h2 (hP p o h) h3
/-- a loop of a comprehension: the list D grows -/
theorem turns {D : Addr} {vs1 sl1 : List Nat} {g1 : PyData → En → Option En} {t1 : TF} {f : EF} {gt : TG} {tt : TT} {te : TE}
    (kg : ∀ (σ : St) (H G : Hp) (ρ ρ' : En) (v : V) (d : PyData) (Q : St → Hp → Prop), Rel K B G H σ ρ → Tr K G v d → g1 d ρ = some ρ' → (∀ σ', Rel K B G H σ' ρ' → Mv sl1 σ ρ σ' ρ' → Q σ' H) → gt v σ H Q)
    (kt : ∀ (σ : St) (H G : Hp) (ρ : En) (Q : Bool → Hp → Prop), Rel K B G H σ ρ → (t1 ρ).sat (fun r => ∀ H' G', Adv σ G H ρ G' H' r.2 → Rel K B G' H' σ r.2 → Q r.1 H') noX → tt σ H Q)
    (ke : ∀ (σ : St) (H G : Hp) (ρ : En) (Q : VK), Rel K B G H σ ρ → (f ρ).sat (fun r => ∀ v H' G', Adv σ G H ρ G' H' r.2 → Rel K B G' H' σ r.2 → Tr K G' v r.1 → Q v H') noX → te σ H Q)
    (hsl : ∀ i, i ∈ sl1 → i ∈ vs1) {P : Addr → HO → Prop} (hP : ∀ p o, P p o → ∀ ps, o ≠ .tbl ps) (hPD : ∀ p o, P p o → p ≠ D) {Hs : Addr → Prop} (hBD : B.H D = none) {Done : Hp → Prop} {ds : List PyData} {J : It} {G1 H1 : Hp} {σ : St} {ρ1 : En} {accV0 : List V} {accD0 : List PyData}
    (Yl : Yields K B.T J G1 ds) (r1 : Rel K B G1 H1 σ ρ1) (hD1 : H1 D = some (.lst accV0)) (tA1 : TrAll K G1 accV0 accD0) (gD1 : G1 D = none) (fD1 : Free σ ρ1 D) (lo1 : Lo P G1 H1 σ ρ1) (hs1 : ∀ b, Hs b → H1 b ≠ none)
    (q : (compF vs1 g1 t1 f ds (wipeE ρ1 vs1)).sat (fun z => (accD0 ++ z.1).length ≤ 1000000 ∧ ∀ G' H' accV, Sub G1 G' → Rel K B G' H' (wipe σ vs1) z.2 → H' D = some (.lst accV) → TrAll K G' accV (accD0 ++ z.1) → G' D = none → Free (wipe σ vs1) z.2 D → Lo P G' H' (wipe σ vs1) z.2 → (∀ b, Hs b → H' b ≠ none) → Done H') noX) :
    ∃ W1 : Nat → Nat → Hp → Prop, (∃ m, W1 0 m H1) ∧ ∀ j k H, W1 j k H → (J.stop j H ∧ Done H) ∨ (J.go j H ∧ ∃ Nx1 : Hp → Prop, (∀ H', Nx1 H' → ∃ k', k' < k ∧ W1 (j + 1) k' H') ∧ ∀ x H', J.yld j H x H' → gt x (wipe σ vs1) H' fun σ3 H5 => wipe σ3 vs1 = wipe σ vs1 ∧ tt σ3 H5 fun b H6 =>
      if b = true then te σ3 H6 fun y H7 => ∃ acc, H7 D = some (.lst acc) ∧ acc.length < sizeLine ∧ Nx1 (upd H7 D (.lst (acc ++ [y]))) else Nx1 H6) := by
  let PF : List PyData → List PyData × En → Prop := fun acc z => (acc ++ z.1).length ≤ 1000000 ∧ ∀ G' H' accV, Sub G1 G' → Rel K B G' H' (wipe σ vs1) z.2 → H' D = some (.lst accV) → TrAll K G' accV (acc ++ z.1) → G' D = none → Free (wipe σ vs1) z.2 D → Lo P G' H' (wipe σ vs1) z.2 → (∀ b, Hs b → H' b ≠ none) → Done H'
  let IV : Nat → Hp → Prop := fun i H2 => ∃ G2 ρ2 accV accD, Sub G1 G2 ∧ Rel K B G2 H2 (wipe σ vs1) ρ2 ∧ H2 D = some (.lst accV) ∧ TrAll K G2 accV accD ∧ G2 D = none ∧ Free (wipe σ vs1) ρ2 D ∧ Lo P G2 H2 (wipe σ vs1) ρ2 ∧ (∀ b, Hs b → H2 b ≠ none) ∧ (compF vs1 g1 t1 f (ds.drop i) ρ2).sat (PF accD) noX
  refine ⟨fun i m H2 => m + i = ds.length ∧ IV i H2, ⟨ds.length, rfl, G1, wipeE ρ1 vs1, accV0, accD0, Sub.refl G1, r1.wipe, hD1, tA1, gD1, free_wipeE fD1, fun p o h => let ⟨a, b, c⟩ := lo1 p o h; ⟨a, b, free_wipeE c⟩, hs1, q⟩, fun i m H2 hW => ?_⟩
  obtain ⟨hm, G2, ρ2, accV, accD, s2, r2, hD2, tA, gD2, fD2, lo2, hs2, q2⟩ := hW
  cases hd : ds[i]? with
  | none =>
    have hl := List.getElem?_eq_none_iff.mp hd
    rw [List.drop_eq_nil_of_le hl] at q2
    exact .inl ⟨Yl.stop i G2 H2 hl s2 r2.sub, q2.2 G2 H2 accV s2 r2 hD2 (by rw [List.append_nil]; exact tA) gD2 fD2 lo2 hs2⟩
  | some d =>
    obtain ⟨hlt, hget⟩ := List.getElem?_eq_some_iff.mp hd
    rw [List.drop_eq_getElem_cons hlt, hget] at q2
    obtain ⟨hgo, hy⟩ := Yl.go i d G2 H2 hd s2 r2.sub
    refine .inr ⟨hgo, IV (i + 1), fun H' h' => ⟨m - 1, by omega, by omega, h'⟩, fun x H3 hx => ?_⟩
    obtain ⟨G3, g3, t3⟩ := hy x H3 hx
    have r3 := r2.step g3
    have a3 : Adv (wipe σ vs1) G2 H2 ρ2 G3 H3 ρ2 := Adv.grow g3
    obtain ⟨hD3, gD3, fD3⟩ := a3.loose D _ hD2 gD2 (fun _ z => nomatch z) fD2
    have lo3 := lo2.adv hP a3
    unfold compF at q2
    cases eg : g1 d ρ2 with
    | none => rw [eg] at q2; exact q2.elim
    | some ρ3 =>
      rw [eg] at q2
      refine kg (wipe σ vs1) H3 G3 ρ2 ρ3 x d _ r3 t3 eg fun σ4 r4 m4 => ?_
      have e4 : wipe σ4 vs1 = wipe σ vs1 := (wipe_same m4 hsl).trans wipe_wipe
      refine ⟨e4, kt σ4 H3 G3 ρ3 _ r4 ((R.sat_bind (r := t1 ρ3) (f := fun x => if x.1 = true then (f x.2).bind fun y => (compF vs1 g1 t1 f (ds.drop (i + 1)) (wipeE y.2 vs1)).bind fun z => R.ok (y.1 :: z.1, z.2)
        else compF vs1 g1 t1 f (ds.drop (i + 1)) (wipeE x.2 vs1)) q2).imp fun y qy H5 G5 s5 r5 => ?_)⟩
      have fD4 := m4.free D fD3
      have lo4 : Lo P G3 H3 σ4 ρ3 := fun p o h => let ⟨a, b, c⟩ := lo3 p o h; ⟨a, b, m4.free p c⟩
      obtain ⟨hD5, gD5, fD5⟩ := s5.loose D _ hD3 gD3 (fun _ z => nomatch z) fD4
      have lo5 := lo4.adv hP s5
      have hs5 : ∀ b, Hs b → H5 b ≠ none := fun b h => s5.hs b (a3.hs b (hs2 b h))
      have wl : ∀ {G6 H6 : Hp} {ρ6 : En}, Lo P G6 H6 σ4 ρ6 → ∀ H7 : Hp, (∀ b, b ≠ D → H7 b = H6 b) → Lo P G6 H7 (wipe σ vs1) (wipeE ρ6 vs1) := fun {G6 H6 ρ6} l H7 h7 p o h => by
        obtain ⟨a, b, c⟩ := l p o h
        have := free_wipeE (vs := vs1) c
        rw [e4] at this
        exact ⟨by rw [h7 p (hPD p o h)]; exact a, b, this⟩
      by_cases hx : y.1 = true
      · rw [if_pos hx] at qy ⊢
        refine ke σ4 H5 G5 y.2 _ r5 ((R.sat_bind (r := f y.2) (f := fun y => (compF vs1 g1 t1 f (ds.drop (i + 1)) (wipeE y.2 vs1)).bind fun z => R.ok (y.1 :: z.1, z.2)) qy).imp fun u qu v H6 G6 s6 r6 t6 => ?_)
        obtain ⟨hD6, gD6, fD6⟩ := s6.loose D _ hD5 gD5 (fun _ z => nomatch z) fD5
        have lo6 := lo5.adv hP s6
        have qz := R.sat_bind (r := compF vs1 g1 t1 f (ds.drop (i + 1)) (wipeE u.2 vs1)) (f := fun z => R.ok (u.1 :: z.1, z.2)) qu
        obtain ⟨z0, ez, hz0⟩ := sat_noX qz
        have sz : accV.length < sizeLine := by
          have h1 := tA.length
          have h2 : (accD ++ u.1 :: z0.1).length ≤ 1000000 := hz0.1
          rw [List.length_append, List.length_cons] at h2
          have z : (1000000 : Nat) < sizeLine := by decide
          omega
        refine ⟨accV, hD6, sz, G6, wipeE u.2 vs1, accV ++ [v], accD ++ [u.1], ((s2.trans g3.gm).trans s5.sub).trans s6.sub, ?_, upd_same, (tA.mono (((g3.gm.trans s5.sub)).trans s6.sub)).append (.cons t6 .nil), gD6, ?_, wl lo6 _ (fun b hb => upd_ne hb), fun b h => ?_, ?_⟩
        · have := (r6.loose hD6 gD6 hBD fD6 (xs := accV ++ [v])).wipe (vs := vs1)
          rw [e4] at this
          exact this
        · have := free_wipeE (vs := vs1) fD6
          rw [e4] at this
          exact this
        · by_cases hb : b = D
          · subst hb; rw [upd_same]; simp
          · rw [upd_ne hb]; exact s6.hs b (hs5 b h)
        · refine qz.imp fun z ⟨qz1, qz2⟩ => ?_
          have e : (accD ++ [u.1]) ++ z.1 = accD ++ (u.1 :: z.1) := by simp
          show ((accD ++ [u.1]) ++ z.1).length ≤ 1000000 ∧ _
          rw [e]
          exact ⟨qz1, fun G' H' accV' a b c d e2 e3 e4 e5 => qz2 G' H' accV' a b c d e2 e3 e4 e5⟩
      · rw [if_neg hx] at qy ⊢
        refine ⟨G5, wipeE y.2 vs1, accV, accD, (s2.trans g3.gm).trans s5.sub, ?_, hD5, tA.mono (g3.gm.trans s5.sub), gD5, ?_, wl lo5 _ (fun _ _ => rfl), hs5, qy⟩
        · have := r5.wipe (vs := vs1)
          rw [e4] at this
          exact this
        · have := free_wipeE (vs := vs1) fD5
          rw [e4] at this
          exact this
end
section
variable {X : Cx} {B : Ent} {ok : OkX} {cls : Clss} {tg elt e c tg1 e1 : Expr} {fa f : EF} {ft ft1 : TF} {pos p : Pos}
theorem uniI {scope : Scope} {fi : AF} (h : Blk X scope fun Y => EI Y B noX tg e fi) : ∃ wi : TI, (Blk X scope fun Y => PI Y tg e wi) ∧ ∀ (σ : St) (H G : Hp) (ρ : En) (W : It → Hp → Prop), Rel X.K B G H σ ρ →
    (fi ρ).sat (fun r => ∀ J H' G', Adv σ G H ρ G' H' r.2 → Rel X.K B G' H' σ r.2 → Yields X.K B.T J G' r.1 → W J H') noX → wi σ H W := by
  refine ⟨fun σ H W => ∀ t : TI, (∀ (σ : St) (H G : Hp) (ρ : En) (W : It → Hp → Prop), Rel X.K B G H σ ρ → (fi ρ).sat (fun r => ∀ J H' G', Adv σ G H ρ G' H' r.2 → Rel X.K B G' H' σ r.2 → Yields X.K B.T J G' r.1 → W J H') noX → t σ H W) → t σ H W, fun s H C cl fp => ?_, fun σ H G ρ Q r q t k => k σ H G ρ Q r q⟩
  obtain ⟨t, p, k⟩ := (h s H C cl fp).ex
  exact ⟨fun pins s σ H R I w => p.run pins s σ H R I (w t k)⟩
theorem comp_rd2 {ifs ifs1 : List Expr} {scope : Scope} {own : List (Str × Nat)} {sl sl1 vs1 : List Nat} {fi fi1 : AF} {g g1 : PyData → En → Option En}
    (hi : EI X B ok tg e fi) (hg : Blk X scope fun Y => TT' Y B tg sl g) (ht : Blk X scope fun Y => EC Y B noX ifs ft)
    (hi1 : Blk X scope fun Y => EI Y B noX tg1 e1 fi1) (hg1 : Blk X scope fun Y => TT' Y B tg1 sl1 g1) (ht1 : Blk X scope fun Y => EC Y B noX ifs1 ft1) (he : Blk X scope fun Y => EE Y B noX elt f)
    (hsl : ∀ i, i ∈ sl → i ∈ own.map (·.2)) (hsl1 : ∀ i, i ∈ sl1 → i ∈ vs1) (hv : ∀ i ∈ vs1, i ∈ own.map (·.2)) :
    ∃ (wi wi1 : TI) (gt gt1 : TG) (tt tt1 : TT) (te : TE), PI X tg e wi ∧ (Blk X scope fun Y => PG Y tg gt) ∧ (Blk X scope fun Y => PTs Y ifs tt) ∧ (Blk X scope fun Y => PI Y tg1 e1 wi1) ∧ (Blk X scope fun Y => PG Y tg1 gt1) ∧ (Blk X scope fun Y => PTs Y ifs1 tt1) ∧ (Blk X scope fun Y => PE Y elt te) ∧
      ∀ (σ : St) (H G : Hp) (ρ : En) (Q : VK), Rel X.K B G H σ ρ → (fComp2 (own.map (·.2)) fi g ft fi1 vs1 g1 ft1 f ρ).sat (fun r => ∀ p H' G', H p = none → Adv σ G H ρ G' H' r.2 → Rel X.K B G' H' σ r.2 → Fresh X.K B G' H' σ r.2 p r.1 → Q (.ref p) H') ok → tLc2 wi gt tt wi1 gt1 tt1 te (own.map (·.2)) vs1 σ H Q := by
  obtain ⟨wi, pw, kw⟩ := hi.ex
  obtain ⟨gt, pg, kg⟩ := uniT hg
  obtain ⟨tt, pt, kt⟩ := uniC ht
  obtain ⟨wi1, pw1, kw1⟩ := uniI hi1
  obtain ⟨gt1, pg1, kg1⟩ := uniT hg1
  obtain ⟨tt1, pt1, kt1⟩ := uniC ht1
  obtain ⟨te, pe, ke⟩ := uniE he
  refine ⟨wi, wi1, gt, gt1, tt, tt1, te, pw, pg, pt, pw1, pg1, pt1, pe, fun σ H G ρ Q r q => kw σ H G ρ _ r ?_⟩
  generalize own.map (·.2) = vs at hsl hv q ⊢
  refine (R.sat_bind (r := fi ρ) (f := fun x => (strict (compF2 vs g ft fi1 vs1 g1 ft1 f x.1 (wipeE x.2 vs))).bind fun z => if z.1.length ≤ 1000000 then R.ok (PyData.list z.1, backE x.2 z.2 vs) else .no) q).imp fun y q J H1 G1 s1 r1 Yl => ?_
  obtain ⟨ds, ρ1⟩ := y
  have q := strict_sat (R.sat_bind (r := strict (compF2 vs g ft fi1 vs1 g1 ft1 f ds (wipeE ρ1 vs))) (f := fun z => if z.1.length ≤ 1000000 then R.ok (PyData.list z.1, backE ρ1 z.2 vs) else .no) q)
  intro D hD
  have hD0 : H D = none := s1.pre hD
  let PF : List PyData → List PyData × En → Prop := fun acc z => (acc ++ z.1).length ≤ 1000000 ∧ ∀ p H' G', H p = none → Adv σ G H ρ G' H' (backE ρ1 z.2 vs) → Rel X.K B G' H' σ (backE ρ1 z.2 vs) → Fresh X.K B G' H' σ (backE ρ1 z.2 vs) p (.list (acc ++ z.1)) → Q (.ref p) H'
  let IV : Nat → Hp → Prop := fun i H2 => ∃ G2 ρ2 accV accD, Adv (wipe σ vs) G1 H1 (wipeE ρ1 vs) G2 H2 ρ2 ∧ (∃ ρ3, ρ2 = wipeE ρ3 vs) ∧ Rel X.K B G2 H2 (wipe σ vs) ρ2 ∧ H2 D = some (.lst accV) ∧ TrAll X.K G2 accV accD ∧
      G2 D = none ∧ Free (wipe σ vs) ρ2 D ∧ (compF2 vs g ft fi1 vs1 g1 ft1 f (ds.drop i) ρ2).sat (PF accD) noX
  have hBD : B.H D = none := by
    cases e : B.H D with
    | none => rfl
    | some u => exact absurd hD (r1.bd.hs D (by rw [e]; simp))
  have fD : Free σ ρ1 D := fun j s h e => by
    obtain ⟨_, _, d', _, w', _⟩ := r1.ownOf h e
    obtain ⟨o', ho, _⟩ := w'.nt
    rw [hD] at ho; cases ho
  have g0 : Grow B.T [] G1 H1 G1 (upd H1 D (.lst [])) := Grow.newO r1.sub hD
  have q0 : (compF2 vs g ft fi1 vs1 g1 ft1 f ds (wipeE ρ1 vs)).sat (PF []) noX := q.imp fun z qz => by
    obtain ⟨h1, h2⟩ := ite_sat qz
    exact ⟨h1, h2⟩
  refine ⟨fun i m H2 => m + i = ds.length ∧ IV i H2, ⟨ds.length, rfl, G1, wipeE ρ1 vs, [], [], Adv.grow g0, ⟨_, rfl⟩, (r1.step g0).wipe, upd_same, .nil, none_of_sub r1.sub hD, free_wipeE fD, q0⟩, fun i m H2 hW => ?_⟩
  obtain ⟨hm, G2, ρ2, accV, accD, s2, hw2, r2, hD2, tA, gD2, fD2, q2⟩ := hW
  cases hd : ds[i]? with
  | none =>
    have hl := List.getElem?_eq_none_iff.mp hd
    rw [List.drop_eq_nil_of_le hl] at q2
    refine .inl ⟨Yl.stop i G2 H2 hl s2.sub r2.sub, ?_⟩
    obtain ⟨ρ3, rfl⟩ := hw2
    have rb : Rel X.K B G2 H2 σ (backE ρ1 (wipeE ρ3 vs) vs) := Rel.back r1 s2.sub r2.unwipe
    have fr : ∀ p, Free (wipe σ vs) (wipeE ρ3 vs) p → Free σ (backE ρ1 (wipeE ρ3 vs) vs) p := fun p f => free_back (free_unwipe f)
    exact q2.2 D H2 G2 hD0 (s1.trans ⟨s2.sub, s2.hs, fun p o h n t f => by
      obtain ⟨a1, a2, a3⟩ := s2.loose p o h n t (free_wipeE f)
      exact ⟨a1, a2, fr p a3⟩⟩) rb ⟨gD2, hBD, by rw [List.append_nil]; exact .lst hD2 tA, fr D fD2⟩
  | some d =>
    obtain ⟨hlt, hget⟩ := List.getElem?_eq_some_iff.mp hd
    rw [List.drop_eq_getElem_cons hlt, hget] at q2
    obtain ⟨hgo, hy⟩ := Yl.go i d G2 H2 hd s2.sub r2.sub
    refine .inr ⟨hgo, IV (i + 1), fun H' h' => ⟨m - 1, by omega, by omega, h'⟩, fun x H3 hx => ?_⟩
    obtain ⟨G3, g3, t3⟩ := hy x H3 hx
    have r3 := r2.step g3
    have a3 : Adv (wipe σ vs) G2 H2 ρ2 G3 H3 ρ2 := Adv.grow g3
    obtain ⟨hD3, gD3, fD3⟩ := a3.loose D _ hD2 gD2 (fun _ z => nomatch z) fD2
    unfold compF2 at q2
    cases eg : g d ρ2 with
    | none => rw [eg] at q2; exact q2.elim
    | some ρ3 =>
      rw [eg] at q2
      refine kg (wipe σ vs) H3 G3 ρ2 ρ3 x d _ r3 t3 eg fun σ4 r4 m4 => ?_
      have e4 : wipe σ4 vs = wipe σ vs := (wipe_same m4 hsl).trans wipe_wipe
      refine ⟨e4, kt σ4 H3 G3 ρ3 _ r4 ((R.sat_bind (r := ft ρ3) (f := fun x => if x.1 = true then (fi1 x.2).bind fun y => (compF vs1 g1 ft1 f y.1 (wipeE y.2 vs1)).bind fun z => (compF2 vs g ft fi1 vs1 g1 ft1 f (ds.drop (i + 1)) (wipeE z.2 vs)).bind fun w => R.ok (z.1 ++ w.1, w.2)
        else compF2 vs g ft fi1 vs1 g1 ft1 f (ds.drop (i + 1)) (wipeE x.2 vs)) q2).imp fun y qy H5 G5 s5 r5 => ?_)⟩
      have fD4 := m4.free D fD3
      obtain ⟨hD5, gD5, fD5⟩ := s5.loose D _ hD3 gD3 (fun _ z => nomatch z) fD4
      let P : Addr → HO → Prop := fun p o => H1 p = some o ∧ G1 p = none ∧ (∀ ps, o ≠ .tbl ps) ∧ Free (wipe σ vs) (wipeE ρ1 vs) p
      have hP : ∀ p o, P p o → ∀ ps, o ≠ .tbl ps := fun p o h => h.2.2.1
      have hPD : ∀ p o, P p o → p ≠ D := fun p o h z => by
        have := h.1
        rw [z, hD] at this; cases this
      have lo5 : Lo P G5 H5 σ4 y.2 := by
        have l4 : Lo P G3 H3 σ4 ρ3 := fun p o h => by
          obtain ⟨b1, b2, b3⟩ := (s2.trans a3).loose p o h.1 h.2.1 h.2.2.1 h.2.2.2
          exact ⟨b1, b2, m4.free p b3⟩
        exact l4.adv hP s5
      have hs5 : ∀ b, H1 b ≠ none → H5 b ≠ none := fun b h => s5.hs b (a3.hs b (s2.hs b h))
      have s15 : Sub G1 G5 := (s2.sub.trans g3.gm).trans s5.sub
      -- the loose list's state after a turn
      have fin : ∀ {G6 H6 : Hp} {ρ6 : En} {accV6 : List V} {accD6 : List PyData}, Sub G1 G6 → Lo P G6 H6 (wipe σ vs) (wipeE ρ6 vs) → (∀ b, H1 b ≠ none → H6 b ≠ none) → Adv (wipe σ vs) G1 H1 (wipeE ρ1 vs) G6 H6 (wipeE ρ6 vs) := fun s l h => ⟨s, h, fun p o a b c d => l p o ⟨a, b, c, d⟩⟩
      by_cases hx : y.1 = true
      · rw [if_pos hx] at qy ⊢
        refine kw1 σ4 H5 G5 y.2 _ r5 ((R.sat_bind (r := fi1 y.2) (f := fun y => (compF vs1 g1 ft1 f y.1 (wipeE y.2 vs1)).bind fun z => (compF2 vs g ft fi1 vs1 g1 ft1 f (ds.drop (i + 1)) (wipeE z.2 vs)).bind fun w => R.ok (z.1 ++ w.1, w.2)) qy).imp fun u qu J1 H6 G6 s6 r6 Y6 => ?_)
        obtain ⟨hD6, gD6, fD6⟩ := s6.loose D _ hD5 gD5 (fun _ z => nomatch z) fD5
        have lo6 := lo5.adv hP s6
        refine turns (Hs := fun b => H1 b ≠ none) (Done := IV (i + 1)) kg1 kt1 ke hsl1 hP hPD hBD Y6 r6 hD6 (tA.mono ((g3.gm.trans s5.sub).trans s6.sub)) gD6 fD6 lo6 (fun b h => s6.hs b (hs5 b h)) ((R.sat_bind (r := compF vs1 g1 ft1 f u.1 (wipeE u.2 vs1)) (f := fun z => (compF2 vs g ft fi1 vs1 g1 ft1 f (ds.drop (i + 1)) (wipeE z.2 vs)).bind fun w => R.ok (z.1 ++ w.1, w.2)) qu).imp fun z qz => ?_)
        have qw := R.sat_bind (r := compF2 vs g ft fi1 vs1 g1 ft1 f (ds.drop (i + 1)) (wipeE z.2 vs)) (f := fun w => R.ok (z.1 ++ w.1, w.2)) qz
        obtain ⟨w0, ew, hw0⟩ := sat_noX qw
        refine ⟨?_, fun G7 H7 accV7 s7 r7 hD7 tA7 gD7 fD7 lo7 hs7 => ?_⟩
        · have h2 : (accD ++ (z.1 ++ w0.1)).length ≤ 1000000 := hw0.1
          rw [List.length_append, List.length_append] at h2
          rw [List.length_append]; omega
        · have ew : wipe (wipe σ4 vs1) vs = wipe σ vs := (wipe_sub hv).trans e4
          have r8 := r7.wipe (vs := vs)
          rw [ew] at r8
          have f8 := free_wipeE (vs := vs) fD7
          rw [ew] at f8
          refine ⟨G7, wipeE z.2 vs, accV7, accD ++ z.1, fin (accV6 := accV7) (accD6 := accD) ((s15.trans s6.sub).trans s7) (fun p o h => ?_) hs7, ⟨_, rfl⟩, r8, hD7, tA7, gD7, f8, qw.imp fun w ⟨qw1, qw2⟩ => ?_⟩
          · obtain ⟨a, b, c⟩ := lo7 p o h
            have c2 := free_wipeE (vs := vs) c
            rw [ew] at c2
            exact ⟨a, b, c2⟩
          · show ((accD ++ z.1) ++ w.1).length ≤ 1000000 ∧ _
            rw [List.append_assoc]
            exact ⟨qw1, fun p H' G' hp a r' x' => qw2 p H' G' hp a r' x'⟩
      · rw [if_neg hx] at qy ⊢
        refine ⟨G5, wipeE y.2 vs, accV, accD, fin (accV6 := accV) (accD6 := accD) s15 (fun p o h => ?_) hs5, ⟨_, rfl⟩, ?_, hD5, tA.mono (g3.gm.trans s5.sub), gD5, ?_, qy⟩
        · obtain ⟨a, b, c⟩ := lo5 p o h
          have c2 := free_wipeE (vs := vs) c
          rw [e4] at c2
          exact ⟨a, b, c2⟩
        · have := r5.wipe (vs := vs)
          rw [e4] at this
          exact this
        · have := free_wipeE (vs := vs) fD5
          rw [e4] at this
          exact this
theorem en_comp2 {ifs ifs1 : List Expr} {scope : Scope} {own : List (Str × Nat)} {sl sl1 : List Nat} (vs1 : List Nat) {fi fi1 : AF} {g g1 : PyData → En → Option En} (cx : CtxE cls X B ok) (hN : X.N.Nodup) (bk : BlkOk X.N X.env.scope scope own)
    (hi : EI X B ok tg e fi) (hg : Blk X scope fun Y => TT' Y B tg sl g) (ht : Blk X scope fun Y => EC Y B noX ifs ft)
    (hi1 : Blk X scope fun Y => EI Y B noX tg1 e1 fi1) (hg1 : Blk X scope fun Y => TT' Y B tg1 sl1 g1) (ht1 : Blk X scope fun Y => EC Y B noX ifs1 ft1) (he : Blk X scope fun Y => EE Y B noX elt f)
    (hsl : ∀ i, i ∈ sl → i ∈ own.map (·.2) := by decide) (hsl1 : ∀ i, i ∈ sl1 → i ∈ vs1 := by decide) (hv : ∀ i ∈ vs1, i ∈ own.map (·.2) := by decide) (hs : ∀ x, foldedSetIterable e X.env x = pure x := by intro _; rfl) (hs1 : ∀ env x, foldedSetIterable e1 env x = pure x := by intro _ _; rfl) :
    EN X B ok (.ListComp elt [⟨tg, e, ifs, 0⟩, ⟨tg1, e1, ifs1, 0⟩] scope pos) (fComp2 (own.map (·.2)) fi g ft fi1 vs1 g1 ft1 f) := by
  obtain ⟨wi, wi1, gt, gt1, tt, tt1, te, pw, pg, pt, pw1, pg1, pt1, pe, k⟩ := comp_rd2 hi hg ht hi1 hg1 ht1 he hsl hsl1 hv
  exact ⟨_, pe_lc2 cx.calm hN pw bk hv pg pt pw1 pg1 pt1 pe hs hs1, k⟩
theorem ss_ownC2 {ifs ifs1 : List Expr} {scope : Scope} {own : List (Str × Nat)} {sl sl1 : List Nat} {fi fi1 : AF} {g g1 : PyData → En → Option En} {x : Str} {p2 : Pos} {spos : Pos} (i : Nat) (vs1 : List Nat) (cx : CtxE cls X B ok) (hN : X.N.Nodup) (bk : BlkOk X.N X.env.scope scope own)
    (hi : EI X B ok tg e fi) (hg : Blk X scope fun Y => TT' Y B tg sl g) (ht : Blk X scope fun Y => EC Y B noX ifs ft)
    (hi1 : Blk X scope fun Y => EI Y B noX tg1 e1 fi1) (hg1 : Blk X scope fun Y => TT' Y B tg1 sl1 g1) (ht1 : Blk X scope fun Y => EC Y B noX ifs1 ft1) (he : Blk X scope fun Y => EE Y B noX elt f)
    (hx : X.N[i]? = some x := by rfl) (hl : X.env.scope.names.lookup x = some .local := by rfl) (hk : X.env.scope.kind = .function := by rfl) (hln : (p2.line == pos.line) = true := by rfl)
    (ha : (scope.names.any fun (n, k) => n == x && (k == .local || k == .cell)) = false := by rfl)
    (hsl : ∀ i, i ∈ sl → i ∈ own.map (·.2) := by decide) (hsl1 : ∀ i, i ∈ sl1 → i ∈ vs1 := by decide) (hv : ∀ i ∈ vs1, i ∈ own.map (·.2) := by decide) (hs : ∀ x, foldedSetIterable e X.env x = pure x := by intro _; rfl) (hs1 : ∀ env x, foldedSetIterable e1 env x = pure x := by intro _ _; rfl) :
    SS X B ok (.Assign [.Name x p2] (.ListComp elt [⟨tg, e, ifs, 0⟩, ⟨tg1, e1, ifs1, 0⟩] scope pos) spos) (sOwn (fComp2 (own.map (·.2)) fi g ft fi1 vs1 g1 ft1 f) i) := by
  obtain ⟨wi, wi1, gt, gt1, tt, tt1, te, pw, pg, pt, pw1, pg1, pt1, pe, k⟩ := comp_rd2 hi hg ht hi1 hg1 ht1 he hsl hsl1 hv
  refine ⟨_, ps_setLc2 cx.calm hN hx hl (sw_true hk hl hln ha) pw bk hv pg pt pw1 pg1 pt1 pe hs hs1, fun σ H G ρ D r q => k σ H G ρ _ r ((ofR_sat q).imp fun y qx v H1 G1 hp s1 r1 x1 => ?_)⟩
  exact qx _ H1 G1 s1.sub (r1.setOw x1.g x1.b x1.own x1.ap)
end
end Y


/-! YStar: tuples and lists with parts that are spread. -/
namespace Y
open PySem PySem.Spec PyProof.Rows L2
structure EAS (X : Cx) (B : Ent) (ok : OkX) (es : List Expr) (f : AF) : Prop where
  ex : ∃ t : TA, PA X es t ∧ ∀ (σ : St) (H G : Hp) (ρ : En) (Q : List V → Hp → Prop), Rel X.K B G H σ ρ →
    (f ρ).sat (fun r => ∀ vs H' G', Adv σ G H ρ G' H' r.2 → Rel X.K B G' H' σ r.2 → TrAll X.K G' vs r.1 → Q vs H') ok → t σ H Q
def fStar (f : EF) (fs : AF) : AF := fun ρ => (f ρ).bind fun x => (ofO (itemsOf x.1)).bind fun ds => (fs x.2).bind fun xs => .ok (ds ++ xs.1, xs.2)
section
variable {X : Cx} {B : Ent} {ok : OkX} {e : Expr} {es : List Expr} {f : EF} {fs : AF} {pos p : Pos}
theorem eas_end (h : EA X B ok es fs) : EAS X B ok es fs := ⟨h.ex⟩
theorem eas_cons (h : EE X B ok e f) (hs : EAS X B ok es fs) (he : starEach (e :: es) X.env = (false, eval e X.env) :: starEach es X.env := by rfl) : EAS X B ok (e :: es) (fCons f fs) := by
  obtain ⟨t, p, k⟩ := h.ex
  obtain ⟨u, p2, k2⟩ := hs.ex
  refine ⟨_, pa_cons p p2 he, fun σ H G ρ Q r q => k σ H G ρ _ r ((R.sat_bind (r := f ρ) (f := fun x : PyData × En => (fs x.2).bind fun xs => R.ok (x.1 :: xs.1, xs.2)) q).imp fun x qx v H1 G1 s1 r1 t1 => ?_)⟩
  refine k2 σ H1 G1 x.2 _ r1 ((R.sat_bind (r := fs x.2) (f := fun xs : List PyData × En => R.ok (x.1 :: xs.1, xs.2)) qx).imp fun xs qs vs H2 G2 s2 r2 t2 => ?_)
  exact qs (v :: vs) H2 G2 (s1.trans s2) r2 (.cons (t1.mono s2.sub) t2)
theorem eas_star (h : EE X B ok e f) (hs : EAS X B ok es fs) (he : starEach (.Starred e p :: es) X.env = (true, eval e X.env) :: starEach es X.env := by rfl) : EAS X B ok (.Starred e p :: es) (fStar f fs) := by
  obtain ⟨t, p, k⟩ := h.ex
  obtain ⟨u, p2, k2⟩ := hs.ex
  refine ⟨_, StX.pa_star p p2 he, fun σ H G ρ Q r q => k σ H G ρ _ r ((R.sat_bind (r := f ρ) (f := fun x : PyData × En => (ofO (itemsOf x.1)).bind fun ds => (fs x.2).bind fun xs => R.ok (ds ++ xs.1, xs.2)) q).imp fun x qx v H1 G1 s1 r1 t1 => ?_)⟩
  obtain ⟨ds, ei, qx⟩ := ofO_sat (R.sat_bind (r := ofO (itemsOf x.1)) (f := fun ds => (fs x.2).bind fun xs => R.ok (ds ++ xs.1, xs.2)) qx)
  have key : ∃ a vs, v = V.ref a ∧ (SqT X.K H1 a vs ∨ SqL X.K H1 a vs) ∧ TrAll X.K G1 vs ds := by
    obtain ⟨d, ρ1⟩ := x
    cases d with
    | list xs =>
      cases ei
      cases t1 with | lst h t => exact ⟨_, _, rfl, .inr (.inl (r1.subG.rd h)), t⟩
    | tuple xs =>
      cases ei
      cases t1 with | tup h t => exact ⟨_, _, rfl, .inl (sqt (r1.subG.rd h)), t⟩
    | _ => cases ei
  obtain ⟨a, vs, rfl, hq, tA⟩ := key
  refine ⟨a, vs, rfl, hq, k2 σ H1 G1 x.2 _ r1 ((R.sat_bind (r := fs x.2) (f := fun xs : List PyData × En => R.ok (ds ++ xs.1, xs.2)) qx).imp fun xs qs ws H2 G2 s2 r2 t2 => ?_)⟩
  exact qs (vs ++ ws) H2 G2 (s1.trans s2) r2 ((tA.mono s2.sub).append t2)
theorem ee_tupS {x1} (h : EAS X B ok es fs) : EE X B ok (.Tuple es x1 pos) (fTup fs) := by
  obtain ⟨t, p, k⟩ := h.ex
  refine ⟨_, pe_tup p, fun σ H G ρ Q r q => k σ H G ρ _ r ((R.sat_bind (r := fs ρ) (f := fun x : List PyData × En => if x.1.length ≤ 1000 then R.ok (PyData.tuple x.1, x.2) else .no) q).imp fun x qx vs H1 G1 s1 r1 t1 => ?_)⟩
  obtain ⟨hl, qx⟩ := ite_sat qx
  refine ⟨by rw [t1.length]; exact sz1000 hl, fun p hp => ?_⟩
  have g : Grow B.T [] G1 H1 (upd G1 p (.tup vs)) (upd H1 p (.tup vs)) := Grow.new r1.sub hp (fun _ z => nomatch z)
  exact qx _ _ _ (s1.trans (Adv.grow g)) (r1.step g) (.tup (.inl upd_same) (t1.mono g.gm))
theorem en_lstS (h : EAS X B ok es fs) : EN X B ok (.List es pos) (fLst fs) := by
  obtain ⟨t, p, k⟩ := h.ex
  refine ⟨_, pe_lst p, fun σ H G ρ Q r q => k σ H G ρ _ r ((R.sat_bind (r := fs ρ) (f := fun x : List PyData × En => if x.1.length ≤ 1000 then R.ok (PyData.list x.1, x.2) else .no) q).imp fun x qx vs H1 G1 s1 r1 t1 => ?_)⟩
  obtain ⟨hl, qx⟩ := ite_sat qx
  refine ⟨by rw [t1.length]; exact sz1000 hl, fun p hp => ?_⟩
  obtain ⟨r2, x2⟩ := fresh_new r1 hp (o := .lst vs) (.lst upd_same t1)
  exact qx p _ _ (s1.pre hp) (s1.trans (Adv.grow (Grow.newO (T := B.T) (io := []) r1.sub hp))) r2 x2
end
end Y


/-! YBuilt: built-in functions by data. -/
namespace Y
open PySem PySem.Spec PyProof.Rows L2
/-- a built-in by data -/
def BD (X : Cx) (T : YT) (fv : Value) (g : List PyData → Option PyData) : Prop := ∃ r, CallR X fv r ∧ ∀ (G H : Hp) (vs : List V) (ds : List PyData) (d : PyData) (Q : VK),
  (∀ b o, G b = some o → H b = some o ∧ ∀ ps, o ≠ .tbl ps) → TrAll X.K G vs ds → g ds = some d → (∀ v H' G', Grow T [] G H G' H' → Tr X.K G' v d → Q v H') → r vs H Q
/-- .. whose answer is a new list -/
def BN (X : Cx) (T : YT) (fv : Value) (g : List PyData → Option (List PyData)) : Prop := ∃ r, CallR X fv r ∧ ∀ (G H : Hp) (vs : List V) (ds es : List PyData) (Q : VK),
  (∀ b o, G b = some o → H b = some o ∧ ∀ ps, o ≠ .tbl ps) → TrAll X.K G vs ds → g ds = some es → (∀ p xs, H p = none → TrAll X.K G xs es → Q (.ref p) (upd H p (.lst xs))) → r vs H Q
def fBlt (g : List PyData → Option PyData) (fs : AF) : EF := fun ρ => (fs ρ).bind fun x => (ofO (g x.1)).bind fun d => .ok (d, x.2)
def fBltN (g : List PyData → Option (List PyData)) (fs : AF) : EF := fun ρ => (fs ρ).bind fun x => (ofO (g x.1)).bind fun ds => .ok (.list ds, x.2)
section
variable {X : Cx} {B : Ent} {ok : OkX} {cls : Clss} {e : Expr} {es : List Expr} {fa fb fc f : EF} {fs : AF} {pos p : Pos} {x : Str} {T : YT}
theorem blt_ok {r : List V → Hp → VK → Prop} {g : List PyData → Option PyData} {t : TA} (k : ∀ (σ : St) (H G : Hp) (ρ : En) (Q : List V → Hp → Prop), Rel X.K B G H σ ρ → (fs ρ).sat (fun r => ∀ vs H' G', Adv σ G H ρ G' H' r.2 → Rel X.K B G' H' σ r.2 → TrAll X.K G' vs r.1 → Q vs H') ok → t σ H Q)
    (hr : ∀ (G H : Hp) (vs : List V) (ds : List PyData) (d : PyData) (Q : VK), (∀ b o, G b = some o → H b = some o ∧ ∀ ps, o ≠ .tbl ps) → TrAll X.K G vs ds → g ds = some d → (∀ v H' G', Grow B.T [] G H G' H' → Tr X.K G' v d → Q v H') → r vs H Q)
    {σ : St} {H G : Hp} {ρ : En} {Q : VK} (h : Rel X.K B G H σ ρ) (q : (fBlt g fs ρ).sat (fun r => ∀ v H' G', Adv σ G H ρ G' H' r.2 → Rel X.K B G' H' σ r.2 → Tr X.K G' v r.1 → Q v H') ok) : tCB r t σ H Q := by
  refine k σ H G ρ _ h ((R.sat_bind (r := fs ρ) (f := fun x => (ofO (g x.1)).bind fun d => R.ok (d, x.2)) q).imp fun y q vs H1 G1 s1 r1 t1 => ?_)
  obtain ⟨d, e1, qd⟩ := ofO_sat (R.sat_bind (r := ofO (g y.1)) (f := fun d => R.ok (d, y.2)) q)
  exact hr G1 H1 vs y.1 d Q r1.sub t1 e1 fun v H' G' gr t => qd v H' G' (s1.trans (Adv.grow gr)) (r1.step gr) t
theorem ee_blt {id : String} {g : List PyData → Option PyData} (h : BD X B.T (.builtin id) g) (hm : X.mg x = none) (hv : bootBuiltins x = some (.builtin id)) (ha : EA X B ok (e :: es) fs) (hg : Gl X x := by rfl) (hn : x ≠ "__name__" := by decide) (hdb : (x == ("__debug__" : Str)) = false := by decide)
    (he : starEach (e :: es) X.env = (false, eval e X.env) :: starEach es X.env := by rfl) (hpl : (backTo pos (starEach es X.env)).any (·.1) = false := by rfl) : EE X B ok (.Call (.Name x p) (e :: es) [] pos) (fBlt g fs) := by
  obtain ⟨r, hc, hr⟩ := h
  obtain ⟨t, pa, k⟩ := ha.ex
  exact ⟨_, pe_callB hc hg hm hv pa hn hdb he hpl, fun σ H G ρ Q r q => blt_ok k hr r q⟩
theorem ee_blty {id : String} {g : List PyData → Option PyData} (h : BD X B.T (.type id) g) (hm : X.mg x = none) (hv : bootBuiltins x = some (.type id)) (ha : EA X B ok (e :: es) fs) (hg : Gl X x := by rfl) (hn : x ≠ "__name__" := by decide) (hdb : (x == ("__debug__" : Str)) = false := by decide)
    (he : starEach (e :: es) X.env = (false, eval e X.env) :: starEach es X.env := by rfl) (hpl : (backTo pos (starEach es X.env)).any (·.1) = false := by rfl) : EE X B ok (.Call (.Name x p) (e :: es) [] pos) (fBlt g fs) := by
  obtain ⟨r, hc, hr⟩ := h
  obtain ⟨t, pa, k⟩ := ha.ex
  exact ⟨_, pe_callTy hc hg hm hv pa hn hdb he hpl, fun σ H G ρ Q r q => blt_ok k hr r q⟩
/-- a module's name for a built-in function -/
theorem ee_bltm {id : String} {g : List PyData → Option PyData} (h : BD X B.T (.builtin id) g) (hm : X.mg x = some (.builtin id)) (ha : EA X B ok (e :: es) fs) (hg : Gl X x := by rfl) (hdb : (x == ("__debug__" : Str)) = false := by decide)
    (he : starEach (e :: es) X.env = (false, eval e X.env) :: starEach es X.env := by rfl) (hpl : (backTo pos (starEach es X.env)).any (·.1) = false := by rfl) : EE X B ok (.Call (.Name x p) (e :: es) [] pos) (fBlt g fs) := by
  obtain ⟨r, hc, hr⟩ := h
  obtain ⟨t, pa, k⟩ := ha.ex
  exact ⟨_, pe_callBfun hc hg hm pa hdb he hpl, fun σ H G ρ Q r q => blt_ok k hr r q⟩
theorem bltN_ok {r : List V → Hp → VK → Prop} {g : List PyData → Option (List PyData)} {t : TA} (k : ∀ (σ : St) (H G : Hp) (ρ : En) (Q : List V → Hp → Prop), Rel X.K B G H σ ρ → (fs ρ).sat (fun r => ∀ vs H' G', Adv σ G H ρ G' H' r.2 → Rel X.K B G' H' σ r.2 → TrAll X.K G' vs r.1 → Q vs H') ok → t σ H Q)
    (hr : ∀ (G H : Hp) (vs : List V) (ds es : List PyData) (Q : VK), (∀ b o, G b = some o → H b = some o ∧ ∀ ps, o ≠ .tbl ps) → TrAll X.K G vs ds → g ds = some es → (∀ p xs, H p = none → TrAll X.K G xs es → Q (.ref p) (upd H p (.lst xs))) → r vs H Q)
    {σ : St} {H G : Hp} {ρ : En} {Q : VK} (h : Rel X.K B G H σ ρ) (q : (fBltN g fs ρ).sat (fun r => ∀ p H' G', H p = none → Adv σ G H ρ G' H' r.2 → Rel X.K B G' H' σ r.2 → Fresh X.K B G' H' σ r.2 p r.1 → Q (.ref p) H') ok) : tCB r t σ H Q := by
  refine k σ H G ρ _ h ((R.sat_bind (r := fs ρ) (f := fun x => (ofO (g x.1)).bind fun ds => R.ok (PyData.list ds, x.2)) q).imp fun y q vs H1 G1 s1 r1 t1 => ?_)
  obtain ⟨es, e1, qd⟩ := ofO_sat (R.sat_bind (r := ofO (g y.1)) (f := fun ds => R.ok (PyData.list ds, y.2)) q)
  refine hr G1 H1 vs y.1 es Q r1.sub t1 e1 fun p xs hp tx => ?_
  obtain ⟨r2, x2⟩ := fresh_new r1 hp (o := .lst xs) (.lst upd_same tx)
  exact qd p _ _ (s1.pre hp) (s1.trans (Adv.grow (Grow.newO (T := B.T) (io := []) r1.sub hp))) r2 x2
theorem en_blt {id : String} {g : List PyData → Option (List PyData)} (h : BN X B.T (.builtin id) g) (hm : X.mg x = none) (hv : bootBuiltins x = some (.builtin id)) (ha : EA X B ok (e :: es) fs) (hg : Gl X x := by rfl) (hn : x ≠ "__name__" := by decide) (hdb : (x == ("__debug__" : Str)) = false := by decide)
    (he : starEach (e :: es) X.env = (false, eval e X.env) :: starEach es X.env := by rfl) (hpl : (backTo pos (starEach es X.env)).any (·.1) = false := by rfl) : EN X B ok (.Call (.Name x p) (e :: es) [] pos) (fBltN g fs) := by
  obtain ⟨r, hc, hr⟩ := h
  obtain ⟨t, pa, k⟩ := ha.ex
  exact ⟨_, pe_callB hc hg hm hv pa hn hdb he hpl, fun σ H G ρ Q r q => bltN_ok k hr r q⟩
theorem en_blty {id : String} {g : List PyData → Option (List PyData)} (h : BN X B.T (.type id) g) (hm : X.mg x = none) (hv : bootBuiltins x = some (.type id)) (ha : EA X B ok (e :: es) fs) (hg : Gl X x := by rfl) (hn : x ≠ "__name__" := by decide) (hdb : (x == ("__debug__" : Str)) = false := by decide)
    (he : starEach (e :: es) X.env = (false, eval e X.env) :: starEach es X.env := by rfl) (hpl : (backTo pos (starEach es X.env)).any (·.1) = false := by rfl) : EN X B ok (.Call (.Name x p) (e :: es) [] pos) (fBltN g fs) := by
  obtain ⟨r, hc, hr⟩ := h
  obtain ⟨t, pa, k⟩ := ha.ex
  exact ⟨_, pe_callTy hc hg hm hv pa hn hdb he hpl, fun σ H G ρ Q r q => bltN_ok k hr r q⟩
/-! ### len -/
def gLen : List PyData → Option PyData
  | [.list ds] => some (.int ds.length)
  | [.tuple ds] => some (.int ds.length)
  | [.str s] => if s.length ≤ 1000000 then some (.int s.length) else none
  | _ => none
theorem bd_len : BD X T (.builtin "len") gLen := by
  refine ⟨_, call_len, fun G H vs ds d Q s t e q => ?_⟩
  unfold gLen at e
  split at e
  · cases e
    cases t with | cons u t =>
    cases t
    cases u with | lst h t =>
    exact ⟨_, _, rfl, .inl ⟨_, .inl ((sub_of s).rd h), rfl⟩, by rw [t.length]; exact q _ H G (Grow.refl s) (.int _)⟩
  · cases e
    cases t with | cons u t =>
    cases t
    cases u with | tup h t =>
    exact ⟨_, _, rfl, .inr ⟨_, sqt ((sub_of s).rd h), rfl⟩, by rw [t.length]; exact q _ H G (Grow.refl s) (.int _)⟩
  · split at e
    · cases e
      cases t with | cons u t =>
      cases t
      cases u
      exact ⟨_, _, rfl, ⟨lim_sz (by assumption), rfl⟩, q _ H G (Grow.refl s) (.int _)⟩
    · cases e
  · cases e
/-! ### abs, min, max of two ints -/
def gAbs : List PyData → Option PyData
  | [.int i] => some (.int (if i < 0 then -i else i))
  | _ => none
theorem bd_abs : BD X T (.builtin "abs") gAbs := by
  refine ⟨_, call_abs, fun G H vs ds d Q s t e q => ?_⟩
  unfold gAbs at e
  split at e
  · cases e
    cases t with | cons u t =>
    cases t
    cases u
    exact ⟨_, rfl, q _ H G (Grow.refl s) (.int _)⟩
  · cases e
def g2i (g : Int → Int → Int) : List PyData → Option PyData
  | [.int i, .int j] => some (.int (g i j))
  | _ => none
theorem g2i_inv {K : PySem.W.Frag} {G : Hp} {g : Int → Int → Int} {vs : List V} {ds : List PyData} {d : PyData} (t : TrAll K G vs ds) (e : g2i g ds = some d) : ∃ i j, vs = [.int i, .int j] ∧ d = .int (g i j) := by
  unfold g2i at e
  split at e
  · cases e
    cases t with | cons u t =>
    cases t with | cons w t =>
    cases t
    cases u; cases w
    exact ⟨_, _, rfl, rfl⟩
  · cases e
theorem bd_max2 (hc : X.calm = true) : BD X T (.builtin "max") (g2i fun i j => if j > i then j else i) := by
  refine ⟨_, call_max2 hc, fun G H vs ds d Q s t e q => ?_⟩
  obtain ⟨i, j, rfl, rfl⟩ := g2i_inv t e
  exact ⟨i, j, rfl, q _ H G (Grow.refl s) (.int _)⟩
theorem bd_min2 (hc : X.calm = true) : BD X T (.builtin "min") (g2i fun i j => if j < i then j else i) := by
  refine ⟨_, call_min2 hc, fun G H vs ds d Q s t e q => ?_⟩
  obtain ⟨i, j, rfl, rfl⟩ := g2i_inv t e
  exact ⟨i, j, rfl, q _ H G (Grow.refl s) (.int _)⟩
theorem bd_gcd : BD X T (.builtin "math.gcd") (g2i fun i j => ((Nat.gcd i.natAbs j.natAbs : Nat) : Int)) := by
  refine ⟨_, cr_gcd, fun G H vs ds d Q s t e q => ?_⟩
  obtain ⟨i, j, rfl, rfl⟩ := g2i_inv t e
  exact ⟨i, j, rfl, q _ H G (Grow.refl s) (.int _)⟩
/-! ### sum, all, any -/
def intsOf : List PyData → Option (List Int)
  | [] => some []
  | .int i :: ds => (intsOf ds).map (i :: ·)
  | _ => none
theorem intsOf_tr {K : PySem.W.Frag} {G : Hp} : ∀ {vs : List V} {ds : List PyData} {ns : List Int}, TrAll K G vs ds → intsOf ds = some ns → vs = ns.map V.int
  | _, _, _, .nil, e => by cases e; rfl
  | _, _, ns, .cons (d := d) (ds := ds) u t, e => by
    cases u with
    | int i =>
      unfold intsOf at e
      cases e1 : intsOf ds with
      | none => rw [e1] at e; cases e
      | some ms => rw [e1] at e; cases e; rw [intsOf_tr t e1]; rfl
    | _ => cases e
def bolsOf : List PyData → Option (List Bool)
  | [] => some []
  | .bool i :: ds => (bolsOf ds).map (i :: ·)
  | _ => none
theorem bolsOf_tr {K : PySem.W.Frag} {G : Hp} : ∀ {vs : List V} {ds : List PyData} {ns : List Bool}, TrAll K G vs ds → bolsOf ds = some ns → vs = ns.map V.bl
  | _, _, _, .nil, e => by cases e; rfl
  | _, _, ns, .cons (d := d) (ds := ds) u t, e => by
    cases u with
    | bl i =>
      unfold bolsOf at e
      cases e1 : bolsOf ds with
      | none => rw [e1] at e; cases e
      | some ms => rw [e1] at e; cases e; rw [bolsOf_tr t e1]; rfl
    | _ => cases e
def gSum : List PyData → Option PyData
  | [.list ds] => (intsOf ds).map fun ns => .int ns.sum
  | _ => none
def gAll : List PyData → Option PyData
  | [.list ds] => (bolsOf ds).map fun ns => .bool (ns.all id)
  | _ => none
def gAny : List PyData → Option PyData
  | [.list ds] => (bolsOf ds).map fun ns => .bool (ns.any id)
  | _ => none
theorem bd_sum (hc : X.calm = true) : BD X T (.builtin "sum") gSum := by
  refine ⟨_, cr_sum hc, fun G H vs ds d Q s t e q => ?_⟩
  unfold gSum at e
  split at e
  · rename_i ds
    cases e1 : intsOf ds with
    | none => rw [e1] at e; cases e
    | some ns =>
      rw [e1] at e; cases e
      cases t with | cons u t =>
      cases t
      cases u with | lst h t =>
      have := intsOf_tr t e1
      subst this
      exact ⟨_, ns, rfl, .inl ((sub_of s).rd h), q _ H G (Grow.refl s) (.int _)⟩
  · cases e
theorem bd_all (hc : X.calm = true) : BD X T (.builtin "all") gAll := by
  refine ⟨_, cr_all hc, fun G H vs ds d Q s t e q => ?_⟩
  unfold gAll at e
  split at e
  · rename_i ds
    cases e1 : bolsOf ds with
    | none => rw [e1] at e; cases e
    | some ns =>
      rw [e1] at e; cases e
      cases t with | cons u t =>
      cases t
      cases u with | lst h t =>
      have := bolsOf_tr t e1
      subst this
      exact ⟨_, ns, rfl, .inl ((sub_of s).rd h), q _ H G (Grow.refl s) (.bl _)⟩
  · cases e
theorem bd_any (hc : X.calm = true) : BD X T (.builtin "any") gAny := by
  refine ⟨_, cr_any hc, fun G H vs ds d Q s t e q => ?_⟩
  unfold gAny at e
  split at e
  · rename_i ds
    cases e1 : bolsOf ds with
    | none => rw [e1] at e; cases e
    | some ns =>
      rw [e1] at e; cases e
      cases t with | cons u t =>
      cases t
      cases u with | lst h t =>
      have := bolsOf_tr t e1
      subst this
      exact ⟨_, ns, rfl, .inl ((sub_of s).rd h), q _ H G (Grow.refl s) (.bl _)⟩
  · cases e
/-! ### tuple(x), list(x) -/
def gTuple : List PyData → Option PyData
  | [.list ds] => some (.tuple ds)
  | [.tuple ds] => some (.tuple ds)
  | _ => none
theorem bd_tuple : BD X T (.type "tuple") gTuple := by
  refine ⟨_, call_tuple_of, fun G H vs ds d Q s t e q => ?_⟩
  unfold gTuple at e
  split at e
  · cases e
    cases t with | cons u t =>
    cases t
    cases u with | lst h t =>
    rename_i a xs
    refine ⟨a, xs, rfl, .inl ⟨.inl ((sub_of s).rd h), fun l hl => ?_⟩⟩
    have g : Grow T [] G H (upd G l (.tup xs)) (upd H l (.tup xs)) := Grow.new s hl (fun _ z => nomatch z)
    exact q _ _ _ g (.tup (.inl upd_same) (t.mono g.gm))
  · cases e
    cases t with | cons u t =>
    cases t
    cases u with | tup h t =>
    exact ⟨_, _, rfl, .inr ⟨sqt ((sub_of s).rd h), q _ H G (Grow.refl s) (.tup h t)⟩⟩
  · cases e
def gList : List PyData → Option (List PyData)
  | [.list ds] => some ds
  | [.tuple ds] => some ds
  | _ => none
theorem bn_list : BN X T (.type "list") gList := by
  refine ⟨_, call_list_of, fun G H vs ds es Q s t e q => ?_⟩
  unfold gList at e
  split at e
  · cases e
    cases t with | cons u t =>
    cases t
    cases u with | lst h t =>
    exact ⟨_, _, rfl, .inl (.inl ((sub_of s).rd h)), fun l hl => q l _ hl t⟩
  · cases e
    cases t with | cons u t =>
    cases t
    cases u with | tup h t =>
    exact ⟨_, _, rfl, .inr (sqt ((sub_of s).rd h)), fun l hl => q l _ hl t⟩
  · cases e
/-! ### sorted -/
def sortOk (ds : List PyData) : Bool :=
  (ds.all fun d => ds.all fun d' => PySem.W.alike d d') && ((ds.all fun d => match d with | .tuple (_ :: _) => true | _ => false) || (ds.all fun d => match d with | .none => false | .tuple _ => false | _ => true)) &&
    ds.all fun d => SeqAt.shaped d
def sortD (ds : List PyData) : List PyData := ds.mergeSort (PySem.W.dataLe false id)
def gSorted : List PyData → Option (List PyData)
  | [.list ds] => if sortOk ds = true ∧ ds.length ≤ 1000000 then some (sortD ds) else none
  | _ => none
def rSortD (K : PySem.W.Frag) : List V → Hp → VK → Prop := fun vs H Q => ∃ (a : Addr) (xs : List V) (ds : List PyData), vs = [V.ref a] ∧ SqL K H a xs ∧ DpAll K H xs ds ∧ sortOk ds = true ∧ ds.length ≤ 1000000 ∧
  ∀ p, H p = none → Q (.ref p) (upd H p (.lst ((((xs.zip ds).mergeSort (PySem.W.dataLe false (·.2))).map (·.1)))))
theorem dpAll_len {K : PySem.W.Frag} {H : Hp} : ∀ {vs : List V} {ds : List PyData}, DpAll K H vs ds → vs.length = ds.length
  | _, _, .nil => rfl
  | _, _, .cons _ t => by rw [List.length_cons, List.length_cons, dpAll_len t]
theorem each_zip {X : Cx} {pins : List (Addr × Obj)} {σ : St} {H : Hp} {s : Shared} (I : Inv X pins σ H s) : ∀ {xs : List V} {ds : List PyData} {its : List Value}, DpAll X.K H xs ds → Vals xs its →
    PySem.W.EachIs (fun v (b : V × PyData) => L2.RelV b.1 v) its (xs.zip ds) ∧ PySem.W.EachIs (fun v (b : V × PyData) => ∃ as, Reads s.heap v b.2 as) its (xs.zip ds)
  | _, _, _, .nil, .nil => ⟨.nil, .nil⟩
  | _, _, _, .cons h t, .cons r v => by
    obtain ⟨a, b⟩ := each_zip I t v
    exact ⟨.cons r a, .cons (Dp.reads I _ _ _ h r) b⟩
theorem vals_each : ∀ {out : List Value} {bs : List (V × PyData)}, PySem.W.EachIs (fun v (b : V × PyData) => L2.RelV b.1 v) out bs → Vals (bs.map (·.1)) out
  | _, _, .nil => .nil
  | _, _, .cons h t => .cons h (vals_each t)
theorem zip_snd : ∀ {xs : List V} {ds : List PyData}, xs.length = ds.length → (xs.zip ds).map (·.2) = ds
  | [], [], _ => rfl
  | x :: xs, d :: ds, h => by
    rw [List.zip_cons_cons, List.map_cons, zip_snd (by simpa using h)]
theorem cr_sortD (hu : X.A.units + 70 < cLine) : CallR X (.builtin "sorted") (rSortD X.K) := by
  intro pins s σ H vs us Q I r h
  obtain ⟨a, xs, ds, rfl, hs, hd, hok, hsz, q⟩ := h
  obtain ⟨its, rv, hl, _⟩ := I.list hs
  have hlen := dpAll_len hd
  rw [Vals.ref1 r]
  obtain ⟨e1, e2⟩ := each_zip I hd rv
  unfold sortOk at hok
  simp only [Bool.and_eq_true, Bool.or_eq_true, List.all_eq_true] at hok
  obtain ⟨⟨h1, h2⟩, h3⟩ := hok
  have em : (xs.zip ds).map (·.2) = ds := zip_snd hlen
  have hL : (xs.zip ds).length ≤ sizeLine := by
    rw [List.length_zip, hlen, Nat.min_self]
    exact lim_sz hsz
  refine PySem.W.sorted_data (R := fun v (b : V × PyData) => L2.RelV b.1 v) (enc := fun b : V × PyData => b.2) hl.isList e1 e2 ?_ ?_ hL (fun b hb => ?_) fun out ho eo => ?_
  · rw [em]
    exact fun d hd d' hd' => h1 d hd d' hd'
  · rw [em]
    rcases h2 with h2 | h2
    · refine .inl fun d hd => ?_
      have z := h2 d hd
      split at z
      · exact ⟨_, _, rfl⟩
      · cases z
    · refine .inr fun d hd => ⟨fun e => ?_, fun ys e => ?_⟩
      · have z := h2 d hd
        subst e
        cases z
      · have z := h2 d hd
        subst e
        cases z
  · have hm : b.2 ∈ ds := by rw [← em]; exact List.mem_map.mpr ⟨b, hb, rfl⟩
    have z := h3 _ hm
    unfold SeqAt.shaped at z
    simp only [Bool.and_eq_true, decide_eq_true_eq] at z
    have := z.2
    omega
  · have hv := vals_each eo
    obtain ⟨ep, he⟩ := PyProof.Rows.sortedAll_at s.heap its (List.toArray out)
    have hl2 : (((xs.zip ds).mergeSort (PySem.W.dataLe false (·.2))).map (·.1)).length ≤ sizeLine := by rw [List.length_map, List.length_mergeSort]; exact hL
    exact ⟨.ref _, _, I.laid (t' := s.toks) (a := s.heap.objs.size + 1) (o := .lst ((((xs.zip ds).mergeSort (PySem.W.dataLe false (·.2))).map (·.1)))) (fun _ _ => PyProof.Rows.sortedAll_old) (Nat.le_succ _) ⟨hl2, out, ep, hv, he⟩, rfl, q _ (I.hok.fresh (Nat.le_succ _))⟩
theorem TrAll.zip_perm {K : PySem.W.Frag} {G : Hp} {xs : List V} {ds : List PyData} (t : TrAll K G xs ds) : ∀ p ∈ xs.zip ds, Tr K G p.1 p.2 := by
  intro p hp
  obtain ⟨i, hi⟩ := List.mem_iff_getElem?.mp hp
  rw [List.getElem?_zip_eq_some] at hi
  obtain ⟨v, e, tv⟩ := t.get hi.2
  rw [hi.1] at e; cases e
  exact tv
theorem TrAll.of_pairs {K : PySem.W.Frag} {G : Hp} : ∀ {l : List (V × PyData)}, (∀ p ∈ l, Tr K G p.1 p.2) → TrAll K G (l.map (·.1)) (l.map (·.2))
  | [], _ => .nil
  | p :: l, h => .cons (h p List.mem_cons_self) (TrAll.of_pairs fun q hq => h q (List.mem_cons_of_mem _ hq))
theorem flatAll_of : ∀ {ds : List PyData}, (∀ d ∈ ds, SeqAt.shaped d = true) → flatAll ds = true
  | [], _ => rfl
  | d :: ds, h => by
    rw [flatAll, flat_of (h d List.mem_cons_self), flatAll_of fun x hx => h x (List.mem_cons_of_mem _ hx)]
    rfl
theorem bn_sorted (hu : X.A.units + 70 < cLine) : BN X T (.builtin "sorted") gSorted := by
  refine ⟨_, cr_sortD hu, fun G H vs ds es Q s t e q => ?_⟩
  unfold gSorted at e
  split at e
  · rename_i ds
    split at e
    · rename_i hc
      cases e
      cases t with | cons u t =>
      cases t
      cases u with | lst h t =>
      rename_i a xs
      have hf : flatAll ds = true := flatAll_of (by
        have z := hc.1
        unfold sortOk at z
        simp only [Bool.and_eq_true, List.all_eq_true] at z
        exact z.2)
      refine ⟨a, xs, ds, rfl, .inl ((sub_of s).rd h), (t.mono (sub_of s)).dp hf, hc.1, hc.2, fun p hp => q p _ hp ?_⟩
      have em : (xs.zip ds).map (·.2) = ds := zip_snd t.length
      have e2 : sortD ds = ((xs.zip ds).mergeSort (PySem.W.dataLe false (·.2))).map (·.2) := by
        have z := PySem.W.sort_maps (r := PySem.W.dataLe false fun b : V × PyData => b.2) (s := PySem.W.dataLe false (id : PyData → PyData)) (fun b : V × PyData => b.2) (l := xs.zip ds) fun _ _ _ _ => rfl
        rw [z, em]
        rfl
      rw [e2]
      exact TrAll.of_pairs fun p hp => t.zip_perm p ((List.mergeSort_perm _ _).mem_iff.mp hp)
    · cases e
  · cases e
/-! ### repr -/
def gRepr : List PyData → Option PyData
  | [d] => if SeqAt.shaped d = true ∧ d.showable = true ∧ d.shown.length ≤ 1000000 then some (.str d.shown) else none
  | _ => none
mutual
theorem nodict : ∀ d : PyData, flat d = true → d.hasDict = false
  | .none, _ => rfl
  | .bool _, _ => rfl
  | .int _, _ => rfl
  | .str _, _ => rfl
  | .list xs, h => by
    rw [PyData.hasDict]
    exact nodictAll xs (by simpa [flat] using h)
  | .tuple xs, h => by
    rw [PyData.hasDict]
    exact nodictAll xs (by simpa [flat] using h)
  | .dict _, h => by simp [flat] at h
theorem nodictAll : ∀ ds : List PyData, flatAll ds = true → PyData.hasDictAll ds = false
  | [], _ => rfl
  | x :: xs, h => by
    simp only [flatAll, Bool.and_eq_true] at h
    rw [PyData.hasDictAll, nodict x h.1, nodictAll xs h.2]
    rfl
end
def rReprD (K : PySem.W.Frag) : List V → Hp → VK → Prop := fun vs H Q => ∃ (x : V) (d : PyData), vs = [x] ∧ Dp K H x d ∧ SeqAt.shaped d = true ∧ d.showable = true ∧ d.shown.length ≤ 1000000 ∧ Q (.str d.shown) H
theorem cr_reprD (hG : X.A.guards = some []) (hu : X.A.units + 70 < cLine) : CallR X (.builtin "repr") (rReprD X.K) := by
  intro pins s σ H vs us Q I r h
  obtain ⟨x, d, rfl, hd, hs, hsh, hsz, q⟩ := h
  obtain ⟨u, rfl, ru⟩ := vals1 r
  have hz := lim_sz hsz
  cases hd with
  | non =>
    cases ru
    exact PySem.P.repr_of_none ⟨.str _, H, I.tok _, ⟨_, rfl⟩, q⟩
  | bl b =>
    cases ru
    exact PySem.P.repr_of_bool ⟨.str _, H, I.tok _, ⟨_, rfl⟩, q⟩
  | int i =>
    obtain ⟨t, rfl⟩ := ru
    exact PySem.P.repr_of_int (by simpa [PyData.showable] using hsh) ⟨.str _, H, I.tok _, ⟨_, rfl⟩, q⟩
  | str y =>
    obtain ⟨t, rfl⟩ := ru
    exact PySem.P.repr_of_str ⟨.str _, H, I.tok _, ⟨_, rfl⟩, q⟩ hz
  | @lst a ys ds h1 h2 =>
    cases ru
    obtain ⟨as, hr⟩ := Dp.reads I (.list ds) (.ref a) (.ref a) (.lst h1 h2) rfl
    have hdep : (PyData.list ds).depth ≤ 64 := by
      unfold SeqAt.shaped at hs
      simp only [Bool.and_eq_true, decide_eq_true_eq] at hs
      exact hs.2
    refine repr_of_reads' hr hsh (fun z => by rw [nodict _ (flat_of hs)] at z; cases z) hG (by omega) (fun _ _ e => e) (fun h' u tk hk => ?_) hz
    exact ⟨.str _, H, I.kept hk, ⟨_, rfl⟩, q⟩
  | @tup a ys ds h1 h2 =>
    cases ru
    obtain ⟨as, hr⟩ := Dp.reads I (.tuple ds) (.ref a) (.ref a) (.tup h1 h2) rfl
    have hdep : (PyData.tuple ds).depth ≤ 64 := by
      unfold SeqAt.shaped at hs
      simp only [Bool.and_eq_true, decide_eq_true_eq] at hs
      exact hs.2
    refine repr_of_reads' hr hsh (fun z => by rw [nodict _ (flat_of hs)] at z; cases z) hG (by omega) (fun _ _ e => e) (fun h' u tk hk => ?_) hz
    exact ⟨.str _, H, I.kept hk, ⟨_, rfl⟩, q⟩
theorem bd_repr (hG : X.A.guards = some []) (hu : X.A.units + 70 < cLine) : BD X T (.builtin "repr") gRepr := by
  refine ⟨_, cr_reprD hG hu, fun G H vs ds d Q s t e q => ?_⟩
  unfold gRepr at e
  split at e
  · split at e
    · rename_i hc
      cases e
      cases t with | cons u t =>
      cases t
      exact ⟨_, _, rfl, Dp.mono' (sub_of s) (flat_of hc.1) u, hc.1, hc.2.1, hc.2.2, q _ H G (Grow.refl s) (.str _)⟩
    · cases e
  · cases e
/-! ### isinstance -/
def tyOf : PyData → String
  | .none => "NoneType"
  | .bool _ => "bool"
  | .int _ => "int"
  | .str _ => "str"
  | .list _ => "list"
  | .tuple _ => "tuple"
  | .dict _ => "dict"
def isExc : PyData → Bool
  | .dict ((.none, _) :: _) => true
  | _ => false
theorem tyx_of {K : PySem.W.Frag} {G H : Hp} {v : V} {d : PyData} (s : Sub G H) (t : Tr K G v d) (hx : isExc d = false) : TyX K H v (.type (tyOf d)) := by
  cases t with
  | non => exact .base .non
  | bl b => exact .base (.bl b)
  | int i => exact .base (.int i)
  | str x => exact .base (.str x)
  | lst h _ =>
    rcases h with h | ⟨o, h⟩
    · exact .base (.lst (s _ _ h))
    · exact .base (.frz (s _ _ h))
  | tup h _ =>
    rcases h with h | ⟨o, h⟩
    · exact .base (.tup (s _ _ h))
    · exact .fTuple (s _ _ h)
  | dK h _ =>
    rcases h with h | ⟨o, h⟩
    · exact .base (.dK (s _ _ h))
    · exact .fDict (s _ _ h)
  | exc _ _ _ _ => cases hx
def isTyS (n t : String) : Bool := decide (t = n) || (decide (n = "int") && decide (t = "bool"))
def isTy (n : String) (d : PyData) : Bool := isTyS n (tyOf d)
theorem kit_all : ∀ n ∈ ["int", "bool", "str", "tuple", "list", "dict"], ∀ t ∈ ["NoneType", "bool", "int", "str", "list", "tuple", "dict"], kitB t n = some (isTyS n t) := by decide +kernel
theorem tyOf_mem (d : PyData) : tyOf d ∈ ["NoneType", "bool", "int", "str", "list", "tuple", "dict"] := by cases d <;> simp [tyOf]
theorem kit_is {K : PySem.W.Frag} {n : String} (hn : n ∈ ["int", "bool", "str", "tuple", "list", "dict"]) (d : PyData) : PySem.W.kitOne K (.type (tyOf d)) (.type n) = some (isTy n d) := by
  exact kit_ty (kit_all n hn _ (tyOf_mem d))
def fIsi (n : String) (f : EF) : EF := fun ρ => (f ρ).bind fun x => if isExc x.1 = false then .ok (.bool (isTy n x.1), x.2) else .no
theorem ee_isi {y : Str} {n : String} {p1 : Pos} (hm : X.mg "isinstance" = none) (hy : X.mg y = none) (hv : bootBuiltins y = some (.type n)) (h : EE X B ok e f) (hn : n ∈ ["int", "bool", "str", "tuple", "list", "dict"] := by decide) (hg : Gl X "isinstance" := by rfl) (hgy : Gl X y := by rfl)
    (hny : y ≠ "__name__" := by decide) (hdy : (y == ("__debug__" : Str)) = false := by decide)
    (h1 : starEach [e, .Name y p1] X.env = (false, eval e X.env) :: starEach [.Name y p1] X.env := by rfl) (h2 : starEach [.Name y p1] X.env = (false, eval (.Name y p1) X.env) :: starEach [] X.env := by rfl)
    (hpl : (backTo pos (starEach [.Name y p1] X.env)).any (·.1) = false := by rfl) : EE X B ok (.Call (.Name "isinstance" p) [e, .Name y p1] [] pos) (fIsi n f) := by
  obtain ⟨t, pe, k⟩ := h.ex
  have py : PE X (.Name y p1) (tC (.ty n)) := pe_bltn hgy hy hv rfl hny hdy
  refine ⟨_, pe_callB call_isi hg hm (by decide +kernel) (pa_cons pe (pa_cons py pa_nil h2) h1) (by decide) (by decide) h1 hpl, fun σ H G ρ Q r q => k σ H G ρ _ r ((R.sat_bind q).imp fun y q v H1 G1 s1 r1 t1 => ?_)⟩
  obtain ⟨hx, q⟩ := ite_sat q
  exact ⟨v, .ty n, _, _, _, rfl, .ty n, tyx_of r1.subG t1 hx, kit_is hn y.1, q _ H1 G1 s1 r1 (.bl _)⟩
end
end Y


/-! YInt: int(x), str(x), ranges with a step. -/
namespace Y
open PySem PySem.Spec PyProof.Rows L2
section
variable {X : Cx} {T : YT}
def gIntOf : List PyData → Option PyData
  | [.int i] => some (.int i)
  | [.bool b] => some (.int (if b = true then 1 else 0))
  | [.str s] => if s.length ≤ 640 then (PySem.intText? s).map PyData.int else none
  | _ => none
theorem bd_int : BD X T (.type "int") gIntOf := by
  refine ⟨fun vs H Q => ((∃ i, vs = [.int i] ∧ Q (.int i) H) ∨ ∃ k, vs = [.bl k] ∧ Q (.int (if k then 1 else 0)) H) ∨ ∃ a n, vs = [.str a] ∧ PySem.intText? a = some n ∧ a.length ≤ 640 ∧ Q (.int n) H, fun pins s σ H xs us Q I r h => ?_, fun G H vs ds d Q s t e q => ?_⟩
  · rcases h with h | h
    · exact call_int1 pins s σ H xs us Q I r h
    · exact call_int_str pins s σ H xs us Q I r h
  · unfold gIntOf at e
    split at e
    · cases e
      cases t with | cons u t =>
      cases t
      cases u
      exact .inl (.inl ⟨_, rfl, q _ H G (Grow.refl s) (.int _)⟩)
    · cases e
      cases t with | cons u t =>
      cases t
      cases u
      exact .inl (.inr ⟨_, rfl, q _ H G (Grow.refl s) (.int _)⟩)
    · split at e
      · rename_i hl
        obtain ⟨n, hn, rfl⟩ := Option.map_eq_some_iff.mp e
        cases t with | cons u t =>
        cases t
        cases u
        exact .inr ⟨_, _, rfl, hn, hl, q _ H G (Grow.refl s) (.int _)⟩
      · cases e
    · cases e
def gStrOf : List PyData → Option PyData
  | [.int i] => if i.natAbs.log2 < 1920 then some (.str (toString i)) else none
  | _ => none
theorem bd_str : BD X T (.type "str") gStrOf := by
  refine ⟨_, call_str_int, fun G H vs ds d Q s t e q => ?_⟩
  unfold gStrOf at e
  split at e
  · split at e
    · rename_i hl
      cases e
      cases t with | cons u t =>
      cases t
      cases u
      exact ⟨_, rfl, hl, q _ H G (Grow.refl s) (.str _)⟩
    · cases e
  · cases e
end
/-! ### range(i, j, c) -/
def rangeC (lo c : Int) (n : Nat) : List PyData := (List.range n).map fun i => .int (lo + (i : Nat) * c)
def rng3Of : List PyData → Option (List PyData)
  | [.int i, .int j, .int c] => if c ≠ 0 ∧ c.natAbs < 1073741824 ∧ Builtin.Range.small i j c = true then some (rangeC i c (Builtin.Range.rangeSize i j c).toNat) else none
  | _ => none
def fRng3 (fs : AF) : AF := fun ρ => (fs ρ).bind fun x => (ofO (rng3Of x.1)).bind fun ds => .ok (ds, x.2)
theorem rangeC_get {lo c : Int} {n i : Nat} {d : PyData} (h : (rangeC lo c n)[i]? = some d) : i < n ∧ d = .int (lo + (i : Nat) * c) := by
  unfold rangeC at h
  rw [List.getElem?_map] at h
  obtain ⟨k, hk, rfl⟩ := Option.map_eq_some_iff.mp h
  obtain ⟨hl, e⟩ := List.getElem?_eq_some_iff.mp hk
  rw [List.getElem_range] at e
  subst e
  rw [List.length_range] at hl
  exact ⟨hl, rfl⟩
theorem yields_rngC {K : PySem.W.Frag} {T : YT} {G : Hp} {lo c : Int} {n : Nat} : Yields K T (Itc lo c n) G (rangeC lo c n) := by
  refine ⟨fun i d G2 H2 h _ h2 => ?_, fun i G2 H2 h _ _ => ?_⟩
  · obtain ⟨h1, rfl⟩ := rangeC_get h
    exact ⟨h1, fun x H3 hy => by
      obtain ⟨rfl, rfl⟩ := hy
      exact ⟨G2, Grow.refl h2, .int _⟩⟩
  · unfold rangeC at h
    rw [List.length_map, List.length_range] at h
    exact h
section
variable {X : Cx} {B : Ent} {ok : OkX} {a b c tg : Expr} {fs : AF} {p pos : Pos}
theorem ei_range3 (hm : X.mg "range" = none) (h : EA X B ok [a, b, c] fs) (hg : Gl X "range" := by rfl) (hs : starEach [a, b, c] X.env = (false, eval a X.env) :: starEach [b, c] X.env := by rfl) (hpl : (backTo pos (starEach [b, c] X.env)).any (·.1) = false := by rfl) : EI X B ok tg (.Call (.Name "range" p) [a, b, c] [] pos) (fRng3 fs) := by
  obtain ⟨t, pa, k⟩ := h.ex
  refine ⟨_, pi_range3 hg hm pa hs hpl, fun σ H G ρ W r q => k σ H G ρ _ r ((R.sat_bind (r := fs ρ) (f := fun x => (ofO (rng3Of x.1)).bind fun ds => R.ok (ds, x.2)) q).imp fun x qx vs H1 G1 s1 r1 t1 => ?_)⟩
  obtain ⟨ds, ei, qx⟩ := ofO_sat (R.sat_bind (r := ofO (rng3Of x.1)) (f := fun ds => R.ok (ds, x.2)) qx)
  obtain ⟨xs, ρ1⟩ := x
  unfold rng3Of at ei
  split at ei
  · rename_i i j c0 hx
    dsimp only at hx
    subst hx
    split at ei
    · rename_i hc
      cases ei
      cases t1 with | cons u t1 =>
      cases t1 with | cons w t1 =>
      cases t1 with | cons z t1 =>
      cases t1
      cases u; cases w; cases z
      exact ⟨i, j, c0, _, rfl, ⟨hc.1, hc.2.1, hc.2.2, PyProof.Rows.rangeSize_toNat i j c0⟩, qx _ H1 G1 s1 r1 yields_rngC⟩
    · cases ei
  · cases ei
end
end Y


/-! YMore: chains, slices, methods of one's own objects, their entries, dict displays, names set side by side, enumerate. -/
namespace Y
open PySem PySem.Spec PyProof.Rows L2
section
variable {X : Cx} {B : Ent} {ok : OkX} {cls : Clss} {a b c e : Expr} {es : List Expr} {fa fb fc f : EF} {fs : AF} {pos p p1 p2 : Pos} {k j n : Nat} {x y : Str} {T : YT}
/-! ### a < b < c -/
def fChain (g g' : PyData → PyData → Option PyData) (fa fb fc : EF) : EF := fun ρ => (fa ρ).bind fun x => (fb x.2).bind fun y => (ofO (g x.1 y.1)).bind fun d => (ofO (asB d)).bind fun k =>
  if k = true then (fc y.2).bind fun z => (ofO (g' y.1 z.1)).bind fun d' => .ok (d', z.2) else .ok (.bool false, y.2)
theorem chain_ok {ta tb tc : TE} {r r' : R2} {g g' : PyData → PyData → Option PyData}
    (ka : ∀ (σ : St) (H G : Hp) (ρ : En) (Q : VK), Rel X.K B G H σ ρ → (fa ρ).sat (fun r => ∀ v H' G', Adv σ G H ρ G' H' r.2 → Rel X.K B G' H' σ r.2 → Tr X.K G' v r.1 → Q v H') ok → ta σ H Q)
    (kb : ∀ (σ : St) (H G : Hp) (ρ : En) (Q : VK), Rel X.K B G H σ ρ → (fb ρ).sat (fun r => ∀ v H' G', Adv σ G H ρ G' H' r.2 → Rel X.K B G' H' σ r.2 → Tr X.K G' v r.1 → Q v H') ok → tb σ H Q)
    (kc : ∀ (σ : St) (H G : Hp) (ρ : En) (Q : VK), Rel X.K B G H σ ρ → (fc ρ).sat (fun r => ∀ v H' G', Adv σ G H ρ G' H' r.2 → Rel X.K B G' H' σ r.2 → Tr X.K G' v r.1 → Q v H') ok → tc σ H Q)
    (hr : RD B.T X.K r g) (hr' : RD B.T X.K r' g') {σ : St} {H G : Hp} {ρ : En} {Q : VK} (h : Rel X.K B G H σ ρ) (q : (fChain g g' fa fb fc ρ).sat (fun r => ∀ v H' G', Adv σ G H ρ G' H' r.2 → Rel X.K B G' H' σ r.2 → Tr X.K G' v r.1 → Q v H') ok) :
    tChain r r' ta tb tc σ H Q := by
  refine ka σ H G ρ _ h ((R.sat_bind q).imp fun x qx v1 H1 G1 s1 r1 t1 => ?_)
  refine kb σ H1 G1 x.2 _ r1 ((R.sat_bind qx).imp fun y qy v2 H2 G2 s2 r2 t2 => ?_)
  obtain ⟨d, e, qd⟩ := ofO_sat (R.sat_bind qy)
  obtain ⟨kk, ek, qk⟩ := ofO_sat (R.sat_bind qd)
  refine hr G2 H2 v1 v2 x.1 y.1 d _ r2.sub (t1.mono s2.sub) t2 e fun v H' G' g t => ⟨kk, asB_tr t ek, ?_⟩
  have r3 := r2.step g
  have a3 := (s1.trans s2).trans (Adv.grow (σ := σ) (ρ := y.2) g)
  by_cases hk : kk = true
  · rw [if_pos hk] at qk ⊢
    refine kc σ H' G' y.2 _ r3 ((R.sat_bind qk).imp fun z qz v3 H3 G3 s3 r4 t3 => ?_)
    obtain ⟨d', e', qd'⟩ := ofO_sat (R.sat_bind qz)
    exact hr' G3 H3 v2 v3 y.1 z.1 d' Q r4.sub ((t2.mono g.gm).mono s3.sub) t3 e' fun v H4 G4 g4 t4 => qd' v H4 G4 ((a3.trans s3).trans (Adv.grow g4)) (r4.step g4) t4
  · rw [if_neg hk] at qk ⊢
    exact qk (.bl false) H' G' a3 r3 (.bl false)
theorem ee_chain {op op' : CmpOp} {g g' : PyData → PyData → Option PyData} (ho : OpD X B.T (compareOp op) g) (ho' : OpD X B.T (compareOp op') g') (ha : EE X B ok a fa) (hb : EE X B ok b fb) (hc : EE X B ok c fc)
    (hm : lastMarks [op, op'] [b, c] = false := by with_unfolding_all rfl) : EE X B ok (.Compare a [op, op'] [b, c] pos) (fChain g g' fa fb fc) := by
  obtain ⟨r, h1, h2⟩ := ho
  obtain ⟨r', h3, h4⟩ := ho'
  obtain ⟨ta, pa, ka⟩ := ha.ex
  obtain ⟨tb, pb, kb⟩ := hb.ex
  obtain ⟨tc, pc, kc⟩ := hc.ex
  exact ⟨_, pe_chain h1 h3 pa pb pc hm, fun σ H G ρ Q h q => chain_ok ka kb kc h2 h4 h q⟩
theorem et_chain {op op' : CmpOp} {g g' : PyData → PyData → Option PyData} (ho : OpD X B.T (compareOp op) g) (ho' : OpD X B.T (compareOp op') g') (ha : EE X B ok a fa) (hb : EE X B ok b fb) (hc : EE X B ok c fc)
    (hm : lastMarks [op, op'] [b, c] = false := by with_unfolding_all rfl) : ET X B ok (.Compare a [op, op'] [b, c] pos) (fB (fChain g g' fa fb fc)) := by
  obtain ⟨r, h1, h2⟩ := ho
  obtain ⟨r', h3, h4⟩ := ho'
  obtain ⟨ta, pa, ka⟩ := ha.ex
  obtain ⟨tb, pb, kb⟩ := hb.ex
  obtain ⟨tc, pc, kc⟩ := hc.ex
  refine ⟨_, pt_chain h1 h3 pa pb pc hm, fun σ H G ρ Q h q => chain_ok ka kb kc h2 h4 h ((fB_sat q).imp fun x ⟨k, e, qk⟩ v H' G' s' r' t' => ?_)⟩
  exact ⟨k, asB_tr t' e, qk H' G' s' r'⟩
/-! ### slices -/
abbrev OF := En → R (Option Int × En)
structure EO (X : Cx) (B : Ent) (ok : OkX) (e : Option Expr) (f : OF) : Prop where
  ex : ∃ t : TO, PO X e t ∧ ∀ (σ : St) (H G : Hp) (ρ : En) (Q : Option Int → Hp → Prop), Rel X.K B G H σ ρ →
    (f ρ).sat (fun r => ∀ H' G', Adv σ G H ρ G' H' r.2 → Rel X.K B G' H' σ r.2 → Q r.1 H') ok → t σ H Q
def oNo : OF := fun ρ => .ok (none, ρ)
def asI : PyData → Option Int
  | .int i => some i
  | _ => none
def oEx (f : EF) : OF := fun ρ => (f ρ).bind fun x => (ofO (asI x.1)).bind fun i => .ok (some i, x.2)
theorem eo_no : EO X B ok none oNo := ⟨_, po_none, fun σ H G ρ Q r q => q H G Adv.refl r⟩
theorem eo_ex (h : EE X B ok e f) : EO X B ok (some e) (oEx f) := by
  obtain ⟨t, pe, ke⟩ := h.ex
  refine ⟨_, po_some pe, fun σ H G ρ Q r q => ke σ H G ρ _ r ((R.sat_bind q).imp fun x qx v H1 G1 s1 r1 t1 => ?_)⟩
  obtain ⟨i, ei, qi⟩ := ofO_sat (R.sat_bind qx)
  have ex : x.1 = .int i := by
    unfold asI at ei
    split at ei
    · cases ei; assumption
    · cases ei
  rw [ex] at t1
  cases t1
  exact ⟨i, rfl, qi H1 G1 s1 r1⟩
def cutD (xs : List PyData) (lo hi : Option Int) : List PyData := (xs.drop (HT.sIx xs.length 0 lo)).take (HT.sIx xs.length xs.length hi - HT.sIx xs.length 0 lo)
def slD (d : PyData) (lo hi : Option Int) : Option PyData := match d with
  | .list ds => some (.list (cutD ds lo hi))
  | .tuple ds => some (.tuple (cutD ds lo hi))
  | .str z => if z.length ≤ 1000000 then some (.str (cutS z lo hi)) else none
  | _ => none
theorem cut_tr {K : PySem.W.Frag} {G : Hp} {vs : List V} {ds : List PyData} (t : TrAll K G vs ds) (lo hi : Option Int) : TrAll K G (cutV vs lo hi) (cutD ds lo hi) := by
  unfold cutV cutD
  rw [t.length]
  exact (t.drop _).take _
theorem cut_all {α : Type} {xs : List α} {lo hi : Option Int} (h : HT.sIx xs.length 0 lo = 0 ∧ HT.sIx xs.length xs.length hi = xs.length) : (xs.drop (HT.sIx xs.length 0 lo)).take (HT.sIx xs.length xs.length hi - HT.sIx xs.length 0 lo) = xs := by
  rw [h.1, h.2]
  simp
def fSl (f : EF) (lo hi : OF) : EF := fun ρ => (f ρ).bind fun x => (lo x.2).bind fun l => (hi l.2).bind fun u => (ofO (slD x.1 l.1 u.1)).bind fun d => .ok (d, u.2)
theorem ee_sl {lo hi : Option Expr} {fl fh : OF} (h : EE X B ok e f) (hl : EO X B ok lo fl) (hh : EO X B ok hi fh) : EE X B ok (.Subscript e (.Slice lo hi none p2) pos) (fSl f fl fh) := by
  obtain ⟨t, pe, ke⟩ := h.ex
  obtain ⟨tl, pl, kl⟩ := hl.ex
  obtain ⟨th, ph, kh⟩ := hh.ex
  refine ⟨_, pe_slice ((sl_list.or sl_tupA).or sl_str) pe pl ph, fun σ H G ρ Q r q => ke σ H G ρ _ r ((R.sat_bind q).imp fun x qx v H1 G1 s1 r1 t1 => ?_)⟩
  refine kl σ H1 G1 x.2 _ r1 ((R.sat_bind qx).imp fun l ql H2 G2 s2 r2 => ?_)
  refine kh σ H2 G2 l.2 _ r2 ((R.sat_bind ql).imp fun u qu H3 G3 s3 r3 => ?_)
  obtain ⟨d, ed, qd⟩ := ofO_sat (R.sat_bind qu)
  have t3 := t1.mono (s2.sub.trans s3.sub)
  have a3 := (s1.trans s2).trans s3
  unfold slD at ed
  split at ed
  · rename_i ds hx
    cases ed
    rw [hx] at t3
    cases t3 with
    | lst hr ta =>
      rename_i a xs
      refine .inl (.inl ⟨a, xs, rfl, .inl (r3.subG.rd hr), fun pp hp => ?_⟩)
      have g : Grow B.T [] G3 H3 (upd G3 pp (.lst (cutV xs l.1 u.1))) (upd H3 pp (.lst (cutV xs l.1 u.1))) := Grow.new r3.sub hp (fun _ z => nomatch z)
      exact qd _ _ _ (a3.trans (Adv.grow g)) (r3.step g) (.lst (.inl upd_same) ((cut_tr ta _ _).mono g.gm))
  · rename_i ds hx
    cases ed
    rw [hx] at t3
    cases t3 with
    | tup hr ta =>
      rename_i a xs
      refine .inl (.inr ⟨a, xs, rfl, sqt (r3.subG.rd hr), fun hw => ?_, fun hw pp hp => ?_⟩)
      · refine qd _ _ _ a3 r3 (.tup hr ?_)
        have hw' := hw
        rw [ta.length] at hw'
        unfold cutD
        rw [cut_all hw']
        exact ta
      · have g : Grow B.T [] G3 H3 (upd G3 pp (.tup (cutV xs l.1 u.1))) (upd H3 pp (.tup (cutV xs l.1 u.1))) := Grow.new r3.sub hp (fun _ z => nomatch z)
        exact qd _ _ _ (a3.trans (Adv.grow g)) (r3.step g) (.tup (.inl upd_same) ((cut_tr ta _ _).mono g.gm))
  · rename_i z hx
    split at ed
    · rename_i hz
      cases ed
      rw [hx] at t3
      cases t3
      exact .inr ⟨z, rfl, lim_sz hz, qd _ _ _ a3 r3 (.str _)⟩
    · cases ed
  · cases ed
/-! ### one's own objects are changed -/
def Pl : HO → Prop
  | .lst _ => True
  | .dK _ => True
  | .dT _ => True
  | _ => False
theorem Own.pl {K : PySem.W.Frag} {G H : Hp} {a : Addr} {d : PyData} (w : Own K G H a d) : ∃ o, H a = some o ∧ Pl o := by
  cases w with
  | lst h _ => exact ⟨_, h, trivial⟩
  | dK h _ => exact ⟨_, h, trivial⟩
theorem Grow.wr {io : List Addr} {G H : Hp} {a : Addr} {o o' : HO} (h : ∀ b o, G b = some o → H b = some o ∧ ∀ ps, o ≠ .tbl ps) (n : G a = none) (e : H a = some o) (ht : Pl o) (hi : a ∈ io) : Grow T io G H G (upd H a o') := by
  refine ⟨fun b u q => ?_, Sub.refl G, fun b u q hb _ => ?_, fun b q => ?_, fun b q _ => q, fun t => fun pr hp => ?_⟩
  · have hb : b ≠ a := fun z => by rw [z, n] at q; cases q
    rw [upd_ne hb]; exact h b u q
  · have hb : b ≠ a := fun z => hb (z ▸ hi)
    rw [upd_ne hb]; exact q
  · by_cases hb : b = a
    · subst hb; rw [upd_same]; simp
    · rw [upd_ne hb]; exact q
  · obtain ⟨ps, h1, h2, h3⟩ := t pr hp
    have hb : pr.1 ≠ a := fun z => by rw [z, e] at h1; cases h1; exact ht
    refine ⟨ps, by rw [upd_ne hb]; exact h1, h2, fun ps' cv hcv => ?_⟩
    obtain ⟨c, e1, e2⟩ := h3 ps' cv hcv
    have hc : c ≠ a := fun z => by rw [z, e] at e2; cases e2; exact ht
    exact ⟨c, e1, by rw [upd_ne hc]; exact e2⟩
/-- a method that may change the object -/
def MtD (X : Cx) (T : YT) (id : String) (F : PyData → List PyData → Option (PyData × PyData)) : Prop := ∃ r, MtR X id r ∧ ∀ (G H : Hp) (a : Addr) (d0 d' res : PyData) (vs : List V) (ds : List PyData) (Q : VK),
  (∀ b o, G b = some o → H b = some o ∧ ∀ ps, o ≠ .tbl ps) → G a = none → Own X.K G H a d0 → TrAll X.K G vs ds → F d0 ds = some (res, d') →
  (∀ v H' G', Grow T [a] G H G' H' → G' a = none → Own X.K G' H' a d' → Tr X.K G' v res → Q v H') → r (.ref a) vs H Q
def gApp : PyData → List PyData → Option (PyData × PyData)
  | .list ds, [d] => if ds.length < 1000000 then some (.none, .list (ds ++ [d])) else none
  | _, _ => none
theorem lim_lt {n : Nat} (h : n < 1000000) : n < sizeLine := Nat.lt_of_lt_of_le h (by rw [sizeLine_eq]; decide)
theorem md_append : MtD X T "list.append" gApp := by
  refine ⟨_, mt_append, fun G H a d0 d' res vs ds Q s n w t e q => ?_⟩
  unfold gApp at e
  split at e
  · rename_i xs d
    split at e
    · rename_i hl
      cases e
      cases t with | cons t0 t1 =>
      cases t1
      cases w with | lst hH ta =>
      rename_i vs0 _
      refine ⟨a, _, _, rfl, rfl, hH, by rw [ta.length]; exact lim_lt hl, ?_⟩
      exact q .non _ G (Grow.wr s n hH trivial (by simp)) n (.lst upd_same (ta.append (.cons t0 .nil))) .non
    · cases e
  · cases e
def gPop : PyData → List PyData → Option (PyData × PyData)
  | .list ds, [] => match ds.getLast? with
    | some d => some (d, .list ds.dropLast)
    | none => none
  | _, _ => none
theorem TrAll.dropLast {K : PySem.W.Frag} {G : Hp} {vs : List V} {ds : List PyData} (t : TrAll K G vs ds) : TrAll K G vs.dropLast ds.dropLast := by
  rw [List.dropLast_eq_take, List.dropLast_eq_take, t.length]
  exact t.take _
theorem md_pop : MtD X T "list.pop" gPop := by
  refine ⟨_, mt_pop, fun G H a d0 d' res vs ds Q s n w t e q => ?_⟩
  unfold gPop at e
  split at e
  · rename_i xs
    split at e
    · rename_i d hd
      cases e
      cases t
      cases w with | lst hH ta =>
      rename_i vs0
      have hd2 : xs[vs0.length - 1]? = some res := by rw [ta.length, ← List.getLast?_eq_getElem?]; exact hd
      obtain ⟨v, hv, tv⟩ := ta.get hd2
      refine ⟨a, _, v, rfl, rfl, hH, hv, ?_⟩
      exact q v _ G (Grow.wr s n hH trivial (by simp)) n (.lst upd_same ta.dropLast) tv
    · cases e
  · cases e
def gPopAt : PyData → List PyData → Option (PyData × PyData)
  | .list ds, [.int i] => if -1000000 ≤ i ∧ i ≤ 1000000 then match seqIndex? i ds.length with
    | some k => match ds[k]? with
      | some d => some (d, .list (ds.eraseIdx k))
      | none => none
    | none => none else none
  | _, _ => none
theorem TrAll.eraseIdx {K : PySem.W.Frag} {G : Hp} : ∀ {vs : List V} {ds : List PyData} (k : Nat), TrAll K G vs ds → TrAll K G (vs.eraseIdx k) (ds.eraseIdx k)
  | _, _, _, .nil => .nil
  | _, _, 0, .cons _ t => t
  | _, _, k + 1, .cons h t => .cons h (TrAll.eraseIdx k t)
theorem md_popAt : MtD X T "list.pop" gPopAt := by
  refine ⟨_, mt_popAt, fun G H a d0 d' res vs ds Q s n w t e q => ?_⟩
  unfold gPopAt at e
  split at e
  · rename_i xs i
    split at e
    · rename_i hl
      split at e
      · rename_i k hk
        split at e
        · rename_i d hd
          cases e
          cases t with | cons t0 t1 =>
          cases t1
          cases t0
          cases w with | lst hH ta =>
          rename_i vs0
          obtain ⟨v, hv, tv⟩ := ta.get hd
          refine ⟨a, _, i, k, v, rfl, rfl, hH, by omega, by omega, by rw [ta.length]; exact hk, hv, ?_⟩
          exact q v _ G (Grow.wr s n hH trivial (by simp)) n (.lst upd_same (ta.eraseIdx k)) tv
        · cases e
      · cases e
    · cases e
  · cases e
/-- x.m(..), x a slot of one's own -/
def isLst : PyData → Bool
  | .list _ => true
  | _ => false
def fMth (F : PyData → List PyData → Option (PyData × PyData)) (i : Nat) (fs : AF) : EF := fun ρ => (ioAt ρ i).bind fun z => if isLst z = true then (fs ρ).bind fun x => (ioAt x.2 i).bind fun d0 => (ofO (F d0 x.1)).bind fun r => .ok (r.1, ioSet x.2 i r.2) else .no
theorem isLst_own {K : PySem.W.Frag} {G H : Hp} {a : Addr} {d : PyData} (w : Own K G H a d) (h : isLst d = true) : tyV K "list" (.ref a) H := by
  cases w with
  | lst hH _ => exact .inl ⟨rfl, _, .inl (.inl hH)⟩
  | dK _ _ => cases h
theorem mth_fin {F : PyData → List PyData → Option (PyData × PyData)} {id : String} {i : Nat} {r : V → List V → Hp → VK → Prop} {σ : St} {H G H1 G1 : Hp} {ρ : En} {Q : VK} {y : List PyData × En} {vs : List V} {a0 : Addr}
    (km : ∀ (G H : Hp) (a : Addr) (d0 d' res : PyData) (vs : List V) (ds : List PyData) (Q : VK), (∀ b o, G b = some o → H b = some o ∧ ∀ ps, o ≠ .tbl ps) → G a = none → Own X.K G H a d0 → TrAll X.K G vs ds → F d0 ds = some (res, d') →
      (∀ v H' G', Grow B.T [a] G H G' H' → G' a = none → Own X.K G' H' a d' → Tr X.K G' v res → Q v H') → r (.ref a) vs H Q)
    (ea0 : σ[i]? = some (some (.ref a0))) (s1 : Adv σ G H ρ G1 H1 y.2) (r1 : Rel X.K B G1 H1 σ y.2) (t1 : TrAll X.K G1 vs y.1)
    (q : ((ioAt y.2 i).bind fun d0 => (ofO (F d0 y.1)).bind fun r => R.ok (r.1, ioSet y.2 i r.2)).sat (fun r => ∀ v H' G', Adv σ G H ρ G' H' r.2 → Rel X.K B G' H' σ r.2 → Tr X.K G' v r.1 → Q v H') ok) : r (.ref a0) vs H1 Q := by
  obtain ⟨d0, e0, q0⟩ := ioAt_sat (R.sat_bind q)
  obtain ⟨rr, er, qr⟩ := ofO_sat (R.sat_bind q0)
  obtain ⟨a, s, hs, had, ea, n0, w0⟩ := r1.at_io e0
  rw [ea0] at ea; cases ea
  refine km G1 H1 a0 d0 rr.2 rr.1 vs y.1 Q r1.sub n0 w0 t1 er fun v H' G' g n' w' t' => ?_
  obtain ⟨r2, s2⟩ := r1.stepIo hs had g n' w'
  exact qr v H' G' (s1.trans s2) r2 t'
theorem ee_mth {id : String} {m : Str} {apos : Pos} {F : PyData → List PyData → Option (PyData × PyData)} (i : Nat) (M : MtD X B.T id F) (pa : PlainAttrs "list") (slot : Slot "list" m id) (hty : typeOf (.builtin id) = pure (.type "method_descriptor"))
    (ha : EA X B ok (e :: es) fs)
    (hN : X.N[i]? = some y := by rfl) (hv : Vis X.env.scope y := by first | exact Or.inl rfl | exact Or.inr (Or.inl rfl) | exact Or.inr (Or.inr rfl))
    (hd1 : (y == ("__debug__" : Str)) = false := by decide) (hd2 : (y == ("__classdict__" : Str)) = false := by decide)
    (hbase : attributeBase (.Name y p1) m X.env (eval (.Name y p1) X.env) = eval (.Name y p1) X.env := by rfl)
    (hfew : ((backTo pos (starEach (e :: es) X.env)).all (fun x => !x.1) && (backToKw pos (keywordEach [] X.env)).all (fun x => x.1.isSome)
      && decide ((e :: es).length + ([] : List Keyword).length + (if ([] : List Keyword).isEmpty then 0 else 1) < 30)) = true := by rfl)
    (hline : (apos.endLine == pos.line) = true := by rfl) (hs : starEach (e :: es) X.env = (false, eval e X.env) :: starEach es X.env := by rfl) (hplain : (backTo pos (starEach es X.env)).any (·.1) = false := by rfl) :
    EE X B ok (.Call (.Attribute (.Name y p1) m apos) (e :: es) [] pos) (fMth F i fs) := by
  obtain ⟨r, hm, km⟩ := M
  obtain ⟨t, pa', ka⟩ := ha.ex
  refine ⟨_, pe_bm pa slot hty hm (pe_var hN hv hd1 hd2) pa' hbase hfew hline hs hplain, fun σ H G ρ Q rr q => ?_⟩
  obtain ⟨z, ez, q⟩ := ioAt_sat (R.sat_bind q)
  obtain ⟨hl, q⟩ := ite_sat q
  obtain ⟨a0, _, _, _, ea0, _, w0⟩ := rr.at_io ez
  refine ⟨_, ea0, isLst_own w0 hl, ka σ H G ρ _ rr ((R.sat_bind q).imp fun y qy vs H1 G1 s1 r1 t1 => ?_)⟩
  exact mth_fin (id := id) km ea0 s1 r1 t1 qy
theorem ee_mth0 {id : String} {m : Str} {apos : Pos} {F : PyData → List PyData → Option (PyData × PyData)} (i : Nat) (M : MtD X B.T id F) (pa : PlainAttrs "list") (slot : Slot "list" m id) (hty : typeOf (.builtin id) = pure (.type "method_descriptor"))
    (hN : X.N[i]? = some y := by rfl) (hv : Vis X.env.scope y := by first | exact Or.inl rfl | exact Or.inr (Or.inl rfl) | exact Or.inr (Or.inr rfl))
    (hd1 : (y == ("__debug__" : Str)) = false := by decide) (hd2 : (y == ("__classdict__" : Str)) = false := by decide)
    (hbase : attributeBase (.Name y p1) m X.env (eval (.Name y p1) X.env) = eval (.Name y p1) X.env := by rfl)
    (hline : (apos.endLine == pos.line) = true := by rfl) :
    EE X B ok (.Call (.Attribute (.Name y p1) m apos) [] [] pos) (fMth F i fNil) := by
  obtain ⟨r, hm, km⟩ := M
  refine ⟨_, pe_bm0 pa slot hty hm (pe_var hN hv hd1 hd2) hbase hline, fun σ H G ρ Q rr q => ?_⟩
  obtain ⟨z, ez, q⟩ := ioAt_sat (R.sat_bind q)
  obtain ⟨hl, q⟩ := ite_sat q
  obtain ⟨a0, _, _, _, ea0, _, w0⟩ := rr.at_io ez
  exact ⟨_, ea0, isLst_own w0 hl, mth_fin (id := id) (ok := ok) (y := ([], ρ)) km ea0 Adv.refl rr .nil (R.sat_bind (r := fNil ρ) q)⟩
end
end Y


/-! YDict: entries of dicts and lists, of one's own or shared; names that are handed on; dict displays. -/
namespace Y
open PySem PySem.Spec PyProof.Rows L2
/-! ### keys -/
def keyOf : PyData → Option Key
  | .int i => some (.inl i)
  | .str s => some (.inr s)
  | _ => none
def keysOf : List PyData → Option (List Key)
  | [] => some []
  | d :: ds => match keyOf d, keysOf ds with
    | some k, some ks => some (k :: ks)
    | _, _ => none
def kc : PyData → Option (Key ⊕ List Key)
  | .int i => some (.inl (.inl i))
  | .str s => some (.inl (.inr s))
  | _ => none
def lkD (es : List (PyData × PyData)) (c : Key ⊕ List Key) : Option PyData := (es.find? fun p => decide (kc p.1 = some c)).map (·.2)
def putD (es : List (PyData × PyData)) (dk : PyData) (c : Key ⊕ List Key) (d : PyData) : List (PyData × PyData) :=
  if (es.any fun p => decide (kc p.1 = some c)) = true then es.map (fun p => if kc p.1 = some c then (p.1, d) else p) else es ++ [(dk, d)]
theorem kc_kD (k : Key) : kc (kD k) = some (.inl k) := by cases k <;> rfl
theorem keyOf_kD (k : Key) : keyOf (kD k) = some k := by cases k <;> rfl
theorem keysOf_kD : ∀ ks : List Key, keysOf (ks.map kD) = some ks
  | [] => rfl
  | k :: ks => by rw [List.map_cons]; unfold keysOf; rw [keyOf_kD, keysOf_kD ks]
theorem keyOf_inv {d : PyData} {k : Key} (h : keyOf d = some k) : d = kD k := by
  unfold keyOf at h
  split at h <;> cases h <;> rfl
theorem keysOf_inv : ∀ {ds : List PyData} {ks : List Key}, keysOf ds = some ks → ds = ks.map kD
  | [], ks, h => by cases h; rfl
  | d :: ds, ks, h => by
    unfold keysOf at h
    split at h
    · rename_i k ks' h1 h2
      cases h
      rw [List.map_cons, ← keyOf_inv h1, ← keysOf_inv h2]
    · cases h
theorem kc_inv {d : PyData} {c : Key ⊕ List Key} (h : kc d = some c) : ∃ k, c = .inl k ∧ d = kD k := by
  unfold kc at h
  split at h
  · cases h; exact ⟨_, rfl, rfl⟩
  · cases h; exact ⟨_, rfl, rfl⟩
  · cases h
theorem kV_tr {K : PySem.W.Frag} {G : Hp} {v : V} {k : Key} (t : Tr K G v (kD k)) : v = kV k := by
  cases k with
  | inl i => cases t; rfl
  | inr s => cases t; rfl
section
variable {K : PySem.W.Frag} {G : Hp}
theorem kv_look : ∀ {kvs : List (Key × V)} {es : List (PyData × PyData)} (k : Key), TrKV K G kvs es → (∃ v d, valV kvs k = some v ∧ lkD es (.inl k) = some d ∧ Tr K G v d) ∨ (valV kvs k = none ∧ lkD es (.inl k) = none)
  | _, _, k, .nil => .inr ⟨rfl, rfl⟩
  | _, _, k, .cons (k := k') (v := v) (d := d) h t => by
    by_cases e : k' = k
    · subst e
      refine .inl ⟨v, d, by simp [valV, List.find?_cons], ?_, h⟩
      unfold lkD
      rw [List.find?_cons, kc_kD]
      simp
    · have e1 : decide (k' = k) = false := by simp [e]
      have e2 : decide (kc (kD k') = some (.inl k)) = false := by rw [kc_kD]; simp [e]
      have a1 : ∀ r : List (Key × V), valV ((k', v) :: r) k = valV r k := fun r => valV_neg e
      have a2 : ∀ es, lkD ((kD k', d) :: es) (.inl k) = lkD es (.inl k) := fun es => by unfold lkD; rw [List.find?_cons]; simp only [e2]
      rw [a1, a2]
      exact kv_look k t
theorem kv_any : ∀ {kvs : List (Key × V)} {es : List (PyData × PyData)} (k : Key), TrKV K G kvs es → (kvs.any fun kv => decide (kv.1 = k)) = es.any fun p => decide (kc p.1 = some (.inl k))
  | _, _, k, .nil => rfl
  | _, _, k, .cons (k := k') h t => by
    rw [List.any_cons, List.any_cons, kv_any k t]
    simp only [kc_kD, Option.some.injEq, Sum.inl.injEq]
theorem kv_repl {v : V} {d : PyData} (tv : Tr K G v d) : ∀ {kvs : List (Key × V)} {es : List (PyData × PyData)} (k : Key), TrKV K G kvs es → TrKV K G (kvs.map fun kv => if kv.1 = k then (kv.1, v) else kv) (es.map fun p => if kc p.1 = some (.inl k) then (p.1, d) else p)
  | _, _, k, .nil => .nil
  | _, _, k, .cons (k := k') h t => by
    rw [List.map_cons, List.map_cons]
    by_cases e : k' = k
    · have e2 : kc (kD k') = some (.inl k) := by rw [kc_kD, e]
      simp only [if_pos e, if_pos e2]
      exact .cons tv (kv_repl tv k t)
    · have e2 : ¬ kc (kD k') = some (.inl k) := by rw [kc_kD]; simp [e]
      simp only [if_neg e, if_neg e2]
      exact .cons h (kv_repl tv k t)
theorem kv_snoc {v : V} {d : PyData} (k : Key) (tv : Tr K G v d) : ∀ {kvs : List (Key × V)} {es : List (PyData × PyData)}, TrKV K G kvs es → TrKV K G (kvs ++ [(k, v)]) (es ++ [(kD k, d)])
  | _, _, .nil => .cons tv .nil
  | _, _, .cons h t => .cons h (kv_snoc k tv t)
theorem kv_put {kvs : List (Key × V)} {es : List (PyData × PyData)} {v : V} {d : PyData} (k : Key) (t : TrKV K G kvs es) (tv : Tr K G v d) : TrKV K G (putK kvs k v) (putD es (kD k) (.inl k) d) := by
  unfold putK putD
  rw [kv_any k t]
  split
  · exact kv_repl tv k t
  · exact kv_snoc k tv t
theorem TrKV.length {kvs : List (Key × V)} {es : List (PyData × PyData)} : TrKV K G kvs es → kvs.length = es.length
  | .nil => rfl
  | .cons _ t => by rw [List.length_cons, List.length_cons, TrKV.length t]
end
/-! ### a name's value, whoever owns it -/
/-- what an object shows -/
inductive Shw (K : PySem.W.Frag) (G H : Hp) (a : Addr) : PyData → Prop
  | lst {vs : List V} {ds : List PyData} : SqL K H a vs → TrAll K G vs ds → Shw K G H a (.list ds)
  | tup {vs : List V} {ds : List PyData} : SqT K H a vs → TrAll K G vs ds → Shw K G H a (.tuple ds)
  | dK {kvs : List (Key × V)} {es : List (PyData × PyData)} : Rd H a (.dK kvs) → TrKV K G kvs es → Shw K G H a (.dict es)
  | exc {c : Str} {d : PyData} : Shw K G H a (.dict [(.none, .str c), (.none, d)])
theorem Own.shw {K : PySem.W.Frag} {G H : Hp} {a : Addr} {d : PyData} (w : Own K G H a d) : Shw K G H a d := by
  cases w with
  | lst h t => exact .lst (.inl (.inl h)) t
  | dK h t => exact .dK (.inl h) t
theorem Tr.shw {K : PySem.W.Frag} {G H : Hp} {v : V} {d : PyData} (s : Sub G H) (t : Tr K G v d) : (∃ a, v = .ref a ∧ Shw K G H a d) ∨ ((∀ ds, d ≠ .list ds) ∧ (∀ ds, d ≠ .tuple ds) ∧ ∀ es, d ≠ .dict es) := by
  cases t with
  | lst h t => exact .inl ⟨_, rfl, .lst (.inl (s.rd h)) t⟩
  | tup h t => exact .inl ⟨_, rfl, .tup (sqt (s.rd h)) t⟩
  | dK h t => exact .inl ⟨_, rfl, .dK (s.rd h) t⟩
  | exc h n x t => exact .inl ⟨_, rfl, .exc⟩
  | non => exact .inr ⟨nofun, nofun, nofun⟩
  | bl b => exact .inr ⟨nofun, nofun, nofun⟩
  | int b => exact .inr ⟨nofun, nofun, nofun⟩
  | str b => exact .inr ⟨nofun, nofun, nofun⟩
/-- the data in a slot -/
def anyAt (ρ : En) (i : Nat) : R PyData := match ρ[i]? with
  | some (.sh d) => .ok d
  | some (.ow d) => .ok d
  | some (.io d) => .ok d
  | _ => .no
theorem anyAt_sat {ρ : En} {i : Nat} {P : PyData → Prop} {E : OkX} (h : (anyAt ρ i).sat P E) : ∃ d, anyAt ρ i = .ok d ∧ P d := by
  cases e : anyAt ρ i with
  | ok d => rw [e] at h; exact ⟨d, rfl, h⟩
  | er c d =>
    unfold anyAt at e
    split at e <;> cases e
  | no => rw [e] at h; exact h.elim
theorem Rel.any {K : PySem.W.Frag} {B : Ent} {G H : Hp} {σ : St} {ρ : En} {i : Nat} {d : PyData} (r : Rel K B G H σ ρ) (h : anyAt ρ i = .ok d) : ∃ v, σ[i]? = some (some v) ∧ ((∃ a, v = .ref a ∧ Shw K G H a d) ∨ ((∀ ds, d ≠ .list ds) ∧ (∀ ds, d ≠ .tuple ds) ∧ (∀ es, d ≠ .dict es) ∧ Tr K G v d)) := by
  unfold anyAt at h
  split at h
  · rename_i d' e
    cases h
    obtain ⟨v, e1, t⟩ := r.at_ i _ e
    rcases t.shw r.subG with q | q
    · exact ⟨v, e1, .inl q⟩
    · exact ⟨v, e1, .inr ⟨q.1, q.2.1, q.2.2, t⟩⟩
  · rename_i d' e
    cases h
    obtain ⟨a, e1, n, z, w⟩ := r.at_ i _ e
    exact ⟨_, e1, .inl ⟨a, rfl, w.shw⟩⟩
  · rename_i d' e
    cases h
    obtain ⟨a, e1, n, z, w⟩ := r.at_ i _ e
    exact ⟨_, e1, .inl ⟨a, rfl, w.shw⟩⟩
  · cases h
section
variable {X : Cx} {B : Ent} {ok : OkX} {cls : Clss} {a b c e : Expr} {es : List Expr} {fa fb fc f : EF} {fs : AF} {ft : TF} {pos p p1 p2 : Pos} {k j n i : Nat} {x y : Str} {T : YT}
/-- a name that is handed on: what was one's own is frozen -/
def fNm (i : Nat) : EF := fun ρ => match ρ[i]? with
  | some (.sh d) => .ok (d, ρ)
  | some (.ow d) => .ok (d, ρ.set i (.sh d))
  | _ => .no
theorem Adv.free {σ : St} {G H G' : Hp} {ρ ρ' : En} (s : Sub G G') (h : ∀ p, H p ≠ none → G p = none → Free σ ρ p → G' p = none ∧ Free σ ρ' p) : Adv σ G H ρ G' H ρ' :=
  ⟨s, fun _ h => h, fun p o e n _ f => ⟨e, h p (by rw [e]; simp) n f⟩⟩
theorem Rel.fzA {K : PySem.W.Frag} {G H : Hp} {σ : St} {ρ : En} {d : PyData} (r : Rel K B G H σ ρ) (e : ρ[i]? = some (.ow d)) : ∃ G' v, Adv σ G H ρ G' H (ρ.set i (.sh d)) ∧ Rel K B G' H σ (ρ.set i (.sh d)) ∧ σ[i]? = some (some v) ∧ Tr K G' v d := by
  obtain ⟨a, e1, n, z, w⟩ := r.at_ i _ e
  have r1 : Rel K B G H σ (ρ.set i .un) := r.forget
  have hi : i < ρ.length := (List.getElem?_eq_some_iff.mp e).1
  have x : Fresh K B G H σ (ρ.set i .un) a d := ⟨n, z, w, fun j s hj ej => by
    by_cases hji : i = j
    · subst hji
      rw [List.getElem?_set_self hi] at hj
      cases hj
      exact ej
    · rw [List.getElem?_set_ne hji] at hj
      exact r.sep i j _ s a hji e hj e1 ej⟩
  obtain ⟨G', s', eq, r', t'⟩ := r1.frz x
  have r2 := r'.setSh (i := i) t'
  rw [List.set_set] at r2
  have es : σ.set i (some (.ref a)) = σ := by
    apply List.ext_getElem?
    intro j
    by_cases hji : i = j
    · subst hji
      rw [List.getElem?_set_self (by rw [r.len]; exact hi), e1]
    · rw [List.getElem?_set_ne hji]
  rw [es] at r2
  refine ⟨G', _, Adv.free s' (fun p hp np fr => ?_), r2, e1, t'⟩
  have hpa : p ≠ a := fun z => fr i _ e (by subst z; exact e1)
  refine ⟨by rw [eq p hpa]; exact np, fun j s hj ej => ?_⟩
  by_cases hji : i = j
  · subst hji
    rw [List.getElem?_set_self hi] at hj
    cases hj
    exact ej
  · rw [List.getElem?_set_ne hji] at hj
    exact fr j s hj ej
theorem ee_nm (i : Nat) {x : Str} (hN : X.N[i]? = some x := by rfl) (hv : Vis X.env.scope x := by first | exact Or.inl rfl | exact Or.inr (Or.inl rfl) | exact Or.inr (Or.inr rfl)) (hd : (x == ("__debug__" : Str)) = false := by decide)
    (hcd : (x == ("__classdict__" : Str)) = false := by decide) : EE X B ok (.Name x pos) (fNm i) := by
  refine ⟨_, pe_var hN hv hd hcd, fun σ H G ρ Q r q => ?_⟩
  unfold fNm at q
  split at q
  · rename_i d e
    obtain ⟨v, e1, t⟩ := r.at_ i _ e
    exact ⟨v, e1, q v H G Adv.refl r t⟩
  · rename_i d e
    obtain ⟨G', v, a', r', e1, t'⟩ := r.fzA e
    exact ⟨v, e1, q v H G' a' r' t'⟩
  · exact q.elim
/-- .. and is not used any more -/
def fNmN (i : Nat) : EF := fun ρ => match ρ[i]? with
  | some (.ow d) => .ok (d, ρ.set i .un)
  | _ => .no
/-! ### x[e] -/
def gIxD : PyData → PyData → Option PyData
  | .list ds, .int i => atI ds i
  | .tuple ds, .int i => atI ds i
  | .dict es, d => (kc d).bind fun c => lkD es c
  | _, _ => none
theorem keys_all {K : PySem.W.Frag} {G : Hp} : ∀ {xs : List V} {ks : List Key}, TrAll K G xs (ks.map kD) → xs = ks.map kV
  | _, [], t => by cases t; rfl
  | _, k :: ks, t => by
    rw [List.map_cons] at t ⊢
    cases t with | cons t0 t1 => rw [kV_tr t0, keys_all t1]
/-- a value that is a key -/
theorem key_tr {K : PySem.W.Frag} {G : Hp} {v : V} {dk : PyData} {c : Key ⊕ List Key} (t : Tr K G v dk) (h : kc dk = some c) : ∃ k, c = .inl k ∧ dk = kD k ∧ v = kV k := by
  obtain ⟨k, rfl, rfl⟩ := kc_inv h
  exact ⟨k, rfl, rfl, kV_tr t⟩
theorem dget_rd {H : Hp} {a : Addr} {kvs : List (Key × V)} {k : Key} (e : Rd H a (.dK kvs)) : DGet H a (kV k) (valV kvs k) := .inl ⟨kvs, k, e, rfl, rfl⟩
theorem shw_dget {K : PySem.W.Frag} {G H : Hp} {a : Addr} {es : List (PyData × PyData)} {v : V} {dk d : PyData} {c : Key ⊕ List Key} (s : Sub G H) (w : Shw K G H a (.dict es)) (t : Tr K G v dk) (hc : kc dk = some c) (e : lkD es c = some d) :
    ∃ u, DGet H a v (some u) ∧ Tr K G u d := by
  cases w with
  | dK hH tk =>
    obtain ⟨k, rfl, rfl, rfl⟩ := key_tr t hc
    rcases kv_look k tk with ⟨u, d', e1, e2, t'⟩ | ⟨_, e2⟩
    · rw [e] at e2; cases e2
      exact ⟨u, e1 ▸ dget_rd hH, t'⟩
    · rw [e] at e2; cases e2
  | exc => simp [lkD, kc] at e
end
/-! ### an empty dict is of both kinds -/
section
variable {X : Cx} {pins : List (Addr × Obj)} {σ : St} {H : Hp} {s : Shared} {a : Addr} {y v d : V} {u r : Value} {o : Option V} {A : Around} {E : Value → Shared → Prop}
theorem upd_id {o : HO} (h : H a = some o) : upd H a o = H := by
  funext b
  by_cases e : b = a
  · subst e; rw [upd_same, h]
  · rw [upd_ne e]
theorem upd_upd {H : Hp} {o o' : HO} : upd (upd H a o) a o' = upd H a o' := by
  funext b
  by_cases e : b = a
  · subst e; rw [upd_same, upd_same]
  · rw [upd_ne e, upd_ne e, upd_ne e]
theorem same_refl {h : Heap} : Heap.SameBut a h h := ⟨rfl, fun _ _ => rfl⟩
theorem toT (I : Inv X pins σ H s) (e : H a = some (.dK [])) : Inv X pins σ (upd H a (.dT [])) s := by
  obtain ⟨_, hd, vs, rel, o, es, ep, h1, h2, h3, h4, h5, h6⟩ := dk_of I.hok e
  cases rel
  cases h5' : es.toList with
  | cons x r => rw [h5'] at h5; cases h5
  | nil =>
    exact d_write I (by rw [e]; exact True.intro) same_refl ⟨o, h1⟩ ⟨Nat.zero_le _, hd, [], .nil, o, es, ep, h1, h2, h3, by rw [h5']; rfl, List.nodup_nil⟩
theorem toK (I : Inv X pins σ H s) (e : H a = some (.dT [])) : Inv X pins σ (upd H a (.dK [])) s := by
  obtain ⟨_, hd, vs, rel, o, es, ep, h1, h2, h3, h4, _, h6⟩ := dt_of I.hok e
  cases rel
  have h4 : es.toList = [] := h4
  have h5 : es = #[] := by rw [← Array.toArray_toList (xs := es), h4]
  subst h5
  exact d_write I (by rw [e]; exact True.intro) same_refl ⟨o, h1⟩ ⟨Nat.zero_le _, hd, [], .nil, o, #[], ep, h1, h2, h3, fun e he => by simp at he, .nil, List.nodup_nil⟩
/-- y is a key -/
def IsKey (H : Hp) (y : V) : Prop := (∃ k, y = kV k) ∨ ∃ (k : List Key) (b : Addr), y = .ref b ∧ H b = some (.tup (k.map kV))
def DGetE (H : Hp) (a : Addr) (y : V) (o : Option V) : Prop := DGet H a y o ∨ ((H a = some (.dK []) ∨ H a = some (.dT [])) ∧ IsKey H y ∧ o = none)
theorem getE {P : Inv X pins σ H s → Prop} (I : Inv X pins σ H s) (g : DGetE H a y o)
    (k : ∀ H1, Inv X pins σ H1 s → DGet H1 a y o → (∀ s', Inv X pins σ H1 s' → Inv X pins σ H s') → P I) : P I := by
  rcases g with g | ⟨h, hk, rfl⟩
  · exact k H I g fun _ z => z
  · rcases hk with ⟨q, rfl⟩ | ⟨q, b, rfl, hb⟩
    · rcases h with h | h
      · exact k H I (DGet.k h) fun _ z => z
      · refine k _ (toK I h) (DGet.k upd_same) fun s' z => ?_
        have z' := toT z upd_same
        rw [upd_upd, upd_id h] at z'
        exact z'
    · rcases h with h | h
      · have hne : b ≠ a := fun z => by rw [z, h] at hb; cases hb
        refine k _ (toT I h) (DGet.t upd_same (by rw [upd_ne hne]; exact hb)) fun s' z => ?_
        have z' := toK z upd_same
        rw [upd_upd, upd_id h] at z'
        exact z'
      · exact k H I (DGet.t h hb) fun _ z => z
theorem d_inE {Q : Value → Shared → Prop} (hu : A.units + 1 < cLine) (I : Inv X pins σ H s) (g : DGetE H a y o) (ry : RelV y u) (h : ∀ s', Inv X pins σ H s' → Q (.bool o.isSome) s') :
    wpAny (model X.prog X.w) A (compareOp .In u (.ref a)) Q E s :=
  getE (P := fun _ => wpAny (model X.prog X.w) A (compareOp .In u (.ref a)) Q E s) I g fun _ I1 g1 bk => d_in hu I1 g1 ry fun s' I2 => h s' (bk s' I2)
theorem d_notInE {Q : Value → Shared → Prop} (hu : A.units + 1 < cLine) (I : Inv X pins σ H s) (g : DGetE H a y o) (ry : RelV y u) (h : ∀ s', Inv X pins σ H s' → Q (.bool (!o.isSome)) s') :
    wpAny (model X.prog X.w) A (compareOp .NotIn u (.ref a)) Q E s :=
  getE (P := fun _ => wpAny (model X.prog X.w) A (compareOp .NotIn u (.ref a)) Q E s) I g fun _ I1 g1 bk => d_notIn hu I1 g1 ry fun s' I2 => h s' (bk s' I2)
theorem d_get1E {Q : Value → Shared → Prop} (hu : A.units + 1 < cLine) (I : Inv X pins σ H s) (g : DGetE H a y o) (ry : RelV y u) (h : ∀ w' s', Inv X pins σ H s' → RelV (o.getD .non) w' → Q w' s') :
    wpAny (model X.prog X.w) A (call (.builtin "dict.get") [.ref a, u]) Q E s :=
  getE (P := fun _ => wpAny (model X.prog X.w) A (call (.builtin "dict.get") [.ref a, u]) Q E s) I g fun _ I1 g1 bk => d_get1 hu I1 g1 ry fun w' s' I2 => h w' s' (bk s' I2)
theorem d_get2E {Q : Value → Shared → Prop} (hu : A.units + 1 < cLine) (I : Inv X pins σ H s) (g : DGetE H a y o) (ry : RelV y u) (rd : RelV d r) (h : ∀ w' s', Inv X pins σ H s' → RelV (o.getD d) w' → Q w' s') :
    wpAny (model X.prog X.w) A (call (.builtin "dict.get") [.ref a, u, r]) Q E s :=
  getE (P := fun _ => wpAny (model X.prog X.w) A (call (.builtin "dict.get") [.ref a, u, r]) Q E s) I g fun _ I1 g1 bk => d_get2 hu I1 g1 ry rd fun w' s' I2 => h w' s' (bk s' I2)
def DPutE (H : Hp) (a : Addr) (y v : V) (H' : Hp) : Prop := DPut H a y v H' ∨ (∃ k, H a = some (.dT []) ∧ y = kV k ∧ H' = upd H a (.dK [(k, v)])) ∨
  ∃ k b, H a = some (.dK []) ∧ y = .ref b ∧ H b = some (.tup (k.map kV)) ∧ H' = upd H a (.dT [(k, v)])
theorem d_setItemE {H' : Hp} {Q : Unit → Shared → Prop} (hu : A.units + 1 < cLine) (I : Inv X pins σ H s) (g : DPutE H a y v H') (ry : RelV y u) (rv : RelV v r) (h : ∀ s', Inv X pins σ H' s' → Q () s') :
    wpAny (model X.prog X.w) A (setItem (.ref a) u r) Q E s := by
  rcases g with g | ⟨k, e, rfl, rfl⟩ | ⟨k, b, e, rfl, eb, rfl⟩
  · exact d_setItem hu I g ry rv h
  · refine d_setItem hu (toK I e) (DPut.k upd_same (by rw [sizeLine_eq]; decide)) ry rv fun s' z => h s' ?_
    rw [upd_upd] at z
    exact z
  · have hne : b ≠ a := fun z => by rw [z, e] at eb; cases eb
    refine d_setItem hu (toT I e) (DPut.t upd_same (by rw [upd_ne hne]; exact eb) (by rw [sizeLine_eq]; decide)) ry rv fun s' z => h s' ?_
    rw [upd_upd] at z
    exact z
/-! the rules -/
def rInE : R2 := fun x y H Q => ∃ a o, y = .ref a ∧ DGetE H a x o ∧ Q (.bl o.isSome) H
def rNotInE : R2 := fun x y H Q => ∃ a o, y = .ref a ∧ DGetE H a x o ∧ Q (.bl (!o.isSome)) H
theorem op_inE (hu : X.A.units + 1 < cLine) : OpR X (compareOp .In) rInE := by
  intro pins s σ H x y v u Q I rx ry h
  obtain ⟨a, o, rfl, g, q⟩ := h
  cases ry
  exact d_inE hu I g rx fun s' I' => ⟨.bl o.isSome, H, I', rfl, q⟩
theorem op_notInE (hu : X.A.units + 1 < cLine) : OpR X (compareOp .NotIn) rNotInE := by
  intro pins s σ H x y v u Q I rx ry h
  obtain ⟨a, o, rfl, g, q⟩ := h
  cases ry
  exact d_notInE hu I g rx fun s' I' => ⟨.bl (!o.isSome), H, I', rfl, q⟩
end
section
variable {K : PySem.W.Frag} {G H : Hp}
/-- the kind of a dict's keys fits the key -/
def kindOk (es : List (PyData × PyData)) (c : Key ⊕ List Key) : Bool := es.all fun p => match kc p.1, c with
  | some (.inl _), .inl _ => true
  | some (.inr _), .inr _ => true
  | _, _ => false
theorem shw_din {a : Addr} {es : List (PyData × PyData)} {v : V} {dk : PyData} {c : Key ⊕ List Key} (s : Sub G H) (w : Shw K G H a (.dict es)) (t : Tr K G v dk) (hc : kc dk = some c) (hk : kindOk es c = true) :
    ∃ o, DGetE H a v o ∧ ((∃ u d, o = some u ∧ lkD es c = some d ∧ Tr K G u d) ∨ (o = none ∧ lkD es c = none)) := by
  cases w with
  | dK hH tk =>
    obtain ⟨k, rfl, rfl, rfl⟩ := key_tr t hc
    refine ⟨_, .inl (dget_rd hH), ?_⟩
    rcases kv_look k tk with ⟨u, d', e1, e2, t'⟩ | ⟨e1, e2⟩
    · exact .inl ⟨u, d', e1, e2, t'⟩
    · exact .inr ⟨e1, e2⟩
  | exc => simp [kindOk, kc] at hk
theorem own_dput {a : Addr} {es : List (PyData × PyData)} {v y : V} {dk d : PyData} {c : Key ⊕ List Key} (s : Sub G H) (w : Own K G H a (.dict es)) (ty : Tr K G y dk) (tv : Tr K G v d) (hc : kc dk = some c) (hk : kindOk es c = true) (hl : es.length < 1000000) :
    ∃ o, DPutE H a y v (upd H a o) ∧ Pl o ∧ Own K G (upd H a o) a (.dict (putD es dk c d)) := by
  cases w with
  | dK hH tk =>
    obtain ⟨k, rfl, rfl, rfl⟩ := key_tr ty hc
    exact ⟨_, .inl (DPut.k hH (by rw [tk.length]; exact lim_lt hl)), trivial, .dK upd_same (kv_put k tk tv)⟩
end

section
variable {X : Cx} {B : Ent} {ok : OkX} {cls : Clss} {a b c e : Expr} {es : List Expr} {fa fb fc fk fv f : EF} {fs : AF} {ft : TF} {pos p p1 p2 tpos apos cpos : Pos} {j n i : Nat} {x y : Str} {T : YT}
/-! ### x[e], the base any value -/
theorem peOr {t t' : TE} (h : PE X e t) (h' : PE X e t') : PE X e (fun σ H Q => t σ H Q ∨ t' σ H Q) := by
  refine ⟨fun pins s σ H Q I q => ?_⟩
  rcases q with q | q
  · exact h.run pins s σ H Q I q
  · exact h'.run pins s σ H Q I q
theorem shw_ix {K : PySem.W.Frag} {G H : Hp} {a0 : Addr} {d dr : PyData} {i : Int} (w : Shw K G H a0 d) (e : gIxD d (.int i) = some dr) (hd : ∀ es, d ≠ .dict es) : ∃ v, Tr K G v dr ∧ ((∃ xs, SqL K H a0 xs ∧ atI xs i = some v) ∨ ∃ xs, SqT K H a0 xs ∧ atI xs i = some v) := by
  cases w with
  | lst h t =>
    obtain ⟨v, e1, t1⟩ := atI_tr t e
    exact ⟨v, t1, .inl ⟨_, h, e1⟩⟩
  | tup h t =>
    obtain ⟨v, e1, t1⟩ := atI_tr t e
    exact ⟨v, t1, .inr ⟨_, h, e1⟩⟩
  | dK _ _ => exact absurd rfl (hd _)
  | exc => exact absurd rfl (hd _)
def isDct : PyData → Bool
  | .dict _ => true
  | _ => false
theorem isDct_not {d : PyData} (h : isDct d = false) : ∀ es, d ≠ .dict es := fun es z => by subst z; cases h
theorem isDct_is {d : PyData} (h : isDct d = true) : ∃ es, d = .dict es := by
  cases d <;> first | exact ⟨_, rfl⟩ | cases h
theorem gIxD_int {d k r : PyData} (e : gIxD d k = some r) (h : isDct d = false) : ∃ i, k = .int i := by
  cases d with
  | list ds => cases k <;> first | exact ⟨_, rfl⟩ | cases e
  | tuple ds => cases k <;> first | exact ⟨_, rfl⟩ | cases e
  | dict es => cases h
  | _ => cases e
theorem gIxD_dct {es : List (PyData × PyData)} {k r : PyData} (e : gIxD (.dict es) k = some r) : ∃ c, kc k = some c ∧ lkD es c = some r := by
  have e : (kc k).bind (fun c => lkD es c) = some r := e
  cases h : kc k with
  | none => rw [h] at e; cases e
  | some c => rw [h] at e; exact ⟨c, rfl, e⟩
theorem ee_ixd (hu : X.A.units + 64 < cLine) (ha : EE X B ok a fa) (hb : EE X B ok b fb) (hs : PlainIx b := by exact fun _ _ => rfl) : EE X B ok (.Subscript a b pos) (fOp gIxD fa fb) := by
  obtain ⟨ta, pa, ka⟩ := ha.ex
  obtain ⟨tb, pb, kb⟩ := hb.ex
  refine ⟨_, peOr (pe_ix (ix_list.or ix_tup) pa pb hs) (pe_dget (by omega) pa pb hs), fun σ H G ρ Q h q => ?_⟩
  have q : ((fa ρ).bind fun x => (fb x.2).bind fun y => (ofO (gIxD x.1 y.1)).bind fun d => .ok (d, y.2)).sat _ ok := q
  cases ef : fa ρ with
  | er c d => rw [ef] at q; exact .inl (ka σ H G ρ _ h (by rw [ef]; exact q))
  | no => rw [ef] at q; exact q.elim
  | ok x =>
    rw [ef] at q
    have q : ((fb x.2).bind fun y => (ofO (gIxD x.1 y.1)).bind fun d => .ok (d, y.2)).sat _ ok := q
    cases hd : isDct x.1 with
    | false =>
      refine .inl (ka σ H G ρ _ h ?_)
      rw [ef]
      intro v1 H1 G1 s1 r1 t1
      refine kb σ H1 G1 x.2 _ r1 ((R.sat_bind q).imp fun y qy v2 H2 G2 s2 r2 t2 => ?_)
      obtain ⟨d, ed, qd⟩ := ofO_sat (R.sat_bind qy)
      obtain ⟨i, ei⟩ := gIxD_int ed hd
      rw [ei] at ed t2
      cases t2
      rcases (t1.mono s2.sub).shw r2.subG with ⟨a0, rfl, w⟩ | ⟨n1, n2, n3⟩
      · obtain ⟨v, tv, ⟨xs, hx, e1⟩ | ⟨xs, hx, e1⟩⟩ := shw_ix w ed (isDct_not hd)
        · exact .inl ⟨_, _, _, v, rfl, rfl, hx, e1, qd v H2 G2 (s1.trans s2) r2 tv⟩
        · exact .inr ⟨_, _, _, v, rfl, rfl, hx, e1, qd v H2 G2 (s1.trans s2) r2 tv⟩
      · obtain ⟨d1, ρ1⟩ := x
        cases d1 with
        | list _ => exact absurd rfl (n1 _)
        | tuple _ => exact absurd rfl (n2 _)
        | dict _ => cases hd
        | _ => cases ed
    | true =>
      obtain ⟨es, hes⟩ := isDct_is hd
      refine .inr (ka σ H G ρ _ h ?_)
      rw [ef]
      intro v1 H1 G1 s1 r1 t1
      refine kb σ H1 G1 x.2 _ r1 ((R.sat_bind q).imp fun y qy v2 H2 G2 s2 r2 t2 => ?_)
      obtain ⟨d, ed, qd⟩ := ofO_sat (R.sat_bind qy)
      rw [hes] at ed t1
      obtain ⟨c, hc, hl⟩ := gIxD_dct ed
      rcases (t1.mono s2.sub).shw r2.subG with ⟨a0, rfl, w⟩ | ⟨_, _, n3⟩
      · obtain ⟨u, g, tu⟩ := shw_dget r2.subG w t2 hc hl
        exact ⟨a0, u, rfl, g, qd u H2 G2 (s1.trans s2) r2 tu⟩
      · exact absurd rfl (n3 _)
/-- x[e], x a name, whoever owns it -/
def fIxN (i : Nat) (fk : EF) : EF := fun ρ => (anyAt ρ i).bind fun d0 => (fk ρ).bind fun y => (anyAt y.2 i).bind fun d => if isDct d = isDct d0 then (ofO (gIxD d y.1)).bind fun r => .ok (r, y.2) else .no
theorem ee_ixn (i : Nat) (hu : X.A.units + 64 < cLine) (hb : EE X B ok b fk) (hN : X.N[i]? = some x := by rfl) (hv : Vis X.env.scope x := by first | exact Or.inl rfl | exact Or.inr (Or.inl rfl) | exact Or.inr (Or.inr rfl))
    (hd1 : (x == ("__debug__" : Str)) = false := by decide) (hd2 : (x == ("__classdict__" : Str)) = false := by decide) (hs : PlainIx b := by exact fun _ _ => rfl) : EE X B ok (.Subscript (.Name x p) b pos) (fIxN i fk) := by
  obtain ⟨tb, pb, kb⟩ := hb.ex
  refine ⟨_, peOr (pe_ix (ix_list.or ix_tup) (pe_var hN hv hd1 hd2) pb hs) (pe_dget (by omega) (pe_var hN hv hd1 hd2) pb hs), fun σ H G ρ Q h q => ?_⟩
  obtain ⟨d0, e0, q⟩ := anyAt_sat (R.sat_bind q)
  obtain ⟨v0, ev, _⟩ := h.any e0
  have fin : ∀ (y : PyData × En) (d r : PyData) (H2 G2 : Hp) (v2 : V), Rel X.K B G2 H2 σ y.2 → Tr X.K G2 v2 y.1 → anyAt y.2 i = .ok d → gIxD d y.1 = some r → ∃ a0 u, v0 = .ref a0 ∧ Tr X.K G2 u r ∧
      ((isDct d = false ∧ ∃ j, v2 = .int j ∧ ((∃ xs, SqL X.K H2 a0 xs ∧ atI xs j = some u) ∨ ∃ xs, SqT X.K H2 a0 xs ∧ atI xs j = some u)) ∨ (isDct d = true ∧ DGet H2 a0 v2 (some u))) := fun y d r H2 G2 v2 r2 t2 e1 ed => by
    obtain ⟨v, ev2, hw⟩ := r2.any e1
    rw [ev] at ev2; cases ev2
    rcases hw with ⟨a0, rfl, w⟩ | ⟨n1, n2, n3, _⟩
    · cases hd : isDct d with
      | false =>
        obtain ⟨j, ej⟩ := gIxD_int ed hd
        rw [ej] at ed t2
        cases t2
        obtain ⟨u, tu, hx⟩ := shw_ix w ed (isDct_not hd)
        exact ⟨a0, u, rfl, tu, .inl ⟨rfl, j, rfl, hx⟩⟩
      | true =>
        obtain ⟨es, rfl⟩ := isDct_is hd
        obtain ⟨c, hc, hl⟩ := gIxD_dct ed
        obtain ⟨u, g, tu⟩ := shw_dget r2.subG w t2 hc hl
        exact ⟨a0, u, rfl, tu, .inr ⟨rfl, g⟩⟩
    · cases d with
      | list _ => exact absurd rfl (n1 _)
      | tuple _ => exact absurd rfl (n2 _)
      | dict _ => exact absurd rfl (n3 _)
      | _ => cases ed
  cases hd : isDct d0 with
  | false =>
    refine .inl ⟨v0, ev, kb σ H G ρ _ h ((R.sat_bind q).imp fun y qy v2 H2 G2 s2 r2 t2 => ?_)⟩
    obtain ⟨d, e1, q1⟩ := anyAt_sat (R.sat_bind qy)
    obtain ⟨hk, q1⟩ := ite_sat q1
    obtain ⟨r, er, qr⟩ := ofO_sat (R.sat_bind q1)
    obtain ⟨a0, u, rfl, tu, ⟨_, j, rfl, ⟨xs, hx, hi⟩ | ⟨xs, hx, hi⟩⟩ | ⟨hdt, _⟩⟩ := fin y d r H2 G2 v2 r2 t2 e1 er
    · exact .inl ⟨_, _, _, u, rfl, rfl, hx, hi, qr u H2 G2 s2 r2 tu⟩
    · exact .inr ⟨_, _, _, u, rfl, rfl, hx, hi, qr u H2 G2 s2 r2 tu⟩
    · rw [hk, hd] at hdt; cases hdt
  | true =>
    refine .inr ⟨v0, ev, kb σ H G ρ _ h ((R.sat_bind q).imp fun y qy v2 H2 G2 s2 r2 t2 => ?_)⟩
    obtain ⟨d, e1, q1⟩ := anyAt_sat (R.sat_bind qy)
    obtain ⟨hk, q1⟩ := ite_sat q1
    obtain ⟨r, er, qr⟩ := ofO_sat (R.sat_bind q1)
    obtain ⟨a0, u, rfl, tu, ⟨hdf, _⟩ | ⟨_, g⟩⟩ := fin y d r H2 G2 v2 r2 t2 e1 er
    · rw [hk, hd] at hdf; cases hdf
    · exact ⟨a0, u, rfl, g, qr u H2 G2 s2 r2 tu⟩
/-! ### d[k] = v, d one's own -/
def sPut (i : Nat) (fk fv : EF) : SF := fun ρ => ofR ((fv ρ).bind fun v => (ioAt v.2 i).bind fun _ => (fk v.2).bind fun k => (ioAt k.2 i).bind fun d => match d, kc k.1 with
  | .dict es, some c => if kindOk es c = true ∧ es.length < 1000000 then .ok (.dict (putD es k.1 c v.1), k.2) else .no
  | _, _ => .no) fun x => .nx (ioSet x.2 i x.1)
theorem ss_put (i : Nat) (hu : X.A.units + 64 < cLine) (hk : EE X B ok b fk) (hv : EE X B ok c fv) (hN : X.N[i]? = some x := by rfl) (hvis : Vis X.env.scope x := by first | exact Or.inl rfl | exact Or.inr (Or.inl rfl) | exact Or.inr (Or.inr rfl))
    (hd1 : (x == ("__debug__" : Str)) = false := by decide) (hd2 : (x == ("__classdict__" : Str)) = false := by decide) (hs : swapsWith c (some (.Subscript (.Name x p) b p2)) pos.line X.env = pure false := by rfl) :
    SS X B ok (.Assign [.Subscript (.Name x p) b p2] c pos) (sPut i fk fv) := by
  obtain ⟨tk, pk, kk⟩ := hk.ex
  obtain ⟨tv, pv, kv⟩ := hv.ex
  refine ⟨fun D σ H => tv σ H fun v H1 => ∃ x0, σ[i]? = some (some x0) ∧ tk σ H1 fun y H3 => ∃ a H4, x0 = .ref a ∧ DPutE H3 a y v H4 ∧ D.nx σ H4, ⟨fun pins s σ H D I h => ?_⟩, fun σ H G ρ D r q => ?_⟩
  · refine wpAny_Assign_Subscript (thn (pv.run pins s σ H _ I h) fun r s1 ⟨v, H1, I1, rv, x0, e0, q1⟩ => thn ((pe_var hN hvis hd1 hd2).run pins s1 σ H1 (fun x1 H2 => x1 = x0 ∧ H2 = H1) I1 ⟨x0, e0, rfl, rfl⟩) fun u s2 ⟨x, H2, I2, rx, ex, eh⟩ => ?_) hs
    subst ex eh
    refine thn (pk.run pins s2 σ H2 _ I2 q1) fun iv s3 ⟨y, H3, I3, ry, a, H4, ex, g, q3⟩ => ?_
    subst ex
    obtain rfl : u = Value.ref a := rx
    exact d_setItemE (by omega) I3 g ry rv fun s4 I4 => ⟨σ, H4, I4, q3⟩
  · refine kv σ H G ρ _ r ((R.sat_bind (ofR_sat q)).imp fun v qv v1 H1 G1 s1 r1 t1 => ?_)
    obtain ⟨d1, e1, q1⟩ := ioAt_sat (R.sat_bind qv)
    obtain ⟨a0, _, _, _, ea0, _, _⟩ := r1.at_io e1
    refine ⟨_, ea0, kk σ H1 G1 v.2 _ r1 ((R.sat_bind q1).imp fun k qk v2 H2 G2 s2 r2 t2 => ?_)⟩
    obtain ⟨d2, e2, q2⟩ := ioAt_sat (R.sat_bind qk)
    obtain ⟨a, s, hs', had, ea, n0, w0⟩ := r2.at_io e2
    rw [ea0] at ea; cases ea
    split at q2
    · rename_i es c hc
      obtain ⟨⟨hk1, hl⟩, q2⟩ := ite_sat q2
      obtain ⟨o, g, hp, w'⟩ := own_dput r2.subG w0 t2 (t1.mono s2.sub) hc hk1 hl
      obtain ⟨o0, h0, p0⟩ := w0.pl
      obtain ⟨r3, s3⟩ := r2.stepIo hs' had (Grow.wr r2.sub n0 h0 p0 (by simp)) n0 w'
      exact ⟨_, _, rfl, g, q2 σ _ G2 (s1.sub.trans s2.sub) r3⟩
    · exact q2.elim
end
end Y


/-! YOwn: objects of one's own read without handing them on; dicts in tests; displays; names set side by side; enumerate; keywords. -/
namespace Y
open PySem PySem.Spec PyProof.Rows L2
section
variable {X : Cx} {B : Ent} {ok : OkX} {cls : Clss} {a b c e : Expr} {es : List Expr} {fa fb fc fk fv f : EF} {fs : AF} {ft : TF} {pos p p1 p2 tpos apos cpos : Pos} {j n i k : Nat} {x y : Str} {T : YT}
/-! ### in, with dicts -/
def gInD (a b : PyData) : Option PyData := match b with
  | .dict es => (kc a).bind fun c => if kindOk es c = true then some (.bool (lkD es c).isSome) else none
  | _ => gIn a b
def gNotInD (a b : PyData) : Option PyData := match b with
  | .dict es => (kc a).bind fun c => if kindOk es c = true then some (.bool (!(lkD es c).isSome)) else none
  | _ => gNotIn a b
theorem din_inv {K : PySem.W.Frag} {G H : Hp} {x y : V} {dx : PyData} {es : List (PyData × PyData)} {f : Bool → PyData} {d : PyData} (s : Sub G H) (tx : Tr K G x dx) (ty : Tr K G y (.dict es)) (e : ((kc dx).bind fun c => if kindOk es c = true then some (f (lkD es c).isSome) else none) = some d) :
    ∃ a o, y = .ref a ∧ DGetE H a x o ∧ d = f o.isSome := by
  cases hc : kc dx with
  | none => rw [hc] at e; cases e
  | some c =>
    rw [hc] at e
    have e : (if kindOk es c = true then some (f (lkD es c).isSome) else none) = some d := e
    split at e
    · rename_i hk
      cases e
      rcases ty.shw s with ⟨a, rfl, w⟩ | ⟨_, _, n3⟩
      · obtain ⟨o, g, h⟩ := shw_din s w tx hc hk
        refine ⟨a, o, rfl, g, ?_⟩
        rcases h with ⟨u, d, rfl, e2, _⟩ | ⟨rfl, e2⟩
        · rw [e2]; rfl
        · rw [e2]; rfl
      · exact absurd rfl (n3 _)
    · cases e
theorem opd_inD (hu : X.A.units + 65 < cLine) : OpD X T (compareOp .In) gInD := by
  obtain ⟨r, h1, h2⟩ := opd_in (X := X) (T := T) hu
  refine ⟨_, h1.or (op_inE (by omega)), fun G H x y dx dy d Q s tx ty e q => ?_⟩
  unfold gInD at e
  split at e
  · obtain ⟨a, o, rfl, g, rfl⟩ := din_inv (sub_of s) tx ty e
    exact .inr ⟨a, o, rfl, g, q _ H G (Grow.refl s) (.bl _)⟩
  · exact .inl (h2 G H x y dx dy d Q s tx ty e q)
theorem opd_notinD (hu : X.A.units + 65 < cLine) : OpD X T (compareOp .NotIn) gNotInD := by
  obtain ⟨r, h1, h2⟩ := opd_notin (X := X) (T := T) hu
  refine ⟨_, h1.or (op_notInE (by omega)), fun G H x y dx dy d Q s tx ty e q => ?_⟩
  unfold gNotInD at e
  split at e
  · obtain ⟨a, o, rfl, g, rfl⟩ := din_inv (f := fun z => .bool (!z)) (sub_of s) tx ty e
    exact .inr ⟨a, o, rfl, g, q _ H G (Grow.refl s) (.bl _)⟩
  · exact .inl (h2 G H x y dx dy d Q s tx ty e q)
/-! ### one's own object, read -/
def scl : PyData → Bool
  | .none => true
  | .bool _ => true
  | .int _ => true
  | .str _ => true
  | _ => false
theorem scl_tr {K : PySem.W.Frag} {G G' : Hp} {v : V} {d : PyData} (t : Tr K G v d) (h : scl d = true) : Tr K G' v d := by
  cases t with
  | non => exact .non
  | bl b => exact .bl b
  | int i => exact .int i
  | str z => exact .str z
  | _ => cases h
/-- in a larger frozen part the object is a shared one -/
theorem Rel.anyTr {K : PySem.W.Frag} {G H : Hp} {σ : St} {ρ : En} {d : PyData} (r : Rel K B G H σ ρ) (h : anyAt ρ i = .ok d) : ∃ v G2, σ[i]? = some (some v) ∧ Sub G G2 ∧ (∀ b o, G2 b = some o → H b = some o ∧ ∀ ps, o ≠ .tbl ps) ∧ Tr K G2 v d ∧
    (∀ T G' H', Grow T [] G2 H G' H' → Grow T [] G H G H') := by
  have own : ∀ {a : Addr}, G a = none → Own K G H a d → ∃ G2, Sub G G2 ∧ (∀ b o, G2 b = some o → H b = some o ∧ ∀ ps, o ≠ .tbl ps) ∧ Tr K G2 (.ref a) d ∧ (∀ T G' H', Grow T [] G2 H G' H' → Grow T [] G H G H') := fun {a} n w => by
    obtain ⟨o, ho, ht⟩ := w.nt
    have s1 : Sub G (upd G a o) := Sub.new n
    refine ⟨upd G a o, s1, Grow.freeze r.sub ho ht, ?_, fun T G' H' g => ?_⟩
    · cases w with
      | lst h' t => rw [ho] at h'; cases h'; exact .lst (.inl upd_same) (t.mono s1)
      | dK h' t => rw [ho] at h'; cases h'; exact .dK (.inl upd_same) (t.mono s1)
    · refine ⟨fun b u e => ⟨(g.sub b u (g.gm b u (s1 b u e))).1, (r.sub b u e).2⟩, Sub.refl G, g.hm, g.hs, fun b e _ => e, g.tb⟩
  unfold anyAt at h
  split at h
  · rename_i d' e
    cases h
    obtain ⟨v, e1, t⟩ := r.at_ i _ e
    exact ⟨v, G, e1, Sub.refl G, r.sub, t, fun T G' H' g => ⟨fun b u e => ⟨(g.sub b u (g.gm b u e)).1, (r.sub b u e).2⟩, Sub.refl G, g.hm, g.hs, fun b e _ => e, g.tb⟩⟩
  · rename_i d' e
    cases h
    obtain ⟨a, e1, n, z, w⟩ := r.at_ i _ e
    obtain ⟨G2, h1, h2, h3, h4⟩ := own n w
    exact ⟨_, G2, e1, h1, h2, h3, h4⟩
  · rename_i d' e
    cases h
    obtain ⟨a, e1, n, z, w⟩ := r.at_ i _ e
    obtain ⟨G2, h1, h2, h3, h4⟩ := own n w
    exact ⟨_, G2, e1, h1, h2, h3, h4⟩
  · cases h
/-- a op x -/
def fOpN (g : PyData → PyData → Option PyData) (fa : EF) (i : Nat) : EF := fun ρ => (fa ρ).bind fun x => (anyAt x.2 i).bind fun d => (ofO (g x.1 d)).bind fun r => if scl r = true then .ok (r, x.2) else .no
theorem opN_ok {ta : TE} {g : PyData → PyData → Option PyData} (ka : ∀ (σ : St) (H G : Hp) (ρ : En) (Q : VK), Rel X.K B G H σ ρ → (fa ρ).sat (fun r => ∀ v H' G', Adv σ G H ρ G' H' r.2 → Rel X.K B G' H' σ r.2 → Tr X.K G' v r.1 → Q v H') ok → ta σ H Q)
    {r : R2} (hr : RD B.T X.K r g) {σ : St} {H G : Hp} {ρ : En} {Q : VK} (h : Rel X.K B G H σ ρ) (q : (fOpN g fa i ρ).sat (fun r => ∀ v H' G', Adv σ G H ρ G' H' r.2 → Rel X.K B G' H' σ r.2 → Tr X.K G' v r.1 → Q v H') ok) : tOp r ta (tVar i) σ H Q := by
  refine ka σ H G ρ _ h ((R.sat_bind q).imp fun x qx v1 H1 G1 s1 r1 t1 => ?_)
  obtain ⟨d, e, q1⟩ := anyAt_sat (R.sat_bind qx)
  obtain ⟨z, ez, q2⟩ := ofO_sat (R.sat_bind q1)
  obtain ⟨hs, q2⟩ := ite_sat q2
  obtain ⟨v2, G2, e2, s2, sub2, t2, bk⟩ := r1.anyTr e
  refine ⟨v2, e2, hr G2 H1 v1 v2 x.1 d z Q sub2 (t1.mono s2) t2 ez fun v H' G' g t => ?_⟩
  have g' := bk _ _ _ g
  exact q2 v H' G1 (s1.trans (Adv.grow g')) (r1.step g') (scl_tr t hs)
theorem ee_cmpN {op : CmpOp} {g : PyData → PyData → Option PyData} (i : Nat) (ho : OpD X B.T (compareOp op) g) (ha : EE X B ok a fa) (hN : X.N[i]? = some x := by rfl) (hv : Vis X.env.scope x := by first | exact Or.inl rfl | exact Or.inr (Or.inl rfl) | exact Or.inr (Or.inr rfl)) (hm : behindInMarks op (.Name x p) = false := by rfl)
    (hd1 : (x == ("__debug__" : Str)) = false := by decide) (hd2 : (x == ("__classdict__" : Str)) = false := by decide) : EE X B ok (.Compare a [op] [.Name x p] pos) (fOpN g fa i) := by
  obtain ⟨r, h1, h2⟩ := ho
  obtain ⟨ta, pa, ka⟩ := ha.ex
  exact ⟨_, pe_cmpR h1 pa (pe_var hN hv hd1 hd2) hm, fun σ H G ρ Q h q => opN_ok ka h2 h q⟩
theorem et_cmpN {op : CmpOp} {g : PyData → PyData → Option PyData} (i : Nat) (ho : OpD X B.T (compareOp op) g) (ha : EE X B ok a fa) (hN : X.N[i]? = some x := by rfl) (hv : Vis X.env.scope x := by first | exact Or.inl rfl | exact Or.inr (Or.inl rfl) | exact Or.inr (Or.inr rfl)) (hm : behindInMarks op (.Name x p) = false := by rfl)
    (hd1 : (x == ("__debug__" : Str)) = false := by decide) (hd2 : (x == ("__classdict__" : Str)) = false := by decide) : ET X B ok (.Compare a [op] [.Name x p] pos) (fB (fOpN g fa i)) := by
  obtain ⟨r, h1, h2⟩ := ho
  obtain ⟨ta, pa, ka⟩ := ha.ex
  refine ⟨_, pt_cmpR h1 pa (pe_var hN hv hd1 hd2) hm, fun σ H G ρ Q h q => opN_ok (g := g) ka h2 h ((fB_sat q).imp fun x ⟨k, e, qk⟩ v H' G' s' r' t' => ?_)⟩
  exact ⟨k, asB_tr t' e, qk H' G' s' r'⟩
/-- f(x), f a built-in, x a name -/
def fBltX (g : List PyData → Option PyData) (i : Nat) : EF := fun ρ => (anyAt ρ i).bind fun d => (ofO (g [d])).bind fun r => if scl r = true then .ok (r, ρ) else .no
theorem ee_bltN {z : Str} {id : String} {g : List PyData → Option PyData} (i : Nat) (h : BD X B.T (.builtin id) g) (hm : X.mg z = none) (hv : bootBuiltins z = some (.builtin id)) (hN : X.N[i]? = some x := by rfl) (hvis : Vis X.env.scope x := by first | exact Or.inl rfl | exact Or.inr (Or.inl rfl) | exact Or.inr (Or.inr rfl))
    (hg : Gl X z := by rfl) (hn : z ≠ "__name__" := by decide) (hdb : (z == ("__debug__" : Str)) = false := by decide) (hd1 : (x == ("__debug__" : Str)) = false := by decide) (hd2 : (x == ("__classdict__" : Str)) = false := by decide)
    (he : starEach [.Name x p1] X.env = (false, eval (.Name x p1) X.env) :: starEach [] X.env := by rfl) (hpl : (backTo pos (starEach [] X.env)).any (·.1) = false := by rfl) : EE X B ok (.Call (.Name z p) [.Name x p1] [] pos) (fBltX g i) := by
  obtain ⟨r, hc, hr⟩ := h
  refine ⟨_, pe_callB hc hg hm hv (pa_cons (pe_var hN hvis hd1 hd2) pa_nil he) hn hdb he hpl, fun σ H G ρ Q r' q => ?_⟩
  obtain ⟨d, e, q1⟩ := anyAt_sat (R.sat_bind q)
  obtain ⟨z, ez, q2⟩ := ofO_sat (R.sat_bind q1)
  obtain ⟨hs, q2⟩ := ite_sat q2
  obtain ⟨v2, G2, e2, s2, sub2, t2, bk⟩ := r'.anyTr e
  refine ⟨v2, e2, hr G2 H [v2] [d] z Q sub2 (.cons t2 .nil) ez fun v H' G' g t => ?_⟩
  have g' := bk _ _ _ g
  exact q2 v H' G (Adv.grow g') (r'.step g') (scl_tr t hs)
/-! ### dict displays -/
theorem en_d0 : EN X B ok (.Dict [] [] pos) (fC (.dict [])) := by
  refine ⟨_, pe_dnewK, fun σ H G ρ Q r q p hp => ?_⟩
  obtain ⟨r2, x2⟩ := fresh_new r hp (o := .dK []) (.dK upd_same .nil)
  exact q p _ G hp (Adv.grow (Grow.newO (T := B.T) (io := []) r.sub hp)) r2 x2
inductive TrP (K : PySem.W.Frag) (G : Hp) : List (V × V) → List (PyData × PyData) → Prop
  | nil : TrP K G [] []
  | cons {u v : V} {dk d : PyData} {ps : List (V × V)} {es : List (PyData × PyData)} {k : Key} : u = kV k → dk = kD k → Tr K G v d → TrP K G ps es → TrP K G ((u, v) :: ps) ((dk, d) :: es)
theorem TrP.kvs {K : PySem.W.Frag} {G : Hp} : ∀ {ps : List (V × V)} {es : List (PyData × PyData)}, TrP K G ps es → ∃ kvs : List (Key × V), ps = kvs.map (fun kv => (kV kv.1, kv.2)) ∧ TrKV K G kvs es
  | _, _, .nil => ⟨[], rfl, .nil⟩
  | _, _, .cons (k := k) e1 e2 t r => by
    obtain ⟨kvs, h1, h2⟩ := TrP.kvs r
    subst e1 e2 h1
    exact ⟨(k, _) :: kvs, rfl, .cons t h2⟩
structure EP (X : Cx) (B : Ent) (ok : OkX) (pos : Pos) (ks : List (Option Expr)) (vs : List Expr) (f : En → R (List (PyData × PyData) × En)) : Prop where
  ex : ∃ trs, PPs X pos ks vs trs ∧ ∀ (σ : St) (H G : Hp) (ρ : En) (Q : List (V × V) → Hp → Prop), Rel X.K B G H σ ρ →
    (f ρ).sat (fun r => ∀ ps H' G', Adv σ G H ρ G' H' r.2 → Rel X.K B G' H' σ r.2 → TrP X.K G' ps r.1 → Q ps H') ok → tPairs trs σ H Q
def pNil : En → R (List (PyData × PyData) × En) := fun ρ => .ok ([], ρ)
def pCons (fk fv : EF) (fr : En → R (List (PyData × PyData) × En)) : En → R (List (PyData × PyData) × En) := fun ρ => (fk ρ).bind fun k => (fv k.2).bind fun v => (ofO (keyOf k.1)).bind fun _ => (fr v.2).bind fun r => .ok ((k.1, v.1) :: r.1, r.2)
theorem TrP.mono {K : PySem.W.Frag} {G G' : Hp} (s : Sub G G') {ps : List (V × V)} {es : List (PyData × PyData)} : TrP K G ps es → TrP K G' ps es
  | .nil => .nil
  | .cons e1 e2 t r => .cons e1 e2 (t.mono s) (TrP.mono s r)
theorem ep_nil : EP X B ok pos [] [] pNil := ⟨[], pps_nil, fun σ H G ρ Q r q => q [] H G Adv.refl r .nil⟩
theorem ep_cons {ks : List (Option Expr)} {vs : List Expr} {fr : En → R (List (PyData × PyData) × En)} (hk : EE X B ok a fk) (hv : EE X B ok b fv) (hr : EP X B ok pos ks vs fr) : EP X B ok pos (some a :: ks) (b :: vs) (pCons fk fv fr) := by
  obtain ⟨tk, pk, kk⟩ := hk.ex
  obtain ⟨tv, pv, kv⟩ := hv.ex
  obtain ⟨tr, pr, kr⟩ := hr.ex
  refine ⟨_, pps_cons pk pv pr, fun σ H G ρ Q r q => ?_⟩
  refine kk σ H G ρ _ r ((R.sat_bind q).imp fun k qk v1 H1 G1 s1 r1 t1 => ?_)
  refine kv σ H1 G1 k.2 _ r1 ((R.sat_bind qk).imp fun v qv v2 H2 G2 s2 r2 t2 => ?_)
  obtain ⟨kk', ek, q3⟩ := ofO_sat (R.sat_bind qv)
  refine kr σ H2 G2 v.2 _ r2 ((R.sat_bind q3).imp fun w qw ps H3 G3 s3 r3 t3 => ?_)
  have e1 := keyOf_inv ek
  rw [e1] at t1
  exact qw _ H3 G3 ((s1.trans s2).trans s3) r3 (.cons (kV_tr t1) e1 (t2.mono s3.sub) t3)
def mergeD (es : List (PyData × PyData)) : List (PyData × PyData) := es.foldl (fun acc p => match kc p.1 with
  | some c => putD acc p.1 c p.2
  | none => acc) []
theorem merge_tr {K : PySem.W.Frag} {G : Hp} : ∀ {kvs : List (Key × V)} {es : List (PyData × PyData)} {acc : List (Key × V)} {ae : List (PyData × PyData)}, TrKV K G kvs es → TrKV K G acc ae → TrKV K G (mergeK acc kvs) (es.foldl (fun acc p => match kc p.1 with
  | some c => putD acc p.1 c p.2
  | none => acc) ae)
  | _, _, _, _, .nil, t => t
  | _, _, _, _, .cons (k := k) h r, t => by
    have z := merge_tr r (kv_put k t h)
    rw [List.foldl_cons, kc_kD]
    exact z
def fDsp (fr : En → R (List (PyData × PyData) × En)) : EF := fun ρ => (fr ρ).bind fun r => if r.1.length ≤ 15 then .ok (.dict (mergeD r.1), r.2) else .no
theorem en_dsp {ks : List (Option Expr)} {vs : List Expr} {fr : En → R (List (PyData × PyData) × En)} (h : EP X B ok pos ks vs fr) (hall : ks.all (·.isSome) = true := by rfl) (hl : ks.length = vs.length := by rfl) (h0 : ks ≠ [] := by exact nofun) (h15 : ks.length ≤ 15 := by decide) :
    EN X B ok (.Dict ks vs pos) (fDsp fr) := by
  obtain ⟨trs, pp, kp⟩ := h.ex
  refine ⟨_, pe_disp pp hall hl h0 h15, fun σ H G ρ Q r q p hp => ?_⟩
  obtain ⟨r1, x1⟩ := fresh_new r hp (o := .dK []) (.dK (es := []) upd_same .nil)
  refine kp σ _ G ρ _ r1 ((R.sat_bind q).imp fun w qw ps H2 G2 s2 r2 t2 => ?_)
  obtain ⟨hl, qw⟩ := ite_sat qw
  obtain ⟨h2, g2, f2⟩ := s2.loose p (.dK []) upd_same x1.g (fun _ z => nomatch z) x1.ap
  obtain ⟨kvs, e1, t3⟩ := t2.kvs
  have lk : kvs.length ≤ 15 := by rw [t3.length]; exact hl
  refine ⟨h2, kvs, e1, lk, ?_⟩
  have g : Grow B.T [p] G2 H2 G2 (upd H2 p (.dK (mergeK [] kvs))) := Grow.wr r2.sub g2 h2 trivial (by simp)
  -- the new dict is nobody's yet
  have r3 : Rel X.K B G2 (upd H2 p (.dK (mergeK [] kvs))) σ w.2 := by
    refine ⟨r2.bd.ioTrans (.inl x1.b) g, r2.len, fun j s hj => ?_, r2.sep⟩
    have z := r2.at_ j s hj
    cases s with
    | un => trivial
    | lam => exact z
    | sh d => exact z
    | ow d =>
      obtain ⟨a, e, n, y, ww⟩ := z
      have hne : a ≠ p := fun zz => f2 j _ hj (by subst zz; exact e)
      exact ⟨a, e, n, y, ww.keep (Sub.refl _) fun o eo => by rw [upd_ne hne]; exact eo⟩
    | io d =>
      obtain ⟨a, e, n, y, ww⟩ := z
      have hne : a ≠ p := fun zz => f2 j _ hj (by subst zz; exact e)
      exact ⟨a, e, n, y, ww.keep (Sub.refl _) fun o eo => by rw [upd_ne hne]; exact eo⟩
  have s3 : Adv σ G H ρ G2 (upd H2 p (.dK (mergeK [] kvs))) w.2 := by
    refine ⟨s2.sub, fun b hb => ?_, fun b o hb nb tb fb => ?_⟩
    · have hb2 := s2.hs b (by rw [upd_ne (fun z => by rw [z] at hb; exact hb hp)]; exact hb)
      exact g.hs b hb2
    · have hne : b ≠ p := ne_of_none hb hp
      obtain ⟨z1, z2, z3⟩ := s2.loose b o (by rw [upd_ne hne]; exact hb) nb tb fb
      exact ⟨by rw [upd_ne hne]; exact z1, z2, z3⟩
  exact qw p _ G2 hp s3 r3 ⟨g2, x1.b, .dK upd_same (merge_tr t3 .nil), f2⟩
/-! ### d.get(..) -/
theorem pe_dget1E {td ty : TE} {o : Expr} (hu : X.A.units + 1 < cLine) (ho : PE X o td) (he : PE X e ty) (m : M1 X o "get" apos e cpos) : PE X (.Call (.Attribute o "get" apos) [e] [] cpos)
    (fun σ H Q => td σ H fun x H1 => ∃ a, x = .ref a ∧ IsD H1 a ∧ ty σ H1 fun y H2 => ∃ o, DGetE H2 a y o ∧ Q (o.getD .non) H2) := by
  refine ⟨fun pins s σ H Q I h => ?_⟩
  refine wpAny_Call_method m.base m.few m.line PySem.F.plainAttrs_dict PySem.F.slot_dict_get PySem.F.type_dict_get (thn (ho.run pins s σ H _ I h) fun u s1 ⟨x, H1, I1, rx, a, ex, d, q1⟩ => ?_)
  subst ex
  obtain rfl : u = Value.ref a := rx
  obtain ⟨t1, t2, _⟩ := isD_at I1 d
  refine ⟨t1, t2, ?_⟩
  rw [m.trees]
  exact Calls.callWith_builtin rfl (Calls.evalArgs_plain (Calls.spliced_cons (thn (he.run pins s1 σ H1 _ I1 q1) fun iv s2 ⟨y, H2, I2, ry, ov, g, q2⟩ => Calls.spliced_nil (d_get1E hu I2 g ry fun w' s3 I3 rw' => ⟨_, H2, I3, rw', q2⟩))))
theorem pe_dget2E {td ty tx : TE} {o f : Expr} (hu : X.A.units + 1 < cLine) (ho : PE X o td) (he : PE X e ty) (hf : PE X f tx) (m : M2 X o "get" apos e f cpos) : PE X (.Call (.Attribute o "get" apos) [e, f] [] cpos)
    (fun σ H Q => td σ H fun x H1 => ∃ a, x = .ref a ∧ IsD H1 a ∧ ty σ H1 fun y H2 => tx σ H2 fun z H3 => ∃ o, DGetE H3 a y o ∧ Q (o.getD z) H3) := by
  refine ⟨fun pins s σ H Q I h => ?_⟩
  refine wpAny_Call_method m.base m.few m.line PySem.F.plainAttrs_dict PySem.F.slot_dict_get PySem.F.type_dict_get (thn (ho.run pins s σ H _ I h) fun u s1 ⟨x, H1, I1, rx, a, ex, d, q1⟩ => ?_)
  subst ex
  obtain rfl : u = Value.ref a := rx
  obtain ⟨t1, t2, _⟩ := isD_at I1 d
  refine ⟨t1, t2, ?_⟩
  rw [m.trees]
  exact Calls.callWith_builtin rfl (Calls.evalArgs_plain (Calls.spliced_cons (thn (he.run pins s1 σ H1 _ I1 q1) fun iv s2 ⟨y, H2, I2, ry, q2⟩ =>
    Calls.spliced_cons (thn (hf.run pins s2 σ H2 _ I2 q2) fun fv s3 ⟨z, H3, I3, rz, ov, g, q3⟩ => Calls.spliced_nil (d_get2E hu I3 g ry rz fun w' s4 I4 rw' => ⟨_, H3, I4, rw', q3⟩)))))
/-! ### names set side by side -/
inductive KAll (K : PySem.W.Frag) (B : Ent) (G H : Hp) (σ : St) (ρ : En) : List Bool → List V → List PyData → List Addr → Prop
  | nil : KAll K B G H σ ρ [] [] [] []
  | sh {v : V} {d : PyData} {ks vs ds as} : Tr K G v d → KAll K B G H σ ρ ks vs ds as → KAll K B G H σ ρ (false :: ks) (v :: vs) (d :: ds) as
  | ow {q : Addr} {d : PyData} {ks vs ds as} : Fresh K B G H σ ρ q d → q ∉ as → KAll K B G H σ ρ ks vs ds as → KAll K B G H σ ρ (true :: ks) (.ref q :: vs) (d :: ds) (q :: as)
structure EK (X : Cx) (B : Ent) (ok : OkX) (es : List Expr) (ks : List Bool) (f : AF) : Prop where
  ex : ∃ t : TA, PA X es t ∧ ∀ (σ : St) (H G : Hp) (ρ : En) (Q : List V → Hp → Prop), Rel X.K B G H σ ρ →
    (f ρ).sat (fun r => ∀ vs as H' G', (∀ q ∈ as, H q = none) → Adv σ G H ρ G' H' r.2 → Rel X.K B G' H' σ r.2 → KAll X.K B G' H' σ r.2 ks vs r.1 as → Q vs H') ok → t σ H Q
theorem ek_nil : EK X B ok [] [] fNil := ⟨_, pa_nil, fun σ H G ρ Q r q => q [] [] H G (by simp) Adv.refl r .nil⟩
variable {ks : List Bool}
theorem ek_sh (h : EE X B ok e f) (hs : EK X B ok es ks fs) (he : starEach (e :: es) X.env = (false, eval e X.env) :: starEach es X.env := by rfl) : EK X B ok (e :: es) (false :: ks) (fCons f fs) := by
  obtain ⟨t, p, k⟩ := h.ex
  obtain ⟨u, p2, k2⟩ := hs.ex
  refine ⟨_, pa_cons p p2 he, fun σ H G ρ Q r q => k σ H G ρ _ r ((R.sat_bind q).imp fun x qx v H1 G1 s1 r1 t1 => ?_)⟩
  refine k2 σ H1 G1 x.2 _ r1 ((R.sat_bind qx).imp fun xs qs vs as H2 G2 na s2 r2 t2 => ?_)
  exact qs (v :: vs) as H2 G2 (fun q hq => s1.pre (na q hq)) (s1.trans s2) r2 (.sh (t1.mono s2.sub) t2)
theorem ek_ow (h : EN X B ok e f) (hs : EK X B ok es ks fs) (he : starEach (e :: es) X.env = (false, eval e X.env) :: starEach es X.env := by rfl) : EK X B ok (e :: es) (true :: ks) (fCons f fs) := by
  obtain ⟨t, p, k⟩ := h.ex
  obtain ⟨u, p2, k2⟩ := hs.ex
  refine ⟨_, pa_cons p p2 he, fun σ H G ρ Q r q => k σ H G ρ _ r ((R.sat_bind q).imp fun x qx v H1 G1 hv s1 r1 x1 => ?_)⟩
  refine k2 σ H1 G1 x.2 _ r1 ((R.sat_bind qx).imp fun xs qs vs as H2 G2 na s2 r2 t2 => ?_)
  obtain ⟨o, ho, ht⟩ := x1.own.nt
  obtain ⟨z1, z2, z3⟩ := s2.loose v o ho x1.g ht x1.ap
  have w2 : Own X.K G2 H2 v x.1 := x1.own.keep s2.sub fun o' e' => by rw [ho] at e'; cases e'; exact z1
  refine qs (.ref v :: vs) (v :: as) H2 G2 (fun q hq => ?_) (s1.trans s2) r2 (.ow ⟨z2, x1.b, w2, z3⟩ (fun hq => ?_) t2)
  · rcases List.mem_cons.mp hq with rfl | hq
    · exact hv
    · exact s1.pre (na q hq)
  · rw [na v hq] at ho; cases ho
def slK : Bool → PyData → Sl
  | false, d => .sh d
  | true, d => .ow d
def setK : List Nat → List Bool → List PyData → En → En
  | i :: is, k :: ks, d :: ds, ρ => setK is ks ds (ρ.set i (slK k d))
  | _, _, _, ρ => ρ
def setV : List Nat → List V → St → St
  | i :: is, v :: vs, σ => setV is vs (σ.set i (some v))
  | _, _, σ => σ
theorem Free.setOw {σ : St} {ρ : En} {q p : Addr} {d : PyData} (f : Free σ ρ q) (h : q ≠ p) : Free (σ.set i (some (.ref p))) (ρ.set i (.ow d)) q := fun j s hj ej => by
  by_cases hji : i = j
  · subst hji
    by_cases hl : i < ρ.length
    · rw [List.getElem?_set_self hl] at hj
      cases hj
      by_cases hl2 : i < σ.length
      · have ej : (σ.set i (some (V.ref p)))[i]? = some (some (.ref q)) := ej
        rw [List.getElem?_set_self hl2] at ej
        cases ej
        exact h rfl
      · have ej : (σ.set i (some (V.ref p)))[i]? = some (some (.ref q)) := ej
        rw [List.getElem?_eq_none (by rw [List.length_set]; omega)] at ej
        cases ej
    · rw [List.getElem?_eq_none (by rw [List.length_set]; omega)] at hj; cases hj
  · rw [List.getElem?_set_ne hji] at hj ej
    exact f j s hj ej
theorem KAll.set {K : PySem.W.Frag} {G H : Hp} : ∀ {is : List Nat} {ks : List Bool} {vs : List V} {ds : List PyData} {as : List Addr} {σ : St} {ρ : En}, is.length = ks.length → KAll K B G H σ ρ ks vs ds as → Rel K B G H σ ρ → Rel K B G H (setV is vs σ) (setK is ks ds ρ) := by
  intro is
  induction is with
  | nil =>
    intro ks vs ds as σ ρ hl h r
    cases h with
    | nil => exact r
    | sh _ _ => cases hl
    | ow _ _ _ => cases hl
  | cons i is ih =>
    intro ks vs ds as σ ρ hl h r
    have mv : ∀ {ks vs ds as} {σ' : St} {ρ' : En}, (∀ q, q ∈ as → Free σ ρ q → Free σ' ρ' q) → KAll K B G H σ ρ ks vs ds as → KAll K B G H σ' ρ' ks vs ds as := fun {ks vs ds as σ' ρ'} hf h => by
      induction h with
      | nil => exact .nil
      | sh t _ ih => exact .sh t (ih hf)
      | ow x hn _ ih => exact .ow ⟨x.g, x.b, x.own, hf _ List.mem_cons_self x.ap⟩ hn (ih fun q hq => hf q (List.mem_cons_of_mem _ hq))
    cases h with
    | nil => cases hl
    | sh t h => exact ih (by simpa using hl) (mv (fun q _ f => f.setSh) h) (r.setSh t)
    | ow x hn h => exact ih (by simpa using hl) (mv (fun q hq f => f.setOw (fun z => hn (z ▸ hq))) h) (r.setOw x.g x.b x.own x.ap)
def sPar (is : List Nat) (ks : List Bool) (fs : AF) : SF := fun ρ => ofR (fs ρ) fun x => if x.1.length = is.length then .nx (setK is ks x.1 x.2) else .no
theorem ofIte_sat {K : PySem.W.Frag} {G : Hp} {D : Ends} {c : Prop} [Decidable c] {o : Out} (h : (if c then o else Out.no).sat K B ok G D) : c ∧ o.sat K B ok G D := by
  by_cases hc : c
  · rw [if_pos hc] at h; exact ⟨hc, h⟩
  · rw [if_neg hc] at h; exact h.elim
theorem ss_par (i j : Nat) {px py pt : Pos} {kt k2 pt2} (hc : X.calm = true) (hN : X.N.Nodup) (ha : EK X B ok [a, b] ks fs) (hi : X.N[i]? = some x := by rfl) (hj : X.N[j]? = some y := by rfl) (hij : i ≠ j := by decide)
    (hx : X.env.scope.names.lookup x = some .local := by rfl) (hy : X.env.scope.names.lookup y = some .local := by rfl)
    (hw : swappedStores [.Tuple [.Name x px, .Name y py] kt pt] (.Tuple [a, b] k2 pt2) X.env = pure (some [x, y]) := by rfl)
    (hs : swapsWithSole [.Tuple [.Name x px, .Name y py] kt pt] (.Tuple [a, b] k2 pt2) pos.line X.env = pure false := by rfl) (hk : ks.length = 2 := by rfl) :
    SS X B ok (.Assign [.Tuple [.Name x px, .Name y py] kt pt] (.Tuple [a, b] k2 pt2) pos) (sPar [i, j] ks fs) := by
  obtain ⟨t, pa, k⟩ := ha.ex
  refine ⟨_, ps_par hc hN hi hj hij hx hy pa hw hs, fun σ H G ρ D r q => k σ H G ρ _ r ((ofR_sat q).imp fun x qx vs as H1 G1 na s1 r1 t1 => ?_)⟩
  obtain ⟨hl, qx⟩ := ofIte_sat qx
  have hv : vs.length = 2 := by
    have : ∀ {ks vs ds as}, KAll X.K B G1 H1 σ x.2 ks vs ds as → vs.length = ks.length := fun h => by
      induction h with
      | nil => rfl
      | sh _ _ ih => simp [ih]
      | ow _ _ _ ih => simp [ih]
    rw [this t1, hk]
  match vs, hv with
  | [u, v], _ => exact ⟨u, v, rfl, qx _ H1 G1 s1.sub (t1.set (is := [i, j]) (by rw [hk]; rfl) r1)⟩
theorem ss_par3 {z : Str} (i j l : Nat) {px py pz pt : Pos} {kt k2 pt2} (hc : X.calm = true) (hN : X.N.Nodup) (ha : EK X B ok [a, b, c] ks fs) (hi : X.N[i]? = some x := by rfl) (hj : X.N[j]? = some y := by rfl) (hl : X.N[l]? = some z := by rfl) (hij : i ≠ j := by decide) (hil : i ≠ l := by decide) (hjl : j ≠ l := by decide)
    (hx : X.env.scope.names.lookup x = some .local := by rfl) (hy : X.env.scope.names.lookup y = some .local := by rfl) (hz : X.env.scope.names.lookup z = some .local := by rfl)
    (hw : swappedStores [.Tuple [.Name x px, .Name y py, .Name z pz] kt pt] (.Tuple [a, b, c] k2 pt2) X.env = pure (some [x, y, z]) := by rfl)
    (hs : swapsWithSole [.Tuple [.Name x px, .Name y py, .Name z pz] kt pt] (.Tuple [a, b, c] k2 pt2) pos.line X.env = pure false := by rfl) (hk : ks.length = 3 := by rfl) :
    SS X B ok (.Assign [.Tuple [.Name x px, .Name y py, .Name z pz] kt pt] (.Tuple [a, b, c] k2 pt2) pos) (sPar [i, j, l] ks fs) := by
  obtain ⟨t, pa, k⟩ := ha.ex
  refine ⟨_, L2.ps_par3 hc hN hi hj hl hij hil hjl hx hy hz pa hw hs, fun σ H G ρ D r q => k σ H G ρ _ r ((ofR_sat q).imp fun x qx vs as H1 G1 na s1 r1 t1 => ?_)⟩
  obtain ⟨_, qx⟩ := ofIte_sat qx
  have hv : vs.length = 3 := by
    have : ∀ {ks vs ds as}, KAll X.K B G1 H1 σ x.2 ks vs ds as → vs.length = ks.length := fun h => by
      induction h with
      | nil => rfl
      | sh _ _ ih => simp [ih]
      | ow _ _ _ ih => simp [ih]
    rw [this t1, hk]
  match vs, hv with
  | [u, v, w], _ => exact ⟨u, v, w, rfl, qx _ H1 G1 s1.sub (t1.set (is := [i, j, l]) (by rw [hk]; rfl) r1)⟩
/-! ### enumerate -/
def enumD (n : Nat) : List PyData → List PyData
  | [] => []
  | d :: ds => .tuple [.int n, d] :: enumD (n + 1) ds
theorem enumD_get : ∀ {ds : List PyData} {n i : Nat} {d : PyData}, (enumD n ds)[i]? = some d → ∃ d0, ds[i]? = some d0 ∧ d = .tuple [.int ((n + i : Nat) : Int), d0]
  | [], _, _, _, h => by simp [enumD] at h
  | d0 :: ds, n, 0, d, h => by
    simp [enumD] at h
    exact ⟨d0, rfl, by rw [← h]; simp⟩
  | d0 :: ds, n, i + 1, d, h => by
    obtain ⟨d1, h1, h2⟩ := enumD_get (ds := ds) (n := n + 1) (i := i) (by simpa [enumD] using h)
    exact ⟨d1, by simpa using h1, by rw [h2]; congr 3; omega⟩
theorem enumD_len : ∀ (ds : List PyData) (n : Nat), (enumD n ds).length = ds.length
  | [], _ => rfl
  | _ :: ds, n => by simp [enumD, enumD_len ds]
def lstOf : List PyData → Option (List PyData)
  | [.list ds] => some ds
  | _ => none
def fEnum (fs : AF) : AF := fun ρ => (fs ρ).bind fun x => (ofO (lstOf x.1)).bind fun ds => .ok (enumD 0 ds, x.2)
theorem ei_enum {elts : List Expr} {kk : Nat} (hm : X.mg "enumerate" = none) (h : EA X B ok [e] fs) (hg : Gl X "enumerate" := by rfl) (hs : starEach [e] X.env = [(false, eval e X.env)] := by rfl) : EI X B ok (.Tuple elts kk tpos) (.Call (.Name "enumerate" p) [e] [] pos) (fEnum fs) := by
  obtain ⟨t, pa, k⟩ := h.ex
  refine ⟨_, pi_enum hg hm pa hs, fun σ H G ρ W r q => k σ H G ρ _ r ((R.sat_bind q).imp fun x qx vs H1 G1 s1 r1 t1 => ?_)⟩
  obtain ⟨ds, ed, qd⟩ := ofO_sat (R.sat_bind qx)
  have ex : x.1 = [.list ds] := by
    unfold lstOf at ed
    split at ed
    · cases ed; assumption
    · cases ed
  rw [ex] at t1
  cases t1 with | cons t0 tn =>
  cases tn
  cases t0 with | lst hr ta =>
  rename_i a xs
  refine ⟨a, xs, rfl, .inl (r1.subG.rd hr), qd _ H1 G1 s1 r1 ⟨fun i d G2 H2 hi s2 h2 => ?_, fun i G2 H2 hi s2 h2 => ?_⟩⟩
  · obtain ⟨d0, e0, rfl⟩ := enumD_get hi
    obtain ⟨v, ev, tv⟩ := ta.get e0
    have hL : SqL X.K H2 a xs := .inl ((sub_of h2).rd (s2.rd hr))
    refine ⟨⟨xs, v, hL, ev⟩, fun y H3 hy => ?_⟩
    obtain ⟨tt, z, rfl, hn, rfl, hz⟩ := hy
    have e2 := hz xs hL
    rw [ev] at e2; cases e2
    have g : Grow B.T [] G2 H2 (upd G2 tt (.tup [.int (i : Nat), v])) (upd H2 tt (.tup [.int (i : Nat), v])) := Grow.new h2 hn (fun _ z => nomatch z)
    refine ⟨_, g, .tup (.inl upd_same) (.cons ?_ (.cons ((tv.mono s2).mono g.gm) .nil))⟩
    rw [Nat.zero_add]
    exact .int _
  · rw [enumD_len] at hi
    exact ⟨xs, .inl ((sub_of h2).rd (s2.rd hr)), by rw [ta.length]; exact hi⟩
end
end Y


/-! YEnum: enumerate of a tuple. -/
namespace PySem
open Sem (wp)
open AutoSeq1 (wpAny_loadPart')
theorem meets_enumerate_newT (l : Addr) (items : Array Value) (n : Nat) (dct : Option Addr) (sl : Array (Option Value)) :
    Meets (Builtin.«enumerate.__new__» ⟨[.type "enumerate", .ref l], []⟩) (fun _ R s => s.heap.get? l = some { cls := .type "tuple", dict := dct, data := .seq items n, slots := sl } ∧
      R (.ok (.ret (.ref (s.heap.push { cls := .type "tuple_iterator", data := .fields #[.ref l, .int 0 0] }).objs.size)))
        { s with heap := (s.heap.push { cls := .type "tuple_iterator", data := .fields #[.ref l, .int 0 0] }).push { cls := .type "enumerate", data := .fields #[.none, .bool false, .ref s.heap.objs.size, rawInt 0, .none, .none] } }) :=
  .of_wp fun prog w A R s h => by
    obtain ⟨hp, g, d, tk, os⟩ := s; obtain ⟨hl, h⟩ := h
    have hsub := sub_enumerate
    have hL : Heap.IsTuple (Shared.heap ⟨hp, g, d, tk, os⟩) l items := ⟨_, hl, rfl, n, rfl⟩
    wp_walk using wpAny_loadPart' hl
    refine wpAny_stack_any fun st => wpAny_pure ?_
    split
    · rename_i c _ _ _ _ _
      cases (c == Value.type "enumerate")
      · wp_walk using wpAny_loadPart' hl, wpAny_pyIter_tuple hL
        exact ⟨_, rfl, h⟩
      · wp_walk using wpAny_loadPart' hl, wpAny_pyIter_tuple hL
        exact ⟨_, rfl, h⟩
    · wp_walk using wpAny_loadPart' hl, wpAny_pyIter_tuple hL
      exact ⟨_, rfl, h⟩
section
variable {prog : Program} {w : World} {A : Around} {E : Value → Shared → Prop} {s : Shared}
theorem call_enumerate_tup {l : Addr} {items : Array Value} {Q : Value → Shared → Prop} (hL : s.heap.IsTuple l items)
    (h : ∀ h', IsEnum h' (s.heap.objs.size + 1) s.heap.objs.size 0 .none → h'.IsTupleIter s.heap.objs.size l 0 → h'.objs.size = s.heap.objs.size + 2 →
      (∀ b o, s.heap.get? b = some o → h'.get? b = some o) → Q (.ref (s.heap.objs.size + 1)) { s with heap := h' }) :
    wpAny (model prog w) A (call (.type "enumerate") [.ref l]) Q E s := by
  obtain ⟨⟨c, dct, dt, sl⟩, hl, hc, n, hd⟩ := hL
  replace hc : c = .type "tuple" := hc
  replace hd : dt = .seq items n := hd
  subst hc hd
  refine callType_new F.called_enumerate (by decide) (F.typeCall_enumerate_1 _) (F.newCall_enumerate_1 _) (fun obj => F.args_object_init_2 obj _) F.entry_enumerate_new
    (meets_enumerate_newT l items n dct sl) ⟨hl, ?_⟩
  have hz : (s.heap.push { cls := .type "tuple_iterator", data := .fields #[.ref l, .int 0 0] }).objs.size = s.heap.objs.size + 1 := Heap.size_push ..
  show _ ∧ _
  rw [hz]
  have he : IsEnum ((s.heap.push { cls := .type "tuple_iterator", data := .fields #[.ref l, .int 0 0] }).push
      { cls := .type "enumerate", data := .fields #[.none, .bool false, .ref s.heap.objs.size, rawInt 0, .none, .none] }) (s.heap.objs.size + 1) s.heap.objs.size 0 .none := by
    have := Heap.get?_push_size (s.heap.push { cls := .type "tuple_iterator", data := .fields #[.ref l, .int 0 0] })
      (o := { cls := .type "enumerate", data := .fields #[.none, .bool false, .ref s.heap.objs.size, rawInt 0, .none, .none] }) rfl
    rw [hz] at this; exact this
  refine ⟨⟨_, he, rfl⟩, h _ he ⟨_, Heap.get?_push_of_some _ (Heap.get?_push_size _ rfl), rfl, rfl⟩ (by rw [Heap.size_push, hz]) fun b o x => Heap.get?_push_of_some _ (Heap.get?_push_of_some _ x)⟩
end
end PySem
namespace L2
open PySem PySem.Spec PyProof.Rows
/-- the tuple at a, each item in a new pair -/
def Itet (K : PySem.W.Frag) (a : Addr) : It :=
  ⟨fun i H => ∃ (xs : List V) (x : V), SqT K H a xs ∧ xs[i]? = some x, fun i H v H' => ∃ T x, v = .ref T ∧ H T = none ∧ H' = upd H T (.tup [.int (i : Nat), x]) ∧ ∀ xs, SqT K H a xs → xs[i]? = some x, fun i H => ∃ xs : List V, SqT K H a xs ∧ xs.length ≤ i⟩
theorem turn_enumT {P : Program} {w : World} {K : PySem.W.Frag} {elts : List Expr} {kk : Nat} {tpos : Pos} (a e it : Addr) (ha : a ≠ it) (hae : e ≠ a) :
    Turn P w K (.Tuple elts kk tpos) (Itet K a) [e, it] e (fun i h => (∃ old, IsEnum h e it ((i : Nat) : Int) old) ∧ h.IsTupleIter it a i ∧ e ≠ it) where
  mem := by simp
  obj := fun i h st b hb => by
    obtain ⟨⟨old, he⟩, ⟨o, ho, hc, hd⟩, _⟩ := st
    have e' : b = e ∨ b = it := by simpa using hb
    rcases e' with z | z
    · rw [z]; exact ⟨_, he, fun v q => nomatch q⟩
    · rw [z]; exact ⟨o, ho, fun v q => by rw [hd] at q; cases q⟩
  keep := fun i h h' st k => let ⟨⟨old, he⟩, hi, hne⟩ := st; ⟨⟨old, k e (by simp) _ he⟩, hi.at fun o q => k it (by simp) o q, hne⟩
  item := by
    intro X hP hw hK hc i pins s σ H E I hf st hg
    subst hP hw hK
    obtain ⟨⟨old, he⟩, hit, hne⟩ := st
    obtain ⟨xs, x, hq, hx⟩ := hg
    obtain ⟨its, rv, p, hz⟩ := I.tuple hq
    obtain ⟨u, hu, ru⟩ := rv.get hx
    have hel : e < s.heap.objs.size := Heap.lt_size he
    have hil : it < s.heap.objs.size := by obtain ⟨_, q, _⟩ := hit; exact Heap.lt_size q
    have pT : s.heap.IsTuple a its.toArray := p
    have hlt : i < its.toArray.size := by
      obtain ⟨h1, _⟩ := List.getElem?_eq_some_iff.mp hu
      simpa using h1
    refine wpAny_pyNext_enum_itemD (Draws.tuple (prog := X.prog) (w := X.w) (A := X.A.in1) (show X.A.in1.handled = none from I.ok.hd hc) it a ha its.toArray) he ⟨hit, pT⟩ hlt hne (by intro z; rcases List.mem_cons.mp z with z | z; exact hne z; exact hae (List.mem_singleton.mp z)) fun x2 h' tk hP ho st' hT hsz hk => ?_
    obtain ⟨hit', _⟩ := st'
    have ex : x2 = u := by
      have h1 : its.toArray[i]? = some x2 := hP
      have h2 : its.toArray[i]? = some u := by simpa using hu
      rw [h1] at h2; exact Option.some.inj h2
    subst ex
    refine ⟨_, rfl, wpAny_letOwnedTupleGo_enum (s := { s with heap := h', toks := tk + 1 }) ho fun h'' he' sb => ?_⟩
    have hT2 : h''.get? s.heap.objs.size = some { cls := .type "tuple", data := .seq #[.int i tk, x2] } := (sb.2 _ (Nat.ne_of_gt hel)).trans hT
    have new : ObjOk X.prog X.w (upd H s.heap.objs.size (.tup [.int (i : Nat), x])) h'' s.heap.objs.size (.tup [.int (i : Nat), x]) :=
      ⟨by show 2 ≤ sizeLine; decide, [.int i tk, x2], .cons ⟨_, rfl⟩ (.cons ru .nil), ⟨_, hT2, rfl, _, rfl⟩⟩
    have I1 : Inv X pins σ (upd H s.heap.objs.size (.tup [.int (i : Nat), x])) { s with heap := h'', toks := tk + 1 } :=
      I.turnedNew (ch := [e, it]) (fun b ob hb q => (sb.2 b (fun z => hb (by simp [z]))).trans (hk b ob (fun z => hb (by simp [z])) (fun z => hb (by simp [z])) q)) hf (Nat.le_refl _) new
    refine ⟨.ref s.heap.objs.size, _, I1, rfl, ⟨_, x, rfl, I.hok.fresh (Nat.le_refl _), rfl, fun ys hy => by rw [I.tuple_inj hy hq]; exact hx⟩, ⟨⟨x2, ?_⟩, hit'.at fun o q => (sb.2 it (Ne.symm hne)).trans q, hne⟩, fun b hb => ?_⟩
    · have e1 : ((i + 1 : Nat) : Int) = (i : Int) + 1 := by omega
      rw [e1]; exact he'
    · have hb' : b < s.heap.objs.size := by
        have e' : b = e ∨ b = it := by simpa using hb
        rcases e' with z | z
        · rw [z]; exact hel
        · rw [z]; exact hil
      rw [upd_ne (Nat.ne_of_lt hb')]
      exact (hf b hb).1
  done := by
    intro X hP hw hK hc i pins s σ H E I hf st hg
    subst hP hw hK
    obtain ⟨⟨old, he⟩, hit, hne⟩ := st
    obtain ⟨xs, hq, hx⟩ := hg
    obtain ⟨its, rv, p, hz⟩ := I.tuple hq
    obtain ⟨f0, f1, f2, f3, f4, f5⟩ := hf it (by simp)
    have hl := rv.length
    have pT : s.heap.IsTuple a its.toArray := p
    have hTy : s.TypeIs (.ref e) "enumerate" := ⟨_, he, rfl⟩
    unfold pyNext
    refine wpAny_bind (wpAny_attempt (wpAny_callSpecial?_slot (name := Str.ofString "__next__") hTy F.slot_enumerate_next
      (wpAny_call_entry F.slot_enumerate_next hTy F.entry_enumerate_next ?_ (F.args_enumerate_next_1 _))))
    show wpAny _ _ (field (.ref e) 2 >>= _) _ _ _
    refine wpAny_bind (wpAny_field he rfl (x := .ref it) rfl ?_)
    refine wpAny_bind (PySem.wpAny_nextOf_tuple_end (I.ok.hd hc) hit pT (by simp; omega) fun h' x he' hx' => ?_)
    obtain ⟨o, ho, hcc⟩ := hx'
    refine wpAny_bind (wpAny_isInstance (T := "StopIteration") (b := true) ⟨o, ho, hcc⟩ isSubtype_stop ?_)
    exact wpAny_pure ⟨rfl, I.turned (t' := s.toks) (fun b o hb q => he' b o hb q) f0 f1 f3 f4 f5⟩
  self := fun A i s Q E st h => let ⟨⟨_, he⟩, _⟩ := st; wpAny_pyIter_enum he h
def iEnumT (K : PySem.W.Frag) (ta : TA) : TI := fun σ H R => ta σ H fun vs H1 => ∃ a xs, vs = [.ref a] ∧ SqT K H1 a xs ∧ R (Itet K a) H1
theorem pi_enumT {X : Cx} {e : Expr} {ta : TA} {p pos tpos : Pos} {elts : List Expr} {kk : Nat} (hg : Gl X "enumerate") (hm : X.mg "enumerate" = none) (ha : PA X [e] ta) (hs : starEach [e] X.env = [(false, eval e X.env)] := by rfl) :
    PI X (.Tuple elts kk tpos) (.Call (.Name "enumerate" p) [e] [] pos) (iEnumT X.K ta) := by
  refine ⟨fun pins s σ H R I h => ?_⟩
  refine Call_ (ld_blt I hg hm boot_enumerate (PyProof.Rows.callWith_type1 (thn (ha.run pos pins s σ H _ I h) fun us s1 ⟨vs, H1, I1, r1, q1⟩ => ?_) hs rfl))
  obtain ⟨a, xs, ex, hq, q⟩ := q1
  subst ex
  cases r1 with
  | cons r rr =>
    cases rr
    cases r
    obtain ⟨its, rv, p', hz⟩ := I1.tuple hq
    have pT : s1.heap.IsTuple a its.toArray := p'
    have hal : a < s1.heap.objs.size := by obtain ⟨o, ho, _⟩ := pT; exact Heap.lt_size ho
    refine PySem.call_enumerate_tup pT fun h' he hit hsz hk => wpAny_pyIter_enum he ?_
    have I2 : Inv X pins σ H1 { s1 with heap := h' } := I1.kept (t' := s1.toks) hk
    refine ⟨s1.heap.objs.size + 1, [s1.heap.objs.size + 1, s1.heap.objs.size], _, _, H1, rfl, I2, turn_enumT a (s1.heap.objs.size + 1) s1.heap.objs.size (Nat.ne_of_lt hal) (by have := hal; exact Nat.ne_of_gt (Nat.lt_succ_of_lt hal)), ⟨⟨.none, he⟩, hit, Nat.succ_ne_self _⟩, fun b hb => ?_, q⟩
    have e' : b = s1.heap.objs.size + 1 ∨ b = s1.heap.objs.size := by simpa using hb
    have hle : s1.heap.objs.size ≤ b := by
      rcases e' with z | z
      · rw [z]; exact Nat.le_add_right _ _
      · rw [z]; exact Nat.le_refl _
    exact I1.fpOk hle (I1.hok.fresh hle)
end L2
namespace Y
open PySem PySem.Spec PyProof.Rows L2
section
variable {X : Cx} {B : Ent} {ok : OkX} {e : Expr} {fs : AF} {p pos tpos : Pos}
def seqOf : List PyData → Option (List PyData)
  | [.list ds] => some ds
  | [.tuple ds] => some ds
  | _ => none
def fEnum2 (fs : AF) : AF := fun ρ => (fs ρ).bind fun x => (ofO (seqOf x.1)).bind fun ds => .ok (enumD 0 ds, x.2)
/-- enumerate of a list or of a tuple -/
theorem ei_enum2 {elts : List Expr} {kk : Nat} (hm : X.mg "enumerate" = none) (h : EA X B ok [e] fs) (hg : Gl X "enumerate" := by rfl) (hs : starEach [e] X.env = [(false, eval e X.env)] := by rfl) : EI X B ok (.Tuple elts kk tpos) (.Call (.Name "enumerate" p) [e] [] pos) (fEnum2 fs) := by
  obtain ⟨t, pa, k⟩ := h.ex
  refine ⟨_, piOr (pi_enum hg hm pa hs) (pi_enumT hg hm pa hs), fun σ H G ρ W r q => ?_⟩
  have q := R.sat_bind (r := fs ρ) (f := fun x => (ofO (seqOf x.1)).bind fun ds => R.ok (enumD 0 ds, x.2)) q
  cases ef : fs ρ with
  | er c d => rw [ef] at q; exact .inl (k σ H G ρ _ r (by rw [ef]; exact q))
  | no => rw [ef] at q; exact q.elim
  | ok y =>
    rw [ef] at q
    obtain ⟨ds, ed, qd⟩ := ofO_sat (R.sat_bind (r := ofO (seqOf y.1)) (f := fun ds => R.ok (enumD 0 ds, y.2)) q)
    obtain ⟨xs0, ρ1⟩ := y
    unfold seqOf at ed
    split at ed
    · rename_i ds0 hx
      dsimp only at hx
      subst hx
      cases ed
      refine .inl (k σ H G ρ _ r ?_)
      rw [ef]
      intro vs H1 G1 s1 r1 t1
      cases t1 with | cons t0 tn =>
      cases tn
      cases t0 with | lst hr ta =>
      rename_i a xs
      refine ⟨a, xs, rfl, .inl (r1.subG.rd hr), qd _ H1 G1 s1 r1 ⟨fun i d G2 H2 hi s2 h2 => ?_, fun i G2 H2 hi s2 h2 => ?_⟩⟩
      · obtain ⟨d0, e0, rfl⟩ := enumD_get hi
        obtain ⟨v, ev, tv⟩ := ta.get e0
        have hL : SqL X.K H2 a xs := .inl ((sub_of h2).rd (s2.rd hr))
        refine ⟨⟨xs, v, hL, ev⟩, fun y H3 hy => ?_⟩
        obtain ⟨tt, z, rfl, hn, rfl, hz⟩ := hy
        have e2 := hz xs hL
        rw [ev] at e2; cases e2
        have g : Grow B.T [] G2 H2 (upd G2 tt (.tup [.int (i : Nat), v])) (upd H2 tt (.tup [.int (i : Nat), v])) := Grow.new h2 hn (fun _ z => nomatch z)
        refine ⟨_, g, .tup (.inl upd_same) (.cons ?_ (.cons ((tv.mono s2).mono g.gm) .nil))⟩
        rw [Nat.zero_add]
        exact .int _
      · rw [enumD_len] at hi
        exact ⟨xs, .inl ((sub_of h2).rd (s2.rd hr)), by rw [ta.length]; exact hi⟩
    · rename_i ds0 hx
      dsimp only at hx
      subst hx
      cases ed
      refine .inr (k σ H G ρ _ r ?_)
      rw [ef]
      intro vs H1 G1 s1 r1 t1
      cases t1 with | cons t0 tn =>
      cases tn
      cases t0 with | tup hr ta =>
      rename_i a xs
      refine ⟨a, xs, rfl, sqt (r1.subG.rd hr), qd _ H1 G1 s1 r1 ⟨fun i d G2 H2 hi s2 h2 => ?_, fun i G2 H2 hi s2 h2 => ?_⟩⟩
      · obtain ⟨d0, e0, rfl⟩ := enumD_get hi
        obtain ⟨v, ev, tv⟩ := ta.get e0
        have hL : SqT X.K H2 a xs := sqt ((sub_of h2).rd (s2.rd hr))
        refine ⟨⟨xs, v, hL, ev⟩, fun y H3 hy => ?_⟩
        obtain ⟨tt, z, rfl, hn, rfl, hz⟩ := hy
        have e2 := hz xs hL
        rw [ev] at e2; cases e2
        have g : Grow B.T [] G2 H2 (upd G2 tt (.tup [.int (i : Nat), v])) (upd H2 tt (.tup [.int (i : Nat), v])) := Grow.new h2 hn (fun _ z => nomatch z)
        refine ⟨_, g, .tup (.inl upd_same) (.cons ?_ (.cons ((tv.mono s2).mono g.gm) .nil))⟩
        rw [Nat.zero_add]
        exact .int _
      · rw [enumD_len] at hi
        exact ⟨xs, sqt ((sub_of h2).rd (s2.rd hr)), by rw [ta.length]; exact hi⟩
    · cases ed
end
end Y


/-! YTry: errors caught, held and read. -/
namespace L2
open PySem PySem.Spec PyProof.Rows
section
variable {X : Cx} {pins : List (Addr × Obj)} {σ : St} {H : Hp} {s : Shared}
/-- a caught exception is tracked from here on -/
theorem Inv.trackE {a dx : Addr} {cls : Value} {oe : Obj} {vs : Array Value} (I : Inv X pins σ H s) (e : s.heap.get? a = some oe) (z : Zc cls (some dx) oe) (d : oe.data = .fields vs) (h0 : X.s_0.heap.get? a = none ∨ a ∈ X.ex) (hn : H a = none) (nL : a ≠ X.env.locals)
    (np : ∀ p ∈ X.pn ++ pins, p.1 ≠ a) : Inv X pins σ (upd H a (Y.ExF a cls dx)) s where
  ok := I.ok
  os := I.os
  bare := I.bare
  base := ⟨I.base.keep, I.base.slot, fun b o q n hx => by
      have hne : b ≠ a := fun z => by
        rcases h0 with h0 | h0
        · rw [z, h0] at q; cases q
        · exact hx (z ▸ h0)
      rw [upd_ne hne]; exact I.base.free b o q n hx, I.base.there,
    fun b xs q => by rw [upd_ne (ne_of_none (I.base.tups b xs q) hn)]; exact I.base.tups b xs q, fun b o u q => by rw [upd_ne (ne_of_none (I.base.frzs b o u q) hn)]; exact I.base.frzs b o u q,
    fun b ps q => by
      obtain ⟨m, w⟩ := I.base.tbls b ps q
      exact ⟨m, by rw [upd_ne (ne_of_none w hn)]; exact w⟩⟩
  loc := I.loc
  cell := I.cell
  free := by rw [upd_ne (Ne.symm nL)]; exact I.free
  freeC := fun x c q => by
    have hc : c ≠ a := fun w => by
      obtain ⟨v, o, h1, h2⟩ := I.cell x c q
      rw [w, e] at h1; cases h1
      rw [d] at h2; cases h2
    rw [upd_ne hc]; exact I.freeC x c q
  pin := fun p hp => by
    obtain ⟨p1, p2, p3⟩ := I.pin p hp
    exact ⟨p1, by rw [upd_ne (np p hp)]; exact p2, p3⟩
  hok := I.hok.laidN (fun b u q => q) hn (Y.exF_ok e z d)
  len := I.len
theorem Inv.suiteT {pins : List (Addr × Obj)} {a : Addr} (I : Inv X pins σ H s) : Inv (X.suite a (X.pn ++ pins)) [] σ H s :=
  ⟨I.ok.suite _ _, I.os, I.bare, I.base, I.loc, I.cell, I.free, I.freeC, fun p hp => I.pin p (by simpa using hp), I.hok, I.len⟩
theorem Inv.unsuiteT {a : Addr} {pn' : List (Addr × Obj)} (I : Inv (X.suite a (X.pn ++ pins)) pn' σ H s) (ok : X.Ok) : Inv X pins σ H s :=
  ⟨ok, I.os, I.bare, I.base, I.loc, I.cell, I.free, I.freeC, fun p hp => I.pin p (List.mem_append_left _ hp), I.hok, I.len⟩
end
abbrev TSu := Addr → Value → Addr → TS
/-- the end of a suite: its name goes -/
def Ends.as (o : Option Nat) (D : Ends) : Ends := match o with
  | none => D
  | some i => { nx := fun σ' H' => D.nx (σ'.set i none) H', rt := D.rt, bk := fun σ' H' => D.bk (σ'.set i none) H', ct := fun σ' H' => D.ct (σ'.set i none) H' }
def asSt (o : Option Nat) (σ : St) (v : V) : St := match o with
  | none => σ
  | some i => σ.set i (some v)
/-- what the clauses wish of an exception of the body, one after the other -/
def wManyA (K : PySem.W.Frag) (Wout : WX) (D : Ends) : List (List Value × Option Nat × TSu) → WX
  | [] => Wout
  | (cs, oi, ts) :: r => fun cls d σ H => ∃ b, PySem.W.exmAny K cls cs = some b ∧ (b = true → ∃ dx, d = some dx ∧ ∀ a, H a = none → ts a cls dx (D.as oi) (asSt oi σ (.ref a)) (upd H a (Y.ExF a cls dx))) ∧ (b = false → wManyA K Wout D r cls d σ H)
/-- the name of a clause -/
def AsOk (X : Cx) : Option Str → Option Nat → Prop
  | none, none => True
  | some n, some i => X.N[i]? = some n ∧ X.env.kindOf n = some .local
  | _, _ => False
/-- what a clause names: one class, or some in a tuple -/
inductive TyE (X : Cx) : Expr → List Value → Prop
  | one {x : Str} {c : Value} {p : Pos} (h : Names X x c) : TyE X (.Name x p) [c]
  | two {x y : Str} {c d : Value} {p q pos : Pos} {k : Nat} (h : Names X x c) (h' : Names X y d) : TyE X (.Tuple [.Name x p, .Name y q] k pos) [c, d]
  | three {x y z : Str} {c d e : Value} {p q r pos : Pos} {k : Nat} (h : Names X x c) (h' : Names X y d) (h'' : Names X z e) : TyE X (.Tuple [.Name x p, .Name y q, .Name z r] k pos) [c, d, e]
theorem TyE.test {X : Cx} {te : Expr} {cs : List Value} {cls : Value} {b : Bool} {a : Addr} {pn : List (Addr × Obj)} {σ : St} {H : Hp} {s : Shared} {Q : Value → Shared → Prop} {E : Value → Shared → Prop} (t : TyE X te cs) (S : Inv (X.suite a pn) [] σ H s)
    (hx : PySem.W.exmAny X.K cls cs = some b) (KI : X.K.In s.heap) (LT : PySem.W.Looks (model X.prog X.w) s.heap (typeOf (.ref a)) cls)
    (k : ∀ c h', (∀ b o, s.heap.get? b = some o → h'.get? b = some o) → PySem.W.Looks (model X.prog X.w) h' (excMatches (.ref a) c) b → Q c { s with heap := h' }) :
    wpAny (model X.prog X.w) (X.A.mark (some (.ref a))) (eval te X.env) Q E s := by
  have nm : ∀ {x : Str} {c : Value} {np : Pos} {Q : Value → Shared → Prop}, Names X x c → Q c s → wpAny (model X.prog X.w) (X.A.mark (some (.ref a))) (eval (.Name x np) X.env) Q E s := fun {x c np Q} hc q => by
    obtain ⟨hg, hdbg, hm | ⟨hm, hv, hnn⟩⟩ := hc
    · exact ld_glob (X := X.suite a pn) S hg hm q hdbg
    · exact ld_blt (X := X.suite a pn) S hg hm hv q hnn hdbg
  cases t with
  | @one x c p h =>
    obtain ⟨b1, d1, x1, y1, z1⟩ := PySem.W.exmAny_cons hx
    have w1 : some false = some d1 := y1
    cases w1
    rw [Bool.or_false] at z1
    subst z1
    exact nm h (k _ s.heap (fun _ _ e => e) (PySem.W.exm_one KI LT x1))
  | @two x y c d p q pos k0 h h' =>
    refine Tuple_ (spliced_more (nm h (spliced_more (nm h' (spliced_none ?_)))))
    have kp : ∀ b o, s.heap.get? b = some o → (s.heap.push { cls := .type "tuple", data := .seq [c, d].toArray }).get? b = some o := fun b o e => Heap.get?_push_of_some _ e
    exact wpAny_newObj_type (k _ _ kp (PySem.W.exm_tup2 (KI.keeps kp) (LT.keeps kp) (Heap.get?_push_size _ rfl) hx))
  | @three x y z c d e p q r pos k0 h h' h'' =>
    refine Tuple_ (spliced_more (nm h (spliced_more (nm h' (spliced_more (nm h'' (spliced_none ?_)))))))
    have kp : ∀ b o, s.heap.get? b = some o → (s.heap.push { cls := .type "tuple", data := .seq [c, d, e].toArray }).get? b = some o := fun b o e0 => Heap.get?_push_of_some _ e0
    exact wpAny_newObj_type (k _ _ kp (PySem.W.exm_tup3 (KI.keeps kp) (LT.keeps kp) (Heap.get?_push_size _ rfl) hx))
theorem flyingZ_keeps {B h h' : Heap} {l : List Env} {e : Addr} {Z : Obj → Prop} (R : HandSPX.FlyingZ B l e Z h) (k : ∀ b o, h.get? b = some o → h'.get? b = some o) : HandSPX.FlyingZ B l e Z h' := by
  obtain ⟨f1, f2, f3, oe, vs, T, oT, ts, he, hz, hd, h1, hn, hne, hT, hdT, h3⟩ := R
  exact ⟨fun b o q => k b o (f1 b o q), f2, f3.of_keeps fun b o q _ => ⟨o, k b o q, rfl⟩, oe, vs, T, oT, ts, k _ _ he, hz, hd, h1, hn, hne, k _ _ hT, hdT, h3⟩
inductive HdsA (X : Cx) : List ExceptHandler → List (List Value × Option Nat × TSu) → Prop
  | nil : HdsA X [] []
  | cons {te : Expr} {n : Option Str} {cs : List Value} {oi : Option Nat} {ts : TSu} {b₀ : Stmt} {suite : List Stmt} {pos' : Pos} {hds : List ExceptHandler} {l : List (List Value × Option Nat × TSu)} (hc : TyE X te cs) (hn : AsOk X n oi)
      (hsu : ∀ (a : Addr) (cls : Value) (dx : Addr) (pn : List (Addr × Obj)), PSs (X.suite a pn) (b₀ :: suite) (ts a cls dx)) (r : HdsA X hds l) :
      HdsA X (.ExceptHandler (some te) n (b₀ :: suite) pos' :: hds) ((cs, oi, ts) :: l)
section
variable {X : Cx} {body : List Stmt} {h₀ : ExceptHandler} {hds : List ExceptHandler} {l : List (List Value × Option Nat × TSu)} {pos : Pos} {tb : WX → TS} {Wout : WX}
theorem ps_try_manyA (hs : X.stack = X.env :: X.outer) (hf : X.env.frame = some X.env.locals) (hN : X.N.Nodup) (tk : Takes X Wout)
    (hb : ∀ (W : WX) (pn : List (Addr × Obj)) (xe : Value → Shared → Prop), Takes (X.tr pn xe) W → PassesOwn (model X.prog X.w) X.A X.env xe → PSs (X.tr pn xe) body (tb W))
    (hh : HdsA X (h₀ :: hds) l) : PS X (.Try body (h₀ :: hds) [] [] pos) (fun D σ H => tb (wManyA X.K Wout D l) D σ H) := by
  refine ⟨fun pins s σ H D I h => ?_⟩
  have ok := I.ok
  have hfr : X.A.frames = some (X.env :: X.outer) := by rw [ok.frames, hs]
  refine wpAny_Try_except ?_
  refine wpAny_mono ((hb (wManyA X.K Wout D l) (X.pn ++ pins) (fun u s₁ => wpAny (model X.prog X.w) X.A (noteFrame u X.env) (fun _ s₂ => wpAny (model X.prog X.w) X.A (setFlight u none) (fun _ s₃ =>
    wpAny (model X.prog X.w) X.A (handleBy u X.env (h₀ :: hds)) (SP X pins D) X.xe s₃) X.xe s₂) X.xe s₁) (fun u s' xx => ?_) PassesOwn.looking).run [] s σ H D (I.toTry _) h) (fun f s1 hsp => ?_) (fun e s1 he => he)
  · -- one is caught
    obtain ⟨a, Bh, sI, pins', σ', H', cls, d, rfl, J', nb, up, sky, na, os, ag, w⟩ := xx
    have J : Inv X pins σ' H' sI := J'.ofTry ok
    have sky' : Sky Bh (X.env :: X.outer) a (Zc cls d) X.env.locals s'.heap := by rw [← hs]; exact sky
    show wpAny (model X.prog X.w) X.A (noteFrame (.ref a) X.env) _ _ _
    refine Sky.land Zc.steady hfr hf sky' fun h3 fl3 up3 => ?_
    have go : ∀ {hds' : List ExceptHandler} {l' : List (List Value × Option Nat × TSu)}, HdsA X hds' l' → ∀ h3, HandSPX.FlyingZ Bh (X.env :: X.outer) a (Zc cls d) h3 → s'.heap.UpToSlots h3 → wManyA X.K Wout D l' cls d σ' H' →
        wpAny (model X.prog X.w) X.A (handleBy (.ref a) X.env hds') (SP X pins D) X.xe { s' with heap := h3 } := by
      intro hds' l' hk
      induction hk with
      | nil =>
        intro h3 fl3 up3 w
        refine wpAny_handleBy_nil ?_
        obtain ⟨k1, k2, k3, oe, vs, T, oT, ts', he, hz, hd, h1, hr⟩ := id fl3
        unfold PySem.passOn
        refine wpAny_bind (wpAny_field he hd h1 ?_)
        rw [if_neg (show ¬ ((Value.ref T == Value.none) = true) from by simp)]
        have fin : wpAny (model X.prog X.w) X.A (setFlight (.ref a) X.env.frame) (fun _ s4 => wpAny (model X.prog X.w) X.A (throw (.ref a) : Sem Flow) (SP X pins D) X.xe s4) X.xe { s' with heap := h3 } := by
          rw [hf]
          refine HandSPX.setFlight_upZ fl3 fun h4 hh4 up4 => wpAny_throw (tk _ _ ?_)
          exact ⟨a, Bh, sI, pins, σ', H', cls, d, rfl, J, nb, (up.trans up3).trans up4, .inr (.inr (by rw [hs]; exact hh4)), na, os, ag, w⟩
        first
          | exact wpAny_bind (wpAny_pure (wpAny_bind fin))
          | exact wpAny_bind fin
      | @cons te n cs oi ts b₀ suite pos' hds2 l2 hc hn hsu r ih =>
        intro h0 fl0 up0 w
        obtain ⟨b, hb1, hyes, hno⟩ := w
        refine wpAny_handleBy_cons (codeAny_handlers_test ?_) (by intro q; cases q)
        have J0 : Inv X pins σ' H' { s' with heap := h0 } := J.landed nb fl0.1 (up.trans up0) os ag
        obtain ⟨oe0, vs0, he0, hz0, hd0⟩ := fl0.there
        have nfr0 : a ∉ frs (X.env :: X.outer) := fun hm => by
          obtain ⟨_, o', e', hnf⟩ := (fl0.2.2.1).mem hm
          rw [he0] at e'; cases e'
          exact hnf _ hd0
        have nL0 : a ≠ X.env.locals := fun z => nfr0 (List.mem_filterMap.mpr ⟨X.env, List.mem_cons_self, by rw [hf, z]⟩)
        have nF0 : a ∉ X.fs := fun hm => by
          obtain ⟨e, he, q⟩ := List.mem_filterMap.mp hm
          exact nfr0 (List.mem_filterMap.mpr ⟨e, List.mem_cons_of_mem _ he, q⟩)
        have S0 := J0.suite he0 hd0 na nL0 nF0
        have LT : PySem.W.Looks (model X.prog X.w) h0 (typeOf (.ref a)) cls := fun A Q E s k q => wpAny_typeOf_ref (k _ _ he0) (by rw [hz0.1]; exact q)
        refine hc.test (cls := cls) (b := b) S0 hb1 J0.kIn LT fun cv h3 kp LM => ?_
        have fl3 := flyingZ_keeps fl0 kp
        have up3 : s'.heap.UpToSlots h3 := up0.trans (Heap.UpToSlots.of_keeps kp)
        have J3 : Inv X pins σ' H' { s' with heap := h3 } := J.landed nb fl3.1 (up.trans up3) os ag
        obtain ⟨oe3, vs3, he3, hz3, hd3⟩ := fl3.there
        have nfr : a ∉ frs (X.env :: X.outer) := fun hm => by
          obtain ⟨_, o', e', hnf⟩ := (fl3.2.2.1).mem hm
          rw [he3] at e'; cases e'
          exact hnf _ hd3
        have nL : a ≠ X.env.locals := fun z => nfr (List.mem_filterMap.mpr ⟨X.env, List.mem_cons_self, by rw [hf, z]⟩)
        have nF : a ∉ X.fs := fun hm => by
          obtain ⟨e, he, q⟩ := List.mem_filterMap.mp hm
          exact nfr (List.mem_filterMap.mpr ⟨e, List.mem_cons_of_mem _ he, q⟩)
        -- it is a new one
        have nI : sI.heap.get? a = none := by
          cases q : sI.heap.get? a with
          | none => rfl
          | some o =>
            have z := nb a o q (by rw [hs]; exact nfr)
            rw [fl3.2.1] at z; cases z
        have S3 := J3.suite he3 hd3 na nL nF
        refine LM.here ?_
        cases b with
        | true =>
          obtain ⟨dx, rfl, go2⟩ := hyes rfl
          -- the suite's state: the exception is tracked
          have suite_at : ∀ h4, HandSPX.FlyingZ Bh (X.env :: X.outer) a (Zc cls (some dx)) h4 → ({ s' with heap := h3 } : Shared).heap.UpToSlots h4 → Inv (X.suite a (X.pn ++ pins)) [] σ' (upd H' a (Y.ExF a cls dx)) { s' with heap := h4 } := fun h4 fl4 up4 => by
            have J4 : Inv X pins σ' H' { s' with heap := h4 } := J.landed nb fl4.1 ((up.trans up3).trans up4) os ag
            obtain ⟨oe4, vs4, he4, hz4, hd4⟩ := fl4.there
            have n0 : X.s_0.heap.get? a = none ∨ a ∈ X.ex := by
              cases q : X.s_0.heap.get? a with
              | none => exact .inl rfl
              | some o =>
                by_cases hx : a ∈ X.ex
                · exact .inr hx
                · obtain ⟨o', z⟩ := J.base.there a o q hx
                  rw [nI] at z; cases z
            exact (J4.trackE he4 hz4 hd4 n0 na nL fun p hp z => by
              obtain ⟨p1, _⟩ := J.pin p hp
              rw [z, nI] at p1; cases p1).suiteT
          cases n with
          | none =>
            cases oi with
            | some i => exact hn.elim
            | none =>
            refine codeAny_handlers_suite ?_
            refine HandSPX.lands_againZ fl3 fun h4 fl4 up4 => ?_
            refine wpAny_mono ((hsu a cls dx (X.pn ++ pins)).run [] _ _ _ D (suite_at h4 fl4 up4) (go2 a na)) (fun f s6 hsp => ?_) (fun _ _ z => False.elim z)
            cases f with
            | next =>
              obtain ⟨σ6, H6, S6, q6⟩ := hsp
              exact ⟨_, _, S6.unsuiteT ok, q6⟩
            | brk =>
              obtain ⟨σ6, H6, S6, q6⟩ := hsp
              exact ⟨_, _, S6.unsuiteT ok, q6⟩
            | cont =>
              obtain ⟨σ6, H6, S6, q6⟩ := hsp
              exact ⟨_, _, S6.unsuiteT ok, q6⟩
            | ret u =>
              obtain ⟨v6, σ6, H6, S6, r6, q6⟩ := hsp
              exact ⟨_, _, _, S6.unsuiteT ok, r6, q6⟩
          | some n =>
            cases oi with
            | none => exact hn.elim
            | some i =>
            obtain ⟨hi, hln⟩ := hn
            refine codeAny_handlers_suite_as ?_
            refine HandSPX.lands_againZ fl3 fun h4 fl4 up4 => ?_
            refine store_ok (X := X.suite a (X.pn ++ pins)) (v := .ref a) (suite_at h4 fl4 up4) hN hi (.inl hln) rfl (fun s5 S5 => ?_) (.inr hln)
            refine wpAny_mono ((hsu a cls dx (X.pn ++ pins)).run [] s5 _ _ (D.as (some i)) S5 (go2 a na)) (fun f s6 hsp => ?_) (fun _ _ z => False.elim z)
            have end_ : ∀ {σ6 : St} {H6 : Hp} {Q : Shared → Prop}, Inv (X.suite a (X.pn ++ pins)) [] σ6 H6 s6 → (∀ s7, Inv X pins (σ6.set i none) H6 s7 → Q s7) →
                wpAny (model X.prog X.w) X.A (do bindName X.env n .none; unbindBehindTheSuite X.env n pos') (fun _ s7 => Q s7) X.xe s6 := fun {σ6 H6 Q} S6 hq => gone_ok (S6.unsuiteT ok) hN hi hln hq
            cases f with
            | next =>
              obtain ⟨σ6, H6, S6, q6⟩ := hsp
              exact end_ S6 fun s7 J7 => ⟨_, _, J7, q6⟩
            | brk =>
              obtain ⟨σ6, H6, S6, q6⟩ := hsp
              exact end_ S6 fun s7 J7 => ⟨_, _, J7, q6⟩
            | cont =>
              obtain ⟨σ6, H6, S6, q6⟩ := hsp
              exact end_ S6 fun s7 J7 => ⟨_, _, J7, q6⟩
            | ret u =>
              obtain ⟨v6, σ6, H6, S6, r6, q6⟩ := hsp
              exact end_ S6 fun s7 J7 => ⟨_, _, _, J7, r6, q6⟩
        | false =>
          show wpAny _ X.A (handleBy (.ref a) X.env hds2) _ _ _
          exact ih h3 fl3 up3 (hno rfl)
    exact go hh h3 fl3 up3 w
  · cases f with
    | next =>
      obtain ⟨σ', H', J', q⟩ := hsp
      exact wpAny_execs_nil ⟨σ', H', J'.ofTry ok, q⟩
    | brk =>
      obtain ⟨σ', H', J', q⟩ := hsp
      exact ⟨σ', H', J'.ofTry ok, q⟩
    | cont =>
      obtain ⟨σ', H', J', q⟩ := hsp
      exact ⟨σ', H', J'.ofTry ok, q⟩
    | ret u =>
      obtain ⟨v, σ', H', J', r, q⟩ := hsp
      exact ⟨v, σ', H', J'.ofTry ok, r, q⟩
/-- err.f of a tracked exception -/
def tXfT (K : PySem.W.Frag) (f : Str) (te : TE) : TE := fun σ H Q => te σ H fun x H1 => ∃ (a C dx : Addr) (fs : List (Str × V)) (v : V), x = .ref a ∧ H1 a = some (Y.ExF a (.ref C) dx) ∧ XfC K C ∧ PySem.W.findIn K (.ref C) f = some none ∧ H1 dx = some (.xd fs) ∧ fs.lookup f = some v ∧ Q v H1
theorem pe_xfT {e : Expr} {te : TE} {n : Str} (he : PE X e te) (hb : attributeBase e n X.env (eval e X.env) = eval e X.env := by rfl) : PE X (.Attribute e n pos) (tXfT X.K n te) := by
  refine ⟨fun pins s σ H Q I h => ?_⟩
  refine attr_of hb (thn (he.run pins s σ H _ I h) fun u s1 ⟨x, H1, I1, rx, a, C, dx, fs, v, ex, ha, T, hno, hx, l, q⟩ => ?_)
  subst ex
  obtain rfl : u = Value.ref a := rx
  obtain ⟨⟨oe, vs, ho, hz, hd⟩, _⟩ := (show ObjOk X.prog X.w H1 s1.heap a (Y.ExF a (.ref C) dx) from I1.hok a _ ha)
  obtain ⟨mA, hns, hr⟩ := (show ObjOk X.prog X.w H1 s1.heap dx (.xd fs) from I1.hok dx _ hx)
  obtain ⟨od, hod, hl⟩ := lookIn_ns hns
  obtain ⟨u, hu, ru⟩ := RelO.some_of (v := v) (o := mA n) (by rw [← l]; exact hr n)
  have J : PySem.W.InstAt s1.heap a oe C (some od) := ⟨ho, hz.1, by unfold PySem.W.notCls; rw [hd] <;> rfl, by rw [hz.2]; exact hod⟩
  exact HandSPX.exc_get I1.kIn J T.ga T.gg T.exC (PySem.W.findObj_own T.hdC hno rfl (by rw [hl, hu])) (handed_of ru) ⟨v, H1, I1.tok _, ru, q⟩
end
end L2


/-! YRaise: own error classes over any of some built-in ones are made and raised. -/
namespace PySem
namespace YEX
open PySem.W PySem.Calls PyProof.Rows PySem.HandSPX
open Builtin Builtin.ObjectAttr
/-- a built-in base, as far as it is needed -/
structure BaseT (T newId initId : String) (tl : List Value) : Prop where
  F : ExcBaseFacts T newId initId tl
  pass : ∀ self, refuseLoop self "__setattr__" tl = pure ()
  obj : tl.contains (.type "object") = true
  ne : tl ≠ []
  nr : ∀ c r, tl ≠ .ref c :: r
  typ : typeOf (.type T) = pure (.type "type")
  stub : Manifest.isStub T = false
  hand : PySem.W.handedIn (.builtin initId) = true
theorem base_VE : BaseT "ValueError" "ValueError.__new__" "ValueError.__init__" [.type "ValueError", .type "Exception", .type "BaseException", .type "object"] :=
  ⟨F.excBase_ValueError, fun self => by kernel_rfl, by decide +kernel, by decide, fun _ _ => by simp, by kernel_rfl, by decide +kernel, by decide +kernel⟩
theorem base_OE : BaseT "OverflowError" "OverflowError.__new__" "OverflowError.__init__" [.type "OverflowError", .type "ArithmeticError", .type "Exception", .type "BaseException", .type "object"] :=
  ⟨F.excBase_OverflowError, fun self => by kernel_rfl, by decide +kernel, by decide, fun _ _ => by simp, by kernel_rfl, by decide +kernel, by decide +kernel⟩
theorem base_LE : BaseT "LookupError" "LookupError.__new__" "LookupError.__init__" [.type "LookupError", .type "Exception", .type "BaseException", .type "object"] :=
  ⟨F.excBase_LookupError, fun self => by kernel_rfl, by decide +kernel, by decide, fun _ _ => by simp, by kernel_rfl, by decide +kernel, by decide +kernel⟩
/-- some own classes, then the base's line -/
inductive RefsT (tl : List Value) : List Value → Prop
  | here : RefsT tl tl
  | more {c : Addr} {l : List Value} : RefsT tl l → RefsT tl (.ref c :: l)
section
variable {T newId initId : String} {tl : List Value}
theorem RefsT.pass {l : List Value} (b : BaseT T newId initId tl) (self : Value) (r : RefsT tl l) : refuseLoop self "__setattr__" l = pure () := by
  induction r with
  | here => exact b.pass self
  | more _ ih => rw [refuseLoop_ref]; exact ih
theorem RefsT.has {l : List Value} (r : RefsT tl l) (Y : String) : l.contains (.type Y) = tl.contains (.type Y) := by
  induction r with
  | here => rfl
  | more _ ih => rw [List.contains_cons, ih]; rfl
theorem RefsT.ne {l : List Value} (b : BaseT T newId initId tl) (r : RefsT tl l) : l.isEmpty = false := by
  cases r with
  | here => cases h : tl with
    | nil => exact absurd h b.ne
    | cons _ _ => rfl
  | more _ => rfl
variable {prog : Program} {w : World} {R : Result → Shared → Prop} {hp : Heap} {g : Array GenState} {d : Drawn} {t : Nat} {os : OsState} {A : Around}
/-- the first field of an error that has no dict as yet -/
theorem osaT {K : W.Frag} {name : Str} {tk : Tok} {v : Value} {x C : Addr} {fv : Array Value} {cd : ClassData} (b : BaseT T newId initId tl)
    (X : K.In hp) (hx : hp.get? x = some { cls := .ref C, data := .fields fv }) (hcd : W.clsIn K C = some cd) (hm : RefsT tl cd.mro) (hh : cd.hasDict = true) (ha : W.findIn K (.ref C) name = some none)
    (hq : ∀ h' tk' dx, (∀ b o, b ≠ x → hp.get? b = some o → h'.get? b = some o) → hp.objs.size ≤ dx → dx ≠ x → h'.get? x = some { cls := .ref C, dict := some dx, data := .fields fv } →
      h'.Ns1 dx (fun y => if y = name then some v else none) → R (.ok (.ret .none)) ⟨h', g, d, tk', os⟩) :
    codeAny (model prog w) A (.call (.builtin "object.__setattr__") ⟨[.ref x, .str name tk, v], []⟩) R ⟨hp, g, d, t, os⟩ := by
  have I : W.InstAt hp x { cls := .ref C, data := .fields fv } C none := ⟨hx, rfl, rfl, trivial⟩
  have SF := F.store_object
  have hob : cd.mro.contains (.type "object") = true := (hm.has "object").trans b.obj
  have hxs : x ≠ hp.objs.size := Nat.ne_of_lt (Heap.lt_size hx)
  have sub : W.Looks (model prog w) hp (isInstance (.ref x) (.type "object")) true := I.type.andThen (W.looks_mroIn X (by unfold W.mroIn; rw [hcd, Option.bind_some, if_neg (by rw [hm.ne b]; decide), hob]))
  refine codeAny_call_builtin SF.slot.plain SF.entry (@W.check_slot (model prog w) _ _ ⟨hp, g, d, t, os⟩ "object.__setattr__" "object" "__setattr__" (.ref x) [.str name tk, v] [] _ SF.kind SF.split sub (SF.args (.ref x) (.str name tk) v) ?_)
  have hmr : W.Looks (model prog w) hp (mroOf (.ref C)) cd.mro := (W.looks_clsIn X hcd).andThen .now
  have L3 : W.Looks (model prog w) hp (storeTaker? none) none := .now
  have hcls : W.Looks (model prog w) hp (classData C) cd := W.looks_clsIn X hcd
  rw [W.osa_eq, refuse_eq]
  refine wpAny_bind (wpAny_bind (I.type.at (wpAny_bind (hmr.at ?_))))
  rw [hm.pass b]
  refine wpAny_pure (wpAny_bind (I.type.at (wpAny_bind ((W.looks_findIn X ha).at (wpAny_bind (L3.at ?_))))))
  show wpAny _ _ (storeInOwnDict (.ref x) (.ref C) (.str name tk) name v false) _ _ _
  obtain ⟨nm, bs, mro, ns, qn, hd, sn, sb, ab, col, del⟩ := cd
  dsimp only at hh
  subst hh
  unfold storeInOwnDict ownDictForStores
  repeat (first | with_reducible refine store_in_new ?_ ?_ | with_reducible refine wpAny_loadPart_at hx ?_ | with_reducible refine hcls.at ?_ | wp_step)
  · exact ⟨_, #[], _, (Heap.get?_update_ne _ _ _ _ hxs.symm).trans (Heap.get?_push_at rfl rfl), rfl, fun e he => absurd he (by simp), fun _ => rfl⟩
  · intro h' tk' hn' hs
    have hx₁ : (hp.push { cls := .type "dict", data := .dict #[] }).get? x = some { cls := .ref C, data := .fields fv } := Heap.get?_push_of_some _ hx
    refine hq h' tk' hp.objs.size (fun b o hb ho => ?_) (Nat.le_refl _) hxs.symm ?_ hn'
    · exact (hs.2 b (Nat.ne_of_lt (Heap.lt_size ho))).trans ((Heap.get?_update_ne _ _ _ _ hb).trans (Heap.get?_push_of_some _ ho))
    · exact (hs.2 x hxs).trans (Heap.get?_update_self _ hx₁ rfl)
end
end YEX
end PySem
namespace L2
open PySem PySem.Spec PyProof.Rows YEX
/-- what the written part says of an own error class over the base T -/
structure OexT (T newId initId : String) (tl : List Value) (K : PySem.W.Frag) (C : Addr) : Prop where
  cls : ∃ nm q N bs bm sn sub ab col dd k0 k1 k2 k3 k5, K.lookup C = some (excClassObj nm q C N bs bm true sn sub ab col dd k0 k1 k2 k3 k5 newId) ∧ RefsT tl bm
  sa : PySem.W.findIn K (.ref C) "__setattr__" = some (some (.builtin "object.__setattr__"))
  exC : PySem.W.subIn K (.ref C) (.type "BaseException") = some true
  tyC : PySem.W.typeIn K (.ref C) = some (.type "type")
  kC : PySem.W.keepIn K (.ref C) = true
section
variable {T newId initId : String} {tl : List Value} {X : Cx} {pins : List (Addr × Obj)} {σ : St} {H : Hp} {s : Shared} {a C dx : Addr} {f : Str} {y : V} {u : Value} {fs : List (Str × V)} {E : Value → Shared → Prop} {A : Around}
/-- self.f = y, the first one -/
theorem ost_newT {Q : Unit → Shared → Prop} (b : BaseT T newId initId tl) (O : OexT T newId initId tl X.K C) (I : Inv X pins σ H s) (e : H a = some (exo a C none)) (hno : PySem.W.findIn X.K (.ref C) f = some none) (ry : RelV y u)
    (h : ∀ dx s', H dx = none → dx ≠ a → Inv X pins σ (upd (upd H dx (exd dx [(f, y)])) a (exo a C (some dx))) s' → Q () s') : wpAny (model X.prog X.w) A (setAttr (.ref a) f u) Q E s := by
  obtain ⟨nm, q, N, bs, bm, sn, sub, ab, col, dd, k0, k1, k2, k3, k5, hC, hbm⟩ := O.cls
  have hcl : PySem.W.clsIn X.K C = some { name := nm, bases := bs, mro := .ref C :: bm, ns := N, qualname := q, hasDict := true, slotNames := sn, subclasses := sub, abstract := ab, collection := col, hasDel := false } := by unfold PySem.W.clsIn; rw [hC] <;> rfl
  obtain ⟨t1, ho⟩ := exo_at I.hok e
  obtain ⟨hp, g, d, t, os⟩ := s
  refine PySem.W.set_plain I.kIn (ox := { cls := .ref C, dict := none, data := .fields #[.ref t1, .none, .none, .none, .bool false, .none] }) (od := none) ⟨ho, rfl, rfl, trivial⟩ O.sa ?_
  refine osaT b I.kIn ho hcl (RefsT.more hbm) rfl hno (fun h' tk' dx k dn dne hx hn => ?_)
  have hnd : H dx = none := I.hok.fresh dn
  have nd : ∀ {b : Addr} {o : Obj}, hp.get? b = some o → b ≠ dx := fun {b o} q => Nat.ne_of_lt (Nat.lt_of_lt_of_le (Heap.lt_size q) dn)
  have na : ∀ {b : Addr}, H b = none → b ≠ a := fun {b} n z => by
    rw [z, e] at n
    cases n
  have Un1 : Un X.fs [] H (upd (upd H dx (exd dx [(f, y)])) a (exo a C (some dx))) hp h' := {
    keep := fun b o q n _ _ => k b o (na n) q
    slot := fun b o q n _ _ => ⟨o.slots, k b o (na n) q⟩
    free := fun b o q n _ => by rw [upd_ne (na n), upd_ne (nd q)]; exact n
    there := fun b o q _ => by
      by_cases hb : b = a
      · exact ⟨_, by rw [hb]; exact hx⟩
      · exact ⟨o, k b o hb q⟩
    tups := fun b xs q => by rw [upd_ne (at_ne e q exo_tup), upd_ne (ne_of_none q hnd)]; exact q
    frzs := fun b o v q => by rw [upd_ne (at_ne e q exo_frz), upd_ne (ne_of_none q hnd)]; exact q
    tbls := fun b ps q => ⟨#[], by rw [upd_ne (at_ne e q exo_tbl), upd_ne (ne_of_none q hnd), q]; simp⟩ }
  refine h dx _ hnd dne (I.un (t' := tk') Un1 fun b o q => ?_)
  by_cases hb : b = a
  · subst hb
    rw [upd_same] at q
    cases q
    exact exo_ok hx
  · rw [upd_ne hb] at q
    by_cases hd : b = dx
    · subst hd
      rw [upd_same] at q
      cases q
      exact exd_ok hn (relO_put (fs := []) ry fun g => True.intro)
    · rw [upd_ne hd] at q
      refine (I.hok b o q).stay (fun c v hc z => k c v ?_ z) (fun c hc => ?_) fun c xs hc => ?_
      · rcases hc with hc | hc
        · rw [hc]; exact hb
        · exact at_ne e hc exo_own
      · rw [upd_ne (at_ne e hc exo_own), upd_ne (ne_of_none hc hnd)]; exact hc
      · rw [upd_ne (at_ne e hc exo_tup), upd_ne (ne_of_none hc hnd)]; exact hc
/-- the base's __init__(self, ..): nothing of it is told -/
theorem oinitT {us : List Value} {Q : Value → Shared → Prop} (b : BaseT T newId initId tl) (O : OexT T newId initId tl X.K C) (I : Inv X pins σ H s) (e : H a = some (exo a C none)) (hl : us.length ≤ sizeLine) (h : ∀ s', Inv X pins σ H s' → Q .none s') :
    wpAny (model X.prog X.w) A (call (.builtin initId) (.ref a :: us)) Q E s := by
  obtain ⟨nm, q, N, bs, bm, sn, sub, ab, col, dd, k0, k1, k2, k3, k5, hC, hbm⟩ := O.cls
  obtain ⟨t1, ho⟩ := exo_at I.hok e
  obtain ⟨hp, g, d, t, os⟩ := s
  refine wpAny_call (PySem.HandSPX.init_base b.F (fun Y => hbm.has Y) (I.kIn _ _ hC) ho hl fun h' t2 k hx => ?_)
  have J := I.write (t' := t) (x := a) (e := a) (o := exo a C none) (by rw [e]; exact True.intro) (.inl rfl) k ⟨_, hx⟩ (exo_ok hx)
  rw [show upd H a (exo a C none) = H from Y.upd_id e] at J
  exact h _ J
end
/-- what is told of the base's name in the call of its __init__: a built-in one, or an own class over it -/
inductive InitName (X : Cx) (x : Str) (initId : String) : Prop
  | blt {T : String} (hg : Gl X x) (hm : X.mg x = none) (hv : bootBuiltins x = some (.type T)) (hn : x ≠ "__name__") (hdb : (x == ("__debug__" : Str)) = false) (ty : typeOf (.type T) = pure (.type "type")) (st : Manifest.isStub T = false)
      (fd : PySem.W.findCls X.K (.type T) (.type "type") "__init__" = some (.val (.builtin initId))) (hh : PySem.W.handedIn (.builtin initId) = true)
  | own {C : Addr} (hg : Gl X x) (hm : X.mg x = some (.ref C)) (hdb : (x == ("__debug__" : Str)) = false) (sp : PySem.W.specialIn X.K (.ref C) "__getattribute__" = some (some (.builtin "type.__getattribute__")))
      (rd : PySem.W.readsIn X.K C (.type "type") = true) (fd : PySem.W.findCls X.K (.ref C) (.type "type") "__init__" = some (.val (.builtin initId))) (hh : PySem.W.handedIn (.builtin initId) = true)
def tIni (T newId initId : String) (tl : List Value) (K : PySem.W.Frag) (ta : TA) : TE := fun σ H Q => ta σ H fun vs H1 => ∃ (a C : Addr) (ws : List V), vs = .ref a :: ws ∧ ws.length ≤ 1000 ∧ OexT T newId initId tl K C ∧ H1 a = some (exo a C none) ∧ Q .non H1
section
variable {T newId initId : String} {tl : List Value} {X : Cx} {o e : Expr} {es : List Expr} {to te : TE} {ta : TA} {f x : Str} {p p' p1 p2 pos : Pos}
theorem pe_ini {pl : Sem Bool} (b : BaseT T newId initId tl) (N : InitName X x initId) (ha : PA X (e :: es) ta)
    (hc : eval (.Call (.Attribute (.Name x p1) "__init__" p2) (e :: es) [] pos) X.env = (do
      let ov ← eval (.Name x p1) X.env
      standAt p2.atName
      let (f, first) ← holding [ov] (getMethod ov "__init__" pl)
      callWith pos f first (backTo pos (starEach (e :: es) X.env)) (backToKw pos (keywordEach [] X.env))) := by rfl)
    (he : starEach (e :: es) X.env = (false, eval e X.env) :: starEach es X.env := by rfl) (hpl : (backTo pos (starEach es X.env)).any (·.1) = false := by rfl) :
    PE X (.Call (.Attribute (.Name x p1) "__init__" p2) (e :: es) [] pos) (tIni T newId initId tl X.K ta) := by
  refine ⟨fun pins s σ H Q I h => ?_⟩
  have fin : ∀ s, Inv X pins σ H s → wpAny (model X.prog X.w) X.A (callWith pos (Value.builtin initId) [] (backTo pos (starEach (e :: es) X.env)) []) (EP X pins σ Q) X.xe s := fun s I => by
    refine PyProof.Rows.callWith_method1 (thn (ha.run pos pins _ σ H _ I h) fun us s1 ⟨vs, H1, I1, r1, a, C, ws, ev, hl, O, ea, q⟩ => ?_) he hpl
    subst ev
    cases r1 with
    | @cons _ u0 _ ur ra rw' =>
      obtain rfl : u0 = Value.ref a := ra
      have hlen : ur.length ≤ sizeLine := by
        rw [← Paired.length rw', sizeLine_eq]
        omega
      exact oinitT b O I1 ea hlen fun s' J => ⟨.non, H1, J, rfl, q⟩
  rcases N with ⟨hg, hm, hv, hn, hdb, ty, st, fd, hh⟩ | ⟨hg, hm, hdb, sp, rd, fd, hh⟩
  · refine PySem.W.methodCall_KW (ld_blt I hg hm hv ?_ hn hdb) hc
    obtain ⟨m, fr⟩ := I.fr
    refine PySem.W.method_type fr I.ok.mod.kin ty st fd hh ?_
    exact fin _ (I.tok _)
  · refine PySem.W.methodCall_KW (ld_glob I hg hm ?_ hdb) hc
    refine PySem.W.method_cls I.kIn sp (PySem.W.cls_value I.kIn rd fd hh ?_)
    exact fin _ (I.tok _)
def tOstT (T newId initId : String) (tl : List Value) (K : PySem.W.Frag) (f : Str) (to te : TE) : TS := fun D σ H => te σ H fun y H1 => to σ H1 fun x H2 => ∃ a C : Addr, x = .ref a ∧ OexT T newId initId tl K C ∧ PySem.W.findIn K (.ref C) f = some none ∧
  H2 a = some (exo a C none) ∧ ∀ dx, H2 dx = none → dx ≠ a → D.nx σ (upd (upd H2 dx (exd dx [(f, y)])) a (exo a C (some dx)))
theorem ps_ostT (b : BaseT T newId initId tl) (ho : PE X o to) (he : PE X e te) (hs : swapsWith e (some (.Attribute o f p')) pos.line X.env = pure false := by rfl) : PS X (.Assign [.Attribute o f p'] e pos) (tOstT T newId initId tl X.K f to te) := by
  refine ⟨fun pins s σ H D I h => ?_⟩
  refine plainObj_wpAny_Assign_Attribute (thn (he.run pins s σ H _ I h) fun v s1 ⟨y, H1, I1, r1, q1⟩ => thn (ho.run pins s1 σ H1 _ I1 q1) fun u s2 ⟨x, H2, I2, r2, a, C, ex, O, hno, ea, q⟩ => ?_) hs
  subst ex
  obtain rfl : u = Value.ref a := r2
  exact ost_newT b O I2 ea hno r1 fun dx s' n ne J => ⟨σ, _, J, q dx n ne⟩
/-- what an error's own __init__ keeps: the one field is set -/
def spI (T newId initId : String) (tl : List Value) (K : PySem.W.Frag) (f : Str) : Sp := fun vs H Q _ => ∃ (a C : Addr) (v : V), vs = [.ref a, v] ∧ OexT T newId initId tl K C ∧ PySem.W.findIn K (.ref C) f = some none ∧ H a = some (exo a C none) ∧
  ∀ dx, H dx = none → dx ≠ a → Q .non (upd (upd H dx (exd dx [(f, v)])) a (exo a C (some dx)))
theorem init_ps {c : Const} {pl : Sem Bool} {kk : Nat} {p3 p4 p5 p6 p7 q1 q2 : Pos} {H : Hp} {vs : List V} {Q : VK} {E : XK} (b : BaseT T newId initId tl) (N : InitName X x initId) (hN : X.N = [Str.ofString "self", f]) (hc : ∃ s, c = .str s)
    (hv0 : Vis X.env.scope "self") (hv1 : Vis X.env.scope f) (hd : (f == ("__debug__" : Str)) = false) (hd2 : (f == ("__classdict__" : Str)) = false) (sp : spI T newId initId tl X.K f vs H Q E)
    (hc1 : eval (.Call (.Attribute (.Name x p1) "__init__" p2) [.Name "self" p3, .Constant c kk p4] [] pos) X.env = (do
      let ov ← eval (.Name x p1) X.env
      standAt p2.atName
      let (f, first) ← holding [ov] (getMethod ov "__init__" pl)
      callWith pos f first (backTo pos (starEach [.Name "self" p3, .Constant c kk p4] X.env)) (backToKw pos (keywordEach [] X.env))))
    (h1 : starEach [.Name "self" p3, .Constant c kk p4] X.env = (false, eval (.Name "self" p3) X.env) :: starEach [.Constant c kk p4] X.env) (h2 : starEach [.Constant c kk p4] X.env = (false, eval (.Constant c kk p4) X.env) :: starEach [] X.env)
    (hpl : (backTo pos (starEach [.Constant c kk p4] X.env)).any (·.1) = false)
    (hs1 : swapsWith (.Call (.Attribute (.Name x p1) "__init__" p2) [.Name "self" p3, .Constant c kk p4] [] pos) none q1.line X.env = pure false) (hs2 : swapsWith (.Name f p7) (some (.Attribute (.Name "self" p5) f p6)) q2.line X.env = pure false) :
    ∃ t, PSs X [.Expr (.Call (.Attribute (.Name x p1) "__init__" p2) [.Name "self" p3, .Constant c kk p4] [] pos) q1, .Assign [.Attribute (.Name "self" p5) f p6] (.Name f p7) q2] t ∧
      t { nx := fun _ H' => Q .non H', rt := Q } (L2.start X.N vs) H := by
  obtain ⟨s0, rfl⟩ := hc
  obtain ⟨a, C, v, rfl, O, hno, ea, q⟩ := sp
  have n0 : X.N[0]? = some (Str.ofString "self") := by rw [hN]; rfl
  have n1 : X.N[1]? = some f := by rw [hN]; rfl
  have es : L2.start X.N [.ref a, v] = [some (.ref a), some v] := by rw [hN]; rfl
  refine ⟨_, pss_cons (ps_expr (pe_ini b N (pa_cons (pe_var n0 hv0 (by decide) (by decide)) (pa_cons pe_str pa_nil h2) h1) hc1 h1 hpl) hs1) (pss_one (ps_ostT b (pe_var n0 hv0 (by decide) (by decide)) (pe_var n1 hv1 hd hd2) hs2)), ?_⟩
  rw [es]
  refine ⟨_, rfl, a, C, [.str s0], rfl, by show 1 ≤ 1000; omega, O, ea, ?_⟩
  exact ⟨v, rfl, _, rfl, a, C, rfl, O, hno, ea, q⟩
end
end L2
namespace Y
open PySem PySem.Spec PyProof.Rows L2 YEX
section
variable {T newId initId : String} {tl : List Value} {X : Cx} {B : Ent} {ok : OkX} {cls : Clss} {e : Expr} {te : TE} {f : EF} {x : Str} {fl : Str} {p pos pos2 : Pos} {k j : Nat}
/-- C(e), C's own __init__ setting the one field -/
def tMkI (C : Addr) (fl : Str) (te : TE) : St → Hp → XK → Prop := fun σ H Q => te σ H fun v H1 => ∀ dx, H1 dx = none → Q (.ref C) (some dx) (upd H1 dx (.xd [(fl, v)]))
theorem pmk_G {C fI : Addr} {fd : FuncData} {ps : List Str} (b : BaseT T newId initId tl) (O : OexT T newId initId tl X.K C) (hno : PySem.W.findIn X.K (.ref C) fl = some none) (iC : PySem.W.findIn X.K (.ref C) "__init__" = some (some (.ref fI))) (tI : PySem.W.typeIn X.K (.ref fI) = some (.type "function"))
    (F1 : FnG X.prog X.w X.K X.mg X.base k fI fd ps (spI T newId initId tl X.K fl)) (hr : Room (k + 1) X.A) (hG : X.A.guards = some []) (hb : Binds X.K fd ps []) (hx : Passes (L2.CX X.prog X.w) X (fun _ _ _ => False)) (hg : Gl X x) (hm : X.mg x = some (.ref C)) (he0 : PE X e te)
    (hdb : (x == ("__debug__" : Str)) = false := by decide) (he : starEach [e] X.env = (false, eval e X.env) :: starEach [] X.env := by rfl) (hpl : (backTo pos (starEach [] X.env)).any (·.1) = false := by rfl) :
    PMk X (.Call (.Name x p) [e] [] pos) (tMkI C fl te) := by
  intro pins s σ H Q I h
  obtain ⟨nm, q, N, bs, bm, sn, sub, ab, col, dd, k0, k1, k2, k3, k5, hC, hbm⟩ := O.cls
  refine wpAny_Call_Name_kw (ld_glob I hg hm ?_ hdb)
  have ha := pa_cons he0 pa_nil he
  refine PySem.W.callWith_K (h₀ := X.base) I.ok.mod.kin O.kC (thn (ha.run pos pins s σ H (fun vs H1 => match vs with
    | [v] => ∀ dx, H1 dx = none → Q (.ref C) (some dx) (upd H1 dx (.xd [(fl, v)]))
    | _ => False) I h) fun us s1 ⟨vs, H1, I1, r1, q1⟩ => ⟨I1.kIn, ?_⟩) he hpl
  obtain ⟨v, rfl, q1⟩ : ∃ v, vs = [v] ∧ ∀ dx, H1 dx = none → Q (.ref C) (some dx) (upd H1 dx (.xd [(fl, v)])) := by
    match vs, q1 with
    | [v], q1 => exact ⟨v, rfl, q1⟩
  show wpAny _ _ (call (.ref C) us) _ _ _
  obtain ⟨hp, g, dr, tk, os⟩ := s1
  have hsz : hp.objs.size ≤ hp.objs.size + 1 := Nat.le_succ _
  have hn : H1 (hp.objs.size + 1) = none := I1.hok.fresh hsz
  have kk : ∀ b o, hp.get? b = some o → ((hp.push (PySem.W.kdv_tup us)).push (PySem.HandSPX.excO C hp.objs.size)).get? b = some o := fun b o e => Heap.get?_push_of_some _ (Heap.get?_push_of_some _ e)
  have hget : ((hp.push (PySem.W.kdv_tup us)).push (PySem.HandSPX.excO C hp.objs.size)).get? (hp.objs.size + 1) = some (PySem.HandSPX.excO C hp.objs.size) := by heap_get
  have I2 : Inv X pins σ (upd H1 (hp.objs.size + 1) (exo (hp.objs.size + 1) C none)) ⟨(hp.push (PySem.W.kdv_tup us)).push (PySem.HandSPX.excO C hp.objs.size), g, dr, tk, os⟩ :=
    I1.laid (t' := tk) (a := hp.objs.size + 1) (o := exo (hp.objs.size + 1) C none) (h' := (hp.push (PySem.W.kdv_tup us)).push (PySem.HandSPX.excO C hp.objs.size)) kk hsz (exo_ok hget)
  have r2 : Vals [V.ref (hp.objs.size + 1), v] (Value.ref (hp.objs.size + 1) :: us) := .cons rfl r1
  have hq : spI T newId initId tl X.K fl [V.ref (hp.objs.size + 1), v] (upd H1 (hp.objs.size + 1) (exo (hp.objs.size + 1) C none))
      (fun z H2 => z = .non ∧ ∃ dx, H1 dx = none ∧ dx ≠ hp.objs.size + 1 ∧ H2 = upd (upd (upd H1 (hp.objs.size + 1) (exo (hp.objs.size + 1) C none)) dx (exd dx [(fl, v)])) (hp.objs.size + 1) (exo (hp.objs.size + 1) C (some dx))) (fun _ _ _ => False) := by
    refine ⟨hp.objs.size + 1, C, v, rfl, O, hno, upd_same, fun dx hdx hne => ⟨rfl, dx, ?_, hne, rfl⟩⟩
    rw [upd_ne hne] at hdx
    exact hdx
  have hl : (Value.ref (hp.objs.size + 1) :: us ++ []).length = ps.length := by
    rw [List.append_nil, ← r2.length]
    exact F1.len _ _ _ _ hq
  have b2 := hb _ (Value.ref (hp.objs.size + 1) :: us) I2.kIn hl
  rw [List.append_nil] at b2
  have hus : us.length ≤ sizeLine := by
    rw [← Paired.length r1, sizeLine_eq]
    show 1 ≤ _
    omega
  refine wpAny_call (PySem.HandSPX.call_own b.F (fun Y => hbm.has Y) (I1.kIn _ _ hC) (PySem.W.looks_findIn I1.kIn iC) (fun self => PySem.W.bind_fn I1.kIn self tI) hus
    (codeAny_mono (F1.run _ X.stack _ _ ⟨Value.ref (hp.objs.size + 1) :: us, []⟩ (Value.ref (hp.objs.size + 1) :: us) _ _ (fun _ _ _ => False) (hr.make C us []) hG (I2.env0.make C us []) b2 r2 hq) fun r s' hq' => ?_))
  cases r with
  | error er => exact hx pins σ _ _ er s' I2 hq'
  | ok fl2 =>
    cases fl2 with
    | ret u =>
      obtain ⟨z, H2, os2, bare2, un2, hok2, rv, ez, dx, hd1, hne, rfl⟩ := hq'
      subst ez
      obtain ⟨h2, g2, d2, t2, os'⟩ := s'
      refine ⟨rv, mk_end (fs := [(fl, v)]) (d := dx) (raises_own O.exC O.tyC) I1 hsz kk un2 hok2 os2 bare2 upd_same ?_ hd1 ?_⟩
      · rw [upd_ne hne, upd_same]
      · have eH : upd (L2.del (upd (upd (upd H1 (hp.objs.size + 1) (exo (hp.objs.size + 1) C none)) dx (exd dx [(fl, v)])) (hp.objs.size + 1) (exo (hp.objs.size + 1) C (some dx))) (hp.objs.size + 1)) dx (.xd [(fl, v)]) = upd H1 dx (.xd [(fl, v)]) := by
          funext c
          by_cases h1 : c = dx
          · rw [h1, upd_same, upd_same]
          · rw [upd_ne h1, upd_ne h1]
            by_cases h2 : c = hp.objs.size + 1
            · rw [h2, del_same, hn]
            · rw [del_ne h2, upd_ne h2, upd_ne h1, upd_ne h2]
        rw [eH]
        exact q1 dx hd1
    | next => exact False.elim hq'
    | brk => exact False.elim hq'
    | cont => exact False.elim hq'
def sRaise (c : Str) (f : EF) : SF := fun ρ => ofR (f ρ) fun x => .er c x.1
/-- an error class that stands in the module -/
structure ErrC (P : Program) (w : World) (K : PySem.W.Frag) (mg : Str → Option Value) (base : Heap) (k : Nat) (c : Str) (C : Addr) : Prop where
  ex : ∃ (T newId initId : String) (tl : List Value) (fI : Addr) (fd : FuncData) (ps : List Str), BaseT T newId initId tl ∧ OexT T newId initId tl K C ∧ PySem.W.findIn K (.ref C) (fld c) = some none ∧ PySem.W.findIn K (.ref C) "__init__" = some (some (.ref fI)) ∧
    PySem.W.typeIn K (.ref fI) = some (.type "function") ∧ FnG P w K mg base k fI fd ps (spI T newId initId tl K (fld c)) ∧ Binds K fd ps []
  mg : mg c = some (.ref C)
theorem ss_raise {c : Str} {C : Addr} (cx : CtxE cls X B ok) (D : ErrC X.prog X.w X.K X.mg X.base k c C) (hcl : cls c = some C) (hr : Room j X.A) (he : EE X B ok e f) (hk : k + 1 ≤ j := by decide) (hg : Gl X c := by rfl)
    (hdb : (c == ("__debug__" : Str)) = false := by decide) (hs : starEach [e] X.env = (false, eval e X.env) :: starEach [] X.env := by rfl) (hpl : (backTo pos (starEach [] X.env)).any (·.1) = false := by rfl) :
    SS X B ok (.Raise (some (.Call (.Name c p) [e] [] pos)) none pos2) (sRaise c f) := by
  obtain ⟨E, tk, good⟩ := cx.exc
  obtain ⟨T, newId, initId, tl, fI, fd, ps, b, O, hno, iC, tI, F1, hb⟩ := D.ex
  obtain ⟨t, pe, ke⟩ := he.ex
  refine ⟨_, ps_raise cx.calm tk (pmk_G b O hno iC tI F1 (hr.mono hk) cx.gd hb (passes_call tk fun _ _ _ _ h => h.elim) hg D.mg pe hdb hs hpl), fun σ H G ρ D r q => ?_⟩
  refine ke σ H G ρ _ r ((ofR_sat q).imp fun y qy v H1 G1 s1 r1 t1 dx hdx => ?_)
  refine good c y.1 qy C hcl v dx _ G1 (r1.bd.trans ?_) t1 ?_ upd_same
  · exact Grow.newO r1.sub hdx
  · cases e : B.H dx with
    | none => rfl
    | some u => exact absurd hdx (r1.bd.hs dx (by rw [e]; simp))
end
end Y


/-! YErr: try statements by data; an error's field. -/
namespace Y
open PySem PySem.Spec PyProof.Rows L2
/-- the slots where a suite begins -/
def begAs (oi : Option Nat) (n : Nat) (c : Str) (d : PyData) : En := match oi with
  | none => List.replicate n .un
  | some i => (List.replicate n .un).set i (.sh (excD c d))
def endAs (oi : Option Nat) (o : Out) : Out := match oi with
  | none => o
  | some i => match o with
    | .nx ρ => .nx (ρ.set i .un)
    | .bk ρ => .bk (ρ.set i .un)
    | .ct ρ => .ct (ρ.set i .un)
    | o => o
def noEr : Out → Out
  | .er _ _ => .no
  | o => o
abbrev Cla := Str × Option Nat × SF
def sSuites (sub : Str → Str → Bool) (n : Nat) (c : Str) (d : PyData) : List Cla → Out
  | [] => .er c d
  | (x, oi, g) :: r => if sub c x = true then endAs oi (noEr (g (begAs oi n c d))) else sSuites sub n c d r
def sTry (sub : Str → Str → Bool) (n : Nat) (gb : SF) (cl : List Cla) : SF := fun ρ => match gb ρ with
  | .er c d => sSuites sub n c d cl
  | o => o
/-- the clauses of a try statement -/
inductive CL (X : Cx) (B : Ent) (cls : Clss) (sub : Str → Str → Bool) : List ExceptHandler → List Cla → Prop
  | nil : CL X B cls sub [] []
  | cons {x : Str} {n : Option Str} {cv : Value} {oi : Option Nat} {g : SF} {b₀ : Stmt} {suite : List Stmt} {np pos' : Pos} {hds : List ExceptHandler} {l : List Cla} (hc : Names X x cv) (hs : ∀ c C, cls c = some C → PySem.W.exmOne X.K (.ref C) cv = some (sub c x)) (hn : AsOk X n oi)
      (hsu : ∀ (a : Addr) (pn : List (Addr × Obj)), SB (X.suite a pn) B noX (b₀ :: suite) g) (r : CL X B cls sub hds l) : CL X B cls sub (.ExceptHandler (some (.Name x np)) n (b₀ :: suite) pos' :: hds) ((x, oi, g) :: l)
  | cons2 {x y : Str} {n : Option Str} {cv dv : Value} {oi : Option Nat} {g : SF} {b₀ : Stmt} {suite : List Stmt} {p q pos pos' : Pos} {k : Nat} {hds : List ExceptHandler} {l : List Cla} (hc : Names X x cv) (hd : Names X y dv) (hs : ∀ c C, cls c = some C → PySem.W.exmOne X.K (.ref C) cv = some (sub c x)) (hs2 : ∀ c C, cls c = some C → PySem.W.exmOne X.K (.ref C) dv = some (sub c y)) (hn : AsOk X n oi)
      (hsu : ∀ (a : Addr) (pn : List (Addr × Obj)), SB (X.suite a pn) B noX (b₀ :: suite) g) (r : CL X B cls sub hds l) : CL X B cls sub (.ExceptHandler (some (.Tuple [.Name x p, .Name y q] k pos)) n (b₀ :: suite) pos' :: hds) ((x, oi, g) :: (y, oi, g) :: l)
  | cons3 {x y z : Str} {n : Option Str} {cv dv ev : Value} {oi : Option Nat} {g : SF} {b₀ : Stmt} {suite : List Stmt} {p q r' pos pos' : Pos} {k : Nat} {hds : List ExceptHandler} {l : List Cla} (hc : Names X x cv) (hd : Names X y dv) (he : Names X z ev) (hs : ∀ c C, cls c = some C → PySem.W.exmOne X.K (.ref C) cv = some (sub c x)) (hs2 : ∀ c C, cls c = some C → PySem.W.exmOne X.K (.ref C) dv = some (sub c y)) (hs3 : ∀ c C, cls c = some C → PySem.W.exmOne X.K (.ref C) ev = some (sub c z)) (hn : AsOk X n oi)
      (hsu : ∀ (a : Addr) (pn : List (Addr × Obj)), SB (X.suite a pn) B noX (b₀ :: suite) g) (r : CL X B cls sub hds l) : CL X B cls sub (.ExceptHandler (some (.Tuple [.Name x p, .Name y q, .Name z r'] k pos)) n (b₀ :: suite) pos' :: hds) ((x, oi, g) :: (y, oi, g) :: (z, oi, g) :: l)
theorem exmAny1 {K : PySem.W.Frag} {cls c : Value} {b : Bool} (h : PySem.W.exmOne K cls c = some b) : PySem.W.exmAny K cls [c] = some b := by
  unfold PySem.W.exmAny; rw [h]; show some (b || false) = _; rw [Bool.or_false]
theorem exmAnyC {K : PySem.W.Frag} {cls c : Value} {cs : List Value} {b d : Bool} (h : PySem.W.exmOne K cls c = some b) (h' : PySem.W.exmAny K cls cs = some d) : PySem.W.exmAny K cls (c :: cs) = some (b || d) := by
  rw [PySem.W.exmAny, h, h']
theorem Takes.len {X : Cx} {W : WX} (t : Takes X W) : Takes X (fun c d σ H => σ.length = X.N.length → W c d σ H) := fun u s' ⟨a, B, sI, pins, σ, H, cls, d, e, I, nb, up, sky, na, os, ag, w⟩ =>
  t u s' ⟨a, B, sI, pins, σ, H, cls, d, e, I, nb, up, sky, na, os, ag, w I.len⟩
section
variable {X : Cx} {B : Ent} {ok : OkX} {cls : Clss} {sub : Str → Str → Bool} {e : Expr} {f : EF} {pos : Pos}
theorem PSs.mono {st : List Stmt} {t t' : TS} (h : PSs X st t) (k : ∀ D σ H, t' D σ H → t D σ H) : PSs X st t' := ⟨fun pins s σ H D I q => h.run pins s σ H D I (k D σ H q)⟩
/-- the slots of a suite stand so -/
theorem rel_beg {K : PySem.W.Frag} {G' H' : Hp} {σ : St} {oi : Option Nat} {n : Nat} {a dx C : Addr} {c : Str} {d : PyData} {v : V} (g : Grow B.T B.io B.G B.H G' H') (hl : σ.length = n) (hC : clsOf K c = some C) (t : Tr K G' v d) (hdx : B.H dx = none) (hx : H' dx = some (.xd [(fld c, v)])) (na : H' a = none) (hne : a ≠ dx) :
    ∃ G2, Sub G' G2 ∧ Rel K B G2 (upd H' a (ExF a (.ref C) dx)) (asSt oi σ (.ref a)) (begAs oi n c d) := by
  have ga : G' a = none := none_of_sub g.sub na
  have ha : ∀ ps, ExF a (.ref C) dx ≠ .tbl ps := fun ps z => nomatch z
  -- its dict is frozen
  have dxG : ∃ G1, Sub G' G1 ∧ Grow B.T B.io B.G B.H G1 H' ∧ G1 dx = some (.xd [(fld c, v)]) ∧ G1 a = none := by
    cases e : G' dx with
    | some u =>
      have z := (g.sub dx u e).1
      rw [hx] at z; cases z
      exact ⟨G', Sub.refl _, g, e, ga⟩
    | none =>
      refine ⟨upd G' dx (.xd [(fld c, v)]), Sub.new e, ⟨Grow.freeze g.sub hx (fun ps z => nomatch z), g.gm.trans (Sub.new e), g.hm, g.hs, fun b hb h0 => ?_, g.tb⟩, upd_same, by rw [upd_ne hne]; exact ga⟩
      by_cases hb2 : b = dx
      · rw [hb2] at h0; exact absurd hdx h0
      · rw [upd_ne hb2] at hb; exact g.gn b hb h0
  obtain ⟨G1, s1, g1, x1, a1⟩ := dxG
  have gN : Grow B.T B.io G1 H' (upd G1 a (ExF a (.ref C) dx)) (upd H' a (ExF a (.ref C) dx)) := Grow.new g1.sub na ha
  have s2 : Sub G1 (upd G1 a (ExF a (.ref C) dx)) := Sub.new a1
  refine ⟨_, s1.trans s2, ?_⟩
  have r0 : Rel K B (upd G1 a (ExF a (.ref C) dx)) (upd H' a (ExF a (.ref C) dx)) σ (List.replicate n .un) := by
    refine ⟨g1.trans gN, by rw [hl]; simp, fun i s h => ?_, fun i j s u b _ h _ e _ => ?_⟩
    · have : s = .un := by
        rw [List.getElem?_replicate] at h
        split at h
        · cases h; rfl
        · cases h
      subst this
      trivial
    · have : s = .un := by
        rw [List.getElem?_replicate] at h
        split at h
        · cases h; rfl
        · cases h
      subst this
      exact e.elim
  cases oi with
  | none => exact r0
  | some i => exact r0.setSh (.exc upd_same hC (s2 _ _ x1) ((t.mono s1).mono s2))
theorem endAs_sat {K : PySem.W.Frag} {G : Hp} {D : Ends} {oi : Option Nat} {o : Out} (h : (endAs oi (noEr o)).sat K B ok G D) : o.sat K B noX G (D.as oi) := by
  cases oi with
  | none =>
    cases o with
    | er c d => exact h.elim
    | _ => exact h
  | some i =>
    cases o with
    | nx ρ => exact fun σ H' G' s r => h (σ.set i none) H' G' s r.setUn
    | bk ρ => exact fun σ H' G' s r => h (σ.set i none) H' G' s r.setUn
    | ct ρ => exact fun σ H' G' s r => h (σ.set i none) H' G' s r.setUn
    | er c d => exact h.elim
    | rt d ρ => exact h
    | rn d ρ => exact h
    | no => exact h
/-- the suites' readings, for the hand layer -/
theorem cl_hds {hds : List ExceptHandler} {l : List Cla} (h : CL X B cls sub hds l) (hcl : ∀ c C, cls c = some C → clsOf X.K c = some C) :
    ∃ L : List (List Value × Option Nat × TSu), HdsA X hds L ∧ ∀ (c : Str) (d : PyData) (C : Addr) (v : V) (dx : Addr) (H' G' G0 : Hp) (σ : St) (D : Ends) (Wout : WX), cls c = some C → Grow B.T B.io B.G B.H G' H' → Sub G0 G' → Tr X.K G' v d → B.H dx = none → H' dx = some (.xd [(fld c, v)]) →
      σ.length = X.N.length → (sSuites sub X.N.length c d l).sat X.K B ok G0 D → (ok c d → Wout (.ref C) (some dx) σ H') → wManyA X.K Wout D L (.ref C) (some dx) σ H' := by
  induction h with
  | nil => exact ⟨[], .nil, fun c d C v dx H' G' G0 σ D Wout hc g sg t hdx hx hl q ho => ho q⟩
  | @cons x n cv oi g b₀ suite np pos' hds l hc hs hn hsu r ih =>
    obtain ⟨L, hL, kL⟩ := ih
    refine ⟨([cv], oi, fun a cl dx D σ H => ∃ (c : Str) (d : PyData) (G : Hp), Rel X.K B G H σ (begAs oi X.N.length c d) ∧ (g (begAs oi X.N.length c d)).sat X.K B noX G D) :: L, .cons (.one hc) hn (fun a cl dx pn => ?_) hL, fun c d C v dx H' G' G0 σ D Wout hcc gr sg t hdx hx hl q ho => ?_⟩
    · obtain ⟨t, p, k⟩ := (hsu a pn).ex
      exact PSs.mono p fun D σ H ⟨c, d, G, rl, q⟩ => k σ H G _ D rl q
    · refine ⟨sub c x, exmAny1 (hs c C hcc), fun hb => ⟨dx, rfl, fun a na => ?_⟩, fun hb => ?_⟩
      · unfold sSuites at q
        rw [if_pos hb] at q
        have hne : a ≠ dx := fun z => by rw [z, hx] at na; cases na
        obtain ⟨G2, s2, rl⟩ := rel_beg (oi := oi) gr hl (hcl c C hcc) t hdx hx na hne
        exact ⟨c, d, G2, rl, (endAs_sat q).sub (sg.trans s2)⟩
      · unfold sSuites at q
        rw [if_neg (by rw [hb]; simp)] at q
        exact kL c d C v dx H' G' G0 σ D Wout hcc gr sg t hdx hx hl q ho
  | @cons2 x y n cv dv oi g b₀ suite p q pos pos' k hds l hc hd hs hs2 hn hsu r ih =>
    obtain ⟨L, hL, kL⟩ := ih
    refine ⟨([cv, dv], oi, fun a cl dx D σ H => ∃ (c : Str) (d : PyData) (G : Hp), Rel X.K B G H σ (begAs oi X.N.length c d) ∧ (g (begAs oi X.N.length c d)).sat X.K B noX G D) :: L, .cons (.two hc hd) hn (fun a cl dx pn => ?_) hL, fun c d C v dx H' G' G0 σ D Wout hcc gr sg t hdx hx hl q ho => ?_⟩
    · obtain ⟨t, p, k⟩ := (hsu a pn).ex
      exact PSs.mono p fun D σ H ⟨c, d, G, rl, q⟩ => k σ H G _ D rl q
    · have e : sSuites sub X.N.length c d ((x, oi, g) :: (y, oi, g) :: l) = if (sub c x || sub c y) = true then endAs oi (noEr (g (begAs oi X.N.length c d))) else sSuites sub X.N.length c d l := by
        simp only [sSuites]
        cases sub c x <;> cases sub c y <;> simp
      rw [e] at q
      refine ⟨(sub c x || sub c y), exmAnyC (hs c C hcc) (exmAny1 (hs2 c C hcc)), fun hb => ⟨dx, rfl, fun a na => ?_⟩, fun hb => ?_⟩
      · rw [if_pos hb] at q
        have hne : a ≠ dx := fun z => by rw [z, hx] at na; cases na
        obtain ⟨G2, s2, rl⟩ := rel_beg (oi := oi) gr hl (hcl c C hcc) t hdx hx na hne
        exact ⟨c, d, G2, rl, (endAs_sat q).sub (sg.trans s2)⟩
      · rw [if_neg (by rw [hb]; simp)] at q
        exact kL c d C v dx H' G' G0 σ D Wout hcc gr sg t hdx hx hl q ho
  | @cons3 x y z n cv dv ev oi g b₀ suite p q r0 pos pos' k hds l hc hd he hs hs2 hs3 hn hsu r ih =>
    obtain ⟨L, hL, kL⟩ := ih
    refine ⟨([cv, dv, ev], oi, fun a cl dx D σ H => ∃ (c : Str) (d : PyData) (G : Hp), Rel X.K B G H σ (begAs oi X.N.length c d) ∧ (g (begAs oi X.N.length c d)).sat X.K B noX G D) :: L, .cons (.three hc hd he) hn (fun a cl dx pn => ?_) hL, fun c d C v dx H' G' G0 σ D Wout hcc gr sg t hdx hx hl q ho => ?_⟩
    · obtain ⟨t, p, k⟩ := (hsu a pn).ex
      exact PSs.mono p fun D σ H ⟨c, d, G, rl, q⟩ => k σ H G _ D rl q
    · have e : sSuites sub X.N.length c d ((x, oi, g) :: (y, oi, g) :: (z, oi, g) :: l) = if (sub c x || (sub c y || sub c z)) = true then endAs oi (noEr (g (begAs oi X.N.length c d))) else sSuites sub X.N.length c d l := by
        simp only [sSuites]
        cases sub c x <;> cases sub c y <;> cases sub c z <;> simp
      rw [e] at q
      refine ⟨(sub c x || (sub c y || sub c z)), exmAnyC (hs c C hcc) (exmAnyC (hs2 c C hcc) (exmAny1 (hs3 c C hcc))), fun hb => ⟨dx, rfl, fun a na => ?_⟩, fun hb => ?_⟩
      · rw [if_pos hb] at q
        have hne : a ≠ dx := fun z => by rw [z, hx] at na; cases na
        obtain ⟨G2, s2, rl⟩ := rel_beg (oi := oi) gr hl (hcl c C hcc) t hdx hx na hne
        exact ⟨c, d, G2, rl, (endAs_sat q).sub (sg.trans s2)⟩
      · rw [if_neg (by rw [hb]; simp)] at q
        exact kL c d C v dx H' G' G0 σ D Wout hcc gr sg t hdx hx hl q ho
/-- the same entry, with all that is frozen by now -/
abbrev Ent.at (B : Ent) (F : Hp) : Ent := { B with G := F }
theorem Rel.up {K : PySem.W.Frag} {G H : Hp} {σ : St} {ρ : En} (r : Rel K B G H σ ρ) : Rel K (B.at G) G H σ ρ :=
  ⟨⟨r.bd.sub, Sub.refl G, r.bd.hm, r.bd.hs, fun _ e _ => e, r.bd.tb⟩, r.len, fun i s h => by
    have z := r.at_ i s h
    cases s <;> exact z, r.sep⟩
theorem Grow.down {T : YT} {io : List Addr} {G0 H0 G H G' H' : Hp} (a : Grow T io G0 H0 G H) (g : Grow T io G H0 G' H') : Grow T io G0 H0 G' H' :=
  ⟨g.sub, a.gm.trans g.gm, g.hm, g.hs, fun b e h => a.gn b (g.gn b e h) h, g.tb⟩
theorem Rel.down {K : PySem.W.Frag} {G H G' H' : Hp} {σ σ' : St} {ρ ρ' : En} (r : Rel K B G H σ ρ) (q : Rel K (B.at G) G' H' σ' ρ') : Rel K B G' H' σ' ρ' :=
  ⟨r.bd.down q.bd, q.len, fun i s h => by
    have z := q.at_ i s h
    cases s <;> exact z, q.sep⟩
theorem Fresh.down {K : PySem.W.Frag} {G G' H' : Hp} {σ' : St} {ρ' : En} {p : Addr} {d : PyData} (q : Fresh K (B.at G) G' H' σ' ρ' p d) : Fresh K B G' H' σ' ρ' p d := ⟨q.g, q.b, q.own, q.ap⟩
theorem sat_up {K : PySem.W.Frag} {G H : Hp} {σ : St} {ρ : En} {D : Ends} {o : Out} {ok' : OkX} (r : Rel K B G H σ ρ) (q : o.sat K B ok G D) (h : ∀ c d, o = .er c d → ok' c d) : o.sat K (B.at G) ok' G D := by
  cases o with
  | nx ρ => exact fun σ H' G' s' r' => q σ H' G' s' (r.down r')
  | rt d ρ => exact fun v σ H' G' s' r' => q v σ H' G' s' (r.down r')
  | rn d ρ => exact fun v σ H' G' s' r' x => q v σ H' G' s' (r.down r') x.down
  | bk ρ => exact fun σ H' G' s' r' => q σ H' G' s' (r.down r')
  | ct ρ => exact fun σ H' G' s' r' => q σ H' G' s' (r.down r')
  | er c d => exact h c d rfl
  | no => exact q
theorem ss_try {body : List Stmt} {h₀ : ExceptHandler} {hds : List ExceptHandler} {l : List Cla} {gb : SF} (cx : CtxOk cls X B ok) (hN : X.N.Nodup) (hb : ∀ (F : Hp) (pn : List (Addr × Obj)) (xe : Value → Shared → Prop) (okb : OkX), Sub B.G F → CtxOk cls (X.tr pn xe) (B.at F) okb → SB (X.tr pn xe) (B.at F) okb body gb)
    (hh : CL X B cls sub (h₀ :: hds) l) (hcl : ∀ c C, cls c = some C → clsOf X.K c = some C) (hs : X.stack = X.env :: X.outer := by rfl) (hf : X.env.frame = some X.env.locals := by rfl) :
    SS X B ok (.Try body (h₀ :: hds) [] [] pos) (sTry sub X.N.length gb l) := by
  obtain ⟨E, tk, good⟩ := cx.exc
  obtain ⟨L, hL, kL⟩ := cl_hds (ok := ok) hh hcl
  have hb2 : ∀ (W : WX) (pn : List (Addr × Obj)) (xe : Value → Shared → Prop), Takes (X.tr pn xe) W → PassesOwn (model X.prog X.w) X.A X.env xe →
      PSs (X.tr pn xe) body (fun D σ H => ∃ G ρ, Rel X.K B G H σ ρ ∧ (gb ρ).sat X.K (B.at G) (ErrOk X.K B.T cls B.io G B.H fun c d H => ∀ σ : St, σ.length = X.N.length → W c d σ H) G D) := fun W pn xe tkW ow => by
    refine ⟨fun pins s σ H D I ⟨G, ρ, rl, q⟩ => ?_⟩
    have cxb : CtxOk cls (X.tr pn xe) (B.at G) (ErrOk X.K B.T cls B.io G B.H fun c d H => ∀ σ : St, σ.length = X.N.length → W c d σ H) :=
      ⟨⟨cx.calm, ⟨cx.tabs.1, cx.tabs.2.mono rl.bd.gm⟩, cx.gd, _, (Takes.len tkW).imp fun c d σ H h hl => h σ hl, fun _ _ h => h⟩, ow⟩
    obtain ⟨t, p, k⟩ := (hb G pn xe _ rl.bd.gm cxb).ex
    exact p.run pins s σ H D I (k σ H G ρ D rl.up q)
  refine ⟨_, ps_try_manyA hs hf hN tk hb2 hL, fun σ H G ρ D r q => ?_⟩
  refine ⟨G, ρ, r, ?_⟩
  unfold sTry at q
  split at q
  · rename_i c d eg
    rw [eg]
    intro C hC v dx H' G' gr t hdx hx σ' hl
    exact kL c d C v dx H' G' G σ' D _ hC (r.bd.down gr) gr.gm t hdx hx hl q fun ho => good c d ho C hC v dx H' G' (r.bd.down gr) t hdx hx
  · rename_i hn
    refine sat_up (ok := ok) r ?_ (fun c d h => absurd h (hn c d))
    cases eg : gb ρ with
    | er c d => exact absurd eg (hn c d)
    | _ => rw [eg] at q; exact q
/-! ### an error's field -/
theorem trkv_none {K : PySem.W.Frag} {G : Hp} {d : PyData} {es l : List (PyData × PyData)} {kvs : List (Key × V)} (t : TrKV K G kvs l) (h : l = (.none, d) :: es) : False := by
  cases t with
  | nil => cases h
  | @cons k _ _ _ _ _ _ =>
    injection h with h1 _
    injection h1 with h2 _
    cases k <;> cases h2
def fXf (names : List Str) (n : Str) (f : EF) : EF := fun ρ => (f ρ).bind fun x => match x.1 with
  | .dict [(.none, .str c), (.none, d)] => if c ∈ names ∧ fld c = n then .ok (d, x.2) else .no
  | _ => .no
theorem ee_xf {names : List Str} {n : Str} (hC : ∀ c ∈ names, ∀ C, clsOf X.K c = some C → XfC X.K C ∧ PySem.W.findIn X.K (.ref C) (fld c) = some none) (h : EE X B ok e f) (hb : attributeBase e n X.env (eval e X.env) = eval e X.env := by rfl) : EE X B ok (.Attribute e n pos) (fXf names n f) := by
  obtain ⟨t, p, k⟩ := h.ex
  refine ⟨_, pe_xfT p hb, fun σ H G ρ Q r q => k σ H G ρ _ r ((R.sat_bind q).imp fun x qx v H1 G1 s1 r1 t1 => ?_)⟩
  split at qx
  · rename_i c d hx
    obtain ⟨⟨hc, hn⟩, qx⟩ := ite_sat qx
    rw [hx] at t1
    cases t1 with
    | dK h tk => exact (trkv_none tk rfl).elim
    | exc h1 h2 h3 h4 =>
      obtain ⟨z1, z2⟩ := hC c hc _ h2
      exact ⟨_, _, _, _, _, rfl, (r1.bd.sub _ _ h1).1, z1, hn ▸ z2, (r1.bd.sub _ _ h3).1, by rw [hn]; simp [List.lookup], qx _ H1 G1 s1 r1 h4⟩
  · exact qx.elim
end
end Y


/-! YTryK: try with one call as its body: the slots stand as they stood. -/
namespace Y
open PySem PySem.Spec PyProof.Rows L2
def begK (oi : Option Nat) (ρ : En) (c : Str) (d : PyData) : En := match oi with
  | none => ρ
  | some i => ρ.set i (.sh (excD c d))
def sSuitesK (sub : Str → Str → Bool) (ρ : En) (c : Str) (d : PyData) : List Cla → Out
  | [] => .er c d
  | (x, oi, g) :: r => if sub c x = true then endAs oi (noEr (g (begK oi ρ c d))) else sSuitesK sub ρ c d r
def sTryK (sub : Str → Str → Bool) (F : List PyData → R PyData) (fs : AF) (cl : List Cla) : SF := fun ρ => match fs ρ with
  | .ok y => (match F y.1 with
    | .ok _ => .nx y.2
    | .er c d => sSuitesK sub y.2 c d cl
    | .no => .no)
  | _ => .no
section
variable {X : Cx} {B : Ent} {ok : OkX} {cls : Clss} {sub : Str → Str → Bool} {e : Expr} {es : List Expr} {f : EF} {fs : AF} {pos p : Pos} {k j n : Nat} {x : Str}
theorem rel_begK {K : PySem.W.Frag} {Gc Hc G' H' : Hp} {σ : St} {ρ : En} {oi : Option Nat} {a dx C : Addr} {c : Str} {d : PyData} {v : V} (r : Rel K B Gc Hc σ ρ) (g : Grow B.T [] Gc Hc G' H') (hC : clsOf K c = some C) (t : Tr K G' v d) (hdx : Hc dx = none) (hx : H' dx = some (.xd [(fld c, v)])) (na : H' a = none) (hne : a ≠ dx) :
    ∃ G2, Sub G' G2 ∧ Rel K B G2 (upd H' a (ExF a (.ref C) dx)) (asSt oi σ (.ref a)) (begK oi ρ c d) := by
  have ga : G' a = none := none_of_sub g.sub na
  have ha : ∀ ps, ExF a (.ref C) dx ≠ .tbl ps := fun ps z => nomatch z
  have dxG : ∃ G1, Sub G' G1 ∧ Grow B.T [] Gc Hc G1 H' ∧ G1 dx = some (.xd [(fld c, v)]) ∧ G1 a = none := by
    cases e : G' dx with
    | some u =>
      have z := (g.sub dx u e).1
      rw [hx] at z; cases z
      exact ⟨G', Sub.refl _, g, e, ga⟩
    | none =>
      refine ⟨upd G' dx (.xd [(fld c, v)]), Sub.new e, ⟨Grow.freeze g.sub hx (fun ps z => nomatch z), g.gm.trans (Sub.new e), g.hm, g.hs, fun b hb h0 => ?_, g.tb⟩, upd_same, by rw [upd_ne hne]; exact ga⟩
      by_cases hb2 : b = dx
      · rw [hb2] at h0; exact absurd hdx h0
      · rw [upd_ne hb2] at hb; exact g.gn b hb h0
  obtain ⟨G1, s1, g1, x1, a1⟩ := dxG
  have gN : Grow B.T [] G1 H' (upd G1 a (ExF a (.ref C) dx)) (upd H' a (ExF a (.ref C) dx)) := Grow.new g1.sub na ha
  have s2 : Sub G1 (upd G1 a (ExF a (.ref C) dx)) := Sub.new a1
  refine ⟨_, s1.trans s2, ?_⟩
  have r0 := r.step (g1.trans gN)
  cases oi with
  | none => exact r0
  | some i => exact r0.setSh (.exc upd_same hC (s2 _ _ x1) ((t.mono s1).mono s2))
theorem cl_hdsK {hds : List ExceptHandler} {l : List Cla} (h : CL X B cls sub hds l) (hcl : ∀ c C, cls c = some C → clsOf X.K c = some C) :
    ∃ L : List (List Value × Option Nat × TSu), HdsA X hds L ∧ ∀ (c : Str) (d : PyData) (C : Addr) (v : V) (dx : Addr) (H' G' Gc Hc G0 : Hp) (σ : St) (ρ : En) (D : Ends) (Wout : WX), cls c = some C → Rel X.K B Gc Hc σ ρ → Grow B.T [] Gc Hc G' H' → Sub G0 G' → Tr X.K G' v d → Hc dx = none → H' dx = some (.xd [(fld c, v)]) →
      (sSuitesK sub ρ c d l).sat X.K B ok G0 D → (ok c d → Wout (.ref C) (some dx) σ H') → wManyA X.K Wout D L (.ref C) (some dx) σ H' := by
  induction h with
  | nil => exact ⟨[], .nil, fun c d C v dx H' G' Gc Hc G0 σ ρ D Wout hc r g sg t hdx hx q ho => ho q⟩
  | @cons x n cv oi g b₀ suite np pos' hds l hc hs hn hsu r ih =>
    obtain ⟨L, hL, kL⟩ := ih
    refine ⟨([cv], oi, fun a cl dx D σ H => ∃ (ρs : En) (G : Hp), Rel X.K B G H σ ρs ∧ (g ρs).sat X.K B noX G D) :: L, .cons (.one hc) hn (fun a cl dx pn => ?_) hL, fun c d C v dx H' G' Gc Hc G0 σ ρ D Wout hcc rl gr sg t hdx hx q ho => ?_⟩
    · obtain ⟨t, p, k⟩ := (hsu a pn).ex
      exact PSs.mono p fun D σ H ⟨ρs, G, rl, q⟩ => k σ H G _ D rl q
    · refine ⟨sub c x, exmAny1 (hs c C hcc), fun hb => ⟨dx, rfl, fun a na => ?_⟩, fun hb => ?_⟩
      · unfold sSuitesK at q
        rw [if_pos hb] at q
        have hne : a ≠ dx := fun z => by rw [z, hx] at na; cases na
        obtain ⟨G2, s2, rl2⟩ := rel_begK (oi := oi) rl gr (hcl c C hcc) t hdx hx na hne
        exact ⟨_, G2, rl2, (endAs_sat q).sub (sg.trans s2)⟩
      · unfold sSuitesK at q
        rw [if_neg (by rw [hb]; simp)] at q
        exact kL c d C v dx H' G' Gc Hc G0 σ ρ D Wout hcc rl gr sg t hdx hx q ho
  | @cons2 x y n cv dv oi g b₀ suite p q0 pos pos' k hds l hc hd hs hs2 hn hsu r ih =>
    obtain ⟨L, hL, kL⟩ := ih
    refine ⟨([cv, dv], oi, fun a cl dx D σ H => ∃ (ρs : En) (G : Hp), Rel X.K B G H σ ρs ∧ (g ρs).sat X.K B noX G D) :: L, .cons (.two hc hd) hn (fun a cl dx pn => ?_) hL, fun c d C v dx H' G' Gc Hc G0 σ ρ D Wout hcc rl gr sg t hdx hx q ho => ?_⟩
    · obtain ⟨t, p, k⟩ := (hsu a pn).ex
      exact PSs.mono p fun D σ H ⟨ρs, G, rl, q⟩ => k σ H G _ D rl q
    · have e : sSuitesK sub ρ c d ((x, oi, g) :: (y, oi, g) :: l) = if (sub c x || sub c y) = true then endAs oi (noEr (g (begK oi ρ c d))) else sSuitesK sub ρ c d l := by
        simp only [sSuitesK]
        cases sub c x <;> cases sub c y <;> simp
      rw [e] at q
      refine ⟨(sub c x || sub c y), exmAnyC (hs c C hcc) (exmAny1 (hs2 c C hcc)), fun hb => ⟨dx, rfl, fun a na => ?_⟩, fun hb => ?_⟩
      · rw [if_pos hb] at q
        have hne : a ≠ dx := fun z => by rw [z, hx] at na; cases na
        obtain ⟨G2, s2, rl2⟩ := rel_begK (oi := oi) rl gr (hcl c C hcc) t hdx hx na hne
        exact ⟨_, G2, rl2, (endAs_sat q).sub (sg.trans s2)⟩
      · rw [if_neg (by rw [hb]; simp)] at q
        exact kL c d C v dx H' G' Gc Hc G0 σ ρ D Wout hcc rl gr sg t hdx hx q ho
  | @cons3 x y z n cv dv ev oi g b₀ suite p q0 r0 pos pos' k hds l hc hd he hs hs2 hs3 hn hsu r ih =>
    obtain ⟨L, hL, kL⟩ := ih
    refine ⟨([cv, dv, ev], oi, fun a cl dx D σ H => ∃ (ρs : En) (G : Hp), Rel X.K B G H σ ρs ∧ (g ρs).sat X.K B noX G D) :: L, .cons (.three hc hd he) hn (fun a cl dx pn => ?_) hL, fun c d C v dx H' G' Gc Hc G0 σ ρ D Wout hcc rl gr sg t hdx hx q ho => ?_⟩
    · obtain ⟨t, p, k⟩ := (hsu a pn).ex
      exact PSs.mono p fun D σ H ⟨ρs, G, rl, q⟩ => k σ H G _ D rl q
    · have e : sSuitesK sub ρ c d ((x, oi, g) :: (y, oi, g) :: (z, oi, g) :: l) = if (sub c x || (sub c y || sub c z)) = true then endAs oi (noEr (g (begK oi ρ c d))) else sSuitesK sub ρ c d l := by
        simp only [sSuitesK]
        cases sub c x <;> cases sub c y <;> cases sub c z <;> simp
      rw [e] at q
      refine ⟨(sub c x || (sub c y || sub c z)), exmAnyC (hs c C hcc) (exmAnyC (hs2 c C hcc) (exmAny1 (hs3 c C hcc))), fun hb => ⟨dx, rfl, fun a na => ?_⟩, fun hb => ?_⟩
      · rw [if_pos hb] at q
        have hne : a ≠ dx := fun z => by rw [z, hx] at na; cases na
        obtain ⟨G2, s2, rl2⟩ := rel_begK (oi := oi) rl gr (hcl c C hcc) t hdx hx na hne
        exact ⟨_, G2, rl2, (endAs_sat q).sub (sg.trans s2)⟩
      · rw [if_neg (by rw [hb]; simp)] at q
        exact kL c d C v dx H' G' Gc Hc G0 σ ρ D Wout hcc rl gr sg t hdx hx q ho
/-- a call whose exceptions know the slots -/
theorem runGs {f : Addr} {fd : FuncData} {ps : List Str} {sp : Sp} {E : XK} {pins : List (Addr × Obj)} {σ : St} {H : Hp} {s : Shared} {Q : VK} {us : List Value} {vs : List V} (F : FnG X.prog X.w X.K X.mg X.base k f fd ps sp) (hr : Room k X.A) (hG : X.A.guards = some []) (hb : Binds X.K fd ps [])
    (I : Inv X pins σ H s) (hx : ∀ e s', L2.CX X.prog X.w X.stack H s E e s' → X.xe e s') (r : Vals vs us) (h : sp vs H Q E) : wpAny (model X.prog X.w) X.A (call (.ref f) us) (L2.EP X pins σ Q) X.xe s := by
  have hl : (us ++ []).length = ps.length := by
    rw [List.append_nil, ← r.length]
    exact F.len _ _ _ _ h
  have b := hb s us I.kIn hl
  rw [List.append_nil] at b
  have z := F.run X.A X.stack s H ⟨us, []⟩ us vs Q E hr hG I.env0 b r h
  refine wpAny_call (codeAny_mono z fun o s' q => ?_)
  match o, q with
  | .error e, q => exact hx e s' q
  | .ok (.ret u), q => exact I.after q
theorem pe_callGs {f : Addr} {fd : FuncData} {ps : List Str} {sp : Sp} {E : St → XK} {t : TA} (F : FnG X.prog X.w X.K X.mg X.base k f fd ps sp) (hr : Room k X.A) (hG : X.A.guards = some []) (hg : Gl X x) (hm : X.mg x = some (.ref f)) (hk : PySem.W.keepIn X.K (.ref f) = true) (hb : Binds X.K fd ps [])
    (hx : ∀ pins σ H s e s', Inv X pins σ H s → L2.CX X.prog X.w X.stack H s (E σ) e s' → X.xe e s')
    (ha : PA X (e :: es) t) (hdb : (x == ("__debug__" : Str)) = false) (he : starEach (e :: es) X.env = (false, eval e X.env) :: starEach es X.env) (hpl : (backTo pos (starEach es X.env)).any (·.1) = false) :
    PE X (.Call (.Name x p) (e :: es) [] pos) (fun σ H Q => t σ H fun vs H1 => sp vs H1 Q (E σ)) := by
  constructor
  intro pins s σ H Q I h
  have z := thn (ha.run pos pins s σ H _ I h) fun us s1 ⟨vs, H1, I1, r, q⟩ => (⟨I1.kIn, runGs F hr hG hb I1 (fun e s' c => hx pins σ H1 s1 e s' I1 c) r q⟩ : X.K.In s1.heap ∧ wpAny _ _ (call (.ref f) us) (L2.EP X pins σ Q) X.xe s1)
  exact wpAny_Call_Name_kw (ld_glob I hg hm (PySem.W.callWith_K (h₀ := X.base) I.ok.mod.kin hk z he hpl) hdb)
theorem ss_tryK {F : List PyData → R PyData} {h₀ : ExceptHandler} {hds : List ExceptHandler} {l : List Cla} {pos1 pos2 : Pos} (cx : CtxOk cls X B ok) (hN : X.N.Nodup) (C : Callee X.prog X.w X.K X.mg X.base k x n (spF X.K B.T cls n F)) (hr : Room j X.A)
    (ha : ∀ (pn : List (Addr × Obj)) (xe : Value → Shared → Prop), EA (X.tr pn xe) B noX (e :: es) fs)
    (hh : CL X B cls sub (h₀ :: hds) l) (hcl : ∀ c C, cls c = some C → clsOf X.K c = some C) (hk : k ≤ j := by decide) (hg : Gl X x := by rfl)
    (hdb : (x == ("__debug__" : Str)) = false := by decide) (he : starEach (e :: es) X.env = (false, eval e X.env) :: starEach es X.env := by rfl) (hpl : (backTo pos1 (starEach es X.env)).any (·.1) = false := by rfl)
    (hn : (e :: es).length = n := by rfl) (hsw : swapsWith (.Call (.Name x p) (e :: es) [] pos1) none pos2.line X.env = pure false := by rfl)
    (hs : X.stack = X.env :: X.outer := by rfl) (hf : X.env.frame = some X.env.locals := by rfl) :
    SS X B ok (.Try [.Expr (.Call (.Name x p) (e :: es) [] pos1) pos2] (h₀ :: hds) [] [] pos) (sTryK sub F fs l) := by
  have hT := cx.tabs
  obtain ⟨E, tk, good⟩ := cx.exc
  obtain ⟨L, hL, kL⟩ := cl_hdsK (ok := ok) hh hcl
  obtain ⟨f, fd, ps, FO, hm, hkp, hb, hps⟩ := C.ex
  have hb2 : ∀ (W : WX) (pn : List (Addr × Obj)) (xe : Value → Shared → Prop), Takes (X.tr pn xe) W → PassesOwn (model X.prog X.w) X.A X.env xe →
      PSs (X.tr pn xe) [.Expr (.Call (.Name x p) (e :: es) [] pos1) pos2] (fun D σ H => ∃ G ρ, Rel X.K B G H σ ρ ∧ (fs ρ).sat (fun y => (F y.1).sat (fun _ => ∀ H' G', Adv σ G H ρ G' H' y.2 → Rel X.K B G' H' σ y.2 → D.nx σ H')
        (fun c d => ∀ G1 H1, Adv σ G H ρ G1 H1 y.2 → Rel X.K B G1 H1 σ y.2 → ErrOk X.K B.T cls [] G1 H1 (fun c d H' => W c d σ H') c d)) noX) := fun W pn xe tkW ow => by
    obtain ⟨t, pa, ka⟩ := (ha pn xe).ex
    have hx : ∀ pins σ H s e s', Inv (X.tr pn xe) pins σ H s → L2.CX (X.tr pn xe).prog (X.tr pn xe).w (X.tr pn xe).stack H s ((fun (σ : St) (c : Value) (d : Option Addr) (H' : Hp) => W c d σ H') σ) e s' → (X.tr pn xe).xe e s' :=
      fun pins σ H s e s' I c => tkW e s' (XE.of_call I (fun cls d H' h => h) c)
    have p1 := pe_callGs (X := X.tr pn xe) (p := p) (pos := pos1) FO (hr.mono hk) cx.gd hg hm hkp hb hx pa hdb he hpl
    refine PSs.mono (pss_one (ps_expr p1 hsw)) fun D σ H ⟨G, ρ, rl, q⟩ => ?_
    refine ka σ H G ρ _ rl ?_
    cases ef : fs ρ with
    | er c d => rw [ef] at q; exact q
    | no => rw [ef] at q; exact q
    | ok y =>
      rw [ef] at q
      have hy := (ha pn xe).len ρ y ef
      intro vs H1 G1 s1 r1 t1
      refine ⟨G1, y.1, r1.sub, t1, by rw [hy, hn], r1.tabs hT, R.sat.imp2 q (fun d qd v H' G' g t => ?_) (fun c d hc => hc G1 H1 s1 r1)⟩
      exact qd H' G' (s1.trans (Adv.grow g)) (r1.step g)
  refine ⟨_, ps_try_manyA hs hf hN tk hb2 hL, fun σ H G ρ D r q => ?_⟩
  refine ⟨G, ρ, r, ?_⟩
  unfold sTryK at q
  cases ef : fs ρ with
  | er c d => rw [ef] at q; exact q.elim
  | no => rw [ef] at q; exact q.elim
  | ok y =>
    rw [ef] at q
    show (F y.1).sat _ _
    cases eF : F y.1 with
    | no => simp only [eF] at q; exact q.elim
    | ok d =>
      simp only [eF] at q
      intro H' G' s' r'
      exact q σ H' G' s'.sub r'
    | er c d =>
      simp only [eF] at q
      intro G1 H1 s1 r1 C hC v dx H' G' gr t hdx hx
      exact kL c d C v dx H' G' G1 H1 G σ y.2 D _ hC r1 gr (s1.sub.trans gr.gm) t hdx hx q fun ho => good c d ho C hC v dx H' G' (r1.bd.trans (gr.weak (by simp))) t (by
        cases e : B.H dx with
        | none => rfl
        | some u => exact absurd hdx (r1.bd.hs dx (by rw [e]; simp))) hx
end
end Y


/-! YLam: a lambda without parameters handed to a def, by data. -/
namespace Y
open PySem PySem.Spec PyProof.Rows L2 LamX
section
variable {X : Cx} {pins : List (Addr × Obj)} {σ : L2.St} {H HZ : Hp} {s s1 : Shared}
/-- x(), in the def that got the lambda: Z is that def's context, entered at s -/
theorem pe_actG {CXg : CXT} {Eg : XK} {Ng : List Str} {qg : Str} {sg : Scope} {g f c' : Addr} {cdg pm ctv : Value} {params : Arguments} {body : Expr} {scope : Scope} {k i : Nat} {a : Str} {pn : List (Addr × Obj)} {xe : Value → Shared → Prop} {W : WX} {E : XK} {tb : TE} {p1 p2 : Pos}
    (I : Inv X pins σ H s) (L : LamS X.env.scope scope) (hf : s.heap.get? f = some (PySem.W.kla_obj "<lambda>" (X.env.qual ++ "<lambda>") params body scope (cloFrom X.env.cells scope.names []) pm c' ctv)) (hfn : H f = none) (hfr : f ∉ frs X.stack)
    (hbind : bindArgs (PySem.W.kla_fn "<lambda>" (X.env.qual ++ "<lambda>") params body scope (cloFrom X.env.cells scope.names []) pm (.ref c') ctv) ⟨[], []⟩ = pure [])
    (tk : Takes ((cxOf CXg X.prog X.w X.K X.mg X.base Ng qg sg g cdg X.A X.stack s H Eg).tr pn xe) W) (hW : ∀ cls d σ' H', E cls d H' → W cls d σ' H') (hr : Room (k + 1) (X.A.deeper (envOfC qg sg s.heap.objs.size g cdg))) (hG : X.A.guards = some [])
    (hbody : ∀ (A : Around) (outer : List Env) (s : Shared) (H : Hp), Room k (A.deeper (lamEnv X scope s.heap.objs.size f c')) → A.guards = some [] → PE (lamCx X A outer s H E scope f c') body tb)
    (hN : Ng[i]? = some a) (hv : Vis sg a) (hd : (a == ("__debug__" : Str)) = false := by decide) (hcd : (a == ("__classdict__" : Str)) = false := by decide) :
    PE ((cxOf CXg X.prog X.w X.K X.mg X.base Ng qg sg g cdg X.A X.stack s H Eg).tr pn xe) (.Call (.Name a p1) [] [] p2)
      (fun σZ HZ Q => σZ[i]? = some (some (.ref f)) ∧ HZ c' = some (CodeO c' (X.env.qual ++ "<lambda>")) ∧ tb σ HZ Q) := by
  refine ⟨fun pinsZ sZ σZ HZ Q IZ ⟨hs, hc, ht⟩ => ?_⟩
  refine wpAny_Call_Name_kw (thn ((pe_var (pos := p1) (i := i) hN hv hd hcd).run pinsZ sZ σZ HZ (fun v H1 => v = .ref f ∧ H1 = HZ) IZ ⟨.ref f, hs, rfl, rfl⟩) fun u s1 ⟨v, H1, I1, r1, ev, eH⟩ => ?_)
  subst ev
  rw [eH] at I1
  obtain rfl : u = Value.ref f := r1
  have of1 : s1.heap.get? f = some (PySem.W.kla_obj "<lambda>" (X.env.qual ++ "<lambda>") params body scope (cloFrom X.env.cells scope.names []) pm c' ctv) := I1.base.keep f _ hf hfn hfr (fun z => nomatch (show f ∈ ([] : List Addr) from z))
  refine PySem.W.callWith_F0 ⟨_, _, _, _, of1⟩ ?_
  have un : Un (frs X.stack) [] H HZ s.heap s1.heap := I1.base
  obtain ⟨⟨oc, vs, t, hoc, hdc, hvc⟩, _, _⟩ := I1.hok c' _ hc
  have rc : codeAny (model X.prog X.w) (X.A.deeper (envOfC qg sg s.heap.objs.size g cdg)) (.call (.ref f) ⟨[], []⟩) (CR (L2.CX X.prog X.w) (envOfC qg sg s.heap.objs.size g cdg :: X.stack) X.prog X.w HZ s1 Q E) s1 := by
    refine PySem.W.kla_callFunE hr.depth of1 rfl L.co L.gen rfl ⟨c', oc, vs, t, rfl, hoc, hdc, hvc⟩ ?_
    rw [hbind]
    refine wpAny_pure (wpAny_newFunctionEnv (fun y hy => (L.own y hy).2) (fun y hy => absurd hy (by simp)) (fun h₁ hns hsb => ⟨I1.nolimit.fresh _ hsb, ?_⟩) L.kind)
    show codeAny _ _ (.expr body (lamEnv X scope s1.heap.objs.size f c')) _ _
    have kp : ∀ b o, s1.heap.get? b = some o → h₁.get? b = some o := fun b o e => hsb.extBut b o (Nat.ne_of_lt (Heap.lt_size e)) (Heap.get?_push_of_some _ e)
    have J : Inv (lamCx X (X.A.deeper (envOfC qg sg s.heap.objs.size g cdg)) (envOfC qg sg s.heap.objs.size g cdg :: X.stack) s1 HZ E scope f c') [] σ HZ { s1 with heap := h₁, toks := s1.toks + ([] : List (Str × Value)).length } :=
      lam_start2 I L I1.env0 hr.hd un hns kp
    refine PySem.W.kla_codeExpr (wpAny_mono ((hbody _ _ s1 HZ (hr.deeper _) hG).run [] _ _ HZ Q J ht) (fun v s' hq => ?_) fun e s' hq => hq)
    obtain ⟨w', H', J', rv, q⟩ := hq
    exact ⟨w', H', J'.os, J'.bare, J'.base, J'.hok, rv, q⟩
  have hx : Passes (L2.CX X.prog X.w) ((cxOf CXg X.prog X.w X.K X.mg X.base Ng qg sg g cdg X.A X.stack s H Eg).tr pn xe) E := passes_call tk hW
  refine wpAny_call (codeAny_mono rc fun r s' hq => ?_)
  cases r with
  | error e => exact hx pinsZ σZ HZ s1 e s' I1 hq
  | ok fl =>
    cases fl with
    | ret u => exact I1.after hq
    | next => exact False.elim hq
    | brk => exact False.elim hq
    | cont => exact False.elim hq
end
section
variable {X : Cx} {pins : List (Addr × Obj)} {σ : L2.St} {H : Hp} {s : Shared}
theorem lam_make3 {T : List (Addr × Str)} {c P : Addr} {params : Arguments} {body : Expr} {scope : Scope} {pos : Pos} {E : Value → Shared → Prop} {Q : Value → Shared → Prop} (I : Inv X pins σ H s) (TB : TabB X.base X.mg c P) (hcode : X.env.code = .ref c)
    (hm : (P, X.env.qual ++ "<lambda>") ∈ T) (hu : ∀ p ∈ T, p.1 = P → p.2 = X.env.qual ++ "<lambda>") (hT : Tabs T H) (hdef : defaultsOf params X.env = ([], [])) (hfree : ∀ y ∈ scope.names, y.2 = .free → ∃ c, X.env.cells.lookup y.1 = some c)
    (h : ∀ (f c' : Addr) (pm ctv : Value) (H1 : Hp) (s' : Shared), Inv X pins σ H1 s' → ExtN H H1 → (∀ b, H b ≠ none → H1 b ≠ none) → Tabs T H1 →
      s'.heap.get? f = some (PySem.W.kla_obj "<lambda>" (X.env.qual ++ "<lambda>") params body scope (cloFrom X.env.cells scope.names []) pm c' ctv) → H1 f = none → f ∉ frs X.stack → H1 c' = some (CodeO c' (X.env.qual ++ "<lambda>")) → Q (.ref f) s') :
    wpAny (model X.prog X.w) X.A (eval (.Lambda params body scope pos) X.env) Q E s := by
  obtain ⟨ps, hP, ht, ha⟩ := hT _ hm
  refine PySem.W.kla_eval hdef ?_
  have bP : s.heap.BuiltinsAt X.mg P := TB.bm.keeps I.bk
  have hP' : s.heap.get? P = some { cls := .none, data := .fields ps } := I.hok P _ hP
  have nofr : ∀ f, s.heap.objs.size ≤ f → f ∉ frs X.stack := fun f hf z => by
    rcases List.mem_cons.mp (I.stkSub _ z) with e | e
    · have h1 := I.lt
      rw [← e] at h1
      exact Nat.lt_irrefl _ (Nat.lt_of_lt_of_le h1 hf)
    · exact I.nofs hf e
  cases hc : codeAmong pos ps.toList with
  | none =>
    refine PySem.W.kla_makeFunction (mg := X.mg) (c := c) (P := P) (ps := ps) (closure_ok hfree) I.ok.glob (I.mod.glob.keeps I.bk) hcode (TB.code.keeps I.bk) hP' ht hc TB.gP bP fun c' ctv h' tk hx hge hlt hrec htb => ?_
    obtain ⟨c2, oc, vs, t, e2, hoc, hd, hv⟩ := hrec
    cases e2
    have hsz : s.heap.objs.size ≤ h'.objs.size := Nat.le_trans hge (Nat.le_of_lt hlt)
    have nC : H c' = none := I.hok.fresh hge
    have I1 := inv_table (t' := tk) (more := #[rawInt pos.line, rawInt pos.col, .ref c']) (h' := h'.push (PySem.W.kla_obj "<lambda>" (X.env.qual ++ "<lambda>") params body scope (cloFrom X.env.cells scope.names []) ((X.mg "__name__").getD .none) c' ctv)) I hP
      (fun b o hb e => Heap.get?_push_of_some _ (hx b o hb e)) (Heap.get?_push_of_some _ htb) hge ⟨oc, vs, t, Heap.get?_push_of_some _ hoc, hd, hv⟩
    have hE : ExtN H (upd (upd H P (.tbl (ps ++ #[rawInt pos.line, rawInt pos.col, .ref c']))) c' (CodeO c' (X.env.qual ++ "<lambda>"))) := fun b o e n => by
      rw [upd_ne (ne_of_none e nC), upd_ne (fun z => n ps (Option.some.inj (e.symm.trans (by rw [z]; exact hP))))]
      exact e
    have eL : (ps ++ #[rawInt pos.line, rawInt pos.col, .ref c']).toList = ps.toList ++ [rawInt pos.line, rawInt pos.col, .ref c'] := by simp
    refine h h'.objs.size c' ((X.mg "__name__").getD .none) ctv _ _ I1 hE (fun b hb => ?_) (fun p hp => ?_) (Heap.get?_push_size _ rfl) ?_ (nofr _ hsz) upd_same
    · by_cases z1 : b = c'
      · rw [z1, upd_same]; simp
      · rw [upd_ne z1]
        by_cases z2 : b = P
        · rw [z2, upd_same]; simp
        · rw [upd_ne z2]; exact hb
    · by_cases hb : p.1 = P
      · rw [hu p hp hb, hb]
        refine ⟨_, by rw [upd_ne (ne_of_none hP nC), upd_same], by rw [eL]; exact PySem.TriplesOk_snoc _ _ _ _ ht, fun p' cv hcv => ?_⟩
        rw [eL] at hcv
        rcases among_app _ ht hcv with z | z
        · obtain ⟨c0, e1, e2⟩ := ha p' cv z
          exact ⟨c0, e1, hE _ _ e2 codeO_ne⟩
        · exact ⟨c', z, upd_same⟩
      · obtain ⟨ps', a1, a2, a3⟩ := hT p hp
        refine ⟨ps', by rw [upd_ne (ne_of_none a1 nC), upd_ne hb]; exact a1, a2, fun p' cv hcv => ?_⟩
        obtain ⟨c0, e1, e2⟩ := a3 p' cv hcv
        exact ⟨c0, e1, hE _ _ e2 codeO_ne⟩
    · have n1 : h'.objs.size ≠ c' := Nat.ne_of_gt hlt
      have n2 : h'.objs.size ≠ P := Nat.ne_of_gt (Nat.lt_of_lt_of_le (Heap.lt_size hP') hsz)
      rw [upd_ne n1, upd_ne n2]
      exact I.hok.fresh hsz
  | some cv =>
    obtain ⟨c', e, hco⟩ := ha pos cv hc
    subst e
    refine PySem.W.kla_makeFunctionHit (mg := X.mg) (c := c) (P := P) (ps := ps) (closure_ok hfree) I.ok.glob (I.mod.glob.keeps I.bk) hcode (TB.code.keeps I.bk) hP' ht hc bP fun ctv h' tk hx hsz => ?_
    have I1 : Inv X pins σ H { s with heap := h'.push (PySem.W.kla_obj "<lambda>" (X.env.qual ++ "<lambda>") params body scope (cloFrom X.env.cells scope.names []) ((X.mg "__name__").getD .none) c' ctv), toks := tk } := I.kept fun b o e => Heap.get?_push_of_some _ (hx b o e)
    exact h h'.objs.size c' ((X.mg "__name__").getD .none) ctv H _ I1 (ExtN.refl H) (fun _ z => z) hT (Heap.get?_push_size _ rfl) (I.hok.fresh hsz) (nofr _ hsz) hco
end
/-- what the thunk's call gives -/
def fThk (r : R PyData) : EF := fun ρ => r.bind fun d => .ok (d, ρ)
def isLam : Option Sl → Bool
  | some Sl.lam => true
  | _ => false
def fThkL (r : R PyData) : EF := fun ρ => if isLam ρ[0]? = true then fThk r ρ else .no
theorem isLam_is {o : Option Sl} (h : isLam o = true) : o = some Sl.lam := by
  unfold isLam at h
  split at h
  · rfl
  · cases h
/-- the call of the function that was handed in, in the context Z (and within its try statements) -/
def Thk (cls : Clss) (Z : Cx) (B0 : Ent) (a : Str) (r : R PyData) : Prop := ∀ (pn : List (Addr × Obj)) (xe : Value → Shared → Prop) (B : Ent) (ok : OkX) (p1 p2 : Pos), CtxE cls (Z.tr pn xe) B ok → B.H = B0.H → B.T = B0.T → B.io = [] → B.lam = B0.lam → Sub B0.G B.G →
  EE (Z.tr pn xe) B ok (.Call (.Name a p1) [] [] p2) (fThkL r)
/-- a def that calls what it got: its slots at the entry; what it answers -/
def startL (N : List Str) : En := Sl.lam :: List.replicate (N.length - 1) .un
def fnL (N : List Str) (g : R PyData → SF) : R PyData → R PyData := fun r => outR (g r (startL N))
/-- its derivation, whatever the thunk gives -/
def HeardOk (P : Program) (w : World) (K : PySem.W.Frag) (mg : Str → Option Value) (base : Heap) (cls : Clss) (T : YT) (k : Nat) (N : List Str) (qual : Str) (st : Stmt) (f : Addr) (a : Str) (g : R PyData → SF) : Prop :=
  ∀ (cdv : Value) (A : Around) (outer : List Env) (s : Shared) (H : Hp) (E : XK) (B : Ent) (ok : OkX) (r : R PyData), B.T = T → B.io = [] →
    Room k (A.deeper (envOfC qual (defScope st) s.heap.objs.size f cdv)) → A.guards = some [] →
    CtxOk cls (cxOf (L2.CX P w) P w K mg base N qual (defScope st) f cdv A outer s H E) B ok →
    Thk cls (cxOf (L2.CX P w) P w K mg base N qual (defScope st) f cdv A outer s H E) B a r →
    SB (cxOf (L2.CX P w) P w K mg base N qual (defScope st) f cdv A outer s H E) B ok (defBody st) (g r)
/-- a def of that kind that stands in the module -/
structure HCallee (P : Program) (w : World) (K : PySem.W.Frag) (mg : Str → Option Value) (base : Heap) (cls : Clss) (T : YT) (k : Nat) (x : Str) (F : R PyData → R PyData) : Prop where
  ex : ∃ (f : Addr) (fd : FuncData) (a : Str) (N : List Str) (st : Stmt) (g : R PyData → SF), Fun K x x st f fd ∧ FnScope N [a] (defScope st) ∧ N[0]? = some a ∧ Vis (defScope st) a ∧ (a == ("__debug__" : Str)) = false ∧ (a == ("__classdict__" : Str)) = false ∧
    mg x = some (.ref f) ∧ PySem.W.keepIn K (.ref f) = true ∧ Binds K fd [a] [] ∧ HeardOk P w K mg base cls T k N x st f a g ∧ F = fnL N g
theorem HeardOk.mono {P : Program} {w : World} {K : PySem.W.Frag} {mg : Str → Option Value} {base : Heap} {cls : Clss} {T : YT} {j k : Nat} {N : List Str} {qual : Str} {st : Stmt} {f : Addr} {a : Str} {g : R PyData → SF} (h : HeardOk P w K mg base cls T j N qual st f a g) (hj : j ≤ k) :
    HeardOk P w K mg base cls T k N qual st f a g := fun cdv A outer s H E B ok r h1 h2 h3 => h cdv A outer s H E B ok r h1 h2 (h3.mono hj)
theorem HCallee.mono {P : Program} {w : World} {K : PySem.W.Frag} {mg : Str → Option Value} {base : Heap} {cls : Clss} {T : YT} {j k : Nat} {x : Str} {F : R PyData → R PyData} (h : HCallee P w K mg base cls T j x F) (hj : j ≤ k) : HCallee P w K mg base cls T k x F := by
  obtain ⟨f, fd, a, N, st, g, h1, h2, h3, h4, h5, h6, h7, h8, h9, h10, h11⟩ := h.ex
  exact ⟨f, fd, a, N, st, g, h1, h2, h3, h4, h5, h6, h7, h8, h9, h10.mono hj, h11⟩
/-- only what is shared is seen from within -/
def shOnly (ρ : En) : En := ρ.map fun s => match s with
  | .sh d => .sh d
  | _ => .un
def fzs : List Nat → En → En
  | [], ρ => ρ
  | i :: is, ρ => fzs is (fz i ρ)
def valR (r : R (PyData × En)) : R PyData := r.bind fun x => .ok x.1
/-- f(lambda: e) -/
def fLam (caps : List Nat) (F : R PyData → R PyData) (fl : EF) : EF := fun ρ => (F (valR (fl (shOnly (fzs caps ρ))))).bind fun d => .ok (d, fzs caps ρ)
section
variable {X : Cx} {B : Ent} {ok : OkX} {cls : Clss} {K : PySem.W.Frag} {G H : Hp} {σ : St} {ρ : En}
theorem rel_shOnly {T : YT} {G' H' : Hp} (r : Rel K B G H σ ρ) (s : Sub G G') (h : ∀ b o, G' b = some o → H' b = some o ∧ ∀ ps, o ≠ .tbl ps) : Rel K { T := T, io := [], G := G', H := H' } G' H' σ (shOnly ρ) := by
  have no : ∀ (i : Nat) s v a, (shOnly ρ)[i]? = some s → adr s v a → False := fun i s v a h e => by
    unfold shOnly at h
    rw [List.getElem?_map] at h
    cases e1 : ρ[i]? with
    | none => rw [e1] at h; cases h
    | some z => rw [e1] at h; cases h; cases z <;> exact e
  refine ⟨Grow.refl h, by unfold shOnly; rw [List.length_map]; exact r.len, fun i t ht => ?_, fun i j t u a _ ht _ e _ => no i t _ a ht e⟩
  unfold shOnly at ht
  rw [List.getElem?_map] at ht
  cases e1 : ρ[i]? with
  | none => rw [e1] at ht; cases ht
  | some z =>
    rw [e1] at ht; cases ht
    cases z with
    | sh d =>
      obtain ⟨x, e, t⟩ := r.at_ i _ e1
      exact ⟨x, e, t.mono s⟩
    | _ => trivial
theorem fzsA : ∀ {is : List Nat} {G : Hp} {ρ : En}, Rel K B G H σ ρ → ∃ G', Adv σ G H ρ G' H (fzs is ρ) ∧ Rel K B G' H σ (fzs is ρ)
  | [], G, ρ, r => ⟨G, Adv.refl, r⟩
  | i :: is, G, ρ, r => by
    have one : ∃ G', Adv σ G H ρ G' H (Y.fz i ρ) ∧ Rel K B G' H σ (Y.fz i ρ) := by
      unfold Y.fz
      split
      · rename_i d e
        obtain ⟨G', v, a', r', _, _⟩ := r.fzA e
        exact ⟨G', a', r'⟩
      · exact ⟨G, Adv.refl, r⟩
    obtain ⟨G1, a1, r1⟩ := one
    obtain ⟨G2, a2, r2⟩ := fzsA (is := is) r1
    exact ⟨G2, a1.trans a2, r2⟩
theorem grow_lam {T : YT} {G H H1 : Hp} (h : ∀ b o, G b = some o → H b = some o ∧ ∀ ps, o ≠ .tbl ps) (eN : ExtN H H1) (hs : ∀ b, H b ≠ none → H1 b ≠ none) (T1 : Tabs T.t H1) : Grow T [] G H G H1 :=
  ⟨fun b o e => ⟨eN b o (h b o e).1 (h b o e).2, (h b o e).2⟩, Sub.refl G, fun b o e _ n => eN b o e n, hs, fun _ e _ => e, fun _ => T1⟩
theorem rel_startL {T : YT} {a : Str} {N : List Str} {f : Addr} (hs : ∀ b o, G b = some o → H b = some o ∧ ∀ ps, o ≠ .tbl ps) (hN : N[0]? = some a) : Rel K { T := T, io := [], G := G, H := H, lam := f } G H (L2.start N [.ref f]) (startL N) := by
  have e : L2.start N [.ref f] = some (.ref f) :: List.replicate (N.length - 1) none := by
    unfold L2.start
    simp
  have un : ∀ (i : Nat) s, (startL N)[i + 1]? = some s → s = .un := fun i s h => by
    unfold startL at h
    rw [List.getElem?_cons_succ, List.getElem?_replicate] at h
    split at h
    · cases h; rfl
    · cases h
  have noA : ∀ (i : Nat) s v b, (startL N)[i]? = some s → adr s v b → False := fun i s v b h z => by
    cases i with
    | zero =>
      have h : some Sl.lam = some s := h
      cases h; exact z
    | succ i => rw [un i s h] at z; exact z
  rw [e]
  refine ⟨Grow.refl hs, by unfold startL; simp, fun i s h => ?_, fun i j s u b _ h _ z _ => noA i s _ b h z⟩
  cases i with
  | zero =>
    have h : some Sl.lam = some s := h
    cases h
    exact (rfl : some (some (V.ref f)) = _)
  | succ i => rw [un i s h]; trivial
theorem ee_lam {x : Str} {c P : Addr} {k j : Nat} {F : R PyData → R PyData} {params : Arguments} {body : Expr} {scope : Scope} {fl : EF} {p lpos pos : Pos} (caps : List Nat) (cx : CtxE cls X B ok) (C : HCallee X.prog X.w X.K X.mg X.base cls B.T (k + 1) x F) (hr : Room j X.A)
    (TB : TabB X.base X.mg c P) (hcode : X.env.code = .ref c) (hmT : (P, X.env.qual ++ "<lambda>") ∈ B.T.t) (hu : ∀ p ∈ B.T.t, p.1 = P → p.2 = X.env.qual ++ "<lambda>") (L : LamS X.env.scope scope)
    (hbody : ∀ (A : Around) (outer : List Env) (s : Shared) (H : Hp) (E : XK) (f c' : Addr) (B' : Ent) (ok' : OkX), B'.T = B.T → Room k (A.deeper (lamEnv X scope s.heap.objs.size f c')) → A.guards = some [] → CtxE cls (lamCx X A outer s H E scope f c') B' ok' →
      EE (lamCx X A outer s H E scope f c') B' ok' body fl)
    (hk : k + 2 ≤ j := by decide) (hg : Gl X x := by rfl) (hdef : defaultsOf params X.env = ([], []) := by rfl)
    (hbind : ∀ (q : Str) (cl : List (Str × Addr)) (pm cv ctv : Value), bindArgs (PySem.W.kla_fn "<lambda>" q params body scope cl pm cv ctv) ⟨[], []⟩ = pure [] := by intro _ _ _ _ _; rfl) (hdb : (x == ("__debug__" : Str)) = false := by decide) :
    EE X B ok (.Call (.Name x p) [.Lambda params body scope lpos] [] pos) (fLam caps F fl) := by
  obtain ⟨E, tk, good⟩ := cx.exc
  have px : Passes (L2.CX X.prog X.w) X E := passes_call tk fun _ _ _ _ h => h
  obtain ⟨g, fd, a, Ng, st, gh, Fn, S, hN0, hva, hda, hca, hm, hkp, hb, hOk, rfl⟩ := C.ex
  obtain ⟨oc, od, kV, doc, pm, an, cdv, ct, osl, rfl, lk, hcd⟩ := Fn.ex
  -- the reading: what the frame shares is seen from within
  refine ⟨fun σ H Q => ∃ G ρ, Rel X.K B G H σ ρ ∧ ((fnL Ng gh) (valR (fl (shOnly ρ)))).sat (fun d => ∀ v H' G', Grow B.T [] G H G' H' → Tr X.K G' v d → Q v H') ok, ⟨fun pins s σ H Q I ⟨G, ρ, rl, q⟩ => ?_⟩, fun σ H G ρ Q r q => ?_⟩
  · have hT := rl.tabs cx.tabs
    refine wpAny_Call_Name_kw (ld_glob I hg hm ?_ hdb)
    refine PySem.W.callWith_K (h₀ := X.base) I.ok.mod.kin hkp ?_ (by rfl) (by rfl)
    show wpAny _ _ (spliced ((false, eval (.Lambda params body scope lpos) X.env) :: backTo pos (starEach [] X.env))) _ _ s
    refine Calls.spliced_cons (lam_make3 I TB hcode hmT hu hT.1 hdef (L.has I.ok) fun f c' pm' ctv H1 s' I1 eN hsN T1 hf hfn hfr hco => ?_)
    refine Calls.spliced_nil ⟨I1.kIn, ?_⟩
    -- the making of the lambda is a growth
    have g1 : Grow B.T [] G H G H1 := grow_lam rl.sub eN hsN T1
    have rl1 := rl.step g1
    have B0T : Base X.K B.T G H1 := ⟨T1, hT.2⟩
    have rc : codeAny (model X.prog X.w) X.A (.call (.ref g) ⟨[.ref f], []⟩) (CR (L2.CX X.prog X.w) X.stack X.prog X.w H1 s' Q E) s' := by
      refine run_ofS (N := Ng) (ps := [a]) (us := [.ref f]) (vs := [.ref f]) lk hcd S (hr.mono hk) I1.env0 (hb s' [.ref f] I1.kIn rfl) (.cons rfl .nil) rfl fun hr' => ?_
      have cxg := ctx_of (cls := cls) (P := X.prog) (w := X.w) (K := X.K) (mg := X.mg) (base := X.base) (N := Ng) (qual := x) (sc := defScope st) (f := g) (cdv := cdv) (A := X.A) (outer := X.stack) (s := s') (H := H1) (E := E) (B := { T := B.T, io := [], G := G, H := H1, lam := f }) B0T cx.gd
      have thk : Thk cls (cxOf (L2.CX X.prog X.w) X.prog X.w X.K X.mg X.base Ng x (defScope st) g cdv X.A X.stack s' H1 E) { T := B.T, io := [], G := G, H := H1, lam := f } a (valR (fl (shOnly ρ))) := by
        intro pn xe B2 ok2 p1 p2 cx2 eH eT eIo eL sG
        obtain ⟨E2, tk2, good2⟩ := cx2.exc
        refine ⟨_, pe_actG (i := 0) (E := E2) (tb := fun σ' HZ Q => ∃ G1, Sub G G1 ∧ (∀ b o, G1 b = some o → HZ b = some o ∧ ∀ ps, o ≠ .tbl ps) ∧ Base X.K B.T G1 HZ ∧ Rel X.K B G H1 σ' ρ ∧
            (valR (fl (shOnly ρ))).sat (fun d => ∀ v H' G', Grow B.T [] G1 HZ G' H' → Tr X.K G' v d → Q v H') (ErrOk X.K B.T cls [] G1 HZ E2)) I1 L hf hfn hfr (hbind _ _ _ _ _) tk2 (fun _ _ _ _ h => h) (k := k) hr' cx.gd
          (fun A outer s2 H2 hr2 hg2 => ?_) hN0 hva hda hca, fun σ2 HZ GZ ρ2 Q2 rz qz => ?_⟩
        · refine ⟨fun pins2 s3 σ3 HZ Q3 I3 ⟨G1, sG1, sub3, bs, rl3, q3⟩ => ?_⟩
          have cxl : CtxE cls (lamCx X A outer s2 H2 E2 scope f c') { T := B.T, io := [], G := G1, H := HZ } (ErrOk X.K B.T cls [] G1 HZ E2) :=
            ⟨rfl, bs, hg2, E2, takes_of rfl rfl rfl rfl, fun _ _ h => h⟩
          obtain ⟨t, pe, kk⟩ := (hbody A outer s2 H2 E2 f c' { T := B.T, io := [], G := G1, H := HZ } _ rfl hr2 hg2 cxl).ex
          refine pe.run pins2 s3 σ3 HZ Q3 I3 (kk σ3 HZ G1 (shOnly ρ) Q3 (rel_shOnly rl3 sG1 sub3) ?_)
          cases ef : fl (shOnly ρ) with
          | ok y =>
            rw [ef] at q3
            exact fun v H' G' _ r' t' => q3 v H' G' r'.bd t'
          | er c d => rw [ef] at q3; exact q3
          | no => rw [ef] at q3; exact q3
        · obtain ⟨h0, qz⟩ := ite_sat qz
          · have e0 : σ2[0]? = some (some (.ref B2.lam)) := rz.at_ 0 _ (isLam_is h0)
            rw [eL] at e0
            have ec : HZ c' = some (CodeO c' (X.env.qual ++ "<lambda>")) := rz.bd.hm c' _ (by rw [eH]; exact hco) (by rw [eIo]; simp) codeO_ne
            have bz := rz.tabs cx2.tabs
            rw [eT] at bz
            refine ⟨e0, ec, GZ, sG.trans rz.bd.gm, rz.sub, bz, rl1, ?_⟩
            cases ev : valR (fl (shOnly ρ)) with
            | ok d =>
              rw [ev] at qz
              intro v H' G' g' t'
              have g2 : Grow B2.T [] GZ HZ G' H' := by rw [eT]; exact g'
              exact qz v H' G' (Adv.grow g2) (rz.step g2) t'
            | er c d =>
              rw [ev] at qz
              have z := (good2 c d qz).later rz.bd
              rw [eT, eIo] at z
              exact z
            | no => rw [ev] at qz; exact qz
      obtain ⟨t, pt, kt⟩ := (hOk cdv X.A X.stack s' H1 E { T := B.T, io := [], G := G, H := H1, lam := f } _ (valR (fl (shOnly ρ))) rfl rfl hr' cx.gd cxg thk).ex
      refine ⟨t, pt, kt _ H1 G (startL Ng) _ (rel_startL rl1.sub hN0) ?_⟩
      unfold fnL at q
      cases e : gh (valR (fl (shOnly ρ))) (startL Ng) with
      | nx ρ' => rw [e] at q; exact fun σ H' G' s' r => q .non H' G' (g1.trans r.bd) .non
      | rt d ρ' => rw [e] at q; exact fun v σ H' G' s' r t' => q v H' G' (g1.trans r.bd) t'
      | rn d ρ' =>
        rw [e] at q
        exact fun p σ H' G' s' r x => by
          obtain ⟨G2, s2, _, r2, t2⟩ := r.frz x
          exact q _ H' G2 (g1.trans r2.bd) t2
      | er c d =>
        rw [e] at q
        have z := ((good c d q).later rl1.bd).io
        exact z
      | bk ρ' => rw [e] at q; exact q.elim
      | ct ρ' => rw [e] at q; exact q.elim
      | no => rw [e] at q; exact q.elim
    refine wpAny_call (codeAny_mono rc fun r s2 hq => ?_)
    cases r with
    | error e => exact px pins σ _ _ e s2 I1 hq
    | ok fl =>
      cases fl with
      | ret u => exact I1.after hq
      | next => exact False.elim hq
      | brk => exact False.elim hq
      | cont => exact False.elim hq
  · obtain ⟨G', a', r'⟩ := fzsA (is := caps) r
    refine ⟨G', _, r', (R.sat_bind q).imp fun d qd v H2 G2 g t => ?_⟩
    exact qd v H2 G2 (a'.trans (Adv.grow g)) (r'.step g) t
end
end Y


/-! YLamD: a lambda whose one parameter has a default and is not given. -/
namespace Y
open PySem PySem.Spec PyProof.Rows L2 LamX
/-- f(lambda x=0: e): the slot of a name x of the def is not seen -/
def fLamX (caps : List Nat) (ix : Nat) (F : R PyData → R PyData) (fl : EF) : EF := fun ρ => (F (valR (fl (shOnly ((fzs caps ρ).set ix .un))))).bind fun d => .ok (d, fzs caps ρ)
/-- one parameter with a default, which the body doesn't name; captured names and globals -/
structure LamD (sc scope : Scope) (N : List Str) (px : Str) (ix : Nat) : Prop where
  kind : scope.kind = .function
  co : scope.isCoroutine = false
  gen : scope.isGenerator = false
  own : ∀ y ∈ scope.names, (y.2 = .local → y.1 = px) ∧ y.2 ≠ .cell
  free : ∀ y ∈ scope.names, y.2 = .free → sc.names.lookup y.1 = some .cell ∨ sc.names.lookup y.1 = some .free
  loc : scope.names.lookup px = some .local
  out : ∀ i : Nat, N[i]? = some px → i = ix
def lamDB (sc scope : Scope) (N : List Str) (px : Str) (ix : Nat) : Bool :=
  decide (scope.kind = .function) && !scope.isCoroutine && !scope.isGenerator && decide (scope.names.lookup px = some .local) && ((List.range N.length).all fun i => decide (N[i]? ≠ some px) || decide (i = ix)) && scope.names.all fun y => (!decide (y.2 = .local) || decide (y.1 = px)) && !decide (y.2 = .cell) && (!decide (y.2 = .free) || decide (sc.names.lookup y.1 = some .cell) || decide (sc.names.lookup y.1 = some .free))
theorem lamD_by {sc scope : Scope} {N : List Str} {px : Str} {ix : Nat} (h : lamDB sc scope N px ix = true) : LamD sc scope N px ix := by
  unfold lamDB at h
  simp only [Bool.and_eq_true, Bool.or_eq_true, Bool.not_eq_true', decide_eq_true_eq, decide_eq_false_iff_not, List.all_eq_true] at h
  obtain ⟨⟨⟨⟨⟨h1, h2⟩, h3⟩, h4⟩, h5⟩, h6⟩ := h
  refine ⟨h1, h2, h3, fun y hy => ⟨fun e => ?_, (h6 y hy).1.2⟩, fun y hy e => ?_, h4, fun i hi => ?_⟩
  · rcases (h6 y hy).1.1 with z | z
    · exact absurd e z
    · exact z
  · rcases (h6 y hy).2 with (z | z) | z
    · exact absurd e z
    · exact .inl z
    · exact .inr z
  · have hl := (List.getElem?_eq_some_iff.mp hi).1
    rcases h5 i (List.mem_range.mpr hl) with z | z
    · exact absurd hi z
    · exact z
theorem LamD.has {X : Cx} {scope : Scope} {N : List Str} {px : Str} {ix : Nat} (L : LamD X.env.scope scope N px ix) (ok : X.Ok) : ∀ y ∈ scope.names, y.2 = .free → ∃ c, X.env.cells.lookup y.1 = some c := fun y hy e => by
  rcases L.free y hy e with k | k
  · exact ok.has _ (.inl k)
  · exact ok.has _ (.inr k)
section
variable {X : Cx} {pins : List (Addr × Obj)} {σ : L2.St} {H HZ : Hp} {s s1 : Shared}
theorem lam_startD {A : Around} {outer : List Env} {E : XK} {scope : Scope} {f c' : Addr} {h₁ : Heap} {tk : Nat} {px : Str} {ix : Nat} {bs : List (Str × Value)} (I : Inv X pins σ H s) (L : LamD X.env.scope scope X.N px ix) (e0 : Env0 X.prog X.w X.K X.mg X.base A outer s1 HZ) (hd : A.handled = none)
    (un : Un (frs X.stack) [] H HZ s.heap s1.heap) (hns : h₁.Ns s1.heap.objs.size fun y => bs.reverse.lookup y) (kp : ∀ b o, s1.heap.get? b = some o → h₁.get? b = some o) :
    Inv (lamCx X A outer s1 HZ E scope f c') [] (σ.set ix none) HZ { s1 with heap := h₁, toks := tk } := by
  have hfree := L.has I.ok
  have cm : ∀ {y c}, (cloFrom X.env.cells scope.names []).lookup y = some c → X.env.cells.lookup y = some c := fun {y c} e => by
    rcases cloFrom_mem (PySem.mem_of_lookup e) with hm | ⟨h1, h2⟩
    · cases hm
    · obtain ⟨c1, hc⟩ := hfree _ h1 rfl
      have hc : X.env.cells.lookup y = some c1 := hc
      have e2 : c = c1 := by
        rw [h2, hc] <;> rfl
      rw [e2]
      exact hc
  have look : ∀ {y}, scope.names.lookup y = some .free → ∃ c, (cloFrom X.env.cells scope.names []).lookup y = some c := fun {y} hl => by
    have hy : (y, NameKind.free) ∈ scope.names := PySem.mem_of_lookup hl
    exact mem_lookup (cloFrom_has (cells := X.env.cells) (acc := []) hy)
  have cellK : ∀ {c : Addr} {v : Option Value}, H c = none → s.heap.IsCell c v → h₁.IsCell c v := fun {c v} n ⟨o, ho, hd⟩ => by
    obtain ⟨sl, q⟩ := un.any ho n (by simp)
    exact ⟨_, kp _ _ q, hd⟩
  have noA : ∀ b : Addr, b ∉ (lamCx X A outer s1 HZ E scope f c').ex := fun b z => absurd (show b ∈ ([] : List Addr) from z) (by simp)
  refine ⟨⟨e0.mod, L.kind, rfl, rfl, Nat.le_refl _, fun y z c e1 e2 => I.ok.inj y z c (cm e1) (cm e2), fun y hy => ?_, fun y c z _ => ?_, fun _ => hd, Around.frames_deeper e0.frames, .inr ⟨rfl, rfl⟩, fun b z => absurd z (noA b), e0.bs, e0.bsz, fun b _ _ => noA b,
      fun b z => absurd z (noA b), e0.funs, e0.frf⟩,
    rfl, e0.bare, Un.kept kp, ⟨_, hns, fun i y v e1 e2 e3 => ?_⟩, fun y c e => ?_, e0.hok.fresh (Nat.le_refl _), fun y c e => ?_, fun q hq => absurd (show q ∈ ([] : List (Addr × Obj)) ++ [] from hq) (by simp), e0.hok.kept kp, by rw [List.length_set]; exact I.len⟩
  · have hy : scope.names.lookup y = some .cell ∨ scope.names.lookup y = some .free := hy
    rcases hy with hy | hy
    · exact absurd rfl (L.own _ (PySem.mem_of_lookup hy)).2
    · exact look hy
  · have z : false = true := z
    cases z
  · have e3 : Vis scope y := e3
    rcases e3 with k | k | k
    · have ey : y = px := (L.own _ (PySem.mem_of_lookup k)).1 rfl
      have hN : X.N[i]? = some y := e1
      have hi := L.out i (ey ▸ hN)
      subst hi
      have e2 : (σ.set i none)[i]? = some (some v) := e2
      by_cases hl : i < σ.length
      · rw [List.getElem?_set_self hl] at e2; cases e2
      · rw [List.getElem?_eq_none (by rw [List.length_set]; omega)] at e2; cases e2
    · exact absurd rfl (L.own _ (PySem.mem_of_lookup k)).2
    · obtain ⟨m, hn, hl⟩ := I.loc
      have hvis : Vis X.env.scope y := (L.free _ (PySem.mem_of_lookup k) rfl).elim (fun k => .inr (.inl k)) (fun k => .inr (.inr k))
      have e2' : σ[i]? = some (some v) := by
        have e2 : (σ.set ix none)[i]? = some (some v) := e2
        by_cases hi : ix = i
        · subst hi
          by_cases hl2 : ix < σ.length
          · rw [List.getElem?_set_self hl2] at e2; cases e2
          · rw [List.getElem?_eq_none (by rw [List.length_set]; omega)] at e2; cases e2
        · rw [List.getElem?_set_ne hi] at e2; exact e2
      obtain ⟨w', r, q⟩ := hl i y v e1 e2' hvis
      obtain ⟨c2, h2⟩ := look k
      refine ⟨w', r, .inr ⟨.inr k, c2, h2, ?_⟩⟩
      have c1 := cm h2
      rcases q with ⟨k', _⟩ | ⟨_, c3, e', z⟩
      · have k' : X.env.scope.names.lookup y = some .local := k'
        rcases L.free _ (PySem.mem_of_lookup k) rfl with k2 | k2 <;> rw [show X.env.scope.names.lookup y = _ from k2] at k' <;> cases k'
      · rw [c1] at e'
        cases e'
        exact cellK (I.freeC y _ c1) z
  · obtain ⟨w', z⟩ := I.cell y c (cm e)
    exact ⟨w', cellK (I.freeC y c (cm e)) z⟩
  · obtain ⟨v, o, ho, hd⟩ := I.cell y c (cm e)
    exact un.free c o ho (I.freeC y c (cm e)) (by simp)
/-- x(), in the def that got the lambda: Z is that def's context, entered at s -/
theorem pe_actD {CXg : CXT} {Eg : XK} {Ng : List Str} {qg : Str} {sg : Scope} {g f c' t0 : Addr} {cdg pm ctv doc : Value} {i0 : Int} {tk0 : Tok} {px : Str} {ix : Nat} {params : Arguments} {body : Expr} {scope : Scope} {k i : Nat} {a : Str} {pn : List (Addr × Obj)} {xe : Value → Shared → Prop} {W : WX} {E : XK} {tb : TE} {p1 p2 : Pos}
    (I : Inv X pins σ H s) (L : LamD X.env.scope scope X.N px ix) (hf : s.heap.get? f = some (PySem.W.kdv_obj "<lambda>" (X.env.qual ++ "<lambda>") params (.expr body) scope (cloFrom X.env.cells scope.names []) (.ref t0) doc pm c' ctv)) (hfn : H f = none) (hfr : f ∉ frs X.stack) (hft : s.heap.get? t0 = some (PySem.W.kdv_tup [.int i0 tk0])) (htn : H t0 = none) (htr : t0 ∉ frs X.stack)
    (hbind : ∀ s : Shared, s.heap.get? t0 = some (PySem.W.kdv_tup [.int i0 tk0]) → BindsTo s (PySem.W.kdv_fn "<lambda>" (X.env.qual ++ "<lambda>") params (.expr body) scope (cloFrom X.env.cells scope.names []) (.ref t0) doc pm (.ref c') ctv) ⟨[], []⟩ [(px, .int i0 tk0)])
    (tk : Takes ((cxOf CXg X.prog X.w X.K X.mg X.base Ng qg sg g cdg X.A X.stack s H Eg).tr pn xe) W) (hW : ∀ cls d σ' H', E cls d H' → W cls d σ' H') (hr : Room (k + 1) (X.A.deeper (envOfC qg sg s.heap.objs.size g cdg))) (hG : X.A.guards = some [])
    (hbody : ∀ (A : Around) (outer : List Env) (s : Shared) (H : Hp), Room k (A.deeper (lamEnv X scope s.heap.objs.size f c')) → A.guards = some [] → PE (lamCx X A outer s H E scope f c') body tb)
    (hN : Ng[i]? = some a) (hv : Vis sg a) (hd : (a == ("__debug__" : Str)) = false := by decide) (hcd : (a == ("__classdict__" : Str)) = false := by decide) :
    PE ((cxOf CXg X.prog X.w X.K X.mg X.base Ng qg sg g cdg X.A X.stack s H Eg).tr pn xe) (.Call (.Name a p1) [] [] p2)
      (fun σZ HZ Q => σZ[i]? = some (some (.ref f)) ∧ HZ c' = some (CodeO c' (X.env.qual ++ "<lambda>")) ∧ tb (σ.set ix none) HZ Q) := by
  refine ⟨fun pinsZ sZ σZ HZ Q IZ ⟨hs, hc, ht⟩ => ?_⟩
  refine wpAny_Call_Name_kw (thn ((pe_var (pos := p1) (i := i) hN hv hd hcd).run pinsZ sZ σZ HZ (fun v H1 => v = .ref f ∧ H1 = HZ) IZ ⟨.ref f, hs, rfl, rfl⟩) fun u s1 ⟨v, H1, I1, r1, ev, eH⟩ => ?_)
  subst ev
  rw [eH] at I1
  obtain rfl : u = Value.ref f := r1
  have of1 : s1.heap.get? f = some (PySem.W.kdv_obj "<lambda>" (X.env.qual ++ "<lambda>") params (.expr body) scope (cloFrom X.env.cells scope.names []) (.ref t0) doc pm c' ctv) := I1.base.keep f _ hf hfn hfr (fun z => nomatch (show f ∈ ([] : List Addr) from z))
  have ot1 : s1.heap.get? t0 = some (PySem.W.kdv_tup [.int i0 tk0]) := I1.base.keep t0 _ hft htn htr (fun z => nomatch (show t0 ∈ ([] : List Addr) from z))
  refine PySem.W.callWith_F0 ⟨_, _, _, _, of1⟩ ?_
  have un : Un (frs X.stack) [] H HZ s.heap s1.heap := I1.base
  obtain ⟨⟨oc, vs, t, hoc, hdc, hvc⟩, _, _⟩ := I1.hok c' _ hc
  have rc : codeAny (model X.prog X.w) (X.A.deeper (envOfC qg sg s.heap.objs.size g cdg)) (.call (.ref f) ⟨[], []⟩) (CR (L2.CX X.prog X.w) (envOfC qg sg s.heap.objs.size g cdg :: X.stack) X.prog X.w HZ s1 Q E) s1 := by
    refine PySem.W.kla_callFunE hr.depth of1 rfl L.co L.gen rfl ⟨c', oc, vs, t, rfl, hoc, hdc, hvc⟩ ?_
    refine hbind s1 ot1 _ _ _ _ ?_
    refine (wpAny_newFunctionEnv (fun y hy => (L.own y hy).2) (fun y hy => by
        have hy : y ∈ [(px, Value.int i0 tk0)] := hy
        rw [List.mem_singleton] at hy
        rw [hy]
        exact L.loc) (fun h₁ hns hsb => ⟨I1.nolimit.fresh _ hsb, ?_⟩) L.kind)
    show codeAny _ _ (.expr body (lamEnv X scope s1.heap.objs.size f c')) _ _
    have kp : ∀ b o, s1.heap.get? b = some o → h₁.get? b = some o := fun b o e => hsb.extBut b o (Nat.ne_of_lt (Heap.lt_size e)) (Heap.get?_push_of_some _ e)
    have J : Inv (lamCx X (X.A.deeper (envOfC qg sg s.heap.objs.size g cdg)) (envOfC qg sg s.heap.objs.size g cdg :: X.stack) s1 HZ E scope f c') [] (σ.set ix none) HZ { s1 with heap := h₁, toks := s1.toks + ([(px, Value.int i0 tk0)] : List (Str × Value)).length } :=
      lam_startD I L I1.env0 hr.hd un hns kp
    refine PySem.W.kla_codeExpr (wpAny_mono ((hbody _ _ s1 HZ (hr.deeper _) hG).run [] _ _ HZ Q J ht) (fun v s' hq => ?_) fun e s' hq => hq)
    obtain ⟨w', H', J', rv, q⟩ := hq
    exact ⟨w', H', J'.os, J'.bare, J'.base, J'.hok, rv, q⟩
  have hx : Passes (L2.CX X.prog X.w) ((cxOf CXg X.prog X.w X.K X.mg X.base Ng qg sg g cdg X.A X.stack s H Eg).tr pn xe) E := passes_call tk hW
  refine wpAny_call (codeAny_mono rc fun r s' hq => ?_)
  cases r with
  | error e => exact hx pinsZ σZ HZ s1 e s' I1 hq
  | ok fl =>
    cases fl with
    | ret u => exact I1.after hq
    | next => exact False.elim hq
    | brk => exact False.elim hq
    | cont => exact False.elim hq
end
section
variable {X : Cx} {pins : List (Addr × Obj)} {σ : L2.St} {H : Hp} {s : Shared}
theorem lam_tailD {T : List (Addr × Str)} {c P t0 : Addr} {params : Arguments} {body : Expr} {scope : Scope} {pos : Pos} {E : Value → Shared → Prop} {Q : Value → Shared → Prop} {ot : Obj} (I : Inv X pins σ H s) (TB : TabB X.base X.mg c P) (hcode : X.env.code = .ref c)
    (hm : (P, X.env.qual ++ "<lambda>") ∈ T) (hu : ∀ p ∈ T, p.1 = P → p.2 = X.env.qual ++ "<lambda>") (hT : Tabs T H) (hfree : ∀ y ∈ scope.names, y.2 = .free → ∃ c, X.env.cells.lookup y.1 = some c)
    (ht0 : s.heap.get? t0 = some ot) (hn0 : H t0 = none)
    (h : ∀ (f c' : Addr) (pm ctv doc : Value) (H1 : Hp) (s' : Shared), Inv X pins σ H1 s' → ExtN H H1 → (∀ b, H b ≠ none → H1 b ≠ none) → Tabs T H1 →
      s'.heap.get? f = some (PySem.W.kdv_obj "<lambda>" (X.env.qual ++ "<lambda>") params (.expr body) scope (cloFrom X.env.cells scope.names []) (.ref t0) doc pm c' ctv) → H1 f = none → f ∉ frs X.stack → H1 c' = some (CodeO c' (X.env.qual ++ "<lambda>")) →
      s'.heap.get? t0 = some ot → H1 t0 = none → Q (.ref f) s') :
    wpAny (model X.prog X.w) X.A (makeTail "<lambda>" (X.env.qual ++ "<lambda>") params (.expr body) scope X.env (.ref t0) .none none pos pos.line) Q E s := by
  obtain ⟨ps, hP, ht, ha⟩ := hT _ hm
  have bP : s.heap.BuiltinsAt X.mg P := TB.bm.keeps I.bk
  have hP' : s.heap.get? P = some { cls := .none, data := .fields ps } := I.hok P _ hP
  have n0P : t0 ≠ P := fun z => by rw [z, hP] at hn0; cases hn0
  have nofr : ∀ f, s.heap.objs.size ≤ f → f ∉ frs X.stack := fun f hf z => by
    rcases List.mem_cons.mp (I.stkSub _ z) with e | e
    · have h1 := I.lt
      rw [← e] at h1
      exact Nat.lt_irrefl _ (Nat.lt_of_lt_of_le h1 hf)
    · exact I.nofs hf e
  cases hc : codeAmong pos ps.toList with
  | none =>
    refine PySem.W.kdv_makeTail (mg := X.mg) (c := c) (P := P) (ps := ps) (closure_ok hfree) I.ok.glob (I.mod.glob.keeps I.bk) hcode (TB.code.keeps I.bk) hP' ht hc TB.gP bP fun c' ctv doc h' tk hx hge hlt hrec htb => ?_
    obtain ⟨c2, oc, vs, t, e2, hoc, hd, hv⟩ := hrec
    cases e2
    have hsz : s.heap.objs.size ≤ h'.objs.size := Nat.le_trans hge (Nat.le_of_lt hlt)
    have nC : H c' = none := I.hok.fresh hge
    have I1 := inv_table (t' := tk) (more := #[rawInt pos.line, rawInt pos.col, .ref c']) (h' := h'.push (PySem.W.kdv_obj "<lambda>" (X.env.qual ++ "<lambda>") params (.expr body) scope (cloFrom X.env.cells scope.names []) (.ref t0) doc ((X.mg "__name__").getD .none) c' ctv)) I hP
      (fun b o hb e => Heap.get?_push_of_some _ (hx b o hb e)) (Heap.get?_push_of_some _ htb) hge ⟨oc, vs, t, Heap.get?_push_of_some _ hoc, hd, hv⟩
    have hE : ExtN H (upd (upd H P (.tbl (ps ++ #[rawInt pos.line, rawInt pos.col, .ref c']))) c' (CodeO c' (X.env.qual ++ "<lambda>"))) := fun b o e n => by
      rw [upd_ne (ne_of_none e nC), upd_ne (fun z => n ps (Option.some.inj (e.symm.trans (by rw [z]; exact hP))))]
      exact e
    have eL : (ps ++ #[rawInt pos.line, rawInt pos.col, .ref c']).toList = ps.toList ++ [rawInt pos.line, rawInt pos.col, .ref c'] := by simp
    refine h h'.objs.size c' ((X.mg "__name__").getD .none) ctv doc _ _ I1 hE (fun b hb => ?_) (fun p hp => ?_) (Heap.get?_push_size _ rfl) ?_ (nofr _ hsz) upd_same (Heap.get?_push_of_some _ (hx _ _ n0P ht0)) ?_
    · by_cases z1 : b = c'
      · rw [z1, upd_same]; simp
      · rw [upd_ne z1]
        by_cases z2 : b = P
        · rw [z2, upd_same]; simp
        · rw [upd_ne z2]; exact hb
    · by_cases hb : p.1 = P
      · rw [hu p hp hb, hb]
        refine ⟨_, by rw [upd_ne (ne_of_none hP nC), upd_same], by rw [eL]; exact PySem.TriplesOk_snoc _ _ _ _ ht, fun p' cv hcv => ?_⟩
        rw [eL] at hcv
        rcases among_app _ ht hcv with z | z
        · obtain ⟨c0, e1, e2⟩ := ha p' cv z
          exact ⟨c0, e1, hE _ _ e2 codeO_ne⟩
        · exact ⟨c', z, upd_same⟩
      · obtain ⟨ps', a1, a2, a3⟩ := hT p hp
        refine ⟨ps', by rw [upd_ne (ne_of_none a1 nC), upd_ne hb]; exact a1, a2, fun p' cv hcv => ?_⟩
        obtain ⟨c0, e1, e2⟩ := a3 p' cv hcv
        exact ⟨c0, e1, hE _ _ e2 codeO_ne⟩
    · have n1 : h'.objs.size ≠ c' := Nat.ne_of_gt hlt
      have n2 : h'.objs.size ≠ P := Nat.ne_of_gt (Nat.lt_of_lt_of_le (Heap.lt_size hP') hsz)
      rw [upd_ne n1, upd_ne n2]
      exact I.hok.fresh hsz
    · have n1 : t0 ≠ c' := Nat.ne_of_lt (Nat.lt_of_lt_of_le (Heap.lt_size ht0) hge)
      rw [upd_ne n1, upd_ne n0P]
      exact hn0
  | some cv =>
    obtain ⟨c', e, hco⟩ := ha pos cv hc
    subst e
    refine PySem.W.kdv_makeTailHit (mg := X.mg) (c := c) (P := P) (ps := ps) (closure_ok hfree) I.ok.glob (I.mod.glob.keeps I.bk) hcode (TB.code.keeps I.bk) hP' ht hc bP fun ctv doc h' tk hx hsz => ?_
    have I1 : Inv X pins σ H { s with heap := h'.push (PySem.W.kdv_obj "<lambda>" (X.env.qual ++ "<lambda>") params (.expr body) scope (cloFrom X.env.cells scope.names []) (.ref t0) doc ((X.mg "__name__").getD .none) c' ctv), toks := tk } := I.kept fun b o e => Heap.get?_push_of_some _ (hx b o e)
    exact h h'.objs.size c' ((X.mg "__name__").getD .none) ctv doc H _ I1 (ExtN.refl H) (fun _ z => z) hT (Heap.get?_push_size _ rfl) (I.hok.fresh hsz) (nofr _ hsz) hco (Heap.get?_push_of_some _ (hx _ _ ht0)) hn0
theorem lam_makeD {T : List (Addr × Str)} {c P : Addr} {params : Arguments} {body : Expr} {scope : Scope} {pos : Pos} {E : Value → Shared → Prop} {Q : Value → Shared → Prop} {i0 : Int} {cp : Pos} {j0} (I : Inv X pins σ H s) (TB : TabB X.base X.mg c P) (hcode : X.env.code = .ref c)
    (hm : (P, X.env.qual ++ "<lambda>") ∈ T) (hu : ∀ p ∈ T, p.1 = P → p.2 = X.env.qual ++ "<lambda>") (hT : Tabs T H) (hd2 : params.defaults = [.Constant (.int i0) j0 cp]) (hk0 : params.kw_defaults = []) (hfree : ∀ y ∈ scope.names, y.2 = .free → ∃ c, X.env.cells.lookup y.1 = some c)
    (h : ∀ (f c' t0 : Addr) (pm ctv doc : Value) (tk0 : Tok) (H1 : Hp) (s' : Shared), Inv X pins σ H1 s' → ExtN H H1 → (∀ b, H b ≠ none → H1 b ≠ none) → Tabs T H1 →
      s'.heap.get? f = some (PySem.W.kdv_obj "<lambda>" (X.env.qual ++ "<lambda>") params (.expr body) scope (cloFrom X.env.cells scope.names []) (.ref t0) doc pm c' ctv) → H1 f = none → f ∉ frs X.stack → H1 c' = some (CodeO c' (X.env.qual ++ "<lambda>")) →
      s'.heap.get? t0 = some (PySem.W.kdv_tup [.int i0 tk0]) → H1 t0 = none → t0 ∉ frs X.stack → Q (.ref f) s') :
    wpAny (model X.prog X.w) X.A (eval (.Lambda params body scope pos) X.env) Q E s := by
  refine PySem.W.kdv_lam (by rw [hd2]; rfl) hk0 ?_
  rw [hd2]
  refine PySem.W.kdv_all1 (thn ((pe_int (X := X) (i := i0) (j := j0) (pos := cp)).run pins s σ H (fun v H1 => v = .int i0 ∧ H1 = H) I ⟨rfl, rfl⟩) fun u0 s1 ⟨v0, H0, I0, r0, ev, eH⟩ => ?_)
  subst ev
  rw [eH] at I0
  obtain ⟨tk0, e0⟩ := (show ∃ t, u0 = Value.int i0 t from r0)
  subst e0
  refine PySem.W.kdv_all0 ?_
  rw [makeFunction_eq]
  simp only [List.zip_nil_right, List.filterMap_nil, List.isEmpty_nil, List.isEmpty_cons, if_true, pure_bind, Bool.false_eq_true, if_false]
  refine wpAny_bind (wpAny_newTextTuple ?_)
  have rt : s1.heap.objs.size ∉ frs X.stack := fun z => by
    rcases List.mem_cons.mp (I0.stkSub _ z) with e | e
    · have h1 := I0.lt
      rw [← e] at h1
      exact Nat.lt_irrefl _ h1
    · exact I0.nofs (Nat.le_refl _) e
  have I1 : Inv X pins σ H { s1 with heap := s1.heap.push (PySem.W.kdv_tup [.int i0 tk0]) } := I0.kept (t' := s1.toks) fun b o e => Heap.get?_push_of_some _ e
  exact lam_tailD I1 TB hcode hm hu hT hfree (Heap.get?_push_size _ rfl) (I0.hok.fresh (Nat.le_refl _)) fun f c' pm ctv doc H1 s' J eN hsN T1 hf hfn hfr hco ht1 hn1 => h f c' _ pm ctv doc tk0 H1 s' J eN hsN T1 hf hfn hfr hco ht1 hn1 rt
end
section
variable {X : Cx} {B : Ent} {ok : OkX} {cls : Clss} {K : PySem.W.Frag} {G H : Hp} {σ : St} {ρ : En}
theorem ee_lamD {x : Str} {c P : Addr} {k j : Nat} {F : R PyData → R PyData} {params : Arguments} {body : Expr} {scope : Scope} {fl : EF} {p lpos pos : Pos} (caps : List Nat) (cx : CtxE cls X B ok) (C : HCallee X.prog X.w X.K X.mg X.base cls B.T (k + 1) x F) (hr : Room j X.A)
    (TB : TabB X.base X.mg c P) (hcode : X.env.code = .ref c) (hmT : (P, X.env.qual ++ "<lambda>") ∈ B.T.t) (hu : ∀ p ∈ B.T.t, p.1 = P → p.2 = X.env.qual ++ "<lambda>") {px : Str} (ix : Nat) {i0 : Int} {cp : Pos} {j0} (L : LamD X.env.scope scope X.N px ix)
    (hbody : ∀ (A : Around) (outer : List Env) (s : Shared) (H : Hp) (E : XK) (f c' : Addr) (B' : Ent) (ok' : OkX), B'.T = B.T → Room k (A.deeper (lamEnv X scope s.heap.objs.size f c')) → A.guards = some [] → CtxE cls (lamCx X A outer s H E scope f c') B' ok' →
      EE (lamCx X A outer s H E scope f c') B' ok' body fl)
    (hk : k + 2 ≤ j := by decide) (hg : Gl X x := by rfl) (hd2 : params.defaults = [.Constant (.int i0) j0 cp] := by rfl) (hk0 : params.kw_defaults = [] := by rfl)
    (hbind : ∀ (q : Str) (cl : List (Str × Addr)) (t0 : Addr) (doc pm cv ctv : Value), ∃ kk, bindArgs (PySem.W.kdv_fn "<lambda>" q params (.expr body) scope cl (.ref t0) doc pm cv ctv) ⟨[], []⟩ = seqItems? (.ref t0) >>= kk ∧ ∀ tk, kk (some #[.int i0 tk]) = pure [(px, .int i0 tk)] := by intro _ _ _ _ _ _ _; exact ⟨_, rfl, fun _ => rfl⟩) (hdb : (x == ("__debug__" : Str)) = false := by decide) :
    EE X B ok (.Call (.Name x p) [.Lambda params body scope lpos] [] pos) (fLamX caps ix F fl) := by
  obtain ⟨E, tk, good⟩ := cx.exc
  have pss : Passes (L2.CX X.prog X.w) X E := passes_call tk fun _ _ _ _ h => h
  obtain ⟨g, fd, a, Ng, st, gh, Fn, S, hN0, hva, hda, hca, hm, hkp, hb, hOk, rfl⟩ := C.ex
  obtain ⟨oc, od, kV, doc, pm, an, cdv, ct, osl, rfl, lk, hcd⟩ := Fn.ex
  -- the reading: what the frame shares is seen from within
  refine ⟨fun σ H Q => ∃ G ρ, Rel X.K B G H σ ρ ∧ ((fnL Ng gh) (valR (fl (shOnly (ρ.set ix .un))))).sat (fun d => ∀ v H' G', Grow B.T [] G H G' H' → Tr X.K G' v d → Q v H') ok, ⟨fun pins s σ H Q I ⟨G, ρ, rl, q⟩ => ?_⟩, fun σ H G ρ Q r q => ?_⟩
  · have hT := rl.tabs cx.tabs
    refine wpAny_Call_Name_kw (ld_glob I hg hm ?_ hdb)
    refine PySem.W.callWith_K (h₀ := X.base) I.ok.mod.kin hkp ?_ (by rfl) (by rfl)
    show wpAny _ _ (spliced ((false, eval (.Lambda params body scope lpos) X.env) :: backTo pos (starEach [] X.env))) _ _ s
    refine Calls.spliced_cons (lam_makeD I TB hcode hmT hu hT.1 hd2 hk0 (L.has I.ok) fun f c' t0 pm' ctv doc tk0 H1 s' I1 eN hsN T1 hf hfn hfr hco ht1 hn1 hr1 => ?_)
    refine Calls.spliced_nil ⟨I1.kIn, ?_⟩
    -- the making of the lambda is a growth
    have g1 : Grow B.T [] G H G H1 := grow_lam rl.sub eN hsN T1
    have rl1 := rl.step g1
    have B0T : Base X.K B.T G H1 := ⟨T1, hT.2⟩
    have rc : codeAny (model X.prog X.w) X.A (.call (.ref g) ⟨[.ref f], []⟩) (CR (L2.CX X.prog X.w) X.stack X.prog X.w H1 s' Q E) s' := by
      refine run_ofS (N := Ng) (ps := [a]) (us := [.ref f]) (vs := [.ref f]) lk hcd S (hr.mono hk) I1.env0 (hb s' [.ref f] I1.kIn rfl) (.cons rfl .nil) rfl fun hr' => ?_
      have cxg := ctx_of (cls := cls) (P := X.prog) (w := X.w) (K := X.K) (mg := X.mg) (base := X.base) (N := Ng) (qual := x) (sc := defScope st) (f := g) (cdv := cdv) (A := X.A) (outer := X.stack) (s := s') (H := H1) (E := E) (B := { T := B.T, io := [], G := G, H := H1, lam := f }) B0T cx.gd
      have thk : Thk cls (cxOf (L2.CX X.prog X.w) X.prog X.w X.K X.mg X.base Ng x (defScope st) g cdv X.A X.stack s' H1 E) { T := B.T, io := [], G := G, H := H1, lam := f } a (valR (fl (shOnly (ρ.set ix .un)))) := by
        intro pn xe B2 ok2 p1 p2 cx2 eH eT eIo eL sG
        obtain ⟨E2, tk2, good2⟩ := cx2.exc
        refine ⟨_, pe_actD (i := 0) (i0 := i0) (tk0 := tk0) (px := px) (t0 := t0) (E := E2) (tb := fun σ' HZ Q => ∃ G1, Sub G G1 ∧ (∀ b o, G1 b = some o → HZ b = some o ∧ ∀ ps, o ≠ .tbl ps) ∧ Base X.K B.T G1 HZ ∧ Rel X.K B G H1 σ' (ρ.set ix .un) ∧
            (valR (fl (shOnly (ρ.set ix .un)))).sat (fun d => ∀ v H' G', Grow B.T [] G1 HZ G' H' → Tr X.K G' v d → Q v H') (ErrOk X.K B.T cls [] G1 HZ E2)) I1 L hf hfn hfr ht1 hn1 hr1 (fun s0 hs0 => by obtain ⟨kk, b1, b2⟩ := hbind (X.env.qual ++ "<lambda>") (cloFrom X.env.cells scope.names []) t0 doc pm' (.ref c') ctv; exact BindsTo.of_defaults rfl hs0 rfl b1 (b2 tk0)) tk2 (fun _ _ _ _ h => h) (k := k) hr' cx.gd
          (fun A outer s2 H2 hr2 hg2 => ?_) hN0 hva hda hca, fun σ2 HZ GZ ρ2 Q2 rz qz => ?_⟩
        · refine ⟨fun pins2 s3 σ3 HZ Q3 I3 ⟨G1, sG1, sub3, bs, rl3, q3⟩ => ?_⟩
          have cxl : CtxE cls (lamCx X A outer s2 H2 E2 scope f c') { T := B.T, io := [], G := G1, H := HZ } (ErrOk X.K B.T cls [] G1 HZ E2) :=
            ⟨rfl, bs, hg2, E2, takes_of rfl rfl rfl rfl, fun _ _ h => h⟩
          obtain ⟨t, pe, kk⟩ := (hbody A outer s2 H2 E2 f c' { T := B.T, io := [], G := G1, H := HZ } _ rfl hr2 hg2 cxl).ex
          refine pe.run pins2 s3 σ3 HZ Q3 I3 (kk σ3 HZ G1 (shOnly (ρ.set ix .un)) Q3 (rel_shOnly rl3 sG1 sub3) ?_)
          cases ef : fl (shOnly (ρ.set ix .un)) with
          | ok y =>
            rw [ef] at q3
            exact fun v H' G' _ r' t' => q3 v H' G' r'.bd t'
          | er c d => rw [ef] at q3; exact q3
          | no => rw [ef] at q3; exact q3
        · obtain ⟨h0, qz⟩ := ite_sat qz
          · have e0 : σ2[0]? = some (some (.ref B2.lam)) := rz.at_ 0 _ (isLam_is h0)
            rw [eL] at e0
            have ec : HZ c' = some (CodeO c' (X.env.qual ++ "<lambda>")) := rz.bd.hm c' _ (by rw [eH]; exact hco) (by rw [eIo]; simp) codeO_ne
            have bz := rz.tabs cx2.tabs
            rw [eT] at bz
            refine ⟨e0, ec, GZ, sG.trans rz.bd.gm, rz.sub, bz, rl1.setUn, ?_⟩
            cases ev : valR (fl (shOnly (ρ.set ix .un))) with
            | ok d =>
              rw [ev] at qz
              intro v H' G' g' t'
              have g2 : Grow B2.T [] GZ HZ G' H' := by rw [eT]; exact g'
              exact qz v H' G' (Adv.grow g2) (rz.step g2) t'
            | er c d =>
              rw [ev] at qz
              have z := (good2 c d qz).later rz.bd
              rw [eT, eIo] at z
              exact z
            | no => rw [ev] at qz; exact qz
      obtain ⟨t, pt, kt⟩ := (hOk cdv X.A X.stack s' H1 E { T := B.T, io := [], G := G, H := H1, lam := f } _ (valR (fl (shOnly (ρ.set ix .un)))) rfl rfl hr' cx.gd cxg thk).ex
      refine ⟨t, pt, kt _ H1 G (startL Ng) _ (rel_startL rl1.sub hN0) ?_⟩
      unfold fnL at q
      cases e : gh (valR (fl (shOnly (ρ.set ix .un)))) (startL Ng) with
      | nx ρ' => rw [e] at q; exact fun σ H' G' s' r => q .non H' G' (g1.trans r.bd) .non
      | rt d ρ' => rw [e] at q; exact fun v σ H' G' s' r t' => q v H' G' (g1.trans r.bd) t'
      | rn d ρ' =>
        rw [e] at q
        exact fun p σ H' G' s' r x => by
          obtain ⟨G2, s2, _, r2, t2⟩ := r.frz x
          exact q _ H' G2 (g1.trans r2.bd) t2
      | er c d =>
        rw [e] at q
        have z := ((good c d q).later rl1.bd).io
        exact z
      | bk ρ' => rw [e] at q; exact q.elim
      | ct ρ' => rw [e] at q; exact q.elim
      | no => rw [e] at q; exact q.elim
    refine wpAny_call (codeAny_mono rc fun r s2 hq => ?_)
    cases r with
    | error e => exact pss pins σ _ _ e s2 I1 hq
    | ok fl =>
      cases fl with
      | ret u => exact I1.after hq
      | next => exact False.elim hq
      | brk => exact False.elim hq
      | cont => exact False.elim hq
  · obtain ⟨G', a', r'⟩ := fzsA (is := caps) r
    refine ⟨G', _, r', (R.sat_bind q).imp fun d qd v H2 G2 g t => ?_⟩
    exact qd v H2 G2 (a'.trans (Adv.grow g)) (r'.step g) t
end
end Y


/-! YIsi: isinstance of an error, or of any other value, and an error's class. -/
namespace Y
open PySem PySem.Spec PyProof.Rows L2
/-- what a class tells of isinstance: of the errors, of all else -/
structure IsaC (K : PySem.W.Frag) (es : List Str) (sub : Str → Str → Bool) (x : Str) (u : Value) : Prop where
  exc : ∀ c ∈ es, ∀ C, clsOf K c = some C → ExcC K C ∧ PySem.W.kitOne K (.ref C) u = some (sub c x)
  typ : ∀ t ∈ ["NoneType", "bool", "int", "str", "list", "tuple", "dict"], PySem.W.kitOne K (.type t) u = some false
def isaV (es : List Str) (sub : Str → Str → Bool) (n : Str) : PyData → Option Bool
  | .dict [(.none, .str c), (.none, _)] => if c ∈ es then some (sub c n) else none
  | d => if isExc d = false then some false else none
def fIsa (es : List Str) (sub : Str → Str → Bool) (n : Str) (f : EF) : EF := fun ρ => (f ρ).bind fun x => match isaV es sub n x.1 with
  | some b => .ok (.bool b, x.2)
  | none => .no
theorem isa_ok {X : Cx} {pins : List (Addr × Obj)} {σ : St} {H G : Hp} {s : Shared} {es : List Str} {sub : Str → Str → Bool} {n : Str} {v : V} {u cu : Value} {d : PyData} {b : Bool} {A : Around} {E : Value → Shared → Prop} {Q : Value → Shared → Prop} (I : Inv X pins σ H s) (hs : Sub G H) (t : Tr X.K G v d) (rv : RelV v u) (C : IsaC X.K es sub n cu)
    (hb : isaV es sub n d = some b) (h : ∀ tk, Q (.bool b) { s with toks := tk }) : wpAny (model X.prog X.w) A (call (.builtin "isinstance") [u, cu]) Q E s := by
  by_cases hx : isExc d = false
  · have e : b = false := by
      unfold isaV at hb
      split at hb
      · cases hx
      · rw [if_pos hx] at hb
        exact (Option.some.inj hb).symm
    subst e
    obtain ⟨P, Z, p, hne⟩ := kit_of I rv (tyx_of hs t hx)
    exact PySem.W.kia_one Z I.kIn p (C.typ _ (tyOf_mem d)) hne h
  · cases t with
    | @exc a dx D c v0 d0 ha hn hd t0 =>
      have hb : (if c ∈ es then some (sub c n) else none) = some b := hb
      split at hb
      · rename_i hc
        cases hb
        obtain ⟨T, k⟩ := C.exc c hc D hn
        obtain rfl : u = Value.ref a := rv
        obtain ⟨⟨oe, vs, ho, hz, hda⟩, _⟩ := (show ObjOk X.prog X.w H s.heap a (Y.ExF a (.ref D) dx) from I.hok a _ (hs _ _ ha))
        obtain ⟨mA, hns, hr⟩ := (show ObjOk X.prog X.w H s.heap dx (.xd [(fld c, v0)]) from I.hok dx _ (hs _ _ hd))
        obtain ⟨od, hod, hl⟩ := lookIn_ns hns
        have J : PySem.W.InstAt s.heap a oe D (some od) := ⟨ho, hz.1, by unfold PySem.W.notCls; rw [hda] <;> rfl, by rw [hz.2]; exact hod⟩
        exact PySem.W.kia_one (PySem.W.kitx_exc (by obtain ⟨cd, hc, _⟩ := PySem.W.any_some T.hd; rw [hc]; rfl) T.hg T.hk T.hs T.ha T.hn T.ht T.hm) I.kIn J k (fun z => nomatch z) h
      · cases hb
    | dK h t =>
      exfalso
      apply hx
      cases t with
      | nil => rfl
      | @cons k _ _ _ _ _ _ => cases k <;> rfl
    | _ => exact absurd rfl hx
/-- isinstance(x, c) -/
def rIsaE (es : List Str) (sub : Str → Str → Bool) (n : Str) (K : PySem.W.Frag) (cu : Value) : List V → Hp → VK → Prop := fun xs H Q => ∃ (v c : V) (d : PyData) (G : Hp) (b : Bool), xs = [v, c] ∧ (∀ u, RelV c u → u = cu) ∧ Sub G H ∧ Tr K G v d ∧
  isaV es sub n d = some b ∧ Q (.bl b) H
theorem call_isaE {X : Cx} {es : List Str} {sub : Str → Str → Bool} {n : Str} {cu : Value} (C : IsaC X.K es sub n cu) : CallR X (.builtin "isinstance") (rIsaE es sub n X.K cu) := by
  intro pins s σ H xs us Q I r h
  obtain ⟨v, c, d, G, b, rfl, hc, hs, t, hb, q⟩ := h
  obtain ⟨u1, u2, rfl, r1, r2⟩ := vals2 r
  obtain rfl := hc _ r2
  exact isa_ok I hs t r1 C hb fun tk => ⟨.bl b, H, I.tok tk, rfl, q⟩
section
variable {X : Cx} {B : Ent} {ok : OkX} {e : Expr} {f : EF} {pos p : Pos} {es : List Str} {sub : Str → Str → Bool} {n : Str}
/-- an own class -/
theorem ee_isaO {D : Addr} {p1 : Pos} (hm : X.mg "isinstance" = none) (hy : X.mg n = some (.ref D)) (C : IsaC X.K es sub n (.ref D)) (h : EE X B ok e f) (hg : Gl X "isinstance" := by rfl) (hgy : Gl X n := by rfl) (hdy : (n == ("__debug__" : Str)) = false := by decide)
    (h1 : starEach [e, .Name n p1] X.env = (false, eval e X.env) :: starEach [.Name n p1] X.env := by rfl) (h2 : starEach [.Name n p1] X.env = (false, eval (.Name n p1) X.env) :: starEach [] X.env := by rfl)
    (hpl : (backTo pos (starEach [.Name n p1] X.env)).any (·.1) = false := by rfl) : EE X B ok (.Call (.Name "isinstance" p) [e, .Name n p1] [] pos) (fIsa es sub n f) := by
  obtain ⟨t, pe, k⟩ := h.ex
  have py : PE X (.Name n p1) (tC (.ref D)) := pe_glob (v := .ref D) hgy hy rfl hdy
  refine ⟨_, pe_callB (call_isaE C) hg hm (by decide +kernel) (pa_cons pe (pa_cons py pa_nil h2) h1) (by decide) (by decide) h1 hpl, fun σ H G ρ Q r q => k σ H G ρ _ r ((R.sat_bind q).imp fun y q v H1 G1 s1 r1 t1 => ?_)⟩
  cases hb : isaV es sub n y.1 with
  | none => rw [hb] at q; exact q.elim
  | some b => rw [hb] at q; exact ⟨v, .ref D, y.1, G1, b, rfl, fun u r => r, r1.subG, t1, hb, q _ H1 G1 s1 r1 (.bl b)⟩
/-- a built-in class -/
theorem ee_isaB {y : Str} {m : String} {p1 : Pos} (hm : X.mg "isinstance" = none) (hy : X.mg y = none) (hv : bootBuiltins y = some (.type m)) (C : IsaC X.K es sub y (.type m)) (h : EE X B ok e f) (hg : Gl X "isinstance" := by rfl) (hgy : Gl X y := by rfl)
    (hny : y ≠ "__name__" := by decide) (hdy : (y == ("__debug__" : Str)) = false := by decide)
    (h1 : starEach [e, .Name y p1] X.env = (false, eval e X.env) :: starEach [.Name y p1] X.env := by rfl) (h2 : starEach [.Name y p1] X.env = (false, eval (.Name y p1) X.env) :: starEach [] X.env := by rfl)
    (hpl : (backTo pos (starEach [.Name y p1] X.env)).any (·.1) = false := by rfl) : EE X B ok (.Call (.Name "isinstance" p) [e, .Name y p1] [] pos) (fIsa es sub y f) := by
  obtain ⟨t, pe, k⟩ := h.ex
  have py : PE X (.Name y p1) (tC (.ty m)) := pe_bltn hgy hy hv rfl hny hdy
  refine ⟨_, pe_callB (call_isaE C) hg hm (by decide +kernel) (pa_cons pe (pa_cons py pa_nil h2) h1) (by decide) (by decide) h1 hpl, fun σ H G ρ Q r q => k σ H G ρ _ r ((R.sat_bind q).imp fun yy q v H1 G1 s1 r1 t1 => ?_)⟩
  cases hb : isaV es sub y yy.1 with
  | none => rw [hb] at q; exact q.elim
  | some b => rw [hb] at q; exact ⟨v, .ty m, yy.1, G1, b, rfl, fun u r => r, r1.subG, t1, hb, q _ H1 G1 s1 r1 (.bl b)⟩
end
/-! looked at -/
def excCB (K : PySem.W.Frag) (D : Addr) : Bool :=
  decide (PySem.W.findIn K (.ref D) "__getattribute__" = some (some (.builtin "BaseException.__getattribute__"))) && (decide (PySem.W.findIn K (.ref D) "__getattr__" = some none) && (decide (PySem.W.subIn K (.ref D) (.type "BaseException") = some true) && (PySem.W.hasDictIn K D &&
    (decide (PySem.W.findIn K (.ref D) "__class__" = some (some (.builtin "object.__class__"))) && (decide (PySem.W.specialIn K (.builtin "object.__class__") "__get__" = some (some (.builtin "getset_descriptor.__get__"))) && (decide (PySem.W.takesIn K (.builtin "object.__class__") = some true) && decide (PySem.W.mroIn K D (.type "object") = some true)))))))
theorem excCB_ok {K : PySem.W.Frag} {D : Addr} (h : excCB K D = true) : ExcC K D := by
  unfold excCB at h
  simp only [Bool.and_eq_true, decide_eq_true_eq] at h
  obtain ⟨h1, h2, h3, h4, h5, h6, h7, h8⟩ := h
  exact ⟨h1, h2, h3, h4, h5, h6, h7, h8⟩
def isaB (K : PySem.W.Frag) (es : List Str) (ad : Str → Addr) (sub : Str → Str → Bool) (x : Str) (u : Value) : Bool :=
  es.all (fun c => decide (clsOf K c = some (ad c)) && (excCB K (ad c) && decide (PySem.W.kitOne K (.ref (ad c)) u = some (sub c x)))) && ["NoneType", "bool", "int", "str", "list", "tuple", "dict"].all fun t => decide (PySem.W.kitOne K (.type t) u = some false)
theorem isaB_ok {K : PySem.W.Frag} {es : List Str} {ad : Str → Addr} {sub : Str → Str → Bool} {x : Str} {u : Value} (h : isaB K es ad sub x u = true) : IsaC K es sub x u := by
  unfold isaB at h
  simp only [Bool.and_eq_true, decide_eq_true_eq, List.all_eq_true] at h
  refine ⟨fun c hc C hC => ?_, fun t ht => h.2 t ht⟩
  obtain ⟨h1, h2, h3⟩ := h.1 c hc
  rw [h1] at hC
  cases hC
  exact ⟨excCB_ok h2, h3⟩
end Y


/-! YSet: len(set(xs)), xs a list of tuples of ints. -/
namespace Y
open PySem PySem.Spec PyProof.Rows L2
def isI : List PyData → Option (List Int)
  | [] => some []
  | .int i :: r => (isI r).map (i :: ·)
  | _ => none
def tupsI : List PyData → Option (List (List Int))
  | [] => some []
  | .tuple ds :: r => match isI ds, tupsI r with
    | some k, some ks => some (k :: ks)
    | _, _ => none
  | _ => none
def ddup {α : Type} [DecidableEq α] : List α → List α
  | [] => []
  | x :: xs => if x ∈ xs then ddup xs else x :: ddup xs
theorem mem_ddup {α : Type} [DecidableEq α] {x : α} : ∀ {l : List α}, x ∈ ddup l ↔ x ∈ l
  | [] => Iff.rfl
  | y :: l => by
    unfold ddup
    split
    · rename_i h
      rw [mem_ddup, List.mem_cons]
      exact ⟨.inr, fun z => z.elim (fun e => e ▸ h) id⟩
    · rw [List.mem_cons, List.mem_cons, mem_ddup]
theorem nodup_ddup {α : Type} [DecidableEq α] : ∀ {l : List α}, (ddup l).Nodup
  | [] => List.nodup_nil
  | y :: l => by
    unfold ddup
    split
    · exact nodup_ddup
    · rename_i h
      exact List.nodup_cons.mpr ⟨fun z => h (mem_ddup.mp z), nodup_ddup⟩
theorem len_le_of_sub {α : Type} [DecidableEq α] : ∀ {l D : List α}, l.Nodup → (∀ x ∈ l, x ∈ D) → l.length ≤ D.length
  | [], _, _, _ => Nat.zero_le _
  | x :: l, D, hn, hs => by
    obtain ⟨h1, h2⟩ := List.nodup_cons.mp hn
    have hx : x ∈ D := hs x List.mem_cons_self
    have ih := len_le_of_sub (l := l) (D := D.erase x) h2 fun y hy => (List.mem_erase_of_ne (fun (e : y = x) => h1 (e ▸ hy))).2 (hs y (List.mem_cons_of_mem _ hy))
    have e := List.length_erase_of_mem hx
    have hp : 0 < D.length := List.length_pos_of_mem hx
    rw [List.length_cons]
    omega
theorem len_same {α : Type} [DecidableEq α] {l m : List α} (hl : l.Nodup) (hm : m.Nodup) (h : ∀ x, x ∈ l ↔ x ∈ m) : l.length = m.length :=
  Nat.le_antisymm (len_le_of_sub hl fun x hx => (h x).mp hx) (len_le_of_sub hm fun x hx => (h x).mpr hx)
section
variable {K : PySem.W.Frag} {G : Hp}
theorem isI_tr : ∀ {xs : List V} {ds : List PyData} {k : List Int}, TrAll K G xs ds → isI ds = some k → xs = k.map V.int
  | _, _, _, .nil, h => by cases h; rfl
  | _, _, _, .cons (d := d) t r, h => by
    cases d with
    | int i =>
      unfold isI at h
      obtain ⟨k', h1, h2⟩ := Option.map_eq_some_iff.mp h
      subst h2
      cases t
      rw [isI_tr r h1]; rfl
    | _ => cases h
theorem tupsI_tr : ∀ {xs : List V} {ds : List PyData} {kss : List (List Int)}, TrAll K G xs ds → tupsI ds = some kss →
    ∃ ks : List (Addr × List Int), xs = ks.map (fun p => V.ref p.1) ∧ ks.map (·.2) = kss ∧ ∀ p ∈ ks, Rd G p.1 (.tup (p.2.map V.int))
  | _, _, _, .nil, h => by cases h; exact ⟨[], rfl, rfl, fun p hp => by cases hp⟩
  | _, _, _, .cons (d := d) t r, h => by
    cases d with
    | tuple es =>
      unfold tupsI at h
      split at h
      · rename_i k ks h1 h2
        cases h
        obtain ⟨L, e1, e2, e3⟩ := tupsI_tr r h2
        cases t with | @tup a xs _ ha ta =>
        have e := isI_tr ta h1
        rw [e] at ha
        refine ⟨(a, k) :: L, by rw [e1]; rfl, by rw [List.map_cons, e2], fun p hp => ?_⟩
        rcases List.mem_cons.mp hp with rfl | hp
        · exact ha
        · exact e3 p hp
      · cases h
    | _ => cases h
end
def gLenSet : PyData → Option PyData
  | .list ds => match tupsI ds with
    | some kss => if kss.length < 64 then some (.int (ddup kss).length) else none
    | none => none
  | _ => none
def fLenSet (f : EF) : EF := fun ρ => (f ρ).bind fun x => match gLenSet x.1 with
  | some d => .ok (d, x.2)
  | none => .no
def tLenSetT (K : PySem.W.Frag) (ta : TE) : TE := fun σ H Q => ta σ H fun x H1 => ∃ (l : Addr) (ks : List (Addr × List Int)), x = V.ref l ∧ SqL K H1 l (ks.map fun p => V.ref p.1) ∧ (∀ p ∈ ks, SqT K H1 p.1 (p.2.map V.int)) ∧ ks.length < 64 ∧ Q (.int (ddup (ks.map (·.2))).length) H1
section
variable {X : Cx} {B : Ent} {ok : OkX} {e : Expr} {f : EF} {pos p p2 q : Pos} {k : Nat}
theorem pe_lenSetT {a : Expr} {ta : TE} (hc : X.calm = true) (hu : X.A.units + 64 < cLine) (hg : Gl X "len") (hm : X.mg "len" = none) (hg2 : Gl X "set") (hm2 : X.mg "set" = none) (ha : PE X a ta)
    (na : starEach [a] X.env = (false, eval a X.env) :: starEach [] X.env := by rfl) : PE X (.Call (.Name "len" p) [.Call (.Name "set" p2) [a] [] q] [] pos) (tLenSetT X.K ta) := by
  refine ⟨fun pins s σ H Q I h => ?_⟩
  refine Call_ (ld_blt I hg hm PySem.boot_len ?_)
  refine PyProof.Rows.callWith_builtin1 (PyProof.Rows.args_cons ?_ rfl) rfl rfl
  refine Call_ (ld_blt I hg2 hm2 PyProof.Rows.boot_set ?_)
  refine PyProof.Rows.callWith_type1 (PyProof.Rows.args_cons (thn (ha.run pins s σ H _ I h) fun v s1 ⟨x, H1, I1, r1, q1⟩ => PyProof.Rows.args_nil ?_) na) na rfl
  obtain ⟨l, ks, rfl, hq, hk, hf, q1⟩ := q1
  cases r1
  obtain ⟨its, rv, pl, hz⟩ := I1.list hq
  refine call_set_tups (P := X.prog) (w := X.w) ks (I1.ok.hd hc) pl.isList (by simpa using refs_of_vals rv) (fun p hp => I1.isT (hk p hp)) hf (by omega) fun h' tk L es ep t R g kp => ?_
  refine PyProof.Rows.args_nil ?_
  have I2 : Inv X pins σ H1 { s1 with heap := h', toks := tk } := I1.kept fun b o e => kp b o e
  obtain ⟨o, ho, hex, hd⟩ := R.ob
  have sz : es.size = L.length := R.size (s := { s1 with heap := h' })
  have en : L.length = (ddup (ks.map (·.2))).length := by
    rw [← List.length_map (f := (·.2))]
    refine len_same R.nd nodup_ddup fun x => ?_
    rw [mem_ddup]
    constructor
    · intro hx
      obtain ⟨p, hp, e⟩ := List.mem_map.mp hx
      exact List.mem_map.mpr ⟨p, List.mem_of_mem_take (g.sub p hp), e⟩
    · intro hx
      obtain ⟨p, hp, e⟩ := List.mem_map.mp hx
      exact e ▸ g.all p (by rw [List.take_length]; exact hp)
  have few := R.few
  refine call_len_set ho hex hd ?_ ?_ ⟨.int (ddup (ks.map (·.2))).length, H1, I2.tok _, ⟨_, by rw [sz, en]⟩, q1⟩
  · exact R.fits (s := { s1 with heap := h' })
  · rw [sz]; omega
theorem ee_lenSet (hc : X.calm = true) (hr : Room k X.A) (hm : X.mg "len" = none) (hm2 : X.mg "set" = none) (h : EE X B ok e f) (hg : Gl X "len" := by rfl) (hg2 : Gl X "set" := by rfl)
    (na : starEach [e] X.env = (false, eval e X.env) :: starEach [] X.env := by rfl) : EE X B ok (.Call (.Name "len" p) [.Call (.Name "set" p2) [e] [] q] [] pos) (fLenSet f) := by
  obtain ⟨t, pe, kk⟩ := h.ex
  refine ⟨_, pe_lenSetT hc (by have := hr.un; omega) hg hm hg2 hm2 pe na, fun σ H G ρ Q r q => kk σ H G ρ _ r ((R.sat_bind q).imp fun y q v H1 G1 s1 r1 t1 => ?_)⟩
  cases hy : gLenSet y.1 with
  | none => rw [hy] at q; exact q.elim
  | some d =>
    rw [hy] at q
    unfold gLenSet at hy
    split at hy
    · rename_i ds ed
      split at hy
      · rename_i kss ek
        split at hy
        · rename_i hl
          cases hy
          rw [ed] at t1
          cases t1 with | @lst a xs _ ha ta =>
          obtain ⟨ks, e1, e2, e3⟩ := tupsI_tr ta ek
          subst e2
          rw [e1] at ha
          exact ⟨a, ks, rfl, .inl (r1.subG.rd ha), fun p hp => sqt (r1.subG.rd (e3 p hp)), by rw [List.length_map] at hl; exact hl, q _ H1 G1 s1 r1 (.int _)⟩
        · cases hy
      · cases hy
    · cases hy
end
end Y


/-! YNew: an error made, as a value. -/
namespace Y
open PySem PySem.Spec PyProof.Rows L2 YEX
section
variable {X : Cx} {B : Ent} {ok : OkX} {cls : Clss} {e : Expr} {f : EF} {p pos : Pos} {k j : Nat}
/-- from a made error to a tracked one -/
theorem mkP_track {pins : List (Addr × Obj)} {σ : St} {C : Addr} {u : Value} {s' : Shared} {R : Addr → Hp → Prop} (h : MkP X pins σ (fun cls d H' => ∃ dx, cls = .ref C ∧ d = some dx ∧ ∀ a, H' a = none → R a (upd H' a (ExF a (.ref C) dx))) u s') :
    ∃ a H2, u = .ref a ∧ Inv X pins σ H2 s' ∧ R a H2 := by
  obtain ⟨a, oe, vs, sI, H', cl, d, rfl, J, k, hne, ha, hz, hd, h1, na, os, ag, r, dx, rfl, rfl, q⟩ := h
  have J2 : Inv X pins σ H' s' := J.call' (ch := []) os (Un.kept k) (J.hok.kept k) ag (fun b z => absurd z (by simp))
  have n0 : X.s_0.heap.get? a = none ∨ a ∈ X.ex := by
    cases q0 : X.s_0.heap.get? a with
    | none => exact .inl rfl
    | some o =>
      by_cases hx : a ∈ X.ex
      · exact .inr hx
      · obtain ⟨o', z⟩ := J.base.there a o q0 hx
        rw [hne] at z; cases z
  have nL : a ≠ X.env.locals := fun z => by
    obtain ⟨m, ⟨o, es, ep, e1, _⟩, _⟩ := J.loc
    rw [← z, hne] at e1; cases e1
  have np : ∀ p ∈ X.pn ++ pins, p.1 ≠ a := fun p hp z => by
    have := (J.pin p hp).1
    rw [z, hne] at this; cases this
  exact ⟨a, _, rfl, J2.trackE ha hz hd n0 na nL np, q a na⟩
theorem pe_of_mk {t : St → Hp → XK → Prop} {C : Addr} (h : PMk X e t) : PE X e (fun σ H Q => t σ H fun cls d H' => ∃ dx, cls = .ref C ∧ d = some dx ∧ ∀ a, H' a = none → Q (.ref a) (upd H' a (ExF a (.ref C) dx))) := by
  refine ⟨fun pins s σ H Q I q => thn (h pins s σ H _ I q) fun u s' hu => ?_⟩
  obtain ⟨a, H2, rfl, J, r⟩ := mkP_track hu
  exact ⟨.ref a, H2, J, rfl, r⟩
def fNew (c : Str) (f : EF) : EF := fun ρ => (f ρ).bind fun x => .ok (excD c x.1, x.2)
/-- what comes behind the making, by data -/
theorem new_fin {c : Str} {C dx : Addr} {σ : St} {H H1 G G1 : Hp} {ρ ρ1 : En} {v : V} {d : PyData} {Q : VK} (hC : clsOf X.K c = some C) (s1 : Adv σ G H ρ G1 H1 ρ1) (r1 : Rel X.K B G1 H1 σ ρ1) (t1 : Tr X.K G1 v d) (hdx : H1 dx = none)
    (q : ∀ v' H' G', Adv σ G H ρ G' H' ρ1 → Rel X.K B G' H' σ ρ1 → Tr X.K G' v' (excD c d) → Q v' H') : ∀ a, upd H1 dx (.xd [(fld c, v)]) a = none → Q (.ref a) (upd (upd H1 dx (.xd [(fld c, v)])) a (ExF a (.ref C) dx)) := by
  intro a ha
  have ne : a ≠ dx := fun z => by rw [z, upd_same] at ha; cases ha
  have g1 : Grow B.T [] G1 H1 (upd G1 dx (.xd [(fld c, v)])) (upd H1 dx (.xd [(fld c, v)])) := Grow.new r1.sub hdx (fun _ z => nomatch z)
  have r2 := r1.step g1
  have g2 : Grow B.T [] (upd G1 dx (.xd [(fld c, v)])) (upd H1 dx (.xd [(fld c, v)])) (upd (upd G1 dx (.xd [(fld c, v)])) a (ExF a (.ref C) dx)) (upd (upd H1 dx (.xd [(fld c, v)])) a (ExF a (.ref C) dx)) := Grow.new r2.sub ha (fun _ z => nomatch z)
  refine q _ _ _ ((s1.trans (Adv.grow g1)).trans (Adv.grow g2)) (r2.step g2) (.exc upd_same hC ?_ ((t1.mono g1.gm).mono g2.gm))
  exact g2.gm _ _ upd_same
/-- C(e) -/
theorem ee_new {c : Str} {C : Addr} (cx : CtxE cls X B ok) (D : ErrC X.prog X.w X.K X.mg X.base k c C) (hC : clsOf X.K c = some C) (hr : Room j X.A) (he : EE X B ok e f) (hk : k + 1 ≤ j := by decide) (hg : Gl X c := by rfl)
    (hdb : (c == ("__debug__" : Str)) = false := by decide) (hs : starEach [e] X.env = (false, eval e X.env) :: starEach [] X.env := by rfl) (hpl : (backTo pos (starEach [] X.env)).any (·.1) = false := by rfl) :
    EE X B ok (.Call (.Name c p) [e] [] pos) (fNew c f) := by
  obtain ⟨E, tk, good⟩ := cx.exc
  obtain ⟨T, newId, initId, tl, fI, fd, ps, b, O, hno, iC, tI, F1, hb⟩ := D.ex
  obtain ⟨t, pe, ke⟩ := he.ex
  refine ⟨_, pe_of_mk (C := C) (pmk_G b O hno iC tI F1 (hr.mono hk) cx.gd hb (passes_call tk fun _ _ _ _ h => h.elim) hg D.mg pe hdb hs hpl), fun σ H G ρ Q r q => ?_⟩
  refine ke σ H G ρ _ r ((R.sat_bind q).imp fun y qy v H1 G1 s1 r1 t1 dx hdx => ?_)
  exact ⟨dx, rfl, rfl, new_fin hC s1 r1 t1 hdx fun v' H' G' a b c => qy v' H' G' a b c⟩
end
end Y


/-! YIdx: xs.index(x), found; xs a list or a tuple of any value. -/
namespace Y
open PySem PySem.Spec PyProof.Rows L2 SeqAt
def idxB (ds : List PyData) (d : PyData) : List Bool := ds.map fun z => PyData.eqv z d
def gIndex (a d : PyData) : Option PyData := match itemsOf a with
  | some ds => if SeqAt.shaped d = true ∧ SeqAt.shaped (.list ds) = true ∧ ds.length ≤ 1000000 ∧ true ∈ idxB ds d then some (.int ((idxB ds d).idxOf true : Nat)) else none
  | none => none
def rIdx (K : PySem.W.Frag) : V → List V → Hp → VK → Prop := fun x xs H Q => ∃ (a : Addr) (y : V) (d : PyData) (vs : List V) (ds : List PyData), x = V.ref a ∧ xs = [y] ∧ (SqL K H a vs ∨ SqT K H a vs) ∧ DpAll K H vs ds ∧ Dp K H y d ∧ SeqAt.shaped (.list ds) = true ∧ SeqAt.shaped d = true ∧
  ds.length ≤ 1000000 ∧ true ∈ idxB ds d ∧ Q (.int ((idxB ds d).idxOf true : Nat)) H
theorem items_of {X : Cx} {pins : List (Addr × Obj)} {σ : St} {H : Hp} {s : Shared} {vs : List V} {ds : List PyData} {its : List Value} {y : V} {d : PyData} {u : Value} (I : Inv X pins σ H s) (ha : DpAll X.K H vs ds) (rv : Vals vs its) (hd : Dp X.K H y d) (ry : RelV y u)
    (sl : SeqAt.shaped (.list ds) = true) (sd : SeqAt.shaped d = true) (hu : X.A.units + 65 < cLine) : ItemsEq X.A.in1 s its (idxB ds d) u true := by
  obtain ⟨bs, r1⟩ := Dp.reads I d y u hd ry
  obtain ⟨as, h4⟩ := Dp.readsAll I ds _ its ha rv
  have hxs : PyData.canLayAll0 ds = true := SeqAt.canLay_of_shaped sl
  have hroom : X.A.units + 1 + min (PyData.depthAll ds) d.depth < cLine := room_in_shaped sd hu
  have hn : its.length = ds.length := SeqAt.ReadsAll.length ds its as h4
  have hmap : its.map (SeqAt.readOf s.heap) = ds := SeqAt.readsAll_map ds its as hxs h4
  have key := SeqAt.items_eqAt (vs := its.toArray) (show ReadsAll s.heap its.toArray.toList ds as from h4) r1 hxs (SeqAt.canLay_of_shaped sd) hroom
  refine ⟨by unfold idxB; rw [List.length_map]; exact hn, fun j h1 h2 => ?_⟩
  have e : (idxB ds d)[j] = PyData.eqv (SeqAt.readOf s.heap its[j]) d := by
    have e0 : (idxB ds d)[j]? = some (idxB ds d)[j] := List.getElem?_eq_getElem h2
    have e1 : (its.map (SeqAt.readOf s.heap))[j]? = some (SeqAt.readOf s.heap its[j]) := by rw [List.getElem?_map, List.getElem?_eq_getElem h1]; rfl
    rw [hmap] at e1
    have e2 : (idxB ds d)[j]? = some (PyData.eqv (SeqAt.readOf s.heap its[j]) d) := by
      show (ds.map fun z => PyData.eqv z d)[j]? = _
      rw [List.getElem?_map, e1]; rfl
    rw [e0] at e2
    exact Option.some.inj e2
  have k := key its[j] (by simp)
  have eb : decide ((idxB ds d)[j] = true) = PyData.eqv (SeqAt.readOf s.heap its[j]) d := by
    rw [e]
    cases PyData.eqv (SeqAt.readOf s.heap its[j]) d <;> rfl
  rw [eb]
  exact k
theorem mt_idxL {X : Cx} (hu : X.A.units + 65 < cLine) : MtR X "list.index" (fun x xs H Q => ∃ (a : Addr) (y : V) (d : PyData) (vs : List V) (ds : List PyData), x = V.ref a ∧ xs = [y] ∧ SqL X.K H a vs ∧ DpAll X.K H vs ds ∧ Dp X.K H y d ∧ SeqAt.shaped (.list ds) = true ∧ SeqAt.shaped d = true ∧
    ds.length ≤ 1000000 ∧ true ∈ idxB ds d ∧ Q (.int ((idxB ds d).idxOf true : Nat)) H) := by
  intro pins s σ H x xs v us Q I rx rxs h
  obtain ⟨a, y, d, vs, ds, rfl, rfl, hs, ha, hd, sl, sd, hz, hm, q⟩ := h
  cases rx
  cases rxs with | cons ry rt =>
  cases rt
  obtain ⟨its, rv, pl, hlen⟩ := I.list hs
  refine call_list_index pl.isList (items_of I ha rv hd ry sl sd hu) ?_ hm ⟨.int _, H, I.tok _, ⟨_, rfl⟩, q⟩
  unfold idxB
  rw [List.length_map]
  have z : (1000000 : Nat) < sizeLine := by decide
  omega
theorem mt_idxT {X : Cx} (hu : X.A.units + 65 < cLine) : MtR X "tuple.index" (fun x xs H Q => ∃ (a : Addr) (y : V) (d : PyData) (vs : List V) (ds : List PyData), x = V.ref a ∧ xs = [y] ∧ SqT X.K H a vs ∧ DpAll X.K H vs ds ∧ Dp X.K H y d ∧ SeqAt.shaped (.list ds) = true ∧ SeqAt.shaped d = true ∧
    ds.length ≤ 1000000 ∧ true ∈ idxB ds d ∧ Q (.int ((idxB ds d).idxOf true : Nat)) H) := by
  intro pins s σ H x xs v us Q I rx rxs h
  obtain ⟨a, y, d, vs, ds, rfl, rfl, hs, ha, hd, sl, sd, hz, hm, q⟩ := h
  cases rx
  cases rxs with | cons ry rt =>
  cases rt
  obtain ⟨its, rv, ⟨o, ho, hc, n, hdt⟩, hlen⟩ := I.tuple hs
  exact call_tuple_index ⟨o, ho, hc, n, hdt⟩ (items_of I ha rv hd ry sl sd hu) hm ⟨.int _, H, I.tok _, ⟨_, rfl⟩, q⟩
/-! ### D[e].index(x), D a dict of the module -/
/-- a known tuple of the module -/
def tyF (x : V) (H : Hp) : Prop := ∃ (b : Addr) (o : Obj) (xs : List V), x = .ref b ∧ H b = some (.frz o (.tup xs)) ∧ o.dict = none
theorem tyF_is {X : Cx} {pins : List (Addr × Obj)} {σ : St} {H : Hp} {s : Shared} {x : V} {v : Value} (I : Inv X pins σ H s) (r : RelV x v) (ty : tyF x H) : s.TypeIs v "tuple" ∧ ∀ a, v = .ref a → ∃ ob, s.heap.get? a = some ob ∧ ob.dict = none := by
  obtain ⟨b, o, xs, rfl, hb, hd⟩ := ty
  obtain rfl : v = Value.ref b := r
  obtain ⟨ho, _, its, _, o', h1, h2, _⟩ := (show ObjOk X.prog X.w H s.heap b (.frz o (.tup xs)) from I.hok b _ hb)
  rw [ho] at h1
  cases h1
  exact ⟨⟨o, ho, h2⟩, fun a e => by cases e; exact ⟨o, ho, hd⟩⟩
def tBF (r : V → List V → Hp → VK → Prop) (to : TE) (t : TA) : TE := fun σ H Q => to σ H fun x H1 => tyF x H1 ∧ t σ H1 fun xs H2 => r x xs H2 Q
section
variable {X : Cx} {B : Ent} {ok : OkX} {cls : Clss} {o e a : Expr} {es : List Expr} {to : TE} {t : TA} {name : Str} {apos cpos p pos : Pos} {id : String} {r : V → List V → Hp → VK → Prop} {f g : EF} {k : Nat}
theorem pe_bF (slot : Slot "tuple" name id) (hty : typeOf (.builtin id) = pure (.type "method_descriptor")) (hm : MtR X id r) (ho : PE X o to) (ha : PA X (e :: es) t)
    (hbase : attributeBase o name X.env (eval o X.env) = eval o X.env)
    (hfew : ((backTo cpos (starEach (e :: es) X.env)).all (fun x => !x.1) && (backToKw cpos (keywordEach [] X.env)).all (fun x => x.1.isSome)
      && decide ((e :: es).length + ([] : List Keyword).length + (if ([] : List Keyword).isEmpty then 0 else 1) < 30)) = true)
    (hline : (apos.endLine == cpos.line) = true) (hs : starEach (e :: es) X.env = (false, eval e X.env) :: starEach es X.env) (hplain : (backTo cpos (starEach es X.env)).any (·.1) = false) :
    PE X (.Call (.Attribute o name apos) (e :: es) [] cpos) (tBF r to t) := by
  refine ⟨fun pins s σ H Q I h => ?_⟩
  refine wpAny_Call_method_late hbase hfew hline rfl (thn (ho.run pins s σ H _ I h) fun v s1 ⟨x, H1, I1, r1, ty, q1⟩ => ?_)
  obtain ⟨h1, h2⟩ := tyF_is I1 r1 ty
  refine ⟨"tuple", id, PySem.F.plainAttrs_tuple, slot, hty, h1, h2, ?_⟩
  have hA := ha.run cpos pins s1 σ H1 _ I1 q1
  rw [hs] at hA ⊢
  refine Calls.callWith_builtin (by show (false || (backTo cpos (starEach es X.env)).any (·.1)) = false; rw [hplain] <;> rfl) (Calls.evalArgs_plain ?_)
  exact thn hA fun us s2 ⟨vs, H2, I2, r2, q2⟩ => hm pins s2 σ H2 x vs v us Q I2 r1 r2 q2
theorem kvF_look {K : PySem.W.Frag} {G : Hp} : ∀ {kvs : List (Key × V)} {es : List (PyData × PyData)} (k : Key) {d : PyData}, TrFKV K G kvs es → lkD es (.inl k) = some d → ∃ v, valV kvs k = some v ∧ TrF K G v d
  | _, _, k, _, .nil, e => by cases e
  | _, _, k, dd, .cons (k := k') (v := v) (d := d) h t, e => by
    by_cases ek : k' = k
    · subst ek
      refine ⟨v, by simp [valV, List.find?_cons], ?_⟩
      unfold lkD at e
      rw [List.find?_cons, kc_kD] at e
      simp at e
      exact e ▸ h
    · have e2 : decide (kc (kD k') = some (.inl k)) = false := by rw [kc_kD]; simp [ek]
      have a1 : ∀ r : List (Key × V), valV ((k', v) :: r) k = valV r k := fun r => valV_neg ek
      have a2 : ∀ es, lkD ((kD k', d) :: es) (.inl k) = lkD es (.inl k) := fun es => by unfold lkD; rw [List.find?_cons]; simp only [e2]
      rw [a2] at e
      rw [a1]
      exact kvF_look k t e
/-- the function: the item, then its index -/
def fCidx (es : List (PyData × PyData)) (f g : EF) : EF := fun ρ => (f ρ).bind fun x => match (kc x.1).bind (lkD es) with
  | some (.tuple ds) => (g x.2).bind fun y => (ofO (gIndex (.tuple ds) y.1)).bind fun z => .ok (z, y.2)
  | _ => .no
theorem ee_cidx {x : Str} {ds : List (PyData × PyData)} {spos : Pos} (hr : Room k X.A) (hc : Cst X.K B.T B.G) (h : ∃ a, X.mg x = some (.ref a) ∧ (V.ref a, PyData.dict ds) ∈ B.T.c) (he : EE X B ok e f) (ha : EE X B ok a g)
    (hg : Gl X x := by rfl) (hd : (x == ("__debug__" : Str)) = false := by decide) (hns : NoSl e := by intro _ _; rfl)
    (hbase : attributeBase (.Subscript (.Name x p) e spos) "index" X.env (eval (.Subscript (.Name x p) e spos) X.env) = eval (.Subscript (.Name x p) e spos) X.env := by rfl)
    (hfew : ((backTo cpos (starEach [a] X.env)).all (fun x => !x.1) && (backToKw cpos (keywordEach [] X.env)).all (fun x => x.1.isSome)
      && decide ([a].length + ([] : List Keyword).length + (if ([] : List Keyword).isEmpty then 0 else 1) < 30)) = true := by rfl)
    (hline : (apos.endLine == cpos.line) = true := by rfl) (hs : starEach [a] X.env = (false, eval a X.env) :: starEach [] X.env := by rfl) (hplain : (backTo cpos (starEach [] X.env)).any (·.1) = false := by rfl) :
    EE X B ok (.Call (.Attribute (.Subscript (.Name x p) e spos) "index" apos) [a] [] cpos) (fCidx ds f g) := by
  obtain ⟨ad, hm, hmem⟩ := h
  obtain ⟨te, pe, ke⟩ := he.ex
  obtain ⟨tg, pg, kg⟩ := ha.ex
  have pn : PE X (.Name x p) (tC (.ref ad)) := pe_glob (v := .ref ad) hg hm rfl hd
  have hu : X.A.units + 65 < cLine := by have := hr.un; omega
  refine ⟨_, pe_bF PySem.F.slot_tuple_index PySem.F.type_tuple_index (mt_idxT hu) (pe_dget (by omega) pn pe hns) (pa_cons pg pa_nil hs) hbase hfew hline hs hplain, fun σ H G ρ Q r q => ?_⟩
  refine ke σ H G ρ _ r ((R.sat_bind q).imp fun y q v H1 G1 s1 r1 t1 => ?_)
  have cst : TrF X.K G1 (.ref ad) (.dict ds) := (hc.mono (r.bd.gm.trans s1.sub)) _ hmem
  cases hk : (kc y.1).bind (lkD ds) with
  | none => rw [hk] at q; exact q.elim
  | some d =>
    rw [hk] at q
    obtain ⟨c, hc2, hl⟩ := Option.bind_eq_some_iff.mp hk
    cases d with
    | tuple dt =>
      cases cst with | dK hH tk =>
      obtain ⟨kk, rfl, e2, rfl⟩ := key_tr t1 hc2
      obtain ⟨u, e1, tu⟩ := kvF_look kk tk hl
      refine ⟨ad, u, rfl, ?_, ?_⟩
      · rw [← e1]
        exact dget_rd (r1.subG.rd hH)
      · cases tu with | @tup b o xs _ hb hdn ta =>
        refine ⟨⟨b, o, xs, rfl, r1.subG _ _ hb, hdn⟩, ?_⟩
        refine kg σ H1 G1 y.2 _ r1 ((R.sat_bind (r := g y.2) (f := fun z => (ofO (gIndex (.tuple dt) z.1)).bind fun w => R.ok (w, z.2)) q).imp fun z qz w H2 G2 s2 r2 t2 => ?_)
        obtain ⟨rr, er, qr⟩ := ofO_sat (R.sat_bind qz)
        unfold gIndex at er
        have hi : itemsOf (.tuple dt) = some dt := rfl
        rw [hi] at er
        dsimp only at er
        split at er
        · rename_i hcnd
          cases er
          obtain ⟨c1, c2, c3, c4⟩ := hcnd
          have fl : flatAll dt = true := by
            have := flat_of c2
            simpa [flat] using this
          refine ⟨b, w, z.1, xs, dt, rfl, rfl, sqt (r2.subG.rd (.inr ⟨o, s2.sub _ _ hb⟩)), TrAll.dp fl (((ta.tr).mono s2.sub).mono r2.subG), Dp.mono' r2.subG (flat_of c1) t2, c2, c1, c3, c4, ?_⟩
          exact qr _ H2 G2 (s1.trans s2) r2 (.int _)
        · cases er
    | _ => exact q.elim
end
end Y


/-! YEnd: the end of a law row, for promises that are kept where nothing is being shown. -/
namespace Y
open PySem PySem.Spec PyProof.Rows L2 LamX
theorem noCX {P : Program} {w : World} {H : Hp} {s : Shared} {e : Value} {s' : Shared} (h : L2.CX P w [] H s (fun _ _ _ => False) e s') : False := by
  obtain ⟨_, _, _, _, _, _, _, _, _, _, _, _, z⟩ := h
  exact z
/-! ### the module's constants: hidden from the frame's base, frozen -/
def absAll : List Value → Option (List V)
  | [] => some []
  | u :: us => match absV u, absAll us with
    | some v, some vs => some (v :: vs)
    | _, _ => none
def absEs : List DictEntry → Option (List (Key × V))
  | [] => some []
  | e :: es => match e.key, absV e.val, absEs es with
    | .str x _, some v, some kvs => some ((.inr x, v) :: kvs)
    | _, _, _ => none
/-- what a constant's object shows -/
def hoC (o : Obj) : Option HO := match o.data with
  | .seq its _ => (absAll its.toList).map .tup
  | .dict es _ => (absEs es.toList).map .dK
  | _ => none
/-- a hidden object: what it is, whatever else is tracked -/
def HidO (w : World) (b : Addr) (o : Obj) : Prop := ∃ u, hoC o = some u ∧ (∀ (P : Program) (H : Hp) (h : Heap), h.get? b = some o → ObjOk P w H h b u) ∧ o.cls ≠ .type "list" ∧ b ≠ builtinsNs ∧ b ≠ cStatics ∧ b ≠ mainGlobals
theorem HidO.data {w : World} {b : Addr} {o : Obj} (h : HidO w b o) : (∃ its n, o.data = .seq its n) ∨ ∃ es n, o.data = .dict es n := by
  obtain ⟨u, e, _⟩ := h
  unfold hoC at e
  split at e
  · rename_i its n q; exact .inl ⟨its, n, q⟩
  · rename_i es n q; exact .inr ⟨es, n, q⟩
  · cases e
theorem lk_mem {hs : List (Addr × Obj)} {b : Addr} {o : Obj} (h : hs.lookup b = some o) : (b, o) ∈ hs := by
  induction hs with
  | nil => cases h
  | cons p r ih =>
    obtain ⟨c, u⟩ := p
    cases e : (b == c) with
    | true =>
      rw [List.lookup, e] at h
      cases h
      rw [beq_iff_eq.mp e]
      exact List.mem_cons_self
    | false =>
      rw [List.lookup, e] at h
      exact List.mem_cons_of_mem _ (ih h)
theorem lk_of_mem {hs : List (Addr × Obj)} {b : Addr} {o : Obj} (h : (b, o) ∈ hs) : ∃ o', hs.lookup b = some o' := by
  induction hs with
  | nil => cases h
  | cons p r ih =>
    obtain ⟨c, u⟩ := p
    cases e : (b == c) with
    | true => exact ⟨u, by rw [List.lookup, e]⟩
    | false =>
      rcases List.mem_cons.mp h with z | z
      · cases z; simp at e
      · obtain ⟨o', q⟩ := ih z
        exact ⟨o', by rw [List.lookup, e]; exact q⟩
/-- the law called from the bottom, by a def that keeps its promise where nothing is being shown -/
theorem law_callG {P : Program} {w : World} {K : PySem.W.Frag} {mg mb : Str → Option Value} {k : Nat} {fa a : Addr} {cs : List (Addr × Addr)} {fd : FuncData} {x : Str} {sp : Sp} {s₁ : Shared} {vs : List Value} {ns : List Int} {hs : List (Addr × Obj)}
    (KX : K.In s₁.heap) (hns : s₁.heap.Ns mainGlobals mg) (hb : s₁.heap.Ns builtinsNs mb) (hbb : ∀ x : Str, x ≠ "__name__" → mb x = bootBuiltins x) (hlim : s₁.heap.NoLimit) (hg : s₁.gens = #[]) (nL : ∀ b o, K.lookup b = some o → o.cls ≠ .type "list")
    (hT : ∀ p ∈ cs, s₁.heap.get? p.2 = some { cls := .none, data := .fields #[] }) (nT : ∀ p ∈ cs, K.lookup p.2 = none) (C : ∀ p ∈ cs, PySem.W.CodeHd s₁.heap p.1 p.2)
    (hH0 : ∀ p ∈ hs, s₁.heap.get? p.1 = some p.2) (nH : ∀ p ∈ hs, K.lookup p.1 = none) (uH : ∀ p ∈ hs, HidO w p.1 p.2)
    (hbm : ∃ (bm : Addr) (ob : Obj), mg "__builtins__" = some (.ref bm) ∧ bm ≠ builtinsNs ∧ s₁.heap.get? bm = some ob ∧ ob.cls = .type "module" ∧ ob.dict = some builtinsNs ∧ ob.data = .plain)
    (ha : s₁.heap.get? a = some { cls := .type "list", data := .seq vs.toArray }) (hi : IntsAre vs ns) (hl : ns.length ≤ sizeLine) (hr : Room k callerA) (hG : callerA.guards = some [])
    (F : ∀ base : Heap, K.In base → base.Ns mainGlobals mg → (∀ p ∈ cs, TabB base mg p.1 p.2) → FnG P w K mg base k fa fd [x] sp) (hbind : ∀ (s : Shared) (u : Value), BindsTo s fd ⟨[u], []⟩ [(x, u)])
    (hsp : ∀ H : Hp, (∀ p ∈ cs, H p.2 = some (.tbl #[])) → (∀ p ∈ hs, ∃ u, hoC p.2 = some u ∧ H p.1 = some (.frz p.2 u)) → Rd H a (.lst (ns.map V.int)) → sp [.ref a] H (fun v _ => v = .bl true) fun _ _ _ => False) :
    codeAny (model P w) callerA (.call (.ref fa) ⟨[.ref a], []⟩) (fun r s' => r = .ok (.ret (.bool true)) ∧ OldK s₁.heap s'.heap ∧ s'.os = s₁.os ∧ AllBare s'.gens) s₁ := by
  have rv := vals_ints hi
  have lenV := hi.length
  have isT : ∀ b : Addr, b ∈ cs.map (·.2) → s₁.heap.get? b = some { cls := .none, data := .fields #[] } := fun b hb => by
    obtain ⟨p, hp, e⟩ := List.mem_map.mp hb
    rw [← e]
    exact hT p hp
  have aT : a ∉ cs.map (·.2) := fun z => by
    have q := isT a z
    rw [ha] at q
    have z' : Data.seq vs.toArray _ = Data.fields #[] := congrArg Obj.data (Option.some.inj q)
    cases z'
  have memT : ∀ p ∈ cs, p.2 ∈ cs.map (·.2) := fun p hp => List.mem_map.mpr ⟨p, hp, rfl⟩
  have isH : ∀ {b : Addr} {o : Obj}, hs.lookup b = some o → s₁.heap.get? b = some o ∧ HidO w b o ∧ K.lookup b = none := fun {b o} h => ⟨hH0 _ (lk_mem h), uH _ (lk_mem h), nH _ (lk_mem h)⟩
  have aH : hs.lookup a = none := by
    cases q : hs.lookup a with
    | none => rfl
    | some o =>
      obtain ⟨e, ⟨_, _, _, z, _⟩, _⟩ := isH q
      rw [ha] at e
      cases e
      exact absurd rfl z
  have tH : ∀ b : Addr, b ∈ cs.map (·.2) → hs.lookup b = none := fun b hb => by
    cases q : hs.lookup b with
    | none => rfl
    | some o =>
      obtain ⟨e, hu, _⟩ := isH q
      rw [isT b hb] at e
      cases e
      rcases hu.data with ⟨_, _, z⟩ | ⟨_, _, z⟩ <;> cases z
  -- from an abstract heap in which nothing but the script and the tables may be tracked
  have core : ∀ H : Hp, (∀ p ∈ cs, H p.2 = some (.tbl #[])) → (∀ p ∈ hs, ∃ u, hoC p.2 = some u ∧ H p.1 = some (.frz p.2 u)) → (∀ b, H b = none ∨ b ∈ cs.map (·.2) ∨ ∃ o u, H b = some (.frz o u)) → Rd H a (.lst (ns.map V.int)) → HOk P w H s₁.heap → (∀ b, H b ≠ none → b = a ∨ b ∈ cs.map (·.2) ∨ ∃ o, hs.lookup b = some o) → (H a ≠ none → K.lookup a = none) →
      codeAny (model P w) callerA (.call (.ref fa) ⟨[.ref a], []⟩) (fun r s' => r = .ok (.ret (.bool true)) ∧ OldK s₁.heap s'.heap ∧ s'.os = s₁.os ∧ AllBare s'.gens) s₁ := by
    intro H hH hC hO hS hok hA hK
    have base_of : ∀ {b : Addr} {o : Obj}, s₁.heap.get? b = some o → H b = none → (hidT s₁.heap H).get? b = some o := fun e n => hidT_get e n
    have noD : ∀ {b : Addr} {o : Obj}, s₁.heap.get? b = some o → (∀ vs n, o.data ≠ .seq vs n) → o.data ≠ .fields #[] → ((∀ es n, o.data ≠ .dict es n) ∨ b = builtinsNs ∨ b = cStatics ∨ b = mainGlobals) → H b = none := fun {b o} e h1 h2 h3 => by
      cases q : H b with
      | none => rfl
      | some u =>
        rcases hA b (by rw [q]; simp) with e' | e' | ⟨o', e'⟩
        · rw [e', ha] at e
          cases e
          exact (h1 _ _ rfl).elim
        · rw [isT b e'] at e
          cases e
          exact (h2 rfl).elim
        · obtain ⟨e2, hu, _⟩ := isH e'
          rw [e] at e2
          cases e2
          rcases hu.data with ⟨its, n, z⟩ | ⟨es, n, z⟩
          · exact (h1 _ _ z).elim
          · obtain ⟨_, _, _, _, n1, n2, n3⟩ := hu
            rcases h3 with h3 | h3 | h3 | h3
            · exact (h3 _ _ z).elim
            · exact (n1 h3).elim
            · exact (n2 h3).elim
            · exact (n3 h3).elim
    have noA : ∀ {b : Addr} {o : Obj} {es : Array DictEntry} {ep : Nat}, s₁.heap.get? b = some o → o.data = .dict es ep → (b = builtinsNs ∨ b = cStatics ∨ b = mainGlobals) → H b = none := fun {b o es ep} e d hb => by
      refine noD e (fun vs n z => ?_) (fun z => ?_) (.inr hb)
      · rw [d] at z
        cases z
      · rw [d] at z
        cases z
    have nsK : ∀ {b : Addr} {m : Str → Option Value}, s₁.heap.Ns b m → (b = builtinsNs ∨ b = cStatics ∨ b = mainGlobals) → (hidT s₁.heap H).Ns b m := fun {b m} ⟨o, es, ep, e, d, r⟩ hb => ⟨o, es, ep, base_of e (noA e d hb), d, r⟩
    have hKb : K.In (hidT s₁.heap H) := fun b o e => base_of (KX b o e) (by
      cases q : H b with
      | none => rfl
      | some u =>
        rcases hA b (by rw [q]; simp) with e' | e' | ⟨o', e'⟩
        · rw [e'] at e q
          rw [hK (by rw [q]; simp)] at e
          cases e
        · obtain ⟨p, hp, ep⟩ := List.mem_map.mp e'
          rw [← ep, nT p hp] at e
          cases e
        · rw [(isH e').2.2] at e
          cases e)
    have hM : L2.Mod K mg (hidT s₁.heap H) := ⟨hKb, nsK hns (.inr (.inr rfl)), ⟨mb, nsK hb (.inl rfl), hbb⟩, let ⟨mc, h1, h2⟩ := hlim; ⟨mc, nsK h1 (.inr (.inl rfl)), h2⟩⟩
    have TB : ∀ p ∈ cs, TabB (hidT s₁.heap H) mg p.1 p.2 := fun p hp => by
      have hTp := hT p hp
      refine ⟨?_, ?_, fun z => ?_⟩
      · obtain ⟨o, us, file, tf, flags, tg, inF, text, tt, e1, r1, r2, r3, r4, r5, r6, r7, r8, hne⟩ := C p hp
        refine ⟨o, us, file, tf, flags, tg, inF, text, tt, base_of e1 (noD e1 (fun vs n z => ?_) (fun z => ?_) (.inl fun es n z => ?_)), r1, r2, r3, r4, r5, r6, r7, r8, hne⟩
        · rw [r2] at z
          cases z
        · rw [r2] at z
          cases z
          simp at r3
        · rw [r2] at z
          cases z
      · obtain ⟨bm, ob, b1, b2, b3, b4, b5, b6⟩ := hbm
        have nG : bm ≠ mainGlobals := fun q => by
          obtain ⟨o, es, ep, e, hd, _⟩ := hns
          rw [q, e] at b3
          cases b3
          rw [hd] at b6
          cases b6
        have nP : bm ≠ p.2 := fun q => by
          rw [q, hTp] at b3
          cases b3
          cases b6
        refine ⟨bm, ob, b1, b2, nG, nP, base_of b3 (noD b3 (fun vs n z => ?_) (fun z => ?_) (.inl fun es n z => ?_)), b4, b5, b6⟩
        · rw [b6] at z
          cases z
        · rw [b6] at z
          cases z
        · rw [b6] at z
          cases z
      · obtain ⟨o, es, ep, e, hd, _⟩ := hns
        rw [z, hTp] at e
        cases e
        cases hd
    have e0 : Env0 P w K mg (hidT s₁.heap H) callerA [] s₁ H := ⟨rfl, hM, fun b o e => of_hidT e, Nat.le_of_eq (hidT_size _ _), trivial, fun b hb => absurd (show b ∈ ([] : List Addr) from hb) (by simp), hok, .of_eq hg⟩
    refine codeAny_mono ((F _ hKb (nsK hns (.inr (.inr rfl))) TB).run callerA [] s₁ H ⟨[.ref a], []⟩ [.ref a] [.ref a] _ _ hr hG e0 (hbind s₁ (.ref a)) (.cons rfl .nil) (hsp H hH hC hS)) fun r s' h => ?_
    cases r with
    | error e => exact (noCX h).elim
    | ok fl =>
      cases fl with
      | next => exact False.elim h
      | brk => exact False.elim h
      | cont => exact False.elim h
      | ret u =>
        obtain ⟨v, H', os, bare, un, hok', r', q⟩ := h
        have q' : v = .bl true := q
        subst q'
        obtain rfl : u = Value.bool true := r'
        have key : ∀ b o, b ∉ cs.map (·.2) → s₁.heap.get? b = some o → s'.heap.get? b = some o := fun b o nb e => by
          cases q : H b with
          | none => exact un.keep b o e q (by intro z; exact absurd (show b ∈ ([] : List Addr) from z) (by simp)) (by simp)
          | some u =>
            rcases hO b with z | z | ⟨ob, xs, z⟩
            · rw [q] at z; cases z
            · exact absurd z nb
            · have z2 := un.frzs b ob _ z
              obtain ⟨e1, _⟩ := hok b _ z
              obtain ⟨e2, _⟩ := hok' b _ z2
              rw [e] at e1; cases e1
              exact e2
        have grown : ∀ p ∈ cs, ∃ more : Array Value, s'.heap.get? p.2 = some { cls := .none, data := .fields more } := fun p hp => by
          obtain ⟨more, z⟩ := un.tbls p.2 #[] (hH p hp)
          exact ⟨_, hok' p.2 _ z⟩
        refine ⟨rfl, ⟨fun b o e => ?_, fun b o e => ?_⟩, os, bare⟩
        · by_cases hb : b ∈ cs.map (·.2)
          · obtain ⟨p, hp, ep⟩ := List.mem_map.mp hb
            obtain ⟨more, hm⟩ := grown p hp
            rw [← ep] at e ⊢
            rw [hT p hp] at e
            cases e
            exact .inr (.inl ⟨((C p hp).tab (hT p hp)).isCodeTable, rfl, #[], more, rfl, by rw [Array.empty_append]; exact hm⟩)
          · exact .inl (key b o hb e)
        · by_cases hb : b ∈ cs.map (·.2)
          · obtain ⟨p, hp, ep⟩ := List.mem_map.mp hb
            obtain ⟨more, hm⟩ := grown p hp
            rw [← ep]
            exact ⟨_, hm⟩
          · exact ⟨o, key b o hb e⟩
  cases hk : K.lookup a with
  | some o =>
    have e := KX a o hk
    rw [ha] at e
    cases e
    exact absurd rfl (nL a _ hk)
  | none =>
    refine core (fun b => if b = a then some (.frz { cls := .type "list", data := .seq vs.toArray } (.lst (ns.map V.int))) else if b ∈ cs.map (·.2) then some (.tbl #[]) else (hs.lookup b).bind fun o => (hoC o).map (HO.frz o)) (fun p hp => (if_neg (show ¬ p.2 = a from fun z => aT (by rw [← z]; exact memT p hp))).trans (if_pos (memT p hp))) (fun p hp => ?_) (fun b => ?_)
      (.inr ⟨{ cls := .type "list", data := .seq vs.toArray }, if_pos rfl⟩) (fun b u z => ?_) (fun b z => ?_) fun _ => hk
    · obtain ⟨o', q⟩ := lk_of_mem hp
      obtain ⟨e1, hu, _⟩ := isH q
      rw [hH0 p hp] at e1
      cases e1
      have n1 : ¬ p.1 = a := fun z => by rw [z, aH] at q; cases q
      have n2 : ¬ p.1 ∈ cs.map (·.2) := fun z => by rw [tH _ z] at q; cases q
      obtain ⟨u, e, _⟩ := hu
      refine ⟨u, e, (if_neg n1).trans ((if_neg n2).trans ?_)⟩
      rw [q]
      show (hoC p.2).map _ = _
      rw [e]
      rfl
    · by_cases hb : b = a
      · exact .inr (.inr ⟨_, _, if_pos hb⟩)
      · by_cases hb2 : b ∈ cs.map (·.2)
        · exact .inr (.inl hb2)
        · cases q : hs.lookup b with
          | none => exact .inl ((if_neg hb).trans (if_neg hb2))
          | some o =>
            obtain ⟨_, ⟨u, e, _⟩, _⟩ := isH q
            exact .inr (.inr ⟨o, u, (if_neg hb).trans ((if_neg hb2).trans (by show (hoC o).map _ = _; rw [e]; rfl))⟩)
    · by_cases hb : b = a
      · have z' := (if_pos hb).symm.trans z
        cases z'
        rw [hb]
        exact ⟨ha, by rw [List.length_map]; exact hl, vs, _, rv, ha⟩
      · have z1 := (if_neg hb).symm.trans z
        by_cases hb2 : b ∈ cs.map (·.2)
        · have z' := (if_pos hb2).symm.trans z1
          cases z'
          exact isT b hb2
        · have z' := (if_neg hb2).symm.trans z1
          cases q : hs.lookup b with
          | none => rw [q] at z'; cases z'
          | some o =>
            obtain ⟨e0, ⟨u', e, ok', _⟩, _⟩ := isH q
            rw [q] at z'
            have z2 : (hoC o).map (HO.frz o) = some u := z'
            rw [e] at z2
            cases z2
            exact ⟨e0, ok' P _ _ e0⟩
    · by_cases hb : b = a
      · exact .inl hb
      · by_cases hb2 : b ∈ cs.map (·.2)
        · exact .inr (.inl hb2)
        · cases q : hs.lookup b with
          | none => exact absurd ((if_neg hb).trans ((if_neg hb2).trans (by rw [q]; rfl))) z
          | some o => exact .inr (.inr ⟨o, rfl⟩)
/-- what is known of the law's promise at the head's heap h -/
def LawAtG (l : PySem.W.OpenLaw) (w : World) (K : PySem.W.Frag) (k n : Nat) (x : Str) (mg : Str → Option Value) (fa : Addr) (h : Heap) : Prop :=
  ∃ (fd : FuncData) (cs : List (Addr × Addr)) (hs : List (Addr × Obj)) (sp : Sp), ((∀ p ∈ hs, h.get? p.1 = some p.2) ∧ (∀ p ∈ hs, K.lookup p.1 = none) ∧ ∀ p ∈ hs, HidO w p.1 p.2) ∧ (∀ b o, K.lookup b = some o → o.cls ≠ .type "list") ∧ (∀ p ∈ cs, h.get? p.2 = some { cls := .none, data := .fields #[] }) ∧ (∀ p ∈ cs, K.lookup p.2 = none) ∧ (∀ p ∈ cs, PySem.W.CodeHd h p.1 p.2) ∧ (∀ (s : Shared) (u : Value), BindsTo s fd ⟨[u], []⟩ [(x, u)]) ∧
    (∀ (H : Hp) (a : Addr) (ns : List Int), ns.length ≤ n → (∀ z ∈ ns, Builtin.Int.intBits z ≤ 1048576) → (∀ p ∈ cs, H p.2 = some (.tbl #[])) → (∀ p ∈ hs, ∃ u, hoC p.2 = some u ∧ H p.1 = some (.frz p.2 u)) → Rd H a (.lst (ns.map V.int)) → sp [.ref a] H (fun v _ => v = .bl true) fun _ _ _ => False) ∧
    ∀ base : Heap, K.In base → base.Ns mainGlobals mg → (∀ p ∈ cs, TabB base mg p.1 p.2) → FnG l.prog w K mg base k fa fd [x] sp
theorem walk_ofG {l : PySem.W.OpenLaw} {n k : Nat} {q : Program} {loose : List Str} {XP : (Str → Option Value) → Heap → Prop} {YP : World → Heap → Prop} {d : DefRec} {x : Str}
    (hn : l.most = some n) (hn2 : n ≤ sizeLine) (hdf : d.params.defaults = []) (hr : Room k callerA) (hG : callerA.guards = some [])
    (F : ∀ (w : World) (mg : Str → Option Value) (fa : Addr) (h : Heap), YP w h → h.Ns mainGlobals mg → mg d.name = some (.ref fa) → ∃ K : PySem.W.Frag, K.In h ∧ LawAtG l w K k n x mg fa h) :
    PySem.W.WalkO q loose XP YP l.row.toRowW d [] (fun f vs => PySem.call f vs) := by
  refine Att.attach_callB hn hdf fun w s₀ s₁ mg mb fa o pm cd doc a vs ns G Yh ho hd hcd hmg hobj hints hlen hbits hg => ?_
  obtain ⟨K, KX, fd, cs, hs, sp, ⟨hH0, nH, uH⟩, nL, hT, nT, C, hb, hsp, hF⟩ := F w mg fa _ Yh G.T.g hmg
  exact law_callG KX G.T.g G.T.b G.T.builtins G.T.nolimit hg nL hT nT C hH0 nH uH G.T.bmain hobj hints (Nat.le_trans hlen hn2) hr hG hF hb (fun H hH hC hS => hsp H a ns hlen hbits hH hC hS)
end Y


/-! YGen: what the printed texts lean on. -/
namespace Y
open PySem PySem.Spec PyProof.Rows L2 LamX YEX
abbrev tlVE : List Value := [.type "ValueError", .type "Exception", .type "BaseException", .type "object"]
abbrev tlOE : List Value := [.type "OverflowError", .type "ArithmeticError", .type "Exception", .type "BaseException", .type "object"]
abbrev tlLE : List Value := [.type "LookupError", .type "Exception", .type "BaseException", .type "object"]
theorem room65 {k : Nat} {A : Around} (r : Room k A) : A.units + 65 < cLine := by have := r.un; omega
theorem room70 {k : Nat} {A : Around} (r : Room k A) : A.units + 70 < cLine := by have := r.un; omega
theorem glS {K : PySem.W.Frag} {T : YT} {mg : Str → Option Value} {x z : Str} (h : ∃ t, mg x = some (.str z t)) : GlC K T mg x (.str z) := by
  obtain ⟨t, e⟩ := h
  exact ⟨_, .str z, e, ⟨t, rfl⟩, fun G _ => .str z⟩
theorem glT {K : PySem.W.Frag} {T : YT} {mg : Str → Option Value} {x : Str} {d : PyData} (h : ∃ a, mg x = some (.ref a) ∧ (V.ref a, d) ∈ T.c) : GlC K T mg x d := by
  obtain ⟨a, e, m⟩ := h
  exact ⟨_, .ref a, e, rfl, fun G c => (c _ m).tr⟩
theorem glc {K : PySem.W.Frag} {T : YT} {mg : Str → Option Value} {x : Str} {i : Int} (h : ∃ t, mg x = some (.int i t)) : GlC K T mg x (.int i) := by
  obtain ⟨t, e⟩ := h
  exact ⟨_, .int i, e, ⟨t, rfl⟩, fun G _ => .int i⟩
/-- a comprehension's scope fits, as a Bool -/
def blkB (N : List Str) (sc scope : Scope) (own : List (Str × Nat)) : Bool :=
  decide (scope.kind = .function) && scope.names.all (fun y => decide (scope.names.lookup y.1 = some y.2)) && own.all (fun p => decide (N[p.2]? = some p.1)) &&
    scope.names.all (fun y => !decide (y.2 = .free) || decide (sc.names.lookup y.1 = some .cell) || decide (sc.names.lookup y.1 = some .free)) &&
    scope.names.all fun y => !(decide (y.2 = .local) || decide (y.2 = .cell)) || decide (y.1 ∈ own.map (·.1)) || decide (y.1 ∉ N)
theorem blk_of {N : List Str} {sc scope : Scope} {own : List (Str × Nat)} (h : blkB N sc scope own = true) : BlkOk N sc scope own := by
  unfold blkB at h
  simp only [Bool.and_eq_true, Bool.or_eq_true, Bool.not_eq_true', decide_eq_true_eq, decide_eq_false_iff_not, List.all_eq_true, Bool.or_eq_false_iff] at h
  obtain ⟨⟨⟨⟨h1, h2⟩, h3⟩, h4⟩, h5⟩ := h
  refine ⟨h1, h2, h3, fun y hy e => ?_, fun y hy e => ?_⟩
  · rcases h4 y hy with (z | z) | z
    · exact absurd e z
    · exact .inl z
    · exact .inr z
  · rcases h5 y hy with (z | z) | z
    · rcases e with e | e
      · exact absurd e z.1
      · exact absurd e z.2
    · exact .inl z
    · exact .inr z
def clsBody : Stmt → List Stmt
  | .ClassDef _ _ _ b _ _ _ _ _ _ _ => b
  | _ => []
/-- the qualified name of a def's lambdas -/
def lamQ (x : Str) : Str := (envOfC x ⟨.function, [], false, false, []⟩ 0 0 .none).qual ++ "<lambda>"
/-- the code object and the table of a def that makes lambdas -/
def LamAt (K : PySem.W.Frag) (mg : Str → Option Value) (base : Heap) (T : YT) (x : Str) : Prop := ∀ (f : Addr) (cdv : Value), mg x = some (.ref f) → CodeIs K f cdv →
  ∃ c P : Addr, cdv = .ref c ∧ TabB base mg c P ∧ (P, lamQ x) ∈ T.t ∧ ∀ p ∈ T.t, p.1 = P → p.2 = lamQ x
def clsGet (cls : Clss) (c : Str) : Addr := (cls c).getD 0
theorem clsGet_eq {cls : Clss} {c : Str} {C : Addr} (h : cls c = some C) : clsGet cls c = C := by unfold clsGet; rw [h]; rfl
/-- an error class, as it stands -/
structure ErrAt (K : PySem.W.Frag) (mg : Str → Option Value) (cls : Clss) (T newId initId : String) (tl : List Value) (c : Str) (params : Arguments) (body : List Stmt) (sc : Scope) (C fI : Addr) (fd : FuncData) (dvs : List V) : Prop where
  cl : cls c = some C
  mg : mg c = some (.ref C)
  oex : OexT T newId initId tl K C
  no : PySem.W.findIn K (.ref C) (fld c) = some none
  ini : PySem.W.findIn K (.ref C) "__init__" = some (some (.ref fI))
  ty : PySem.W.typeIn K (.ref fI) = some (.type "function")
  bnd : Binds K fd ["self", fld c] []
  fn : FunD K "__init__" (c ++ ".__init__") params body sc dvs [] fI fd
def ErrF (K : PySem.W.Frag) (mg : Str → Option Value) (cls : Clss) (T newId initId : String) (tl : List Value) (_b c : Str) (params : Arguments) (body : List Stmt) (sc : Scope) : Prop :=
  ∃ (C fI : Addr) (fd : FuncData) (dvs : List V), ErrAt K mg cls T newId initId tl c params body sc C fI fd dvs
/-- the name in an error's __init__: a built-in base, or an own class -/
inductive BaseN (K : PySem.W.Frag) (mg : Str → Option Value) (x : Str) (initId : String) : Prop
  | blt {T : String} (hm : mg x = none) (hv : bootBuiltins x = some (.type T)) (hn : x ≠ "__name__") (hdb : (x == ("__debug__" : Str)) = false) (ty : typeOf (.type T) = pure (.type "type")) (st : Manifest.isStub T = false)
      (fd : PySem.W.findCls K (.type T) (.type "type") "__init__" = some (.val (.builtin initId))) (hh : PySem.W.handedIn (.builtin initId) = true)
  | own {C : Addr} (hm : mg x = some (.ref C)) (hdb : (x == ("__debug__" : Str)) = false) (sp : PySem.W.specialIn K (.ref C) "__getattribute__" = some (some (.builtin "type.__getattribute__")))
      (rd : PySem.W.readsIn K C (.type "type") = true) (fd : PySem.W.findCls K (.ref C) (.type "type") "__init__" = some (.val (.builtin initId))) (hh : PySem.W.handedIn (.builtin initId) = true)
theorem baseN_name {X : Cx} {x : Str} {initId : String} (b : BaseN X.K X.mg x initId) (hg : Gl X x) : InitName X x initId := by
  rcases b with ⟨hm, hv, hn, hdb, ty, st, fd, hh⟩ | ⟨hm, hdb, sp, rd, fd, hh⟩
  · exact .blt hg hm hv hn hdb ty st fd hh
  · exact .own hg hm hdb sp rd fd hh
/-- what an except clause's name asks of the raised classes -/
structure ExmAt (K : PySem.W.Frag) (mg : Str → Option Value) (cls : Clss) (sub : Str → Str → Bool) (x : Str) : Prop where
  at_ : ∀ C, mg x = some (.ref C) → ∀ c D, cls c = some D → PySem.W.exmOne K (.ref D) (.ref C) = some (sub c x)
theorem names_of_glo {X : Cx} {x : Str} {C : Addr} (h : X.mg x = some (.ref C)) (hg : Gl X x := by rfl) (hd : (x == ("__debug__" : Str)) = false := by decide) : Names X x (.ref C) := ⟨hg, hd, .inl h⟩
theorem Thk.me {cls : Clss} {Z : Cx} {B : Ent} {a : Str} {r : R PyData} {ok : OkX} {p1 p2 : Pos} (t : Thk cls Z B a r) (hio : B.io = []) (cx : CtxE cls Z B ok) : EE Z B ok (.Call (.Name a p1) [] [] p2) (fThkL r) :=
  t Z.pn Z.xe B ok p1 p2 cx rfl rfl hio rfl (Sub.refl _)
theorem Thk.tr {cls : Clss} {Z : Cx} {B : Ent} {a : Str} {r : R PyData} {ok : OkX} {p1 p2 : Pos} {F : Hp} {pn : List (Addr × Obj)} {xe : Value → Shared → Prop} (t : Thk cls Z B a r) (hio : B.io = []) (sF : Sub B.G F) (cx : CtxE cls (Z.tr pn xe) (B.at F) ok) : EE (Z.tr pn xe) (B.at F) ok (.Call (.Name a p1) [] [] p2) (fThkL r) :=
  t pn xe (B.at F) ok p1 p2 cx rfl rfl hio rfl sF
section
variable {P : Program} {w : World} {K : PySem.W.Frag} {mg : Str → Option Value} {base : Heap}
theorem fnG_ofD {x qual : Str} {params : Arguments} {body : List Stmt} {scope : Scope} {dvs : List V} {kws : List (Str × V)} {f : Addr} {fd : FuncData} {N ps : List Str} {k : Nat} {sp : Sp} (F : FunD K x qual params body scope dvs kws f fd) (S : FnScope N ps scope) (len : ∀ vs H Q E, sp vs H Q E → vs.length = ps.length)
    (hb : ∀ (cdv : Value) (A : Around) (outer : List Env) (s : Shared) (H : Hp) (vs : List V) (Q : VK) (E : XK), CodeIs K f cdv → Room k (A.deeper (envOfC qual scope s.heap.objs.size f cdv)) → A.guards = some [] → sp vs H Q E →
      ∃ t, PSs (cxOf (L2.CX P w) P w K mg base N qual scope f cdv A outer s H E) body t ∧ t { nx := fun _ H' => Q .non H', rt := Q } (L2.start N vs) H) : FnG P w K mg base (k + 1) f fd ps sp := by
  obtain ⟨oc, od, dV, kV, doc, pm, an, cdv, ct, osl, rfl, lk, hcd, _, _⟩ := F.ex
  exact ⟨len, fun A outer s H args us vs Q E hr hG e0 hbd r hsp => run_ofS lk hcd S hr e0 hbd r (len _ _ _ _ hsp) fun hr' => hb cdv A outer s H vs Q E ⟨oc, od, _, osl, lk, rfl⟩ hr' hG hsp⟩
/-! ### keywords -/
def KwOnly (fd : FuncData) (ps : List Str) : Prop := ∀ (s : Shared) (ws : List Value), ws.length = ps.length → BindsTo s fd ⟨[], ps.zip ws⟩ (ps.zip ws)
structure CalleeK (P : Program) (w : World) (K : PySem.W.Frag) (mg : Str → Option Value) (base : Heap) (k : Nat) (x : Str) (ps : List Str) (sp : Sp) : Prop where
  ex : ∃ (f : Addr) (fd : FuncData), FnG P w K mg base k f fd ps sp ∧ mg x = some (.ref f) ∧ PySem.W.keepIn K (.ref f) = true ∧ KwOnly fd ps
end
section
variable {X : Cx} {B : Ent} {ok : OkX} {cls : Clss} {e : Expr} {f : EF} {fs : AF} {kws : List Keyword} {pos p kpos : Pos} {k j n : Nat} {x : Str}
structure EKw (X : Cx) (B : Ent) (ok : OkX) (kws : List Keyword) (f : AF) : Prop where
  ex : ∃ t : TA, PK X kws t ∧ ∀ (σ : St) (H G : Hp) (ρ : En) (Q : List V → Hp → Prop), Rel X.K B G H σ ρ →
    (f ρ).sat (fun r => ∀ vs H' G', Adv σ G H ρ G' H' r.2 → Rel X.K B G' H' σ r.2 → TrAll X.K G' vs r.1 → Q vs H') ok → t σ H Q
theorem kw_nil : EKw X B ok [] fNil := ⟨_, pk_nil, fun σ H G ρ Q r q => q [] H G Adv.refl r .nil⟩
theorem kw_cons {nm : Option Str} (h : EE X B ok e f) (hs : EKw X B ok kws fs) : EKw X B ok (⟨nm, e, kpos⟩ :: kws) (fCons f fs) := by
  obtain ⟨t, pe, ke⟩ := h.ex
  obtain ⟨u, pk, kk⟩ := hs.ex
  refine ⟨_, pk_cons pe pk, fun σ H G ρ Q r q => ke σ H G ρ _ r ((R.sat_bind q).imp fun y qy v H1 G1 s1 r1 t1 => ?_)⟩
  refine kk σ H1 G1 y.2 _ r1 ((R.sat_bind qy).imp fun ys qs vs H2 G2 s2 r2 t2 => ?_)
  exact qs (v :: vs) H2 G2 (s1.trans s2) r2 (.cons (t1.mono s2.sub) t2)
theorem ee_callKw {ps : List Str} {F : List PyData → R PyData} (cx : CtxE cls X B ok) (C : CalleeK X.prog X.w X.K X.mg X.base k x ps (spF X.K B.T cls n F)) (hr : Room j X.A) (ha : EKw X B ok kws fs) (hn : ∀ ρ r, fs ρ = .ok r → r.1.length = n := by intro ρ r h; exact fCons_len (fun _ _ h => fCons_len (fun _ _ h => by cases h; rfl) h) h)
    (hk : k ≤ j := by decide) (hg : Gl X x := by rfl) (hall : (backToKw pos (keywordEach kws X.env)).all (·.1.isSome) = true := by rfl) (hks : (backToKw pos (keywordEach kws X.env)).filterMap (·.1) = ps := by rfl)
    (hdb : (x == ("__debug__" : Str)) = false := by decide) (hpl : ((backTo pos (starEach [] X.env)).any (·.1) || (backToKw pos (keywordEach kws X.env)).any (·.1.isNone)) = false := by rfl) : EE X B ok (.Call (.Name x p) [] kws pos) (fCall F fs) := by
  have hT := cx.tabs
  obtain ⟨E, tk, good⟩ := cx.exc
  have px : Passes (L2.CX X.prog X.w) X E := passes_call tk fun _ _ _ _ h => h
  obtain ⟨fa, fd, FO, hm, hkp, hb⟩ := C.ex
  obtain ⟨t, pa, ka⟩ := ha.ex
  refine ⟨fun σ H Q => t σ H fun vs H1 => spF X.K B.T cls n F vs H1 Q E, ⟨fun pins s σ H Q I h => ?_⟩, fun σ H G ρ Q r q => ka σ H G ρ _ r ?_⟩
  · refine wpAny_Call_Name_kw (ld_glob I hg hm ?_ hdb)
    refine PySem.W.callWith_KW0 (h₀ := X.base) I.ok.mod.kin hkp hall (thn (pa.run pos pins s σ H _ I h) fun ws s2 ⟨zs, H2, I2, rz, q2⟩ => ⟨I2.kIn, ?_⟩) hpl
    rw [hks]
    have hl : ws.length = ps.length := by rw [← rz.length]; exact FO.len _ _ _ _ q2
    refine wpAny_call (codeAny_mono (FO.run X.A X.stack s2 H2 ⟨[], ps.zip ws⟩ ws zs Q E (hr.mono hk) cx.gd I2.env0 (hb s2 ws hl) rz q2) fun o s' q => ?_)
    match o, q with
    | .error e, q => exact px pins σ H2 s2 e s' I2 q
    | .ok (.ret u), q => exact I2.after q
  have q := fCall_sat q
  cases ef : fs ρ with
  | er c d => rw [ef] at q; exact q
  | no => rw [ef] at q; exact q
  | ok y =>
    rw [ef] at q
    intro vs H1 G1 s1 r1 t1
    refine ⟨G1, y.1, r1.sub, t1, hn ρ y ef, r1.tabs hT, R.sat.imp2 q (fun d qd v H' G' g t => ?_) (fun c d hc => ?_)⟩
    · exact qd v H' G' (s1.trans (Adv.grow g)) (r1.step g) t
    · exact ((good c d hc).later r1.bd).io
end
/-! ### math.gcd, math.lcm -/
abbrev gGcd : List PyData → Option PyData := g2i fun i j => ((Nat.gcd i.natAbs j.natAbs : Nat) : Int)
def gLcm : List PyData → Option PyData
  | [.int i, .int j] => if i.natAbs < 18446744073709551616 ∧ j.natAbs < 18446744073709551616 then some (.int ((Nat.lcm i.natAbs j.natAbs : Nat) : Int)) else none
  | _ => none
theorem lcm_bits {a b : Nat} (ha : a < 18446744073709551616) (hb : b < 18446744073709551616) : (Nat.lcm a b).log2 < bitsLine := by
  by_cases h : Nat.lcm a b = 0
  · rw [h]; decide
  · have h1 : Nat.lcm a b ≤ a * b := by unfold Nat.lcm; exact Nat.div_le_self _ _
    have h2 : a * b ≤ 18446744073709551615 * 18446744073709551615 := Nat.mul_le_mul (by omega) (by omega)
    have h3 : (Nat.lcm a b).log2 < 128 := (Nat.log2_lt h).mpr (by omega)
    have h4 : 128 ≤ bitsLine := by unfold bitsLine; decide
    omega
def rLcm : List V → Hp → VK → Prop := fun vs H Q => ∃ a b : Int, vs = [.int a, .int b] ∧ (a.natAbs < 18446744073709551616 ∧ b.natAbs < 18446744073709551616) ∧ Q (.int ((Nat.lcm a.natAbs b.natAbs : Nat) : Int)) H
theorem cr_lcm {X : Cx} : CallR X (.builtin "math.lcm") rLcm := by
  intro pins s σ H vs us Q I r h
  obtain ⟨a, b, rfl, ⟨ha, hb⟩, q⟩ := h
  obtain ⟨t, u, rfl⟩ := Vals.int2 r
  refine PySem.W.mg_lcm_v (c := ((Nat.lcm a.natAbs b.natAbs : Nat) : Int)) (by omega) (by omega) (by rw [Nat.lcm_one_left]) (by rw [Int.natAbs_natCast]; exact lcm_bits ha hb) ⟨.int _, H, I.tok _, ⟨_, rfl⟩, q⟩
theorem bd_lcm {X : Cx} {T : YT} : BD X T (.builtin "math.lcm") gLcm := by
  refine ⟨_, cr_lcm, fun G H vs ds d Q s t e q => ?_⟩
  unfold gLcm at e
  split at e
  · split at e
    · rename_i hb
      cases e
      cases t with | cons u t =>
      cases t with | cons w t =>
      cases t
      cases u; cases w
      exact ⟨_, _, rfl, hb, q _ H G (Grow.refl s) (.int _)⟩
    · cases e
  · cases e
end Y


/-! YHead: from what the head tells of the module to what the derivations ask. -/
namespace Y
open PySem PySem.Spec PyProof.Rows L2 LamX YEX He
/-! ### the module's constants, looked at -/
def okA (b : Addr) : Bool := !(b == builtinsNs) && (!(b == cStatics) && !(b == mainGlobals))
theorem okA_ok {b : Addr} (h : okA b = true) : b ≠ builtinsNs ∧ b ≠ cStatics ∧ b ≠ mainGlobals := by
  simpa [okA] using h
mutual
def conV (g : Addr → Option Obj) : PyData → Value → Bool
  | .none, v => (match v with | .none => true | _ => false)
  | .bool b, v => (match v with | .bool c => decide (b = c) | _ => false)
  | .int i, v => (match v with | .int j _ => decide (i = j) | _ => false)
  | .str x, v => (match v with | .str y _ => decide (x = y) | _ => false)
  | .tuple ds, v => (match v with
    | .ref a => (match g a with
      | some ⟨.type c, none, .seq its _, _⟩ => decide (c = "tuple") && (decide (its.size ≤ sizeLine) && (okA a && conAll g ds its.toList))
      | _ => false)
    | _ => false)
  | _, _ => false
def conAll (g : Addr → Option Obj) : List PyData → List Value → Bool
  | [], vs => (match vs with | [] => true | _ => false)
  | d :: ds, vs => (match vs with | v :: vs => conV g d v && conAll g ds vs | _ => false)
end
mutual
def hsV (g : Addr → Option Obj) : PyData → Value → List (Addr × Obj)
  | .tuple ds, v => (match v with
    | .ref a => (match g a with
      | some o => (a, o) :: (match o.data with
        | .seq its _ => hsAll g ds its.toList
        | _ => [])
      | _ => [])
    | _ => [])
  | _, _ => []
def hsAll (g : Addr → Option Obj) : List PyData → List Value → List (Addr × Obj)
  | [], _ => []
  | d :: ds, vs => (match vs with | v :: vs => hsV g d v ++ hsAll g ds vs | _ => [])
end
/-- what a hidden list of objects does for a value -/
def ConF (K : PySem.W.Frag) (w : World) (g : Addr → Option Obj) (hs : List (Addr × Obj)) (d : PyData) (v : Value) : Prop :=
  (∃ x, absV v = some x ∧ RelV x v ∧ ∀ G : Hp, (∀ p ∈ hs, ∀ u, hoC p.2 = some u → G p.1 = some (.frz p.2 u)) → TrF K G x d) ∧ ∀ p ∈ hs, HidO w p.1 p.2 ∧ g p.1 = some p.2
mutual
theorem conV_ok {K : PySem.W.Frag} {w : World} {g : Addr → Option Obj} : ∀ {d : PyData} {v : Value}, conV g d v = true → ConF K w g (hsV g d v) d v
  | .none, v, h => by
    unfold conV at h
    split at h
    · exact ⟨⟨.non, rfl, rfl, fun G _ => .non⟩, fun p hp => by cases hp⟩
    · cases h
  | .bool b, v, h => by
    unfold conV at h
    split at h
    · have h := of_decide_eq_true h
      subst h
      exact ⟨⟨.bl b, rfl, rfl, fun G _ => .bl b⟩, fun p hp => by cases hp⟩
    · cases h
  | .int i, v, h => by
    unfold conV at h
    split at h
    · have h := of_decide_eq_true h
      subst h
      exact ⟨⟨.int i, rfl, ⟨_, rfl⟩, fun G _ => .int i⟩, fun p hp => by cases hp⟩
    · cases h
  | .str x, v, h => by
    unfold conV at h
    split at h
    · have h := of_decide_eq_true h
      subst h
      exact ⟨⟨.str x, rfl, ⟨_, rfl⟩, fun G _ => .str x⟩, fun p hp => by cases hp⟩
    · cases h
  | .tuple ds, v, h => by
    unfold conV at h
    split at h
    · rename_i a
      split at h
      · rename_i c its n sl hg
        obtain ⟨h1, h⟩ := ba h
        obtain ⟨h2, h⟩ := ba h
        obtain ⟨h3, hf⟩ := ba h
        clear h
        have h1 := of_decide_eq_true h1
        subst h1
        have h2 := of_decide_eq_true h2
        obtain ⟨⟨xs, e1, e2, e3⟩, e4⟩ := conAll_ok (K := K) (w := w) hf
        have eh : hsV g (.tuple ds) (.ref a) = (a, (⟨.type "tuple", none, .seq its n, sl⟩ : Obj)) :: hsAll g ds its.toList := by
          unfold hsV; simp only [hg]
        have eu : hoC (⟨.type "tuple", none, .seq its n, sl⟩ : Obj) = some (.tup xs) := by
          show (absAll its.toList).map HO.tup = _
          rw [e1]; rfl
        have z := okA_ok h3
        rw [eh]
        refine ⟨⟨.ref a, rfl, rfl, fun G hG => ?_⟩, fun p hp => ?_⟩
        · refine .tup (hG _ List.mem_cons_self _ eu) rfl (e3 G fun p hp => hG p (List.mem_cons_of_mem _ hp))
        · rcases List.mem_cons.mp hp with rfl | hp
          · refine ⟨⟨_, eu, fun P H h he => ⟨?_, its.toList, e2, ⟨_, he, rfl, n, by simp⟩⟩, (fun z => absurd (Value.type.inj z) (by decide)), z.1, z.2.1, z.2.2⟩, hg⟩
            rw [e2.length, Array.length_toList]
            exact h2
          · exact e4 p hp
      · cases h
    · cases h
  | .list ds, v, h => by unfold conV at h; cases h
  | .dict ds, v, h => by unfold conV at h; cases h
theorem conAll_ok {K : PySem.W.Frag} {w : World} {g : Addr → Option Obj} : ∀ {ds : List PyData} {vs : List Value}, conAll g ds vs = true →
    (∃ xs, absAll vs = some xs ∧ Vals xs vs ∧ ∀ G : Hp, (∀ p ∈ hsAll g ds vs, ∀ u, hoC p.2 = some u → G p.1 = some (.frz p.2 u)) → TrFAll K G xs ds) ∧ ∀ p ∈ hsAll g ds vs, HidO w p.1 p.2 ∧ g p.1 = some p.2
  | [], vs, h => by
    unfold conAll at h
    split at h
    · exact ⟨⟨[], rfl, .nil, fun G _ => .nil⟩, fun p hp => by simp [hsAll] at hp⟩
    · cases h
  | d :: ds, vs, h => by
    unfold conAll at h
    split at h
    · rename_i v vs
      obtain ⟨h1, h2⟩ := ba h
      obtain ⟨⟨x, a1, a2, a3⟩, a4⟩ := conV_ok (K := K) (w := w) h1
      obtain ⟨⟨xs, b1, b2, b3⟩, b4⟩ := conAll_ok (K := K) (w := w) h2
      have eh : hsAll g (d :: ds) (v :: vs) = hsV g d v ++ hsAll g ds vs := rfl
      rw [eh]
      refine ⟨⟨x :: xs, by unfold absAll; rw [a1, b1], .cons a2 b2, fun G hG => .cons (a3 G fun p hp => hG p (List.mem_append_left _ hp)) (b3 G fun p hp => hG p (List.mem_append_right _ hp))⟩, fun p hp => ?_⟩
      rcases List.mem_append.mp hp with hp | hp
      · exact a4 p hp
      · exact b4 p hp
    · cases h
end
/-! a dict with text keys -/
def conEs (g : Addr → Option Obj) : List (PyData × PyData) → List DictEntry → Bool
  | [], es => (match es with | [] => true | _ => false)
  | (k, d) :: ds, es => (match k, es with
    | .str x, e :: es => (match e.key with
      | .str y _ => decide (x = y) && (conV g d e.val && conEs g ds es)
      | _ => false)
    | _, _ => false)
def hsEs (g : Addr → Option Obj) : List (PyData × PyData) → List DictEntry → List (Addr × Obj)
  | [], _ => []
  | (_, d) :: ds, es => (match es with | e :: es => hsV g d e.val ++ hsEs g ds es | _ => [])
def strKs : List (PyData × PyData) → List Str
  | [] => []
  | (.str x, _) :: r => x :: strKs r
  | _ :: r => strKs r
theorem conEs_ok {K : PySem.W.Frag} {w : World} {g : Addr → Option Obj} : ∀ {ds : List (PyData × PyData)} {es : List DictEntry}, conEs g ds es = true →
    ∃ kvs vs, absEs es = some kvs ∧ KV kvs vs ∧ kvs.map (·.1) = (strKs ds).map Sum.inr ∧ (∀ P : Program, Pairs (mixKind P w) es vs) ∧ kvs.length = es.length ∧
      (∀ G : Hp, (∀ p ∈ hsEs g ds es, ∀ u, hoC p.2 = some u → G p.1 = some (.frz p.2 u)) → TrFKV K G kvs ds) ∧ ∀ p ∈ hsEs g ds es, HidO w p.1 p.2 ∧ g p.1 = some p.2
  | [], es, h => by
    unfold conEs at h
    split at h
    · exact ⟨[], [], rfl, .nil, rfl, fun P => .nil, rfl, fun G _ => .nil, fun p hp => by simp [hsEs] at hp⟩
    · cases h
  | (k, d) :: ds, es, h => by
    unfold conEs at h
    split at h
    · rename_i x e es
      split at h
      · rename_i y t hk
        obtain ⟨h1, h⟩ := ba h
        obtain ⟨h2, h3⟩ := ba h
        have h1 := of_decide_eq_true h1
        subst h1
        obtain ⟨⟨v, a1, a2, a3⟩, a4⟩ := conV_ok (K := K) (w := w) h2
        obtain ⟨kvs, vs, b1, b2, b3, b4, b5, b6, b7⟩ := conEs_ok (K := K) (w := w) h3
        have eh : hsEs g ((.str x, d) :: ds) (e :: es) = hsV g d e.val ++ hsEs g ds es := rfl
        rw [eh]
        refine ⟨(.inr x, v) :: kvs, (.inr x, e.val) :: vs, by unfold absEs; rw [hk, a1, b1], .cons ⟨rfl, a2⟩ b2, by rw [List.map_cons, b3]; rfl, fun P => .cons (by rw [hk]; exact keyIs_str x t) rfl (b4 P), by rw [List.length_cons, List.length_cons, b5],
          fun G hG => .cons (k := .inr x) (a3 G fun p hp => hG p (List.mem_append_left _ hp)) (b6 G fun p hp => hG p (List.mem_append_right _ hp)), fun p hp => ?_⟩
        rcases List.mem_append.mp hp with hp | hp
        · exact a4 p hp
        · exact b7 p hp
      · cases h
    · cases h
theorem kv_keys {κ : Type} : ∀ {kvs : List (κ × V)} {vs : List (κ × Value)}, KV kvs vs → vs.map (·.1) = kvs.map (·.1)
  | _, _, .nil => rfl
  | _, _, .cons h t => by rw [List.map_cons, List.map_cons, kv_keys t]; exact List.cons_eq_cons.mpr ⟨h.1.symm, rfl⟩
/-- one constant: a tuple, or a dict with text keys -/
def conT (g : Addr → Option Obj) (d : PyData) (v : Value) : Bool := match d with
  | .dict ds => (match v with
    | .ref a => (match g a with
      | some ⟨.type c, none, .dict es _, sl⟩ => decide (c = "dict") && (sl.isEmpty && (!(a == sysModules) && (okA a && (decide (es.size ≤ sizeLine) && (decide (strKs ds).Nodup && conEs g ds es.toList)))))
      | _ => false)
    | _ => false)
  | _ => conV g d v
def hsT (g : Addr → Option Obj) (d : PyData) (v : Value) : List (Addr × Obj) := match d with
  | .dict ds => (match v with
    | .ref a => (match g a with
      | some o => (a, o) :: (match o.data with
        | .dict es _ => hsEs g ds es.toList
        | _ => [])
      | _ => [])
    | _ => [])
  | _ => hsV g d v
def haT (g : Addr → Option Obj) (d : PyData) (v : Value) : List (Option (Str × Int)) := match d with
  | .dict _ => (match v with
    | .ref a => (match g a with
      | some o => (match o.data with
        | .dict es _ => es.toList.map He.keyOf
        | _ => [])
      | _ => [])
    | _ => [])
  | _ => []
def hxT (P : Params) (d : PyData) : List (Option (Str × Int)) := match d with
  | .dict ds => keysIn P (strKs ds)
  | _ => []
theorem conT_ok {K : PySem.W.Frag} {w : World} {g : Addr → Option Obj} {d : PyData} {v : Value} (h : conT g d v = true) (hh : haT g d v = hxT w.params d) : ConF K w g (hsT g d v) d v := by
  unfold conT at h
  split at h
  · rename_i ds
    split at h
    · rename_i a
      split at h
      · rename_i c es n sl hg
        obtain ⟨h1, h⟩ := ba h
        obtain ⟨h2, h⟩ := ba h
        obtain ⟨h3, h⟩ := ba h
        obtain ⟨h4, h⟩ := ba h
        obtain ⟨h5, h⟩ := ba h
        obtain ⟨h6, hf⟩ := ba h
        clear h
        have h1 := of_decide_eq_true h1
        subst h1
        have h2 : sl = #[] := Array.isEmpty_iff.mp h2
        subst h2
        have h3 : (a == sysModules) = false := by simpa using h3
        have h5 := of_decide_eq_true h5
        have h6 := of_decide_eq_true h6
        obtain ⟨kvs, vs, b1, b2, b3, b4, b5, b6, b7⟩ := conEs_ok (K := K) (w := w) hf
        have eh : hsT g (.dict ds) (.ref a) = (a, (⟨.type "dict", none, .dict es n, #[]⟩ : Obj)) :: hsEs g ds es.toList := by
          unfold hsT; simp only [hg]
        have ea : haT g (.dict ds) (.ref a) = es.toList.map He.keyOf := by
          unfold haT; simp only [hg]
        rw [ea] at hh
        have kl := keysLit_of (P := w.params) hh
        have eu : hoC (⟨.type "dict", none, .dict es n, #[]⟩ : Obj) = some (.dK kvs) := by
          show (absEs es.toList).map HO.dK = _
          rw [b1]; rfl
        have z := okA_ok h4
        have nd : (vs.map (·.1)).Nodup := by
          rw [kv_keys b2, b3]
          exact List.pairwise_map.mpr (h6.imp fun hne q => hne (Sum.inr.inj q))
        rw [eh]
        refine ⟨⟨.ref a, rfl, rfl, fun G hG => ?_⟩, fun p hp => ?_⟩
        · exact .dK (.inr ⟨_, hG _ List.mem_cons_self _ eu⟩) (b6 G fun p hp => hG p (List.mem_cons_of_mem _ hp))
        · rcases List.mem_cons.mp hp with rfl | hp
          · refine ⟨⟨_, eu, fun P H h he => ⟨by rw [b5, Array.length_toList]; exact h5, h3, vs, b2, ⟨_, es, n, he, ⟨rfl, rfl, rfl⟩, rfl, fun e he => ?_, b4 P, nd⟩⟩, (fun z => absurd (Value.type.inj z) (by decide)), z.1, z.2.1, z.2.2⟩, hg⟩
            obtain ⟨x, t, k1, k2⟩ := kl.all e (Array.mem_toList_iff.mpr he)
            exact ⟨.inr x, by rw [k1]; exact keyIs_str x t, by rw [k2]; rfl⟩
          · exact b7 p hp
      · cases h
    · cases h
  · rename_i hd
    have e : hsT g d v = hsV g d v := by
      unfold hsT
      cases d with
      | dict ds => exact absurd rfl (hd ds)
      | _ => rfl
    rw [e]
    exact conV_ok h
abbrev Cons : Type := List (Str × PyData)
def gv (K : PySem.W.Frag) (x : Str) : Value := .ref (ga K x)
def hsC (g : Addr → Option Obj) (K : PySem.W.Frag) (cn : Cons) : List (Addr × Obj) := cn.flatMap fun q => hsT g q.2 (gv K q.1)
def consB (g : Addr → Option Obj) (K0 K : PySem.W.Frag) (cn : Cons) : Bool := cn.all fun q => eqO (PySem.W.nsIn K mainGlobals q.1) (some (some (gv K0 q.1))) && conT g q.2 (gv K0 q.1)
theorem gv_of {K0 K : PySem.W.Frag} {x : Str} (h : PySem.W.nsIn K mainGlobals x = some (some (gv K0 x))) : ga K x = ga K0 x := by
  have e : ga K x = (match PySem.W.nsIn K mainGlobals x with
    | some (some (.ref a)) => a
    | _ => 0) := rfl
  rw [e, h]
  rfl
def haC (g : Addr → Option Obj) (K : PySem.W.Frag) (cn : Cons) : List (List (Option (Str × Int))) := cn.map fun q => haT g q.2 (gv K q.1)
def hxC (P : Params) (cn : Cons) : List (List (Option (Str × Int))) := cn.map fun q => hxT P q.2
/-- what is told of the constants -/
structure ConS (w : World) (cn : Cons) (K : PySem.W.Frag) (hs : List (Addr × Obj)) (h : Heap) : Prop where
  at_ : ∀ p ∈ hs, h.get? p.1 = some p.2
  no : ∀ p ∈ hs, K.lookup p.1 = none
  ok : ∀ p ∈ hs, HidO w p.1 p.2
  tr : ∀ q ∈ cn, ∀ G : Hp, (∀ p ∈ hs, ∀ u, hoC p.2 = some u → G p.1 = some (.frz p.2 u)) → TrF K G (.ref (ga K q.1)) q.2
  ns : ∀ q ∈ cn, PySem.W.nsIn K mainGlobals q.1 = some (some (.ref (ga K q.1)))
def consT (K : PySem.W.Frag) (cn : Cons) : List (V × PyData) := cn.map fun q => (.ref (ga K q.1), q.2)
/-! ### the hook, with the class statics in view, the constants hidden -/
def asY (g : Addr → Option Obj) (n : Nat) : List Addr := PySem.cStatics :: asD g n
def frH (K0 : PySem.W.Frag) (hs : List (Addr × Obj)) : PySem.W.Frag := K0.filter fun q => !hs.any fun p => p.1 == q.1
theorem lookup_filter {K0 : PySem.W.Frag} {f : Addr × Obj → Bool} {a : Addr} {o : Obj} (h : (K0.filter f).lookup a = some o) : (a, o) ∈ K0 ∧ f (a, o) = true := List.mem_filter.mp (lk_mem h)
abbrev AlY : Type := AlX × List (List (Option (Str × Int)))
def obsY (n : Nat) (fa : List Fa) (fn : List DefD) (ts : List Tab) (tf : List Defn) (ex : PySem.W.Frag → Bool) (cn : Cons) (g : Addr → Option Obj) : AlY :=
  let K0 := frT g (asY g n)
  let K := frH K0 (hsC g K0 cn)
  ((obsT fa fn ts K, ex K && (tabsB g tf K && consB g K0 K cn)), haC g K0 cn)
def valY (fn : List DefD) (ts : List Tab) (cn : Cons) (w : World) : AlY := (valX fn ts w, hxC w.params cn)
theorem mem_frT {g : Addr → Option Obj} {as : List Addr} {a : Addr} {o : Obj} (h : (a, o) ∈ frT g as) : g a = some o ∧ emptyTab o = false := by
  obtain ⟨h1, h2⟩ := List.mem_filter.mp h
  exact ⟨frG_mem h1, by simpa using h2⟩
theorem ha_at : ∀ {cn : Cons} {g : Addr → Option Obj} {K : PySem.W.Frag} {P : Params}, haC g K cn = hxC P cn → ∀ q ∈ cn, haT g q.2 (gv K q.1) = hxT P q.2
  | [], _, _, _, _, q, hq => by cases hq
  | r :: cn, g, K, P, h, q, hq => by
    have h : haT g r.2 (gv K r.1) :: haC g K cn = hxT P r.2 :: hxC P cn := h
    injection h with h1 h2
    rcases List.mem_cons.mp hq with rfl | hq
    · exact h1
    · exact ha_at h2 q hq
theorem saysY_of {n : Nat} {fa : List Fa} {fn : List DefD} {ts : List Tab} {tf : List Defn} {ex : PySem.W.Frag → Bool} {cn : Cons} {w : World} {h : Heap} (e : obsY n fa fn ts tf ex cn h.get? = valY fn ts cn w) :
    ∃ (K : PySem.W.Frag) (hs : List (Addr × Obj)), K.In h ∧ SaysX fa fn ts tf ex w h K ∧ ConS w cn K hs h := by
  have e1 : (obsT fa fn ts (frH (frT h.get? (asY h.get? n)) (hsC h.get? (frT h.get? (asY h.get? n)) cn)), ex (frH (frT h.get? (asY h.get? n)) (hsC h.get? (frT h.get? (asY h.get? n)) cn)) &&
    (tabsB h.get? tf (frH (frT h.get? (asY h.get? n)) (hsC h.get? (frT h.get? (asY h.get? n)) cn)) && consB h.get? (frT h.get? (asY h.get? n)) (frH (frT h.get? (asY h.get? n)) (hsC h.get? (frT h.get? (asY h.get? n)) cn)) cn)) = valX fn ts w := congrArg (fun z : AlY => z.1) e
  have e2 : haC h.get? (frT h.get? (asY h.get? n)) cn = hxC w.params cn := congrArg (fun z : AlY => z.2) e
  have mm : ∀ a o, (a, o) ∈ frT h.get? (asY h.get? n) → h.get? a = some o ∧ emptyTab o = false := fun a o z => mem_frT z
  clear e
  revert e1 e2 mm
  generalize frT h.get? (asY h.get? n) = K0
  intro e1 e2 mm
  have lk : ∀ a o, (frH K0 (hsC h.get? K0 cn)).lookup a = some o → (h.get? a = some o ∧ emptyTab o = false) ∧ ∀ p ∈ hsC h.get? K0 cn, p.1 ≠ a := fun a o z => by
    obtain ⟨z1, z2⟩ := lookup_filter z
    refine ⟨mm a o z1, fun p hp z3 => ?_⟩
    have z2 : (!(hsC h.get? K0 cn).any fun p => p.1 == a) = true := z2
    rw [Bool.not_eq_true', ← Bool.not_eq_true, List.any_eq_true] at z2
    exact z2 ⟨p, hp, by rw [z3]; simp⟩
  revert e1 lk
  generalize hK : frH K0 (hsC h.get? K0 cn) = K
  intro e1 lk
  obtain ⟨h1, h2⟩ := ba (congrArg (fun z : AlX => z.2) e1 : (ex K && (tabsB h.get? tf K && consB h.get? K0 K cn)) = true)
  obtain ⟨h2, h3⟩ := ba h2
  have key : ∀ p ∈ tf, PySem.W.codeHdIn K (cT K p).1 (cT K p).2 = true ∧ ∃ o, h.get? (cT K p).2 = some o ∧ emptyTab o = true := fun p hp => by
    obtain ⟨h4, h5⟩ := ba (List.all_eq_true.mp h2 p hp)
    refine ⟨h4, ?_⟩
    cases q : h.get? (cT K p).2 with
    | none => rw [q] at h5; cases h5
    | some o => rw [q] at h5; exact ⟨o, rfl, h5⟩
  have cons : ∀ q ∈ cn, PySem.W.nsIn K mainGlobals q.1 = some (some (gv K0 q.1)) ∧ ConF K w h.get? (hsT h.get? q.2 (gv K0 q.1)) q.2 (gv K0 q.1) := fun q hq => by
    obtain ⟨h4, h5⟩ := ba (List.all_eq_true.mp h3 q hq)
    exact ⟨eqO_ok h4, conT_ok h5 (ha_at e2 q hq)⟩
  refine ⟨K, hsC h.get? K0 cn, fun a o z => (lk a o z).1.1, ⟨congrArg (fun z : AlX => z.1) e1, h1, fun p hp => (key p hp).1, fun p hp => ?_, fun p hp => ?_⟩, ⟨fun p hp => ?_, fun p hp => ?_, fun p hp => ?_, fun q hq G hG => ?_, fun q hq => ?_⟩⟩
  · obtain ⟨_, o, q, z⟩ := key p hp
    cases y : K.lookup (cT K p).2 with
    | none => rfl
    | some o' =>
      obtain ⟨⟨y1, y2⟩, _⟩ := lk _ _ y
      rw [q] at y1; cases y1
      rw [z] at y2; cases y2
  · obtain ⟨_, o, q, z⟩ := key p hp
    rw [q, emptyTab_eq z]
  · obtain ⟨q, hq, hp⟩ := List.mem_flatMap.mp hp
    exact ((cons q hq).2.2 p hp).2
  · cases y : K.lookup p.1 with
    | none => rfl
    | some o' => exact absurd rfl ((lk _ _ y).2 p hp)
  · obtain ⟨q, hq, hp⟩ := List.mem_flatMap.mp hp
    exact ((cons q hq).2.2 p hp).1
  · obtain ⟨z1, ⟨x, z2, z3, z4⟩, _⟩ := cons q hq
    rw [gv_of z1]
    have ex : x = .ref (ga K0 q.1) := by
      have z2 : some (V.ref (ga K0 q.1)) = some x := z2
      exact (Option.some.inj z2).symm
    rw [← ex]
    exact z4 G fun p hp => hG p (List.mem_flatMap.mpr ⟨q, hq, hp⟩)
  · rw [(cons q hq).1, gv_of (cons q hq).1]
    rfl
def hookY (n : Nat) (fa : List Fa) (fn : List DefD) (ts : List Tab) (tf : List Defn) (ex : PySem.W.Frag → Bool) (cn : Cons) : PySem.W.Hook where
  α := AlY
  obs := fun s => obsY n fa fn ts tf ex cn s.heap.get?
  val := fun w => valY fn ts cn w
  says := fun w h => ∃ (K : PySem.W.Frag) (hs : List (Addr × Obj)), K.In h ∧ SaysX fa fn ts tf ex w h K ∧ ConS w cn K hs h
  of := fun _ _ e => saysY_of e
  keeps := fun _ _ _ ⟨K, hs, hK, c, z⟩ k => ⟨K, hs, PySem.W.Frag.In.keeps hK k, ⟨c.t, c.more, c.hd, c.out, fun p hp => k _ _ (c.empty p hp)⟩, ⟨fun p hp => k _ _ (z.at_ p hp), z.no, z.ok, z.tr, z.ns⟩⟩
theorem obsY_eq {n : Nat} {fa : List Fa} {fn : List DefD} {ts : List Tab} {tf : List Defn} {ex : PySem.W.Frag → Bool} {cn : Cons} {g : Addr → Option Obj} {s : Shared} (h : ∀ a, g a = s.heap.get? a) : obsY n fa fn ts tf ex cn g = (hookY n fa fn ts tf ex cn).obs s := by
  rw [show g = s.heap.get? from funext h]
  rfl
/-! ### error classes, by Bools -/
def refsB (tl : List Value) : List Value → Bool
  | .ref c :: l => refsB tl l
  | l => decide (l = tl)
theorem refsB_ok {tl : List Value} : ∀ {l : List Value}, refsB tl l = true → RefsT tl l
  | [], h => by have h : [] = tl := of_decide_eq_true h; rw [← h]; exact .here
  | v :: l, h => by
    cases v with
    | ref c => exact .more (refsB_ok h)
    | _ => have h := of_decide_eq_true (show decide (_ = tl) = true from h); rw [h]; exact .here
def oexB (newId : String) (tl : List Value) (K : PySem.W.Frag) (C : Addr) : Bool := (match K.lookup C with
  | some ⟨.type "type", _, .cls cd, sl⟩ => (match cd.mro, sl.toList with
    | .ref C' :: bm, [_, _, _, _, some (.builtin n), _] => decide (C' = C) && (decide (n = newId) && (!cd.hasDel && (cd.hasDict && refsB tl bm)))
    | _, _ => false)
  | _ => false) && (decide (PySem.W.findIn K (.ref C) "__setattr__" = some (some (.builtin "object.__setattr__"))) && (decide (PySem.W.subIn K (.ref C) (.type "BaseException") = some true) &&
    (decide (PySem.W.typeIn K (.ref C) = some (.type "type")) && PySem.W.keepIn K (.ref C))))
theorem oexB_ok {T newId initId : String} {tl : List Value} {K : PySem.W.Frag} {C : Addr} (h : oexB newId tl K C = true) : OexT T newId initId tl K C := by
  unfold oexB at h
  obtain ⟨h, h2⟩ := ba h
  obtain ⟨h3, h2⟩ := ba h2
  obtain ⟨h4, h2⟩ := ba h2
  obtain ⟨h5, h6⟩ := ba h2
  refine ⟨?_, of_decide_eq_true h3, of_decide_eq_true h4, of_decide_eq_true h5, h6⟩
  split at h
  · rename_i dd cd sl ho
    split at h
    · rename_i C' bm k0 k1 k2 k3 n k5 hm hs
      obtain ⟨e1, h⟩ := ba h
      obtain ⟨e2, h⟩ := ba h
      obtain ⟨e3, h⟩ := ba h
      obtain ⟨e4, hr⟩ := ba h
      have e1 := of_decide_eq_true e1
      have e2 := of_decide_eq_true e2
      subst e1 e2
      obtain ⟨nm, bs, mro, ns, qn, hd, sn, sub, ab, col, del⟩ := cd
      dsimp only at hm e3 e4
      have e3 : del = false := by simpa using e3
      subst hm e3 e4
      have hsl : sl = #[k0, k1, k2, k3, some (.builtin n), k5] := by
        obtain ⟨l⟩ := sl
        simp only at hs
        rw [hs]
      subst hsl
      exact ⟨nm, qn, ns, bs, bm, sn, sub, ab, col, dd, k0, k1, k2, k3, k5, ho, refsB_ok hr⟩
    · cases h
  · cases h
/-- an error class and its __init__ -/
def errB (newId : String) (tl : List Value) (K : PySem.W.Frag) (c : Str) : Bool := oexB newId tl K (ga K c) && (decide (PySem.W.findIn K (.ref (ga K c)) (fld c) = some none) &&
  (decide (PySem.W.findIn K (.ref (ga K c)) "__init__" = some (some (.ref (ma K (ga K c) "__init__")))) && (decide (PySem.W.typeIn K (.ref (ma K (ga K c) "__init__")) = some (.type "function")) && (decide (clsOf K c = some (ga K c)) && xfB K (ga K c)))))
def valIs (r : Option PySem.W.CFound) (u : Value) : Bool := match r with
  | some (.val v) => decide (v = u)
  | _ => false
theorem valIs_ok {r : Option PySem.W.CFound} {u : Value} (h : valIs r u = true) : r = some (.val u) := by
  unfold valIs at h
  split at h
  · rw [of_decide_eq_true h]
  · cases h
/-- the base's name in it -/
def basB (K : PySem.W.Frag) (x : Str) (initId : String) : Bool := decide (PySem.W.specialIn K (.ref (ga K x)) "__getattribute__" = some (some (.builtin "type.__getattribute__"))) && (PySem.W.readsIn K (ga K x) (.type "type") &&
  valIs (PySem.W.findCls K (.ref (ga K x)) (.type "type") "__init__") (.builtin initId))
def bltB (K : PySem.W.Frag) (T initId : String) : Bool := valIs (PySem.W.findCls K (.type T) (.type "type") "__init__") (.builtin initId)
def exmB (K : PySem.W.Frag) (es : List Str) (sub : Str → Str → Bool) (x : Str) : Bool := es.all fun c => decide (PySem.W.exmOne K (.ref (ga K c)) (.ref (ga K x)) = some (sub c x))
def noLst (K : PySem.W.Frag) : Bool := K.all fun p => !decide (p.2.cls = .type "list")
theorem noLst_ok {K : PySem.W.Frag} (h : noLst K = true) : ∀ b o, K.lookup b = some o → o.cls ≠ .type "list" := fun b o e z => by
  have m := He.lookup_mem e
  have := List.all_eq_true.mp h _ m
  simp [z] at this
/-- the classes by their names -/
def clsE (K : PySem.W.Frag) (es : List Str) : Clss := fun c => if c ∈ es then some (ga K c) else none
theorem clsE_at {K : PySem.W.Frag} {es : List Str} {c : Str} (h : c ∈ es) : clsE K es c = some (ga K c) := if_pos h
theorem clsE_inv {K : PySem.W.Frag} {es : List Str} {c : Str} {C : Addr} (h : clsE K es c = some C) : c ∈ es ∧ C = ga K c := by
  unfold clsE at h
  split at h
  · cases h; exact ⟨by assumption, rfl⟩
  · cases h
theorem exmB_ok {K : PySem.W.Frag} {mg : Str → Option Value} {es : List Str} {sub : Str → Str → Bool} {x : Str} (h : exmB K es sub x = true) (hm : mg x = some (.ref (ga K x))) : ExmAt K mg (clsE K es) sub x :=
  ⟨fun C hC c D hD => by
    rw [hm] at hC; cases hC
    obtain ⟨hc, rfl⟩ := clsE_inv hD
    exact of_decide_eq_true (List.all_eq_true.mp h c hc)⟩
theorem errB_xf {newId : String} {tl : List Value} {K : PySem.W.Frag} {c : Str} (h : errB newId tl K c = true) : clsOf K c = some (ga K c) ∧ XfC K (ga K c) ∧ PySem.W.findIn K (.ref (ga K c)) (fld c) = some none := by
  unfold errB at h
  obtain ⟨_, h⟩ := ba h
  obtain ⟨h2, h⟩ := ba h
  obtain ⟨_, h⟩ := ba h
  obtain ⟨_, h⟩ := ba h
  obtain ⟨h5, h6⟩ := ba h
  exact ⟨of_decide_eq_true h5, xfB_ok h6, of_decide_eq_true h2⟩
theorem errB_at {T newId initId : String} {tl : List Value} {K : PySem.W.Frag} {mg : Str → Option Value} {es : List Str} {b c : Str} {params : Arguments} {body : List Stmt} {sc : Scope} {dvs : List V} {fd : FuncData} (h : errB newId tl K c = true) (hc : c ∈ es) (hm : mg c = some (.ref (ga K c)))
    (F : FunD K "__init__" (c ++ ".__init__") params body sc dvs [] (ma K (ga K c) "__init__") fd) (hb : Binds K fd ["self", fld c] []) : ErrF K mg (clsE K es) T newId initId tl b c params body sc := by
  have h0 := h
  unfold errB at h
  obtain ⟨h1, h⟩ := ba h
  obtain ⟨h2, h⟩ := ba h
  obtain ⟨h3, h⟩ := ba h
  obtain ⟨h4, _⟩ := ba h
  exact ⟨_, _, fd, dvs, ⟨clsE_at hc, hm, oexB_ok h1, of_decide_eq_true h2, of_decide_eq_true h3, of_decide_eq_true h4, hb, F⟩⟩
theorem basB_own {K : PySem.W.Frag} {mg : Str → Option Value} {x : Str} {initId : String} (h : basB K x initId = true) (hm : mg x = some (.ref (ga K x))) (hdb : (x == ("__debug__" : Str)) = false) (hh : PySem.W.handedIn (.builtin initId) = true) : BaseN K mg x initId := by
  unfold basB at h
  obtain ⟨h1, h⟩ := ba h
  obtain ⟨h2, h3⟩ := ba h
  exact .own hm hdb (of_decide_eq_true h1) h2 (valIs_ok h3) hh
/-! ### defs -/
theorem fun_of {K : PySem.W.Frag} {x qual : Str} {st : Stmt} {f : Addr} {fd : FuncData} (F : FunD K x qual (defArgs st) (defBody st) (defScope st) [] [] f fd) : L2.Fun K x qual st f fd := by
  obtain ⟨oc, od, dV, kV, doc, pm, an, cdv, ct, osl, e, lk, hcd, hD, hK⟩ := F.ex
  rcases hD with ⟨_, rfl⟩ | ⟨z, _⟩
  · exact ⟨⟨oc, od, kV, doc, pm, an, cdv, ct, osl, e, lk, hcd⟩, F.kp⟩
  · exact absurd rfl z
theorem kwOnly_of {K : PySem.W.Frag} {x qual : Str} {st : Stmt} {f : Addr} {fd : FuncData} {ps : List Str} (F : L2.Fun K x qual st f fd)
    (h : ∀ (kV doc pm : Value) (an : Option Addr) (cdv ct : Value) (ws : List Value), ws.length = ps.length → bindArgs (PySem.W.fnOf x qual (defArgs st) (defBody st) (defScope st) .none kV doc pm an cdv ct) ⟨[], ps.zip ws⟩ = pure (ps.zip ws)) : KwOnly fd ps := by
  obtain ⟨oc, od, kV, doc, pm, an, cdv, ct, osl, rfl, lk, hcd⟩ := F.ex
  exact fun s ws hl => .of_eq (h kV doc pm an cdv ct ws hl)
/-- all arguments given, the defaults not needed -/
theorem binds_full {K : PySem.W.Frag} {x qual : Str} {params : Arguments} {body : List Stmt} {scope : Scope} {dvs : List V} {f : Addr} {fd : FuncData} {ps : List Str} (F : FunD K x qual params body scope dvs [] f fd)
    (h0 : ∀ (kV doc pm : Value) (an : Option Addr) (cdv ct : Value) (us : List Value), us.length = ps.length → dvs = [] → bindArgs (PySem.W.fnOf x qual params body scope .none kV doc pm an cdv ct) ⟨us, []⟩ = pure (ps.zip us))
    (h : ∀ (T : Addr) (kV doc pm : Value) (an : Option Addr) (cdv ct : Value) (us its : List Value), us.length = ps.length → its.length = dvs.length → dvs ≠ [] →
      ∃ k, bindArgs (PySem.W.fnOf x qual params body scope (.ref T) kV doc pm an cdv ct) ⟨us, []⟩ = seqItems? (.ref T) >>= k ∧ k (some its.toArray) = pure (ps.zip (us ++ its.drop dvs.length))) : Binds K fd ps [] := by
  by_cases hd : dvs = []
  · subst hd
    exact F.bindsN fun kV doc pm an cdv ct us hl => h0 kV doc pm an cdv ct us hl rfl
  · obtain ⟨ds, r, b⟩ := F.binds1 ps.length dvs.length hd (by omega) fun T kV doc pm an cdv ct us its l1 l2 => h T kV doc pm an cdv ct us its l1 l2 hd
    rw [List.drop_length] at r
    cases r
    exact b
theorem lamAt_of {K : PySem.W.Frag} {mg : Str → Option Value} {base : Heap} {T : YT} {x : Str} {params : Arguments} {body : List Stmt} {scope : Scope} {dvs : List V} {kws : List (Str × V)} {fd : FuncData} (hm : mg x = some (.ref (ga K x)))
    (F : FunD K x x params body scope dvs kws (fAd K (x, none)) fd) (TB : TabB base mg (cT K (x, none)).1 (cT K (x, none)).2) (hmem : ((cT K (x, none)).2, lamQ x) ∈ T.t) (hu : ∀ p ∈ T.t, p.1 = (cT K (x, none)).2 → p.2 = lamQ x) : LamAt K mg base T x := by
  intro f cdv hf hcd
  rw [hm] at hf; cases hf
  obtain ⟨oc, od, dV, kV, doc, pm, an, cv, ct, osl, rfl, lk, hci, _, _⟩ := F.ex
  obtain ⟨oc2, od2, fd2, osl2, lk2, e2⟩ := hcd
  have lk2 : K.lookup (fAd K (x, none)) = some ⟨oc2, od2, .func fd2, osl2⟩ := lk2
  rw [lk] at lk2
  cases lk2
  obtain ⟨c, rfl⟩ := codeIn_ref hci
  have ec : codeOf K (x, none) = c := codeOf_eq lk rfl
  refine ⟨c, (cT K (x, none)).2, e2.symm, ?_, hmem, hu⟩
  have e1 : (cT K (x, none)).1 = c := ec
  rw [← e1]
  exact TB
/-- the tables of the defs that make lambdas -/
def tabs (K : PySem.W.Frag) (tf : List Str) : List (Addr × Str) := tf.map fun x => ((cT K (x, none)).2, lamQ x)
def tabNd (K : PySem.W.Frag) (tf : List Str) : Bool := decide ((tf.map fun x => (cT K (x, none)).2).Nodup)
theorem tabs_uniq {K : PySem.W.Frag} : ∀ {tf : List Str}, (tf.map fun x => (cT K (x, none)).2).Nodup → ∀ x ∈ tf, ∀ p ∈ tabs K tf, p.1 = (cT K (x, none)).2 → p.2 = lamQ x
  | [], _, x, hx, _, _, _ => by cases hx
  | y :: tf, nd, x, hx, p, hp, e => by
    rw [List.map_cons, List.nodup_cons] at nd
    unfold tabs at hp
    rw [List.map_cons] at hp
    rcases List.mem_cons.mp hx with rfl | hx
    · rcases List.mem_cons.mp hp with rfl | hp
      · rfl
      · obtain ⟨z, hz, rfl⟩ := List.mem_map.mp hp
        exact absurd (List.mem_map.mpr ⟨z, hz, e⟩) nd.1
    · rcases List.mem_cons.mp hp with rfl | hp
      · exact absurd (List.mem_map.mpr ⟨x, hx, e.symm⟩) nd.1
      · exact tabs_uniq nd.2 x hx p hp e
/-! ### the law's promise at the script -/
theorem ints_tr {K : PySem.W.Frag} {G : Hp} : ∀ ns : List Int, TrAll K G (ns.map V.int) (ns.map PyData.int)
  | [] => .nil
  | n :: ns => .cons (.int n) (ints_tr ns)
theorem sp_law {K : PySem.W.Frag} {T : YT} {cls : Clss} {F : List PyData → R PyData} {H : Hp} {a : Addr} {ns : List Int} {hs : List (Addr × Obj)} (hS : Rd H a (.lst (ns.map V.int))) (hT : Tabs T.t H) (hH : ∀ p ∈ hs, ∃ u, hoC p.2 = some u ∧ H p.1 = some (.frz p.2 u)) (hC : ∀ G : Hp, (∀ p ∈ hs, ∀ u, hoC p.2 = some u → G p.1 = some (.frz p.2 u)) → Cst K T G) (hF : F [.list (ns.map PyData.int)] = .ok (.bool true)) :
    spF K T cls 1 F [.ref a] H (fun v _ => v = .bl true) (fun _ _ _ => False) := by
  refine ⟨fun b => if b = a ∨ b ∈ hs.map (·.1) then H b else none, [.list (ns.map PyData.int)], fun b o e => ?_, .cons (.lst ?_ (ints_tr ns)) .nil, rfl, ⟨hT, hC _ fun p hp u hu => ?_⟩, ?_⟩
  · by_cases hb : b = a ∨ b ∈ hs.map (·.1)
    · have e' : H b = some o := (if_pos hb).symm.trans e
      clear e
      refine ⟨e', fun ps z => ?_⟩
      subst z
      rcases hb with hb | hb
      · rw [hb] at e'
        rcases hS with h | ⟨o, h⟩ <;> · rw [e'] at h; cases h
      · obtain ⟨p, hp, ep⟩ := List.mem_map.mp hb
        obtain ⟨u, _, h⟩ := hH p hp
        rw [ep, e'] at h; cases h
    · have e : (none : Option HO) = some o := (if_neg hb).symm.trans e
      cases e
  · rcases hS with h | ⟨o, h⟩
    · exact .inl ((if_pos (.inl rfl)).trans h)
    · exact .inr ⟨o, (if_pos (.inl rfl)).trans h⟩
  · obtain ⟨u', h1, h2⟩ := hH p hp
    rw [hu] at h1; cases h1
    exact (if_pos (.inr (List.mem_map.mpr ⟨p, hp, rfl⟩))).trans h2
  · rw [hF]
    intro v H' G' _ t
    cases t
    rfl
/-! ### the text flags that the top asks -/
/-- the world, one flag known -/
def setF (w : World) (b : Bool) : World := { w with params := { w.params with followText := fun s => if s = "special-get-raises" then b else w.params.followText s } }
theorem setF_eq (w : World) : setF w (w.params.followText "special-get-raises") = w := by
  have key : (fun s => if s = "special-get-raises" then w.params.followText "special-get-raises" else w.params.followText s) = w.params.followText := by
    funext s
    split
    · rename_i e; rw [e]
    · rfl
  unfold setF
  rw [key]
end Y


/-! YPlain: the functions over data, applied: what simp is to know. -/
namespace Y
open PySem PySem.Spec PyProof.Rows L2
section
variable {α β : Type} {a : α} {f : α → R β} {c : Str} {d : PyData} {ρ : En} {i : Nat}
@[simp] theorem bind_ok : (R.ok a).bind f = f a := rfl
@[simp] theorem bind_er : (R.er c d : R α).bind f = .er c d := rfl
@[simp] theorem bind_no : (R.no : R α).bind f = .no := rfl
@[simp] theorem ofR_ok {k : α → Out} : ofR (.ok a) k = k a := rfl
@[simp] theorem ofR_er {k : α → Out} : ofR (.er c d) k = .er c d := rfl
@[simp] theorem ofR_no {k : α → Out} : ofR .no k = .no := rfl
@[simp] theorem ofO_some : ofO (some a) = .ok a := rfl
@[simp] theorem ofO_none : ofO (none : Option α) = .no := rfl
@[simp] theorem ap_fNm : fNm i ρ = match ρ[i]? with
  | some (.sh d) => .ok (d, ρ)
  | some (.ow d) => .ok (d, ρ.set i (.sh d))
  | _ => .no := rfl
@[simp] theorem ap_fC : fC d ρ = .ok (d, ρ) := rfl
@[simp] theorem ap_fOp {g : PyData → PyData → Option PyData} {fa fb : EF} : fOp g fa fb ρ = (fa ρ).bind fun x => (fb x.2).bind fun y => (ofO (g x.1 y.1)).bind fun d => .ok (d, y.2) := rfl
@[simp] theorem ap_fUn {g : PyData → Option PyData} {fa : EF} : fUn g fa ρ = (fa ρ).bind fun x => (ofO (g x.1)).bind fun d => .ok (d, x.2) := rfl
@[simp] theorem ap_fB {f : EF} : fB f ρ = (f ρ).bind fun x => (ofO (asB x.1)).bind fun k => .ok (k, x.2) := rfl
@[simp] theorem ap_fAnd {s t : TF} : fAnd s t ρ = (s ρ).bind fun x => if x.1 = true then t x.2 else .ok (false, x.2) := rfl
@[simp] theorem ap_fOr {s t : TF} : fOr s t ρ = (s ρ).bind fun x => if x.1 = true then .ok (true, x.2) else t x.2 := rfl
@[simp] theorem ap_fNot {s : TF} : fNot s ρ = (s ρ).bind fun x => .ok (!x.1, x.2) := rfl
@[simp] theorem ap_fAndV {fa fb : EF} : fAndV fa fb ρ = (fB fa ρ).bind fun x => if x.1 = true then fb x.2 else .ok (.bool false, x.2) := rfl
@[simp] theorem ap_fOrV {fa fb : EF} : fOrV fa fb ρ = (fB fa ρ).bind fun x => if x.1 = true then .ok (.bool true, x.2) else fb x.2 := rfl
@[simp] theorem ap_fNotV {fa : EF} : fNotV fa ρ = (fB fa ρ).bind fun x => .ok (.bool (!x.1), x.2) := rfl
@[simp] theorem ap_fIf {t : TF} {fa fb : EF} : fIf t fa fb ρ = (t ρ).bind fun x => if x.1 = true then fa x.2 else fb x.2 := rfl
@[simp] theorem ap_fNil : fNil ρ = .ok ([], ρ) := rfl
@[simp] theorem ap_fCons {f : EF} {fs : AF} : fCons f fs ρ = (f ρ).bind fun x => (fs x.2).bind fun xs => .ok (x.1 :: xs.1, xs.2) := rfl
@[simp] theorem ap_fTup {fs : AF} : fTup fs ρ = (fs ρ).bind fun x => if x.1.length ≤ 1000 then .ok (.tuple x.1, x.2) else .no := rfl
@[simp] theorem ap_fLst {fs : AF} : fLst fs ρ = (fs ρ).bind fun x => if x.1.length ≤ 1000 then .ok (.list x.1, x.2) else .no := rfl
@[simp] theorem ap_fChain {g g' : PyData → PyData → Option PyData} {fa fb fc : EF} : fChain g g' fa fb fc ρ = (fa ρ).bind fun x => (fb x.2).bind fun y => (ofO (g x.1 y.1)).bind fun d => (ofO (asB d)).bind fun k =>
  if k = true then (fc y.2).bind fun z => (ofO (g' y.1 z.1)).bind fun d' => .ok (d', z.2) else .ok (.bool false, y.2) := rfl
@[simp] theorem ap_fIsi {n : String} {f : EF} : fIsi n f ρ = (f ρ).bind fun x => if isExc x.1 = false then .ok (.bool (isTy n x.1), x.2) else .no := rfl
@[simp] theorem ap_fCall {F : List PyData → R PyData} {fs : AF} : fCall F fs ρ = (fs ρ).bind fun x => (F x.1).bind fun d => .ok (d, x.2) := rfl
@[simp] theorem ap_fCallS {F : PyData → List PyData → R (PyData × PyData)} {fs : AF} : fCallS F i fs ρ = (ioAt ρ i).bind fun _ => (fs ρ).bind fun x => (ioAt x.2 i).bind fun d0 => (F d0 x.1).bind fun r => .ok (r.1, ioSet x.2 i r.2) := rfl
@[simp] theorem ap_fBlt {g : List PyData → Option PyData} {fs : AF} : fBlt g fs ρ = (fs ρ).bind fun x => (ofO (g x.1)).bind fun d => .ok (d, x.2) := rfl
@[simp] theorem ap_fBltN {g : List PyData → Option (List PyData)} {fs : AF} : fBltN g fs ρ = (fs ρ).bind fun x => (ofO (g x.1)).bind fun ds => .ok (.list ds, x.2) := rfl
@[simp] theorem ap_fBltX {g : List PyData → Option PyData} : fBltX g i ρ = (anyAt ρ i).bind fun d => (ofO (g [d])).bind fun r => if scl r = true then .ok (r, ρ) else .no := rfl
@[simp] theorem ap_fIxN {fk : EF} : fIxN i fk ρ = (anyAt ρ i).bind fun d0 => (fk ρ).bind fun y => (anyAt y.2 i).bind fun d => if isDct d = isDct d0 then (ofO (gIxD d y.1)).bind fun r => .ok (r, y.2) else .no := rfl
@[simp] theorem ap_fOpN {g : PyData → PyData → Option PyData} {fa : EF} : fOpN g fa i ρ = (fa ρ).bind fun x => (anyAt x.2 i).bind fun d => (ofO (g x.1 d)).bind fun r => if scl r = true then .ok (r, x.2) else .no := rfl
@[simp] theorem ap_fMth {F : PyData → List PyData → Option (PyData × PyData)} {fs : AF} : fMth F i fs ρ = (ioAt ρ i).bind fun z => if isLst z = true then (fs ρ).bind fun x => (ioAt x.2 i).bind fun d0 => (ofO (F d0 x.1)).bind fun r => .ok (r.1, ioSet x.2 i r.2) else .no := rfl
@[simp] theorem ap_fDsp {fr : En → R (List (PyData × PyData) × En)} : fDsp fr ρ = (fr ρ).bind fun r => if r.1.length ≤ 15 then .ok (.dict (mergeD r.1), r.2) else .no := rfl
@[simp] theorem ap_pNil : pNil ρ = .ok ([], ρ) := rfl
@[simp] theorem ap_pCons {fk fv : EF} {fr : En → R (List (PyData × PyData) × En)} : pCons fk fv fr ρ = (fk ρ).bind fun k => (fv k.2).bind fun v => (ofO (keyOf k.1)).bind fun _ => (fr v.2).bind fun r => .ok ((k.1, v.1) :: r.1, r.2) := rfl
@[simp] theorem ap_fSl {f : EF} {lo hi : OF} : fSl f lo hi ρ = (f ρ).bind fun x => (lo x.2).bind fun l => (hi l.2).bind fun u => (ofO (slD x.1 l.1 u.1)).bind fun d => .ok (d, u.2) := rfl
@[simp] theorem ap_oNo : oNo ρ = .ok (none, ρ) := rfl
@[simp] theorem ap_oEx {f : EF} : oEx f ρ = (f ρ).bind fun x => (ofO (asI x.1)).bind fun i => .ok (some i, x.2) := rfl
@[simp] theorem ap_fItems {f : EF} : fItems f ρ = (f ρ).bind fun x => (ofO (itemsOf x.1)).bind fun ds => .ok (ds, x.2) := rfl
@[simp] theorem ap_fRng {fs : AF} : fRng fs ρ = (fs ρ).bind fun x => (ofO (rngOf x.1)).bind fun ds => .ok (ds, x.2) := rfl
@[simp] theorem ap_fRng3 {fs : AF} : fRng3 fs ρ = (fs ρ).bind fun x => (ofO (rng3Of x.1)).bind fun ds => .ok (ds, x.2) := rfl
@[simp] theorem ap_fEnum2 {fs : AF} : fEnum2 fs ρ = (fs ρ).bind fun x => (ofO (seqOf x.1)).bind fun ds => .ok (enumD 0 ds, x.2) := rfl
@[simp] theorem ap_fEnum {fs : AF} : fEnum fs ρ = (fs ρ).bind fun x => (ofO (lstOf x.1)).bind fun ds => .ok (enumD 0 ds, x.2) := rfl
/-! statements -/
@[simp] theorem ap_sSeq {g h : SF} : sSeq g h ρ = match g ρ with
  | .nx ρ' => h ρ'
  | o => o := rfl
@[simp] theorem ap_sNil : sNil ρ = .nx ρ := rfl
@[simp] theorem ap_sRet {f : EF} : sRet f ρ = ofR (f ρ) fun x => .rt x.1 x.2 := rfl
@[simp] theorem ap_sRetN {f : EF} : sRetN f ρ = ofR (f ρ) fun x => .rn x.1 x.2 := rfl
@[simp] theorem ap_sRet0 : sRet0 ρ = .rt .none ρ := rfl
@[simp] theorem ap_sExpr {f : EF} : sExpr f ρ = ofR (f ρ) fun x => .nx x.2 := rfl
@[simp] theorem ap_sIf {t : TF} {g h : SF} : sIf t g h ρ = ofR (t ρ) fun x => if x.1 = true then g x.2 else h x.2 := rfl
@[simp] theorem ap_sAsg {f : EF} {g : PyData → En → Option En} : sAsg f g ρ = ofR (f ρ) fun x => match g x.1 x.2 with
  | some ρ' => .nx ρ'
  | none => .no := rfl
@[simp] theorem ap_sOwn {f : EF} : sOwn f i ρ = ofR (f ρ) fun x => .nx (x.2.set i (.ow x.1)) := rfl
@[simp] theorem ap_sPar {is : List Nat} {ks : List Bool} {fs : AF} : sPar is ks fs ρ = ofR (fs ρ) fun x => if x.1.length = is.length then .nx (setK is ks x.1 x.2) else .no := rfl
@[simp] theorem ap_sRaise {f : EF} : sRaise c f ρ = ofR (f ρ) fun x => .er c x.1 := rfl
@[simp] theorem ap_sFor {fi : AF} {g : PyData → En → Option En} {b : SF} : sFor fi g b ρ = ofR (fi ρ) fun x => forF g b x.1 x.2 := rfl
@[simp] theorem ap_sWhile {t : TF} {b : SF} : sWhile t b ρ = whileF t b fuel ρ := rfl
@[simp] theorem ap_sPut {fk fv : EF} : sPut i fk fv ρ = ofR ((fv ρ).bind fun v => (ioAt v.2 i).bind fun _ => (fk v.2).bind fun k => (ioAt k.2 i).bind fun d => match d, kc k.1 with
  | .dict es, some c => if kindOk es c = true ∧ es.length < 1000000 then .ok (.dict (putD es k.1 c v.1), k.2) else .no
  | _, _ => .no) fun x => .nx (ioSet x.2 i x.1) := rfl
@[simp] theorem ap_tNm : tNm i d ρ = some (ρ.set i (.sh d)) := rfl
@[simp] theorem ap_tTp {n : Nat} {gs : List PyData → En → Option En} {ds : List PyData} : tTp n gs (.tuple ds) ρ = if ds.length = n then gs ds ρ else none := rfl
@[simp] theorem ap_tTpL {n : Nat} {gs : List PyData → En → Option En} {ds : List PyData} : tTp n gs (.list ds) ρ = if ds.length = n then gs ds ρ else none := rfl
@[simp] theorem ap_tsNil : tsNil [] ρ = some ρ := rfl
@[simp] theorem ap_tsCons {g : PyData → En → Option En} {gs : List PyData → En → Option En} {ds : List PyData} : tsCons g gs (d :: ds) ρ = (g d ρ).bind fun ρ1 => gs ds ρ1 := rfl
/-! slots, dicts with text keys -/
@[simp] theorem ap_anyAt : anyAt ρ i = match ρ[i]? with
  | some (.sh d) => .ok d
  | some (.ow d) => .ok d
  | some (.io d) => .ok d
  | _ => .no := rfl
@[simp] theorem ap_ioAt : ioAt ρ i = match ρ[i]? with
  | some (.ow d) => .ok d
  | some (.io d) => .ok d
  | _ => .no := rfl
@[simp] theorem ap_ioSet : ioSet ρ i d = match ρ[i]? with
  | some (.ow _) => ρ.set i (.ow d)
  | some (.io _) => ρ.set i (.io d)
  | _ => ρ := rfl
@[simp] theorem kc_s {s : Str} : kc (.str s) = some (.inl (.inr s)) := rfl
@[simp] theorem kc_i {n : Int} : kc (.int n) = some (.inl (.inl n)) := rfl
@[simp] theorem lk_nil {k : Key ⊕ List Key} : lkD [] k = none := rfl
theorem lk_cons {k : Key ⊕ List Key} {p : PyData × PyData} {es : List (PyData × PyData)} : lkD (p :: es) k = if kc p.1 = some k then some p.2 else lkD es k := by
  unfold lkD
  rw [List.find?_cons]
  by_cases h : kc p.1 = some k
  · simp [h]
  · simp [h]
@[simp] theorem lk_str {s t : Str} {d : PyData} {es : List (PyData × PyData)} : lkD ((.str s, d) :: es) (.inl (.inr t)) = if s = t then some d else lkD es (.inl (.inr t)) := by
  rw [lk_cons]; simp
@[simp] theorem kindOk_nil {k : Key ⊕ List Key} : kindOk [] k = true := rfl
@[simp] theorem kindOk_str {s t : Str} {d : PyData} {es : List (PyData × PyData)} : kindOk ((.str s, d) :: es) (.inl (.inr t)) = kindOk es (.inl (.inr t)) := by
  unfold kindOk; simp
/-! ints -/
variable {i j : Int}
@[simp] theorem gAdd_int : gAdd (.int i) (.int j) = some (.int (i + j)) := rfl
@[simp] theorem gSub_int : gSub (.int i) (.int j) = some (.int (i - j)) := rfl
@[simp] theorem gMod_int (h : j ≠ 0) : gMod (.int i) (.int j) = some (.int (i.fmod j)) := by unfold gMod g2I; simp [h]
@[simp] theorem gMul_int : gMul (.int i) (.int j) = if mulOk i j = true then some (.int (i * j)) else none := rfl
theorem mulOk_l (h : i.natAbs < 18446744073709551616) : mulOk i j = true := by unfold mulOk; simp [h]
theorem mulOk_r (h : j.natAbs < 18446744073709551616) : mulOk i j = true := by unfold mulOk; simp [h]
@[simp] theorem gDiv_int (h : 0 < j) (h2 : j < 1073741824) : gDiv (.int i) (.int j) = some (.int (i.fdiv j)) := by
  unfold gDiv g2I divOk
  have h3 : j ≠ 0 := by omega
  have h4 : j.natAbs < 1073741824 := by omega
  simp [h3, h4]
@[simp] theorem gLt_int : gLt (.int i) (.int j) = some (.bool (decide (i < j))) := rfl
@[simp] theorem gLe_int : gLe (.int i) (.int j) = some (.bool (decide (i ≤ j))) := rfl
@[simp] theorem gGt_int : gGt (.int i) (.int j) = some (.bool (decide (j < i))) := rfl
@[simp] theorem gGe_int : gGe (.int i) (.int j) = some (.bool (decide (j ≤ i))) := rfl
@[simp] theorem eqv_int : PyData.eqv (.int i) (.int j) = decide (i = j) := by
  unfold PyData.eqv
  rfl
@[simp] theorem shaped_int : SeqAt.shaped (.int i) = true := by unfold SeqAt.shaped; simp [PyData.canLay0, PyData.depth]
@[simp] theorem gEq_int : gEq (.int i) (.int j) = some (.bool (decide (i = j))) := by unfold gEq; simp
@[simp] theorem gNe_int : gNe (.int i) (.int j) = some (.bool (!decide (i = j))) := by unfold gNe; simp
@[simp] theorem asB_bool {b : Bool} : asB (.bool b) = some b := rfl
@[simp] theorem asI_int : asI (.int i) = some i := rfl
@[simp] theorem ixl {ds : List PyData} : gIxD (.list ds) (.int i) = atI ds i := rfl
@[simp] theorem ixt {ds : List PyData} : gIxD (.tuple ds) (.int i) = atI ds i := rfl
@[simp] theorem ixd {es : List (PyData × PyData)} {s : Str} : gIxD (.dict es) (.str s) = lkD es (.inl (.inr s)) := rfl
@[simp] theorem isDct_d {es : List (PyData × PyData)} : isDct (.dict es) = true := rfl
@[simp] theorem isDct_l {ds : List PyData} : isDct (.list ds) = false := rfl
@[simp] theorem isDct_t {ds : List PyData} : isDct (.tuple ds) = false := rfl
theorem while_run {c : TF} {b : SF} {I : Nat → En → Prop} {Post : En → Prop} (h : ∀ m ρ, I m ρ → (∃ ρ1 m' ρ2, c ρ = .ok (true, ρ1) ∧ (b ρ1 = .nx ρ2 ∨ b ρ1 = .ct ρ2) ∧ m' < m ∧ I m' ρ2) ∨ ∃ ρ', c ρ = .ok (false, ρ') ∧ Post ρ') :
    ∀ (n m : Nat) (ρ : En), m < n → I m ρ → ∃ ρ', whileF c b n ρ = .nx ρ' ∧ Post ρ'
  | 0, _, _, hm, _ => absurd hm (Nat.not_lt_zero _)
  | n + 1, m, ρ, hm, hI => by
    unfold whileF
    rcases h m ρ hI with ⟨ρ1, m', ρ2, e1, e2, hlt, hI2⟩ | ⟨ρ', e, hp⟩
    · rw [e1]
      obtain ⟨ρ', e3, hp⟩ := while_run h n m' ρ2 (by omega) hI2
      refine ⟨ρ', ?_, hp⟩
      rcases e2 with e2 | e2
      · simp [e2, e3]
      · simp [e2, e3]
    · rw [e]
      exact ⟨ρ', by simp, hp⟩
theorem for_run {g : PyData → En → Option En} {b : SF} {I : Nat → En → Prop} : ∀ {ds : List PyData} {k : Nat} {ρ : En}, (∀ (i : Nat) d ρ, ds[i]? = some d → I (k + i) ρ → ∃ ρ1 ρ2, g d ρ = some ρ1 ∧ (b ρ1 = .nx ρ2 ∨ b ρ1 = .ct ρ2) ∧ I (k + i + 1) ρ2) → I k ρ →
    ∃ ρ', forF g b ds ρ = .nx ρ' ∧ I (k + ds.length) ρ'
  | [], k, ρ, _, hI => ⟨ρ, rfl, hI⟩
  | d :: ds, k, ρ, h, hI => by
    obtain ⟨ρ1, ρ2, e1, e2, hI2⟩ := h 0 d ρ rfl hI
    obtain ⟨ρ', e3, hI3⟩ := for_run (g := g) (b := b) (I := I) (ds := ds) (k := k + 1) (ρ := ρ2) (fun i d' ρ' hd hi => by
      have z := h (i + 1) d' ρ' (by simpa using hd) (by rw [show k + (i + 1) = k + 1 + i by omega]; exact hi)
      rw [show k + (i + 1) + 1 = k + 1 + i + 1 by omega] at z
      exact z) hI2
    refine ⟨ρ', ?_, by rw [List.length_cons, show k + (ds.length + 1) = k + 1 + ds.length by omega]; exact hI3⟩
    unfold forF
    rw [e1]
    rcases e2 with e2 | e2
    · simp [e2, e3]
    · simp [e2, e3]
theorem comp_run {vs : List Nat} {g : PyData → En → Option En} {t : TF} {f : EF} (F : PyData → Option PyData) : ∀ {ds : List PyData}, (∀ d ∈ ds, ∃ ρ1 ρ2, g d ρ = some ρ1 ∧
    ((t ρ1 = .ok (true, ρ2) ∧ ∃ v ρ3, f ρ2 = .ok (v, ρ3) ∧ F d = some v ∧ wipeE ρ3 vs = ρ) ∨ (t ρ1 = .ok (false, ρ2) ∧ F d = none ∧ wipeE ρ2 vs = ρ))) → compF vs g t f ds ρ = .ok (ds.filterMap F, ρ)
  | [], _ => rfl
  | d :: ds, h => by
    obtain ⟨ρ1, ρ2, e1, h1⟩ := h d List.mem_cons_self
    have ih := comp_run (g := g) (t := t) (f := f) F (ds := ds) fun d hd => h d (List.mem_cons_of_mem _ hd)
    unfold compF
    rw [e1]
    rcases h1 with ⟨e2, v, ρ3, e3, e4, e5⟩ | ⟨e2, e4, e5⟩
    · simp [e2, e3, e4, e5, ih, List.filterMap_cons]
    · simp [e2, e4, e5, ih, List.filterMap_cons]
@[simp] theorem ap_fComp {vs : List Nat} {fi : AF} {g : PyData → En → Option En} {t : TF} {f : EF} : fComp vs fi g t f ρ = (fi ρ).bind fun x => if x.1.length ≤ 1000000 then (strict (compF vs g t f x.1 (wipeE x.2 vs))).bind fun z => .ok (.list z.1, backE x.2 z.2 vs) else .no := rfl
@[simp] theorem ap_strict {a : α} : strict (R.ok a) = .ok a := rfl
@[simp] theorem ap_tYes : tYes' ρ = .ok (true, ρ) := rfl
@[simp] theorem wipe0 : wipeE ρ [] = ρ := rfl
@[simp] theorem wipe1 {v : Nat} {vs : List Nat} : wipeE ρ (v :: vs) = (wipeE ρ vs).set v .un := rfl
@[simp] theorem back0 {ρ0 : En} : backE ρ0 ρ [] = ρ := rfl
@[simp] theorem back1 {ρ0 : En} {v : Nat} {vs : List Nat} : backE ρ0 ρ (v :: vs) = match ρ0[v]? with
  | some (.sh d) => (backE ρ0 ρ vs).set v (.sh d)
  | _ => backE ρ0 ρ vs := rfl
@[simp] theorem comp_nil {vs : List Nat} {g : PyData → En → Option En} {t : TF} {f : EF} : compF vs g t f [] ρ = .ok ([], ρ) := rfl
@[simp] theorem ap_fThkL {r : R PyData} : fThkL r ρ = if isLam ρ[0]? = true then (r.bind fun d => .ok (d, ρ)) else .no := rfl
@[simp] theorem isLam_some : isLam (some Sl.lam) = true := rfl
@[simp] theorem ap_fLam {caps : List Nat} {F : R PyData → R PyData} {fl : EF} : fLam caps F fl ρ = (F (valR (fl (shOnly (fzs caps ρ))))).bind fun d => .ok (d, fzs caps ρ) := rfl
@[simp] theorem ap_fLamX {caps : List Nat} {ix : Nat} {F : R PyData → R PyData} {fl : EF} : fLamX caps ix F fl ρ = (F (valR (fl (shOnly ((fzs caps ρ).set ix .un))))).bind fun d => .ok (d, fzs caps ρ) := rfl
@[simp] theorem ap_fComp2 {vs vs1 : List Nat} {fi fi1 : AF} {g g1 : PyData → En → Option En} {t t1 : TF} {f : EF} : fComp2 vs fi g t fi1 vs1 g1 t1 f ρ = (fi ρ).bind fun x => (strict (compF2 vs g t fi1 vs1 g1 t1 f x.1 (wipeE x.2 vs))).bind fun z => if z.1.length ≤ 1000000 then .ok (.list z.1, backE x.2 z.2 vs) else .no := rfl
@[simp] theorem comp2_nil {vs vs1 : List Nat} {g g1 : PyData → En → Option En} {t t1 : TF} {fi1 : AF} {f : EF} : compF2 vs g t fi1 vs1 g1 t1 f [] ρ = .ok ([], ρ) := rfl
@[simp] theorem ap_fStar {f : EF} {fs : AF} : fStar f fs ρ = (f ρ).bind fun x => (ofO (itemsOf x.1)).bind fun ds => (fs x.2).bind fun xs => .ok (ds ++ xs.1, xs.2) := rfl
@[simp] theorem ap_fXf {names : List Str} {n : Str} {f : EF} : fXf names n f ρ = (f ρ).bind fun x => match x.1 with
  | .dict [(.none, .str c), (.none, d)] => if c ∈ names ∧ fld c = n then .ok (d, x.2) else .no
  | _ => .no := rfl
@[simp] theorem ap_sTryK {sub : Str → Str → Bool} {F : List PyData → R PyData} {fs : AF} {cl : List Cla} : sTryK sub F fs cl ρ = match fs ρ with
  | .ok y => (match F y.1 with
    | .ok _ => .nx y.2
    | .er c d => sSuitesK sub y.2 c d cl
    | .no => .no)
  | _ => .no := rfl
@[simp] theorem ap_sTry {sub : Str → Str → Bool} {n : Nat} {gb : SF} {cl : List Cla} : sTry sub n gb cl ρ = match gb ρ with
  | .er c d => sSuites sub n c d cl
  | o => o := rfl
@[simp] theorem ap_valR {x : PyData × En} : valR (.ok x) = .ok x.1 := rfl
@[simp] theorem ap_valE : valR (.er c d) = .er c d := rfl
@[simp] theorem ap_setK0 : setK [] [] [] ρ = ρ := rfl
@[simp] theorem ap_setK {i : Nat} {is : List Nat} {ks : List Bool} {k : Bool} {ds : List PyData} : setK (i :: is) (k :: ks) (d :: ds) ρ = setK is ks ds (ρ.set i (slK k d)) := rfl
@[simp] theorem gNeg_int : gNeg (.int i) = some (.int (-i)) := rfl
@[simp] theorem ap_slF : slK false d = .sh d := rfl
@[simp] theorem ap_slT : slK true d = .ow d := rfl
@[simp] theorem for_nil {g : PyData → En → Option En} {b : SF} : forF g b [] ρ = .nx ρ := rfl
@[simp] theorem start_ap {N : List Str} {ds : List PyData} : start N ds = ds.map Sl.sh ++ List.replicate (N.length - ds.length) Sl.un := rfl
@[simp] theorem startS_ap {N : List Str} {d0 : PyData} {ds : List PyData} : startS N d0 ds = .io d0 :: start N.tail ds := rfl
end
end Y


/-! YShow: what is shown is text -/
namespace Y
open PySem PySem.Spec PyProof.Rows L2
def okT (s : Str) : Prop := ∀ c ∈ s.cps.toList, c < 0x110000
theorem okT_strOk {s : Str} (h : okT s) : PyData.strOk s = true := by
  unfold PyData.strOk
  rw [← Array.all_toList, List.all_eq_true]
  intro c hc
  exact decide_eq_true (h c hc)
theorem strOk_okT {s : Str} (h : PyData.strOk s = true) : okT s := by
  unfold PyData.strOk at h
  rw [← Array.all_toList, List.all_eq_true] at h
  intro c hc
  exact of_decide_eq_true (h c hc)
theorem okT_app {a b : Str} (ha : okT a) (hb : okT b) : okT (a ++ b) := by
  intro c hc
  rw [cps_toList_append, List.mem_append] at hc
  exact hc.elim (ha c) (hb c)
theorem okT_from : ∀ (ts : List Str) (k : Nat) (acc : Str), okT acc → (∀ t ∈ ts, okT t) → okT (textFrom k acc ts)
  | [], _, _, h, _ => h
  | t :: ts, k, acc, h, hs => by
    show okT (textFrom (k + 1) (acc ++ (if k > 0 then ", " else "" : String) ++ t) ts)
    refine okT_from ts (k + 1) _ (okT_app (okT_app h ?_) (hs t List.mem_cons_self)) fun t ht => hs t (List.mem_cons_of_mem _ ht)
    split
    · exact strOk_okT (by decide +kernel)
    · exact strOk_okT (by decide +kernel)
theorem okT_join : ∀ (ts : List Str), (∀ t ∈ ts, okT t) → okT (Str.join ", " ts)
  | [], _ => strOk_okT (by decide +kernel)
  | [t], h => h t List.mem_cons_self
  | t :: u :: ts, h => by
    show okT (t ++ ", " ++ Str.join ", " (u :: ts))
    exact okT_app (okT_app (h t List.mem_cons_self) (strOk_okT (by decide +kernel))) (okT_join (u :: ts) fun t ht => h t (List.mem_cons_of_mem _ ht))
theorem okT_list {ts : List Str} (h : ∀ t ∈ ts, okT t) : okT (listText ts) := okT_app (okT_from ts 0 _ (strOk_okT (by decide +kernel)) h) (strOk_okT (by decide +kernel))
theorem okT_tuple {ts : List Str} (h : ∀ t ∈ ts, okT t) : okT (tupleText ts) := by
  unfold tupleText
  refine okT_app (okT_app (strOk_okT (by decide +kernel)) (okT_join ts h)) ?_
  split
  · exact strOk_okT (by decide +kernel)
  · exact strOk_okT (by decide +kernel)
theorem okT_int (i : Int) : okT (PyData.int i).shown := by
  intro c hc
  by_cases h : c = 45 ∨ (48 ≤ c ∧ c ≤ 57)
  · omega
  · exact absurd hc (shown_int_free' (by omega) i)
/-! without texts and tables -/
mutual
def plainD : PyData → Bool
  | .none | .bool _ | .int _ => true
  | .list xs | .tuple xs => plainDs xs
  | _ => false
def plainDs : List PyData → Bool
  | [] => true
  | x :: xs => plainD x && plainDs xs
end
mutual
theorem okT_shown : ∀ d : PyData, plainD d = true → okT d.shown
  | .none, _ => strOk_okT (by decide +kernel)
  | .bool true, _ => strOk_okT (by decide +kernel)
  | .bool false, _ => strOk_okT (by decide +kernel)
  | .int i, _ => okT_int i
  | .list xs, h => okT_list (okT_shownAll xs (by simpa [plainD] using h))
  | .tuple xs, h => okT_tuple (okT_shownAll xs (by simpa [plainD] using h))
  | .str _, h => by simp [plainD] at h
  | .dict _, h => by simp [plainD] at h
theorem okT_shownAll : ∀ ds : List PyData, plainDs ds = true → ∀ t ∈ PyData.shownAll ds, okT t
  | [], _ => fun _ h => nomatch h
  | d :: ds, h => by
    simp only [plainDs, Bool.and_eq_true] at h
    intro t ht
    simp only [PyData.shownAll, List.mem_cons] at ht
    rcases ht with rfl | ht
    · exact okT_shown d h.1
    · exact okT_shownAll ds h.2 t ht
end
/-! with texts -/
mutual
def strsOk : PyData → Bool
  | .none | .bool _ | .int _ => true
  | .str x => PyData.strOk (reprText x)
  | .list xs | .tuple xs => strsOkAll xs
  | .dict _ => false
def strsOkAll : List PyData → Bool
  | [] => true
  | x :: xs => strsOk x && strsOkAll xs
end
mutual
theorem okT_shownS : ∀ d : PyData, strsOk d = true → okT d.shown
  | .none, _ => strOk_okT (by decide +kernel)
  | .bool true, _ => strOk_okT (by decide +kernel)
  | .bool false, _ => strOk_okT (by decide +kernel)
  | .int i, _ => okT_int i
  | .list xs, h => okT_list (okT_shownSAll xs (by simpa [strsOk] using h))
  | .tuple xs, h => okT_tuple (okT_shownSAll xs (by simpa [strsOk] using h))
  | .str x, h => strOk_okT (by simp only [strsOk] at h; exact h)
  | .dict _, h => by simp [strsOk] at h
theorem okT_shownSAll : ∀ ds : List PyData, strsOkAll ds = true → ∀ t ∈ PyData.shownAll ds, okT t
  | [], _ => fun _ h => nomatch h
  | d :: ds, h => by
    simp only [strsOkAll, Bool.and_eq_true] at h
    intro t ht
    simp only [PyData.shownAll, List.mem_cons] at ht
    rcases ht with rfl | ht
    · exact okT_shownS d h.1
    · exact okT_shownSAll ds h.2 t ht
end
theorem str_self {s : Str} (h : okT s) : gNe (.str s) (.str s) = some (.bool false) := by
  have c : PyData.canLay0 (.str s) = true := okT_strOk h
  have sh : SeqAt.shaped (.str s) = true := by
    unfold SeqAt.shaped
    rw [c]
    rfl
  unfold gNe
  rw [if_pos ⟨sh, sh⟩, SeqAt.eqv_refl _ c]
  rfl
/-- the text of a thing is there, and is itself -/
def shwOk (d : PyData) : Bool := SeqAt.shaped d && (d.showable && (d.leavesShort 13 && (decide (15 * d.bulk + 13 ≤ 1000000) && strsOk d)))
theorem repr_self {d : PyData} (h : shwOk d = true) : ∃ u, gRepr [d] = some u ∧ gNe u u = some (.bool false) := by
  unfold shwOk at h
  simp only [Bool.and_eq_true, decide_eq_true_eq] at h
  obtain ⟨h1, h2, h3, h4, h5⟩ := h
  have hb := PyData.shown_le_bulk 13 (by omega) d h3
  refine ⟨.str d.shown, ?_, str_self (okT_shownS d h5)⟩
  show (if SeqAt.shaped d = true ∧ d.showable = true ∧ d.shown.length ≤ 1000000 then some (PyData.str d.shown) else none) = _
  rw [if_pos ⟨h1, h2, by omega⟩]
end Y


/-! YTool: what plain laws have alike. -/
namespace Y
open PySem PySem.Spec PyProof.Rows L2
section
variable {ρ ρ' : En} {g h : SF} {P : Out → Prop}
theorem seq_nx (e : g ρ = .nx ρ') (k : P (h ρ')) : P (sSeq g h ρ) := by rw [ap_sSeq, e]; exact k
/-- a statement ends as told, the rest goes on -/
theorem seq_ex (e : ∃ ρ', g ρ = .nx ρ' ∧ P (h ρ')) : P (sSeq g h ρ) := by obtain ⟨ρ', e, k⟩ := e; exact seq_nx e k
theorem at_nat {ds : List PyData} {i : Nat} (h : i < ds.length) : atI ds (i : Int) = some ds[i] := by
  unfold atI ixN
  have : (i : Int) < ds.length := by omega
  simp [this, h]
@[simp] theorem at0 {a : PyData} {as : List PyData} : atI (a :: as) 0 = some a := at_nat (i := 0) (by simp)
@[simp] theorem at1 {a b : PyData} {as : List PyData} : atI (a :: b :: as) 1 = some b := at_nat (i := 1) (by simp)
@[simp] theorem at2 {a b c : PyData} {as : List PyData} : atI (a :: b :: c :: as) 2 = some c := at_nat (i := 2) (by simp)
@[simp] theorem at3 {a b c d : PyData} {as : List PyData} : atI (a :: b :: c :: d :: as) 3 = some d := at_nat (i := 3) (by simp)
@[simp] theorem at4 {a b c d e : PyData} {as : List PyData} : atI (a :: b :: c :: d :: e :: as) 4 = some e := at_nat (i := 4) (by simp)
@[simp] theorem at5 {a b c d e f : PyData} {as : List PyData} : atI (a :: b :: c :: d :: e :: f :: as) 5 = some f := at_nat (i := 5) (by simp)
@[simp] theorem at6 {a b c d e f g : PyData} {as : List PyData} : atI (a :: b :: c :: d :: e :: f :: g :: as) 6 = some g := at_nat (i := 6) (by simp)
@[simp] theorem itemsT {ds : List PyData} : itemsOf (.tuple ds) = some ds := rfl
@[simp] theorem itemsL {ds : List PyData} : itemsOf (.list ds) = some ds := rfl
@[simp] theorem lenT {ds : List PyData} : gLen [.tuple ds] = some (.int ds.length) := rfl
@[simp] theorem lenL {ds : List PyData} : gLen [.list ds] = some (.int ds.length) := rfl
@[simp] theorem seqL {ds : List PyData} : seqOf [.list ds] = some ds := rfl
@[simp] theorem seqT {ds : List PyData} : seqOf [.tuple ds] = some ds := rfl
@[simp] theorem lstL {ds : List PyData} : lstOf [.list ds] = some ds := rfl
@[simp] theorem tupL {ds : List PyData} : gTuple [.list ds] = some (.tuple ds) := rfl
@[simp] theorem tupT {ds : List PyData} : gTuple [.tuple ds] = some (.tuple ds) := rfl
@[simp] theorem isLst_l {ds : List PyData} : isLst (.list ds) = true := rfl
@[simp] theorem gcd_int {i j : Int} : gGcd [.int i, .int j] = some (.int ((Nat.gcd i.natAbs j.natAbs : Nat) : Int)) := rfl
@[simp] theorem abs_int {i : Int} : gAbs [.int i] = some (.int (i.natAbs : Nat)) := by
  show some (PyData.int (if i < 0 then -i else i)) = _
  congr 2
  split <;> omega
theorem addL {as bs : List PyData} (h : as.length + bs.length ≤ 1000000) : gAdd (.list as) (.list bs) = some (.list (as ++ bs)) := by
  show (if as.length + bs.length ≤ 1000000 then some (PyData.list (as ++ bs)) else none) = _
  rw [if_pos h]
theorem gEq_sh {a b : PyData} (ha : SeqAt.shaped a = true) (hb : SeqAt.shaped b = true) : gEq a b = some (.bool (PyData.eqv a b)) := by
  unfold gEq; rw [if_pos ⟨ha, hb⟩]
theorem gNe_sh2 {a b : PyData} (ha : SeqAt.shaped a = true) (hb : SeqAt.shaped b = true) : gNe a b = some (.bool (!PyData.eqv a b)) := by
  unfold gNe; rw [if_pos ⟨ha, hb⟩]
theorem sh_ints (ds : List Int) : PyData.canLayAll0 (ds.map PyData.int) = true ∧ PyData.depthAll (ds.map PyData.int) ≤ 1 := by
  induction ds with
  | nil => exact ⟨rfl, Nat.zero_le _⟩
  | cons a as ih => simp [PyData.canLayAll0, PyData.canLay0, PyData.depthAll, PyData.depth] at ih ⊢; omega
theorem sh_tupI (ds : List Int) : SeqAt.shaped (.tuple (ds.map PyData.int)) = true := by
  unfold SeqAt.shaped
  have := sh_ints ds
  simp [PyData.canLay0, PyData.depth, this.1]
  omega
theorem sh_lstI (ds : List Int) : SeqAt.shaped (.list (ds.map PyData.int)) = true := by
  unfold SeqAt.shaped
  have := sh_ints ds
  simp [PyData.canLay0, PyData.depth, this.1]
  omega
theorem eqvI : ∀ as bs : List Int, PyData.eqvAll (as.map PyData.int) (bs.map PyData.int) = decide (as = bs)
  | [], [] => rfl
  | [], b :: bs => by simp [PyData.eqvAll]
  | a :: as, [] => by simp [PyData.eqvAll]
  | a :: as, b :: bs => by
    have := eqvI as bs
    simp [PyData.eqvAll, this]
theorem eqTI (as bs : List Int) : gEq (.tuple (as.map PyData.int)) (.tuple (bs.map PyData.int)) = some (.bool (decide (as = bs))) := by
  rw [gEq_sh (sh_tupI as) (sh_tupI bs)]
  congr 2
  rw [← eqvI]; simp [PyData.eqv]
theorem neTI (as bs : List Int) : gNe (.tuple (as.map PyData.int)) (.tuple (bs.map PyData.int)) = some (.bool (!decide (as = bs))) := by
  rw [gNe_sh2 (sh_tupI as) (sh_tupI bs)]
  congr 3
  rw [← eqvI]; simp [PyData.eqv]
theorem eqLI (as bs : List Int) : gEq (.list (as.map PyData.int)) (.list (bs.map PyData.int)) = some (.bool (decide (as = bs))) := by
  rw [gEq_sh (sh_lstI as) (sh_lstI bs)]
  congr 2
  rw [← eqvI]; simp [PyData.eqv]
theorem rng1 {n : Int} (h : -1000000 ≤ n) (h2 : n ≤ 1000000) : rngOf [.int n] = some (rangeD 0 n) := by
  show (if -1000000 ≤ n ∧ n ≤ 1000000 then some (rangeD 0 n) else none) = _
  rw [if_pos ⟨h, h2⟩]
theorem rng2 {m n : Int} (h : (-1000000 ≤ m ∧ m ≤ 1000000) ∧ -1000000 ≤ n ∧ n ≤ 1000000) : rngOf [.int m, .int n] = some (rangeD m n) := by
  show (if (-1000000 ≤ m ∧ m ≤ 1000000) ∧ -1000000 ≤ n ∧ n ≤ 1000000 then some (rangeD m n) else none) = _
  rw [if_pos h]
theorem range_len (lo hi : Int) : (rangeD lo hi).length = (hi - lo).toNat := by unfold rangeD; rw [List.length_map, List.length_range]
theorem divI {i j : Int} (h : j ≠ 0) (h2 : j.natAbs < 1073741824) : gDiv (.int i) (.int j) = some (.int (i.fdiv j)) := by
  unfold gDiv g2I divOk
  simp [h, h2]
theorem at_mem {ds : List PyData} {d : Int} (h0 : 0 ≤ d) (h1 : d < ds.length) : ∃ o, atI ds d = some o ∧ o ∈ ds := by
  have hl : d.toNat < ds.length := by omega
  refine ⟨ds[d.toNat], ?_, List.getElem_mem hl⟩
  have e := at_nat hl
  rw [show ((d.toNat : Nat) : Int) = d by omega] at e
  exact e
theorem gEq_self {d : PyData} (h : SeqAt.shaped d = true) : gEq d d = some (.bool true) := by
  rw [gEq_sh h h, SeqAt.eqv_refl d (SeqAt.canLay_of_shaped h)]
theorem gNe_self {d : PyData} (h : SeqAt.shaped d = true) : gNe d d = some (.bool false) := by
  rw [gNe_sh2 h h, SeqAt.eqv_refl d (SeqAt.canLay_of_shaped h)]; rfl
theorem gNe_bool (x y : Bool) : gNe (.bool x) (.bool y) = some (.bool (x != y)) := by
  cases x <;> cases y <;> kernel_rfl
theorem gEq_bool (x y : Bool) : gEq (.bool x) (.bool y) = some (.bool (x == y)) := by
  cases x <;> cases y <;> kernel_rfl
/-! loops -/
theorem for_ret {g : PyData → En → Option En} {b : SF} {I : En → Prop} {r : PyData} : ∀ {ds : List PyData} {k : Nat} {ρ : En} {d : PyData}, ds[k]? = some d → (∀ (i : Nat) d ρ, i < k → ds[i]? = some d → I ρ → ∃ ρ1 ρ2, g d ρ = some ρ1 ∧ b ρ1 = .nx ρ2 ∧ I ρ2) →
    (∀ ρ, I ρ → ∃ ρ1 ρ2, g d ρ = some ρ1 ∧ b ρ1 = .rt r ρ2) → I ρ → ∃ ρ', forF g b ds ρ = .rt r ρ'
  | [], _, _, _, hk, _, _, _ => by cases hk
  | d0 :: ds, 0, ρ, d, hk, _, h2, hI => by
    have e : d0 = d := by simpa using hk
    subst e
    obtain ⟨ρ1, ρ2, e1, e2⟩ := h2 ρ hI
    refine ⟨ρ2, ?_⟩
    unfold forF
    rw [e1]
    simp [e2]
  | d0 :: ds, k + 1, ρ, d, hk, h1, h2, hI => by
    obtain ⟨ρ1, ρ2, e1, e2, hI2⟩ := h1 0 d0 ρ (Nat.succ_pos k) rfl hI
    obtain ⟨ρ', e3⟩ := for_ret (ds := ds) (k := k) (ρ := ρ2) (d := d) (by simpa using hk) (fun i d ρ hi hd hI => h1 (i + 1) d ρ (Nat.succ_lt_succ hi) (by simpa using hd) hI) h2 hI2
    refine ⟨ρ', ?_⟩
    unfold forF
    rw [e1]
    simp [e2, e3]
/-- a comprehension whose parts may change what is around -/
theorem comp_ex {vs : List Nat} {g : PyData → En → Option En} {t : TF} {f : EF} {Q : Nat → PyData → Prop} {J : Nat → En → Prop} : ∀ {ds : List PyData} {k : Nat} {ρ : En}, (∀ (i : Nat) d ρ, ds[i]? = some d → J (k + i) ρ → ∃ ρ1 ρ2 v ρ3, g d ρ = some ρ1 ∧ t ρ1 = .ok (true, ρ2) ∧ f ρ2 = .ok (v, ρ3) ∧ Q (k + i) v ∧ J (k + i + 1) (wipeE ρ3 vs)) → J k ρ →
    ∃ rs ρ', compF vs g t f ds ρ = .ok (rs, ρ') ∧ rs.length = ds.length ∧ (∀ (i : Nat) v, rs[i]? = some v → Q (k + i) v) ∧ J (k + ds.length) ρ'
  | [], k, ρ, _, hI => ⟨[], ρ, rfl, rfl, fun i v h => by simp at h, hI⟩
  | d :: ds, k, ρ, h, hI => by
    obtain ⟨ρ1, ρ2, v, ρ3, e1, e2, e3, q, hI2⟩ := h 0 d ρ rfl hI
    obtain ⟨rs, ρ', e4, hl, hq, hI3⟩ := comp_ex (g := g) (t := t) (f := f) (Q := Q) (J := J) (ds := ds) (k := k + 1) (ρ := wipeE ρ3 vs) (fun i d' ρ' hd hi => by
      have z := h (i + 1) d' ρ' (by simpa using hd) (by rw [show k + (i + 1) = k + 1 + i by omega]; exact hi)
      rw [show k + (i + 1) + 1 = k + 1 + i + 1 by omega, show k + (i + 1) = k + 1 + i by omega] at z
      exact z) hI2
    refine ⟨v :: rs, ρ', ?_, by simp [hl], fun i w hw => ?_, by rw [List.length_cons, show k + (ds.length + 1) = k + 1 + ds.length by omega]; exact hI3⟩
    · unfold compF
      rw [e1]
      simp [e2, e3, e4]
    · cases i with
      | zero => have : v = w := by simpa using hw
                subst this; exact q
      | succ i => have := hq i w (by simpa using hw)
                  rw [show k + (i + 1) = k + 1 + i by omega]; exact this
/-- a comprehension with two clauses that changes nothing around -/
theorem comp2_run {vs vs1 : List Nat} {g g1 : PyData → En → Option En} {t t1 : TF} {fi1 : AF} {f : EF} (F : PyData → List PyData) : ∀ {ds : List PyData}, (∀ d ∈ ds, ∃ ρ1 ρ2 ds1 ρ3 ρ4, g d ρ = some ρ1 ∧ t ρ1 = .ok (true, ρ2) ∧ fi1 ρ2 = .ok (ds1, ρ3) ∧ compF vs1 g1 t1 f ds1 (wipeE ρ3 vs1) = .ok (F d, ρ4) ∧ wipeE ρ4 vs = ρ) →
    compF2 vs g t fi1 vs1 g1 t1 f ds ρ = .ok (ds.flatMap F, ρ)
  | [], _ => rfl
  | d :: ds, h => by
    obtain ⟨ρ1, ρ2, ds1, ρ3, ρ4, e1, e2, e3, e4, e5⟩ := h d List.mem_cons_self
    have ih := comp2_run (g := g) (t := t) (f := f) (fi1 := fi1) (t1 := t1) (g1 := g1) (vs1 := vs1) F (ds := ds) fun d hd => h d (List.mem_cons_of_mem _ hd)
    unfold compF2
    rw [e1]
    simp [e2, e3, e4, e5, ih]
/-- one clause without a test that changes nothing around -/
theorem comp_map {vs : List Nat} {g : PyData → En → Option En} {f : EF} (F : PyData → PyData) : ∀ {ds : List PyData}, (∀ d ∈ ds, ∃ ρ1 ρ3, g d ρ = some ρ1 ∧ f ρ1 = .ok (F d, ρ3) ∧ wipeE ρ3 vs = ρ) → compF vs g tYes' f ds ρ = .ok (ds.map F, ρ)
  | [], _ => rfl
  | d :: ds, h => by
    obtain ⟨ρ1, ρ3, e1, e3, e5⟩ := h d List.mem_cons_self
    have ih := comp_map (g := g) (f := f) (vs := vs) F (ds := ds) fun d hd => h d (List.mem_cons_of_mem _ hd)
    unfold compF
    rw [e1]
    simp [e3, e5, ih]
theorem map_of {α : Type} {enc : α → PyData} {Q : α → Prop} : ∀ {rs : List PyData}, (∀ v ∈ rs, ∃ a, v = enc a ∧ Q a) → ∃ as : List α, rs = as.map enc ∧ as.length = rs.length ∧ ∀ a ∈ as, Q a
  | [], _ => ⟨[], rfl, rfl, fun _ h => by cases h⟩
  | r :: rs, h => by
    obtain ⟨a, e, q⟩ := h r List.mem_cons_self
    obtain ⟨as, e2, l, q2⟩ := map_of (enc := enc) (Q := Q) (rs := rs) fun v hv => h v (List.mem_cons_of_mem _ hv)
    exact ⟨a :: as, by rw [List.map_cons, ← e, ← e2], by simp [l], fun b hb => by
      rcases List.mem_cons.mp hb with z | z
      · rw [z]; exact q
      · exact q2 b z⟩
theorem all_of_ix {rs : List PyData} {Q : PyData → Prop} (h : ∀ (i : Nat) v, rs[i]? = some v → Q v) : ∀ v ∈ rs, Q v := fun v hv => by
  obtain ⟨i, hi⟩ := List.mem_iff_getElem?.mp hv
  exact h i v hi
theorem valR_bind (r : R PyData) (ρ : En) : valR (r.bind fun d => .ok (d, ρ)) = r := by cases r <;> rfl
/-- a loop that ends at the first item that hits -/
theorem for_first {g : PyData → En → Option En} {b : SF} {I : En → Prop} {Hit : PyData → Prop} {Fin : PyData → Out → Prop} (stop : ∀ d o, Fin d o → (∀ ρ, o ≠ .nx ρ) ∧ (∀ ρ, o ≠ .ct ρ) ∧ ∀ ρ, o ≠ .bk ρ) : ∀ {ds : List PyData} {ρ : En},
    (∀ d ∈ ds, ∀ ρ, I ρ → ∃ ρ1, g d ρ = some ρ1 ∧ ((¬ Hit d ∧ ∃ ρ2, (b ρ1 = .nx ρ2 ∨ b ρ1 = .ct ρ2) ∧ I ρ2) ∨ (Hit d ∧ Fin d (b ρ1)))) → I ρ →
    ((∀ d ∈ ds, ¬ Hit d) ∧ ∃ ρ', forF g b ds ρ = .nx ρ' ∧ I ρ') ∨ ∃ k d, ds[k]? = some d ∧ (∀ (i : Nat) d', i < k → ds[i]? = some d' → ¬ Hit d') ∧ Hit d ∧ Fin d (forF g b ds ρ)
  | [], ρ, _, hI => .inl ⟨fun _ h => (by cases h), ρ, rfl, hI⟩
  | d :: ds, ρ, h, hI => by
    obtain ⟨ρ1, e1, h1⟩ := h d List.mem_cons_self ρ hI
    rcases h1 with ⟨nh, ρ2, e2, hI2⟩ | ⟨hh, hf⟩
    · have ef : forF g b (d :: ds) ρ = forF g b ds ρ2 := by
        rw [forF, e1]
        rcases e2 with e2 | e2 <;> simp [e2]
      rcases for_first (g := g) (b := b) (I := I) (Hit := Hit) (Fin := Fin) stop (ds := ds) (ρ := ρ2) (fun d' hd' => h d' (List.mem_cons_of_mem _ hd')) hI2 with ⟨a, ρ', e, hI'⟩ | ⟨k, d', a, a2, a3, a4⟩
      · refine .inl ⟨fun d' hd' => ?_, ρ', by rw [ef, e], hI'⟩
        rcases List.mem_cons.mp hd' with z | z
        · rw [z]; exact nh
        · exact a d' z
      · refine .inr ⟨k + 1, d', by simpa using a, fun i d2 hi hd2 => ?_, a3, by rw [ef]; exact a4⟩
        cases i with
        | zero => have : d = d2 := by simpa using hd2
                  rw [← this]; exact nh
        | succ i => exact a2 i d2 (by omega) (by simpa using hd2)
    · obtain ⟨s1, s2, s3⟩ := stop d _ hf
      refine .inr ⟨0, d, rfl, fun i _ hi => absurd hi (Nat.not_lt_zero _), hh, ?_⟩
      have : forF g b (d :: ds) ρ = b ρ1 := by
        rw [forF, e1]
        cases e : b ρ1 with
        | nx ρ' => exact absurd e (s1 ρ')
        | ct ρ' => exact absurd e (s2 ρ')
        | bk ρ' => exact absurd e (s3 ρ')
        | rt d' ρ' => simp [e]
        | rn d' ρ' => simp [e]
        | er c d' => simp [e]
        | no => simp [e]
      rw [this]; exact hf
/-! the script's cells -/
theorem ints_sum : ∀ ns : List Int, intsOf (ns.map PyData.int) = some ns
  | [] => rfl
  | n :: ns => by show (intsOf (ns.map PyData.int)).map (n :: ·) = _; rw [ints_sum ns]; rfl
theorem cutN (m : Nat) (xs : List Int) : slD (.list (xs.map PyData.int)) none (some (m : Int)) = some (.list ((xs.take m).map PyData.int)) := by
  show some (PyData.list (List.take (HT.sIx (xs.map PyData.int).length (xs.map PyData.int).length (some ((m : Nat) : Int)) - HT.sIx (xs.map PyData.int).length 0 none) (List.drop (HT.sIx (xs.map PyData.int).length 0 none) (xs.map PyData.int)))) = _
  rw [HT.sIx_none, HT.sIx_nat, List.drop_zero, Nat.sub_zero, List.map_take]
  congr 2
  rw [List.take_eq_take_iff]
  omega
theorem enumD_at {ds : List PyData} {n i : Nat} {d : PyData} (h : (enumD n ds)[i]? = some d) : ∃ x, ds[i]? = some x ∧ d = .tuple [.int ((n + i : Nat) : Int), x] := by
  obtain ⟨d0, h0, e⟩ := enumD_get h
  exact ⟨d0, h0, e⟩
/-- a law's body for each of the first cells and the sum of all -/
def cellsF (m : Int) : AF := fEnum2 (fCons (fOp gAdd (fSl (fNm 0) oNo (oEx (fC (.int m)))) (fLst (fCons (fBlt gSum (fCons (fNm 0) fNil)) fNil))) fNil)
theorem law_cells {I : En → Prop} (m : Nat) (hm : m ≤ 63) (ns : List Int) {b : SF} {r : List Sl} {g : PyData → En → Option En}
    (h : ∀ (k : Nat) (x : Int) (ρ : En), k ≤ m → I ρ → ∃ ρ1 ρ2, g (.tuple [.int (k : Int), .int x]) ρ = some ρ1 ∧ (b ρ1 = .nx ρ2 ∨ b ρ1 = .ct ρ2) ∧ I ρ2) (h0 : I (.sh (.list (ns.map PyData.int)) :: r)) :
    ∃ ρ', I ρ' ∧ sFor (cellsF (m : Int)) g b (.sh (.list (ns.map PyData.int)) :: r) = .nx ρ' := by
  have h3 := cutN m ns
  have hs : gSum [.list (ns.map PyData.int)] = some (.int ns.sum) := by
    show (intsOf (ns.map PyData.int)).map (fun ns => PyData.int ns.sum) = _
    rw [ints_sum]; rfl
  have ha : gAdd (.list ((ns.take m).map PyData.int)) (.list [.int ns.sum]) = some (.list (((ns.take m) ++ [ns.sum]).map PyData.int)) := by
    show (if ((ns.take m).map PyData.int).length + [PyData.int ns.sum].length ≤ 1000000 then some (PyData.list ((ns.take m).map PyData.int ++ [.int ns.sum])) else none) = _
    rw [if_pos (by rw [List.length_map, List.length_take]; simp; omega), List.map_append]
    rfl
  have hlst : ∀ ds, seqOf [.list ds] = some ds := fun _ => rfl
  obtain ⟨ρ', e, hI⟩ := for_run (k := 0) (I := fun _ ρ => I ρ) (g := g) (b := b) (ds := enumD 0 (((ns.take m) ++ [ns.sum]).map PyData.int)) (ρ := .sh (.list (ns.map PyData.int)) :: r) (fun i d ρ hd hJ => by
    obtain ⟨d0, h0, rfl⟩ := enumD_at hd
    obtain ⟨hi, _⟩ := List.getElem?_eq_some_iff.mp h0
    rw [List.length_map] at hi
    rw [List.getElem?_map] at h0
    obtain ⟨x, _, rfl⟩ := Option.map_eq_some_iff.mp h0
    have : (ns.take m ++ [ns.sum]).length ≤ m + 1 := by rw [List.length_append, List.length_take]; simp; omega
    obtain ⟨ρ1, ρ2, e1, e2, e3⟩ := h (0 + i) x ρ (by omega) hJ
    exact ⟨ρ1, ρ2, e1, e2, e3⟩) h0
  refine ⟨ρ', hI, ?_⟩
  rw [ap_sFor]
  unfold cellsF
  have e1 : (fEnum2 (fCons (fOp gAdd (fSl (fNm 0) oNo (oEx (fC (.int (m : Int))))) (fLst (fCons (fBlt gSum (fCons (fNm 0) fNil)) fNil))) fNil)) (.sh (.list (ns.map PyData.int)) :: r) = .ok (enumD 0 (((ns.take m) ++ [ns.sum]).map PyData.int), .sh (.list (ns.map PyData.int)) :: r) := by
    generalize ((ns.take m) ++ [ns.sum]).map PyData.int = L2 at *
    generalize (ns.take m).map PyData.int = L3 at *
    generalize ns.map PyData.int = L at *
    simp [h3, hs, ha, hlst]
  rw [e1]
  exact e
end
end Y


/-! YLat: lattices of the plane, in plain Lean: spans, the one form, areas. -/
namespace Lat
abbrev Pt := Int × Int
def det (u v : Pt) : Int := u.1 * v.2 - u.2 * v.1
inductive Sp (vs : List Pt) : Pt → Prop
  | zero : Sp vs (0, 0)
  | mem {v : Pt} (h : v ∈ vs) : Sp vs v
  | add {u v : Pt} (a : Sp vs u) (b : Sp vs v) : Sp vs (u.1 + v.1, u.2 + v.2)
  | neg {u : Pt} (a : Sp vs u) : Sp vs (-u.1, -u.2)
theorem Sp.nat {vs : List Pt} {u : Pt} (h : Sp vs u) : ∀ n : Nat, Sp vs ((n : Int) * u.1, (n : Int) * u.2)
  | 0 => by simpa using Sp.zero
  | n + 1 => by
    have := (h.nat n).add h
    have e : (((n + 1 : Nat) : Int) * u.1, ((n + 1 : Nat) : Int) * u.2) = ((n : Int) * u.1 + u.1, (n : Int) * u.2 + u.2) := by
      refine Prod.ext ?_ ?_ <;> (simp only; push_cast; grind)
    rw [e]; exact this
theorem Sp.smul {vs : List Pt} {u : Pt} (h : Sp vs u) (n : Int) : Sp vs (n * u.1, n * u.2) := by
  rcases Int.eq_nat_or_neg n with ⟨k, rfl | rfl⟩
  · exact h.nat k
  · have := (h.nat k).neg
    have e : (-(k : Int) * u.1, -(k : Int) * u.2) = (-((k : Int) * u.1), -((k : Int) * u.2)) := by
      refine Prod.ext ?_ ?_ <;> (simp only; grind)
    rw [e]; exact this
theorem Sp.comb {vs : List Pt} {u v : Pt} (h : Sp vs u) (k : Sp vs v) (a b : Int) : Sp vs (a * u.1 + b * v.1, a * u.2 + b * v.2) := (h.smul a).add (k.smul b)
theorem Sp.mono {vs ws : List Pt} (k : ∀ v ∈ vs, Sp ws v) {u : Pt} (h : Sp vs u) : Sp ws u := by
  induction h with
  | zero => exact .zero
  | mem h => exact k _ h
  | add _ _ a b => exact a.add b
  | neg _ a => exact a.neg
theorem bezN (a b : Nat) : ∃ u v : Int, ((Nat.gcd a b : Nat) : Int) = u * a + v * b := by
  induction a, b using Nat.gcd.induction with
  | H0 n => exact ⟨0, 1, by simp⟩
  | H1 m n h ih =>
    obtain ⟨u, v, e⟩ := ih
    rw [Nat.gcd_rec, e]
    have := Nat.div_add_mod n m
    refine ⟨v - u * ((n / m : Nat) : Int), u, ?_⟩
    have e2 : ((n % m : Nat) : Int) = (n : Int) - (m : Int) * ((n / m : Nat) : Int) := by
      have : ((m * (n / m) + n % m : Nat) : Int) = (n : Int) := by rw [this]
      push_cast at this ⊢; omega
    rw [e2]; grind
theorem bez (a b : Int) : ∃ u v : Int, ((Nat.gcd a.natAbs b.natAbs : Nat) : Int) = u * a + v * b := by
  obtain ⟨u, v, e⟩ := bezN a.natAbs b.natAbs
  have ha : (a.natAbs : Int) = a ∨ (a.natAbs : Int) = -a := by omega
  have hb : (b.natAbs : Int) = b ∨ (b.natAbs : Int) = -b := by omega
  rw [e]
  rcases ha with h1 | h1 <;> rcases hb with h2 | h2 <;> rw [h1, h2]
  · exact ⟨u, v, rfl⟩
  · exact ⟨u, -v, by grind⟩
  · exact ⟨-u, v, by grind⟩
  · exact ⟨-u, -v, by grind⟩
theorem rem_lt {a b : Int} (h : b ≠ 0) : (a - a.fdiv b * b).natAbs < b.natAbs := by
  have e : a - a.fdiv b * b = a.fmod b := by
    have := Int.mul_fdiv_add_fmod a b
    grind
  rw [e]
  rcases Int.lt_or_gt_of_ne h with h | h
  · have : a.fmod b = -((-a).fmod (-b)) := by
      have h1 := Int.fmod_def (-a) (-b)
      have h2 := Int.fmod_def a b
      have h3 : (-a).fdiv (-b) = a.fdiv b := Int.neg_fdiv_neg a b
      rw [h1, h2, h3]; grind
    have h1 := Int.fmod_nonneg_of_pos (-a) (show 0 < -b by omega)
    have h2 := Int.fmod_lt_of_pos (-a) (show 0 < -b by omega)
    omega
  · have h1 := Int.fmod_nonneg_of_pos a h
    have h2 := Int.fmod_lt_of_pos a h
    omega
/-- a vector of the lattice (p, q, r) -/
def InL (p q r : Int) (v : Pt) : Prop := ∃ a b : Int, v = (a * p + b * q, b * r)
theorem InL.zero {p q r : Int} : InL p q r (0, 0) := ⟨0, 0, by simp⟩
theorem InL.add {p q r : Int} {u v : Pt} (h : InL p q r u) (k : InL p q r v) : InL p q r (u.1 + v.1, u.2 + v.2) := by
  obtain ⟨a, b, rfl⟩ := h
  obtain ⟨c, d, rfl⟩ := k
  exact ⟨a + c, b + d, by refine Prod.ext ?_ ?_ <;> (simp only; grind)⟩
theorem InL.neg {p q r : Int} {u : Pt} (h : InL p q r u) : InL p q r (-u.1, -u.2) := by
  obtain ⟨a, b, rfl⟩ := h
  exact ⟨-a, -b, by refine Prod.ext ?_ ?_ <;> (simp only; grind)⟩
theorem InL.of_sp {p q r : Int} {vs : List Pt} (k : ∀ v ∈ vs, InL p q r v) {u : Pt} (h : Sp vs u) : InL p q r u := by
  induction h with
  | zero => exact .zero
  | mem h => exact k _ h
  | add _ _ a b => exact a.add b
  | neg _ a => exact a.neg
theorem inL_e1 (p q r : Int) : InL p q r (p, 0) := ⟨1, 0, by simp⟩
theorem inL_e2 (p q r : Int) : InL p q r (q, r) := ⟨0, 1, by simp⟩
/-- the one form of what vectors span -/
structure IsRed (vs : List Pt) (p q r : Int) : Prop where
  p0 : 0 ≤ p
  r0 : 0 ≤ r
  s1 : Sp vs (p, 0)
  s2 : Sp vs (q, r)
  gen : ∀ v ∈ vs, InL p q r v
  q0 : 0 < p → 0 ≤ q ∧ q < p
theorem IsRed.iff {vs : List Pt} {p q r : Int} (h : IsRed vs p q r) (v : Pt) : Sp vs v ↔ InL p q r v := by
  constructor
  · exact InL.of_sp h.gen
  · rintro ⟨a, b, rfl⟩
    have := h.s1.comb h.s2 a b
    simpa using this
theorem red_uniq {p q r p' q' r' : Int} (hp : 0 < p) (hr : 0 < r) (hp' : 0 < p') (hr' : 0 < r') (hq : 0 ≤ q ∧ q < p) (hq' : 0 ≤ q' ∧ q' < p') (h : ∀ v, InL p q r v ↔ InL p' q' r' v) : p = p' ∧ q = q' ∧ r = r' := by
  have half : ∀ {p q r p' q' r' : Int}, 0 < p → 0 < r → 0 < p' → 0 < r' → (∀ v, InL p q r v → InL p' q' r' v) → p' ≤ p ∧ ∃ b, 0 < b ∧ r = b * r' ∧ ∃ a, q = a * p' + b * q' := by
    intro p q r p' q' r' hp hr hp' hr' h
    obtain ⟨a, b, e⟩ := h _ (inL_e1 p q r)
    have e1 := congrArg Prod.fst e
    have e2 := congrArg Prod.snd e
    dsimp only at e1 e2
    have hb : b = 0 := by
      rcases Int.mul_eq_zero.mp e2.symm with z | z
      · exact z
      · omega
    subst hb
    obtain ⟨a2, b2, f⟩ := h _ (inL_e2 p q r)
    have f1 := congrArg Prod.fst f
    have f2 := congrArg Prod.snd f
    dsimp only at f1 f2
    refine ⟨?_, b2, ?_, f2, a2, f1⟩
    · have ha : 0 < a := by
        by_cases z : 0 < a
        · exact z
        · have : a * p' ≤ 0 := Int.mul_nonpos_of_nonpos_of_nonneg (by omega) (by omega)
          omega
      have : 1 * p' ≤ a * p' := Int.mul_le_mul_of_nonneg_right (by omega) (by omega)
      omega
    · by_cases z : 0 < b2
      · exact z
      · have : b2 * r' ≤ 0 := Int.mul_nonpos_of_nonpos_of_nonneg (by omega) (by omega)
        omega
  obtain ⟨l1, b1, c1, d1, a1, f1⟩ := half hp hr hp' hr' fun v k => (h v).mp k
  obtain ⟨l2, b2, c2, d2, a2, f2⟩ := half hp' hr' hp hr fun v k => (h v).mpr k
  have ep : p = p' := by omega
  subst ep
  have h1 : 1 * r' ≤ b1 * r' := Int.mul_le_mul_of_nonneg_right (by omega) (by omega)
  have h2 : 1 * r ≤ b2 * r := Int.mul_le_mul_of_nonneg_right (by omega) (by omega)
  have er : r = r' := by omega
  subst er
  have hb1 : b1 = 1 := by
    have : (b1 - 1) * r = 0 := by grind
    rcases Int.mul_eq_zero.mp this with z | z <;> omega
  subst hb1
  have eq : q - q' = a1 * p := by grind
  have : a1 = 0 := by
    by_cases z : a1 = 0
    · exact z
    · rcases Int.lt_or_gt_of_ne z with z | z
      · have : a1 * p ≤ -1 * p := Int.mul_le_mul_of_nonneg_right (by omega) (by omega)
        omega
      · have : 1 * p ≤ a1 * p := Int.mul_le_mul_of_nonneg_right (by omega) (by omega)
        omega
  subst this
  exact ⟨rfl, by omega, rfl⟩
/-! ### areas -/
def minG : List Pt → Nat → Nat
  | [], acc => acc
  | v :: vs, acc => minG vs (vs.foldl (fun acc w => Nat.gcd acc (det v w).natAbs) acc)
theorem fold_dvd (n : Nat) (v : Pt) : ∀ (ws : List Pt) (acc : Nat), n ∣ ws.foldl (fun acc w => Nat.gcd acc (det v w).natAbs) acc ↔ n ∣ acc ∧ ∀ w ∈ ws, n ∣ (det v w).natAbs
  | [], acc => by simp
  | w :: ws, acc => by
    rw [List.foldl_cons, fold_dvd n v ws, Nat.dvd_gcd_iff]
    simp only [List.mem_cons, forall_eq_or_imp]
    exact and_assoc
theorem minG_dvd (n : Nat) : ∀ (vs : List Pt) (acc : Nat), n ∣ minG vs acc ↔ n ∣ acc ∧ vs.Pairwise fun v w => n ∣ (det v w).natAbs
  | [], acc => by simp [minG]
  | v :: vs, acc => by
    unfold minG
    rw [minG_dvd n vs, fold_dvd, List.pairwise_cons, and_assoc]
theorem det_sp {n : Int} {vs : List Pt} {w : Pt} (k : ∀ v ∈ vs, n ∣ det v w) {u : Pt} (h : Sp vs u) : n ∣ det u w := by
  induction h with
  | zero => exact ⟨0, by simp [det]⟩
  | mem h => exact k _ h
  | @add u v _ _ a b =>
    have : det (u.1 + v.1, u.2 + v.2) w = det u w + det v w := by unfold det; grind
    rw [this]; exact Int.dvd_add a b
  | @neg u _ a =>
    have : det (-u.1, -u.2) w = -det u w := by unfold det; grind
    rw [this]; exact Int.dvd_neg.mpr a
theorem det_swap (u v : Pt) : det u v = -det v u := by unfold det; grind
theorem pw_all {n : Int} : ∀ {vs : List Pt}, (vs.Pairwise fun v w => n ∣ det v w) → ∀ v ∈ vs, ∀ w ∈ vs, n ∣ det v w
  | [], _, v, hv, _, _ => by cases hv
  | u :: vs, h, v, hv, w, hw => by
    obtain ⟨h1, h2⟩ := List.pairwise_cons.mp h
    rcases List.mem_cons.mp hv with e1 | hv2
    · rcases List.mem_cons.mp hw with e2 | hw2
      · rw [e1, e2]; exact ⟨0, by unfold det; grind⟩
      · rw [e1]; exact h1 w hw2
    · rcases List.mem_cons.mp hw with e2 | hw2
      · rw [e2, det_swap]; exact Int.dvd_neg.mpr (h1 v hv2)
      · exact pw_all h2 v hv2 w hw2
theorem area_eq {vs : List Pt} {p q r : Int} (h : IsRed vs p q r) : (minG vs 0 : Int) = p * r := by
  have h0 : 0 ≤ p * r := Int.mul_nonneg h.p0 h.r0
  have e : minG vs 0 = (p * r).natAbs := by
    refine Nat.dvd_antisymm ?_ ?_
    · have k := ((minG_dvd (minG vs 0) vs 0).mp (Nat.dvd_refl _)).2
      have k2 : vs.Pairwise fun v w => (minG vs 0 : Int) ∣ det v w := k.imp fun {a b} x => Int.ofNat_dvd_left.mpr x
      have k3 := pw_all k2
      have k4 : ∀ w ∈ vs, ∀ u, Sp vs u → (minG vs 0 : Int) ∣ det u w := fun w hw u hu => det_sp (fun v hv => k3 v hv w hw) hu
      have k5 : (minG vs 0 : Int) ∣ det (q, r) (p, 0) := det_sp (fun v hv => by rw [det_swap]; exact Int.dvd_neg.mpr (k4 v hv _ h.s1)) h.s2
      have : det (q, r) (p, 0) = -(p * r) := by unfold det; grind
      rw [this] at k5
      exact Int.ofNat_dvd_left.mp (Int.dvd_neg.mp k5)
    · refine (minG_dvd _ vs 0).mpr ⟨Nat.dvd_zero _, ?_⟩
      have key : ∀ v ∈ vs, ∀ w ∈ vs, (p * r).natAbs ∣ (det v w).natAbs := fun v hv w hw => by
        obtain ⟨a, b, rfl⟩ := h.gen v hv
        obtain ⟨c, d, rfl⟩ := h.gen w hw
        refine Int.natAbs_dvd_natAbs.mpr ⟨a * d - b * c, ?_⟩
        unfold det; grind
      exact List.pairwise_of_forall_mem_list key
  rw [e]; omega
/-! ### the box -/
def inbox (p q r : Int) (v : Pt) : Pt := ((v.1 - v.2.fdiv r * q).fmod p, v.2 - v.2.fdiv r * r)
theorem fdiv_uniq {y r b : Int} (hr : 0 < r) (h0 : 0 ≤ y - b * r) (h1 : y - b * r < r) : y.fdiv r = b := by
  rw [Int.fdiv_eq_ediv_of_nonneg _ (by omega)]
  have h2 : b * r ≤ y := by omega
  have h3 : y < (b + 1) * r := by grind
  have a1 := Int.le_ediv_of_mul_le hr h2
  have a2 := Int.ediv_lt_of_lt_mul hr h3
  omega
theorem fdiv_rem {y r : Int} (hr : 0 < r) : 0 ≤ y - y.fdiv r * r ∧ y - y.fdiv r * r < r := by
  rw [Int.fdiv_eq_ediv_of_nonneg _ (by omega)]
  have h1 := Int.ediv_mul_le y (show r ≠ 0 by omega)
  have h2 := Int.lt_ediv_add_one_mul_self y hr
  constructor
  · omega
  · grind
theorem fmod_nn {x p : Int} (hp : 0 < p) : 0 ≤ x.fmod p ∧ x.fmod p < p := ⟨Int.fmod_nonneg_of_pos _ hp, Int.fmod_lt_of_pos _ hp⟩
theorem inbox_rng {p q r : Int} (hp : 0 < p) (hr : 0 < r) (v : Pt) : (0 ≤ (inbox p q r v).1 ∧ (inbox p q r v).1 < p) ∧ 0 ≤ (inbox p q r v).2 ∧ (inbox p q r v).2 < r := ⟨fmod_nn hp, fdiv_rem hr⟩
theorem inbox_diff {p q r : Int} (v : Pt) : InL p q r (v.1 - (inbox p q r v).1, v.2 - (inbox p q r v).2) := by
  refine ⟨(v.1 - v.2.fdiv r * q).fdiv p, v.2.fdiv r, ?_⟩
  unfold inbox
  have h := Int.mul_fdiv_add_fmod (v.1 - v.2.fdiv r * q) p
  refine Prod.ext ?_ ?_ <;> (simp only; grind)
/-- the cell of the box is the only one there -/
theorem inbox_uniq {p q r : Int} (hp : 0 < p) (hr : 0 < r) {v w : Pt} (h : InL p q r (v.1 - w.1, v.2 - w.2)) (h1 : 0 ≤ w.1 ∧ w.1 < p) (h2 : 0 ≤ w.2 ∧ w.2 < r) : inbox p q r v = w := by
  obtain ⟨a, b, e⟩ := h
  have e1 := congrArg Prod.fst e
  have e2 := congrArg Prod.snd e
  dsimp only at e1 e2
  have hb : v.2.fdiv r = b := fdiv_uniq hr (by omega) (by omega)
  have h3 : 0 ≤ (v.1 - b * q) - a * p := by omega
  have h4 : (v.1 - b * q) - a * p < p := by omega
  have ha : (v.1 - b * q).fdiv p = a := fdiv_uniq hp h3 h4
  have hm := Int.mul_fdiv_add_fmod (v.1 - b * q) p
  rw [ha] at hm
  unfold inbox
  rw [hb]
  refine Prod.ext ?_ ?_ <;> (simp only; grind)
theorem inbox_congr {p q r : Int} (hp : 0 < p) (hr : 0 < r) {v w : Pt} (h : InL p q r (v.1 - w.1, v.2 - w.2)) : inbox p q r v = inbox p q r w := by
  obtain ⟨a, b⟩ := inbox_rng (q := q) hp hr w
  refine inbox_uniq hp hr ?_ a b
  have := h.add (inbox_diff (p := p) (q := q) (r := r) w)
  have e : (v.1 - (inbox p q r w).1, v.2 - (inbox p q r w).2) = ((v.1 - w.1, v.2 - w.2).1 + (w.1 - (inbox p q r w).1, w.2 - (inbox p q r w).2).1, (v.1 - w.1, v.2 - w.2).2 + (w.1 - (inbox p q r w).1, w.2 - (inbox p q r w).2).2) := by
    refine Prod.ext ?_ ?_ <;> (simp only; omega)
  rw [e]; exact this
theorem inbox_eq_iff {p q r : Int} (hp : 0 < p) (hr : 0 < r) (v w : Pt) : inbox p q r v = inbox p q r w ↔ InL p q r (v.1 - w.1, v.2 - w.2) := by
  constructor
  · intro e
    have h1 := inbox_diff (p := p) (q := q) (r := r) v
    have h2 := (inbox_diff (p := p) (q := q) (r := r) w).neg
    rw [e] at h1
    have := h1.add h2
    have e2 : (v.1 - w.1, v.2 - w.2) = ((v.1 - (inbox p q r w).1, v.2 - (inbox p q r w).2).1 + (-(w.1 - (inbox p q r w).1, w.2 - (inbox p q r w).2).1, -(w.1 - (inbox p q r w).1, w.2 - (inbox p q r w).2).2).1, (v.1 - (inbox p q r w).1, v.2 - (inbox p q r w).2).2 + (-(w.1 - (inbox p q r w).1, w.2 - (inbox p q r w).2).1, -(w.1 - (inbox p q r w).1, w.2 - (inbox p q r w).2).2).2) := by
      refine Prod.ext ?_ ?_ <;> (simp only; omega)
    rw [e2]; exact this
  · exact inbox_congr hp hr
theorem inbox_zero {p q r : Int} (hp : 0 < p) (hr : 0 < r) (v : Pt) : inbox p q r v = (0, 0) ↔ InL p q r v := by
  constructor
  · intro e
    have h1 := inbox_diff (p := p) (q := q) (r := r) v
    rw [e] at h1
    simpa using h1
  · intro h
    exact inbox_uniq hp hr (by simpa using h) ⟨by simp, by simpa using hp⟩ ⟨by simp, by simpa using hr⟩
end Lat


/-! YLat2: the vectors that two lattices share; what two lattices span. -/
namespace Lat
/-- the numbers of two positive numbers -/
structure GL (a b g l : Int) : Prop where
  g0 : 0 < g
  l0 : 0 < l
  ga : g ∣ a
  gb : g ∣ b
  al : a ∣ l
  bl : b ∣ l
  le : ∀ x, a ∣ x → b ∣ x → l ∣ x
  gr : ∀ x, x ∣ a → x ∣ b → x ∣ g
  pr : l * g = a * b
  bz : ∃ u v : Int, g = u * a + v * b
theorem gl_of {a b : Int} (ha : 0 < a) (hb : 0 < b) : GL a b ((Nat.gcd a.natAbs b.natAbs : Nat) : Int) ((Nat.lcm a.natAbs b.natAbs : Nat) : Int) where
  g0 := by have := Nat.gcd_pos_of_pos_left b.natAbs (show 0 < a.natAbs by omega); omega
  l0 := by have := Nat.lcm_pos (show 0 < a.natAbs by omega) (show 0 < b.natAbs by omega); omega
  ga := Int.ofNat_dvd_left.mpr (Nat.gcd_dvd_left _ _)
  gb := Int.ofNat_dvd_left.mpr (Nat.gcd_dvd_right _ _)
  al := by
    have := Int.ofNat_dvd.mpr (Nat.dvd_lcm_left a.natAbs b.natAbs)
    rwa [show ((a.natAbs : Nat) : Int) = a by omega] at this
  bl := by
    have := Int.ofNat_dvd.mpr (Nat.dvd_lcm_right a.natAbs b.natAbs)
    rwa [show ((b.natAbs : Nat) : Int) = b by omega] at this
  le := fun x h1 h2 => Int.ofNat_dvd_left.mpr (Nat.lcm_dvd (Int.natAbs_dvd_natAbs.mpr h1) (Int.natAbs_dvd_natAbs.mpr h2))
  gr := fun x h1 h2 => by
    have := Nat.dvd_gcd (Int.natAbs_dvd_natAbs.mpr h1) (Int.natAbs_dvd_natAbs.mpr h2)
    exact Int.ofNat_dvd_right.mpr this
  pr := by
    have := Nat.gcd_mul_lcm a.natAbs b.natAbs
    have e : ((Nat.gcd a.natAbs b.natAbs * Nat.lcm a.natAbs b.natAbs : Nat) : Int) = ((a.natAbs * b.natAbs : Nat) : Int) := by rw [this]
    rw [Int.natCast_mul, Int.natCast_mul, show ((a.natAbs : Nat) : Int) = a by omega, show ((b.natAbs : Nat) : Int) = b by omega] at e
    rw [Int.mul_comm, e]
  bz := bez a b
theorem dvd_pos_le {a b : Int} (hb : 0 < b) (h : a ∣ b) : a ≤ b := Int.le_of_dvd hb h
/-- g divides t d just where its part without the divisor of d divides t -/
theorem part_iff {g d t : Int} (hg : 0 < g) : ∃ c e : Int, 0 < c ∧ 0 < e ∧ g = c * e ∧ c = ((Nat.gcd g.natAbs d.natAbs : Nat) : Int) ∧ ∀ t : Int, g ∣ t * d ↔ e ∣ t := by
  have hc : 0 < Nat.gcd g.natAbs d.natAbs := Nat.gcd_pos_of_pos_left _ (by omega)
  have c1 : ((Nat.gcd g.natAbs d.natAbs : Nat) : Int) ∣ g := Int.ofNat_dvd_left.mpr (Nat.gcd_dvd_left _ _)
  have c2 : ((Nat.gcd g.natAbs d.natAbs : Nat) : Int) ∣ d := Int.ofNat_dvd_left.mpr (Nat.gcd_dvd_right _ _)
  obtain ⟨u, v, bz⟩ := bez g d
  have hc' : 0 < ((Nat.gcd g.natAbs d.natAbs : Nat) : Int) := by omega
  generalize hC : ((Nat.gcd g.natAbs d.natAbs : Nat) : Int) = c at *
  obtain ⟨e, rfl⟩ := c1
  obtain ⟨f, rfl⟩ := c2
  have he : 0 < e := by
    by_cases z : 0 < e
    · exact z
    · have : c * e ≤ 0 := Int.mul_nonpos_of_nonneg_of_nonpos (by omega) (by omega)
      omega
  have b1 : u * e + v * f = 1 := by
    have : c * (u * e + v * f) = c * 1 := by grind
    exact Int.eq_of_mul_eq_mul_left (by omega) this
  refine ⟨c, e, hc', he, rfl, rfl, fun t => ?_⟩
  constructor
  · rintro ⟨k, hk⟩
    have : t * f = e * k := by
      have : c * (t * f) = c * (e * k) := by grind
      exact Int.eq_of_mul_eq_mul_left (by omega) this
    exact ⟨t * u + v * k, by grind⟩
  · rintro ⟨k, rfl⟩
    exact ⟨k * f, by grind⟩
section
variable {p1 q1 r1 p2 q2 r2 g P r' H a1 a2 : Int}
/-- two lattices, the numbers of their sides -/
structure Two (p1 q1 r1 p2 q2 r2 g P r' H a1 a2 : Int) : Prop where
  hp1 : 0 < p1
  hr1 : 0 < r1
  hp2 : 0 < p2
  hr2 : 0 < r2
  gp : GL p1 p2 g P
  gr : GL r1 r2 r' H
  h1 : H = r1 * a1
  h2 : H = r2 * a2
theorem two_of (h1 : 0 < p1) (h2 : 0 < r1) (h3 : 0 < p2) (h4 : 0 < r2) : ∃ a1 a2, Two p1 q1 r1 p2 q2 r2 ((Nat.gcd p1.natAbs p2.natAbs : Nat) : Int) ((Nat.lcm p1.natAbs p2.natAbs : Nat) : Int) ((Nat.gcd r1.natAbs r2.natAbs : Nat) : Int) ((Nat.lcm r1.natAbs r2.natAbs : Nat) : Int) a1 a2 := by
  have gp := gl_of h1 h3
  have gr := gl_of h2 h4
  obtain ⟨a1, e1⟩ := gr.al
  obtain ⟨a2, e2⟩ := gr.bl
  exact ⟨a1, a2, h1, h2, h3, h4, gp, gr, e1, e2⟩
variable (T : Two p1 q1 r1 p2 q2 r2 g P r' H a1 a2)
include T
theorem Two.first (t : Int) : (t * H).fdiv r1 = t * a1 := by
  rw [T.h1, show t * (r1 * a1) = r1 * (t * a1) by grind]
  exact Int.mul_fdiv_cancel_left _ (by have := T.hr1; omega)
theorem Two.second (t : Int) : (t * H).fdiv r2 = t * a2 := by
  rw [T.h2, show t * (r2 * a2) = r2 * (t * a2) by grind]
  exact Int.mul_fdiv_cancel_left _ (by have := T.hr2; omega)
theorem Two.ra : r' * a1 = r2 ∧ r' * a2 = r1 := by
  have := T.gr.pr
  have hr1 := T.hr1
  have hr2 := T.hr2
  constructor
  · have : r1 * (r' * a1) = r1 * r2 := by rw [T.h1] at this; grind
    exact Int.eq_of_mul_eq_mul_left (by omega) this
  · have : r2 * (r' * a2) = r2 * r1 := by rw [T.h2] at this; grind
    exact Int.eq_of_mul_eq_mul_left (by omega) this
/-- a vector of both -/
theorem Two.both (x y : Int) : (InL p1 q1 r1 (x, y) ∧ InL p2 q2 r2 (x, y)) ↔ ∃ t, y = t * H ∧ p1 ∣ x - t * a1 * q1 ∧ p2 ∣ x - t * a2 * q2 := by
  have hr1 := T.hr1
  have hr2 := T.hr2
  constructor
  · rintro ⟨⟨a, b, e⟩, c, d, f⟩
    have e1 := congrArg Prod.fst e
    have e2 := congrArg Prod.snd e
    have f1 := congrArg Prod.fst f
    have f2 := congrArg Prod.snd f
    dsimp only at e1 e2 f1 f2
    obtain ⟨t, ht⟩ := T.gr.le y ⟨b, by grind⟩ ⟨d, by grind⟩
    have hb : b = t * a1 := by
      have : r1 * b = r1 * (t * a1) := by have := T.h1; grind
      exact Int.eq_of_mul_eq_mul_left (by omega) this
    have hd : d = t * a2 := by
      have : r2 * d = r2 * (t * a2) := by have := T.h2; grind
      exact Int.eq_of_mul_eq_mul_left (by omega) this
    subst hb hd
    exact ⟨t, by grind, ⟨a, by grind⟩, ⟨c, by grind⟩⟩
  · rintro ⟨t, rfl, ⟨a, ha⟩, ⟨c, hc⟩⟩
    have h1 := T.h1
    have h2 := T.h2
    exact ⟨⟨a, t * a1, by refine Prod.ext ?_ ?_ <;> (try simp only) <;> grind⟩, ⟨c, t * a2, by refine Prod.ext ?_ ?_ <;> (try simp only) <;> grind⟩⟩
/-- is there a step -/
theorem Two.step (s : Int) : (∃ j : Nat, (j : Int) < P / p1 ∧ p2 ∣ s + j * p1) ↔ g ∣ s := by
  have hp1 := T.hp1
  have hp2 := T.hp2
  have hP := T.gp.l0
  obtain ⟨k, hk⟩ := T.gp.al
  obtain ⟨m, hm⟩ := T.gp.ga
  obtain ⟨n, hn⟩ := T.gp.gb
  have hPk : P / p1 = k := by rw [hk]; exact Int.mul_ediv_cancel_left _ (by omega)
  have hk0 : 0 < k := by
    by_cases z : 0 < k
    · exact z
    · have : p1 * k ≤ 0 := Int.mul_nonpos_of_nonneg_of_nonpos (by omega) (by omega)
      omega
  constructor
  · rintro ⟨j, _, d, hd⟩
    exact ⟨n * d - j * m, by grind⟩
  · rintro ⟨c, hc⟩
    obtain ⟨u, v, bz⟩ := T.gp.bz
    have h1 := Int.emod_nonneg (-(c * u)) (show k ≠ 0 by omega)
    have h2 := Int.emod_lt_of_pos (-(c * u)) hk0
    have h3 := Int.mul_ediv_add_emod (-(c * u)) k
    generalize hj : (-(c * u)) % k = j at *
    generalize (-(c * u)) / k = w at *
    refine ⟨j.toNat, by rw [hPk]; omega, ?_⟩
    rw [show ((j.toNat : Nat) : Int) = j by omega]
    obtain ⟨z, hz⟩ := T.gp.bl
    -- s + j p1 = c v p2 - w k p1
    refine ⟨c * v - w * z, ?_⟩
    have e1 : j = -(c * u) - k * w := by omega
    rw [hc, e1]
    have : p1 * k = p2 * z := by rw [← hk, hz]
    grind
/-- the met lattice: its rows are the multiples of the first that have a step -/
theorem Two.met {e x0 Q : Int} (he : 0 < e) (hd : ∀ t : Int, g ∣ t * (a1 * q1 - a2 * q2) ↔ e ∣ t) (h1 : p1 ∣ x0 - e * a1 * q1) (h2 : p2 ∣ x0 - e * a2 * q2) (hQ : P ∣ Q - x0) (v : Pt) : InL P Q (e * H) v ↔ InL p1 q1 r1 v ∧ InL p2 q2 r2 v := by
  obtain ⟨x, y⟩ := v
  rw [T.both]
  obtain ⟨n1, hn1⟩ := T.gp.al
  obtain ⟨n2, hn2⟩ := T.gp.bl
  obtain ⟨w, hw⟩ := hQ
  constructor
  · rintro ⟨a, b, eq⟩
    have e1 := congrArg Prod.fst eq
    have e2 := congrArg Prod.snd eq
    dsimp only at e1 e2
    obtain ⟨c1, hc1⟩ := h1
    obtain ⟨c2, hc2⟩ := h2
    exact ⟨b * e, by grind, ⟨a * n1 + b * w * n1 + b * c1, by grind⟩, ⟨a * n2 + b * w * n2 + b * c2, by grind⟩⟩
  · rintro ⟨t, rfl, k1, k2⟩
    obtain ⟨m, hm⟩ := T.gp.ga
    obtain ⟨n, hn⟩ := T.gp.gb
    have hg : g ∣ t * (a1 * q1 - a2 * q2) := by
      obtain ⟨c1, hc1⟩ := k1
      obtain ⟨c2, hc2⟩ := k2
      exact ⟨n * c2 - m * c1, by grind⟩
    obtain ⟨b, rfl⟩ := (hd t).mp hg
    have : P ∣ x - b * Q := T.gp.le _ (by
      obtain ⟨c1, hc1⟩ := k1
      obtain ⟨c2, hc2⟩ := h1
      exact ⟨c1 - b * c2 - b * w * n1, by grind⟩) (by
      obtain ⟨c1, hc1⟩ := k2
      obtain ⟨c2, hc2⟩ := h2
      exact ⟨c1 - b * c2 - b * w * n2, by grind⟩)
    obtain ⟨a, ha⟩ := this
    exact ⟨a, b, by refine Prod.ext ?_ ?_ <;> (try simp only) <;> grind⟩
/-- the area of what both span -/
theorem Two.joined {c : Int} (hc : c = ((Nat.gcd g.natAbs (a1 * q1 - a2 * q2).natAbs : Nat) : Int)) : (minG [(p1, 0), (q1, r1), (p2, 0), (q2, r2)] 0 : Int) = r' * c := by
  obtain ⟨e1, e2⟩ := T.ra
  have hr' := T.gr.g0
  have hp1 := T.hp1
  have hp2 := T.hp2
  have hr1 := T.hr1
  have hr2 := T.hr2
  have hg := T.gp.g0
  have c0 : 0 ≤ c := by omega
  have key : ∀ n : Nat, n ∣ minG [(p1, 0), (q1, r1), (p2, 0), (q2, r2)] 0 ↔ (n : Int) ∣ r' * c := by
    intro n
    rw [minG_dvd]
    simp only [List.pairwise_cons, List.mem_cons, List.not_mem_nil, or_false, forall_eq_or_imp, forall_eq, List.Pairwise.nil, and_true, Nat.dvd_zero, true_and, false_implies, implies_true]
    simp only [← Int.ofNat_dvd_left, det]
    constructor
    · rintro ⟨⟨x1, x2, x3⟩, ⟨x4, x5⟩, x6⟩
      -- n divides r' g and r' d
      have y1 : (n : Int) ∣ p1 * r1 := by obtain ⟨k, hk⟩ := x1; exact ⟨k, by grind⟩
      have y2 : (n : Int) ∣ p1 * r2 := by obtain ⟨k, hk⟩ := x3; exact ⟨k, by grind⟩
      have y3 : (n : Int) ∣ p2 * r1 := by obtain ⟨k, hk⟩ := x4; exact ⟨-k, by grind⟩
      have y4 : (n : Int) ∣ p2 * r2 := by obtain ⟨k, hk⟩ := x6; exact ⟨k, by grind⟩
      have y5 : (n : Int) ∣ q1 * r2 - q2 * r1 := by obtain ⟨k, hk⟩ := x5; exact ⟨k, by grind⟩
      obtain ⟨u, v, b1⟩ := T.gp.bz
      obtain ⟨s, t, b2⟩ := T.gr.bz
      have z1 : (n : Int) ∣ r' * g := by
        obtain ⟨k1, h1⟩ := y1
        obtain ⟨k2, h2⟩ := y2
        obtain ⟨k3, h3⟩ := y3
        obtain ⟨k4, h4⟩ := y4
        exact ⟨u * s * k1 + u * t * k2 + v * s * k3 + v * t * k4, by rw [b1, b2]; grind⟩
      have z2 : (n : Int) ∣ r' * (a1 * q1 - a2 * q2) := by
        have : r' * (a1 * q1 - a2 * q2) = q1 * r2 - q2 * r1 := by rw [← e1, ← e2]; grind
        rw [this]; exact y5
      obtain ⟨x, y, b3⟩ := bez g (a1 * q1 - a2 * q2)
      rw [hc, b3]
      obtain ⟨k1, h1⟩ := z1
      obtain ⟨k2, h2⟩ := z2
      exact ⟨x * k1 + y * k2, by grind⟩
    · intro h
      have c1 : c ∣ g := by rw [hc]; exact Int.ofNat_dvd_left.mpr (Nat.gcd_dvd_left _ _)
      have c2 : c ∣ a1 * q1 - a2 * q2 := by rw [hc]; exact Int.ofNat_dvd_left.mpr (Nat.gcd_dvd_right _ _)
      obtain ⟨m, hm⟩ := T.gp.ga
      obtain ⟨m2, hm2⟩ := T.gp.gb
      obtain ⟨k, hk⟩ := c1
      obtain ⟨l, hl⟩ := c2
      obtain ⟨z, hz⟩ := h
      have f : q1 * r2 - q2 * r1 = r' * (a1 * q1 - a2 * q2) := by rw [← e1, ← e2]; grind
      refine ⟨⟨⟨z * k * m * a2, ?_⟩, ⟨0, ?_⟩, ⟨z * k * m * a1, ?_⟩⟩, ⟨⟨-(z * k * m2 * a2), ?_⟩, ⟨z * l, ?_⟩⟩, ⟨z * k * m2 * a1, ?_⟩⟩
      · rw [hm, hk, ← e2]; grind
      · grind
      · rw [hm, hk, ← e1]; grind
      · rw [hm2, hk, ← e2]; grind
      · rw [show q1 * r2 - r1 * q2 = q1 * r2 - q2 * r1 by grind, f, hl]; grind
      · rw [hm2, hk, ← e1]; grind
  have h0 : 0 ≤ r' * c := Int.mul_nonneg (by omega) c0
  have e : minG [(p1, 0), (q1, r1), (p2, 0), (q2, r2)] 0 = (r' * c).natAbs := by
    refine Nat.dvd_antisymm ?_ ?_
    · exact Int.ofNat_dvd_left.mp ((key _).mp (Nat.dvd_refl _))
    · refine (key _).mpr ?_
      exact Int.natAbs_dvd.mpr (Int.dvd_refl _)
  rw [e]; omega
end
end Lat


/-! YLow: numbers in lowest terms, in plain Lean. -/
namespace Lw
def gcdF (g : Nat) : List Int → Nat
  | [] => g
  | n :: ns => gcdF (Nat.gcd g n.natAbs) ns
theorem gcdF_dvd : ∀ (ns : List Int) (g : Nat), gcdF g ns ∣ g ∧ ∀ n ∈ ns, gcdF g ns ∣ n.natAbs
  | [], g => ⟨Nat.dvd_refl _, fun n h => by cases h⟩
  | n :: ns, g => by
    obtain ⟨a, b⟩ := gcdF_dvd ns (Nat.gcd g n.natAbs)
    refine ⟨Nat.dvd_trans a (Nat.gcd_dvd_left _ _), fun m hm => ?_⟩
    rcases List.mem_cons.mp hm with rfl | hm
    · exact Nat.dvd_trans a (Nat.gcd_dvd_right _ _)
    · exact b m hm
theorem gcdF_scale (p : Int) : ∀ (ns : List Int) (g : Nat), gcdF (p.natAbs * g) (ns.map (p * ·)) = p.natAbs * gcdF g ns
  | [], g => rfl
  | n :: ns, g => by
    show gcdF (Nat.gcd (p.natAbs * g) (p * n).natAbs) (ns.map (p * ·)) = _
    rw [Int.natAbs_mul, Nat.gcd_mul_left, gcdF_scale p ns]
    rfl
theorem gcdF_one : ∀ (ns : List Int) (g : Nat), (∃ n ∈ ns, n.natAbs = 1) → gcdF g ns = 1 := fun ns g ⟨n, h, e⟩ => by
  have := (gcdF_dvd ns g).2 n h
  rw [e] at this
  exact Nat.dvd_one.mp this
theorem gcdF_le {ns : List Int} {n : Int} (h : n ∈ ns) (h0 : n ≠ 0) : gcdF 0 ns ≤ n.natAbs := Nat.le_of_dvd (by omega) ((gcdF_dvd ns 0).2 n h)
theorem gcdF_pos {ns : List Int} {n : Int} (h : n ∈ ns) (h0 : n ≠ 0) : 0 < gcdF 0 ns := Nat.pos_of_dvd_of_pos ((gcdF_dvd ns 0).2 n h) (by omega)
/-- the divisor with the sign of the last number -/
def den (w : Int) (ns : List Int) : Int := if w > 0 then (gcdF 0 ns : Int) else 0 - (gcdF 0 ns : Int)
theorem den_abs (w : Int) (ns : List Int) : (den w ns).natAbs = gcdF 0 ns := by unfold den; split <;> omega
theorem den_dvd {w : Int} {ns : List Int} {n : Int} (h : n ∈ ns) : den w ns ∣ n := by
  rw [← Int.natAbs_dvd_natAbs, den_abs]
  exact (gcdF_dvd ns 0).2 n h
theorem mul_fdiv {g n : Int} (h : g ∣ n) : g * n.fdiv g = n := by
  have := Int.mul_fdiv_add_fmod n g
  have z : n.fmod g = 0 := Int.fmod_eq_zero_of_dvd h
  omega
theorem map_scale {g : Int} : ∀ {ns : List Int}, (∀ n ∈ ns, g ∣ n) → (ns.map fun n => n.fdiv g).map (g * ·) = ns
  | [], _ => rfl
  | n :: ns, h => by
    rw [List.map_cons, List.map_cons, map_scale fun m hm => h m (List.mem_cons_of_mem _ hm), mul_fdiv (h n (List.mem_cons_self ..))]
theorem den_one {w : Int} {ns : List Int} (hw : w ≠ 0) (hm : w ∈ ns) : gcdF 0 (ns.map fun n => n.fdiv (den w ns)) = 1 := by
  have e := gcdF_scale (den w ns) (ns.map fun n => n.fdiv (den w ns)) 0
  rw [map_scale fun n hn => den_dvd hn, Nat.mul_zero, den_abs] at e
  have p := gcdF_pos hm hw
  exact Nat.eq_of_mul_eq_mul_left p (by omega)
theorem den_ne {w : Int} {ns : List Int} (hw : w ≠ 0) (hm : w ∈ ns) : den w ns ≠ 0 := by
  have := gcdF_pos hm hw
  have := den_abs w ns
  omega
theorem den_pos {w : Int} {ns : List Int} (hw : w ≠ 0) (hm : w ∈ ns) : 0 < w.fdiv (den w ns) := by
  have e := mul_fdiv (den_dvd (w := w) hm)
  have p := gcdF_pos hm hw
  have h0 : w.fdiv (den w ns) ≠ 0 := fun z => by rw [z] at e; omega
  by_cases h : w > 0
  · have hd : den w ns = gcdF 0 ns := if_pos h
    rcases Int.lt_or_gt_of_ne h0 with l | l
    · exfalso
      have : den w ns * w.fdiv (den w ns) < 0 := Int.mul_neg_of_pos_of_neg (by omega) l
      omega
    · exact l
  · have hd : den w ns = 0 - gcdF 0 ns := if_neg h
    rcases Int.lt_or_gt_of_ne h0 with l | l
    · exfalso
      have : 0 < den w ns * w.fdiv (den w ns) := Int.mul_pos_of_neg_of_neg (by omega) l
      omega
    · exact l
/-- one form in lowest terms -/
theorem uniq {as bs : List Int} {p q a b : Int} (hp : p ≠ 0) (h : as.map (p * ·) = bs.map (q * ·)) (ga : gcdF 0 as = 1) (gb : gcdF 0 bs = 1) (ha : 0 < a) (hb : 0 < b) (hab : p * a = q * b) : as = bs := by
  have e1 := gcdF_scale p as 0
  have e2 := gcdF_scale q bs 0
  rw [ga] at e1
  rw [gb] at e2
  rw [h] at e1
  have e : p.natAbs = q.natAbs := by rw [Nat.mul_zero] at e1 e2; omega
  have pq : p = q := by
    rcases (by omega : p = q ∨ p = -q) with r | r
    · exact r
    · exfalso
      subst r
      have : q * (a + b) = 0 := by grind
      rcases Int.mul_eq_zero.mp this with z | z <;> omega
  subst pq
  clear e1 e2 e hab ga gb
  induction as generalizing bs with
  | nil => cases bs with | nil => rfl | cons => cases h
  | cons x xs ih => cases bs with
    | nil => cases h
    | cons y ys =>
      rw [List.map_cons, List.map_cons] at h
      obtain ⟨h1, h2⟩ := List.cons.inj h
      rw [Int.eq_of_mul_eq_mul_left hp h1, ih h2]
/-- what is in lowest terms stays -/
theorem den_id {w : Int} {ns : List Int} (h : gcdF 0 ns = 1) (hw : 0 < w) : den w ns = 1 := by unfold den; rw [if_pos hw, h]; rfl
/-! ### charts and points -/
structure C7 where
  a : Int
  b : Int
  c : Int
  d : Int
  e : Int
  f : Int
  w : Int
  deriving DecidableEq
structure C3 where
  x : Int
  y : Int
  u : Int
  deriving DecidableEq
def C7.l (m : C7) : List Int := [m.a, m.b, m.c, m.d, m.e, m.f, m.w]
def C3.l (m : C3) : List Int := [m.x, m.y, m.u]
def low7 (m : C7) : C7 := let g := den m.w m.l; ⟨m.a.fdiv g, m.b.fdiv g, m.c.fdiv g, m.d.fdiv g, m.e.fdiv g, m.f.fdiv g, m.w.fdiv g⟩
def low3 (m : C3) : C3 := let g := den m.u m.l; ⟨m.x.fdiv g, m.y.fdiv g, m.u.fdiv g⟩
structure Low7 (m : C7) : Prop where
  w : 0 < m.w
  g : gcdF 0 m.l = 1
structure Low3 (m : C3) : Prop where
  u : 0 < m.u
  g : gcdF 0 m.l = 1
theorem C7.w_mem (m : C7) : m.w ∈ m.l := by simp [C7.l]
theorem C3.u_mem (m : C3) : m.u ∈ m.l := by simp [C3.l]
theorem low7_l (m : C7) : (low7 m).l = m.l.map fun n => n.fdiv (den m.w m.l) := rfl
theorem low3_l (m : C3) : (low3 m).l = m.l.map fun n => n.fdiv (den m.u m.l) := rfl
theorem low7_low {m : C7} (h : m.w ≠ 0) : Low7 (low7 m) := ⟨den_pos h m.w_mem, den_one h m.w_mem⟩
theorem low3_low {m : C3} (h : m.u ≠ 0) : Low3 (low3 m) := ⟨den_pos h m.u_mem, den_one h m.u_mem⟩
structure Sc7 (m n : C7) (g : Int) : Prop where
  a : m.a = g * n.a
  b : m.b = g * n.b
  c : m.c = g * n.c
  d : m.d = g * n.d
  e : m.e = g * n.e
  f : m.f = g * n.f
  w : m.w = g * n.w
structure Sc3 (m n : C3) (g : Int) : Prop where
  x : m.x = g * n.x
  y : m.y = g * n.y
  u : m.u = g * n.u
theorem low7_sc {m : C7} : Sc7 m (low7 m) (den m.w m.l) := by
  have k : ∀ n ∈ m.l, n = den m.w m.l * n.fdiv (den m.w m.l) := fun n hn => (mul_fdiv (den_dvd hn)).symm
  constructor <;> exact k _ (by simp [C7.l])
theorem low3_sc {m : C3} : Sc3 m (low3 m) (den m.u m.l) := by
  have k : ∀ n ∈ m.l, n = den m.u m.l * n.fdiv (den m.u m.l) := fun n hn => (mul_fdiv (den_dvd hn)).symm
  constructor <;> exact k _ (by simp [C3.l])
theorem uniq7 {m n : C7} {p q : Int} (hp : p ≠ 0) (hm : Low7 m) (hn : Low7 n) (a : p * m.a = q * n.a) (b : p * m.b = q * n.b) (c : p * m.c = q * n.c) (d : p * m.d = q * n.d) (e : p * m.e = q * n.e) (f : p * m.f = q * n.f) (w : p * m.w = q * n.w) : m = n := by
  have := uniq (as := m.l) (bs := n.l) hp (by simp only [C7.l, List.map_cons, List.map_nil]; rw [a, b, c, d, e, f, w]) hm.g hn.g hm.w hn.w w
  obtain ⟨⟩ := m
  obtain ⟨⟩ := n
  simp only [C7.l, List.cons.injEq] at this
  simp [this]
theorem uniq3 {m n : C3} {p q : Int} (hp : p ≠ 0) (hm : Low3 m) (hn : Low3 n) (x : p * m.x = q * n.x) (y : p * m.y = q * n.y) (u : p * m.u = q * n.u) : m = n := by
  have := uniq (as := m.l) (bs := n.l) hp (by simp only [C3.l, List.map_cons, List.map_nil]; rw [x, y, u]) hm.g hn.g hm.u hn.u u
  obtain ⟨⟩ := m
  obtain ⟨⟩ := n
  simp only [C3.l, List.cons.injEq] at this
  simp [this]
/-- what is a lowest form, is the one -/
theorem low7_is {m n : C7} (hm : m.w ≠ 0) (hn : Low7 n) {p q : Int} (hp : p ≠ 0) (a : p * m.a = q * n.a) (b : p * m.b = q * n.b) (c : p * m.c = q * n.c) (d : p * m.d = q * n.d) (e : p * m.e = q * n.e) (f : p * m.f = q * n.f) (w : p * m.w = q * n.w) : low7 m = n := by
  have S := low7_sc (m := m)
  have g0 := den_ne hm m.w_mem
  refine uniq7 (p := p * den m.w m.l) (q := q) (by intro z; rcases Int.mul_eq_zero.mp z with z | z <;> contradiction) (low7_low hm) hn ?_ ?_ ?_ ?_ ?_ ?_ ?_
  · rw [Int.mul_assoc, ← S.a]; exact a
  · rw [Int.mul_assoc, ← S.b]; exact b
  · rw [Int.mul_assoc, ← S.c]; exact c
  · rw [Int.mul_assoc, ← S.d]; exact d
  · rw [Int.mul_assoc, ← S.e]; exact e
  · rw [Int.mul_assoc, ← S.f]; exact f
  · rw [Int.mul_assoc, ← S.w]; exact w
theorem low3_is {m n : C3} (hm : m.u ≠ 0) (hn : Low3 n) {p q : Int} (hp : p ≠ 0) (x : p * m.x = q * n.x) (y : p * m.y = q * n.y) (u : p * m.u = q * n.u) : low3 m = n := by
  have S := low3_sc (m := m)
  have g0 := den_ne hm m.u_mem
  refine uniq3 (p := p * den m.u m.l) (q := q) (by intro z; rcases Int.mul_eq_zero.mp z with z | z <;> contradiction) (low3_low hm) hn ?_ ?_ ?_
  · rw [Int.mul_assoc, ← S.x]; exact x
  · rw [Int.mul_assoc, ← S.y]; exact y
  · rw [Int.mul_assoc, ← S.u]; exact u
theorem low7_id {m : C7} (h : Low7 m) : low7 m = m := low7_is (p := 1) (q := 1) (by have := h.w; omega) h (by decide) rfl rfl rfl rfl rfl rfl rfl
theorem low3_id {m : C3} (h : Low3 m) : low3 m = m := low3_is (p := 1) (q := 1) (by have := h.u; omega) h (by decide) rfl rfl rfl
/-- raw numbers -/
def at_ (m : C7) (p : C3) : C3 := ⟨m.a * p.x + m.b * p.y + m.e * p.u, m.c * p.x + m.d * p.y + m.f * p.u, m.w * p.u⟩
def then_ (m n : C7) : C7 := ⟨n.a * m.a + n.b * m.c, n.a * m.b + n.b * m.d, n.c * m.a + n.d * m.c, n.c * m.b + n.d * m.d, n.a * m.e + n.b * m.f + m.w * n.e, n.c * m.e + n.d * m.f + m.w * n.f, m.w * n.w⟩
def back_ (m : C7) : C7 := ⟨m.d * m.w, 0 - m.b * m.w, 0 - m.c * m.w, m.a * m.w, m.b * m.f - m.d * m.e, m.c * m.e - m.a * m.f, m.a * m.d - m.b * m.c⟩
def by_ (i j k : C3) : C7 := let n := i.u * j.u * k.u; let s := n.fdiv j.u; let t := n.fdiv k.u; let r := n.fdiv i.u; ⟨j.x * s - i.x * r, k.x * t - i.x * r, j.y * s - i.y * r, k.y * t - i.y * r, i.x * r, i.y * r, n⟩
def id7 : C7 := ⟨1, 0, 0, 1, 0, 0, 1⟩
theorem low_id7 : Low7 id7 := ⟨by decide, by decide⟩
theorem mul_ne {a b : Int} (ha : a ≠ 0) (hb : b ≠ 0) : a * b ≠ 0 := fun z => by rcases Int.mul_eq_zero.mp z with z | z <;> contradiction
/-- a chart followed by its back -/
theorem then_back {m : C7} (hm : m.w ≠ 0) (hd : m.a * m.d - m.b * m.c ≠ 0) : low7 (then_ m (low7 (back_ m))) = id7 := by
  have S := low7_sc (m := back_ m)
  have h0 : (back_ m).w ≠ 0 := hd
  have g0 := den_ne h0 (back_ m).w_mem
  have L := low7_low h0
  generalize den (back_ m).w (back_ m).l = g at *
  generalize low7 (back_ m) = n at *
  obtain ⟨a, b, c, d, e, f, w⟩ := m
  obtain ⟨a', b', c', d', e', f', w'⟩ := n
  obtain ⟨sa, sb, sc, sd, se, sf, sw⟩ := S
  dsimp only [back_] at *
  have lw := L.w
  dsimp only at lw
  refine low7_is (p := g) (q := w * (a * d - b * c)) (mul_ne hm (by dsimp only; omega)) low_id7 g0 ?_ ?_ ?_ ?_ ?_ ?_ ?_ <;> dsimp only [then_, id7] <;> grind
theorem back_then {m : C7} (hm : m.w ≠ 0) (hd : m.a * m.d - m.b * m.c ≠ 0) : low7 (then_ (low7 (back_ m)) m) = id7 := by
  have S := low7_sc (m := back_ m)
  have h0 : (back_ m).w ≠ 0 := hd
  have g0 := den_ne h0 (back_ m).w_mem
  have L := low7_low h0
  generalize den (back_ m).w (back_ m).l = g at *
  generalize low7 (back_ m) = n at *
  obtain ⟨a, b, c, d, e, f, w⟩ := m
  obtain ⟨a', b', c', d', e', f', w'⟩ := n
  obtain ⟨sa, sb, sc, sd, se, sf, sw⟩ := S
  dsimp only [back_] at *
  have lw := L.w
  dsimp only at lw
  refine low7_is (p := g) (q := w * (a * d - b * c)) (mul_ne (by dsimp only; omega) hm) low_id7 g0 ?_ ?_ ?_ ?_ ?_ ?_ ?_ <;> dsimp only [then_, id7] <;> grind
theorem at_u {m : C7} {p : C3} (hm : m.w ≠ 0) (hp : p.u ≠ 0) : (at_ m p).u ≠ 0 := mul_ne hm hp
/-- there and back -/
theorem at_back {m : C7} {p : C3} (hm : m.w ≠ 0) (hd : m.a * m.d - m.b * m.c ≠ 0) (hp : Low3 p) : low3 (at_ (low7 (back_ m)) (low3 (at_ m p))) = p := by
  have S := low7_sc (m := back_ m)
  have h0 : (back_ m).w ≠ 0 := hd
  have g0 := den_ne h0 (back_ m).w_mem
  have L := low7_low h0
  have hu : (at_ m p).u ≠ 0 := at_u hm (by have := hp.u; omega)
  have S2 := low3_sc (m := at_ m p)
  have g2 := den_ne hu (at_ m p).u_mem
  have L2 := low3_low hu
  generalize den (back_ m).w (back_ m).l = g at *
  generalize low7 (back_ m) = n at *
  generalize den (at_ m p).u (at_ m p).l = h at *
  generalize low3 (at_ m p) = r at *
  obtain ⟨a, b, c, d, e, f, w⟩ := m
  obtain ⟨a', b', c', d', e', f', w'⟩ := n
  obtain ⟨x, y, u⟩ := p
  obtain ⟨x', y', u'⟩ := r
  obtain ⟨sa, sb, sc, sd, se, sf, sw⟩ := S
  obtain ⟨tx, ty, tu⟩ := S2
  have lw := L.w
  have lu := L2.u
  dsimp only [back_, at_] at *
  refine low3_is (p := g * h) (q := w * (a * d - b * c)) (mul_ne (by omega) (by omega)) hp (mul_ne g0 g2) ?_ ?_ ?_
  · have k : g * h * (a' * x' + b' * y' + e' * u') = (g * a') * (h * x') + (g * b') * (h * y') + (g * e') * (h * u') := by grind only
    show g * h * (a' * x' + b' * y' + e' * u') = w * (a * d - b * c) * x
    rw [k, ← sa, ← sb, ← se, ← tx, ← ty, ← tu]; grind only
  · have k : g * h * (c' * x' + d' * y' + f' * u') = (g * c') * (h * x') + (g * d') * (h * y') + (g * f') * (h * u') := by grind only
    show g * h * (c' * x' + d' * y' + f' * u') = w * (a * d - b * c) * y
    rw [k, ← sc, ← sd, ← sf, ← tx, ← ty, ← tu]; grind only
  · have k : g * h * (w' * u') = (g * w') * (h * u') := by grind only
    show g * h * (w' * u') = w * (a * d - b * c) * u
    rw [k, ← sw, ← tu]; grind only
theorem back_at {m : C7} {p : C3} (hm : m.w ≠ 0) (hd : m.a * m.d - m.b * m.c ≠ 0) (hp : Low3 p) : low3 (at_ m (low3 (at_ (low7 (back_ m)) p))) = p := by
  have S := low7_sc (m := back_ m)
  have h0 : (back_ m).w ≠ 0 := hd
  have g0 := den_ne h0 (back_ m).w_mem
  have L := low7_low h0
  have hu : (at_ (low7 (back_ m)) p).u ≠ 0 := at_u (by have := L.w; omega) (by have := hp.u; omega)
  have S2 := low3_sc (m := at_ (low7 (back_ m)) p)
  have g2 := den_ne hu (at_ (low7 (back_ m)) p).u_mem
  have L2 := low3_low hu
  generalize den (back_ m).w (back_ m).l = g at *
  generalize low7 (back_ m) = n at *
  generalize den (at_ n p).u (at_ n p).l = h at *
  generalize low3 (at_ n p) = r at *
  obtain ⟨a, b, c, d, e, f, w⟩ := m
  obtain ⟨a', b', c', d', e', f', w'⟩ := n
  obtain ⟨x, y, u⟩ := p
  obtain ⟨x', y', u'⟩ := r
  obtain ⟨sa, sb, sc, sd, se, sf, sw⟩ := S
  obtain ⟨tx, ty, tu⟩ := S2
  have lw := L.w
  have lu := L2.u
  dsimp only [back_, at_] at *
  refine low3_is (p := g * h) (q := w * (a * d - b * c)) (mul_ne (by omega) (by omega)) hp (mul_ne g0 g2) ?_ ?_ ?_
  · show g * h * (a * x' + b * y' + e * u') = w * (a * d - b * c) * x
    have k : g * h * (a * x' + b * y' + e * u') = g * (a * (h * x') + b * (h * y') + e * (h * u')) := by grind only
    rw [k, ← tx, ← ty, ← tu]
    have k : g * (a * (a' * x + b' * y + e' * u) + b * (c' * x + d' * y + f' * u) + e * (w' * u)) = a * ((g * a') * x + (g * b') * y + (g * e') * u) + b * ((g * c') * x + (g * d') * y + (g * f') * u) + e * ((g * w') * u) := by grind only
    rw [k, ← sa, ← sb, ← sc, ← sd, ← se, ← sf, ← sw]; grind only
  · show g * h * (c * x' + d * y' + f * u') = w * (a * d - b * c) * y
    have k : g * h * (c * x' + d * y' + f * u') = g * (c * (h * x') + d * (h * y') + f * (h * u')) := by grind only
    rw [k, ← tx, ← ty, ← tu]
    have k : g * (c * (a' * x + b' * y + e' * u) + d * (c' * x + d' * y + f' * u) + f * (w' * u)) = c * ((g * a') * x + (g * b') * y + (g * e') * u) + d * ((g * c') * x + (g * d') * y + (g * f') * u) + f * ((g * w') * u) := by grind only
    rw [k, ← sa, ← sb, ← sc, ← sd, ← se, ← sf, ← sw]; grind only
  · show g * h * (w * u') = w * (a * d - b * c) * u
    have k : g * h * (w * u') = w * (g * (h * u')) := by grind only
    rw [k, ← tu]
    have k : w * (g * (w' * u)) = w * ((g * w') * u) := by grind only
    rw [k, ← sw]; grind only
/-- three points tell a chart -/
theorem by_then {m n : C7} (hm : m.w ≠ 0) (hn : n.w ≠ 0) :
    low7 (by_ (low3 (at_ n (low3 (at_ m ⟨0, 0, 1⟩)))) (low3 (at_ n (low3 (at_ m ⟨1, 0, 1⟩)))) (low3 (at_ n (low3 (at_ m ⟨0, 1, 1⟩))))) = low7 (then_ m n) := by
  have key : ∀ p : C3, p.u ≠ 0 → ∃ (g : Int) (r : C3), g ≠ 0 ∧ low3 (at_ n (low3 (at_ m p))) = r ∧ 0 < r.u ∧ g * r.x = (at_ n (at_ m p)).x ∧ g * r.y = (at_ n (at_ m p)).y ∧ g * r.u = (at_ n (at_ m p)).u := fun p hp => by
    have hu := at_u hm hp
    have S2 := low3_sc (m := at_ m p)
    have g2 := den_ne hu (at_ m p).u_mem
    have L2 := low3_low hu
    generalize den (at_ m p).u (at_ m p).l = h at *
    generalize low3 (at_ m p) = r at *
    have hv : (at_ n r).u ≠ 0 := at_u hn (by have := L2.u; omega)
    have S3 := low3_sc (m := at_ n r)
    have g3 := den_ne hv (at_ n r).u_mem
    have L3 := low3_low hv
    generalize den (at_ n r).u (at_ n r).l = h2 at *
    generalize low3 (at_ n r) = r2 at *
    refine ⟨h * h2, r2, mul_ne g2 g3, rfl, L3.u, ?_, ?_, ?_⟩
    · have := S3.x
      rw [Int.mul_assoc, ← this]
      have := S2.x; have := S2.y; have := S2.u
      dsimp only [at_] at *
      grind
    · have := S3.y
      rw [Int.mul_assoc, ← this]
      have := S2.x; have := S2.y; have := S2.u
      dsimp only [at_] at *
      grind
    · have := S3.u
      rw [Int.mul_assoc, ← this]
      have := S2.x; have := S2.y; have := S2.u
      dsimp only [at_] at *
      grind
  obtain ⟨g0, i, h0, e0, u0, x0, y0, z0⟩ := key ⟨0, 0, 1⟩ (by decide)
  obtain ⟨g1, j, h1, e1, u1, x1, y1, z1⟩ := key ⟨1, 0, 1⟩ (by decide)
  obtain ⟨g2, k, h2, e2, u2, x2, y2, z2⟩ := key ⟨0, 1, 1⟩ (by decide)
  rw [e0, e1, e2]
  clear e0 e1 e2 key
  have ht : (then_ m n).w ≠ 0 := mul_ne hm hn
  have S := low7_sc (m := then_ m n)
  have gt := den_ne ht (then_ m n).w_mem
  have L := low7_low ht
  have d1 : (i.u * j.u * k.u).fdiv j.u = i.u * k.u := by
    rw [show i.u * j.u * k.u = i.u * k.u * j.u by grind]; exact Int.mul_fdiv_cancel _ (by omega)
  have d2 : (i.u * j.u * k.u).fdiv k.u = i.u * j.u := Int.mul_fdiv_cancel _ (by omega)
  have d0 : (i.u * j.u * k.u).fdiv i.u = j.u * k.u := by
    rw [show i.u * j.u * k.u = j.u * k.u * i.u by grind]; exact Int.mul_fdiv_cancel _ (by omega)
  have hb : by_ i j k = ⟨j.x * (i.u * k.u) - i.x * (j.u * k.u), k.x * (i.u * j.u) - i.x * (j.u * k.u), j.y * (i.u * k.u) - i.y * (j.u * k.u), k.y * (i.u * j.u) - i.y * (j.u * k.u), i.x * (j.u * k.u), i.y * (j.u * k.u), i.u * j.u * k.u⟩ := by
    unfold by_; simp only [d0, d1, d2]
  rw [hb]
  clear hb d0 d1 d2
  have W : g0 * i.u = g1 * j.u ∧ g0 * i.u = g2 * k.u := by
    dsimp only [at_] at z0 z1 z2; constructor <;> grind
  generalize den (then_ m n).w (then_ m n).l = g at *
  generalize low7 (then_ m n) = r at *
  refine low7_is (p := g0 * g1 * g2) (q := (m.w * n.w) * (m.w * n.w) * g) (mul_ne (mul_ne (by omega) (by omega)) (by omega)) L (mul_ne (mul_ne h0 h1) h2) ?_ ?_ ?_ ?_ ?_ ?_ ?_
  · have := S.a
    rw [Int.mul_assoc _ g, ← this]
    dsimp only [at_, then_] at *
    have : g0 * g1 * g2 * (j.x * (i.u * k.u) - i.x * (j.u * k.u)) = (g1 * j.x) * (g0 * i.u) * (g2 * k.u) - (g0 * i.x) * (g1 * j.u) * (g2 * k.u) := by grind
    rw [this, x0, x1, z0, z1, z2]; grind
  · have := S.b
    rw [Int.mul_assoc _ g, ← this]
    dsimp only [at_, then_] at *
    have : g0 * g1 * g2 * (k.x * (i.u * j.u) - i.x * (j.u * k.u)) = (g2 * k.x) * (g0 * i.u) * (g1 * j.u) - (g0 * i.x) * (g1 * j.u) * (g2 * k.u) := by grind
    rw [this, x0, x2, z0, z1, z2]; grind
  · have := S.c
    rw [Int.mul_assoc _ g, ← this]
    dsimp only [at_, then_] at *
    have : g0 * g1 * g2 * (j.y * (i.u * k.u) - i.y * (j.u * k.u)) = (g1 * j.y) * (g0 * i.u) * (g2 * k.u) - (g0 * i.y) * (g1 * j.u) * (g2 * k.u) := by grind
    rw [this, y0, y1, z0, z1, z2]; grind
  · have := S.d
    rw [Int.mul_assoc _ g, ← this]
    dsimp only [at_, then_] at *
    have : g0 * g1 * g2 * (k.y * (i.u * j.u) - i.y * (j.u * k.u)) = (g2 * k.y) * (g0 * i.u) * (g1 * j.u) - (g0 * i.y) * (g1 * j.u) * (g2 * k.u) := by grind
    rw [this, y0, y2, z0, z1, z2]; grind
  · have := S.e
    rw [Int.mul_assoc _ g, ← this]
    dsimp only [at_, then_] at *
    have : g0 * g1 * g2 * (i.x * (j.u * k.u)) = (g0 * i.x) * (g1 * j.u) * (g2 * k.u) := by grind
    rw [this, x0, z1, z2]; grind
  · have := S.f
    rw [Int.mul_assoc _ g, ← this]
    dsimp only [at_, then_] at *
    have : g0 * g1 * g2 * (i.y * (j.u * k.u)) = (g0 * i.y) * (g1 * j.u) * (g2 * k.u) := by grind
    rw [this, y0, z1, z2]; grind
  · have := S.w
    rw [Int.mul_assoc _ g, ← this]
    dsimp only [at_, then_] at *
    have : g0 * g1 * g2 * (i.u * j.u * k.u) = (g0 * i.u) * (g1 * j.u) * (g2 * k.u) := by grind
    rw [this, z0, z1, z2]; grind
end Lw
namespace Y
open PySem PySem.Spec PyProof.Rows L2
theorem show_i {a : Int} (ha : a.natAbs < 10 ^ 12) : a.natAbs.log2 < 1920 := by
  by_cases h : a.natAbs = 0
  · rw [h]; decide
  · exact (Nat.log2_lt h).mpr (Nat.lt_of_lt_of_le ha (by decide +kernel))
theorem shwI_all : ∀ ns : List Int, (∀ n ∈ ns, n.natAbs < 10 ^ 12) → PyData.leavesShortAll 13 (ns.map PyData.int) = true ∧ PyData.showableAll (ns.map PyData.int) = true ∧ PyData.bulkAll (ns.map PyData.int) ≤ 2 * ns.length ∧ strsOkAll (ns.map PyData.int) = true
  | [], _ => ⟨rfl, rfl, by simp [PyData.bulkAll], rfl⟩
  | n :: ns, h => by
    obtain ⟨h1, h2, h3, h4⟩ := shwI_all ns fun m hm => h m (List.mem_cons_of_mem _ hm)
    have hn := h n List.mem_cons_self
    refine ⟨?_, ?_, ?_, ?_⟩
    · simp only [List.map_cons, PyData.leavesShortAll, PyData.leavesShort, h1, Bool.and_true, decide_eq_true_eq]; exact PyData.shown_int_le hn
    · simp only [List.map_cons, PyData.showableAll, PyData.showable, h2, Bool.and_true, decide_eq_true_eq]; exact show_i hn
    · simp only [List.map_cons, PyData.bulkAll, PyData.bulk, List.length_cons]; omega
    · simp only [List.map_cons, strsOkAll, strsOk, h4, Bool.and_true]
/-- a tuple of numbers that are not great is shown -/
theorem shwI {ns : List Int} (h : ∀ n ∈ ns, n.natAbs < 10 ^ 12) (hl : ns.length ≤ 1000) : shwOk (.tuple (ns.map PyData.int)) = true := by
  obtain ⟨h1, h2, h3, h4⟩ := shwI_all ns h
  unfold shwOk
  rw [sh_tupI]
  simp only [PyData.leavesShort, PyData.showable, PyData.bulk, strsOk, h1, h2, h4, Bool.true_and, Bool.and_true, decide_eq_true_eq, List.length_map]
  exact decide_eq_true (by omega)
theorem shwI2 {ns : List Int} (h : ∀ n ∈ ns, n.natAbs < 10 ^ 12) (hl : ns.length ≤ 1000) : shwOk (.list [.tuple (ns.map PyData.int), .tuple (ns.map PyData.int)]) = true := by
  obtain ⟨h1, h2, h3, h4⟩ := shwI_all ns h
  obtain ⟨c1, c2⟩ := sh_ints ns
  unfold shwOk SeqAt.shaped
  simp only [PyData.canLay0, PyData.canLayAll0, c1, PyData.depth, PyData.depthAll, PyData.leavesShort, PyData.leavesShortAll, PyData.showable, PyData.showableAll, PyData.bulk, PyData.bulkAll, strsOk, strsOkAll, h1, h2, h4, Bool.true_and, Bool.and_true, Bool.and_self, Bool.and_eq_true, decide_eq_true_eq, List.length_map, List.length_cons, List.length_nil]
  exact ⟨decide_eq_true (by omega), decide_eq_true (by omega)⟩
end Y


namespace K14
open PySem PySem.Spec PyProof.Rows L2 Y YEX
/-! ### the text -/
def top (i : Nat) : Stmt := PySem.Challenge.pw_patternwright_k14_whole_charts.main.body.getD i (.Pass ⟨0, 0, 0, 0⟩)
abbrev s_is_whole : Stmt := top 7
abbrev s_common_of : Stmt := top 10
abbrev s_is_chart : Stmt := top 11
abbrev s_need_chart : Stmt := top 12
abbrev s_lowest : Stmt := top 13
abbrev s_own_chart_then : Stmt := top 14
abbrev s_own_chart_back : Stmt := top 15
abbrev s_need_bounded : Stmt := top 16
abbrev s_chart_then : Stmt := top 17
abbrev s_chart_back : Stmt := top 18
abbrev s_is_point : Stmt := top 19
abbrev s_own_charted : Stmt := top 20
abbrev s_charted : Stmt := top 21
abbrev s__law_mixed : Stmt := top 23
abbrev s__law_draw : Stmt := top 24
abbrev s__law_digit : Stmt := top 25
abbrev s__law_common : Stmt := top 26
abbrev s__law_lowest : Stmt := top 27
abbrev s__law_chart : Stmt := top 28
abbrev s__law_chart_at : Stmt := top 29
abbrev s__law_heard : Stmt := top 30
abbrev s__law_point : Stmt := top 31
abbrev s__law_chart_by : Stmt := top 32
abbrev s__law_right : Stmt := top 33
abbrev s__law_lowered_right : Stmt := top 34
abbrev s__law_bounds_right : Stmt := top 35
abbrev s__law_refused : Stmt := top 36
abbrev s_law : Stmt := top 37
abbrev i_BadCell : Stmt := (clsBody (top 3)).getD 0 (.Pass ⟨0, 0, 0, 0⟩)
abbrev i_BadNumber : Stmt := (clsBody (top 4)).getD 0 (.Pass ⟨0, 0, 0, 0⟩)
abbrev i_TooMany : Stmt := (clsBody (top 5)).getD 0 (.Pass ⟨0, 0, 0, 0⟩)
/-! ### the defs by data -/
def v_MOST : PyData := .int 1000000000000
def eNames : List Str := ["BadCell", "BadNumber", "TooMany"]
def subE (c x : Str) : Bool := ([("BadCell", "BadCell"), ("BadCell", "PatternError"), ("BadCell", "ValueError"), ("BadNumber", "BadNumber"), ("BadNumber", "PatternError"), ("BadNumber", "ValueError"), ("TooMany", "TooMany"), ("TooMany", "OverflowError")] : List (Str × Str)).contains (c, x)
def n_is_whole : List Str := ["thing", "least", "most"]
def g_is_whole : SF := (sRet (fAndV (fIsi "int" (fNm 0)) (fAndV (fNotV (fIsi "bool" (fNm 0))) (fChain gLe gLe (fNm 1) (fNm 0) (fNm 2)))))
def F_is_whole := fnR n_is_whole g_is_whole
def n_common_of : List Str := ["numbers", "found", "number"]
def g_common_of : SF := (sSeq (sAsg (fC (.int 0)) (tNm 1))
  (sSeq (sFor (fItems (fNm 0)) (tNm 2) (sAsg (fBlt gGcd (fCons (fNm 1) (fCons (fNm 2) fNil))) (tNm 1)))
  (sRet (fNm 1))))
def F_common_of := fnR n_common_of g_common_of
def n_is_chart : List Str := ["thing", "part"]
def g_is_chart : SF := (sSeq (sIf (fOr (fNot (fB (fIsi "tuple" (fNm 0)))) (fOr (fB (fOp gNe (fBltX gLen 0) (fC (.int 7)))) (fNot (fB (fBlt gAll (fCons (fComp [1] (fItems (fNm 0)) (tNm 1) tYes' (fCall F_is_whole (fCons (fNm 1) (fCons (fOp gSub (fC (.int 0)) (fC v_MOST)) (fCons (fC v_MOST) fNil))))) fNil)))))) (sRet (fC (.bool false))) sNil)
  (sRet (fAndV (fOp gGe (fIxN 0 (fC (.int 6))) (fC (.int 1))) (fAndV (fOp gNe (fOp gMul (fIxN 0 (fC (.int 0))) (fIxN 0 (fC (.int 3)))) (fOp gMul (fIxN 0 (fC (.int 1))) (fIxN 0 (fC (.int 2))))) (fOp gEq (fCall F_common_of (fCons (fNm 0) fNil)) (fC (.int 1)))))))
def F_is_chart := fnR n_is_chart g_is_chart
def n_need_chart : List Str := ["chart"]
def g_need_chart : SF := (sIf (fNot (fB (fCall F_is_chart (fCons (fNm 0) fNil)))) (sRaise "BadNumber" (fNm 0)) sNil)
def F_need_chart := fnR n_need_chart g_need_chart
def n_lowest : List Str := ["numbers", "common", "number"]
def g_lowest : SF := (sSeq (sAsg (fIf (fB (fOp gGt (fIxN 0 (fC (.int 6))) (fC (.int 0)))) (fCall F_common_of (fCons (fNm 0) fNil)) (fOp gSub (fC (.int 0)) (fCall F_common_of (fCons (fNm 0) fNil)))) (tNm 1))
  (sRet (fBlt gTuple (fCons (fComp [2] (fItems (fNm 0)) (tNm 2) tYes' (fOp gDiv (fNm 2) (fNm 1))) fNil))))
def F_lowest := fnR n_lowest g_lowest
def n_own_chart_then : List Str := ["one", "other", "a", "b", "c", "d", "e", "f", "below", "p", "q", "r", "s", "t", "u", "under", "turned"]
def g_own_chart_then : SF := (sSeq (sAsg (fNm 0) (tTp 7 (tsCons (tNm 2) (tsCons (tNm 3) (tsCons (tNm 4) (tsCons (tNm 5) (tsCons (tNm 6) (tsCons (tNm 7) (tsCons (tNm 8) tsNil)))))))))
  (sSeq (sAsg (fNm 1) (tTp 7 (tsCons (tNm 9) (tsCons (tNm 10) (tsCons (tNm 11) (tsCons (tNm 12) (tsCons (tNm 13) (tsCons (tNm 14) (tsCons (tNm 15) tsNil)))))))))
  (sSeq (sAsg (fTup (fCons (fOp gAdd (fOp gMul (fNm 9) (fNm 2)) (fOp gMul (fNm 10) (fNm 4))) (fCons (fOp gAdd (fOp gMul (fNm 9) (fNm 3)) (fOp gMul (fNm 10) (fNm 5))) (fCons (fOp gAdd (fOp gMul (fNm 11) (fNm 2)) (fOp gMul (fNm 12) (fNm 4))) (fCons (fOp gAdd (fOp gMul (fNm 11) (fNm 3)) (fOp gMul (fNm 12) (fNm 5))) fNil))))) (tNm 16))
  (sRet (fCall F_lowest (fCons (fTup (fStar (fNm 16) (fCons (fOp gAdd (fOp gAdd (fOp gMul (fNm 9) (fNm 6)) (fOp gMul (fNm 10) (fNm 7))) (fOp gMul (fNm 8) (fNm 13))) (fCons (fOp gAdd (fOp gAdd (fOp gMul (fNm 11) (fNm 6)) (fOp gMul (fNm 12) (fNm 7))) (fOp gMul (fNm 8) (fNm 14))) (fCons (fOp gMul (fNm 8) (fNm 15)) fNil))))) fNil))))))
def F_own_chart_then := fnR n_own_chart_then g_own_chart_then
def n_own_chart_back : List Str := ["chart", "a", "b", "c", "d", "e", "f", "below"]
def g_own_chart_back : SF := (sSeq (sAsg (fNm 0) (tTp 7 (tsCons (tNm 1) (tsCons (tNm 2) (tsCons (tNm 3) (tsCons (tNm 4) (tsCons (tNm 5) (tsCons (tNm 6) (tsCons (tNm 7) tsNil)))))))))
  (sRet (fCall F_lowest (fCons (fTup (fCons (fOp gMul (fNm 4) (fNm 7)) (fCons (fOp gSub (fC (.int 0)) (fOp gMul (fNm 2) (fNm 7))) (fCons (fOp gSub (fC (.int 0)) (fOp gMul (fNm 3) (fNm 7))) (fCons (fOp gMul (fNm 1) (fNm 7)) (fCons (fOp gSub (fOp gMul (fNm 2) (fNm 6)) (fOp gMul (fNm 4) (fNm 5))) (fCons (fOp gSub (fOp gMul (fNm 3) (fNm 5)) (fOp gMul (fNm 1) (fNm 6))) (fCons (fOp gSub (fOp gMul (fNm 1) (fNm 4)) (fOp gMul (fNm 2) (fNm 3))) fNil)))))))) fNil))))
def F_own_chart_back := fnR n_own_chart_back g_own_chart_back
def n_need_bounded : List Str := ["chart"]
def g_need_bounded : SF := (sSeq (sIf (fNot (fB (fCall F_is_chart (fCons (fNm 0) fNil)))) (sRaise "TooMany" (fC v_MOST)) sNil)
  (sRet (fNm 0)))
def F_need_bounded := fnR n_need_bounded g_need_bounded
def n_chart_then : List Str := ["one", "other"]
def g_chart_then : SF := (sSeq (sExpr (fCall F_need_chart (fCons (fNm 0) fNil)))
  (sSeq (sExpr (fCall F_need_chart (fCons (fNm 1) fNil)))
  (sRet (fCall F_need_bounded (fCons (fCall F_own_chart_then (fCons (fNm 0) (fCons (fNm 1) fNil))) fNil)))))
def F_chart_then := fnR n_chart_then g_chart_then
def n_chart_back : List Str := ["chart"]
def g_chart_back : SF := (sSeq (sExpr (fCall F_need_chart (fCons (fNm 0) fNil)))
  (sRet (fCall F_need_bounded (fCons (fCall F_own_chart_back (fCons (fNm 0) fNil)) fNil))))
def F_chart_back := fnR n_chart_back g_chart_back
def n_is_point : List Str := ["thing", "part"]
def g_is_point : SF := (sSeq (sIf (fOr (fNot (fB (fIsi "tuple" (fNm 0)))) (fOr (fB (fOp gNe (fBltX gLen 0) (fC (.int 3)))) (fNot (fB (fBlt gAll (fCons (fComp [1] (fItems (fNm 0)) (tNm 1) tYes' (fCall F_is_whole (fCons (fNm 1) (fCons (fOp gSub (fC (.int 0)) (fC v_MOST)) (fCons (fC v_MOST) fNil))))) fNil)))))) (sRet (fC (.bool false))) sNil)
  (sRet (fAndV (fOp gGe (fIxN 0 (fC (.int 2))) (fC (.int 1))) (fOp gEq (fCall F_common_of (fCons (fNm 0) fNil)) (fC (.int 1))))))
def F_is_point := fnR n_is_point g_is_point
def n_own_charted : List Str := ["chart", "point", "a", "b", "c", "d", "e", "f", "below", "x", "y", "under", "found", "common"]
def g_own_charted : SF := (sSeq (sAsg (fNm 0) (tTp 7 (tsCons (tNm 2) (tsCons (tNm 3) (tsCons (tNm 4) (tsCons (tNm 5) (tsCons (tNm 6) (tsCons (tNm 7) (tsCons (tNm 8) tsNil)))))))))
  (sSeq (sAsg (fNm 1) (tTp 3 (tsCons (tNm 9) (tsCons (tNm 10) (tsCons (tNm 11) tsNil)))))
  (sSeq (sAsg (fTup (fCons (fOp gAdd (fOp gAdd (fOp gMul (fNm 2) (fNm 9)) (fOp gMul (fNm 3) (fNm 10))) (fOp gMul (fNm 6) (fNm 11))) (fCons (fOp gAdd (fOp gAdd (fOp gMul (fNm 4) (fNm 9)) (fOp gMul (fNm 5) (fNm 10))) (fOp gMul (fNm 7) (fNm 11))) (fCons (fOp gMul (fNm 8) (fNm 11)) fNil)))) (tNm 12))
  (sSeq (sAsg (fCall F_common_of (fCons (fNm 12) fNil)) (tNm 13))
  (sRet (fTup (fCons (fOp gDiv (fIxN 12 (fC (.int 0))) (fNm 13)) (fCons (fOp gDiv (fIxN 12 (fC (.int 1))) (fNm 13)) (fCons (fOp gDiv (fIxN 12 (fC (.int 2))) (fNm 13)) fNil)))))))))
def F_own_charted := fnR n_own_charted g_own_charted
def n_charted : List Str := ["chart", "point"]
def g_charted : SF := (sSeq (sExpr (fCall F_need_chart (fCons (fNm 0) fNil)))
  (sSeq (sIf (fNot (fB (fCall F_is_point (fCons (fNm 1) fNil)))) (sRaise "BadCell" (fNm 1)) sNil)
  (sRet (fCall F_own_charted (fCons (fNm 0) (fCons (fNm 1) fNil))))))
def F_charted := fnR n_charted g_charted
def n__law_mixed : List Str := ["cell", "k", "number"]
def g__law_mixed : SF := (sSeq (sAsg (fOp gAdd (fOp gAdd (fOp gMod (fNm 0) (fOp gIxD (fLst (fCons (fC (.int 1000000007)) (fCons (fC (.int 998244353)) (fCons (fC (.int 2147483629)) (fCons (fC (.int 1000000009)) fNil))))) (fOp gMod (fNm 1) (fC (.int 4))))) (fOp gMul (fC (.int 7919)) (fNm 1))) (fC (.int 13))) (tNm 2))
  (sRet (fOp gMod (fOp gMul (fOp gMod (fOp gMul (fNm 2) (fNm 2)) (fC (.int 2147483647))) (fC (.int 48271))) (fC (.int 2147483647)))))
def F__law_mixed := fnR n__law_mixed g__law_mixed
def n__law_draw : List Str := ["cell", "k"]
def g__law_draw : SF := (sRetN (fDsp (pCons (fC (.str "left")) (fIf (fB (fOp gGe (fNm 0) (fOp gPow (fC (.int 10)) (fC (.int 18))))) (fNm 0) (fC (.int 0))) (pCons (fC (.str "cell")) (fNm 0) (pCons (fC (.str "turns")) (fOp gMul (fC (.int 1000)) (fNm 1)) pNil)))))
def F__law_draw := fnN n__law_draw g__law_draw
def n__law_digit : List Str := ["state", "below", "j", "found"]
def g__law_digit : SF := (sSeq (sIf (fB (fOp gEq (fIxN 0 (fC (.str "left"))) (fC (.int 0)))) (sFor (fRng (fCons (fC (.int 4)) fNil)) (tNm 2) (sSeq (sPut 0 (fC (.str "turns")) (fOp gAdd (fIxN 0 (fC (.str "turns"))) (fC (.int 1))))
  (sPut 0 (fC (.str "left")) (fOp gAdd (fOp gMul (fIxN 0 (fC (.str "left"))) (fC (.int 2147483647))) (fCall F__law_mixed (fCons (fIxN 0 (fC (.str "cell"))) (fCons (fIxN 0 (fC (.str "turns"))) fNil))))))) sNil)
  (sSeq (sAsg (fOp gMod (fIxN 0 (fC (.str "left"))) (fNm 1)) (tNm 3))
  (sSeq (sPut 0 (fC (.str "left")) (fOp gDiv (fIxN 0 (fC (.str "left"))) (fNm 1)))
  (sRet (fNm 3)))))
def F__law_digit := fnS n__law_digit g__law_digit
def n__law_common : List Str := ["numbers", "found", "number", "step", "one", "other"]
def g__law_common : SF := (sSeq (sAsg (fC (.int 0)) (tNm 1))
  (sSeq (sFor (fItems (fNm 0)) (tNm 2) (sSeq (sPar [4, 5] [false, false] (fCons (fBlt gAbs (fCons (fNm 1) fNil)) (fCons (fBlt gAbs (fCons (fNm 2) fNil)) fNil)))
  (sSeq (sFor (fRng (fCons (fC (.int 200)) fNil)) (tNm 3) (sIf (fB (fOp gNe (fNm 5) (fC (.int 0)))) (sPar [4, 5] [false, false] (fCons (fNm 5) (fCons (fOp gMod (fBlt gIntOf (fCons (fNm 4) fNil)) (fNm 5)) fNil))) sNil))
  (sAsg (fNm 4) (tNm 1)))))
  (sRet (fNm 1))))
def F__law_common := fnR n__law_common g__law_common
def n__law_lowest : List Str := ["numbers", "common", "sign", "number"]
def g__law_lowest : SF := (sSeq (sAsg (fCall F__law_common (fCons (fNm 0) fNil)) (tNm 1))
  (sSeq (sAsg (fIf (fB (fOp gGt (fIxN 0 (fUn gNeg (fC (.int 1)))) (fC (.int 0)))) (fC (.int 1)) (fUn gNeg (fC (.int 1)))) (tNm 2))
  (sRet (fBlt gTuple (fCons (fComp [3] (fItems (fNm 0)) (tNm 3) tYes' (fOp gDiv (fOp gMul (fNm 2) (fNm 3)) (fNm 1))) fNil)))))
def F__law_lowest := fnR n__law_lowest g__law_lowest
def n__law_chart : List Str := ["state", "most", "a", "b", "c", "d", "turn", "e", "f"]
def g__law_chart : SF := (sSeq (sAsg (fComp [6] (fRng (fCons (fC (.int 4)) fNil)) (tNm 6) tYes' (fOp gSub (fCallS F__law_digit 0 (fCons (fOp gAdd (fOp gMul (fC (.int 2)) (fNm 1)) (fC (.int 1))) fNil)) (fNm 1))) (tTp 4 (tsCons (tNm 2) (tsCons (tNm 3) (tsCons (tNm 4) (tsCons (tNm 5) tsNil))))))
  (sSeq (sIf (fB (fOp gEq (fOp gMul (fNm 2) (fNm 5)) (fOp gMul (fNm 3) (fNm 4)))) (sAsg (fTup (fCons (fC (.int 1)) (fCons (fCallS F__law_digit 0 (fCons (fC (.int 3)) fNil)) (fCons (fC (.int 0)) (fCons (fOp gAdd (fC (.int 1)) (fCallS F__law_digit 0 (fCons (fC (.int 2)) fNil))) fNil))))) (tTp 4 (tsCons (tNm 2) (tsCons (tNm 3) (tsCons (tNm 4) (tsCons (tNm 5) tsNil)))))) sNil)
  (sSeq (sPar [7, 8] [false, false] (fCons (fOp gSub (fCallS F__law_digit 0 (fCons (fC (.int 9)) fNil)) (fC (.int 4))) (fCons (fOp gSub (fCallS F__law_digit 0 (fCons (fC (.int 9)) fNil)) (fC (.int 4))) fNil)))
  (sRet (fCall F__law_lowest (fCons (fTup (fCons (fNm 2) (fCons (fNm 3) (fCons (fNm 4) (fCons (fNm 5) (fCons (fNm 7) (fCons (fNm 8) (fCons (fOp gAdd (fC (.int 1)) (fCallS F__law_digit 0 (fCons (fC (.int 3)) fNil))) fNil)))))))) fNil))))))
def F__law_chart := fnS n__law_chart g__law_chart
def n__law_chart_at : List Str := ["chart", "point", "a", "b", "c", "d", "e", "f", "below", "x", "y", "under"]
def g__law_chart_at : SF := (sSeq (sAsg (fNm 0) (tTp 7 (tsCons (tNm 2) (tsCons (tNm 3) (tsCons (tNm 4) (tsCons (tNm 5) (tsCons (tNm 6) (tsCons (tNm 7) (tsCons (tNm 8) tsNil)))))))))
  (sSeq (sAsg (fNm 1) (tTp 3 (tsCons (tNm 9) (tsCons (tNm 10) (tsCons (tNm 11) tsNil)))))
  (sRet (fCall F__law_lowest (fCons (fTup (fCons (fOp gAdd (fOp gAdd (fOp gMul (fNm 2) (fNm 9)) (fOp gMul (fNm 3) (fNm 10))) (fOp gMul (fNm 6) (fNm 11))) (fCons (fOp gAdd (fOp gAdd (fOp gMul (fNm 4) (fNm 9)) (fOp gMul (fNm 5) (fNm 10))) (fOp gMul (fNm 7) (fNm 11))) (fCons (fOp gMul (fNm 8) (fNm 11)) fNil)))) fNil)))))
def F__law_chart_at := fnR n__law_chart_at g__law_chart_at
def n__law_heard : List Str := ["call", "got", "error"]
def g__law_heard (r : R PyData) : SF := (sSeq (sOwn (fLst fNil) 1)
  (sSeq (sTry subE 3 (sExpr (fMth gApp 1 (fCons (fThkL r) fNil))) (("BadNumber", (some 2), (sRet (fTup (fCons (fC (.str "number")) (fCons (fXf eNames "value" (fNm 2)) fNil))))) :: (("BadCell", (some 2), (sRet (fTup (fCons (fC (.str "cell")) (fCons (fXf eNames "value" (fNm 2)) fNil))))) :: (("TooMany", (some 2), (sRet (fTup (fCons (fC (.str "many")) (fCons (fXf eNames "most" (fNm 2)) fNil))))) :: []))))
  (sRet (fNm 1))))
def F__law_heard : R PyData → R PyData := fnL n__law_heard g__law_heard
def n__law_point : List Str := ["state"]
def g__law_point : SF := (sRet (fCall F__law_lowest (fCons (fTup (fCons (fOp gSub (fCallS F__law_digit 0 (fCons (fC (.int 41)) fNil)) (fC (.int 20))) (fCons (fOp gSub (fCallS F__law_digit 0 (fCons (fC (.int 41)) fNil)) (fC (.int 20))) (fCons (fOp gAdd (fC (.int 1)) (fCallS F__law_digit 0 (fCons (fC (.int 6)) fNil))) fNil)))) fNil)))
def F__law_point := fnS n__law_point g__law_point
def n__law_chart_by : List Str := ["images", "e", "f", "k", "a", "c", "m", "b", "d", "n", "low", "first", "second", "start", "numbers"]
def g__law_chart_by : SF := (sSeq (sAsg (fNm 0) (tTp 3 (tsCons (tTp 3 (tsCons (tNm 1) (tsCons (tNm 2) (tsCons (tNm 3) tsNil)))) (tsCons (tTp 3 (tsCons (tNm 4) (tsCons (tNm 5) (tsCons (tNm 6) tsNil)))) (tsCons (tTp 3 (tsCons (tNm 7) (tsCons (tNm 8) (tsCons (tNm 9) tsNil)))) tsNil)))))
  (sSeq (sAsg (fOp gMul (fOp gMul (fNm 3) (fNm 6)) (fNm 9)) (tNm 10))
  (sSeq (sPar [11, 12, 13] [false, false, false] (fCons (fOp gDiv (fNm 10) (fNm 6)) (fCons (fOp gDiv (fNm 10) (fNm 9)) (fCons (fOp gDiv (fNm 10) (fNm 3)) fNil))))
  (sSeq (sAsg (fTup (fCons (fOp gSub (fOp gMul (fNm 4) (fNm 11)) (fOp gMul (fNm 1) (fNm 13))) (fCons (fOp gSub (fOp gMul (fNm 7) (fNm 12)) (fOp gMul (fNm 1) (fNm 13))) (fCons (fOp gSub (fOp gMul (fNm 5) (fNm 11)) (fOp gMul (fNm 2) (fNm 13))) (fCons (fOp gSub (fOp gMul (fNm 8) (fNm 12)) (fOp gMul (fNm 2) (fNm 13))) fNil))))) (tNm 14))
  (sRet (fCall F__law_lowest (fCons (fOp gAdd (fNm 14) (fTup (fCons (fOp gMul (fNm 1) (fNm 13)) (fCons (fOp gMul (fNm 2) (fNm 13)) (fCons (fNm 10) fNil))))) fNil)))))))
def F__law_chart_by := fnR n__law_chart_by g__law_chart_by
def n__law_right : List Str := ["state", "one", "other", "point", "due", "points", "some", "back"]
def g__law_right : SF := (sSeq (sAsg (fTup (fCons (fCallS F__law_chart 0 (fCons (fC (.int 4)) fNil)) (fCons (fCallS F__law_chart 0 (fCons (fC (.int 4)) fNil)) (fCons (fCallS F__law_point 0 fNil) fNil)))) (tTp 3 (tsCons (tNm 1) (tsCons (tNm 2) (tsCons (tNm 3) tsNil)))))
  (sSeq (sIf (fOr (fB (fOp gIsNot (fCall F_need_chart (fCons (fNm 1) fNil)) (fC .none))) (fB (fOp gIsNot (fCall F_need_chart (fCons (fNm 2) fNil)) (fC .none)))) (sRet (fC (.bool false))) sNil)
  (sSeq (sAsg (fCall F__law_chart_at (fCons (fNm 1) (fCons (fNm 3) fNil))) (tNm 4))
  (sSeq (sIf (fB (fOp gNe (fBlt gRepr (fCons (fLst (fCons (fCall F_charted (fCons (fNm 1) (fCons (fNm 3) fNil))) (fCons (fCall F_charted (fCons (fNm 1) (fCons (fNm 3) fNil))) fNil))) fNil)) (fBlt gRepr (fCons (fLst (fCons (fNm 4) (fCons (fNm 4) fNil))) fNil)))) (sRet (fC (.bool false))) sNil)
  (sSeq (sOwn (fLst (fCons (fTup (fCons (fC (.int 0)) (fCons (fC (.int 0)) (fCons (fC (.int 1)) fNil)))) (fCons (fTup (fCons (fC (.int 1)) (fCons (fC (.int 0)) (fCons (fC (.int 1)) fNil)))) (fCons (fTup (fCons (fC (.int 0)) (fCons (fC (.int 1)) (fCons (fC (.int 1)) fNil)))) fNil)))) 5)
  (sSeq (sAsg (fCall F__law_chart_by (fCons (fComp [6] (fItems (fNm 5)) (tNm 6) tYes' (fCall F__law_chart_at (fCons (fNm 2) (fCons (fCall F__law_chart_at (fCons (fNm 1) (fCons (fNm 6) fNil))) fNil)))) fNil)) (tNm 4))
  (sSeq (sIf (fB (fOp gNe (fBlt gRepr (fCons (fLst (fCons (fCall F_chart_then (fCons (fNm 1) (fCons (fNm 2) fNil))) (fCons (fCall F_chart_then (fCons (fNm 1) (fCons (fNm 2) fNil))) fNil))) fNil)) (fBlt gRepr (fCons (fLst (fCons (fNm 4) (fCons (fNm 4) fNil))) fNil)))) (sRet (fC (.bool false))) sNil)
  (sSeq (sAsg (fCall F_chart_back (fCons (fNm 1) fNil)) (tNm 7))
  (sSeq (sIf (fOr (fB (fOp gNe (fBlt gRepr (fCons (fCall F_chart_back (fCons (fNm 1) fNil)) fNil)) (fBlt gRepr (fCons (fNm 7) fNil)))) (fB (fOp gIsNot (fCall F_need_chart (fCons (fNm 7) fNil)) (fC .none)))) (sRet (fC (.bool false))) sNil)
  (sSeq (sFor (fItems (fOp gAdd (fNm 5) (fLst (fCons (fNm 3) fNil)))) (tNm 6) (sIf (fOr (fB (fOp gNe (fCall F__law_chart_at (fCons (fNm 7) (fCons (fCall F__law_chart_at (fCons (fNm 1) (fCons (fNm 6) fNil))) fNil))) (fNm 6))) (fB (fOp gNe (fCall F__law_chart_at (fCons (fNm 1) (fCons (fCall F__law_chart_at (fCons (fNm 7) (fCons (fNm 6) fNil))) fNil))) (fNm 6)))) (sRet (fC (.bool false))) sNil))
  (sRet (fAndV (fOp gEq (fCall F_chart_then (fCons (fNm 1) (fCons (fNm 7) fNil))) (fTup (fCons (fC (.int 1)) (fCons (fC (.int 0)) (fCons (fC (.int 0)) (fCons (fC (.int 1)) (fCons (fC (.int 0)) (fCons (fC (.int 0)) (fCons (fC (.int 1)) fNil))))))))) (fOp gEq (fCall F_chart_then (fCons (fNm 7) (fCons (fNm 1) fNil))) (fTup (fCons (fC (.int 1)) (fCons (fC (.int 0)) (fCons (fC (.int 0)) (fCons (fC (.int 1)) (fCons (fC (.int 0)) (fCons (fC (.int 0)) (fCons (fC (.int 1)) fNil)))))))))))))))))))))
def F__law_right := fnS n__law_right g__law_right
def n__law_lowered_right : List Str := ["state", "wide", "below", "far", "chart", "back"]
def g__law_lowered_right : SF := (sSeq (sAsg (fOp gMul (fOp gPow (fC (.int 10)) (fC (.int 6))) (fOp gAdd (fC (.int 1)) (fCallS F__law_digit 0 (fCons (fC (.int 9)) fNil)))) (tNm 1))
  (sSeq (sIf (fB (fOp gNe (fCall F_chart_back (fCons (fTup (fCons (fNm 1) (fCons (fC (.int 0)) (fCons (fC (.int 0)) (fCons (fNm 1) (fCons (fC (.int 0)) (fCons (fC (.int 0)) (fCons (fC (.int 1)) fNil)))))))) fNil)) (fTup (fCons (fC (.int 1)) (fCons (fC (.int 0)) (fCons (fC (.int 0)) (fCons (fC (.int 1)) (fCons (fC (.int 0)) (fCons (fC (.int 0)) (fCons (fNm 1) fNil)))))))))) (sRet (fC (.bool false))) sNil)
  (sSeq (sPar [2, 3] [false, false] (fCons (fOp gAdd (fOp gPow (fC (.int 10)) (fC (.int 6))) (fCallS F__law_digit 0 (fCons (fC (.int 9)) fNil))) (fCons (fCallS F__law_digit 0 (fCons (fC (.int 100)) fNil)) fNil)))
  (sSeq (sFor (fItems (fTup (fCons (fTup (fCons (fOp gMul (fC (.int 3)) (fNm 1)) (fCons (fC (.int 0)) (fCons (fC (.int 0)) (fCons (fOp gMul (fC (.int 3)) (fNm 1)) (fCons (fC (.int 1)) (fCons (fC (.int 0)) (fCons (fOp gPow (fC (.int 10)) (fC (.int 6))) fNil)))))))) (fCons (fTup (fCons (fC (.int 1)) (fCons (fC (.int 0)) (fCons (fC (.int 0)) (fCons (fC (.int 1)) (fCons (fNm 3) (fCons (fC (.int 1)) (fCons (fNm 2) fNil)))))))) (fCons (fTup (fCons (fC (.int 0)) (fCons (fNm 2) (fCons (fNm 2) (fCons (fC (.int 0)) (fCons (fC (.int 1)) (fCons (fNm 3) (fCons (fC (.int 1)) fNil)))))))) fNil))))) (tNm 4) (sSeq (sAsg (fCall F_chart_back (fCons (fNm 4) fNil)) (tNm 5))
  (sIf (fOr (fB (fOp gNe (fCall F_chart_then (fCons (fNm 4) (fCons (fNm 5) fNil))) (fTup (fCons (fC (.int 1)) (fCons (fC (.int 0)) (fCons (fC (.int 0)) (fCons (fC (.int 1)) (fCons (fC (.int 0)) (fCons (fC (.int 0)) (fCons (fC (.int 1)) fNil)))))))))) (fB (fOp gNe (fCall F_chart_then (fCons (fNm 5) (fCons (fNm 4) fNil))) (fTup (fCons (fC (.int 1)) (fCons (fC (.int 0)) (fCons (fC (.int 0)) (fCons (fC (.int 1)) (fCons (fC (.int 0)) (fCons (fC (.int 0)) (fCons (fC (.int 1)) fNil))))))))))) (sRet (fC (.bool false))) sNil)))
  (sRet (fC (.bool true)))))))
def F__law_lowered_right := fnS n__law_lowered_right g__law_lowered_right
def n__law_bounds_right : List Str := ["state", "most", "small", "wide", "whole", "over", "near", "at", "bad", "chart"]
def g__law_bounds_right : SF := (sSeq (sAsg (fTup (fCons (fOp gPow (fC (.int 10)) (fC (.int 12))) (fCons (fOp gAdd (fC (.int 1)) (fCallS F__law_digit 0 (fCons (fC (.int 3)) fNil))) fNil))) (tTp 2 (tsCons (tNm 1) (tsCons (tNm 2) tsNil))))
  (sSeq (sAsg (fTup (fCons (fTup (fCons (fNm 1) (fCons (fC (.int 0)) (fCons (fC (.int 0)) (fCons (fC (.int 1)) (fCons (fC (.int 0)) (fCons (fC (.int 0)) (fCons (fC (.int 1)) fNil)))))))) (fCons (fTup (fCons (fC (.int 1)) (fCons (fC (.int 0)) (fCons (fC (.int 0)) (fCons (fC (.int 1)) (fCons (fOp gSub (fC (.int 0)) (fNm 1)) (fCons (fNm 1) (fCons (fNm 2) fNil)))))))) fNil))) (tTp 2 (tsCons (tNm 3) (tsCons (tNm 4) tsNil))))
  (sSeq (sIf (fOr (fB (fOp gIsNot (fCall F_need_chart (fCons (fNm 3) fNil)) (fC .none))) (fB (fOp gNe (fLam [4] F__law_heard (fCall F_need_chart (fCons (fCall F__law_lowest (fCons (fNm 4) fNil)) fNil))) (fLst (fCons (fC .none) fNil))))) (sRet (fC (.bool false))) sNil)
  (sSeq (sAsg (fTup (fCons (fOp gAdd (fNm 1) (fC (.int 1))) (fCons (fC (.int 0)) (fCons (fC (.int 0)) (fCons (fC (.int 1)) (fCons (fC (.int 0)) (fCons (fC (.int 0)) (fCons (fC (.int 1)) fNil)))))))) (tNm 5))
  (sSeq (sIf (fB (fOp gNe (fLam [5] F__law_heard (fCall F_need_chart (fCons (fNm 5) fNil))) (fTup (fCons (fC (.str "number")) (fCons (fNm 5) fNil))))) (sRet (fC (.bool false))) sNil)
  (sSeq (sIf (fOr (fB (fOp gNe (fCall F_chart_then (fCons (fNm 3) (fCons (fTup (fCons (fC (.int 1)) (fCons (fC (.int 0)) (fCons (fC (.int 0)) (fCons (fC (.int 1)) (fCons (fC (.int 0)) (fCons (fC (.int 0)) (fCons (fC (.int 1)) fNil)))))))) fNil))) (fNm 3))) (fB (fOp gNe (fCall F_chart_back (fCons (fNm 3) fNil)) (fTup (fCons (fC (.int 1)) (fCons (fC (.int 0)) (fCons (fC (.int 0)) (fCons (fNm 1) (fCons (fC (.int 0)) (fCons (fC (.int 0)) (fCons (fNm 1) fNil))))))))))) (sRet (fC (.bool false))) sNil)
  (sSeq (sIf (fB (fOp gNe (fLam [3] F__law_heard (fCall F_chart_then (fCons (fNm 3) (fCons (fTup (fCons (fC (.int 2)) (fCons (fC (.int 0)) (fCons (fC (.int 0)) (fCons (fC (.int 1)) (fCons (fC (.int 0)) (fCons (fC (.int 0)) (fCons (fC (.int 1)) fNil)))))))) fNil)))) (fTup (fCons (fC (.str "many")) (fCons (fNm 1) fNil))))) (sRet (fC (.bool false))) sNil)
  (sSeq (sAsg (fTup (fCons (fC (.int 1)) (fCons (fC (.int 0)) (fCons (fC (.int 0)) (fCons (fC (.int 1)) (fCons (fNm 1) (fCons (fC (.int 0)) (fCons (fC (.int 1)) fNil)))))))) (tNm 6))
  (sSeq (sIf (fB (fOp gNe (fLam [2, 6] F__law_heard (fCall F_chart_then (fCons (fNm 6) (fCons (fTup (fCons (fC (.int 1)) (fCons (fC (.int 0)) (fCons (fC (.int 0)) (fCons (fC (.int 1)) (fCons (fNm 2) (fCons (fC (.int 0)) (fCons (fC (.int 1)) fNil)))))))) fNil)))) (fTup (fCons (fC (.str "many")) (fCons (fNm 1) fNil))))) (sRet (fC (.bool false))) sNil)
  (sSeq (sIf (fB (fOp gNe (fCall F_chart_then (fCons (fNm 6) (fCons (fTup (fCons (fC (.int 1)) (fCons (fC (.int 0)) (fCons (fC (.int 0)) (fCons (fC (.int 1)) (fCons (fOp gSub (fC (.int 0)) (fNm 2)) (fCons (fC (.int 0)) (fCons (fC (.int 1)) fNil)))))))) fNil))) (fTup (fCons (fC (.int 1)) (fCons (fC (.int 0)) (fCons (fC (.int 0)) (fCons (fC (.int 1)) (fCons (fOp gSub (fNm 1) (fNm 2)) (fCons (fC (.int 0)) (fCons (fC (.int 1)) fNil)))))))))) (sRet (fC (.bool false))) sNil)
  (sSeq (sIf (fB (fOp gNe (fLam [1] F__law_heard (fCall F_chart_back (fCons (fTup (fCons (fNm 1) (fCons (fC (.int 1)) (fCons (fC (.int 1)) (fCons (fNm 1) (fCons (fC (.int 0)) (fCons (fC (.int 0)) (fCons (fC (.int 1)) fNil)))))))) fNil))) (fTup (fCons (fC (.str "many")) (fCons (fNm 1) fNil))))) (sRet (fC (.bool false))) sNil)
  (sSeq (sFor (fRng (fCons (fC (.int 7)) fNil)) (tNm 7) (sFor (fItems (fTup (fCons (fOp gAdd (fNm 1) (fC (.int 1))) (fCons (fOp gSub (fOp gSub (fC (.int 0)) (fNm 1)) (fC (.int 1))) fNil)))) (tNm 8) (sSeq (sAsg (fOp gAdd (fOp gAdd (fSl (fTup (fCons (fC (.int 1)) (fCons (fC (.int 0)) (fCons (fC (.int 0)) (fCons (fC (.int 1)) (fCons (fC (.int 0)) (fCons (fC (.int 0)) (fCons (fC (.int 1)) fNil)))))))) oNo (oEx (fNm 7))) (fTup (fCons (fNm 8) fNil))) (fSl (fTup (fCons (fC (.int 1)) (fCons (fC (.int 0)) (fCons (fC (.int 0)) (fCons (fC (.int 1)) (fCons (fC (.int 0)) (fCons (fC (.int 0)) (fCons (fC (.int 1)) fNil)))))))) (oEx (fOp gAdd (fNm 7) (fC (.int 1)))) oNo)) (tNm 9))
  (sIf (fB (fOp gNe (fLam [9] F__law_heard (fCall F_need_chart (fCons (fNm 9) fNil))) (fTup (fCons (fC (.str "number")) (fCons (fNm 9) fNil))))) (sRet (fC (.bool false))) sNil))))
  (sRet (fCallS F__law_lowered_right 0 fNil))))))))))))))
def F__law_bounds_right := fnS n__law_bounds_right g__law_bounds_right
def n__law_refused : List Str := ["state", "good", "some", "bad", "due"]
def g__law_refused : SF := (sSeq (sAsg (fTup (fCons (fCallS F__law_chart 0 (fCons (fC (.int 3)) fNil)) (fCons (fLst (fCons (fC .none) (fCons (fTup fNil) (fCons (fLst (fCons (fC (.int 1)) (fCons (fC (.int 0)) (fCons (fC (.int 0)) (fCons (fC (.int 1)) (fCons (fC (.int 0)) (fCons (fC (.int 0)) (fCons (fC (.int 1)) fNil)))))))) (fCons (fTup (fCons (fC (.int 1)) (fCons (fC (.int 0)) (fCons (fC (.int 0)) (fCons (fC (.int 1)) (fCons (fC (.int 0)) (fCons (fC (.int 0)) fNil))))))) (fCons (fTup (fCons (fC (.int 1)) (fCons (fC (.int 0)) (fCons (fC (.int 0)) (fCons (fC (.int 1)) (fCons (fC (.int 0)) (fCons (fC (.int 0)) (fCons (fC (.int 0)) fNil)))))))) fNil)))))) fNil))) (tTp 2 (tsCons (tNm 1) (tsCons (tNm 2) tsNil))))
  (sSeq (sAsg (fOp gAdd (fNm 2) (fLst (fCons (fTup (fCons (fC (.int 2)) (fCons (fC (.int 0)) (fCons (fC (.int 0)) (fCons (fC (.int 2)) (fCons (fC (.int 0)) (fCons (fC (.int 0)) (fCons (fC (.int 2)) fNil)))))))) (fCons (fTup (fCons (fC (.int 1)) (fCons (fC (.int 2)) (fCons (fC (.int 2)) (fCons (fC (.int 4)) (fCons (fC (.int 0)) (fCons (fC (.int 0)) (fCons (fC (.int 1)) fNil)))))))) (fCons (fTup (fCons (fC (.int 1)) (fCons (fC (.int 0)) (fCons (fC (.int 0)) (fCons (fC (.int 1)) (fCons (fC (.int 0)) (fCons (fC (.int 0)) (fCons (fUn gNeg (fC (.int 1))) fNil)))))))) (fCons (fTup (fCons (fC (.int 1)) (fCons (fC (.int 0)) (fCons (fC (.int 0)) (fCons (fC (.bool true)) (fCons (fC (.int 0)) (fCons (fC (.int 0)) (fCons (fC (.int 1)) fNil)))))))) fNil)))))) (tNm 2))
  (sSeq (sAsg (fOp gAdd (fNm 2) (fLst (fCons (fTup (fCons (fC (.str "1")) (fCons (fC (.int 0)) (fCons (fC (.int 0)) (fCons (fC (.int 1)) (fCons (fC (.int 0)) (fCons (fC (.int 0)) (fCons (fC (.int 1)) fNil)))))))) (fCons (fTup (fCons (fC (.int 0)) (fCons (fC (.int 0)) (fCons (fC (.int 0)) (fCons (fC (.int 0)) (fCons (fC (.int 1)) (fCons (fC (.int 1)) (fCons (fC (.int 1)) fNil)))))))) (fCons (fTup (fCons (fC (.int 1)) (fCons (fC (.int 0)) (fCons (fC (.int 0)) (fCons (fC (.int 1)) (fCons (fC .none) (fCons (fC (.int 0)) (fCons (fC (.int 1)) fNil)))))))) (fCons (fOp gAdd (fNm 1) (fTup (fCons (fC (.int 1)) fNil))) (fCons (fC (.str "chart")) fNil))))))) (tNm 2))
  (sSeq (sFor (fItems (fNm 2)) (tNm 3) (sSeq (sAsg (fTup (fCons (fC (.str "number")) (fCons (fNm 3) fNil))) (tNm 4))
  (sSeq (sIf (fOr (fB (fOp gNe (fLam [3] F__law_heard (fCall F_need_chart (fCons (fNm 3) fNil))) (fNm 4))) (fB (fOp gNe (fLamX [3] 5 F__law_heard (fCall F_chart_back (fCons (fNm 3) fNil))) (fNm 4)))) (sRet (fC (.bool false))) sNil)
  (sSeq (sIf (fOr (fB (fOp gNe (fLam [3] F__law_heard (fCall F_chart_then (fCons (fNm 3) (fCons (fC .none) fNil)))) (fNm 4))) (fB (fOp gNe (fLamX [1, 3] 5 F__law_heard (fCall F_chart_then (fCons (fNm 1) (fCons (fNm 3) fNil)))) (fNm 4)))) (sRet (fC (.bool false))) sNil)
  (sIf (fB (fOp gNe (fLam [3] F__law_heard (fCall F_charted (fCons (fNm 3) (fCons (fC .none) fNil)))) (fNm 4))) (sRet (fC (.bool false))) sNil)))))
  (sSeq (sFor (fItems (fTup (fCons (fC .none) (fCons (fTup (fCons (fC (.int 0)) (fCons (fC (.int 0)) fNil))) (fCons (fTup (fCons (fC (.int 0)) (fCons (fC (.int 0)) (fCons (fC (.int 0)) fNil)))) (fCons (fTup (fCons (fC (.int 1)) (fCons (fC (.int 1)) (fCons (fUn gNeg (fC (.int 1))) fNil)))) (fCons (fTup (fCons (fC (.int 2)) (fCons (fC (.int 4)) (fCons (fC (.int 2)) fNil)))) (fCons (fLst (fCons (fC (.int 0)) (fCons (fC (.int 0)) (fCons (fC (.int 1)) fNil)))) (fCons (fTup (fCons (fC (.int 0)) (fCons (fC (.int 0)) (fCons (fC (.bool true)) fNil)))) (fCons (fTup (fCons (fOp gAdd (fOp gPow (fC (.int 10)) (fC (.int 12))) (fC (.int 1))) (fCons (fC (.int 0)) (fCons (fC (.int 1)) fNil)))) (fCons (fTup (fCons (fC (.str "0")) (fCons (fC (.int 0)) (fCons (fC (.int 1)) fNil)))) fNil))))))))))) (tNm 3) (sIf (fB (fOp gNe (fLam [1, 3] F__law_heard (fCall F_charted (fCons (fNm 1) (fCons (fNm 3) fNil)))) (fTup (fCons (fC (.str "cell")) (fCons (fNm 3) fNil))))) (sRet (fC (.bool false))) sNil))
  (sRet (fOp gEq (fCall F_charted (fCons (fTup (fCons (fC (.int 1)) (fCons (fC (.int 0)) (fCons (fC (.int 0)) (fCons (fC (.int 1)) (fCons (fC (.int 0)) (fCons (fC (.int 0)) (fCons (fC (.int 1)) fNil)))))))) (fCons (fTup (fCons (fOp gPow (fC (.int 10)) (fC (.int 12))) (fCons (fOp gSub (fC (.int 0)) (fOp gPow (fC (.int 10)) (fC (.int 12)))) (fCons (fC (.int 1)) fNil)))) fNil))) (fTup (fCons (fOp gPow (fC (.int 10)) (fC (.int 12))) (fCons (fOp gSub (fC (.int 0)) (fOp gPow (fC (.int 10)) (fC (.int 12)))) (fCons (fC (.int 1)) fNil)))))))))))
def F__law_refused := fnS n__law_refused g__law_refused
def n_law : List Str := ["script", "turn", "cell", "state", "again"]
def g_law : SF := (sSeq (sFor (fEnum2 (fCons (fSl (fIf (fB (fOp gNe (fNm 0) (fLst fNil))) (fNm 0) (fLst (fCons (fC (.int 0)) fNil))) oNo (oEx (fC (.int 3)))) fNil)) (tTp 2 (tsCons (tNm 1) (tsCons (tNm 2) tsNil))) (sSeq (sOwn (fCall F__law_draw (fCons (fNm 2) (fCons (fNm 1) fNil))) 3)
  (sSeq (sFor (fRng (fCons (fC (.int 4)) fNil)) (tNm 4) (sIf (fNot (fB (fCallS F__law_right 3 fNil))) (sRet (fC (.bool false))) sNil))
  (sIf (fOr (fNot (fB (fCallS F__law_bounds_right 3 fNil))) (fNot (fB (fCallS F__law_refused 3 fNil)))) (sRet (fC (.bool false))) sNil))))
  (sRet (fC (.bool true))))
def F_law := fnR n_law g_law
/-! ### what is known of the module -/
structure Fx (K : PySem.W.Frag) (mg : Str → Option Value) (base : Heap) (T : YT) (cls : Clss) (ad : Str → Addr) : Prop where
  n_isinstance : mg "isinstance" = none
  n_int : mg "int" = none
  n_bool : mg "bool" = none
  n_tuple : mg "tuple" = none
  n_len : mg "len" = none
  n_all : mg "all" = none
  n_range : mg "range" = none
  n_abs : mg "abs" = none
  n_repr : mg "repr" = none
  n_enumerate : mg "enumerate" = none
  i_gcd : mg "gcd" = some (.builtin "math.gcd")
  g_MOST : ∃ t, mg "MOST" = some (.int 1000000000000 t)
  d_is_whole : ∃ f fd, Fun K "is_whole" "is_whole" s_is_whole f fd ∧ mg "is_whole" = some (.ref f) ∧ Binds K fd ["thing", "least", "most"] []
  d_common_of : ∃ f fd, Fun K "common_of" "common_of" s_common_of f fd ∧ mg "common_of" = some (.ref f) ∧ Binds K fd ["numbers"] []
  d_is_chart : ∃ f fd, Fun K "is_chart" "is_chart" s_is_chart f fd ∧ mg "is_chart" = some (.ref f) ∧ Binds K fd ["thing"] []
  d_need_chart : ∃ f fd, Fun K "need_chart" "need_chart" s_need_chart f fd ∧ mg "need_chart" = some (.ref f) ∧ Binds K fd ["chart"] []
  d_lowest : ∃ f fd, Fun K "lowest" "lowest" s_lowest f fd ∧ mg "lowest" = some (.ref f) ∧ Binds K fd ["numbers"] []
  d_own_chart_then : ∃ f fd, Fun K "own_chart_then" "own_chart_then" s_own_chart_then f fd ∧ mg "own_chart_then" = some (.ref f) ∧ Binds K fd ["one", "other"] []
  d_own_chart_back : ∃ f fd, Fun K "own_chart_back" "own_chart_back" s_own_chart_back f fd ∧ mg "own_chart_back" = some (.ref f) ∧ Binds K fd ["chart"] []
  d_need_bounded : ∃ f fd, Fun K "need_bounded" "need_bounded" s_need_bounded f fd ∧ mg "need_bounded" = some (.ref f) ∧ Binds K fd ["chart"] []
  d_chart_then : ∃ f fd, Fun K "chart_then" "chart_then" s_chart_then f fd ∧ mg "chart_then" = some (.ref f) ∧ Binds K fd ["one", "other"] []
  d_chart_back : ∃ f fd, Fun K "chart_back" "chart_back" s_chart_back f fd ∧ mg "chart_back" = some (.ref f) ∧ Binds K fd ["chart"] []
  d_is_point : ∃ f fd, Fun K "is_point" "is_point" s_is_point f fd ∧ mg "is_point" = some (.ref f) ∧ Binds K fd ["thing"] []
  d_own_charted : ∃ f fd, Fun K "own_charted" "own_charted" s_own_charted f fd ∧ mg "own_charted" = some (.ref f) ∧ Binds K fd ["chart", "point"] []
  d_charted : ∃ f fd, Fun K "charted" "charted" s_charted f fd ∧ mg "charted" = some (.ref f) ∧ Binds K fd ["chart", "point"] []
  d__law_mixed : ∃ f fd, Fun K "_law_mixed" "_law_mixed" s__law_mixed f fd ∧ mg "_law_mixed" = some (.ref f) ∧ Binds K fd ["cell", "k"] []
  d__law_draw : ∃ f fd, Fun K "_law_draw" "_law_draw" s__law_draw f fd ∧ mg "_law_draw" = some (.ref f) ∧ Binds K fd ["cell", "k"] []
  d__law_digit : ∃ f fd, Fun K "_law_digit" "_law_digit" s__law_digit f fd ∧ mg "_law_digit" = some (.ref f) ∧ Binds K fd ["state", "below"] []
  d__law_common : ∃ f fd, Fun K "_law_common" "_law_common" s__law_common f fd ∧ mg "_law_common" = some (.ref f) ∧ Binds K fd ["numbers"] []
  d__law_lowest : ∃ f fd, Fun K "_law_lowest" "_law_lowest" s__law_lowest f fd ∧ mg "_law_lowest" = some (.ref f) ∧ Binds K fd ["numbers"] []
  d__law_chart : ∃ f fd, Fun K "_law_chart" "_law_chart" s__law_chart f fd ∧ mg "_law_chart" = some (.ref f) ∧ Binds K fd ["state", "most"] []
  d__law_chart_at : ∃ f fd, Fun K "_law_chart_at" "_law_chart_at" s__law_chart_at f fd ∧ mg "_law_chart_at" = some (.ref f) ∧ Binds K fd ["chart", "point"] []
  d__law_heard : ∃ f fd, Fun K "_law_heard" "_law_heard" s__law_heard f fd ∧ mg "_law_heard" = some (.ref f) ∧ Binds K fd ["call"] []
  d__law_point : ∃ f fd, Fun K "_law_point" "_law_point" s__law_point f fd ∧ mg "_law_point" = some (.ref f) ∧ Binds K fd ["state"] []
  d__law_chart_by : ∃ f fd, Fun K "_law_chart_by" "_law_chart_by" s__law_chart_by f fd ∧ mg "_law_chart_by" = some (.ref f) ∧ Binds K fd ["images"] []
  d__law_right : ∃ f fd, Fun K "_law_right" "_law_right" s__law_right f fd ∧ mg "_law_right" = some (.ref f) ∧ Binds K fd ["state"] []
  d__law_lowered_right : ∃ f fd, Fun K "_law_lowered_right" "_law_lowered_right" s__law_lowered_right f fd ∧ mg "_law_lowered_right" = some (.ref f) ∧ Binds K fd ["state"] []
  d__law_bounds_right : ∃ f fd, Fun K "_law_bounds_right" "_law_bounds_right" s__law_bounds_right f fd ∧ mg "_law_bounds_right" = some (.ref f) ∧ Binds K fd ["state"] []
  l__law_bounds_right : LamAt K mg base T "_law_bounds_right"
  d__law_refused : ∃ f fd, Fun K "_law_refused" "_law_refused" s__law_refused f fd ∧ mg "_law_refused" = some (.ref f) ∧ Binds K fd ["state"] []
  l__law_refused : LamAt K mg base T "_law_refused"
  d_law : ∃ f fd, Fun K "law" "law" s_law f fd ∧ mg "law" = some (.ref f) ∧ Binds K fd ["script"] []
  kw_chart_back : ∀ fd f, Fun K "chart_back" "chart_back" s_chart_back f fd → KwOnly fd ["chart"]
  kw_charted : ∀ fd f, Fun K "charted" "charted" s_charted f fd → KwOnly fd ["chart", "point"]
  kw_need_chart : ∀ fd f, Fun K "need_chart" "need_chart" s_need_chart f fd → KwOnly fd ["chart"]
  kw_chart_then : ∀ fd f, Fun K "chart_then" "chart_then" s_chart_then f fd → KwOnly fd ["one", "other"]
  c_BadCell : ErrF K mg cls "ValueError" "ValueError.__new__" "ValueError.__init__" tlVE "PatternError" "BadCell" (defArgs i_BadCell) (defBody i_BadCell) (defScope i_BadCell)
  b_BadCell : BaseN K mg "PatternError" "ValueError.__init__"
  c_BadNumber : ErrF K mg cls "ValueError" "ValueError.__new__" "ValueError.__init__" tlVE "PatternError" "BadNumber" (defArgs i_BadNumber) (defBody i_BadNumber) (defScope i_BadNumber)
  b_BadNumber : BaseN K mg "PatternError" "ValueError.__init__"
  c_TooMany : ErrF K mg cls "OverflowError" "OverflowError.__new__" "OverflowError.__init__" tlOE "OverflowError" "TooMany" (defArgs i_TooMany) (defBody i_TooMany) (defScope i_TooMany)
  b_TooMany : BaseN K mg "OverflowError" "OverflowError.__init__"
  m_PatternError : mg "PatternError" = some (.ref (ad "PatternError"))
  m_BadCell : mg "BadCell" = some (.ref (ad "BadCell"))
  m_BadNumber : mg "BadNumber" = some (.ref (ad "BadNumber"))
  m_TooMany : mg "TooMany" = some (.ref (ad "TooMany"))
  exm_BadNumber : ExmAt K mg cls subE "BadNumber"
  exm_BadCell : ExmAt K mg cls subE "BadCell"
  exm_TooMany : ExmAt K mg cls subE "TooMany"
  clo : ∀ c C, cls c = some C → clsOf K c = some C
  xf : ∀ c ∈ eNames, ∀ C, clsOf K c = some C → XfC K C ∧ PySem.W.findIn K (.ref C) (Y.fld c) = some none
section
variable {P : Program} {w : World} {K : PySem.W.Frag} {mg : Str → Option Value} {base : Heap} {T : YT} {cls : Clss} {ad : Str → Addr}
theorem Fx.cast {T2 : YT} (e : T2 = T) (h : Fx K mg base T cls ad) : Fx K mg base T2 cls ad := e ▸ h
theorem e_BadCell (h : Fx K mg base T cls ad) : ErrC P w K mg base 1 "BadCell" (clsGet cls "BadCell") ∧ cls "BadCell" = some (clsGet cls "BadCell") := by
  obtain ⟨C, fI, fd, dvs, z⟩ := h.c_BadCell
  have e := clsGet_eq z.cl
  rw [e]
  refine ⟨⟨⟨_, _, _, _, fI, fd, _, base_VE, z.oex, z.no, z.ini, z.ty, ?_, z.bnd⟩, z.mg⟩, z.cl⟩
  refine fnG_ofD (N := ["self", "value"]) z.fn ⟨rfl, rfl, rfl, by decide +kernel, rfl, by decide +kernel, by decide +kernel⟩ (fun vs H Q E hh => by obtain ⟨_, _, _, rfl, _⟩ := hh; rfl) (fun cdv A outer s H vs Q E _ hr hG hh => ?_)
  exact init_ps (f := "value") base_VE (baseN_name h.b_BadCell rfl) rfl ⟨_, rfl⟩ (Or.inl rfl) (Or.inl rfl) (by decide) (by decide) hh (by rfl) (by rfl) (by rfl) (by rfl) (by rfl) (by rfl)
theorem e_BadNumber (h : Fx K mg base T cls ad) : ErrC P w K mg base 1 "BadNumber" (clsGet cls "BadNumber") ∧ cls "BadNumber" = some (clsGet cls "BadNumber") := by
  obtain ⟨C, fI, fd, dvs, z⟩ := h.c_BadNumber
  have e := clsGet_eq z.cl
  rw [e]
  refine ⟨⟨⟨_, _, _, _, fI, fd, _, base_VE, z.oex, z.no, z.ini, z.ty, ?_, z.bnd⟩, z.mg⟩, z.cl⟩
  refine fnG_ofD (N := ["self", "value"]) z.fn ⟨rfl, rfl, rfl, by decide +kernel, rfl, by decide +kernel, by decide +kernel⟩ (fun vs H Q E hh => by obtain ⟨_, _, _, rfl, _⟩ := hh; rfl) (fun cdv A outer s H vs Q E _ hr hG hh => ?_)
  exact init_ps (f := "value") base_VE (baseN_name h.b_BadNumber rfl) rfl ⟨_, rfl⟩ (Or.inl rfl) (Or.inl rfl) (by decide) (by decide) hh (by rfl) (by rfl) (by rfl) (by rfl) (by rfl) (by rfl)
theorem e_TooMany (h : Fx K mg base T cls ad) : ErrC P w K mg base 1 "TooMany" (clsGet cls "TooMany") ∧ cls "TooMany" = some (clsGet cls "TooMany") := by
  obtain ⟨C, fI, fd, dvs, z⟩ := h.c_TooMany
  have e := clsGet_eq z.cl
  rw [e]
  refine ⟨⟨⟨_, _, _, _, fI, fd, _, base_OE, z.oex, z.no, z.ini, z.ty, ?_, z.bnd⟩, z.mg⟩, z.cl⟩
  refine fnG_ofD (N := ["self", "most"]) z.fn ⟨rfl, rfl, rfl, by decide +kernel, rfl, by decide +kernel, by decide +kernel⟩ (fun vs H Q E hh => by obtain ⟨_, _, _, rfl, _⟩ := hh; rfl) (fun cdv A outer s H vs Q E _ hr hG hh => ?_)
  exact init_ps (f := "most") base_OE (baseN_name h.b_TooMany rfl) rfl ⟨_, rfl⟩ (Or.inl rfl) (Or.inl rfl) (by decide) (by decide) hh (by rfl) (by rfl) (by rfl) (by rfl) (by rfl) (by rfl)
theorem S_is_whole : FnScope n_is_whole ["thing", "least", "most"] (defScope s_is_whole) := ⟨rfl, rfl, rfl, by decide +kernel, rfl, by decide +kernel, by decide +kernel⟩
theorem B_is_whole (h : Fx K mg base T cls ad) (f : Addr) (hm : mg "is_whole" = some (.ref f)) : BodyOk P w K mg base cls T 0 n_is_whole "is_whole" s_is_whole f g_is_whole := by
  intro cdv A outer s H E B ok hcd hT hr hG cx
  subst hT
  have nd := S_is_whole.nd
  exact (sb_one (ss_ret (ee_and (ee_isi h.n_isinstance h.n_int rfl (ee_nm 0)) (ee_and (ee_not (ee_isi h.n_isinstance h.n_bool rfl (ee_nm 0))) (ee_one (ee_chain (opd_le hr.units) (opd_le hr.units) (ee_nm 1) (ee_nm 0) (ee_nm 2)))))))
theorem c_is_whole (h : Fx K mg base T cls ad) : Callee P w K mg base 1 "is_whole" 3 (spF K T cls 3 F_is_whole) := by
  obtain ⟨f, fd, Fn, hm, hb⟩ := h.d_is_whole
  exact ⟨f, fd, _, fn_pure Fn S_is_whole rfl (B_is_whole h f hm), hm, Fn.kp, hb, rfl⟩
theorem S_common_of : FnScope n_common_of ["numbers"] (defScope s_common_of) := ⟨rfl, rfl, rfl, by decide +kernel, rfl, by decide +kernel, by decide +kernel⟩
theorem B_common_of (h : Fx K mg base T cls ad) (f : Addr) (hm : mg "common_of" = some (.ref f)) : BodyOk P w K mg base cls T 0 n_common_of "common_of" s_common_of f g_common_of := by
  intro cdv A outer s H E B ok hcd hT hr hG cx
  subst hT
  have nd := S_common_of.nd
  exact (sb_cons (ss_asg ee_int (tt_nm 1 nd))
  (sb_cons (ss_for cx (ei_seq (ee_nm 0)) (tt_nm 2 nd) (sb_one (ss_asg (ee_bltm bd_gcd h.i_gcd (ea_cons (ee_nm 1) (ea_cons (ee_nm 2) ea_nil))) (tt_nm 1 nd))))
  (sb_one (ss_ret (ee_nm 1)))))
theorem c_common_of (h : Fx K mg base T cls ad) : Callee P w K mg base 1 "common_of" 1 (spF K T cls 1 F_common_of) := by
  obtain ⟨f, fd, Fn, hm, hb⟩ := h.d_common_of
  exact ⟨f, fd, _, fn_pure Fn S_common_of rfl (B_common_of h f hm), hm, Fn.kp, hb, rfl⟩
theorem S_is_chart : FnScope n_is_chart ["thing"] (defScope s_is_chart) := ⟨rfl, rfl, rfl, by decide +kernel, rfl, by decide +kernel, by decide +kernel⟩
theorem B_is_chart (h : Fx K mg base T cls ad) (f : Addr) (hm : mg "is_chart" = some (.ref f)) : BodyOk P w K mg base cls T 1 n_is_chart "is_chart" s_is_chart f g_is_chart := by
  intro cdv A outer s H E B ok hcd hT hr hG cx
  subst hT
  have nd := S_is_chart.nd
  exact (sb_cons (ss_if (ew_t (ew_or (et_not (et_val (ee_isi h.n_isinstance h.n_tuple rfl (ee_nm 0)))) (ew_or (et_cmp (opd_ne hr.units) (ee_bltN 0 bd_len h.n_len rfl) ee_int) (ew_or1 (et_not (et_val (ee_blt (bd_all cx.toCtxE.calm) h.n_all rfl (ea_cons (EN.ee (en_comp (own := [("part", 1)]) cx.toCtxE nd (blk_of (N := n_is_chart) (sc := defScope s_is_chart) (by decide +kernel)) (ei_seq (ee_nm 0)) (fun _ _ _ _ _ => (tt_nm 1 nd)) (fun _ _ _ _ _ => ec_nil) (fun _ _ _ _ _ => (ee_call (CtxE.blk cx.toCtxE) (c_is_whole h) hr (ea_cons (ee_nm 1) (ea_cons (ee_op opd_sub ee_int (ee_glob (CtxE.blk cx.toCtxE).tabs.2 (glc h.g_MOST))) (ea_cons (ee_glob (CtxE.blk cx.toCtxE).tabs.2 (glc h.g_MOST)) ea_nil))))))) ea_nil)))))))) (sb_one (ss_ret ee_bl)) sb_nil)
  (sb_one (ss_ret (ee_and (ee_cmp (opd_ge hr.units) (ee_ixn 0 hr.units ee_int) ee_int) (ee_and (ee_cmp (opd_ne hr.units) (ee_op opd_mul (ee_ixn 0 hr.units ee_int) (ee_ixn 0 hr.units ee_int)) (ee_op opd_mul (ee_ixn 0 hr.units ee_int) (ee_ixn 0 hr.units ee_int))) (ee_one (ee_cmp (opd_eq hr.units) (ee_call cx.toCtxE (c_common_of h) hr (ea_cons (ee_nm 0) ea_nil)) ee_int)))))))
theorem c_is_chart (h : Fx K mg base T cls ad) : Callee P w K mg base 2 "is_chart" 1 (spF K T cls 1 F_is_chart) := by
  obtain ⟨f, fd, Fn, hm, hb⟩ := h.d_is_chart
  exact ⟨f, fd, _, fn_pure Fn S_is_chart rfl (B_is_chart h f hm), hm, Fn.kp, hb, rfl⟩
theorem S_need_chart : FnScope n_need_chart ["chart"] (defScope s_need_chart) := ⟨rfl, rfl, rfl, by decide +kernel, rfl, by decide +kernel, by decide +kernel⟩
theorem B_need_chart (h : Fx K mg base T cls ad) (f : Addr) (hm : mg "need_chart" = some (.ref f)) : BodyOk P w K mg base cls T 2 n_need_chart "need_chart" s_need_chart f g_need_chart := by
  intro cdv A outer s H E B ok hcd hT hr hG cx
  subst hT
  have nd := S_need_chart.nd
  exact (sb_one (ss_if (et_not (et_val (ee_call cx.toCtxE (c_is_chart h) hr (ea_cons (ee_nm 0) ea_nil)))) (sb_one (ss_raise cx.toCtxE (e_BadNumber h).1 (e_BadNumber (P := P) (w := w) h).2 hr (ee_nm 0))) sb_nil))
theorem c_need_chart (h : Fx K mg base T cls ad) : Callee P w K mg base 3 "need_chart" 1 (spF K T cls 1 F_need_chart) := by
  obtain ⟨f, fd, Fn, hm, hb⟩ := h.d_need_chart
  exact ⟨f, fd, _, fn_pure Fn S_need_chart rfl (B_need_chart h f hm), hm, Fn.kp, hb, rfl⟩
theorem k_need_chart (h : Fx K mg base T cls ad) : CalleeK P w K mg base 3 "need_chart" ["chart"] (spF K T cls 1 F_need_chart) := by
  obtain ⟨f, fd, Fn, hm, hb⟩ := h.d_need_chart
  exact ⟨f, fd, fn_pure Fn S_need_chart rfl (B_need_chart h f hm), hm, Fn.kp, h.kw_need_chart fd f Fn⟩
theorem S_lowest : FnScope n_lowest ["numbers"] (defScope s_lowest) := ⟨rfl, rfl, rfl, by decide +kernel, rfl, by decide +kernel, by decide +kernel⟩
theorem B_lowest (h : Fx K mg base T cls ad) (f : Addr) (hm : mg "lowest" = some (.ref f)) : BodyOk P w K mg base cls T 1 n_lowest "lowest" s_lowest f g_lowest := by
  intro cdv A outer s H E B ok hcd hT hr hG cx
  subst hT
  have nd := S_lowest.nd
  exact (sb_cons (ss_asg (ee_if (et_cmp (opd_gt hr.units) (ee_ixn 0 hr.units ee_int) ee_int) (ee_call cx.toCtxE (c_common_of h) hr (ea_cons (ee_nm 0) ea_nil)) (ee_op opd_sub ee_int (ee_call cx.toCtxE (c_common_of h) hr (ea_cons (ee_nm 0) ea_nil)))) (tt_nm 1 nd))
  (sb_one (ss_ret (ee_blty bd_tuple h.n_tuple rfl (ea_cons (EN.ee (en_comp (own := [("number", 2)]) cx.toCtxE nd (blk_of (N := n_lowest) (sc := defScope s_lowest) (by decide +kernel)) (ei_seq (ee_nm 0)) (fun _ _ _ _ _ => (tt_nm 2 nd)) (fun _ _ _ _ _ => ec_nil) (fun _ _ _ _ _ => (ee_op opd_div (ee_nm 2) (ee_nm 1))))) ea_nil)))))
theorem c_lowest (h : Fx K mg base T cls ad) : Callee P w K mg base 2 "lowest" 1 (spF K T cls 1 F_lowest) := by
  obtain ⟨f, fd, Fn, hm, hb⟩ := h.d_lowest
  exact ⟨f, fd, _, fn_pure Fn S_lowest rfl (B_lowest h f hm), hm, Fn.kp, hb, rfl⟩
theorem S_own_chart_then : FnScope n_own_chart_then ["one", "other"] (defScope s_own_chart_then) := ⟨rfl, rfl, rfl, by decide +kernel, rfl, by decide +kernel, by decide +kernel⟩
theorem B_own_chart_then (h : Fx K mg base T cls ad) (f : Addr) (hm : mg "own_chart_then" = some (.ref f)) : BodyOk P w K mg base cls T 2 n_own_chart_then "own_chart_then" s_own_chart_then f g_own_chart_then := by
  intro cdv A outer s H E B ok hcd hT hr hG cx
  subst hT
  have nd := S_own_chart_then.nd
  exact (sb_cons (ss_asg (ee_nm 0) (tt_tup cx.toCtxE.calm (tts_cons (tt_nm 2 nd) (tts_cons (tt_nm 3 nd) (tts_cons (tt_nm 4 nd) (tts_cons (tt_nm 5 nd) (tts_cons (tt_nm 6 nd) (tts_cons (tt_nm 7 nd) (tts_cons (tt_nm 8 nd) tts_nil)))))))))
  (sb_cons (ss_asg (ee_nm 1) (tt_tup cx.toCtxE.calm (tts_cons (tt_nm 9 nd) (tts_cons (tt_nm 10 nd) (tts_cons (tt_nm 11 nd) (tts_cons (tt_nm 12 nd) (tts_cons (tt_nm 13 nd) (tts_cons (tt_nm 14 nd) (tts_cons (tt_nm 15 nd) tts_nil)))))))))
  (sb_cons (ss_asg (ee_tup (ea_cons (ee_op opd_add (ee_op opd_mul (ee_nm 9) (ee_nm 2)) (ee_op opd_mul (ee_nm 10) (ee_nm 4))) (ea_cons (ee_op opd_add (ee_op opd_mul (ee_nm 9) (ee_nm 3)) (ee_op opd_mul (ee_nm 10) (ee_nm 5))) (ea_cons (ee_op opd_add (ee_op opd_mul (ee_nm 11) (ee_nm 2)) (ee_op opd_mul (ee_nm 12) (ee_nm 4))) (ea_cons (ee_op opd_add (ee_op opd_mul (ee_nm 11) (ee_nm 3)) (ee_op opd_mul (ee_nm 12) (ee_nm 5))) ea_nil))))) (tt_nm 16 nd))
  (sb_one (ss_ret (ee_call cx.toCtxE (c_lowest h) hr (ea_cons (ee_tupS (eas_star (ee_nm 16) (eas_end (ea_cons (ee_op opd_add (ee_op opd_add (ee_op opd_mul (ee_nm 9) (ee_nm 6)) (ee_op opd_mul (ee_nm 10) (ee_nm 7))) (ee_op opd_mul (ee_nm 8) (ee_nm 13))) (ea_cons (ee_op opd_add (ee_op opd_add (ee_op opd_mul (ee_nm 11) (ee_nm 6)) (ee_op opd_mul (ee_nm 12) (ee_nm 7))) (ee_op opd_mul (ee_nm 8) (ee_nm 14))) (ea_cons (ee_op opd_mul (ee_nm 8) (ee_nm 15)) ea_nil)))))) ea_nil)))))))
theorem c_own_chart_then (h : Fx K mg base T cls ad) : Callee P w K mg base 3 "own_chart_then" 2 (spF K T cls 2 F_own_chart_then) := by
  obtain ⟨f, fd, Fn, hm, hb⟩ := h.d_own_chart_then
  exact ⟨f, fd, _, fn_pure Fn S_own_chart_then rfl (B_own_chart_then h f hm), hm, Fn.kp, hb, rfl⟩
theorem S_own_chart_back : FnScope n_own_chart_back ["chart"] (defScope s_own_chart_back) := ⟨rfl, rfl, rfl, by decide +kernel, rfl, by decide +kernel, by decide +kernel⟩
theorem B_own_chart_back (h : Fx K mg base T cls ad) (f : Addr) (hm : mg "own_chart_back" = some (.ref f)) : BodyOk P w K mg base cls T 2 n_own_chart_back "own_chart_back" s_own_chart_back f g_own_chart_back := by
  intro cdv A outer s H E B ok hcd hT hr hG cx
  subst hT
  have nd := S_own_chart_back.nd
  exact (sb_cons (ss_asg (ee_nm 0) (tt_tup cx.toCtxE.calm (tts_cons (tt_nm 1 nd) (tts_cons (tt_nm 2 nd) (tts_cons (tt_nm 3 nd) (tts_cons (tt_nm 4 nd) (tts_cons (tt_nm 5 nd) (tts_cons (tt_nm 6 nd) (tts_cons (tt_nm 7 nd) tts_nil)))))))))
  (sb_one (ss_ret (ee_call cx.toCtxE (c_lowest h) hr (ea_cons (ee_tup (ea_cons (ee_op opd_mul (ee_nm 4) (ee_nm 7)) (ea_cons (ee_op opd_sub ee_int (ee_op opd_mul (ee_nm 2) (ee_nm 7))) (ea_cons (ee_op opd_sub ee_int (ee_op opd_mul (ee_nm 3) (ee_nm 7))) (ea_cons (ee_op opd_mul (ee_nm 1) (ee_nm 7)) (ea_cons (ee_op opd_sub (ee_op opd_mul (ee_nm 2) (ee_nm 6)) (ee_op opd_mul (ee_nm 4) (ee_nm 5))) (ea_cons (ee_op opd_sub (ee_op opd_mul (ee_nm 3) (ee_nm 5)) (ee_op opd_mul (ee_nm 1) (ee_nm 6))) (ea_cons (ee_op opd_sub (ee_op opd_mul (ee_nm 1) (ee_nm 4)) (ee_op opd_mul (ee_nm 2) (ee_nm 3))) ea_nil)))))))) ea_nil)))))
theorem c_own_chart_back (h : Fx K mg base T cls ad) : Callee P w K mg base 3 "own_chart_back" 1 (spF K T cls 1 F_own_chart_back) := by
  obtain ⟨f, fd, Fn, hm, hb⟩ := h.d_own_chart_back
  exact ⟨f, fd, _, fn_pure Fn S_own_chart_back rfl (B_own_chart_back h f hm), hm, Fn.kp, hb, rfl⟩
theorem S_need_bounded : FnScope n_need_bounded ["chart"] (defScope s_need_bounded) := ⟨rfl, rfl, rfl, by decide +kernel, rfl, by decide +kernel, by decide +kernel⟩
theorem B_need_bounded (h : Fx K mg base T cls ad) (f : Addr) (hm : mg "need_bounded" = some (.ref f)) : BodyOk P w K mg base cls T 2 n_need_bounded "need_bounded" s_need_bounded f g_need_bounded := by
  intro cdv A outer s H E B ok hcd hT hr hG cx
  subst hT
  have nd := S_need_bounded.nd
  exact (sb_cons (ss_if (et_not (et_val (ee_call cx.toCtxE (c_is_chart h) hr (ea_cons (ee_nm 0) ea_nil)))) (sb_one (ss_raise cx.toCtxE (e_TooMany h).1 (e_TooMany (P := P) (w := w) h).2 hr (ee_glob cx.toCtxE.tabs.2 (glc h.g_MOST)))) sb_nil)
  (sb_one (ss_ret (ee_nm 0))))
theorem c_need_bounded (h : Fx K mg base T cls ad) : Callee P w K mg base 3 "need_bounded" 1 (spF K T cls 1 F_need_bounded) := by
  obtain ⟨f, fd, Fn, hm, hb⟩ := h.d_need_bounded
  exact ⟨f, fd, _, fn_pure Fn S_need_bounded rfl (B_need_bounded h f hm), hm, Fn.kp, hb, rfl⟩
theorem S_chart_then : FnScope n_chart_then ["one", "other"] (defScope s_chart_then) := ⟨rfl, rfl, rfl, by decide +kernel, rfl, by decide +kernel, by decide +kernel⟩
theorem B_chart_then (h : Fx K mg base T cls ad) (f : Addr) (hm : mg "chart_then" = some (.ref f)) : BodyOk P w K mg base cls T 3 n_chart_then "chart_then" s_chart_then f g_chart_then := by
  intro cdv A outer s H E B ok hcd hT hr hG cx
  subst hT
  have nd := S_chart_then.nd
  exact (sb_cons (ss_expr (ee_call cx.toCtxE (c_need_chart h) hr (ea_cons (ee_nm 0) ea_nil)))
  (sb_cons (ss_expr (ee_call cx.toCtxE (c_need_chart h) hr (ea_cons (ee_nm 1) ea_nil)))
  (sb_one (ss_ret (ee_call cx.toCtxE (c_need_bounded h) hr (ea_cons (ee_call cx.toCtxE (c_own_chart_then h) hr (ea_cons (ee_nm 0) (ea_cons (ee_nm 1) ea_nil))) ea_nil))))))
theorem c_chart_then (h : Fx K mg base T cls ad) : Callee P w K mg base 4 "chart_then" 2 (spF K T cls 2 F_chart_then) := by
  obtain ⟨f, fd, Fn, hm, hb⟩ := h.d_chart_then
  exact ⟨f, fd, _, fn_pure Fn S_chart_then rfl (B_chart_then h f hm), hm, Fn.kp, hb, rfl⟩
theorem k_chart_then (h : Fx K mg base T cls ad) : CalleeK P w K mg base 4 "chart_then" ["one", "other"] (spF K T cls 2 F_chart_then) := by
  obtain ⟨f, fd, Fn, hm, hb⟩ := h.d_chart_then
  exact ⟨f, fd, fn_pure Fn S_chart_then rfl (B_chart_then h f hm), hm, Fn.kp, h.kw_chart_then fd f Fn⟩
theorem S_chart_back : FnScope n_chart_back ["chart"] (defScope s_chart_back) := ⟨rfl, rfl, rfl, by decide +kernel, rfl, by decide +kernel, by decide +kernel⟩
theorem B_chart_back (h : Fx K mg base T cls ad) (f : Addr) (hm : mg "chart_back" = some (.ref f)) : BodyOk P w K mg base cls T 3 n_chart_back "chart_back" s_chart_back f g_chart_back := by
  intro cdv A outer s H E B ok hcd hT hr hG cx
  subst hT
  have nd := S_chart_back.nd
  exact (sb_cons (ss_expr (ee_call cx.toCtxE (c_need_chart h) hr (ea_cons (ee_nm 0) ea_nil)))
  (sb_one (ss_ret (ee_call cx.toCtxE (c_need_bounded h) hr (ea_cons (ee_call cx.toCtxE (c_own_chart_back h) hr (ea_cons (ee_nm 0) ea_nil)) ea_nil)))))
theorem c_chart_back (h : Fx K mg base T cls ad) : Callee P w K mg base 4 "chart_back" 1 (spF K T cls 1 F_chart_back) := by
  obtain ⟨f, fd, Fn, hm, hb⟩ := h.d_chart_back
  exact ⟨f, fd, _, fn_pure Fn S_chart_back rfl (B_chart_back h f hm), hm, Fn.kp, hb, rfl⟩
theorem k_chart_back (h : Fx K mg base T cls ad) : CalleeK P w K mg base 4 "chart_back" ["chart"] (spF K T cls 1 F_chart_back) := by
  obtain ⟨f, fd, Fn, hm, hb⟩ := h.d_chart_back
  exact ⟨f, fd, fn_pure Fn S_chart_back rfl (B_chart_back h f hm), hm, Fn.kp, h.kw_chart_back fd f Fn⟩
theorem S_is_point : FnScope n_is_point ["thing"] (defScope s_is_point) := ⟨rfl, rfl, rfl, by decide +kernel, rfl, by decide +kernel, by decide +kernel⟩
theorem B_is_point (h : Fx K mg base T cls ad) (f : Addr) (hm : mg "is_point" = some (.ref f)) : BodyOk P w K mg base cls T 1 n_is_point "is_point" s_is_point f g_is_point := by
  intro cdv A outer s H E B ok hcd hT hr hG cx
  subst hT
  have nd := S_is_point.nd
  exact (sb_cons (ss_if (ew_t (ew_or (et_not (et_val (ee_isi h.n_isinstance h.n_tuple rfl (ee_nm 0)))) (ew_or (et_cmp (opd_ne hr.units) (ee_bltN 0 bd_len h.n_len rfl) ee_int) (ew_or1 (et_not (et_val (ee_blt (bd_all cx.toCtxE.calm) h.n_all rfl (ea_cons (EN.ee (en_comp (own := [("part", 1)]) cx.toCtxE nd (blk_of (N := n_is_point) (sc := defScope s_is_point) (by decide +kernel)) (ei_seq (ee_nm 0)) (fun _ _ _ _ _ => (tt_nm 1 nd)) (fun _ _ _ _ _ => ec_nil) (fun _ _ _ _ _ => (ee_call (CtxE.blk cx.toCtxE) (c_is_whole h) hr (ea_cons (ee_nm 1) (ea_cons (ee_op opd_sub ee_int (ee_glob (CtxE.blk cx.toCtxE).tabs.2 (glc h.g_MOST))) (ea_cons (ee_glob (CtxE.blk cx.toCtxE).tabs.2 (glc h.g_MOST)) ea_nil))))))) ea_nil)))))))) (sb_one (ss_ret ee_bl)) sb_nil)
  (sb_one (ss_ret (ee_and (ee_cmp (opd_ge hr.units) (ee_ixn 0 hr.units ee_int) ee_int) (ee_one (ee_cmp (opd_eq hr.units) (ee_call cx.toCtxE (c_common_of h) hr (ea_cons (ee_nm 0) ea_nil)) ee_int))))))
theorem c_is_point (h : Fx K mg base T cls ad) : Callee P w K mg base 2 "is_point" 1 (spF K T cls 1 F_is_point) := by
  obtain ⟨f, fd, Fn, hm, hb⟩ := h.d_is_point
  exact ⟨f, fd, _, fn_pure Fn S_is_point rfl (B_is_point h f hm), hm, Fn.kp, hb, rfl⟩
theorem S_own_charted : FnScope n_own_charted ["chart", "point"] (defScope s_own_charted) := ⟨rfl, rfl, rfl, by decide +kernel, rfl, by decide +kernel, by decide +kernel⟩
theorem B_own_charted (h : Fx K mg base T cls ad) (f : Addr) (hm : mg "own_charted" = some (.ref f)) : BodyOk P w K mg base cls T 1 n_own_charted "own_charted" s_own_charted f g_own_charted := by
  intro cdv A outer s H E B ok hcd hT hr hG cx
  subst hT
  have nd := S_own_charted.nd
  exact (sb_cons (ss_asg (ee_nm 0) (tt_tup cx.toCtxE.calm (tts_cons (tt_nm 2 nd) (tts_cons (tt_nm 3 nd) (tts_cons (tt_nm 4 nd) (tts_cons (tt_nm 5 nd) (tts_cons (tt_nm 6 nd) (tts_cons (tt_nm 7 nd) (tts_cons (tt_nm 8 nd) tts_nil)))))))))
  (sb_cons (ss_asg (ee_nm 1) (tt_tup cx.toCtxE.calm (tts_cons (tt_nm 9 nd) (tts_cons (tt_nm 10 nd) (tts_cons (tt_nm 11 nd) tts_nil)))))
  (sb_cons (ss_asg (ee_tup (ea_cons (ee_op opd_add (ee_op opd_add (ee_op opd_mul (ee_nm 2) (ee_nm 9)) (ee_op opd_mul (ee_nm 3) (ee_nm 10))) (ee_op opd_mul (ee_nm 6) (ee_nm 11))) (ea_cons (ee_op opd_add (ee_op opd_add (ee_op opd_mul (ee_nm 4) (ee_nm 9)) (ee_op opd_mul (ee_nm 5) (ee_nm 10))) (ee_op opd_mul (ee_nm 7) (ee_nm 11))) (ea_cons (ee_op opd_mul (ee_nm 8) (ee_nm 11)) ea_nil)))) (tt_nm 12 nd))
  (sb_cons (ss_asg (ee_call cx.toCtxE (c_common_of h) hr (ea_cons (ee_nm 12) ea_nil)) (tt_nm 13 nd))
  (sb_one (ss_ret (ee_tup (ea_cons (ee_op opd_div (ee_ixn 12 hr.units ee_int) (ee_nm 13)) (ea_cons (ee_op opd_div (ee_ixn 12 hr.units ee_int) (ee_nm 13)) (ea_cons (ee_op opd_div (ee_ixn 12 hr.units ee_int) (ee_nm 13)) ea_nil))))))))))
theorem c_own_charted (h : Fx K mg base T cls ad) : Callee P w K mg base 2 "own_charted" 2 (spF K T cls 2 F_own_charted) := by
  obtain ⟨f, fd, Fn, hm, hb⟩ := h.d_own_charted
  exact ⟨f, fd, _, fn_pure Fn S_own_charted rfl (B_own_charted h f hm), hm, Fn.kp, hb, rfl⟩
theorem S_charted : FnScope n_charted ["chart", "point"] (defScope s_charted) := ⟨rfl, rfl, rfl, by decide +kernel, rfl, by decide +kernel, by decide +kernel⟩
theorem B_charted (h : Fx K mg base T cls ad) (f : Addr) (hm : mg "charted" = some (.ref f)) : BodyOk P w K mg base cls T 3 n_charted "charted" s_charted f g_charted := by
  intro cdv A outer s H E B ok hcd hT hr hG cx
  subst hT
  have nd := S_charted.nd
  exact (sb_cons (ss_expr (ee_call cx.toCtxE (c_need_chart h) hr (ea_cons (ee_nm 0) ea_nil)))
  (sb_cons (ss_if (et_not (et_val (ee_call cx.toCtxE (c_is_point h) hr (ea_cons (ee_nm 1) ea_nil)))) (sb_one (ss_raise cx.toCtxE (e_BadCell h).1 (e_BadCell (P := P) (w := w) h).2 hr (ee_nm 1))) sb_nil)
  (sb_one (ss_ret (ee_call cx.toCtxE (c_own_charted h) hr (ea_cons (ee_nm 0) (ea_cons (ee_nm 1) ea_nil)))))))
theorem c_charted (h : Fx K mg base T cls ad) : Callee P w K mg base 4 "charted" 2 (spF K T cls 2 F_charted) := by
  obtain ⟨f, fd, Fn, hm, hb⟩ := h.d_charted
  exact ⟨f, fd, _, fn_pure Fn S_charted rfl (B_charted h f hm), hm, Fn.kp, hb, rfl⟩
theorem k_charted (h : Fx K mg base T cls ad) : CalleeK P w K mg base 4 "charted" ["chart", "point"] (spF K T cls 2 F_charted) := by
  obtain ⟨f, fd, Fn, hm, hb⟩ := h.d_charted
  exact ⟨f, fd, fn_pure Fn S_charted rfl (B_charted h f hm), hm, Fn.kp, h.kw_charted fd f Fn⟩
theorem S__law_mixed : FnScope n__law_mixed ["cell", "k"] (defScope s__law_mixed) := ⟨rfl, rfl, rfl, by decide +kernel, rfl, by decide +kernel, by decide +kernel⟩
theorem B__law_mixed (h : Fx K mg base T cls ad) (f : Addr) (hm : mg "_law_mixed" = some (.ref f)) : BodyOk P w K mg base cls T 0 n__law_mixed "_law_mixed" s__law_mixed f g__law_mixed := by
  intro cdv A outer s H E B ok hcd hT hr hG cx
  subst hT
  have nd := S__law_mixed.nd
  exact (sb_cons (ss_asg (ee_op opd_add (ee_op opd_add (ee_op opd_mod (ee_nm 0) (ee_ixd hr.units (EN.ee (en_lst (ea_cons ee_int (ea_cons ee_int (ea_cons ee_int (ea_cons ee_int ea_nil)))))) (ee_op opd_mod (ee_nm 1) ee_int))) (ee_op opd_mul ee_int (ee_nm 1))) ee_int) (tt_nm 2 nd))
  (sb_one (ss_ret (ee_op opd_mod (ee_op opd_mul (ee_op opd_mod (ee_op opd_mul (ee_nm 2) (ee_nm 2)) ee_int) ee_int) ee_int))))
theorem c__law_mixed (h : Fx K mg base T cls ad) : Callee P w K mg base 1 "_law_mixed" 2 (spF K T cls 2 F__law_mixed) := by
  obtain ⟨f, fd, Fn, hm, hb⟩ := h.d__law_mixed
  exact ⟨f, fd, _, fn_pure Fn S__law_mixed rfl (B__law_mixed h f hm), hm, Fn.kp, hb, rfl⟩
theorem S__law_draw : FnScope n__law_draw ["cell", "k"] (defScope s__law_draw) := ⟨rfl, rfl, rfl, by decide +kernel, rfl, by decide +kernel, by decide +kernel⟩
theorem B__law_draw (h : Fx K mg base T cls ad) (f : Addr) (hm : mg "_law_draw" = some (.ref f)) : BodyOk P w K mg base cls T 0 n__law_draw "_law_draw" s__law_draw f g__law_draw := by
  intro cdv A outer s H E B ok hcd hT hr hG cx
  subst hT
  have nd := S__law_draw.nd
  exact (sb_one (ss_retN (en_dsp (ep_cons ee_str (ee_if (et_cmp (opd_ge hr.units) (ee_nm 0) (ee_op opd_pow ee_int ee_int)) (ee_nm 0) ee_int) (ep_cons ee_str (ee_nm 0) (ep_cons ee_str (ee_op opd_mul ee_int (ee_nm 1)) ep_nil))))))
theorem c__law_draw (h : Fx K mg base T cls ad) : Callee P w K mg base 1 "_law_draw" 2 (spN K T cls 2 F__law_draw) := by
  obtain ⟨f, fd, Fn, hm, hb⟩ := h.d__law_draw
  exact ⟨f, fd, _, fn_new Fn S__law_draw rfl (B__law_draw h f hm), hm, Fn.kp, hb, rfl⟩
theorem S__law_digit : FnScope n__law_digit ["state", "below"] (defScope s__law_digit) := ⟨rfl, rfl, rfl, by decide +kernel, rfl, by decide +kernel, by decide +kernel⟩
theorem B__law_digit (h : Fx K mg base T cls ad) (f : Addr) (hm : mg "_law_digit" = some (.ref f)) : BodyOk P w K mg base cls T 1 n__law_digit "_law_digit" s__law_digit f g__law_digit := by
  intro cdv A outer s H E B ok hcd hT hr hG cx
  subst hT
  have nd := S__law_digit.nd
  exact (sb_cons (ss_if (et_cmp (opd_eq hr.units) (ee_ixn 0 hr.units ee_str) ee_int) (sb_one (ss_for cx (ei_range1 h.n_range (ea_cons ee_int ea_nil)) (tt_nm 2 nd) (sb_cons (ss_put 0 hr.units ee_str (ee_op opd_add (ee_ixn 0 hr.units ee_str) ee_int))
  (sb_one (ss_put 0 hr.units ee_str (ee_op opd_add (ee_op opd_mul (ee_ixn 0 hr.units ee_str) ee_int) (ee_call cx.toCtxE (c__law_mixed h) hr (ea_cons (ee_ixn 0 hr.units ee_str) (ea_cons (ee_ixn 0 hr.units ee_str) ea_nil))))))))) sb_nil)
  (sb_cons (ss_asg (ee_op opd_mod (ee_ixn 0 hr.units ee_str) (ee_nm 1)) (tt_nm 3 nd))
  (sb_cons (ss_put 0 hr.units ee_str (ee_op opd_div (ee_ixn 0 hr.units ee_str) (ee_nm 1)))
  (sb_one (ss_ret (ee_nm 3))))))
theorem c__law_digit (h : Fx K mg base T cls ad) : Callee P w K mg base 2 "_law_digit" 2 (spS K T cls 1 F__law_digit) := by
  obtain ⟨f, fd, Fn, hm, hb⟩ := h.d__law_digit
  exact ⟨f, fd, _, fn_st Fn S__law_digit rfl (B__law_digit h f hm), hm, Fn.kp, hb, rfl⟩
theorem S__law_common : FnScope n__law_common ["numbers"] (defScope s__law_common) := ⟨rfl, rfl, rfl, by decide +kernel, rfl, by decide +kernel, by decide +kernel⟩
theorem B__law_common (h : Fx K mg base T cls ad) (f : Addr) (hm : mg "_law_common" = some (.ref f)) : BodyOk P w K mg base cls T 0 n__law_common "_law_common" s__law_common f g__law_common := by
  intro cdv A outer s H E B ok hcd hT hr hG cx
  subst hT
  have nd := S__law_common.nd
  exact (sb_cons (ss_asg ee_int (tt_nm 1 nd))
  (sb_cons (ss_for cx (ei_seq (ee_nm 0)) (tt_nm 2 nd) (sb_cons (ss_par 4 5 cx.toCtxE.calm nd (ek_sh (ee_blt bd_abs h.n_abs rfl (ea_cons (ee_nm 1) ea_nil)) (ek_sh (ee_blt bd_abs h.n_abs rfl (ea_cons (ee_nm 2) ea_nil)) ek_nil)))
  (sb_cons (ss_for cx (ei_range1 h.n_range (ea_cons ee_int ea_nil)) (tt_nm 3 nd) (sb_one (ss_if (et_cmp (opd_ne hr.units) (ee_nm 5) ee_int) (sb_one (ss_par 4 5 cx.toCtxE.calm nd (ek_sh (ee_nm 5) (ek_sh (ee_op opd_mod (ee_blty bd_int h.n_int rfl (ea_cons (ee_nm 4) ea_nil)) (ee_nm 5)) ek_nil)))) sb_nil)))
  (sb_one (ss_asg (ee_nm 4) (tt_nm 1 nd))))))
  (sb_one (ss_ret (ee_nm 1)))))
theorem c__law_common (h : Fx K mg base T cls ad) : Callee P w K mg base 1 "_law_common" 1 (spF K T cls 1 F__law_common) := by
  obtain ⟨f, fd, Fn, hm, hb⟩ := h.d__law_common
  exact ⟨f, fd, _, fn_pure Fn S__law_common rfl (B__law_common h f hm), hm, Fn.kp, hb, rfl⟩
theorem S__law_lowest : FnScope n__law_lowest ["numbers"] (defScope s__law_lowest) := ⟨rfl, rfl, rfl, by decide +kernel, rfl, by decide +kernel, by decide +kernel⟩
theorem B__law_lowest (h : Fx K mg base T cls ad) (f : Addr) (hm : mg "_law_lowest" = some (.ref f)) : BodyOk P w K mg base cls T 1 n__law_lowest "_law_lowest" s__law_lowest f g__law_lowest := by
  intro cdv A outer s H E B ok hcd hT hr hG cx
  subst hT
  have nd := S__law_lowest.nd
  exact (sb_cons (ss_asg (ee_call cx.toCtxE (c__law_common h) hr (ea_cons (ee_nm 0) ea_nil)) (tt_nm 1 nd))
  (sb_cons (ss_asg (ee_if (et_cmp (opd_gt hr.units) (ee_ixn 0 hr.units (ee_neg ee_int)) ee_int) ee_int (ee_neg ee_int)) (tt_nm 2 nd))
  (sb_one (ss_ret (ee_blty bd_tuple h.n_tuple rfl (ea_cons (EN.ee (en_comp (own := [("number", 3)]) cx.toCtxE nd (blk_of (N := n__law_lowest) (sc := defScope s__law_lowest) (by decide +kernel)) (ei_seq (ee_nm 0)) (fun _ _ _ _ _ => (tt_nm 3 nd)) (fun _ _ _ _ _ => ec_nil) (fun _ _ _ _ _ => (ee_op opd_div (ee_op opd_mul (ee_nm 2) (ee_nm 3)) (ee_nm 1))))) ea_nil))))))
theorem c__law_lowest (h : Fx K mg base T cls ad) : Callee P w K mg base 2 "_law_lowest" 1 (spF K T cls 1 F__law_lowest) := by
  obtain ⟨f, fd, Fn, hm, hb⟩ := h.d__law_lowest
  exact ⟨f, fd, _, fn_pure Fn S__law_lowest rfl (B__law_lowest h f hm), hm, Fn.kp, hb, rfl⟩
theorem S__law_chart : FnScope n__law_chart ["state", "most"] (defScope s__law_chart) := ⟨rfl, rfl, rfl, by decide +kernel, rfl, by decide +kernel, by decide +kernel⟩
theorem B__law_chart (h : Fx K mg base T cls ad) (f : Addr) (hm : mg "_law_chart" = some (.ref f)) : BodyOk P w K mg base cls T 2 n__law_chart "_law_chart" s__law_chart f g__law_chart := by
  intro cdv A outer s H E B ok hcd hT hr hG cx
  subst hT
  have nd := S__law_chart.nd
  exact (sb_cons (ss_asg (EN.ee (en_comp (own := [("turn", 6)]) cx.toCtxE nd (blk_of (N := n__law_chart) (sc := defScope s__law_chart) (by decide +kernel)) (ei_range1 h.n_range (ea_cons ee_int ea_nil)) (fun _ _ _ _ _ => (tt_nm 6 nd)) (fun _ _ _ _ _ => ec_nil) (fun _ _ _ _ _ => (ee_op opd_sub (ee_callS 0 (CtxE.blk cx.toCtxE) (c__law_digit h) hr (ea_cons (ee_op opd_add (ee_op opd_mul ee_int (ee_nm 1)) ee_int) ea_nil)) (ee_nm 1))))) (tt_tup cx.toCtxE.calm (tts_cons (tt_nm 2 nd) (tts_cons (tt_nm 3 nd) (tts_cons (tt_nm 4 nd) (tts_cons (tt_nm 5 nd) tts_nil))))))
  (sb_cons (ss_if (et_cmp (opd_eq hr.units) (ee_op opd_mul (ee_nm 2) (ee_nm 5)) (ee_op opd_mul (ee_nm 3) (ee_nm 4))) (sb_one (ss_asg (ee_tup (ea_cons ee_int (ea_cons (ee_callS 0 cx.toCtxE (c__law_digit h) hr (ea_cons ee_int ea_nil)) (ea_cons ee_int (ea_cons (ee_op opd_add ee_int (ee_callS 0 cx.toCtxE (c__law_digit h) hr (ea_cons ee_int ea_nil))) ea_nil))))) (tt_tup cx.toCtxE.calm (tts_cons (tt_nm 2 nd) (tts_cons (tt_nm 3 nd) (tts_cons (tt_nm 4 nd) (tts_cons (tt_nm 5 nd) tts_nil))))))) sb_nil)
  (sb_cons (ss_par 7 8 cx.toCtxE.calm nd (ek_sh (ee_op opd_sub (ee_callS 0 cx.toCtxE (c__law_digit h) hr (ea_cons ee_int ea_nil)) ee_int) (ek_sh (ee_op opd_sub (ee_callS 0 cx.toCtxE (c__law_digit h) hr (ea_cons ee_int ea_nil)) ee_int) ek_nil)))
  (sb_one (ss_ret (ee_call cx.toCtxE (c__law_lowest h) hr (ea_cons (ee_tup (ea_cons (ee_nm 2) (ea_cons (ee_nm 3) (ea_cons (ee_nm 4) (ea_cons (ee_nm 5) (ea_cons (ee_nm 7) (ea_cons (ee_nm 8) (ea_cons (ee_op opd_add ee_int (ee_callS 0 cx.toCtxE (c__law_digit h) hr (ea_cons ee_int ea_nil))) ea_nil)))))))) ea_nil)))))))
theorem c__law_chart (h : Fx K mg base T cls ad) : Callee P w K mg base 3 "_law_chart" 2 (spS K T cls 1 F__law_chart) := by
  obtain ⟨f, fd, Fn, hm, hb⟩ := h.d__law_chart
  exact ⟨f, fd, _, fn_st Fn S__law_chart rfl (B__law_chart h f hm), hm, Fn.kp, hb, rfl⟩
theorem S__law_chart_at : FnScope n__law_chart_at ["chart", "point"] (defScope s__law_chart_at) := ⟨rfl, rfl, rfl, by decide +kernel, rfl, by decide +kernel, by decide +kernel⟩
theorem B__law_chart_at (h : Fx K mg base T cls ad) (f : Addr) (hm : mg "_law_chart_at" = some (.ref f)) : BodyOk P w K mg base cls T 2 n__law_chart_at "_law_chart_at" s__law_chart_at f g__law_chart_at := by
  intro cdv A outer s H E B ok hcd hT hr hG cx
  subst hT
  have nd := S__law_chart_at.nd
  exact (sb_cons (ss_asg (ee_nm 0) (tt_tup cx.toCtxE.calm (tts_cons (tt_nm 2 nd) (tts_cons (tt_nm 3 nd) (tts_cons (tt_nm 4 nd) (tts_cons (tt_nm 5 nd) (tts_cons (tt_nm 6 nd) (tts_cons (tt_nm 7 nd) (tts_cons (tt_nm 8 nd) tts_nil)))))))))
  (sb_cons (ss_asg (ee_nm 1) (tt_tup cx.toCtxE.calm (tts_cons (tt_nm 9 nd) (tts_cons (tt_nm 10 nd) (tts_cons (tt_nm 11 nd) tts_nil)))))
  (sb_one (ss_ret (ee_call cx.toCtxE (c__law_lowest h) hr (ea_cons (ee_tup (ea_cons (ee_op opd_add (ee_op opd_add (ee_op opd_mul (ee_nm 2) (ee_nm 9)) (ee_op opd_mul (ee_nm 3) (ee_nm 10))) (ee_op opd_mul (ee_nm 6) (ee_nm 11))) (ea_cons (ee_op opd_add (ee_op opd_add (ee_op opd_mul (ee_nm 4) (ee_nm 9)) (ee_op opd_mul (ee_nm 5) (ee_nm 10))) (ee_op opd_mul (ee_nm 7) (ee_nm 11))) (ea_cons (ee_op opd_mul (ee_nm 8) (ee_nm 11)) ea_nil)))) ea_nil))))))
theorem c__law_chart_at (h : Fx K mg base T cls ad) : Callee P w K mg base 3 "_law_chart_at" 2 (spF K T cls 2 F__law_chart_at) := by
  obtain ⟨f, fd, Fn, hm, hb⟩ := h.d__law_chart_at
  exact ⟨f, fd, _, fn_pure Fn S__law_chart_at rfl (B__law_chart_at h f hm), hm, Fn.kp, hb, rfl⟩
theorem S__law_heard : FnScope n__law_heard ["call"] (defScope s__law_heard) := ⟨rfl, rfl, rfl, by decide +kernel, rfl, by decide +kernel, by decide +kernel⟩
theorem B__law_heard (h : Fx K mg base T cls ad) (f : Addr) : HeardOk P w K mg base cls T 0 n__law_heard "_law_heard" s__law_heard f "call" g__law_heard := by
  intro cdv A outer s H E B ok r hT hio hr hG cx thk
  subst hT
  have nd := S__law_heard.nd
  exact (sb_cons (ss_own 1 (en_lst ea_nil) nd)
  (sb_cons (ss_try cx nd (fun F pn xe okb sF cb => (sb_one (ss_expr (ee_mth 1 md_append PySem.F.plainAttrs_list PySem.F.slot_list_append PySem.F.type_list_append (ea_cons (Thk.tr thk hio sF cb.toCtxE) ea_nil))))) (.cons (names_of_glo (h.m_BadNumber)) (h.exm_BadNumber.at_ _ h.m_BadNumber) (n := (some "error")) (oi := (some 2)) ⟨rfl, rfl⟩ (fun a pn => (sb_one (ss_ret (ee_tup (ea_cons ee_str (ea_cons (ee_xf h.xf (ee_nm 2)) ea_nil)))))) (.cons (names_of_glo (h.m_BadCell)) (h.exm_BadCell.at_ _ h.m_BadCell) (n := (some "error")) (oi := (some 2)) ⟨rfl, rfl⟩ (fun a pn => (sb_one (ss_ret (ee_tup (ea_cons ee_str (ea_cons (ee_xf h.xf (ee_nm 2)) ea_nil)))))) (.cons (names_of_glo (h.m_TooMany)) (h.exm_TooMany.at_ _ h.m_TooMany) (n := (some "error")) (oi := (some 2)) ⟨rfl, rfl⟩ (fun a pn => (sb_one (ss_ret (ee_tup (ea_cons ee_str (ea_cons (ee_xf h.xf (ee_nm 2)) ea_nil)))))) .nil))) h.clo)
  (sb_one (ss_ret (ee_nm 1)))))
theorem c__law_heard (h : Fx K mg base T cls ad) : HCallee P w K mg base cls T 0 "_law_heard" F__law_heard := by
  obtain ⟨f, fd, Fn, hm, hb⟩ := h.d__law_heard
  exact ⟨f, fd, "call", n__law_heard, s__law_heard, g__law_heard, Fn, S__law_heard, rfl, Or.inl rfl, by decide, by decide, hm, Fn.kp, hb, B__law_heard h f, rfl⟩
theorem S__law_point : FnScope n__law_point ["state"] (defScope s__law_point) := ⟨rfl, rfl, rfl, by decide +kernel, rfl, by decide +kernel, by decide +kernel⟩
theorem B__law_point (h : Fx K mg base T cls ad) (f : Addr) (hm : mg "_law_point" = some (.ref f)) : BodyOk P w K mg base cls T 2 n__law_point "_law_point" s__law_point f g__law_point := by
  intro cdv A outer s H E B ok hcd hT hr hG cx
  subst hT
  have nd := S__law_point.nd
  exact (sb_one (ss_ret (ee_call cx.toCtxE (c__law_lowest h) hr (ea_cons (ee_tup (ea_cons (ee_op opd_sub (ee_callS 0 cx.toCtxE (c__law_digit h) hr (ea_cons ee_int ea_nil)) ee_int) (ea_cons (ee_op opd_sub (ee_callS 0 cx.toCtxE (c__law_digit h) hr (ea_cons ee_int ea_nil)) ee_int) (ea_cons (ee_op opd_add ee_int (ee_callS 0 cx.toCtxE (c__law_digit h) hr (ea_cons ee_int ea_nil))) ea_nil)))) ea_nil))))
theorem c__law_point (h : Fx K mg base T cls ad) : Callee P w K mg base 3 "_law_point" 1 (spS K T cls 0 F__law_point) := by
  obtain ⟨f, fd, Fn, hm, hb⟩ := h.d__law_point
  exact ⟨f, fd, _, fn_st Fn S__law_point rfl (B__law_point h f hm), hm, Fn.kp, hb, rfl⟩
theorem S__law_chart_by : FnScope n__law_chart_by ["images"] (defScope s__law_chart_by) := ⟨rfl, rfl, rfl, by decide +kernel, rfl, by decide +kernel, by decide +kernel⟩
theorem B__law_chart_by (h : Fx K mg base T cls ad) (f : Addr) (hm : mg "_law_chart_by" = some (.ref f)) : BodyOk P w K mg base cls T 2 n__law_chart_by "_law_chart_by" s__law_chart_by f g__law_chart_by := by
  intro cdv A outer s H E B ok hcd hT hr hG cx
  subst hT
  have nd := S__law_chart_by.nd
  exact (sb_cons (ss_asg (ee_nm 0) (tt_tup cx.toCtxE.calm (tts_cons (tt_tup cx.toCtxE.calm (tts_cons (tt_nm 1 nd) (tts_cons (tt_nm 2 nd) (tts_cons (tt_nm 3 nd) tts_nil)))) (tts_cons (tt_tup cx.toCtxE.calm (tts_cons (tt_nm 4 nd) (tts_cons (tt_nm 5 nd) (tts_cons (tt_nm 6 nd) tts_nil)))) (tts_cons (tt_tup cx.toCtxE.calm (tts_cons (tt_nm 7 nd) (tts_cons (tt_nm 8 nd) (tts_cons (tt_nm 9 nd) tts_nil)))) tts_nil)))))
  (sb_cons (ss_asg (ee_op opd_mul (ee_op opd_mul (ee_nm 3) (ee_nm 6)) (ee_nm 9)) (tt_nm 10 nd))
  (sb_cons (ss_par3 11 12 13 cx.toCtxE.calm nd (ek_sh (ee_op opd_div (ee_nm 10) (ee_nm 6)) (ek_sh (ee_op opd_div (ee_nm 10) (ee_nm 9)) (ek_sh (ee_op opd_div (ee_nm 10) (ee_nm 3)) ek_nil))))
  (sb_cons (ss_asg (ee_tup (ea_cons (ee_op opd_sub (ee_op opd_mul (ee_nm 4) (ee_nm 11)) (ee_op opd_mul (ee_nm 1) (ee_nm 13))) (ea_cons (ee_op opd_sub (ee_op opd_mul (ee_nm 7) (ee_nm 12)) (ee_op opd_mul (ee_nm 1) (ee_nm 13))) (ea_cons (ee_op opd_sub (ee_op opd_mul (ee_nm 5) (ee_nm 11)) (ee_op opd_mul (ee_nm 2) (ee_nm 13))) (ea_cons (ee_op opd_sub (ee_op opd_mul (ee_nm 8) (ee_nm 12)) (ee_op opd_mul (ee_nm 2) (ee_nm 13))) ea_nil))))) (tt_nm 14 nd))
  (sb_one (ss_ret (ee_call cx.toCtxE (c__law_lowest h) hr (ea_cons (ee_op opd_add (ee_nm 14) (ee_tup (ea_cons (ee_op opd_mul (ee_nm 1) (ee_nm 13)) (ea_cons (ee_op opd_mul (ee_nm 2) (ee_nm 13)) (ea_cons (ee_nm 10) ea_nil))))) ea_nil))))))))
theorem c__law_chart_by (h : Fx K mg base T cls ad) : Callee P w K mg base 3 "_law_chart_by" 1 (spF K T cls 1 F__law_chart_by) := by
  obtain ⟨f, fd, Fn, hm, hb⟩ := h.d__law_chart_by
  exact ⟨f, fd, _, fn_pure Fn S__law_chart_by rfl (B__law_chart_by h f hm), hm, Fn.kp, hb, rfl⟩
theorem S__law_right : FnScope n__law_right ["state"] (defScope s__law_right) := ⟨rfl, rfl, rfl, by decide +kernel, rfl, by decide +kernel, by decide +kernel⟩
theorem B__law_right (h : Fx K mg base T cls ad) (f : Addr) (hm : mg "_law_right" = some (.ref f)) : BodyOk P w K mg base cls T 4 n__law_right "_law_right" s__law_right f g__law_right := by
  intro cdv A outer s H E B ok hcd hT hr hG cx
  subst hT
  have nd := S__law_right.nd
  exact (sb_cons (ss_asg (ee_tup (ea_cons (ee_callS 0 cx.toCtxE (c__law_chart h) hr (ea_cons ee_int ea_nil)) (ea_cons (ee_callS 0 cx.toCtxE (c__law_chart h) hr (ea_cons ee_int ea_nil)) (ea_cons (ee_callS 0 cx.toCtxE (c__law_point h) hr ea_nil) ea_nil)))) (tt_tup cx.toCtxE.calm (tts_cons (tt_nm 1 nd) (tts_cons (tt_nm 2 nd) (tts_cons (tt_nm 3 nd) tts_nil)))))
  (sb_cons (ss_if (ew_t (ew_or (et_cmp opd_isnot (ee_call cx.toCtxE (c_need_chart h) hr (ea_cons (ee_nm 1) ea_nil)) ee_non) (ew_or1 (et_cmp opd_isnot (ee_callKw cx.toCtxE (k_need_chart h) hr (kw_cons (ee_nm 2) kw_nil) (hn := (fun _ _ h => fCons_len (fun _ _ h => by cases h; rfl) h))) ee_non)))) (sb_one (ss_ret ee_bl)) sb_nil)
  (sb_cons (ss_asg (ee_call cx.toCtxE (c__law_chart_at h) hr (ea_cons (ee_nm 1) (ea_cons (ee_nm 3) ea_nil))) (tt_nm 4 nd))
  (sb_cons (ss_if (et_cmp (opd_ne hr.units) (ee_blt (bd_repr cx.toCtxE.gd (room70 hr)) h.n_repr rfl (ea_cons (EN.ee (en_lst (ea_cons (ee_call cx.toCtxE (c_charted h) hr (ea_cons (ee_nm 1) (ea_cons (ee_nm 3) ea_nil))) (ea_cons (ee_callKw cx.toCtxE (k_charted h) hr (kw_cons (ee_nm 1) (kw_cons (ee_nm 3) kw_nil)) (hn := (fun _ _ h => fCons_len (fun _ _ h => fCons_len (fun _ _ h => by cases h; rfl) h) h))) ea_nil)))) ea_nil)) (ee_blt (bd_repr cx.toCtxE.gd (room70 hr)) h.n_repr rfl (ea_cons (EN.ee (en_lst (ea_cons (ee_nm 4) (ea_cons (ee_nm 4) ea_nil)))) ea_nil))) (sb_one (ss_ret ee_bl)) sb_nil)
  (sb_cons (ss_own 5 (en_lst (ea_cons (ee_tup (ea_cons ee_int (ea_cons ee_int (ea_cons ee_int ea_nil)))) (ea_cons (ee_tup (ea_cons ee_int (ea_cons ee_int (ea_cons ee_int ea_nil)))) (ea_cons (ee_tup (ea_cons ee_int (ea_cons ee_int (ea_cons ee_int ea_nil)))) ea_nil)))) nd)
  (sb_cons (ss_asg (ee_call cx.toCtxE (c__law_chart_by h) hr (ea_cons (EN.ee (en_comp (own := [("some", 6)]) cx.toCtxE nd (blk_of (N := n__law_right) (sc := defScope s__law_right) (by decide +kernel)) (ei_seq (ee_nm 5)) (fun _ _ _ _ _ => (tt_nm 6 nd)) (fun _ _ _ _ _ => ec_nil) (fun _ _ _ _ _ => (ee_call (CtxE.blk cx.toCtxE) (c__law_chart_at h) hr (ea_cons (ee_nm 2) (ea_cons (ee_call (CtxE.blk cx.toCtxE) (c__law_chart_at h) hr (ea_cons (ee_nm 1) (ea_cons (ee_nm 6) ea_nil))) ea_nil)))))) ea_nil)) (tt_nm 4 nd))
  (sb_cons (ss_if (et_cmp (opd_ne hr.units) (ee_blt (bd_repr cx.toCtxE.gd (room70 hr)) h.n_repr rfl (ea_cons (EN.ee (en_lst (ea_cons (ee_call cx.toCtxE (c_chart_then h) hr (ea_cons (ee_nm 1) (ea_cons (ee_nm 2) ea_nil))) (ea_cons (ee_callKw cx.toCtxE (k_chart_then h) hr (kw_cons (ee_nm 1) (kw_cons (ee_nm 2) kw_nil)) (hn := (fun _ _ h => fCons_len (fun _ _ h => fCons_len (fun _ _ h => by cases h; rfl) h) h))) ea_nil)))) ea_nil)) (ee_blt (bd_repr cx.toCtxE.gd (room70 hr)) h.n_repr rfl (ea_cons (EN.ee (en_lst (ea_cons (ee_nm 4) (ea_cons (ee_nm 4) ea_nil)))) ea_nil))) (sb_one (ss_ret ee_bl)) sb_nil)
  (sb_cons (ss_asg (ee_call cx.toCtxE (c_chart_back h) hr (ea_cons (ee_nm 1) ea_nil)) (tt_nm 7 nd))
  (sb_cons (ss_if (ew_t (ew_or (et_cmp (opd_ne hr.units) (ee_blt (bd_repr cx.toCtxE.gd (room70 hr)) h.n_repr rfl (ea_cons (ee_callKw cx.toCtxE (k_chart_back h) hr (kw_cons (ee_nm 1) kw_nil) (hn := (fun _ _ h => fCons_len (fun _ _ h => by cases h; rfl) h))) ea_nil)) (ee_blt (bd_repr cx.toCtxE.gd (room70 hr)) h.n_repr rfl (ea_cons (ee_nm 7) ea_nil))) (ew_or1 (et_cmp opd_isnot (ee_call cx.toCtxE (c_need_chart h) hr (ea_cons (ee_nm 7) ea_nil)) ee_non)))) (sb_one (ss_ret ee_bl)) sb_nil)
  (sb_cons (ss_for cx (ei_seq (ee_op opd_add (ee_nm 5) (EN.ee (en_lst (ea_cons (ee_nm 3) ea_nil))))) (tt_nm 6 nd) (sb_one (ss_if (ew_t (ew_or (et_cmp (opd_ne hr.units) (ee_call cx.toCtxE (c__law_chart_at h) hr (ea_cons (ee_nm 7) (ea_cons (ee_call cx.toCtxE (c__law_chart_at h) hr (ea_cons (ee_nm 1) (ea_cons (ee_nm 6) ea_nil))) ea_nil))) (ee_nm 6)) (ew_or1 (et_cmp (opd_ne hr.units) (ee_call cx.toCtxE (c__law_chart_at h) hr (ea_cons (ee_nm 1) (ea_cons (ee_call cx.toCtxE (c__law_chart_at h) hr (ea_cons (ee_nm 7) (ea_cons (ee_nm 6) ea_nil))) ea_nil))) (ee_nm 6))))) (sb_one (ss_ret ee_bl)) sb_nil)))
  (sb_one (ss_ret (ee_and (ee_cmp (opd_eq hr.units) (ee_call cx.toCtxE (c_chart_then h) hr (ea_cons (ee_nm 1) (ea_cons (ee_nm 7) ea_nil))) (ee_tup (ea_cons ee_int (ea_cons ee_int (ea_cons ee_int (ea_cons ee_int (ea_cons ee_int (ea_cons ee_int (ea_cons ee_int ea_nil))))))))) (ee_one (ee_cmp (opd_eq hr.units) (ee_call cx.toCtxE (c_chart_then h) hr (ea_cons (ee_nm 7) (ea_cons (ee_nm 1) ea_nil))) (ee_tup (ea_cons ee_int (ea_cons ee_int (ea_cons ee_int (ea_cons ee_int (ea_cons ee_int (ea_cons ee_int (ea_cons ee_int ea_nil)))))))))))))))))))))))
theorem c__law_right (h : Fx K mg base T cls ad) : Callee P w K mg base 5 "_law_right" 1 (spS K T cls 0 F__law_right) := by
  obtain ⟨f, fd, Fn, hm, hb⟩ := h.d__law_right
  exact ⟨f, fd, _, fn_st Fn S__law_right rfl (B__law_right h f hm), hm, Fn.kp, hb, rfl⟩
theorem S__law_lowered_right : FnScope n__law_lowered_right ["state"] (defScope s__law_lowered_right) := ⟨rfl, rfl, rfl, by decide +kernel, rfl, by decide +kernel, by decide +kernel⟩
theorem B__law_lowered_right (h : Fx K mg base T cls ad) (f : Addr) (hm : mg "_law_lowered_right" = some (.ref f)) : BodyOk P w K mg base cls T 4 n__law_lowered_right "_law_lowered_right" s__law_lowered_right f g__law_lowered_right := by
  intro cdv A outer s H E B ok hcd hT hr hG cx
  subst hT
  have nd := S__law_lowered_right.nd
  exact (sb_cons (ss_asg (ee_op opd_mul (ee_op opd_pow ee_int ee_int) (ee_op opd_add ee_int (ee_callS 0 cx.toCtxE (c__law_digit h) hr (ea_cons ee_int ea_nil)))) (tt_nm 1 nd))
  (sb_cons (ss_if (et_cmp (opd_ne hr.units) (ee_call cx.toCtxE (c_chart_back h) hr (ea_cons (ee_tup (ea_cons (ee_nm 1) (ea_cons ee_int (ea_cons ee_int (ea_cons (ee_nm 1) (ea_cons ee_int (ea_cons ee_int (ea_cons ee_int ea_nil)))))))) ea_nil)) (ee_tup (ea_cons ee_int (ea_cons ee_int (ea_cons ee_int (ea_cons ee_int (ea_cons ee_int (ea_cons ee_int (ea_cons (ee_nm 1) ea_nil))))))))) (sb_one (ss_ret ee_bl)) sb_nil)
  (sb_cons (ss_par 2 3 cx.toCtxE.calm nd (ek_sh (ee_op opd_add (ee_op opd_pow ee_int ee_int) (ee_callS 0 cx.toCtxE (c__law_digit h) hr (ea_cons ee_int ea_nil))) (ek_sh (ee_callS 0 cx.toCtxE (c__law_digit h) hr (ea_cons ee_int ea_nil)) ek_nil)))
  (sb_cons (ss_for cx (ei_seq (ee_tup (ea_cons (ee_tup (ea_cons (ee_op opd_mul ee_int (ee_nm 1)) (ea_cons ee_int (ea_cons ee_int (ea_cons (ee_op opd_mul ee_int (ee_nm 1)) (ea_cons ee_int (ea_cons ee_int (ea_cons (ee_op opd_pow ee_int ee_int) ea_nil)))))))) (ea_cons (ee_tup (ea_cons ee_int (ea_cons ee_int (ea_cons ee_int (ea_cons ee_int (ea_cons (ee_nm 3) (ea_cons ee_int (ea_cons (ee_nm 2) ea_nil)))))))) (ea_cons (ee_tup (ea_cons ee_int (ea_cons (ee_nm 2) (ea_cons (ee_nm 2) (ea_cons ee_int (ea_cons ee_int (ea_cons (ee_nm 3) (ea_cons ee_int ea_nil)))))))) ea_nil))))) (tt_nm 4 nd) (sb_cons (ss_asg (ee_call cx.toCtxE (c_chart_back h) hr (ea_cons (ee_nm 4) ea_nil)) (tt_nm 5 nd))
  (sb_one (ss_if (ew_t (ew_or (et_cmp (opd_ne hr.units) (ee_call cx.toCtxE (c_chart_then h) hr (ea_cons (ee_nm 4) (ea_cons (ee_nm 5) ea_nil))) (ee_tup (ea_cons ee_int (ea_cons ee_int (ea_cons ee_int (ea_cons ee_int (ea_cons ee_int (ea_cons ee_int (ea_cons ee_int ea_nil))))))))) (ew_or1 (et_cmp (opd_ne hr.units) (ee_call cx.toCtxE (c_chart_then h) hr (ea_cons (ee_nm 5) (ea_cons (ee_nm 4) ea_nil))) (ee_tup (ea_cons ee_int (ea_cons ee_int (ea_cons ee_int (ea_cons ee_int (ea_cons ee_int (ea_cons ee_int (ea_cons ee_int ea_nil)))))))))))) (sb_one (ss_ret ee_bl)) sb_nil))))
  (sb_one (ss_ret ee_bl))))))
theorem c__law_lowered_right (h : Fx K mg base T cls ad) : Callee P w K mg base 5 "_law_lowered_right" 1 (spS K T cls 0 F__law_lowered_right) := by
  obtain ⟨f, fd, Fn, hm, hb⟩ := h.d__law_lowered_right
  exact ⟨f, fd, _, fn_st Fn S__law_lowered_right rfl (B__law_lowered_right h f hm), hm, Fn.kp, hb, rfl⟩
theorem S__law_bounds_right : FnScope n__law_bounds_right ["state"] (defScope s__law_bounds_right) := ⟨rfl, rfl, rfl, by decide +kernel, rfl, by decide +kernel, by decide +kernel⟩
theorem B__law_bounds_right (h : Fx K mg base T cls ad) (f : Addr) (hm : mg "_law_bounds_right" = some (.ref f)) : BodyOk P w K mg base cls T 6 n__law_bounds_right "_law_bounds_right" s__law_bounds_right f g__law_bounds_right := by
  intro cdv A outer s H E B ok hcd hT hr hG cx
  subst hT
  have nd := S__law_bounds_right.nd
  obtain ⟨c, P0, hcv, hTB, hmT, hu⟩ := h.l__law_bounds_right f cdv hm hcd
  have hcode : cdv = .ref c := hcv
  exact (sb_cons (ss_asg (ee_tup (ea_cons (ee_op opd_pow ee_int ee_int) (ea_cons (ee_op opd_add ee_int (ee_callS 0 cx.toCtxE (c__law_digit h) hr (ea_cons ee_int ea_nil))) ea_nil))) (tt_tup cx.toCtxE.calm (tts_cons (tt_nm 1 nd) (tts_cons (tt_nm 2 nd) tts_nil))))
  (sb_cons (ss_asg (ee_tup (ea_cons (ee_tup (ea_cons (ee_nm 1) (ea_cons ee_int (ea_cons ee_int (ea_cons ee_int (ea_cons ee_int (ea_cons ee_int (ea_cons ee_int ea_nil)))))))) (ea_cons (ee_tup (ea_cons ee_int (ea_cons ee_int (ea_cons ee_int (ea_cons ee_int (ea_cons (ee_op opd_sub ee_int (ee_nm 1)) (ea_cons (ee_nm 1) (ea_cons (ee_nm 2) ea_nil)))))))) ea_nil))) (tt_tup cx.toCtxE.calm (tts_cons (tt_nm 3 nd) (tts_cons (tt_nm 4 nd) tts_nil))))
  (sb_cons (ss_if (ew_t (ew_or (et_cmp opd_isnot (ee_call cx.toCtxE (c_need_chart h) hr (ea_cons (ee_nm 3) ea_nil)) ee_non) (ew_or1 (et_cmp (opd_ne hr.units) (ee_lam (k := 3) [4] cx.toCtxE ((c__law_heard h).mono (by decide)) hr hTB hcode hmT hu (LamX.lamS_by (sc := defScope s__law_bounds_right) (by decide +kernel)) (fun A2 outer2 s2 H2 E2 f2 c2 B2 ok2 hT2 hr hg2 cl => by have h := Fx.cast hT2 h; exact (ee_call cl (c_need_chart h) hr (ea_cons (ee_call cl (c__law_lowest h) hr (ea_cons (ee_nm 4) ea_nil)) ea_nil)))) (EN.ee (en_lst (ea_cons ee_non ea_nil))))))) (sb_one (ss_ret ee_bl)) sb_nil)
  (sb_cons (ss_asg (ee_tup (ea_cons (ee_op opd_add (ee_nm 1) ee_int) (ea_cons ee_int (ea_cons ee_int (ea_cons ee_int (ea_cons ee_int (ea_cons ee_int (ea_cons ee_int ea_nil)))))))) (tt_nm 5 nd))
  (sb_cons (ss_if (et_cmp (opd_ne hr.units) (ee_lam (k := 3) [5] cx.toCtxE ((c__law_heard h).mono (by decide)) hr hTB hcode hmT hu (LamX.lamS_by (sc := defScope s__law_bounds_right) (by decide +kernel)) (fun A2 outer2 s2 H2 E2 f2 c2 B2 ok2 hT2 hr hg2 cl => by have h := Fx.cast hT2 h; exact (ee_call cl (c_need_chart h) hr (ea_cons (ee_nm 5) ea_nil)))) (ee_tup (ea_cons ee_str (ea_cons (ee_nm 5) ea_nil)))) (sb_one (ss_ret ee_bl)) sb_nil)
  (sb_cons (ss_if (ew_t (ew_or (et_cmp (opd_ne hr.units) (ee_call cx.toCtxE (c_chart_then h) hr (ea_cons (ee_nm 3) (ea_cons (ee_tup (ea_cons ee_int (ea_cons ee_int (ea_cons ee_int (ea_cons ee_int (ea_cons ee_int (ea_cons ee_int (ea_cons ee_int ea_nil)))))))) ea_nil))) (ee_nm 3)) (ew_or1 (et_cmp (opd_ne hr.units) (ee_call cx.toCtxE (c_chart_back h) hr (ea_cons (ee_nm 3) ea_nil)) (ee_tup (ea_cons ee_int (ea_cons ee_int (ea_cons ee_int (ea_cons (ee_nm 1) (ea_cons ee_int (ea_cons ee_int (ea_cons (ee_nm 1) ea_nil)))))))))))) (sb_one (ss_ret ee_bl)) sb_nil)
  (sb_cons (ss_if (et_cmp (opd_ne hr.units) (ee_lam (k := 4) [3] cx.toCtxE ((c__law_heard h).mono (by decide)) hr hTB hcode hmT hu (LamX.lamS_by (sc := defScope s__law_bounds_right) (by decide +kernel)) (fun A2 outer2 s2 H2 E2 f2 c2 B2 ok2 hT2 hr hg2 cl => by have h := Fx.cast hT2 h; exact (ee_call cl (c_chart_then h) hr (ea_cons (ee_nm 3) (ea_cons (ee_tup (ea_cons ee_int (ea_cons ee_int (ea_cons ee_int (ea_cons ee_int (ea_cons ee_int (ea_cons ee_int (ea_cons ee_int ea_nil)))))))) ea_nil))))) (ee_tup (ea_cons ee_str (ea_cons (ee_nm 1) ea_nil)))) (sb_one (ss_ret ee_bl)) sb_nil)
  (sb_cons (ss_asg (ee_tup (ea_cons ee_int (ea_cons ee_int (ea_cons ee_int (ea_cons ee_int (ea_cons (ee_nm 1) (ea_cons ee_int (ea_cons ee_int ea_nil)))))))) (tt_nm 6 nd))
  (sb_cons (ss_if (et_cmp (opd_ne hr.units) (ee_lam (k := 4) [2, 6] cx.toCtxE ((c__law_heard h).mono (by decide)) hr hTB hcode hmT hu (LamX.lamS_by (sc := defScope s__law_bounds_right) (by decide +kernel)) (fun A2 outer2 s2 H2 E2 f2 c2 B2 ok2 hT2 hr hg2 cl => by have h := Fx.cast hT2 h; exact (ee_call cl (c_chart_then h) hr (ea_cons (ee_nm 6) (ea_cons (ee_tup (ea_cons ee_int (ea_cons ee_int (ea_cons ee_int (ea_cons ee_int (ea_cons (ee_nm 2) (ea_cons ee_int (ea_cons ee_int ea_nil)))))))) ea_nil))))) (ee_tup (ea_cons ee_str (ea_cons (ee_nm 1) ea_nil)))) (sb_one (ss_ret ee_bl)) sb_nil)
  (sb_cons (ss_if (et_cmp (opd_ne hr.units) (ee_call cx.toCtxE (c_chart_then h) hr (ea_cons (ee_nm 6) (ea_cons (ee_tup (ea_cons ee_int (ea_cons ee_int (ea_cons ee_int (ea_cons ee_int (ea_cons (ee_op opd_sub ee_int (ee_nm 2)) (ea_cons ee_int (ea_cons ee_int ea_nil)))))))) ea_nil))) (ee_tup (ea_cons ee_int (ea_cons ee_int (ea_cons ee_int (ea_cons ee_int (ea_cons (ee_op opd_sub (ee_nm 1) (ee_nm 2)) (ea_cons ee_int (ea_cons ee_int ea_nil))))))))) (sb_one (ss_ret ee_bl)) sb_nil)
  (sb_cons (ss_if (et_cmp (opd_ne hr.units) (ee_lam (k := 4) [1] cx.toCtxE ((c__law_heard h).mono (by decide)) hr hTB hcode hmT hu (LamX.lamS_by (sc := defScope s__law_bounds_right) (by decide +kernel)) (fun A2 outer2 s2 H2 E2 f2 c2 B2 ok2 hT2 hr hg2 cl => by have h := Fx.cast hT2 h; exact (ee_call cl (c_chart_back h) hr (ea_cons (ee_tup (ea_cons (ee_nm 1) (ea_cons ee_int (ea_cons ee_int (ea_cons (ee_nm 1) (ea_cons ee_int (ea_cons ee_int (ea_cons ee_int ea_nil)))))))) ea_nil)))) (ee_tup (ea_cons ee_str (ea_cons (ee_nm 1) ea_nil)))) (sb_one (ss_ret ee_bl)) sb_nil)
  (sb_cons (ss_for cx (ei_range1 h.n_range (ea_cons ee_int ea_nil)) (tt_nm 7 nd) (sb_one (ss_for cx (ei_seq (ee_tup (ea_cons (ee_op opd_add (ee_nm 1) ee_int) (ea_cons (ee_op opd_sub (ee_op opd_sub ee_int (ee_nm 1)) ee_int) ea_nil)))) (tt_nm 8 nd) (sb_cons (ss_asg (ee_op opd_add (ee_op opd_add (ee_sl (ee_tup (ea_cons ee_int (ea_cons ee_int (ea_cons ee_int (ea_cons ee_int (ea_cons ee_int (ea_cons ee_int (ea_cons ee_int ea_nil)))))))) eo_no (eo_ex (ee_nm 7))) (ee_tup (ea_cons (ee_nm 8) ea_nil))) (ee_sl (ee_tup (ea_cons ee_int (ea_cons ee_int (ea_cons ee_int (ea_cons ee_int (ea_cons ee_int (ea_cons ee_int (ea_cons ee_int ea_nil)))))))) (eo_ex (ee_op opd_add (ee_nm 7) ee_int)) eo_no)) (tt_nm 9 nd))
  (sb_one (ss_if (et_cmp (opd_ne hr.units) (ee_lam (k := 3) [9] cx.toCtxE ((c__law_heard h).mono (by decide)) hr hTB hcode hmT hu (LamX.lamS_by (sc := defScope s__law_bounds_right) (by decide +kernel)) (fun A2 outer2 s2 H2 E2 f2 c2 B2 ok2 hT2 hr hg2 cl => by have h := Fx.cast hT2 h; exact (ee_call cl (c_need_chart h) hr (ea_cons (ee_nm 9) ea_nil)))) (ee_tup (ea_cons ee_str (ea_cons (ee_nm 9) ea_nil)))) (sb_one (ss_ret ee_bl)) sb_nil))))))
  (sb_one (ss_ret (ee_callS 0 cx.toCtxE (c__law_lowered_right h) hr ea_nil)))))))))))))))
theorem c__law_bounds_right (h : Fx K mg base T cls ad) : Callee P w K mg base 7 "_law_bounds_right" 1 (spS K T cls 0 F__law_bounds_right) := by
  obtain ⟨f, fd, Fn, hm, hb⟩ := h.d__law_bounds_right
  exact ⟨f, fd, _, fn_st Fn S__law_bounds_right rfl (B__law_bounds_right h f hm), hm, Fn.kp, hb, rfl⟩
theorem S__law_refused : FnScope n__law_refused ["state"] (defScope s__law_refused) := ⟨rfl, rfl, rfl, by decide +kernel, rfl, by decide +kernel, by decide +kernel⟩
theorem B__law_refused (h : Fx K mg base T cls ad) (f : Addr) (hm : mg "_law_refused" = some (.ref f)) : BodyOk P w K mg base cls T 6 n__law_refused "_law_refused" s__law_refused f g__law_refused := by
  intro cdv A outer s H E B ok hcd hT hr hG cx
  subst hT
  have nd := S__law_refused.nd
  obtain ⟨c, P0, hcv, hTB, hmT, hu⟩ := h.l__law_refused f cdv hm hcd
  have hcode : cdv = .ref c := hcv
  exact (sb_cons (ss_asg (ee_tup (ea_cons (ee_callS 0 cx.toCtxE (c__law_chart h) hr (ea_cons ee_int ea_nil)) (ea_cons (EN.ee (en_lst (ea_cons ee_non (ea_cons (ee_tup ea_nil) (ea_cons (EN.ee (en_lst (ea_cons ee_int (ea_cons ee_int (ea_cons ee_int (ea_cons ee_int (ea_cons ee_int (ea_cons ee_int (ea_cons ee_int ea_nil))))))))) (ea_cons (ee_tup (ea_cons ee_int (ea_cons ee_int (ea_cons ee_int (ea_cons ee_int (ea_cons ee_int (ea_cons ee_int ea_nil))))))) (ea_cons (ee_tup (ea_cons ee_int (ea_cons ee_int (ea_cons ee_int (ea_cons ee_int (ea_cons ee_int (ea_cons ee_int (ea_cons ee_int ea_nil)))))))) ea_nil))))))) ea_nil))) (tt_tup cx.toCtxE.calm (tts_cons (tt_nm 1 nd) (tts_cons (tt_nm 2 nd) tts_nil))))
  (sb_cons (ss_asg (ee_op opd_add (ee_nm 2) (EN.ee (en_lst (ea_cons (ee_tup (ea_cons ee_int (ea_cons ee_int (ea_cons ee_int (ea_cons ee_int (ea_cons ee_int (ea_cons ee_int (ea_cons ee_int ea_nil)))))))) (ea_cons (ee_tup (ea_cons ee_int (ea_cons ee_int (ea_cons ee_int (ea_cons ee_int (ea_cons ee_int (ea_cons ee_int (ea_cons ee_int ea_nil)))))))) (ea_cons (ee_tup (ea_cons ee_int (ea_cons ee_int (ea_cons ee_int (ea_cons ee_int (ea_cons ee_int (ea_cons ee_int (ea_cons (ee_neg ee_int) ea_nil)))))))) (ea_cons (ee_tup (ea_cons ee_int (ea_cons ee_int (ea_cons ee_int (ea_cons ee_bl (ea_cons ee_int (ea_cons ee_int (ea_cons ee_int ea_nil)))))))) ea_nil))))))) (tt_nm 2 nd))
  (sb_cons (ss_asg (ee_op opd_add (ee_nm 2) (EN.ee (en_lst (ea_cons (ee_tup (ea_cons ee_str (ea_cons ee_int (ea_cons ee_int (ea_cons ee_int (ea_cons ee_int (ea_cons ee_int (ea_cons ee_int ea_nil)))))))) (ea_cons (ee_tup (ea_cons ee_int (ea_cons ee_int (ea_cons ee_int (ea_cons ee_int (ea_cons ee_int (ea_cons ee_int (ea_cons ee_int ea_nil)))))))) (ea_cons (ee_tup (ea_cons ee_int (ea_cons ee_int (ea_cons ee_int (ea_cons ee_int (ea_cons ee_non (ea_cons ee_int (ea_cons ee_int ea_nil)))))))) (ea_cons (ee_op opd_add (ee_nm 1) (ee_tup (ea_cons ee_int ea_nil))) (ea_cons ee_str ea_nil)))))))) (tt_nm 2 nd))
  (sb_cons (ss_for cx (ei_seq (ee_nm 2)) (tt_nm 3 nd) (sb_cons (ss_asg (ee_tup (ea_cons ee_str (ea_cons (ee_nm 3) ea_nil))) (tt_nm 4 nd))
  (sb_cons (ss_if (ew_t (ew_or (et_cmp (opd_ne hr.units) (ee_lam (k := 3) [3] cx.toCtxE ((c__law_heard h).mono (by decide)) hr hTB hcode hmT hu (LamX.lamS_by (sc := defScope s__law_refused) (by decide +kernel)) (fun A2 outer2 s2 H2 E2 f2 c2 B2 ok2 hT2 hr hg2 cl => by have h := Fx.cast hT2 h; exact (ee_call cl (c_need_chart h) hr (ea_cons (ee_nm 3) ea_nil)))) (ee_nm 4)) (ew_or1 (et_cmp (opd_ne hr.units) (ee_lamD (k := 4) [3] cx.toCtxE ((c__law_heard h).mono (by decide)) hr hTB hcode hmT hu 5 (lamD_by (sc := defScope s__law_refused) (N := n__law_refused) (px := "a") (by decide +kernel)) (fun A2 outer2 s2 H2 E2 f2 c2 B2 ok2 hT2 hr hg2 cl => by have h := Fx.cast hT2 h; exact (ee_call cl (c_chart_back h) hr (ea_cons (ee_nm 3) ea_nil)))) (ee_nm 4))))) (sb_one (ss_ret ee_bl)) sb_nil)
  (sb_cons (ss_if (ew_t (ew_or (et_cmp (opd_ne hr.units) (ee_lam (k := 4) [3] cx.toCtxE ((c__law_heard h).mono (by decide)) hr hTB hcode hmT hu (LamX.lamS_by (sc := defScope s__law_refused) (by decide +kernel)) (fun A2 outer2 s2 H2 E2 f2 c2 B2 ok2 hT2 hr hg2 cl => by have h := Fx.cast hT2 h; exact (ee_call cl (c_chart_then h) hr (ea_cons (ee_nm 3) (ea_cons ee_non ea_nil))))) (ee_nm 4)) (ew_or1 (et_cmp (opd_ne hr.units) (ee_lamD (k := 4) [1, 3] cx.toCtxE ((c__law_heard h).mono (by decide)) hr hTB hcode hmT hu 5 (lamD_by (sc := defScope s__law_refused) (N := n__law_refused) (px := "a") (by decide +kernel)) (fun A2 outer2 s2 H2 E2 f2 c2 B2 ok2 hT2 hr hg2 cl => by have h := Fx.cast hT2 h; exact (ee_call cl (c_chart_then h) hr (ea_cons (ee_nm 1) (ea_cons (ee_nm 3) ea_nil))))) (ee_nm 4))))) (sb_one (ss_ret ee_bl)) sb_nil)
  (sb_one (ss_if (et_cmp (opd_ne hr.units) (ee_lam (k := 4) [3] cx.toCtxE ((c__law_heard h).mono (by decide)) hr hTB hcode hmT hu (LamX.lamS_by (sc := defScope s__law_refused) (by decide +kernel)) (fun A2 outer2 s2 H2 E2 f2 c2 B2 ok2 hT2 hr hg2 cl => by have h := Fx.cast hT2 h; exact (ee_call cl (c_charted h) hr (ea_cons (ee_nm 3) (ea_cons ee_non ea_nil))))) (ee_nm 4)) (sb_one (ss_ret ee_bl)) sb_nil))))))
  (sb_cons (ss_for cx (ei_seq (ee_tup (ea_cons ee_non (ea_cons (ee_tup (ea_cons ee_int (ea_cons ee_int ea_nil))) (ea_cons (ee_tup (ea_cons ee_int (ea_cons ee_int (ea_cons ee_int ea_nil)))) (ea_cons (ee_tup (ea_cons ee_int (ea_cons ee_int (ea_cons (ee_neg ee_int) ea_nil)))) (ea_cons (ee_tup (ea_cons ee_int (ea_cons ee_int (ea_cons ee_int ea_nil)))) (ea_cons (EN.ee (en_lst (ea_cons ee_int (ea_cons ee_int (ea_cons ee_int ea_nil))))) (ea_cons (ee_tup (ea_cons ee_int (ea_cons ee_int (ea_cons ee_bl ea_nil)))) (ea_cons (ee_tup (ea_cons (ee_op opd_add (ee_op opd_pow ee_int ee_int) ee_int) (ea_cons ee_int (ea_cons ee_int ea_nil)))) (ea_cons (ee_tup (ea_cons ee_str (ea_cons ee_int (ea_cons ee_int ea_nil)))) ea_nil))))))))))) (tt_nm 3 nd) (sb_one (ss_if (et_cmp (opd_ne hr.units) (ee_lam (k := 4) [1, 3] cx.toCtxE ((c__law_heard h).mono (by decide)) hr hTB hcode hmT hu (LamX.lamS_by (sc := defScope s__law_refused) (by decide +kernel)) (fun A2 outer2 s2 H2 E2 f2 c2 B2 ok2 hT2 hr hg2 cl => by have h := Fx.cast hT2 h; exact (ee_call cl (c_charted h) hr (ea_cons (ee_nm 1) (ea_cons (ee_nm 3) ea_nil))))) (ee_tup (ea_cons ee_str (ea_cons (ee_nm 3) ea_nil)))) (sb_one (ss_ret ee_bl)) sb_nil)))
  (sb_one (ss_ret (ee_cmp (opd_eq hr.units) (ee_call cx.toCtxE (c_charted h) hr (ea_cons (ee_tup (ea_cons ee_int (ea_cons ee_int (ea_cons ee_int (ea_cons ee_int (ea_cons ee_int (ea_cons ee_int (ea_cons ee_int ea_nil)))))))) (ea_cons (ee_tup (ea_cons (ee_op opd_pow ee_int ee_int) (ea_cons (ee_op opd_sub ee_int (ee_op opd_pow ee_int ee_int)) (ea_cons ee_int ea_nil)))) ea_nil))) (ee_tup (ea_cons (ee_op opd_pow ee_int ee_int) (ea_cons (ee_op opd_sub ee_int (ee_op opd_pow ee_int ee_int)) (ea_cons ee_int ea_nil))))))))))))
theorem c__law_refused (h : Fx K mg base T cls ad) : Callee P w K mg base 7 "_law_refused" 1 (spS K T cls 0 F__law_refused) := by
  obtain ⟨f, fd, Fn, hm, hb⟩ := h.d__law_refused
  exact ⟨f, fd, _, fn_st Fn S__law_refused rfl (B__law_refused h f hm), hm, Fn.kp, hb, rfl⟩
theorem S_law : FnScope n_law ["script"] (defScope s_law) := ⟨rfl, rfl, rfl, by decide +kernel, rfl, by decide +kernel, by decide +kernel⟩
theorem B_law (h : Fx K mg base T cls ad) (f : Addr) (hm : mg "law" = some (.ref f)) : BodyOk P w K mg base cls T 7 n_law "law" s_law f g_law := by
  intro cdv A outer s H E B ok hcd hT hr hG cx
  subst hT
  have nd := S_law.nd
  exact (sb_cons (ss_for cx (ei_enum2 h.n_enumerate (ea_cons (ee_sl (ee_if (et_cmp (opd_ne hr.units) (ee_nm 0) (EN.ee (en_lst ea_nil))) (ee_nm 0) (EN.ee (en_lst (ea_cons ee_int ea_nil)))) eo_no (eo_ex ee_int)) ea_nil)) (tt_tup cx.toCtxE.calm (tts_cons (tt_nm 1 nd) (tts_cons (tt_nm 2 nd) tts_nil))) (sb_cons (ss_own 3 (en_call cx.toCtxE (c__law_draw h) hr (ea_cons (ee_nm 2) (ea_cons (ee_nm 1) ea_nil))) nd)
  (sb_cons (ss_for cx (ei_range1 h.n_range (ea_cons ee_int ea_nil)) (tt_nm 4 nd) (sb_one (ss_if (et_not (et_val (ee_callS 3 cx.toCtxE (c__law_right h) hr ea_nil))) (sb_one (ss_ret ee_bl)) sb_nil)))
  (sb_one (ss_if (ew_t (ew_or (et_not (et_val (ee_callS 3 cx.toCtxE (c__law_bounds_right h) hr ea_nil))) (ew_or1 (et_not (et_val (ee_callS 3 cx.toCtxE (c__law_refused h) hr ea_nil)))))) (sb_one (ss_ret ee_bl)) sb_nil)))))
  (sb_one (ss_ret ee_bl)))
theorem c_law (h : Fx K mg base T cls ad) : Callee P w K mg base 8 "law" 1 (spF K T cls 1 F_law) := by
  obtain ⟨f, fd, Fn, hm, hb⟩ := h.d_law
  exact ⟨f, fd, _, fn_pure Fn S_law rfl (B_law h f hm), hm, Fn.kp, hb, rfl⟩
end
/-! ### the head -/
def dd_is_whole : He.DefD := ⟨("is_whole", none), "is_whole", "is_whole", defArgs s_is_whole, defBody s_is_whole, defScope s_is_whole, [], []⟩
def dd_common_of : He.DefD := ⟨("common_of", none), "common_of", "common_of", defArgs s_common_of, defBody s_common_of, defScope s_common_of, [], []⟩
def dd_is_chart : He.DefD := ⟨("is_chart", none), "is_chart", "is_chart", defArgs s_is_chart, defBody s_is_chart, defScope s_is_chart, [], []⟩
def dd_need_chart : He.DefD := ⟨("need_chart", none), "need_chart", "need_chart", defArgs s_need_chart, defBody s_need_chart, defScope s_need_chart, [], []⟩
def dd_lowest : He.DefD := ⟨("lowest", none), "lowest", "lowest", defArgs s_lowest, defBody s_lowest, defScope s_lowest, [], []⟩
def dd_own_chart_then : He.DefD := ⟨("own_chart_then", none), "own_chart_then", "own_chart_then", defArgs s_own_chart_then, defBody s_own_chart_then, defScope s_own_chart_then, [], []⟩
def dd_own_chart_back : He.DefD := ⟨("own_chart_back", none), "own_chart_back", "own_chart_back", defArgs s_own_chart_back, defBody s_own_chart_back, defScope s_own_chart_back, [], []⟩
def dd_need_bounded : He.DefD := ⟨("need_bounded", none), "need_bounded", "need_bounded", defArgs s_need_bounded, defBody s_need_bounded, defScope s_need_bounded, [], []⟩
def dd_chart_then : He.DefD := ⟨("chart_then", none), "chart_then", "chart_then", defArgs s_chart_then, defBody s_chart_then, defScope s_chart_then, [], []⟩
def dd_chart_back : He.DefD := ⟨("chart_back", none), "chart_back", "chart_back", defArgs s_chart_back, defBody s_chart_back, defScope s_chart_back, [], []⟩
def dd_is_point : He.DefD := ⟨("is_point", none), "is_point", "is_point", defArgs s_is_point, defBody s_is_point, defScope s_is_point, [], []⟩
def dd_own_charted : He.DefD := ⟨("own_charted", none), "own_charted", "own_charted", defArgs s_own_charted, defBody s_own_charted, defScope s_own_charted, [], []⟩
def dd_charted : He.DefD := ⟨("charted", none), "charted", "charted", defArgs s_charted, defBody s_charted, defScope s_charted, [], []⟩
def dd__law_mixed : He.DefD := ⟨("_law_mixed", none), "_law_mixed", "_law_mixed", defArgs s__law_mixed, defBody s__law_mixed, defScope s__law_mixed, [], []⟩
def dd__law_draw : He.DefD := ⟨("_law_draw", none), "_law_draw", "_law_draw", defArgs s__law_draw, defBody s__law_draw, defScope s__law_draw, [], []⟩
def dd__law_digit : He.DefD := ⟨("_law_digit", none), "_law_digit", "_law_digit", defArgs s__law_digit, defBody s__law_digit, defScope s__law_digit, [], []⟩
def dd__law_common : He.DefD := ⟨("_law_common", none), "_law_common", "_law_common", defArgs s__law_common, defBody s__law_common, defScope s__law_common, [], []⟩
def dd__law_lowest : He.DefD := ⟨("_law_lowest", none), "_law_lowest", "_law_lowest", defArgs s__law_lowest, defBody s__law_lowest, defScope s__law_lowest, [], []⟩
def dd__law_chart : He.DefD := ⟨("_law_chart", none), "_law_chart", "_law_chart", defArgs s__law_chart, defBody s__law_chart, defScope s__law_chart, [], []⟩
def dd__law_chart_at : He.DefD := ⟨("_law_chart_at", none), "_law_chart_at", "_law_chart_at", defArgs s__law_chart_at, defBody s__law_chart_at, defScope s__law_chart_at, [], []⟩
def dd__law_heard : He.DefD := ⟨("_law_heard", none), "_law_heard", "_law_heard", defArgs s__law_heard, defBody s__law_heard, defScope s__law_heard, [], []⟩
def dd__law_point : He.DefD := ⟨("_law_point", none), "_law_point", "_law_point", defArgs s__law_point, defBody s__law_point, defScope s__law_point, [], []⟩
def dd__law_chart_by : He.DefD := ⟨("_law_chart_by", none), "_law_chart_by", "_law_chart_by", defArgs s__law_chart_by, defBody s__law_chart_by, defScope s__law_chart_by, [], []⟩
def dd__law_right : He.DefD := ⟨("_law_right", none), "_law_right", "_law_right", defArgs s__law_right, defBody s__law_right, defScope s__law_right, [], []⟩
def dd__law_lowered_right : He.DefD := ⟨("_law_lowered_right", none), "_law_lowered_right", "_law_lowered_right", defArgs s__law_lowered_right, defBody s__law_lowered_right, defScope s__law_lowered_right, [], []⟩
def dd__law_bounds_right : He.DefD := ⟨("_law_bounds_right", none), "_law_bounds_right", "_law_bounds_right", defArgs s__law_bounds_right, defBody s__law_bounds_right, defScope s__law_bounds_right, [], []⟩
def dd__law_refused : He.DefD := ⟨("_law_refused", none), "_law_refused", "_law_refused", defArgs s__law_refused, defBody s__law_refused, defScope s__law_refused, [], []⟩
def dd_law : He.DefD := ⟨("law", none), "law", "law", defArgs s_law, defBody s_law, defScope s_law, [], []⟩
def di_BadCell : He.DefD := ⟨("BadCell", some "__init__"), "__init__", ("BadCell" : Str) ++ ".__init__", defArgs i_BadCell, defBody i_BadCell, defScope i_BadCell, [.non], []⟩
def di_BadNumber : He.DefD := ⟨("BadNumber", some "__init__"), "__init__", ("BadNumber" : Str) ++ ".__init__", defArgs i_BadNumber, defBody i_BadNumber, defScope i_BadNumber, [.non], []⟩
def di_TooMany : He.DefD := ⟨("TooMany", some "__init__"), "__init__", ("TooMany" : Str) ++ ".__init__", defArgs i_TooMany, defBody i_TooMany, defScope i_TooMany, [], []⟩
def dsl : List He.DefD := [dd_is_whole, dd_common_of, dd_is_chart, dd_need_chart, dd_lowest, dd_own_chart_then, dd_own_chart_back, dd_need_bounded, dd_chart_then, dd_chart_back, dd_is_point, dd_own_charted, dd_charted, dd__law_mixed, dd__law_draw, dd__law_digit, dd__law_common, dd__law_lowest, dd__law_chart, dd__law_chart_at, dd__law_heard, dd__law_point, dd__law_chart_by, dd__law_right, dd__law_lowered_right, dd__law_bounds_right, dd__law_refused, dd_law, di_BadCell, di_BadNumber, di_TooMany]
def cns : Cons := []
def fcs : List He.Fa := [.glo "is_whole", .glo "common_of", .glo "is_chart", .glo "need_chart", .glo "lowest", .glo "own_chart_then", .glo "own_chart_back", .glo "need_bounded", .glo "chart_then", .glo "chart_back", .glo "is_point", .glo "own_charted", .glo "charted", .glo "_law_mixed", .glo "_law_draw", .glo "_law_digit", .glo "_law_common", .glo "_law_lowest", .glo "_law_chart", .glo "_law_chart_at", .glo "_law_heard", .glo "_law_point", .glo "_law_chart_by", .glo "_law_right", .glo "_law_lowered_right", .glo "_law_bounds_right", .glo "_law_refused", .glo "law", .glo "PatternError", .glo "BadCell", .glo "BadNumber", .glo "TooMany", .free "isinstance", .free "int", .free "bool", .free "tuple", .free "len", .free "all", .free "range", .free "abs", .free "repr", .free "enumerate", .free "OverflowError", .int "MOST" 1000000000000]
def tfn : List Str := ["_law_bounds_right", "_law_refused"]
def tfd : List He.Defn := tfn.map fun x => (x, none)
def exl (K : PySem.W.Frag) : List Bool := [errB "ValueError.__new__" tlVE K "BadCell", errB "ValueError.__new__" tlVE K "BadNumber", errB "OverflowError.__new__" tlOE K "TooMany", basB K "PatternError" "ValueError.__init__", bltB K "OverflowError" "OverflowError.__init__", exmB K eNames subE "BadNumber", exmB K eNames subE "BadCell", exmB K eNames subE "TooMany", He.eqO (PySem.W.nsIn K mainGlobals "gcd") (some (some (.builtin "math.gcd"))), noLst K, tabNd K tfn]
def exb (K : PySem.W.Frag) : Bool := (exl K).all id
theorem exl_at {K : PySem.W.Frag} (h : exb K = true) (i : Nat) {b : Bool} (e : (exl K)[i]? = some b) : b = true := List.all_eq_true.mp h b (List.mem_of_getElem? e)
section
variable {K : PySem.W.Frag} {h : Heap} {mg : Str → Option Value} {base : Heap} {w : World}
theorem fx_of (X : K.In h) (G : h.Ns mainGlobals mg) (c : He.SaysX fcs dsl [] tfd exb w h K) {hs : List (Addr × Obj)} (cz : ConS w cns K hs h) (TB : ∀ p ∈ tfd.map (He.cT K), LamX.TabB base mg p.1 p.2) : Fx K mg base ⟨tabs K tfn, consT K cns⟩ (clsE K eNames) (He.ga K) := by
  have D := c.t.d
  have xl : ∀ (i : Nat) {b : Bool}, (exl K)[i]? = some b → b = true := fun i {b} e => exl_at c.more i e
  have m_is_whole : mg "is_whole" = some (.ref (He.ga K "is_whole")) := He.glo_ok X G (D.fact 0 (f := .glo "is_whole") rfl)
  have m_common_of : mg "common_of" = some (.ref (He.ga K "common_of")) := He.glo_ok X G (D.fact 1 (f := .glo "common_of") rfl)
  have m_is_chart : mg "is_chart" = some (.ref (He.ga K "is_chart")) := He.glo_ok X G (D.fact 2 (f := .glo "is_chart") rfl)
  have m_need_chart : mg "need_chart" = some (.ref (He.ga K "need_chart")) := He.glo_ok X G (D.fact 3 (f := .glo "need_chart") rfl)
  have m_lowest : mg "lowest" = some (.ref (He.ga K "lowest")) := He.glo_ok X G (D.fact 4 (f := .glo "lowest") rfl)
  have m_own_chart_then : mg "own_chart_then" = some (.ref (He.ga K "own_chart_then")) := He.glo_ok X G (D.fact 5 (f := .glo "own_chart_then") rfl)
  have m_own_chart_back : mg "own_chart_back" = some (.ref (He.ga K "own_chart_back")) := He.glo_ok X G (D.fact 6 (f := .glo "own_chart_back") rfl)
  have m_need_bounded : mg "need_bounded" = some (.ref (He.ga K "need_bounded")) := He.glo_ok X G (D.fact 7 (f := .glo "need_bounded") rfl)
  have m_chart_then : mg "chart_then" = some (.ref (He.ga K "chart_then")) := He.glo_ok X G (D.fact 8 (f := .glo "chart_then") rfl)
  have m_chart_back : mg "chart_back" = some (.ref (He.ga K "chart_back")) := He.glo_ok X G (D.fact 9 (f := .glo "chart_back") rfl)
  have m_is_point : mg "is_point" = some (.ref (He.ga K "is_point")) := He.glo_ok X G (D.fact 10 (f := .glo "is_point") rfl)
  have m_own_charted : mg "own_charted" = some (.ref (He.ga K "own_charted")) := He.glo_ok X G (D.fact 11 (f := .glo "own_charted") rfl)
  have m_charted : mg "charted" = some (.ref (He.ga K "charted")) := He.glo_ok X G (D.fact 12 (f := .glo "charted") rfl)
  have m__law_mixed : mg "_law_mixed" = some (.ref (He.ga K "_law_mixed")) := He.glo_ok X G (D.fact 13 (f := .glo "_law_mixed") rfl)
  have m__law_draw : mg "_law_draw" = some (.ref (He.ga K "_law_draw")) := He.glo_ok X G (D.fact 14 (f := .glo "_law_draw") rfl)
  have m__law_digit : mg "_law_digit" = some (.ref (He.ga K "_law_digit")) := He.glo_ok X G (D.fact 15 (f := .glo "_law_digit") rfl)
  have m__law_common : mg "_law_common" = some (.ref (He.ga K "_law_common")) := He.glo_ok X G (D.fact 16 (f := .glo "_law_common") rfl)
  have m__law_lowest : mg "_law_lowest" = some (.ref (He.ga K "_law_lowest")) := He.glo_ok X G (D.fact 17 (f := .glo "_law_lowest") rfl)
  have m__law_chart : mg "_law_chart" = some (.ref (He.ga K "_law_chart")) := He.glo_ok X G (D.fact 18 (f := .glo "_law_chart") rfl)
  have m__law_chart_at : mg "_law_chart_at" = some (.ref (He.ga K "_law_chart_at")) := He.glo_ok X G (D.fact 19 (f := .glo "_law_chart_at") rfl)
  have m__law_heard : mg "_law_heard" = some (.ref (He.ga K "_law_heard")) := He.glo_ok X G (D.fact 20 (f := .glo "_law_heard") rfl)
  have m__law_point : mg "_law_point" = some (.ref (He.ga K "_law_point")) := He.glo_ok X G (D.fact 21 (f := .glo "_law_point") rfl)
  have m__law_chart_by : mg "_law_chart_by" = some (.ref (He.ga K "_law_chart_by")) := He.glo_ok X G (D.fact 22 (f := .glo "_law_chart_by") rfl)
  have m__law_right : mg "_law_right" = some (.ref (He.ga K "_law_right")) := He.glo_ok X G (D.fact 23 (f := .glo "_law_right") rfl)
  have m__law_lowered_right : mg "_law_lowered_right" = some (.ref (He.ga K "_law_lowered_right")) := He.glo_ok X G (D.fact 24 (f := .glo "_law_lowered_right") rfl)
  have m__law_bounds_right : mg "_law_bounds_right" = some (.ref (He.ga K "_law_bounds_right")) := He.glo_ok X G (D.fact 25 (f := .glo "_law_bounds_right") rfl)
  have m__law_refused : mg "_law_refused" = some (.ref (He.ga K "_law_refused")) := He.glo_ok X G (D.fact 26 (f := .glo "_law_refused") rfl)
  have m_law : mg "law" = some (.ref (He.ga K "law")) := He.glo_ok X G (D.fact 27 (f := .glo "law") rfl)
  have m_PatternError : mg "PatternError" = some (.ref (He.ga K "PatternError")) := He.glo_ok X G (D.fact 28 (f := .glo "PatternError") rfl)
  have m_BadCell : mg "BadCell" = some (.ref (He.ga K "BadCell")) := He.glo_ok X G (D.fact 29 (f := .glo "BadCell") rfl)
  have m_BadNumber : mg "BadNumber" = some (.ref (He.ga K "BadNumber")) := He.glo_ok X G (D.fact 30 (f := .glo "BadNumber") rfl)
  have m_TooMany : mg "TooMany" = some (.ref (He.ga K "TooMany")) := He.glo_ok X G (D.fact 31 (f := .glo "TooMany") rfl)
  obtain ⟨fd_is_whole, F_is_whole⟩ := D.def_ 0 (d := dd_is_whole) rfl
  obtain ⟨fd_common_of, F_common_of⟩ := D.def_ 1 (d := dd_common_of) rfl
  obtain ⟨fd_is_chart, F_is_chart⟩ := D.def_ 2 (d := dd_is_chart) rfl
  obtain ⟨fd_need_chart, F_need_chart⟩ := D.def_ 3 (d := dd_need_chart) rfl
  obtain ⟨fd_lowest, F_lowest⟩ := D.def_ 4 (d := dd_lowest) rfl
  obtain ⟨fd_own_chart_then, F_own_chart_then⟩ := D.def_ 5 (d := dd_own_chart_then) rfl
  obtain ⟨fd_own_chart_back, F_own_chart_back⟩ := D.def_ 6 (d := dd_own_chart_back) rfl
  obtain ⟨fd_need_bounded, F_need_bounded⟩ := D.def_ 7 (d := dd_need_bounded) rfl
  obtain ⟨fd_chart_then, F_chart_then⟩ := D.def_ 8 (d := dd_chart_then) rfl
  obtain ⟨fd_chart_back, F_chart_back⟩ := D.def_ 9 (d := dd_chart_back) rfl
  obtain ⟨fd_is_point, F_is_point⟩ := D.def_ 10 (d := dd_is_point) rfl
  obtain ⟨fd_own_charted, F_own_charted⟩ := D.def_ 11 (d := dd_own_charted) rfl
  obtain ⟨fd_charted, F_charted⟩ := D.def_ 12 (d := dd_charted) rfl
  obtain ⟨fd__law_mixed, F__law_mixed⟩ := D.def_ 13 (d := dd__law_mixed) rfl
  obtain ⟨fd__law_draw, F__law_draw⟩ := D.def_ 14 (d := dd__law_draw) rfl
  obtain ⟨fd__law_digit, F__law_digit⟩ := D.def_ 15 (d := dd__law_digit) rfl
  obtain ⟨fd__law_common, F__law_common⟩ := D.def_ 16 (d := dd__law_common) rfl
  obtain ⟨fd__law_lowest, F__law_lowest⟩ := D.def_ 17 (d := dd__law_lowest) rfl
  obtain ⟨fd__law_chart, F__law_chart⟩ := D.def_ 18 (d := dd__law_chart) rfl
  obtain ⟨fd__law_chart_at, F__law_chart_at⟩ := D.def_ 19 (d := dd__law_chart_at) rfl
  obtain ⟨fd__law_heard, F__law_heard⟩ := D.def_ 20 (d := dd__law_heard) rfl
  obtain ⟨fd__law_point, F__law_point⟩ := D.def_ 21 (d := dd__law_point) rfl
  obtain ⟨fd__law_chart_by, F__law_chart_by⟩ := D.def_ 22 (d := dd__law_chart_by) rfl
  obtain ⟨fd__law_right, F__law_right⟩ := D.def_ 23 (d := dd__law_right) rfl
  obtain ⟨fd__law_lowered_right, F__law_lowered_right⟩ := D.def_ 24 (d := dd__law_lowered_right) rfl
  obtain ⟨fd__law_bounds_right, F__law_bounds_right⟩ := D.def_ 25 (d := dd__law_bounds_right) rfl
  obtain ⟨fd__law_refused, F__law_refused⟩ := D.def_ 26 (d := dd__law_refused) rfl
  obtain ⟨fd_law, F_law⟩ := D.def_ 27 (d := dd_law) rfl
  obtain ⟨fi_BadCell, I_BadCell⟩ := D.def_ 28 (d := di_BadCell) rfl
  obtain ⟨fi_BadNumber, I_BadNumber⟩ := D.def_ 29 (d := di_BadNumber) rfl
  obtain ⟨fi_TooMany, I_TooMany⟩ := D.def_ 30 (d := di_TooMany) rfl
  have exs : ∀ c ∈ eNames, clsOf K c = some (He.ga K c) ∧ L2.XfC K (He.ga K c) ∧ PySem.W.findIn K (.ref (He.ga K c)) (Y.fld c) = some none := by
    intro c hc
    simp only [eNames, List.mem_cons, List.not_mem_nil, or_false] at hc
    rcases hc with rfl | rfl | rfl
    · exact errB_xf (xl 0 rfl)
    · exact errB_xf (xl 1 rfl)
    · exact errB_xf (xl 2 rfl)
  exact {
    n_isinstance := He.free_ok X G (D.fact 32 (f := .free "isinstance") rfl)
    n_int := He.free_ok X G (D.fact 33 (f := .free "int") rfl)
    n_bool := He.free_ok X G (D.fact 34 (f := .free "bool") rfl)
    n_tuple := He.free_ok X G (D.fact 35 (f := .free "tuple") rfl)
    n_len := He.free_ok X G (D.fact 36 (f := .free "len") rfl)
    n_all := He.free_ok X G (D.fact 37 (f := .free "all") rfl)
    n_range := He.free_ok X G (D.fact 38 (f := .free "range") rfl)
    n_abs := He.free_ok X G (D.fact 39 (f := .free "abs") rfl)
    n_repr := He.free_ok X G (D.fact 40 (f := .free "repr") rfl)
    n_enumerate := He.free_ok X G (D.fact 41 (f := .free "enumerate") rfl)
    i_gcd := PySem.W.mg_of X G (He.eqO_ok (xl 8 rfl))
    g_MOST := He.int_ok X G (D.fact 43 (f := .int "MOST" 1000000000000) rfl)
    d_is_whole := ⟨_, fd_is_whole, fun_of F_is_whole, m_is_whole, L2.FunD.bindsN F_is_whole fun _ _ _ _ _ _ us hl => match us, hl with | [_, _, _], _ => rfl⟩
    d_common_of := ⟨_, fd_common_of, fun_of F_common_of, m_common_of, L2.FunD.bindsN F_common_of fun _ _ _ _ _ _ us hl => match us, hl with | [_], _ => rfl⟩
    d_is_chart := ⟨_, fd_is_chart, fun_of F_is_chart, m_is_chart, L2.FunD.bindsN F_is_chart fun _ _ _ _ _ _ us hl => match us, hl with | [_], _ => rfl⟩
    d_need_chart := ⟨_, fd_need_chart, fun_of F_need_chart, m_need_chart, L2.FunD.bindsN F_need_chart fun _ _ _ _ _ _ us hl => match us, hl with | [_], _ => rfl⟩
    d_lowest := ⟨_, fd_lowest, fun_of F_lowest, m_lowest, L2.FunD.bindsN F_lowest fun _ _ _ _ _ _ us hl => match us, hl with | [_], _ => rfl⟩
    d_own_chart_then := ⟨_, fd_own_chart_then, fun_of F_own_chart_then, m_own_chart_then, L2.FunD.bindsN F_own_chart_then fun _ _ _ _ _ _ us hl => match us, hl with | [_, _], _ => rfl⟩
    d_own_chart_back := ⟨_, fd_own_chart_back, fun_of F_own_chart_back, m_own_chart_back, L2.FunD.bindsN F_own_chart_back fun _ _ _ _ _ _ us hl => match us, hl with | [_], _ => rfl⟩
    d_need_bounded := ⟨_, fd_need_bounded, fun_of F_need_bounded, m_need_bounded, L2.FunD.bindsN F_need_bounded fun _ _ _ _ _ _ us hl => match us, hl with | [_], _ => rfl⟩
    d_chart_then := ⟨_, fd_chart_then, fun_of F_chart_then, m_chart_then, L2.FunD.bindsN F_chart_then fun _ _ _ _ _ _ us hl => match us, hl with | [_, _], _ => rfl⟩
    d_chart_back := ⟨_, fd_chart_back, fun_of F_chart_back, m_chart_back, L2.FunD.bindsN F_chart_back fun _ _ _ _ _ _ us hl => match us, hl with | [_], _ => rfl⟩
    d_is_point := ⟨_, fd_is_point, fun_of F_is_point, m_is_point, L2.FunD.bindsN F_is_point fun _ _ _ _ _ _ us hl => match us, hl with | [_], _ => rfl⟩
    d_own_charted := ⟨_, fd_own_charted, fun_of F_own_charted, m_own_charted, L2.FunD.bindsN F_own_charted fun _ _ _ _ _ _ us hl => match us, hl with | [_, _], _ => rfl⟩
    d_charted := ⟨_, fd_charted, fun_of F_charted, m_charted, L2.FunD.bindsN F_charted fun _ _ _ _ _ _ us hl => match us, hl with | [_, _], _ => rfl⟩
    d__law_mixed := ⟨_, fd__law_mixed, fun_of F__law_mixed, m__law_mixed, L2.FunD.bindsN F__law_mixed fun _ _ _ _ _ _ us hl => match us, hl with | [_, _], _ => rfl⟩
    d__law_draw := ⟨_, fd__law_draw, fun_of F__law_draw, m__law_draw, L2.FunD.bindsN F__law_draw fun _ _ _ _ _ _ us hl => match us, hl with | [_, _], _ => rfl⟩
    d__law_digit := ⟨_, fd__law_digit, fun_of F__law_digit, m__law_digit, L2.FunD.bindsN F__law_digit fun _ _ _ _ _ _ us hl => match us, hl with | [_, _], _ => rfl⟩
    d__law_common := ⟨_, fd__law_common, fun_of F__law_common, m__law_common, L2.FunD.bindsN F__law_common fun _ _ _ _ _ _ us hl => match us, hl with | [_], _ => rfl⟩
    d__law_lowest := ⟨_, fd__law_lowest, fun_of F__law_lowest, m__law_lowest, L2.FunD.bindsN F__law_lowest fun _ _ _ _ _ _ us hl => match us, hl with | [_], _ => rfl⟩
    d__law_chart := ⟨_, fd__law_chart, fun_of F__law_chart, m__law_chart, L2.FunD.bindsN F__law_chart fun _ _ _ _ _ _ us hl => match us, hl with | [_, _], _ => rfl⟩
    d__law_chart_at := ⟨_, fd__law_chart_at, fun_of F__law_chart_at, m__law_chart_at, L2.FunD.bindsN F__law_chart_at fun _ _ _ _ _ _ us hl => match us, hl with | [_, _], _ => rfl⟩
    d__law_heard := ⟨_, fd__law_heard, fun_of F__law_heard, m__law_heard, L2.FunD.bindsN F__law_heard fun _ _ _ _ _ _ us hl => match us, hl with | [_], _ => rfl⟩
    d__law_point := ⟨_, fd__law_point, fun_of F__law_point, m__law_point, L2.FunD.bindsN F__law_point fun _ _ _ _ _ _ us hl => match us, hl with | [_], _ => rfl⟩
    d__law_chart_by := ⟨_, fd__law_chart_by, fun_of F__law_chart_by, m__law_chart_by, L2.FunD.bindsN F__law_chart_by fun _ _ _ _ _ _ us hl => match us, hl with | [_], _ => rfl⟩
    d__law_right := ⟨_, fd__law_right, fun_of F__law_right, m__law_right, L2.FunD.bindsN F__law_right fun _ _ _ _ _ _ us hl => match us, hl with | [_], _ => rfl⟩
    d__law_lowered_right := ⟨_, fd__law_lowered_right, fun_of F__law_lowered_right, m__law_lowered_right, L2.FunD.bindsN F__law_lowered_right fun _ _ _ _ _ _ us hl => match us, hl with | [_], _ => rfl⟩
    d__law_bounds_right := ⟨_, fd__law_bounds_right, fun_of F__law_bounds_right, m__law_bounds_right, L2.FunD.bindsN F__law_bounds_right fun _ _ _ _ _ _ us hl => match us, hl with | [_], _ => rfl⟩
    l__law_bounds_right := lamAt_of m__law_bounds_right F__law_bounds_right (TB _ (List.mem_map.mpr ⟨("_law_bounds_right", none), by decide, rfl⟩)) (List.mem_map.mpr ⟨"_law_bounds_right", by decide, rfl⟩) (tabs_uniq (of_decide_eq_true (xl 10 rfl)) "_law_bounds_right" (by decide))
    d__law_refused := ⟨_, fd__law_refused, fun_of F__law_refused, m__law_refused, L2.FunD.bindsN F__law_refused fun _ _ _ _ _ _ us hl => match us, hl with | [_], _ => rfl⟩
    l__law_refused := lamAt_of m__law_refused F__law_refused (TB _ (List.mem_map.mpr ⟨("_law_refused", none), by decide, rfl⟩)) (List.mem_map.mpr ⟨"_law_refused", by decide, rfl⟩) (tabs_uniq (of_decide_eq_true (xl 10 rfl)) "_law_refused" (by decide))
    d_law := ⟨_, fd_law, fun_of F_law, m_law, L2.FunD.bindsN F_law fun _ _ _ _ _ _ us hl => match us, hl with | [_], _ => rfl⟩
    kw_chart_back := fun fd f F => kwOnly_of F fun _ _ _ _ _ _ ws hl => match ws, hl with | [_], _ => rfl
    kw_charted := fun fd f F => kwOnly_of F fun _ _ _ _ _ _ ws hl => match ws, hl with | [_, _], _ => rfl
    kw_need_chart := fun fd f F => kwOnly_of F fun _ _ _ _ _ _ ws hl => match ws, hl with | [_], _ => rfl
    kw_chart_then := fun fd f F => kwOnly_of F fun _ _ _ _ _ _ ws hl => match ws, hl with | [_, _], _ => rfl
    c_BadCell := errB_at (xl 0 rfl) (by decide) m_BadCell I_BadCell (binds_full I_BadCell (fun _ _ _ _ _ _ us hl z => nomatch z) (fun T kV doc pm an cdv ct us its l1 l2 _ => match us, l1, its, l2 with | [_, _], _, [_], _ => ⟨_, rfl, rfl⟩))
    b_BadCell := basB_own (xl 3 rfl) m_PatternError (by decide) base_VE.hand
    c_BadNumber := errB_at (xl 1 rfl) (by decide) m_BadNumber I_BadNumber (binds_full I_BadNumber (fun _ _ _ _ _ _ us hl z => nomatch z) (fun T kV doc pm an cdv ct us its l1 l2 _ => match us, l1, its, l2 with | [_, _], _, [_], _ => ⟨_, rfl, rfl⟩))
    b_BadNumber := basB_own (xl 3 rfl) m_PatternError (by decide) base_VE.hand
    c_TooMany := errB_at (xl 2 rfl) (by decide) m_TooMany I_TooMany (L2.FunD.bindsN I_TooMany fun _ _ _ _ _ _ us hl => match us, hl with | [_, _], _ => rfl)
    b_TooMany := .blt (He.free_ok X G (D.fact 42 (f := .free "OverflowError") rfl)) rfl (by decide) (by decide) base_OE.typ base_OE.stub (valIs_ok (xl 4 rfl)) base_OE.hand
    m_PatternError := m_PatternError
    m_BadCell := m_BadCell
    m_BadNumber := m_BadNumber
    m_TooMany := m_TooMany
    exm_BadNumber := exmB_ok (xl 5 rfl) m_BadNumber
    exm_BadCell := exmB_ok (xl 6 rfl) m_BadCell
    exm_TooMany := exmB_ok (xl 7 rfl) m_TooMany
    clo := fun c C hC => by obtain ⟨hc, rfl⟩ := clsE_inv hC; exact (exs c hc).1
    xf := fun c hc C hC => by obtain ⟨z1, z2, z3⟩ := exs c hc; rw [z1] at hC; cases hC; exact ⟨z2, z3⟩
  }
theorem lawAt {l : PySem.W.OpenLaw} {fa : Addr} (hl : l.prog = PySem.Challenge.pw_patternwright_k14_whole_charts) (X : K.In h) (G : h.Ns mainGlobals mg) (hfa : mg "law" = some (.ref fa)) (c : He.SaysX fcs dsl [] tfd exb w h K) {hs : List (Addr × Obj)} (cz : ConS w cns K hs h) (plain : ∀ ns : List Int, ns.length ≤ 63 → F_law [.list (ns.map PyData.int)] = .ok (.bool true)) : LawAtG l w K 8 63 "script" mg fa h := by
  obtain ⟨fd, FL⟩ := c.t.d.def_ 27 (d := dd_law) rfl
  have e := hfa.symm.trans (He.glo_ok X G (c.t.d.fact 27 (f := .glo "law") rfl))
  cases e
  have b := L2.FunD.bindsA (ps := ["script"]) FL fun _ _ _ _ _ _ us hl => match us, hl with | [_], _ => rfl
  refine ⟨fd, tfd.map (He.cT K), hs, spF K ⟨tabs K tfn, consT K cns⟩ (clsE K eNames) 1 F_law, ⟨cz.at_, cz.no, cz.ok⟩, noLst_ok (exl_at c.more 9 rfl), fun p hp => ?_, fun p hp => ?_, fun p hp => ?_, fun s v => b s [v] rfl, fun H a ns hlen hbits hH hC hS => sp_law hS (fun p hp => ?_) hC (fun G hG p hp => by obtain ⟨z, hz, rfl⟩ := List.mem_map.mp hp; exact cz.tr z hz G hG) (plain ns hlen), fun base kb nb TB => ?_⟩
  · obtain ⟨z, hz, rfl⟩ := List.mem_map.mp hp; exact c.empty z hz
  · obtain ⟨z, hz, rfl⟩ := List.mem_map.mp hp; exact c.out z hz
  · obtain ⟨z, hz, rfl⟩ := List.mem_map.mp hp; exact PySem.W.codeHd_of_K X (c.hd z hz)
  · obtain ⟨z, hz, rfl⟩ := List.mem_map.mp hp; exact LamX.TabS.nil (hH _ (List.mem_map.mpr ⟨(z, none), List.mem_map.mpr ⟨z, hz, rfl⟩, rfl⟩))
  · have fx := fx_of (base := base) X G c cz TB
    have Fn : L2.Fun K "law" "law" s_law (He.ga K "law") fd := fun_of FL
    exact fn_pure Fn S_law rfl (B_law fx _ (He.glo_ok X G (c.t.d.fact 27 (f := .glo "law") rfl)))
end
abbrev Rw : PySem.W.OpenRow := PySem.W.OpenLaw.row PySem.Challenge.rw_patternwright_k14_whole_charts
abbrev hk : PySem.W.Hook := hookY 4 fcs dsl [] tfd exb cns
def ob (s : PySem.W.SharedT) : AlY := obsY 4 fcs dsl [] tfd exb cns (HandSHeadRun.getT s)
theorem ob_eq (s : PySem.W.SharedT) : ob s = hk.obs s.abs := obsY_eq (HandSHeadRun.getT_eq s)
def loose : List Str := (["PatternError", "BadCell", "BadNumber", "TooMany", "MOST", "is_whole", "common_of", "is_chart", "need_chart", "lowest", "own_chart_then", "own_chart_back", "need_bounded", "chart_then", "chart_back", "is_point", "own_charted", "charted", "_law_mixed", "_law_draw"] : List Str) ++ (["_law_digit", "_law_common", "_law_lowest", "_law_chart", "_law_chart_at", "_law_heard", "_law_point", "_law_chart_by", "_law_right", "_law_lowered_right", "_law_bounds_right", "_law_refused"] : List Str)
theorem run (w : World) : HandSHeadRun.RunEqI Rw (PySem.W.view Rw.prog [0, 37]) hk ob 20600 loose w := by
  unfold HandSHeadRun.RunEqI
  kernel_rfl
end K14
open PySem PySem.W PySem.Calls PyProof.Rows
theorem K14.holds_of (plain : ∀ ns : List Int, ns.length ≤ 63 → K14.F_law [.list (ns.map PyData.int)] = .ok (.bool true)) : PySem.Challenge.rw_patternwright_k14_whole_charts.Holds := by
  w_on; o_law
  refine HandSHeadRun.head_imp (r := OpenLaw.row PySem.Challenge.rw_patternwright_k14_whole_charts) (q := view (OpenLaw.row PySem.Challenge.rw_patternwright_k14_whole_charts).prog [0, 37]) (H := K14.hk) (ob := K14.ob) (M := 20600) (loose := K14.loose) (d := HandSHeadRun.topDef (OpenLaw.row PySem.Challenge.rw_patternwright_k14_whole_charts).prog 37) (kwd := []) K14.ob_eq
    K14.run (by kernel_rfl) (by kernel_rfl) (by kernel_rfl) (by rfl) (by first | assumption | decide +kernel) (by decide +kernel) ⟨rfl, rfl, rfl, rfl, rfl, by decide +kernel⟩ ?hw ?hc
  case hw => w_witness2
  case hc =>
    refine Y.walk_ofG (l := PySem.Challenge.rw_patternwright_k14_whole_charts) (n := 63) (k := 8) (x := "script") rfl (by decide) (by kernel_rfl) ⟨rfl, by decide, by decide⟩ rfl ?F
    intro w mg fa h Yh G hmg0
    obtain ⟨K, hs, KX, c, cz⟩ := Yh
    have hmg : mg ("law" : PySem.Str) = some (.ref fa) := by
      have e : (HandSHeadRun.topDef (OpenLaw.row PySem.Challenge.rw_patternwright_k14_whole_charts).prog 37).name = ("law" : PySem.Str) := by kernel_rfl
      rw [← e]
      exact hmg0
    exact ⟨K, KX, K14.lawAt rfl KX G hmg c cz plain⟩


namespace K14
open PySem PySem.Spec PyProof.Rows L2 Y
theorem fmod4 (k : Int) : k.fmod 4 = 0 ∨ k.fmod 4 = 1 ∨ k.fmod 4 = 2 ∨ k.fmod 4 = 3 := by
  rw [Int.fmod_eq_emod_of_nonneg _ (by decide)]
  omega
/-- the drawn number -/
def mixed (c k : Int) : Int :=
  let m : Int := if k.fmod 4 = 0 then 1000000007 else if k.fmod 4 = 1 then 998244353 else if k.fmod 4 = 2 then 2147483629 else 1000000009
  let n := c.fmod m + 7919 * k + 13
  ((n * n).fmod 2147483647 * 48271).fmod 2147483647
theorem p_mixed (c k : Int) (h0 : 0 ≤ k) (h1 : k < 1000000000000) : F__law_mixed [.int c, .int k] = .ok (.int (mixed c k)) := by
  unfold F__law_mixed fnR g__law_mixed n__law_mixed mixed
  have b : ∀ m : Int, 0 < m → m ≤ 2147483629 → mulOk (c.fmod m + 7919 * k + 13) (c.fmod m + 7919 * k + 13) = true := fun m hm hm2 => by
    have z1 := Int.fmod_nonneg_of_pos c hm
    have z2 := Int.fmod_lt_of_pos c hm
    exact mulOk_l (by omega)
  have b1 := b 1000000007 (by decide) (by decide)
  have b2 := b 998244353 (by decide) (by decide)
  have b3 := b 2147483629 (by decide) (by decide)
  have b4 := b 1000000009 (by decide) (by decide)
  rcases fmod4 k with e | e | e | e
  all_goals simp [e, atI, ixN, mulOk_l (i := 7919) (j := k) (by decide), mulOk_r (j := 48271) (by decide), b1, b2, b3, b4, outR]
theorem mixed_range (c k : Int) : 0 ≤ mixed c k ∧ mixed c k < 2147483647 := ⟨Int.fmod_nonneg_of_pos _ (by decide), Int.fmod_lt_of_pos _ (by decide)⟩
/-- the state of the draws -/
def stD (l c t : Int) : PyData := .dict [(.str "left", .int l), (.str "cell", .int c), (.str "turns", .int t)]
theorem p_draw (c k : Int) (h0 : 0 ≤ k) (h1 : k < 1000) : F__law_draw [.int c, .int k] = .ok (stD (if c ≥ 1000000000000000000 then c else 0) c (1000 * k)) := by
  unfold F__law_draw fnN g__law_draw n__law_draw stD
  by_cases hc : c ≥ 1000000000000000000
  all_goals simp (decide := true) [gPow, g2I, hc, outN, Y.keyOf, mergeD, putD, mulOk_l (i := 1000) (j := k) (by decide)]
def dg (l c t : Int) : Int := l * 2147483647 + mixed c (t + 1)
/-- what is left, and the turns, ahead of the division -/
def fill (l c t : Int) : Int × Int := if l = 0 then (dg (dg (dg (dg l c t) c (t + 1)) c (t + 1 + 1)) c (t + 1 + 1 + 1), t + 1 + 1 + 1 + 1) else (l, t)
/-- one draw -/
theorem p_digit (l c t b : Int) (hb : 0 < b) (hb2 : b < 1073741824) (h0 : 0 ≤ t) (h1 : t < 100000000) :
    F__law_digit (stD l c t) [.int b] = .ok (.int ((fill l c t).1.fmod b), stD ((fill l c t).1.fdiv b) c (fill l c t).2) := by
  have hbz : b ≠ 0 := by omega
  have hbq : b < 1073741824 := by omega
  have m : ∀ i : Int, mulOk i 2147483647 = true := fun i => mulOk_r (by decide)
  unfold F__law_digit fnS g__law_digit n__law_digit stD fill dg
  by_cases hl : l = 0
  · have p1 := p_mixed c (t + 1) (by omega) (by omega)
    have p2 := p_mixed c (t + 1 + 1) (by omega) (by omega)
    have p3 := p_mixed c (t + 1 + 1 + 1) (by omega) (by omega)
    have p4 := p_mixed c (t + 1 + 1 + 1 + 1) (by omega) (by omega)
    have e4 : rangeD 0 4 = [.int 0, .int 1, .int 2, .int 3] := rfl
    simp (decide := true) [hl, rngOf, e4, forF, putD, m, p1, p2, p3, p4, hbz, hb, hbq, outS, ioOnly]
  · simp (decide := true) [hl, putD, hbz, hb, hbq, outS, ioOnly]
theorem p_dig (l c t b : Int) (hb : 0 < b) (hb2 : b < 1073741824) (h0 : 0 ≤ t) (h1 : t < 100000000) :
    ∃ d l' t', F__law_digit (stD l c t) [.int b] = .ok (.int d, stD l' c t') ∧ 0 ≤ d ∧ d < b ∧ 0 ≤ t' ∧ t' ≤ t + 4 := by
  refine ⟨_, _, _, p_digit l c t b hb hb2 h0 h1, Int.fmod_nonneg_of_pos _ hb, Int.fmod_lt_of_pos _ hb, ?_, ?_⟩
  · unfold fill; split <;> (simp only; omega)
  · unfold fill; split <;> (simp only; omega)
/-! ### the draws, their state hidden -/
def St (B : Int) (d : PyData) : Prop := ∃ l c t, d = stD l c t ∧ 0 ≤ t ∧ t ≤ B
theorem St.mono {B B' : Int} {d : PyData} (h : St B d) (hb : B ≤ B') : St B' d := by
  obtain ⟨l, c, t, e, h0, h1⟩ := h
  exact ⟨l, c, t, e, h0, by omega⟩
theorem drawS (c k : Int) (h0 : 0 ≤ k) (h1 : k < 1000) : ∃ d, F__law_draw [.int c, .int k] = .ok d ∧ St 1000000 d :=
  ⟨_, p_draw c k h0 h1, _, _, _, rfl, by omega, by omega⟩
theorem digS {B : Int} {d : PyData} (h : St B d) (b : Int) (hb : 0 < b) (hb2 : b < 1073741824) (hB : B < 100000000) : ∃ r d', F__law_digit d [.int b] = .ok (.int r, d') ∧ 0 ≤ r ∧ r < b ∧ St (B + 4) d' := by
  obtain ⟨l, c, t, rfl, h0, h1⟩ := h
  obtain ⟨r, l', t', e, a, b', c', f⟩ := p_dig l c t b hb hb2 h0 (by omega)
  exact ⟨r, _, e, a, b', l', c, t', rfl, c', by omega⟩
end K14


namespace K14
open PySem PySem.Spec PyProof.Rows L2 Y
/-! ### lowest terms, walked -/
theorem p_whole (i l m : Int) : F_is_whole [.int i, .int l, .int m] = .ok (.bool (decide (l ≤ i ∧ i ≤ m))) := by
  unfold F_is_whole fnR g_is_whole n_is_whole
  by_cases h : l ≤ i
  all_goals simp (decide := true) [isExc, isTy, isTyS, tyOf, outR, h]
theorem common_run {s0 : Sl} : ∀ (ns : List Int) (g : Nat) (s2 : Sl), ∃ t, forF (tNm 2) (sAsg (fBlt gGcd (fCons (fNm 1) (fCons (fNm 2) fNil))) (tNm 1)) (ns.map PyData.int) [s0, .sh (.int g), s2] = .nx [s0, .sh (.int (Lw.gcdF g ns)), t]
  | [], g, s2 => ⟨s2, rfl⟩
  | n :: ns, g, s2 => by
    obtain ⟨t, e⟩ := common_run (s0 := s0) ns (Nat.gcd g n.natAbs) (.sh (.int n))
    refine ⟨t, ?_⟩
    rw [List.map_cons]
    unfold forF
    simp (decide := true) [e, Lw.gcdF]
theorem common_ok {d : PyData} {ns : List Int} (h : itemsOf d = some (ns.map PyData.int)) : F_common_of [d] = .ok (.int (Lw.gcdF 0 ns)) := by
  obtain ⟨t, e⟩ := common_run (s0 := .sh d) ns 0 .un
  unfold F_common_of fnR g_common_of n_common_of
  have e0 : ((0 : Nat) : Int) = 0 := rfl
  rw [e0] at e
  simp (decide := true) [h, e, outR]
/-! the law's own -/
def euc : Nat → Nat → Nat → Nat × Nat
  | 0, x, y => (x, y)
  | n + 1, x, y => if y = 0 then euc n x y else euc n y (x % y)
theorem euc_zero : ∀ n x, euc n x 0 = (x, 0)
  | 0, _ => rfl
  | n + 1, x => by unfold euc; rw [if_pos rfl, euc_zero n x]
theorem euc_ok : ∀ (k n x y : Nat), y < 2 ^ k → 2 * k ≤ n → euc n x y = (Nat.gcd x y, 0)
  | 0, n, x, y, h, _ => by
    have : y = 0 := by omega
    subst this
    rw [euc_zero, Nat.gcd_zero_right]
  | k + 1, 0, x, y, _, h => by omega
  | k + 1, 1, x, y, _, h => by omega
  | k + 1, n + 2, x, y, hy, h => by
    by_cases z : y = 0
    · subst z; rw [euc_zero, Nat.gcd_zero_right]
    have g1 : Nat.gcd x y = Nat.gcd y (x % y) := by rw [Nat.gcd_comm x y, Nat.gcd_rec y x, Nat.gcd_comm]
    have l1 := Nat.mod_lt x (Nat.pos_of_ne_zero z)
    show euc (n + 1 + 1) x y = _
    unfold euc
    rw [if_neg z, g1]
    generalize x % y = r at *
    by_cases z2 : r = 0
    · subst z2; rw [euc_zero, Nat.gcd_zero_right]
    have g2 : Nat.gcd y r = Nat.gcd r (y % r) := by rw [Nat.gcd_comm y r, Nat.gcd_rec r y, Nat.gcd_comm]
    unfold euc
    rw [if_neg z2, g2]
    refine euc_ok k n r (y % r) ?_ (by omega)
    have l2 := Nat.mod_lt y (Nat.pos_of_ne_zero z2)
    have e2 := Nat.div_add_mod y r
    have q : 1 ≤ y / r := Nat.div_pos (by omega) (by omega)
    have : r * 1 ≤ r * (y / r) := Nat.mul_le_mul_left r q
    rw [Nat.pow_succ] at hy
    omega
def eucB : SF := sIf (fB (fOp gNe (fNm 5) (fC (.int 0)))) (sPar [4, 5] [false, false] (fCons (fNm 5) (fCons (fOp gMod (fBlt gIntOf (fCons (fNm 4) fNil)) (fNm 5)) fNil))) sNil
theorem euc_run {s0 s1 s2 : Sl} : ∀ (ds : List PyData) (x y : Nat) (s3 : Sl), ∃ t, forF (tNm 3) eucB ds [s0, s1, s2, s3, .sh (.int x), .sh (.int y)] = .nx [s0, s1, s2, t, .sh (.int (euc ds.length x y).1), .sh (.int (euc ds.length x y).2)]
  | [], x, y, s3 => ⟨s3, rfl⟩
  | d :: ds, x, y, s3 => by
    have ei : gIntOf [.int x] = some (.int x) := rfl
    by_cases z : y = 0
    · subst z
      obtain ⟨t, e⟩ := euc_run (s0 := s0) (s1 := s1) (s2 := s2) ds x 0 (.sh d)
      refine ⟨t, ?_⟩
      have e1 : euc (d :: ds).length x 0 = euc ds.length x 0 := by rw [euc_zero, euc_zero]
      rw [e1]
      unfold forF
      unfold eucB at e ⊢
      have e0 : ((0 : Nat) : Int) = 0 := rfl
      rw [e0] at e ⊢
      simp (decide := true) [e]
    · obtain ⟨t, e⟩ := euc_run (s0 := s0) (s1 := s1) (s2 := s2) ds y (x % y) (.sh d)
      refine ⟨t, ?_⟩
      have e1 : euc (d :: ds).length x y = euc ds.length y (x % y) := by rw [List.length_cons]; show (if y = 0 then _ else _) = _; rw [if_neg z]
      rw [e1]
      have zi : (y : Int) ≠ 0 := by omega
      have em : (x : Int).fmod (y : Int) = ((x % y : Nat) : Int) := by rw [Int.fmod_eq_emod_of_nonneg _ (by omega)]; omega
      unfold forF
      unfold eucB at e ⊢
      generalize euc ds.length y (x % y) = r at *
      have gm : gMod (.int (x : Int)) (.int (y : Int)) = some (.int ((x % y : Nat) : Int)) := by unfold gMod g2I; simp [z, zi, em]
      generalize x % y = xy at *
      simp (decide := true) [z, zi, gm, ei, e]
def cmB : SF := (sSeq (sPar [4, 5] [false, false] (fCons (fBlt gAbs (fCons (fNm 1) fNil)) (fCons (fBlt gAbs (fCons (fNm 2) fNil)) fNil))) (sSeq (sFor (fRng (fCons (fC (.int 200)) fNil)) (tNm 3) eucB) (sAsg (fNm 4) (tNm 1))))
theorem lcommon_eq : g__law_common = (sSeq (sAsg (fC (.int 0)) (tNm 1)) (sSeq (sFor (fItems (fNm 0)) (tNm 2) cmB) (sRet (fNm 1)))) := rfl
theorem lcommon_run {s0 : Sl} : ∀ (ns : List Int) (g : Nat) (s2 s3 s4 s5 : Sl), (∀ n ∈ ns, n.natAbs < 2 ^ 90) → ∃ t2 t3 t4 t5, forF (tNm 2) cmB (ns.map PyData.int) [s0, .sh (.int g), s2, s3, s4, s5] = .nx [s0, .sh (.int (Lw.gcdF g ns)), t2, t3, t4, t5]
  | [], g, s2, s3, s4, s5, _ => ⟨s2, s3, s4, s5, rfl⟩
  | n :: ns, g, s2, s3, s4, s5, h => by
    obtain ⟨t, e⟩ := euc_run (s0 := s0) (s1 := .sh (.int g)) (s2 := .sh (.int n)) (rangeD 0 200) g n.natAbs s3
    rw [euc_ok 90 _ _ _ (h n (List.mem_cons_self ..)) (by decide)] at e
    dsimp only at e
    obtain ⟨t2, t3, t4, t5, e2⟩ := lcommon_run (s0 := s0) ns (Nat.gcd g n.natAbs) (.sh (.int n)) t (.sh (.int (Nat.gcd g n.natAbs))) (.sh (.int 0)) fun m hm => h m (List.mem_cons_of_mem _ hm)
    refine ⟨t2, t3, t4, t5, ?_⟩
    have er : rngOf [.int 200] = some (rangeD 0 200) := rfl
    have e0 : ((0 : Nat) : Int) = 0 := rfl
    have eg : (g : Int).natAbs = g := rfl
    rw [e0] at e
    rw [List.map_cons]
    unfold forF
    show (match (tNm 2 (.int n) [s0, .sh (.int g), s2, s3, s4, s5]) with | _ => _) = _
    unfold cmB at e2 ⊢
    unfold Lw.gcdF
    generalize Nat.gcd g n.natAbs = gg at *
    generalize rangeD 0 200 = rd at *
    simp (decide := true) [er, eg, e, e2]
theorem lcommon_ok {d : PyData} {ns : List Int} (h : itemsOf d = some (ns.map PyData.int)) (hb : ∀ n ∈ ns, n.natAbs < 2 ^ 90) : F__law_common [d] = .ok (.int (Lw.gcdF 0 ns)) := by
  obtain ⟨t2, t3, t4, t5, e⟩ := lcommon_run (s0 := .sh d) ns 0 .un .un .un .un hb
  unfold F__law_common fnR n__law_common
  rw [lcommon_eq]
  have e0 : ((0 : Nat) : Int) = 0 := rfl
  rw [e0] at e
  generalize cmB = B at *
  simp (decide := true) [h, e, outR]
theorem div_nat {g : Nat} (h0 : 0 < g) (h : g < 2 ^ 1000) : divOk (g : Int) = true := by
  unfold divOk
  have : g.log2 < 1000 := (Nat.log2_lt (by omega)).mpr h
  simp
  right
  omega
theorem sg_div {g n : Int} (h : g ∣ n) (h0 : g ≠ 0) : (-1 * n).fdiv g = n.fdiv (0 - g) := by
  obtain ⟨k, rfl⟩ := h
  rw [show -1 * (g * k) = (-k) * g by grind, Int.mul_fdiv_cancel _ h0, show g * k = (-k) * (0 - g) by grind, Int.mul_fdiv_cancel _ (by omega)]
def lo (g : Int) (d : PyData) : PyData := match d with | .int n => .int (n.fdiv g) | _ => d
theorem lo_map (g : Int) (ns : List Int) : (ns.map PyData.int).map (lo g) = (ns.map fun n => n.fdiv g).map PyData.int := by
  rw [List.map_map, List.map_map]; rfl
theorem llow_ok {ns : List Int} {w : Int} (h7 : ns.length ≤ 7) (hl : atI (ns.map PyData.int) (-1) = some (.int w)) (hm : w ∈ ns) (hw : w ≠ 0) (hb : ∀ n ∈ ns, n.natAbs < 2 ^ 90) :
    F__law_lowest [.tuple (ns.map PyData.int)] = .ok (.tuple ((ns.map fun n => n.fdiv (Lw.den w ns)).map PyData.int)) := by
  have e := lcommon_ok (d := .tuple (ns.map PyData.int)) rfl hb
  have p := Lw.gcdF_pos hm hw
  have le := Lw.gcdF_le hm hw
  have wb := hb w hm
  have dv : divOk ((Lw.gcdF 0 ns : Nat) : Int) = true := div_nat p (Nat.lt_of_le_of_lt le (Nat.lt_of_lt_of_le wb (Nat.pow_le_pow_right (by decide) (by decide))))
  have dd : ∀ n ∈ ns, ((Lw.gcdF 0 ns : Nat) : Int) ∣ n := fun n hn => by
    rw [← Int.natAbs_dvd_natAbs]; exact (Lw.gcdF_dvd ns 0).2 n hn
  have hden : Lw.den w ns = if w > 0 then ((Lw.gcdF 0 ns : Nat) : Int) else 0 - ((Lw.gcdF 0 ns : Nat) : Int) := rfl
  rw [← lo_map]
  have G0 : ((Lw.gcdF 0 ns : Nat) : Int) ≠ 0 := by omega
  have l7 : (ns.map PyData.int).length ≤ 1000000 := by rw [List.length_map]; omega
  generalize ((Lw.gcdF 0 ns : Nat) : Int) = G at *
  unfold F__law_lowest fnR g__law_lowest n__law_lowest
  by_cases h : w > 0
  · rw [if_pos h] at hden
    rw [hden]
    have cm := comp_map (vs := [3]) (g := tNm 3) (f := fOp gDiv (fOp gMul (fNm 2) (fNm 3)) (fNm 1)) (ρ := [.sh (.tuple (ns.map PyData.int)), .sh (.int G), .sh (.int 1), .un]) (lo G) (ds := ns.map PyData.int) fun d hd => by
      obtain ⟨n, hn, rfl⟩ := List.mem_map.mp hd
      have m : mulOk 1 n = true := mulOk_l (by decide)
      have dI : gDiv (.int n) (.int G) = some (.int (n.fdiv G)) := by unfold gDiv g2I; simp [dv]
      exact ⟨_, _, rfl, by simp (decide := true) [m, dI, lo]; rfl, rfl⟩
    generalize ns.map PyData.int = L at *
    simp (decide := true) [e, hl, h, cm, l7, outR]
  · rw [if_neg h] at hden
    rw [hden, Int.zero_sub] 
    have cm := comp_map (vs := [3]) (g := tNm 3) (f := fOp gDiv (fOp gMul (fNm 2) (fNm 3)) (fNm 1)) (ρ := [.sh (.tuple (ns.map PyData.int)), .sh (.int G), .sh (.int (-1)), .un]) (lo (-G)) (ds := ns.map PyData.int) fun d hd => by
      obtain ⟨n, hn, rfl⟩ := List.mem_map.mp hd
      have m : mulOk (-1) n = true := mulOk_l (by decide)
      have dI : gDiv (.int (-1 * n)) (.int G) = some (.int (n.fdiv (-G))) := by rw [show -G = 0 - G by omega, ← sg_div (dd n hn) G0]; unfold gDiv g2I; simp [dv]
      exact ⟨_, _, rfl, by simp (decide := true) [m, dI, lo, -Int.neg_mul, -Int.neg_one_mul, -Int.reduceNeg]; rfl, rfl⟩
    generalize ns.map PyData.int = L at *
    simp (decide := true) [e, hl, h, cm, l7, outR]
abbrev v7 (m : Lw.C7) : PyData := .tuple [.int m.a, .int m.b, .int m.c, .int m.d, .int m.e, .int m.f, .int m.w]
abbrev v3 (m : Lw.C3) : PyData := .tuple [.int m.x, .int m.y, .int m.u]
theorem llow7 {m : Lw.C7} (hw : m.w ≠ 0) (hb : ∀ n ∈ m.l, n.natAbs < 2 ^ 90) : F__law_lowest [v7 m] = .ok (v7 (Lw.low7 m)) :=
  llow_ok (ns := m.l) (w := m.w) (by simp [Lw.C7.l]) (by unfold Lw.C7.l atI ixN; simp) m.w_mem hw hb
theorem llow3 {m : Lw.C3} (hw : m.u ≠ 0) (hb : ∀ n ∈ m.l, n.natAbs < 2 ^ 90) : F__law_lowest [v3 m] = .ok (v3 (Lw.low3 m)) :=
  llow_ok (ns := m.l) (w := m.u) (by simp [Lw.C3.l]) (by unfold Lw.C3.l atI ixN; simp) m.u_mem hw hb
end K14


namespace K14
open PySem PySem.Spec PyProof.Rows L2 Y
/-! ### the program's charts -/
abbrev M12 : Int := 1000000000000
def bd (m : Lw.C7) : Prop := ∀ n ∈ m.l, n.natAbs ≤ 1000000000000
def okC (m : Lw.C7) : Prop := bd m ∧ Lw.Low7 m ∧ m.a * m.d - m.b * m.c ≠ 0
def okP (m : Lw.C3) : Prop := (∀ n ∈ m.l, n.natAbs ≤ 1000000000000) ∧ Lw.Low3 m
theorem v7_map (m : Lw.C7) : v7 m = .tuple (m.l.map PyData.int) := rfl
theorem whole_in {n : Int} (h : n.natAbs ≤ 1000000000000) : F_is_whole [.int n, .int (-1000000000000), .int 1000000000000] = .ok (.bool true) := by
  rw [p_whole, decide_eq_true ⟨by omega, by omega⟩]
theorem whole_out {n : Int} (h : ¬ n.natAbs ≤ 1000000000000) : F_is_whole [.int n, .int (-1000000000000), .int 1000000000000] = .ok (.bool false) := by
  rw [p_whole, decide_eq_false (by omega)]
theorem mo {i j : Int} (h : i.natAbs ≤ 1000000000000) : mulOk i j = true := mulOk_l (by omega)
theorem is_chart_ok {m : Lw.C7} (h : okC m) : F_is_chart [v7 m] = .ok (.bool true) := by
  obtain ⟨hb, hl, hd⟩ := h
  have c := common_ok (d := v7 m) (ns := m.l) rfl
  rw [hl.g] at c
  have k : ∀ n ∈ m.l, F_is_whole [.int n, .int (-1000000000000), .int 1000000000000] = .ok (.bool true) := fun n hn => whole_in (hb n hn)
  have ka := k m.a (by simp [Lw.C7.l])
  have kb := k m.b (by simp [Lw.C7.l])
  have kc := k m.c (by simp [Lw.C7.l])
  have kd := k m.d (by simp [Lw.C7.l])
  have ke := k m.e (by simp [Lw.C7.l])
  have kf := k m.f (by simp [Lw.C7.l])
  have kw := k m.w (by simp [Lw.C7.l])
  have m1 : mulOk m.a m.d = true := mo (hb m.a (by simp [Lw.C7.l]))
  have m2 : mulOk m.b m.c = true := mo (hb m.b (by simp [Lw.C7.l]))
  have w1 : (1 : Int) ≤ m.w := by have := hl.w; omega
  have hd2 : m.a * m.d ≠ m.b * m.c := by omega
  clear k hb hl hd
  obtain ⟨a, b, c, d, e, f, w⟩ := m
  unfold v7 at *
  dsimp only at *
  unfold F_is_chart fnR g_is_chart n_is_chart
  simp (decide := true) [isExc, isTy, isTyS, tyOf, outR, compF, v_MOST, ka, kb, kc, kd, ke, kf, kw, gAll, bolsOf, scl, m1, m2, w1, hd2, c]
theorem need_chart_ok {m : Lw.C7} (h : okC m) : F_need_chart [v7 m] = .ok .none := by
  have e := is_chart_ok h
  generalize v7 m = d at *
  unfold F_need_chart fnR g_need_chart n_need_chart
  simp (decide := true) [e, outR]
theorem is_point_ok {m : Lw.C3} (h : okP m) : F_is_point [v3 m] = .ok (.bool true) := by
  obtain ⟨hb, hl⟩ := h
  have c := common_ok (d := v3 m) (ns := m.l) rfl
  rw [hl.g] at c
  have k : ∀ n ∈ m.l, F_is_whole [.int n, .int (-1000000000000), .int 1000000000000] = .ok (.bool true) := fun n hn => whole_in (hb n hn)
  have ka := k m.x (by simp [Lw.C3.l])
  have kb := k m.y (by simp [Lw.C3.l])
  have kc := k m.u (by simp [Lw.C3.l])
  have w1 : (1 : Int) ≤ m.u := by have := hl.u; omega
  clear k hb hl
  obtain ⟨x, y, u⟩ := m
  unfold v3 at *
  dsimp only at *
  unfold F_is_point fnR g_is_point n_is_point
  simp (decide := true) [isExc, isTy, isTyS, tyOf, outR, compF, v_MOST, ka, kb, kc, gAll, bolsOf, scl, w1, c]
/-! lowest -/
theorem low_ok {m : Lw.C7} (hw : m.w ≠ 0) (hd : divOk (Lw.den m.w m.l) = true) : F_lowest [v7 m] = .ok (v7 (Lw.low7 m)) := by
  have c := common_ok (d := v7 m) (ns := m.l) rfl
  have hden : Lw.den m.w m.l = if m.w > 0 then ((Lw.gcdF 0 m.l : Nat) : Int) else 0 - ((Lw.gcdF 0 m.l : Nat) : Int) := rfl
  have dI : ∀ n, gDiv (.int n) (.int (Lw.den m.w m.l)) = some (.int (n.fdiv (Lw.den m.w m.l))) := fun n => by unfold gDiv g2I; simp [hd]
  unfold Lw.low7
  generalize Lw.den m.w m.l = G at *
  generalize ((Lw.gcdF 0 m.l : Nat) : Int) = H at *
  obtain ⟨a, b, c, d, e, f, w⟩ := m
  unfold v7 at *
  dsimp only at *
  unfold F_lowest fnR g_lowest n_lowest
  by_cases h : w > 0
  · rw [if_pos h] at hden
    subst hden
    simp (decide := true) [c, h, compF, dI, outR]
  · rw [if_neg h] at hden
    have hg : -H = G := by omega
    simp (decide := true) [c, h, compF, dI, hg, outR]
/-- numbers that are told by a chart, of any size that may come -/
theorem div_pos {m : Lw.C7} (hw : 0 < m.w) (hb : m.w.natAbs < 2 ^ 900) : divOk (Lw.den m.w m.l) = true := by
  have e : Lw.den m.w m.l = ((Lw.gcdF 0 m.l : Nat) : Int) := if_pos hw
  have h0 : m.w ≠ 0 := by omega
  rw [e]
  exact div_nat (Lw.gcdF_pos m.w_mem h0) (Nat.lt_of_le_of_lt (Lw.gcdF_le m.w_mem h0) (Nat.lt_trans hb (Nat.pow_lt_pow_right (by decide) (by decide))))
theorem div_small {m : Lw.C7} (hw : m.w ≠ 0) {n : Int} (hn : n ∈ m.l) (h0 : n ≠ 0) (h : n.natAbs < 1073741824) : divOk (Lw.den m.w m.l) = true := by
  have a := Lw.den_abs m.w m.l
  have b := Lw.den_ne hw m.w_mem
  have c := Lw.gcdF_le hn h0
  unfold divOk
  simp
  left
  omega
theorem own_then_ok {m n : Lw.C7} (hm : okC m) (hn : okC n) : F_own_chart_then [v7 m, v7 n] = .ok (v7 (Lw.low7 (Lw.then_ m n))) := by
  obtain ⟨bm, lm, dm⟩ := hm
  obtain ⟨bn, ln, dn⟩ := hn
  have wm := lm.w
  have wn := ln.w
  have wb := bm m.w m.w_mem
  have wb2 := bn n.w n.w_mem
  have hw : 0 < (Lw.then_ m n).w := Int.mul_pos wm wn
  have hs : (Lw.then_ m n).w.natAbs < 2 ^ 900 := by
    show (m.w * n.w).natAbs < _
    rw [Int.natAbs_mul]
    exact Nat.lt_of_le_of_lt (Nat.mul_le_mul wb wb2) (by decide +kernel)
  have e := low_ok (m := Lw.then_ m n) (by omega) (div_pos hw hs)
  have k : ∀ x ∈ n.l, ∀ j, mulOk x j = true := fun x hx j => mo (bn x hx)
  have ka := k n.a (by simp [Lw.C7.l])
  have kb := k n.b (by simp [Lw.C7.l])
  have kc := k n.c (by simp [Lw.C7.l])
  have kd := k n.d (by simp [Lw.C7.l])
  have kw : ∀ j, mulOk m.w j = true := fun j => mo wb
  clear k bm lm dm bn ln dn hw hs wm wn wb wb2
  generalize v7 (Lw.low7 (Lw.then_ m n)) = D at *
  obtain ⟨a, b, c, d, e, f, w⟩ := m
  obtain ⟨p, q, r, s, t, u, z⟩ := n
  unfold v7 Lw.then_ at *
  dsimp only at *
  unfold F_own_chart_then fnR g_own_chart_then n_own_chart_then
  simp (decide := true) [ka, kb, kc, kd, kw, e, outR]
theorem own_back_ok {m : Lw.C7} (hm : okC m) (hd : divOk (Lw.den (Lw.back_ m).w (Lw.back_ m).l) = true) : F_own_chart_back [v7 m] = .ok (v7 (Lw.low7 (Lw.back_ m))) := by
  obtain ⟨bm, lm, dm⟩ := hm
  have e := low_ok (m := Lw.back_ m) dm hd
  have k : ∀ x ∈ m.l, ∀ j, mulOk x j = true := fun x hx j => mo (bm x hx)
  have ka := k m.a (by simp [Lw.C7.l])
  have kb := k m.b (by simp [Lw.C7.l])
  have kc := k m.c (by simp [Lw.C7.l])
  have kd := k m.d (by simp [Lw.C7.l])
  clear k bm lm dm hd
  generalize v7 (Lw.low7 (Lw.back_ m)) = D at *
  obtain ⟨a, b, c, d, e, f, w⟩ := m
  unfold v7 Lw.back_ at *
  dsimp only at *
  unfold F_own_chart_back fnR g_own_chart_back n_own_chart_back
  simp (decide := true) [ka, kb, kc, kd, outR] at e ⊢
  simp (decide := true) [e]
theorem bounded_ok {m : Lw.C7} (h : okC m) : F_need_bounded [v7 m] = .ok (v7 m) := by
  have e := is_chart_ok h
  generalize v7 m = d at *
  unfold F_need_bounded fnR g_need_bounded n_need_bounded
  simp (decide := true) [e, outR]
theorem then_ok {m n : Lw.C7} (hm : okC m) (hn : okC n) (h : okC (Lw.low7 (Lw.then_ m n))) : F_chart_then [v7 m, v7 n] = .ok (v7 (Lw.low7 (Lw.then_ m n))) := by
  have e1 := need_chart_ok hm
  have e2 := need_chart_ok hn
  have e3 := own_then_ok hm hn
  have e4 := bounded_ok h
  generalize v7 (Lw.low7 (Lw.then_ m n)) = D at *
  generalize v7 m = A at *
  generalize v7 n = B at *
  unfold F_chart_then fnR g_chart_then n_chart_then
  simp (decide := true) [e1, e2, e3, e4, outR]
theorem back_ok {m : Lw.C7} (hm : okC m) (hd : divOk (Lw.den (Lw.back_ m).w (Lw.back_ m).l) = true) (h : okC (Lw.low7 (Lw.back_ m))) : F_chart_back [v7 m] = .ok (v7 (Lw.low7 (Lw.back_ m))) := by
  have e1 := need_chart_ok hm
  have e3 := own_back_ok hm hd
  have e4 := bounded_ok h
  generalize v7 (Lw.low7 (Lw.back_ m)) = D at *
  generalize v7 m = A at *
  unfold F_chart_back fnR g_chart_back n_chart_back
  simp (decide := true) [e1, e3, e4, outR]
theorem charted_ok {m : Lw.C7} {p : Lw.C3} (hm : okC m) (hp : okP p) : F_charted [v7 m, v3 p] = .ok (v3 (Lw.low3 (Lw.at_ m p))) := by
  have e1 := need_chart_ok hm
  have e2 := is_point_ok hp
  have e3 : F_own_charted [v7 m, v3 p] = .ok (v3 (Lw.low3 (Lw.at_ m p))) := by
    obtain ⟨bm, lm, dm⟩ := hm
    obtain ⟨bp, lp⟩ := hp
    have wm := lm.w
    have wp := lp.u
    have wb := bm m.w m.w_mem
    have wb2 := bp p.u p.u_mem
    have hu : 0 < (Lw.at_ m p).u := Int.mul_pos wm wp
    have hs : (Lw.at_ m p).u.natAbs < 2 ^ 900 := by
      show (m.w * p.u).natAbs < _
      rw [Int.natAbs_mul]
      exact Nat.lt_of_le_of_lt (Nat.mul_le_mul wb wb2) (by decide +kernel)
    have hden : Lw.den (Lw.at_ m p).u (Lw.at_ m p).l = ((Lw.gcdF 0 (Lw.at_ m p).l : Nat) : Int) := if_pos hu
    have h0 : (Lw.at_ m p).u ≠ 0 := by omega
    have dv : divOk (Lw.den (Lw.at_ m p).u (Lw.at_ m p).l) = true := by
      rw [hden]
      exact div_nat (Lw.gcdF_pos (Lw.at_ m p).u_mem h0) (Nat.lt_of_le_of_lt (Lw.gcdF_le (Lw.at_ m p).u_mem h0) (Nat.lt_trans hs (Nat.pow_lt_pow_right (by decide) (by decide))))
    have dI : ∀ n, gDiv (.int n) (.int (Lw.den (Lw.at_ m p).u (Lw.at_ m p).l)) = some (.int (n.fdiv (Lw.den (Lw.at_ m p).u (Lw.at_ m p).l))) := fun n => by unfold gDiv g2I; simp [dv]
    have c := common_ok (d := v3 (Lw.at_ m p)) (ns := (Lw.at_ m p).l) rfl
    rw [← hden] at c
    have k : ∀ x ∈ m.l, ∀ j, mulOk x j = true := fun x hx j => mo (bm x hx)
    have ka := k m.a (by simp [Lw.C7.l])
    have kb := k m.b (by simp [Lw.C7.l])
    have kc := k m.c (by simp [Lw.C7.l])
    have kd := k m.d (by simp [Lw.C7.l])
    have ke := k m.e (by simp [Lw.C7.l])
    have kf := k m.f (by simp [Lw.C7.l])
    have kw := k m.w (by simp [Lw.C7.l])
    unfold Lw.low3
    clear k bm lm dm hu hs wm wp wb wb2 bp lp hden h0 dv e1 e2
    generalize Lw.den (Lw.at_ m p).u (Lw.at_ m p).l = G at *
    obtain ⟨a, b, c, d, e, f, w⟩ := m
    obtain ⟨x, y, u⟩ := p
    unfold v7 v3 Lw.at_ at *
    dsimp only at *
    unfold F_own_charted fnR g_own_charted n_own_charted
    simp (decide := true) [ka, kb, kc, kd, ke, kf, kw, c, dI, outR]
  generalize v3 (Lw.low3 (Lw.at_ m p)) = D at *
  generalize v7 m = A at *
  generalize v3 p = B at *
  unfold F_charted fnR g_charted n_charted
  simp (decide := true) [e1, e2, e3, outR]
end K14


namespace K14
open PySem PySem.Spec PyProof.Rows L2 Y
/-! ### heard; draws; points told -/
theorem heard_ok (d : PyData) : F__law_heard (.ok d) = .ok (.list [d]) := by
  have ga : gApp (.list []) [d] = some (.none, .list [d]) := rfl
  unfold F__law_heard fnL g__law_heard startL n__law_heard
  simp (decide := true) [outR, gIs, ga]
theorem heard_num (d : PyData) : F__law_heard (.er "BadNumber" d) = .ok (.tuple [.str "number", d]) := by
  have hn : ∀ es, isNone (.dict es) = false := fun _ => rfl
  unfold F__law_heard fnL g__law_heard startL n__law_heard
  simp (decide := true) [outR, sSuites, subE, begAs, endAs, noEr, excD, eNames, Y.fld, gIs, fIsa, isaV, hn]
theorem heard_cell (d : PyData) : F__law_heard (.er "BadCell" d) = .ok (.tuple [.str "cell", d]) := by
  have hn : ∀ es, isNone (.dict es) = false := fun _ => rfl
  unfold F__law_heard fnL g__law_heard startL n__law_heard
  simp (decide := true) [outR, sSuites, subE, begAs, endAs, noEr, excD, eNames, Y.fld, gIs, fIsa, isaV, hn]
theorem heard_many (d : PyData) : F__law_heard (.er "TooMany" d) = .ok (.tuple [.str "many", d]) := by
  have hn : ∀ es, isNone (.dict es) = false := fun _ => rfl
  unfold F__law_heard fnL g__law_heard startL n__law_heard
  simp (decide := true) [outR, sSuites, subE, begAs, endAs, noEr, excD, eNames, Y.fld, gIs, fIsa, isaV, hn]
/-- numbers up to a size -/
def sz7 (k : Nat) (m : Lw.C7) : Prop := m.a.natAbs ≤ k ∧ m.b.natAbs ≤ k ∧ m.c.natAbs ≤ k ∧ m.d.natAbs ≤ k ∧ m.e.natAbs ≤ k ∧ m.f.natAbs ≤ k ∧ m.w.natAbs ≤ k
def sz3 (k : Nat) (m : Lw.C3) : Prop := m.x.natAbs ≤ k ∧ m.y.natAbs ≤ k ∧ m.u.natAbs ≤ k
instance (k : Nat) (m : Lw.C7) : Decidable (sz7 k m) := inferInstanceAs (Decidable (_ ∧ _))
instance (k : Nat) (m : Lw.C3) : Decidable (sz3 k m) := inferInstanceAs (Decidable (_ ∧ _))
theorem sz7.all {k : Nat} {m : Lw.C7} (h : sz7 k m) {j : Nat} (hk : k ≤ j) : ∀ n ∈ m.l, n.natAbs ≤ j := by
  obtain ⟨a, b, c, d, e, f, w⟩ := h
  intro n hn
  simp only [Lw.C7.l, List.mem_cons, List.not_mem_nil, or_false] at hn
  rcases hn with rfl | rfl | rfl | rfl | rfl | rfl | rfl <;> omega
theorem sz3.all {k : Nat} {m : Lw.C3} (h : sz3 k m) {j : Nat} (hk : k ≤ j) : ∀ n ∈ m.l, n.natAbs ≤ j := by
  obtain ⟨a, b, c⟩ := h
  intro n hn
  simp only [Lw.C3.l, List.mem_cons, List.not_mem_nil, or_false] at hn
  rcases hn with rfl | rfl | rfl <;> omega
theorem mul_le {g n : Int} (h : g ≠ 0) : n.natAbs ≤ (g * n).natAbs := by
  rw [Int.natAbs_mul]
  exact Nat.le_mul_of_pos_left _ (by omega)
theorem low_sz7 {k : Nat} {m : Lw.C7} (hw : m.w ≠ 0) (h : sz7 k m) : sz7 k (Lw.low7 m) := by
  have S := Lw.low7_sc (m := m)
  have g0 := Lw.den_ne hw m.w_mem
  obtain ⟨a, b, c, d, e, f, w⟩ := h
  rw [S.a] at a
  rw [S.b] at b
  rw [S.c] at c
  rw [S.d] at d
  rw [S.e] at e
  rw [S.f] at f
  have w' : (Lw.den m.w m.l * (Lw.low7 m).w).natAbs ≤ k := by rw [← S.w]; exact w
  exact ⟨Nat.le_trans (mul_le g0) a, Nat.le_trans (mul_le g0) b, Nat.le_trans (mul_le g0) c, Nat.le_trans (mul_le g0) d, Nat.le_trans (mul_le g0) e, Nat.le_trans (mul_le g0) f, Nat.le_trans (mul_le g0) w'⟩
theorem low_sz3 {k : Nat} {m : Lw.C3} (hw : m.u ≠ 0) (h : sz3 k m) : sz3 k (Lw.low3 m) := by
  have S := Lw.low3_sc (m := m)
  have g0 := Lw.den_ne hw m.u_mem
  obtain ⟨a, b, c⟩ := h
  rw [S.x] at a
  rw [S.y] at b
  have c' : (Lw.den m.u m.l * (Lw.low3 m).u).natAbs ≤ k := by rw [← S.u]; exact c
  exact ⟨Nat.le_trans (mul_le g0) a, Nat.le_trans (mul_le g0) b, Nat.le_trans (mul_le g0) c'⟩
theorem low_det {m : Lw.C7} (hw : m.w ≠ 0) (h : m.a * m.d - m.b * m.c ≠ 0) : (Lw.low7 m).a * (Lw.low7 m).d - (Lw.low7 m).b * (Lw.low7 m).c ≠ 0 := by
  have S := Lw.low7_sc (m := m)
  intro z
  apply h
  rw [S.a, S.b, S.c, S.d]
  have : ∀ g a b c d : Int, g * a * (g * d) - g * b * (g * c) = g * g * (a * d - b * c) := by intros; grind
  rw [this, z, Int.mul_zero]
/-- a product of what is bounded -/
theorem mul_sz {a b : Int} {k l : Nat} (ha : a.natAbs ≤ k) (hb : b.natAbs ≤ l) : (a * b).natAbs ≤ k * l := by rw [Int.natAbs_mul]; exact Nat.mul_le_mul ha hb
theorem up {x : Int} {K : Nat} (h : x.natAbs ≤ K) {j : Nat} (hj : K ≤ j) : x.natAbs ≤ j := Nat.le_trans h hj
theorem ad {x y : Int} {K L : Nat} (hx : x.natAbs ≤ K) (hy : y.natAbs ≤ L) : (x + y).natAbs ≤ K + L := Nat.le_trans (Int.natAbs_add_le x y) (Nat.add_le_add hx hy)
theorem sb {x y : Int} {K L : Nat} (hx : x.natAbs ≤ K) (hy : y.natAbs ≤ L) : (x - y).natAbs ≤ K + L := by
  have := Int.natAbs_sub_le x y
  omega
theorem at_sz {k l : Nat} {m : Lw.C7} {p : Lw.C3} (hm : sz7 k m) (hp : sz3 l p) : sz3 (k * l + k * l + k * l) (Lw.at_ m p) := by
  obtain ⟨a, b, c, d, e, f, w⟩ := hm
  obtain ⟨x, y, u⟩ := hp
  exact ⟨ad (ad (mul_sz a x) (mul_sz b y)) (mul_sz e u), ad (ad (mul_sz c x) (mul_sz d y)) (mul_sz f u), up (mul_sz w u) (Nat.le_add_left ..)⟩
theorem then_sz {k l : Nat} {m n : Lw.C7} (hm : sz7 k m) (hn : sz7 l n) : sz7 (l * k + l * k + k * l) (Lw.then_ m n) := by
  obtain ⟨a, b, c, d, e, f, w⟩ := hm
  obtain ⟨p, q, r, s, t, u, z⟩ := hn
  have hh : l * k + l * k ≤ l * k + l * k + k * l := Nat.le_add_right ..
  exact ⟨up (ad (mul_sz p a) (mul_sz q c)) hh, up (ad (mul_sz p b) (mul_sz q d)) hh, up (ad (mul_sz r a) (mul_sz s c)) hh, up (ad (mul_sz r b) (mul_sz s d)) hh,
    ad (ad (mul_sz p e) (mul_sz q f)) (mul_sz w t), ad (ad (mul_sz r e) (mul_sz s f)) (mul_sz w u), up (mul_sz w z) (Nat.le_add_left ..)⟩
theorem back_sz {k : Nat} {m : Lw.C7} (hm : sz7 k m) : sz7 (k * k + k * k) (Lw.back_ m) := by
  obtain ⟨a, b, c, d, e, f, w⟩ := hm
  have hh : k * k ≤ k * k + k * k := Nat.le_add_right ..
  have z : ∀ x : Int, (0 - x).natAbs = x.natAbs := fun x => by omega
  refine ⟨up (mul_sz d w) hh, ?_, ?_, up (mul_sz a w) hh, sb (mul_sz b f) (mul_sz d e), sb (mul_sz c e) (mul_sz a f), sb (mul_sz a d) (mul_sz b c)⟩
  · show (0 - m.b * m.w).natAbs ≤ _
    rw [z]; exact up (mul_sz b w) hh
  · show (0 - m.c * m.w).natAbs ≤ _
    rw [z]; exact up (mul_sz c w) hh
/-- a chart of small numbers -/
def smC (m : Lw.C7) : Prop := sz7 4 m ∧ Lw.Low7 m ∧ m.a * m.d - m.b * m.c ≠ 0
def smP (p : Lw.C3) : Prop := sz3 20 p ∧ Lw.Low3 p
theorem smC.ok {m : Lw.C7} (h : smC m) : okC m := ⟨h.1.all (by decide), h.2.1, h.2.2⟩
theorem smP.ok {m : Lw.C3} (h : smP m) : okP m := ⟨h.1.all (by decide), h.2⟩
theorem chart_low {B : Int} {a b c d : Int} {dd : PyData} (h : St B dd) (hB : B < 10001000) (ha : a.natAbs ≤ 4) (hb : b.natAbs ≤ 4) (hc : c.natAbs ≤ 4) (hd : d.natAbs ≤ 4) (hdet : a * d - b * c ≠ 0) {s1 s6 : Sl} :
    ∃ m d' ρ', smC m ∧ St (B + 12) d' ∧ sSeq (sPar [7, 8] [false, false] (fCons (fOp gSub (fCallS F__law_digit 0 (fCons (fC (.int 9)) fNil)) (fC (.int 4))) (fCons (fOp gSub (fCallS F__law_digit 0 (fCons (fC (.int 9)) fNil)) (fC (.int 4))) fNil))) (sRet (fCall F__law_lowest (fCons (fTup (fCons (fNm 2) (fCons (fNm 3) (fCons (fNm 4) (fCons (fNm 5) (fCons (fNm 7) (fCons (fNm 8) (fCons (fOp gAdd (fC (.int 1)) (fCallS F__law_digit 0 (fCons (fC (.int 3)) fNil))) fNil)))))))) fNil))) [.io dd, s1, .sh (.int a), .sh (.int b), .sh (.int c), .sh (.int d), s6, .un, .un] = .rt (v7 m) (.io d' :: ρ') := by
  obtain ⟨e, d1, e1, a1, b1, S1⟩ := digS h 9 (by decide) (by decide) (by omega)
  obtain ⟨f, d2, e2, a2, b2, S2⟩ := digS S1 9 (by decide) (by decide) (by omega)
  obtain ⟨w, d3, e3, a3, b3, S3⟩ := digS S2 3 (by decide) (by decide) (by omega)
  let m : Lw.C7 := ⟨a, b, c, d, e - 4, f - 4, 1 + w⟩
  have hw : m.w ≠ 0 := by show 1 + w ≠ 0; omega
  have hs : sz7 4 m := ⟨ha, hb, hc, hd, by show (e - 4).natAbs ≤ 4; omega, by show (f - 4).natAbs ≤ 4; omega, by show (1 + w).natAbs ≤ 4; omega⟩
  have el := llow7 (m := m) hw fun n hn => Nat.lt_of_le_of_lt (hs.all (Nat.le_refl _) n hn) (by decide)
  refine ⟨Lw.low7 m, d3, [s1, .sh (.int a), .sh (.int b), .sh (.int c), .sh (.int d), s6, .sh (.int (e - 4)), .sh (.int (f - 4))], ⟨low_sz7 hw hs, Lw.low7_low hw, low_det hw hdet⟩, S3.mono (by omega), ?_⟩
  generalize v7 (Lw.low7 m) = D at *
  have el2 : F__law_lowest [.tuple [.int a, .int b, .int c, .int d, .int (e - 4), .int (f - 4), .int (1 + w)]] = .ok D := el
  simp (decide := true) [e1, e2, e3, el2]
theorem chartS {B : Int} {dd : PyData} (h : St B dd) (hB : B < 10000000) (k : Int) (hk : 1 ≤ k) (hk2 : k ≤ 4) : ∃ m d', F__law_chart dd [.int k] = .ok (v7 m, d') ∧ smC m ∧ St (B + 40) d' := by
  obtain ⟨a, d1, e1, a1, b1, S1⟩ := digS h (2 * k + 1) (by omega) (by omega) (by omega)
  obtain ⟨b, d2, e2, a2, b2, S2⟩ := digS S1 (2 * k + 1) (by omega) (by omega) (by omega)
  obtain ⟨c, d3, e3, a3, b3, S3⟩ := digS S2 (2 * k + 1) (by omega) (by omega) (by omega)
  obtain ⟨d, d4, e4, a4, b4, S4⟩ := digS S3 (2 * k + 1) (by omega) (by omega) (by omega)
  have er : rangeD 0 4 = [.int 0, .int 1, .int 2, .int 3] := rfl
  have rg : rngOf [.int 4] = some (rangeD 0 4) := rfl
  have m0 : mulOk 2 k = true := mulOk_l (by decide)
  have m1 : mulOk (a - k) (d - k) = true := mulOk_l (by omega)
  have m2 : mulOk (b - k) (c - k) = true := mulOk_l (by omega)
  by_cases hd : (a - k) * (d - k) = (b - k) * (c - k)
  · obtain ⟨x, d5, e5, a5, b5, S5⟩ := digS S4 3 (by decide) (by decide) (by omega)
    obtain ⟨y, d6, e6, a6, b6, S6⟩ := digS S5 2 (by decide) (by decide) (by omega)
    obtain ⟨m, d', ρ', hm, S', ee⟩ := chart_low (s1 := .sh (.int k)) (s6 := .un) (a := 1) (b := x) (c := 0) (d := 1 + y) S6 (by omega) (by decide) (by omega) (by decide) (by omega) (by rw [Int.mul_zero, Int.one_mul]; omega)
    refine ⟨m, d', ?_, hm, S'.mono (by omega)⟩
    unfold F__law_chart fnS g__law_chart n__law_chart
    generalize sSeq (sPar [7, 8] [false, false] (fCons (fOp gSub (fCallS F__law_digit 0 (fCons (fC (.int 9)) fNil)) (fC (.int 4))) (fCons (fOp gSub (fCallS F__law_digit 0 (fCons (fC (.int 9)) fNil)) (fC (.int 4))) fNil))) _ = T at *
    generalize v7 m = D at *
    simp (decide := true) [startS, er, rg, compF, m0, e1, e2, e3, e4, m1, m2, hd, e5, e6, ee, outS, ioOnly]
  · obtain ⟨m, d', ρ', hm, S', ee⟩ := chart_low (s1 := .sh (.int k)) (s6 := .un) (a := a - k) (b := b - k) (c := c - k) (d := d - k) S4 (by omega) (by omega) (by omega) (by omega) (by omega) (fun z => hd (Int.sub_eq_zero.mp z))
    refine ⟨m, d', ?_, hm, S'.mono (by omega)⟩
    unfold F__law_chart fnS g__law_chart n__law_chart
    generalize sSeq (sPar [7, 8] [false, false] (fCons (fOp gSub (fCallS F__law_digit 0 (fCons (fC (.int 9)) fNil)) (fC (.int 4))) (fCons (fOp gSub (fCallS F__law_digit 0 (fCons (fC (.int 9)) fNil)) (fC (.int 4))) fNil))) _ = T at *
    generalize v7 m = D at *
    simp (decide := true) [startS, er, rg, compF, m0, e1, e2, e3, e4, m1, m2, hd, ee, outS, ioOnly]
theorem pointS {B : Int} {dd : PyData} (h : St B dd) (hB : B < 10000000) : ∃ p d', F__law_point dd [] = .ok (v3 p, d') ∧ smP p ∧ St (B + 12) d' := by
  obtain ⟨x, d1, e1, a1, b1, S1⟩ := digS h 41 (by decide) (by decide) (by omega)
  obtain ⟨y, d2, e2, a2, b2, S2⟩ := digS S1 41 (by decide) (by decide) (by omega)
  obtain ⟨u, d3, e3, a3, b3, S3⟩ := digS S2 6 (by decide) (by decide) (by omega)
  let p : Lw.C3 := ⟨x - 20, y - 20, 1 + u⟩
  have hw : p.u ≠ 0 := by show 1 + u ≠ 0; omega
  have hs : sz3 20 p := ⟨by show (x - 20).natAbs ≤ 20; omega, by show (y - 20).natAbs ≤ 20; omega, by show (1 + u).natAbs ≤ 20; omega⟩
  have el := llow3 (m := p) hw fun n hn => Nat.lt_of_le_of_lt (hs.all (Nat.le_refl _) n hn) (by decide)
  refine ⟨Lw.low3 p, d3, ?_, ⟨low_sz3 hw hs, Lw.low3_low hw⟩, S3.mono (by omega)⟩
  have el2 : F__law_lowest [.tuple [.int (x - 20), .int (y - 20), .int (1 + u)]] = .ok (v3 (Lw.low3 p)) := el
  generalize v3 (Lw.low3 p) = D at *
  unfold F__law_point fnS g__law_point n__law_point
  simp (decide := true) [startS, e1, e2, e3, el2, outS, ioOnly]
theorem chart_at_ok {k l : Nat} {m : Lw.C7} {p : Lw.C3} (hm : sz7 k m) (hp : sz3 l p) (hk : k ≤ 1000000000000) (hl : l ≤ 1000000000000) (hw : m.w ≠ 0) (hu : p.u ≠ 0) : F__law_chart_at [v7 m, v3 p] = .ok (v3 (Lw.low3 (Lw.at_ m p))) := by
  have hs := at_sz hm hp
  have hkl : k * l ≤ 1000000000000 * 1000000000000 := Nat.mul_le_mul hk hl
  have hz : k * l + k * l + k * l < 2 ^ 90 := by omega
  have el := llow3 (m := Lw.at_ m p) (Lw.at_u hw hu) fun n hn => Nat.lt_of_le_of_lt (hs.all (Nat.le_refl _) n hn) hz
  have k' : ∀ x ∈ m.l, ∀ j, mulOk x j = true := fun x hx j => mo (hm.all hk x hx)
  have ka := k' m.a (by simp [Lw.C7.l])
  have kb := k' m.b (by simp [Lw.C7.l])
  have kc := k' m.c (by simp [Lw.C7.l])
  have kd := k' m.d (by simp [Lw.C7.l])
  have ke := k' m.e (by simp [Lw.C7.l])
  have kf := k' m.f (by simp [Lw.C7.l])
  have kw := k' m.w (by simp [Lw.C7.l])
  generalize v3 (Lw.low3 (Lw.at_ m p)) = D at *
  clear k' hs hz hkl hm hp hw hu
  obtain ⟨a, b, c, d, e, f, w⟩ := m
  obtain ⟨x, y, u⟩ := p
  unfold v7 v3 Lw.at_ at *
  dsimp only at *
  unfold F__law_chart_at fnR g__law_chart_at n__law_chart_at
  simp (decide := true) [ka, kb, kc, kd, ke, kf, kw, el, outR]
theorem by_ok {k : Nat} {i j h : Lw.C3} (hi : sz3 k i) (hj : sz3 k j) (hh : sz3 k h) (hk : k ≤ 3000) (wi : 0 < i.u) (wj : 0 < j.u) (wh : 0 < h.u) : F__law_chart_by [.list [v3 i, v3 j, v3 h]] = .ok (v7 (Lw.low7 (Lw.by_ i j h))) := by
  obtain ⟨xi, yi, ui⟩ := hi
  obtain ⟨xj, yj, uj⟩ := hj
  obtain ⟨xh, yh, uh⟩ := hh
  have d1 : (i.u * j.u * h.u).fdiv j.u = i.u * h.u := by
    rw [show i.u * j.u * h.u = i.u * h.u * j.u by grind]; exact Int.mul_fdiv_cancel _ (by omega)
  have d2 : (i.u * j.u * h.u).fdiv h.u = i.u * j.u := Int.mul_fdiv_cancel _ (by omega)
  have d0 : (i.u * j.u * h.u).fdiv i.u = j.u * h.u := by
    rw [show i.u * j.u * h.u = j.u * h.u * i.u by grind]; exact Int.mul_fdiv_cancel _ (by omega)
  have hb : Lw.by_ i j h = ⟨j.x * (i.u * h.u) - i.x * (j.u * h.u), h.x * (i.u * j.u) - i.x * (j.u * h.u), j.y * (i.u * h.u) - i.y * (j.u * h.u), h.y * (i.u * j.u) - i.y * (j.u * h.u), i.x * (j.u * h.u), i.y * (j.u * h.u), i.u * j.u * h.u⟩ := by
    unfold Lw.by_; simp only [d0, d1, d2]
  have hs : sz7 (k * (k * k) + k * (k * k)) (Lw.by_ i j h) := by
    rw [hb]
    have hh : k * (k * k) ≤ k * (k * k) + k * (k * k) := Nat.le_add_right ..
    exact ⟨sb (mul_sz xj (mul_sz ui uh)) (mul_sz xi (mul_sz uj uh)), sb (mul_sz xh (mul_sz ui uj)) (mul_sz xi (mul_sz uj uh)), sb (mul_sz yj (mul_sz ui uh)) (mul_sz yi (mul_sz uj uh)), sb (mul_sz yh (mul_sz ui uj)) (mul_sz yi (mul_sz uj uh)),
      up (mul_sz xi (mul_sz uj uh)) hh, up (mul_sz yi (mul_sz uj uh)) hh, up (mul_sz (mul_sz ui uj) uh) (by rw [Nat.mul_assoc]; exact hh)⟩
  have hkk : k * (k * k) ≤ 3000 * (3000 * 3000) := Nat.mul_le_mul hk (Nat.mul_le_mul hk hk)
  have hz : k * (k * k) + k * (k * k) < 2 ^ 90 := by omega
  have w0 : (Lw.by_ i j h).w ≠ 0 := by
    rw [hb]
    exact Lw.mul_ne (Lw.mul_ne (by omega) (by omega)) (by omega)
  have el := llow7 (m := Lw.by_ i j h) w0 fun n hn => Nat.lt_of_le_of_lt (hs.all (Nat.le_refl _) n hn) hz
  generalize v7 (Lw.low7 (Lw.by_ i j h)) = D at *
  rw [hb] at el
  have q : ∀ {n : Int}, n.natAbs ≤ k → ∀ z, mulOk n z = true := fun hn z => mulOk_l (by omega)
  have g1 : ∀ n, gDiv (.int n) (.int i.u) = some (.int (n.fdiv i.u)) := fun n => divI (by omega) (by omega)
  have g2 : ∀ n, gDiv (.int n) (.int j.u) = some (.int (n.fdiv j.u)) := fun n => divI (by omega) (by omega)
  have g3 : ∀ n, gDiv (.int n) (.int h.u) = some (.int (n.fdiv h.u)) := fun n => divI (by omega) (by omega)
  have q0 : mulOk (i.u * j.u) h.u = true := mulOk_r (by omega)
  have q1 := q xi
  have q2 := q yi
  have q3 := q ui
  have q4 := q xj
  have q5 := q yj
  have q6 := q xh
  have q7 := q yh
  clear q hb hs hz hkk w0
  obtain ⟨xi, yi, ui⟩ := i
  obtain ⟨xj, yj, uj⟩ := j
  obtain ⟨xh, yh, uh⟩ := h
  unfold v7 at *
  unfold v3 at *
  dsimp only at *
  have gA : ∀ as bs : List PyData, as.length + bs.length ≤ 1000000 → gAdd (.tuple as) (.tuple bs) = some (.tuple (as ++ bs)) := fun as bs hl => by
    unfold gAdd
    simp [hl]
  unfold F__law_chart_by fnR g__law_chart_by n__law_chart_by
  simp (decide := true) [q0, q1, q2, q3, q4, q5, q6, q7, g1, g2, g3, d0, d1, d2, gA, el, outR]
end K14


namespace K14
open PySem PySem.Spec PyProof.Rows L2 Y
/-! ### charts and points, right -/
def lr0 : SF := sAsg (fTup (fCons (fCallS F__law_chart 0 (fCons (fC (.int 4)) fNil)) (fCons (fCallS F__law_chart 0 (fCons (fC (.int 4)) fNil)) (fCons (fCallS F__law_point 0 fNil) fNil)))) (tTp 3 (tsCons (tNm 1) (tsCons (tNm 2) (tsCons (tNm 3) tsNil))))
def lr1 : SF := sIf (fOr (fB (fOp gIsNot (fCall F_need_chart (fCons (fNm 1) fNil)) (fC .none))) (fB (fOp gIsNot (fCall F_need_chart (fCons (fNm 2) fNil)) (fC .none)))) (sRet (fC (.bool false))) sNil
def lr2 : SF := sAsg (fCall F__law_chart_at (fCons (fNm 1) (fCons (fNm 3) fNil))) (tNm 4)
def lr3 : SF := sIf (fB (fOp gNe (fBlt gRepr (fCons (fLst (fCons (fCall F_charted (fCons (fNm 1) (fCons (fNm 3) fNil))) (fCons (fCall F_charted (fCons (fNm 1) (fCons (fNm 3) fNil))) fNil))) fNil)) (fBlt gRepr (fCons (fLst (fCons (fNm 4) (fCons (fNm 4) fNil))) fNil)))) (sRet (fC (.bool false))) sNil
def lr4 : SF := sOwn (fLst (fCons (fTup (fCons (fC (.int 0)) (fCons (fC (.int 0)) (fCons (fC (.int 1)) fNil)))) (fCons (fTup (fCons (fC (.int 1)) (fCons (fC (.int 0)) (fCons (fC (.int 1)) fNil)))) (fCons (fTup (fCons (fC (.int 0)) (fCons (fC (.int 1)) (fCons (fC (.int 1)) fNil)))) fNil)))) 5
def lr5 : SF := sAsg (fCall F__law_chart_by (fCons (fComp [6] (fItems (fNm 5)) (tNm 6) tYes' (fCall F__law_chart_at (fCons (fNm 2) (fCons (fCall F__law_chart_at (fCons (fNm 1) (fCons (fNm 6) fNil))) fNil)))) fNil)) (tNm 4)
def lr6 : SF := sIf (fB (fOp gNe (fBlt gRepr (fCons (fLst (fCons (fCall F_chart_then (fCons (fNm 1) (fCons (fNm 2) fNil))) (fCons (fCall F_chart_then (fCons (fNm 1) (fCons (fNm 2) fNil))) fNil))) fNil)) (fBlt gRepr (fCons (fLst (fCons (fNm 4) (fCons (fNm 4) fNil))) fNil)))) (sRet (fC (.bool false))) sNil
def lr7 : SF := sAsg (fCall F_chart_back (fCons (fNm 1) fNil)) (tNm 7)
def lr8 : SF := sIf (fOr (fB (fOp gNe (fBlt gRepr (fCons (fCall F_chart_back (fCons (fNm 1) fNil)) fNil)) (fBlt gRepr (fCons (fNm 7) fNil)))) (fB (fOp gIsNot (fCall F_need_chart (fCons (fNm 7) fNil)) (fC .none)))) (sRet (fC (.bool false))) sNil
def lr9B0 : SF := sIf (fOr (fB (fOp gNe (fCall F__law_chart_at (fCons (fNm 7) (fCons (fCall F__law_chart_at (fCons (fNm 1) (fCons (fNm 6) fNil))) fNil))) (fNm 6))) (fB (fOp gNe (fCall F__law_chart_at (fCons (fNm 1) (fCons (fCall F__law_chart_at (fCons (fNm 7) (fCons (fNm 6) fNil))) fNil))) (fNm 6)))) (sRet (fC (.bool false))) sNil
def lr9B : SF := lr9B0
def lr9 : SF := sFor (fItems (fOp gAdd (fNm 5) (fLst (fCons (fNm 3) fNil)))) (tNm 6) lr9B
def lr10 : SF := sRet (fAndV (fOp gEq (fCall F_chart_then (fCons (fNm 1) (fCons (fNm 7) fNil))) (fTup (fCons (fC (.int 1)) (fCons (fC (.int 0)) (fCons (fC (.int 0)) (fCons (fC (.int 1)) (fCons (fC (.int 0)) (fCons (fC (.int 0)) (fCons (fC (.int 1)) fNil))))))))) (fOp gEq (fCall F_chart_then (fCons (fNm 7) (fCons (fNm 1) fNil))) (fTup (fCons (fC (.int 1)) (fCons (fC (.int 0)) (fCons (fC (.int 0)) (fCons (fC (.int 1)) (fCons (fC (.int 0)) (fCons (fC (.int 0)) (fCons (fC (.int 1)) fNil))))))))))
def lr : SF := (sSeq lr0 (sSeq lr1 (sSeq lr2 (sSeq lr3 (sSeq lr4 (sSeq lr5 (sSeq lr6 (sSeq lr7 (sSeq lr8 (sSeq lr9 lr10))))))))))
theorem lr_eq : g__law_right = lr := rfl
theorem back_det {m : Lw.C7} (hw : m.w ≠ 0) (h : m.a * m.d - m.b * m.c ≠ 0) : (Lw.back_ m).a * (Lw.back_ m).d - (Lw.back_ m).b * (Lw.back_ m).c ≠ 0 := by
  have : (Lw.back_ m).a * (Lw.back_ m).d - (Lw.back_ m).b * (Lw.back_ m).c = m.w * m.w * (m.a * m.d - m.b * m.c) := by unfold Lw.back_; dsimp only; grind
  rw [this]
  exact Lw.mul_ne (Lw.mul_ne hw hw) h
theorem then_det {m n : Lw.C7} (h : m.a * m.d - m.b * m.c ≠ 0) (h2 : n.a * n.d - n.b * n.c ≠ 0) : (Lw.then_ m n).a * (Lw.then_ m n).d - (Lw.then_ m n).b * (Lw.then_ m n).c ≠ 0 := by
  have : (Lw.then_ m n).a * (Lw.then_ m n).d - (Lw.then_ m n).b * (Lw.then_ m n).c = (m.a * m.d - m.b * m.c) * (n.a * n.d - n.b * n.c) := by unfold Lw.then_; dsimp only; grind
  rw [this]
  exact Lw.mul_ne h h2
theorem ok_id : okC Lw.id7 := ⟨sz7.all (k := 4) (by decide) (by decide), Lw.low_id7, by decide⟩
theorem then_both {m : Lw.C7} (hm : okC m) (hb : okC (Lw.low7 (Lw.back_ m))) : F_chart_then [v7 m, v7 (Lw.low7 (Lw.back_ m))] = .ok (v7 Lw.id7) ∧ F_chart_then [v7 (Lw.low7 (Lw.back_ m)), v7 m] = .ok (v7 Lw.id7) := by
  have w0 : m.w ≠ 0 := by have := hm.2.1.w; omega
  have e1 := Lw.then_back w0 hm.2.2
  have e2 := Lw.back_then w0 hm.2.2
  have f1 := then_ok hm hb (by rw [e1]; exact ok_id)
  have f2 := then_ok hb hm (by rw [e2]; exact ok_id)
  rw [e1] at f1
  rw [e2] at f2
  exact ⟨f1, f2⟩
theorem small_back {m : Lw.C7} (h : smC m) : sz7 32 (Lw.low7 (Lw.back_ m)) ∧ okC (Lw.low7 (Lw.back_ m)) ∧ F_chart_back [v7 m] = .ok (v7 (Lw.low7 (Lw.back_ m))) := by
  have hs := back_sz h.1
  have w0 : m.w ≠ 0 := by have := h.2.1.w; omega
  have h0 : (Lw.back_ m).w ≠ 0 := h.2.2
  have hl := low_sz7 h0 hs
  have ok : okC (Lw.low7 (Lw.back_ m)) := ⟨hl.all (by decide), Lw.low7_low h0, low_det h0 (back_det w0 h.2.2)⟩
  refine ⟨hl, ok, back_ok h.ok (div_small h0 (Lw.back_ m).w_mem h0 ?_) ok⟩
  have := hs.2.2.2.2.2.2
  omega
theorem at_at {k l j : Nat} {m n : Lw.C7} {p : Lw.C3} (hm : sz7 k m) (hn : sz7 l n) (hp : sz3 j p) (wm : m.w ≠ 0) (wn : n.w ≠ 0) (up : p.u ≠ 0) (hk : k ≤ 100) (hl : l ≤ 100) (hj : j ≤ 1000) :
    ∃ r r', r = Lw.low3 (Lw.at_ m p) ∧ r' = Lw.low3 (Lw.at_ n r) ∧ F__law_chart_at [v7 m, v3 p] = .ok (v3 r) ∧ F__law_chart_at [v7 n, v3 r] = .ok (v3 r') ∧ sz3 (l * (3 * (k * j)) + l * (3 * (k * j)) + l * (3 * (k * j))) r' ∧ 0 < r'.u := by
  have e1 := chart_at_ok hm hp (by omega) (by omega) wm up
  have u1 := Lw.at_u wm up
  have s1 := low_sz3 u1 (at_sz hm hp)
  have L1 := Lw.low3_low u1
  have hkj : k * j ≤ 100 * 1000 := Nat.mul_le_mul hk hj
  have hh : k * j + k * j + k * j = 3 * (k * j) := by omega
  rw [hh] at s1
  have e2 := chart_at_ok hn s1 (by omega) (by omega) wn (by have := L1.u; omega)
  have u2 := Lw.at_u wn (p := Lw.low3 (Lw.at_ m p)) (by have := L1.u; omega)
  exact ⟨_, _, rfl, rfl, e1, e2, low_sz3 u2 (at_sz hn s1), (Lw.low3_low u2).u⟩
theorem gN : gIsNot .none .none = some (.bool false) := by kernel_rfl
theorem sh3 (p : Lw.C3) : SeqAt.shaped (v3 p) = true := sh_tupI p.l
theorem sh7 (p : Lw.C7) : SeqAt.shaped (v7 p) = true := sh_tupI p.l
def pts : List Lw.C3 := [⟨0, 0, 1⟩, ⟨1, 0, 1⟩, ⟨0, 1, 1⟩]
theorem pts_sm : ∀ p ∈ pts, smP p := fun p hp => by
  simp only [pts, List.mem_cons, List.not_mem_nil, or_false] at hp
  rcases hp with rfl | rfl | rfl <;> exact ⟨by decide, by decide, by decide⟩
theorem right_ok {B : Int} {d : PyData} (h : St B d) (hB : B < 1000000 + 1000) : ∃ d', F__law_right d [] = .ok (.bool true, d') ∧ St (B + 100) d' := by
  obtain ⟨one, d1, e1, C1, S1⟩ := chartS h (by omega) 4 (by decide) (by decide)
  obtain ⟨other, d2, e2, C2, S2⟩ := chartS S1 (by omega) 4 (by decide) (by decide)
  obtain ⟨pt, d3, e3, C3, S3⟩ := pointS S2 (by omega)
  have w1 : one.w ≠ 0 := by have := C1.2.1.w; omega
  have w2 : other.w ≠ 0 := by have := C2.2.1.w; omega
  have u3 : pt.u ≠ 0 := by have := C3.2.u; omega
  let P : Out → Prop := fun o => ∃ d' ρ', o = .rt (.bool true) (.io d' :: ρ') ∧ St (B + 100) d'
  have fin : P (lr [.io d, .un, .un, .un, .un, .un, .un, .un]) := by
    unfold lr
    refine seq_nx (ρ' := [.io d3, .sh (v7 one), .sh (v7 other), .sh (v3 pt), .un, .un, .un, .un]) (by
      unfold lr0
      generalize v7 one = A at *
      generalize v7 other = A2 at *
      generalize v3 pt = A3 at *
      simp (decide := true) [e1, e2, e3]) ?_
    clear e1 e2 e3
    have n1 := need_chart_ok C1.ok
    have n2 := need_chart_ok C2.ok
    refine seq_nx (ρ' := [.io d3, .sh (v7 one), .sh (v7 other), .sh (v3 pt), .un, .un, .un, .un]) (by
      unfold lr1
      generalize v7 one = A at *
      generalize v7 other = A2 at *
      generalize v3 pt = A3 at *
      simp (decide := true) [n1, n2, gN]) ?_
    have e4 := chart_at_ok C1.1 C3.1 (by decide) (by decide) w1 u3
    refine seq_nx (ρ' := [.io d3, .sh (v7 one), .sh (v7 other), .sh (v3 pt), .sh (v3 (Lw.low3 (Lw.at_ one pt))), .un, .un, .un]) (by
      unfold lr2
      generalize v3 (Lw.low3 (Lw.at_ one pt)) = D at *
      generalize v7 one = A at *
      generalize v7 other = A2 at *
      generalize v3 pt = A3 at *
      simp (decide := true) [e4]) ?_
    have e5 := charted_ok C1.ok C3.ok
    have s5 := low_sz3 (Lw.at_u w1 u3) (at_sz C1.1 C3.1)
    obtain ⟨t5, g5, g6⟩ := repr_self (shwI2 (ns := (Lw.low3 (Lw.at_ one pt)).l) (fun n hn => Nat.lt_of_le_of_lt (s5.all (Nat.le_refl _) n hn) (by decide)) (by simp [Lw.C3.l, Lw.C7.l]))
    have g5' : gRepr [.list [v3 (Lw.low3 (Lw.at_ one pt)), v3 (Lw.low3 (Lw.at_ one pt))]] = some t5 := g5
    refine seq_nx (ρ' := [.io d3, .sh (v7 one), .sh (v7 other), .sh (v3 pt), .sh (v3 (Lw.low3 (Lw.at_ one pt))), .un, .un, .un]) (by
      unfold lr3
      clear g5
      generalize v3 (Lw.low3 (Lw.at_ one pt)) = D at *
      generalize v7 one = A at *
      generalize v7 other = A2 at *
      generalize v3 pt = A3 at *
      simp (decide := true) [e5, g5', g6]) ?_
    clear e4 e5 s5 g5 g6 g5'
    generalize v3 (Lw.low3 (Lw.at_ one pt)) = D4
    refine seq_nx (ρ' := [.io d3, .sh (v7 one), .sh (v7 other), .sh (v3 pt), .sh D4, .ow (.list (pts.map v3)), .un, .un]) (by
      unfold lr4 pts
      simp (decide := true)) ?_
    obtain ⟨r0, q0, hr0, hq0, a0, b0, z0, u0⟩ := at_at (p := ⟨0, 0, 1⟩) (j := 1) C1.1 C2.1 (by decide) w1 w2 (by decide) (by decide) (by decide) (by decide)
    obtain ⟨r1, q1, hr1, hq1, a1, b1, z1, u1⟩ := at_at (p := ⟨1, 0, 1⟩) (j := 1) C1.1 C2.1 (by decide) w1 w2 (by decide) (by decide) (by decide) (by decide)
    obtain ⟨r2, q2, hr2, hq2, a2, b2, z2, u2⟩ := at_at (p := ⟨0, 1, 1⟩) (j := 1) C1.1 C2.1 (by decide) w1 w2 (by decide) (by decide) (by decide) (by decide)
    have by1 := by_ok z0 z1 z2 (by decide) u0 u1 u2
    have by2 := Lw.by_then w1 w2
    rw [← hr0, ← hr1, ← hr2, ← hq0, ← hq1, ← hq2] at by2
    rw [by2] at by1
    refine seq_nx (ρ' := [.io d3, .sh (v7 one), .sh (v7 other), .sh (v3 pt), .sh (v7 (Lw.low7 (Lw.then_ one other))), .sh (.list (pts.map v3)), .un, .un]) (by
      unfold lr5 pts
      clear hr0 hr1 hr2 hq0 hq1 hq2 by2 z0 z1 z2 u0 u1 u2
      generalize v3 r0 = R0 at *
      generalize v3 r1 = R1 at *
      generalize v3 r2 = R2 at *
      generalize v3 q0 = Q0 at *
      generalize v3 q1 = Q1 at *
      generalize v3 q2 = Q2 at *
      generalize v7 (Lw.low7 (Lw.then_ one other)) = D at *
      generalize v7 one = A at *
      generalize v7 other = A2 at *
      generalize v3 pt = A3 at *
      simp (decide := true) [compF, a0, a1, a2, b0, b1, b2, by1]) ?_
    clear hr0 hr1 hr2 hq0 hq1 hq2 by1 by2 z0 z1 z2 u0 u1 u2 a0 a1 a2 b0 b1 b2
    have hw6 : (Lw.then_ one other).w ≠ 0 := Lw.mul_ne w1 w2
    have s6 := low_sz7 hw6 (then_sz C1.1 C2.1)
    have o6 : okC (Lw.low7 (Lw.then_ one other)) := ⟨s6.all (by decide), Lw.low7_low hw6, low_det hw6 (then_det C1.2.2 C2.2.2)⟩
    have e6 := then_ok C1.ok C2.ok o6
    obtain ⟨t6, g5, g6⟩ := repr_self (shwI2 (ns := (Lw.low7 (Lw.then_ one other)).l) (fun n hn => Nat.lt_of_le_of_lt (s6.all (Nat.le_refl _) n hn) (by decide)) (by simp [Lw.C3.l, Lw.C7.l]))
    have g5' : gRepr [.list [v7 (Lw.low7 (Lw.then_ one other)), v7 (Lw.low7 (Lw.then_ one other))]] = some t6 := g5
    refine seq_nx (ρ' := [.io d3, .sh (v7 one), .sh (v7 other), .sh (v3 pt), .sh (v7 (Lw.low7 (Lw.then_ one other))), .sh (.list (pts.map v3)), .un, .un]) (by
      unfold lr6
      clear g5
      generalize v7 (Lw.low7 (Lw.then_ one other)) = D at *
      generalize v7 one = A at *
      generalize v7 other = A2 at *
      generalize v3 pt = A3 at *
      simp (decide := true) [e6, g5', g6]) ?_
    clear e6 s6 g5 g6 g5' o6
    generalize v7 (Lw.low7 (Lw.then_ one other)) = D6
    obtain ⟨s7, o7, e7⟩ := small_back C1
    obtain ⟨x1, x2⟩ := then_both C1.ok o7
    have wb : (Lw.low7 (Lw.back_ one)).w ≠ 0 := by have := o7.2.1.w; omega
    have n7 := need_chart_ok o7
    obtain ⟨t7, g7, g8⟩ := repr_self (shwI (ns := (Lw.low7 (Lw.back_ one)).l) (fun n hn => Nat.lt_of_le_of_lt (s7.all (Nat.le_refl _) n hn) (by decide)) (by simp [Lw.C3.l, Lw.C7.l]))
    have g7' : gRepr [v7 (Lw.low7 (Lw.back_ one))] = some t7 := g7
    have there : ∀ p, smP p → ∃ r r', F__law_chart_at [v7 one, v3 p] = .ok r ∧ F__law_chart_at [v7 (Lw.low7 (Lw.back_ one)), r] = .ok (v3 p) ∧ F__law_chart_at [v7 (Lw.low7 (Lw.back_ one)), v3 p] = .ok r' ∧ F__law_chart_at [v7 one, r'] = .ok (v3 p) := fun p hp => by
      have up : p.u ≠ 0 := by have := hp.2.u; omega
      obtain ⟨r0, q0, hr0, hq0, a0, b0, _, _⟩ := at_at (p := p) C1.1 s7 hp.1 w1 wb up (by decide) (by decide) (by decide)
      obtain ⟨r1, q1, hr1, hq1, a1, b1, _, _⟩ := at_at (p := p) s7 C1.1 hp.1 wb w1 up (by decide) (by decide) (by decide)
      rw [hr0, Lw.at_back w1 C1.2.2 hp.2] at hq0
      rw [hr1, Lw.back_at w1 C1.2.2 hp.2] at hq1
      rw [hq0] at b0
      rw [hq1] at b1
      exact ⟨_, _, a0, b0, a1, b1⟩
    have idd : F_chart_then [v7 one, v7 (Lw.low7 (Lw.back_ one))] = .ok (.tuple [.int 1, .int 0, .int 0, .int 1, .int 0, .int 0, .int 1]) ∧ F_chart_then [v7 (Lw.low7 (Lw.back_ one)), v7 one] = .ok (.tuple [.int 1, .int 0, .int 0, .int 1, .int 0, .int 0, .int 1]) := ⟨x1, x2⟩
    clear x1 x2 g7 s7 o7 wb
    generalize v7 (Lw.low7 (Lw.back_ one)) = BK at *
    refine seq_nx (ρ' := [.io d3, .sh (v7 one), .sh (v7 other), .sh (v3 pt), .sh D6, .sh (.list (pts.map v3)), .un, .sh BK]) (by
      unfold lr7
      generalize v7 one = A at *
      generalize v7 other = A2 at *
      generalize v3 pt = A3 at *
      simp (decide := true) [e7]) ?_
    refine seq_nx (ρ' := [.io d3, .sh (v7 one), .sh (v7 other), .sh (v3 pt), .sh D6, .sh (.list (pts.map v3)), .un, .sh BK]) (by
      unfold lr8
      generalize v7 one = A at *
      generalize v7 other = A2 at *
      generalize v3 pt = A3 at *
      simp (decide := true) [e7, g7', g8, n7, gN]) ?_
    obtain ⟨ρ9, e9, t9, rfl⟩ := for_run (k := 0) (I := fun _ ρ => ∃ (t : Sl), ρ = [.io d3, .sh (v7 one), .sh (v7 other), .sh (v3 pt), .sh D6, .sh (.list (pts.map v3)), t, .sh BK]) (g := tNm 6) (b := lr9B) (ds := (pts ++ [pt]).map v3) (ρ := [.io d3, .sh (v7 one), .sh (v7 other), .sh (v3 pt), .sh D6, .sh (.list (pts.map v3)), .un, .sh BK]) (fun i x ρ hx hJ => by
      obtain ⟨t, rfl⟩ := hJ
      obtain ⟨p, hp, rfl⟩ := List.mem_map.mp (List.mem_of_getElem? hx)
      have sp : smP p := by
        rcases List.mem_append.mp hp with hp | hp
        · exact pts_sm p hp
        · rw [List.mem_singleton.mp hp]; exact C3
      obtain ⟨r, r', a0, b0, a1, b1⟩ := there p sp
      have nn := gNe_self (sh3 p)
      refine ⟨_, _, rfl, .inl (?_ : lr9B [.io d3, .sh (v7 one), .sh (v7 other), .sh (v3 pt), .sh D6, .sh (.list (pts.map v3)), .sh (v3 p), .sh BK] = .nx [.io d3, .sh (v7 one), .sh (v7 other), .sh (v3 pt), .sh D6, .sh (.list (pts.map v3)), .sh (v3 p), .sh BK]), _, rfl⟩
      unfold lr9B lr9B0
      clear there hx hp sp
      generalize pts.map v3 = L at *
      generalize v3 p = X at *
      generalize v7 one = A at *
      generalize v7 other = A2 at *
      generalize v3 pt = A3 at *
      simp (decide := true) [a0, b0, a1, b1, nn]) ⟨.un, rfl⟩
    refine seq_nx (ρ' := [.io d3, .sh (v7 one), .sh (v7 other), .sh (v3 pt), .sh D6, .sh (.list (pts.map v3)), t9, .sh BK]) (by
      unfold lr9
      have ga : gAdd (.list (pts.map v3)) (.list [v3 pt]) = some (.list ((pts ++ [pt]).map v3)) := by rw [addL (by simp [pts]), List.map_append]; rfl
      clear there
      generalize (pts ++ [pt]).map v3 = L2 at *
      generalize pts.map v3 = L at *
      generalize lr9B = LB at *
      generalize v7 one = A at *
      generalize v7 other = A2 at *
      generalize v3 pt = A3 at *
      simp (decide := true) [ga, e9]) ?_
    have kk : gEq (.tuple [.int 1, .int 0, .int 0, .int 1, .int 0, .int 0, .int 1]) (.tuple [.int 1, .int 0, .int 0, .int 1, .int 0, .int 0, .int 1]) = some (.bool true) := by kernel_rfl
    refine ⟨d3, [.io d3, .sh (v7 one), .sh (v7 other), .sh (v3 pt), .sh D6, .sh (.list (pts.map v3)), t9, .sh BK].tail, ?_, S3.mono (by omega)⟩
    unfold lr10
    obtain ⟨i1, i2⟩ := idd
    clear there e9
    generalize pts.map v3 = L at *
    generalize v7 one = A at *
    generalize v7 other = A2 at *
    generalize v3 pt = A3 at *
    simp (decide := true) [i1, i2, kk]
  obtain ⟨d', ρ', ef, S'⟩ := fin
  refine ⟨d', ?_, S'⟩
  have st : startS n__law_right d [] = [.io d, .un, .un, .un, .un, .un, .un, .un] := rfl
  unfold F__law_right fnS
  rw [lr_eq, st, ef]
  simp [outS, ioOnly]
end K14


namespace K14
open PySem PySem.Spec PyProof.Rows L2 Y
/-! ### bounds -/
def ll0 : SF := sAsg (fOp gMul (fOp gPow (fC (.int 10)) (fC (.int 6))) (fOp gAdd (fC (.int 1)) (fCallS F__law_digit 0 (fCons (fC (.int 9)) fNil)))) (tNm 1)
def ll1 : SF := sIf (fB (fOp gNe (fCall F_chart_back (fCons (fTup (fCons (fNm 1) (fCons (fC (.int 0)) (fCons (fC (.int 0)) (fCons (fNm 1) (fCons (fC (.int 0)) (fCons (fC (.int 0)) (fCons (fC (.int 1)) fNil)))))))) fNil)) (fTup (fCons (fC (.int 1)) (fCons (fC (.int 0)) (fCons (fC (.int 0)) (fCons (fC (.int 1)) (fCons (fC (.int 0)) (fCons (fC (.int 0)) (fCons (fNm 1) fNil)))))))))) (sRet (fC (.bool false))) sNil
def ll2 : SF := sPar [2, 3] [false, false] (fCons (fOp gAdd (fOp gPow (fC (.int 10)) (fC (.int 6))) (fCallS F__law_digit 0 (fCons (fC (.int 9)) fNil))) (fCons (fCallS F__law_digit 0 (fCons (fC (.int 100)) fNil)) fNil))
def ll3B0 : SF := sAsg (fCall F_chart_back (fCons (fNm 4) fNil)) (tNm 5)
def ll3B1 : SF := sIf (fOr (fB (fOp gNe (fCall F_chart_then (fCons (fNm 4) (fCons (fNm 5) fNil))) (fTup (fCons (fC (.int 1)) (fCons (fC (.int 0)) (fCons (fC (.int 0)) (fCons (fC (.int 1)) (fCons (fC (.int 0)) (fCons (fC (.int 0)) (fCons (fC (.int 1)) fNil)))))))))) (fB (fOp gNe (fCall F_chart_then (fCons (fNm 5) (fCons (fNm 4) fNil))) (fTup (fCons (fC (.int 1)) (fCons (fC (.int 0)) (fCons (fC (.int 0)) (fCons (fC (.int 1)) (fCons (fC (.int 0)) (fCons (fC (.int 0)) (fCons (fC (.int 1)) fNil))))))))))) (sRet (fC (.bool false))) sNil
def ll3B : SF := (sSeq ll3B0 ll3B1)
def ll3 : SF := sFor (fItems (fTup (fCons (fTup (fCons (fOp gMul (fC (.int 3)) (fNm 1)) (fCons (fC (.int 0)) (fCons (fC (.int 0)) (fCons (fOp gMul (fC (.int 3)) (fNm 1)) (fCons (fC (.int 1)) (fCons (fC (.int 0)) (fCons (fOp gPow (fC (.int 10)) (fC (.int 6))) fNil)))))))) (fCons (fTup (fCons (fC (.int 1)) (fCons (fC (.int 0)) (fCons (fC (.int 0)) (fCons (fC (.int 1)) (fCons (fNm 3) (fCons (fC (.int 1)) (fCons (fNm 2) fNil)))))))) (fCons (fTup (fCons (fC (.int 0)) (fCons (fNm 2) (fCons (fNm 2) (fCons (fC (.int 0)) (fCons (fC (.int 1)) (fCons (fNm 3) (fCons (fC (.int 1)) fNil)))))))) fNil))))) (tNm 4) ll3B
def ll4 : SF := sRet (fC (.bool true))
def ll : SF := (sSeq ll0 (sSeq ll1 (sSeq ll2 (sSeq ll3 ll4))))
theorem ll_eq : g__law_lowered_right = ll := rfl
def lb0 : SF := sAsg (fTup (fCons (fOp gPow (fC (.int 10)) (fC (.int 12))) (fCons (fOp gAdd (fC (.int 1)) (fCallS F__law_digit 0 (fCons (fC (.int 3)) fNil))) fNil))) (tTp 2 (tsCons (tNm 1) (tsCons (tNm 2) tsNil)))
def lb1 : SF := sAsg (fTup (fCons (fTup (fCons (fNm 1) (fCons (fC (.int 0)) (fCons (fC (.int 0)) (fCons (fC (.int 1)) (fCons (fC (.int 0)) (fCons (fC (.int 0)) (fCons (fC (.int 1)) fNil)))))))) (fCons (fTup (fCons (fC (.int 1)) (fCons (fC (.int 0)) (fCons (fC (.int 0)) (fCons (fC (.int 1)) (fCons (fOp gSub (fC (.int 0)) (fNm 1)) (fCons (fNm 1) (fCons (fNm 2) fNil)))))))) fNil))) (tTp 2 (tsCons (tNm 3) (tsCons (tNm 4) tsNil)))
def lb2 : SF := sIf (fOr (fB (fOp gIsNot (fCall F_need_chart (fCons (fNm 3) fNil)) (fC .none))) (fB (fOp gNe (fLam [4] F__law_heard (fCall F_need_chart (fCons (fCall F__law_lowest (fCons (fNm 4) fNil)) fNil))) (fLst (fCons (fC .none) fNil))))) (sRet (fC (.bool false))) sNil
def lb3 : SF := sAsg (fTup (fCons (fOp gAdd (fNm 1) (fC (.int 1))) (fCons (fC (.int 0)) (fCons (fC (.int 0)) (fCons (fC (.int 1)) (fCons (fC (.int 0)) (fCons (fC (.int 0)) (fCons (fC (.int 1)) fNil)))))))) (tNm 5)
def lb4 : SF := sIf (fB (fOp gNe (fLam [5] F__law_heard (fCall F_need_chart (fCons (fNm 5) fNil))) (fTup (fCons (fC (.str "number")) (fCons (fNm 5) fNil))))) (sRet (fC (.bool false))) sNil
def lb5 : SF := sIf (fOr (fB (fOp gNe (fCall F_chart_then (fCons (fNm 3) (fCons (fTup (fCons (fC (.int 1)) (fCons (fC (.int 0)) (fCons (fC (.int 0)) (fCons (fC (.int 1)) (fCons (fC (.int 0)) (fCons (fC (.int 0)) (fCons (fC (.int 1)) fNil)))))))) fNil))) (fNm 3))) (fB (fOp gNe (fCall F_chart_back (fCons (fNm 3) fNil)) (fTup (fCons (fC (.int 1)) (fCons (fC (.int 0)) (fCons (fC (.int 0)) (fCons (fNm 1) (fCons (fC (.int 0)) (fCons (fC (.int 0)) (fCons (fNm 1) fNil))))))))))) (sRet (fC (.bool false))) sNil
def lb6 : SF := sIf (fB (fOp gNe (fLam [3] F__law_heard (fCall F_chart_then (fCons (fNm 3) (fCons (fTup (fCons (fC (.int 2)) (fCons (fC (.int 0)) (fCons (fC (.int 0)) (fCons (fC (.int 1)) (fCons (fC (.int 0)) (fCons (fC (.int 0)) (fCons (fC (.int 1)) fNil)))))))) fNil)))) (fTup (fCons (fC (.str "many")) (fCons (fNm 1) fNil))))) (sRet (fC (.bool false))) sNil
def lb7 : SF := sAsg (fTup (fCons (fC (.int 1)) (fCons (fC (.int 0)) (fCons (fC (.int 0)) (fCons (fC (.int 1)) (fCons (fNm 1) (fCons (fC (.int 0)) (fCons (fC (.int 1)) fNil)))))))) (tNm 6)
def lb8 : SF := sIf (fB (fOp gNe (fLam [2, 6] F__law_heard (fCall F_chart_then (fCons (fNm 6) (fCons (fTup (fCons (fC (.int 1)) (fCons (fC (.int 0)) (fCons (fC (.int 0)) (fCons (fC (.int 1)) (fCons (fNm 2) (fCons (fC (.int 0)) (fCons (fC (.int 1)) fNil)))))))) fNil)))) (fTup (fCons (fC (.str "many")) (fCons (fNm 1) fNil))))) (sRet (fC (.bool false))) sNil
def lb9 : SF := sIf (fB (fOp gNe (fCall F_chart_then (fCons (fNm 6) (fCons (fTup (fCons (fC (.int 1)) (fCons (fC (.int 0)) (fCons (fC (.int 0)) (fCons (fC (.int 1)) (fCons (fOp gSub (fC (.int 0)) (fNm 2)) (fCons (fC (.int 0)) (fCons (fC (.int 1)) fNil)))))))) fNil))) (fTup (fCons (fC (.int 1)) (fCons (fC (.int 0)) (fCons (fC (.int 0)) (fCons (fC (.int 1)) (fCons (fOp gSub (fNm 1) (fNm 2)) (fCons (fC (.int 0)) (fCons (fC (.int 1)) fNil)))))))))) (sRet (fC (.bool false))) sNil
def lb10 : SF := sIf (fB (fOp gNe (fLam [1] F__law_heard (fCall F_chart_back (fCons (fTup (fCons (fNm 1) (fCons (fC (.int 1)) (fCons (fC (.int 1)) (fCons (fNm 1) (fCons (fC (.int 0)) (fCons (fC (.int 0)) (fCons (fC (.int 1)) fNil)))))))) fNil))) (fTup (fCons (fC (.str "many")) (fCons (fNm 1) fNil))))) (sRet (fC (.bool false))) sNil
def lb11B0B0 : SF := sAsg (fOp gAdd (fOp gAdd (fSl (fTup (fCons (fC (.int 1)) (fCons (fC (.int 0)) (fCons (fC (.int 0)) (fCons (fC (.int 1)) (fCons (fC (.int 0)) (fCons (fC (.int 0)) (fCons (fC (.int 1)) fNil)))))))) oNo (oEx (fNm 7))) (fTup (fCons (fNm 8) fNil))) (fSl (fTup (fCons (fC (.int 1)) (fCons (fC (.int 0)) (fCons (fC (.int 0)) (fCons (fC (.int 1)) (fCons (fC (.int 0)) (fCons (fC (.int 0)) (fCons (fC (.int 1)) fNil)))))))) (oEx (fOp gAdd (fNm 7) (fC (.int 1)))) oNo)) (tNm 9)
def lb11B0B1 : SF := sIf (fB (fOp gNe (fLam [9] F__law_heard (fCall F_need_chart (fCons (fNm 9) fNil))) (fTup (fCons (fC (.str "number")) (fCons (fNm 9) fNil))))) (sRet (fC (.bool false))) sNil
def lb11B0B : SF := (sSeq lb11B0B0 lb11B0B1)
def lb11B0 : SF := sFor (fItems (fTup (fCons (fOp gAdd (fNm 1) (fC (.int 1))) (fCons (fOp gSub (fOp gSub (fC (.int 0)) (fNm 1)) (fC (.int 1))) fNil)))) (tNm 8) lb11B0B
def lb11B : SF := lb11B0
def lb11 : SF := sFor (fRng (fCons (fC (.int 7)) fNil)) (tNm 7) lb11B
def lb12 : SF := sRet (fCallS F__law_lowered_right 0 fNil)
def lb : SF := (sSeq lb0 (sSeq lb1 (sSeq lb2 (sSeq lb3 (sSeq lb4 (sSeq lb5 (sSeq lb6 (sSeq lb7 (sSeq lb8 (sSeq lb9 (sSeq lb10 (sSeq lb11 lb12))))))))))))
theorem lb_eq : g__law_bounds_right = lb := rfl
abbrev idv : PyData := .tuple [.int 1, .int 0, .int 0, .int 1, .int 0, .int 0, .int 1]
theorem bk {m n : Lw.C7} {q x : Int} (hm : okC m) (hn : Lw.Low7 n) (bn : bd n) (S : Lw.Sc7 (Lw.back_ m) n q) (hx : x ∈ (Lw.back_ m).l) (x0 : x ≠ 0) (x1 : x.natAbs < 1073741824) : F_chart_back [v7 m] = .ok (v7 n) ∧ F_chart_then [v7 m, v7 n] = .ok idv ∧ F_chart_then [v7 n, v7 m] = .ok idv := by
  have w0 : m.w ≠ 0 := by have := hm.2.1.w; omega
  have h0 : (Lw.back_ m).w ≠ 0 := hm.2.2
  have e : Lw.low7 (Lw.back_ m) = n := Lw.low7_is (p := 1) (q := q) h0 hn (by decide) (by rw [Int.one_mul]; exact S.a) (by rw [Int.one_mul]; exact S.b) (by rw [Int.one_mul]; exact S.c) (by rw [Int.one_mul]; exact S.d) (by rw [Int.one_mul]; exact S.e) (by rw [Int.one_mul]; exact S.f) (by rw [Int.one_mul]; exact S.w)
  have dt := low_det h0 (back_det w0 hm.2.2)
  rw [e] at dt
  have ok : okC n := ⟨bn, hn, dt⟩
  have b := back_ok hm (div_small h0 hx x0 x1) (by rw [e]; exact ok)
  have t := then_both hm (by rw [e]; exact ok)
  rw [e] at b t
  exact ⟨b, t⟩
theorem bd7 {a b c d e f w : Int} (ha : a.natAbs ≤ 1000000000000) (hb : b.natAbs ≤ 1000000000000) (hc : c.natAbs ≤ 1000000000000) (hd : d.natAbs ≤ 1000000000000) (he : e.natAbs ≤ 1000000000000) (hf : f.natAbs ≤ 1000000000000) (hw : w.natAbs ≤ 1000000000000) : bd ⟨a, b, c, d, e, f, w⟩ := by
  intro n hn
  simp only [Lw.C7.l, List.mem_cons, List.not_mem_nil, or_false] at hn
  rcases hn with rfl | rfl | rfl | rfl | rfl | rfl | rfl <;> assumption
theorem lowered_ok {B : Int} {d : PyData} (h : St B d) (hB : B < 1000000 + 3000) : ∃ d', F__law_lowered_right d [] = .ok (.bool true, d') ∧ St (B + 12) d' := by
  obtain ⟨t, d1, e1, t0, t1, S1⟩ := digS h 9 (by decide) (by decide) (by omega)
  obtain ⟨t', d2, e2, t0', t1', S2⟩ := digS S1 9 (by decide) (by decide) (by omega)
  obtain ⟨g, d3, e3, g0, g1, S3⟩ := digS S2 100 (by decide) (by decide) (by omega)
  have p6 : gPow (.int 10) (.int 6) = some (.int 1000000) := by kernel_rfl
  have m6 : ∀ j, mulOk 1000000 j = true := fun j => mulOk_l (by decide)
  have m3 : ∀ j, mulOk 3 j = true := fun j => mulOk_l (by decide)
  let P : Out → Prop := fun o => ∃ d' ρ', o = .rt (.bool true) (.io d' :: ρ') ∧ St (B + 12) d'
  have fin : P (ll [.io d, .un, .un, .un, .un, .un]) := by
    unfold ll
    obtain ⟨w, hw⟩ : ∃ w : Int, w = 1000000 * (1 + t) := ⟨_, rfl⟩
    obtain ⟨b, hb⟩ : ∃ b : Int, b = 1000000 + t' := ⟨_, rfl⟩
    refine seq_nx (ρ' := [.io d1, .sh (.int w), .un, .un, .un, .un]) (by
      unfold ll0
      rw [hw]
      simp (decide := true) [p6, m6, e1]) ?_
    have w1 : 1000000 ≤ w ∧ w ≤ 9000000 := by omega
    have b1 : 1000000 ≤ b ∧ b ≤ 1000008 := by omega
    have wz : w ≠ 0 := by omega
    have bz : b ≠ 0 := by omega
    have k1 := bk (m := ⟨w, 0, 0, w, 0, 0, 1⟩) (n := ⟨1, 0, 0, 1, 0, 0, w⟩) (q := w) (x := w) ⟨bd7 (by omega) (by decide) (by decide) (by omega) (by decide) (by decide) (by decide), ⟨by dsimp only; decide, Lw.gcdF_one _ _ ⟨1, by simp [Lw.C7.l], rfl⟩⟩, by dsimp only; rw [Int.mul_zero, Int.sub_zero]; exact Lw.mul_ne wz wz⟩
      ⟨by dsimp only; omega, Lw.gcdF_one _ _ ⟨1, by simp [Lw.C7.l], rfl⟩⟩ (bd7 (by decide) (by decide) (by decide) (by decide) (by decide) (by decide) (by omega)) (by constructor <;> dsimp only [Lw.back_] <;> grind) (by simp [Lw.C7.l, Lw.back_]) wz (by omega)
    have q1 : gNe (v7 ⟨1, 0, 0, 1, 0, 0, w⟩) (v7 ⟨1, 0, 0, 1, 0, 0, w⟩) = some (.bool false) := gNe_self (sh7 _)
    refine seq_nx (ρ' := [.io d1, .sh (.int w), .un, .un, .un, .un]) (by
      unfold ll1
      have k := k1.1
      unfold v7 at k q1
      dsimp only at k q1
      simp (decide := true) [k, q1]) ?_
    clear k1 q1
    refine seq_nx (ρ' := [.io d3, .sh (.int w), .sh (.int b), .sh (.int g), .un, .un]) (by
      unfold ll2
      rw [hb]
      simp (decide := true) [p6, e2, e3]) ?_
    clear e1 e2 e3 hw hb
    have w3 : 3 * w ≠ 0 := by omega
    have z1 := bk (m := ⟨3 * w, 0, 0, 3 * w, 1, 0, 1000000⟩) (n := ⟨1000000, 0, 0, 1000000, -1, 0, 3 * w⟩) (q := 3 * w) (x := - (3 * w)) ⟨bd7 (by omega) (by decide) (by decide) (by omega) (by decide) (by decide) (by decide), ⟨by dsimp only; decide, Lw.gcdF_one _ _ ⟨1, by simp [Lw.C7.l], rfl⟩⟩, by dsimp only; rw [Int.mul_zero, Int.sub_zero]; exact Lw.mul_ne w3 w3⟩
      ⟨by dsimp only; omega, Lw.gcdF_one _ _ ⟨-1, by simp [Lw.C7.l], rfl⟩⟩ (bd7 (by decide) (by decide) (by decide) (by decide) (by decide) (by decide) (by omega)) (by constructor <;> dsimp only [Lw.back_] <;> grind) (by simp [Lw.C7.l, Lw.back_]) (by omega) (by omega)
    have z2 := bk (m := ⟨1, 0, 0, 1, g, 1, b⟩) (n := ⟨b, 0, 0, b, -g, -1, 1⟩) (q := 1) (x := 1) ⟨bd7 (by decide) (by decide) (by decide) (by decide) (by omega) (by decide) (by omega), ⟨by dsimp only; omega, Lw.gcdF_one _ _ ⟨1, by simp [Lw.C7.l], rfl⟩⟩, by dsimp only; decide⟩
      ⟨by dsimp only; decide, Lw.gcdF_one _ _ ⟨-1, by simp [Lw.C7.l], rfl⟩⟩ (bd7 (by omega) (by decide) (by decide) (by omega) (by omega) (by decide) (by decide)) (by constructor <;> dsimp only [Lw.back_] <;> grind) (by simp [Lw.C7.l, Lw.back_]) (by decide) (by decide)
    have z3 := bk (m := ⟨0, b, b, 0, 1, g, 1⟩) (n := ⟨0, 1, 1, 0, -g, -1, b⟩) (q := - b) (x := b) ⟨bd7 (by decide) (by omega) (by omega) (by decide) (by decide) (by omega) (by decide), ⟨by dsimp only; decide, Lw.gcdF_one _ _ ⟨1, by simp [Lw.C7.l], rfl⟩⟩, by dsimp only; rw [Int.mul_zero, Int.zero_sub]; have := Lw.mul_ne bz bz; omega⟩
      ⟨by dsimp only; omega, Lw.gcdF_one _ _ ⟨-1, by simp [Lw.C7.l], rfl⟩⟩ (bd7 (by decide) (by decide) (by decide) (by decide) (by omega) (by decide) (by omega)) (by constructor <;> dsimp only [Lw.back_] <;> grind) (by simp [Lw.C7.l, Lw.back_]) bz (by omega)
    have all : ∀ x ∈ [v7 ⟨3 * w, 0, 0, 3 * w, 1, 0, 1000000⟩, v7 ⟨1, 0, 0, 1, g, 1, b⟩, v7 ⟨0, b, b, 0, 1, g, 1⟩], ∃ y, F_chart_back [x] = .ok y ∧ F_chart_then [x, y] = .ok idv ∧ F_chart_then [y, x] = .ok idv := fun x hx => by
      simp only [List.mem_cons, List.not_mem_nil, or_false] at hx
      rcases hx with rfl | rfl | rfl
      · exact ⟨_, z1⟩
      · exact ⟨_, z2⟩
      · exact ⟨_, z3⟩
    clear z1 z2 z3
    have kk : gNe idv idv = some (.bool false) := by kernel_rfl
    obtain ⟨ρ9, e9, t4, t5, rfl⟩ := for_run (k := 0) (I := fun _ ρ => ∃ (t4 t5 : Sl), ρ = [.io d3, .sh (.int w), .sh (.int b), .sh (.int g), t4, t5]) (g := tNm 4) (b := ll3B) (ds := [v7 ⟨3 * w, 0, 0, 3 * w, 1, 0, 1000000⟩, v7 ⟨1, 0, 0, 1, g, 1, b⟩, v7 ⟨0, b, b, 0, 1, g, 1⟩]) (ρ := [.io d3, .sh (.int w), .sh (.int b), .sh (.int g), .un, .un]) (fun i x ρ hx hJ => by
      obtain ⟨t4, t5, rfl⟩ := hJ
      obtain ⟨y, y1, y2, y3⟩ := all x (List.mem_of_getElem? hx)
      refine ⟨_, _, rfl, .inl (?_ : ll3B [.io d3, .sh (.int w), .sh (.int b), .sh (.int g), .sh x, t5] = .nx [.io d3, .sh (.int w), .sh (.int b), .sh (.int g), .sh x, .sh y]), _, _, rfl⟩
      clear all hx
      unfold ll3B ll3B0 ll3B1
      simp (decide := true) [y1, y2, y3, kk]) ⟨.un, .un, rfl⟩
    refine seq_nx (ρ' := [.io d3, .sh (.int w), .sh (.int b), .sh (.int g), t4, t5]) (by
      unfold ll3
      clear all
      generalize ll3B = LB at *
      unfold v7 at e9
      dsimp only at e9
      simp (decide := true) [p6, m3, e9]) ?_
    exact ⟨d3, _, by unfold ll4; simp (decide := true); rfl, S3.mono (by omega)⟩
  obtain ⟨d', ρ', ef, S'⟩ := fin
  refine ⟨d', ?_, S'⟩
  have st : startS n__law_lowered_right d [] = [.io d, .un, .un, .un, .un, .un] := rfl
  unfold F__law_lowered_right fnS
  rw [ll_eq, st, ef]
  simp [outS, ioOnly]
abbrev MM : PyData := .int 1000000000000
abbrev wideD : PyData := .tuple [MM, .int 0, .int 0, .int 1, .int 0, .int 0, .int 1]
abbrev overD : PyData := .tuple [.int 1000000000001, .int 0, .int 0, .int 1, .int 0, .int 0, .int 1]
abbrev nearD : PyData := .tuple [.int 1, .int 0, .int 0, .int 1, MM, .int 0, .int 1]
abbrev wholeD (s : Int) : PyData := .tuple [.int 1, .int 0, .int 0, .int 1, .int (-1000000000000), MM, .int s]
abbrev lastD : PyData := .tuple [.int 1, .int 0, .int 0, .int 1, .int 0, .int 0, .int (-1000000000001)]
theorem bounds_ok {B : Int} {d : PyData} (h : St B d) (hB : B < 1000000 + 2000) : ∃ d', F__law_bounds_right d [] = .ok (.bool true, d') ∧ St (B + 16) d' := by
  obtain ⟨t, d1, e1, t0, t1, S1⟩ := digS h 3 (by decide) (by decide) (by omega)
  obtain ⟨d2, e2, S2⟩ := lowered_ok S1 (by omega)
  have pM : gPow (.int 10) (.int 12) = some MM := by kernel_rfl
  let P : Out → Prop := fun o => ∃ d' ρ', o = .rt (.bool true) (.io d' :: ρ') ∧ St (B + 16) d'
  have fin : P (lb [.io d, .un, .un, .un, .un, .un, .un, .un, .un, .un]) := by
    unfold lb
    obtain ⟨s, hs⟩ : ∃ s : Int, s = 1 + t := ⟨_, rfl⟩
    refine seq_nx (ρ' := [.io d1, .sh MM, .sh (.int s), .un, .un, .un, .un, .un, .un, .un]) (by
      unfold lb0
      rw [hs]
      simp (decide := true) [pM, e1]) ?_
    have s3 : s = 1 ∨ s = 2 ∨ s = 3 := by omega
    clear hs e1 S1 h
    refine seq_nx (ρ' := [.io d1, .sh MM, .sh (.int s), .sh wideD, .sh (wholeD s), .un, .un, .un, .un, .un]) (by
      unfold lb1
      simp (decide := true)) ?_
    refine seq_nx (ρ' := [.io d1, .sh MM, .sh (.int s), .sh wideD, .sh (wholeD s), .un, .un, .un, .un, .un]) (by
      clear e2 S2
      rcases s3 with rfl | rfl | rfl <;> kernel_rfl) ?_
    refine seq_nx (ρ' := [.io d1, .sh MM, .sh (.int s), .sh wideD, .sh (wholeD s), .sh overD, .un, .un, .un, .un]) (by kernel_rfl) ?_
    refine seq_nx (ρ' := [.io d1, .sh MM, .sh (.int s), .sh wideD, .sh (wholeD s), .sh overD, .un, .un, .un, .un]) (by kernel_rfl) ?_
    refine seq_nx (ρ' := [.io d1, .sh MM, .sh (.int s), .sh wideD, .sh (wholeD s), .sh overD, .un, .un, .un, .un]) (by kernel_rfl) ?_
    refine seq_nx (ρ' := [.io d1, .sh MM, .sh (.int s), .sh wideD, .sh (wholeD s), .sh overD, .un, .un, .un, .un]) (by kernel_rfl) ?_
    refine seq_nx (ρ' := [.io d1, .sh MM, .sh (.int s), .sh wideD, .sh (wholeD s), .sh overD, .sh nearD, .un, .un, .un]) (by kernel_rfl) ?_
    refine seq_nx (ρ' := [.io d1, .sh MM, .sh (.int s), .sh wideD, .sh (wholeD s), .sh overD, .sh nearD, .un, .un, .un]) (by
      clear e2 S2
      rcases s3 with rfl | rfl | rfl <;> kernel_rfl) ?_
    refine seq_nx (ρ' := [.io d1, .sh MM, .sh (.int s), .sh wideD, .sh (wholeD s), .sh overD, .sh nearD, .un, .un, .un]) (by
      clear e2 S2
      rcases s3 with rfl | rfl | rfl <;> kernel_rfl) ?_
    refine seq_nx (ρ' := [.io d1, .sh MM, .sh (.int s), .sh wideD, .sh (wholeD s), .sh overD, .sh nearD, .un, .un, .un]) (by kernel_rfl) ?_
    refine seq_nx (ρ' := [.io d1, .sh MM, .sh (.int s), .sh wideD, .sh (wholeD s), .sh overD, .sh nearD, .sh (.int 6), .sh (.int (-1000000000001)), .sh lastD]) (by kernel_rfl) ?_
    exact ⟨d2, _, by unfold lb12; simp (decide := true) [e2]; rfl, S2.mono (by omega)⟩
  obtain ⟨d', ρ', ef, S'⟩ := fin
  refine ⟨d', ?_, S'⟩
  have st : startS n__law_bounds_right d [] = [.io d, .un, .un, .un, .un, .un, .un, .un, .un, .un] := rfl
  unfold F__law_bounds_right fnS
  rw [lb_eq, st, ef]
  simp [outS, ioOnly]
end K14


namespace K14
open PySem PySem.Spec PyProof.Rows L2 Y
/-! ### refused; the law -/
def lf0 : SF := sAsg (fTup (fCons (fCallS F__law_chart 0 (fCons (fC (.int 3)) fNil)) (fCons (fLst (fCons (fC .none) (fCons (fTup fNil) (fCons (fLst (fCons (fC (.int 1)) (fCons (fC (.int 0)) (fCons (fC (.int 0)) (fCons (fC (.int 1)) (fCons (fC (.int 0)) (fCons (fC (.int 0)) (fCons (fC (.int 1)) fNil)))))))) (fCons (fTup (fCons (fC (.int 1)) (fCons (fC (.int 0)) (fCons (fC (.int 0)) (fCons (fC (.int 1)) (fCons (fC (.int 0)) (fCons (fC (.int 0)) fNil))))))) (fCons (fTup (fCons (fC (.int 1)) (fCons (fC (.int 0)) (fCons (fC (.int 0)) (fCons (fC (.int 1)) (fCons (fC (.int 0)) (fCons (fC (.int 0)) (fCons (fC (.int 0)) fNil)))))))) fNil)))))) fNil))) (tTp 2 (tsCons (tNm 1) (tsCons (tNm 2) tsNil)))
def lf1 : SF := sAsg (fOp gAdd (fNm 2) (fLst (fCons (fTup (fCons (fC (.int 2)) (fCons (fC (.int 0)) (fCons (fC (.int 0)) (fCons (fC (.int 2)) (fCons (fC (.int 0)) (fCons (fC (.int 0)) (fCons (fC (.int 2)) fNil)))))))) (fCons (fTup (fCons (fC (.int 1)) (fCons (fC (.int 2)) (fCons (fC (.int 2)) (fCons (fC (.int 4)) (fCons (fC (.int 0)) (fCons (fC (.int 0)) (fCons (fC (.int 1)) fNil)))))))) (fCons (fTup (fCons (fC (.int 1)) (fCons (fC (.int 0)) (fCons (fC (.int 0)) (fCons (fC (.int 1)) (fCons (fC (.int 0)) (fCons (fC (.int 0)) (fCons (fUn gNeg (fC (.int 1))) fNil)))))))) (fCons (fTup (fCons (fC (.int 1)) (fCons (fC (.int 0)) (fCons (fC (.int 0)) (fCons (fC (.bool true)) (fCons (fC (.int 0)) (fCons (fC (.int 0)) (fCons (fC (.int 1)) fNil)))))))) fNil)))))) (tNm 2)
def lf2 : SF := sAsg (fOp gAdd (fNm 2) (fLst (fCons (fTup (fCons (fC (.str "1")) (fCons (fC (.int 0)) (fCons (fC (.int 0)) (fCons (fC (.int 1)) (fCons (fC (.int 0)) (fCons (fC (.int 0)) (fCons (fC (.int 1)) fNil)))))))) (fCons (fTup (fCons (fC (.int 0)) (fCons (fC (.int 0)) (fCons (fC (.int 0)) (fCons (fC (.int 0)) (fCons (fC (.int 1)) (fCons (fC (.int 1)) (fCons (fC (.int 1)) fNil)))))))) (fCons (fTup (fCons (fC (.int 1)) (fCons (fC (.int 0)) (fCons (fC (.int 0)) (fCons (fC (.int 1)) (fCons (fC .none) (fCons (fC (.int 0)) (fCons (fC (.int 1)) fNil)))))))) (fCons (fOp gAdd (fNm 1) (fTup (fCons (fC (.int 1)) fNil))) (fCons (fC (.str "chart")) fNil))))))) (tNm 2)
def lf3B0 : SF := sAsg (fTup (fCons (fC (.str "number")) (fCons (fNm 3) fNil))) (tNm 4)
def lf3B1 : SF := sIf (fOr (fB (fOp gNe (fLam [3] F__law_heard (fCall F_need_chart (fCons (fNm 3) fNil))) (fNm 4))) (fB (fOp gNe (fLamX [3] 5 F__law_heard (fCall F_chart_back (fCons (fNm 3) fNil))) (fNm 4)))) (sRet (fC (.bool false))) sNil
def lf3B2 : SF := sIf (fOr (fB (fOp gNe (fLam [3] F__law_heard (fCall F_chart_then (fCons (fNm 3) (fCons (fC .none) fNil)))) (fNm 4))) (fB (fOp gNe (fLamX [1, 3] 5 F__law_heard (fCall F_chart_then (fCons (fNm 1) (fCons (fNm 3) fNil)))) (fNm 4)))) (sRet (fC (.bool false))) sNil
def lf3B3 : SF := sIf (fB (fOp gNe (fLam [3] F__law_heard (fCall F_charted (fCons (fNm 3) (fCons (fC .none) fNil)))) (fNm 4))) (sRet (fC (.bool false))) sNil
def lf3B : SF := (sSeq lf3B0 (sSeq lf3B1 (sSeq lf3B2 lf3B3)))
def lf3 : SF := sFor (fItems (fNm 2)) (tNm 3) lf3B
def lf4B0 : SF := sIf (fB (fOp gNe (fLam [1, 3] F__law_heard (fCall F_charted (fCons (fNm 1) (fCons (fNm 3) fNil)))) (fTup (fCons (fC (.str "cell")) (fCons (fNm 3) fNil))))) (sRet (fC (.bool false))) sNil
def lf4B : SF := lf4B0
def lf4 : SF := sFor (fItems (fTup (fCons (fC .none) (fCons (fTup (fCons (fC (.int 0)) (fCons (fC (.int 0)) fNil))) (fCons (fTup (fCons (fC (.int 0)) (fCons (fC (.int 0)) (fCons (fC (.int 0)) fNil)))) (fCons (fTup (fCons (fC (.int 1)) (fCons (fC (.int 1)) (fCons (fUn gNeg (fC (.int 1))) fNil)))) (fCons (fTup (fCons (fC (.int 2)) (fCons (fC (.int 4)) (fCons (fC (.int 2)) fNil)))) (fCons (fLst (fCons (fC (.int 0)) (fCons (fC (.int 0)) (fCons (fC (.int 1)) fNil)))) (fCons (fTup (fCons (fC (.int 0)) (fCons (fC (.int 0)) (fCons (fC (.bool true)) fNil)))) (fCons (fTup (fCons (fOp gAdd (fOp gPow (fC (.int 10)) (fC (.int 12))) (fC (.int 1))) (fCons (fC (.int 0)) (fCons (fC (.int 1)) fNil)))) (fCons (fTup (fCons (fC (.str "0")) (fCons (fC (.int 0)) (fCons (fC (.int 1)) fNil)))) fNil))))))))))) (tNm 3) lf4B
def lf5 : SF := sRet (fOp gEq (fCall F_charted (fCons (fTup (fCons (fC (.int 1)) (fCons (fC (.int 0)) (fCons (fC (.int 0)) (fCons (fC (.int 1)) (fCons (fC (.int 0)) (fCons (fC (.int 0)) (fCons (fC (.int 1)) fNil)))))))) (fCons (fTup (fCons (fOp gPow (fC (.int 10)) (fC (.int 12))) (fCons (fOp gSub (fC (.int 0)) (fOp gPow (fC (.int 10)) (fC (.int 12)))) (fCons (fC (.int 1)) fNil)))) fNil))) (fTup (fCons (fOp gPow (fC (.int 10)) (fC (.int 12))) (fCons (fOp gSub (fC (.int 0)) (fOp gPow (fC (.int 10)) (fC (.int 12)))) (fCons (fC (.int 1)) fNil)))))
def lf : SF := (sSeq lf0 (sSeq lf1 (sSeq lf2 (sSeq lf3 (sSeq lf4 lf5)))))
theorem lf_eq : g__law_refused = lf := rfl
def lw0B0 : SF := sOwn (fCall F__law_draw (fCons (fNm 2) (fCons (fNm 1) fNil))) 3
def lw0B1B0 : SF := sIf (fNot (fB (fCallS F__law_right 3 fNil))) (sRet (fC (.bool false))) sNil
def lw0B1B : SF := lw0B1B0
def lw0B1 : SF := sFor (fRng (fCons (fC (.int 4)) fNil)) (tNm 4) lw0B1B
def lw0B2 : SF := sIf (fOr (fNot (fB (fCallS F__law_bounds_right 3 fNil))) (fNot (fB (fCallS F__law_refused 3 fNil)))) (sRet (fC (.bool false))) sNil
def lw0B : SF := (sSeq lw0B0 (sSeq lw0B1 lw0B2))
def lw0 : SF := sFor (fEnum2 (fCons (fSl (fIf (fB (fOp gNe (fNm 0) (fLst fNil))) (fNm 0) (fLst (fCons (fC (.int 0)) fNil))) oNo (oEx (fC (.int 3)))) fNil)) (tTp 2 (tsCons (tNm 1) (tsCons (tNm 2) tsNil))) lw0B
def lw1 : SF := sRet (fC (.bool true))
def lw : SF := (sSeq lw0 lw1)
theorem lw_eq : g_law = lw := rfl
def bads0 : List PyData := [.none, .tuple [], .list [.int 1, .int 0, .int 0, .int 1, .int 0, .int 0, .int 1], .tuple [.int 1, .int 0, .int 0, .int 1, .int 0, .int 0], .tuple [.int 1, .int 0, .int 0, .int 1, .int 0, .int 0, .int 0]]
def bads1 : List PyData := [.tuple [.int 2, .int 0, .int 0, .int 2, .int 0, .int 0, .int 2], .tuple [.int 1, .int 2, .int 2, .int 4, .int 0, .int 0, .int 1], .tuple [.int 1, .int 0, .int 0, .int 1, .int 0, .int 0, .int (-1)], .tuple [.int 1, .int 0, .int 0, .bool true, .int 0, .int 0, .int 1]]
def longD (m : Lw.C7) : PyData := .tuple [.int m.a, .int m.b, .int m.c, .int m.d, .int m.e, .int m.f, .int m.w, .int 1]
def bads2 (l : PyData) : List PyData := [.tuple [.str "1", .int 0, .int 0, .int 1, .int 0, .int 0, .int 1], .tuple [.int 0, .int 0, .int 0, .int 0, .int 1, .int 1, .int 1], .tuple [.int 1, .int 0, .int 0, .int 1, .none, .int 0, .int 1], l, .str "chart"]
theorem long_no (m : Lw.C7) : F_need_chart [longD m] = .er "BadNumber" (longD m) := by
  have e : F_is_chart [longD m] = .ok (.bool false) := by
    unfold longD F_is_chart fnR g_is_chart n_is_chart
    simp (decide := true) [isExc, isTy, isTyS, tyOf, outR]
  generalize longD m = D at *
  unfold F_need_chart fnR g_need_chart n_need_chart
  simp (decide := true) [e, outR]
theorem bad_no (m : Lw.C7) : ∀ b ∈ bads0 ++ bads1 ++ bads2 (longD m), F_need_chart [b] = .er "BadNumber" b ∧ SeqAt.shaped (.tuple [.str "number", b]) = true := by
  intro b hb
  rcases List.mem_append.mp hb with hb | hb
  · rcases List.mem_append.mp hb with hb | hb
    · simp only [bads0, List.mem_cons, List.not_mem_nil, or_false] at hb
      rcases hb with rfl | rfl | rfl | rfl | rfl <;> exact ⟨by kernel_rfl, by kernel_rfl⟩
    · simp only [bads1, List.mem_cons, List.not_mem_nil, or_false] at hb
      rcases hb with rfl | rfl | rfl | rfl <;> exact ⟨by kernel_rfl, by kernel_rfl⟩
  · simp only [bads2, List.mem_cons, List.not_mem_nil, or_false] at hb
    rcases hb with rfl | rfl | rfl | rfl | rfl
    · exact ⟨by kernel_rfl, by kernel_rfl⟩
    · exact ⟨by kernel_rfl, by kernel_rfl⟩
    · exact ⟨by kernel_rfl, by kernel_rfl⟩
    · exact ⟨long_no m, by kernel_rfl⟩
    · exact ⟨by kernel_rfl, by kernel_rfl⟩
def pbads : List PyData := [.none, .tuple [.int 0, .int 0], .tuple [.int 0, .int 0, .int 0], .tuple [.int 1, .int 1, .int (-1)], .tuple [.int 2, .int 4, .int 2], .list [.int 0, .int 0, .int 1], .tuple [.int 0, .int 0, .bool true], .tuple [.int 1000000000001, .int 0, .int 1], .tuple [.str "0", .int 0, .int 1]]
theorem pbad_no : ∀ b ∈ pbads, F_is_point [b] = .ok (.bool false) ∧ SeqAt.shaped (.tuple [.str "cell", b]) = true := by
  intro b hb
  simp only [pbads, List.mem_cons, List.not_mem_nil, or_false] at hb
  rcases hb with rfl | rfl | rfl | rfl | rfl | rfl | rfl | rfl | rfl <;> exact ⟨by kernel_rfl, by kernel_rfl⟩
end K14


namespace K14
open PySem PySem.Spec PyProof.Rows L2 Y
theorem refused_ok {B : Int} {d : PyData} (h : St B d) (hB : B < 1000000 + 4000) : ∃ d', F__law_refused d [] = .ok (.bool true, d') ∧ St (B + 40) d' := by
  obtain ⟨m, d1, e1, C, S1⟩ := chartS h (by omega) 3 (by decide) (by decide)
  let P : Out → Prop := fun o => ∃ d' ρ', o = .rt (.bool true) (.io d' :: ρ') ∧ St (B + 40) d'
  have fin : P (lf [.io d, .un, .un, .un, .un]) := by
    unfold lf
    refine seq_nx (ρ' := [.io d1, .sh (v7 m), .sh (.list bads0), .un, .un]) (by
      unfold lf0 bads0
      generalize v7 m = A at *
      simp (decide := true) [e1]) ?_
    have g1 : gAdd (.list bads0) (.list bads1) = some (.list (bads0 ++ bads1)) := by kernel_rfl
    refine seq_nx (ρ' := [.io d1, .sh (v7 m), .sh (.list (bads0 ++ bads1)), .un, .un]) (by
      unfold bads1 at g1 ⊢
      unfold lf1
      generalize bads0 = L at *
      generalize v7 m = A at *
      simp (decide := true) [g1]) ?_
    have g2 : gAdd (v7 m) (.tuple [.int 1]) = some (longD m) := rfl
    have g3 : gAdd (.list (bads0 ++ bads1)) (.list (bads2 (longD m))) = some (.list (bads0 ++ bads1 ++ bads2 (longD m))) := addL (by unfold bads0 bads1 bads2; simp)
    have nos := bad_no m
    have ndg := need_chart_ok C.ok
    refine seq_nx (ρ' := [.io d1, .sh (v7 m), .sh (.list (bads0 ++ bads1 ++ bads2 (longD m))), .un, .un]) (by
      clear nos
      generalize bads0 ++ bads1 = L at *
      unfold lf2
      unfold bads2 at g3 ⊢
      generalize longD m = D at *
      generalize v7 m = A at *
      simp (decide := true) [g2, g3]) ?_
    clear g1 g2 g3
    generalize bads0 ++ bads1 ++ bads2 (longD m) = L at *
    generalize v7 m = A at *
    obtain ⟨ρ9, e9, t3, t4, rfl⟩ := for_run (k := 0) (I := fun _ ρ => ∃ (t3 t4 : Sl), ρ = [.io d1, .sh A, .sh (.list L), t3, t4]) (g := tNm 3) (b := lf3B) (ds := L) (ρ := [.io d1, .sh A, .sh (.list L), .un, .un]) (fun i b ρ hx hJ => by
      obtain ⟨t3, t4, rfl⟩ := hJ
      obtain ⟨y1, y2⟩ := nos b (List.mem_of_getElem? hx)
      refine ⟨_, _, rfl, .inl (?_ : lf3B [.io d1, .sh A, .sh (.list L), .sh b, t4] = .nx [.io d1, .sh A, .sh (.list L), .sh b, .sh (.tuple [.str "number", b])]), _, _, rfl⟩
      have b1 : F_chart_back [b] = .er "BadNumber" b := by
        unfold F_chart_back fnR g_chart_back n_chart_back
        simp (decide := true) [y1, outR]
      have b2 : F_chart_then [b, .none] = .er "BadNumber" b := by
        unfold F_chart_then fnR g_chart_then n_chart_then
        simp (decide := true) [y1, outR]
      have b3 : F_chart_then [A, b] = .er "BadNumber" b := by
        unfold F_chart_then fnR g_chart_then n_chart_then
        simp (decide := true) [y1, ndg, outR]
      have b4 : F_charted [b, .none] = .er "BadNumber" b := by
        unfold F_charted fnR g_charted n_charted
        simp (decide := true) [y1, outR]
      have nn := gNe_self y2
      have hd := heard_num b
      clear nos hx
      unfold lf3B lf3B0 lf3B1 lf3B2 lf3B3
      simp (decide := true) [fzs, Y.fz, shOnly, valR_bind, y1, b1, b2, b3, b4, hd, nn]) ⟨.un, .un, rfl⟩
    refine seq_nx (ρ' := [.io d1, .sh A, .sh (.list L), t3, t4]) (by
      unfold lf3
      clear nos
      generalize lf3B = LB at *
      simp (decide := true) [e9]) ?_
    clear e9 nos
    obtain ⟨ρ8, e8, t3, rfl⟩ := for_run (k := 0) (I := fun _ ρ => ∃ (t3 : Sl), ρ = [.io d1, .sh A, .sh (.list L), t3, t4]) (g := tNm 3) (b := lf4B) (ds := pbads) (ρ := [.io d1, .sh A, .sh (.list L), t3, t4]) (fun i b ρ hx hJ => by
      obtain ⟨t3, rfl⟩ := hJ
      obtain ⟨y1, y2⟩ := pbad_no b (List.mem_of_getElem? hx)
      refine ⟨_, _, rfl, .inl (?_ : lf4B [.io d1, .sh A, .sh (.list L), .sh b, t4] = .nx [.io d1, .sh A, .sh (.list L), .sh b, t4]), _, rfl⟩
      have b4 : F_charted [A, b] = .er "BadCell" b := by
        unfold F_charted fnR g_charted n_charted
        simp (decide := true) [y1, ndg, outR]
      have nn := gNe_self y2
      have hd := heard_cell b
      clear hx
      unfold lf4B lf4B0
      simp (decide := true) [fzs, Y.fz, shOnly, valR_bind, b4, hd, nn]) ⟨_, rfl⟩
    have pM : gPow (.int 10) (.int 12) = some (.int 1000000000000) := by kernel_rfl
    refine seq_nx (ρ' := [.io d1, .sh A, .sh (.list L), t3, t4]) (by
      unfold lf4
      generalize lf4B = LB at *
      unfold pbads at e8
      simp (decide := true) [pM, e8]) ?_
    have h5 : F_charted [.tuple [.int 1, .int 0, .int 0, .int 1, .int 0, .int 0, .int 1], .tuple [.int 1000000000000, .int (-1000000000000), .int 1]] = .ok (.tuple [.int 1000000000000, .int (-1000000000000), .int 1]) := by kernel_rfl
    have q5 : gEq (.tuple [.int 1000000000000, .int (-1000000000000), .int 1]) (.tuple [.int 1000000000000, .int (-1000000000000), .int 1]) = some (.bool true) := by kernel_rfl
    exact ⟨d1, _, by unfold lf5; simp (decide := true) [pM, h5, q5]; rfl, S1⟩
  obtain ⟨d', ρ', ef, S'⟩ := fin
  refine ⟨d', ?_, S'⟩
  have st : startS n__law_refused d [] = [.io d, .un, .un, .un, .un] := rfl
  unfold F__law_refused fnS
  rw [lf_eq, st, ef]
  simp [outS, ioOnly]
end K14


namespace K14
open PySem PySem.Spec PyProof.Rows L2 Y
theorem turn_ok {s0 s1 s2 s4 : Sl} {d : PyData} (h : St 1000000 d) : ∃ d' t4, St (1000000 + 1000) d' ∧ lw0B1 [s0, s1, s2, .ow d, s4] = .nx [s0, s1, s2, .ow d', t4] := by
  obtain ⟨ρ', e, d', t4, S, rfl⟩ := for_run (k := 0) (I := fun k ρ => ∃ (d' : PyData) (t4 : Sl), St (1000000 + 100 * k) d' ∧ ρ = [s0, s1, s2, .ow d', t4]) (g := tNm 4) (b := lw0B1B) (ds := rangeD 0 4) (ρ := [s0, s1, s2, .ow d, s4]) (fun i x ρ hd hJ => by
    obtain ⟨d', t4, S, rfl⟩ := hJ
    obtain ⟨hl, rfl⟩ := rangeD_get hd
    obtain ⟨d2, e2, S2⟩ := right_ok S (by omega)
    refine ⟨_, _, rfl, .inl (?_ : lw0B1B [s0, s1, s2, .ow d', .sh (.int (0 + (i : Int)))] = .nx [s0, s1, s2, .ow d2, .sh (.int (0 + (i : Int)))]), d2, _, S2.mono (by omega), rfl⟩
    unfold lw0B1B lw0B1B0
    simp (decide := true) [e2]) ⟨d, _, h.mono (by omega), rfl⟩
  refine ⟨d', t4, S.mono (by rw [range_len]; omega), ?_⟩
  unfold lw0B1
  simp (decide := true) [rng1]
  exact e
theorem body_ok (s0 s3 s4 : Sl) (k : Nat) (x : Int) (hk : k ≤ 4) : ∃ t3 t4, lw0B [s0, .sh (.int (k : Int)), .sh (.int x), s3, s4] = .nx [s0, .sh (.int (k : Int)), .sh (.int x), t3, t4] := by
  obtain ⟨d0, e0, S0⟩ := drawS x (k : Int) (by omega) (by omega)
  let P : Out → Prop := fun o => ∃ t3 t4, o = .nx [s0, .sh (.int (k : Int)), .sh (.int x), t3, t4]
  show P _
  unfold lw0B
  refine seq_ex ⟨[s0, .sh (.int (k : Int)), .sh (.int x), .ow d0, s4], by unfold lw0B0; simp [e0], ?_⟩
  obtain ⟨d1, t4, S1, e1⟩ := @turn_ok s0 (.sh (.int (k : Int))) (.sh (.int x)) s4 d0 S0
  refine seq_nx e1 ?_
  obtain ⟨d2, e2, S2⟩ := bounds_ok (S1.mono (by omega : (1000000 + 1000 : Int) ≤ 1000000 + 1000)) (by decide)
  obtain ⟨d3, e3, S3⟩ := refused_ok S2 (by decide)
  refine ⟨.ow d3, t4, ?_⟩
  unfold lw0B2
  simp (decide := true) [e2, e3]
def cellsA : AF := fEnum2 (fCons (fSl (fIf (fB (fOp gNe (fNm 0) (fLst fNil))) (fNm 0) (fLst (fCons (fC (.int 0)) fNil))) oNo (oEx (fC (.int 3)))) fNil)
theorem cells_ok (ns : List Int) (r : List Sl) : ∃ cs : List Int, cs.length ≤ 3 ∧ cellsA (.sh (.list (ns.map PyData.int)) :: r) = .ok (enumD 0 (cs.map PyData.int), .sh (.list (ns.map PyData.int)) :: r) := by
  have hne : gNe (.list (ns.map PyData.int)) (.list []) = some (.bool (!decide (ns = []))) := by
    have := gNe_sh2 (sh_lstI ns) (sh_lstI [])
    have z : PyData.eqv (.list (ns.map PyData.int)) (.list (([] : List Int).map PyData.int)) = PyData.eqvAll (ns.map PyData.int) (([] : List Int).map PyData.int) := by simp only [PyData.eqv]
    rw [z, eqvI] at this
    exact this
  have hlst : ∀ ds, seqOf [.list ds] = some ds := fun _ => rfl
  by_cases hn : ns = []
  · refine ⟨[0], by decide, ?_⟩
    rw [decide_eq_true hn] at hne
    have h0 : slD (.list [.int 0]) none (some 3) = some (.list [.int 0]) := cutN 3 [0]
    unfold cellsA
    generalize ns.map PyData.int = L at *
    simp [hne, h0, hlst]
  · refine ⟨ns.take 3, by rw [List.length_take]; omega, ?_⟩
    rw [decide_eq_false hn] at hne
    have h0 : slD (.list (ns.map PyData.int)) none (some 3) = some (.list ((ns.take 3).map PyData.int)) := cutN 3 ns
    unfold cellsA
    generalize (ns.take 3).map PyData.int = L2 at *
    generalize ns.map PyData.int = L at *
    simp [hne, h0, hlst]
theorem plain (ns : List Int) : F_law [.list (ns.map PyData.int)] = .ok (.bool true) := by
  obtain ⟨cs, hl, ea⟩ := cells_ok ns [.un, .un, .un, .un]
  generalize hS : (Sl.sh (.list (ns.map PyData.int))) = S at *
  obtain ⟨ρ', e, t1, t2, t3, t4, rfl⟩ := for_run (k := 0) (I := fun _ ρ => ∃ (t1 t2 t3 t4 : Sl), ρ = [S, t1, t2, t3, t4]) (g := tTp 2 (tsCons (tNm 1) (tsCons (tNm 2) tsNil))) (b := lw0B) (ds := enumD 0 (cs.map PyData.int)) (ρ := [S, .un, .un, .un, .un]) (fun i d ρ hd hJ => by
    obtain ⟨t1, t2, t3, t4, rfl⟩ := hJ
    obtain ⟨d0, h0, rfl⟩ := enumD_at hd
    obtain ⟨hi, _⟩ := List.getElem?_eq_some_iff.mp h0
    rw [List.length_map] at hi
    rw [List.getElem?_map] at h0
    obtain ⟨x, _, rfl⟩ := Option.map_eq_some_iff.mp h0
    obtain ⟨u3, u4, e⟩ := body_ok S t3 t4 (0 + i) x (by omega)
    exact ⟨_, _, rfl, .inl e, _, _, _, _, rfl⟩) ⟨_, _, _, _, rfl⟩
  unfold F_law fnR
  rw [lw_eq]
  have st : Y.start n_law [.list (ns.map PyData.int)] = [S, .un, .un, .un, .un] := by rw [← hS]; rfl
  rw [st]
  have l0 : lw0 [S, .un, .un, .un, .un] = .nx [S, t1, t2, t3, t4] := by
    have : lw0 = sFor cellsA (tTp 2 (tsCons (tNm 1) (tsCons (tNm 2) tsNil))) lw0B := rfl
    rw [this, ap_sFor, ea]
    exact e
  unfold lw
  rw [ap_sSeq, l0]
  dsimp only
  unfold lw1
  simp (decide := true) [outR]
end K14


theorem PySem.Challenge.cw_patternwright_k14_whole_charts_holds : PySem.Challenge.rw_patternwright_k14_whole_charts.Holds := by
  exact K14.holds_of fun ns _ => K14.plain ns
