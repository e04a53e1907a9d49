import PyProof.Rows.All
import Wide.All
import OpenK.AllK
import Wide.FinOn
import HandS.ForMost
import HandS.Flow
import KE.KDictKeyed
import KE.DataCmp
import KE.SortData
import HandS.TupAny
import HandS.IsInst
import HandS.Replace
import HandS.Conv
import PyProof.ReprRoads
import PyProof.ListStr
import KE.GoesNew
import KE.GoesEnumKw
import KE.GoesMore
import PyProof.Rows.CallKwBuiltin
import HandS.Style
import HandS.Star
import PyProof.CollectStr
import HandS.Ends
import KE.SortKeyHeap
import KE.KSortKey
import PyProof.StrOps
import HandS.SortKw
import PyProof.InstNe
import HandS.Property
import PyProof.DictUpdate
import HandS.More
import HandS.ExcValue
import PyProof.StrCalls6
import HandS.Wide
import PyProof.SliceStr2
import PyProof.Rows.StrRev
import PyProof.NeData
import HandS.TupSets
import HandS.SetBool
import HandS.Exc
import HandS.TryMany
import HandS.ExcInit
import HandS.ExcSuper
import HandS.ExcField
import HandS.ExcIs
import KE.KExcSuper
import KE.KExcIs
import PyProof.Rows.StrOr
import HandS.ReplaceLit
import HandS.ReplaceList
import KE.KCallOwn
import HandS.ClsMeth
import HandS.FStr
import HandS.Text
import HandS.List
import KE.KDictZip
import KE.GoesZip
import HandS.Small
import HandS.HeadHook3
import PyProof.Transfer
import HandS.DictTup
import KE.GoesNewDict
import KE.KDictItemsList
import HandS.TupLen
import HandS.TupMul
import PyProof.WalksMore
import KE.KDictPairs
import HandS.SetTxt0
import HandS.Set
import KE.KeyNested
import KE.KDictCopyH
import PyProof.StrLawsIn
import PyProof.StrLawsRepr
import PyProof.ReprBulk
import PyProof.StrLawsOcc
import PyProof.StrLawsTight
import PyProof.Rows.StrItems
import PyProof.Rows.StrSplitAre
import KE.IntTextText
import PySem.Challenge.RW_restbehind_k11_shown_and_joined
set_option Elab.async false
set_option linter.all false
set_option maxRecDepth 100000
set_option maxHeartbeats 4000000
namespace DL
open PySem PySem.Spec PyProof.Rows L2

/-- data -/
inductive D where
  | non | bl (b : Bool) | int (i : Int) | str (x : Str)
  | lst (xs : List D) | tup (xs : List D)
  | dic (kvs : List (Key × D)) | dit (kvs : List (List Key × D))
  /-- a dict keyed by tuples of any depth, laid in the world w -/
  | dix (w : World) (kvs : List (D × D))
  | obj (C : Addr) (fs : List (Str × D))

/-- a text that may be: not too long, of code points -/
def SOk (x : Str) : Prop := x.length ≤ sizeLine ∧ PyData.strOk x = true
def KOk : Key → Prop
  | .inl _ => True
  | .inr x => SOk x
mutual
/-- a key of any depth -/
def nkD : D → Option NestedKey
  | .int i => some (.num i)
  | .str x => some (.text x)
  | .tup ds => (nkDs ds).map NestedKey.tup
  | _ => none
def nkDs : List D → Option (List NestedKey)
  | [] => some []
  | d :: ds => match nkD d, nkDs ds with
    | some k, some ks => some (k :: ks)
    | _, _ => none
end
/-- what may be a dict's key: a tuple -/
def keyNK (d : D) : Option NestedKey := match nkD d with
  | some (.tup ks) => if (NestedKey.tup ks).depth ≤ 8 then some (.tup ks) else none
  | _ => none
abbrev XEnts := List (NestedKey × Addr × Value)
def dixEs (w : World) (xs : XEnts) : List DictEntry := xs.map fun x => ⟨x.1.hash w, .ref x.2.1, x.2.2⟩
/-- a dict with just these entries -/
def dixO (w : World) (a : Addr) (xs : XEnts) (ep : Nat) : HO := .ext fun h => (a == sysModules) = false ∧ ∃ o, h.get? a = some o ∧ o.ExactDict ∧ o.data = .dict (dixEs w xs).toArray ep
def KsOk (k : List Key) : Prop := k.length ≤ sizeLine ∧ ∀ x ∈ k, KOk x
mutual
inductive DD (K : PySem.W.Frag) (G : Hp) : V → D → Prop
  | non : DD K G .non .non
  | bl (b : Bool) : DD K G (.bl b) (.bl b)
  | int (i : Int) : DD K G (.int i) (.int i)
  | str (x : Str) : SOk x → DD K G (.str x) (.str x)
  | lst {a : Addr} {vs : List V} {ds : List D} : G a = some (.lst vs) → vs.length ≤ sizeLine → DDs K G vs ds → DD K G (.ref a) (.lst ds)
  | tup {a : Addr} {vs : List V} {ds : List D} : G a = some (.tup vs) → vs.length ≤ sizeLine → DDs K G vs ds → DD K G (.ref a) (.tup ds)
  | dic {a : Addr} {kv : List (Key × V)} {kd : List (Key × D)} : G a = some (.dK kv) → DKs K G kv kd → DD K G (.ref a) (.dic kd)
  | dit {a : Addr} {kv : List (List Key × V)} {kd : List (List Key × D)} : G a = some (.dT kv) → DTs K G kv kd → DD K G (.ref a) (.dit kd)
  | dix {a : Addr} {w : World} {xs : XEnts} {ep : Nat} {kd : List (D × D)} : G a = some (dixO w a xs ep) → xs.length ≤ sizeLine → (xs.map (·.1)).Nodup → DXs K G xs kd → DD K G (.ref a) (.dix w kd)
  | obj {a C dx : Addr} {fs : List (Str × V)} {fd : List (Str × D)} : G a = some (.ins C dx fs) → DFs K G fs fd → DD K G (.ref a) (.obj C fd)
inductive DDs (K : PySem.W.Frag) (G : Hp) : List V → List D → Prop
  | nil : DDs K G [] []
  | cons {v : V} {vs : List V} {d : D} {ds : List D} : DD K G v d → DDs K G vs ds → DDs K G (v :: vs) (d :: ds)
inductive DKs (K : PySem.W.Frag) (G : Hp) : List (Key × V) → List (Key × D) → Prop
  | nil : DKs K G [] []
  | cons {k : Key} {v : V} {vs : List (Key × V)} {d : D} {ds : List (Key × D)} : KOk k → DD K G v d → DKs K G vs ds → DKs K G ((k, v) :: vs) ((k, d) :: ds)
inductive DTs (K : PySem.W.Frag) (G : Hp) : List (List Key × V) → List (List Key × D) → Prop
  | nil : DTs K G [] []
  | cons {k : List Key} {v : V} {vs : List (List Key × V)} {d : D} {ds : List (List Key × D)} : KsOk k → DD K G v d → DTs K G vs ds → DTs K G ((k, v) :: vs) ((k, d) :: ds)
inductive DXs (K : PySem.W.Frag) (G : Hp) : XEnts → List (D × D) → Prop
  | nil : DXs K G [] []
  | cons {n : NestedKey} {b : Addr} {u : Value} {k d : D} {v : V} {xs : XEnts} {kd : List (D × D)} : keyNK k = some n → DD K G (.ref b) k → RelV v u → DD K G v d → DXs K G xs kd → DXs K G ((n, b, u) :: xs) ((k, d) :: kd)
inductive DFs (K : PySem.W.Frag) (G : Hp) : List (Str × V) → List (Str × D) → Prop
  | nil : DFs K G [] []
  | cons {k : Str} {v : V} {vs : List (Str × V)} {d : D} {ds : List (Str × D)} : DD K G v d → DFs K G vs ds → DFs K G ((k, v) :: vs) ((k, d) :: ds)
end
theorem SqL.up {K : PySem.W.Frag} {G G' : Hp} {a : Addr} {xs : List V} (e : Same G G') (h : SqL K G a xs) : SqL K G' a xs := e.seq h
theorem SqT.up {K : PySem.W.Frag} {G G' : Hp} {a : Addr} {xs : List V} (e : Same G G') (h : SqT K G a xs) : SqT K G' a xs := by
  rcases h with (h | ⟨o, h⟩) | h
  · exact Or.inl (Or.inl (e _ _ h))
  · exact Or.inl (Or.inr ⟨o, e _ _ h⟩)
  · exact Or.inr h

mutual
theorem DD.up {K : PySem.W.Frag} {G G' : Hp} (e : Same G G') : ∀ {v : V} {d : D}, DD K G v d → DD K G' v d
  | _, _, .non => .non
  | _, _, .bl b => .bl b
  | _, _, .int i => .int i
  | _, _, .str x h => .str x h
  | _, _, .lst h z r => .lst (e _ _ h) z (DDs.up e r)
  | _, _, .tup h z r => .tup (e _ _ h) z (DDs.up e r)
  | _, _, .dic h r => .dic (e _ _ h) (DKs.up e r)
  | _, _, .dit h r => .dit (e _ _ h) (DTs.up e r)
  | _, _, .dix h z n r => .dix (e _ _ h) z n (DXs.up e r)
  | _, _, .obj h r => .obj (e _ _ h) (DFs.up e r)
theorem DDs.up {K : PySem.W.Frag} {G G' : Hp} (e : Same G G') : ∀ {v : List V} {d : List D}, DDs K G v d → DDs K G' v d
  | _, _, .nil => .nil
  | _, _, .cons a b => .cons (DD.up e a) (DDs.up e b)
theorem DKs.up {K : PySem.W.Frag} {G G' : Hp} (e : Same G G') : ∀ {v : List (Key × V)} {d : List (Key × D)}, DKs K G v d → DKs K G' v d
  | _, _, .nil => .nil
  | _, _, .cons c a b => .cons c (DD.up e a) (DKs.up e b)
theorem DTs.up {K : PySem.W.Frag} {G G' : Hp} (e : Same G G') : ∀ {v : List (List Key × V)} {d : List (List Key × D)}, DTs K G v d → DTs K G' v d
  | _, _, .nil => .nil
  | _, _, .cons c a b => .cons c (DD.up e a) (DTs.up e b)
theorem DXs.up {K : PySem.W.Frag} {G G' : Hp} (e : Same G G') : ∀ {v : XEnts} {d : List (D × D)}, DXs K G v d → DXs K G' v d
  | _, _, .nil => .nil
  | _, _, .cons h a r b c => .cons h (DD.up e a) r (DD.up e b) (DXs.up e c)
theorem DFs.up {K : PySem.W.Frag} {G G' : Hp} (e : Same G G') : ∀ {v : List (Str × V)} {d : List (Str × D)}, DFs K G v d → DFs K G' v d
  | _, _, .nil => .nil
  | _, _, .cons a b => .cons (DD.up e a) (DFs.up e b)
end
section
variable {K : PySem.W.Frag} {G : Hp}
theorem DDs.len : ∀ {vs : List V} {ds : List D}, DDs K G vs ds → vs.length = ds.length
  | _, _, .nil => rfl
  | _, _, .cons _ b => congrArg Nat.succ (DDs.len b)
theorem DDs.get : ∀ {vs : List V} {ds : List D} {i : Nat} {d : D}, DDs K G vs ds → ds[i]? = some d → ∃ v, vs[i]? = some v ∧ DD K G v d
  | _, _, _, _, .nil, e => by simp at e
  | _, _, 0, _, .cons a _, e => by simp at e; subst e; exact ⟨_, rfl, a⟩
  | _, _, i + 1, d, .cons _ b, e => by
    obtain ⟨v, h1, h2⟩ := DDs.get (i := i) (d := d) b (by simpa using e)
    exact ⟨v, by simpa using h1, h2⟩
theorem DDs.getV : ∀ {vs : List V} {ds : List D} {i : Nat} {v : V}, DDs K G vs ds → vs[i]? = some v → ∃ d, ds[i]? = some d ∧ DD K G v d
  | _, _, _, _, .nil, e => by simp at e
  | _, _, 0, _, .cons a _, e => by simp at e; subst e; exact ⟨_, rfl, a⟩
  | _, _, i + 1, d, .cons _ b, e => by
    obtain ⟨v, h1, h2⟩ := DDs.getV (i := i) (v := d) b (by simpa using e)
    exact ⟨v, by simpa using h1, h2⟩
theorem DDs.app : ∀ {vs ws : List V} {ds es : List D}, DDs K G vs ds → DDs K G ws es → DDs K G (vs ++ ws) (ds ++ es)
  | _, _, _, _, .nil, h => h
  | _, _, _, _, .cons a b, h => .cons a (DDs.app b h)
theorem DDs.one {v : V} {d : D} (h : DD K G v d) : DDs K G [v] [d] := .cons h .nil
theorem DDs.take : ∀ {vs : List V} {ds : List D} (n : Nat), DDs K G vs ds → DDs K G (vs.take n) (ds.take n)
  | _, _, 0, _ => .nil
  | _, _, _ + 1, .nil => .nil
  | _, _, n + 1, .cons a b => .cons a (DDs.take n b)
theorem DDs.drop : ∀ {vs : List V} {ds : List D} (n : Nat), DDs K G vs ds → DDs K G (vs.drop n) (ds.drop n)
  | _, _, 0, h => h
  | _, _, _ + 1, .nil => .nil
  | _, _, n + 1, .cons _ b => DDs.drop n b
theorem DDs.erase : ∀ {vs : List V} {ds : List D} (n : Nat), DDs K G vs ds → DDs K G (vs.eraseIdx n) (ds.eraseIdx n)
  | _, _, _, .nil => .nil
  | _, _, 0, .cons _ b => b
  | _, _, n + 1, .cons a b => .cons a (DDs.erase n b)
theorem DDs.dropLast : ∀ {vs : List V} {ds : List D}, DDs K G vs ds → DDs K G vs.dropLast ds.dropLast
  | _, _, .nil => .nil
  | _, _, .cons _ .nil => .nil
  | _, _, .cons a (.cons b c) => .cons a (DDs.dropLast (.cons b c))
theorem DKs.len : ∀ {vs : List (Key × V)} {ds : List (Key × D)}, DKs K G vs ds → vs.length = ds.length
  | _, _, .nil => rfl
  | _, _, .cons _ _ b => congrArg Nat.succ (DKs.len b)
theorem DTs.len : ∀ {vs : List (List Key × V)} {ds : List (List Key × D)}, DTs K G vs ds → vs.length = ds.length
  | _, _, .nil => rfl
  | _, _, .cons _ _ b => congrArg Nat.succ (DTs.len b)
/-- a field -/
theorem DFs.look : ∀ {vs : List (Str × V)} {ds : List (Str × D)} {f : Str} {d : D}, DFs K G vs ds → ds.lookup f = some d → ∃ v, vs.lookup f = some v ∧ DD K G v d
  | _, _, _, _, .nil, e => by cases e
  | _, _, f, d, .cons (k := k) a b, e => by
    rw [List.lookup_cons] at e ⊢
    cases h : f == k with
    | true => rw [h] at e; cases e; exact ⟨_, rfl, a⟩
    | false => rw [h] at e; exact DFs.look b e
theorem DFs.keys : ∀ {vs : List (Str × V)} {ds : List (Str × D)}, DFs K G vs ds → ∀ f, ds.lookup f = none → vs.lookup f = none
  | _, _, .nil, _, _ => rfl
  | _, _, .cons (k := k) a b, f, e => by
    rw [List.lookup_cons] at e ⊢
    cases h : f == k with
    | true => rw [h] at e; cases e
    | false => rw [h] at e; exact DFs.keys b f e
end

/-- a slot: not known; data; a list or dict of the frame's own; the deck: what is left, the mixed number -/
inductive Cell where
  | no | dat (d : D) | own (d : D) | deck (a q : Addr) (l : List Int) (b : Int) | slf (a : Addr) (d : D) | cls (C : Addr)
  /-- an object of the frame's own (p: the def's argument); true: the attribute is a list or dict of its own -/
  | ob (p : Bool) (C : Addr) (fs : List (Str × Bool × D))
  /-- an object that is being made -/
  | sob (a C : Addr) (fs : List (Str × Bool × D))
abbrev Env := List Cell
/-- a value: data, or the own object at a slot -/
inductive W where
  | dat (d : D) | own (i : Nat)
/-- an exception that flies: its class, its fields -/
structure ExV where
  cls : Addr
  fs : List (Str × D)
inductive Res (α : Type) where
  | ok (a : α) | err (x : ExV) (E : Env) | stuck
def Res.bind {α β : Type} : Res α → (α → Res β) → Res β
  | .ok a, f => f a
  | .err x E, _ => .err x E
  | .stuck, _ => .stuck
instance : Monad Res where
  pure := .ok
  bind := Res.bind
@[simp] theorem Res.ok_bind {α β : Type} (a : α) (f : α → Res β) : (Res.ok a).bind f = f a := rfl
@[simp] theorem Res.err_bind {α β : Type} (x : ExV) (E : Env) (f : α → Res β) : (Res.err x E).bind f = .err x E := rfl
@[simp] theorem Res.stuck_bind {α β : Type} (f : α → Res β) : (Res.stuck).bind f = .stuck := rfl

/-- a frame: the heap at its entry, what of it is data, what of it may change -/
structure Fr where
  H0 : Hp
  G0 : Hp
  X0 : List Addr
  /-- the object that is the def's own argument: its place, those of what it owns -/
  P0 : List Addr

def OwnAt (K : PySem.W.Frag) (G H : Hp) (a : Addr) : D → Prop
  | .lst ds => ∃ vs, H a = some (.lst vs) ∧ vs.length ≤ sizeLine ∧ DDs K G vs ds
  | .dic kd => ∃ kv, H a = some (.dK kv) ∧ DKs K G kv kd
  | .dit kd => ∃ kv, H a = some (.dT kv) ∧ DTs K G kv kd
  | .dix w kd => ∃ xs ep, H a = some (dixO w a xs ep) ∧ xs.length ≤ sizeLine ∧ (xs.map (·.1)).Nodup ∧ DXs K G xs kd
  | .obj C fd => ∃ dx fs, H a = some (.ins C dx fs) ∧ DFs K G fs fd
  | _ => False
def DeckAt (H : Hp) (a q : Addr) (l : List Int) (b : Int) : Prop :=
  H a = some (.dK [(.inr "left", .ref q), (.inr "blend", .int b)]) ∧ H q = some (.lst (l.map V.int))
/-- the attributes of an object: ls are the places of those of its own -/
inductive FsOk (K : PySem.W.Frag) (G H : Hp) : List (Str × V) → List (Str × Bool × D) → List Addr → Prop
  | nil : FsOk K G H [] [] []
  | dat {f : Str} {v : V} {d : D} {vs : List (Str × V)} {fs : List (Str × Bool × D)} {ls : List Addr} : DD K G v d → FsOk K G H vs fs ls → FsOk K G H ((f, v) :: vs) ((f, false, d) :: fs) ls
  | own {f : Str} {l : Addr} {d : D} {vs : List (Str × V)} {fs : List (Str × Bool × D)} {ls : List Addr} : OwnAt K G H l d → FsOk K G H vs fs ls → FsOk K G H ((f, .ref l) :: vs) ((f, true, d) :: fs) (l :: ls)
def ObAt (K : PySem.W.Frag) (G H : Hp) (a : Addr) (ls : List Addr) (C : Addr) (fs : List (Str × Bool × D)) : Prop := ∃ dx vs, (a :: ls).Nodup ∧ H a = some (.ins C dx vs) ∧ FsOk K G H vs fs ls
def CellOk (K : PySem.W.Frag) (P : List Addr) (G H : Hp) (as : List Addr) (v : Option V) : Cell → Prop
  | .no => as = []
  | .dat d => as = [] ∧ ∃ x, v = some x ∧ DD K G x d
  | .own d => ∃ a, as = [a] ∧ v = some (.ref a) ∧ OwnAt K G H a d
  | .deck a q l b => as = [a, q] ∧ v = some (.ref a) ∧ DeckAt H a q l b
  | .slf a d => as = [a] ∧ v = some (.ref a) ∧ OwnAt K G H a d
  | .cls C => as = [] ∧ v = some (.ref C)
  | .ob p C fs => ∃ a ls, as = a :: ls ∧ v = some (.ref a) ∧ (p = true → P = a :: ls) ∧ ObAt K G H a ls C fs
  | .sob a C fs => ∃ ls, as = a :: ls ∧ v = some (.ref a) ∧ ObAt K G H a ls C fs

/-- a tuple never changes -/
def isT : HO → Bool
  | .tup _ => true
  | _ => false
structure StE (K : PySem.W.Frag) (F : Fr) (G H : Hp) (σ : L2.St) (E : Env) (as : Nat → List Addr) : Prop where
  len : σ.length = E.length
  s0 : Same F.G0 G
  s1 : Same G H
  keep : ∀ a o, F.H0 a = some o → a ∉ F.X0 → H a = some o
  dom : ∀ a, H a = none → F.H0 a = none
  priv : ∀ a o, G a ≠ none → F.H0 a = some o → isT o = false → a ∉ F.X0 → F.G0 a ≠ none
  cell : ∀ i c, E[i]? = some c → ∃ v, σ[i]? = some v ∧ CellOk K F.P0 G H (as i) v c
  sep : ∀ i j a, a ∈ as i → a ∈ as j → i = j
  off : ∀ i a, a ∈ as i → G a = none ∧ (F.H0 a = none ∨ a ∈ F.X0)
  tail : ∀ i, E.length ≤ i → as i = []

def WOk (K : PySem.W.Frag) (G : Hp) (E : Env) (σ : L2.St) (v : V) : W → Prop
  | .dat d => DD K G v d
  | .own i => σ[i]? = some (some v)
def ExOk (K : PySem.W.Frag) (G : Hp) (x : ExV) (c : Value) (dx : Option Addr) : Prop :=
  c = .ref x.cls ∧ match dx with
    | none => x.fs = []
    | some d => ∃ fs, G d = some (.xd fs) ∧ DFs K G fs x.fs

abbrev Wish := L2.St → XK
/-- what is wanted behind an expression -/
def Po (K : PySem.W.Frag) (Wi : Wish) (F : Fr) (G : Hp) (σ : L2.St) (Q : VK) : Res (W × Env) → Prop
  | .ok (w, E') => ∀ v G' H' as', Same G G' → StE K F G' H' σ E' as' → WOk K G' E' σ v w → Q v H'
  | .err x E' => ∀ c dx G' H' as', Same G G' → StE K F G' H' σ E' as' → ExOk K G' x c dx → Wi σ c dx H'
  | .stuck => False
abbrev EF := Env → Res (W × Env)
def tE (K : PySem.W.Frag) (Wi : Wish) (f : EF) : TE := fun σ H Q => ∃ F G E as, StE K F G H σ E as ∧ Po K Wi F G σ Q (f E)
/-- behind a list of arguments -/
def WOks (K : PySem.W.Frag) (G : Hp) (E : Env) (σ : L2.St) : List V → List W → Prop
  | [], [] => True
  | v :: vs, w :: ws => WOk K G E σ v w ∧ WOks K G E σ vs ws
  | _, _ => False
def PoA (K : PySem.W.Frag) (Wi : Wish) (F : Fr) (G : Hp) (σ : L2.St) (Q : List V → Hp → Prop) : Res (List W × Env) → Prop
  | .ok (ws, E') => ∀ vs G' H' as', Same G G' → StE K F G' H' σ E' as' → WOks K G' E' σ vs ws → Q vs H'
  | .err x E' => ∀ c dx G' H' as', Same G G' → StE K F G' H' σ E' as' → ExOk K G' x c dx → Wi σ c dx H'
  | .stuck => False
abbrev AF := Env → Res (List W × Env)
def tA (K : PySem.W.Frag) (Wi : Wish) (f : AF) : TA := fun σ H Q => ∃ F G E as, StE K F G H σ E as ∧ PoA K Wi F G σ Q (f E)
/-- how a statement ends -/
inductive Fl where
  | nx | bk | ct | rt (d : D)
def PoS (K : PySem.W.Frag) (Wi : Wish) (F : Fr) (G : Hp) (Dn : Ends) : Res (Fl × Env) → Prop
  | .ok (.nx, E') => ∀ σ' G' H' as', Same G G' → StE K F G' H' σ' E' as' → Dn.nx σ' H'
  | .ok (.bk, E') => ∀ σ' G' H' as', Same G G' → StE K F G' H' σ' E' as' → Dn.bk σ' H'
  | .ok (.ct, E') => ∀ σ' G' H' as', Same G G' → StE K F G' H' σ' E' as' → Dn.ct σ' H'
  | .ok (.rt d, E') => ∀ v σ' G' H' as', Same G G' → StE K F G' H' σ' E' as' → DD K G' v d → Dn.rt v H'
  | .err x E' => ∀ c dx σ' G' H' as', Same G G' → StE K F G' H' σ' E' as' → ExOk K G' x c dx → Wi σ' c dx H'
  | .stuck => False
abbrev SF := Env → Res (Fl × Env)
def tS (K : PySem.W.Frag) (Wi : Wish) (f : SF) : TS := fun Dn σ H => ∃ F G E as, StE K F G H σ E as ∧ PoS K Wi F G Dn (f E)

abbrev DE (X : Cx) (Wi : Wish) (e : Expr) (f : EF) : Prop := PE X e (tE X.K Wi f)
abbrev DA (X : Cx) (Wi : Wish) (es : List Expr) (f : AF) : Prop := PA X es (tA X.K Wi f)
abbrev DS (X : Cx) (Wi : Wish) (st : Stmt) (f : SF) : Prop := PS X st (tS X.K Wi f)
abbrev DSs (X : Cx) (Wi : Wish) (st : List Stmt) (f : SF) : Prop := PSs X st (tS X.K Wi f)

theorem PE.imp {X : Cx} {e : Expr} {t t' : TE} (h : PE X e t) (i : ∀ σ H Q, t' σ H Q → t σ H Q) : PE X e t' :=
  ⟨fun pins s σ H Q I q => h.run pins s σ H Q I (i σ H Q q)⟩
theorem PT.imp {X : Cx} {e : Expr} {t t' : TT} (h : PT X e t) (i : ∀ σ H Q, t' σ H Q → t σ H Q) : PT X e t' :=
  ⟨fun pins s σ H Q I q => h.run pins s σ H Q I (i σ H Q q)⟩
theorem PA.imp {X : Cx} {e : List Expr} {t t' : TA} (h : PA X e t) (i : ∀ σ H Q, t' σ H Q → t σ H Q) : PA X e t' :=
  ⟨fun pos pins s σ H Q I q => h.run pos pins s σ H Q I (i σ H Q q)⟩
theorem PS.imp {X : Cx} {e : Stmt} {t t' : TS} (h : PS X e t) (i : ∀ D σ H, t' D σ H → t D σ H) : PS X e t' :=
  ⟨fun pins s σ H Q I q => h.run pins s σ H Q I (i Q σ H q)⟩
theorem PSs.imp {X : Cx} {e : List Stmt} {t t' : TS} (h : PSs X e t) (i : ∀ D σ H, t' D σ H → t D σ H) : PSs X e t' :=
  ⟨fun pins s σ H Q I q => h.run pins s σ H Q I (i Q σ H q)⟩

section
variable {K : PySem.W.Frag} {Wi : Wish} {F : Fr} {G G1 H : Hp} {σ : L2.St} {E : Env} {as : Nat → List Addr} {Q : VK}
theorem Po.up {r : Res (W × Env)} (e : Same G G1) (h : Po K Wi F G σ Q r) : Po K Wi F G1 σ Q r := by
  match r, h with
  | .ok (w, E'), h => exact fun v G' H' as' s => h v G' H' as' (e.trans s)
  | .err x E', h => exact fun c dx G' H' as' s => h c dx G' H' as' (e.trans s)
theorem PoA.up {QA : List V → Hp → Prop} {r : Res (List W × Env)} (e : Same G G1) (h : PoA K Wi F G σ QA r) : PoA K Wi F G1 σ QA r := by
  match r, h with
  | .ok (w, E'), h => exact fun v G' H' as' s => h v G' H' as' (e.trans s)
  | .err x E', h => exact fun c dx G' H' as' s => h c dx G' H' as' (e.trans s)
theorem PoS.up {Dn : Ends} {r : Res (Fl × Env)} (e : Same G G1) (h : PoS K Wi F G Dn r) : PoS K Wi F G1 Dn r := by
  match r, h with
  | .ok (.nx, E'), h => exact fun v G' H' as' s => h v G' H' as' (e.trans s)
  | .ok (.bk, E'), h => exact fun v G' H' as' s => h v G' H' as' (e.trans s)
  | .ok (.ct, E'), h => exact fun v G' H' as' s => h v G' H' as' (e.trans s)
  | .ok (.rt d, E'), h => exact fun v σ' G' H' as' s => h v σ' G' H' as' (e.trans s)
  | .err x E', h => exact fun c dx σ' G' H' as' s => h c dx σ' G' H' as' (e.trans s)
/-- behind the first of two steps -/
def Mid (K : PySem.W.Frag) (F : Fr) (G : Hp) (σ : L2.St) (R : V → W → Hp → Hp → Env → (Nat → List Addr) → Prop) (v : V) (H1 : Hp) : Prop :=
  ∃ w G1 E1 as1, Same G G1 ∧ StE K F G1 H1 σ E1 as1 ∧ WOk K G1 E1 σ v w ∧ R v w G1 H1 E1 as1
theorem Po.bind {r : Res (W × Env)} {g : W × Env → Res (W × Env)} (h : Po K Wi F G σ Q (r.bind g)) :
    Po K Wi F G σ (Mid K F G σ fun _ w G1 _ E1 _ => Po K Wi F G1 σ Q (g (w, E1))) r := by
  match r, h with
  | .ok (w, E'), h => exact fun v G' H' as' s st wo => ⟨w, G', E', as', s, st, wo, Po.up s h⟩
  | .err x E', h => exact h
theorem Po.bindA {r : Res (W × Env)} {QA : List V → Hp → Prop} {g : W × Env → Res (List W × Env)} (h : PoA K Wi F G σ QA (r.bind g)) :
    Po K Wi F G σ (Mid K F G σ fun _ w G1 _ E1 _ => PoA K Wi F G1 σ QA (g (w, E1))) r := by
  match r, h with
  | .ok (w, E'), h => exact fun v G' H' as' s st wo => ⟨w, G', E', as', s, st, wo, PoA.up s h⟩
  | .err x E', h => exact h
/-- an expression, then a statement's end with the same slots -/
theorem Po.bindS {r : Res (W × Env)} {Dn : Ends} {g : W × Env → Res (Fl × Env)} (h : PoS K Wi F G Dn (r.bind g)) :
    Po K Wi F G σ (Mid K F G σ fun _ w G1 _ E1 _ => PoS K Wi F G1 Dn (g (w, E1))) r := by
  match r, h with
  | .ok (w, E'), h => exact fun v G' H' as' s st wo => ⟨w, G', E', as', s, st, wo, PoS.up s h⟩
  | .err x E', h => exact fun c dx G' H' as' s st xo => h c dx σ G' H' as' s st xo
def MidA (K : PySem.W.Frag) (F : Fr) (G : Hp) (σ : L2.St) (R : List V → List W → Hp → Hp → Env → (Nat → List Addr) → Prop) (vs : List V) (H1 : Hp) : Prop :=
  ∃ ws G1 E1 as1, Same G G1 ∧ StE K F G1 H1 σ E1 as1 ∧ WOks K G1 E1 σ vs ws ∧ R vs ws G1 H1 E1 as1
theorem PoA.bind {r : Res (List W × Env)} {g : List W × Env → Res (W × Env)} (h : Po K Wi F G σ Q (r.bind g)) :
    PoA K Wi F G σ (MidA K F G σ fun _ ws G1 _ E1 _ => Po K Wi F G1 σ Q (g (ws, E1))) r := by
  match r, h with
  | .ok (w, E'), h => exact fun v G' H' as' s st wo => ⟨w, G', E', as', s, st, wo, Po.up s h⟩
  | .err x E', h => exact h
end
end DL
namespace DL
open PySem PySem.Spec PyProof.Rows L2

section
variable {K : PySem.W.Frag} {Wi : Wish} {F : Fr} {G G' H H' : Hp} {σ : L2.St} {E : Env} {as : Nat → List Addr} {Q : VK}

/-- the heap grows, what is data grows by new things alone -/
structure Al (G H G' H' : Hp) : Prop where
  g : Same G G'
  h : Same H H'
  s : Same G' H'
  new : ∀ a o, G' a ≠ none → G a = none → H a = some o → isT o = true
theorem Al.refl (s : Same G H) : Al G H G H := ⟨Same.refl _, Same.refl _, s, fun _ _ h e => absurd e h⟩
theorem Al.trans {G1 H1 G2 H2 : Hp} (a : Al G H G1 H1) (b : Al G1 H1 G2 H2) : Al G H G2 H2 := by
  refine ⟨a.g.trans b.g, a.h.trans b.h, b.s, fun x o h e q => ?_⟩
  by_cases h1 : G1 x = none
  · exact b.new x o h h1 (a.h x o q)
  · exact a.new x o h1 e q
theorem Al.one {p : Addr} {o : HO} (s : Same G H) (hp : H p = none) : Al G H (upd G p o) (upd H p o) := by
  have gp : G p = none := s.free hp
  refine ⟨fun b u e => ?_, fun b u e => ?_, fun b u e => ?_, fun b o h e q => ?_⟩
  · rw [upd_ne (ne_of_none e gp)]; exact e
  · rw [upd_ne (ne_of_none e hp)]; exact e
  · by_cases hb : b = p
    · subst hb; rw [upd_same] at e ⊢; exact e
    · rw [upd_ne hb] at e ⊢; exact s b u e
  · by_cases hb : b = p
    · rw [hb, hp] at q; cases q
    · rw [upd_ne hb] at h; exact absurd e h
theorem Al.grow (s : Same G H) (h : Same H H') : Al G H G H' := ⟨Same.refl _, h, s.trans h, fun _ _ h e => absurd e h⟩

theorem OwnAt.up {a : Addr} {d : D} (e : Same G G') (h : ∀ o, H a = some o → H' a = some o) (x : OwnAt K G H a d) : OwnAt K G' H' a d := by
  cases d with
  | lst ds => obtain ⟨vs, e1, z, r⟩ := x; exact ⟨vs, h _ e1, z, r.up e⟩
  | dic kd => obtain ⟨vs, e1, r⟩ := x; exact ⟨vs, h _ e1, r.up e⟩
  | dit kd => obtain ⟨vs, e1, r⟩ := x; exact ⟨vs, h _ e1, r.up e⟩
  | dix w kd => obtain ⟨xs, ep, e1, z, n, r⟩ := x; exact ⟨xs, ep, h _ e1, z, n, r.up e⟩
  | obj C fd => obtain ⟨dx, vs, e1, r⟩ := x; exact ⟨dx, vs, h _ e1, r.up e⟩
  | non => exact x.elim
  | bl _ => exact x.elim
  | int _ => exact x.elim
  | str _ => exact x.elim
  | tup _ => exact x.elim
theorem OwnAt.hasM {a : Addr} {d : D} (x : OwnAt K G H a d) : ∃ o, H a = some o ∧ isT o = false := by
  cases d with
  | lst ds => obtain ⟨vs, e1, z, r⟩ := x; exact ⟨_, e1, rfl⟩
  | dic kd => obtain ⟨vs, e1, r⟩ := x; exact ⟨_, e1, rfl⟩
  | dit kd => obtain ⟨vs, e1, r⟩ := x; exact ⟨_, e1, rfl⟩
  | dix w kd => obtain ⟨xs, ep, e1, z, n, r⟩ := x; exact ⟨_, e1, rfl⟩
  | obj C fd => obtain ⟨dx, vs, e1, r⟩ := x; exact ⟨_, e1, rfl⟩
  | non => exact x.elim
  | bl _ => exact x.elim
  | int _ => exact x.elim
  | str _ => exact x.elim
  | tup _ => exact x.elim
theorem OwnAt.hasO {a : Addr} {d : D} (x : OwnAt K G H a d) : ∃ o, H a = some o := let ⟨o, h, _⟩ := x.hasM; ⟨o, h⟩
theorem FsOk.up (e : Same G G') : ∀ {vs : List (Str × V)} {fs : List (Str × Bool × D)} {ls : List Addr}, FsOk K G H vs fs ls → (∀ a ∈ ls, ∀ o, H a = some o → H' a = some o) → FsOk K G' H' vs fs ls
  | _, _, _, .nil, _ => .nil
  | _, _, _, .dat d r, h => .dat (d.up e) (FsOk.up e r h)
  | _, _, _, .own o r, h => .own (o.up e (h _ List.mem_cons_self)) (FsOk.up e r fun a m => h a (List.mem_cons_of_mem _ m))
theorem FsOk.there : ∀ {vs : List (Str × V)} {fs : List (Str × Bool × D)} {ls : List Addr}, FsOk K G H vs fs ls → ∀ a ∈ ls, ∃ o, H a = some o ∧ isT o = false
  | _, _, _, .nil, _, h => by cases h
  | _, _, _, .dat _ r, a, h => FsOk.there r a h
  | _, _, _, .own o r, a, h => by
    rcases List.mem_cons.mp h with e | h
    · rw [e]; exact o.hasM
    · exact FsOk.there r a h
theorem ObAt.up {a C : Addr} {ls : List Addr} {fs : List (Str × Bool × D)} (x : ObAt K G H a ls C fs) (e : Same G G') (h : ∀ b ∈ a :: ls, ∀ o, H b = some o → H' b = some o) : ObAt K G' H' a ls C fs := by
  obtain ⟨dx, vs, h0, h1, h2⟩ := x
  exact ⟨dx, vs, h0, h a List.mem_cons_self _ h1, h2.up e fun b m => h b (List.mem_cons_of_mem _ m)⟩
theorem ObAt.there {a C : Addr} {ls : List Addr} {fs : List (Str × Bool × D)} (x : ObAt K G H a ls C fs) : ∀ b ∈ a :: ls, ∃ o, H b = some o ∧ isT o = false := by
  obtain ⟨dx, vs, h0, h1, h2⟩ := x
  intro b hb
  rcases List.mem_cons.mp hb with e | hb
  · rw [e]; exact ⟨_, h1, rfl⟩
  · exact h2.there b hb
theorem CellOk.up {P : List Addr} {l : List Addr} {v : Option V} {c : Cell} (e : Same G G') (h : ∀ a ∈ l, ∀ o, H a = some o → H' a = some o) (x : CellOk K P G H l v c) : CellOk K P G' H' l v c := by
  cases c with
  | no => exact x
  | dat d => obtain ⟨x1, y, x2, x3⟩ := x; exact ⟨x1, y, x2, x3.up e⟩
  | own d => obtain ⟨a, x1, x2, x3⟩ := x; exact ⟨a, x1, x2, x3.up e (h a (by rw [x1]; exact List.mem_singleton.mpr rfl))⟩
  | slf a d => obtain ⟨x1, x2, x3⟩ := x; exact ⟨x1, x2, x3.up e (h a (by rw [x1]; exact List.mem_singleton.mpr rfl))⟩
  | deck a q z b => obtain ⟨x1, x2, x3, x4⟩ := x; exact ⟨x1, x2, h a (by rw [x1]; simp) _ x3, h q (by rw [x1]; simp) _ x4⟩
  | cls _ => exact x
  | ob p C fs => obtain ⟨a, ls, x1, x2, x4, x3⟩ := x; exact ⟨a, ls, x1, x2, x4, x3.up e (by rw [← x1]; exact h)⟩
  | sob a C fs => obtain ⟨ls, x1, x2, x3⟩ := x; exact ⟨ls, x1, x2, x3.up e (by rw [← x1]; exact h)⟩
theorem CellOk.there {P : List Addr} {l : List Addr} {v : Option V} {c : Cell} (x : CellOk K P G H l v c) : ∀ a ∈ l, ∃ o, H a = some o ∧ isT o = false := by
  intro a ha
  cases c with
  | no => rw [show l = [] from x] at ha; cases ha
  | cls _ => rw [x.1] at ha; cases ha
  | ob p C fs => obtain ⟨b, ls, x1, x2, _, x3⟩ := x; rw [x1] at ha; exact x3.there a ha
  | sob b C fs => obtain ⟨ls, x1, x2, x3⟩ := x; rw [x1] at ha; exact x3.there a ha
  | dat d => rw [x.1] at ha; cases ha
  | own d =>
    obtain ⟨b, x1, x2, x3⟩ := x
    rw [x1] at ha
    rw [List.mem_singleton.mp ha]
    exact x3.hasM
  | slf b d =>
    obtain ⟨x1, x2, x3⟩ := x
    rw [x1] at ha
    rw [List.mem_singleton.mp ha]
    exact x3.hasM
  | deck b q z c =>
    obtain ⟨x1, x2, x3, x4⟩ := x
    rw [x1] at ha
    rcases List.mem_cons.mp ha with e | ha
    · rw [e]; exact ⟨_, x3, rfl⟩
    · rw [List.mem_singleton.mp ha]; exact ⟨_, x4, rfl⟩
theorem StE.thereM (st : StE K F G H σ E as) {i : Nat} {a : Addr} (ha : a ∈ as i) : ∃ o, H a = some o ∧ isT o = false := by
  by_cases hi : i < E.length
  · obtain ⟨v, _, x⟩ := st.cell i E[i] (List.getElem?_eq_getElem hi)
    exact x.there a ha
  · rw [st.tail i (by omega)] at ha; cases ha
theorem StE.there (st : StE K F G H σ E as) {i : Nat} {a : Addr} (ha : a ∈ as i) : ∃ o, H a = some o := let ⟨o, h, _⟩ := st.thereM ha; ⟨o, h⟩
theorem StE.al (st : StE K F G H σ E as) (a : Al G H G' H') : StE K F G' H' σ E as := by
  refine ⟨st.len, st.s0.trans a.g, a.s, fun b o h x => a.h _ _ (st.keep b o h x), fun b h => st.dom b (a.h.free h), fun b o h h0 ht hx => ?_, fun i c e => ?_, st.sep, fun i b hb => ⟨?_, (st.off i b hb).2⟩, st.tail⟩
  · by_cases hg : G b = none
    · by_cases hb : H b = none
      · rw [st.dom b hb] at h0; cases h0
      · obtain ⟨u, hu⟩ := Option.ne_none_iff_exists'.mp hb
        have e := st.keep b o h0 hx
        rw [a.new b o h hg e] at ht; cases ht
    · exact st.priv b o hg h0 ht hx
  · obtain ⟨v, e1, x⟩ := st.cell i c e
    exact ⟨v, e1, x.up a.g fun b _ o q => a.h b o q⟩
  · by_cases hg : G' b = none
    · exact hg
    · obtain ⟨o, q, ht⟩ := st.thereM hb
      rw [a.new b o hg (st.off i b hb).1 q] at ht; cases ht
/-- the addresses without those of a slot -/
def drp (as : Nat → List Addr) (i : Nat) (l : List Addr) : Nat → List Addr := fun j => if j = i then l else as j
theorem drp_same {i : Nat} {l : List Addr} : drp as i l i = l := if_pos rfl
theorem drp_ne {i j : Nat} {l : List Addr} (h : j ≠ i) : drp as i l j = as j := if_neg h
theorem get_set {α : Type} {l : List α} {i j : Nat} {x y : α} (h : (l.set i x)[j]? = some y) : (j = i ∧ y = x) ∨ (j ≠ i ∧ l[j]? = some y) := by
  by_cases e : i = j
  · subst e
    by_cases hl : i < l.length
    · rw [List.getElem?_set_self hl] at h; cases h; exact .inl ⟨rfl, rfl⟩
    · rw [List.getElem?_eq_none (by rw [List.length_set]; omega)] at h; cases h
  · rw [List.getElem?_set_ne e] at h; exact .inr ⟨fun q => e q.symm, h⟩
/-- a slot gets a new cell, whose addresses are l -/
theorem StE.setC (st : StE K F G H σ E as) {i : Nat} {x : Option V} {c : Cell} {l : List Addr} (hc : CellOk K F.P0 G H l x c) (hl : ∀ a ∈ l, (∀ j, j ≠ i → a ∉ as j) ∧ G a = none ∧ (F.H0 a = none ∨ a ∈ F.X0)) (hi : i < E.length ∨ l = []) :
    StE K F G H (σ.set i x) (E.set i c) (drp as i l) := by
  refine ⟨by rw [List.length_set, List.length_set]; exact st.len, st.s0, st.s1, st.keep, st.dom, st.priv, fun j c' e => ?_, fun j k a h1 h2 => ?_, fun j a h => ?_, fun j hj => ?_⟩
  · rcases get_set e with ⟨rfl, rfl⟩ | ⟨hj, e⟩
    · refine ⟨x, List.getElem?_set_self ?_, ?_⟩
      · have := (List.getElem?_eq_some_iff.mp e).1
        rw [List.length_set] at this; rw [st.len]; exact this
      · rw [drp_same]; exact hc
    · obtain ⟨v, e1, y⟩ := st.cell j c' e
      exact ⟨v, by rw [List.getElem?_set_ne (Ne.symm hj)]; exact e1, by rw [drp_ne hj]; exact y⟩
  · by_cases hj : j = i <;> by_cases hk : k = i
    · rw [hj, hk]
    · subst hj; rw [drp_same] at h1; rw [drp_ne hk] at h2; exact absurd h2 ((hl a h1).1 k hk)
    · subst hk; rw [drp_same] at h2; rw [drp_ne hj] at h1; exact absurd h1 ((hl a h2).1 j hj)
    · rw [drp_ne hj] at h1; rw [drp_ne hk] at h2; exact st.sep j k a h1 h2
  · by_cases hj : j = i
    · subst hj; rw [drp_same] at h; exact (hl a h).2
    · rw [drp_ne hj] at h; exact st.off j a h
  · rw [List.length_set] at hj
    by_cases e : j = i
    · subst e; rw [drp_same]
      rcases hi with hi | hi
      · omega
      · exact hi
    · rw [drp_ne e]; exact st.tail j hj
theorem StE.setD (st : StE K F G H σ E as) {i : Nat} {v : V} {d : D} (h : DD K G v d) : StE K F G H (σ.set i (some v)) (E.set i (.dat d)) (drp as i []) :=
  st.setC ⟨rfl, v, rfl, h⟩ (fun _ h => by cases h) (.inr rfl)
theorem StE.setN (st : StE K F G H σ E as) {i : Nat} {x : Option V} : StE K F G H (σ.set i x) (E.set i .no) (drp as i []) :=
  st.setC (by rfl) (fun _ h => by cases h) (.inr rfl)
/-- an own object is written -/
theorem StE.write (st : StE K F G H σ E as) {i : Nat} {a : Addr} {d d' : D} {o : HO} (e : E[i]? = some (.own d)) (ha : a ∈ as i) (h : OwnAt K G (upd H a o) a d') : StE K F G (upd H a o) σ (E.set i (.own d')) as := by
  obtain ⟨v, e1, b, x1, x2, x3⟩ := st.cell i _ e
  have eb : a = b := by rw [x1] at ha; exact List.mem_singleton.mp ha
  subst eb
  have of := st.off i a ha
  refine ⟨by rw [List.length_set]; exact st.len, st.s0, fun b u q => ?_, fun b u q x => ?_, fun b q => ?_, st.priv, fun j c' q => ?_, st.sep, st.off, fun j hj => st.tail j (by rw [List.length_set] at hj; exact hj)⟩
  · rw [upd_ne (ne_of_none q of.1)]; exact st.s1 b u q
  · have hb : b ≠ a := fun z => by
      subst z
      rcases of.2 with z | z
      · rw [z] at q; cases q
      · exact x z
    rw [upd_ne hb]; exact st.keep b u q x
  · by_cases hb : b = a
    · subst hb; rw [upd_same] at q; cases q
    · rw [upd_ne hb] at q; exact st.dom b q
  · rcases get_set q with ⟨rfl, rfl⟩ | ⟨hj, q⟩
    · exact ⟨v, e1, a, x1, x2, h⟩
    · obtain ⟨w, e2, y⟩ := st.cell j c' q
      refine ⟨w, e2, y.up (Same.refl _) fun b hb u q => ?_⟩
      have : b ≠ a := fun z => by subst z; exact hj (st.sep j i b hb ha)
      rw [upd_ne this]; exact q
/-- an own object becomes data -/
theorem StE.freeze (st : StE K F G H σ E as) {i : Nat} {a : Addr} {d : D} (e : E[i]? = some (.own d)) (ha : σ[i]? = some (some (.ref a))) : ∃ G', Same G G' ∧ DD K G' (.ref a) d ∧ StE K F G' H σ (E.set i (.dat d)) (drp as i []) := by
  obtain ⟨v, e1, b, x1, x2, x3⟩ := st.cell i _ e
  rw [ha] at e1; cases e1
  cases x2
  have hm : a ∈ as i := by rw [x1]; exact List.mem_singleton.mpr rfl
  obtain ⟨ga, hoff⟩ := st.off i a hm
  obtain ⟨o, ho⟩ := x3.hasO
  have sg : Same G (upd G a o) := fun b u q => by rw [upd_ne (ne_of_none q ga)]; exact q
  have st1 : StE K F (upd G a o) H σ (E.set i .no) (drp as i []) := by
    refine ⟨by rw [List.length_set]; exact st.len, st.s0.trans sg, fun b u q => ?_, st.keep, st.dom, fun b o h h0 ht hx => ?_, fun j c' q => ?_, fun j k b h1 h2 => ?_, fun j b h => ?_, fun j hj => ?_⟩
    · by_cases hb : b = a
      · subst hb; rw [upd_same] at q; cases q; exact ho
      · rw [upd_ne hb] at q; exact st.s1 b u q
    · by_cases hb : b = a
      · subst hb
        rcases hoff with z | z
        · rw [z] at h0; cases h0
        · exact absurd z hx
      · rw [upd_ne hb] at h; exact st.priv b o h h0 ht hx
    · rcases get_set q with ⟨rfl, rfl⟩ | ⟨hj, q⟩
      · exact ⟨_, ha, drp_same⟩
      · obtain ⟨w, e2, y⟩ := st.cell j c' q
        exact ⟨w, e2, by rw [drp_ne hj]; exact y.up sg fun b _ u q => q⟩
    · by_cases hj : j = i
      · subst hj; rw [drp_same] at h1; cases h1
      · by_cases hk : k = i
        · subst hk; rw [drp_same] at h2; cases h2
        · rw [drp_ne hj] at h1; rw [drp_ne hk] at h2; exact st.sep j k b h1 h2
    · by_cases hj : j = i
      · subst hj; rw [drp_same] at h; cases h
      · rw [drp_ne hj] at h
        refine ⟨?_, (st.off j b h).2⟩
        have : b ≠ a := fun z => by subst z; exact hj (st.sep j i b h hm)
        rw [upd_ne this]; exact (st.off j b h).1
    · by_cases hj' : j = i
      · subst hj'; rw [drp_same]
      · rw [drp_ne hj']; exact st.tail j (by rw [List.length_set] at hj; exact hj)
  have hd : DD K (upd G a o) (.ref a) d := by
    cases d with
    | lst ds => obtain ⟨vs, e1, z, r⟩ := x3; rw [ho] at e1; cases e1; exact .lst upd_same z (r.up sg)
    | dic kd => obtain ⟨vs, e1, r⟩ := x3; rw [ho] at e1; cases e1; exact .dic upd_same (r.up sg)
    | dit kd => obtain ⟨vs, e1, r⟩ := x3; rw [ho] at e1; cases e1; exact .dit upd_same (r.up sg)
    | dix w kd => obtain ⟨xs, ep, e1, z, n, r⟩ := x3; rw [ho] at e1; have e1 := Option.some.inj e1; subst e1; exact .dix upd_same z n (r.up sg)
    | obj C fd => obtain ⟨dx, vs, e1, r⟩ := x3; rw [ho] at e1; cases e1; exact .obj upd_same (r.up sg)
    | non => exact x3.elim
    | bl _ => exact x3.elim
    | int _ => exact x3.elim
    | str _ => exact x3.elim
    | tup _ => exact x3.elim
  refine ⟨_, sg, hd, ?_⟩
  have st2 := st1.setD (i := i) hd
  have e1 : σ.set i (some (V.ref a)) = σ := by
    refine List.ext_getElem? fun j => ?_
    by_cases hj : i = j
    · subst hj; rw [List.getElem?_set_self (List.getElem?_eq_some_iff.mp ha).1]; exact ha.symm
    · rw [List.getElem?_set_ne hj]
  have e2 : (E.set i Cell.no).set i (.dat d) = E.set i (.dat d) := List.set_set ..
  have e3 : drp (drp as i []) i [] = drp as i [] := by
    funext j; unfold drp; split <;> rfl
  rw [e1, e2, e3] at st2
  exact st2

def own (as : Nat → List Addr) (n : Nat) : List Addr := (List.range n).flatMap as
theorem mem_own {n i : Nat} {a : Addr} (h : a ∈ as i) (hi : i < n) : a ∈ own as n := List.mem_flatMap.mpr ⟨i, List.mem_range.mpr hi, h⟩
theorem StE.mem_own (st : StE K F G H σ E as) {i : Nat} {a : Addr} (h : a ∈ as i) : a ∈ own as E.length := by
  by_cases hi : i < E.length
  · exact DL.mem_own h hi
  · rw [st.tail i (by omega)] at h; cases h
theorem of_own {n : Nat} {a : Addr} (h : a ∈ own as n) : ∃ i, a ∈ as i := by
  obtain ⟨i, _, h⟩ := List.mem_flatMap.mp h
  exact ⟨i, h⟩
def inner (F : Fr) (G H : Hp) (as : Nat → List Addr) (n : Nat) : Fr := ⟨H, G, own as n, F.P0⟩
theorem StE.in_ (st : StE K F G H σ E as) : StE K (inner F G H as E.length) G H σ E as :=
  ⟨st.len, Same.refl _, st.s1, fun _ _ h _ => h, fun _ h => h, fun _ _ h _ _ _ => h, st.cell, st.sep, fun i a h => ⟨(st.off i a h).1, .inr (st.mem_own h)⟩, st.tail⟩
theorem StE.out {σ' : L2.St} {E' : Env} {as' : Nat → List Addr} {n : Nat} (st : StE K F G H σ E as) (st' : StE K (inner F G H as n) G' H' σ' E' as') : StE K F G' H' σ' E' as' := by
  have hx : ∀ a, a ∈ own as n → F.H0 a = none ∨ a ∈ F.X0 := fun a h => by
    obtain ⟨i, h⟩ := of_own h
    exact (st.off i a h).2
  refine ⟨st'.len, st.s0.trans st'.s0, st'.s1, fun b o h x => ?_, fun b h => st.dom b (st'.dom b h), fun b o h h0 ht x => ?_, st'.cell, st'.sep, fun i b h => ⟨(st'.off i b h).1, ?_⟩, st'.tail⟩
  · refine st'.keep b o (st.keep b o h x) fun z => ?_
    rcases hx b z with y | y
    · rw [y] at h; cases h
    · exact x y
  · by_cases hm : b ∈ own as n
    · rcases hx b hm with y | y
      · rw [y] at h0; cases h0
      · exact absurd y x
    · exact st.priv b o (st'.priv b o h (st.keep b o h0 x) ht hm) h0 ht x
  · rcases (st'.off i b h).2 with y | y
    · exact .inl (st.dom b y)
    · exact hx b y
end
end DL
namespace DL
open PySem PySem.Spec PyProof.Rows L2

def keyPy : Key → PyData
  | .inl i => .int i
  | .inr x => .str x
mutual
def D.py : D → PyData
  | .non => .none
  | .bl b => .bool b
  | .int i => .int i
  | .str x => .str x
  | .lst xs => .list (pyL xs)
  | .tup xs => .tuple (pyL xs)
  | .dic kvs => .dict (pyK kvs)
  | .dit kvs => .dict (pyT kvs)
  | .dix _ _ => .none
  | .obj _ _ => .none
def pyL : List D → List PyData
  | [] => []
  | x :: xs => x.py :: pyL xs
def pyK : List (Key × D) → List (PyData × PyData)
  | [] => []
  | (k, d) :: r => (keyPy k, d.py) :: pyK r
def pyT : List (List Key × D) → List (PyData × PyData)
  | [] => []
  | (k, d) :: r => (.tuple (k.map keyPy), d.py) :: pyT r
end
mutual
/-- no dict, no instance -/
def D.plain : D → Bool
  | .lst xs => plainL xs
  | .tup xs => plainL xs
  | .dic _ => false
  | .dit _ => false
  | .dix _ _ => false
  | .obj _ _ => false
  | .non => true
  | .bl _ => true
  | .int _ => true
  | .str _ => true
def plainL : List D → Bool
  | [] => true
  | x :: xs => x.plain && plainL xs
end
section
variable {X : Cx} {pins : List (Addr × Obj)} {σ : L2.St} {G H : Hp} {s : Shared}
mutual
theorem DD.reads (I : Inv X pins σ H s) (e : Same G H) : ∀ (d : D) (v : V) (u : Value), d.plain = true → DD X.K G v d → RelV v u → ∃ as, Reads s.heap u d.py as
  | .non, _, _, _, h, r => by cases h; cases r; exact ⟨_, Reads.none⟩
  | .bl b, _, _, _, h, r => by cases h; cases r; exact ⟨_, Reads.bool b⟩
  | .int i, _, _, _, h, r => by cases h; obtain ⟨t, rfl⟩ := r; exact ⟨_, Reads.int i t⟩
  | .str x, _, _, _, h, r => by cases h; obtain ⟨t, rfl⟩ := r; exact ⟨_, Reads.str x t⟩
  | .lst ds, _, _, p, h, r => by
    cases h with
    | lst hs _ ha =>
      cases r
      obtain ⟨its, rv, ⟨o, n, ho, hc, _, hd⟩, _⟩ := I.list (SqL.of (e _ _ hs))
      obtain ⟨as, hr⟩ := DDs.reads I e ds _ its (by simpa [D.plain] using p) ha rv
      exact ⟨_, Reads.list ho hc hd hr⟩
  | .tup ds, _, _, p, h, r => by
    cases h with
    | tup hs _ ha =>
      cases r
      obtain ⟨its, rv, ⟨o, ho, hc, n, hd⟩, _⟩ := I.tuple (SqT.of (e _ _ hs))
      obtain ⟨as, hr⟩ := DDs.reads I e ds _ its (by simpa [D.plain] using p) ha rv
      exact ⟨_, Reads.tuple ho hc hd hr⟩
  | .dic _, _, _, p, _, _ => by cases p
  | .dit _, _, _, p, _, _ => by cases p
  | .dix _ _, _, _, p, _, _ => by cases p
  | .obj _ _, _, _, p, _, _ => by cases p
theorem DDs.reads (I : Inv X pins σ H s) (e : Same G H) : ∀ (ds : List D) (vs : List V) (us : List Value), plainL ds = true → DDs X.K G vs ds → Vals vs us → ∃ as, ReadsAll s.heap us (pyL ds) as
  | [], _, _, _, h, r => by cases h; cases r; exact ⟨_, .nil⟩
  | d :: ds, _, _, p, h, r => by
    cases h with
    | cons h1 h2 =>
      cases r with
      | cons r1 r2 =>
        rw [plainL, Bool.and_eq_true] at p
        obtain ⟨as, q1⟩ := DD.reads I e d _ _ p.1 h1 r1
        obtain ⟨bs, q2⟩ := DDs.reads I e ds _ _ p.2 h2 r2
        exact ⟨_, .cons q1 q2⟩
end
mutual
theorem DD.lay {K : PySem.W.Frag} : ∀ (d : D) (v : V), d.plain = true → DD K G v d → d.py.canLay0 = true
  | .non, _, _, _ => rfl
  | .bl b, _, _, _ => rfl
  | .int i, _, _, _ => rfl
  | .str x, _, _, h => by cases h with | str _ h => exact h.2
  | .lst ds, _, p, h => by cases h with | lst _ _ ha => exact DDs.lay ds _ (by simpa [D.plain] using p) ha
  | .tup ds, _, p, h => by cases h with | tup _ _ ha => exact DDs.lay ds _ (by simpa [D.plain] using p) ha
  | .dic _, _, p, _ => by cases p
  | .dit _, _, p, _ => by cases p
  | .dix _ _, _, p, _ => by cases p
  | .obj _ _, _, p, _ => by cases p
theorem DDs.lay {K : PySem.W.Frag} : ∀ (ds : List D) (vs : List V), plainL ds = true → DDs K G vs ds → PyData.canLayAll0 (pyL ds) = true
  | [], _, _, _ => rfl
  | d :: ds, _, p, h => by
    cases h with
    | cons h1 h2 =>
      rw [plainL, Bool.and_eq_true] at p
      show (PyData.canLay0 d.py && PyData.canLayAll0 (pyL ds)) = true
      rw [DD.lay d _ p.1 h1, DDs.lay ds _ p.2 h2]; rfl
end
end

def rd (E : Env) : W → Res D
  | .dat d => .ok d
  | .own i => match E[i]? with
    | some (.own d) => .ok d
    | _ => .stuck
def ofO {α : Type} : Option α → Res α
  | some a => .ok a
  | none => .stuck
@[simp] theorem ofO_some {α : Type} (a : α) : ofO (some a) = .ok a := rfl
@[simp] theorem rd_dat (E : Env) (d : D) : rd E (.dat d) = .ok d := rfl
theorem rd_own (E : Env) (i : Nat) : (∃ d, E[i]? = some (.own d) ∧ rd E (.own i) = .ok d) ∨ rd E (.own i) = .stuck := by
  cases h : E[i]? with
  | none => exact .inr (by unfold rd; simp [h])
  | some c =>
    cases c with
    | own d => exact .inl ⟨d, rfl, by unfold rd; simp [h]⟩
    | no => exact .inr (by unfold rd; simp [h])
    | dat d => exact .inr (by unfold rd; simp [h])
    | deck a q l b => exact .inr (by unfold rd; simp [h])
    | slf a d => exact .inr (by unfold rd; simp [h])
    | cls C => exact .inr (by unfold rd; simp [h])
    | ob p C fs => exact .inr (by unfold rd; simp [h])
    | sob a C fs => exact .inr (by unfold rd; simp [h])
theorem rd_no (E : Env) (w : W) : (∃ d, rd E w = .ok d) ∨ rd E w = .stuck := by
  cases w with
  | dat d => exact .inl ⟨d, rfl⟩
  | own i => exact (rd_own E i).imp (fun ⟨d, _, h⟩ => ⟨d, h⟩) id
/-- what is read: data, or the frame's own -/
inductive BD (K : PySem.W.Frag) (G H : Hp) (v : V) (d : D) : Prop
  | dat : DD K G v d → BD K G H v d
  | own {a : Addr} : v = .ref a → OwnAt K G H a d → BD K G H v d
section
variable {K : PySem.W.Frag} {Wi : Wish} {F : Fr} {G G1 G2 H H1 H2 : Hp} {σ : L2.St} {E E1 E2 : Env} {as as2 : Nat → List Addr} {Q : VK} {v : V} {w : W} {d : D}
theorem WOk.rd (h : WOk K G1 E1 σ v w) (s : Same G1 G2) (st : StE K F G2 H2 σ E2 as2) (e : DL.rd E2 w = .ok d) : BD K G2 H2 v d := by
  cases w with
  | dat d' => cases e; exact .dat (DD.up s h)
  | own i =>
    rcases rd_own E2 i with ⟨d', e1, z⟩ | z
    · rw [z] at e; cases e
      obtain ⟨x, e2, a, x1, x2, x3⟩ := st.cell i _ e1
      rw [h] at e2; cases e2
      cases x2
      exact .own rfl x3
    · rw [z] at e; cases e
theorem Po.rd {g : D → Res (W × Env)} (h : Po K Wi F G σ Q ((DL.rd E w).bind g)) : ∃ d, DL.rd E w = .ok d ∧ Po K Wi F G σ Q (g d) := by
  rcases rd_no E w with ⟨d, e⟩ | e
  · rw [e] at h; exact ⟨d, e, h⟩
  · rw [e] at h; exact h.elim
theorem PoS.rd {Dn : Ends} {g : D → Res (Fl × Env)} (h : PoS K Wi F G Dn ((DL.rd E w).bind g)) : ∃ d, DL.rd E w = .ok d ∧ PoS K Wi F G Dn (g d) := by
  rcases rd_no E w with ⟨d, e⟩ | e
  · rw [e] at h; exact ⟨d, e, h⟩
  · rw [e] at h; exact h.elim
theorem Po.of {α : Type} {o : Option α} {g : α → Res (W × Env)} (h : Po K Wi F G σ Q ((ofO o).bind g)) : ∃ d, o = some d ∧ Po K Wi F G σ Q (g d) := by
  cases o with
  | none => exact h.elim
  | some d => exact ⟨d, rfl, h⟩
theorem PoS.of {α : Type} {o : Option α} {Dn : Ends} {g : α → Res (Fl × Env)} (h : PoS K Wi F G Dn ((ofO o).bind g)) : ∃ d, o = some d ∧ PoS K Wi F G Dn (g d) := by
  cases o with
  | none => exact h.elim
  | some d => exact ⟨d, rfl, h⟩
theorem Po.mono {Q' : VK} (i : ∀ v H, Q v H → Q' v H) : ∀ {r : Res (W × Env)}, Po K Wi F G σ Q r → Po K Wi F G σ Q' r
  | .ok (_, _), h => fun v G' H' as' s st wo => i _ _ (h v G' H' as' s st wo)
  | .err _ _, h => h
theorem PoA.mono {Q Q' : List V → Hp → Prop} (i : ∀ v H, Q v H → Q' v H) : ∀ {r : Res (List W × Env)}, PoA K Wi F G σ Q r → PoA K Wi F G σ Q' r
  | .ok (_, _), h => fun v G' H' as' s st wo => i _ _ (h v G' H' as' s st wo)
  | .err _ _, h => h
/-- the answer of a value's rule: d -/
def Rz (K : PySem.W.Frag) (G H : Hp) (Q : VK) (d : D) : Prop := ∀ v G' H', Al G H G' H' → DD K G' v d → Q v H'
theorem Po.rz (st : StE K F G H σ E as) (h : Po K Wi F G σ Q (.ok (.dat d, E))) : Rz K G H Q d := fun v G' H' a dd => h v G' H' as a.g (st.al a) dd
end

def OpD (K : PySem.W.Frag) (r : V → V → Hp → VK → Prop) (g : D → D → Option D) : Prop :=
  ∀ (G H : Hp) (x y : V) (a b d : D) (Q : VK), Same G H → BD K G H x a → BD K G H y b → g a b = some d → Rz K G H Q d → r x y H Q
def UnD (K : PySem.W.Frag) (r : V → Hp → VK → Prop) (g : D → Option D) : Prop :=
  ∀ (G H : Hp) (x : V) (a d : D) (Q : VK), Same G H → BD K G H x a → g a = some d → Rz K G H Q d → r x H Q

inductive BDs (K : PySem.W.Frag) (G H : Hp) : List V → List D → Prop
  | nil : BDs K G H [] []
  | cons {v : V} {vs : List V} {d : D} {ds : List D} : BD K G H v d → BDs K G H vs ds → BDs K G H (v :: vs) (d :: ds)
def CallD (K : PySem.W.Frag) (r : List V → Hp → VK → Prop) (g : List D → Option D) : Prop :=
  ∀ (G H : Hp) (xs : List V) (ds : List D) (d : D) (Q : VK), Same G H → BDs K G H xs ds → g ds = some d → Rz K G H Q d → r xs H Q
def rds (E : Env) : List W → Res (List D)
  | [] => .ok []
  | w :: ws => (rd E w).bind fun d => (rds E ws).bind fun ds => .ok (d :: ds)
section
variable {K : PySem.W.Frag} {Wi : Wish} {F : Fr} {G G1 G2 H H1 H2 : Hp} {σ : L2.St} {E E1 E2 : Env} {as as2 : Nat → List Addr} {Q : VK}
theorem rds_no : ∀ (ws : List W), (∃ ds, rds E ws = .ok ds) ∨ rds E ws = .stuck
  | [] => .inl ⟨_, rfl⟩
  | w :: ws => by
    rcases rds_no ws with ⟨ds, h⟩ | h
    · cases e : rd E w with
      | ok d => exact .inl ⟨d :: ds, by rw [rds, e, h]; rfl⟩
      | err x E' => rcases rd_no E w with ⟨d, z⟩ | z <;> rw [z] at e <;> cases e
      | stuck => exact .inr (by rw [rds, e]; rfl)
    · cases e : rd E w with
      | ok d => exact .inr (by rw [rds, e, h]; rfl)
      | err x E' => rcases rd_no E w with ⟨d, z⟩ | z <;> rw [z] at e <;> cases e
      | stuck => exact .inr (by rw [rds, e]; rfl)
theorem Po.rds {ws : List W} {g : List D → Res (W × Env)} (h : Po K Wi F G σ Q ((DL.rds E ws).bind g)) : ∃ ds, DL.rds E ws = .ok ds ∧ Po K Wi F G σ Q (g ds) := by
  rcases rds_no (E := E) ws with ⟨ds, e⟩ | e
  · rw [e] at h; exact ⟨ds, e, h⟩
  · rw [e] at h; exact h.elim
theorem WOks.rds : ∀ {vs : List V} {ws : List W} {ds : List D}, WOks K G1 E1 σ vs ws → Same G1 G2 → StE K F G2 H2 σ E2 as2 → DL.rds E2 ws = .ok ds → BDs K G2 H2 vs ds
  | [], [], ds, _, _, _, e => by cases e; exact .nil
  | v :: vs, w :: ws, ds, h, s, st, e => by
    rw [DL.rds] at e
    cases e1 : DL.rd E2 w with
    | ok d =>
      rw [e1] at e
      cases e2 : DL.rds E2 ws with
      | ok ds' =>
        rw [e2] at e; cases e
        exact .cons (h.1.rd s st e1) (WOks.rds h.2 s st e2)
      | err x E' => rw [e2] at e; cases e
      | stuck => rw [e2] at e; cases e
    | err x E' => rw [e1] at e; cases e
    | stuck => rw [e1] at e; cases e
  | [], _ :: _, _, h, _, _, _ => h.elim
  | _ :: _, [], _, h, _, _, _ => h.elim
end

section
variable {X : Cx} {Wi : Wish} {e a b : Expr} {es : List Expr} {fa fb : EF} {fs : AF} {pos : Pos}
def eC (d : D) : EF := fun E => .ok (.dat d, E)
theorem de_c {v : V} {d : D} (h : PE X e (tC v)) (hd : ∀ G, DD X.K G v d) : DE X Wi e (eC d) := by
  refine PE.imp h fun σ H Q q => ?_
  obtain ⟨F, G, E, as, st, p⟩ := q
  exact Po.rz st p v G H (Al.refl st.s1) (hd G)
theorem de_int {i : Int} {j pos} : DE X Wi (.Constant (.int i) j pos) (eC (.int i)) := de_c pe_int fun _ => .int i
theorem de_bl {i : Bool} {j pos} : DE X Wi (.Constant (.bool i) j pos) (eC (.bl i)) := de_c pe_bl fun _ => .bl i
theorem de_str {x : Str} {j pos} (h : SOk x) : DE X Wi (.Constant (.str x) j pos) (eC (.str x)) := de_c pe_str fun _ => .str x h

def eV (i : Nat) : EF := fun E => match E[i]? with
  | some (.dat d) => .ok (.dat d, E)
  | some (.own _) => .ok (.own i, E)
  | some (.ob _ _ _) => .ok (.own i, E)
  | _ => .stuck
theorem de_v {i : Nat} (h : PE X e (tVar i)) : DE X Wi e (eV i) := by
  refine PE.imp h fun σ H Q q => ?_
  obtain ⟨F, G, E, as, st, p⟩ := q
  unfold eV at p
  split at p
  · rename_i d e1
    obtain ⟨v, e2, x⟩ := st.cell i _ e1
    obtain ⟨_, y, rfl, dd⟩ := x
    exact ⟨y, e2, Po.rz st p y G H (Al.refl st.s1) dd⟩
  · rename_i d e1
    obtain ⟨v, e2, x⟩ := st.cell i _ e1
    obtain ⟨a, _, rfl, dd⟩ := x
    exact ⟨_, e2, p _ G H as (Same.refl _) st e2⟩
  · rename_i b C fs e1
    obtain ⟨v, e2, x⟩ := st.cell i _ e1
    obtain ⟨a, ls, _, rfl, dd⟩ := x
    exact ⟨_, e2, p _ G H as (Same.refl _) st e2⟩
  · exact p.elim

def eOp (g : D → D → Option D) (fa fb : EF) : EF := fun E => (fa E).bind fun p => (fb p.2).bind fun q => (rd q.2 p.1).bind fun x => (rd q.2 q.1).bind fun y => (ofO (g x y)).bind fun d => .ok (.dat d, q.2)
theorem tOp_of {r : V → V → Hp → VK → Prop} {g : D → D → Option D} (hg : OpD X.K r g) : ∀ σ H Q, tE X.K Wi (eOp g fa fb) σ H Q → tOp r (tE X.K Wi fa) (tE X.K Wi fb) σ H Q := by
  intro σ H Q q
  obtain ⟨F, G, E, as, st, p⟩ := q
  refine ⟨F, G, E, as, st, Po.mono (fun x H1 m => ?_) (Po.bind p)⟩
  obtain ⟨w1, G1, E1, as1, s1, st1, wo1, p1⟩ := m
  refine ⟨F, G1, E1, as1, st1, Po.mono (fun y H2 m => ?_) (Po.bind p1)⟩
  obtain ⟨w2, G2, E2, as2, s2, st2, wo2, p2⟩ := m
  obtain ⟨d1, e1, p2⟩ := Po.rd p2
  obtain ⟨d2, e2, p2⟩ := Po.rd p2
  obtain ⟨d, e3, p2⟩ := Po.of p2
  exact hg G2 H2 x y d1 d2 d Q st2.s1 (wo1.rd s2 st2 e1) (wo2.rd (Same.refl _) st2 e2) e3 (Po.rz st2 p2)
theorem de_op {op : Operator} {r : V → V → Hp → VK → Prop} {g : D → D → Option D} (ho : OpR X (binaryOp op) r) (hg : OpD X.K r g) (ha : DE X Wi a fa) (hb : DE X Wi b fb) : DE X Wi (.BinOp a op b pos) (eOp g fa fb) :=
  PE.imp (pe_op ho ha hb) (tOp_of hg)
theorem de_cmp {op : CmpOp} {r : V → V → Hp → VK → Prop} {g : D → D → Option D} (ho : OpR X (compareOp op) r) (hg : OpD X.K r g) (ha : DE X Wi a fa) (hb : DE X Wi b fb) (hm : behindInMarks op b = false) : DE X Wi (.Compare a [op] [b] pos) (eOp g fa fb) :=
  PE.imp (pe_cmpR ho ha hb hm) (tOp_of hg)
def eUn (g : D → Option D) (fa : EF) : EF := fun E => (fa E).bind fun p => (rd p.2 p.1).bind fun x => (ofO (g x)).bind fun d => .ok (.dat d, p.2)
theorem tUn_of {r : V → Hp → VK → Prop} {g : D → Option D} (hg : UnD X.K r g) : ∀ σ H Q, tE X.K Wi (eUn g fa) σ H Q → tUn r (tE X.K Wi fa) σ H Q := by
  intro σ H Q q
  obtain ⟨F, G, E, as, st, p⟩ := q
  refine ⟨F, G, E, as, st, Po.mono (fun x H1 m => ?_) (Po.bind p)⟩
  obtain ⟨w1, G1, E1, as1, s1, st1, wo1, p1⟩ := m
  obtain ⟨d1, e1, p1⟩ := Po.rd p1
  obtain ⟨d, e3, p1⟩ := Po.of p1
  exact hg G1 H1 x d1 d Q st1.s1 (wo1.rd (Same.refl _) st1 e1) e3 (Po.rz st1 p1)
theorem de_un {op : UnaryOp} {r : V → Hp → VK → Prop} {g : D → Option D} (ho : UnR X (unaryOp op) r) (hg : UnD X.K r g) (ha : DE X Wi a fa) : DE X Wi (.UnaryOp op a pos) (eUn g fa) := PE.imp (pe_un ho ha) (tUn_of hg)

def aN : AF := fun E => .ok ([], E)
def aC (f : EF) (g : AF) : AF := fun E => (f E).bind fun p => (g p.2).bind fun q => .ok (p.1 :: q.1, q.2)
end
end DL
namespace DL
open PySem PySem.Spec PyProof.Rows L2

def PoN (K : PySem.W.Frag) (Wi : Wish) (F : Fr) (G : Hp) (σ : L2.St) (Q : VK) : Res (D × Env) → Prop
  | .ok (d, E') => ∀ p G' H' as', Same G G' → StE K F G' H' σ E' as' → G' p = none → F.H0 p = none → (∀ j, p ∉ as' j) → OwnAt K G' H' p d → Q (.ref p) H'
  | .err x E' => ∀ c dx G' H' as', Same G G' → StE K F G' H' σ E' as' → ExOk K G' x c dx → Wi σ c dx H'
  | .stuck => False
abbrev NF := Env → Res (D × Env)
def tN (K : PySem.W.Frag) (Wi : Wish) (f : NF) : TE := fun σ H Q => ∃ F G E as, StE K F G H σ E as ∧ PoN K Wi F G σ Q (f E)
abbrev DN (X : Cx) (Wi : Wish) (e : Expr) (f : NF) : Prop := PE X e (tN X.K Wi f)
/-- as data -/
def eN (f : NF) : EF := fun E => (f E).bind fun p => .ok (.dat p.1, p.2)

section
variable {K : PySem.W.Frag} {Wi : Wish} {F : Fr} {G G1 G2 H H1 H2 : Hp} {σ : L2.St} {E E1 E2 : Env} {as as2 : Nat → List Addr} {Q : VK} {v : V} {w : W} {d : D}
theorem StE.freezeN (st : StE K F G H σ E as) {p : Addr} (gp : G p = none) (fp : F.H0 p = none) (np : ∀ j, p ∉ as j) (o : OwnAt K G H p d) : ∃ G', Same G G' ∧ DD K G' (.ref p) d ∧ StE K F G' H σ E as := by
  obtain ⟨u, hu⟩ := o.hasO
  have sg : Same G (upd G p u) := fun b z q => by rw [upd_ne (ne_of_none q gp)]; exact q
  refine ⟨upd G p u, sg, ?_, st.len, st.s0.trans sg, fun b z q => ?_, st.keep, st.dom, fun b u h h0 ht x => ?_, fun i c e => ?_, st.sep, fun i b hb => ⟨?_, (st.off i b hb).2⟩, st.tail⟩
  · cases d with
    | lst ds => obtain ⟨vs, e1, z, r⟩ := o; rw [hu] at e1; cases e1; exact .lst upd_same z (r.up sg)
    | dic kd => obtain ⟨vs, e1, r⟩ := o; rw [hu] at e1; cases e1; exact .dic upd_same (r.up sg)
    | dit kd => obtain ⟨vs, e1, r⟩ := o; rw [hu] at e1; cases e1; exact .dit upd_same (r.up sg)
    | dix w kd => obtain ⟨xs, ep, e1, z, n, r⟩ := o; rw [hu] at e1; have e1 := Option.some.inj e1; subst e1; exact .dix upd_same z n (r.up sg)
    | obj C fd => obtain ⟨dx, vs, e1, r⟩ := o; rw [hu] at e1; cases e1; exact .obj upd_same (r.up sg)
    | non => exact o.elim
    | bl _ => exact o.elim
    | int _ => exact o.elim
    | str _ => exact o.elim
    | tup _ => exact o.elim
  · by_cases hb : b = p
    · subst hb; rw [upd_same] at q; cases q; exact hu
    · rw [upd_ne hb] at q; exact st.s1 b z q
  · by_cases hb : b = p
    · rw [hb, fp] at h0; cases h0
    · rw [upd_ne hb] at h; exact st.priv b u h h0 ht x
  · obtain ⟨v, e1, x⟩ := st.cell i c e
    exact ⟨v, e1, x.up sg fun _ _ _ q => q⟩
  · rw [upd_ne (fun (z : b = p) => np i (by rw [← z]; exact hb))]; exact (st.off i b hb).1
theorem PoN.po {r : Res (D × Env)} (h : Po K Wi F G σ Q (r.bind fun p => .ok (.dat p.1, p.2))) : PoN K Wi F G σ Q r := by
  match r, h with
  | .ok (d, E'), h =>
    intro p G' H' as' s st gp fp np o
    obtain ⟨G2, s2, dd, st2⟩ := st.freezeN gp fp np o
    exact h _ G2 H' as' (s.trans s2) st2 dd
  | .err x E', h => exact h
/-- the answer of a rule that makes a list or a dict -/
def RzN (K : PySem.W.Frag) (G H : Hp) (Q : VK) (d : D) : Prop := ∀ p H', H p = none → Same H H' → OwnAt K G H' p d → Q (.ref p) H'
theorem OwnAt.data {p : Addr} {u : HO} (o : OwnAt K G H p d) (hu : H p = some u) (gp : G p = none) : DD K (upd G p u) (.ref p) d := by
  have sg : Same G (upd G p u) := fun b z q => by rw [upd_ne (ne_of_none q gp)]; exact q
  cases d with
  | lst ds => obtain ⟨vs, e1, z, r⟩ := o; rw [hu] at e1; cases e1; exact .lst upd_same z (r.up sg)
  | dic kd => obtain ⟨vs, e1, r⟩ := o; rw [hu] at e1; cases e1; exact .dic upd_same (r.up sg)
  | dit kd => obtain ⟨vs, e1, r⟩ := o; rw [hu] at e1; cases e1; exact .dit upd_same (r.up sg)
  | dix w kd => obtain ⟨xs, ep, e1, z, n, r⟩ := o; rw [hu] at e1; have e1 := Option.some.inj e1; subst e1; exact .dix upd_same z n (r.up sg)
  | obj C fd => obtain ⟨dx, vs, e1, r⟩ := o; rw [hu] at e1; cases e1; exact .obj upd_same (r.up sg)
  | non => exact o.elim
  | bl _ => exact o.elim
  | int _ => exact o.elim
  | str _ => exact o.elim
  | tup _ => exact o.elim
theorem Al.fresh {p : Addr} {u : HO} (s : Same G H) (hp : H p = none) (h : Same H H2) (e : H2 p = some u) : Al G H (upd G p u) H2 := by
  have gp : G p = none := s.free hp
  refine ⟨fun b z q => ?_, h, fun b z q => ?_, fun b o hb e2 q => ?_⟩
  · rw [upd_ne (ne_of_none q gp)]; exact q
  · by_cases hb : b = p
    · subst hb; rw [upd_same] at q; cases q; exact e
    · rw [upd_ne hb] at q; exact h b z (s b z q)
  · by_cases hb' : b = p
    · rw [hb', hp] at q; cases q
    · rw [upd_ne hb'] at hb; exact absurd e2 hb
theorem Rz.new (s : Same G H) (h : Rz K G H Q d) : RzN K G H Q d := fun p H' hp hs o => by
  obtain ⟨u, hu⟩ := o.hasO
  exact h _ _ _ (Al.fresh s hp hs hu) (o.data hu (s.free hp))
theorem PoN.rz (st : StE K F G H σ E as) (h : PoN K Wi F G σ Q (.ok (d, E))) : RzN K G H Q d := fun p H' hp hs o => by
  have a : Al G H G H' := Al.grow st.s1 hs
  refine h p G H' as (Same.refl _) (st.al a) (st.s1.free hp) (st.dom p hp) (fun j hj => ?_) o
  obtain ⟨u, q⟩ := st.there hj
  rw [hp] at q; cases q
theorem PoN.up {r : Res (D × Env)} (e : Same G G1) (h : PoN K Wi F G σ Q r) : PoN K Wi F G1 σ Q r := by
  match r, h with
  | .ok (w, E'), h => exact fun v G' H' as' s => h v G' H' as' (e.trans s)
  | .err x E', h => exact fun c dx G' H' as' s => h c dx G' H' as' (e.trans s)
theorem Po.bindN {r : Res (W × Env)} {g : W × Env → Res (D × Env)} (h : PoN K Wi F G σ Q (r.bind g)) :
    Po K Wi F G σ (Mid K F G σ fun _ w G1 _ E1 _ => PoN K Wi F G1 σ Q (g (w, E1))) r := by
  match r, h with
  | .ok (w, E'), h => exact fun v G' H' as' s st wo => ⟨w, G', E', as', s, st, wo, PoN.up s h⟩
  | .err x E', h => exact h
theorem PoA.bindN {r : Res (List W × Env)} {g : List W × Env → Res (D × Env)} (h : PoN K Wi F G σ Q (r.bind g)) :
    PoA K Wi F G σ (MidA K F G σ fun _ ws G1 _ E1 _ => PoN K Wi F G1 σ Q (g (ws, E1))) r := by
  match r, h with
  | .ok (w, E'), h => exact fun v G' H' as' s st wo => ⟨w, G', E', as', s, st, wo, PoN.up s h⟩
  | .err x E', h => exact h
theorem PoN.rd {g : D → Res (D × Env)} (h : PoN K Wi F G σ Q ((DL.rd E w).bind g)) : ∃ d, DL.rd E w = .ok d ∧ PoN K Wi F G σ Q (g d) := by
  rcases rd_no E w with ⟨d, e⟩ | e
  · rw [e] at h; exact ⟨d, e, h⟩
  · rw [e] at h; exact h.elim
theorem PoN.rds {ws : List W} {g : List D → Res (D × Env)} (h : PoN K Wi F G σ Q ((DL.rds E ws).bind g)) : ∃ ds, DL.rds E ws = .ok ds ∧ PoN K Wi F G σ Q (g ds) := by
  rcases rds_no (E := E) ws with ⟨ds, e⟩ | e
  · rw [e] at h; exact ⟨ds, e, h⟩
  · rw [e] at h; exact h.elim
theorem PoN.of {α : Type} {o : Option α} {g : α → Res (D × Env)} (h : PoN K Wi F G σ Q ((ofO o).bind g)) : ∃ d, o = some d ∧ PoN K Wi F G σ Q (g d) := by
  cases o with
  | none => exact h.elim
  | some d => exact ⟨d, rfl, h⟩
end
def CallN (K : PySem.W.Frag) (r : List V → Hp → VK → Prop) (g : List D → Option D) : Prop :=
  ∀ (G H : Hp) (xs : List V) (ds : List D) (d : D) (Q : VK), Same G H → BDs K G H xs ds → g ds = some d → RzN K G H Q d → r xs H Q
section
variable {X : Cx} {Wi : Wish} {e a b : Expr} {es : List Expr} {fa fb : EF} {fs : AF} {f : NF} {p pos : Pos} {x : Str}
theorem dn_de (h : DN X Wi e f) : DE X Wi e (eN f) := PE.imp h fun σ H Q q => by
  obtain ⟨F, G, E, as, st, p⟩ := q
  exact ⟨F, G, E, as, st, PoN.po p⟩

theorem da_nil : DA X Wi [] aN := by
  refine PA.imp pa_nil fun σ H Q q => ?_
  obtain ⟨F, G, E, as, st, p⟩ := q
  exact p [] G H as (Same.refl _) st True.intro
theorem WOk.up {K : PySem.W.Frag} {G1 G2 : Hp} {E1 E2 : Env} {σ : L2.St} {v : V} {w : W} (s : Same G1 G2) (h : WOk K G1 E1 σ v w) : WOk K G2 E2 σ v w := by
  cases w with
  | dat d => exact DD.up s h
  | own i => exact h
theorem da_cons (ha : DE X Wi a fa) (hr : DA X Wi es fs) (hs : starEach (a :: es) X.env = (false, eval a X.env) :: starEach es X.env := by rfl) : DA X Wi (a :: es) (aC fa fs) := by
  refine PA.imp (pa_cons ha hr hs) fun σ H Q q => ?_
  obtain ⟨F, G, E, as, st, p⟩ := q
  refine ⟨F, G, E, as, st, Po.mono (fun x H1 m => ?_) (Po.bindA p)⟩
  obtain ⟨w1, G1, E1, as1, s1, st1, wo1, p1⟩ := m
  refine ⟨F, G1, E1, as1, st1, ?_⟩
  generalize fs E1 = r at p1 ⊢
  match r, p1 with
  | .ok (ws, E2), p1 => exact fun vs G2 H2 as2 s2 st2 wo2 => p1 (x :: vs) G2 H2 as2 s2 st2 ⟨WOk.up s2 wo1, wo2⟩
  | .err y E2, p1 => exact p1

def eCall (g : List D → Option D) (fs : AF) : EF := fun E => (fs E).bind fun p => (rds p.2 p.1).bind fun ds => (ofO (g ds)).bind fun d => .ok (.dat d, p.2)
def nCall (g : List D → Option D) (fs : AF) : NF := fun E => (fs E).bind fun p => (rds p.2 p.1).bind fun ds => (ofO (g ds)).bind fun d => .ok (d, p.2)
theorem tCB_of {r : List V → Hp → VK → Prop} {g : List D → Option D} (hg : CallD X.K r g) : ∀ σ H Q, tE X.K Wi (eCall g fs) σ H Q → tCB r (tA X.K Wi fs) σ H Q := by
  intro σ H Q q
  obtain ⟨F, G, E, as, st, p⟩ := q
  refine ⟨F, G, E, as, st, PoA.mono (fun x H1 m => ?_) (PoA.bind p)⟩
  obtain ⟨ws, G1, E1, as1, s1, st1, wo1, p1⟩ := m
  obtain ⟨ds, e1, p1⟩ := Po.rds p1
  obtain ⟨d, e3, p1⟩ := Po.of p1
  exact hg G1 H1 x ds d Q st1.s1 (wo1.rds (Same.refl _) st1 e1) e3 (Po.rz st1 p1)
theorem tCBN_of {r : List V → Hp → VK → Prop} {g : List D → Option D} (hg : CallN X.K r g) : ∀ σ H Q, tN X.K Wi (nCall g fs) σ H Q → tCB r (tA X.K Wi fs) σ H Q := by
  intro σ H Q q
  obtain ⟨F, G, E, as, st, p⟩ := q
  refine ⟨F, G, E, as, st, PoA.mono (fun x H1 m => ?_) (PoA.bindN p)⟩
  obtain ⟨ws, G1, E1, as1, s1, st1, wo1, p1⟩ := m
  obtain ⟨ds, e1, p1⟩ := PoN.rds p1
  obtain ⟨d, e3, p1⟩ := PoN.of p1
  exact hg G1 H1 x ds d Q st1.s1 (wo1.rds (Same.refl _) st1 e1) e3 (PoN.rz st1 p1)
theorem de_callB {id : String} {r : List V → Hp → VK → Prop} {g : List D → Option D} (hc : CallR X (.builtin id) r) (hd : CallD X.K r g) (hg : Gl X x) (hm : X.mg x = none) (hv : bootBuiltins x = some (.builtin id)) (ha : DA X Wi (a :: es) fs) (hn : x ≠ "__name__" := by decide) (hdb : (x == ("__debug__" : Str)) = false := by decide)
    (he : starEach (a :: es) X.env = (false, eval a X.env) :: starEach es X.env := by rfl) (hpl : (backTo pos (starEach es X.env)).any (·.1) = false := by rfl) : DE X Wi (.Call (.Name x p) (a :: es) [] pos) (eCall g fs) :=
  PE.imp (pe_callB hc hg hm hv ha hn hdb he hpl) (tCB_of hd)
theorem de_callTy {T : String} {r : List V → Hp → VK → Prop} {g : List D → Option D} (hc : CallR X (.type T) r) (hd : CallD X.K r g) (hg : Gl X x) (hm : X.mg x = none) (hv : bootBuiltins x = some (.type T)) (ha : DA X Wi (a :: es) fs) (hn : x ≠ "__name__" := by decide) (hdb : (x == ("__debug__" : Str)) = false := by decide)
    (he : starEach (a :: es) X.env = (false, eval a X.env) :: starEach es X.env := by rfl) (hpl : (backTo pos (starEach es X.env)).any (·.1) = false := by rfl) : DE X Wi (.Call (.Name x p) (a :: es) [] pos) (eCall g fs) :=
  PE.imp (pe_callTy hc hg hm hv ha hn hdb he hpl) (tCB_of hd)
theorem dn_callB {id : String} {r : List V → Hp → VK → Prop} {g : List D → Option D} (hc : CallR X (.builtin id) r) (hd : CallN X.K r g) (hg : Gl X x) (hm : X.mg x = none) (hv : bootBuiltins x = some (.builtin id)) (ha : DA X Wi (a :: es) fs) (hn : x ≠ "__name__" := by decide) (hdb : (x == ("__debug__" : Str)) = false := by decide)
    (he : starEach (a :: es) X.env = (false, eval a X.env) :: starEach es X.env := by rfl) (hpl : (backTo pos (starEach es X.env)).any (·.1) = false := by rfl) : DN X Wi (.Call (.Name x p) (a :: es) [] pos) (nCall g fs) :=
  PE.imp (pe_callB hc hg hm hv ha hn hdb he hpl) (tCBN_of hd)
def dats : List W → Option (List D)
  | [] => some []
  | .dat d :: ws => (dats ws).map (d :: ·)
  | .own _ :: _ => none
theorem dats_ok {K : PySem.W.Frag} {G : Hp} {E : Env} {σ : L2.St} : ∀ {vs : List V} {ws : List W} {ds : List D}, WOks K G E σ vs ws → dats ws = some ds → DDs K G vs ds
  | [], [], _, _, e => by cases e; exact .nil
  | v :: vs, .dat d :: ws, ds, h, e => by
    rw [dats] at e
    cases q : dats ws with
    | none => rw [q] at e; cases e
    | some r => rw [q] at e; cases e; exact .cons h.1 (dats_ok h.2 q)
  | v :: vs, .own _ :: ws, _, _, e => by cases e
  | [], _ :: _, _, h, _ => h.elim
  | _ :: _, [], _, h, _ => h.elim
def small {α : Type} (l : List α) (r : Option D) : Option D := if l.length ≤ 1000 then r else none
theorem small_some {α : Type} {l : List α} {r : Option D} {d : D} (h : small l r = some d) : l.length ≤ sizeLine ∧ r = some d := by
  unfold small at h
  split at h
  · rename_i q; exact ⟨by rw [sizeLine_eq]; omega, h⟩
  · cases h
def eTup (fs : AF) : EF := fun E => (fs E).bind fun p => (ofO (dats p.1)).bind fun ds => (ofO (small ds (some (.tup ds)))).bind fun d => .ok (.dat d, p.2)
def nLst (fs : AF) : NF := fun E => (fs E).bind fun p => (ofO (dats p.1)).bind fun ds => (ofO (small ds (some (.lst ds)))).bind fun d => .ok (d, p.2)
theorem de_tup {x1} (h : DA X Wi es fs) : DE X Wi (.Tuple es x1 pos) (eTup fs) := by
  refine PE.imp (pe_tup h) fun σ H Q q => ?_
  obtain ⟨F, G, E, as, st, p⟩ := q
  refine ⟨F, G, E, as, st, PoA.mono (fun vs H1 m => ?_) (PoA.bind p)⟩
  obtain ⟨ws, G1, E1, as1, s1, st1, wo1, p1⟩ := m
  obtain ⟨ds, e1, p1⟩ := Po.of p1
  obtain ⟨d, e2, p1⟩ := Po.of p1
  obtain ⟨hz, e3⟩ := small_some e2
  cases e3
  have dd := dats_ok wo1 e1
  have hz : vs.length ≤ sizeLine := by rw [dd.len]; exact hz
  refine ⟨hz, fun q hq => Po.rz st1 p1 _ _ _ (Al.one st1.s1 hq) ?_⟩
  exact .tup upd_same hz (dd.up (Al.one (o := .tup vs) st1.s1 hq).g)
theorem dn_lst (h : DA X Wi es fs) : DN X Wi (.List es pos) (nLst fs) := by
  refine PE.imp (pe_lst h) fun σ H Q q => ?_
  obtain ⟨F, G, E, as, st, p⟩ := q
  refine ⟨F, G, E, as, st, PoA.mono (fun vs H1 m => ?_) (PoA.bindN p)⟩
  obtain ⟨ws, G1, E1, as1, s1, st1, wo1, p1⟩ := m
  obtain ⟨ds, e1, p1⟩ := PoN.of p1
  obtain ⟨d, e2, p1⟩ := PoN.of p1
  obtain ⟨hz, e3⟩ := small_some e2
  cases e3
  have dd := dats_ok wo1 e1
  have hz : vs.length ≤ sizeLine := by rw [dd.len]; exact hz
  refine ⟨hz, fun q hq => PoN.rz st1 p1 q _ hq (fun b u z => ?_) ⟨vs, upd_same, hz, dd⟩⟩
  rw [upd_ne (ne_of_none z hq)]; exact z

theorem de_ix {r : V → V → Hp → VK → Prop} {g : D → D → Option D} (hr : IxR X r) (hg : OpD X.K r g) (ha : DE X Wi a fa) (hb : DE X Wi b fb) (hs : PlainIx b) : DE X Wi (.Subscript a b pos) (eOp g fa fb) :=
  PE.imp (pe_ix hr ha hb hs) (tOp_of hg)
end

/-- a slice's end -/
abbrev OF := Env → Res (Option Int × Env)
def oNo : OF := fun E => .ok (none, E)
def asI : D → Option Int
  | .int i => some i
  | _ => none
def oSo (f : EF) : OF := fun E => (f E).bind fun p => (rd p.2 p.1).bind fun d => (ofO (asI d)).bind fun i => .ok (some i, p.2)
def SlD (K : PySem.W.Frag) (r : V → Option Int → Option Int → Hp → VK → Prop) (g : D → Option Int → Option Int → Option D) : Prop :=
  ∀ (G H : Hp) (x : V) (a d : D) (lo hi : Option Int) (Q : VK), Same G H → BD K G H x a → g a lo hi = some d → Rz K G H Q d → r x lo hi H Q
def PoO (K : PySem.W.Frag) (Wi : Wish) (F : Fr) (G : Hp) (σ : L2.St) (Q : Option Int → Hp → Prop) : Res (Option Int × Env) → Prop
  | .ok (o, E') => ∀ G' H' as', Same G G' → StE K F G' H' σ E' as' → Q o H'
  | .err x E' => ∀ c dx G' H' as', Same G G' → StE K F G' H' σ E' as' → ExOk K G' x c dx → Wi σ c dx H'
  | .stuck => False
def tO (K : PySem.W.Frag) (Wi : Wish) (f : OF) : TO := fun σ H Q => ∃ F G E as, StE K F G H σ E as ∧ PoO K Wi F G σ Q (f E)
abbrev DO (X : Cx) (Wi : Wish) (e : Option Expr) (f : OF) : Prop := PO X e (tO X.K Wi f)
theorem PO.imp {X : Cx} {e : Option Expr} {t t' : TO} (h : PO X e t) (i : ∀ σ H Q, t' σ H Q → t σ H Q) : PO X e t' :=
  ⟨fun pins s σ H Q I q => h.run pins s σ H Q I (i σ H Q q)⟩
section
variable {X : Cx} {Wi : Wish} {e a b : Expr} {fa fb : EF} {p pos p2 : Pos} {lo hi : Option Expr} {ol oh : OF}
theorem do_no : DO X Wi none oNo := PO.imp po_none fun σ H Q q => by
  obtain ⟨F, G, E, as, st, p⟩ := q
  exact p G H as (Same.refl _) st
theorem do_so (h : DE X Wi e fa) : DO X Wi (some e) (oSo fa) := PO.imp (po_some h) fun σ H Q q => by
  obtain ⟨F, G, E, as, st, p⟩ := q
  refine ⟨F, G, E, as, st, ?_⟩
  have p : PoO X.K Wi F G σ Q ((fa E).bind fun p => (rd p.2 p.1).bind fun d => (ofO (asI d)).bind fun i => .ok (some i, p.2)) := p
  generalize fa E = r at p ⊢
  match r, p with
  | .ok (w, E1), p =>
    intro v G1 H1 as1 s1 st1 wo1
    have p : PoO X.K Wi F G σ Q ((rd E1 w).bind fun d => (ofO (asI d)).bind fun i => .ok (some i, E1)) := p
    rcases rd_no E1 w with ⟨d, e1⟩ | e1
    · have b1 := wo1.rd (Same.refl _) st1 e1
      rw [e1] at p
      cases d with
      | int i =>
        have p : PoO X.K Wi F G σ Q (.ok (some i, E1)) := p
        cases b1 with
        | dat dd => cases dd; exact ⟨i, rfl, p G1 H1 as1 s1 st1⟩
        | own _ o => exact o.elim
      | _ => exact p.elim
    · rw [e1] at p; exact p.elim
  | .err x E1, p => exact p
def eSl (g : D → Option Int → Option Int → Option D) (fa : EF) (ol oh : OF) : EF := fun E => (fa E).bind fun p => (ol p.2).bind fun q => (oh q.2).bind fun r => (rd r.2 p.1).bind fun x => (ofO (g x q.1 r.1)).bind fun d => .ok (.dat d, r.2)
def MidO (K : PySem.W.Frag) (F : Fr) (G : Hp) (σ : L2.St) (R : Option Int → Hp → Hp → Env → (Nat → List Addr) → Prop) (o : Option Int) (H1 : Hp) : Prop :=
  ∃ G1 E1 as1, Same G G1 ∧ StE K F G1 H1 σ E1 as1 ∧ R o G1 H1 E1 as1
theorem PoO.bind {K : PySem.W.Frag} {F : Fr} {G : Hp} {σ : L2.St} {Q : VK} {r : Res (Option Int × Env)} {g : Option Int × Env → Res (W × Env)} (h : Po K Wi F G σ Q (r.bind g)) :
    PoO K Wi F G σ (MidO K F G σ fun o G1 _ E1 _ => Po K Wi F G1 σ Q (g (o, E1))) r := by
  match r, h with
  | .ok (w, E'), h => exact fun G' H' as' s st => ⟨G', E', as', s, st, Po.up s h⟩
  | .err x E', h => exact h
theorem PoO.bindN {K : PySem.W.Frag} {F : Fr} {G : Hp} {σ : L2.St} {Q : VK} {r : Res (Option Int × Env)} {g : Option Int × Env → Res (D × Env)} (h : PoN K Wi F G σ Q (r.bind g)) :
    PoO K Wi F G σ (MidO K F G σ fun o G1 _ E1 _ => PoN K Wi F G1 σ Q (g (o, E1))) r := by
  match r, h with
  | .ok (w, E'), h => exact fun G' H' as' s st => ⟨G', E', as', s, st, PoN.up s h⟩
  | .err x E', h => exact h
theorem PoO.mono {K : PySem.W.Frag} {F : Fr} {G : Hp} {σ : L2.St} {Q Q' : Option Int → Hp → Prop} (i : ∀ v H, Q v H → Q' v H) : ∀ {r : Res (Option Int × Env)}, PoO K Wi F G σ Q r → PoO K Wi F G σ Q' r
  | .ok (_, _), h => fun G' H' as' s st => i _ _ (h G' H' as' s st)
  | .err _ _, h => h
theorem de_slice {r : V → Option Int → Option Int → Hp → VK → Prop} {g : D → Option Int → Option Int → Option D} (hr : SlR X r) (hg : SlD X.K r g) (he : DE X Wi e fa) (hl : DO X Wi lo ol) (hh : DO X Wi hi oh) : DE X Wi (.Subscript e (.Slice lo hi none p2) pos) (eSl g fa ol oh) := by
  refine PE.imp (pe_slice hr he hl hh) fun σ H Q q => ?_
  obtain ⟨F, G, E, as, st, p⟩ := q
  refine ⟨F, G, E, as, st, Po.mono (fun x H1 m => ?_) (Po.bind p)⟩
  obtain ⟨w1, G1, E1, as1, s1, st1, wo1, p1⟩ := m
  refine ⟨F, G1, E1, as1, st1, PoO.mono (fun l H2 m => ?_) (PoO.bind p1)⟩
  obtain ⟨G2, E2, as2, s2, st2, p2⟩ := m
  refine ⟨F, G2, E2, as2, st2, PoO.mono (fun u H3 m => ?_) (PoO.bind p2)⟩
  obtain ⟨G3, E3, as3, s3, st3, p3⟩ := m
  obtain ⟨d1, e1, p3⟩ := Po.rd p3
  obtain ⟨d, e3, p3⟩ := Po.of p3
  exact hg G3 H3 x d1 d l u Q st3.s1 (wo1.rd (s2.trans s3) st3 e1) e3 (Po.rz st3 p3)
end

abbrev BF := Env → Res (Bool × Env)
def PoT (K : PySem.W.Frag) (Wi : Wish) (F : Fr) (G : Hp) (σ : L2.St) (Q : Bool → Hp → Prop) : Res (Bool × Env) → Prop
  | .ok (o, E') => ∀ G' H' as', Same G G' → StE K F G' H' σ E' as' → Q o H'
  | .err x E' => ∀ c dx G' H' as', Same G G' → StE K F G' H' σ E' as' → ExOk K G' x c dx → Wi σ c dx H'
  | .stuck => False
def tT (K : PySem.W.Frag) (Wi : Wish) (f : BF) : TT := fun σ H Q => ∃ F G E as, StE K F G H σ E as ∧ PoT K Wi F G σ Q (f E)
abbrev DT (X : Cx) (Wi : Wish) (e : Expr) (f : BF) : Prop := PT X e (tT X.K Wi f)
abbrev DW (X : Cx) (Wi : Wish) (e : Expr) (f : BF) : Prop := PW X e (tT X.K Wi f)
theorem PW.imp {X : Cx} {e : Expr} {t t' : TT} (h : PW X e t) (i : ∀ σ H Q, t' σ H Q → t σ H Q) : PW X e t' :=
  ⟨fun w pins s σ H Q I q => h.run w pins s σ H Q I (i σ H Q q)⟩
def asB : D → Option Bool
  | .bl b => some b
  | _ => none
def MidT (K : PySem.W.Frag) (F : Fr) (G : Hp) (σ : L2.St) (R : Bool → Hp → Hp → Env → (Nat → List Addr) → Prop) (o : Bool) (H1 : Hp) : Prop :=
  ∃ G1 E1 as1, Same G G1 ∧ StE K F G1 H1 σ E1 as1 ∧ R o G1 H1 E1 as1
section
variable {K : PySem.W.Frag} {Wi : Wish} {F : Fr} {G G1 H : Hp} {σ : L2.St} {Q : Bool → Hp → Prop}
theorem PoT.up {r : Res (Bool × Env)} (e : Same G G1) (h : PoT K Wi F G σ Q r) : PoT K Wi F G1 σ Q r := by
  match r, h with
  | .ok (w, E'), h => exact fun G' H' as' s => h G' H' as' (e.trans s)
  | .err x E', h => exact fun c dx G' H' as' s => h c dx G' H' as' (e.trans s)
theorem PoT.mono {Q' : Bool → Hp → Prop} (i : ∀ v H, Q v H → Q' v H) : ∀ {r : Res (Bool × Env)}, PoT K Wi F G σ Q r → PoT K Wi F G σ Q' r
  | .ok (_, _), h => fun G' H' as' s st => i _ _ (h G' H' as' s st)
  | .err _ _, h => h
theorem PoT.bind {r : Res (Bool × Env)} {g : Bool × Env → Res (Bool × Env)} (h : PoT K Wi F G σ Q (r.bind g)) :
    PoT K Wi F G σ (MidT K F G σ fun o G1 _ E1 _ => PoT K Wi F G1 σ Q (g (o, E1))) r := by
  match r, h with
  | .ok (w, E'), h => exact fun G' H' as' s st => ⟨G', E', as', s, st, PoT.up s h⟩
  | .err x E', h => exact h
theorem PoT.bindE {QE : VK} {r : Res (Bool × Env)} {g : Bool × Env → Res (W × Env)} (h : Po K Wi F G σ QE (r.bind g)) :
    PoT K Wi F G σ (MidT K F G σ fun o G1 _ E1 _ => Po K Wi F G1 σ QE (g (o, E1))) r := by
  match r, h with
  | .ok (w, E'), h => exact fun G' H' as' s st => ⟨G', E', as', s, st, Po.up s h⟩
  | .err x E', h => exact h
theorem PoT.bindS {Dn : Ends} {r : Res (Bool × Env)} {g : Bool × Env → Res (Fl × Env)} (h : PoS K Wi F G Dn (r.bind g)) :
    PoT K Wi F G σ (MidT K F G σ fun o G1 _ E1 _ => PoS K Wi F G1 Dn (g (o, E1))) r := by
  match r, h with
  | .ok (w, E'), h => exact fun G' H' as' s st => ⟨G', E', as', s, st, PoS.up s h⟩
  | .err x E', h => exact fun c dx G' H' as' s st xo => h c dx σ G' H' as' s st xo
theorem Po.bindT {r : Res (W × Env)} {g : W × Env → Res (Bool × Env)} (h : PoT K Wi F G σ Q (r.bind g)) :
    Po K Wi F G σ (Mid K F G σ fun _ w G1 _ E1 _ => PoT K Wi F G1 σ Q (g (w, E1))) r := by
  match r, h with
  | .ok (w, E'), h => exact fun v G' H' as' s st wo => ⟨w, G', E', as', s, st, wo, PoT.up s h⟩
  | .err x E', h => exact h
end
/-- a value that is a bool -/
def tB (f : EF) : BF := fun E => (f E).bind fun p => (rd p.2 p.1).bind fun d => (ofO (asB d)).bind fun b => .ok (b, p.2)
def tNt (f : BF) : BF := fun E => (f E).bind fun p => .ok (!p.1, p.2)
def tAnd' (f g : BF) : BF := fun E => (f E).bind fun p => if p.1 = true then g p.2 else .ok (false, p.2)
def tOr' (f g : BF) : BF := fun E => (f E).bind fun p => if p.1 = true then .ok (true, p.2) else g p.2
section
variable {X : Cx} {Wi : Wish} {e a b c : Expr} {fa fb : EF} {ta tb : BF} {rest : List Expr} {pos : Pos}
theorem tB_of : ∀ σ H Q, tT X.K Wi (tB fa) σ H Q → tE X.K Wi fa σ H fun x H1 => ∃ k, x = .bl k ∧ Q k H1 := by
  intro σ H Q q
  obtain ⟨F, G, E, as, st, p⟩ := q
  refine ⟨F, G, E, as, st, Po.mono (fun x H1 m => ?_) (Po.bindT p)⟩
  obtain ⟨w1, G1, E1, as1, s1, st1, wo1, p1⟩ := m
  rcases rd_no E1 w1 with ⟨d, e1⟩ | e1
  · have b1 := wo1.rd (Same.refl _) st1 e1
    rw [e1] at p1
    cases d with
    | bl k =>
      cases b1 with
      | dat dd => cases dd; exact ⟨k, rfl, p1 G1 H1 as1 (Same.refl _) st1⟩
      | own _ o => exact o.elim
    | _ => exact p1.elim
  · rw [e1] at p1; exact p1.elim
theorem dt_val (h : DE X Wi e fa) (he : ∀ whole, isTrue e X.env whole = (do let v ← whole; standAt e.pos; holding [v] (truthy v)) := by intro _; rfl) : DT X Wi e (tB fa) :=
  PT.imp (pt_val h he) tB_of
theorem dt_cmp {op : CmpOp} {r : V → V → Hp → VK → Prop} {g : D → D → Option D} (ho : OpR X (compareOp op) r) (hg : OpD X.K r g) (ha : DE X Wi a fa) (hb : DE X Wi b fb) (hm : behindInMarks op b = false) : DT X Wi (.Compare a [op] [b] pos) (tB (eOp g fa fb)) :=
  PT.imp (pt_cmpR ho ha hb hm) fun σ H Q q => tOp_of hg σ H _ (tB_of σ H Q q)
theorem dt_not (h : DT X Wi a ta) : DT X Wi (.UnaryOp .Not a pos) (tNt ta) := PT.imp (pt_not h) fun σ H Q q => by
  obtain ⟨F, G, E, as, st, p⟩ := q
  refine ⟨F, G, E, as, st, PoT.mono (fun x H1 m => ?_) (PoT.bind p)⟩
  obtain ⟨G1, E1, as1, s1, st1, p1⟩ := m
  exact p1 G1 H1 as1 (Same.refl _) st1
theorem dw_one {op} (h : DT X Wi a ta) : DW X Wi (.BoolOp op [a] pos) ta := by
  cases op with
  | And => exact pw_and1 h
  | Or => exact pw_or1 h
theorem dw_and (h : DT X Wi a ta) (hb : DW X Wi (.BoolOp .And (b :: rest) pos) tb) : DW X Wi (.BoolOp .And (a :: b :: rest) pos) (tAnd' ta tb) := PW.imp (pw_and h hb) fun σ H Q q => by
  obtain ⟨F, G, E, as, st, p⟩ := q
  refine ⟨F, G, E, as, st, PoT.mono (fun x H1 m => ?_) (PoT.bind p)⟩
  obtain ⟨G1, E1, as1, s1, st1, p1⟩ := m
  cases x with
  | true => exact ⟨F, G1, E1, as1, st1, p1⟩
  | false => exact p1 G1 H1 as1 (Same.refl _) st1
theorem dw_or (h : DT X Wi a ta) (hb : DW X Wi (.BoolOp .Or (b :: rest) pos) tb) : DW X Wi (.BoolOp .Or (a :: b :: rest) pos) (tOr' ta tb) := PW.imp (pw_or h hb) fun σ H Q q => by
  obtain ⟨F, G, E, as, st, p⟩ := q
  refine ⟨F, G, E, as, st, PoT.mono (fun x H1 m => ?_) (PoT.bind p)⟩
  obtain ⟨G1, E1, as1, s1, st1, p1⟩ := m
  cases x with
  | false => exact ⟨F, G1, E1, as1, st1, p1⟩
  | true => exact p1 G1 H1 as1 (Same.refl _) st1
def vAnd (f g : EF) : EF := fun E => (tB f E).bind fun p => if p.1 = true then g p.2 else .ok (.dat (.bl false), p.2)
theorem tB_E {f : EF} {g : Bool × Env → Res (W × Env)} {Q : VK} {σ : L2.St} {H : Hp} (q : tE X.K Wi (fun E => (tB f E).bind g) σ H Q) :
    tE X.K Wi f σ H fun x H1 => ∃ k, x = .bl k ∧ ∃ F G1 E1 as1, StE X.K F G1 H1 σ E1 as1 ∧ Po X.K Wi F G1 σ Q (g (k, E1)) := by
  obtain ⟨F, G, E, as, st, p⟩ := q
  refine tB_of (Q := fun k H1 => ∃ F G1 E1 as1, StE X.K F G1 H1 σ E1 as1 ∧ Po X.K Wi F G1 σ Q (g (k, E1))) σ H ⟨F, G, E, as, st, PoT.mono (fun x H1 m => ?_) (PoT.bindE p)⟩
  obtain ⟨G1, E1, as1, s1, st1, p1⟩ := m
  exact ⟨F, G1, E1, as1, st1, p1⟩
theorem de_and (ha : DE X Wi a fa) (hb : DE X Wi (.BoolOp .And (b :: rest) pos) fb) : DE X Wi (.BoolOp .And (a :: b :: rest) pos) (vAnd fa fb) := PE.imp (pe_and ha hb) fun σ H Q q => by
  have z := tB_E q
  obtain ⟨F, G, E, as, st, p⟩ := z
  refine ⟨F, G, E, as, st, Po.mono (fun x H1 m => ?_) p⟩
  obtain ⟨k, e, F1, G1, E1, as1, st1, p1⟩ := m
  refine ⟨k, e, ?_⟩
  cases k with
  | true => exact ⟨F1, G1, E1, as1, st1, p1⟩
  | false => exact Po.rz st1 p1 _ _ _ (Al.refl st1.s1) (.bl false)
theorem de_one {op} (ha : DE X Wi a fa) : DE X Wi (.BoolOp op [a] pos) fa := pe_one ha
end
end DL
namespace DL
open PySem PySem.Spec PyProof.Rows L2

def sNx : SF := fun E => .ok (.nx, E)
def sSeq (f g : SF) : SF := fun E => (f E).bind fun p => match p.1 with
  | .nx => g p.2
  | fl => .ok (fl, p.2)
def sEx (f : EF) : SF := fun E => (f E).bind fun p => .ok (.nx, p.2)
/-- a value handed back: the own object of a slot becomes data -/
def sRet (f : EF) : SF := fun E => (f E).bind fun p => match p.1 with
  | .dat d => .ok (.rt d, p.2)
  | .own i => match p.2[i]? with
    | some (.own d) => .ok (.rt d, p.2.set i (.dat d))
    | _ => .stuck
def sIf (c : BF) (f g : SF) : SF := fun E => (c E).bind fun p => if p.1 = true then f p.2 else g p.2
def sSet (i : Nat) (f : EF) : SF := fun E => (f E).bind fun p => match p.1 with
  | .dat d => .ok (.nx, p.2.set i (.dat d))
  | .own _ => .stuck
def sSetN (i : Nat) (f : NF) : SF := fun E => (f E).bind fun p => if i < p.2.length then .ok (.nx, p.2.set i (.own p.1)) else .stuck

section
variable {X : Cx} {Wi : Wish} {e : Expr} {st : Stmt} {rest bs cs : List Stmt} {f g : SF} {fe : EF} {c : Expr} {fc : BF} {pos pos' : Pos}
theorem dss_nil : DSs X Wi [] sNx := PSs.imp pss_nil fun D σ H q => by
  obtain ⟨F, G, E, as, st, p⟩ := q
  exact p σ G H as (Same.refl _) st
theorem sSeq_of : ∀ D σ H, tS X.K Wi (sSeq f g) D σ H → tSeq (tS X.K Wi f) (tS X.K Wi g) D σ H := by
  intro D σ H q
  obtain ⟨F, G, E, as, st, p⟩ := q
  refine ⟨F, G, E, as, st, ?_⟩
  have p : PoS X.K Wi F G D ((f E).bind fun p => match p.1 with
    | .nx => g p.2
    | fl => .ok (fl, p.2)) := p
  generalize f E = r at p ⊢
  match r, p with
  | .ok (.nx, E1), p => exact fun σ' G' H' as' s st' => ⟨F, G', E1, as', st', PoS.up s p⟩
  | .ok (.bk, E1), p => exact p
  | .ok (.ct, E1), p => exact p
  | .ok (.rt d, E1), p => exact p
  | .err x E1, p => exact p
theorem dss_cons (h1 : DS X Wi st f) (h2 : DSs X Wi rest g) : DSs X Wi (st :: rest) (sSeq f g) := PSs.imp (pss_cons h1 h2) sSeq_of
theorem dss_one (h1 : DS X Wi st f) : DSs X Wi [st] f := pss_one h1
theorem ds_expr (he : DE X Wi e fe) (hs : swapsWith e none pos.line X.env = pure false := by rfl) : DS X Wi (.Expr e pos) (sEx fe) := PS.imp (ps_expr he hs) fun D σ H q => by
  obtain ⟨F, G, E, as, st, p⟩ := q
  refine ⟨F, G, E, as, st, Po.mono (fun x H1 m => ?_) (Po.bindS p)⟩
  obtain ⟨w1, G1, E1, as1, s1, st1, wo1, p1⟩ := m
  exact p1 σ G1 H1 as1 (Same.refl _) st1
theorem ds_ret (he : DE X Wi e fe) : DS X Wi (.Return (some e) pos) (sRet fe) := PS.imp (ps_ret he) fun D σ H q => by
  obtain ⟨F, G, E, as, st, p⟩ := q
  refine ⟨F, G, E, as, st, Po.mono (fun x H1 m => ?_) (Po.bindS p)⟩
  obtain ⟨w1, G1, E1, as1, s1, st1, wo1, p1⟩ := m
  cases w1 with
  | dat d => exact p1 x σ G1 H1 as1 (Same.refl _) st1 wo1
  | own i =>
    have p1 : PoS X.K Wi F G1 D (match E1[i]? with
      | some (.own d) => .ok (.rt d, E1.set i (.dat d))
      | _ => .stuck) := p1
    rcases rd_own E1 i with ⟨d, e1, _⟩ | z
    · rw [e1] at p1
      obtain ⟨v, e2, a, x1, x2, x3⟩ := st1.cell i _ e1
      have wo : σ[i]? = some (some x) := wo1
      rw [wo] at e2; cases e2; cases x2
      obtain ⟨G2, s2, dd, st2⟩ := st1.freeze e1 wo
      exact p1 (.ref a) σ G2 H1 _ s2 st2 dd
    · cases h : E1[i]? with
      | none => rw [h] at p1; exact p1.elim
      | some c =>
        rw [h] at p1
        cases c with
        | own d => rw [show rd E1 (.own i) = .ok d by simp [rd, h]] at z; cases z
        | _ => exact p1.elim
theorem ds_if (hc : DT X Wi c fc) (ha : DSs X Wi bs f) (hb : DSs X Wi cs g) : DS X Wi (.If c bs cs pos) (sIf fc f g) := PS.imp (ps_if hc ha hb) fun D σ H q => by
  obtain ⟨F, G, E, as, st, p⟩ := q
  refine ⟨F, G, E, as, st, PoT.mono (fun x H1 m => ?_) (PoT.bindS p)⟩
  obtain ⟨G1, E1, as1, s1, st1, p1⟩ := m
  cases x with
  | true => exact ⟨F, G1, E1, as1, st1, p1⟩
  | false => exact ⟨F, G1, E1, as1, st1, p1⟩
theorem tAsg_of {i : Nat} {te : TE} (h : ∀ σ H Q, tE X.K Wi fe σ H Q → te σ H Q) : ∀ D σ H, tS X.K Wi (sSet i fe) D σ H → tAsg te (gName i) D σ H := by
  intro D σ H q
  obtain ⟨F, G, E, as, st, p⟩ := q
  refine h _ _ _ ⟨F, G, E, as, st, Po.mono (fun x H1 m => ?_) (Po.bindS p)⟩
  obtain ⟨w1, G1, E1, as1, s1, st1, wo1, p1⟩ := m
  cases w1 with
  | dat d => exact p1 _ G1 H1 _ (Same.refl _) (st1.setD wo1)
  | own j => exact p1.elim
theorem PoN.bindS {K : PySem.W.Frag} {F : Fr} {G : Hp} {σ : L2.St} {D : Ends} {r : Res (DL.D × Env)} {g : DL.D × Env → Res (Fl × Env)} (h : PoS K Wi F G D (r.bind g)) :
    PoN K Wi F G σ (fun v H1 => ∃ d p G1 E1 as1, v = .ref p ∧ Same G G1 ∧ StE K F G1 H1 σ E1 as1 ∧ G1 p = none ∧ F.H0 p = none ∧ (∀ j, p ∉ as1 j) ∧ OwnAt K G1 H1 p d ∧ PoS K Wi F G1 D (g (d, E1))) r := by
  match r, h with
  | .ok (w, E'), h => exact fun p G' H' as' s st gp fp np o => ⟨w, p, G', E', as', rfl, s, st, gp, fp, np, o, PoS.up s h⟩
  | .err x E', h => exact fun c dx G' H' as' s st xo => h c dx σ G' H' as' s st xo
theorem tAsgN_of {i : Nat} {te : TE} {fn : NF} (h : ∀ σ H Q, tN X.K Wi fn σ H Q → te σ H Q) : ∀ D σ H, tS X.K Wi (sSetN i fn) D σ H → tAsg te (gName i) D σ H := by
  intro D σ H q
  obtain ⟨F, G, E, as, st, p⟩ := q
  have pp := PoN.bindS (K := X.K) (σ := σ) p
  refine h _ _ _ ⟨F, G, E, as, st, ?_⟩
  revert pp
  generalize fn E = r
  intro pp
  match r, pp with
  | .ok (w, E'), pp =>
    intro p G' H' as' s st gp fp np o
    obtain ⟨d, p', G1, E1, as1, e, s1, st1, gp1, fp1, np1, o1, p1⟩ := pp p G' H' as' s st gp fp np o
    cases e
    have p1 : PoS X.K Wi F G1 D (if i < E1.length then .ok (.nx, E1.set i (.own d)) else .stuck) := p1
    by_cases hi : i < E1.length
    · rw [if_pos hi] at p1
      refine p1 _ G1 H' _ (Same.refl _) (st1.setC (i := i) (l := [p]) ⟨p, rfl, rfl, o1⟩ (fun a ha => ?_) (.inl hi))
      rw [List.mem_singleton.mp ha]
      exact ⟨fun j _ => np1 j, gp1, .inl fp1⟩
    · rw [if_neg hi] at p1; exact p1.elim
  | .err x E', pp => exact pp
theorem ds_set {i : Nat} {x : Str} (hN : X.N.Nodup) (hi : X.N[i]? = some x) (hx : Loc X.env.scope x) (he : DE X Wi e fe) (hs : swapsWith e (some (.Name x pos')) pos.line X.env = pure false := by rfl)
    (hf : X.fn x = true ∨ X.env.scope.names.lookup x = some .local := by first | exact .inl rfl | exact .inr rfl | assumption) : DS X Wi (.Assign [.Name x pos'] e pos) (sSet i fe) :=
  PS.imp (ps_set hN hi hx he hs hf) (tAsg_of fun _ _ _ q => q)
theorem ds_setN {i : Nat} {x : Str} {fn : NF} (hN : X.N.Nodup) (hi : X.N[i]? = some x) (hx : Loc X.env.scope x) (he : DN X Wi e fn) (hs : swapsWith e (some (.Name x pos')) pos.line X.env = pure false := by rfl)
    (hf : X.fn x = true ∨ X.env.scope.names.lookup x = some .local := by first | exact .inl rfl | exact .inr rfl | assumption) : DS X Wi (.Assign [.Name x pos'] e pos) (sSetN i fn) :=
  PS.imp (ps_set hN hi hx he hs hf) (tAsgN_of fun _ _ _ q => q)
end

abbrev GF := D → Env → Option Env
def tG (K : PySem.W.Frag) (ts : List Nat) (g : GF) : TG := fun v σ H Q => ∃ F G E as d, StE K F G H σ E as ∧ DD K G v d ∧ ∃ E', g d E = some E' ∧
  ∀ σ' as', StE K F G H σ' E' as' → (∀ j, j ∉ ts → σ'[j]? = σ[j]?) → σ'.length = σ.length → Q σ' H
def tGs (K : PySem.W.Frag) (ts : List Nat) (g : List D → Env → Option Env) : TGs := fun vs σ H Q => ∃ F G E as ds, StE K F G H σ E as ∧ DDs K G vs ds ∧ ∃ E', g ds E = some E' ∧
  ∀ σ' as', StE K F G H σ' E' as' → (∀ j, j ∉ ts → σ'[j]? = σ[j]?) → σ'.length = σ.length → Q σ' H
abbrev DG (X : Cx) (tg : Expr) (ts : List Nat) (g : GF) : Prop := PG X tg (tG X.K ts g)
abbrev DGs (X : Cx) (tgs : List Expr) (ts : List Nat) (g : List D → Env → Option Env) : Prop := PGs X tgs (tGs X.K ts g)
theorem PG.imp {X : Cx} {e : Expr} {t t' : TG} (h : PG X e t) (i : ∀ v σ H Q, t' v σ H Q → t v σ H Q) : PG X e t' :=
  ⟨fun pins s σ H v u Q I r q => h.run pins s σ H v u Q I r (i _ _ _ _ q)⟩
theorem PGs.imp {X : Cx} {e : List Expr} {t t' : TGs} (h : PGs X e t) (i : ∀ v σ H Q, t' v σ H Q → t v σ H Q) : PGs X e t' :=
  ⟨fun pins s σ H v u Q I r q => h.run pins s σ H v u Q I r (i _ _ _ _ q)⟩
def gN (i : Nat) : GF := fun d E => some (E.set i (.dat d))
def gNil' : List D → Env → Option Env
  | [], E => some E
  | _ :: _, _ => none
def gCons' (g : GF) (gs : List D → Env → Option Env) : List D → Env → Option Env
  | [], _ => none
  | d :: ds, E => (g d E).bind fun E1 => gs ds E1
def gT (gs : List D → Env → Option Env) : GF
  | .tup ds, E => gs ds E
  | _, _ => none
section
variable {X : Cx} {es : List Expr} {e : Expr} {ts us : List Nat} {g : GF} {gs : List D → Env → Option Env} {pos : Pos}
theorem dg_name {i : Nat} {x : Str} (hN : X.N.Nodup) (hi : X.N[i]? = some x) (hx : Loc X.env.scope x) (hf : X.fn x = true ∨ X.env.scope.names.lookup x = some .local := by first | exact .inl rfl | exact .inr rfl | assumption) :
    DG X (.Name x pos) [i] (gN i) := PG.imp (pg_name hN hi hx hf) fun v σ H Q q => by
  obtain ⟨F, G, E, as, d, st, dd, E', e, k⟩ := q
  cases e
  exact k _ _ (st.setD dd) (fun j hj => List.getElem?_set_ne (fun z => hj (by rw [z]; exact List.mem_singleton.mpr rfl))) (List.length_set ..)
theorem dgs_nil : DGs X [] [] gNil' := PGs.imp pgs_nil fun v σ H Q q => by
  obtain ⟨F, G, E, as, ds, st, dd, E', e, k⟩ := q
  cases dd with
  | nil => cases e; exact ⟨rfl, k _ _ st (fun _ _ => rfl) rfl⟩
  | cons _ _ => cases e
theorem dgs_cons (h1 : DG X e ts g) (h2 : DGs X es us gs) (hs : (assignEach (e :: es) X.env).map (·.2) = assign e X.env :: (assignEach es X.env).map (·.2) := by rfl) : DGs X (e :: es) (ts ++ us) (gCons' g gs) :=
  PGs.imp (pgs_cons h1 h2 hs) fun v σ H Q q => by
    obtain ⟨F, G, E, as, ds, st, dd, E', e, k⟩ := q
    cases dd with
    | nil => cases e
    | cons a b =>
      rename_i v vs d ds
      have e : ((g d E).bind fun E1 => gs ds E1) = some E' := e
      cases h : g d E with
      | none => rw [h] at e; cases e
      | some E1 =>
        rw [h] at e
        refine ⟨v, vs, rfl, F, G, E, as, d, st, a, E1, h, fun σ1 as1 st1 k1 l1 => ?_⟩
        refine ⟨F, G, E1, as1, ds, st1, b, E', e, fun σ2 as2 st2 k2 l2 => k σ2 as2 st2 (fun j hj => ?_) (l2.trans l1)⟩
        exact (k2 j fun z => hj (List.mem_append_right _ z)).trans (k1 j fun z => hj (List.mem_append_left _ z))
theorem dg_tup {k : Nat} {ts : List Nat} (hc : X.calm = true) (h : DGs X es ts gs) (n : Nat) (hn : es.length = n := by rfl) (hg : PG X (.Tuple es k pos) (gTup X.K n (tGs X.K ts gs))) (hl : ∀ ds E E', gs ds E = some E' → ds.length = n) : DG X (.Tuple es k pos) ts (gT gs) :=
  PG.imp hg fun v σ H Q q => by
    obtain ⟨F, G, E, as, d, st, dd, E', e, k⟩ := q
    cases dd with
    | tup a b c =>
      refine ⟨_, _, rfl, SqT.of (st.s1 _ _ a), (c.len).trans (hl _ _ _ e), F, G, E, as, _, st, c, E', e, k⟩
    | _ => cases e
end

abbrev IF := Env → Res (List D × Env)
structure JD (K : PySem.W.Frag) (G0 : Hp) (J : It) (items : List D) : Prop where
  le : items.length ≤ sizeLine
  stop : ∀ G H, Same G0 G → Same G H → J.stop items.length H
  go : ∀ G H i, Same G0 G → Same G H → i < items.length → J.go i H
  yld : ∀ G H i d x H', Same G0 G → Same G H → items[i]? = some d → J.yld i H x H' → ∃ G', Al G H G' H' ∧ DD K G' x d
def PoI (K : PySem.W.Frag) (Wi : Wish) (F : Fr) (G : Hp) (σ : L2.St) (R : It → Hp → Prop) : Res (List D × Env) → Prop
  | .ok (ds, E') => ∀ J G' H' as', Same G G' → StE K F G' H' σ E' as' → JD K G' J ds → R J H'
  | .err x E' => ∀ c dx G' H' as', Same G G' → StE K F G' H' σ E' as' → ExOk K G' x c dx → Wi σ c dx H'
  | .stuck => False
def tI (K : PySem.W.Frag) (Wi : Wish) (f : IF) : TI := fun σ H R => ∃ F G E as, StE K F G H σ E as ∧ PoI K Wi F G σ R (f E)
abbrev DI (X : Cx) (Wi : Wish) (tg iter : Expr) (f : IF) : Prop := PI X tg iter (tI X.K Wi f)
theorem PI.imp {X : Cx} {tg e : Expr} {t t' : TI} (h : PI X tg e t) (i : ∀ σ H Q, t' σ H Q → t σ H Q) : PI X tg e t' :=
  ⟨fun pins s σ H R I q => h.run pins s σ H R I (i _ _ _ q)⟩
section
variable {K : PySem.W.Frag} {Wi : Wish} {F : Fr} {G G1 H : Hp} {σ : L2.St}
theorem PoI.mono {R R' : It → Hp → Prop} (i : ∀ v H, R v H → R' v H) : ∀ {r : Res (List D × Env)}, PoI K Wi F G σ R r → PoI K Wi F G σ R' r
  | .ok (_, _), h => fun J G' H' as' s st jd => i _ _ (h J G' H' as' s st jd)
  | .err _ _, h => h
def MidI (K : PySem.W.Frag) (F : Fr) (G : Hp) (σ : L2.St) (R : It → List D → Hp → Hp → Env → (Nat → List Addr) → Prop) (J : It) (H1 : Hp) : Prop :=
  ∃ ds G1 E1 as1, Same G G1 ∧ StE K F G1 H1 σ E1 as1 ∧ JD K G1 J ds ∧ R J ds G1 H1 E1 as1
theorem PoI.bindS {Dn : Ends} {r : Res (List D × Env)} {g : List D × Env → Res (Fl × Env)} (h : PoS K Wi F G Dn (r.bind g)) :
    PoI K Wi F G σ (MidI K F G σ fun _ ds G1 _ E1 _ => PoS K Wi F G1 Dn (g (ds, E1))) r := by
  match r, h with
  | .ok (w, E'), h => exact fun J G' H' as' s st jd => ⟨w, G', E', as', s, st, jd, PoS.up s h⟩
  | .err x E', h => exact fun c dx G' H' as' s st xo => h c dx σ G' H' as' s st xo
theorem PoI.bindN {Q : VK} {r : Res (List D × Env)} {g : List D × Env → Res (D × Env)} (h : PoN K Wi F G σ Q (r.bind g)) :
    PoI K Wi F G σ (MidI K F G σ fun _ ds G1 _ E1 _ => PoN K Wi F G1 σ Q (g (ds, E1))) r := by
  match r, h with
  | .ok (w, E'), h => exact fun J G' H' as' s st jd => ⟨w, G', E', as', s, st, jd, PoN.up s h⟩
  | .err x E', h => exact h
end

def forL (g : GF) (body : SF) : List D → SF
  | [], E => .ok (.nx, E)
  | d :: ds, E => (ofO (g d E)).bind fun E1 => (body E1).bind fun p => match p.1 with
    | .nx => forL g body ds p.2
    | .ct => forL g body ds p.2
    | .bk => .ok (.nx, p.2)
    | .rt d => .ok (.rt d, p.2)
def sFor (fi : IF) (g : GF) (body : SF) : SF := fun E => (fi E).bind fun p => forL g body p.1 p.2
theorem ds_for {X : Cx} {Wi : Wish} {tg iter : Expr} {body : List Stmt} {fi : IF} {g : GF} {ts : List Nat} {fb : SF} {pos : Pos} (hp : PassesOwn (model X.prog X.w) X.A X.env X.xe) (hc : X.calm = true) (hi : DI X Wi tg iter fi) (hg : DG X tg ts g) (hb : DSs X Wi body fb) (hs : ∀ x, foldedSetIterable iter X.env x = pure x := by intro _; rfl) : DS X Wi (.For tg iter body [] pos) (sFor fi g fb) :=
  PS.imp (ps_for hp hc hi hg hb hs) fun D σ H q => by
    obtain ⟨F, G, E, as, st, p⟩ := q
    refine ⟨F, G, E, as, st, PoI.mono (fun J H1 m => ?_) (PoI.bindS p)⟩
    obtain ⟨ds, G1, E1, as1, s1, st1, jd, p1⟩ := m
    refine ⟨fun i m σ H => ∃ G2 E2 as2, m = ds.length - i ∧ i ≤ ds.length ∧ Same G1 G2 ∧ StE X.K F G2 H σ E2 as2 ∧ PoS X.K Wi F G2 D (forL g fb (ds.drop i) E2), ⟨ds.length, G1, E1, as1, by simp, Nat.zero_le _, Same.refl _, st1, p1⟩, ?_⟩
    rintro i m σ H ⟨G2, E2, as2, rfl, hi, s2, st2, p2⟩
    by_cases hlt : i < ds.length
    · refine .inr ⟨jd.go G2 H i s2 st2.s1 hlt, fun σ' H' => ∃ G3 E3 as3, i + 1 ≤ ds.length ∧ Same G1 G3 ∧ StE X.K F G3 H' σ' E3 as3 ∧ PoS X.K Wi F G3 D (forL g fb (ds.drop (i + 1)) E3), fun σ' H' z => ?_, fun x H' y => ?_⟩
      · obtain ⟨G3, E3, as3, a, b, c, d⟩ := z
        exact ⟨ds.length - (i + 1), by omega, G3, E3, as3, rfl, a, b, c, d⟩
      · have hx : ds[i]? = some ds[i] := List.getElem?_eq_getElem hlt
        obtain ⟨G3, al, dd⟩ := jd.yld G2 H i _ x H' s2 st2.s1 hx y
        have st3 := st2.al al
        have hd : ds.drop i = ds[i] :: ds.drop (i + 1) := List.drop_eq_getElem_cons hlt
        rw [hd] at p2
        obtain ⟨E3, e3, p3⟩ := PoS.of (PoS.up al.g p2)
        refine ⟨F, G3, E2, as2, ds[i], st3, dd, E3, e3, fun σ4 as4 st4 _ _ => ⟨F, G3, E3, as4, st4, ?_⟩⟩
        generalize fb E3 = r at p3 ⊢
        match r, p3 with
        | .ok (.nx, E5), p3 => exact fun σ5 G5 H5 as5 s5 st5 => ⟨G5, E5, as5, hlt, (s2.trans al.g).trans s5, st5, PoS.up s5 p3⟩
        | .ok (.ct, E5), p3 => exact fun σ5 G5 H5 as5 s5 st5 => ⟨G5, E5, as5, hlt, (s2.trans al.g).trans s5, st5, PoS.up s5 p3⟩
        | .ok (.bk, E5), p3 => exact p3
        | .ok (.rt d, E5), p3 => exact p3
        | .err x E5, p3 => exact p3
    · have e : i = ds.length := by omega
      subst e
      refine .inl ⟨jd.stop G2 H s2 st2.s1, ?_⟩
      rw [List.drop_length] at p2
      exact p2 σ G2 H as2 (Same.refl _) st2

end DL
namespace DL
open PySem PySem.Spec PyProof.Rows L2

def plainC : Option Cell → Bool
  | some .no => true
  | some (.dat _) => true
  | none => true
  | _ => false
/-- the block's own names are not known ahead of a turn -/
def wipeE (E : Env) : List Nat → Env
  | [] => E
  | v :: vs => (wipeE E vs).set v .no
/-- behind a turn they are what they were outside -/
def backE (E0 E : Env) : List Nat → Env
  | [] => E
  | v :: vs => (backE E0 E vs).set v (E0[v]?.getD .no)
def noErr {α : Type} : Res α → Res α
  | .ok a => .ok a
  | _ => .stuck
def asDat : W → Option D
  | .dat d => some d
  | .own _ => none
def compL (vs : List Nat) (g : GF) (fc : BF) (fe : EF) (E0 : Env) : List D → List D → Env → Res (D × Env)
  | [], acc, E => .ok (.lst acc, E)
  | d :: ds, acc, E => (ofO (g d (wipeE E vs))).bind fun E1 => (noErr (fc E1)).bind fun p =>
      if p.1 = true then (noErr (fe p.2)).bind fun q => (ofO (asDat q.1)).bind fun y => compL vs g fc fe E0 ds (acc ++ [y]) (backE E0 q.2 vs)
      else compL vs g fc fe E0 ds acc (backE E0 p.2 vs)
def nComp (vs : List Nat) (fi : IF) (g : GF) (fc : BF) (fe : EF) : NF := fun E => (fi E).bind fun p => if vs.all (fun v => plainC p.2[v]?) = true then compL vs g fc fe p.2 p.1 [] p.2 else .stuck
def tYes' : BF := fun E => .ok (true, E)
/-- no exception leaves -/
def W0 : Wish := fun _ _ _ _ => False

section
variable {K : PySem.W.Frag} {Wi : Wish} {F : Fr} {G G1 H H1 : Hp} {σ : L2.St} {E E0 : Env} {as : Nat → List Addr} {Q : VK}
def dropA (as : Nat → List Addr) : List Nat → Nat → List Addr
  | [] => as
  | v :: vs => drp (dropA as vs) v []
theorem StE.wipe (st : StE K F G H σ E as) : ∀ vs : List Nat, StE K F G H (L2.wipe σ vs) (wipeE E vs) (dropA as vs)
  | [] => st
  | v :: vs => (StE.wipe st vs).setN
theorem StE.wr (st : StE K F G H σ E as) {p : Addr} {o : HO} (gp : G p = none) (fp : F.H0 p = none) (np : ∀ j, p ∉ as j) (hp : H p ≠ none) : StE K F G (upd H p o) σ E as := by
  refine ⟨st.len, st.s0, fun b z q => ?_, fun b u q x => ?_, fun b q => ?_, st.priv, fun i c e => ?_, st.sep, st.off, st.tail⟩
  · rw [upd_ne (ne_of_none q gp)]; exact st.s1 b z q
  · rw [upd_ne (ne_of_none q fp)]; exact st.keep b u q x
  · by_cases hb : b = p
    · subst hb; exact fp
    · rw [upd_ne hb] at q; exact st.dom b q
  · obtain ⟨v, e1, x⟩ := st.cell i c e
    refine ⟨v, e1, x.up (Same.refl _) fun b hb u q => ?_⟩
    rw [upd_ne (fun (z : b = p) => np i (by rw [← z]; exact hb))]; exact q
/-- the block's slots are put back: the slots of the frame are σ, where the block had σ' -/
theorem StE.back {σ' : L2.St} {E1 : Env} {as1 : Nat → List Addr} {vs : List Nat} (hc : ∀ v ∈ vs, plainC E0[v]? = true ∧ ∀ d, E0[v]? = some (.dat d) → ∃ x, σ[v]? = some (some x) ∧ DD K G x d) (s : Same G G1)
    (st1 : StE K F G1 H1 σ' E1 as1) (hσ : ∀ j, j ∉ vs → σ'[j]? = σ[j]?) (hl : σ'.length = σ.length) : ∃ as2, StE K F G1 H1 σ (backE E0 E1 vs) as2 ∧ ∀ j p, p ∈ as2 j → ∃ k, p ∈ as1 k := by
  have key : ∀ us : List Nat, (∀ v ∈ us, v ∈ vs) → ∃ σ2 as2, StE K F G1 H1 σ2 (backE E0 E1 us) as2 ∧ (∀ j, j ∈ us → σ2[j]? = σ[j]?) ∧ (∀ j, j ∉ us → σ2[j]? = σ'[j]?) ∧ σ2.length = σ.length ∧ ∀ j p, p ∈ as2 j → ∃ k, p ∈ as1 k := by
    intro us
    induction us with
    | nil => intro _; exact ⟨σ', as1, st1, fun j hj => (by cases hj), fun j _ => rfl, hl, fun j p h => ⟨j, h⟩⟩
    | cons v us ih =>
      intro hs
      obtain ⟨σ2, as2, st2, h1, h2, h3, h4⟩ := ih fun u hu => hs u (List.mem_cons_of_mem _ hu)
      obtain ⟨pl, hd⟩ := hc v (hs v List.mem_cons_self)
      refine ⟨σ2.set v (σ[v]?.getD none), drp as2 v [], ?_, fun j hj => ?_, fun j hj => ?_, by rw [List.length_set, h3], fun j p hp => ?_⟩
      · show StE K F G1 H1 _ ((backE E0 E1 us).set v (E0[v]?.getD .no)) _
        cases hq : E0[v]? with
        | none => exact st2.setN
        | some c =>
          rw [hq] at pl
          cases c with
          | no => exact st2.setN
          | dat d =>
            obtain ⟨x, e1, dd⟩ := hd d hq
            rw [e1]
            exact st2.setD (dd.up s)
          | own d => cases pl
          | deck a q l b => cases pl
          | slf a d => cases pl
          | cls C => cases pl
          | ob p C fs => cases pl
          | sob a C fs => cases pl
      · by_cases e : j = v
        · subst e
          by_cases hj2 : j < σ2.length
          · rw [List.getElem?_set_self hj2]
            rw [h3] at hj2
            rw [List.getElem?_eq_getElem hj2]; rfl
          · rw [List.getElem?_eq_none (by rw [List.length_set]; omega), List.getElem?_eq_none (by omega)]
        · rw [List.getElem?_set_ne (Ne.symm e)]
          rcases List.mem_cons.mp hj with z | z
          · exact absurd z e
          · exact h1 j z
      · rw [List.getElem?_set_ne (fun z => hj (by rw [z]; exact List.mem_cons_self))]
        exact h2 j fun z => hj (List.mem_cons_of_mem _ z)
      · by_cases e : j = v
        · rw [e, drp_same] at hp; cases hp
        · rw [drp_ne e] at hp; exact h4 j p hp
  obtain ⟨σ2, as2, st2, h1, h2, h3, h4⟩ := key vs fun _ h => h
  have e : σ2 = σ := by
    refine List.ext_getElem? fun j => ?_
    by_cases hj : j ∈ vs
    · exact h1 j hj
    · exact (h2 j hj).trans (hσ j hj)
  rw [e] at st2
  exact ⟨as2, st2, h4⟩
theorem Po.noErr {r : Res (W × Env)} (h : ∀ p, r = .ok p → Po K W0 F G σ Q (.ok p)) (hr : ∃ p, DL.noErr r = .ok p) : Po K W0 F G σ Q r := by
  obtain ⟨p, hp⟩ := hr
  cases r with
  | ok a => exact h a rfl
  | err x E => cases hp
  | stuck => cases hp
theorem wipe_get : ∀ {vs : List Nat} {j : Nat}, j ∉ vs → (L2.wipe σ vs)[j]? = σ[j]?
  | [], _, _ => rfl
  | v :: vs, j, h => by
    rw [L2.wipe, List.getElem?_set_ne (fun z => h (by rw [z]; exact List.mem_cons_self))]
    exact wipe_get fun z => h (List.mem_cons_of_mem _ z)
theorem wipe_in : ∀ {vs : List Nat} {j : Nat}, j ∈ vs → j < σ.length → (L2.wipe σ vs)[j]? = some none
  | v :: vs, j, h, hl => by
    rw [L2.wipe]
    by_cases e : v = j
    · subst e; rw [List.getElem?_set_self (by rw [wipe_length]; exact hl)]
    · rw [List.getElem?_set_ne e]
      rcases List.mem_cons.mp h with z | z
      · exact absurd z.symm e
      · exact wipe_in z hl
theorem wipe_eq {σ' : L2.St} {vs : List Nat} (h : ∀ j, j ∉ vs → σ'[j]? = (L2.wipe σ vs)[j]?) (hl : σ'.length = (L2.wipe σ vs).length) : L2.wipe σ' vs = L2.wipe σ vs := by
  rw [wipe_length] at hl
  refine List.ext_getElem? fun j => ?_
  by_cases hj : j ∈ vs
  · by_cases hb : j < σ.length
    · rw [wipe_in hj (by omega), wipe_in hj hb]
    · rw [List.getElem?_eq_none (by rw [wipe_length]; omega), List.getElem?_eq_none (by rw [wipe_length]; omega)]
  · rw [wipe_get hj]; exact h j hj
end

theorem PoN.noErr {α : Type} {K : PySem.W.Frag} {Wi : Wish} {F : Fr} {G : Hp} {σ : L2.St} {Q : VK} {r : Res α} {g : α → Res (D × Env)} (h : PoN K Wi F G σ Q ((DL.noErr r).bind g)) : ∃ a, r = .ok a ∧ PoN K Wi F G σ Q (g a) := by
  cases r with
  | ok a => exact ⟨a, rfl, h⟩
  | err x E => exact h.elim
  | stuck => exact h.elim

theorem tLc_of {K : PySem.W.Frag} {Wi : Wish} {fi : IF} {g : GF} {ts vs : List Nat} {fc : BF} {fe : EF} {tt : TT} {te : TE} (hts : ∀ t ∈ ts, t ∈ vs)
    (ht : ∀ σ H Q, tT K W0 fc σ H Q → tt σ H Q) (he : ∀ σ H Q, tE K W0 fe σ H Q → te σ H Q) :
    ∀ σ H Q, tN K Wi (nComp vs fi g fc fe) σ H Q → tLc (tI K Wi fi) (tG K ts g) tt te vs σ H Q := by
  intro σ H Q q
  obtain ⟨F, G, E, as, st, p⟩ := q
  refine ⟨F, G, E, as, st, PoI.mono (fun J H1 m => ?_) (PoI.bindN p)⟩
  obtain ⟨ds, G1, E1, as1, s1, st1, jd, p1⟩ := m
  intro D0 hD
  have p1 : PoN K Wi F G1 σ Q (if vs.all (fun v => plainC E1[v]?) = true then compL vs g fc fe E1 ds [] E1 else .stuck) := p1
  by_cases hpl : vs.all (fun v => plainC E1[v]?) = true
  · rw [if_pos hpl] at p1
    have hpl' : ∀ v ∈ vs, plainC E1[v]? = true := List.all_eq_true.mp hpl
    have al0 : Al G1 H1 G1 (upd H1 D0 (.lst [])) := Al.grow st1.s1 fun b u q => by rw [upd_ne (ne_of_none q hD)]; exact q
    refine ⟨fun i m H => m = ds.length - i ∧ i ≤ ds.length ∧ ∃ acc av G2 E2 as2, Same G1 G2 ∧ StE K F G2 H σ E2 as2 ∧ H D0 = some (.lst av) ∧ DDs K G2 av acc ∧ G2 D0 = none ∧ (∀ j, D0 ∉ as2 j) ∧ av.length ≤ i ∧
      PoN K Wi F G2 σ Q (compL vs g fc fe E1 (ds.drop i) acc E2), ⟨ds.length, by simp, Nat.zero_le _, [], [], G1, E1, as1, Same.refl _, st1.al al0, upd_same, .nil, st1.s1.free hD, fun j hj => ?_, Nat.le_refl _, p1⟩, ?_⟩
    · obtain ⟨o, q⟩ := st1.there hj
      rw [hD] at q; cases q
    · rintro i m H ⟨rfl, hi, acc, av, G2, E2, as2, s2, st2, hd, dda, gD, nD, la, p2⟩
      have fD : F.H0 D0 = none := st1.dom D0 hD
      by_cases hlt : i < ds.length
      · refine .inr ⟨jd.go G2 H i s2 st2.s1 hlt, fun H' => i + 1 ≤ ds.length ∧ ∃ acc av G2 E2 as2, Same G1 G2 ∧ StE K F G2 H' σ E2 as2 ∧ H' D0 = some (.lst av) ∧ DDs K G2 av acc ∧ G2 D0 = none ∧ (∀ j, D0 ∉ as2 j) ∧ av.length ≤ i + 1 ∧
          PoN K Wi F G2 σ Q (compL vs g fc fe E1 (ds.drop (i + 1)) acc E2), fun H' z => ⟨ds.length - (i + 1), by omega, rfl, z⟩, fun x H' y => ?_⟩
        have hx : ds[i]? = some ds[i] := List.getElem?_eq_getElem hlt
        obtain ⟨G3, al, dd⟩ := jd.yld G2 H i _ x H' s2 st2.s1 hx y
        have st3 := st2.al al
        have hdr : ds.drop i = ds[i] :: ds.drop (i + 1) := List.drop_eq_getElem_cons hlt
        rw [hdr] at p2
        have p2 := PoN.up al.g p2
        obtain ⟨E4, e4, p4⟩ := PoN.of p2
        have gD3 : G3 D0 = none := by
          cases q : G3 D0 with
          | none => rfl
          | some u => exact absurd (al.new D0 _ (by rw [q]; exact fun z => nomatch z) gD hd) (fun z => nomatch z)
        have hd3 : H' D0 = some (.lst av) := al.h _ _ hd
        -- the turn, in a frame of its own
        have stw := st3.wipe vs
        have nDw : ∀ j, D0 ∉ dropA as2 vs j := by
          have key : ∀ us : List Nat, ∀ j, D0 ∉ dropA as2 us j := by
            intro us
            induction us with
            | nil => exact nD
            | cons v us ih =>
              intro j hj
              by_cases e : j = v
              · rw [dropA, e, drp_same] at hj; cases hj
              · rw [dropA, drp_ne e] at hj; exact ih j hj
          exact key vs
        have sti := stw.in_
        have nOwn : D0 ∉ own (dropA as2 vs) (wipeE E2 vs).length := fun z => by
          obtain ⟨j, hj⟩ := of_own z
          exact nDw j hj
        obtain ⟨a, ea, p5⟩ := PoN.noErr p4
        refine ⟨_, G3, wipeE E2 vs, dropA as2 vs, ds[i], sti, dd, E4, e4, fun σ4 as4 st4 k4 l4 => ⟨wipe_eq (fun j hj => k4 j fun z => hj (hts j z)) l4, ?_⟩⟩
        refine ht _ _ _ ⟨_, G3, E4, as4, st4, ?_⟩
        rw [ea]
        intro G5 H5 as5 s5 st5
        -- what stands behind an expression of the turn
        have hσ : ∀ j, j ∉ vs → σ4[j]? = σ[j]? := fun j hj => (k4 j fun z => hj (hts j z)).trans (wipe_get hj)
        have hlen : σ4.length = σ.length := l4.trans (wipe_length σ vs)
        have keepD : ∀ {G6 H6 : Hp} {E6 : Env} {as6 : Nat → List Addr}, StE K (inner F G3 H' (dropA as2 vs) (wipeE E2 vs).length) G6 H6 σ4 E6 as6 → H6 D0 = some (.lst av) ∧ G6 D0 = none := fun {G6 H6 E6 as6} st6 => by
          refine ⟨st6.keep D0 _ hd3 nOwn, ?_⟩
          cases q : G6 D0 with
          | none => rfl
          | some u => exact absurd gD3 (st6.priv D0 _ (by rw [q]; exact fun z => nomatch z) hd3 rfl nOwn)
        have hcell : ∀ v ∈ vs, plainC E1[v]? = true ∧ ∀ d, E1[v]? = some (.dat d) → ∃ x, σ[v]? = some (some x) ∧ DD K G1 x d := fun v hv => ⟨hpl' v hv, fun d hd => by
          obtain ⟨x, e1, _, z, rfl, dd⟩ := st1.cell v _ hd
          exact ⟨z, e1, dd⟩⟩
        have backD : ∀ {G6 H6 : Hp} {E6 : Env} {as6 : Nat → List Addr}, Same G3 G6 → StE K (inner F G3 H' (dropA as2 vs) (wipeE E2 vs).length) G6 H6 σ4 E6 as6 → ∃ as7, StE K F G6 H6 σ (backE E1 E6 vs) as7 ∧ ∀ j, D0 ∉ as7 j := fun {G6 H6 E6 as6} s6 st6 => by
          obtain ⟨as7, st7, h7⟩ := StE.back hcell ((s2.trans al.g).trans s6) (stw.out st6) hσ hlen
          refine ⟨as7, st7, fun j hj => ?_⟩
          obtain ⟨k, hk⟩ := h7 j D0 hj
          rcases (st6.off k D0 hk).2 with z | z
          · have z : H' D0 = none := z
            rw [hd3] at z; cases z
          · exact nOwn z
        obtain ⟨b, E5⟩ := a
        cases b with
        | true =>
          rw [if_pos rfl]
          have p5 : PoN K Wi F G3 σ Q ((DL.noErr (fe E5)).bind fun q => (ofO (asDat q.1)).bind fun y => compL vs g fc fe E1 (ds.drop (i + 1)) (acc ++ [y]) (backE E1 q.2 vs)) := p5
          obtain ⟨q, eq, p6⟩ := PoN.noErr p5
          obtain ⟨w, E6⟩ := q
          refine he _ _ _ ⟨_, G5, E5, as5, st5, ?_⟩
          rw [eq]
          intro v G7 H7 as7 s7 st7 wo7
          cases w with
          | own j => exact p6.elim
          | dat y =>
            obtain ⟨hD7, gD7⟩ := keepD st7
            obtain ⟨as8, st8, n8⟩ := backD (s5.trans s7) st7
            refine ⟨av, hD7, Nat.lt_of_le_of_lt la (Nat.lt_of_lt_of_le hlt jd.le), hlt, acc ++ [y], av ++ [v], G7, backE E1 E6 vs, as8, ((s2.trans al.g).trans s5).trans s7, st8.wr gD7 fD n8 (by rw [hD7]; exact fun z => nomatch z), upd_same, (dda.up ((al.g.trans s5).trans s7)).app (.one wo7), gD7, n8, by rw [List.length_append]; exact Nat.succ_le_succ la, ?_⟩
            exact PoN.up (s5.trans s7) p6
        | false =>
          rw [if_neg Bool.false_ne_true]
          have p5 : PoN K Wi F G3 σ Q (compL vs g fc fe E1 (ds.drop (i + 1)) acc (backE E1 E5 vs)) := p5
          obtain ⟨hD7, gD7⟩ := keepD st5
          obtain ⟨as8, st8, n8⟩ := backD s5 st5
          exact ⟨hlt, acc, av, G5, backE E1 E5 vs, as8, (s2.trans al.g).trans s5, st8, hD7, dda.up (al.g.trans s5), gD7, n8, Nat.le_succ_of_le la, PoN.up s5 p5⟩
      · have e : i = ds.length := by omega
        subst e
        refine .inl ⟨jd.stop G2 H s2 st2.s1, ?_⟩
        rw [List.drop_length] at p2
        exact p2 D0 G2 H as2 (Same.refl _) st2 gD fD nD ⟨av, hd, Nat.le_trans la jd.le, dda⟩
  · rw [if_neg hpl] at p1; exact p1.elim
end DL
namespace DL
open PySem PySem.Spec PyProof.Rows L2

abbrev DQs (X : Cx) (ifs : List Expr) (f : BF) : Prop := PTs X ifs (tT X.K W0 f)
theorem PTs.imp {X : Cx} {e : List Expr} {t t' : TT} (h : PTs X e t) (i : ∀ σ H Q, t' σ H Q → t σ H Q) : PTs X e t' :=
  ⟨fun pins s σ H Q I q => h.run pins s σ H Q I (i σ H Q q)⟩
theorem dts_nil {X : Cx} : DQs X [] tYes' := PTs.imp pts_nil fun σ H Q q => by
  obtain ⟨F, G, E, as, st, p⟩ := q
  exact p G H as (Same.refl _) st
theorem dts_one {X : Cx} {c : Expr} {f : BF} (h : DT X W0 c f) : DQs X [c] f := pts_one h
section
variable {X : Cx} {Wi : Wish} {elt tg iter : Expr} {ifs : List Expr} {scope : Scope} {own : List (Str × Nat)} {pos spos py : Pos} {fi : IF} {g : GF} {ts : List Nat} {fc : BF} {fe : EF}
theorem dn_comp (hc : X.calm = true) (hN : X.N.Nodup) (hi : DI X Wi tg iter fi) (ok : BlkOk X.N X.env.scope scope own)
    (hg : ∀ (s : Shared) (H : Hp) (C : Addr) (cl : List (Str × Addr)) (fp : List Addr), DG (X.blk s H scope (compEnvC scope cl C X.env) fp) tg ts g)
    (ht : ∀ (s : Shared) (H : Hp) (C : Addr) (cl : List (Str × Addr)) (fp : List Addr), DQs (X.blk s H scope (compEnvC scope cl C X.env) fp) ifs fc)
    (he : ∀ (s : Shared) (H : Hp) (C : Addr) (cl : List (Str × Addr)) (fp : List Addr), DE (X.blk s H scope (compEnvC scope cl C X.env) fp) W0 elt fe)
    (hts : ∀ t ∈ ts, t ∈ own.map (·.2) := by decide) (hs : ∀ x, foldedSetIterable iter X.env x = pure x := by intro _; rfl) :
    DN X Wi (.ListComp elt [⟨tg, iter, ifs, 0⟩] scope pos) (nComp (own.map (·.2)) fi g fc fe) :=
  PE.imp (pe_lc hc hN hi ok hg ht he hs) (tLc_of hts (fun _ _ _ q => q) fun _ _ _ q => q)
end

/-- a def that is called where no repr is under way -/
structure FnG (P : Program) (w : World) (K : PySem.W.Frag) (mg : Str → Option Value) (base : Heap) (CX : CXT) (k : Nat) (f : Addr) (fd : FuncData) (ps : List Str) (sp : Sp) : Prop where
  len : ∀ vs H Q E, sp vs H Q E → vs.length = ps.length
  go : ∀ (A : Around) (outer : List PySem.Env) (s : Shared) (H : Hp) (args : Args) (us : List Value) (vs : List V) (Q : VK) (E : XK), A.guards = some [] → Room k A → Env0 P w K mg base A outer s H →
    BindsTo s fd args (ps.zip us) → Vals vs us → sp vs H Q E → codeAny (model P w) A (.call (.ref f) args) (CR CX outer P w H s Q E) s
section
variable {P : Program} {w : World} {K : PySem.W.Frag} {mg : Str → Option Value} {base : Heap} {CX : CXT} {k j : Nat} {f : Addr} {fd : FuncData} {ps : List Str} {sp sp' : Sp}
theorem FnG.of (F : FnOk P w K mg base CX k f fd ps sp) : FnG P w K mg base CX k f fd ps sp := ⟨F.len, fun A outer s H args us vs Q E _ hr => F.run A outer s H args us vs Q E hr⟩
theorem FnG.mono (F : FnG P w K mg base CX j f fd ps sp) (h : j ≤ k) : FnG P w K mg base CX k f fd ps sp := ⟨F.len, fun A outer s H args us vs Q E hg hr => F.go A outer s H args us vs Q E hg (hr.mono h)⟩
theorem FnG.imp (F : FnG P w K mg base CX k f fd ps sp) (h : ∀ vs H Q E, sp' vs H Q E → sp vs H Q E) : FnG P w K mg base CX k f fd ps sp' :=
  ⟨fun vs H Q E q => F.len vs H Q E (h _ _ _ _ q), fun A outer s H args us vs Q E hg hr he hb hv hs => F.go A outer s H args us vs Q E hg hr he hb hv (h _ _ _ _ hs)⟩
/-- by the body -/
theorem FnG.body {x qual : Str} {st : Stmt} {N : List Str} (F : Fun K x qual st f fd) (S : FnScope N ps (defScope st)) (len : ∀ vs H Q E, sp vs H Q E → vs.length = ps.length)
    (hb : ∀ (cdv : Value) (A : Around) (outer : List PySem.Env) (s : Shared) (H : Hp) (vs : List V) (Q : VK) (E : XK), A.guards = some [] → Room k (A.deeper (envOfC qual (defScope st) s.heap.objs.size f cdv)) → sp vs H Q E →
      ∃ t, PSs (cxOf CX P w K mg base N qual (defScope st) f cdv A outer s H E) (defBody st) t ∧ t { nx := fun _ H' => Q .non H', rt := Q } (L2.start N vs) H) : FnG P w K mg base CX (k + 1) f fd ps sp := by
  obtain ⟨oc, od, kV, doc, pm, an, cdv, ct, osl, rfl, lk, hcd⟩ := F.ex
  constructor
  · exact len
  intro A outer s H args us vs Q E hg hr e0 bt r hsp
  have KX : K.In s.heap := e0.mod.kin.keeps fun b o e => (e0.bs b o e).1
  have lim : s.heap.NoLimit := e0.mod.nolimit.keeps fun b o e => (e0.bs b o e).1
  have kinds : ∀ y ∈ ps.zip us, (defScope st).names.lookup y.1 = some .local ∨ ((defScope st).names.lookup y.1 = some .cell ∧ ((cellsFrom (s.heap.objs.size + 1) (defScope st).names []).lookup y.1).isSome = true) := by
    rintro ⟨n, v⟩ hy
    cases S.par n (List.of_mem_zip hy).1 with
    | inl q => exact .inl q
    | inr q => exact .inr ⟨q, PySem.W.cellsFrom_some _ _ _ (.inl q)⟩
  refine codeAny_call_function hr.depth (KX _ _ lk) rfl S.co S.gen rfl (PySem.W.codeRec_of KX hcd) (bt _ _ _ _ (wpAny_newFunctionEnv_cells S.kind kinds fun env he s1 x => ?_))
  subst he
  obtain ⟨t, ht, hq⟩ := hb cdv A outer s H vs Q E hg (hr.deeper _) hsp
  refine ⟨lim.keeps x.toInCall.keep, codeAny_func (wpAny_mono (ht.run [] s1 (L2.start N vs) H _ (inv_start S hr.hd e0 (len _ _ _ _ hsp) r x) hq) (fun fl s' hs => ?_) fun e s' hs => hs)⟩
  cases fl with
  | ret u =>
    obtain ⟨v, σ', H', J, rv, q⟩ := hs
    exact ⟨v, H', J.os, J.bare, J.base, J.hok, rv, q⟩
  | next =>
    obtain ⟨σ', H', J, q⟩ := hs
    exact ⟨V.non, H', J.os, J.bare, J.base, J.hok, rfl, q⟩
  | brk =>
    obtain ⟨_, _, _, q⟩ := hs
    exact q.elim
  | cont =>
    obtain ⟨_, _, _, q⟩ := hs
    exact q.elim
end

/-- a promise over data: the mirror fm -/
def spP (K : PySem.W.Frag) (n : Nat) (fm : List D → Res D) : Sp := fun vs H Q E => ∃ G ds, Same G H ∧ DDs K G vs ds ∧ ds.length = n ∧ match fm ds with
  | .ok d => Rz K G H Q d
  | .err x _ => ∀ c dx G' H', Al G H G' H' → ExOk K G' x c dx → E c dx H'
  | .stuck => False
structure Dk where
  l : List Int
  b : Int
/-- the answer of a def that draws -/
def KRz (K : PySem.W.Frag) (G H : Hp) (a q : Addr) (Q : VK) : Res (D × Dk) → Prop
  | .ok (d, k') => ∀ v G' H', Same G G' → Same G' H' → (∀ b o, H b = some o → b ≠ a → b ≠ q → H' b = some o) → (∀ b o, G' b ≠ none → H b = some o → isT o = false → b ≠ a → b ≠ q → G b ≠ none) → G' a = none → G' q = none → DeckAt H' a q k'.l k'.b → DD K G' v d → Q v H'
  | _ => False
/-- .. whose first argument is the deck -/
def spK (K : PySem.W.Frag) (n : Nat) (fm : Addr → Addr → Dk → List D → Res (D × Dk)) : Sp := fun vs H Q E => ∃ G a q k vr ds, vs = .ref a :: vr ∧ Same G H ∧ G a = none ∧ G q = none ∧ DeckAt H a q k.l k.b ∧ DDs K G vr ds ∧ ds.length = n ∧
  KRz K G H a q Q (fm a q k ds)

def nos (n : Nat) : Env := List.replicate n .no
/-- what a body hands back -/
def outF : Res (Fl × Env) → Res D
  | .ok (.rt d, _) => .ok d
  | .ok (.nx, _) => .ok .non
  | .err x _ => .err x []
  | _ => .stuck
def deckOf (E : Env) : Option (Addr × Addr × Dk) := match E.head? with
  | some (Cell.deck a q l b) => some (a, q, ⟨l, b⟩)
  | _ => none
def outD (a q : Addr) (d : D) (E : Env) : Res (D × Dk) := (ofO (deckOf E)).bind fun z => if z.1 = a ∧ z.2.1 = q then .ok (d, z.2.2) else .stuck
def outK (a q : Addr) : Res (Fl × Env) → Res (D × Dk)
  | .ok (.rt d, E) => outD a q d E
  | .ok (.nx, E) => outD a q .non E
  | _ => .stuck
theorem outD_ok {K : PySem.W.Frag} {G H : Hp} {Q : VK} {a q : Addr} {d : D} {E : Env} (h : KRz K G H a q Q (outD a q d E)) : ∃ l b, E[0]? = some (.deck a q l b) ∧ KRz K G H a q Q (.ok (d, ⟨l, b⟩)) := by
  unfold outD deckOf at h
  cases E with
  | nil => exact h.elim
  | cons c r =>
    cases c with
    | deck a' q' l b =>
      have h : KRz K G H a q Q (if a' = a ∧ q' = q then Res.ok (d, (⟨l, b⟩ : Dk)) else .stuck) := h
      by_cases hq : a' = a ∧ q' = q
      · rw [if_pos hq] at h
        obtain ⟨h1, h2⟩ := hq
        rw [h1, h2]
        exact ⟨l, b, rfl, h⟩
      · rw [if_neg hq] at h; exact h.elim
    | no => exact h.elim
    | dat _ => exact h.elim
    | own _ => exact h.elim
    | slf _ _ => exact h.elim
    | cls _ => exact h.elim
    | ob _ _ _ => exact h.elim
    | sob _ _ _ => exact h.elim
def runP (fb : SF) (n : Nat) (ds : List D) : Res D := outF (fb (ds.map .dat ++ nos n))
def runK (fb : SF) (n : Nat) (a q : Addr) (k : Dk) (ds : List D) : Res (D × Dk) := outK a q (fb (.deck a q k.l k.b :: ds.map .dat ++ nos n))

section
variable {K : PySem.W.Frag} {G H : Hp}
theorem DDs.cell : ∀ {vs : List V} {ds : List D} {i : Nat} {c : Cell}, DDs K G vs ds → (ds.map Cell.dat)[i]? = some c → ∃ v d, vs[i]? = some v ∧ c = .dat d ∧ DD K G v d
  | vs, ds, i, c, h, e => by
    rw [List.getElem?_map] at e
    cases q : ds[i]? with
    | none => rw [q] at e; cases e
    | some d =>
      rw [q] at e
      obtain ⟨v, e1, dd⟩ := h.get q
      exact ⟨v, d, e1, (Option.some.inj e).symm, dd⟩
theorem start_get {N : List Str} {vs : List V} {i : Nat} {v : V} (h : vs[i]? = some v) : (L2.start N vs)[i]? = some (some v) := by
  unfold L2.start
  have hi := (List.getElem?_eq_some_iff.mp h).1
  rw [List.getElem?_append_left (by simpa using hi), List.getElem?_map, h]; rfl
theorem start_len {N : List Str} {vs : List V} (h : vs.length ≤ N.length) : (L2.start N vs).length = N.length := by
  unfold L2.start
  rw [List.length_append, List.length_map, List.length_replicate]; omega
theorem StE.start {N : List Str} {vs : List V} {ds : List D} {n : Nat} (s : Same G H) (dd : DDs K G vs ds) (hn : ds.length + n = N.length) : StE K ⟨H, G, [], []⟩ G H (L2.start N vs) (ds.map .dat ++ nos n) fun _ => [] := by
  have hl : vs.length = ds.length := dd.len
  refine ⟨by rw [start_len (by omega), List.length_append, List.length_map]; unfold nos; rw [List.length_replicate]; omega, Same.refl _, s, fun _ _ h _ => h, fun _ h => h, fun _ _ h _ _ _ => h, fun i c e => ?_, fun _ _ _ h => (by cases h), fun _ _ h => (by cases h), fun _ _ => rfl⟩
  by_cases hi : i < ds.length
  · rw [List.getElem?_append_left (by simpa using hi)] at e
    obtain ⟨v, d, e1, rfl, dd'⟩ := dd.cell e
    exact ⟨_, start_get e1, rfl, v, rfl, dd'⟩
  · rw [List.getElem?_append_right (by simpa using hi)] at e
    have hc : c = .no := by
      unfold nos at e
      rw [List.getElem?_replicate] at e
      split at e
      · exact (Option.some.inj e).symm
      · cases e
    subst hc
    have hb : i < N.length := by
      have := (List.getElem?_eq_some_iff.mp e).1
      unfold nos at this
      rw [List.length_replicate, List.length_map] at this; omega
    exact ⟨_, List.getElem?_eq_getElem (by rw [start_len (by omega)]; exact hb), rfl⟩
theorem StE.startK {N : List Str} {vs : List V} {ds : List D} {n : Nat} {a q : Addr} {k : Dk} (s : Same G H) (ga : G a = none) (gq : G q = none) (dk : DeckAt H a q k.l k.b) (dd : DDs K G vs ds) (hn : ds.length + 1 + n = N.length) :
    StE K ⟨H, G, [a, q], []⟩ G H (L2.start N (.ref a :: vs)) (.deck a q k.l k.b :: ds.map .dat ++ nos n) fun i => if i = 0 then [a, q] else [] := by
  have hl : vs.length = ds.length := dd.len
  refine ⟨?_, Same.refl _, s, fun _ _ h _ => h, fun _ h => h, fun _ _ h _ _ _ => h, fun i c e => ?_, fun i j b h1 h2 => ?_, fun i b h => ?_, fun i h => ?_⟩
  · rw [start_len (by simp only [List.length_cons]; omega), List.length_append, List.length_cons, List.length_map]; unfold nos; rw [List.length_replicate]; omega
  · cases i with
    | zero =>
      cases e
      exact ⟨_, start_get (v := .ref a) rfl, rfl, rfl, dk⟩
    | succ i =>
      have e : (ds.map Cell.dat ++ nos n)[i]? = some c := e
      by_cases hi : i < ds.length
      · rw [List.getElem?_append_left (by simpa using hi)] at e
        obtain ⟨v, d, e1, rfl, dd'⟩ := dd.cell e
        exact ⟨_, start_get (v := v) e1, rfl, v, rfl, dd'⟩
      · rw [List.getElem?_append_right (by simpa using hi)] at e
        have hc : c = .no := by
          unfold nos at e
          rw [List.getElem?_replicate] at e
          split at e
          · exact (Option.some.inj e).symm
          · cases e
        subst hc
        have hb : i + 1 < N.length := by
          have := (List.getElem?_eq_some_iff.mp e).1
          unfold nos at this
          rw [List.length_replicate, List.length_map] at this; omega
        exact ⟨_, List.getElem?_eq_getElem (by rw [start_len (by simp only [List.length_cons]; omega)]; exact hb), rfl⟩
  · by_cases hi : i = 0
    · by_cases hj : j = 0
      · rw [hi, hj]
      · rw [if_neg hj] at h2; cases h2
    · rw [if_neg hi] at h1; cases h1
  · by_cases hi : i = 0
    · rw [if_pos hi] at h
      refine ⟨?_, .inr h⟩
      rcases List.mem_cons.mp h with z | z
      · rw [z]; exact ga
      · rw [List.mem_singleton.mp z]; exact gq
    · rw [if_neg hi] at h; cases h
  · have : i ≠ 0 := fun z => by subst z; simp at h
    rw [if_neg this]
end

section
variable {P : Program} {w : World} {K : PySem.W.Frag} {mg : Str → Option Value} {base : Heap} {k : Nat} {f : Addr} {fd : FuncData} {ps N : List Str} {x qual : Str} {st : Stmt} {fb : SF}
theorem spP_len {n : Nat} {fm : List D → Res D} (hn : n = ps.length) : ∀ vs H Q E, spP K n fm vs H Q E → vs.length = ps.length := fun vs H Q E h => by
  obtain ⟨G, ds, _, dd, e, _⟩ := h
  rw [dd.len, e, hn]
theorem spK_len {n : Nat} {fm : Addr → Addr → Dk → List D → Res (D × Dk)} (hn : n + 1 = ps.length) : ∀ vs H Q E, spK K n fm vs H Q E → vs.length = ps.length := fun vs H Q E h => by
  obtain ⟨G, a, q, k, vr, ds, rfl, _, _, _, _, dd, e, _⟩ := h
  rw [List.length_cons, dd.len, e, hn]
/-- no exception leaves the def -/
theorem fn_P (F : Fun K x qual st f fd) (S : FnScope N ps (defScope st)) (n : Nat) (hn : ps.length + n = N.length)
    (hb : ∀ (cdv : Value) (A : Around) (outer : List PySem.Env) (s : Shared) (H : Hp) (E : XK), A.guards = some [] → Room k (A.deeper (envOfC qual (defScope st) s.heap.objs.size f cdv)) →
      DSs (cxOf CX0 P w K mg base N qual (defScope st) f cdv A outer s H E).nox W0 (defBody st) fb) : FnG P w K mg base CX0 (k + 1) f fd ps (spP K ps.length fun ds => noErr (runP fb n ds)) := by
  refine FnG.body F S (spP_len rfl) fun cdv A outer s H vs Q E hg hr hsp => ?_
  obtain ⟨G, ds, sm, dd, hl, q⟩ := hsp
  refine ⟨_, PSs.nox (hb cdv A outer s H E hg hr), ⟨H, G, [], []⟩, G, _, _, StE.start sm dd (n := n) (by omega), ?_⟩
  have done : ∀ {d : D}, Rz K G H Q d → ∀ v σ' G' H' as' E', Same G G' → StE K ⟨H, G, [], []⟩ G' H' σ' E' as' → DD K G' v d → Q v H' := fun {d} z v σ' G' H' as' E' s1 st1 dd1 =>
    z v G' H' ⟨s1, fun b o h => st1.keep b o h (fun z => by cases z), st1.s1, fun b o h e hb => (by
      cases ht : isT o with
      | true => rfl
      | false => exact absurd e (st1.priv b o h hb ht (fun z => by cases z)))⟩ dd1
  have q : (match noErr (outF (fb (ds.map .dat ++ nos n))) with
    | .ok d => Rz K G H Q d
    | .err x _ => ∀ c dx G' H', Al G H G' H' → ExOk K G' x c dx → E c dx H'
    | .stuck => False) := q
  show PoS K W0 ⟨H, G, [], []⟩ G _ (fb (ds.map .dat ++ nos n))
  generalize fb (ds.map .dat ++ nos n) = r at q ⊢
  match r, q with
  | .ok (.rt d, E'), q => exact fun v σ' G' H' as' s1 st1 dd1 => done q v σ' G' H' as' E' s1 st1 dd1
  | .ok (.nx, E'), q => exact fun σ' G' H' as' s1 st1 => done q .non σ' G' H' as' E' s1 st1 .non
  | .ok (.bk, E'), q => exact q.elim
  | .ok (.ct, E'), q => exact q.elim
  | .err x E', q => exact q.elim
theorem fn_K (F : Fun K x qual st f fd) (S : FnScope N ps (defScope st)) (m n : Nat) (hm : m + 1 = ps.length) (hn : ps.length + n = N.length)
    (hb : ∀ (cdv : Value) (A : Around) (outer : List PySem.Env) (s : Shared) (H : Hp) (E : XK), A.guards = some [] → Room k (A.deeper (envOfC qual (defScope st) s.heap.objs.size f cdv)) →
      DSs (cxOf CX0 P w K mg base N qual (defScope st) f cdv A outer s H E).nox W0 (defBody st) fb) : FnG P w K mg base CX0 (k + 1) f fd ps (spK K m (runK fb n)) := by
  refine FnG.body F S (spK_len hm) fun cdv A outer s H vs Q E hg hr hsp => ?_
  obtain ⟨G, a, q, k0, vr, ds, rfl, sm, ga, gq, dk, dd, hl, z⟩ := hsp
  refine ⟨_, PSs.nox (hb cdv A outer s H E hg hr), ⟨H, G, [a, q], []⟩, G, _, _, StE.startK sm ga gq dk dd (n := n) (by omega), ?_⟩
  have done : ∀ {d : D} {E' : Env}, KRz K G H a q Q (outD a q d E') → ∀ v σ' G' H' as', Same G G' → StE K ⟨H, G, [a, q], []⟩ G' H' σ' E' as' → DD K G' v d → Q v H' := fun {d E'} z v σ' G' H' as' s1 st1 dd1 => by
    obtain ⟨l, b, e, z⟩ := outD_ok z
    obtain ⟨u, e1, ea, _, dk'⟩ := st1.cell 0 _ e
    have nin : ∀ b, b ≠ a → b ≠ q → b ∉ [a, q] := fun b h1 h2 h => by
      rcases List.mem_cons.mp h with y | y
      · exact h1 y
      · exact h2 (List.mem_singleton.mp y)
    exact z v G' H' s1 st1.s1 (fun b o h h1 h2 => st1.keep b o h (nin b h1 h2)) (fun b o h h0 ht h1 h2 => st1.priv b o h h0 ht (nin b h1 h2)) (st1.off 0 a (by rw [ea]; simp)).1 (st1.off 0 q (by rw [ea]; simp)).1 dk' dd1
  have z : KRz K G H a q Q (outK a q (fb (.deck a q k0.l k0.b :: ds.map .dat ++ nos n))) := z
  show PoS K W0 ⟨H, G, [a, q], []⟩ G _ (fb (.deck a q k0.l k0.b :: ds.map .dat ++ nos n))
  generalize fb (.deck a q k0.l k0.b :: ds.map .dat ++ nos n) = r at z ⊢
  match r, z with
  | .ok (.rt d, E'), z => exact fun v σ' G' H' as' s1 st1 dd1 => done (d := d) z v σ' G' H' as' s1 st1 dd1
  | .ok (.nx, E'), z => exact fun σ' G' H' as' s1 st1 => done (d := .non) z .non σ' G' H' as' s1 st1 .non
  | .ok (.bk, E'), z => exact z.elim
  | .ok (.ct, E'), z => exact z.elim
  | .err x E', z => exact z.elim
end
end DL
namespace DL
open PySem PySem.Spec PyProof.Rows L2

/-- what leaves a callee reaches what is wished for here -/
def PassW (CX : CXT) (X : Cx) (Wi : Wish) : Prop := ∀ (σ : L2.St) (pins : List (Addr × Obj)) (H : Hp) (s : Shared) (e : Value) (s' : Shared), Inv X pins σ H s → CX X.stack H s (Wi σ) e s' → X.xe e s'
theorem passW0 {X : Cx} {Wi : Wish} : PassW CX0 X Wi := fun _ _ _ _ _ _ _ h => h.elim
def CallEnd (X : Cx) (pins : List (Addr × Obj)) (σ : L2.St) (Q : VK) (r : Result) (s' : Shared) : Prop := match r with
  | .ok (.ret u) => EP X pins σ Q u s'
  | .ok _ => False
  | .error e => X.xe e s'
section
variable {X : Cx} {CX : CXT} {k : Nat} {f C : Addr} {fd : FuncData} {ps ks : List Str} {sp : Sp} {Wi : Wish} {σ : L2.St} {pins : List (Addr × Obj)} {H : Hp} {s : Shared} {Q : VK} {us : List Value} {vs : List V}
theorem ends_of (hx : PassW CX X Wi) (I : Inv X pins σ H s) {r : Result} {s' : Shared} (hq : CR CX X.stack X.prog X.w H s Q (Wi σ) r s') : CallEnd X pins σ Q r s' := by
  cases r with
  | error e => exact hx σ pins H s e s' I hq
  | ok fl =>
    cases fl with
    | ret u => exact I.after hq
    | next => exact hq.elim
    | brk => exact hq.elim
    | cont => exact hq.elim
theorem call_go (F : FnG X.prog X.w X.K X.mg X.base CX k f fd ps sp) (hg : X.A.guards = some []) (hr : Room k X.A) (hx : PassW CX X Wi) (I : Inv X pins σ H s) {args : Args} (hb : BindsTo s fd args (ps.zip us)) (r : Vals vs us) (h : sp vs H Q (Wi σ)) :
    codeAny (model X.prog X.w) X.A (.call (.ref f) args) (CallEnd X pins σ Q) s :=
  codeAny_mono (F.go X.A X.stack s H args us vs Q (Wi σ) hg hr I.env0 hb r h) fun _ _ hq => ends_of hx I hq
theorem code_call {f : Value} {us : List Value} {kw : List (Str × Value)} (h : codeAny (model X.prog X.w) X.A (.call f ⟨us, kw⟩) (CallEnd X pins σ Q) s) : wpAny (model X.prog X.w) X.A (call f us kw) (EP X pins σ Q) X.xe s := by
  refine wpAny_call (codeAny_mono h fun r s' hq => ?_)
  cases r with
  | error e => exact hq
  | ok fl =>
    cases fl with
    | ret u => exact hq
    | next => exact hq.elim
    | brk => exact hq.elim
    | cont => exact hq.elim
/-- a call by place -/
theorem run_F (F : FnG X.prog X.w X.K X.mg X.base CX k f fd ps sp) (hg : X.A.guards = some []) (hr : Room k X.A) (hb : Binds X.K fd ps []) (hx : PassW CX X Wi) (I : Inv X pins σ H s) (r : Vals vs us) (h : sp vs H Q (Wi σ)) :
    wpAny (model X.prog X.w) X.A (call (.ref f) us) (EP X pins σ Q) X.xe s := by
  have hl : us.length = ps.length := by rw [← r.length]; exact F.len _ _ _ _ h
  have b := hb s us I.kIn (by rw [List.append_nil]; exact hl)
  rw [List.append_nil] at b
  exact code_call (call_go F hg hr hx I b r h)
end

/-- what a call by the mirror's answer r leaves -/
def ret (r : Res D) (E : Env) : Res (W × Env) := match r with
  | .ok d => .ok (.dat d, E)
  | .err x _ => .err x E
  | .stuck => .stuck
def eF (n : Nat) (fm : List D → Res D) (fs : AF) : EF := fun E => (fs E).bind fun p => (ofO (dats p.1)).bind fun ds => if ds.length = n then ret (fm ds) p.2 else .stuck
section
variable {K : PySem.W.Frag} {Wi : Wish} {F : Fr} {G H : Hp} {σ : L2.St} {E : Env} {as : Nat → List Addr} {Q : VK}
theorem spP_of {n : Nat} {fm : List D → Res D} {vs : List V} {ds : List D} (st : StE K F G H σ E as) (dd : DDs K G vs ds) (hn : ds.length = n) (p : Po K Wi F G σ Q (ret (fm ds) E)) : spP K n fm vs H Q (Wi σ) := by
  refine ⟨G, ds, st.s1, dd, hn, ?_⟩
  unfold ret at p
  generalize fm ds = r at p ⊢
  match r, p with
  | .ok d, p => exact Po.rz st p
  | .err x _, p => exact fun c dx G' H' al xo => p c dx G' H' as al.g (st.al al) xo
end
def tCallG (sp : Sp) (Wi : Wish) (t : TA) : TE := fun σ H Q => t σ H fun vs H1 => sp vs H1 Q (Wi σ)
section
variable {X : Cx} {CX : CXT} {k n : Nat} {f C : Addr} {fd : FuncData} {ps ks : List Str} {Wi : Wish} {x m : Str} {p pos apos : Pos} {e o : Expr} {es : List Expr} {fs : AF} {fo : EF} {fm : List D → Res D} {sp : Sp} {t : TA}
theorem tCallG_of : ∀ σ H Q, tE X.K Wi (eF n fm fs) σ H Q → tCallG (spP X.K n fm) Wi (tA X.K Wi fs) σ H Q := by
  intro σ H Q q
  obtain ⟨F, G, E, as, st, p⟩ := q
  refine ⟨F, G, E, as, st, PoA.mono (fun vs H1 m => ?_) (PoA.bind p)⟩
  obtain ⟨ws, G1, E1, as1, s1, st1, wo1, p1⟩ := m
  obtain ⟨ds, e1, p1⟩ := Po.of p1
  by_cases hn : ds.length = n
  · rw [if_pos hn] at p1
    exact spP_of st1 (dats_ok wo1 e1) hn p1
  · rw [if_neg hn] at p1; exact p1.elim
/-- f(e, ..) -/
theorem pe_F (F : FnG X.prog X.w X.K X.mg X.base CX k f fd ps sp) (hg : X.A.guards = some []) (hr : Room k X.A) (gl : Gl X x) (hm : X.mg x = some (.ref f)) (hk : PySem.W.keepIn X.K (.ref f) = true) (hb : Binds X.K fd ps []) (hx : PassW CX X Wi)
    (ha : PA X (e :: es) t) (hdb : (x == ("__debug__" : Str)) = false := by decide) (he : starEach (e :: es) X.env = (false, eval e X.env) :: starEach es X.env := by rfl) (hpl : (backTo pos (starEach es X.env)).any (·.1) = false := by rfl) :
    PE X (.Call (.Name x p) (e :: es) [] pos) (tCallG sp Wi t) := ⟨fun pins s σ H Q I h =>
  wpAny_Call_Name_kw (ld_glob I gl hm (PySem.W.callWith_K (h₀ := X.base) I.ok.mod.kin hk (thn (ha.run pos pins s σ H _ I h) fun us s1 ⟨vs, H1, I1, r, q⟩ => ⟨I1.kIn, run_F F hg hr hb hx I1 r q⟩) he hpl) hdb)⟩
theorem de_F (F : FnG X.prog X.w X.K X.mg X.base CX k f fd ps (spP X.K n fm)) (hg : X.A.guards = some []) (hr : Room k X.A) (gl : Gl X x) (hm : X.mg x = some (.ref f)) (hk : PySem.W.keepIn X.K (.ref f) = true) (hb : Binds X.K fd ps []) (hx : PassW CX X Wi)
    (ha : DA X Wi (e :: es) fs) (hdb : (x == ("__debug__" : Str)) = false := by decide) (he : starEach (e :: es) X.env = (false, eval e X.env) :: starEach es X.env := by rfl) (hpl : (backTo pos (starEach es X.env)).any (·.1) = false := by rfl) :
    DE X Wi (.Call (.Name x p) (e :: es) [] pos) (eF n fm fs) := PE.imp (pe_F F hg hr gl hm hk hb hx ha hdb he hpl) tCallG_of

/-- the deck in a slot -/
def deckAt (E : Env) (i : Nat) : Option (Addr × Addr × Dk) := match E[i]? with
  | some (.deck a q l b) => some (a, q, ⟨l, b⟩)
  | _ => none
theorem deckAt_ok {E : Env} {i : Nat} {a q : Addr} {k : Dk} (h : deckAt E i = some (a, q, k)) : E[i]? = some (.deck a q k.l k.b) := by
  unfold deckAt at h
  cases e : E[i]? with
  | none => rw [e] at h; cases h
  | some c =>
    rw [e] at h
    cases c with
    | deck a' q' l b => cases h; rfl
    | no => cases h
    | dat _ => cases h
    | own _ => cases h
    | slf _ _ => cases h
    | cls _ => cases h
    | ob _ _ _ => cases h
    | sob _ _ _ => cases h
def retK (i : Nat) (a q : Addr) (r : Res (D × Dk)) (E : Env) : Res (W × Env) := match r with
  | .ok (d, k) => .ok (.dat d, E.set i (.deck a q k.l k.b))
  | _ => .stuck
/-- f(deck, e, ..): the deck in slot i -/
def eK (i n : Nat) (fm : Addr → Addr → Dk → List D → Res (D × Dk)) (fs : AF) : EF := fun E => (ofO (deckAt E i)).bind fun _ => (fs E).bind fun p => (ofO (dats p.1)).bind fun ds => (ofO (deckAt p.2 i)).bind fun z =>
  if ds.length = n then retK i z.1 z.2.1 (fm z.1 z.2.1 z.2.2 ds) p.2 else .stuck
theorem StE.deckC {K : PySem.W.Frag} {F : Fr} {G H G' H' : Hp} {σ : L2.St} {E : Env} {as : Nat → List Addr} {i : Nat} {a q : Addr} {l l' : List Int} {b b' : Int} (st : StE K F G H σ E as) (e : E[i]? = some (.deck a q l b)) (s : Same G G') (s1 : Same G' H')
    (kp : ∀ b o, H b = some o → b ≠ a → b ≠ q → H' b = some o) (pv : ∀ b o, G' b ≠ none → H b = some o → isT o = false → b ≠ a → b ≠ q → G b ≠ none) (ga : G' a = none) (gq : G' q = none) (dk : DeckAt H' a q l' b') :
    StE K F G' H' σ (E.set i (.deck a q l' b')) as := by
  obtain ⟨v, e1, ea, ev, dk0⟩ := st.cell i _ e
  have ma : a ∈ as i := by rw [ea]; simp
  have mq : q ∈ as i := by rw [ea]; simp
  have dom' : ∀ b, H' b = none → H b = none := fun c h => by
    cases hc : H c with
    | none => rfl
    | some o =>
      by_cases h1 : c = a
      · rw [h1, dk.1] at h; cases h
      · by_cases h2 : c = q
        · rw [h2, dk.2] at h; cases h
        · rw [kp c o hc h1 h2] at h; cases h
  refine ⟨by rw [List.length_set]; exact st.len, st.s0.trans s, s1, fun c o h x => ?_, fun c h => st.dom c (dom' c h), fun c o h h0 ht x => ?_, fun j c' q' => ?_, st.sep, fun j c h => ⟨?_, (st.off j c h).2⟩, fun j hj => st.tail j (by rw [List.length_set] at hj; exact hj)⟩
  · have na : c ≠ a := fun z => by
      rw [z] at h x
      rcases (st.off i a ma).2 with y | y
      · rw [y] at h; cases h
      · exact x y
    have nq : c ≠ q := fun z => by
      rw [z] at h x
      rcases (st.off i q mq).2 with y | y
      · rw [y] at h; cases h
      · exact x y
    exact kp c o (st.keep c o h x) na nq
  · by_cases h1 : c = a
    · rw [h1, ga] at h; exact absurd rfl h
    · by_cases h2 : c = q
      · rw [h2, gq] at h; exact absurd rfl h
      · exact st.priv c o (pv c o h (st.keep c o h0 x) ht h1 h2) h0 ht x
  · rcases get_set q' with ⟨rfl, rfl⟩ | ⟨hj, q'⟩
    · exact ⟨v, e1, ea, ev, dk⟩
    · obtain ⟨w, e2, y⟩ := st.cell j c' q'
      refine ⟨w, e2, y.up s fun c hc o h => kp c o h (fun z => ?_) fun z => ?_⟩
      · exact hj (st.sep j i c hc (by rw [z]; exact ma))
      · exact hj (st.sep j i c hc (by rw [z]; exact mq))
  · by_cases h1 : c = a
    · rw [h1]; exact ga
    · by_cases h2 : c = q
      · rw [h2]; exact gq
      · cases hc : G' c with
        | none => rfl
        | some u =>
          obtain ⟨o, ho, ht⟩ := st.thereM h
          exact absurd (st.off j c h).1 (pv c o (by rw [hc]; exact fun z => nomatch z) ho ht h1 h2)
theorem tCallK_of {i : Nat} {fk : Addr → Addr → Dk → List D → Res (D × Dk)} : ∀ σ H Q, tE X.K Wi (eK i n fk fs) σ H Q → tCallG (spK X.K n fk) Wi (tCons (tVar i) (tA X.K Wi fs)) σ H Q := by
  intro σ H Q q
  obtain ⟨F, G, E, as, st, p⟩ := q
  obtain ⟨⟨a0, q0, k0⟩, e0, p⟩ := Po.of p
  obtain ⟨v0, hv, _, ev0, _⟩ := st.cell i _ (deckAt_ok e0)
  cases ev0
  refine ⟨_, hv, F, G, E, as, st, PoA.mono (fun vs H1 m => ?_) (PoA.bind p)⟩
  obtain ⟨ws, G1, E1, as1, s1, st1, wo1, p1⟩ := m
  obtain ⟨ds, e1, p1⟩ := Po.of p1
  obtain ⟨⟨a, q, k1⟩, e2, p1⟩ := Po.of p1
  have p1 : Po X.K Wi F G1 σ Q (if ds.length = n then retK i a q (fk a q k1 ds) E1 else .stuck) := p1
  by_cases hn : ds.length = n
  · rw [if_pos hn] at p1
    have hi := deckAt_ok e2
    obtain ⟨u, e3, ea, ev, dk⟩ := st1.cell i _ hi
    rw [hv] at e3; cases e3; cases ev
    have ga := (st1.off i a0 (by rw [ea]; simp)).1
    have gq := (st1.off i q (by rw [ea]; simp)).1
    refine ⟨G1, a0, q, k1, vs, ds, rfl, st1.s1, ga, gq, dk, dats_ok wo1 e1, hn, ?_⟩
    unfold retK at p1
    generalize fk a0 q k1 ds = r at p1 ⊢
    match r, p1 with
    | .ok (d, k'), p1 => exact fun w G' H' s2 s3 kp pv ga' gq' dk' dd => p1 w G' H' as1 s2 (st1.deckC hi s2 s3 kp pv ga' gq' dk') dd
    | .err y _, p1 => exact p1.elim
    | .stuck, p1 => exact p1.elim
  · rw [if_neg hn] at p1; exact p1.elim
theorem de_K {i : Nat} {fk : Addr → Addr → Dk → List D → Res (D × Dk)} (F : FnG X.prog X.w X.K X.mg X.base CX k f fd ps (spK X.K n fk)) (hg : X.A.guards = some []) (hr : Room k X.A) (gl : Gl X x) (hm : X.mg x = some (.ref f)) (hk : PySem.W.keepIn X.K (.ref f) = true) (hb : Binds X.K fd ps []) (hx : PassW CX X Wi)
    (hv : PE X e (tVar i)) (ha : DA X Wi es fs) (hdb : (x == ("__debug__" : Str)) = false := by decide) (he : starEach (e :: es) X.env = (false, eval e X.env) :: starEach es X.env := by rfl) (hpl : (backTo pos (starEach es X.env)).any (·.1) = false := by rfl) :
    DE X Wi (.Call (.Name x p) (e :: es) [] pos) (eK i n fk fs) := PE.imp (pe_F F hg hr gl hm hk hb hx (pa_cons hv ha he) hdb he hpl) tCallK_of

end
end DL
namespace DL
open PySem PySem.Spec PyProof.Rows L2 TL

theorem strOk_iff {x : Str} : PyData.strOk x = true ↔ ∀ c ∈ tl x, c < 0x110000 := by
  unfold PyData.strOk tl
  rw [← Array.all_toList, List.all_eq_true]
  simp
theorem SOk.app {x y : Str} (hx : SOk x) (hy : SOk y) (h : x.length + y.length ≤ sizeLine) : SOk (x ++ y) := by
  have e : (x ++ y).length = x.length + y.length := strLen_append x y
  refine ⟨by rw [e]; exact h, strOk_iff.mpr fun c hc => ?_⟩
  rw [tl_append] at hc
  rcases List.mem_append.mp hc with h | h
  · exact strOk_iff.mp hx.2 c h
  · exact strOk_iff.mp hy.2 c h
theorem len_tl (x : Str) : x.length = (tl x).length := by simp [Str.length, tl]
theorem SOk.sub {x y : Str} (hx : SOk x) (h : ∀ c ∈ tl y, c ∈ tl x) (hl : y.length ≤ x.length) : SOk y :=
  ⟨Nat.le_trans hl hx.1, strOk_iff.mpr fun c hc => strOk_iff.mp hx.2 c (h c hc)⟩
theorem SOk.cut {x : Str} (hx : SOk x) (lo hi : Option Int) : SOk (cutS x lo hi) := by
  have e : tl (cutS x lo hi) = ((tl x).drop (HT.sIx x.length 0 lo)).take (HT.sIx x.length x.length hi - HT.sIx x.length 0 lo) := tl_mk _
  refine hx.sub (fun c hc => ?_) ?_
  · rw [e] at hc
    exact List.mem_of_mem_drop (List.mem_of_mem_take hc)
  · rw [len_tl, len_tl, e]
    simp only [List.length_take, List.length_drop]; omega
theorem SOk.sign {x : Str} {c : Nat} (hx : SOk x) (h : c ∈ tl x) : SOk ⟨#[c]⟩ := by
  refine ⟨by show 1 ≤ sizeLine; decide, strOk_iff.mpr fun d hd => ?_⟩
  have e : tl ⟨#[c]⟩ = [c] := rfl
  rw [e] at hd
  rw [List.mem_singleton.mp hd]
  exact strOk_iff.mp hx.2 c h

section
variable {X : Cx} {pins : List (Addr × Obj)} {σ : L2.St} {G H : Hp} {s : Shared} {v : V} {u : Value} {d : D}
theorem BD.reads (I : Inv X pins σ H s) (e : Same G H) (p : d.plain = true) (h : BD X.K G H v d) (r : RelV v u) : ∃ as, Reads s.heap u d.py as := by
  cases h with
  | dat dd => exact DD.reads I e d v u p dd r
  | own ev o =>
    subst ev
    cases r
    cases d with
    | lst ds =>
      obtain ⟨vs, e1, z, ha⟩ := o
      obtain ⟨its, rv, ⟨o, n, ho, hc, _, hd⟩, _⟩ := I.list (SqL.of e1)
      obtain ⟨as, hr⟩ := DDs.reads I e ds _ its (by simpa [D.plain] using p) ha rv
      exact ⟨_, Reads.list ho hc hd hr⟩
    | dic _ => cases p
    | dit _ => cases p
    | dix _ _ => cases p
    | _ => first | exact o.elim | cases p
theorem BD.lay {K : PySem.W.Frag} (p : d.plain = true) (h : BD K G H v d) : d.py.canLay0 = true := by
  cases h with
  | dat dd => exact DD.lay d v p dd
  | own ev o =>
    cases d with
    | lst ds =>
      obtain ⟨vs, e1, z, ha⟩ := o
      exact DDs.lay ds _ (by simpa [D.plain] using p) ha
    | dic _ => cases p
    | dit _ => cases p
    | dix _ _ => cases p
    | _ => first | exact o.elim | cases p
/-- a list -/
theorem BD.lst {K : PySem.W.Frag} (s : Same G H) {ds : List D} (h : BD K G H v (.lst ds)) : ∃ a vs, v = .ref a ∧ H a = some (.lst vs) ∧ vs.length ≤ sizeLine ∧ DDs K G vs ds := by
  cases h with
  | dat dd => cases dd with | lst g z r => exact ⟨_, _, rfl, s _ _ g, z, r⟩
  | own ev o => obtain ⟨vs, e1, z, r⟩ := o; exact ⟨_, vs, ev, e1, z, r⟩
theorem BD.tup {K : PySem.W.Frag} (s : Same G H) {ds : List D} (h : BD K G H v (.tup ds)) : ∃ a vs, v = .ref a ∧ H a = some (.tup vs) ∧ vs.length ≤ sizeLine ∧ DDs K G vs ds ∧ G a = some (.tup vs) := by
  cases h with
  | dat dd => cases dd with | tup g z r => exact ⟨_, _, rfl, s _ _ g, z, r, g⟩
  | own ev o => exact o.elim
theorem BD.int {K : PySem.W.Frag} {i : Int} (h : BD K G H v (.int i)) : v = .int i := by
  cases h with
  | dat dd => cases dd; rfl
  | own ev o => exact o.elim
theorem BD.bl {K : PySem.W.Frag} {i : Bool} (h : BD K G H v (.bl i)) : v = .bl i := by
  cases h with
  | dat dd => cases dd; rfl
  | own ev o => exact o.elim
theorem BD.non {K : PySem.W.Frag} (h : BD K G H v .non) : v = .non := by
  cases h with
  | dat dd => cases dd; rfl
  | own ev o => exact o.elim
theorem BD.str {K : PySem.W.Frag} {x : Str} (h : BD K G H v (.str x)) : v = .str x ∧ SOk x := by
  cases h with
  | dat dd => cases dd with | str _ h => exact ⟨rfl, h⟩
  | own ev o => exact o.elim
theorem BD.dic {K : PySem.W.Frag} (s : Same G H) {kd : List (Key × D)} (h : BD K G H v (.dic kd)) : ∃ a kv, v = .ref a ∧ H a = some (.dK kv) ∧ DKs K G kv kd := by
  cases h with
  | dat dd => cases dd with | dic g r => exact ⟨_, _, rfl, s _ _ g, r⟩
  | own ev o => obtain ⟨kv, e1, r⟩ := o; exact ⟨_, kv, ev, e1, r⟩
theorem BD.dit {K : PySem.W.Frag} (s : Same G H) {kd : List (List Key × D)} (h : BD K G H v (.dit kd)) : ∃ a kv, v = .ref a ∧ H a = some (.dT kv) ∧ DTs K G kv kd := by
  cases h with
  | dat dd => cases dd with | dit g r => exact ⟨_, _, rfl, s _ _ g, r⟩
  | own ev o => obtain ⟨kv, e1, r⟩ := o; exact ⟨_, kv, ev, e1, r⟩
end

def gAdd : D → D → Option D
  | .int i, .int j => some (.int (i + j))
  | .str x, .str y => if x.length + y.length ≤ sizeLine then some (.str (x ++ y)) else none
  | .lst x, .lst y => if x.length + y.length ≤ sizeLine then some (.lst (x ++ y)) else none
  | .tup x, .tup y => if x.length + y.length ≤ sizeLine then some (.tup (x ++ y)) else none
  | _, _ => none
def rAddA (K : PySem.W.Frag) : R2 := fun x y H Q => (∃ i j, x = .int i ∧ y = .int j ∧ Q (.int (i + j)) H) ∨ (∃ i j, x = .str i ∧ y = .str j ∧ i.length + j.length ≤ sizeLine ∧ Q (.str (i ++ j)) H) ∨ rCat x y H Q ∨ rCatA K x y H Q
theorem op_addA {X : Cx} : OpR X (binaryOp .Add) (rAddA X.K) := op_add.or (op_add_str.or (op_cat.or op_catA))
theorem ifs_some {c : Prop} [Decidable c] {a d : D} (h : (if c then some a else none) = some d) : c ∧ d = a := by
  by_cases q : c
  · rw [if_pos q] at h; cases h; exact ⟨q, rfl⟩
  · rw [if_neg q] at h; cases h
theorem opd_add {K : PySem.W.Frag} : OpD K (rAddA K) gAdd := by
  intro G H x y a b d Q s ha hb e z
  cases a with
  | int i =>
    cases b with
    | int j => cases e; exact .inl ⟨i, j, ha.int, hb.int, z _ _ _ (Al.refl s) (.int _)⟩
    | _ => cases e
  | str i =>
    cases b with
    | str j =>
      obtain ⟨hl, rfl⟩ := ifs_some e
      exact .inr (.inl ⟨i, j, ha.str.1, hb.str.1, hl, z _ _ _ (Al.refl s) (.str _ (ha.str.2.app hb.str.2 hl))⟩)
    | _ => cases e
  | lst i =>
    cases b with
    | lst j =>
      obtain ⟨hl, rfl⟩ := ifs_some e
      obtain ⟨p, vs, rfl, h1, z1, d1⟩ := ha.lst s
      obtain ⟨q, ws, rfl, h2, z2, d2⟩ := hb.lst s
      have hl' : vs.length + ws.length ≤ sizeLine := by rw [d1.len, d2.len]; exact hl
      exact .inr (.inr (.inl ⟨p, q, vs, ws, rfl, rfl, h1, h2, hl', fun r hr => z.new s r _ hr (Al.one s hr).h ⟨_, upd_same, by rw [List.length_append]; exact hl', d1.app d2⟩⟩))
    | _ => cases e
  | tup i =>
    cases b with
    | tup j =>
      obtain ⟨hl, rfl⟩ := ifs_some e
      obtain ⟨p, vs, rfl, h1, z1, d1, g1⟩ := ha.tup s
      obtain ⟨q, ws, rfl, h2, z2, d2, g2⟩ := hb.tup s
      have hl' : vs.length + ws.length ≤ sizeLine := by rw [d1.len, d2.len]; exact hl
      refine .inr (.inr (.inr ?_))
      have both : ∀ r, H r = none → Q (.ref r) (upd H r (.tup (vs ++ ws))) := fun r hr => z _ _ _ (Al.one s hr) (.tup upd_same (by rw [List.length_append]; exact hl') ((d1.app d2).up (Al.one s hr).g))
      have hv : vs = [] → Q (.ref q) H := fun e => by
        subst e
        have e2 : i = [] := by have := d1.len; simpa using this.symm
        subst e2
        exact z _ _ _ (Al.refl s) (.tup g2 z2 d2)
      have hw : ws = [] → Q (.ref p) H := fun e => by
        subst e
        have e2 : j = [] := by have := d2.len; simpa using this.symm
        subst e2
        exact z _ _ _ (Al.refl s) (by rw [List.append_nil]; exact .tup g1 z1 d1)
      exact ⟨p, q, vs, ws, rfl, rfl, SqT.of h1, SqT.of h2, hl', hv, fun _ e => hw e, fun _ _ r hr => both r hr⟩
    | _ => cases e
  | _ => cases b <;> cases e

def okCmp (a b : D) : Bool := a.plain && b.plain && decide (min a.py.depth b.py.depth ≤ 60)
def gEq (a b : D) : Option D := if okCmp a b = true then some (.bl (PyData.eqv a.py b.py)) else none
def gNe (a b : D) : Option D := if okCmp a b = true then some (.bl (!PyData.eqv a.py b.py)) else none
def rCm (K : PySem.W.Frag) (f : PyData → PyData → Bool) (ok : PyData → PyData → Prop) : R2 := fun x y H Q => ∃ G a b, Same G H ∧ BD K G H x a ∧ BD K G H y b ∧ a.plain = true ∧ b.plain = true ∧ min a.py.depth b.py.depth ≤ 60 ∧ ok a.py b.py ∧ Q (.bl (f a.py b.py)) H
theorem okCmp_iff {a b : D} (h : okCmp a b = true) : a.plain = true ∧ b.plain = true ∧ min a.py.depth b.py.depth ≤ 60 := by
  unfold okCmp at h
  rw [Bool.and_eq_true, Bool.and_eq_true] at h
  exact ⟨h.1.1, h.1.2, of_decide_eq_true h.2⟩
theorem opd_eq {K : PySem.W.Frag} : OpD K (rCm K PyData.eqv fun _ _ => True) gEq := by
  intro G H x y a b d Q s ha hb e z
  obtain ⟨h, rfl⟩ := ifs_some e
  obtain ⟨h1, h2, h3⟩ := okCmp_iff h
  exact ⟨G, a, b, s, ha, hb, h1, h2, h3, trivial, z _ _ _ (Al.refl s) (.bl _)⟩
theorem opd_ne {K : PySem.W.Frag} : OpD K (rCm K (fun a b => !PyData.eqv a b) fun _ _ => True) gNe := by
  intro G H x y a b d Q s ha hb e z
  obtain ⟨h, rfl⟩ := ifs_some e
  obtain ⟨h1, h2, h3⟩ := okCmp_iff h
  exact ⟨G, a, b, s, ha, hb, h1, h2, h3, trivial, z _ _ _ (Al.refl s) (.bl _)⟩
def notN : PyData → Bool
  | .none => false
  | _ => true
section
variable {X : Cx} (hu : X.A.units + 64 < cLine)
include hu
theorem op_eqq : OpR X (compareOp .Eq) (rCm X.K PyData.eqv fun _ _ => True) := by
  intro pins s σ H x y v u Q I rx ry ⟨G, a, b, sm, ha, hb, p1, p2, hd, _, q⟩
  obtain ⟨as, r1⟩ := ha.reads I sm p1 rx
  obtain ⟨bs, r2⟩ := hb.reads I sm p2 ry
  exact SeqAt.compareEq_reads r1 r2 (ha.lay p1) (hb.lay p2) (by omega) ⟨.bl _, H, I, rfl, q⟩
theorem op_neq : OpR X (compareOp .NotEq) (rCm X.K (fun a b => !PyData.eqv a b) fun _ _ => True) := by
  intro pins s σ H x y v u Q I rx ry ⟨G, a, b, sm, ha, hb, p1, p2, hd, _, q⟩
  obtain ⟨as, r1⟩ := ha.reads I sm p1 rx
  obtain ⟨bs, r2⟩ := hb.reads I sm p2 ry
  exact SeqAt.compareNe_reads r1 r2 (ha.lay p1) (hb.lay p2) (by omega) ⟨.bl _, H, I, rfl, q⟩
end
end DL
namespace DL
open PySem PySem.Spec PyProof.Rows L2 TL

def inS (x y : Str) : Bool := !(Builtin.Str.occurrences y x 0 y.length 1).isEmpty
def gInQ (neg : Bool) : D → D → Option D
  | .str x, .str y => some (.bl (if neg then !(inS x y) else inS x y))
  | d, .lst ds => if (d.plain && plainL ds && decide (min (PyData.depthAll (pyL ds)) d.py.depth ≤ 60)) = true then some (.bl (if neg then !((pyL ds).any fun y => PyData.eqv y d.py) else (pyL ds).any fun y => PyData.eqv y d.py)) else none
  | d, .tup ds => if (d.plain && plainL ds && decide (min (PyData.depthAll (pyL ds)) d.py.depth ≤ 60)) = true then some (.bl (if neg then !((pyL ds).any fun y => PyData.eqv y d.py) else (pyL ds).any fun y => PyData.eqv y d.py)) else none
  | _, _ => none
def rInQ (K : PySem.W.Frag) (neg : Bool) : R2 := fun x y H Q => (∃ a b, x = .str a ∧ y = .str b ∧ Q (.bl (if neg then !(inS a b) else inS a b)) H) ∨
  ∃ G d ds c, (c = D.lst ds ∨ c = D.tup ds) ∧ Same G H ∧ BD K G H x d ∧ BD K G H y c ∧ d.plain = true ∧ plainL ds = true ∧ min (PyData.depthAll (pyL ds)) d.py.depth ≤ 60 ∧
    Q (.bl (if neg then !((pyL ds).any fun y => PyData.eqv y d.py) else (pyL ds).any fun y => PyData.eqv y d.py)) H
theorem opd_in {K : PySem.W.Frag} {neg : Bool} : OpD K (rInQ K neg) (gInQ neg) := by
  intro G H x y a b d Q s ha hb e z
  have seq : ∀ (ds : List D) (c : D), (c = D.lst ds ∨ c = D.tup ds) → BD K G H y c →
      (if (a.plain && plainL ds && decide (min (PyData.depthAll (pyL ds)) a.py.depth ≤ 60)) = true then some (D.bl (if neg then !((pyL ds).any fun y => PyData.eqv y a.py) else (pyL ds).any fun y => PyData.eqv y a.py)) else none) = some d → rInQ K neg x y H Q := fun ds c hc hb e => by
    obtain ⟨h, rfl⟩ := ifs_some e
    rw [Bool.and_eq_true, Bool.and_eq_true] at h
    exact .inr ⟨G, a, ds, c, hc, s, ha, hb, h.1.1, h.1.2, of_decide_eq_true h.2, z _ _ _ (Al.refl s) (.bl _)⟩
  cases b with
  | str y =>
    cases a with
    | str x => cases e; exact .inl ⟨x, y, ha.str.1, hb.str.1, z _ _ _ (Al.refl s) (.bl _)⟩
    | _ => cases e
  | lst ds =>
    refine seq ds _ (.inl rfl) hb ?_
    cases a <;> exact e
  | tup ds =>
    refine seq ds _ (.inr rfl) hb ?_
    cases a <;> exact e
  | _ => cases a <;> cases e
section
variable {X : Cx} (hu : X.A.units + 64 < cLine)
include hu
theorem op_inq : OpR X (compareOp .In) (rInQ X.K false) := by
  intro pins s σ H x y v u Q I rx ry h
  rcases h with ⟨a, b, rfl, rfl, q⟩ | ⟨G, d, ds, c, hc, sm, hx, hy, p1, p2, hd, q⟩
  · exact op_in_str pins s σ H _ _ v u Q I rx ry ⟨a, b, rfl, rfl, q⟩
  · have pc : c.plain = true := by rcases hc with rfl | rfl <;> simpa [D.plain] using p2
    obtain ⟨as, r1⟩ := hx.reads I sm p1 rx
    obtain ⟨bs, r2⟩ := hy.reads I sm pc ry
    have l1 := hx.lay p1
    have l2 := hy.lay pc
    rcases hc with rfl | rfl
    · exact PySem.SeqAt.in_list_reads r2 r1 l2 l1 (by omega) ⟨.bl _, H, I, rfl, q⟩
    · exact PySem.SeqAt.in_tuple_reads r2 r1 l2 l1 (by omega) ⟨.bl _, H, I, rfl, q⟩
theorem op_notinq : OpR X (compareOp .NotIn) (rInQ X.K true) := by
  intro pins s σ H x y v u Q I rx ry h
  rcases h with ⟨a, b, rfl, rfl, q⟩ | ⟨G, d, ds, c, hc, sm, hx, hy, p1, p2, hd, q⟩
  · exact op_notIn_str pins s σ H _ _ v u Q I rx ry ⟨a, b, rfl, rfl, q⟩
  · have pc : c.plain = true := by rcases hc with rfl | rfl <;> simpa [D.plain] using p2
    obtain ⟨as, r1⟩ := hx.reads I sm p1 rx
    obtain ⟨bs, r2⟩ := hy.reads I sm pc ry
    have l1 := hx.lay p1
    have l2 := hy.lay pc
    rcases hc with rfl | rfl
    · exact PySem.SeqAt.notIn_list_reads r2 r1 l2 l1 (by omega) ⟨.bl _, H, I, rfl, q⟩
    · exact PySem.SeqAt.notIn_tuple_reads r2 r1 l2 l1 (by omega) ⟨.bl _, H, I, rfl, q⟩
end

def gLen : List D → Option D
  | [.str x] => some (.int x.length)
  | [.lst ds] => some (.int ds.length)
  | [.tup ds] => some (.int ds.length)
  | _ => none
theorem BDs.one {K : PySem.W.Frag} {G H : Hp} {xs : List V} {d : D} (h : BDs K G H xs [d]) : ∃ x, xs = [x] ∧ BD K G H x d := by
  cases h with
  | cons a b => cases b; exact ⟨_, rfl, a⟩
theorem calld_len {K : PySem.W.Frag} : CallD K (fun xs H Q => ∃ x n, xs = [x] ∧ LenV K x H n ∧ Q (.int n) H) gLen := by
  intro G H xs ds d Q s h e z
  match ds, e with
  | [.str x], e =>
    cases e
    obtain ⟨v, rfl, b⟩ := h.one
    obtain ⟨rfl, ok⟩ := b.str
    exact ⟨_, _, rfl, ⟨ok.1, rfl⟩, z _ _ _ (Al.refl s) (.int _)⟩
  | [.lst ds], e =>
    cases e
    obtain ⟨v, rfl, b⟩ := h.one
    obtain ⟨a, vs, rfl, h1, z1, d1⟩ := b.lst s
    exact ⟨_, _, rfl, .inl ⟨vs, SqL.of h1, rfl⟩, by rw [d1.len]; exact z _ _ _ (Al.refl s) (.int _)⟩
  | [.tup ds], e =>
    cases e
    obtain ⟨v, rfl, b⟩ := h.one
    obtain ⟨a, vs, rfl, h1, z1, d1, _⟩ := b.tup s
    exact ⟨_, _, rfl, .inr ⟨vs, SqT.of h1, rfl⟩, by rw [d1.len]; exact z _ _ _ (Al.refl s) (.int _)⟩
def gIx : D → D → Option D
  | .lst ds, .int i => atI ds i
  | .tup ds, .int i => atI ds i
  | .str x, .int i => (atI (tl x) i).map fun c => .str ⟨#[c]⟩
  | _, _ => none
theorem atI_dd {K : PySem.W.Frag} {G : Hp} {vs : List V} {ds : List D} {i : Int} {d : D} (h : DDs K G vs ds) (e : atI ds i = some d) : ∃ v, atI vs i = some v ∧ DD K G v d := by
  unfold atI at e ⊢
  rw [h.len]
  cases q : ixN ds.length i with
  | none => rw [q] at e; cases e
  | some j =>
    rw [q] at e
    exact h.get e
theorem opd_ix {K : PySem.W.Frag} : OpD K (rIx K) gIx := by
  intro G H x y a b d Q s ha hb e z
  cases b with
  | int i =>
    cases a with
    | lst ds =>
      obtain ⟨p, vs, rfl, h1, z1, d1⟩ := ha.lst s
      obtain ⟨v, e1, dd⟩ := atI_dd d1 (show atI ds i = some d from e)
      exact .inl ⟨p, vs, i, v, rfl, hb.int, SqL.of h1, e1, z _ _ _ (Al.refl s) dd⟩
    | tup ds =>
      obtain ⟨p, vs, rfl, h1, z1, d1, _⟩ := ha.tup s
      obtain ⟨v, e1, dd⟩ := atI_dd d1 (show atI ds i = some d from e)
      exact .inr (.inl ⟨p, vs, i, v, rfl, hb.int, SqT.of h1, e1, z _ _ _ (Al.refl s) dd⟩)
    | str t =>
      obtain ⟨rfl, ok⟩ := ha.str
      have e : (atI (tl t) i).map (fun c => D.str ⟨#[c]⟩) = some d := e
      cases q : atI (tl t) i with
      | none => rw [q] at e; cases e
      | some c =>
        rw [q] at e; cases e
        obtain ⟨j, _, hj, _⟩ := atI_get q
        exact .inr (.inr ⟨t, i, c, rfl, hb.int, ok.1, q, z _ _ _ (Al.refl s) (.str _ (ok.sign (List.mem_of_getElem? hj)))⟩)
    | _ => cases e
  | _ => cases a <;> cases e
def cutD (xs : List D) (lo hi : Option Int) : List D := (xs.drop (HT.sIx xs.length 0 lo)).take (HT.sIx xs.length xs.length hi - HT.sIx xs.length 0 lo)
theorem DDs.cut {K : PySem.W.Frag} {G : Hp} {vs : List V} {ds : List D} (h : DDs K G vs ds) (lo hi : Option Int) : DDs K G (cutV vs lo hi) (cutD ds lo hi) := by
  unfold cutV cutD
  rw [h.len]
  exact (h.drop _).take _
def gSl : D → Option Int → Option Int → Option D
  | .lst ds, lo, hi => some (.lst (cutD ds lo hi))
  | .tup ds, lo, hi => some (.tup (cutD ds lo hi))
  | .str x, lo, hi => some (.str (cutS x lo hi))
  | _, _, _ => none
def rSl3 (K : PySem.W.Frag) : V → Option Int → Option Int → Hp → VK → Prop := fun x lo hi H Q => rSlL K x lo hi H Q ∨ rSlA K x lo hi H Q ∨ rSlS x lo hi H Q
theorem sl_3 {X : Cx} : SlR X (rSl3 X.K) := sl_list.or (sl_tupA.or sl_str)
theorem sld_sl {K : PySem.W.Frag} : SlD K (rSl3 K) gSl := by
  intro G H x a d lo hi Q s ha e z
  cases a with
  | lst ds =>
    cases e
    obtain ⟨p, vs, rfl, h1, z1, d1⟩ := ha.lst s
    exact .inl ⟨p, vs, rfl, SqL.of h1, fun q hq => z.new s q _ hq (Al.one s hq).h ⟨_, upd_same, Nat.le_trans (cutV_length vs lo hi) z1, d1.cut lo hi⟩⟩
  | tup ds =>
    cases e
    obtain ⟨p, vs, rfl, h1, z1, d1, g1⟩ := ha.tup s
    refine .inr (.inl ⟨p, vs, rfl, SqT.of h1, fun hw => ?_, fun _ q hq => z _ _ _ (Al.one s hq) (.tup upd_same (Nat.le_trans (cutV_length vs lo hi) z1) ((d1.cut lo hi).up (Al.one s hq).g))⟩)
    have e2 : cutD ds lo hi = ds := by
      unfold cutD
      rw [← d1.len, hw.1, hw.2, List.drop_zero, Nat.sub_zero, d1.len, List.take_length]
    exact z _ _ _ (Al.refl s) (by rw [e2]; exact .tup g1 z1 d1)
  | str t =>
    cases e
    obtain ⟨rfl, ok⟩ := ha.str
    exact .inr (.inr ⟨t, rfl, ok.1, z _ _ _ (Al.refl s) (.str _ (ok.cut lo hi))⟩)
  | _ => cases e

def gTuple : List D → Option D
  | [.lst ds] => some (.tup ds)
  | [.tup ds] => some (.tup ds)
  | _ => none
theorem calld_tuple {K : PySem.W.Frag} : CallD K (fun xs H Q => ∃ p ys, xs = [.ref p] ∧ ((SqL K H p ys ∧ ∀ l, H l = none → Q (.ref l) (upd H l (.tup ys))) ∨ (SqT K H p ys ∧ Q (.ref p) H))) gTuple := by
  intro G H xs ds d Q s h e z
  match ds, e with
  | [.lst ds], e =>
    cases e
    obtain ⟨v, rfl, b⟩ := h.one
    obtain ⟨a, vs, rfl, h1, z1, d1⟩ := b.lst s
    exact ⟨a, vs, rfl, .inl ⟨SqL.of h1, fun q hq => z _ _ _ (Al.one s hq) (.tup upd_same z1 (d1.up (Al.one s hq).g))⟩⟩
  | [.tup ds], e =>
    cases e
    obtain ⟨v, rfl, b⟩ := h.one
    obtain ⟨a, vs, rfl, h1, z1, d1, g1⟩ := b.tup s
    exact ⟨a, vs, rfl, .inr ⟨SqT.of h1, z _ _ _ (Al.refl s) (.tup g1 z1 d1)⟩⟩
def leD (a b : D) : Bool := PySem.W.dataLe false D.py a b
def okSort (ds : List D) : Bool := ds.all D.plain && (ds.all fun a => ds.all fun b => PySem.W.alike a.py b.py) && (ds.all (fun a => match a.py with | .tuple (_ :: _) => true | _ => false) || ds.all fun a => match a.py with | .none => false | .tuple _ => false | _ => true) && ds.all fun a => decide (a.py.depth ≤ 60)
def gSorted : List D → Option D
  | [.lst ds] => if okSort ds = true then some (.lst (ds.mergeSort leD)) else none
  | _ => none
def rSortD (K : PySem.W.Frag) : List V → Hp → VK → Prop := fun xs H Q => ∃ G a vs ds, xs = [.ref a] ∧ Same G H ∧ H a = some (.lst vs) ∧ vs.length ≤ sizeLine ∧ DDs K G vs ds ∧ okSort ds = true ∧ ∀ p ws, H p = none → DDs K G ws (ds.mergeSort leD) → Q (.ref p) (upd H p (.lst ws))
theorem calln_sorted {K : PySem.W.Frag} : CallN K (rSortD K) gSorted := by
  intro G H xs ds d Q s h e z
  match ds, e with
  | [.lst ds], e =>
    obtain ⟨h0, rfl⟩ := ifs_some (show (if okSort ds = true then some (D.lst (ds.mergeSort leD)) else none) = some d from e)
    obtain ⟨v, rfl, b⟩ := h.one
    obtain ⟨a, vs, rfl, h1, z1, d1⟩ := b.lst s
    refine ⟨G, a, vs, ds, rfl, s, h1, z1, d1, h0, fun q ws hq dd => z q _ hq (Al.one s hq).h ⟨ws, upd_same, ?_, dd⟩⟩
    rw [dd.len, (List.mergeSort_perm ds leD).length_eq, ← d1.len]; exact z1
theorem each_of {X : Cx} {pins : List (Addr × Obj)} {σ : L2.St} {G H : Hp} {s : Shared} (I : Inv X pins σ H s) (sm : Same G H) : ∀ {vs : List V} {us : List Value} {ds : List D}, Vals vs us → DDs X.K G vs ds → ds.all D.plain = true →
    PySem.W.EachIs (fun u d => ∃ v, RelV v u ∧ DD X.K G v d) us ds ∧ PySem.W.EachIs (fun u d => ∃ as, Reads s.heap u (D.py d) as) us ds
  | _, _, _, .nil, .nil, _ => ⟨.nil, .nil⟩
  | _, _, _, .cons r rs, .cons a b, p => by
    rw [List.all_cons, Bool.and_eq_true] at p
    obtain ⟨h1, h2⟩ := each_of I sm rs b p.2
    exact ⟨.cons ⟨_, r, a⟩ h1, .cons (DD.reads I sm _ _ _ p.1 a r) h2⟩
theorem of_each {K : PySem.W.Frag} {G : Hp} : ∀ {us : List Value} {ds : List D}, PySem.W.EachIs (fun u d => ∃ v, RelV v u ∧ DD K G v d) us ds → ∃ vs, Vals vs us ∧ DDs K G vs ds
  | _, _, .nil => ⟨[], .nil, .nil⟩
  | _, _, .cons ⟨v, r, a⟩ t => by
    obtain ⟨vs, h1, h2⟩ := of_each t
    exact ⟨v :: vs, .cons r h1, .cons a h2⟩
theorem call_sortD {X : Cx} (hu : X.A.units + 64 < cLine) : CallR X (.builtin "sorted") (rSortD X.K) := by
  intro pins s σ H xs us Q I r h
  obtain ⟨G, a, vs, ds, rfl, sm, hv, hz, dd, ok, q⟩ := h
  obtain ⟨its, rv, hl, _⟩ := I.list (SqL.of hv)
  rw [Vals.ref1 r]
  unfold okSort at ok
  simp only [Bool.and_eq_true] at ok
  obtain ⟨⟨⟨o1, o2⟩, o3⟩, o4⟩ := ok
  obtain ⟨e1, e2⟩ := each_of I sm rv dd o1
  have mem : ∀ d ∈ ds.map D.py, ∃ b ∈ ds, b.py = d := fun d hd => List.mem_map.mp hd
  refine PySem.W.sorted_data (bs := ds) (enc := D.py) hl.isList e1 e2 (fun d hd d' hd' => ?_) ?_ (by rw [← dd.len]; exact hz) (fun b hb => ?_) fun out ho eo => ?_
  · obtain ⟨b, hb, rfl⟩ := mem d hd
    obtain ⟨b', hb', rfl⟩ := mem d' hd'
    exact List.all_eq_true.mp (List.all_eq_true.mp o2 b hb) b' hb'
  · rw [Bool.or_eq_true] at o3
    rcases o3 with o3 | o3
    · refine .inl fun d hd => ?_
      obtain ⟨b, hb, rfl⟩ := mem d hd
      have z := List.all_eq_true.mp o3 b hb
      split at z
      · rename_i x r e; exact ⟨x, r, e⟩
      · cases z
    · refine .inr fun d hd => ?_
      obtain ⟨b, hb, rfl⟩ := mem d hd
      have z := List.all_eq_true.mp o3 b hb
      refine ⟨fun e => ?_, fun xs e => ?_⟩
      · rw [e] at z; cases z
      · rw [e] at z; cases z
  · have z := of_decide_eq_true (List.all_eq_true.mp o4 b hb)
    omega
  · obtain ⟨ws, w1, w2⟩ := of_each eo
    obtain ⟨ep, he'⟩ := PyProof.Rows.sortedAll_at s.heap its out.toArray
    have hlen : ws.length ≤ sizeLine := by rw [w1.length, ho, ← dd.len]; exact hz
    exact ⟨.ref _, upd H (s.heap.objs.size + 1) (.lst ws), I.laid (t' := s.toks) (fun _ _ => PyProof.Rows.sortedAll_old) (Nat.le_succ _) ⟨hlen, out, ep, w1, he'⟩, rfl, q _ ws (I.hok.fresh (Nat.le_succ _)) w2⟩
end DL
namespace DL
open PySem PySem.Spec PyProof.Rows L2 TL

def Cp (l : List Nat) : Prop := ∀ c ∈ l, c < 0x110000
theorem Cp.app {a b : List Nat} (ha : Cp a) (hb : Cp b) : Cp (a ++ b) := fun c h => (List.mem_append.mp h).elim (ha c) (hb c)
theorem cp_string (s : String) : Cp (tl (Str.ofString s)) := by
  rw [tl_ofString]
  intro c hc
  obtain ⟨k, _, rfl⟩ := List.mem_map.mp hc
  have h := k.valid
  show k.val.toNat < _
  rcases h with h | h
  · have : k.val.toNat < 0xd800 := h
    omega
  · exact h.2
theorem cp_reprChar {q c : Nat} (hq : q < 0x110000) (hc : c < 0x110000) : Cp (Builtin.Str.reprChar q c) := by
  have hex : ∀ w, Cp (List.replicate (w - ((Nat.toDigits 16 c).map Char.toNat).length) 48 ++ (Nat.toDigits 16 c).map Char.toNat) := fun w => by
    refine Cp.app (fun d hd => ?_) fun d hd => ?_
    · rw [(List.mem_replicate.mp hd).2]; decide
    · obtain ⟨k, _, rfl⟩ := List.mem_map.mp hd
      rcases k.valid with h | h
      · have : k.val.toNat < 0xd800 := h
        show k.val.toNat < _
        omega
      · exact h.2
  have two : ∀ a b : Nat, a < 0x110000 → b < 0x110000 → Cp [a, b] := fun a b ha hb d hd => by
    rcases List.mem_cons.mp hd with e | hd
    · rw [e]; exact ha
    · rw [List.mem_singleton.mp hd]; exact hb
  unfold Builtin.Str.reprChar
  dsimp only
  split
  · exact two _ _ (by decide) hc
  split
  · exact two _ _ (by decide) (by decide)
  split
  · exact two _ _ (by decide) (by decide)
  split
  · exact two _ _ (by decide) (by decide)
  split
  · intro d hd; rw [List.mem_singleton.mp hd]; exact hc
  split
  · exact (two _ _ (by decide) (by decide)).app (hex 2)
  split
  · exact (two _ _ (by decide) (by decide)).app (hex 4)
  · exact (two _ _ (by decide) (by decide)).app (hex 8)
theorem cp_fold {q : Nat} (hq : q < 0x110000) : ∀ (l : List Nat) (acc : Array Nat), Cp l → Cp acc.toList → Cp (l.foldl (fun out c => out ++ (Builtin.Str.reprChar q c).toArray) acc).toList
  | [], acc, _, h => h
  | c :: r, acc, hl, h => by
    rw [List.foldl_cons]
    refine cp_fold hq r _ (fun d hd => hl d (List.mem_cons_of_mem _ hd)) ?_
    rw [Array.toList_append]
    exact h.app (cp_reprChar hq (hl c List.mem_cons_self))
theorem cp_reprText {x : Str} (h : Cp (tl x)) : Cp (tl (reprText x)) := by
  have hq : reprQuote x < 0x110000 := by unfold reprQuote; split <;> decide
  unfold reprText
  show Cp (Array.push _ _).toList
  rw [Array.toList_push, ← Array.foldl_toList]
  refine (cp_fold hq _ _ h fun c hc => ?_).app fun c hc => ?_
  · have hc : c ∈ [reprQuote x] := hc
    rw [List.mem_singleton.mp hc]; exact hq
  · rw [List.mem_singleton.mp hc]; exact hq
theorem cp_add {x y : Str} (hx : Cp (tl x)) (hy : Cp (tl y)) : Cp (tl (x ++ y)) := by rw [tl_append]; exact hx.app hy
theorem cp_from : ∀ (ts : List Str) (k : Nat) (acc : Str), Cp (tl acc) → (∀ t ∈ ts, Cp (tl t)) → Cp (tl (textFrom k acc ts))
  | [], _, _, h, _ => h
  | t :: ts, k, acc, h, ht => cp_from ts (k + 1) _ (cp_add (cp_add h (by split <;> exact cp_string _)) (ht t List.mem_cons_self)) fun u hu => ht u (List.mem_cons_of_mem _ hu)
theorem cp_join {y : Str} (hy : Cp (tl y)) : ∀ (ts : List Str), (∀ t ∈ ts, Cp (tl t)) → Cp (tl (Str.join y ts))
  | [], _ => fun c hc => (by cases hc)
  | [t], h => h t List.mem_cons_self
  | t :: u :: r, h => cp_add (cp_add (h t List.mem_cons_self) hy) (cp_join hy (u :: r) fun v hv => h v (List.mem_cons_of_mem _ hv))
mutual
theorem cp_shown : ∀ d : PyData, d.canLay0 = true → Cp (tl d.shown)
  | .none, _ => cp_string _
  | .bool b, _ => by cases b <;> exact cp_string _
  | .int i, _ => cp_string _
  | .str x, h => cp_reprText (strOk_iff.mp h)
  | .list xs, h => cp_add (cp_from _ 0 _ (cp_string _) (cp_shownAll xs h)) (cp_string _)
  | .tuple xs, h => cp_add (cp_add (cp_string _) (cp_join (cp_string _) _ (cp_shownAll xs h))) (by split <;> exact cp_string _)
  | .dict _, h => by cases h
theorem cp_shownAll : ∀ ds : List PyData, PyData.canLayAll0 ds = true → ∀ t ∈ PyData.shownAll ds, Cp (tl t)
  | [], _, t, ht => by cases ht
  | d :: ds, h, t, ht => by
    have h : (PyData.canLay0 d && PyData.canLayAll0 ds) = true := h
    rw [Bool.and_eq_true] at h
    rcases List.mem_cons.mp ht with e | ht
    · rw [e]; exact cp_shown d h.1
    · exact cp_shownAll ds h.2 t ht
end
mutual
theorem plain_hasDict : ∀ d : D, d.plain = true → d.py.hasDict = false
  | .non, _ => rfl
  | .bl _, _ => rfl
  | .int _, _ => rfl
  | .str _, _ => rfl
  | .lst xs, h => plainL_hasDict xs (by simpa [D.plain] using h)
  | .tup xs, h => plainL_hasDict xs (by simpa [D.plain] using h)
  | .dic _, h => by cases h
  | .dit _, h => by cases h
  | .dix _ _, h => by cases h
  | .obj _ _, h => by cases h
theorem plainL_hasDict : ∀ ds : List D, plainL ds = true → PyData.hasDictAll (pyL ds) = false
  | [], _ => rfl
  | d :: ds, h => by
    rw [plainL, Bool.and_eq_true] at h
    show (PyData.hasDict d.py || PyData.hasDictAll (pyL ds)) = false
    rw [plain_hasDict d h.1, plainL_hasDict ds h.2]; rfl
end
/-- repr, str of data -/
def okShow (d : D) : Bool := d.plain && d.py.showable && decide (d.py.shown.length ≤ sizeLine) && decide (d.py.depth ≤ 60)
def gRepr : List D → Option D
  | [d] => if okShow d = true then some (.str d.py.shown) else none
  | _ => none
def rReprD (K : PySem.W.Frag) : List V → Hp → VK → Prop := fun xs H Q => ∃ G x d, xs = [x] ∧ Same G H ∧ BD K G H x d ∧ okShow d = true ∧ Q (.str d.py.shown) H
theorem calld_repr {K : PySem.W.Frag} : CallD K (rReprD K) gRepr := by
  intro G H xs ds d Q s h e z
  match ds, e with
  | [a], e =>
    obtain ⟨h0, rfl⟩ := ifs_some (show (if okShow a = true then some (D.str a.py.shown) else none) = some d from e)
    obtain ⟨v, rfl, b⟩ := h.one
    refine ⟨G, v, a, rfl, s, b, h0, z _ _ _ (Al.refl s) (.str _ ?_)⟩
    unfold okShow at h0
    simp only [Bool.and_eq_true, decide_eq_true_eq] at h0
    exact ⟨h0.1.2, strOk_iff.mpr (cp_shown _ (b.lay h0.1.1.1))⟩
theorem call_reprD {X : Cx} (hu : X.A.units + 64 < cLine) (hg : X.A.guards = some []) : CallR X (.builtin "repr") (rReprD X.K) := by
  intro pins s σ H xs us Q I r h
  obtain ⟨G, x, d, rfl, sm, b, ok, q⟩ := h
  obtain ⟨u, rfl, rx⟩ := vals1 r
  unfold okShow at ok
  simp only [Bool.and_eq_true, decide_eq_true_eq] at ok
  obtain ⟨⟨⟨o1, o2⟩, o3⟩, o4⟩ := ok
  obtain ⟨as, rd⟩ := b.reads I sm o1 rx
  have seq : ∀ a, u = .ref a → wpAny (model X.prog X.w) X.A (call (.builtin "repr") [u]) (EP X pins σ Q) X.xe s := fun a e => by
    subst e
    refine repr_of_reads' (h₀ := s.heap) rd o2 (fun hd => ?_) hg (by omega) (fun _ _ h => h) (fun h' t tk hk => ⟨.str _, H, I.kept (t' := tk) hk, ⟨_, rfl⟩, q⟩) o3
    rw [plain_hasDict d o1] at hd; cases hd
  cases d with
  | non => cases b.non; cases rx; exact PySem.P.repr_of_none ⟨.str _, H, I.tok _, ⟨_, rfl⟩, q⟩
  | bl k => cases b.bl; cases rx; exact PySem.P.repr_of_bool ⟨.str _, H, I.tok _, ⟨_, rfl⟩, q⟩
  | int i =>
    cases b.int
    obtain ⟨t, rfl⟩ := rx
    exact PySem.P.repr_of_int (of_decide_eq_true o2) ⟨.str _, H, I.tok _, ⟨_, rfl⟩, q⟩
  | str z =>
    cases b.str.1
    obtain ⟨t, rfl⟩ := rx
    exact PySem.P.repr_of_str ⟨.str _, H, I.tok _, ⟨_, rfl⟩, q⟩ o3
  | lst ds =>
    obtain ⟨a, vs, rfl, _⟩ := b.lst sm
    exact seq a rx
  | tup ds =>
    obtain ⟨a, vs, rfl, _⟩ := b.tup sm
    exact seq a rx
  | dic _ => cases o1
  | dit _ => cases o1
  | dix _ _ => cases o1
  | obj _ _ => cases o1

def strsD : List D → Option (List Str)
  | [] => some []
  | .str x :: r => (strsD r).map (x :: ·)
  | _ => none
theorem strsD_ok {K : PySem.W.Frag} {G : Hp} : ∀ {vs : List V} {ds : List D} {ys : List Str}, DDs K G vs ds → strsD ds = some ys → vs = ys.map V.str ∧ ∀ y ∈ ys, SOk y
  | [], [], _, _, e => by cases e; exact ⟨rfl, fun _ h => (by cases h)⟩
  | v :: vs, d :: ds, ys, .cons a r, e => by
    cases d with
    | str x =>
      have e : (strsD ds).map (x :: ·) = some ys := e
      cases q : strsD ds with
      | none => rw [q] at e; cases e
      | some l =>
        rw [q] at e; cases e
        cases a with
        | str _ ok =>
          obtain ⟨h1, h2⟩ := strsD_ok r q
          refine ⟨by rw [List.map_cons, h1], fun y hy => ?_⟩
          rcases List.mem_cons.mp hy with z | z
          · rw [z]; exact ok
          · exact h2 y z
    | _ => cases e
def gJoin (sep : D) (xs : List D) : Option D := match sep, xs with
  | .str a, [.lst ds] => (strsD ds).bind fun ys => if (ys.map (·.length)).sum + ys.length * a.length ≤ 16777216 then some (.str (Str.join a ys)) else none
  | .str a, [.tup ds] => (strsD ds).bind fun ys => if (ys.map (·.length)).sum + ys.length * a.length ≤ 16777216 then some (.str (Str.join a ys)) else none
  | _, _ => none
theorem join_len (a : Str) : ∀ ys : List Str, (Str.join a ys).length ≤ (ys.map (·.length)).sum + ys.length * a.length
  | [] => Nat.zero_le _
  | [y] => by simp [Str.join]
  | y :: z :: r => by
    have ih := join_len a (z :: r)
    show (y ++ a ++ Str.join a (z :: r)).length ≤ _
    rw [strLen_append, strLen_append]
    simp only [List.map_cons, List.sum_cons, List.length_cons] at ih ⊢
    have e : (r.length + 1 + 1) * a.length = (r.length + 1) * a.length + a.length := Nat.succ_mul _ _
    rw [e]; omega
theorem sok_join {a : Str} {ys : List Str} (ha : SOk a) (hy : ∀ y ∈ ys, SOk y) (hl : (ys.map (·.length)).sum + ys.length * a.length ≤ 16777216) : SOk (Str.join a ys) :=
  ⟨by rw [sizeLine_eq]; exact Nat.le_trans (join_len a ys) hl, strOk_iff.mpr (cp_join (strOk_iff.mp ha.2) ys fun y h => strOk_iff.mp (hy y h).2)⟩
section
variable {X : Cx} {Wi : Wish} {o e : Expr} {fo fe : EF} {apos pos : Pos}
/-- o.m(e), o a text -/
def eM1 (g : D → List D → Option D) (fo fe : EF) : EF := fun E => (fo E).bind fun p => (rd p.2 p.1).bind fun x => match x with
  | .str s => (fe p.2).bind fun q => (rd q.2 q.1).bind fun y => (ofO (g (.str s) [y])).bind fun d => .ok (.dat d, q.2)
  | _ => .stuck
def M1D (K : PySem.W.Frag) (r : V → List V → Hp → VK → Prop) (g : D → List D → Option D) : Prop :=
  ∀ (G H : Hp) (x : Str) (y : V) (b d : D) (Q : VK), Same G H → SOk x → BD K G H y b → g (.str x) [b] = some d → Rz K G H Q d → r (.str x) [y] H Q
theorem tM1_of {r : V → List V → Hp → VK → Prop} {g : D → List D → Option D} (hg : M1D X.K r g) : ∀ σ H Q, tE X.K Wi (eM1 g fo fe) σ H Q → tM1 r (tE X.K Wi fo) (tE X.K Wi fe) σ H Q := by
  intro σ H Q q
  obtain ⟨F, G, E, as, st, p⟩ := q
  refine ⟨F, G, E, as, st, Po.mono (fun x H1 m => ?_) (Po.bind p)⟩
  obtain ⟨w1, G1, E1, as1, s1, st1, wo1, p1⟩ := m
  obtain ⟨d1, e1, p1⟩ := Po.rd p1
  cases d1 with
  | str t =>
    obtain ⟨rfl, ok⟩ := (wo1.rd (Same.refl _) st1 e1).str
    refine ⟨⟨t, rfl⟩, F, G1, E1, as1, st1, Po.mono (fun y H2 m => ?_) (Po.bind p1)⟩
    obtain ⟨w2, G2, E2, as2, s2, st2, wo2, p2⟩ := m
    obtain ⟨d2, e2, p2⟩ := Po.rd p2
    obtain ⟨d, e3, p2⟩ := Po.of p2
    exact hg G2 H2 t y d2 d Q st2.s1 ok (wo2.rd (Same.refl _) st2 e2) e3 (Po.rz st2 p2)
  | _ => exact p1.elim
theorem m1d_join {K : PySem.W.Frag} : M1D K (fun x xs H Q => ∃ a p, ∃ ys : List Str, x = .str a ∧ xs = [.ref p] ∧ (SqL K H p (ys.map V.str) ∨ SqT K H p (ys.map V.str)) ∧
      (ys.map (·.length)).sum + ys.length * a.length ≤ 16777216 ∧ Q (.str (Txt.join a ys)) H) gJoin := by
  intro G H x y b d Q s ok hb e z
  have fin : ∀ {ds : List D} {vs : List V} {p : Addr}, DDs K G vs ds → y = .ref p → (SqL K H p vs ∨ SqT K H p vs) → ((strsD ds).bind fun ys => if (ys.map (·.length)).sum + ys.length * x.length ≤ 16777216 then some (D.str (Str.join x ys)) else none) = some d →
      ∃ a p, ∃ ys : List Str, V.str x = .str a ∧ [y] = [.ref p] ∧ (SqL K H p (ys.map V.str) ∨ SqT K H p (ys.map V.str)) ∧ (ys.map (·.length)).sum + ys.length * a.length ≤ 16777216 ∧ Q (.str (Txt.join a ys)) H := fun {ds vs p} dd ey sq e => by
    cases q : strsD ds with
    | none => rw [q] at e; cases e
    | some ys =>
      rw [q] at e
      obtain ⟨hl, rfl⟩ := ifs_some (show (if (ys.map (·.length)).sum + ys.length * x.length ≤ 16777216 then some (D.str (Str.join x ys)) else none) = some d from e)
      obtain ⟨ev, hy⟩ := strsD_ok dd q
      rw [ev] at sq
      exact ⟨x, p, ys, rfl, by rw [ey], sq, hl, by rw [join_eq]; exact z _ _ _ (Al.refl s) (.str _ (sok_join ok hy hl))⟩
  cases b with
  | lst ds =>
    obtain ⟨p, vs, rfl, h1, z1, d1⟩ := hb.lst s
    exact fin d1 rfl (.inl (SqL.of h1)) e
  | tup ds =>
    obtain ⟨p, vs, rfl, h1, z1, d1, _⟩ := hb.tup s
    exact fin d1 rfl (.inr (SqT.of h1)) e
  | _ => cases e
theorem de_join (ho : DE X Wi o fo) (he : DE X Wi e fe) (hs : starEach [e] X.env = [(false, eval e X.env)] := by rfl) (hbase : attributeBase o "join" X.env (eval o X.env) = eval o X.env := by rfl) (hline : (apos.endLine == pos.line) = true := by rfl) :
    DE X Wi (.Call (.Attribute o "join" apos) [e] [] pos) (eM1 gJoin fo fe) := PE.imp (pe_join ho he hs hbase hline) (tM1_of m1d_join)
end
end DL
namespace DL
open PySem PySem.Spec PyProof.Rows L2 TL

def sgn (c : Nat) : Str := ⟨#[c]⟩
def signs (x : Str) : List D := (tl x).map fun c => D.str (sgn c)
def sqD : D → Option (List D)
  | .lst ds => some ds
  | .tup ds => some ds
  | .str x => some (signs x)
  | _ => none
theorem sok_sgn {x : Str} (h : SOk x) {c : Nat} (hc : c ∈ tl x) : SOk (sgn c) := by
  refine ⟨?_, strOk_iff.mpr fun d hd => ?_⟩
  · show (1 : Nat) ≤ sizeLine
    decide
  · have e : tl (sgn c) = [c] := rfl
    rw [e, List.mem_singleton] at hd
    rw [hd]; exact strOk_iff.mp h.2 c hc
theorem signs_len (x : Str) : (signs x).length = x.length := by
  unfold signs; rw [List.length_map]; rfl
theorem signs_get {x : Str} {i c : Nat} (h : x.cps[i]? = some c) : (signs x)[i]? = some (.str (sgn c)) := by
  unfold signs tl
  rw [List.getElem?_map, Array.getElem?_toList, h]; rfl
theorem signs_mem {x : Str} {i c : Nat} (h : x.cps[i]? = some c) : c ∈ tl x := by
  unfold tl
  exact List.mem_of_getElem? (i := i) (by rw [Array.getElem?_toList]; exact h)

/-- a source of items: where it lies -/
inductive Src where
  | li (a : Addr) | tu (a : Addr) | tx (x : Str) (t : Tok)
def Src.at : Src → Addr → Nat → Heap → Prop
  | .li a, it, i, h => h.IsListIter it a i
  | .tu a, it, i, h => h.IsTupleIter it a i
  | .tx x t, it, i, h => h.IsStrIter it (strIterType x) x t i
def Src.obj : Src → Obj
  | .li a => { cls := .type "list_iterator", data := .fields #[.ref a, .int 0 0] }
  | .tu a => { cls := .type "tuple_iterator", data := .fields #[.ref a, .int 0 0] }
  | .tx x t => { cls := .type (strIterType x), data := .fields #[.str x t, .int 0 0] }
theorem Src.new (k : Src) {h : Heap} {it : Addr} (e : h.get? it = some k.obj) : k.at it 0 h := by
  cases k with
  | li a => exact ⟨_, e, rfl, rfl⟩
  | tu a => exact ⟨_, e, rfl, rfl⟩
  | tx x t => exact ⟨_, e, rfl, rfl⟩
theorem Src.live {k : Src} {it : Addr} {i : Nat} {h : Heap} (st : k.at it i h) : ∃ o, h.get? it = some o ∧ ∀ v, o.data ≠ .cell v := by
  cases k with
  | li a => obtain ⟨o, e, c, d⟩ := st; exact ⟨o, e, fun v z => by rw [d] at z; cases z⟩
  | tu a => obtain ⟨o, e, c, d⟩ := st; exact ⟨o, e, fun v z => by rw [d] at z; cases z⟩
  | tx x t => obtain ⟨o, e, c, d⟩ := st; exact ⟨o, e, fun v z => by rw [d] at z; cases z⟩
theorem Src.stay {k : Src} {it : Addr} {i : Nat} {h h' : Heap} (st : k.at it i h) (hk : ∀ o, h.get? it = some o → h'.get? it = some o) : k.at it i h' := by
  cases k with
  | li a => obtain ⟨o, e, r⟩ := st; exact ⟨o, hk o e, r⟩
  | tu a => obtain ⟨o, e, r⟩ := st; exact ⟨o, hk o e, r⟩
  | tx x t => obtain ⟨o, e, r⟩ := st; exact ⟨o, hk o e, r⟩
/-- the source k stands for the items ds of data -/
def SrcOk (K : PySem.W.Frag) (G : Hp) (ds : List D) : Src → Prop
  | .li a => ∃ vs, G a = some (.lst vs) ∧ vs.length ≤ sizeLine ∧ DDs K G vs ds
  | .tu a => ∃ vs, G a = some (.tup vs) ∧ vs.length ≤ sizeLine ∧ DDs K G vs ds
  | .tx x _ => SOk x ∧ ds = signs x
theorem SrcOk.up {K : PySem.W.Frag} {G G' : Hp} {ds : List D} (e : Same G G') : ∀ {k : Src}, SrcOk K G ds k → SrcOk K G' ds k
  | .li a, ⟨vs, h, z, r⟩ => ⟨vs, e _ _ h, z, r.up e⟩
  | .tu a, ⟨vs, h, z, r⟩ => ⟨vs, e _ _ h, z, r.up e⟩
  | .tx _ _, h => h
theorem SrcOk.le {K : PySem.W.Frag} {G : Hp} {ds : List D} : ∀ {k : Src}, SrcOk K G ds k → ds.length ≤ sizeLine
  | .li a, ⟨vs, h, z, r⟩ => by rw [← r.len]; exact z
  | .tu a, ⟨vs, h, z, r⟩ => by rw [← r.len]; exact z
  | .tx x _, ⟨h, e⟩ => by rw [e, signs_len]; exact h.1
/-- a value that can be walked -/
theorem src_of {K : PySem.W.Frag} {G : Hp} {v : V} {u : Value} {d : D} {ds : List D} (h : DD K G v d) (r : RelV v u) (e : sqD d = some ds) : ∃ k, SrcOk K G ds k ∧
    (match k with | .li a => u = .ref a | .tu a => u = .ref a | .tx x t => u = .str x t) := by
  cases h with
  | lst g z q => cases e; cases r; exact ⟨.li _, ⟨_, g, z, q⟩, rfl⟩
  | tup g z q => cases e; cases r; exact ⟨.tu _, ⟨_, g, z, q⟩, rfl⟩
  | str x ok => cases e; obtain ⟨t, rfl⟩ := r; exact ⟨.tx x t, ⟨ok, rfl⟩, rfl⟩
  | _ => cases e
/-- how its iterator draws, in a state that keeps it -/
structure Drawn (X : Cx) (G : Hp) (H : Hp) (k : Src) (ds : List D) (it : Addr) where
  fp : List Addr
  P : Nat → Value → Prop
  St : Nat → Heap → Prop
  draws : Draws X.prog X.w X.A.in1 it fp ds.length P St
  mem : it ∈ fp
  old : ∀ b ∈ fp, b = it ∨ H b ≠ none
  item : ∀ i u, P i u → ∃ v d, ds[i]? = some d ∧ RelV v u ∧ DD X.K G v d
  back : ∀ i h, St i h → k.at it i h
theorem Src.drawn {X : Cx} {pins : List (Addr × Obj)} {σ : L2.St} {G H : Hp} {s : Shared} {k : Src} {ds : List D} {it : Addr} {i : Nat} (hh : X.A.handled = none) (I : Inv X pins σ H s) (e : Same G H) (ok : SrcOk X.K G ds k) (hn : H it = none) (st : k.at it i s.heap) :
    ∃ Z : Drawn X G H k ds it, Z.St i s.heap := by
  have hh1 : X.A.in1.handled = none := hh
  cases k with
  | li a =>
    obtain ⟨vs, g, z, q⟩ := ok
    have hne : a ≠ it := fun w => by rw [w] at g; rw [e _ _ g] at hn; cases hn
    obtain ⟨its, rv, p, _⟩ := I.list (SqL.of (e _ _ g))
    have hl : its.toArray.size = ds.length := by rw [List.size_toArray, ← rv.length, q.len]
    have D0 := Draws.list (prog := X.prog) (w := X.w) hh1 it a hne its.toArray
    rw [hl] at D0
    refine ⟨⟨_, _, _, D0, by simp, fun b hb => ?_, fun j u hj => ?_, fun j h hj => hj.1⟩, st, p.isList⟩
    · have hb' : b = it ∨ b = a := by simpa using hb
      rcases hb' with w | w
      · exact .inl w
      · rw [w]; exact .inr (by rw [e _ _ g]; exact fun z => nomatch z)
    · have hj : its[j]? = some u := by simpa using hj
      obtain ⟨v, e1, r1⟩ : ∃ v, vs[j]? = some v ∧ RelV v u := by
        have hlt : j < vs.length := by rw [rv.length]; exact (List.getElem?_eq_some_iff.mp hj).1
        obtain ⟨u', hu', ru'⟩ := rv.get (List.getElem?_eq_getElem hlt)
        rw [hj] at hu'; cases hu'
        exact ⟨_, List.getElem?_eq_getElem hlt, ru'⟩
      obtain ⟨d, e2, dd⟩ := q.getV e1
      exact ⟨v, d, e2, r1, dd⟩
  | tu a =>
    obtain ⟨vs, g, z, q⟩ := ok
    have hne : a ≠ it := fun w => by rw [w] at g; rw [e _ _ g] at hn; cases hn
    obtain ⟨its, rv, p, _⟩ := I.tuple (SqT.of (e _ _ g))
    have hl : its.toArray.size = ds.length := by rw [List.size_toArray, ← rv.length, q.len]
    have D0 := Draws.tuple (prog := X.prog) (w := X.w) hh1 it a hne its.toArray
    rw [hl] at D0
    refine ⟨⟨_, _, _, D0, by simp, fun b hb => ?_, fun j u hj => ?_, fun j h hj => hj.1⟩, st, p⟩
    · have hb' : b = it ∨ b = a := by simpa using hb
      rcases hb' with w | w
      · exact .inl w
      · rw [w]; exact .inr (by rw [e _ _ g]; exact fun z => nomatch z)
    · have hj : its[j]? = some u := by simpa using hj
      obtain ⟨v, e1, r1⟩ : ∃ v, vs[j]? = some v ∧ RelV v u := by
        have hlt : j < vs.length := by rw [rv.length]; exact (List.getElem?_eq_some_iff.mp hj).1
        obtain ⟨u', hu', ru'⟩ := rv.get (List.getElem?_eq_getElem hlt)
        rw [hj] at hu'; cases hu'
        exact ⟨_, List.getElem?_eq_getElem hlt, ru'⟩
      obtain ⟨d, e2, dd⟩ := q.getV e1
      exact ⟨v, d, e2, r1, dd⟩
  | tx x t =>
    obtain ⟨ok, rfl⟩ := ok
    have D0 := Draws.text (prog := X.prog) (w := X.w) hh1 it x t
    have hl : x.cps.size = (signs x).length := (signs_len x).symm
    rw [hl] at D0
    refine ⟨⟨_, _, _, D0, by simp, fun b hb => ?_, fun j u hj => ?_, fun j h hj => hj⟩, st⟩
    · exact .inl (by simpa using hb)
    · obtain ⟨c, t', hc, rfl⟩ := hj
      exact ⟨.str (sgn c), .str (sgn c), signs_get hc, ⟨t', rfl⟩, .str _ (sok_sgn ok (signs_mem hc))⟩

def ItZ (K : PySem.W.Frag) (G0 : Hp) (d1 d2 : List D) : It :=
  ⟨fun i H => Same G0 H ∧ i < min d1.length d2.length, fun i H v H' => ∃ T x y a b, v = .ref T ∧ H T = none ∧ H' = upd H T (.tup [x, y]) ∧ d1[i]? = some a ∧ DD K G0 x a ∧ d2[i]? = some b ∧ DD K G0 y b,
    fun i H => Same G0 H ∧ i = min d1.length d2.length⟩
structure Apart5 (z TI TO i1 i2 : Addr) : Prop where
  a1 : TI ≠ z
  a2 : TO ≠ z
  a3 : TI ≠ TO
  a4 : TI ≠ i1
  a5 : z ≠ i1
  a6 : TO ≠ i1
  a7 : TI ≠ i2
  a8 : z ≠ i2
  a9 : TO ≠ i2
  a10 : i1 ≠ i2
theorem turn_Z {P : Program} {w : World} {K : PySem.W.Frag} {elts : List Expr} {kk : Nat} {tpos : Pos} {z TI TO i1 i2 : Addr} {G0 : Hp} {k1 k2 : Src} {d1 d2 : List D} (D : Apart5 z TI TO i1 i2) (o1 : SrcOk K G0 d1 k1) (o2 : SrcOk K G0 d2 k2) :
    Turn P w K (.Tuple elts kk tpos) (ItZ K G0 d1 d2) [z, TI, TO, i1, i2] z (fun i h => IsZip h z TI TO .none ∧ IsTupOf2 h TI (.ref i1) (.ref i2) ∧ (∃ x y, IsTupOf2 h TO x y) ∧ k1.at i1 i h ∧ k2.at i2 i h) where
  mem := by simp
  obj := fun i h st c hc => by
    obtain ⟨hz, hTI, ⟨x, y, hTO⟩, h1, h2⟩ := st
    have e' : c = z ∨ c = TI ∨ c = TO ∨ c = i1 ∨ c = i2 := by simpa using hc
    rcases e' with q | q | q | q | q
    · rw [q]; exact ⟨_, hz, fun v q => nomatch q⟩
    · rw [q]; exact ⟨_, hTI, fun v q => nomatch q⟩
    · rw [q]; exact ⟨_, hTO, fun v q => nomatch q⟩
    · rw [q]; exact Src.live h1
    · rw [q]; exact Src.live h2
  keep := fun i h h' st k => by
    obtain ⟨hz, hTI, ⟨x, y, hTO⟩, h1, h2⟩ := st
    exact ⟨k z (by simp) _ hz, k TI (by simp) _ hTI, ⟨x, y, k TO (by simp) _ hTO⟩, Src.stay h1 fun o q => k i1 (by simp) o q, Src.stay h2 fun o q => k i2 (by simp) o q⟩
  item := by
    intro X hP hw hK hc i pins s σ H E I hf st hg
    subst hP hw hK
    obtain ⟨hz, hTI, hTO, h1, h2⟩ := st
    obtain ⟨sm, hi⟩ := hg
    have nz : ∀ b ∈ [z, TI, TO, i1, i2], H b = none := fun b hb => (hf b hb).1
    obtain ⟨Z1, st1⟩ := k1.drawn (I.ok.hd hc) I sm o1 (nz i1 (by simp)) h1
    obtain ⟨Z2, st2⟩ := k2.drawn (I.ok.hd hc) I sm o2 (nz i2 (by simp)) h2
    have nf : ∀ {b it : Addr} {fp : List Addr}, (∀ c ∈ fp, c = it ∨ H c ≠ none) → b ≠ it → H b = none → b ∉ fp := fun ho hne hb hm => by
      rcases ho _ hm with w | w
      · exact hne w
      · exact w hb
    have S : ZipSep2 z TI TO i1 i2 Z1.fp Z2.fp := ⟨D.a1, D.a2, D.a3, D.a4, Z1.mem, nf Z1.old D.a5 (nz z (by simp)), nf Z1.old D.a6 (nz TO (by simp)), D.a7, Z2.mem, nf Z2.old D.a8 (nz z (by simp)), nf Z2.old D.a9 (nz TO (by simp)),
      nf Z2.old D.a10 (nz i1 (by simp)), nf Z1.old D.a10.symm (nz i2 (by simp))⟩
    have W := GoesN.zip2 (elts := elts) (x1 := kk) (pos := tpos) S Z1.draws Z2.draws
    have new5 : ∀ c ∈ [z, TI, TO, i1, i2], c < s.heap.objs.size := fun c hcm => by
      obtain ⟨o, ho⟩ : ∃ o, s.heap.get? c = some o := by
        have e' : c = z ∨ c = TI ∨ c = TO ∨ c = i1 ∨ c = i2 := by simpa using hcm
        rcases e' with q | q | q | q | q
        · rw [q]; exact ⟨_, hz⟩
        · rw [q]; exact ⟨_, hTI⟩
        · obtain ⟨x, y, hTO⟩ := hTO; rw [q]; exact ⟨_, hTO⟩
        · rw [q]; obtain ⟨o, e, _⟩ := Src.live h1; exact ⟨o, e⟩
        · rw [q]; obtain ⟨o, e, _⟩ := Src.live h2; exact ⟨o, e⟩
      exact Heap.lt_size ho
    refine wpAny_mono (W.goes i s (fun v s2 => ∃ x H', Inv X pins σ H' s2 ∧ RelV x v ∧ (ItZ X.K G0 d1 d2).yld i H x H' ∧ (IsZip s2.heap z TI TO .none ∧ IsTupOf2 s2.heap TI (.ref i1) (.ref i2) ∧ (∃ x y, IsTupOf2 s2.heap TO x y) ∧ k1.at i1 (i + 1) s2.heap ∧ k2.at i2 (i + 1) s2.heap) ∧ ∀ b ∈ [z, TI, TO, i1, i2], H' b = none) E hi ⟨hz, hTI, hTO, st1, st2⟩ fun v h' tk hY st' hk htk => ?_) (fun r s1 q => q) fun _ _ q => q
    obtain ⟨T, x, y, rfl, hT, p1, p2, tup⟩ := hY
    obtain ⟨vx, dx, e1, r1, dd1⟩ := Z1.item i x p1
    obtain ⟨vy, dy, e2, r2, dd2⟩ := Z2.item i y p2
    obtain ⟨z', TI', TO', s1', s2'⟩ := st'
    have new : ObjOk X.prog X.w (upd H T (.tup [vx, vy])) h' T (.tup [vx, vy]) := ⟨by show 2 ≤ sizeLine; decide, [x, y], .cons r1 (.cons r2 .nil), tup⟩
    have I1 : Inv X pins σ (upd H T (.tup [vx, vy])) { s with heap := h', toks := tk } :=
      I.turnedNew (ch := [z, TI, TO, i1, i2]) (fun c o hb q => hk c o (fun hm => hb (by
        have e' : c = z ∨ c = TO ∨ c = i1 ∨ c = i2 := by simpa using hm
        rcases e' with q | q | q | q <;> rw [q] <;> simp)) q) hf hT new
    refine ⟨.ref T, _, I1, rfl, ⟨T, vx, vy, dx, dy, rfl, I.hok.fresh hT, rfl, e1, dd1, e2, dd2⟩, ⟨z', TI', TO', Z1.back _ _ s1', Z2.back _ _ s2'⟩, fun c hcm => ?_⟩
    rw [upd_ne (Nat.ne_of_lt (Nat.lt_of_lt_of_le (new5 c hcm) hT))]
    exact nz c hcm
  done := by
    intro X hP hw hK hc i pins s σ H E I hf st hg
    subst hP hw hK
    obtain ⟨hz, hTI, hTO, h1, h2⟩ := st
    obtain ⟨sm, hi⟩ := hg
    have nz : ∀ b ∈ [z, TI, TO, i1, i2], H b = none := fun b hb => (hf b hb).1
    obtain ⟨Z1, st1⟩ := k1.drawn (I.ok.hd hc) I sm o1 (nz i1 (by simp)) h1
    obtain ⟨Z2, st2⟩ := k2.drawn (I.ok.hd hc) I sm o2 (nz i2 (by simp)) h2
    have nf : ∀ {b it : Addr} {fp : List Addr}, (∀ c ∈ fp, c = it ∨ H c ≠ none) → b ≠ it → H b = none → b ∉ fp := fun ho hne hb hm => by
      rcases ho _ hm with w | w
      · exact hne w
      · exact w hb
    have S : ZipSep2 z TI TO i1 i2 Z1.fp Z2.fp := ⟨D.a1, D.a2, D.a3, D.a4, Z1.mem, nf Z1.old D.a5 (nz z (by simp)), nf Z1.old D.a6 (nz TO (by simp)), D.a7, Z2.mem, nf Z2.old D.a8 (nz z (by simp)), nf Z2.old D.a9 (nz TO (by simp)),
      nf Z2.old D.a10 (nz i1 (by simp)), nf Z1.old D.a10.symm (nz i2 (by simp))⟩
    have W := GoesN.zip2 (elts := elts) (x1 := kk) (pos := tpos) S Z1.draws Z2.draws
    subst hi
    refine W.stops s (fun s2 => Inv X pins σ H s2) E ⟨hz, hTI, hTO, st1, st2⟩ fun h' tk hk htk => ?_
    exact I.turnedL (ch := [z, TI, TO, i1, i2]) (fun c o hb q => hk c o (fun hm => hb (by
        have e' : c = z ∨ c = TO ∨ c = i1 ∨ c = i2 := by simpa using hm
        rcases e' with q | q | q | q <;> rw [q] <;> simp)) q) hf
  self := fun A i s Q E st h => wpAny_pyIter_zip st.1 h
theorem jd_Z {K : PySem.W.Frag} {G0 : Hp} {d1 d2 : List D} (hl : d1.length ≤ sizeLine) : JD K G0 (ItZ K G0 d1 d2) ((List.zip d1 d2).map fun p => .tup [p.1, p.2]) := by
  have en : ((List.zip d1 d2).map fun p => D.tup [p.1, p.2]).length = min d1.length d2.length := by rw [List.length_map, List.length_zip]
  refine ⟨by rw [en]; omega, fun G H s1 s2 => ⟨s1.trans s2, en⟩, fun G H i s1 s2 hi => ⟨s1.trans s2, by rw [en] at hi; exact hi⟩, fun G H i d x H' s1 s2 e y => ?_⟩
  obtain ⟨T, vx, vy, a, b, rfl, hT, rfl, e1, dd1, e2, dd2⟩ := y
  have ed : d = .tup [a, b] := by
    rw [List.getElem?_map, (List.getElem?_zip_eq_some (z := (a, b))).mpr ⟨e1, e2⟩] at e
    exact (Option.some.inj e).symm
  subst ed
  refine ⟨upd G T (.tup [vx, vy]), Al.one s2 hT, ?_⟩
  have sg : Same G0 (upd G T (.tup [vx, vy])) := s1.trans fun b u q => by rw [upd_ne (ne_of_none q (s2.free hT))]; exact q
  exact .tup upd_same (by show 2 ≤ sizeLine; decide) (.cons (dd1.up sg) (.cons (dd2.up sg) .nil))
/-- zip(a, b) -/
def iZ (fs : AF) : IF := fun E => (fs E).bind fun p => match p.1 with
  | [.dat a, .dat b] => (ofO (sqD a)).bind fun x => (ofO (sqD b)).bind fun y => .ok ((List.zip x y).map fun p => .tup [p.1, p.2], p.2)
  | _ => .stuck
theorem PoI.ofO {K : PySem.W.Frag} {Wi : Wish} {F : Fr} {G : Hp} {σ : L2.St} {R : It → Hp → Prop} {α : Type} {o : Option α} {g : α → Res (List D × Env)} (h : PoI K Wi F G σ R ((DL.ofO o).bind g)) : ∃ d, o = some d ∧ PoI K Wi F G σ R (g d) := by
  cases o with
  | none => exact h.elim
  | some d => exact ⟨d, rfl, h⟩
theorem PoI.up {K : PySem.W.Frag} {Wi : Wish} {F : Fr} {G G1 : Hp} {σ : L2.St} {R : It → Hp → Prop} {r : Res (List D × Env)} (e : Same G G1) (h : PoI K Wi F G σ R r) : PoI K Wi F G1 σ R r := by
  match r, h with
  | .ok (w, E'), h => exact fun J G' H' as' s => h J G' H' as' (e.trans s)
  | .err x E', h => exact fun c dx G' H' as' s => h c dx G' H' as' (e.trans s)
theorem PoA.bindI {K : PySem.W.Frag} {Wi : Wish} {F : Fr} {G : Hp} {σ : L2.St} {R : It → Hp → Prop} {r : Res (List W × Env)} {g : List W × Env → Res (List D × Env)} (h : PoI K Wi F G σ R (r.bind g)) :
    PoA K Wi F G σ (MidA K F G σ fun _ ws G1 _ E1 _ => PoI K Wi F G1 σ R (g (ws, E1))) r := by
  match r, h with
  | .ok (w, E'), h => exact fun v G' H' as' s st wo => ⟨w, G', E', as', s, st, wo, PoI.up s h⟩
  | .err x E', h => exact h
theorem Po.bindI {K : PySem.W.Frag} {Wi : Wish} {F : Fr} {G : Hp} {σ : L2.St} {R : It → Hp → Prop} {r : Res (W × Env)} {g : W × Env → Res (List D × Env)} (h : PoI K Wi F G σ R (r.bind g)) :
    Po K Wi F G σ (Mid K F G σ fun _ ws G1 _ E1 _ => PoI K Wi F G1 σ R (g (ws, E1))) r := by
  match r, h with
  | .ok (w, E'), h => exact fun v G' H' as' s st wo => ⟨w, G', E', as', s, st, wo, PoI.up s h⟩
  | .err x E', h => exact h
theorem begins_src {v : Value} {k : Src} (e : match k with | .li a => v = .ref a | .tu a => v = .ref a | .tx x t => v = .str x t) {X : Cx} {pins : List (Addr × Obj)} {σ : L2.St} {G H : Hp} {s : Shared} {ds : List D} (I : Inv X pins σ H s) (sm : Same G H) (ok : SrcOk X.K G ds k) :
    ∃ HB : Heap → Prop, Begins v k.obj HB ∧ HB s.heap := by
  cases k with
  | li a =>
    obtain ⟨vs, g, z, q⟩ := ok
    obtain ⟨its, rv, p, _⟩ := I.list (SqL.of (sm _ _ g))
    cases e
    exact ⟨_, begins_list a its.toArray, p.isList⟩
  | tu a =>
    obtain ⟨vs, g, z, q⟩ := ok
    obtain ⟨its, rv, p, _⟩ := I.tuple (SqT.of (sm _ _ g))
    cases e
    exact ⟨_, begins_tuple a its.toArray, p⟩
  | tx x t => cases e; exact ⟨_, begins_text x t, trivial⟩
theorem di_zip {X : Cx} {Wi : Wish} {e e2 : Expr} {fs : AF} {p pos tpos : Pos} {elts : List Expr} {kk : Nat} (hg : Gl X "zip") (hm : X.mg "zip" = none) (ha : DA X Wi [e, e2] fs)
    (hs : starEach [e, e2] X.env = (false, eval e X.env) :: starEach [e2] X.env := by rfl) (hpl : (backTo pos (starEach [e2] X.env)).any (·.1) = false := by rfl) :
    DI X Wi (.Tuple elts kk tpos) (.Call (.Name "zip" p) [e, e2] [] pos) (iZ fs) := by
  refine ⟨fun pins s σ H R I h => ?_⟩
  obtain ⟨F, G, E, as, st, pq⟩ := h
  refine Call_ (ld_blt I hg hm PyProof.Rows.boot_zip (PyProof.Rows.callWith_type1 (thn (ha.run pos pins s σ H _ I ⟨F, G, E, as, st, PoA.bindI pq⟩) fun us s1 ⟨vs, H1, I1, r1, q1⟩ => ?_) hs hpl))
  obtain ⟨ws, G1, E1, as1, sm1, st1, wo1, p1⟩ := q1
  match ws, p1 with
  | [.dat a, .dat b], p1 =>
    obtain ⟨d1, e1, p1⟩ := PoI.ofO p1
    obtain ⟨d2, e2', p1⟩ := PoI.ofO p1
    match vs, wo1 with
    | [x, y], wo1 =>
      cases r1 with
      | cons rx rr =>
        cases rr with
        | cons ry rr =>
          cases rr
          obtain ⟨k1, ok1, u1⟩ := src_of wo1.1 rx e1
          obtain ⟨k2, ok2, u2⟩ := src_of wo1.2.1 ry e2'
          obtain ⟨B1, b1, hb1⟩ := begins_src u1 I1 st1.s1 ok1
          obtain ⟨B2, b2, hb2⟩ := begins_src u2 I1 st1.s1 ok2
          refine zip_begins2 b1 b2 hb1 hb2 fun h' hz hTI hTO g1 g2 hsz hk => wpAny_pyIter_zip hz ?_
          have I2 : Inv X pins σ H1 { s1 with heap := h' } := I1.kept (t' := s1.toks) hk
          have D5 : Apart5 (s1.heap.objs.size + 4) (s1.heap.objs.size + 2) (s1.heap.objs.size + 3) s1.heap.objs.size (s1.heap.objs.size + 1) := by
            constructor <;> (intro q; have q' : (_ : Nat) = _ := q; omega)
          refine ⟨s1.heap.objs.size + 4, [s1.heap.objs.size + 4, s1.heap.objs.size + 2, s1.heap.objs.size + 3, s1.heap.objs.size, s1.heap.objs.size + 1], _, _, H1, rfl, I2, turn_Z D5 ok1 ok2, ⟨hz, hTI, ⟨_, _, hTO⟩, k1.new g1, k2.new g2⟩, fun c hcm => ?_, p1 _ G1 H1 as1 (Same.refl _) st1 (jd_Z ok1.le)⟩
          have e' : c = s1.heap.objs.size + 4 ∨ c = s1.heap.objs.size + 2 ∨ c = s1.heap.objs.size + 3 ∨ c = s1.heap.objs.size ∨ c = s1.heap.objs.size + 1 := by simpa using hcm
          have hle : s1.heap.objs.size ≤ c := by
            rcases e' with z | z | z | z | z
            · rw [z]; exact Nat.le_add_right _ _
            · rw [z]; exact Nat.le_add_right _ _
            · rw [z]; exact Nat.le_add_right _ _
            · rw [z]; exact Nat.le_refl _
            · rw [z]; exact Nat.le_add_right _ _
          exact I1.fpOk hle (I1.hok.fresh hle)
end DL
namespace DL
open PySem PySem.Spec PyProof.Rows L2 TL

section
variable {prog : Program} {w : World} {A : Around} {E : Value → Shared → Prop} {s : Shared}
end
section
variable {X : Cx} {Wi : Wish} {e : Expr} {fs : AF} {p pos tpos : Pos} {elts : List Expr} {kk : Nat}
end

/-- over data -/
def iSq (f : EF) : IF := fun E => (f E).bind fun p => (ofO (asDat p.1)).bind fun d => (ofO (sqD d)).bind fun ds => .ok (ds, p.2)
section
variable {X : Cx} {Wi : Wish} {tg e e2 : Expr} {f : EF} {fs : AF} {p pos : Pos}
theorem jd_l {K : PySem.W.Frag} {G0 : Hp} {a : Addr} {vs : List V} {ds : List D} (g : G0 a = some (.lst vs)) (z : vs.length ≤ sizeLine) (q : DDs K G0 vs ds) : JD K G0 (Itl K a) ds := by
  refine ⟨by rw [← q.len]; exact z, fun G H s1 s2 => ⟨vs, SqL.of (s2 _ _ (s1 _ _ g)), by rw [q.len]; exact Nat.le_refl _⟩, fun G H i s1 s2 hi => ?_, fun G H i d x H' s1 s2 e y => ?_⟩
  · have hlt : i < vs.length := by rw [q.len]; exact hi
    exact ⟨vs, vs[i], SqL.of (s2 _ _ (s1 _ _ g)), List.getElem?_eq_getElem hlt⟩
  · obtain ⟨rfl, y⟩ := y
    obtain ⟨v, e1, dd⟩ := q.get e
    have e2 := y vs (SqL.of (s2 _ _ (s1 _ _ g)))
    rw [e1] at e2; cases e2
    exact ⟨G, Al.refl s2, dd.up s1⟩
theorem jd_t {K : PySem.W.Frag} {G0 : Hp} {a : Addr} {vs : List V} {ds : List D} (g : G0 a = some (.tup vs)) (z : vs.length ≤ sizeLine) (q : DDs K G0 vs ds) : JD K G0 (Itt K a) ds := by
  refine ⟨by rw [← q.len]; exact z, fun G H s1 s2 => ⟨vs, SqT.of (s2 _ _ (s1 _ _ g)), by rw [q.len]; exact Nat.le_refl _⟩, fun G H i s1 s2 hi => ?_, fun G H i d x H' s1 s2 e y => ?_⟩
  · have hlt : i < vs.length := by rw [q.len]; exact hi
    exact ⟨vs, vs[i], SqT.of (s2 _ _ (s1 _ _ g)), List.getElem?_eq_getElem hlt⟩
  · obtain ⟨rfl, y⟩ := y
    obtain ⟨v, e1, dd⟩ := q.get e
    have e2 := y vs (SqT.of (s2 _ _ (s1 _ _ g)))
    rw [e1] at e2; cases e2
    exact ⟨G, Al.refl s2, dd.up s1⟩
theorem jd_x {K : PySem.W.Frag} {G0 : Hp} {x : Str} (ok : SOk x) : JD K G0 (Its x) (signs x) := by
  refine ⟨by rw [signs_len]; exact ok.1, fun G H s1 s2 => by rw [signs_len]; exact Nat.le_refl _, fun G H i s1 s2 hi => by rw [signs_len] at hi; exact hi, fun G H i d v H' s1 s2 e y => ?_⟩
  obtain ⟨rfl, c, hc, rfl⟩ := y
  rw [signs_get hc] at e; cases e
  exact ⟨G, Al.refl s2, .str _ (sok_sgn ok (signs_mem hc))⟩
theorem di_seq (he : DE X Wi e f) : DI X Wi tg e (iSq f) := by
  refine ⟨fun pins s σ H R I h => ?_⟩
  obtain ⟨F, G, E, as, st, pq⟩ := h
  have pq : PoI X.K Wi F G σ R ((f E).bind fun p => (ofO (asDat p.1)).bind fun d => (ofO (sqD d)).bind fun ds => .ok (ds, p.2)) := pq
  cases hf : f E with
  | stuck => rw [hf] at pq; exact pq.elim
  | err x E' =>
    rw [hf] at pq
    refine (pi_list he).run pins s σ H R I ⟨F, G, E, as, st, ?_⟩
    rw [hf]; exact pq
  | ok wE =>
    obtain ⟨w, E1⟩ := wE
    rw [hf] at pq
    cases w with
    | own i => exact pq.elim
    | dat d =>
      obtain ⟨ds, e1, pq⟩ := PoI.ofO (show PoI X.K Wi F G σ R ((ofO (sqD d)).bind fun ds => .ok (ds, E1)) from pq)
      cases d with
      | lst l =>
        cases e1
        refine (pi_list he).run pins s σ H R I ⟨F, G, E, as, st, ?_⟩
        rw [hf]
        intro v G' H' as' sm st' wo
        have wo : DD X.K G' v (.lst ds) := wo
        cases wo with
        | lst g z q => exact ⟨_, rfl, ⟨_, SqL.of (st'.s1 _ _ g)⟩, pq _ G' H' as' sm st' (jd_l g z q)⟩
      | tup l =>
        cases e1
        refine (pi_tup he).run pins s σ H R I ⟨F, G, E, as, st, ?_⟩
        rw [hf]
        intro v G' H' as' sm st' wo
        have wo : DD X.K G' v (.tup ds) := wo
        cases wo with
        | tup g z q => exact ⟨_, rfl, ⟨_, SqT.of (st'.s1 _ _ g)⟩, pq _ G' H' as' sm st' (jd_t g z q)⟩
      | str x =>
        cases e1
        refine (pi_str he).run pins s σ H R I ⟨F, G, E, as, st, ?_⟩
        rw [hf]
        intro v G' H' as' sm st' wo
        have wo : DD X.K G' v (.str x) := wo
        cases wo with
        | str _ ok => exact ⟨x, rfl, pq _ G' H' as' sm st' (jd_x ok)⟩
      | _ => cases e1
def rgD (lo : Int) (n : Nat) : List D := (List.range n).map fun i => .int (lo + (i : Nat))
theorem jd_r {K : PySem.W.Frag} {G0 : Hp} {lo : Int} {n : Nat} (h : n ≤ sizeLine) : JD K G0 (Itr lo n) (rgD lo n) := by
  have en : (rgD lo n).length = n := by unfold rgD; rw [List.length_map, List.length_range]
  refine ⟨by rw [en]; exact h, fun G H s1 s2 => by rw [en]; exact Nat.le_refl _, fun G H i s1 s2 hi => by rw [en] at hi; exact hi, fun G H i d v H' s1 s2 e y => ?_⟩
  obtain ⟨rfl, rfl⟩ := y
  unfold rgD at e
  rw [List.getElem?_map] at e
  cases q : (List.range n)[i]? with
  | none => rw [q] at e; cases e
  | some j =>
    have ej : j = i := by
      have := List.getElem?_range (i := i) (n := n) (by have := (List.getElem?_eq_some_iff.mp q).1; rw [List.length_range] at this; exact this)
      rw [this] at q; exact (Option.some.inj q).symm
    rw [q, ej] at e; cases e
    exact ⟨G, Al.refl s2, .int _⟩
def iR1 (fs : AF) : IF := fun E => (fs E).bind fun p => match p.1 with
  | [.dat (.int j)] => if j ≤ 16777216 ∧ -(2 ^ 62) ≤ j then .ok (rgD 0 j.toNat, p.2) else .stuck
  | _ => .stuck
theorem di_range1 (hg : Gl X "range") (hm : X.mg "range" = none) (ha : DA X Wi [e] fs) (hs : starEach [e] X.env = [(false, eval e X.env)] := by rfl) : DI X Wi tg (.Call (.Name "range" p) [e] [] pos) (iR1 fs) :=
  PI.imp (pi_range1 hg hm ha hs) fun σ H Q q => by
    obtain ⟨F, G, E, as, st, pq⟩ := q
    refine ⟨F, G, E, as, st, PoA.mono (fun vs H1 m => ?_) (PoA.bindI pq)⟩
    obtain ⟨ws, G1, E1, as1, s1, st1, wo1, p1⟩ := m
    match ws, p1 with
    | [.dat (.int j)], p1 =>
      have p1 : PoI X.K Wi F G1 σ Q (if j ≤ 16777216 ∧ -(2 ^ 62) ≤ j then .ok (rgD 0 j.toNat, E1) else .stuck) := p1
      by_cases hj : j ≤ 16777216 ∧ -(2 ^ 62) ≤ j
      · rw [if_pos hj] at p1
        match vs, wo1 with
        | [v], wo1 =>
          have w1 : DD X.K G1 v (.int j) := wo1.1
          cases w1
          exact ⟨j, rfl, hj.2, by omega, p1 _ G1 H1 as1 (Same.refl _) st1 (jd_r (by rw [sizeLine_eq]; omega))⟩
      · rw [if_neg hj] at p1; exact p1.elim
end
end DL
namespace DL
open PySem PySem.Spec PyProof.Rows L2 TL

section
variable {κ : Type} [DecidableEq κ]
def lkM (l : List (κ × D)) (k : κ) : Option D := (l.find? fun kv => decide (kv.1 = k)).map (·.2)
def putM (l : List (κ × D)) (k : κ) (d : D) : List (κ × D) := if (l.any fun kv => decide (kv.1 = k)) = true then l.map (fun kv => if kv.1 = k then (kv.1, d) else kv) else l ++ [(k, d)]
end
def keyO : D → Option Key
  | .int i => some (.inl i)
  | .str x => some (.inr x)
  | _ => none
def keysO : List D → Option (List Key)
  | [] => some []
  | d :: r => (keyO d).bind fun k => (keysO r).map (k :: ·)
section
variable {K : PySem.W.Frag} {G H : Hp}
theorem keyO_ok {v : V} {d : D} {k : Key} (h : DD K G v d) (e : keyO d = some k) : v = kV k ∧ KOk k := by
  cases h with
  | int i => cases e; exact ⟨rfl, trivial⟩
  | str x ok => cases e; exact ⟨rfl, ok⟩
  | _ => cases e
theorem keyB_ok {v : V} {d : D} {k : Key} (h : BD K G H v d) (e : keyO d = some k) : v = kV k ∧ KOk k := by
  cases h with
  | dat h => exact keyO_ok h e
  | own _ o => cases d <;> first | cases e; done | exact o.elim
theorem keysO_ok : ∀ {vs : List V} {ds : List D} {ks : List Key}, DDs K G vs ds → keysO ds = some ks → vs = ks.map kV ∧ ∀ x ∈ ks, KOk x
  | [], [], _, _, e => by cases e; exact ⟨rfl, fun _ h => (by cases h)⟩
  | v :: vs, d :: ds, ks, .cons a r, e => by
    have e : ((keyO d).bind fun k => (keysO ds).map (k :: ·)) = some ks := e
    cases q : keyO d with
    | none => rw [q] at e; cases e
    | some k =>
      rw [q] at e
      have e : (keysO ds).map (k :: ·) = some ks := e
      cases q2 : keysO ds with
      | none => rw [q2] at e; cases e
      | some r' =>
        rw [q2] at e; cases e
        obtain ⟨h1, h2⟩ := keyO_ok a q
        obtain ⟨h3, h4⟩ := keysO_ok r q2
        refine ⟨by rw [h1, h3]; rfl, fun x hx => ?_⟩
        rcases List.mem_cons.mp hx with z | z
        · rw [z]; exact h2
        · exact h4 x z
theorem DKs.look : ∀ {kv : List (Key × V)} {kd : List (Key × D)} (k : Key), DKs K G kv kd → (∀ d, lkM kd k = some d → ∃ v, valV kv k = some v ∧ DD K G v d) ∧ (lkM kd k = none → valV kv k = none)
  | _, _, _, .nil => ⟨fun _ h => (by cases h), fun _ => rfl⟩
  | _, _, k, .cons (k := j) c a b => by
    by_cases h : j = k
    · subst h
      unfold lkM valV
      rw [List.find?_cons_of_pos (by simp), List.find?_cons_of_pos (by simp)]
      exact ⟨fun d e => ⟨_, rfl, by cases e; exact a⟩, fun e => by cases e⟩
    · have ih := DKs.look k b
      unfold lkM valV at ih ⊢
      rw [List.find?_cons_of_neg (by simpa using h), List.find?_cons_of_neg (by simpa using h)]
      exact ih
theorem DTs.look : ∀ {kv : List (List Key × V)} {kd : List (List Key × D)} (k : List Key), DTs K G kv kd → (∀ d, lkM kd k = some d → ∃ v, valV kv k = some v ∧ DD K G v d) ∧ (lkM kd k = none → valV kv k = none)
  | _, _, _, .nil => ⟨fun _ h => (by cases h), fun _ => rfl⟩
  | _, _, k, .cons (k := j) c a b => by
    by_cases h : j = k
    · subst h
      unfold lkM valV
      rw [List.find?_cons_of_pos (by simp), List.find?_cons_of_pos (by simp)]
      exact ⟨fun d e => ⟨_, rfl, by cases e; exact a⟩, fun e => by cases e⟩
    · have ih := DTs.look k b
      unfold lkM valV at ih ⊢
      rw [List.find?_cons_of_neg (by simpa using h), List.find?_cons_of_neg (by simpa using h)]
      exact ih
theorem DKs.any (k : Key) : ∀ {kv : List (Key × V)} {kd : List (Key × D)}, DKs K G kv kd → (kv.any fun x => decide (x.1 = k)) = (kd.any fun x => decide (x.1 = k))
  | _, _, .nil => rfl
  | _, _, .cons _ _ b => by rw [List.any_cons, List.any_cons, DKs.any k b]
theorem DTs.any (k : List Key) : ∀ {kv : List (List Key × V)} {kd : List (List Key × D)}, DTs K G kv kd → (kv.any fun x => decide (x.1 = k)) = (kd.any fun x => decide (x.1 = k))
  | _, _, .nil => rfl
  | _, _, .cons _ _ b => by rw [List.any_cons, List.any_cons, DTs.any k b]
theorem DKs.over (k : Key) {v : V} {d : D} (h : DD K G v d) : ∀ {kv : List (Key × V)} {kd : List (Key × D)}, DKs K G kv kd → DKs K G (kv.map fun x => if x.1 = k then (x.1, v) else x) (kd.map fun x => if x.1 = k then (x.1, d) else x)
  | _, _, .nil => .nil
  | _, _, .cons (k := j) c a b => by
    rw [List.map_cons, List.map_cons]
    by_cases e : j = k
    · rw [if_pos e, if_pos e]; exact .cons c h (DKs.over k h b)
    · rw [if_neg e, if_neg e]; exact .cons c a (DKs.over k h b)
theorem DTs.over (k : List Key) {v : V} {d : D} (h : DD K G v d) : ∀ {kv : List (List Key × V)} {kd : List (List Key × D)}, DTs K G kv kd → DTs K G (kv.map fun x => if x.1 = k then (x.1, v) else x) (kd.map fun x => if x.1 = k then (x.1, d) else x)
  | _, _, .nil => .nil
  | _, _, .cons (k := j) c a b => by
    rw [List.map_cons, List.map_cons]
    by_cases e : j = k
    · rw [if_pos e, if_pos e]; exact .cons c h (DTs.over k h b)
    · rw [if_neg e, if_neg e]; exact .cons c a (DTs.over k h b)
theorem DKs.app : ∀ {kv kw : List (Key × V)} {kd ke : List (Key × D)}, DKs K G kv kd → DKs K G kw ke → DKs K G (kv ++ kw) (kd ++ ke)
  | _, _, _, _, .nil, h => h
  | _, _, _, _, .cons c a b, h => .cons c a (DKs.app b h)
theorem DTs.app : ∀ {kv kw : List (List Key × V)} {kd ke : List (List Key × D)}, DTs K G kv kd → DTs K G kw ke → DTs K G (kv ++ kw) (kd ++ ke)
  | _, _, _, _, .nil, h => h
  | _, _, _, _, .cons c a b, h => .cons c a (DTs.app b h)
theorem DKs.put {kv : List (Key × V)} {kd : List (Key × D)} {k : Key} {v : V} {d : D} (hk : KOk k) (h : DD K G v d) (r : DKs K G kv kd) : DKs K G (putK kv k v) (putM kd k d) := by
  unfold putK putM
  rw [DKs.any k r]
  split
  · exact DKs.over k h r
  · exact DKs.app r (.cons hk h .nil)
theorem DTs.put {kv : List (List Key × V)} {kd : List (List Key × D)} {k : List Key} {v : V} {d : D} (hk : KsOk k) (h : DD K G v d) (r : DTs K G kv kd) : DTs K G (putK kv k v) (putM kd k d) := by
  unfold putK putM
  rw [DTs.any k r]
  split
  · exact DTs.over k h r
  · exact DTs.app r (.cons hk h .nil)
end
/-- d[k] -/
def gGet : D → D → Option D
  | .dic kd, y => (keyO y).bind fun k => lkM kd k
  | .dit kd, .tup ds => (keysO ds).bind fun k => lkM kd k
  | _, _ => none
theorem opd_get {K : PySem.W.Frag} : OpD K (fun x y H Q => ∃ a v, x = .ref a ∧ DGet H a y (some v) ∧ Q v H) gGet := by
  intro G H x y a b d Q s ha hb e z
  cases a with
  | dic kd =>
    obtain ⟨p, kv, rfl, h1, r⟩ := ha.dic s
    have e : ((keyO b).bind fun k => lkM kd k) = some d := by cases b <;> exact e
    cases q : keyO b with
    | none => rw [q] at e; cases e
    | some k =>
      rw [q] at e
      obtain ⟨rfl, _⟩ := keyB_ok hb q
      obtain ⟨v, e1, dd⟩ := (DKs.look k r).1 d e
      exact ⟨p, v, rfl, .inl ⟨kv, k, .inl h1, rfl, e1.symm⟩, z _ _ _ (Al.refl s) dd⟩
  | dit kd =>
    obtain ⟨p, kv, rfl, h1, r⟩ := ha.dit s
    cases b with
    | tup ds =>
      have e : ((keysO ds).bind fun k => lkM kd k) = some d := e
      cases q : keysO ds with
      | none => rw [q] at e; cases e
      | some k =>
        rw [q] at e
        obtain ⟨w, vs, rfl, h2, _, dd2, _⟩ := hb.tup s
        obtain ⟨e2, _⟩ := keysO_ok dd2 q
        rw [e2] at h2
        obtain ⟨v, e1, dd⟩ := (DTs.look k r).1 d e
        exact ⟨p, v, rfl, .inr ⟨kv, k, w, .inl h1, rfl, h2, e1.symm⟩, z _ _ _ (Al.refl s) dd⟩
    | _ => cases e
  | _ => cases b <;> cases e
/-- k in d -/
def gHas (neg : Bool) : D → D → Option D
  | y, .dic kd => (keyO y).map fun k => .bl (if neg then !(lkM kd k).isSome else (lkM kd k).isSome)
  | .tup ds, .dit kd => (keysO ds).map fun k => .bl (if neg then !(lkM kd k).isSome else (lkM kd k).isSome)
  | _, _ => none
theorem opd_has {K : PySem.W.Frag} {neg : Bool} : OpD K (fun y x H Q => ∃ a o, x = .ref a ∧ DGet H a y o ∧ Q (.bl (if neg then !o.isSome else o.isSome)) H) (gHas neg) := by
  intro G H y x b a d Q s hb ha e z
  cases a with
  | dic kd =>
    obtain ⟨p, kv, rfl, h1, r⟩ := ha.dic s
    have e : ((keyO b).map fun k => D.bl (if neg then !(lkM kd k).isSome else (lkM kd k).isSome)) = some d := by cases b <;> exact e
    cases q : keyO b with
    | none => rw [q] at e; cases e
    | some k =>
      rw [q] at e; cases e
      obtain ⟨rfl, _⟩ := keyB_ok hb q
      have l := DKs.look k r
      have eo : (valV kv k).isSome = (lkM kd k).isSome := by
        cases q2 : lkM kd k with
        | none => rw [l.2 q2]; rfl
        | some d => obtain ⟨v, e1, _⟩ := l.1 d q2; rw [e1]; rfl
      refine ⟨p, valV kv k, rfl, .inl ⟨kv, k, .inl h1, rfl, rfl⟩, ?_⟩
      rw [eo]
      exact z _ _ _ (Al.refl s) (.bl _)
  | dit kd =>
    obtain ⟨p, kv, rfl, h1, r⟩ := ha.dit s
    cases b with
    | tup ds =>
      have e : ((keysO ds).map fun k => D.bl (if neg then !(lkM kd k).isSome else (lkM kd k).isSome)) = some d := e
      cases q : keysO ds with
      | none => rw [q] at e; cases e
      | some k =>
        rw [q] at e; cases e
        obtain ⟨w, vs, rfl, h2, _, dd2, _⟩ := hb.tup s
        obtain ⟨e2, _⟩ := keysO_ok dd2 q
        rw [e2] at h2
        have l := DTs.look k r
        have eo : (valV kv k).isSome = (lkM kd k).isSome := by
          cases q2 : lkM kd k with
          | none => rw [l.2 q2]; rfl
          | some d => obtain ⟨v, e1, _⟩ := l.1 d q2; rw [e1]; rfl
        refine ⟨p, valV kv k, rfl, .inr ⟨kv, k, w, .inl h1, rfl, h2, rfl⟩, ?_⟩
        rw [eo]
        exact z _ _ _ (Al.refl s) (.bl _)
    | _ => cases e
  | _ => cases b <;> cases e
section
variable {X : Cx} {Wi : Wish} {o i e value : Expr} {fo fi fv : EF} {pos pos' : Pos}
theorem de_dget (hu : X.A.units + 1 < cLine) (ho : DE X Wi o fo) (hi : DE X Wi i fi) (hs : NoSl i := by intro _ _; rfl) : DE X Wi (.Subscript o i pos) (eOp gGet fo fi) := PE.imp (pe_dget hu ho hi hs) (tOp_of opd_get)

theorem BD.obj {K : PySem.W.Frag} {G H : Hp} {v : V} (s : Same G H) {C : Addr} {fd : List (Str × D)} (h : BD K G H v (.obj C fd)) : ∃ a dx vf, v = .ref a ∧ H a = some (.ins C dx vf) ∧ DFs K G vf fd := by
  cases h with
  | dat dd => cases dd with | obj g r => exact ⟨_, _, _, rfl, s _ _ g, r⟩
  | own ev o => obtain ⟨dx, vf, e1, r⟩ := o; exact ⟨_, dx, vf, ev, e1, r⟩

theorem StE.ownA {K : PySem.W.Frag} {F : Fr} {G H : Hp} {σ : L2.St} {E : Env} {as : Nat → List Addr} {i : Nat} {d : D} {v : V} (st : StE K F G H σ E as) (e : E[i]? = some (.own d)) (hv : σ[i]? = some (some v)) : ∃ a, v = .ref a ∧ a ∈ as i ∧ OwnAt K G H a d := by
  obtain ⟨u, e1, a, x1, x2, x3⟩ := st.cell i _ e
  rw [hv] at e1; cases e1; cases x2
  exact ⟨a, rfl, by rw [x1]; exact List.mem_singleton.mpr rfl, x3⟩
def ownL (E : Env) (i : Nat) : Option (List D) := match E[i]? with
  | some (.own (.lst ds)) => some ds
  | _ => none
theorem ownL_ok {E : Env} {i : Nat} {ds : List D} (h : ownL E i = some ds) : E[i]? = some (.own (.lst ds)) := by
  unfold ownL at h
  split at h
  · rename_i l e; cases h; exact e
  · cases h
/-- what a method of a list does with it: the answer, what it is then -/
def OwnM (K : PySem.W.Frag) (r : V → List V → Hp → VK → Prop) (g : List D → List D → Option (D × List D)) : Prop :=
  ∀ (G H : Hp) (a : Addr) (vs xs : List V) (ds es l : List D) (d : D) (Q : VK), Same G H → H a = some (.lst vs) → G a = none → vs.length ≤ sizeLine → DDs K G vs ds → DDs K G xs es → g ds es = some (d, l) →
    (∀ v ws, DD K G v d → ws.length ≤ sizeLine → DDs K G ws l → Q v (upd H a (.lst ws))) → r (.ref a) xs H Q
/-- x.m(..), x the own list of slot i -/
def eOM (i : Nat) (g : List D → List D → Option (D × List D)) (fs : AF) : EF := fun E => (ofO (ownL E i)).bind fun _ => (fs E).bind fun p => (ofO (dats p.1)).bind fun es => (ofO (ownL p.2 i)).bind fun ds => (ofO (g ds es)).bind fun r => .ok (.dat r.1, p.2.set i (.own (.lst r.2)))
theorem tBM_own {i : Nat} {r : V → List V → Hp → VK → Prop} {g : List D → List D → Option (D × List D)} {fs : AF} (hg : OwnM X.K r g) : ∀ σ H Q, tE X.K Wi (eOM i g fs) σ H Q → tBM X.K "list" r (tVar i) (tA X.K Wi fs) σ H Q := by
  intro σ H Q q
  obtain ⟨F, G, E, as, st, p⟩ := q
  obtain ⟨d0, e0, p⟩ := Po.of p
  have e0 := ownL_ok e0
  obtain ⟨v, hv, a, xa, xv, xo⟩ := st.cell i _ e0
  subst xv
  obtain ⟨vs0, hl0, _⟩ := xo
  refine ⟨_, hv, .inl ⟨rfl, _, SqL.of hl0⟩, F, G, E, as, st, PoA.mono (fun vs H1 m => ?_) (PoA.bind p)⟩
  obtain ⟨ws, G1, E1, as1, s1, st1, wo1, p1⟩ := m
  obtain ⟨es, e1, p1⟩ := Po.of p1
  obtain ⟨ds, e2, p1⟩ := Po.of p1
  obtain ⟨⟨d, l⟩, e3, p1⟩ := Po.of p1
  have e2 := ownL_ok e2
  obtain ⟨a', ea, ma, xo⟩ := st1.ownA e2 hv
  cases ea
  obtain ⟨vs1, hl1, z1, dd1⟩ := xo
  refine hg G1 H1 a vs1 vs ds es l d Q st1.s1 hl1 (st1.off i a ma).1 z1 dd1 (dats_ok wo1 e1) e3 fun v ws dv hz dw => ?_
  exact p1 v G1 _ as1 (Same.refl _) (st1.write e2 ma ⟨ws, upd_same, hz, dw⟩) dv
theorem de_om {name : Str} {id : String} {i : Nat} {r : V → List V → Hp → VK → Prop} {g : List D → List D → Option (D × List D)} {fs : AF} {es : List Expr} {apos cpos : Pos} (slot : Slot "list" name id) (hty : typeOf (.builtin id) = pure (.type "method_descriptor")) (hm : MtR X id r) (hg : OwnM X.K r g) (hv : PE X o (tVar i)) (ha : DA X Wi (e :: es) fs)
    (hbase : attributeBase o name X.env (eval o X.env) = eval o X.env := by rfl)
    (hfew : ((backTo cpos (starEach (e :: es) X.env)).all (fun x => !x.1) && (backToKw cpos (keywordEach [] X.env)).all (fun x => x.1.isSome)
      && decide ((e :: es).length + ([] : List Keyword).length + (if ([] : List Keyword).isEmpty then 0 else 1) < 30)) = true := by rfl)
    (hline : (apos.endLine == cpos.line) = true := by rfl) (hs : starEach (e :: es) X.env = (false, eval e X.env) :: starEach es X.env := by rfl) (hpl : (backTo cpos (starEach es X.env)).any (·.1) = false := by rfl) :
    DE X Wi (.Call (.Attribute o name apos) (e :: es) [] cpos) (eOM i g fs) :=
  PE.imp (pe_bm PySem.F.plainAttrs_list slot hty hm hv ha hbase hfew hline hs hpl) (tBM_own hg)
def gApp (ds es : List D) : Option (D × List D) := match es with
  | [y] => if ds.length < 16777216 then some (.non, ds ++ [y]) else none
  | _ => none
theorem own_app {K : PySem.W.Frag} : OwnM K rAppend gApp := by
  intro G H a vs xs ds es l d Q s hl ga z dd de e k
  match es, e with
  | [y], e =>
    have e : (if ds.length < 16777216 then some (D.non, ds ++ [y]) else none) = some (d, l) := e
    by_cases h : ds.length < 16777216
    · rw [if_pos h] at e; cases e
      cases de with
      | cons a1 b1 =>
        cases b1
        have hv : vs.length < sizeLine := by rw [dd.len, sizeLine_eq]; exact h
        refine ⟨a, vs, _, rfl, rfl, hl, hv, k _ _ .non ?_ (dd.app (.one a1))⟩
        rw [List.length_append, List.length_singleton]; omega
    · rw [if_neg h] at e; cases e
end
end DL
namespace DL
open PySem PySem.Spec PyProof.Rows L2 TL

inductive EN where
  | e (f : EF) | n (f : NF)
def evN : List EN → Env → Res (List (Bool × D) × Env)
  | [], E => .ok ([], E)
  | .e f :: r, E => (f E).bind fun p => (ofO (asDat p.1)).bind fun d => (evN r p.2).bind fun q => .ok ((false, d) :: q.1, q.2)
  | .n f :: r, E => (f E).bind fun p => (evN r p.2).bind fun q => .ok ((true, p.1) :: q.1, q.2)
inductive NWs (K : PySem.W.Frag) (F : Fr) (G H : Hp) (as : Nat → List Addr) : List V → List (Bool × D) → List Addr → Prop
  | nil : NWs K F G H as [] [] []
  | da {v : V} {d : D} {vs : List V} {ds : List (Bool × D)} {ps : List Addr} : DD K G v d → NWs K F G H as vs ds ps → NWs K F G H as (v :: vs) ((false, d) :: ds) ps
  | nw {p : Addr} {d : D} {vs : List V} {ds : List (Bool × D)} {ps : List Addr} : G p = none → F.H0 p = none → (∀ j, p ∉ as j) → OwnAt K G H p d → p ∉ ps → NWs K F G H as vs ds ps → NWs K F G H as (.ref p :: vs) ((true, d) :: ds) (p :: ps)
def PoW (K : PySem.W.Frag) (Wi : Wish) (F : Fr) (G : Hp) (σ : L2.St) (Q : List V → Hp → Prop) : Res (List (Bool × D) × Env) → Prop
  | .ok (ds, E') => ∀ vs ps G' H' as', Same G G' → StE K F G' H' σ E' as' → NWs K F G' H' as' vs ds ps → Q vs H'
  | .err x E' => ∀ c dx G' H' as', Same G G' → StE K F G' H' σ E' as' → ExOk K G' x c dx → Wi σ c dx H'
  | .stuck => False
def tW (K : PySem.W.Frag) (Wi : Wish) (l : List EN) : TA := fun σ H Q => ∃ F G E as, StE K F G H σ E as ∧ PoW K Wi F G σ Q (evN l E)
abbrev DWs (X : Cx) (Wi : Wish) (es : List Expr) (l : List EN) : Prop := PA X es (tW X.K Wi l)
section
variable {K : PySem.W.Frag} {Wi : Wish} {F : Fr} {G G1 H : Hp} {σ : L2.St} {E : Env} {as : Nat → List Addr} {Q : List V → Hp → Prop}
theorem NWs.len : ∀ {vs : List V} {ds : List (Bool × D)} {ps : List Addr}, NWs K F G H as vs ds ps → vs.length = ds.length
  | _, _, _, .nil => rfl
  | _, _, _, .da _ r => congrArg Nat.succ (NWs.len r)
  | _, _, _, .nw _ _ _ _ _ r => congrArg Nat.succ (NWs.len r)
theorem NWs.notIn {p : Addr} (h : F.H0 p ≠ none) : ∀ {vs : List V} {ds : List (Bool × D)} {ps : List Addr}, NWs K F G H as vs ds ps → p ∉ ps
  | _, _, _, .nil => fun z => by cases z
  | _, _, _, .da _ r => NWs.notIn h r
  | _, _, _, .nw _ f _ _ _ r => fun z => by
    rcases List.mem_cons.mp z with z | z
    · rw [z] at h; exact h f
    · exact NWs.notIn h r z
theorem NWs.frame {F' : Fr} (h : ∀ p, F.H0 p = none → F'.H0 p = none) : ∀ {vs : List V} {ds : List (Bool × D)} {ps : List Addr}, NWs K F G H as vs ds ps → NWs K F' G H as vs ds ps
  | _, _, _, .nil => .nil
  | _, _, _, .da a r => .da a (NWs.frame h r)
  | _, _, _, .nw a f b c d r => .nw a (h _ f) b c d (NWs.frame h r)
theorem NWs.moved {as' : Nat → List Addr} : ∀ {vs : List V} {ds : List (Bool × D)} {ps : List Addr}, (∀ p ∈ ps, (∀ j, p ∉ as j) → ∀ j, p ∉ as' j) → NWs K F G H as vs ds ps → NWs K F G H as' vs ds ps
  | _, _, _, _, .nil => .nil
  | _, _, _, h, .da a r => .da a (NWs.moved h r)
  | _, _, _, h, .nw a f b c d r => .nw a f (h _ List.mem_cons_self b) c d (NWs.moved (fun p hp => h p (List.mem_cons_of_mem _ hp)) r)
theorem PoW.up {r : Res (List (Bool × D) × Env)} (e : Same G G1) (h : PoW K Wi F G σ Q r) : PoW K Wi F G1 σ Q r := by
  match r, h with
  | .ok (w, E'), h => exact fun v ps G' H' as' s => h v ps G' H' as' (e.trans s)
  | .err x E', h => exact fun c dx G' H' as' s => h c dx G' H' as' (e.trans s)
theorem Po.bindW {r : Res (W × Env)} {g : W × Env → Res (List (Bool × D) × Env)} (h : PoW K Wi F G σ Q (r.bind g)) :
    Po K Wi F G σ (Mid K F G σ fun _ w G1 _ E1 _ => PoW K Wi F G1 σ Q (g (w, E1))) r := by
  match r, h with
  | .ok (w, E'), h => exact fun v G' H' as' s st wo => ⟨w, G', E', as', s, st, wo, PoW.up s h⟩
  | .err x E', h => exact h
theorem PoW.of {α : Type} {o : Option α} {g : α → Res (List (Bool × D) × Env)} (h : PoW K Wi F G σ Q ((ofO o).bind g)) : ∃ d, o = some d ∧ PoW K Wi F G σ Q (g d) := by
  cases o with
  | none => exact h.elim
  | some d => exact ⟨d, rfl, h⟩
end
section
variable {X : Cx} {Wi : Wish} {a : Expr} {es : List Expr} {f : EF} {fn : NF} {l : List EN}
theorem dws_nil : DWs X Wi [] [] := PA.imp pa_nil fun σ H Q q => by
  obtain ⟨F, G, E, as, st, p⟩ := q
  exact p [] [] G H as (Same.refl _) st .nil
theorem dws_e (ha : DE X Wi a f) (hr : DWs X Wi es l) (hs : starEach (a :: es) X.env = (false, eval a X.env) :: starEach es X.env := by rfl) : DWs X Wi (a :: es) (.e f :: l) :=
  PA.imp (pa_cons ha hr hs) fun σ H Q q => by
    obtain ⟨F, G, E, as, st, p⟩ := q
    refine ⟨F, G, E, as, st, Po.mono (fun x H1 m => ?_) (Po.bindW p)⟩
    obtain ⟨w1, G1, E1, as1, s1, st1, wo1, p1⟩ := m
    obtain ⟨d, e1, p1⟩ := PoW.of p1
    cases w1 with
    | own _ => cases e1
    | dat d' =>
      cases e1
      have dd : DD X.K G1 x d := wo1
      refine ⟨F, G1, E1, as1, st1, ?_⟩
      have p1 : PoW X.K Wi F G1 σ Q ((evN l E1).bind fun q => .ok ((false, d) :: q.1, q.2)) := p1
      generalize evN l E1 = r at p1 ⊢
      match r, p1 with
      | .ok (ds, E2), p1 => exact fun vs ps G2 H2 as2 s2 st2 nw => p1 (x :: vs) ps G2 H2 as2 s2 st2 (.da (dd.up s2) nw)
      | .err y E2, p1 => exact p1
theorem PoN.match {K : PySem.W.Frag} {F : Fr} {G : Hp} {σ : L2.St} {Q : List V → Hp → Prop} {r : Res (D × Env)} {g : D × Env → Res (List (Bool × D) × Env)} (h : PoW K Wi F G σ Q (r.bind g)) :
    PoN K Wi F G σ (fun v H1 => ∃ p d G1 E1 as1, v = .ref p ∧ Same G G1 ∧ StE K F G1 H1 σ E1 as1 ∧ G1 p = none ∧ F.H0 p = none ∧ (∀ j, p ∉ as1 j) ∧ OwnAt K G1 H1 p d ∧ PoW K Wi F G1 σ Q (g (d, E1))) r := by
  match r, h with
  | .ok (w, E'), h => exact fun p G' H' as' s st gp fp np o => ⟨p, w, G', E', as', rfl, s, st, gp, fp, np, o, PoW.up s h⟩
  | .err x E', h => exact h
theorem PoN.mono {K : PySem.W.Frag} {F : Fr} {G : Hp} {σ : L2.St} {Q Q' : VK} (i : ∀ v H, Q v H → Q' v H) : ∀ {r : Res (D × Env)}, PoN K Wi F G σ Q r → PoN K Wi F G σ Q' r
  | .ok (_, _), h => fun p G' H' as' s st gp fp np o => i _ _ (h p G' H' as' s st gp fp np o)
  | .err _ _, h => h
/-- a new object of the outer frame stays through what an inner frame does -/
theorem StE.stays {K : PySem.W.Frag} {F : Fr} {G H G2 H2 : Hp} {as as2 : Nat → List Addr} {σ2 : L2.St} {E2 : Env} {n : Nat} {p : Addr} {d : D} (gp : G p = none) (np : ∀ j, p ∉ as j) (o : OwnAt K G H p d) (s2 : Same G G2) (st2 : StE K (inner F G H as n) G2 H2 σ2 E2 as2) :
    G2 p = none ∧ (∀ j, p ∉ as2 j) ∧ OwnAt K G2 H2 p d := by
  obtain ⟨u, hu, ht⟩ := o.hasM
  have no : p ∉ own as n := fun z => by obtain ⟨j, hj⟩ := of_own z; exact np j hj
  refine ⟨?_, fun j hj => ?_, o.up s2 fun v q => st2.keep p v q no⟩
  · cases q : G2 p with
    | none => rfl
    | some z => exact absurd gp (st2.priv p u (by rw [q]; exact fun z => nomatch z) hu ht no)
  · rcases (st2.off j p hj).2 with z | z
    · have z : H p = none := z
      rw [hu] at z; cases z
    · exact no z
theorem dws_n (ha : DN X Wi a fn) (hr : DWs X Wi es l) (hs : starEach (a :: es) X.env = (false, eval a X.env) :: starEach es X.env := by rfl) : DWs X Wi (a :: es) (.n fn :: l) :=
  PA.imp (pa_cons ha hr hs) fun σ H Q q => by
    obtain ⟨F, G, E, as, st, p⟩ := q
    refine ⟨F, G, E, as, st, PoN.mono (fun x H1 m => ?_) (PoN.match p)⟩
    obtain ⟨p, d, G1, E1, as1, rfl, s1, st1, gp, fp, np, o, p1⟩ := m
    refine ⟨inner F G1 H1 as1 E1.length, G1, E1, as1, st1.in_, ?_⟩
    have p1 : PoW X.K Wi F G1 σ Q ((evN l E1).bind fun q => .ok ((true, d) :: q.1, q.2)) := p1
    generalize evN l E1 = r at p1 ⊢
    match r, p1 with
    | .ok (ds, E2), p1 =>
      intro vs ps G2 H2 as2 s2 st2 nw
      obtain ⟨u, hu⟩ := o.hasO
      obtain ⟨g2, n2, o2⟩ := StE.stays gp np o s2 st2
      refine p1 (.ref p :: vs) (p :: ps) G2 H2 as2 s2 (st1.out st2) (.nw g2 fp n2 o2 (nw.notIn (by show H1 p ≠ none; rw [hu]; exact fun z => nomatch z)) (nw.frame fun b hb => st1.dom b hb))
    | .err y E2, p1 => exact fun c dx G2 H2 as2 s2 st2 xo => p1 c dx G2 H2 as2 s2 (st1.out st2) xo
end
def setL : List Nat → L2.St → List V → L2.St
  | i :: is, σ, v :: vs => setL is (σ.set i (some v)) vs
  | _, σ, _ => σ
def setE : List Nat → Env → List (Bool × D) → Env
  | i :: is, E, (true, d) :: ds => setE is (E.set i (.own d)) ds
  | i :: is, E, (false, d) :: ds => setE is (E.set i (.dat d)) ds
  | _, E, _ => E
theorem StE.setW {K : PySem.W.Frag} {F : Fr} {G H : Hp} : ∀ {is : List Nat} {vs : List V} {ds : List (Bool × D)} {ps : List Addr} {σ : L2.St} {E : Env} {as : Nat → List Addr}, StE K F G H σ E as → NWs K F G H as vs ds ps → vs.length = is.length → (∀ i ∈ is, i < E.length) →
    ∃ as', StE K F G H (setL is σ vs) (setE is E ds) as'
  | [], _, _, _, _, _, as, st, .nil, _, _ => ⟨as, st⟩
  | i :: is, _, _, _, σ, E, as, st, .da (v := v) (d := d) (ps := ps) a r, hl, hi => by
    refine StE.setW (is := is) (st.setD a) (NWs.moved (fun p hp h j => ?_) r) (Nat.succ.inj hl) fun j hj => by rw [List.length_set]; exact hi j (List.mem_cons_of_mem _ hj)
    by_cases e : j = i
    · rw [e, drp_same]; exact fun z => by cases z
    · rw [drp_ne e]; exact h j
  | i :: is, _, _, _, σ, E, as, st, .nw (p := p) (d := d) (ps := ps) g f n o q r, hl, hi => by
    have st2 := st.setC (i := i) (x := some (.ref p)) (c := .own d) (l := [p]) ⟨p, rfl, rfl, o⟩ (fun b hb => by
      rw [List.mem_singleton.mp hb]
      exact ⟨fun j _ => n j, g, .inl f⟩) (.inl (hi i List.mem_cons_self))
    refine StE.setW (is := is) st2 (NWs.moved (fun b hb h j => ?_) r) (Nat.succ.inj hl) fun j hj => by rw [List.length_set]; exact hi j (List.mem_cons_of_mem _ hj)
    by_cases e : j = i
    · rw [e, drp_same]
      intro z
      rw [List.mem_singleton.mp z] at hb
      exact q hb
    · rw [drp_ne e]; exact h j
def sPar (is : List Nat) (l : List EN) : SF := fun E => (evN l E).bind fun p => if p.1.length = is.length ∧ (is.all fun i => decide (i < p.2.length)) = true then .ok (.nx, setE is p.2 p.1) else .stuck
section
variable {X : Cx} {Wi : Wish} {e a b c : Expr} {es : List Expr} {f : EF} {l : List EN} {pos : Pos}
theorem sPar_of {is : List Nat} {D0 : Ends} {σ : L2.St} {H : Hp} (q : tS X.K Wi (sPar is l) D0 σ H) : tW X.K Wi l σ H fun vs H1 => vs.length = is.length ∧ ∀ H2, Same H1 H2 → D0.nx (setL is σ vs) H2 := by
  obtain ⟨F, G, E, as, st, p⟩ := q
  refine ⟨F, G, E, as, st, ?_⟩
  have p : PoS X.K Wi F G D0 ((evN l E).bind fun p => if p.1.length = is.length ∧ (is.all fun i => decide (i < p.2.length)) = true then .ok (.nx, setE is p.2 p.1) else .stuck) := p
  generalize evN l E = r at p ⊢
  match r, p with
  | .ok (ds, E2), p =>
    intro vs ps G2 H2 as2 s2 st2 nw
    have p : PoS X.K Wi F G D0 (if ds.length = is.length ∧ (is.all fun i => decide (i < E2.length)) = true then .ok (.nx, setE is E2 ds) else .stuck) := p
    by_cases hl : ds.length = is.length ∧ (is.all fun i => decide (i < E2.length)) = true
    · rw [if_pos hl] at p
      have hv := nw.len.trans hl.1
      obtain ⟨as', st'⟩ := StE.setW st2 nw hv fun i hi => of_decide_eq_true (List.all_eq_true.mp hl.2 i hi)
      exact ⟨hv, fun H3 s3 => p _ G2 H3 as' s2 (st'.al (Al.grow st'.s1 s3))⟩
    · rw [if_neg hl] at p; exact p.elim
  | .err y E2, p => exact fun c dx G2 H2 as2 s2 st2 xo => p c dx σ G2 H2 as2 s2 st2 xo
theorem ds_par2 {i j : Nat} {x y : Str} {px py pt : Pos} {kt k2 pt2} (hc : X.calm = true) (hN : X.N.Nodup) (hi : X.N[i]? = some x) (hj : X.N[j]? = some y) (hij : i ≠ j) (hx : X.env.scope.names.lookup x = some .local) (hy : X.env.scope.names.lookup y = some .local) (ha : DWs X Wi [a, b] l)
    (hw : swappedStores [.Tuple [.Name x px, .Name y py] kt pt] (.Tuple [a, b] k2 pt2) X.env = pure (some [x, y]))
    (hs : swapsWithSole [.Tuple [.Name x px, .Name y py] kt pt] (.Tuple [a, b] k2 pt2) pos.line X.env = pure false := by rfl) :
    DS X Wi (.Assign [.Tuple [.Name x px, .Name y py] kt pt] (.Tuple [a, b] k2 pt2) pos) (sPar [i, j] l) := PS.imp (ps_par hc hN hi hj hij hx hy ha hw hs) fun D0 σ H q => by
  obtain ⟨F, G, E, as, st, p⟩ := sPar_of q
  refine ⟨F, G, E, as, st, ?_⟩
  revert p
  generalize evN l E = r
  intro p
  match r, p with
  | .ok (ds, E2), p =>
    intro vs ps G2 H2 as2 s2 st2 nw
    obtain ⟨hl, k⟩ := p vs ps G2 H2 as2 s2 st2 nw
    match vs, hl with
    | [u, v], _ => exact ⟨u, v, rfl, k H2 (Same.refl _)⟩
  | .err y E2, p => exact p
end

section
variable {X : Cx} {Wi : Wish} {pos : Pos}
/-- [] -/
def nNil : NF := fun E => .ok (.lst [], E)
theorem dn_nil : DN X Wi (.List [] pos) nNil := PE.imp (pe_lst pa_nil) fun σ H Q q => by
  obtain ⟨F, G, E, as, st, p⟩ := q
  exact ⟨Nat.zero_le _, fun p' hp => PoN.rz st p p' _ hp (fun b u z => by rw [upd_ne (ne_of_none z hp)]; exact z) ⟨_, upd_same, Nat.zero_le _, .nil⟩⟩
end
end DL
namespace DL
open PySem PySem.Spec PyProof.Rows L2 TL

def PoD (K : PySem.W.Frag) (Wi : Wish) (F : Fr) (G : Hp) (σ : L2.St) (Q : List (Key × V) → Hp → Prop) : Res (List (Key × D) × Env) → Prop
  | .ok (ds, E') => ∀ kv G' H' as', Same G G' → StE K F G' H' σ E' as' → DKs K G' kv ds → Q kv H'
  | .err x E' => ∀ c dx G' H' as', Same G G' → StE K F G' H' σ E' as' → ExOk K G' x c dx → Wi σ c dx H'
  | .stuck => False
section
variable {K : PySem.W.Frag} {Wi : Wish} {F : Fr} {G G1 H : Hp} {σ : L2.St} {Q : List (Key × V) → Hp → Prop}
theorem PoD.up {r : Res (List (Key × D) × Env)} (e : Same G G1) (h : PoD K Wi F G σ Q r) : PoD K Wi F G1 σ Q r := by
  match r, h with
  | .ok (w, E'), h => exact fun v G' H' as' s => h v G' H' as' (e.trans s)
  | .err x E', h => exact fun c dx G' H' as' s => h c dx G' H' as' (e.trans s)
theorem PoD.of {α : Type} {o : Option α} {g : α → Res (List (Key × D) × Env)} (h : PoD K Wi F G σ Q ((ofO o).bind g)) : ∃ d, o = some d ∧ PoD K Wi F G σ Q (g d) := by
  cases o with
  | none => exact h.elim
  | some d => exact ⟨d, rfl, h⟩
def disT (K : PySem.W.Frag) (Wi : Wish) (l : List (Str × EF)) : List (TE × TE) := l.map fun p => (tC (.str p.1), tE K Wi p.2)
end
def mergeM (kd more : List (Key × D)) : List (Key × D) := more.foldl (fun acc kv => putM acc kv.1 kv.2) kd
theorem DKs.merge {K : PySem.W.Frag} {G : Hp} : ∀ {more : List (Key × V)} {md : List (Key × D)} {kv : List (Key × V)} {kd : List (Key × D)}, DKs K G more md → DKs K G kv kd → DKs K G (mergeK kv more) (mergeM kd md)
  | _, _, _, _, .nil, h => h
  | _, _, _, _, .cons c a b, h => by
    have z := DKs.merge b (h.put c a)
    exact z
/-- the pairs of a display of constant texts -/
structure DPs (X : Cx) (Wi : Wish) (pos : Pos) (keys : List (Option Expr)) (values : List Expr) (l : List (Str × EF)) : Prop where
  ps : PPs X pos keys values (disT X.K Wi l)
  ok : ∀ p ∈ l, SOk p.1
section
variable {X : Cx} {Wi : Wish} {pos : Pos} {keys : List (Option Expr)} {values : List Expr} {l : List (Str × EF)}
end

theorem WOks.app {K : PySem.W.Frag} {G : Hp} {E : Env} {σ : L2.St} : ∀ {vs us : List V} {ds : List D} {ws : List W}, DDs K G vs ds → WOks K G E σ us ws → WOks K G E σ (vs ++ us) (ds.map W.dat ++ ws)
  | _, _, _, _, .nil, h => h
  | _, _, _, _, .cons a b, h => ⟨a, WOks.app b h⟩
section
variable {X : Cx} {Wi : Wish} {e : Expr} {es : List Expr} {te : TE} {t : TA} {f : EF} {g : AF} {p : Pos}
theorem PoA.of {K : PySem.W.Frag} {F : Fr} {G : Hp} {σ : L2.St} {Q : List V → Hp → Prop} {α : Type} {o : Option α} {g : α → Res (List W × Env)} (h : PoA K Wi F G σ Q ((ofO o).bind g)) : ∃ d, o = some d ∧ PoA K Wi F G σ Q (g d) := by
  cases o with
  | none => exact h.elim
  | some d => exact ⟨d, rfl, h⟩
end

end DL
namespace DL
open PySem PySem.Spec PyProof.Rows L2 TL

section
variable {P : Program} {w : World} {K : PySem.W.Frag} {mg : Str → Option Value} {base : Heap} {k : Nat} {f : Addr} {fd : FuncData} {ps N : List Str} {x qual : Str} {st : Stmt} {fb : SF}
end

def setF (f : Str) (d : D) : List (Str × D) → List (Str × D)
  | [] => [(f, d)]
  | (g, x) :: r => if g = f then (g, d) :: r else (g, x) :: setF f d r
theorem DFs.len {K : PySem.W.Frag} {G : Hp} : ∀ {vs : List (Str × V)} {ds : List (Str × D)}, DFs K G vs ds → vs.length = ds.length
  | _, _, .nil => rfl
  | _, _, .cons _ b => congrArg Nat.succ (DFs.len b)
theorem DFs.put {K : PySem.W.Frag} {G : Hp} {f : Str} {v : V} {d : D} (h : DD K G v d) : ∀ {vs : List (Str × V)} {ds : List (Str × D)}, DFs K G vs ds → DFs K G (putF f v vs) (setF f d ds)
  | _, _, .nil => .cons h .nil
  | _, _, .cons (k := g) (vs := vs) (ds := ds) a b => by
    show DFs K G (if g = f then (g, v) :: vs else (g, _) :: putF f v vs) (if g = f then (g, d) :: ds else (g, _) :: setF f d ds)
    by_cases e : g = f
    · rw [if_pos e, if_pos e]; exact .cons h b
    · rw [if_neg e, if_neg e]; exact .cons a (DFs.put h b)
section
variable {X : Cx} {CX : CXT} {k n : Nat} {f C : Addr} {fd : FuncData} {ps ks : List Str} {Wi : Wish} {x m : Str} {p pos apos kpos : Pos} {e o : Expr} {es : List Expr} {kws : List Keyword} {fs fk : AF} {fo : EF} {fm : List D → Res (List (Str × D))} {gm : List D → Res D} {sp : Sp} {t tk : TA}
def pick {α : Type} (pm : List Nat) (l : List α) : List α := pm.filterMap fun i => l[i]?
/-- how the positional values and those of the keywords ks come to the parameters -/
structure KW (fd : FuncData) (ps : List Str) (n : Nat) (ks : List Str) (pm : List Nat) : Prop where
  to : ∀ us ws : List Value, us.length = n → ws.length = ks.length → bindArgs fd ⟨us, ks.zip ws⟩ = pure (ps.zip (pick pm (us ++ ws)))
theorem vals_pick {vs : List V} {us : List Value} (r : Vals vs us) : ∀ pm : List Nat, Vals (pick pm vs) (pick pm us)
  | [] => .nil
  | i :: pm => by
    have ih := vals_pick r pm
    unfold pick at ih ⊢
    rw [List.filterMap_cons, List.filterMap_cons]
    cases q : vs[i]? with
    | none =>
      have q2 : us[i]? = none := by
        rw [List.getElem?_eq_none_iff] at q ⊢
        rw [← r.length]; exact q
      rw [q2]; exact ih
    | some v =>
      obtain ⟨u, q2, ru⟩ := r.get q
      rw [q2]; exact .cons ru ih
theorem dds_pick {K : PySem.W.Frag} {G : Hp} {vs : List V} {ds : List D} (r : DDs K G vs ds) : ∀ pm : List Nat, DDs K G (pick pm vs) (pick pm ds)
  | [] => .nil
  | i :: pm => by
    have ih := dds_pick r pm
    unfold pick at ih ⊢
    rw [List.filterMap_cons, List.filterMap_cons]
    cases q : vs[i]? with
    | none =>
      have q2 : ds[i]? = none := by
        rw [List.getElem?_eq_none_iff] at q ⊢
        rw [← r.len]; exact q
      rw [q2]; exact ih
    | some v =>
      obtain ⟨d, q2, dd⟩ := r.getV q
      rw [q2]; exact .cons dd ih
theorem run_KW {pins : List (Addr × Obj)} {σ : L2.St} {H : Hp} {s : Shared} {Q : VK} {us ws : List Value} {vs zs : List V} {pm : List Nat} (F : FnG X.prog X.w X.K X.mg X.base CX k f fd ps sp) (hg : X.A.guards = some []) (hr : Room k X.A) (kb : KW fd ps n ks pm) (hx : PassW CX X Wi) (I : Inv X pins σ H s) (r : Vals vs us) (rz : Vals zs ws)
    (l1 : vs.length = n) (l2 : zs.length = ks.length) (h : sp (pick pm (vs ++ zs)) H Q (Wi σ)) : wpAny (model X.prog X.w) X.A (call (.ref f) us (ks.zip ws)) (EP X pins σ Q) X.xe s :=
  code_call (call_go F hg hr hx I (.of_eq (kb.to us ws (by rw [← r.length]; exact l1) (by rw [← rz.length]; exact l2))) (vals_pick (r.append rz) pm) h)
abbrev DK (X : Cx) (Wi : Wish) (kws : List Keyword) (f : AF) : Prop := PK X kws (tA X.K Wi f)
theorem PK.imp {X : Cx} {e : List Keyword} {t t' : TA} (h : PK X e t) (i : ∀ σ H Q, t' σ H Q → t σ H Q) : PK X e t' :=
  ⟨fun pos pins s σ H Q I q => h.run pos pins s σ H Q I (i σ H Q q)⟩
theorem dk_nil : DK X Wi [] aN := PK.imp pk_nil fun σ H Q q => by
  obtain ⟨F, G, E, as, st, p⟩ := q
  exact p [] G H as (Same.refl _) st True.intro
theorem dk_cons {nm : Option Str} {fa : EF} (ha : DE X Wi e fa) (hr : DK X Wi kws fs) : DK X Wi (⟨nm, e, kpos⟩ :: kws) (aC fa fs) := PK.imp (pk_cons ha hr) fun σ H Q q => by
  obtain ⟨F, G, E, as, st, p⟩ := q
  refine ⟨F, G, E, as, st, Po.mono (fun x H1 m => ?_) (Po.bindA p)⟩
  obtain ⟨w1, G1, E1, as1, s1, st1, wo1, p1⟩ := m
  refine ⟨F, G1, E1, as1, st1, ?_⟩
  generalize fs E1 = r at p1 ⊢
  match r, p1 with
  | .ok (ws, E2), p1 => exact fun vs G2 H2 as2 s2 st2 wo2 => p1 (x :: vs) G2 H2 as2 s2 st2 ⟨WOk.up s2 wo1, wo2⟩
  | .err y E2, p1 => exact p1
theorem PoA.bindA {K : PySem.W.Frag} {F : Fr} {G : Hp} {σ : L2.St} {Q : List V → Hp → Prop} {r : Res (List W × Env)} {g : List W × Env → Res (List W × Env)} (h : PoA K Wi F G σ Q (r.bind g)) :
    PoA K Wi F G σ (MidA K F G σ fun _ ws G1 _ E1 _ => PoA K Wi F G1 σ Q (g (ws, E1))) r := by
  match r, h with
  | .ok (w, E'), h => exact fun v G' H' as' s st wo => ⟨w, G', E', as', s, st, wo, PoA.up s h⟩
  | .err x E', h => exact h
/-- f(e, .., k = v, ..) -/
def eFK (n kn : Nat) (pm : List Nat) (np : Nat) (fm : List D → Res D) (fs fk : AF) : EF := fun E => (fs E).bind fun p => (fk p.2).bind fun q => (ofO (dats p.1)).bind fun ds => (ofO (dats q.1)).bind fun es =>
  if ds.length = n ∧ es.length = kn ∧ (pick pm (ds ++ es)).length = np then ret (fm (pick pm (ds ++ es))) q.2 else .stuck
theorem tFK_of {np kn : Nat} {pm : List Nat} : ∀ σ H Q, tE X.K Wi (eFK n kn pm np gm fs fk) σ H Q → tA X.K Wi fs σ H fun vs H1 => tA X.K Wi fk σ H1 fun zs H2 => vs.length = n ∧ zs.length = kn ∧ spP X.K np gm (pick pm (vs ++ zs)) H2 Q (Wi σ) := by
  intro σ H Q q
  obtain ⟨F, G, E, as, st, p⟩ := q
  refine ⟨F, G, E, as, st, PoA.mono (fun vs H1 m => ?_) (PoA.bind p)⟩
  obtain ⟨ws, G1, E1, as1, s1, st1, wo1, p1⟩ := m
  refine ⟨F, G1, E1, as1, st1, PoA.mono (fun zs H2 m => ?_) (PoA.bind p1)⟩
  obtain ⟨ys, G2, E2, as2, s2, st2, wo2, p2⟩ := m
  obtain ⟨ds, e1, p3⟩ := Po.of p2
  obtain ⟨es, e2, p4⟩ := Po.of p3
  clear p1 p2 p3
  have d1 := (dats_ok wo1 e1).up s2
  have d2 := dats_ok wo2 e2
  have p4 : Po X.K Wi F G2 σ Q (if ds.length = n ∧ es.length = kn ∧ (pick pm (ds ++ es)).length = np then ret (gm (pick pm (ds ++ es))) E2 else .stuck) := p4
  by_cases h : ds.length = n ∧ es.length = kn ∧ (pick pm (ds ++ es)).length = np
  · rw [if_pos h] at p4
    exact ⟨d1.len.trans h.1, d2.len.trans h.2.1, spP_of st2 (dds_pick (d1.app d2) pm) h.2.2 p4⟩
  · rw [if_neg h] at p4; exact p4.elim
/-- f(k = v, ..) -/
theorem de_FK0 {np : Nat} {pm : List Nat} (F : FnG X.prog X.w X.K X.mg X.base CX k f fd ps (spP X.K np gm)) (hg : X.A.guards = some []) (hr : Room k X.A) (gl : Gl X x) (hm : X.mg x = some (.ref f)) (hk : PySem.W.keepIn X.K (.ref f) = true) (kb : KW fd ps 0 ks pm) (hx : PassW CX X Wi) (hkw : DK X Wi kws fk)
    (hall : (backToKw pos (keywordEach kws X.env)).all (·.1.isSome) = true := by rfl) (hks : (backToKw pos (keywordEach kws X.env)).filterMap (·.1) = ks := by rfl) (hdb : (x == ("__debug__" : Str)) = false := by decide)
    (hpl : ((backTo pos (starEach [] X.env)).any (·.1) || (backToKw pos (keywordEach kws X.env)).any (·.1.isNone)) = false := by rfl) :
    DE X Wi (.Call (.Name x p) [] kws pos) (eFK 0 ks.length pm np gm aN fk) := by
  refine ⟨fun pins s σ H Q I q => ?_⟩
  refine wpAny_Call_Name_kw (ld_glob I gl hm ?_ hdb)
  have z := tFK_of σ H Q q
  obtain ⟨F1, G1, E1, as1, st1, p1⟩ := z
  refine PySem.W.callWith_KW0 (h₀ := X.base) I.ok.mod.kin hk hall ?_ hpl
  refine thn (hkw.run pos pins s σ H _ I (p1 [] G1 H as1 (Same.refl _) st1 trivial)) fun ws s2 ⟨zs, H2, I2, rz, l1, l2, q2⟩ => ⟨I2.kIn, ?_⟩
  rw [hks]
  exact run_KW F hg hr kb hx I2 .nil rz l1 l2 q2
end

section
variable {X : Cx} {CX : CXT} {Wi : Wish} {a b : Expr} {fa fb : EF} {pos : Pos} {n : Nat} {C f : Addr} {fd : FuncData} {ps : List Str} {oc : List Addr} {gm : List D → Res D}
end
end DL
namespace DL
open PySem PySem.Spec PyProof.Rows L2 TL

section
variable {P : Program} {w : World} {K : PySem.W.Frag} {mg : Str → Option Value} {base : Heap} {k : Nat} {f : Addr} {fd : FuncData} {ps N : List Str} {x qual : Str} {st : Stmt} {fb : SF}
end
/-- a test of a whole and/or -/
theorem dt_w {X : Cx} {Wi : Wish} {e : Expr} {t : BF} (h : DW X Wi e t) : DT X Wi e t := PW.pt h
/-- names -/
theorem dv (i : Nat) {X : Cx} {Wi : Wish} {x : Str} {pos : Pos} (hN : X.N[i]? = some x := by rfl) (hv : Vis X.env.scope x := by first | exact Or.inl rfl | exact Or.inr (Or.inl rfl) | exact Or.inr (Or.inr rfl)) (hd : (x == ("__debug__" : Str)) = false := by decide)
    (hcd : (x == ("__classdict__" : Str)) = false := by decide) : DE X Wi (.Name x pos) (eV i) := de_v (pv i hN hv hd hcd)
def gNeg : D → Option D
  | .int i => some (.int (-i))
  | _ => none
theorem und_neg {K : PySem.W.Frag} : UnD K (rU fun i => .int (-i)) gNeg := by
  intro G H x a d Q s ha e z
  cases a with
  | int i => cases e; exact ⟨i, ha.int, z _ _ _ (Al.refl s) (.int _)⟩
  | _ => cases e
end DL
namespace DL
open PySem PySem.Spec PyProof.Rows L2 TL

theorem glen0 : ∀ (ds : List D) (E E' : Env), gNil' ds E = some E' → ds.length = 0
  | [], _, _, _ => rfl
  | _ :: _, _, _, h => by cases h
theorem glenS {g : GF} {gs : List D → Env → Option Env} {n : Nat} (h : ∀ (ds : List D) (E E' : Env), gs ds E = some E' → ds.length = n) : ∀ (ds : List D) (E E' : Env), gCons' g gs ds E = some E' → ds.length = n + 1
  | [], _, _, e => by cases e
  | d :: ds, E, E', e => by
    have e : ((g d E).bind fun E1 => gs ds E1) = some E' := e
    cases q : g d E with
    | none => rw [q] at e; cases e
    | some E1 => rw [q] at e; exact congrArg Nat.succ (h ds E1 E' e)
theorem glen2 {g1 g2 : GF} : ∀ (ds : List D) (E E' : Env), gCons' g1 (gCons' g2 gNil') ds E = some E' → ds.length = 2 := glenS (glenS glen0)
theorem eqv_nil (l : List Int) : PyData.eqv (D.lst (l.map D.int)).py (D.lst []).py = l.isEmpty := by
  cases l <;> rfl
theorem dds_ints {K : PySem.W.Frag} {G : Hp} : ∀ l : List Int, DDs K G (l.map V.int) (l.map D.int)
  | [] => .nil
  | i :: l => .cons (.int i) (dds_ints l)
theorem plain_ints : ∀ l : List Int, plainL (l.map D.int) = true
  | [] => rfl
  | _ :: l => plain_ints l
section
variable {P : Program} {w : World} {K : PySem.W.Frag} {mg : Str → Option Value} {base : Heap} {f : Addr} {fd : FuncData} {x qual : Str} {st : Stmt}
theorem lk_left {q : Addr} {b : Int} : valV (κ := Key) [(.inr "left", .ref q), (.inr "blend", .int b)] (.inr "left") = some (.ref q) := by
  unfold valV
  rw [List.find?_cons_of_pos (by simp)]; rfl
theorem lk_blend {q : Addr} {b : Int} : valV (κ := Key) [(.inr "left", .ref q), (.inr "blend", .int b)] (.inr "blend") = some (.int b) := by
  have h : ¬ ((Sum.inr "left" : Key) = .inr "blend") := by decide +kernel
  unfold valV
  rw [List.find?_cons_of_neg (by simpa using h), List.find?_cons_of_pos (by simp)]; rfl
theorem put_blend {q : Addr} {b c : Int} : putK (κ := Key) [(.inr "left", .ref q), (.inr "blend", .int b)] (.inr "blend") (.int c) = [(.inr "left", .ref q), (.inr "blend", .int c)] := by
  have h : ¬ ((Sum.inr "left" : Key) = .inr "blend") := by decide +kernel
  unfold putK
  simp [h]
end
end DL
namespace DL
open PySem PySem.Spec PyProof.Rows L2 TL

section
variable {P : Program} {w : World} {K : PySem.W.Frag} {mg mb : Str → Option Value} {k : Nat} {fa a : Addr} {fd : FuncData} {x : Str} {sp : Sp} {s : Shared} {us : List Value} {ns : List Int} {H : Hp}
/-- the script's list is all that may be tracked -/
theorem hid_there (ea : s.heap.get? a = some { cls := .type "list", data := .seq us.toArray }) (one : ∀ b, H b ≠ none → b = a) {b : Addr} {o : Obj} (hb : s.heap.get? b = some o) (nl : ∀ its n, o.data ≠ .seq its n) : (hidT s.heap H).get? b = some o := by
  refine hidT_get hb ?_
  cases q : H b with
  | none => rfl
  | some u =>
    have z := one b (by rw [q]; exact fun y => nomatch y)
    rw [z, ea] at hb
    exact absurd rfl (nl us.toArray _ |> fun h y => h (by rw [← Option.some.inj hb]))
theorem hid_ns (ea : s.heap.get? a = some { cls := .type "list", data := .seq us.toArray }) (one : ∀ b, H b ≠ none → b = a) {b : Addr} {m : Str → Option Value} (n : s.heap.Ns b m) : (hidT s.heap H).Ns b m := by
  obtain ⟨o, es, ep, h1, h2, h3⟩ := n
  exact ⟨o, es, ep, hid_there ea one h1 (fun its c y => by rw [h2] at y; cases y), h2, h3⟩
theorem hid_in (kin : K.In s.heap) (one : ∀ b, H b ≠ none → b = a) (ka : H a ≠ none → K.lookup a = none) : K.In (hidT s.heap H) := fun b o hb => by
  refine hidT_get (kin b o hb) ?_
  cases q : H b with
  | none => rfl
  | some u =>
    have ne : H b ≠ none := by rw [q]; exact fun y => nomatch y
    have z := one b ne
    rw [z] at ne hb
    rw [ka ne] at hb; cases hb
/-- how the law ends -/
def Ended (s : Shared) (r : Result) (s' : Shared) : Prop := r = .ok (.ret (.bool true)) ∧ OldK s.heap s'.heap ∧ s'.os = s.os ∧ AllBare s'.gens
theorem law_go (kin : K.In s.heap) (gl : s.heap.Ns mainGlobals mg) (bl : s.heap.Ns builtinsNs mb) (bb : ∀ x : Str, x ≠ "__name__" → mb x = bootBuiltins x) (nl : s.heap.NoLimit) (ng : s.gens = #[]) (ea : s.heap.get? a = some { cls := .type "list", data := .seq us.toArray }) (hr : Room k callerA)
    (F : ∀ base : Heap, K.In base → base.Ns mainGlobals mg → FnG P w K mg base CX0 k fa fd [x] sp) (bind : ∀ (s : Shared) (u : Value), BindsTo s fd ⟨[u], []⟩ [(x, u)]) (only : Only H) (ok : HOk P w H s.heap) (one : ∀ b, H b ≠ none → b = a) (ka : H a ≠ none → K.lookup a = none)
    (hsp : sp [.ref a] H (fun v _ => v = .bl true) fun _ _ _ => False) : codeAny (model P w) callerA (.call (.ref fa) ⟨[.ref a], []⟩) (Ended s) s := by
  have kin2 := hid_in (s := s) kin one ka
  have gl2 := hid_ns ea one gl
  have modl : Mod K mg (hidT s.heap H) := by
    obtain ⟨mc, n1, n2⟩ := nl
    exact ⟨kin2, gl2, ⟨mb, hid_ns ea one bl, bb⟩, ⟨mc, hid_ns ea one n1, n2⟩⟩
  have en : Env0 P w K mg (hidT s.heap H) callerA [] s H := ⟨rfl, modl, fun _ _ e => of_hidT e, Nat.le_of_eq (hidT_size _ _), trivial, fun b hb => (nomatch (show b ∈ ([] : List Addr) from hb)), ok, .of_eq ng⟩
  refine codeAny_mono ((F _ kin2 gl2).go callerA [] s H ⟨[.ref a], []⟩ [.ref a] [.ref a] _ _ rfl hr en (bind s (.ref a)) (.cons rfl .nil) hsp) fun r s' z => ?_
  match r, z with
  | .error _, z => exact z.elim
  | .ok .next, z => exact z.elim
  | .ok .brk, z => exact z.elim
  | .ok .cont, z => exact z.elim
  | .ok (.ret u), z =>
    obtain ⟨v, H', os, bare, un, ok', ru, ev⟩ := z
    have ev : v = .bl true := ev
    subst ev
    cases ru
    refine ⟨rfl, OldK.of_keep fun b o e => ?_, os, bare⟩
    rcases only b with z | ⟨ob, xs, z⟩
    · exact un.keep b o e z (fun y => nomatch (show b ∈ ([] : List Addr) from y)) (fun y => nomatch y)
    · have h1 := (ok b _ z).1
      have h2 := (ok' b _ (un.frzs b ob _ z)).1
      rw [e] at h1; cases h1
      exact h2
/-- .. whatever the script's list is -/
theorem law_callG (kin : K.In s.heap) (gl : s.heap.Ns mainGlobals mg) (bl : s.heap.Ns builtinsNs mb) (bb : ∀ x : Str, x ≠ "__name__" → mb x = bootBuiltins x) (nl : s.heap.NoLimit) (ng : s.gens = #[]) (ea : s.heap.get? a = some { cls := .type "list", data := .seq us.toArray }) (ei : IntsAre us ns) (hz : ns.length ≤ sizeLine) (hr : Room k callerA)
    (F : ∀ base : Heap, K.In base → base.Ns mainGlobals mg → FnG P w K mg base CX0 k fa fd [x] sp) (bind : ∀ (s : Shared) (u : Value), BindsTo s fd ⟨[u], []⟩ [(x, u)])
    (hsp : ∀ H : Hp, SqL K H a (ns.map V.int) → sp [.ref a] H (fun v _ => v = .bl true) fun _ _ _ => False) : codeAny (model P w) callerA (.call (.ref fa) ⟨[.ref a], []⟩) (Ended s) s := by
  have rv := vals_ints ei
  have lu := ei.length
  cases q : K.lookup a with
  | some o =>
    have eo := kin a o q
    rw [ea] at eo; cases eo
    have sq : SqL K (fun _ => none) a (ns.map V.int) := .inr ⟨_, us.toArray, _, q, rfl, rfl, rfl, by rw [List.size_toArray, lu]; exact hz, by simpa using rv⟩
    exact law_go kin gl bl bb nl ng ea hr F bind (H := fun _ => none) (fun _ => .inl rfl) (fun b u z => (nomatch (show (none : Option HO) = some u from z))) (fun _ z => absurd rfl z) (fun z => absurd rfl z) (hsp _ sq)
  | none =>
    let HA : Hp := fun b => if b = a then some (.frz { cls := .type "list", data := .seq us.toArray } (.lst (ns.map V.int))) else none
    have at_ : HA a = some (.frz { cls := .type "list", data := .seq us.toArray } (.lst (ns.map V.int))) := if_pos rfl
    have off : ∀ b, b ≠ a → HA b = none := fun b h => if_neg h
    refine law_go kin gl bl bb nl ng ea hr F bind (H := HA) (fun b => ?_) (fun b u z => ?_) (fun b z => ?_) (fun _ => q) (hsp HA (.inl (.inr ⟨_, at_⟩)))
    · by_cases e : b = a
      · exact .inr ⟨_, _, e ▸ at_⟩
      · exact .inl (off b e)
    · by_cases e : b = a
      · subst e
        rw [at_] at z; cases z
        exact ⟨ea, by rw [List.length_map]; exact hz, us, _, rv, ea⟩
      · rw [off b e] at z; cases z
    · exact Decidable.byContradiction fun e => z (off b e)
end
theorem walk_G {l : PySem.W.OpenLaw} {n k : Nat} {q : Program} {loose : List Str} {XP : (Str → Option Value) → Heap → Prop} {YP : World → Heap → Prop} {d : DefRec} {K : Params → PySem.W.Frag} {sp : World → Sp} {x : Str} (most : l.most = some n) (small : n ≤ sizeLine) (nodef : d.params.defaults = []) (hr : Room k callerA) (kin : ∀ (w : World) (h : Heap), YP w h → (K w.params).In h)
    (F : ∀ (w : World) (mg : Str → Option Value) (fa : Addr) (h : Heap), (K w.params).In h → h.Ns mainGlobals mg → mg d.name = some (.ref fa) → ∃ fd : FuncData, (∀ (s : Shared) (u : Value), BindsTo s fd ⟨[u], []⟩ [(x, u)]) ∧ ∀ base : Heap, (K w.params).In base → base.Ns mainGlobals mg → FnG l.prog w (K w.params) mg base CX0 k fa fd [x] (sp w))
    (hsp : ∀ (w : World) (H : Hp) (a : Addr) (ns : List Int), ns.length ≤ n → SqL (K w.params) H a (ns.map V.int) → sp w [.ref a] H (fun v _ => v = .bl true) fun _ _ _ => False) :
    PySem.W.WalkO q loose XP YP l.row.toRowW d [] (fun f vs => PySem.call f vs) := by
  refine Att.attach_call most nodef fun w s0 s mg mb fa o pm cd doc a us ns G Y ho hd hcd hmg hobj hints hlen hgens => ?_
  have kh := kin w _ Y
  obtain ⟨fd, bind, hF⟩ := F w mg fa _ kh G.T.g hmg
  exact law_callG kh G.T.g G.T.b G.T.builtins G.T.nolimit hgens hobj hints (Nat.le_trans hlen small) hr hF bind fun H sq => hsp w H a ns hlen sq
end DL
namespace DL
open PySem PySem.Spec PyProof.Rows L2 TL

/-- a new deck -/
def spDeck (K : PySem.W.Frag) : Sp := fun vs H Q _ => ∃ (a : Addr) (ns : List Int), vs = [.ref a] ∧ SqL K H a (ns.map V.int) ∧ ns.length ≤ 63 ∧ ∀ (p q : Addr) (l : List Int) (b : Int) (H' : Hp), Same H H' → H p = none → H q = none → p ≠ q → l.length ≤ 63 → DeckAt H' p q l b → Q (.ref p) H'
def cutI (xs : List Int) (lo hi : Option Int) : List Int := (xs.drop (HT.sIx xs.length 0 lo)).take (HT.sIx xs.length xs.length hi - HT.sIx xs.length 0 lo)
theorem cutV_ints (xs : List Int) (lo hi : Option Int) : cutV (xs.map V.int) lo hi = (cutI xs lo hi).map V.int := by
  unfold cutV cutI
  rw [List.length_map, List.map_take, List.map_drop]
theorem cutI_len (xs : List Int) (lo hi : Option Int) : (cutI xs lo hi).length ≤ xs.length := by
  unfold cutI
  rw [List.length_take, List.length_drop]; omega
theorem int_at {ns : List Int} {i : Nat} {x : V} (h : (ns.map V.int)[i]? = some x) : ∃ c, x = .int c ∧ i < ns.length := by
  rw [List.getElem?_map] at h
  cases e : ns[i]? with
  | none => rw [e] at h; cases h
  | some c => rw [e] at h; cases h; exact ⟨c, rfl, (List.getElem?_eq_some_iff.mp e).1⟩
theorem merge2 {q : Addr} {b : Int} : mergeK [] [((.inr "left" : Key), V.ref q), (.inr "blend", .int b)] = [(.inr "left", .ref q), (.inr "blend", .int b)] := by
  have h : ¬ ((Sum.inr "left" : Key) = .inr "blend") := by decide +kernel
  unfold mergeK putK
  simp [h, putK]
/-- the law's frame behind its first statement -/
theorem StE.law {K : PySem.W.Frag} {H : Hp} {σ : L2.St} {p q : Addr} {l : List Int} {b : Int} {n : Nat} (hl : σ.length = n + 2) (h1 : σ[1]? = some (some (.ref p))) (npq : p ≠ q) (dk : DeckAt H p q l b) :
    StE K ⟨fun _ => none, fun _ => none, [], []⟩ (fun _ => none) H σ (.no :: .deck p q l b :: nos n) fun i => if i = 1 then [p, q] else [] := by
  refine ⟨by rw [hl]; unfold nos; simp, Same.refl _, fun _ _ h => (nomatch h), fun _ _ h => (nomatch h), fun _ _ => rfl, fun _ _ h => absurd rfl h, fun i c e => ?_, fun i j a h1 h2 => ?_, fun i a h => ⟨rfl, .inl rfl⟩, fun i h => ?_⟩
  · match i, e with
    | 0, e => cases e; exact ⟨_, List.getElem?_eq_getElem (by omega), rfl⟩
    | 1, e => cases e; exact ⟨_, h1, rfl, rfl, dk⟩
    | i + 2, e =>
      have e : (nos n)[i]? = some c := e
      unfold nos at e
      rw [List.getElem?_replicate] at e
      split at e
      · rename_i hi
        cases e
        exact ⟨_, List.getElem?_eq_getElem (by omega), if_neg (by omega)⟩
      · cases e
  · by_cases hi : i = 1
    · by_cases hj : j = 1
      · rw [hi, hj]
      · rw [if_neg hj] at h2; cases h2
    · rw [if_neg hi] at h1; cases h1
  · have : i ≠ 1 := fun z => by subst z; simp at h
    rw [if_neg this]
theorem law_read {K : PySem.W.Frag} {N : List Str} {n : Nat} {fb : SF} {H : Hp} {Q : VK} {nx : L2.St → Hp → Prop} {bk ct : L2.St → Hp → Prop} {a : Addr} {ns : List Int} (hN : N.length = n + 2)
    (hm : ∀ (p q : Addr) (l : List Int) (b : Int), l.length ≤ 63 → ∃ E, fb (.no :: .deck p q l b :: nos n) = .ok (.rt (.bl true), E)) (hS : SqL K H a (ns.map V.int)) (hl : ns.length ≤ 63) (z : ∀ H', Q (.bl true) H') :
    tSeq (tAsg (tCallG (spDeck K) W0 (tCons (tVar 0) tNil)) (gName 1)) (tS K W0 fb) { nx := nx, rt := Q, bk := bk, ct := ct } (L2.start N [.ref a]) H := by
  have len : (L2.start N [.ref a]).length = n + 2 := by
    rw [start_len (by simp only [List.length_cons, List.length_nil]; omega)]; exact hN
  refine ⟨_, start_get (v := .ref a) rfl, a, ns, rfl, hS, hl, fun p q l b H' s hp hq npq hll dk => ?_⟩
  refine ⟨_, _, _, _, StE.law (q := q) (l := l) (b := b) (n := n) (by rw [List.length_set]; exact len) (List.getElem?_set_self (by rw [len]; omega)) npq dk, ?_⟩
  obtain ⟨E, e⟩ := hm p q l b hll
  rw [e]
  intro v σ' G' H'' as' _ _ dd
  cases dd
  exact z _
end DL
namespace DL
open PySem PySem.Spec PyProof.Rows L2 TL
section
variable {X : Cx} {Wi : Wish} {a b c : Expr} {fa fb fc : EF} {pos : Pos} {g g' : D → D → Option D} {r r' : R2}
end
end DL
namespace DL
open PySem PySem.Spec PyProof.Rows L2 TL
section
variable {X : Cx}
end
end DL
namespace DL
open PySem PySem.Spec PyProof.Rows L2 TL
section
variable {X : Cx} {Wi : Wish} {tg elt : Expr} {ifs : List Expr} {scope : Scope} {own : List (Str × Nat)} {pos : Pos} {g : GF} {fc : BF} {fe : EF} {ts : List Nat}
end
end DL
namespace DL
open PySem PySem.Spec PyProof.Rows L2 TL
section
variable {prog : Program} {w : World} {A : Around} {E : Value → Shared → Prop} {s : Shared} {K : PySem.W.Frag} {x C L f : Addr} {h₀ : Heap} {m : Str → Option Value} {ox : Obj} {od : Option Obj} {b tb : Value}
end
section
variable {X : Cx} {CX : CXT} {Wi : Wish} {pins : List (Addr × Obj)} {σ : L2.St} {H : Hp} {s : Shared} {Q : VK} {k : Nat} {f : Addr} {fd : FuncData} {ps : List Str} {sp : Sp} {us : List Value} {vs : List V}
end
section
variable {X : Cx} {CX : CXT} {Wi : Wish} {a b : Expr} {fa fb : EF} {pos : Pos} {n : Nat} {C f : Addr} {fd : FuncData} {ps : List Str} {oc : List Addr} {gm : List D → Res D}
end
def relabelS (scope sc : Scope) : Scope := { scope with names := scope.names.map fun (n, k) => if (k == .free && sc.kind == .function && sc.names.lookup n == some .cell) then (n, .cell) else (n, k) }
theorem blkOk_in {N : List Str} {sc scope0 scope : Scope} {own : List (Str × Nat)} {env : PySem.Env} {cl : List (Str × Addr)} {C : Addr} (he : env.scope = sc) (h : blkC N (relabelS scope0 sc) scope own = true) : BlkOk N (compEnvC scope0 cl C env).scope scope own := by
  subst he
  exact blkOk_by h
end DL
namespace DL
open PySem PySem.Spec PyProof.Rows L2 TL
def rUpd : V → List V → Hp → VK → Prop := fun x xs H Q => ∃ a o kvs more, x = .ref a ∧ xs = [.ref o] ∧ a ≠ o ∧ H a = some (.dK kvs) ∧ H o = some (.dK more) ∧ kvs.length + more.length ≤ sizeLine ∧ Q .non (upd H a (.dK (mergeK kvs more)))
theorem len_putK {kvs : List (Key × V)} {k : Key} {v : V} : (putK kvs k v).length ≤ kvs.length + 1 := length_putK kvs k v
theorem len_mergeK : ∀ (more kvs : List (Key × V)), (mergeK kvs more).length ≤ kvs.length + more.length
  | [], kvs => Nat.le_refl _
  | m :: more, kvs => by
    have h := len_mergeK more (putK kvs m.1 m.2)
    have h2 := len_putK (kvs := kvs) (k := m.1) (v := m.2)
    show (mergeK (putK kvs m.1 m.2) more).length ≤ _
    rw [List.length_cons]; omega
theorem mt_update {X : Cx} : MtR X "dict.update" rUpd := by
  intro pins s σ H x xs v us Q I rx rxs h
  obtain ⟨a, o, kvs, more, rfl, rfl, hne, ha, ho, hz, q⟩ := h
  obtain ⟨u, rfl, ru⟩ := vals1 rxs
  cases rx
  cases ru
  obtain ⟨z1, hd1, vs, rel, dd⟩ := dk_of I.hok ha
  obtain ⟨z2, hd2, ms, rel2, dd2⟩ := dk_of I.hok ho
  refine call_meetsIn PySem.F.slot_dict_update dd.typeIs PySem.F.entry_dict_update (PySem.F.args_dict_update_2 _ _) (meets_dict_update (mixKind X.prog X.w) a o hne hd2) ⟨vs, ms, dd, dd2, by rw [← rel.length, ← rel2.length]; exact hz, fun h' dd' _ hs => ?_⟩
  have he : ∃ q, h'.get? a = some q := let ⟨q, _, _, hq, _⟩ := dd'; ⟨q, hq⟩
  exact ⟨.non, _, d_write (t' := s.toks) I (by rw [ha]; exact True.intro) hs he (dk_new (Nat.le_trans (len_mergeK more kvs) hz) hd1 (KV.merge rel2 rel) dd'), rfl, q⟩
def ownK (E : Env) (i : Nat) : Option (List (Key × D)) := match E[i]? with
  | some (.own (.dic kd)) => some kd
  | _ => none
theorem ownK_ok {E : Env} {i : Nat} {kd : List (Key × D)} (h : ownK E i = some kd) : E[i]? = some (.own (.dic kd)) := by
  unfold ownK at h
  split at h
  · rename_i l e; cases h; exact e
  · cases h
def updK (i : Nat) : D × Env → Res (W × Env) := fun p => match p.1 with
  | .dic more => (ofO (ownK p.2 i)).bind fun kd => if kd.length + more.length ≤ 16777216 then .ok (.dat .non, p.2.set i (.own (.dic (mergeM kd more)))) else .stuck
  | _ => .stuck
def eUpd (i : Nat) (fn : NF) : EF := fun E => (ofO (ownK E i)).bind fun _ => (fn E).bind (updK i)
section
variable {X : Cx} {Wi : Wish} {o e : Expr}
theorem tUpd_of {i : Nat} {fn : NF} : ∀ σ H Q, tE X.K Wi (eUpd i fn) σ H Q → tBM X.K "dict" rUpd (tVar i) (tCons (tN X.K Wi fn) tNil) σ H Q := by
  intro σ H Q q
  obtain ⟨F, G, E, as, st, p⟩ := q
  obtain ⟨d0, e0, p⟩ := Po.of p
  have e0 := ownK_ok e0
  obtain ⟨v, hv, a, xa, xv, xo⟩ := st.cell i _ e0
  subst xv
  obtain ⟨kv0, hl0, dk0⟩ := xo
  refine ⟨_, hv, .inr (.inr (.inl ⟨rfl, .inl ⟨_, hl0⟩⟩)), F, G, E, as, st, ?_⟩
  generalize fn E = r at p ⊢
  match r, p with
  | .ok (d, E'), p =>
    intro pp G' H' as' s st' gp fp np oo
    have p := Po.up s p
    cases d with
    | dic more =>
      obtain ⟨kd, e1, p⟩ := Po.of (show Po X.K Wi F G' σ Q ((ofO (ownK E' i)).bind fun kd => if kd.length + more.length ≤ 16777216 then .ok (.dat .non, E'.set i (.own (.dic (mergeM kd more)))) else .stuck) from p)
      by_cases hz : kd.length + more.length ≤ 16777216
      · rw [if_pos hz] at p
        have e1 := ownK_ok e1
        obtain ⟨a', ea, ma, xo⟩ := st'.ownA e1 hv
        cases ea
        obtain ⟨kv1, hl1, dk1⟩ := xo
        obtain ⟨kvm, hm, dkm⟩ := oo
        have hne : a ≠ pp := fun e => np i (by rw [← e]; exact ma)
        have hs : sizeLine = 16777216 := sizeLine_eq
        refine ⟨a, pp, kv1, kvm, rfl, rfl, hne, hl1, hm, by rw [dk1.len, dkm.len]; omega, ?_⟩
        exact p .non G' _ as' (Same.refl _) (st'.write e1 ma ⟨_, upd_same, DKs.merge dkm dk1⟩) .non
      · rw [if_neg hz] at p; exact p.elim
    | _ => exact p.elim
  | .err x E', p => exact p
theorem de_upd {i : Nat} {fn : NF} {apos cpos : Pos} (hv : PE X o (tVar i)) (ha : DN X Wi e fn)
    (hbase : attributeBase o (Str.ofString "update") X.env (eval o X.env) = eval o X.env := by rfl)
    (hfew : ((backTo cpos (starEach [e] X.env)).all (fun x => !x.1) && (backToKw cpos (keywordEach [] X.env)).all (fun x => x.1.isSome)
      && decide ([e].length + ([] : List Keyword).length + (if ([] : List Keyword).isEmpty then 0 else 1) < 30)) = true := by rfl)
    (hline : (apos.endLine == cpos.line) = true := by rfl) (hs : starEach [e] X.env = (false, eval e X.env) :: starEach [] X.env := by rfl) (hpl : (backTo cpos (starEach [] X.env)).any (·.1) = false := by rfl) :
    DE X Wi (.Call (.Attribute o (Str.ofString "update") apos) [e] [] cpos) (eUpd i fn) :=
  PE.imp (pe_bm PySem.F.plainAttrs_dict PySem.F.slot_dict_update PySem.F.type_dict_update mt_update hv (pa_cons (hs := hs) ha pa_nil) hbase hfew hline hs hpl) tUpd_of
end
section
variable {X : Cx} {CX : CXT} {Wi : Wish} {k : Nat} {C pr g a dx : Addr} {fs : List (Str × V)} {f : Str} {fd : FuncData} {ps : List Str} {sp : Sp} {e : Expr} {pos : Pos}
end
section
variable {X : Cx} {Wi : Wish} {tg elt : Expr} {ifs : List Expr} {scope : Scope} {own : List (Str × Nat)} {pos spos py : Pos} {g : GF} {fc : BF} {fe : EF} {ts : List Nat}
end
end DL
namespace DL
open PySem PySem.Spec PyProof.Rows L2 TL
end DL
namespace DL
open PySem PySem.Spec PyProof.Rows L2 TL
theorem Res.assoc {α β γ : Type} (r : Res α) (f : α → Res β) (g : β → Res γ) : (r.bind f).bind g = r.bind fun a => (f a).bind g := by cases r <;> rfl
section
variable {X : Cx} {Wi : Wish} {elt tg iter tg1 iter1 : Expr} {ifs ifs1 : List Expr} {scope : Scope} {own : List (Str × Nat)} {vs1 : List Nat} {pos spos py : Pos} {fi fi1 : IF} {g g1 : GF} {ts ts1 : List Nat} {fc fc1 : BF} {fe : EF}
end
section
variable {X : Cx} {Wi : Wish} {o e : Expr} {fo fe : EF} {apos pos : Pos}
def gSIdx : D → List D → Option D
  | .str x, [.str y] => match Builtin.Str.occurrences x y 0 x.length 1 with
    | i :: _ => some (.int (i : Nat))
    | [] => none
  | _, _ => none
theorem m1d_sidx {K : PySem.W.Frag} : M1D K (fun x xs H Q => ∃ a b i rest, x = .str a ∧ xs = [.str b] ∧ Builtin.Str.occurrences a b 0 a.length 1 = i :: rest ∧ Q (.int (i : Nat)) H) gSIdx := by
  intro G H x y b d Q s ok hb e z
  cases b with
  | str t =>
    obtain ⟨rfl, _⟩ := hb.str
    have e : (match Builtin.Str.occurrences x t 0 x.length 1 with | i :: _ => some (D.int (i : Nat)) | [] => none) = some d := e
    cases q : Builtin.Str.occurrences x t 0 x.length 1 with
    | nil => rw [q] at e; cases e
    | cons i r =>
      rw [q] at e
      cases e
      exact ⟨x, t, i, r, rfl, rfl, q, z _ _ _ (Al.refl s) (.int _)⟩
  | _ => cases e
theorem de_sidx (ho : DE X Wi o fo) (he : DE X Wi e fe) (hs : starEach [e] X.env = [(false, eval e X.env)] := by rfl) (hbase : attributeBase o "index" X.env (eval o X.env) = eval o X.env := by rfl) (hline : (apos.endLine == pos.line) = true := by rfl) :
    DE X Wi (.Call (.Attribute o "index" apos) [e] [] pos) (eM1 gSIdx fo fe) := PE.imp (pe_m1 PySem.F.slot_str_index PySem.F.type_str_index mt_sindex ho he hs hbase hline) (tM1_of m1d_sidx)
end
end DL
namespace DL
open PySem PySem.Spec PyProof.Rows L2 TL
section
variable {prog : Program} {w : World} {A : Around} {E : Value → Shared → Prop} {s : Shared}
end
section
variable {X : Cx} {Wi : Wish} {e se : Expr} {te tse : TE} {k : Int} {p3 pos : Pos} {fe : EF}
end
end DL
namespace DL
open PySem PySem.Spec PyProof.Rows L2 TL
end DL
namespace DL
open PySem PySem.Spec PyProof.Rows L2 TL
mutual
def D.okE : D → Bool
  | .lst xs => okEL xs
  | .tup xs => okEL xs
  | .dic l => l.isEmpty
  | .dit _ => false
  | .dix _ _ => false
  | .obj _ _ => false
  | .non => true
  | .bl _ => true
  | .int _ => true
  | .str _ => true
def okEL : List D → Bool
  | [] => true
  | x :: xs => x.okE && okEL xs
end
section
variable {X : Cx} {pins : List (Addr × Obj)} {σ : L2.St} {G H : Hp} {s : Shared} {v : V} {u : Value} {d : D}
section
variable {P : Program} {w : World} {h : Heap} {a : Addr} {o : Obj} {n : Nat}
end
end
def okShowE (d : D) : Bool := d.okE && d.py.showable && decide (d.py.shown.length ≤ sizeLine) && decide (d.py.depth ≤ 60)
def gReprE : List D → Option D
  | [d] => if okShowE d = true then some (.str d.py.shown) else none
  | _ => none
section
variable {X : Cx} {Wi : Wish} {o : Expr} {fo : EF} {apos pos : Pos}
end
end DL
namespace DL
open PySem PySem.Spec PyProof.Rows L2 TL
end DL
namespace DL
open PySem PySem.Spec PyProof.Rows L2 TL PpSet
theorem addT_ok {X : Cx} {pins : List (Addr × Obj)} {σ : L2.St} {H : Hp} {s : Shared} {E : Value → Shared → Prop} {D x : Addr} {L : List (Addr × List Int)} {k : List Int} {Q : Value → Shared → Prop} (I : Inv X pins σ H s) (hu : X.A.units + 8 < cLine)
    (hD : H D = some (SetTO X.prog X.w D L)) (hL : ∀ p ∈ L, SqT X.K H p.1 (p.2.map V.int)) (hx : SqT X.K H x (k.map V.int)) (few : L.length + 1 < 64)
    (z : ∀ s' L', (k ∈ L.map (·.2) → L' = L) → (k ∉ L.map (·.2) → L'.Perm ((x, k) :: L)) → Inv X pins σ (upd H D (SetTO X.prog X.w D L')) s' → Q .none s') : wpAny (model X.prog X.w) X.A (call (.builtin "set.add") [.ref D, .ref x]) Q E s := by
  have R0 : SetT0 X.prog X.w s.heap D L := (I.hok D _ hD).1
  obtain ⟨es, ep, t, R⟩ := R0.full fun p hp => I.isT (hL p hp)
  have hxT := I.isT hx
  obtain ⟨o, ho, hex, hd⟩ := R.ob
  refine wpAny_call_entry PySem.F.slot_set_add ⟨o, ho, hex.1⟩ PySem.F.entry_set_add ?_ (PySem.F.args_set_add_2 _ _)
  unfold Builtin.«set.add» Builtin.Frozenset.oneOther
  simp only [List.isEmpty_nil, bind_assoc]
  unfold Builtin.Frozenset.addrOf setAdd
  refine wpAny_bind (wpAny_pure ?_)
  (try dsimp only)
  refine wpAny_bind (wpAny_pure ?_)
  (try dsimp only)
  refine wpAny_bind (wpAny_holding (wpAny_bind (wpAny_pyHash_tuple (by show X.A.units + 1 < cLine; omega) hxT ?_)))
  refine add_at (s := { s with toks := s.toks + (k.length + 1) }) R hxT (by show X.A.units + 1 < cLine; omega) few fun b h' L' es' ep' t' sb R' c1 c2 => ?_
  have he : ∃ u, h'.get? D = some u := let ⟨u, hu, _⟩ := R'.ob; ⟨u, hu⟩
  exact wpAny_pure ⟨_, rfl, z _ L' c1 c2 (I.write (e := D) (t' := s.toks + (k.length + 1)) (by rw [hD]; trivial) (.inl rfl) (fun b u hb hu => (sb.2 b hb).trans hu) he (setTO_new R'.t0))⟩
def tSt (K : PySem.W.Frag) (P : Program) (w : World) (wi : TI) (g : TG) (tt : TT) (te : TE) (vs : List Nat) : TE := fun σ H Q => wi σ H fun J H1 => ∀ D, H1 D = none →
  ∃ W : Nat → Nat → Hp → Prop, (∃ m, W 0 m (upd H1 D (SetTO P w D []))) ∧ ∀ i m H, W i m H → (J.stop i H ∧ Q (.ref D) H) ∨
    (J.go i H ∧ ∃ Nx : Hp → Prop, (∀ H', Nx H' → ∃ m', m' < m ∧ W (i + 1) m' H') ∧ ∀ x H', J.yld i H x H' → g x (wipe σ vs) H' fun σ2 H2 => wipe σ2 vs = wipe σ vs ∧ tt σ2 H2 fun b H3 =>
      if b = true then te σ2 H3 fun y H4 => ∃ (p : Addr) (k : List Int) (L : List (Addr × List Int)), y = .ref p ∧ H4 D = some (SetTO P w D L) ∧ (∀ q ∈ L, SqT K H4 q.1 (q.2.map V.int)) ∧ SqT K H4 p (k.map V.int) ∧ L.length + 1 < 64 ∧
        ∀ L', (k ∈ L.map (·.2) → L' = L) → (k ∉ L.map (·.2) → L'.Perm ((p, k) :: L)) → Nx (upd H4 D (SetTO P w D L')) else Nx H3)
abbrev emptySet (w : World) : Obj := { cls := .type "set", dict := none, data := .set #[] 0 (.fresh 0 0 (!w.params.followText "set-order")) }
section
variable {X : Cx} {elt tg iter : Expr} {ifs : List Expr} {scope : Scope} {own : List (Str × Nat)} {pos : Pos} {wi : TI} {g : TG} {tt : TT} {te : TE}
theorem pe_st (hu : X.A.units + 64 < cLine) (hc : X.calm = true) (hN : X.N.Nodup) (hi : PI X tg iter wi) (ok : BlkOk X.N X.env.scope scope own)
    (pgs : ∀ (s : Shared) (H : Hp) (C : Addr) (cl : List (Str × Addr)) (fp : List Addr), PG (X.blk s H scope (compEnvC scope cl C X.env) fp) tg g)
    (pts : ∀ (s : Shared) (H : Hp) (C : Addr) (cl : List (Str × Addr)) (fp : List Addr), PTs (X.blk s H scope (compEnvC scope cl C X.env) fp) ifs tt)
    (pes : ∀ (s : Shared) (H : Hp) (C : Addr) (cl : List (Str × Addr)) (fp : List Addr), PE (X.blk s H scope (compEnvC scope cl C X.env) fp) elt te)
    (hs : ∀ x, foldedSetIterable iter X.env x = pure x := by intro _; rfl) : PE X (.SetComp elt [⟨tg, iter, ifs, 0⟩] scope pos) (tSt X.K X.prog X.w wi g tt te (own.map (·.2))) := by
  constructor
  intro pins s σ H Q I0 h
  rw [eval_SetComp]
  have hfr : ∀ y ∈ scope.names, y.2 = .free → ∃ c, X.env.cells.lookup y.1 = some c := fun y m e => I0.ok.has _ ((ok.free y m e).imp id id)
  refine wpAny_comprehension_free rfl hs (closure_ok hfr) ok.kind (fun y m e => by rw [ok.uniq y m, e]) (thn (hi.run pins s σ H _ I0 h) fun _ _ ha => thn ha fun _ s2 hb => ?_)
  obtain ⟨it, fp, tn, J, H2, rfl, I2, T, sta, fps, q⟩ := hb
  refine newSet_ok (newEnv_comp ?_)
  obtain ⟨D, hD⟩ : ∃ D, D = s2.heap.objs.size := ⟨_, rfl⟩
  obtain ⟨W, ⟨m0, w0⟩, turn⟩ := q D (I2.hok.fresh (by rw [hD]; exact Nat.le_refl _))
  obtain ⟨H3, eH⟩ : ∃ H3, H3 = upd H2 D (SetTO X.prog X.w D []) := ⟨_, rfl⟩
  obtain ⟨s3, e3⟩ : ∃ s3 : Shared, s3 = { s2 with heap := s2.heap.push (emptySet X.w) } := ⟨_, rfl⟩
  have hh3 : s3.heap = s2.heap.push (emptySet X.w) := by rw [e3]
  have up3 : ∀ b o, s2.heap.get? b = some o → s3.heap.get? b = some o := fun b o e => by rw [hh3]; exact Heap.get?_push_of_some _ e
  have I3 : Inv X pins σ H3 s3 := by
    rw [e3, eH]
    refine I2.laid (t' := s2.toks) (fun b o e => Heap.get?_push_of_some _ e) (by rw [hD]; exact Nat.le_refl _) ?_
    rw [hD]
    exact setTO_new (setTR_fresh (Heap.get?_push_size _ rfl)).t0
  have fps3 : ∀ b ∈ fp, FpOk X pins H3 b ∧ b < s3.heap.objs.size := fun b m => by
    obtain ⟨o, e, _⟩ := T.obj _ _ sta b m
    have lt := Heap.lt_size e
    refine ⟨⟨?_, (fps b m).2⟩, by rw [hh3, Heap.size_push]; exact Nat.lt_succ_of_lt lt⟩
    rw [eH, upd_ne (by rw [hD]; exact Nat.ne_of_lt lt)]
    exact (fps b m).1
  have I4 := block_start I3 ok hN fps3
  rw [← hD, ← e3]
  rw [← eH] at w0
  have sta3 := T.keep _ _ _ sta fun b _ o e => up3 b o e
  have g4 := pgs s3 H3 s3.heap.objs.size (cellsFrom (s3.heap.objs.size + 1) scope.names (cloFrom X.env.cells scope.names [])) fp
  have t4 := pts s3 H3 s3.heap.objs.size (cellsFrom (s3.heap.objs.size + 1) scope.names (cloFrom X.env.cells scope.names [])) fp
  have e4 := pes s3 H3 s3.heap.objs.size (cellsFrom (s3.heap.objs.size + 1) scope.names (cloFrom X.env.cells scope.names [])) fp
  clear eH
  have nf : ∀ b ∈ fp, H3 b = none := fun b m => (fps3 b m).1.1
  show codeAny _ _ (.compStart (.SetComp elt [⟨tg, iter, ifs, 0⟩] scope pos) 0 (.ref it) (.ref D) (compEnvC scope (cellsFrom (s3.heap.objs.size + 1) scope.names (cloFrom X.env.cells scope.names [])) s3.heap.objs.size X.env))
    (compPost (model X.prog X.w) X.A X.xe none (EP X pins σ Q) (.ref D) s3.heap.objs.size) { s3 with heap := pushCells (s3.heap.push { cls := .type "dict", data := .dict #[] }) scope.names }
  obtain ⟨C, hC⟩ : ∃ C, C = s3.heap.objs.size := ⟨_, rfl⟩
  obtain ⟨s4, hs4⟩ : ∃ s4 : Shared, s4 = { s3 with heap := pushCells (s3.heap.push { cls := .type "dict", data := .dict #[] }) scope.names } := ⟨_, rfl⟩
  have sta4 : tn 0 s4.heap := T.keep _ _ _ sta3 fun b _ o e => by rw [hs4]; exact pushCells_keeps _ _ _ _ (Heap.get?_push_of_some _ e)
  rw [← hs4] at I4 ⊢
  generalize hce : compEnvC scope (cellsFrom (s3.heap.objs.size + 1) scope.names (cloFrom X.env.cells scope.names [])) s3.heap.objs.size X.env = ce at I4 g4 t4 e4 ⊢
  have cloc : ce.locals = C := by rw [← hce, hC]; rfl
  rw [← hC]
  -- what is walked stands apart, in the block's own context
  have apart : ∀ {σ' : L2.St} {H' : Hp} {s' : Shared}, Inv (X.blk s3 H3 scope ce fp) [] σ' H' s' → (∀ b ∈ fp, H' b = none) → ∀ b ∈ fp, FpOk (X.blk s3 H3 scope ce fp) [] H' b := fun J nb b m =>
    ⟨nb b m, (J.ok.exf b m).1, J.ok.exfs b m, .inl m, fun x c e => (J.ok.exf b m).2 x c e, fun p hp => by
      have hp : p ∈ ([] : List (Addr × Obj)) ++ [] := hp
      simp at hp⟩
  have units : (X.blk s3 H3 scope ce fp).A.units + 8 < cLine := by
    show X.A.units + 8 < cLine
    omega
  have turns : codeAny (model X.prog X.w) X.A (.compLoop (.SetComp elt [⟨tg, iter, ifs, 0⟩] scope pos) 0 (.ref it) (.ref D) ce) (compPost (model X.prog X.w) X.A X.xe none (EP X pins σ Q) (.ref D) C) s4 := by
    refine compLoopS_any (fun n t => ∃ i H', Inv (X.blk s3 H3 scope ce fp) [] (wipe σ (own.map (·.2))) H' t ∧ tn i t.heap ∧ (∀ b ∈ fp, H' b = none) ∧ W i n H') ?_ m0 ⟨0, H3, I4, sta4, nf, w0⟩
    rintro n s5 ⟨i, H5, I5, sta5, n5, w5⟩
    rcases turn i n H5 w5 with ⟨stop, qq⟩ | ⟨go, Nx, less, step⟩
    · refine thnF (T.done (X.blk s3 H3 scope ce fp) rfl rfl rfl hc i [] s5 _ H5 (fun _ _ => False) I5 (apart I5 n5) sta5 stop) fun r s6 ⟨hr, I6⟩ => ?_
      subst hr
      have back : Inv X pins σ H5 s6 := I3.call' (ch := fp) I6.os I6.base I6.hok I6.bare fun b m => let f := (fps3 b m).1; ⟨f.2.2.2.1, f.2.1, f.2.2.2.2.1, f.2.2.2.2.2⟩
      obtain ⟨mm, hns, _⟩ := I6.loc
      have hns : s6.heap.Ns ce.locals mm := hns
      have hfree : H5 ce.locals = none := I6.free
      rw [cloc] at hns hfree
      obtain ⟨f0, f1, f2, f3, f4, f5⟩ := I3.fpOk (by rw [hC]; exact Nat.le_refl _) hfree
      exact ⟨mm, hns, fun h'' sb => ⟨.ref D, H5, back.turned (t' := s6.toks) (fun b o hb e => (sb.2 b hb).trans e) f0 f1 f3 f4 f5, rfl, qq⟩⟩
    · refine thnF (T.item (X.blk s3 H3 scope ce fp) rfl rfl rfl hc i [] s5 _ H5 (fun _ _ => False) I5 (apart I5 n5) sta5 go) fun r s6 ⟨u, hr, h6⟩ => ?_
      subst hr
      refine thnF h6 fun _ s7 ⟨x, H7, I7, r7, y7, sta7, n7⟩ => ?_
      have I7p := I7.pinned (apart I7 n7) (T.obj _ _ sta7)
      refine thnF (g4.run _ s7 _ H7 x u _ I7p r7 (step x H7 y7)) fun _ s8 ⟨σ8, H8, I8, hw8, q8⟩ => ?_
      refine thnF (t4.run _ s8 σ8 H8 _ I8 q8) fun b s9 ⟨H9, I9, q9⟩ => ?_
      have close : ∀ {s' : Shared} {H' : Hp}, Inv (X.blk s3 H3 scope ce fp) ([] ++ pinsAt fp s7.heap) σ8 H' s' → Nx H' → ∃ m, m < n ∧ ∃ i H', Inv (X.blk s3 H3 scope ce fp) [] (wipe σ (own.map (·.2))) H' s' ∧ tn i s'.heap ∧ (∀ b ∈ fp, H' b = none) ∧ W i m H' := fun {s' H'} J nx => by
        obtain ⟨m', lt, w'⟩ := less H' nx
        have still : ∀ b ∈ fp, ∀ o, s7.heap.get? b = some o → s'.heap.get? b = some o ∧ H' b = none := fun b m o e => by
          have z := J.pin (b, o) (List.mem_append_right _ (List.mem_append_right _ (mem_pinsAt m e)))
          exact ⟨z.1, z.2.1⟩
        have len : (wipe σ (own.map (·.2))).length = σ8.length := by rw [← hw8, wipe_length]
        refine ⟨m', lt, i + 1, H', (J.unpinned (pins := [])).weak len (fun j v e => by rw [← hw8] at e; exact (wipe_some e).1), T.keep _ _ _ sta7 fun b m o e => (still b m o e).1, fun b m => ?_, w'⟩
        obtain ⟨o, e, _⟩ := T.obj _ _ sta7 b m
        exact (still b m o e).2
      cases b with
      | false =>
        simp only [Bool.false_eq_true, if_false] at q9 ⊢
        exact close I9 q9
      | true =>
        simp only [if_true] at q9 ⊢
        refine thnF (e4.run _ s9 σ8 H9 _ I9 q9) fun z s10 ⟨yv, H10, I10, r10, pa, k, L, ey, hD10, hL, hk, few, nx⟩ => ?_
        subst ey
        cases (show z = Value.ref pa from r10)
        exact addT_ok (X := X.blk s3 H3 scope ce fp) I10 units hD10 hL hk few fun s11 L' c1 c2 I11 => close I11 (nx L' c1 c2)
  exact codeAny_compStart_set turns (T.self X.A 0 _ _ _ sta4 turns)
end
end DL
namespace DL
open PySem PySem.Spec PyProof.Rows L2

abbrev exTl : List Value := [.type "Exception", .type "BaseException", .type "object"]
/-- what the class must say -/
structure ExCls (K : PySem.W.Frag) (C : Addr) : Prop where
  ei : PySem.W.excInitIn K C exTl "Exception.__new__" = true
  ov : PySem.W.excOver K C exTl = true
  ex : PySem.W.subIn K (.ref C) (.type "BaseException") = some true
  xx : PySem.W.subIn K (.ref C) (.type "Exception") = some true
  ty : PySem.W.typeIn K (.ref C) = some (.type "type")
  kp : PySem.W.keepIn K (.ref C) = true
  hd : PySem.W.hasDictIn K C = true
  sa : PySem.W.findIn K (.ref C) "__setattr__" = some (some (.builtin "object.__setattr__"))
  me : PySem.W.mroIn K C (.ref C) = some true
  su : PySem.W.ks_superIn K C C "__init__" = some (some (.builtin "Exception.__init__"))
  th : PySem.W.nsIn K cStatics "thirdparty.any" = some none
  ga : PySem.W.findIn K (.ref C) "__getattribute__" = some (some (.builtin "BaseException.__getattribute__"))
  gg : PySem.W.findIn K (.ref C) "__getattr__" = some none
/-- its __init__, a def that closes over the class -/
structure ExFn (P : Program) (K : PySem.W.Frag) (mg : Str → Option Value) (C fI : Addr) (qual : Str) (st : Stmt) : Prop where
  ini : PySem.W.findIn K (.ref C) "__init__" = some (some (.ref fI))
  tyI : PySem.W.typeIn K (.ref fI) = some (.type "function")
  fn : ∃ (oc kV dc pm cd ct clc cll : Value) (od an cld cdd : Option Addr) (osl csl ccs : Array (Option Value)) (cda cc : Addr) (vs : Array Value) (file : Str) (tf : Tok),
    K.lookup fI = some ⟨oc, od, .func (PySem.W.fnX "__init__" qual (defArgs st) (defBody st) (defScope st) [("__class__", cc)] .none kV dc pm an cd ct), osl⟩ ∧ cd = .ref cda ∧ PySem.W.codeIn K cd qual = true ∧
    K.lookup cda = some ⟨clc, cdd, .fields vs, ccs⟩ ∧ vs[2]? = some (.str file tf) ∧ ((P.main.file : Str) == file) = true ∧ K.lookup cc = some ⟨cll, cld, .cell (some (.ref C)), csl⟩
  gs : mg "super" = none
  top : (P.main.scope.names.lookup ("super" : Str)).isSome = false

section
variable {prog : Program} {w : World} {A : Around} {K : PySem.W.Frag} {E : Value → Shared → Prop} {h : Heap} {g : Array GenState} {dr : PySem.Drawn} {t : Nat} {os : OsState} {C x : Addr}
theorem ExCls.obj (T : ExCls K C) (X : K.In h) : ∃ nm N qn bs bm hdct sn sub ab col dd k0 k1 k2 k3 k5, h.get? C = some (excClassObj nm qn C N bs bm hdct sn sub ab col dd k0 k1 k2 k3 k5 "Exception.__new__") ∧ ∀ Y : String, bm.contains (.type Y) = exTl.contains (.type Y) := PySem.W.excInit_of X T.ei
/-- super().__init__(text) -/
def exSup (msg : Str) (k : Nat) (p0 p1 p2 p3 p4 p5 : Pos) : Stmt := .Expr (.Call (.Attribute (.Call (.Name "super" p0) [] [] p1) "__init__" p2) [.Constant (.str msg) k p3] [] p4) p5
/-- self.f = a parameter -/
def exPut (f par : Str) (p6 p7 p8 p9 : Pos) : Stmt := .Assign [.Attribute (.Name "self" p6) f p7] (.Name par p8) p9
/-- the text of super().__init__(msg), where it stands -/
structure SupAt (qual : Str) (scope : Scope) (msg : Str) (k : Nat) (p0 p1 p2 p3 p4 p5 : Pos) : Prop where
  sw : ∀ (L fI cda cc : Addr), swapsWith (.Call (.Attribute (.Call (.Name "super" p0) [] [] p1) "__init__" p2) [.Constant (.str msg) k p3] [] p4) none p5.line (PySem.W.ksEnv qual scope L fI (.ref cda) cc) = pure false
  it : ∀ (L fI cda cc : Addr), interactive (PySem.W.ksEnv qual scope L fI (.ref cda) cc) = false
  ev : ∃ pl : Sem Bool, ∀ (L fI cda cc : Addr), eval (.Call (.Attribute (.Call (.Name "super" p0) [] [] p1) "__init__" p2) [.Constant (.str msg) k p3] [] p4) (PySem.W.ksEnv qual scope L fI (.ref cda) cc) = (do
      let o ← attributeBase (.Call (.Name "super" p0) [] [] p1) "__init__" (PySem.W.ksEnv qual scope L fI (.ref cda) cc) (eval (.Call (.Name "super" p0) [] [] p1) (PySem.W.ksEnv qual scope L fI (.ref cda) cc))
      standAt p2.atName
      let (f, first) ← holding [o] (getMethod o "__init__" pl)
      callWith p4 f first (backTo p4 (starEach [.Constant (.str msg) k p3] (PySem.W.ksEnv qual scope L fI (.ref cda) cc))) [])
/-- what the scope of such an __init__ says -/
structure SupSc (scope : Scope) : Prop where
  ks : scope.names.lookup ("super" : Str) = some .globalImplicit
  kc : scope.names.lookup ("__class__" : Str) = some .free
  ka : scope.names.lookup ("self" : Str) = some .local
  kk : scope.kind = .function
  nc : ∀ x ∈ scope.names, x.2 ≠ .cell
  co : scope.isCoroutine = false
  gn : scope.isGenerator = false
/-- def __init__(self, par): super().__init__(msg); self.f = par -/
structure ExText1 (qual : Str) (st : Stmt) (f par : Str) : Prop where
  sc : SupSc (defScope st)
  lp : (defScope st).names.lookup par = some .local
  np : par ≠ "self"
  ha : ∃ ar : Arg, ((defArgs st).posonlyargs ++ (defArgs st).args).head? = some ar ∧ ar.arg = "self"
  bd : ∀ (cc : Addr) (kV dc pm cd ct : Value) (an : Option Addr) (x u : Value), bindArgs (PySem.W.fnX "__init__" qual (defArgs st) (defBody st) (defScope st) [("__class__", cc)] .none kV dc pm an cd ct) ⟨[x, u], []⟩ = pure [(("self" : Str), x), (par, u)]
  body : ∃ msg k p0 p1 p2 p3 p4 p5 p6 p7 p8 p9, defBody st = [exSup msg k p0 p1 p2 p3 p4 p5, exPut f par p6 p7 p8 p9] ∧ SupAt qual (defScope st) msg k p0 p1 p2 p3 p4 p5 ∧
    ∀ (L fI cda cc : Addr), swapsWith (.Name par p8) (some (.Attribute (.Name "self" p6) f p7)) p9.line (PySem.W.ksEnv qual (defScope st) L fI (.ref cda) cc) = pure false
  nd : (par == ("__debug__" : Str)) = false
/-- def __init__(self): super().__init__(msg) -/
structure ExText0 (qual : Str) (st : Stmt) : Prop where
  sc : SupSc (defScope st)
  ha : ∃ ar : Arg, ((defArgs st).posonlyargs ++ (defArgs st).args).head? = some ar ∧ ar.arg = "self"
  bd : ∀ (cc : Addr) (kV dc pm cd ct : Value) (an : Option Addr) (x : Value), bindArgs (PySem.W.fnX "__init__" qual (defArgs st) (defBody st) (defScope st) [("__class__", cc)] .none kV dc pm an cd ct) ⟨[x], []⟩ = pure [(("self" : Str), x)]
  body : ∃ msg k p0 p1 p2 p3 p4 p5, defBody st = [exSup msg k p0 p1 p2 p3 p4 p5] ∧ SupAt qual (defScope st) msg k p0 p1 p2 p3 p4 p5
end
end DL
namespace DL
open PySem PySem.Spec PyProof.Rows L2

section
variable {X : Cx} {pins : List (Addr × Obj)} {σ : L2.St} {H : Hp} {Q : XK} {C fI : Addr} {qual : Str} {st : Stmt} {f par x : Str} {e : Expr} {te : TE} {p pos : Pos}
end
end DL
namespace DL
open PySem PySem.Spec PyProof.Rows L2

section
variable {P : Program} {w : World} {K : PySem.W.Frag} {mg : Str → Option Value} {base : Heap} {k : Nat} {f : Addr} {fd : FuncData} {ps N : List Str} {x qual : Str} {st : Stmt} {fb : SF} {sp : Sp}
/-- a def that lets nothing out, where others may -/
theorem FnG.any {CX : CXT} (F : FnG P w K mg base CX0 k f fd ps sp) : FnG P w K mg base CX k f fd ps sp :=
  ⟨F.len, fun A outer s H args us vs Q E hg hr he hb hv hs => codeAny_mono (F.go A outer s H args us vs Q E hg hr he hb hv hs) fun r s' q => by
    cases r with
    | error e => exact False.elim q
    | ok fl =>
      cases fl with
      | ret u => exact q
      | next => exact q
      | brk => exact q
      | cont => exact q⟩
end
end DL
namespace DL
open PySem PySem.Spec PyProof.Rows L2

theorem PoA.bindS {K : PySem.W.Frag} {Wi : Wish} {F : Fr} {G : Hp} {σ : L2.St} {Dn : Ends} {r : Res (List W × Env)} {g : List W × Env → Res (Fl × Env)} (h : PoS K Wi F G Dn (r.bind g)) :
    PoA K Wi F G σ (MidA K F G σ fun _ ws G1 _ E1 _ => PoS K Wi F G1 Dn (g (ws, E1))) r := by
  match r, h with
  | .ok (w, E'), h => exact fun v G' H' as' s st wo => ⟨w, G', E', as', s, st, wo, PoS.up s h⟩
  | .err x E', h => exact fun c dx G' H' as' s st xo => h c dx σ G' H' as' s st xo
section
variable {X : Cx} {Wi : Wish} {C fI : Addr} {qual : Str} {st : Stmt} {f par x : Str} {e : Expr} {fs : AF} {p pos pos' : Pos}
end

abbrev HdT := Value × Option Nat × (Addr → Value → Option Addr → TS)
inductive HdsX (X : Cx) : List ExceptHandler → List HdT → Prop
  | nil : HdsX X [] []
  | bare {x : Str} {c : Value} {ts : Addr → Value → Option Addr → TS} {b : Stmt} {su : List Stmt} {np pos' : Pos} {hds : List ExceptHandler} {l : List HdT} (hc : Names X x c)
      (hsu : ∀ (a : Addr) (oe : Obj) (cls : Value) (d : Option Addr) (pn : List (Addr × Obj)), Zc cls d oe → (∃ vs, oe.data = .fields vs) → PSs (X.suite a ((a, oe) :: pn)) (b :: su) (ts a cls d)) (r : HdsX X hds l) :
      HdsX X (.ExceptHandler (some (.Name x np)) none (b :: su) pos' :: hds) ((c, none, ts) :: l)
  | as_ {x n : Str} {i : Nat} {c : Value} {ts : Addr → Value → Option Addr → TS} {b : Stmt} {su : List Stmt} {np pos' : Pos} {hds : List ExceptHandler} {l : List HdT} (hc : Names X x c) (hi : X.N[i]? = some n) (hl : X.env.kindOf n = some .local)
      (hsu : ∀ (a : Addr) (oe : Obj) (cls : Value) (d : Option Addr) (pn : List (Addr × Obj)), Zc cls d oe → (∃ vs, oe.data = .fields vs) → PSs (X.suite a ((a, oe) :: pn)) (b :: su) (ts a cls d)) (r : HdsX X hds l) :
      HdsX X (.ExceptHandler (some (.Name x np)) (some n) (b :: su) pos' :: hds) ((c, some i, ts) :: l)
section
variable {X : Cx} {body : List Stmt} {h0 : ExceptHandler} {hds : List ExceptHandler} {l : List HdT} {pos : Pos} {tb : WX → TS} {Wout : WX}
end
end DL
namespace DL
open PySem PySem.Spec PyProof.Rows L2

/-- a clause: the classes it takes, those it lets pass, its name's slot, what its suite does -/
structure Hd where
  yes : List Addr
  no : List Addr
  i : Option Nat
  su : ExV → SF
def fits : Option Nat → Env → Bool
  | none, _ => true
  | some i, E => decide (i < E.length)
/-- what is known of the exception within its suite -/
def XH (K : PySem.W.Frag) (i : Option Nat) (a : Addr) (cls : Value) (d : Option Addr) (σ : L2.St) (G H : Hp) (x : ExV) : Prop := (∀ j, i = some j → σ[j]? = some (some (.ref a))) ∧ Same G H ∧ ExOk K G x cls d
theorem ExOk.up {K : PySem.W.Frag} {G G' : Hp} {x : ExV} {c : Value} {d : Option Addr} (s : Same G G') (h : ExOk K G x c d) : ExOk K G' x c d := by
  obtain ⟨h1, h2⟩ := h
  refine ⟨h1, ?_⟩
  cases d with
  | none => exact h2
  | some d => obtain ⟨fs, e, q⟩ := h2; exact ⟨fs, s _ _ e, q.up s⟩
theorem XH.up {K : PySem.W.Frag} {i : Option Nat} {a : Addr} {cls : Value} {d : Option Addr} {σ : L2.St} {G H G' H' : Hp} {x : ExV} (al : Al G H G' H') (h : XH K i a cls d σ G H x) : XH K i a cls d σ G' H' x := ⟨h.1, al.s, h.2.2.up al.g⟩
def tSu (K : PySem.W.Frag) (i : Option Nat) (su : ExV → SF) (a : Addr) (cls : Value) (d : Option Addr) : TS := fun Dn σ H => ∃ F G E as x, StE K F G H σ E as ∧ XH K i a cls d σ G H x ∧ PoS K W0 F G Dn (su x E)
/-- a suite: whatever the exception -/
def DSu (X : Cx) (i : Option Nat) (suite : List Stmt) (su : ExV → SF) : Prop := ∀ (a : Addr) (oe : Obj) (cls : Value) (d : Option Addr) (pn : List (Addr × Obj)), Zc cls d oe → (∃ vs, oe.data = .fields vs) → PSs (X.suite a ((a, oe) :: pn)) suite (tSu X.K i su a cls d)
inductive HdsD (X : Cx) : List ExceptHandler → List Value → List Hd → Prop
  | nil : HdsD X [] [] []
  | bare {x : Str} {c : Value} {yes no : List Addr} {su : ExV → SF} {b : Stmt} {ss : List Stmt} {np pos' : Pos} {hds : List ExceptHandler} {cs : List Value} {l : List Hd} (hc : Names X x c)
      (hy : ∀ C ∈ yes, PySem.W.exmOne X.K (.ref C) c = some true) (hn : ∀ C ∈ no, PySem.W.exmOne X.K (.ref C) c = some false) (hsu : DSu X none (b :: ss) su) (r : HdsD X hds cs l) :
      HdsD X (.ExceptHandler (some (.Name x np)) none (b :: ss) pos' :: hds) (c :: cs) (⟨yes, no, none, su⟩ :: l)
  | as_ {x n : Str} {i : Nat} {c : Value} {yes no : List Addr} {su : ExV → SF} {b : Stmt} {ss : List Stmt} {np pos' : Pos} {hds : List ExceptHandler} {cs : List Value} {l : List Hd} (hc : Names X x c) (hi : X.N[i]? = some n) (hl : X.env.kindOf n = some .local)
      (hy : ∀ C ∈ yes, PySem.W.exmOne X.K (.ref C) c = some true) (hn : ∀ C ∈ no, PySem.W.exmOne X.K (.ref C) c = some false) (hsu : DSu X (some i) (b :: ss) su) (r : HdsD X hds cs l) :
      HdsD X (.ExceptHandler (some (.Name x np)) (some n) (b :: ss) pos' :: hds) (c :: cs) (⟨yes, no, some i, su⟩ :: l)
section
variable {K : PySem.W.Frag} {Wi : Wish} {F : Fr} {G G' H' : Hp} {Dn : Ends} {σ' : L2.St} {E' : Env} {as' : Nat → List Addr} {x : ExV} {c : Value} {dx : Option Addr}
end
theorem all_cons {p : Addr → Prop} {a : Addr} {l : List Addr} (h : p a) (r : ∀ C ∈ l, p C) : ∀ C ∈ a :: l, p C := fun C hC => by
  rcases List.mem_cons.mp hC with e | hC
  · rw [e]; exact h
  · exact r C hC
section
variable {X : Cx} {i : Option Nat} {e c b : Expr} {es : List Expr} {g gc gb : ExV → Option D} {gs : ExV → Option (List D)} {pos p : Pos}
/-- what isinstance asks of an exception's class -/
structure ExIs (K : PySem.W.Frag) (C : Addr) : Prop where
  ca : PySem.W.findIn K (.ref C) "__class__" = some (some (.builtin "object.__class__"))
  cn : PySem.W.specialIn K (.builtin "object.__class__") "__get__" = some (some (.builtin "getset_descriptor.__get__"))
  ct : PySem.W.takesIn K (.builtin "object.__class__") = some true
  mo : PySem.W.mroIn K C (.type "object") = some true
end
end DL
namespace DL
open PySem PySem.Spec PyProof.Rows L2 TL

section
variable {M : Model} {A : Around} {E : Value → Shared → Prop} {s : Shared} {Q : Value → Shared → Prop}
end

section
variable {X : Cx} {Wi : Wish}
end

section
variable {X : Cx} {Wi : Wish} {e e1 o : Expr} {es : List Expr} {te : TE} {ta : TA} {f fo : EF} {fs : AF} {y z : Str} {j k : Nat} {c0 c1 apos pos : Pos}
end

end DL
namespace DL
open PySem PySem.Spec PyProof.Rows L2 TL
section
variable {X : Cx} {CX : CXT} {k n : Nat} {f C : Addr} {fd : FuncData} {ps ks : List Str} {Wi : Wish} {x m : Str} {p pos apos kpos : Pos} {e o : Expr} {es : List Expr} {kws : List Keyword} {fs fk : AF} {fo : EF} {fm : List D → Res (List (Str × D))} {gm : List D → Res D} {sp : Sp}
end

section
variable {P : Program} {w : World} {K : PySem.W.Frag} {mg : Str → Option Value} {base : Heap} {k : Nat} {f : Addr} {fd : FuncData} {ps N : List Str} {x qual : Str} {st : Stmt} {fb : SF}
end
section
variable {X : Cx} {CX : CXT} {k n i : Nat} {f g C q0 : Addr} {mc : Value} {fd : FuncData} {ps ks : List Str} {Wi : Wish} {x m : Str} {p pos apos kpos : Pos} {e o : Expr} {es : List Expr} {kws : List Keyword} {fs fk : AF} {fo : EF} {fm : List D → Res (List (Str × D))} {gm : List D → Res D} {sp : Sp}
end
end DL
namespace DL
open PySem PySem.Spec PyProof.Rows L2 TL
section
variable {X : Cx} {CX : CXT} {Wi : Wish} {a b : Expr} {fa fb : EF} {pos : Pos} {n : Nat} {C f : Addr} {fd : FuncData} {ps : List Str} {ts : List String} {gm : List D → Res D}
end
end DL
namespace DL
open PySem PySem.Spec PyProof.Rows L2 TL
section
variable {X : Cx} {Wi : Wish} {e : Expr} {fe : EF} {pos : Pos}
inductive DJ (X : Cx) (Wi : Wish) : List Expr → List EF → Prop where
  | nil : DJ X Wi [] []
  | cons {e : Expr} {f : EF} {es : List Expr} {fs : List EF} (h : DE X Wi e f) (r : DJ X Wi es fs) : DJ X Wi (e :: es) (f :: fs)
end
section
variable {X : Cx} {CX : CXT} {Wi : Wish} {a b : Expr} {fa fb : EF} {pos : Pos} {n : Nat} {C f : Addr} {fd : FuncData} {ps : List Str} {ts : List String} {oc : List Addr} {gm : List D → Res D}
end
end DL
namespace DL
open PySem PySem.Spec PyProof.Rows L2 TL
theorem DDs.set {K : PySem.W.Frag} {G : Hp} {v : V} {d : D} (h : DD K G v d) : ∀ {vs : List V} {ds : List D} (n : Nat), DDs K G vs ds → DDs K G (vs.set n v) (ds.set n d)
  | _, _, _, .nil => .nil
  | _, _, 0, .cons _ b => .cons h b
  | _, _, n + 1, .cons a b => .cons a (DDs.set h n b)
end DL
namespace DL
open PySem PySem.Spec PyProof.Rows L2 TL
end DL
namespace DL
open PySem PySem.Spec PyProof.Rows L2 TL
end DL
namespace DL
open PySem PySem.Spec PyProof.Rows L2 TL
section
variable {X : Cx} {Wi : Wish} {e se : Expr} {te tse : TE} {p3 pos : Pos} {fe : EF}
end
end DL
namespace DL
open PySem PySem.Spec PyProof.Rows L2 TL
section
variable {X : Cx} {CX : CXT} {Wi : Wish} {a b : Expr} {fa fb : EF} {pos : Pos} {n : Nat} {C f : Addr} {fd : FuncData} {ps : List Str} {ts : List String} {cs : List Addr} {gm : List D → Res D}
end
end DL
namespace DL
open PySem PySem.Spec PyProof.Rows L2 TL
section
variable {prog : Program} {w : World} {A : Around} {E : Value → Shared → Prop} {s : Shared} {z TI TO T i1 i2 : Addr} {fp1 fp2 : List Addr} {n1 n2 i : Nat} {P1 P2 : Nat → Value → Prop} {St1 St2 : Nat → Heap → Prop} {f : Bool} {oT : Obj}
/-- next of a zip whose tuple is still out, over iterators of any kind -/
theorem zipH_item {Q : Value → Shared → Prop} (S : ZipSep2 z TI TO i1 i2 fp1 fp2) (D1 : Draws prog w A i1 fp1 n1 P1 St1) (D2 : Draws prog w A i2 fp2 n2 P2 St2)
    (hz : IsZipHeld s.heap z TI TO T f) (hT : s.heap.get? T = some oT) (hTI : IsTupOf2 s.heap TI (.ref i1) (.ref i2)) (st1 : St1 i s.heap) (st2 : St2 i s.heap) (hlt1 : i < n1) (hlt2 : i < n2)
    (hQ : ∀ x1 x2 h' tk, P1 i x1 → P2 i x2 → IsZipHeld h' z TI TO T true → St1 (i + 1) h' → St2 (i + 1) h' → IsTupOf2 h' s.heap.objs.size x1 x2 →
      (∀ c o, c ≠ z → c ≠ i1 → c ≠ i2 → s.heap.get? c = some o → h'.get? c = some o) → Q (.ref s.heap.objs.size) { s with heap := h', toks := tk }) :
    wpAny (model prog w) A (Builtin.«zip.__next__» ⟨[.ref z], []⟩) (fun fin s' => ∃ v, fin = .done (.ret v) ∧ Q v s') E s := by
  obtain ⟨hp, g, d, tk0, os⟩ := s
  show wpAny _ _ (field (.ref z) 2 >>= _) _ _ _
  refine wpAny_bind (wpAny_field hz rfl (x := .bool false) rfl ?_)
  show wpAny _ _ (field (.ref z) 3 >>= _) _ _ _
  refine wpAny_bind (wpAny_field hz rfl (x := .ref TI) rfl ?_)
  refine wpAny_bind (wpAny_seqItems hTI rfl ?_)
  show wpAny _ _ (Builtin.SmallTypes.ownedTupleIsFree (.ref z) >>= _) _ _ _
  refine wpAny_bind (wpAny_tupleHeld_zip hz hT fun g0 hz0 hs0 => ?_)
  simp only [Bool.false_eq_true, if_false]
  replace hs0 : Heap.SameBut z hp g0 := hs0
  refine wpAny_bind ?_
  rw [← Array.forIn_toList]
  simp only [List.forIn_cons, List.forIn_nil]
  refine wpAny_bind (wpAny_bind (wpAny_holding ?_))
  show wpAny _ _ (Builtin.SmallTypes.nextOf (.ref i1) >>= _) _ _ ⟨g0, g, d, tk0, os⟩
  refine wpAny_bind (D1.item i _ _ _ hlt1 (D1.over st1 hs0 S.zf1) fun x1 p1 tk1 hx1 sn1 hp1 => wpAny_pure ?_)
  replace hp1 : Heap.SameBut i1 g0 p1 := hp1
  refine wpAny_pure ?_
  refine wpAny_bind (wpAny_bind (wpAny_holding ?_))
  show wpAny _ _ (Builtin.SmallTypes.nextOf (.ref i2) >>= _) _ _ ⟨p1, g, d, tk1, os⟩
  refine wpAny_bind (D2.item i _ _ _ hlt2 (D2.over (D2.over st2 hs0 S.zf2) hp1 S.sep1_2) fun x2 p2 tk2 hx2 sn2 hp2 => wpAny_pure ?_)
  replace hp2 : Heap.SameBut i2 p1 p2 := hp2
  refine wpAny_pure (wpAny_pure ?_)
  show wpAny _ _ (newTuple [x1, x2] >>= _) _ _ ⟨p2, g, d, tk2, os⟩
  refine wpAny_bind (wpAny_newTuple ?_)
  have hsz : p2.objs.size = hp.objs.size := by rw [hp2.1, hp1.1, hs0.1]
  have hz₃ : IsZipHeld p2 z TI TO T true := hp2.extBut _ _ S.zi2 (hp1.extBut _ _ S.zi1 hz0)
  have hk : ∀ c o, c ≠ z → c ≠ i1 → c ≠ i2 → hp.get? c = some o → p2.get? c = some o := fun c o c1 c2 c3 e => hp2.extBut _ _ c3 (hp1.extBut _ _ c2 (hs0.extBut _ _ c1 e))
  have up : ∀ c o, p2.get? c = some o → (p2.push { cls := .type "tuple", data := .seq #[x1, x2] }).get? c = some o := fun c o e => Heap.get?_push_of_some _ e
  refine wpAny_pure ⟨_, rfl, ?_⟩
  show Q (.ref p2.objs.size) _
  have hp' : IsTupOf2 (p2.push { cls := .type "tuple", data := .seq #[x1, x2] }) p2.objs.size x1 x2 := Heap.get?_push_size _ rfl
  rw [hsz] at hp' ⊢
  exact hQ x1 x2 _ tk2 hx1 hx2 (up _ _ hz₃) (D1.frame _ _ _ (D1.over sn1 hp2 S.sep2_1) fun b _ o e => up b o e) (D2.frame _ _ _ sn2 fun b _ o e => up b o e) hp' fun c o c1 c2 c3 e => up c o (hk c o c1 c2 c3 e)
theorem zipH_end {Q : Fin → Shared → Prop} (S : ZipSep2 z TI TO i1 i2 fp1 fp2) (D1 : Draws prog w A i1 fp1 n1 P1 St1) (D2 : Draws prog w A i2 fp2 n2 P2 St2)
    (hz : IsZipHeld s.heap z TI TO T f) (hT : s.heap.get? T = some oT) (hTI : IsTupOf2 s.heap TI (.ref i1) (.ref i2)) (st1 : St1 i s.heap) (st2 : St2 i s.heap) (hle1 : i ≤ n1) (hle2 : i ≤ n2) (hend : i = n1 ∨ i = n2)
    (hE : ∀ h' tk e, (∀ c o, c ≠ z → c ≠ i1 → c ≠ i2 → s.heap.get? c = some o → h'.get? c = some o) → (∃ o, h'.get? e = some o ∧ o.cls = .type "StopIteration") → E (.ref e) { s with heap := h', toks := tk }) :
    wpAny (model prog w) A (Builtin.«zip.__next__» ⟨[.ref z], []⟩) Q E s := by
  obtain ⟨hp, g, d, tk0, os⟩ := s
  show wpAny _ _ (field (.ref z) 2 >>= _) _ _ _
  refine wpAny_bind (wpAny_field hz rfl (x := .bool false) rfl ?_)
  show wpAny _ _ (field (.ref z) 3 >>= _) _ _ _
  refine wpAny_bind (wpAny_field hz rfl (x := .ref TI) rfl ?_)
  refine wpAny_bind (wpAny_seqItems hTI rfl ?_)
  show wpAny _ _ (Builtin.SmallTypes.ownedTupleIsFree (.ref z) >>= _) _ _ _
  refine wpAny_bind (wpAny_tupleHeld_zip hz hT fun g0 hz0 hs0 => ?_)
  simp only [Bool.false_eq_true, if_false]
  replace hs0 : Heap.SameBut z hp g0 := hs0
  refine wpAny_bind ?_
  rw [← Array.forIn_toList]
  simp only [List.forIn_cons, List.forIn_nil]
  refine wpAny_bind (wpAny_bind (wpAny_holding ?_))
  show wpAny _ _ (Builtin.SmallTypes.nextOf (.ref i1) >>= _) _ _ ⟨g0, g, d, tk0, os⟩
  by_cases hlt1 : i < n1
  · refine wpAny_bind (D1.item i _ _ _ hlt1 (D1.over st1 hs0 S.zf1) fun x1 p1 tk1 hx1 sn1 hp1 => wpAny_pure ?_)
    replace hp1 : Heap.SameBut i1 g0 p1 := hp1
    refine wpAny_pure ?_
    have hi2 : i = n2 := by omega
    refine wpAny_bind (wpAny_bind (wpAny_holding ?_))
    show wpAny _ _ (Builtin.SmallTypes.nextOf (.ref i2) >>= _) _ _ ⟨p1, g, d, tk1, os⟩
    refine wpAny_bind (D2.done ⟨p1, g, d, tk1, os⟩ _ _ (by rw [← hi2]; exact D2.over (D2.over st2 hs0 S.zf2) hp1 S.sep1_2) fun q e hq he => ?_)
    exact hE q tk1 e (fun c o c1 c2 c3 x => hq _ _ c3 (hp1.extBut _ _ c2 (hs0.extBut _ _ c1 x))) he
  · have hi1 : i = n1 := by omega
    refine wpAny_bind (D1.done ⟨g0, g, d, tk0, os⟩ _ _ (by rw [← hi1]; exact D1.over st1 hs0 S.zf1) fun q e hq he => ?_)
    exact hE q tk0 e (fun c o c1 c2 _ x => hq _ _ c2 (hs0.extBut _ _ c1 x)) he
theorem pyNext_zipH_item {Q : Option Value → Shared → Prop} (S : ZipSep2 z TI TO i1 i2 fp1 fp2) (D1 : Draws prog w A.in1 i1 fp1 n1 P1 St1) (D2 : Draws prog w A.in1 i2 fp2 n2 P2 St2)
    (hz : IsZipHeld s.heap z TI TO T f) (hT : s.heap.get? T = some oT) (hTI : IsTupOf2 s.heap TI (.ref i1) (.ref i2)) (st1 : St1 i s.heap) (st2 : St2 i s.heap) (hlt1 : i < n1) (hlt2 : i < n2)
    (hQ : ∀ x1 x2 h' tk, P1 i x1 → P2 i x2 → IsZipHeld h' z TI TO T true → St1 (i + 1) h' → St2 (i + 1) h' → IsTupOf2 h' s.heap.objs.size x1 x2 →
      (∀ c o, c ≠ z → c ≠ i1 → c ≠ i2 → s.heap.get? c = some o → h'.get? c = some o) → Q (some (.ref s.heap.objs.size)) { s with heap := h', toks := tk }) :
    wpAny (model prog w) A (pyNext (.ref z)) Q E s := by
  have hTy : s.TypeIs (.ref z) "zip" := ⟨_, hz, rfl⟩
  unfold pyNext
  exact wpAny_bind (wpAny_attempt (wpAny_callSpecial?_slot (name := Str.ofString "__next__") hTy F.slot_zip_next
    (wpAny_call_entry F.slot_zip_next hTy F.entry_zip_next
      (zipH_item S D1 D2 hz hT hTI st1 st2 hlt1 hlt2 fun x1 x2 h' tk y1 y2 b1 d1 d2 b5 b7 => wpAny_pure (hQ x1 x2 h' tk y1 y2 b1 d1 d2 b5 b7)) (F.args_zip_next_1 _))))
theorem pyNext_zipH_end {Q : Option Value → Shared → Prop} (S : ZipSep2 z TI TO i1 i2 fp1 fp2) (D1 : Draws prog w A.in1 i1 fp1 n1 P1 St1) (D2 : Draws prog w A.in1 i2 fp2 n2 P2 St2)
    (hz : IsZipHeld s.heap z TI TO T f) (hT : s.heap.get? T = some oT) (hTI : IsTupOf2 s.heap TI (.ref i1) (.ref i2)) (st1 : St1 i s.heap) (st2 : St2 i s.heap) (hle1 : i ≤ n1) (hle2 : i ≤ n2) (hend : i = n1 ∨ i = n2)
    (hQ : ∀ h' tk, (∀ c o, c ≠ z → c ≠ i1 → c ≠ i2 → s.heap.get? c = some o → h'.get? c = some o) → Q none { s with heap := h', toks := tk }) : wpAny (model prog w) A (pyNext (.ref z)) Q E s := by
  have hTy : s.TypeIs (.ref z) "zip" := ⟨_, hz, rfl⟩
  unfold pyNext
  refine wpAny_bind (wpAny_attempt (wpAny_callSpecial?_slot (name := Str.ofString "__next__") hTy F.slot_zip_next
    (wpAny_call_entry F.slot_zip_next hTy F.entry_zip_next (zipH_end S D1 D2 hz hT hTI st1 st2 hle1 hle2 hend fun h' tk e hk he => ?_) (F.args_zip_next_1 _))))
  obtain ⟨o, ho, hc⟩ := he
  refine wpAny_bind (wpAny_isInstance (T := "StopIteration") (b := true) ⟨o, ho, hc⟩ isSubtype_stop ?_)
  exact wpAny_pure (hQ _ tk hk)
end
section
variable {prog : Program} {w : World}
/-- a zip over iterators of any kind as the argument of dict() -/
theorem pairZip {z TI TO i1 i2 : Addr} {fp1 fp2 : List Addr} {n1 n2 : Nat} {P1 P2 : Nat → Value → Prop} {St1 St2 : Nat → Heap → Prop} (S : ZipSep2 z TI TO i1 i2 fp1 fp2)
    (D1 : ∀ A : Around, A.handled = none → Draws prog w A i1 fp1 n1 P1 St1) (D2 : ∀ A : Around, A.handled = none → Draws prog w A i2 fp2 n2 P2 St2) (A0 : Around) (hA0 : A0.handled = none) :
    PairArg prog w "zip" z (z :: TI :: TO :: (fp1 ++ fp2)) [z, TO, i1, i2] (min n1 n2) (fun i k v => P1 i k ∧ P2 i v)
      (fun h => IsZip h z TI TO .none ∧ IsTupOf2 h TI (.ref i1) (.ref i2) ∧ (∃ a b, IsTupOf2 h TO a b) ∧ St1 0 h ∧ St2 0 h ∧ ∀ b ∈ fp1 ++ fp2, ∃ o, h.get? b = some o) where
  type := fun s ok => ⟨_, ok.1, rfl⟩
  notDict := by decide
  keep := fun h h' ok hk => by
    obtain ⟨hz, hTI, ⟨a, b, hTO⟩, h1, h2, ht⟩ := ok
    exact ⟨hk _ _ hz, hk _ _ hTI, ⟨a, b, hk _ _ hTO⟩, (D1 A0 hA0).frame _ _ _ h1 fun b _ o e => hk b o e, (D2 A0 hA0).frame _ _ _ h2 fun b _ o e => hk b o e, fun b hb => let ⟨o, e⟩ := ht b hb; ⟨o, hk b o e⟩⟩
  there := fun h ok b hb => by
    obtain ⟨hz, hTI, ⟨a, c, hTO⟩, h1, h2, ht⟩ := ok
    rcases List.mem_cons.mp hb with rfl | hb
    · exact ⟨_, hz⟩
    rcases List.mem_cons.mp hb with rfl | hb
    · exact ⟨_, hTI⟩
    rcases List.mem_cons.mp hb with rfl | hb
    · exact ⟨_, hTO⟩
    · exact ht b hb
  sub := fun b hb => by
    have e' : b = z ∨ b = TO ∨ b = i1 ∨ b = i2 := by simpa using hb
    rcases e' with q | q | q | q
    · rw [q]; simp
    · rw [q]; simp
    · rw [q]; have := S.mem1; simp [this]
    · rw [q]; have := S.mem2; simp [this]
  noKeys := fun A s Q E hA ok h => getAttrOr_miss_zip ok.1 rfl rfl rfl zip_no_keys (by decide +kernel) hA h
  iter := fun A s d Q E hA ok hd hdf h => by
    obtain ⟨hz, hTI, ⟨a, b, hTO⟩, h1, h2, ht⟩ := ok
    have dz : d ≠ z := fun e => hdf (by rw [e]; simp)
    have dTI : d ≠ TI := fun e => hdf (by rw [e]; simp)
    have dTO : d ≠ TO := fun e => hdf (by rw [e]; simp)
    have d1 : d ∉ fp1 := fun e => hdf (by simp [e])
    have d2 : d ∉ fp2 := fun e => hdf (by simp [e])
    have di1 : d ≠ i1 := fun e => d1 (by rw [e]; exact S.mem1)
    have di2 : d ≠ i2 := fun e => d2 (by rw [e]; exact S.mem2)
    have hA1 : A.in1.handled = none := hA
    refine wpAny_pyIter_zip hz (h z [z, TO, i1, i2] (fun i h => IsTupOf2 h TI (.ref i1) (.ref i2) ∧ St1 i h ∧ St2 i h ∧
      ((IsZip h z TI TO .none ∧ ∃ a b, IsTupOf2 h TO a b) ∨ ∃ T f oT, IsZipHeld h z TI TO T f ∧ h.get? T = some oT ∧ T ≠ z ∧ T ≠ i1 ∧ T ≠ i2 ∧ T ≠ d)) s.heap s.toks ?_
      ⟨hTI, h1, h2, .inl ⟨hz, a, b, hTO⟩⟩ (fun _ _ e => e) fun b hb => .inl hb)
    exact {
      off := fun hm => by
        have e' : d = z ∨ d = TO ∨ d = i1 ∨ d = i2 := by simpa using hm
        rcases e' with e | e | e | e
        · exact dz e
        · exact dTO e
        · exact di1 e
        · exact di2 e
      frame := fun i h₁ h₂ st hk => by
        obtain ⟨hTI, h1, h2, hz⟩ := st
        refine ⟨hk _ _ (Ne.symm dTI) hTI, (D1 A hA).frame _ _ _ h1 fun b hb o e => hk b o (fun q => d1 (q ▸ hb)) e, (D2 A hA).frame _ _ _ h2 fun b hb o e => hk b o (fun q => d2 (q ▸ hb)) e, ?_⟩
        rcases hz with ⟨hz, a, b, hTO⟩ | ⟨T, f, oT, hz, hT, r1, r2, r3, r4⟩
        · exact .inl ⟨hk _ _ (Ne.symm dz) hz, a, b, hk _ _ (Ne.symm dTO) hTO⟩
        · exact .inr ⟨T, f, oT, hk _ _ (Ne.symm dz) hz, hk _ _ r4 hT, r1, r2, r3, r4⟩
      item := fun i s₁ Q₁ E₁ hi st hds hQ => by
        obtain ⟨hTI, h1, h2, hz⟩ := st
        have hix : i < n1 := Nat.lt_of_lt_of_le hi (Nat.min_le_left ..)
        have hiy : i < n2 := Nat.lt_of_lt_of_le hi (Nat.min_le_right ..)
        have lt : ∀ {c o}, s₁.heap.get? c = some o → s₁.heap.objs.size ≠ c := fun e => Nat.ne_of_gt (Heap.lt_size e)
        have m1 : s₁.heap.objs.size ≠ i1 := let ⟨_, e⟩ := (D1 A.in1 hA1).live _ _ h1; lt e
        have m2 : s₁.heap.objs.size ≠ i2 := let ⟨_, e⟩ := (D2 A.in1 hA1).live _ _ h2; lt e
        rcases hz with ⟨hz, a, b, hTO⟩ | ⟨T, f, oT, hz, hT, r1, r2, r3, r4⟩
        · refine wpAny_pyNext_zipD2_item S (D1 A.in1 hA1) (D2 A.in1 hA1) hz hTI hTO h1 h2 hix hiy fun x1 x2 h' tk y1 y2 b1 b2 s1 s2 b5 b6 hk => ?_
          exact hQ s₁.heap.objs.size _ _ h' tk ⟨y1, y2⟩ (.inl ⟨_, b5, rfl, _, rfl⟩)
            ⟨hk _ _ S.TIz S.TITO S.TIi1 S.TIi2 hTI, s1, s2, .inr ⟨s₁.heap.objs.size, false, _, b1, b5, lt hz, m1, m2, Nat.ne_of_gt hds⟩⟩
            fun c o hc e => hk c o (fun x => hc (by simp [x])) (fun x => hc (by simp [x])) (fun x => hc (by simp [x])) (fun x => hc (by simp [x])) e
        · refine pyNext_zipH_item S (D1 A.in1 hA1) (D2 A.in1 hA1) hz hT hTI h1 h2 hix hiy fun x1 x2 h' tk y1 y2 b1 s1 s2 b5 hk => ?_
          exact hQ s₁.heap.objs.size _ _ h' tk ⟨y1, y2⟩ (.inl ⟨_, b5, rfl, _, rfl⟩)
            ⟨hk _ _ S.TIz S.TIi1 S.TIi2 hTI, s1, s2, .inr ⟨T, true, oT, b1, hk _ _ r1 r2 r3 hT, r1, r2, r3, r4⟩⟩
            fun c o hc e => hk c o (fun x => hc (by simp [x])) (fun x => hc (by simp [x])) (fun x => hc (by simp [x])) e
      done := fun s₁ Q₁ E₁ st hQ => by
        obtain ⟨hTI, h1, h2, hz⟩ := st
        have hend : min n1 n2 = n1 ∨ min n1 n2 = n2 := by omega
        rcases hz with ⟨hz, a, b, hTO⟩ | ⟨T, f, oT, hz, hT, r1, r2, r3, r4⟩
        · exact wpAny_pyNext_zipD2_end S (D1 A.in1 hA1) (D2 A.in1 hA1) hz hTI hTO h1 h2 (Nat.min_le_left ..) (Nat.min_le_right ..) hend fun h' tk hk => hQ h' tk fun c o hc e => hk c o (fun x => hc (by simp [x])) (fun x => hc (by simp [x])) (fun x => hc (by simp [x])) (fun x => hc (by simp [x])) e
        · exact pyNext_zipH_end S (D1 A.in1 hA1) (D2 A.in1 hA1) hz hT hTI h1 h2 (Nat.min_le_left ..) (Nat.min_le_right ..) hend fun h' tk hk => hQ h' tk fun c o hc e => hk c o (fun x => hc (by simp [x])) (fun x => hc (by simp [x])) (fun x => hc (by simp [x])) e }
end
end DL
namespace DL
open PySem PySem.Spec PyProof.Rows L2 TL
/-- how an iterator draws, whatever is around -/
structure DrawnA (prog : Program) (w : World) (K : PySem.W.Frag) (G H : Hp) (h0 : Heap) (ds : List D) (it : Addr) where
  fp : List Addr
  P : Nat → Value → Prop
  St : Nat → Heap → Prop
  draws : ∀ A : Around, A.handled = none → Draws prog w A it fp ds.length P St
  mem : it ∈ fp
  old : ∀ b ∈ fp, b = it ∨ H b ≠ none
  item : ∀ i u, P i u → ∃ v d, ds[i]? = some d ∧ RelV v u ∧ DD K G v d
  there : ∀ b ∈ fp, ∃ o, h0.get? b = some o
theorem Src.drawnA {X : Cx} {pins : List (Addr × Obj)} {σ : L2.St} {G H : Hp} {s : Shared} {k : Src} {ds : List D} {it : Addr} (I : Inv X pins σ H s) (e : Same G H) (ok : SrcOk X.K G ds k) (hn : H it = none) (st : k.at it 0 s.heap) :
    ∃ Z : DrawnA X.prog X.w X.K G H s.heap ds it, Z.St 0 s.heap := by
  have live := Src.live st
  cases k with
  | li a =>
    obtain ⟨vs, g, z, q⟩ := ok
    have hne : a ≠ it := fun w => by rw [w] at g; rw [e _ _ g] at hn; cases hn
    obtain ⟨its, rv, p, _⟩ := I.list (SqL.of (e _ _ g))
    have hl : its.toArray.size = ds.length := by rw [List.size_toArray, ← rv.length, q.len]
    have D0 := fun (A : Around) (hA : A.handled = none) => Draws.list (prog := X.prog) (w := X.w) hA it a hne its.toArray
    rw [hl] at D0
    refine ⟨⟨_, _, _, D0, by simp, fun b hb => ?_, fun j u hj => ?_, fun b hb => ?_⟩, st, p.isList⟩
    · have hb' : b = it ∨ b = a := by simpa using hb
      rcases hb' with w | w
      · exact .inl w
      · rw [w]; exact .inr (by rw [e _ _ g]; exact fun z => nomatch z)
    · have hj : its[j]? = some u := by simpa using hj
      obtain ⟨v, e1, r1⟩ : ∃ v, vs[j]? = some v ∧ RelV v u := by
        have hlt : j < vs.length := by rw [rv.length]; exact (List.getElem?_eq_some_iff.mp hj).1
        obtain ⟨u', hu', ru'⟩ := rv.get (List.getElem?_eq_getElem hlt)
        rw [hj] at hu'; cases hu'
        exact ⟨_, List.getElem?_eq_getElem hlt, ru'⟩
      obtain ⟨d, e2, dd⟩ := q.getV e1
      exact ⟨v, d, e2, r1, dd⟩
    · have hb' : b = it ∨ b = a := by simpa using hb
      rcases hb' with w | w
      · rw [w]; obtain ⟨o, e, _⟩ := live; exact ⟨o, e⟩
      · rw [w]; obtain ⟨o, e, _⟩ := p.isList; exact ⟨o, e⟩
  | tu a =>
    obtain ⟨vs, g, z, q⟩ := ok
    have hne : a ≠ it := fun w => by rw [w] at g; rw [e _ _ g] at hn; cases hn
    obtain ⟨its, rv, p, _⟩ := I.tuple (SqT.of (e _ _ g))
    have hl : its.toArray.size = ds.length := by rw [List.size_toArray, ← rv.length, q.len]
    have D0 := fun (A : Around) (hA : A.handled = none) => Draws.tuple (prog := X.prog) (w := X.w) hA it a hne its.toArray
    rw [hl] at D0
    refine ⟨⟨_, _, _, D0, by simp, fun b hb => ?_, fun j u hj => ?_, fun b hb => ?_⟩, st, p⟩
    · have hb' : b = it ∨ b = a := by simpa using hb
      rcases hb' with w | w
      · exact .inl w
      · rw [w]; exact .inr (by rw [e _ _ g]; exact fun z => nomatch z)
    · have hj : its[j]? = some u := by simpa using hj
      obtain ⟨v, e1, r1⟩ : ∃ v, vs[j]? = some v ∧ RelV v u := by
        have hlt : j < vs.length := by rw [rv.length]; exact (List.getElem?_eq_some_iff.mp hj).1
        obtain ⟨u', hu', ru'⟩ := rv.get (List.getElem?_eq_getElem hlt)
        rw [hj] at hu'; cases hu'
        exact ⟨_, List.getElem?_eq_getElem hlt, ru'⟩
      obtain ⟨d, e2, dd⟩ := q.getV e1
      exact ⟨v, d, e2, r1, dd⟩
    · have hb' : b = it ∨ b = a := by simpa using hb
      rcases hb' with w | w
      · rw [w]; obtain ⟨o, e, _⟩ := live; exact ⟨o, e⟩
      · rw [w]; obtain ⟨o, e, _⟩ := p; exact ⟨o, e⟩
  | tx x t =>
    obtain ⟨ok, rfl⟩ := ok
    have D0 := fun (A : Around) (hA : A.handled = none) => Draws.text (prog := X.prog) (w := X.w) hA it x t
    have hl : x.cps.size = (signs x).length := (signs_len x).symm
    rw [hl] at D0
    refine ⟨⟨_, _, _, D0, by simp, fun b hb => ?_, fun j u hj => ?_, fun b hb => ?_⟩, st⟩
    · exact .inl (by simpa using hb)
    · obtain ⟨c, t', hc, rfl⟩ := hj
      exact ⟨.str (sgn c), .str (sgn c), signs_get hc, ⟨t', rfl⟩, .str _ (sok_sgn ok (signs_mem hc))⟩
    · have hb' : b = it := by simpa using hb
      rw [hb']; obtain ⟨o, e, _⟩ := live; exact ⟨o, e⟩
/-- a list or a tuple: the values it holds -/
structure DrawnV (prog : Program) (w : World) (K : PySem.W.Frag) (G H : Hp) (h0 : Heap) (ds : List D) (it : Addr) where
  fp : List Addr
  its : List Value
  vs : List V
  St : Nat → Heap → Prop
  draws : ∀ A : Around, A.handled = none → Draws prog w A it fp ds.length (fun i u => its[i]? = some u) St
  mem : it ∈ fp
  old : ∀ b ∈ fp, b = it ∨ H b ≠ none
  vals : Vals vs its
  data : DDs K G vs ds
  there : ∀ b ∈ fp, ∃ o, h0.get? b = some o
def Src.sq : Src → Bool
  | .tx _ _ => false
  | _ => true
theorem Src.drawnV {X : Cx} {pins : List (Addr × Obj)} {σ : L2.St} {G H : Hp} {s : Shared} {k : Src} {ds : List D} {it : Addr} (I : Inv X pins σ H s) (e : Same G H) (ok : SrcOk X.K G ds k) (hsq : k.sq = true) (hn : H it = none) (st : k.at it 0 s.heap) :
    ∃ Z : DrawnV X.prog X.w X.K G H s.heap ds it, Z.St 0 s.heap := by
  have live := Src.live st
  cases k with
  | li a =>
    obtain ⟨vs, g, z, q⟩ := ok
    have hne : a ≠ it := fun w => by rw [w] at g; rw [e _ _ g] at hn; cases hn
    obtain ⟨its, rv, p, _⟩ := I.list (SqL.of (e _ _ g))
    have hl : its.toArray.size = ds.length := by rw [List.size_toArray, ← rv.length, q.len]
    have D0 := fun (A : Around) (hA : A.handled = none) => Draws.list (prog := X.prog) (w := X.w) hA it a hne its.toArray
    rw [hl] at D0
    simp only [List.getElem?_toArray] at D0
    refine ⟨⟨_, its, vs, _, D0, by simp, fun b hb => ?_, rv, q, fun b hb => ?_⟩, st, p.isList⟩
    · have hb' : b = it ∨ b = a := by simpa using hb
      rcases hb' with w | w
      · exact .inl w
      · rw [w]; exact .inr (by rw [e _ _ g]; exact fun z => nomatch z)
    · have hb' : b = it ∨ b = a := by simpa using hb
      rcases hb' with w | w
      · rw [w]; obtain ⟨o, e, _⟩ := live; exact ⟨o, e⟩
      · rw [w]; obtain ⟨o, e, _⟩ := p.isList; exact ⟨o, e⟩
  | tu a =>
    obtain ⟨vs, g, z, q⟩ := ok
    have hne : a ≠ it := fun w => by rw [w] at g; rw [e _ _ g] at hn; cases hn
    obtain ⟨its, rv, p, _⟩ := I.tuple (SqT.of (e _ _ g))
    have hl : its.toArray.size = ds.length := by rw [List.size_toArray, ← rv.length, q.len]
    have D0 := fun (A : Around) (hA : A.handled = none) => Draws.tuple (prog := X.prog) (w := X.w) hA it a hne its.toArray
    rw [hl] at D0
    simp only [List.getElem?_toArray] at D0
    refine ⟨⟨_, its, vs, _, D0, by simp, fun b hb => ?_, rv, q, fun b hb => ?_⟩, st, p⟩
    · have hb' : b = it ∨ b = a := by simpa using hb
      rcases hb' with w | w
      · exact .inl w
      · rw [w]; exact .inr (by rw [e _ _ g]; exact fun z => nomatch z)
    · have hb' : b = it ∨ b = a := by simpa using hb
      rcases hb' with w | w
      · rw [w]; obtain ⟨o, e, _⟩ := live; exact ⟨o, e⟩
      · rw [w]; obtain ⟨o, e, _⟩ := p; exact ⟨o, e⟩
  | tx x t => cases hsq
/-- texts as keys -/
def keysS : List D → Option (List Key)
  | [] => some []
  | .str x :: r => (keysS r).map (.inr x :: ·)
  | _ :: _ => none
theorem keysS_get : ∀ {ds : List D} {ks : List Key}, keysS ds = some ks → ks.length = ds.length ∧ ∀ (i : Nat) (d : D), ds[i]? = some d → ∃ x, d = .str x ∧ ks[i]? = some (.inr x)
  | [], ks, h => by cases h; exact ⟨rfl, fun i d e => by simp at e⟩
  | d :: r, ks, h => by
    cases d with
    | str x =>
      have h : (keysS r).map (.inr x :: ·) = some ks := h
      cases q : keysS r with
      | none => rw [q] at h; cases h
      | some ks' =>
        rw [q] at h
        cases h
        obtain ⟨e1, e2⟩ := keysS_get q
        refine ⟨by rw [List.length_cons, List.length_cons, e1], fun i d e => ?_⟩
        cases i with
        | zero => exact ⟨x, by simpa using e.symm, rfl⟩
        | succ i => exact e2 i d (by simpa using e)
    | _ => cases h
def sqT : D → Option (List D)
  | .lst ds => some ds
  | .tup ds => some ds
  | _ => none
def gDictZ : D → D → Option D := fun a b => (sqD a).bind fun x => (keysS x).bind fun ks => (sqT b).map fun y => .dic (mergeM [] (List.zip ks y))
def nDZ (fs : AF) : NF := fun E => (fs E).bind fun p => match p.1 with
  | [.dat a, .dat b] => (ofO (gDictZ a b)).bind fun d => .ok (d, p.2)
  | _ => .stuck
theorem sqT_sq {d : D} {ds : List D} (h : sqT d = some ds) : sqD d = some ds := by
  cases d with
  | lst _ => exact h
  | tup _ => exact h
  | _ => cases h
theorem zip_KV : ∀ {ks : List Key} {vs : List V} {its : List Value}, Vals vs its → KV (List.zip ks vs) (List.zip ks its)
  | [], _, _, _ => by rw [List.zip_nil_left, List.zip_nil_left]; exact .nil
  | k :: ks, _, _, .nil => by rw [List.zip_nil_right, List.zip_nil_right]; exact .nil
  | k :: ks, _, _, .cons h t => by rw [List.zip_cons_cons, List.zip_cons_cons]; exact .cons ⟨rfl, h⟩ (zip_KV t)
theorem zip_DKs {K : PySem.W.Frag} {G : Hp} : ∀ {ks : List Key} {vs : List V} {ds : List D}, (∀ k ∈ ks, KOk k) → DDs K G vs ds → DKs K G (List.zip ks vs) (List.zip ks ds)
  | [], _, _, _, _ => by rw [List.zip_nil_left, List.zip_nil_left]; exact .nil
  | k :: ks, _, _, _, .nil => by rw [List.zip_nil_right, List.zip_nil_right]; exact .nil
  | k :: ks, _, _, hk, .cons h t => by rw [List.zip_cons_cons, List.zip_cons_cons]; exact .cons (hk k List.mem_cons_self) h (zip_DKs (fun k' h' => hk k' (List.mem_cons_of_mem _ h')) t)
theorem DDs.all {K : PySem.W.Frag} {G : Hp} : ∀ {vs : List V} {ds : List D}, DDs K G vs ds → ∀ d ∈ ds, ∃ v, DD K G v d
  | _, _, .nil, d, h => nomatch h
  | _, _, .cons a b, d, h => by
    rcases List.mem_cons.mp h with e | h
    · exact ⟨_, by rw [e]; exact a⟩
    · exact DDs.all b d h
theorem SrcOk.all {K : PySem.W.Frag} {G : Hp} {ds : List D} : ∀ {k : Src}, SrcOk K G ds k → ∀ d ∈ ds, ∃ v, DD K G v d
  | .li a, ⟨vs, g, z, q⟩ => q.all
  | .tu a, ⟨vs, g, z, q⟩ => q.all
  | .tx x t, ⟨ok, e⟩ => fun d hd => by
    rw [e] at hd
    obtain ⟨c, hc, rfl⟩ := List.mem_map.mp hd
    exact ⟨.str (sgn c), .str _ (sok_sgn ok hc)⟩
theorem dn_dictZ {X : Cx} {Wi : Wish} {e e2 : Expr} {fs : AF} {p p2 pos pos2 : Pos} (hc : X.calm = true) (hg : Gl X "dict") (hm : X.mg "dict" = none) (hg2 : Gl X "zip") (hm2 : X.mg "zip" = none) (ha : DA X Wi [e, e2] fs)
    (hs : starEach [e, e2] X.env = (false, eval e X.env) :: starEach [e2] X.env := by rfl) (hpl : (backTo pos2 (starEach [e2] X.env)).any (·.1) = false := by rfl)
    (hs2 : starEach [Expr.Call (.Name "zip" p2) [e, e2] [] pos2] X.env = (false, eval (Expr.Call (.Name "zip" p2) [e, e2] [] pos2) X.env) :: starEach [] X.env := by rfl) (hpl2 : (backTo pos (starEach [] X.env)).any (·.1) = false := by rfl) :
    DN X Wi (.Call (.Name "dict" p) [.Call (.Name "zip" p2) [e, e2] [] pos2] [] pos) (nDZ fs) := by
  refine ⟨fun pins s σ H Q I h => ?_⟩
  obtain ⟨F, G, E, as, st, pq⟩ := h
  refine Call_ (ld_blt I hg hm PyProof.Rows.boot_dict (PyProof.Rows.callWith_type1 ?_ hs2 hpl2))
  rw [hs2]
  show wpAny _ _ (spliced ((false, eval (Expr.Call (.Name "zip" p2) [e, e2] [] pos2) X.env) :: backTo pos (starEach [] X.env))) _ _ s
  refine Calls.spliced_cons ?_
  refine Call_ (ld_blt I hg2 hm2 PyProof.Rows.boot_zip (PyProof.Rows.callWith_type1 (thn (ha.run pos2 pins s σ H _ I ⟨F, G, E, as, st, PoA.bindN pq⟩) fun us s1 ⟨vs, H1, I1, r1, q1⟩ => ?_) hs hpl))
  obtain ⟨ws, G1, E1, as1, sm1, st1, wo1, p1⟩ := q1
  match ws, p1 with
  | [.dat a, .dat b], p1 =>
    obtain ⟨d, ed, p1⟩ := PoN.of p1
    have ed : ((sqD a).bind fun x => (keysS x).bind fun ks => (sqT b).map fun y => D.dic (mergeM [] (List.zip ks y))) = some d := ed
    cases e1 : sqD a with
    | none => rw [e1] at ed; cases ed
    | some d1 =>
    rw [e1] at ed
    have ed : ((keysS d1).bind fun ks => (sqT b).map fun y => D.dic (mergeM [] (List.zip ks y))) = some d := ed
    cases ek : keysS d1 with
    | none => rw [ek] at ed; cases ed
    | some ks =>
    rw [ek] at ed
    have ed : ((sqT b).map fun y => D.dic (mergeM [] (List.zip ks y))) = some d := ed
    cases e3 : sqT b with
    | none => rw [e3] at ed; cases ed
    | some d2 =>
    rw [e3] at ed
    cases ed
    match vs, wo1 with
    | [x, y], wo1 =>
      cases r1 with
      | cons rx rr =>
        cases rr with
        | cons ry rr =>
          cases rr
          obtain ⟨k1, ok1, u1⟩ := src_of wo1.1 rx e1
          obtain ⟨k2, ok2, u2⟩ := src_of wo1.2.1 ry (sqT_sq e3)
          have hsq2 : k2.sq = true := by
            have wy : DD X.K G1 y b := wo1.2.1
            cases k2 with
            | li _ => rfl
            | tu _ => rfl
            | tx z t =>
              exfalso
              have u2 : _ = Value.str z t := u2
              subst u2
              cases wy with
              | lst _ _ _ => cases ry
              | tup _ _ _ => cases ry
              | _ => cases e3
          obtain ⟨B1, b1, hb1⟩ := begins_src u1 I1 st1.s1 ok1
          obtain ⟨B2, b2, hb2⟩ := begins_src u2 I1 st1.s1 ok2
          refine zip_begins2 b1 b2 hb1 hb2 fun h' hz hTI hTO g1 g2 hsz hk => ?_
          have I2 : Inv X pins σ H1 { s1 with heap := h' } := I1.kept (t' := s1.toks) hk
          have fr : ∀ k, H1 (s1.heap.objs.size + k) = none := fun k => I1.hok.fresh (Nat.le_add_right _ _)
          have fr0 : H1 s1.heap.objs.size = none := I1.hok.fresh (Nat.le_refl _)
          obtain ⟨Z1, zt1⟩ := Src.drawnA (k := k1) I2 st1.s1 ok1 fr0 (k1.new g1)
          obtain ⟨Z2, zt2⟩ := Src.drawnV (k := k2) I2 st1.s1 ok2 hsq2 (fr 1) (k2.new g2)
          have nf : ∀ {b it : Addr} {fp : List Addr}, (∀ c ∈ fp, c = it ∨ H1 c ≠ none) → b ≠ it → H1 b = none → b ∉ fp := fun ho hne hb hm => by
            rcases ho _ hm with w | w
            · exact hne w
            · exact w hb
          have S : ZipSep2 (s1.heap.objs.size + 4) (s1.heap.objs.size + 2) (s1.heap.objs.size + 3) s1.heap.objs.size (s1.heap.objs.size + 1) Z1.fp Z2.fp := by
            have ne : ∀ {i j : Nat}, i ≠ j → (s1.heap.objs.size + i : Addr) ≠ (s1.heap.objs.size + j : Addr) := fun {i j} h q => h (by have q' : s1.heap.objs.size + i = s1.heap.objs.size + j := q; omega)
            have ne0 : ∀ {i : Nat}, i ≠ 0 → (s1.heap.objs.size + i : Addr) ≠ (s1.heap.objs.size : Addr) := fun {i} h q => h (by have q' : s1.heap.objs.size + i = s1.heap.objs.size := q; omega)
            exact ⟨ne (by decide), ne (by decide), ne (by decide), ne0 (by decide), Z1.mem, nf Z1.old (ne0 (by decide)) (fr 4), nf Z1.old (ne0 (by decide)) (fr 3), ne (by decide), Z2.mem, nf Z2.old (ne (by decide)) (fr 4), nf Z2.old (ne (by decide)) (fr 3),
              nf Z2.old (Ne.symm (ne0 (by decide))) fr0, nf Z1.old (ne0 (by decide)) (fr 1)⟩
          refine Calls.spliced_nil ?_
          have hh : X.A.handled = none := I2.ok.hd hc
          obtain ⟨kl, kg⟩ := keysS_get ek
          have hlv : Z2.its.length = d2.length := by rw [← Z2.vals.length, Z2.data.len]
          have hkl : (List.zip ks Z2.its).length = min d1.length d2.length := by rw [List.length_zip, kl, hlv]
          have hle := ok1.le
          refine call_dict_pairs (knd := mixKind X.prog X.w) (kvs := List.zip ks Z2.its) (pairZip S Z1.draws Z2.draws X.A hh) hh ⟨hz, hTI, ⟨_, _, hTO⟩, zt1, zt2, fun b hb => ?_⟩ ⟨hkl, fun i key v hr => ?_⟩ (by omega) fun h'' tk hd hk2 => ?_
          · rcases List.mem_append.mp hb with h | h
            · exact Z1.there b h
            · exact Z2.there b h
          · obtain ⟨r1, r2⟩ := hr
            obtain ⟨v', d', e5, rv, dd⟩ := Z1.item i key r1
            obtain ⟨xs, rfl, e6⟩ := kg i d' e5
            refine ⟨.inr xs, (List.getElem?_zip_eq_some (z := ((Sum.inr xs : Key), v))).mpr ⟨e6, r2⟩, ?_⟩
            cases dd with
            | str _ _ => exact kV_is (k := .inr xs) rv
          · have hsz2 : h'.objs.size = s1.heap.objs.size + 5 := hsz
            have hp : ({ s1 with heap := h' } : Shared).heap.objs.size = h'.objs.size := rfl
            have hT : ({ s1 with heap := h' } : Shared).heap.objs.size ≤ h'.objs.size := Nat.le_refl _
            have frn : H1 h'.objs.size = none := I2.hok.fresh (Nat.le_refl _)
            have hm' : (h'.objs.size == sysModules) = false := beq_eq_false_iff_ne.mpr (Nat.ne_of_gt I2.big)
            have rel : KV (List.zip ks Z2.vs) (List.zip ks Z2.its) := zip_KV Z2.vals
            have hlen : (mergeK [] (List.zip ks Z2.vs)).length ≤ sizeLine := by
              refine Nat.le_trans (length_mergeK _ []) ?_
              rw [List.length_nil, Nat.zero_add, rel.length, hkl]
              omega
            have new : ObjOk X.prog X.w (upd H1 h'.objs.size (.dK (mergeK [] (List.zip ks Z2.vs)))) h'' h'.objs.size (.dK (mergeK [] (List.zip ks Z2.vs))) := ⟨hlen, hm', merged [] (List.zip ks Z2.its), KV.merge rel .nil, hd⟩
            have fp4 : ∀ b ∈ [s1.heap.objs.size + 4, s1.heap.objs.size + 3, s1.heap.objs.size, s1.heap.objs.size + 1], FpOk X pins H1 b := fun b hb => by
              have e' : b = s1.heap.objs.size + 4 ∨ b = s1.heap.objs.size + 3 ∨ b = s1.heap.objs.size ∨ b = s1.heap.objs.size + 1 := by simpa using hb
              have hle : s1.heap.objs.size ≤ b := by
                rcases e' with z | z | z | z
                · rw [z]; exact Nat.le_add_right _ _
                · rw [z]; exact Nat.le_add_right _ _
                · rw [z]; exact Nat.le_refl _
                · rw [z]; exact Nat.le_add_right _ _
              exact I1.fpOk hle (I1.hok.fresh hle)
            have I3 : Inv X pins σ (upd H1 h'.objs.size (.dK (mergeK [] (List.zip ks Z2.vs)))) { s1 with heap := h'', toks := tk } :=
              I2.turnedNew (ch := [s1.heap.objs.size + 4, s1.heap.objs.size + 3, s1.heap.objs.size, s1.heap.objs.size + 1]) (fun b o hb q => hk2 b o hb q) fp4 hT new
            have kok : ∀ k ∈ ks, KOk k := fun k hkm => by
              obtain ⟨i, hi⟩ := List.getElem?_of_mem hkm
              have hlt : i < d1.length := by rw [← kl]; exact (List.getElem?_eq_some_iff.mp hi).1
              obtain ⟨xs, e5, e6⟩ := kg i d1[i] (List.getElem?_eq_getElem hlt)
              rw [hi] at e6
              cases e6
              obtain ⟨v, dd⟩ := ok1.all d1[i] (List.getElem_mem hlt)
              rw [e5] at dd
              cases dd with
              | str _ o => exact o
            refine ⟨.ref h'.objs.size, _, I3, rfl, ?_⟩
            refine PoN.rz st1 p1 h'.objs.size _ frn (fun b u q => by rw [upd_ne (ne_of_none q frn)]; exact q) ⟨_, upd_same, ?_⟩
            exact DKs.merge (zip_DKs kok Z2.data) .nil
end DL
namespace DL
open PySem PySem.Spec PyProof.Rows L2 TL
section
variable {prog : Program} {w : World} {A : Around} {E : Value → Shared → Prop} {s : Shared} {K : Type} [DecidableEq K] {knd : KeyKind prog w K}
theorem put_pairs {d : Addr} {kvs : List (K × Value)} {k : K} {key v : Value} {Q : Unit → Shared → Prop} (hkey : knd.is k key = true) (hm : s.heap.DictOf knd d kvs)
    (hQ : ∀ h', h'.DictOf knd d (stored kvs k v) → Heap.SameBut d s.heap h' → Q () { s with heap := h' }) (hsz : kvs.length ≤ sizeLine) :
    wpAny (model prog w) A (dictPut d (knd.hash k) key v) Q E s := by
  obtain ⟨o, es, ep, ho, hc, hd, hk, hp, hn⟩ := hm
  have hes : es.size ≤ sizeLine := by have e1 := hp.length; have e2 : es.toList.length = es.size := by simp
                                      omega
  unfold dictPut
  refine wpAny_bind (wpAny_dictFind_of hkey ho hd hk ?_)
  have hidx : (es.findIdx? fun e => knd.is k e.key) = kvs.findIdx? fun kv => decide (kv.1 = k) := by
    rw [← hp.findIdx k]; obtain ⟨l⟩ := es; simp
  cases hi : es.findIdx? fun e => knd.is k e.key with
  | some i =>
    refine wpAny_updateDict ho hd (hQ _ ⟨_, _, ep, Heap.get?_update_self _ ho (Obj.isFreed_of_dict (Obj.data_mapDict hd _)),
      hc.mapDict _, Obj.data_mapDict hd _, hk.modify _ _, ?_, ?_⟩ (Heap.SameBut.update ..))
    · rw [stored, if_pos (any_of_findIdx_some (hidx ▸ hi))]
      have hl : (es.toList.findIdx? fun e => knd.is k e.key) = some i := by rw [← hi]; obtain ⟨l⟩ := es; simp
      have := hp.modify hn hl v
      obtain ⟨l⟩ := es
      simpa using this
    · rw [stored, if_pos (any_of_findIdx_some (hidx ▸ hi)), keys_map_store]; exact hn
  | none =>
    have hnot : k ∉ kvs.map (·.1) := not_mem_of_findIdx_none (hidx ▸ hi)
    have hany : ¬ (kvs.any fun kv => decide (kv.1 = k)) = true := by
      rw [List.any_eq_true]; rintro ⟨kv, hkv, he⟩
      exact hnot (List.mem_map.mpr ⟨kv, hkv, of_decide_eq_true he⟩)
    refine wpAny_updateDictKeys (hz := hes) ho hd (hQ _ ⟨_, _, ep + 1, Heap.get?_update_self _ ho (Obj.isFreed_of_dict (Obj.data_mapDictKeys hd _)),
      hc.mapDictKeys _, Obj.data_mapDictKeys hd _, hk.push hkey _, ?_, ?_⟩ (Heap.SameBut.update ..))
    · rw [stored, if_neg hany]
      have := hp.append hkey (knd.hash k) v
      obtain ⟨l⟩ := es
      simpa using this
    · rw [stored, if_neg hany, List.map_append, List.nodup_append]
      refine ⟨hn, by simp, ?_⟩
      intro a ha b hb
      simp only [List.map_cons, List.map_nil, List.mem_singleton] at hb
      subst hb
      exact fun e => hnot (e ▸ ha)
theorem merge_mapping {d o : Addr} {kvs more : List (K × Value)} {Q : Unit → Shared → Prop} (hnr : ∀ (k : K) (a : Addr), knd.is k (.ref a) = true → False) (hdo : d ≠ o) (hoS : (o == sysModules) = false)
    (hd : s.heap.DictOf knd d kvs) (ho : s.heap.DictOf knd o more)
    (hQ : ∀ h', h'.DictOf knd d (merged kvs more) → h'.DictOf knd o more → Heap.SameBut d s.heap h' → Q () { s with heap := h' })
    (hsz : kvs.length + more.length ≤ sizeLine) :
    wpAny (model prog w) A (mergeMapping d (.ref o) false) Q E s := by
  obtain ⟨od, esd, epd, hod, hcd, hdd, hkd, hpd, hnd⟩ := id hd
  obtain ⟨oo, eso, epo, hoo, hco, hdo', hko, hpo, hno⟩ := id ho
  have hlen : more.length = eso.size := by rw [← hpo.length]; simp
  unfold mergeMapping
  refine wpAny_bind (wpAny_isInstance ho.typeIs isSubtype_dict_dict ?_)
  rw [if_pos rfl]
  refine wpAny_bind (wpAny_specialOf ho.typeIs F.slot_dict_iter.lookup ?_)
  refine wpAny_bind (wpAny_pure ?_)
  have hb : (some (Value.builtin "dict.__iter__") == some (Value.builtin "dict.__iter__")) = true := by decide
  rw [hb]
  dsimp only
  rw [if_neg (by rw [hoS]; exact Bool.false_ne_true)]
  refine wpAny_bind (wpAny_dictEntries hod hdd ?_)
  have loop : wpAny (model prog w) A (do
      let __do_lift ← dictEntries o
      have size : Nat := __do_lift.size
      let epoch ← dictEpoch o
      forIn (List.range size) PUnit.unit fun i __s => do
          let __do_lift ← dictEntries o
          match __do_lift[i]? with
            | some e => do
              holding [e.key, e.val]
                  (have __do_jp := fun __r => dictPut d e.hash e.key e.val;
                  if false = true then do
                    let __do_lift ← dictFind d e.key e.hash
                    if __do_lift.isSome = true then do
                        rule "dict.merge.duplicate-key"
                        let __do_lift ← newExc (Value.type "KeyError") [e.key]
                        let __r ← raiseNew __do_lift
                        __do_jp __r
                      else __do_jp ()
                  else __do_jp ())
              let __do_lift ← dictEpoch o
              if (__do_lift != epoch) = true then do
                  unsupported "dict.changed-during-merge"
                  pure (ForInStep.yield PUnit.unit)
                else pure (ForInStep.yield PUnit.unit)
            | x => do
              unsupported "dict.changed-during-merge"
              pure (ForInStep.yield PUnit.unit)
      pure ()) Q E s := by
    refine wpAny_bind (wpAny_dictEntries hoo hdo' ?_)
    dsimp only
    refine wpAny_bind (wpAny_dictEpoch hoo hdo' ?_)
    refine wpAny_bind ?_
    rw [List.range_eq_range']
    refine wpAny_forIn_list _
      (fun rest _ s' => ∃ h' i, s' = { s with heap := h' } ∧ rest = List.range' i (eso.size - i) ∧ i ≤ eso.size ∧ h'.DictOf knd d (merged kvs (more.take i)) ∧ h'.get? o = some oo ∧ Heap.SameBut d s.heap h')
      _ ?_ ?_ _ _ ⟨s.heap, 0, rfl, by simp, Nat.zero_le _, by simpa [merged] using hd, hoo, Heap.SameBut.refl _ _⟩
    · rintro x rest b s' ⟨h', i, rfl, hr, hi, hd', hoo', hs'⟩
      have hlt : i < eso.size := by
        rcases Nat.lt_or_ge i eso.size with h | h
        · exact h
        · rw [Nat.sub_eq_zero_of_le h] at hr; simp at hr
      obtain ⟨rfl, hrest⟩ : x = i ∧ rest = List.range' (i + 1) (eso.size - (i + 1)) := by
        have e : eso.size - i = (eso.size - (i + 1)) + 1 := by omega
        rw [e, List.range'_succ] at hr
        injection hr with h1 h2
        exact ⟨h1, h2⟩
      refine wpAny_bind (wpAny_dictEntries hoo' hdo' ?_)
      rw [Array.getElem?_eq_getElem hlt]
      obtain ⟨kv, hkv⟩ : ∃ kv, more[x]? = some kv := ⟨more[x]'(by rw [hlen]; exact hlt), List.getElem?_eq_getElem _⟩
      obtain ⟨k, v⟩ := kv
      obtain ⟨hkey, hval⟩ := hpo.get? (e := eso[x]) (by simp [hlt]) hkv
      obtain ⟨k', hkey', hhash⟩ := hko eso[x] (Array.getElem_mem hlt)
      obtain rfl : k' = k := knd.inj _ _ _ hkey' hkey
      dsimp only
      rw [if_neg Bool.false_ne_true, hhash, hval]
      have hmx : (merged kvs (more.take x)).length ≤ sizeLine := by
        have e1 := merged_length_le kvs (more.take x)
        have e2 : (more.take x).length ≤ more.length := by rw [List.length_take]; omega
        omega
      refine wpAny_bind (wpAny_holding (put_pairs hkey hd' (hsz := hmx) fun h'' hd'' hs'' => ?_))
      have hoo'' : h''.get? o = some oo := (hs''.2 o (Ne.symm hdo)).trans hoo'
      refine wpAny_bind (wpAny_dictEpoch hoo'' hdo' ?_)
      rw [if_neg (by simp)]
      exact wpAny_pure ⟨h'', x + 1, rfl, hrest, hlt, by rw [merged_take_succ kvs more x (k', v) hkv]; exact hd'', hoo'', hs'.trans hs''⟩
    · rintro b s' ⟨h', i, rfl, hr, hi, hd', hoo', hs'⟩
      have hin : i = eso.size := by
        rcases Nat.lt_or_ge i eso.size with h | h
        · have e : eso.size - i = (eso.size - (i + 1)) + 1 := by omega
          rw [e, List.range'_succ] at hr; exact nomatch hr
        · exact Nat.le_antisymm hi h
      refine wpAny_pure (hQ h' ?_ ⟨oo, eso, epo, hoo', hco, hdo', hko, hpo, hno⟩ hs')
      rw [hin, ← hlen, List.take_length] at hd'; exact hd'
  split
  · refine wpAny_bind (wpAny_dictEntries hoo hdo' ?_)
    refine wpAny_bind ?_
    rw [← Array.forIn_toList]
    refine wpAny_forIn_list _ (fun rest _ s' => s' = s ∧ ∀ e ∈ rest, ∃ k, knd.is k e.key = true) _ ?_ ?_ _ _ ⟨rfl, fun e he => ?_⟩
    · rintro x rest b s' ⟨rfl, hr⟩
      obtain ⟨k, hk⟩ := hr x List.mem_cons_self
      split
      · rename_i a he
        rw [he] at hk
        exact (hnr k a hk).elim
      · exact wpAny_pure ⟨rfl, fun e he => hr e (List.mem_cons_of_mem _ he)⟩
    · rintro b s' ⟨rfl, _⟩
      exact loop
    · obtain ⟨k, hk, _⟩ := hko e (by simpa using he)
      exact ⟨k, hk⟩
  · exact loop
end
section
variable {X : Cx} {Wi : Wish} {e1 e2 : Expr} {t1 t2 : TE} {pos : Pos} {f1 f2 : EF}
theorem key_noref (k : Key) (a : Addr) (h : keyIs k (.ref a) = true) : False := by
  rcases keyIs_shape h with ⟨i, t, _, e⟩ | ⟨x, t, _, e⟩ <;> cases e
/-- both values dicts; the new one stands meanwhile -/
def tStar2 (t1 t2 : TE) : TE := fun σ H Q => ∀ p, H p = none → t1 σ (upd H p (.dK [])) fun x H1 => ∃ o kv1, x = .ref o ∧ H1 o = some (.dK kv1) ∧ o ≠ p ∧ H1 p = some (.dK []) ∧
  t2 σ (upd H1 p (.dK (mergeK [] kv1))) fun y H2 => ∃ q kv2, y = .ref q ∧ H2 q = some (.dK kv2) ∧ q ≠ p ∧ H2 p = some (.dK (mergeK [] kv1)) ∧ kv1.length + kv2.length ≤ sizeLine ∧ Q (.ref p) (upd H2 p (.dK (mergeK (mergeK [] kv1) kv2)))
theorem star_merge {pins : List (Addr × Obj)} {σ : L2.St} {H : Hp} {s : Shared} {d o : Addr} {kv more : List (Key × V)} {Q : Unit → Shared → Prop} {E : Value → Shared → Prop} (I : Inv X pins σ H s) (hd : H d = some (.dK kv)) (ho : H o = some (.dK more)) (hne : d ≠ o) (hz : kv.length + more.length ≤ sizeLine)
    (h : ∀ s', Inv X pins σ (upd H d (.dK (mergeK kv more))) s' → Q () s') : wpAny (model X.prog X.w) X.A (mergeMapping d (.ref o) false) Q E s := by
  obtain ⟨z1, hd1, vs, rel, dd⟩ := dk_of I.hok hd
  obtain ⟨z2, hd2, ms, rel2, dd2⟩ := dk_of I.hok ho
  refine merge_mapping (knd := mixKind X.prog X.w) (fun k a hk => key_noref k a hk) hne hd2 dd dd2 (fun h' dd' _ hs => ?_) (by rw [← rel.length, ← rel2.length]; exact hz)
  have he : ∃ q, h'.get? d = some q := let ⟨q, _, _, hq, _⟩ := dd'; ⟨q, hq⟩
  exact h _ (d_write (t' := s.toks) I (by rw [hd]; exact True.intro) hs he (dk_new (Nat.le_trans (len_mergeK more kv) hz) hd1 (KV.merge rel2 rel) dd'))
theorem pe_star2 (h1 : PE X e1 t1) (h2 : PE X e2 t2) : PE X (.Dict [none, none] [e1, e2] pos) (tStar2 t1 t2) := by
  refine ⟨fun pins s σ H Q I q => ?_⟩
  have hn := I.hok.fresh (Nat.le_refl s.heap.objs.size)
  have I1 := I.laid (a := s.heap.objs.size) (o := .dK []) (h' := s.heap.push { cls := .type "dict", data := .dict #[] }) (t' := s.toks) (fun _ _ q => Heap.get?_push_of_some _ q) (Nat.le_refl _) (dk_empty s.heap I.big)
  have q1 := q _ hn
  rw [arm_eval_Dict]
  refine wpAny_bind (wpAny_standAt ?_)
  show wpAny _ _ (dictDisplay [(none, do let x ← eval e1 X.env; standAt pos; pure x), (none, do let x ← eval e2 X.env; standAt pos; pure x)]) _ _ _
  unfold dictDisplay
  simp only [List.forIn_cons, List.forIn_nil, List.isEmpty_nil, if_true]
  refine wpAny_bind (wpAny_bind (wpAny_bind (wpAny_pure ?_)))
  dsimp only
  refine wpAny_bind (wpAny_alloc ?_)
  refine wpAny_bind (wpAny_holding (wpAny_bind (thn (h1.run pins _ σ _ _ I1 q1) fun u s1 ⟨x, H1, J1, r1, o, kv1, ex, ho, hne, hp, q2⟩ => wpAny_bind (wpAny_standAt (wpAny_pure ?_)))))
  subst ex
  cases r1
  refine wpAny_bind (wpAny_onRaise (wpAny_tryCatch (wpAny_onRaise (wpAny_holding (star_merge J1 hp ho (Ne.symm hne) (by rw [List.length_nil, Nat.zero_add]; exact (dk_of J1.hok ho).1) fun s2 J2 => ?_)))))
  refine wpAny_pure ?_
  dsimp only
  refine wpAny_bind (wpAny_bind ?_)
  rw [if_pos (show (List.isEmpty ([] : List (Sem Value × Sem Value))) = true from rfl)]
  refine wpAny_pure ?_
  dsimp only
  refine wpAny_bind (wpAny_pure ?_)
  refine wpAny_bind (wpAny_holding (wpAny_bind (thn (h2.run pins _ σ _ _ J2 q2) fun u2 s3 ⟨y, H2, J3, r2, o2, kv2, ey, ho2, hne2, hp2, hz2, q3⟩ => wpAny_bind (wpAny_standAt (wpAny_pure ?_)))))
  subst ey
  cases r2
  have hz3 : (mergeK [] kv1).length + kv2.length ≤ sizeLine := by
    have h := len_mergeK kv1 []
    rw [List.length_nil, Nat.zero_add] at h
    omega
  refine wpAny_bind (wpAny_onRaise (wpAny_tryCatch (wpAny_onRaise (wpAny_holding (star_merge J3 hp2 ho2 (Ne.symm hne2) hz3 fun s4 J4 => ?_)))))
  refine wpAny_pure ?_
  dsimp only
  refine wpAny_pure ?_
  refine wpAny_bind ?_
  rw [if_pos (show (List.isEmpty ([] : List (Sem Value × Sem Value))) = true from rfl)]
  refine wpAny_pure ?_
  dsimp only
  exact wpAny_pure ⟨.ref s.heap.objs.size, _, J4, rfl, q3⟩
def dicO : W → Option (List (Key × D))
  | .dat (.dic kd) => some kd
  | _ => none
def nStar (f1 f2 : EF) : NF := fun E => (f1 E).bind fun p => (ofO (dicO p.1)).bind fun k1 => (f2 p.2).bind fun q => (ofO (dicO q.1)).bind fun k2 => if k1.length + k2.length ≤ 16777216 then .ok (.dic (mergeM (mergeM [] k1) k2), q.2) else .stuck
theorem dks_len {K : PySem.W.Frag} {G : Hp} : ∀ {kv : List (Key × V)} {kd : List (Key × D)}, DKs K G kv kd → kv.length = kd.length
  | _, _, .nil => rfl
  | _, _, .cons _ _ h => congrArg Nat.succ (dks_len h)
theorem dn_star2 (h1 : DE X Wi e1 f1) (h2 : DE X Wi e2 f2) : DN X Wi (.Dict [none, none] [e1, e2] pos) (nStar f1 f2) :=
  PE.imp (pe_star2 h1 h2) fun σ H Q q => by
    obtain ⟨F, G, E, as, st, p⟩ := q
    intro a ha
    have ga : G a = none := st.s1.free ha
    have fa : F.H0 a = none := st.dom a ha
    have na : ∀ j, a ∉ as j := fun j hj => by obtain ⟨u, q⟩ := st.there hj; rw [ha] at q; cases q
    have st1 := st.al (Al.grow st.s1 (H' := upd H a (.dK [])) fun b u q => by rw [upd_ne (ne_of_none q ha)]; exact q)
    have o1 : OwnAt X.K G (upd H a (.dK [])) a (.dic []) := ⟨_, upd_same, .nil⟩
    refine ⟨inner F G (upd H a (.dK [])) as E.length, G, E, as, st1.in_, ?_⟩
    have p : PoN X.K Wi F G σ Q ((f1 E).bind fun p => (ofO (dicO p.1)).bind fun k1 => (f2 p.2).bind fun q => (ofO (dicO q.1)).bind fun k2 => if k1.length + k2.length ≤ 16777216 then .ok (.dic (mergeM (mergeM [] k1) k2), q.2) else .stuck) := p
    generalize f1 E = r at p ⊢
    match r, p with
    | .err x E1, p => exact fun c dx G' H' as' s' st' xo => p c dx G' H' as' s' (st1.out st') xo
    | .ok (w, E1), p =>
      intro v G1 H1 as1 s1 st' wo
      have p : PoN X.K Wi F G σ Q ((ofO (dicO w)).bind fun k1 => (f2 E1).bind fun q => (ofO (dicO q.1)).bind fun k2 => if k1.length + k2.length ≤ 16777216 then .ok (.dic (mergeM (mergeM [] k1) k2), q.2) else .stuck) := p
      obtain ⟨k1, ek, p⟩ := PoN.of p
      have hw : w = .dat (.dic k1) := by
        unfold dicO at ek
        split at ek
        · cases ek; rfl
        · cases ek
      subst hw
      have dd : DD X.K G1 v (.dic k1) := wo
      obtain ⟨g2, n2, kv0, h2, _⟩ := StE.stays ga na o1 s1 st'
      have keepA : H1 a = some (.dK []) := st'.keep a _ upd_same fun z => by obtain ⟨j, hj⟩ := of_own z; exact na j hj
      cases dd with
      | dic g r =>
        rename_i o kv1
        have hne : o ≠ a := fun e => by rw [e, g2] at g; cases g
        refine ⟨o, kv1, rfl, st'.s1 _ _ g, hne, keepA, ?_⟩
        have p := PoN.up s1 p
        have stA : StE X.K F G1 (upd H1 a (.dK (mergeK [] kv1))) σ E1 as1 := (st1.out st').wr g2 fa n2 (by rw [keepA]; exact fun z => nomatch z)
        have o2 : OwnAt X.K G1 (upd H1 a (.dK (mergeK [] kv1))) a (.dic (mergeM [] k1)) := ⟨_, upd_same, DKs.merge r .nil⟩
        refine ⟨inner F G1 (upd H1 a (.dK (mergeK [] kv1))) as1 E1.length, G1, E1, as1, stA.in_, ?_⟩
        generalize f2 E1 = r2 at p ⊢
        match r2, p with
        | .err x E2, p => exact fun c dx G' H' as' s' st'' xo => p c dx G' H' as' s' (stA.out st'') xo
        | .ok (w2, E2), p =>
          intro v2 G2 H2 as2 s2 st'' wo2
          have p : PoN X.K Wi F G1 σ Q ((ofO (dicO w2)).bind fun k2 => if k1.length + k2.length ≤ 16777216 then .ok (.dic (mergeM (mergeM [] k1) k2), E2) else .stuck) := p
          obtain ⟨k2, ek2, p3⟩ := PoN.of p
          have hw : w2 = .dat (.dic k2) := by
            unfold dicO at ek2
            split at ek2
            · cases ek2; rfl
            · cases ek2
          subst hw
          have dd2 : DD X.K G2 v2 (.dic k2) := wo2
          by_cases hl : k1.length + k2.length ≤ 16777216
          · rw [if_pos hl] at p3
            obtain ⟨g3, n3, kv3, h3, _⟩ := StE.stays g2 n2 o2 s2 st''
            have keepB : H2 a = some (.dK (mergeK [] kv1)) := st''.keep a _ upd_same fun z => by obtain ⟨j, hj⟩ := of_own z; exact n2 j hj
            cases dd2 with
            | dic g' r' =>
              rename_i o' kv2
              have hne2 : o' ≠ a := fun e => by rw [e, g3] at g'; cases g'
              refine ⟨o', kv2, rfl, st''.s1 _ _ g', hne2, keepB, by rw [dks_len r, dks_len r', sizeLine_eq]; exact hl, ?_⟩
              exact p3 a G2 _ as2 s2 ((stA.out st'').wr g3 fa n3 (by rw [keepB]; exact fun z => nomatch z)) g3 fa n3 ⟨_, upd_same, DKs.merge r' ((DKs.merge r .nil).up s2)⟩
          · rw [if_neg hl] at p3; exact p3.elim
end
end DL
namespace DL
open PySem PySem.Spec PyProof.Rows L2 TL
end DL
namespace DL
open PySem PySem.Spec PyProof.Rows L2 TL
end DL
namespace DL
open PySem PySem.Spec PyProof.Rows L2 TL
def TabOk (K : PySem.W.Frag) (w : World) (mg : Str → Option Value) (x : Str) (tab : List (Str × Int)) : Prop :=
  ∃ d es n, mg x = some (.ref d) ∧ KDict K w d es n ∧ ∀ p ∈ tab, ∃ t, PySem.W.nsIn K d p.1 = some (some (.int p.2 t))
section
variable {X : Cx} {Wi : Wish} {a : Expr} {f : EF} {x : Str} {tab : List (Str × Int)} {p pos : Pos}
end
end DL
namespace DL
open PySem PySem.Spec PyProof.Rows L2 TL
section
variable {X : Cx} {Wi : Wish} {a : Expr} {f : EF} {p pos p2 pos2 : Pos}
end
end DL
namespace DL
open PySem PySem.Spec PyProof.Rows L2 TL
theorem each_fresh {h : Heap} {f : Heap} {a : Addr} (up : ∀ b o, h.get? b = some o → f.get? b = some o) (na : h.get? a = none) {us : List Value} {ds : List D} (e : PySem.W.EachIs (fun u d => ∃ as, Reads h u (D.py d) as) us ds) : PySem.W.EachIs (fun u d => ∃ as, Reads f u (D.py d) as ∧ a ∉ as) us ds := by
  induction e with
  | nil => exact .nil
  | cons h1 _ ih =>
    obtain ⟨as, r⟩ := h1
    refine .cons ⟨as, Reads.keeps up r, fun z => ?_⟩ ih
    obtain ⟨o, q⟩ := PyProof.On.reads_mem_get r a z
    rw [na] at q; cases q
end DL
namespace DL
open PySem PySem.Spec PyProof.Rows L2 TL
end DL
namespace DL
open PySem PySem.Spec PyProof.Rows L2 TL
section
variable {X : Cx} {CX : CXT} {k n : Nat} {f C : Addr} {fd : FuncData} {ps ks : List Str} {Wi : Wish} {x m : Str} {p pos apos : Pos} {e o : Expr} {es : List Expr} {fs : AF} {fo : EF} {fm : List D → Res D} {sp : Sp} {t : TA}
end
end DL
namespace DL
open PySem PySem.Spec PyProof.Rows L2

section
variable {X : Cx} {pins : List (Addr × Obj)} {σ : L2.St} {G H : Hp} {s : Shared}
mutual
theorem DD.nested (I : Inv X pins σ H s) (e : Same G H) : ∀ (d : D) (v : V) (u : Value) (n : NestedKey), nkD d = some n → DD X.K G v d → RelV v u → NestedIs s.heap n u
  | .int i, _, _, _, h, q, r => by cases h; cases q; obtain ⟨t, rfl⟩ := r; exact .int i t
  | .str x, _, _, _, h, q, r => by cases h; cases q; obtain ⟨t, rfl⟩ := r; exact .text x t
  | .tup ds, _, _, n, h, q, r => by
    have h : (nkDs ds).map NestedKey.tup = some n := h
    cases hk : nkDs ds with
    | none => rw [hk] at h; cases h
    | some ks =>
      rw [hk] at h; cases h
      cases q with
      | tup hs _ ha =>
        cases r
        obtain ⟨its, rv, ⟨o, ho, hc, n, hd⟩, _⟩ := I.tuple (SqT.of (e _ _ hs))
        exact .tup ho hc hd (by simpa using DDs.nested I e ds _ its ks hk ha rv)
  | .non, _, _, _, h, _, _ => by cases h
  | .bl _, _, _, _, h, _, _ => by cases h
  | .lst _, _, _, _, h, _, _ => by cases h
  | .dic _, _, _, _, h, _, _ => by cases h
  | .dit _, _, _, _, h, _, _ => by cases h
  | .dix _ _, _, _, _, h, _, _ => by cases h
  | .obj _ _, _, _, _, h, _, _ => by cases h
theorem DDs.nested (I : Inv X pins σ H s) (e : Same G H) : ∀ (ds : List D) (vs : List V) (us : List Value) (ks : List NestedKey), nkDs ds = some ks → DDs X.K G vs ds → Vals vs us → NestedAll s.heap ks us
  | [], _, _, ks, h, q, r => by cases h; cases q; cases r; exact .nil
  | d :: ds, _, _, ks, h, q, r => by
    cases q with
    | cons q1 q2 =>
      cases r with
      | cons r1 r2 =>
        unfold nkDs at h
        cases h1 : nkD d with
        | none => rw [h1] at h; cases h
        | some k =>
          cases h2 : nkDs ds with
          | none => rw [h1, h2] at h; cases h
          | some ks' =>
            rw [h1, h2] at h; cases h
            exact .cons (DD.nested I e d _ _ k h1 q1 r1) (DDs.nested I e ds _ _ ks' h2 q2 r2)
end
theorem keyNK_ok {d : D} {n : NestedKey} (h : keyNK d = some n) : nkD d = some n ∧ n.depth ≤ 8 ∧ ∃ ds, d = .tup ds := by
  unfold keyNK at h
  split at h
  · rename_i ks e
    by_cases q : (NestedKey.tup ks).depth ≤ 8
    · rw [if_pos q] at h; cases h
      refine ⟨e, q, ?_⟩
      cases d with
      | tup ds => exact ⟨ds, rfl⟩
      | _ => cases e
    · rw [if_neg q] at h; cases h
  · cases h
theorem DD.isKey (I : Inv X pins σ H s) (e : Same G H) {d : D} {n : NestedKey} {b : Addr} (h : keyNK d = some n) (q : DD X.K G (.ref b) d) : (nestedKind X.prog X.w).is s.heap n b := by
  obtain ⟨h1, h2, _⟩ := keyNK_ok h
  exact ⟨DD.nested I e d _ _ n h1 q rfl, h2⟩
theorem DXs.keys (I : Inv X pins σ H s) (e : Same G H) : ∀ {xs : XEnts} {kd : List (D × D)}, DXs X.K G xs kd → ∀ x ∈ xs, (nestedKind X.prog X.w).is s.heap x.1 x.2.1
  | _, _, .nil, x, hx => by cases hx
  | _, _, .cons h q _ _ t, x, hx => by
    rcases List.mem_cons.mp hx with z | z
    · subst z; exact DD.isKey I e h q
    · exact DXs.keys I e t x z
theorem DXs.len {K : PySem.W.Frag} : ∀ {xs : XEnts} {kd : List (D × D)}, DXs K G xs kd → xs.length = kd.length
  | _, _, .nil => rfl
  | _, _, .cons _ _ _ _ t => congrArg Nat.succ (DXs.len t)
end
theorem BD.dix {K : PySem.W.Frag} {G H : Hp} {v : V} {w : World} (s : Same G H) {kd : List (D × D)} (h : BD K G H v (.dix w kd)) : ∃ a xs ep, v = .ref a ∧ H a = some (dixO w a xs ep) ∧ xs.length ≤ sizeLine ∧ (xs.map (·.1)).Nodup ∧ DXs K G xs kd := by
  cases h with
  | dat dd => cases dd with | dix g z n r => exact ⟨_, _, _, rfl, s _ _ g, z, n, r⟩
  | own ev o => obtain ⟨xs, ep, e1, z, n, r⟩ := o; exact ⟨_, xs, ep, ev, e1, z, n, r⟩

def lkX (kd : List (D × D)) (n : NestedKey) : Option D := (kd.find? fun p => decide (keyNK p.1 = some n)).map (·.2)
def putX (kd : List (D × D)) (k d : D) (n : NestedKey) : List (D × D) :=
  if (lkX kd n).isSome then kd.map fun p => if keyNK p.1 = some n then (p.1, d) else p else kd ++ [(k, d)]
section
variable {K : PySem.W.Frag} {G : Hp}
theorem DXs.look (n : NestedKey) : ∀ {xs : XEnts} {kd : List (D × D)}, DXs K G xs kd → (∀ d, lkX kd n = some d → ∃ b u v, atKey xs n = some (b, u) ∧ RelV v u ∧ DD K G v d) ∧ (lkX kd n = none → atKey xs n = none)
  | _, _, .nil => ⟨fun d h => (by cases h), fun _ => rfl⟩
  | _, _, .cons (n := m) (b := b) (u := u) (k := k) (d := d) (xs := xs) (kd := kd) h1 h2 h3 h4 t => by
    by_cases e : m = n
    · subst e
      have e1 : lkX ((k, d) :: kd) m = some d := by unfold lkX; rw [List.find?_cons_of_pos (by exact decide_eq_true h1)]; rfl
      have e2 : atKey ((m, b, u) :: xs) m = some (b, u) := by unfold atKey; rw [List.find?_cons_of_pos (by exact decide_eq_true rfl)]; rfl
      rw [e1, e2]
      exact ⟨fun d' q => by cases q; exact ⟨b, u, _, rfl, h3, h4⟩, fun q => by cases q⟩
    · have e1 : lkX ((k, d) :: kd) n = lkX kd n := by unfold lkX; rw [List.find?_cons_of_neg (by simp [h1, e])]
      have e2 : atKey ((m, b, u) :: xs) n = atKey xs n := by unfold atKey; rw [List.find?_cons_of_neg (by simp [e])]
      rw [e1, e2]
      exact DXs.look n t
theorem DXs.over {n : NestedKey} {v : V} {u : Value} {d : D} (rv : RelV v u) (dv : DD K G v d) : ∀ {xs : XEnts} {kd : List (D × D)}, DXs K G xs kd → DXs K G (xs.map (putAt n u)) (kd.map fun p => if keyNK p.1 = some n then (p.1, d) else p)
  | _, _, .nil => .nil
  | _, _, .cons (n := m) (b := b) (u := u') (k := k) (d := d') (xs := xs) (kd := kd) h1 h2 h3 h4 t => by
    rw [List.map_cons, List.map_cons]
    by_cases e : m = n
    · subst e
      have e1 : putAt m u (m, b, u') = (m, b, u) := by unfold putAt; rw [if_pos rfl]
      rw [e1, if_pos h1]
      exact .cons h1 h2 rv dv (DXs.over rv dv t)
    · have e1 : putAt n u (m, b, u') = (m, b, u') := by unfold putAt; rw [if_neg e]
      rw [e1, if_neg (by rw [h1]; exact fun q => e (Option.some.inj q))]
      exact .cons h1 h2 h3 h4 (DXs.over rv dv t)
theorem DXs.app : ∀ {xs ys : XEnts} {kd ke : List (D × D)}, DXs K G xs kd → DXs K G ys ke → DXs K G (xs ++ ys) (kd ++ ke)
  | _, _, _, _, .nil, h => h
  | _, _, _, _, .cons h1 h2 h3 h4 t, h => .cons h1 h2 h3 h4 (DXs.app t h)
theorem DXs.put {n : NestedKey} {b : Addr} {k : D} {v : V} {u : Value} {d : D} (hk : keyNK k = some n) (hb : DD K G (.ref b) k) (rv : RelV v u) (dv : DD K G v d) {xs : XEnts} {kd : List (D × D)} (r : DXs K G xs kd) : DXs K G (storedH xs n b u) (putX kd k d n) := by
  have l := DXs.look n r
  unfold storedH putX
  cases q : lkX kd n with
  | none => rw [l.2 q]; exact DXs.app r (.cons hk hb rv dv .nil)
  | some d' => obtain ⟨b', u', v', e, _⟩ := l.1 d' q; rw [e]; exact DXs.over rv dv r
end

section
variable {X : Cx} {pins : List (Addr × Obj)} {σ : L2.St} {G H : Hp} {s : Shared} {a b : Addr} {xs : XEnts} {ep : Nat} {kd : List (D × D)} {k d : D} {n : NestedKey}
end
end DL
namespace DL
open PySem PySem.Spec PyProof.Rows L2

abbrev Fs := List (Str × Bool × D)
/-- an attribute that is a list or dict of the object's own -/
def lkO (f : Str) : Fs → Option D
  | [] => none
  | (g, b, d) :: r => if f = g then (if b = true then some d else none) else lkO f r
/-- one that is data -/
def lkF (f : Str) : Fs → Option D
  | [] => none
  | (g, b, d) :: r => if f = g then (if b = true then none else some d) else lkF f r
/-- how many of its own stand ahead -/
def nOwn (f : Str) : Fs → Nat
  | [] => 0
  | (g, b, d) :: r => if f = g then 0 else (if b = true then 1 else 0) + nOwn f r
def setFO (f : Str) (x : D) : Fs → Fs
  | [] => []
  | (g, b, d) :: r => if f = g then (g, b, x) :: r else (g, b, d) :: setFO f x r
theorem lookup_at {α : Type} {f g : Str} {v : α} {vs : List (Str × α)} (h : f = g) : ((g, v) :: vs).lookup f = some v := by subst h; rw [List.lookup_cons, beq_self_eq_true]
theorem lookup_on {α : Type} {f g : Str} {v : α} {vs : List (Str × α)} (h : ¬ f = g) : ((g, v) :: vs).lookup f = vs.lookup f := by rw [List.lookup_cons, beq_eq_false_iff_ne.mpr h]
section
variable {K : PySem.W.Frag} {G H : Hp} {f : Str} {d d' : D}
theorem FsOk.data : ∀ {vs : List (Str × V)} {fs : Fs} {ls : List Addr}, FsOk K G H vs fs ls → lkF f fs = some d → ∃ v, vs.lookup f = some v ∧ DD K G v d
  | _, _, _, .nil, e => by cases e
  | _, _, _, .dat (f := g) dd r, e => by
    unfold lkF at e
    by_cases h : f = g
    · rw [if_pos h] at e
      simp at e
      subst e
      exact ⟨_, lookup_at h, dd⟩
    · rw [if_neg h] at e
      obtain ⟨v, e1, e2⟩ := FsOk.data r e
      exact ⟨v, (lookup_on h).trans e1, e2⟩
  | _, _, _, .own (f := g) o r, e => by
    unfold lkF at e
    by_cases h : f = g
    · rw [if_pos h] at e; simp at e
    · rw [if_neg h] at e
      obtain ⟨v, e1, e2⟩ := FsOk.data r e
      exact ⟨v, (lookup_on h).trans e1, e2⟩
/-- what stands elsewhere stays -/
theorem FsOk.else {l : Addr} {o : HO} : ∀ {vs : List (Str × V)} {fs : Fs} {ls : List Addr}, FsOk K G H vs fs ls → l ∉ ls → FsOk K G (upd H l o) vs fs ls := fun h n =>
  h.up (Same.refl _) fun a ha u e => by rw [upd_ne (fun z => n (by rw [← z]; exact ha))]; exact e
theorem FsOk.put {l : Addr} {o : HO} : ∀ {vs : List (Str × V)} {fs : Fs} {ls : List Addr}, FsOk K G H vs fs ls → ls.Nodup → lkO f fs = some d → ls[nOwn f fs]? = some l → OwnAt K G (upd H l o) l d' → FsOk K G (upd H l o) vs (setFO f d' fs) ls
  | _, _, _, .nil, _, e, _, _ => by cases e
  | _, _, _, .dat (f := g) dd r, n, e, e0, w => by
    unfold lkO at e
    by_cases h : f = g
    · rw [if_pos h] at e; simp at e
    · rw [if_neg h] at e
      unfold setFO; rw [if_neg h]
      unfold nOwn at e0; rw [if_neg h] at e0
      exact .dat dd (FsOk.put r n e (by simpa using e0) w)
  | _, _, _, .own (f := g) (l := l0) (ls := ls) ow r, n, e, e0, w => by
    unfold lkO at e
    obtain ⟨n1, n2⟩ := List.nodup_cons.mp n
    by_cases h : f = g
    · unfold setFO; rw [if_pos h]
      unfold nOwn at e0; rw [if_pos h] at e0
      cases e0
      exact .own w (r.else n1)
    · rw [if_neg h] at e
      unfold setFO; rw [if_neg h]
      unfold nOwn at e0; rw [if_neg h] at e0
      rw [show (if true = true then 1 else 0) + nOwn f _ = nOwn f _ + 1 from Nat.add_comm _ _] at e0
      have e0 : ls[nOwn f _]? = some l := e0
      have hl : l0 ≠ l := fun z => n1 (by rw [z]; exact List.mem_of_getElem? e0)
      exact .own (ow.up (Same.refl _) fun u q => by rw [upd_ne hl]; exact q) (FsOk.put r n2 e e0 w)
theorem FsOk.len : ∀ {vs : List (Str × V)} {fs : Fs} {ls : List Addr}, FsOk K G H vs fs ls → vs.length = fs.length
  | _, _, _, .nil => rfl
  | _, _, _, .dat _ r => congrArg Nat.succ (FsOk.len r)
  | _, _, _, .own _ r => congrArg Nat.succ (FsOk.len r)
end

section
variable {K : PySem.W.Frag} {F : Fr} {G G' H H' : Hp} {σ : L2.St} {E : Env} {as : Nat → List Addr}
theorem StE.obj (st : StE K F G H σ E as) {i : Nat} {p : Bool} {C : Addr} {fs : Fs} (e : E[i]? = some (.ob p C fs)) :
    ∃ a ls, as i = a :: ls ∧ σ[i]? = some (some (.ref a)) ∧ (p = true → F.P0 = a :: ls) ∧ ObAt K G H a ls C fs ∧ (∀ b ∈ a :: ls, G b = none ∧ (F.H0 b = none ∨ b ∈ F.X0)) := by
  obtain ⟨v, e1, a, ls, x1, x2, x3, x4⟩ := st.cell i _ e
  subst x2
  exact ⟨a, ls, x1, e1, x3, x4, fun b hb => st.off i b (by rw [x1]; exact hb)⟩
end

section
variable {X : Cx} {Wi : Wish} {o e : Expr} {C : Addr} {f : Str} {i : Nat} {pos : Pos}
/-- where the frame's own list or dict stands: a slot, an attribute of the object of a slot -/
inductive Loc where
  | sl (i : Nat) | fl (C : Addr) (i : Nat) (f : Str)
end
section
variable {K : PySem.W.Frag} {F : Fr} {G G' H H' : Hp} {σ : L2.St} {E E' : Env} {as as' : Nat → List Addr} {L : Loc} {d d' : D} {v : V}
end
end DL
namespace DL
open PySem PySem.Spec PyProof.Rows L2

noncomputable instance decWorld : DecidableEq World := fun _ _ => Classical.propDecidable _
/-- what is true of the dict at a -/
structure XAt (X : Cx) (G H : Hp) (a : Addr) (kd : List (D × D)) (xs : XEnts) : Prop where
  h : ∃ ep, H a = some (dixO X.w a xs ep)
  z : xs.length ≤ sizeLine
  nd : (xs.map (·.1)).Nodup
  r : DXs X.K G xs kd
section
variable {X : Cx} {Wi : Wish} {o i e value : Expr} {fk fv : EF} {pos pos' : Pos} {L : Loc} {w0 : World}
def LocC (K : PySem.W.Frag) : Loc → Prop
  | .sl _ => True
  | .fl C _ f => Cls K C ∧ NoAttr K C f
theorem LocC.of {K : PySem.W.Frag} (h : LocC K L) : ∀ C i f, L = .fl C i f → Cls K C ∧ NoAttr K C f := fun C i f e => by subst e; exact h
end

section
variable {X : Cx} {Wi : Wish} {o e : Expr} {es : List Expr} {L : Loc}
end
end DL
namespace DL
open PySem PySem.Spec PyProof.Rows L2

section
variable {P : Program} {w : World} {K : PySem.W.Frag} {mg : Str → Option Value} {base : Heap} {k : Nat} {f C : Addr} {fd : FuncData} {ps N : List Str} {x qual : Str} {st : Stmt} {fb : SF}
end

section
variable {K : PySem.W.Frag} {F : Fr} {G G' H H' : Hp} {σ : L2.St} {E : Env} {as : Nat → List Addr}
end
section
variable {X : Cx} {CX : CXT} {k n i : Nat} {f C : Addr} {fd : FuncData} {ps : List Str} {Wi : Wish} {x m : Str} {p pos apos : Pos} {e o : Expr} {es : List Expr} {fs : AF} {fm : Fs → List D → Res (D × Fs)}
end
end DL
namespace DL
open PySem PySem.Spec PyProof.Rows L2

/-- no slot's, new in this frame -/
def NewB (F : Fr) (G : Hp) (as : Nat → List Addr) (S : List Addr) : Prop := ∀ b ∈ S, G b = none ∧ F.H0 b = none ∧ ∀ j, b ∉ as j
def PoB (K : PySem.W.Frag) (Wi : Wish) (F : Fr) (G : Hp) (σ : L2.St) (Q : VK) : Res ((Addr × Fs) × Env) → Prop
  | .ok (z, E') => ∀ a ls G' H' as', Same G G' → StE K F G' H' σ E' as' → NewB F G' as' (a :: ls) → ObAt K G' H' a ls z.1 z.2 → Q (.ref a) H'
  | .err x E' => ∀ c dx G' H' as', Same G G' → StE K F G' H' σ E' as' → ExOk K G' x c dx → Wi σ c dx H'
  | .stuck => False
abbrev NBF := Env → Res ((Addr × Fs) × Env)
section
variable {K : PySem.W.Frag} {Wi : Wish} {F : Fr} {G G1 G' H H' : Hp} {σ : L2.St} {E : Env} {as : Nat → List Addr} {Q : VK}
theorem PoB.mono {Q' : VK} (i : ∀ v H, Q v H → Q' v H) : ∀ {r : Res ((Addr × Fs) × Env)}, PoB K Wi F G σ Q r → PoB K Wi F G σ Q' r
  | .ok (_, _), h => fun a ls G' H' as' s st nw ob => i _ _ (h a ls G' H' as' s st nw ob)
  | .err _ _, h => h
theorem PoB.up {r : Res ((Addr × Fs) × Env)} (e : Same G G1) (h : PoB K Wi F G σ Q r) : PoB K Wi F G1 σ Q r := by
  match r, h with
  | .ok (w, E'), h => exact fun a ls G' H' as' s => h a ls G' H' as' (e.trans s)
  | .err x E', h => exact fun c dx G' H' as' s => h c dx G' H' as' (e.trans s)
/-- what a first step leaves -/
def MidB (K : PySem.W.Frag) (F : Fr) (G : Hp) (σ : L2.St) (R : Addr → List Addr → Addr × Fs → Hp → Hp → Env → (Nat → List Addr) → Prop) (v : V) (H1 : Hp) : Prop :=
  ∃ a ls z G1 E1 as1, v = .ref a ∧ Same G G1 ∧ StE K F G1 H1 σ E1 as1 ∧ NewB F G1 as1 (a :: ls) ∧ ObAt K G1 H1 a ls z.1 z.2 ∧ R a ls z G1 H1 E1 as1
theorem PoB.bindS {D0 : Ends} {r : Res ((Addr × Fs) × Env)} {g : (Addr × Fs) × Env → Res (Fl × Env)} (h : PoS K Wi F G D0 (r.bind g)) : PoB K Wi F G σ (MidB K F G σ fun _ _ z G1 _ E1 _ => PoS K Wi F G1 D0 (g (z, E1))) r := by
  match r, h with
  | .ok (w, E'), h => exact fun a ls G' H' as' s st nw ob => ⟨a, ls, w, G', E', as', rfl, s, st, nw, ob, PoS.up s h⟩
  | .err x E', h => exact fun c dx G' H' as' s st xo => h c dx σ G' H' as' s st xo
theorem PoB.bindE {r : Res ((Addr × Fs) × Env)} {g : (Addr × Fs) × Env → Res (W × Env)} (h : Po K Wi F G σ Q (r.bind g)) : PoB K Wi F G σ (MidB K F G σ fun _ _ z G1 _ E1 _ => Po K Wi F G1 σ Q (g (z, E1))) r := by
  match r, h with
  | .ok (w, E'), h => exact fun a ls G' H' as' s st nw ob => ⟨a, ls, w, G', E', as', rfl, s, st, nw, ob, Po.up s h⟩
  | .err x E', h => exact h
theorem PoB.of {α : Type} {o : Option α} {g : α → Res ((Addr × Fs) × Env)} (h : PoB K Wi F G σ Q ((ofO o).bind g)) : ∃ d, o = some d ∧ PoB K Wi F G σ Q (g d) := by
  cases o with
  | none => exact h.elim
  | some d => exact ⟨d, rfl, h⟩
end

section
variable {X : Cx} {Wi : Wish} {e : Expr} {pos pos' : Pos}
end

section
variable {K : PySem.W.Frag} {F : Fr} {G G' H H' : Hp} {σ : L2.St} {E : Env} {as : Nat → List Addr}
theorem StE.sob (st : StE K F G H σ E as) {i : Nat} {a C : Addr} {fs : Fs} (e : E[i]? = some (.sob a C fs)) :
    ∃ ls, as i = a :: ls ∧ σ[i]? = some (some (.ref a)) ∧ ObAt K G H a ls C fs ∧ (∀ b ∈ a :: ls, G b = none ∧ (F.H0 b = none ∨ b ∈ F.X0)) := by
  obtain ⟨v, e1, ls, x1, x2, x4⟩ := st.cell i _ e
  subst x2
  exact ⟨ls, x1, e1, x4, fun b hb => st.off i b (by rw [x1]; exact hb)⟩
end
section
variable {X : Cx} {Wi : Wish} {o value : Expr} {i : Nat} {C : Addr} {f : Str} {pos pos' : Pos}
end
end DL
namespace DL
open PySem PySem.Spec PyProof.Rows L2

section
variable {P : Program} {w : World} {K : PySem.W.Frag} {mg : Str → Option Value} {base : Heap} {k : Nat} {f : Addr} {fd : FuncData} {ps N : List Str} {x qual : Str} {st : Stmt} {fb : SF}
end

section
variable {X : Cx} {CX : CXT} {k n : Nat} {f C : Addr} {fd : FuncData} {ps ks : List Str} {Wi : Wish} {x m : Str} {p pos apos kpos : Pos} {e o : Expr} {es : List Expr} {fs : AF} {fm : List D → Res Fs} {sp : Sp} {t tk : TA}
end

/-- what stands behind: the end hands the object of slot i back -/
def PoSB (K : PySem.W.Frag) (Wi : Wish) (F : Fr) (G : Hp) (i : Nat) (Dn : Ends) : Res (Fl × Env) → Prop
  | .ok (.nx, E') => ∀ v σ' G' H' as', Same G G' → StE K F G' H' σ' E' as' → σ'[i]? = some (some v) → Dn.rt v H'
  | .err x E' => ∀ c dx σ' G' H' as', Same G G' → StE K F G' H' σ' E' as' → ExOk K G' x c dx → Wi σ' c dx H'
  | _ => False
section
variable {K : PySem.W.Frag} {Wi : Wish} {F : Fr} {G G1 : Hp} {i : Nat} {Dn : Ends}
theorem PoSB.up {r : Res (Fl × Env)} (e : Same G G1) (h : PoSB K Wi F G i Dn r) : PoSB K Wi F G1 i Dn r := by
  match r, h with
  | .ok (.nx, E'), h => exact fun v σ' G' H' as' s => h v σ' G' H' as' (e.trans s)
  | .err x E', h => exact fun c dx σ' G' H' as' s => h c dx σ' G' H' as' (e.trans s)
end
section
variable {X : Cx} {Wi : Wish} {e : Expr} {st : Stmt} {rest : List Stmt} {f g : SF} {i : Nat} {pos : Pos}
end
section
variable {P : Program} {w : World} {K : PySem.W.Frag} {mg : Str → Option Value} {base : Heap} {k : Nat} {f : Addr} {fd : FuncData} {ps N : List Str} {x qual : Str} {st : Stmt} {fb : SF}
end

section
variable {X : Cx} {CX : CXT} {k n : Nat} {f C : Addr} {fd : FuncData} {ps : List Str} {Wi : Wish} {x m : Str} {p pos apos : Pos} {e o : Expr} {es : List Expr} {fs : AF} {fm : List D → Res (Addr × Fs)} {gm : Fs → List D → Res (D × Fs)} {fb : NBF}
end
end DL
namespace DL
open PySem PySem.Spec PyProof.Rows L2 TL

theorem DXs.at {K : PySem.W.Frag} {G : Hp} : ∀ {xs : XEnts} {kd : List (D × D)} {i : Nat} {x : NestedKey × Addr × Value}, DXs K G xs kd → xs[i]? = some x → ∃ k d v, kd[i]? = some (k, d) ∧ DD K G (.ref x.2.1) k ∧ RelV v x.2.2 ∧ DD K G v d
  | _, _, i, _, .nil, e => by simp at e
  | _, _, 0, _, .cons _ h2 h3 h4 _, e => by cases e; exact ⟨_, _, _, rfl, h2, h3, h4⟩
  | _, _, i + 1, _, .cons _ _ _ _ t, e => by
    obtain ⟨k, d, v, e1, r⟩ := DXs.at (i := i) t (by simpa using e)
    exact ⟨k, d, v, by simpa using e1, r⟩
section
variable {X : Cx} {Wi : Wish} {o e e2 tg : Expr} {f fk fd : EF} {apos cpos tpos : Pos} {elts : List Expr} {kk : Nat}
end
end DL
namespace DL
open PySem PySem.Spec PyProof.Rows L2 TL

section
variable {X : Cx} {Wi : Wish} {o e : Expr} {es : List Expr} {fs : AF} {apos cpos pos : Pos} {L : Loc} {w0 : World}
end
end DL
namespace DL
open PySem PySem.Spec PyProof.Rows L2 TL

section
variable {X : Cx}
end
theorem PoT.bindN {K : PySem.W.Frag} {Wi : Wish} {F : Fr} {G : Hp} {σ : L2.St} {QE : VK} {r : Res (Bool × Env)} {g : Bool × Env → Res (D × Env)} (h : PoN K Wi F G σ QE (r.bind g)) :
    PoT K Wi F G σ (MidT K F G σ fun o G1 _ E1 _ => PoN K Wi F G1 σ QE (g (o, E1))) r := by
  match r, h with
  | .ok (w, E'), h => exact fun G' H' as' s st => ⟨G', E', as', s, st, PoN.up s h⟩
  | .err x E', h => exact h
end DL
namespace DL
open PySem PySem.Spec PyProof.Rows L2
/-- a set as it is made -/
abbrev set0 (w : World) : Obj := { cls := .type "set", dict := none, data := .set #[] 0 (.fresh 0 0 (!w.params.followText "set-order")) }
/-- where set() stands behind it -/
abbrev withSet (w : World) (s : Shared) : Shared := { s with heap := s.heap.push (set0 w) }
theorem none_above {h : Heap} {b : Addr} (hb : h.objs.size ≤ b) : h.get? b = none := Heap.get?_none_of_le hb
section
variable {P : Program} {w : World} {A : Around} {s : Shared} {E : Value → Shared → Prop} {T : Addr} {vs : Array Value} {ks : List (Addr × List Int)}
end
end DL
namespace DL
open PySem PySem.Spec PyProof.Rows L2
section
variable {X : Cx} {pins : List (Addr × Obj)} {σ : L2.St} {G H : Hp} {s : Shared}
end
end DL
namespace DL
open PySem PySem.Spec PyProof.Rows L2
section
variable {X : Cx} {pins : List (Addr × Obj)} {σ : L2.St} {G H : Hp} {s : Shared}
/-- tuples and lists: right by the heap alone -/
def PlainO : HO → Prop
  | .tup _ => True
  | .lst _ => True
  | _ => False
theorem PlainO.any {P : Program} {w : World} {H H' : Hp} {h : Heap} {a : Addr} {o : HO} (p : PlainO o) (x : ObjOk P w H h a o) : ObjOk P w H' h a o := by
  cases o with
  | tup xs => exact x
  | lst xs => exact x
  | _ => exact p.elim
inductive DTP (K : PySem.W.Frag) (G : Hp) : List (Addr × V) → List (D × D) → Prop
  | nil : DTP K G [] []
  | cons {b : Addr} {v : V} {k d : D} {ts : List (Addr × V)} {kd : List (D × D)} : DD K G (.ref b) k → DD K G v d → DTP K G ts kd → DTP K G ((b, v) :: ts) ((k, d) :: kd)
theorem DTP.len {K : PySem.W.Frag} : ∀ {ts : List (Addr × V)} {kd : List (D × D)}, DTP K G ts kd → ts.length = kd.length
  | _, _, .nil => rfl
  | _, _, .cons _ _ t => congrArg Nat.succ t.len
end
end DL
namespace DL
open PySem PySem.Spec PyProof.Rows L2
section
variable {X : Cx} {Wi : Wish} {o ie tg : Expr} {f fi : EF} {pos : Pos}
end
end DL
namespace DL
open PySem PySem.Spec PyProof.Rows L2
/-- a set of texts that can be walked: the texts l, each once -/
structure SetX (P : Program) (w : World) (h : Heap) (S : Addr) (l : List Str) : Prop where
  ex : ∃ D : Froz.SD, h.get? S = some (Froz.sObj "set" D) ∧ Froz.TxOk P w D l ∧ Ris D.2.2.place.toList ∧ (w.params.followText "set-order" = true ∨ D.2.2.led = true)
  nd : l.Nodup
theorem addTx_walk {w : World} {v : Value} {D : Froz.SD} {n : Int} (r : Ris D.2.2.place.toList) (z : w.params.followText "set-order" = true ∨ D.2.2.led = true) :
    Ris (Froz.addTx n v D).2.2.place.toList ∧ (w.params.followText "set-order" = true ∨ (Froz.addTx n v D).2.2.led = true) := by
  obtain ⟨es, ep, t⟩ := D
  have r1 := layNew_ris t es n v r
  have l1 := layNew_led t es n v
  unfold Froz.addTx Froz.tailTx
  dsimp only at z r1 l1 ⊢
  generalize layNew t es n v = Z at r1 l1 ⊢
  obtain ⟨es1, t1, wd, gv⟩ := Z
  dsimp only at r1 l1 ⊢
  have key : ∀ t2 : SetTable, Ris t2.place.toList → t2.led = t1.led → Ris (if (!wd && t2.tooFull) = true then ((relayAll t2 es1 (SetTable.grown es1.size)).1, ep + 2, (relayAll t2 es1 (SetTable.grown es1.size)).2.1) else (es1, ep + 1, t2)).2.2.place.toList ∧
      (w.params.followText "set-order" = true ∨ (if (!wd && t2.tooFull) = true then ((relayAll t2 es1 (SetTable.grown es1.size)).1, ep + 2, (relayAll t2 es1 (SetTable.grown es1.size)).2.1) else (es1, ep + 1, t2)).2.2.led = true) := fun t2 q e => by
    split
    · exact ⟨relayAll_ris .., z.imp id fun y => by rw [relayAll_led, e, l1]; exact y⟩
    · exact ⟨q, z.imp id fun y => by rw [e, l1]; exact y⟩
  by_cases c : t1.plain = true
  · rw [if_pos c]
    exact key { t1 with plain := false } r1 rfl
  · rw [if_neg c]
    exact key t1 r1 rfl
section
variable {P : Program} {w : World} {A : Around} {s : Shared} {E : Value → Shared → Prop} {S : Addr} {l : List Str} {k : Str} {tk : Tok}
theorem SetX.at (R : SetX P w s.heap S l) {h : Heap} (q : ∀ o, s.heap.get? S = some o → h.get? S = some o) : SetX P w h S l := by
  obtain ⟨⟨D, h1, r⟩, nd⟩ := R
  exact ⟨⟨D, q _ h1, r⟩, nd⟩
/-- s.add(k), told by the hash -/
theorem setX_add {Q : Bool → Shared → Prop} (R : SetX P w s.heap S l) (room : l.length + 1 < scanBound)
    (fin : ∀ b h', Heap.SameBut S s.heap h' → SetX P w h' S (if k ∈ l then l else k :: l) → Q b { s with heap := h' }) : wpAny (model P w) A (setAddHashed S (.str k tk) (hashStr w k)) Q E s := by
  obtain ⟨⟨D, at_, F, ris, led⟩, nd⟩ := id R
  by_cases hk : k ∈ l
  · rw [if_pos hk] at fin
    obtain ⟨es, ep, t⟩ := D
    have el : ElemsOf (strKind P w) es.toList := F.el
    have sz : es.size = l.length := F.sz
    have dat : (Froz.sObj "set" (es, ep, t)).data = .set es ep t := rfl
    unfold setAddHashed setAddHashedIn
    refine wpAny_holding (wpAny_bind (wpAny_setState_of at_ dat F.fit ?_))
    dsimp only
    rw [byScan_of rfl (by omega) el]
    simp only [↓reduceIte]
    unfold setAddByScan
    refine wpAny_bind (wpAny_bind (wpAny_rule (wpAny_bind (wpAny_setScan_of (knd := strKind P w) (k := k) (Froz.is_str k tk) at_ dat F.fit el ?_))))
    obtain ⟨e, he, hi⟩ := (F.mem k).mp hk
    cases q : List.findIdx? (fun e => (strKind P w).is k e.2) es.toList with
    | none =>
      have := List.findIdx?_eq_none_iff.mp q e he
      rw [hi] at this; cases this
    | some j =>
      dsimp only
      exact wpAny_pure (wpAny_pure (fin _ s.heap (Heap.SameBut.refl S s.heap) R))
  · rw [if_neg hk] at fin
    refine Froz.add_x at_ F hk room (fin true _ (Heap.SameBut.update s.heap S _) ?_)
    obtain ⟨r1, l1⟩ := addTx_walk (w := w) (v := .str k tk) (n := hashStr w k) ris led
    exact ⟨⟨_, Froz.get_upd _ at_ rfl, Froz.add_ok tk F, r1, l1⟩, List.nodup_cons.mpr ⟨hk, nd⟩⟩
/-- the signs of a text, as texts -/
def signT (x : Str) (i : Nat) : List Str := (x.cps.toList.take i).map fun c => (⟨#[c]⟩ : Str)
theorem signT_succ {x : Str} {i c : Nat} (h : x.cps[i]? = some c) {y : Str} : y ∈ signT x (i + 1) ↔ y ∈ signT x i ∨ y = ⟨#[c]⟩ := by
  unfold signT
  have e : x.cps.toList[i]? = some c := by rw [Array.getElem?_toList]; exact h
  rw [List.take_add_one, e, List.map_append, List.mem_append]
  simp [eq_comm]
theorem txt_loop {x : Str} {I : Addr} {fp wr : List Addr} {G : Array GenState → Array GenState → Prop} {n : Nat} {St : Nat → Shared → Prop} {R : Result → Shared → Prop}
    (W : WalksS P w A.in1 I fp wr G n (SignAt x) St) (hS : S ∉ fp) (hn : n + 1 < scanBound) :
    ∀ (k i : Nat) (s : Shared), n - i = k → i ≤ n → St i s → (∃ l, SetX P w s.heap S l ∧ (∀ y, y ∈ l ↔ y ∈ signT x i) ∧ l.length ≤ i) →
      (∀ s' l, Moved (S :: wr) G s s' → SetX P w s'.heap S l → (∀ y, y ∈ l ↔ y ∈ signT x n) → l.length ≤ n → R (.ok (.ret .none)) s') →
      codeAny (model P w) A (.builtin "set.update.loop" ⟨[.ref S, .ref I], []⟩) R s := by
  have off : S ∉ wr := fun h => hS (W.sub _ h)
  have more : ∀ b ∈ wr, b ∈ S :: wr := fun b hb => List.mem_cons_of_mem _ hb
  intro k
  induction k with
  | zero =>
    intro i s e hi st ⟨l, X, m, hl⟩ fin
    obtain rfl : i = n := by omega
    refine codeAny_builtin F.entry_set_update_loop ?_
    rw [Around.under_plainId F.plain_set_update_loop _]
    refine wpAny_bind (m := pyNext (.ref I)) (W.done s _ _ st fun s' mv => ?_)
    exact wpAny_pure (fin s' l (mv.mono more) (X.at fun o q => mv.heap S o off q) m hl)
  | succ k ih =>
    intro i s e hi st ⟨l, X, m, hl⟩ fin
    have lt : i < n := by omega
    refine codeAny_builtin F.entry_set_update_loop ?_
    rw [Around.under_plainId F.plain_set_update_loop _]
    refine wpAny_bind (m := pyNext (.ref I)) (W.item i s _ _ lt st fun v s' hv st' mv => ?_)
    obtain ⟨c, u, hc, rfl⟩ := hv
    have X' : SetX P w s'.heap S l := X.at fun o q => mv.heap S o off q
    show wpAny _ A.in1 (holding [Value.str ⟨#[c]⟩ u] (setAdd S (.str ⟨#[c]⟩ u)) >>= _) _ _ s'
    refine wpAny_bind (wpAny_holding ?_)
    unfold setAdd
    refine wpAny_holding (wpAny_bind ((strKind P w).pyHash (k := ⟨#[c]⟩) (Froz.is_str _ _) ?_))
    refine setX_add (s := { s' with toks := s'.toks + 1 }) X' (by omega) fun b h' sb X2 => ?_
    have m2 : ∀ y, y ∈ (if (⟨#[c]⟩ : Str) ∈ l then l else ⟨#[c]⟩ :: l) ↔ y ∈ signT x (i + 1) := fun y => by
      rw [signT_succ hc]
      split
      · rename_i z
        rw [m]
        exact ⟨.inl, fun q => q.elim id fun e => e ▸ (m _).mp z⟩
      · rw [List.mem_cons, m]
        exact Or.comm
    have l2 : (if (⟨#[c]⟩ : Str) ∈ l then l else ⟨#[c]⟩ :: l).length ≤ i + 1 := by
      split
      · omega
      · rw [List.length_cons]; omega
    refine wpAny_pure ⟨plainId_quiet F.plain_set_update_loop _, ih (i + 1) _ (by omega) lt (W.frame _ s' _ _ st' (Nat.le_succ _) fun y hy o q => ?_) ⟨_, X2, m2, l2⟩ fun s2 l3 mv2 X3 m3 hl3 => fin s2 l3 ?_ X3 m3 hl3⟩
    · rw [sb.2 y fun z : y = S => hS (z ▸ hy)]; exact q
    · refine Moved.trans W.gtrans ((mv.mono more).then_heap (Nat.le_succ _) fun y o hy q => ?_) mv2
      rw [sb.2 y fun z : y = S => hy (z ▸ List.mem_cons_self)]; exact q
/-- what set(x) leaves: the signs of x -/
def FilledX (P : Program) (w : World) (s : Shared) (x : Str) (s2 : Shared) : Prop :=
  ∃ h2 tk l, s2 = { s with heap := h2, toks := tk } ∧ SetX P w h2 s.heap.objs.size l ∧ (∀ y, y ∈ l ↔ y ∈ signT x x.cps.size) ∧ l.length ≤ x.cps.size ∧ ∀ b o, s.heap.get? b = some o → h2.get? b = some o
theorem init_setX {x : Str} {t : Tok} (bare : A.handled = none) (few : x.cps.size + 1 < scanBound) :
    wpAny (model P w) A.in1.in1 (Builtin.«set.__init__» ⟨[.ref s.heap.objs.size, .str x t], []⟩)
      (fun fin s2 => match fin with
        | .done f => wants (fun r s3 => r = .none ∧ FilledX P w s x s3) E (.ok f) s2
        | .again c => c.quiet = true ∧ codeAny (model P w) A.in1 c (wants (fun r s3 => r = .none ∧ FilledX P w s x s3) E) s2)
      (fun v s2 => wants (fun r s3 => r = .none ∧ FilledX P w s x s3) E (.error v) s2) (withSet w s) := by
  have a1 := F.sub_str_set
  have a2 := F.sub_str_frozenset
  have a3 : (Value.type "str" == Value.type "dict") = false := by decide
  unfold Builtin.«set.__init__» noKeywords Builtin.Frozenset.updateFrom
  generalize hIt : pyIter = It
  wp_walk
  subst hIt
  refine wpAny_pyIter_str fun o St Wk st0 => wpAny_bind (wpAny_runValue ?_)
  have sz : (withSet w s).heap.objs.size = s.heap.objs.size + 1 := Heap.size_push ..
  have notIn : s.heap.objs.size ∉ [(withSet w s).heap.objs.size] := fun z => by
    rw [sz] at z
    exact absurd (List.mem_singleton.mp z) (Nat.ne_of_lt (Nat.lt_succ_self _))
  have there : ((withSet w s).heap.push o).get? s.heap.objs.size = some (set0 w) := Heap.get?_push_of_some _ (Heap.get?_push_size _ rfl)
  have up : ∀ b o', s.heap.get? b = some o' → ((withSet w s).heap.push o).get? b = some o' := fun b o' q => Heap.get?_push_of_some _ (Heap.get?_push_of_some _ q)
  have X0 : SetX P w ((withSet w s).heap.push o) s.heap.objs.size [] := ⟨⟨(#[], 0, .fresh 0 0 (!w.params.followText "set-order")), there, Froz.TxOk.nil rfl, List.Pairwise.nil, by
    cases w.params.followText "set-order"
    · exact .inr rfl
    · exact .inl rfl⟩, .nil⟩
  refine txt_loop (A := A.in1.in1) (Wk A.in1.in1.in1 (by simpa using bare)).toS notIn few x.cps.size 0 _ (Nat.sub_zero _) (Nat.zero_le _) st0 ⟨[], X0, fun y => by simp [signT], Nat.le_refl _⟩ ?_
  rintro ⟨h2, g2, d2, tk, os2⟩ l mv X2 m hl
  obtain rfl : g2 = s.gens := mv.gens
  obtain rfl : d2 = s.drawn := mv.drawn
  obtain rfl : os2 = s.os := mv.os
  refine wpAny_pure ?_
  refine wpAny_pure ⟨rfl, h2, tk, l, rfl, X2, m, hl, fun b o' q => mv.heap b o' (fun z => ?_) (up b o' q)⟩
  have lt := Heap.lt_size q
  rcases List.mem_cons.mp z with z | z
  · rw [z] at lt; exact Nat.lt_irrefl _ lt
  · rw [List.mem_singleton.mp z, sz] at lt
    exact Nat.lt_irrefl _ (Nat.lt_trans (Nat.lt_succ_self _) lt)
/-- set(x) -/
theorem call_setX {x : Str} {t : Tok} (bare : A.handled = none) (few : x.cps.size + 1 < scanBound) {Q : Value → Shared → Prop} (fin : ∀ s2, FilledX P w s x s2 → Q (.ref s.heap.objs.size) s2) :
    wpAny (model P w) A (call (.type "set") [.str x t]) Q E s := by
  obtain ⟨c, tl, b1⟩ := F.called_set.mro
  have b2 := F.called_set.made
  have b3 := F.called_set.sub
  have b4 := F.called_set.notType
  have b5 := F.called_set.canCreate
  have b6 := F.typeCall_set_1 (.str x t)
  refine wpAny_call (codeAny_of_tree (show wpAny _ _ (callAny (.type "set") _) _ _ _ from wpAny_pure ⟨Code.quiet_builtin _ (by decide +kernel), codeAny_builtin F.entry_type_call ?_⟩))
  rw [Around.under_plain (weight_type_call_type "set" [.str x t] []) rfl]
  repeat (any_goals (first | assumption | wp_step))
  refine codeAny_mono (code_set_led1 (.str x t) (E := E) (Q₁ := fun v s1 => v = .ref s.heap.objs.size ∧ s1 = withSet w s) ⟨rfl, rfl⟩) fun r s1 hr => ?_
  match r, hr with
  | .error _, hr => exact hr
  | .ok (.ret v), hr =>
    obtain ⟨rfl, rfl⟩ := hr
    have isSet : (withSet w s).TypeIs (.ref s.heap.objs.size) "set" := ⟨_, Heap.get?_push_size _ rfl, rfl⟩
    have c1 := F.called_set.init.lookup
    have c2 := F.called_set.init.bind (.ref s.heap.objs.size)
    repeat (any_goals (first | assumption | wp_step))
    refine codeAny_mono (codeAny_call_builtin (R := wants (fun r s3 => r = .none ∧ FilledX P w s x s3) E) F.called_set.init.plain F.entry_set_init (check_set_init_1 isSet (init_setX bare few))) fun r2 s2 hr2 => ?_
    match r2, hr2 with
    | .error _, hr2 => exact hr2
    | .ok (.ret _), hr2 =>
      obtain ⟨rfl, f⟩ := hr2
      repeat (any_goals (first | assumption | wp_step))
      exact fin _ f
end
end DL
namespace DL
open PySem PySem.Spec PyProof.Rows L2
def SetXO (P : Program) (w : World) (S : Addr) (l : List Str) : HO := .ext fun h => SetX P w h S l
theorem setXO_new {P : Program} {w : World} {H : Hp} {h : Heap} {S : Addr} {l : List Str} (R : SetX P w h S l) : ObjOk P w H h S (SetXO P w S l) := by
  obtain ⟨⟨D, h1, r⟩, nd⟩ := id R
  exact ⟨R, ⟨_, h1⟩, fun g g' (p : SetX P w g S l) q => by
    obtain ⟨⟨D', h2, r2⟩, nd2⟩ := p
    exact ⟨⟨D', q _ h2, r2⟩, nd2⟩⟩
theorem perm_of_sub {α : Type} [DecidableEq α] : ∀ {l m : List α}, l.Nodup → (∀ x ∈ l, x ∈ m) → m.length ≤ l.length → m.Perm l
  | [], m, _, _, h => by
    have : m = [] := List.length_eq_zero_iff.mp (Nat.le_zero.mp h)
    rw [this]
  | a :: l, m, nd, sub, h => by
    obtain ⟨n1, n2⟩ := List.nodup_cons.mp nd
    have ha : a ∈ m := sub a List.mem_cons_self
    have p := List.perm_cons_erase ha
    refine p.trans (List.Perm.cons a (perm_of_sub n2 (fun x hx => ?_) ?_))
    · exact (List.mem_erase_of_ne fun e : x = a => n1 (e ▸ hx)).mpr (sub x (List.mem_cons_of_mem _ hx))
    · have := p.length_eq
      rw [List.length_cons] at this
      rw [List.length_cons] at h
      omega
/-- the texts of a walk over it -/
theorem setX_vals {P : Program} {w : World} {D : Froz.SD} {l : List Str} {vs : List Value} (F : Froz.TxOk P w D l) (nd : l.Nodup) (pm : vs.Perm (D.1.toList.map (·.2))) : ∃ ss, StrsAre vs ss ∧ ss.Perm l := by
  have each : ∀ v ∈ vs, ∃ x t, v = .str x t := fun v hv => by
    obtain ⟨e, he, rfl⟩ := List.mem_map.mp (pm.mem_iff.mp hv)
    obtain ⟨⟨k, hk, _⟩, _⟩ := F.el e he
    obtain ⟨t, ev⟩ := Value.isStrOf_shape (x := k) (v := e.2) hk
    exact ⟨k, t, ev⟩
  refine ⟨vs.map strOf, strsAre_map vs each, perm_of_sub nd (fun x hx => ?_) ?_⟩
  · obtain ⟨e, he, hi⟩ := (F.mem x).mp hx
    obtain ⟨t, ev⟩ := Value.isStrOf_shape (x := x) (v := e.2) hi
    refine List.mem_map.mpr ⟨e.2, pm.mem_iff.mpr (List.mem_map.mpr ⟨e, he, rfl⟩), ?_⟩
    rw [ev]; rfl
  · rw [List.length_map, pm.length_eq, List.length_map, Array.length_toList, F.sz]
    exact Nat.le_refl _
section
variable {X : Cx}
def rSetTx (P : Program) (w : World) : List V → Hp → VK → Prop := fun xs H Q => ∃ x : Str, xs = [.str x] ∧ x.cps.size < 64 ∧ ∀ S l, H S = none → (∀ y, y ∈ l ↔ y ∈ signT x x.cps.size) → l.length < 64 → l.Nodup → Q (.ref S) (upd H S (SetXO P w S l))
theorem cr_setX (calm : X.calm = true) : CallR X (.type "set") (rSetTx X.prog X.w) := by
  intro pins s σ H xs us Q I rv ⟨x, e, few, q⟩
  subst e
  obtain ⟨u, rfl, ru⟩ := rv.one
  obtain ⟨t, rfl⟩ := ru
  refine call_setX (I.ok.hd calm) (by unfold scanBound; omega) fun s2 filled => ?_
  obtain ⟨h2, tk, l, rfl, R, m, hl, keep⟩ := filled
  exact ⟨.ref s.heap.objs.size, _, I.laid keep (Nat.le_refl _) (setXO_new R), rfl, q _ l (I.hok.fresh (Nat.le_refl _)) m (by omega) R.nd⟩
def rSortTx (P : Program) (w : World) : List V → Hp → VK → Prop := fun vs H Q => ∃ S l, vs = [V.ref S] ∧ H S = some (SetXO P w S l) ∧ l.length < 64 ∧ ∀ ys p, ys.Perm l → sortedS ys = true → H p = none → Q (.ref p) (upd H p (.lst (ys.map V.str)))
theorem cr_sortX (calm : X.calm = true) : CallR X (.builtin "sorted") (rSortTx X.prog X.w) := by
  intro pins s σ H vs us Q I r ⟨S, l, e, at_, few, q⟩
  subst e
  rw [Vals.ref1 r]
  obtain ⟨⟨D, hD, F, ris, led⟩, nd⟩ : SetX X.prog X.w s.heap S l := (I.hok S _ at_).1
  obtain ⟨es, ep, t⟩ := D
  have sz : es.size = l.length := F.sz
  refine Calls.call_function_entry kind_sorted plain_sorted entry_sorted (args_sorted1 _) ?_
  unfold Builtin.«sorted»
  refine wpAny_bind (m := checkCount "sorted" 1 1 _) (wpAny_pure ?_)
  refine wpAny_bind (collect_set (A := X.A.in1) (I.ok.hd calm) ⟨_, hD, rfl, rfl⟩ F.fit (by rw [sz]; unfold scanBound; omega) ris led fun s1 out keep ge g1 o1 pm => ?_)
  obtain ⟨ss, hS, pl⟩ := setX_vals F nd pm
  have ol : out.length = l.length := by rw [pm.length_eq, List.length_map, Array.length_toList, sz]
  refine wpAny_bind (wpAny_newList ?_ (by rw [sizeLine_eq]; omega))
  have hL : (s1.heap.push (seqObj "list" out.toArray 0)).get? s1.heap.objs.size = some (seqObj "list" out.toArray 0) := Heap.get?_push_size _ rfl
  show wpAny _ _ _ _ _ { s1 with heap := s1.heap.push (seqObj "list" out.toArray 0) }
  refine wpAny_bind (wpAny_holding (wpAny_call_entry slot_list_sort ⟨_, hL, rfl⟩ entry_list_sort
    (list_sort_treeK strKind_oneLt (s := { s1 with heap := s1.heap.push (seqObj "list" out.toArray 0) }) hL hS.keysOf (fun v1 v2 rest e => keyKind_strs (by rw [← e]; exact hS)) (by omega) fun st' hp hs => ⟨_, rfl, ?_⟩)
    (args_list_sort _)))
  obtain ⟨ys, z1, z2, z3⟩ := sorted_out_str hS hp hs
  obtain ⟨c, hc⟩ := sortedHeap_at (vs := out) (out := (arrOf st').map (·.2)) hL
  have py : ys.Perm l := z2.trans pl
  have hl2 : (ys.map V.str).length ≤ sizeLine := by rw [List.length_map, py.length_eq, sizeLine_eq]; omega
  have hn : H s1.heap.objs.size = none := I.hok.fresh ge
  have k2 : ∀ b o, s.heap.get? b = some o → (sortedHeap (s1.heap.push (seqObj "list" out.toArray 0)) s1.heap.objs.size out ((arrOf st').map (·.2))).get? b = some o := fun b o e => by
    have lt := Heap.lt_size (keep b o e)
    rw [sortedHeap_old (Nat.ne_of_lt lt) (by rw [size_push']; exact Nat.lt_succ_of_lt lt)]
    exact Heap.get?_push_of_some _ (keep b o e)
  refine wpAny_pure ⟨_, rfl, ?_⟩
  show EP X pins σ Q _ ({ s1 with heap := sortedHeap (s1.heap.push (seqObj "list" out.toArray 0)) s1.heap.objs.size out ((arrOf st').map (·.2)) } : Shared)
  generalize sortedHeap (s1.heap.push (seqObj "list" out.toArray 0)) s1.heap.objs.size out ((arrOf st').map (·.2)) = h2 at hc k2 ⊢
  have J : Inv X pins σ (upd H s1.heap.objs.size (.lst (ys.map V.str))) { s with heap := h2, gens := s1.gens, drawn := s1.drawn, toks := s1.toks } :=
    I.call (ch := []) (Un.laid k2 ge hn) (I.hok.laid k2 ge ⟨hl2, ((arrOf st').map (·.2)).toList, c, vals_of_strs z1, by rw [Array.toArray_toList]; exact hc⟩) (by rw [g1]; exact I.bare) (fun _ z => nomatch z)
  have e : ({ s1 with heap := h2 } : Shared) = { s with heap := h2, gens := s1.gens, drawn := s1.drawn, toks := s1.toks } := by
    cases s1; cases s; cases o1; rfl
  rw [e]
  exact ⟨.ref _, _, J, rfl, q ys _ py z3 hn⟩
end
end DL
namespace DL
open PySem PySem.Spec PyProof.Rows L2
end DL
namespace DL
open PySem PySem.Spec PyProof.Rows L2 TL
end DL
namespace DL
open PySem PySem.Spec PyProof.Rows L2
abbrev NKey := NestedKey
/-- the tuple at b is the key y -/
def IsN (h : Heap) (y : NKey) (b : Addr) : Prop := NestedIs h y (.ref b) ∧ y.depth ≤ 8
theorem IsN.keep {h g : Heap} {y : NKey} {b : Addr} (z : IsN h y b) (up : ∀ c o, h.get? c = some o → g.get? c = some o) : IsN g y b :=
  ⟨NestedIs.at (fun _ _ _ _ q _ => up _ _ q) y _ z.1, z.2⟩
theorem IsN.beside {h g : Heap} {y : NKey} {b S : Addr} {o : Obj} {es : Array (Int × Value)} {ep : Nat} {t : SetTable} (z : IsN h y b) (ho : h.get? S = some o) (hd : o.data = .set es ep t) (sb : Heap.SameBut S h g) : IsN g y b :=
  ⟨NestedIs.at (fun c ob vs n q e => (sb.2 c fun x => by
    subst x
    rw [ho] at q; cases q
    rw [hd] at e; cases e).trans q) y _ z.1, z.2⟩
theorem nested_each {h : Heap} : ∀ {ys : List NKey} {vs : List Value}, NestedAll h ys vs → ∀ v ∈ vs, ∃ y ∈ ys, NestedIs h y v
  | _, _, .nil, v, hv => by cases hv
  | _, _, .cons a r, v, hv => by
    rcases List.mem_cons.mp hv with rfl | hv
    · exact ⟨_, List.mem_cons_self, a⟩
    · obtain ⟨y, hy, q⟩ := nested_each r v hv
      exact ⟨y, List.mem_cons_of_mem _ hy, q⟩
theorem depth_each : ∀ {ys : List NKey} {y : NKey}, y ∈ ys → y.depth ≤ NestedKey.depthAll ys
  | x :: ys, y, hy => by
    unfold NestedKey.depthAll
    rcases List.mem_cons.mp hy with rfl | hy
    · omega
    · have := depth_each hy
      omega
section
variable {P : Program} {w : World} {A : Around} {E : Value → Shared → Prop} {s : Shared}
/-- whether the hash goes by the value: some answer -/
theorem hashBy_key : ∀ (n : Nat) {y : NKey} {v : Value} {Q : Bool → Shared → Prop}, NestedIs s.heap y v → (∀ b, Q b s) → wpAny (model P w) A (hashByValue n v) Q E s := by
  intro n
  induction n with
  | zero =>
    intro y v Q z q
    cases z <;> exact wpAny_pure (q _)
  | succ n ih =>
    intro y v Q z q
    cases z with
    | none => exact wpAny_pure (q _)
    | bool _ => exact wpAny_pure (q _)
    | int _ _ => exact wpAny_pure (q _)
    | text _ _ => exact wpAny_pure (q _)
    | tup g c d r =>
      unfold hashByValue
      refine wpAny_bind (wpAny_specialOf (T := "tuple") ⟨_, g, c⟩ F.slot_tuple_hash.lookup ?_)
      refine wpAny_bind (m := seqItems? _) (wpAny_seqItems g d (wpAny_bind ?_))
      dsimp only [Option.getD_some]
      rw [← Array.forIn_toList]
      refine wpAny_forIn_list _ (fun more st t => st.1 = none ∧ t = s ∧ ∀ u ∈ more, ∃ y, NestedIs s.heap y u) _ ?_ ?_ _ _ ⟨rfl, rfl, fun u hu => by
        obtain ⟨y, _, h⟩ := nested_each r u hu
        exact ⟨y, h⟩⟩
      · rintro u more st t ⟨e, rfl, all⟩
        obtain ⟨y', h⟩ := all u List.mem_cons_self
        refine wpAny_bind (ih h fun b => ?_)
        cases b with
        | true =>
          simp only [Bool.not_true, Bool.false_eq_true, if_false]
          exact wpAny_pure ⟨rfl, rfl, fun x hx => all x (List.mem_cons_of_mem _ hx)⟩
        | false =>
          simp only [Bool.not_false, if_true]
          exact wpAny_pure (wpAny_pure (q _))
      · rintro ⟨st, st2⟩ t ⟨e, rfl, _⟩
        dsimp only at e
        subst e
        exact wpAny_pure (q _)
/-- no class statement made it -/
theorem ofAClass_key : ∀ (n : Nat) {y : NKey} {v : Value} {Q : Bool → Shared → Prop}, NestedIs s.heap y v → y.depth ≤ n → Q false s → wpAny (model P w) A (ofAClassStatement n v) Q E s := by
  intro n
  induction n with
  | zero =>
    intro y v Q z hn q
    cases z with
    | tup g c d r => exact absurd hn (by unfold NestedKey.depth; omega)
    | _ => exact wpAny_pure q
  | succ n ih =>
    intro y v Q z hn q
    cases z with
    | none => exact wpAny_pure q
    | bool _ => exact wpAny_pure q
    | int _ _ => exact wpAny_pure q
    | text _ _ => exact wpAny_pure q
    | @tup a o vs m ys g c d r =>
      have hn : NestedKey.depthAll ys ≤ n := by unfold NestedKey.depth at hn; omega
      unfold ofAClassStatement
      refine wpAny_bind (wpAny_typeOf (T := "tuple") ⟨_, g, c⟩ ?_)
      dsimp only
      have isT : (("tuple" : String) == "tuple") = true := by decide
      simp only [isT, if_true, Bool.not_true, Bool.false_eq_true, if_false]
      try refine wpAny_bind (wpAny_pure ?_)
      try simp only [Bool.not_true, Bool.false_eq_true, if_false]
      refine wpAny_bind (m := seqItems? _) (wpAny_seqItems g d ?_)
      dsimp only
      refine wpAny_bind ?_
      rw [← Array.forIn_toList]
      refine wpAny_forIn_list _ (fun more st t => st.1 = none ∧ t = s ∧ ∀ u ∈ more, ∃ y ∈ ys, NestedIs s.heap y u) _ ?_ ?_ _ _ ⟨rfl, rfl, nested_each r⟩
      · rintro u more st t ⟨e, rfl, all⟩
        obtain ⟨y', hy, h⟩ := all u List.mem_cons_self
        refine wpAny_bind (ih h (Nat.le_trans (depth_each hy) hn) ?_)
        simp only [Bool.false_eq_true, if_false]
        exact wpAny_pure ⟨rfl, rfl, fun x hx => all x (List.mem_cons_of_mem _ hx)⟩
      · rintro ⟨st, st2⟩ t ⟨e, rfl, _⟩
        dsimp only at e
        subst e
        exact wpAny_pure q
/-- a search among them tells nothing -/
theorem seen_key {y : NKey} {b : Addr} {Q : Bool → Shared → Prop} {us : List Value} (hy : IsN s.heap y b) (hu : ∀ u ∈ us, ∃ y' c, u = Value.ref c ∧ IsN s.heap y' c) (q : Q false s) : wpAny (model P w) A (searchCouldBeSeen (.ref b) us) Q E s := by
  unfold searchCouldBeSeen
  refine wpAny_bind (wpAny_forIn_list _ (fun more st t => st.1 = none ∧ t = s ∧ ∀ u ∈ more, ∃ y' c, u = Value.ref c ∧ IsN s.heap y' c) _ ?_ ?_ _ _ ⟨rfl, rfl, hu⟩)
  · rintro u more st t ⟨e, rfl, all⟩
    obtain ⟨y', c, rfl, hc⟩ := all u List.mem_cons_self
    have rest : ∀ u ∈ more, ∃ y' c, u = Value.ref c ∧ IsN t.heap y' c := fun x hx => all x (List.mem_cons_of_mem _ hx)
    dsimp only
    by_cases very : (b == c || (carriedByValue (.ref b) && carriedByValue (.ref c))) = true
    · exact wp_if_pos very (wpAny_pure ⟨rfl, rfl, rest⟩)
    · refine wp_if_neg very (wpAny_bind ((nestedKind P w).quiet (k := y) hy ?_))
      simp only [Bool.not_true, Bool.false_eq_true, if_false]
      refine wpAny_bind ((nestedKind P w).quiet (k := y') hc ?_)
      simp only [Bool.not_true, Bool.false_eq_true, if_false]
      refine wpAny_bind (ofAClass_key 8 hy.1 hy.2 ?_)
      simp only [Bool.false_eq_true, if_false]
      refine wpAny_bind (ofAClass_key 8 hc.1 hc.2 ?_)
      simp only [Bool.false_eq_true, if_false]
      exact wpAny_pure ⟨rfl, rfl, rest⟩
  · rintro ⟨st, st2⟩ t ⟨e, rfl, _⟩
    dsimp only at e
    subst e
    exact wpAny_pure q
end

abbrev Keyed := List (Addr × NKey)
def nrows (w : World) (m : Keyed) : List (Int × Value) := m.map fun p => (p.2.hash w, Value.ref p.1)
def nhs (w : World) (m : Keyed) : List Int := m.map fun p => p.2.hash w
structure NSet (w : World) (h : Heap) (S : Addr) (m : Keyed) (es : Array (Int × Value)) (ep : Nat) (t : SetTable) : Prop where
  ob : ∃ o, h.get? S = some o ∧ o.ExactSet ∧ o.data = .set es ep t
  rows : es.toList = nrows w m
  tab : L2.TabOk t (nhs w m)
  nd : (m.map (·.2)).Nodup
  key : ∀ p ∈ m, IsN h p.2 p.1
  led : w.params.followText "set-order" = true ∨ t.led = true
  room : m.length * 5 < t.mask * 3
section
variable {P : Program} {w : World} {A : Around} {E : Value → Shared → Prop} {s : Shared} {S : Addr} {m : Keyed} {es : Array (Int × Value)} {ep : Nat} {t : SetTable}
theorem nrows_size (r : es.toList = nrows w m) : es.size = m.length := by
  rw [← Array.length_toList, r, nrows, List.length_map]
theorem NSet.size (Z : NSet w s.heap S m es ep t) : es.size = m.length := nrows_size Z.rows
theorem nrows_at (r : es.toList = nrows w m) {i : Nat} {p : Addr × NKey} (h : m[i]? = some p) : es[i]? = some (p.2.hash w, Value.ref p.1) := by
  rw [← Array.getElem?_toList, r, nrows, List.getElem?_map, h]; rfl
theorem NSet.fits (Z : NSet w s.heap S m es ep t) : t.fits es.size = true := by
  have a := Z.tab.sz
  have b := Z.size
  have c := Z.room
  rw [nhs, List.length_map] at a
  unfold SetTable.fits SetTable.fill
  rw [Z.tab.dm, Bool.and_eq_true, beq_iff_eq, decide_eq_true_eq]
  have : (#[] : Array Nat).size = 0 := rfl
  omega
theorem way_dummy (mask : Nat) : ∀ (n : Nat) {p : SetTable.Probe}, p.dummy = none → (nth mask p n).dummy = none
  | 0, _, h => h
  | n + 1, p, h => way_dummy mask n (p := adv mask p) (by unfold adv; split <;> exact h)
/-- where the way of a hash begins -/
abbrev from0 (t : SetTable) (n : Int) : SetTable.Probe := runAt t.mask (SetTable.bits n % (t.mask + 1)) (SetTable.bits n)
theorem nsearch_from (Z : NSet w s.heap S m es ep t) {b : Addr} {y : NKey} (hb : IsN s.heap y b) (hu : A.units + 8 < cLine) {K : Nat} (small : K < 10 * SetTable.turns t.mask) (free : way t.mask (y.hash w) K ∉ t.place.toList) (full : ∀ c, c < K → way t.mask (y.hash w) c ∈ t.place.toList)
    {Q : SetFound → Shared → Prop} (yes : y ∈ m.map (·.2) → Q (.there none) s) (no : y ∉ m.map (·.2) → Q (.free (way t.mask (y.hash w) K) false) s) :
    ∀ (f c : Nat) (stand : Option SetTable.Probe), stand.getD (t.probeStart (y.hash w)) = nth t.mask (from0 t (y.hash w)) c → c ≤ K → K - c < f →
      (∀ (i : Nat) p, m[i]? = some p → p.2 = y → ∃ c', c ≤ c' ∧ c' < K ∧ t.place.toList[i]? = some (way t.mask (y.hash w) c')) → wpAny (model P w) A (setSearchFrom S (.ref b) (y.hash w) true f stand) Q E s := by
  intro f
  induction f with
  | zero => intro c stand _ _ h; exact absurd h (Nat.not_lt_zero _)
  | succ f ih =>
    intro c stand here le lt ahead
    obtain ⟨o, ho, hex, hd⟩ := Z.ob
    rw [setSearchFrom_succ]
    refine wpAny_bind (wpAny_setState_of ho hd Z.fits ?_)
    dsimp only
    have still : ¬ t.gaveWay = true := by
      unfold SetTable.gaveWay
      rw [mask_odd Z.tab.mok]; decide
    refine wp_if_neg still ?_
    try refine wpAny_bind (wpAny_pure ?_)
    have on : ∀ d, nth t.mask (nth t.mask (from0 t (y.hash w)) c) d = nth t.mask (from0 t (y.hash w)) (c + d) := fun d => (nth_add t.mask c _ d).symm
    have onJ : ∀ d, (nth t.mask (nth t.mask (from0 t (y.hash w)) c) d).j = way t.mask (y.hash w) (c + d) := fun d => congrArg SetTable.Probe.j (on d)
    have kc : c + (K - c) = K := by omega
    have stored : ∀ (i : Nat) p, m[i]? = some p → (fun i => (es[i]?.map (·.1)).getD 0) i = p.2.hash w := fun i p hp => by
      dsimp only
      rw [nrows_at Z.rows hp]; rfl
    rcases go_spec t Z.tab.ris Z.tab.dm (fun i => (es[i]?.map (·.1)).getD 0) (y.hash w) (10 * SetTable.turns t.mask) (K - c) _ (way_dummy t.mask c rfl) (by omega) (fun d hd => by rw [onJ]; exact full _ (by omega)) (by rw [onJ, kc]; exact free) with ⟨d, i, hd1, hi, hh, before, pr⟩ | ⟨before, pr⟩
    · have pr' : t.probe (fun i => (es[i]?.map (·.1)).getD 0) (y.hash w) (stand.getD (t.probeStart (y.hash w))) = some (.candidate (way t.mask (y.hash w) (c + d)) i (nth t.mask (from0 t (y.hash w)) (c + (d + 1)))) := by
        rw [here, ← onJ, ← on]; exact pr
      rw [pr']
      dsimp only
      rw [onJ] at hi
      have il : i < m.length := by
        have a := (List.getElem?_eq_some_iff.mp hi).1
        have z := Z.tab.sz
        rw [nhs, List.length_map] at z
        rw [Array.length_toList] at a
        omega
      obtain ⟨p, hp⟩ : ∃ p, m[i]? = some p := ⟨_, List.getElem?_eq_getElem il⟩
      have pm : p ∈ m := List.mem_of_getElem? hp
      have go : wpAny (model P w) A (searchRest S (.ref b) (y.hash w) true f es t (way t.mask (y.hash w) (c + d)) i (nth t.mask (from0 t (y.hash w)) (c + (d + 1)))) Q E s := by
        unfold searchRest
        rw [nrows_at Z.rows hp]
        dsimp only
        refine wpAny_bind (wpAny_holding ((nestedKind P w).eqBool (x := p.2) (y := y) hu (Z.key p pm) hb ?_))
        refine wpAny_bind (wpAny_setState_of ho hd Z.fits ?_)
        dsimp only
        by_cases e : p.2 = y
        · exact wp_if_pos (by simp [e]) (wpAny_pure (yes (List.mem_map.mpr ⟨p, pm, e⟩)))
        · refine wp_if_neg (by simp [e]) ?_
          try refine wpAny_bind (wpAny_pure ?_)
          rw [sameMem]
          dsimp only
          have live := slot_live Z.tab.ris hi
          simp only [if_true, live, nrows_at Z.rows hp]
          refine wpAny_bind (wpAny_isSame_ref_self (wpAny_bind (wpAny_pure ?_)))
          simp only [if_true]
          refine wp_if_neg (by simp [e]) (ih (c + (d + 1)) _ rfl (by omega) (by omega) fun i0 p0 h0 k0 => ?_)
          obtain ⟨c', a1, a2, a3⟩ := ahead i0 p0 h0 k0
          refine ⟨c', ?_, a2, a3⟩
          rcases Nat.lt_trichotomy c' (c + d) with z | z | z
          · exact absurd ((stored i0 p0 h0).trans (by rw [k0])) (before (c' - c) i0 (by omega) (by rw [onJ, show c + (c' - c) = c' by omega]; exact a3))
          · rw [z] at a3
            have l2 := slot_live Z.tab.ris a3
            rw [live] at l2
            injection l2 with l2
            rw [← l2, hp] at h0
            cases h0
            exact absurd k0 e
          · omega
      by_cases hl : t.led = true
      · refine wp_if_neg (by simp [hl]) ?_
        try refine wpAny_bind (wpAny_pure ?_)
        exact go
      · refine wp_if_pos (by simp [hl]) (wpAny_bind (seen_key hb (fun u hu' => ?_) ?_))
        · obtain ⟨e, he, rfl⟩ := List.mem_map.mp hu'
          have he1 : e ∈ es ∧ e.1 = y.hash w := by simpa using he
          have he2 : e ∈ es.toList := by simpa using he1.1
          rw [Z.rows] at he2
          obtain ⟨p2, h2, rfl⟩ := List.mem_map.mp he2
          exact ⟨p2.2, p2.1, rfl, Z.key p2 h2⟩
        · refine wp_if_neg (by decide) ?_
          try refine wpAny_bind (wpAny_pure ?_)
          exact go
    · have pr' : t.probe (fun i => (es[i]?.map (·.1)).getD 0) (y.hash w) (stand.getD (t.probeStart (y.hash w))) = some (.empty (way t.mask (y.hash w) K) none) := by
        have e2 := onJ (K - c)
        rw [kc] at e2
        rw [here, ← e2]; exact pr
      rw [pr']
      dsimp only
      refine wpAny_pure (no fun z => ?_)
      obtain ⟨p0, h0, k0⟩ := List.mem_map.mp z
      obtain ⟨i0, hi0, e0⟩ := List.getElem_of_mem h0
      have at0 : m[i0]? = some p0 := by rw [List.getElem?_eq_getElem hi0, e0]
      obtain ⟨c', a1, a2, a3⟩ := ahead i0 p0 at0 k0
      exact before (c' - c) i0 (by omega) (by rw [onJ, show c + (c' - c) = c' by omega]; exact a3) ((stored i0 p0 at0).trans (by rw [k0]))
theorem nsearch (Z : NSet w s.heap S m es ep t) {b : Addr} {y : NKey} (hb : IsN s.heap y b) (hu : A.units + 8 < cLine) {Q : SetFound → Shared → Prop} (yes : y ∈ m.map (·.2) → Q (.there none) s)
    (no : ∀ K, y ∉ m.map (·.2) → way t.mask (y.hash w) K ∉ t.place.toList → (∀ c, c < K → way t.mask (y.hash w) c ∈ t.place.toList) → Q (.free (way t.mask (y.hash w) K) false) s) : wpAny (model P w) A (setSearch S (.ref b) (y.hash w) true) Q E s := by
  have rm := Z.room
  have len : (nhs w m).length = m.length := List.length_map ..
  obtain ⟨K, k1, k2, k3⟩ := Z.tab.first (by rw [len]; omega) (y.hash w)
  have big : 10 * SetTable.turns t.mask ≤ 1420 := by
    unfold SetTable.turns
    rcases Z.tab.mok with e | e | e <;> omega
  unfold setSearch
  refine nsearch_from Z hb hu k1 k2 k3 yes (fun z => no K z k2 k3) 100000 0 none rfl (Nat.zero_le _) (by omega) fun i p hp hk => ?_
  have hi : (nhs w m)[i]? = some (y.hash w) := by rw [nhs, List.getElem?_map, hp, ← hk]; rfl
  have il : i < t.place.toList.length := by
    have a := (List.getElem?_eq_some_iff.mp hp).1
    have z := Z.tab.sz
    rw [len] at z
    rw [Array.length_toList]; omega
  obtain ⟨c, hc, e⟩ := Z.tab.before k2 hi (List.getElem?_eq_getElem il)
  exact ⟨c, Nat.zero_le _, hc, by rw [List.getElem?_eq_getElem il, e]⟩
end
end DL
namespace DL
open PySem PySem.Spec PyProof.Rows L2
theorem nrows_ins (w : World) (m : Keyed) (n : Nat) (b : Addr) (y : NKey) : nrows w (m.take n ++ (b, y) :: m.drop n) = (nrows w m).take n ++ (y.hash w, Value.ref b) :: (nrows w m).drop n := by
  simp only [nrows, List.map_append, List.map_cons, List.map_take, List.map_drop]
theorem nhs_ins (w : World) (m : Keyed) (n : Nat) (b : Addr) (y : NKey) : nhs w (m.take n ++ (b, y) :: m.drop n) = (nhs w m).take n ++ y.hash w :: (nhs w m).drop n := by
  simp only [nhs, List.map_append, List.map_cons, List.map_take, List.map_drop]
theorem picks_all {α : Type} (l : List α) : (List.range l.length).filterMap (fun i => l[i]?) = l := by
  have key : ∀ (k : List α) (l : List α), (List.range' k.length l.length).filterMap (fun i => (k ++ l)[i]?) = l := by
    intro k l
    induction l generalizing k with
    | nil => rfl
    | cons x l ih =>
      have at_ : (k ++ x :: l)[k.length]? = some x := by rw [List.getElem?_append_right (Nat.le_refl _), Nat.sub_self]; rfl
      have z := ih (k ++ [x])
      rw [List.length_append, List.length_singleton, List.append_assoc, List.singleton_append] at z
      rw [List.length_cons, List.range'_succ, List.filterMap_cons_some at_, z]
  have z := key [] l
  rw [List.length_nil, List.nil_append] at z
  rw [List.range_eq_range']
  exact z
theorem norder (w : World) {m : Keyed} {es : Array (Int × Value)} {order : Array Nat} (r : es.toList = nrows w m) (p : order.toList.Perm (List.range m.length)) :
    ∃ m2, (order.filterMap (es[·]?)).toList = nrows w m2 ∧ m2.Perm m ∧ nhs w m2 = order.toList.map fun i => (es.map (·.1)).getD i 0 := by
  have low : ∀ i ∈ order.toList, i < m.length := fun i hi => List.mem_range.mp (p.mem_iff.mp hi)
  have key : ∀ l : List Nat, (∀ i ∈ l, i < m.length) → l.filterMap (fun i => es[i]?) = nrows w (l.filterMap fun i => m[i]?) ∧ nhs w (l.filterMap fun i => m[i]?) = l.map fun i => (es.map (·.1)).getD i 0 := by
    intro l
    induction l with
    | nil => intro _; exact ⟨rfl, rfl⟩
    | cons i l ih =>
      intro h
      obtain ⟨e1, e2⟩ := ih fun j hj => h j (List.mem_cons_of_mem _ hj)
      obtain ⟨q, hq⟩ : ∃ q, m[i]? = some q := ⟨_, List.getElem?_eq_getElem (h i List.mem_cons_self)⟩
      have e3 := nrows_at r hq
      have e4 : (es.map (·.1)).getD i 0 = q.2.hash w := by
        rw [Array.getD_eq_getD_getElem?, Array.getElem?_map, e3]; rfl
      rw [List.filterMap_cons_some e3, List.filterMap_cons_some hq, e1, List.map_cons, ← e2, e4]
      exact ⟨rfl, rfl⟩
  obtain ⟨e1, e2⟩ := key order.toList low
  refine ⟨order.toList.filterMap fun i => m[i]?, by first | (rw [Array.toList_filterMap]; exact e1) | simpa using e1, ?_, e2⟩
  have z := p.filterMap fun i => m[i]?
  rw [picks_all] at z
  exact z
section
variable {P : Program} {w : World} {A : Around} {E : Value → Shared → Prop} {s : Shared} {S : Addr} {m : Keyed} {es : Array (Int × Value)} {ep : Nat} {t : SetTable}
/-- the table laid anew -/
theorem nrelay {o : Obj} (ho : s.heap.get? S = some o) (hex : o.ExactSet) (hd : o.data = .set es ep t) (r : es.toList = nrows w m) (sz : t.place.size = es.size) (dm : t.dummies = #[]) (le : es.size ≤ t.mask) (nd : (m.map (·.2)).Nodup) (key : ∀ p ∈ m, IsN s.heap p.2 p.1)
    (led : w.params.followText "set-order" = true ∨ t.led = true) {want M : Nat} (size : SetTable.sizeAbove want - 1 = M) (ok : MaskOk M) (low : SetTable.sizeAbove want ≤ 128) (room : m.length * 5 < M * 3) {Q : Unit → Shared → Prop}
    (fin : ∀ h' m' es' ep' t', Heap.SameBut S s.heap h' → NSet w h' S m' es' ep' t' → m'.Perm m → Q () { s with heap := h' }) : wpAny (model P w) A (setRelay S want) Q E s := by
  have es_m := nrows_size r
  have fits : t.fits es.size = true := by
    unfold SetTable.fits SetTable.fill
    rw [dm, Bool.and_eq_true, beq_iff_eq, decide_eq_true_eq]
    have : (#[] : Array Nat).size = 0 := rfl
    omega
  obtain ⟨t', order, e, hp, T, em, el, _, _⟩ := relaid_ok t (hs := es.map (·.1)) (wanted := want) size ok (by rw [Array.size_map, es_m]; omega)
  rw [Array.size_map, es_m] at hp
  obtain ⟨m2, r1, r2, r3⟩ := norder w r hp
  rw [← r3] at T
  have same : (order.filterMap (es[·]?)).size = es.size := by rw [nrows_size r1, r2.length_eq, es_m]
  rw [setRelay_eq]
  refine wpAny_bind (wpAny_setState_of ho hd fits ?_)
  dsimp only
  refine wp_if_neg (by rw [sizeLine_eq]; omega) ?_
  try refine wpAny_bind (wpAny_pure ?_)
  rw [e]
  dsimp only
  refine wpAny_bind (wp_if_neg (by rw [same]; simp) ?_)
  try refine wpAny_bind (wpAny_pure ?_)
  refine wpAny_pure ?_
  dsimp only
  have sb : Heap.SameBut S s.heap (s.heap.update S (Obj.putSet (order.filterMap (es[·]?)) t')) := Heap.SameBut.update ..
  refine wpAny_storeSet_of ho hd (fin _ m2 _ (ep + 1) t' sb ⟨⟨_, store_at ho hd, ⟨hex.1, hex.2.1, hex.2.2⟩, rfl⟩, r1, T, (r2.map (·.2)).nodup_iff.mpr nd, fun p hp' => (key p (r2.mem_iff.mp hp')).beside ho hd sb, by rw [el]; exact led, by rw [r2.length_eq, em]; exact room⟩ r2) (by rw [same, es_m, sizeLine_eq]; rcases ok with z | z | z <;> omega)
/-- s.add(b), told by the hash -/
theorem nadd (Z : NSet w s.heap S m es ep t) {b : Addr} {y : NKey} (hb : IsN s.heap y b) (hu : A.units + 8 < cLine) (few : m.length + 1 ≤ 76) {Q : Bool → Shared → Prop}
    (fin : ∀ c h' m' es' ep' t', Heap.SameBut S s.heap h' → NSet w h' S m' es' ep' t' → (y ∈ m.map (·.2) → m' = m) → (y ∉ m.map (·.2) → m'.Perm ((b, y) :: m)) → Q c { s with heap := h' }) : wpAny (model P w) A (setAddHashed S (.ref b) (y.hash w)) Q E s := by
  obtain ⟨o, ho, hex, hd⟩ := Z.ob
  have es_m := Z.size
  have rm := Z.room
  have hl : (nhs w m).length = m.length := List.length_map ..
  unfold setAddHashed
  refine wpAny_holding ?_
  rw [show (100000 : Nat) = 99999 + 1 from rfl, setAddHashedIn_succ]
  refine wpAny_bind (wpAny_setState_of ho hd Z.fits ?_)
  dsimp only
  refine wp_if_neg (by simp [byScan, Value.scannable]) ?_
  try refine wpAny_bind (wpAny_pure ?_)
  refine wpAny_bind (nsearch Z hb hu (fun z => wpAny_pure (fin false s.heap m es ep t (Heap.SameBut.refl S s.heap) Z (fun _ => rfl) fun x => absurd z x)) fun K new free full => ?_)
  dsimp only
  refine wpAny_bind (wpAny_setState_of ho hd Z.fits ?_)
  dsimp only
  obtain ⟨q1, q2, q3, q4, q5, q6, q7, q8, q9⟩ := Z.tab.put free full
  generalize hpt : t.put (way t.mask (y.hash w) K) = pt at q1 q3 q4 q5 q6 q7 q8 q9 ⊢
  obtain ⟨t1, n⟩ := pt
  dsimp only at q1 q3 q4 q5 q6 q7 q8 q9 ⊢
  subst q1
  have rows1 : (SetTable.insertAt es (SetTable.below t.place (way t.mask (y.hash w) K)) (y.hash w, Value.ref b)).toList = nrows w (m.take (SetTable.below t.place (way t.mask (y.hash w) K)) ++ (b, y) :: m.drop (SetTable.below t.place (way t.mask (y.hash w) K))) := by
    rw [SetTable.toList_insertAt, nrows_ins, Z.rows]
  generalize SetTable.below t.place (way t.mask (y.hash w) K) = n at q2 q3 rows1 ⊢
  have pm := put_perm m n (b, y)
  rw [← nhs_ins w m n b y] at q3
  have nd1 : ((m.take n ++ (b, y) :: m.drop n).map (·.2)).Nodup := (pm.map (·.2)).nodup_iff.mpr (by rw [List.map_cons]; exact List.nodup_cons.mpr ⟨new, Z.nd⟩)
  generalize m.take n ++ (b, y) :: m.drop n = m1 at pm q3 nd1 rows1
  have len1 : m1.length = m.length + 1 := pm.length_eq
  have size1 := nrows_size rows1
  -- whatever the hash goes by
  have go : ∀ t2 : SetTable, t2.mask = t1.mask → t2.place = t1.place → t2.dummies = t1.dummies → t2.led = t1.led → t2.tooFull = t1.tooFull → wpAny (model P w) A (do
      storeSet S (SetTable.insertAt es n (y.hash w, .ref b)) t2
      if !false && t2.tooFull then setRelay S (SetTable.grown (es.size + 1))
      return true) Q E s := by
    intro t2 c1 c2 c3 c4 c5
    have T2 : L2.TabOk t2 (nhs w m1) := by
      obtain ⟨x1, x2, x3, x4, x5, x6⟩ := q3
      have sl : ∀ h c, way t2.mask h c = way t1.mask h c := fun h c => by rw [c1]
      constructor
      · rw [c2]; exact x1
      · rw [c3]; exact x2
      · rw [c2]; exact x3
      · rw [c1]; exact x4
      · rw [c2, c1]; exact x5
      · rw [c2, c1]; exact x6
    generalize SetTable.insertAt es n (y.hash w, Value.ref b) = es1 at rows1 size1 ⊢
    refine wpAny_bind (wpAny_storeSet_of ho hd ?_ (by rw [size1, len1, sizeLine_eq]; omega))
    have sb : Heap.SameBut S s.heap (s.heap.update S (Obj.putSet es1 t2)) := Heap.SameBut.update ..
    have at1 := store_at (es' := es1) (t' := t2) ho hd
    generalize s.heap.update S (Obj.putSet es1 t2) = h1 at sb at1 ⊢
    have key1 : ∀ p ∈ m1, IsN h1 p.2 p.1 := fun p hp => by
      rcases List.mem_cons.mp (pm.mem_iff.mp hp) with rfl | hp
      · exact hb.beside ho hd sb
      · exact (Z.key p hp).beside ho hd sb
    have led1 : w.params.followText "set-order" = true ∨ t2.led = true := by rw [c4, q5]; exact Z.led
    by_cases full2 : t2.tooFull = true
    · first
        | (refine wpAny_bind ?_; refine wp_if_pos (by simp [full2]) ?_)
        | (refine wp_if_pos (by simp [full2]) ?_; refine wpAny_bind ?_)
      have f2 : (m.length + 1) * 5 ≥ t1.mask * 3 := by
        rw [c5] at full2
        unfold SetTable.tooFull at full2
        rw [decide_eq_true_eq, q9, hl] at full2
        exact full2
      rw [es_m]
      have sz1 : t2.place.size = es1.size := by
        have z := T2.sz
        rw [nhs, List.length_map] at z
        rw [z, size1]
      have two : (t.mask = 7 ∧ m.length = 4) ∨ (t.mask = 31 ∧ m.length = 18) := by
        rw [q4] at f2
        rcases Z.tab.mok with e | e | e
        · rw [e] at f2 rm; exact .inl ⟨e, by omega⟩
        · rw [e] at f2 rm; exact .inr ⟨e, by omega⟩
        · rw [e] at f2; omega
      have step : ∀ M, SetTable.sizeAbove (SetTable.grown (m.length + 1)) - 1 = M → MaskOk M → SetTable.sizeAbove (SetTable.grown (m.length + 1)) ≤ 128 → (m.length + 1) * 5 < M * 3 →
          wpAny (model P w) A (setRelay S (SetTable.grown (m.length + 1))) (fun _ s' => wpAny (model P w) A (pure true) Q E s') E { s with heap := h1 } := fun M y1 y2 y3 y4 =>
        nrelay (s := { s with heap := h1 }) at1 ⟨hex.1, hex.2.1, hex.2.2⟩ rfl rows1 sz1 T2.dm (by rw [size1, len1, c1, q4]; rcases two with ⟨e, e2⟩ | ⟨e, e2⟩ <;> omega) nd1 key1 led1 y1 y2 y3 (by rw [len1]; exact y4) fun h2 m2 es2 ep2 t3 sb2 Z2 pm2 =>
          wpAny_pure (fin true h2 m2 es2 ep2 t3 (sb.trans sb2) Z2 (fun z => absurd z new) fun _ => pm2.trans pm)
      rcases two with ⟨_, e2⟩ | ⟨_, e2⟩
      · exact step 31 (by rw [e2, size_20]) (.inr (.inl rfl)) (by rw [e2, size_20]; decide) (by omega)
      · exact step 127 (by rw [e2, size_76]) (.inr (.inr rfl)) (by rw [e2, size_76]; decide) (by omega)
    · first
        | refine wp_if_neg (by simp [full2]) ?_
        | (refine wpAny_bind ?_; refine wp_if_neg (by simp [full2]) ?_; refine wpAny_pure ?_)
      refine wpAny_pure (fin true h1 m1 es1 (ep + 1) t2 sb ⟨⟨_, at1, ⟨hex.1, hex.2.1, hex.2.2⟩, rfl⟩, rows1, T2, nd1, key1, led1, ?_⟩ (fun z => absurd z new) fun _ => pm)
      rw [c5] at full2
      unfold SetTable.tooFull at full2
      rw [decide_eq_true_eq, q9, hl] at full2
      rw [len1, c1]; omega
  by_cases pl : t1.plain = true
  · first
      | (refine wpAny_bind ?_; refine wp_if_pos pl ?_)
      | refine wp_if_pos pl (wpAny_bind ?_)
    refine hashBy_key 8 hb.1 fun c => ?_
    cases c with
    | true => simpa using go t1 rfl rfl rfl rfl rfl
    | false => simpa using go { t1 with plain := false } rfl rfl rfl rfl rfl
  · first
      | (refine wpAny_bind ?_; refine wp_if_neg pl ?_; refine wpAny_pure ?_)
      | refine wp_if_neg pl ?_
    simpa using go t1 rfl rfl rfl rfl rfl
end
end DL
namespace DL
open PySem PySem.Spec PyProof.Rows L2
def fstep (acc : Keyed) (p : Addr × NKey) : Keyed := if p.2 ∈ acc.map (·.2) then acc else p :: acc
/-- the first one of each key, the last one first -/
def firstsK (ks : Keyed) : Keyed := ks.foldl fstep []
theorem fstep_len (acc : Keyed) (p : Addr × NKey) : (fstep acc p).length ≤ acc.length + 1 := by
  unfold fstep
  split
  · exact Nat.le_succ _
  · exact Nat.le_refl _
theorem firsts_len (ks : Keyed) : (firstsK ks).length ≤ ks.length := by
  have key : ∀ (ks acc : Keyed), (ks.foldl fstep acc).length ≤ acc.length + ks.length := by
    intro ks
    induction ks with
    | nil => intro acc; exact Nat.le_refl _
    | cons p r ih =>
      intro acc
      have a := ih (fstep acc p)
      have b := fstep_len acc p
      rw [List.foldl_cons, List.length_cons]
      omega
  have := key ks []
  rw [List.length_nil, Nat.zero_add] at this
  exact this
theorem firsts_next {ks : Keyed} {i : Nat} {p : Addr × NKey} (h : ks[i]? = some p) : firstsK (ks.take (i + 1)) = fstep (firstsK (ks.take i)) p := by
  unfold firstsK
  rw [take_next h, List.foldl_append]; rfl
theorem nfresh {w : World} {h : Heap} {S : Addr} (ho : h.get? S = some (set0 w)) : NSet w h S [] #[] 0 (.fresh 0 0 (!w.params.followText "set-order")) where
  ob := ⟨_, ho, ⟨rfl, rfl, rfl⟩, rfl⟩
  rows := rfl
  tab := ⟨.nil, rfl, rfl, .inl rfl, fun x hx => (nomatch hx), fun i h j hi => (by simp [nhs] at hi)⟩
  nd := List.nodup_nil
  key := fun p hp => nomatch hp
  led := by
    cases w.params.followText "set-order" with
    | true => exact .inl rfl
    | false => exact .inr rfl
  room := by
    show 0 * 5 < 7 * 3
    decide
theorem NSet.up {w : World} {h g : Heap} {S : Addr} {m : Keyed} {es : Array (Int × Value)} {ep : Nat} {t : SetTable} (Z : NSet w h S m es ep t) (up : ∀ o, h.get? S = some o → g.get? S = some o) (key : ∀ p ∈ m, IsN g p.2 p.1) : NSet w g S m es ep t := by
  obtain ⟨o, ho, r⟩ := Z.ob
  exact ⟨⟨o, up o ho, r⟩, Z.rows, Z.tab, Z.nd, key, Z.led, Z.room⟩
theorem firsts_sub {ks : Keyed} {p : Addr × NKey} (h : p ∈ firstsK ks) : p ∈ ks := by
  have key : ∀ (ks acc : Keyed), (∀ q ∈ ks.foldl fstep acc, q ∈ acc ∨ q ∈ ks) := by
    intro ks
    induction ks with
    | nil => intro acc q hq; exact .inl hq
    | cons x r ih =>
      intro acc q hq
      rw [List.foldl_cons] at hq
      rcases ih _ q hq with z | z
      · unfold fstep at z
        split at z
        · exact .inl z
        · rcases List.mem_cons.mp z with z | z
          · exact .inr (z ▸ List.mem_cons_self)
          · exact .inl z
      · exact .inr (List.mem_cons_of_mem _ z)
  exact (key ks [] p h).resolve_left fun z => nomatch z
section
variable {P : Program} {w : World} {A : Around} {s : Shared} {E : Value → Shared → Prop}
theorem nset_loop {I : Addr} {fp wr : List Addr} {G : Array GenState → Array GenState → Prop} {n : Nat} {Pv : Nat → Value → Prop} {St : Nat → Shared → Prop} {R : Result → Shared → Prop} (W : WalksS P w A.in1 I fp wr G n Pv St) (S : Addr) (off : S ∉ fp) (ks : Keyed) (hn : n = ks.length) (few : ks.length ≤ 76)
    (item : ∀ i v, Pv i v → ∃ p, ks[i]? = some p ∧ v = .ref p.1) (h0 : Heap) (key : ∀ p ∈ ks, IsN h0 p.2 p.1) (S0 : h0.get? S = none) (w0 : ∀ b ∈ wr, h0.get? b = none) (hu : A.in1.units + 8 < cLine) :
    ∀ (k i : Nat) (s : Shared), n - i = k → i ≤ n → St i s → (∀ b o, h0.get? b = some o → s.heap.get? b = some o) → (∃ m es ep t, NSet w s.heap S m es ep t ∧ m.Perm (firstsK (ks.take i))) →
      (∀ s' m es ep t, Moved (S :: wr) G s s' → NSet w s'.heap S m es ep t → m.Perm (firstsK ks) → (∀ b o, h0.get? b = some o → s'.heap.get? b = some o) → R (.ok (.ret .none)) s') →
      codeAny (model P w) A (.builtin "set.update.loop" ⟨[.ref S, .ref I], []⟩) R s := by
  have offw : S ∉ wr := fun h => off (W.sub _ h)
  have more : ∀ b ∈ wr, b ∈ S :: wr := fun b hb => List.mem_cons_of_mem _ hb
  have goes : ∀ {s s' : Shared}, Moved wr G s s' → (∀ b o, h0.get? b = some o → s.heap.get? b = some o) → ∀ b o, h0.get? b = some o → s'.heap.get? b = some o := fun mv q b o e =>
    mv.heap b o (fun z => by rw [w0 b z] at e; cases e) (q b o e)
  have inKs : ∀ {m : Keyed} {i : Nat}, m.Perm (firstsK (ks.take i)) → ∀ p ∈ m, p ∈ ks := fun pm p hp => List.mem_of_mem_take (firsts_sub (pm.mem_iff.mp hp))
  intro k
  induction k with
  | zero =>
    intro i s e hi st q ⟨m, es, ep, t, Z, pm⟩ fin
    obtain rfl : i = n := by omega
    refine codeAny_builtin F.entry_set_update_loop ?_
    rw [Around.under_plainId F.plain_set_update_loop _]
    refine wpAny_bind (m := pyNext (.ref I)) (W.done s _ _ st fun s' mv => ?_)
    have q' := goes mv q
    refine wpAny_pure (fin s' m es ep t (mv.mono more) (Z.up (fun o h => mv.heap S o offw h) fun p hp => (key p (inKs pm p hp)).keep q') ?_ q')
    rw [hn, List.take_length] at pm
    exact pm
  | succ k ih =>
    intro i s e hi st q ⟨m, es, ep, t, Z, pm⟩ fin
    have lt : i < n := by omega
    refine codeAny_builtin F.entry_set_update_loop ?_
    rw [Around.under_plainId F.plain_set_update_loop _]
    refine wpAny_bind (m := pyNext (.ref I)) (W.item i s _ _ lt st fun v s' hv st' mv => ?_)
    obtain ⟨p, hp, rfl⟩ := item i v hv
    have q' := goes mv q
    have Z' : NSet w s'.heap S m es ep t := Z.up (fun o h => mv.heap S o offw h) fun p hp => (key p (inKs pm p hp)).keep q'
    have hx : IsN s'.heap p.2 p.1 := (key p (List.mem_of_getElem? hp)).keep q'
    have ml : m.length ≤ i := by
      have a := pm.length_eq
      have b := firsts_len (ks.take i)
      have c := List.length_take_le i ks
      omega
    show wpAny _ A.in1 (holding [Value.ref p.1] (setAdd S (.ref p.1)) >>= _) _ _ s'
    refine wpAny_bind (wpAny_holding ?_)
    unfold setAdd
    refine wpAny_holding (wpAny_bind ((nestedKind P w).pyHash (k := p.2) hu hx ?_))
    refine nadd (s := { s' with toks := s'.toks + p.2.draws }) Z' hx hu (by omega) fun b h' m' es' ep' t' sb Z2 c1 c2 => ?_
    have pm' : m'.Perm (firstsK (ks.take (i + 1))) := by
      rw [firsts_next hp]
      unfold fstep
      have mm : p.2 ∈ m.map (·.2) ↔ p.2 ∈ (firstsK (ks.take i)).map (·.2) := (pm.map (·.2)).mem_iff
      by_cases c : p.2 ∈ m.map (·.2)
      · rw [if_pos (mm.mp c), c1 c]; exact pm
      · rw [if_neg fun z => c (mm.mpr z)]
        exact (c2 c).trans (pm.cons p)
    have q2 : ∀ b o, h0.get? b = some o → h'.get? b = some o := fun b o h => (sb.2 b fun z => by rw [z, S0] at h; cases h).trans (q' b o h)
    refine wpAny_pure ⟨plainId_quiet F.plain_set_update_loop _, ih (i + 1) _ (by omega) lt (W.frame _ s' _ _ st' (Nat.le_add_right _ _) fun y hy o h => ?_) q2 ⟨m', es', ep', t', Z2, pm'⟩ fun s2 m3 es3 ep3 t3 mv2 Z3 pm3 q3 => fin s2 m3 es3 ep3 t3 ?_ Z3 pm3 q3⟩
    · rw [sb.2 y fun z : y = S => off (z ▸ hy)]; exact h
    · refine Moved.trans W.gtrans ((mv.mono more).then_heap (Nat.le_add_right _ _) fun y o hy h => ?_) mv2
      rw [sb.2 y fun z : y = S => hy (z ▸ List.mem_cons_self)]; exact h
/-- what set(xs) leaves -/
def FilledN (w : World) (s : Shared) (ks : Keyed) (s2 : Shared) : Prop :=
  ∃ h2 tk m es ep t, s2 = { s with heap := h2, toks := tk } ∧ NSet w h2 s.heap.objs.size m es ep t ∧ m.Perm (firstsK ks) ∧ ∀ b o, s.heap.get? b = some o → h2.get? b = some o
variable {T : Addr} {vs : Array Value} {ks : Keyed}
theorem nitem (e : vs.toList = ks.map fun p => Value.ref p.1) (i : Nat) (v : Value) (q : vs[i]? = some v) : ∃ p, ks[i]? = some p ∧ v = .ref p.1 := by
  rw [← Array.getElem?_toList, e, List.getElem?_map, Option.map_eq_some_iff] at q
  obtain ⟨p, a, b⟩ := q
  exact ⟨p, a, b.symm⟩
/-- the loop over an iterator `ob` of T -/
theorem nfill (bare : A.handled = none) (tlt : T < s.heap.objs.size) (e : vs.toList = ks.map fun p => Value.ref p.1) (rows : ∀ p ∈ ks, IsN s.heap p.2 p.1) (few : ks.length ≤ 76) (room : A.in1.in1.in1.units + 8 < cLine) {ob : Obj} {St : Nat → Shared → Prop}
    (W : WalksS P w A.in1.in1.in1 (withSet w s).heap.objs.size [(withSet w s).heap.objs.size, T] [(withSet w s).heap.objs.size] (fun g g' => g' = g) vs.size (fun i v => vs[i]? = some v) St)
    (st0 : St 0 { s with heap := (withSet w s).heap.push ob }) {R : Result → Shared → Prop} (fin : ∀ s2, FilledN w s ks s2 → R (.ok (.ret .none)) s2) :
    codeAny (model P w) A.in1.in1 (.builtin "set.update.loop" ⟨[.ref s.heap.objs.size, .ref (withSet w s).heap.objs.size], []⟩) R { s with heap := (withSet w s).heap.push ob } := by
  have sz : (withSet w s).heap.objs.size = s.heap.objs.size + 1 := Heap.size_push ..
  have lenE : vs.size = ks.length := by
    have z := congrArg List.length e
    rwa [Array.length_toList, List.length_map] at z
  have up : ∀ b o, s.heap.get? b = some o → ((withSet w s).heap.push ob).get? b = some o := fun b o q => Heap.get?_push_of_some _ (Heap.get?_push_of_some _ q)
  have notIn : s.heap.objs.size ∉ [(withSet w s).heap.objs.size, T] := by
    rw [sz]
    intro z
    rcases List.mem_cons.mp z with y | y
    · exact absurd y (Nat.ne_of_lt (Nat.lt_succ_self _))
    · exact absurd (List.mem_singleton.mp y) (Nat.ne_of_gt tlt)
  have there : ((withSet w s).heap.push ob).get? s.heap.objs.size = some (set0 w) := Heap.get?_push_of_some _ (Heap.get?_push_size _ rfl)
  refine nset_loop (A := A.in1.in1) W s.heap.objs.size notIn ks lenE few (nitem e) s.heap rows (none_above (Nat.le_refl _)) (fun b hb => none_above (by rw [List.mem_singleton.mp hb, sz]; omega)) room vs.size 0 _ (Nat.sub_zero _) (Nat.zero_le _) st0 up ⟨[], #[], 0, _, nfresh there, .refl _⟩ ?_
  rintro ⟨h2, g2, d2, tk, os2⟩ m es ep t mv Z pm kp
  obtain rfl : g2 = s.gens := mv.gens
  obtain rfl : d2 = s.drawn := mv.drawn
  obtain rfl : os2 = s.os := mv.os
  exact fin _ ⟨h2, tk, m, es, ep, t, rfl, Z, pm, kp⟩
abbrev FinN (P : Program) (w : World) (A : Around) (E : Value → Shared → Prop) (s : Shared) (ks : Keyed) : PySem.Fin → Shared → Prop := fun fin s2 => match fin with
  | .done f => wants (fun r s3 => r = .none ∧ FilledN w s ks s3) E (.ok f) s2
  | .again c => c.quiet = true ∧ codeAny (model P w) A.in1 c (wants (fun r s3 => r = .none ∧ FilledN w s ks s3) E) s2
theorem ninitT (bare : A.handled = none) (tup : s.heap.IsTuple T vs) (e : vs.toList = ks.map fun p => Value.ref p.1) (rows : ∀ p ∈ ks, IsN s.heap p.2 p.1) (few : ks.length ≤ 76) (room : A.in1.in1.in1.units + 8 < cLine) :
    wpAny (model P w) A.in1.in1 (Builtin.«set.__init__» ⟨[.ref s.heap.objs.size, .ref T], []⟩) (FinN P w A E s ks) (fun x s2 => wants (fun r s3 => r = .none ∧ FilledN w s ks s3) E (.error x) s2) (withSet w s) := by
  have tlt : T < s.heap.objs.size := by obtain ⟨o, q, _⟩ := tup; exact Heap.lt_size q
  have sz : (withSet w s).heap.objs.size = s.heap.objs.size + 1 := Heap.size_push ..
  have tup1 : (withSet w s).heap.IsTuple T vs := tup.push (set0 w)
  obtain ⟨⟨oc, od, oda, osl⟩, q, rfl, n, rfl⟩ := tup1
  have a1 := F.sub_tuple_set
  have a2 := F.sub_tuple_frozenset
  have a3 : (Value.type "tuple" == Value.type "dict") = false := by decide
  have tup2 : (withSet w s).heap.IsTuple T vs := ⟨_, q, rfl, n, rfl⟩
  unfold Builtin.«set.__init__» noKeywords Builtin.Frozenset.updateFrom
  generalize hIt : pyIter = It
  wp_walk
  subst hIt
  refine wpAny_pyIter_tuple tup2 (wpAny_bind (wpAny_runValue (nfill bare tlt e rows few room (Walks.tuple (prog := P) (w := w) (A := A.in1.in1.in1) (by simpa using bare) (withSet w s).heap.objs.size T (fun z => by rw [z, sz] at tlt; exact absurd (Nat.lt_trans (Nat.lt_succ_self _) tlt) (Nat.lt_irrefl _)) vs).toS ⟨⟨_, Heap.get?_push_size _ rfl, rfl, rfl⟩, tup2.push _⟩ fun s2 f => ?_)))
  refine wpAny_pure ?_
  exact wpAny_pure ⟨rfl, f⟩
theorem ninitL (bare : A.handled = none) (lst : s.heap.IsList T vs) (e : vs.toList = ks.map fun p => Value.ref p.1) (rows : ∀ p ∈ ks, IsN s.heap p.2 p.1) (few : ks.length ≤ 76) (room : A.in1.in1.in1.units + 8 < cLine) :
    wpAny (model P w) A.in1.in1 (Builtin.«set.__init__» ⟨[.ref s.heap.objs.size, .ref T], []⟩) (FinN P w A E s ks) (fun x s2 => wants (fun r s3 => r = .none ∧ FilledN w s ks s3) E (.error x) s2) (withSet w s) := by
  have tlt : T < s.heap.objs.size := by obtain ⟨o, q, _⟩ := lst; exact Heap.lt_size q
  have sz : (withSet w s).heap.objs.size = s.heap.objs.size + 1 := Heap.size_push ..
  have lst1 : (withSet w s).heap.IsList T vs := lst.push (set0 w)
  obtain ⟨⟨oc, od, oda, osl⟩, q, rfl, n, rfl⟩ := lst1
  have a1 := F.sub_list_set
  have a2 := F.sub_list_frozenset
  have a3 : (Value.type "list" == Value.type "dict") = false := by decide
  have lst2 : (withSet w s).heap.IsList T vs := ⟨_, q, rfl, n, rfl⟩
  unfold Builtin.«set.__init__» noKeywords Builtin.Frozenset.updateFrom
  generalize hIt : pyIter = It
  wp_walk
  subst hIt
  refine wpAny_pyIter_list lst2 (wpAny_bind (wpAny_runValue (nfill bare tlt e rows few room (Walks.list (prog := P) (w := w) (A := A.in1.in1.in1) (by simpa using bare) (withSet w s).heap.objs.size T (fun z => by rw [z, sz] at tlt; exact absurd (Nat.lt_trans (Nat.lt_succ_self _) tlt) (Nat.lt_irrefl _)) vs).toS ⟨⟨_, Heap.get?_push_size _ rfl, rfl, rfl⟩, lst2.push _⟩ fun s2 f => ?_)))
  refine wpAny_pure ?_
  exact wpAny_pure ⟨rfl, f⟩
theorem call_setN (bare : A.handled = none) (seq : s.heap.IsList T vs ∨ s.heap.IsTuple T vs) (e : vs.toList = ks.map fun p => Value.ref p.1) (rows : ∀ p ∈ ks, IsN s.heap p.2 p.1) (few : ks.length ≤ 76) (room : A.units + 11 < cLine) {Q : Value → Shared → Prop}
    (fin : ∀ s2, FilledN w s ks s2 → Q (.ref s.heap.objs.size) s2) : wpAny (model P w) A (call (.type "set") [.ref T]) Q E s := by
  obtain ⟨c, tl, b1⟩ := F.called_set.mro
  have b2 := F.called_set.made
  have b3 := F.called_set.sub
  have b4 := F.called_set.notType
  have b5 := F.called_set.canCreate
  have b6 := F.typeCall_set_1 (.ref T)
  have rm : A.in1.in1.in1.units + 8 < cLine := by
    have : A.in1.in1.in1.units ≤ A.units + 3 := by first | exact Nat.le_refl _ | (simp [Around.in1_units])
    omega
  have ini : wpAny (model P w) A.in1.in1 (Builtin.«set.__init__» ⟨[.ref s.heap.objs.size, .ref T], []⟩) (FinN P w A E s ks) (fun x s2 => wants (fun r s3 => r = .none ∧ FilledN w s ks s3) E (.error x) s2) (withSet w s) :=
    seq.elim (fun z => ninitL bare z e rows few rm) fun z => ninitT bare z e rows few rm
  refine wpAny_call (codeAny_of_tree (show wpAny _ _ (callAny (.type "set") _) _ _ _ from wpAny_pure ⟨Code.quiet_builtin _ (by decide +kernel), codeAny_builtin F.entry_type_call ?_⟩))
  rw [Around.under_plain (weight_type_call_type "set" [.ref T] []) rfl]
  repeat (any_goals (first | assumption | wp_step))
  refine codeAny_mono (code_set_led1 (.ref T) (E := E) (Q₁ := fun v s1 => v = .ref s.heap.objs.size ∧ s1 = withSet w s) ⟨rfl, rfl⟩) fun r s1 hr => ?_
  match r, hr with
  | .error _, hr => exact hr
  | .ok (.ret v), hr =>
    obtain ⟨rfl, rfl⟩ := hr
    have isSet : (withSet w s).TypeIs (.ref s.heap.objs.size) "set" := ⟨_, Heap.get?_push_size _ rfl, rfl⟩
    have c1 := F.called_set.init.lookup
    have c2 := F.called_set.init.bind (.ref s.heap.objs.size)
    repeat (any_goals (first | assumption | wp_step))
    refine codeAny_mono (codeAny_call_builtin (R := wants (fun r s3 => r = .none ∧ FilledN w s ks s3) E) F.called_set.init.plain F.entry_set_init (check_set_init_1 isSet ini)) fun r2 s2 hr2 => ?_
    match r2, hr2 with
    | .error _, hr2 => exact hr2
    | .ok (.ret _), hr2 =>
      obtain ⟨rfl, f⟩ := hr2
      repeat (any_goals (first | assumption | wp_step))
      exact fin _ f
end
end DL
namespace DL
open PySem PySem.Spec PyProof.Rows L2
structure NSet0 (w : World) (h : Heap) (S : Addr) (m : Keyed) : Prop where
  ex : ∃ (es : Array (Int × Value)) (ep : Nat) (t : SetTable), (∃ o, h.get? S = some o ∧ o.ExactSet ∧ o.data = .set es ep t) ∧ es.toList = nrows w m ∧ L2.TabOk t (nhs w m) ∧ (w.params.followText "set-order" = true ∨ t.led = true) ∧ t.fits es.size = true
def NSetO (w : World) (S : Addr) (m : Keyed) : HO := .ext fun h => NSet0 w h S m
theorem nsetO_new {P : Program} {w : World} {H : Hp} {h : Heap} {S : Addr} {m : Keyed} {es : Array (Int × Value)} {ep : Nat} {t : SetTable} (Z : NSet w h S m es ep t) (f : t.fits es.size = true) : ObjOk P w H h S (NSetO w S m) := by
  have Z0 : NSet0 w h S m := ⟨es, ep, t, Z.ob, Z.rows, Z.tab, Z.led, f⟩
  obtain ⟨o, ho, r⟩ := Z.ob
  exact ⟨Z0, ⟨o, ho⟩, fun g g' (z : NSet0 w g S m) up => by
    obtain ⟨es', ep', t', ⟨o', ho', r'⟩, q⟩ := z.ex
    exact ⟨es', ep', t', ⟨o', up o' ho', r'⟩, q⟩⟩
/-- the keys are the data -/
inductive KD (K : PySem.W.Frag) (G : Hp) : Keyed → List D → Prop
  | nil : KD K G [] []
  | cons {p : Addr × NKey} {d : D} {m : Keyed} {ds : List D} : keyNK d = some p.2 → DD K G (.ref p.1) d → KD K G m ds → KD K G (p :: m) (d :: ds)
section
variable {K : PySem.W.Frag} {G G' : Hp}
theorem KD.dds : ∀ {m : Keyed} {ds : List D}, KD K G m ds → DDs K G (m.map fun p => V.ref p.1) ds
  | _, _, .nil => .nil
  | _, _, .cons _ d r => .cons d r.dds
theorem KD.mem : ∀ {m : Keyed} {ds : List D}, KD K G m ds → ∀ p ∈ m, ∃ d, keyNK d = some p.2 ∧ DD K G (.ref p.1) d
  | _, _, .cons k d r, p, hp => by
    rcases List.mem_cons.mp hp with rfl | hp
    · exact ⟨_, k, d⟩
    · exact r.mem p hp
theorem KD.len : ∀ {m : Keyed} {ds : List D}, KD K G m ds → m.length = ds.length
  | _, _, .nil => rfl
  | _, _, .cons _ _ r => congrArg Nat.succ r.len
theorem KD.perm {m m2 : Keyed} (p : m2.Perm m) : ∀ {ds : List D}, KD K G m ds → ∃ ds2, ds2.Perm ds ∧ KD K G m2 ds2 := by
  induction p with
  | nil => intro ds h; exact ⟨ds, .refl _, h⟩
  | cons x _ ih =>
    intro ds h
    cases h with
    | cons k d r =>
      obtain ⟨ds2, p2, r2⟩ := ih r
      exact ⟨_, p2.cons _, .cons k d r2⟩
  | swap x y l =>
    intro ds h
    cases h with
    | cons k d r =>
      cases r with
      | cons k2 d2 r => exact ⟨_, .swap _ _ _, .cons k2 d2 (.cons k d r)⟩
  | trans _ _ ih1 ih2 =>
    intro ds h
    obtain ⟨ds2, p2, r2⟩ := ih2 h
    obtain ⟨ds3, p3, r3⟩ := ih1 r2
    exact ⟨ds3, p3.trans p2, r3⟩
def dstep (acc : List D) (d : D) : List D := if keyNK d ∈ acc.map keyNK then acc else d :: acc
/-- the first one of each key, the last one first -/
def firstsD (ds : List D) : List D := ds.foldl dstep []
theorem KD.keys : ∀ {m : Keyed} {ds : List D}, KD K G m ds → ds.map keyNK = m.map fun p => some p.2
  | _, _, .nil => rfl
  | _, _, .cons k _ r => by rw [List.map_cons, List.map_cons, k, r.keys]
theorem KD.step {m : Keyed} {ds : List D} {p : Addr × NKey} {d : D} (h : KD K G m ds) (k : keyNK d = some p.2) (dd : DD K G (.ref p.1) d) : KD K G (fstep m p) (dstep ds d) := by
  unfold fstep dstep
  have e : keyNK d ∈ ds.map keyNK ↔ p.2 ∈ m.map (·.2) := by
    rw [h.keys, k, List.mem_map, List.mem_map]
    exact ⟨fun ⟨x, hx, e⟩ => ⟨x, hx, Option.some.inj e⟩, fun ⟨x, hx, e⟩ => ⟨x, hx, congrArg some e⟩⟩
  by_cases c : p.2 ∈ m.map (·.2)
  · rw [if_pos c, if_pos (e.mpr c)]; exact h
  · rw [if_neg c, if_neg fun z => c (e.mp z)]; exact .cons k dd h
theorem KD.firsts {ks : Keyed} {ds : List D} (h : KD K G ks ds) : KD K G (firstsK ks) (firstsD ds) := by
  have key : ∀ {ks : Keyed} {ds : List D}, KD K G ks ds → ∀ {m : Keyed} {es : List D}, KD K G m es → KD K G (ks.foldl fstep m) (ds.foldl dstep es) := by
    intro ks ds h
    induction h with
    | nil => intro m es z; exact z
    | cons k d _ ih => intro m es z; exact ih (z.step k d)
  exact key h .nil
/-- data that is keyed -/
theorem KD.of : ∀ {vs : List V} {ds : List D}, DDs K G vs ds → (ds.all fun d => (keyNK d).isSome) = true → ∃ ks : Keyed, vs = ks.map (fun p => V.ref p.1) ∧ KD K G ks ds
  | _, _, .nil, _ => ⟨[], rfl, .nil⟩
  | _, _, .cons (d := d) a r, h => by
    rw [List.all_cons, Bool.and_eq_true] at h
    obtain ⟨ks, e, q⟩ := KD.of r h.2
    obtain ⟨n, hn⟩ := Option.isSome_iff_exists.mp h.1
    obtain ⟨_, _, ds, rfl⟩ := keyNK_ok hn
    cases a with
    | tup g z b => exact ⟨(_, n) :: ks, by rw [e]; rfl, .cons hn (.tup g z b) q⟩
theorem KD.up (s : Same G G') : ∀ {m : Keyed} {ds : List D}, KD K G m ds → KD K G' m ds
  | _, _, .nil => .nil
  | _, _, .cons k d r => .cons k (d.up s) (r.up s)
end
theorem nrefs : ∀ {m : Keyed} {us : List Value}, Vals (m.map fun p => V.ref p.1) us → us = m.map fun p => Value.ref p.1
  | [], _, .nil => rfl
  | p :: m, _, .cons r t => by
    cases r
    rw [nrefs t]; rfl
theorem nvals : ∀ m : Keyed, Vals (m.map fun p => V.ref p.1) (m.map fun p => Value.ref p.1)
  | [] => .nil
  | p :: m => .cons rfl (nvals m)
theorem perm_of_map {α β : Type} {f : α → β} {vs ws : List β} (p : vs.Perm ws) : ∀ L : List α, ws = L.map f → ∃ L1 : List α, L1.Perm L ∧ vs = L1.map f := by
  induction p with
  | nil => intro L e; cases L with
    | nil => exact ⟨[], .refl _, rfl⟩
    | cons _ _ => cases e
  | cons x _ ih =>
    intro L e
    cases L with
    | nil => cases e
    | cons a L =>
      rw [List.map_cons] at e
      obtain ⟨e1, e2⟩ := List.cons.inj e
      obtain ⟨L1, q, e3⟩ := ih L e2
      exact ⟨a :: L1, q.cons a, by rw [List.map_cons, ← e1, e3]⟩
  | swap x y l =>
    intro L e
    match L, e with
    | a :: b :: L, e =>
      rw [List.map_cons, List.map_cons] at e
      obtain ⟨e1, e2⟩ := List.cons.inj e
      obtain ⟨e3, e4⟩ := List.cons.inj e2
      exact ⟨b :: a :: L, .swap _ _ _, by rw [List.map_cons, List.map_cons, e1, e3, e4]⟩
  | trans _ _ ih1 ih2 =>
    intro L e
    obtain ⟨L1, q1, e1⟩ := ih2 L e
    obtain ⟨L2, q2, e2⟩ := ih1 L1 e1
    exact ⟨L2, q2.trans q1, e2⟩
theorem okSort_perm {a b : List D} (p : a.Perm b) (h : okSort b = true) : okSort a = true := by
  unfold okSort at *
  simp only [Bool.and_eq_true, Bool.or_eq_true, List.all_eq_true] at *
  obtain ⟨⟨⟨h1, h2⟩, h3⟩, h4⟩ := h
  exact ⟨⟨⟨fun d hd => h1 d (p.mem_iff.mp hd), fun x hx y hy => h2 x (p.mem_iff.mp hx) y (p.mem_iff.mp hy)⟩, h3.imp (fun q d hd => q d (p.mem_iff.mp hd)) fun q d hd => q d (p.mem_iff.mp hd)⟩, fun d hd => h4 d (p.mem_iff.mp hd)⟩
section
variable {X : Cx}
def rSetN (X : Cx) : List V → Hp → VK → Prop := fun xs H Q => ∃ (G : Hp) (l : Addr) (ks : Keyed) (ds : List D), xs = [V.ref l] ∧ Same G H ∧ (SqL X.K H l (ks.map fun p => V.ref p.1) ∨ SqT X.K H l (ks.map fun p => V.ref p.1)) ∧ KD X.K G ks ds ∧ ks.length ≤ 76 ∧
  ∀ S m, H S = none → m.Perm (firstsK ks) → Q (.ref S) (upd H S (NSetO X.w S m))
theorem cr_setN (calm : X.calm = true) (room : X.A.units + 64 < cLine) : CallR X (.type "set") (rSetN X) := by
  intro pins s σ H xs us Q I rv ⟨G, l, ks, ds, e, sm, seq, kd, few, q⟩
  subst e
  rw [Vals.ref1 rv]
  have key : ∀ p ∈ ks, IsN s.heap p.2 p.1 := fun p hp => by
    obtain ⟨d, h1, h2⟩ := kd.mem p hp
    exact DD.isKey I sm h1 h2
  obtain ⟨its, hits, at_⟩ : ∃ its : Array Value, its.toList = ks.map (fun p => Value.ref p.1) ∧ (s.heap.IsList l its ∨ s.heap.IsTuple l its) := by
    rcases seq with z | z
    · obtain ⟨its, rv, pl, _⟩ := I.list z
      exact ⟨its.toArray, by simpa using nrefs rv, .inl pl.isList⟩
    · obtain ⟨its, rv, at_, _⟩ := I.tuple z
      exact ⟨its.toArray, by simpa using nrefs rv, .inr at_⟩
  refine call_setN (P := X.prog) (w := X.w) (I.ok.hd calm) at_ hits key few (by omega) fun s2 filled => ?_
  obtain ⟨h2, tk, m, es, ep, t, rfl, Z, pm, keep⟩ := filled
  exact ⟨.ref s.heap.objs.size, _, I.laid keep (Nat.le_refl _) (nsetO_new Z (NSet.fits (s := { s with heap := h2 }) Z)), rfl, q _ m (I.hok.fresh (Nat.le_refl _)) pm⟩
def rSortN (X : Cx) : List V → Hp → VK → Prop := fun vs H Q => ∃ (G : Hp) (S : Addr) (m : Keyed) (ds : List D), vs = [V.ref S] ∧ Same G H ∧ H S = some (NSetO X.w S m) ∧ m.length ≤ 76 ∧ KD X.K G m ds ∧ okSort ds = true ∧
  ∀ (p : Addr) (ws : List V) (ds' : List D), ds'.Perm ds → H p = none → DDs X.K G ws (ds'.mergeSort leD) → Q (.ref p) (upd H p (.lst ws))
theorem cr_sortN (calm : X.calm = true) (room : X.A.units + 64 < cLine) : CallR X (.builtin "sorted") (rSortN X) := by
  intro pins s σ H vs us Q I r ⟨G, S, m, ds, e, sm, at_, few, kd, ok, q⟩
  subst e
  rw [Vals.ref1 r]
  obtain ⟨es, ep, t, ⟨o, ho, hex, hd⟩, rows, T, led, fit⟩ := (show NSet0 X.w s.heap S m from (I.hok S _ at_).1).ex
  have sz := nrows_size rows
  refine Calls.call_function_entry kind_sorted plain_sorted entry_sorted (args_sorted1 _) ?_
  unfold Builtin.«sorted»
  refine wpAny_bind (m := checkCount "sorted" 1 1 _) (wpAny_pure ?_)
  refine wpAny_bind (collect_set (A := X.A.in1) (I.ok.hd calm) ⟨o, ho, hex.1, hd⟩ fit (by rw [sz]; unfold scanBound; omega) T.ris led fun s1 out keep ge g1 o1 pm => ?_)
  have hes : es.toList.map (·.2) = m.map fun p => Value.ref p.1 := by rw [rows, nrows, List.map_map]; rfl
  rw [hes] at pm
  obtain ⟨mc, pc, hv⟩ := perm_of_map pm m rfl
  obtain ⟨dc, pd, kc⟩ := kd.perm pc
  have okc := okSort_perm pd ok
  have ml : mc.length = m.length := pc.length_eq
  have dl := kc.len
  have ol : out.length = mc.length := by rw [hv, List.length_map]
  have rv : Vals (mc.map fun p => V.ref p.1) out := by rw [hv]; exact nvals mc
  have I1 : Inv X pins σ H { s with heap := s1.heap, toks := s1.toks } := I.kept keep
  unfold okSort at okc
  simp only [Bool.and_eq_true] at okc
  obtain ⟨⟨⟨o1', o2⟩, o3⟩, o4⟩ := okc
  obtain ⟨e1, e2⟩ := each_of I1 sm rv kc.dds o1'
  refine wpAny_bind (wpAny_newList ?_ (by rw [sizeLine_eq]; omega))
  have hL : (s1.heap.push (seqObj "list" out.toArray 0)).get? s1.heap.objs.size = some (seqObj "list" out.toArray 0) := Heap.get?_push_size _ rfl
  have na : s1.heap.get? s1.heap.objs.size = none := none_above (Nat.le_refl _)
  have mem : ∀ d ∈ dc.map D.py, ∃ b ∈ dc, b.py = d := fun d hd => List.mem_map.mp hd
  show wpAny _ _ _ _ _ { s1 with heap := s1.heap.push (seqObj "list" out.toArray 0) }
  refine wpAny_bind (wpAny_holding (PySem.W.list_sort_data (s := { s1 with heap := s1.heap.push (seqObj "list" out.toArray 0) }) (bs := dc) (enc := D.py) (a := s1.heap.objs.size) hL e1 (each_fresh (fun b u e => Heap.get?_push_of_some _ e) na e2) (fun d hd d' hd' => ?_) ?_ (by rw [sizeLine_eq]; omega) (fun b hb => ?_) fun out2 hol eo => ?_))
  · obtain ⟨b, hb, rfl⟩ := mem d hd
    obtain ⟨b', hb', rfl⟩ := mem d' hd'
    exact List.all_eq_true.mp (List.all_eq_true.mp o2 b hb) b' hb'
  · rw [Bool.or_eq_true] at o3
    rcases o3 with o3 | o3
    · refine .inl fun d hd => ?_
      obtain ⟨b, hb, rfl⟩ := mem d hd
      have z := List.all_eq_true.mp o3 b hb
      split at z
      · rename_i x r e; exact ⟨x, r, e⟩
      · cases z
    · refine .inr fun d hd => ?_
      obtain ⟨b, hb, rfl⟩ := mem d hd
      have z := List.all_eq_true.mp o3 b hb
      refine ⟨fun e => ?_, fun xs e => ?_⟩
      · rw [e] at z; cases z
      · rw [e] at z; cases z
  · have z := of_decide_eq_true (List.all_eq_true.mp o4 b hb)
    have h1 : X.A.in1.units ≤ X.A.units + 1 := by first | exact Nat.le_refl _ | decide
    show X.A.in1.units + 1 + _ < cLine
    omega
  · obtain ⟨ws, w1, w2⟩ := of_each eo
    obtain ⟨c, hcx⟩ := sortedHeap_at (vs := out) (out := out2.toArray) hL
    have hlen : ws.length ≤ sizeLine := by rw [w1.length, hol, sizeLine_eq]; omega
    have hn : H s1.heap.objs.size = none := I.hok.fresh ge
    have k2 : ∀ b o, s.heap.get? b = some o → (sortedHeap (s1.heap.push (seqObj "list" out.toArray 0)) s1.heap.objs.size out out2.toArray).get? b = some o := fun b o e => by
      have lt := Heap.lt_size (keep b o e)
      rw [sortedHeap_old (Nat.ne_of_lt lt) (by rw [size_push']; exact Nat.lt_succ_of_lt lt)]
      exact Heap.get?_push_of_some _ (keep b o e)
    refine wpAny_pure ⟨_, rfl, ?_⟩
    show EP X pins σ Q _ ({ s1 with heap := sortedHeap (s1.heap.push (seqObj "list" out.toArray 0)) s1.heap.objs.size out out2.toArray } : Shared)
    generalize sortedHeap (s1.heap.push (seqObj "list" out.toArray 0)) s1.heap.objs.size out out2.toArray = h2 at hcx k2 ⊢
    have J : Inv X pins σ (upd H s1.heap.objs.size (.lst ws)) { s with heap := h2, gens := s1.gens, drawn := s1.drawn, toks := s1.toks } :=
      I.call (ch := []) (Un.laid k2 ge hn) (I.hok.laid k2 ge ⟨hlen, out2, c, w1, hcx⟩) (by rw [g1]; exact I.bare) (fun _ z => nomatch z)
    have e : ({ s1 with heap := h2 } : Shared) = { s with heap := h2, gens := s1.gens, drawn := s1.drawn, toks := s1.toks } := by
      cases s1; cases s; cases o1; rfl
    rw [e]
    exact ⟨.ref _, _, J, rfl, q _ ws dc pd hn w2⟩
end
def keyedB (ds : List D) : Bool := decide (ds.length ≤ 76) && ds.all fun d => (keyNK d).isSome
/-- it is one list, however they stand -/
def OneSort (ds : List D) : Prop := ∀ ds' : List D, ds'.Perm ds → ds'.mergeSort leD = ds.mergeSort leD
def SortNOk (ds : List D) : Prop := keyedB ds = true ∧ okSort (firstsD ds) = true ∧ OneSort (firstsD ds)
noncomputable instance sortNDec (ds : List D) : Decidable (SortNOk ds) := Classical.propDecidable _
noncomputable def gSortN : List D → Option D
  | [.lst ds] => if SortNOk ds then some (.lst ((firstsD ds).mergeSort leD)) else none
  | [.tup ds] => if SortNOk ds then some (.lst ((firstsD ds).mergeSort leD)) else none
  | _ => none
section
variable {X : Cx}
def rSSN (X : Cx) : List V → Hp → VK → Prop := fun xs H Q => rSetN X xs H fun x H2 => rSortN X [x] H2 Q
theorem seq_of {G H : Hp} {v : V} {d : D} {ds : List D} (s : Same G H) (b : BD X.K G H v d) (e : d = .lst ds ∨ d = .tup ds) : ∃ a vs, v = .ref a ∧ (SqL X.K H a vs ∨ SqT X.K H a vs) ∧ DDs X.K G vs ds := by
  rcases e with rfl | rfl
  · obtain ⟨a, vs, rfl, h1, _, d1⟩ := b.lst s
    exact ⟨a, vs, rfl, .inl (SqL.of h1), d1⟩
  · obtain ⟨a, vs, rfl, h1, _, d1, _⟩ := b.tup s
    exact ⟨a, vs, rfl, .inr (SqT.of h1), d1⟩
theorem same_set {H : Hp} {S : Addr} {o : HO} (h : H S = none) : Same H (upd H S o) := fun b u e => by rw [upd_ne (ne_of_none e h)]; exact e
theorem callSSN {G H : Hp} {v : V} {d : D} {ds : List D} {Q : VK} (s : Same G H) (b : BD X.K G H v d) (e : d = .lst ds ∨ d = .tup ds) (kb : keyedB ds = true) (ok : okSort (firstsD ds) = true) (one : OneSort (firstsD ds))
    (z : RzN X.K G H Q (.lst ((firstsD ds).mergeSort leD))) : rSSN X [v] H Q := by
  obtain ⟨a, vs, rfl, sq, dd⟩ := seq_of s b e
  unfold keyedB at kb
  rw [Bool.and_eq_true, decide_eq_true_eq] at kb
  obtain ⟨ks, rfl, kd⟩ := KD.of dd kb.2
  have kf := kd.firsts
  refine ⟨G, a, ks, ds, rfl, s, sq, kd, by rw [kd.len]; exact kb.1, fun S m hS pm => ?_⟩
  obtain ⟨dm, pd, km⟩ := kf.perm pm
  refine ⟨G, S, m, dm, rfl, s.trans (same_set hS), upd_same, ?_, km, okSort_perm pd ok, fun p ws ds' pm' hp dw => ?_⟩
  · have h1 := pm.length_eq
    have h2 := firsts_len ks
    have h3 := kd.len
    omega
  · have pS : p ≠ S := fun e => by rw [e, upd_same] at hp; cases hp
    have hp2 : H p = none := by rw [upd_ne pS] at hp; exact hp
    rw [one ds' (pm'.trans pd)] at dw
    have s2 : Same (upd H S (NSetO X.w S m)) (upd (upd H S (NSetO X.w S m)) p (.lst ws)) := same_set hp
    refine z p _ hp2 (Same.trans (same_set hS) s2) ⟨ws, upd_same, ?_, dw⟩
    · rw [dw.len, (List.mergeSort_perm _ leD).length_eq, ← kf.len, sizeLine_eq]
      have h2 := firsts_len ks
      have h3 := kd.len
      omega
theorem calln_sortN : CallN X.K (rSSN X) gSortN := by
  intro G H xs ds d Q s h e z
  match ds, e with
  | [.lst dl], e =>
    have e : (if SortNOk dl then some (D.lst ((firstsD dl).mergeSort leD)) else none) = some d := e
    split at e
    · rename_i c
      cases e
      obtain ⟨v, rfl, b⟩ := h.one
      exact callSSN s b (.inl rfl) c.1 c.2.1 c.2.2 z
    · cases e
  | [.tup dl], e =>
    have e : (if SortNOk dl then some (D.lst ((firstsD dl).mergeSort leD)) else none) = some d := e
    split at e
    · rename_i c
      cases e
      obtain ⟨v, rfl, b⟩ := h.one
      exact callSSN s b (.inr rfl) c.1 c.2.1 c.2.2 z
    · cases e
variable {Wi : Wish} {e : Expr} {p p2 pos pos2 : Pos} {fs : AF}
theorem dn_sortN (hc : X.calm = true) (hu : X.A.units + 64 < cLine) (hg : Gl X "sorted") (hm : X.mg "sorted" = none) (hg2 : Gl X "set") (hm2 : X.mg "set" = none) (ha : DA X Wi [e] fs)
    (he : starEach [e] X.env = (false, eval e X.env) :: starEach [] X.env := by rfl) (hpl : (backTo pos2 (starEach [] X.env)).any (·.1) = false := by rfl)
    (he2 : starEach [Expr.Call (.Name "set" p2) [e] [] pos2] X.env = (false, eval (Expr.Call (.Name "set" p2) [e] [] pos2) X.env) :: starEach [] X.env := by rfl) (hpl2 : (backTo pos (starEach [] X.env)).any (·.1) = false := by rfl) :
    DN X Wi (.Call (.Name "sorted" p) [.Call (.Name "set" p2) [e] [] pos2] [] pos) (nCall gSortN fs) :=
  PE.imp (pe_callB (cr_sortN hc hu) hg hm PyProof.Rows.boot_sorted (pa_cons (pe_callTy (cr_setN hc hu) hg2 hm2 PyProof.Rows.boot_set ha (he := he) (hpl := hpl)) pa_nil he2) (he := he2) (hpl := hpl2)) fun σ H Q q => tCBN_of (calln_sortN (X := X)) σ H Q q
end
end DL
namespace DL
open PySem PySem.Spec PyProof.Rows L2
section
variable {K : PySem.W.Frag} {F : Fr} {G G2 H H2 : Hp} {σ : L2.St} {E E2 : Env} {as as2 : Nat → List Addr} {i n : Nat} {c : Cell}
end
structure JDF (K : PySem.W.Frag) (F : Fr) (G0 : Hp) (J : It) (items : List D) : Prop where
  le : items.length ≤ sizeLine
  stop : ∀ {G H : Hp} {σ : L2.St} {E : Env} {as : Nat → List Addr}, Same G0 G → StE K F G H σ E as → J.stop items.length H
  go : ∀ {G H : Hp} {σ : L2.St} {E : Env} {as : Nat → List Addr} {i : Nat}, Same G0 G → StE K F G H σ E as → i < items.length → J.go i H
  yld : ∀ {G H : Hp} {σ : L2.St} {E : Env} {as : Nat → List Addr} {i : Nat} {d : D} {x : V} {H' : Hp}, Same G0 G → StE K F G H σ E as → items[i]? = some d → J.yld i H x H' → ∃ G', Al G H G' H' ∧ DD K G' x d
section
variable {X : Cx} {Wi : Wish} {o tg elt : Expr} {apos cpos : Pos} {L : Loc}
end
end DL
namespace DL
open PySem PySem.Spec PyProof.Rows L2
theorem DXs.vals {K : PySem.W.Frag} {G : Hp} : ∀ {xs : XEnts} {kd : List (D × D)}, DXs K G xs kd → ∀ y ∈ xs, ∃ v, RelV v y.2.2
  | _, _, .cons _ _ r _ t, y, hy => by
    rcases List.mem_cons.mp hy with rfl | hy
    · exact ⟨_, r⟩
    · exact DXs.vals t y hy
section
variable {X : Cx} {Wi : Wish} {o tg elt : Expr} {ifs : List Expr} {scope : Scope} {own : List (Str × Nat)} {pos apos cpos : Pos} {g : GF} {fc : BF} {fe : EF} {ts : List Nat} {L : Loc} {w0 : World}
end
end DL
namespace DL
open PySem PySem.Spec PyProof.Rows L2 TL PpSet
section
variable {P : Program} {w : World} {A : Around} {R : Result → Shared → Prop} {s : Shared} {env : PySem.Env}
end
end DL
namespace DL
open PySem PySem.Spec PyProof.Rows L2 TL PpSet
section
variable {X : Cx} {ke ve tg iter : Expr} {ifs : List Expr} {scope : Scope} {own : List (Str × Nat)} {pos : Pos} {wi : TI} {g : TG} {tt : TT} {tk tv : TE}
end
end DL
namespace DL
open PySem PySem.Spec PyProof.Rows L2
section
variable {X : Cx} {Wi : Wish} {tg iter ke ve : Expr} {ifs : List Expr} {scope : Scope} {own : List (Str × Nat)} {pos : Pos} {fi : IF} {g : GF} {fc : BF} {fk fv : EF} {ts : List Nat} {w0 : World}
end
end DL
namespace DL
open PySem PySem.Spec PyProof.Rows L2
/-- no two keys hash alike -/
def apartX (w : World) (ke : List (D × D)) : Prop := (ke.map fun p => (keyNK p.1).map (NestedKey.hash w)).Nodup
noncomputable instance apartXDec (w : World) (ke : List (D × D)) : Decidable (apartX w ke) := Classical.propDecidable _
section
variable {X : Cx} {Wi : Wish} {o e : Expr} {es : List Expr} {fs : AF} {apos cpos pos : Pos} {L : Loc} {w0 : World}
end
end DL
namespace DL
open PySem PySem.Spec PyProof.Rows L2 TL

def T (l : List Nat) : Str := ⟨l.toArray⟩
def dS (l : List Nat) : D := .str (T l)
def dC (c : Nat) : D := .str (sgn c)
theorem T_tl (x : Str) : T (tl x) = x := by
  unfold T tl
  cases x; simp
theorem T_inj {a b : List Nat} : T a = T b ↔ a = b := ⟨fun h => by have := congrArg tl h; exact this, fun h => by rw [h]⟩
theorem sgn_T (c : Nat) : sgn c = T [c] := rfl
theorem T_app (a b : List Nat) : T a ++ T b = T (a ++ b) := by
  have h := tl_append (T a) (T b)
  rw [← T_tl (T a ++ T b), h]; rfl
theorem T_len (l : List Nat) : (T l).length = l.length := rfl
theorem inS_one (c : Nat) (l : List Nat) : inS (sgn c) (T l) = decide (c ∈ l) := PySem.StrLaws.found_one (T l) c
theorem gIn_one (neg : Bool) (c : Nat) (l : List Nat) : gInQ neg (dC c) (dS l) = some (.bl (if neg then !decide (c ∈ l) else decide (c ∈ l))) := by
  show some (D.bl (if neg then !(inS (sgn c) (T l)) else inS (sgn c) (T l))) = _
  rw [inS_one]
theorem eqv_str (x y : Str) : PyData.eqv (.str x) (.str y) = decide (x = y) := by
  show (x == y) = _
  by_cases h : x = y
  · subst h; simp
  · rw [decide_eq_false h]
    exact beq_eq_false_iff_ne.mpr h
end DL
namespace DL
open PySem PySem.Spec PyProof.Rows L2 TL
def k5_eOp (q : W × Env) : D → Res (W × Env) := fun d => .ok (.dat d, q.2)
def k4_eOp (g : D → D → Option D) (q : W × Env) (x : D) : D → Res (W × Env) := fun y => (ofO (g x y)).bind (k5_eOp q)
def k3_eOp (g : D → D → Option D) (q : W × Env) : D → Res (W × Env) := fun x => (rd q.2 q.1).bind (k4_eOp g q x)
def k2_eOp (g : D → D → Option D) (p : W × Env) : W × Env → Res (W × Env) := fun q => (rd q.2 p.1).bind (k3_eOp g q)
def k1_eOp (g : D → D → Option D) (fb : EF) : W × Env → Res (W × Env) := fun p => (fb p.2).bind (k2_eOp g p)
@[simp] theorem ap_k5_eOp (q : W × Env) (d : D) : k5_eOp q d = .ok (.dat d, q.2) := rfl
@[simp] theorem ap_k4_eOp (g : D → D → Option D) (q : W × Env) (x : D) (y : D) : k4_eOp g q x y = (ofO (g x y)).bind (k5_eOp q) := rfl
@[simp] theorem ap_k3_eOp (g : D → D → Option D) (q : W × Env) (x : D) : k3_eOp g q x = (rd q.2 q.1).bind (k4_eOp g q x) := rfl
@[simp] theorem ap_k2_eOp (g : D → D → Option D) (p : W × Env) (q : W × Env) : k2_eOp g p q = (rd q.2 p.1).bind (k3_eOp g q) := rfl
@[simp] theorem ap_k1_eOp (g : D → D → Option D) (fb : EF) (p : W × Env) : k1_eOp g fb p = (fb p.2).bind (k2_eOp g p) := rfl
@[simp] theorem ap_eOp (g : D → D → Option D) (fa : EF) (fb : EF) (E : Env) : eOp g fa fb E = (fa E).bind (k1_eOp g fb) := rfl
def k3_eUn (p : W × Env) : D → Res (W × Env) := fun d => .ok (.dat d, p.2)
def k2_eUn (g : D → Option D) (p : W × Env) : D → Res (W × Env) := fun x => (ofO (g x)).bind (k3_eUn p)
def k1_eUn (g : D → Option D) : W × Env → Res (W × Env) := fun p => (rd p.2 p.1).bind (k2_eUn g p)
@[simp] theorem ap_k3_eUn (p : W × Env) (d : D) : k3_eUn p d = .ok (.dat d, p.2) := rfl
@[simp] theorem ap_k2_eUn (g : D → Option D) (p : W × Env) (x : D) : k2_eUn g p x = (ofO (g x)).bind (k3_eUn p) := rfl
@[simp] theorem ap_k1_eUn (g : D → Option D) (p : W × Env) : k1_eUn g p = (rd p.2 p.1).bind (k2_eUn g p) := rfl
@[simp] theorem ap_eUn (g : D → Option D) (fa : EF) (E : Env) : eUn g fa E = (fa E).bind (k1_eUn g) := rfl
def k2_aC (p : W × Env) : List W × Env → Res (List W × Env) := fun q => .ok (p.1 :: q.1, q.2)
def k1_aC (fs : AF) : W × Env → Res (List W × Env) := fun p => (fs p.2).bind (k2_aC p)
@[simp] theorem ap_k2_aC (p : W × Env) (q : List W × Env) : k2_aC p q = .ok (p.1 :: q.1, q.2) := rfl
@[simp] theorem ap_k1_aC (fs : AF) (p : W × Env) : k1_aC fs p = (fs p.2).bind (k2_aC p) := rfl
@[simp] theorem ap_aC (fa : EF) (fs : AF) (E : Env) : aC fa fs E = (fa E).bind (k1_aC fs) := rfl
def k3_eCall (p : List W × Env) : D → Res (W × Env) := fun d => .ok (.dat d, p.2)
def k2_eCall (h : List D → Option D) (p : List W × Env) : List D → Res (W × Env) := fun ds => (ofO (h ds)).bind (k3_eCall p)
def k1_eCall (h : List D → Option D) : List W × Env → Res (W × Env) := fun p => (rds p.2 p.1).bind (k2_eCall h p)
@[simp] theorem ap_k3_eCall (p : List W × Env) (d : D) : k3_eCall p d = .ok (.dat d, p.2) := rfl
@[simp] theorem ap_k2_eCall (h : List D → Option D) (p : List W × Env) (ds : List D) : k2_eCall h p ds = (ofO (h ds)).bind (k3_eCall p) := rfl
@[simp] theorem ap_k1_eCall (h : List D → Option D) (p : List W × Env) : k1_eCall h p = (rds p.2 p.1).bind (k2_eCall h p) := rfl
@[simp] theorem ap_eCall (h : List D → Option D) (fs : AF) (E : Env) : eCall h fs E = (fs E).bind (k1_eCall h) := rfl
def k3_nCall (p : List W × Env) : D → Res (D × Env) := fun d => .ok (d, p.2)
def k2_nCall (h : List D → Option D) (p : List W × Env) : List D → Res (D × Env) := fun ds => (ofO (h ds)).bind (k3_nCall p)
def k1_nCall (h : List D → Option D) : List W × Env → Res (D × Env) := fun p => (rds p.2 p.1).bind (k2_nCall h p)
@[simp] theorem ap_k3_nCall (p : List W × Env) (d : D) : k3_nCall p d = .ok (d, p.2) := rfl
@[simp] theorem ap_k2_nCall (h : List D → Option D) (p : List W × Env) (ds : List D) : k2_nCall h p ds = (ofO (h ds)).bind (k3_nCall p) := rfl
@[simp] theorem ap_k1_nCall (h : List D → Option D) (p : List W × Env) : k1_nCall h p = (rds p.2 p.1).bind (k2_nCall h p) := rfl
@[simp] theorem ap_nCall (h : List D → Option D) (fs : AF) (E : Env) : nCall h fs E = (fs E).bind (k1_nCall h) := rfl
def k1_eN  : D × Env → Res (W × Env) := fun p => .ok (.dat p.1, p.2)
@[simp] theorem ap_k1_eN  (p : D × Env) : k1_eN p = .ok (.dat p.1, p.2) := rfl
@[simp] theorem ap_eN (fn : NF) (E : Env) : eN fn E = (fn E).bind k1_eN := rfl
def k3_eTup (p : List W × Env) : D → Res (W × Env) := fun d => .ok (.dat d, p.2)
def k2_eTup (p : List W × Env) : List D → Res (W × Env) := fun ds => (ofO (small ds (some (.tup ds)))).bind (k3_eTup p)
def k1_eTup  : List W × Env → Res (W × Env) := fun p => (ofO (dats p.1)).bind (k2_eTup p)
@[simp] theorem ap_k3_eTup (p : List W × Env) (d : D) : k3_eTup p d = .ok (.dat d, p.2) := rfl
@[simp] theorem ap_k2_eTup (p : List W × Env) (ds : List D) : k2_eTup p ds = (ofO (small ds (some (.tup ds)))).bind (k3_eTup p) := rfl
@[simp] theorem ap_k1_eTup  (p : List W × Env) : k1_eTup p = (ofO (dats p.1)).bind (k2_eTup p) := rfl
@[simp] theorem ap_eTup (fs : AF) (E : Env) : eTup fs E = (fs E).bind k1_eTup := rfl
def k3_nLst (p : List W × Env) : D → Res (D × Env) := fun d => .ok (d, p.2)
def k2_nLst (p : List W × Env) : List D → Res (D × Env) := fun ds => (ofO (small ds (some (.lst ds)))).bind (k3_nLst p)
def k1_nLst  : List W × Env → Res (D × Env) := fun p => (ofO (dats p.1)).bind (k2_nLst p)
@[simp] theorem ap_k3_nLst (p : List W × Env) (d : D) : k3_nLst p d = .ok (d, p.2) := rfl
@[simp] theorem ap_k2_nLst (p : List W × Env) (ds : List D) : k2_nLst p ds = (ofO (small ds (some (.lst ds)))).bind (k3_nLst p) := rfl
@[simp] theorem ap_k1_nLst  (p : List W × Env) : k1_nLst p = (ofO (dats p.1)).bind (k2_nLst p) := rfl
@[simp] theorem ap_nLst (fs : AF) (E : Env) : nLst fs E = (fs E).bind k1_nLst := rfl
def k3_tB (p : W × Env) : Bool → Res (Bool × Env) := fun b => .ok (b, p.2)
def k2_tB (p : W × Env) : D → Res (Bool × Env) := fun d => (ofO (asB d)).bind (k3_tB p)
def k1_tB  : W × Env → Res (Bool × Env) := fun p => (rd p.2 p.1).bind (k2_tB p)
@[simp] theorem ap_k3_tB (p : W × Env) (b : Bool) : k3_tB p b = .ok (b, p.2) := rfl
@[simp] theorem ap_k2_tB (p : W × Env) (d : D) : k2_tB p d = (ofO (asB d)).bind (k3_tB p) := rfl
@[simp] theorem ap_k1_tB  (p : W × Env) : k1_tB p = (rd p.2 p.1).bind (k2_tB p) := rfl
@[simp] theorem ap_tB (fa : EF) (E : Env) : tB fa E = (fa E).bind k1_tB := rfl
def k1_tNt  : Bool × Env → Res (Bool × Env) := fun p => .ok (!p.1, p.2)
@[simp] theorem ap_k1_tNt  (p : Bool × Env) : k1_tNt p = .ok (!p.1, p.2) := rfl
@[simp] theorem ap_tNt (t : BF) (E : Env) : tNt t E = (t E).bind k1_tNt := rfl
def k1_tAnd_ (u : BF) : Bool × Env → Res (Bool × Env) := fun p => if p.1 = true then u p.2 else .ok (false, p.2)
@[simp] theorem ap_k1_tAnd_ (u : BF) (p : Bool × Env) : k1_tAnd_ u p = if p.1 = true then u p.2 else .ok (false, p.2) := rfl
@[simp] theorem ap_tAnd_ (t : BF) (u : BF) (E : Env) : tAnd' t u E = (t E).bind (k1_tAnd_ u) := rfl
def k1_tOr_ (u : BF) : Bool × Env → Res (Bool × Env) := fun p => if p.1 = true then .ok (true, p.2) else u p.2
@[simp] theorem ap_k1_tOr_ (u : BF) (p : Bool × Env) : k1_tOr_ u p = if p.1 = true then .ok (true, p.2) else u p.2 := rfl
@[simp] theorem ap_tOr_ (t : BF) (u : BF) (E : Env) : tOr' t u E = (t E).bind (k1_tOr_ u) := rfl
def k1_vAnd (fb : EF) : Bool × Env → Res (W × Env) := fun p => if p.1 = true then fb p.2 else .ok (.dat (.bl false), p.2)
@[simp] theorem ap_k1_vAnd (fb : EF) (p : Bool × Env) : k1_vAnd fb p = if p.1 = true then fb p.2 else .ok (.dat (.bl false), p.2) := rfl
@[simp] theorem ap_vAnd (fa : EF) (fb : EF) (E : Env) : vAnd fa fb E = (tB fa E).bind (k1_vAnd fb) := rfl
def k2_eF (n : Nat) (fm : List D → Res D) (p : List W × Env) : List D → Res (W × Env) := fun ds => if ds.length = n then ret (fm ds) p.2 else .stuck
def k1_eF (n : Nat) (fm : List D → Res D) : List W × Env → Res (W × Env) := fun p => (ofO (dats p.1)).bind (k2_eF n fm p)
@[simp] theorem ap_k2_eF (n : Nat) (fm : List D → Res D) (p : List W × Env) (ds : List D) : k2_eF n fm p ds = if ds.length = n then ret (fm ds) p.2 else .stuck := rfl
@[simp] theorem ap_k1_eF (n : Nat) (fm : List D → Res D) (p : List W × Env) : k1_eF n fm p = (ofO (dats p.1)).bind (k2_eF n fm p) := rfl
@[simp] theorem ap_eF (n : Nat) (fm : List D → Res D) (fs : AF) (E : Env) : eF n fm fs E = (fs E).bind (k1_eF n fm) := rfl
def k4_eK (i : Nat) (n : Nat) (fm : Addr → Addr → Dk → List D → Res (D × Dk)) (p : List W × Env) (ds : List D) : Addr × Addr × Dk → Res (W × Env) := fun z => if ds.length = n then retK i z.1 z.2.1 (fm z.1 z.2.1 z.2.2 ds) p.2 else .stuck
def k3_eK (i : Nat) (n : Nat) (fm : Addr → Addr → Dk → List D → Res (D × Dk)) (p : List W × Env) : List D → Res (W × Env) := fun ds => (ofO (deckAt p.2 i)).bind (k4_eK i n fm p ds)
def k2_eK (i : Nat) (n : Nat) (fm : Addr → Addr → Dk → List D → Res (D × Dk)) : List W × Env → Res (W × Env) := fun p => (ofO (dats p.1)).bind (k3_eK i n fm p)
def k1_eK (i : Nat) (n : Nat) (fm : Addr → Addr → Dk → List D → Res (D × Dk)) (fs : AF) (E : Env) : Addr × Addr × Dk → Res (W × Env) := fun _ => (fs E).bind (k2_eK i n fm)
@[simp] theorem ap_k4_eK (i : Nat) (n : Nat) (fm : Addr → Addr → Dk → List D → Res (D × Dk)) (p : List W × Env) (ds : List D) (z : Addr × Addr × Dk) : k4_eK i n fm p ds z = if ds.length = n then retK i z.1 z.2.1 (fm z.1 z.2.1 z.2.2 ds) p.2 else .stuck := rfl
@[simp] theorem ap_k3_eK (i : Nat) (n : Nat) (fm : Addr → Addr → Dk → List D → Res (D × Dk)) (p : List W × Env) (ds : List D) : k3_eK i n fm p ds = (ofO (deckAt p.2 i)).bind (k4_eK i n fm p ds) := rfl
@[simp] theorem ap_k2_eK (i : Nat) (n : Nat) (fm : Addr → Addr → Dk → List D → Res (D × Dk)) (p : List W × Env) : k2_eK i n fm p = (ofO (dats p.1)).bind (k3_eK i n fm p) := rfl
@[simp] theorem ap_k1_eK (i : Nat) (n : Nat) (fm : Addr → Addr → Dk → List D → Res (D × Dk)) (fs : AF) (E : Env) (_z : Addr × Addr × Dk) : k1_eK i n fm fs E _z = (fs E).bind (k2_eK i n fm) := rfl
@[simp] theorem ap_eK (i : Nat) (n : Nat) (fm : Addr → Addr → Dk → List D → Res (D × Dk)) (fs : AF) (E : Env) : eK i n fm fs E = (ofO (deckAt E i)).bind (k1_eK i n fm fs E) := rfl
def k4_eFK (n : Nat) (kn : Nat) (pm : List Nat) (np : Nat) (fm : List D → Res D) (q : List W × Env) (ds : List D) : List D → Res (W × Env) := fun es => if ds.length = n ∧ es.length = kn ∧ (pick pm (ds ++ es)).length = np then ret (fm (pick pm (ds ++ es))) q.2 else .stuck
def k3_eFK (n : Nat) (kn : Nat) (pm : List Nat) (np : Nat) (fm : List D → Res D) (q : List W × Env) : List D → Res (W × Env) := fun ds => (ofO (dats q.1)).bind (k4_eFK n kn pm np fm q ds)
def k2_eFK (n : Nat) (kn : Nat) (pm : List Nat) (np : Nat) (fm : List D → Res D) (p : List W × Env) : List W × Env → Res (W × Env) := fun q => (ofO (dats p.1)).bind (k3_eFK n kn pm np fm q)
def k1_eFK (n : Nat) (kn : Nat) (pm : List Nat) (np : Nat) (fm : List D → Res D) (fk : AF) : List W × Env → Res (W × Env) := fun p => (fk p.2).bind (k2_eFK n kn pm np fm p)
@[simp] theorem ap_k4_eFK (n : Nat) (kn : Nat) (pm : List Nat) (np : Nat) (fm : List D → Res D) (q : List W × Env) (ds : List D) (es : List D) : k4_eFK n kn pm np fm q ds es = if ds.length = n ∧ es.length = kn ∧ (pick pm (ds ++ es)).length = np then ret (fm (pick pm (ds ++ es))) q.2 else .stuck := rfl
@[simp] theorem ap_k3_eFK (n : Nat) (kn : Nat) (pm : List Nat) (np : Nat) (fm : List D → Res D) (q : List W × Env) (ds : List D) : k3_eFK n kn pm np fm q ds = (ofO (dats q.1)).bind (k4_eFK n kn pm np fm q ds) := rfl
@[simp] theorem ap_k2_eFK (n : Nat) (kn : Nat) (pm : List Nat) (np : Nat) (fm : List D → Res D) (p : List W × Env) (q : List W × Env) : k2_eFK n kn pm np fm p q = (ofO (dats p.1)).bind (k3_eFK n kn pm np fm q) := rfl
@[simp] theorem ap_k1_eFK (n : Nat) (kn : Nat) (pm : List Nat) (np : Nat) (fm : List D → Res D) (fk : AF) (p : List W × Env) : k1_eFK n kn pm np fm fk p = (fk p.2).bind (k2_eFK n kn pm np fm p) := rfl
@[simp] theorem ap_eFK (n : Nat) (kn : Nat) (pm : List Nat) (np : Nat) (fm : List D → Res D) (fs : AF) (fk : AF) (E : Env) : eFK n kn pm np fm fs fk E = (fs E).bind (k1_eFK n kn pm np fm fk) := rfl
def k2_eM1 (h : D → List D → Option D) (fb : EF) (p : W × Env) : D → Res (W × Env) := fun x => match x with | .str s => (fb p.2).bind fun q => (rd q.2 q.1).bind fun y => (ofO (h (.str s) [y])).bind fun d => .ok (.dat d, q.2) | _ => .stuck
def k1_eM1 (h : D → List D → Option D) (fb : EF) : W × Env → Res (W × Env) := fun p => (rd p.2 p.1).bind (k2_eM1 h fb p)
@[simp] theorem ap_k1_eM1 (h : D → List D → Option D) (fb : EF) (p : W × Env) : k1_eM1 h fb p = (rd p.2 p.1).bind (k2_eM1 h fb p) := rfl
@[simp] theorem ap_eM1 (h : D → List D → Option D) (fa : EF) (fb : EF) (E : Env) : eM1 h fa fb E = (fa E).bind (k1_eM1 h fb) := rfl
def k3_oSo (p : W × Env) : Int → Res (Option Int × Env) := fun i => .ok (some i, p.2)
def k2_oSo (p : W × Env) : D → Res (Option Int × Env) := fun d => (ofO (asI d)).bind (k3_oSo p)
def k1_oSo  : W × Env → Res (Option Int × Env) := fun p => (rd p.2 p.1).bind (k2_oSo p)
@[simp] theorem ap_k3_oSo (p : W × Env) (i : Int) : k3_oSo p i = .ok (some i, p.2) := rfl
@[simp] theorem ap_k2_oSo (p : W × Env) (d : D) : k2_oSo p d = (ofO (asI d)).bind (k3_oSo p) := rfl
@[simp] theorem ap_k1_oSo  (p : W × Env) : k1_oSo p = (rd p.2 p.1).bind (k2_oSo p) := rfl
@[simp] theorem ap_oSo (fa : EF) (E : Env) : oSo fa E = (fa E).bind k1_oSo := rfl
def k5_eSl (r : Option Int × Env) : D → Res (W × Env) := fun d => .ok (.dat d, r.2)
def k4_eSl (h : D → Option Int → Option Int → Option D) (q : Option Int × Env) (r : Option Int × Env) : D → Res (W × Env) := fun x => (ofO (h x q.1 r.1)).bind (k5_eSl r)
def k3_eSl (h : D → Option Int → Option Int → Option D) (p : W × Env) (q : Option Int × Env) : Option Int × Env → Res (W × Env) := fun r => (rd r.2 p.1).bind (k4_eSl h q r)
def k2_eSl (h : D → Option Int → Option Int → Option D) (oh : OF) (p : W × Env) : Option Int × Env → Res (W × Env) := fun q => (oh q.2).bind (k3_eSl h p q)
def k1_eSl (h : D → Option Int → Option Int → Option D) (ol : OF) (oh : OF) : W × Env → Res (W × Env) := fun p => (ol p.2).bind (k2_eSl h oh p)
@[simp] theorem ap_k5_eSl (r : Option Int × Env) (d : D) : k5_eSl r d = .ok (.dat d, r.2) := rfl
@[simp] theorem ap_k4_eSl (h : D → Option Int → Option Int → Option D) (q : Option Int × Env) (r : Option Int × Env) (x : D) : k4_eSl h q r x = (ofO (h x q.1 r.1)).bind (k5_eSl r) := rfl
@[simp] theorem ap_k3_eSl (h : D → Option Int → Option Int → Option D) (p : W × Env) (q : Option Int × Env) (r : Option Int × Env) : k3_eSl h p q r = (rd r.2 p.1).bind (k4_eSl h q r) := rfl
@[simp] theorem ap_k2_eSl (h : D → Option Int → Option Int → Option D) (oh : OF) (p : W × Env) (q : Option Int × Env) : k2_eSl h oh p q = (oh q.2).bind (k3_eSl h p q) := rfl
@[simp] theorem ap_k1_eSl (h : D → Option Int → Option Int → Option D) (ol : OF) (oh : OF) (p : W × Env) : k1_eSl h ol oh p = (ol p.2).bind (k2_eSl h oh p) := rfl
@[simp] theorem ap_eSl (h : D → Option Int → Option Int → Option D) (fa : EF) (ol : OF) (oh : OF) (E : Env) : eSl h fa ol oh E = (fa E).bind (k1_eSl h ol oh) := rfl
def k3_iSq (p : W × Env) : List D → Res (List D × Env) := fun ds => .ok (ds, p.2)
def k2_iSq (p : W × Env) : D → Res (List D × Env) := fun d => (ofO (sqD d)).bind (k3_iSq p)
def k1_iSq  : W × Env → Res (List D × Env) := fun p => (ofO (asDat p.1)).bind (k2_iSq p)
@[simp] theorem ap_k3_iSq (p : W × Env) (ds : List D) : k3_iSq p ds = .ok (ds, p.2) := rfl
@[simp] theorem ap_k2_iSq (p : W × Env) (d : D) : k2_iSq p d = (ofO (sqD d)).bind (k3_iSq p) := rfl
@[simp] theorem ap_k1_iSq  (p : W × Env) : k1_iSq p = (ofO (asDat p.1)).bind (k2_iSq p) := rfl
@[simp] theorem ap_iSq (fa : EF) (E : Env) : iSq fa E = (fa E).bind k1_iSq := rfl
def k1_iZ  : List W × Env → Res (List D × Env) := fun p => match p.1 with | [.dat a, .dat b] => (ofO (sqD a)).bind fun x => (ofO (sqD b)).bind fun y => .ok ((List.zip x y).map fun p => .tup [p.1, p.2], p.2) | _ => .stuck
@[simp] theorem ap_k1_iZ  (p : List W × Env) : k1_iZ p = match p.1 with | [.dat a, .dat b] => (ofO (sqD a)).bind fun x => (ofO (sqD b)).bind fun y => .ok ((List.zip x y).map fun p => .tup [p.1, p.2], p.2) | _ => .stuck := rfl
@[simp] theorem ap_iZ (fs : AF) (E : Env) : iZ fs E = (fs E).bind k1_iZ := rfl
def k1_iR1  : List W × Env → Res (List D × Env) := fun p => match p.1 with | [.dat (.int j)] => if j ≤ 16777216 ∧ -(2 ^ 62) ≤ j then .ok (rgD 0 j.toNat, p.2) else .stuck | _ => .stuck
@[simp] theorem ap_k1_iR1  (p : List W × Env) : k1_iR1 p = match p.1 with | [.dat (.int j)] => if j ≤ 16777216 ∧ -(2 ^ 62) ≤ j then .ok (rgD 0 j.toNat, p.2) else .stuck | _ => .stuck := rfl
@[simp] theorem ap_iR1 (fs : AF) (E : Env) : iR1 fs E = (fs E).bind k1_iR1 := rfl
def k1_nComp (vs : List Nat) (h : GF) (fc : BF) (fe : EF) : List D × Env → Res (D × Env) := fun p => if vs.all (fun v => plainC p.2[v]?) = true then compL vs h fc fe p.2 p.1 [] p.2 else .stuck
@[simp] theorem ap_k1_nComp (vs : List Nat) (h : GF) (fc : BF) (fe : EF) (p : List D × Env) : k1_nComp vs h fc fe p = if vs.all (fun v => plainC p.2[v]?) = true then compL vs h fc fe p.2 p.1 [] p.2 else .stuck := rfl
@[simp] theorem ap_nComp (vs : List Nat) (fi : IF) (h : GF) (fc : BF) (fe : EF) (E : Env) : nComp vs fi h fc fe E = (fi E).bind (k1_nComp vs h fc fe) := rfl
def k1_sSeq (s2 : SF) : Fl × Env → Res (Fl × Env) := fun p => match p.1 with | .nx => s2 p.2 | fl => .ok (fl, p.2)
@[simp] theorem ap_k1_sSeq (s2 : SF) (p : Fl × Env) : k1_sSeq s2 p = match p.1 with | .nx => s2 p.2 | fl => .ok (fl, p.2) := rfl
@[simp] theorem ap_sSeq (s1 : SF) (s2 : SF) (E : Env) : sSeq s1 s2 E = (s1 E).bind (k1_sSeq s2) := rfl
def k1_sEx  : W × Env → Res (Fl × Env) := fun p => .ok (.nx, p.2)
@[simp] theorem ap_k1_sEx  (p : W × Env) : k1_sEx p = .ok (.nx, p.2) := rfl
@[simp] theorem ap_sEx (fa : EF) (E : Env) : sEx fa E = (fa E).bind k1_sEx := rfl
def k1_sRet  : W × Env → Res (Fl × Env) := fun p => match p.1 with | .dat d => .ok (.rt d, p.2) | .own i => match p.2[i]? with | some (.own d) => .ok (.rt d, p.2.set i (.dat d)) | _ => .stuck
@[simp] theorem ap_k1_sRet  (p : W × Env) : k1_sRet p = match p.1 with | .dat d => .ok (.rt d, p.2) | .own i => match p.2[i]? with | some (.own d) => .ok (.rt d, p.2.set i (.dat d)) | _ => .stuck := rfl
@[simp] theorem ap_sRet (fa : EF) (E : Env) : sRet fa E = (fa E).bind k1_sRet := rfl
def k1_sIf (s1 : SF) (s2 : SF) : Bool × Env → Res (Fl × Env) := fun p => if p.1 = true then s1 p.2 else s2 p.2
@[simp] theorem ap_k1_sIf (s1 : SF) (s2 : SF) (p : Bool × Env) : k1_sIf s1 s2 p = if p.1 = true then s1 p.2 else s2 p.2 := rfl
@[simp] theorem ap_sIf (t : BF) (s1 : SF) (s2 : SF) (E : Env) : sIf t s1 s2 E = (t E).bind (k1_sIf s1 s2) := rfl
def k1_sSet (i : Nat) : W × Env → Res (Fl × Env) := fun p => match p.1 with | .dat d => .ok (.nx, p.2.set i (.dat d)) | .own _ => .stuck
@[simp] theorem ap_k1_sSet (i : Nat) (p : W × Env) : k1_sSet i p = match p.1 with | .dat d => .ok (.nx, p.2.set i (.dat d)) | .own _ => .stuck := rfl
@[simp] theorem ap_sSet (i : Nat) (fa : EF) (E : Env) : sSet i fa E = (fa E).bind (k1_sSet i) := rfl
def k1_sSetN (i : Nat) : D × Env → Res (Fl × Env) := fun p => if i < p.2.length then .ok (.nx, p.2.set i (.own p.1)) else .stuck
@[simp] theorem ap_k1_sSetN (i : Nat) (p : D × Env) : k1_sSetN i p = if i < p.2.length then .ok (.nx, p.2.set i (.own p.1)) else .stuck := rfl
@[simp] theorem ap_sSetN (i : Nat) (fn : NF) (E : Env) : sSetN i fn E = (fn E).bind (k1_sSetN i) := rfl
def k1_sFor (h : GF) (s1 : SF) : List D × Env → Res (Fl × Env) := fun p => forL h s1 p.1 p.2
@[simp] theorem ap_k1_sFor (h : GF) (s1 : SF) (p : List D × Env) : k1_sFor h s1 p = forL h s1 p.1 p.2 := rfl
@[simp] theorem ap_sFor (fi : IF) (h : GF) (s1 : SF) (E : Env) : sFor fi h s1 E = (fi E).bind (k1_sFor h s1) := rfl
def k5_eOM (i : Nat) (p : List W × Env) : D × List D → Res (W × Env) := fun r => .ok (.dat r.1, p.2.set i (.own (.lst r.2)))
def k4_eOM (i : Nat) (h : List D → List D → Option (D × List D)) (p : List W × Env) (es : List D) : List D → Res (W × Env) := fun ds => (ofO (h ds es)).bind (k5_eOM i p)
def k3_eOM (i : Nat) (h : List D → List D → Option (D × List D)) (p : List W × Env) : List D → Res (W × Env) := fun es => (ofO (ownL p.2 i)).bind (k4_eOM i h p es)
def k2_eOM (i : Nat) (h : List D → List D → Option (D × List D)) : List W × Env → Res (W × Env) := fun p => (ofO (dats p.1)).bind (k3_eOM i h p)
def k1_eOM (i : Nat) (h : List D → List D → Option (D × List D)) (fs : AF) (E : Env) : List D → Res (W × Env) := fun _ => (fs E).bind (k2_eOM i h)
@[simp] theorem ap_k5_eOM (i : Nat) (p : List W × Env) (r : D × List D) : k5_eOM i p r = .ok (.dat r.1, p.2.set i (.own (.lst r.2))) := rfl
@[simp] theorem ap_k4_eOM (i : Nat) (h : List D → List D → Option (D × List D)) (p : List W × Env) (es : List D) (ds : List D) : k4_eOM i h p es ds = (ofO (h ds es)).bind (k5_eOM i p) := rfl
@[simp] theorem ap_k3_eOM (i : Nat) (h : List D → List D → Option (D × List D)) (p : List W × Env) (es : List D) : k3_eOM i h p es = (ofO (ownL p.2 i)).bind (k4_eOM i h p es) := rfl
@[simp] theorem ap_k2_eOM (i : Nat) (h : List D → List D → Option (D × List D)) (p : List W × Env) : k2_eOM i h p = (ofO (dats p.1)).bind (k3_eOM i h p) := rfl
@[simp] theorem ap_k1_eOM (i : Nat) (h : List D → List D → Option (D × List D)) (fs : AF) (E : Env) (_z : List D) : k1_eOM i h fs E _z = (fs E).bind (k2_eOM i h) := rfl
@[simp] theorem ap_eOM (i : Nat) (h : List D → List D → Option (D × List D)) (fs : AF) (E : Env) : eOM i h fs E = (ofO (ownL E i)).bind (k1_eOM i h fs E) := rfl
def k1_sPar (is : List Nat) : List (Bool × D) × Env → Res (Fl × Env) := fun p => if p.1.length = is.length ∧ (is.all fun i => decide (i < p.2.length)) = true then .ok (.nx, setE is p.2 p.1) else .stuck
@[simp] theorem ap_k1_sPar (is : List Nat) (p : List (Bool × D) × Env) : k1_sPar is p = if p.1.length = is.length ∧ (is.all fun i => decide (i < p.2.length)) = true then .ok (.nx, setE is p.2 p.1) else .stuck := rfl
@[simp] theorem ap_sPar (is : List Nat) (l : List EN) (E : Env) : sPar is l E = (evN l E).bind (k1_sPar is) := rfl
def k2_eUpd (i : Nat) : D × Env → Res (W × Env) := fun p => updK i p
def k1_eUpd (i : Nat) (fn : NF) (E : Env) : List (Key × D) → Res (W × Env) := fun _ => (fn E).bind (k2_eUpd i)
@[simp] theorem ap_k2_eUpd (i : Nat) (p : D × Env) : k2_eUpd i p = updK i p := rfl
@[simp] theorem ap_k1_eUpd (i : Nat) (fn : NF) (E : Env) (_z : List (Key × D)) : k1_eUpd i fn E _z = (fn E).bind (k2_eUpd i) := rfl
@[simp] theorem ap_eUpd (i : Nat) (fn : NF) (E : Env) : eUpd i fn E = (ofO (ownK E i)).bind (k1_eUpd i fn E) := rfl
@[simp] theorem ap_k2_eM1s (h : D → List D → Option D) (fb : EF) (p : W × Env) (s : Str) : k2_eM1 h fb p (.str s) = (fb p.2).bind fun q => (rd q.2 q.1).bind fun y => (ofO (h (.str s) [y])).bind fun d => .ok (.dat d, q.2) := rfl
@[simp] theorem ap_k2_eM1d (h : D → List D → Option D) (fb : EF) (p : W × Env) (l : List Nat) : k2_eM1 h fb p (dS l) = (fb p.2).bind fun q => (rd q.2 q.1).bind fun y => (ofO (h (dS l) [y])).bind fun d => .ok (.dat d, q.2) := rfl
@[simp] theorem ap_k2_eM1c (h : D → List D → Option D) (fb : EF) (p : W × Env) (l : Nat) : k2_eM1 h fb p (dC l) = (fb p.2).bind fun q => (rd q.2 q.1).bind fun y => (ofO (h (dC l) [y])).bind fun d => .ok (.dat d, q.2) := rfl
@[simp] theorem ap_eC (d : D) (E : Env) : eC d E = .ok (.dat d, E) := rfl
@[simp] theorem ap_aN (E : Env) : aN E = .ok ([], E) := rfl
@[simp] theorem ap_nNil (E : Env) : nNil E = .ok (.lst [], E) := rfl
@[simp] theorem ap_oNo (E : Env) : oNo E = .ok (none, E) := rfl
@[simp] theorem ap_tYes (E : Env) : tYes' E = .ok (true, E) := rfl
@[simp] theorem ap_sNx (E : Env) : sNx E = .ok (.nx, E) := rfl
@[simp] theorem ap_evN0 (E : Env) : evN [] E = .ok ([], E) := rfl
def k2_evNe (d : D) : List (Bool × D) × Env → Res (List (Bool × D) × Env) := fun q => .ok ((false, d) :: q.1, q.2)
@[simp] theorem ap_k2_evNe (d : D) (q : List (Bool × D) × Env) : k2_evNe d q = .ok ((false, d) :: q.1, q.2) := rfl
def k1_evNe (r : List EN) : W × Env → Res (List (Bool × D) × Env) := fun p => (ofO (asDat p.1)).bind fun d => (evN r p.2).bind (k2_evNe d)
@[simp] theorem ap_k1_evNe (r : List EN) (d : D) (E : Env) : k1_evNe r (.dat d, E) = (evN r E).bind (k2_evNe d) := rfl
@[simp] theorem ap_evNe (f : EF) (r : List EN) (E : Env) : evN (.e f :: r) E = (f E).bind (k1_evNe r) := rfl
def k2_evNn (d : D) : List (Bool × D) × Env → Res (List (Bool × D) × Env) := fun q => .ok ((true, d) :: q.1, q.2)
@[simp] theorem ap_k2_evNn (d : D) (q : List (Bool × D) × Env) : k2_evNn d q = .ok ((true, d) :: q.1, q.2) := rfl
def k1_evNn (r : List EN) : D × Env → Res (List (Bool × D) × Env) := fun p => (evN r p.2).bind (k2_evNn p.1)
@[simp] theorem ap_k1_evNn (r : List EN) (p : D × Env) : k1_evNn r p = (evN r p.2).bind (k2_evNn p.1) := rfl
@[simp] theorem ap_evNn (f : NF) (r : List EN) (E : Env) : evN (.n f :: r) E = (f E).bind (k1_evNn r) := rfl
@[simp] theorem setE_own (i : Nat) (is : List Nat) (E : Env) (d : D) (ds : List (Bool × D)) : setE (i :: is) E ((true, d) :: ds) = setE is (E.set i (.own d)) ds := rfl
@[simp] theorem setE_dat (i : Nat) (is : List Nat) (E : Env) (d : D) (ds : List (Bool × D)) : setE (i :: is) E ((false, d) :: ds) = setE is (E.set i (.dat d)) ds := rfl
@[simp] theorem setE_nil (E : Env) (ds : List (Bool × D)) : setE [] E ds = E := rfl
@[simp] theorem kit_ss : kitB "str" "str" = some true := by decide +kernel
@[simp] theorem kit_tt : kitB "tuple" "tuple" = some true := by decide +kernel
@[simp] theorem ret_ok {d : D} {E : Env} : ret (.ok d) E = .ok (.dat d, E) := rfl
@[simp] theorem retK_ok {i : Nat} {a q : Addr} {d : D} {l : List Int} {b : Int} {E : Env} : retK i a q (.ok (d, ⟨l, b⟩)) E = .ok (.dat d, E.set i (.deck a q l b)) := rfl
@[simp] theorem noErr_ok {α : Type} (a : α) : noErr (.ok a) = .ok a := rfl
@[simp] theorem asB_bl (b : Bool) : asB (.bl b) = some b := rfl
@[simp] theorem asI_int (i : Int) : asI (.int i) = some i := rfl
@[simp] theorem asDat_dat (d : D) : asDat (.dat d) = some d := rfl
@[simp] theorem outF_rt (d : D) (E : Env) : outF (.ok (.rt d, E)) = .ok d := rfl
@[simp] theorem outF_nx (E : Env) : outF (.ok (.nx, E)) = .ok .non := rfl
@[simp] theorem dats_nil : dats [] = some [] := rfl
@[simp] theorem dats_cons (d : D) (ws : List W) : dats (.dat d :: ws) = (dats ws).map (d :: ·) := rfl
@[simp] theorem rds_nil (E : Env) : rds E [] = .ok [] := rfl
@[simp] theorem rds_dat (E : Env) (d : D) (ws : List W) : rds E (.dat d :: ws) = (rds E ws).bind fun ds => .ok (d :: ds) := rfl
@[simp] theorem sqD_str (x : Str) : sqD (.str x) = some (signs x) := rfl
@[simp] theorem sqD_lst (x : List D) : sqD (.lst x) = some x := rfl
@[simp] theorem sqD_tup (x : List D) : sqD (.tup x) = some x := rfl
@[simp] theorem bind_ite {α β : Type} {c : Prop} [Decidable c] {x y : Res α} {f : α → Res β} : (if c then x else y).bind f = if c then x.bind f else y.bind f := by
  split <;> rfl
end DL
namespace DL
open PySem PySem.Spec PyProof.Rows L2 TL
theorem compL_map {α : Type} {vs : List Nat} {g : GF} {fc : BF} {fe : EF} {E0 E : Env} (f : α → D) (E1 : α → Env) (p : α → Bool) (y : α → D) (l : List α) (h : ∀ a ∈ l, g (f a) (wipeE E vs) = some (E1 a) ∧ fc (E1 a) = .ok (p a, E1 a) ∧ (p a = true → fe (E1 a) = .ok (.dat (y a), E1 a)) ∧ backE E0 (E1 a) vs = E) (acc : List D) :
    compL vs g fc fe E0 (l.map f) acc E = .ok (.lst (acc ++ (l.filter p).map y), E) := by
  induction l generalizing acc with
  | nil => simp [compL]
  | cons d ds ih =>
    obtain ⟨h1, h2, h3, h4⟩ := h d List.mem_cons_self
    have ih := ih fun d hd => h d (List.mem_cons_of_mem _ hd)
    rw [List.map_cons, compL, h1]
    cases hp : p d with
    | false =>
      simp only [ofO_some, Res.ok_bind, h2, hp, noErr, if_neg Bool.false_ne_true, h4, ih, List.filter_cons]
    | true =>
      simp only [ofO_some, Res.ok_bind, h2, hp, noErr, if_pos, h3 hp, asDat, h4, ih, List.filter_cons, List.map_cons, List.append_assoc, List.singleton_append]
/-- .. with no test -/
theorem compL_all {α : Type} {vs : List Nat} {g : GF} {fe : EF} {E0 E : Env} (f : α → D) (E1 : α → Env) (y : α → D) (l : List α) (h : ∀ a ∈ l, g (f a) (wipeE E vs) = some (E1 a) ∧ fe (E1 a) = .ok (.dat (y a), E1 a) ∧ backE E0 (E1 a) vs = E) :
    compL vs g tYes' fe E0 (l.map f) [] E = .ok (.lst (l.map y), E) := by
  have z := compL_map (fc := tYes') f E1 (fun _ => true) y l (fun a ha => ⟨(h a ha).1, rfl, fun _ => (h a ha).2.1, (h a ha).2.2⟩) []
  rw [z, List.nil_append, List.filter_eq_self.mpr fun _ _ => rfl]
theorem zip_two {α β : Type} (f : α → D) (g : β → D) (a : List α) (b : List β) : (List.zip (a.map f) (b.map g)).map (fun p => D.tup [p.1, p.2]) = (List.zip a b).map fun p => .tup [f p.1, g p.2] := by
  rw [List.zip_map, List.map_map]; rfl
theorem sl_init {α : Type} (xs : List α) : (xs.drop (HT.sIx xs.length 0 none)).take (HT.sIx xs.length xs.length (some (-1)) - HT.sIx xs.length 0 none) = xs.dropLast := by
  have e0 : HT.sIx xs.length 0 none = 0 := rfl
  rw [e0, List.drop_zero, List.dropLast_eq_take]
  have e1 : HT.sIx xs.length xs.length (some (-1)) = xs.length - 1 := by
    unfold HT.sIx
    cases h : xs.length <;> simp <;> omega
  rw [e1]; simp
theorem sl_tail {α : Type} (xs : List α) : (xs.drop (HT.sIx xs.length 0 (some 1))).take (HT.sIx xs.length xs.length none - HT.sIx xs.length 0 (some 1)) = xs.tail := by
  have e0 : HT.sIx xs.length xs.length none = xs.length := rfl
  rw [e0]
  have e1 : HT.sIx xs.length 0 (some 1) = min 1 xs.length := by
    unfold HT.sIx
    cases h : xs.length <;> simp <;> omega
  rw [e1, ← List.drop_one]
  cases xs with
  | nil => rfl
  | cons a r => simp
@[simp] theorem gSl_init_str (l : List Nat) : gSl (.str (T l)) none (some (-1)) = some (.str (T l.dropLast)) := by
  have h := sl_init l
  show some (D.str (T ((l.drop (HT.sIx l.length 0 none)).take (HT.sIx l.length l.length (some (-1)) - HT.sIx l.length 0 none)))) = _
  rw [h]
@[simp] theorem gSl_tail_str (l : List Nat) : gSl (.str (T l)) (some 1) none = some (.str (T l.tail)) := by
  have h := sl_tail l
  show some (D.str (T ((l.drop (HT.sIx l.length 0 (some 1))).take (HT.sIx l.length l.length none - HT.sIx l.length 0 (some 1))))) = _
  rw [h]
@[simp] theorem gSl_init_tup (l : List D) : gSl (.tup l) none (some (-1)) = some (.tup l.dropLast) := congrArg (fun x => some (D.tup x)) (sl_init l)
@[simp] theorem gSl_tail_tup (l : List D) : gSl (.tup l) (some 1) none = some (.tup l.tail) := congrArg (fun x => some (D.tup x)) (sl_tail l)
theorem eqv_int (i j : Int) : PyData.eqv (.int i) (.int j) = decide (i = j) := by
  show (i == j) = _
  by_cases h : i = j
  · subst h; simp
  · rw [decide_eq_false h]; exact beq_eq_false_iff_ne.mpr h
@[simp] theorem gNe_int (i j : Int) : gNe (.int i) (.int j) = some (.bl (!decide (i = j))) := by
  show some (D.bl (!PyData.eqv (.int i) (.int j))) = _
  rw [eqv_int]
@[simp] theorem gEq_int (i j : Int) : gEq (.int i) (.int j) = some (.bl (decide (i = j))) := by
  show some (D.bl (PyData.eqv (.int i) (.int j))) = _
  rw [eqv_int]
theorem gNe_str (x y : Str) : gNe (.str x) (.str y) = some (.bl (!decide (x = y))) := by
  show some (D.bl (!PyData.eqv (.str x) (.str y))) = _
  rw [eqv_str]
theorem gEq_str (x y : Str) : gEq (.str x) (.str y) = some (.bl (decide (x = y))) := by
  show some (D.bl (PyData.eqv (.str x) (.str y))) = _
  rw [eqv_str]
@[simp] theorem gIx_2_0 (a b : D) : gIx (.tup [a, b]) (.int 0) = some a := rfl
@[simp] theorem gIx_2_1 (a b : D) : gIx (.tup [a, b]) (.int 1) = some b := rfl
@[simp] theorem gLen_tup (l : List D) : gLen [.tup l] = some (.int l.length) := rfl
@[simp] theorem gLen_lst (l : List D) : gLen [.lst l] = some (.int l.length) := rfl
@[simp] theorem gLen_str (l : List Nat) : gLen [.str (T l)] = some (.int l.length) := rfl
end DL
namespace DL
open PySem PySem.Spec PyProof.Rows L2 TL

theorem strsD_signs : ∀ l : List Nat, strsD (l.map dC) = some (l.map sgn)
  | [] => rfl
  | c :: l => by
    show (strsD (l.map dC)).map (sgn c :: ·) = _
    rw [strsD_signs l]; rfl
theorem join_signs : ∀ l : List Nat, Str.join (T []) (l.map sgn) = T l
  | [] => rfl
  | [c] => rfl
  | c :: d :: r => by
    have ih := join_signs (d :: r)
    show sgn c ++ T [] ++ Str.join (T []) ((d :: r).map sgn) = _
    rw [ih, sgn_T, T_app, T_app]; rfl
theorem sum_ones : ∀ l : List Nat, ((l.map sgn).map (·.length)).sum = l.length
  | [] => rfl
  | c :: l => by
    rw [List.map_cons, List.map_cons, List.sum_cons, sum_ones l, List.length_cons]
    show 1 + l.length = _
    omega
theorem gJoin_signs (l : List Nat) (h : l.length ≤ 16777216) : gJoin (.str "") [.lst (l.map dC)] = some (dS l) := by
  show ((strsD (l.map dC)).bind fun ys => if (ys.map (·.length)).sum + ys.length * (T []).length ≤ 16777216 then some (D.str (Str.join (T []) ys)) else none) = _
  rw [strsD_signs]
  show (if ((l.map sgn).map (·.length)).sum + (l.map sgn).length * 0 ≤ 16777216 then some (D.str (Str.join (T []) (l.map sgn))) else none) = _
  rw [sum_ones, if_pos (by omega), join_signs]; rfl
theorem dataLt_sgn (a b : Nat) : PySem.W.dataLt (dC a).py (dC b).py = decide (a < b) := by
  show PySem.W.dataLt (.str (sgn a)) (.str (sgn b)) = _
  rw [PySem.W.dataLt_str]
  show decide ([a] < [b]) = _
  by_cases hab : a < b
  · rw [decide_eq_true hab, decide_eq_true (by exact List.Lex.rel hab)]
  · rw [decide_eq_false hab, decide_eq_false]
    intro z
    cases z with
    | rel q => exact hab q
    | cons q => cases q
end DL
namespace DL
open PySem PySem.Spec PyProof.Rows L2 TL

def Ok {α : Type} (r : Res α) (Q : α → Prop) : Prop := ∃ a, r = .ok a ∧ Q a
section
variable {α β : Type} {r : Res α} {a : α} {f : α → Res β} {P Q : α → Prop} {R : β → Prop}
theorem Ok.ok (h : Q a) : Ok (.ok a) Q := ⟨a, rfl, h⟩
theorem Ok.of (e : r = .ok a) (h : Q a) : Ok r Q := ⟨a, e, h⟩
theorem Ok.bind (h : Ok r fun a => Ok (f a) R) : Ok (r.bind f) R := by
  obtain ⟨a, e, b, e2, q⟩ := h
  exact ⟨b, by rw [e]; exact e2, q⟩
theorem Ok.bindE (e : r = .ok a) (h : Ok (f a) R) : Ok (r.bind f) R := by
  rw [e]; exact h
theorem Ok.mono (h : Ok r P) (i : ∀ a, P a → Q a) : Ok r Q := by
  obtain ⟨a, e, p⟩ := h
  exact ⟨a, e, i a p⟩
/-- with what is wanted behind a name -/
theorem Ok.cps (h : ∀ P : α → Prop, (∀ a, Q a → P a) → Ok r P) : Ok r Q := h Q fun _ h => h
@[simp] theorem Ok_ok : Ok (.ok a) Q ↔ Q a := ⟨fun ⟨b, e, q⟩ => by cases e; exact q, Ok.ok⟩
end
section
variable {α : Type} {E E' E1 : Env} {t : BF} {s1 s2 body : SF} {fi : IF} {g : GF} {Q : Fl × Env → Prop} {b : Bool}
theorem seq_eq (h1 : s1 E = .ok (.nx, E')) (h2 : Ok (s2 E') Q) : Ok (sSeq s1 s2 E) Q := by
  rw [ap_sSeq, h1]; exact h2
theorem seq_ok (h1 : Ok (s1 E) fun p => p.1 = .nx ∧ Ok (s2 p.2) Q) : Ok (sSeq s1 s2 E) Q := by
  obtain ⟨⟨f, E'⟩, e, rfl, h⟩ := h1
  rw [ap_sSeq, e]; exact h
/-- a loop over a list by what holds ahead of each item -/
theorem forL_ok (f : α → D) (Iv : List α → Env → Prop) (l : List α) (h0 : Iv l E)
    (step : ∀ a r E, Iv (a :: r) E → ∃ E1, g (f a) E = some E1 ∧ Ok (body E1) fun p => (p.1 = .nx ∨ p.1 = .ct) ∧ Iv r p.2)
    (fin : ∀ E, Iv [] E → Q (.nx, E)) : Ok (forL g body (l.map f) E) Q := by
  induction l generalizing E with
  | nil => exact Ok.ok (fin E h0)
  | cons a r ih =>
    obtain ⟨E1, e1, ⟨fl, E2⟩, e2, h, i⟩ := step a r E h0
    rw [List.map_cons, forL, e1]
    show Ok ((body E1).bind _) Q
    rw [e2]
    rcases h with h | h <;> (dsimp only at h; subst h; exact ih i)
/-- .. by what holds throughout -/
theorem forL_all (f : α → D) (I : Env → Prop) (l : List α) (h0 : I E)
    (step : ∀ a ∈ l, ∀ E, I E → ∃ E1, g (f a) E = some E1 ∧ Ok (body E1) fun p => (p.1 = .nx ∨ p.1 = .ct) ∧ I p.2)
    (fin : ∀ E, I E → Q (.nx, E)) : Ok (forL g body (l.map f) E) Q :=
  forL_ok f (fun r E => (∀ a ∈ r, a ∈ l) ∧ I E) l ⟨fun _ h => h, h0⟩ (fun a r E h => by
    obtain ⟨E1, e1, o⟩ := step a (h.1 a List.mem_cons_self) E h.2
    exact ⟨E1, e1, o.mono fun p h2 => ⟨h2.1, fun x hx => h.1 x (List.mem_cons_of_mem _ hx), h2.2⟩⟩) fun E h => fin E h.2
end
section
variable {α : Type} {E E' E1 : Env} {t : BF} {s1 s2 body : SF} {fi : IF} {g : GF} {Q : Fl × Env → Prop} {b : Bool}
theorem for_ok (f : α → D) (Iv : List α → Env → Prop) (l : List α) (e : fi E = .ok (l.map f, E')) (h0 : Iv l E')
    (step : ∀ a r E, Iv (a :: r) E → ∃ E1, g (f a) E = some E1 ∧ Ok (body E1) fun p => (p.1 = .nx ∨ p.1 = .ct) ∧ Iv r p.2)
    (fin : ∀ E, Iv [] E → Q (.nx, E)) : Ok (sFor fi g body E) Q := by
  rw [ap_sFor, e]; exact forL_ok f Iv l h0 step fin
theorem for_all (f : α → D) (I : Env → Prop) (l : List α) (e : fi E = .ok (l.map f, E')) (h0 : I E')
    (step : ∀ a ∈ l, ∀ E, I E → ∃ E1, g (f a) E = some E1 ∧ Ok (body E1) fun p => (p.1 = .nx ∨ p.1 = .ct) ∧ I p.2)
    (fin : ∀ E, I E → Q (.nx, E)) : Ok (sFor fi g body E) Q := by
  rw [ap_sFor, e]; exact forL_all f I l h0 step fin
theorem seq_for (f : α → D) (Iv : List α → Env → Prop) (l : List α) (e : fi E = .ok (l.map f, E')) (h0 : Iv l E')
    (step : ∀ a r E, Iv (a :: r) E → ∃ E1, g (f a) E = some E1 ∧ Ok (body E1) fun p => (p.1 = .nx ∨ p.1 = .ct) ∧ Iv r p.2)
    (fin : ∀ E, Iv [] E → Ok (s2 E) Q) : Ok (sSeq (sFor fi g body) s2 E) Q :=
  seq_ok (for_ok f Iv l e h0 step fun E h => ⟨rfl, fin E h⟩)
theorem seq_all (f : α → D) (I : Env → Prop) (l : List α) (e : fi E = .ok (l.map f, E')) (h0 : I E')
    (step : ∀ a ∈ l, ∀ E, I E → ∃ E1, g (f a) E = some E1 ∧ Ok (body E1) fun p => (p.1 = .nx ∨ p.1 = .ct) ∧ I p.2)
    (fin : ∀ E, I E → Ok (s2 E) Q) : Ok (sSeq (sFor fi g body) s2 E) Q :=
  seq_ok (for_all f I l e h0 step fun E h => ⟨rfl, fin E h⟩)
end
/-- a loop that may return -/
def foldE {σ α : Type} (st : σ → α → D ⊕ σ) : σ → List α → D ⊕ σ
  | s, [] => .inr s
  | s, a :: r => match st s a with
    | .inl d => .inl d
    | .inr s' => foldE st s' r
section
variable {α σ : Type} {E E' E1 : Env} {s1 s2 body : SF} {fi : IF} {g : GF} {Q : Fl × Env → Prop}
end
section
variable {α : Type} {vs : List Nat} {g : GF} {fc : BF} {fe : EF} {E0 E : Env} {Q : D × Env → Prop}
theorem compL_ok (f : α → D) (Iv : List α → List D → Env → Prop) (l : List α) (acc : List D) (h0 : Iv l acc E)
    (step : ∀ a r acc E, Iv (a :: r) acc E → ∃ E1, g (f a) (wipeE E vs) = some E1 ∧ Ok (fc E1) fun p => if p.1 = true then Ok (fe p.2) fun q => ∃ y, q.1 = .dat y ∧ Iv r (acc ++ [y]) (backE E0 q.2 vs) else Iv r acc (backE E0 p.2 vs))
    (fin : ∀ acc E, Iv [] acc E → Q (.lst acc, E)) : Ok (compL vs g fc fe E0 (l.map f) acc E) Q := by
  induction l generalizing acc E with
  | nil => exact Ok.ok (fin _ _ h0)
  | cons a r ih =>
    obtain ⟨E1, e1, ⟨b, E2⟩, e2, h⟩ := step a r acc E h0
    rw [List.map_cons, compL, e1]
    show Ok ((noErr (fc E1)).bind _) Q
    rw [e2]
    dsimp only at h
    cases b with
    | false => exact ih _ h
    | true =>
      rw [if_pos rfl] at h
      obtain ⟨⟨w, E3⟩, e3, y, hw, i⟩ := h
      dsimp only at hw
      subst hw
      show Ok ((noErr (fe E2)).bind _) Q
      rw [e3]
      exact ih _ i
/-- a comprehension that hands on some of the items: all of these are so (Pp), all that must be are there (Mm) -/
theorem compL_subM (f : α → D) (I : Env → Prop) (Pp Mm : α → Prop) (l : List α) (h0 : I E)
    (step : ∀ a ∈ l, ∀ E, I E → ∃ E1, g (f a) (wipeE E vs) = some E1 ∧ Ok (fc E1) fun p => I (backE E0 p.2 vs) ∧ (p.1 = true → fe p.2 = .ok (.dat (f a), p.2) ∧ Pp a) ∧ (p.1 = false → ¬ Mm a))
    (fin : ∀ (r : List α) E, r.Sublist l → (∀ a ∈ r, Pp a) → (∀ a ∈ l, Mm a → a ∈ r) → I E → Q (.lst (r.map f), E)) : Ok (compL vs g fc fe E0 (l.map f) [] E) Q := by
  refine compL_ok f (fun r acc E => (∃ d e, acc = d.map f ∧ l = e ++ r ∧ d.Sublist e ∧ (∀ a ∈ d, Pp a) ∧ ∀ a ∈ e, Mm a → a ∈ d) ∧ I E) l [] ⟨⟨[], [], rfl, rfl, List.Sublist.refl _, fun _ h => (by cases h), fun _ h => (by cases h)⟩, h0⟩ (fun a r acc E h => ?_) fun acc E h => ?_
  · obtain ⟨⟨d, e, rfl, hl, hs, hd, hM⟩, hi⟩ := h
    obtain ⟨E1, e1, o⟩ := step a (by rw [hl]; simp) E hi
    refine ⟨E1, e1, o.mono fun p h2 => ?_⟩
    obtain ⟨h2, h3, h5⟩ := h2
    by_cases hb : p.1 = true
    · rw [if_pos hb]
      obtain ⟨h3, h4⟩ := h3 hb
      refine Ok.of h3 ⟨_, rfl, ⟨d ++ [a], e ++ [a], by simp, by simpa using hl, hs.append (List.Sublist.refl _), fun x hx => ?_, fun x hx hm => ?_⟩, h2⟩
      · rcases List.mem_append.mp hx with z | z
        · exact hd x z
        · rw [List.mem_singleton.mp z]; exact h4
      · rcases List.mem_append.mp hx with z | z
        · exact List.mem_append_left _ (hM x z hm)
        · exact List.mem_append_right _ z
    · rw [if_neg hb]
      refine ⟨⟨d, e ++ [a], rfl, by simpa using hl, hs.trans (List.sublist_append_left _ _), hd, fun x hx hm => ?_⟩, h2⟩
      rcases List.mem_append.mp hx with z | z
      · exact hM x z hm
      · rw [List.mem_singleton.mp z] at hm
        exact absurd hm (h5 (by simpa using hb))
  · obtain ⟨⟨d, e, rfl, hl, hs, hd, hM⟩, hi⟩ := h
    rw [List.append_nil] at hl
    subst hl
    exact fin d E hs hd hM hi
/-- .. -/
theorem compL_sub (f : α → D) (I : Env → Prop) (Pp : α → Prop) (l : List α) (h0 : I E)
    (step : ∀ a ∈ l, ∀ E, I E → ∃ E1, g (f a) (wipeE E vs) = some E1 ∧ Ok (fc E1) fun p => I (backE E0 p.2 vs) ∧ (p.1 = true → fe p.2 = .ok (.dat (f a), p.2) ∧ Pp a))
    (fin : ∀ (r : List α) E, r.Sublist l → (∀ a ∈ r, Pp a) → I E → Q (.lst (r.map f), E)) : Ok (compL vs g fc fe E0 (l.map f) [] E) Q :=
  compL_subM f I Pp (fun _ => False) l h0 (fun a ha E h => by
    obtain ⟨E1, e1, o⟩ := step a ha E h
    exact ⟨E1, e1, o.mono fun p h => ⟨h.1, h.2, fun _ z => z⟩⟩) fun r E h1 h2 _ h4 => fin r E h1 h2 h4
end
theorem runK_ok {fb : SF} {n : Nat} {a q : Addr} {l : List Int} {b : Int} {ds : List D} {R : D → List Int → Int → Prop}
    (h : Ok (fb (.deck a q l b :: ds.map .dat ++ nos n)) fun p => ∃ d l' b' E, p = (.rt d, .deck a q l' b' :: E) ∧ R d l' b') : ∃ d l' b', runK fb n a q ⟨l, b⟩ ds = .ok (d, ⟨l', b'⟩) ∧ R d l' b' := by
  obtain ⟨p, e, d, l', b', E, rfl, r⟩ := h
  refine ⟨d, l', b', ?_, r⟩
  unfold runK
  rw [e]
  show outD a q d (.deck a q l' b' :: E) = _
  unfold outD deckOf
  simp
theorem runK_eq {fb : SF} {n : Nat} {a q : Addr} {l l' : List Int} {b b' : Int} {ds : List D} {d : D} {E : Env} (h : fb (.deck a q l b :: ds.map .dat ++ nos n) = .ok (.rt d, .deck a q l' b' :: E)) : runK fb n a q ⟨l, b⟩ ds = .ok (d, ⟨l', b'⟩) := by
  unfold runK
  rw [h]
  show outD a q d (.deck a q l' b' :: E) = _
  unfold outD deckOf
  simp
theorem Ok_bind {α β : Type} {r : Res α} {f : α → Res β} {R : β → Prop} : Ok (r.bind f) R ↔ Ok r fun a => Ok (f a) R := by
  refine ⟨fun ⟨b, e, h⟩ => ?_, Ok.bind⟩
  cases r with
  | ok a => exact ⟨a, rfl, b, e, h⟩
  | err _ _ => cases e
  | stuck => cases e
theorem runP_ok {fb : SF} {n : Nat} {ds : List D} {d : D} (h : Ok (fb (ds.map .dat ++ nos n)) fun p => p.1 = .rt d) : noErr (runP fb n ds) = .ok d := by
  obtain ⟨⟨f, E⟩, e, h⟩ := h
  dsimp only at h
  subst h
  unfold runP
  rw [e]; rfl
end DL
namespace DL
open PySem PySem.Spec PyProof.Rows L2 TL

/-- plain, of this depth, equal just if the same -/
structure Enc {α : Type} [DecidableEq α] (f : α → D) (n : Nat) : Prop where
  plain : ∀ a, (f a).plain = true
  eq : ∀ a b, PyData.eqv (f a).py (f b).py = decide (a = b)
  dep : ∀ a, (f a).py.depth ≤ n
section
variable {α β : Type} [DecidableEq α] [DecidableEq β] {f : α → D} {g : β → D} {n m : Nat}
theorem Enc.str : Enc D.str 0 := ⟨fun _ => rfl, eqv_str, fun _ => Nat.le_refl _⟩
theorem Enc.int : Enc D.int 0 := ⟨fun _ => rfl, eqv_int, fun _ => Nat.le_refl _⟩
theorem Enc.dS : Enc dS 0 := ⟨fun _ => rfl, fun a b => by
  show PyData.eqv (.str (T a)) (.str (T b)) = _
  rw [eqv_str]
  exact decide_eq_decide.mpr T_inj, fun _ => Nat.le_refl _⟩
theorem Enc.dC : Enc dC 0 := ⟨fun _ => rfl, fun a b => by
  show PyData.eqv (.str (T [a])) (.str (T [b])) = _
  rw [eqv_str]
  refine decide_eq_decide.mpr (T_inj.trans ?_)
  simp, fun _ => Nat.le_refl _⟩
theorem Enc.of {γ : Type} [DecidableEq γ] (e : Enc f n) (h : γ → α) (inj : ∀ a b, h a = h b → a = b) : Enc (fun c => f (h c)) n := ⟨fun _ => e.plain _, fun a b => by
  rw [e.eq]
  exact decide_eq_decide.mpr ⟨inj a b, congrArg h⟩, fun _ => e.dep _⟩
theorem Enc.nat : Enc (fun i : Nat => D.int i) 0 := Enc.of Enc.int (fun i : Nat => (i : Int)) fun a b h => by omega
theorem Enc.plainL (e : Enc f n) : ∀ l : List α, plainL (l.map f) = true
  | [] => rfl
  | a :: l => by
    show ((f a).plain && DL.plainL (l.map f)) = true
    rw [e.plain, e.plainL l]; rfl
theorem Enc.eqvAll (e : Enc f n) : ∀ a b : List α, PyData.eqvAll (pyL (a.map f)) (pyL (b.map f)) = decide (a = b)
  | [], [] => rfl
  | x :: a, [] => rfl
  | [], y :: b => rfl
  | x :: a, y :: b => by
    show (PyData.eqv (f x).py (f y).py && PyData.eqvAll (pyL (a.map f)) (pyL (b.map f))) = _
    rw [e.eq, e.eqvAll a b, ← Bool.decide_and]
    exact decide_eq_decide.mpr (by simp)
theorem Enc.depL (e : Enc f n) : ∀ l : List α, PyData.depthAll (pyL (l.map f)) ≤ n
  | [] => Nat.zero_le _
  | a :: l => Nat.max_le.mpr ⟨e.dep a, e.depL l⟩
theorem Enc.lst (e : Enc f n) : Enc (fun l : List α => D.lst (l.map f)) (n + 1) := ⟨fun l => e.plainL l, fun a b => e.eqvAll a b, fun l => Nat.succ_le_succ (e.depL l)⟩
theorem Enc.tup (e : Enc f n) : Enc (fun l : List α => D.tup (l.map f)) (n + 1) := ⟨fun l => e.plainL l, fun a b => e.eqvAll a b, fun l => Nat.succ_le_succ (e.depL l)⟩
theorem Enc.gEq (e : Enc f n) (a b : α) (hn : n ≤ 60 := by decide) : gEq (f a) (f b) = some (.bl (decide (a = b))) := by
  unfold DL.gEq okCmp
  rw [e.plain, e.plain, e.eq, if_pos]
  rw [Bool.and_self, Bool.true_and, decide_eq_true_eq]
  have h := e.dep a
  omega
theorem Enc.gNe (e : Enc f n) (a b : α) (hn : n ≤ 60 := by decide) : gNe (f a) (f b) = some (.bl (!decide (a = b))) := by
  unfold DL.gNe okCmp
  rw [e.plain, e.plain, e.eq, if_pos]
  rw [Bool.and_self, Bool.true_and, decide_eq_true_eq]
  have h := e.dep a
  omega
theorem Enc.any (e : Enc f n) (a : α) : ∀ l : List α, ((pyL (l.map f)).any fun y => PyData.eqv y (f a).py) = decide (a ∈ l)
  | [] => rfl
  | x :: l => by
    show (PyData.eqv (f x).py (f a).py || (pyL (l.map f)).any fun y => PyData.eqv y (f a).py) = _
    rw [e.eq, e.any a l, ← Bool.decide_or]
    refine decide_eq_decide.mpr ?_
    rw [List.mem_cons, eq_comm]
theorem gInQ_lst (neg : Bool) (ds : List D) : ∀ d : D, gInQ neg d (.lst ds) = if (d.plain && DL.plainL ds && decide (min (PyData.depthAll (pyL ds)) d.py.depth ≤ 60)) = true then some (.bl (if neg then !((pyL ds).any fun y => PyData.eqv y d.py) else (pyL ds).any fun y => PyData.eqv y d.py)) else none
  | .non => rfl | .bl _ => rfl | .int _ => rfl | .str _ => rfl | .lst _ => rfl | .tup _ => rfl | .dic _ => rfl | .dit _ => rfl | .dix _ _ => rfl | .obj _ _ => rfl
theorem gInQ_tup (neg : Bool) (ds : List D) : ∀ d : D, gInQ neg d (.tup ds) = if (d.plain && DL.plainL ds && decide (min (PyData.depthAll (pyL ds)) d.py.depth ≤ 60)) = true then some (.bl (if neg then !((pyL ds).any fun y => PyData.eqv y d.py) else (pyL ds).any fun y => PyData.eqv y d.py)) else none
  | .non => rfl | .bl _ => rfl | .int _ => rfl | .str _ => rfl | .lst _ => rfl | .tup _ => rfl | .dic _ => rfl | .dit _ => rfl | .dix _ _ => rfl | .obj _ _ => rfl
theorem Enc.gIn_lst (e : Enc f n) (neg : Bool) (a : α) (l : List α) (hn : n ≤ 60 := by decide) : gInQ neg (f a) (.lst (l.map f)) = some (.bl (if neg then !decide (a ∈ l) else decide (a ∈ l))) := by
  rw [gInQ_lst, e.plain, e.plainL, e.any, if_pos]
  rw [Bool.and_self, Bool.true_and, decide_eq_true_eq]
  have h := e.dep a
  omega
theorem Enc.gIn_tup (e : Enc f n) (neg : Bool) (a : α) (l : List α) (hn : n ≤ 60 := by decide) : gInQ neg (f a) (.tup (l.map f)) = some (.bl (if neg then !decide (a ∈ l) else decide (a ∈ l))) := by
  rw [gInQ_tup, e.plain, e.plainL, e.any, if_pos]
  rw [Bool.and_self, Bool.true_and, decide_eq_true_eq]
  have h := e.dep a
  omega
/-- a list against the empty one -/
theorem gEq_nil {l : List D} (h : DL.plainL l = true) : DL.gEq (.lst l) (.lst []) = some (.bl l.isEmpty) := by
  unfold DL.gEq okCmp
  rw [if_pos]
  · cases l <;> rfl
  · have : min (D.lst l).py.depth (D.lst []).py.depth ≤ 60 := Nat.le_trans (Nat.min_le_right _ _) (by decide)
    rw [decide_eq_true this]
    show (DL.plainL l && true && true) = true
    rw [h]; rfl
theorem gNe_nil {l : List D} (h : DL.plainL l = true) : DL.gNe (.lst l) (.lst []) = some (.bl (!l.isEmpty)) := by
  unfold DL.gNe okCmp
  rw [if_pos]
  · cases l <;> rfl
  · have : min (D.lst l).py.depth (D.lst []).py.depth ≤ 60 := Nat.le_trans (Nat.min_le_right _ _) (by decide)
    rw [decide_eq_true this]
    show (DL.plainL l && true && true) = true
    rw [h]; rfl
end
theorem atI_nat {α : Type} (xs : List α) (i : Nat) : atI xs (i : Int) = xs[i]? := by
  unfold atI ixN
  rw [if_pos (Int.natCast_nonneg i)]
  by_cases h : i < xs.length
  · rw [if_pos (by omega)]; rfl
  · rw [if_neg (by omega), List.getElem?_eq_none (by omega)]; rfl
theorem gIx_tup_nat (l : List D) (i : Nat) : gIx (.tup l) (.int i) = l[i]? := atI_nat l i
theorem gIx_lst_nat (l : List D) (i : Nat) : gIx (.lst l) (.int i) = l[i]? := atI_nat l i
theorem gIx_str_nat (l : List Nat) (i : Nat) : gIx (dS l) (.int i) = (l[i]?).map dC := by
  show ((atI l i).map fun c => D.str (sgn c)) = _
  rw [atI_nat]; rfl
structure Shw (d : D) (n m : Nat) : Prop where
  plain : d.plain = true
  short : d.py.leavesShort 700 = true
  show_ : d.py.showable = true
  bulk : d.py.bulk ≤ n
  dep : d.py.depth ≤ m
structure Shws (d : List D) (n m : Nat) : Prop where
  plain : plainL d = true
  short : PyData.leavesShortAll 700 (pyL d) = true
  show_ : PyData.showableAll (pyL d) = true
  bulk : PyData.bulkAll (pyL d) ≤ n
  dep : PyData.depthAll (pyL d) ≤ m
theorem Shw.str {l : List Nat} {n : Nat} (h : ∀ c ∈ l, c < 1114112) (hn : l.length ≤ n) : Shw (dS l) n 0 := ⟨rfl, by
  show (l.all fun c => decide (c < 16 ^ 8)) = true
  rw [List.all_eq_true]
  intro c hc
  have := h c hc
  exact decide_eq_true (by omega), rfl, hn, Nat.le_refl _⟩
theorem Shw.bl (b : Bool) : Shw (.bl b) 0 0 := ⟨rfl, rfl, rfl, Nat.le_refl _, Nat.le_refl _⟩
theorem Shw.non : Shw .non 0 0 := ⟨rfl, rfl, rfl, Nat.le_refl _, Nat.le_refl _⟩
/-- an int of at most 100 digits -/
def I100 (i : Int) : Prop := i.natAbs < 10 ^ 100
theorem Shw.int {i : Int} (h : I100 i) : Shw (.int i) 0 0 := ⟨rfl, by
    have e := int_text_length_le10 (k := 100) (by decide) h
    show decide ((Str.ofString (toString i)).length ≤ 700) = true
    rw [PySem.ofString_length]
    exact decide_eq_true (by omega), by
    show decide (i.natAbs.log2 < 1920) = true
    refine decide_eq_true ?_
    by_cases hz : i.natAbs = 0
    · rw [hz]; decide
    · rw [Nat.log2_lt hz]
      have : (10 : Nat) ^ 100 < 2 ^ 1920 := by decide +kernel
      exact Nat.lt_trans h this, Nat.le_refl _, Nat.le_refl _⟩
theorem I100.nat {i : Nat} (h : i < 1000000) : I100 (i : Int) := by
  show (i : Int).natAbs < 10 ^ 100
  have e : (i : Int).natAbs = i := rfl
  rw [e]
  exact Nat.lt_trans h (by decide +kernel)
theorem Shw.nat {i : Nat} (h : i < 1000000) : Shw (.int (i : Int)) 0 0 := Shw.int (I100.nat h)
theorem Shws.nil : Shws [] 0 0 := ⟨rfl, rfl, rfl, Nat.le_refl _, Nat.le_refl _⟩
theorem Shws.cons {d : D} {ds : List D} {n m n' m' : Nat} (h : Shw d n m) (h' : Shws ds n' m') : Shws (d :: ds) (n + 1 + n') (max m m') := ⟨by
    show (d.plain && plainL ds) = true
    rw [h.plain, h'.plain]; rfl, by
    show (PyData.leavesShort 700 d.py && PyData.leavesShortAll 700 (pyL ds)) = true
    rw [h.short, h'.short]; rfl, by
    show (PyData.showable d.py && PyData.showableAll (pyL ds)) = true
    rw [h.show_, h'.show_]; rfl, by
    show d.py.bulk + 1 + PyData.bulkAll (pyL ds) ≤ _
    have := h.bulk
    have := h'.bulk
    omega, by
    show max d.py.depth (PyData.depthAll (pyL ds)) ≤ _
    have := h.dep
    have := h'.dep
    omega⟩
theorem Shws.map {α : Type} {f : α → D} {n m : Nat} : ∀ {l : List α}, (∀ a ∈ l, Shw (f a) n m) → Shws (l.map f) (l.length * (n + 1)) m
  | [], _ => ⟨rfl, rfl, rfl, Nat.zero_le _, Nat.zero_le _⟩
  | a :: l, h => by
    have h1 := Shws.cons (h a List.mem_cons_self) (Shws.map (l := l) fun b hb => h b (List.mem_cons_of_mem _ hb))
    refine ⟨h1.plain, h1.short, h1.show_, Nat.le_trans h1.bulk ?_, Nat.le_trans h1.dep (by omega)⟩
    rw [List.length_cons, Nat.succ_mul]
    omega
theorem Shws.lst {ds : List D} {n m : Nat} (h : Shws ds n m) : Shw (.lst ds) n (m + 1) := ⟨h.plain, h.short, h.show_, h.bulk, Nat.succ_le_succ h.dep⟩
theorem Shws.tup {ds : List D} {n m : Nat} (h : Shws ds n m) : Shw (.tup ds) n (m + 1) := ⟨h.plain, h.short, h.show_, h.bulk, Nat.succ_le_succ h.dep⟩
theorem Shw.le {d : D} {n m n' m' : Nat} (h : Shw d n m) (hn : n ≤ n') (hm : m ≤ m') : Shw d n' m' := ⟨h.plain, h.short, h.show_, Nat.le_trans h.bulk hn, Nat.le_trans h.dep hm⟩
theorem Shw.repr {d : D} {n m : Nat} (h : Shw d n m) (hn : n ≤ 20000) (hm : m ≤ 60) : gRepr [d] = some (.str d.py.shown) := by
  have h1 := PyData.shown_le_bulk 700 (by decide) d.py h.short
  have hb := h.bulk
  have hd := h.dep
  have h2 : d.py.shown.length ≤ sizeLine := by
    have : sizeLine = 16777216 := rfl
    omega
  show (if okShow d = true then some (D.str d.py.shown) else none) = _
  rw [if_pos]
  unfold okShow
  rw [h.plain, h.show_, decide_eq_true h2, decide_eq_true (show d.py.depth ≤ 60 by omega)]
  rfl
mutual
theorem eqv_refl : ∀ d : D, d.plain = true → PyData.eqv d.py d.py = true
  | .non, _ => rfl
  | .bl b, _ => by show (b == b) = true; exact beq_self_eq_true b
  | .int i, _ => by show (i == i) = true; exact beq_self_eq_true i
  | .str x, _ => by rw [D.py, eqv_str]; simp
  | .lst l, h => eqvAll_refl l h
  | .tup l, h => eqvAll_refl l h
  | .dic _, h => by cases h
  | .dit _, h => by cases h
  | .dix _ _, h => by cases h
  | .obj _ _, h => by cases h
theorem eqvAll_refl : ∀ l : List D, plainL l = true → PyData.eqvAll (pyL l) (pyL l) = true
  | [], _ => rfl
  | d :: l, h => by
    have h : (d.plain && plainL l) = true := h
    rw [Bool.and_eq_true] at h
    show (PyData.eqv d.py d.py && PyData.eqvAll (pyL l) (pyL l)) = true
    rw [eqv_refl d h.1, eqvAll_refl l h.2]; rfl
end
theorem Shw.gEq {d : D} {n m : Nat} (h : Shw d n m) (hm : m ≤ 60) : gEq d d = some (.bl true) := by
  have := h.dep
  unfold DL.gEq okCmp
  rw [h.plain, eqv_refl d h.plain, if_pos]
  rw [Bool.and_self, Bool.true_and, decide_eq_true_eq]; omega
theorem Shw.gNe {d : D} {n m : Nat} (h : Shw d n m) (hm : m ≤ 60) : gNe d d = some (.bl false) := by
  have := h.dep
  unfold DL.gNe okCmp
  rw [h.plain, eqv_refl d h.plain, if_pos]
  · rfl
  rw [Bool.and_self, Bool.true_and, decide_eq_true_eq]; omega
theorem gNe_same (x : Str) : gNe (.str x) (.str x) = some (.bl false) := by
  rw [gNe_str, decide_eq_true rfl]; rfl
theorem dats_app : ∀ (l : List D) (ws : List W), dats (l.map W.dat ++ ws) = (dats ws).map (l ++ ·)
  | [], ws => by simp
  | d :: l, ws => by
    show (dats (l.map W.dat ++ ws)).map (d :: ·) = _
    rw [dats_app l ws]
    cases dats ws <;> rfl
theorem small_ok {l : List D} {r : Option D} (h : l.length ≤ 1000) : small l r = r := if_pos h
end DL
namespace DL
open PySem PySem.Spec PyProof.Rows L2 TL
structure Ordr {α : Type} (lt : α → α → Bool) : Prop where
  irr : ∀ a, lt a a = false
  tr : ∀ a b c, lt a b = true → lt b c = true → lt a c = true
  tri : ∀ a b, lt a b = true ∨ a = b ∨ lt b a = true
section
variable {α β : Type} {lt : α → α → Bool} {lt2 : β → β → Bool}
theorem Ordr.asym (o : Ordr lt) {a b : α} (h : lt a b = true) : lt b a = false := by
  cases e : lt b a with
  | false => rfl
  | true => have := o.tr a b a h e; rw [o.irr] at this; cases this
theorem Ordr.ne (o : Ordr lt) {a b : α} (h : lt a b = true) : a ≠ b := fun e => by rw [e, o.irr] at h; cases h
def leB (lt : α → α → Bool) (a b : α) : Bool := !lt b a
theorem Ordr.letr (o : Ordr lt) (a b c : α) (h1 : leB lt a b = true) (h2 : leB lt b c = true) : leB lt a c = true := by
  unfold leB at *
  rw [Bool.not_eq_true'] at *
  cases e : lt c a with
  | false => rfl
  | true =>
    rcases o.tri b c with q | q | q
    · rw [o.tr b c a q e] at h1; cases h1
    · rw [q, e] at h1; cases h1
    · rw [q] at h2; cases h2
theorem Ordr.letot (o : Ordr lt) (a b : α) : (leB lt a b || leB lt b a) = true := by
  unfold leB
  cases e : lt b a with
  | false => rfl
  | true => rw [o.asym e]; rfl
theorem Ordr.leanti (o : Ordr lt) {a b : α} (h1 : leB lt a b = true) (h2 : leB lt b a = true) : a = b := by
  unfold leB at *
  rw [Bool.not_eq_true'] at *
  rcases o.tri a b with q | q | q
  · rw [q] at h2; cases h2
  · exact q
  · rw [q] at h1; cases h1
def sortB (lt : α → α → Bool) (l : List α) : List α := l.mergeSort (leB lt)
theorem sortB_perm (l : List α) : (sortB lt l).Perm l := List.mergeSort_perm ..
theorem mem_sortB {l : List α} {x : α} : x ∈ sortB lt l ↔ x ∈ l := (sortB_perm l).mem_iff
theorem sortB_len (l : List α) : (sortB lt l).length = l.length := (sortB_perm l).length_eq
theorem Ordr.sorted (o : Ordr lt) (l : List α) : (sortB lt l).Pairwise fun a b => leB lt a b = true := List.pairwise_mergeSort o.letr o.letot l
theorem Ordr.asc (o : Ordr lt) {l : List α} (h : l.Nodup) : (sortB lt l).Pairwise fun a b => lt a b = true := by
  have h2 : (sortB lt l).Nodup := (sortB_perm l).nodup_iff.mpr h
  exact ((o.sorted l).and h2).imp fun {x y} ⟨a, b⟩ => by
    unfold leB at a
    rw [Bool.not_eq_true'] at a
    rcases o.tri x y with q | q | q
    · exact q
    · exact absurd q b
    · rw [q] at a; cases a
theorem Ordr.nodup (o : Ordr lt) {l : List α} (h : l.Pairwise fun a b => lt a b = true) : l.Nodup := h.imp fun q => o.ne q
/-- ascending lists with the same members are the same -/
theorem Ordr.ext (o : Ordr lt) : ∀ {a b : List α}, (a.Pairwise fun a b => lt a b = true) → (b.Pairwise fun a b => lt a b = true) → (∀ x, x ∈ a ↔ x ∈ b) → a = b
  | [], [], _, _, _ => rfl
  | [], y :: b, _, _, h => absurd ((h y).mpr List.mem_cons_self) (by simp)
  | x :: a, [], _, _, h => absurd ((h x).mp List.mem_cons_self) (by simp)
  | x :: a, y :: b, ha, hb, h => by
    rw [List.pairwise_cons] at ha hb
    have e : x = y := by
      rcases List.mem_cons.mp ((h x).mp List.mem_cons_self) with q | q
      · exact q
      · rcases List.mem_cons.mp ((h y).mpr List.mem_cons_self) with q2 | q2
        · exact q2.symm
        · have h1 := ha.1 y q2
          have h2 := hb.1 x q
          rw [o.asym h1] at h2; cases h2
    subst e
    rw [o.ext ha.2 hb.2 fun z => ?_]
    constructor
    · intro hz
      rcases List.mem_cons.mp ((h z).mp (List.mem_cons_of_mem _ hz)) with q | q
      · exact absurd q.symm (o.ne (ha.1 z hz))
      · exact q
    · intro hz
      rcases List.mem_cons.mp ((h z).mpr (List.mem_cons_of_mem _ hz)) with q | q
      · exact absurd q.symm (o.ne (hb.1 z hz))
      · exact q
/-- sorted lists of the same items are the same -/
theorem Ordr.extP (o : Ordr lt) : ∀ {a b : List α}, (a.Pairwise fun a b => leB lt a b = true) → (b.Pairwise fun a b => leB lt a b = true) → a.Perm b → a = b
  | [], b, _, _, p => (List.nil_perm.mp p).symm
  | x :: a, [], _, _, p => absurd (List.perm_nil.mp p) (by simp)
  | x :: a, y :: b, ha, hb, p => by
    rw [List.pairwise_cons] at ha hb
    have e : x = y := by
      rcases List.mem_cons.mp (p.mem_iff.mp (List.mem_cons_self (a := x) (l := a))) with q | q
      · exact q
      · rcases List.mem_cons.mp (p.mem_iff.mpr (List.mem_cons_self (a := y) (l := b))) with q2 | q2
        · exact q2.symm
        · exact o.leanti (ha.1 y q2) (hb.1 x q)
    subst e
    rw [o.extP ha.2 hb.2 ((List.perm_cons x).mp p)]
theorem Ordr.sort_eq (o : Ordr lt) {l m : List α} (p : l.Perm m) : sortB lt l = sortB lt m :=
  o.extP (o.sorted l) (o.sorted m) ((sortB_perm l).trans (p.trans (sortB_perm m).symm))
theorem Ordr.sort_asc (o : Ordr lt) {l : List α} (h : l.Pairwise fun a b => lt a b = true) : sortB lt l = l :=
  o.extP (o.sorted l) (h.imp fun q => by unfold leB; rw [o.asym q]; rfl) (sortB_perm l)
def ltN (a b : Nat) : Bool := decide (a < b)
theorem ordN : Ordr ltN := ⟨fun a => by simp [ltN], fun a b c => by simp only [ltN, decide_eq_true_eq]; omega, fun a b => by simp only [ltN, decide_eq_true_eq]; omega⟩
def ltI (a b : Int) : Bool := decide (a < b)
theorem ordI : Ordr ltI := ⟨fun a => by simp [ltI], fun a b c => by simp only [ltI, decide_eq_true_eq]; omega, fun a b => by simp only [ltI, decide_eq_true_eq]; omega⟩
def lexB [DecidableEq α] (lt : α → α → Bool) (lt2 : β → β → Bool) (p q : α × β) : Bool := if p.1 = q.1 then lt2 p.2 q.2 else lt p.1 q.1
/-- lists, item by item -/
def lexL (lt : α → α → Bool) : List α → List α → Bool
  | _, [] => false
  | [], _ :: _ => true
  | a :: r, b :: s => lt a b || (!lt b a && lexL lt r s)
theorem lexL_irr (o : Ordr lt) : ∀ a, lexL lt a a = false
  | [] => rfl
  | a :: r => by simp [lexL, o.irr, lexL_irr o r]
theorem lexL_tr (o : Ordr lt) : ∀ a b c, lexL lt a b = true → lexL lt b c = true → lexL lt a c = true
  | _, b, [], h1, h2 => by cases b <;> simp [lexL] at h2
  | [], b, _ :: _, h1, h2 => rfl
  | _ :: _, [], _ :: _, h1, h2 => by simp [lexL] at h1
  | x :: r, y :: s, z :: t, h1, h2 => by
    simp only [lexL, Bool.or_eq_true, Bool.and_eq_true, Bool.not_eq_true'] at *
    rcases h1 with h1 | ⟨h1, h1'⟩
    · rcases h2 with h2 | ⟨h2, h2'⟩
      · exact .inl (o.tr _ _ _ h1 h2)
      · rcases o.tri y z with q | q | q
        · exact .inl (o.tr _ _ _ h1 q)
        · rw [← q]; exact .inl h1
        · rw [q] at h2; cases h2
    · rcases o.tri x y with q | q | q
      · rcases h2 with h2 | ⟨h2, h2'⟩
        · exact .inl (o.tr _ _ _ q h2)
        · rcases o.tri y z with q' | q' | q'
          · exact .inl (o.tr _ _ _ q q')
          · rw [← q']; exact .inl q
          · rw [q'] at h2; cases h2
      · subst q
        rcases h2 with h2 | ⟨h2, h2'⟩
        · exact .inl h2
        · exact .inr ⟨h2, lexL_tr o r s t h1' h2'⟩
      · rw [q] at h1; cases h1
theorem lexL_tri (o : Ordr lt) : ∀ a b, lexL lt a b = true ∨ a = b ∨ lexL lt b a = true
  | [], [] => .inr (.inl rfl)
  | [], _ :: _ => .inl rfl
  | _ :: _, [] => .inr (.inr rfl)
  | x :: r, y :: s => by
    simp only [lexL, Bool.or_eq_true, Bool.and_eq_true, Bool.not_eq_true']
    rcases o.tri x y with q | q | q
    · exact .inl (.inl q)
    · subst q
      rcases lexL_tri o r s with q | q | q
      · exact .inl (.inr ⟨o.irr _, q⟩)
      · exact .inr (.inl (by rw [q]))
      · exact .inr (.inr (.inr ⟨o.irr _, q⟩))
    · exact .inr (.inr (.inl q))
theorem ordL (o : Ordr lt) : Ordr (lexL lt) := ⟨lexL_irr o, lexL_tr o, lexL_tri o⟩
theorem lexN : ∀ a b : List Nat, decide (a < b) = lexL ltN a b
  | _, [] => by simp [lexL]
  | [], _ :: _ => by simp [lexL]
  | a :: r, b :: s => by
    rw [lexL, ← lexN r s]
    unfold ltN
    rw [Bool.eq_iff_iff]
    simp only [decide_eq_true_eq, Bool.or_eq_true, Bool.and_eq_true, Bool.not_eq_true', decide_eq_false_iff_not, List.cons_lt_cons_iff]
    constructor
    · rintro (h | ⟨h, h2⟩)
      · exact .inl h
      · exact .inr ⟨by omega, h2⟩
    · rintro (h | ⟨h, h2⟩)
      · exact .inl h
      · by_cases z : a < b
        · exact .inl z
        · exact .inr ⟨by omega, h2⟩
end
end DL
namespace DL
open PySem PySem.Spec PyProof.Rows L2 TL
structure EncO {α : Type} (f : α → D) (lt : α → α → Bool) : Prop where
  alike : ∀ a b, PySem.W.alike (f a).py (f b).py = true
  lt : ∀ a b, PySem.W.dataLt (f a).py (f b).py = lt a b
  some : ∀ a, notN (f a).py = true
/-- no tuple: sorted as they are -/
def noTup (d : D) : Bool := match d.py with
  | .tuple _ => false
  | .none => false
  | _ => true
def fullTup (d : D) : Bool := match d.py with
  | .tuple (_ :: _) => true
  | _ => false
section
variable {α β : Type} [DecidableEq α] [DecidableEq β] {f : α → D} {g : β → D} {n m : Nat} {lt : α → α → Bool} {lt2 : β → β → Bool}
theorem EncO.dS : EncO dS (lexL ltN) := ⟨fun _ _ => rfl, fun a b => by
  show PySem.W.dataLt (.str (T a)) (.str (T b)) = _
  rw [PySem.W.dataLt_str, ← lexN]; rfl, fun _ => rfl⟩
theorem EncO.dC : EncO dC ltN := ⟨fun _ _ => rfl, fun a b => dataLt_sgn a b, fun _ => rfl⟩
theorem EncO.int : EncO D.int ltI := ⟨fun _ _ => rfl, fun a b => by
  show PySem.W.dataLt (.int a) (.int b) = _
  rw [PySem.W.dataLt_int]; rfl, fun _ => rfl⟩
theorem alike_map (o : EncO f lt) : ∀ a b : List α, PySem.W.alikeAll (pyL (a.map f)) (pyL (b.map f)) = true
  | [], _ => by simp [pyL, PySem.W.alikeAll]
  | _ :: _, [] => by simp [pyL, PySem.W.alikeAll]
  | x :: a, y :: b => by
    show PySem.W.alikeAll ((f x).py :: pyL (a.map f)) ((f y).py :: pyL (b.map f)) = true
    rw [PySem.W.alikeAll, o.alike, alike_map o a b]; rfl
theorem rowLt_map (e : Enc f n) (o : EncO f lt) (irr : Ordr lt) : ∀ a b : List α, PySem.W.rowLt (pyL (a.map f)) (pyL (b.map f)) = lexL lt a b
  | [], [] => by
    have e : PySem.W.rowLt [] [] = false := lex_irrefl _
    exact e
  | [], y :: b => by
    show PySem.W.rowLt [] ((f y).py :: pyL (b.map f)) = true
    unfold PySem.W.rowLt
    rw [PySem.W.toks_all_cons]
    simp only [PySem.W.keyToksAll]
    rw [lex_diff (O := itemOrd) (by simp)]
    rfl
  | x :: a, [] => by
    show PySem.W.rowLt ((f x).py :: pyL (a.map f)) [] = false
    unfold PySem.W.rowLt
    rw [PySem.W.toks_all_cons]
    simp only [PySem.W.keyToksAll]
    rw [lex_diff (O := itemOrd) (by simp)]
    rfl
  | x :: a, y :: b => by
    have ih := rowLt_map e o irr a b
    unfold PySem.W.rowLt at ih ⊢
    show PyProof.Rows.lexLt itemOrd (PySem.W.keyToksAll ((f x).py :: pyL (a.map f))) (PySem.W.keyToksAll ((f y).py :: pyL (b.map f))) = _
    rw [PySem.W.dataLt_cons (o.alike x y), e.eq, o.lt, ih, lexL]
    by_cases h : x = y
    · subst h
      rw [if_pos (by simp), irr.irr]; rfl
    · rw [if_neg (by simpa using h)]
      rcases irr.tri x y with q | q | q
      · rw [q]; rfl
      · exact absurd q h
      · rw [q, irr.asym q]; rfl
theorem EncO.tup (e : Enc f n) (o : EncO f lt) (r : Ordr lt) : EncO (fun l : List α => D.tup (l.map f)) (lexL lt) := ⟨fun a b => by
    show PySem.W.alike (.tuple (pyL (a.map f))) (.tuple (pyL (b.map f))) = true
    rw [PySem.W.alike]; exact alike_map o a b, fun a b => by
    show PySem.W.dataLt (.tuple (pyL (a.map f))) (.tuple (pyL (b.map f))) = _
    rw [PySem.W.dataLt_tuple]; exact rowLt_map e o r a b, fun _ => rfl⟩
theorem leD_enc (o : EncO f lt) (a b : α) : leD (f a) (f b) = leB lt a b := by
  show (!PySem.W.dataLt (f b).py (f a).py) = _
  rw [o.lt]; rfl
theorem okSort_enc (o : EncO f lt) (e : Enc f n) (l : List α) (hn : n ≤ 60) (h : (∀ a ∈ l, noTup (f a) = true) ∨ ∀ a ∈ l, fullTup (f a) = true) : okSort (l.map f) = true := by
  unfold okSort
  simp only [Bool.and_eq_true, Bool.or_eq_true, List.all_eq_true, List.mem_map]
  refine ⟨⟨⟨?_, ?_⟩, ?_⟩, ?_⟩
  · rintro d ⟨c, _, rfl⟩; exact e.plain c
  · rintro d ⟨c, _, rfl⟩ d' ⟨c', _, rfl⟩; exact o.alike c c'
  · rcases h with h | h
    · refine .inr ?_
      rintro d ⟨c, hc, rfl⟩
      have := h c hc
      unfold noTup at this
      split at this <;> first | exact absurd this Bool.false_ne_true | (split <;> simp_all)
    · refine .inl ?_
      rintro d ⟨c, hc, rfl⟩
      have := h c hc
      unfold fullTup at this
      exact this
  · rintro d ⟨c, _, rfl⟩
    have := e.dep c
    exact decide_eq_true (by omega)
theorem EncO.gSorted (o : EncO f lt) (e : Enc f n) (l : List α) (h : (∀ a ∈ l, noTup (f a) = true) ∨ ∀ a ∈ l, fullTup (f a) = true) (hn : n ≤ 60 := by decide) : gSorted [.lst (l.map f)] = Option.some (.lst ((sortB lt l).map f)) := by
  show (if okSort (l.map f) = true then Option.some (D.lst ((l.map f).mergeSort leD)) else none) = _
  rw [if_pos (okSort_enc o e l hn h)]
  unfold sortB
  rw [List.map_mergeSort (s := leD) fun a _ b _ => (leD_enc o a b).symm]
end
theorem gSorted_dC (l : List Nat) : gSorted [.lst (l.map dC)] = some (.lst ((sortB ltN l).map dC)) := EncO.dC.gSorted Enc.dC l (.inl fun _ _ => rfl)
theorem gSorted_dS (l : List (List Nat)) : gSorted [.lst (l.map dS)] = some (.lst ((sortB (lexL ltN) l).map dS)) := EncO.dS.gSorted Enc.dS l (.inl fun _ _ => rfl)

abbrev Rule := List Nat × Nat
def Asc (l : List Nat) : Prop := l.Pairwise fun a b => ltN a b = true
theorem Asc.nodup {l : List Nat} (h : Asc l) : l.Nodup := ordN.nodup h
theorem Asc.ext {a b : List Nat} (ha : Asc a) (hb : Asc b) (h : ∀ x, x ∈ a ↔ x ∈ b) : a = b := ordN.ext ha hb h
theorem Asc.filter {l : List Nat} (h : Asc l) (p : Nat → Bool) : Asc (l.filter p) := List.Pairwise.filter p h
theorem Asc.sort {l : List Nat} (h : l.Nodup) : Asc (sortB ltN l) := ordN.asc h
def letters : List Nat := tl (Str.ofString "abcdefghijklmnopqrstuvwxyz")
theorem letters_eq : letters = [97, 98, 99, 100, 101, 102, 103, 104, 105, 106, 107, 108, 109, 110, 111, 112, 113, 114, 115, 116, 117, 118, 119, 120, 121, 122] := by decide +kernel
def ruleLt : Rule → Rule → Bool := lexB (lexL ltN) ltN
structure Sch (cols : List Nat) (R : List Rule) : Prop where
  asc : Asc cols
  let_ : ∀ x ∈ cols, x ∈ letters
  ne : cols ≠ []
  left : ∀ r ∈ R, ∀ x ∈ r.1, x ∈ cols
  lasc : ∀ r ∈ R, Asc r.1
  right : ∀ r ∈ R, r.2 ∈ cols
  not : ∀ r ∈ R, r.2 ∉ r.1
  rasc : R.Pairwise fun a b => ruleLt a b = true
theorem nodup_sub_len {α : Type} [DecidableEq α] : ∀ {a b : List α}, a.Nodup → (∀ x ∈ a, x ∈ b) → a.length ≤ b.length
  | [], _, _, _ => Nat.zero_le _
  | x :: a, b, hn, hs => by
    rw [List.nodup_cons] at hn
    have hx := hs x List.mem_cons_self
    have h := nodup_sub_len (a := a) (b := b.erase x) hn.2 fun y hy => (List.mem_erase_of_ne (fun e => hn.1 (by rw [← e]; exact hy))).mpr (hs y (List.mem_cons_of_mem _ hy))
    rw [List.length_erase_of_mem hx] at h
    have : 0 < b.length := List.length_pos_of_mem hx
    rw [List.length_cons]; omega
theorem Asc.len {l : List Nat} (h : Asc l) (hl : ∀ x ∈ l, x ∈ letters) : l.length ≤ 26 := by
  have := nodup_sub_len h.nodup hl
  rw [letters_eq] at this
  exact this
theorem Sch.len {cols : List Nat} {R : List Rule} (h : Sch cols R) : cols.length ≤ 26 := h.asc.len h.let_
end DL
namespace DL
open PySem PySem.Spec PyProof.Rows L2 TL
def compF (vs : List Nat) (g : GF) (fc : BF) (fe : EF) (E0 : Env) (items : List D) : Res (D × Env) := compL vs g fc fe E0 items [] E0
/-- one turn -/
def turnC (vs : List Nat) (g : GF) (fc : BF) (fe : EF) (E : Env) (d : D) : Res (Bool × W × Env × Env) :=
  (ofO (g d (wipeE E vs))).bind fun E1 => (fc E1).bind fun p => (fe p.2).bind fun q => .ok (p.1, q.1, backE E p.2 vs, backE E q.2 vs)
theorem compL_turn {α : Type} {vs : List Nat} {g : GF} {fc : BF} {fe : EF} {E : Env} (f : α → D) (p : α → Bool) (y : α → D) (l : List α) (h : ∀ a ∈ l, turnC vs g fc fe E (f a) = .ok (p a, .dat (y a), E, E)) (acc : List D) :
    compL vs g fc fe E (l.map f) acc E = .ok (.lst (acc ++ (l.filter p).map y), E) := by
  induction l generalizing acc with
  | nil => simp [compL]
  | cons a r ih =>
    have h1 := h a List.mem_cons_self
    have ih := ih fun b hb => h b (List.mem_cons_of_mem _ hb)
    unfold turnC at h1
    cases e1 : g (f a) (wipeE E vs) with
    | none => rw [e1] at h1; cases h1
    | some E1 =>
      rw [e1] at h1
      simp only [ofO_some, Res.ok_bind] at h1
      cases e2 : fc E1 with
      | err _ _ => rw [e2] at h1; cases h1
      | stuck => rw [e2] at h1; cases h1
      | ok q =>
        rw [e2] at h1
        simp only [Res.ok_bind] at h1
        cases e3 : fe q.2 with
        | err _ _ => rw [e3] at h1; cases h1
        | stuck => rw [e3] at h1; cases h1
        | ok z =>
          rw [e3] at h1
          simp only [Res.ok_bind] at h1
          injection h1 with h1
          injection h1 with i1 h1
          injection h1 with i2 h1
          injection h1 with i3 i4
          rw [List.map_cons, compL, e1]
          simp only [ofO_some, Res.ok_bind, e2, noErr]
          cases hp : p a with
          | false => rw [i1, hp, if_neg Bool.false_ne_true, i3, ih, List.filter_cons, hp, if_neg Bool.false_ne_true]
          | true =>
            rw [i1, hp, if_pos rfl, e3]
            simp only [Res.ok_bind, noErr]
            rw [i2]
            simp only [asDat, ofO_some, Res.ok_bind]
            rw [i4, ih, List.filter_cons, hp, if_pos rfl, List.map_cons, List.append_assoc]; rfl

open Classical in
noncomputable def resP {α : Type} (E : Env) (s : α → Res (Bool × W × Env × Env)) (l : List α) (fb : Res (D × Env)) : Res (D × Env) :=
  if h : ∃ py : (α → Bool) × (α → D), ∀ a ∈ l, s a = .ok (py.1 a, .dat (py.2 a), E, E) then .ok (.lst ((l.filter h.choose.1).map h.choose.2), E) else fb
theorem resP_ok {α : Type} {E : Env} {s : α → Res (Bool × W × Env × Env)} {l : List α} {fb : Res (D × Env)} {p : α → Bool} {y : α → D} (h : ∀ a ∈ l, s a = .ok (p a, .dat (y a), E, E)) : resP E s l fb = .ok (.lst ((l.filter p).map y), E) := by
  have ex : ∃ py : (α → Bool) × (α → D), ∀ a ∈ l, s a = .ok (py.1 a, .dat (py.2 a), E, E) := ⟨(p, y), h⟩
  unfold resP
  rw [dif_pos ex]
  have c := ex.choose_spec
  have e1 : l.filter ex.choose.1 = l.filter p := List.filter_congr fun a ha => by
    have := (c a ha).symm.trans (h a ha)
    injection this with this
    injection this with i1 _
  have e2 : (l.filter p).map ex.choose.2 = (l.filter p).map y := List.map_congr_left fun a ha => by
    have := (c a (List.mem_filter.mp ha).1).symm.trans (h a (List.mem_filter.mp ha).1)
    injection this with this
    injection this with _ this
    injection this with this _
    injection this
  rw [e1, e2]
@[simp] theorem resP_simp {α : Type} (E : Env) (p : α → Bool) (y : α → D) (l : List α) (fb : Res (D × Env)) : resP E (fun a => .ok (p a, .dat (y a), E, E)) l fb = .ok (.lst ((l.filter p).map y), E) := resP_ok fun _ _ => rfl
theorem compL_res {α : Type} {vs : List Nat} {g : GF} {fc : BF} {fe : EF} {E : Env} (f : α → D) (l : List α) : compL vs g fc fe E (l.map f) [] E = resP E (fun a => turnC vs g fc fe E (f a)) l (compF vs g fc fe E (l.map f)) := by
  by_cases h : ∃ py : (α → Bool) × (α → D), ∀ a ∈ l, turnC vs g fc fe E (f a) = .ok (py.1 a, .dat (py.2 a), E, E)
  · obtain ⟨⟨p, y⟩, h⟩ := h
    rw [resP_ok h, compL_turn f p y l h]; rfl
  · unfold resP
    rw [dif_neg h]; rfl
def k3_turn (vs : List Nat) (E : Env) (p : Bool × Env) : W × Env → Res (Bool × W × Env × Env) := fun q => .ok (p.1, q.1, backE E p.2 vs, backE E q.2 vs)
@[simp] theorem ap_k3_turn (vs : List Nat) (E : Env) (p : Bool × Env) (q : W × Env) : k3_turn vs E p q = .ok (p.1, q.1, backE E p.2 vs, backE E q.2 vs) := rfl
def k2_turn (vs : List Nat) (fe : EF) (E : Env) : Bool × Env → Res (Bool × W × Env × Env) := fun p => (fe p.2).bind (k3_turn vs E p)
@[simp] theorem ap_k2_turn (vs : List Nat) (fe : EF) (E : Env) (p : Bool × Env) : k2_turn vs fe E p = (fe p.2).bind (k3_turn vs E p) := rfl
def k1_turn (vs : List Nat) (fc : BF) (fe : EF) (E : Env) : Env → Res (Bool × W × Env × Env) := fun E1 => (fc E1).bind (k2_turn vs fe E)
@[simp] theorem ap_k1_turn (vs : List Nat) (fc : BF) (fe : EF) (E E1 : Env) : k1_turn vs fc fe E E1 = (fc E1).bind (k2_turn vs fe E) := rfl
@[simp] theorem ap_turnC {vs : List Nat} {g : GF} {fc : BF} {fe : EF} {E : Env} {d : D} : turnC vs g fc fe E d = (ofO (g d (wipeE E vs))).bind (k1_turn vs fc fe E) := rfl
def k3_comp (vs : List Nat) (g : GF) (fc : BF) (fe : EF) (E0 : Env) (ds acc : List D) (E3 : Env) : D → Res (D × Env) := fun y => compL vs g fc fe E0 ds (acc ++ [y]) (backE E0 E3 vs)
@[simp] theorem ap_k3_comp (vs : List Nat) (g : GF) (fc : BF) (fe : EF) (E0 : Env) (ds acc : List D) (E3 : Env) (y : D) : k3_comp vs g fc fe E0 ds acc E3 y = compL vs g fc fe E0 ds (acc ++ [y]) (backE E0 E3 vs) := rfl
def k2_comp (vs : List Nat) (g : GF) (fc : BF) (fe : EF) (E0 : Env) (ds acc : List D) : W × Env → Res (D × Env) := fun q => (ofO (asDat q.1)).bind (k3_comp vs g fc fe E0 ds acc q.2)
@[simp] theorem ap_k2_comp (vs : List Nat) (g : GF) (fc : BF) (fe : EF) (E0 : Env) (ds acc : List D) (q : W × Env) : k2_comp vs g fc fe E0 ds acc q = (ofO (asDat q.1)).bind (k3_comp vs g fc fe E0 ds acc q.2) := rfl
def k1_comp (vs : List Nat) (g : GF) (fc : BF) (fe : EF) (E0 : Env) (ds acc : List D) : Bool × Env → Res (D × Env) := fun p => if p.1 = true then (noErr (fe p.2)).bind (k2_comp vs g fc fe E0 ds acc) else compL vs g fc fe E0 ds acc (backE E0 p.2 vs)
@[simp] theorem ap_k1_comp (vs : List Nat) (g : GF) (fc : BF) (fe : EF) (E0 : Env) (ds acc : List D) (p : Bool × Env) : k1_comp vs g fc fe E0 ds acc p = if p.1 = true then (noErr (fe p.2)).bind (k2_comp vs g fc fe E0 ds acc) else compL vs g fc fe E0 ds acc (backE E0 p.2 vs) := rfl
def k0_comp (vs : List Nat) (g : GF) (fc : BF) (fe : EF) (E0 : Env) (ds acc : List D) : Env → Res (D × Env) := fun E1 => (noErr (fc E1)).bind (k1_comp vs g fc fe E0 ds acc)
@[simp] theorem ap_k0_comp (vs : List Nat) (g : GF) (fc : BF) (fe : EF) (E0 : Env) (ds acc : List D) (E1 : Env) : k0_comp vs g fc fe E0 ds acc E1 = (noErr (fc E1)).bind (k1_comp vs g fc fe E0 ds acc) := rfl
@[simp] theorem compL_nil (vs : List Nat) (g : GF) (fc : BF) (fe : EF) (E0 E : Env) (acc : List D) : compL vs g fc fe E0 [] acc E = .ok (.lst acc, E) := rfl
@[simp] theorem compL_cons (vs : List Nat) (g : GF) (fc : BF) (fe : EF) (E0 E : Env) (d : D) (ds acc : List D) : compL vs g fc fe E0 (d :: ds) acc E = (ofO (g d (wipeE E vs))).bind (k0_comp vs g fc fe E0 ds acc) := rfl
def k1_forL (g : GF) (body : SF) (ds : List D) : Fl × Env → Res (Fl × Env) := fun p => match p.1 with
    | .nx => forL g body ds p.2
    | .ct => forL g body ds p.2
    | .bk => .ok (.nx, p.2)
    | .rt d => .ok (.rt d, p.2)
@[simp] theorem k1_forL_nx (g : GF) (body : SF) (ds : List D) (E : Env) : k1_forL g body ds (.nx, E) = forL g body ds E := rfl
@[simp] theorem k1_forL_ct (g : GF) (body : SF) (ds : List D) (E : Env) : k1_forL g body ds (.ct, E) = forL g body ds E := rfl
@[simp] theorem k1_forL_bk (g : GF) (body : SF) (ds : List D) (E : Env) : k1_forL g body ds (.bk, E) = .ok (.nx, E) := rfl
@[simp] theorem k1_forL_rt (g : GF) (body : SF) (ds : List D) (E : Env) (d : D) : k1_forL g body ds (.rt d, E) = .ok (.rt d, E) := rfl
def k0_forL (g : GF) (body : SF) (ds : List D) : Env → Res (Fl × Env) := fun E1 => (body E1).bind (k1_forL g body ds)
@[simp] theorem ap_k0_forL (g : GF) (body : SF) (ds : List D) (E1 : Env) : k0_forL g body ds E1 = (body E1).bind (k1_forL g body ds) := rfl
@[simp] theorem forL_nil (g : GF) (body : SF) (E : Env) : forL g body [] E = .ok (.nx, E) := rfl
@[simp] theorem forL_cons (g : GF) (body : SF) (d : D) (ds : List D) (E : Env) : forL g body (d :: ds) E = (ofO (g d E)).bind (k0_forL g body ds) := rfl
@[simp] theorem filter_yes {α : Type} (l : List α) : l.filter (fun _ => true) = l := List.filter_eq_self.mpr fun _ _ => rfl
@[simp] theorem filter_no {α : Type} (l : List α) : l.filter (fun _ => false) = [] := List.filter_eq_nil_iff.mpr fun _ _ h => nomatch h
@[simp] theorem wipeE_nil (E : Env) : wipeE E [] = E := rfl
@[simp] theorem wipeE_cons (E : Env) (v : Nat) (vs : List Nat) : wipeE E (v :: vs) = (wipeE E vs).set v .no := rfl
@[simp] theorem backE_nil (E0 E : Env) : backE E0 E [] = E := rfl
@[simp] theorem backE_cons (E0 E : Env) (v : Nat) (vs : List Nat) : backE E0 E (v :: vs) = (backE E0 E vs).set v (E0[v]?.getD .no) := rfl
@[simp] theorem ap_gN (i : Nat) (d : D) (E : Env) : gN i d E = some (E.set i (.dat d)) := rfl
@[simp] theorem ap_gNil (E : Env) : gNil' [] E = some E := rfl
@[simp] theorem ap_gCons (g : GF) (gs : List D → Env → Option Env) (d : D) (ds : List D) (E : Env) : gCons' g gs (d :: ds) E = (g d E).bind fun E1 => gs ds E1 := rfl
@[simp] theorem ap_gT (gs : List D → Env → Option Env) (ds : List D) (E : Env) : gT gs (.tup ds) E = gs ds E := rfl
@[simp] theorem plain_no : plainC (some .no) = true := rfl
@[simp] theorem plain_dat (d : D) : plainC (some (.dat d)) = true := rfl
@[simp] theorem gNeg_int (i : Int) : gNeg (.int i) = some (.int (-i)) := rfl
end DL
namespace DL
open PySem PySem.Spec PyProof.Rows L2 TL
@[simp] theorem sqD_dS (l : List Nat) : sqD (dS l) = some (l.map dC) := rfl
@[simp] theorem sqD_dC (c : Nat) : sqD (dC c) = some [dC c] := rfl
@[simp] theorem gSl_init_dS (l : List Nat) : gSl (dS l) none (some (-1)) = some (dS l.dropLast) := gSl_init_str l
@[simp] theorem gSl_tail_dS (l : List Nat) : gSl (dS l) (some 1) none = some (dS l.tail) := gSl_tail_str l
@[simp] theorem gLen_dS (l : List Nat) : gLen [dS l] = some (.int l.length) := rfl
@[simp] theorem gLen_dC (c : Nat) : gLen [dC c] = some (.int 1) := rfl
@[simp] theorem gIx_dS_n (l : List Nat) (n : Nat) : gIx (dS l) (.int (no_index (OfNat.ofNat n))) = (l[(OfNat.ofNat n : Nat)]?).map dC := gIx_str_nat l n
@[simp] theorem gIx_tup_n (l : List D) (n : Nat) : gIx (.tup l) (.int (no_index (OfNat.ofNat n))) = l[(OfNat.ofNat n : Nat)]? := gIx_tup_nat l n
@[simp] theorem gIx_lst_n (l : List D) (n : Nat) : gIx (.lst l) (.int (no_index (OfNat.ofNat n))) = l[(OfNat.ofNat n : Nat)]? := gIx_lst_nat l n
@[simp] theorem zip_pairs {α : Type} (f : α → D) (l : List α) : ((l.map f).dropLast.zip (l.map f).tail).map (fun p => D.tup [p.1, p.2]) = (l.dropLast.zip l.tail).map fun p => .tup [f p.1, f p.2] := by
  rw [← List.map_dropLast, ← List.map_tail, zip_two]
@[simp] theorem zip_pairs2 {α : Type} (f : α → D) (l : List α) : ((l.dropLast.map f).zip (l.tail.map f)).map (fun p => D.tup [p.1, p.2]) = (l.dropLast.zip l.tail).map fun p => .tup [f p.1, f p.2] := zip_two ..
@[simp] theorem gIn_dCf (c : Nat) (l : List Nat) : gInQ false (dC c) (dS l) = some (.bl (decide (c ∈ l))) := gIn_one false c l
@[simp] theorem gIn_dCt (c : Nat) (l : List Nat) : gInQ true (dC c) (dS l) = some (.bl (!decide (c ∈ l))) := gIn_one true c l
@[simp] theorem gIn_dClf (c : Nat) (l : List Nat) : gInQ false (dC c) (.lst (l.map dC)) = some (.bl (decide (c ∈ l))) := Enc.dC.gIn_lst false c l
@[simp] theorem gIn_dClt (c : Nat) (l : List Nat) : gInQ true (dC c) (.lst (l.map dC)) = some (.bl (!decide (c ∈ l))) := Enc.dC.gIn_lst true c l
@[simp] theorem gEq_dS (a b : List Nat) : gEq (dS a) (dS b) = some (.bl (decide (a = b))) := Enc.dS.gEq a b
@[simp] theorem gNe_dS (a b : List Nat) : gNe (dS a) (dS b) = some (.bl (!decide (a = b))) := Enc.dS.gNe a b
@[simp] theorem gEq_dC (a b : Nat) : gEq (dC a) (dC b) = some (.bl (decide (a = b))) := Enc.dC.gEq a b
@[simp] theorem gNe_dC (a b : Nat) : gNe (dC a) (dC b) = some (.bl (!decide (a = b))) := Enc.dC.gNe a b
@[simp] theorem gEq_e (a : List Nat) : gEq (dS a) (.str "") = some (.bl (decide (a = []))) := Enc.dS.gEq a []
@[simp] theorem gNe_e (a : List Nat) : gNe (dS a) (.str "") = some (.bl (!decide (a = []))) := Enc.dS.gNe a []
@[simp] theorem gEq_nilC (a : List Nat) : gEq (.lst (a.map dC)) (.lst []) = some (.bl a.isEmpty) := by
  rw [gEq_nil (Enc.dC.plainL a)]; cases a <;> rfl
@[simp] theorem gNe_nilC (a : List Nat) : gNe (.lst (a.map dC)) (.lst []) = some (.bl (!a.isEmpty)) := by
  rw [gNe_nil (Enc.dC.plainL a)]; cases a <;> rfl
@[simp] theorem gSorted_dC' (l : List Nat) : gSorted [.lst (l.map dC)] = some (.lst ((sortB ltN l).map dC)) := gSorted_dC l
@[simp] theorem gSorted_dS' (l : List (List Nat)) : gSorted [.lst (l.map dS)] = some (.lst ((sortB (lexL ltN) l).map dS)) := gSorted_dS l
@[simp] theorem gTuple_lst (l : List D) : gTuple [.lst l] = some (.tup l) := rfl
@[simp] theorem gAdd_int (a b : Int) : gAdd (.int a) (.int b) = some (.int (a + b)) := rfl
theorem rgD_map (n : Nat) : rgD 0 n = (List.range n).map fun i : Nat => D.int i := by
  unfold rgD
  simp
@[simp] theorem ap_eV (i : Nat) (E : Env) : eV i E = match E[i]? with
  | some (.dat d) => .ok (.dat d, E)
  | some (.own _) => .ok (.own i, E)
  | some (.ob _ _ _) => .ok (.own i, E)
  | _ => .stuck := rfl
@[simp] theorem ap_nos (n : Nat) : nos n = List.replicate n .no := rfl
@[simp] theorem compL_res' {α : Type} {vs : List Nat} {g : GF} {fc : BF} {fe : EF} {E : Env} (f : α → D) (l : List α) : compL vs g fc fe E (l.map f) [] E = resP E (fun a => turnC vs g fc fe E (f a)) l (compF vs g fc fe E (l.map f)) := compL_res f l
@[simp] theorem gEq_nilS (a : List (List Nat)) : gEq (.lst (a.map dS)) (.lst []) = some (.bl a.isEmpty) := by
  rw [gEq_nil (Enc.dS.plainL a)]; cases a <;> rfl
@[simp] theorem gNe_nilS (a : List (List Nat)) : gNe (.lst (a.map dS)) (.lst []) = some (.bl (!a.isEmpty)) := by
  rw [gNe_nil (Enc.dS.plainL a)]; cases a <;> rfl
@[simp] theorem dats_app' (l : List D) (ws : List W) : dats (l.map W.dat ++ ws) = (dats ws).map (l ++ ·) := dats_app l ws
@[simp] theorem dats_map (l : List D) : dats (l.map W.dat) = some l := by
  have := dats_app l []
  simpa using this
@[simp] theorem gSorted_dCa (a b : List Nat) : gSorted [.lst (a.map dC ++ b.map dC)] = some (.lst ((sortB ltN (a ++ b)).map dC)) := by
  rw [← List.map_append, gSorted_dC]
@[simp] theorem rd_own_ (E : Env) (i : Nat) : rd E (.own i) = match E[i]? with
  | some (.own d) => .ok d
  | _ => .stuck := rfl
@[simp] theorem rds_own (E : Env) (i : Nat) (ws : List W) : rds E (.own i :: ws) = (rd E (.own i)).bind fun d => (rds E ws).bind fun ds => .ok (d :: ds) := rfl
@[simp] theorem ap_ownL (E : Env) (i : Nat) : ownL E i = match E[i]? with
  | some (.own (.lst ds)) => some ds
  | _ => none := rfl
@[simp] theorem ap_deckAt (E : Env) (i : Nat) : deckAt E i = match E[i]? with
  | some (.deck a q l b) => some (a, q, ⟨l, b⟩)
  | _ => none := rfl
theorem gApp_ok (ds : List D) (y : D) (h : ds.length < 16777216) : gApp ds [y] = some (.non, ds ++ [y]) := if_pos h
end DL
namespace DL
open PySem PySem.Spec PyProof.Rows L2 TL
def dN (i : Nat) : D := .int (i : Nat)
/-- what is settled -/
inductive InClo (R : List Rule) (b : List Nat) : Nat → Prop
  | base {x : Nat} : x ∈ b → InClo R b x
  | step {r : Rule} : r ∈ R → (∀ c ∈ r.1, InClo R b c) → InClo R b r.2
def rightsAt (R : List Rule) (is : List Nat) : List Nat := is.filterMap fun i => R[i]?.map (·.2)
def stepH (R : List Rule) (known : List Nat) (d : D) : D ⊕ List Nat := match d with
  | .int i => if 0 ≤ i ∧ i < (R.length : Int) then (match R[i.toNat]? with
      | some r => if r.1.all (fun x => decide (x ∈ known)) = true then .inr (known ++ [r.2]) else .inl (.bl false)
      | none => .inl (.bl false)) else .inl (.bl false)
  | _ => .inl (.bl false)
structure IvS (R : List Rule) (b : List Nat) (st : List Nat × List Nat) : Prop where
  eq : st.1 = b ++ rightsAt R st.2
  nd : st.1.Nodup
  lt : ∀ i ∈ st.2, i < R.length
  snd : ∀ x ∈ st.1, InClo R b x
  ld : foldE (stepH R) b (st.2.map dN) = .inr st.1
theorem InClo.trans {R : List Rule} {b b' : List Nat} (h : ∀ x ∈ b', InClo R b x) {x : Nat} (z : InClo R b' x) : InClo R b x := by
  induction z with
  | base hb => exact h _ hb
  | step hr _ ih => exact .step hr ih
theorem lit {s : String} {l : List Nat} (h : tl (Str.ofString s) = l) : D.str (Str.ofString s) = dS l := by
  rw [← h, dS, T_tl]
end DL
namespace DL
open PySem PySem.Spec PyProof.Rows L2 TL
/-- the key of a rule -/
def kR (r : Rule) : List Key := [.inr (T r.1), .inr (sgn r.2)]
def dT (rs : List Rule) : D := .dit (rs.map fun r => (kR r, .bl true))
def pl (x : Cell) : Prop := plainC (some x) = true
end DL
namespace DL
open PySem PySem.Spec PyProof.Rows L2 TL
@[simp] theorem kb1 : kitB "NoneType" "int" = some false := by decide +kernel
@[simp] theorem kb2 : kitB "bool" "int" = some true := by decide +kernel
@[simp] theorem kb3 : kitB "int" "int" = some true := by decide +kernel
@[simp] theorem kb4 : kitB "str" "int" = some false := by decide +kernel
@[simp] theorem kb5 : kitB "list" "int" = some false := by decide +kernel
@[simp] theorem kb6 : kitB "tuple" "int" = some false := by decide +kernel
@[simp] theorem kb7 : kitB "dict" "int" = some false := by decide +kernel
@[simp] theorem kb8 : kitB "int" "bool" = some false := by decide +kernel
@[simp] theorem kb9 : kitB "bool" "bool" = some true := by decide +kernel
@[simp] theorem kt1 : kitB "NoneType" "tuple" = some false := by decide +kernel
@[simp] theorem kt2 : kitB "bool" "tuple" = some false := by decide +kernel
@[simp] theorem kt3 : kitB "int" "tuple" = some false := by decide +kernel
@[simp] theorem kt4 : kitB "str" "tuple" = some false := by decide +kernel
@[simp] theorem kt5 : kitB "list" "tuple" = some false := by decide +kernel
@[simp] theorem kt7 : kitB "dict" "tuple" = some false := by decide +kernel
@[simp] theorem ks1 : kitB "NoneType" "str" = some false := by decide +kernel
@[simp] theorem ks2 : kitB "bool" "str" = some false := by decide +kernel
@[simp] theorem ks3 : kitB "int" "str" = some false := by decide +kernel
@[simp] theorem ks5 : kitB "list" "str" = some false := by decide +kernel
@[simp] theorem ks6 : kitB "tuple" "str" = some false := by decide +kernel
@[simp] theorem ks7 : kitB "dict" "str" = some false := by decide +kernel
@[simp] theorem gNe_bl (a b : Bool) : gNe (.bl a) (.bl b) = some (.bl (a != b)) := by
  cases a <;> cases b <;> rfl
end DL
namespace DL
open PySem PySem.Spec PyProof.Rows L2 TL
def subB (a b : List Nat) : Bool := a.all fun x => decide (x ∈ b)
def keyStep (full : List Nat → Bool) (found : List (List Nat)) (x : List Nat) : List (List Nat) := if !(found.any fun k => subB k x) && full x then found ++ [x] else found
def keysOf (full : List Nat → Bool) (L : List (List Nat)) : List (List Nat) := L.foldl (keyStep full) []
structure LeastIn (full : List Nat → Bool) (P found : List (List Nat)) : Prop where
  nd : found.Nodup
  mem : ∀ s, s ∈ found ↔ s ∈ P ∧ full s = true ∧ ∀ t ∈ P, full t = true → (∀ x ∈ t, x ∈ s) → t = s
end DL
namespace DL
open PySem PySem.Spec PyProof.Rows L2 TL
def dI (k : List Int) : D := .tup (k.map .int)
def intsD : List D → Option (List Int)
  | [] => some []
  | .int i :: ds => (intsD ds).map (i :: ·)
  | _ => none
def unI : D → Option (List Int)
  | .tup ds => intsD ds
  | _ => none
def rowsD : List D → Option (List (List Int))
  | [] => some []
  | d :: ds => (unI d).bind fun k => (rowsD ds).map (k :: ·)
def onceL {α : Type} [DecidableEq α] : List α → List α
  | [] => []
  | a :: l => if a ∈ onceL l then onceL l else a :: onceL l
theorem mem_once {α : Type} [DecidableEq α] : ∀ {l : List α} {x : α}, x ∈ onceL l ↔ x ∈ l
  | [], _ => Iff.rfl
  | a :: l, x => by
    rw [onceL]
    split
    · rename_i h
      rw [mem_once, List.mem_cons]
      exact ⟨.inr, fun z => z.elim (fun e => e ▸ mem_once.mp h) id⟩
    · rw [List.mem_cons, List.mem_cons, mem_once]
theorem once_nodup {α : Type} [DecidableEq α] : ∀ {l : List α}, (onceL l).Nodup
  | [] => List.nodup_nil
  | a :: l => by
    rw [onceL]
    split
    · exact once_nodup
    · rename_i h
      exact List.nodup_cons.mpr ⟨h, once_nodup⟩
def setRows (ks : List (List Int)) : List (List Int) := sortB (lexL ltI) (onceL ks)
def okRows (ks : List (List Int)) : Bool := decide (ks.length < 64) && (ks.all (fun k => !k.isEmpty) || ks.all fun k => k.isEmpty)
def gSortSet : List D → Option D
  | [.lst ds] => (rowsD ds).bind fun ks => if okRows ks = true then some (.lst ((setRows ks).map dI)) else none
  | _ => none
theorem intsD_eq : ∀ {ds : List D} {k : List Int}, intsD ds = some k → ds = k.map .int
  | [], k, h => by cases h; rfl
  | d :: ds, k, h => by
    cases d with
    | int i =>
      have h : (intsD ds).map (i :: ·) = some k := h
      cases q : intsD ds with
      | none => rw [q] at h; cases h
      | some m => rw [q] at h; cases h; rw [intsD_eq q]; rfl
    | _ => cases h
theorem intsD_map : ∀ k : List Int, intsD (k.map .int) = some k
  | [] => rfl
  | i :: k => by
    show (intsD (k.map .int)).map (i :: ·) = _
    rw [intsD_map k]; rfl
theorem unI_dI (k : List Int) : unI (dI k) = some k := intsD_map k
theorem unI_eq {d : D} {k : List Int} (h : unI d = some k) : d = dI k := by
  cases d with
  | tup ds => rw [show ds = k.map .int from intsD_eq h]; rfl
  | _ => cases h
theorem rowsD_map : ∀ l : List (List Int), rowsD (l.map dI) = some l
  | [] => rfl
  | k :: l => by
    show ((unI (dI k)).bind fun k => (rowsD (l.map dI)).map (k :: ·)) = _
    rw [unI_dI, rowsD_map l]; rfl
theorem dds_ints' {K : PySem.W.Frag} {G : Hp} : ∀ {vs : List V} {k : List Int}, DDs K G vs (k.map .int) → vs = k.map V.int
  | _, [], .nil => rfl
  | _, i :: k, .cons a b => by
    cases a
    rw [dds_ints' b]; rfl
theorem rows_refs {K : PySem.W.Frag} {G : Hp} : ∀ {vs : List V} {ds : List D} {ks : List (List Int)}, DDs K G vs ds → rowsD ds = some ks →
    ∃ L : List (Addr × List Int), vs = (L.map fun p => V.ref p.1) ∧ L.map (·.2) = ks ∧ ∀ p ∈ L, SqT K G p.1 (p.2.map V.int) ∧ DD K G (.ref p.1) (dI p.2)
  | _, _, ks, .nil, h => by cases h; exact ⟨[], rfl, rfl, fun _ h => by cases h⟩
  | _, _, ks, .cons (v := v) (vs := vs) (d := d) (ds := ds) a b, h => by
    have h : ((unI d).bind fun k => (rowsD ds).map (k :: ·)) = some ks := h
    cases q : unI d with
    | none => rw [q] at h; cases h
    | some k =>
      rw [q] at h
      have h : (rowsD ds).map (k :: ·) = some ks := h
      cases q2 : rowsD ds with
      | none => rw [q2] at h; cases h
      | some m =>
        rw [q2] at h
        cases h
        obtain ⟨L, e1, e2, h3⟩ := rows_refs b q2
        have ed := unI_eq q
        subst ed
        have a' := a
        cases a with
        | tup hg hz dd =>
          rename_i t us
          rw [dds_ints' dd] at hg
          refine ⟨(t, k) :: L, by rw [e1]; rfl, by rw [List.map_cons, e2], fun p hp => ?_⟩
          rcases List.mem_cons.mp hp with e | hp
          · rw [e]; exact ⟨.inl (.inl hg), a'⟩
          · exact h3 p hp
theorem perm_map_inv {α β : Type} {f : α → β} {vs ws : List β} (p : vs.Perm ws) : ∀ L : List α, ws = L.map f → ∃ L1 : List α, L1.Perm L ∧ vs = L1.map f := by
  induction p with
  | nil =>
    intro L e
    cases L with
    | nil => exact ⟨[], List.Perm.refl _, rfl⟩
    | cons _ _ => cases e
  | cons x p ih =>
    intro L e
    cases L with
    | nil => cases e
    | cons a L =>
      injection e with e1 e2
      obtain ⟨L1, p1, e3⟩ := ih L e2
      exact ⟨a :: L1, p1.cons a, by rw [e1, e3]; rfl⟩
  | swap x y l =>
    intro L e
    match L, e with
    | [], e => cases e
    | [_], e => injection e with _ e; cases e
    | a :: b :: L, e =>
      injection e with e1 e; injection e with e2 e3
      exact ⟨b :: a :: L, List.Perm.swap a b L, by rw [e1, e2, e3]; rfl⟩
  | trans p1 p2 ih1 ih2 =>
    intro L e
    obtain ⟨L2, q2, e2⟩ := ih2 L e
    obtain ⟨L1, q1, e1⟩ := ih1 L2 e2
    exact ⟨L1, q1.trans q2, e1⟩
theorem eI : Enc dI 1 := Enc.int.tup
theorem oI : EncO dI (lexL ltI) := EncO.int.tup Enc.int ordI
def ordRow : Ordr (lexL ltI) := ordL ordI
theorem le_rows (a b : Addr × List Int) : PySem.W.dataLe false (fun p : Addr × List Int => (dI p.2).py) a b = leB (lexL ltI) a.2 b.2 := leD_enc oI a.2 b.2
/-- sorted(the set): the tuples in order -/
def rSortS (K : PySem.W.Frag) (P : Program) (w : World) : List V → Hp → VK → Prop := fun vs H Q => ∃ (a : Addr) (L : List (Addr × List Int)), vs = [V.ref a] ∧ H a = some (SetTO P w a L) ∧ (∀ p ∈ L, SqT K H p.1 (p.2.map V.int)) ∧ ((∀ p ∈ L, p.2 ≠ []) ∨ ∀ p ∈ L, p.2 = []) ∧
  ∀ (L' : List (Addr × List Int)) (p : Addr), L'.Perm L → (L'.map (·.2)).Nodup → (L'.map (·.2)).Pairwise (fun a b => leB (lexL ltI) a b = true) → H p = none → L'.length < 64 → Q (.ref p) (upd H p (.lst (L'.map fun q => V.ref q.1)))
theorem each_rows {h : Heap} : ∀ (L : List (Addr × List Int)), (∀ p ∈ L, ∃ as, Reads h (.ref p.1) (dI p.2).py as) →
    PySem.W.EachIs (fun v p => v = Value.ref p.1) (L.map fun p => Value.ref p.1) L ∧ PySem.W.EachIs (fun v (p : Addr × List Int) => ∃ as, Reads h v (dI p.2).py as) (L.map fun p => Value.ref p.1) L
  | [], _ => ⟨.nil, .nil⟩
  | p :: L, h => by
    obtain ⟨a, b⟩ := each_rows L fun q hq => h q (List.mem_cons_of_mem _ hq)
    exact ⟨.cons rfl a, .cons (h p List.mem_cons_self) b⟩
theorem each_refs {vs : List Value} {L : List (Addr × List Int)} (h : PySem.W.EachIs (fun v p => v = Value.ref p.1) vs L) : vs = L.map fun p => Value.ref p.1 := by
  induction h with
  | nil => rfl
  | cons e _ ih => rw [e, ih]; rfl
theorem sorts_few {P : Program} {w : World} {A : Around} {s : Shared} {vs : List Value} {ds : List PyData} (e : PySem.W.EachIs (fun v d => ∃ as, Reads s.heap v d as) vs ds) (hal : PySem.W.AllAlike ds) (hn : ∀ d ∈ ds, d ≠ .none) (hl : vs.length ≤ 1) (hu : ∀ d ∈ ds, A.units + d.depth < cLine) : PySem.W.SortsAt P w A s (PySem.W.dataKind s.heap ds) vs := by
  refine ⟨fun v hv => ?_, general', ?_, fun h2 => absurd h2 (by omega)⟩
  · obtain ⟨d, hd, as, r⟩ := e.left v hv
    exact ⟨_, PySem.W.dataKind_some hal hd r⟩
  · intro E x y a b Q ha hb hq
    obtain ⟨d, as, hd, ra, rfl⟩ := PySem.W.dataKind_inv ha
    obtain ⟨d', as', hd', rb, rfl⟩ := PySem.W.dataKind_inv hb
    exact PySem.W.oneLt_alike (f := false) (fun z => nomatch z) ra rb (hal d hd d' hd') (hn d hd) (Nat.lt_of_le_of_lt (Nat.add_le_add_left (Nat.min_le_left _ _) _) (hu d hd)) hq
theorem dI_dep (k : List Int) : (dI k).py.depth ≤ 1 := eI.dep k
theorem isT_reads {P : Program} {w : World} {h : Heap} {k : List Int} {b : Addr} (x : IsT P w h k b) : ∃ as, Reads h (.ref b) (dI k).py as := by
  obtain ⟨o, items, n, ho, hc, hd, hi⟩ := x
  have key : ∀ (vs : List Value) (k : List Int), ItemsAre (intKind P w) k vs → ReadsAll h vs (pyL (k.map .int)) [] := by
    intro vs k hi
    induction hi with
    | nil => exact .nil
    | cons h1 _ ih =>
      obtain ⟨t, rfl⟩ := Value.isInt_shape h1
      exact .cons (as := []) (bs := []) (.int _ _) ih
  exact ⟨_, .tuple ho hc hd (key _ _ hi)⟩
theorem sort_rows {P : Program} {w : World} {A : Around} {E : Value → Shared → Prop} {s : Shared} {a : Addr} {n : Nat} {Lc : List (Addr × List Int)} {vs : List Value} {Q : Value → Shared → Prop} (hv : vs = Lc.map fun p => Value.ref p.1) (ho : s.heap.get? a = some (seqObj "list" vs.toArray n))
    (hr : ∀ p ∈ Lc, ∃ as, Reads (PySem.W.sortingHeap s.heap a vs) (.ref p.1) (dI p.2).py as) (hne : (∀ p ∈ Lc, p.2 ≠ []) ∨ Lc.length ≤ 1) (hl : Lc.length ≤ sizeLine) (hu : A.units + 8 < cLine)
    (h : ∀ L' : List (Addr × List Int), L'.Perm Lc → (L'.map (·.2)).Pairwise (fun a b => leB (lexL ltI) a b = true) → Q .none { s with heap := sortedHeap s.heap a vs (L'.map fun p => Value.ref p.1).toArray }) :
    wpAny (model P w) A (call (.builtin "list.sort") [.ref a]) Q E s := by
  obtain ⟨e1, e2⟩ := each_rows (h := PySem.W.sortingHeap s.heap a vs) Lc hr
  rw [← hv] at e1 e2
  have hal : PySem.W.AllAlike (Lc.map fun p => (dI p.2).py) := fun d hd d' hd' => by
    obtain ⟨p, _, rfl⟩ := List.mem_map.mp hd
    obtain ⟨p', _, rfl⟩ := List.mem_map.mp hd'
    exact oI.alike _ _
  have hub : ∀ d ∈ Lc.map fun p => (dI p.2).py, A.in1.units + d.depth < cLine := fun d hd => by
    obtain ⟨p, _, rfl⟩ := List.mem_map.mp hd
    have := dI_dep p.2
    have h1 : A.in1.units ≤ A.units + 1 := by first | exact Nat.le_refl _ | decide
    omega
  have e3 : PySem.W.EachIs (fun v d => ∃ as, Reads (PySem.W.sortingHeap s.heap a vs) v d as) vs (Lc.map fun p => (dI p.2).py) := PySem.W.each_map (R := fun v d => ∃ as, Reads _ v d as) (fun p : Addr × List Int => (dI p.2).py) e2
  have hvl : vs.length = Lc.length := by rw [hv, List.length_map]
  have S : PySem.W.SortsAt P w A.in1 { s with heap := PySem.W.sortingHeap s.heap a vs } (PySem.W.dataKind (PySem.W.sortingHeap s.heap a vs) (Lc.map fun p => (dI p.2).py)) vs := by
    rcases hne with hne | hne
    · refine PySem.W.SortsAt.data (s := { s with heap := PySem.W.sortingHeap s.heap a vs }) e3 hal (.inl fun d hd => ?_) hub
      obtain ⟨p, hp, rfl⟩ := List.mem_map.mp hd
      cases hk : p.2 with
      | nil => exact absurd hk (hne p hp)
      | cons i r => exact ⟨_, _, rfl⟩
    · refine sorts_few (s := { s with heap := PySem.W.sortingHeap s.heap a vs }) e3 hal (fun d hd => ?_) (by omega) hub
      obtain ⟨p, hp, rfl⟩ := List.mem_map.mp hd
      exact fun z => nomatch z
  refine wpAny_call_entry slot_list_sort ⟨_, ho, rfl⟩ entry_list_sort (PySem.W.list_sort_vals ho S (by omega) ⟨.none, rfl, ?_⟩) (args_list_sort _)
  have eo := PySem.W.sortVals_data (R := fun v p => v = Value.ref p.1) (enc := fun p : Addr × List Int => (dI p.2).py) false e1 e2 hal
  have el : PySem.W.dataLe false (fun p : Addr × List Int => (dI p.2).py) = fun a b => leB (lexL ltI) a.2 b.2 := by
    funext a b; exact le_rows a b
  rw [el] at eo
  rw [each_refs eo]
  refine h _ (List.mergeSort_perm _ _) ?_
  rw [List.pairwise_map]
  exact List.pairwise_mergeSort (fun a b c => ordRow.letr a.2 b.2 c.2) (fun a b => ordRow.letot a.2 b.2) Lc
theorem cr_sortS {X : Cx} (hc : X.calm = true) (hu : X.A.units + 64 < cLine) : CallR X (.builtin "sorted") (rSortS X.K X.prog X.w) := by
  intro pins s σ H vs us Q I r h
  obtain ⟨a, L, rfl, ha, hk, hne, q⟩ := h
  have R0 : SetT0 X.prog X.w s.heap a L := (I.hok a _ ha).1
  obtain ⟨es, ep, t, R⟩ := R0.full fun p hp => I.isT (hk p hp)
  rw [Vals.ref1 r]
  obtain ⟨o, ho, hex, hd⟩ := R.ob
  have hfew := R.few
  have hsz := R.size
  refine Calls.call_function_entry kind_sorted plain_sorted entry_sorted (args_sorted1 _) ?_
  unfold Builtin.«sorted»
  refine wpAny_bind (m := checkCount "sorted" 1 1 _) (wpAny_pure ?_)
  refine wpAny_bind (collect_set (A := X.A.in1) (I.ok.hd hc) ⟨o, ho, hex.1, hd⟩ R.fits (by rw [hsz]; unfold scanBound; omega) R.tab.ris R.led fun s1 vs k1 hz g1 o1 pm => ?_)
  have hes : es.toList.map (·.2) = L.map fun q => Value.ref q.1 := by
    rw [R.rows, rowsOf, List.map_map]; rfl
  rw [hes] at pm
  obtain ⟨Lc, pc, hv⟩ := perm_map_inv pm L rfl
  have hlen : Lc.length = L.length := pc.length_eq
  have hvl : vs.length = Lc.length := by rw [hv, List.length_map]
  refine wpAny_bind (wpAny_newList ?_ (by rw [sizeLine_eq]; omega))
  have hoL : (s1.heap.push (seqObj "list" vs.toArray 0)).get? s1.heap.objs.size = some (seqObj "list" vs.toArray 0) := Heap.get?_push_size _ rfl
  refine wpAny_bind (wpAny_holding (sort_rows (s := { s1 with heap := s1.heap.push (seqObj "list" vs.toArray 0) }) (Lc := Lc) hv hoL (fun p hp => isT_reads (isT_keep (R.tup p (pc.mem_iff.mp hp)) fun b o e => ?_)) ?_ (by rw [sizeLine_eq]; omega) ?_ fun L' pL0 pw => ?_))
  · have hlt := Heap.lt_size (k1 b o e)
    exact PySem.W.sortingHeap_old (Nat.ne_of_lt hlt) (Heap.get?_push_of_some _ (k1 b o e))
  · rcases hne with hne | hne
    · exact .inl fun p hp => hne p (pc.mem_iff.mp hp)
    · refine .inr ?_
      rw [hlen]
      have nd := R.nd
      match L, nd, hne with
      | [], _, _ => exact Nat.zero_le _
      | [_], _, _ => exact Nat.le_refl _
      | x :: y :: L, nd, hne =>
        exfalso
        rw [List.map_cons, List.map_cons, List.nodup_cons] at nd
        exact nd.1 (by rw [hne x (by simp), hne y (by simp)]; simp)
  · have h1 : X.A.in1.units ≤ X.A.units + 1 := by first | exact Nat.le_refl _ | decide
    omega
  · obtain ⟨out, hout⟩ : ∃ out : List Value, out = L'.map fun p => Value.ref p.1 := ⟨_, rfl⟩
    rw [← hout]
    have pL : L'.Perm L := pL0.trans pc
    obtain ⟨c, hcx⟩ := sortedHeap_at (vs := vs) (out := out.toArray) hoL
    have hfew' : L'.length < 64 := by rw [pL.length_eq]; exact hfew
    have hl2 : (L'.map fun q => V.ref q.1).length ≤ sizeLine := by rw [List.length_map, sizeLine_eq]; omega
    have hn : H s1.heap.objs.size = none := I.hok.fresh hz
    have hk2 : ∀ b o, s.heap.get? b = some o → (sortedHeap (s1.heap.push (seqObj "list" vs.toArray 0)) s1.heap.objs.size vs out.toArray).get? b = some o := fun b o e => by
      have hlt := Heap.lt_size (k1 b o e)
      rw [sortedHeap_old (Nat.ne_of_lt hlt) (by rw [size_push']; exact Nat.lt_succ_of_lt hlt)]
      exact Heap.get?_push_of_some _ (k1 b o e)
    have hv2 : Vals (L'.map fun q => V.ref q.1) out := by rw [hout]; exact vals_of_refs L'
    refine wpAny_pure ⟨_, rfl, ?_⟩
    show EP X pins σ Q _ ({ s1 with heap := sortedHeap (s1.heap.push (seqObj "list" vs.toArray 0)) s1.heap.objs.size vs out.toArray } : Shared)
    generalize sortedHeap (s1.heap.push (seqObj "list" vs.toArray 0)) s1.heap.objs.size vs out.toArray = h2 at hcx hk2 ⊢
    have J : Inv X pins σ (upd H s1.heap.objs.size (.lst (L'.map fun q => V.ref q.1))) { s with heap := h2, gens := s1.gens, drawn := s1.drawn, toks := s1.toks } :=
      I.call (ch := []) (Un.laid hk2 hz hn) (I.hok.laid hk2 hz ⟨hl2, out, c, hv2, hcx⟩) (by rw [g1]; exact I.bare) (fun _ z => nomatch z)
    have e : ({ s1 with heap := h2 } : Shared) = { s with heap := h2, gens := s1.gens, drawn := s1.drawn, toks := s1.toks } := by
      cases s1; cases s; cases o1; rfl
    rw [e]
    exact ⟨.ref _, _, J, rfl, q L' _ pL ((pL.map (·.2)).nodup_iff.mpr R.nd) pw hn hfew'⟩
def rSS (K : PySem.W.Frag) (P : Program) (w : World) : List V → Hp → VK → Prop := fun xs H Q => rSetOfT K P w xs H fun x H2 => rSortS K P w [x] H2 Q
theorem calln_sortSet {K : PySem.W.Frag} {P : Program} {w : World} : CallN K (rSS K P w) gSortSet := by
  intro G H xs ds d Q s h e z
  match ds, e with
  | [.lst dl], e =>
    have e : ((rowsD dl).bind fun ks => if okRows ks = true then some (D.lst ((setRows ks).map dI)) else none) = some d := e
    cases q : rowsD dl with
    | none => rw [q] at e; cases e
    | some ks =>
      rw [q] at e
      obtain ⟨hok, rfl⟩ := ifs_some (show (if okRows ks = true then some (D.lst ((setRows ks).map dI)) else none) = some d from e)
      unfold okRows at hok
      rw [Bool.and_eq_true, decide_eq_true_eq, Bool.or_eq_true, List.all_eq_true, List.all_eq_true] at hok
      obtain ⟨v, rfl, b⟩ := h.one
      obtain ⟨a, vs, rfl, h1, z1, d1⟩ := b.lst s
      obtain ⟨L, rfl, rfl, hL⟩ := rows_refs d1 q
      rw [List.length_map] at hok
      refine ⟨a, L, rfl, SqL.of h1, fun p hp => SqT.up s (hL p hp).1, hok.1, fun a' L2 ha' hsub hall => ⟨a', L2, rfl, upd_same, fun p hp => ?_, ?_, fun L' p pm nd pw hp' hl => ?_⟩⟩
      · exact SqT.up (s.trans fun b u e => by rw [upd_ne (ne_of_none e ha')]; exact e) (hL p (hsub p hp)).1
      · rcases hok.2 with z | z
        · exact .inl fun p hp e => by
            have := z p.2 (List.mem_map.mpr ⟨p, hsub p hp, rfl⟩)
            rw [e] at this; cases this
        · exact .inr fun p hp => by
            have := z p.2 (List.mem_map.mpr ⟨p, hsub p hp, rfl⟩)
            exact List.isEmpty_iff.mp this
      · have hpa : p ≠ a' := fun e => by rw [e, upd_same] at hp'; cases hp'
        rw [upd_ne hpa] at hp'
        have hu1 : Same H (upd H a' (SetTO P w a' L2)) := fun b u e => by rw [upd_ne (ne_of_none e ha')]; exact e
        have hu2 : Same (upd H a' (SetTO P w a' L2)) (upd (upd H a' (SetTO P w a' L2)) p (.lst (L'.map fun q => V.ref q.1))) := fun b u e => by
          by_cases hb : b = p
          · rw [hb, upd_ne hpa, hp'] at e; cases e
          · rw [upd_ne hb]; exact e
        refine z p _ hp' (hu1.trans hu2) ⟨_, upd_same, ?_, ?_⟩
        · rw [List.length_map, sizeLine_eq]; omega
        · have eq : L'.map (·.2) = setRows (L.map (·.2)) := by
            refine ordRow.ext ?_ (ordRow.asc once_nodup) fun k => ?_
            · refine (pw.and nd).imp fun {x y} ⟨h1, h2⟩ => ?_
              unfold leB at h1
              rw [Bool.not_eq_true'] at h1
              rcases ordRow.tri x y with q | q | q
              · exact q
              · exact absurd q h2
              · rw [q] at h1; cases h1
            · rw [setRows, mem_sortB, mem_once]
              constructor
              · intro hk
                obtain ⟨p, hp, rfl⟩ := List.mem_map.mp hk
                exact List.mem_map.mpr ⟨p, hsub p (pm.mem_iff.mp hp), rfl⟩
              · intro hk
                obtain ⟨p, hp, rfl⟩ := List.mem_map.mp hk
                obtain ⟨p2, hp2, e2⟩ := List.mem_map.mp (hall p hp)
                exact List.mem_map.mpr ⟨p2, pm.mem_iff.mpr hp2, e2⟩
          rw [← eq, List.map_map]
          have key : ∀ l : List (Addr × List Int), (∀ p ∈ l, DD K G (.ref p.1) (dI p.2)) → DDs K G (l.map fun q => V.ref q.1) (l.map (dI ∘ fun x => x.2)) := by
            intro l
            induction l with
            | nil => intro _; exact .nil
            | cons p l ih => intro h; exact .cons (h p List.mem_cons_self) (ih fun q hq => h q (List.mem_cons_of_mem _ hq))
          exact key L' fun p hp => (hL p (hsub p (pm.mem_iff.mp hp))).2
theorem dn_sortSet {X : Cx} {Wi : Wish} {e : Expr} {p p2 pos pos2 : Pos} {fs : AF} (hc : X.calm = true) (hu : X.A.units + 64 < cLine) (hg : Gl X "sorted") (hm : X.mg "sorted" = none) (hg2 : Gl X "set") (hm2 : X.mg "set" = none) (ha : DA X Wi [e] fs)
    (he : starEach [e] X.env = (false, eval e X.env) :: starEach [] X.env := by rfl) (hpl : (backTo pos2 (starEach [] X.env)).any (·.1) = false := by rfl)
    (he2 : starEach [Expr.Call (.Name "set" p2) [e] [] pos2] X.env = (false, eval (Expr.Call (.Name "set" p2) [e] [] pos2) X.env) :: starEach [] X.env := by rfl) (hpl2 : (backTo pos (starEach [] X.env)).any (·.1) = false := by rfl) :
    DN X Wi (.Call (.Name "sorted" p) [.Call (.Name "set" p2) [e] [] pos2] [] pos) (nCall gSortSet fs) :=
  PE.imp (pe_callB (cr_sortS hc hu) hg hm PyProof.Rows.boot_sorted (pa_cons (pe_callTy (cr_setOfT hc hu) hg2 hm2 PyProof.Rows.boot_set ha (he := he) (hpl := hpl)) pa_nil he2) (he := he2) (hpl := hpl2)) fun σ H Q q => tCBN_of (calln_sortSet (P := X.prog) (w := X.w)) σ H Q q
end DL
namespace DL
open PySem PySem.Spec PyProof.Rows L2 TL
theorem sidx_dC {l : List Nat} {x : Nat} (hn : l.Nodup) (hx : x ∈ l) : gSIdx (dS l) [dC x] = some (.int (l.idxOf x : Nat)) := by
  have h1 := PySem.StrLaws.found_one (T l) x
  have h2 := PySem.StrLaws.occ_length_le (T l) (sgn x) 0 (T l).length 1
  have h3 := PySem.StrLaws.occ_spec (T l) (sgn x) 0 (T l).length 1
  have h1 : (!(Builtin.Str.occurrences (T l) (sgn x) 0 (T l).length 1).isEmpty) = decide (x ∈ l) := h1
  rw [decide_eq_true hx] at h1
  show (match Builtin.Str.occurrences (T l) (sgn x) 0 (T l).length 1 with | i :: _ => some (D.int (i : Nat)) | [] => none) = _
  cases q : Builtin.Str.occurrences (T l) (sgn x) 0 (T l).length 1 with
  | nil => rw [q] at h1; cases h1
  | cons i r =>
    rw [q] at h3
    have h4 := (PySem.StrLaws.subAt_one (T l) x i).mp (h3 i List.mem_cons_self)
    have h4 : l[i]? = some x := h4
    obtain ⟨hi, e⟩ := List.getElem?_eq_some_iff.mp h4
    have : l.idxOf x = i := by rw [← e]; exact hn.idxOf_getElem i hi
    rw [this]
@[simp] theorem sqD_dI (k : List Int) : sqD (dI k) = some (k.map .int) := rfl
@[simp] theorem gLen_dI (k : List Int) : gLen [dI k] = some (.int k.length) := by
  show some (D.int ((k.map D.int).length : Nat)) = _
  rw [List.length_map]
@[simp] theorem gEq_dI (a b : List Int) : gEq (dI a) (dI b) = some (.bl (decide (a = b))) := eI.gEq a b
@[simp] theorem gNe_dI (a b : List Int) : gNe (dI a) (dI b) = some (.bl (!decide (a = b))) := eI.gNe a b
theorem gIx_dI (k : List Int) (i : Nat) : gIx (dI k) (.int i) = (k[i]?).map .int := by
  show gIx (.tup (k.map .int)) (.int i) = _
  rw [gIx_tup_nat, List.getElem?_map]
@[simp] theorem gIx_dI_n (k : List Int) (n : Nat) : gIx (dI k) (.int (no_index (OfNat.ofNat n))) = (k[(OfNat.ofNat n : Nat)]?).map .int := gIx_dI k n
/-- what a row has at a column -/
def colV (cols : List Nat) (row : List Int) (x : Nat) : Int := row.getD (cols.idxOf x) 0
theorem gIx_dI_at {cols : List Nat} {k : List Int} {x : Nat} (hl : k.length = cols.length) (hx : x ∈ cols) : gIx (dI k) (.int (cols.idxOf x : Nat)) = some (.int (colV cols k x)) := by
  have : cols.idxOf x < k.length := by rw [hl]; exact List.idxOf_lt_length_of_mem hx
  rw [gIx_dI, List.getElem?_eq_getElem this]
  unfold colV
  simp [List.getD, this]
def rowAt (cols : List Nat) (row : List Int) (some : List Nat) : List Int := some.map fun x => colV cols row x
section
variable {α : Type} {E E' : Env} {g : GF} {body s2 : SF} {fi : IF} {Q : Fl × Env → Prop}
end
theorem gSortSet_dI {ks : List (List Int)} (h : okRows ks = true) : gSortSet [.lst (ks.map dI)] = some (.lst ((setRows ks).map dI)) := by
  show ((rowsD (ks.map dI)).bind fun ks => if okRows ks = true then some (D.lst ((setRows ks).map dI)) else none) = _
  rw [rowsD_map]
  exact if_pos h
theorem okRows_len {ks : List (List Int)} {n : Nat} (hl : ks.length < 64) (h : ∀ k ∈ ks, k.length = n) : okRows ks = true := by
  unfold okRows
  rw [Bool.and_eq_true, decide_eq_true_eq, Bool.or_eq_true, List.all_eq_true, List.all_eq_true]
  refine ⟨hl, ?_⟩
  cases n with
  | zero => exact .inr fun k hk => by rw [List.isEmpty_iff]; exact List.eq_nil_of_length_eq_zero (h k hk)
  | succ n =>
    refine .inl fun k hk => ?_
    have := h k hk
    cases k with
    | nil => cases this
    | cons _ _ => rfl
theorem once_len {α : Type} [DecidableEq α] : ∀ l : List α, (onceL l).length ≤ l.length
  | [] => Nat.le_refl _
  | a :: l => by
    rw [onceL]
    split
    · exact Nat.le_succ_of_le (once_len l)
    · exact Nat.succ_le_succ (once_len l)
theorem mem_setRows {ks : List (List Int)} {k : List Int} : k ∈ setRows ks ↔ k ∈ ks := by rw [setRows, mem_sortB, mem_once]
theorem setRows_asc (ks : List (List Int)) : (setRows ks).Pairwise fun a b => lexL ltI a b = true := ordRow.asc once_nodup
theorem setRows_len (ks : List (List Int)) : (setRows ks).length ≤ ks.length := by rw [setRows, sortB_len]; exact once_len ks
@[simp] theorem gTuple_ints (k : List Int) : gTuple [.lst (k.map .int)] = some (dI k) := rfl
/-- an integer that a law draws for a row -/
def SmI (i : Int) : Prop := -3 ≤ i ∧ i < 1000000000000000000000000000000
theorem SmI.i100 {i : Int} (h : SmI i) : I100 i := by
  obtain ⟨h1, h2⟩ := h
  have : i.natAbs < 10 ^ 30 := by omega
  exact Nat.lt_trans this (by decide +kernel)
theorem shw_dI {k : List Int} {n : Nat} (h : ∀ i ∈ k, I100 i) (hn : k.length ≤ n) : Shw (dI k) n 1 := (Shws.map (f := D.int) (n := 0) (m := 0) fun i hi => Shw.int (h i hi)).tup.le (by omega) (Nat.le_refl _)
theorem shw_rows {ks : List (List Int)} {n m : Nat} (h : ∀ k ∈ ks, (∀ i ∈ k, I100 i) ∧ k.length ≤ n) (hm : ks.length ≤ m) : Shw (.tup (ks.map dI)) (m * (n + 1)) 2 := (Shws.map (f := dI) (n := n) (m := 1) fun k hk => shw_dI (h k hk).1 (h k hk).2).tup.le (Nat.mul_le_mul_right _ hm) (Nat.le_refl _)
theorem compL_okY {α : Type} {vs : List Nat} {g : GF} {fe : EF} {E0 E : Env} {Q : D × Env → Prop} (f : α → D) (Iv : List α → List D → Env → Prop) (l : List α) (acc : List D) (h0 : Iv l acc E)
    (step : ∀ a r acc E, Iv (a :: r) acc E → ∃ E1, g (f a) (wipeE E vs) = some E1 ∧ Ok (fe E1) fun q => ∃ y, q.1 = .dat y ∧ Iv r (acc ++ [y]) (backE E0 q.2 vs))
    (fin : ∀ acc E, Iv [] acc E → Q (.lst acc, E)) : Ok (compL vs g tYes' fe E0 (l.map f) acc E) Q :=
  compL_ok f Iv l acc h0 (fun a r acc E h => by
    obtain ⟨E1, e1, o⟩ := step a r acc E h
    exact ⟨E1, e1, Ok.of rfl (by rw [if_pos rfl]; exact o)⟩) fin
end DL
namespace DL
open PySem PySem.Spec PyProof.Rows L2 TL
/-- short enough, of code points -/
def TxOk (l : List Nat) : Prop := l.length ≤ 1000000 ∧ ∀ x ∈ l, x < 1114112
structure NumL (ds : List Nat) (n : Nat) : Prop where
  dig : ∀ c ∈ ds, 48 ≤ c ∧ c ≤ 57
  ne : ds ≠ []
  val : ds.foldl (fun acc c => acc * 10 + (c - 48)) 0 = n
  head : ds.head? = some 48 → ds = [48]
end DL
namespace DL
open PySem PySem.Spec PyProof.Rows L2 TL
mutual
/-- ints below so much, texts of code points, no dict but {}, no instance -/
def D.gdb (m : Nat) : D → Bool
  | .non => true
  | .bl _ => true
  | .int i => decide (i.natAbs < 10 ^ m)
  | .str x => x.cps.toList.all fun c => decide (c < 1114112)
  | .lst xs => gdbL m xs
  | .tup xs => gdbL m xs
  | .dic l => l.isEmpty
  | .dit _ => false
  | .dix _ _ => false
  | .obj _ _ => false
def gdbL (m : Nat) : List D → Bool
  | [] => true
  | x :: xs => x.gdb m && gdbL m xs
end
mutual
theorem gdb_okE {m : Nat} : ∀ d : D, d.gdb m = true → d.okE = true
  | .non, _ => rfl
  | .bl _, _ => rfl
  | .int _, _ => rfl
  | .str _, _ => rfl
  | .lst xs, h => gdb_okEL xs h
  | .tup xs, h => gdb_okEL xs h
  | .dic _, h => h
  | .dit _, h => by cases h
  | .dix _ _, h => by cases h
  | .obj _ _, h => by cases h
theorem gdb_okEL {m : Nat} : ∀ xs : List D, gdbL m xs = true → okEL xs = true
  | [], _ => rfl
  | x :: xs, h => by
    rw [gdbL, Bool.and_eq_true] at h
    rw [okEL, gdb_okE x h.1, gdb_okEL xs h.2]; rfl
end
theorem int_short {i : Int} {m : Nat} (h0 : 0 < m) (hm : m ≤ 500) (h : i.natAbs < 10 ^ m) : (Str.ofString (toString i)).length ≤ m + 1 ∧ i.natAbs.log2 < 1920 := by
  refine ⟨?_, ?_⟩
  · have e := int_text_length_le10 (k := m) h0 h
    rw [PySem.ofString_length]; exact e
  · by_cases hz : i.natAbs = 0
    · rw [hz]; decide
    · rw [Nat.log2_lt hz]
      have h1 : (10 : Nat) ^ 500 < 2 ^ 1920 := by decide +kernel
      have h2 : (10 : Nat) ^ m ≤ 10 ^ 500 := Nat.pow_le_pow_right (by decide) hm
      exact Nat.lt_of_lt_of_le h (Nat.le_trans h2 (Nat.le_of_lt h1))
mutual
theorem gdb_show {m : Nat} (h0 : 0 < m) (hm : m ≤ 500) : ∀ d : D, d.gdb m = true → d.py.showable = true ∧ d.py.leavesShort 700 = true
  | .non, _ => ⟨rfl, rfl⟩
  | .bl _, _ => ⟨rfl, rfl⟩
  | .int i, h => by
    obtain ⟨h1, h2⟩ := int_short h0 hm (of_decide_eq_true h)
    exact ⟨decide_eq_true h2, decide_eq_true (show (Str.ofString (toString i)).length ≤ 700 by omega)⟩
  | .str x, h => ⟨rfl, by
    have h : (x.cps.toList.all fun c => decide (c < 1114112)) = true := h
    show (x.cps.toList.all fun c => decide (c < 16 ^ 8)) = true
    rw [List.all_eq_true] at h ⊢
    intro c hc
    have := of_decide_eq_true (h c hc)
    exact decide_eq_true (by omega)⟩
  | .lst xs, h => gdb_showL h0 hm xs h
  | .tup xs, h => gdb_showL h0 hm xs h
  | .dic l, h => by
    cases l with
    | nil => exact ⟨rfl, rfl⟩
    | cons _ _ => cases h
  | .dit _, h => by cases h
  | .dix _ _, h => by cases h
  | .obj _ _, h => by cases h
theorem gdb_showL {m : Nat} (h0 : 0 < m) (hm : m ≤ 500) : ∀ xs : List D, gdbL m xs = true → PyData.showableAll (pyL xs) = true ∧ PyData.leavesShortAll 700 (pyL xs) = true
  | [], _ => ⟨rfl, rfl⟩
  | x :: xs, h => by
    rw [gdbL, Bool.and_eq_true] at h
    obtain ⟨a1, a2⟩ := gdb_show h0 hm x h.1
    obtain ⟨b1, b2⟩ := gdb_showL h0 hm xs h.2
    refine ⟨?_, ?_⟩
    · show (PyData.showable x.py && PyData.showableAll (pyL xs)) = true
      rw [a1, b1]; rfl
    · show (PyData.leavesShort 700 x.py && PyData.leavesShortAll 700 (pyL xs)) = true
      rw [a2, b2]; rfl
end
/-- good data: ints of so many digits, of this bulk, of this depth -/
structure GD (m n h : Nat) (d : D) : Prop where
  gd : d.gdb m = true
  bulk : d.py.bulk ≤ n
  dep : d.py.depth ≤ h
structure GDs (m n h : Nat) (xs : List D) : Prop where
  gd : gdbL m xs = true
  bulk : PyData.bulkAll (pyL xs) ≤ n
  dep : PyData.depthAll (pyL xs) ≤ h
theorem GD.repr {m n h : Nat} {d : D} (g : GD m n h d) (h0 : 0 < m) (hm : m ≤ 500) (hn : n ≤ 20000) (hh : h ≤ 60) : gReprE [d] = some (.str d.py.shown) := by
  obtain ⟨s1, s2⟩ := gdb_show h0 hm d g.gd
  have h1 := PyData.shown_le_bulk 700 (by decide) d.py s2
  have hb := g.bulk
  have hd := g.dep
  have h2 : d.py.shown.length ≤ sizeLine := by
    have : sizeLine = 16777216 := rfl
    omega
  show (if okShowE d = true then some (D.str d.py.shown) else none) = _
  rw [if_pos]
  unfold okShowE
  rw [gdb_okE d g.gd, s1, decide_eq_true h2, decide_eq_true (show d.py.depth ≤ 60 by omega)]
  rfl
mutual
theorem gdb_mono {m m' : Nat} (hm : m ≤ m') : ∀ d : D, d.gdb m = true → d.gdb m' = true
  | .non, _ => rfl
  | .bl _, _ => rfl
  | .int i, h => decide_eq_true (Nat.lt_of_lt_of_le (of_decide_eq_true h) (Nat.pow_le_pow_right (by decide) hm))
  | .str _, h => h
  | .lst xs, h => gdbL_mono hm xs h
  | .tup xs, h => gdbL_mono hm xs h
  | .dic _, h => h
  | .dit _, h => by cases h
  | .dix _ _, h => by cases h
  | .obj _ _, h => by cases h
theorem gdbL_mono {m m' : Nat} (hm : m ≤ m') : ∀ xs : List D, gdbL m xs = true → gdbL m' xs = true
  | [], _ => rfl
  | x :: xs, h => by
    rw [gdbL, Bool.and_eq_true] at h
    rw [gdbL, gdb_mono hm x h.1, gdbL_mono hm xs h.2]; rfl
end
theorem GD.le {m n h m' n' h' : Nat} {d : D} (g : GD m n h d) (hm : m ≤ m') (hn : n ≤ n') (hh : h ≤ h') : GD m' n' h' d := ⟨gdb_mono hm d g.gd, Nat.le_trans g.bulk hn, Nat.le_trans g.dep hh⟩
theorem GDs.le {m n h m' n' h' : Nat} {d : List D} (g : GDs m n h d) (hm : m ≤ m') (hn : n ≤ n') (hh : h ≤ h') : GDs m' n' h' d := ⟨gdbL_mono hm d g.gd, Nat.le_trans g.bulk hn, Nat.le_trans g.dep hh⟩
theorem GDs.nil {m n h : Nat} : GDs m n h [] := ⟨rfl, Nat.zero_le _, Nat.zero_le _⟩
theorem GDs.cons {m n n' h : Nat} {x : D} {xs : List D} (g : GD m n h x) (g' : GDs m n' h xs) : GDs m (n + 1 + n') h (x :: xs) := ⟨by rw [gdbL, g.gd, g'.gd]; rfl, by
    show x.py.bulk + 1 + PyData.bulkAll (pyL xs) ≤ _
    have := g.bulk
    have := g'.bulk
    omega, Nat.max_le.mpr ⟨g.dep, g'.dep⟩⟩
theorem GDs.inv {m n h : Nat} {x : D} {xs : List D} (g : GDs m n h (x :: xs)) : GD m n h x ∧ GDs m n h xs := by
  have h1 := g.gd
  have h2 := g.bulk
  have h3 : max x.py.depth (PyData.depthAll (pyL xs)) ≤ h := g.dep
  have h2 : x.py.bulk + 1 + PyData.bulkAll (pyL xs) ≤ n := h2
  rw [gdbL, Bool.and_eq_true] at h1
  exact ⟨⟨h1.1, by omega, by omega⟩, h1.2, by omega, by omega⟩
theorem GDs.mem {m n h : Nat} {x : D} : ∀ {xs : List D}, GDs m n h xs → x ∈ xs → GD m n h x
  | y :: xs, g, hx => by
    rcases List.mem_cons.mp hx with e | hx
    · rw [e]; exact g.inv.1
    · exact g.inv.2.mem hx
theorem GDs.app {m n n' h : Nat} : ∀ {xs ys : List D}, GDs m n h xs → GDs m n' h ys → GDs m (n + n') h (xs ++ ys)
  | [], ys, _, g => g.le (Nat.le_refl _) (Nat.le_add_left _ _) (Nat.le_refl _)
  | x :: xs, ys, g, g' => by
    have h1 := g.gd
    have h2 : x.py.bulk + 1 + PyData.bulkAll (pyL xs) ≤ n := g.bulk
    have h3 : max x.py.depth (PyData.depthAll (pyL xs)) ≤ h := g.dep
    rw [gdbL, Bool.and_eq_true] at h1
    have k := GDs.cons (m := m) (n := x.py.bulk) (h := h) ⟨h1.1, Nat.le_refl _, by omega⟩ (GDs.app (n := PyData.bulkAll (pyL xs)) ⟨h1.2, Nat.le_refl _, by omega⟩ g')
    exact k.le (Nat.le_refl _) (by omega) (Nat.le_refl _)
theorem GDs.sub {m n h : Nat} {xs ys : List D} (s : xs.Sublist ys) (g : GDs m n h ys) : GDs m n h xs := by
  induction s generalizing n with
  | slnil => exact g
  | cons a _ ih => exact ih g.inv.2
  | cons_cons a _ ih =>
    rename_i l1 l2 _
    have h1 := g.gd
    have h2 : a.py.bulk + 1 + PyData.bulkAll (pyL l2) ≤ n := g.bulk
    have h3 : max a.py.depth (PyData.depthAll (pyL l2)) ≤ h := g.dep
    rw [gdbL, Bool.and_eq_true] at h1
    have k := ih (n := PyData.bulkAll (pyL l2)) ⟨h1.2, Nat.le_refl _, by omega⟩
    exact (GDs.cons (n := a.py.bulk) ⟨h1.1, Nat.le_refl _, by omega⟩ k).le (Nat.le_refl _) (by omega) (Nat.le_refl _)
theorem GDs.len {m n h : Nat} : ∀ {xs : List D}, GDs m n h xs → xs.length ≤ n
  | [], _ => Nat.zero_le _
  | x :: xs, g => by
    have h2 : x.py.bulk + 1 + PyData.bulkAll (pyL xs) ≤ n := g.bulk
    have h1 := g.inv.2
    have k := GDs.len (n := PyData.bulkAll (pyL xs)) ⟨h1.gd, Nat.le_refl _, h1.dep⟩
    rw [List.length_cons]; omega
theorem GDs.tup {m n h : Nat} {xs : List D} (g : GDs m n h xs) : GD m n (h + 1) (.tup xs) := ⟨g.gd, g.bulk, Nat.succ_le_succ g.dep⟩
theorem GDs.lst {m n h : Nat} {xs : List D} (g : GDs m n h xs) : GD m n (h + 1) (.lst xs) := ⟨g.gd, g.bulk, Nat.succ_le_succ g.dep⟩
theorem GD.bl {m n h : Nat} (b : Bool) : GD m n h (.bl b) := ⟨rfl, Nat.zero_le _, Nat.zero_le _⟩
theorem GD.non {m n h : Nat} : GD m n h .non := ⟨rfl, Nat.zero_le _, Nat.zero_le _⟩
theorem GD.int {m n h : Nat} {i : Int} (hi : i.natAbs < 10 ^ m) : GD m n h (.int i) := ⟨decide_eq_true hi, Nat.zero_le _, Nat.zero_le _⟩
theorem GD.str {m n h : Nat} {x : Str} (hx : ∀ c ∈ tl x, c < 1114112) (hn : x.length ≤ n) : GD m n h (.str x) := ⟨by
  show (x.cps.toList.all fun c => decide (c < 1114112)) = true
  rw [List.all_eq_true]
  exact fun c hc => decide_eq_true (hx c hc), hn, Nat.zero_le _⟩
theorem gAdd_str (a b : Str) (h : a.length + b.length ≤ 16777216) : gAdd (.str a) (.str b) = some (.str (a ++ b)) := if_pos h
end DL
namespace DL
open PySem PySem.Spec PyProof.Rows L2 TL
theorem compL_pre {vs : List Nat} {g : GF} {fc : BF} {fe : EF} {E0 : Env} {l : List D} {E' : Env} : ∀ (ds acc : List D) (E : Env), compL vs g fc fe E0 ds acc E = .ok (.lst l, E') → ∃ r, l = acc ++ r
  | [], acc, E, h => by
    rw [compL] at h
    cases h
    exact ⟨[], by simp⟩
  | d :: ds, acc, E, h => by
    rw [compL] at h
    cases e1 : g d (wipeE E vs) with
    | none => rw [e1] at h; cases h
    | some E1 =>
      rw [e1] at h
      have h : (noErr (fc E1)).bind _ = _ := h
      cases e2 : fc E1 with
      | ok p =>
        rw [e2] at h
        obtain ⟨b, E2⟩ := p
        cases b with
        | false => exact compL_pre ds acc _ h
        | true =>
          have h : (noErr (fe E2)).bind _ = _ := h
          cases e3 : fe E2 with
          | ok q =>
            rw [e3] at h
            obtain ⟨w, E3⟩ := q
            cases w with
            | own _ => cases h
            | dat y =>
              obtain ⟨r, hr⟩ := compL_pre ds (acc ++ [y]) _ h
              exact ⟨y :: r, by rw [hr]; simp⟩
          | err _ _ => rw [e3] at h; cases h
          | stuck => rw [e3] at h; cases h
      | err _ _ => rw [e2] at h; cases h
      | stuck => rw [e2] at h; cases h
theorem compL_ne {vs : List Nat} {g : GF} {fc : BF} {fe : EF} {E0 : Env} {x : ExV} {E' : Env} : ∀ (ds acc : List D) (E : Env), compL vs g fc fe E0 ds acc E ≠ .err x E'
  | [], acc, E, h => by rw [compL] at h; cases h
  | d :: ds, acc, E, h => by
    rw [compL] at h
    cases e1 : g d (wipeE E vs) with
    | none => rw [e1] at h; cases h
    | some E1 =>
      rw [e1] at h
      have h : (noErr (fc E1)).bind _ = _ := h
      cases e2 : fc E1 with
      | ok p =>
        rw [e2] at h
        obtain ⟨b, E2⟩ := p
        cases b with
        | false => exact compL_ne ds acc _ h
        | true =>
          have h : (noErr (fe E2)).bind _ = _ := h
          cases e3 : fe E2 with
          | ok q =>
            rw [e3] at h
            obtain ⟨w, E3⟩ := q
            cases w with
            | own _ => cases h
            | dat y => exact compL_ne ds (acc ++ [y]) _ h
          | err _ _ => rw [e3] at h; cases h
          | stuck => rw [e3] at h; cases h
      | err _ _ => rw [e2] at h; cases h
      | stuck => rw [e2] at h; cases h
/-- one turn, told by the whole -/
theorem compL_turnI {vs : List Nat} {g : GF} {fc : BF} {fe : EF} {E0 E E' : Env} {l : List D} {d : D} {ds acc : List D} (h : compL vs g fc fe E0 (d :: ds) acc E = .ok (.lst l, E')) :
    ∃ E1 b E2, g d (wipeE E vs) = some E1 ∧ fc E1 = .ok (b, E2) ∧ ((b = true ∧ ∃ y E3, fe E2 = .ok (.dat y, E3) ∧ compL vs g fc fe E0 ds (acc ++ [y]) (backE E0 E3 vs) = .ok (.lst l, E')) ∨ (b = false ∧ compL vs g fc fe E0 ds acc (backE E0 E2 vs) = .ok (.lst l, E'))) := by
  rw [compL] at h
  cases e1 : g d (wipeE E vs) with
  | none => rw [e1] at h; cases h
  | some E1 =>
    rw [e1] at h
    have h : (noErr (fc E1)).bind _ = _ := h
    cases e2 : fc E1 with
    | ok p =>
      rw [e2] at h
      obtain ⟨b, E2⟩ := p
      refine ⟨E1, b, E2, rfl, e2, ?_⟩
      cases b with
      | false => exact .inr ⟨rfl, h⟩
      | true =>
        have h : (noErr (fe E2)).bind _ = _ := h
        cases e3 : fe E2 with
        | ok q =>
          rw [e3] at h
          obtain ⟨w, E3⟩ := q
          cases w with
          | own _ => cases h
          | dat y => exact .inl ⟨rfl, y, E3, rfl, h⟩
        | err _ _ => rw [e3] at h; cases h
        | stuck => rw [e3] at h; cases h
    | err _ _ => rw [e2] at h; cases h
    | stuck => rw [e2] at h; cases h
theorem rowsD_mem {l : List D} {ks : List (List Int)} (h : rowsD l = some ks) : l = ks.map dI := by
  induction l generalizing ks with
  | nil => cases h; rfl
  | cons d l ih =>
    have h : ((unI d).bind fun k => (rowsD l).map (k :: ·)) = some ks := h
    cases q : unI d with
    | none => rw [q] at h; cases h
    | some k =>
      rw [q] at h
      have h : (rowsD l).map (k :: ·) = some ks := h
      cases q2 : rowsD l with
      | none => rw [q2] at h; cases h
      | some m =>
        rw [q2] at h
        cases h
        rw [ih q2, unI_eq q]; rfl
theorem dI_inj {a b : List Int} (h : dI a = dI b) : a = b := by
  have h1 := unI_dI a
  rw [h, unI_dI] at h1
  exact (Option.some.inj h1).symm
section
variable {X : Cx} {Wi : Wish} {elt tg iter : Expr} {ifs : List Expr} {scope : Scope} {own : List (Str × Nat)} {p pos pos1 : Pos} {fi : IF} {g : GF} {ts : List Nat} {fc : BF} {fe : EF}
end
end DL
namespace DL
open PySem PySem.Spec PyProof.Rows L2 TL
@[simp] theorem fits_none (E : Env) : fits none E = true := rfl
@[simp] theorem fits_some (i : Nat) (E : Env) : fits (some i) E = decide (i < E.length) := rfl
@[simp] theorem ret_err (x : ExV) (E0 E : Env) : ret (.err x E0) E = .err x E := rfl
def Ox {α : Type} (r : Res α) (Q : α → Prop) (X : ExV → Prop) : Prop := match r with
  | .ok a => Q a
  | .err x _ => X x
  | .stuck => False
section
variable {α : Type} {r : Res α} {a : α} {P Q : α → Prop} {X Y : ExV → Prop}
@[simp] theorem Ox_ok : Ox (.ok a) Q X ↔ Q a := Iff.rfl
@[simp] theorem Ox_err {x : ExV} {E : Env} : Ox (.err x E : Res α) Q X ↔ X x := Iff.rfl
theorem Ox.cps (h : ∀ (P : α → Prop) (Z : ExV → Prop), (∀ a, Q a → P a) → (∀ x, X x → Z x) → Ox r P Z) : Ox r Q X := h Q X (fun _ h => h) fun _ h => h
theorem Ox.mono (h : Ox r P Y) (i : ∀ a, P a → Q a) (j : ∀ x, Y x → X x) : Ox r Q X := by
  cases r with
  | ok a => exact i _ h
  | err x E => exact j _ h
  | stuck => exact h
end
section
variable {α σ : Type} {E E' E1 : Env} {s1 s2 body : SF} {fi : IF} {g : GF} {Q : Fl × Env → Prop} {X : ExV → Prop}
end
end DL
namespace DL
open PySem PySem.Spec PyProof.Rows L2 TL
end DL
namespace DL
open PySem PySem.Spec PyProof.Rows L2 TL
end DL
namespace DL
open PySem PySem.Spec PyProof.Rows L2 TL
section
variable {α β γ : Type} [DecidableEq α] [DecidableEq β] [DecidableEq γ] {f : α → D} {g : β → D} {h : γ → D} {n m k : Nat} {lt : α → α → Bool} {lt2 : β → β → Bool} {lt3 : γ → γ → Bool}
end
def kI (k : List Int) : List Key := k.map .inl
def dTI (ks : List (List Int)) : D := .dit (ks.map fun k => (kI k, .bl true))
end DL
namespace DL
open PySem PySem.Spec PyProof.Rows L2 TL
section
variable {X : Cx}
end
end DL
namespace DL
open PySem PySem.Spec PyProof.Rows L2 TL
def signsF (x : List Nat) : List Nat := sortB ltN (onceL x)
def gSortTx : List D → Option D
  | [.str x] => if (tl x).length < 64 then some (.lst ((signsF (tl x)).map dC)) else none
  | _ => none
theorem signsF_asc (x : List Nat) : (signsF x).Pairwise fun a b => ltN a b = true := ordN.asc once_nodup
theorem mem_signsF {x : List Nat} {c : Nat} : c ∈ signsF x ↔ c ∈ x := by rw [signsF, mem_sortB, mem_once]
theorem sgns_of : ∀ {ys : List Str}, (∀ y ∈ ys, ∃ c, y = sgn c) → ∃ zs : List Nat, ys = zs.map sgn
  | [], _ => ⟨[], rfl⟩
  | y :: ys, h => by
    obtain ⟨c, hc⟩ := h y List.mem_cons_self
    obtain ⟨zs, hz⟩ := sgns_of fun z hz => h z (List.mem_cons_of_mem _ hz)
    exact ⟨c :: zs, by rw [hc, hz]; rfl⟩
theorem sgn_inj {a b : Nat} (h : sgn a = sgn b) : a = b := by
  have : [a] = [b] := congrArg (fun z : Str => z.cps.toList) h
  exact (List.cons.inj this).1
theorem rising_sgn : ∀ {r : List Nat} {a : Nat}, risingS (sgn a) (r.map sgn) = true → (a :: r).Pairwise (· ≤ ·)
  | [], a, _ => List.pairwise_singleton _ _
  | b :: r, a, h => by
    have h : (!ltCps [b] [a] && risingS (sgn b) (r.map sgn)) = true := h
    rw [Bool.and_eq_true] at h
    have ih := rising_sgn h.2
    have hab : a ≤ b := by
      have := h.1
      simp [ltCps] at this
      omega
    refine List.pairwise_cons.mpr ⟨fun c hc => ?_, ih⟩
    rcases List.mem_cons.mp hc with z | z
    · rw [z]; exact hab
    · exact Nat.le_trans hab ((List.pairwise_cons.mp ih).1 c z)
theorem sorted_sgn {zs : List Nat} (h : sortedS (zs.map sgn) = true) : zs.Pairwise (· ≤ ·) := by
  cases zs with
  | nil => exact .nil
  | cons a r => exact rising_sgn h
theorem signT_mem {x : Str} {c : Nat} : sgn c ∈ signT x x.cps.size ↔ c ∈ tl x := by
  unfold signT
  have e : x.cps.toList.take x.cps.size = x.cps.toList := List.take_of_length_le (by rw [Array.length_toList]; exact Nat.le_refl _)
  rw [e, List.mem_map]
  exact ⟨fun ⟨d, hd, q⟩ => sgn_inj (show sgn d = sgn c from q) ▸ hd, fun h => ⟨c, h, rfl⟩⟩
theorem sorted_signs {x : Str} {l ys : List Str} (m : ∀ y, y ∈ l ↔ y ∈ signT x x.cps.size) (nd : l.Nodup) (p : ys.Perm l) (s : sortedS ys = true) : ys = (signsF (tl x)).map sgn := by
  obtain ⟨zs, rfl⟩ := sgns_of (ys := ys) fun y hy => by
    have := (m y).mp (p.mem_iff.mp hy)
    obtain ⟨c, _, e⟩ := List.mem_map.mp this
    exact ⟨c, e.symm⟩
  have zn : zs.Nodup := List.Pairwise.of_map sgn (fun a b hne e => hne (congrArg sgn e)) (p.nodup_iff.mpr nd)
  have za : zs.Pairwise fun a b => ltN a b = true := ((sorted_sgn s).and zn).imp fun {a b} ⟨h1, h2⟩ => decide_eq_true (Nat.lt_of_le_of_ne h1 h2)
  have : zs = signsF (tl x) := ordN.ext za (signsF_asc _) fun c => by
    rw [mem_signsF, ← signT_mem, ← m, ← p.mem_iff]
    exact ⟨fun h => List.mem_map.mpr ⟨c, h, rfl⟩, fun h => by
      obtain ⟨d, hd, e⟩ := List.mem_map.mp h
      exact sgn_inj e ▸ hd⟩
  rw [this]
def rSSTx (P : Program) (w : World) : List V → Hp → VK → Prop := fun xs H Q => rSetTx P w xs H fun x H2 => rSortTx P w [x] H2 Q
theorem calln_sortTx {K : PySem.W.Frag} {P : Program} {w : World} : CallN K (rSSTx P w) gSortTx := by
  intro G H xs ds d Q s h e z
  match ds, e with
  | [.str x], e =>
    obtain ⟨few, rfl⟩ := ifs_some (show (if (tl x).length < 64 then some (D.lst ((signsF (tl x)).map dC)) else none) = some d from e)
    obtain ⟨v, rfl, b⟩ := h.one
    obtain ⟨rfl, ok⟩ := b.str
    refine ⟨x, rfl, few, fun S l hS m hl nd => ⟨S, l, rfl, upd_same, hl, fun ys p pl so hp => ?_⟩⟩
    rw [sorted_signs m nd pl so]
    have hpS : p ≠ S := fun e => by rw [e, upd_same] at hp; cases hp
    rw [upd_ne hpS] at hp
    have u1 : Same H (upd (upd H S (SetXO P w S l)) p (.lst (((signsF (tl x)).map sgn).map V.str))) := fun b u q => by
      have hb : b ≠ p := ne_of_none q hp
      rw [upd_ne hb, upd_ne (ne_of_none q hS)]; exact q
    refine z p _ hp u1 ⟨_, upd_same, ?_, ?_⟩
    · rw [List.length_map, List.length_map, sizeLine_eq]
      have h1 := congrArg List.length (sorted_signs m nd pl so)
      rw [List.length_map, pl.length_eq] at h1
      omega
    · rw [List.map_map]
      have key : ∀ zs : List Nat, (∀ c ∈ zs, SOk (sgn c)) → DDs K G (zs.map fun c => V.str (sgn c)) (zs.map dC) := by
        intro zs
        induction zs with
        | nil => exact fun _ => .nil
        | cons c zs ih => exact fun h => .cons (.str _ (h c List.mem_cons_self)) (ih fun d hd => h d (List.mem_cons_of_mem _ hd))
      exact key _ fun c hc => sok_sgn ok (mem_signsF.mp hc)
theorem dn_sortTx {X : Cx} {Wi : Wish} {e : Expr} {p p2 pos pos2 : Pos} {fs : AF} (hc : X.calm = true) (hg : Gl X "sorted") (hm : X.mg "sorted" = none) (hg2 : Gl X "set") (hm2 : X.mg "set" = none) (ha : DA X Wi [e] fs)
    (he : starEach [e] X.env = (false, eval e X.env) :: starEach [] X.env := by rfl) (hpl : (backTo pos2 (starEach [] X.env)).any (·.1) = false := by rfl)
    (he2 : starEach [Expr.Call (.Name "set" p2) [e] [] pos2] X.env = (false, eval (Expr.Call (.Name "set" p2) [e] [] pos2) X.env) :: starEach [] X.env := by rfl) (hpl2 : (backTo pos (starEach [] X.env)).any (·.1) = false := by rfl) :
    DN X Wi (.Call (.Name "sorted" p) [.Call (.Name "set" p2) [e] [] pos2] [] pos) (nCall gSortTx fs) :=
  PE.imp (pe_callB (cr_sortX hc) hg hm PyProof.Rows.boot_sorted (pa_cons (pe_callTy (cr_setX hc) hg2 hm2 PyProof.Rows.boot_set ha (he := he) (hpl := hpl)) pa_nil he2) (he := he2) (hpl := hpl2)) fun σ H Q q => tCBN_of (calln_sortTx (P := X.prog) (w := X.w)) σ H Q q
end DL
namespace DL
open PySem PySem.Spec PyProof.Rows L2 TL
def okRowsM (ks : List (List Int)) : Bool := decide ((onceL ks).length < 63) && (ks.all (fun k => !k.isEmpty) || ks.all fun k => k.isEmpty)
def gSortSetM : List D → Option D
  | [.lst ds] => (rowsD ds).bind fun ks => if okRowsM ks = true then some (.lst ((setRows ks).map dI)) else none
  | _ => none
def nSortCM (vs : List Nat) (fi : IF) (g : GF) (fc : BF) (fe : EF) : NF := fun E => (nComp vs fi g fc fe E).bind fun c => (ofO (gSortSetM [c.1])).bind fun d => .ok (d, c.2)
theorem nSortCM_eq (vs : List Nat) (fi : IF) (g : GF) (fc : BF) (fe : EF) : nCall gSortSetM (aC (eN (nComp vs fi g fc fe)) aN) = nSortCM vs fi g fc fe := by
  funext E
  unfold nCall aC eN nSortCM aN
  cases nComp vs fi g fc fe E with
  | ok c => rfl
  | err _ _ => rfl
  | stuck => rfl
theorem tStM_of {K : PySem.W.Frag} {P : Program} {w : World} {Wi : Wish} {fi : IF} {g : GF} {ts vs : List Nat} {fc : BF} {fe : EF} {tt : TT} {te : TE} (hts : ∀ t ∈ ts, t ∈ vs)
    (ht : ∀ σ H Q, tT K W0 fc σ H Q → tt σ H Q) (he : ∀ σ H Q, tE K W0 fe σ H Q → te σ H Q) :
    ∀ σ H Q, tN K Wi (nSortCM vs fi g fc fe) σ H Q → tSt K P w (tI K Wi fi) (tG K ts g) tt te vs σ H fun x H1 => rSortS K P w [x] H1 Q := by
  intro σ H Q q
  obtain ⟨F, G, E, as, st, p⟩ := q
  have p : PoN K Wi F G σ Q ((fi E).bind fun z => (if vs.all (fun v => plainC z.2[v]?) = true then compL vs g fc fe z.2 z.1 [] z.2 else .stuck).bind fun c => (ofO (gSortSetM [c.1])).bind fun d => .ok (d, c.2)) := by
    unfold nSortCM nComp at p
    rw [Res.assoc] at p
    exact p
  refine ⟨F, G, E, as, st, PoI.mono (fun J H1 m => ?_) (PoI.bindN p)⟩
  obtain ⟨ds, G1, E1, as1, s1, st1, jd, p1⟩ := m
  intro D0 hD
  have p1 : PoN K Wi F G1 σ Q ((if vs.all (fun v => plainC E1[v]?) = true then compL vs g fc fe E1 ds [] E1 else .stuck).bind fun c => (ofO (gSortSetM [c.1])).bind fun d => .ok (d, c.2)) := p1
  have hpl : vs.all (fun v => plainC E1[v]?) = true := by
    refine Decidable.byContradiction fun h => ?_
    rw [if_neg h] at p1
    exact p1.elim
  rw [if_pos hpl] at p1
  have hpl' : ∀ v ∈ vs, plainC E1[v]? = true := List.all_eq_true.mp hpl
  -- what comes of it
  obtain ⟨l, E9, ks, hr, hks, hok, pd⟩ : ∃ l E9 ks, compL vs g fc fe E1 ds [] E1 = .ok (.lst l, E9) ∧ l = ks.map dI ∧ okRowsM ks = true ∧ PoN K Wi F G1 σ Q (.ok (.lst ((setRows ks).map dI), E9)) := by
    cases hc : compL vs g fc fe E1 ds [] E1 with
    | ok c =>
      rw [hc] at p1
      obtain ⟨d, ed, pd⟩ := PoN.of p1
      obtain ⟨cd, cE⟩ := c
      cases cd with
      | lst l =>
        have ed : ((rowsD l).bind fun ks => if okRowsM ks = true then some (D.lst ((setRows ks).map dI)) else none) = some d := ed
        cases q : rowsD l with
        | none => rw [q] at ed; cases ed
        | some ks =>
          rw [q] at ed
          obtain ⟨hok, rfl⟩ := ifs_some (show (if okRowsM ks = true then some (D.lst ((setRows ks).map dI)) else none) = some d from ed)
          exact ⟨l, cE, ks, rfl, rowsD_mem q, hok, pd⟩
      | _ => cases ed
    | err x E2 => exact absurd hc (compL_ne ds [] E1)
    | stuck => rw [hc] at p1; exact p1.elim
  clear p1
  have lks : l.length = ks.length := by rw [hks, List.length_map]
  unfold okRowsM at hok
  rw [Bool.and_eq_true, decide_eq_true_eq, Bool.or_eq_true, List.all_eq_true, List.all_eq_true] at hok
  have al0 : Al G1 H1 G1 (upd H1 D0 (SetTO P w D0 [])) := Al.grow st1.s1 fun b u q => by rw [upd_ne (ne_of_none q hD)]; exact q
  refine ⟨fun i m H => m = ds.length - i ∧ i ≤ ds.length ∧ ∃ (acc : List D) (L : List (Addr × List Int)) (G2 : Hp) (E2 : Env) (as2 : Nat → List Addr), Same G1 G2 ∧ StE K F G2 H σ E2 as2 ∧ H D0 = some (SetTO P w D0 L) ∧ G2 D0 = none ∧ (∀ j, D0 ∉ as2 j) ∧ (∀ p ∈ L, DD K G2 (.ref p.1) (dI p.2)) ∧ (∀ k, k ∈ L.map (·.2) ↔ dI k ∈ acc) ∧ (L.map (·.2)).Nodup ∧
    compL vs g fc fe E1 (ds.drop i) acc E2 = .ok (.lst l, E9), ⟨ds.length, by simp, Nat.zero_le _, [], [], G1, E1, as1, Same.refl _, st1.al al0, upd_same, st1.s1.free hD, fun j hj => ?_, (fun _ z => nomatch z), (fun k => by simp), List.nodup_nil, hr⟩, ?_⟩
  · obtain ⟨o, q⟩ := st1.there hj
    rw [hD] at q; cases q
  rintro i m H ⟨rfl, hi, acc, L, G2, E2, as2, s2, st2, hd, gD, nD, dL, kL, lL, p2⟩
  have fD : F.H0 D0 = none := st1.dom D0 hD
  have sqOf : ∀ {G' H' : Hp} {a : Addr} {k : List Int}, Same G' H' → DD K G' (.ref a) (dI k) → SqT K H' a (k.map V.int) := fun {G' H' a k} sm dd => by
    cases dd with
    | tup hg hz dd =>
      rw [dds_ints' dd] at hg
      exact SqT.of (sm _ _ hg)
  by_cases hlt : i < ds.length
  · refine .inr ⟨jd.go G2 H i s2 st2.s1 hlt, fun H' => i + 1 ≤ ds.length ∧ ∃ (acc : List D) (L : List (Addr × List Int)) (G2 : Hp) (E2 : Env) (as2 : Nat → List Addr), Same G1 G2 ∧ StE K F G2 H' σ E2 as2 ∧ H' D0 = some (SetTO P w D0 L) ∧ G2 D0 = none ∧ (∀ j, D0 ∉ as2 j) ∧ (∀ p ∈ L, DD K G2 (.ref p.1) (dI p.2)) ∧ (∀ k, k ∈ L.map (·.2) ↔ dI k ∈ acc) ∧ (L.map (·.2)).Nodup ∧
      compL vs g fc fe E1 (ds.drop (i + 1)) acc E2 = .ok (.lst l, E9), fun H' z => ⟨ds.length - (i + 1), by omega, rfl, z⟩, fun x H' y => ?_⟩
    have hx : ds[i]? = some ds[i] := List.getElem?_eq_getElem hlt
    obtain ⟨G3, al, dd⟩ := jd.yld G2 H i _ x H' s2 st2.s1 hx y
    have st3 := st2.al al
    rw [List.drop_eq_getElem_cons hlt] at p2
    obtain ⟨E4, b, E5, e4, e5, p5⟩ := compL_turnI p2
    have gD3 : G3 D0 = none := by
      cases q : G3 D0 with
      | none => rfl
      | some u => exact absurd (al.new D0 _ (by rw [q]; exact fun z => nomatch z) gD hd) (fun z => nomatch z)
    have hd3 : H' D0 = some (SetTO P w D0 L) := al.h _ _ hd
    have stw := st3.wipe vs
    have nDw : ∀ j, D0 ∉ dropA as2 vs j := by
      have key : ∀ us : List Nat, ∀ j, D0 ∉ dropA as2 us j := by
        intro us
        induction us with
        | nil => exact nD
        | cons v us ih =>
          intro j hj
          by_cases e : j = v
          · rw [dropA, e, drp_same] at hj; cases hj
          · rw [dropA, drp_ne e] at hj; exact ih j hj
      exact key vs
    have sti := stw.in_
    have nOwn : D0 ∉ own (dropA as2 vs) (wipeE E2 vs).length := fun z => by
      obtain ⟨j, hj⟩ := of_own z
      exact nDw j hj
    refine ⟨_, G3, wipeE E2 vs, dropA as2 vs, ds[i], sti, dd, E4, e4, fun σ4 as4 st4 k4 l4 => ⟨wipe_eq (fun j hj => k4 j fun z => hj (hts j z)) l4, ?_⟩⟩
    refine ht _ _ _ ⟨_, G3, E4, as4, st4, ?_⟩
    rw [e5]
    intro G5 H5 as5 s5 st5
    have hσ : ∀ j, j ∉ vs → σ4[j]? = σ[j]? := fun j hj => (k4 j fun z => hj (hts j z)).trans (wipe_get hj)
    have hlen : σ4.length = σ.length := l4.trans (wipe_length σ vs)
    have keepD : ∀ {G6 H6 : Hp} {E6 : Env} {as6 : Nat → List Addr}, StE K (inner F G3 H' (dropA as2 vs) (wipeE E2 vs).length) G6 H6 σ4 E6 as6 → H6 D0 = some (SetTO P w D0 L) ∧ G6 D0 = none := fun {G6 H6 E6 as6} st6 => by
      refine ⟨st6.keep D0 _ hd3 nOwn, ?_⟩
      cases q : G6 D0 with
      | none => rfl
      | some u => exact absurd gD3 (st6.priv D0 _ (by rw [q]; exact fun z => nomatch z) hd3 rfl nOwn)
    have hcell : ∀ v ∈ vs, plainC E1[v]? = true ∧ ∀ d, E1[v]? = some (.dat d) → ∃ x, σ[v]? = some (some x) ∧ DD K G1 x d := fun v hv => ⟨hpl' v hv, fun d hd => by
      obtain ⟨x, e1, _, z, rfl, dd⟩ := st1.cell v _ hd
      exact ⟨z, e1, dd⟩⟩
    have backD : ∀ {G6 H6 : Hp} {E6 : Env} {as6 : Nat → List Addr}, Same G3 G6 → StE K (inner F G3 H' (dropA as2 vs) (wipeE E2 vs).length) G6 H6 σ4 E6 as6 → ∃ as7, StE K F G6 H6 σ (backE E1 E6 vs) as7 ∧ ∀ j, D0 ∉ as7 j := fun {G6 H6 E6 as6} s6 st6 => by
      obtain ⟨as7, st7, h7⟩ := StE.back hcell ((s2.trans al.g).trans s6) (stw.out st6) hσ hlen
      refine ⟨as7, st7, fun j hj => ?_⟩
      obtain ⟨k, hk⟩ := h7 j D0 hj
      rcases (st6.off k D0 hk).2 with z | z
      · have z : H' D0 = none := z
        rw [hd3] at z; cases z
      · exact nOwn z
    rcases p5 with ⟨rfl, y, E6, e6, p6⟩ | ⟨rfl, p6⟩
    · rw [if_pos rfl]
      obtain ⟨r, hlr⟩ := compL_pre _ _ _ p6
      have hacc : ∀ k, dI k ∈ acc → k ∈ onceL ks := fun k hk => by
        have hy : dI k ∈ ks.map dI := by rw [← hks, hlr]; simp [hk]
        obtain ⟨k', hk', e⟩ := List.mem_map.mp hy
        rw [mem_once, ← dI_inj e]; exact hk'
      have hfew : L.length + 1 < 64 := by
        have := nodup_sub_len lL fun k hk => hacc k ((kL k).mp hk)
        rw [List.length_map] at this
        omega
      obtain ⟨k, rfl⟩ : ∃ k, y = dI k := by
        have hy : y ∈ ks.map dI := by rw [← hks, hlr]; simp
        obtain ⟨k, _, e⟩ := List.mem_map.mp hy
        exact ⟨k, e.symm⟩
      refine he _ _ _ ⟨_, G5, E5, as5, st5, ?_⟩
      rw [e6]
      intro v G7 H7 as7 s7 st7 wo7
      have wo7 : DD K G7 v (dI k) := wo7
      obtain ⟨hD7, gD7⟩ := keepD st7
      obtain ⟨as8, st8, n8⟩ := backD (s5.trans s7) st7
      have up7 : Same G2 G7 := (al.g.trans s5).trans s7
      obtain ⟨pa, rfl⟩ : ∃ pa, v = .ref pa := by cases wo7 with | tup _ _ _ => exact ⟨_, rfl⟩
      refine ⟨pa, k, L, rfl, hD7, fun q hq => sqOf st7.s1 ((dL q hq).up up7), sqOf st7.s1 wo7, hfew, fun L' c1 c2 => ⟨hlt, acc ++ [dI k], L', G7, _, as8, (s2.trans up7), st8.wr gD7 fD n8 (by rw [hD7]; exact fun z => nomatch z), upd_same, gD7, n8, ?_, ?_, ?_, p6⟩⟩
      · by_cases hk : k ∈ L.map (·.2)
        · rw [c1 hk]; exact fun q hq => (dL q hq).up up7
        · intro q hq
          rcases List.mem_cons.mp ((c2 hk).mem_iff.mp hq) with z | z
          · rw [z]; exact wo7
          · exact (dL q z).up up7
      · intro k'
        by_cases hk : k ∈ L.map (·.2)
        · rw [c1 hk, kL, List.mem_append, List.mem_singleton]
          exact ⟨.inl, fun z => z.elim id fun e => by rw [e]; exact (kL k).mp hk⟩
        · rw [((c2 hk).map (·.2)).mem_iff, List.map_cons, List.mem_cons, kL, List.mem_append, List.mem_singleton]
          exact ⟨fun z => z.elim (fun e => .inr (by rw [e])) .inl, fun z => z.elim .inr fun e => .inl (dI_inj e)⟩
      · by_cases hk : k ∈ L.map (·.2)
        · rw [c1 hk]; exact lL
        · exact ((c2 hk).map (·.2)).nodup_iff.mpr (List.nodup_cons.mpr ⟨hk, lL⟩)
    · rw [if_neg Bool.false_ne_true]
      obtain ⟨hD7, gD7⟩ := keepD st5
      obtain ⟨as8, st8, n8⟩ := backD s5 st5
      have up5 : Same G2 G5 := al.g.trans s5
      exact ⟨hlt, acc, L, G5, _, as8, s2.trans up5, st8, hD7, gD7, n8, fun q hq => (dL q hq).up up5, kL, lL, p6⟩
  · have e : i = ds.length := by omega
    subst e
    rw [List.drop_length] at p2
    rw [compL] at p2
    cases p2
    refine .inl ⟨jd.stop G2 H s2 st2.s1, D0, L, rfl, hd, fun q hq => sqOf st2.s1 (dL q hq), ?_, fun L' p pm nd pw hp' hl => ?_⟩
    · have inK : ∀ q ∈ L, q.2 ∈ ks := fun q hq => by
        have h1 := (kL q.2).mp (List.mem_map.mpr ⟨q, hq, rfl⟩)
        rw [hks] at h1
        obtain ⟨k, hk, e⟩ := List.mem_map.mp h1
        rw [← dI_inj e]; exact hk
      rcases hok.2 with z | z
      · exact .inl fun q hq e => by
          have := z q.2 (inK q hq)
          rw [e] at this; cases this
      · exact .inr fun q hq => List.isEmpty_iff.mp (z q.2 (inK q hq))
    · have grow : Same H (upd H p (.lst (L'.map fun q => V.ref q.1))) := fun b u e => by rw [upd_ne (ne_of_none e hp')]; exact e
      have al9 : Al G2 H G2 (upd H p (.lst (L'.map fun q => V.ref q.1))) := Al.grow st2.s1 grow
      refine pd p G2 _ as2 s2 (st2.al al9) (st2.s1.free hp') (st2.dom p hp') (fun j hj => ?_) ⟨_, upd_same, ?_, ?_⟩
      · obtain ⟨u, q⟩ := st2.there hj
        rw [hp'] at q; cases q
      · rw [List.length_map, sizeLine_eq]; omega
      · have eq : L'.map (·.2) = setRows ks := by
          refine ordRow.ext ?_ (ordRow.asc once_nodup) fun k => ?_
          · refine (pw.and nd).imp fun {x y} ⟨h1, h2⟩ => ?_
            unfold leB at h1
            rw [Bool.not_eq_true'] at h1
            rcases ordRow.tri x y with q | q | q
            · exact q
            · exact absurd q h2
            · rw [q] at h1; cases h1
          · rw [setRows, mem_sortB, mem_once, (pm.map (·.2)).mem_iff, kL, hks]
            exact ⟨fun h => by
              obtain ⟨k', hk', e⟩ := List.mem_map.mp h
              rw [← dI_inj e]; exact hk', fun h => List.mem_map.mpr ⟨k, h, rfl⟩⟩
        rw [← eq, List.map_map]
        have key : ∀ l : List (Addr × List Int), (∀ p ∈ l, DD K G2 (.ref p.1) (dI p.2)) → DDs K G2 (l.map fun q => V.ref q.1) (l.map (dI ∘ fun x => x.2)) := by
          intro l
          induction l with
          | nil => intro _; exact .nil
          | cons p l ih => intro h; exact .cons (h p List.mem_cons_self) (ih fun q hq => h q (List.mem_cons_of_mem _ hq))
        exact key L' fun q hq => dL q (pm.mem_iff.mp hq)
section
variable {X : Cx} {Wi : Wish} {elt tg iter : Expr} {ifs : List Expr} {scope : Scope} {own : List (Str × Nat)} {p pos pos1 : Pos} {fi : IF} {g : GF} {ts : List Nat} {fc : BF} {fe : EF}
theorem dn_sortCM (hu : X.A.units + 64 < cLine) (gl : Gl X "sorted") (hm : X.mg "sorted" = none) (hc : X.calm = true) (hN : X.N.Nodup) (hi : DI X Wi tg iter fi) (ok : BlkOk X.N X.env.scope scope own)
    (hg : ∀ (s : Shared) (H : Hp) (C : Addr) (cl : List (Str × Addr)) (fp : List Addr), DG (X.blk s H scope (compEnvC scope cl C X.env) fp) tg ts g)
    (ht : ∀ (s : Shared) (H : Hp) (C : Addr) (cl : List (Str × Addr)) (fp : List Addr), DQs (X.blk s H scope (compEnvC scope cl C X.env) fp) ifs fc)
    (he : ∀ (s : Shared) (H : Hp) (C : Addr) (cl : List (Str × Addr)) (fp : List Addr), DE (X.blk s H scope (compEnvC scope cl C X.env) fp) W0 elt fe)
    (hts : ∀ t ∈ ts, t ∈ own.map (·.2) := by decide) (hs : ∀ x, foldedSetIterable iter X.env x = pure x := by intro _; rfl)
    (he2 : starEach [Expr.SetComp elt [⟨tg, iter, ifs, 0⟩] scope pos1] X.env = (false, eval (Expr.SetComp elt [⟨tg, iter, ifs, 0⟩] scope pos1) X.env) :: starEach [] X.env := by rfl) (hpl2 : (backTo pos (starEach [] X.env)).any (·.1) = false := by rfl) :
    DN X Wi (.Call (.Name "sorted" p) [.SetComp elt [⟨tg, iter, ifs, 0⟩] scope pos1] [] pos) (nCall gSortSetM (aC (eN (nComp (own.map (·.2)) fi g fc fe)) aN)) := by
  rw [nSortCM_eq]
  exact PE.imp (pe_callB (cr_sortS hc hu) gl hm PyProof.Rows.boot_sorted (pa_cons (pe_st hu hc hN hi ok hg ht he hs) pa_nil he2) (he := he2) (hpl := hpl2)) fun σ H Q q => tStM_of hts (fun _ _ _ q => q) (fun _ _ _ q => q) σ H Q q
end

theorem dn_or {X : Cx} {Wi : Wish} {e : Expr} {f f1 f2 : NF} (h1 : DN X Wi e f1) (h2 : DN X Wi e f2) (h : ∀ E, f E = f1 E ∨ f E = f2 E) : DN X Wi e f := by
  refine ⟨fun pins s σ H Q I q => ?_⟩
  obtain ⟨F, G, E, as, st, p⟩ := q
  rcases h E with r | r
  · rw [r] at p; exact h1.run pins s σ H Q I ⟨F, G, E, as, st, p⟩
  · rw [r] at p; exact h2.run pins s σ H Q I ⟨F, G, E, as, st, p⟩
def gOr (g1 g2 : List D → Option D) : List D → Option D := fun ds => match g1 ds with
  | some d => some d
  | none => g2 ds
theorem nCall_or (g1 g2 : List D → Option D) (fs : AF) (E : Env) : nCall (gOr g1 g2) fs E = nCall g1 fs E ∨ nCall (gOr g1 g2) fs E = nCall g2 fs E := by
  unfold nCall
  cases fs E with
  | ok p =>
    show ((rds p.2 p.1).bind fun ds => (ofO (gOr g1 g2 ds)).bind fun d => Res.ok (d, p.2)) = ((rds p.2 p.1).bind fun ds => (ofO (g1 ds)).bind fun d => .ok (d, p.2)) ∨ ((rds p.2 p.1).bind fun ds => (ofO (gOr g1 g2 ds)).bind fun d => Res.ok (d, p.2)) = ((rds p.2 p.1).bind fun ds => (ofO (g2 ds)).bind fun d => .ok (d, p.2))
    cases rds p.2 p.1 with
    | ok ds =>
      show ((ofO (gOr g1 g2 ds)).bind fun d => Res.ok (d, p.2)) = ((ofO (g1 ds)).bind fun d => .ok (d, p.2)) ∨ ((ofO (gOr g1 g2 ds)).bind fun d => Res.ok (d, p.2)) = ((ofO (g2 ds)).bind fun d => .ok (d, p.2))
      unfold gOr
      cases g1 ds with
      | some d => exact .inl rfl
      | none => exact .inr rfl
    | err _ _ => exact .inl rfl
    | stuck => exact .inl rfl
  | err _ _ => exact .inl rfl
  | stuck => exact .inl rfl
theorem dn_callOr {X : Cx} {Wi : Wish} {e : Expr} {g1 g2 : List D → Option D} {fs : AF} (h1 : DN X Wi e (nCall g1 fs)) (h2 : DN X Wi e (nCall g2 fs)) : DN X Wi e (nCall (gOr g1 g2) fs) := dn_or h1 h2 (nCall_or g1 g2 fs)
def okSort1 (ds : List D) : Bool := decide (ds.length ≤ 1) && (ds.all D.plain && (ds.all fun a => ds.all fun b => PySem.W.alike a.py b.py) && (ds.all fun a => match a.py with | .none => false | _ => true) && ds.all fun a => decide (a.py.depth ≤ 60))
def gSort1 : List D → Option D
  | [.lst ds] => if okSort1 ds = true then some (.lst (ds.mergeSort leD)) else none
  | _ => none
def rSort1 (K : PySem.W.Frag) : List V → Hp → VK → Prop := fun xs H Q => ∃ G a vs ds, xs = [.ref a] ∧ Same G H ∧ H a = some (.lst vs) ∧ vs.length ≤ sizeLine ∧ DDs K G vs ds ∧ okSort1 ds = true ∧ ∀ p ws, H p = none → DDs K G ws (ds.mergeSort leD) → Q (.ref p) (upd H p (.lst ws))
theorem calln_sort1 {K : PySem.W.Frag} : CallN K (rSort1 K) gSort1 := by
  intro G H xs ds d Q s h e z
  match ds, e with
  | [.lst ds], e =>
    obtain ⟨h0, rfl⟩ := ifs_some (show (if okSort1 ds = true then some (D.lst (ds.mergeSort leD)) else none) = some d from e)
    obtain ⟨v, rfl, b⟩ := h.one
    obtain ⟨a, vs, rfl, h1, z1, d1⟩ := b.lst s
    refine ⟨G, a, vs, ds, rfl, s, h1, z1, d1, h0, fun q ws hq dd => z q _ hq (Al.one s hq).h ⟨ws, upd_same, ?_, dd⟩⟩
    rw [dd.len, (List.mergeSort_perm ds leD).length_eq, ← d1.len]; exact z1
theorem call_sort1 {X : Cx} (hu : X.A.units + 64 < cLine) : CallR X (.builtin "sorted") (rSort1 X.K) := by
  intro pins s σ H xs us Q I r h
  obtain ⟨G, a, vs, ds, rfl, sm, hv, hz, dd, ok, q⟩ := h
  obtain ⟨its, rv, hl, _⟩ := I.list (SqL.of hv)
  rw [Vals.ref1 r]
  unfold okSort1 at ok
  simp only [Bool.and_eq_true, decide_eq_true_eq] at ok
  obtain ⟨ol, ⟨⟨o1, o2⟩, o3⟩, o4⟩ := ok
  obtain ⟨e1, e2⟩ := each_of I sm rv dd o1
  have hal : PySem.W.AllAlike (ds.map D.py) := fun d hd d' hd' => by
    obtain ⟨b, hb, rfl⟩ := List.mem_map.mp hd
    obtain ⟨b', hb', rfl⟩ := List.mem_map.mp hd'
    exact List.all_eq_true.mp (List.all_eq_true.mp o2 b hb) b' hb'
  have hlen : its.length = ds.length := by rw [← rv.length, dd.len]
  have er' : PySem.W.EachIs (fun v b => ∃ as, Reads (PySem.W.sortingHeap (PySem.W.copyHeap s.heap its) (s.heap.objs.size + 1) its) v (D.py b) as) its ds := e2.mono fun _ _ ⟨as, r⟩ => ⟨as, PyProof.Rows.Reads.keeps (fun _ _ => PySem.W.sorting_copy_old) r⟩
  have S : PySem.W.SortsAt X.prog X.w X.A.in1.in1 { s with heap := PySem.W.sortingHeap (PySem.W.copyHeap s.heap its) (s.heap.objs.size + 1) its } (PySem.W.dataKind (PySem.W.sortingHeap (PySem.W.copyHeap s.heap its) (s.heap.objs.size + 1) its) (ds.map D.py)) its := by
    refine sorts_few (s := { s with heap := PySem.W.sortingHeap (PySem.W.copyHeap s.heap its) (s.heap.objs.size + 1) its }) (PySem.W.each_map (R := fun v d => ∃ as, Reads (PySem.W.sortingHeap (PySem.W.copyHeap s.heap its) (s.heap.objs.size + 1) its) v d as) D.py er') hal (fun d hd => ?_) (by omega) fun d hd => ?_
    · obtain ⟨b, hb, rfl⟩ := List.mem_map.mp hd
      have z := List.all_eq_true.mp o3 b hb
      intro e
      rw [e] at z; cases z
    · obtain ⟨b, hb, rfl⟩ := List.mem_map.mp hd
      have z := of_decide_eq_true (List.all_eq_true.mp o4 b hb)
      have h1 : X.A.in1.in1.units ≤ X.A.units + 2 := by first | exact Nat.le_refl _ | decide
      omega
  refine PySem.W.sorted_vals hl.isList S (by rw [hlen, sizeLine_eq]; omega) ?_
  have eo := PySem.W.sortVals_data false e1 er' hal
  have ho : (PySem.W.sortVals (PySem.W.dataKind (PySem.W.sortingHeap (PySem.W.copyHeap s.heap its) (s.heap.objs.size + 1) its) (ds.map D.py)) false its its).length = its.length := by rw [PySem.W.sortVals_length false rfl]
  revert eo ho
  generalize PySem.W.sortVals (PySem.W.dataKind (PySem.W.sortingHeap (PySem.W.copyHeap s.heap its) (s.heap.objs.size + 1) its) (ds.map D.py)) false its its = out
  intro eo ho
  obtain ⟨ws, w1, w2⟩ := of_each eo
  obtain ⟨ep, he'⟩ := PyProof.Rows.sortedAll_at s.heap its out.toArray
  have hlen2 : ws.length ≤ sizeLine := by rw [w1.length, ho, ← rv.length]; exact hz
  exact ⟨.ref _, upd H (s.heap.objs.size + 1) (.lst ws), I.laid (t' := s.toks) (fun _ _ => PyProof.Rows.sortedAll_old) (Nat.le_succ _) ⟨hlen2, out, ep, w1, he'⟩, rfl, q _ ws (I.hok.fresh (Nat.le_succ _)) w2⟩
theorem op_inDK {X : Cx} (hu : X.A.units + 64 < cLine) : OpR X (compareOp .In) (fun y x H Q => ∃ a o, x = .ref a ∧ DGet H a y o ∧ Q (.bl (if false then !o.isSome else o.isSome)) H) := by
  intro pins s σ H x y v u Q I rx ry h
  obtain ⟨a, o, rfl, g, q⟩ := h
  cases ry
  exact d_in (by omega) I g rx fun s' I' => ⟨.bl o.isSome, H, I', rfl, q⟩
end DL
namespace DL
open PySem PySem.Spec PyProof.Rows L2 TL
def drawM (k : Dk) (m : Int) : Int × Dk := match k.l.getLast? with
  | some c => (c % m, ⟨if m ≤ c then k.l.dropLast ++ [c / m] else k.l.dropLast, k.b⟩)
  | none => (((k.b * 69621 + 59) % 2147483587 * ((k.b * 69621 + 59) % 2147483587) + 40692 * ((k.b * 69621 + 59) % 2147483587)) % 2147483579 / 64 % m, ⟨k.l, (k.b * 69621 + 59) % 2147483587⟩)
def drawR (_ _ : Addr) (k : Dk) (ds : List D) : Res (D × Dk) := match ds with
  | [.int m] => if 0 < m ∧ m < 10000000000000000000000000000000000000000 ∧ k.l.length ≤ 1000 then .ok (.int (drawM k m).1, (drawM k m).2) else .stuck
  | _ => .stuck
theorem drawM_ok (k : Dk) (m : Int) (hm : 0 < m) (hk : k.l.length ≤ 63) : 0 ≤ (drawM k m).1 ∧ (drawM k m).1 < m ∧ (drawM k m).2.l.length ≤ 63 := by
  unfold drawM
  cases h : k.l.getLast? with
  | none => exact ⟨Int.emod_nonneg _ (by omega), Int.emod_lt_of_pos _ hm, hk⟩
  | some c =>
    refine ⟨Int.emod_nonneg _ (by omega), Int.emod_lt_of_pos _ hm, ?_⟩
    have hne : k.l ≠ [] := fun e => by rw [e] at h; cases h
    have hpos : 0 < k.l.length := List.length_pos_iff.mpr hne
    dsimp only
    split
    · rw [List.length_append, List.length_dropLast, List.length_singleton]; omega
    · rw [List.length_dropLast]; omega
theorem drawR_ok (a q : Addr) (k : Dk) (m : Int) (hm : 0 < m) (hm2 : m < 10000000000000000000000000000000000000000) (hk : k.l.length ≤ 63) : ∃ v k', drawR a q k [.int m] = .ok (.int v, k') ∧ 0 ≤ v ∧ v < m ∧ k'.l.length ≤ 63 := by
  obtain ⟨h1, h2, h3⟩ := drawM_ok k m hm hk
  exact ⟨_, _, if_pos ⟨hm, hm2, by omega⟩, h1, h2, h3⟩

theorem draw_ok (a q : Addr) (l : List Int) (b m : Int) (hm : 0 < m) (hm2 : m < 1073741824) (hl : l.length ≤ 63) : ∃ (v : Nat) (l' : List Int) (b' : Int), drawR a q ⟨l, b⟩ [.int m] = .ok (.int v, ⟨l', b'⟩) ∧ (v : Int) < m ∧ l'.length ≤ 63 := by
  obtain ⟨v, k', e, h0, h1, h2⟩ := drawR_ok a q ⟨l, b⟩ m hm (by omega) hl
  exact ⟨v.toNat, k'.l, k'.b, by rw [Int.toNat_of_nonneg h0]; exact e, by rw [Int.toNat_of_nonneg h0]; exact h1, h2⟩
theorem draw_okW (a q : Addr) (l : List Int) (b m : Int) (hm : 0 < m) (hm2 : m < 10000000000000000000000000000000000000000) (hl : l.length ≤ 63) : ∃ (v : Nat) (l' : List Int) (b' : Int), drawR a q ⟨l, b⟩ [.int m] = .ok (.int v, ⟨l', b'⟩) ∧ (v : Int) < m ∧ l'.length ≤ 63 := by
  obtain ⟨v, k', e, h0, h1, h2⟩ := drawR_ok a q ⟨l, b⟩ m hm hm2 hl
  exact ⟨v.toNat, k'.l, k'.b, by rw [Int.toNat_of_nonneg h0]; exact e, by rw [Int.toNat_of_nonneg h0]; exact h1, h2⟩

def top (i : Nat) : Stmt := PySem.Challenge.pw_restbehind_k11_shown_and_joined.main.body.getD i (.Pass ⟨0, 0, 0, 0⟩)
abbrev s__law_draw : Stmt := top 6
abbrev s__law_deck : Stmt := top 5
abbrev s__law_columns : Stmt := top 9
abbrev s__law_pick : Stmt := top 7
abbrev s__law_lines : Stmt := top 8
abbrev s__law_shown : Stmt := top 10
abbrev s_row_at : Stmt := top 1
abbrev s_shown : Stmt := top 2
abbrev s_joined : Stmt := top 3
abbrev s__law_right : Stmt := top 12
abbrev s__law_joined : Stmt := top 11
abbrev s__law_both_right : Stmt := top 13
abbrev s_law : Stmt := top 14
structure CA where

abbrev N__law_draw : List Str := ["_law_deck_here", "_law_many", "_law_cell", "_law_blend"]
theorem sc__law_draw : FnScope N__law_draw ["_law_deck_here", "_law_many"] (defScope s__law_draw) := ⟨rfl, rfl, rfl, by decide +kernel, rfl, by decide +kernel, by decide +kernel⟩
abbrev N__law_deck : List Str := ["_law_script", "_law_blend", "_law_cell"]
theorem sc__law_deck : FnScope N__law_deck ["_law_script"] (defScope s__law_deck) := ⟨rfl, rfl, rfl, by decide +kernel, rfl, by decide +kernel, by decide +kernel⟩
abbrev N__law_columns : List Str := ["_law_deck_here", "_law_cols", "_law_sign"]
theorem sc__law_columns : FnScope N__law_columns ["_law_deck_here", "_law_cols"] (defScope s__law_columns) := ⟨rfl, rfl, rfl, by decide +kernel, rfl, by decide +kernel, by decide +kernel⟩
abbrev N__law_pick : List Str := ["_law_deck_here", "_law_menu"]
theorem sc__law_pick : FnScope N__law_pick ["_law_deck_here", "_law_menu"] (defScope s__law_pick) := ⟨rfl, rfl, rfl, by decide +kernel, rfl, by decide +kernel, by decide +kernel⟩
abbrev N__law_lines : List Str := ["_law_deck_here", "_law_wide", "_law_many", "_law_top", "_law_found", "_law_k", "_law_j"]
theorem sc__law_lines : FnScope N__law_lines ["_law_deck_here", "_law_wide", "_law_many", "_law_top"] (defScope s__law_lines) := ⟨rfl, rfl, rfl, by decide +kernel, rfl, by decide +kernel, by decide +kernel⟩
abbrev N__law_shown : List Str := ["_law_cols", "_law_lines_here", "_law_few", "_law_spots", "_law_sign", "_law_spot", "_law_item"]
theorem sc__law_shown : FnScope N__law_shown ["_law_cols", "_law_lines_here", "_law_few"] (defScope s__law_shown) := ⟨rfl, rfl, rfl, by decide +kernel, rfl, by decide +kernel, by decide +kernel⟩
abbrev N_row_at : List Str := ["columns", "row", "some", "letter"]
theorem sc_row_at : FnScope N_row_at ["columns", "row", "some"] (defScope s_row_at) := ⟨rfl, rfl, rfl, by decide +kernel, rfl, by decide +kernel, by decide +kernel⟩
abbrev N_shown : List Str := ["columns", "rows", "some", "row"]
theorem sc_shown : FnScope N_shown ["columns", "rows", "some"] (defScope s_shown) := ⟨rfl, rfl, rfl, by decide +kernel, rfl, by decide +kernel, by decide +kernel⟩
abbrev N_joined : List Str := ["columns", "rows", "others", "more", "both", "common", "letter", "found", "one", "other", "worth"]
theorem sc_joined : FnScope N_joined ["columns", "rows", "others", "more"] (defScope s_joined) := ⟨rfl, rfl, rfl, by decide +kernel, rfl, by decide +kernel, by decide +kernel⟩
abbrev N__law_right : List Str := ["_law_deck_here", "_law_cols", "_law_lines_here", "_law_few", "_law_due", "_law_was"]
theorem sc__law_right : FnScope N__law_right ["_law_deck_here", "_law_cols", "_law_lines_here"] (defScope s__law_right) := ⟨rfl, rfl, rfl, by decide +kernel, rfl, by decide +kernel, by decide +kernel⟩
abbrev N__law_joined : List Str := ["_law_cols", "_law_lines_here", "_law_few", "_law_mates", "_law_wide", "_law_found", "_law_item", "_law_mate", "_law_far", "_law_sign", "_law_x"]
theorem sc__law_joined : FnScope N__law_joined ["_law_cols", "_law_lines_here", "_law_few", "_law_mates"] (defScope s__law_joined) := ⟨rfl, rfl, rfl, by decide +kernel, rfl, by decide +kernel, by decide +kernel⟩
abbrev N__law_both_right : List Str := ["_law_cols", "_law_lines_here", "_law_few", "_law_mates", "_law_due", "_law_was", "_law_heard", "_law_wide", "_law_near", "_law_item"]
theorem sc__law_both_right : FnScope N__law_both_right ["_law_cols", "_law_lines_here", "_law_few", "_law_mates"] (defScope s__law_both_right) := ⟨rfl, rfl, rfl, by decide +kernel, rfl, by decide +kernel, by decide +kernel⟩
abbrev N_law : List Str := ["_law_script", "_law_deck_here", "_law_go", "_law_cols", "_law_lines_here", "_law_few", "_law_heard"]
theorem sc_law : FnScope N_law ["_law_script"] (defScope s_law) := ⟨rfl, rfl, rfl, by decide +kernel, rfl, by decide +kernel, by decide +kernel⟩
structure PR (K : PySem.W.Frag) (mg : Str → Option Value) where
  c : CA
  f__law_draw : Addr
  fd__law_draw : FuncData
  F__law_draw : Fun K "_law_draw" "_law_draw" s__law_draw f__law_draw fd__law_draw
  b__law_draw : Binds K fd__law_draw ["_law_deck_here", "_law_many"] []
  g__law_draw : mg "_law_draw" = some (.ref f__law_draw)
  f__law_deck : Addr
  fd__law_deck : FuncData
  F__law_deck : Fun K "_law_deck" "_law_deck" s__law_deck f__law_deck fd__law_deck
  b__law_deck : Binds K fd__law_deck ["_law_script"] []
  g__law_deck : mg "_law_deck" = some (.ref f__law_deck)
  f__law_columns : Addr
  fd__law_columns : FuncData
  F__law_columns : Fun K "_law_columns" "_law_columns" s__law_columns f__law_columns fd__law_columns
  b__law_columns : Binds K fd__law_columns ["_law_deck_here", "_law_cols"] []
  g__law_columns : mg "_law_columns" = some (.ref f__law_columns)
  f__law_pick : Addr
  fd__law_pick : FuncData
  F__law_pick : Fun K "_law_pick" "_law_pick" s__law_pick f__law_pick fd__law_pick
  b__law_pick : Binds K fd__law_pick ["_law_deck_here", "_law_menu"] []
  g__law_pick : mg "_law_pick" = some (.ref f__law_pick)
  f__law_lines : Addr
  fd__law_lines : FuncData
  F__law_lines : Fun K "_law_lines" "_law_lines" s__law_lines f__law_lines fd__law_lines
  b__law_lines : Binds K fd__law_lines ["_law_deck_here", "_law_wide", "_law_many", "_law_top"] []
  g__law_lines : mg "_law_lines" = some (.ref f__law_lines)
  f__law_shown : Addr
  fd__law_shown : FuncData
  F__law_shown : Fun K "_law_shown" "_law_shown" s__law_shown f__law_shown fd__law_shown
  b__law_shown : Binds K fd__law_shown ["_law_cols", "_law_lines_here", "_law_few"] []
  g__law_shown : mg "_law_shown" = some (.ref f__law_shown)
  f_row_at : Addr
  fd_row_at : FuncData
  F_row_at : Fun K "row_at" "row_at" s_row_at f_row_at fd_row_at
  b_row_at : Binds K fd_row_at ["columns", "row", "some"] []
  g_row_at : mg "row_at" = some (.ref f_row_at)
  f_shown : Addr
  fd_shown : FuncData
  F_shown : Fun K "shown" "shown" s_shown f_shown fd_shown
  b_shown : Binds K fd_shown ["columns", "rows", "some"] []
  g_shown : mg "shown" = some (.ref f_shown)
  f_joined : Addr
  fd_joined : FuncData
  F_joined : Fun K "joined" "joined" s_joined f_joined fd_joined
  b_joined : Binds K fd_joined ["columns", "rows", "others", "more"] []
  g_joined : mg "joined" = some (.ref f_joined)
  f__law_right : Addr
  fd__law_right : FuncData
  F__law_right : Fun K "_law_right" "_law_right" s__law_right f__law_right fd__law_right
  b__law_right : Binds K fd__law_right ["_law_deck_here", "_law_cols", "_law_lines_here"] []
  g__law_right : mg "_law_right" = some (.ref f__law_right)
  f__law_joined : Addr
  fd__law_joined : FuncData
  F__law_joined : Fun K "_law_joined" "_law_joined" s__law_joined f__law_joined fd__law_joined
  b__law_joined : Binds K fd__law_joined ["_law_cols", "_law_lines_here", "_law_few", "_law_mates"] []
  g__law_joined : mg "_law_joined" = some (.ref f__law_joined)
  f__law_both_right : Addr
  fd__law_both_right : FuncData
  F__law_both_right : Fun K "_law_both_right" "_law_both_right" s__law_both_right f__law_both_right fd__law_both_right
  b__law_both_right : Binds K fd__law_both_right ["_law_cols", "_law_lines_here", "_law_few", "_law_mates"] []
  g__law_both_right : mg "_law_both_right" = some (.ref f__law_both_right)
  f_law : Addr
  fd_law : FuncData
  F_law : Fun K "law" "law" s_law f_law fd_law
  b_law : Binds K fd_law ["_law_script"] []
  g_law : mg "law" = some (.ref f_law)
  z_int : mg "int" = none
  z_range : mg "range" = none
  z_len : mg "len" = none
  z_tuple : mg "tuple" = none
  z_sorted : mg "sorted" = none
  z_set : mg "set" = none
  z_repr : mg "repr" = none
  kw_shown_0_some_rows_columns : KW fd_shown ["columns", "rows", "some"] 0 ["some", "rows", "columns"] [2, 1, 0]
  z_dict : mg "dict" = none
  z_zip : mg "zip" = none
  kw_joined_0_more_others_rows_columns : KW fd_joined ["columns", "rows", "others", "more"] 0 ["more", "others", "rows", "columns"] [3, 2, 1, 0]
noncomputable section
variable {P : Program} {w : World} {K : PySem.W.Frag} {mg : Str → Option Value} {base : Heap}
def m__law_draw (_ : CA) : Addr → Addr → Dk → List D → Res (D × Dk) := drawR
theorem fn_draw {f : Addr} {fd : FuncData} (F : Fun K "_law_draw" "_law_draw" s__law_draw f fd) (zi : mg "int" = none) : FnG P w K mg base CX0 1 f fd ["_law_deck_here", "_law_many"] (spK K 1 drawR) := by
  refine FnG.body F sc__law_draw (spK_len rfl) fun cdv A outer s H vs Q E hg hr hsp => ?_
  obtain ⟨G, a, q, k, vr, ds, rfl, sm, ga, gq, ⟨da, dq⟩, dd, hl, z⟩ := hsp
  match ds, z with
  | [.int m], z =>
  have z : KRz K G H a q Q (if 0 < m ∧ m < 10000000000000000000000000000000000000000 ∧ k.l.length ≤ 1000 then .ok (.int (drawM k m).1, (drawM k m).2) else .stuck) := z
  have hm : 0 < m ∧ m < 10000000000000000000000000000000000000000 ∧ k.l.length ≤ 1000 := Decidable.byContradiction fun h => by rw [if_neg h] at z; exact z.elim
  rw [if_pos hm] at z
  obtain ⟨m0, m1, kl⟩ := hm
  match vr, dd with
  | [_], .cons (.int _) .nil =>
  have hu := hr.units
  refine ⟨_, PSs.nox (pss_cons (ps_if (pt_cmpR (op_neq hu) (pe_dget (hu_of hr) (pv 0) pe_str (by intro _ _; rfl)) (pe_lst pa_nil) (nomark _))
    (pss_cons (ps_set (i := 2) sc__law_draw.nd rfl (Or.inl rfl) (pe_callTy call_int1 (by rfl) zi PyProof.Rows.boot_int (pa_cons (pe_bm0 PySem.F.plainAttrs_list PySem.F.slot_list_pop PySem.F.type_list_pop mt_pop (pe_dget (hu_of hr) (pv 0) pe_str (by intro _ _; rfl))) pa_nil)))
      (pss_cons (ps_if (pt_cmpR op_ge (pv 2) (pv 1) (nomark _)) (pss_one (ps_expr (pe_bm PySem.F.plainAttrs_list PySem.F.slot_list_append PySem.F.type_list_append mt_append (pe_dget (hu_of hr) (pv 0) pe_str (by intro _ _; rfl)) (pa_cons (pe_op op_fdivW (pv 2) (pv 1)) pa_nil)))) pss_nil)
        (pss_one (ps_ret (pe_op op_mod (pv 2) (pv 1)))))) pss_nil)
    (pss_cons (ps_set (i := 3) sc__law_draw.nd rfl (Or.inl rfl) (pe_op op_mod (pe_callTy call_int1 (by rfl) zi PyProof.Rows.boot_int (pa_cons (pe_op op_add (pe_op op_mul (pe_callTy call_int1 (by rfl) zi PyProof.Rows.boot_int (pa_cons (pe_dget (hu_of hr) (pv 0) pe_str (by intro _ _; rfl)) pa_nil)) pe_int) pe_int) pa_nil)) pe_int))
      (pss_cons (ps_dput (hu_of hr) (pv 0) pe_str (pv 3) rfl)
        (pss_cons (ps_set (i := 3) sc__law_draw.nd rfl (Or.inl rfl) (pe_op op_mod (pe_callTy call_int1 (by rfl) zi PyProof.Rows.boot_int (pa_cons (pe_op op_add (pe_op op_mul (pv 3) (pv 3)) (pe_op op_mul pe_int (pv 3))) pa_nil)) pe_int))
          (pss_one (ps_ret (pe_op op_mod (pe_op op_fdiv (pv 3) pe_int) (pv 1)))))))), ?_⟩
  have lk : DGet H a (.str "left") (some (.ref q)) := .inl ⟨_, .inr "left", .inl da, rfl, lk_left.symm⟩
  refine ⟨_, rfl, a, .ref q, rfl, lk, Nat.zero_le _, fun p hp => ?_⟩
  have npa : p ≠ a := fun e => by rw [e, da] at hp; cases hp
  have npq : p ≠ q := fun e => by rw [e, dq] at hp; cases hp
  have naq : a ≠ q := fun e => by rw [e, dq] at da; cases da
  have s1 : Same H (upd H p (.lst [])) := fun b u e => by rw [upd_ne (ne_of_none e hp)]; exact e
  have e1 := s1 _ _ da
  have e2 := s1 _ _ dq
  refine ⟨G, .lst (k.l.map .int), .lst [], sm.trans s1, .own rfl ⟨_, e2, by rw [List.length_map, sizeLine_eq]; omega, dds_ints _⟩, .own rfl ⟨_, upd_same, Nat.zero_le _, .nil⟩, ?_⟩
  refine ⟨plain_ints _, rfl, Nat.le_trans (Nat.min_le_right _ _) (by decide), trivial, _, rfl, ?_⟩
  show if (!PyData.eqv (D.lst (k.l.map D.int)).py (D.lst []).py) = true then _ else _
  rw [eqv_nil]
  have fin : ∀ {d : Int} {l' : List Int} {b' : Int} {H' : Hp}, drawM k m = (d, ⟨l', b'⟩) → Same G H' → (∀ b o, H b = some o → b ≠ a → b ≠ q → H' b = some o) → DeckAt H' a q l' b' → Q (.int d) H' := fun {d l' b' H'} e s2 kp dk => by
    rw [e] at z
    exact z (.int d) G H' (Same.refl _) s2 kp (fun b o h _ _ _ _ => h) ga gq dk (.int d)
  have keep : ∀ {H' : Hp}, (∀ b o, H b = some o → b ≠ a → b ≠ q → H' b = some o) → Same G H' := fun {H'} kp b o h => kp b o (sm b o h) (ne_of_none h ga) (ne_of_none h gq)
  cases hk : k.l with
  | nil =>
    refine iteF ?_
    have lkb : DGet (upd H p (.lst [])) a (.str "blend") (some (.int k.b)) := .inl ⟨_, .inr "blend", .inl e1, rfl, lk_blend.symm⟩
    refine ⟨_, rfl, a, .int k.b, rfl, lkb, .inl ⟨_, rfl, k.b, 69621, rfl, rfl, .inr ⟨by decide, by decide⟩, _, 59, rfl, rfl, .inl ⟨_, rfl, _, 2147483587, rfl, rfl, (by show (0 : Int) < 2147483587; decide), ?_⟩⟩⟩
    have b0 := Int.emod_nonneg (k.b * 69621 + 59) (b := 2147483587) (by decide)
    have b1 := Int.emod_lt_of_pos (k.b * 69621 + 59) (b := 2147483587) (by decide)
    refine ⟨_, rfl, _, rfl, a, _, rfl, .inl ⟨_, .inr "blend", e1, rfl, by show 2 < sizeLine; decide, rfl⟩, ?_⟩
    refine ⟨_, rfl, _, rfl, _, _, rfl, rfl, .inl ⟨by omega, by omega⟩, _, rfl, 40692, _, rfl, rfl, .inl ⟨by decide, by decide⟩, _, _, rfl, rfl, .inl ⟨_, rfl, _, 2147483579, rfl, rfl, (by show (0 : Int) < 2147483579; decide), ?_⟩⟩
    refine ⟨_, rfl, _, 64, rfl, rfl, ⟨by decide, by decide⟩, _, rfl, _, m, rfl, rfl, m0, ?_⟩
    rw [put_blend]
    have kp : ∀ b o, H b = some o → b ≠ a → b ≠ q → upd (upd H p (.lst [])) a (.dK [(.inr "left", .ref q), (.inr "blend", .int ((k.b * 69621 + 59) % 2147483587))]) b = some o := fun b o h h1 _ => by
      rw [upd_ne h1]; exact s1 b o h
    refine fin (l' := k.l) (by unfold drawM; rw [hk]; rfl) (keep kp) kp ⟨upd_same, ?_⟩
    rw [upd_ne naq.symm, ← dq]; exact e2.trans dq.symm
  | cons c0 r0 =>
    refine iteT ?_
    have lk2 : DGet (upd H p (.lst [])) a (.str "left") (some (.ref q)) := .inl ⟨_, .inr "left", .inl e1, rfl, lk_left.symm⟩
    obtain ⟨c, hc⟩ : ∃ c, k.l.getLast? = some c := by
      rw [hk]; exact ⟨_, List.getLast?_eq_some_getLast (by simp)⟩
    have hg : (k.l.map V.int)[(k.l.map V.int).length - 1]? = some (.int c) := by
      rw [List.length_map, List.getElem?_map, ← List.getLast?_eq_getElem?, hc]; rfl
    refine ⟨_, rfl, a, .ref q, rfl, lk2, .inl ⟨rfl, _, SqL.of e2⟩, q, _, .int c, rfl, rfl, e2, hg, .inl ⟨c, rfl, ?_⟩⟩
    have dl : (k.l.map V.int).dropLast = k.l.dropLast.map V.int := (List.map_dropLast).symm
    rw [dl]
    refine ⟨_, rfl, _, rfl, c, m, rfl, rfl, _, rfl, ?_⟩
    have e3 : upd (upd H p (.lst [])) q (.lst (k.l.dropLast.map V.int)) a = some (.dK [(.inr "left", .ref q), (.inr "blend", .int k.b)]) := by rw [upd_ne naq]; exact e1
    have lk3 : DGet (upd (upd H p (.lst [])) q (.lst (k.l.dropLast.map V.int))) a (.str "left") (some (.ref q)) := .inl ⟨_, .inr "left", .inl e3, rfl, lk_left.symm⟩
    have kp : ∀ l', ∀ b o, H b = some o → b ≠ a → b ≠ q → upd (upd (upd H p (.lst [])) q (.lst (k.l.dropLast.map V.int))) q (.lst l') b = some o := fun l' b o h _ h2 => by
      rw [upd_ne h2, upd_ne h2]; exact s1 b o h
    have kp0 : ∀ b o, H b = some o → b ≠ a → b ≠ q → upd (upd H p (.lst [])) q (.lst (k.l.dropLast.map V.int)) b = some o := fun b o h _ h2 => by
      rw [upd_ne h2]; exact s1 b o h
    by_cases hmc : m ≤ c
    · rw [decide_eq_true hmc]
      refine iteT ?_
      refine ⟨_, rfl, a, .ref q, rfl, lk3, .inl ⟨rfl, _, SqL.of upd_same⟩, _, rfl, _, rfl, c, m, rfl, rfl, wide_div (b := 140) m0 (by omega) (by decide) (by decide), q, _, _, rfl, rfl, upd_same, ?_, ?_⟩
      · rw [List.length_map, List.length_dropLast, sizeLine_eq]; omega
      · refine ⟨_, rfl, _, rfl, c, m, rfl, rfl, m0, ?_⟩
        refine fin (l' := k.l.dropLast ++ [c / m]) (b' := k.b) (by unfold drawM; rw [hc]; simp only [if_pos hmc]) (keep (kp _)) (kp _) ⟨?_, ?_⟩
        · rw [upd_ne naq]; exact e3
        · rw [upd_same, List.map_append]; rfl
    · rw [decide_eq_false hmc]
      refine iteF ?_
      refine ⟨_, rfl, _, rfl, c, m, rfl, rfl, m0, ?_⟩
      exact fin (l' := k.l.dropLast) (b' := k.b) (by unfold drawM; rw [hc]; simp only [if_neg hmc]) (keep kp0) kp0 ⟨e3, upd_same⟩
theorem ok__law_draw (R : PR K mg) : FnG P w K mg base CX0 1 R.f__law_draw R.fd__law_draw ["_law_deck_here", "_law_many"] (spK K 1 (m__law_draw R.c)) := fn_draw R.F__law_draw R.z_int

theorem fn_deck {f : Addr} {fd : FuncData} (F : Fun K "_law_deck" "_law_deck" s__law_deck f fd) (zi : mg "int" = none) : FnG P w K mg base CX0 1 f fd ["_law_script"] (spDeck K) := by
  refine FnG.body F sc__law_deck (fun vs H Q E h => by obtain ⟨a, ns, rfl, _⟩ := h; rfl) fun cdv A outer s H vs Q E hg hr hsp => ?_
  obtain ⟨a, ns, rfl, hS, hl, z⟩ := hsp
  refine ⟨_, PSs.nox (pss_cons (ps_set (i := 1) sc__law_deck.nd rfl (Or.inl rfl) pe_int) (pss_cons (ps_for PassesOwn.never rfl (pi_list (pe_slice sl_list (pv 0) po_none (po_some pe_int))) (pg_name (i := 2) sc__law_deck.nd rfl (Or.inl rfl))
      (pss_one (ps_set (i := 1) sc__law_deck.nd rfl (Or.inl rfl) (pe_op op_mod (pe_callTy call_int1 (by rfl) zi PyProof.Rows.boot_int (pa_cons (pe_op op_add (pe_op op_add (pe_op op_mul (pv 1) pe_int) (pe_op op_mod (pe_callTy call_int1 (by rfl) zi PyProof.Rows.boot_int (pa_cons (pv 2) pa_nil)) pe_int)) pe_int) pa_nil)) pe_int))))
    (pss_one (ps_ret (pe_disp (pps_cons pe_str (pe_revL (pe_lc (own := [("_law_cell", 2)]) rfl (by exact sc__law_deck.nd) (pi_list (pe_slice sl_list (pv 0) po_none (po_some pe_int))) (by exact blkOk_by (N := N__law_deck) (sc := defScope s__law_deck) (own := [("_law_cell", 2)]) (by decide +kernel))
        (fun _ _ _ _ _ => pg_name (i := 2) (by exact sc__law_deck.nd) rfl (by first | exact Or.inl rfl | exact Or.inr rfl)) (fun _ _ _ _ _ => pts_one (pt_cmpR op_ge (pv 2) (pe_op op_pow pe_int pe_int) (nomark _))) (fun _ _ _ _ _ => pv 2)))
      (pps_cons pe_str (pv 1) pps_nil)) rfl rfl (by intro z; cases z) (by decide)))))), ?_⟩
  refine ⟨_, rfl, 63, rfl, a, _, rfl, hS, fun p hp => ⟨p, rfl, ⟨_, SqL.of upd_same⟩, ?_⟩⟩
  rw [cutV_ints]
  have s1 : Same H (upd H p (.lst ((cutI ns none (some 63)).map V.int))) := fun b u e => by rw [upd_ne (ne_of_none e hp)]; exact e
  refine for_list (xs := (cutI ns none (some 63)).map V.int) (fun i σ H' => ∃ (b : Int) (v : Option V), σ = [some (.ref a), some (.int b), v] ∧ Same (upd H p (.lst ((cutI ns none (some 63)).map V.int))) H') ⟨1086111, none, rfl, Same.refl _⟩ (fun i σ H' _ ⟨b, v, _, e⟩ => SqL.of (e _ _ upd_same)) ?_ ?_
  · rintro i x σ H' hx ⟨b, v, rfl, e⟩
    obtain ⟨c, rfl, _⟩ := int_at hx
    exact ⟨_, rfl, b, 40692, rfl, rfl, .inr ⟨by decide, by decide⟩, _, rfl, .inl ⟨c, rfl, c, 2147483629, rfl, rfl, (by show (0 : Int) < 2147483629; decide), _, _, rfl, rfl, _, 59, rfl, rfl, .inl ⟨_, rfl, _, 2147483587, rfl, rfl, (by show (0 : Int) < 2147483587; decide), _, _, rfl, e⟩⟩⟩
  · rintro σ H' ⟨b, v, rfl, e⟩
    have s2 : Same H H' := s1.trans e
    intro p1 hp1
    have s3 : Same H' (upd H' p1 (.dK [])) := fun b u e => by rw [upd_ne (ne_of_none e hp1)]; exact e
    refine ⟨_, rfl, 63, rfl, a, _, rfl, s3.seq (s2.seq hS), fun p2 hp2 => ⟨p2, rfl, ⟨_, SqL.of upd_same⟩, fun D0 hD => ?_⟩⟩
    rw [cutV_ints] at hD ⊢
    have np21 : p2 ≠ p1 := fun e => by rw [e, upd_same] at hp2; cases hp2
    have hB1 : upd (upd H' p1 (.dK [])) p2 (.lst ((cutI ns none (some 63)).map V.int)) p1 = some (.dK []) := by rw [upd_ne np21.symm, upd_same]
    have s4 : Same H' (upd (upd H' p1 (.dK [])) p2 (.lst ((cutI ns none (some 63)).map V.int))) := fun b u e => by
      rw [upd_ne (ne_of_none (s3 b u e) hp2)]; exact s3 b u e
    refine lc_list (xs := (cutI ns none (some 63)).map V.int) (fun i H2 => ∃ acc : List Int, acc.length ≤ i ∧ H2 D0 = some (.lst (acc.map V.int)) ∧ Same (upd (upd H' p1 (.dK [])) p2 (.lst ((cutI ns none (some 63)).map V.int))) H2)
      ⟨[], Nat.le_refl _, upd_same, fun b u e => by rw [upd_ne (ne_of_none e hD)]; exact e⟩ (fun i H2 _ ⟨acc, _, _, e⟩ => SqL.of (e _ _ upd_same)) ?_ ?_
    · rintro i x H2 hx ⟨acc, la, hd, e2⟩
      obtain ⟨c, rfl, hi⟩ := int_at hx
      refine ⟨rfl, _, rfl, 10, 18, rfl, rfl, ⟨by decide, by decide, by decide⟩, c, _, rfl, rfl, _, rfl, ?_⟩
      refine ite2 (fun _ => ?_) (fun _ => ⟨acc, Nat.le_succ_of_le la, hd, e2⟩)
      refine ⟨_, rfl, _, hd, ?_, acc ++ [c], ?_, ?_, fun b u e => ?_⟩
      · have := cutI_len ns none (some 63)
        rw [List.length_map, sizeLine_eq]; omega
      · rw [List.length_append, List.length_singleton]; omega
      · rw [upd_same, List.map_append]; rfl
      · rw [upd_ne (ne_of_none e hD)]; exact e2 b u e
    · rintro H2 ⟨acc, la, hd, e2⟩
      refine ⟨D0, _, rfl, SqL.of hd, fun q hq => ?_⟩
      have hq1 : q ≠ p1 := fun e => by rw [e, e2 _ _ hB1] at hq; cases hq
      refine ⟨_, rfl, ?_, [(.inr "left", .ref q), (.inr "blend", .int b)], rfl, (by show 2 ≤ 15; decide), ?_⟩
      · rw [upd_ne hq1.symm]; exact e2 _ _ hB1
      · rw [merge2, ← List.map_reverse]
        have s5 : Same H H2 := (s2.trans s4).trans e2
        refine z p1 q acc.reverse b _ (fun b u e => ?_) (s2.free hp1) (s5.free hq) hq1.symm ?_ ⟨upd_same, ?_⟩
        · rw [upd_ne (ne_of_none e (s2.free hp1)), upd_ne (ne_of_none e (s5.free hq))]; exact s5 b u e
        · have := cutI_len ns none (some 63)
          rw [List.length_map] at la
          rw [List.length_reverse]; omega
        · rw [upd_ne hq1, upd_same]
theorem ok__law_deck (R : PR K mg) : FnG P w K mg base CX0 1 R.f__law_deck R.fd__law_deck ["_law_script"] (spDeck K) := fn_deck R.F__law_deck R.z_int

def b__law_columns (c : CA) : SF := (sRet (eM1 gJoin (eC (.str "")) (eN (nComp [2] (iSq (eV 1)) (gN 2) (tB (eOp gEq (eK 0 1 (m__law_draw c) (aC (eC (.int 2)) aN)) (eC (.int 0)))) (eV 2)))))
def m__law_columns (c : CA) : Addr → Addr → Dk → List D → Res (D × Dk) := runK (b__law_columns c) 1
theorem ok__law_columns (R : PR K mg) : FnG P w K mg base CX0 2 R.f__law_columns R.fd__law_columns ["_law_deck_here", "_law_cols"] (spK K 1 (m__law_columns R.c)) :=
  fn_K R.F__law_columns sc__law_columns 1 1 rfl rfl fun cdv A outer s H E hg hr => (dss_one (ds_ret (de_join (de_str ⟨by decide +kernel, by decide +kernel⟩) (dn_de (dn_comp (own := [("_law_sign", 2)]) rfl sc__law_columns.nd (di_seq (dv 1)) (by exact blkOk_by (N := N__law_columns) (sc := defScope s__law_columns) (own := [("_law_sign", 2)]) (by decide +kernel)) (fun _ _ _ _ _ => (dg_name sc__law_columns.nd rfl (by first | exact Or.inl rfl | exact Or.inr rfl))) (fun _ _ _ _ _ => (dts_one (dt_cmp (op_eqq hr.units) opd_eq (de_K (ok__law_draw R) hg (hr.mono (by decide)) (by rfl) R.g__law_draw R.F__law_draw.kp R.b__law_draw passW0 (pv 0) (da_cons de_int da_nil)) de_int (nomark _)))) (fun _ _ _ _ _ => (dv 2)))))))
def b__law_pick (c : CA) : SF := (sRet (eOp gIx (eV 1) (eK 0 1 (m__law_draw c) (aC (eCall gLen (aC (eV 1) aN)) aN))))
def m__law_pick (c : CA) : Addr → Addr → Dk → List D → Res (D × Dk) := runK (b__law_pick c) 0
theorem ok__law_pick (R : PR K mg) : FnG P w K mg base CX0 2 R.f__law_pick R.fd__law_pick ["_law_deck_here", "_law_menu"] (spK K 1 (m__law_pick R.c)) :=
  fn_K R.F__law_pick sc__law_pick 1 0 rfl rfl fun cdv A outer s H E hg hr => (dss_one (ds_ret (de_ix ix_seq opd_ix (dv 1) (de_K (ok__law_draw R) hg (hr.mono (by decide)) (by rfl) R.g__law_draw R.F__law_draw.kp R.b__law_draw passW0 (pv 0) (da_cons (de_callB call_len calld_len (by rfl) R.z_len PySem.boot_len (da_cons (dv 1) da_nil)) da_nil)) (by intro _ _; rfl))))
def b__law_lines (c : CA) : SF := (sSeq (sSetN 4 nNil)
  (sSeq (sFor (iR1 (aC (eK 0 1 (m__law_draw c) (aC (eOp gAdd (eV 2) (eC (.int 1))) aN)) aN)) (gN 5)
  (sEx (eOM 4 gApp (aC (eCall gTuple (aC (eN (nComp [6] (iR1 (aC (eV 1) aN)) (gN 6) tYes' (eK 0 1 (m__law_pick c) (aC (eN (nLst (aC (eC (.int 0)) (aC (eC (.int 1)) (aC (eC (.int 2)) (aC (eK 0 1 (m__law_draw c) (aC (eV 3) aN)) (aC (eUn gNeg (eC (.int 3))) aN))))))) aN)))) aN)) aN))))
  (sRet (eCall gTuple (aC (eN (nCall gSortSet (aC (eV 4) aN))) aN)))))
def m__law_lines (c : CA) : Addr → Addr → Dk → List D → Res (D × Dk) := runK (b__law_lines c) 3
theorem ok__law_lines (R : PR K mg) : FnG P w K mg base CX0 3 R.f__law_lines R.fd__law_lines ["_law_deck_here", "_law_wide", "_law_many", "_law_top"] (spK K 3 (m__law_lines R.c)) :=
  fn_K R.F__law_lines sc__law_lines 3 3 rfl rfl fun cdv A outer s H E hg hr => (dss_cons (ds_setN sc__law_lines.nd rfl (Or.inl rfl) dn_nil)
    (dss_cons (ds_for PassesOwn.never rfl (di_range1 (by rfl) R.z_range (da_cons (de_K (ok__law_draw R) hg (hr.mono (by decide)) (by rfl) R.g__law_draw R.F__law_draw.kp R.b__law_draw passW0 (pv 0) (da_cons (de_op op_addA opd_add (dv 2) de_int) da_nil)) da_nil)) (dg_name sc__law_lines.nd rfl (by first | exact Or.inl rfl | exact Or.inr rfl)) (dss_one (ds_expr (de_om PySem.F.slot_list_append PySem.F.type_list_append mt_append own_app (pv 4) (da_cons (de_callTy call_tuple_of calld_tuple (by rfl) R.z_tuple PyProof.Rows.boot_tuple (da_cons (dn_de (dn_comp (own := [("_law_j", 6)]) rfl sc__law_lines.nd (di_range1 (by rfl) R.z_range (da_cons (dv 1) da_nil)) (by exact blkOk_by (N := N__law_lines) (sc := defScope s__law_lines) (own := [("_law_j", 6)]) (by decide +kernel)) (fun _ _ _ _ _ => (dg_name sc__law_lines.nd rfl (by first | exact Or.inl rfl | exact Or.inr rfl))) (fun _ _ _ _ _ => dts_nil) (fun _ _ _ _ _ => (de_K (ok__law_pick R) hg (hr.mono (by decide)) (by rfl) R.g__law_pick R.F__law_pick.kp R.b__law_pick passW0 (pv 0) (da_cons (dn_de (dn_lst (da_cons de_int (da_cons de_int (da_cons de_int (da_cons (de_K (ok__law_draw R) hg (hr.mono (by decide)) (by rfl) R.g__law_draw R.F__law_draw.kp R.b__law_draw passW0 (pv 0) (da_cons (dv 3) da_nil)) (da_cons (de_un un_neg und_neg de_int) da_nil))))))) da_nil))))) da_nil)) da_nil)))))
    (dss_one (ds_ret (de_callTy call_tuple_of calld_tuple (by rfl) R.z_tuple PyProof.Rows.boot_tuple (da_cons (dn_de (dn_sortSet rfl hr.units (by rfl) R.z_sorted (by rfl) R.z_set (da_cons (dv 4) da_nil))) da_nil))))))
def b__law_shown (c : CA) : SF := (sSeq (sSet 3 (eN (nComp [4] (iSq (eV 2)) (gN 4) tYes' (eM1 gSIdx (eV 0) (eV 4)))))
  (sRet (eCall gTuple (aC (eN (nCall gSortSet (aC (eN (nComp [6] (iSq (eV 1)) (gN 6) tYes' (eCall gTuple (aC (eN (nComp [5] (iSq (eV 3)) (gN 5) tYes' (eOp gIx (eV 6) (eV 5)))) aN)))) aN))) aN))))
def m__law_shown (c : CA) : List D → Res D := fun ds => noErr (runP (b__law_shown c) 4 ds)
theorem ok__law_shown (R : PR K mg) : FnG P w K mg base CX0 1 R.f__law_shown R.fd__law_shown ["_law_cols", "_law_lines_here", "_law_few"] (spP K 3 (m__law_shown R.c)) :=
  fn_P R.F__law_shown sc__law_shown 4 rfl fun cdv A outer s H E hg hr => (dss_cons (ds_set sc__law_shown.nd rfl (Or.inr rfl) (dn_de (dn_comp (own := [("_law_sign", 4)]) rfl sc__law_shown.nd (di_seq (dv 2)) (by exact blkOk_by (N := N__law_shown) (sc := defScope s__law_shown) (own := [("_law_sign", 4)]) (by decide +kernel)) (fun _ _ _ _ _ => (dg_name sc__law_shown.nd rfl (by first | exact Or.inl rfl | exact Or.inr rfl))) (fun _ _ _ _ _ => dts_nil) (fun _ _ _ _ _ => (de_sidx (dv 0) (dv 4))))))
    (dss_one (ds_ret (de_callTy call_tuple_of calld_tuple (by rfl) R.z_tuple PyProof.Rows.boot_tuple (da_cons (dn_de (dn_sortSet rfl hr.units (by rfl) R.z_sorted (by rfl) R.z_set (da_cons (dn_de (dn_comp (own := [("_law_item", 6)]) rfl sc__law_shown.nd (di_seq (dv 1)) (by exact blkOk_by (N := N__law_shown) (sc := defScope s__law_shown) (own := [("_law_item", 6)]) (by decide +kernel)) (fun _ _ _ _ _ => (dg_name sc__law_shown.nd rfl (by first | exact Or.inl rfl | exact Or.inr rfl))) (fun _ _ _ _ _ => dts_nil) (fun _ _ _ _ _ => (de_callTy call_tuple_of calld_tuple (by rfl) R.z_tuple PyProof.Rows.boot_tuple (da_cons (dn_de (dn_comp (own := [("_law_spot", 5)]) rfl sc__law_shown.nd (di_seq (dv 3)) (by exact blkOk_in (N := N__law_shown) (sc := defScope s__law_shown) (own := [("_law_spot", 5)]) rfl (by decide +kernel)) (fun _ _ _ _ _ => (dg_name sc__law_shown.nd rfl (by first | exact Or.inl rfl | exact Or.inr rfl))) (fun _ _ _ _ _ => dts_nil) (fun _ _ _ _ _ => (de_ix ix_seq opd_ix (dv 6) (dv 5) (by intro _ _; rfl))))) da_nil))))) da_nil))) da_nil)))))
def b_row_at (c : CA) : SF := (sRet (eCall gTuple (aC (eN (nComp [3] (iSq (eV 2)) (gN 3) tYes' (eOp gIx (eV 1) (eM1 gSIdx (eV 0) (eV 3))))) aN)))
def m_row_at (c : CA) : List D → Res D := fun ds => noErr (runP (b_row_at c) 1 ds)
theorem ok_row_at (R : PR K mg) : FnG P w K mg base CX0 1 R.f_row_at R.fd_row_at ["columns", "row", "some"] (spP K 3 (m_row_at R.c)) :=
  fn_P R.F_row_at sc_row_at 1 rfl fun cdv A outer s H E hg hr => (dss_one (ds_ret (de_callTy call_tuple_of calld_tuple (by rfl) R.z_tuple PyProof.Rows.boot_tuple (da_cons (dn_de (dn_comp (own := [("letter", 3)]) rfl sc_row_at.nd (di_seq (dv 2)) (by exact blkOk_by (N := N_row_at) (sc := defScope s_row_at) (own := [("letter", 3)]) (by decide +kernel)) (fun _ _ _ _ _ => (dg_name sc_row_at.nd rfl (by first | exact Or.inl rfl | exact Or.inr rfl))) (fun _ _ _ _ _ => dts_nil) (fun _ _ _ _ _ => (de_ix ix_seq opd_ix (dv 1) (de_sidx (dv 0) (dv 3)) (by intro _ _; rfl))))) da_nil))))
def b_shown (c : CA) : SF := (sRet (eCall gTuple (aC (eN (nCall gSortSetM (aC (eN (nComp [3] (iSq (eV 1)) (gN 3) tYes' (eF 3 (m_row_at c) (aC (eV 0) (aC (eV 3) (aC (eV 2) aN)))))) aN))) aN)))
def m_shown (c : CA) : List D → Res D := fun ds => noErr (runP (b_shown c) 1 ds)
theorem ok_shown (R : PR K mg) : FnG P w K mg base CX0 2 R.f_shown R.fd_shown ["columns", "rows", "some"] (spP K 3 (m_shown R.c)) :=
  fn_P R.F_shown sc_shown 1 rfl fun cdv A outer s H E hg hr => (dss_one (ds_ret (de_callTy call_tuple_of calld_tuple (by rfl) R.z_tuple PyProof.Rows.boot_tuple (da_cons (dn_de (dn_sortCM hr.units (by rfl) R.z_sorted (own := [("row", 3)]) rfl sc_shown.nd (di_seq (dv 1)) (by exact blkOk_by (N := N_shown) (sc := defScope s_shown) (own := [("row", 3)]) (by decide +kernel)) (fun _ _ _ _ _ => (dg_name sc_shown.nd rfl (by first | exact Or.inl rfl | exact Or.inr rfl))) (fun _ _ _ _ _ => dts_nil) (fun _ _ _ _ _ => (de_F (ok_row_at R) hg (hr.mono (by decide)) (by rfl) R.g_row_at R.F_row_at.kp R.b_row_at passW0 (da_cons (dv 0) (da_cons (dv 3) (da_cons (dv 2) da_nil))))))) da_nil))))
def b_joined (c : CA) : SF := (sSeq (sSet 4 (eM1 gJoin (eC (.str "")) (eN (nCall gSortTx (aC (eOp gAdd (eV 0) (eV 2)) aN)))))
  (sSeq (sSet 5 (eM1 gJoin (eC (.str "")) (eN (nComp [6] (iSq (eV 0)) (gN 6) (tB (eOp (gInQ false) (eV 6) (eV 2))) (eV 6)))))
  (sSeq (sSetN 7 nNil)
  (sSeq (sFor (iSq (eV 1)) (gN 8)
  (sFor (iSq (eV 3)) (gN 9)
  (sIf (tB (eOp gEq (eF 3 (m_row_at c) (aC (eV 0) (aC (eV 8) (aC (eV 5) aN)))) (eF 3 (m_row_at c) (aC (eV 2) (aC (eV 9) (aC (eV 5) aN)))))) (sSeq (sSet 10 (eN (nStar (eN (nDZ (aC (eV 2) (aC (eV 9) aN)))) (eN (nDZ (aC (eV 0) (aC (eV 8) aN)))))))
  (sEx (eOM 7 gApp (aC (eCall gTuple (aC (eN (nComp [6] (iSq (eV 4)) (gN 6) tYes' (eOp gGet (eV 10) (eV 6)))) aN)) aN)))) sNx)))
  (sRet (eCall gTuple (aC (eN (nCall (gOr gSorted gSort1) (aC (eV 7) aN))) aN)))))))
def m_joined (c : CA) : List D → Res D := fun ds => noErr (runP (b_joined c) 7 ds)
theorem ok_joined (R : PR K mg) : FnG P w K mg base CX0 2 R.f_joined R.fd_joined ["columns", "rows", "others", "more"] (spP K 4 (m_joined R.c)) :=
  fn_P R.F_joined sc_joined 7 rfl fun cdv A outer s H E hg hr => (dss_cons (ds_set sc_joined.nd rfl (Or.inl rfl) (de_join (de_str ⟨by decide +kernel, by decide +kernel⟩) (dn_de (dn_sortTx rfl (by rfl) R.z_sorted (by rfl) R.z_set (da_cons (de_op op_addA opd_add (dv 0) (dv 2)) da_nil)))))
    (dss_cons (ds_set sc_joined.nd rfl (Or.inl rfl) (de_join (de_str ⟨by decide +kernel, by decide +kernel⟩) (dn_de (dn_comp (own := [("letter", 6)]) rfl sc_joined.nd (di_seq (dv 0)) (by exact blkOk_by (N := N_joined) (sc := defScope s_joined) (own := [("letter", 6)]) (by decide +kernel)) (fun _ _ _ _ _ => (dg_name sc_joined.nd rfl (by first | exact Or.inl rfl | exact Or.inr rfl))) (fun _ _ _ _ _ => (dts_one (dt_cmp (op_inq hr.units) opd_in (dv 6) (dv 2) (by rfl)))) (fun _ _ _ _ _ => (dv 6))))))
    (dss_cons (ds_setN sc_joined.nd rfl (Or.inl rfl) dn_nil)
    (dss_cons (ds_for PassesOwn.never rfl (di_seq (dv 1)) (dg_name sc_joined.nd rfl (by first | exact Or.inl rfl | exact Or.inr rfl)) (dss_one (ds_for PassesOwn.never rfl (di_seq (dv 3)) (dg_name sc_joined.nd rfl (by first | exact Or.inl rfl | exact Or.inr rfl)) (dss_one (ds_if (dt_cmp (op_eqq hr.units) opd_eq (de_F (ok_row_at R) hg (hr.mono (by decide)) (by rfl) R.g_row_at R.F_row_at.kp R.b_row_at passW0 (da_cons (dv 0) (da_cons (dv 8) (da_cons (dv 5) da_nil)))) (de_F (ok_row_at R) hg (hr.mono (by decide)) (by rfl) R.g_row_at R.F_row_at.kp R.b_row_at passW0 (da_cons (dv 2) (da_cons (dv 9) (da_cons (dv 5) da_nil)))) (nomark _)) (dss_cons (ds_set sc_joined.nd rfl (Or.inr rfl) (dn_de (dn_star2 (dn_de (dn_dictZ rfl (by rfl) R.z_dict (by rfl) R.z_zip (da_cons (dv 2) (da_cons (dv 9) da_nil)))) (dn_de (dn_dictZ rfl (by rfl) R.z_dict (by rfl) R.z_zip (da_cons (dv 0) (da_cons (dv 8) da_nil)))))))
    (dss_one (ds_expr (de_om PySem.F.slot_list_append PySem.F.type_list_append mt_append own_app (pv 7) (da_cons (de_callTy call_tuple_of calld_tuple (by rfl) R.z_tuple PyProof.Rows.boot_tuple (da_cons (dn_de (dn_comp (own := [("letter", 6)]) rfl sc_joined.nd (di_seq (dv 4)) (by exact blkOk_by (N := N_joined) (sc := defScope s_joined) (own := [("letter", 6)]) (by decide +kernel)) (fun _ _ _ _ _ => (dg_name sc_joined.nd rfl (by first | exact Or.inl rfl | exact Or.inr rfl))) (fun _ _ _ _ _ => dts_nil) (fun _ _ _ _ _ => (de_dget (hu_of hr) (dv 10) (dv 6))))) da_nil)) da_nil))))) dss_nil)))))
    (dss_one (ds_ret (de_callTy call_tuple_of calld_tuple (by rfl) R.z_tuple PyProof.Rows.boot_tuple (da_cons (dn_de (dn_callOr (dn_callB (call_sortD hr.units) calln_sorted (by rfl) R.z_sorted PyProof.Rows.boot_sorted (da_cons (dv 7) da_nil)) (dn_callB (call_sort1 hr.units) calln_sort1 (by rfl) R.z_sorted PyProof.Rows.boot_sorted (da_cons (dv 7) da_nil)))) da_nil))))))))
def b__law_right (c : CA) : SF := (sSeq (sFor (iSq (eTup (aC (eC (.str "")) (aC (eV 1) (aC (eK 0 1 (m__law_columns c) (aC (eV 1) aN)) (aC (eK 0 1 (m__law_columns c) (aC (eV 1) aN)) aN)))))) (gN 3)
  (sSeq (sPar [4, 5] [.e (eF 3 (m__law_shown c) (aC (eV 1) (aC (eV 2) (aC (eV 3) aN)))), .e (eCall gRepr (aC (eV 2) aN))])
  (sSeq (sIf (tB (eOp gNe (eCall gRepr (aC (eN (nLst (aC (eF 3 (m_shown c) (aC (eV 1) (aC (eV 2) (aC (eV 3) aN)))) (aC (eFK 0 3 [2, 1, 0] 3 (m_shown c) aN (aC (eV 3) (aC (eV 2) (aC (eV 1) aN)))) aN)))) aN)) (eCall gRepr (aC (eN (nLst (aC (eV 4) (aC (eV 4) aN)))) aN)))) (sRet (eC (.bl false))) sNx)
  (sIf (tOr' (tB (eOp gNe (eCall gRepr (aC (eF 4 (m_joined c) (aC (eV 1) (aC (eV 2) (aC (eV 3) (aC (eV 4) aN))))) aN)) (eCall gRepr (aC (eV 2) aN)))) (tB (eOp gNe (eCall gRepr (aC (eV 2) aN)) (eV 5)))) (sRet (eC (.bl false))) sNx))))
  (sRet (eC (.bl true))))
def m__law_right (c : CA) : Addr → Addr → Dk → List D → Res (D × Dk) := runK (b__law_right c) 3
theorem ok__law_right (R : PR K mg) : FnG P w K mg base CX0 3 R.f__law_right R.fd__law_right ["_law_deck_here", "_law_cols", "_law_lines_here"] (spK K 2 (m__law_right R.c)) :=
  fn_K R.F__law_right sc__law_right 2 3 rfl rfl fun cdv A outer s H E hg hr => (dss_cons (ds_for PassesOwn.never rfl (di_seq (de_tup (da_cons (de_str ⟨by decide +kernel, by decide +kernel⟩) (da_cons (dv 1) (da_cons (de_K (ok__law_columns R) hg (hr.mono (by decide)) (by rfl) R.g__law_columns R.F__law_columns.kp R.b__law_columns passW0 (pv 0) (da_cons (dv 1) da_nil)) (da_cons (de_K (ok__law_columns R) hg (hr.mono (by decide)) (by rfl) R.g__law_columns R.F__law_columns.kp R.b__law_columns passW0 (pv 0) (da_cons (dv 1) da_nil)) da_nil)))))) (dg_name sc__law_right.nd rfl (by first | exact Or.inl rfl | exact Or.inr rfl)) (dss_cons (ds_par2 rfl sc__law_right.nd rfl rfl (by decide) rfl rfl (dws_e (de_F (ok__law_shown R) hg (hr.mono (by decide)) (by rfl) R.g__law_shown R.F__law_shown.kp R.b__law_shown passW0 (da_cons (dv 1) (da_cons (dv 2) (da_cons (dv 3) da_nil)))) (dws_e (de_callB (call_reprD hr.units hg) calld_repr (by rfl) R.z_repr PyProof.Rows.boot_repr (da_cons (dv 2) da_nil)) dws_nil)) rfl)
    (dss_cons (ds_if (dt_cmp (op_neq hr.units) opd_ne (de_callB (call_reprD hr.units hg) calld_repr (by rfl) R.z_repr PyProof.Rows.boot_repr (da_cons (dn_de (dn_lst (da_cons (de_F (ok_shown R) hg (hr.mono (by decide)) (by rfl) R.g_shown R.F_shown.kp R.b_shown passW0 (da_cons (dv 1) (da_cons (dv 2) (da_cons (dv 3) da_nil)))) (da_cons (de_FK0 (ok_shown R) hg (hr.mono (by decide)) (by rfl) R.g_shown R.F_shown.kp R.kw_shown_0_some_rows_columns passW0 (dk_cons (dv 3) (dk_cons (dv 2) (dk_cons (dv 1) dk_nil)))) da_nil)))) da_nil)) (de_callB (call_reprD hr.units hg) calld_repr (by rfl) R.z_repr PyProof.Rows.boot_repr (da_cons (dn_de (dn_lst (da_cons (dv 4) (da_cons (dv 4) da_nil)))) da_nil)) (nomark _)) (dss_one (ds_ret de_bl)) dss_nil)
    (dss_one (ds_if (dt_w (dw_or (dt_cmp (op_neq hr.units) opd_ne (de_callB (call_reprD hr.units hg) calld_repr (by rfl) R.z_repr PyProof.Rows.boot_repr (da_cons (de_F (ok_joined R) hg (hr.mono (by decide)) (by rfl) R.g_joined R.F_joined.kp R.b_joined passW0 (da_cons (dv 1) (da_cons (dv 2) (da_cons (dv 3) (da_cons (dv 4) da_nil))))) da_nil)) (de_callB (call_reprD hr.units hg) calld_repr (by rfl) R.z_repr PyProof.Rows.boot_repr (da_cons (dv 2) da_nil)) (nomark _)) (dw_one (dt_cmp (op_neq hr.units) opd_ne (de_callB (call_reprD hr.units hg) calld_repr (by rfl) R.z_repr PyProof.Rows.boot_repr (da_cons (dv 2) da_nil)) (dv 5) (nomark _))))) (dss_one (ds_ret de_bl)) dss_nil)))))
    (dss_one (ds_ret de_bl)))
def b__law_joined (c : CA) : SF := (sSeq (sPar [4, 5] [.e (eN (nCall gSortTx (aC (eOp gAdd (eV 0) (eV 2)) aN))), .n nNil])
  (sSeq (sFor (iSq (eV 1)) (gN 6)
  (sFor (iSq (eV 3)) (gN 7)
  (sSeq (sSetN 8 (nDZ (aC (eV 2) (aC (eV 7) aN))))
  (sIf (tB (eOp gEq (eN (nComp [9, 10] (iZ (aC (eV 0) (aC (eV 6) aN))) (gT (gCons' (gN 9) (gCons' (gN 10) gNil'))) (tAnd' (tB (eOp (gHas false) (eV 9) (eV 8))) (tB (eOp gNe (eOp gGet (eV 8) (eV 9)) (eV 10)))) (eV 9))) (eN nNil))) (sSeq (sEx (eUpd 8 (nDZ (aC (eV 0) (aC (eV 6) aN)))))
  (sEx (eOM 5 gApp (aC (eCall gTuple (aC (eN (nComp [9] (iSq (eV 4)) (gN 9) tYes' (eOp gGet (eV 8) (eV 9)))) aN)) aN)))) sNx))))
  (sRet (eCall gTuple (aC (eN (nCall (gOr gSortSet gSortN) (aC (eV 5) aN))) aN)))))
def m__law_joined (c : CA) : List D → Res D := fun ds => noErr (runP (b__law_joined c) 7 ds)
theorem ok__law_joined (R : PR K mg) : FnG P w K mg base CX0 1 R.f__law_joined R.fd__law_joined ["_law_cols", "_law_lines_here", "_law_few", "_law_mates"] (spP K 4 (m__law_joined R.c)) :=
  fn_P R.F__law_joined sc__law_joined 7 rfl fun cdv A outer s H E hg hr => (dss_cons (ds_par2 rfl sc__law_joined.nd rfl rfl (by decide) rfl rfl (dws_e (dn_de (dn_sortTx rfl (by rfl) R.z_sorted (by rfl) R.z_set (da_cons (de_op op_addA opd_add (dv 0) (dv 2)) da_nil))) (dws_n dn_nil dws_nil)) rfl)
    (dss_cons (ds_for PassesOwn.never rfl (di_seq (dv 1)) (dg_name sc__law_joined.nd rfl (by first | exact Or.inl rfl | exact Or.inr rfl)) (dss_one (ds_for PassesOwn.never rfl (di_seq (dv 3)) (dg_name sc__law_joined.nd rfl (by first | exact Or.inl rfl | exact Or.inr rfl)) (dss_cons (ds_setN sc__law_joined.nd rfl (Or.inr rfl) (dn_dictZ rfl (by rfl) R.z_dict (by rfl) R.z_zip (da_cons (dv 2) (da_cons (dv 7) da_nil))))
    (dss_one (ds_if (dt_cmp (op_eqq hr.units) opd_eq (dn_de (dn_comp (own := [("_law_sign", 9), ("_law_x", 10)]) rfl sc__law_joined.nd (di_zip (by rfl) R.z_zip (da_cons (dv 0) (da_cons (dv 6) da_nil))) (by exact blkOk_by (N := N__law_joined) (sc := defScope s__law_joined) (own := [("_law_sign", 9), ("_law_x", 10)]) (by decide +kernel)) (fun _ _ _ _ _ => (dg_tup rfl (dgs_cons (dg_name sc__law_joined.nd rfl (by first | exact Or.inl rfl | exact Or.inr rfl)) (dgs_cons (dg_name sc__law_joined.nd rfl (by first | exact Or.inl rfl | exact Or.inr rfl)) dgs_nil)) 2 rfl (pg_tup rfl (dgs_cons (dg_name sc__law_joined.nd rfl (by first | exact Or.inl rfl | exact Or.inr rfl)) (dgs_cons (dg_name sc__law_joined.nd rfl (by first | exact Or.inl rfl | exact Or.inr rfl)) dgs_nil))) (glen2))) (fun _ _ _ _ _ => (dts_one (dt_w (dw_and (dt_cmp (op_inDK hr.units) opd_has (dv 9) (dv 8) (by rfl)) (dw_one (dt_cmp (op_neq hr.units) opd_ne (de_dget (hu_of hr) (dv 8) (dv 9)) (dv 10) (nomark _))))))) (fun _ _ _ _ _ => (dv 9)))) (dn_de dn_nil) (nomark _)) (dss_cons (ds_expr (de_upd (pv 8) (dn_dictZ rfl (by rfl) R.z_dict (by rfl) R.z_zip (da_cons (dv 0) (da_cons (dv 6) da_nil)))))
    (dss_one (ds_expr (de_om PySem.F.slot_list_append PySem.F.type_list_append mt_append own_app (pv 5) (da_cons (de_callTy call_tuple_of calld_tuple (by rfl) R.z_tuple PyProof.Rows.boot_tuple (da_cons (dn_de (dn_comp (own := [("_law_sign", 9)]) rfl sc__law_joined.nd (di_seq (dv 4)) (by exact blkOk_by (N := N__law_joined) (sc := defScope s__law_joined) (own := [("_law_sign", 9)]) (by decide +kernel)) (fun _ _ _ _ _ => (dg_name sc__law_joined.nd rfl (by first | exact Or.inl rfl | exact Or.inr rfl))) (fun _ _ _ _ _ => dts_nil) (fun _ _ _ _ _ => (de_dget (hu_of hr) (dv 8) (dv 9))))) da_nil)) da_nil))))) dss_nil))))))
    (dss_one (ds_ret (de_callTy call_tuple_of calld_tuple (by rfl) R.z_tuple PyProof.Rows.boot_tuple (da_cons (dn_de (dn_callOr (dn_sortSet rfl hr.units (by rfl) R.z_sorted (by rfl) R.z_set (da_cons (dv 5) da_nil)) (dn_sortN rfl hr.units (by rfl) R.z_sorted (by rfl) R.z_set (da_cons (dv 5) da_nil)))) da_nil))))))
def b__law_both_right (c : CA) : SF := (sSeq (sPar [4, 5] [.e (eF 4 (m__law_joined c) (aC (eV 0) (aC (eV 1) (aC (eV 2) (aC (eV 3) aN))))), .e (eCall gRepr (aC (eN (nLst (aC (eV 1) (aC (eV 3) aN)))) aN))])
  (sSeq (sSet 6 (eN (nLst (aC (eF 4 (m_joined c) (aC (eV 0) (aC (eV 1) (aC (eV 2) (aC (eV 3) aN))))) (aC (eFK 0 4 [3, 2, 1, 0] 4 (m_joined c) aN (aC (eV 3) (aC (eV 2) (aC (eV 1) (aC (eV 0) aN))))) aN)))))
  (sSeq (sIf (tOr' (tB (eOp gNe (eCall gRepr (aC (eV 6) aN)) (eCall gRepr (aC (eN (nLst (aC (eV 4) (aC (eV 4) aN)))) aN)))) (tB (eOp gNe (eCall gRepr (aC (eF 4 (m_joined c) (aC (eV 2) (aC (eV 3) (aC (eV 0) (aC (eV 1) aN))))) aN)) (eCall gRepr (aC (eV 4) aN))))) (sRet (eC (.bl false))) sNx)
  (sSeq (sSet 7 (eM1 gJoin (eC (.str "")) (eN (nCall gSortTx (aC (eOp gAdd (eV 0) (eV 2)) aN)))))
  (sSeq (sSet 8 (eF 3 (m_shown c) (aC (eV 7) (aC (eOp gIx (eV 6) (eC (.int 0))) (aC (eV 0) aN)))))
  (sRet (vAnd (eOp gEq (eN (nComp [9] (iSq (eV 8)) (gN 9) (tB (eOp (gInQ true) (eV 9) (eV 1))) (eV 9))) (eN nNil)) (eOp gEq (eCall gRepr (aC (eN (nLst (aC (eV 1) (aC (eV 3) aN)))) aN)) (eV 5)))))))))
def m__law_both_right (c : CA) : List D → Res D := fun ds => noErr (runP (b__law_both_right c) 6 ds)
theorem ok__law_both_right (R : PR K mg) : FnG P w K mg base CX0 3 R.f__law_both_right R.fd__law_both_right ["_law_cols", "_law_lines_here", "_law_few", "_law_mates"] (spP K 4 (m__law_both_right R.c)) :=
  fn_P R.F__law_both_right sc__law_both_right 6 rfl fun cdv A outer s H E hg hr => (dss_cons (ds_par2 rfl sc__law_both_right.nd rfl rfl (by decide) rfl rfl (dws_e (de_F (ok__law_joined R) hg (hr.mono (by decide)) (by rfl) R.g__law_joined R.F__law_joined.kp R.b__law_joined passW0 (da_cons (dv 0) (da_cons (dv 1) (da_cons (dv 2) (da_cons (dv 3) da_nil))))) (dws_e (de_callB (call_reprD hr.units hg) calld_repr (by rfl) R.z_repr PyProof.Rows.boot_repr (da_cons (dn_de (dn_lst (da_cons (dv 1) (da_cons (dv 3) da_nil)))) da_nil)) dws_nil)) rfl)
    (dss_cons (ds_set sc__law_both_right.nd rfl (Or.inl rfl) (dn_de (dn_lst (da_cons (de_F (ok_joined R) hg (hr.mono (by decide)) (by rfl) R.g_joined R.F_joined.kp R.b_joined passW0 (da_cons (dv 0) (da_cons (dv 1) (da_cons (dv 2) (da_cons (dv 3) da_nil))))) (da_cons (de_FK0 (ok_joined R) hg (hr.mono (by decide)) (by rfl) R.g_joined R.F_joined.kp R.kw_joined_0_more_others_rows_columns passW0 (dk_cons (dv 3) (dk_cons (dv 2) (dk_cons (dv 1) (dk_cons (dv 0) dk_nil))))) da_nil)))))
    (dss_cons (ds_if (dt_w (dw_or (dt_cmp (op_neq hr.units) opd_ne (de_callB (call_reprD hr.units hg) calld_repr (by rfl) R.z_repr PyProof.Rows.boot_repr (da_cons (dv 6) da_nil)) (de_callB (call_reprD hr.units hg) calld_repr (by rfl) R.z_repr PyProof.Rows.boot_repr (da_cons (dn_de (dn_lst (da_cons (dv 4) (da_cons (dv 4) da_nil)))) da_nil)) (nomark _)) (dw_one (dt_cmp (op_neq hr.units) opd_ne (de_callB (call_reprD hr.units hg) calld_repr (by rfl) R.z_repr PyProof.Rows.boot_repr (da_cons (de_F (ok_joined R) hg (hr.mono (by decide)) (by rfl) R.g_joined R.F_joined.kp R.b_joined passW0 (da_cons (dv 2) (da_cons (dv 3) (da_cons (dv 0) (da_cons (dv 1) da_nil))))) da_nil)) (de_callB (call_reprD hr.units hg) calld_repr (by rfl) R.z_repr PyProof.Rows.boot_repr (da_cons (dv 4) da_nil)) (nomark _))))) (dss_one (ds_ret de_bl)) dss_nil)
    (dss_cons (ds_set sc__law_both_right.nd rfl (Or.inl rfl) (de_join (de_str ⟨by decide +kernel, by decide +kernel⟩) (dn_de (dn_sortTx rfl (by rfl) R.z_sorted (by rfl) R.z_set (da_cons (de_op op_addA opd_add (dv 0) (dv 2)) da_nil)))))
    (dss_cons (ds_set sc__law_both_right.nd rfl (Or.inl rfl) (de_F (ok_shown R) hg (hr.mono (by decide)) (by rfl) R.g_shown R.F_shown.kp R.b_shown passW0 (da_cons (dv 7) (da_cons (de_ix ix_seq opd_ix (dv 6) de_int (by intro _ _; rfl)) (da_cons (dv 0) da_nil)))))
    (dss_one (ds_ret (de_and (de_cmp (op_eqq hr.units) opd_eq (dn_de (dn_comp (own := [("_law_item", 9)]) rfl sc__law_both_right.nd (di_seq (dv 8)) (by exact blkOk_by (N := N__law_both_right) (sc := defScope s__law_both_right) (own := [("_law_item", 9)]) (by decide +kernel)) (fun _ _ _ _ _ => (dg_name sc__law_both_right.nd rfl (by first | exact Or.inl rfl | exact Or.inr rfl))) (fun _ _ _ _ _ => (dts_one (dt_cmp (op_notinq hr.units) opd_in (dv 9) (dv 1) (by rfl)))) (fun _ _ _ _ _ => (dv 9)))) (dn_de dn_nil) (nomark _)) (de_one (de_cmp (op_eqq hr.units) opd_eq (de_callB (call_reprD hr.units hg) calld_repr (by rfl) R.z_repr PyProof.Rows.boot_repr (da_cons (dn_de (dn_lst (da_cons (dv 1) (da_cons (dv 3) da_nil)))) da_nil)) (dv 5) (nomark _)))))))))))
def b_law (c : CA) : SF := (sSeq (sFor (iR1 (aC (eC (.int 8)) aN)) (gN 2)
  (sSeq (sSet 3 (eSl gSl (eK 1 1 (m__law_columns c) (aC (eC (.str "abcdexyz")) aN)) oNo (oSo (eC (.int 6)))))
  (sSeq (sSet 4 (eK 1 3 (m__law_lines c) (aC (eCall gLen (aC (eV 3) aN)) (aC (eC (.int 12)) (aC (eC (.int 4)) aN)))))
  (sSeq (sIf (tNt (tB (eK 1 2 (m__law_right c) (aC (eV 3) (aC (eV 4) aN))))) (sRet (eC (.bl false))) sNx)
  (sSeq (sSet 5 (eK 1 1 (m__law_pick c) (aC (eN (nLst (aC (eSl gSl (eK 1 1 (m__law_columns c) (aC (eC (.str "abcdexyz")) aN)) oNo (oSo (eC (.int 5)))) (aC (eK 1 1 (m__law_columns c) (aC (eV 3) aN)) (aC (eC (.str "fg")) (aC (eV 3) aN)))))) aN)))
  (sIf (tNt (tB (eF 4 (m__law_both_right c) (aC (eV 3) (aC (eV 4) (aC (eV 5) (aC (eK 1 3 (m__law_lines c) (aC (eCall gLen (aC (eV 5) aN)) (aC (eC (.int 6)) (aC (eC (.int 4)) aN)))) aN))))))) (sRet (eC (.bl false))) sNx))))))
  (sSeq (sSetN 6 (nLst (aC (eF 4 (m_joined c) (aC (eC (.str "a")) (aC (eTup (aC (eTup (aC (eC (.int 1)) aN)) (aC (eTup (aC (eC (.int 2)) aN)) aN))) (aC (eC (.str "b")) (aC (eTup (aC (eTup (aC (eC (.int 3)) aN)) (aC (eTup (aC (eC (.int 4)) aN)) aN))) aN))))) (aC (eF 4 (m_joined c) (aC (eC (.str "")) (aC (eTup (aC (eTup aN) aN)) (aC (eC (.str "b")) (aC (eTup (aC (eTup (aC (eC (.int 3)) aN)) aN)) aN))))) aN))))
  (sSeq (sEx (eOM 6 gApp (aC (eF 4 (m_joined c) (aC (eC (.str "")) (aC (eTup aN) (aC (eC (.str "b")) (aC (eTup (aC (eTup (aC (eC (.int 3)) aN)) aN)) aN))))) aN)))
  (sRet (eOp gEq (eV 6) (eN (nLst (aC (eTup (aC (eTup (aC (eC (.int 1)) (aC (eC (.int 3)) aN))) (aC (eTup (aC (eC (.int 1)) (aC (eC (.int 4)) aN))) (aC (eTup (aC (eC (.int 2)) (aC (eC (.int 3)) aN))) (aC (eTup (aC (eC (.int 2)) (aC (eC (.int 4)) aN))) aN))))) (aC (eTup (aC (eTup (aC (eC (.int 3)) aN)) aN)) (aC (eTup aN) aN))))))))))
def spLaw (K : PySem.W.Frag) : Sp := fun vs H Q _ => ∃ (a : Addr) (ns : List Int), vs = [.ref a] ∧ SqL K H a (ns.map V.int) ∧ ns.length ≤ 63 ∧ ∀ H', Q (.bl true) H'
theorem ok_law (R : PR K mg) (hm : ∀ (p q : Addr) (l : List Int) (b : Int), l.length ≤ 63 → ∃ E, b_law R.c (.no :: .deck p q l b :: nos 5) = .ok (.rt (.bl true), E)) : FnG P w K mg base CX0 4 R.f_law R.fd_law ["_law_script"] (spLaw K) := by
  refine FnG.body R.F_law sc_law (fun vs H Q E h => by obtain ⟨a, ns, rfl, _⟩ := h; rfl) fun cdv A outer s H vs Q E hg hr hsp => ?_
  obtain ⟨a, ns, rfl, hS, hl, z⟩ := hsp
  refine ⟨_, PSs.nox (pss_cons (ps_set (i := 1) sc_law.nd rfl (Or.inl rfl) (pe_F (ok__law_deck R) hg (hr.mono (by decide)) (by rfl) R.g__law_deck R.F__law_deck.kp R.b__law_deck (passW0 (Wi := W0)) (pa_cons (pv 0) pa_nil)))
   (show DSs _ W0 _ (b_law R.c) from (dss_cons (ds_for PassesOwn.never rfl (di_range1 (by rfl) R.z_range (da_cons de_int da_nil)) (dg_name sc_law.nd rfl (by first | exact Or.inl rfl | exact Or.inr rfl)) (dss_cons (ds_set sc_law.nd rfl (Or.inl rfl) (de_slice sl_3 sld_sl (de_K (ok__law_columns R) hg (hr.mono (by decide)) (by rfl) R.g__law_columns R.F__law_columns.kp R.b__law_columns passW0 (pv 1) (da_cons (de_str ⟨by decide +kernel, by decide +kernel⟩) da_nil)) do_no (do_so de_int)))
    (dss_cons (ds_set sc_law.nd rfl (Or.inl rfl) (de_K (ok__law_lines R) hg (hr.mono (by decide)) (by rfl) R.g__law_lines R.F__law_lines.kp R.b__law_lines passW0 (pv 1) (da_cons (de_callB call_len calld_len (by rfl) R.z_len PySem.boot_len (da_cons (dv 3) da_nil)) (da_cons de_int (da_cons de_int da_nil)))))
    (dss_cons (ds_if (dt_not (dt_val (de_K (ok__law_right R) hg (hr.mono (by decide)) (by rfl) R.g__law_right R.F__law_right.kp R.b__law_right passW0 (pv 1) (da_cons (dv 3) (da_cons (dv 4) da_nil))))) (dss_one (ds_ret de_bl)) dss_nil)
    (dss_cons (ds_set sc_law.nd rfl (Or.inl rfl) (de_K (ok__law_pick R) hg (hr.mono (by decide)) (by rfl) R.g__law_pick R.F__law_pick.kp R.b__law_pick passW0 (pv 1) (da_cons (dn_de (dn_lst (da_cons (de_slice sl_3 sld_sl (de_K (ok__law_columns R) hg (hr.mono (by decide)) (by rfl) R.g__law_columns R.F__law_columns.kp R.b__law_columns passW0 (pv 1) (da_cons (de_str ⟨by decide +kernel, by decide +kernel⟩) da_nil)) do_no (do_so de_int)) (da_cons (de_K (ok__law_columns R) hg (hr.mono (by decide)) (by rfl) R.g__law_columns R.F__law_columns.kp R.b__law_columns passW0 (pv 1) (da_cons (dv 3) da_nil)) (da_cons (de_str ⟨by decide +kernel, by decide +kernel⟩) (da_cons (dv 3) da_nil)))))) da_nil)))
    (dss_one (ds_if (dt_not (dt_val (de_F (ok__law_both_right R) hg (hr.mono (by decide)) (by rfl) R.g__law_both_right R.F__law_both_right.kp R.b__law_both_right passW0 (da_cons (dv 3) (da_cons (dv 4) (da_cons (dv 5) (da_cons (de_K (ok__law_lines R) hg (hr.mono (by decide)) (by rfl) R.g__law_lines R.F__law_lines.kp R.b__law_lines passW0 (pv 1) (da_cons (de_callB call_len calld_len (by rfl) R.z_len PySem.boot_len (da_cons (dv 5) da_nil)) (da_cons de_int (da_cons de_int da_nil)))) da_nil))))))) (dss_one (ds_ret de_bl)) dss_nil)))))))
    (dss_cons (ds_setN sc_law.nd rfl (Or.inl rfl) (dn_lst (da_cons (de_F (ok_joined R) hg (hr.mono (by decide)) (by rfl) R.g_joined R.F_joined.kp R.b_joined passW0 (da_cons (de_str ⟨by decide +kernel, by decide +kernel⟩) (da_cons (de_tup (da_cons (de_tup (da_cons de_int da_nil)) (da_cons (de_tup (da_cons de_int da_nil)) da_nil))) (da_cons (de_str ⟨by decide +kernel, by decide +kernel⟩) (da_cons (de_tup (da_cons (de_tup (da_cons de_int da_nil)) (da_cons (de_tup (da_cons de_int da_nil)) da_nil))) da_nil))))) (da_cons (de_F (ok_joined R) hg (hr.mono (by decide)) (by rfl) R.g_joined R.F_joined.kp R.b_joined passW0 (da_cons (de_str ⟨by decide +kernel, by decide +kernel⟩) (da_cons (de_tup (da_cons (de_tup da_nil) da_nil)) (da_cons (de_str ⟨by decide +kernel, by decide +kernel⟩) (da_cons (de_tup (da_cons (de_tup (da_cons de_int da_nil)) da_nil)) da_nil))))) da_nil))))
    (dss_cons (ds_expr (de_om PySem.F.slot_list_append PySem.F.type_list_append mt_append own_app (pv 6) (da_cons (de_F (ok_joined R) hg (hr.mono (by decide)) (by rfl) R.g_joined R.F_joined.kp R.b_joined passW0 (da_cons (de_str ⟨by decide +kernel, by decide +kernel⟩) (da_cons (de_tup da_nil) (da_cons (de_str ⟨by decide +kernel, by decide +kernel⟩) (da_cons (de_tup (da_cons (de_tup (da_cons de_int da_nil)) da_nil)) da_nil))))) da_nil)))
    (dss_one (ds_ret (de_cmp (op_eqq hr.units) opd_eq (dv 6) (dn_de (dn_lst (da_cons (de_tup (da_cons (de_tup (da_cons de_int (da_cons de_int da_nil))) (da_cons (de_tup (da_cons de_int (da_cons de_int da_nil))) (da_cons (de_tup (da_cons de_int (da_cons de_int da_nil))) (da_cons (de_tup (da_cons de_int (da_cons de_int da_nil))) da_nil))))) (da_cons (de_tup (da_cons (de_tup (da_cons de_int da_nil)) da_nil)) (da_cons (de_tup da_nil) da_nil))))) (nomark _))))))))), ?_⟩
  exact law_read (n := 5) rfl hm hS hl z
theorem kw_shown_0_some_rows_columns {f : Addr} {fd : FuncData} (F : Fun K "shown" "shown" s_shown f fd) : KW fd ["columns", "rows", "some"] 0 ["some", "rows", "columns"] [2, 1, 0] := by
  obtain ⟨oc, od, kV, doc, pm, an, cdv, ct, osl, rfl, lk, hcd⟩ := F.ex
  exact ⟨fun us ws h1 h2 => match us, ws, h1, h2 with | [], [_, _, _], _, _ => rfl⟩
theorem kw_joined_0_more_others_rows_columns {f : Addr} {fd : FuncData} (F : Fun K "joined" "joined" s_joined f fd) : KW fd ["columns", "rows", "others", "more"] 0 ["more", "others", "rows", "columns"] [3, 2, 1, 0] := by
  obtain ⟨oc, od, kV, doc, pm, an, cdv, ct, osl, rfl, lk, hcd⟩ := F.ex
  exact ⟨fun us ws h1 h2 => match us, ws, h1, h2 with | [], [_, _, _, _], _, _ => rfl⟩
theorem all_mk {l : PySem.W.OpenLaw} {h : Heap} {fa : Addr} (X : K.In h) (G : h.Ns mainGlobals mg) (hfa : mg "law" = some (.ref fa)) {f__law_draw : Addr} {oc__law_draw : Value} {od__law_draw : Option Addr} {kV__law_draw dc__law_draw pm__law_draw cd__law_draw ct__law_draw : Value} {an__law_draw : Option Addr} {sl__law_draw : Array (Option Value)} {f__law_deck : Addr} {oc__law_deck : Value} {od__law_deck : Option Addr} {kV__law_deck dc__law_deck pm__law_deck cd__law_deck ct__law_deck : Value} {an__law_deck : Option Addr} {sl__law_deck : Array (Option Value)} {f__law_columns : Addr} {oc__law_columns : Value} {od__law_columns : Option Addr} {kV__law_columns dc__law_columns pm__law_columns cd__law_columns ct__law_columns : Value} {an__law_columns : Option Addr} {sl__law_columns : Array (Option Value)} {f__law_pick : Addr} {oc__law_pick : Value} {od__law_pick : Option Addr} {kV__law_pick dc__law_pick pm__law_pick cd__law_pick ct__law_pick : Value} {an__law_pick : Option Addr} {sl__law_pick : Array (Option Value)} {f__law_lines : Addr} {oc__law_lines : Value} {od__law_lines : Option Addr} {kV__law_lines dc__law_lines pm__law_lines cd__law_lines ct__law_lines : Value} {an__law_lines : Option Addr} {sl__law_lines : Array (Option Value)} {f__law_shown : Addr} {oc__law_shown : Value} {od__law_shown : Option Addr} {kV__law_shown dc__law_shown pm__law_shown cd__law_shown ct__law_shown : Value} {an__law_shown : Option Addr} {sl__law_shown : Array (Option Value)} {f_row_at : Addr} {oc_row_at : Value} {od_row_at : Option Addr} {kV_row_at dc_row_at pm_row_at cd_row_at ct_row_at : Value} {an_row_at : Option Addr} {sl_row_at : Array (Option Value)} {f_shown : Addr} {oc_shown : Value} {od_shown : Option Addr} {kV_shown dc_shown pm_shown cd_shown ct_shown : Value} {an_shown : Option Addr} {sl_shown : Array (Option Value)} {f_joined : Addr} {oc_joined : Value} {od_joined : Option Addr} {kV_joined dc_joined pm_joined cd_joined ct_joined : Value} {an_joined : Option Addr} {sl_joined : Array (Option Value)} {f__law_right : Addr} {oc__law_right : Value} {od__law_right : Option Addr} {kV__law_right dc__law_right pm__law_right cd__law_right ct__law_right : Value} {an__law_right : Option Addr} {sl__law_right : Array (Option Value)} {f__law_joined : Addr} {oc__law_joined : Value} {od__law_joined : Option Addr} {kV__law_joined dc__law_joined pm__law_joined cd__law_joined ct__law_joined : Value} {an__law_joined : Option Addr} {sl__law_joined : Array (Option Value)} {f__law_both_right : Addr} {oc__law_both_right : Value} {od__law_both_right : Option Addr} {kV__law_both_right dc__law_both_right pm__law_both_right cd__law_both_right ct__law_both_right : Value} {an__law_both_right : Option Addr} {sl__law_both_right : Array (Option Value)} {f_law : Addr} {oc_law : Value} {od_law : Option Addr} {kV_law dc_law pm_law cd_law ct_law : Value} {an_law : Option Addr} {sl_law : Array (Option Value)}
  (a__law_draw : PySem.W.nsIn K mainGlobals "_law_draw" = some (some (.ref f__law_draw)))
  (l__law_draw : K.lookup f__law_draw = some ⟨oc__law_draw, od__law_draw, .func (PySem.W.fnOf "_law_draw" "_law_draw" (defArgs s__law_draw) (defBody s__law_draw) (defScope s__law_draw) .none kV__law_draw dc__law_draw pm__law_draw an__law_draw cd__law_draw ct__law_draw), sl__law_draw⟩)
  (q__law_draw : PySem.W.codeIn K cd__law_draw "_law_draw" = true)
  (k__law_draw : PySem.W.keepIn K (.ref f__law_draw) = true)
  (a__law_deck : PySem.W.nsIn K mainGlobals "_law_deck" = some (some (.ref f__law_deck)))
  (l__law_deck : K.lookup f__law_deck = some ⟨oc__law_deck, od__law_deck, .func (PySem.W.fnOf "_law_deck" "_law_deck" (defArgs s__law_deck) (defBody s__law_deck) (defScope s__law_deck) .none kV__law_deck dc__law_deck pm__law_deck an__law_deck cd__law_deck ct__law_deck), sl__law_deck⟩)
  (q__law_deck : PySem.W.codeIn K cd__law_deck "_law_deck" = true)
  (k__law_deck : PySem.W.keepIn K (.ref f__law_deck) = true)
  (a__law_columns : PySem.W.nsIn K mainGlobals "_law_columns" = some (some (.ref f__law_columns)))
  (l__law_columns : K.lookup f__law_columns = some ⟨oc__law_columns, od__law_columns, .func (PySem.W.fnOf "_law_columns" "_law_columns" (defArgs s__law_columns) (defBody s__law_columns) (defScope s__law_columns) .none kV__law_columns dc__law_columns pm__law_columns an__law_columns cd__law_columns ct__law_columns), sl__law_columns⟩)
  (q__law_columns : PySem.W.codeIn K cd__law_columns "_law_columns" = true)
  (k__law_columns : PySem.W.keepIn K (.ref f__law_columns) = true)
  (a__law_pick : PySem.W.nsIn K mainGlobals "_law_pick" = some (some (.ref f__law_pick)))
  (l__law_pick : K.lookup f__law_pick = some ⟨oc__law_pick, od__law_pick, .func (PySem.W.fnOf "_law_pick" "_law_pick" (defArgs s__law_pick) (defBody s__law_pick) (defScope s__law_pick) .none kV__law_pick dc__law_pick pm__law_pick an__law_pick cd__law_pick ct__law_pick), sl__law_pick⟩)
  (q__law_pick : PySem.W.codeIn K cd__law_pick "_law_pick" = true)
  (k__law_pick : PySem.W.keepIn K (.ref f__law_pick) = true)
  (a__law_lines : PySem.W.nsIn K mainGlobals "_law_lines" = some (some (.ref f__law_lines)))
  (l__law_lines : K.lookup f__law_lines = some ⟨oc__law_lines, od__law_lines, .func (PySem.W.fnOf "_law_lines" "_law_lines" (defArgs s__law_lines) (defBody s__law_lines) (defScope s__law_lines) .none kV__law_lines dc__law_lines pm__law_lines an__law_lines cd__law_lines ct__law_lines), sl__law_lines⟩)
  (q__law_lines : PySem.W.codeIn K cd__law_lines "_law_lines" = true)
  (k__law_lines : PySem.W.keepIn K (.ref f__law_lines) = true)
  (a__law_shown : PySem.W.nsIn K mainGlobals "_law_shown" = some (some (.ref f__law_shown)))
  (l__law_shown : K.lookup f__law_shown = some ⟨oc__law_shown, od__law_shown, .func (PySem.W.fnOf "_law_shown" "_law_shown" (defArgs s__law_shown) (defBody s__law_shown) (defScope s__law_shown) .none kV__law_shown dc__law_shown pm__law_shown an__law_shown cd__law_shown ct__law_shown), sl__law_shown⟩)
  (q__law_shown : PySem.W.codeIn K cd__law_shown "_law_shown" = true)
  (k__law_shown : PySem.W.keepIn K (.ref f__law_shown) = true)
  (a_row_at : PySem.W.nsIn K mainGlobals "row_at" = some (some (.ref f_row_at)))
  (l_row_at : K.lookup f_row_at = some ⟨oc_row_at, od_row_at, .func (PySem.W.fnOf "row_at" "row_at" (defArgs s_row_at) (defBody s_row_at) (defScope s_row_at) .none kV_row_at dc_row_at pm_row_at an_row_at cd_row_at ct_row_at), sl_row_at⟩)
  (q_row_at : PySem.W.codeIn K cd_row_at "row_at" = true)
  (k_row_at : PySem.W.keepIn K (.ref f_row_at) = true)
  (a_shown : PySem.W.nsIn K mainGlobals "shown" = some (some (.ref f_shown)))
  (l_shown : K.lookup f_shown = some ⟨oc_shown, od_shown, .func (PySem.W.fnOf "shown" "shown" (defArgs s_shown) (defBody s_shown) (defScope s_shown) .none kV_shown dc_shown pm_shown an_shown cd_shown ct_shown), sl_shown⟩)
  (q_shown : PySem.W.codeIn K cd_shown "shown" = true)
  (k_shown : PySem.W.keepIn K (.ref f_shown) = true)
  (a_joined : PySem.W.nsIn K mainGlobals "joined" = some (some (.ref f_joined)))
  (l_joined : K.lookup f_joined = some ⟨oc_joined, od_joined, .func (PySem.W.fnOf "joined" "joined" (defArgs s_joined) (defBody s_joined) (defScope s_joined) .none kV_joined dc_joined pm_joined an_joined cd_joined ct_joined), sl_joined⟩)
  (q_joined : PySem.W.codeIn K cd_joined "joined" = true)
  (k_joined : PySem.W.keepIn K (.ref f_joined) = true)
  (a__law_right : PySem.W.nsIn K mainGlobals "_law_right" = some (some (.ref f__law_right)))
  (l__law_right : K.lookup f__law_right = some ⟨oc__law_right, od__law_right, .func (PySem.W.fnOf "_law_right" "_law_right" (defArgs s__law_right) (defBody s__law_right) (defScope s__law_right) .none kV__law_right dc__law_right pm__law_right an__law_right cd__law_right ct__law_right), sl__law_right⟩)
  (q__law_right : PySem.W.codeIn K cd__law_right "_law_right" = true)
  (k__law_right : PySem.W.keepIn K (.ref f__law_right) = true)
  (a__law_joined : PySem.W.nsIn K mainGlobals "_law_joined" = some (some (.ref f__law_joined)))
  (l__law_joined : K.lookup f__law_joined = some ⟨oc__law_joined, od__law_joined, .func (PySem.W.fnOf "_law_joined" "_law_joined" (defArgs s__law_joined) (defBody s__law_joined) (defScope s__law_joined) .none kV__law_joined dc__law_joined pm__law_joined an__law_joined cd__law_joined ct__law_joined), sl__law_joined⟩)
  (q__law_joined : PySem.W.codeIn K cd__law_joined "_law_joined" = true)
  (k__law_joined : PySem.W.keepIn K (.ref f__law_joined) = true)
  (a__law_both_right : PySem.W.nsIn K mainGlobals "_law_both_right" = some (some (.ref f__law_both_right)))
  (l__law_both_right : K.lookup f__law_both_right = some ⟨oc__law_both_right, od__law_both_right, .func (PySem.W.fnOf "_law_both_right" "_law_both_right" (defArgs s__law_both_right) (defBody s__law_both_right) (defScope s__law_both_right) .none kV__law_both_right dc__law_both_right pm__law_both_right an__law_both_right cd__law_both_right ct__law_both_right), sl__law_both_right⟩)
  (q__law_both_right : PySem.W.codeIn K cd__law_both_right "_law_both_right" = true)
  (k__law_both_right : PySem.W.keepIn K (.ref f__law_both_right) = true)
  (a_law : PySem.W.nsIn K mainGlobals "law" = some (some (.ref f_law)))
  (l_law : K.lookup f_law = some ⟨oc_law, od_law, .func (PySem.W.fnOf "law" "law" (defArgs s_law) (defBody s_law) (defScope s_law) .none kV_law dc_law pm_law an_law cd_law ct_law), sl_law⟩)
  (q_law : PySem.W.codeIn K cd_law "law" = true)
  (k_law : PySem.W.keepIn K (.ref f_law) = true)
  (z_int : PySem.W.nsIn K mainGlobals "int" = some none)
  (z_range : PySem.W.nsIn K mainGlobals "range" = some none)
  (z_len : PySem.W.nsIn K mainGlobals "len" = some none)
  (z_tuple : PySem.W.nsIn K mainGlobals "tuple" = some none)
  (z_sorted : PySem.W.nsIn K mainGlobals "sorted" = some none)
  (z_set : PySem.W.nsIn K mainGlobals "set" = some none)
  (z_repr : PySem.W.nsIn K mainGlobals "repr" = some none)
  (z_dict : PySem.W.nsIn K mainGlobals "dict" = some none)
  (z_zip : PySem.W.nsIn K mainGlobals "zip" = some none)
  (hm : ∀ (c : CA) (p q : Addr) (l : List Int) (b : Int), l.length ≤ 63 → ∃ E, b_law c (.no :: .deck p q l b :: nos 5) = .ok (.rt (.bl true), E)) :
  ∃ fd : FuncData, (∀ (s : Shared) (v : Value), BindsTo s fd ⟨[v], []⟩ [("_law_script", v)]) ∧ ∀ base : Heap, K.In base → base.Ns mainGlobals mg → FnG l.prog w K mg base CX0 4 fa fd ["_law_script"] (spLaw K) := by
  have e := (PySem.W.mg_of X G a_law).symm.trans hfa
  have e2 : f_law = fa := Value.ref.inj (Option.some.inj e)
  subst e2
  let R : PR K mg := {
    c := ⟨⟩,
    f__law_draw := f__law_draw,
    fd__law_draw := _,
    F__law_draw := fun_mk (st := s__law_draw) l__law_draw q__law_draw k__law_draw,
    b__law_draw := (fun_mk (st := s__law_draw) l__law_draw q__law_draw k__law_draw).binds (ps := ["_law_deck_here", "_law_many"]) fun _ _ _ _ _ _ us hl => match us, hl with | [_, _], _ => rfl,
    g__law_draw := PySem.W.mg_of X G a__law_draw,
    f__law_deck := f__law_deck,
    fd__law_deck := _,
    F__law_deck := fun_mk (st := s__law_deck) l__law_deck q__law_deck k__law_deck,
    b__law_deck := (fun_mk (st := s__law_deck) l__law_deck q__law_deck k__law_deck).binds (ps := ["_law_script"]) fun _ _ _ _ _ _ us hl => match us, hl with | [_], _ => rfl,
    g__law_deck := PySem.W.mg_of X G a__law_deck,
    f__law_columns := f__law_columns,
    fd__law_columns := _,
    F__law_columns := fun_mk (st := s__law_columns) l__law_columns q__law_columns k__law_columns,
    b__law_columns := (fun_mk (st := s__law_columns) l__law_columns q__law_columns k__law_columns).binds (ps := ["_law_deck_here", "_law_cols"]) fun _ _ _ _ _ _ us hl => match us, hl with | [_, _], _ => rfl,
    g__law_columns := PySem.W.mg_of X G a__law_columns,
    f__law_pick := f__law_pick,
    fd__law_pick := _,
    F__law_pick := fun_mk (st := s__law_pick) l__law_pick q__law_pick k__law_pick,
    b__law_pick := (fun_mk (st := s__law_pick) l__law_pick q__law_pick k__law_pick).binds (ps := ["_law_deck_here", "_law_menu"]) fun _ _ _ _ _ _ us hl => match us, hl with | [_, _], _ => rfl,
    g__law_pick := PySem.W.mg_of X G a__law_pick,
    f__law_lines := f__law_lines,
    fd__law_lines := _,
    F__law_lines := fun_mk (st := s__law_lines) l__law_lines q__law_lines k__law_lines,
    b__law_lines := (fun_mk (st := s__law_lines) l__law_lines q__law_lines k__law_lines).binds (ps := ["_law_deck_here", "_law_wide", "_law_many", "_law_top"]) fun _ _ _ _ _ _ us hl => match us, hl with | [_, _, _, _], _ => rfl,
    g__law_lines := PySem.W.mg_of X G a__law_lines,
    f__law_shown := f__law_shown,
    fd__law_shown := _,
    F__law_shown := fun_mk (st := s__law_shown) l__law_shown q__law_shown k__law_shown,
    b__law_shown := (fun_mk (st := s__law_shown) l__law_shown q__law_shown k__law_shown).binds (ps := ["_law_cols", "_law_lines_here", "_law_few"]) fun _ _ _ _ _ _ us hl => match us, hl with | [_, _, _], _ => rfl,
    g__law_shown := PySem.W.mg_of X G a__law_shown,
    f_row_at := f_row_at,
    fd_row_at := _,
    F_row_at := fun_mk (st := s_row_at) l_row_at q_row_at k_row_at,
    b_row_at := (fun_mk (st := s_row_at) l_row_at q_row_at k_row_at).binds (ps := ["columns", "row", "some"]) fun _ _ _ _ _ _ us hl => match us, hl with | [_, _, _], _ => rfl,
    g_row_at := PySem.W.mg_of X G a_row_at,
    f_shown := f_shown,
    fd_shown := _,
    F_shown := fun_mk (st := s_shown) l_shown q_shown k_shown,
    b_shown := (fun_mk (st := s_shown) l_shown q_shown k_shown).binds (ps := ["columns", "rows", "some"]) fun _ _ _ _ _ _ us hl => match us, hl with | [_, _, _], _ => rfl,
    g_shown := PySem.W.mg_of X G a_shown,
    f_joined := f_joined,
    fd_joined := _,
    F_joined := fun_mk (st := s_joined) l_joined q_joined k_joined,
    b_joined := (fun_mk (st := s_joined) l_joined q_joined k_joined).binds (ps := ["columns", "rows", "others", "more"]) fun _ _ _ _ _ _ us hl => match us, hl with | [_, _, _, _], _ => rfl,
    g_joined := PySem.W.mg_of X G a_joined,
    f__law_right := f__law_right,
    fd__law_right := _,
    F__law_right := fun_mk (st := s__law_right) l__law_right q__law_right k__law_right,
    b__law_right := (fun_mk (st := s__law_right) l__law_right q__law_right k__law_right).binds (ps := ["_law_deck_here", "_law_cols", "_law_lines_here"]) fun _ _ _ _ _ _ us hl => match us, hl with | [_, _, _], _ => rfl,
    g__law_right := PySem.W.mg_of X G a__law_right,
    f__law_joined := f__law_joined,
    fd__law_joined := _,
    F__law_joined := fun_mk (st := s__law_joined) l__law_joined q__law_joined k__law_joined,
    b__law_joined := (fun_mk (st := s__law_joined) l__law_joined q__law_joined k__law_joined).binds (ps := ["_law_cols", "_law_lines_here", "_law_few", "_law_mates"]) fun _ _ _ _ _ _ us hl => match us, hl with | [_, _, _, _], _ => rfl,
    g__law_joined := PySem.W.mg_of X G a__law_joined,
    f__law_both_right := f__law_both_right,
    fd__law_both_right := _,
    F__law_both_right := fun_mk (st := s__law_both_right) l__law_both_right q__law_both_right k__law_both_right,
    b__law_both_right := (fun_mk (st := s__law_both_right) l__law_both_right q__law_both_right k__law_both_right).binds (ps := ["_law_cols", "_law_lines_here", "_law_few", "_law_mates"]) fun _ _ _ _ _ _ us hl => match us, hl with | [_, _, _, _], _ => rfl,
    g__law_both_right := PySem.W.mg_of X G a__law_both_right,
    f_law := f_law,
    fd_law := _,
    F_law := fun_mk (st := s_law) l_law q_law k_law,
    b_law := (fun_mk (st := s_law) l_law q_law k_law).binds (ps := ["_law_script"]) fun _ _ _ _ _ _ us hl => match us, hl with | [_], _ => rfl,
    g_law := PySem.W.mg_of X G a_law,
    z_int := PySem.W.mg_none_of X G z_int,
    z_range := PySem.W.mg_none_of X G z_range,
    z_len := PySem.W.mg_none_of X G z_len,
    z_tuple := PySem.W.mg_none_of X G z_tuple,
    z_sorted := PySem.W.mg_none_of X G z_sorted,
    z_set := PySem.W.mg_none_of X G z_set,
    z_repr := PySem.W.mg_none_of X G z_repr,
    kw_shown_0_some_rows_columns := kw_shown_0_some_rows_columns (fun_mk (st := s_shown) l_shown q_shown k_shown),
    z_dict := PySem.W.mg_none_of X G z_dict,
    z_zip := PySem.W.mg_none_of X G z_zip,
    kw_joined_0_more_others_rows_columns := kw_joined_0_more_others_rows_columns (fun_mk (st := s_joined) l_joined q_joined k_joined) }
  refine ⟨R.fd_law, fun s u => (.of_eq ?_), fun base _ _ => ok_law R (hm R.c)⟩
  rfl
end
theorem m_pick_ok {α : Type} (c : CA) (a q : Addr) (l : List Int) (b : Int) (d : D) (L : List α) (f : α → D) (hlen : gLen [d] = some (.int L.length)) (hix : ∀ i : Nat, gIx d (.int i) = (L[i]?).map f) (hne : L ≠ []) (hL : L.length ≤ 1000) (hl : l.length ≤ 63) :
    ∃ x ∈ L, ∃ l' b', m__law_pick c a q ⟨l, b⟩ [d] = .ok (f x, ⟨l', b'⟩) ∧ l'.length ≤ 63 := by
  have h0 : 0 < L.length := List.length_pos_iff.mpr hne
  obtain ⟨v, l', b', e, hv, hl'⟩ := draw_ok a q l b L.length (by omega) (by omega) hl
  have hv : v < L.length := by omega
  refine ⟨L[v], List.getElem_mem hv, l', b', ?_, hl'⟩
  refine runK_eq (E := [.dat d]) ?_
  unfold b__law_pick
  simp [m__law_draw, hlen, e, hix, hv]
theorem m_pick_lst {α : Type} (c : CA) (a q : Addr) (l : List Int) (b : Int) (L : List α) (f : α → D) (hne : L ≠ []) (hL : L.length ≤ 1000) (hl : l.length ≤ 63) :
    ∃ x ∈ L, ∃ l' b', m__law_pick c a q ⟨l, b⟩ [.lst (L.map f)] = .ok (f x, ⟨l', b'⟩) ∧ l'.length ≤ 63 :=
  m_pick_ok c a q l b _ L f (by simp [gLen]) (fun i => by rw [gIx_lst_nat, List.getElem?_map]) hne hL hl
theorem m_lines_ok (c : CA) (a q : Addr) (l : List Int) (b : Int) (wide many : Nat) (top : Int) (hw : wide ≤ 26) (hm : many ≤ 60) (ht : 0 < top) (ht2 : top ≤ 1000000000000000000000000000000) (hl : l.length ≤ 63) :
    ∃ (rows : List (List Int)) (l' : List Int) (b' : Int), m__law_lines c a q ⟨l, b⟩ [.int wide, .int many, .int top] = .ok (.tup (rows.map dI), ⟨l', b'⟩) ∧ (rows.Pairwise fun a b => lexL ltI a b = true) ∧ (∀ k ∈ rows, k.length = wide ∧ ∀ i ∈ k, SmI i) ∧ rows.length ≤ many ∧ l'.length ≤ 63 := by
  obtain ⟨d', l', b', e, rows, hd, h⟩ : ∃ d' l' b', runK (b__law_lines c) 3 a q ⟨l, b⟩ [.int wide, .int many, .int top] = .ok (d', ⟨l', b'⟩) ∧ ∃ rows : List (List Int), d' = .tup (rows.map dI) ∧ (rows.Pairwise fun a b => lexL ltI a b = true) ∧ (∀ k ∈ rows, k.length = wide ∧ ∀ i ∈ k, SmI i) ∧ rows.length ≤ many ∧ l'.length ≤ 63 := by
    apply runK_ok
    unfold b__law_lines
    refine seq_eq (E' := [.deck a q l b, .dat (.int wide), .dat (.int many), .dat (.int top), .own (.lst []), .no, .no]) (by simp) ?_
    obtain ⟨n, l1, b1, e1, hn, hl1⟩ := draw_ok a q l b (many + 1 : Nat) (by omega) (by omega) hl
    have hr : (n : Int) ≤ 16777216 ∧ -4611686018427387904 ≤ (n : Int) := by omega
    have e1 : drawR a q { l := l, b := b } [D.int (↑many + 1)] = _ := e1
    refine seq_for (fun i : Nat => D.int i) (fun r E => ∃ l b x5 ks, E = [.deck a q l b, .dat (.int wide), .dat (.int many), .dat (.int top), .own (.lst (ks.map dI)), x5, .no] ∧ ks.length + r.length = n ∧ (∀ k ∈ ks, k.length = wide ∧ ∀ i ∈ k, SmI i) ∧ l.length ≤ 63) (List.range n) (E' := [.deck a q l1 b1, .dat (.int wide), .dat (.int many), .dat (.int top), .own (.lst []), .no, .no]) (by simp [m__law_draw, e1, hr, rgD_map, gAdd]) ⟨l1, b1, .no, [], rfl, by simp, by simp, hl1⟩ ?_ ?_
    · rintro i r _ ⟨l2, b2, x5, ks, rfl, hk, hks, hl2⟩
      refine ⟨_, rfl, ?_⟩
      refine Ok.cps fun P hP => ?_
      have hwr : (wide : Int) ≤ 16777216 ∧ -4611686018427387904 ≤ (wide : Int) := by omega
      simp [Ok_bind, -compL_res', hwr, rgD_map]
      refine compL_okY (fun i : Nat => D.int i) (fun r acc E => ∃ l b vals, acc = vals.map .int ∧ vals.length + r.length = wide ∧ (∀ i ∈ vals, SmI i) ∧ l.length ≤ 63 ∧ E = [.deck a q l b, .dat (.int wide), .dat (.int many), .dat (.int top), .own (.lst (ks.map dI)), .dat (.int i), .no]) (List.range wide) [] ⟨l2, b2, [], rfl, by simp, by simp, hl2, rfl⟩ ?_ ?_
      · rintro j r2 acc _ ⟨l3, b3, vals, rfl, hv, hsm, hl3, rfl⟩
        refine ⟨_, rfl, ?_⟩
        obtain ⟨u, l4, b4, e4, hu, hl4⟩ := draw_okW a q l3 b3 top ht (by omega) hl3
        obtain ⟨z, hz, l5, b5, e5, hl5⟩ := m_pick_lst c a q l4 b4 [0, 1, 2, (u : Int), -3] D.int (by simp) (by simp) hl4
        have e5 : m__law_pick c a q ⟨l4, b4⟩ [.lst [.int 0, .int 1, .int 2, .int u, .int (-3)]] = _ := e5
        have hsmall : ∀ r, small [D.int 0, .int 1, .int 2, .int u, .int (-3)] r = r := fun r => small_ok (by simp)
        refine Ok.cps fun P hP => ?_
        simp [m__law_draw, e4, hsmall, e5]
        refine hP _ ⟨_, rfl, l5, b5, vals ++ [z], by simp, by simp at hv ⊢; omega, fun i hi => ?_, hl5, rfl⟩
        rcases List.mem_append.mp hi with y | y
        · exact hsm i y
        · rw [List.mem_singleton.mp y]
          have hu2 : (u : Int) < 1000000000000000000000000000000 := by omega
          simp at hz
          rcases hz with rfl | rfl | rfl | rfl | rfl <;> exact ⟨by omega, by omega⟩
      · rintro acc _ ⟨l3, b3, vals, rfl, hv, hsm, hl3, rfl⟩
        simp at hv
        have hln : ks.length < 16777216 := by simp at hk; omega
        simp [gApp_ok, hln]
        refine hP _ ⟨.inl rfl, l3, b3, .dat (.int i), ks ++ [vals], by rw [List.map_append]; rfl, by simp at hk ⊢; omega, fun k hk => ?_, hl3⟩
        rcases List.mem_append.mp hk with z | z
        · exact hks k z
        · rw [List.mem_singleton.mp z]; exact ⟨hv, hsm⟩
    · rintro _ ⟨l2, b2, x5, ks, rfl, hk, hks, hl2⟩
      simp at hk
      have hok := okRows_len (ks := ks) (n := wide) (by omega) fun k hk => (hks k hk).1
      have hs := gSortSet_dI hok
      have hg := gTuple_lst ((setRows ks).map dI)
      refine Ok.cps fun P hP => ?_
      simp [hs, hg]
      exact hP _ ⟨_, l2, b2, _, rfl, setRows ks, rfl, setRows_asc ks, fun k hk => hks k (mem_setRows.mp hk), by have := setRows_len ks; omega, hl2⟩
  exact ⟨rows, l', b', hd ▸ e, h⟩
theorem lk_hit {k : Key} {v : D} {r : List (Key × D)} : lkM ((k, v) :: r) k = some v := by
  unfold lkM
  rw [List.find?_cons_of_pos (by simp)]; rfl
theorem lk_skip {k k' : Key} {v : D} {r : List (Key × D)} (h : ¬ k = k') : lkM ((k, v) :: r) k' = lkM r k' := by
  unfold lkM
  rw [List.find?_cons_of_neg (by simpa using h)]
def comF (win rest : List Nat) : List Nat := win.filter fun x => decide (x ∈ rest)
theorem flat_len {α β : Type} {f : α → List β} {n : Nat} : ∀ {l : List α}, (∀ a ∈ l, (f a).length ≤ n) → (l.flatMap f).length ≤ l.length * n
  | [], _ => Nat.zero_le _
  | a :: l, h => by
    rw [List.flatMap_cons, List.length_append, List.length_cons, Nat.add_mul, Nat.one_mul]
    have h1 := h a List.mem_cons_self
    have h2 := flat_len fun b hb => h b (List.mem_cons_of_mem _ hb)
    omega
theorem colV_map {cols : List Nat} (g : Nat → Int) {x : Nat} (hn : cols.Nodup) (hx : x ∈ cols) : colV cols (cols.map g) x = g x := by
  unfold colV
  have hi := List.idxOf_lt_length_of_mem hx
  rw [List.getD_eq_getElem?_getD, List.getElem?_map, List.getElem?_eq_getElem hi]
  show g cols[cols.idxOf x] = g x
  rw [List.getElem_idxOf hi]
theorem row_self {win : List Nat} {row : List Int} (hn : win.Nodup) (hl : row.length = win.length) : win.map (fun x => colV win row x) = row := by
  refine List.ext_getElem (by rw [List.length_map, hl]) fun i h1 h2 => ?_
  rw [List.length_map] at h1
  rw [List.getElem_map]
  unfold colV
  rw [hn.idxOf_getElem i h1, List.getD_eq_getElem?_getD, List.getElem?_eq_getElem h2]; rfl
theorem m_cols11 (c : CA) (a q : Addr) (l : List Int) (b : Int) (cs : List Nat) (hc : cs.length ≤ 64) (hl : l.length ≤ 63) :
    ∃ (s : List Nat) (l' : List Int) (b' : Int), m__law_columns c a q ⟨l, b⟩ [dS cs] = .ok (dS s, ⟨l', b'⟩) ∧ s.Sublist cs ∧ l'.length ≤ 63 := by
  obtain ⟨d', l', b', e, s, hd, h⟩ : ∃ d' l' b', runK (b__law_columns c) 1 a q ⟨l, b⟩ [dS cs] = .ok (d', ⟨l', b'⟩) ∧ ∃ s : List Nat, d' = dS s ∧ s.Sublist cs ∧ l'.length ≤ 63 := by
    apply runK_ok
    unfold b__law_columns
    refine Ok.cps fun P hP => ?_
    simp [Ok_bind, -compL_res']
    refine compL_sub dC (fun E => ∃ l b, E = [.deck a q l b, .dat (dS cs), .no] ∧ l.length ≤ 63) (fun _ => True) cs ⟨_, _, rfl, hl⟩ ?_ ?_
    · rintro y hy _ ⟨l6, b6, rfl, hl6⟩
      refine ⟨_, rfl, ?_⟩
      refine Ok.cps fun P hP => ?_
      obtain ⟨w, l7, b7, e7, hw, hl7⟩ := draw_ok a q l6 b6 2 (by omega) (by omega) hl6
      simp [m__law_draw, e7]
      exact hP _ ⟨⟨_, _, rfl, hl7⟩, fun _ => ⟨by simp, trivial⟩⟩
    · rintro ls _ hsub _ ⟨l6, b6, rfl, hl6⟩
      have hll := hsub.length_le
      have hj := gJoin_signs ls (by omega)
      simp [hj]
      exact hP _ ⟨_, l6, b6, _, rfl, ls, rfl, hsub, hl6⟩
  exact ⟨s, l', b', hd ▸ e, h⟩
theorem m_row_at_ok (c : CA) {cols some : List Nat} {row : List Int} (hn : cols.Nodup) (hl : row.length = cols.length) (hs : ∀ x ∈ some, x ∈ cols) : m_row_at c [dS cols, dI row, dS some] = .ok (dI (rowAt cols row some)) := by
  unfold m_row_at
  apply runP_ok
  unfold b_row_at
  have ec : compL [3] (gN 3) tYes' (eOp gIx (eV 1) (eM1 gSIdx (eV 0) (eV 3))) [.dat (dS cols), .dat (dI row), .dat (dS some), .no] (some.map dC) [] [.dat (dS cols), .dat (dI row), .dat (dS some), .no] = .ok (.lst ((rowAt cols row some).map .int), [.dat (dS cols), .dat (dI row), .dat (dS some), .no]) := by
    rw [compL_all dC (fun x => [.dat (dS cols), .dat (dI row), .dat (dS some), .dat (dC x)]) (fun x => D.int (colV cols row x)) some ?h]
    · unfold rowAt
      rw [List.map_map]; rfl
    · intro x hx
      refine ⟨rfl, ?_, rfl⟩
      have h1 := sidx_dC hn (hs x hx)
      have h2 := gIx_dI_at hl (hs x hx)
      have hx2 : dS cols = .str (T cols) := rfl
      rw [hx2] at h1 ⊢
      simp [h1, h2]
  have ht : gTuple [.lst ((rowAt cols row some).map .int)] = Option.some (dI (rowAt cols row some)) := rfl
  simp [ec, -compL_res', ht]
/-- what rows show at some of their columns -/
def shownF (cols : List Nat) (rows : List (List Int)) (some : List Nat) : List (List Int) := setRows (rows.map fun k => rowAt cols k some)
theorem okRows_at (cols : List Nat) {rows : List (List Int)} (some : List Nat) (hl : rows.length < 64) : okRows (rows.map fun k => rowAt cols k some) = true := by
  refine okRows_len (n := some.length) (by rw [List.length_map]; exact hl) fun k hk => ?_
  obtain ⟨r, _, rfl⟩ := List.mem_map.mp hk
  unfold rowAt
  rw [List.length_map]

theorem okRowsM_at {cols : List Nat} {rows : List (List Int)} {some : List Nat} (hr : (shownF cols rows some).length < 63) : okRowsM (rows.map fun k => rowAt cols k some) = true := by
  have h1 : (onceL (rows.map fun k => rowAt cols k some)).length < 63 := by
    unfold shownF setRows at hr
    rwa [sortB_len] at hr
  unfold okRowsM
  rw [Bool.and_eq_true, decide_eq_true_eq, Bool.or_eq_true, List.all_eq_true, List.all_eq_true]
  refine ⟨h1, ?_⟩
  cases some with
  | nil =>
    refine .inr fun k hk => ?_
    obtain ⟨r, _, rfl⟩ := List.mem_map.mp hk
    rfl
  | cons x s =>
    refine .inl fun k hk => ?_
    obtain ⟨r, _, rfl⟩ := List.mem_map.mp hk
    rfl
theorem gSortSetM_dI {ks : List (List Int)} (h : okRowsM ks = true) : gSortSetM [.lst (ks.map dI)] = some (.lst ((setRows ks).map dI)) := by
  show ((rowsD (ks.map dI)).bind fun ks => if okRowsM ks = true then some (D.lst ((setRows ks).map dI)) else none) = _
  rw [rowsD_map]
  exact if_pos h
theorem m_shown11 (c : CA) {cols some : List Nat} {rows : List (List Int)} (hn : cols.Nodup) (hl : ∀ k ∈ rows, k.length = cols.length) (hs : ∀ x ∈ some, x ∈ cols) (hr : (shownF cols rows some).length < 63) : m_shown c [dS cols, .tup (rows.map dI), dS some] = .ok (.tup ((shownF cols rows some).map dI)) := by
  unfold m_shown
  apply runP_ok
  unfold b_shown
  have hc := compL_all (vs := [3]) (g := gN 3) (fe := eF 3 (m_row_at c) (aC (eV 0) (aC (eV 3) (aC (eV 2) aN)))) (E0 := [.dat (dS cols), .dat (.tup (rows.map dI)), .dat (dS some), .no]) (E := [.dat (dS cols), .dat (.tup (rows.map dI)), .dat (dS some), .no])
    dI (fun k => [.dat (dS cols), .dat (.tup (rows.map dI)), .dat (dS some), .dat (dI k)]) (fun k => dI (rowAt cols k some)) rows (fun k hk => ⟨rfl, by simp [m_row_at_ok c hn (hl k hk) hs], rfl⟩)
  have hg : gSortSetM [.lst (rows.map fun k => dI (rowAt cols k some))] = Option.some (.lst ((shownF cols rows some).map dI)) := by
    have h := gSortSetM_dI (okRowsM_at hr)
    rw [List.map_map] at h
    exact h
  have ht : gTuple [.lst ((shownF cols rows some).map dI)] = Option.some (.tup ((shownF cols rows some).map dI)) := rfl
  simp [hc, -compL_res', hg, ht]
theorem m_lshown11 (c : CA) {cols some : List Nat} {rows : List (List Int)} (hn : cols.Nodup) (hl : ∀ k ∈ rows, k.length = cols.length) (hs : ∀ x ∈ some, x ∈ cols) (hr : rows.length < 64) : m__law_shown c [dS cols, .tup (rows.map dI), dS some] = .ok (.tup ((shownF cols rows some).map dI)) := by
  unfold m__law_shown
  apply runP_ok
  unfold b__law_shown
  have h1 := compL_all (vs := [4]) (g := gN 4) (fe := eM1 gSIdx (eV 0) (eV 4)) (E0 := [.dat (dS cols), .dat (.tup (rows.map dI)), .dat (dS some), .no, .no, .no, .no]) (E := [.dat (dS cols), .dat (.tup (rows.map dI)), .dat (dS some), .no, .no, .no, .no])
    dC (fun x => [.dat (dS cols), .dat (.tup (rows.map dI)), .dat (dS some), .no, .dat (dC x), .no, .no]) (fun x => .int (cols.idxOf x : Nat)) some (fun x hx => ⟨rfl, by
      have h1 := sidx_dC hn (hs x hx)
      simp [h1], rfl⟩)
  refine seq_eq (E' := [.dat (dS cols), .dat (.tup (rows.map dI)), .dat (dS some), .dat (.lst (some.map fun x => .int (cols.idxOf x : Nat))), .no, .no, .no]) (by simp [h1, -compL_res']) ?_
  have h2 : ∀ k ∈ rows, compL [5] (gN 5) tYes' (eOp gIx (eV 6) (eV 5)) [.dat (dS cols), .dat (.tup (rows.map dI)), .dat (dS some), .dat (.lst (some.map fun x => .int (cols.idxOf x : Nat))), .no, .no, .dat (dI k)] (some.map fun x => .int (cols.idxOf x : Nat)) [] [.dat (dS cols), .dat (.tup (rows.map dI)), .dat (dS some), .dat (.lst (some.map fun x => .int (cols.idxOf x : Nat))), .no, .no, .dat (dI k)] = .ok (.lst ((rowAt cols k some).map .int), [.dat (dS cols), .dat (.tup (rows.map dI)), .dat (dS some), .dat (.lst (some.map fun x => .int (cols.idxOf x : Nat))), .no, .no, .dat (dI k)]) := by
    intro k hk
    rw [compL_all (fun x => D.int (cols.idxOf x : Nat)) (fun x => [.dat (dS cols), .dat (.tup (rows.map dI)), .dat (dS some), .dat (.lst (some.map fun x => .int (cols.idxOf x : Nat))), .no, .dat (.int (cols.idxOf x : Nat)), .dat (dI k)]) (fun x => D.int (colV cols k x)) some ?h]
    · unfold rowAt
      rw [List.map_map]; rfl
    · intro x hx
      exact ⟨rfl, by simp [gIx_dI_at (hl k hk) (hs x hx)], rfl⟩
  have h3 := compL_all (vs := [6]) (g := gN 6) (fe := eCall gTuple (aC (eN (nComp [5] (iSq (eV 3)) (gN 5) tYes' (eOp gIx (eV 6) (eV 5)))) aN)) (E0 := [.dat (dS cols), .dat (.tup (rows.map dI)), .dat (dS some), .dat (.lst (some.map fun x => .int (cols.idxOf x : Nat))), .no, .no, .no]) (E := [.dat (dS cols), .dat (.tup (rows.map dI)), .dat (dS some), .dat (.lst (some.map fun x => .int (cols.idxOf x : Nat))), .no, .no, .no])
    dI (fun k => [.dat (dS cols), .dat (.tup (rows.map dI)), .dat (dS some), .dat (.lst (some.map fun x => .int (cols.idxOf x : Nat))), .no, .no, .dat (dI k)]) (fun k => dI (rowAt cols k some)) rows (fun k hk => ⟨rfl, by
      have ht : gTuple [.lst ((rowAt cols k some).map .int)] = Option.some (dI (rowAt cols k some)) := rfl
      simp [h2 k hk, -compL_res', ht], rfl⟩)
  have hg : gSortSet [.lst (rows.map fun k => dI (rowAt cols k some))] = Option.some (.lst ((shownF cols rows some).map dI)) := by
    have h := gSortSet_dI (okRows_at cols (rows := rows) some hr)
    rw [List.map_map] at h
    exact h
  have ht : gTuple [.lst ((shownF cols rows some).map dI)] = Option.some (.tup ((shownF cols rows some).map dI)) := rfl
  simp [h3, -compL_res', hg, ht]
theorem lkM_cons {k k' : Key} {v : D} {l : List (Key × D)} : lkM ((k, v) :: l) k' = if k = k' then some v else lkM l k' := by
  by_cases h : k = k'
  · subst h; rw [if_pos rfl, lk_hit]
  · rw [if_neg h, lk_skip h]
theorem lkM_app {k k' : Key} {v : D} : ∀ {l : List (Key × D)}, lkM (l ++ [(k, v)]) k' = (match lkM l k' with | some d => some d | none => if k = k' then some v else none)
  | [] => by rw [List.nil_append, lkM_cons]; rfl
  | (j, d) :: l => by
    rw [List.cons_append, lkM_cons, lkM_cons]
    by_cases h : j = k'
    · rw [if_pos h, if_pos h]
    · rw [if_neg h, if_neg h]; exact lkM_app (l := l)
theorem lkM_over {k k' : Key} {v : D} : ∀ {l : List (Key × D)}, lkM (l.map fun kv => if kv.1 = k then (kv.1, v) else kv) k' = if k = k' then (lkM l k').map fun _ => v else lkM l k'
  | [] => by
    by_cases h : k = k'
    · rw [if_pos h]; rfl
    · rw [if_neg h]; rfl
  | (j, d) :: l => by
    have ih := lkM_over (k := k) (k' := k') (v := v) (l := l)
    rw [List.map_cons]
    by_cases hj : j = k
    · subst hj
      rw [if_pos rfl, lkM_cons, lkM_cons]
      by_cases h : j = k'
      · rw [if_pos h, if_pos h, if_pos h]; rfl
      · rw [if_neg h, if_neg h, if_neg h, ih, if_neg h]
    · rw [if_neg hj, lkM_cons, lkM_cons, ih]
      by_cases h : j = k'
      · rw [if_pos h, if_pos h]
        have : ¬ k = k' := fun z => hj (h.trans z.symm)
        rw [if_neg this]
      · rw [if_neg h, if_neg h]
theorem lkM_put {k k' : Key} {v : D} {l : List (Key × D)} : lkM (putM l k v) k' = if k = k' then some v else lkM l k' := by
  unfold putM
  split
  · rename_i h
    rw [lkM_over]
    by_cases e : k = k'
    · subst e
      rw [if_pos rfl, if_pos rfl]
      obtain ⟨p, hp, q⟩ := List.any_eq_true.mp h
      have q : p.1 = k := of_decide_eq_true q
      have : (lkM l k).isSome = true := by
        unfold lkM
        rw [Option.isSome_map, List.find?_isSome]
        exact ⟨p, hp, decide_eq_true q⟩
      obtain ⟨d, hd⟩ := Option.isSome_iff_exists.mp this
      rw [hd]; rfl
    · rw [if_neg e, if_neg e]
  · rename_i h
    rw [lkM_app]
    by_cases e : k = k'
    · subst e
      have : lkM l k = none := by
        unfold lkM
        rw [Option.map_eq_none_iff, List.find?_eq_none]
        intro p hp q
        exact h (List.any_eq_true.mpr ⟨p, hp, q⟩)
      rw [this]
    · rw [if_neg e]
      cases lkM l k' <;> simp [e]
theorem gSort1_dI {l : List (List Int)} (h : l.length ≤ 1) : gSort1 [.lst (l.map dI)] = some (.lst ((sortB (lexL ltI) l).map dI)) := by
  show (if okSort1 (l.map dI) = true then some (D.lst ((l.map dI).mergeSort leD)) else none) = _
  rw [if_pos]
  · unfold sortB
    rw [List.map_mergeSort (s := leD) fun a _ b _ => (leD_enc oI a b).symm]
  · unfold okSort1
    simp only [Bool.and_eq_true, List.all_eq_true, List.mem_map, decide_eq_true_eq, List.length_map]
    refine ⟨h, ⟨⟨?_, ?_⟩, ?_⟩, ?_⟩
    · rintro d ⟨k, _, rfl⟩; exact eI.plain k
    · rintro d ⟨k, _, rfl⟩ d' ⟨k', _, rfl⟩; exact oI.alike k k'
    · rintro d ⟨k, _, rfl⟩; rfl
    · rintro d ⟨k, _, rfl⟩
      have := eI.dep k
      omega
theorem sort_or {l : List (List Int)} (h : (∀ k ∈ l, k ≠ []) ∨ l.length ≤ 1) : gOr gSorted gSort1 [.lst (l.map dI)] = some (.lst ((sortB (lexL ltI) l).map dI)) := by
  rcases h with h | h
  · have := oI.gSorted eI l (.inr fun k hk => by
      cases k with
      | nil => exact absurd rfl (h _ hk)
      | cons _ _ => rfl)
    unfold gOr
    rw [this]
  · have h1 := gSort1_dI h
    unfold gOr
    by_cases ok : okSort (l.map dI) = true
    · have e : gSorted [.lst (l.map dI)] = some (.lst ((l.map dI).mergeSort leD)) := if_pos ok
      rw [e]
      unfold sortB
      rw [List.map_mergeSort (s := leD) fun a _ b _ => (leD_enc oI a b).symm]
    · have e : gSorted [.lst (l.map dI)] = none := if_neg ok
      rw [e]
      exact h1
def kT (x : Nat) : Key := .inr (sgn x)
theorem kT_inj {a b : Nat} (h : kT a = kT b) : a = b := sgn_inj (Sum.inr.inj h)
theorem keysS_dC : ∀ cs : List Nat, keysS (cs.map dC) = some (cs.map kT)
  | [] => rfl
  | c :: cs => by
    show (keysS (cs.map dC)).map (Sum.inr (sgn c) :: ·) = _
    rw [keysS_dC cs]; rfl
def zipR (cs : List Nat) (row : List Int) : List (Key × D) := List.zip (cs.map kT) (row.map .int)
theorem gDictZ_row (cs : List Nat) (row : List Int) : gDictZ (dS cs) (dI row) = some (.dic (mergeM [] (zipR cs row))) := by
  show ((some (cs.map dC)).bind fun x => (keysS x).bind fun ks => (sqT (dI row)).map fun y => D.dic (mergeM [] (List.zip ks y))) = _
  rw [Option.bind_some, keysS_dC]; rfl
theorem mergeM_cons (base : List (Key × D)) (k : Key) (v : D) (l : List (Key × D)) : mergeM base ((k, v) :: l) = mergeM (putM base k v) l := rfl
theorem putM_fresh {l : List (Key × D)} {k : Key} {v : D} (h : k ∉ l.map (·.1)) : putM l k v = l ++ [(k, v)] := by
  unfold putM
  rw [if_neg]
  intro z
  obtain ⟨p, hp, q⟩ := List.any_eq_true.mp z
  exact h (List.mem_map.mpr ⟨p, hp, of_decide_eq_true q⟩)
theorem mergeM_new : ∀ {l base : List (Key × D)}, (l.map (·.1)).Nodup → (∀ k ∈ l.map (·.1), k ∉ base.map (·.1)) → mergeM base l = base ++ l
  | [], base, _, _ => (List.append_nil base).symm
  | (k, v) :: l, base, nd, h => by
    rw [List.map_cons, List.nodup_cons] at nd
    rw [mergeM_cons, putM_fresh (h k (by simp)), mergeM_new nd.2 ?_, List.append_assoc]; rfl
    intro k' hk' z
    rw [List.map_append, List.mem_append] at z
    rcases z with z | z
    · exact h k' (by simp only [List.map_cons]; exact List.mem_cons_of_mem _ hk') z
    · have : k' = k := by simpa using z
      exact nd.1 (this ▸ hk')
theorem zipR_keys : ∀ {cs : List Nat} {row : List Int}, row.length = cs.length → (zipR cs row).map (·.1) = cs.map kT
  | [], [], _ => rfl
  | c :: cs, v :: row, h => by
    have ih := zipR_keys (cs := cs) (row := row) (Nat.succ.inj h)
    show kT c :: (zipR cs row).map (·.1) = _
    rw [ih]; rfl
theorem kT_nodup {cs : List Nat} (h : cs.Nodup) : (cs.map kT).Nodup := List.Pairwise.map kT (fun a b hne e => hne (kT_inj e)) h
theorem zipR_self {cs : List Nat} {row : List Int} (nd : cs.Nodup) (hl : row.length = cs.length) : mergeM [] (zipR cs row) = zipR cs row := by
  rw [mergeM_new]
  · rfl
  · rw [zipR_keys hl]; exact kT_nodup nd
  · exact fun k _ => List.not_mem_nil
theorem lkM_row {x : Nat} : ∀ {cs : List Nat} {row : List Int} {base : List (Key × D)}, cs.Nodup → row.length = cs.length → lkM (mergeM base (zipR cs row)) (kT x) = if x ∈ cs then some (.int (colV cs row x)) else lkM base (kT x)
  | [], [], base, _, _ => by rw [if_neg List.not_mem_nil]; rfl
  | c :: cs, v :: row, base, nd, h => by
    obtain ⟨n1, n2⟩ := List.nodup_cons.mp nd
    have ih := lkM_row (x := x) (base := putM base (kT c) (.int v)) n2 (Nat.succ.inj h)
    show lkM (mergeM (putM base (kT c) (.int v)) (zipR cs row)) (kT x) = _
    rw [ih]
    by_cases hx : x ∈ cs
    · have hne : c ≠ x := fun e => n1 (e ▸ hx)
      rw [if_pos hx, if_pos (List.mem_cons_of_mem _ hx)]
      congr 2
      unfold colV
      rw [List.idxOf_cons]
      have : (c == x) = false := by simpa using hne
      rw [this]
      simp [List.getD]
    · rw [if_neg hx, lkM_put]
      by_cases e : c = x
      · subst e
        rw [if_pos rfl, if_pos List.mem_cons_self]
        unfold colV
        rw [List.idxOf_cons]
        simp [List.getD]
      · rw [if_neg fun z => e (kT_inj z), if_neg]
        intro z
        rcases List.mem_cons.mp z with z | z
        · exact e z.symm
        · exact hx z
def joinR (cols win rst : List Nat) (a b : List Int) : List Int := cols.map fun x => if x ∈ win then colV win a x else colV rst b x
def joinL (cols win : List Nat) (A : List (List Int)) (rst : List Nat) (B : List (List Int)) : List (List Int) := A.flatMap fun a => (B.filter fun b => decide (rowAt win a (comF win rst) = rowAt rst b (comF win rst))).map (joinR cols win rst a)
def joinF (cols win : List Nat) (A : List (List Int)) (rst : List Nat) (B : List (List Int)) : List (List Int) := sortB (lexL ltI) (joinL cols win A rst B)
theorem joinL_len {cols win rst : List Nat} {A B : List (List Int)} {n : Nat} (h : B.length ≤ n) : (joinL cols win A rst B).length ≤ A.length * n :=
  flat_len fun a _ => by rw [List.length_map]; exact Nat.le_trans (List.length_filter_le _ _) h
theorem m_joined11 (c : CA) {cols win rst : List Nat} {A B : List (List Int)} (wn : win.Nodup) (rn : rst.Nodup) (hA : ∀ a ∈ A, a.length = win.length) (hB : ∀ b ∈ B, b.length = rst.length)
    (hc : signsF (win ++ rst) = cols) (hl : (win ++ rst).length < 64) (hne : cols ≠ [] ∨ (joinL cols win A rst B).length ≤ 1) (lA : A.length ≤ 60) (lB : B.length ≤ 60) :
    m_joined c [dS win, .tup (A.map dI), dS rst, .tup (B.map dI)] = .ok (.tup ((joinF cols win A rst B).map dI)) := by
  have hm : ∀ {x : Nat}, x ∈ cols → x ∈ win ∨ x ∈ rst := fun hx => by rw [← hc, mem_signsF] at hx; exact List.mem_append.mp hx
  have hcl : cols.length ≤ 63 := by
    have h1 : cols.length ≤ (win ++ rst).length := by
      rw [← hc]
      unfold signsF
      rw [sortB_len]
      exact once_len _
    omega
  have hgs : gSortTx [dS (win ++ rst)] = some (.lst (cols.map dC)) := by
    show (if (win ++ rst).length < 64 then some (D.lst ((signsF (win ++ rst)).map dC)) else none) = _
    rw [if_pos hl, hc]
  have hj := gJoin_signs cols (by omega)
  have hj2 := gJoin_signs (comF win rst) (Nat.le_trans (List.length_filter_le _ _) (by rw [List.length_append] at hl; omega))
  have hadd : gAdd (dS win) (dS rst) = some (dS (win ++ rst)) := by
    have h := gAdd_str (T win) (T rst) (by rw [T_len, T_len]; rw [List.length_append] at hl; omega)
    rw [T_app] at h
    exact h
  unfold m_joined
  apply runP_ok
  unfold b_joined
  refine seq_eq (E' := [.dat (dS win), .dat (.tup (A.map dI)), .dat (dS rst), .dat (.tup (B.map dI)), .dat (dS cols), .no, .no, .no, .no, .no, .no]) (by simp [hadd, hgs, hj]) ?_
  have hcm := compL_turn (vs := [6]) (g := gN 6) (fc := tB (eOp (gInQ false) (eV 6) (eV 2))) (fe := eV 6) (E := [.dat (dS win), .dat (.tup (A.map dI)), .dat (dS rst), .dat (.tup (B.map dI)), .dat (dS cols), .no, .no, .no, .no, .no, .no])
    dC (fun x => decide (x ∈ rst)) dC win (fun x _ => by simp [gIn_one]) []
  rw [List.nil_append] at hcm
  have hcm' : (win.filter fun x => decide (x ∈ rst)) = comF win rst := rfl
  rw [hcm'] at hcm
  refine seq_eq (E' := [.dat (dS win), .dat (.tup (A.map dI)), .dat (dS rst), .dat (.tup (B.map dI)), .dat (dS cols), .dat (dS (comF win rst)), .no, .no, .no, .no, .no]) (by simp [hcm, hj2, -compL_res']) ?_
  refine seq_eq (E' := [.dat (dS win), .dat (.tup (A.map dI)), .dat (dS rst), .dat (.tup (B.map dI)), .dat (dS cols), .dat (dS (comF win rst)), .no, .own (.lst []), .no, .no, .no]) (by simp) ?_
  have hsub : ∀ x ∈ comF win rst, x ∈ win ∧ x ∈ rst := fun x hx => by
    have h := List.mem_filter.mp hx
    exact ⟨h.1, of_decide_eq_true h.2⟩
  refine seq_for dI (fun r E => ∃ x8 x9 x10 d, E = [.dat (dS win), .dat (.tup (A.map dI)), .dat (dS rst), .dat (.tup (B.map dI)), .dat (dS cols), .dat (dS (comF win rst)), .no, .own (.lst ((joinL cols win d rst B).map dI)), x8, x9, x10] ∧ A = d ++ r) A (E' := [.dat (dS win), .dat (.tup (A.map dI)), .dat (dS rst), .dat (.tup (B.map dI)), .dat (dS cols), .dat (dS (comF win rst)), .no, .own (.lst []), .no, .no, .no]) (by simp) ⟨_, _, _, [], rfl, rfl⟩ ?_ ?_
  · rintro a r _ ⟨x8, x9, x10, d, rfl, hd⟩
    refine ⟨_, rfl, ?_⟩
    have ha : a.length = win.length := hA a (by rw [hd]; simp)
    have r1 := m_row_at_ok c wn ha fun x hx => (hsub x hx).1
    have ld : (joinL cols win d rst B).length ≤ 60 * 60 := Nat.le_trans (joinL_len lB) (Nat.mul_le_mul_right _ (by have := congrArg List.length hd; rw [List.length_append] at this; omega))
    refine for_ok dI (fun rr E => ∃ x9 x10 dn, E = [.dat (dS win), .dat (.tup (A.map dI)), .dat (dS rst), .dat (.tup (B.map dI)), .dat (dS cols), .dat (dS (comF win rst)), .no, .own (.lst ((joinL cols win d rst B ++ (dn.filter fun b => decide (rowAt win a (comF win rst) = rowAt rst b (comF win rst))).map (joinR cols win rst a)).map dI)), .dat (dI a), x9, x10] ∧ B = dn ++ rr) B (E' := [.dat (dS win), .dat (.tup (A.map dI)), .dat (dS rst), .dat (.tup (B.map dI)), .dat (dS cols), .dat (dS (comF win rst)), .no, .own (.lst ((joinL cols win d rst B).map dI)), .dat (dI a), x9, x10]) (by simp) ⟨x9, x10, [], by simp, rfl⟩ ?_ ?_
    · rintro b rr _ ⟨x9, x10, dn, rfl, hdn⟩
      refine ⟨_, rfl, ?_⟩
      have hb : b.length = rst.length := hB b (by rw [hdn]; simp)
      have r2 := m_row_at_ok c rn hb fun x hx => (hsub x hx).2
      have ldn : dn.length ≤ 60 := by have := congrArg List.length hdn; rw [List.length_append] at this; omega
      by_cases he : rowAt win a (comF win rst) = rowAt rst b (comF win rst)
      · have hfil : ((dn ++ [b]).filter fun b => decide (rowAt win a (comF win rst) = rowAt rst b (comF win rst))) = (dn.filter fun b => decide (rowAt win a (comF win rst) = rowAt rst b (comF win rst))) ++ [b] := by
          rw [List.filter_append, List.filter_cons, if_pos (decide_eq_true he)]; rfl
        have hz1 := zipR_self rn hb
        have hz2 := zipR_self wn ha
        have l1 : (zipR rst b).length + (zipR win a).length ≤ 16777216 := by
          unfold zipR
          rw [List.length_zip, List.length_zip, List.length_map, List.length_map, List.length_map, List.length_map]
          rw [List.length_append] at hl
          omega
        have hst : mergeM [] (zipR rst b) = zipR rst b := hz1
        have hw : ∀ x ∈ cols, gGet (.dic (mergeM (zipR rst b) (zipR win a))) (dC x) = some (.int (if x ∈ win then colV win a x else colV rst b x)) := fun x hx => by
          show lkM (mergeM (zipR rst b) (zipR win a)) (kT x) = _
          rw [lkM_row wn ha]
          by_cases hxw : x ∈ win
          · rw [if_pos hxw, if_pos hxw]
          · rw [if_neg hxw, if_neg hxw]
            have h := lkM_row (x := x) (base := []) rn hb
            rw [hz1, if_pos ((hm hx).resolve_left hxw)] at h
            exact h
        generalize hU : (joinL cols win d rst B ++ (dn.filter fun b => decide (rowAt win a (comF win rst) = rowAt rst b (comF win rst))).map (joinR cols win rst a)) = U
        have lU : U.length < 16777216 := by
          rw [← hU, List.length_append, List.length_map]
          have := List.length_filter_le (fun b => decide (rowAt win a (comF win rst) = rowAt rst b (comF win rst))) dn
          omega
        generalize hM : D.dic (mergeM (zipR rst b) (zipR win a)) = M at hw
        have hwo : sSet 10 (eN (nStar (eN (nDZ (aC (eV 2) (aC (eV 9) aN)))) (eN (nDZ (aC (eV 0) (aC (eV 8) aN)))))) [.dat (dS win), .dat (.tup (A.map dI)), .dat (dS rst), .dat (.tup (B.map dI)), .dat (dS cols), .dat (dS (comF win rst)), .no, .own (.lst (U.map dI)), .dat (dI a), .dat (dI b), x10]
            = .ok (.nx, [.dat (dS win), .dat (.tup (A.map dI)), .dat (dS rst), .dat (.tup (B.map dI)), .dat (dS cols), .dat (dS (comF win rst)), .no, .own (.lst (U.map dI)), .dat (dI a), .dat (dI b), .dat M]) := by
          have g1 := gDictZ_row rst b
          have g2 := gDictZ_row win a
          rw [hz1] at g1
          rw [hz2] at g2
          simp [nStar, nDZ, g1, g2, dicO, l1, hst, hM]
        have hc2 := compL_all (vs := [6]) (g := gN 6) (fe := eOp gGet (eV 10) (eV 6)) (E0 := [.dat (dS win), .dat (.tup (A.map dI)), .dat (dS rst), .dat (.tup (B.map dI)), .dat (dS cols), .dat (dS (comF win rst)), .no, .own (.lst (U.map dI)), .dat (dI a), .dat (dI b), .dat M])
          (E := [.dat (dS win), .dat (.tup (A.map dI)), .dat (dS rst), .dat (.tup (B.map dI)), .dat (dS cols), .dat (dS (comF win rst)), .no, .own (.lst (U.map dI)), .dat (dI a), .dat (dI b), .dat M])
          dC (fun x => [.dat (dS win), .dat (.tup (A.map dI)), .dat (dS rst), .dat (.tup (B.map dI)), .dat (dS cols), .dat (dS (comF win rst)), .dat (dC x), .own (.lst (U.map dI)), .dat (dI a), .dat (dI b), .dat M]) (fun x => .int (if x ∈ win then colV win a x else colV rst b x)) cols (fun x hx => ⟨rfl, by simp [hw x hx], rfl⟩)
        have ht : gTuple [.lst (cols.map fun x => .int (if x ∈ win then colV win a x else colV rst b x))] = some (dI (joinR cols win rst a b)) := by
          rw [gTuple_lst]
          unfold joinR dI
          rw [List.map_map]; rfl
        refine Ok.cps fun P hP => ?_
        simp [r1, r2, he, hwo, hc2, ht, gApp_ok, lU, -compL_res', -ap_sSet]
        refine hP _ ⟨.inl rfl, .dat (dI b), .dat M, dn ++ [b], ?_, by rw [hdn]; simp⟩
        rw [hfil, ← hU]
        simp
      · have hfil : ((dn ++ [b]).filter fun b => decide (rowAt win a (comF win rst) = rowAt rst b (comF win rst))) = (dn.filter fun b => decide (rowAt win a (comF win rst) = rowAt rst b (comF win rst))) := by
          rw [List.filter_append, List.filter_cons, if_neg (by simpa using he)]; simp
        generalize hU : (joinL cols win d rst B ++ (dn.filter fun b => decide (rowAt win a (comF win rst) = rowAt rst b (comF win rst))).map (joinR cols win rst a)) = U
        refine Ok.cps fun P hP => ?_
        simp [r1, r2, he]
        refine hP _ ⟨.inl rfl, .dat (dI b), x10, dn ++ [b], ?_, by rw [hdn]; simp⟩
        rw [hfil, hU]
    · rintro _ ⟨x9, x10, dn, rfl, hdn⟩
      rw [List.append_nil] at hdn
      subst hdn
      refine ⟨.inl rfl, .dat (dI a), x9, x10, d ++ [a], ?_, by rw [hd]; simp⟩
      unfold joinL
      rw [List.flatMap_append, List.flatMap_singleton]
  · rintro _ ⟨x8, x9, x10, d, rfl, hd⟩
    rw [List.append_nil] at hd
    subst hd
    have hs : gOr gSorted gSort1 [.lst ((joinL cols win A rst B).map dI)] = some (.lst ((joinF cols win A rst B).map dI)) := sort_or (hne.imp (fun h k hk => by
      obtain ⟨a, _, hk⟩ := List.mem_flatMap.mp hk
      obtain ⟨b, _, rfl⟩ := List.mem_map.mp hk
      unfold joinR
      cases h' : cols with
      | nil => exact absurd h' h
      | cons _ _ => exact fun z => nomatch z) id)
    have hg := gTuple_lst ((joinF cols win A rst B).map dI)
    simp [hs, hg]
structure Both (cols win rst : List Nat) : Prop where
  wn : win.Nodup
  rn : rst.Nodup
  hc : signsF (win ++ rst) = cols
theorem ordN_nodup {l : List Nat} (h : l.Pairwise fun a b => ltN a b = true) : l.Nodup := ordN.nodup h
section
variable {cols win rst : List Nat} {A B : List (List Int)}
theorem Both.cn (h : Both cols win rst) : cols.Nodup := by rw [← h.hc]; exact ordN_nodup (signsF_asc _)
theorem Both.mem (h : Both cols win rst) {x : Nat} : x ∈ cols ↔ x ∈ win ∨ x ∈ rst := by rw [← h.hc, mem_signsF, List.mem_append]
theorem Both.swap (h : Both cols win rst) : Both cols rst win := ⟨h.rn, h.wn, by
  rw [← h.hc]
  exact ordN.ext (signsF_asc _) (signsF_asc _) fun x => by rw [mem_signsF, mem_signsF, List.mem_append, List.mem_append, Or.comm]⟩
theorem agree_iff {a b : List Int} : rowAt win a (comF win rst) = rowAt rst b (comF win rst) ↔ ∀ x ∈ win, x ∈ rst → colV win a x = colV rst b x := by
  unfold rowAt
  rw [List.map_inj_left]
  unfold comF
  exact ⟨fun h x hx hr => h x (List.mem_filter.mpr ⟨hx, decide_eq_true hr⟩), fun h x hx => by
    obtain ⟨h1, h2⟩ := List.mem_filter.mp hx
    exact h x h1 (of_decide_eq_true h2)⟩
theorem Both.at_win (h : Both cols win rst) {a b : List Int} (ha : a.length = win.length) : rowAt cols (joinR cols win rst a b) win = a := by
  have e : ∀ x ∈ win, colV cols (joinR cols win rst a b) x = colV win a x := fun x hx => by
    unfold joinR
    rw [colV_map _ h.cn (h.mem.mpr (.inl hx)), if_pos hx]
  unfold rowAt
  exact (List.map_congr_left e).trans (row_self h.wn ha)
theorem Both.at_rst (h : Both cols win rst) {a b : List Int} (hb : b.length = rst.length) (ag : ∀ x ∈ win, x ∈ rst → colV win a x = colV rst b x) : rowAt cols (joinR cols win rst a b) rst = b := by
  have e : ∀ x ∈ rst, colV cols (joinR cols win rst a b) x = colV rst b x := fun x hx => by
    unfold joinR
    rw [colV_map _ h.cn (h.mem.mpr (.inr hx))]
    by_cases hw : x ∈ win
    · rw [if_pos hw]; exact ag x hw hx
    · rw [if_neg hw]
  unfold rowAt
  exact (List.map_congr_left e).trans (row_self h.rn hb)
theorem mem_joinL {v : List Int} : v ∈ joinL cols win A rst B ↔ ∃ a ∈ A, ∃ b ∈ B, rowAt win a (comF win rst) = rowAt rst b (comF win rst) ∧ joinR cols win rst a b = v := by
  unfold joinL
  rw [List.mem_flatMap]
  constructor
  · rintro ⟨a, ha, h⟩
    obtain ⟨b, hb, rfl⟩ := List.mem_map.mp h
    obtain ⟨hb, q⟩ := List.mem_filter.mp hb
    exact ⟨a, ha, b, hb, of_decide_eq_true q, rfl⟩
  · rintro ⟨a, ha, b, hb, q, rfl⟩
    exact ⟨a, ha, List.mem_map.mpr ⟨b, List.mem_filter.mpr ⟨hb, decide_eq_true q⟩, rfl⟩⟩
theorem colV_rowAt {v : List Int} {x : Nat} (hn : win.Nodup) (hx : x ∈ win) : colV win (rowAt cols v win) x = colV cols v x := by
  unfold rowAt
  exact colV_map _ hn hx
theorem Both.mem_join (h : Both cols win rst) (hA : ∀ a ∈ A, a.length = win.length) (hB : ∀ b ∈ B, b.length = rst.length) {v : List Int} :
    v ∈ joinL cols win A rst B ↔ v.length = cols.length ∧ rowAt cols v win ∈ A ∧ rowAt cols v rst ∈ B := by
  rw [mem_joinL]
  constructor
  · rintro ⟨a, ha, b, hb, q, rfl⟩
    rw [h.at_win (hA a ha), h.at_rst (hB b hb) (agree_iff.mp q)]
    exact ⟨by unfold joinR; rw [List.length_map], ha, hb⟩
  · rintro ⟨hl, ha, hb⟩
    refine ⟨_, ha, _, hb, agree_iff.mpr fun x hx hr => ?_, ?_⟩
    · rw [colV_rowAt h.wn hx, colV_rowAt h.rn hr]
    · refine Eq.trans ?_ (row_self h.cn hl)
      unfold joinR
      refine List.map_congr_left fun x hx => ?_
      by_cases hw : x ∈ win
      · rw [if_pos hw, colV_rowAt h.wn hw]
      · rw [if_neg hw, colV_rowAt h.rn ((h.mem.mp hx).resolve_left hw)]
theorem Both.nodup (h : Both cols win rst) (hA : ∀ a ∈ A, a.length = win.length) (hB : ∀ b ∈ B, b.length = rst.length) (An : A.Nodup) (Bn : B.Nodup) : (joinL cols win A rst B).Nodup := by
  unfold joinL List.Nodup
  rw [List.pairwise_flatMap]
  refine ⟨fun a ha => ?_, ?_⟩
  · have fn : (B.filter fun b => decide (rowAt win a (comF win rst) = rowAt rst b (comF win rst))).Nodup := List.Pairwise.filter _ Bn
    rw [List.pairwise_map]
    refine List.Pairwise.imp_of_mem (fun {b b'} hb hb' ne e => ?_) fn
    obtain ⟨hb, q⟩ := List.mem_filter.mp hb
    obtain ⟨hb', q'⟩ := List.mem_filter.mp hb'
    have e1 := h.at_rst (a := a) (hB b hb) (agree_iff.mp (of_decide_eq_true q))
    have e2 := h.at_rst (a := a) (hB b' hb') (agree_iff.mp (of_decide_eq_true q'))
    rw [e, e2] at e1
    exact ne e1.symm
  · refine List.Pairwise.imp_of_mem (fun {a a'} ha ha' ne x hx y hy e => ?_) An
    obtain ⟨b, _, rfl⟩ := List.mem_map.mp hx
    obtain ⟨b', _, rfl⟩ := List.mem_map.mp hy
    have e1 := h.at_win (b := b) (hA a ha)
    have e2 := h.at_win (b := b') (hA a' ha')
    rw [e, e2] at e1
    exact ne e1.symm
theorem Both.asc (h : Both cols win rst) (hA : ∀ a ∈ A, a.length = win.length) (hB : ∀ b ∈ B, b.length = rst.length) (An : A.Nodup) (Bn : B.Nodup) : (joinF cols win A rst B).Pairwise fun a b => lexL ltI a b = true := ordRow.asc (h.nodup hA hB An Bn)
theorem Both.ext (h : Both cols win rst) (hA : ∀ a ∈ A, a.length = win.length) (hB : ∀ b ∈ B, b.length = rst.length) (An : A.Nodup) (Bn : B.Nodup) {S : List (List Int)} (hS : S.Pairwise fun a b => lexL ltI a b = true)
    (m : ∀ v, v ∈ S ↔ v.length = cols.length ∧ rowAt cols v win ∈ A ∧ rowAt cols v rst ∈ B) : joinF cols win A rst B = S :=
  ordRow.ext (h.asc hA hB An Bn) hS fun v => by
    unfold joinF
    rw [mem_sortB, h.mem_join hA hB, m]
/-- the same, the other way round -/
theorem Both.comm (h : Both cols win rst) (hA : ∀ a ∈ A, a.length = win.length) (hB : ∀ b ∈ B, b.length = rst.length) (An : A.Nodup) (Bn : B.Nodup) : joinF cols rst B win A = joinF cols win A rst B :=
  h.swap.ext hB hA Bn An (h.asc hA hB An Bn) fun v => by
    unfold joinF
    rw [mem_sortB, h.mem_join hA hB, and_comm (a := rowAt cols v rst ∈ B)]
theorem Both.small (h : Both cols win rst) (hA : ∀ a ∈ A, a.length = win.length) (hB : ∀ b ∈ B, b.length = rst.length) (An : A.Nodup) (Bn : B.Nodup) : cols ≠ [] ∨ (joinL cols win A rst B).length ≤ 1 := by
  by_cases e : cols = []
  · refine .inr ?_
    have := nodup_sub_len (b := [([] : List Int)]) (h.nodup hA hB An Bn) fun v hv => by
      have := ((h.mem_join hA hB).mp hv).1
      rw [e] at this
      rw [List.eq_nil_of_length_eq_zero this]
      exact List.mem_singleton.mpr rfl
    exact this
  · exact .inl e
theorem Both.near (h : Both cols win rst) (hA : ∀ a ∈ A, a.length = win.length) (hB : ∀ b ∈ B, b.length = rst.length) : ∀ k ∈ shownF cols (joinF cols win A rst B) win, k ∈ A := fun k hk => by
  unfold shownF at hk
  rw [mem_setRows] at hk
  obtain ⟨v, hv, rfl⟩ := List.mem_map.mp hk
  unfold joinF at hv
  rw [mem_sortB, h.mem_join hA hB] at hv
  exact hv.2.1
theorem shown_k {some : List Nat} {rows : List (List Int)} : ∀ k ∈ shownF cols rows some, k.length = some.length := fun k hk => by
  unfold shownF at hk
  rw [mem_setRows] at hk
  obtain ⟨v, hv, rfl⟩ := List.mem_map.mp hk
  unfold rowAt
  rw [List.length_map]
theorem shown_nodup {some : List Nat} {rows : List (List Int)} : (shownF cols rows some).Nodup := ordRow.nodup (setRows_asc _)
theorem both_self {few : List Nat} (wa : win.Pairwise fun a b => ltN a b = true) (hs : few.Sublist win) : Both win win few := ⟨ordN_nodup wa, (ordN_nodup wa).sublist hs, ordN.ext (signsF_asc _) wa fun x => by
  rw [mem_signsF, List.mem_append]
  exact ⟨fun z => z.elim id fun z => hs.subset z, .inl⟩⟩
/-- rows joined with what they show -/
theorem join_self {few : List Nat} (wa : win.Pairwise fun a b => ltN a b = true) (hs : few.Sublist win) (hA : ∀ a ∈ A, a.length = win.length) (Aa : A.Pairwise fun a b => lexL ltI a b = true) : joinF win win A few (shownF win A few) = A :=
  (both_self wa hs).ext hA shown_k (ordRow.nodup Aa) shown_nodup Aa fun v => by
    have self : v.length = win.length → rowAt win v win = v := fun hl => row_self (ordN_nodup wa) hl
    constructor
    · intro hv
      have hl := hA v hv
      rw [self hl]
      exact ⟨hl, hv, by unfold shownF; rw [mem_setRows]; exact List.mem_map.mpr ⟨v, hv, rfl⟩⟩
    · rintro ⟨hl, hv, _⟩
      rwa [self hl] at hv
end
theorem zip_wI : ∀ (win : List Nat) (k : List Int), (List.zip (win.map dC) (k.map D.int)).map (fun p => D.tup [p.1, p.2]) = (win.zip k).map fun p => D.tup [dC p.1, .int p.2]
  | [], _ => rfl
  | _ :: _, [] => rfl
  | x :: win, y :: k => by
    have ih := zip_wI win k
    simp only [List.map_cons, List.zip_cons_cons, List.cons.injEq, true_and]
    exact ih
theorem zip_at : ∀ {win : List Nat} {a : List Int} {p : Nat × Int}, win.Nodup → p ∈ win.zip a → p.2 = colV win a p.1
  | [], _, _, _, h => by simp at h
  | _ :: _, [], _, _, h => by simp at h
  | x :: win, y :: a, p, nd, h => by
    obtain ⟨n1, n2⟩ := List.nodup_cons.mp nd
    rw [List.zip_cons_cons] at h
    rcases List.mem_cons.mp h with rfl | h
    · unfold colV
      rw [List.idxOf_cons]
      simp [List.getD]
    · have hm := (List.of_mem_zip (a := p.1) (b := p.2) h).1
      have hne : x ≠ p.1 := fun e => n1 (e ▸ hm)
      rw [zip_at n2 h]
      unfold colV
      rw [List.idxOf_cons]
      have : (x == p.1) = false := by simpa using hne
      rw [this]
      simp [List.getD]
theorem zip_all {win : List Nat} {a : List Int} {x : Nat} (nd : win.Nodup) (hl : a.length = win.length) (hx : x ∈ win) : (x, colV win a x) ∈ win.zip a := by
  have hi := List.idxOf_lt_length_of_mem hx
  have hz : win.idxOf x < (win.zip a).length := by rw [List.length_zip, hl]; omega
  have e : (win.zip a)[win.idxOf x] = (x, colV win a x) := by
    rw [List.getElem_zip, List.getElem_idxOf hi]
    unfold colV
    rw [List.getD_eq_getElem?_getD, List.getElem?_eq_getElem (by omega)]; rfl
  rw [← e]
  exact List.getElem_mem hz
theorem clash_iff {win rst : List Nat} {a b : List Int} (wn : win.Nodup) (hl : a.length = win.length) : ((win.zip a).filter fun p => decide (p.1 ∈ rst) && !decide (colV rst b p.1 = p.2)) = [] ↔ rowAt win a (comF win rst) = rowAt rst b (comF win rst) := by
  rw [agree_iff, List.filter_eq_nil_iff]
  constructor
  · intro h x hx hr
    have := h _ (zip_all wn hl hx)
    simp only [hr, decide_true, Bool.true_and, Bool.not_eq_true', decide_eq_false_iff_not, Classical.not_not] at this
    exact this.symm
  · rintro h ⟨x, n⟩ hp
    have e : n = colV win a x := zip_at wn hp
    have hx := (List.of_mem_zip hp).1
    by_cases hr : x ∈ rst
    · simp [hr, e, h x hx hr]
    · simp [hr]
theorem keyNK_dI (k : List Int) : (keyNK (dI k)).isSome = true := by
  have hnk : ∀ k : List Int, nkDs (k.map .int) = some (k.map .num) := fun k => by
    induction k with
    | nil => rfl
    | cons a k ih => rw [List.map_cons, nkDs, ih]; rfl
  have dep : ∀ k : List Int, NestedKey.depthAll (k.map .num) ≤ 1 := fun k => by
    induction k with
    | nil => simp [NestedKey.depthAll]
    | cons a k ih =>
      simp only [List.map_cons, NestedKey.depthAll, NestedKey.depth]
      omega
  have e1 : nkD (dI k) = some (.tup (k.map .num)) := by
    show nkD (.tup (k.map .int)) = _
    rw [nkD, hnk]; rfl
  unfold keyNK
  rw [e1]
  dsimp only
  have := dep k
  rw [if_pos (by simp only [NestedKey.depth]; omega)]; rfl
theorem keyNK_dI_inj {a b : List Int} (h : keyNK (dI a) = keyNK (dI b)) : a = b := by
  obtain ⟨n, hn⟩ := Option.isSome_iff_exists.mp (keyNK_dI a)
  have h2 := hn
  rw [h] at h2
  have e1 := (keyNK_ok hn).1
  have e2 := (keyNK_ok h2).1
  have hnk : ∀ k : List Int, nkDs (k.map .int) = some (k.map .num) := fun k => by
    induction k with
    | nil => rfl
    | cons a k ih => rw [List.map_cons, nkDs, ih]; rfl
  have key : ∀ k : List Int, nkD (dI k) = some (.tup (k.map .num)) := fun k => by
    show nkD (.tup (k.map .int)) = _
    rw [nkD, hnk]; rfl
  rw [key] at e1 e2
  have e := NestedKey.tup.inj (Option.some.inj (e1.trans e2.symm))
  exact (List.map_inj_right fun _ _ e => NestedKey.num.inj e).mp e
theorem firsts_nodup {l : List (List Int)} (nd : l.Nodup) : firstsD (l.map dI) = (l.reverse).map dI := by
  have key : ∀ (l acc : List (List Int)), (acc ++ l).Nodup → (l.map dI).foldl dstep (acc.map dI) = (l.reverse ++ acc).map dI := by
    intro l
    induction l with
    | nil => intro acc _; rfl
    | cons k r ih =>
      intro acc nd
      have hk : k ∉ acc := fun z => (List.nodup_append.mp nd).2.2 k z k List.mem_cons_self rfl
      have e : dstep (acc.map dI) (dI k) = (k :: acc).map dI := by
        unfold dstep
        rw [if_neg]; rfl
        intro z
        rw [List.mem_map] at z
        obtain ⟨d, hd, e⟩ := z
        obtain ⟨a, ha, rfl⟩ := List.mem_map.mp hd
        exact hk (keyNK_dI_inj e ▸ ha)
      rw [List.map_cons, List.foldl_cons, e, ih (k :: acc)]
      · simp
      · have := (List.perm_middle (a := k) (l₁ := acc) (l₂ := r)).nodup_iff.mp nd
        simpa using this
  have := key l [] (by simpa using nd)
  rw [List.append_nil] at this
  exact this
theorem mergeSort_dI (l : List (List Int)) : (l.map dI).mergeSort leD = (sortB (lexL ltI) l).map dI := by
  unfold sortB
  rw [List.map_mergeSort (s := leD) fun a _ b _ => (leD_enc oI a b).symm]
theorem gSortN_rows {l : List (List Int)} (nd : l.Nodup) (hl : l.length ≤ 76) (hne : ∀ k ∈ l, k ≠ []) : gSortN [.lst (l.map dI)] = some (.lst ((sortB (lexL ltI) l).map dI)) := by
  have hf := firsts_nodup nd
  have hs : sortB (lexL ltI) l.reverse = sortB (lexL ltI) l := ordRow.sort_eq (List.reverse_perm l)
  have ok : SortNOk (l.map dI) := by
    refine ⟨?_, ?_, ?_⟩
    · unfold keyedB
      rw [Bool.and_eq_true, decide_eq_true_eq, List.length_map, List.all_eq_true]
      refine ⟨hl, fun d hd => ?_⟩
      obtain ⟨k, _, rfl⟩ := List.mem_map.mp hd
      exact keyNK_dI k
    · rw [hf]
      exact okSort_enc oI eI _ (by decide) (.inr fun k hk => by
        cases k with
        | nil => exact absurd rfl (hne _ (List.mem_reverse.mp hk))
        | cons _ _ => rfl)
    · intro ds' p
      rw [hf] at p ⊢
      obtain ⟨l', p', rfl⟩ := perm_map_inv p _ rfl
      rw [mergeSort_dI, mergeSort_dI, ordRow.sort_eq p']
  show (if SortNOk (l.map dI) then some (D.lst ((firstsD (l.map dI)).mergeSort leD)) else none) = _
  rw [if_pos ok, hf, mergeSort_dI, hs]
theorem gSet_or {l : List (List Int)} {n : Nat} (nd : l.Nodup) (hl : l.length ≤ 76) (hk : ∀ k ∈ l, k.length = n) (hn : n ≠ 0 ∨ l.length ≤ 1) : gOr gSortSet gSortN [.lst (l.map dI)] = some (.lst ((sortB (lexL ltI) l).map dI)) := by
  have hset : setRows l = sortB (lexL ltI) l := ordRow.ext (setRows_asc l) (ordRow.asc nd) fun v => by rw [mem_setRows, mem_sortB]
  by_cases h : l.length < 64
  · have := gSortSet_dI (okRows_len (ks := l) (n := n) h hk)
    unfold gOr
    rw [this, hset]
  · have e : gSortSet [.lst (l.map dI)] = none := by
      show ((rowsD (l.map dI)).bind fun ks => if okRows ks = true then some (D.lst ((setRows ks).map dI)) else none) = _
      rw [rowsD_map]
      refine if_neg fun z => ?_
      unfold okRows at z
      rw [Bool.and_eq_true, decide_eq_true_eq] at z
      exact h z.1
    unfold gOr
    rw [e]
    refine gSortN_rows nd hl fun k hk' z => ?_
    have := hk k hk'
    rw [z] at this
    rcases hn with hn | hn
    · exact hn this.symm
    · omega
theorem m_ljoined11 (c : CA) {cols win rst : List Nat} {A B : List (List Int)} (h : Both cols win rst) (hA : ∀ a ∈ A, a.length = win.length) (hB : ∀ b ∈ B, b.length = rst.length) (An : A.Nodup) (Bn : B.Nodup)
    (hl : (win ++ rst).length < 64) (lA : A.length ≤ 12) (lB : B.length ≤ 6) :
    m__law_joined c [dS win, .tup (A.map dI), dS rst, .tup (B.map dI)] = .ok (.tup ((joinF cols win A rst B).map dI)) := by
  have wn := h.wn
  have rn := h.rn
  have hgs : gSortTx [dS (win ++ rst)] = some (.lst (cols.map dC)) := by
    show (if (win ++ rst).length < 64 then some (D.lst ((signsF (win ++ rst)).map dC)) else none) = _
    rw [if_pos hl, h.hc]
  have hadd : gAdd (dS win) (dS rst) = some (dS (win ++ rst)) := by
    have h := gAdd_str (T win) (T rst) (by rw [T_len, T_len]; rw [List.length_append] at hl; omega)
    rw [T_app] at h
    exact h
  have hsmall := h.small hA hB An Bn
  have hnd := h.nodup hA hB An Bn
  have hlen : (joinL cols win A rst B).length ≤ 76 := by
    have := joinL_len (cols := cols) (win := win) (rst := rst) (A := A) lB
    omega
  unfold m__law_joined
  apply runP_ok
  unfold b__law_joined
  refine seq_eq (E' := [.dat (dS win), .dat (.tup (A.map dI)), .dat (dS rst), .dat (.tup (B.map dI)), .dat (.lst (cols.map dC)), .own (.lst []), .no, .no, .no, .no, .no]) (by simp [hadd, hgs]) ?_
  refine seq_for dI (fun r E => ∃ x6 x7 x8 d, E = [.dat (dS win), .dat (.tup (A.map dI)), .dat (dS rst), .dat (.tup (B.map dI)), .dat (.lst (cols.map dC)), .own (.lst ((joinL cols win d rst B).map dI)), x6, x7, x8, .no, .no] ∧ A = d ++ r) A (E' := [.dat (dS win), .dat (.tup (A.map dI)), .dat (dS rst), .dat (.tup (B.map dI)), .dat (.lst (cols.map dC)), .own (.lst []), .no, .no, .no, .no, .no]) (by simp) ⟨_, _, _, [], rfl, rfl⟩ ?_ ?_
  · rintro a r _ ⟨x6, x7, x8, d, rfl, hd⟩
    refine ⟨_, rfl, ?_⟩
    have ha : a.length = win.length := hA a (by rw [hd]; simp)
    have ld : (joinL cols win d rst B).length ≤ 12 * 6 := Nat.le_trans (joinL_len lB) (Nat.mul_le_mul_right _ (by have := congrArg List.length hd; rw [List.length_append] at this; omega))
    refine for_ok dI (fun rr E => ∃ x7 x8 dn, E = [.dat (dS win), .dat (.tup (A.map dI)), .dat (dS rst), .dat (.tup (B.map dI)), .dat (.lst (cols.map dC)), .own (.lst ((joinL cols win d rst B ++ (dn.filter fun b => decide (rowAt win a (comF win rst) = rowAt rst b (comF win rst))).map (joinR cols win rst a)).map dI)), .dat (dI a), x7, x8, .no, .no] ∧ B = dn ++ rr) B (E' := [.dat (dS win), .dat (.tup (A.map dI)), .dat (dS rst), .dat (.tup (B.map dI)), .dat (.lst (cols.map dC)), .own (.lst ((joinL cols win d rst B).map dI)), .dat (dI a), x7, x8, .no, .no]) (by simp) ⟨x7, x8, [], by simp, rfl⟩ ?_ ?_
    · rintro b rr _ ⟨x7, x8, dn, rfl, hdn⟩
      refine ⟨_, rfl, ?_⟩
      have hb : b.length = rst.length := hB b (by rw [hdn]; simp)
      have ldn : dn.length ≤ 6 := by have := congrArg List.length hdn; rw [List.length_append] at this; omega
      have hz1 := zipR_self rn hb
      have hz2 := zipR_self wn ha
      have l1 : (zipR rst b).length + (zipR win a).length ≤ 16777216 := by
        unfold zipR
        rw [List.length_zip, List.length_zip, List.length_map, List.length_map, List.length_map, List.length_map]
        rw [List.length_append] at hl
        omega
      have g1 := gDictZ_row rst b
      have g2 := gDictZ_row win a
      rw [hz1] at g1
      rw [hz2] at g2
      generalize hU : (joinL cols win d rst B ++ (dn.filter fun b => decide (rowAt win a (comF win rst) = rowAt rst b (comF win rst))).map (joinR cols win rst a)) = U
      have lU : U.length < 16777216 := by
        rw [← hU, List.length_append, List.length_map]
        have := List.length_filter_le (fun b => decide (rowAt win a (comF win rst) = rowAt rst b (comF win rst))) dn
        omega
      have hlk : ∀ x, lkM (zipR rst b) (kT x) = if x ∈ rst then some (.int (colV rst b x)) else none := fun x => by
        have h := lkM_row (x := x) (base := []) rn hb
        rw [hz1] at h
        exact h
      have hhas : ∀ x, gHas false (dC x) (.dic (zipR rst b)) = some (.bl (decide (x ∈ rst))) := fun x => by
        show some (D.bl (if false then !(lkM (zipR rst b) (kT x)).isSome else (lkM (zipR rst b) (kT x)).isSome)) = _
        rw [hlk]
        by_cases hx : x ∈ rst
        · rw [if_pos hx, decide_eq_true hx]; rfl
        · rw [if_neg hx, decide_eq_false hx]; rfl
      have hget : ∀ x ∈ rst, gGet (.dic (zipR rst b)) (dC x) = some (.int (colV rst b x)) := fun x hx => by
        show lkM (zipR rst b) (kT x) = _
        rw [hlk, if_pos hx]
      have hw : ∀ x ∈ cols, gGet (.dic (mergeM (zipR rst b) (zipR win a))) (dC x) = some (.int (if x ∈ win then colV win a x else colV rst b x)) := fun x hx => by
        show lkM (mergeM (zipR rst b) (zipR win a)) (kT x) = _
        rw [lkM_row wn ha]
        by_cases hxw : x ∈ win
        · rw [if_pos hxw, if_pos hxw]
        · rw [if_neg hxw, if_neg hxw, hlk, if_pos ((h.mem.mp hx).resolve_left hxw)]
      refine seq_eq (E' := [.dat (dS win), .dat (.tup (A.map dI)), .dat (dS rst), .dat (.tup (B.map dI)), .dat (.lst (cols.map dC)), .own (.lst (U.map dI)), .dat (dI a), .dat (dI b), .own (.dic (zipR rst b)), .no, .no]) (by simp [nDZ, g1]) ?_
      have hcl := compL_turn (vs := [9, 10]) (g := gT (gCons' (gN 9) (gCons' (gN 10) gNil'))) (fc := tAnd' (tB (eOp (gHas false) (eV 9) (eV 8))) (tB (eOp gNe (eOp gGet (eV 8) (eV 9)) (eV 10)))) (fe := eV 9)
        (E := [.dat (dS win), .dat (.tup (A.map dI)), .dat (dS rst), .dat (.tup (B.map dI)), .dat (.lst (cols.map dC)), .own (.lst (U.map dI)), .dat (dI a), .dat (dI b), .own (.dic (zipR rst b)), .no, .no])
        (fun p : Nat × Int => D.tup [dC p.1, .int p.2]) (fun p => decide (p.1 ∈ rst) && !decide (colV rst b p.1 = p.2)) (fun p => dC p.1) (win.zip a) (fun p _ => by
          have hne := Enc.int.gNe (colV rst b p.1) p.2
          by_cases hr : p.1 ∈ rst
          · have e1 := hhas p.1
            have e2 := hget p.1 hr
            rw [decide_eq_true hr] at e1
            simp [e1, e2, hne, hr]
          · have e1 := hhas p.1
            rw [decide_eq_false hr] at e1
            simp [e1, hr]) []
      rw [List.nil_append] at hcl
      have hcm : (((win.zip a).filter fun p => decide (p.1 ∈ rst) && !decide (colV rst b p.1 = p.2)).map fun p => dC p.1) = (((win.zip a).filter fun p => decide (p.1 ∈ rst) && !decide (colV rst b p.1 = p.2)).map (·.1)).map dC := by rw [List.map_map]; rfl
      have hge : gEq (.lst (((win.zip a).filter fun p => decide (p.1 ∈ rst) && !decide (colV rst b p.1 = p.2)).map fun p => dC p.1)) (.lst []) = some (.bl (decide (rowAt win a (comF win rst) = rowAt rst b (comF win rst)))) := by
        rw [hcm, gEq_nilC, List.isEmpty_map]
        congr 2
        rw [Bool.eq_iff_iff, List.isEmpty_iff, decide_eq_true_eq]
        exact clash_iff wn ha
      have hzip : (List.zip (win.map dC) (a.map D.int)).map (fun p => D.tup [p.1, p.2]) = (win.zip a).map fun p => D.tup [dC p.1, .int p.2] := zip_wI win a
      have hsq : sqD (dI a) = some (a.map .int) := rfl
      by_cases he : rowAt win a (comF win rst) = rowAt rst b (comF win rst)
      · have hfil : ((dn ++ [b]).filter fun b => decide (rowAt win a (comF win rst) = rowAt rst b (comF win rst))) = (dn.filter fun b => decide (rowAt win a (comF win rst) = rowAt rst b (comF win rst))) ++ [b] := by
          rw [List.filter_append, List.filter_cons, if_pos (decide_eq_true he)]; rfl
        rw [decide_eq_true he] at hge
        have hc2 := compL_all (vs := [9]) (g := gN 9) (fe := eOp gGet (eV 8) (eV 9)) (E0 := [.dat (dS win), .dat (.tup (A.map dI)), .dat (dS rst), .dat (.tup (B.map dI)), .dat (.lst (cols.map dC)), .own (.lst (U.map dI)), .dat (dI a), .dat (dI b), .own (.dic (mergeM (zipR rst b) (zipR win a))), .no, .no])
          (E := [.dat (dS win), .dat (.tup (A.map dI)), .dat (dS rst), .dat (.tup (B.map dI)), .dat (.lst (cols.map dC)), .own (.lst (U.map dI)), .dat (dI a), .dat (dI b), .own (.dic (mergeM (zipR rst b) (zipR win a))), .no, .no])
          dC (fun x => [.dat (dS win), .dat (.tup (A.map dI)), .dat (dS rst), .dat (.tup (B.map dI)), .dat (.lst (cols.map dC)), .own (.lst (U.map dI)), .dat (dI a), .dat (dI b), .own (.dic (mergeM (zipR rst b) (zipR win a))), .dat (dC x), .no]) (fun x => .int (if x ∈ win then colV win a x else colV rst b x)) cols (fun x hx => ⟨rfl, by simp [hw x hx], rfl⟩)
        have ht : gTuple [.lst (cols.map fun x => .int (if x ∈ win then colV win a x else colV rst b x))] = some (dI (joinR cols win rst a b)) := by
          rw [gTuple_lst]
          unfold joinR dI
          rw [List.map_map]; rfl
        refine Ok.cps fun P hP => ?_
        simp [hsq, hzip, hcl, hge, nDZ, g2, ownK, updK, l1, hc2, ht, gApp_ok, lU, -compL_res', -List.map_map]
        refine hP _ ⟨.inl rfl, .dat (dI b), .own (.dic (mergeM (zipR rst b) (zipR win a))), dn ++ [b], ?_, by rw [hdn]; simp⟩
        rw [hfil, ← hU]
        simp
      · have hfil : ((dn ++ [b]).filter fun b => decide (rowAt win a (comF win rst) = rowAt rst b (comF win rst))) = (dn.filter fun b => decide (rowAt win a (comF win rst) = rowAt rst b (comF win rst))) := by
          rw [List.filter_append, List.filter_cons, if_neg (by simpa using he)]; simp
        rw [decide_eq_false he] at hge
        refine Ok.cps fun P hP => ?_
        simp [hsq, hzip, hcl, hge, -compL_res', -List.map_map]
        refine hP _ ⟨.inl rfl, .dat (dI b), .own (.dic (zipR rst b)), dn ++ [b], ?_, by rw [hdn]; simp⟩
        rw [hfil, hU]
    · rintro _ ⟨x7, x8, dn, rfl, hdn⟩
      rw [List.append_nil] at hdn
      subst hdn
      refine ⟨.inl rfl, .dat (dI a), x7, x8, d ++ [a], ?_, by rw [hd]; simp⟩
      unfold joinL
      rw [List.flatMap_append, List.flatMap_singleton]
  · rintro _ ⟨x6, x7, x8, d, rfl, hd⟩
    rw [List.append_nil] at hd
    subst hd
    have hs := gSet_or (n := cols.length) hnd hlen (fun k hk => ((h.mem_join hA hB).mp hk).1) (hsmall.imp (fun z e => z (List.eq_nil_of_length_eq_zero e)) id)
    have hs : gOr gSortSet gSortN [.lst ((joinL cols win A rst B).map dI)] = some (.lst ((joinF cols win A rst B).map dI)) := hs
    have hg := gTuple_lst ((joinF cols win A rst B).map dI)
    simp [hs, hg]
theorem t_e : D.str (Str.ofString "") = dS [] := lit (by decide +kernel)
/-- drawn rows -/
structure Lns (n many : Nat) (rows : List (List Int)) : Prop where
  asc : rows.Pairwise fun a b => lexL ltI a b = true
  k : ∀ k ∈ rows, k.length = n ∧ ∀ i ∈ k, SmI i
  few : rows.length ≤ many
section
variable {cols win rst few : List Nat} {A B rows : List (List Int)}
theorem colV_P {P : Int → Prop} (h0 : P 0) {a : List Int} {x : Nat} (h : ∀ i ∈ a, P i) : P (colV win a x) := by
  unfold colV
  rw [List.getD_eq_getElem?_getD]
  cases e : a[win.idxOf x]? with
  | none => exact h0
  | some i => exact h i (List.mem_of_getElem? e)
theorem I100_0 : I100 0 := I100.nat (i := 0) (by decide)
theorem shw_rws {n r : Nat} (h : ∀ k ∈ rows, k.length ≤ n ∧ ∀ i ∈ k, I100 i) (hr : rows.length ≤ r) : Shw (.tup (rows.map dI)) (r * (n + 1)) 2 := shw_rows (fun k hk => ⟨(h k hk).2, (h k hk).1⟩) hr
theorem Lns.I {n many : Nat} (h : Lns n many rows) : ∀ k ∈ rows, k.length = n ∧ ∀ i ∈ k, I100 i := fun k hk => ⟨(h.k k hk).1, fun i hi => ((h.k k hk).2 i hi).i100⟩
theorem joinF_I (hA : ∀ k ∈ A, ∀ i ∈ k, I100 i) (hB : ∀ k ∈ B, ∀ i ∈ k, I100 i) : ∀ v ∈ joinF cols win A rst B, v.length = cols.length ∧ ∀ i ∈ v, I100 i := fun v hv => by
  unfold joinF at hv
  rw [mem_sortB, mem_joinL] at hv
  obtain ⟨a, ha, b, hb, _, rfl⟩ := hv
  unfold joinR
  refine ⟨List.length_map _, fun i hi => ?_⟩
  obtain ⟨x, _, rfl⟩ := List.mem_map.mp hi
  split
  · exact colV_P I100_0 (hA a ha)
  · exact colV_P I100_0 (hB b hb)
theorem joinF_len {n : Nat} (h : B.length ≤ n) : (joinF cols win A rst B).length ≤ A.length * n := by
  unfold joinF
  rw [sortB_len]
  exact joinL_len h
theorem shownF_I (h : ∀ k ∈ rows, ∀ i ∈ k, I100 i) : ∀ v ∈ shownF cols rows few, v.length = few.length ∧ ∀ i ∈ v, I100 i := fun v hv => by
  refine ⟨shown_k v hv, ?_⟩
  unfold shownF at hv
  rw [mem_setRows] at hv
  obtain ⟨r, hr, rfl⟩ := List.mem_map.mp hv
  unfold rowAt
  intro i hi
  obtain ⟨x, _, rfl⟩ := List.mem_map.mp hi
  exact colV_P I100_0 (h r hr)
theorem shownF_len : (shownF cols rows few).length ≤ rows.length := by
  unfold shownF
  have := setRows_len (rows.map fun k => rowAt cols k few)
  rwa [List.length_map] at this
theorem m_right11 (c : CA) (p q : Addr) (l : List Int) (b : Int) (ca : cols.Pairwise fun a b => ltN a b = true) (hc : cols.length ≤ 8) (hr : Lns cols.length 12 rows) (hl : l.length ≤ 63) :
    ∃ (l' : List Int) (b' : Int), m__law_right c p q ⟨l, b⟩ [dS cols, .tup (rows.map dI)] = .ok (.bl true, ⟨l', b'⟩) ∧ l'.length ≤ 63 := by
  obtain ⟨d', l', b', e, hd, h⟩ : ∃ d' l' b', runK (b__law_right c) 3 p q ⟨l, b⟩ [dS cols, .tup (rows.map dI)] = .ok (d', ⟨l', b'⟩) ∧ d' = .bl true ∧ l'.length ≤ 63 := by
    apply runK_ok
    unfold b__law_right
    have cn := ordN_nodup ca
    have hlen : ∀ k ∈ rows, k.length = cols.length := fun k hk => (hr.k k hk).1
    obtain ⟨s1, l1, b1, e1, hs1, hl1⟩ := m_cols11 c p q l b cols (by omega) hl
    obtain ⟨s2, l2, b2, e2, hs2, hl2⟩ := m_cols11 c p q l1 b1 cols (by omega) hl1
    have hrepr := (shw_rws (rows := rows) (n := 8) (r := 12) (fun k hk => ⟨by rw [(hr.I k hk).1]; exact hc, (hr.I k hk).2⟩) hr.few).repr (by decide) (by decide)
    obtain ⟨R, hR⟩ : ∃ R, R = D.tup (rows.map dI) := ⟨_, rfl⟩
    rw [← hR] at hrepr ⊢
    have hsm : ∀ r, small [dS [], dS cols, dS s1, dS s2] r = r := fun r => small_ok (by simp)
    refine seq_all dS (fun E => ∃ x3 x4 x5, E = [.deck p q l2 b2, .dat (dS cols), .dat R, x3, x4, x5]) [[], cols, s1, s2] (E' := [.deck p q l2 b2, .dat (dS cols), .dat R, .no, .no, .no]) (by simp [t_e, e1, e2, hsm]) ⟨_, _, _, rfl⟩ ?_ ?_
    · rintro few hfew _ ⟨x3, x4, x5, rfl⟩
      refine ⟨_, rfl, ?_⟩
      have hsub : few.Sublist cols := by
        simp at hfew
        rcases hfew with rfl | rfl | rfl | rfl
        · exact List.nil_sublist _
        · exact List.Sublist.refl _
        · exact hs1
        · exact hs2
      have hfl := hsub.length_le
      have hB := both_self ca hsub
      have f1 := m_lshown11 c (some := few) cn hlen (fun x hx => hsub.subset hx) (by have := hr.few; omega)
      have fl := shownF_len (cols := cols) (rows := rows) (few := few)
      have f2 := m_shown11 c (some := few) cn hlen (fun x hx => hsub.subset hx) (by have := hr.few; omega)
      have f3 := m_joined11 c (cols := cols) (A := rows) (B := shownF cols rows few) hB.wn hB.rn hlen shown_k hB.hc (by rw [List.length_append]; omega) (hB.small hlen shown_k (ordRow.nodup hr.asc) shown_nodup) (by have := hr.few; omega) (by have := hr.few; omega)
      rw [join_self ca hsub hlen hr.asc] at f3
      have shd := shw_rws (rows := shownF cols rows few) (n := 8) (r := 12) (fun k hk => by
        have := shownF_I (fun k hk => (hr.I k hk).2) k hk
        exact ⟨by omega, this.2⟩) (by have := hr.few; omega)
      have r2 := (Shws.cons shd (Shws.cons shd Shws.nil)).lst.repr (by decide) (by decide)
      rw [← hR] at f1 f2 f3
      generalize D.tup ((shownF cols rows few).map dI) = S at f1 f2 f3 r2
      have hsm2 : ∀ r, small [S, S] r = r := fun r => small_ok (by simp)
      refine Ok.cps fun P hP => ?_
      simp [f1, f2, f3, hrepr, r2, hsm2, DL.pick, gNe_same]
      exact hP _ ⟨.inl rfl, _, _, _, rfl⟩
    · rintro _ ⟨x3, x4, x5, rfl⟩
      refine Ok.cps fun P hP => ?_
      simp
      exact hP _ ⟨_, _, _, _, rfl, rfl, hl2⟩
  exact ⟨l', b', hd ▸ e, h⟩
theorem m_both11 (c : CA) (ca : win.Pairwise fun a b => ltN a b = true) (ra : rst.Pairwise fun a b => ltN a b = true) (hc : win.length ≤ 8) (hc2 : rst.length ≤ 8) (hA : Lns win.length 12 A) (hB : Lns rst.length 6 B) :
    m__law_both_right c [dS win, .tup (A.map dI), dS rst, .tup (B.map dI)] = .ok (.bl true) := by
  unfold m__law_both_right
  apply runP_ok
  unfold b__law_both_right
  obtain ⟨cols, hcols⟩ : ∃ cols, cols = signsF (win ++ rst) := ⟨_, rfl⟩
  have h : Both cols win rst := ⟨ordN_nodup ca, ordN_nodup ra, hcols.symm⟩
  have lA : ∀ k ∈ A, k.length = win.length := fun k hk => (hA.k k hk).1
  have lB : ∀ k ∈ B, k.length = rst.length := fun k hk => (hB.k k hk).1
  have An := ordRow.nodup hA.asc
  have Bn := ordRow.nodup hB.asc
  have hw : (win ++ rst).length < 64 := by rw [List.length_append]; omega
  have f12 := hA.few
  have f6 := hB.few
  have e1 := m_ljoined11 c h lA lB An Bn hw f12 f6
  have e2 := m_joined11 c (cols := cols) (A := A) (B := B) h.wn h.rn lA lB h.hc hw (h.small lA lB An Bn) (by omega) (by omega)
  have e3 := m_joined11 c (cols := cols) (A := B) (B := A) h.rn h.wn lB lA h.swap.hc (by rw [List.length_append]; omega) (h.swap.small lB lA Bn An) (by omega) (by omega)
  rw [h.comm lA lB An Bn] at e3
  obtain ⟨J, hJ⟩ : ∃ J, J = joinF cols win A rst B := ⟨_, rfl⟩
  have near := h.near lA lB
  have JI := joinF_I (cols := cols) (win := win) (rst := rst) (fun k hk => (hA.I k hk).2) (fun k hk => (hB.I k hk).2)
  have Jl : J.length ≤ 72 := by
    rw [hJ]
    have := joinF_len (cols := cols) (win := win) (rst := rst) (A := A) f6
    omega
  rw [← hJ] at e1 e2 e3 near JI
  have ccl : cols.length ≤ 16 := by
    rw [hcols]
    unfold signsF
    rw [sortB_len]
    have := once_len (win ++ rst)
    rw [List.length_append] at this
    omega
  have snl : (shownF cols J win).length ≤ 12 := by
    have := nodup_sub_len (shown_nodup (cols := cols) (rows := J) (some := win)) near
    omega
  have e4 := m_shown11 c (some := win) (rows := J) h.cn (fun k hk => (JI k hk).1) (fun x hx => h.mem.mpr (.inl hx)) (by omega)
  have hgs : gSortTx [dS (win ++ rst)] = some (.lst (cols.map dC)) := by
    show (if (win ++ rst).length < 64 then some (D.lst ((signsF (win ++ rst)).map dC)) else none) = _
    rw [if_pos hw, h.hc]
  have hj := gJoin_signs cols (by omega)
  have hadd : gAdd (dS win) (dS rst) = some (dS (win ++ rst)) := by
    have h := gAdd_str (T win) (T rst) (by rw [T_len, T_len]; omega)
    rw [T_app] at h
    exact h
  have shA := shw_rws (rows := A) (n := 8) (r := 12) (fun k hk => ⟨by rw [(hA.I k hk).1]; exact hc, (hA.I k hk).2⟩) f12
  have shB := shw_rws (rows := B) (n := 8) (r := 6) (fun k hk => ⟨by rw [(hB.I k hk).1]; exact hc2, (hB.I k hk).2⟩) f6
  have shJ := shw_rws (rows := J) (n := 16) (r := 72) (fun k hk => ⟨by rw [(JI k hk).1]; exact ccl, (JI k hk).2⟩) Jl
  have r1 := (Shws.cons shA (Shws.cons shB Shws.nil)).lst.repr (by decide) (by decide)
  have r2 := (Shws.cons shJ (Shws.cons shJ Shws.nil)).lst.repr (by decide) (by decide)
  have r3 := shJ.repr (by decide) (by decide)
  have hin : ∀ k ∈ shownF cols J win, gInQ true (dI k) (.tup (A.map dI)) = some (.bl false) := fun k hk => by
    have h := eI.gIn_tup true k A
    simp only [near k hk, decide_true, if_true, Bool.not_true] at h
    exact h
  have hsl : sqD (D.tup ((shownF cols J win).map dI)) = some ((shownF cols J win).map dI) := rfl
  generalize hS : D.tup ((shownF cols J win).map dI) = S at e4 hsl
  generalize D.tup (A.map dI) = TA at e1 e2 e3 r1 hin ⊢
  generalize D.tup (B.map dI) = TB at e1 e2 e3 r1 ⊢
  generalize D.tup (J.map dI) = TJ at e1 e2 e3 e4 r2 r3
  have hsm : ∀ r, small [TA, TB] r = r := fun r => small_ok (by simp)
  have hsm2 : ∀ r, small [TJ, TJ] r = r := fun r => small_ok (by simp)
  have hix : gIx (.lst [TJ, TJ]) (.int 0) = some TJ := rfl
  refine seq_eq (E' := [.dat (dS win), .dat TA, .dat (dS rst), .dat TB, .dat TJ, .dat (.str (D.lst [TA, TB]).py.shown), .no, .no, .no, .no]) (by simp [e1, hsm, r1]) ?_
  refine seq_eq (E' := [.dat (dS win), .dat TA, .dat (dS rst), .dat TB, .dat TJ, .dat (.str (D.lst [TA, TB]).py.shown), .dat (.lst [TJ, TJ]), .no, .no, .no]) (by simp [e2, DL.pick, hsm2]) ?_
  refine seq_eq (E' := [.dat (dS win), .dat TA, .dat (dS rst), .dat TB, .dat TJ, .dat (.str (D.lst [TA, TB]).py.shown), .dat (.lst [TJ, TJ]), .no, .no, .no]) (by simp [e3, hsm2, r2, r3, gNe_same]) ?_
  refine seq_eq (E' := [.dat (dS win), .dat TA, .dat (dS rst), .dat TB, .dat TJ, .dat (.str (D.lst [TA, TB]).py.shown), .dat (.lst [TJ, TJ]), .dat (dS cols), .no, .no]) (by simp [hadd, hgs, hj]) ?_
  refine seq_eq (E' := [.dat (dS win), .dat TA, .dat (dS rst), .dat TB, .dat TJ, .dat (.str (D.lst [TA, TB]).py.shown), .dat (.lst [TJ, TJ]), .dat (dS cols), .dat S, .no]) (by simp [hix, e4]) ?_
  have hcm := compL_turn (vs := [9]) (g := gN 9) (fc := tB (eOp (gInQ true) (eV 9) (eV 1))) (fe := eV 9) (E := [.dat (dS win), .dat TA, .dat (dS rst), .dat TB, .dat TJ, .dat (.str (D.lst [TA, TB]).py.shown), .dat (.lst [TJ, TJ]), .dat (dS cols), .dat S, .no])
    dI (fun _ => false) dI (shownF cols J win) (fun k hk => by simp [hin k hk]) []
  have hf : ((shownF cols J win).filter fun _ => false) = [] := List.filter_eq_nil_iff.mpr fun _ _ => Bool.false_ne_true
  rw [hf] at hcm
  have hcm : compL [9] (gN 9) (tB (eOp (gInQ true) (eV 9) (eV 1))) (eV 9) [.dat (dS win), .dat TA, .dat (dS rst), .dat TB, .dat TJ, .dat (.str (D.lst [TA, TB]).py.shown), .dat (.lst [TJ, TJ]), .dat (dS cols), .dat S, .no] ((shownF cols J win).map dI) [] [.dat (dS win), .dat TA, .dat (dS rst), .dat TB, .dat TJ, .dat (.str (D.lst [TA, TB]).py.shown), .dat (.lst [TJ, TJ]), .dat (dS cols), .dat S, .no] = .ok (.lst [], [.dat (dS win), .dat TA, .dat (dS rst), .dat TB, .dat TJ, .dat (.str (D.lst [TA, TB]).py.shown), .dat (.lst [TJ, TJ]), .dat (dS cols), .dat S, .no]) := hcm
  have hge : gEq (.lst []) (.lst []) = some (.bl true) := gEq_nilC []
  have hse := gEq_str (D.lst [TA, TB]).py.shown (D.lst [TA, TB]).py.shown
  rw [decide_eq_true rfl] at hse
  simp [hsl, hcm, hge, hsm, r1, hse, -compL_res']
end
def L11 : List Nat := [97, 98, 99, 100, 101, 120, 121, 122]
theorem t_l11 : D.str (Str.ofString "abcdexyz") = dS L11 := lit (by decide +kernel)
theorem t_fg : D.str (Str.ofString "fg") = dS [102, 103] := lit (by decide +kernel)
theorem t_a11 : D.str (Str.ofString "a") = dS [97] := lit (by decide +kernel)
theorem t_b11 : D.str (Str.ofString "b") = dS [98] := lit (by decide +kernel)
theorem L11_asc : L11.Pairwise fun a b => ltN a b = true := by decide
theorem gSl_to (w : List Nat) (n : Nat) : gSl (dS w) none (some (n : Int)) = some (dS (w.take n)) := by
  have e0 : HT.sIx w.length 0 none = 0 := rfl
  show some (D.str (T ((w.drop (HT.sIx w.length 0 none)).take (HT.sIx w.length w.length (some (n : Int)) - HT.sIx w.length 0 none)))) = _
  rw [e0, List.drop_zero, Nat.sub_zero]
  have e1 : HT.sIx w.length w.length (some (n : Int)) = min n w.length := by
    unfold HT.sIx
    have : ¬ ((n : Int) < 0) := by omega
    simp [this]
  rw [e1]
  congr 3
  rcases Nat.le_total n w.length with h | h
  · rw [Nat.min_eq_left h]
  · rw [Nat.min_eq_right h, List.take_of_length_le (Nat.le_refl _), List.take_of_length_le h]
theorem math_law (c : CA) (p q : Addr) (l : List Int) (b : Int) (hl : l.length ≤ 63) : ∃ E, b_law c (.no :: .deck p q l b :: nos 5) = .ok (.rt (.bl true), E) := by
  suffices h : Ok (b_law c (.no :: .deck p q l b :: nos 5)) fun r => r.1 = .rt (.bl true) by
    obtain ⟨⟨f, E⟩, e, h⟩ := h
    dsimp only at h
    subst h
    exact ⟨E, e⟩
  unfold b_law
  simp only [t_l11, t_fg, t_a11, t_b11, t_e]
  have lines : ∀ (l : List Int) (b : Int) (n many : Nat), n ≤ 26 → many ≤ 60 → l.length ≤ 63 → ∃ (rows : List (List Int)) (l' : List Int) (b' : Int), m__law_lines c p q ⟨l, b⟩ [.int n, .int many, .int 4] = .ok (.tup (rows.map dI), ⟨l', b'⟩) ∧ Lns n many rows ∧ l'.length ≤ 63 := fun l b n many hn hm hl => by
    obtain ⟨rows, l2, b2, e2, hasc, hk, hn, hl2⟩ := m_lines_ok c p q l b n many 4 hn hm (by omega) (by omega) hl
    exact ⟨rows, l2, b2, e2, ⟨hasc, hk, hn⟩, hl2⟩
  refine seq_for (fun i : Nat => D.int i) (fun r E => ∃ l b x2 x3 x4 x5, E = [.no, .deck p q l b, x2, x3, x4, x5, .no] ∧ l.length ≤ 63) (List.range 8) (E' := [.no, .deck p q l b, .no, .no, .no, .no, .no]) (by simp [← rgD_map]) ⟨l, b, _, _, _, _, rfl, hl⟩ ?_ ?_
  · rintro i r _ ⟨l, b, x2, x3, x4, x5, rfl, hl⟩
    refine ⟨_, rfl, ?_⟩
    refine Ok.cps fun P hP => ?_
    obtain ⟨s0, l1, b1, e1, hs0, hl1⟩ := m_cols11 c p q l b L11 (by decide) hl
    obtain ⟨cols, hcols⟩ : ∃ cols, cols = s0.take 6 := ⟨_, rfl⟩
    have hsl : gSl (dS s0) none (some 6) = some (dS (s0.take 6)) := gSl_to s0 6
    rw [← hcols] at hsl
    have ca : cols.Pairwise fun a b => ltN a b = true := L11_asc.sublist ((hcols ▸ List.take_sublist 6 s0).trans hs0)
    have hcl : cols.length ≤ 8 := by
      have := ((hcols ▸ List.take_sublist 6 s0 : cols.Sublist s0).trans hs0).length_le
      exact this
    refine seq_eq (E' := [.no, .deck p q l1 b1, .dat (.int i), .dat (dS cols), x4, x5, .no]) (by simp [e1, hsl]) ?_
    obtain ⟨rows, l2, b2, e2, hr, hl2⟩ := lines l1 b1 cols.length 12 (by omega) (by omega) hl1
    have e2 : m__law_lines c p q ⟨l1, b1⟩ [.int cols.length, .int 12, .int 4] = _ := e2
    refine seq_eq (E' := [.no, .deck p q l2 b2, .dat (.int i), .dat (dS cols), .dat (.tup (rows.map dI)), x5, .no]) (by simp [e2]) ?_
    obtain ⟨l3, b3, e3, hl3⟩ := m_right11 c p q l2 b2 ca hcl hr hl2
    refine seq_eq (E' := [.no, .deck p q l3 b3, .dat (.int i), .dat (dS cols), .dat (.tup (rows.map dI)), x5, .no]) (by simp [e3]) ?_
    obtain ⟨s4, l4, b4, e4, hs4, hl4⟩ := m_cols11 c p q l3 b3 L11 (by decide) hl3
    obtain ⟨s5, l5, b5, e5, hs5, hl5⟩ := m_cols11 c p q l4 b4 cols (by omega) hl4
    have hsl5 : gSl (dS s4) none (some 5) = some (dS (s4.take 5)) := gSl_to s4 5
    obtain ⟨few, hfew, l6, b6, e6, hl6⟩ := m_pick_lst c p q l5 b5 [s4.take 5, s5, [102, 103], cols] dS (by simp) (by simp) hl5
    have e6 : m__law_pick c p q ⟨l5, b5⟩ [.lst [dS (s4.take 5), dS s5, dS [102, 103], dS cols]] = .ok (dS few, ⟨l6, b6⟩) := e6
    have hsm : ∀ r, small [dS (s4.take 5), dS s5, dS [102, 103], dS cols] r = r := fun r => small_ok (by simp)
    have fa : (few.Pairwise fun a b => ltN a b = true) ∧ few.length ≤ 8 := by
      simp only [List.mem_cons, List.not_mem_nil, or_false] at hfew
      rcases hfew with rfl | rfl | rfl | rfl
      · have hs := (List.take_sublist 5 s4).trans hs4
        exact ⟨L11_asc.sublist hs, hs.length_le⟩
      · exact ⟨ca.sublist hs5, Nat.le_trans hs5.length_le hcl⟩
      · exact ⟨by decide, by decide⟩
      · exact ⟨ca, hcl⟩
    refine seq_eq (E' := [.no, .deck p q l6 b6, .dat (.int i), .dat (dS cols), .dat (.tup (rows.map dI)), .dat (dS few), .no]) (by simp [e4, hsl5, e5, hsm, e6]) ?_
    obtain ⟨mates, l7, b7, e7, hm, hl7⟩ := lines l6 b6 few.length 6 (by have := fa.2; omega) (by omega) hl6
    have e7 : m__law_lines c p q ⟨l6, b6⟩ [.int few.length, .int 6, .int 4] = _ := e7
    have e8 := m_both11 c ca fa.1 hcl fa.2 hr hm
    simp [e7, e8]
    exact hP _ ⟨.inl rfl, l7, b7, _, _, _, _, rfl, hl7⟩
  · rintro _ ⟨l, b, x2, x3, x4, x5, rfl, hl⟩
    have j : ∀ (cols win rst : List Nat) (A B : List (List Int)), win.Nodup → rst.Nodup → (∀ a ∈ A, a.length = win.length) → (∀ b ∈ B, b.length = rst.length) → signsF (win ++ rst) = cols → (win ++ rst).length < 64 → cols ≠ [] → A.length ≤ 60 → B.length ≤ 60 → m_joined c [dS win, .tup (A.map dI), dS rst, .tup (B.map dI)] = .ok (.tup ((joinF cols win A rst B).map dI)) := fun cols win rst A B h1 h2 h3 h4 h5 h6 h7 h8 h9 => m_joined11 c h1 h2 h3 h4 h5 h6 (.inl h7) h8 h9
    have b1 := j [97, 98] [97] [98] [[1], [2]] [[3], [4]] (by simp) (by simp) (by simp) (by simp) (ordN.ext (signsF_asc _) (by decide) fun x => by rw [mem_signsF]; rfl) (by decide) (by simp) (by decide) (by decide)
    have b2 := j [98] [] [98] [[]] [[3]] (by simp) (by simp) (by simp) (by simp) (ordN.ext (signsF_asc _) (by decide) fun x => by rw [mem_signsF]; rfl) (by decide) (by simp) (by decide) (by decide)
    have b3 := j [98] [] [98] [] [[3]] (by simp) (by simp) (by simp) (by simp) (ordN.ext (signsF_asc _) (by decide) fun x => by rw [mem_signsF]; rfl) (by decide) (by simp) (by decide) (by decide)
    have v1 : joinF [97, 98] [97] [[1], [2]] [98] [[3], [4]] = [[1, 3], [1, 4], [2, 3], [2, 4]] := by
      unfold joinF
      rw [show joinL [97, 98] [97] [[1], [2]] [98] [[3], [4]] = [[1, 3], [1, 4], [2, 3], [2, 4]] by decide +kernel]
      exact ordRow.sort_asc (by decide)
    have v2 : joinF [98] [] [[]] [98] [[3]] = [[3]] := by
      unfold joinF
      rw [show joinL [98] [] [[]] [98] [[3]] = [[3]] by decide +kernel]
      exact ordRow.sort_asc (by decide)
    have v3 : joinF [98] [] [] [98] [[3]] = [] := by
      unfold joinF
      rw [show joinL [98] [] [] [98] [[3]] = [] by decide +kernel]
      exact ordRow.sort_asc (by decide)
    rw [v1] at b1
    rw [v2] at b2
    rw [v3] at b3
    have b1 : m_joined c [dS [97], .tup [.tup [.int 1], .tup [.int 2]], dS [98], .tup [.tup [.int 3], .tup [.int 4]]] = .ok (.tup [.tup [.int 1, .int 3], .tup [.int 1, .int 4], .tup [.int 2, .int 3], .tup [.int 2, .int 4]]) := b1
    have b2 : m_joined c [dS [], .tup [.tup []], dS [98], .tup [.tup [.int 3]]] = .ok (.tup [.tup [.int 3]]) := b2
    have b3 : m_joined c [dS [], .tup [], dS [98], .tup [.tup [.int 3]]] = .ok (.tup []) := b3
    have hsm1 : ∀ (a : D) r, small [a] r = r := fun _ _ => small_ok (by simp)
    have hsm2 : ∀ (a b : D) r, small [a, b] r = r := fun _ _ _ => small_ok (by simp)
    have hsm3 : ∀ (a b c : D) r, small [a, b, c] r = r := fun _ _ _ _ => small_ok (by simp)
    have hsm4 : ∀ (a b c d : D) r, small [a, b, c, d] r = r := fun _ _ _ _ _ => small_ok (by simp)
    have hsm0 : ∀ r, small ([] : List D) r = r := fun _ => small_ok (by simp)
    obtain ⟨X, hX⟩ : ∃ X, X = D.tup [.tup [.int 1, .int 3], .tup [.int 1, .int 4], .tup [.int 2, .int 3], .tup [.int 2, .int 4]] := ⟨_, rfl⟩
    have it : ∀ i : Nat, i < 10 → Shw (.int (i : Int)) 0 0 := fun i hi => Shw.nat (by omega)
    have pr : ∀ i j : Nat, i < 10 → j < 10 → Shw (.tup [.int (i : Int), .int (j : Int)]) 2 1 := fun i j hi hj => (Shws.cons (it i hi) (Shws.cons (it j hj) Shws.nil)).tup
    have g1 : gEq (.lst [D.tup [.tup [.int 1, .int 3], .tup [.int 1, .int 4], .tup [.int 2, .int 3], .tup [.int 2, .int 4]], .tup [.tup [.int 3]], .tup []]) (.lst [D.tup [.tup [.int 1, .int 3], .tup [.int 1, .int 4], .tup [.int 2, .int 3], .tup [.int 2, .int 4]], .tup [.tup [.int 3]], .tup []]) = some (.bl true) :=
      (Shws.cons (Shws.cons (pr 1 3 (by decide) (by decide)) (Shws.cons (pr 1 4 (by decide) (by decide)) (Shws.cons (pr 2 3 (by decide) (by decide)) (Shws.cons (pr 2 4 (by decide) (by decide)) Shws.nil)))).tup (Shws.cons (Shws.cons (Shws.cons (it 3 (by decide)) Shws.nil).tup Shws.nil).tup (Shws.cons Shws.nil.tup Shws.nil))).lst.gEq (by decide)
    refine seq_eq (E' := [.no, .deck p q l b, x2, x3, x4, x5, .own (.lst [D.tup [.tup [.int 1, .int 3], .tup [.int 1, .int 4], .tup [.int 2, .int 3], .tup [.int 2, .int 4]], .tup [.tup [.int 3]]])]) (by simp [hsm0, hsm1, hsm2, b1, b2]) ?_
    refine seq_eq (E' := [.no, .deck p q l b, x2, x3, x4, x5, .own (.lst [D.tup [.tup [.int 1, .int 3], .tup [.int 1, .int 4], .tup [.int 2, .int 3], .tup [.int 2, .int 4]], .tup [.tup [.int 3]], .tup []])]) (by simp [hsm0, hsm1, hsm2, b3, gApp]) ?_
    simp [hsm0, hsm1, hsm2, hsm3, hsm4, g1]
end DL
open PySem PySem.W PyProof.Rows in
set_option maxRecDepth 100000 in
set_option maxHeartbeats 0 in
theorem PySem.Challenge.cw_restbehind_k11_shown_and_joined_holds : PySem.Challenge.rw_restbehind_k11_shown_and_joined.Holds := by
  w_on; o_law; k_head; (case hw => w_witness2)
  k_fill
  refine DL.walk_G (l := PySem.Challenge.rw_restbehind_k11_shown_and_joined) (n := 63) (k := 4) (x := "_law_script") (sp := fun w => DL.spLaw _) rfl (by decide) rfl ⟨rfl, by decide, by decide⟩ (fun w h Y => PySem.W.kIn_of Y) ?F (fun _ _ a ns hl hS => ⟨a, ns, rfl, hS, hl, fun _ => rfl⟩)
  case F =>
    intro w mg fa h KX G hmg
    refine' DL.all_mk KX G hmg ?a__law_draw ?l__law_draw ?q__law_draw ?k__law_draw ?a__law_deck ?l__law_deck ?q__law_deck ?k__law_deck ?a__law_columns ?l__law_columns ?q__law_columns ?k__law_columns ?a__law_pick ?l__law_pick ?q__law_pick ?k__law_pick ?a__law_lines ?l__law_lines ?q__law_lines ?k__law_lines ?a__law_shown ?l__law_shown ?q__law_shown ?k__law_shown ?a_row_at ?l_row_at ?q_row_at ?k_row_at ?a_shown ?l_shown ?q_shown ?k_shown ?a_joined ?l_joined ?q_joined ?k_joined ?a__law_right ?l__law_right ?q__law_right ?k__law_right ?a__law_joined ?l__law_joined ?q__law_joined ?k__law_joined ?a__law_both_right ?l__law_both_right ?q__law_both_right ?k__law_both_right ?a_law ?l_law ?q_law ?k_law ?z_int ?z_range ?z_len ?z_tuple ?z_sorted ?z_set ?z_repr ?z_dict ?z_zip DL.math_law
    (case a__law_draw => k_is)
    (case l__law_draw => k_is)
    (case q__law_draw => k_is)
    (case k__law_draw => k_is)
    (case a__law_deck => k_is)
    (case l__law_deck => k_is)
    (case q__law_deck => k_is)
    (case k__law_deck => k_is)
    (case a__law_columns => k_is)
    (case l__law_columns => k_is)
    (case q__law_columns => k_is)
    (case k__law_columns => k_is)
    (case a__law_pick => k_is)
    (case l__law_pick => k_is)
    (case q__law_pick => k_is)
    (case k__law_pick => k_is)
    (case a__law_lines => k_is)
    (case l__law_lines => k_is)
    (case q__law_lines => k_is)
    (case k__law_lines => k_is)
    (case a__law_shown => k_is)
    (case l__law_shown => k_is)
    (case q__law_shown => k_is)
    (case k__law_shown => k_is)
    (case a_row_at => k_is)
    (case l_row_at => k_is)
    (case q_row_at => k_is)
    (case k_row_at => k_is)
    (case a_shown => k_is)
    (case l_shown => k_is)
    (case q_shown => k_is)
    (case k_shown => k_is)
    (case a_joined => k_is)
    (case l_joined => k_is)
    (case q_joined => k_is)
    (case k_joined => k_is)
    (case a__law_right => k_is)
    (case l__law_right => k_is)
    (case q__law_right => k_is)
    (case k__law_right => k_is)
    (case a__law_joined => k_is)
    (case l__law_joined => k_is)
    (case q__law_joined => k_is)
    (case k__law_joined => k_is)
    (case a__law_both_right => k_is)
    (case l__law_both_right => k_is)
    (case q__law_both_right => k_is)
    (case k__law_both_right => k_is)
    (case a_law => k_is)
    (case l_law => k_is)
    (case q_law => k_is)
    (case k_law => k_is)
    (case z_int => k_is)
    (case z_range => k_is)
    (case z_len => k_is)
    (case z_tuple => k_is)
    (case z_sorted => k_is)
    (case z_set => k_is)
    (case z_repr => k_is)
    (case z_dict => k_is)
    (case z_zip => k_is)

