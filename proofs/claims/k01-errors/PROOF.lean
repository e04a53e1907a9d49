import PyProof.Rows.All
import Wide.All
import OpenK.AllK
import Wide.FinOn
import HandS.ForMost
import HandS.Flow
import KE.KDictKeyed
import KE.DataCmp
import KE.SortData
import HandS.TupAny
import HandS.IsInst
import HandS.Replace
import HandS.Conv
import PyProof.ReprRoads
import PyProof.ListStr
import KE.GoesNew
import KE.GoesEnumKw
import KE.GoesMore
import PyProof.Rows.CallKwBuiltin
import HandS.Style
import HandS.Star
import PyProof.CollectStr
import HandS.Ends
import KE.SortKeyHeap
import KE.KSortKey
import PyProof.StrOps
import HandS.SortKw
import PyProof.InstNe
import HandS.Property
import PyProof.DictUpdate
import HandS.More
import HandS.ExcValue
import PyProof.StrCalls6
import HandS.Wide
import PyProof.SliceStr2
import PyProof.Rows.StrRev
import PyProof.NeData
import HandS.TupSets
import HandS.SetBool
import HandS.Exc
import HandS.TryMany
import HandS.ExcInit
import HandS.ExcSuper
import HandS.ExcField
import HandS.ExcIs
import KE.KExcSuper
import KE.KExcIs
import PyProof.Rows.StrOr
import HandS.ReplaceLit
import HandS.ReplaceList
import KE.KCallOwn
import HandS.ClsMeth
import HandS.FStr
import HandS.Text
import PyProof.ReprDict
import PyProof.StrLawsIn
import PyProof.StrLawsRepr
import PyProof.ReprBulk
import PyProof.StrLawsOcc
import PyProof.StrLawsTight
import PyProof.Rows.StrItems
import PyProof.Rows.StrSplitAre
import KE.IntTextText
import PySem.Challenge.RW_restbehind_k01_errors
set_option Elab.async false
set_option linter.all false
set_option maxRecDepth 100000
set_option maxHeartbeats 4000000
namespace DL
open PySem PySem.Spec PyProof.Rows L2

/-- data -/
inductive D where
  | non | bl (b : Bool) | int (i : Int) | str (x : Str)
  | lst (xs : List D) | tup (xs : List D)
  | dic (kvs : List (Key × D)) | dit (kvs : List (List Key × D))
  /-- a dict keyed by tuples of any depth, laid in the world w -/
  | dix (w : World) (kvs : List (D × D))
  | obj (C : Addr) (fs : List (Str × D))
  /-- an exception: its class, its attributes -/
  | exn (C : Addr) (fs : List (Str × D))

/-- a text that may be: not too long, of code points -/
def SOk (x : Str) : Prop := x.length ≤ sizeLine ∧ PyData.strOk x = true
def KOk : Key → Prop
  | .inl _ => True
  | .inr x => SOk x
mutual
/-- a key of any depth -/
def nkD : D → Option NestedKey
  | .int i => some (.num i)
  | .str x => some (.text x)
  | .tup ds => (nkDs ds).map NestedKey.tup
  | _ => none
def nkDs : List D → Option (List NestedKey)
  | [] => some []
  | d :: ds => match nkD d, nkDs ds with
    | some k, some ks => some (k :: ks)
    | _, _ => none
end
/-- what may be a dict's key: a tuple -/
def keyNK (d : D) : Option NestedKey := match nkD d with
  | some (.tup ks) => if (NestedKey.tup ks).depth ≤ 8 then some (.tup ks) else none
  | _ => none
abbrev XEnts := List (NestedKey × Addr × Value)
def dixEs (w : World) (xs : XEnts) : List DictEntry := xs.map fun x => ⟨x.1.hash w, .ref x.2.1, x.2.2⟩
/-- a dict with just these entries -/
def dixO (w : World) (a : Addr) (xs : XEnts) (ep : Nat) : HO := .ext fun h => (a == sysModules) = false ∧ ∃ o, h.get? a = some o ∧ o.ExactDict ∧ o.data = .dict (dixEs w xs).toArray ep
def KsOk (k : List Key) : Prop := k.length ≤ sizeLine ∧ ∀ x ∈ k, KOk x
/-- an exception of the class at C, its dict at d -/
def exnO (C : Addr) (d : Option Addr) (a : Addr) : HO := .ext fun h => ∃ oe vs, h.get? a = some oe ∧ oe.cls = .ref C ∧ oe.dict = d ∧ oe.data = .fields vs
mutual
inductive DD (K : PySem.W.Frag) (G : Hp) : V → D → Prop
  | non : DD K G .non .non
  | bl (b : Bool) : DD K G (.bl b) (.bl b)
  | int (i : Int) : DD K G (.int i) (.int i)
  | str (x : Str) : SOk x → DD K G (.str x) (.str x)
  | lst {a : Addr} {vs : List V} {ds : List D} : G a = some (.lst vs) → vs.length ≤ sizeLine → DDs K G vs ds → DD K G (.ref a) (.lst ds)
  | tup {a : Addr} {vs : List V} {ds : List D} : G a = some (.tup vs) → vs.length ≤ sizeLine → DDs K G vs ds → DD K G (.ref a) (.tup ds)
  | dic {a : Addr} {kv : List (Key × V)} {kd : List (Key × D)} : G a = some (.dK kv) → DKs K G kv kd → DD K G (.ref a) (.dic kd)
  | dit {a : Addr} {kv : List (List Key × V)} {kd : List (List Key × D)} : G a = some (.dT kv) → DTs K G kv kd → DD K G (.ref a) (.dit kd)
  | dix {a : Addr} {w : World} {xs : XEnts} {ep : Nat} {kd : List (D × D)} : G a = some (dixO w a xs ep) → xs.length ≤ sizeLine → (xs.map (·.1)).Nodup → DXs K G xs kd → DD K G (.ref a) (.dix w kd)
  | obj {a C dx : Addr} {fs : List (Str × V)} {fd : List (Str × D)} : G a = some (.ins C dx fs) → DFs K G fs fd → DD K G (.ref a) (.obj C fd)
  | exn0 {a C : Addr} : G a = some (exnO C none a) → DD K G (.ref a) (.exn C [])
  | exn1 {a C dx : Addr} {fs : List (Str × V)} {fd : List (Str × D)} : G a = some (exnO C (some dx) a) → G dx = some (.xd fs) → DFs K G fs fd → DD K G (.ref a) (.exn C fd)
inductive DDs (K : PySem.W.Frag) (G : Hp) : List V → List D → Prop
  | nil : DDs K G [] []
  | cons {v : V} {vs : List V} {d : D} {ds : List D} : DD K G v d → DDs K G vs ds → DDs K G (v :: vs) (d :: ds)
inductive DKs (K : PySem.W.Frag) (G : Hp) : List (Key × V) → List (Key × D) → Prop
  | nil : DKs K G [] []
  | cons {k : Key} {v : V} {vs : List (Key × V)} {d : D} {ds : List (Key × D)} : KOk k → DD K G v d → DKs K G vs ds → DKs K G ((k, v) :: vs) ((k, d) :: ds)
inductive DTs (K : PySem.W.Frag) (G : Hp) : List (List Key × V) → List (List Key × D) → Prop
  | nil : DTs K G [] []
  | cons {k : List Key} {v : V} {vs : List (List Key × V)} {d : D} {ds : List (List Key × D)} : KsOk k → DD K G v d → DTs K G vs ds → DTs K G ((k, v) :: vs) ((k, d) :: ds)
inductive DXs (K : PySem.W.Frag) (G : Hp) : XEnts → List (D × D) → Prop
  | nil : DXs K G [] []
  | cons {n : NestedKey} {b : Addr} {u : Value} {k d : D} {v : V} {xs : XEnts} {kd : List (D × D)} : keyNK k = some n → DD K G (.ref b) k → RelV v u → DD K G v d → DXs K G xs kd → DXs K G ((n, b, u) :: xs) ((k, d) :: kd)
inductive DFs (K : PySem.W.Frag) (G : Hp) : List (Str × V) → List (Str × D) → Prop
  | nil : DFs K G [] []
  | cons {k : Str} {v : V} {vs : List (Str × V)} {d : D} {ds : List (Str × D)} : DD K G v d → DFs K G vs ds → DFs K G ((k, v) :: vs) ((k, d) :: ds)
end
theorem SqL.up {K : PySem.W.Frag} {G G' : Hp} {a : Addr} {xs : List V} (e : Same G G') (h : SqL K G a xs) : SqL K G' a xs := e.seq h
theorem SqT.up {K : PySem.W.Frag} {G G' : Hp} {a : Addr} {xs : List V} (e : Same G G') (h : SqT K G a xs) : SqT K G' a xs := by
  rcases h with (h | ⟨o, h⟩) | h
  · exact Or.inl (Or.inl (e _ _ h))
  · exact Or.inl (Or.inr ⟨o, e _ _ h⟩)
  · exact Or.inr h

mutual
theorem DD.up {K : PySem.W.Frag} {G G' : Hp} (e : Same G G') : ∀ {v : V} {d : D}, DD K G v d → DD K G' v d
  | _, _, .non => .non
  | _, _, .bl b => .bl b
  | _, _, .int i => .int i
  | _, _, .str x h => .str x h
  | _, _, .lst h z r => .lst (e _ _ h) z (DDs.up e r)
  | _, _, .tup h z r => .tup (e _ _ h) z (DDs.up e r)
  | _, _, .dic h r => .dic (e _ _ h) (DKs.up e r)
  | _, _, .dit h r => .dit (e _ _ h) (DTs.up e r)
  | _, _, .dix h z n r => .dix (e _ _ h) z n (DXs.up e r)
  | _, _, .obj h r => .obj (e _ _ h) (DFs.up e r)
  | _, _, .exn0 h => .exn0 (e _ _ h)
  | _, _, .exn1 h z r => .exn1 (e _ _ h) (e _ _ z) (DFs.up e r)
theorem DDs.up {K : PySem.W.Frag} {G G' : Hp} (e : Same G G') : ∀ {v : List V} {d : List D}, DDs K G v d → DDs K G' v d
  | _, _, .nil => .nil
  | _, _, .cons a b => .cons (DD.up e a) (DDs.up e b)
theorem DKs.up {K : PySem.W.Frag} {G G' : Hp} (e : Same G G') : ∀ {v : List (Key × V)} {d : List (Key × D)}, DKs K G v d → DKs K G' v d
  | _, _, .nil => .nil
  | _, _, .cons c a b => .cons c (DD.up e a) (DKs.up e b)
theorem DTs.up {K : PySem.W.Frag} {G G' : Hp} (e : Same G G') : ∀ {v : List (List Key × V)} {d : List (List Key × D)}, DTs K G v d → DTs K G' v d
  | _, _, .nil => .nil
  | _, _, .cons c a b => .cons c (DD.up e a) (DTs.up e b)
theorem DXs.up {K : PySem.W.Frag} {G G' : Hp} (e : Same G G') : ∀ {v : XEnts} {d : List (D × D)}, DXs K G v d → DXs K G' v d
  | _, _, .nil => .nil
  | _, _, .cons h a r b c => .cons h (DD.up e a) r (DD.up e b) (DXs.up e c)
theorem DFs.up {K : PySem.W.Frag} {G G' : Hp} (e : Same G G') : ∀ {v : List (Str × V)} {d : List (Str × D)}, DFs K G v d → DFs K G' v d
  | _, _, .nil => .nil
  | _, _, .cons a b => .cons (DD.up e a) (DFs.up e b)
end
section
variable {K : PySem.W.Frag} {G : Hp}
theorem DDs.len : ∀ {vs : List V} {ds : List D}, DDs K G vs ds → vs.length = ds.length
  | _, _, .nil => rfl
  | _, _, .cons _ b => congrArg Nat.succ (DDs.len b)
theorem DDs.get : ∀ {vs : List V} {ds : List D} {i : Nat} {d : D}, DDs K G vs ds → ds[i]? = some d → ∃ v, vs[i]? = some v ∧ DD K G v d
  | _, _, _, _, .nil, e => by simp at e
  | _, _, 0, _, .cons a _, e => by simp at e; subst e; exact ⟨_, rfl, a⟩
  | _, _, i + 1, d, .cons _ b, e => by
    obtain ⟨v, h1, h2⟩ := DDs.get (i := i) (d := d) b (by simpa using e)
    exact ⟨v, by simpa using h1, h2⟩
theorem DDs.app : ∀ {vs ws : List V} {ds es : List D}, DDs K G vs ds → DDs K G ws es → DDs K G (vs ++ ws) (ds ++ es)
  | _, _, _, _, .nil, h => h
  | _, _, _, _, .cons a b, h => .cons a (DDs.app b h)
theorem DDs.one {v : V} {d : D} (h : DD K G v d) : DDs K G [v] [d] := .cons h .nil
theorem DDs.take : ∀ {vs : List V} {ds : List D} (n : Nat), DDs K G vs ds → DDs K G (vs.take n) (ds.take n)
  | _, _, 0, _ => .nil
  | _, _, _ + 1, .nil => .nil
  | _, _, n + 1, .cons a b => .cons a (DDs.take n b)
theorem DDs.drop : ∀ {vs : List V} {ds : List D} (n : Nat), DDs K G vs ds → DDs K G (vs.drop n) (ds.drop n)
  | _, _, 0, h => h
  | _, _, _ + 1, .nil => .nil
  | _, _, n + 1, .cons _ b => DDs.drop n b
theorem DDs.erase : ∀ {vs : List V} {ds : List D} (n : Nat), DDs K G vs ds → DDs K G (vs.eraseIdx n) (ds.eraseIdx n)
  | _, _, _, .nil => .nil
  | _, _, 0, .cons _ b => b
  | _, _, n + 1, .cons a b => .cons a (DDs.erase n b)
theorem DDs.dropLast : ∀ {vs : List V} {ds : List D}, DDs K G vs ds → DDs K G vs.dropLast ds.dropLast
  | _, _, .nil => .nil
  | _, _, .cons _ .nil => .nil
  | _, _, .cons a (.cons b c) => .cons a (DDs.dropLast (.cons b c))
theorem DKs.len : ∀ {vs : List (Key × V)} {ds : List (Key × D)}, DKs K G vs ds → vs.length = ds.length
  | _, _, .nil => rfl
  | _, _, .cons _ _ b => congrArg Nat.succ (DKs.len b)
theorem DTs.len : ∀ {vs : List (List Key × V)} {ds : List (List Key × D)}, DTs K G vs ds → vs.length = ds.length
  | _, _, .nil => rfl
  | _, _, .cons _ _ b => congrArg Nat.succ (DTs.len b)
/-- a field -/
theorem DFs.look : ∀ {vs : List (Str × V)} {ds : List (Str × D)} {f : Str} {d : D}, DFs K G vs ds → ds.lookup f = some d → ∃ v, vs.lookup f = some v ∧ DD K G v d
  | _, _, _, _, .nil, e => by cases e
  | _, _, f, d, .cons (k := k) a b, e => by
    rw [List.lookup_cons] at e ⊢
    cases h : f == k with
    | true => rw [h] at e; cases e; exact ⟨_, rfl, a⟩
    | false => rw [h] at e; exact DFs.look b e
end

/-- a slot: not known; data; a list or dict of the frame's own; the deck: what is left, the mixed number -/
inductive Cell where
  | no | dat (d : D) | own (d : D) | deck (a q : Addr) (l : List Int) (b : Int) | slf (a : Addr) (d : D) | cls (C : Addr)
  /-- an object of the frame's own (p: the def's argument); true: the attribute is a list or dict of its own -/
  | ob (p : Bool) (C : Addr) (fs : List (Str × Bool × D))
  /-- an object that is being made -/
  | sob (a C : Addr) (fs : List (Str × Bool × D))
abbrev Env := List Cell
/-- a value: data, or the own object at a slot -/
inductive W where
  | dat (d : D) | own (i : Nat)
/-- an exception that flies: its class, its fields -/
structure ExV where
  cls : Addr
  fs : List (Str × D)
inductive Res (α : Type) where
  | ok (a : α) | err (x : ExV) (E : Env) | stuck
def Res.bind {α β : Type} : Res α → (α → Res β) → Res β
  | .ok a, f => f a
  | .err x E, _ => .err x E
  | .stuck, _ => .stuck
instance : Monad Res where
  pure := .ok
  bind := Res.bind
@[simp] theorem Res.ok_bind {α β : Type} (a : α) (f : α → Res β) : (Res.ok a).bind f = f a := rfl
@[simp] theorem Res.err_bind {α β : Type} (x : ExV) (E : Env) (f : α → Res β) : (Res.err x E).bind f = .err x E := rfl
@[simp] theorem Res.stuck_bind {α β : Type} (f : α → Res β) : (Res.stuck).bind f = .stuck := rfl

/-- a frame: the heap at its entry, what of it is data, what of it may change -/
structure Fr where
  H0 : Hp
  G0 : Hp
  X0 : List Addr
  /-- the object that is the def's own argument: its place, those of what it owns -/
  P0 : List Addr

def OwnAt (K : PySem.W.Frag) (G H : Hp) (a : Addr) : D → Prop
  | .lst ds => ∃ vs, H a = some (.lst vs) ∧ vs.length ≤ sizeLine ∧ DDs K G vs ds
  | .dic kd => ∃ kv, H a = some (.dK kv) ∧ DKs K G kv kd
  | .dit kd => ∃ kv, H a = some (.dT kv) ∧ DTs K G kv kd
  | .dix w kd => ∃ xs ep, H a = some (dixO w a xs ep) ∧ xs.length ≤ sizeLine ∧ (xs.map (·.1)).Nodup ∧ DXs K G xs kd
  | .obj C fd => ∃ dx fs, H a = some (.ins C dx fs) ∧ DFs K G fs fd
  | _ => False
def DeckAt (H : Hp) (a q : Addr) (l : List Int) (b : Int) : Prop :=
  H a = some (.dK [(.inr "left", .ref q), (.inr "blend", .int b)]) ∧ H q = some (.lst (l.map V.int))
/-- the attributes of an object: ls are the places of those of its own -/
inductive FsOk (K : PySem.W.Frag) (G H : Hp) : List (Str × V) → List (Str × Bool × D) → List Addr → Prop
  | nil : FsOk K G H [] [] []
  | dat {f : Str} {v : V} {d : D} {vs : List (Str × V)} {fs : List (Str × Bool × D)} {ls : List Addr} : DD K G v d → FsOk K G H vs fs ls → FsOk K G H ((f, v) :: vs) ((f, false, d) :: fs) ls
  | own {f : Str} {l : Addr} {d : D} {vs : List (Str × V)} {fs : List (Str × Bool × D)} {ls : List Addr} : OwnAt K G H l d → FsOk K G H vs fs ls → FsOk K G H ((f, .ref l) :: vs) ((f, true, d) :: fs) (l :: ls)
def ObAt (K : PySem.W.Frag) (G H : Hp) (a : Addr) (ls : List Addr) (C : Addr) (fs : List (Str × Bool × D)) : Prop := ∃ dx vs, (a :: ls).Nodup ∧ H a = some (.ins C dx vs) ∧ FsOk K G H vs fs ls
def CellOk (K : PySem.W.Frag) (P : List Addr) (G H : Hp) (as : List Addr) (v : Option V) : Cell → Prop
  | .no => as = []
  | .dat d => as = [] ∧ ∃ x, v = some x ∧ DD K G x d
  | .own d => ∃ a, as = [a] ∧ v = some (.ref a) ∧ OwnAt K G H a d
  | .deck a q l b => as = [a, q] ∧ v = some (.ref a) ∧ DeckAt H a q l b
  | .slf a d => as = [a] ∧ v = some (.ref a) ∧ OwnAt K G H a d
  | .cls C => as = [] ∧ v = some (.ref C)
  | .ob p C fs => ∃ a ls, as = a :: ls ∧ v = some (.ref a) ∧ (p = true → P = a :: ls) ∧ ObAt K G H a ls C fs
  | .sob a C fs => ∃ ls, as = a :: ls ∧ v = some (.ref a) ∧ ObAt K G H a ls C fs

/-- a tuple never changes -/
def isT : HO → Bool
  | .tup _ => true
  | _ => false
structure StE (K : PySem.W.Frag) (F : Fr) (G H : Hp) (σ : L2.St) (E : Env) (as : Nat → List Addr) : Prop where
  len : σ.length = E.length
  s0 : Same F.G0 G
  s1 : Same G H
  keep : ∀ a o, F.H0 a = some o → a ∉ F.X0 → H a = some o
  dom : ∀ a, H a = none → F.H0 a = none
  priv : ∀ a o, G a ≠ none → F.H0 a = some o → isT o = false → a ∉ F.X0 → F.G0 a ≠ none
  cell : ∀ i c, E[i]? = some c → ∃ v, σ[i]? = some v ∧ CellOk K F.P0 G H (as i) v c
  sep : ∀ i j a, a ∈ as i → a ∈ as j → i = j
  off : ∀ i a, a ∈ as i → G a = none ∧ (F.H0 a = none ∨ a ∈ F.X0)
  tail : ∀ i, E.length ≤ i → as i = []

def WOk (K : PySem.W.Frag) (G : Hp) (E : Env) (σ : L2.St) (v : V) : W → Prop
  | .dat d => DD K G v d
  | .own i => σ[i]? = some (some v)
def ExOk (K : PySem.W.Frag) (G : Hp) (x : ExV) (c : Value) (dx : Option Addr) : Prop :=
  c = .ref x.cls ∧ match dx with
    | none => x.fs = []
    | some d => ∃ fs, G d = some (.xd fs) ∧ DFs K G fs x.fs

abbrev Wish := L2.St → XK
/-- what is wanted behind an expression -/
def Po (K : PySem.W.Frag) (Wi : Wish) (F : Fr) (G : Hp) (σ : L2.St) (Q : VK) : Res (W × Env) → Prop
  | .ok (w, E') => ∀ v G' H' as', Same G G' → StE K F G' H' σ E' as' → WOk K G' E' σ v w → Q v H'
  | .err x E' => ∀ c dx G' H' as', Same G G' → StE K F G' H' σ E' as' → ExOk K G' x c dx → Wi σ c dx H'
  | .stuck => False
abbrev EF := Env → Res (W × Env)
def tE (K : PySem.W.Frag) (Wi : Wish) (f : EF) : TE := fun σ H Q => ∃ F G E as, StE K F G H σ E as ∧ Po K Wi F G σ Q (f E)
/-- behind a list of arguments -/
def WOks (K : PySem.W.Frag) (G : Hp) (E : Env) (σ : L2.St) : List V → List W → Prop
  | [], [] => True
  | v :: vs, w :: ws => WOk K G E σ v w ∧ WOks K G E σ vs ws
  | _, _ => False
def PoA (K : PySem.W.Frag) (Wi : Wish) (F : Fr) (G : Hp) (σ : L2.St) (Q : List V → Hp → Prop) : Res (List W × Env) → Prop
  | .ok (ws, E') => ∀ vs G' H' as', Same G G' → StE K F G' H' σ E' as' → WOks K G' E' σ vs ws → Q vs H'
  | .err x E' => ∀ c dx G' H' as', Same G G' → StE K F G' H' σ E' as' → ExOk K G' x c dx → Wi σ c dx H'
  | .stuck => False
abbrev AF := Env → Res (List W × Env)
def tA (K : PySem.W.Frag) (Wi : Wish) (f : AF) : TA := fun σ H Q => ∃ F G E as, StE K F G H σ E as ∧ PoA K Wi F G σ Q (f E)
/-- how a statement ends -/
inductive Fl where
  | nx | bk | ct | rt (d : D)
def PoS (K : PySem.W.Frag) (Wi : Wish) (F : Fr) (G : Hp) (Dn : Ends) : Res (Fl × Env) → Prop
  | .ok (.nx, E') => ∀ σ' G' H' as', Same G G' → StE K F G' H' σ' E' as' → Dn.nx σ' H'
  | .ok (.bk, E') => ∀ σ' G' H' as', Same G G' → StE K F G' H' σ' E' as' → Dn.bk σ' H'
  | .ok (.ct, E') => ∀ σ' G' H' as', Same G G' → StE K F G' H' σ' E' as' → Dn.ct σ' H'
  | .ok (.rt d, E') => ∀ v σ' G' H' as', Same G G' → StE K F G' H' σ' E' as' → DD K G' v d → Dn.rt v H'
  | .err x E' => ∀ c dx σ' G' H' as', Same G G' → StE K F G' H' σ' E' as' → ExOk K G' x c dx → Wi σ' c dx H'
  | .stuck => False
abbrev SF := Env → Res (Fl × Env)
def tS (K : PySem.W.Frag) (Wi : Wish) (f : SF) : TS := fun Dn σ H => ∃ F G E as, StE K F G H σ E as ∧ PoS K Wi F G Dn (f E)

abbrev DE (X : Cx) (Wi : Wish) (e : Expr) (f : EF) : Prop := PE X e (tE X.K Wi f)
abbrev DA (X : Cx) (Wi : Wish) (es : List Expr) (f : AF) : Prop := PA X es (tA X.K Wi f)
abbrev DS (X : Cx) (Wi : Wish) (st : Stmt) (f : SF) : Prop := PS X st (tS X.K Wi f)
abbrev DSs (X : Cx) (Wi : Wish) (st : List Stmt) (f : SF) : Prop := PSs X st (tS X.K Wi f)

theorem PE.imp {X : Cx} {e : Expr} {t t' : TE} (h : PE X e t) (i : ∀ σ H Q, t' σ H Q → t σ H Q) : PE X e t' :=
  ⟨fun pins s σ H Q I q => h.run pins s σ H Q I (i σ H Q q)⟩
theorem PT.imp {X : Cx} {e : Expr} {t t' : TT} (h : PT X e t) (i : ∀ σ H Q, t' σ H Q → t σ H Q) : PT X e t' :=
  ⟨fun pins s σ H Q I q => h.run pins s σ H Q I (i σ H Q q)⟩
theorem PA.imp {X : Cx} {e : List Expr} {t t' : TA} (h : PA X e t) (i : ∀ σ H Q, t' σ H Q → t σ H Q) : PA X e t' :=
  ⟨fun pos pins s σ H Q I q => h.run pos pins s σ H Q I (i σ H Q q)⟩
theorem PS.imp {X : Cx} {e : Stmt} {t t' : TS} (h : PS X e t) (i : ∀ D σ H, t' D σ H → t D σ H) : PS X e t' :=
  ⟨fun pins s σ H Q I q => h.run pins s σ H Q I (i Q σ H q)⟩
theorem PSs.imp {X : Cx} {e : List Stmt} {t t' : TS} (h : PSs X e t) (i : ∀ D σ H, t' D σ H → t D σ H) : PSs X e t' :=
  ⟨fun pins s σ H Q I q => h.run pins s σ H Q I (i Q σ H q)⟩

section
variable {K : PySem.W.Frag} {Wi : Wish} {F : Fr} {G G1 H : Hp} {σ : L2.St} {E : Env} {as : Nat → List Addr} {Q : VK}
theorem Po.up {r : Res (W × Env)} (e : Same G G1) (h : Po K Wi F G σ Q r) : Po K Wi F G1 σ Q r := by
  match r, h with
  | .ok (w, E'), h => exact fun v G' H' as' s => h v G' H' as' (e.trans s)
  | .err x E', h => exact fun c dx G' H' as' s => h c dx G' H' as' (e.trans s)
theorem PoA.up {QA : List V → Hp → Prop} {r : Res (List W × Env)} (e : Same G G1) (h : PoA K Wi F G σ QA r) : PoA K Wi F G1 σ QA r := by
  match r, h with
  | .ok (w, E'), h => exact fun v G' H' as' s => h v G' H' as' (e.trans s)
  | .err x E', h => exact fun c dx G' H' as' s => h c dx G' H' as' (e.trans s)
theorem PoS.up {Dn : Ends} {r : Res (Fl × Env)} (e : Same G G1) (h : PoS K Wi F G Dn r) : PoS K Wi F G1 Dn r := by
  match r, h with
  | .ok (.nx, E'), h => exact fun v G' H' as' s => h v G' H' as' (e.trans s)
  | .ok (.bk, E'), h => exact fun v G' H' as' s => h v G' H' as' (e.trans s)
  | .ok (.ct, E'), h => exact fun v G' H' as' s => h v G' H' as' (e.trans s)
  | .ok (.rt d, E'), h => exact fun v σ' G' H' as' s => h v σ' G' H' as' (e.trans s)
  | .err x E', h => exact fun c dx σ' G' H' as' s => h c dx σ' G' H' as' (e.trans s)
/-- behind the first of two steps -/
def Mid (K : PySem.W.Frag) (F : Fr) (G : Hp) (σ : L2.St) (R : V → W → Hp → Hp → Env → (Nat → List Addr) → Prop) (v : V) (H1 : Hp) : Prop :=
  ∃ w G1 E1 as1, Same G G1 ∧ StE K F G1 H1 σ E1 as1 ∧ WOk K G1 E1 σ v w ∧ R v w G1 H1 E1 as1
theorem Po.bind {r : Res (W × Env)} {g : W × Env → Res (W × Env)} (h : Po K Wi F G σ Q (r.bind g)) :
    Po K Wi F G σ (Mid K F G σ fun _ w G1 _ E1 _ => Po K Wi F G1 σ Q (g (w, E1))) r := by
  match r, h with
  | .ok (w, E'), h => exact fun v G' H' as' s st wo => ⟨w, G', E', as', s, st, wo, Po.up s h⟩
  | .err x E', h => exact h
theorem Po.bindA {r : Res (W × Env)} {QA : List V → Hp → Prop} {g : W × Env → Res (List W × Env)} (h : PoA K Wi F G σ QA (r.bind g)) :
    Po K Wi F G σ (Mid K F G σ fun _ w G1 _ E1 _ => PoA K Wi F G1 σ QA (g (w, E1))) r := by
  match r, h with
  | .ok (w, E'), h => exact fun v G' H' as' s st wo => ⟨w, G', E', as', s, st, wo, PoA.up s h⟩
  | .err x E', h => exact h
/-- an expression, then a statement's end with the same slots -/
theorem Po.bindS {r : Res (W × Env)} {Dn : Ends} {g : W × Env → Res (Fl × Env)} (h : PoS K Wi F G Dn (r.bind g)) :
    Po K Wi F G σ (Mid K F G σ fun _ w G1 _ E1 _ => PoS K Wi F G1 Dn (g (w, E1))) r := by
  match r, h with
  | .ok (w, E'), h => exact fun v G' H' as' s st wo => ⟨w, G', E', as', s, st, wo, PoS.up s h⟩
  | .err x E', h => exact fun c dx G' H' as' s st xo => h c dx σ G' H' as' s st xo
def MidA (K : PySem.W.Frag) (F : Fr) (G : Hp) (σ : L2.St) (R : List V → List W → Hp → Hp → Env → (Nat → List Addr) → Prop) (vs : List V) (H1 : Hp) : Prop :=
  ∃ ws G1 E1 as1, Same G G1 ∧ StE K F G1 H1 σ E1 as1 ∧ WOks K G1 E1 σ vs ws ∧ R vs ws G1 H1 E1 as1
theorem PoA.bind {r : Res (List W × Env)} {g : List W × Env → Res (W × Env)} (h : Po K Wi F G σ Q (r.bind g)) :
    PoA K Wi F G σ (MidA K F G σ fun _ ws G1 _ E1 _ => Po K Wi F G1 σ Q (g (ws, E1))) r := by
  match r, h with
  | .ok (w, E'), h => exact fun v G' H' as' s st wo => ⟨w, G', E', as', s, st, wo, Po.up s h⟩
  | .err x E', h => exact h
end
end DL
namespace DL
open PySem PySem.Spec PyProof.Rows L2

section
variable {K : PySem.W.Frag} {Wi : Wish} {F : Fr} {G G' H H' : Hp} {σ : L2.St} {E : Env} {as : Nat → List Addr} {Q : VK}

/-- the heap grows, what is data grows by new things alone -/
structure Al (G H G' H' : Hp) : Prop where
  g : Same G G'
  h : Same H H'
  s : Same G' H'
  new : ∀ a o, G' a ≠ none → G a = none → H a = some o → isT o = true
theorem Al.refl (s : Same G H) : Al G H G H := ⟨Same.refl _, Same.refl _, s, fun _ _ h e => absurd e h⟩
theorem Al.trans {G1 H1 G2 H2 : Hp} (a : Al G H G1 H1) (b : Al G1 H1 G2 H2) : Al G H G2 H2 := by
  refine ⟨a.g.trans b.g, a.h.trans b.h, b.s, fun x o h e q => ?_⟩
  by_cases h1 : G1 x = none
  · exact b.new x o h h1 (a.h x o q)
  · exact a.new x o h1 e q
theorem Al.one {p : Addr} {o : HO} (s : Same G H) (hp : H p = none) : Al G H (upd G p o) (upd H p o) := by
  have gp : G p = none := s.free hp
  refine ⟨fun b u e => ?_, fun b u e => ?_, fun b u e => ?_, fun b o h e q => ?_⟩
  · rw [upd_ne (ne_of_none e gp)]; exact e
  · rw [upd_ne (ne_of_none e hp)]; exact e
  · by_cases hb : b = p
    · subst hb; rw [upd_same] at e ⊢; exact e
    · rw [upd_ne hb] at e ⊢; exact s b u e
  · by_cases hb : b = p
    · rw [hb, hp] at q; cases q
    · rw [upd_ne hb] at h; exact absurd e h
theorem Al.grow (s : Same G H) (h : Same H H') : Al G H G H' := ⟨Same.refl _, h, s.trans h, fun _ _ h e => absurd e h⟩

theorem OwnAt.up {a : Addr} {d : D} (e : Same G G') (h : ∀ o, H a = some o → H' a = some o) (x : OwnAt K G H a d) : OwnAt K G' H' a d := by
  cases d with
  | lst ds => obtain ⟨vs, e1, z, r⟩ := x; exact ⟨vs, h _ e1, z, r.up e⟩
  | dic kd => obtain ⟨vs, e1, r⟩ := x; exact ⟨vs, h _ e1, r.up e⟩
  | dit kd => obtain ⟨vs, e1, r⟩ := x; exact ⟨vs, h _ e1, r.up e⟩
  | dix w kd => obtain ⟨xs, ep, e1, z, n, r⟩ := x; exact ⟨xs, ep, h _ e1, z, n, r.up e⟩
  | exn _ _ => exact x.elim
  | obj C fd => obtain ⟨dx, vs, e1, r⟩ := x; exact ⟨dx, vs, h _ e1, r.up e⟩
  | non => exact x.elim
  | bl _ => exact x.elim
  | int _ => exact x.elim
  | str _ => exact x.elim
  | tup _ => exact x.elim
theorem OwnAt.hasM {a : Addr} {d : D} (x : OwnAt K G H a d) : ∃ o, H a = some o ∧ isT o = false := by
  cases d with
  | lst ds => obtain ⟨vs, e1, z, r⟩ := x; exact ⟨_, e1, rfl⟩
  | dic kd => obtain ⟨vs, e1, r⟩ := x; exact ⟨_, e1, rfl⟩
  | dit kd => obtain ⟨vs, e1, r⟩ := x; exact ⟨_, e1, rfl⟩
  | dix w kd => obtain ⟨xs, ep, e1, z, n, r⟩ := x; exact ⟨_, e1, rfl⟩
  | exn _ _ => exact x.elim
  | obj C fd => obtain ⟨dx, vs, e1, r⟩ := x; exact ⟨_, e1, rfl⟩
  | non => exact x.elim
  | bl _ => exact x.elim
  | int _ => exact x.elim
  | str _ => exact x.elim
  | tup _ => exact x.elim
theorem OwnAt.hasO {a : Addr} {d : D} (x : OwnAt K G H a d) : ∃ o, H a = some o := let ⟨o, h, _⟩ := x.hasM; ⟨o, h⟩
theorem FsOk.up (e : Same G G') : ∀ {vs : List (Str × V)} {fs : List (Str × Bool × D)} {ls : List Addr}, FsOk K G H vs fs ls → (∀ a ∈ ls, ∀ o, H a = some o → H' a = some o) → FsOk K G' H' vs fs ls
  | _, _, _, .nil, _ => .nil
  | _, _, _, .dat d r, h => .dat (d.up e) (FsOk.up e r h)
  | _, _, _, .own o r, h => .own (o.up e (h _ List.mem_cons_self)) (FsOk.up e r fun a m => h a (List.mem_cons_of_mem _ m))
theorem FsOk.there : ∀ {vs : List (Str × V)} {fs : List (Str × Bool × D)} {ls : List Addr}, FsOk K G H vs fs ls → ∀ a ∈ ls, ∃ o, H a = some o ∧ isT o = false
  | _, _, _, .nil, _, h => by cases h
  | _, _, _, .dat _ r, a, h => FsOk.there r a h
  | _, _, _, .own o r, a, h => by
    rcases List.mem_cons.mp h with e | h
    · rw [e]; exact o.hasM
    · exact FsOk.there r a h
theorem ObAt.up {a C : Addr} {ls : List Addr} {fs : List (Str × Bool × D)} (x : ObAt K G H a ls C fs) (e : Same G G') (h : ∀ b ∈ a :: ls, ∀ o, H b = some o → H' b = some o) : ObAt K G' H' a ls C fs := by
  obtain ⟨dx, vs, h0, h1, h2⟩ := x
  exact ⟨dx, vs, h0, h a List.mem_cons_self _ h1, h2.up e fun b m => h b (List.mem_cons_of_mem _ m)⟩
theorem ObAt.there {a C : Addr} {ls : List Addr} {fs : List (Str × Bool × D)} (x : ObAt K G H a ls C fs) : ∀ b ∈ a :: ls, ∃ o, H b = some o ∧ isT o = false := by
  obtain ⟨dx, vs, h0, h1, h2⟩ := x
  intro b hb
  rcases List.mem_cons.mp hb with e | hb
  · rw [e]; exact ⟨_, h1, rfl⟩
  · exact h2.there b hb
theorem CellOk.up {P : List Addr} {l : List Addr} {v : Option V} {c : Cell} (e : Same G G') (h : ∀ a ∈ l, ∀ o, H a = some o → H' a = some o) (x : CellOk K P G H l v c) : CellOk K P G' H' l v c := by
  cases c with
  | no => exact x
  | dat d => obtain ⟨x1, y, x2, x3⟩ := x; exact ⟨x1, y, x2, x3.up e⟩
  | own d => obtain ⟨a, x1, x2, x3⟩ := x; exact ⟨a, x1, x2, x3.up e (h a (by rw [x1]; exact List.mem_singleton.mpr rfl))⟩
  | slf a d => obtain ⟨x1, x2, x3⟩ := x; exact ⟨x1, x2, x3.up e (h a (by rw [x1]; exact List.mem_singleton.mpr rfl))⟩
  | deck a q z b => obtain ⟨x1, x2, x3, x4⟩ := x; exact ⟨x1, x2, h a (by rw [x1]; simp) _ x3, h q (by rw [x1]; simp) _ x4⟩
  | cls _ => exact x
  | ob p C fs => obtain ⟨a, ls, x1, x2, x4, x3⟩ := x; exact ⟨a, ls, x1, x2, x4, x3.up e (by rw [← x1]; exact h)⟩
  | sob a C fs => obtain ⟨ls, x1, x2, x3⟩ := x; exact ⟨ls, x1, x2, x3.up e (by rw [← x1]; exact h)⟩
theorem CellOk.there {P : List Addr} {l : List Addr} {v : Option V} {c : Cell} (x : CellOk K P G H l v c) : ∀ a ∈ l, ∃ o, H a = some o ∧ isT o = false := by
  intro a ha
  cases c with
  | no => rw [show l = [] from x] at ha; cases ha
  | cls _ => rw [x.1] at ha; cases ha
  | ob p C fs => obtain ⟨b, ls, x1, x2, _, x3⟩ := x; rw [x1] at ha; exact x3.there a ha
  | sob b C fs => obtain ⟨ls, x1, x2, x3⟩ := x; rw [x1] at ha; exact x3.there a ha
  | dat d => rw [x.1] at ha; cases ha
  | own d =>
    obtain ⟨b, x1, x2, x3⟩ := x
    rw [x1] at ha
    rw [List.mem_singleton.mp ha]
    exact x3.hasM
  | slf b d =>
    obtain ⟨x1, x2, x3⟩ := x
    rw [x1] at ha
    rw [List.mem_singleton.mp ha]
    exact x3.hasM
  | deck b q z c =>
    obtain ⟨x1, x2, x3, x4⟩ := x
    rw [x1] at ha
    rcases List.mem_cons.mp ha with e | ha
    · rw [e]; exact ⟨_, x3, rfl⟩
    · rw [List.mem_singleton.mp ha]; exact ⟨_, x4, rfl⟩
theorem StE.thereM (st : StE K F G H σ E as) {i : Nat} {a : Addr} (ha : a ∈ as i) : ∃ o, H a = some o ∧ isT o = false := by
  by_cases hi : i < E.length
  · obtain ⟨v, _, x⟩ := st.cell i E[i] (List.getElem?_eq_getElem hi)
    exact x.there a ha
  · rw [st.tail i (by omega)] at ha; cases ha
theorem StE.there (st : StE K F G H σ E as) {i : Nat} {a : Addr} (ha : a ∈ as i) : ∃ o, H a = some o := let ⟨o, h, _⟩ := st.thereM ha; ⟨o, h⟩
theorem StE.al (st : StE K F G H σ E as) (a : Al G H G' H') : StE K F G' H' σ E as := by
  refine ⟨st.len, st.s0.trans a.g, a.s, fun b o h x => a.h _ _ (st.keep b o h x), fun b h => st.dom b (a.h.free h), fun b o h h0 ht hx => ?_, fun i c e => ?_, st.sep, fun i b hb => ⟨?_, (st.off i b hb).2⟩, st.tail⟩
  · by_cases hg : G b = none
    · by_cases hb : H b = none
      · rw [st.dom b hb] at h0; cases h0
      · obtain ⟨u, hu⟩ := Option.ne_none_iff_exists'.mp hb
        have e := st.keep b o h0 hx
        rw [a.new b o h hg e] at ht; cases ht
    · exact st.priv b o hg h0 ht hx
  · obtain ⟨v, e1, x⟩ := st.cell i c e
    exact ⟨v, e1, x.up a.g fun b _ o q => a.h b o q⟩
  · by_cases hg : G' b = none
    · exact hg
    · obtain ⟨o, q, ht⟩ := st.thereM hb
      rw [a.new b o hg (st.off i b hb).1 q] at ht; cases ht
/-- the addresses without those of a slot -/
def drp (as : Nat → List Addr) (i : Nat) (l : List Addr) : Nat → List Addr := fun j => if j = i then l else as j
theorem drp_same {i : Nat} {l : List Addr} : drp as i l i = l := if_pos rfl
theorem drp_ne {i j : Nat} {l : List Addr} (h : j ≠ i) : drp as i l j = as j := if_neg h
theorem get_set {α : Type} {l : List α} {i j : Nat} {x y : α} (h : (l.set i x)[j]? = some y) : (j = i ∧ y = x) ∨ (j ≠ i ∧ l[j]? = some y) := by
  by_cases e : i = j
  · subst e
    by_cases hl : i < l.length
    · rw [List.getElem?_set_self hl] at h; cases h; exact .inl ⟨rfl, rfl⟩
    · rw [List.getElem?_eq_none (by rw [List.length_set]; omega)] at h; cases h
  · rw [List.getElem?_set_ne e] at h; exact .inr ⟨fun q => e q.symm, h⟩
/-- a slot gets a new cell, whose addresses are l -/
theorem StE.setC (st : StE K F G H σ E as) {i : Nat} {x : Option V} {c : Cell} {l : List Addr} (hc : CellOk K F.P0 G H l x c) (hl : ∀ a ∈ l, (∀ j, j ≠ i → a ∉ as j) ∧ G a = none ∧ (F.H0 a = none ∨ a ∈ F.X0)) (hi : i < E.length ∨ l = []) :
    StE K F G H (σ.set i x) (E.set i c) (drp as i l) := by
  refine ⟨by rw [List.length_set, List.length_set]; exact st.len, st.s0, st.s1, st.keep, st.dom, st.priv, fun j c' e => ?_, fun j k a h1 h2 => ?_, fun j a h => ?_, fun j hj => ?_⟩
  · rcases get_set e with ⟨rfl, rfl⟩ | ⟨hj, e⟩
    · refine ⟨x, List.getElem?_set_self ?_, ?_⟩
      · have := (List.getElem?_eq_some_iff.mp e).1
        rw [List.length_set] at this; rw [st.len]; exact this
      · rw [drp_same]; exact hc
    · obtain ⟨v, e1, y⟩ := st.cell j c' e
      exact ⟨v, by rw [List.getElem?_set_ne (Ne.symm hj)]; exact e1, by rw [drp_ne hj]; exact y⟩
  · by_cases hj : j = i <;> by_cases hk : k = i
    · rw [hj, hk]
    · subst hj; rw [drp_same] at h1; rw [drp_ne hk] at h2; exact absurd h2 ((hl a h1).1 k hk)
    · subst hk; rw [drp_same] at h2; rw [drp_ne hj] at h1; exact absurd h1 ((hl a h2).1 j hj)
    · rw [drp_ne hj] at h1; rw [drp_ne hk] at h2; exact st.sep j k a h1 h2
  · by_cases hj : j = i
    · subst hj; rw [drp_same] at h; exact (hl a h).2
    · rw [drp_ne hj] at h; exact st.off j a h
  · rw [List.length_set] at hj
    by_cases e : j = i
    · subst e; rw [drp_same]
      rcases hi with hi | hi
      · omega
      · exact hi
    · rw [drp_ne e]; exact st.tail j hj
theorem StE.setD (st : StE K F G H σ E as) {i : Nat} {v : V} {d : D} (h : DD K G v d) : StE K F G H (σ.set i (some v)) (E.set i (.dat d)) (drp as i []) :=
  st.setC ⟨rfl, v, rfl, h⟩ (fun _ h => by cases h) (.inr rfl)
theorem StE.setN (st : StE K F G H σ E as) {i : Nat} {x : Option V} : StE K F G H (σ.set i x) (E.set i .no) (drp as i []) :=
  st.setC (by rfl) (fun _ h => by cases h) (.inr rfl)
/-- an own object becomes data -/
theorem StE.freeze (st : StE K F G H σ E as) {i : Nat} {a : Addr} {d : D} (e : E[i]? = some (.own d)) (ha : σ[i]? = some (some (.ref a))) : ∃ G', Same G G' ∧ DD K G' (.ref a) d ∧ StE K F G' H σ (E.set i (.dat d)) (drp as i []) := by
  obtain ⟨v, e1, b, x1, x2, x3⟩ := st.cell i _ e
  rw [ha] at e1; cases e1
  cases x2
  have hm : a ∈ as i := by rw [x1]; exact List.mem_singleton.mpr rfl
  obtain ⟨ga, hoff⟩ := st.off i a hm
  obtain ⟨o, ho⟩ := x3.hasO
  have sg : Same G (upd G a o) := fun b u q => by rw [upd_ne (ne_of_none q ga)]; exact q
  have st1 : StE K F (upd G a o) H σ (E.set i .no) (drp as i []) := by
    refine ⟨by rw [List.length_set]; exact st.len, st.s0.trans sg, fun b u q => ?_, st.keep, st.dom, fun b o h h0 ht hx => ?_, fun j c' q => ?_, fun j k b h1 h2 => ?_, fun j b h => ?_, fun j hj => ?_⟩
    · by_cases hb : b = a
      · subst hb; rw [upd_same] at q; cases q; exact ho
      · rw [upd_ne hb] at q; exact st.s1 b u q
    · by_cases hb : b = a
      · subst hb
        rcases hoff with z | z
        · rw [z] at h0; cases h0
        · exact absurd z hx
      · rw [upd_ne hb] at h; exact st.priv b o h h0 ht hx
    · rcases get_set q with ⟨rfl, rfl⟩ | ⟨hj, q⟩
      · exact ⟨_, ha, drp_same⟩
      · obtain ⟨w, e2, y⟩ := st.cell j c' q
        exact ⟨w, e2, by rw [drp_ne hj]; exact y.up sg fun b _ u q => q⟩
    · by_cases hj : j = i
      · subst hj; rw [drp_same] at h1; cases h1
      · by_cases hk : k = i
        · subst hk; rw [drp_same] at h2; cases h2
        · rw [drp_ne hj] at h1; rw [drp_ne hk] at h2; exact st.sep j k b h1 h2
    · by_cases hj : j = i
      · subst hj; rw [drp_same] at h; cases h
      · rw [drp_ne hj] at h
        refine ⟨?_, (st.off j b h).2⟩
        have : b ≠ a := fun z => by subst z; exact hj (st.sep j i b h hm)
        rw [upd_ne this]; exact (st.off j b h).1
    · by_cases hj' : j = i
      · subst hj'; rw [drp_same]
      · rw [drp_ne hj']; exact st.tail j (by rw [List.length_set] at hj; exact hj)
  have hd : DD K (upd G a o) (.ref a) d := by
    cases d with
    | lst ds => obtain ⟨vs, e1, z, r⟩ := x3; rw [ho] at e1; cases e1; exact .lst upd_same z (r.up sg)
    | dic kd => obtain ⟨vs, e1, r⟩ := x3; rw [ho] at e1; cases e1; exact .dic upd_same (r.up sg)
    | dit kd => obtain ⟨vs, e1, r⟩ := x3; rw [ho] at e1; cases e1; exact .dit upd_same (r.up sg)
    | dix w kd => obtain ⟨xs, ep, e1, z, n, r⟩ := x3; rw [ho] at e1; have e1 := Option.some.inj e1; subst e1; exact .dix upd_same z n (r.up sg)
    | exn _ _ => exact x3.elim
    | obj C fd => obtain ⟨dx, vs, e1, r⟩ := x3; rw [ho] at e1; cases e1; exact .obj upd_same (r.up sg)
    | non => exact x3.elim
    | bl _ => exact x3.elim
    | int _ => exact x3.elim
    | str _ => exact x3.elim
    | tup _ => exact x3.elim
  refine ⟨_, sg, hd, ?_⟩
  have st2 := st1.setD (i := i) hd
  have e1 : σ.set i (some (V.ref a)) = σ := by
    refine List.ext_getElem? fun j => ?_
    by_cases hj : i = j
    · subst hj; rw [List.getElem?_set_self (List.getElem?_eq_some_iff.mp ha).1]; exact ha.symm
    · rw [List.getElem?_set_ne hj]
  have e2 : (E.set i Cell.no).set i (.dat d) = E.set i (.dat d) := List.set_set ..
  have e3 : drp (drp as i []) i [] = drp as i [] := by
    funext j; unfold drp; split <;> rfl
  rw [e1, e2, e3] at st2
  exact st2

def own (as : Nat → List Addr) (n : Nat) : List Addr := (List.range n).flatMap as
theorem mem_own {n i : Nat} {a : Addr} (h : a ∈ as i) (hi : i < n) : a ∈ own as n := List.mem_flatMap.mpr ⟨i, List.mem_range.mpr hi, h⟩
theorem StE.mem_own (st : StE K F G H σ E as) {i : Nat} {a : Addr} (h : a ∈ as i) : a ∈ own as E.length := by
  by_cases hi : i < E.length
  · exact DL.mem_own h hi
  · rw [st.tail i (by omega)] at h; cases h
theorem of_own {n : Nat} {a : Addr} (h : a ∈ own as n) : ∃ i, a ∈ as i := by
  obtain ⟨i, _, h⟩ := List.mem_flatMap.mp h
  exact ⟨i, h⟩
def inner (F : Fr) (G H : Hp) (as : Nat → List Addr) (n : Nat) : Fr := ⟨H, G, own as n, F.P0⟩
theorem StE.in_ (st : StE K F G H σ E as) : StE K (inner F G H as E.length) G H σ E as :=
  ⟨st.len, Same.refl _, st.s1, fun _ _ h _ => h, fun _ h => h, fun _ _ h _ _ _ => h, st.cell, st.sep, fun i a h => ⟨(st.off i a h).1, .inr (st.mem_own h)⟩, st.tail⟩
theorem StE.out {σ' : L2.St} {E' : Env} {as' : Nat → List Addr} {n : Nat} (st : StE K F G H σ E as) (st' : StE K (inner F G H as n) G' H' σ' E' as') : StE K F G' H' σ' E' as' := by
  have hx : ∀ a, a ∈ own as n → F.H0 a = none ∨ a ∈ F.X0 := fun a h => by
    obtain ⟨i, h⟩ := of_own h
    exact (st.off i a h).2
  refine ⟨st'.len, st.s0.trans st'.s0, st'.s1, fun b o h x => ?_, fun b h => st.dom b (st'.dom b h), fun b o h h0 ht x => ?_, st'.cell, st'.sep, fun i b h => ⟨(st'.off i b h).1, ?_⟩, st'.tail⟩
  · refine st'.keep b o (st.keep b o h x) fun z => ?_
    rcases hx b z with y | y
    · rw [y] at h; cases h
    · exact x y
  · by_cases hm : b ∈ own as n
    · rcases hx b hm with y | y
      · rw [y] at h0; cases h0
      · exact absurd y x
    · exact st.priv b o (st'.priv b o h (st.keep b o h0 x) ht hm) h0 ht x
  · rcases (st'.off i b h).2 with y | y
    · exact .inl (st.dom b y)
    · exact hx b y
end
end DL
namespace DL
open PySem PySem.Spec PyProof.Rows L2

def keyPy : Key → PyData
  | .inl i => .int i
  | .inr x => .str x
mutual
def D.py : D → PyData
  | .non => .none
  | .bl b => .bool b
  | .int i => .int i
  | .str x => .str x
  | .lst xs => .list (pyL xs)
  | .tup xs => .tuple (pyL xs)
  | .dic kvs => .dict (pyK kvs)
  | .dit kvs => .dict (pyT kvs)
  | .dix _ _ => .none
  | .exn _ _ => .none
  | .obj _ _ => .none
def pyL : List D → List PyData
  | [] => []
  | x :: xs => x.py :: pyL xs
def pyK : List (Key × D) → List (PyData × PyData)
  | [] => []
  | (k, d) :: r => (keyPy k, d.py) :: pyK r
def pyT : List (List Key × D) → List (PyData × PyData)
  | [] => []
  | (k, d) :: r => (.tuple (k.map keyPy), d.py) :: pyT r
end
mutual
/-- no dict, no instance -/
def D.plain : D → Bool
  | .lst xs => plainL xs
  | .tup xs => plainL xs
  | .dic _ => false
  | .dit _ => false
  | .dix _ _ => false
  | .exn _ _ => false
  | .obj _ _ => false
  | .non => true
  | .bl _ => true
  | .int _ => true
  | .str _ => true
def plainL : List D → Bool
  | [] => true
  | x :: xs => x.plain && plainL xs
end
section
variable {X : Cx} {pins : List (Addr × Obj)} {σ : L2.St} {G H : Hp} {s : Shared}
mutual
theorem DD.reads (I : Inv X pins σ H s) (e : Same G H) : ∀ (d : D) (v : V) (u : Value), d.plain = true → DD X.K G v d → RelV v u → ∃ as, Reads s.heap u d.py as
  | .non, _, _, _, h, r => by cases h; cases r; exact ⟨_, Reads.none⟩
  | .bl b, _, _, _, h, r => by cases h; cases r; exact ⟨_, Reads.bool b⟩
  | .int i, _, _, _, h, r => by cases h; obtain ⟨t, rfl⟩ := r; exact ⟨_, Reads.int i t⟩
  | .str x, _, _, _, h, r => by cases h; obtain ⟨t, rfl⟩ := r; exact ⟨_, Reads.str x t⟩
  | .lst ds, _, _, p, h, r => by
    cases h with
    | lst hs _ ha =>
      cases r
      obtain ⟨its, rv, ⟨o, n, ho, hc, _, hd⟩, _⟩ := I.list (SqL.of (e _ _ hs))
      obtain ⟨as, hr⟩ := DDs.reads I e ds _ its (by simpa [D.plain] using p) ha rv
      exact ⟨_, Reads.list ho hc hd hr⟩
  | .tup ds, _, _, p, h, r => by
    cases h with
    | tup hs _ ha =>
      cases r
      obtain ⟨its, rv, ⟨o, ho, hc, n, hd⟩, _⟩ := I.tuple (SqT.of (e _ _ hs))
      obtain ⟨as, hr⟩ := DDs.reads I e ds _ its (by simpa [D.plain] using p) ha rv
      exact ⟨_, Reads.tuple ho hc hd hr⟩
  | .dic _, _, _, p, _, _ => by cases p
  | .dit _, _, _, p, _, _ => by cases p
  | .dix _ _, _, _, p, _, _ => by cases p
  | .exn _ _, _, _, p, _, _ => by cases p
  | .obj _ _, _, _, p, _, _ => by cases p
theorem DDs.reads (I : Inv X pins σ H s) (e : Same G H) : ∀ (ds : List D) (vs : List V) (us : List Value), plainL ds = true → DDs X.K G vs ds → Vals vs us → ∃ as, ReadsAll s.heap us (pyL ds) as
  | [], _, _, _, h, r => by cases h; cases r; exact ⟨_, .nil⟩
  | d :: ds, _, _, p, h, r => by
    cases h with
    | cons h1 h2 =>
      cases r with
      | cons r1 r2 =>
        rw [plainL, Bool.and_eq_true] at p
        obtain ⟨as, q1⟩ := DD.reads I e d _ _ p.1 h1 r1
        obtain ⟨bs, q2⟩ := DDs.reads I e ds _ _ p.2 h2 r2
        exact ⟨_, .cons q1 q2⟩
end
mutual
theorem DD.lay {K : PySem.W.Frag} : ∀ (d : D) (v : V), d.plain = true → DD K G v d → d.py.canLay0 = true
  | .non, _, _, _ => rfl
  | .bl b, _, _, _ => rfl
  | .int i, _, _, _ => rfl
  | .str x, _, _, h => by cases h with | str _ h => exact h.2
  | .lst ds, _, p, h => by cases h with | lst _ _ ha => exact DDs.lay ds _ (by simpa [D.plain] using p) ha
  | .tup ds, _, p, h => by cases h with | tup _ _ ha => exact DDs.lay ds _ (by simpa [D.plain] using p) ha
  | .dic _, _, p, _ => by cases p
  | .dit _, _, p, _ => by cases p
  | .dix _ _, _, p, _ => by cases p
  | .exn _ _, _, p, _ => by cases p
  | .obj _ _, _, p, _ => by cases p
theorem DDs.lay {K : PySem.W.Frag} : ∀ (ds : List D) (vs : List V), plainL ds = true → DDs K G vs ds → PyData.canLayAll0 (pyL ds) = true
  | [], _, _, _ => rfl
  | d :: ds, _, p, h => by
    cases h with
    | cons h1 h2 =>
      rw [plainL, Bool.and_eq_true] at p
      show (PyData.canLay0 d.py && PyData.canLayAll0 (pyL ds)) = true
      rw [DD.lay d _ p.1 h1, DDs.lay ds _ p.2 h2]; rfl
end
end

def rd (E : Env) : W → Res D
  | .dat d => .ok d
  | .own i => match E[i]? with
    | some (.own d) => .ok d
    | _ => .stuck
def ofO {α : Type} : Option α → Res α
  | some a => .ok a
  | none => .stuck
@[simp] theorem ofO_some {α : Type} (a : α) : ofO (some a) = .ok a := rfl
@[simp] theorem rd_dat (E : Env) (d : D) : rd E (.dat d) = .ok d := rfl
theorem rd_own (E : Env) (i : Nat) : (∃ d, E[i]? = some (.own d) ∧ rd E (.own i) = .ok d) ∨ rd E (.own i) = .stuck := by
  cases h : E[i]? with
  | none => exact .inr (by unfold rd; simp [h])
  | some c =>
    cases c with
    | own d => exact .inl ⟨d, rfl, by unfold rd; simp [h]⟩
    | no => exact .inr (by unfold rd; simp [h])
    | dat d => exact .inr (by unfold rd; simp [h])
    | deck a q l b => exact .inr (by unfold rd; simp [h])
    | slf a d => exact .inr (by unfold rd; simp [h])
    | cls C => exact .inr (by unfold rd; simp [h])
    | ob p C fs => exact .inr (by unfold rd; simp [h])
    | sob a C fs => exact .inr (by unfold rd; simp [h])
theorem rd_no (E : Env) (w : W) : (∃ d, rd E w = .ok d) ∨ rd E w = .stuck := by
  cases w with
  | dat d => exact .inl ⟨d, rfl⟩
  | own i => exact (rd_own E i).imp (fun ⟨d, _, h⟩ => ⟨d, h⟩) id
/-- what is read: data, or the frame's own -/
inductive BD (K : PySem.W.Frag) (G H : Hp) (v : V) (d : D) : Prop
  | dat : DD K G v d → BD K G H v d
  | own {a : Addr} : v = .ref a → OwnAt K G H a d → BD K G H v d
section
variable {K : PySem.W.Frag} {Wi : Wish} {F : Fr} {G G1 G2 H H1 H2 : Hp} {σ : L2.St} {E E1 E2 : Env} {as as2 : Nat → List Addr} {Q : VK} {v : V} {w : W} {d : D}
theorem WOk.rd (h : WOk K G1 E1 σ v w) (s : Same G1 G2) (st : StE K F G2 H2 σ E2 as2) (e : DL.rd E2 w = .ok d) : BD K G2 H2 v d := by
  cases w with
  | dat d' => cases e; exact .dat (DD.up s h)
  | own i =>
    rcases rd_own E2 i with ⟨d', e1, z⟩ | z
    · rw [z] at e; cases e
      obtain ⟨x, e2, a, x1, x2, x3⟩ := st.cell i _ e1
      rw [h] at e2; cases e2
      cases x2
      exact .own rfl x3
    · rw [z] at e; cases e
theorem Po.rd {g : D → Res (W × Env)} (h : Po K Wi F G σ Q ((DL.rd E w).bind g)) : ∃ d, DL.rd E w = .ok d ∧ Po K Wi F G σ Q (g d) := by
  rcases rd_no E w with ⟨d, e⟩ | e
  · rw [e] at h; exact ⟨d, e, h⟩
  · rw [e] at h; exact h.elim
theorem PoS.rd {Dn : Ends} {g : D → Res (Fl × Env)} (h : PoS K Wi F G Dn ((DL.rd E w).bind g)) : ∃ d, DL.rd E w = .ok d ∧ PoS K Wi F G Dn (g d) := by
  rcases rd_no E w with ⟨d, e⟩ | e
  · rw [e] at h; exact ⟨d, e, h⟩
  · rw [e] at h; exact h.elim
theorem Po.of {α : Type} {o : Option α} {g : α → Res (W × Env)} (h : Po K Wi F G σ Q ((ofO o).bind g)) : ∃ d, o = some d ∧ Po K Wi F G σ Q (g d) := by
  cases o with
  | none => exact h.elim
  | some d => exact ⟨d, rfl, h⟩
theorem PoS.of {α : Type} {o : Option α} {Dn : Ends} {g : α → Res (Fl × Env)} (h : PoS K Wi F G Dn ((ofO o).bind g)) : ∃ d, o = some d ∧ PoS K Wi F G Dn (g d) := by
  cases o with
  | none => exact h.elim
  | some d => exact ⟨d, rfl, h⟩
theorem Po.mono {Q' : VK} (i : ∀ v H, Q v H → Q' v H) : ∀ {r : Res (W × Env)}, Po K Wi F G σ Q r → Po K Wi F G σ Q' r
  | .ok (_, _), h => fun v G' H' as' s st wo => i _ _ (h v G' H' as' s st wo)
  | .err _ _, h => h
theorem PoA.mono {Q Q' : List V → Hp → Prop} (i : ∀ v H, Q v H → Q' v H) : ∀ {r : Res (List W × Env)}, PoA K Wi F G σ Q r → PoA K Wi F G σ Q' r
  | .ok (_, _), h => fun v G' H' as' s st wo => i _ _ (h v G' H' as' s st wo)
  | .err _ _, h => h
/-- the answer of a value's rule: d -/
def Rz (K : PySem.W.Frag) (G H : Hp) (Q : VK) (d : D) : Prop := ∀ v G' H', Al G H G' H' → DD K G' v d → Q v H'
theorem Po.rz (st : StE K F G H σ E as) (h : Po K Wi F G σ Q (.ok (.dat d, E))) : Rz K G H Q d := fun v G' H' a dd => h v G' H' as a.g (st.al a) dd
end

def OpD (K : PySem.W.Frag) (r : V → V → Hp → VK → Prop) (g : D → D → Option D) : Prop :=
  ∀ (G H : Hp) (x y : V) (a b d : D) (Q : VK), Same G H → BD K G H x a → BD K G H y b → g a b = some d → Rz K G H Q d → r x y H Q
def UnD (K : PySem.W.Frag) (r : V → Hp → VK → Prop) (g : D → Option D) : Prop :=
  ∀ (G H : Hp) (x : V) (a d : D) (Q : VK), Same G H → BD K G H x a → g a = some d → Rz K G H Q d → r x H Q

inductive BDs (K : PySem.W.Frag) (G H : Hp) : List V → List D → Prop
  | nil : BDs K G H [] []
  | cons {v : V} {vs : List V} {d : D} {ds : List D} : BD K G H v d → BDs K G H vs ds → BDs K G H (v :: vs) (d :: ds)
def CallD (K : PySem.W.Frag) (r : List V → Hp → VK → Prop) (g : List D → Option D) : Prop :=
  ∀ (G H : Hp) (xs : List V) (ds : List D) (d : D) (Q : VK), Same G H → BDs K G H xs ds → g ds = some d → Rz K G H Q d → r xs H Q
def rds (E : Env) : List W → Res (List D)
  | [] => .ok []
  | w :: ws => (rd E w).bind fun d => (rds E ws).bind fun ds => .ok (d :: ds)
section
variable {K : PySem.W.Frag} {Wi : Wish} {F : Fr} {G G1 G2 H H1 H2 : Hp} {σ : L2.St} {E E1 E2 : Env} {as as2 : Nat → List Addr} {Q : VK}
theorem rds_no : ∀ (ws : List W), (∃ ds, rds E ws = .ok ds) ∨ rds E ws = .stuck
  | [] => .inl ⟨_, rfl⟩
  | w :: ws => by
    rcases rds_no ws with ⟨ds, h⟩ | h
    · cases e : rd E w with
      | ok d => exact .inl ⟨d :: ds, by rw [rds, e, h]; rfl⟩
      | err x E' => rcases rd_no E w with ⟨d, z⟩ | z <;> rw [z] at e <;> cases e
      | stuck => exact .inr (by rw [rds, e]; rfl)
    · cases e : rd E w with
      | ok d => exact .inr (by rw [rds, e, h]; rfl)
      | err x E' => rcases rd_no E w with ⟨d, z⟩ | z <;> rw [z] at e <;> cases e
      | stuck => exact .inr (by rw [rds, e]; rfl)
theorem Po.rds {ws : List W} {g : List D → Res (W × Env)} (h : Po K Wi F G σ Q ((DL.rds E ws).bind g)) : ∃ ds, DL.rds E ws = .ok ds ∧ Po K Wi F G σ Q (g ds) := by
  rcases rds_no (E := E) ws with ⟨ds, e⟩ | e
  · rw [e] at h; exact ⟨ds, e, h⟩
  · rw [e] at h; exact h.elim
theorem WOks.rds : ∀ {vs : List V} {ws : List W} {ds : List D}, WOks K G1 E1 σ vs ws → Same G1 G2 → StE K F G2 H2 σ E2 as2 → DL.rds E2 ws = .ok ds → BDs K G2 H2 vs ds
  | [], [], ds, _, _, _, e => by cases e; exact .nil
  | v :: vs, w :: ws, ds, h, s, st, e => by
    rw [DL.rds] at e
    cases e1 : DL.rd E2 w with
    | ok d =>
      rw [e1] at e
      cases e2 : DL.rds E2 ws with
      | ok ds' =>
        rw [e2] at e; cases e
        exact .cons (h.1.rd s st e1) (WOks.rds h.2 s st e2)
      | err x E' => rw [e2] at e; cases e
      | stuck => rw [e2] at e; cases e
    | err x E' => rw [e1] at e; cases e
    | stuck => rw [e1] at e; cases e
  | [], _ :: _, _, h, _, _, _ => h.elim
  | _ :: _, [], _, h, _, _, _ => h.elim
end

section
variable {X : Cx} {Wi : Wish} {e a b : Expr} {es : List Expr} {fa fb : EF} {fs : AF} {pos : Pos}
def eC (d : D) : EF := fun E => .ok (.dat d, E)
theorem de_c {v : V} {d : D} (h : PE X e (tC v)) (hd : ∀ G, DD X.K G v d) : DE X Wi e (eC d) := by
  refine PE.imp h fun σ H Q q => ?_
  obtain ⟨F, G, E, as, st, p⟩ := q
  exact Po.rz st p v G H (Al.refl st.s1) (hd G)
theorem de_int {i : Int} {j pos} : DE X Wi (.Constant (.int i) j pos) (eC (.int i)) := de_c pe_int fun _ => .int i
theorem de_bl {i : Bool} {j pos} : DE X Wi (.Constant (.bool i) j pos) (eC (.bl i)) := de_c pe_bl fun _ => .bl i
theorem de_non {j pos} : DE X Wi (.Constant .none j pos) (eC .non) := de_c pe_non fun _ => .non
theorem de_str {x : Str} {j pos} (h : SOk x) : DE X Wi (.Constant (.str x) j pos) (eC (.str x)) := de_c pe_str fun _ => .str x h

def eV (i : Nat) : EF := fun E => match E[i]? with
  | some (.dat d) => .ok (.dat d, E)
  | some (.own _) => .ok (.own i, E)
  | some (.ob _ _ _) => .ok (.own i, E)
  | _ => .stuck
theorem de_v {i : Nat} (h : PE X e (tVar i)) : DE X Wi e (eV i) := by
  refine PE.imp h fun σ H Q q => ?_
  obtain ⟨F, G, E, as, st, p⟩ := q
  unfold eV at p
  split at p
  · rename_i d e1
    obtain ⟨v, e2, x⟩ := st.cell i _ e1
    obtain ⟨_, y, rfl, dd⟩ := x
    exact ⟨y, e2, Po.rz st p y G H (Al.refl st.s1) dd⟩
  · rename_i d e1
    obtain ⟨v, e2, x⟩ := st.cell i _ e1
    obtain ⟨a, _, rfl, dd⟩ := x
    exact ⟨_, e2, p _ G H as (Same.refl _) st e2⟩
  · rename_i b C fs e1
    obtain ⟨v, e2, x⟩ := st.cell i _ e1
    obtain ⟨a, ls, _, rfl, dd⟩ := x
    exact ⟨_, e2, p _ G H as (Same.refl _) st e2⟩
  · exact p.elim

def eOp (g : D → D → Option D) (fa fb : EF) : EF := fun E => (fa E).bind fun p => (fb p.2).bind fun q => (rd q.2 p.1).bind fun x => (rd q.2 q.1).bind fun y => (ofO (g x y)).bind fun d => .ok (.dat d, q.2)
theorem tOp_of {r : V → V → Hp → VK → Prop} {g : D → D → Option D} (hg : OpD X.K r g) : ∀ σ H Q, tE X.K Wi (eOp g fa fb) σ H Q → tOp r (tE X.K Wi fa) (tE X.K Wi fb) σ H Q := by
  intro σ H Q q
  obtain ⟨F, G, E, as, st, p⟩ := q
  refine ⟨F, G, E, as, st, Po.mono (fun x H1 m => ?_) (Po.bind p)⟩
  obtain ⟨w1, G1, E1, as1, s1, st1, wo1, p1⟩ := m
  refine ⟨F, G1, E1, as1, st1, Po.mono (fun y H2 m => ?_) (Po.bind p1)⟩
  obtain ⟨w2, G2, E2, as2, s2, st2, wo2, p2⟩ := m
  obtain ⟨d1, e1, p2⟩ := Po.rd p2
  obtain ⟨d2, e2, p2⟩ := Po.rd p2
  obtain ⟨d, e3, p2⟩ := Po.of p2
  exact hg G2 H2 x y d1 d2 d Q st2.s1 (wo1.rd s2 st2 e1) (wo2.rd (Same.refl _) st2 e2) e3 (Po.rz st2 p2)
theorem de_op {op : Operator} {r : V → V → Hp → VK → Prop} {g : D → D → Option D} (ho : OpR X (binaryOp op) r) (hg : OpD X.K r g) (ha : DE X Wi a fa) (hb : DE X Wi b fb) : DE X Wi (.BinOp a op b pos) (eOp g fa fb) :=
  PE.imp (pe_op ho ha hb) (tOp_of hg)
theorem de_cmp {op : CmpOp} {r : V → V → Hp → VK → Prop} {g : D → D → Option D} (ho : OpR X (compareOp op) r) (hg : OpD X.K r g) (ha : DE X Wi a fa) (hb : DE X Wi b fb) (hm : behindInMarks op b = false) : DE X Wi (.Compare a [op] [b] pos) (eOp g fa fb) :=
  PE.imp (pe_cmpR ho ha hb hm) (tOp_of hg)
def eUn (g : D → Option D) (fa : EF) : EF := fun E => (fa E).bind fun p => (rd p.2 p.1).bind fun x => (ofO (g x)).bind fun d => .ok (.dat d, p.2)
theorem tUn_of {r : V → Hp → VK → Prop} {g : D → Option D} (hg : UnD X.K r g) : ∀ σ H Q, tE X.K Wi (eUn g fa) σ H Q → tUn r (tE X.K Wi fa) σ H Q := by
  intro σ H Q q
  obtain ⟨F, G, E, as, st, p⟩ := q
  refine ⟨F, G, E, as, st, Po.mono (fun x H1 m => ?_) (Po.bind p)⟩
  obtain ⟨w1, G1, E1, as1, s1, st1, wo1, p1⟩ := m
  obtain ⟨d1, e1, p1⟩ := Po.rd p1
  obtain ⟨d, e3, p1⟩ := Po.of p1
  exact hg G1 H1 x d1 d Q st1.s1 (wo1.rd (Same.refl _) st1 e1) e3 (Po.rz st1 p1)
theorem de_un {op : UnaryOp} {r : V → Hp → VK → Prop} {g : D → Option D} (ho : UnR X (unaryOp op) r) (hg : UnD X.K r g) (ha : DE X Wi a fa) : DE X Wi (.UnaryOp op a pos) (eUn g fa) := PE.imp (pe_un ho ha) (tUn_of hg)

def aN : AF := fun E => .ok ([], E)
def aC (f : EF) (g : AF) : AF := fun E => (f E).bind fun p => (g p.2).bind fun q => .ok (p.1 :: q.1, q.2)
end
end DL
namespace DL
open PySem PySem.Spec PyProof.Rows L2

def PoN (K : PySem.W.Frag) (Wi : Wish) (F : Fr) (G : Hp) (σ : L2.St) (Q : VK) : Res (D × Env) → Prop
  | .ok (d, E') => ∀ p G' H' as', Same G G' → StE K F G' H' σ E' as' → G' p = none → F.H0 p = none → (∀ j, p ∉ as' j) → OwnAt K G' H' p d → Q (.ref p) H'
  | .err x E' => ∀ c dx G' H' as', Same G G' → StE K F G' H' σ E' as' → ExOk K G' x c dx → Wi σ c dx H'
  | .stuck => False
abbrev NF := Env → Res (D × Env)
def tN (K : PySem.W.Frag) (Wi : Wish) (f : NF) : TE := fun σ H Q => ∃ F G E as, StE K F G H σ E as ∧ PoN K Wi F G σ Q (f E)
abbrev DN (X : Cx) (Wi : Wish) (e : Expr) (f : NF) : Prop := PE X e (tN X.K Wi f)
/-- as data -/
def eN (f : NF) : EF := fun E => (f E).bind fun p => .ok (.dat p.1, p.2)

section
variable {K : PySem.W.Frag} {Wi : Wish} {F : Fr} {G G1 G2 H H1 H2 : Hp} {σ : L2.St} {E E1 E2 : Env} {as as2 : Nat → List Addr} {Q : VK} {v : V} {w : W} {d : D}
theorem StE.freezeN (st : StE K F G H σ E as) {p : Addr} (gp : G p = none) (fp : F.H0 p = none) (np : ∀ j, p ∉ as j) (o : OwnAt K G H p d) : ∃ G', Same G G' ∧ DD K G' (.ref p) d ∧ StE K F G' H σ E as := by
  obtain ⟨u, hu⟩ := o.hasO
  have sg : Same G (upd G p u) := fun b z q => by rw [upd_ne (ne_of_none q gp)]; exact q
  refine ⟨upd G p u, sg, ?_, st.len, st.s0.trans sg, fun b z q => ?_, st.keep, st.dom, fun b u h h0 ht x => ?_, fun i c e => ?_, st.sep, fun i b hb => ⟨?_, (st.off i b hb).2⟩, st.tail⟩
  · cases d with
    | lst ds => obtain ⟨vs, e1, z, r⟩ := o; rw [hu] at e1; cases e1; exact .lst upd_same z (r.up sg)
    | dic kd => obtain ⟨vs, e1, r⟩ := o; rw [hu] at e1; cases e1; exact .dic upd_same (r.up sg)
    | dit kd => obtain ⟨vs, e1, r⟩ := o; rw [hu] at e1; cases e1; exact .dit upd_same (r.up sg)
    | dix w kd => obtain ⟨xs, ep, e1, z, n, r⟩ := o; rw [hu] at e1; have e1 := Option.some.inj e1; subst e1; exact .dix upd_same z n (r.up sg)
    | exn _ _ => exact o.elim
    | obj C fd => obtain ⟨dx, vs, e1, r⟩ := o; rw [hu] at e1; cases e1; exact .obj upd_same (r.up sg)
    | non => exact o.elim
    | bl _ => exact o.elim
    | int _ => exact o.elim
    | str _ => exact o.elim
    | tup _ => exact o.elim
  · by_cases hb : b = p
    · subst hb; rw [upd_same] at q; cases q; exact hu
    · rw [upd_ne hb] at q; exact st.s1 b z q
  · by_cases hb : b = p
    · rw [hb, fp] at h0; cases h0
    · rw [upd_ne hb] at h; exact st.priv b u h h0 ht x
  · obtain ⟨v, e1, x⟩ := st.cell i c e
    exact ⟨v, e1, x.up sg fun _ _ _ q => q⟩
  · rw [upd_ne (fun (z : b = p) => np i (by rw [← z]; exact hb))]; exact (st.off i b hb).1
theorem PoN.po {r : Res (D × Env)} (h : Po K Wi F G σ Q (r.bind fun p => .ok (.dat p.1, p.2))) : PoN K Wi F G σ Q r := by
  match r, h with
  | .ok (d, E'), h =>
    intro p G' H' as' s st gp fp np o
    obtain ⟨G2, s2, dd, st2⟩ := st.freezeN gp fp np o
    exact h _ G2 H' as' (s.trans s2) st2 dd
  | .err x E', h => exact h
/-- the answer of a rule that makes a list or a dict -/
def RzN (K : PySem.W.Frag) (G H : Hp) (Q : VK) (d : D) : Prop := ∀ p H', H p = none → Same H H' → OwnAt K G H' p d → Q (.ref p) H'
theorem OwnAt.data {p : Addr} {u : HO} (o : OwnAt K G H p d) (hu : H p = some u) (gp : G p = none) : DD K (upd G p u) (.ref p) d := by
  have sg : Same G (upd G p u) := fun b z q => by rw [upd_ne (ne_of_none q gp)]; exact q
  cases d with
  | lst ds => obtain ⟨vs, e1, z, r⟩ := o; rw [hu] at e1; cases e1; exact .lst upd_same z (r.up sg)
  | dic kd => obtain ⟨vs, e1, r⟩ := o; rw [hu] at e1; cases e1; exact .dic upd_same (r.up sg)
  | dit kd => obtain ⟨vs, e1, r⟩ := o; rw [hu] at e1; cases e1; exact .dit upd_same (r.up sg)
  | dix w kd => obtain ⟨xs, ep, e1, z, n, r⟩ := o; rw [hu] at e1; have e1 := Option.some.inj e1; subst e1; exact .dix upd_same z n (r.up sg)
  | exn _ _ => exact o.elim
  | obj C fd => obtain ⟨dx, vs, e1, r⟩ := o; rw [hu] at e1; cases e1; exact .obj upd_same (r.up sg)
  | non => exact o.elim
  | bl _ => exact o.elim
  | int _ => exact o.elim
  | str _ => exact o.elim
  | tup _ => exact o.elim
theorem Al.fresh {p : Addr} {u : HO} (s : Same G H) (hp : H p = none) (h : Same H H2) (e : H2 p = some u) : Al G H (upd G p u) H2 := by
  have gp : G p = none := s.free hp
  refine ⟨fun b z q => ?_, h, fun b z q => ?_, fun b o hb e2 q => ?_⟩
  · rw [upd_ne (ne_of_none q gp)]; exact q
  · by_cases hb : b = p
    · subst hb; rw [upd_same] at q; cases q; exact e
    · rw [upd_ne hb] at q; exact h b z (s b z q)
  · by_cases hb' : b = p
    · rw [hb', hp] at q; cases q
    · rw [upd_ne hb'] at hb; exact absurd e2 hb
theorem Rz.new (s : Same G H) (h : Rz K G H Q d) : RzN K G H Q d := fun p H' hp hs o => by
  obtain ⟨u, hu⟩ := o.hasO
  exact h _ _ _ (Al.fresh s hp hs hu) (o.data hu (s.free hp))
theorem PoN.rz (st : StE K F G H σ E as) (h : PoN K Wi F G σ Q (.ok (d, E))) : RzN K G H Q d := fun p H' hp hs o => by
  have a : Al G H G H' := Al.grow st.s1 hs
  refine h p G H' as (Same.refl _) (st.al a) (st.s1.free hp) (st.dom p hp) (fun j hj => ?_) o
  obtain ⟨u, q⟩ := st.there hj
  rw [hp] at q; cases q
theorem PoN.up {r : Res (D × Env)} (e : Same G G1) (h : PoN K Wi F G σ Q r) : PoN K Wi F G1 σ Q r := by
  match r, h with
  | .ok (w, E'), h => exact fun v G' H' as' s => h v G' H' as' (e.trans s)
  | .err x E', h => exact fun c dx G' H' as' s => h c dx G' H' as' (e.trans s)
theorem Po.bindN {r : Res (W × Env)} {g : W × Env → Res (D × Env)} (h : PoN K Wi F G σ Q (r.bind g)) :
    Po K Wi F G σ (Mid K F G σ fun _ w G1 _ E1 _ => PoN K Wi F G1 σ Q (g (w, E1))) r := by
  match r, h with
  | .ok (w, E'), h => exact fun v G' H' as' s st wo => ⟨w, G', E', as', s, st, wo, PoN.up s h⟩
  | .err x E', h => exact h
theorem PoA.bindN {r : Res (List W × Env)} {g : List W × Env → Res (D × Env)} (h : PoN K Wi F G σ Q (r.bind g)) :
    PoA K Wi F G σ (MidA K F G σ fun _ ws G1 _ E1 _ => PoN K Wi F G1 σ Q (g (ws, E1))) r := by
  match r, h with
  | .ok (w, E'), h => exact fun v G' H' as' s st wo => ⟨w, G', E', as', s, st, wo, PoN.up s h⟩
  | .err x E', h => exact h
theorem PoN.rd {g : D → Res (D × Env)} (h : PoN K Wi F G σ Q ((DL.rd E w).bind g)) : ∃ d, DL.rd E w = .ok d ∧ PoN K Wi F G σ Q (g d) := by
  rcases rd_no E w with ⟨d, e⟩ | e
  · rw [e] at h; exact ⟨d, e, h⟩
  · rw [e] at h; exact h.elim
theorem PoN.rds {ws : List W} {g : List D → Res (D × Env)} (h : PoN K Wi F G σ Q ((DL.rds E ws).bind g)) : ∃ ds, DL.rds E ws = .ok ds ∧ PoN K Wi F G σ Q (g ds) := by
  rcases rds_no (E := E) ws with ⟨ds, e⟩ | e
  · rw [e] at h; exact ⟨ds, e, h⟩
  · rw [e] at h; exact h.elim
theorem PoN.of {α : Type} {o : Option α} {g : α → Res (D × Env)} (h : PoN K Wi F G σ Q ((ofO o).bind g)) : ∃ d, o = some d ∧ PoN K Wi F G σ Q (g d) := by
  cases o with
  | none => exact h.elim
  | some d => exact ⟨d, rfl, h⟩
end
section
variable {X : Cx} {Wi : Wish} {e a b : Expr} {es : List Expr} {fa fb : EF} {fs : AF} {f : NF} {p pos : Pos} {x : Str}
theorem dn_de (h : DN X Wi e f) : DE X Wi e (eN f) := PE.imp h fun σ H Q q => by
  obtain ⟨F, G, E, as, st, p⟩ := q
  exact ⟨F, G, E, as, st, PoN.po p⟩

theorem da_nil : DA X Wi [] aN := by
  refine PA.imp pa_nil fun σ H Q q => ?_
  obtain ⟨F, G, E, as, st, p⟩ := q
  exact p [] G H as (Same.refl _) st True.intro
theorem WOk.up {K : PySem.W.Frag} {G1 G2 : Hp} {E1 E2 : Env} {σ : L2.St} {v : V} {w : W} (s : Same G1 G2) (h : WOk K G1 E1 σ v w) : WOk K G2 E2 σ v w := by
  cases w with
  | dat d => exact DD.up s h
  | own i => exact h
theorem da_cons (ha : DE X Wi a fa) (hr : DA X Wi es fs) (hs : starEach (a :: es) X.env = (false, eval a X.env) :: starEach es X.env := by rfl) : DA X Wi (a :: es) (aC fa fs) := by
  refine PA.imp (pa_cons ha hr hs) fun σ H Q q => ?_
  obtain ⟨F, G, E, as, st, p⟩ := q
  refine ⟨F, G, E, as, st, Po.mono (fun x H1 m => ?_) (Po.bindA p)⟩
  obtain ⟨w1, G1, E1, as1, s1, st1, wo1, p1⟩ := m
  refine ⟨F, G1, E1, as1, st1, ?_⟩
  generalize fs E1 = r at p1 ⊢
  match r, p1 with
  | .ok (ws, E2), p1 => exact fun vs G2 H2 as2 s2 st2 wo2 => p1 (x :: vs) G2 H2 as2 s2 st2 ⟨WOk.up s2 wo1, wo2⟩
  | .err y E2, p1 => exact p1

def eCall (g : List D → Option D) (fs : AF) : EF := fun E => (fs E).bind fun p => (rds p.2 p.1).bind fun ds => (ofO (g ds)).bind fun d => .ok (.dat d, p.2)
theorem tCB_of {r : List V → Hp → VK → Prop} {g : List D → Option D} (hg : CallD X.K r g) : ∀ σ H Q, tE X.K Wi (eCall g fs) σ H Q → tCB r (tA X.K Wi fs) σ H Q := by
  intro σ H Q q
  obtain ⟨F, G, E, as, st, p⟩ := q
  refine ⟨F, G, E, as, st, PoA.mono (fun x H1 m => ?_) (PoA.bind p)⟩
  obtain ⟨ws, G1, E1, as1, s1, st1, wo1, p1⟩ := m
  obtain ⟨ds, e1, p1⟩ := Po.rds p1
  obtain ⟨d, e3, p1⟩ := Po.of p1
  exact hg G1 H1 x ds d Q st1.s1 (wo1.rds (Same.refl _) st1 e1) e3 (Po.rz st1 p1)
theorem de_callB {id : String} {r : List V → Hp → VK → Prop} {g : List D → Option D} (hc : CallR X (.builtin id) r) (hd : CallD X.K r g) (hg : Gl X x) (hm : X.mg x = none) (hv : bootBuiltins x = some (.builtin id)) (ha : DA X Wi (a :: es) fs) (hn : x ≠ "__name__" := by decide) (hdb : (x == ("__debug__" : Str)) = false := by decide)
    (he : starEach (a :: es) X.env = (false, eval a X.env) :: starEach es X.env := by rfl) (hpl : (backTo pos (starEach es X.env)).any (·.1) = false := by rfl) : DE X Wi (.Call (.Name x p) (a :: es) [] pos) (eCall g fs) :=
  PE.imp (pe_callB hc hg hm hv ha hn hdb he hpl) (tCB_of hd)
def dats : List W → Option (List D)
  | [] => some []
  | .dat d :: ws => (dats ws).map (d :: ·)
  | .own _ :: _ => none
theorem dats_ok {K : PySem.W.Frag} {G : Hp} {E : Env} {σ : L2.St} : ∀ {vs : List V} {ws : List W} {ds : List D}, WOks K G E σ vs ws → dats ws = some ds → DDs K G vs ds
  | [], [], _, _, e => by cases e; exact .nil
  | v :: vs, .dat d :: ws, ds, h, e => by
    rw [dats] at e
    cases q : dats ws with
    | none => rw [q] at e; cases e
    | some r => rw [q] at e; cases e; exact .cons h.1 (dats_ok h.2 q)
  | v :: vs, .own _ :: ws, _, _, e => by cases e
  | [], _ :: _, _, h, _ => h.elim
  | _ :: _, [], _, h, _ => h.elim
def small {α : Type} (l : List α) (r : Option D) : Option D := if l.length ≤ 1000 then r else none
theorem small_some {α : Type} {l : List α} {r : Option D} {d : D} (h : small l r = some d) : l.length ≤ sizeLine ∧ r = some d := by
  unfold small at h
  split at h
  · rename_i q; exact ⟨by rw [sizeLine_eq]; omega, h⟩
  · cases h
def eTup (fs : AF) : EF := fun E => (fs E).bind fun p => (ofO (dats p.1)).bind fun ds => (ofO (small ds (some (.tup ds)))).bind fun d => .ok (.dat d, p.2)
def nLst (fs : AF) : NF := fun E => (fs E).bind fun p => (ofO (dats p.1)).bind fun ds => (ofO (small ds (some (.lst ds)))).bind fun d => .ok (d, p.2)
theorem de_tup {x1} (h : DA X Wi es fs) : DE X Wi (.Tuple es x1 pos) (eTup fs) := by
  refine PE.imp (pe_tup h) fun σ H Q q => ?_
  obtain ⟨F, G, E, as, st, p⟩ := q
  refine ⟨F, G, E, as, st, PoA.mono (fun vs H1 m => ?_) (PoA.bind p)⟩
  obtain ⟨ws, G1, E1, as1, s1, st1, wo1, p1⟩ := m
  obtain ⟨ds, e1, p1⟩ := Po.of p1
  obtain ⟨d, e2, p1⟩ := Po.of p1
  obtain ⟨hz, e3⟩ := small_some e2
  cases e3
  have dd := dats_ok wo1 e1
  have hz : vs.length ≤ sizeLine := by rw [dd.len]; exact hz
  refine ⟨hz, fun q hq => Po.rz st1 p1 _ _ _ (Al.one st1.s1 hq) ?_⟩
  exact .tup upd_same hz (dd.up (Al.one (o := .tup vs) st1.s1 hq).g)
theorem dn_lst (h : DA X Wi es fs) : DN X Wi (.List es pos) (nLst fs) := by
  refine PE.imp (pe_lst h) fun σ H Q q => ?_
  obtain ⟨F, G, E, as, st, p⟩ := q
  refine ⟨F, G, E, as, st, PoA.mono (fun vs H1 m => ?_) (PoA.bindN p)⟩
  obtain ⟨ws, G1, E1, as1, s1, st1, wo1, p1⟩ := m
  obtain ⟨ds, e1, p1⟩ := PoN.of p1
  obtain ⟨d, e2, p1⟩ := PoN.of p1
  obtain ⟨hz, e3⟩ := small_some e2
  cases e3
  have dd := dats_ok wo1 e1
  have hz : vs.length ≤ sizeLine := by rw [dd.len]; exact hz
  refine ⟨hz, fun q hq => PoN.rz st1 p1 q _ hq (fun b u z => ?_) ⟨vs, upd_same, hz, dd⟩⟩
  rw [upd_ne (ne_of_none z hq)]; exact z

theorem de_ix {r : V → V → Hp → VK → Prop} {g : D → D → Option D} (hr : IxR X r) (hg : OpD X.K r g) (ha : DE X Wi a fa) (hb : DE X Wi b fb) (hs : PlainIx b) : DE X Wi (.Subscript a b pos) (eOp g fa fb) :=
  PE.imp (pe_ix hr ha hb hs) (tOp_of hg)
end

/-- a slice's end -/
abbrev OF := Env → Res (Option Int × Env)
def PoO (K : PySem.W.Frag) (Wi : Wish) (F : Fr) (G : Hp) (σ : L2.St) (Q : Option Int → Hp → Prop) : Res (Option Int × Env) → Prop
  | .ok (o, E') => ∀ G' H' as', Same G G' → StE K F G' H' σ E' as' → Q o H'
  | .err x E' => ∀ c dx G' H' as', Same G G' → StE K F G' H' σ E' as' → ExOk K G' x c dx → Wi σ c dx H'
  | .stuck => False
theorem PO.imp {X : Cx} {e : Option Expr} {t t' : TO} (h : PO X e t) (i : ∀ σ H Q, t' σ H Q → t σ H Q) : PO X e t' :=
  ⟨fun pins s σ H Q I q => h.run pins s σ H Q I (i σ H Q q)⟩
section
variable {X : Cx} {Wi : Wish} {e a b : Expr} {fa fb : EF} {p pos p2 : Pos} {lo hi : Option Expr} {ol oh : OF}
def MidO (K : PySem.W.Frag) (F : Fr) (G : Hp) (σ : L2.St) (R : Option Int → Hp → Hp → Env → (Nat → List Addr) → Prop) (o : Option Int) (H1 : Hp) : Prop :=
  ∃ G1 E1 as1, Same G G1 ∧ StE K F G1 H1 σ E1 as1 ∧ R o G1 H1 E1 as1
theorem PoO.bind {K : PySem.W.Frag} {F : Fr} {G : Hp} {σ : L2.St} {Q : VK} {r : Res (Option Int × Env)} {g : Option Int × Env → Res (W × Env)} (h : Po K Wi F G σ Q (r.bind g)) :
    PoO K Wi F G σ (MidO K F G σ fun o G1 _ E1 _ => Po K Wi F G1 σ Q (g (o, E1))) r := by
  match r, h with
  | .ok (w, E'), h => exact fun G' H' as' s st => ⟨G', E', as', s, st, Po.up s h⟩
  | .err x E', h => exact h
theorem PoO.bindN {K : PySem.W.Frag} {F : Fr} {G : Hp} {σ : L2.St} {Q : VK} {r : Res (Option Int × Env)} {g : Option Int × Env → Res (D × Env)} (h : PoN K Wi F G σ Q (r.bind g)) :
    PoO K Wi F G σ (MidO K F G σ fun o G1 _ E1 _ => PoN K Wi F G1 σ Q (g (o, E1))) r := by
  match r, h with
  | .ok (w, E'), h => exact fun G' H' as' s st => ⟨G', E', as', s, st, PoN.up s h⟩
  | .err x E', h => exact h
theorem PoO.mono {K : PySem.W.Frag} {F : Fr} {G : Hp} {σ : L2.St} {Q Q' : Option Int → Hp → Prop} (i : ∀ v H, Q v H → Q' v H) : ∀ {r : Res (Option Int × Env)}, PoO K Wi F G σ Q r → PoO K Wi F G σ Q' r
  | .ok (_, _), h => fun G' H' as' s st => i _ _ (h G' H' as' s st)
  | .err _ _, h => h
end

abbrev BF := Env → Res (Bool × Env)
def PoT (K : PySem.W.Frag) (Wi : Wish) (F : Fr) (G : Hp) (σ : L2.St) (Q : Bool → Hp → Prop) : Res (Bool × Env) → Prop
  | .ok (o, E') => ∀ G' H' as', Same G G' → StE K F G' H' σ E' as' → Q o H'
  | .err x E' => ∀ c dx G' H' as', Same G G' → StE K F G' H' σ E' as' → ExOk K G' x c dx → Wi σ c dx H'
  | .stuck => False
def tT (K : PySem.W.Frag) (Wi : Wish) (f : BF) : TT := fun σ H Q => ∃ F G E as, StE K F G H σ E as ∧ PoT K Wi F G σ Q (f E)
abbrev DT (X : Cx) (Wi : Wish) (e : Expr) (f : BF) : Prop := PT X e (tT X.K Wi f)
abbrev DW (X : Cx) (Wi : Wish) (e : Expr) (f : BF) : Prop := PW X e (tT X.K Wi f)
theorem PW.imp {X : Cx} {e : Expr} {t t' : TT} (h : PW X e t) (i : ∀ σ H Q, t' σ H Q → t σ H Q) : PW X e t' :=
  ⟨fun w pins s σ H Q I q => h.run w pins s σ H Q I (i σ H Q q)⟩
def asB : D → Option Bool
  | .bl b => some b
  | _ => none
def MidT (K : PySem.W.Frag) (F : Fr) (G : Hp) (σ : L2.St) (R : Bool → Hp → Hp → Env → (Nat → List Addr) → Prop) (o : Bool) (H1 : Hp) : Prop :=
  ∃ G1 E1 as1, Same G G1 ∧ StE K F G1 H1 σ E1 as1 ∧ R o G1 H1 E1 as1
section
variable {K : PySem.W.Frag} {Wi : Wish} {F : Fr} {G G1 H : Hp} {σ : L2.St} {Q : Bool → Hp → Prop}
theorem PoT.up {r : Res (Bool × Env)} (e : Same G G1) (h : PoT K Wi F G σ Q r) : PoT K Wi F G1 σ Q r := by
  match r, h with
  | .ok (w, E'), h => exact fun G' H' as' s => h G' H' as' (e.trans s)
  | .err x E', h => exact fun c dx G' H' as' s => h c dx G' H' as' (e.trans s)
theorem PoT.mono {Q' : Bool → Hp → Prop} (i : ∀ v H, Q v H → Q' v H) : ∀ {r : Res (Bool × Env)}, PoT K Wi F G σ Q r → PoT K Wi F G σ Q' r
  | .ok (_, _), h => fun G' H' as' s st => i _ _ (h G' H' as' s st)
  | .err _ _, h => h
theorem PoT.bind {r : Res (Bool × Env)} {g : Bool × Env → Res (Bool × Env)} (h : PoT K Wi F G σ Q (r.bind g)) :
    PoT K Wi F G σ (MidT K F G σ fun o G1 _ E1 _ => PoT K Wi F G1 σ Q (g (o, E1))) r := by
  match r, h with
  | .ok (w, E'), h => exact fun G' H' as' s st => ⟨G', E', as', s, st, PoT.up s h⟩
  | .err x E', h => exact h
theorem PoT.bindE {QE : VK} {r : Res (Bool × Env)} {g : Bool × Env → Res (W × Env)} (h : Po K Wi F G σ QE (r.bind g)) :
    PoT K Wi F G σ (MidT K F G σ fun o G1 _ E1 _ => Po K Wi F G1 σ QE (g (o, E1))) r := by
  match r, h with
  | .ok (w, E'), h => exact fun G' H' as' s st => ⟨G', E', as', s, st, Po.up s h⟩
  | .err x E', h => exact h
theorem PoT.bindS {Dn : Ends} {r : Res (Bool × Env)} {g : Bool × Env → Res (Fl × Env)} (h : PoS K Wi F G Dn (r.bind g)) :
    PoT K Wi F G σ (MidT K F G σ fun o G1 _ E1 _ => PoS K Wi F G1 Dn (g (o, E1))) r := by
  match r, h with
  | .ok (w, E'), h => exact fun G' H' as' s st => ⟨G', E', as', s, st, PoS.up s h⟩
  | .err x E', h => exact fun c dx G' H' as' s st xo => h c dx σ G' H' as' s st xo
theorem Po.bindT {r : Res (W × Env)} {g : W × Env → Res (Bool × Env)} (h : PoT K Wi F G σ Q (r.bind g)) :
    Po K Wi F G σ (Mid K F G σ fun _ w G1 _ E1 _ => PoT K Wi F G1 σ Q (g (w, E1))) r := by
  match r, h with
  | .ok (w, E'), h => exact fun v G' H' as' s st wo => ⟨w, G', E', as', s, st, wo, PoT.up s h⟩
  | .err x E', h => exact h
end
/-- a value that is a bool -/
def tB (f : EF) : BF := fun E => (f E).bind fun p => (rd p.2 p.1).bind fun d => (ofO (asB d)).bind fun b => .ok (b, p.2)
def tNt (f : BF) : BF := fun E => (f E).bind fun p => .ok (!p.1, p.2)
def tOr' (f g : BF) : BF := fun E => (f E).bind fun p => if p.1 = true then .ok (true, p.2) else g p.2
def eIf (c : BF) (f g : EF) : EF := fun E => (c E).bind fun p => if p.1 = true then f p.2 else g p.2
section
variable {X : Cx} {Wi : Wish} {e a b c : Expr} {fa fb : EF} {ta tb : BF} {rest : List Expr} {pos : Pos}
theorem tB_of : ∀ σ H Q, tT X.K Wi (tB fa) σ H Q → tE X.K Wi fa σ H fun x H1 => ∃ k, x = .bl k ∧ Q k H1 := by
  intro σ H Q q
  obtain ⟨F, G, E, as, st, p⟩ := q
  refine ⟨F, G, E, as, st, Po.mono (fun x H1 m => ?_) (Po.bindT p)⟩
  obtain ⟨w1, G1, E1, as1, s1, st1, wo1, p1⟩ := m
  rcases rd_no E1 w1 with ⟨d, e1⟩ | e1
  · have b1 := wo1.rd (Same.refl _) st1 e1
    rw [e1] at p1
    cases d with
    | bl k =>
      cases b1 with
      | dat dd => cases dd; exact ⟨k, rfl, p1 G1 H1 as1 (Same.refl _) st1⟩
      | own _ o => exact o.elim
    | _ => exact p1.elim
  · rw [e1] at p1; exact p1.elim
theorem dt_val (h : DE X Wi e fa) (he : ∀ whole, isTrue e X.env whole = (do let v ← whole; standAt e.pos; holding [v] (truthy v)) := by intro _; rfl) : DT X Wi e (tB fa) :=
  PT.imp (pt_val h he) tB_of
theorem dt_cmp {op : CmpOp} {r : V → V → Hp → VK → Prop} {g : D → D → Option D} (ho : OpR X (compareOp op) r) (hg : OpD X.K r g) (ha : DE X Wi a fa) (hb : DE X Wi b fb) (hm : behindInMarks op b = false) : DT X Wi (.Compare a [op] [b] pos) (tB (eOp g fa fb)) :=
  PT.imp (pt_cmpR ho ha hb hm) fun σ H Q q => tOp_of hg σ H _ (tB_of σ H Q q)
theorem dt_not (h : DT X Wi a ta) : DT X Wi (.UnaryOp .Not a pos) (tNt ta) := PT.imp (pt_not h) fun σ H Q q => by
  obtain ⟨F, G, E, as, st, p⟩ := q
  refine ⟨F, G, E, as, st, PoT.mono (fun x H1 m => ?_) (PoT.bind p)⟩
  obtain ⟨G1, E1, as1, s1, st1, p1⟩ := m
  exact p1 G1 H1 as1 (Same.refl _) st1
theorem dw_one {op} (h : DT X Wi a ta) : DW X Wi (.BoolOp op [a] pos) ta := by
  cases op with
  | And => exact pw_and1 h
  | Or => exact pw_or1 h
theorem dw_or (h : DT X Wi a ta) (hb : DW X Wi (.BoolOp .Or (b :: rest) pos) tb) : DW X Wi (.BoolOp .Or (a :: b :: rest) pos) (tOr' ta tb) := PW.imp (pw_or h hb) fun σ H Q q => by
  obtain ⟨F, G, E, as, st, p⟩ := q
  refine ⟨F, G, E, as, st, PoT.mono (fun x H1 m => ?_) (PoT.bind p)⟩
  obtain ⟨G1, E1, as1, s1, st1, p1⟩ := m
  cases x with
  | false => exact ⟨F, G1, E1, as1, st1, p1⟩
  | true => exact p1 G1 H1 as1 (Same.refl _) st1
theorem de_ifx (hc : DT X Wi c ta) (ha : DE X Wi a fa) (hb : DE X Wi b fb) : DE X Wi (.IfExp c a b pos) (eIf ta fa fb) := PE.imp (pe_ifExp hc ha hb) fun σ H Q q => by
  obtain ⟨F, G, E, as, st, p⟩ := q
  refine ⟨F, G, E, as, st, PoT.mono (fun x H1 m => ?_) (PoT.bindE p)⟩
  obtain ⟨G1, E1, as1, s1, st1, p1⟩ := m
  cases x with
  | true => exact ⟨F, G1, E1, as1, st1, p1⟩
  | false => exact ⟨F, G1, E1, as1, st1, p1⟩
end
end DL
namespace DL
open PySem PySem.Spec PyProof.Rows L2

def sNx : SF := fun E => .ok (.nx, E)
def sSeq (f g : SF) : SF := fun E => (f E).bind fun p => match p.1 with
  | .nx => g p.2
  | fl => .ok (fl, p.2)
def sEx (f : EF) : SF := fun E => (f E).bind fun p => .ok (.nx, p.2)
/-- a value handed back: the own object of a slot becomes data -/
def sRet (f : EF) : SF := fun E => (f E).bind fun p => match p.1 with
  | .dat d => .ok (.rt d, p.2)
  | .own i => match p.2[i]? with
    | some (.own d) => .ok (.rt d, p.2.set i (.dat d))
    | _ => .stuck
def sIf (c : BF) (f g : SF) : SF := fun E => (c E).bind fun p => if p.1 = true then f p.2 else g p.2
def sSet (i : Nat) (f : EF) : SF := fun E => (f E).bind fun p => match p.1 with
  | .dat d => .ok (.nx, p.2.set i (.dat d))
  | .own _ => .stuck
section
variable {X : Cx} {Wi : Wish} {e : Expr} {st : Stmt} {rest bs cs : List Stmt} {f g : SF} {fe : EF} {c : Expr} {fc : BF} {pos pos' : Pos}
theorem dss_nil : DSs X Wi [] sNx := PSs.imp pss_nil fun D σ H q => by
  obtain ⟨F, G, E, as, st, p⟩ := q
  exact p σ G H as (Same.refl _) st
theorem sSeq_of : ∀ D σ H, tS X.K Wi (sSeq f g) D σ H → tSeq (tS X.K Wi f) (tS X.K Wi g) D σ H := by
  intro D σ H q
  obtain ⟨F, G, E, as, st, p⟩ := q
  refine ⟨F, G, E, as, st, ?_⟩
  have p : PoS X.K Wi F G D ((f E).bind fun p => match p.1 with
    | .nx => g p.2
    | fl => .ok (fl, p.2)) := p
  generalize f E = r at p ⊢
  match r, p with
  | .ok (.nx, E1), p => exact fun σ' G' H' as' s st' => ⟨F, G', E1, as', st', PoS.up s p⟩
  | .ok (.bk, E1), p => exact p
  | .ok (.ct, E1), p => exact p
  | .ok (.rt d, E1), p => exact p
  | .err x E1, p => exact p
theorem dss_cons (h1 : DS X Wi st f) (h2 : DSs X Wi rest g) : DSs X Wi (st :: rest) (sSeq f g) := PSs.imp (pss_cons h1 h2) sSeq_of
theorem dss_one (h1 : DS X Wi st f) : DSs X Wi [st] f := pss_one h1
theorem ds_expr (he : DE X Wi e fe) (hs : swapsWith e none pos.line X.env = pure false := by rfl) : DS X Wi (.Expr e pos) (sEx fe) := PS.imp (ps_expr he hs) fun D σ H q => by
  obtain ⟨F, G, E, as, st, p⟩ := q
  refine ⟨F, G, E, as, st, Po.mono (fun x H1 m => ?_) (Po.bindS p)⟩
  obtain ⟨w1, G1, E1, as1, s1, st1, wo1, p1⟩ := m
  exact p1 σ G1 H1 as1 (Same.refl _) st1
theorem ds_ret (he : DE X Wi e fe) : DS X Wi (.Return (some e) pos) (sRet fe) := PS.imp (ps_ret he) fun D σ H q => by
  obtain ⟨F, G, E, as, st, p⟩ := q
  refine ⟨F, G, E, as, st, Po.mono (fun x H1 m => ?_) (Po.bindS p)⟩
  obtain ⟨w1, G1, E1, as1, s1, st1, wo1, p1⟩ := m
  cases w1 with
  | dat d => exact p1 x σ G1 H1 as1 (Same.refl _) st1 wo1
  | own i =>
    have p1 : PoS X.K Wi F G1 D (match E1[i]? with
      | some (.own d) => .ok (.rt d, E1.set i (.dat d))
      | _ => .stuck) := p1
    rcases rd_own E1 i with ⟨d, e1, _⟩ | z
    · rw [e1] at p1
      obtain ⟨v, e2, a, x1, x2, x3⟩ := st1.cell i _ e1
      have wo : σ[i]? = some (some x) := wo1
      rw [wo] at e2; cases e2; cases x2
      obtain ⟨G2, s2, dd, st2⟩ := st1.freeze e1 wo
      exact p1 (.ref a) σ G2 H1 _ s2 st2 dd
    · cases h : E1[i]? with
      | none => rw [h] at p1; exact p1.elim
      | some c =>
        rw [h] at p1
        cases c with
        | own d => rw [show rd E1 (.own i) = .ok d by simp [rd, h]] at z; cases z
        | _ => exact p1.elim
theorem ds_if (hc : DT X Wi c fc) (ha : DSs X Wi bs f) (hb : DSs X Wi cs g) : DS X Wi (.If c bs cs pos) (sIf fc f g) := PS.imp (ps_if hc ha hb) fun D σ H q => by
  obtain ⟨F, G, E, as, st, p⟩ := q
  refine ⟨F, G, E, as, st, PoT.mono (fun x H1 m => ?_) (PoT.bindS p)⟩
  obtain ⟨G1, E1, as1, s1, st1, p1⟩ := m
  cases x with
  | true => exact ⟨F, G1, E1, as1, st1, p1⟩
  | false => exact ⟨F, G1, E1, as1, st1, p1⟩
theorem tAsg_of {i : Nat} {te : TE} (h : ∀ σ H Q, tE X.K Wi fe σ H Q → te σ H Q) : ∀ D σ H, tS X.K Wi (sSet i fe) D σ H → tAsg te (gName i) D σ H := by
  intro D σ H q
  obtain ⟨F, G, E, as, st, p⟩ := q
  refine h _ _ _ ⟨F, G, E, as, st, Po.mono (fun x H1 m => ?_) (Po.bindS p)⟩
  obtain ⟨w1, G1, E1, as1, s1, st1, wo1, p1⟩ := m
  cases w1 with
  | dat d => exact p1 _ G1 H1 _ (Same.refl _) (st1.setD wo1)
  | own j => exact p1.elim
theorem PoN.bindS {K : PySem.W.Frag} {F : Fr} {G : Hp} {σ : L2.St} {D : Ends} {r : Res (DL.D × Env)} {g : DL.D × Env → Res (Fl × Env)} (h : PoS K Wi F G D (r.bind g)) :
    PoN K Wi F G σ (fun v H1 => ∃ d p G1 E1 as1, v = .ref p ∧ Same G G1 ∧ StE K F G1 H1 σ E1 as1 ∧ G1 p = none ∧ F.H0 p = none ∧ (∀ j, p ∉ as1 j) ∧ OwnAt K G1 H1 p d ∧ PoS K Wi F G1 D (g (d, E1))) r := by
  match r, h with
  | .ok (w, E'), h => exact fun p G' H' as' s st gp fp np o => ⟨w, p, G', E', as', rfl, s, st, gp, fp, np, o, PoS.up s h⟩
  | .err x E', h => exact fun c dx G' H' as' s st xo => h c dx σ G' H' as' s st xo
theorem ds_set {i : Nat} {x : Str} (hN : X.N.Nodup) (hi : X.N[i]? = some x) (hx : Loc X.env.scope x) (he : DE X Wi e fe) (hs : swapsWith e (some (.Name x pos')) pos.line X.env = pure false := by rfl)
    (hf : X.fn x = true ∨ X.env.scope.names.lookup x = some .local := by first | exact .inl rfl | exact .inr rfl | assumption) : DS X Wi (.Assign [.Name x pos'] e pos) (sSet i fe) :=
  PS.imp (ps_set hN hi hx he hs hf) (tAsg_of fun _ _ _ q => q)
end

abbrev GF := D → Env → Option Env
def tG (K : PySem.W.Frag) (ts : List Nat) (g : GF) : TG := fun v σ H Q => ∃ F G E as d, StE K F G H σ E as ∧ DD K G v d ∧ ∃ E', g d E = some E' ∧
  ∀ σ' as', StE K F G H σ' E' as' → (∀ j, j ∉ ts → σ'[j]? = σ[j]?) → σ'.length = σ.length → Q σ' H
abbrev DG (X : Cx) (tg : Expr) (ts : List Nat) (g : GF) : Prop := PG X tg (tG X.K ts g)
theorem PG.imp {X : Cx} {e : Expr} {t t' : TG} (h : PG X e t) (i : ∀ v σ H Q, t' v σ H Q → t v σ H Q) : PG X e t' :=
  ⟨fun pins s σ H v u Q I r q => h.run pins s σ H v u Q I r (i _ _ _ _ q)⟩
theorem PGs.imp {X : Cx} {e : List Expr} {t t' : TGs} (h : PGs X e t) (i : ∀ v σ H Q, t' v σ H Q → t v σ H Q) : PGs X e t' :=
  ⟨fun pins s σ H v u Q I r q => h.run pins s σ H v u Q I r (i _ _ _ _ q)⟩
def gN (i : Nat) : GF := fun d E => some (E.set i (.dat d))
section
variable {X : Cx} {es : List Expr} {e : Expr} {ts us : List Nat} {g : GF} {gs : List D → Env → Option Env} {pos : Pos}
theorem dg_name {i : Nat} {x : Str} (hN : X.N.Nodup) (hi : X.N[i]? = some x) (hx : Loc X.env.scope x) (hf : X.fn x = true ∨ X.env.scope.names.lookup x = some .local := by first | exact .inl rfl | exact .inr rfl | assumption) :
    DG X (.Name x pos) [i] (gN i) := PG.imp (pg_name hN hi hx hf) fun v σ H Q q => by
  obtain ⟨F, G, E, as, d, st, dd, E', e, k⟩ := q
  cases e
  exact k _ _ (st.setD dd) (fun j hj => List.getElem?_set_ne (fun z => hj (by rw [z]; exact List.mem_singleton.mpr rfl))) (List.length_set ..)
end

abbrev IF := Env → Res (List D × Env)
structure JD (K : PySem.W.Frag) (G0 : Hp) (J : It) (items : List D) : Prop where
  le : items.length ≤ sizeLine
  stop : ∀ G H, Same G0 G → Same G H → J.stop items.length H
  go : ∀ G H i, Same G0 G → Same G H → i < items.length → J.go i H
  yld : ∀ G H i d x H', Same G0 G → Same G H → items[i]? = some d → J.yld i H x H' → ∃ G', Al G H G' H' ∧ DD K G' x d
def PoI (K : PySem.W.Frag) (Wi : Wish) (F : Fr) (G : Hp) (σ : L2.St) (R : It → Hp → Prop) : Res (List D × Env) → Prop
  | .ok (ds, E') => ∀ J G' H' as', Same G G' → StE K F G' H' σ E' as' → JD K G' J ds → R J H'
  | .err x E' => ∀ c dx G' H' as', Same G G' → StE K F G' H' σ E' as' → ExOk K G' x c dx → Wi σ c dx H'
  | .stuck => False
def tI (K : PySem.W.Frag) (Wi : Wish) (f : IF) : TI := fun σ H R => ∃ F G E as, StE K F G H σ E as ∧ PoI K Wi F G σ R (f E)
abbrev DI (X : Cx) (Wi : Wish) (tg iter : Expr) (f : IF) : Prop := PI X tg iter (tI X.K Wi f)
theorem PI.imp {X : Cx} {tg e : Expr} {t t' : TI} (h : PI X tg e t) (i : ∀ σ H Q, t' σ H Q → t σ H Q) : PI X tg e t' :=
  ⟨fun pins s σ H R I q => h.run pins s σ H R I (i _ _ _ q)⟩
section
variable {K : PySem.W.Frag} {Wi : Wish} {F : Fr} {G G1 H : Hp} {σ : L2.St}
theorem PoI.mono {R R' : It → Hp → Prop} (i : ∀ v H, R v H → R' v H) : ∀ {r : Res (List D × Env)}, PoI K Wi F G σ R r → PoI K Wi F G σ R' r
  | .ok (_, _), h => fun J G' H' as' s st jd => i _ _ (h J G' H' as' s st jd)
  | .err _ _, h => h
def MidI (K : PySem.W.Frag) (F : Fr) (G : Hp) (σ : L2.St) (R : It → List D → Hp → Hp → Env → (Nat → List Addr) → Prop) (J : It) (H1 : Hp) : Prop :=
  ∃ ds G1 E1 as1, Same G G1 ∧ StE K F G1 H1 σ E1 as1 ∧ JD K G1 J ds ∧ R J ds G1 H1 E1 as1
theorem PoI.bindS {Dn : Ends} {r : Res (List D × Env)} {g : List D × Env → Res (Fl × Env)} (h : PoS K Wi F G Dn (r.bind g)) :
    PoI K Wi F G σ (MidI K F G σ fun _ ds G1 _ E1 _ => PoS K Wi F G1 Dn (g (ds, E1))) r := by
  match r, h with
  | .ok (w, E'), h => exact fun J G' H' as' s st jd => ⟨w, G', E', as', s, st, jd, PoS.up s h⟩
  | .err x E', h => exact fun c dx G' H' as' s st xo => h c dx σ G' H' as' s st xo
theorem PoI.bindN {Q : VK} {r : Res (List D × Env)} {g : List D × Env → Res (D × Env)} (h : PoN K Wi F G σ Q (r.bind g)) :
    PoI K Wi F G σ (MidI K F G σ fun _ ds G1 _ E1 _ => PoN K Wi F G1 σ Q (g (ds, E1))) r := by
  match r, h with
  | .ok (w, E'), h => exact fun J G' H' as' s st jd => ⟨w, G', E', as', s, st, jd, PoN.up s h⟩
  | .err x E', h => exact h
end

def forL (g : GF) (body : SF) : List D → SF
  | [], E => .ok (.nx, E)
  | d :: ds, E => (ofO (g d E)).bind fun E1 => (body E1).bind fun p => match p.1 with
    | .nx => forL g body ds p.2
    | .ct => forL g body ds p.2
    | .bk => .ok (.nx, p.2)
    | .rt d => .ok (.rt d, p.2)
def sFor (fi : IF) (g : GF) (body : SF) : SF := fun E => (fi E).bind fun p => forL g body p.1 p.2
theorem ds_for {X : Cx} {Wi : Wish} {tg iter : Expr} {body : List Stmt} {fi : IF} {g : GF} {ts : List Nat} {fb : SF} {pos : Pos} (hp : PassesOwn (model X.prog X.w) X.A X.env X.xe) (hc : X.calm = true) (hi : DI X Wi tg iter fi) (hg : DG X tg ts g) (hb : DSs X Wi body fb) (hs : ∀ x, foldedSetIterable iter X.env x = pure x := by intro _; rfl) : DS X Wi (.For tg iter body [] pos) (sFor fi g fb) :=
  PS.imp (ps_for hp hc hi hg hb hs) fun D σ H q => by
    obtain ⟨F, G, E, as, st, p⟩ := q
    refine ⟨F, G, E, as, st, PoI.mono (fun J H1 m => ?_) (PoI.bindS p)⟩
    obtain ⟨ds, G1, E1, as1, s1, st1, jd, p1⟩ := m
    refine ⟨fun i m σ H => ∃ G2 E2 as2, m = ds.length - i ∧ i ≤ ds.length ∧ Same G1 G2 ∧ StE X.K F G2 H σ E2 as2 ∧ PoS X.K Wi F G2 D (forL g fb (ds.drop i) E2), ⟨ds.length, G1, E1, as1, by simp, Nat.zero_le _, Same.refl _, st1, p1⟩, ?_⟩
    rintro i m σ H ⟨G2, E2, as2, rfl, hi, s2, st2, p2⟩
    by_cases hlt : i < ds.length
    · refine .inr ⟨jd.go G2 H i s2 st2.s1 hlt, fun σ' H' => ∃ G3 E3 as3, i + 1 ≤ ds.length ∧ Same G1 G3 ∧ StE X.K F G3 H' σ' E3 as3 ∧ PoS X.K Wi F G3 D (forL g fb (ds.drop (i + 1)) E3), fun σ' H' z => ?_, fun x H' y => ?_⟩
      · obtain ⟨G3, E3, as3, a, b, c, d⟩ := z
        exact ⟨ds.length - (i + 1), by omega, G3, E3, as3, rfl, a, b, c, d⟩
      · have hx : ds[i]? = some ds[i] := List.getElem?_eq_getElem hlt
        obtain ⟨G3, al, dd⟩ := jd.yld G2 H i _ x H' s2 st2.s1 hx y
        have st3 := st2.al al
        have hd : ds.drop i = ds[i] :: ds.drop (i + 1) := List.drop_eq_getElem_cons hlt
        rw [hd] at p2
        obtain ⟨E3, e3, p3⟩ := PoS.of (PoS.up al.g p2)
        refine ⟨F, G3, E2, as2, ds[i], st3, dd, E3, e3, fun σ4 as4 st4 _ _ => ⟨F, G3, E3, as4, st4, ?_⟩⟩
        generalize fb E3 = r at p3 ⊢
        match r, p3 with
        | .ok (.nx, E5), p3 => exact fun σ5 G5 H5 as5 s5 st5 => ⟨G5, E5, as5, hlt, (s2.trans al.g).trans s5, st5, PoS.up s5 p3⟩
        | .ok (.ct, E5), p3 => exact fun σ5 G5 H5 as5 s5 st5 => ⟨G5, E5, as5, hlt, (s2.trans al.g).trans s5, st5, PoS.up s5 p3⟩
        | .ok (.bk, E5), p3 => exact p3
        | .ok (.rt d, E5), p3 => exact p3
        | .err x E5, p3 => exact p3
    · have e : i = ds.length := by omega
      subst e
      refine .inl ⟨jd.stop G2 H s2 st2.s1, ?_⟩
      rw [List.drop_length] at p2
      exact p2 σ G2 H as2 (Same.refl _) st2

end DL
namespace DL
open PySem PySem.Spec PyProof.Rows L2

def plainC : Option Cell → Bool
  | some .no => true
  | some (.dat _) => true
  | none => true
  | _ => false
/-- the block's own names are not known ahead of a turn -/
def wipeE (E : Env) : List Nat → Env
  | [] => E
  | v :: vs => (wipeE E vs).set v .no
/-- behind a turn they are what they were outside -/
def backE (E0 E : Env) : List Nat → Env
  | [] => E
  | v :: vs => (backE E0 E vs).set v (E0[v]?.getD .no)
def noErr {α : Type} : Res α → Res α
  | .ok a => .ok a
  | _ => .stuck
def asDat : W → Option D
  | .dat d => some d
  | .own _ => none
def compL (vs : List Nat) (g : GF) (fc : BF) (fe : EF) (E0 : Env) : List D → List D → Env → Res (D × Env)
  | [], acc, E => .ok (.lst acc, E)
  | d :: ds, acc, E => (ofO (g d (wipeE E vs))).bind fun E1 => (noErr (fc E1)).bind fun p =>
      if p.1 = true then (noErr (fe p.2)).bind fun q => (ofO (asDat q.1)).bind fun y => compL vs g fc fe E0 ds (acc ++ [y]) (backE E0 q.2 vs)
      else compL vs g fc fe E0 ds acc (backE E0 p.2 vs)
def nComp (vs : List Nat) (fi : IF) (g : GF) (fc : BF) (fe : EF) : NF := fun E => (fi E).bind fun p => if vs.all (fun v => plainC p.2[v]?) = true then compL vs g fc fe p.2 p.1 [] p.2 else .stuck
def tYes' : BF := fun E => .ok (true, E)
/-- no exception leaves -/
def W0 : Wish := fun _ _ _ _ => False

section
variable {K : PySem.W.Frag} {Wi : Wish} {F : Fr} {G G1 H H1 : Hp} {σ : L2.St} {E E0 : Env} {as : Nat → List Addr} {Q : VK}
def dropA (as : Nat → List Addr) : List Nat → Nat → List Addr
  | [] => as
  | v :: vs => drp (dropA as vs) v []
theorem StE.wipe (st : StE K F G H σ E as) : ∀ vs : List Nat, StE K F G H (L2.wipe σ vs) (wipeE E vs) (dropA as vs)
  | [] => st
  | v :: vs => (StE.wipe st vs).setN
theorem StE.wr (st : StE K F G H σ E as) {p : Addr} {o : HO} (gp : G p = none) (fp : F.H0 p = none) (np : ∀ j, p ∉ as j) (hp : H p ≠ none) : StE K F G (upd H p o) σ E as := by
  refine ⟨st.len, st.s0, fun b z q => ?_, fun b u q x => ?_, fun b q => ?_, st.priv, fun i c e => ?_, st.sep, st.off, st.tail⟩
  · rw [upd_ne (ne_of_none q gp)]; exact st.s1 b z q
  · rw [upd_ne (ne_of_none q fp)]; exact st.keep b u q x
  · by_cases hb : b = p
    · subst hb; exact fp
    · rw [upd_ne hb] at q; exact st.dom b q
  · obtain ⟨v, e1, x⟩ := st.cell i c e
    refine ⟨v, e1, x.up (Same.refl _) fun b hb u q => ?_⟩
    rw [upd_ne (fun (z : b = p) => np i (by rw [← z]; exact hb))]; exact q
/-- the block's slots are put back: the slots of the frame are σ, where the block had σ' -/
theorem StE.back {σ' : L2.St} {E1 : Env} {as1 : Nat → List Addr} {vs : List Nat} (hc : ∀ v ∈ vs, plainC E0[v]? = true ∧ ∀ d, E0[v]? = some (.dat d) → ∃ x, σ[v]? = some (some x) ∧ DD K G x d) (s : Same G G1)
    (st1 : StE K F G1 H1 σ' E1 as1) (hσ : ∀ j, j ∉ vs → σ'[j]? = σ[j]?) (hl : σ'.length = σ.length) : ∃ as2, StE K F G1 H1 σ (backE E0 E1 vs) as2 ∧ ∀ j p, p ∈ as2 j → ∃ k, p ∈ as1 k := by
  have key : ∀ us : List Nat, (∀ v ∈ us, v ∈ vs) → ∃ σ2 as2, StE K F G1 H1 σ2 (backE E0 E1 us) as2 ∧ (∀ j, j ∈ us → σ2[j]? = σ[j]?) ∧ (∀ j, j ∉ us → σ2[j]? = σ'[j]?) ∧ σ2.length = σ.length ∧ ∀ j p, p ∈ as2 j → ∃ k, p ∈ as1 k := by
    intro us
    induction us with
    | nil => intro _; exact ⟨σ', as1, st1, fun j hj => (by cases hj), fun j _ => rfl, hl, fun j p h => ⟨j, h⟩⟩
    | cons v us ih =>
      intro hs
      obtain ⟨σ2, as2, st2, h1, h2, h3, h4⟩ := ih fun u hu => hs u (List.mem_cons_of_mem _ hu)
      obtain ⟨pl, hd⟩ := hc v (hs v List.mem_cons_self)
      refine ⟨σ2.set v (σ[v]?.getD none), drp as2 v [], ?_, fun j hj => ?_, fun j hj => ?_, by rw [List.length_set, h3], fun j p hp => ?_⟩
      · show StE K F G1 H1 _ ((backE E0 E1 us).set v (E0[v]?.getD .no)) _
        cases hq : E0[v]? with
        | none => exact st2.setN
        | some c =>
          rw [hq] at pl
          cases c with
          | no => exact st2.setN
          | dat d =>
            obtain ⟨x, e1, dd⟩ := hd d hq
            rw [e1]
            exact st2.setD (dd.up s)
          | own d => cases pl
          | deck a q l b => cases pl
          | slf a d => cases pl
          | cls C => cases pl
          | ob p C fs => cases pl
          | sob a C fs => cases pl
      · by_cases e : j = v
        · subst e
          by_cases hj2 : j < σ2.length
          · rw [List.getElem?_set_self hj2]
            rw [h3] at hj2
            rw [List.getElem?_eq_getElem hj2]; rfl
          · rw [List.getElem?_eq_none (by rw [List.length_set]; omega), List.getElem?_eq_none (by omega)]
        · rw [List.getElem?_set_ne (Ne.symm e)]
          rcases List.mem_cons.mp hj with z | z
          · exact absurd z e
          · exact h1 j z
      · rw [List.getElem?_set_ne (fun z => hj (by rw [z]; exact List.mem_cons_self))]
        exact h2 j fun z => hj (List.mem_cons_of_mem _ z)
      · by_cases e : j = v
        · rw [e, drp_same] at hp; cases hp
        · rw [drp_ne e] at hp; exact h4 j p hp
  obtain ⟨σ2, as2, st2, h1, h2, h3, h4⟩ := key vs fun _ h => h
  have e : σ2 = σ := by
    refine List.ext_getElem? fun j => ?_
    by_cases hj : j ∈ vs
    · exact h1 j hj
    · exact (h2 j hj).trans (hσ j hj)
  rw [e] at st2
  exact ⟨as2, st2, h4⟩
theorem Po.noErr {r : Res (W × Env)} (h : ∀ p, r = .ok p → Po K W0 F G σ Q (.ok p)) (hr : ∃ p, DL.noErr r = .ok p) : Po K W0 F G σ Q r := by
  obtain ⟨p, hp⟩ := hr
  cases r with
  | ok a => exact h a rfl
  | err x E => cases hp
  | stuck => cases hp
theorem wipe_get : ∀ {vs : List Nat} {j : Nat}, j ∉ vs → (L2.wipe σ vs)[j]? = σ[j]?
  | [], _, _ => rfl
  | v :: vs, j, h => by
    rw [L2.wipe, List.getElem?_set_ne (fun z => h (by rw [z]; exact List.mem_cons_self))]
    exact wipe_get fun z => h (List.mem_cons_of_mem _ z)
theorem wipe_in : ∀ {vs : List Nat} {j : Nat}, j ∈ vs → j < σ.length → (L2.wipe σ vs)[j]? = some none
  | v :: vs, j, h, hl => by
    rw [L2.wipe]
    by_cases e : v = j
    · subst e; rw [List.getElem?_set_self (by rw [wipe_length]; exact hl)]
    · rw [List.getElem?_set_ne e]
      rcases List.mem_cons.mp h with z | z
      · exact absurd z.symm e
      · exact wipe_in z hl
theorem wipe_eq {σ' : L2.St} {vs : List Nat} (h : ∀ j, j ∉ vs → σ'[j]? = (L2.wipe σ vs)[j]?) (hl : σ'.length = (L2.wipe σ vs).length) : L2.wipe σ' vs = L2.wipe σ vs := by
  rw [wipe_length] at hl
  refine List.ext_getElem? fun j => ?_
  by_cases hj : j ∈ vs
  · by_cases hb : j < σ.length
    · rw [wipe_in hj (by omega), wipe_in hj hb]
    · rw [List.getElem?_eq_none (by rw [wipe_length]; omega), List.getElem?_eq_none (by rw [wipe_length]; omega)]
  · rw [wipe_get hj]; exact h j hj
end

theorem PoN.noErr {α : Type} {K : PySem.W.Frag} {Wi : Wish} {F : Fr} {G : Hp} {σ : L2.St} {Q : VK} {r : Res α} {g : α → Res (D × Env)} (h : PoN K Wi F G σ Q ((DL.noErr r).bind g)) : ∃ a, r = .ok a ∧ PoN K Wi F G σ Q (g a) := by
  cases r with
  | ok a => exact ⟨a, rfl, h⟩
  | err x E => exact h.elim
  | stuck => exact h.elim

theorem tLc_of {K : PySem.W.Frag} {Wi : Wish} {fi : IF} {g : GF} {ts vs : List Nat} {fc : BF} {fe : EF} {tt : TT} {te : TE} (hts : ∀ t ∈ ts, t ∈ vs)
    (ht : ∀ σ H Q, tT K W0 fc σ H Q → tt σ H Q) (he : ∀ σ H Q, tE K W0 fe σ H Q → te σ H Q) :
    ∀ σ H Q, tN K Wi (nComp vs fi g fc fe) σ H Q → tLc (tI K Wi fi) (tG K ts g) tt te vs σ H Q := by
  intro σ H Q q
  obtain ⟨F, G, E, as, st, p⟩ := q
  refine ⟨F, G, E, as, st, PoI.mono (fun J H1 m => ?_) (PoI.bindN p)⟩
  obtain ⟨ds, G1, E1, as1, s1, st1, jd, p1⟩ := m
  intro D0 hD
  have p1 : PoN K Wi F G1 σ Q (if vs.all (fun v => plainC E1[v]?) = true then compL vs g fc fe E1 ds [] E1 else .stuck) := p1
  by_cases hpl : vs.all (fun v => plainC E1[v]?) = true
  · rw [if_pos hpl] at p1
    have hpl' : ∀ v ∈ vs, plainC E1[v]? = true := List.all_eq_true.mp hpl
    have al0 : Al G1 H1 G1 (upd H1 D0 (.lst [])) := Al.grow st1.s1 fun b u q => by rw [upd_ne (ne_of_none q hD)]; exact q
    refine ⟨fun i m H => m = ds.length - i ∧ i ≤ ds.length ∧ ∃ acc av G2 E2 as2, Same G1 G2 ∧ StE K F G2 H σ E2 as2 ∧ H D0 = some (.lst av) ∧ DDs K G2 av acc ∧ G2 D0 = none ∧ (∀ j, D0 ∉ as2 j) ∧ av.length ≤ i ∧
      PoN K Wi F G2 σ Q (compL vs g fc fe E1 (ds.drop i) acc E2), ⟨ds.length, by simp, Nat.zero_le _, [], [], G1, E1, as1, Same.refl _, st1.al al0, upd_same, .nil, st1.s1.free hD, fun j hj => ?_, Nat.le_refl _, p1⟩, ?_⟩
    · obtain ⟨o, q⟩ := st1.there hj
      rw [hD] at q; cases q
    · rintro i m H ⟨rfl, hi, acc, av, G2, E2, as2, s2, st2, hd, dda, gD, nD, la, p2⟩
      have fD : F.H0 D0 = none := st1.dom D0 hD
      by_cases hlt : i < ds.length
      · refine .inr ⟨jd.go G2 H i s2 st2.s1 hlt, fun H' => i + 1 ≤ ds.length ∧ ∃ acc av G2 E2 as2, Same G1 G2 ∧ StE K F G2 H' σ E2 as2 ∧ H' D0 = some (.lst av) ∧ DDs K G2 av acc ∧ G2 D0 = none ∧ (∀ j, D0 ∉ as2 j) ∧ av.length ≤ i + 1 ∧
          PoN K Wi F G2 σ Q (compL vs g fc fe E1 (ds.drop (i + 1)) acc E2), fun H' z => ⟨ds.length - (i + 1), by omega, rfl, z⟩, fun x H' y => ?_⟩
        have hx : ds[i]? = some ds[i] := List.getElem?_eq_getElem hlt
        obtain ⟨G3, al, dd⟩ := jd.yld G2 H i _ x H' s2 st2.s1 hx y
        have st3 := st2.al al
        have hdr : ds.drop i = ds[i] :: ds.drop (i + 1) := List.drop_eq_getElem_cons hlt
        rw [hdr] at p2
        have p2 := PoN.up al.g p2
        obtain ⟨E4, e4, p4⟩ := PoN.of p2
        have gD3 : G3 D0 = none := by
          cases q : G3 D0 with
          | none => rfl
          | some u => exact absurd (al.new D0 _ (by rw [q]; exact fun z => nomatch z) gD hd) (fun z => nomatch z)
        have hd3 : H' D0 = some (.lst av) := al.h _ _ hd
        -- the turn, in a frame of its own
        have stw := st3.wipe vs
        have nDw : ∀ j, D0 ∉ dropA as2 vs j := by
          have key : ∀ us : List Nat, ∀ j, D0 ∉ dropA as2 us j := by
            intro us
            induction us with
            | nil => exact nD
            | cons v us ih =>
              intro j hj
              by_cases e : j = v
              · rw [dropA, e, drp_same] at hj; cases hj
              · rw [dropA, drp_ne e] at hj; exact ih j hj
          exact key vs
        have sti := stw.in_
        have nOwn : D0 ∉ own (dropA as2 vs) (wipeE E2 vs).length := fun z => by
          obtain ⟨j, hj⟩ := of_own z
          exact nDw j hj
        obtain ⟨a, ea, p5⟩ := PoN.noErr p4
        refine ⟨_, G3, wipeE E2 vs, dropA as2 vs, ds[i], sti, dd, E4, e4, fun σ4 as4 st4 k4 l4 => ⟨wipe_eq (fun j hj => k4 j fun z => hj (hts j z)) l4, ?_⟩⟩
        refine ht _ _ _ ⟨_, G3, E4, as4, st4, ?_⟩
        rw [ea]
        intro G5 H5 as5 s5 st5
        -- what stands behind an expression of the turn
        have hσ : ∀ j, j ∉ vs → σ4[j]? = σ[j]? := fun j hj => (k4 j fun z => hj (hts j z)).trans (wipe_get hj)
        have hlen : σ4.length = σ.length := l4.trans (wipe_length σ vs)
        have keepD : ∀ {G6 H6 : Hp} {E6 : Env} {as6 : Nat → List Addr}, StE K (inner F G3 H' (dropA as2 vs) (wipeE E2 vs).length) G6 H6 σ4 E6 as6 → H6 D0 = some (.lst av) ∧ G6 D0 = none := fun {G6 H6 E6 as6} st6 => by
          refine ⟨st6.keep D0 _ hd3 nOwn, ?_⟩
          cases q : G6 D0 with
          | none => rfl
          | some u => exact absurd gD3 (st6.priv D0 _ (by rw [q]; exact fun z => nomatch z) hd3 rfl nOwn)
        have hcell : ∀ v ∈ vs, plainC E1[v]? = true ∧ ∀ d, E1[v]? = some (.dat d) → ∃ x, σ[v]? = some (some x) ∧ DD K G1 x d := fun v hv => ⟨hpl' v hv, fun d hd => by
          obtain ⟨x, e1, _, z, rfl, dd⟩ := st1.cell v _ hd
          exact ⟨z, e1, dd⟩⟩
        have backD : ∀ {G6 H6 : Hp} {E6 : Env} {as6 : Nat → List Addr}, Same G3 G6 → StE K (inner F G3 H' (dropA as2 vs) (wipeE E2 vs).length) G6 H6 σ4 E6 as6 → ∃ as7, StE K F G6 H6 σ (backE E1 E6 vs) as7 ∧ ∀ j, D0 ∉ as7 j := fun {G6 H6 E6 as6} s6 st6 => by
          obtain ⟨as7, st7, h7⟩ := StE.back hcell ((s2.trans al.g).trans s6) (stw.out st6) hσ hlen
          refine ⟨as7, st7, fun j hj => ?_⟩
          obtain ⟨k, hk⟩ := h7 j D0 hj
          rcases (st6.off k D0 hk).2 with z | z
          · have z : H' D0 = none := z
            rw [hd3] at z; cases z
          · exact nOwn z
        obtain ⟨b, E5⟩ := a
        cases b with
        | true =>
          rw [if_pos rfl]
          have p5 : PoN K Wi F G3 σ Q ((DL.noErr (fe E5)).bind fun q => (ofO (asDat q.1)).bind fun y => compL vs g fc fe E1 (ds.drop (i + 1)) (acc ++ [y]) (backE E1 q.2 vs)) := p5
          obtain ⟨q, eq, p6⟩ := PoN.noErr p5
          obtain ⟨w, E6⟩ := q
          refine he _ _ _ ⟨_, G5, E5, as5, st5, ?_⟩
          rw [eq]
          intro v G7 H7 as7 s7 st7 wo7
          cases w with
          | own j => exact p6.elim
          | dat y =>
            obtain ⟨hD7, gD7⟩ := keepD st7
            obtain ⟨as8, st8, n8⟩ := backD (s5.trans s7) st7
            refine ⟨av, hD7, Nat.lt_of_le_of_lt la (Nat.lt_of_lt_of_le hlt jd.le), hlt, acc ++ [y], av ++ [v], G7, backE E1 E6 vs, as8, ((s2.trans al.g).trans s5).trans s7, st8.wr gD7 fD n8 (by rw [hD7]; exact fun z => nomatch z), upd_same, (dda.up ((al.g.trans s5).trans s7)).app (.one wo7), gD7, n8, by rw [List.length_append]; exact Nat.succ_le_succ la, ?_⟩
            exact PoN.up (s5.trans s7) p6
        | false =>
          rw [if_neg Bool.false_ne_true]
          have p5 : PoN K Wi F G3 σ Q (compL vs g fc fe E1 (ds.drop (i + 1)) acc (backE E1 E5 vs)) := p5
          obtain ⟨hD7, gD7⟩ := keepD st5
          obtain ⟨as8, st8, n8⟩ := backD s5 st5
          exact ⟨hlt, acc, av, G5, backE E1 E5 vs, as8, (s2.trans al.g).trans s5, st8, hD7, dda.up (al.g.trans s5), gD7, n8, Nat.le_succ_of_le la, PoN.up s5 p5⟩
      · have e : i = ds.length := by omega
        subst e
        refine .inl ⟨jd.stop G2 H s2 st2.s1, ?_⟩
        rw [List.drop_length] at p2
        exact p2 D0 G2 H as2 (Same.refl _) st2 gD fD nD ⟨av, hd, Nat.le_trans la jd.le, dda⟩
  · rw [if_neg hpl] at p1; exact p1.elim
end DL
namespace DL
open PySem PySem.Spec PyProof.Rows L2

abbrev DQs (X : Cx) (ifs : List Expr) (f : BF) : Prop := PTs X ifs (tT X.K W0 f)
theorem PTs.imp {X : Cx} {e : List Expr} {t t' : TT} (h : PTs X e t) (i : ∀ σ H Q, t' σ H Q → t σ H Q) : PTs X e t' :=
  ⟨fun pins s σ H Q I q => h.run pins s σ H Q I (i σ H Q q)⟩
theorem dts_nil {X : Cx} : DQs X [] tYes' := PTs.imp pts_nil fun σ H Q q => by
  obtain ⟨F, G, E, as, st, p⟩ := q
  exact p G H as (Same.refl _) st
theorem dts_one {X : Cx} {c : Expr} {f : BF} (h : DT X W0 c f) : DQs X [c] f := pts_one h
section
variable {X : Cx} {Wi : Wish} {elt tg iter : Expr} {ifs : List Expr} {scope : Scope} {own : List (Str × Nat)} {pos spos py : Pos} {fi : IF} {g : GF} {ts : List Nat} {fc : BF} {fe : EF}
theorem dn_comp (hc : X.calm = true) (hN : X.N.Nodup) (hi : DI X Wi tg iter fi) (ok : BlkOk X.N X.env.scope scope own)
    (hg : ∀ (s : Shared) (H : Hp) (C : Addr) (cl : List (Str × Addr)) (fp : List Addr), DG (X.blk s H scope (compEnvC scope cl C X.env) fp) tg ts g)
    (ht : ∀ (s : Shared) (H : Hp) (C : Addr) (cl : List (Str × Addr)) (fp : List Addr), DQs (X.blk s H scope (compEnvC scope cl C X.env) fp) ifs fc)
    (he : ∀ (s : Shared) (H : Hp) (C : Addr) (cl : List (Str × Addr)) (fp : List Addr), DE (X.blk s H scope (compEnvC scope cl C X.env) fp) W0 elt fe)
    (hts : ∀ t ∈ ts, t ∈ own.map (·.2) := by decide) (hs : ∀ x, foldedSetIterable iter X.env x = pure x := by intro _; rfl) :
    DN X Wi (.ListComp elt [⟨tg, iter, ifs, 0⟩] scope pos) (nComp (own.map (·.2)) fi g fc fe) :=
  PE.imp (pe_lc hc hN hi ok hg ht he hs) (tLc_of hts (fun _ _ _ q => q) fun _ _ _ q => q)
end

/-- a def that is called where no repr is under way -/
structure FnG (P : Program) (w : World) (K : PySem.W.Frag) (mg : Str → Option Value) (base : Heap) (CX : CXT) (k : Nat) (f : Addr) (fd : FuncData) (ps : List Str) (sp : Sp) : Prop where
  len : ∀ vs H Q E, sp vs H Q E → vs.length = ps.length
  go : ∀ (A : Around) (outer : List PySem.Env) (s : Shared) (H : Hp) (args : Args) (us : List Value) (vs : List V) (Q : VK) (E : XK), A.guards = some [] → Room k A → Env0 P w K mg base A outer s H →
    BindsTo s fd args (ps.zip us) → Vals vs us → sp vs H Q E → codeAny (model P w) A (.call (.ref f) args) (CR CX outer P w H s Q E) s
section
variable {P : Program} {w : World} {K : PySem.W.Frag} {mg : Str → Option Value} {base : Heap} {CX : CXT} {k j : Nat} {f : Addr} {fd : FuncData} {ps : List Str} {sp sp' : Sp}
theorem FnG.of (F : FnOk P w K mg base CX k f fd ps sp) : FnG P w K mg base CX k f fd ps sp := ⟨F.len, fun A outer s H args us vs Q E _ hr => F.run A outer s H args us vs Q E hr⟩
theorem FnG.mono (F : FnG P w K mg base CX j f fd ps sp) (h : j ≤ k) : FnG P w K mg base CX k f fd ps sp := ⟨F.len, fun A outer s H args us vs Q E hg hr => F.go A outer s H args us vs Q E hg (hr.mono h)⟩
theorem FnG.imp (F : FnG P w K mg base CX k f fd ps sp) (h : ∀ vs H Q E, sp' vs H Q E → sp vs H Q E) : FnG P w K mg base CX k f fd ps sp' :=
  ⟨fun vs H Q E q => F.len vs H Q E (h _ _ _ _ q), fun A outer s H args us vs Q E hg hr he hb hv hs => F.go A outer s H args us vs Q E hg hr he hb hv (h _ _ _ _ hs)⟩
/-- by the body -/
theorem FnG.body {x qual : Str} {st : Stmt} {N : List Str} (F : Fun K x qual st f fd) (S : FnScope N ps (defScope st)) (len : ∀ vs H Q E, sp vs H Q E → vs.length = ps.length)
    (hb : ∀ (cdv : Value) (A : Around) (outer : List PySem.Env) (s : Shared) (H : Hp) (vs : List V) (Q : VK) (E : XK), A.guards = some [] → Room k (A.deeper (envOfC qual (defScope st) s.heap.objs.size f cdv)) → sp vs H Q E →
      ∃ t, PSs (cxOf CX P w K mg base N qual (defScope st) f cdv A outer s H E) (defBody st) t ∧ t { nx := fun _ H' => Q .non H', rt := Q } (L2.start N vs) H) : FnG P w K mg base CX (k + 1) f fd ps sp := by
  obtain ⟨oc, od, kV, doc, pm, an, cdv, ct, osl, rfl, lk, hcd⟩ := F.ex
  constructor
  · exact len
  intro A outer s H args us vs Q E hg hr e0 bt r hsp
  have KX : K.In s.heap := e0.mod.kin.keeps fun b o e => (e0.bs b o e).1
  have lim : s.heap.NoLimit := e0.mod.nolimit.keeps fun b o e => (e0.bs b o e).1
  have kinds : ∀ y ∈ ps.zip us, (defScope st).names.lookup y.1 = some .local ∨ ((defScope st).names.lookup y.1 = some .cell ∧ ((cellsFrom (s.heap.objs.size + 1) (defScope st).names []).lookup y.1).isSome = true) := by
    rintro ⟨n, v⟩ hy
    cases S.par n (List.of_mem_zip hy).1 with
    | inl q => exact .inl q
    | inr q => exact .inr ⟨q, PySem.W.cellsFrom_some _ _ _ (.inl q)⟩
  refine codeAny_call_function hr.depth (KX _ _ lk) rfl S.co S.gen rfl (PySem.W.codeRec_of KX hcd) (bt _ _ _ _ (wpAny_newFunctionEnv_cells S.kind kinds fun env he s1 x => ?_))
  subst he
  obtain ⟨t, ht, hq⟩ := hb cdv A outer s H vs Q E hg (hr.deeper _) hsp
  refine ⟨lim.keeps x.toInCall.keep, codeAny_func (wpAny_mono (ht.run [] s1 (L2.start N vs) H _ (inv_start S hr.hd e0 (len _ _ _ _ hsp) r x) hq) (fun fl s' hs => ?_) fun e s' hs => hs)⟩
  cases fl with
  | ret u =>
    obtain ⟨v, σ', H', J, rv, q⟩ := hs
    exact ⟨v, H', J.os, J.bare, J.base, J.hok, rv, q⟩
  | next =>
    obtain ⟨σ', H', J, q⟩ := hs
    exact ⟨V.non, H', J.os, J.bare, J.base, J.hok, rfl, q⟩
  | brk =>
    obtain ⟨_, _, _, q⟩ := hs
    exact q.elim
  | cont =>
    obtain ⟨_, _, _, q⟩ := hs
    exact q.elim
end

/-- a promise over data: the mirror fm -/
def spP (K : PySem.W.Frag) (n : Nat) (fm : List D → Res D) : Sp := fun vs H Q E => ∃ G ds, Same G H ∧ DDs K G vs ds ∧ ds.length = n ∧ match fm ds with
  | .ok d => Rz K G H Q d
  | .err x _ => ∀ c dx G' H', Al G H G' H' → ExOk K G' x c dx → E c dx H'
  | .stuck => False
structure Dk where
  l : List Int
  b : Int
/-- the answer of a def that draws -/
def KRz (K : PySem.W.Frag) (G H : Hp) (a q : Addr) (Q : VK) : Res (D × Dk) → Prop
  | .ok (d, k') => ∀ v G' H', Same G G' → Same G' H' → (∀ b o, H b = some o → b ≠ a → b ≠ q → H' b = some o) → (∀ b o, G' b ≠ none → H b = some o → isT o = false → b ≠ a → b ≠ q → G b ≠ none) → G' a = none → G' q = none → DeckAt H' a q k'.l k'.b → DD K G' v d → Q v H'
  | _ => False
/-- .. whose first argument is the deck -/
def spK (K : PySem.W.Frag) (n : Nat) (fm : Addr → Addr → Dk → List D → Res (D × Dk)) : Sp := fun vs H Q E => ∃ G a q k vr ds, vs = .ref a :: vr ∧ Same G H ∧ G a = none ∧ G q = none ∧ DeckAt H a q k.l k.b ∧ DDs K G vr ds ∧ ds.length = n ∧
  KRz K G H a q Q (fm a q k ds)

def nos (n : Nat) : Env := List.replicate n .no
/-- what a body hands back -/
def outF : Res (Fl × Env) → Res D
  | .ok (.rt d, _) => .ok d
  | .ok (.nx, _) => .ok .non
  | .err x _ => .err x []
  | _ => .stuck
def deckOf (E : Env) : Option (Addr × Addr × Dk) := match E.head? with
  | some (Cell.deck a q l b) => some (a, q, ⟨l, b⟩)
  | _ => none
def outD (a q : Addr) (d : D) (E : Env) : Res (D × Dk) := (ofO (deckOf E)).bind fun z => if z.1 = a ∧ z.2.1 = q then .ok (d, z.2.2) else .stuck
def outK (a q : Addr) : Res (Fl × Env) → Res (D × Dk)
  | .ok (.rt d, E) => outD a q d E
  | .ok (.nx, E) => outD a q .non E
  | _ => .stuck
theorem outD_ok {K : PySem.W.Frag} {G H : Hp} {Q : VK} {a q : Addr} {d : D} {E : Env} (h : KRz K G H a q Q (outD a q d E)) : ∃ l b, E[0]? = some (.deck a q l b) ∧ KRz K G H a q Q (.ok (d, ⟨l, b⟩)) := by
  unfold outD deckOf at h
  cases E with
  | nil => exact h.elim
  | cons c r =>
    cases c with
    | deck a' q' l b =>
      have h : KRz K G H a q Q (if a' = a ∧ q' = q then Res.ok (d, (⟨l, b⟩ : Dk)) else .stuck) := h
      by_cases hq : a' = a ∧ q' = q
      · rw [if_pos hq] at h
        obtain ⟨h1, h2⟩ := hq
        rw [h1, h2]
        exact ⟨l, b, rfl, h⟩
      · rw [if_neg hq] at h; exact h.elim
    | no => exact h.elim
    | dat _ => exact h.elim
    | own _ => exact h.elim
    | slf _ _ => exact h.elim
    | cls _ => exact h.elim
    | ob _ _ _ => exact h.elim
    | sob _ _ _ => exact h.elim
def runP (fb : SF) (n : Nat) (ds : List D) : Res D := outF (fb (ds.map .dat ++ nos n))
def runK (fb : SF) (n : Nat) (a q : Addr) (k : Dk) (ds : List D) : Res (D × Dk) := outK a q (fb (.deck a q k.l k.b :: ds.map .dat ++ nos n))

section
variable {K : PySem.W.Frag} {G H : Hp}
theorem DDs.cell : ∀ {vs : List V} {ds : List D} {i : Nat} {c : Cell}, DDs K G vs ds → (ds.map Cell.dat)[i]? = some c → ∃ v d, vs[i]? = some v ∧ c = .dat d ∧ DD K G v d
  | vs, ds, i, c, h, e => by
    rw [List.getElem?_map] at e
    cases q : ds[i]? with
    | none => rw [q] at e; cases e
    | some d =>
      rw [q] at e
      obtain ⟨v, e1, dd⟩ := h.get q
      exact ⟨v, d, e1, (Option.some.inj e).symm, dd⟩
theorem start_get {N : List Str} {vs : List V} {i : Nat} {v : V} (h : vs[i]? = some v) : (L2.start N vs)[i]? = some (some v) := by
  unfold L2.start
  have hi := (List.getElem?_eq_some_iff.mp h).1
  rw [List.getElem?_append_left (by simpa using hi), List.getElem?_map, h]; rfl
theorem start_len {N : List Str} {vs : List V} (h : vs.length ≤ N.length) : (L2.start N vs).length = N.length := by
  unfold L2.start
  rw [List.length_append, List.length_map, List.length_replicate]; omega
theorem StE.start {N : List Str} {vs : List V} {ds : List D} {n : Nat} (s : Same G H) (dd : DDs K G vs ds) (hn : ds.length + n = N.length) : StE K ⟨H, G, [], []⟩ G H (L2.start N vs) (ds.map .dat ++ nos n) fun _ => [] := by
  have hl : vs.length = ds.length := dd.len
  refine ⟨by rw [start_len (by omega), List.length_append, List.length_map]; unfold nos; rw [List.length_replicate]; omega, Same.refl _, s, fun _ _ h _ => h, fun _ h => h, fun _ _ h _ _ _ => h, fun i c e => ?_, fun _ _ _ h => (by cases h), fun _ _ h => (by cases h), fun _ _ => rfl⟩
  by_cases hi : i < ds.length
  · rw [List.getElem?_append_left (by simpa using hi)] at e
    obtain ⟨v, d, e1, rfl, dd'⟩ := dd.cell e
    exact ⟨_, start_get e1, rfl, v, rfl, dd'⟩
  · rw [List.getElem?_append_right (by simpa using hi)] at e
    have hc : c = .no := by
      unfold nos at e
      rw [List.getElem?_replicate] at e
      split at e
      · exact (Option.some.inj e).symm
      · cases e
    subst hc
    have hb : i < N.length := by
      have := (List.getElem?_eq_some_iff.mp e).1
      unfold nos at this
      rw [List.length_replicate, List.length_map] at this; omega
    exact ⟨_, List.getElem?_eq_getElem (by rw [start_len (by omega)]; exact hb), rfl⟩
theorem StE.startK {N : List Str} {vs : List V} {ds : List D} {n : Nat} {a q : Addr} {k : Dk} (s : Same G H) (ga : G a = none) (gq : G q = none) (dk : DeckAt H a q k.l k.b) (dd : DDs K G vs ds) (hn : ds.length + 1 + n = N.length) :
    StE K ⟨H, G, [a, q], []⟩ G H (L2.start N (.ref a :: vs)) (.deck a q k.l k.b :: ds.map .dat ++ nos n) fun i => if i = 0 then [a, q] else [] := by
  have hl : vs.length = ds.length := dd.len
  refine ⟨?_, Same.refl _, s, fun _ _ h _ => h, fun _ h => h, fun _ _ h _ _ _ => h, fun i c e => ?_, fun i j b h1 h2 => ?_, fun i b h => ?_, fun i h => ?_⟩
  · rw [start_len (by simp only [List.length_cons]; omega), List.length_append, List.length_cons, List.length_map]; unfold nos; rw [List.length_replicate]; omega
  · cases i with
    | zero =>
      cases e
      exact ⟨_, start_get (v := .ref a) rfl, rfl, rfl, dk⟩
    | succ i =>
      have e : (ds.map Cell.dat ++ nos n)[i]? = some c := e
      by_cases hi : i < ds.length
      · rw [List.getElem?_append_left (by simpa using hi)] at e
        obtain ⟨v, d, e1, rfl, dd'⟩ := dd.cell e
        exact ⟨_, start_get (v := v) e1, rfl, v, rfl, dd'⟩
      · rw [List.getElem?_append_right (by simpa using hi)] at e
        have hc : c = .no := by
          unfold nos at e
          rw [List.getElem?_replicate] at e
          split at e
          · exact (Option.some.inj e).symm
          · cases e
        subst hc
        have hb : i + 1 < N.length := by
          have := (List.getElem?_eq_some_iff.mp e).1
          unfold nos at this
          rw [List.length_replicate, List.length_map] at this; omega
        exact ⟨_, List.getElem?_eq_getElem (by rw [start_len (by simp only [List.length_cons]; omega)]; exact hb), rfl⟩
  · by_cases hi : i = 0
    · by_cases hj : j = 0
      · rw [hi, hj]
      · rw [if_neg hj] at h2; cases h2
    · rw [if_neg hi] at h1; cases h1
  · by_cases hi : i = 0
    · rw [if_pos hi] at h
      refine ⟨?_, .inr h⟩
      rcases List.mem_cons.mp h with z | z
      · rw [z]; exact ga
      · rw [List.mem_singleton.mp z]; exact gq
    · rw [if_neg hi] at h; cases h
  · have : i ≠ 0 := fun z => by subst z; simp at h
    rw [if_neg this]
end

section
variable {P : Program} {w : World} {K : PySem.W.Frag} {mg : Str → Option Value} {base : Heap} {k : Nat} {f : Addr} {fd : FuncData} {ps N : List Str} {x qual : Str} {st : Stmt} {fb : SF}
theorem spP_len {n : Nat} {fm : List D → Res D} (hn : n = ps.length) : ∀ vs H Q E, spP K n fm vs H Q E → vs.length = ps.length := fun vs H Q E h => by
  obtain ⟨G, ds, _, dd, e, _⟩ := h
  rw [dd.len, e, hn]
theorem spK_len {n : Nat} {fm : Addr → Addr → Dk → List D → Res (D × Dk)} (hn : n + 1 = ps.length) : ∀ vs H Q E, spK K n fm vs H Q E → vs.length = ps.length := fun vs H Q E h => by
  obtain ⟨G, a, q, k, vr, ds, rfl, _, _, _, _, dd, e, _⟩ := h
  rw [List.length_cons, dd.len, e, hn]
/-- no exception leaves the def -/
theorem fn_P (F : Fun K x qual st f fd) (S : FnScope N ps (defScope st)) (n : Nat) (hn : ps.length + n = N.length)
    (hb : ∀ (cdv : Value) (A : Around) (outer : List PySem.Env) (s : Shared) (H : Hp) (E : XK), A.guards = some [] → Room k (A.deeper (envOfC qual (defScope st) s.heap.objs.size f cdv)) →
      DSs (cxOf CX0 P w K mg base N qual (defScope st) f cdv A outer s H E).nox W0 (defBody st) fb) : FnG P w K mg base CX0 (k + 1) f fd ps (spP K ps.length fun ds => noErr (runP fb n ds)) := by
  refine FnG.body F S (spP_len rfl) fun cdv A outer s H vs Q E hg hr hsp => ?_
  obtain ⟨G, ds, sm, dd, hl, q⟩ := hsp
  refine ⟨_, PSs.nox (hb cdv A outer s H E hg hr), ⟨H, G, [], []⟩, G, _, _, StE.start sm dd (n := n) (by omega), ?_⟩
  have done : ∀ {d : D}, Rz K G H Q d → ∀ v σ' G' H' as' E', Same G G' → StE K ⟨H, G, [], []⟩ G' H' σ' E' as' → DD K G' v d → Q v H' := fun {d} z v σ' G' H' as' E' s1 st1 dd1 =>
    z v G' H' ⟨s1, fun b o h => st1.keep b o h (fun z => by cases z), st1.s1, fun b o h e hb => (by
      cases ht : isT o with
      | true => rfl
      | false => exact absurd e (st1.priv b o h hb ht (fun z => by cases z)))⟩ dd1
  have q : (match noErr (outF (fb (ds.map .dat ++ nos n))) with
    | .ok d => Rz K G H Q d
    | .err x _ => ∀ c dx G' H', Al G H G' H' → ExOk K G' x c dx → E c dx H'
    | .stuck => False) := q
  show PoS K W0 ⟨H, G, [], []⟩ G _ (fb (ds.map .dat ++ nos n))
  generalize fb (ds.map .dat ++ nos n) = r at q ⊢
  match r, q with
  | .ok (.rt d, E'), q => exact fun v σ' G' H' as' s1 st1 dd1 => done q v σ' G' H' as' E' s1 st1 dd1
  | .ok (.nx, E'), q => exact fun σ' G' H' as' s1 st1 => done q .non σ' G' H' as' E' s1 st1 .non
  | .ok (.bk, E'), q => exact q.elim
  | .ok (.ct, E'), q => exact q.elim
  | .err x E', q => exact q.elim
theorem fn_K (F : Fun K x qual st f fd) (S : FnScope N ps (defScope st)) (m n : Nat) (hm : m + 1 = ps.length) (hn : ps.length + n = N.length)
    (hb : ∀ (cdv : Value) (A : Around) (outer : List PySem.Env) (s : Shared) (H : Hp) (E : XK), A.guards = some [] → Room k (A.deeper (envOfC qual (defScope st) s.heap.objs.size f cdv)) →
      DSs (cxOf CX0 P w K mg base N qual (defScope st) f cdv A outer s H E).nox W0 (defBody st) fb) : FnG P w K mg base CX0 (k + 1) f fd ps (spK K m (runK fb n)) := by
  refine FnG.body F S (spK_len hm) fun cdv A outer s H vs Q E hg hr hsp => ?_
  obtain ⟨G, a, q, k0, vr, ds, rfl, sm, ga, gq, dk, dd, hl, z⟩ := hsp
  refine ⟨_, PSs.nox (hb cdv A outer s H E hg hr), ⟨H, G, [a, q], []⟩, G, _, _, StE.startK sm ga gq dk dd (n := n) (by omega), ?_⟩
  have done : ∀ {d : D} {E' : Env}, KRz K G H a q Q (outD a q d E') → ∀ v σ' G' H' as', Same G G' → StE K ⟨H, G, [a, q], []⟩ G' H' σ' E' as' → DD K G' v d → Q v H' := fun {d E'} z v σ' G' H' as' s1 st1 dd1 => by
    obtain ⟨l, b, e, z⟩ := outD_ok z
    obtain ⟨u, e1, ea, _, dk'⟩ := st1.cell 0 _ e
    have nin : ∀ b, b ≠ a → b ≠ q → b ∉ [a, q] := fun b h1 h2 h => by
      rcases List.mem_cons.mp h with y | y
      · exact h1 y
      · exact h2 (List.mem_singleton.mp y)
    exact z v G' H' s1 st1.s1 (fun b o h h1 h2 => st1.keep b o h (nin b h1 h2)) (fun b o h h0 ht h1 h2 => st1.priv b o h h0 ht (nin b h1 h2)) (st1.off 0 a (by rw [ea]; simp)).1 (st1.off 0 q (by rw [ea]; simp)).1 dk' dd1
  have z : KRz K G H a q Q (outK a q (fb (.deck a q k0.l k0.b :: ds.map .dat ++ nos n))) := z
  show PoS K W0 ⟨H, G, [a, q], []⟩ G _ (fb (.deck a q k0.l k0.b :: ds.map .dat ++ nos n))
  generalize fb (.deck a q k0.l k0.b :: ds.map .dat ++ nos n) = r at z ⊢
  match r, z with
  | .ok (.rt d, E'), z => exact fun v σ' G' H' as' s1 st1 dd1 => done (d := d) z v σ' G' H' as' s1 st1 dd1
  | .ok (.nx, E'), z => exact fun σ' G' H' as' s1 st1 => done (d := .non) z .non σ' G' H' as' s1 st1 .non
  | .ok (.bk, E'), z => exact z.elim
  | .ok (.ct, E'), z => exact z.elim
  | .err x E', z => exact z.elim
end
end DL
namespace DL
open PySem PySem.Spec PyProof.Rows L2

/-- what leaves a callee reaches what is wished for here -/
def PassW (CX : CXT) (X : Cx) (Wi : Wish) : Prop := ∀ (σ : L2.St) (pins : List (Addr × Obj)) (H : Hp) (s : Shared) (e : Value) (s' : Shared), Inv X pins σ H s → CX X.stack H s (Wi σ) e s' → X.xe e s'
theorem passW0 {X : Cx} {Wi : Wish} : PassW CX0 X Wi := fun _ _ _ _ _ _ _ h => h.elim
def CallEnd (X : Cx) (pins : List (Addr × Obj)) (σ : L2.St) (Q : VK) (r : Result) (s' : Shared) : Prop := match r with
  | .ok (.ret u) => EP X pins σ Q u s'
  | .ok _ => False
  | .error e => X.xe e s'
section
variable {X : Cx} {CX : CXT} {k : Nat} {f C : Addr} {fd : FuncData} {ps ks : List Str} {sp : Sp} {Wi : Wish} {σ : L2.St} {pins : List (Addr × Obj)} {H : Hp} {s : Shared} {Q : VK} {us : List Value} {vs : List V}
theorem ends_of (hx : PassW CX X Wi) (I : Inv X pins σ H s) {r : Result} {s' : Shared} (hq : CR CX X.stack X.prog X.w H s Q (Wi σ) r s') : CallEnd X pins σ Q r s' := by
  cases r with
  | error e => exact hx σ pins H s e s' I hq
  | ok fl =>
    cases fl with
    | ret u => exact I.after hq
    | next => exact hq.elim
    | brk => exact hq.elim
    | cont => exact hq.elim
theorem call_go (F : FnG X.prog X.w X.K X.mg X.base CX k f fd ps sp) (hg : X.A.guards = some []) (hr : Room k X.A) (hx : PassW CX X Wi) (I : Inv X pins σ H s) {args : Args} (hb : BindsTo s fd args (ps.zip us)) (r : Vals vs us) (h : sp vs H Q (Wi σ)) :
    codeAny (model X.prog X.w) X.A (.call (.ref f) args) (CallEnd X pins σ Q) s :=
  codeAny_mono (F.go X.A X.stack s H args us vs Q (Wi σ) hg hr I.env0 hb r h) fun _ _ hq => ends_of hx I hq
theorem code_call {f : Value} {us : List Value} {kw : List (Str × Value)} (h : codeAny (model X.prog X.w) X.A (.call f ⟨us, kw⟩) (CallEnd X pins σ Q) s) : wpAny (model X.prog X.w) X.A (call f us kw) (EP X pins σ Q) X.xe s := by
  refine wpAny_call (codeAny_mono h fun r s' hq => ?_)
  cases r with
  | error e => exact hq
  | ok fl =>
    cases fl with
    | ret u => exact hq
    | next => exact hq.elim
    | brk => exact hq.elim
    | cont => exact hq.elim
/-- a call by place -/
theorem run_F (F : FnG X.prog X.w X.K X.mg X.base CX k f fd ps sp) (hg : X.A.guards = some []) (hr : Room k X.A) (hb : Binds X.K fd ps []) (hx : PassW CX X Wi) (I : Inv X pins σ H s) (r : Vals vs us) (h : sp vs H Q (Wi σ)) :
    wpAny (model X.prog X.w) X.A (call (.ref f) us) (EP X pins σ Q) X.xe s := by
  have hl : us.length = ps.length := by rw [← r.length]; exact F.len _ _ _ _ h
  have b := hb s us I.kIn (by rw [List.append_nil]; exact hl)
  rw [List.append_nil] at b
  exact code_call (call_go F hg hr hx I b r h)
end

/-- what a call by the mirror's answer r leaves -/
def ret (r : Res D) (E : Env) : Res (W × Env) := match r with
  | .ok d => .ok (.dat d, E)
  | .err x _ => .err x E
  | .stuck => .stuck
def eF (n : Nat) (fm : List D → Res D) (fs : AF) : EF := fun E => (fs E).bind fun p => (ofO (dats p.1)).bind fun ds => if ds.length = n then ret (fm ds) p.2 else .stuck
section
variable {K : PySem.W.Frag} {Wi : Wish} {F : Fr} {G H : Hp} {σ : L2.St} {E : Env} {as : Nat → List Addr} {Q : VK}
theorem spP_of {n : Nat} {fm : List D → Res D} {vs : List V} {ds : List D} (st : StE K F G H σ E as) (dd : DDs K G vs ds) (hn : ds.length = n) (p : Po K Wi F G σ Q (ret (fm ds) E)) : spP K n fm vs H Q (Wi σ) := by
  refine ⟨G, ds, st.s1, dd, hn, ?_⟩
  unfold ret at p
  generalize fm ds = r at p ⊢
  match r, p with
  | .ok d, p => exact Po.rz st p
  | .err x _, p => exact fun c dx G' H' al xo => p c dx G' H' as al.g (st.al al) xo
end
def tCallG (sp : Sp) (Wi : Wish) (t : TA) : TE := fun σ H Q => t σ H fun vs H1 => sp vs H1 Q (Wi σ)
section
variable {X : Cx} {CX : CXT} {k n : Nat} {f C : Addr} {fd : FuncData} {ps ks : List Str} {Wi : Wish} {x m : Str} {p pos apos : Pos} {e o : Expr} {es : List Expr} {fs : AF} {fo : EF} {fm : List D → Res D} {sp : Sp} {t : TA}
theorem tCallG_of : ∀ σ H Q, tE X.K Wi (eF n fm fs) σ H Q → tCallG (spP X.K n fm) Wi (tA X.K Wi fs) σ H Q := by
  intro σ H Q q
  obtain ⟨F, G, E, as, st, p⟩ := q
  refine ⟨F, G, E, as, st, PoA.mono (fun vs H1 m => ?_) (PoA.bind p)⟩
  obtain ⟨ws, G1, E1, as1, s1, st1, wo1, p1⟩ := m
  obtain ⟨ds, e1, p1⟩ := Po.of p1
  by_cases hn : ds.length = n
  · rw [if_pos hn] at p1
    exact spP_of st1 (dats_ok wo1 e1) hn p1
  · rw [if_neg hn] at p1; exact p1.elim
/-- f(e, ..) -/
theorem pe_F (F : FnG X.prog X.w X.K X.mg X.base CX k f fd ps sp) (hg : X.A.guards = some []) (hr : Room k X.A) (gl : Gl X x) (hm : X.mg x = some (.ref f)) (hk : PySem.W.keepIn X.K (.ref f) = true) (hb : Binds X.K fd ps []) (hx : PassW CX X Wi)
    (ha : PA X (e :: es) t) (hdb : (x == ("__debug__" : Str)) = false := by decide) (he : starEach (e :: es) X.env = (false, eval e X.env) :: starEach es X.env := by rfl) (hpl : (backTo pos (starEach es X.env)).any (·.1) = false := by rfl) :
    PE X (.Call (.Name x p) (e :: es) [] pos) (tCallG sp Wi t) := ⟨fun pins s σ H Q I h =>
  wpAny_Call_Name_kw (ld_glob I gl hm (PySem.W.callWith_K (h₀ := X.base) I.ok.mod.kin hk (thn (ha.run pos pins s σ H _ I h) fun us s1 ⟨vs, H1, I1, r, q⟩ => ⟨I1.kIn, run_F F hg hr hb hx I1 r q⟩) he hpl) hdb)⟩
theorem de_F (F : FnG X.prog X.w X.K X.mg X.base CX k f fd ps (spP X.K n fm)) (hg : X.A.guards = some []) (hr : Room k X.A) (gl : Gl X x) (hm : X.mg x = some (.ref f)) (hk : PySem.W.keepIn X.K (.ref f) = true) (hb : Binds X.K fd ps []) (hx : PassW CX X Wi)
    (ha : DA X Wi (e :: es) fs) (hdb : (x == ("__debug__" : Str)) = false := by decide) (he : starEach (e :: es) X.env = (false, eval e X.env) :: starEach es X.env := by rfl) (hpl : (backTo pos (starEach es X.env)).any (·.1) = false := by rfl) :
    DE X Wi (.Call (.Name x p) (e :: es) [] pos) (eF n fm fs) := PE.imp (pe_F F hg hr gl hm hk hb hx ha hdb he hpl) tCallG_of

/-- the deck in a slot -/
def deckAt (E : Env) (i : Nat) : Option (Addr × Addr × Dk) := match E[i]? with
  | some (.deck a q l b) => some (a, q, ⟨l, b⟩)
  | _ => none
theorem deckAt_ok {E : Env} {i : Nat} {a q : Addr} {k : Dk} (h : deckAt E i = some (a, q, k)) : E[i]? = some (.deck a q k.l k.b) := by
  unfold deckAt at h
  cases e : E[i]? with
  | none => rw [e] at h; cases h
  | some c =>
    rw [e] at h
    cases c with
    | deck a' q' l b => cases h; rfl
    | no => cases h
    | dat _ => cases h
    | own _ => cases h
    | slf _ _ => cases h
    | cls _ => cases h
    | ob _ _ _ => cases h
    | sob _ _ _ => cases h
def retK (i : Nat) (a q : Addr) (r : Res (D × Dk)) (E : Env) : Res (W × Env) := match r with
  | .ok (d, k) => .ok (.dat d, E.set i (.deck a q k.l k.b))
  | _ => .stuck
/-- f(deck, e, ..): the deck in slot i -/
def eK (i n : Nat) (fm : Addr → Addr → Dk → List D → Res (D × Dk)) (fs : AF) : EF := fun E => (ofO (deckAt E i)).bind fun _ => (fs E).bind fun p => (ofO (dats p.1)).bind fun ds => (ofO (deckAt p.2 i)).bind fun z =>
  if ds.length = n then retK i z.1 z.2.1 (fm z.1 z.2.1 z.2.2 ds) p.2 else .stuck
theorem StE.deckC {K : PySem.W.Frag} {F : Fr} {G H G' H' : Hp} {σ : L2.St} {E : Env} {as : Nat → List Addr} {i : Nat} {a q : Addr} {l l' : List Int} {b b' : Int} (st : StE K F G H σ E as) (e : E[i]? = some (.deck a q l b)) (s : Same G G') (s1 : Same G' H')
    (kp : ∀ b o, H b = some o → b ≠ a → b ≠ q → H' b = some o) (pv : ∀ b o, G' b ≠ none → H b = some o → isT o = false → b ≠ a → b ≠ q → G b ≠ none) (ga : G' a = none) (gq : G' q = none) (dk : DeckAt H' a q l' b') :
    StE K F G' H' σ (E.set i (.deck a q l' b')) as := by
  obtain ⟨v, e1, ea, ev, dk0⟩ := st.cell i _ e
  have ma : a ∈ as i := by rw [ea]; simp
  have mq : q ∈ as i := by rw [ea]; simp
  have dom' : ∀ b, H' b = none → H b = none := fun c h => by
    cases hc : H c with
    | none => rfl
    | some o =>
      by_cases h1 : c = a
      · rw [h1, dk.1] at h; cases h
      · by_cases h2 : c = q
        · rw [h2, dk.2] at h; cases h
        · rw [kp c o hc h1 h2] at h; cases h
  refine ⟨by rw [List.length_set]; exact st.len, st.s0.trans s, s1, fun c o h x => ?_, fun c h => st.dom c (dom' c h), fun c o h h0 ht x => ?_, fun j c' q' => ?_, st.sep, fun j c h => ⟨?_, (st.off j c h).2⟩, fun j hj => st.tail j (by rw [List.length_set] at hj; exact hj)⟩
  · have na : c ≠ a := fun z => by
      rw [z] at h x
      rcases (st.off i a ma).2 with y | y
      · rw [y] at h; cases h
      · exact x y
    have nq : c ≠ q := fun z => by
      rw [z] at h x
      rcases (st.off i q mq).2 with y | y
      · rw [y] at h; cases h
      · exact x y
    exact kp c o (st.keep c o h x) na nq
  · by_cases h1 : c = a
    · rw [h1, ga] at h; exact absurd rfl h
    · by_cases h2 : c = q
      · rw [h2, gq] at h; exact absurd rfl h
      · exact st.priv c o (pv c o h (st.keep c o h0 x) ht h1 h2) h0 ht x
  · rcases get_set q' with ⟨rfl, rfl⟩ | ⟨hj, q'⟩
    · exact ⟨v, e1, ea, ev, dk⟩
    · obtain ⟨w, e2, y⟩ := st.cell j c' q'
      refine ⟨w, e2, y.up s fun c hc o h => kp c o h (fun z => ?_) fun z => ?_⟩
      · exact hj (st.sep j i c hc (by rw [z]; exact ma))
      · exact hj (st.sep j i c hc (by rw [z]; exact mq))
  · by_cases h1 : c = a
    · rw [h1]; exact ga
    · by_cases h2 : c = q
      · rw [h2]; exact gq
      · cases hc : G' c with
        | none => rfl
        | some u =>
          obtain ⟨o, ho, ht⟩ := st.thereM h
          exact absurd (st.off j c h).1 (pv c o (by rw [hc]; exact fun z => nomatch z) ho ht h1 h2)
theorem tCallK_of {i : Nat} {fk : Addr → Addr → Dk → List D → Res (D × Dk)} : ∀ σ H Q, tE X.K Wi (eK i n fk fs) σ H Q → tCallG (spK X.K n fk) Wi (tCons (tVar i) (tA X.K Wi fs)) σ H Q := by
  intro σ H Q q
  obtain ⟨F, G, E, as, st, p⟩ := q
  obtain ⟨⟨a0, q0, k0⟩, e0, p⟩ := Po.of p
  obtain ⟨v0, hv, _, ev0, _⟩ := st.cell i _ (deckAt_ok e0)
  cases ev0
  refine ⟨_, hv, F, G, E, as, st, PoA.mono (fun vs H1 m => ?_) (PoA.bind p)⟩
  obtain ⟨ws, G1, E1, as1, s1, st1, wo1, p1⟩ := m
  obtain ⟨ds, e1, p1⟩ := Po.of p1
  obtain ⟨⟨a, q, k1⟩, e2, p1⟩ := Po.of p1
  have p1 : Po X.K Wi F G1 σ Q (if ds.length = n then retK i a q (fk a q k1 ds) E1 else .stuck) := p1
  by_cases hn : ds.length = n
  · rw [if_pos hn] at p1
    have hi := deckAt_ok e2
    obtain ⟨u, e3, ea, ev, dk⟩ := st1.cell i _ hi
    rw [hv] at e3; cases e3; cases ev
    have ga := (st1.off i a0 (by rw [ea]; simp)).1
    have gq := (st1.off i q (by rw [ea]; simp)).1
    refine ⟨G1, a0, q, k1, vs, ds, rfl, st1.s1, ga, gq, dk, dats_ok wo1 e1, hn, ?_⟩
    unfold retK at p1
    generalize fk a0 q k1 ds = r at p1 ⊢
    match r, p1 with
    | .ok (d, k'), p1 => exact fun w G' H' s2 s3 kp pv ga' gq' dk' dd => p1 w G' H' as1 s2 (st1.deckC hi s2 s3 kp pv ga' gq' dk') dd
    | .err y _, p1 => exact p1.elim
    | .stuck, p1 => exact p1.elim
  · rw [if_neg hn] at p1; exact p1.elim
theorem de_K {i : Nat} {fk : Addr → Addr → Dk → List D → Res (D × Dk)} (F : FnG X.prog X.w X.K X.mg X.base CX k f fd ps (spK X.K n fk)) (hg : X.A.guards = some []) (hr : Room k X.A) (gl : Gl X x) (hm : X.mg x = some (.ref f)) (hk : PySem.W.keepIn X.K (.ref f) = true) (hb : Binds X.K fd ps []) (hx : PassW CX X Wi)
    (hv : PE X e (tVar i)) (ha : DA X Wi es fs) (hdb : (x == ("__debug__" : Str)) = false := by decide) (he : starEach (e :: es) X.env = (false, eval e X.env) :: starEach es X.env := by rfl) (hpl : (backTo pos (starEach es X.env)).any (·.1) = false := by rfl) :
    DE X Wi (.Call (.Name x p) (e :: es) [] pos) (eK i n fk fs) := PE.imp (pe_F F hg hr gl hm hk hb hx (pa_cons hv ha he) hdb he hpl) tCallK_of

end
end DL
namespace DL
open PySem PySem.Spec PyProof.Rows L2 TL

theorem strOk_iff {x : Str} : PyData.strOk x = true ↔ ∀ c ∈ tl x, c < 0x110000 := by
  unfold PyData.strOk tl
  rw [← Array.all_toList, List.all_eq_true]
  simp
theorem SOk.app {x y : Str} (hx : SOk x) (hy : SOk y) (h : x.length + y.length ≤ sizeLine) : SOk (x ++ y) := by
  have e : (x ++ y).length = x.length + y.length := strLen_append x y
  refine ⟨by rw [e]; exact h, strOk_iff.mpr fun c hc => ?_⟩
  rw [tl_append] at hc
  rcases List.mem_append.mp hc with h | h
  · exact strOk_iff.mp hx.2 c h
  · exact strOk_iff.mp hy.2 c h
theorem SOk.sign {x : Str} {c : Nat} (hx : SOk x) (h : c ∈ tl x) : SOk ⟨#[c]⟩ := by
  refine ⟨by show 1 ≤ sizeLine; decide, strOk_iff.mpr fun d hd => ?_⟩
  have e : tl ⟨#[c]⟩ = [c] := rfl
  rw [e] at hd
  rw [List.mem_singleton.mp hd]
  exact strOk_iff.mp hx.2 c h

section
variable {X : Cx} {pins : List (Addr × Obj)} {σ : L2.St} {G H : Hp} {s : Shared} {v : V} {u : Value} {d : D}
theorem BD.reads (I : Inv X pins σ H s) (e : Same G H) (p : d.plain = true) (h : BD X.K G H v d) (r : RelV v u) : ∃ as, Reads s.heap u d.py as := by
  cases h with
  | dat dd => exact DD.reads I e d v u p dd r
  | own ev o =>
    subst ev
    cases r
    cases d with
    | lst ds =>
      obtain ⟨vs, e1, z, ha⟩ := o
      obtain ⟨its, rv, ⟨o, n, ho, hc, _, hd⟩, _⟩ := I.list (SqL.of e1)
      obtain ⟨as, hr⟩ := DDs.reads I e ds _ its (by simpa [D.plain] using p) ha rv
      exact ⟨_, Reads.list ho hc hd hr⟩
    | dic _ => cases p
    | dit _ => cases p
    | dix _ _ => cases p
    | exn _ _ => cases p
    | _ => first | exact o.elim | cases p
theorem BD.lay {K : PySem.W.Frag} (p : d.plain = true) (h : BD K G H v d) : d.py.canLay0 = true := by
  cases h with
  | dat dd => exact DD.lay d v p dd
  | own ev o =>
    cases d with
    | lst ds =>
      obtain ⟨vs, e1, z, ha⟩ := o
      exact DDs.lay ds _ (by simpa [D.plain] using p) ha
    | dic _ => cases p
    | dit _ => cases p
    | dix _ _ => cases p
    | exn _ _ => cases p
    | _ => first | exact o.elim | cases p
/-- a list -/
theorem BD.lst {K : PySem.W.Frag} (s : Same G H) {ds : List D} (h : BD K G H v (.lst ds)) : ∃ a vs, v = .ref a ∧ H a = some (.lst vs) ∧ vs.length ≤ sizeLine ∧ DDs K G vs ds := by
  cases h with
  | dat dd => cases dd with | lst g z r => exact ⟨_, _, rfl, s _ _ g, z, r⟩
  | own ev o => obtain ⟨vs, e1, z, r⟩ := o; exact ⟨_, vs, ev, e1, z, r⟩
theorem BD.tup {K : PySem.W.Frag} (s : Same G H) {ds : List D} (h : BD K G H v (.tup ds)) : ∃ a vs, v = .ref a ∧ H a = some (.tup vs) ∧ vs.length ≤ sizeLine ∧ DDs K G vs ds ∧ G a = some (.tup vs) := by
  cases h with
  | dat dd => cases dd with | tup g z r => exact ⟨_, _, rfl, s _ _ g, z, r, g⟩
  | own ev o => exact o.elim
theorem BD.int {K : PySem.W.Frag} {i : Int} (h : BD K G H v (.int i)) : v = .int i := by
  cases h with
  | dat dd => cases dd; rfl
  | own ev o => exact o.elim
theorem BD.bl {K : PySem.W.Frag} {i : Bool} (h : BD K G H v (.bl i)) : v = .bl i := by
  cases h with
  | dat dd => cases dd; rfl
  | own ev o => exact o.elim
theorem BD.non {K : PySem.W.Frag} (h : BD K G H v .non) : v = .non := by
  cases h with
  | dat dd => cases dd; rfl
  | own ev o => exact o.elim
theorem BD.str {K : PySem.W.Frag} {x : Str} (h : BD K G H v (.str x)) : v = .str x ∧ SOk x := by
  cases h with
  | dat dd => cases dd with | str _ h => exact ⟨rfl, h⟩
  | own ev o => exact o.elim
theorem BD.dic {K : PySem.W.Frag} (s : Same G H) {kd : List (Key × D)} (h : BD K G H v (.dic kd)) : ∃ a kv, v = .ref a ∧ H a = some (.dK kv) ∧ DKs K G kv kd := by
  cases h with
  | dat dd => cases dd with | dic g r => exact ⟨_, _, rfl, s _ _ g, r⟩
  | own ev o => obtain ⟨kv, e1, r⟩ := o; exact ⟨_, kv, ev, e1, r⟩
theorem BD.dit {K : PySem.W.Frag} (s : Same G H) {kd : List (List Key × D)} (h : BD K G H v (.dit kd)) : ∃ a kv, v = .ref a ∧ H a = some (.dT kv) ∧ DTs K G kv kd := by
  cases h with
  | dat dd => cases dd with | dit g r => exact ⟨_, _, rfl, s _ _ g, r⟩
  | own ev o => obtain ⟨kv, e1, r⟩ := o; exact ⟨_, kv, ev, e1, r⟩
end

def gAdd : D → D → Option D
  | .int i, .int j => some (.int (i + j))
  | .str x, .str y => if x.length + y.length ≤ sizeLine then some (.str (x ++ y)) else none
  | .lst x, .lst y => if x.length + y.length ≤ sizeLine then some (.lst (x ++ y)) else none
  | .tup x, .tup y => if x.length + y.length ≤ sizeLine then some (.tup (x ++ y)) else none
  | _, _ => none
def rAddA (K : PySem.W.Frag) : R2 := fun x y H Q => (∃ i j, x = .int i ∧ y = .int j ∧ Q (.int (i + j)) H) ∨ (∃ i j, x = .str i ∧ y = .str j ∧ i.length + j.length ≤ sizeLine ∧ Q (.str (i ++ j)) H) ∨ rCat x y H Q ∨ rCatA K x y H Q
theorem op_addA {X : Cx} : OpR X (binaryOp .Add) (rAddA X.K) := op_add.or (op_add_str.or (op_cat.or op_catA))
theorem ifs_some {c : Prop} [Decidable c] {a d : D} (h : (if c then some a else none) = some d) : c ∧ d = a := by
  by_cases q : c
  · rw [if_pos q] at h; cases h; exact ⟨q, rfl⟩
  · rw [if_neg q] at h; cases h
theorem opd_add {K : PySem.W.Frag} : OpD K (rAddA K) gAdd := by
  intro G H x y a b d Q s ha hb e z
  cases a with
  | int i =>
    cases b with
    | int j => cases e; exact .inl ⟨i, j, ha.int, hb.int, z _ _ _ (Al.refl s) (.int _)⟩
    | _ => cases e
  | str i =>
    cases b with
    | str j =>
      obtain ⟨hl, rfl⟩ := ifs_some e
      exact .inr (.inl ⟨i, j, ha.str.1, hb.str.1, hl, z _ _ _ (Al.refl s) (.str _ (ha.str.2.app hb.str.2 hl))⟩)
    | _ => cases e
  | lst i =>
    cases b with
    | lst j =>
      obtain ⟨hl, rfl⟩ := ifs_some e
      obtain ⟨p, vs, rfl, h1, z1, d1⟩ := ha.lst s
      obtain ⟨q, ws, rfl, h2, z2, d2⟩ := hb.lst s
      have hl' : vs.length + ws.length ≤ sizeLine := by rw [d1.len, d2.len]; exact hl
      exact .inr (.inr (.inl ⟨p, q, vs, ws, rfl, rfl, h1, h2, hl', fun r hr => z.new s r _ hr (Al.one s hr).h ⟨_, upd_same, by rw [List.length_append]; exact hl', d1.app d2⟩⟩))
    | _ => cases e
  | tup i =>
    cases b with
    | tup j =>
      obtain ⟨hl, rfl⟩ := ifs_some e
      obtain ⟨p, vs, rfl, h1, z1, d1, g1⟩ := ha.tup s
      obtain ⟨q, ws, rfl, h2, z2, d2, g2⟩ := hb.tup s
      have hl' : vs.length + ws.length ≤ sizeLine := by rw [d1.len, d2.len]; exact hl
      refine .inr (.inr (.inr ?_))
      have both : ∀ r, H r = none → Q (.ref r) (upd H r (.tup (vs ++ ws))) := fun r hr => z _ _ _ (Al.one s hr) (.tup upd_same (by rw [List.length_append]; exact hl') ((d1.app d2).up (Al.one s hr).g))
      have hv : vs = [] → Q (.ref q) H := fun e => by
        subst e
        have e2 : i = [] := by have := d1.len; simpa using this.symm
        subst e2
        exact z _ _ _ (Al.refl s) (.tup g2 z2 d2)
      have hw : ws = [] → Q (.ref p) H := fun e => by
        subst e
        have e2 : j = [] := by have := d2.len; simpa using this.symm
        subst e2
        exact z _ _ _ (Al.refl s) (by rw [List.append_nil]; exact .tup g1 z1 d1)
      exact ⟨p, q, vs, ws, rfl, rfl, SqT.of h1, SqT.of h2, hl', hv, fun _ e => hw e, fun _ _ r hr => both r hr⟩
    | _ => cases e
  | _ => cases b <;> cases e

def gSub : D → D → Option D
  | .int i, .int j => some (.int (i - j))
  | _, _ => none
theorem opd_sub {K : PySem.W.Frag} : OpD K (rI0 fun i j => .int (i - j)) gSub := by
  intro G H x y a b d Q s ha hb e z
  cases a with
  | int i =>
    cases b with
    | int j => cases e; exact ⟨i, j, ha.int, hb.int, z _ _ _ (Al.refl s) (.int _)⟩
    | _ => cases e
  | _ => cases b <;> cases e

def okCmp (a b : D) : Bool := a.plain && b.plain && decide (min a.py.depth b.py.depth ≤ 60)
def gEq (a b : D) : Option D := if okCmp a b = true then some (.bl (PyData.eqv a.py b.py)) else none
def gNe (a b : D) : Option D := if okCmp a b = true then some (.bl (!PyData.eqv a.py b.py)) else none
def rCm (K : PySem.W.Frag) (f : PyData → PyData → Bool) (ok : PyData → PyData → Prop) : R2 := fun x y H Q => ∃ G a b, Same G H ∧ BD K G H x a ∧ BD K G H y b ∧ a.plain = true ∧ b.plain = true ∧ min a.py.depth b.py.depth ≤ 60 ∧ ok a.py b.py ∧ Q (.bl (f a.py b.py)) H
theorem okCmp_iff {a b : D} (h : okCmp a b = true) : a.plain = true ∧ b.plain = true ∧ min a.py.depth b.py.depth ≤ 60 := by
  unfold okCmp at h
  rw [Bool.and_eq_true, Bool.and_eq_true] at h
  exact ⟨h.1.1, h.1.2, of_decide_eq_true h.2⟩
theorem opd_eq {K : PySem.W.Frag} : OpD K (rCm K PyData.eqv fun _ _ => True) gEq := by
  intro G H x y a b d Q s ha hb e z
  obtain ⟨h, rfl⟩ := ifs_some e
  obtain ⟨h1, h2, h3⟩ := okCmp_iff h
  exact ⟨G, a, b, s, ha, hb, h1, h2, h3, trivial, z _ _ _ (Al.refl s) (.bl _)⟩
theorem opd_ne {K : PySem.W.Frag} : OpD K (rCm K (fun a b => !PyData.eqv a b) fun _ _ => True) gNe := by
  intro G H x y a b d Q s ha hb e z
  obtain ⟨h, rfl⟩ := ifs_some e
  obtain ⟨h1, h2, h3⟩ := okCmp_iff h
  exact ⟨G, a, b, s, ha, hb, h1, h2, h3, trivial, z _ _ _ (Al.refl s) (.bl _)⟩
def notN : PyData → Bool
  | .none => false
  | _ => true
theorem notN_ne {d : PyData} (h : notN d = true) : d ≠ .none := fun e => by rw [e] at h; cases h
def gLt (a b : D) : Option D := if (okCmp a b && PySem.W.alike a.py b.py && notN a.py) = true then some (.bl (PySem.W.dataLt a.py b.py)) else none
theorem opd_lt {K : PySem.W.Frag} : OpD K (rCm K PySem.W.dataLt fun a b => PySem.W.alike a b = true ∧ a ≠ .none) gLt := by
  intro G H x y a b d Q s ha hb e z
  obtain ⟨h, rfl⟩ := ifs_some e
  rw [Bool.and_eq_true, Bool.and_eq_true] at h
  obtain ⟨h1, h2, h3⟩ := okCmp_iff h.1.1
  exact ⟨G, a, b, s, ha, hb, h1, h2, h3, ⟨h.1.2, notN_ne h.2⟩, z _ _ _ (Al.refl s) (.bl _)⟩
section
variable {X : Cx} (hu : X.A.units + 64 < cLine)
include hu
theorem op_eqq : OpR X (compareOp .Eq) (rCm X.K PyData.eqv fun _ _ => True) := by
  intro pins s σ H x y v u Q I rx ry ⟨G, a, b, sm, ha, hb, p1, p2, hd, _, q⟩
  obtain ⟨as, r1⟩ := ha.reads I sm p1 rx
  obtain ⟨bs, r2⟩ := hb.reads I sm p2 ry
  exact SeqAt.compareEq_reads r1 r2 (ha.lay p1) (hb.lay p2) (by omega) ⟨.bl _, H, I, rfl, q⟩
theorem op_neq : OpR X (compareOp .NotEq) (rCm X.K (fun a b => !PyData.eqv a b) fun _ _ => True) := by
  intro pins s σ H x y v u Q I rx ry ⟨G, a, b, sm, ha, hb, p1, p2, hd, _, q⟩
  obtain ⟨as, r1⟩ := ha.reads I sm p1 rx
  obtain ⟨bs, r2⟩ := hb.reads I sm p2 ry
  exact SeqAt.compareNe_reads r1 r2 (ha.lay p1) (hb.lay p2) (by omega) ⟨.bl _, H, I, rfl, q⟩
theorem op_ltt : OpR X (compareOp .Lt) (rCm X.K PySem.W.dataLt fun a b => PySem.W.alike a b = true ∧ a ≠ .none) := by
  intro pins s σ H x y v u Q I rx ry ⟨G, a, b, sm, ha, hb, p1, p2, hd, hk, q⟩
  obtain ⟨as, r1⟩ := ha.reads I sm p1 rx
  obtain ⟨bs, r2⟩ := hb.reads I sm p2 ry
  exact PySem.W.lt_data r1 r2 hk.1 hk.2 (by omega) ⟨.bl _, H, I, rfl, q⟩
end
end DL
namespace DL
open PySem PySem.Spec PyProof.Rows L2 TL

def inS (x y : Str) : Bool := !(Builtin.Str.occurrences y x 0 y.length 1).isEmpty
def gInQ (neg : Bool) : D → D → Option D
  | .str x, .str y => some (.bl (if neg then !(inS x y) else inS x y))
  | d, .lst ds => if (d.plain && plainL ds && decide (min (PyData.depthAll (pyL ds)) d.py.depth ≤ 60)) = true then some (.bl (if neg then !((pyL ds).any fun y => PyData.eqv y d.py) else (pyL ds).any fun y => PyData.eqv y d.py)) else none
  | d, .tup ds => if (d.plain && plainL ds && decide (min (PyData.depthAll (pyL ds)) d.py.depth ≤ 60)) = true then some (.bl (if neg then !((pyL ds).any fun y => PyData.eqv y d.py) else (pyL ds).any fun y => PyData.eqv y d.py)) else none
  | _, _ => none
def rInQ (K : PySem.W.Frag) (neg : Bool) : R2 := fun x y H Q => (∃ a b, x = .str a ∧ y = .str b ∧ Q (.bl (if neg then !(inS a b) else inS a b)) H) ∨
  ∃ G d ds c, (c = D.lst ds ∨ c = D.tup ds) ∧ Same G H ∧ BD K G H x d ∧ BD K G H y c ∧ d.plain = true ∧ plainL ds = true ∧ min (PyData.depthAll (pyL ds)) d.py.depth ≤ 60 ∧
    Q (.bl (if neg then !((pyL ds).any fun y => PyData.eqv y d.py) else (pyL ds).any fun y => PyData.eqv y d.py)) H
theorem opd_in {K : PySem.W.Frag} {neg : Bool} : OpD K (rInQ K neg) (gInQ neg) := by
  intro G H x y a b d Q s ha hb e z
  have seq : ∀ (ds : List D) (c : D), (c = D.lst ds ∨ c = D.tup ds) → BD K G H y c →
      (if (a.plain && plainL ds && decide (min (PyData.depthAll (pyL ds)) a.py.depth ≤ 60)) = true then some (D.bl (if neg then !((pyL ds).any fun y => PyData.eqv y a.py) else (pyL ds).any fun y => PyData.eqv y a.py)) else none) = some d → rInQ K neg x y H Q := fun ds c hc hb e => by
    obtain ⟨h, rfl⟩ := ifs_some e
    rw [Bool.and_eq_true, Bool.and_eq_true] at h
    exact .inr ⟨G, a, ds, c, hc, s, ha, hb, h.1.1, h.1.2, of_decide_eq_true h.2, z _ _ _ (Al.refl s) (.bl _)⟩
  cases b with
  | str y =>
    cases a with
    | str x => cases e; exact .inl ⟨x, y, ha.str.1, hb.str.1, z _ _ _ (Al.refl s) (.bl _)⟩
    | _ => cases e
  | lst ds =>
    refine seq ds _ (.inl rfl) hb ?_
    cases a <;> exact e
  | tup ds =>
    refine seq ds _ (.inr rfl) hb ?_
    cases a <;> exact e
  | _ => cases a <;> cases e
section
variable {X : Cx} (hu : X.A.units + 64 < cLine)
include hu
theorem op_inq : OpR X (compareOp .In) (rInQ X.K false) := by
  intro pins s σ H x y v u Q I rx ry h
  rcases h with ⟨a, b, rfl, rfl, q⟩ | ⟨G, d, ds, c, hc, sm, hx, hy, p1, p2, hd, q⟩
  · exact op_in_str pins s σ H _ _ v u Q I rx ry ⟨a, b, rfl, rfl, q⟩
  · have pc : c.plain = true := by rcases hc with rfl | rfl <;> simpa [D.plain] using p2
    obtain ⟨as, r1⟩ := hx.reads I sm p1 rx
    obtain ⟨bs, r2⟩ := hy.reads I sm pc ry
    have l1 := hx.lay p1
    have l2 := hy.lay pc
    rcases hc with rfl | rfl
    · exact PySem.SeqAt.in_list_reads r2 r1 l2 l1 (by omega) ⟨.bl _, H, I, rfl, q⟩
    · exact PySem.SeqAt.in_tuple_reads r2 r1 l2 l1 (by omega) ⟨.bl _, H, I, rfl, q⟩
end

def gLen : List D → Option D
  | [.str x] => some (.int x.length)
  | [.lst ds] => some (.int ds.length)
  | [.tup ds] => some (.int ds.length)
  | _ => none
theorem BDs.one {K : PySem.W.Frag} {G H : Hp} {xs : List V} {d : D} (h : BDs K G H xs [d]) : ∃ x, xs = [x] ∧ BD K G H x d := by
  cases h with
  | cons a b => cases b; exact ⟨_, rfl, a⟩
theorem calld_len {K : PySem.W.Frag} : CallD K (fun xs H Q => ∃ x n, xs = [x] ∧ LenV K x H n ∧ Q (.int n) H) gLen := by
  intro G H xs ds d Q s h e z
  match ds, e with
  | [.str x], e =>
    cases e
    obtain ⟨v, rfl, b⟩ := h.one
    obtain ⟨rfl, ok⟩ := b.str
    exact ⟨_, _, rfl, ⟨ok.1, rfl⟩, z _ _ _ (Al.refl s) (.int _)⟩
  | [.lst ds], e =>
    cases e
    obtain ⟨v, rfl, b⟩ := h.one
    obtain ⟨a, vs, rfl, h1, z1, d1⟩ := b.lst s
    exact ⟨_, _, rfl, .inl ⟨vs, SqL.of h1, rfl⟩, by rw [d1.len]; exact z _ _ _ (Al.refl s) (.int _)⟩
  | [.tup ds], e =>
    cases e
    obtain ⟨v, rfl, b⟩ := h.one
    obtain ⟨a, vs, rfl, h1, z1, d1, _⟩ := b.tup s
    exact ⟨_, _, rfl, .inr ⟨vs, SqT.of h1, rfl⟩, by rw [d1.len]; exact z _ _ _ (Al.refl s) (.int _)⟩
def gIx : D → D → Option D
  | .lst ds, .int i => atI ds i
  | .tup ds, .int i => atI ds i
  | .str x, .int i => (atI (tl x) i).map fun c => .str ⟨#[c]⟩
  | _, _ => none
theorem atI_dd {K : PySem.W.Frag} {G : Hp} {vs : List V} {ds : List D} {i : Int} {d : D} (h : DDs K G vs ds) (e : atI ds i = some d) : ∃ v, atI vs i = some v ∧ DD K G v d := by
  unfold atI at e ⊢
  rw [h.len]
  cases q : ixN ds.length i with
  | none => rw [q] at e; cases e
  | some j =>
    rw [q] at e
    exact h.get e
theorem opd_ix {K : PySem.W.Frag} : OpD K (rIx K) gIx := by
  intro G H x y a b d Q s ha hb e z
  cases b with
  | int i =>
    cases a with
    | lst ds =>
      obtain ⟨p, vs, rfl, h1, z1, d1⟩ := ha.lst s
      obtain ⟨v, e1, dd⟩ := atI_dd d1 (show atI ds i = some d from e)
      exact .inl ⟨p, vs, i, v, rfl, hb.int, SqL.of h1, e1, z _ _ _ (Al.refl s) dd⟩
    | tup ds =>
      obtain ⟨p, vs, rfl, h1, z1, d1, _⟩ := ha.tup s
      obtain ⟨v, e1, dd⟩ := atI_dd d1 (show atI ds i = some d from e)
      exact .inr (.inl ⟨p, vs, i, v, rfl, hb.int, SqT.of h1, e1, z _ _ _ (Al.refl s) dd⟩)
    | str t =>
      obtain ⟨rfl, ok⟩ := ha.str
      have e : (atI (tl t) i).map (fun c => D.str ⟨#[c]⟩) = some d := e
      cases q : atI (tl t) i with
      | none => rw [q] at e; cases e
      | some c =>
        rw [q] at e; cases e
        obtain ⟨j, _, hj, _⟩ := atI_get q
        exact .inr (.inr ⟨t, i, c, rfl, hb.int, ok.1, q, z _ _ _ (Al.refl s) (.str _ (ok.sign (List.mem_of_getElem? hj)))⟩)
    | _ => cases e
  | _ => cases a <;> cases e
end DL
namespace DL
open PySem PySem.Spec PyProof.Rows L2 TL

def Cp (l : List Nat) : Prop := ∀ c ∈ l, c < 0x110000
theorem Cp.app {a b : List Nat} (ha : Cp a) (hb : Cp b) : Cp (a ++ b) := fun c h => (List.mem_append.mp h).elim (ha c) (hb c)
theorem cp_string (s : String) : Cp (tl (Str.ofString s)) := by
  rw [tl_ofString]
  intro c hc
  obtain ⟨k, _, rfl⟩ := List.mem_map.mp hc
  have h := k.valid
  show k.val.toNat < _
  rcases h with h | h
  · have : k.val.toNat < 0xd800 := h
    omega
  · exact h.2
theorem cp_reprChar {q c : Nat} (hq : q < 0x110000) (hc : c < 0x110000) : Cp (Builtin.Str.reprChar q c) := by
  have hex : ∀ w, Cp (List.replicate (w - ((Nat.toDigits 16 c).map Char.toNat).length) 48 ++ (Nat.toDigits 16 c).map Char.toNat) := fun w => by
    refine Cp.app (fun d hd => ?_) fun d hd => ?_
    · rw [(List.mem_replicate.mp hd).2]; decide
    · obtain ⟨k, _, rfl⟩ := List.mem_map.mp hd
      rcases k.valid with h | h
      · have : k.val.toNat < 0xd800 := h
        show k.val.toNat < _
        omega
      · exact h.2
  have two : ∀ a b : Nat, a < 0x110000 → b < 0x110000 → Cp [a, b] := fun a b ha hb d hd => by
    rcases List.mem_cons.mp hd with e | hd
    · rw [e]; exact ha
    · rw [List.mem_singleton.mp hd]; exact hb
  unfold Builtin.Str.reprChar
  dsimp only
  split
  · exact two _ _ (by decide) hc
  split
  · exact two _ _ (by decide) (by decide)
  split
  · exact two _ _ (by decide) (by decide)
  split
  · exact two _ _ (by decide) (by decide)
  split
  · intro d hd; rw [List.mem_singleton.mp hd]; exact hc
  split
  · exact (two _ _ (by decide) (by decide)).app (hex 2)
  split
  · exact (two _ _ (by decide) (by decide)).app (hex 4)
  · exact (two _ _ (by decide) (by decide)).app (hex 8)
theorem cp_fold {q : Nat} (hq : q < 0x110000) : ∀ (l : List Nat) (acc : Array Nat), Cp l → Cp acc.toList → Cp (l.foldl (fun out c => out ++ (Builtin.Str.reprChar q c).toArray) acc).toList
  | [], acc, _, h => h
  | c :: r, acc, hl, h => by
    rw [List.foldl_cons]
    refine cp_fold hq r _ (fun d hd => hl d (List.mem_cons_of_mem _ hd)) ?_
    rw [Array.toList_append]
    exact h.app (cp_reprChar hq (hl c List.mem_cons_self))
theorem cp_reprText {x : Str} (h : Cp (tl x)) : Cp (tl (reprText x)) := by
  have hq : reprQuote x < 0x110000 := by unfold reprQuote; split <;> decide
  unfold reprText
  show Cp (Array.push _ _).toList
  rw [Array.toList_push, ← Array.foldl_toList]
  refine (cp_fold hq _ _ h fun c hc => ?_).app fun c hc => ?_
  · have hc : c ∈ [reprQuote x] := hc
    rw [List.mem_singleton.mp hc]; exact hq
  · rw [List.mem_singleton.mp hc]; exact hq
theorem cp_add {x y : Str} (hx : Cp (tl x)) (hy : Cp (tl y)) : Cp (tl (x ++ y)) := by rw [tl_append]; exact hx.app hy
theorem cp_from : ∀ (ts : List Str) (k : Nat) (acc : Str), Cp (tl acc) → (∀ t ∈ ts, Cp (tl t)) → Cp (tl (textFrom k acc ts))
  | [], _, _, h, _ => h
  | t :: ts, k, acc, h, ht => cp_from ts (k + 1) _ (cp_add (cp_add h (by split <;> exact cp_string _)) (ht t List.mem_cons_self)) fun u hu => ht u (List.mem_cons_of_mem _ hu)
theorem cp_join {y : Str} (hy : Cp (tl y)) : ∀ (ts : List Str), (∀ t ∈ ts, Cp (tl t)) → Cp (tl (Str.join y ts))
  | [], _ => fun c hc => (by cases hc)
  | [t], h => h t List.mem_cons_self
  | t :: u :: r, h => cp_add (cp_add (h t List.mem_cons_self) hy) (cp_join hy (u :: r) fun v hv => h v (List.mem_cons_of_mem _ hv))
section
variable {X : Cx} {Wi : Wish} {o e : Expr} {fo fe : EF} {apos pos : Pos}
end
end DL
namespace DL
open PySem PySem.Spec PyProof.Rows L2 TL

def sgn (c : Nat) : Str := ⟨#[c]⟩
def signs (x : Str) : List D := (tl x).map fun c => D.str (sgn c)
def sqD : D → Option (List D)
  | .lst ds => some ds
  | .tup ds => some ds
  | .str x => some (signs x)
  | _ => none
theorem sok_sgn {x : Str} (h : SOk x) {c : Nat} (hc : c ∈ tl x) : SOk (sgn c) := by
  refine ⟨?_, strOk_iff.mpr fun d hd => ?_⟩
  · show (1 : Nat) ≤ sizeLine
    decide
  · have e : tl (sgn c) = [c] := rfl
    rw [e, List.mem_singleton] at hd
    rw [hd]; exact strOk_iff.mp h.2 c hc
theorem signs_len (x : Str) : (signs x).length = x.length := by
  unfold signs; rw [List.length_map]; rfl
theorem signs_get {x : Str} {i c : Nat} (h : x.cps[i]? = some c) : (signs x)[i]? = some (.str (sgn c)) := by
  unfold signs tl
  rw [List.getElem?_map, Array.getElem?_toList, h]; rfl
theorem signs_mem {x : Str} {i c : Nat} (h : x.cps[i]? = some c) : c ∈ tl x := by
  unfold tl
  exact List.mem_of_getElem? (i := i) (by rw [Array.getElem?_toList]; exact h)

/-- a source of items: where it lies -/
inductive Src where
  | li (a : Addr) | tu (a : Addr) | tx (x : Str) (t : Tok)
def Src.at : Src → Addr → Nat → Heap → Prop
  | .li a, it, i, h => h.IsListIter it a i
  | .tu a, it, i, h => h.IsTupleIter it a i
  | .tx x t, it, i, h => h.IsStrIter it (strIterType x) x t i
def Src.obj : Src → Obj
  | .li a => { cls := .type "list_iterator", data := .fields #[.ref a, .int 0 0] }
  | .tu a => { cls := .type "tuple_iterator", data := .fields #[.ref a, .int 0 0] }
  | .tx x t => { cls := .type (strIterType x), data := .fields #[.str x t, .int 0 0] }
theorem Src.new (k : Src) {h : Heap} {it : Addr} (e : h.get? it = some k.obj) : k.at it 0 h := by
  cases k with
  | li a => exact ⟨_, e, rfl, rfl⟩
  | tu a => exact ⟨_, e, rfl, rfl⟩
  | tx x t => exact ⟨_, e, rfl, rfl⟩
theorem Src.stay {k : Src} {it : Addr} {i : Nat} {h h' : Heap} (st : k.at it i h) (hk : ∀ o, h.get? it = some o → h'.get? it = some o) : k.at it i h' := by
  cases k with
  | li a => obtain ⟨o, e, r⟩ := st; exact ⟨o, hk o e, r⟩
  | tu a => obtain ⟨o, e, r⟩ := st; exact ⟨o, hk o e, r⟩
  | tx x t => obtain ⟨o, e, r⟩ := st; exact ⟨o, hk o e, r⟩
/-- the source k stands for the items ds of data -/
def SrcOk (K : PySem.W.Frag) (G : Hp) (ds : List D) : Src → Prop
  | .li a => ∃ vs, G a = some (.lst vs) ∧ vs.length ≤ sizeLine ∧ DDs K G vs ds
  | .tu a => ∃ vs, G a = some (.tup vs) ∧ vs.length ≤ sizeLine ∧ DDs K G vs ds
  | .tx x _ => SOk x ∧ ds = signs x
theorem SrcOk.up {K : PySem.W.Frag} {G G' : Hp} {ds : List D} (e : Same G G') : ∀ {k : Src}, SrcOk K G ds k → SrcOk K G' ds k
  | .li a, ⟨vs, h, z, r⟩ => ⟨vs, e _ _ h, z, r.up e⟩
  | .tu a, ⟨vs, h, z, r⟩ => ⟨vs, e _ _ h, z, r.up e⟩
  | .tx _ _, h => h
theorem SrcOk.le {K : PySem.W.Frag} {G : Hp} {ds : List D} : ∀ {k : Src}, SrcOk K G ds k → ds.length ≤ sizeLine
  | .li a, ⟨vs, h, z, r⟩ => by rw [← r.len]; exact z
  | .tu a, ⟨vs, h, z, r⟩ => by rw [← r.len]; exact z
  | .tx x _, ⟨h, e⟩ => by rw [e, signs_len]; exact h.1
/-- how its iterator draws, in a state that keeps it -/
structure Drawn (X : Cx) (G : Hp) (H : Hp) (k : Src) (ds : List D) (it : Addr) where
  fp : List Addr
  P : Nat → Value → Prop
  St : Nat → Heap → Prop
  draws : Draws X.prog X.w X.A.in1 it fp ds.length P St
  mem : it ∈ fp
  old : ∀ b ∈ fp, b = it ∨ H b ≠ none
  item : ∀ i u, P i u → ∃ v d, ds[i]? = some d ∧ RelV v u ∧ DD X.K G v d
  back : ∀ i h, St i h → k.at it i h
theorem PoI.ofO {K : PySem.W.Frag} {Wi : Wish} {F : Fr} {G : Hp} {σ : L2.St} {R : It → Hp → Prop} {α : Type} {o : Option α} {g : α → Res (List D × Env)} (h : PoI K Wi F G σ R ((DL.ofO o).bind g)) : ∃ d, o = some d ∧ PoI K Wi F G σ R (g d) := by
  cases o with
  | none => exact h.elim
  | some d => exact ⟨d, rfl, h⟩
theorem PoI.up {K : PySem.W.Frag} {Wi : Wish} {F : Fr} {G G1 : Hp} {σ : L2.St} {R : It → Hp → Prop} {r : Res (List D × Env)} (e : Same G G1) (h : PoI K Wi F G σ R r) : PoI K Wi F G1 σ R r := by
  match r, h with
  | .ok (w, E'), h => exact fun J G' H' as' s => h J G' H' as' (e.trans s)
  | .err x E', h => exact fun c dx G' H' as' s => h c dx G' H' as' (e.trans s)
theorem PoA.bindI {K : PySem.W.Frag} {Wi : Wish} {F : Fr} {G : Hp} {σ : L2.St} {R : It → Hp → Prop} {r : Res (List W × Env)} {g : List W × Env → Res (List D × Env)} (h : PoI K Wi F G σ R (r.bind g)) :
    PoA K Wi F G σ (MidA K F G σ fun _ ws G1 _ E1 _ => PoI K Wi F G1 σ R (g (ws, E1))) r := by
  match r, h with
  | .ok (w, E'), h => exact fun v G' H' as' s st wo => ⟨w, G', E', as', s, st, wo, PoI.up s h⟩
  | .err x E', h => exact h
theorem Po.bindI {K : PySem.W.Frag} {Wi : Wish} {F : Fr} {G : Hp} {σ : L2.St} {R : It → Hp → Prop} {r : Res (W × Env)} {g : W × Env → Res (List D × Env)} (h : PoI K Wi F G σ R (r.bind g)) :
    Po K Wi F G σ (Mid K F G σ fun _ ws G1 _ E1 _ => PoI K Wi F G1 σ R (g (ws, E1))) r := by
  match r, h with
  | .ok (w, E'), h => exact fun v G' H' as' s st wo => ⟨w, G', E', as', s, st, wo, PoI.up s h⟩
  | .err x E', h => exact h
end DL
namespace DL
open PySem PySem.Spec PyProof.Rows L2 TL

section
variable {prog : Program} {w : World} {A : Around} {E : Value → Shared → Prop} {s : Shared}
end
section
variable {X : Cx} {Wi : Wish} {e : Expr} {fs : AF} {p pos tpos : Pos} {elts : List Expr} {kk : Nat}
end

/-- over data -/
def iSq (f : EF) : IF := fun E => (f E).bind fun p => (ofO (asDat p.1)).bind fun d => (ofO (sqD d)).bind fun ds => .ok (ds, p.2)
section
variable {X : Cx} {Wi : Wish} {tg e e2 : Expr} {f : EF} {fs : AF} {p pos : Pos}
theorem jd_l {K : PySem.W.Frag} {G0 : Hp} {a : Addr} {vs : List V} {ds : List D} (g : G0 a = some (.lst vs)) (z : vs.length ≤ sizeLine) (q : DDs K G0 vs ds) : JD K G0 (Itl K a) ds := by
  refine ⟨by rw [← q.len]; exact z, fun G H s1 s2 => ⟨vs, SqL.of (s2 _ _ (s1 _ _ g)), by rw [q.len]; exact Nat.le_refl _⟩, fun G H i s1 s2 hi => ?_, fun G H i d x H' s1 s2 e y => ?_⟩
  · have hlt : i < vs.length := by rw [q.len]; exact hi
    exact ⟨vs, vs[i], SqL.of (s2 _ _ (s1 _ _ g)), List.getElem?_eq_getElem hlt⟩
  · obtain ⟨rfl, y⟩ := y
    obtain ⟨v, e1, dd⟩ := q.get e
    have e2 := y vs (SqL.of (s2 _ _ (s1 _ _ g)))
    rw [e1] at e2; cases e2
    exact ⟨G, Al.refl s2, dd.up s1⟩
theorem jd_t {K : PySem.W.Frag} {G0 : Hp} {a : Addr} {vs : List V} {ds : List D} (g : G0 a = some (.tup vs)) (z : vs.length ≤ sizeLine) (q : DDs K G0 vs ds) : JD K G0 (Itt K a) ds := by
  refine ⟨by rw [← q.len]; exact z, fun G H s1 s2 => ⟨vs, SqT.of (s2 _ _ (s1 _ _ g)), by rw [q.len]; exact Nat.le_refl _⟩, fun G H i s1 s2 hi => ?_, fun G H i d x H' s1 s2 e y => ?_⟩
  · have hlt : i < vs.length := by rw [q.len]; exact hi
    exact ⟨vs, vs[i], SqT.of (s2 _ _ (s1 _ _ g)), List.getElem?_eq_getElem hlt⟩
  · obtain ⟨rfl, y⟩ := y
    obtain ⟨v, e1, dd⟩ := q.get e
    have e2 := y vs (SqT.of (s2 _ _ (s1 _ _ g)))
    rw [e1] at e2; cases e2
    exact ⟨G, Al.refl s2, dd.up s1⟩
theorem jd_x {K : PySem.W.Frag} {G0 : Hp} {x : Str} (ok : SOk x) : JD K G0 (Its x) (signs x) := by
  refine ⟨by rw [signs_len]; exact ok.1, fun G H s1 s2 => by rw [signs_len]; exact Nat.le_refl _, fun G H i s1 s2 hi => by rw [signs_len] at hi; exact hi, fun G H i d v H' s1 s2 e y => ?_⟩
  obtain ⟨rfl, c, hc, rfl⟩ := y
  rw [signs_get hc] at e; cases e
  exact ⟨G, Al.refl s2, .str _ (sok_sgn ok (signs_mem hc))⟩
theorem di_seq (he : DE X Wi e f) : DI X Wi tg e (iSq f) := by
  refine ⟨fun pins s σ H R I h => ?_⟩
  obtain ⟨F, G, E, as, st, pq⟩ := h
  have pq : PoI X.K Wi F G σ R ((f E).bind fun p => (ofO (asDat p.1)).bind fun d => (ofO (sqD d)).bind fun ds => .ok (ds, p.2)) := pq
  cases hf : f E with
  | stuck => rw [hf] at pq; exact pq.elim
  | err x E' =>
    rw [hf] at pq
    refine (pi_list he).run pins s σ H R I ⟨F, G, E, as, st, ?_⟩
    rw [hf]; exact pq
  | ok wE =>
    obtain ⟨w, E1⟩ := wE
    rw [hf] at pq
    cases w with
    | own i => exact pq.elim
    | dat d =>
      obtain ⟨ds, e1, pq⟩ := PoI.ofO (show PoI X.K Wi F G σ R ((ofO (sqD d)).bind fun ds => .ok (ds, E1)) from pq)
      cases d with
      | lst l =>
        cases e1
        refine (pi_list he).run pins s σ H R I ⟨F, G, E, as, st, ?_⟩
        rw [hf]
        intro v G' H' as' sm st' wo
        have wo : DD X.K G' v (.lst ds) := wo
        cases wo with
        | lst g z q => exact ⟨_, rfl, ⟨_, SqL.of (st'.s1 _ _ g)⟩, pq _ G' H' as' sm st' (jd_l g z q)⟩
      | tup l =>
        cases e1
        refine (pi_tup he).run pins s σ H R I ⟨F, G, E, as, st, ?_⟩
        rw [hf]
        intro v G' H' as' sm st' wo
        have wo : DD X.K G' v (.tup ds) := wo
        cases wo with
        | tup g z q => exact ⟨_, rfl, ⟨_, SqT.of (st'.s1 _ _ g)⟩, pq _ G' H' as' sm st' (jd_t g z q)⟩
      | str x =>
        cases e1
        refine (pi_str he).run pins s σ H R I ⟨F, G, E, as, st, ?_⟩
        rw [hf]
        intro v G' H' as' sm st' wo
        have wo : DD X.K G' v (.str x) := wo
        cases wo with
        | str _ ok => exact ⟨x, rfl, pq _ G' H' as' sm st' (jd_x ok)⟩
      | _ => cases e1
def rgD (lo : Int) (n : Nat) : List D := (List.range n).map fun i => .int (lo + (i : Nat))
theorem jd_r {K : PySem.W.Frag} {G0 : Hp} {lo : Int} {n : Nat} (h : n ≤ sizeLine) : JD K G0 (Itr lo n) (rgD lo n) := by
  have en : (rgD lo n).length = n := by unfold rgD; rw [List.length_map, List.length_range]
  refine ⟨by rw [en]; exact h, fun G H s1 s2 => by rw [en]; exact Nat.le_refl _, fun G H i s1 s2 hi => by rw [en] at hi; exact hi, fun G H i d v H' s1 s2 e y => ?_⟩
  obtain ⟨rfl, rfl⟩ := y
  unfold rgD at e
  rw [List.getElem?_map] at e
  cases q : (List.range n)[i]? with
  | none => rw [q] at e; cases e
  | some j =>
    have ej : j = i := by
      have := List.getElem?_range (i := i) (n := n) (by have := (List.getElem?_eq_some_iff.mp q).1; rw [List.length_range] at this; exact this)
      rw [this] at q; exact (Option.some.inj q).symm
    rw [q, ej] at e; cases e
    exact ⟨G, Al.refl s2, .int _⟩
def iR1 (fs : AF) : IF := fun E => (fs E).bind fun p => match p.1 with
  | [.dat (.int j)] => if j ≤ 16777216 ∧ -(2 ^ 62) ≤ j then .ok (rgD 0 j.toNat, p.2) else .stuck
  | _ => .stuck
theorem di_range1 (hg : Gl X "range") (hm : X.mg "range" = none) (ha : DA X Wi [e] fs) (hs : starEach [e] X.env = [(false, eval e X.env)] := by rfl) : DI X Wi tg (.Call (.Name "range" p) [e] [] pos) (iR1 fs) :=
  PI.imp (pi_range1 hg hm ha hs) fun σ H Q q => by
    obtain ⟨F, G, E, as, st, pq⟩ := q
    refine ⟨F, G, E, as, st, PoA.mono (fun vs H1 m => ?_) (PoA.bindI pq)⟩
    obtain ⟨ws, G1, E1, as1, s1, st1, wo1, p1⟩ := m
    match ws, p1 with
    | [.dat (.int j)], p1 =>
      have p1 : PoI X.K Wi F G1 σ Q (if j ≤ 16777216 ∧ -(2 ^ 62) ≤ j then .ok (rgD 0 j.toNat, E1) else .stuck) := p1
      by_cases hj : j ≤ 16777216 ∧ -(2 ^ 62) ≤ j
      · rw [if_pos hj] at p1
        match vs, wo1 with
        | [v], wo1 =>
          have w1 : DD X.K G1 v (.int j) := wo1.1
          cases w1
          exact ⟨j, rfl, hj.2, by omega, p1 _ G1 H1 as1 (Same.refl _) st1 (jd_r (by rw [sizeLine_eq]; omega))⟩
      · rw [if_neg hj] at p1; exact p1.elim
end
end DL
namespace DL
open PySem PySem.Spec PyProof.Rows L2 TL

section
variable {κ : Type} [DecidableEq κ]
def lkM (l : List (κ × D)) (k : κ) : Option D := (l.find? fun kv => decide (kv.1 = k)).map (·.2)
def putM (l : List (κ × D)) (k : κ) (d : D) : List (κ × D) := if (l.any fun kv => decide (kv.1 = k)) = true then l.map (fun kv => if kv.1 = k then (kv.1, d) else kv) else l ++ [(k, d)]
end
section
variable {K : PySem.W.Frag} {G H : Hp}
theorem DKs.look : ∀ {kv : List (Key × V)} {kd : List (Key × D)} (k : Key), DKs K G kv kd → (∀ d, lkM kd k = some d → ∃ v, valV kv k = some v ∧ DD K G v d) ∧ (lkM kd k = none → valV kv k = none)
  | _, _, _, .nil => ⟨fun _ h => (by cases h), fun _ => rfl⟩
  | _, _, k, .cons (k := j) c a b => by
    by_cases h : j = k
    · subst h
      unfold lkM valV
      rw [List.find?_cons_of_pos (by simp), List.find?_cons_of_pos (by simp)]
      exact ⟨fun d e => ⟨_, rfl, by cases e; exact a⟩, fun e => by cases e⟩
    · have ih := DKs.look k b
      unfold lkM valV at ih ⊢
      rw [List.find?_cons_of_neg (by simpa using h), List.find?_cons_of_neg (by simpa using h)]
      exact ih
theorem DTs.look : ∀ {kv : List (List Key × V)} {kd : List (List Key × D)} (k : List Key), DTs K G kv kd → (∀ d, lkM kd k = some d → ∃ v, valV kv k = some v ∧ DD K G v d) ∧ (lkM kd k = none → valV kv k = none)
  | _, _, _, .nil => ⟨fun _ h => (by cases h), fun _ => rfl⟩
  | _, _, k, .cons (k := j) c a b => by
    by_cases h : j = k
    · subst h
      unfold lkM valV
      rw [List.find?_cons_of_pos (by simp), List.find?_cons_of_pos (by simp)]
      exact ⟨fun d e => ⟨_, rfl, by cases e; exact a⟩, fun e => by cases e⟩
    · have ih := DTs.look k b
      unfold lkM valV at ih ⊢
      rw [List.find?_cons_of_neg (by simpa using h), List.find?_cons_of_neg (by simpa using h)]
      exact ih
theorem DKs.any (k : Key) : ∀ {kv : List (Key × V)} {kd : List (Key × D)}, DKs K G kv kd → (kv.any fun x => decide (x.1 = k)) = (kd.any fun x => decide (x.1 = k))
  | _, _, .nil => rfl
  | _, _, .cons _ _ b => by rw [List.any_cons, List.any_cons, DKs.any k b]
theorem DTs.any (k : List Key) : ∀ {kv : List (List Key × V)} {kd : List (List Key × D)}, DTs K G kv kd → (kv.any fun x => decide (x.1 = k)) = (kd.any fun x => decide (x.1 = k))
  | _, _, .nil => rfl
  | _, _, .cons _ _ b => by rw [List.any_cons, List.any_cons, DTs.any k b]
theorem DKs.over (k : Key) {v : V} {d : D} (h : DD K G v d) : ∀ {kv : List (Key × V)} {kd : List (Key × D)}, DKs K G kv kd → DKs K G (kv.map fun x => if x.1 = k then (x.1, v) else x) (kd.map fun x => if x.1 = k then (x.1, d) else x)
  | _, _, .nil => .nil
  | _, _, .cons (k := j) c a b => by
    rw [List.map_cons, List.map_cons]
    by_cases e : j = k
    · rw [if_pos e, if_pos e]; exact .cons c h (DKs.over k h b)
    · rw [if_neg e, if_neg e]; exact .cons c a (DKs.over k h b)
theorem DTs.over (k : List Key) {v : V} {d : D} (h : DD K G v d) : ∀ {kv : List (List Key × V)} {kd : List (List Key × D)}, DTs K G kv kd → DTs K G (kv.map fun x => if x.1 = k then (x.1, v) else x) (kd.map fun x => if x.1 = k then (x.1, d) else x)
  | _, _, .nil => .nil
  | _, _, .cons (k := j) c a b => by
    rw [List.map_cons, List.map_cons]
    by_cases e : j = k
    · rw [if_pos e, if_pos e]; exact .cons c h (DTs.over k h b)
    · rw [if_neg e, if_neg e]; exact .cons c a (DTs.over k h b)
theorem DKs.app : ∀ {kv kw : List (Key × V)} {kd ke : List (Key × D)}, DKs K G kv kd → DKs K G kw ke → DKs K G (kv ++ kw) (kd ++ ke)
  | _, _, _, _, .nil, h => h
  | _, _, _, _, .cons c a b, h => .cons c a (DKs.app b h)
theorem DTs.app : ∀ {kv kw : List (List Key × V)} {kd ke : List (List Key × D)}, DTs K G kv kd → DTs K G kw ke → DTs K G (kv ++ kw) (kd ++ ke)
  | _, _, _, _, .nil, h => h
  | _, _, _, _, .cons c a b, h => .cons c a (DTs.app b h)
theorem DKs.put {kv : List (Key × V)} {kd : List (Key × D)} {k : Key} {v : V} {d : D} (hk : KOk k) (h : DD K G v d) (r : DKs K G kv kd) : DKs K G (putK kv k v) (putM kd k d) := by
  unfold putK putM
  rw [DKs.any k r]
  split
  · exact DKs.over k h r
  · exact DKs.app r (.cons hk h .nil)
theorem DTs.put {kv : List (List Key × V)} {kd : List (List Key × D)} {k : List Key} {v : V} {d : D} (hk : KsOk k) (h : DD K G v d) (r : DTs K G kv kd) : DTs K G (putK kv k v) (putM kd k d) := by
  unfold putK putM
  rw [DTs.any k r]
  split
  · exact DTs.over k h r
  · exact DTs.app r (.cons hk h .nil)
end
section
variable {X : Cx} {Wi : Wish} {o i e value : Expr} {fo fi fv : EF} {pos pos' : Pos}
theorem BD.obj {K : PySem.W.Frag} {G H : Hp} {v : V} (s : Same G H) {C : Addr} {fd : List (Str × D)} (h : BD K G H v (.obj C fd)) : ∃ a dx vf, v = .ref a ∧ H a = some (.ins C dx vf) ∧ DFs K G vf fd := by
  cases h with
  | dat dd => cases dd with | obj g r => exact ⟨_, _, _, rfl, s _ _ g, r⟩
  | own ev o => obtain ⟨dx, vf, e1, r⟩ := o; exact ⟨_, dx, vf, ev, e1, r⟩

/-- instances of C as isinstance sees them -/
structure InsOk (K : PySem.W.Frag) (C : Addr) : Prop where
  cl : Cls K C
  ha : PySem.W.findIn K (.ref C) "__class__" = some (some (.builtin "object.__class__"))
  hn : PySem.W.specialIn K (.builtin "object.__class__") "__get__" = some (some (.builtin "getset_descriptor.__get__"))
  ht : PySem.W.takesIn K (.builtin "object.__class__") = some true
  hm : PySem.W.mroIn K C (.type "object") = some true
end
end DL
namespace DL
open PySem PySem.Spec PyProof.Rows L2 TL

inductive EN where
  | e (f : EF) | n (f : NF)
def evN : List EN → Env → Res (List (Bool × D) × Env)
  | [], E => .ok ([], E)
  | .e f :: r, E => (f E).bind fun p => (ofO (asDat p.1)).bind fun d => (evN r p.2).bind fun q => .ok ((false, d) :: q.1, q.2)
  | .n f :: r, E => (f E).bind fun p => (evN r p.2).bind fun q => .ok ((true, p.1) :: q.1, q.2)
inductive NWs (K : PySem.W.Frag) (F : Fr) (G H : Hp) (as : Nat → List Addr) : List V → List (Bool × D) → List Addr → Prop
  | nil : NWs K F G H as [] [] []
  | da {v : V} {d : D} {vs : List V} {ds : List (Bool × D)} {ps : List Addr} : DD K G v d → NWs K F G H as vs ds ps → NWs K F G H as (v :: vs) ((false, d) :: ds) ps
  | nw {p : Addr} {d : D} {vs : List V} {ds : List (Bool × D)} {ps : List Addr} : G p = none → F.H0 p = none → (∀ j, p ∉ as j) → OwnAt K G H p d → p ∉ ps → NWs K F G H as vs ds ps → NWs K F G H as (.ref p :: vs) ((true, d) :: ds) (p :: ps)
def PoW (K : PySem.W.Frag) (Wi : Wish) (F : Fr) (G : Hp) (σ : L2.St) (Q : List V → Hp → Prop) : Res (List (Bool × D) × Env) → Prop
  | .ok (ds, E') => ∀ vs ps G' H' as', Same G G' → StE K F G' H' σ E' as' → NWs K F G' H' as' vs ds ps → Q vs H'
  | .err x E' => ∀ c dx G' H' as', Same G G' → StE K F G' H' σ E' as' → ExOk K G' x c dx → Wi σ c dx H'
  | .stuck => False
def tW (K : PySem.W.Frag) (Wi : Wish) (l : List EN) : TA := fun σ H Q => ∃ F G E as, StE K F G H σ E as ∧ PoW K Wi F G σ Q (evN l E)
abbrev DWs (X : Cx) (Wi : Wish) (es : List Expr) (l : List EN) : Prop := PA X es (tW X.K Wi l)
section
variable {K : PySem.W.Frag} {Wi : Wish} {F : Fr} {G G1 H : Hp} {σ : L2.St} {E : Env} {as : Nat → List Addr} {Q : List V → Hp → Prop}
theorem NWs.len : ∀ {vs : List V} {ds : List (Bool × D)} {ps : List Addr}, NWs K F G H as vs ds ps → vs.length = ds.length
  | _, _, _, .nil => rfl
  | _, _, _, .da _ r => congrArg Nat.succ (NWs.len r)
  | _, _, _, .nw _ _ _ _ _ r => congrArg Nat.succ (NWs.len r)
theorem NWs.frame {F' : Fr} (h : ∀ p, F.H0 p = none → F'.H0 p = none) : ∀ {vs : List V} {ds : List (Bool × D)} {ps : List Addr}, NWs K F G H as vs ds ps → NWs K F' G H as vs ds ps
  | _, _, _, .nil => .nil
  | _, _, _, .da a r => .da a (NWs.frame h r)
  | _, _, _, .nw a f b c d r => .nw a (h _ f) b c d (NWs.frame h r)
theorem NWs.moved {as' : Nat → List Addr} : ∀ {vs : List V} {ds : List (Bool × D)} {ps : List Addr}, (∀ p ∈ ps, (∀ j, p ∉ as j) → ∀ j, p ∉ as' j) → NWs K F G H as vs ds ps → NWs K F G H as' vs ds ps
  | _, _, _, _, .nil => .nil
  | _, _, _, h, .da a r => .da a (NWs.moved h r)
  | _, _, _, h, .nw a f b c d r => .nw a f (h _ List.mem_cons_self b) c d (NWs.moved (fun p hp => h p (List.mem_cons_of_mem _ hp)) r)
theorem PoW.up {r : Res (List (Bool × D) × Env)} (e : Same G G1) (h : PoW K Wi F G σ Q r) : PoW K Wi F G1 σ Q r := by
  match r, h with
  | .ok (w, E'), h => exact fun v ps G' H' as' s => h v ps G' H' as' (e.trans s)
  | .err x E', h => exact fun c dx G' H' as' s => h c dx G' H' as' (e.trans s)
theorem Po.bindW {r : Res (W × Env)} {g : W × Env → Res (List (Bool × D) × Env)} (h : PoW K Wi F G σ Q (r.bind g)) :
    Po K Wi F G σ (Mid K F G σ fun _ w G1 _ E1 _ => PoW K Wi F G1 σ Q (g (w, E1))) r := by
  match r, h with
  | .ok (w, E'), h => exact fun v G' H' as' s st wo => ⟨w, G', E', as', s, st, wo, PoW.up s h⟩
  | .err x E', h => exact h
theorem PoW.of {α : Type} {o : Option α} {g : α → Res (List (Bool × D) × Env)} (h : PoW K Wi F G σ Q ((ofO o).bind g)) : ∃ d, o = some d ∧ PoW K Wi F G σ Q (g d) := by
  cases o with
  | none => exact h.elim
  | some d => exact ⟨d, rfl, h⟩
end
section
variable {X : Cx} {Wi : Wish} {a : Expr} {es : List Expr} {f : EF} {fn : NF} {l : List EN}
theorem dws_nil : DWs X Wi [] [] := PA.imp pa_nil fun σ H Q q => by
  obtain ⟨F, G, E, as, st, p⟩ := q
  exact p [] [] G H as (Same.refl _) st .nil
theorem dws_e (ha : DE X Wi a f) (hr : DWs X Wi es l) (hs : starEach (a :: es) X.env = (false, eval a X.env) :: starEach es X.env := by rfl) : DWs X Wi (a :: es) (.e f :: l) :=
  PA.imp (pa_cons ha hr hs) fun σ H Q q => by
    obtain ⟨F, G, E, as, st, p⟩ := q
    refine ⟨F, G, E, as, st, Po.mono (fun x H1 m => ?_) (Po.bindW p)⟩
    obtain ⟨w1, G1, E1, as1, s1, st1, wo1, p1⟩ := m
    obtain ⟨d, e1, p1⟩ := PoW.of p1
    cases w1 with
    | own _ => cases e1
    | dat d' =>
      cases e1
      have dd : DD X.K G1 x d := wo1
      refine ⟨F, G1, E1, as1, st1, ?_⟩
      have p1 : PoW X.K Wi F G1 σ Q ((evN l E1).bind fun q => .ok ((false, d) :: q.1, q.2)) := p1
      generalize evN l E1 = r at p1 ⊢
      match r, p1 with
      | .ok (ds, E2), p1 => exact fun vs ps G2 H2 as2 s2 st2 nw => p1 (x :: vs) ps G2 H2 as2 s2 st2 (.da (dd.up s2) nw)
      | .err y E2, p1 => exact p1
theorem PoN.mono {K : PySem.W.Frag} {F : Fr} {G : Hp} {σ : L2.St} {Q Q' : VK} (i : ∀ v H, Q v H → Q' v H) : ∀ {r : Res (D × Env)}, PoN K Wi F G σ Q r → PoN K Wi F G σ Q' r
  | .ok (_, _), h => fun p G' H' as' s st gp fp np o => i _ _ (h p G' H' as' s st gp fp np o)
  | .err _ _, h => h
/-- a new object of the outer frame stays through what an inner frame does -/
theorem StE.stays {K : PySem.W.Frag} {F : Fr} {G H G2 H2 : Hp} {as as2 : Nat → List Addr} {σ2 : L2.St} {E2 : Env} {n : Nat} {p : Addr} {d : D} (gp : G p = none) (np : ∀ j, p ∉ as j) (o : OwnAt K G H p d) (s2 : Same G G2) (st2 : StE K (inner F G H as n) G2 H2 σ2 E2 as2) :
    G2 p = none ∧ (∀ j, p ∉ as2 j) ∧ OwnAt K G2 H2 p d := by
  obtain ⟨u, hu, ht⟩ := o.hasM
  have no : p ∉ own as n := fun z => by obtain ⟨j, hj⟩ := of_own z; exact np j hj
  refine ⟨?_, fun j hj => ?_, o.up s2 fun v q => st2.keep p v q no⟩
  · cases q : G2 p with
    | none => rfl
    | some z => exact absurd gp (st2.priv p u (by rw [q]; exact fun z => nomatch z) hu ht no)
  · rcases (st2.off j p hj).2 with z | z
    · have z : H p = none := z
      rw [hu] at z; cases z
    · exact no z
end
def setL : List Nat → L2.St → List V → L2.St
  | i :: is, σ, v :: vs => setL is (σ.set i (some v)) vs
  | _, σ, _ => σ
def setE : List Nat → Env → List (Bool × D) → Env
  | i :: is, E, (true, d) :: ds => setE is (E.set i (.own d)) ds
  | i :: is, E, (false, d) :: ds => setE is (E.set i (.dat d)) ds
  | _, E, _ => E
theorem StE.setW {K : PySem.W.Frag} {F : Fr} {G H : Hp} : ∀ {is : List Nat} {vs : List V} {ds : List (Bool × D)} {ps : List Addr} {σ : L2.St} {E : Env} {as : Nat → List Addr}, StE K F G H σ E as → NWs K F G H as vs ds ps → vs.length = is.length → (∀ i ∈ is, i < E.length) →
    ∃ as', StE K F G H (setL is σ vs) (setE is E ds) as'
  | [], _, _, _, _, _, as, st, .nil, _, _ => ⟨as, st⟩
  | i :: is, _, _, _, σ, E, as, st, .da (v := v) (d := d) (ps := ps) a r, hl, hi => by
    refine StE.setW (is := is) (st.setD a) (NWs.moved (fun p hp h j => ?_) r) (Nat.succ.inj hl) fun j hj => by rw [List.length_set]; exact hi j (List.mem_cons_of_mem _ hj)
    by_cases e : j = i
    · rw [e, drp_same]; exact fun z => by cases z
    · rw [drp_ne e]; exact h j
  | i :: is, _, _, _, σ, E, as, st, .nw (p := p) (d := d) (ps := ps) g f n o q r, hl, hi => by
    have st2 := st.setC (i := i) (x := some (.ref p)) (c := .own d) (l := [p]) ⟨p, rfl, rfl, o⟩ (fun b hb => by
      rw [List.mem_singleton.mp hb]
      exact ⟨fun j _ => n j, g, .inl f⟩) (.inl (hi i List.mem_cons_self))
    refine StE.setW (is := is) st2 (NWs.moved (fun b hb h j => ?_) r) (Nat.succ.inj hl) fun j hj => by rw [List.length_set]; exact hi j (List.mem_cons_of_mem _ hj)
    by_cases e : j = i
    · rw [e, drp_same]
      intro z
      rw [List.mem_singleton.mp z] at hb
      exact q hb
    · rw [drp_ne e]; exact h j
def sPar (is : List Nat) (l : List EN) : SF := fun E => (evN l E).bind fun p => if p.1.length = is.length ∧ (is.all fun i => decide (i < p.2.length)) = true then .ok (.nx, setE is p.2 p.1) else .stuck
section
variable {X : Cx} {Wi : Wish} {e a b c : Expr} {es : List Expr} {f : EF} {l : List EN} {pos : Pos}
theorem sPar_of {is : List Nat} {D0 : Ends} {σ : L2.St} {H : Hp} (q : tS X.K Wi (sPar is l) D0 σ H) : tW X.K Wi l σ H fun vs H1 => vs.length = is.length ∧ ∀ H2, Same H1 H2 → D0.nx (setL is σ vs) H2 := by
  obtain ⟨F, G, E, as, st, p⟩ := q
  refine ⟨F, G, E, as, st, ?_⟩
  have p : PoS X.K Wi F G D0 ((evN l E).bind fun p => if p.1.length = is.length ∧ (is.all fun i => decide (i < p.2.length)) = true then .ok (.nx, setE is p.2 p.1) else .stuck) := p
  generalize evN l E = r at p ⊢
  match r, p with
  | .ok (ds, E2), p =>
    intro vs ps G2 H2 as2 s2 st2 nw
    have p : PoS X.K Wi F G D0 (if ds.length = is.length ∧ (is.all fun i => decide (i < E2.length)) = true then .ok (.nx, setE is E2 ds) else .stuck) := p
    by_cases hl : ds.length = is.length ∧ (is.all fun i => decide (i < E2.length)) = true
    · rw [if_pos hl] at p
      have hv := nw.len.trans hl.1
      obtain ⟨as', st'⟩ := StE.setW st2 nw hv fun i hi => of_decide_eq_true (List.all_eq_true.mp hl.2 i hi)
      exact ⟨hv, fun H3 s3 => p _ G2 H3 as' s2 (st'.al (Al.grow st'.s1 s3))⟩
    · rw [if_neg hl] at p; exact p.elim
  | .err y E2, p => exact fun c dx G2 H2 as2 s2 st2 xo => p c dx σ G2 H2 as2 s2 st2 xo
theorem ds_par2 {i j : Nat} {x y : Str} {px py pt : Pos} {kt k2 pt2} (hc : X.calm = true) (hN : X.N.Nodup) (hi : X.N[i]? = some x) (hj : X.N[j]? = some y) (hij : i ≠ j) (hx : X.env.scope.names.lookup x = some .local) (hy : X.env.scope.names.lookup y = some .local) (ha : DWs X Wi [a, b] l)
    (hw : swappedStores [.Tuple [.Name x px, .Name y py] kt pt] (.Tuple [a, b] k2 pt2) X.env = pure (some [x, y]))
    (hs : swapsWithSole [.Tuple [.Name x px, .Name y py] kt pt] (.Tuple [a, b] k2 pt2) pos.line X.env = pure false := by rfl) :
    DS X Wi (.Assign [.Tuple [.Name x px, .Name y py] kt pt] (.Tuple [a, b] k2 pt2) pos) (sPar [i, j] l) := PS.imp (ps_par hc hN hi hj hij hx hy ha hw hs) fun D0 σ H q => by
  obtain ⟨F, G, E, as, st, p⟩ := sPar_of q
  refine ⟨F, G, E, as, st, ?_⟩
  revert p
  generalize evN l E = r
  intro p
  match r, p with
  | .ok (ds, E2), p =>
    intro vs ps G2 H2 as2 s2 st2 nw
    obtain ⟨hl, k⟩ := p vs ps G2 H2 as2 s2 st2 nw
    match vs, hl with
    | [u, v], _ => exact ⟨u, v, rfl, k H2 (Same.refl _)⟩
  | .err y E2, p => exact p
end

section
variable {X : Cx} {Wi : Wish} {pos : Pos}
def nDK : NF := fun E => .ok (.dic [], E)
theorem dn_dk : DN X Wi (.Dict [] [] pos) nDK := PE.imp pe_dnewK fun σ H Q q => by
  obtain ⟨F, G, E, as, st, p⟩ := q
  exact fun p' hp => PoN.rz st p p' _ hp (fun b u z => by rw [upd_ne (ne_of_none z hp)]; exact z) ⟨_, upd_same, .nil⟩
/-- [] -/
def nNil : NF := fun E => .ok (.lst [], E)
theorem dn_nil : DN X Wi (.List [] pos) nNil := PE.imp (pe_lst pa_nil) fun σ H Q q => by
  obtain ⟨F, G, E, as, st, p⟩ := q
  exact ⟨Nat.zero_le _, fun p' hp => PoN.rz st p p' _ hp (fun b u z => by rw [upd_ne (ne_of_none z hp)]; exact z) ⟨_, upd_same, Nat.zero_le _, .nil⟩⟩
end
end DL
namespace DL
open PySem PySem.Spec PyProof.Rows L2 TL

def disL : List (Str × EF) → Env → Res (List (Key × D) × Env)
  | [], E => .ok ([], E)
  | (k, f) :: r, E => (f E).bind fun p => (ofO (asDat p.1)).bind fun d => (disL r p.2).bind fun q => .ok ((.inr k, d) :: q.1, q.2)
def PoD (K : PySem.W.Frag) (Wi : Wish) (F : Fr) (G : Hp) (σ : L2.St) (Q : List (Key × V) → Hp → Prop) : Res (List (Key × D) × Env) → Prop
  | .ok (ds, E') => ∀ kv G' H' as', Same G G' → StE K F G' H' σ E' as' → DKs K G' kv ds → Q kv H'
  | .err x E' => ∀ c dx G' H' as', Same G G' → StE K F G' H' σ E' as' → ExOk K G' x c dx → Wi σ c dx H'
  | .stuck => False
section
variable {K : PySem.W.Frag} {Wi : Wish} {F : Fr} {G G1 H : Hp} {σ : L2.St} {Q : List (Key × V) → Hp → Prop}
theorem PoD.up {r : Res (List (Key × D) × Env)} (e : Same G G1) (h : PoD K Wi F G σ Q r) : PoD K Wi F G1 σ Q r := by
  match r, h with
  | .ok (w, E'), h => exact fun v G' H' as' s => h v G' H' as' (e.trans s)
  | .err x E', h => exact fun c dx G' H' as' s => h c dx G' H' as' (e.trans s)
theorem Po.bindD {r : Res (W × Env)} {g : W × Env → Res (List (Key × D) × Env)} (h : PoD K Wi F G σ Q (r.bind g)) :
    Po K Wi F G σ (Mid K F G σ fun _ w G1 _ E1 _ => PoD K Wi F G1 σ Q (g (w, E1))) r := by
  match r, h with
  | .ok (w, E'), h => exact fun v G' H' as' s st wo => ⟨w, G', E', as', s, st, wo, PoD.up s h⟩
  | .err x E', h => exact h
theorem PoD.of {α : Type} {o : Option α} {g : α → Res (List (Key × D) × Env)} (h : PoD K Wi F G σ Q ((ofO o).bind g)) : ∃ d, o = some d ∧ PoD K Wi F G σ Q (g d) := by
  cases o with
  | none => exact h.elim
  | some d => exact ⟨d, rfl, h⟩
def disT (K : PySem.W.Frag) (Wi : Wish) (l : List (Str × EF)) : List (TE × TE) := l.map fun p => (tC (.str p.1), tE K Wi p.2)
theorem dis_ok : ∀ (l : List (Str × EF)) {Q : List (Key × V) → Hp → Prop} {G H : Hp} {E : Env} {as : Nat → List Addr}, (∀ p ∈ l, SOk p.1) → StE K F G H σ E as → PoD K Wi F G σ Q (disL l E) →
    tPairs (disT K Wi l) σ H fun ps H2 => ∃ kv, ps = kv.map (fun x => (kV x.1, x.2)) ∧ Q kv H2
  | [], Q, G, H, E, as, _, st, p => ⟨[], rfl, p [] G H as (Same.refl _) st .nil⟩
  | (k, f) :: r, Q, G, H, E, as, hk, st, p => by
    show tE K Wi f σ H fun y H2 => tPairs (disT K Wi r) σ H2 fun ps H3 => ∃ kv, (V.str k, y) :: ps = kv.map (fun x => (kV x.1, x.2)) ∧ Q kv H3
    refine ⟨F, G, E, as, st, Po.mono (fun y H1 m => ?_) (Po.bindD p)⟩
    obtain ⟨w1, G1, E1, as1, s1, st1, wo1, p1⟩ := m
    obtain ⟨d, e1, p2⟩ := PoD.of p1
    clear p1
    cases w1 with
    | own _ => cases e1
    | dat d' =>
      cases e1
      have dd : DD K G1 y d := wo1
      have p2 : PoD K Wi F G1 σ Q ((disL r E1).bind fun q => .ok ((.inr k, d) :: q.1, q.2)) := p2
      have hk1 : SOk k := hk (k, f) List.mem_cons_self
      have z := dis_ok r (Q := fun kv H2 => Q ((.inr k, y) :: kv) H2) (fun p hp => hk p (List.mem_cons_of_mem _ hp)) st1 (by
        generalize disL r E1 = rr at p2 ⊢
        match rr, p2 with
        | .ok (ds, E2), p2 => exact fun kv G2 H2 as2 s2 st2 dk => p2 ((.inr k, y) :: kv) G2 H2 as2 s2 st2 (.cons hk1 (dd.up s2) dk)
        | .err x E2, p2 => exact p2)
      have mono : ∀ (trs : List (TE × TE)), trs = disT K Wi r → ∀ H0 (Q1 Q2 : List (V × V) → Hp → Prop), tPairs trs σ H0 Q1 → tPairs trs σ H0 Q1 := fun _ _ _ _ _ h => h
      revert z
      have fix : ∀ (l : List (Str × EF)) (H0 : Hp) (Q1 Q2 : List (V × V) → Hp → Prop), (∀ ps H, Q1 ps H → Q2 ps H) → tPairs (disT K Wi l) σ H0 Q1 → tPairs (disT K Wi l) σ H0 Q2 := by
        intro l
        induction l with
        | nil => exact fun H0 Q1 Q2 i h => i _ _ h
        | cons q l ih =>
          intro H0 Q1 Q2 i h
          obtain ⟨F3, G3, E3, as3, st3, p3⟩ := h
          exact ⟨F3, G3, E3, as3, st3, Po.mono (fun v H2 m => ih H2 _ _ (fun ps H h => i _ _ h) m) p3⟩
      exact fun z => fix r H1 _ _ (fun ps H3 ⟨kv, e, q⟩ => ⟨(.inr k, y) :: kv, by rw [e]; rfl, q⟩) z
end
def mergeM (kd more : List (Key × D)) : List (Key × D) := more.foldl (fun acc kv => putM acc kv.1 kv.2) kd
theorem DKs.merge {K : PySem.W.Frag} {G : Hp} : ∀ {more : List (Key × V)} {md : List (Key × D)} {kv : List (Key × V)} {kd : List (Key × D)}, DKs K G more md → DKs K G kv kd → DKs K G (mergeK kv more) (mergeM kd md)
  | _, _, _, _, .nil, h => h
  | _, _, _, _, .cons c a b, h => by
    have z := DKs.merge b (h.put c a)
    exact z
def nDis (l : List (Str × EF)) : NF := fun E => (disL l E).bind fun p => if p.1.length ≤ 15 then .ok (.dic (mergeM [] p.1), p.2) else .stuck
/-- the pairs of a display of constant texts -/
structure DPs (X : Cx) (Wi : Wish) (pos : Pos) (keys : List (Option Expr)) (values : List Expr) (l : List (Str × EF)) : Prop where
  ps : PPs X pos keys values (disT X.K Wi l)
  ok : ∀ p ∈ l, SOk p.1
section
variable {X : Cx} {Wi : Wish} {pos : Pos} {keys : List (Option Expr)} {values : List Expr} {l : List (Str × EF)}
theorem dps_nil : DPs X Wi pos [] [] [] := ⟨pps_nil, fun _ h => (by cases h)⟩
theorem dps_cons {k : Str} {j} {p : Pos} {v : Expr} {f : EF} (hk : SOk k) (hv : DE X Wi v f) (hr : DPs X Wi pos keys values l) : DPs X Wi pos (some (.Constant (.str k) j p) :: keys) (v :: values) ((k, f) :: l) :=
  ⟨pps_cons pe_str hv hr.ps, fun p hp => by
    rcases List.mem_cons.mp hp with z | z
    · rw [z]; exact hk
    · exact hr.ok p z⟩
theorem dn_dis (h : DPs X Wi pos keys values l) (hall : keys.all (·.isSome) = true := by rfl) (hl : keys.length = values.length := by rfl) (h0 : keys ≠ [] := by intro z; cases z) (h15 : keys.length ≤ 15 := by decide) : DN X Wi (.Dict keys values pos) (nDis l) :=
  PE.imp (pe_disp h.ps hall hl h0 h15) fun σ H Q q => by
    obtain ⟨F, G, E, as, st, p⟩ := q
    intro a ha
    have ga : G a = none := st.s1.free ha
    have fa : F.H0 a = none := st.dom a ha
    have na : ∀ j, a ∉ as j := fun j hj => by obtain ⟨u, q⟩ := st.there hj; rw [ha] at q; cases q
    have st1 := st.al (Al.grow st.s1 (H' := upd H a (.dK [])) fun b u q => by rw [upd_ne (ne_of_none q ha)]; exact q)
    have o1 : OwnAt X.K G (upd H a (.dK [])) a (.dic []) := ⟨_, upd_same, .nil⟩
    have z := dis_ok (K := X.K) (Wi := Wi) (F := inner F G (upd H a (.dK [])) as E.length) (σ := σ) l (Q := fun kv H2 => H2 a = some (.dK []) ∧ kv.length ≤ 15 ∧ Q (.ref a) (upd H2 a (.dK (mergeK [] kv)))) h.ok st1.in_ (by
      have p : PoN X.K Wi F G σ Q ((disL l E).bind fun p => if p.1.length ≤ 15 then .ok (.dic (mergeM [] p.1), p.2) else .stuck) := p
      generalize disL l E = rr at p ⊢
      match rr, p with
      | .ok (ds, E2), p =>
        intro kv G2 H2 as2 s2 st2 dk
        have p : PoN X.K Wi F G σ Q (if ds.length ≤ 15 then .ok (.dic (mergeM [] ds), E2) else .stuck) := p
        by_cases hds : ds.length ≤ 15
        · rw [if_pos hds] at p
          obtain ⟨g2, n2, kv0, h2, _⟩ := StE.stays ga na o1 s2 st2
          have keepA : H2 a = some (.dK []) := st2.keep a _ upd_same fun z => by obtain ⟨j, hj⟩ := of_own z; exact na j hj
          refine ⟨keepA, by rw [dk.len]; exact hds, ?_⟩
          exact p a G2 _ as2 s2 ((st1.out st2).wr g2 fa n2 (by rw [keepA]; exact fun z => nomatch z)) g2 fa n2 ⟨_, upd_same, DKs.merge dk .nil⟩
        · rw [if_neg hds] at p; exact p.elim
      | .err x E2, p => exact fun c dx G2 H2 as2 s2 st2 xo => p c dx G2 H2 as2 s2 (st1.out st2) xo)
    have fix : ∀ (l : List (Str × EF)) (H0 : Hp) (Q1 Q2 : List (V × V) → Hp → Prop), (∀ ps H, Q1 ps H → Q2 ps H) → tPairs (disT X.K Wi l) σ H0 Q1 → tPairs (disT X.K Wi l) σ H0 Q2 := by
      intro l
      induction l with
      | nil => exact fun H0 Q1 Q2 i h => i _ _ h
      | cons q l ih =>
        intro H0 Q1 Q2 i h
        obtain ⟨F3, G3, E3, as3, st3, p3⟩ := h
        exact ⟨F3, G3, E3, as3, st3, Po.mono (fun v H2 m => ih H2 _ _ (fun ps H h => i _ _ h) m) p3⟩
    exact fix l _ _ _ (fun ps H3 ⟨kv, e, h1, h2, h3⟩ => ⟨h1, kv, e, h2, h3⟩) z
end

theorem WOks.app {K : PySem.W.Frag} {G : Hp} {E : Env} {σ : L2.St} : ∀ {vs us : List V} {ds : List D} {ws : List W}, DDs K G vs ds → WOks K G E σ us ws → WOks K G E σ (vs ++ us) (ds.map W.dat ++ ws)
  | _, _, _, _, .nil, h => h
  | _, _, _, _, .cons a b, h => ⟨a, WOks.app b h⟩
section
variable {X : Cx} {Wi : Wish} {e : Expr} {es : List Expr} {te : TE} {t : TA} {f : EF} {g : AF} {p : Pos}
theorem PoA.of {K : PySem.W.Frag} {F : Fr} {G : Hp} {σ : L2.St} {Q : List V → Hp → Prop} {α : Type} {o : Option α} {g : α → Res (List W × Env)} (h : PoA K Wi F G σ Q ((ofO o).bind g)) : ∃ d, o = some d ∧ PoA K Wi F G σ Q (g d) := by
  cases o with
  | none => exact h.elim
  | some d => exact ⟨d, rfl, h⟩
end

end DL
namespace DL
open PySem PySem.Spec PyProof.Rows L2 TL

section
variable {P : Program} {w : World} {K : PySem.W.Frag} {mg : Str → Option Value} {base : Heap} {k : Nat} {f : Addr} {fd : FuncData} {ps N : List Str} {x qual : Str} {st : Stmt} {fb : SF}
/-- an exception that leaves: what the caller wishes -/
def WiX (E : XK) : Wish := fun _ => E
end

def setF (f : Str) (d : D) : List (Str × D) → List (Str × D)
  | [] => [(f, d)]
  | (g, x) :: r => if g = f then (g, d) :: r else (g, x) :: setF f d r
theorem DFs.len {K : PySem.W.Frag} {G : Hp} : ∀ {vs : List (Str × V)} {ds : List (Str × D)}, DFs K G vs ds → vs.length = ds.length
  | _, _, .nil => rfl
  | _, _, .cons _ b => congrArg Nat.succ (DFs.len b)
theorem DFs.put {K : PySem.W.Frag} {G : Hp} {f : Str} {v : V} {d : D} (h : DD K G v d) : ∀ {vs : List (Str × V)} {ds : List (Str × D)}, DFs K G vs ds → DFs K G (putF f v vs) (setF f d ds)
  | _, _, .nil => .cons h .nil
  | _, _, .cons (k := g) (vs := vs) (ds := ds) a b => by
    show DFs K G (if g = f then (g, v) :: vs else (g, _) :: putF f v vs) (if g = f then (g, d) :: ds else (g, _) :: setF f d ds)
    by_cases e : g = f
    · rw [if_pos e, if_pos e]; exact .cons h b
    · rw [if_neg e, if_neg e]; exact .cons a (DFs.put h b)
section
variable {X : Cx} {CX : CXT} {k n : Nat} {f C : Addr} {fd : FuncData} {ps ks : List Str} {Wi : Wish} {x m : Str} {p pos apos kpos : Pos} {e o : Expr} {es : List Expr} {kws : List Keyword} {fs fk : AF} {fo : EF} {fm : List D → Res (List (Str × D))} {gm : List D → Res D} {sp : Sp} {t tk : TA}
abbrev DK (X : Cx) (Wi : Wish) (kws : List Keyword) (f : AF) : Prop := PK X kws (tA X.K Wi f)
theorem PK.imp {X : Cx} {e : List Keyword} {t t' : TA} (h : PK X e t) (i : ∀ σ H Q, t' σ H Q → t σ H Q) : PK X e t' :=
  ⟨fun pos pins s σ H Q I q => h.run pos pins s σ H Q I (i σ H Q q)⟩
theorem dk_nil : DK X Wi [] aN := PK.imp pk_nil fun σ H Q q => by
  obtain ⟨F, G, E, as, st, p⟩ := q
  exact p [] G H as (Same.refl _) st True.intro
theorem dk_cons {nm : Option Str} {fa : EF} (ha : DE X Wi e fa) (hr : DK X Wi kws fs) : DK X Wi (⟨nm, e, kpos⟩ :: kws) (aC fa fs) := PK.imp (pk_cons ha hr) fun σ H Q q => by
  obtain ⟨F, G, E, as, st, p⟩ := q
  refine ⟨F, G, E, as, st, Po.mono (fun x H1 m => ?_) (Po.bindA p)⟩
  obtain ⟨w1, G1, E1, as1, s1, st1, wo1, p1⟩ := m
  refine ⟨F, G1, E1, as1, st1, ?_⟩
  generalize fs E1 = r at p1 ⊢
  match r, p1 with
  | .ok (ws, E2), p1 => exact fun vs G2 H2 as2 s2 st2 wo2 => p1 (x :: vs) G2 H2 as2 s2 st2 ⟨WOk.up s2 wo1, wo2⟩
  | .err y E2, p1 => exact p1
theorem PoA.bindA {K : PySem.W.Frag} {F : Fr} {G : Hp} {σ : L2.St} {Q : List V → Hp → Prop} {r : Res (List W × Env)} {g : List W × Env → Res (List W × Env)} (h : PoA K Wi F G σ Q (r.bind g)) :
    PoA K Wi F G σ (MidA K F G σ fun _ ws G1 _ E1 _ => PoA K Wi F G1 σ Q (g (ws, E1))) r := by
  match r, h with
  | .ok (w, E'), h => exact fun v G' H' as' s st wo => ⟨w, G', E', as', s, st, wo, PoA.up s h⟩
  | .err x E', h => exact h
end

section
variable {X : Cx} {CX : CXT} {Wi : Wish} {a b : Expr} {fa fb : EF} {pos : Pos} {n : Nat} {C f : Addr} {fd : FuncData} {ps : List Str} {oc : List Addr} {gm : List D → Res D}
end
end DL
namespace DL
open PySem PySem.Spec PyProof.Rows L2 TL

section
variable {P : Program} {w : World} {K : PySem.W.Frag} {mg : Str → Option Value} {base : Heap} {k : Nat} {f : Addr} {fd : FuncData} {ps N : List Str} {x qual : Str} {st : Stmt} {fb : SF}
end
/-- a test of a whole and/or -/
theorem dt_w {X : Cx} {Wi : Wish} {e : Expr} {t : BF} (h : DW X Wi e t) : DT X Wi e t := PW.pt h
/-- names -/
theorem dv (i : Nat) {X : Cx} {Wi : Wish} {x : Str} {pos : Pos} (hN : X.N[i]? = some x := by rfl) (hv : Vis X.env.scope x := by first | exact Or.inl rfl | exact Or.inr (Or.inl rfl) | exact Or.inr (Or.inr rfl)) (hd : (x == ("__debug__" : Str)) = false := by decide)
    (hcd : (x == ("__classdict__" : Str)) = false := by decide) : DE X Wi (.Name x pos) (eV i) := de_v (pv i hN hv hd hcd)
def gI2 (c : Int → Int → Bool) (f : Int → Int → D) : D → D → Option D
  | .int i, .int j => if c i j = true then some (f i j) else none
  | _, _ => none
theorem opd_i2 {K : PySem.W.Frag} {R : Int → Int → Prop} {c : Int → Int → Bool} {f : Int → Int → D} {fv : Int → Int → V} (hc : ∀ i j, c i j = true → R i j) (hf : ∀ G i j, DD K G (fv i j) (f i j)) : OpD K (rI R fv) (gI2 c f) := by
  intro G H x y a b d Q s ha hb e z
  cases a with
  | int i =>
    cases b with
    | int j =>
      obtain ⟨h, rfl⟩ := ifs_some (show (if c i j = true then some (f i j) else none) = some d from e)
      exact ⟨i, j, ha.int, hb.int, hc i j h, z _ _ _ (Al.refl s) (hf _ _ _)⟩
    | _ => cases e
  | _ => cases b <;> cases e
def cPow (i j : Int) : Bool := decide (0 ≤ j) && decide (j ≤ 1000) && decide (i.natAbs ≤ 1000)
def gPow := gI2 cPow fun i j => .int (i ^ j.toNat)
theorem opd_pow {K : PySem.W.Frag} : OpD K (rI CPow fun i j => .int (i ^ j.toNat)) gPow := opd_i2 (fun i j h => by
  unfold cPow at h
  rw [Bool.and_eq_true, Bool.and_eq_true] at h
  have h2 := of_decide_eq_true h.1.2
  have h3 := of_decide_eq_true h.2
  exact ⟨of_decide_eq_true h.1.1, by omega, by omega⟩) fun _ _ _ => .int _
def gNeg : D → Option D
  | .int i => some (.int (-i))
  | _ => none
theorem und_neg {K : PySem.W.Frag} : UnD K (rU fun i => .int (-i)) gNeg := by
  intro G H x a d Q s ha e z
  cases a with
  | int i => cases e; exact ⟨i, ha.int, z _ _ _ (Al.refl s) (.int _)⟩
  | _ => cases e
end DL
namespace DL
open PySem PySem.Spec PyProof.Rows L2 TL

theorem eqv_nil (l : List Int) : PyData.eqv (D.lst (l.map D.int)).py (D.lst []).py = l.isEmpty := by
  cases l <;> rfl
theorem dds_ints {K : PySem.W.Frag} {G : Hp} : ∀ l : List Int, DDs K G (l.map V.int) (l.map D.int)
  | [] => .nil
  | i :: l => .cons (.int i) (dds_ints l)
theorem plain_ints : ∀ l : List Int, plainL (l.map D.int) = true
  | [] => rfl
  | _ :: l => plain_ints l
section
variable {P : Program} {w : World} {K : PySem.W.Frag} {mg : Str → Option Value} {base : Heap} {f : Addr} {fd : FuncData} {x qual : Str} {st : Stmt}
theorem lk_left {q : Addr} {b : Int} : valV (κ := Key) [(.inr "left", .ref q), (.inr "blend", .int b)] (.inr "left") = some (.ref q) := by
  unfold valV
  rw [List.find?_cons_of_pos (by simp)]; rfl
theorem lk_blend {q : Addr} {b : Int} : valV (κ := Key) [(.inr "left", .ref q), (.inr "blend", .int b)] (.inr "blend") = some (.int b) := by
  have h : ¬ ((Sum.inr "left" : Key) = .inr "blend") := by decide +kernel
  unfold valV
  rw [List.find?_cons_of_neg (by simpa using h), List.find?_cons_of_pos (by simp)]; rfl
theorem put_blend {q : Addr} {b c : Int} : putK (κ := Key) [(.inr "left", .ref q), (.inr "blend", .int b)] (.inr "blend") (.int c) = [(.inr "left", .ref q), (.inr "blend", .int c)] := by
  have h : ¬ ((Sum.inr "left" : Key) = .inr "blend") := by decide +kernel
  unfold putK
  simp [h]
end
end DL
namespace DL
open PySem PySem.Spec PyProof.Rows L2 TL

section
variable {P : Program} {w : World} {K : PySem.W.Frag} {mg mb : Str → Option Value} {k : Nat} {fa a : Addr} {fd : FuncData} {x : Str} {sp : Sp} {s : Shared} {us : List Value} {ns : List Int} {H : Hp}
/-- the script's list is all that may be tracked -/
theorem hid_there (ea : s.heap.get? a = some { cls := .type "list", data := .seq us.toArray }) (one : ∀ b, H b ≠ none → b = a) {b : Addr} {o : Obj} (hb : s.heap.get? b = some o) (nl : ∀ its n, o.data ≠ .seq its n) : (hidT s.heap H).get? b = some o := by
  refine hidT_get hb ?_
  cases q : H b with
  | none => rfl
  | some u =>
    have z := one b (by rw [q]; exact fun y => nomatch y)
    rw [z, ea] at hb
    exact absurd rfl (nl us.toArray _ |> fun h y => h (by rw [← Option.some.inj hb]))
theorem hid_ns (ea : s.heap.get? a = some { cls := .type "list", data := .seq us.toArray }) (one : ∀ b, H b ≠ none → b = a) {b : Addr} {m : Str → Option Value} (n : s.heap.Ns b m) : (hidT s.heap H).Ns b m := by
  obtain ⟨o, es, ep, h1, h2, h3⟩ := n
  exact ⟨o, es, ep, hid_there ea one h1 (fun its c y => by rw [h2] at y; cases y), h2, h3⟩
theorem hid_in (kin : K.In s.heap) (one : ∀ b, H b ≠ none → b = a) (ka : H a ≠ none → K.lookup a = none) : K.In (hidT s.heap H) := fun b o hb => by
  refine hidT_get (kin b o hb) ?_
  cases q : H b with
  | none => rfl
  | some u =>
    have ne : H b ≠ none := by rw [q]; exact fun y => nomatch y
    have z := one b ne
    rw [z] at ne hb
    rw [ka ne] at hb; cases hb
/-- how the law ends -/
def Ended (s : Shared) (r : Result) (s' : Shared) : Prop := r = .ok (.ret (.bool true)) ∧ OldK s.heap s'.heap ∧ s'.os = s.os ∧ AllBare s'.gens
theorem law_go (kin : K.In s.heap) (gl : s.heap.Ns mainGlobals mg) (bl : s.heap.Ns builtinsNs mb) (bb : ∀ x : Str, x ≠ "__name__" → mb x = bootBuiltins x) (nl : s.heap.NoLimit) (ng : s.gens = #[]) (ea : s.heap.get? a = some { cls := .type "list", data := .seq us.toArray }) (hr : Room k callerA)
    (F : ∀ base : Heap, K.In base → base.Ns mainGlobals mg → FnG P w K mg base CX0 k fa fd [x] sp) (bind : ∀ (s : Shared) (u : Value), BindsTo s fd ⟨[u], []⟩ [(x, u)]) (only : Only H) (ok : HOk P w H s.heap) (one : ∀ b, H b ≠ none → b = a) (ka : H a ≠ none → K.lookup a = none)
    (hsp : sp [.ref a] H (fun v _ => v = .bl true) fun _ _ _ => False) : codeAny (model P w) callerA (.call (.ref fa) ⟨[.ref a], []⟩) (Ended s) s := by
  have kin2 := hid_in (s := s) kin one ka
  have gl2 := hid_ns ea one gl
  have modl : Mod K mg (hidT s.heap H) := by
    obtain ⟨mc, n1, n2⟩ := nl
    exact ⟨kin2, gl2, ⟨mb, hid_ns ea one bl, bb⟩, ⟨mc, hid_ns ea one n1, n2⟩⟩
  have en : Env0 P w K mg (hidT s.heap H) callerA [] s H := ⟨rfl, modl, fun _ _ e => of_hidT e, Nat.le_of_eq (hidT_size _ _), trivial, fun b hb => (nomatch (show b ∈ ([] : List Addr) from hb)), ok, .of_eq ng⟩
  refine codeAny_mono ((F _ kin2 gl2).go callerA [] s H ⟨[.ref a], []⟩ [.ref a] [.ref a] _ _ rfl hr en (bind s (.ref a)) (.cons rfl .nil) hsp) fun r s' z => ?_
  match r, z with
  | .error _, z => exact z.elim
  | .ok .next, z => exact z.elim
  | .ok .brk, z => exact z.elim
  | .ok .cont, z => exact z.elim
  | .ok (.ret u), z =>
    obtain ⟨v, H', os, bare, un, ok', ru, ev⟩ := z
    have ev : v = .bl true := ev
    subst ev
    cases ru
    refine ⟨rfl, OldK.of_keep fun b o e => ?_, os, bare⟩
    rcases only b with z | ⟨ob, xs, z⟩
    · exact un.keep b o e z (fun y => nomatch (show b ∈ ([] : List Addr) from y)) (fun y => nomatch y)
    · have h1 := (ok b _ z).1
      have h2 := (ok' b _ (un.frzs b ob _ z)).1
      rw [e] at h1; cases h1
      exact h2
/-- .. whatever the script's list is -/
theorem law_callG (kin : K.In s.heap) (gl : s.heap.Ns mainGlobals mg) (bl : s.heap.Ns builtinsNs mb) (bb : ∀ x : Str, x ≠ "__name__" → mb x = bootBuiltins x) (nl : s.heap.NoLimit) (ng : s.gens = #[]) (ea : s.heap.get? a = some { cls := .type "list", data := .seq us.toArray }) (ei : IntsAre us ns) (hz : ns.length ≤ sizeLine) (hr : Room k callerA)
    (F : ∀ base : Heap, K.In base → base.Ns mainGlobals mg → FnG P w K mg base CX0 k fa fd [x] sp) (bind : ∀ (s : Shared) (u : Value), BindsTo s fd ⟨[u], []⟩ [(x, u)])
    (hsp : ∀ H : Hp, SqL K H a (ns.map V.int) → sp [.ref a] H (fun v _ => v = .bl true) fun _ _ _ => False) : codeAny (model P w) callerA (.call (.ref fa) ⟨[.ref a], []⟩) (Ended s) s := by
  have rv := vals_ints ei
  have lu := ei.length
  cases q : K.lookup a with
  | some o =>
    have eo := kin a o q
    rw [ea] at eo; cases eo
    have sq : SqL K (fun _ => none) a (ns.map V.int) := .inr ⟨_, us.toArray, _, q, rfl, rfl, rfl, by rw [List.size_toArray, lu]; exact hz, by simpa using rv⟩
    exact law_go kin gl bl bb nl ng ea hr F bind (H := fun _ => none) (fun _ => .inl rfl) (fun b u z => (nomatch (show (none : Option HO) = some u from z))) (fun _ z => absurd rfl z) (fun z => absurd rfl z) (hsp _ sq)
  | none =>
    let HA : Hp := fun b => if b = a then some (.frz { cls := .type "list", data := .seq us.toArray } (.lst (ns.map V.int))) else none
    have at_ : HA a = some (.frz { cls := .type "list", data := .seq us.toArray } (.lst (ns.map V.int))) := if_pos rfl
    have off : ∀ b, b ≠ a → HA b = none := fun b h => if_neg h
    refine law_go kin gl bl bb nl ng ea hr F bind (H := HA) (fun b => ?_) (fun b u z => ?_) (fun b z => ?_) (fun _ => q) (hsp HA (.inl (.inr ⟨_, at_⟩)))
    · by_cases e : b = a
      · exact .inr ⟨_, _, e ▸ at_⟩
      · exact .inl (off b e)
    · by_cases e : b = a
      · subst e
        rw [at_] at z; cases z
        exact ⟨ea, by rw [List.length_map]; exact hz, us, _, rv, ea⟩
      · rw [off b e] at z; cases z
    · exact Decidable.byContradiction fun e => z (off b e)
end
theorem walk_G {l : PySem.W.OpenLaw} {n k : Nat} {q : Program} {loose : List Str} {XP : (Str → Option Value) → Heap → Prop} {YP : World → Heap → Prop} {d : DefRec} {K : Params → PySem.W.Frag} {sp : World → Sp} {x : Str} (most : l.most = some n) (small : n ≤ sizeLine) (nodef : d.params.defaults = []) (hr : Room k callerA) (kin : ∀ (w : World) (h : Heap), YP w h → (K w.params).In h)
    (F : ∀ (w : World) (mg : Str → Option Value) (fa : Addr) (h : Heap), (K w.params).In h → h.Ns mainGlobals mg → mg d.name = some (.ref fa) → ∃ fd : FuncData, (∀ (s : Shared) (u : Value), BindsTo s fd ⟨[u], []⟩ [(x, u)]) ∧ ∀ base : Heap, (K w.params).In base → base.Ns mainGlobals mg → FnG l.prog w (K w.params) mg base CX0 k fa fd [x] (sp w))
    (hsp : ∀ (w : World) (H : Hp) (a : Addr) (ns : List Int), ns.length ≤ n → SqL (K w.params) H a (ns.map V.int) → sp w [.ref a] H (fun v _ => v = .bl true) fun _ _ _ => False) :
    PySem.W.WalkO q loose XP YP l.row.toRowW d [] (fun f vs => PySem.call f vs) := by
  refine Att.attach_call most nodef fun w s0 s mg mb fa o pm cd doc a us ns G Y ho hd hcd hmg hobj hints hlen hgens => ?_
  have kh := kin w _ Y
  obtain ⟨fd, bind, hF⟩ := F w mg fa _ kh G.T.g hmg
  exact law_callG kh G.T.g G.T.b G.T.builtins G.T.nolimit hgens hobj hints (Nat.le_trans hlen small) hr hF bind fun H sq => hsp w H a ns hlen sq
end DL
namespace DL
open PySem PySem.Spec PyProof.Rows L2 TL

/-- a new deck -/
def spDeck (K : PySem.W.Frag) : Sp := fun vs H Q _ => ∃ (a : Addr) (ns : List Int), vs = [.ref a] ∧ SqL K H a (ns.map V.int) ∧ ns.length ≤ 63 ∧ ∀ (p q : Addr) (l : List Int) (b : Int) (H' : Hp), Same H H' → H p = none → H q = none → p ≠ q → l.length ≤ 63 → DeckAt H' p q l b → Q (.ref p) H'
def cutI (xs : List Int) (lo hi : Option Int) : List Int := (xs.drop (HT.sIx xs.length 0 lo)).take (HT.sIx xs.length xs.length hi - HT.sIx xs.length 0 lo)
theorem cutV_ints (xs : List Int) (lo hi : Option Int) : cutV (xs.map V.int) lo hi = (cutI xs lo hi).map V.int := by
  unfold cutV cutI
  rw [List.length_map, List.map_take, List.map_drop]
theorem cutI_len (xs : List Int) (lo hi : Option Int) : (cutI xs lo hi).length ≤ xs.length := by
  unfold cutI
  rw [List.length_take, List.length_drop]; omega
theorem int_at {ns : List Int} {i : Nat} {x : V} (h : (ns.map V.int)[i]? = some x) : ∃ c, x = .int c ∧ i < ns.length := by
  rw [List.getElem?_map] at h
  cases e : ns[i]? with
  | none => rw [e] at h; cases h
  | some c => rw [e] at h; cases h; exact ⟨c, rfl, (List.getElem?_eq_some_iff.mp e).1⟩
theorem merge2 {q : Addr} {b : Int} : mergeK [] [((.inr "left" : Key), V.ref q), (.inr "blend", .int b)] = [(.inr "left", .ref q), (.inr "blend", .int b)] := by
  have h : ¬ ((Sum.inr "left" : Key) = .inr "blend") := by decide +kernel
  unfold mergeK putK
  simp [h, putK]
/-- the law's frame behind its first statement -/
theorem StE.law {K : PySem.W.Frag} {H : Hp} {σ : L2.St} {p q : Addr} {l : List Int} {b : Int} {n : Nat} (hl : σ.length = n + 2) (h1 : σ[1]? = some (some (.ref p))) (npq : p ≠ q) (dk : DeckAt H p q l b) :
    StE K ⟨fun _ => none, fun _ => none, [], []⟩ (fun _ => none) H σ (.no :: .deck p q l b :: nos n) fun i => if i = 1 then [p, q] else [] := by
  refine ⟨by rw [hl]; unfold nos; simp, Same.refl _, fun _ _ h => (nomatch h), fun _ _ h => (nomatch h), fun _ _ => rfl, fun _ _ h => absurd rfl h, fun i c e => ?_, fun i j a h1 h2 => ?_, fun i a h => ⟨rfl, .inl rfl⟩, fun i h => ?_⟩
  · match i, e with
    | 0, e => cases e; exact ⟨_, List.getElem?_eq_getElem (by omega), rfl⟩
    | 1, e => cases e; exact ⟨_, h1, rfl, rfl, dk⟩
    | i + 2, e =>
      have e : (nos n)[i]? = some c := e
      unfold nos at e
      rw [List.getElem?_replicate] at e
      split at e
      · rename_i hi
        cases e
        exact ⟨_, List.getElem?_eq_getElem (by omega), if_neg (by omega)⟩
      · cases e
  · by_cases hi : i = 1
    · by_cases hj : j = 1
      · rw [hi, hj]
      · rw [if_neg hj] at h2; cases h2
    · rw [if_neg hi] at h1; cases h1
  · have : i ≠ 1 := fun z => by subst z; simp at h
    rw [if_neg this]
theorem law_read {K : PySem.W.Frag} {N : List Str} {n : Nat} {fb : SF} {H : Hp} {Q : VK} {nx : L2.St → Hp → Prop} {bk ct : L2.St → Hp → Prop} {a : Addr} {ns : List Int} (hN : N.length = n + 2)
    (hm : ∀ (p q : Addr) (l : List Int) (b : Int), l.length ≤ 63 → ∃ E, fb (.no :: .deck p q l b :: nos n) = .ok (.rt (.bl true), E)) (hS : SqL K H a (ns.map V.int)) (hl : ns.length ≤ 63) (z : ∀ H', Q (.bl true) H') :
    tSeq (tAsg (tCallG (spDeck K) W0 (tCons (tVar 0) tNil)) (gName 1)) (tS K W0 fb) { nx := nx, rt := Q, bk := bk, ct := ct } (L2.start N [.ref a]) H := by
  have len : (L2.start N [.ref a]).length = n + 2 := by
    rw [start_len (by simp only [List.length_cons, List.length_nil]; omega)]; exact hN
  refine ⟨_, start_get (v := .ref a) rfl, a, ns, rfl, hS, hl, fun p q l b H' s hp hq npq hll dk => ?_⟩
  refine ⟨_, _, _, _, StE.law (q := q) (l := l) (b := b) (n := n) (by rw [List.length_set]; exact len) (List.getElem?_set_self (by rw [len]; omega)) npq dk, ?_⟩
  obtain ⟨E, e⟩ := hm p q l b hll
  rw [e]
  intro v σ' G' H'' as' _ _ dd
  cases dd
  exact z _
end DL
namespace DL
open PySem PySem.Spec PyProof.Rows L2 TL
section
variable {X : Cx} {Wi : Wish} {a b c : Expr} {fa fb fc : EF} {pos : Pos} {g g' : D → D → Option D} {r r' : R2}
end
end DL
namespace DL
open PySem PySem.Spec PyProof.Rows L2 TL
section
variable {X : Cx}
end
end DL
namespace DL
open PySem PySem.Spec PyProof.Rows L2 TL
section
variable {X : Cx} {Wi : Wish} {tg elt : Expr} {ifs : List Expr} {scope : Scope} {own : List (Str × Nat)} {pos : Pos} {g : GF} {fc : BF} {fe : EF} {ts : List Nat}
end
end DL
namespace DL
open PySem PySem.Spec PyProof.Rows L2 TL
section
variable {prog : Program} {w : World} {A : Around} {E : Value → Shared → Prop} {s : Shared} {K : PySem.W.Frag} {x C L f : Addr} {h₀ : Heap} {m : Str → Option Value} {ox : Obj} {od : Option Obj} {b tb : Value}
end
section
variable {X : Cx} {CX : CXT} {Wi : Wish} {pins : List (Addr × Obj)} {σ : L2.St} {H : Hp} {s : Shared} {Q : VK} {k : Nat} {f : Addr} {fd : FuncData} {ps : List Str} {sp : Sp} {us : List Value} {vs : List V}
end
section
variable {X : Cx} {CX : CXT} {Wi : Wish} {a b : Expr} {fa fb : EF} {pos : Pos} {n : Nat} {C f : Addr} {fd : FuncData} {ps : List Str} {oc : List Addr} {gm : List D → Res D}
end
end DL
namespace DL
open PySem PySem.Spec PyProof.Rows L2 TL
section
variable {X : Cx} {Wi : Wish} {o e : Expr}
end
section
variable {X : Cx} {CX : CXT} {Wi : Wish} {k : Nat} {C pr g a dx : Addr} {fs : List (Str × V)} {f : Str} {fd : FuncData} {ps : List Str} {sp : Sp} {e : Expr} {pos : Pos}
end
section
variable {X : Cx} {Wi : Wish} {tg elt : Expr} {ifs : List Expr} {scope : Scope} {own : List (Str × Nat)} {pos spos py : Pos} {g : GF} {fc : BF} {fe : EF} {ts : List Nat}
end
end DL
namespace DL
open PySem PySem.Spec PyProof.Rows L2 TL
end DL
namespace DL
open PySem PySem.Spec PyProof.Rows L2 TL
section
variable {X : Cx} {Wi : Wish} {elt tg iter tg1 iter1 : Expr} {ifs ifs1 : List Expr} {scope : Scope} {own : List (Str × Nat)} {vs1 : List Nat} {pos spos py : Pos} {fi fi1 : IF} {g g1 : GF} {ts ts1 : List Nat} {fc fc1 : BF} {fe : EF}
end
section
variable {X : Cx} {Wi : Wish} {o e : Expr} {fo fe : EF} {apos pos : Pos}
end
end DL
namespace DL
open PySem PySem.Spec PyProof.Rows L2 TL
section
variable {prog : Program} {w : World} {A : Around} {E : Value → Shared → Prop} {s : Shared}
end
section
variable {X : Cx} {Wi : Wish} {e se : Expr} {te tse : TE} {k : Int} {p3 pos : Pos} {fe : EF}
end
end DL
namespace DL
open PySem PySem.Spec PyProof.Rows L2 TL
end DL
namespace DL
open PySem PySem.Spec PyProof.Rows L2 TL
section
variable {X : Cx} {pins : List (Addr × Obj)} {σ : L2.St} {G H : Hp} {s : Shared} {v : V} {u : Value} {d : D}
/-- it is shown so, under what is being shown -/
def Shn (P : Program) (w : World) (h : Heap) (u : Value) (d : PyData) : Prop := ∃ bs, ReadAtMost h d.depth bs ∧ ReprK P w bs h d.depth u d.shown
def ShnL (P : Program) (w : World) (h : Heap) (us : List Value) (ds : List PyData) : Prop := ∃ bs, ReadAtMost h (PyData.depthAll ds) bs ∧ ReprAllK P w bs h (PyData.depthAll ds) us (PyData.shownAll ds)
section
variable {P : Program} {w : World} {h : Heap} {a : Addr} {o : Obj} {n : Nat}
theorem shn_list {us : List Value} {ds : List PyData} {as : List Addr} (ho : h.get? a = some o) (hc : o.cls = .type "list") (hd : o.data = .seq us.toArray n) (hr : ReadsAll h us ds as) (k : ShnL P w h us ds) : Shn P w h (.ref a) (.list ds) := by
  obtain ⟨bs, hb, k⟩ := k
  have rl := Reads.list ho hc hd (by simpa using hr)
  have hna : a ∉ bs := not_mem_of_deeper rl (Nat.lt_succ_self _) hb
  refine ⟨a :: bs, hb.cons rl (Nat.le_succ _), ?_⟩
  show ReprK P w (a :: bs) h (PyData.depthAll ds + 1) (.ref a) (listText (PyData.shownAll ds))
  generalize PyData.shownAll ds = ts at k ⊢
  cases us with
  | nil =>
    cases k
    rw [listText_nil]
    exact .listEmpty ho hc hd
  | cons x us =>
    have hl := k.length_eq
    exact .list ho hc hd hna (by simpa using hl) fun i y q => k.item i y (by simpa using q)
theorem shn_tup {us : List Value} {ds : List PyData} {as : List Addr} (ho : h.get? a = some o) (hc : o.cls = .type "tuple") (hd : o.data = .seq us.toArray n) (hr : ReadsAll h us ds as) (k : ShnL P w h us ds) : Shn P w h (.ref a) (.tuple ds) := by
  obtain ⟨bs, hb, k⟩ := k
  have rl := Reads.tuple ho hc hd (by simpa using hr)
  have hna : a ∉ bs := not_mem_of_deeper rl (Nat.lt_succ_self _) hb
  exact ⟨a :: bs, hb.cons rl (Nat.le_succ _), .tuple ho hc hd hna (by simpa using k)⟩
theorem shn_dic {es : Array DictEntry} (ho : h.get? a = some o) (hc : o.cls = .type "dict") (hd : o.data = .dict es n) (he : es.toList = []) (hs : (a == PySem.sysModules) = false) : Shn P w h (.ref a) (.dict []) := by
  have rd : Reads h (.ref a) (.dict []) (a :: [] ++ []) := .dict ho hc hd (by rw [he]; exact .nil) (by rw [he]; exact .nil)
  refine ⟨a :: [], ReadAtMost.cons (n := 0) rd (Nat.zero_le _) (fun _ z => nomatch z), ?_⟩
  exact .dict (ps := []) ho hc hd hs List.not_mem_nil (by rw [he]; exact .nil)
end
end
section
variable {X : Cx} {Wi : Wish} {o : Expr} {fo : EF} {apos pos : Pos}
end
end DL
namespace DL
open PySem PySem.Spec PyProof.Rows L2 TL
end DL
namespace DL
open PySem PySem.Spec PyProof.Rows L2 TL PpSet
section
variable {X : Cx} {elt tg iter : Expr} {ifs : List Expr} {scope : Scope} {own : List (Str × Nat)} {pos : Pos} {wi : TI} {g : TG} {tt : TT} {te : TE}
end
end DL
namespace DL
open PySem PySem.Spec PyProof.Rows L2

abbrev exTl : List Value := [.type "Exception", .type "BaseException", .type "object"]
/-- what the class must say -/
structure ExCls (K : PySem.W.Frag) (C : Addr) : Prop where
  ei : PySem.W.excInitIn K C exTl "Exception.__new__" = true
  ov : PySem.W.excOver K C exTl = true
  ex : PySem.W.subIn K (.ref C) (.type "BaseException") = some true
  xx : PySem.W.subIn K (.ref C) (.type "Exception") = some true
  ty : PySem.W.typeIn K (.ref C) = some (.type "type")
  kp : PySem.W.keepIn K (.ref C) = true
  hd : PySem.W.hasDictIn K C = true
  sa : PySem.W.findIn K (.ref C) "__setattr__" = some (some (.builtin "object.__setattr__"))
  me : PySem.W.mroIn K C (.ref C) = some true
  su : PySem.W.ks_superIn K C C "__init__" = some (some (.builtin "Exception.__init__"))
  th : PySem.W.nsIn K cStatics "thirdparty.any" = some none
  ga : PySem.W.findIn K (.ref C) "__getattribute__" = some (some (.builtin "BaseException.__getattribute__"))
  gg : PySem.W.findIn K (.ref C) "__getattr__" = some none
/-- its __init__, a def that closes over the class -/
structure ExFn (P : Program) (K : PySem.W.Frag) (mg : Str → Option Value) (C fI : Addr) (qual : Str) (st : Stmt) : Prop where
  ini : PySem.W.findIn K (.ref C) "__init__" = some (some (.ref fI))
  tyI : PySem.W.typeIn K (.ref fI) = some (.type "function")
  fn : ∃ (oc kV dc pm cd ct clc cll : Value) (od an cld cdd : Option Addr) (osl csl ccs : Array (Option Value)) (cda cc : Addr) (vs : Array Value) (file : Str) (tf : Tok),
    K.lookup fI = some ⟨oc, od, .func (PySem.W.fnX "__init__" qual (defArgs st) (defBody st) (defScope st) [("__class__", cc)] .none kV dc pm an cd ct), osl⟩ ∧ cd = .ref cda ∧ PySem.W.codeIn K cd qual = true ∧
    K.lookup cda = some ⟨clc, cdd, .fields vs, ccs⟩ ∧ vs[2]? = some (.str file tf) ∧ ((P.main.file : Str) == file) = true ∧ K.lookup cc = some ⟨cll, cld, .cell (some (.ref C)), csl⟩
  gs : mg "super" = none
  top : (P.main.scope.names.lookup ("super" : Str)).isSome = false

section
variable {prog : Program} {w : World} {A : Around} {K : PySem.W.Frag} {E : Value → Shared → Prop} {h : Heap} {g : Array GenState} {dr : PySem.Drawn} {t : Nat} {os : OsState} {C x : Addr}
theorem ExCls.obj (T : ExCls K C) (X : K.In h) : ∃ nm N qn bs bm hdct sn sub ab col dd k0 k1 k2 k3 k5, h.get? C = some (excClassObj nm qn C N bs bm hdct sn sub ab col dd k0 k1 k2 k3 k5 "Exception.__new__") ∧ ∀ Y : String, bm.contains (.type Y) = exTl.contains (.type Y) := PySem.W.excInit_of X T.ei
theorem cls_obj {D : Addr} {cd : ClassData} (X : K.In h) (hD : PySem.W.clsIn K D = some cd) : ∃ o, h.get? D = some o ∧ o.data = .cls cd := by
  unfold PySem.W.clsIn at hD
  split at hD
  · rename_i c d cd' sl ho
    cases hD
    exact ⟨_, X _ _ ho, rfl⟩
  · cases hD
/-- the first field of an exception -/
theorem set_exc1 {f : Str} {v : Value} {t0 : Addr} {Q : Unit → Shared → Prop} (T : ExCls K C) (X : K.In h) (hx : h.get? x = some (HandSPX.excO C t0)) (hf : PySem.W.findIn K (.ref C) f = some none)
    (hq : ∀ h' tk' dx, (∀ b o, b ≠ x → h.get? b = some o → h'.get? b = some o) → h.objs.size ≤ dx → dx ≠ x → h'.get? x = some { cls := .ref C, dict := some dx, data := .fields #[.ref t0, .none, .none, .none, .bool false, .none] } →
      h'.Ns1 dx (fun y => if y = f then some v else none) → Q () ⟨h', g, dr, tk', os⟩) : wpAny (model prog w) A (setAttr (.ref x) f v) Q E ⟨h, g, dr, t, os⟩ := by
  obtain ⟨cd, hcd, hdd⟩ := PySem.W.any_some T.hd
  have hxs : x ≠ h.objs.size := Nat.ne_of_lt (Heap.lt_size hx)
  have I : PySem.W.InstAt h x (HandSPX.excO C t0) C none := ⟨hx, rfl, rfl, trivial⟩
  refine PySem.W.set_plain X I T.sa (PySem.W.osa_openX (s := ⟨h, g, dr, t + 1, os⟩) (r := none) PySem.F.store_Exception X I T.ov (by unfold PySem.W.takerIn; rw [hf]; rfl) fun b => ?_)
  have hcls : PySem.W.Looks (model prog w) h (classData C) cd := PySem.W.looks_clsIn X hcd
  obtain ⟨nm, bs, mro, ns, qn, hd, sn, sb, ab, col, del⟩ := cd
  dsimp only at hdd
  subst hdd
  show wpAny _ _ (Builtin.ObjectAttr.storeInOwnDict (.ref x) (.ref C) (.str f t) f v b) _ _ _
  unfold Builtin.ObjectAttr.storeInOwnDict Builtin.ObjectAttr.ownDictForStores
  repeat (first | with_reducible refine HandSPX.store_in_new ?_ ?_ | with_reducible refine wpAny_loadPart_at hx ?_ | with_reducible refine hcls.at ?_ | wp_step)
  · exact ⟨_, #[], _, (Heap.get?_update_ne _ _ _ _ hxs.symm).trans (Heap.get?_push_at rfl rfl), rfl, fun e he => absurd he (by simp), fun _ => rfl⟩
  · intro h' tk' hn' hs
    have hx1 : (h.push { cls := .type "dict", data := .dict #[] }).get? x = some (HandSPX.excO C t0) := Heap.get?_push_of_some _ hx
    refine hq h' tk' h.objs.size (fun b o hb ho => ?_) (Nat.le_refl _) hxs.symm ?_ hn'
    · exact (hs.2 b (Nat.ne_of_lt (Heap.lt_size ho))).trans ((Heap.get?_update_ne _ _ _ _ hb).trans (Heap.get?_push_of_some _ ho))
    · exact (hs.2 x hxs).trans (Heap.get?_update_self _ hx1 rfl)

/-- super().__init__(text) -/
def exSup (msg : Str) (k : Nat) (p0 p1 p2 p3 p4 p5 : Pos) : Stmt := .Expr (.Call (.Attribute (.Call (.Name "super" p0) [] [] p1) "__init__" p2) [.Constant (.str msg) k p3] [] p4) p5
/-- self.f = a parameter -/
def exPut (f par : Str) (p6 p7 p8 p9 : Pos) : Stmt := .Assign [.Attribute (.Name "self" p6) f p7] (.Name par p8) p9
theorem call_mw {u t0 : Addr} {v : Value} {Q : Value → Shared → Prop} (T : ExCls K C) (X : K.In h) (he : h.get? x = some (HandSPX.excO C t0)) (hu : h.get? u = some (PySem.W.kxs_mw "Exception.__init__" x))
    (hq : ∀ h' t1, (∀ b o, b ≠ x → h.get? b = some o → h'.get? b = some o) → h'.get? x = some (HandSPX.excO C t1) → Q .none ⟨h', g, dr, t, os⟩) : wpAny (model prog w) A (call (.ref u) [v]) Q E ⟨h, g, dr, t, os⟩ := by
  obtain ⟨nm, N, qn, bs, bm, hdct, sn, sub, ab, col, dd, k0, k1, k2, k3, k5, hC, hT⟩ := T.obj X
  exact ESX.call_bw hC he hu (by show 1 ≤ sizeLine; rw [sizeLine_eq]; decide) hq
theorem sup_init {body : List Stmt} {qual : Str} {scope : Scope} {L fI cda cc : Addr} {msg : Str} {k : Nat} {p0 p1 p2 p3 p4 p5 : Pos} {m mg mb : Str → Option Value} {t0 : Addr} {Q : Flow → Shared → Prop} {fd : FuncData} {fo co cco : Obj} {ar : Arg} {vs : Array Value} {file : Str} {tf : Tok}
    (T : ExCls K C) (X : K.In h) (hns : h.Ns L m) (hse : m ar.arg = some (.ref x)) (hx : h.get? x = some (HandSPX.excO C t0)) (hg : h.Ns mainGlobals mg) (gs : mg "super" = none) (hb : h.Ns builtinsNs mb) (bs : mb "super" = some (.type "super"))
    (hf : h.get? fI = some fo) (hfd : fo.data = .func fd) (hp : (fd.params.posonlyargs ++ fd.params.args).head? = some ar) (hcc : h.get? cda = some co) (hoc : co.data = .fields vs) (hvs : vs[2]? = some (.str file tf)) (hfile : ((prog.main.file : Str) == file) = true)
    (hcell : h.get? cc = some cco) (hcd : cco.data = .cell (some (.ref C))) (htop : (prog.main.scope.names.lookup ("super" : Str)).isSome = false)
    (hks : scope.names.lookup ("super" : Str) = some .globalImplicit) (hkc : scope.names.lookup ("__class__" : Str) = some .free) (hka : scope.names.lookup ar.arg = some .local) (hk : scope.kind = .function)
    (hsw : swapsWith (.Call (.Attribute (.Call (.Name "super" p0) [] [] p1) "__init__" p2) [.Constant (.str msg) k p3] [] p4) none p5.line (PySem.W.ksEnv qual scope L fI (.ref cda) cc) = pure false)
    (hin : interactive (PySem.W.ksEnv qual scope L fI (.ref cda) cc) = false) {pl : Sem Bool}
    (hev : eval (.Call (.Attribute (.Call (.Name "super" p0) [] [] p1) "__init__" p2) [.Constant (.str msg) k p3] [] p4) (PySem.W.ksEnv qual scope L fI (.ref cda) cc) = (do
      let o ← attributeBase (.Call (.Name "super" p0) [] [] p1) "__init__" (PySem.W.ksEnv qual scope L fI (.ref cda) cc) (eval (.Call (.Name "super" p0) [] [] p1) (PySem.W.ksEnv qual scope L fI (.ref cda) cc))
      standAt p2.atName
      let (f, first) ← holding [o] (getMethod o "__init__" pl)
      callWith p4 f first (backTo p4 (starEach [.Constant (.str msg) k p3] (PySem.W.ksEnv qual scope L fI (.ref cda) cc))) []))
    (hq : ∀ h' t1 tk', (∀ b o, b ≠ x → h.get? b = some o → h'.get? b = some o) → h'.get? x = some (HandSPX.excO C t1) → Q .next ⟨h', g, dr, tk', os⟩) :
    _root_.PySem.wpAt (model prog w) A (.func body (PySem.W.ksEnv qual scope L fI (.ref cda) cc)) (exec (exSup msg k p0 p1 p2 p3 p4 p5) (PySem.W.ksEnv qual scope L fI (.ref cda) cc)) Q E ⟨h, g, dr, t, os⟩ := by
  obtain ⟨cd, hcl, hdd⟩ := PySem.W.any_some T.hd
  obtain ⟨oD, hD1, hD2⟩ := cls_obj X hcl
  have hsu := T.su
  unfold PySem.W.ks_superIn at hsu
  rw [hcl] at hsu
  have I : PySem.W.InstAt h x (HandSPX.excO C t0) C none := ⟨hx, rfl, rfl, trivial⟩
  have nx : x ≠ C := PySem.W.ks_ne X I hcl
  refine ks_wpAt_Expr_any (ks_wpAt_MethodCall (pl := pl) ?_ hev) hin hsw
  refine ks_wpAt_super_base (env := PySem.W.ksEnv qual scope L fI (.ref cda) cc) hks hkc (by decide) rfl hf hfd hp rfl hcc hoc hvs hfile htop ?_
  refine PySem.W.ks_loadName_global hk hks (Calls.loadGlobal_builtin (env := PySem.W.ksEnv qual scope L fI (.ref cda) cc) hg gs hb bs ⟨rfl, ?_⟩)
  refine wpAny_loadName_free hk hkc rfl ⟨cco, hcell, hcd⟩ ?_
  refine wpAny_loadName_local hk hka hns hse ?_
  refine ks_wpAny_isType_cls hD1 hD2 ⟨rfl, ?_⟩
  refine ks_wpAny_call_super hD1 hD2 hx rfl (fun c z => nomatch z) (PySem.W.looks_mroIn X T.me) (fun h1 e1 k1 => ?_)
  have X1 : K.In h1 := X.keeps k1
  have I1 : PySem.W.InstAt h1 x (HandSPX.excO C t0) C none := ⟨k1 _ _ hx, rfl, rfl, trivial⟩
  have isx : PySem.W.Looks (model prog w) h1 (isInstance (.ref x) (.type "Exception")) true := I1.type.andThen (PySem.W.looks_subIn X1 T.xx)
  refine PySem.W.kxs_getMethod PySem.W.kxs_Exception e1 (PySem.W.looks_opaque X1 T.th) (l₀ := cd.mro) ?_ rfl X1 hsu isx nx (by decide) ?_
  · exact fun A Q E s k q => wpAny_bind ((PySem.W.looks_clsIn X1 hcl) A _ E s k (wpAny_pure q))
  · have k2 : ∀ b o, h1.get? b = some o → (h1.push (PySem.W.kxs_mw "Exception.__init__" x)).get? b = some o := fun b o e => Heap.get?_push_of_some _ e
    refine PySem.W.kxs_callWith (i := "Exception.__init__") (x := x) rfl ?_
    refine Calls.evalArgs_plain ?_
    refine spliced_more (wpAny_Constant_str (spliced_none ?_))
    refine ⟨Heap.get?_push_at rfl rfl, ?_⟩
    refine call_mw T (X1.keeps k2) (k2 _ _ (k1 _ _ hx)) (Heap.get?_push_at rfl rfl) fun h' t1 k3 e3 => ?_
    exact hq h' t1 _ (fun b o hb ho => k3 b o hb (k2 _ _ (k1 _ _ ho))) e3

/-- the text of super().__init__(msg), where it stands -/
structure SupAt (qual : Str) (scope : Scope) (msg : Str) (k : Nat) (p0 p1 p2 p3 p4 p5 : Pos) : Prop where
  sw : ∀ (L fI cda cc : Addr), swapsWith (.Call (.Attribute (.Call (.Name "super" p0) [] [] p1) "__init__" p2) [.Constant (.str msg) k p3] [] p4) none p5.line (PySem.W.ksEnv qual scope L fI (.ref cda) cc) = pure false
  it : ∀ (L fI cda cc : Addr), interactive (PySem.W.ksEnv qual scope L fI (.ref cda) cc) = false
  ev : ∃ pl : Sem Bool, ∀ (L fI cda cc : Addr), eval (.Call (.Attribute (.Call (.Name "super" p0) [] [] p1) "__init__" p2) [.Constant (.str msg) k p3] [] p4) (PySem.W.ksEnv qual scope L fI (.ref cda) cc) = (do
      let o ← attributeBase (.Call (.Name "super" p0) [] [] p1) "__init__" (PySem.W.ksEnv qual scope L fI (.ref cda) cc) (eval (.Call (.Name "super" p0) [] [] p1) (PySem.W.ksEnv qual scope L fI (.ref cda) cc))
      standAt p2.atName
      let (f, first) ← holding [o] (getMethod o "__init__" pl)
      callWith p4 f first (backTo p4 (starEach [.Constant (.str msg) k p3] (PySem.W.ksEnv qual scope L fI (.ref cda) cc))) [])
/-- what the scope of such an __init__ says -/
structure SupSc (scope : Scope) : Prop where
  ks : scope.names.lookup ("super" : Str) = some .globalImplicit
  kc : scope.names.lookup ("__class__" : Str) = some .free
  ka : scope.names.lookup ("self" : Str) = some .local
  kk : scope.kind = .function
  nc : ∀ x ∈ scope.names, x.2 ≠ .cell
  co : scope.isCoroutine = false
  gn : scope.isGenerator = false
/-- def __init__(self, par): super().__init__(msg); self.f = par -/
structure ExText1 (qual : Str) (st : Stmt) (f par : Str) : Prop where
  sc : SupSc (defScope st)
  lp : (defScope st).names.lookup par = some .local
  np : par ≠ "self"
  ha : ∃ ar : Arg, ((defArgs st).posonlyargs ++ (defArgs st).args).head? = some ar ∧ ar.arg = "self"
  bd : ∀ (cc : Addr) (kV dc pm cd ct : Value) (an : Option Addr) (x u : Value), bindArgs (PySem.W.fnX "__init__" qual (defArgs st) (defBody st) (defScope st) [("__class__", cc)] .none kV dc pm an cd ct) ⟨[x, u], []⟩ = pure [(("self" : Str), x), (par, u)]
  body : ∃ msg k p0 p1 p2 p3 p4 p5 p6 p7 p8 p9, defBody st = [exSup msg k p0 p1 p2 p3 p4 p5, exPut f par p6 p7 p8 p9] ∧ SupAt qual (defScope st) msg k p0 p1 p2 p3 p4 p5 ∧
    ∀ (L fI cda cc : Addr), swapsWith (.Name par p8) (some (.Attribute (.Name "self" p6) f p7)) p9.line (PySem.W.ksEnv qual (defScope st) L fI (.ref cda) cc) = pure false
  nd : (par == ("__debug__" : Str)) = false
/-- def __init__(self): super().__init__(msg) -/
structure ExText0 (qual : Str) (st : Stmt) : Prop where
  sc : SupSc (defScope st)
  ha : ∃ ar : Arg, ((defArgs st).posonlyargs ++ (defArgs st).args).head? = some ar ∧ ar.arg = "self"
  bd : ∀ (cc : Addr) (kV dc pm cd ct : Value) (an : Option Addr) (x : Value), bindArgs (PySem.W.fnX "__init__" qual (defArgs st) (defBody st) (defScope st) [("__class__", cc)] .none kV dc pm an cd ct) ⟨[x], []⟩ = pure [(("self" : Str), x)]
  body : ∃ msg k p0 p1 p2 p3 p4 p5, defBody st = [exSup msg k p0 p1 p2 p3 p4 p5] ∧ SupAt qual (defScope st) msg k p0 p1 p2 p3 p4 p5
theorem ini_code1 {mg mb : Str → Option Value} {fI t0 : Addr} {qual : Str} {st : Stmt} {f par : Str} {v : Value} {R : Result → Shared → Prop} {hp : Heap} (T : ExCls K C) (F : ExFn prog K mg C fI qual st) (S : ExText1 qual st f par) (XP : K.In hp) (xp : hp.get? x = none) (kp : ∀ b o, hp.get? b = some o → h.get? b = some o)
    (hx : h.get? x = some (HandSPX.excO C t0))
    (hf : PySem.W.findIn K (.ref C) f = some none) (hg : h.Ns mainGlobals mg) (hb : h.Ns builtinsNs mb) (bs : mb "super" = some (.type "super")) (lim : h.NoLimit) (room : A.depth < recursionLimit)
    (hq : ∀ h' tk' dx t1, (∀ b o, b ≠ x → h.get? b = some o → h'.get? b = some o) → h.objs.size ≤ dx → dx ≠ x → h'.get? x = some { cls := .ref C, dict := some dx, data := .fields #[.ref t1, .none, .none, .none, .bool false, .none] } →
      h'.Ns1 dx (fun y => if y = f then some v else none) → R (.ok (.ret .none)) ⟨h', g, dr, tk', os⟩) : codeAny (model prog w) A (.call (.ref fI) ⟨[.ref x, v], []⟩) R ⟨h, g, dr, t, os⟩ := by
  obtain ⟨oc, kV, dc, pm, cd, ct, clc, cll, od, an, cld, cdd, osl, csl, ccs, cda, cc, vs, file, tf, lk, rfl, hcod, lcd, hvs, hfile, lcc⟩ := F.fn
  obtain ⟨msg, k, p0, p1, p2, p3, p4, p5, p6, p7, p8, p9, hbody, sup, sw2⟩ := S.body
  obtain ⟨ar, har, haS⟩ := S.ha
  obtain ⟨pl, hev⟩ := sup.ev
  have X : K.In h := XP.keeps kp
  have nK : ∀ b o, K.lookup b = some o → b ≠ x := fun b o e z => by
    have := XP _ _ e
    rw [z, xp] at this; cases this
  have lpar : ∀ y ∈ [(("self" : Str), Value.ref x), (par, v)], (defScope st).names.lookup y.1 = some .local := fun y hy => by
    rcases List.mem_cons.mp hy with e | hy
    · rw [e]; exact S.sc.ka
    · rw [List.mem_singleton.mp hy]; exact S.lp
  refine ks_codeAny_call_defAt (binds := [(("self" : Str), .ref x), (par, v)]) room (X _ _ lk) rfl lim (PySem.W.codeRec_of X hcod) rfl (.of_eq (S.bd _ _ _ _ _ _ _ _ _)) S.sc.nc lpar (fun h0 hns k0 => ?_) S.sc.co S.sc.gn S.sc.kk
  have X0 := X.keeps k0
  have hself : ([(("self" : Str), Value.ref x), (par, v)] : List (Str × Value)).reverse.lookup ("self" : Str) = some (.ref x) := by
    show List.lookup ("self" : Str) [(par, v), (("self" : Str), Value.ref x)] = _
    rw [List.lookup_cons]
    have e : (("self" : Str) == par) = false := by simpa using Ne.symm S.np
    rw [e]; simp
  have hpar : ([(("self" : Str), Value.ref x), (par, v)] : List (Str × Value)).reverse.lookup par = some v := by
    show List.lookup par [(par, v), (("self" : Str), Value.ref x)] = _
    rw [List.lookup_cons]; simp
  rw [hbody]
  refine ks_wpAt_execs_cons ?_
  refine sup_init (fd := PySem.W.fnX "__init__" qual (defArgs st) (defBody st) (defScope st) [("__class__", cc)] .none kV dc pm an (.ref cda) ct) (ar := ar) T X0 hns (by rw [haS]; exact hself) (k0 _ _ hx) (hg.keeps k0) F.gs (hb.keeps k0) bs (X0 _ _ lk) rfl har (X0 _ _ lcd) rfl hvs hfile (X0 _ _ lcc) rfl F.top S.sc.ks S.sc.kc (by rw [haS]; exact S.sc.ka) S.sc.kk (sup.sw _ _ _ _) (sup.it _ _ _ _) (hev _ _ _ _) fun h1 t1 tk1 k1 e1 => ?_
  have hlx : h.objs.size ≠ x := Nat.ne_of_gt (Heap.lt_size hx)
  have hn1 : h1.Ns h.objs.size (fun y => List.lookup y [(("self" : Str), Value.ref x), (par, v)].reverse) := by
    obtain ⟨o, es, ep, ho, hr⟩ := hns
    exact ⟨o, es, ep, k1 _ _ hlx ho, hr⟩
  have X1 : K.In h1 := fun b o e => k1 b o (nK b o e) (X0 b o e)
  have lo1 : h.objs.size < h1.objs.size := by
    obtain ⟨o, es, ep, ho, hr⟩ := hn1
    exact Heap.lt_size ho
  refine ks_wpAt_execs_cons ?_
  refine ks_wpAt_Assign_Attr ?_ (sw2 _ _ _ _)
  refine wpAt_of_wpAny (wpAny_Name (wpAny_loadName_local S.sc.kk S.lp hn1 hpar ?_) S.nd)
  refine wpAny_Name (wpAny_loadName_local S.sc.kk S.sc.ka hn1 hself ?_) (by decide)
  refine set_exc1 T X1 e1 hf fun h2 tk2 dx k2 l2 n2 e2 hd2 => ?_
  refine wpAt_of_wpAny (wpAny_execs_nil ?_)
  exact hq h2 tk2 dx t1 (fun b o hb ho => k2 b o hb (k1 b o hb (k0 b o ho))) (Nat.le_trans (Nat.le_of_lt lo1) l2) n2 e2 hd2
theorem ini_code0 {mg mb : Str → Option Value} {fI t0 : Addr} {qual : Str} {st : Stmt} {R : Result → Shared → Prop} {hp : Heap} (T : ExCls K C) (F : ExFn prog K mg C fI qual st) (S : ExText0 qual st) (XP : K.In hp) (kp : ∀ b o, hp.get? b = some o → h.get? b = some o)
    (hx : h.get? x = some (HandSPX.excO C t0)) (hg : h.Ns mainGlobals mg) (hb : h.Ns builtinsNs mb) (bs : mb "super" = some (.type "super")) (lim : h.NoLimit) (room : A.depth < recursionLimit)
    (hq : ∀ h' tk' t1, (∀ b o, b ≠ x → h.get? b = some o → h'.get? b = some o) → h'.get? x = some (HandSPX.excO C t1) → R (.ok (.ret .none)) ⟨h', g, dr, tk', os⟩) : codeAny (model prog w) A (.call (.ref fI) ⟨[.ref x], []⟩) R ⟨h, g, dr, t, os⟩ := by
  obtain ⟨oc, kV, dc, pm, cd, ct, clc, cll, od, an, cld, cdd, osl, csl, ccs, cda, cc, vs, file, tf, lk, rfl, hcod, lcd, hvs, hfile, lcc⟩ := F.fn
  obtain ⟨msg, k, p0, p1, p2, p3, p4, p5, hbody, sup⟩ := S.body
  obtain ⟨ar, har, haS⟩ := S.ha
  obtain ⟨pl, hev⟩ := sup.ev
  have X : K.In h := XP.keeps kp
  have lpar : ∀ y ∈ [(("self" : Str), Value.ref x)], (defScope st).names.lookup y.1 = some .local := fun y hy => by
    rw [List.mem_singleton.mp hy]; exact S.sc.ka
  refine ks_codeAny_call_defAt (binds := [(("self" : Str), .ref x)]) room (X _ _ lk) rfl lim (PySem.W.codeRec_of X hcod) rfl (.of_eq (S.bd _ _ _ _ _ _ _ _)) S.sc.nc lpar (fun h0 hns k0 => ?_) S.sc.co S.sc.gn S.sc.kk
  have X0 := X.keeps k0
  rw [hbody]
  refine ks_wpAt_execs_cons ?_
  refine sup_init (fd := PySem.W.fnX "__init__" qual (defArgs st) (defBody st) (defScope st) [("__class__", cc)] .none kV dc pm an (.ref cda) ct) (ar := ar) T X0 hns (by rw [haS]; rfl) (k0 _ _ hx) (hg.keeps k0) F.gs (hb.keeps k0) bs (X0 _ _ lk) rfl har (X0 _ _ lcd) rfl hvs hfile (X0 _ _ lcc) rfl F.top S.sc.ks S.sc.kc (by rw [haS]; exact S.sc.ka) S.sc.kk (sup.sw _ _ _ _) (sup.it _ _ _ _) (hev _ _ _ _) fun h1 t1 tk1 k1 e1 => ?_
  refine wpAt_of_wpAny (wpAny_execs_nil ?_)
  exact hq h1 tk1 t1 (fun b o hb ho => k1 b o hb (k0 b o ho)) e1
end
end DL
namespace DL
open PySem PySem.Spec PyProof.Rows L2

section
variable {X : Cx} {pins : List (Addr × Obj)} {σ : L2.St} {H : Hp} {Q : XK} {C fI : Addr} {qual : Str} {st : Stmt} {f par x : Str} {e : Expr} {te : TE} {p pos : Pos}
theorem boot_super : bootBuiltins "super" = some (.type "super") := by kernel_rfl
/-- behind __init__, with one field -/
theorem mk_one {hp hp2 h2 : Heap} {g g2 : Array GenState} {d d2 : PySem.Drawn} {t t2 : Nat} {os os2 : OsState} {a dx t1 : Addr} {v : V} {u : Value} (T : ExCls X.K C) (I1 : Inv X pins σ H ⟨hp, g, d, t, os⟩) (ha : hp.objs.size ≤ a) (k1 : ∀ b o, hp.get? b = some o → hp2.get? b = some o)
    (hx2 : ∃ t0, hp2.get? a = some (HandSPX.excO C t0)) (k2 : ∀ b o, b ≠ a → hp2.get? b = some o → h2.get? b = some o) (hd : hp2.objs.size ≤ dx) (na : dx ≠ a) (ex : h2.get? a = some { cls := .ref C, dict := some dx, data := .fields #[.ref t1, .none, .none, .none, .bool false, .none] })
    (ens : h2.Ns1 dx (fun y => if y = f then some u else none)) (rv : RelV v u) (eo : os2 = os) (eb : AllBare g2) (q : Q (.ref C) (some dx) (upd H dx (.xd [(f, v)]))) : MkP X pins σ Q (.ref a) ⟨h2, g2, d2, t2, os2⟩ := by
  obtain ⟨t0, hx2⟩ := hx2
  have I2 : Inv X pins σ (upd H a (exo a C none)) ⟨hp2, g, d, t, os⟩ := I1.laid (t' := t) (a := a) (o := exo a C none) (h' := hp2) k1 ha (exo_ok hx2)
  have na0 : H a = none := I1.hok.fresh ha
  have nd0 : H dx = none := by
    have z : upd H a (exo a C none) dx = none := I2.hok.fresh hd
    rw [upd_ne na] at z; exact z
  have lt2 : ∀ {b : Addr} {o : Obj}, hp2.get? b = some o → b ≠ dx := fun {b o} z => Nat.ne_of_lt (Nat.lt_of_lt_of_le (Heap.lt_size z) hd)
  obtain ⟨H2, hH2⟩ : ∃ H2, H2 = upd (upd (upd H a (exo a C none)) dx (exd dx [(f, v)])) a (exo a C (some dx)) := ⟨_, rfl⟩
  have at_a : H2 a = some (exo a C (some dx)) := by rw [hH2, upd_same]
  have at_d : H2 dx = some (exd dx [(f, v)]) := by rw [hH2, upd_ne na, upd_same]
  have at_o : ∀ {b : Addr}, b ≠ a → b ≠ dx → H2 b = H b := fun {b} h1 h2 => by rw [hH2, upd_ne h1, upd_ne h2, upd_ne h1]
  have old : ∀ {b : Addr} {o : HO}, upd H a (exo a C none) b = some o → o ≠ exo a C none → b ≠ a := fun {b o} z n e => by
    rw [e, upd_same] at z; exact n (Option.some.inj z).symm
  have oth : ∀ {b : Addr} {o : HO}, upd H a (exo a C none) b = some o → o ≠ exo a C none → H2 b = some o := fun {b o} z n => by
    have h1 := old z n
    rw [upd_ne h1] at z
    rw [at_o h1 (ne_of_none z nd0)]; exact z
  have un : Un (frs X.stack) [] (upd H a (exo a C none)) H2 hp2 h2 := by
    refine { keep := fun b o z n _ _ => ?_, slot := fun b o z n _ _ => ⟨o.slots, ?_⟩, free := fun b o z n _ => ?_, there := fun b o z _ => ?_, tups := fun b xs z => oth z (fun w => exo_tup w.symm), frzs := fun b o v z => oth z (fun w => exo_frz w.symm), tbls := fun b ps z => ⟨#[], ?_⟩ }
    · exact k2 b o (fun w => by rw [w, upd_same] at n; cases n) z
    · exact k2 b o (fun w => by rw [w, upd_same] at n; cases n) z
    · have h1 : b ≠ a := fun w => by rw [w, upd_same] at n; cases n
      rw [upd_ne h1] at n
      rw [at_o h1 (lt2 z)]; exact n
    · by_cases h1 : b = a
      · exact ⟨_, by rw [h1]; exact ex⟩
      · exact ⟨o, k2 b o h1 z⟩
    · rw [oth z (fun w => exo_tbl w.symm)]; simp
  have hok : HOk X.prog X.w H2 h2 := fun b o z => by
    by_cases h1 : b = a
    · rw [h1, at_a] at z; cases z
      rw [h1]; exact exo_ok ex
    · by_cases h2' : b = dx
      · rw [h2', at_d] at z; cases z
        rw [h2']
        exact exd_ok ens (fun y => by
          show RelO (List.lookup y [(f, v)]) (if y = f then some u else none)
          rw [List.lookup_cons]
          by_cases hy : y = f
          · subst hy; simp; exact rv
          · rw [if_neg hy]
            have : (y == f) = false := by simpa using hy
            rw [this]; trivial)
      · have z0 := z
        rw [at_o h1 h2'] at z0
        have zi : upd H a (exo a C none) b = some o := by rw [upd_ne h1]; exact z0
        exact (I2.hok b o zi).stay (fun c w hc r => k2 c w (by
            rcases hc with hc | hc
            · rw [hc]; exact h1
            · exact old hc (fun w => exo_own w.symm)) r) (fun c hc => oth hc (fun w => exo_own w.symm)) fun c xs hc => oth hc (fun w => exo_tup w.symm)
  refine L2.mk_end (raises_own T.ex T.ty) I1 ha k1 un hok eo eb at_a at_d nd0 ?_
  have eq : upd (del H2 a) dx (.xd [(f, v)]) = upd H dx (.xd [(f, v)]) := by
    funext b
    by_cases h2' : b = dx
    · rw [h2', upd_same, upd_same]
    · rw [upd_ne h2', upd_ne h2']
      by_cases h1 : b = a
      · rw [h1, del_same, na0]
      · rw [del_ne h1, at_o h1 h2']
  rw [eq]; exact q
/-- behind __init__, without a field -/
theorem mk_bare {hp h2 : Heap} {g : Array GenState} {d d2 : PySem.Drawn} {t t2 : Nat} {os : OsState} {a t1 : Addr} (T : ExCls X.K C) (I1 : Inv X pins σ H ⟨hp, g, d, t, os⟩) (ha : hp.objs.size ≤ a) (k1 : ∀ b o, hp.get? b = some o → h2.get? b = some o)
    (ex : h2.get? a = some (HandSPX.excO C t1)) (eb : AllBare g) (q : Q (.ref C) none H) : MkP X pins σ Q (.ref a) ⟨h2, g, d, t2, os⟩ :=
  ⟨a, _, _, ⟨hp, g, d, t, os⟩, H, .ref C, none, rfl, I1, k1, Heap.get?_none_of_le ha, ex, ⟨rfl, rfl⟩, rfl, rfl, I1.hok.fresh ha, rfl, eb, raises_own T.ex T.ty, q⟩
theorem vals_one {v : V} {us : List Value} (r : Vals [v] us) : ∃ u, us = [u] ∧ RelV v u := by
  cases r with
  | cons r1 r2 => cases r2; exact ⟨_, rfl, r1⟩
theorem pmk_ex1 {ta : TA} (T : ExCls X.K C) (F : ExFn X.prog X.K X.mg C fI qual st) (S : ExText1 qual st f par) (hf : PySem.W.findIn X.K (.ref C) f = some none) (hr : Room 1 X.A) (hg : Gl X x) (hm : X.mg x = some (.ref C)) (pa : PA X [e] ta)
    (hdb : (x == ("__debug__" : Str)) = false := by decide) (hst : starEach [e] X.env = (false, eval e X.env) :: starEach [] X.env := by rfl) (hpl : (backTo pos (starEach [] X.env)).any (·.1) = false := by rfl) :
    PMk X (.Call (.Name x p) [e] [] pos) (fun σ H Q => ta σ H fun vs H1 => ∃ v, vs = [v] ∧ ∀ d, H1 d = none → Q (.ref C) (some d) (upd H1 d (.xd [(f, v)]))) := by
  intro pins s σ H Q I h
  refine wpAny_Call_Name_kw (ld_glob I hg hm ?_ hdb)
  refine PySem.W.callWith_K (h₀ := X.base) I.ok.mod.kin T.kp (thn (pa.run pos pins s σ H _ I h) fun us s1 ⟨vs, H1, I1, r1, v, ev, q⟩ => ⟨I1.kIn, ?_⟩) hst hpl
  subst ev
  obtain ⟨u, rfl, rv⟩ := vals_one r1
  show wpAny _ _ (call (.ref C) [u]) _ _ _
  obtain ⟨nm, N, qn, bs, bm, hdct, sn, sub, ab, col, dd, k0, k1, k2, k3, k5, hC, hT⟩ := T.obj I1.kIn
  obtain ⟨mb, b1, b2⟩ := I1.mod.blt
  have lim := I1.mod.nolimit.keeps I1.bk
  obtain ⟨hp, g, dr, tk, os⟩ := s1
  have kk : ∀ b o, hp.get? b = some o → ((hp.push (PySem.W.kdv_tup [u])).push (HandSPX.excO C hp.objs.size)).get? b = some o := fun b o z => Heap.get?_push_of_some _ (Heap.get?_push_of_some _ z)
  have hx2 : ((hp.push (PySem.W.kdv_tup [u])).push (HandSPX.excO C hp.objs.size)).get? (hp.objs.size + 1) = some (HandSPX.excO C hp.objs.size) := by heap_get
  have fresh : hp.get? (hp.objs.size + 1) = none := Heap.get?_none_of_le (Nat.le_succ _)
  refine wpAny_call (HandSPX.call_own PySem.F.excBase_Exception hT hC (PySem.W.looks_findIn I1.kIn F.ini) (fun self => PySem.W.bind_fn I1.kIn self F.tyI) (by show 1 ≤ sizeLine; rw [sizeLine_eq]; decide) ?_)
  refine ini_code1 T F S I1.kIn fresh kk hx2 hf ((I1.mod.glob.keeps I1.bk).keeps kk) ((b1.keeps I1.bk).keeps kk) ((b2 _ (by decide)).trans boot_super) (lim.keeps kk) (hr.make C [u] []).depth fun h2 tk' dx t1 kz ld nd ex ens => ?_
  have lo : hp.objs.size ≤ dx := Nat.le_trans (by rw [Heap.size_push, Heap.size_push]; omega) ld
  refine ⟨rfl, ?_⟩
  show MkP X pins σ Q _ _
  exact mk_one (d2 := dr) (t2 := tk') T I1 (Nat.le_succ _) kk ⟨_, hx2⟩ kz ld nd ex ens rv rfl I1.bare (q dx (I1.hok.fresh lo))
theorem pmk_ex0 (T : ExCls X.K C) (F : ExFn X.prog X.K X.mg C fI qual st) (S : ExText0 qual st) (hr : Room 1 X.A) (hg : Gl X x) (hm : X.mg x = some (.ref C))
    (hdb : (x == ("__debug__" : Str)) = false := by decide) :
    PMk X (.Call (.Name x p) [] [] pos) (fun σ H Q => Q (.ref C) none H) := by
  intro pins s σ H Q I q
  refine wpAny_Call_Name_kw (ld_glob I hg hm ?_ hdb)
  refine PySem.W.callWith_K0 I.kIn T.kp ?_
  show wpAny _ _ (call (.ref C) []) _ _ _
  obtain ⟨nm, N, qn, bs, bm, hdct, sn, sub, ab, col, dd, k0, k1, k2, k3, k5, hC, hT⟩ := T.obj I.kIn
  obtain ⟨mb, b1, b2⟩ := I.mod.blt
  have lim := I.mod.nolimit.keeps I.bk
  obtain ⟨hp, g, dr, tk, os⟩ := s
  have kk : ∀ b o, hp.get? b = some o → ((hp.push (PySem.W.kdv_tup [])).push (HandSPX.excO C hp.objs.size)).get? b = some o := fun b o z => Heap.get?_push_of_some _ (Heap.get?_push_of_some _ z)
  have hx2 : ((hp.push (PySem.W.kdv_tup [])).push (HandSPX.excO C hp.objs.size)).get? (hp.objs.size + 1) = some (HandSPX.excO C hp.objs.size) := by heap_get
  refine wpAny_call (HandSPX.call_own PySem.F.excBase_Exception hT hC (PySem.W.looks_findIn I.kIn F.ini) (fun self => PySem.W.bind_fn I.kIn self F.tyI) (Nat.zero_le _) ?_)
  refine ini_code0 T F S I.kIn kk hx2 ((I.mod.glob.keeps I.bk).keeps kk) ((b1.keeps I.bk).keeps kk) ((b2 _ (by decide)).trans boot_super) (lim.keeps kk) (hr.make C [] []).depth fun h2 tk' t1 kz ex => ?_
  refine ⟨rfl, ?_⟩
  show MkP X pins σ Q _ _
  exact mk_bare (d2 := dr) (t2 := tk') T I (Nat.le_succ _) (fun b o z => kz b o (fun w => by rw [w, Heap.get?_none_of_le (Nat.le_succ _)] at z; cases z) (kk b o z)) ex I.bare q
end
end DL
namespace DL
open PySem PySem.Spec PyProof.Rows L2

/-- the wish of what flies here, as the layer's own takes it -/
abbrev wxOf (Wi : Wish) : WX := fun c d σ H => Wi σ c d H
theorem passT {X : Cx} {Wi : Wish} (tk : Takes X (wxOf Wi)) : PassW (L2.CX X.prog X.w) X Wi := fun σ pins H s e s' I c => tk e s' (XE.of_call I (fun cls d H' h => h) c)
section
variable {P : Program} {w : World} {K : PySem.W.Frag} {mg : Str → Option Value} {base : Heap} {k : Nat} {f : Addr} {fd : FuncData} {ps N : List Str} {x qual : Str} {st : Stmt} {fb : SF} {sp : Sp}
/-- a def that lets nothing out, where others may -/
theorem FnG.any {CX : CXT} (F : FnG P w K mg base CX0 k f fd ps sp) : FnG P w K mg base CX k f fd ps sp :=
  ⟨F.len, fun A outer s H args us vs Q E hg hr he hb hv hs => codeAny_mono (F.go A outer s H args us vs Q E hg hr he hb hv hs) fun r s' q => by
    cases r with
    | error e => exact False.elim q
    | ok fl =>
      cases fl with
      | ret u => exact q
      | next => exact q
      | brk => exact q
      | cont => exact q⟩
/-- a def that may let an exception out -/
theorem fn_PX (F : Fun K x qual st f fd) (S : FnScope N ps (defScope st)) (n : Nat) (hn : ps.length + n = N.length)
    (hb : ∀ (cdv : Value) (A : Around) (outer : List PySem.Env) (s : Shared) (H : Hp) (E : XK), A.guards = some [] → Room k (A.deeper (envOfC qual (defScope st) s.heap.objs.size f cdv)) →
      Takes (cxOf (L2.CX P w) P w K mg base N qual (defScope st) f cdv A outer s H E) (wxOf (WiX E)) →
      DSs (cxOf (L2.CX P w) P w K mg base N qual (defScope st) f cdv A outer s H E) (WiX E) (defBody st) fb) : FnG P w K mg base (L2.CX P w) (k + 1) f fd ps (spP K ps.length fun ds => runP fb n ds) := by
  refine FnG.body F S (spP_len rfl) fun cdv A outer s H vs Q E hg hr hsp => ?_
  obtain ⟨G, ds, sm, dd, hl, q⟩ := hsp
  refine ⟨_, hb cdv A outer s H E hg hr (takes_of rfl rfl rfl rfl), ⟨H, G, [], []⟩, G, _, _, StE.start sm dd (n := n) (by omega), ?_⟩
  have al : ∀ {σ' : L2.St} {G' H' : Hp} {as' : Nat → List Addr} {E' : Env}, Same G G' → StE K ⟨H, G, [], []⟩ G' H' σ' E' as' → Al G H G' H' := fun {σ' G' H' as' E'} s1 st1 =>
    ⟨s1, fun b o h => st1.keep b o h (fun z => by cases z), st1.s1, fun b o h e hb => (by
      cases ht : isT o with
      | true => rfl
      | false => exact absurd e (st1.priv b o h hb ht (fun z => by cases z)))⟩
  have q : (match outF (fb (ds.map .dat ++ nos n)) with
    | .ok d => Rz K G H Q d
    | .err x _ => ∀ c dx G' H', Al G H G' H' → ExOk K G' x c dx → E c dx H'
    | .stuck => False) := q
  show PoS K (WiX E) ⟨H, G, [], []⟩ G _ (fb (ds.map .dat ++ nos n))
  generalize fb (ds.map .dat ++ nos n) = r at q ⊢
  match r, q with
  | .ok (.rt d, E'), q => exact fun v σ' G' H' as' s1 st1 dd1 => q v G' H' (al s1 st1) dd1
  | .ok (.nx, E'), q => exact fun σ' G' H' as' s1 st1 => q .non G' H' (al s1 st1) .non
  | .ok (.bk, E'), q => exact q.elim
  | .ok (.ct, E'), q => exact q.elim
  | .err x E', q => exact fun c dx σ' G' H' as' s1 st1 xo => q c dx G' H' (al s1 st1) xo
end
end DL
namespace DL
open PySem PySem.Spec PyProof.Rows L2

def sRaise1 (C : Addr) (f : Str) (fs : AF) : SF := fun E => (fs E).bind fun p => (ofO (dats p.1)).bind fun ds => match ds with
  | [d] => .err ⟨C, [(f, d)]⟩ p.2
  | _ => .stuck
def sRaise0 (C : Addr) : SF := fun E => .err ⟨C, []⟩ E
theorem PoA.bindS {K : PySem.W.Frag} {Wi : Wish} {F : Fr} {G : Hp} {σ : L2.St} {Dn : Ends} {r : Res (List W × Env)} {g : List W × Env → Res (Fl × Env)} (h : PoS K Wi F G Dn (r.bind g)) :
    PoA K Wi F G σ (MidA K F G σ fun _ ws G1 _ E1 _ => PoS K Wi F G1 Dn (g (ws, E1))) r := by
  match r, h with
  | .ok (w, E'), h => exact fun v G' H' as' s st wo => ⟨w, G', E', as', s, st, wo, PoS.up s h⟩
  | .err x E', h => exact fun c dx G' H' as' s st xo => h c dx σ G' H' as' s st xo
section
variable {X : Cx} {Wi : Wish} {C fI : Addr} {qual : Str} {st : Stmt} {f par x : Str} {e : Expr} {fs : AF} {p pos pos' : Pos}
theorem ds_raise1 (hc : X.calm = true) (tk : Takes X (wxOf Wi)) (T : ExCls X.K C) (F : ExFn X.prog X.K X.mg C fI qual st) (S : ExText1 qual st f par) (hf : PySem.W.findIn X.K (.ref C) f = some none) (hr : Room 1 X.A) (hg : Gl X x) (hm : X.mg x = some (.ref C)) (ha : DA X Wi [e] fs)
    (hdb : (x == ("__debug__" : Str)) = false := by decide) (hst : starEach [e] X.env = (false, eval e X.env) :: starEach [] X.env := by rfl) (hpl : (backTo pos (starEach [] X.env)).any (·.1) = false := by rfl) :
    DS X Wi (.Raise (some (.Call (.Name x p) [e] [] pos)) none pos') (sRaise1 C f fs) := PS.imp (ps_raise hc tk (pmk_ex1 T F S hf hr hg hm ha hdb hst hpl)) fun Dn σ H q => by
  obtain ⟨F0, G, E, as, st0, pq⟩ := q
  refine ⟨F0, G, E, as, st0, PoA.mono (fun vs H1 m => ?_) (PoA.bindS pq)⟩
  obtain ⟨ws, G1, E1, as1, s1, st1, wo, p1⟩ := m
  obtain ⟨ds, e1, p1⟩ := PoS.of p1
  have dd := dats_ok wo e1
  match ds, p1, dd with
  | [], p1, _ => exact p1.elim
  | _ :: _ :: _, p1, _ => exact p1.elim
  | [d], p1, dd =>
    cases dd with
    | cons h1 h2 =>
      cases h2
      rename_i v
      refine ⟨v, rfl, fun dx hdx => ?_⟩
      have al := Al.one (o := .xd [(f, v)]) st1.s1 hdx
      have p1 : ∀ c dx σ' G' H' as', Same G1 G' → StE X.K F0 G' H' σ' E1 as' → ExOk X.K G' ⟨C, [(f, d)]⟩ c dx → Wi σ' c dx H' := p1
      exact p1 (.ref C) (some dx) σ _ _ _ al.g (st1.al al) ⟨rfl, [(f, v)], upd_same, .cons (h1.up al.g) .nil⟩
theorem ds_raise0 (hc : X.calm = true) (tk : Takes X (wxOf Wi)) (T : ExCls X.K C) (F : ExFn X.prog X.K X.mg C fI qual st) (S : ExText0 qual st) (hr : Room 1 X.A) (hg : Gl X x) (hm : X.mg x = some (.ref C)) (hdb : (x == ("__debug__" : Str)) = false := by decide) :
    DS X Wi (.Raise (some (.Call (.Name x p) [] [] pos)) none pos') (sRaise0 C) := PS.imp (ps_raise hc tk (pmk_ex0 T F S hr hg hm hdb)) fun Dn σ H q => by
  obtain ⟨F0, G, E, as, st0, pq⟩ := q
  have p1 : ∀ c dx σ' G' H' as', Same G G' → StE X.K F0 G' H' σ' E as' → ExOk X.K G' ⟨C, []⟩ c dx → Wi σ' c dx H' := pq
  exact p1 (.ref C) none σ G H as (Same.refl _) st0 ⟨rfl, rfl⟩
end

abbrev HdT := Value × Option Nat × (Addr → Value → Option Addr → TS)
inductive HdsX (X : Cx) : List ExceptHandler → List HdT → Prop
  | nil : HdsX X [] []
  | bare {x : Str} {c : Value} {ts : Addr → Value → Option Addr → TS} {b : Stmt} {su : List Stmt} {np pos' : Pos} {hds : List ExceptHandler} {l : List HdT} (hc : Names X x c)
      (hsu : ∀ (a : Addr) (oe : Obj) (cls : Value) (d : Option Addr) (pn : List (Addr × Obj)), Zc cls d oe → (∃ vs, oe.data = .fields vs) → PSs (X.suite a ((a, oe) :: pn)) (b :: su) (ts a cls d)) (r : HdsX X hds l) :
      HdsX X (.ExceptHandler (some (.Name x np)) none (b :: su) pos' :: hds) ((c, none, ts) :: l)
  | as_ {x n : Str} {i : Nat} {c : Value} {ts : Addr → Value → Option Addr → TS} {b : Stmt} {su : List Stmt} {np pos' : Pos} {hds : List ExceptHandler} {l : List HdT} (hc : Names X x c) (hi : X.N[i]? = some n) (hl : X.env.kindOf n = some .local)
      (hsu : ∀ (a : Addr) (oe : Obj) (cls : Value) (d : Option Addr) (pn : List (Addr × Obj)), Zc cls d oe → (∃ vs, oe.data = .fields vs) → PSs (X.suite a ((a, oe) :: pn)) (b :: su) (ts a cls d)) (r : HdsX X hds l) :
      HdsX X (.ExceptHandler (some (.Name x np)) (some n) (b :: su) pos' :: hds) ((c, some i, ts) :: l)
section
variable {X : Cx} {body : List Stmt} {h0 : ExceptHandler} {hds : List ExceptHandler} {l : List HdT} {pos : Pos} {tb : WX → TS} {Wout : WX}
end
end DL
namespace DL
open PySem PySem.Spec PyProof.Rows L2

/-- a clause: the classes it takes, those it lets pass, its name's slot, what its suite does -/
structure Hd where
  yes : List Addr
  no : List Addr
  i : Option Nat
  su : ExV → SF
/-- what is known of the exception within its suite -/
def XH (K : PySem.W.Frag) (i : Option Nat) (a : Addr) (cls : Value) (d : Option Addr) (σ : L2.St) (G H : Hp) (x : ExV) : Prop := (∀ j, i = some j → σ[j]? = some (some (.ref a))) ∧ Same G H ∧ ExOk K G x cls d
theorem ExOk.up {K : PySem.W.Frag} {G G' : Hp} {x : ExV} {c : Value} {d : Option Addr} (s : Same G G') (h : ExOk K G x c d) : ExOk K G' x c d := by
  obtain ⟨h1, h2⟩ := h
  refine ⟨h1, ?_⟩
  cases d with
  | none => exact h2
  | some d => obtain ⟨fs, e, q⟩ := h2; exact ⟨fs, s _ _ e, q.up s⟩
theorem XH.up {K : PySem.W.Frag} {i : Option Nat} {a : Addr} {cls : Value} {d : Option Addr} {σ : L2.St} {G H G' H' : Hp} {x : ExV} (al : Al G H G' H') (h : XH K i a cls d σ G H x) : XH K i a cls d σ G' H' x := ⟨h.1, al.s, h.2.2.up al.g⟩
def tSu (K : PySem.W.Frag) (i : Option Nat) (su : ExV → SF) (a : Addr) (cls : Value) (d : Option Addr) : TS := fun Dn σ H => ∃ F G E as x, StE K F G H σ E as ∧ XH K i a cls d σ G H x ∧ PoS K W0 F G Dn (su x E)
/-- a suite: whatever the exception -/
def DSu (X : Cx) (i : Option Nat) (suite : List Stmt) (su : ExV → SF) : Prop := ∀ (a : Addr) (oe : Obj) (cls : Value) (d : Option Addr) (pn : List (Addr × Obj)), Zc cls d oe → (∃ vs, oe.data = .fields vs) → PSs (X.suite a ((a, oe) :: pn)) suite (tSu X.K i su a cls d)
inductive HdsD (X : Cx) : List ExceptHandler → List Value → List Hd → Prop
  | nil : HdsD X [] [] []
  | bare {x : Str} {c : Value} {yes no : List Addr} {su : ExV → SF} {b : Stmt} {ss : List Stmt} {np pos' : Pos} {hds : List ExceptHandler} {cs : List Value} {l : List Hd} (hc : Names X x c)
      (hy : ∀ C ∈ yes, PySem.W.exmOne X.K (.ref C) c = some true) (hn : ∀ C ∈ no, PySem.W.exmOne X.K (.ref C) c = some false) (hsu : DSu X none (b :: ss) su) (r : HdsD X hds cs l) :
      HdsD X (.ExceptHandler (some (.Name x np)) none (b :: ss) pos' :: hds) (c :: cs) (⟨yes, no, none, su⟩ :: l)
  | as_ {x n : Str} {i : Nat} {c : Value} {yes no : List Addr} {su : ExV → SF} {b : Stmt} {ss : List Stmt} {np pos' : Pos} {hds : List ExceptHandler} {cs : List Value} {l : List Hd} (hc : Names X x c) (hi : X.N[i]? = some n) (hl : X.env.kindOf n = some .local)
      (hy : ∀ C ∈ yes, PySem.W.exmOne X.K (.ref C) c = some true) (hn : ∀ C ∈ no, PySem.W.exmOne X.K (.ref C) c = some false) (hsu : DSu X (some i) (b :: ss) su) (r : HdsD X hds cs l) :
      HdsD X (.ExceptHandler (some (.Name x np)) (some n) (b :: ss) pos' :: hds) (c :: cs) (⟨yes, no, some i, su⟩ :: l)
section
variable {K : PySem.W.Frag} {Wi : Wish} {F : Fr} {G G' H' : Hp} {Dn : Ends} {σ' : L2.St} {E' : Env} {as' : Nat → List Addr} {x : ExV} {c : Value} {dx : Option Addr}
end
theorem all_nil {p : Addr → Prop} : ∀ C ∈ ([] : List Addr), p C := fun _ h => by cases h
theorem all_cons {p : Addr → Prop} {a : Addr} {l : List Addr} (h : p a) (r : ∀ C ∈ l, p C) : ∀ C ∈ a :: l, p C := fun C hC => by
  rcases List.mem_cons.mp hC with e | hC
  · rw [e]; exact h
  · exact r C hC
/-- a class of the program in a clause -/
theorem exm_own {K : PySem.W.Frag} {C : Addr} {v : Value} {b : Bool} (T : ExCls K C) (h : PySem.W.subIn K v (.ref C) = some b) : PySem.W.exmOne K v (.ref C) = some b := PySem.W.exm_ref T.ex T.hd T.ty h
section
variable {X : Cx} {i : Option Nat} {e c b : Expr} {es : List Expr} {g gc gb : ExV → Option D} {gs : ExV → Option (List D)} {pos p : Pos}
/-- what isinstance asks of an exception's class -/
structure ExIs (K : PySem.W.Frag) (C : Addr) : Prop where
  ca : PySem.W.findIn K (.ref C) "__class__" = some (some (.builtin "object.__class__"))
  cn : PySem.W.specialIn K (.builtin "object.__class__") "__get__" = some (some (.builtin "getset_descriptor.__get__"))
  ct : PySem.W.takesIn K (.builtin "object.__class__") = some true
  mo : PySem.W.mroIn K C (.type "object") = some true
end
end DL
namespace DL
open PySem PySem.Spec PyProof.Rows L2 TL

section
variable {M : Model} {A : Around} {E : Value → Shared → Prop} {s : Shared} {Q : Value → Shared → Prop}
end

section
variable {X : Cx} {Wi : Wish}
end

section
variable {X : Cx} {Wi : Wish} {e e1 o : Expr} {es : List Expr} {te : TE} {ta : TA} {f fo : EF} {fs : AF} {y z : Str} {j k : Nat} {c0 c1 apos pos : Pos}
end

def mulC (c : Nat) (n : Nat) : Str := ⟨(List.replicate n c).toArray⟩
theorem mul_sign (c : Nat) (n : Int) (h : 2 ≤ n) : Txt.mul ⟨#[c]⟩ n = mulC c n.toNat := by
  unfold Txt.mul mulC
  rw [if_neg (by omega), if_neg (by
    have e : (n == 1) = false := by rw [beq_eq_false_iff_ne]; omega
    rw [e]
    exact fun z => nomatch z)]
  have key : ∀ (k : Nat) (acc : Array Nat), ((List.replicate k (#[c] : Array Nat)).foldl (· ++ ·) acc) = acc ++ (List.replicate k c).toArray := by
    intro k
    induction k with
    | zero => intro acc; simp
    | succ k ih =>
      intro acc
      rw [List.replicate_succ, List.foldl_cons, ih, List.replicate_succ]
      refine Array.toList_inj.mp ?_
      rw [Array.toList_append, Array.toList_append, Array.toList_append, List.append_assoc]
      rfl
  rw [show (({ cps := #[c] } : Str)).cps = #[c] from rfl, key]
  simp
def rMulS (x y : V) (H : Hp) (Q : VK) : Prop := ∃ (c : Nat) (n : Int), x = .str ⟨#[c]⟩ ∧ y = .int n ∧ 2 ≤ n ∧ n ≤ 100000 ∧ Q (.str (mulC c n.toNat)) H
theorem op_mulS {X : Cx} : OpR X (binaryOp .Mult) rMulS := by
  intro pins s σ H x y v u Q I rx ry h
  obtain ⟨c, n, rfl, rfl, h1, h2, q⟩ := h
  obtain ⟨t, rfl⟩ := rx
  obtain ⟨t', rfl⟩ := ry
  refine PySem.SB.mul ⟨?_, fun _ _ => ?_, fun _ _ => ?_⟩ fun t' k => ?_
  · rw [decide_eq_false (by omega), decide_eq_false (by omega)]; rfl
  · show ¬ ((1 : Int) > (2 ^ 63 - 1) / n)
    have : (1 : Int) ≤ (2 ^ 63 - 1) / n := by
      rw [Int.le_ediv_iff_mul_le (by omega)]
      omega
    omega
  · show decide (1 * n.toNat > sizeLine) = false
    rw [sizeLine_eq, decide_eq_false (by omega)]
  · rw [mul_sign c n h1]
    exact ⟨.str (mulC c n.toNat), H, I.tok k, ⟨t', rfl⟩, q⟩
def gMulS : D → D → Option D
  | .str ⟨⟨[c]⟩⟩, .int n => if 2 ≤ n ∧ n ≤ 100000 ∧ c < 0x110000 then some (.str (mulC c n.toNat)) else none
  | _, _ => none
theorem opd_mulS {K : PySem.W.Frag} : OpD K rMulS gMulS := by
  intro G H x y a b d Q s ha hb e z
  unfold gMulS at e
  split at e
  · rename_i c n
    obtain ⟨h0, rfl⟩ := ifs_some e
    obtain ⟨rfl, _⟩ := ha.str
    have := hb.int
    subst this
    refine ⟨c, n, rfl, rfl, h0.1, h0.2.1, z _ _ _ (Al.refl s) (.str _ ⟨?_, strOk_iff.mpr fun k hk => ?_⟩)⟩
    · show (List.replicate n.toNat c).length ≤ sizeLine
      rw [List.length_replicate, sizeLine_eq]; omega
    · rw [List.eq_of_mem_replicate (show k ∈ List.replicate n.toNat c from hk)]; exact h0.2.2
  · cases e
end DL
namespace DL
open PySem PySem.Spec PyProof.Rows L2 TL
section
variable {X : Cx} {CX : CXT} {k n : Nat} {f C : Addr} {fd : FuncData} {ps ks : List Str} {Wi : Wish} {x m : Str} {p pos apos kpos : Pos} {e o : Expr} {es : List Expr} {kws : List Keyword} {fs fk : AF} {fo : EF} {fm : List D → Res (List (Str × D))} {gm : List D → Res D} {sp : Sp}
end

section
variable {P : Program} {w : World} {K : PySem.W.Frag} {mg : Str → Option Value} {base : Heap} {k : Nat} {f : Addr} {fd : FuncData} {ps N : List Str} {x qual : Str} {st : Stmt} {fb : SF}
end
section
variable {X : Cx} {CX : CXT} {k n i : Nat} {f g C q0 : Addr} {mc : Value} {fd : FuncData} {ps ks : List Str} {Wi : Wish} {x m : Str} {p pos apos kpos : Pos} {e o : Expr} {es : List Expr} {kws : List Keyword} {fs fk : AF} {fo : EF} {fm : List D → Res (List (Str × D))} {gm : List D → Res D} {sp : Sp}
end
end DL
namespace DL
open PySem PySem.Spec PyProof.Rows L2 TL
section
variable {X : Cx} {CX : CXT} {Wi : Wish} {a b : Expr} {fa fb : EF} {pos : Pos} {n : Nat} {C f : Addr} {fd : FuncData} {ps : List Str} {ts : List String} {gm : List D → Res D}
end
end DL
namespace DL
open PySem PySem.Spec PyProof.Rows L2 TL
section
variable {X : Cx} {Wi : Wish} {e : Expr} {fe : EF} {pos : Pos}
inductive DJ (X : Cx) (Wi : Wish) : List Expr → List EF → Prop where
  | nil : DJ X Wi [] []
  | cons {e : Expr} {f : EF} {es : List Expr} {fs : List EF} (h : DE X Wi e f) (r : DJ X Wi es fs) : DJ X Wi (e :: es) (f :: fs)
end
section
variable {X : Cx} {CX : CXT} {Wi : Wish} {a b : Expr} {fa fb : EF} {pos : Pos} {n : Nat} {C f : Addr} {fd : FuncData} {ps : List Str} {ts : List String} {oc : List Addr} {gm : List D → Res D}
end
end DL
namespace DL
open PySem PySem.Spec PyProof.Rows L2

section
open PySem.HandSPX PySem.W
variable {M : Model} {A : Around} {E : Value → Shared → Prop} {h : Heap} {g : Array GenState} {d : PySem.Drawn} {t : Nat} {os : OsState}
variable {nm q : Str} {C N : Addr} {bs bm bmB : List Value} {hdct : Bool} {sn : List Str} {sub : List Value} {ab : Bool} {col : Option Bool} {dd : Option Addr} {k0 k1 k2 k3 k5 : Option Value} {B newId initId : String} {kw : List (Str × Value)}
theorem xk_check (F : ExcBaseFacts B newId initId bmB) (hZ : ∀ Y : String, bm.contains (.type Y) = bmB.contains (.type Y)) {Q : Unit → Shared → Prop}
    (hO : h.get? C = some (excClassObj nm q C N bs bm hdct sn sub ab col dd k0 k1 k2 k3 k5 newId)) (hq : Q () ⟨h, g, d, t, os⟩) : wpAny M A (checkBuiltinCall newId ⟨[.ref C], kw⟩) Q E ⟨h, g, d, t, os⟩ := by
  have h1 : (Value.ref C :: bm).contains (.type B) = true := by rw [List.contains_cons, hZ, F.hasB, Bool.or_true]
  have h2 := F.noStar
  simp only [checkBuiltinCall, F.newKind, F.newSplit, F.newRow]
  repeat (first | refine wpAny_loadPart_at hO ?_ | (refine wpAny_isSubtype_exc hO ?_; rw [h1]) | refine wpAny_staticBase_exc hO ?_ | refine wpAny_madeBy_exc hO ?_ | simp only [bne_self_eq_false, Bool.false_eq_true, if_false] | wp_step)
  exact hq
end
section
open PySem.HandSPX PySem.W
variable {prog : Program} {w : World} {A : Around} {E : Value → Shared → Prop} {R : Result → Shared → Prop} {h : Heap} {g : Array GenState} {d : PySem.Drawn} {t : Nat} {os : OsState}
variable {nm q : Str} {C N : Addr} {bs bm bmB : List Value} {hdct : Bool} {sn : List Str} {sub : List Value} {ab : Bool} {col : Option Bool} {dd : Option Addr} {k0 k1 k2 k3 k5 : Option Value} {B newId initId : String} {kw : List (Str × Value)}
theorem xk_new (F : ExcBaseFacts B newId initId bmB) (hZ : ∀ Y : String, bm.contains (.type Y) = bmB.contains (.type Y))
    (hO : h.get? C = some (excClassObj nm q C N bs bm hdct sn sub ab col dd k0 k1 k2 k3 k5 newId))
    (hq : R (.ok (.ret (.ref (h.objs.size + 1)))) ⟨(h.push (PySem.W.kdv_tup [])).push (excO C h.objs.size), g, d, t, os⟩) :
    codeAny (model prog w) A (.builtin newId ⟨[.ref C], kw⟩) R ⟨h, g, d, t, os⟩ := by
  have he := F.ends
  have h1 : (Value.ref C :: bm).contains (.type B) = true := by rw [List.contains_cons, hZ, F.hasB, Bool.or_true]
  have h2 : (Value.ref C :: bm).contains (.type "AttributeError") = false := by rw [List.contains_cons, hZ, F.noAttr]; rfl
  have h3 : (Value.ref C :: bm).contains (.type "NameError") = false := by rw [List.contains_cons, hZ, F.noName]; rfl
  have hl : ([] : List Value).length ≤ sizeLine := Nat.zero_le _
  refine codeAny_builtinAt F.entry ?_
  unfold Builtin.«BaseException.__new__»
  refine PySem.wpAt_bind ?_
  show PySem.wpAt _ _ _ (stack >>= _) _ _ _
  refine PySem.wpAt_bind (PySem.wpAt_stack fun p below => PySem.wpAt_of_wpAny ?_)
  wp_walk
  refine PySem.wpAt_of_wpAny ?_
  rw [F.owner]
  repeat (first | with_reducible refine wpAny_madeHere_exc F.canon hO ?_ | with_reducible refine wpAny_loadPart_at hO ?_ | (with_reducible refine wpAny_isSubtype_exc hO ?_; first | rw [h1] | rw [h2] | rw [h3]) | wp_step)
  show R _ _
  rw [Heap.size_push]
  exact hq
theorem xk_tcheck {Q : Unit → Shared → Prop} (hO : h.get? C = some (excClassObj nm q C N bs bm hdct sn sub ab col dd k0 k1 k2 k3 k5 newId))
    (hq : Q () ⟨h, g, d, t, os⟩) : wpAny (model prog w) A (checkBuiltinCall "type.__call__" ⟨[.ref C], kw⟩) Q E ⟨h, g, d, t, os⟩ := by
  have h3 := tc_sub
  have hY : (⟨h, g, d, t, os⟩ : Shared).TypeIs (.ref C) "type" := ⟨_, hO, rfl⟩
  simp only [checkBuiltinCall, tc_kind, tc_split]
  repeat (any_goals (first | assumption | with_reducible refine wpAny_loadPart_at hO ?_ | with_reducible refine wpAny_onRaise ?_ | with_reducible refine wpAny_map ?_ | wp_step))
theorem xk_type (F : ExcBaseFacts B newId initId bmB) (hZ : ∀ Y : String, bm.contains (.type Y) = bmB.contains (.type Y)) {fI : Addr} {Q : Fin → Shared → Prop}
    (hO : h.get? C = some (excClassObj nm q C N bs bm hdct sn sub ab col dd k0 k1 k2 k3 k5 newId))
    (hi : PySem.W.Looks (model prog w) h (typeLookup (.ref C) "__init__") (some (.ref fI))) (hb : ∀ self, PySem.W.Looks (model prog w) h (bindSpecial (.ref fI) self) (.ref fI, [self]))
    (hq : codeAny (model prog w) A (.call (.ref fI) ⟨[.ref (h.objs.size + 1)], kw⟩)
      (fun r s' => match r with | .ok (.ret v) => v = .none ∧ Q (.done (.ret (.ref (h.objs.size + 1)))) s' | .ok _ => False | .error e => E e s')
      ⟨(h.push (PySem.W.kdv_tup [])).push (excO C h.objs.size), g, d, t, os⟩) :
    wpAny (model prog w) A (Builtin.«type.__call__» ⟨[.ref C], kw⟩) Q E ⟨h, g, d, t, os⟩ := by
  repeat (first | with_reducible refine wpAny_loadPart_at hO ?_ | with_reducible refine wpAny_madeBy_exc hO ?_ | wp_step)
  refine codeAny_call_builtin_code (Code.quiet_builtin _ F.quiet) (xk_check F hZ hO ?_)
  refine xk_new F hZ hO ?_
  show wpAny _ _ _ _ _ _
  have kk : ∀ b o, h.get? b = some o → ((h.push (PySem.W.kdv_tup [])).push (excO C h.objs.size)).get? b = some o := fun b o e => Heap.get?_push_of_some _ (Heap.get?_push_of_some _ e)
  have hO1 := kk _ _ hO
  have hat : ((h.push (PySem.W.kdv_tup [])).push (excO C h.objs.size)).get? (h.objs.size + 1) = some (excO C h.objs.size) := by heap_get
  have hcc : (Value.ref C :: bm).contains (.ref C) = true := by simp
  have i1 := hi.keeps kk
  have b1 := (hb (.ref (h.objs.size + 1))).keeps kk
  unfold isInstance
  repeat (first | with_reducible refine wpAny_loadPart_at hat ?_ | (with_reducible refine wpAny_isSubtype_exc hO1 ?_; rw [hcc]) | wp_step)
  show wpAny _ _ (typeLookup (.ref C) _) _ _ _
  refine i1.at ?_
  refine wpAny_holding (wpAny_bind (b1.at ?_))
  refine wpAny_bind (wpAny_call (codeAny_mono hq fun r s' z => ?_))
  rcases r with e | (v | _ | _ | _) <;> first | exact z | exact z.elim | skip
  obtain ⟨rfl, z⟩ := z
  first
    | exact wpAny_pure (wpAny_pure z)
    | (wp_walk; exact z)
theorem xk_call (F : ExcBaseFacts B newId initId bmB) (hZ : ∀ Y : String, bm.contains (.type Y) = bmB.contains (.type Y)) {fI : Addr}
    (hO : h.get? C = some (excClassObj nm q C N bs bm hdct sn sub ab col dd k0 k1 k2 k3 k5 newId))
    (hi : PySem.W.Looks (model prog w) h (typeLookup (.ref C) "__init__") (some (.ref fI))) (hb : ∀ self, PySem.W.Looks (model prog w) h (bindSpecial (.ref fI) self) (.ref fI, [self]))
    (hq : codeAny (model prog w) (A.under (.builtin "type.__call__" ⟨[.ref C], kw⟩)) (.call (.ref fI) ⟨[.ref (h.objs.size + 1)], kw⟩) (PySem.W.InitBack (h.objs.size + 1) R)
      ⟨(h.push (PySem.W.kdv_tup [])).push (excO C h.objs.size), g, d, t, os⟩) :
    codeAny (model prog w) A (.call (.ref C) ⟨[], kw⟩) R ⟨h, g, d, t, os⟩ := by
  have f1 := tc_lookup
  have f2 := tc_bind (.ref C)
  have hY : (⟨h, g, d, t, os⟩ : Shared).TypeIs (.ref C) "type" := ⟨_, hO, rfl⟩
  refine codeAny_of_tree ?_
  show wpAny _ _ (callAny (.ref C) _) _ _ _
  repeat (any_goals (first | assumption | with_reducible refine wpAny_loadPart_at hO ?_ | wp_step))
  refine ⟨rfl, ?_⟩
  refine codeAny_call_builtin_at (Code.quiet_builtin _ (by decide +kernel)) entry_typeCall (xk_tcheck hO (xk_type F hZ hO hi hb ?_))
  refine codeAny_mono hq fun r s' z => ?_
  rcases r with e | (v | _ | _ | _) <;> exact z
end
end DL
namespace DL
open PySem PySem.Spec PyProof.Rows L2

theorem exnO_ok {P : Program} {w : World} {H : Hp} {h : Heap} {a C : Addr} {d : Option Addr} {oe : Obj} {vs : Array Value} (e : h.get? a = some oe) (h1 : oe.cls = .ref C) (h2 : oe.dict = d) (h3 : oe.data = .fields vs) : ObjOk P w H h a (exnO C d a) :=
  ⟨⟨oe, vs, e, h1, h2, h3⟩, ⟨oe, e⟩, fun _ _ ⟨o, v, q, r⟩ k => ⟨o, v, k o q, r⟩⟩
theorem exnO_at {P : Program} {w : World} {H : Hp} {h : Heap} {a C : Addr} {d : Option Addr} (x : HOk P w H h) (e : H a = some (exnO C d a)) : ∃ oe vs, h.get? a = some oe ∧ oe.cls = .ref C ∧ oe.dict = d ∧ oe.data = .fields vs := by
  have y : ObjOk P w H h a (.ext fun h => ∃ oe vs, h.get? a = some oe ∧ oe.cls = .ref C ∧ oe.dict = d ∧ oe.data = .fields vs) := x a _ e
  exact y.1
/-- __init__ called with a named argument -/
structure ExKw (qual : Str) (st : Stmt) (par : Str) : Prop where
  bd : ∀ (cc : Addr) (kV dc pm cd ct : Value) (an : Option Addr) (x u : Value), bindArgs (PySem.W.fnX "__init__" qual (defArgs st) (defBody st) (defScope st) [("__class__", cc)] .none kV dc pm an cd ct) ⟨[x], [(par, u)]⟩ = pure [(("self" : Str), x), (par, u)]
section
variable {prog : Program} {w : World} {A : Around} {K : PySem.W.Frag} {h : Heap} {g : Array GenState} {dr : PySem.Drawn} {t : Nat} {os : OsState} {C x : Addr}
theorem ini_code1k {mg mb : Str → Option Value} {fI t0 : Addr} {qual : Str} {st : Stmt} {f par : Str} {v : Value} {R : Result → Shared → Prop} {hp : Heap} (T : ExCls K C) (F : ExFn prog K mg C fI qual st) (S : ExText1 qual st f par) (Sk : ExKw qual st par) (XP : K.In hp) (xp : hp.get? x = none) (kp : ∀ b o, hp.get? b = some o → h.get? b = some o)
    (hx : h.get? x = some (HandSPX.excO C t0))
    (hf : PySem.W.findIn K (.ref C) f = some none) (hg : h.Ns mainGlobals mg) (hb : h.Ns builtinsNs mb) (bs : mb "super" = some (.type "super")) (lim : h.NoLimit) (room : A.depth < recursionLimit)
    (hq : ∀ h' tk' dx t1, (∀ b o, b ≠ x → h.get? b = some o → h'.get? b = some o) → h.objs.size ≤ dx → dx ≠ x → h'.get? x = some { cls := .ref C, dict := some dx, data := .fields #[.ref t1, .none, .none, .none, .bool false, .none] } →
      h'.Ns1 dx (fun y => if y = f then some v else none) → R (.ok (.ret .none)) ⟨h', g, dr, tk', os⟩) : codeAny (model prog w) A (.call (.ref fI) ⟨[.ref x], [(par, v)]⟩) R ⟨h, g, dr, t, os⟩ := by
  obtain ⟨oc, kV, dc, pm, cd, ct, clc, cll, od, an, cld, cdd, osl, csl, ccs, cda, cc, vs, file, tf, lk, rfl, hcod, lcd, hvs, hfile, lcc⟩ := F.fn
  obtain ⟨msg, k, p0, p1, p2, p3, p4, p5, p6, p7, p8, p9, hbody, sup, sw2⟩ := S.body
  obtain ⟨ar, har, haS⟩ := S.ha
  obtain ⟨pl, hev⟩ := sup.ev
  have X : K.In h := XP.keeps kp
  have nK : ∀ b o, K.lookup b = some o → b ≠ x := fun b o e z => by
    have := XP _ _ e
    rw [z, xp] at this; cases this
  have lpar : ∀ y ∈ [(("self" : Str), Value.ref x), (par, v)], (defScope st).names.lookup y.1 = some .local := fun y hy => by
    rcases List.mem_cons.mp hy with e | hy
    · rw [e]; exact S.sc.ka
    · rw [List.mem_singleton.mp hy]; exact S.lp
  refine ks_codeAny_call_defAt (binds := [(("self" : Str), .ref x), (par, v)]) room (X _ _ lk) rfl lim (PySem.W.codeRec_of X hcod) rfl (.of_eq (Sk.bd _ _ _ _ _ _ _ _ _)) S.sc.nc lpar (fun h0 hns k0 => ?_) S.sc.co S.sc.gn S.sc.kk
  have X0 := X.keeps k0
  have hself : ([(("self" : Str), Value.ref x), (par, v)] : List (Str × Value)).reverse.lookup ("self" : Str) = some (.ref x) := by
    show List.lookup ("self" : Str) [(par, v), (("self" : Str), Value.ref x)] = _
    rw [List.lookup_cons]
    have e : (("self" : Str) == par) = false := by simpa using Ne.symm S.np
    rw [e]; simp
  have hpar : ([(("self" : Str), Value.ref x), (par, v)] : List (Str × Value)).reverse.lookup par = some v := by
    show List.lookup par [(par, v), (("self" : Str), Value.ref x)] = _
    rw [List.lookup_cons]; simp
  rw [hbody]
  refine ks_wpAt_execs_cons ?_
  refine sup_init (fd := PySem.W.fnX "__init__" qual (defArgs st) (defBody st) (defScope st) [("__class__", cc)] .none kV dc pm an (.ref cda) ct) (ar := ar) T X0 hns (by rw [haS]; exact hself) (k0 _ _ hx) (hg.keeps k0) F.gs (hb.keeps k0) bs (X0 _ _ lk) rfl har (X0 _ _ lcd) rfl hvs hfile (X0 _ _ lcc) rfl F.top S.sc.ks S.sc.kc (by rw [haS]; exact S.sc.ka) S.sc.kk (sup.sw _ _ _ _) (sup.it _ _ _ _) (hev _ _ _ _) fun h1 t1 tk1 k1 e1 => ?_
  have hlx : h.objs.size ≠ x := Nat.ne_of_gt (Heap.lt_size hx)
  have hn1 : h1.Ns h.objs.size (fun y => List.lookup y [(("self" : Str), Value.ref x), (par, v)].reverse) := by
    obtain ⟨o, es, ep, ho, hr⟩ := hns
    exact ⟨o, es, ep, k1 _ _ hlx ho, hr⟩
  have X1 : K.In h1 := fun b o e => k1 b o (nK b o e) (X0 b o e)
  have lo1 : h.objs.size < h1.objs.size := by
    obtain ⟨o, es, ep, ho, hr⟩ := hn1
    exact Heap.lt_size ho
  refine ks_wpAt_execs_cons ?_
  refine ks_wpAt_Assign_Attr ?_ (sw2 _ _ _ _)
  refine wpAt_of_wpAny (wpAny_Name (wpAny_loadName_local S.sc.kk S.lp hn1 hpar ?_) S.nd)
  refine wpAny_Name (wpAny_loadName_local S.sc.kk S.sc.ka hn1 hself ?_) (by decide)
  refine set_exc1 T X1 e1 hf fun h2 tk2 dx k2 l2 n2 e2 hd2 => ?_
  refine wpAt_of_wpAny (wpAny_execs_nil ?_)
  exact hq h2 tk2 dx t1 (fun b o hb ho => k2 b o hb (k1 b o hb (k0 b o ho))) (Nat.le_trans (Nat.le_of_lt lo1) l2) n2 e2 hd2
end
section
variable {X : Cx} {pins : List (Addr × Obj)} {σ : L2.St} {H : Hp} {C fI : Addr} {qual : Str} {st : Stmt} {f par x : Str} {e : Expr} {p pos kp : Pos}
/-- a new exception with its dict -/
theorem mkx_one {hp h2 : Heap} {g : Array GenState} {d : PySem.Drawn} {t t2 : Nat} {os : OsState} {a dx t1 : Addr} {v : V} {u : Value} (I : Inv X pins σ H ⟨hp, g, d, t, os⟩) (ha : hp.objs.size ≤ a) (hd : hp.objs.size ≤ dx) (na : dx ≠ a)
    (k : ∀ b o, hp.get? b = some o → h2.get? b = some o) (ex : h2.get? a = some { cls := .ref C, dict := some dx, data := .fields #[.ref t1, .none, .none, .none, .bool false, .none] })
    (ens : h2.Ns1 dx (fun y => if y = f then some u else none)) (rv : RelV v u) : Inv X pins σ (upd (upd H dx (.xd [(f, v)])) a (exnO C (some dx) a)) ⟨h2, g, d, t2, os⟩ := by
  have na0 : H a = none := I.hok.fresh ha
  have nd0 : H dx = none := I.hok.fresh hd
  have nA : ∀ {b : Addr} {o : Obj}, hp.get? b = some o → b ≠ a := fun {b o} z => Nat.ne_of_lt (Nat.lt_of_lt_of_le (Heap.lt_size z) ha)
  have nD : ∀ {b : Addr} {o : Obj}, hp.get? b = some o → b ≠ dx := fun {b o} z => Nat.ne_of_lt (Nat.lt_of_lt_of_le (Heap.lt_size z) hd)
  have oth : ∀ {b : Addr} {o : HO}, H b = some o → upd (upd H dx (.xd [(f, v)])) a (exnO C (some dx) a) b = some o := fun {b o} z => by
    rw [upd_ne (ne_of_none z na0), upd_ne (ne_of_none z nd0)]; exact z
  have un : Un X.fs [] H (upd (upd H dx (.xd [(f, v)])) a (exnO C (some dx) a)) hp h2 :=
    { keep := fun b o z _ _ _ => k b o z, slot := fun b o z _ _ _ => ⟨o.slots, k b o z⟩, free := fun b o z n _ => by rw [upd_ne (nA z), upd_ne (nD z)]; exact n,
      there := fun b o z _ => ⟨o, k b o z⟩, tups := fun b xs z => oth z, frzs := fun b o u z => oth z, tbls := fun b ps z => ⟨#[], by rw [oth z]; simp⟩ }
  have hok : HOk X.prog X.w (upd (upd H dx (.xd [(f, v)])) a (exnO C (some dx) a)) h2 := fun b o z => by
    by_cases h1 : b = a
    · rw [h1, upd_same] at z; cases z
      rw [h1]; exact exnO_ok ex rfl rfl rfl
    · rw [upd_ne h1] at z
      by_cases h2' : b = dx
      · rw [h2', upd_same] at z; cases z
        rw [h2']
        refine ⟨_, ens, fun y => ?_⟩
        show RelO (List.lookup y [(f, v)]) (if y = f then some u else none)
        rw [List.lookup_cons]
        by_cases hy : y = f
        · subst hy; simp; exact rv
        · rw [if_neg hy]
          have : (y == f) = false := by simpa using hy
          rw [this]; trivial
      · rw [upd_ne h2'] at z
        exact (I.hok b o z).stay (fun c w _ r => k c w r) (fun c hc => oth hc) fun c xs hc => oth hc
  exact I.un un hok
theorem mkx_bare {hp h2 : Heap} {g : Array GenState} {d : PySem.Drawn} {t t2 : Nat} {os : OsState} {a t1 : Addr} (I : Inv X pins σ H ⟨hp, g, d, t, os⟩) (ha : hp.objs.size ≤ a)
    (k : ∀ b o, hp.get? b = some o → h2.get? b = some o) (ex : h2.get? a = some (HandSPX.excO C t1)) : Inv X pins σ (upd H a (exnO C none a)) ⟨h2, g, d, t2, os⟩ :=
  I.laid (s := ⟨hp, g, d, t, os⟩) (t' := t2) k ha (exnO_ok ex rfl rfl rfl)
def tExn1 (C : Addr) (f : Str) (ta : TA) : TE := fun σ H Q => ta σ H fun vs H1 => ∃ v, vs = [v] ∧ ∀ a d, H1 a = none → H1 d = none → d ≠ a → Q (.ref a) (upd (upd H1 d (.xd [(f, v)])) a (exnO C (some d) a))
theorem pe_exn1 {ta : TA} (T : ExCls X.K C) (F : ExFn X.prog X.K X.mg C fI qual st) (S : ExText1 qual st f par) (hf : PySem.W.findIn X.K (.ref C) f = some none) (hr : Room 1 X.A) (hg : Gl X x) (hm : X.mg x = some (.ref C)) (pa : PA X [e] ta)
    (hdb : (x == ("__debug__" : Str)) = false := by decide) (hst : starEach [e] X.env = (false, eval e X.env) :: starEach [] X.env := by rfl) (hpl : (backTo pos (starEach [] X.env)).any (·.1) = false := by rfl) :
    PE X (.Call (.Name x p) [e] [] pos) (tExn1 C f ta) := by
  refine ⟨fun pins s σ H Q I h => ?_⟩
  refine wpAny_Call_Name_kw (ld_glob I hg hm ?_ hdb)
  refine PySem.W.callWith_K (h₀ := X.base) I.ok.mod.kin T.kp (thn (pa.run pos pins s σ H _ I h) fun us s1 ⟨vs, H1, I1, r1, v, ev, q⟩ => ⟨I1.kIn, ?_⟩) hst hpl
  subst ev
  obtain ⟨u, rfl, rv⟩ := vals_one r1
  show wpAny _ _ (call (.ref C) [u]) _ _ _
  obtain ⟨nm, N, qn, bs, bm, hdct, sn, sub, ab, col, dd, k0, k1, k2, k3, k5, hC, hT⟩ := T.obj I1.kIn
  obtain ⟨mb, b1, b2⟩ := I1.mod.blt
  have lim := I1.mod.nolimit.keeps I1.bk
  obtain ⟨hp, g, dr, tk, os⟩ := s1
  have kk : ∀ b o, hp.get? b = some o → ((hp.push (PySem.W.kdv_tup [u])).push (HandSPX.excO C hp.objs.size)).get? b = some o := fun b o z => Heap.get?_push_of_some _ (Heap.get?_push_of_some _ z)
  have hx2 : ((hp.push (PySem.W.kdv_tup [u])).push (HandSPX.excO C hp.objs.size)).get? (hp.objs.size + 1) = some (HandSPX.excO C hp.objs.size) := by heap_get
  have fresh : hp.get? (hp.objs.size + 1) = none := Heap.get?_none_of_le (Nat.le_succ _)
  refine wpAny_call (HandSPX.call_own PySem.F.excBase_Exception hT hC (PySem.W.looks_findIn I1.kIn F.ini) (fun self => PySem.W.bind_fn I1.kIn self F.tyI) (by show 1 ≤ sizeLine; rw [sizeLine_eq]; decide) ?_)
  refine ini_code1 T F S I1.kIn fresh kk hx2 hf ((I1.mod.glob.keeps I1.bk).keeps kk) ((b1.keeps I1.bk).keeps kk) ((b2 _ (by decide)).trans boot_super) (lim.keeps kk) (hr.make C [u] []).depth fun h2 tk' dx t1 kz ld nd ex ens => ?_
  have lo : hp.objs.size ≤ dx := Nat.le_trans (by rw [Heap.size_push, Heap.size_push]; omega) ld
  exact ⟨rfl, .ref (hp.objs.size + 1), _, mkx_one (t2 := tk') I1 (Nat.le_succ _) lo nd (fun b o z => kz b o (fun w => by rw [w, fresh] at z; cases z) (kk b o z)) ex ens rv, rfl, q _ dx (I1.hok.fresh (Nat.le_succ _)) (I1.hok.fresh lo) nd⟩
theorem pe_exn1k {ta : TA} {kws : List Keyword} (T : ExCls X.K C) (F : ExFn X.prog X.K X.mg C fI qual st) (S : ExText1 qual st f par) (Sk : ExKw qual st par) (hf : PySem.W.findIn X.K (.ref C) f = some none) (hr : Room 1 X.A) (hg : Gl X x) (hm : X.mg x = some (.ref C)) (pa : PK X kws ta)
    (hall : (backToKw pos (keywordEach kws X.env)).all (·.1.isSome) = true := by rfl) (hks : (backToKw pos (keywordEach kws X.env)).filterMap (·.1) = [par] := by rfl) (hdb : (x == ("__debug__" : Str)) = false := by decide)
    (hpl : ((backTo pos (starEach [] X.env)).any (·.1) || (backToKw pos (keywordEach kws X.env)).any (·.1.isNone)) = false := by rfl) :
    PE X (.Call (.Name x p) [] kws pos) (tExn1 C f ta) := by
  refine ⟨fun pins s σ H Q I h => ?_⟩
  refine wpAny_Call_Name_kw (ld_glob I hg hm ?_ hdb)
  refine PySem.W.callWith_KW0 (h₀ := X.base) I.ok.mod.kin T.kp hall ?_ hpl
  refine thn (pa.run pos pins s σ H _ I h) fun us s1 ⟨vs, H1, I1, r1, v, ev, q⟩ => ⟨I1.kIn, ?_⟩
  rw [hks]
  subst ev
  obtain ⟨u, rfl, rv⟩ := vals_one r1
  show wpAny _ _ (call (.ref C) [] [(par, u)]) _ _ _
  obtain ⟨nm, N, qn, bs, bm, hdct, sn, sub, ab, col, dd, k0, k1, k2, k3, k5, hC, hT⟩ := T.obj I1.kIn
  obtain ⟨mb, b1, b2⟩ := I1.mod.blt
  have lim := I1.mod.nolimit.keeps I1.bk
  obtain ⟨hp, g, dr, tk, os⟩ := s1
  have kk : ∀ b o, hp.get? b = some o → ((hp.push (PySem.W.kdv_tup [])).push (HandSPX.excO C hp.objs.size)).get? b = some o := fun b o z => Heap.get?_push_of_some _ (Heap.get?_push_of_some _ z)
  have hx2 : ((hp.push (PySem.W.kdv_tup [])).push (HandSPX.excO C hp.objs.size)).get? (hp.objs.size + 1) = some (HandSPX.excO C hp.objs.size) := by heap_get
  have fresh : hp.get? (hp.objs.size + 1) = none := Heap.get?_none_of_le (Nat.le_succ _)
  refine wpAny_call (xk_call PySem.F.excBase_Exception hT hC (PySem.W.looks_findIn I1.kIn F.ini) (fun self => PySem.W.bind_fn I1.kIn self F.tyI) ?_)
  refine ini_code1k T F S Sk I1.kIn fresh kk hx2 hf ((I1.mod.glob.keeps I1.bk).keeps kk) ((b1.keeps I1.bk).keeps kk) ((b2 _ (by decide)).trans boot_super) (lim.keeps kk) (hr.make C [] [(par, u)]).depth fun h2 tk' dx t1 kz ld nd ex ens => ?_
  have lo : hp.objs.size ≤ dx := Nat.le_trans (by rw [Heap.size_push, Heap.size_push]; omega) ld
  exact ⟨rfl, .ref (hp.objs.size + 1), _, mkx_one (t2 := tk') I1 (Nat.le_succ _) lo nd (fun b o z => kz b o (fun w => by rw [w, fresh] at z; cases z) (kk b o z)) ex ens rv, rfl, q _ dx (I1.hok.fresh (Nat.le_succ _)) (I1.hok.fresh lo) nd⟩
def tExn0 (C : Addr) : TE := fun _ H Q => ∀ a, H a = none → Q (.ref a) (upd H a (exnO C none a))
theorem pe_exn0 (T : ExCls X.K C) (F : ExFn X.prog X.K X.mg C fI qual st) (S : ExText0 qual st) (hr : Room 1 X.A) (hg : Gl X x) (hm : X.mg x = some (.ref C))
    (hdb : (x == ("__debug__" : Str)) = false := by decide) :
    PE X (.Call (.Name x p) [] [] pos) (tExn0 C) := by
  refine ⟨fun pins s σ H Q I q => ?_⟩
  refine wpAny_Call_Name_kw (ld_glob I hg hm ?_ hdb)
  refine PySem.W.callWith_K0 I.kIn T.kp ?_
  show wpAny _ _ (call (.ref C) []) _ _ _
  obtain ⟨nm, N, qn, bs, bm, hdct, sn, sub, ab, col, dd, k0, k1, k2, k3, k5, hC, hT⟩ := T.obj I.kIn
  obtain ⟨mb, b1, b2⟩ := I.mod.blt
  have lim := I.mod.nolimit.keeps I.bk
  obtain ⟨hp, g, dr, tk, os⟩ := s
  have kk : ∀ b o, hp.get? b = some o → ((hp.push (PySem.W.kdv_tup [])).push (HandSPX.excO C hp.objs.size)).get? b = some o := fun b o z => Heap.get?_push_of_some _ (Heap.get?_push_of_some _ z)
  have hx2 : ((hp.push (PySem.W.kdv_tup [])).push (HandSPX.excO C hp.objs.size)).get? (hp.objs.size + 1) = some (HandSPX.excO C hp.objs.size) := by heap_get
  refine wpAny_call (HandSPX.call_own PySem.F.excBase_Exception hT hC (PySem.W.looks_findIn I.kIn F.ini) (fun self => PySem.W.bind_fn I.kIn self F.tyI) (Nat.zero_le _) ?_)
  refine ini_code0 T F S I.kIn kk hx2 ((I.mod.glob.keeps I.bk).keeps kk) ((b1.keeps I.bk).keeps kk) ((b2 _ (by decide)).trans boot_super) (lim.keeps kk) (hr.make C [] []).depth fun h2 tk' t1 kz ex => ?_
  exact ⟨rfl, .ref (hp.objs.size + 1), _, mkx_bare (t2 := tk') I (Nat.le_succ _) (fun b o z => kz b o (fun w => by rw [w, Heap.get?_none_of_le (Nat.le_succ _)] at z; cases z) (kk b o z)) ex, rfl, q _ (I.hok.fresh (Nat.le_succ _))⟩
/-- a class without an __init__ of its own -/
theorem pe_exnR {bmB : List Value} {B newId initId : String} (F : ExcBaseFacts B newId initId bmB) (qx : PySem.W.excIn X.K C bmB newId = true) (kC : PySem.W.keepIn X.K (.ref C) = true) (hg : Gl X x) (hm : X.mg x = some (.ref C)) (hdb : (x == ("__debug__" : Str)) = false := by decide) :
    PE X (.Call (.Name x p) [] [] pos) (tExn0 C) := by
  refine ⟨fun pins s σ H Q I q => ?_⟩
  refine wpAny_Call_Name_kw (ld_glob I hg hm ?_ hdb)
  refine PySem.W.callWith_K0 I.kIn kC ?_
  show wpAny _ _ (call (.ref C) []) _ _ _
  obtain ⟨bm, N, nm, qn, bs, hdct, sn, sub, ab, col, dd, k0, k1, k2, k3, k5, mN, hC, hN, hni, T⟩ := exc_obj I.kIn qx
  refine wpAny_call_exc_subT F T hC hN hni (fun h' a hm => ?_) (Nat.zero_le _)
  have hn : H a = none := I.hok.gone hm.new
  obtain ⟨t, ht, _, _⟩ := hm.there
  exact ⟨.ref a, upd H a (exnO C none a), I.laidN hm.keeps hm.new hn (exnO_ok ht rfl rfl rfl), rfl, q a hn⟩
end
end DL
namespace DL
open PySem PySem.Spec PyProof.Rows L2

def eExn1 (C : Addr) (f : Str) (fa : AF) : EF := fun E => (fa E).bind fun p => (ofO (dats p.1)).bind fun ds => match ds with
  | [d] => .ok (.dat (.exn C [(f, d)]), p.2)
  | _ => .stuck
def eExn0 (C : Addr) : EF := fun E => .ok (.dat (.exn C []), E)
section
variable {X : Cx} {Wi : Wish} {C fI : Addr} {qual : Str} {st : Stmt} {f par x : Str} {e : Expr} {fa : AF} {fo : EF} {p pos kp : Pos} {kws : List Keyword}
theorem tExn1_of : ∀ σ H Q, tE X.K Wi (eExn1 C f fa) σ H Q → tExn1 C f (tA X.K Wi fa) σ H Q := by
  intro σ H Q q
  obtain ⟨F, G, E, as, st, pq⟩ := q
  refine ⟨F, G, E, as, st, PoA.mono (fun vs H1 m => ?_) (PoA.bind pq)⟩
  obtain ⟨ws, G1, E1, as1, s1, st1, wo1, p1⟩ := m
  obtain ⟨ds, e1, p1⟩ := Po.of p1
  have dd := dats_ok wo1 e1
  match ds, p1, dd with
  | [], p1, _ => exact p1.elim
  | _ :: _ :: _, p1, _ => exact p1.elim
  | [d], p1, dd =>
    cases dd with
    | cons h1 h2 =>
      cases h2
      rename_i v
      refine ⟨v, rfl, fun a dx ha hdx na => ?_⟩
      have al1 := Al.one (o := .xd [(f, v)]) st1.s1 hdx
      have ha2 : upd H1 dx (.xd [(f, v)]) a = none := by rw [upd_ne (Ne.symm na)]; exact ha
      have al2 := Al.one (o := exnO C (some dx) a) al1.s ha2
      have al := al1.trans al2
      refine Po.rz st1 p1 _ _ _ al ?_
      refine .exn1 upd_same (by rw [upd_ne na]; exact upd_same) (.cons (h1.up al.g) .nil)
theorem de_exn1 (T : ExCls X.K C) (F : ExFn X.prog X.K X.mg C fI qual st) (S : ExText1 qual st f par) (hf : PySem.W.findIn X.K (.ref C) f = some none) (hr : Room 1 X.A) (hg : Gl X x) (hm : X.mg x = some (.ref C)) (pa : DA X Wi [e] fa)
    (hdb : (x == ("__debug__" : Str)) = false := by decide) (hst : starEach [e] X.env = (false, eval e X.env) :: starEach [] X.env := by rfl) (hpl : (backTo pos (starEach [] X.env)).any (·.1) = false := by rfl) :
    DE X Wi (.Call (.Name x p) [e] [] pos) (eExn1 C f fa) := PE.imp (pe_exn1 T F S hf hr hg hm pa hdb hst hpl) tExn1_of
theorem de_exn1k (T : ExCls X.K C) (F : ExFn X.prog X.K X.mg C fI qual st) (S : ExText1 qual st f par) (Sk : ExKw qual st par) (hf : PySem.W.findIn X.K (.ref C) f = some none) (hr : Room 1 X.A) (hg : Gl X x) (hm : X.mg x = some (.ref C)) (pa : DK X Wi kws fa)
    (hall : (backToKw pos (keywordEach kws X.env)).all (·.1.isSome) = true := by rfl) (hks : (backToKw pos (keywordEach kws X.env)).filterMap (·.1) = [par] := by rfl) (hdb : (x == ("__debug__" : Str)) = false := by decide)
    (hpl : ((backTo pos (starEach [] X.env)).any (·.1) || (backToKw pos (keywordEach kws X.env)).any (·.1.isNone)) = false := by rfl) :
    DE X Wi (.Call (.Name x p) [] kws pos) (eExn1 C f fa) := PE.imp (pe_exn1k T F S Sk hf hr hg hm pa hall hks hdb hpl) tExn1_of
theorem tExn0_of : ∀ σ H Q, tE X.K Wi (eExn0 C) σ H Q → tExn0 C σ H Q := by
  intro σ H Q q a ha
  obtain ⟨F, G, E, as, st, pq⟩ := q
  exact Po.rz st pq _ _ _ (Al.one (o := exnO C none a) st.s1 ha) (.exn0 upd_same)
theorem de_exn0 (T : ExCls X.K C) (F : ExFn X.prog X.K X.mg C fI qual st) (S : ExText0 qual st) (hr : Room 1 X.A) (hg : Gl X x) (hm : X.mg x = some (.ref C)) (hdb : (x == ("__debug__" : Str)) = false := by decide) :
    DE X Wi (.Call (.Name x p) [] [] pos) (eExn0 C) := PE.imp (pe_exn0 T F S hr hg hm hdb) tExn0_of
theorem de_exnR {bmB : List Value} {B newId initId : String} (F : ExcBaseFacts B newId initId bmB) (qx : PySem.W.excIn X.K C bmB newId = true) (kC : PySem.W.keepIn X.K (.ref C) = true) (hg : Gl X x) (hm : X.mg x = some (.ref C)) (hdb : (x == ("__debug__" : Str)) = false := by decide) :
    DE X Wi (.Call (.Name x p) [] [] pos) (eExn0 C) := PE.imp (pe_exnR F qx kC hg hm hdb) tExn0_of

def tXAt (K : PySem.W.Frag) (f : Str) (te : TE) : TE := fun σ H Q => te σ H fun x H1 => ∃ a C dd fs v, x = .ref a ∧ H1 a = some (exnO C (some dd) a) ∧ ExCls K C ∧ PySem.W.findIn K (.ref C) f = some none ∧ H1 dd = some (.xd fs) ∧ fs.lookup f = some v ∧ Q v H1
theorem pe_xat {te : TE} (he : PE X e te) (hb : attributeBase e f X.env (eval e X.env) = eval e X.env := by rfl) : PE X (.Attribute e f pos) (tXAt X.K f te) := by
  refine ⟨fun pins s σ H Q I h => ?_⟩
  refine attr_of hb (thn (he.run pins s σ H _ I h) fun u s1 hh => ?_)
  obtain ⟨x, H1, I1, rx, a, C, dd, fs, v, ex, ea, T, hno, ed, l, q⟩ := hh
  subst ex
  obtain rfl : u = Value.ref a := rx
  obtain ⟨oe, vs, ha, h1, h2, h3⟩ := exnO_at I1.hok ea
  have hx : ObjOk X.prog X.w H1 s1.heap dd (.xd fs) := I1.hok dd _ ed
  obtain ⟨mA, hns, hr⟩ := hx
  obtain ⟨od, ho, hl⟩ := lookIn_ns hns
  obtain ⟨u, hu, ru⟩ := RelO.some_of (v := v) (o := mA f) (by rw [← l]; exact hr f)
  have J : PySem.W.InstAt s1.heap a oe C (some od) := ⟨ha, h1, by unfold PySem.W.notCls; rw [h3] <;> rfl, by rw [h2]; exact ho⟩
  exact HandSPX.exc_get I1.kIn J T.ga T.gg T.ex (PySem.W.findObj_own T.hd hno rfl (by rw [hl, hu])) (handed_of ru) ⟨v, H1, I1.tok _, ru, q⟩
def eXAt (Cs : List Addr) (f : Str) (fo : EF) : EF := fun E => (fo E).bind fun p => match p.1 with
  | .dat (.exn C fs) => if C ∈ Cs then (ofO (fs.lookup f)).bind fun d => .ok (.dat d, p.2) else .stuck
  | _ => .stuck
theorem de_xat {Cs : List Addr} (he : DE X Wi e fo) (hC : ∀ C ∈ Cs, ExCls X.K C ∧ PySem.W.findIn X.K (.ref C) f = some none) (hb : attributeBase e f X.env (eval e X.env) = eval e X.env := by rfl) : DE X Wi (.Attribute e f pos) (eXAt Cs f fo) := PE.imp (pe_xat he hb) fun σ H Q q => by
  obtain ⟨F, G, E, as, st, p⟩ := q
  refine ⟨F, G, E, as, st, Po.mono (fun x H1 m => ?_) (Po.bind p)⟩
  obtain ⟨w1, G1, E1, as1, s1, st1, wo1, p1⟩ := m
  cases w1 with
  | own _ => exact p1.elim
  | dat d =>
    cases d with
    | exn C fs =>
      have p2 : Po X.K Wi F G1 σ Q (if C ∈ Cs then (ofO (fs.lookup f)).bind fun d => .ok (.dat d, E1) else .stuck) := p1
      by_cases hm : C ∈ Cs
      · rw [if_pos hm] at p2
        obtain ⟨d, e1, p3⟩ := Po.of p2
        have dd : DD X.K G1 x (.exn C fs) := wo1
        cases dd with
        | exn0 ga => cases e1
        | exn1 ga gd df =>
          obtain ⟨v, e2, dv⟩ := df.look e1
          exact ⟨_, C, _, _, v, rfl, st1.s1 _ _ ga, (hC C hm).1, (hC C hm).2, st1.s1 _ _ gd, e2, Po.rz st1 p3 _ _ _ (Al.refl st1.s1) dv⟩
      · rw [if_neg hm] at p2; exact p2.elim
    | _ => exact p1.elim

def rIsXn (K : PySem.W.Frag) : List V → Hp → VK → Prop := fun xs H Q => ∃ (a C : Addr) (d : Option Addr) (c : V) (u : Value) (b : Bool), xs = [.ref a, c] ∧ ClsV c u ∧ H a = some (exnO C d a) ∧ (∀ dd, d = some dd → ∃ fs, H dd = some (.xd fs)) ∧ ExCls K C ∧ ExIs K C ∧ PySem.W.kitOne K (.ref C) u = some b ∧ Q (.bl b) H
theorem call_isXn : CallR X (.builtin "isinstance") (rIsXn X.K) := by
  intro pins s σ H xs us Q I r h
  obtain ⟨a, C, d, c, u, b, rfl, hcv, ea, hd, T, S, e, q⟩ := h
  cases r with
  | cons rx rr =>
    cases rr with
    | cons rt rr =>
      cases rr
      cases rx
      have ec := hcv.eq rt
      subst ec
      obtain ⟨oe, vs, hget, h1, h2, h3⟩ := exnO_at I.hok ea
      have J : ∃ od, PySem.W.InstAt s.heap a oe C od := by
        cases d with
        | none => exact ⟨none, hget, h1, by unfold PySem.W.notCls; rw [h3] <;> rfl, by rw [h2]; trivial⟩
        | some dd =>
          obtain ⟨fs, hfs⟩ := hd dd rfl
          have hx : ObjOk X.prog X.w H s.heap dd (.xd fs) := I.hok dd _ hfs
          obtain ⟨mA, ⟨od, _, _, ho, _⟩, _⟩ := hx
          exact ⟨some od, hget, h1, by unfold PySem.W.notCls; rw [h3] <;> rfl, by rw [h2]; exact ho⟩
      obtain ⟨od, J⟩ := J
      obtain ⟨cd, hcd, _⟩ := PySem.W.any_some T.hd
      exact PySem.W.kia_one (PySem.W.kitx_exc (by rw [hcd]; rfl) T.ga T.gg T.ex S.ca S.cn S.ct S.mo) I.kIn J e (fun z => nomatch z) fun tk => ⟨.bl b, H, I.kept (t' := tk) fun _ _ z => z, rfl, q⟩
def gIsXn (l : List (Addr × Bool)) : D → Option D
  | .exn C _ => (l.lookup C).map .bl
  | _ => none
def eIsXn (l : List (Addr × Bool)) (fo : EF) : EF := fun E => (fo E).bind fun p => match p.1 with
  | .dat d => (ofO (gIsXn l d)).bind fun b => .ok (.dat b, p.2)
  | _ => .stuck
theorem lookXn_mem {l : List (Addr × Bool)} {C : Addr} {b : Bool} (h : l.lookup C = some b) : (C, b) ∈ l := by
  induction l with
  | nil => cases h
  | cons p l ih =>
    obtain ⟨k, v⟩ := p
    rw [List.lookup_cons] at h
    by_cases e : C = k
    · subst e; simp at h; subst h; exact List.mem_cons_self
    · have : (C == k) = false := by simpa using e
      rw [this] at h; exact List.mem_cons_of_mem _ (ih h)
theorem de_isXn {c : Expr} {cv : V} {u : Value} {l : List (Addr × Bool)} (hu : ClsV cv u) (hl : ∀ p ∈ l, (ExCls X.K p.1 ∧ ExIs X.K p.1) ∧ PySem.W.kitOne X.K (.ref p.1) u = some p.2)
    (hg : Gl X "isinstance") (hm : X.mg "isinstance" = none) (ha : DE X Wi e fo) (hc : PE X c (tC cv))
    (hs : starEach [e, c] X.env = (false, eval e X.env) :: starEach [c] X.env := by rfl) (hs2 : starEach [c] X.env = (false, eval c X.env) :: starEach [] X.env := by rfl) (hpl : (backTo pos (starEach [c] X.env)).any (·.1) = false := by rfl) :
    DE X Wi (.Call (.Name "isinstance" p) [e, c] [] pos) (eIsXn l fo) := by
  refine PE.imp (pe_callB call_isXn hg hm PyProof.Rows.boot_isinstance (pa_cons ha (pa_cons hc pa_nil hs2) hs) (by decide) (by decide) hs hpl) fun σ H Q q => ?_
  obtain ⟨F, G, E, as, st, pq⟩ := q
  refine ⟨F, G, E, as, st, Po.mono (fun x H1 m => ?_) (Po.bind pq)⟩
  obtain ⟨w1, G1, E1, as1, s1, st1, wo1, p1⟩ := m
  cases w1 with
  | own _ => exact p1.elim
  | dat d1 =>
    obtain ⟨d, e2, p1⟩ := Po.of (show Po X.K Wi F G1 σ Q ((ofO (gIsXn l d1)).bind fun b => .ok (.dat b, E1)) from p1)
    cases d1 with
    | exn C fs =>
      have e2 : (l.lookup C).map D.bl = some d := e2
      cases q : l.lookup C with
      | none => rw [q] at e2; cases e2
      | some b =>
        rw [q] at e2
        cases e2
        obtain ⟨⟨T, S⟩, kq⟩ := hl _ (lookXn_mem q)
        have dd : DD X.K G1 x (.exn C fs) := wo1
        have fin : Q (.bl b) H1 := Po.rz st1 p1 _ _ _ (Al.refl st1.s1) (.bl b)
        cases dd with
        | exn0 ga => exact ⟨_, C, none, cv, u, b, rfl, hu, st1.s1 _ _ ga, (fun _ z => by cases z), T, S, kq, fin⟩
        | exn1 ga gd df => exact ⟨_, C, some _, cv, u, b, rfl, hu, st1.s1 _ _ ga, (fun dd z => by cases z; exact ⟨_, st1.s1 _ _ gd⟩), T, S, kq, fin⟩
    | _ => cases e2
end
end DL
namespace DL
open PySem PySem.Spec PyProof.Rows L2

section
variable {X : Cx} {pins : List (Addr × Obj)} {σ : L2.St} {H : Hp} {s : Shared} {a : Addr} {o : HO}
/-- an object of the heap that was not tracked is tracked from now on -/
theorem Inv.track (I : Inv X pins σ H s) (hn : H a = none) (h0 : X.s_0.heap.get? a = none) (nl : X.env.locals ≠ a) (nc : ∀ x c, X.env.cells.lookup x = some c → c ≠ a) (np : ∀ p ∈ X.pn ++ pins, p.1 ≠ a)
    (new : ∀ H', ObjOk X.prog X.w H' s.heap a o) : Inv X pins σ (upd H a o) s := by
  have ne0 : ∀ {b : Addr} {u : Obj}, X.s_0.heap.get? b = some u → b ≠ a := fun {b u} e z => by rw [z, h0] at e; cases e
  have oth : ∀ {b : Addr} {u : HO}, H b = some u → upd H a o b = some u := fun {b u} z => by rw [upd_ne (ne_of_none z hn)]; exact z
  refine ⟨I.ok, I.os, I.bare, ⟨I.base.keep, I.base.slot, fun b u e n hq => ?_, I.base.there, fun b xs e => oth (I.base.tups b xs e), fun b u v e => oth (I.base.frzs b u v e), fun b ps e => ?_⟩, I.loc, I.cell, ?_, fun x c e => ?_, fun p hp => ?_, fun b u e => ?_, I.len⟩
  · rw [upd_ne (ne0 e)]; exact I.base.free b u e n hq
  · obtain ⟨m, q⟩ := I.base.tbls b ps e
    exact ⟨m, oth q⟩
  · rw [upd_ne nl]; exact I.free
  · rw [upd_ne (nc x c e)]; exact I.freeC x c e
  · obtain ⟨e, n, r⟩ := I.pin p hp
    exact ⟨e, by rw [upd_ne (np p hp)]; exact n, r⟩
  · by_cases hb : b = a
    · rw [hb, upd_same] at e; cases e; rw [hb]; exact new _
    · rw [upd_ne hb] at e
      exact (I.hok b u e).stay (fun c v _ q => q) (fun c q => oth q) fun c xs q => oth q
end
def wKeep (c : Value) (K : PySem.W.Frag) (i k : Nat) (D : Ends) : WX := fun cls d σ H => ∃ C, cls = .ref C ∧ PySem.W.exmOne K cls c = some true ∧ ∀ a, H a = none → D.nx (((σ.set i (some (.ref a))).set k (some (.ref a))).set i none) (upd H a (exnO C d a))
section
variable {X : Cx} {body : List Stmt} {pos np pos' p1 p2 p3 : Pos} {tb : WX → TS} {Wout : WX} {x n y : Str} {c : Value} {i k : Nat}
theorem ps_try_keep (hs : X.stack = X.env :: X.outer) (hf : X.env.frame = some X.env.locals) (hN : X.N.Nodup) (hex : X.ex = [])
    (hb : ∀ (W : WX) (pn : List (Addr × Obj)) (xe : Value → Shared → Prop), Takes (X.tr pn xe) W → PassesOwn (model X.prog X.w) X.A X.env xe → PSs (X.tr pn xe) body (tb W))
    (hc : Names X x c) (hi : X.N[i]? = some n) (hl : X.env.kindOf n = some .local) (hk : X.N[k]? = some y) (hlk : Loc X.env.scope y) (hik : i ≠ k)
    (hv : ∀ (a : Addr) (q : Addr × Obj) (pn : List (Addr × Obj)), PE (X.suite a (q :: pn)) (.Name n p1) (tVar i)) (hsw : swapsWith (.Name n p1) (some (.Name y p2)) p3.line X.env = pure false := by rfl)
    (hfy : X.fn y = true ∨ X.env.scope.names.lookup y = some .local := by first | exact .inl rfl | exact .inr rfl | assumption) :
    PS X (.Try body [.ExceptHandler (some (.Name x np)) (some n) [.Assign [.Name y p2] (.Name n p1) p3] pos'] [] [] pos) (fun D σ H => tb (wKeep c X.K i k D) D σ H) := by
  constructor
  intro pins s σ H D I h
  have okX := I.ok
  have frX : X.A.frames = some (X.env :: X.outer) := okX.frames.trans (congrArg some hs)
  refine wpAny_Try_except ?_
  refine wpAny_mono ((hb (wKeep c X.K i k D) (X.pn ++ pins) (fun e t1 => wpAny (model X.prog X.w) X.A (noteFrame e X.env) (fun _ t2 => wpAny (model X.prog X.w) X.A (setFlight e none) (fun _ t3 =>
    wpAny (model X.prog X.w) X.A (handleBy e X.env [.ExceptHandler (some (.Name x np)) (some n) [.Assign [.Name y p2] (.Name n p1) p3] pos']) (SP X pins D) X.xe t3) X.xe t2) X.xe t1) (fun u t' xx => ?_) PassesOwn.looking).run [] s σ H D (I.toTry _) h) (fun fl t1 hsp => ?_) (fun e t1 he => he)
  · obtain ⟨a, B, sI, pins1, σ1, H1, cls, d, rfl, J0, nb, up, sky, na, os, ag, w⟩ := xx
    have J : Inv X pins σ1 H1 sI := J0.ofTry okX
    have sky1 : Sky B (X.env :: X.outer) a (Zc cls d) X.env.locals t'.heap := by rw [← hs]; exact sky
    show wpAny (model X.prog X.w) X.A (noteFrame (.ref a) X.env) _ _ _
    refine Sky.land Zc.steady frX hf sky1 fun q3 fl3 up3 => ?_
    have J3 : Inv X pins σ1 H1 { t' with heap := q3 } := J.landed nb fl3.1 (up.trans up3) os ag
    obtain ⟨oe3, vs3, he3, hz3, hd3⟩ := fl3.there
    have nfr : a ∉ frs (X.env :: X.outer) := fun hm => by
      obtain ⟨_, o1, e1, hnf⟩ := fl3.2.2.1.mem hm
      rw [he3] at e1; cases e1
      exact hnf _ hd3
    have nL : a ≠ X.env.locals := fun z => nfr (List.mem_filterMap.mpr ⟨X.env, List.mem_cons_self, hf.trans (congrArg some z.symm)⟩)
    have nF : a ∉ X.fs := fun hm => by
      obtain ⟨e1, h1, q⟩ := List.mem_filterMap.mp hm
      exact nfr (List.mem_filterMap.mpr ⟨e1, .tail _ h1, q⟩)
    have aB : B.get? a = none := fl3.2.1
    have aI : sI.heap.get? a = none := by
      cases e : sI.heap.get? a with
      | none => rfl
      | some o =>
        have z := nb a o e (by rw [hs]; exact nfr)
        rw [aB] at z; cases z
    have a0 : X.s_0.heap.get? a = none := by
      cases e : X.s_0.heap.get? a with
      | none => rfl
      | some o =>
        obtain ⟨o', z⟩ := J.base.there a o e (by rw [hex]; exact fun z => nomatch z)
        rw [aI] at z; cases z
    have nC : ∀ z c', X.env.cells.lookup z = some c' → c' ≠ a := fun z c' e w => by
      obtain ⟨v, o, q, _⟩ := J.cell z c' e
      rw [w, aI] at q; cases q
    have nP : ∀ p ∈ X.pn ++ pins, p.1 ≠ a := fun p hp w => by
      have q := (J.pin p hp).1
      rw [w, aI] at q; cases q
    have S3 := J3.suite he3 hd3 na nL nF
    have LT : PySem.W.Looks (model X.prog X.w) q3 (typeOf (.ref a)) cls := fun A Q E s k q => wpAny_typeOf_ref (k _ _ he3) (by rw [hz3.1]; exact q)
    have test : ∀ {Q : Value → Shared → Prop} {E : Value → Shared → Prop}, Q c { t' with heap := q3 } → wpAny (model X.prog X.w) (X.A.mark (some (.ref a))) (eval (.Name x np) X.env) Q E { t' with heap := q3 } := fun {Q E} q => by
      obtain ⟨g1, g2, g3⟩ := hc
      rcases g3 with g3 | ⟨g3, g4, g5⟩
      · exact ld_glob (X := X.suite a ((a, oe3) :: (X.pn ++ pins))) S3 g1 g3 q g2
      · exact ld_blt (X := X.suite a ((a, oe3) :: (X.pn ++ pins))) S3 g1 g3 g4 q g5 g2
    obtain ⟨C, rfl, hb1, hyes⟩ := w
    refine wpAny_handleBy_cons (codeAny_handlers_test ?_) (by intro q; cases q)
    refine test ((PySem.W.exm_one (M := model X.prog X.w) (J3.kIn) LT hb1).here ?_)
    refine codeAny_handlers_suite_as ?_
    refine HandSPX.lands_againZ fl3 fun q4 fl4 up4 => ?_
    have J4 : Inv X pins σ1 H1 { t' with heap := q4 } := J.landed nb fl4.1 ((up.trans up3).trans up4) os ag
    obtain ⟨oe4, vs4, he4, hz4, hd4⟩ := fl4.there
    have S4 := J4.suite he4 hd4 na nL nF
    refine store_ok (X := X.suite a ((a, oe4) :: (X.pn ++ pins))) (v := .ref a) S4 hN hi (.inl hl) rfl (fun t5 S5 => ?_) (.inr hl)
    have su : PSs (X.suite a ((a, oe4) :: (X.pn ++ pins))) [.Assign [.Name y p2] (.Name n p1) p3] (tAsg (tVar i) (gName k)) := pss_one (ps_set (X := X.suite a ((a, oe4) :: (X.pn ++ pins))) hN hk hlk (hv a _ _) hsw hfy)
    refine wpAny_mono (su.run [] t5 _ H1 { nx := fun σ6 H6 => σ6 = (σ1.set i (some (.ref a))).set k (some (.ref a)) ∧ H6 = H1, rt := fun _ _ => False, bk := fun _ _ => False, ct := fun _ _ => False } S5 ?_) (fun f t6 hsp => ?_) (fun _ _ z => z.elim)
    · exact ⟨.ref a, by rw [List.getElem?_set_self (by rw [J4.len]; exact (List.getElem?_eq_some_iff.mp hi).1)], rfl, rfl⟩
    · cases f with
      | next =>
        obtain ⟨σ6, H6, S6, e6, e7⟩ := hsp
        subst e6 e7
        obtain ⟨hget, _⟩ := S6.pin (a, oe4) (List.mem_append_left _ List.mem_cons_self)
        have J6 := DL.Inv.track (o := exnO C d a) (S6.unsuite okX) na a0 (Ne.symm nL) nC nP fun H' => exnO_ok hget hz4.1 hz4.2 hd4
        exact gone_ok J6 hN hi hl fun t7 J7 => ⟨_, _, J7, hyes a na⟩
      | ret u => obtain ⟨v6, σ6, H6, S6, r6, q6⟩ := hsp; exact q6.elim
      | brk => obtain ⟨σ6, H6, S6, q6⟩ := hsp; exact q6.elim
      | cont => obtain ⟨σ6, H6, S6, q6⟩ := hsp; exact q6.elim
  · cases fl with
    | ret u => exact let ⟨v, σ1, H1, J1, r, q⟩ := hsp; ⟨v, σ1, H1, J1.ofTry okX, r, q⟩
    | next => exact let ⟨σ1, H1, J1, q⟩ := hsp; wpAny_execs_nil ⟨σ1, H1, J1.ofTry okX, q⟩
    | brk => exact let ⟨σ1, H1, J1, q⟩ := hsp; ⟨σ1, H1, J1.ofTry okX, q⟩
    | cont => exact let ⟨σ1, H1, J1, q⟩ := hsp; ⟨σ1, H1, J1.ofTry okX, q⟩
end
/-- the mirror: i the caught error's slot, k the name's -/
def sTryK (fb : SF) (yes : List Addr) (i k : Nat) : SF := fun E => match fb E with
  | .ok p => .ok p
  | .err x E' => if x.cls ∈ yes ∧ i ≠ k then .ok (.nx, (E'.set k (.dat (.exn x.cls x.fs))).set i .no) else .stuck
  | .stuck => .stuck
theorem dd_exn {K : PySem.W.Frag} {G H : Hp} {x : ExV} {c : Value} {d : Option Addr} {a : Addr} (s : Same G H) (ha : H a = none) (h : ExOk K G x c d) : DD K (upd G a (exnO x.cls d a)) (.ref a) (.exn x.cls x.fs) := by
  obtain ⟨h1, h2⟩ := h
  cases d with
  | none =>
    have h2 : x.fs = [] := h2
    rw [h2]; exact .exn0 upd_same
  | some dx =>
    obtain ⟨fs, e, q⟩ := h2
    have na : dx ≠ a := fun z => by
      have := s _ _ e
      rw [z, ha] at this; cases this
    have ga : G a = none := by
      cases e2 : G a with
      | none => rfl
      | some o => have := s _ _ e2; rw [ha] at this; cases this
    exact .exn1 upd_same (by rw [upd_ne na]; exact e) (q.up fun b o z => by rw [upd_ne (ne_of_none z ga)]; exact z)
theorem ds_try_keep {X : Cx} {Wi : Wish} {body : List Stmt} {pos np pos' p1 p2 p3 : Pos} {x n y : Str} {c : Value} {i k : Nat} {fb : SF} {yes : List Addr} (hs : X.stack = X.env :: X.outer) (hf : X.env.frame = some X.env.locals) (hN : X.N.Nodup) (hex : X.ex = [])
    (hb : ∀ (Wb : Wish) (pn : List (Addr × Obj)) (xe : Value → Shared → Prop), Takes (X.tr pn xe) (wxOf Wb) → PassesOwn (model X.prog X.w) X.A X.env xe → DSs (X.tr pn xe) Wb body fb)
    (hc : Names X x c) (hi : X.N[i]? = some n) (hl : X.env.kindOf n = some .local) (hk : X.N[k]? = some y) (hlk : Loc X.env.scope y) (hik : i ≠ k) (hyes : ∀ C ∈ yes, PySem.W.exmOne X.K (.ref C) c = some true)
    (hv : ∀ (a : Addr) (q : Addr × Obj) (pn : List (Addr × Obj)), PE (X.suite a (q :: pn)) (.Name n p1) (tVar i)) (hsw : swapsWith (.Name n p1) (some (.Name y p2)) p3.line X.env = pure false := by rfl)
    (hfy : X.fn y = true ∨ X.env.scope.names.lookup y = some .local := by first | exact .inl rfl | exact .inr rfl | assumption) :
    DS X Wi (.Try body [.ExceptHandler (some (.Name x np)) (some n) [.Assign [.Name y p2] (.Name n p1) p3] pos'] [] [] pos) (sTryK fb yes i k) := by
  refine PS.imp (ps_try_keep (tb := fun W => tS X.K (fun σ c d H => W c d σ H) fb) hs hf hN hex (fun W pn xe tk' hp => hb (fun σ c d H => W c d σ H) pn xe tk' hp) hc hi hl hk hlk hik hv hsw hfy) fun Dn σ H q => ?_
  obtain ⟨F, G, E, as, st, p⟩ := q
  refine ⟨F, G, E, as, st, ?_⟩
  have p : PoS X.K Wi F G Dn (match fb E with
    | .ok p => .ok p
    | .err x E' => if x.cls ∈ yes ∧ i ≠ k then .ok (.nx, (E'.set k (.dat (.exn x.cls x.fs))).set i .no) else .stuck
    | .stuck => .stuck) := p
  generalize fb E = r at p ⊢
  match r, p with
  | .ok (.nx, E2), p => exact p
  | .ok (.bk, E2), p => exact p
  | .ok (.ct, E2), p => exact p
  | .ok (.rt d, E2), p => exact p
  | .err x E2, p =>
    intro c' dx σ' G' H' as' s st' xo
    by_cases hy : x.cls ∈ yes ∧ i ≠ k
    · have p : PoS X.K Wi F G Dn (if x.cls ∈ yes ∧ i ≠ k then .ok (.nx, (E2.set k (.dat (.exn x.cls x.fs))).set i .no) else .stuck) := p
      rw [if_pos hy] at p
      refine ⟨x.cls, xo.1, by rw [xo.1]; exact hyes _ hy.1, fun a ha => ?_⟩
      have al := Al.one (o := exnO x.cls dx a) st'.s1 ha
      have dd := dd_exn st'.s1 ha xo
      have st2 := ((st'.al al).setD (i := k) dd).setN (i := i) (x := none)
      have e : ((σ'.set i (some (V.ref a))).set k (some (V.ref a))).set i none = (σ'.set k (some (V.ref a))).set i none := by
        rw [List.set_comm _ _ hik, List.set_set]
      rw [e]
      exact p _ _ _ _ (s.trans al.g) st2
    · have p : PoS X.K Wi F G Dn (if x.cls ∈ yes ∧ i ≠ k then .ok (.nx, (E2.set k (.dat (.exn x.cls x.fs))).set i .no) else .stuck) := p
      rw [if_neg hy] at p; exact p.elim
end DL
namespace DL
open PySem PySem.Spec PyProof.Rows L2
theorem allT_nil {α : Type} {p : α → Prop} : ∀ x ∈ ([] : List α), p x := fun _ h => by cases h
theorem allT_cons {α : Type} {p : α → Prop} {a : α} {l : List α} (h : p a) (r : ∀ x ∈ l, p x) : ∀ x ∈ a :: l, p x := fun x hx => by
  rcases List.mem_cons.mp hx with e | hx
  · rw [e]; exact h
  · exact r x hx
theorem bootx_Exception : bootBuiltins "Exception" = some (.type "Exception") := by kernel_rfl
theorem bootx_ValueError : bootBuiltins "ValueError" = some (.type "ValueError") := by kernel_rfl
theorem bootx_LookupError : bootBuiltins "LookupError" = some (.type "LookupError") := by kernel_rfl
theorem bootx_TypeError : bootBuiltins "TypeError" = some (.type "TypeError") := by kernel_rfl
theorem bootx_ArithmeticError : bootBuiltins "ArithmeticError" = some (.type "ArithmeticError") := by kernel_rfl
theorem bootx_RuntimeError : bootBuiltins "RuntimeError" = some (.type "RuntimeError") := by kernel_rfl
end DL
namespace DL
open PySem PySem.Spec PyProof.Rows L2 TL
/-- {} or {text: int} -/
def dicF : List (Key × D) → Bool
  | [] => true
  | [(.inr x, .int _)] => decide ((reprText x).length ≤ sizeLine)
  | _ => false
mutual
def D.okF : D → Bool
  | .lst xs => okFL xs
  | .tup xs => okFL xs
  | .dic l => dicF l
  | .dit _ => false
  | .dix _ _ => false
  | .obj _ _ => false
  | .exn _ _ => false
  | .non => true
  | .bl _ => true
  | .int _ => true
  | .str _ => true
def okFL : List D → Bool
  | [] => true
  | x :: xs => x.okF && okFL xs
end
mutual
def okG : PyData → Bool
  | .none => true
  | .bool _ => true
  | .int _ => true
  | .str x => PyData.strOk x
  | .list xs => okGL xs
  | .tuple xs => okGL xs
  | .dict [] => true
  | .dict [(.str x, .int _)] => PyData.strOk x
  | .dict _ => false
def okGL : List PyData → Bool
  | [] => true
  | x :: xs => okG x && okGL xs
end
mutual
theorem DD.layF {K : PySem.W.Frag} {G : Hp} : ∀ (d : D) (v : V), d.okF = true → DD K G v d → okG d.py = true
  | .non, _, _, _ => rfl
  | .bl b, _, _, _ => rfl
  | .int i, _, _, _ => rfl
  | .str x, _, _, h => by cases h with | str _ h => exact h.2
  | .lst ds, _, p, h => by cases h with | lst _ _ ha => exact DDs.layF ds _ (by simpa [D.okF] using p) ha
  | .tup ds, _, p, h => by cases h with | tup _ _ ha => exact DDs.layF ds _ (by simpa [D.okF] using p) ha
  | .dic l, _, p, h => by
    match l, p with
    | [], _ => rfl
    | [(.inr x, .int i)], _ =>
      cases h with
      | dic hs hk =>
        cases hk with
        | cons k d r => exact k.2
  | .dit _, _, p, _ => by cases p
  | .dix _ _, _, p, _ => by cases p
  | .obj _ _, _, p, _ => by cases p
  | .exn _ _, _, p, _ => by cases p
theorem DDs.layF {K : PySem.W.Frag} {G : Hp} : ∀ (ds : List D) (vs : List V), okFL ds = true → DDs K G vs ds → okGL (pyL ds) = true
  | [], _, _, _ => rfl
  | d :: ds, _, p, h => by
    cases h with
    | cons h1 h2 =>
      rw [okFL, Bool.and_eq_true] at p
      show (okG d.py && okGL (pyL ds)) = true
      rw [DD.layF d _ p.1 h1, DDs.layF ds _ p.2 h2]; rfl
end
mutual
theorem cp_shownF : ∀ d : PyData, okG d = true → Cp (tl d.shown)
  | .none, _ => cp_string _
  | .bool b, _ => by cases b <;> exact cp_string _
  | .int i, _ => cp_string _
  | .str x, h => cp_reprText (strOk_iff.mp h)
  | .list xs, h => cp_add (cp_from _ 0 _ (cp_string _) (cp_shownFL xs h)) (cp_string _)
  | .tuple xs, h => cp_add (cp_add (cp_string _) (cp_join (cp_string _) _ (cp_shownFL xs h))) (by split <;> exact cp_string _)
  | .dict l, h => by
    match l, h with
    | [], _ => exact cp_string "{}"
    | [(.str x, .int i)], h =>
      refine cp_add (cp_add (cp_string _) (cp_join (cp_string _) _ fun t ht => ?_)) (cp_string _)
      rw [List.mem_singleton.mp (show t ∈ [reprText x ++ ": " ++ (PyData.int i).shown] from ht)]
      exact cp_add (cp_add (cp_reprText (strOk_iff.mp h)) (cp_string _)) (cp_string _)
theorem cp_shownFL : ∀ ds : List PyData, okGL ds = true → ∀ t ∈ PyData.shownAll ds, Cp (tl t)
  | [], _, t, ht => by cases ht
  | d :: ds, h, t, ht => by
    have h : (okG d && okGL ds) = true := h
    rw [Bool.and_eq_true] at h
    rcases List.mem_cons.mp ht with e | ht
    · rw [e]; exact cp_shownF d h.1
    · exact cp_shownFL ds h.2 t ht
end
section
variable {X : Cx} {pins : List (Addr × Obj)} {σ : L2.St} {G H : Hp} {s : Shared} {v : V} {u : Value} {d : D}
mutual
theorem DD.readsF (P : Program) (w : World) (I : Inv X pins σ H s) (e : Same G H) : ∀ (d : D) (v : V) (u : Value), d.okF = true → DD X.K G v d → RelV v u → ∃ as, Reads s.heap u d.py as ∧ (d.py.showable = true → d.py.shown.length ≤ sizeLine → Shn P w s.heap u d.py)
  | .non, _, _, _, h, r => by cases h; cases r; exact ⟨_, Reads.none, fun _ _ => ⟨[], (fun _ z => nomatch z), .of_is ReprIs.none _ _ _⟩⟩
  | .bl b, _, _, _, h, r => by cases h; cases r; exact ⟨_, Reads.bool b, fun _ _ => ⟨[], (fun _ z => nomatch z), .of_is (ReprIs.bool b) _ _ _⟩⟩
  | .int i, _, _, _, h, r => by cases h; obtain ⟨t, rfl⟩ := r; exact ⟨_, Reads.int i t, fun hs _ => ⟨[], (fun _ z => nomatch z), .of_is (ReprIs.int t (of_decide_eq_true hs)) _ _ _⟩⟩
  | .str x, _, _, _, h, r => by cases h; obtain ⟨t, rfl⟩ := r; exact ⟨_, Reads.str x t, fun _ hz => ⟨[], (fun _ z => nomatch z), .of_is (ReprIs.str x t hz) _ _ _⟩⟩
  | .lst ds, _, _, p, h, r => by
    cases h with
    | lst hs _ ha =>
      cases r
      obtain ⟨its, rv, ⟨o, n, ho, hc, _, hd⟩, _⟩ := I.list (SqL.of (e _ _ hs))
      obtain ⟨as, hr, k⟩ := DDs.readsF P w I e ds _ its (by simpa [D.okF] using p) ha rv
      exact ⟨_, Reads.list ho hc hd hr, fun h1 h2 => shn_list ho hc hd hr (k h1 fun t ht => Nat.le_trans (listText_mem_le ht) h2)⟩
  | .tup ds, _, _, p, h, r => by
    cases h with
    | tup hs _ ha =>
      cases r
      obtain ⟨its, rv, ⟨o, ho, hc, n, hd⟩, _⟩ := I.tuple (SqT.of (e _ _ hs))
      obtain ⟨as, hr, k⟩ := DDs.readsF P w I e ds _ its (by simpa [D.okF] using p) ha rv
      exact ⟨_, Reads.tuple ho hc hd hr, fun h1 h2 => shn_tup ho hc hd hr (k h1 fun t ht => Nat.le_trans (tupleText_mem_le ht) h2)⟩
  | .dic l, _, _, p, h, r => by
    match l, p, h with
    | [], _, h =>
      cases h with
      | dic hs hk =>
        cases hk
        cases r
        obtain ⟨_, hsy, vs, rel, o, es, ep, eo, exd, hdat, hk, hp, _⟩ := dk_of I.hok (e _ _ hs)
        cases rel
        have he : es.toList = [] := by revert hp; generalize es.toList = l; intro hp; cases hp; rfl
        exact ⟨_, Reads.dict (kvs := []) (as := []) (bs := []) eo exd.1 hdat (by rw [he]; exact .nil) (by rw [he]; exact .nil), fun _ _ => shn_dic eo exd.1 hdat he hsy⟩
    | [(.inr x, .int i)], p, h =>
      cases h with
      | dic hs hk =>
        cases hk with
        | cons k d0 r0 =>
          cases r0
          cases d0
          cases r
          obtain ⟨_, hsy, vs, rel, o, es, ep, eo, exd, hdat, hk, hp, _⟩ := dk_of I.hok (e _ _ hs)
          have key : ∀ vs' : List (Key × Value), KV [(Sum.inr x, V.int i)] vs' → ∃ t, vs' = [(Sum.inr x, .int i t)] := fun vs' r => by
            match vs', r with
            | [(k1, v1)], .cons r1 .nil =>
              have e1 : Sum.inr x = k1 := r1.1
              obtain ⟨t, e2⟩ : ∃ t, v1 = .int i t := r1.2
              exact ⟨t, by rw [← e1, e2]⟩
          obtain ⟨t, rfl⟩ := key vs rel
          have he : ∃ e0 : DictEntry, es.toList = [e0] ∧ (∃ t2, e0.key = .str x t2) ∧ e0.val = .int i t := by
            revert hp
            generalize es.toList = l
            intro hp
            cases hp with
            | cons h1 h2 h3 =>
              cases h3
              rcases keyIs_shape (show keyIs (Sum.inr x) _ = true from h1) with ⟨_, _, z, _⟩ | ⟨y, t2, z, z2⟩
              · cases z
              · cases z
                exact ⟨_, rfl, ⟨t2, z2⟩, h2⟩
          obtain ⟨e0, he, ⟨t2, hk0⟩, hv0⟩ := he
          have rd : Reads s.heap (.ref _) (.dict [(.str x, .int i)]) ([_] ++ ([] ++ []) ++ ([] ++ [])) := Reads.dict (kvs := [(.str x, .int i)]) eo exd.1 hdat (by rw [he]; show ReadsAll _ [e0.key] [.str x] _; rw [hk0]; exact .cons (Reads.str x t2) .nil) (by rw [he]; show ReadsAll _ [e0.val] [.int i] _; rw [hv0]; exact .cons (Reads.int i t) .nil)
          refine ⟨_, rd, fun h1 h2 => ⟨[_], ReadAtMost.cons (n := 0) rd (Nat.zero_le _) (fun _ z => nomatch z), ?_⟩⟩
          have h1 : (true && decide (i.natAbs.log2 < 1920) && true) = true := h1
          have h1 : i.natAbs.log2 < 1920 := by simpa using h1
          refine .dict (ps := [reprText x ++ ": " ++ (PyData.int i).shown]) eo exd.1 hdat hsy List.not_mem_nil ?_
          rw [he]
          refine .cons ?_ ?_ .nil
          · rw [hk0]; exact .of_is (ReprIs.str x t2 (of_decide_eq_true p)) _ _ _
          · rw [hv0]; exact .of_is (ReprIs.int t h1) _ _ _
  | .dit _, _, _, p, _, _ => by cases p
  | .dix _ _, _, _, p, _, _ => by cases p
  | .obj _ _, _, _, p, _, _ => by cases p
  | .exn _ _, _, _, p, _, _ => by cases p
theorem DDs.readsF (P : Program) (w : World) (I : Inv X pins σ H s) (e : Same G H) : ∀ (ds : List D) (vs : List V) (us : List Value), okFL ds = true → DDs X.K G vs ds → Vals vs us → ∃ as, ReadsAll s.heap us (pyL ds) as ∧ (PyData.showableAll (pyL ds) = true → (∀ t ∈ PyData.shownAll (pyL ds), t.length ≤ sizeLine) → ShnL P w s.heap us (pyL ds))
  | [], _, _, _, h, r => by cases h; cases r; exact ⟨_, .nil, fun _ _ => ⟨[], (fun _ z => nomatch z), .nil⟩⟩
  | d :: ds, _, _, p, h, r => by
    cases h with
    | cons h1 h2 =>
      cases r with
      | cons r1 r2 =>
        rw [okFL, Bool.and_eq_true] at p
        obtain ⟨as, q1, k1⟩ := DD.readsF P w I e d _ _ p.1 h1 r1
        obtain ⟨bs, q2, k2⟩ := DDs.readsF P w I e ds _ _ p.2 h2 r2
        refine ⟨_, .cons q1 q2, fun hs hz => ?_⟩
        have hs : (PyData.showable d.py && PyData.showableAll (pyL ds)) = true := hs
        rw [Bool.and_eq_true] at hs
        obtain ⟨b1, m1, z1⟩ := k1 hs.1 (hz _ List.mem_cons_self)
        obtain ⟨b2, m2, z2⟩ := k2 hs.2 fun t ht => hz t (List.mem_cons_of_mem _ ht)
        have l1 : d.py.depth ≤ max d.py.depth (PyData.depthAll (pyL ds)) := Nat.le_max_left _ _
        have l2 : PyData.depthAll (pyL ds) ≤ max d.py.depth (PyData.depthAll (pyL ds)) := Nat.le_max_right _ _
        exact ⟨b1 ++ b2, (m1.mono l1).append (m2.mono l2), .cons ((z1.more fun _ m => List.mem_append_left _ m).level_le l1) (z2.more_le (fun _ m => List.mem_append_right _ m) l2)⟩
end
theorem BD.layF {K : PySem.W.Frag} (p : d.okF = true) (h : BD K G H v d) : okG d.py = true := by
  cases h with
  | dat dd => exact DD.layF d v p dd
  | own ev o =>
    cases d with
    | lst ds =>
      obtain ⟨vs, e1, z, ha⟩ := o
      exact DDs.layF ds _ (by simpa [D.okF] using p) ha
    | dic l =>
      obtain ⟨kv, hs, hk⟩ := o
      match l, p, hk with
      | [], _, _ => rfl
      | [(.inr x, .int i)], _, hk =>
        cases hk with
        | cons k d r => exact k.2
    | dit _ => cases p
    | dix _ _ => cases p
    | _ => first | exact o.elim | cases p
end
def isL : D → Bool
  | .lst _ => true
  | _ => false
def okShowF (d : D) : Bool := isL d && d.okF && d.py.showable && decide (d.py.shown.length ≤ sizeLine) && decide (d.py.depth ≤ 60)
def gReprF : List D → Option D
  | [d] => if okShowF d = true then some (.str d.py.shown) else none
  | _ => none
def rReprF (K : PySem.W.Frag) : List V → Hp → VK → Prop := fun xs H Q => ∃ G x d, xs = [x] ∧ Same G H ∧ BD K G H x d ∧ okShowF d = true ∧ Q (.str d.py.shown) H
theorem calld_reprF {K : PySem.W.Frag} : CallD K (rReprF K) gReprF := by
  intro G H xs ds d Q s h e z
  match ds, e with
  | [a], e =>
    obtain ⟨h0, rfl⟩ := ifs_some (show (if okShowF a = true then some (D.str a.py.shown) else none) = some d from e)
    obtain ⟨v, rfl, b⟩ := h.one
    refine ⟨G, v, a, rfl, s, b, h0, z _ _ _ (Al.refl s) (.str _ ?_)⟩
    unfold okShowF at h0
    simp only [Bool.and_eq_true, decide_eq_true_eq] at h0
    exact ⟨h0.1.2, strOk_iff.mpr (cp_shownF _ (b.layF h0.1.1.1.2))⟩
theorem call_reprF {X : Cx} (hu : X.A.units + 64 < cLine) (hg : X.A.guards = some []) : CallR X (.builtin "repr") (rReprF X.K) := by
  intro pins s σ H xs us Q I r h
  obtain ⟨G, x, d, rfl, sm, b, ok, q⟩ := h
  obtain ⟨u, rfl, rx⟩ := vals1 r
  unfold okShowF at ok
  simp only [Bool.and_eq_true, decide_eq_true_eq] at ok
  obtain ⟨⟨⟨⟨o0, o1⟩, o2⟩, o3⟩, o4⟩ := ok
  have fin : ∀ (h' : Heap) (t : Tok) (tk : Nat), (∀ b o, s.heap.get? b = some o → h'.get? b = some o) → EP X pins σ Q (.str d.py.shown t) { s with heap := h', toks := tk } := fun h' t tk hk => ⟨.str _, H, I.kept (t' := tk) hk, ⟨_, rfl⟩, q⟩
  have lstC : ∀ {a : Addr} {ds : List D} {vs : List V}, d = .lst ds → u = .ref a → H a = some (.lst vs) → DDs X.K G vs ds → wpAny (model X.prog X.w) X.A (call (.builtin "repr") [u]) (EP X pins σ Q) X.xe s := by
    intro a ds vs ed eu hs ha
    subst ed eu
    obtain ⟨its, rv, ⟨o, n, ho, hc, _, hd⟩, _⟩ := I.list (SqL.of hs)
    obtain ⟨as, hr, k⟩ := DDs.readsF X.prog X.w I sm ds _ its o1 ha rv
    obtain ⟨bs, hb, k⟩ := k o2 fun t ht => Nat.le_trans (listText_mem_le ht) o3
    have rl := Reads.list ho hc hd hr
    have hna : a ∉ bs := not_mem_of_deeper rl (Nat.lt_succ_self _) hb
    have o4 : PyData.depthAll (pyL ds) + 1 ≤ 60 := o4
    refine call_repr_slot (by omega) ⟨o, ho, hc⟩ PySem.F.slot_list_repr.toG ?_
    have fin : ∀ (h' : Heap) (t : Tok) (tk : Nat), (∀ b o, s.heap.get? b = some o → h'.get? b = some o) → EP X pins σ Q (.str (listText (PyData.shownAll (pyL ds))) t) { s with heap := h', toks := tk } := fin
    have o3 : (listText (PyData.shownAll (pyL ds))).length ≤ sizeLine := o3
    generalize PyData.shownAll (pyL ds) = ts at k fin o3
    cases its with
    | nil =>
      cases k
      rw [listText_nil] at fin
      exact call_list_repr_empty ⟨o, ho, hc⟩ ho hd ⟨_, _, rfl, fin _ _ _ fun _ _ z => z⟩
    | cons y its =>
      have hl := k.length_eq
      exact call_list_reprK ho hc hd hna (by simpa using hl) (fun i y e => k.item i y (by simpa using e)) hg (fun b _ => Clear.nil b) (by show X.A.units + 1 + _ < cLine; omega) (fun _ _ z => z) (fun h' t tk hk => ⟨_, _, rfl, fin h' t tk hk⟩) o3
  cases d with
  | lst ds =>
    obtain ⟨a, vs, rfl, h1, _, h2⟩ := b.lst sm
    exact lstC rfl rx h1 h2
  | _ => cases o0
end DL
namespace DL
open PySem PySem.Spec PyProof.Rows L2 TL

def T (l : List Nat) : Str := ⟨l.toArray⟩
def dS (l : List Nat) : D := .str (T l)
def dC (c : Nat) : D := .str (sgn c)
theorem T_inj {a b : List Nat} : T a = T b ↔ a = b := ⟨fun h => by have := congrArg tl h; exact this, fun h => by rw [h]⟩
theorem inS_one (c : Nat) (l : List Nat) : inS (sgn c) (T l) = decide (c ∈ l) := PySem.StrLaws.found_one (T l) c
theorem gIn_one (neg : Bool) (c : Nat) (l : List Nat) : gInQ neg (dC c) (dS l) = some (.bl (if neg then !decide (c ∈ l) else decide (c ∈ l))) := by
  show some (D.bl (if neg then !(inS (sgn c) (T l)) else inS (sgn c) (T l))) = _
  rw [inS_one]
theorem eqv_str (x y : Str) : PyData.eqv (.str x) (.str y) = decide (x = y) := by
  show (x == y) = _
  by_cases h : x = y
  · subst h; simp
  · rw [decide_eq_false h]
    exact beq_eq_false_iff_ne.mpr h
end DL
namespace DL
open PySem PySem.Spec PyProof.Rows L2 TL
def k5_eOp (q : W × Env) : D → Res (W × Env) := fun d => .ok (.dat d, q.2)
def k4_eOp (g : D → D → Option D) (q : W × Env) (x : D) : D → Res (W × Env) := fun y => (ofO (g x y)).bind (k5_eOp q)
def k3_eOp (g : D → D → Option D) (q : W × Env) : D → Res (W × Env) := fun x => (rd q.2 q.1).bind (k4_eOp g q x)
def k2_eOp (g : D → D → Option D) (p : W × Env) : W × Env → Res (W × Env) := fun q => (rd q.2 p.1).bind (k3_eOp g q)
def k1_eOp (g : D → D → Option D) (fb : EF) : W × Env → Res (W × Env) := fun p => (fb p.2).bind (k2_eOp g p)
@[simp] theorem ap_k5_eOp (q : W × Env) (d : D) : k5_eOp q d = .ok (.dat d, q.2) := rfl
@[simp] theorem ap_k4_eOp (g : D → D → Option D) (q : W × Env) (x : D) (y : D) : k4_eOp g q x y = (ofO (g x y)).bind (k5_eOp q) := rfl
@[simp] theorem ap_k3_eOp (g : D → D → Option D) (q : W × Env) (x : D) : k3_eOp g q x = (rd q.2 q.1).bind (k4_eOp g q x) := rfl
@[simp] theorem ap_k2_eOp (g : D → D → Option D) (p : W × Env) (q : W × Env) : k2_eOp g p q = (rd q.2 p.1).bind (k3_eOp g q) := rfl
@[simp] theorem ap_k1_eOp (g : D → D → Option D) (fb : EF) (p : W × Env) : k1_eOp g fb p = (fb p.2).bind (k2_eOp g p) := rfl
@[simp] theorem ap_eOp (g : D → D → Option D) (fa : EF) (fb : EF) (E : Env) : eOp g fa fb E = (fa E).bind (k1_eOp g fb) := rfl
def k3_eUn (p : W × Env) : D → Res (W × Env) := fun d => .ok (.dat d, p.2)
def k2_eUn (g : D → Option D) (p : W × Env) : D → Res (W × Env) := fun x => (ofO (g x)).bind (k3_eUn p)
def k1_eUn (g : D → Option D) : W × Env → Res (W × Env) := fun p => (rd p.2 p.1).bind (k2_eUn g p)
@[simp] theorem ap_k3_eUn (p : W × Env) (d : D) : k3_eUn p d = .ok (.dat d, p.2) := rfl
@[simp] theorem ap_k2_eUn (g : D → Option D) (p : W × Env) (x : D) : k2_eUn g p x = (ofO (g x)).bind (k3_eUn p) := rfl
@[simp] theorem ap_k1_eUn (g : D → Option D) (p : W × Env) : k1_eUn g p = (rd p.2 p.1).bind (k2_eUn g p) := rfl
@[simp] theorem ap_eUn (g : D → Option D) (fa : EF) (E : Env) : eUn g fa E = (fa E).bind (k1_eUn g) := rfl
def k2_aC (p : W × Env) : List W × Env → Res (List W × Env) := fun q => .ok (p.1 :: q.1, q.2)
def k1_aC (fs : AF) : W × Env → Res (List W × Env) := fun p => (fs p.2).bind (k2_aC p)
@[simp] theorem ap_k2_aC (p : W × Env) (q : List W × Env) : k2_aC p q = .ok (p.1 :: q.1, q.2) := rfl
@[simp] theorem ap_k1_aC (fs : AF) (p : W × Env) : k1_aC fs p = (fs p.2).bind (k2_aC p) := rfl
@[simp] theorem ap_aC (fa : EF) (fs : AF) (E : Env) : aC fa fs E = (fa E).bind (k1_aC fs) := rfl
def k3_eCall (p : List W × Env) : D → Res (W × Env) := fun d => .ok (.dat d, p.2)
def k2_eCall (h : List D → Option D) (p : List W × Env) : List D → Res (W × Env) := fun ds => (ofO (h ds)).bind (k3_eCall p)
def k1_eCall (h : List D → Option D) : List W × Env → Res (W × Env) := fun p => (rds p.2 p.1).bind (k2_eCall h p)
@[simp] theorem ap_k3_eCall (p : List W × Env) (d : D) : k3_eCall p d = .ok (.dat d, p.2) := rfl
@[simp] theorem ap_k2_eCall (h : List D → Option D) (p : List W × Env) (ds : List D) : k2_eCall h p ds = (ofO (h ds)).bind (k3_eCall p) := rfl
@[simp] theorem ap_k1_eCall (h : List D → Option D) (p : List W × Env) : k1_eCall h p = (rds p.2 p.1).bind (k2_eCall h p) := rfl
@[simp] theorem ap_eCall (h : List D → Option D) (fs : AF) (E : Env) : eCall h fs E = (fs E).bind (k1_eCall h) := rfl
def k1_eN  : D × Env → Res (W × Env) := fun p => .ok (.dat p.1, p.2)
@[simp] theorem ap_k1_eN  (p : D × Env) : k1_eN p = .ok (.dat p.1, p.2) := rfl
@[simp] theorem ap_eN (fn : NF) (E : Env) : eN fn E = (fn E).bind k1_eN := rfl
def k3_eTup (p : List W × Env) : D → Res (W × Env) := fun d => .ok (.dat d, p.2)
def k2_eTup (p : List W × Env) : List D → Res (W × Env) := fun ds => (ofO (small ds (some (.tup ds)))).bind (k3_eTup p)
def k1_eTup  : List W × Env → Res (W × Env) := fun p => (ofO (dats p.1)).bind (k2_eTup p)
@[simp] theorem ap_k3_eTup (p : List W × Env) (d : D) : k3_eTup p d = .ok (.dat d, p.2) := rfl
@[simp] theorem ap_k2_eTup (p : List W × Env) (ds : List D) : k2_eTup p ds = (ofO (small ds (some (.tup ds)))).bind (k3_eTup p) := rfl
@[simp] theorem ap_k1_eTup  (p : List W × Env) : k1_eTup p = (ofO (dats p.1)).bind (k2_eTup p) := rfl
@[simp] theorem ap_eTup (fs : AF) (E : Env) : eTup fs E = (fs E).bind k1_eTup := rfl
def k3_nLst (p : List W × Env) : D → Res (D × Env) := fun d => .ok (d, p.2)
def k2_nLst (p : List W × Env) : List D → Res (D × Env) := fun ds => (ofO (small ds (some (.lst ds)))).bind (k3_nLst p)
def k1_nLst  : List W × Env → Res (D × Env) := fun p => (ofO (dats p.1)).bind (k2_nLst p)
@[simp] theorem ap_k3_nLst (p : List W × Env) (d : D) : k3_nLst p d = .ok (d, p.2) := rfl
@[simp] theorem ap_k2_nLst (p : List W × Env) (ds : List D) : k2_nLst p ds = (ofO (small ds (some (.lst ds)))).bind (k3_nLst p) := rfl
@[simp] theorem ap_k1_nLst  (p : List W × Env) : k1_nLst p = (ofO (dats p.1)).bind (k2_nLst p) := rfl
@[simp] theorem ap_nLst (fs : AF) (E : Env) : nLst fs E = (fs E).bind k1_nLst := rfl
def k3_tB (p : W × Env) : Bool → Res (Bool × Env) := fun b => .ok (b, p.2)
def k2_tB (p : W × Env) : D → Res (Bool × Env) := fun d => (ofO (asB d)).bind (k3_tB p)
def k1_tB  : W × Env → Res (Bool × Env) := fun p => (rd p.2 p.1).bind (k2_tB p)
@[simp] theorem ap_k3_tB (p : W × Env) (b : Bool) : k3_tB p b = .ok (b, p.2) := rfl
@[simp] theorem ap_k2_tB (p : W × Env) (d : D) : k2_tB p d = (ofO (asB d)).bind (k3_tB p) := rfl
@[simp] theorem ap_k1_tB  (p : W × Env) : k1_tB p = (rd p.2 p.1).bind (k2_tB p) := rfl
@[simp] theorem ap_tB (fa : EF) (E : Env) : tB fa E = (fa E).bind k1_tB := rfl
def k1_tNt  : Bool × Env → Res (Bool × Env) := fun p => .ok (!p.1, p.2)
@[simp] theorem ap_k1_tNt  (p : Bool × Env) : k1_tNt p = .ok (!p.1, p.2) := rfl
@[simp] theorem ap_tNt (t : BF) (E : Env) : tNt t E = (t E).bind k1_tNt := rfl
def k1_tOr_ (u : BF) : Bool × Env → Res (Bool × Env) := fun p => if p.1 = true then .ok (true, p.2) else u p.2
@[simp] theorem ap_k1_tOr_ (u : BF) (p : Bool × Env) : k1_tOr_ u p = if p.1 = true then .ok (true, p.2) else u p.2 := rfl
@[simp] theorem ap_tOr_ (t : BF) (u : BF) (E : Env) : tOr' t u E = (t E).bind (k1_tOr_ u) := rfl
def k1_eIf (fa : EF) (fb : EF) : Bool × Env → Res (W × Env) := fun p => if p.1 = true then fa p.2 else fb p.2
@[simp] theorem ap_k1_eIf (fa : EF) (fb : EF) (p : Bool × Env) : k1_eIf fa fb p = if p.1 = true then fa p.2 else fb p.2 := rfl
@[simp] theorem ap_eIf (t : BF) (fa : EF) (fb : EF) (E : Env) : eIf t fa fb E = (t E).bind (k1_eIf fa fb) := rfl
def k2_eF (n : Nat) (fm : List D → Res D) (p : List W × Env) : List D → Res (W × Env) := fun ds => if ds.length = n then ret (fm ds) p.2 else .stuck
def k1_eF (n : Nat) (fm : List D → Res D) : List W × Env → Res (W × Env) := fun p => (ofO (dats p.1)).bind (k2_eF n fm p)
@[simp] theorem ap_k2_eF (n : Nat) (fm : List D → Res D) (p : List W × Env) (ds : List D) : k2_eF n fm p ds = if ds.length = n then ret (fm ds) p.2 else .stuck := rfl
@[simp] theorem ap_k1_eF (n : Nat) (fm : List D → Res D) (p : List W × Env) : k1_eF n fm p = (ofO (dats p.1)).bind (k2_eF n fm p) := rfl
@[simp] theorem ap_eF (n : Nat) (fm : List D → Res D) (fs : AF) (E : Env) : eF n fm fs E = (fs E).bind (k1_eF n fm) := rfl
def k4_eK (i : Nat) (n : Nat) (fm : Addr → Addr → Dk → List D → Res (D × Dk)) (p : List W × Env) (ds : List D) : Addr × Addr × Dk → Res (W × Env) := fun z => if ds.length = n then retK i z.1 z.2.1 (fm z.1 z.2.1 z.2.2 ds) p.2 else .stuck
def k3_eK (i : Nat) (n : Nat) (fm : Addr → Addr → Dk → List D → Res (D × Dk)) (p : List W × Env) : List D → Res (W × Env) := fun ds => (ofO (deckAt p.2 i)).bind (k4_eK i n fm p ds)
def k2_eK (i : Nat) (n : Nat) (fm : Addr → Addr → Dk → List D → Res (D × Dk)) : List W × Env → Res (W × Env) := fun p => (ofO (dats p.1)).bind (k3_eK i n fm p)
def k1_eK (i : Nat) (n : Nat) (fm : Addr → Addr → Dk → List D → Res (D × Dk)) (fs : AF) (E : Env) : Addr × Addr × Dk → Res (W × Env) := fun _ => (fs E).bind (k2_eK i n fm)
@[simp] theorem ap_k4_eK (i : Nat) (n : Nat) (fm : Addr → Addr → Dk → List D → Res (D × Dk)) (p : List W × Env) (ds : List D) (z : Addr × Addr × Dk) : k4_eK i n fm p ds z = if ds.length = n then retK i z.1 z.2.1 (fm z.1 z.2.1 z.2.2 ds) p.2 else .stuck := rfl
@[simp] theorem ap_k3_eK (i : Nat) (n : Nat) (fm : Addr → Addr → Dk → List D → Res (D × Dk)) (p : List W × Env) (ds : List D) : k3_eK i n fm p ds = (ofO (deckAt p.2 i)).bind (k4_eK i n fm p ds) := rfl
@[simp] theorem ap_k2_eK (i : Nat) (n : Nat) (fm : Addr → Addr → Dk → List D → Res (D × Dk)) (p : List W × Env) : k2_eK i n fm p = (ofO (dats p.1)).bind (k3_eK i n fm p) := rfl
@[simp] theorem ap_k1_eK (i : Nat) (n : Nat) (fm : Addr → Addr → Dk → List D → Res (D × Dk)) (fs : AF) (E : Env) (_z : Addr × Addr × Dk) : k1_eK i n fm fs E _z = (fs E).bind (k2_eK i n fm) := rfl
@[simp] theorem ap_eK (i : Nat) (n : Nat) (fm : Addr → Addr → Dk → List D → Res (D × Dk)) (fs : AF) (E : Env) : eK i n fm fs E = (ofO (deckAt E i)).bind (k1_eK i n fm fs E) := rfl
def k3_iSq (p : W × Env) : List D → Res (List D × Env) := fun ds => .ok (ds, p.2)
def k2_iSq (p : W × Env) : D → Res (List D × Env) := fun d => (ofO (sqD d)).bind (k3_iSq p)
def k1_iSq  : W × Env → Res (List D × Env) := fun p => (ofO (asDat p.1)).bind (k2_iSq p)
@[simp] theorem ap_k3_iSq (p : W × Env) (ds : List D) : k3_iSq p ds = .ok (ds, p.2) := rfl
@[simp] theorem ap_k2_iSq (p : W × Env) (d : D) : k2_iSq p d = (ofO (sqD d)).bind (k3_iSq p) := rfl
@[simp] theorem ap_k1_iSq  (p : W × Env) : k1_iSq p = (ofO (asDat p.1)).bind (k2_iSq p) := rfl
@[simp] theorem ap_iSq (fa : EF) (E : Env) : iSq fa E = (fa E).bind k1_iSq := rfl
def k1_iR1  : List W × Env → Res (List D × Env) := fun p => match p.1 with | [.dat (.int j)] => if j ≤ 16777216 ∧ -(2 ^ 62) ≤ j then .ok (rgD 0 j.toNat, p.2) else .stuck | _ => .stuck
@[simp] theorem ap_k1_iR1  (p : List W × Env) : k1_iR1 p = match p.1 with | [.dat (.int j)] => if j ≤ 16777216 ∧ -(2 ^ 62) ≤ j then .ok (rgD 0 j.toNat, p.2) else .stuck | _ => .stuck := rfl
@[simp] theorem ap_iR1 (fs : AF) (E : Env) : iR1 fs E = (fs E).bind k1_iR1 := rfl
def k1_nComp (vs : List Nat) (h : GF) (fc : BF) (fe : EF) : List D × Env → Res (D × Env) := fun p => if vs.all (fun v => plainC p.2[v]?) = true then compL vs h fc fe p.2 p.1 [] p.2 else .stuck
@[simp] theorem ap_k1_nComp (vs : List Nat) (h : GF) (fc : BF) (fe : EF) (p : List D × Env) : k1_nComp vs h fc fe p = if vs.all (fun v => plainC p.2[v]?) = true then compL vs h fc fe p.2 p.1 [] p.2 else .stuck := rfl
@[simp] theorem ap_nComp (vs : List Nat) (fi : IF) (h : GF) (fc : BF) (fe : EF) (E : Env) : nComp vs fi h fc fe E = (fi E).bind (k1_nComp vs h fc fe) := rfl
def k1_sSeq (s2 : SF) : Fl × Env → Res (Fl × Env) := fun p => match p.1 with | .nx => s2 p.2 | fl => .ok (fl, p.2)
@[simp] theorem ap_k1_sSeq (s2 : SF) (p : Fl × Env) : k1_sSeq s2 p = match p.1 with | .nx => s2 p.2 | fl => .ok (fl, p.2) := rfl
@[simp] theorem ap_sSeq (s1 : SF) (s2 : SF) (E : Env) : sSeq s1 s2 E = (s1 E).bind (k1_sSeq s2) := rfl
def k1_sEx  : W × Env → Res (Fl × Env) := fun p => .ok (.nx, p.2)
@[simp] theorem ap_k1_sEx  (p : W × Env) : k1_sEx p = .ok (.nx, p.2) := rfl
@[simp] theorem ap_sEx (fa : EF) (E : Env) : sEx fa E = (fa E).bind k1_sEx := rfl
def k1_sRet  : W × Env → Res (Fl × Env) := fun p => match p.1 with | .dat d => .ok (.rt d, p.2) | .own i => match p.2[i]? with | some (.own d) => .ok (.rt d, p.2.set i (.dat d)) | _ => .stuck
@[simp] theorem ap_k1_sRet  (p : W × Env) : k1_sRet p = match p.1 with | .dat d => .ok (.rt d, p.2) | .own i => match p.2[i]? with | some (.own d) => .ok (.rt d, p.2.set i (.dat d)) | _ => .stuck := rfl
@[simp] theorem ap_sRet (fa : EF) (E : Env) : sRet fa E = (fa E).bind k1_sRet := rfl
def k1_sIf (s1 : SF) (s2 : SF) : Bool × Env → Res (Fl × Env) := fun p => if p.1 = true then s1 p.2 else s2 p.2
@[simp] theorem ap_k1_sIf (s1 : SF) (s2 : SF) (p : Bool × Env) : k1_sIf s1 s2 p = if p.1 = true then s1 p.2 else s2 p.2 := rfl
@[simp] theorem ap_sIf (t : BF) (s1 : SF) (s2 : SF) (E : Env) : sIf t s1 s2 E = (t E).bind (k1_sIf s1 s2) := rfl
def k1_sSet (i : Nat) : W × Env → Res (Fl × Env) := fun p => match p.1 with | .dat d => .ok (.nx, p.2.set i (.dat d)) | .own _ => .stuck
@[simp] theorem ap_k1_sSet (i : Nat) (p : W × Env) : k1_sSet i p = match p.1 with | .dat d => .ok (.nx, p.2.set i (.dat d)) | .own _ => .stuck := rfl
@[simp] theorem ap_sSet (i : Nat) (fa : EF) (E : Env) : sSet i fa E = (fa E).bind (k1_sSet i) := rfl
def k1_sFor (h : GF) (s1 : SF) : List D × Env → Res (Fl × Env) := fun p => forL h s1 p.1 p.2
@[simp] theorem ap_k1_sFor (h : GF) (s1 : SF) (p : List D × Env) : k1_sFor h s1 p = forL h s1 p.1 p.2 := rfl
@[simp] theorem ap_sFor (fi : IF) (h : GF) (s1 : SF) (E : Env) : sFor fi h s1 E = (fi E).bind (k1_sFor h s1) := rfl
def k1_sPar (is : List Nat) : List (Bool × D) × Env → Res (Fl × Env) := fun p => if p.1.length = is.length ∧ (is.all fun i => decide (i < p.2.length)) = true then .ok (.nx, setE is p.2 p.1) else .stuck
@[simp] theorem ap_k1_sPar (is : List Nat) (p : List (Bool × D) × Env) : k1_sPar is p = if p.1.length = is.length ∧ (is.all fun i => decide (i < p.2.length)) = true then .ok (.nx, setE is p.2 p.1) else .stuck := rfl
@[simp] theorem ap_sPar (is : List Nat) (l : List EN) (E : Env) : sPar is l E = (evN l E).bind (k1_sPar is) := rfl
def k1_nDis  : List (Key × D) × Env → Res (D × Env) := fun p => if p.1.length ≤ 15 then .ok (.dic (mergeM [] p.1), p.2) else .stuck
@[simp] theorem ap_k1_nDis  (p : List (Key × D) × Env) : k1_nDis p = if p.1.length ≤ 15 then .ok (.dic (mergeM [] p.1), p.2) else .stuck := rfl
@[simp] theorem ap_nDis (l : List (Str × EF)) (E : Env) : nDis l E = (disL l E).bind k1_nDis := rfl
@[simp] theorem ap_eC (d : D) (E : Env) : eC d E = .ok (.dat d, E) := rfl
@[simp] theorem ap_aN (E : Env) : aN E = .ok ([], E) := rfl
@[simp] theorem ap_nNil (E : Env) : nNil E = .ok (.lst [], E) := rfl
@[simp] theorem ap_nDK (E : Env) : nDK E = .ok (.dic [], E) := rfl
@[simp] theorem ap_tYes (E : Env) : tYes' E = .ok (true, E) := rfl
@[simp] theorem ap_sNx (E : Env) : sNx E = .ok (.nx, E) := rfl
@[simp] theorem ap_evN0 (E : Env) : evN [] E = .ok ([], E) := rfl
def k2_evNe (d : D) : List (Bool × D) × Env → Res (List (Bool × D) × Env) := fun q => .ok ((false, d) :: q.1, q.2)
@[simp] theorem ap_k2_evNe (d : D) (q : List (Bool × D) × Env) : k2_evNe d q = .ok ((false, d) :: q.1, q.2) := rfl
def k1_evNe (r : List EN) : W × Env → Res (List (Bool × D) × Env) := fun p => (ofO (asDat p.1)).bind fun d => (evN r p.2).bind (k2_evNe d)
@[simp] theorem ap_k1_evNe (r : List EN) (d : D) (E : Env) : k1_evNe r (.dat d, E) = (evN r E).bind (k2_evNe d) := rfl
@[simp] theorem ap_evNe (f : EF) (r : List EN) (E : Env) : evN (.e f :: r) E = (f E).bind (k1_evNe r) := rfl
def k2_evNn (d : D) : List (Bool × D) × Env → Res (List (Bool × D) × Env) := fun q => .ok ((true, d) :: q.1, q.2)
@[simp] theorem ap_k2_evNn (d : D) (q : List (Bool × D) × Env) : k2_evNn d q = .ok ((true, d) :: q.1, q.2) := rfl
def k1_evNn (r : List EN) : D × Env → Res (List (Bool × D) × Env) := fun p => (evN r p.2).bind (k2_evNn p.1)
@[simp] theorem ap_k1_evNn (r : List EN) (p : D × Env) : k1_evNn r p = (evN r p.2).bind (k2_evNn p.1) := rfl
@[simp] theorem ap_evNn (f : NF) (r : List EN) (E : Env) : evN (.n f :: r) E = (f E).bind (k1_evNn r) := rfl
@[simp] theorem ap_disL0 (E : Env) : disL [] E = .ok ([], E) := rfl
def k2_disL (k : Str) (d : D) : List (Key × D) × Env → Res (List (Key × D) × Env) := fun q => .ok ((.inr k, d) :: q.1, q.2)
@[simp] theorem ap_k2_disL (k : Str) (d : D) (q : List (Key × D) × Env) : k2_disL k d q = .ok ((.inr k, d) :: q.1, q.2) := rfl
def k1_disL (k : Str) (r : List (Str × EF)) : W × Env → Res (List (Key × D) × Env) := fun p => (ofO (asDat p.1)).bind fun d => (disL r p.2).bind (k2_disL k d)
@[simp] theorem ap_k1_disL (k : Str) (r : List (Str × EF)) (d : D) (E : Env) : k1_disL k r (.dat d, E) = (disL r E).bind (k2_disL k d) := rfl
@[simp] theorem ap_disL (k : Str) (f : EF) (r : List (Str × EF)) (E : Env) : disL ((k, f) :: r) E = (f E).bind (k1_disL k r) := rfl
@[simp] theorem setE_own (i : Nat) (is : List Nat) (E : Env) (d : D) (ds : List (Bool × D)) : setE (i :: is) E ((true, d) :: ds) = setE is (E.set i (.own d)) ds := rfl
@[simp] theorem setE_dat (i : Nat) (is : List Nat) (E : Env) (d : D) (ds : List (Bool × D)) : setE (i :: is) E ((false, d) :: ds) = setE is (E.set i (.dat d)) ds := rfl
@[simp] theorem setE_nil (E : Env) (ds : List (Bool × D)) : setE [] E ds = E := rfl
@[simp] theorem kit_ss : kitB "str" "str" = some true := by decide +kernel
@[simp] theorem kit_tt : kitB "tuple" "tuple" = some true := by decide +kernel
@[simp] theorem ret_ok {d : D} {E : Env} : ret (.ok d) E = .ok (.dat d, E) := rfl
@[simp] theorem retK_ok {i : Nat} {a q : Addr} {d : D} {l : List Int} {b : Int} {E : Env} : retK i a q (.ok (d, ⟨l, b⟩)) E = .ok (.dat d, E.set i (.deck a q l b)) := rfl
@[simp] theorem noErr_ok {α : Type} (a : α) : noErr (.ok a) = .ok a := rfl
@[simp] theorem asB_bl (b : Bool) : asB (.bl b) = some b := rfl
@[simp] theorem asDat_dat (d : D) : asDat (.dat d) = some d := rfl
@[simp] theorem outF_rt (d : D) (E : Env) : outF (.ok (.rt d, E)) = .ok d := rfl
@[simp] theorem outF_nx (E : Env) : outF (.ok (.nx, E)) = .ok .non := rfl
@[simp] theorem dats_nil : dats [] = some [] := rfl
@[simp] theorem dats_cons (d : D) (ws : List W) : dats (.dat d :: ws) = (dats ws).map (d :: ·) := rfl
@[simp] theorem rds_nil (E : Env) : rds E [] = .ok [] := rfl
@[simp] theorem rds_dat (E : Env) (d : D) (ws : List W) : rds E (.dat d :: ws) = (rds E ws).bind fun ds => .ok (d :: ds) := rfl
@[simp] theorem sqD_str (x : Str) : sqD (.str x) = some (signs x) := rfl
@[simp] theorem sqD_lst (x : List D) : sqD (.lst x) = some x := rfl
@[simp] theorem sqD_tup (x : List D) : sqD (.tup x) = some x := rfl
@[simp] theorem bind_ite {α β : Type} {c : Prop} [Decidable c] {x y : Res α} {f : α → Res β} : (if c then x else y).bind f = if c then x.bind f else y.bind f := by
  split <;> rfl
end DL
namespace DL
open PySem PySem.Spec PyProof.Rows L2 TL
theorem compL_map {α : Type} {vs : List Nat} {g : GF} {fc : BF} {fe : EF} {E0 E : Env} (f : α → D) (E1 : α → Env) (p : α → Bool) (y : α → D) (l : List α) (h : ∀ a ∈ l, g (f a) (wipeE E vs) = some (E1 a) ∧ fc (E1 a) = .ok (p a, E1 a) ∧ (p a = true → fe (E1 a) = .ok (.dat (y a), E1 a)) ∧ backE E0 (E1 a) vs = E) (acc : List D) :
    compL vs g fc fe E0 (l.map f) acc E = .ok (.lst (acc ++ (l.filter p).map y), E) := by
  induction l generalizing acc with
  | nil => simp [compL]
  | cons d ds ih =>
    obtain ⟨h1, h2, h3, h4⟩ := h d List.mem_cons_self
    have ih := ih fun d hd => h d (List.mem_cons_of_mem _ hd)
    rw [List.map_cons, compL, h1]
    cases hp : p d with
    | false =>
      simp only [ofO_some, Res.ok_bind, h2, hp, noErr, if_neg Bool.false_ne_true, h4, ih, List.filter_cons]
    | true =>
      simp only [ofO_some, Res.ok_bind, h2, hp, noErr, if_pos, h3 hp, asDat, h4, ih, List.filter_cons, List.map_cons, List.append_assoc, List.singleton_append]
theorem zip_two {α β : Type} (f : α → D) (g : β → D) (a : List α) (b : List β) : (List.zip (a.map f) (b.map g)).map (fun p => D.tup [p.1, p.2]) = (List.zip a b).map fun p => .tup [f p.1, g p.2] := by
  rw [List.zip_map, List.map_map]; rfl
theorem eqv_int (i j : Int) : PyData.eqv (.int i) (.int j) = decide (i = j) := by
  show (i == j) = _
  by_cases h : i = j
  · subst h; simp
  · rw [decide_eq_false h]; exact beq_eq_false_iff_ne.mpr h
@[simp] theorem gNe_int (i j : Int) : gNe (.int i) (.int j) = some (.bl (!decide (i = j))) := by
  show some (D.bl (!PyData.eqv (.int i) (.int j))) = _
  rw [eqv_int]
@[simp] theorem gEq_int (i j : Int) : gEq (.int i) (.int j) = some (.bl (decide (i = j))) := by
  show some (D.bl (PyData.eqv (.int i) (.int j))) = _
  rw [eqv_int]
theorem gNe_str (x y : Str) : gNe (.str x) (.str y) = some (.bl (!decide (x = y))) := by
  show some (D.bl (!PyData.eqv (.str x) (.str y))) = _
  rw [eqv_str]
@[simp] theorem gIx_2_0 (a b : D) : gIx (.tup [a, b]) (.int 0) = some a := rfl
@[simp] theorem gIx_2_1 (a b : D) : gIx (.tup [a, b]) (.int 1) = some b := rfl
@[simp] theorem gLen_tup (l : List D) : gLen [.tup l] = some (.int l.length) := rfl
@[simp] theorem gLen_lst (l : List D) : gLen [.lst l] = some (.int l.length) := rfl
@[simp] theorem gLen_str (l : List Nat) : gLen [.str (T l)] = some (.int l.length) := rfl
end DL
namespace DL
open PySem PySem.Spec PyProof.Rows L2 TL

theorem dataLt_sgn (a b : Nat) : PySem.W.dataLt (dC a).py (dC b).py = decide (a < b) := by
  show PySem.W.dataLt (.str (sgn a)) (.str (sgn b)) = _
  rw [PySem.W.dataLt_str]
  show decide ([a] < [b]) = _
  by_cases hab : a < b
  · rw [decide_eq_true hab, decide_eq_true (by exact List.Lex.rel hab)]
  · rw [decide_eq_false hab, decide_eq_false]
    intro z
    cases z with
    | rel q => exact hab q
    | cons q => cases q
end DL
namespace DL
open PySem PySem.Spec PyProof.Rows L2 TL

def Ok {α : Type} (r : Res α) (Q : α → Prop) : Prop := ∃ a, r = .ok a ∧ Q a
section
variable {α β : Type} {r : Res α} {a : α} {f : α → Res β} {P Q : α → Prop} {R : β → Prop}
theorem Ok.ok (h : Q a) : Ok (.ok a) Q := ⟨a, rfl, h⟩
theorem Ok.of (e : r = .ok a) (h : Q a) : Ok r Q := ⟨a, e, h⟩
theorem Ok.bind (h : Ok r fun a => Ok (f a) R) : Ok (r.bind f) R := by
  obtain ⟨a, e, b, e2, q⟩ := h
  exact ⟨b, by rw [e]; exact e2, q⟩
theorem Ok.bindE (e : r = .ok a) (h : Ok (f a) R) : Ok (r.bind f) R := by
  rw [e]; exact h
theorem Ok.mono (h : Ok r P) (i : ∀ a, P a → Q a) : Ok r Q := by
  obtain ⟨a, e, p⟩ := h
  exact ⟨a, e, i a p⟩
/-- with what is wanted behind a name -/
theorem Ok.cps (h : ∀ P : α → Prop, (∀ a, Q a → P a) → Ok r P) : Ok r Q := h Q fun _ h => h
@[simp] theorem Ok_ok : Ok (.ok a) Q ↔ Q a := ⟨fun ⟨b, e, q⟩ => by cases e; exact q, Ok.ok⟩
end
section
variable {α : Type} {E E' E1 : Env} {t : BF} {s1 s2 body : SF} {fi : IF} {g : GF} {Q : Fl × Env → Prop} {b : Bool}
theorem seq_eq (h1 : s1 E = .ok (.nx, E')) (h2 : Ok (s2 E') Q) : Ok (sSeq s1 s2 E) Q := by
  rw [ap_sSeq, h1]; exact h2
theorem seq_ok (h1 : Ok (s1 E) fun p => p.1 = .nx ∧ Ok (s2 p.2) Q) : Ok (sSeq s1 s2 E) Q := by
  obtain ⟨⟨f, E'⟩, e, rfl, h⟩ := h1
  rw [ap_sSeq, e]; exact h
/-- a loop over a list by what holds ahead of each item -/
theorem forL_ok (f : α → D) (Iv : List α → Env → Prop) (l : List α) (h0 : Iv l E)
    (step : ∀ a r E, Iv (a :: r) E → ∃ E1, g (f a) E = some E1 ∧ Ok (body E1) fun p => (p.1 = .nx ∨ p.1 = .ct) ∧ Iv r p.2)
    (fin : ∀ E, Iv [] E → Q (.nx, E)) : Ok (forL g body (l.map f) E) Q := by
  induction l generalizing E with
  | nil => exact Ok.ok (fin E h0)
  | cons a r ih =>
    obtain ⟨E1, e1, ⟨fl, E2⟩, e2, h, i⟩ := step a r E h0
    rw [List.map_cons, forL, e1]
    show Ok ((body E1).bind _) Q
    rw [e2]
    rcases h with h | h <;> (dsimp only at h; subst h; exact ih i)
/-- .. by what holds throughout -/
theorem forL_all (f : α → D) (I : Env → Prop) (l : List α) (h0 : I E)
    (step : ∀ a ∈ l, ∀ E, I E → ∃ E1, g (f a) E = some E1 ∧ Ok (body E1) fun p => (p.1 = .nx ∨ p.1 = .ct) ∧ I p.2)
    (fin : ∀ E, I E → Q (.nx, E)) : Ok (forL g body (l.map f) E) Q :=
  forL_ok f (fun r E => (∀ a ∈ r, a ∈ l) ∧ I E) l ⟨fun _ h => h, h0⟩ (fun a r E h => by
    obtain ⟨E1, e1, o⟩ := step a (h.1 a List.mem_cons_self) E h.2
    exact ⟨E1, e1, o.mono fun p h2 => ⟨h2.1, fun x hx => h.1 x (List.mem_cons_of_mem _ hx), h2.2⟩⟩) fun E h => fin E h.2
end
section
variable {α : Type} {E E' E1 : Env} {t : BF} {s1 s2 body : SF} {fi : IF} {g : GF} {Q : Fl × Env → Prop} {b : Bool}
theorem for_all (f : α → D) (I : Env → Prop) (l : List α) (e : fi E = .ok (l.map f, E')) (h0 : I E')
    (step : ∀ a ∈ l, ∀ E, I E → ∃ E1, g (f a) E = some E1 ∧ Ok (body E1) fun p => (p.1 = .nx ∨ p.1 = .ct) ∧ I p.2)
    (fin : ∀ E, I E → Q (.nx, E)) : Ok (sFor fi g body E) Q := by
  rw [ap_sFor, e]; exact forL_all f I l h0 step fin
theorem seq_all (f : α → D) (I : Env → Prop) (l : List α) (e : fi E = .ok (l.map f, E')) (h0 : I E')
    (step : ∀ a ∈ l, ∀ E, I E → ∃ E1, g (f a) E = some E1 ∧ Ok (body E1) fun p => (p.1 = .nx ∨ p.1 = .ct) ∧ I p.2)
    (fin : ∀ E, I E → Ok (s2 E) Q) : Ok (sSeq (sFor fi g body) s2 E) Q :=
  seq_ok (for_all f I l e h0 step fun E h => ⟨rfl, fin E h⟩)
end
/-- a loop that may return -/
def foldE {σ α : Type} (st : σ → α → D ⊕ σ) : σ → List α → D ⊕ σ
  | s, [] => .inr s
  | s, a :: r => match st s a with
    | .inl d => .inl d
    | .inr s' => foldE st s' r
section
variable {α σ : Type} {E E' E1 : Env} {s1 s2 body : SF} {fi : IF} {g : GF} {Q : Fl × Env → Prop}
end
section
variable {α : Type} {vs : List Nat} {g : GF} {fc : BF} {fe : EF} {E0 E : Env} {Q : D × Env → Prop}
end
theorem runK_eq {fb : SF} {n : Nat} {a q : Addr} {l l' : List Int} {b b' : Int} {ds : List D} {d : D} {E : Env} (h : fb (.deck a q l b :: ds.map .dat ++ nos n) = .ok (.rt d, .deck a q l' b' :: E)) : runK fb n a q ⟨l, b⟩ ds = .ok (d, ⟨l', b'⟩) := by
  unfold runK
  rw [h]
  show outD a q d (.deck a q l' b' :: E) = _
  unfold outD deckOf
  simp
theorem runP_ok {fb : SF} {n : Nat} {ds : List D} {d : D} (h : Ok (fb (ds.map .dat ++ nos n)) fun p => p.1 = .rt d) : noErr (runP fb n ds) = .ok d := by
  obtain ⟨⟨f, E⟩, e, h⟩ := h
  dsimp only at h
  subst h
  unfold runP
  rw [e]; rfl
end DL
namespace DL
open PySem PySem.Spec PyProof.Rows L2 TL

/-- plain, of this depth, equal just if the same -/
structure Enc {α : Type} [DecidableEq α] (f : α → D) (n : Nat) : Prop where
  plain : ∀ a, (f a).plain = true
  eq : ∀ a b, PyData.eqv (f a).py (f b).py = decide (a = b)
  dep : ∀ a, (f a).py.depth ≤ n
section
variable {α β : Type} [DecidableEq α] [DecidableEq β] {f : α → D} {g : β → D} {n m : Nat}
theorem Enc.str : Enc D.str 0 := ⟨fun _ => rfl, eqv_str, fun _ => Nat.le_refl _⟩
theorem Enc.int : Enc D.int 0 := ⟨fun _ => rfl, eqv_int, fun _ => Nat.le_refl _⟩
theorem Enc.dS : Enc dS 0 := ⟨fun _ => rfl, fun a b => by
  show PyData.eqv (.str (T a)) (.str (T b)) = _
  rw [eqv_str]
  exact decide_eq_decide.mpr T_inj, fun _ => Nat.le_refl _⟩
theorem Enc.dC : Enc dC 0 := ⟨fun _ => rfl, fun a b => by
  show PyData.eqv (.str (T [a])) (.str (T [b])) = _
  rw [eqv_str]
  refine decide_eq_decide.mpr (T_inj.trans ?_)
  simp, fun _ => Nat.le_refl _⟩
theorem Enc.of {γ : Type} [DecidableEq γ] (e : Enc f n) (h : γ → α) (inj : ∀ a b, h a = h b → a = b) : Enc (fun c => f (h c)) n := ⟨fun _ => e.plain _, fun a b => by
  rw [e.eq]
  exact decide_eq_decide.mpr ⟨inj a b, congrArg h⟩, fun _ => e.dep _⟩
theorem Enc.plainL (e : Enc f n) : ∀ l : List α, plainL (l.map f) = true
  | [] => rfl
  | a :: l => by
    show ((f a).plain && DL.plainL (l.map f)) = true
    rw [e.plain, e.plainL l]; rfl
theorem Enc.eqvAll (e : Enc f n) : ∀ a b : List α, PyData.eqvAll (pyL (a.map f)) (pyL (b.map f)) = decide (a = b)
  | [], [] => rfl
  | x :: a, [] => rfl
  | [], y :: b => rfl
  | x :: a, y :: b => by
    show (PyData.eqv (f x).py (f y).py && PyData.eqvAll (pyL (a.map f)) (pyL (b.map f))) = _
    rw [e.eq, e.eqvAll a b, ← Bool.decide_and]
    exact decide_eq_decide.mpr (by simp)
theorem Enc.depL (e : Enc f n) : ∀ l : List α, PyData.depthAll (pyL (l.map f)) ≤ n
  | [] => Nat.zero_le _
  | a :: l => Nat.max_le.mpr ⟨e.dep a, e.depL l⟩
theorem Enc.lst (e : Enc f n) : Enc (fun l : List α => D.lst (l.map f)) (n + 1) := ⟨fun l => e.plainL l, fun a b => e.eqvAll a b, fun l => Nat.succ_le_succ (e.depL l)⟩
theorem Enc.tup (e : Enc f n) : Enc (fun l : List α => D.tup (l.map f)) (n + 1) := ⟨fun l => e.plainL l, fun a b => e.eqvAll a b, fun l => Nat.succ_le_succ (e.depL l)⟩
theorem Enc.gEq (e : Enc f n) (a b : α) (hn : n ≤ 60 := by decide) : gEq (f a) (f b) = some (.bl (decide (a = b))) := by
  unfold DL.gEq okCmp
  rw [e.plain, e.plain, e.eq, if_pos]
  rw [Bool.and_self, Bool.true_and, decide_eq_true_eq]
  have h := e.dep a
  omega
theorem Enc.gNe (e : Enc f n) (a b : α) (hn : n ≤ 60 := by decide) : gNe (f a) (f b) = some (.bl (!decide (a = b))) := by
  unfold DL.gNe okCmp
  rw [e.plain, e.plain, e.eq, if_pos]
  rw [Bool.and_self, Bool.true_and, decide_eq_true_eq]
  have h := e.dep a
  omega
theorem Enc.any (e : Enc f n) (a : α) : ∀ l : List α, ((pyL (l.map f)).any fun y => PyData.eqv y (f a).py) = decide (a ∈ l)
  | [] => rfl
  | x :: l => by
    show (PyData.eqv (f x).py (f a).py || (pyL (l.map f)).any fun y => PyData.eqv y (f a).py) = _
    rw [e.eq, e.any a l, ← Bool.decide_or]
    refine decide_eq_decide.mpr ?_
    rw [List.mem_cons, eq_comm]
theorem gInQ_lst (neg : Bool) (ds : List D) : ∀ d : D, gInQ neg d (.lst ds) = if (d.plain && DL.plainL ds && decide (min (PyData.depthAll (pyL ds)) d.py.depth ≤ 60)) = true then some (.bl (if neg then !((pyL ds).any fun y => PyData.eqv y d.py) else (pyL ds).any fun y => PyData.eqv y d.py)) else none
  | .non => rfl | .bl _ => rfl | .int _ => rfl | .str _ => rfl | .lst _ => rfl | .tup _ => rfl | .dic _ => rfl | .dit _ => rfl | .dix _ _ => rfl | .exn _ _ => rfl | .obj _ _ => rfl
theorem gInQ_tup (neg : Bool) (ds : List D) : ∀ d : D, gInQ neg d (.tup ds) = if (d.plain && DL.plainL ds && decide (min (PyData.depthAll (pyL ds)) d.py.depth ≤ 60)) = true then some (.bl (if neg then !((pyL ds).any fun y => PyData.eqv y d.py) else (pyL ds).any fun y => PyData.eqv y d.py)) else none
  | .non => rfl | .bl _ => rfl | .int _ => rfl | .str _ => rfl | .lst _ => rfl | .tup _ => rfl | .dic _ => rfl | .dit _ => rfl | .dix _ _ => rfl | .exn _ _ => rfl | .obj _ _ => rfl
theorem Enc.gIn_lst (e : Enc f n) (neg : Bool) (a : α) (l : List α) (hn : n ≤ 60 := by decide) : gInQ neg (f a) (.lst (l.map f)) = some (.bl (if neg then !decide (a ∈ l) else decide (a ∈ l))) := by
  rw [gInQ_lst, e.plain, e.plainL, e.any, if_pos]
  rw [Bool.and_self, Bool.true_and, decide_eq_true_eq]
  have h := e.dep a
  omega
theorem Enc.gIn_tup (e : Enc f n) (neg : Bool) (a : α) (l : List α) (hn : n ≤ 60 := by decide) : gInQ neg (f a) (.tup (l.map f)) = some (.bl (if neg then !decide (a ∈ l) else decide (a ∈ l))) := by
  rw [gInQ_tup, e.plain, e.plainL, e.any, if_pos]
  rw [Bool.and_self, Bool.true_and, decide_eq_true_eq]
  have h := e.dep a
  omega
/-- a list against the empty one -/
theorem gEq_nil {l : List D} (h : DL.plainL l = true) : DL.gEq (.lst l) (.lst []) = some (.bl l.isEmpty) := by
  unfold DL.gEq okCmp
  rw [if_pos]
  · cases l <;> rfl
  · have : min (D.lst l).py.depth (D.lst []).py.depth ≤ 60 := Nat.le_trans (Nat.min_le_right _ _) (by decide)
    rw [decide_eq_true this]
    show (DL.plainL l && true && true) = true
    rw [h]; rfl
theorem gNe_nil {l : List D} (h : DL.plainL l = true) : DL.gNe (.lst l) (.lst []) = some (.bl (!l.isEmpty)) := by
  unfold DL.gNe okCmp
  rw [if_pos]
  · cases l <;> rfl
  · have : min (D.lst l).py.depth (D.lst []).py.depth ≤ 60 := Nat.le_trans (Nat.min_le_right _ _) (by decide)
    rw [decide_eq_true this]
    show (DL.plainL l && true && true) = true
    rw [h]; rfl
end
theorem atI_nat {α : Type} (xs : List α) (i : Nat) : atI xs (i : Int) = xs[i]? := by
  unfold atI ixN
  rw [if_pos (Int.natCast_nonneg i)]
  by_cases h : i < xs.length
  · rw [if_pos (by omega)]; rfl
  · rw [if_neg (by omega), List.getElem?_eq_none (by omega)]; rfl
theorem gIx_tup_nat (l : List D) (i : Nat) : gIx (.tup l) (.int i) = l[i]? := atI_nat l i
theorem gIx_lst_nat (l : List D) (i : Nat) : gIx (.lst l) (.int i) = l[i]? := atI_nat l i
theorem gIx_str_nat (l : List Nat) (i : Nat) : gIx (dS l) (.int i) = (l[i]?).map dC := by
  show ((atI l i).map fun c => D.str (sgn c)) = _
  rw [atI_nat]; rfl
structure Shw (d : D) (n m : Nat) : Prop where
  plain : d.plain = true
  short : d.py.leavesShort 700 = true
  show_ : d.py.showable = true
  bulk : d.py.bulk ≤ n
  dep : d.py.depth ≤ m
structure Shws (d : List D) (n m : Nat) : Prop where
  plain : plainL d = true
  short : PyData.leavesShortAll 700 (pyL d) = true
  show_ : PyData.showableAll (pyL d) = true
  bulk : PyData.bulkAll (pyL d) ≤ n
  dep : PyData.depthAll (pyL d) ≤ m
theorem Shw.str {l : List Nat} {n : Nat} (h : ∀ c ∈ l, c < 1114112) (hn : l.length ≤ n) : Shw (dS l) n 0 := ⟨rfl, by
  show (l.all fun c => decide (c < 16 ^ 8)) = true
  rw [List.all_eq_true]
  intro c hc
  have := h c hc
  exact decide_eq_true (by omega), rfl, hn, Nat.le_refl _⟩
theorem Shw.bl (b : Bool) : Shw (.bl b) 0 0 := ⟨rfl, rfl, rfl, Nat.le_refl _, Nat.le_refl _⟩
theorem Shw.non : Shw .non 0 0 := ⟨rfl, rfl, rfl, Nat.le_refl _, Nat.le_refl _⟩
/-- an int of at most 100 digits -/
def I100 (i : Int) : Prop := i.natAbs < 10 ^ 100
theorem Shw.int {i : Int} (h : I100 i) : Shw (.int i) 0 0 := ⟨rfl, by
    have e := int_text_length_le10 (k := 100) (by decide) h
    show decide ((Str.ofString (toString i)).length ≤ 700) = true
    rw [PySem.ofString_length]
    exact decide_eq_true (by omega), by
    show decide (i.natAbs.log2 < 1920) = true
    refine decide_eq_true ?_
    by_cases hz : i.natAbs = 0
    · rw [hz]; decide
    · rw [Nat.log2_lt hz]
      have : (10 : Nat) ^ 100 < 2 ^ 1920 := by decide +kernel
      exact Nat.lt_trans h this, Nat.le_refl _, Nat.le_refl _⟩
theorem Shws.nil : Shws [] 0 0 := ⟨rfl, rfl, rfl, Nat.le_refl _, Nat.le_refl _⟩
theorem Shws.cons {d : D} {ds : List D} {n m n' m' : Nat} (h : Shw d n m) (h' : Shws ds n' m') : Shws (d :: ds) (n + 1 + n') (max m m') := ⟨by
    show (d.plain && plainL ds) = true
    rw [h.plain, h'.plain]; rfl, by
    show (PyData.leavesShort 700 d.py && PyData.leavesShortAll 700 (pyL ds)) = true
    rw [h.short, h'.short]; rfl, by
    show (PyData.showable d.py && PyData.showableAll (pyL ds)) = true
    rw [h.show_, h'.show_]; rfl, by
    show d.py.bulk + 1 + PyData.bulkAll (pyL ds) ≤ _
    have := h.bulk
    have := h'.bulk
    omega, by
    show max d.py.depth (PyData.depthAll (pyL ds)) ≤ _
    have := h.dep
    have := h'.dep
    omega⟩
theorem Shws.map {α : Type} {f : α → D} {n m : Nat} : ∀ {l : List α}, (∀ a ∈ l, Shw (f a) n m) → Shws (l.map f) (l.length * (n + 1)) m
  | [], _ => ⟨rfl, rfl, rfl, Nat.zero_le _, Nat.zero_le _⟩
  | a :: l, h => by
    have h1 := Shws.cons (h a List.mem_cons_self) (Shws.map (l := l) fun b hb => h b (List.mem_cons_of_mem _ hb))
    refine ⟨h1.plain, h1.short, h1.show_, Nat.le_trans h1.bulk ?_, Nat.le_trans h1.dep (by omega)⟩
    rw [List.length_cons, Nat.succ_mul]
    omega
theorem Shws.lst {ds : List D} {n m : Nat} (h : Shws ds n m) : Shw (.lst ds) n (m + 1) := ⟨h.plain, h.short, h.show_, h.bulk, Nat.succ_le_succ h.dep⟩
theorem Shws.tup {ds : List D} {n m : Nat} (h : Shws ds n m) : Shw (.tup ds) n (m + 1) := ⟨h.plain, h.short, h.show_, h.bulk, Nat.succ_le_succ h.dep⟩
theorem Shw.le {d : D} {n m n' m' : Nat} (h : Shw d n m) (hn : n ≤ n') (hm : m ≤ m') : Shw d n' m' := ⟨h.plain, h.short, h.show_, Nat.le_trans h.bulk hn, Nat.le_trans h.dep hm⟩
mutual
theorem eqv_refl : ∀ d : D, d.plain = true → PyData.eqv d.py d.py = true
  | .non, _ => rfl
  | .bl b, _ => by show (b == b) = true; exact beq_self_eq_true b
  | .int i, _ => by show (i == i) = true; exact beq_self_eq_true i
  | .str x, _ => by rw [D.py, eqv_str]; simp
  | .lst l, h => eqvAll_refl l h
  | .tup l, h => eqvAll_refl l h
  | .dic _, h => by cases h
  | .dit _, h => by cases h
  | .dix _ _, h => by cases h
  | .exn _ _, h => by cases h
  | .obj _ _, h => by cases h
theorem eqvAll_refl : ∀ l : List D, plainL l = true → PyData.eqvAll (pyL l) (pyL l) = true
  | [], _ => rfl
  | d :: l, h => by
    have h : (d.plain && plainL l) = true := h
    rw [Bool.and_eq_true] at h
    show (PyData.eqv d.py d.py && PyData.eqvAll (pyL l) (pyL l)) = true
    rw [eqv_refl d h.1, eqvAll_refl l h.2]; rfl
end
theorem Shw.gEq {d : D} {n m : Nat} (h : Shw d n m) (hm : m ≤ 60) : gEq d d = some (.bl true) := by
  have := h.dep
  unfold DL.gEq okCmp
  rw [h.plain, eqv_refl d h.plain, if_pos]
  rw [Bool.and_self, Bool.true_and, decide_eq_true_eq]; omega
theorem Shw.gNe {d : D} {n m : Nat} (h : Shw d n m) (hm : m ≤ 60) : gNe d d = some (.bl false) := by
  have := h.dep
  unfold DL.gNe okCmp
  rw [h.plain, eqv_refl d h.plain, if_pos]
  · rfl
  rw [Bool.and_self, Bool.true_and, decide_eq_true_eq]; omega
theorem gNe_same (x : Str) : gNe (.str x) (.str x) = some (.bl false) := by
  rw [gNe_str, decide_eq_true rfl]; rfl
theorem dats_app : ∀ (l : List D) (ws : List W), dats (l.map W.dat ++ ws) = (dats ws).map (l ++ ·)
  | [], ws => by simp
  | d :: l, ws => by
    show (dats (l.map W.dat ++ ws)).map (d :: ·) = _
    rw [dats_app l ws]
    cases dats ws <;> rfl
theorem small_ok {l : List D} {r : Option D} (h : l.length ≤ 1000) : small l r = r := if_pos h
end DL
namespace DL
open PySem PySem.Spec PyProof.Rows L2 TL
structure Ordr {α : Type} (lt : α → α → Bool) : Prop where
  irr : ∀ a, lt a a = false
  tr : ∀ a b c, lt a b = true → lt b c = true → lt a c = true
  tri : ∀ a b, lt a b = true ∨ a = b ∨ lt b a = true
section
variable {α β : Type} {lt : α → α → Bool} {lt2 : β → β → Bool}
theorem Ordr.asym (o : Ordr lt) {a b : α} (h : lt a b = true) : lt b a = false := by
  cases e : lt b a with
  | false => rfl
  | true => have := o.tr a b a h e; rw [o.irr] at this; cases this
theorem Ordr.ne (o : Ordr lt) {a b : α} (h : lt a b = true) : a ≠ b := fun e => by rw [e, o.irr] at h; cases h
def leB (lt : α → α → Bool) (a b : α) : Bool := !lt b a
theorem Ordr.letr (o : Ordr lt) (a b c : α) (h1 : leB lt a b = true) (h2 : leB lt b c = true) : leB lt a c = true := by
  unfold leB at *
  rw [Bool.not_eq_true'] at *
  cases e : lt c a with
  | false => rfl
  | true =>
    rcases o.tri b c with q | q | q
    · rw [o.tr b c a q e] at h1; cases h1
    · rw [q, e] at h1; cases h1
    · rw [q] at h2; cases h2
theorem Ordr.letot (o : Ordr lt) (a b : α) : (leB lt a b || leB lt b a) = true := by
  unfold leB
  cases e : lt b a with
  | false => rfl
  | true => rw [o.asym e]; rfl
def sortB (lt : α → α → Bool) (l : List α) : List α := l.mergeSort (leB lt)
theorem sortB_perm (l : List α) : (sortB lt l).Perm l := List.mergeSort_perm ..
theorem Ordr.sorted (o : Ordr lt) (l : List α) : (sortB lt l).Pairwise fun a b => leB lt a b = true := List.pairwise_mergeSort o.letr o.letot l
theorem Ordr.asc (o : Ordr lt) {l : List α} (h : l.Nodup) : (sortB lt l).Pairwise fun a b => lt a b = true := by
  have h2 : (sortB lt l).Nodup := (sortB_perm l).nodup_iff.mpr h
  exact ((o.sorted l).and h2).imp fun {x y} ⟨a, b⟩ => by
    unfold leB at a
    rw [Bool.not_eq_true'] at a
    rcases o.tri x y with q | q | q
    · exact q
    · exact absurd q b
    · rw [q] at a; cases a
theorem Ordr.nodup (o : Ordr lt) {l : List α} (h : l.Pairwise fun a b => lt a b = true) : l.Nodup := h.imp fun q => o.ne q
/-- ascending lists with the same members are the same -/
theorem Ordr.ext (o : Ordr lt) : ∀ {a b : List α}, (a.Pairwise fun a b => lt a b = true) → (b.Pairwise fun a b => lt a b = true) → (∀ x, x ∈ a ↔ x ∈ b) → a = b
  | [], [], _, _, _ => rfl
  | [], y :: b, _, _, h => absurd ((h y).mpr List.mem_cons_self) (by simp)
  | x :: a, [], _, _, h => absurd ((h x).mp List.mem_cons_self) (by simp)
  | x :: a, y :: b, ha, hb, h => by
    rw [List.pairwise_cons] at ha hb
    have e : x = y := by
      rcases List.mem_cons.mp ((h x).mp List.mem_cons_self) with q | q
      · exact q
      · rcases List.mem_cons.mp ((h y).mpr List.mem_cons_self) with q2 | q2
        · exact q2.symm
        · have h1 := ha.1 y q2
          have h2 := hb.1 x q
          rw [o.asym h1] at h2; cases h2
    subst e
    rw [o.ext ha.2 hb.2 fun z => ?_]
    constructor
    · intro hz
      rcases List.mem_cons.mp ((h z).mp (List.mem_cons_of_mem _ hz)) with q | q
      · exact absurd q.symm (o.ne (ha.1 z hz))
      · exact q
    · intro hz
      rcases List.mem_cons.mp ((h z).mpr (List.mem_cons_of_mem _ hz)) with q | q
      · exact absurd q.symm (o.ne (hb.1 z hz))
      · exact q
def ltN (a b : Nat) : Bool := decide (a < b)
theorem ordN : Ordr ltN := ⟨fun a => by simp [ltN], fun a b c => by simp only [ltN, decide_eq_true_eq]; omega, fun a b => by simp only [ltN, decide_eq_true_eq]; omega⟩
def ltI (a b : Int) : Bool := decide (a < b)
def lexB [DecidableEq α] (lt : α → α → Bool) (lt2 : β → β → Bool) (p q : α × β) : Bool := if p.1 = q.1 then lt2 p.2 q.2 else lt p.1 q.1
/-- lists, item by item -/
def lexL (lt : α → α → Bool) : List α → List α → Bool
  | _, [] => false
  | [], _ :: _ => true
  | a :: r, b :: s => lt a b || (!lt b a && lexL lt r s)
theorem lexN : ∀ a b : List Nat, decide (a < b) = lexL ltN a b
  | _, [] => by simp [lexL]
  | [], _ :: _ => by simp [lexL]
  | a :: r, b :: s => by
    rw [lexL, ← lexN r s]
    unfold ltN
    rw [Bool.eq_iff_iff]
    simp only [decide_eq_true_eq, Bool.or_eq_true, Bool.and_eq_true, Bool.not_eq_true', decide_eq_false_iff_not, List.cons_lt_cons_iff]
    constructor
    · rintro (h | ⟨h, h2⟩)
      · exact .inl h
      · exact .inr ⟨by omega, h2⟩
    · rintro (h | ⟨h, h2⟩)
      · exact .inl h
      · by_cases z : a < b
        · exact .inl z
        · exact .inr ⟨by omega, h2⟩
end
end DL
namespace DL
open PySem PySem.Spec PyProof.Rows L2 TL
structure EncO {α : Type} (f : α → D) (lt : α → α → Bool) : Prop where
  alike : ∀ a b, PySem.W.alike (f a).py (f b).py = true
  lt : ∀ a b, PySem.W.dataLt (f a).py (f b).py = lt a b
  some : ∀ a, notN (f a).py = true
section
variable {α β : Type} [DecidableEq α] [DecidableEq β] {f : α → D} {g : β → D} {n m : Nat} {lt : α → α → Bool} {lt2 : β → β → Bool}
theorem EncO.dS : EncO dS (lexL ltN) := ⟨fun _ _ => rfl, fun a b => by
  show PySem.W.dataLt (.str (T a)) (.str (T b)) = _
  rw [PySem.W.dataLt_str, ← lexN]; rfl, fun _ => rfl⟩
theorem EncO.dC : EncO dC ltN := ⟨fun _ _ => rfl, fun a b => dataLt_sgn a b, fun _ => rfl⟩
theorem EncO.int : EncO D.int ltI := ⟨fun _ _ => rfl, fun a b => by
  show PySem.W.dataLt (.int a) (.int b) = _
  rw [PySem.W.dataLt_int]; rfl, fun _ => rfl⟩
theorem alike_map (o : EncO f lt) : ∀ a b : List α, PySem.W.alikeAll (pyL (a.map f)) (pyL (b.map f)) = true
  | [], _ => by simp [pyL, PySem.W.alikeAll]
  | _ :: _, [] => by simp [pyL, PySem.W.alikeAll]
  | x :: a, y :: b => by
    show PySem.W.alikeAll ((f x).py :: pyL (a.map f)) ((f y).py :: pyL (b.map f)) = true
    rw [PySem.W.alikeAll, o.alike, alike_map o a b]; rfl
theorem rowLt_map (e : Enc f n) (o : EncO f lt) (irr : Ordr lt) : ∀ a b : List α, PySem.W.rowLt (pyL (a.map f)) (pyL (b.map f)) = lexL lt a b
  | [], [] => by
    have e : PySem.W.rowLt [] [] = false := lex_irrefl _
    exact e
  | [], y :: b => by
    show PySem.W.rowLt [] ((f y).py :: pyL (b.map f)) = true
    unfold PySem.W.rowLt
    rw [PySem.W.toks_all_cons]
    simp only [PySem.W.keyToksAll]
    rw [lex_diff (O := itemOrd) (by simp)]
    rfl
  | x :: a, [] => by
    show PySem.W.rowLt ((f x).py :: pyL (a.map f)) [] = false
    unfold PySem.W.rowLt
    rw [PySem.W.toks_all_cons]
    simp only [PySem.W.keyToksAll]
    rw [lex_diff (O := itemOrd) (by simp)]
    rfl
  | x :: a, y :: b => by
    have ih := rowLt_map e o irr a b
    unfold PySem.W.rowLt at ih ⊢
    show PyProof.Rows.lexLt itemOrd (PySem.W.keyToksAll ((f x).py :: pyL (a.map f))) (PySem.W.keyToksAll ((f y).py :: pyL (b.map f))) = _
    rw [PySem.W.dataLt_cons (o.alike x y), e.eq, o.lt, ih, lexL]
    by_cases h : x = y
    · subst h
      rw [if_pos (by simp), irr.irr]; rfl
    · rw [if_neg (by simpa using h)]
      rcases irr.tri x y with q | q | q
      · rw [q]; rfl
      · exact absurd q h
      · rw [q, irr.asym q]; rfl
theorem EncO.tup (e : Enc f n) (o : EncO f lt) (r : Ordr lt) : EncO (fun l : List α => D.tup (l.map f)) (lexL lt) := ⟨fun a b => by
    show PySem.W.alike (.tuple (pyL (a.map f))) (.tuple (pyL (b.map f))) = true
    rw [PySem.W.alike]; exact alike_map o a b, fun a b => by
    show PySem.W.dataLt (.tuple (pyL (a.map f))) (.tuple (pyL (b.map f))) = _
    rw [PySem.W.dataLt_tuple]; exact rowLt_map e o r a b, fun _ => rfl⟩
theorem EncO.gLt (o : EncO f lt) (e : Enc f n) (a b : α) (hn : n ≤ 60 := by decide) : gLt (f a) (f b) = Option.some (.bl (lt a b)) := by
  unfold DL.gLt okCmp
  rw [e.plain, e.plain, o.alike, o.some, o.lt, if_pos]
  rw [Bool.and_self, Bool.true_and, Bool.and_true, Bool.and_true, decide_eq_true_eq]
  have h := e.dep a
  omega
end
abbrev Rule := List Nat × Nat
def Asc (l : List Nat) : Prop := l.Pairwise fun a b => ltN a b = true
theorem Asc.nodup {l : List Nat} (h : Asc l) : l.Nodup := ordN.nodup h
theorem Asc.ext {a b : List Nat} (ha : Asc a) (hb : Asc b) (h : ∀ x, x ∈ a ↔ x ∈ b) : a = b := ordN.ext ha hb h
theorem Asc.filter {l : List Nat} (h : Asc l) (p : Nat → Bool) : Asc (l.filter p) := List.Pairwise.filter p h
def letters : List Nat := tl (Str.ofString "abcdefghijklmnopqrstuvwxyz")
theorem letters_eq : letters = [97, 98, 99, 100, 101, 102, 103, 104, 105, 106, 107, 108, 109, 110, 111, 112, 113, 114, 115, 116, 117, 118, 119, 120, 121, 122] := by decide +kernel
def ruleLt : Rule → Rule → Bool := lexB (lexL ltN) ltN
theorem gLt_dC (p q : Nat) : gLt (dC p) (dC q) = some (.bl (ltN p q)) := EncO.dC.gLt Enc.dC p q
structure Sch (cols : List Nat) (R : List Rule) : Prop where
  asc : Asc cols
  let_ : ∀ x ∈ cols, x ∈ letters
  ne : cols ≠ []
  left : ∀ r ∈ R, ∀ x ∈ r.1, x ∈ cols
  lasc : ∀ r ∈ R, Asc r.1
  right : ∀ r ∈ R, r.2 ∈ cols
  not : ∀ r ∈ R, r.2 ∉ r.1
  rasc : R.Pairwise fun a b => ruleLt a b = true
theorem nodup_sub_len {α : Type} [DecidableEq α] : ∀ {a b : List α}, a.Nodup → (∀ x ∈ a, x ∈ b) → a.length ≤ b.length
  | [], _, _, _ => Nat.zero_le _
  | x :: a, b, hn, hs => by
    rw [List.nodup_cons] at hn
    have hx := hs x List.mem_cons_self
    have h := nodup_sub_len (a := a) (b := b.erase x) hn.2 fun y hy => (List.mem_erase_of_ne (fun e => hn.1 (by rw [← e]; exact hy))).mpr (hs y (List.mem_cons_of_mem _ hy))
    rw [List.length_erase_of_mem hx] at h
    have : 0 < b.length := List.length_pos_of_mem hx
    rw [List.length_cons]; omega
theorem Asc.len {l : List Nat} (h : Asc l) (hl : ∀ x ∈ l, x ∈ letters) : l.length ≤ 26 := by
  have := nodup_sub_len h.nodup hl
  rw [letters_eq] at this
  exact this
theorem Sch.len {cols : List Nat} {R : List Rule} (h : Sch cols R) : cols.length ≤ 26 := h.asc.len h.let_
end DL
namespace DL
open PySem PySem.Spec PyProof.Rows L2 TL
def compF (vs : List Nat) (g : GF) (fc : BF) (fe : EF) (E0 : Env) (items : List D) : Res (D × Env) := compL vs g fc fe E0 items [] E0
/-- one turn -/
def turnC (vs : List Nat) (g : GF) (fc : BF) (fe : EF) (E : Env) (d : D) : Res (Bool × W × Env × Env) :=
  (ofO (g d (wipeE E vs))).bind fun E1 => (fc E1).bind fun p => (fe p.2).bind fun q => .ok (p.1, q.1, backE E p.2 vs, backE E q.2 vs)
theorem compL_turn {α : Type} {vs : List Nat} {g : GF} {fc : BF} {fe : EF} {E : Env} (f : α → D) (p : α → Bool) (y : α → D) (l : List α) (h : ∀ a ∈ l, turnC vs g fc fe E (f a) = .ok (p a, .dat (y a), E, E)) (acc : List D) :
    compL vs g fc fe E (l.map f) acc E = .ok (.lst (acc ++ (l.filter p).map y), E) := by
  induction l generalizing acc with
  | nil => simp [compL]
  | cons a r ih =>
    have h1 := h a List.mem_cons_self
    have ih := ih fun b hb => h b (List.mem_cons_of_mem _ hb)
    unfold turnC at h1
    cases e1 : g (f a) (wipeE E vs) with
    | none => rw [e1] at h1; cases h1
    | some E1 =>
      rw [e1] at h1
      simp only [ofO_some, Res.ok_bind] at h1
      cases e2 : fc E1 with
      | err _ _ => rw [e2] at h1; cases h1
      | stuck => rw [e2] at h1; cases h1
      | ok q =>
        rw [e2] at h1
        simp only [Res.ok_bind] at h1
        cases e3 : fe q.2 with
        | err _ _ => rw [e3] at h1; cases h1
        | stuck => rw [e3] at h1; cases h1
        | ok z =>
          rw [e3] at h1
          simp only [Res.ok_bind] at h1
          injection h1 with h1
          injection h1 with i1 h1
          injection h1 with i2 h1
          injection h1 with i3 i4
          rw [List.map_cons, compL, e1]
          simp only [ofO_some, Res.ok_bind, e2, noErr]
          cases hp : p a with
          | false => rw [i1, hp, if_neg Bool.false_ne_true, i3, ih, List.filter_cons, hp, if_neg Bool.false_ne_true]
          | true =>
            rw [i1, hp, if_pos rfl, e3]
            simp only [Res.ok_bind, noErr]
            rw [i2]
            simp only [asDat, ofO_some, Res.ok_bind]
            rw [i4, ih, List.filter_cons, hp, if_pos rfl, List.map_cons, List.append_assoc]; rfl

open Classical in
noncomputable def resP {α : Type} (E : Env) (s : α → Res (Bool × W × Env × Env)) (l : List α) (fb : Res (D × Env)) : Res (D × Env) :=
  if h : ∃ py : (α → Bool) × (α → D), ∀ a ∈ l, s a = .ok (py.1 a, .dat (py.2 a), E, E) then .ok (.lst ((l.filter h.choose.1).map h.choose.2), E) else fb
theorem resP_ok {α : Type} {E : Env} {s : α → Res (Bool × W × Env × Env)} {l : List α} {fb : Res (D × Env)} {p : α → Bool} {y : α → D} (h : ∀ a ∈ l, s a = .ok (p a, .dat (y a), E, E)) : resP E s l fb = .ok (.lst ((l.filter p).map y), E) := by
  have ex : ∃ py : (α → Bool) × (α → D), ∀ a ∈ l, s a = .ok (py.1 a, .dat (py.2 a), E, E) := ⟨(p, y), h⟩
  unfold resP
  rw [dif_pos ex]
  have c := ex.choose_spec
  have e1 : l.filter ex.choose.1 = l.filter p := List.filter_congr fun a ha => by
    have := (c a ha).symm.trans (h a ha)
    injection this with this
    injection this with i1 _
  have e2 : (l.filter p).map ex.choose.2 = (l.filter p).map y := List.map_congr_left fun a ha => by
    have := (c a (List.mem_filter.mp ha).1).symm.trans (h a (List.mem_filter.mp ha).1)
    injection this with this
    injection this with _ this
    injection this with this _
    injection this
  rw [e1, e2]
@[simp] theorem resP_simp {α : Type} (E : Env) (p : α → Bool) (y : α → D) (l : List α) (fb : Res (D × Env)) : resP E (fun a => .ok (p a, .dat (y a), E, E)) l fb = .ok (.lst ((l.filter p).map y), E) := resP_ok fun _ _ => rfl
theorem compL_res {α : Type} {vs : List Nat} {g : GF} {fc : BF} {fe : EF} {E : Env} (f : α → D) (l : List α) : compL vs g fc fe E (l.map f) [] E = resP E (fun a => turnC vs g fc fe E (f a)) l (compF vs g fc fe E (l.map f)) := by
  by_cases h : ∃ py : (α → Bool) × (α → D), ∀ a ∈ l, turnC vs g fc fe E (f a) = .ok (py.1 a, .dat (py.2 a), E, E)
  · obtain ⟨⟨p, y⟩, h⟩ := h
    rw [resP_ok h, compL_turn f p y l h]; rfl
  · unfold resP
    rw [dif_neg h]; rfl
def k3_turn (vs : List Nat) (E : Env) (p : Bool × Env) : W × Env → Res (Bool × W × Env × Env) := fun q => .ok (p.1, q.1, backE E p.2 vs, backE E q.2 vs)
@[simp] theorem ap_k3_turn (vs : List Nat) (E : Env) (p : Bool × Env) (q : W × Env) : k3_turn vs E p q = .ok (p.1, q.1, backE E p.2 vs, backE E q.2 vs) := rfl
def k2_turn (vs : List Nat) (fe : EF) (E : Env) : Bool × Env → Res (Bool × W × Env × Env) := fun p => (fe p.2).bind (k3_turn vs E p)
@[simp] theorem ap_k2_turn (vs : List Nat) (fe : EF) (E : Env) (p : Bool × Env) : k2_turn vs fe E p = (fe p.2).bind (k3_turn vs E p) := rfl
def k1_turn (vs : List Nat) (fc : BF) (fe : EF) (E : Env) : Env → Res (Bool × W × Env × Env) := fun E1 => (fc E1).bind (k2_turn vs fe E)
@[simp] theorem ap_k1_turn (vs : List Nat) (fc : BF) (fe : EF) (E E1 : Env) : k1_turn vs fc fe E E1 = (fc E1).bind (k2_turn vs fe E) := rfl
@[simp] theorem ap_turnC {vs : List Nat} {g : GF} {fc : BF} {fe : EF} {E : Env} {d : D} : turnC vs g fc fe E d = (ofO (g d (wipeE E vs))).bind (k1_turn vs fc fe E) := rfl
def k3_comp (vs : List Nat) (g : GF) (fc : BF) (fe : EF) (E0 : Env) (ds acc : List D) (E3 : Env) : D → Res (D × Env) := fun y => compL vs g fc fe E0 ds (acc ++ [y]) (backE E0 E3 vs)
@[simp] theorem ap_k3_comp (vs : List Nat) (g : GF) (fc : BF) (fe : EF) (E0 : Env) (ds acc : List D) (E3 : Env) (y : D) : k3_comp vs g fc fe E0 ds acc E3 y = compL vs g fc fe E0 ds (acc ++ [y]) (backE E0 E3 vs) := rfl
def k2_comp (vs : List Nat) (g : GF) (fc : BF) (fe : EF) (E0 : Env) (ds acc : List D) : W × Env → Res (D × Env) := fun q => (ofO (asDat q.1)).bind (k3_comp vs g fc fe E0 ds acc q.2)
@[simp] theorem ap_k2_comp (vs : List Nat) (g : GF) (fc : BF) (fe : EF) (E0 : Env) (ds acc : List D) (q : W × Env) : k2_comp vs g fc fe E0 ds acc q = (ofO (asDat q.1)).bind (k3_comp vs g fc fe E0 ds acc q.2) := rfl
def k1_comp (vs : List Nat) (g : GF) (fc : BF) (fe : EF) (E0 : Env) (ds acc : List D) : Bool × Env → Res (D × Env) := fun p => if p.1 = true then (noErr (fe p.2)).bind (k2_comp vs g fc fe E0 ds acc) else compL vs g fc fe E0 ds acc (backE E0 p.2 vs)
@[simp] theorem ap_k1_comp (vs : List Nat) (g : GF) (fc : BF) (fe : EF) (E0 : Env) (ds acc : List D) (p : Bool × Env) : k1_comp vs g fc fe E0 ds acc p = if p.1 = true then (noErr (fe p.2)).bind (k2_comp vs g fc fe E0 ds acc) else compL vs g fc fe E0 ds acc (backE E0 p.2 vs) := rfl
def k0_comp (vs : List Nat) (g : GF) (fc : BF) (fe : EF) (E0 : Env) (ds acc : List D) : Env → Res (D × Env) := fun E1 => (noErr (fc E1)).bind (k1_comp vs g fc fe E0 ds acc)
@[simp] theorem ap_k0_comp (vs : List Nat) (g : GF) (fc : BF) (fe : EF) (E0 : Env) (ds acc : List D) (E1 : Env) : k0_comp vs g fc fe E0 ds acc E1 = (noErr (fc E1)).bind (k1_comp vs g fc fe E0 ds acc) := rfl
@[simp] theorem compL_nil (vs : List Nat) (g : GF) (fc : BF) (fe : EF) (E0 E : Env) (acc : List D) : compL vs g fc fe E0 [] acc E = .ok (.lst acc, E) := rfl
@[simp] theorem compL_cons (vs : List Nat) (g : GF) (fc : BF) (fe : EF) (E0 E : Env) (d : D) (ds acc : List D) : compL vs g fc fe E0 (d :: ds) acc E = (ofO (g d (wipeE E vs))).bind (k0_comp vs g fc fe E0 ds acc) := rfl
def k1_forL (g : GF) (body : SF) (ds : List D) : Fl × Env → Res (Fl × Env) := fun p => match p.1 with
    | .nx => forL g body ds p.2
    | .ct => forL g body ds p.2
    | .bk => .ok (.nx, p.2)
    | .rt d => .ok (.rt d, p.2)
@[simp] theorem k1_forL_nx (g : GF) (body : SF) (ds : List D) (E : Env) : k1_forL g body ds (.nx, E) = forL g body ds E := rfl
@[simp] theorem k1_forL_ct (g : GF) (body : SF) (ds : List D) (E : Env) : k1_forL g body ds (.ct, E) = forL g body ds E := rfl
@[simp] theorem k1_forL_bk (g : GF) (body : SF) (ds : List D) (E : Env) : k1_forL g body ds (.bk, E) = .ok (.nx, E) := rfl
@[simp] theorem k1_forL_rt (g : GF) (body : SF) (ds : List D) (E : Env) (d : D) : k1_forL g body ds (.rt d, E) = .ok (.rt d, E) := rfl
def k0_forL (g : GF) (body : SF) (ds : List D) : Env → Res (Fl × Env) := fun E1 => (body E1).bind (k1_forL g body ds)
@[simp] theorem ap_k0_forL (g : GF) (body : SF) (ds : List D) (E1 : Env) : k0_forL g body ds E1 = (body E1).bind (k1_forL g body ds) := rfl
@[simp] theorem forL_nil (g : GF) (body : SF) (E : Env) : forL g body [] E = .ok (.nx, E) := rfl
@[simp] theorem forL_cons (g : GF) (body : SF) (d : D) (ds : List D) (E : Env) : forL g body (d :: ds) E = (ofO (g d E)).bind (k0_forL g body ds) := rfl
@[simp] theorem filter_yes {α : Type} (l : List α) : l.filter (fun _ => true) = l := List.filter_eq_self.mpr fun _ _ => rfl
@[simp] theorem filter_no {α : Type} (l : List α) : l.filter (fun _ => false) = [] := List.filter_eq_nil_iff.mpr fun _ _ h => nomatch h
@[simp] theorem wipeE_nil (E : Env) : wipeE E [] = E := rfl
@[simp] theorem wipeE_cons (E : Env) (v : Nat) (vs : List Nat) : wipeE E (v :: vs) = (wipeE E vs).set v .no := rfl
@[simp] theorem backE_nil (E0 E : Env) : backE E0 E [] = E := rfl
@[simp] theorem backE_cons (E0 E : Env) (v : Nat) (vs : List Nat) : backE E0 E (v :: vs) = (backE E0 E vs).set v (E0[v]?.getD .no) := rfl
@[simp] theorem ap_gN (i : Nat) (d : D) (E : Env) : gN i d E = some (E.set i (.dat d)) := rfl
@[simp] theorem plain_no : plainC (some .no) = true := rfl
@[simp] theorem plain_dat (d : D) : plainC (some (.dat d)) = true := rfl
@[simp] theorem gNeg_int (i : Int) : gNeg (.int i) = some (.int (-i)) := rfl
end DL
namespace DL
open PySem PySem.Spec PyProof.Rows L2 TL
@[simp] theorem sqD_dS (l : List Nat) : sqD (dS l) = some (l.map dC) := rfl
@[simp] theorem sqD_dC (c : Nat) : sqD (dC c) = some [dC c] := rfl
@[simp] theorem gLen_dS (l : List Nat) : gLen [dS l] = some (.int l.length) := rfl
@[simp] theorem gLen_dC (c : Nat) : gLen [dC c] = some (.int 1) := rfl
@[simp] theorem gIx_dS_n (l : List Nat) (n : Nat) : gIx (dS l) (.int (no_index (OfNat.ofNat n))) = (l[(OfNat.ofNat n : Nat)]?).map dC := gIx_str_nat l n
@[simp] theorem gIx_tup_n (l : List D) (n : Nat) : gIx (.tup l) (.int (no_index (OfNat.ofNat n))) = l[(OfNat.ofNat n : Nat)]? := gIx_tup_nat l n
@[simp] theorem gIx_lst_n (l : List D) (n : Nat) : gIx (.lst l) (.int (no_index (OfNat.ofNat n))) = l[(OfNat.ofNat n : Nat)]? := gIx_lst_nat l n
@[simp] theorem zip_pairs {α : Type} (f : α → D) (l : List α) : ((l.map f).dropLast.zip (l.map f).tail).map (fun p => D.tup [p.1, p.2]) = (l.dropLast.zip l.tail).map fun p => .tup [f p.1, f p.2] := by
  rw [← List.map_dropLast, ← List.map_tail, zip_two]
@[simp] theorem zip_pairs2 {α : Type} (f : α → D) (l : List α) : ((l.dropLast.map f).zip (l.tail.map f)).map (fun p => D.tup [p.1, p.2]) = (l.dropLast.zip l.tail).map fun p => .tup [f p.1, f p.2] := zip_two ..
@[simp] theorem gIn_dCf (c : Nat) (l : List Nat) : gInQ false (dC c) (dS l) = some (.bl (decide (c ∈ l))) := gIn_one false c l
@[simp] theorem gIn_dCt (c : Nat) (l : List Nat) : gInQ true (dC c) (dS l) = some (.bl (!decide (c ∈ l))) := gIn_one true c l
@[simp] theorem gIn_dClf (c : Nat) (l : List Nat) : gInQ false (dC c) (.lst (l.map dC)) = some (.bl (decide (c ∈ l))) := Enc.dC.gIn_lst false c l
@[simp] theorem gIn_dClt (c : Nat) (l : List Nat) : gInQ true (dC c) (.lst (l.map dC)) = some (.bl (!decide (c ∈ l))) := Enc.dC.gIn_lst true c l
@[simp] theorem gEq_dS (a b : List Nat) : gEq (dS a) (dS b) = some (.bl (decide (a = b))) := Enc.dS.gEq a b
@[simp] theorem gNe_dS (a b : List Nat) : gNe (dS a) (dS b) = some (.bl (!decide (a = b))) := Enc.dS.gNe a b
@[simp] theorem gEq_dC (a b : Nat) : gEq (dC a) (dC b) = some (.bl (decide (a = b))) := Enc.dC.gEq a b
@[simp] theorem gNe_dC (a b : Nat) : gNe (dC a) (dC b) = some (.bl (!decide (a = b))) := Enc.dC.gNe a b
@[simp] theorem gEq_e (a : List Nat) : gEq (dS a) (.str "") = some (.bl (decide (a = []))) := Enc.dS.gEq a []
@[simp] theorem gNe_e (a : List Nat) : gNe (dS a) (.str "") = some (.bl (!decide (a = []))) := Enc.dS.gNe a []
@[simp] theorem gEq_nilC (a : List Nat) : gEq (.lst (a.map dC)) (.lst []) = some (.bl a.isEmpty) := by
  rw [gEq_nil (Enc.dC.plainL a)]; cases a <;> rfl
@[simp] theorem gNe_nilC (a : List Nat) : gNe (.lst (a.map dC)) (.lst []) = some (.bl (!a.isEmpty)) := by
  rw [gNe_nil (Enc.dC.plainL a)]; cases a <;> rfl
@[simp] theorem gLt_dC' (p q : Nat) : gLt (dC p) (dC q) = some (.bl (ltN p q)) := gLt_dC p q
@[simp] theorem gAdd_int (a b : Int) : gAdd (.int a) (.int b) = some (.int (a + b)) := rfl
@[simp] theorem gSub_int (a b : Int) : gSub (.int a) (.int b) = some (.int (a - b)) := rfl
theorem rgD_map (n : Nat) : rgD 0 n = (List.range n).map fun i : Nat => D.int i := by
  unfold rgD
  simp
@[simp] theorem ap_eV (i : Nat) (E : Env) : eV i E = match E[i]? with
  | some (.dat d) => .ok (.dat d, E)
  | some (.own _) => .ok (.own i, E)
  | some (.ob _ _ _) => .ok (.own i, E)
  | _ => .stuck := rfl
@[simp] theorem ap_nos (n : Nat) : nos n = List.replicate n .no := rfl
@[simp] theorem compL_res' {α : Type} {vs : List Nat} {g : GF} {fc : BF} {fe : EF} {E : Env} (f : α → D) (l : List α) : compL vs g fc fe E (l.map f) [] E = resP E (fun a => turnC vs g fc fe E (f a)) l (compF vs g fc fe E (l.map f)) := compL_res f l
@[simp] theorem gEq_nilS (a : List (List Nat)) : gEq (.lst (a.map dS)) (.lst []) = some (.bl a.isEmpty) := by
  rw [gEq_nil (Enc.dS.plainL a)]; cases a <;> rfl
@[simp] theorem gNe_nilS (a : List (List Nat)) : gNe (.lst (a.map dS)) (.lst []) = some (.bl (!a.isEmpty)) := by
  rw [gNe_nil (Enc.dS.plainL a)]; cases a <;> rfl
@[simp] theorem dats_app' (l : List D) (ws : List W) : dats (l.map W.dat ++ ws) = (dats ws).map (l ++ ·) := dats_app l ws
@[simp] theorem dats_map (l : List D) : dats (l.map W.dat) = some l := by
  have := dats_app l []
  simpa using this
@[simp] theorem rd_own_ (E : Env) (i : Nat) : rd E (.own i) = match E[i]? with
  | some (.own d) => .ok d
  | _ => .stuck := rfl
@[simp] theorem rds_own (E : Env) (i : Nat) (ws : List W) : rds E (.own i :: ws) = (rd E (.own i)).bind fun d => (rds E ws).bind fun ds => .ok (d :: ds) := rfl
@[simp] theorem ap_deckAt (E : Env) (i : Nat) : deckAt E i = match E[i]? with
  | some (.deck a q l b) => some (a, q, ⟨l, b⟩)
  | _ => none := rfl
end DL
namespace DL
open PySem PySem.Spec PyProof.Rows L2 TL
def dN (i : Nat) : D := .int (i : Nat)
/-- what is settled -/
inductive InClo (R : List Rule) (b : List Nat) : Nat → Prop
  | base {x : Nat} : x ∈ b → InClo R b x
  | step {r : Rule} : r ∈ R → (∀ c ∈ r.1, InClo R b c) → InClo R b r.2
def rightsAt (R : List Rule) (is : List Nat) : List Nat := is.filterMap fun i => R[i]?.map (·.2)
def stepH (R : List Rule) (known : List Nat) (d : D) : D ⊕ List Nat := match d with
  | .int i => if 0 ≤ i ∧ i < (R.length : Int) then (match R[i.toNat]? with
      | some r => if r.1.all (fun x => decide (x ∈ known)) = true then .inr (known ++ [r.2]) else .inl (.bl false)
      | none => .inl (.bl false)) else .inl (.bl false)
  | _ => .inl (.bl false)
structure IvS (R : List Rule) (b : List Nat) (st : List Nat × List Nat) : Prop where
  eq : st.1 = b ++ rightsAt R st.2
  nd : st.1.Nodup
  lt : ∀ i ∈ st.2, i < R.length
  snd : ∀ x ∈ st.1, InClo R b x
  ld : foldE (stepH R) b (st.2.map dN) = .inr st.1
theorem InClo.trans {R : List Rule} {b b' : List Nat} (h : ∀ x ∈ b', InClo R b x) {x : Nat} (z : InClo R b' x) : InClo R b x := by
  induction z with
  | base hb => exact h _ hb
  | step hr _ ih => exact .step hr ih
end DL
namespace DL
open PySem PySem.Spec PyProof.Rows L2 TL
/-- the key of a rule -/
def kR (r : Rule) : List Key := [.inr (T r.1), .inr (sgn r.2)]
def dT (rs : List Rule) : D := .dit (rs.map fun r => (kR r, .bl true))
def pl (x : Cell) : Prop := plainC (some x) = true
end DL
namespace DL
open PySem PySem.Spec PyProof.Rows L2 TL
@[simp] theorem kb1 : kitB "NoneType" "int" = some false := by decide +kernel
@[simp] theorem kb2 : kitB "bool" "int" = some true := by decide +kernel
@[simp] theorem kb3 : kitB "int" "int" = some true := by decide +kernel
@[simp] theorem kb4 : kitB "str" "int" = some false := by decide +kernel
@[simp] theorem kb5 : kitB "list" "int" = some false := by decide +kernel
@[simp] theorem kb6 : kitB "tuple" "int" = some false := by decide +kernel
@[simp] theorem kb7 : kitB "dict" "int" = some false := by decide +kernel
@[simp] theorem kb8 : kitB "int" "bool" = some false := by decide +kernel
@[simp] theorem kb9 : kitB "bool" "bool" = some true := by decide +kernel
@[simp] theorem kt1 : kitB "NoneType" "tuple" = some false := by decide +kernel
@[simp] theorem kt2 : kitB "bool" "tuple" = some false := by decide +kernel
@[simp] theorem kt3 : kitB "int" "tuple" = some false := by decide +kernel
@[simp] theorem kt4 : kitB "str" "tuple" = some false := by decide +kernel
@[simp] theorem kt5 : kitB "list" "tuple" = some false := by decide +kernel
@[simp] theorem kt7 : kitB "dict" "tuple" = some false := by decide +kernel
@[simp] theorem ks1 : kitB "NoneType" "str" = some false := by decide +kernel
@[simp] theorem ks2 : kitB "bool" "str" = some false := by decide +kernel
@[simp] theorem ks3 : kitB "int" "str" = some false := by decide +kernel
@[simp] theorem ks5 : kitB "list" "str" = some false := by decide +kernel
@[simp] theorem ks6 : kitB "tuple" "str" = some false := by decide +kernel
@[simp] theorem ks7 : kitB "dict" "str" = some false := by decide +kernel
@[simp] theorem gLt_int (i j : Int) : gLt (.int i) (.int j) = some (.bl (decide (i < j))) := EncO.int.gLt Enc.int i j
@[simp] theorem gNe_bl (a b : Bool) : gNe (.bl a) (.bl b) = some (.bl (a != b)) := by
  cases a <;> cases b <;> rfl
end DL
namespace DL
open PySem PySem.Spec PyProof.Rows L2 TL
theorem gAdd_lst (a b : List D) (h : a.length + b.length ≤ 16777216) : gAdd (.lst a) (.lst b) = some (.lst (a ++ b)) := if_pos h
structure LeastIn (full : List Nat → Bool) (P found : List (List Nat)) : Prop where
  nd : found.Nodup
  mem : ∀ s, s ∈ found ↔ s ∈ P ∧ full s = true ∧ ∀ t ∈ P, full t = true → (∀ x ∈ t, x ∈ s) → t = s
end DL
namespace DL
open PySem PySem.Spec PyProof.Rows L2 TL
end DL
namespace DL
open PySem PySem.Spec PyProof.Rows L2 TL
section
variable {α : Type} {E E' : Env} {g : GF} {body s2 : SF} {fi : IF} {Q : Fl × Env → Prop}
end
end DL
namespace DL
open PySem PySem.Spec PyProof.Rows L2 TL
def jn (c : Nat) : List (List Nat) → List Nat
  | [] => []
  | [p] => p
  | p :: q :: r => p ++ c :: jn c (q :: r)
structure NumL (ds : List Nat) (n : Nat) : Prop where
  dig : ∀ c ∈ ds, 48 ≤ c ∧ c ≤ 57
  ne : ds ≠ []
  val : ds.foldl (fun acc c => acc * 10 + (c - 48)) 0 = n
  head : ds.head? = some 48 → ds = [48]
end DL
namespace DL
open PySem PySem.Spec PyProof.Rows L2 TL
mutual
/-- ints below so much, texts of code points, no dict but {}, no instance -/
def D.gdb (m : Nat) : D → Bool
  | .non => true
  | .bl _ => true
  | .int i => decide (i.natAbs < 10 ^ m)
  | .str x => x.cps.toList.all fun c => decide (c < 1114112)
  | .lst xs => gdbL m xs
  | .tup xs => gdbL m xs
  | .dic l => l.isEmpty
  | .dit _ => false
  | .dix _ _ => false
  | .exn _ _ => false
  | .obj _ _ => false
def gdbL (m : Nat) : List D → Bool
  | [] => true
  | x :: xs => x.gdb m && gdbL m xs
end
/-- good data: ints of so many digits, of this bulk, of this depth -/
structure GD (m n h : Nat) (d : D) : Prop where
  gd : d.gdb m = true
  bulk : d.py.bulk ≤ n
  dep : d.py.depth ≤ h
structure GDs (m n h : Nat) (xs : List D) : Prop where
  gd : gdbL m xs = true
  bulk : PyData.bulkAll (pyL xs) ≤ n
  dep : PyData.depthAll (pyL xs) ≤ h
mutual
theorem gdb_mono {m m' : Nat} (hm : m ≤ m') : ∀ d : D, d.gdb m = true → d.gdb m' = true
  | .non, _ => rfl
  | .bl _, _ => rfl
  | .int i, h => decide_eq_true (Nat.lt_of_lt_of_le (of_decide_eq_true h) (Nat.pow_le_pow_right (by decide) hm))
  | .str _, h => h
  | .lst xs, h => gdbL_mono hm xs h
  | .tup xs, h => gdbL_mono hm xs h
  | .dic _, h => h
  | .dit _, h => by cases h
  | .dix _ _, h => by cases h
  | .exn _ _, h => by cases h
  | .obj _ _, h => by cases h
theorem gdbL_mono {m m' : Nat} (hm : m ≤ m') : ∀ xs : List D, gdbL m xs = true → gdbL m' xs = true
  | [], _ => rfl
  | x :: xs, h => by
    rw [gdbL, Bool.and_eq_true] at h
    rw [gdbL, gdb_mono hm x h.1, gdbL_mono hm xs h.2]; rfl
end
theorem GD.le {m n h m' n' h' : Nat} {d : D} (g : GD m n h d) (hm : m ≤ m') (hn : n ≤ n') (hh : h ≤ h') : GD m' n' h' d := ⟨gdb_mono hm d g.gd, Nat.le_trans g.bulk hn, Nat.le_trans g.dep hh⟩
theorem GDs.le {m n h m' n' h' : Nat} {d : List D} (g : GDs m n h d) (hm : m ≤ m') (hn : n ≤ n') (hh : h ≤ h') : GDs m' n' h' d := ⟨gdbL_mono hm d g.gd, Nat.le_trans g.bulk hn, Nat.le_trans g.dep hh⟩
theorem GDs.nil {m n h : Nat} : GDs m n h [] := ⟨rfl, Nat.zero_le _, Nat.zero_le _⟩
theorem GDs.cons {m n n' h : Nat} {x : D} {xs : List D} (g : GD m n h x) (g' : GDs m n' h xs) : GDs m (n + 1 + n') h (x :: xs) := ⟨by rw [gdbL, g.gd, g'.gd]; rfl, by
    show x.py.bulk + 1 + PyData.bulkAll (pyL xs) ≤ _
    have := g.bulk
    have := g'.bulk
    omega, Nat.max_le.mpr ⟨g.dep, g'.dep⟩⟩
theorem GDs.inv {m n h : Nat} {x : D} {xs : List D} (g : GDs m n h (x :: xs)) : GD m n h x ∧ GDs m n h xs := by
  have h1 := g.gd
  have h2 := g.bulk
  have h3 : max x.py.depth (PyData.depthAll (pyL xs)) ≤ h := g.dep
  have h2 : x.py.bulk + 1 + PyData.bulkAll (pyL xs) ≤ n := h2
  rw [gdbL, Bool.and_eq_true] at h1
  exact ⟨⟨h1.1, by omega, by omega⟩, h1.2, by omega, by omega⟩
theorem GDs.mem {m n h : Nat} {x : D} : ∀ {xs : List D}, GDs m n h xs → x ∈ xs → GD m n h x
  | y :: xs, g, hx => by
    rcases List.mem_cons.mp hx with e | hx
    · rw [e]; exact g.inv.1
    · exact g.inv.2.mem hx
theorem GDs.app {m n n' h : Nat} : ∀ {xs ys : List D}, GDs m n h xs → GDs m n' h ys → GDs m (n + n') h (xs ++ ys)
  | [], ys, _, g => g.le (Nat.le_refl _) (Nat.le_add_left _ _) (Nat.le_refl _)
  | x :: xs, ys, g, g' => by
    have h1 := g.gd
    have h2 : x.py.bulk + 1 + PyData.bulkAll (pyL xs) ≤ n := g.bulk
    have h3 : max x.py.depth (PyData.depthAll (pyL xs)) ≤ h := g.dep
    rw [gdbL, Bool.and_eq_true] at h1
    have k := GDs.cons (m := m) (n := x.py.bulk) (h := h) ⟨h1.1, Nat.le_refl _, by omega⟩ (GDs.app (n := PyData.bulkAll (pyL xs)) ⟨h1.2, Nat.le_refl _, by omega⟩ g')
    exact k.le (Nat.le_refl _) (by omega) (Nat.le_refl _)
theorem GDs.len {m n h : Nat} : ∀ {xs : List D}, GDs m n h xs → xs.length ≤ n
  | [], _ => Nat.zero_le _
  | x :: xs, g => by
    have h2 : x.py.bulk + 1 + PyData.bulkAll (pyL xs) ≤ n := g.bulk
    have h1 := g.inv.2
    have k := GDs.len (n := PyData.bulkAll (pyL xs)) ⟨h1.gd, Nat.le_refl _, h1.dep⟩
    rw [List.length_cons]; omega
theorem GDs.tup {m n h : Nat} {xs : List D} (g : GDs m n h xs) : GD m n (h + 1) (.tup xs) := ⟨g.gd, g.bulk, Nat.succ_le_succ g.dep⟩
theorem GDs.lst {m n h : Nat} {xs : List D} (g : GDs m n h xs) : GD m n (h + 1) (.lst xs) := ⟨g.gd, g.bulk, Nat.succ_le_succ g.dep⟩
theorem GD.bl {m n h : Nat} (b : Bool) : GD m n h (.bl b) := ⟨rfl, Nat.zero_le _, Nat.zero_le _⟩
theorem GD.non {m n h : Nat} : GD m n h .non := ⟨rfl, Nat.zero_le _, Nat.zero_le _⟩
theorem GD.int {m n h : Nat} {i : Int} (hi : i.natAbs < 10 ^ m) : GD m n h (.int i) := ⟨decide_eq_true hi, Nat.zero_le _, Nat.zero_le _⟩
theorem GD.str {m n h : Nat} {x : Str} (hx : ∀ c ∈ tl x, c < 1114112) (hn : x.length ≤ n) : GD m n h (.str x) := ⟨by
  show (x.cps.toList.all fun c => decide (c < 1114112)) = true
  rw [List.all_eq_true]
  exact fun c hc => decide_eq_true (hx c hc), hn, Nat.zero_le _⟩
end DL
namespace DL
open PySem PySem.Spec PyProof.Rows L2 TL
def k_raise2 (C : Addr) (f : Str) (E : Env) : List D → Res (Fl × Env)
  | [d] => .err ⟨C, [(f, d)]⟩ E
  | _ => .stuck
@[simp] theorem ap_k_raise2 (C : Addr) (f : Str) (E : Env) (d : D) : k_raise2 C f E [d] = .err ⟨C, [(f, d)]⟩ E := rfl
def k_raise (C : Addr) (f : Str) : List W × Env → Res (Fl × Env) := fun p => (ofO (dats p.1)).bind (k_raise2 C f p.2)
@[simp] theorem ap_k_raise (C : Addr) (f : Str) (p : List W × Env) : k_raise C f p = (ofO (dats p.1)).bind (k_raise2 C f p.2) := rfl
@[simp] theorem ap_sRaise1 (C : Addr) (f : Str) (fs : AF) (E : Env) : sRaise1 C f fs E = (fs E).bind (k_raise C f) := rfl
@[simp] theorem ap_sRaise0 (C : Addr) (E : Env) : sRaise0 C E = .err ⟨C, []⟩ E := rfl
@[simp] theorem ret_err (x : ExV) (E0 E : Env) : ret (.err x E0) E = .err x E := rfl
def Ox {α : Type} (r : Res α) (Q : α → Prop) (X : ExV → Prop) : Prop := match r with
  | .ok a => Q a
  | .err x _ => X x
  | .stuck => False
section
variable {α : Type} {r : Res α} {a : α} {P Q : α → Prop} {X Y : ExV → Prop}
@[simp] theorem Ox_ok : Ox (.ok a) Q X ↔ Q a := Iff.rfl
@[simp] theorem Ox_err {x : ExV} {E : Env} : Ox (.err x E : Res α) Q X ↔ X x := Iff.rfl
theorem Ox.cps (h : ∀ (P : α → Prop) (Z : ExV → Prop), (∀ a, Q a → P a) → (∀ x, X x → Z x) → Ox r P Z) : Ox r Q X := h Q X (fun _ h => h) fun _ h => h
theorem Ox.mono (h : Ox r P Y) (i : ∀ a, P a → Q a) (j : ∀ x, Y x → X x) : Ox r Q X := by
  cases r with
  | ok a => exact i _ h
  | err x E => exact j _ h
  | stuck => exact h
end
section
variable {α σ : Type} {E E' E1 : Env} {s1 s2 body : SF} {fi : IF} {g : GF} {Q : Fl × Env → Prop} {X : ExV → Prop}
end
def resOf : D ⊕ ExV → Res D
  | .inl d => .ok d
  | .inr x => .err x []
theorem runP_ox {fb : SF} {n : Nat} {ds : List D} (spec : D ⊕ ExV) (h : Ox (fb (ds.map .dat ++ nos n)) (fun p => ∃ d, p.1 = .rt d ∧ spec = .inl d) (fun x => spec = .inr x)) : runP fb n ds = resOf spec := by
  unfold runP
  generalize fb (ds.map .dat ++ nos n) = r at h ⊢
  match r, h with
  | .ok (fl, E), ⟨d, h1, h2⟩ => dsimp only at h1; subst h1; rw [h2]; rfl
  | .err x E, h => have h : spec = .inr x := h; rw [h]; rfl
end DL
namespace DL
open PySem PySem.Spec PyProof.Rows L2 TL
def kx_dat (E : Env) : D → Res (W × Env) := fun d => .ok (.dat d, E)
@[simp] theorem ap_kx_dat (E : Env) (d : D) : kx_dat E d = .ok (.dat d, E) := rfl
@[simp] theorem ap_eExn0 (C : Addr) (E : Env) : eExn0 C E = .ok (.dat (.exn C []), E) := rfl
def k2_exn1 (C : Addr) (f : Str) (E : Env) : List D → Res (W × Env)
  | [d] => .ok (.dat (.exn C [(f, d)]), E)
  | _ => .stuck
@[simp] theorem ap_k2_exn1 (C : Addr) (f : Str) (E : Env) (d : D) : k2_exn1 C f E [d] = .ok (.dat (.exn C [(f, d)]), E) := rfl
def k1_exn1 (C : Addr) (f : Str) : List W × Env → Res (W × Env) := fun p => (ofO (dats p.1)).bind (k2_exn1 C f p.2)
@[simp] theorem ap_k1_exn1 (C : Addr) (f : Str) (p : List W × Env) : k1_exn1 C f p = (ofO (dats p.1)).bind (k2_exn1 C f p.2) := rfl
@[simp] theorem ap_eExn1 (C : Addr) (f : Str) (fa : AF) (E : Env) : eExn1 C f fa E = (fa E).bind (k1_exn1 C f) := rfl
def k1_xat (Cs : List Addr) (f : Str) : W × Env → Res (W × Env) := fun p => match p.1 with
  | .dat (.exn C fs) => if C ∈ Cs then (ofO (fs.lookup f)).bind (kx_dat p.2) else .stuck
  | _ => .stuck
@[simp] theorem ap_k1_xat (Cs : List Addr) (f : Str) (C : Addr) (fs : List (Str × D)) (E : Env) : k1_xat Cs f (.dat (.exn C fs), E) = if C ∈ Cs then (ofO (fs.lookup f)).bind (kx_dat E) else .stuck := rfl
@[simp] theorem ap_eXAt (Cs : List Addr) (f : Str) (fo : EF) (E : Env) : eXAt Cs f fo E = (fo E).bind (k1_xat Cs f) := rfl
def k1_isXn (l : List (Addr × Bool)) : W × Env → Res (W × Env) := fun p => match p.1 with
  | .dat d => (ofO (gIsXn l d)).bind (kx_dat p.2)
  | _ => .stuck
@[simp] theorem ap_k1_isXn (l : List (Addr × Bool)) (d : D) (E : Env) : k1_isXn l (.dat d, E) = (ofO (gIsXn l d)).bind (kx_dat E) := rfl
@[simp] theorem ap_eIsXn (l : List (Addr × Bool)) (fo : EF) (E : Env) : eIsXn l fo E = (fo E).bind (k1_isXn l) := rfl
def k_tryK (yes : List Addr) (i k : Nat) : Res (Fl × Env) → Res (Fl × Env)
  | .ok p => .ok p
  | .err x E' => if x.cls ∈ yes ∧ i ≠ k then .ok (.nx, (E'.set k (.dat (.exn x.cls x.fs))).set i .no) else .stuck
  | .stuck => .stuck
@[simp] theorem ap_sTryK (fb : SF) (yes : List Addr) (i k : Nat) (E : Env) : sTryK fb yes i k E = k_tryK yes i k (fb E) := by
  unfold sTryK k_tryK
  cases fb E <;> rfl
@[simp] theorem k_tryK_ok (yes : List Addr) (i k : Nat) (p : Fl × Env) : k_tryK yes i k (.ok p) = .ok p := rfl
@[simp] theorem k_tryK_err (yes : List Addr) (i k : Nat) (x : ExV) (E : Env) : k_tryK yes i k (.err x E) = if x.cls ∈ yes ∧ i ≠ k then .ok (.nx, (E.set k (.dat (.exn x.cls x.fs))).set i .no) else .stuck := rfl
theorem lkz {L : List Addr} (hd : L.Nodup) : ∀ {bs : List Bool} {i : Nat} {a : Addr} {b : Bool}, L[i]? = some a → bs[i]? = some b → (L.zip bs).lookup a = some b := by
  induction L with
  | nil => intro bs i a b h; simp at h
  | cons x L ih =>
    obtain ⟨n1, n2⟩ := List.nodup_cons.mp hd
    intro bs i a b h hb
    cases bs with
    | nil => simp at hb
    | cons y bs =>
      rw [List.zip_cons_cons, List.lookup_cons]
      cases i with
      | zero =>
        simp at h hb
        subst h hb
        simp
      | succ i =>
        have h : L[i]? = some a := by simpa using h
        have hb : bs[i]? = some b := by simpa using hb
        have ne : (a == x) = false := by
          refine beq_eq_false_iff_ne.mpr fun e => n1 ?_
          rw [← e]; exact List.mem_of_getElem? h
        rw [ne]; exact ih n2 h hb
theorem gIsXn_of {l : List (Addr × Bool)} {C : Addr} {fs : List (Str × D)} {b : Bool} (h : l.lookup C = some b) : gIsXn l (.exn C fs) = some (.bl b) := by
  show (l.lookup C).map D.bl = _
  rw [h]; rfl
theorem ko_ne {K : PySem.W.Frag} {A B : Addr} (h1 : PySem.W.kitOne K (.ref A) (.ref B) = some false) (h2 : PySem.W.kitOne K (.ref B) (.ref B) = some true) : A ≠ B := fun e => by
  rw [e, h2] at h1; cases h1
end DL
namespace DL
open PySem PySem.Spec PyProof.Rows L2 TL
def drawM (k : Dk) (m : Int) : Int × Dk := match k.l.getLast? with
  | some c => (c % m, ⟨if m ≤ c then k.l.dropLast ++ [c / m] else k.l.dropLast, k.b⟩)
  | none => (((k.b * 69621 + 17) % 2147483587 * ((k.b * 69621 + 17) % 2147483587) + 48271 * ((k.b * 69621 + 17) % 2147483587)) % 2147483579 / 64 % m, ⟨k.l, (k.b * 69621 + 17) % 2147483587⟩)
def drawR (_ _ : Addr) (k : Dk) (ds : List D) : Res (D × Dk) := match ds with
  | [.int m] => if 0 < m ∧ m < 10000000000000000000000000000000000000000 ∧ k.l.length ≤ 1000 then .ok (.int (drawM k m).1, (drawM k m).2) else .stuck
  | _ => .stuck
theorem drawM_ok (k : Dk) (m : Int) (hm : 0 < m) (hk : k.l.length ≤ 63) : 0 ≤ (drawM k m).1 ∧ (drawM k m).1 < m ∧ (drawM k m).2.l.length ≤ 63 := by
  unfold drawM
  cases h : k.l.getLast? with
  | none => exact ⟨Int.emod_nonneg _ (by omega), Int.emod_lt_of_pos _ hm, hk⟩
  | some c =>
    refine ⟨Int.emod_nonneg _ (by omega), Int.emod_lt_of_pos _ hm, ?_⟩
    have hne : k.l ≠ [] := fun e => by rw [e] at h; cases h
    have hpos : 0 < k.l.length := List.length_pos_iff.mpr hne
    dsimp only
    split
    · rw [List.length_append, List.length_dropLast, List.length_singleton]; omega
    · rw [List.length_dropLast]; omega
theorem drawR_ok (a q : Addr) (k : Dk) (m : Int) (hm : 0 < m) (hm2 : m < 10000000000000000000000000000000000000000) (hk : k.l.length ≤ 63) : ∃ v k', drawR a q k [.int m] = .ok (.int v, k') ∧ 0 ≤ v ∧ v < m ∧ k'.l.length ≤ 63 := by
  obtain ⟨h1, h2, h3⟩ := drawM_ok k m hm hk
  exact ⟨_, _, if_pos ⟨hm, hm2, by omega⟩, h1, h2, h3⟩

theorem draw_ok (a q : Addr) (l : List Int) (b m : Int) (hm : 0 < m) (hm2 : m < 1073741824) (hl : l.length ≤ 63) : ∃ (v : Nat) (l' : List Int) (b' : Int), drawR a q ⟨l, b⟩ [.int m] = .ok (.int v, ⟨l', b'⟩) ∧ (v : Int) < m ∧ l'.length ≤ 63 := by
  obtain ⟨v, k', e, h0, h1, h2⟩ := drawR_ok a q ⟨l, b⟩ m hm (by omega) hl
  exact ⟨v.toNat, k'.l, k'.b, by rw [Int.toNat_of_nonneg h0]; exact e, by rw [Int.toNat_of_nonneg h0]; exact h1, h2⟩
def top (i : Nat) : Stmt := PySem.Challenge.pw_restbehind_k01_errors.main.body.getD i (.Pass ⟨0, 0, 0, 0⟩)
abbrev s__law_draw : Stmt := top 16
abbrev s__law_deck : Stmt := top 15
abbrev s__law_pick : Stmt := top 17
abbrev s__law_made : Stmt := top 18
abbrev s__law_kinds : Stmt := top 20
abbrev s__law_kept : Stmt := top 19
abbrev s__law_is_usual : Stmt := top 23
abbrev s__law_raised : Stmt := top 21
abbrev s__law_caught : Stmt := top 22
abbrev s_law : Stmt := top 24
structure CA where
  BadCommand : Addr
  BadFrame : Addr
  BadRows : Addr
  BadScheme : Addr
  BadText : Addr
  InvalidCommand : Addr
  NoFrame : Addr
  NotWhole : Addr
  NothingBehind : Addr
  NothingKnown : Addr
  NothingToUndo : Addr
  OtherParts : Addr
  RestError : Addr
abbrev N__law_draw : List Str := ["_law_deck_here", "_law_many", "_law_cell", "_law_blend"]
theorem sc__law_draw : FnScope N__law_draw ["_law_deck_here", "_law_many"] (defScope s__law_draw) := ⟨rfl, rfl, rfl, by decide +kernel, rfl, by decide +kernel, by decide +kernel⟩
abbrev N__law_deck : List Str := ["_law_script", "_law_blend", "_law_cell"]
theorem sc__law_deck : FnScope N__law_deck ["_law_script"] (defScope s__law_deck) := ⟨rfl, rfl, rfl, by decide +kernel, rfl, by decide +kernel, by decide +kernel⟩
abbrev N__law_pick : List Str := ["_law_deck_here", "_law_some"]
theorem sc__law_pick : FnScope N__law_pick ["_law_deck_here", "_law_some"] (defScope s__law_pick) := ⟨rfl, rfl, rfl, by decide +kernel, rfl, by decide +kernel, by decide +kernel⟩
abbrev N__law_made : List Str := ["_law_at", "_law_it", "_law_bare"]
theorem sc__law_made : FnScope N__law_made ["_law_at", "_law_it"] (defScope s__law_made) := ⟨rfl, rfl, rfl, by decide +kernel, rfl, by decide +kernel, by decide +kernel⟩
abbrev N__law_kinds : List Str := ["_law_e", "_law_lot", "_law_k"]
theorem sc__law_kinds : FnScope N__law_kinds ["_law_e"] (defScope s__law_kinds) := ⟨rfl, rfl, rfl, by decide +kernel, rfl, by decide +kernel, by decide +kernel⟩
abbrev N__law_kept : List Str := ["_law_at", "_law_e"]
theorem sc__law_kept : FnScope N__law_kept ["_law_at", "_law_e"] (defScope s__law_kept) := ⟨rfl, rfl, rfl, by decide +kernel, rfl, by decide +kernel, by decide +kernel⟩
abbrev N__law_is_usual : List Str := ["_law_e", "_law_lot"]
theorem sc__law_is_usual : FnScope N__law_is_usual ["_law_e"] (defScope s__law_is_usual) := ⟨rfl, rfl, rfl, by decide +kernel, rfl, by decide +kernel, by decide +kernel⟩
abbrev N__law_raised : List Str := ["_law_at", "_law_it"]
theorem sc__law_raised : FnScope N__law_raised ["_law_at", "_law_it"] (defScope s__law_raised) := ⟨rfl, rfl, rfl, by decide +kernel, rfl, by decide +kernel, by decide +kernel⟩
abbrev N__law_caught : List Str := ["_law_at", "_law_it", "_law_found", "_law_e"]
theorem sc__law_caught : FnScope N__law_caught ["_law_at", "_law_it"] (defScope s__law_caught) := ⟨rfl, rfl, rfl, by decide +kernel, rfl, by decide +kernel, by decide +kernel⟩
abbrev N_law : List Str := ["_law_script", "_law_deck_here", "_law_lot", "_law_at", "_law_turn", "_law_it", "_law_due", "_law_e", "_law_near", "_law_far"]
theorem sc_law : FnScope N_law ["_law_script"] (defScope s_law) := ⟨rfl, rfl, rfl, by decide +kernel, rfl, by decide +kernel, by decide +kernel⟩
abbrev s_BadFrame___init__ : Stmt := inClass (top 3) 0
theorem xt_BadFrame : ExText1 "BadFrame.__init__" s_BadFrame___init__ "part" "part" := ⟨⟨rfl, rfl, rfl, rfl, by decide +kernel, rfl, rfl⟩, rfl, by decide, ⟨_, rfl, rfl⟩, fun _ _ _ _ _ _ _ _ _ => rfl, ⟨_, _, _, _, _, _, _, _, _, _, _, _, rfl, ⟨fun _ _ _ _ => rfl, fun _ _ _ _ => rfl, _, fun _ _ _ _ => rfl⟩, fun _ _ _ _ => rfl⟩, by decide⟩
theorem xk_BadFrame : ExKw "BadFrame.__init__" s_BadFrame___init__ "part" := ⟨fun _ _ _ _ _ _ _ _ _ => rfl⟩
abbrev s_BadScheme___init__ : Stmt := inClass (top 2) 0
theorem xt_BadScheme : ExText1 "BadScheme.__init__" s_BadScheme___init__ "part" "part" := ⟨⟨rfl, rfl, rfl, rfl, by decide +kernel, rfl, rfl⟩, rfl, by decide, ⟨_, rfl, rfl⟩, fun _ _ _ _ _ _ _ _ _ => rfl, ⟨_, _, _, _, _, _, _, _, _, _, _, _, rfl, ⟨fun _ _ _ _ => rfl, fun _ _ _ _ => rfl, _, fun _ _ _ _ => rfl⟩, fun _ _ _ _ => rfl⟩, by decide⟩
theorem xk_BadScheme : ExKw "BadScheme.__init__" s_BadScheme___init__ "part" := ⟨fun _ _ _ _ _ _ _ _ _ => rfl⟩
abbrev s_NotWhole___init__ : Stmt := inClass (top 5) 0
theorem xt_NotWhole : ExText1 "NotWhole.__init__" s_NotWhole___init__ "tables" "tables" := ⟨⟨rfl, rfl, rfl, rfl, by decide +kernel, rfl, rfl⟩, rfl, by decide, ⟨_, rfl, rfl⟩, fun _ _ _ _ _ _ _ _ _ => rfl, ⟨_, _, _, _, _, _, _, _, _, _, _, _, rfl, ⟨fun _ _ _ _ => rfl, fun _ _ _ _ => rfl, _, fun _ _ _ _ => rfl⟩, fun _ _ _ _ => rfl⟩, by decide⟩
theorem xk_NotWhole : ExKw "NotWhole.__init__" s_NotWhole___init__ "tables" := ⟨fun _ _ _ _ _ _ _ _ _ => rfl⟩
abbrev s_BadText___init__ : Stmt := inClass (top 4) 0
theorem xt_BadText : ExText1 "BadText.__init__" s_BadText___init__ "place" "place" := ⟨⟨rfl, rfl, rfl, rfl, by decide +kernel, rfl, rfl⟩, rfl, by decide, ⟨_, rfl, rfl⟩, fun _ _ _ _ _ _ _ _ _ => rfl, ⟨_, _, _, _, _, _, _, _, _, _, _, _, rfl, ⟨fun _ _ _ _ => rfl, fun _ _ _ _ => rfl, _, fun _ _ _ _ => rfl⟩, fun _ _ _ _ => rfl⟩, by decide⟩
theorem xk_BadText : ExKw "BadText.__init__" s_BadText___init__ "place" := ⟨fun _ _ _ _ _ _ _ _ _ => rfl⟩
abbrev s_OtherParts___init__ : Stmt := inClass (top 7) 0
theorem xt_OtherParts : ExText1 "OtherParts.__init__" s_OtherParts___init__ "part" "part" := ⟨⟨rfl, rfl, rfl, rfl, by decide +kernel, rfl, rfl⟩, rfl, by decide, ⟨_, rfl, rfl⟩, fun _ _ _ _ _ _ _ _ _ => rfl, ⟨_, _, _, _, _, _, _, _, _, _, _, _, rfl, ⟨fun _ _ _ _ => rfl, fun _ _ _ _ => rfl, _, fun _ _ _ _ => rfl⟩, fun _ _ _ _ => rfl⟩, by decide⟩
theorem xk_OtherParts : ExKw "OtherParts.__init__" s_OtherParts___init__ "part" := ⟨fun _ _ _ _ _ _ _ _ _ => rfl⟩
abbrev s_BadRows___init__ : Stmt := inClass (top 6) 0
theorem xt_BadRows : ExText1 "BadRows.__init__" s_BadRows___init__ "row" "row" := ⟨⟨rfl, rfl, rfl, rfl, by decide +kernel, rfl, rfl⟩, rfl, by decide, ⟨_, rfl, rfl⟩, fun _ _ _ _ _ _ _ _ _ => rfl, ⟨_, _, _, _, _, _, _, _, _, _, _, _, rfl, ⟨fun _ _ _ _ => rfl, fun _ _ _ _ => rfl, _, fun _ _ _ _ => rfl⟩, fun _ _ _ _ => rfl⟩, by decide⟩
theorem xk_BadRows : ExKw "BadRows.__init__" s_BadRows___init__ "row" := ⟨fun _ _ _ _ _ _ _ _ _ => rfl⟩
abbrev s_NothingBehind___init__ : Stmt := inClass (top 8) 0
theorem xt_NothingBehind : ExText1 "NothingBehind.__init__" s_NothingBehind___init__ "steps" "steps" := ⟨⟨rfl, rfl, rfl, rfl, by decide +kernel, rfl, rfl⟩, rfl, by decide, ⟨_, rfl, rfl⟩, fun _ _ _ _ _ _ _ _ _ => rfl, ⟨_, _, _, _, _, _, _, _, _, _, _, _, rfl, ⟨fun _ _ _ _ => rfl, fun _ _ _ _ => rfl, _, fun _ _ _ _ => rfl⟩, fun _ _ _ _ => rfl⟩, by decide⟩
theorem xk_NothingBehind : ExKw "NothingBehind.__init__" s_NothingBehind___init__ "steps" := ⟨fun _ _ _ _ _ _ _ _ _ => rfl⟩
abbrev s_NoFrame___init__ : Stmt := inClass (top 11) 0
theorem xt_NoFrame : ExText0 "NoFrame.__init__" s_NoFrame___init__ := ⟨⟨rfl, rfl, rfl, rfl, by decide +kernel, rfl, rfl⟩, ⟨_, rfl, rfl⟩, fun _ _ _ _ _ _ _ _ => rfl, ⟨_, _, _, _, _, _, _, _, rfl, ⟨fun _ _ _ _ => rfl, fun _ _ _ _ => rfl, _, fun _ _ _ _ => rfl⟩⟩⟩
abbrev s_InvalidCommand___init__ : Stmt := inClass (top 10) 0
theorem xt_InvalidCommand : ExText0 "InvalidCommand.__init__" s_InvalidCommand___init__ := ⟨⟨rfl, rfl, rfl, rfl, by decide +kernel, rfl, rfl⟩, ⟨_, rfl, rfl⟩, fun _ _ _ _ _ _ _ _ => rfl, ⟨_, _, _, _, _, _, _, _, rfl, ⟨fun _ _ _ _ => rfl, fun _ _ _ _ => rfl, _, fun _ _ _ _ => rfl⟩⟩⟩
abbrev s_NothingToUndo___init__ : Stmt := inClass (top 9) 0
theorem xt_NothingToUndo : ExText0 "NothingToUndo.__init__" s_NothingToUndo___init__ := ⟨⟨rfl, rfl, rfl, rfl, by decide +kernel, rfl, rfl⟩, ⟨_, rfl, rfl⟩, fun _ _ _ _ _ _ _ _ => rfl, ⟨_, _, _, _, _, _, _, _, rfl, ⟨fun _ _ _ _ => rfl, fun _ _ _ _ => rfl, _, fun _ _ _ _ => rfl⟩⟩⟩
abbrev s_NothingKnown___init__ : Stmt := inClass (top 13) 0
theorem xt_NothingKnown : ExText0 "NothingKnown.__init__" s_NothingKnown___init__ := ⟨⟨rfl, rfl, rfl, rfl, by decide +kernel, rfl, rfl⟩, ⟨_, rfl, rfl⟩, fun _ _ _ _ _ _ _ _ => rfl, ⟨_, _, _, _, _, _, _, _, rfl, ⟨fun _ _ _ _ => rfl, fun _ _ _ _ => rfl, _, fun _ _ _ _ => rfl⟩⟩⟩
abbrev s_BadCommand___init__ : Stmt := inClass (top 12) 0
theorem xt_BadCommand : ExText0 "BadCommand.__init__" s_BadCommand___init__ := ⟨⟨rfl, rfl, rfl, rfl, by decide +kernel, rfl, rfl⟩, ⟨_, rfl, rfl⟩, fun _ _ _ _ _ _ _ _ => rfl, ⟨_, _, _, _, _, _, _, _, rfl, ⟨fun _ _ _ _ => rfl, fun _ _ _ _ => rfl, _, fun _ _ _ _ => rfl⟩⟩⟩
structure PR (P : Program) (K : PySem.W.Frag) (mg : Str → Option Value) where
  c : CA
  f__law_draw : Addr
  fd__law_draw : FuncData
  F__law_draw : Fun K "_law_draw" "_law_draw" s__law_draw f__law_draw fd__law_draw
  b__law_draw : Binds K fd__law_draw ["_law_deck_here", "_law_many"] []
  g__law_draw : mg "_law_draw" = some (.ref f__law_draw)
  f__law_deck : Addr
  fd__law_deck : FuncData
  F__law_deck : Fun K "_law_deck" "_law_deck" s__law_deck f__law_deck fd__law_deck
  b__law_deck : Binds K fd__law_deck ["_law_script"] []
  g__law_deck : mg "_law_deck" = some (.ref f__law_deck)
  f__law_pick : Addr
  fd__law_pick : FuncData
  F__law_pick : Fun K "_law_pick" "_law_pick" s__law_pick f__law_pick fd__law_pick
  b__law_pick : Binds K fd__law_pick ["_law_deck_here", "_law_some"] []
  g__law_pick : mg "_law_pick" = some (.ref f__law_pick)
  f__law_made : Addr
  fd__law_made : FuncData
  F__law_made : Fun K "_law_made" "_law_made" s__law_made f__law_made fd__law_made
  b__law_made : Binds K fd__law_made ["_law_at", "_law_it"] []
  g__law_made : mg "_law_made" = some (.ref f__law_made)
  f__law_kinds : Addr
  fd__law_kinds : FuncData
  F__law_kinds : Fun K "_law_kinds" "_law_kinds" s__law_kinds f__law_kinds fd__law_kinds
  b__law_kinds : Binds K fd__law_kinds ["_law_e"] []
  g__law_kinds : mg "_law_kinds" = some (.ref f__law_kinds)
  f__law_kept : Addr
  fd__law_kept : FuncData
  F__law_kept : Fun K "_law_kept" "_law_kept" s__law_kept f__law_kept fd__law_kept
  b__law_kept : Binds K fd__law_kept ["_law_at", "_law_e"] []
  g__law_kept : mg "_law_kept" = some (.ref f__law_kept)
  f__law_is_usual : Addr
  fd__law_is_usual : FuncData
  F__law_is_usual : Fun K "_law_is_usual" "_law_is_usual" s__law_is_usual f__law_is_usual fd__law_is_usual
  b__law_is_usual : Binds K fd__law_is_usual ["_law_e"] []
  g__law_is_usual : mg "_law_is_usual" = some (.ref f__law_is_usual)
  f__law_raised : Addr
  fd__law_raised : FuncData
  F__law_raised : Fun K "_law_raised" "_law_raised" s__law_raised f__law_raised fd__law_raised
  b__law_raised : Binds K fd__law_raised ["_law_at", "_law_it"] []
  g__law_raised : mg "_law_raised" = some (.ref f__law_raised)
  f__law_caught : Addr
  fd__law_caught : FuncData
  F__law_caught : Fun K "_law_caught" "_law_caught" s__law_caught f__law_caught fd__law_caught
  b__law_caught : Binds K fd__law_caught ["_law_at", "_law_it"] []
  g__law_caught : mg "_law_caught" = some (.ref f__law_caught)
  f_law : Addr
  fd_law : FuncData
  F_law : Fun K "law" "law" s_law f_law fd_law
  b_law : Binds K fd_law ["_law_script"] []
  g_law : mg "law" = some (.ref f_law)
  z_int : mg "int" = none
  z_range : mg "range" = none
  z_len : mg "len" = none
  c_BadFrame : mg "BadFrame" = some (.ref c.BadFrame)
  ex_BadFrame : ExCls K c.BadFrame
  xf_BadFrame : ∃ f, ExFn P K mg c.BadFrame f "BadFrame.__init__" s_BadFrame___init__
  n_BadFrame_part : NoAttr K c.BadFrame "part"
  c_BadScheme : mg "BadScheme" = some (.ref c.BadScheme)
  ex_BadScheme : ExCls K c.BadScheme
  xf_BadScheme : ∃ f, ExFn P K mg c.BadScheme f "BadScheme.__init__" s_BadScheme___init__
  n_BadScheme_part : NoAttr K c.BadScheme "part"
  c_NotWhole : mg "NotWhole" = some (.ref c.NotWhole)
  ex_NotWhole : ExCls K c.NotWhole
  xf_NotWhole : ∃ f, ExFn P K mg c.NotWhole f "NotWhole.__init__" s_NotWhole___init__
  n_NotWhole_tables : NoAttr K c.NotWhole "tables"
  c_BadText : mg "BadText" = some (.ref c.BadText)
  ex_BadText : ExCls K c.BadText
  xf_BadText : ∃ f, ExFn P K mg c.BadText f "BadText.__init__" s_BadText___init__
  n_BadText_place : NoAttr K c.BadText "place"
  c_OtherParts : mg "OtherParts" = some (.ref c.OtherParts)
  ex_OtherParts : ExCls K c.OtherParts
  xf_OtherParts : ∃ f, ExFn P K mg c.OtherParts f "OtherParts.__init__" s_OtherParts___init__
  n_OtherParts_part : NoAttr K c.OtherParts "part"
  c_BadRows : mg "BadRows" = some (.ref c.BadRows)
  ex_BadRows : ExCls K c.BadRows
  xf_BadRows : ∃ f, ExFn P K mg c.BadRows f "BadRows.__init__" s_BadRows___init__
  n_BadRows_row : NoAttr K c.BadRows "row"
  c_NothingBehind : mg "NothingBehind" = some (.ref c.NothingBehind)
  ex_NothingBehind : ExCls K c.NothingBehind
  xf_NothingBehind : ∃ f, ExFn P K mg c.NothingBehind f "NothingBehind.__init__" s_NothingBehind___init__
  n_NothingBehind_steps : NoAttr K c.NothingBehind "steps"
  c_NoFrame : mg "NoFrame" = some (.ref c.NoFrame)
  ex_NoFrame : ExCls K c.NoFrame
  xf_NoFrame : ∃ f, ExFn P K mg c.NoFrame f "NoFrame.__init__" s_NoFrame___init__
  c_InvalidCommand : mg "InvalidCommand" = some (.ref c.InvalidCommand)
  ex_InvalidCommand : ExCls K c.InvalidCommand
  xf_InvalidCommand : ∃ f, ExFn P K mg c.InvalidCommand f "InvalidCommand.__init__" s_InvalidCommand___init__
  c_NothingToUndo : mg "NothingToUndo" = some (.ref c.NothingToUndo)
  ex_NothingToUndo : ExCls K c.NothingToUndo
  xf_NothingToUndo : ∃ f, ExFn P K mg c.NothingToUndo f "NothingToUndo.__init__" s_NothingToUndo___init__
  c_NothingKnown : mg "NothingKnown" = some (.ref c.NothingKnown)
  ex_NothingKnown : ExCls K c.NothingKnown
  xf_NothingKnown : ∃ f, ExFn P K mg c.NothingKnown f "NothingKnown.__init__" s_NothingKnown___init__
  c_BadCommand : mg "BadCommand" = some (.ref c.BadCommand)
  ex_BadCommand : ExCls K c.BadCommand
  xf_BadCommand : ∃ f, ExFn P K mg c.BadCommand f "BadCommand.__init__" s_BadCommand___init__
  z_isinstance : mg "isinstance" = none
  ko_NothingKnown_RestError : PySem.W.kitOne K (.ref c.NothingKnown) (.ref c.RestError) = some true
  xi_NothingKnown : ExIs K c.NothingKnown
  ko_BadCommand_RestError : PySem.W.kitOne K (.ref c.BadCommand) (.ref c.RestError) = some true
  xi_BadCommand : ExIs K c.BadCommand
  ko_NoFrame_RestError : PySem.W.kitOne K (.ref c.NoFrame) (.ref c.RestError) = some true
  xi_NoFrame : ExIs K c.NoFrame
  ko_InvalidCommand_RestError : PySem.W.kitOne K (.ref c.InvalidCommand) (.ref c.RestError) = some true
  xi_InvalidCommand : ExIs K c.InvalidCommand
  ko_NothingToUndo_RestError : PySem.W.kitOne K (.ref c.NothingToUndo) (.ref c.RestError) = some true
  xi_NothingToUndo : ExIs K c.NothingToUndo
  ko_NothingBehind_RestError : PySem.W.kitOne K (.ref c.NothingBehind) (.ref c.RestError) = some true
  xi_NothingBehind : ExIs K c.NothingBehind
  ko_OtherParts_RestError : PySem.W.kitOne K (.ref c.OtherParts) (.ref c.RestError) = some true
  xi_OtherParts : ExIs K c.OtherParts
  ko_BadRows_RestError : PySem.W.kitOne K (.ref c.BadRows) (.ref c.RestError) = some true
  xi_BadRows : ExIs K c.BadRows
  ko_NotWhole_RestError : PySem.W.kitOne K (.ref c.NotWhole) (.ref c.RestError) = some true
  xi_NotWhole : ExIs K c.NotWhole
  ko_BadText_RestError : PySem.W.kitOne K (.ref c.BadText) (.ref c.RestError) = some true
  xi_BadText : ExIs K c.BadText
  ko_BadFrame_RestError : PySem.W.kitOne K (.ref c.BadFrame) (.ref c.RestError) = some true
  xi_BadFrame : ExIs K c.BadFrame
  ko_BadScheme_RestError : PySem.W.kitOne K (.ref c.BadScheme) (.ref c.RestError) = some true
  xi_BadScheme : ExIs K c.BadScheme
  ko_RestError_RestError : PySem.W.kitOne K (.ref c.RestError) (.ref c.RestError) = some true
  ex_RestError : ExCls K c.RestError
  xi_RestError : ExIs K c.RestError
  c_RestError : mg "RestError" = some (.ref c.RestError)
  ko_NothingKnown_Exception : PySem.W.kitOne K (.ref c.NothingKnown) (.type "Exception") = some true
  ko_BadCommand_Exception : PySem.W.kitOne K (.ref c.BadCommand) (.type "Exception") = some true
  ko_NoFrame_Exception : PySem.W.kitOne K (.ref c.NoFrame) (.type "Exception") = some true
  ko_InvalidCommand_Exception : PySem.W.kitOne K (.ref c.InvalidCommand) (.type "Exception") = some true
  ko_NothingToUndo_Exception : PySem.W.kitOne K (.ref c.NothingToUndo) (.type "Exception") = some true
  ko_NothingBehind_Exception : PySem.W.kitOne K (.ref c.NothingBehind) (.type "Exception") = some true
  ko_OtherParts_Exception : PySem.W.kitOne K (.ref c.OtherParts) (.type "Exception") = some true
  ko_BadRows_Exception : PySem.W.kitOne K (.ref c.BadRows) (.type "Exception") = some true
  ko_NotWhole_Exception : PySem.W.kitOne K (.ref c.NotWhole) (.type "Exception") = some true
  ko_BadText_Exception : PySem.W.kitOne K (.ref c.BadText) (.type "Exception") = some true
  ko_BadFrame_Exception : PySem.W.kitOne K (.ref c.BadFrame) (.type "Exception") = some true
  ko_BadScheme_Exception : PySem.W.kitOne K (.ref c.BadScheme) (.type "Exception") = some true
  ko_RestError_Exception : PySem.W.kitOne K (.ref c.RestError) (.type "Exception") = some true
  z_Exception : mg "Exception" = none
  ko_NothingKnown_NotWhole : PySem.W.kitOne K (.ref c.NothingKnown) (.ref c.NotWhole) = some false
  ko_BadCommand_NotWhole : PySem.W.kitOne K (.ref c.BadCommand) (.ref c.NotWhole) = some false
  ko_NoFrame_NotWhole : PySem.W.kitOne K (.ref c.NoFrame) (.ref c.NotWhole) = some false
  ko_InvalidCommand_NotWhole : PySem.W.kitOne K (.ref c.InvalidCommand) (.ref c.NotWhole) = some false
  ko_NothingToUndo_NotWhole : PySem.W.kitOne K (.ref c.NothingToUndo) (.ref c.NotWhole) = some false
  ko_NothingBehind_NotWhole : PySem.W.kitOne K (.ref c.NothingBehind) (.ref c.NotWhole) = some false
  ko_OtherParts_NotWhole : PySem.W.kitOne K (.ref c.OtherParts) (.ref c.NotWhole) = some false
  ko_BadRows_NotWhole : PySem.W.kitOne K (.ref c.BadRows) (.ref c.NotWhole) = some false
  ko_NotWhole_NotWhole : PySem.W.kitOne K (.ref c.NotWhole) (.ref c.NotWhole) = some true
  ko_BadText_NotWhole : PySem.W.kitOne K (.ref c.BadText) (.ref c.NotWhole) = some false
  ko_BadFrame_NotWhole : PySem.W.kitOne K (.ref c.BadFrame) (.ref c.NotWhole) = some false
  ko_BadScheme_NotWhole : PySem.W.kitOne K (.ref c.BadScheme) (.ref c.NotWhole) = some false
  ko_RestError_NotWhole : PySem.W.kitOne K (.ref c.RestError) (.ref c.NotWhole) = some false
  ko_NothingKnown_BadText : PySem.W.kitOne K (.ref c.NothingKnown) (.ref c.BadText) = some false
  ko_BadCommand_BadText : PySem.W.kitOne K (.ref c.BadCommand) (.ref c.BadText) = some false
  ko_NoFrame_BadText : PySem.W.kitOne K (.ref c.NoFrame) (.ref c.BadText) = some false
  ko_InvalidCommand_BadText : PySem.W.kitOne K (.ref c.InvalidCommand) (.ref c.BadText) = some false
  ko_NothingToUndo_BadText : PySem.W.kitOne K (.ref c.NothingToUndo) (.ref c.BadText) = some false
  ko_NothingBehind_BadText : PySem.W.kitOne K (.ref c.NothingBehind) (.ref c.BadText) = some false
  ko_OtherParts_BadText : PySem.W.kitOne K (.ref c.OtherParts) (.ref c.BadText) = some false
  ko_BadRows_BadText : PySem.W.kitOne K (.ref c.BadRows) (.ref c.BadText) = some false
  ko_NotWhole_BadText : PySem.W.kitOne K (.ref c.NotWhole) (.ref c.BadText) = some false
  ko_BadText_BadText : PySem.W.kitOne K (.ref c.BadText) (.ref c.BadText) = some true
  ko_BadFrame_BadText : PySem.W.kitOne K (.ref c.BadFrame) (.ref c.BadText) = some false
  ko_BadScheme_BadText : PySem.W.kitOne K (.ref c.BadScheme) (.ref c.BadText) = some false
  ko_RestError_BadText : PySem.W.kitOne K (.ref c.RestError) (.ref c.BadText) = some false
  ko_NothingKnown_BadFrame : PySem.W.kitOne K (.ref c.NothingKnown) (.ref c.BadFrame) = some false
  ko_BadCommand_BadFrame : PySem.W.kitOne K (.ref c.BadCommand) (.ref c.BadFrame) = some false
  ko_NoFrame_BadFrame : PySem.W.kitOne K (.ref c.NoFrame) (.ref c.BadFrame) = some false
  ko_InvalidCommand_BadFrame : PySem.W.kitOne K (.ref c.InvalidCommand) (.ref c.BadFrame) = some false
  ko_NothingToUndo_BadFrame : PySem.W.kitOne K (.ref c.NothingToUndo) (.ref c.BadFrame) = some false
  ko_NothingBehind_BadFrame : PySem.W.kitOne K (.ref c.NothingBehind) (.ref c.BadFrame) = some false
  ko_OtherParts_BadFrame : PySem.W.kitOne K (.ref c.OtherParts) (.ref c.BadFrame) = some false
  ko_BadRows_BadFrame : PySem.W.kitOne K (.ref c.BadRows) (.ref c.BadFrame) = some false
  ko_NotWhole_BadFrame : PySem.W.kitOne K (.ref c.NotWhole) (.ref c.BadFrame) = some false
  ko_BadText_BadFrame : PySem.W.kitOne K (.ref c.BadText) (.ref c.BadFrame) = some false
  ko_BadFrame_BadFrame : PySem.W.kitOne K (.ref c.BadFrame) (.ref c.BadFrame) = some true
  ko_BadScheme_BadFrame : PySem.W.kitOne K (.ref c.BadScheme) (.ref c.BadFrame) = some false
  ko_RestError_BadFrame : PySem.W.kitOne K (.ref c.RestError) (.ref c.BadFrame) = some false
  ko_NothingKnown_BadScheme : PySem.W.kitOne K (.ref c.NothingKnown) (.ref c.BadScheme) = some false
  ko_BadCommand_BadScheme : PySem.W.kitOne K (.ref c.BadCommand) (.ref c.BadScheme) = some false
  ko_NoFrame_BadScheme : PySem.W.kitOne K (.ref c.NoFrame) (.ref c.BadScheme) = some false
  ko_InvalidCommand_BadScheme : PySem.W.kitOne K (.ref c.InvalidCommand) (.ref c.BadScheme) = some false
  ko_NothingToUndo_BadScheme : PySem.W.kitOne K (.ref c.NothingToUndo) (.ref c.BadScheme) = some false
  ko_NothingBehind_BadScheme : PySem.W.kitOne K (.ref c.NothingBehind) (.ref c.BadScheme) = some false
  ko_OtherParts_BadScheme : PySem.W.kitOne K (.ref c.OtherParts) (.ref c.BadScheme) = some false
  ko_BadRows_BadScheme : PySem.W.kitOne K (.ref c.BadRows) (.ref c.BadScheme) = some false
  ko_NotWhole_BadScheme : PySem.W.kitOne K (.ref c.NotWhole) (.ref c.BadScheme) = some false
  ko_BadText_BadScheme : PySem.W.kitOne K (.ref c.BadText) (.ref c.BadScheme) = some false
  ko_BadFrame_BadScheme : PySem.W.kitOne K (.ref c.BadFrame) (.ref c.BadScheme) = some false
  ko_BadScheme_BadScheme : PySem.W.kitOne K (.ref c.BadScheme) (.ref c.BadScheme) = some true
  ko_RestError_BadScheme : PySem.W.kitOne K (.ref c.RestError) (.ref c.BadScheme) = some false
  ko_NothingKnown_NothingBehind : PySem.W.kitOne K (.ref c.NothingKnown) (.ref c.NothingBehind) = some false
  ko_BadCommand_NothingBehind : PySem.W.kitOne K (.ref c.BadCommand) (.ref c.NothingBehind) = some false
  ko_NoFrame_NothingBehind : PySem.W.kitOne K (.ref c.NoFrame) (.ref c.NothingBehind) = some false
  ko_InvalidCommand_NothingBehind : PySem.W.kitOne K (.ref c.InvalidCommand) (.ref c.NothingBehind) = some false
  ko_NothingToUndo_NothingBehind : PySem.W.kitOne K (.ref c.NothingToUndo) (.ref c.NothingBehind) = some false
  ko_NothingBehind_NothingBehind : PySem.W.kitOne K (.ref c.NothingBehind) (.ref c.NothingBehind) = some true
  ko_OtherParts_NothingBehind : PySem.W.kitOne K (.ref c.OtherParts) (.ref c.NothingBehind) = some false
  ko_BadRows_NothingBehind : PySem.W.kitOne K (.ref c.BadRows) (.ref c.NothingBehind) = some false
  ko_NotWhole_NothingBehind : PySem.W.kitOne K (.ref c.NotWhole) (.ref c.NothingBehind) = some false
  ko_BadText_NothingBehind : PySem.W.kitOne K (.ref c.BadText) (.ref c.NothingBehind) = some false
  ko_BadFrame_NothingBehind : PySem.W.kitOne K (.ref c.BadFrame) (.ref c.NothingBehind) = some false
  ko_BadScheme_NothingBehind : PySem.W.kitOne K (.ref c.BadScheme) (.ref c.NothingBehind) = some false
  ko_RestError_NothingBehind : PySem.W.kitOne K (.ref c.RestError) (.ref c.NothingBehind) = some false
  ko_NothingKnown_OtherParts : PySem.W.kitOne K (.ref c.NothingKnown) (.ref c.OtherParts) = some false
  ko_BadCommand_OtherParts : PySem.W.kitOne K (.ref c.BadCommand) (.ref c.OtherParts) = some false
  ko_NoFrame_OtherParts : PySem.W.kitOne K (.ref c.NoFrame) (.ref c.OtherParts) = some false
  ko_InvalidCommand_OtherParts : PySem.W.kitOne K (.ref c.InvalidCommand) (.ref c.OtherParts) = some false
  ko_NothingToUndo_OtherParts : PySem.W.kitOne K (.ref c.NothingToUndo) (.ref c.OtherParts) = some false
  ko_NothingBehind_OtherParts : PySem.W.kitOne K (.ref c.NothingBehind) (.ref c.OtherParts) = some false
  ko_OtherParts_OtherParts : PySem.W.kitOne K (.ref c.OtherParts) (.ref c.OtherParts) = some true
  ko_BadRows_OtherParts : PySem.W.kitOne K (.ref c.BadRows) (.ref c.OtherParts) = some false
  ko_NotWhole_OtherParts : PySem.W.kitOne K (.ref c.NotWhole) (.ref c.OtherParts) = some false
  ko_BadText_OtherParts : PySem.W.kitOne K (.ref c.BadText) (.ref c.OtherParts) = some false
  ko_BadFrame_OtherParts : PySem.W.kitOne K (.ref c.BadFrame) (.ref c.OtherParts) = some false
  ko_BadScheme_OtherParts : PySem.W.kitOne K (.ref c.BadScheme) (.ref c.OtherParts) = some false
  ko_RestError_OtherParts : PySem.W.kitOne K (.ref c.RestError) (.ref c.OtherParts) = some false
  ko_NothingKnown_BadRows : PySem.W.kitOne K (.ref c.NothingKnown) (.ref c.BadRows) = some false
  ko_BadCommand_BadRows : PySem.W.kitOne K (.ref c.BadCommand) (.ref c.BadRows) = some false
  ko_NoFrame_BadRows : PySem.W.kitOne K (.ref c.NoFrame) (.ref c.BadRows) = some false
  ko_InvalidCommand_BadRows : PySem.W.kitOne K (.ref c.InvalidCommand) (.ref c.BadRows) = some false
  ko_NothingToUndo_BadRows : PySem.W.kitOne K (.ref c.NothingToUndo) (.ref c.BadRows) = some false
  ko_NothingBehind_BadRows : PySem.W.kitOne K (.ref c.NothingBehind) (.ref c.BadRows) = some false
  ko_OtherParts_BadRows : PySem.W.kitOne K (.ref c.OtherParts) (.ref c.BadRows) = some false
  ko_BadRows_BadRows : PySem.W.kitOne K (.ref c.BadRows) (.ref c.BadRows) = some true
  ko_NotWhole_BadRows : PySem.W.kitOne K (.ref c.NotWhole) (.ref c.BadRows) = some false
  ko_BadText_BadRows : PySem.W.kitOne K (.ref c.BadText) (.ref c.BadRows) = some false
  ko_BadFrame_BadRows : PySem.W.kitOne K (.ref c.BadFrame) (.ref c.BadRows) = some false
  ko_BadScheme_BadRows : PySem.W.kitOne K (.ref c.BadScheme) (.ref c.BadRows) = some false
  ko_RestError_BadRows : PySem.W.kitOne K (.ref c.RestError) (.ref c.BadRows) = some false
  ko_NothingKnown_NoFrame : PySem.W.kitOne K (.ref c.NothingKnown) (.ref c.NoFrame) = some false
  ko_BadCommand_NoFrame : PySem.W.kitOne K (.ref c.BadCommand) (.ref c.NoFrame) = some false
  ko_NoFrame_NoFrame : PySem.W.kitOne K (.ref c.NoFrame) (.ref c.NoFrame) = some true
  ko_InvalidCommand_NoFrame : PySem.W.kitOne K (.ref c.InvalidCommand) (.ref c.NoFrame) = some false
  ko_NothingToUndo_NoFrame : PySem.W.kitOne K (.ref c.NothingToUndo) (.ref c.NoFrame) = some false
  ko_NothingBehind_NoFrame : PySem.W.kitOne K (.ref c.NothingBehind) (.ref c.NoFrame) = some false
  ko_OtherParts_NoFrame : PySem.W.kitOne K (.ref c.OtherParts) (.ref c.NoFrame) = some false
  ko_BadRows_NoFrame : PySem.W.kitOne K (.ref c.BadRows) (.ref c.NoFrame) = some false
  ko_NotWhole_NoFrame : PySem.W.kitOne K (.ref c.NotWhole) (.ref c.NoFrame) = some false
  ko_BadText_NoFrame : PySem.W.kitOne K (.ref c.BadText) (.ref c.NoFrame) = some false
  ko_BadFrame_NoFrame : PySem.W.kitOne K (.ref c.BadFrame) (.ref c.NoFrame) = some false
  ko_BadScheme_NoFrame : PySem.W.kitOne K (.ref c.BadScheme) (.ref c.NoFrame) = some false
  ko_RestError_NoFrame : PySem.W.kitOne K (.ref c.RestError) (.ref c.NoFrame) = some false
  ko_NothingKnown_InvalidCommand : PySem.W.kitOne K (.ref c.NothingKnown) (.ref c.InvalidCommand) = some false
  ko_BadCommand_InvalidCommand : PySem.W.kitOne K (.ref c.BadCommand) (.ref c.InvalidCommand) = some false
  ko_NoFrame_InvalidCommand : PySem.W.kitOne K (.ref c.NoFrame) (.ref c.InvalidCommand) = some false
  ko_InvalidCommand_InvalidCommand : PySem.W.kitOne K (.ref c.InvalidCommand) (.ref c.InvalidCommand) = some true
  ko_NothingToUndo_InvalidCommand : PySem.W.kitOne K (.ref c.NothingToUndo) (.ref c.InvalidCommand) = some false
  ko_NothingBehind_InvalidCommand : PySem.W.kitOne K (.ref c.NothingBehind) (.ref c.InvalidCommand) = some false
  ko_OtherParts_InvalidCommand : PySem.W.kitOne K (.ref c.OtherParts) (.ref c.InvalidCommand) = some false
  ko_BadRows_InvalidCommand : PySem.W.kitOne K (.ref c.BadRows) (.ref c.InvalidCommand) = some false
  ko_NotWhole_InvalidCommand : PySem.W.kitOne K (.ref c.NotWhole) (.ref c.InvalidCommand) = some false
  ko_BadText_InvalidCommand : PySem.W.kitOne K (.ref c.BadText) (.ref c.InvalidCommand) = some false
  ko_BadFrame_InvalidCommand : PySem.W.kitOne K (.ref c.BadFrame) (.ref c.InvalidCommand) = some false
  ko_BadScheme_InvalidCommand : PySem.W.kitOne K (.ref c.BadScheme) (.ref c.InvalidCommand) = some false
  ko_RestError_InvalidCommand : PySem.W.kitOne K (.ref c.RestError) (.ref c.InvalidCommand) = some false
  ko_NothingKnown_NothingToUndo : PySem.W.kitOne K (.ref c.NothingKnown) (.ref c.NothingToUndo) = some false
  ko_BadCommand_NothingToUndo : PySem.W.kitOne K (.ref c.BadCommand) (.ref c.NothingToUndo) = some false
  ko_NoFrame_NothingToUndo : PySem.W.kitOne K (.ref c.NoFrame) (.ref c.NothingToUndo) = some false
  ko_InvalidCommand_NothingToUndo : PySem.W.kitOne K (.ref c.InvalidCommand) (.ref c.NothingToUndo) = some false
  ko_NothingToUndo_NothingToUndo : PySem.W.kitOne K (.ref c.NothingToUndo) (.ref c.NothingToUndo) = some true
  ko_NothingBehind_NothingToUndo : PySem.W.kitOne K (.ref c.NothingBehind) (.ref c.NothingToUndo) = some false
  ko_OtherParts_NothingToUndo : PySem.W.kitOne K (.ref c.OtherParts) (.ref c.NothingToUndo) = some false
  ko_BadRows_NothingToUndo : PySem.W.kitOne K (.ref c.BadRows) (.ref c.NothingToUndo) = some false
  ko_NotWhole_NothingToUndo : PySem.W.kitOne K (.ref c.NotWhole) (.ref c.NothingToUndo) = some false
  ko_BadText_NothingToUndo : PySem.W.kitOne K (.ref c.BadText) (.ref c.NothingToUndo) = some false
  ko_BadFrame_NothingToUndo : PySem.W.kitOne K (.ref c.BadFrame) (.ref c.NothingToUndo) = some false
  ko_BadScheme_NothingToUndo : PySem.W.kitOne K (.ref c.BadScheme) (.ref c.NothingToUndo) = some false
  ko_RestError_NothingToUndo : PySem.W.kitOne K (.ref c.RestError) (.ref c.NothingToUndo) = some false
  ko_NothingKnown_NothingKnown : PySem.W.kitOne K (.ref c.NothingKnown) (.ref c.NothingKnown) = some true
  ko_BadCommand_NothingKnown : PySem.W.kitOne K (.ref c.BadCommand) (.ref c.NothingKnown) = some false
  ko_NoFrame_NothingKnown : PySem.W.kitOne K (.ref c.NoFrame) (.ref c.NothingKnown) = some false
  ko_InvalidCommand_NothingKnown : PySem.W.kitOne K (.ref c.InvalidCommand) (.ref c.NothingKnown) = some false
  ko_NothingToUndo_NothingKnown : PySem.W.kitOne K (.ref c.NothingToUndo) (.ref c.NothingKnown) = some false
  ko_NothingBehind_NothingKnown : PySem.W.kitOne K (.ref c.NothingBehind) (.ref c.NothingKnown) = some false
  ko_OtherParts_NothingKnown : PySem.W.kitOne K (.ref c.OtherParts) (.ref c.NothingKnown) = some false
  ko_BadRows_NothingKnown : PySem.W.kitOne K (.ref c.BadRows) (.ref c.NothingKnown) = some false
  ko_NotWhole_NothingKnown : PySem.W.kitOne K (.ref c.NotWhole) (.ref c.NothingKnown) = some false
  ko_BadText_NothingKnown : PySem.W.kitOne K (.ref c.BadText) (.ref c.NothingKnown) = some false
  ko_BadFrame_NothingKnown : PySem.W.kitOne K (.ref c.BadFrame) (.ref c.NothingKnown) = some false
  ko_BadScheme_NothingKnown : PySem.W.kitOne K (.ref c.BadScheme) (.ref c.NothingKnown) = some false
  ko_RestError_NothingKnown : PySem.W.kitOne K (.ref c.RestError) (.ref c.NothingKnown) = some false
  ko_NothingKnown_BadCommand : PySem.W.kitOne K (.ref c.NothingKnown) (.ref c.BadCommand) = some false
  ko_BadCommand_BadCommand : PySem.W.kitOne K (.ref c.BadCommand) (.ref c.BadCommand) = some true
  ko_NoFrame_BadCommand : PySem.W.kitOne K (.ref c.NoFrame) (.ref c.BadCommand) = some false
  ko_InvalidCommand_BadCommand : PySem.W.kitOne K (.ref c.InvalidCommand) (.ref c.BadCommand) = some false
  ko_NothingToUndo_BadCommand : PySem.W.kitOne K (.ref c.NothingToUndo) (.ref c.BadCommand) = some false
  ko_NothingBehind_BadCommand : PySem.W.kitOne K (.ref c.NothingBehind) (.ref c.BadCommand) = some false
  ko_OtherParts_BadCommand : PySem.W.kitOne K (.ref c.OtherParts) (.ref c.BadCommand) = some false
  ko_BadRows_BadCommand : PySem.W.kitOne K (.ref c.BadRows) (.ref c.BadCommand) = some false
  ko_NotWhole_BadCommand : PySem.W.kitOne K (.ref c.NotWhole) (.ref c.BadCommand) = some false
  ko_BadText_BadCommand : PySem.W.kitOne K (.ref c.BadText) (.ref c.BadCommand) = some false
  ko_BadFrame_BadCommand : PySem.W.kitOne K (.ref c.BadFrame) (.ref c.BadCommand) = some false
  ko_BadScheme_BadCommand : PySem.W.kitOne K (.ref c.BadScheme) (.ref c.BadCommand) = some false
  ko_RestError_BadCommand : PySem.W.kitOne K (.ref c.RestError) (.ref c.BadCommand) = some false
  z_repr : mg "repr" = none
  ko_NothingKnown_TypeError : PySem.W.kitOne K (.ref c.NothingKnown) (.type "TypeError") = some false
  ko_BadCommand_TypeError : PySem.W.kitOne K (.ref c.BadCommand) (.type "TypeError") = some false
  ko_NoFrame_TypeError : PySem.W.kitOne K (.ref c.NoFrame) (.type "TypeError") = some false
  ko_InvalidCommand_TypeError : PySem.W.kitOne K (.ref c.InvalidCommand) (.type "TypeError") = some false
  ko_NothingToUndo_TypeError : PySem.W.kitOne K (.ref c.NothingToUndo) (.type "TypeError") = some false
  ko_NothingBehind_TypeError : PySem.W.kitOne K (.ref c.NothingBehind) (.type "TypeError") = some false
  ko_OtherParts_TypeError : PySem.W.kitOne K (.ref c.OtherParts) (.type "TypeError") = some false
  ko_BadRows_TypeError : PySem.W.kitOne K (.ref c.BadRows) (.type "TypeError") = some false
  ko_NotWhole_TypeError : PySem.W.kitOne K (.ref c.NotWhole) (.type "TypeError") = some false
  ko_BadText_TypeError : PySem.W.kitOne K (.ref c.BadText) (.type "TypeError") = some false
  ko_BadFrame_TypeError : PySem.W.kitOne K (.ref c.BadFrame) (.type "TypeError") = some false
  ko_BadScheme_TypeError : PySem.W.kitOne K (.ref c.BadScheme) (.type "TypeError") = some false
  ko_RestError_TypeError : PySem.W.kitOne K (.ref c.RestError) (.type "TypeError") = some false
  z_TypeError : mg "TypeError" = none
  ko_NothingKnown_LookupError : PySem.W.kitOne K (.ref c.NothingKnown) (.type "LookupError") = some false
  ko_BadCommand_LookupError : PySem.W.kitOne K (.ref c.BadCommand) (.type "LookupError") = some false
  ko_NoFrame_LookupError : PySem.W.kitOne K (.ref c.NoFrame) (.type "LookupError") = some false
  ko_InvalidCommand_LookupError : PySem.W.kitOne K (.ref c.InvalidCommand) (.type "LookupError") = some false
  ko_NothingToUndo_LookupError : PySem.W.kitOne K (.ref c.NothingToUndo) (.type "LookupError") = some false
  ko_NothingBehind_LookupError : PySem.W.kitOne K (.ref c.NothingBehind) (.type "LookupError") = some false
  ko_OtherParts_LookupError : PySem.W.kitOne K (.ref c.OtherParts) (.type "LookupError") = some false
  ko_BadRows_LookupError : PySem.W.kitOne K (.ref c.BadRows) (.type "LookupError") = some false
  ko_NotWhole_LookupError : PySem.W.kitOne K (.ref c.NotWhole) (.type "LookupError") = some false
  ko_BadText_LookupError : PySem.W.kitOne K (.ref c.BadText) (.type "LookupError") = some false
  ko_BadFrame_LookupError : PySem.W.kitOne K (.ref c.BadFrame) (.type "LookupError") = some false
  ko_BadScheme_LookupError : PySem.W.kitOne K (.ref c.BadScheme) (.type "LookupError") = some false
  ko_RestError_LookupError : PySem.W.kitOne K (.ref c.RestError) (.type "LookupError") = some false
  z_LookupError : mg "LookupError" = none
  ko_NothingKnown_ValueError : PySem.W.kitOne K (.ref c.NothingKnown) (.type "ValueError") = some false
  ko_BadCommand_ValueError : PySem.W.kitOne K (.ref c.BadCommand) (.type "ValueError") = some false
  ko_NoFrame_ValueError : PySem.W.kitOne K (.ref c.NoFrame) (.type "ValueError") = some false
  ko_InvalidCommand_ValueError : PySem.W.kitOne K (.ref c.InvalidCommand) (.type "ValueError") = some false
  ko_NothingToUndo_ValueError : PySem.W.kitOne K (.ref c.NothingToUndo) (.type "ValueError") = some false
  ko_NothingBehind_ValueError : PySem.W.kitOne K (.ref c.NothingBehind) (.type "ValueError") = some false
  ko_OtherParts_ValueError : PySem.W.kitOne K (.ref c.OtherParts) (.type "ValueError") = some false
  ko_BadRows_ValueError : PySem.W.kitOne K (.ref c.BadRows) (.type "ValueError") = some false
  ko_NotWhole_ValueError : PySem.W.kitOne K (.ref c.NotWhole) (.type "ValueError") = some false
  ko_BadText_ValueError : PySem.W.kitOne K (.ref c.BadText) (.type "ValueError") = some false
  ko_BadFrame_ValueError : PySem.W.kitOne K (.ref c.BadFrame) (.type "ValueError") = some false
  ko_BadScheme_ValueError : PySem.W.kitOne K (.ref c.BadScheme) (.type "ValueError") = some false
  ko_RestError_ValueError : PySem.W.kitOne K (.ref c.RestError) (.type "ValueError") = some false
  z_ValueError : mg "ValueError" = none
  ko_NothingKnown_RuntimeError : PySem.W.kitOne K (.ref c.NothingKnown) (.type "RuntimeError") = some false
  ko_BadCommand_RuntimeError : PySem.W.kitOne K (.ref c.BadCommand) (.type "RuntimeError") = some false
  ko_NoFrame_RuntimeError : PySem.W.kitOne K (.ref c.NoFrame) (.type "RuntimeError") = some false
  ko_InvalidCommand_RuntimeError : PySem.W.kitOne K (.ref c.InvalidCommand) (.type "RuntimeError") = some false
  ko_NothingToUndo_RuntimeError : PySem.W.kitOne K (.ref c.NothingToUndo) (.type "RuntimeError") = some false
  ko_NothingBehind_RuntimeError : PySem.W.kitOne K (.ref c.NothingBehind) (.type "RuntimeError") = some false
  ko_OtherParts_RuntimeError : PySem.W.kitOne K (.ref c.OtherParts) (.type "RuntimeError") = some false
  ko_BadRows_RuntimeError : PySem.W.kitOne K (.ref c.BadRows) (.type "RuntimeError") = some false
  ko_NotWhole_RuntimeError : PySem.W.kitOne K (.ref c.NotWhole) (.type "RuntimeError") = some false
  ko_BadText_RuntimeError : PySem.W.kitOne K (.ref c.BadText) (.type "RuntimeError") = some false
  ko_BadFrame_RuntimeError : PySem.W.kitOne K (.ref c.BadFrame) (.type "RuntimeError") = some false
  ko_BadScheme_RuntimeError : PySem.W.kitOne K (.ref c.BadScheme) (.type "RuntimeError") = some false
  ko_RestError_RuntimeError : PySem.W.kitOne K (.ref c.RestError) (.type "RuntimeError") = some false
  z_RuntimeError : mg "RuntimeError" = none
  ko_NothingKnown_ArithmeticError : PySem.W.kitOne K (.ref c.NothingKnown) (.type "ArithmeticError") = some false
  ko_BadCommand_ArithmeticError : PySem.W.kitOne K (.ref c.BadCommand) (.type "ArithmeticError") = some false
  ko_NoFrame_ArithmeticError : PySem.W.kitOne K (.ref c.NoFrame) (.type "ArithmeticError") = some false
  ko_InvalidCommand_ArithmeticError : PySem.W.kitOne K (.ref c.InvalidCommand) (.type "ArithmeticError") = some false
  ko_NothingToUndo_ArithmeticError : PySem.W.kitOne K (.ref c.NothingToUndo) (.type "ArithmeticError") = some false
  ko_NothingBehind_ArithmeticError : PySem.W.kitOne K (.ref c.NothingBehind) (.type "ArithmeticError") = some false
  ko_OtherParts_ArithmeticError : PySem.W.kitOne K (.ref c.OtherParts) (.type "ArithmeticError") = some false
  ko_BadRows_ArithmeticError : PySem.W.kitOne K (.ref c.BadRows) (.type "ArithmeticError") = some false
  ko_NotWhole_ArithmeticError : PySem.W.kitOne K (.ref c.NotWhole) (.type "ArithmeticError") = some false
  ko_BadText_ArithmeticError : PySem.W.kitOne K (.ref c.BadText) (.type "ArithmeticError") = some false
  ko_BadFrame_ArithmeticError : PySem.W.kitOne K (.ref c.BadFrame) (.type "ArithmeticError") = some false
  ko_BadScheme_ArithmeticError : PySem.W.kitOne K (.ref c.BadScheme) (.type "ArithmeticError") = some false
  ko_RestError_ArithmeticError : PySem.W.kitOne K (.ref c.RestError) (.type "ArithmeticError") = some false
  z_ArithmeticError : mg "ArithmeticError" = none
  sb_NothingKnown_RestError : PySem.W.subIn K (.ref c.NothingKnown) (.ref c.RestError) = some true
  sb_BadCommand_RestError : PySem.W.subIn K (.ref c.BadCommand) (.ref c.RestError) = some true
  sb_NoFrame_RestError : PySem.W.subIn K (.ref c.NoFrame) (.ref c.RestError) = some true
  sb_InvalidCommand_RestError : PySem.W.subIn K (.ref c.InvalidCommand) (.ref c.RestError) = some true
  sb_NothingToUndo_RestError : PySem.W.subIn K (.ref c.NothingToUndo) (.ref c.RestError) = some true
  sb_NothingBehind_RestError : PySem.W.subIn K (.ref c.NothingBehind) (.ref c.RestError) = some true
  sb_OtherParts_RestError : PySem.W.subIn K (.ref c.OtherParts) (.ref c.RestError) = some true
  sb_BadRows_RestError : PySem.W.subIn K (.ref c.BadRows) (.ref c.RestError) = some true
  sb_NotWhole_RestError : PySem.W.subIn K (.ref c.NotWhole) (.ref c.RestError) = some true
  sb_BadText_RestError : PySem.W.subIn K (.ref c.BadText) (.ref c.RestError) = some true
  sb_BadFrame_RestError : PySem.W.subIn K (.ref c.BadFrame) (.ref c.RestError) = some true
  sb_BadScheme_RestError : PySem.W.subIn K (.ref c.BadScheme) (.ref c.RestError) = some true
  xr_RestError : PySem.W.excIn K c.RestError exTl "Exception.__new__" = true
section
variable {P : Program} {w : World} {K : PySem.W.Frag} {mg : Str → Option Value} {base : Heap}
def m__law_draw (_ : CA) : Addr → Addr → Dk → List D → Res (D × Dk) := drawR
theorem fn_draw {f : Addr} {fd : FuncData} (F : Fun K "_law_draw" "_law_draw" s__law_draw f fd) (zi : mg "int" = none) : FnG P w K mg base CX0 1 f fd ["_law_deck_here", "_law_many"] (spK K 1 drawR) := by
  refine FnG.body F sc__law_draw (spK_len rfl) fun cdv A outer s H vs Q E hg hr hsp => ?_
  obtain ⟨G, a, q, k, vr, ds, rfl, sm, ga, gq, ⟨da, dq⟩, dd, hl, z⟩ := hsp
  match ds, z with
  | [.int m], z =>
  have z : KRz K G H a q Q (if 0 < m ∧ m < 10000000000000000000000000000000000000000 ∧ k.l.length ≤ 1000 then .ok (.int (drawM k m).1, (drawM k m).2) else .stuck) := z
  have hm : 0 < m ∧ m < 10000000000000000000000000000000000000000 ∧ k.l.length ≤ 1000 := Decidable.byContradiction fun h => by rw [if_neg h] at z; exact z.elim
  rw [if_pos hm] at z
  obtain ⟨m0, m1, kl⟩ := hm
  match vr, dd with
  | [_], .cons (.int _) .nil =>
  have hu := hr.units
  refine ⟨_, PSs.nox (pss_cons (ps_if (pt_cmpR (op_neq hu) (pe_dget (hu_of hr) (pv 0) pe_str (by intro _ _; rfl)) (pe_lst pa_nil) (nomark _))
    (pss_cons (ps_set (i := 2) sc__law_draw.nd rfl (Or.inl rfl) (pe_callTy call_int1 (by rfl) zi PyProof.Rows.boot_int (pa_cons (pe_bm0 PySem.F.plainAttrs_list PySem.F.slot_list_pop PySem.F.type_list_pop mt_pop (pe_dget (hu_of hr) (pv 0) pe_str (by intro _ _; rfl))) pa_nil)))
      (pss_cons (ps_if (pt_cmpR op_ge (pv 2) (pv 1) (nomark _)) (pss_one (ps_expr (pe_bm PySem.F.plainAttrs_list PySem.F.slot_list_append PySem.F.type_list_append mt_append (pe_dget (hu_of hr) (pv 0) pe_str (by intro _ _; rfl)) (pa_cons (pe_op op_fdivW (pv 2) (pv 1)) pa_nil)))) pss_nil)
        (pss_one (ps_ret (pe_op op_mod (pv 2) (pv 1)))))) pss_nil)
    (pss_cons (ps_set (i := 3) sc__law_draw.nd rfl (Or.inl rfl) (pe_op op_mod (pe_callTy call_int1 (by rfl) zi PyProof.Rows.boot_int (pa_cons (pe_op op_add (pe_op op_mul (pe_callTy call_int1 (by rfl) zi PyProof.Rows.boot_int (pa_cons (pe_dget (hu_of hr) (pv 0) pe_str (by intro _ _; rfl)) pa_nil)) pe_int) pe_int) pa_nil)) pe_int))
      (pss_cons (ps_dput (hu_of hr) (pv 0) pe_str (pv 3) rfl)
        (pss_cons (ps_set (i := 3) sc__law_draw.nd rfl (Or.inl rfl) (pe_op op_mod (pe_callTy call_int1 (by rfl) zi PyProof.Rows.boot_int (pa_cons (pe_op op_add (pe_op op_mul (pv 3) (pv 3)) (pe_op op_mul pe_int (pv 3))) pa_nil)) pe_int))
          (pss_one (ps_ret (pe_op op_mod (pe_op op_fdiv (pv 3) pe_int) (pv 1)))))))), ?_⟩
  have lk : DGet H a (.str "left") (some (.ref q)) := .inl ⟨_, .inr "left", .inl da, rfl, lk_left.symm⟩
  refine ⟨_, rfl, a, .ref q, rfl, lk, Nat.zero_le _, fun p hp => ?_⟩
  have npa : p ≠ a := fun e => by rw [e, da] at hp; cases hp
  have npq : p ≠ q := fun e => by rw [e, dq] at hp; cases hp
  have naq : a ≠ q := fun e => by rw [e, dq] at da; cases da
  have s1 : Same H (upd H p (.lst [])) := fun b u e => by rw [upd_ne (ne_of_none e hp)]; exact e
  have e1 := s1 _ _ da
  have e2 := s1 _ _ dq
  refine ⟨G, .lst (k.l.map .int), .lst [], sm.trans s1, .own rfl ⟨_, e2, by rw [List.length_map, sizeLine_eq]; omega, dds_ints _⟩, .own rfl ⟨_, upd_same, Nat.zero_le _, .nil⟩, ?_⟩
  refine ⟨plain_ints _, rfl, Nat.le_trans (Nat.min_le_right _ _) (by decide), trivial, _, rfl, ?_⟩
  show if (!PyData.eqv (D.lst (k.l.map D.int)).py (D.lst []).py) = true then _ else _
  rw [eqv_nil]
  have fin : ∀ {d : Int} {l' : List Int} {b' : Int} {H' : Hp}, drawM k m = (d, ⟨l', b'⟩) → Same G H' → (∀ b o, H b = some o → b ≠ a → b ≠ q → H' b = some o) → DeckAt H' a q l' b' → Q (.int d) H' := fun {d l' b' H'} e s2 kp dk => by
    rw [e] at z
    exact z (.int d) G H' (Same.refl _) s2 kp (fun b o h _ _ _ _ => h) ga gq dk (.int d)
  have keep : ∀ {H' : Hp}, (∀ b o, H b = some o → b ≠ a → b ≠ q → H' b = some o) → Same G H' := fun {H'} kp b o h => kp b o (sm b o h) (ne_of_none h ga) (ne_of_none h gq)
  cases hk : k.l with
  | nil =>
    refine iteF ?_
    have lkb : DGet (upd H p (.lst [])) a (.str "blend") (some (.int k.b)) := .inl ⟨_, .inr "blend", .inl e1, rfl, lk_blend.symm⟩
    refine ⟨_, rfl, a, .int k.b, rfl, lkb, .inl ⟨_, rfl, k.b, 69621, rfl, rfl, .inr ⟨by decide, by decide⟩, _, 17, rfl, rfl, .inl ⟨_, rfl, _, 2147483587, rfl, rfl, (by show (0 : Int) < 2147483587; decide), ?_⟩⟩⟩
    have b0 := Int.emod_nonneg (k.b * 69621 + 17) (b := 2147483587) (by decide)
    have b1 := Int.emod_lt_of_pos (k.b * 69621 + 17) (b := 2147483587) (by decide)
    refine ⟨_, rfl, _, rfl, a, _, rfl, .inl ⟨_, .inr "blend", e1, rfl, by show 2 < sizeLine; decide, rfl⟩, ?_⟩
    refine ⟨_, rfl, _, rfl, _, _, rfl, rfl, .inl ⟨by omega, by omega⟩, _, rfl, 48271, _, rfl, rfl, .inl ⟨by decide, by decide⟩, _, _, rfl, rfl, .inl ⟨_, rfl, _, 2147483579, rfl, rfl, (by show (0 : Int) < 2147483579; decide), ?_⟩⟩
    refine ⟨_, rfl, _, 64, rfl, rfl, ⟨by decide, by decide⟩, _, rfl, _, m, rfl, rfl, m0, ?_⟩
    rw [put_blend]
    have kp : ∀ b o, H b = some o → b ≠ a → b ≠ q → upd (upd H p (.lst [])) a (.dK [(.inr "left", .ref q), (.inr "blend", .int ((k.b * 69621 + 17) % 2147483587))]) b = some o := fun b o h h1 _ => by
      rw [upd_ne h1]; exact s1 b o h
    refine fin (l' := k.l) (by unfold drawM; rw [hk]; rfl) (keep kp) kp ⟨upd_same, ?_⟩
    rw [upd_ne naq.symm, ← dq]; exact e2.trans dq.symm
  | cons c0 r0 =>
    refine iteT ?_
    have lk2 : DGet (upd H p (.lst [])) a (.str "left") (some (.ref q)) := .inl ⟨_, .inr "left", .inl e1, rfl, lk_left.symm⟩
    obtain ⟨c, hc⟩ : ∃ c, k.l.getLast? = some c := by
      rw [hk]; exact ⟨_, List.getLast?_eq_some_getLast (by simp)⟩
    have hg : (k.l.map V.int)[(k.l.map V.int).length - 1]? = some (.int c) := by
      rw [List.length_map, List.getElem?_map, ← List.getLast?_eq_getElem?, hc]; rfl
    refine ⟨_, rfl, a, .ref q, rfl, lk2, .inl ⟨rfl, _, SqL.of e2⟩, q, _, .int c, rfl, rfl, e2, hg, .inl ⟨c, rfl, ?_⟩⟩
    have dl : (k.l.map V.int).dropLast = k.l.dropLast.map V.int := (List.map_dropLast).symm
    rw [dl]
    refine ⟨_, rfl, _, rfl, c, m, rfl, rfl, _, rfl, ?_⟩
    have e3 : upd (upd H p (.lst [])) q (.lst (k.l.dropLast.map V.int)) a = some (.dK [(.inr "left", .ref q), (.inr "blend", .int k.b)]) := by rw [upd_ne naq]; exact e1
    have lk3 : DGet (upd (upd H p (.lst [])) q (.lst (k.l.dropLast.map V.int))) a (.str "left") (some (.ref q)) := .inl ⟨_, .inr "left", .inl e3, rfl, lk_left.symm⟩
    have kp : ∀ l', ∀ b o, H b = some o → b ≠ a → b ≠ q → upd (upd (upd H p (.lst [])) q (.lst (k.l.dropLast.map V.int))) q (.lst l') b = some o := fun l' b o h _ h2 => by
      rw [upd_ne h2, upd_ne h2]; exact s1 b o h
    have kp0 : ∀ b o, H b = some o → b ≠ a → b ≠ q → upd (upd H p (.lst [])) q (.lst (k.l.dropLast.map V.int)) b = some o := fun b o h _ h2 => by
      rw [upd_ne h2]; exact s1 b o h
    by_cases hmc : m ≤ c
    · rw [decide_eq_true hmc]
      refine iteT ?_
      refine ⟨_, rfl, a, .ref q, rfl, lk3, .inl ⟨rfl, _, SqL.of upd_same⟩, _, rfl, _, rfl, c, m, rfl, rfl, wide_div (b := 140) m0 (by omega) (by decide) (by decide), q, _, _, rfl, rfl, upd_same, ?_, ?_⟩
      · rw [List.length_map, List.length_dropLast, sizeLine_eq]; omega
      · refine ⟨_, rfl, _, rfl, c, m, rfl, rfl, m0, ?_⟩
        refine fin (l' := k.l.dropLast ++ [c / m]) (b' := k.b) (by unfold drawM; rw [hc]; simp only [if_pos hmc]) (keep (kp _)) (kp _) ⟨?_, ?_⟩
        · rw [upd_ne naq]; exact e3
        · rw [upd_same, List.map_append]; rfl
    · rw [decide_eq_false hmc]
      refine iteF ?_
      refine ⟨_, rfl, _, rfl, c, m, rfl, rfl, m0, ?_⟩
      exact fin (l' := k.l.dropLast) (b' := k.b) (by unfold drawM; rw [hc]; simp only [if_neg hmc]) (keep kp0) kp0 ⟨e3, upd_same⟩
theorem ok__law_draw (R : PR P K mg) : FnG P w K mg base CX0 1 R.f__law_draw R.fd__law_draw ["_law_deck_here", "_law_many"] (spK K 1 (m__law_draw R.c)) := fn_draw R.F__law_draw R.z_int

theorem fn_deck {f : Addr} {fd : FuncData} (F : Fun K "_law_deck" "_law_deck" s__law_deck f fd) (zi : mg "int" = none) : FnG P w K mg base CX0 1 f fd ["_law_script"] (spDeck K) := by
  refine FnG.body F sc__law_deck (fun vs H Q E h => by obtain ⟨a, ns, rfl, _⟩ := h; rfl) fun cdv A outer s H vs Q E hg hr hsp => ?_
  obtain ⟨a, ns, rfl, hS, hl, z⟩ := hsp
  refine ⟨_, PSs.nox (pss_cons (ps_set (i := 1) sc__law_deck.nd rfl (Or.inl rfl) pe_int) (pss_cons (ps_for PassesOwn.never rfl (pi_list (pe_slice sl_list (pv 0) po_none (po_some pe_int))) (pg_name (i := 2) sc__law_deck.nd rfl (Or.inl rfl))
      (pss_one (ps_set (i := 1) sc__law_deck.nd rfl (Or.inl rfl) (pe_op op_mod (pe_callTy call_int1 (by rfl) zi PyProof.Rows.boot_int (pa_cons (pe_op op_add (pe_op op_add (pe_op op_mul (pv 1) pe_int) (pe_op op_mod (pe_callTy call_int1 (by rfl) zi PyProof.Rows.boot_int (pa_cons (pv 2) pa_nil)) pe_int)) pe_int) pa_nil)) pe_int))))
    (pss_one (ps_ret (pe_disp (pps_cons pe_str (pe_revL (pe_lc (own := [("_law_cell", 2)]) rfl (by exact sc__law_deck.nd) (pi_list (pe_slice sl_list (pv 0) po_none (po_some pe_int))) (by exact blkOk_by (N := N__law_deck) (sc := defScope s__law_deck) (own := [("_law_cell", 2)]) (by decide +kernel))
        (fun _ _ _ _ _ => pg_name (i := 2) (by exact sc__law_deck.nd) rfl (by first | exact Or.inl rfl | exact Or.inr rfl)) (fun _ _ _ _ _ => pts_one (pt_cmpR op_ge (pv 2) (pe_op op_pow pe_int pe_int) (nomark _))) (fun _ _ _ _ _ => pv 2)))
      (pps_cons pe_str (pv 1) pps_nil)) rfl rfl (by intro z; cases z) (by decide)))))), ?_⟩
  refine ⟨_, rfl, 63, rfl, a, _, rfl, hS, fun p hp => ⟨p, rfl, ⟨_, SqL.of upd_same⟩, ?_⟩⟩
  rw [cutV_ints]
  have s1 : Same H (upd H p (.lst ((cutI ns none (some 63)).map V.int))) := fun b u e => by rw [upd_ne (ne_of_none e hp)]; exact e
  refine for_list (xs := (cutI ns none (some 63)).map V.int) (fun i σ H' => ∃ (b : Int) (v : Option V), σ = [some (.ref a), some (.int b), v] ∧ Same (upd H p (.lst ((cutI ns none (some 63)).map V.int))) H') ⟨1086101, none, rfl, Same.refl _⟩ (fun i σ H' _ ⟨b, v, _, e⟩ => SqL.of (e _ _ upd_same)) ?_ ?_
  · rintro i x σ H' hx ⟨b, v, rfl, e⟩
    obtain ⟨c, rfl, _⟩ := int_at hx
    exact ⟨_, rfl, b, 48271, rfl, rfl, .inr ⟨by decide, by decide⟩, _, rfl, .inl ⟨c, rfl, c, 2147483629, rfl, rfl, (by show (0 : Int) < 2147483629; decide), _, _, rfl, rfl, _, 17, rfl, rfl, .inl ⟨_, rfl, _, 2147483587, rfl, rfl, (by show (0 : Int) < 2147483587; decide), _, _, rfl, e⟩⟩⟩
  · rintro σ H' ⟨b, v, rfl, e⟩
    have s2 : Same H H' := s1.trans e
    intro p1 hp1
    have s3 : Same H' (upd H' p1 (.dK [])) := fun b u e => by rw [upd_ne (ne_of_none e hp1)]; exact e
    refine ⟨_, rfl, 63, rfl, a, _, rfl, s3.seq (s2.seq hS), fun p2 hp2 => ⟨p2, rfl, ⟨_, SqL.of upd_same⟩, fun D0 hD => ?_⟩⟩
    rw [cutV_ints] at hD ⊢
    have np21 : p2 ≠ p1 := fun e => by rw [e, upd_same] at hp2; cases hp2
    have hB1 : upd (upd H' p1 (.dK [])) p2 (.lst ((cutI ns none (some 63)).map V.int)) p1 = some (.dK []) := by rw [upd_ne np21.symm, upd_same]
    have s4 : Same H' (upd (upd H' p1 (.dK [])) p2 (.lst ((cutI ns none (some 63)).map V.int))) := fun b u e => by
      rw [upd_ne (ne_of_none (s3 b u e) hp2)]; exact s3 b u e
    refine lc_list (xs := (cutI ns none (some 63)).map V.int) (fun i H2 => ∃ acc : List Int, acc.length ≤ i ∧ H2 D0 = some (.lst (acc.map V.int)) ∧ Same (upd (upd H' p1 (.dK [])) p2 (.lst ((cutI ns none (some 63)).map V.int))) H2)
      ⟨[], Nat.le_refl _, upd_same, fun b u e => by rw [upd_ne (ne_of_none e hD)]; exact e⟩ (fun i H2 _ ⟨acc, _, _, e⟩ => SqL.of (e _ _ upd_same)) ?_ ?_
    · rintro i x H2 hx ⟨acc, la, hd, e2⟩
      obtain ⟨c, rfl, hi⟩ := int_at hx
      refine ⟨rfl, _, rfl, 10, 18, rfl, rfl, ⟨by decide, by decide, by decide⟩, c, _, rfl, rfl, _, rfl, ?_⟩
      refine ite2 (fun _ => ?_) (fun _ => ⟨acc, Nat.le_succ_of_le la, hd, e2⟩)
      refine ⟨_, rfl, _, hd, ?_, acc ++ [c], ?_, ?_, fun b u e => ?_⟩
      · have := cutI_len ns none (some 63)
        rw [List.length_map, sizeLine_eq]; omega
      · rw [List.length_append, List.length_singleton]; omega
      · rw [upd_same, List.map_append]; rfl
      · rw [upd_ne (ne_of_none e hD)]; exact e2 b u e
    · rintro H2 ⟨acc, la, hd, e2⟩
      refine ⟨D0, _, rfl, SqL.of hd, fun q hq => ?_⟩
      have hq1 : q ≠ p1 := fun e => by rw [e, e2 _ _ hB1] at hq; cases hq
      refine ⟨_, rfl, ?_, [(.inr "left", .ref q), (.inr "blend", .int b)], rfl, (by show 2 ≤ 15; decide), ?_⟩
      · rw [upd_ne hq1.symm]; exact e2 _ _ hB1
      · rw [merge2, ← List.map_reverse]
        have s5 : Same H H2 := (s2.trans s4).trans e2
        refine z p1 q acc.reverse b _ (fun b u e => ?_) (s2.free hp1) (s5.free hq) hq1.symm ?_ ⟨upd_same, ?_⟩
        · rw [upd_ne (ne_of_none e (s2.free hp1)), upd_ne (ne_of_none e (s5.free hq))]; exact s5 b u e
        · have := cutI_len ns none (some 63)
          rw [List.length_map] at la
          rw [List.length_reverse]; omega
        · rw [upd_ne hq1, upd_same]
theorem ok__law_deck (R : PR P K mg) : FnG P w K mg base CX0 1 R.f__law_deck R.fd__law_deck ["_law_script"] (spDeck K) := fn_deck R.F__law_deck R.z_int

def b__law_pick (c : CA) : SF := (sRet (eOp gIx (eV 1) (eK 0 1 (m__law_draw c) (aC (eCall gLen (aC (eV 1) aN)) aN))))
def m__law_pick (c : CA) : Addr → Addr → Dk → List D → Res (D × Dk) := runK (b__law_pick c) 0
theorem ok__law_pick (R : PR P K mg) : FnG P w K mg base CX0 2 R.f__law_pick R.fd__law_pick ["_law_deck_here", "_law_some"] (spK K 1 (m__law_pick R.c)) :=
  fn_K R.F__law_pick sc__law_pick 1 0 rfl rfl fun cdv A outer s H E hg hr => (dss_one (ds_ret (de_ix ix_seq opd_ix (dv 1) (de_K (ok__law_draw R) hg (hr.mono (by decide)) (by rfl) R.g__law_draw R.F__law_draw.kp R.b__law_draw passW0 (pv 0) (da_cons (de_callB call_len calld_len (by rfl) R.z_len PySem.boot_len (da_cons (dv 1) da_nil)) da_nil)) (by intro _ _; rfl))))
def b__law_made (c : CA) : SF := (sSeq (sIf (tB (eOp gLt (eV 0) (eC (.int 2)))) (sRet (eOp gIx (eN (nLst (aC (eN (nLst (aC (eExn1 c.BadScheme "part" (aC (eV 1) aN)) (aC (eExn1 c.BadScheme "part" (aC (eV 1) aN)) aN)))) (aC (eN (nLst (aC (eExn1 c.BadFrame "part" (aC (eV 1) aN)) (aC (eExn1 c.BadFrame "part" (aC (eV 1) aN)) aN)))) aN)))) (eV 0))) sNx)
  (sSeq (sIf (tB (eOp gLt (eV 0) (eC (.int 4)))) (sRet (eOp gIx (eN (nLst (aC (eN (nLst (aC (eExn1 c.BadText "place" (aC (eV 1) aN)) (aC (eExn1 c.BadText "place" (aC (eV 1) aN)) aN)))) (aC (eN (nLst (aC (eExn1 c.NotWhole "tables" (aC (eV 1) aN)) (aC (eExn1 c.NotWhole "tables" (aC (eV 1) aN)) aN)))) aN)))) (eOp gSub (eV 0) (eC (.int 2))))) sNx)
  (sSeq (sIf (tB (eOp gLt (eV 0) (eC (.int 6)))) (sRet (eOp gIx (eN (nLst (aC (eN (nLst (aC (eExn1 c.BadRows "row" (aC (eV 1) aN)) (aC (eExn1 c.BadRows "row" (aC (eV 1) aN)) aN)))) (aC (eN (nLst (aC (eExn1 c.OtherParts "part" (aC (eV 1) aN)) (aC (eExn1 c.OtherParts "part" (aC (eV 1) aN)) aN)))) aN)))) (eOp gSub (eV 0) (eC (.int 4))))) sNx)
  (sSeq (sIf (tB (eOp gEq (eV 0) (eC (.int 6)))) (sRet (eN (nLst (aC (eExn1 c.NothingBehind "steps" (aC (eV 1) aN)) (aC (eExn1 c.NothingBehind "steps" (aC (eV 1) aN)) aN))))) sNx)
  (sSeq (sSet 2 (eN (nLst (aC (eN (nLst (aC (eExn0 c.NothingToUndo) (aC (eExn0 c.NothingToUndo) aN)))) (aC (eN (nLst (aC (eExn0 c.InvalidCommand) (aC (eExn0 c.InvalidCommand) aN)))) (aC (eN (nLst (aC (eExn0 c.NoFrame) (aC (eExn0 c.NoFrame) aN)))) aN))))))
  (sRet (eOp gIx (eOp gAdd (eV 2) (eN (nLst (aC (eN (nLst (aC (eExn0 c.BadCommand) (aC (eExn0 c.BadCommand) aN)))) (aC (eN (nLst (aC (eExn0 c.NothingKnown) (aC (eExn0 c.NothingKnown) aN)))) aN))))) (eOp gSub (eV 0) (eC (.int 7))))))))))
def m__law_made (c : CA) : List D → Res D := fun ds => noErr (runP (b__law_made c) 1 ds)
theorem ok__law_made (R : PR P K mg) : FnG P w K mg base CX0 2 R.f__law_made R.fd__law_made ["_law_at", "_law_it"] (spP K 2 (m__law_made R.c)) :=
  fn_P R.F__law_made sc__law_made 1 rfl fun cdv A outer s H E hg hr => (dss_cons (ds_if (dt_cmp (op_ltt hr.units) opd_lt (dv 0) de_int (nomark _)) (dss_one (ds_ret (de_ix ix_seq opd_ix (dn_de (dn_lst (da_cons (dn_de (dn_lst (da_cons (de_exn1 R.ex_BadScheme (R.xf_BadScheme).choose_spec xt_BadScheme R.n_BadScheme_part (hr.mono (by decide)) (by rfl) R.c_BadScheme (da_cons (dv 1) da_nil)) (da_cons (de_exn1k R.ex_BadScheme (R.xf_BadScheme).choose_spec xt_BadScheme xk_BadScheme R.n_BadScheme_part (hr.mono (by decide)) (by rfl) R.c_BadScheme (dk_cons (dv 1) dk_nil)) da_nil)))) (da_cons (dn_de (dn_lst (da_cons (de_exn1 R.ex_BadFrame (R.xf_BadFrame).choose_spec xt_BadFrame R.n_BadFrame_part (hr.mono (by decide)) (by rfl) R.c_BadFrame (da_cons (dv 1) da_nil)) (da_cons (de_exn1k R.ex_BadFrame (R.xf_BadFrame).choose_spec xt_BadFrame xk_BadFrame R.n_BadFrame_part (hr.mono (by decide)) (by rfl) R.c_BadFrame (dk_cons (dv 1) dk_nil)) da_nil)))) da_nil)))) (dv 0) (by intro _ _; rfl)))) dss_nil)
    (dss_cons (ds_if (dt_cmp (op_ltt hr.units) opd_lt (dv 0) de_int (nomark _)) (dss_one (ds_ret (de_ix ix_seq opd_ix (dn_de (dn_lst (da_cons (dn_de (dn_lst (da_cons (de_exn1 R.ex_BadText (R.xf_BadText).choose_spec xt_BadText R.n_BadText_place (hr.mono (by decide)) (by rfl) R.c_BadText (da_cons (dv 1) da_nil)) (da_cons (de_exn1k R.ex_BadText (R.xf_BadText).choose_spec xt_BadText xk_BadText R.n_BadText_place (hr.mono (by decide)) (by rfl) R.c_BadText (dk_cons (dv 1) dk_nil)) da_nil)))) (da_cons (dn_de (dn_lst (da_cons (de_exn1 R.ex_NotWhole (R.xf_NotWhole).choose_spec xt_NotWhole R.n_NotWhole_tables (hr.mono (by decide)) (by rfl) R.c_NotWhole (da_cons (dv 1) da_nil)) (da_cons (de_exn1k R.ex_NotWhole (R.xf_NotWhole).choose_spec xt_NotWhole xk_NotWhole R.n_NotWhole_tables (hr.mono (by decide)) (by rfl) R.c_NotWhole (dk_cons (dv 1) dk_nil)) da_nil)))) da_nil)))) (de_op op_sub opd_sub (dv 0) de_int) (by intro _ _; rfl)))) dss_nil)
    (dss_cons (ds_if (dt_cmp (op_ltt hr.units) opd_lt (dv 0) de_int (nomark _)) (dss_one (ds_ret (de_ix ix_seq opd_ix (dn_de (dn_lst (da_cons (dn_de (dn_lst (da_cons (de_exn1 R.ex_BadRows (R.xf_BadRows).choose_spec xt_BadRows R.n_BadRows_row (hr.mono (by decide)) (by rfl) R.c_BadRows (da_cons (dv 1) da_nil)) (da_cons (de_exn1k R.ex_BadRows (R.xf_BadRows).choose_spec xt_BadRows xk_BadRows R.n_BadRows_row (hr.mono (by decide)) (by rfl) R.c_BadRows (dk_cons (dv 1) dk_nil)) da_nil)))) (da_cons (dn_de (dn_lst (da_cons (de_exn1 R.ex_OtherParts (R.xf_OtherParts).choose_spec xt_OtherParts R.n_OtherParts_part (hr.mono (by decide)) (by rfl) R.c_OtherParts (da_cons (dv 1) da_nil)) (da_cons (de_exn1k R.ex_OtherParts (R.xf_OtherParts).choose_spec xt_OtherParts xk_OtherParts R.n_OtherParts_part (hr.mono (by decide)) (by rfl) R.c_OtherParts (dk_cons (dv 1) dk_nil)) da_nil)))) da_nil)))) (de_op op_sub opd_sub (dv 0) de_int) (by intro _ _; rfl)))) dss_nil)
    (dss_cons (ds_if (dt_cmp (op_eqq hr.units) opd_eq (dv 0) de_int (nomark _)) (dss_one (ds_ret (dn_de (dn_lst (da_cons (de_exn1 R.ex_NothingBehind (R.xf_NothingBehind).choose_spec xt_NothingBehind R.n_NothingBehind_steps (hr.mono (by decide)) (by rfl) R.c_NothingBehind (da_cons (dv 1) da_nil)) (da_cons (de_exn1k R.ex_NothingBehind (R.xf_NothingBehind).choose_spec xt_NothingBehind xk_NothingBehind R.n_NothingBehind_steps (hr.mono (by decide)) (by rfl) R.c_NothingBehind (dk_cons (dv 1) dk_nil)) da_nil)))))) dss_nil)
    (dss_cons (ds_set sc__law_made.nd rfl (Or.inl rfl) (dn_de (dn_lst (da_cons (dn_de (dn_lst (da_cons (de_exn0 R.ex_NothingToUndo (R.xf_NothingToUndo).choose_spec xt_NothingToUndo (hr.mono (by decide)) (by rfl) R.c_NothingToUndo) (da_cons (de_exn0 R.ex_NothingToUndo (R.xf_NothingToUndo).choose_spec xt_NothingToUndo (hr.mono (by decide)) (by rfl) R.c_NothingToUndo) da_nil)))) (da_cons (dn_de (dn_lst (da_cons (de_exn0 R.ex_InvalidCommand (R.xf_InvalidCommand).choose_spec xt_InvalidCommand (hr.mono (by decide)) (by rfl) R.c_InvalidCommand) (da_cons (de_exn0 R.ex_InvalidCommand (R.xf_InvalidCommand).choose_spec xt_InvalidCommand (hr.mono (by decide)) (by rfl) R.c_InvalidCommand) da_nil)))) (da_cons (dn_de (dn_lst (da_cons (de_exn0 R.ex_NoFrame (R.xf_NoFrame).choose_spec xt_NoFrame (hr.mono (by decide)) (by rfl) R.c_NoFrame) (da_cons (de_exn0 R.ex_NoFrame (R.xf_NoFrame).choose_spec xt_NoFrame (hr.mono (by decide)) (by rfl) R.c_NoFrame) da_nil)))) da_nil))))))
    (dss_one (ds_ret (de_ix ix_seq opd_ix (de_op op_addA opd_add (dv 2) (dn_de (dn_lst (da_cons (dn_de (dn_lst (da_cons (de_exn0 R.ex_BadCommand (R.xf_BadCommand).choose_spec xt_BadCommand (hr.mono (by decide)) (by rfl) R.c_BadCommand) (da_cons (de_exn0 R.ex_BadCommand (R.xf_BadCommand).choose_spec xt_BadCommand (hr.mono (by decide)) (by rfl) R.c_BadCommand) da_nil)))) (da_cons (dn_de (dn_lst (da_cons (de_exn0 R.ex_NothingKnown (R.xf_NothingKnown).choose_spec xt_NothingKnown (hr.mono (by decide)) (by rfl) R.c_NothingKnown) (da_cons (de_exn0 R.ex_NothingKnown (R.xf_NothingKnown).choose_spec xt_NothingKnown (hr.mono (by decide)) (by rfl) R.c_NothingKnown) da_nil)))) da_nil))))) (de_op op_sub opd_sub (dv 0) de_int) (by intro _ _; rfl)))))))))
def b__law_kinds (c : CA) : SF := (sSeq (sSet 1 (eN (nLst (aC (eIsXn [(c.RestError, false), (c.BadScheme, true), (c.BadFrame, false), (c.BadText, false), (c.NotWhole, false), (c.BadRows, false), (c.OtherParts, false), (c.NothingBehind, false), (c.NothingToUndo, false), (c.InvalidCommand, false), (c.NoFrame, false), (c.BadCommand, false), (c.NothingKnown, false)] (eV 0)) (aC (eIsXn [(c.RestError, false), (c.BadScheme, false), (c.BadFrame, true), (c.BadText, false), (c.NotWhole, false), (c.BadRows, false), (c.OtherParts, false), (c.NothingBehind, false), (c.NothingToUndo, false), (c.InvalidCommand, false), (c.NoFrame, false), (c.BadCommand, false), (c.NothingKnown, false)] (eV 0)) (aC (eIsXn [(c.RestError, false), (c.BadScheme, false), (c.BadFrame, false), (c.BadText, true), (c.NotWhole, false), (c.BadRows, false), (c.OtherParts, false), (c.NothingBehind, false), (c.NothingToUndo, false), (c.InvalidCommand, false), (c.NoFrame, false), (c.BadCommand, false), (c.NothingKnown, false)] (eV 0)) (aC (eIsXn [(c.RestError, false), (c.BadScheme, false), (c.BadFrame, false), (c.BadText, false), (c.NotWhole, true), (c.BadRows, false), (c.OtherParts, false), (c.NothingBehind, false), (c.NothingToUndo, false), (c.InvalidCommand, false), (c.NoFrame, false), (c.BadCommand, false), (c.NothingKnown, false)] (eV 0)) aN)))))))
  (sSeq (sSet 1 (eOp gAdd (eV 1) (eN (nLst (aC (eIsXn [(c.RestError, false), (c.BadScheme, false), (c.BadFrame, false), (c.BadText, false), (c.NotWhole, false), (c.BadRows, true), (c.OtherParts, false), (c.NothingBehind, false), (c.NothingToUndo, false), (c.InvalidCommand, false), (c.NoFrame, false), (c.BadCommand, false), (c.NothingKnown, false)] (eV 0)) (aC (eIsXn [(c.RestError, false), (c.BadScheme, false), (c.BadFrame, false), (c.BadText, false), (c.NotWhole, false), (c.BadRows, false), (c.OtherParts, true), (c.NothingBehind, false), (c.NothingToUndo, false), (c.InvalidCommand, false), (c.NoFrame, false), (c.BadCommand, false), (c.NothingKnown, false)] (eV 0)) (aC (eIsXn [(c.RestError, false), (c.BadScheme, false), (c.BadFrame, false), (c.BadText, false), (c.NotWhole, false), (c.BadRows, false), (c.OtherParts, false), (c.NothingBehind, true), (c.NothingToUndo, false), (c.InvalidCommand, false), (c.NoFrame, false), (c.BadCommand, false), (c.NothingKnown, false)] (eV 0)) aN)))))))
  (sSeq (sSet 1 (eOp gAdd (eV 1) (eN (nLst (aC (eIsXn [(c.RestError, false), (c.BadScheme, false), (c.BadFrame, false), (c.BadText, false), (c.NotWhole, false), (c.BadRows, false), (c.OtherParts, false), (c.NothingBehind, false), (c.NothingToUndo, true), (c.InvalidCommand, false), (c.NoFrame, false), (c.BadCommand, false), (c.NothingKnown, false)] (eV 0)) (aC (eIsXn [(c.RestError, false), (c.BadScheme, false), (c.BadFrame, false), (c.BadText, false), (c.NotWhole, false), (c.BadRows, false), (c.OtherParts, false), (c.NothingBehind, false), (c.NothingToUndo, false), (c.InvalidCommand, true), (c.NoFrame, false), (c.BadCommand, false), (c.NothingKnown, false)] (eV 0)) (aC (eIsXn [(c.RestError, false), (c.BadScheme, false), (c.BadFrame, false), (c.BadText, false), (c.NotWhole, false), (c.BadRows, false), (c.OtherParts, false), (c.NothingBehind, false), (c.NothingToUndo, false), (c.InvalidCommand, false), (c.NoFrame, true), (c.BadCommand, false), (c.NothingKnown, false)] (eV 0)) aN)))))))
  (sSeq (sSet 1 (eOp gAdd (eV 1) (eN (nLst (aC (eIsXn [(c.RestError, false), (c.BadScheme, false), (c.BadFrame, false), (c.BadText, false), (c.NotWhole, false), (c.BadRows, false), (c.OtherParts, false), (c.NothingBehind, false), (c.NothingToUndo, false), (c.InvalidCommand, false), (c.NoFrame, false), (c.BadCommand, true), (c.NothingKnown, false)] (eV 0)) (aC (eIsXn [(c.RestError, false), (c.BadScheme, false), (c.BadFrame, false), (c.BadText, false), (c.NotWhole, false), (c.BadRows, false), (c.OtherParts, false), (c.NothingBehind, false), (c.NothingToUndo, false), (c.InvalidCommand, false), (c.NoFrame, false), (c.BadCommand, false), (c.NothingKnown, true)] (eV 0)) aN))))))
  (sRet (eN (nComp [2] (iR1 (aC (eC (.int 12)) aN)) (gN 2) (tB (eOp gIx (eV 1) (eV 2))) (eV 2))))))))
def m__law_kinds (c : CA) : List D → Res D := fun ds => noErr (runP (b__law_kinds c) 2 ds)
theorem ok__law_kinds (R : PR P K mg) : FnG P w K mg base CX0 1 R.f__law_kinds R.fd__law_kinds ["_law_e"] (spP K 1 (m__law_kinds R.c)) :=
  fn_P R.F__law_kinds sc__law_kinds 2 rfl fun cdv A outer s H E hg hr => (dss_cons (ds_set sc__law_kinds.nd rfl (Or.inr rfl) (dn_de (dn_lst (da_cons (de_isXn (ClsV.own _) (allT_cons ⟨⟨R.ex_RestError, R.xi_RestError⟩, R.ko_RestError_BadScheme⟩ (allT_cons ⟨⟨R.ex_BadScheme, R.xi_BadScheme⟩, R.ko_BadScheme_BadScheme⟩ (allT_cons ⟨⟨R.ex_BadFrame, R.xi_BadFrame⟩, R.ko_BadFrame_BadScheme⟩ (allT_cons ⟨⟨R.ex_BadText, R.xi_BadText⟩, R.ko_BadText_BadScheme⟩ (allT_cons ⟨⟨R.ex_NotWhole, R.xi_NotWhole⟩, R.ko_NotWhole_BadScheme⟩ (allT_cons ⟨⟨R.ex_BadRows, R.xi_BadRows⟩, R.ko_BadRows_BadScheme⟩ (allT_cons ⟨⟨R.ex_OtherParts, R.xi_OtherParts⟩, R.ko_OtherParts_BadScheme⟩ (allT_cons ⟨⟨R.ex_NothingBehind, R.xi_NothingBehind⟩, R.ko_NothingBehind_BadScheme⟩ (allT_cons ⟨⟨R.ex_NothingToUndo, R.xi_NothingToUndo⟩, R.ko_NothingToUndo_BadScheme⟩ (allT_cons ⟨⟨R.ex_InvalidCommand, R.xi_InvalidCommand⟩, R.ko_InvalidCommand_BadScheme⟩ (allT_cons ⟨⟨R.ex_NoFrame, R.xi_NoFrame⟩, R.ko_NoFrame_BadScheme⟩ (allT_cons ⟨⟨R.ex_BadCommand, R.xi_BadCommand⟩, R.ko_BadCommand_BadScheme⟩ (allT_cons ⟨⟨R.ex_NothingKnown, R.xi_NothingKnown⟩, R.ko_NothingKnown_BadScheme⟩ allT_nil))))))))))))) (by rfl) R.z_isinstance (dv 0) (pe_glob (by rfl) R.c_BadScheme rfl)) (da_cons (de_isXn (ClsV.own _) (allT_cons ⟨⟨R.ex_RestError, R.xi_RestError⟩, R.ko_RestError_BadFrame⟩ (allT_cons ⟨⟨R.ex_BadScheme, R.xi_BadScheme⟩, R.ko_BadScheme_BadFrame⟩ (allT_cons ⟨⟨R.ex_BadFrame, R.xi_BadFrame⟩, R.ko_BadFrame_BadFrame⟩ (allT_cons ⟨⟨R.ex_BadText, R.xi_BadText⟩, R.ko_BadText_BadFrame⟩ (allT_cons ⟨⟨R.ex_NotWhole, R.xi_NotWhole⟩, R.ko_NotWhole_BadFrame⟩ (allT_cons ⟨⟨R.ex_BadRows, R.xi_BadRows⟩, R.ko_BadRows_BadFrame⟩ (allT_cons ⟨⟨R.ex_OtherParts, R.xi_OtherParts⟩, R.ko_OtherParts_BadFrame⟩ (allT_cons ⟨⟨R.ex_NothingBehind, R.xi_NothingBehind⟩, R.ko_NothingBehind_BadFrame⟩ (allT_cons ⟨⟨R.ex_NothingToUndo, R.xi_NothingToUndo⟩, R.ko_NothingToUndo_BadFrame⟩ (allT_cons ⟨⟨R.ex_InvalidCommand, R.xi_InvalidCommand⟩, R.ko_InvalidCommand_BadFrame⟩ (allT_cons ⟨⟨R.ex_NoFrame, R.xi_NoFrame⟩, R.ko_NoFrame_BadFrame⟩ (allT_cons ⟨⟨R.ex_BadCommand, R.xi_BadCommand⟩, R.ko_BadCommand_BadFrame⟩ (allT_cons ⟨⟨R.ex_NothingKnown, R.xi_NothingKnown⟩, R.ko_NothingKnown_BadFrame⟩ allT_nil))))))))))))) (by rfl) R.z_isinstance (dv 0) (pe_glob (by rfl) R.c_BadFrame rfl)) (da_cons (de_isXn (ClsV.own _) (allT_cons ⟨⟨R.ex_RestError, R.xi_RestError⟩, R.ko_RestError_BadText⟩ (allT_cons ⟨⟨R.ex_BadScheme, R.xi_BadScheme⟩, R.ko_BadScheme_BadText⟩ (allT_cons ⟨⟨R.ex_BadFrame, R.xi_BadFrame⟩, R.ko_BadFrame_BadText⟩ (allT_cons ⟨⟨R.ex_BadText, R.xi_BadText⟩, R.ko_BadText_BadText⟩ (allT_cons ⟨⟨R.ex_NotWhole, R.xi_NotWhole⟩, R.ko_NotWhole_BadText⟩ (allT_cons ⟨⟨R.ex_BadRows, R.xi_BadRows⟩, R.ko_BadRows_BadText⟩ (allT_cons ⟨⟨R.ex_OtherParts, R.xi_OtherParts⟩, R.ko_OtherParts_BadText⟩ (allT_cons ⟨⟨R.ex_NothingBehind, R.xi_NothingBehind⟩, R.ko_NothingBehind_BadText⟩ (allT_cons ⟨⟨R.ex_NothingToUndo, R.xi_NothingToUndo⟩, R.ko_NothingToUndo_BadText⟩ (allT_cons ⟨⟨R.ex_InvalidCommand, R.xi_InvalidCommand⟩, R.ko_InvalidCommand_BadText⟩ (allT_cons ⟨⟨R.ex_NoFrame, R.xi_NoFrame⟩, R.ko_NoFrame_BadText⟩ (allT_cons ⟨⟨R.ex_BadCommand, R.xi_BadCommand⟩, R.ko_BadCommand_BadText⟩ (allT_cons ⟨⟨R.ex_NothingKnown, R.xi_NothingKnown⟩, R.ko_NothingKnown_BadText⟩ allT_nil))))))))))))) (by rfl) R.z_isinstance (dv 0) (pe_glob (by rfl) R.c_BadText rfl)) (da_cons (de_isXn (ClsV.own _) (allT_cons ⟨⟨R.ex_RestError, R.xi_RestError⟩, R.ko_RestError_NotWhole⟩ (allT_cons ⟨⟨R.ex_BadScheme, R.xi_BadScheme⟩, R.ko_BadScheme_NotWhole⟩ (allT_cons ⟨⟨R.ex_BadFrame, R.xi_BadFrame⟩, R.ko_BadFrame_NotWhole⟩ (allT_cons ⟨⟨R.ex_BadText, R.xi_BadText⟩, R.ko_BadText_NotWhole⟩ (allT_cons ⟨⟨R.ex_NotWhole, R.xi_NotWhole⟩, R.ko_NotWhole_NotWhole⟩ (allT_cons ⟨⟨R.ex_BadRows, R.xi_BadRows⟩, R.ko_BadRows_NotWhole⟩ (allT_cons ⟨⟨R.ex_OtherParts, R.xi_OtherParts⟩, R.ko_OtherParts_NotWhole⟩ (allT_cons ⟨⟨R.ex_NothingBehind, R.xi_NothingBehind⟩, R.ko_NothingBehind_NotWhole⟩ (allT_cons ⟨⟨R.ex_NothingToUndo, R.xi_NothingToUndo⟩, R.ko_NothingToUndo_NotWhole⟩ (allT_cons ⟨⟨R.ex_InvalidCommand, R.xi_InvalidCommand⟩, R.ko_InvalidCommand_NotWhole⟩ (allT_cons ⟨⟨R.ex_NoFrame, R.xi_NoFrame⟩, R.ko_NoFrame_NotWhole⟩ (allT_cons ⟨⟨R.ex_BadCommand, R.xi_BadCommand⟩, R.ko_BadCommand_NotWhole⟩ (allT_cons ⟨⟨R.ex_NothingKnown, R.xi_NothingKnown⟩, R.ko_NothingKnown_NotWhole⟩ allT_nil))))))))))))) (by rfl) R.z_isinstance (dv 0) (pe_glob (by rfl) R.c_NotWhole rfl)) da_nil)))))))
    (dss_cons (ds_set sc__law_kinds.nd rfl (Or.inr rfl) (de_op op_addA opd_add (dv 1) (dn_de (dn_lst (da_cons (de_isXn (ClsV.own _) (allT_cons ⟨⟨R.ex_RestError, R.xi_RestError⟩, R.ko_RestError_BadRows⟩ (allT_cons ⟨⟨R.ex_BadScheme, R.xi_BadScheme⟩, R.ko_BadScheme_BadRows⟩ (allT_cons ⟨⟨R.ex_BadFrame, R.xi_BadFrame⟩, R.ko_BadFrame_BadRows⟩ (allT_cons ⟨⟨R.ex_BadText, R.xi_BadText⟩, R.ko_BadText_BadRows⟩ (allT_cons ⟨⟨R.ex_NotWhole, R.xi_NotWhole⟩, R.ko_NotWhole_BadRows⟩ (allT_cons ⟨⟨R.ex_BadRows, R.xi_BadRows⟩, R.ko_BadRows_BadRows⟩ (allT_cons ⟨⟨R.ex_OtherParts, R.xi_OtherParts⟩, R.ko_OtherParts_BadRows⟩ (allT_cons ⟨⟨R.ex_NothingBehind, R.xi_NothingBehind⟩, R.ko_NothingBehind_BadRows⟩ (allT_cons ⟨⟨R.ex_NothingToUndo, R.xi_NothingToUndo⟩, R.ko_NothingToUndo_BadRows⟩ (allT_cons ⟨⟨R.ex_InvalidCommand, R.xi_InvalidCommand⟩, R.ko_InvalidCommand_BadRows⟩ (allT_cons ⟨⟨R.ex_NoFrame, R.xi_NoFrame⟩, R.ko_NoFrame_BadRows⟩ (allT_cons ⟨⟨R.ex_BadCommand, R.xi_BadCommand⟩, R.ko_BadCommand_BadRows⟩ (allT_cons ⟨⟨R.ex_NothingKnown, R.xi_NothingKnown⟩, R.ko_NothingKnown_BadRows⟩ allT_nil))))))))))))) (by rfl) R.z_isinstance (dv 0) (pe_glob (by rfl) R.c_BadRows rfl)) (da_cons (de_isXn (ClsV.own _) (allT_cons ⟨⟨R.ex_RestError, R.xi_RestError⟩, R.ko_RestError_OtherParts⟩ (allT_cons ⟨⟨R.ex_BadScheme, R.xi_BadScheme⟩, R.ko_BadScheme_OtherParts⟩ (allT_cons ⟨⟨R.ex_BadFrame, R.xi_BadFrame⟩, R.ko_BadFrame_OtherParts⟩ (allT_cons ⟨⟨R.ex_BadText, R.xi_BadText⟩, R.ko_BadText_OtherParts⟩ (allT_cons ⟨⟨R.ex_NotWhole, R.xi_NotWhole⟩, R.ko_NotWhole_OtherParts⟩ (allT_cons ⟨⟨R.ex_BadRows, R.xi_BadRows⟩, R.ko_BadRows_OtherParts⟩ (allT_cons ⟨⟨R.ex_OtherParts, R.xi_OtherParts⟩, R.ko_OtherParts_OtherParts⟩ (allT_cons ⟨⟨R.ex_NothingBehind, R.xi_NothingBehind⟩, R.ko_NothingBehind_OtherParts⟩ (allT_cons ⟨⟨R.ex_NothingToUndo, R.xi_NothingToUndo⟩, R.ko_NothingToUndo_OtherParts⟩ (allT_cons ⟨⟨R.ex_InvalidCommand, R.xi_InvalidCommand⟩, R.ko_InvalidCommand_OtherParts⟩ (allT_cons ⟨⟨R.ex_NoFrame, R.xi_NoFrame⟩, R.ko_NoFrame_OtherParts⟩ (allT_cons ⟨⟨R.ex_BadCommand, R.xi_BadCommand⟩, R.ko_BadCommand_OtherParts⟩ (allT_cons ⟨⟨R.ex_NothingKnown, R.xi_NothingKnown⟩, R.ko_NothingKnown_OtherParts⟩ allT_nil))))))))))))) (by rfl) R.z_isinstance (dv 0) (pe_glob (by rfl) R.c_OtherParts rfl)) (da_cons (de_isXn (ClsV.own _) (allT_cons ⟨⟨R.ex_RestError, R.xi_RestError⟩, R.ko_RestError_NothingBehind⟩ (allT_cons ⟨⟨R.ex_BadScheme, R.xi_BadScheme⟩, R.ko_BadScheme_NothingBehind⟩ (allT_cons ⟨⟨R.ex_BadFrame, R.xi_BadFrame⟩, R.ko_BadFrame_NothingBehind⟩ (allT_cons ⟨⟨R.ex_BadText, R.xi_BadText⟩, R.ko_BadText_NothingBehind⟩ (allT_cons ⟨⟨R.ex_NotWhole, R.xi_NotWhole⟩, R.ko_NotWhole_NothingBehind⟩ (allT_cons ⟨⟨R.ex_BadRows, R.xi_BadRows⟩, R.ko_BadRows_NothingBehind⟩ (allT_cons ⟨⟨R.ex_OtherParts, R.xi_OtherParts⟩, R.ko_OtherParts_NothingBehind⟩ (allT_cons ⟨⟨R.ex_NothingBehind, R.xi_NothingBehind⟩, R.ko_NothingBehind_NothingBehind⟩ (allT_cons ⟨⟨R.ex_NothingToUndo, R.xi_NothingToUndo⟩, R.ko_NothingToUndo_NothingBehind⟩ (allT_cons ⟨⟨R.ex_InvalidCommand, R.xi_InvalidCommand⟩, R.ko_InvalidCommand_NothingBehind⟩ (allT_cons ⟨⟨R.ex_NoFrame, R.xi_NoFrame⟩, R.ko_NoFrame_NothingBehind⟩ (allT_cons ⟨⟨R.ex_BadCommand, R.xi_BadCommand⟩, R.ko_BadCommand_NothingBehind⟩ (allT_cons ⟨⟨R.ex_NothingKnown, R.xi_NothingKnown⟩, R.ko_NothingKnown_NothingBehind⟩ allT_nil))))))))))))) (by rfl) R.z_isinstance (dv 0) (pe_glob (by rfl) R.c_NothingBehind rfl)) da_nil)))))))
    (dss_cons (ds_set sc__law_kinds.nd rfl (Or.inr rfl) (de_op op_addA opd_add (dv 1) (dn_de (dn_lst (da_cons (de_isXn (ClsV.own _) (allT_cons ⟨⟨R.ex_RestError, R.xi_RestError⟩, R.ko_RestError_NothingToUndo⟩ (allT_cons ⟨⟨R.ex_BadScheme, R.xi_BadScheme⟩, R.ko_BadScheme_NothingToUndo⟩ (allT_cons ⟨⟨R.ex_BadFrame, R.xi_BadFrame⟩, R.ko_BadFrame_NothingToUndo⟩ (allT_cons ⟨⟨R.ex_BadText, R.xi_BadText⟩, R.ko_BadText_NothingToUndo⟩ (allT_cons ⟨⟨R.ex_NotWhole, R.xi_NotWhole⟩, R.ko_NotWhole_NothingToUndo⟩ (allT_cons ⟨⟨R.ex_BadRows, R.xi_BadRows⟩, R.ko_BadRows_NothingToUndo⟩ (allT_cons ⟨⟨R.ex_OtherParts, R.xi_OtherParts⟩, R.ko_OtherParts_NothingToUndo⟩ (allT_cons ⟨⟨R.ex_NothingBehind, R.xi_NothingBehind⟩, R.ko_NothingBehind_NothingToUndo⟩ (allT_cons ⟨⟨R.ex_NothingToUndo, R.xi_NothingToUndo⟩, R.ko_NothingToUndo_NothingToUndo⟩ (allT_cons ⟨⟨R.ex_InvalidCommand, R.xi_InvalidCommand⟩, R.ko_InvalidCommand_NothingToUndo⟩ (allT_cons ⟨⟨R.ex_NoFrame, R.xi_NoFrame⟩, R.ko_NoFrame_NothingToUndo⟩ (allT_cons ⟨⟨R.ex_BadCommand, R.xi_BadCommand⟩, R.ko_BadCommand_NothingToUndo⟩ (allT_cons ⟨⟨R.ex_NothingKnown, R.xi_NothingKnown⟩, R.ko_NothingKnown_NothingToUndo⟩ allT_nil))))))))))))) (by rfl) R.z_isinstance (dv 0) (pe_glob (by rfl) R.c_NothingToUndo rfl)) (da_cons (de_isXn (ClsV.own _) (allT_cons ⟨⟨R.ex_RestError, R.xi_RestError⟩, R.ko_RestError_InvalidCommand⟩ (allT_cons ⟨⟨R.ex_BadScheme, R.xi_BadScheme⟩, R.ko_BadScheme_InvalidCommand⟩ (allT_cons ⟨⟨R.ex_BadFrame, R.xi_BadFrame⟩, R.ko_BadFrame_InvalidCommand⟩ (allT_cons ⟨⟨R.ex_BadText, R.xi_BadText⟩, R.ko_BadText_InvalidCommand⟩ (allT_cons ⟨⟨R.ex_NotWhole, R.xi_NotWhole⟩, R.ko_NotWhole_InvalidCommand⟩ (allT_cons ⟨⟨R.ex_BadRows, R.xi_BadRows⟩, R.ko_BadRows_InvalidCommand⟩ (allT_cons ⟨⟨R.ex_OtherParts, R.xi_OtherParts⟩, R.ko_OtherParts_InvalidCommand⟩ (allT_cons ⟨⟨R.ex_NothingBehind, R.xi_NothingBehind⟩, R.ko_NothingBehind_InvalidCommand⟩ (allT_cons ⟨⟨R.ex_NothingToUndo, R.xi_NothingToUndo⟩, R.ko_NothingToUndo_InvalidCommand⟩ (allT_cons ⟨⟨R.ex_InvalidCommand, R.xi_InvalidCommand⟩, R.ko_InvalidCommand_InvalidCommand⟩ (allT_cons ⟨⟨R.ex_NoFrame, R.xi_NoFrame⟩, R.ko_NoFrame_InvalidCommand⟩ (allT_cons ⟨⟨R.ex_BadCommand, R.xi_BadCommand⟩, R.ko_BadCommand_InvalidCommand⟩ (allT_cons ⟨⟨R.ex_NothingKnown, R.xi_NothingKnown⟩, R.ko_NothingKnown_InvalidCommand⟩ allT_nil))))))))))))) (by rfl) R.z_isinstance (dv 0) (pe_glob (by rfl) R.c_InvalidCommand rfl)) (da_cons (de_isXn (ClsV.own _) (allT_cons ⟨⟨R.ex_RestError, R.xi_RestError⟩, R.ko_RestError_NoFrame⟩ (allT_cons ⟨⟨R.ex_BadScheme, R.xi_BadScheme⟩, R.ko_BadScheme_NoFrame⟩ (allT_cons ⟨⟨R.ex_BadFrame, R.xi_BadFrame⟩, R.ko_BadFrame_NoFrame⟩ (allT_cons ⟨⟨R.ex_BadText, R.xi_BadText⟩, R.ko_BadText_NoFrame⟩ (allT_cons ⟨⟨R.ex_NotWhole, R.xi_NotWhole⟩, R.ko_NotWhole_NoFrame⟩ (allT_cons ⟨⟨R.ex_BadRows, R.xi_BadRows⟩, R.ko_BadRows_NoFrame⟩ (allT_cons ⟨⟨R.ex_OtherParts, R.xi_OtherParts⟩, R.ko_OtherParts_NoFrame⟩ (allT_cons ⟨⟨R.ex_NothingBehind, R.xi_NothingBehind⟩, R.ko_NothingBehind_NoFrame⟩ (allT_cons ⟨⟨R.ex_NothingToUndo, R.xi_NothingToUndo⟩, R.ko_NothingToUndo_NoFrame⟩ (allT_cons ⟨⟨R.ex_InvalidCommand, R.xi_InvalidCommand⟩, R.ko_InvalidCommand_NoFrame⟩ (allT_cons ⟨⟨R.ex_NoFrame, R.xi_NoFrame⟩, R.ko_NoFrame_NoFrame⟩ (allT_cons ⟨⟨R.ex_BadCommand, R.xi_BadCommand⟩, R.ko_BadCommand_NoFrame⟩ (allT_cons ⟨⟨R.ex_NothingKnown, R.xi_NothingKnown⟩, R.ko_NothingKnown_NoFrame⟩ allT_nil))))))))))))) (by rfl) R.z_isinstance (dv 0) (pe_glob (by rfl) R.c_NoFrame rfl)) da_nil)))))))
    (dss_cons (ds_set sc__law_kinds.nd rfl (Or.inr rfl) (de_op op_addA opd_add (dv 1) (dn_de (dn_lst (da_cons (de_isXn (ClsV.own _) (allT_cons ⟨⟨R.ex_RestError, R.xi_RestError⟩, R.ko_RestError_BadCommand⟩ (allT_cons ⟨⟨R.ex_BadScheme, R.xi_BadScheme⟩, R.ko_BadScheme_BadCommand⟩ (allT_cons ⟨⟨R.ex_BadFrame, R.xi_BadFrame⟩, R.ko_BadFrame_BadCommand⟩ (allT_cons ⟨⟨R.ex_BadText, R.xi_BadText⟩, R.ko_BadText_BadCommand⟩ (allT_cons ⟨⟨R.ex_NotWhole, R.xi_NotWhole⟩, R.ko_NotWhole_BadCommand⟩ (allT_cons ⟨⟨R.ex_BadRows, R.xi_BadRows⟩, R.ko_BadRows_BadCommand⟩ (allT_cons ⟨⟨R.ex_OtherParts, R.xi_OtherParts⟩, R.ko_OtherParts_BadCommand⟩ (allT_cons ⟨⟨R.ex_NothingBehind, R.xi_NothingBehind⟩, R.ko_NothingBehind_BadCommand⟩ (allT_cons ⟨⟨R.ex_NothingToUndo, R.xi_NothingToUndo⟩, R.ko_NothingToUndo_BadCommand⟩ (allT_cons ⟨⟨R.ex_InvalidCommand, R.xi_InvalidCommand⟩, R.ko_InvalidCommand_BadCommand⟩ (allT_cons ⟨⟨R.ex_NoFrame, R.xi_NoFrame⟩, R.ko_NoFrame_BadCommand⟩ (allT_cons ⟨⟨R.ex_BadCommand, R.xi_BadCommand⟩, R.ko_BadCommand_BadCommand⟩ (allT_cons ⟨⟨R.ex_NothingKnown, R.xi_NothingKnown⟩, R.ko_NothingKnown_BadCommand⟩ allT_nil))))))))))))) (by rfl) R.z_isinstance (dv 0) (pe_glob (by rfl) R.c_BadCommand rfl)) (da_cons (de_isXn (ClsV.own _) (allT_cons ⟨⟨R.ex_RestError, R.xi_RestError⟩, R.ko_RestError_NothingKnown⟩ (allT_cons ⟨⟨R.ex_BadScheme, R.xi_BadScheme⟩, R.ko_BadScheme_NothingKnown⟩ (allT_cons ⟨⟨R.ex_BadFrame, R.xi_BadFrame⟩, R.ko_BadFrame_NothingKnown⟩ (allT_cons ⟨⟨R.ex_BadText, R.xi_BadText⟩, R.ko_BadText_NothingKnown⟩ (allT_cons ⟨⟨R.ex_NotWhole, R.xi_NotWhole⟩, R.ko_NotWhole_NothingKnown⟩ (allT_cons ⟨⟨R.ex_BadRows, R.xi_BadRows⟩, R.ko_BadRows_NothingKnown⟩ (allT_cons ⟨⟨R.ex_OtherParts, R.xi_OtherParts⟩, R.ko_OtherParts_NothingKnown⟩ (allT_cons ⟨⟨R.ex_NothingBehind, R.xi_NothingBehind⟩, R.ko_NothingBehind_NothingKnown⟩ (allT_cons ⟨⟨R.ex_NothingToUndo, R.xi_NothingToUndo⟩, R.ko_NothingToUndo_NothingKnown⟩ (allT_cons ⟨⟨R.ex_InvalidCommand, R.xi_InvalidCommand⟩, R.ko_InvalidCommand_NothingKnown⟩ (allT_cons ⟨⟨R.ex_NoFrame, R.xi_NoFrame⟩, R.ko_NoFrame_NothingKnown⟩ (allT_cons ⟨⟨R.ex_BadCommand, R.xi_BadCommand⟩, R.ko_BadCommand_NothingKnown⟩ (allT_cons ⟨⟨R.ex_NothingKnown, R.xi_NothingKnown⟩, R.ko_NothingKnown_NothingKnown⟩ allT_nil))))))))))))) (by rfl) R.z_isinstance (dv 0) (pe_glob (by rfl) R.c_NothingKnown rfl)) da_nil))))))
    (dss_one (ds_ret (dn_de (dn_comp (own := [("_law_k", 2)]) rfl sc__law_kinds.nd (di_range1 (by rfl) R.z_range (da_cons de_int da_nil)) (by exact blkOk_by (N := N__law_kinds) (sc := defScope s__law_kinds) (own := [("_law_k", 2)]) (by decide +kernel)) (fun _ _ _ _ _ => (dg_name sc__law_kinds.nd rfl (by first | exact Or.inl rfl | exact Or.inr rfl))) (fun _ _ _ _ _ => (dts_one (dt_val (de_ix ix_seq opd_ix (dv 1) (dv 2) (by intro _ _; rfl))))) (fun _ _ _ _ _ => (dv 2))))))))))
def b__law_kept (c : CA) : SF := (sSeq (sIf (tB (eOp (gInQ false) (eV 0) (eTup (aC (eC (.int 0)) (aC (eC (.int 1)) (aC (eC (.int 5)) aN)))))) (sRet (eN (nLst (aC (eXAt [c.BadScheme, c.BadFrame, c.OtherParts] "part" (eV 1)) aN)))) sNx)
  (sSeq (sIf (tB (eOp gLt (eV 0) (eC (.int 4)))) (sRet (eN (nLst (aC (eIf (tB (eOp gEq (eV 0) (eC (.int 2)))) (eXAt [c.BadText] "place" (eV 1)) (eXAt [c.NotWhole] "tables" (eV 1))) aN)))) sNx)
  (sSeq (sIf (tB (eOp gLt (eV 0) (eC (.int 7)))) (sRet (eN (nLst (aC (eIf (tB (eOp gEq (eV 0) (eC (.int 4)))) (eXAt [c.BadRows] "row" (eV 1)) (eXAt [c.NothingBehind] "steps" (eV 1))) aN)))) sNx)
  (sRet (eN nNil)))))
def m__law_kept (c : CA) : List D → Res D := fun ds => noErr (runP (b__law_kept c) 0 ds)
theorem ok__law_kept (R : PR P K mg) : FnG P w K mg base CX0 1 R.f__law_kept R.fd__law_kept ["_law_at", "_law_e"] (spP K 2 (m__law_kept R.c)) :=
  fn_P R.F__law_kept sc__law_kept 0 rfl fun cdv A outer s H E hg hr => (dss_cons (ds_if (dt_cmp (op_inq hr.units) opd_in (dv 0) (de_tup (da_cons de_int (da_cons de_int (da_cons de_int da_nil)))) (by rfl)) (dss_one (ds_ret (dn_de (dn_lst (da_cons (de_xat (dv 1) (all_cons ⟨R.ex_BadScheme, R.n_BadScheme_part⟩ (all_cons ⟨R.ex_BadFrame, R.n_BadFrame_part⟩ (all_cons ⟨R.ex_OtherParts, R.n_OtherParts_part⟩ all_nil)))) da_nil))))) dss_nil)
    (dss_cons (ds_if (dt_cmp (op_ltt hr.units) opd_lt (dv 0) de_int (nomark _)) (dss_one (ds_ret (dn_de (dn_lst (da_cons (de_ifx (dt_cmp (op_eqq hr.units) opd_eq (dv 0) de_int (nomark _)) (de_xat (dv 1) (all_cons ⟨R.ex_BadText, R.n_BadText_place⟩ all_nil)) (de_xat (dv 1) (all_cons ⟨R.ex_NotWhole, R.n_NotWhole_tables⟩ all_nil))) da_nil))))) dss_nil)
    (dss_cons (ds_if (dt_cmp (op_ltt hr.units) opd_lt (dv 0) de_int (nomark _)) (dss_one (ds_ret (dn_de (dn_lst (da_cons (de_ifx (dt_cmp (op_eqq hr.units) opd_eq (dv 0) de_int (nomark _)) (de_xat (dv 1) (all_cons ⟨R.ex_BadRows, R.n_BadRows_row⟩ all_nil)) (de_xat (dv 1) (all_cons ⟨R.ex_NothingBehind, R.n_NothingBehind_steps⟩ all_nil))) da_nil))))) dss_nil)
    (dss_one (ds_ret (dn_de dn_nil))))))
def b__law_is_usual (c : CA) : SF := (sSeq (sSet 1 (eN (nLst (aC (eIsXn [(c.RestError, false), (c.BadScheme, false), (c.BadFrame, false), (c.BadText, false), (c.NotWhole, false), (c.BadRows, false), (c.OtherParts, false), (c.NothingBehind, false), (c.NothingToUndo, false), (c.InvalidCommand, false), (c.NoFrame, false), (c.BadCommand, false), (c.NothingKnown, false)] (eV 0)) (aC (eIsXn [(c.RestError, false), (c.BadScheme, false), (c.BadFrame, false), (c.BadText, false), (c.NotWhole, false), (c.BadRows, false), (c.OtherParts, false), (c.NothingBehind, false), (c.NothingToUndo, false), (c.InvalidCommand, false), (c.NoFrame, false), (c.BadCommand, false), (c.NothingKnown, false)] (eV 0)) (aC (eIsXn [(c.RestError, false), (c.BadScheme, false), (c.BadFrame, false), (c.BadText, false), (c.NotWhole, false), (c.BadRows, false), (c.OtherParts, false), (c.NothingBehind, false), (c.NothingToUndo, false), (c.InvalidCommand, false), (c.NoFrame, false), (c.BadCommand, false), (c.NothingKnown, false)] (eV 0)) aN))))))
  (sRet (eOp (gInQ false) (eC (.bl true)) (eOp gAdd (eV 1) (eN (nLst (aC (eIsXn [(c.RestError, false), (c.BadScheme, false), (c.BadFrame, false), (c.BadText, false), (c.NotWhole, false), (c.BadRows, false), (c.OtherParts, false), (c.NothingBehind, false), (c.NothingToUndo, false), (c.InvalidCommand, false), (c.NoFrame, false), (c.BadCommand, false), (c.NothingKnown, false)] (eV 0)) (aC (eIsXn [(c.RestError, false), (c.BadScheme, false), (c.BadFrame, false), (c.BadText, false), (c.NotWhole, false), (c.BadRows, false), (c.OtherParts, false), (c.NothingBehind, false), (c.NothingToUndo, false), (c.InvalidCommand, false), (c.NoFrame, false), (c.BadCommand, false), (c.NothingKnown, false)] (eV 0)) aN))))))))
def m__law_is_usual (c : CA) : List D → Res D := fun ds => noErr (runP (b__law_is_usual c) 1 ds)
theorem ok__law_is_usual (R : PR P K mg) : FnG P w K mg base CX0 1 R.f__law_is_usual R.fd__law_is_usual ["_law_e"] (spP K 1 (m__law_is_usual R.c)) :=
  fn_P R.F__law_is_usual sc__law_is_usual 1 rfl fun cdv A outer s H E hg hr => (dss_cons (ds_set sc__law_is_usual.nd rfl (Or.inl rfl) (dn_de (dn_lst (da_cons (de_isXn (ClsV.ty "ValueError") (allT_cons ⟨⟨R.ex_RestError, R.xi_RestError⟩, R.ko_RestError_ValueError⟩ (allT_cons ⟨⟨R.ex_BadScheme, R.xi_BadScheme⟩, R.ko_BadScheme_ValueError⟩ (allT_cons ⟨⟨R.ex_BadFrame, R.xi_BadFrame⟩, R.ko_BadFrame_ValueError⟩ (allT_cons ⟨⟨R.ex_BadText, R.xi_BadText⟩, R.ko_BadText_ValueError⟩ (allT_cons ⟨⟨R.ex_NotWhole, R.xi_NotWhole⟩, R.ko_NotWhole_ValueError⟩ (allT_cons ⟨⟨R.ex_BadRows, R.xi_BadRows⟩, R.ko_BadRows_ValueError⟩ (allT_cons ⟨⟨R.ex_OtherParts, R.xi_OtherParts⟩, R.ko_OtherParts_ValueError⟩ (allT_cons ⟨⟨R.ex_NothingBehind, R.xi_NothingBehind⟩, R.ko_NothingBehind_ValueError⟩ (allT_cons ⟨⟨R.ex_NothingToUndo, R.xi_NothingToUndo⟩, R.ko_NothingToUndo_ValueError⟩ (allT_cons ⟨⟨R.ex_InvalidCommand, R.xi_InvalidCommand⟩, R.ko_InvalidCommand_ValueError⟩ (allT_cons ⟨⟨R.ex_NoFrame, R.xi_NoFrame⟩, R.ko_NoFrame_ValueError⟩ (allT_cons ⟨⟨R.ex_BadCommand, R.xi_BadCommand⟩, R.ko_BadCommand_ValueError⟩ (allT_cons ⟨⟨R.ex_NothingKnown, R.xi_NothingKnown⟩, R.ko_NothingKnown_ValueError⟩ allT_nil))))))))))))) (by rfl) R.z_isinstance (dv 0) (pe_bltn (by rfl) R.z_ValueError bootx_ValueError rfl)) (da_cons (de_isXn (ClsV.ty "LookupError") (allT_cons ⟨⟨R.ex_RestError, R.xi_RestError⟩, R.ko_RestError_LookupError⟩ (allT_cons ⟨⟨R.ex_BadScheme, R.xi_BadScheme⟩, R.ko_BadScheme_LookupError⟩ (allT_cons ⟨⟨R.ex_BadFrame, R.xi_BadFrame⟩, R.ko_BadFrame_LookupError⟩ (allT_cons ⟨⟨R.ex_BadText, R.xi_BadText⟩, R.ko_BadText_LookupError⟩ (allT_cons ⟨⟨R.ex_NotWhole, R.xi_NotWhole⟩, R.ko_NotWhole_LookupError⟩ (allT_cons ⟨⟨R.ex_BadRows, R.xi_BadRows⟩, R.ko_BadRows_LookupError⟩ (allT_cons ⟨⟨R.ex_OtherParts, R.xi_OtherParts⟩, R.ko_OtherParts_LookupError⟩ (allT_cons ⟨⟨R.ex_NothingBehind, R.xi_NothingBehind⟩, R.ko_NothingBehind_LookupError⟩ (allT_cons ⟨⟨R.ex_NothingToUndo, R.xi_NothingToUndo⟩, R.ko_NothingToUndo_LookupError⟩ (allT_cons ⟨⟨R.ex_InvalidCommand, R.xi_InvalidCommand⟩, R.ko_InvalidCommand_LookupError⟩ (allT_cons ⟨⟨R.ex_NoFrame, R.xi_NoFrame⟩, R.ko_NoFrame_LookupError⟩ (allT_cons ⟨⟨R.ex_BadCommand, R.xi_BadCommand⟩, R.ko_BadCommand_LookupError⟩ (allT_cons ⟨⟨R.ex_NothingKnown, R.xi_NothingKnown⟩, R.ko_NothingKnown_LookupError⟩ allT_nil))))))))))))) (by rfl) R.z_isinstance (dv 0) (pe_bltn (by rfl) R.z_LookupError bootx_LookupError rfl)) (da_cons (de_isXn (ClsV.ty "TypeError") (allT_cons ⟨⟨R.ex_RestError, R.xi_RestError⟩, R.ko_RestError_TypeError⟩ (allT_cons ⟨⟨R.ex_BadScheme, R.xi_BadScheme⟩, R.ko_BadScheme_TypeError⟩ (allT_cons ⟨⟨R.ex_BadFrame, R.xi_BadFrame⟩, R.ko_BadFrame_TypeError⟩ (allT_cons ⟨⟨R.ex_BadText, R.xi_BadText⟩, R.ko_BadText_TypeError⟩ (allT_cons ⟨⟨R.ex_NotWhole, R.xi_NotWhole⟩, R.ko_NotWhole_TypeError⟩ (allT_cons ⟨⟨R.ex_BadRows, R.xi_BadRows⟩, R.ko_BadRows_TypeError⟩ (allT_cons ⟨⟨R.ex_OtherParts, R.xi_OtherParts⟩, R.ko_OtherParts_TypeError⟩ (allT_cons ⟨⟨R.ex_NothingBehind, R.xi_NothingBehind⟩, R.ko_NothingBehind_TypeError⟩ (allT_cons ⟨⟨R.ex_NothingToUndo, R.xi_NothingToUndo⟩, R.ko_NothingToUndo_TypeError⟩ (allT_cons ⟨⟨R.ex_InvalidCommand, R.xi_InvalidCommand⟩, R.ko_InvalidCommand_TypeError⟩ (allT_cons ⟨⟨R.ex_NoFrame, R.xi_NoFrame⟩, R.ko_NoFrame_TypeError⟩ (allT_cons ⟨⟨R.ex_BadCommand, R.xi_BadCommand⟩, R.ko_BadCommand_TypeError⟩ (allT_cons ⟨⟨R.ex_NothingKnown, R.xi_NothingKnown⟩, R.ko_NothingKnown_TypeError⟩ allT_nil))))))))))))) (by rfl) R.z_isinstance (dv 0) (pe_bltn (by rfl) R.z_TypeError bootx_TypeError rfl)) da_nil))))))
    (dss_one (ds_ret (de_cmp (op_inq hr.units) opd_in de_bl (de_op op_addA opd_add (dv 1) (dn_de (dn_lst (da_cons (de_isXn (ClsV.ty "ArithmeticError") (allT_cons ⟨⟨R.ex_RestError, R.xi_RestError⟩, R.ko_RestError_ArithmeticError⟩ (allT_cons ⟨⟨R.ex_BadScheme, R.xi_BadScheme⟩, R.ko_BadScheme_ArithmeticError⟩ (allT_cons ⟨⟨R.ex_BadFrame, R.xi_BadFrame⟩, R.ko_BadFrame_ArithmeticError⟩ (allT_cons ⟨⟨R.ex_BadText, R.xi_BadText⟩, R.ko_BadText_ArithmeticError⟩ (allT_cons ⟨⟨R.ex_NotWhole, R.xi_NotWhole⟩, R.ko_NotWhole_ArithmeticError⟩ (allT_cons ⟨⟨R.ex_BadRows, R.xi_BadRows⟩, R.ko_BadRows_ArithmeticError⟩ (allT_cons ⟨⟨R.ex_OtherParts, R.xi_OtherParts⟩, R.ko_OtherParts_ArithmeticError⟩ (allT_cons ⟨⟨R.ex_NothingBehind, R.xi_NothingBehind⟩, R.ko_NothingBehind_ArithmeticError⟩ (allT_cons ⟨⟨R.ex_NothingToUndo, R.xi_NothingToUndo⟩, R.ko_NothingToUndo_ArithmeticError⟩ (allT_cons ⟨⟨R.ex_InvalidCommand, R.xi_InvalidCommand⟩, R.ko_InvalidCommand_ArithmeticError⟩ (allT_cons ⟨⟨R.ex_NoFrame, R.xi_NoFrame⟩, R.ko_NoFrame_ArithmeticError⟩ (allT_cons ⟨⟨R.ex_BadCommand, R.xi_BadCommand⟩, R.ko_BadCommand_ArithmeticError⟩ (allT_cons ⟨⟨R.ex_NothingKnown, R.xi_NothingKnown⟩, R.ko_NothingKnown_ArithmeticError⟩ allT_nil))))))))))))) (by rfl) R.z_isinstance (dv 0) (pe_bltn (by rfl) R.z_ArithmeticError bootx_ArithmeticError rfl)) (da_cons (de_isXn (ClsV.ty "RuntimeError") (allT_cons ⟨⟨R.ex_RestError, R.xi_RestError⟩, R.ko_RestError_RuntimeError⟩ (allT_cons ⟨⟨R.ex_BadScheme, R.xi_BadScheme⟩, R.ko_BadScheme_RuntimeError⟩ (allT_cons ⟨⟨R.ex_BadFrame, R.xi_BadFrame⟩, R.ko_BadFrame_RuntimeError⟩ (allT_cons ⟨⟨R.ex_BadText, R.xi_BadText⟩, R.ko_BadText_RuntimeError⟩ (allT_cons ⟨⟨R.ex_NotWhole, R.xi_NotWhole⟩, R.ko_NotWhole_RuntimeError⟩ (allT_cons ⟨⟨R.ex_BadRows, R.xi_BadRows⟩, R.ko_BadRows_RuntimeError⟩ (allT_cons ⟨⟨R.ex_OtherParts, R.xi_OtherParts⟩, R.ko_OtherParts_RuntimeError⟩ (allT_cons ⟨⟨R.ex_NothingBehind, R.xi_NothingBehind⟩, R.ko_NothingBehind_RuntimeError⟩ (allT_cons ⟨⟨R.ex_NothingToUndo, R.xi_NothingToUndo⟩, R.ko_NothingToUndo_RuntimeError⟩ (allT_cons ⟨⟨R.ex_InvalidCommand, R.xi_InvalidCommand⟩, R.ko_InvalidCommand_RuntimeError⟩ (allT_cons ⟨⟨R.ex_NoFrame, R.xi_NoFrame⟩, R.ko_NoFrame_RuntimeError⟩ (allT_cons ⟨⟨R.ex_BadCommand, R.xi_BadCommand⟩, R.ko_BadCommand_RuntimeError⟩ (allT_cons ⟨⟨R.ex_NothingKnown, R.xi_NothingKnown⟩, R.ko_NothingKnown_RuntimeError⟩ allT_nil))))))))))))) (by rfl) R.z_isinstance (dv 0) (pe_bltn (by rfl) R.z_RuntimeError bootx_RuntimeError rfl)) da_nil))))) (by rfl)))))
def b__law_raised (c : CA) : SF := (sSeq (sIf (tB (eOp gEq (eV 0) (eC (.int 0)))) (sRaise1 c.BadScheme "part" (aC (eV 1) aN)) sNx)
  (sSeq (sIf (tB (eOp gEq (eV 0) (eC (.int 1)))) (sRaise1 c.BadFrame "part" (aC (eV 1) aN)) sNx)
  (sSeq (sIf (tB (eOp gEq (eV 0) (eC (.int 2)))) (sRaise1 c.BadText "place" (aC (eV 1) aN)) sNx)
  (sSeq (sIf (tB (eOp gEq (eV 0) (eC (.int 3)))) (sRaise1 c.NotWhole "tables" (aC (eV 1) aN)) sNx)
  (sSeq (sIf (tB (eOp gEq (eV 0) (eC (.int 4)))) (sRaise1 c.BadRows "row" (aC (eV 1) aN)) sNx)
  (sSeq (sIf (tB (eOp gEq (eV 0) (eC (.int 5)))) (sRaise1 c.OtherParts "part" (aC (eV 1) aN)) sNx)
  (sRaise1 c.NothingBehind "steps" (aC (eV 1) aN))))))))
def m__law_raised (c : CA) : List D → Res D := fun ds => runP (b__law_raised c) 0 ds
theorem ok__law_raised (R : PR P K mg) : FnG P w K mg base (L2.CX P w) 2 R.f__law_raised R.fd__law_raised ["_law_at", "_law_it"] (spP K 2 (m__law_raised R.c)) :=
  fn_PX R.F__law_raised sc__law_raised 0 rfl fun cdv A outer s H E hg hr tk => (dss_cons (ds_if (dt_cmp (op_eqq hr.units) opd_eq (dv 0) de_int (nomark _)) (dss_one (ds_raise1 rfl tk R.ex_BadScheme (R.xf_BadScheme).choose_spec xt_BadScheme R.n_BadScheme_part (hr.mono (by decide)) (by rfl) R.c_BadScheme (da_cons (dv 1) da_nil))) dss_nil)
    (dss_cons (ds_if (dt_cmp (op_eqq hr.units) opd_eq (dv 0) de_int (nomark _)) (dss_one (ds_raise1 rfl tk R.ex_BadFrame (R.xf_BadFrame).choose_spec xt_BadFrame R.n_BadFrame_part (hr.mono (by decide)) (by rfl) R.c_BadFrame (da_cons (dv 1) da_nil))) dss_nil)
    (dss_cons (ds_if (dt_cmp (op_eqq hr.units) opd_eq (dv 0) de_int (nomark _)) (dss_one (ds_raise1 rfl tk R.ex_BadText (R.xf_BadText).choose_spec xt_BadText R.n_BadText_place (hr.mono (by decide)) (by rfl) R.c_BadText (da_cons (dv 1) da_nil))) dss_nil)
    (dss_cons (ds_if (dt_cmp (op_eqq hr.units) opd_eq (dv 0) de_int (nomark _)) (dss_one (ds_raise1 rfl tk R.ex_NotWhole (R.xf_NotWhole).choose_spec xt_NotWhole R.n_NotWhole_tables (hr.mono (by decide)) (by rfl) R.c_NotWhole (da_cons (dv 1) da_nil))) dss_nil)
    (dss_cons (ds_if (dt_cmp (op_eqq hr.units) opd_eq (dv 0) de_int (nomark _)) (dss_one (ds_raise1 rfl tk R.ex_BadRows (R.xf_BadRows).choose_spec xt_BadRows R.n_BadRows_row (hr.mono (by decide)) (by rfl) R.c_BadRows (da_cons (dv 1) da_nil))) dss_nil)
    (dss_cons (ds_if (dt_cmp (op_eqq hr.units) opd_eq (dv 0) de_int (nomark _)) (dss_one (ds_raise1 rfl tk R.ex_OtherParts (R.xf_OtherParts).choose_spec xt_OtherParts R.n_OtherParts_part (hr.mono (by decide)) (by rfl) R.c_OtherParts (da_cons (dv 1) da_nil))) dss_nil)
    (dss_one (ds_raise1 rfl tk R.ex_NothingBehind (R.xf_NothingBehind).choose_spec xt_NothingBehind R.n_NothingBehind_steps (hr.mono (by decide)) (by rfl) R.c_NothingBehind (da_cons (dv 1) da_nil)))))))))
def b__law_caught (c : CA) : SF := (sSeq (sSet 2 (eC .non))
  (sSeq (sTryK (sSeq (sIf (tB (eOp gLt (eV 0) (eC (.int 7)))) (sEx (eF 2 (m__law_raised c) (aC (eV 0) (aC (eV 1) aN)))) sNx)
  (sSeq (sIf (tB (eOp gEq (eV 0) (eC (.int 7)))) (sRaise0 c.NothingToUndo) sNx)
  (sSeq (sIf (tB (eOp gEq (eV 0) (eC (.int 8)))) (sRaise0 c.InvalidCommand) sNx)
  (sSeq (sIf (tB (eOp gEq (eV 0) (eC (.int 9)))) (sRaise0 c.NoFrame) sNx)
  (sSeq (sIf (tB (eOp gEq (eV 0) (eC (.int 10)))) (sRaise0 c.BadCommand) sNx)
  (sRaise0 c.NothingKnown)))))) [c.BadScheme, c.BadFrame, c.BadText, c.NotWhole, c.BadRows, c.OtherParts, c.NothingBehind, c.NothingToUndo, c.InvalidCommand, c.NoFrame, c.BadCommand, c.NothingKnown] 3 2)
  (sRet (eN (nLst (aC (eF 1 (m__law_kinds c) (aC (eV 2) aN)) (aC (eF 2 (m__law_kept c) (aC (eV 0) (aC (eV 2) aN))) aN)))))))
def m__law_caught (c : CA) : List D → Res D := fun ds => noErr (runP (b__law_caught c) 2 ds)
theorem ok__law_caught (R : PR P K mg) : FnG P w K mg base CX0 3 R.f__law_caught R.fd__law_caught ["_law_at", "_law_it"] (spP K 2 (m__law_caught R.c)) :=
  fn_P R.F__law_caught sc__law_caught 2 rfl fun cdv A outer s H E hg hr => (dss_cons (ds_set sc__law_caught.nd rfl (Or.inl rfl) de_non)
    (dss_cons (ds_try_keep (i := 3) (k := 2) rfl rfl sc__law_caught.nd rfl (fun _ _ _ t0 ht0 => (dss_cons (ds_if (dt_cmp (op_ltt hr.units) opd_lt (dv 0) de_int (nomark _)) (dss_one (ds_expr (de_F (ok__law_raised R) hg (hr.mono (by decide)) (by rfl) R.g__law_raised R.F__law_raised.kp R.b__law_raised (passT t0) (da_cons (dv 0) (da_cons (dv 1) da_nil))))) dss_nil)
    (dss_cons (ds_if (dt_cmp (op_eqq hr.units) opd_eq (dv 0) de_int (nomark _)) (dss_one (ds_raise0 rfl t0 R.ex_NothingToUndo (R.xf_NothingToUndo).choose_spec xt_NothingToUndo (hr.mono (by decide)) (by rfl) R.c_NothingToUndo)) dss_nil)
    (dss_cons (ds_if (dt_cmp (op_eqq hr.units) opd_eq (dv 0) de_int (nomark _)) (dss_one (ds_raise0 rfl t0 R.ex_InvalidCommand (R.xf_InvalidCommand).choose_spec xt_InvalidCommand (hr.mono (by decide)) (by rfl) R.c_InvalidCommand)) dss_nil)
    (dss_cons (ds_if (dt_cmp (op_eqq hr.units) opd_eq (dv 0) de_int (nomark _)) (dss_one (ds_raise0 rfl t0 R.ex_NoFrame (R.xf_NoFrame).choose_spec xt_NoFrame (hr.mono (by decide)) (by rfl) R.c_NoFrame)) dss_nil)
    (dss_cons (ds_if (dt_cmp (op_eqq hr.units) opd_eq (dv 0) de_int (nomark _)) (dss_one (ds_raise0 rfl t0 R.ex_BadCommand (R.xf_BadCommand).choose_spec xt_BadCommand (hr.mono (by decide)) (by rfl) R.c_BadCommand)) dss_nil)
    (dss_one (ds_raise0 rfl t0 R.ex_NothingKnown (R.xf_NothingKnown).choose_spec xt_NothingKnown (hr.mono (by decide)) (by rfl) R.c_NothingKnown))))))))
    ⟨by rfl, by decide, .inl R.c_RestError⟩ rfl rfl rfl (by first | exact Or.inl rfl | exact Or.inr rfl) (by decide) (all_cons (exm_own R.ex_RestError R.sb_BadScheme_RestError) (all_cons (exm_own R.ex_RestError R.sb_BadFrame_RestError) (all_cons (exm_own R.ex_RestError R.sb_BadText_RestError) (all_cons (exm_own R.ex_RestError R.sb_NotWhole_RestError) (all_cons (exm_own R.ex_RestError R.sb_BadRows_RestError) (all_cons (exm_own R.ex_RestError R.sb_OtherParts_RestError) (all_cons (exm_own R.ex_RestError R.sb_NothingBehind_RestError) (all_cons (exm_own R.ex_RestError R.sb_NothingToUndo_RestError) (all_cons (exm_own R.ex_RestError R.sb_InvalidCommand_RestError) (all_cons (exm_own R.ex_RestError R.sb_NoFrame_RestError) (all_cons (exm_own R.ex_RestError R.sb_BadCommand_RestError) (all_cons (exm_own R.ex_RestError R.sb_NothingKnown_RestError) all_nil)))))))))))) (fun _ _ _ => pv 3))
    (dss_one (ds_ret (dn_de (dn_lst (da_cons (de_F (ok__law_kinds R) hg (hr.mono (by decide)) (by rfl) R.g__law_kinds R.F__law_kinds.kp R.b__law_kinds passW0 (da_cons (dv 2) da_nil)) (da_cons (de_F (ok__law_kept R) hg (hr.mono (by decide)) (by rfl) R.g__law_kept R.F__law_kept.kp R.b__law_kept passW0 (da_cons (dv 0) (da_cons (dv 2) da_nil))) da_nil))))))))
def b_law (c : CA) : SF := (sSeq (sSet 2 (eN (nLst (aC (eC (.int 0)) (aC (eUn gNeg (eC (.int 1))) (aC (eOp gPow (eC (.int 10)) (eC (.int 39))) (aC (eC (.bl true)) (aC (eC (.bl false)) (aC (eC .non) (aC (eC (.str "")) (aC (eC (.str "columns")) (aC (eOp gMulS (eC (.str "a")) (eC (.int 99))) (aC (eTup aN) (aC (eN nNil) (aC (eN nDK) (aC (eTup (aC (eC (.int 0)) (aC (eC (.int 1)) aN))) (aC (eTup (aC (eC (.str "")) (aC (eC (.str "a")) aN))) (aC (eN (nLst (aC (eN nNil) aN))) (aC (eN (nDis (("a", (eC (.int 1))) :: []))) aN)))))))))))))))))))
  (sSeq (sFor (iR1 (aC (eC (.int 12)) aN)) (gN 3)
  (sFor (iR1 (aC (eC (.int 6)) aN)) (gN 4)
  (sSeq (sSet 5 (eK 1 1 (m__law_pick c) (aC (eV 2) aN)))
  (sSeq (sSet 6 (eIf (tB (eOp gLt (eV 3) (eC (.int 7)))) (eN (nLst (aC (eV 5) aN))) (eN nNil)))
  (sSeq (sFor (iSq (eF 2 (m__law_made c) (aC (eV 3) (aC (eV 5) aN)))) (gN 7)
  (sSeq (sIf (tOr' (tNt (tB (eIsXn [(c.RestError, true), (c.BadScheme, true), (c.BadFrame, true), (c.BadText, true), (c.NotWhole, true), (c.BadRows, true), (c.OtherParts, true), (c.NothingBehind, true), (c.NothingToUndo, true), (c.InvalidCommand, true), (c.NoFrame, true), (c.BadCommand, true), (c.NothingKnown, true)] (eV 7)))) (tOr' (tNt (tB (eIsXn [(c.RestError, true), (c.BadScheme, true), (c.BadFrame, true), (c.BadText, true), (c.NotWhole, true), (c.BadRows, true), (c.OtherParts, true), (c.NothingBehind, true), (c.NothingToUndo, true), (c.InvalidCommand, true), (c.NoFrame, true), (c.BadCommand, true), (c.NothingKnown, true)] (eV 7)))) (tB (eOp gNe (eF 1 (m__law_kinds c) (aC (eV 7) aN)) (eN (nLst (aC (eV 3) aN))))))) (sRet (eC (.bl false))) sNx)
  (sIf (tOr' (tB (eOp gNe (eCall gReprF (aC (eF 2 (m__law_kept c) (aC (eV 3) (aC (eV 7) aN))) aN)) (eCall gReprF (aC (eV 6) aN)))) (tB (eF 1 (m__law_is_usual c) (aC (eV 7) aN)))) (sRet (eC (.bl false))) sNx)))
  (sIf (tB (eOp gNe (eCall gReprF (aC (eF 2 (m__law_caught c) (aC (eV 3) (aC (eV 5) aN))) aN)) (eCall gReprF (aC (eN (nLst (aC (eN (nLst (aC (eV 3) aN))) (aC (eV 6) aN)))) aN)))) (sRet (eC (.bl false))) sNx))))))
  (sSeq (sFor (iR1 (aC (eC (.int 7)) aN)) (gN 3)
  (sSeq (sPar [8, 9] [.e (eF 2 (m__law_made c) (aC (eV 3) (aC (eC (.int 1)) aN))), .e (eF 2 (m__law_made c) (aC (eV 3) (aC (eC (.int 2)) aN)))])
  (sIf (tB (eOp gNe (eN (nComp [7] (iSq (eOp gAdd (eV 8) (eV 9))) (gN 7) tYes' (eF 2 (m__law_kept c) (aC (eV 3) (aC (eV 7) aN))))) (eN (nLst (aC (eN (nLst (aC (eC (.int 1)) aN))) (aC (eN (nLst (aC (eC (.int 1)) aN))) (aC (eN (nLst (aC (eC (.int 2)) aN))) (aC (eN (nLst (aC (eC (.int 2)) aN))) aN)))))))) (sRet (eC (.bl false))) sNx)))
  (sRet (eOp gEq (eF 1 (m__law_kinds c) (aC (eExn0 c.RestError) aN)) (eN nNil))))))
def spLaw (K : PySem.W.Frag) : Sp := fun vs H Q _ => ∃ (a : Addr) (ns : List Int), vs = [.ref a] ∧ SqL K H a (ns.map V.int) ∧ ns.length ≤ 63 ∧ ∀ H', Q (.bl true) H'
theorem ok_law (R : PR P K mg) (hm : ∀ (p q : Addr) (l : List Int) (b : Int), l.length ≤ 63 → ∃ E, b_law R.c (.no :: .deck p q l b :: nos 8) = .ok (.rt (.bl true), E)) : FnG P w K mg base CX0 4 R.f_law R.fd_law ["_law_script"] (spLaw K) := by
  refine FnG.body R.F_law sc_law (fun vs H Q E h => by obtain ⟨a, ns, rfl, _⟩ := h; rfl) fun cdv A outer s H vs Q E hg hr hsp => ?_
  obtain ⟨a, ns, rfl, hS, hl, z⟩ := hsp
  refine ⟨_, PSs.nox (pss_cons (ps_set (i := 1) sc_law.nd rfl (Or.inl rfl) (pe_F (ok__law_deck R) hg (hr.mono (by decide)) (by rfl) R.g__law_deck R.F__law_deck.kp R.b__law_deck (passW0 (Wi := W0)) (pa_cons (pv 0) pa_nil)))
   (show DSs _ W0 _ (b_law R.c) from (dss_cons (ds_set sc_law.nd rfl (Or.inl rfl) (dn_de (dn_lst (da_cons de_int (da_cons (de_un un_neg und_neg de_int) (da_cons (de_op op_pow opd_pow de_int de_int) (da_cons de_bl (da_cons de_bl (da_cons de_non (da_cons (de_str ⟨by decide +kernel, by decide +kernel⟩) (da_cons (de_str ⟨by decide +kernel, by decide +kernel⟩) (da_cons (de_op op_mulS opd_mulS (de_str ⟨by decide +kernel, by decide +kernel⟩) de_int) (da_cons (de_tup da_nil) (da_cons (dn_de dn_nil) (da_cons (dn_de dn_dk) (da_cons (de_tup (da_cons de_int (da_cons de_int da_nil))) (da_cons (de_tup (da_cons (de_str ⟨by decide +kernel, by decide +kernel⟩) (da_cons (de_str ⟨by decide +kernel, by decide +kernel⟩) da_nil))) (da_cons (dn_de (dn_lst (da_cons (dn_de dn_nil) da_nil))) (da_cons (dn_de (dn_dis (dps_cons ⟨by decide +kernel, by decide +kernel⟩ de_int dps_nil))) da_nil)))))))))))))))))))
    (dss_cons (ds_for PassesOwn.never rfl (di_range1 (by rfl) R.z_range (da_cons de_int da_nil)) (dg_name sc_law.nd rfl (by first | exact Or.inl rfl | exact Or.inr rfl)) (dss_one (ds_for PassesOwn.never rfl (di_range1 (by rfl) R.z_range (da_cons de_int da_nil)) (dg_name sc_law.nd rfl (by first | exact Or.inl rfl | exact Or.inr rfl)) (dss_cons (ds_set sc_law.nd rfl (Or.inl rfl) (de_K (ok__law_pick R) hg (hr.mono (by decide)) (by rfl) R.g__law_pick R.F__law_pick.kp R.b__law_pick passW0 (pv 1) (da_cons (dv 2) da_nil)))
    (dss_cons (ds_set sc_law.nd rfl (Or.inl rfl) (de_ifx (dt_cmp (op_ltt hr.units) opd_lt (dv 3) de_int (nomark _)) (dn_de (dn_lst (da_cons (dv 5) da_nil))) (dn_de dn_nil)))
    (dss_cons (ds_for PassesOwn.never rfl (di_seq (de_F (ok__law_made R) hg (hr.mono (by decide)) (by rfl) R.g__law_made R.F__law_made.kp R.b__law_made passW0 (da_cons (dv 3) (da_cons (dv 5) da_nil)))) (dg_name sc_law.nd rfl (by first | exact Or.inl rfl | exact Or.inr rfl)) (dss_cons (ds_if (dt_w (dw_or (dt_not (dt_val (de_isXn (ClsV.own _) (allT_cons ⟨⟨R.ex_RestError, R.xi_RestError⟩, R.ko_RestError_RestError⟩ (allT_cons ⟨⟨R.ex_BadScheme, R.xi_BadScheme⟩, R.ko_BadScheme_RestError⟩ (allT_cons ⟨⟨R.ex_BadFrame, R.xi_BadFrame⟩, R.ko_BadFrame_RestError⟩ (allT_cons ⟨⟨R.ex_BadText, R.xi_BadText⟩, R.ko_BadText_RestError⟩ (allT_cons ⟨⟨R.ex_NotWhole, R.xi_NotWhole⟩, R.ko_NotWhole_RestError⟩ (allT_cons ⟨⟨R.ex_BadRows, R.xi_BadRows⟩, R.ko_BadRows_RestError⟩ (allT_cons ⟨⟨R.ex_OtherParts, R.xi_OtherParts⟩, R.ko_OtherParts_RestError⟩ (allT_cons ⟨⟨R.ex_NothingBehind, R.xi_NothingBehind⟩, R.ko_NothingBehind_RestError⟩ (allT_cons ⟨⟨R.ex_NothingToUndo, R.xi_NothingToUndo⟩, R.ko_NothingToUndo_RestError⟩ (allT_cons ⟨⟨R.ex_InvalidCommand, R.xi_InvalidCommand⟩, R.ko_InvalidCommand_RestError⟩ (allT_cons ⟨⟨R.ex_NoFrame, R.xi_NoFrame⟩, R.ko_NoFrame_RestError⟩ (allT_cons ⟨⟨R.ex_BadCommand, R.xi_BadCommand⟩, R.ko_BadCommand_RestError⟩ (allT_cons ⟨⟨R.ex_NothingKnown, R.xi_NothingKnown⟩, R.ko_NothingKnown_RestError⟩ allT_nil))))))))))))) (by rfl) R.z_isinstance (dv 7) (pe_glob (by rfl) R.c_RestError rfl)))) (dw_or (dt_not (dt_val (de_isXn (ClsV.ty "Exception") (allT_cons ⟨⟨R.ex_RestError, R.xi_RestError⟩, R.ko_RestError_Exception⟩ (allT_cons ⟨⟨R.ex_BadScheme, R.xi_BadScheme⟩, R.ko_BadScheme_Exception⟩ (allT_cons ⟨⟨R.ex_BadFrame, R.xi_BadFrame⟩, R.ko_BadFrame_Exception⟩ (allT_cons ⟨⟨R.ex_BadText, R.xi_BadText⟩, R.ko_BadText_Exception⟩ (allT_cons ⟨⟨R.ex_NotWhole, R.xi_NotWhole⟩, R.ko_NotWhole_Exception⟩ (allT_cons ⟨⟨R.ex_BadRows, R.xi_BadRows⟩, R.ko_BadRows_Exception⟩ (allT_cons ⟨⟨R.ex_OtherParts, R.xi_OtherParts⟩, R.ko_OtherParts_Exception⟩ (allT_cons ⟨⟨R.ex_NothingBehind, R.xi_NothingBehind⟩, R.ko_NothingBehind_Exception⟩ (allT_cons ⟨⟨R.ex_NothingToUndo, R.xi_NothingToUndo⟩, R.ko_NothingToUndo_Exception⟩ (allT_cons ⟨⟨R.ex_InvalidCommand, R.xi_InvalidCommand⟩, R.ko_InvalidCommand_Exception⟩ (allT_cons ⟨⟨R.ex_NoFrame, R.xi_NoFrame⟩, R.ko_NoFrame_Exception⟩ (allT_cons ⟨⟨R.ex_BadCommand, R.xi_BadCommand⟩, R.ko_BadCommand_Exception⟩ (allT_cons ⟨⟨R.ex_NothingKnown, R.xi_NothingKnown⟩, R.ko_NothingKnown_Exception⟩ allT_nil))))))))))))) (by rfl) R.z_isinstance (dv 7) (pe_bltn (by rfl) R.z_Exception bootx_Exception rfl)))) (dw_one (dt_cmp (op_neq hr.units) opd_ne (de_F (ok__law_kinds R) hg (hr.mono (by decide)) (by rfl) R.g__law_kinds R.F__law_kinds.kp R.b__law_kinds passW0 (da_cons (dv 7) da_nil)) (dn_de (dn_lst (da_cons (dv 3) da_nil))) (nomark _)))))) (dss_one (ds_ret de_bl)) dss_nil)
    (dss_one (ds_if (dt_w (dw_or (dt_cmp (op_neq hr.units) opd_ne (de_callB (call_reprF hr.units hg) calld_reprF (by rfl) R.z_repr PyProof.Rows.boot_repr (da_cons (de_F (ok__law_kept R) hg (hr.mono (by decide)) (by rfl) R.g__law_kept R.F__law_kept.kp R.b__law_kept passW0 (da_cons (dv 3) (da_cons (dv 7) da_nil))) da_nil)) (de_callB (call_reprF hr.units hg) calld_reprF (by rfl) R.z_repr PyProof.Rows.boot_repr (da_cons (dv 6) da_nil)) (nomark _)) (dw_one (dt_val (de_F (ok__law_is_usual R) hg (hr.mono (by decide)) (by rfl) R.g__law_is_usual R.F__law_is_usual.kp R.b__law_is_usual passW0 (da_cons (dv 7) da_nil)))))) (dss_one (ds_ret de_bl)) dss_nil))))
    (dss_one (ds_if (dt_cmp (op_neq hr.units) opd_ne (de_callB (call_reprF hr.units hg) calld_reprF (by rfl) R.z_repr PyProof.Rows.boot_repr (da_cons (de_F (ok__law_caught R) hg (hr.mono (by decide)) (by rfl) R.g__law_caught R.F__law_caught.kp R.b__law_caught passW0 (da_cons (dv 3) (da_cons (dv 5) da_nil))) da_nil)) (de_callB (call_reprF hr.units hg) calld_reprF (by rfl) R.z_repr PyProof.Rows.boot_repr (da_cons (dn_de (dn_lst (da_cons (dn_de (dn_lst (da_cons (dv 3) da_nil))) (da_cons (dv 6) da_nil)))) da_nil)) (nomark _)) (dss_one (ds_ret de_bl)) dss_nil))))))))
    (dss_cons (ds_for PassesOwn.never rfl (di_range1 (by rfl) R.z_range (da_cons de_int da_nil)) (dg_name sc_law.nd rfl (by first | exact Or.inl rfl | exact Or.inr rfl)) (dss_cons (ds_par2 rfl sc_law.nd rfl rfl (by decide) rfl rfl (dws_e (de_F (ok__law_made R) hg (hr.mono (by decide)) (by rfl) R.g__law_made R.F__law_made.kp R.b__law_made passW0 (da_cons (dv 3) (da_cons de_int da_nil))) (dws_e (de_F (ok__law_made R) hg (hr.mono (by decide)) (by rfl) R.g__law_made R.F__law_made.kp R.b__law_made passW0 (da_cons (dv 3) (da_cons de_int da_nil))) dws_nil)) rfl)
    (dss_one (ds_if (dt_cmp (op_neq hr.units) opd_ne (dn_de (dn_comp (own := [("_law_e", 7)]) rfl sc_law.nd (di_seq (de_op op_addA opd_add (dv 8) (dv 9))) (by exact blkOk_by (N := N_law) (sc := defScope s_law) (own := [("_law_e", 7)]) (by decide +kernel)) (fun _ _ _ _ _ => (dg_name sc_law.nd rfl (by first | exact Or.inl rfl | exact Or.inr rfl))) (fun _ _ _ _ _ => dts_nil) (fun _ _ _ _ _ => (de_F (ok__law_kept R) hg (hr.mono (by decide)) (by rfl) R.g__law_kept R.F__law_kept.kp R.b__law_kept passW0 (da_cons (dv 3) (da_cons (dv 7) da_nil)))))) (dn_de (dn_lst (da_cons (dn_de (dn_lst (da_cons de_int da_nil))) (da_cons (dn_de (dn_lst (da_cons de_int da_nil))) (da_cons (dn_de (dn_lst (da_cons de_int da_nil))) (da_cons (dn_de (dn_lst (da_cons de_int da_nil))) da_nil)))))) (nomark _)) (dss_one (ds_ret de_bl)) dss_nil))))
    (dss_one (ds_ret (de_cmp (op_eqq hr.units) opd_eq (de_F (ok__law_kinds R) hg (hr.mono (by decide)) (by rfl) R.g__law_kinds R.F__law_kinds.kp R.b__law_kinds passW0 (da_cons (de_exnR PySem.F.excBase_Exception R.xr_RestError R.ex_RestError.kp (by rfl) R.c_RestError) da_nil)) (dn_de dn_nil) (nomark _))))))))), ?_⟩
  exact law_read (n := 8) rfl hm hS hl z
theorem all_mk {l : PySem.W.OpenLaw} {h : Heap} {fa : Addr} (X : K.In h) (G : h.Ns mainGlobals mg) (hfa : mg "law" = some (.ref fa)) {C_BadCommand : Addr} {C_BadFrame : Addr} {C_BadRows : Addr} {C_BadScheme : Addr} {C_BadText : Addr} {C_InvalidCommand : Addr} {C_NoFrame : Addr} {C_NotWhole : Addr} {C_NothingBehind : Addr} {C_NothingKnown : Addr} {C_NothingToUndo : Addr} {C_OtherParts : Addr} {C_RestError : Addr} {f__law_draw : Addr} {oc__law_draw : Value} {od__law_draw : Option Addr} {kV__law_draw dc__law_draw pm__law_draw cd__law_draw ct__law_draw : Value} {an__law_draw : Option Addr} {sl__law_draw : Array (Option Value)} {f__law_deck : Addr} {oc__law_deck : Value} {od__law_deck : Option Addr} {kV__law_deck dc__law_deck pm__law_deck cd__law_deck ct__law_deck : Value} {an__law_deck : Option Addr} {sl__law_deck : Array (Option Value)} {f__law_pick : Addr} {oc__law_pick : Value} {od__law_pick : Option Addr} {kV__law_pick dc__law_pick pm__law_pick cd__law_pick ct__law_pick : Value} {an__law_pick : Option Addr} {sl__law_pick : Array (Option Value)} {f__law_made : Addr} {oc__law_made : Value} {od__law_made : Option Addr} {kV__law_made dc__law_made pm__law_made cd__law_made ct__law_made : Value} {an__law_made : Option Addr} {sl__law_made : Array (Option Value)} {f__law_kinds : Addr} {oc__law_kinds : Value} {od__law_kinds : Option Addr} {kV__law_kinds dc__law_kinds pm__law_kinds cd__law_kinds ct__law_kinds : Value} {an__law_kinds : Option Addr} {sl__law_kinds : Array (Option Value)} {f__law_kept : Addr} {oc__law_kept : Value} {od__law_kept : Option Addr} {kV__law_kept dc__law_kept pm__law_kept cd__law_kept ct__law_kept : Value} {an__law_kept : Option Addr} {sl__law_kept : Array (Option Value)} {f__law_is_usual : Addr} {oc__law_is_usual : Value} {od__law_is_usual : Option Addr} {kV__law_is_usual dc__law_is_usual pm__law_is_usual cd__law_is_usual ct__law_is_usual : Value} {an__law_is_usual : Option Addr} {sl__law_is_usual : Array (Option Value)} {f__law_raised : Addr} {oc__law_raised : Value} {od__law_raised : Option Addr} {kV__law_raised dc__law_raised pm__law_raised cd__law_raised ct__law_raised : Value} {an__law_raised : Option Addr} {sl__law_raised : Array (Option Value)} {f__law_caught : Addr} {oc__law_caught : Value} {od__law_caught : Option Addr} {kV__law_caught dc__law_caught pm__law_caught cd__law_caught ct__law_caught : Value} {an__law_caught : Option Addr} {sl__law_caught : Array (Option Value)} {f_law : Addr} {oc_law : Value} {od_law : Option Addr} {kV_law dc_law pm_law cd_law ct_law : Value} {an_law : Option Addr} {sl_law : Array (Option Value)} {fIxBadFrame : Addr} {cdaxBadFrame : Addr} {ccxBadFrame : Addr} {ocxBadFrame : Value} {kVxBadFrame : Value} {dcxBadFrame : Value} {pmxBadFrame : Value} {ctxBadFrame : Value} {clcxBadFrame : Value} {cllxBadFrame : Value} {odxBadFrame : Option Addr} {anxBadFrame : Option Addr} {cldxBadFrame : Option Addr} {cddxBadFrame : Option Addr} {oslxBadFrame : Array (Option Value)} {cslxBadFrame : Array (Option Value)} {ccsxBadFrame : Array (Option Value)} {vsxBadFrame : Array Value} {flxBadFrame : Str} {tfxBadFrame : Tok} {fIxBadScheme : Addr} {cdaxBadScheme : Addr} {ccxBadScheme : Addr} {ocxBadScheme : Value} {kVxBadScheme : Value} {dcxBadScheme : Value} {pmxBadScheme : Value} {ctxBadScheme : Value} {clcxBadScheme : Value} {cllxBadScheme : Value} {odxBadScheme : Option Addr} {anxBadScheme : Option Addr} {cldxBadScheme : Option Addr} {cddxBadScheme : Option Addr} {oslxBadScheme : Array (Option Value)} {cslxBadScheme : Array (Option Value)} {ccsxBadScheme : Array (Option Value)} {vsxBadScheme : Array Value} {flxBadScheme : Str} {tfxBadScheme : Tok} {fIxNotWhole : Addr} {cdaxNotWhole : Addr} {ccxNotWhole : Addr} {ocxNotWhole : Value} {kVxNotWhole : Value} {dcxNotWhole : Value} {pmxNotWhole : Value} {ctxNotWhole : Value} {clcxNotWhole : Value} {cllxNotWhole : Value} {odxNotWhole : Option Addr} {anxNotWhole : Option Addr} {cldxNotWhole : Option Addr} {cddxNotWhole : Option Addr} {oslxNotWhole : Array (Option Value)} {cslxNotWhole : Array (Option Value)} {ccsxNotWhole : Array (Option Value)} {vsxNotWhole : Array Value} {flxNotWhole : Str} {tfxNotWhole : Tok} {fIxBadText : Addr} {cdaxBadText : Addr} {ccxBadText : Addr} {ocxBadText : Value} {kVxBadText : Value} {dcxBadText : Value} {pmxBadText : Value} {ctxBadText : Value} {clcxBadText : Value} {cllxBadText : Value} {odxBadText : Option Addr} {anxBadText : Option Addr} {cldxBadText : Option Addr} {cddxBadText : Option Addr} {oslxBadText : Array (Option Value)} {cslxBadText : Array (Option Value)} {ccsxBadText : Array (Option Value)} {vsxBadText : Array Value} {flxBadText : Str} {tfxBadText : Tok} {fIxOtherParts : Addr} {cdaxOtherParts : Addr} {ccxOtherParts : Addr} {ocxOtherParts : Value} {kVxOtherParts : Value} {dcxOtherParts : Value} {pmxOtherParts : Value} {ctxOtherParts : Value} {clcxOtherParts : Value} {cllxOtherParts : Value} {odxOtherParts : Option Addr} {anxOtherParts : Option Addr} {cldxOtherParts : Option Addr} {cddxOtherParts : Option Addr} {oslxOtherParts : Array (Option Value)} {cslxOtherParts : Array (Option Value)} {ccsxOtherParts : Array (Option Value)} {vsxOtherParts : Array Value} {flxOtherParts : Str} {tfxOtherParts : Tok} {fIxBadRows : Addr} {cdaxBadRows : Addr} {ccxBadRows : Addr} {ocxBadRows : Value} {kVxBadRows : Value} {dcxBadRows : Value} {pmxBadRows : Value} {ctxBadRows : Value} {clcxBadRows : Value} {cllxBadRows : Value} {odxBadRows : Option Addr} {anxBadRows : Option Addr} {cldxBadRows : Option Addr} {cddxBadRows : Option Addr} {oslxBadRows : Array (Option Value)} {cslxBadRows : Array (Option Value)} {ccsxBadRows : Array (Option Value)} {vsxBadRows : Array Value} {flxBadRows : Str} {tfxBadRows : Tok} {fIxNothingBehind : Addr} {cdaxNothingBehind : Addr} {ccxNothingBehind : Addr} {ocxNothingBehind : Value} {kVxNothingBehind : Value} {dcxNothingBehind : Value} {pmxNothingBehind : Value} {ctxNothingBehind : Value} {clcxNothingBehind : Value} {cllxNothingBehind : Value} {odxNothingBehind : Option Addr} {anxNothingBehind : Option Addr} {cldxNothingBehind : Option Addr} {cddxNothingBehind : Option Addr} {oslxNothingBehind : Array (Option Value)} {cslxNothingBehind : Array (Option Value)} {ccsxNothingBehind : Array (Option Value)} {vsxNothingBehind : Array Value} {flxNothingBehind : Str} {tfxNothingBehind : Tok} {fIxNoFrame : Addr} {cdaxNoFrame : Addr} {ccxNoFrame : Addr} {ocxNoFrame : Value} {kVxNoFrame : Value} {dcxNoFrame : Value} {pmxNoFrame : Value} {ctxNoFrame : Value} {clcxNoFrame : Value} {cllxNoFrame : Value} {odxNoFrame : Option Addr} {anxNoFrame : Option Addr} {cldxNoFrame : Option Addr} {cddxNoFrame : Option Addr} {oslxNoFrame : Array (Option Value)} {cslxNoFrame : Array (Option Value)} {ccsxNoFrame : Array (Option Value)} {vsxNoFrame : Array Value} {flxNoFrame : Str} {tfxNoFrame : Tok} {fIxInvalidCommand : Addr} {cdaxInvalidCommand : Addr} {ccxInvalidCommand : Addr} {ocxInvalidCommand : Value} {kVxInvalidCommand : Value} {dcxInvalidCommand : Value} {pmxInvalidCommand : Value} {ctxInvalidCommand : Value} {clcxInvalidCommand : Value} {cllxInvalidCommand : Value} {odxInvalidCommand : Option Addr} {anxInvalidCommand : Option Addr} {cldxInvalidCommand : Option Addr} {cddxInvalidCommand : Option Addr} {oslxInvalidCommand : Array (Option Value)} {cslxInvalidCommand : Array (Option Value)} {ccsxInvalidCommand : Array (Option Value)} {vsxInvalidCommand : Array Value} {flxInvalidCommand : Str} {tfxInvalidCommand : Tok} {fIxNothingToUndo : Addr} {cdaxNothingToUndo : Addr} {ccxNothingToUndo : Addr} {ocxNothingToUndo : Value} {kVxNothingToUndo : Value} {dcxNothingToUndo : Value} {pmxNothingToUndo : Value} {ctxNothingToUndo : Value} {clcxNothingToUndo : Value} {cllxNothingToUndo : Value} {odxNothingToUndo : Option Addr} {anxNothingToUndo : Option Addr} {cldxNothingToUndo : Option Addr} {cddxNothingToUndo : Option Addr} {oslxNothingToUndo : Array (Option Value)} {cslxNothingToUndo : Array (Option Value)} {ccsxNothingToUndo : Array (Option Value)} {vsxNothingToUndo : Array Value} {flxNothingToUndo : Str} {tfxNothingToUndo : Tok} {fIxNothingKnown : Addr} {cdaxNothingKnown : Addr} {ccxNothingKnown : Addr} {ocxNothingKnown : Value} {kVxNothingKnown : Value} {dcxNothingKnown : Value} {pmxNothingKnown : Value} {ctxNothingKnown : Value} {clcxNothingKnown : Value} {cllxNothingKnown : Value} {odxNothingKnown : Option Addr} {anxNothingKnown : Option Addr} {cldxNothingKnown : Option Addr} {cddxNothingKnown : Option Addr} {oslxNothingKnown : Array (Option Value)} {cslxNothingKnown : Array (Option Value)} {ccsxNothingKnown : Array (Option Value)} {vsxNothingKnown : Array Value} {flxNothingKnown : Str} {tfxNothingKnown : Tok} {fIxBadCommand : Addr} {cdaxBadCommand : Addr} {ccxBadCommand : Addr} {ocxBadCommand : Value} {kVxBadCommand : Value} {dcxBadCommand : Value} {pmxBadCommand : Value} {ctxBadCommand : Value} {clcxBadCommand : Value} {cllxBadCommand : Value} {odxBadCommand : Option Addr} {anxBadCommand : Option Addr} {cldxBadCommand : Option Addr} {cddxBadCommand : Option Addr} {oslxBadCommand : Array (Option Value)} {cslxBadCommand : Array (Option Value)} {ccsxBadCommand : Array (Option Value)} {vsxBadCommand : Array Value} {flxBadCommand : Str} {tfxBadCommand : Tok}
  (aC_BadCommand : PySem.W.nsIn K mainGlobals "BadCommand" = some (some (.ref C_BadCommand)))
  (aC_BadFrame : PySem.W.nsIn K mainGlobals "BadFrame" = some (some (.ref C_BadFrame)))
  (aC_BadRows : PySem.W.nsIn K mainGlobals "BadRows" = some (some (.ref C_BadRows)))
  (aC_BadScheme : PySem.W.nsIn K mainGlobals "BadScheme" = some (some (.ref C_BadScheme)))
  (aC_BadText : PySem.W.nsIn K mainGlobals "BadText" = some (some (.ref C_BadText)))
  (aC_InvalidCommand : PySem.W.nsIn K mainGlobals "InvalidCommand" = some (some (.ref C_InvalidCommand)))
  (aC_NoFrame : PySem.W.nsIn K mainGlobals "NoFrame" = some (some (.ref C_NoFrame)))
  (aC_NotWhole : PySem.W.nsIn K mainGlobals "NotWhole" = some (some (.ref C_NotWhole)))
  (aC_NothingBehind : PySem.W.nsIn K mainGlobals "NothingBehind" = some (some (.ref C_NothingBehind)))
  (aC_NothingKnown : PySem.W.nsIn K mainGlobals "NothingKnown" = some (some (.ref C_NothingKnown)))
  (aC_NothingToUndo : PySem.W.nsIn K mainGlobals "NothingToUndo" = some (some (.ref C_NothingToUndo)))
  (aC_OtherParts : PySem.W.nsIn K mainGlobals "OtherParts" = some (some (.ref C_OtherParts)))
  (aC_RestError : PySem.W.nsIn K mainGlobals "RestError" = some (some (.ref C_RestError)))
  (a__law_draw : PySem.W.nsIn K mainGlobals "_law_draw" = some (some (.ref f__law_draw)))
  (l__law_draw : K.lookup f__law_draw = some ⟨oc__law_draw, od__law_draw, .func (PySem.W.fnOf "_law_draw" "_law_draw" (defArgs s__law_draw) (defBody s__law_draw) (defScope s__law_draw) .none kV__law_draw dc__law_draw pm__law_draw an__law_draw cd__law_draw ct__law_draw), sl__law_draw⟩)
  (q__law_draw : PySem.W.codeIn K cd__law_draw "_law_draw" = true)
  (k__law_draw : PySem.W.keepIn K (.ref f__law_draw) = true)
  (a__law_deck : PySem.W.nsIn K mainGlobals "_law_deck" = some (some (.ref f__law_deck)))
  (l__law_deck : K.lookup f__law_deck = some ⟨oc__law_deck, od__law_deck, .func (PySem.W.fnOf "_law_deck" "_law_deck" (defArgs s__law_deck) (defBody s__law_deck) (defScope s__law_deck) .none kV__law_deck dc__law_deck pm__law_deck an__law_deck cd__law_deck ct__law_deck), sl__law_deck⟩)
  (q__law_deck : PySem.W.codeIn K cd__law_deck "_law_deck" = true)
  (k__law_deck : PySem.W.keepIn K (.ref f__law_deck) = true)
  (a__law_pick : PySem.W.nsIn K mainGlobals "_law_pick" = some (some (.ref f__law_pick)))
  (l__law_pick : K.lookup f__law_pick = some ⟨oc__law_pick, od__law_pick, .func (PySem.W.fnOf "_law_pick" "_law_pick" (defArgs s__law_pick) (defBody s__law_pick) (defScope s__law_pick) .none kV__law_pick dc__law_pick pm__law_pick an__law_pick cd__law_pick ct__law_pick), sl__law_pick⟩)
  (q__law_pick : PySem.W.codeIn K cd__law_pick "_law_pick" = true)
  (k__law_pick : PySem.W.keepIn K (.ref f__law_pick) = true)
  (a__law_made : PySem.W.nsIn K mainGlobals "_law_made" = some (some (.ref f__law_made)))
  (l__law_made : K.lookup f__law_made = some ⟨oc__law_made, od__law_made, .func (PySem.W.fnOf "_law_made" "_law_made" (defArgs s__law_made) (defBody s__law_made) (defScope s__law_made) .none kV__law_made dc__law_made pm__law_made an__law_made cd__law_made ct__law_made), sl__law_made⟩)
  (q__law_made : PySem.W.codeIn K cd__law_made "_law_made" = true)
  (k__law_made : PySem.W.keepIn K (.ref f__law_made) = true)
  (a__law_kinds : PySem.W.nsIn K mainGlobals "_law_kinds" = some (some (.ref f__law_kinds)))
  (l__law_kinds : K.lookup f__law_kinds = some ⟨oc__law_kinds, od__law_kinds, .func (PySem.W.fnOf "_law_kinds" "_law_kinds" (defArgs s__law_kinds) (defBody s__law_kinds) (defScope s__law_kinds) .none kV__law_kinds dc__law_kinds pm__law_kinds an__law_kinds cd__law_kinds ct__law_kinds), sl__law_kinds⟩)
  (q__law_kinds : PySem.W.codeIn K cd__law_kinds "_law_kinds" = true)
  (k__law_kinds : PySem.W.keepIn K (.ref f__law_kinds) = true)
  (a__law_kept : PySem.W.nsIn K mainGlobals "_law_kept" = some (some (.ref f__law_kept)))
  (l__law_kept : K.lookup f__law_kept = some ⟨oc__law_kept, od__law_kept, .func (PySem.W.fnOf "_law_kept" "_law_kept" (defArgs s__law_kept) (defBody s__law_kept) (defScope s__law_kept) .none kV__law_kept dc__law_kept pm__law_kept an__law_kept cd__law_kept ct__law_kept), sl__law_kept⟩)
  (q__law_kept : PySem.W.codeIn K cd__law_kept "_law_kept" = true)
  (k__law_kept : PySem.W.keepIn K (.ref f__law_kept) = true)
  (a__law_is_usual : PySem.W.nsIn K mainGlobals "_law_is_usual" = some (some (.ref f__law_is_usual)))
  (l__law_is_usual : K.lookup f__law_is_usual = some ⟨oc__law_is_usual, od__law_is_usual, .func (PySem.W.fnOf "_law_is_usual" "_law_is_usual" (defArgs s__law_is_usual) (defBody s__law_is_usual) (defScope s__law_is_usual) .none kV__law_is_usual dc__law_is_usual pm__law_is_usual an__law_is_usual cd__law_is_usual ct__law_is_usual), sl__law_is_usual⟩)
  (q__law_is_usual : PySem.W.codeIn K cd__law_is_usual "_law_is_usual" = true)
  (k__law_is_usual : PySem.W.keepIn K (.ref f__law_is_usual) = true)
  (a__law_raised : PySem.W.nsIn K mainGlobals "_law_raised" = some (some (.ref f__law_raised)))
  (l__law_raised : K.lookup f__law_raised = some ⟨oc__law_raised, od__law_raised, .func (PySem.W.fnOf "_law_raised" "_law_raised" (defArgs s__law_raised) (defBody s__law_raised) (defScope s__law_raised) .none kV__law_raised dc__law_raised pm__law_raised an__law_raised cd__law_raised ct__law_raised), sl__law_raised⟩)
  (q__law_raised : PySem.W.codeIn K cd__law_raised "_law_raised" = true)
  (k__law_raised : PySem.W.keepIn K (.ref f__law_raised) = true)
  (a__law_caught : PySem.W.nsIn K mainGlobals "_law_caught" = some (some (.ref f__law_caught)))
  (l__law_caught : K.lookup f__law_caught = some ⟨oc__law_caught, od__law_caught, .func (PySem.W.fnOf "_law_caught" "_law_caught" (defArgs s__law_caught) (defBody s__law_caught) (defScope s__law_caught) .none kV__law_caught dc__law_caught pm__law_caught an__law_caught cd__law_caught ct__law_caught), sl__law_caught⟩)
  (q__law_caught : PySem.W.codeIn K cd__law_caught "_law_caught" = true)
  (k__law_caught : PySem.W.keepIn K (.ref f__law_caught) = true)
  (a_law : PySem.W.nsIn K mainGlobals "law" = some (some (.ref f_law)))
  (l_law : K.lookup f_law = some ⟨oc_law, od_law, .func (PySem.W.fnOf "law" "law" (defArgs s_law) (defBody s_law) (defScope s_law) .none kV_law dc_law pm_law an_law cd_law ct_law), sl_law⟩)
  (q_law : PySem.W.codeIn K cd_law "law" = true)
  (k_law : PySem.W.keepIn K (.ref f_law) = true)
  (z_int : PySem.W.nsIn K mainGlobals "int" = some none)
  (z_range : PySem.W.nsIn K mainGlobals "range" = some none)
  (z_len : PySem.W.nsIn K mainGlobals "len" = some none)
  (ei_BadFrame : PySem.W.excInitIn K C_BadFrame [.type "Exception", .type "BaseException", .type "object"] "Exception.__new__" = true)
  (ov_BadFrame : PySem.W.excOver K C_BadFrame [.type "Exception", .type "BaseException", .type "object"] = true)
  (xb_BadFrame : PySem.W.subIn K (.ref C_BadFrame) (.type "BaseException") = some true)
  (xx_BadFrame : PySem.W.subIn K (.ref C_BadFrame) (.type "Exception") = some true)
  (xy_BadFrame : PySem.W.typeIn K (.ref C_BadFrame) = some (.type "type"))
  (kc_BadFrame : PySem.W.keepIn K (.ref C_BadFrame) = true)
  (hd_BadFrame : PySem.W.hasDictIn K C_BadFrame = true)
  (sa_BadFrame : PySem.W.findIn K (.ref C_BadFrame) "__setattr__" = some (some (.builtin "object.__setattr__")))
  (xm_BadFrame : PySem.W.mroIn K C_BadFrame (.ref C_BadFrame) = some true)
  (xs_BadFrame : PySem.W.ks_superIn K C_BadFrame C_BadFrame "__init__" = some (some (.builtin "Exception.__init__")))
  (xth : PySem.W.nsIn K cStatics "thirdparty.any" = some none)
  (xg_BadFrame : PySem.W.findIn K (.ref C_BadFrame) "__getattribute__" = some (some (.builtin "BaseException.__getattribute__")))
  (xh_BadFrame : PySem.W.findIn K (.ref C_BadFrame) "__getattr__" = some none)
  (ia_BadFrame : PySem.W.findIn K (.ref C_BadFrame) "__init__" = some (some (.ref fIxBadFrame)))
  (ib_BadFrame : PySem.W.typeIn K (.ref fIxBadFrame) = some (.type "function"))
  (ic_BadFrame : K.lookup fIxBadFrame = some ⟨ocxBadFrame, odxBadFrame, .func (PySem.W.fnX "__init__" "BadFrame.__init__" (defArgs s_BadFrame___init__) (defBody s_BadFrame___init__) (defScope s_BadFrame___init__) [("__class__", ccxBadFrame)] .none kVxBadFrame dcxBadFrame pmxBadFrame anxBadFrame (.ref cdaxBadFrame) ctxBadFrame), oslxBadFrame⟩)
  (id_BadFrame : PySem.W.codeIn K (.ref cdaxBadFrame) "BadFrame.__init__" = true)
  (ie_BadFrame : K.lookup cdaxBadFrame = some ⟨clcxBadFrame, cddxBadFrame, .fields vsxBadFrame, ccsxBadFrame⟩)
  (if_BadFrame : vsxBadFrame[2]? = some (.str flxBadFrame tfxBadFrame))
  (ig_BadFrame : ((l.prog.main.file : Str) == flxBadFrame) = true)
  (ih_BadFrame : K.lookup ccxBadFrame = some ⟨cllxBadFrame, cldxBadFrame, .cell (some (.ref C_BadFrame)), cslxBadFrame⟩)
  (z_super : PySem.W.nsIn K mainGlobals "super" = some none)
  (ztop : (l.prog.main.scope.names.lookup ("super" : Str)).isSome = false)
  (n_BadFrame_part : PySem.W.findIn K (.ref C_BadFrame) "part" = some none)
  (ei_BadScheme : PySem.W.excInitIn K C_BadScheme [.type "Exception", .type "BaseException", .type "object"] "Exception.__new__" = true)
  (ov_BadScheme : PySem.W.excOver K C_BadScheme [.type "Exception", .type "BaseException", .type "object"] = true)
  (xb_BadScheme : PySem.W.subIn K (.ref C_BadScheme) (.type "BaseException") = some true)
  (xx_BadScheme : PySem.W.subIn K (.ref C_BadScheme) (.type "Exception") = some true)
  (xy_BadScheme : PySem.W.typeIn K (.ref C_BadScheme) = some (.type "type"))
  (kc_BadScheme : PySem.W.keepIn K (.ref C_BadScheme) = true)
  (hd_BadScheme : PySem.W.hasDictIn K C_BadScheme = true)
  (sa_BadScheme : PySem.W.findIn K (.ref C_BadScheme) "__setattr__" = some (some (.builtin "object.__setattr__")))
  (xm_BadScheme : PySem.W.mroIn K C_BadScheme (.ref C_BadScheme) = some true)
  (xs_BadScheme : PySem.W.ks_superIn K C_BadScheme C_BadScheme "__init__" = some (some (.builtin "Exception.__init__")))
  (xg_BadScheme : PySem.W.findIn K (.ref C_BadScheme) "__getattribute__" = some (some (.builtin "BaseException.__getattribute__")))
  (xh_BadScheme : PySem.W.findIn K (.ref C_BadScheme) "__getattr__" = some none)
  (ia_BadScheme : PySem.W.findIn K (.ref C_BadScheme) "__init__" = some (some (.ref fIxBadScheme)))
  (ib_BadScheme : PySem.W.typeIn K (.ref fIxBadScheme) = some (.type "function"))
  (ic_BadScheme : K.lookup fIxBadScheme = some ⟨ocxBadScheme, odxBadScheme, .func (PySem.W.fnX "__init__" "BadScheme.__init__" (defArgs s_BadScheme___init__) (defBody s_BadScheme___init__) (defScope s_BadScheme___init__) [("__class__", ccxBadScheme)] .none kVxBadScheme dcxBadScheme pmxBadScheme anxBadScheme (.ref cdaxBadScheme) ctxBadScheme), oslxBadScheme⟩)
  (id_BadScheme : PySem.W.codeIn K (.ref cdaxBadScheme) "BadScheme.__init__" = true)
  (ie_BadScheme : K.lookup cdaxBadScheme = some ⟨clcxBadScheme, cddxBadScheme, .fields vsxBadScheme, ccsxBadScheme⟩)
  (if_BadScheme : vsxBadScheme[2]? = some (.str flxBadScheme tfxBadScheme))
  (ig_BadScheme : ((l.prog.main.file : Str) == flxBadScheme) = true)
  (ih_BadScheme : K.lookup ccxBadScheme = some ⟨cllxBadScheme, cldxBadScheme, .cell (some (.ref C_BadScheme)), cslxBadScheme⟩)
  (n_BadScheme_part : PySem.W.findIn K (.ref C_BadScheme) "part" = some none)
  (ei_NotWhole : PySem.W.excInitIn K C_NotWhole [.type "Exception", .type "BaseException", .type "object"] "Exception.__new__" = true)
  (ov_NotWhole : PySem.W.excOver K C_NotWhole [.type "Exception", .type "BaseException", .type "object"] = true)
  (xb_NotWhole : PySem.W.subIn K (.ref C_NotWhole) (.type "BaseException") = some true)
  (xx_NotWhole : PySem.W.subIn K (.ref C_NotWhole) (.type "Exception") = some true)
  (xy_NotWhole : PySem.W.typeIn K (.ref C_NotWhole) = some (.type "type"))
  (kc_NotWhole : PySem.W.keepIn K (.ref C_NotWhole) = true)
  (hd_NotWhole : PySem.W.hasDictIn K C_NotWhole = true)
  (sa_NotWhole : PySem.W.findIn K (.ref C_NotWhole) "__setattr__" = some (some (.builtin "object.__setattr__")))
  (xm_NotWhole : PySem.W.mroIn K C_NotWhole (.ref C_NotWhole) = some true)
  (xs_NotWhole : PySem.W.ks_superIn K C_NotWhole C_NotWhole "__init__" = some (some (.builtin "Exception.__init__")))
  (xg_NotWhole : PySem.W.findIn K (.ref C_NotWhole) "__getattribute__" = some (some (.builtin "BaseException.__getattribute__")))
  (xh_NotWhole : PySem.W.findIn K (.ref C_NotWhole) "__getattr__" = some none)
  (ia_NotWhole : PySem.W.findIn K (.ref C_NotWhole) "__init__" = some (some (.ref fIxNotWhole)))
  (ib_NotWhole : PySem.W.typeIn K (.ref fIxNotWhole) = some (.type "function"))
  (ic_NotWhole : K.lookup fIxNotWhole = some ⟨ocxNotWhole, odxNotWhole, .func (PySem.W.fnX "__init__" "NotWhole.__init__" (defArgs s_NotWhole___init__) (defBody s_NotWhole___init__) (defScope s_NotWhole___init__) [("__class__", ccxNotWhole)] .none kVxNotWhole dcxNotWhole pmxNotWhole anxNotWhole (.ref cdaxNotWhole) ctxNotWhole), oslxNotWhole⟩)
  (id_NotWhole : PySem.W.codeIn K (.ref cdaxNotWhole) "NotWhole.__init__" = true)
  (ie_NotWhole : K.lookup cdaxNotWhole = some ⟨clcxNotWhole, cddxNotWhole, .fields vsxNotWhole, ccsxNotWhole⟩)
  (if_NotWhole : vsxNotWhole[2]? = some (.str flxNotWhole tfxNotWhole))
  (ig_NotWhole : ((l.prog.main.file : Str) == flxNotWhole) = true)
  (ih_NotWhole : K.lookup ccxNotWhole = some ⟨cllxNotWhole, cldxNotWhole, .cell (some (.ref C_NotWhole)), cslxNotWhole⟩)
  (n_NotWhole_tables : PySem.W.findIn K (.ref C_NotWhole) "tables" = some none)
  (ei_BadText : PySem.W.excInitIn K C_BadText [.type "Exception", .type "BaseException", .type "object"] "Exception.__new__" = true)
  (ov_BadText : PySem.W.excOver K C_BadText [.type "Exception", .type "BaseException", .type "object"] = true)
  (xb_BadText : PySem.W.subIn K (.ref C_BadText) (.type "BaseException") = some true)
  (xx_BadText : PySem.W.subIn K (.ref C_BadText) (.type "Exception") = some true)
  (xy_BadText : PySem.W.typeIn K (.ref C_BadText) = some (.type "type"))
  (kc_BadText : PySem.W.keepIn K (.ref C_BadText) = true)
  (hd_BadText : PySem.W.hasDictIn K C_BadText = true)
  (sa_BadText : PySem.W.findIn K (.ref C_BadText) "__setattr__" = some (some (.builtin "object.__setattr__")))
  (xm_BadText : PySem.W.mroIn K C_BadText (.ref C_BadText) = some true)
  (xs_BadText : PySem.W.ks_superIn K C_BadText C_BadText "__init__" = some (some (.builtin "Exception.__init__")))
  (xg_BadText : PySem.W.findIn K (.ref C_BadText) "__getattribute__" = some (some (.builtin "BaseException.__getattribute__")))
  (xh_BadText : PySem.W.findIn K (.ref C_BadText) "__getattr__" = some none)
  (ia_BadText : PySem.W.findIn K (.ref C_BadText) "__init__" = some (some (.ref fIxBadText)))
  (ib_BadText : PySem.W.typeIn K (.ref fIxBadText) = some (.type "function"))
  (ic_BadText : K.lookup fIxBadText = some ⟨ocxBadText, odxBadText, .func (PySem.W.fnX "__init__" "BadText.__init__" (defArgs s_BadText___init__) (defBody s_BadText___init__) (defScope s_BadText___init__) [("__class__", ccxBadText)] .none kVxBadText dcxBadText pmxBadText anxBadText (.ref cdaxBadText) ctxBadText), oslxBadText⟩)
  (id_BadText : PySem.W.codeIn K (.ref cdaxBadText) "BadText.__init__" = true)
  (ie_BadText : K.lookup cdaxBadText = some ⟨clcxBadText, cddxBadText, .fields vsxBadText, ccsxBadText⟩)
  (if_BadText : vsxBadText[2]? = some (.str flxBadText tfxBadText))
  (ig_BadText : ((l.prog.main.file : Str) == flxBadText) = true)
  (ih_BadText : K.lookup ccxBadText = some ⟨cllxBadText, cldxBadText, .cell (some (.ref C_BadText)), cslxBadText⟩)
  (n_BadText_place : PySem.W.findIn K (.ref C_BadText) "place" = some none)
  (ei_OtherParts : PySem.W.excInitIn K C_OtherParts [.type "Exception", .type "BaseException", .type "object"] "Exception.__new__" = true)
  (ov_OtherParts : PySem.W.excOver K C_OtherParts [.type "Exception", .type "BaseException", .type "object"] = true)
  (xb_OtherParts : PySem.W.subIn K (.ref C_OtherParts) (.type "BaseException") = some true)
  (xx_OtherParts : PySem.W.subIn K (.ref C_OtherParts) (.type "Exception") = some true)
  (xy_OtherParts : PySem.W.typeIn K (.ref C_OtherParts) = some (.type "type"))
  (kc_OtherParts : PySem.W.keepIn K (.ref C_OtherParts) = true)
  (hd_OtherParts : PySem.W.hasDictIn K C_OtherParts = true)
  (sa_OtherParts : PySem.W.findIn K (.ref C_OtherParts) "__setattr__" = some (some (.builtin "object.__setattr__")))
  (xm_OtherParts : PySem.W.mroIn K C_OtherParts (.ref C_OtherParts) = some true)
  (xs_OtherParts : PySem.W.ks_superIn K C_OtherParts C_OtherParts "__init__" = some (some (.builtin "Exception.__init__")))
  (xg_OtherParts : PySem.W.findIn K (.ref C_OtherParts) "__getattribute__" = some (some (.builtin "BaseException.__getattribute__")))
  (xh_OtherParts : PySem.W.findIn K (.ref C_OtherParts) "__getattr__" = some none)
  (ia_OtherParts : PySem.W.findIn K (.ref C_OtherParts) "__init__" = some (some (.ref fIxOtherParts)))
  (ib_OtherParts : PySem.W.typeIn K (.ref fIxOtherParts) = some (.type "function"))
  (ic_OtherParts : K.lookup fIxOtherParts = some ⟨ocxOtherParts, odxOtherParts, .func (PySem.W.fnX "__init__" "OtherParts.__init__" (defArgs s_OtherParts___init__) (defBody s_OtherParts___init__) (defScope s_OtherParts___init__) [("__class__", ccxOtherParts)] .none kVxOtherParts dcxOtherParts pmxOtherParts anxOtherParts (.ref cdaxOtherParts) ctxOtherParts), oslxOtherParts⟩)
  (id_OtherParts : PySem.W.codeIn K (.ref cdaxOtherParts) "OtherParts.__init__" = true)
  (ie_OtherParts : K.lookup cdaxOtherParts = some ⟨clcxOtherParts, cddxOtherParts, .fields vsxOtherParts, ccsxOtherParts⟩)
  (if_OtherParts : vsxOtherParts[2]? = some (.str flxOtherParts tfxOtherParts))
  (ig_OtherParts : ((l.prog.main.file : Str) == flxOtherParts) = true)
  (ih_OtherParts : K.lookup ccxOtherParts = some ⟨cllxOtherParts, cldxOtherParts, .cell (some (.ref C_OtherParts)), cslxOtherParts⟩)
  (n_OtherParts_part : PySem.W.findIn K (.ref C_OtherParts) "part" = some none)
  (ei_BadRows : PySem.W.excInitIn K C_BadRows [.type "Exception", .type "BaseException", .type "object"] "Exception.__new__" = true)
  (ov_BadRows : PySem.W.excOver K C_BadRows [.type "Exception", .type "BaseException", .type "object"] = true)
  (xb_BadRows : PySem.W.subIn K (.ref C_BadRows) (.type "BaseException") = some true)
  (xx_BadRows : PySem.W.subIn K (.ref C_BadRows) (.type "Exception") = some true)
  (xy_BadRows : PySem.W.typeIn K (.ref C_BadRows) = some (.type "type"))
  (kc_BadRows : PySem.W.keepIn K (.ref C_BadRows) = true)
  (hd_BadRows : PySem.W.hasDictIn K C_BadRows = true)
  (sa_BadRows : PySem.W.findIn K (.ref C_BadRows) "__setattr__" = some (some (.builtin "object.__setattr__")))
  (xm_BadRows : PySem.W.mroIn K C_BadRows (.ref C_BadRows) = some true)
  (xs_BadRows : PySem.W.ks_superIn K C_BadRows C_BadRows "__init__" = some (some (.builtin "Exception.__init__")))
  (xg_BadRows : PySem.W.findIn K (.ref C_BadRows) "__getattribute__" = some (some (.builtin "BaseException.__getattribute__")))
  (xh_BadRows : PySem.W.findIn K (.ref C_BadRows) "__getattr__" = some none)
  (ia_BadRows : PySem.W.findIn K (.ref C_BadRows) "__init__" = some (some (.ref fIxBadRows)))
  (ib_BadRows : PySem.W.typeIn K (.ref fIxBadRows) = some (.type "function"))
  (ic_BadRows : K.lookup fIxBadRows = some ⟨ocxBadRows, odxBadRows, .func (PySem.W.fnX "__init__" "BadRows.__init__" (defArgs s_BadRows___init__) (defBody s_BadRows___init__) (defScope s_BadRows___init__) [("__class__", ccxBadRows)] .none kVxBadRows dcxBadRows pmxBadRows anxBadRows (.ref cdaxBadRows) ctxBadRows), oslxBadRows⟩)
  (id_BadRows : PySem.W.codeIn K (.ref cdaxBadRows) "BadRows.__init__" = true)
  (ie_BadRows : K.lookup cdaxBadRows = some ⟨clcxBadRows, cddxBadRows, .fields vsxBadRows, ccsxBadRows⟩)
  (if_BadRows : vsxBadRows[2]? = some (.str flxBadRows tfxBadRows))
  (ig_BadRows : ((l.prog.main.file : Str) == flxBadRows) = true)
  (ih_BadRows : K.lookup ccxBadRows = some ⟨cllxBadRows, cldxBadRows, .cell (some (.ref C_BadRows)), cslxBadRows⟩)
  (n_BadRows_row : PySem.W.findIn K (.ref C_BadRows) "row" = some none)
  (ei_NothingBehind : PySem.W.excInitIn K C_NothingBehind [.type "Exception", .type "BaseException", .type "object"] "Exception.__new__" = true)
  (ov_NothingBehind : PySem.W.excOver K C_NothingBehind [.type "Exception", .type "BaseException", .type "object"] = true)
  (xb_NothingBehind : PySem.W.subIn K (.ref C_NothingBehind) (.type "BaseException") = some true)
  (xx_NothingBehind : PySem.W.subIn K (.ref C_NothingBehind) (.type "Exception") = some true)
  (xy_NothingBehind : PySem.W.typeIn K (.ref C_NothingBehind) = some (.type "type"))
  (kc_NothingBehind : PySem.W.keepIn K (.ref C_NothingBehind) = true)
  (hd_NothingBehind : PySem.W.hasDictIn K C_NothingBehind = true)
  (sa_NothingBehind : PySem.W.findIn K (.ref C_NothingBehind) "__setattr__" = some (some (.builtin "object.__setattr__")))
  (xm_NothingBehind : PySem.W.mroIn K C_NothingBehind (.ref C_NothingBehind) = some true)
  (xs_NothingBehind : PySem.W.ks_superIn K C_NothingBehind C_NothingBehind "__init__" = some (some (.builtin "Exception.__init__")))
  (xg_NothingBehind : PySem.W.findIn K (.ref C_NothingBehind) "__getattribute__" = some (some (.builtin "BaseException.__getattribute__")))
  (xh_NothingBehind : PySem.W.findIn K (.ref C_NothingBehind) "__getattr__" = some none)
  (ia_NothingBehind : PySem.W.findIn K (.ref C_NothingBehind) "__init__" = some (some (.ref fIxNothingBehind)))
  (ib_NothingBehind : PySem.W.typeIn K (.ref fIxNothingBehind) = some (.type "function"))
  (ic_NothingBehind : K.lookup fIxNothingBehind = some ⟨ocxNothingBehind, odxNothingBehind, .func (PySem.W.fnX "__init__" "NothingBehind.__init__" (defArgs s_NothingBehind___init__) (defBody s_NothingBehind___init__) (defScope s_NothingBehind___init__) [("__class__", ccxNothingBehind)] .none kVxNothingBehind dcxNothingBehind pmxNothingBehind anxNothingBehind (.ref cdaxNothingBehind) ctxNothingBehind), oslxNothingBehind⟩)
  (id_NothingBehind : PySem.W.codeIn K (.ref cdaxNothingBehind) "NothingBehind.__init__" = true)
  (ie_NothingBehind : K.lookup cdaxNothingBehind = some ⟨clcxNothingBehind, cddxNothingBehind, .fields vsxNothingBehind, ccsxNothingBehind⟩)
  (if_NothingBehind : vsxNothingBehind[2]? = some (.str flxNothingBehind tfxNothingBehind))
  (ig_NothingBehind : ((l.prog.main.file : Str) == flxNothingBehind) = true)
  (ih_NothingBehind : K.lookup ccxNothingBehind = some ⟨cllxNothingBehind, cldxNothingBehind, .cell (some (.ref C_NothingBehind)), cslxNothingBehind⟩)
  (n_NothingBehind_steps : PySem.W.findIn K (.ref C_NothingBehind) "steps" = some none)
  (ei_NoFrame : PySem.W.excInitIn K C_NoFrame [.type "Exception", .type "BaseException", .type "object"] "Exception.__new__" = true)
  (ov_NoFrame : PySem.W.excOver K C_NoFrame [.type "Exception", .type "BaseException", .type "object"] = true)
  (xb_NoFrame : PySem.W.subIn K (.ref C_NoFrame) (.type "BaseException") = some true)
  (xx_NoFrame : PySem.W.subIn K (.ref C_NoFrame) (.type "Exception") = some true)
  (xy_NoFrame : PySem.W.typeIn K (.ref C_NoFrame) = some (.type "type"))
  (kc_NoFrame : PySem.W.keepIn K (.ref C_NoFrame) = true)
  (hd_NoFrame : PySem.W.hasDictIn K C_NoFrame = true)
  (sa_NoFrame : PySem.W.findIn K (.ref C_NoFrame) "__setattr__" = some (some (.builtin "object.__setattr__")))
  (xm_NoFrame : PySem.W.mroIn K C_NoFrame (.ref C_NoFrame) = some true)
  (xs_NoFrame : PySem.W.ks_superIn K C_NoFrame C_NoFrame "__init__" = some (some (.builtin "Exception.__init__")))
  (xg_NoFrame : PySem.W.findIn K (.ref C_NoFrame) "__getattribute__" = some (some (.builtin "BaseException.__getattribute__")))
  (xh_NoFrame : PySem.W.findIn K (.ref C_NoFrame) "__getattr__" = some none)
  (ia_NoFrame : PySem.W.findIn K (.ref C_NoFrame) "__init__" = some (some (.ref fIxNoFrame)))
  (ib_NoFrame : PySem.W.typeIn K (.ref fIxNoFrame) = some (.type "function"))
  (ic_NoFrame : K.lookup fIxNoFrame = some ⟨ocxNoFrame, odxNoFrame, .func (PySem.W.fnX "__init__" "NoFrame.__init__" (defArgs s_NoFrame___init__) (defBody s_NoFrame___init__) (defScope s_NoFrame___init__) [("__class__", ccxNoFrame)] .none kVxNoFrame dcxNoFrame pmxNoFrame anxNoFrame (.ref cdaxNoFrame) ctxNoFrame), oslxNoFrame⟩)
  (id_NoFrame : PySem.W.codeIn K (.ref cdaxNoFrame) "NoFrame.__init__" = true)
  (ie_NoFrame : K.lookup cdaxNoFrame = some ⟨clcxNoFrame, cddxNoFrame, .fields vsxNoFrame, ccsxNoFrame⟩)
  (if_NoFrame : vsxNoFrame[2]? = some (.str flxNoFrame tfxNoFrame))
  (ig_NoFrame : ((l.prog.main.file : Str) == flxNoFrame) = true)
  (ih_NoFrame : K.lookup ccxNoFrame = some ⟨cllxNoFrame, cldxNoFrame, .cell (some (.ref C_NoFrame)), cslxNoFrame⟩)
  (ei_InvalidCommand : PySem.W.excInitIn K C_InvalidCommand [.type "Exception", .type "BaseException", .type "object"] "Exception.__new__" = true)
  (ov_InvalidCommand : PySem.W.excOver K C_InvalidCommand [.type "Exception", .type "BaseException", .type "object"] = true)
  (xb_InvalidCommand : PySem.W.subIn K (.ref C_InvalidCommand) (.type "BaseException") = some true)
  (xx_InvalidCommand : PySem.W.subIn K (.ref C_InvalidCommand) (.type "Exception") = some true)
  (xy_InvalidCommand : PySem.W.typeIn K (.ref C_InvalidCommand) = some (.type "type"))
  (kc_InvalidCommand : PySem.W.keepIn K (.ref C_InvalidCommand) = true)
  (hd_InvalidCommand : PySem.W.hasDictIn K C_InvalidCommand = true)
  (sa_InvalidCommand : PySem.W.findIn K (.ref C_InvalidCommand) "__setattr__" = some (some (.builtin "object.__setattr__")))
  (xm_InvalidCommand : PySem.W.mroIn K C_InvalidCommand (.ref C_InvalidCommand) = some true)
  (xs_InvalidCommand : PySem.W.ks_superIn K C_InvalidCommand C_InvalidCommand "__init__" = some (some (.builtin "Exception.__init__")))
  (xg_InvalidCommand : PySem.W.findIn K (.ref C_InvalidCommand) "__getattribute__" = some (some (.builtin "BaseException.__getattribute__")))
  (xh_InvalidCommand : PySem.W.findIn K (.ref C_InvalidCommand) "__getattr__" = some none)
  (ia_InvalidCommand : PySem.W.findIn K (.ref C_InvalidCommand) "__init__" = some (some (.ref fIxInvalidCommand)))
  (ib_InvalidCommand : PySem.W.typeIn K (.ref fIxInvalidCommand) = some (.type "function"))
  (ic_InvalidCommand : K.lookup fIxInvalidCommand = some ⟨ocxInvalidCommand, odxInvalidCommand, .func (PySem.W.fnX "__init__" "InvalidCommand.__init__" (defArgs s_InvalidCommand___init__) (defBody s_InvalidCommand___init__) (defScope s_InvalidCommand___init__) [("__class__", ccxInvalidCommand)] .none kVxInvalidCommand dcxInvalidCommand pmxInvalidCommand anxInvalidCommand (.ref cdaxInvalidCommand) ctxInvalidCommand), oslxInvalidCommand⟩)
  (id_InvalidCommand : PySem.W.codeIn K (.ref cdaxInvalidCommand) "InvalidCommand.__init__" = true)
  (ie_InvalidCommand : K.lookup cdaxInvalidCommand = some ⟨clcxInvalidCommand, cddxInvalidCommand, .fields vsxInvalidCommand, ccsxInvalidCommand⟩)
  (if_InvalidCommand : vsxInvalidCommand[2]? = some (.str flxInvalidCommand tfxInvalidCommand))
  (ig_InvalidCommand : ((l.prog.main.file : Str) == flxInvalidCommand) = true)
  (ih_InvalidCommand : K.lookup ccxInvalidCommand = some ⟨cllxInvalidCommand, cldxInvalidCommand, .cell (some (.ref C_InvalidCommand)), cslxInvalidCommand⟩)
  (ei_NothingToUndo : PySem.W.excInitIn K C_NothingToUndo [.type "Exception", .type "BaseException", .type "object"] "Exception.__new__" = true)
  (ov_NothingToUndo : PySem.W.excOver K C_NothingToUndo [.type "Exception", .type "BaseException", .type "object"] = true)
  (xb_NothingToUndo : PySem.W.subIn K (.ref C_NothingToUndo) (.type "BaseException") = some true)
  (xx_NothingToUndo : PySem.W.subIn K (.ref C_NothingToUndo) (.type "Exception") = some true)
  (xy_NothingToUndo : PySem.W.typeIn K (.ref C_NothingToUndo) = some (.type "type"))
  (kc_NothingToUndo : PySem.W.keepIn K (.ref C_NothingToUndo) = true)
  (hd_NothingToUndo : PySem.W.hasDictIn K C_NothingToUndo = true)
  (sa_NothingToUndo : PySem.W.findIn K (.ref C_NothingToUndo) "__setattr__" = some (some (.builtin "object.__setattr__")))
  (xm_NothingToUndo : PySem.W.mroIn K C_NothingToUndo (.ref C_NothingToUndo) = some true)
  (xs_NothingToUndo : PySem.W.ks_superIn K C_NothingToUndo C_NothingToUndo "__init__" = some (some (.builtin "Exception.__init__")))
  (xg_NothingToUndo : PySem.W.findIn K (.ref C_NothingToUndo) "__getattribute__" = some (some (.builtin "BaseException.__getattribute__")))
  (xh_NothingToUndo : PySem.W.findIn K (.ref C_NothingToUndo) "__getattr__" = some none)
  (ia_NothingToUndo : PySem.W.findIn K (.ref C_NothingToUndo) "__init__" = some (some (.ref fIxNothingToUndo)))
  (ib_NothingToUndo : PySem.W.typeIn K (.ref fIxNothingToUndo) = some (.type "function"))
  (ic_NothingToUndo : K.lookup fIxNothingToUndo = some ⟨ocxNothingToUndo, odxNothingToUndo, .func (PySem.W.fnX "__init__" "NothingToUndo.__init__" (defArgs s_NothingToUndo___init__) (defBody s_NothingToUndo___init__) (defScope s_NothingToUndo___init__) [("__class__", ccxNothingToUndo)] .none kVxNothingToUndo dcxNothingToUndo pmxNothingToUndo anxNothingToUndo (.ref cdaxNothingToUndo) ctxNothingToUndo), oslxNothingToUndo⟩)
  (id_NothingToUndo : PySem.W.codeIn K (.ref cdaxNothingToUndo) "NothingToUndo.__init__" = true)
  (ie_NothingToUndo : K.lookup cdaxNothingToUndo = some ⟨clcxNothingToUndo, cddxNothingToUndo, .fields vsxNothingToUndo, ccsxNothingToUndo⟩)
  (if_NothingToUndo : vsxNothingToUndo[2]? = some (.str flxNothingToUndo tfxNothingToUndo))
  (ig_NothingToUndo : ((l.prog.main.file : Str) == flxNothingToUndo) = true)
  (ih_NothingToUndo : K.lookup ccxNothingToUndo = some ⟨cllxNothingToUndo, cldxNothingToUndo, .cell (some (.ref C_NothingToUndo)), cslxNothingToUndo⟩)
  (ei_NothingKnown : PySem.W.excInitIn K C_NothingKnown [.type "Exception", .type "BaseException", .type "object"] "Exception.__new__" = true)
  (ov_NothingKnown : PySem.W.excOver K C_NothingKnown [.type "Exception", .type "BaseException", .type "object"] = true)
  (xb_NothingKnown : PySem.W.subIn K (.ref C_NothingKnown) (.type "BaseException") = some true)
  (xx_NothingKnown : PySem.W.subIn K (.ref C_NothingKnown) (.type "Exception") = some true)
  (xy_NothingKnown : PySem.W.typeIn K (.ref C_NothingKnown) = some (.type "type"))
  (kc_NothingKnown : PySem.W.keepIn K (.ref C_NothingKnown) = true)
  (hd_NothingKnown : PySem.W.hasDictIn K C_NothingKnown = true)
  (sa_NothingKnown : PySem.W.findIn K (.ref C_NothingKnown) "__setattr__" = some (some (.builtin "object.__setattr__")))
  (xm_NothingKnown : PySem.W.mroIn K C_NothingKnown (.ref C_NothingKnown) = some true)
  (xs_NothingKnown : PySem.W.ks_superIn K C_NothingKnown C_NothingKnown "__init__" = some (some (.builtin "Exception.__init__")))
  (xg_NothingKnown : PySem.W.findIn K (.ref C_NothingKnown) "__getattribute__" = some (some (.builtin "BaseException.__getattribute__")))
  (xh_NothingKnown : PySem.W.findIn K (.ref C_NothingKnown) "__getattr__" = some none)
  (ia_NothingKnown : PySem.W.findIn K (.ref C_NothingKnown) "__init__" = some (some (.ref fIxNothingKnown)))
  (ib_NothingKnown : PySem.W.typeIn K (.ref fIxNothingKnown) = some (.type "function"))
  (ic_NothingKnown : K.lookup fIxNothingKnown = some ⟨ocxNothingKnown, odxNothingKnown, .func (PySem.W.fnX "__init__" "NothingKnown.__init__" (defArgs s_NothingKnown___init__) (defBody s_NothingKnown___init__) (defScope s_NothingKnown___init__) [("__class__", ccxNothingKnown)] .none kVxNothingKnown dcxNothingKnown pmxNothingKnown anxNothingKnown (.ref cdaxNothingKnown) ctxNothingKnown), oslxNothingKnown⟩)
  (id_NothingKnown : PySem.W.codeIn K (.ref cdaxNothingKnown) "NothingKnown.__init__" = true)
  (ie_NothingKnown : K.lookup cdaxNothingKnown = some ⟨clcxNothingKnown, cddxNothingKnown, .fields vsxNothingKnown, ccsxNothingKnown⟩)
  (if_NothingKnown : vsxNothingKnown[2]? = some (.str flxNothingKnown tfxNothingKnown))
  (ig_NothingKnown : ((l.prog.main.file : Str) == flxNothingKnown) = true)
  (ih_NothingKnown : K.lookup ccxNothingKnown = some ⟨cllxNothingKnown, cldxNothingKnown, .cell (some (.ref C_NothingKnown)), cslxNothingKnown⟩)
  (ei_BadCommand : PySem.W.excInitIn K C_BadCommand [.type "Exception", .type "BaseException", .type "object"] "Exception.__new__" = true)
  (ov_BadCommand : PySem.W.excOver K C_BadCommand [.type "Exception", .type "BaseException", .type "object"] = true)
  (xb_BadCommand : PySem.W.subIn K (.ref C_BadCommand) (.type "BaseException") = some true)
  (xx_BadCommand : PySem.W.subIn K (.ref C_BadCommand) (.type "Exception") = some true)
  (xy_BadCommand : PySem.W.typeIn K (.ref C_BadCommand) = some (.type "type"))
  (kc_BadCommand : PySem.W.keepIn K (.ref C_BadCommand) = true)
  (hd_BadCommand : PySem.W.hasDictIn K C_BadCommand = true)
  (sa_BadCommand : PySem.W.findIn K (.ref C_BadCommand) "__setattr__" = some (some (.builtin "object.__setattr__")))
  (xm_BadCommand : PySem.W.mroIn K C_BadCommand (.ref C_BadCommand) = some true)
  (xs_BadCommand : PySem.W.ks_superIn K C_BadCommand C_BadCommand "__init__" = some (some (.builtin "Exception.__init__")))
  (xg_BadCommand : PySem.W.findIn K (.ref C_BadCommand) "__getattribute__" = some (some (.builtin "BaseException.__getattribute__")))
  (xh_BadCommand : PySem.W.findIn K (.ref C_BadCommand) "__getattr__" = some none)
  (ia_BadCommand : PySem.W.findIn K (.ref C_BadCommand) "__init__" = some (some (.ref fIxBadCommand)))
  (ib_BadCommand : PySem.W.typeIn K (.ref fIxBadCommand) = some (.type "function"))
  (ic_BadCommand : K.lookup fIxBadCommand = some ⟨ocxBadCommand, odxBadCommand, .func (PySem.W.fnX "__init__" "BadCommand.__init__" (defArgs s_BadCommand___init__) (defBody s_BadCommand___init__) (defScope s_BadCommand___init__) [("__class__", ccxBadCommand)] .none kVxBadCommand dcxBadCommand pmxBadCommand anxBadCommand (.ref cdaxBadCommand) ctxBadCommand), oslxBadCommand⟩)
  (id_BadCommand : PySem.W.codeIn K (.ref cdaxBadCommand) "BadCommand.__init__" = true)
  (ie_BadCommand : K.lookup cdaxBadCommand = some ⟨clcxBadCommand, cddxBadCommand, .fields vsxBadCommand, ccsxBadCommand⟩)
  (if_BadCommand : vsxBadCommand[2]? = some (.str flxBadCommand tfxBadCommand))
  (ig_BadCommand : ((l.prog.main.file : Str) == flxBadCommand) = true)
  (ih_BadCommand : K.lookup ccxBadCommand = some ⟨cllxBadCommand, cldxBadCommand, .cell (some (.ref C_BadCommand)), cslxBadCommand⟩)
  (z_isinstance : PySem.W.nsIn K mainGlobals "isinstance" = some none)
  (ko_NothingKnown_RestError : PySem.W.kitOne K (.ref C_NothingKnown) (.ref C_RestError) = some true)
  (xc_NothingKnown : PySem.W.findIn K (.ref C_NothingKnown) "__class__" = some (some (.builtin "object.__class__")))
  (jn : PySem.W.specialIn K (.builtin "object.__class__") "__get__" = some (some (.builtin "getset_descriptor.__get__")))
  (jt : PySem.W.takesIn K (.builtin "object.__class__") = some true)
  (jm_NothingKnown : PySem.W.mroIn K C_NothingKnown (.type "object") = some true)
  (ko_BadCommand_RestError : PySem.W.kitOne K (.ref C_BadCommand) (.ref C_RestError) = some true)
  (xc_BadCommand : PySem.W.findIn K (.ref C_BadCommand) "__class__" = some (some (.builtin "object.__class__")))
  (jm_BadCommand : PySem.W.mroIn K C_BadCommand (.type "object") = some true)
  (ko_NoFrame_RestError : PySem.W.kitOne K (.ref C_NoFrame) (.ref C_RestError) = some true)
  (xc_NoFrame : PySem.W.findIn K (.ref C_NoFrame) "__class__" = some (some (.builtin "object.__class__")))
  (jm_NoFrame : PySem.W.mroIn K C_NoFrame (.type "object") = some true)
  (ko_InvalidCommand_RestError : PySem.W.kitOne K (.ref C_InvalidCommand) (.ref C_RestError) = some true)
  (xc_InvalidCommand : PySem.W.findIn K (.ref C_InvalidCommand) "__class__" = some (some (.builtin "object.__class__")))
  (jm_InvalidCommand : PySem.W.mroIn K C_InvalidCommand (.type "object") = some true)
  (ko_NothingToUndo_RestError : PySem.W.kitOne K (.ref C_NothingToUndo) (.ref C_RestError) = some true)
  (xc_NothingToUndo : PySem.W.findIn K (.ref C_NothingToUndo) "__class__" = some (some (.builtin "object.__class__")))
  (jm_NothingToUndo : PySem.W.mroIn K C_NothingToUndo (.type "object") = some true)
  (ko_NothingBehind_RestError : PySem.W.kitOne K (.ref C_NothingBehind) (.ref C_RestError) = some true)
  (xc_NothingBehind : PySem.W.findIn K (.ref C_NothingBehind) "__class__" = some (some (.builtin "object.__class__")))
  (jm_NothingBehind : PySem.W.mroIn K C_NothingBehind (.type "object") = some true)
  (ko_OtherParts_RestError : PySem.W.kitOne K (.ref C_OtherParts) (.ref C_RestError) = some true)
  (xc_OtherParts : PySem.W.findIn K (.ref C_OtherParts) "__class__" = some (some (.builtin "object.__class__")))
  (jm_OtherParts : PySem.W.mroIn K C_OtherParts (.type "object") = some true)
  (ko_BadRows_RestError : PySem.W.kitOne K (.ref C_BadRows) (.ref C_RestError) = some true)
  (xc_BadRows : PySem.W.findIn K (.ref C_BadRows) "__class__" = some (some (.builtin "object.__class__")))
  (jm_BadRows : PySem.W.mroIn K C_BadRows (.type "object") = some true)
  (ko_NotWhole_RestError : PySem.W.kitOne K (.ref C_NotWhole) (.ref C_RestError) = some true)
  (xc_NotWhole : PySem.W.findIn K (.ref C_NotWhole) "__class__" = some (some (.builtin "object.__class__")))
  (jm_NotWhole : PySem.W.mroIn K C_NotWhole (.type "object") = some true)
  (ko_BadText_RestError : PySem.W.kitOne K (.ref C_BadText) (.ref C_RestError) = some true)
  (xc_BadText : PySem.W.findIn K (.ref C_BadText) "__class__" = some (some (.builtin "object.__class__")))
  (jm_BadText : PySem.W.mroIn K C_BadText (.type "object") = some true)
  (ko_BadFrame_RestError : PySem.W.kitOne K (.ref C_BadFrame) (.ref C_RestError) = some true)
  (xc_BadFrame : PySem.W.findIn K (.ref C_BadFrame) "__class__" = some (some (.builtin "object.__class__")))
  (jm_BadFrame : PySem.W.mroIn K C_BadFrame (.type "object") = some true)
  (ko_BadScheme_RestError : PySem.W.kitOne K (.ref C_BadScheme) (.ref C_RestError) = some true)
  (xc_BadScheme : PySem.W.findIn K (.ref C_BadScheme) "__class__" = some (some (.builtin "object.__class__")))
  (jm_BadScheme : PySem.W.mroIn K C_BadScheme (.type "object") = some true)
  (ko_RestError_RestError : PySem.W.kitOne K (.ref C_RestError) (.ref C_RestError) = some true)
  (ei_RestError : PySem.W.excInitIn K C_RestError [.type "Exception", .type "BaseException", .type "object"] "Exception.__new__" = true)
  (ov_RestError : PySem.W.excOver K C_RestError [.type "Exception", .type "BaseException", .type "object"] = true)
  (xb_RestError : PySem.W.subIn K (.ref C_RestError) (.type "BaseException") = some true)
  (xx_RestError : PySem.W.subIn K (.ref C_RestError) (.type "Exception") = some true)
  (xy_RestError : PySem.W.typeIn K (.ref C_RestError) = some (.type "type"))
  (kc_RestError : PySem.W.keepIn K (.ref C_RestError) = true)
  (hd_RestError : PySem.W.hasDictIn K C_RestError = true)
  (sa_RestError : PySem.W.findIn K (.ref C_RestError) "__setattr__" = some (some (.builtin "object.__setattr__")))
  (xm_RestError : PySem.W.mroIn K C_RestError (.ref C_RestError) = some true)
  (xs_RestError : PySem.W.ks_superIn K C_RestError C_RestError "__init__" = some (some (.builtin "Exception.__init__")))
  (xg_RestError : PySem.W.findIn K (.ref C_RestError) "__getattribute__" = some (some (.builtin "BaseException.__getattribute__")))
  (xh_RestError : PySem.W.findIn K (.ref C_RestError) "__getattr__" = some none)
  (xc_RestError : PySem.W.findIn K (.ref C_RestError) "__class__" = some (some (.builtin "object.__class__")))
  (jm_RestError : PySem.W.mroIn K C_RestError (.type "object") = some true)
  (ko_NothingKnown_Exception : PySem.W.kitOne K (.ref C_NothingKnown) (.type "Exception") = some true)
  (ko_BadCommand_Exception : PySem.W.kitOne K (.ref C_BadCommand) (.type "Exception") = some true)
  (ko_NoFrame_Exception : PySem.W.kitOne K (.ref C_NoFrame) (.type "Exception") = some true)
  (ko_InvalidCommand_Exception : PySem.W.kitOne K (.ref C_InvalidCommand) (.type "Exception") = some true)
  (ko_NothingToUndo_Exception : PySem.W.kitOne K (.ref C_NothingToUndo) (.type "Exception") = some true)
  (ko_NothingBehind_Exception : PySem.W.kitOne K (.ref C_NothingBehind) (.type "Exception") = some true)
  (ko_OtherParts_Exception : PySem.W.kitOne K (.ref C_OtherParts) (.type "Exception") = some true)
  (ko_BadRows_Exception : PySem.W.kitOne K (.ref C_BadRows) (.type "Exception") = some true)
  (ko_NotWhole_Exception : PySem.W.kitOne K (.ref C_NotWhole) (.type "Exception") = some true)
  (ko_BadText_Exception : PySem.W.kitOne K (.ref C_BadText) (.type "Exception") = some true)
  (ko_BadFrame_Exception : PySem.W.kitOne K (.ref C_BadFrame) (.type "Exception") = some true)
  (ko_BadScheme_Exception : PySem.W.kitOne K (.ref C_BadScheme) (.type "Exception") = some true)
  (ko_RestError_Exception : PySem.W.kitOne K (.ref C_RestError) (.type "Exception") = some true)
  (z_Exception : PySem.W.nsIn K mainGlobals "Exception" = some none)
  (ko_NothingKnown_NotWhole : PySem.W.kitOne K (.ref C_NothingKnown) (.ref C_NotWhole) = some false)
  (ko_BadCommand_NotWhole : PySem.W.kitOne K (.ref C_BadCommand) (.ref C_NotWhole) = some false)
  (ko_NoFrame_NotWhole : PySem.W.kitOne K (.ref C_NoFrame) (.ref C_NotWhole) = some false)
  (ko_InvalidCommand_NotWhole : PySem.W.kitOne K (.ref C_InvalidCommand) (.ref C_NotWhole) = some false)
  (ko_NothingToUndo_NotWhole : PySem.W.kitOne K (.ref C_NothingToUndo) (.ref C_NotWhole) = some false)
  (ko_NothingBehind_NotWhole : PySem.W.kitOne K (.ref C_NothingBehind) (.ref C_NotWhole) = some false)
  (ko_OtherParts_NotWhole : PySem.W.kitOne K (.ref C_OtherParts) (.ref C_NotWhole) = some false)
  (ko_BadRows_NotWhole : PySem.W.kitOne K (.ref C_BadRows) (.ref C_NotWhole) = some false)
  (ko_NotWhole_NotWhole : PySem.W.kitOne K (.ref C_NotWhole) (.ref C_NotWhole) = some true)
  (ko_BadText_NotWhole : PySem.W.kitOne K (.ref C_BadText) (.ref C_NotWhole) = some false)
  (ko_BadFrame_NotWhole : PySem.W.kitOne K (.ref C_BadFrame) (.ref C_NotWhole) = some false)
  (ko_BadScheme_NotWhole : PySem.W.kitOne K (.ref C_BadScheme) (.ref C_NotWhole) = some false)
  (ko_RestError_NotWhole : PySem.W.kitOne K (.ref C_RestError) (.ref C_NotWhole) = some false)
  (ko_NothingKnown_BadText : PySem.W.kitOne K (.ref C_NothingKnown) (.ref C_BadText) = some false)
  (ko_BadCommand_BadText : PySem.W.kitOne K (.ref C_BadCommand) (.ref C_BadText) = some false)
  (ko_NoFrame_BadText : PySem.W.kitOne K (.ref C_NoFrame) (.ref C_BadText) = some false)
  (ko_InvalidCommand_BadText : PySem.W.kitOne K (.ref C_InvalidCommand) (.ref C_BadText) = some false)
  (ko_NothingToUndo_BadText : PySem.W.kitOne K (.ref C_NothingToUndo) (.ref C_BadText) = some false)
  (ko_NothingBehind_BadText : PySem.W.kitOne K (.ref C_NothingBehind) (.ref C_BadText) = some false)
  (ko_OtherParts_BadText : PySem.W.kitOne K (.ref C_OtherParts) (.ref C_BadText) = some false)
  (ko_BadRows_BadText : PySem.W.kitOne K (.ref C_BadRows) (.ref C_BadText) = some false)
  (ko_NotWhole_BadText : PySem.W.kitOne K (.ref C_NotWhole) (.ref C_BadText) = some false)
  (ko_BadText_BadText : PySem.W.kitOne K (.ref C_BadText) (.ref C_BadText) = some true)
  (ko_BadFrame_BadText : PySem.W.kitOne K (.ref C_BadFrame) (.ref C_BadText) = some false)
  (ko_BadScheme_BadText : PySem.W.kitOne K (.ref C_BadScheme) (.ref C_BadText) = some false)
  (ko_RestError_BadText : PySem.W.kitOne K (.ref C_RestError) (.ref C_BadText) = some false)
  (ko_NothingKnown_BadFrame : PySem.W.kitOne K (.ref C_NothingKnown) (.ref C_BadFrame) = some false)
  (ko_BadCommand_BadFrame : PySem.W.kitOne K (.ref C_BadCommand) (.ref C_BadFrame) = some false)
  (ko_NoFrame_BadFrame : PySem.W.kitOne K (.ref C_NoFrame) (.ref C_BadFrame) = some false)
  (ko_InvalidCommand_BadFrame : PySem.W.kitOne K (.ref C_InvalidCommand) (.ref C_BadFrame) = some false)
  (ko_NothingToUndo_BadFrame : PySem.W.kitOne K (.ref C_NothingToUndo) (.ref C_BadFrame) = some false)
  (ko_NothingBehind_BadFrame : PySem.W.kitOne K (.ref C_NothingBehind) (.ref C_BadFrame) = some false)
  (ko_OtherParts_BadFrame : PySem.W.kitOne K (.ref C_OtherParts) (.ref C_BadFrame) = some false)
  (ko_BadRows_BadFrame : PySem.W.kitOne K (.ref C_BadRows) (.ref C_BadFrame) = some false)
  (ko_NotWhole_BadFrame : PySem.W.kitOne K (.ref C_NotWhole) (.ref C_BadFrame) = some false)
  (ko_BadText_BadFrame : PySem.W.kitOne K (.ref C_BadText) (.ref C_BadFrame) = some false)
  (ko_BadFrame_BadFrame : PySem.W.kitOne K (.ref C_BadFrame) (.ref C_BadFrame) = some true)
  (ko_BadScheme_BadFrame : PySem.W.kitOne K (.ref C_BadScheme) (.ref C_BadFrame) = some false)
  (ko_RestError_BadFrame : PySem.W.kitOne K (.ref C_RestError) (.ref C_BadFrame) = some false)
  (ko_NothingKnown_BadScheme : PySem.W.kitOne K (.ref C_NothingKnown) (.ref C_BadScheme) = some false)
  (ko_BadCommand_BadScheme : PySem.W.kitOne K (.ref C_BadCommand) (.ref C_BadScheme) = some false)
  (ko_NoFrame_BadScheme : PySem.W.kitOne K (.ref C_NoFrame) (.ref C_BadScheme) = some false)
  (ko_InvalidCommand_BadScheme : PySem.W.kitOne K (.ref C_InvalidCommand) (.ref C_BadScheme) = some false)
  (ko_NothingToUndo_BadScheme : PySem.W.kitOne K (.ref C_NothingToUndo) (.ref C_BadScheme) = some false)
  (ko_NothingBehind_BadScheme : PySem.W.kitOne K (.ref C_NothingBehind) (.ref C_BadScheme) = some false)
  (ko_OtherParts_BadScheme : PySem.W.kitOne K (.ref C_OtherParts) (.ref C_BadScheme) = some false)
  (ko_BadRows_BadScheme : PySem.W.kitOne K (.ref C_BadRows) (.ref C_BadScheme) = some false)
  (ko_NotWhole_BadScheme : PySem.W.kitOne K (.ref C_NotWhole) (.ref C_BadScheme) = some false)
  (ko_BadText_BadScheme : PySem.W.kitOne K (.ref C_BadText) (.ref C_BadScheme) = some false)
  (ko_BadFrame_BadScheme : PySem.W.kitOne K (.ref C_BadFrame) (.ref C_BadScheme) = some false)
  (ko_BadScheme_BadScheme : PySem.W.kitOne K (.ref C_BadScheme) (.ref C_BadScheme) = some true)
  (ko_RestError_BadScheme : PySem.W.kitOne K (.ref C_RestError) (.ref C_BadScheme) = some false)
  (ko_NothingKnown_NothingBehind : PySem.W.kitOne K (.ref C_NothingKnown) (.ref C_NothingBehind) = some false)
  (ko_BadCommand_NothingBehind : PySem.W.kitOne K (.ref C_BadCommand) (.ref C_NothingBehind) = some false)
  (ko_NoFrame_NothingBehind : PySem.W.kitOne K (.ref C_NoFrame) (.ref C_NothingBehind) = some false)
  (ko_InvalidCommand_NothingBehind : PySem.W.kitOne K (.ref C_InvalidCommand) (.ref C_NothingBehind) = some false)
  (ko_NothingToUndo_NothingBehind : PySem.W.kitOne K (.ref C_NothingToUndo) (.ref C_NothingBehind) = some false)
  (ko_NothingBehind_NothingBehind : PySem.W.kitOne K (.ref C_NothingBehind) (.ref C_NothingBehind) = some true)
  (ko_OtherParts_NothingBehind : PySem.W.kitOne K (.ref C_OtherParts) (.ref C_NothingBehind) = some false)
  (ko_BadRows_NothingBehind : PySem.W.kitOne K (.ref C_BadRows) (.ref C_NothingBehind) = some false)
  (ko_NotWhole_NothingBehind : PySem.W.kitOne K (.ref C_NotWhole) (.ref C_NothingBehind) = some false)
  (ko_BadText_NothingBehind : PySem.W.kitOne K (.ref C_BadText) (.ref C_NothingBehind) = some false)
  (ko_BadFrame_NothingBehind : PySem.W.kitOne K (.ref C_BadFrame) (.ref C_NothingBehind) = some false)
  (ko_BadScheme_NothingBehind : PySem.W.kitOne K (.ref C_BadScheme) (.ref C_NothingBehind) = some false)
  (ko_RestError_NothingBehind : PySem.W.kitOne K (.ref C_RestError) (.ref C_NothingBehind) = some false)
  (ko_NothingKnown_OtherParts : PySem.W.kitOne K (.ref C_NothingKnown) (.ref C_OtherParts) = some false)
  (ko_BadCommand_OtherParts : PySem.W.kitOne K (.ref C_BadCommand) (.ref C_OtherParts) = some false)
  (ko_NoFrame_OtherParts : PySem.W.kitOne K (.ref C_NoFrame) (.ref C_OtherParts) = some false)
  (ko_InvalidCommand_OtherParts : PySem.W.kitOne K (.ref C_InvalidCommand) (.ref C_OtherParts) = some false)
  (ko_NothingToUndo_OtherParts : PySem.W.kitOne K (.ref C_NothingToUndo) (.ref C_OtherParts) = some false)
  (ko_NothingBehind_OtherParts : PySem.W.kitOne K (.ref C_NothingBehind) (.ref C_OtherParts) = some false)
  (ko_OtherParts_OtherParts : PySem.W.kitOne K (.ref C_OtherParts) (.ref C_OtherParts) = some true)
  (ko_BadRows_OtherParts : PySem.W.kitOne K (.ref C_BadRows) (.ref C_OtherParts) = some false)
  (ko_NotWhole_OtherParts : PySem.W.kitOne K (.ref C_NotWhole) (.ref C_OtherParts) = some false)
  (ko_BadText_OtherParts : PySem.W.kitOne K (.ref C_BadText) (.ref C_OtherParts) = some false)
  (ko_BadFrame_OtherParts : PySem.W.kitOne K (.ref C_BadFrame) (.ref C_OtherParts) = some false)
  (ko_BadScheme_OtherParts : PySem.W.kitOne K (.ref C_BadScheme) (.ref C_OtherParts) = some false)
  (ko_RestError_OtherParts : PySem.W.kitOne K (.ref C_RestError) (.ref C_OtherParts) = some false)
  (ko_NothingKnown_BadRows : PySem.W.kitOne K (.ref C_NothingKnown) (.ref C_BadRows) = some false)
  (ko_BadCommand_BadRows : PySem.W.kitOne K (.ref C_BadCommand) (.ref C_BadRows) = some false)
  (ko_NoFrame_BadRows : PySem.W.kitOne K (.ref C_NoFrame) (.ref C_BadRows) = some false)
  (ko_InvalidCommand_BadRows : PySem.W.kitOne K (.ref C_InvalidCommand) (.ref C_BadRows) = some false)
  (ko_NothingToUndo_BadRows : PySem.W.kitOne K (.ref C_NothingToUndo) (.ref C_BadRows) = some false)
  (ko_NothingBehind_BadRows : PySem.W.kitOne K (.ref C_NothingBehind) (.ref C_BadRows) = some false)
  (ko_OtherParts_BadRows : PySem.W.kitOne K (.ref C_OtherParts) (.ref C_BadRows) = some false)
  (ko_BadRows_BadRows : PySem.W.kitOne K (.ref C_BadRows) (.ref C_BadRows) = some true)
  (ko_NotWhole_BadRows : PySem.W.kitOne K (.ref C_NotWhole) (.ref C_BadRows) = some false)
  (ko_BadText_BadRows : PySem.W.kitOne K (.ref C_BadText) (.ref C_BadRows) = some false)
  (ko_BadFrame_BadRows : PySem.W.kitOne K (.ref C_BadFrame) (.ref C_BadRows) = some false)
  (ko_BadScheme_BadRows : PySem.W.kitOne K (.ref C_BadScheme) (.ref C_BadRows) = some false)
  (ko_RestError_BadRows : PySem.W.kitOne K (.ref C_RestError) (.ref C_BadRows) = some false)
  (ko_NothingKnown_NoFrame : PySem.W.kitOne K (.ref C_NothingKnown) (.ref C_NoFrame) = some false)
  (ko_BadCommand_NoFrame : PySem.W.kitOne K (.ref C_BadCommand) (.ref C_NoFrame) = some false)
  (ko_NoFrame_NoFrame : PySem.W.kitOne K (.ref C_NoFrame) (.ref C_NoFrame) = some true)
  (ko_InvalidCommand_NoFrame : PySem.W.kitOne K (.ref C_InvalidCommand) (.ref C_NoFrame) = some false)
  (ko_NothingToUndo_NoFrame : PySem.W.kitOne K (.ref C_NothingToUndo) (.ref C_NoFrame) = some false)
  (ko_NothingBehind_NoFrame : PySem.W.kitOne K (.ref C_NothingBehind) (.ref C_NoFrame) = some false)
  (ko_OtherParts_NoFrame : PySem.W.kitOne K (.ref C_OtherParts) (.ref C_NoFrame) = some false)
  (ko_BadRows_NoFrame : PySem.W.kitOne K (.ref C_BadRows) (.ref C_NoFrame) = some false)
  (ko_NotWhole_NoFrame : PySem.W.kitOne K (.ref C_NotWhole) (.ref C_NoFrame) = some false)
  (ko_BadText_NoFrame : PySem.W.kitOne K (.ref C_BadText) (.ref C_NoFrame) = some false)
  (ko_BadFrame_NoFrame : PySem.W.kitOne K (.ref C_BadFrame) (.ref C_NoFrame) = some false)
  (ko_BadScheme_NoFrame : PySem.W.kitOne K (.ref C_BadScheme) (.ref C_NoFrame) = some false)
  (ko_RestError_NoFrame : PySem.W.kitOne K (.ref C_RestError) (.ref C_NoFrame) = some false)
  (ko_NothingKnown_InvalidCommand : PySem.W.kitOne K (.ref C_NothingKnown) (.ref C_InvalidCommand) = some false)
  (ko_BadCommand_InvalidCommand : PySem.W.kitOne K (.ref C_BadCommand) (.ref C_InvalidCommand) = some false)
  (ko_NoFrame_InvalidCommand : PySem.W.kitOne K (.ref C_NoFrame) (.ref C_InvalidCommand) = some false)
  (ko_InvalidCommand_InvalidCommand : PySem.W.kitOne K (.ref C_InvalidCommand) (.ref C_InvalidCommand) = some true)
  (ko_NothingToUndo_InvalidCommand : PySem.W.kitOne K (.ref C_NothingToUndo) (.ref C_InvalidCommand) = some false)
  (ko_NothingBehind_InvalidCommand : PySem.W.kitOne K (.ref C_NothingBehind) (.ref C_InvalidCommand) = some false)
  (ko_OtherParts_InvalidCommand : PySem.W.kitOne K (.ref C_OtherParts) (.ref C_InvalidCommand) = some false)
  (ko_BadRows_InvalidCommand : PySem.W.kitOne K (.ref C_BadRows) (.ref C_InvalidCommand) = some false)
  (ko_NotWhole_InvalidCommand : PySem.W.kitOne K (.ref C_NotWhole) (.ref C_InvalidCommand) = some false)
  (ko_BadText_InvalidCommand : PySem.W.kitOne K (.ref C_BadText) (.ref C_InvalidCommand) = some false)
  (ko_BadFrame_InvalidCommand : PySem.W.kitOne K (.ref C_BadFrame) (.ref C_InvalidCommand) = some false)
  (ko_BadScheme_InvalidCommand : PySem.W.kitOne K (.ref C_BadScheme) (.ref C_InvalidCommand) = some false)
  (ko_RestError_InvalidCommand : PySem.W.kitOne K (.ref C_RestError) (.ref C_InvalidCommand) = some false)
  (ko_NothingKnown_NothingToUndo : PySem.W.kitOne K (.ref C_NothingKnown) (.ref C_NothingToUndo) = some false)
  (ko_BadCommand_NothingToUndo : PySem.W.kitOne K (.ref C_BadCommand) (.ref C_NothingToUndo) = some false)
  (ko_NoFrame_NothingToUndo : PySem.W.kitOne K (.ref C_NoFrame) (.ref C_NothingToUndo) = some false)
  (ko_InvalidCommand_NothingToUndo : PySem.W.kitOne K (.ref C_InvalidCommand) (.ref C_NothingToUndo) = some false)
  (ko_NothingToUndo_NothingToUndo : PySem.W.kitOne K (.ref C_NothingToUndo) (.ref C_NothingToUndo) = some true)
  (ko_NothingBehind_NothingToUndo : PySem.W.kitOne K (.ref C_NothingBehind) (.ref C_NothingToUndo) = some false)
  (ko_OtherParts_NothingToUndo : PySem.W.kitOne K (.ref C_OtherParts) (.ref C_NothingToUndo) = some false)
  (ko_BadRows_NothingToUndo : PySem.W.kitOne K (.ref C_BadRows) (.ref C_NothingToUndo) = some false)
  (ko_NotWhole_NothingToUndo : PySem.W.kitOne K (.ref C_NotWhole) (.ref C_NothingToUndo) = some false)
  (ko_BadText_NothingToUndo : PySem.W.kitOne K (.ref C_BadText) (.ref C_NothingToUndo) = some false)
  (ko_BadFrame_NothingToUndo : PySem.W.kitOne K (.ref C_BadFrame) (.ref C_NothingToUndo) = some false)
  (ko_BadScheme_NothingToUndo : PySem.W.kitOne K (.ref C_BadScheme) (.ref C_NothingToUndo) = some false)
  (ko_RestError_NothingToUndo : PySem.W.kitOne K (.ref C_RestError) (.ref C_NothingToUndo) = some false)
  (ko_NothingKnown_NothingKnown : PySem.W.kitOne K (.ref C_NothingKnown) (.ref C_NothingKnown) = some true)
  (ko_BadCommand_NothingKnown : PySem.W.kitOne K (.ref C_BadCommand) (.ref C_NothingKnown) = some false)
  (ko_NoFrame_NothingKnown : PySem.W.kitOne K (.ref C_NoFrame) (.ref C_NothingKnown) = some false)
  (ko_InvalidCommand_NothingKnown : PySem.W.kitOne K (.ref C_InvalidCommand) (.ref C_NothingKnown) = some false)
  (ko_NothingToUndo_NothingKnown : PySem.W.kitOne K (.ref C_NothingToUndo) (.ref C_NothingKnown) = some false)
  (ko_NothingBehind_NothingKnown : PySem.W.kitOne K (.ref C_NothingBehind) (.ref C_NothingKnown) = some false)
  (ko_OtherParts_NothingKnown : PySem.W.kitOne K (.ref C_OtherParts) (.ref C_NothingKnown) = some false)
  (ko_BadRows_NothingKnown : PySem.W.kitOne K (.ref C_BadRows) (.ref C_NothingKnown) = some false)
  (ko_NotWhole_NothingKnown : PySem.W.kitOne K (.ref C_NotWhole) (.ref C_NothingKnown) = some false)
  (ko_BadText_NothingKnown : PySem.W.kitOne K (.ref C_BadText) (.ref C_NothingKnown) = some false)
  (ko_BadFrame_NothingKnown : PySem.W.kitOne K (.ref C_BadFrame) (.ref C_NothingKnown) = some false)
  (ko_BadScheme_NothingKnown : PySem.W.kitOne K (.ref C_BadScheme) (.ref C_NothingKnown) = some false)
  (ko_RestError_NothingKnown : PySem.W.kitOne K (.ref C_RestError) (.ref C_NothingKnown) = some false)
  (ko_NothingKnown_BadCommand : PySem.W.kitOne K (.ref C_NothingKnown) (.ref C_BadCommand) = some false)
  (ko_BadCommand_BadCommand : PySem.W.kitOne K (.ref C_BadCommand) (.ref C_BadCommand) = some true)
  (ko_NoFrame_BadCommand : PySem.W.kitOne K (.ref C_NoFrame) (.ref C_BadCommand) = some false)
  (ko_InvalidCommand_BadCommand : PySem.W.kitOne K (.ref C_InvalidCommand) (.ref C_BadCommand) = some false)
  (ko_NothingToUndo_BadCommand : PySem.W.kitOne K (.ref C_NothingToUndo) (.ref C_BadCommand) = some false)
  (ko_NothingBehind_BadCommand : PySem.W.kitOne K (.ref C_NothingBehind) (.ref C_BadCommand) = some false)
  (ko_OtherParts_BadCommand : PySem.W.kitOne K (.ref C_OtherParts) (.ref C_BadCommand) = some false)
  (ko_BadRows_BadCommand : PySem.W.kitOne K (.ref C_BadRows) (.ref C_BadCommand) = some false)
  (ko_NotWhole_BadCommand : PySem.W.kitOne K (.ref C_NotWhole) (.ref C_BadCommand) = some false)
  (ko_BadText_BadCommand : PySem.W.kitOne K (.ref C_BadText) (.ref C_BadCommand) = some false)
  (ko_BadFrame_BadCommand : PySem.W.kitOne K (.ref C_BadFrame) (.ref C_BadCommand) = some false)
  (ko_BadScheme_BadCommand : PySem.W.kitOne K (.ref C_BadScheme) (.ref C_BadCommand) = some false)
  (ko_RestError_BadCommand : PySem.W.kitOne K (.ref C_RestError) (.ref C_BadCommand) = some false)
  (z_repr : PySem.W.nsIn K mainGlobals "repr" = some none)
  (ko_NothingKnown_TypeError : PySem.W.kitOne K (.ref C_NothingKnown) (.type "TypeError") = some false)
  (ko_BadCommand_TypeError : PySem.W.kitOne K (.ref C_BadCommand) (.type "TypeError") = some false)
  (ko_NoFrame_TypeError : PySem.W.kitOne K (.ref C_NoFrame) (.type "TypeError") = some false)
  (ko_InvalidCommand_TypeError : PySem.W.kitOne K (.ref C_InvalidCommand) (.type "TypeError") = some false)
  (ko_NothingToUndo_TypeError : PySem.W.kitOne K (.ref C_NothingToUndo) (.type "TypeError") = some false)
  (ko_NothingBehind_TypeError : PySem.W.kitOne K (.ref C_NothingBehind) (.type "TypeError") = some false)
  (ko_OtherParts_TypeError : PySem.W.kitOne K (.ref C_OtherParts) (.type "TypeError") = some false)
  (ko_BadRows_TypeError : PySem.W.kitOne K (.ref C_BadRows) (.type "TypeError") = some false)
  (ko_NotWhole_TypeError : PySem.W.kitOne K (.ref C_NotWhole) (.type "TypeError") = some false)
  (ko_BadText_TypeError : PySem.W.kitOne K (.ref C_BadText) (.type "TypeError") = some false)
  (ko_BadFrame_TypeError : PySem.W.kitOne K (.ref C_BadFrame) (.type "TypeError") = some false)
  (ko_BadScheme_TypeError : PySem.W.kitOne K (.ref C_BadScheme) (.type "TypeError") = some false)
  (ko_RestError_TypeError : PySem.W.kitOne K (.ref C_RestError) (.type "TypeError") = some false)
  (z_TypeError : PySem.W.nsIn K mainGlobals "TypeError" = some none)
  (ko_NothingKnown_LookupError : PySem.W.kitOne K (.ref C_NothingKnown) (.type "LookupError") = some false)
  (ko_BadCommand_LookupError : PySem.W.kitOne K (.ref C_BadCommand) (.type "LookupError") = some false)
  (ko_NoFrame_LookupError : PySem.W.kitOne K (.ref C_NoFrame) (.type "LookupError") = some false)
  (ko_InvalidCommand_LookupError : PySem.W.kitOne K (.ref C_InvalidCommand) (.type "LookupError") = some false)
  (ko_NothingToUndo_LookupError : PySem.W.kitOne K (.ref C_NothingToUndo) (.type "LookupError") = some false)
  (ko_NothingBehind_LookupError : PySem.W.kitOne K (.ref C_NothingBehind) (.type "LookupError") = some false)
  (ko_OtherParts_LookupError : PySem.W.kitOne K (.ref C_OtherParts) (.type "LookupError") = some false)
  (ko_BadRows_LookupError : PySem.W.kitOne K (.ref C_BadRows) (.type "LookupError") = some false)
  (ko_NotWhole_LookupError : PySem.W.kitOne K (.ref C_NotWhole) (.type "LookupError") = some false)
  (ko_BadText_LookupError : PySem.W.kitOne K (.ref C_BadText) (.type "LookupError") = some false)
  (ko_BadFrame_LookupError : PySem.W.kitOne K (.ref C_BadFrame) (.type "LookupError") = some false)
  (ko_BadScheme_LookupError : PySem.W.kitOne K (.ref C_BadScheme) (.type "LookupError") = some false)
  (ko_RestError_LookupError : PySem.W.kitOne K (.ref C_RestError) (.type "LookupError") = some false)
  (z_LookupError : PySem.W.nsIn K mainGlobals "LookupError" = some none)
  (ko_NothingKnown_ValueError : PySem.W.kitOne K (.ref C_NothingKnown) (.type "ValueError") = some false)
  (ko_BadCommand_ValueError : PySem.W.kitOne K (.ref C_BadCommand) (.type "ValueError") = some false)
  (ko_NoFrame_ValueError : PySem.W.kitOne K (.ref C_NoFrame) (.type "ValueError") = some false)
  (ko_InvalidCommand_ValueError : PySem.W.kitOne K (.ref C_InvalidCommand) (.type "ValueError") = some false)
  (ko_NothingToUndo_ValueError : PySem.W.kitOne K (.ref C_NothingToUndo) (.type "ValueError") = some false)
  (ko_NothingBehind_ValueError : PySem.W.kitOne K (.ref C_NothingBehind) (.type "ValueError") = some false)
  (ko_OtherParts_ValueError : PySem.W.kitOne K (.ref C_OtherParts) (.type "ValueError") = some false)
  (ko_BadRows_ValueError : PySem.W.kitOne K (.ref C_BadRows) (.type "ValueError") = some false)
  (ko_NotWhole_ValueError : PySem.W.kitOne K (.ref C_NotWhole) (.type "ValueError") = some false)
  (ko_BadText_ValueError : PySem.W.kitOne K (.ref C_BadText) (.type "ValueError") = some false)
  (ko_BadFrame_ValueError : PySem.W.kitOne K (.ref C_BadFrame) (.type "ValueError") = some false)
  (ko_BadScheme_ValueError : PySem.W.kitOne K (.ref C_BadScheme) (.type "ValueError") = some false)
  (ko_RestError_ValueError : PySem.W.kitOne K (.ref C_RestError) (.type "ValueError") = some false)
  (z_ValueError : PySem.W.nsIn K mainGlobals "ValueError" = some none)
  (ko_NothingKnown_RuntimeError : PySem.W.kitOne K (.ref C_NothingKnown) (.type "RuntimeError") = some false)
  (ko_BadCommand_RuntimeError : PySem.W.kitOne K (.ref C_BadCommand) (.type "RuntimeError") = some false)
  (ko_NoFrame_RuntimeError : PySem.W.kitOne K (.ref C_NoFrame) (.type "RuntimeError") = some false)
  (ko_InvalidCommand_RuntimeError : PySem.W.kitOne K (.ref C_InvalidCommand) (.type "RuntimeError") = some false)
  (ko_NothingToUndo_RuntimeError : PySem.W.kitOne K (.ref C_NothingToUndo) (.type "RuntimeError") = some false)
  (ko_NothingBehind_RuntimeError : PySem.W.kitOne K (.ref C_NothingBehind) (.type "RuntimeError") = some false)
  (ko_OtherParts_RuntimeError : PySem.W.kitOne K (.ref C_OtherParts) (.type "RuntimeError") = some false)
  (ko_BadRows_RuntimeError : PySem.W.kitOne K (.ref C_BadRows) (.type "RuntimeError") = some false)
  (ko_NotWhole_RuntimeError : PySem.W.kitOne K (.ref C_NotWhole) (.type "RuntimeError") = some false)
  (ko_BadText_RuntimeError : PySem.W.kitOne K (.ref C_BadText) (.type "RuntimeError") = some false)
  (ko_BadFrame_RuntimeError : PySem.W.kitOne K (.ref C_BadFrame) (.type "RuntimeError") = some false)
  (ko_BadScheme_RuntimeError : PySem.W.kitOne K (.ref C_BadScheme) (.type "RuntimeError") = some false)
  (ko_RestError_RuntimeError : PySem.W.kitOne K (.ref C_RestError) (.type "RuntimeError") = some false)
  (z_RuntimeError : PySem.W.nsIn K mainGlobals "RuntimeError" = some none)
  (ko_NothingKnown_ArithmeticError : PySem.W.kitOne K (.ref C_NothingKnown) (.type "ArithmeticError") = some false)
  (ko_BadCommand_ArithmeticError : PySem.W.kitOne K (.ref C_BadCommand) (.type "ArithmeticError") = some false)
  (ko_NoFrame_ArithmeticError : PySem.W.kitOne K (.ref C_NoFrame) (.type "ArithmeticError") = some false)
  (ko_InvalidCommand_ArithmeticError : PySem.W.kitOne K (.ref C_InvalidCommand) (.type "ArithmeticError") = some false)
  (ko_NothingToUndo_ArithmeticError : PySem.W.kitOne K (.ref C_NothingToUndo) (.type "ArithmeticError") = some false)
  (ko_NothingBehind_ArithmeticError : PySem.W.kitOne K (.ref C_NothingBehind) (.type "ArithmeticError") = some false)
  (ko_OtherParts_ArithmeticError : PySem.W.kitOne K (.ref C_OtherParts) (.type "ArithmeticError") = some false)
  (ko_BadRows_ArithmeticError : PySem.W.kitOne K (.ref C_BadRows) (.type "ArithmeticError") = some false)
  (ko_NotWhole_ArithmeticError : PySem.W.kitOne K (.ref C_NotWhole) (.type "ArithmeticError") = some false)
  (ko_BadText_ArithmeticError : PySem.W.kitOne K (.ref C_BadText) (.type "ArithmeticError") = some false)
  (ko_BadFrame_ArithmeticError : PySem.W.kitOne K (.ref C_BadFrame) (.type "ArithmeticError") = some false)
  (ko_BadScheme_ArithmeticError : PySem.W.kitOne K (.ref C_BadScheme) (.type "ArithmeticError") = some false)
  (ko_RestError_ArithmeticError : PySem.W.kitOne K (.ref C_RestError) (.type "ArithmeticError") = some false)
  (z_ArithmeticError : PySem.W.nsIn K mainGlobals "ArithmeticError" = some none)
  (sb_NothingKnown_RestError : PySem.W.subIn K (.ref C_NothingKnown) (.ref C_RestError) = some true)
  (sb_BadCommand_RestError : PySem.W.subIn K (.ref C_BadCommand) (.ref C_RestError) = some true)
  (sb_NoFrame_RestError : PySem.W.subIn K (.ref C_NoFrame) (.ref C_RestError) = some true)
  (sb_InvalidCommand_RestError : PySem.W.subIn K (.ref C_InvalidCommand) (.ref C_RestError) = some true)
  (sb_NothingToUndo_RestError : PySem.W.subIn K (.ref C_NothingToUndo) (.ref C_RestError) = some true)
  (sb_NothingBehind_RestError : PySem.W.subIn K (.ref C_NothingBehind) (.ref C_RestError) = some true)
  (sb_OtherParts_RestError : PySem.W.subIn K (.ref C_OtherParts) (.ref C_RestError) = some true)
  (sb_BadRows_RestError : PySem.W.subIn K (.ref C_BadRows) (.ref C_RestError) = some true)
  (sb_NotWhole_RestError : PySem.W.subIn K (.ref C_NotWhole) (.ref C_RestError) = some true)
  (sb_BadText_RestError : PySem.W.subIn K (.ref C_BadText) (.ref C_RestError) = some true)
  (sb_BadFrame_RestError : PySem.W.subIn K (.ref C_BadFrame) (.ref C_RestError) = some true)
  (sb_BadScheme_RestError : PySem.W.subIn K (.ref C_BadScheme) (.ref C_RestError) = some true)
  (xr_RestError : PySem.W.excIn K C_RestError [.type "Exception", .type "BaseException", .type "object"] "Exception.__new__" = true)
  (hm : ∀ (c : CA) (_ : [c.RestError, c.BadScheme, c.BadFrame, c.BadText, c.NotWhole, c.BadRows, c.OtherParts, c.NothingBehind, c.NothingToUndo, c.InvalidCommand, c.NoFrame, c.BadCommand, c.NothingKnown].Nodup) (p q : Addr) (l : List Int) (b : Int), l.length ≤ 63 → ∃ E, b_law c (.no :: .deck p q l b :: nos 8) = .ok (.rt (.bl true), E)) :
  ∃ fd : FuncData, (∀ (s : Shared) (v : Value), BindsTo s fd ⟨[v], []⟩ [("_law_script", v)]) ∧ ∀ base : Heap, K.In base → base.Ns mainGlobals mg → FnG l.prog w K mg base CX0 4 fa fd ["_law_script"] (spLaw K) := by
  have e := (PySem.W.mg_of X G a_law).symm.trans hfa
  have e2 : f_law = fa := Value.ref.inj (Option.some.inj e)
  subst e2
  let R : PR l.prog K mg := {
    c := ⟨C_BadCommand, C_BadFrame, C_BadRows, C_BadScheme, C_BadText, C_InvalidCommand, C_NoFrame, C_NotWhole, C_NothingBehind, C_NothingKnown, C_NothingToUndo, C_OtherParts, C_RestError⟩,
    f__law_draw := f__law_draw,
    fd__law_draw := _,
    F__law_draw := fun_mk (st := s__law_draw) l__law_draw q__law_draw k__law_draw,
    b__law_draw := (fun_mk (st := s__law_draw) l__law_draw q__law_draw k__law_draw).binds (ps := ["_law_deck_here", "_law_many"]) fun _ _ _ _ _ _ us hl => match us, hl with | [_, _], _ => rfl,
    g__law_draw := PySem.W.mg_of X G a__law_draw,
    f__law_deck := f__law_deck,
    fd__law_deck := _,
    F__law_deck := fun_mk (st := s__law_deck) l__law_deck q__law_deck k__law_deck,
    b__law_deck := (fun_mk (st := s__law_deck) l__law_deck q__law_deck k__law_deck).binds (ps := ["_law_script"]) fun _ _ _ _ _ _ us hl => match us, hl with | [_], _ => rfl,
    g__law_deck := PySem.W.mg_of X G a__law_deck,
    f__law_pick := f__law_pick,
    fd__law_pick := _,
    F__law_pick := fun_mk (st := s__law_pick) l__law_pick q__law_pick k__law_pick,
    b__law_pick := (fun_mk (st := s__law_pick) l__law_pick q__law_pick k__law_pick).binds (ps := ["_law_deck_here", "_law_some"]) fun _ _ _ _ _ _ us hl => match us, hl with | [_, _], _ => rfl,
    g__law_pick := PySem.W.mg_of X G a__law_pick,
    f__law_made := f__law_made,
    fd__law_made := _,
    F__law_made := fun_mk (st := s__law_made) l__law_made q__law_made k__law_made,
    b__law_made := (fun_mk (st := s__law_made) l__law_made q__law_made k__law_made).binds (ps := ["_law_at", "_law_it"]) fun _ _ _ _ _ _ us hl => match us, hl with | [_, _], _ => rfl,
    g__law_made := PySem.W.mg_of X G a__law_made,
    f__law_kinds := f__law_kinds,
    fd__law_kinds := _,
    F__law_kinds := fun_mk (st := s__law_kinds) l__law_kinds q__law_kinds k__law_kinds,
    b__law_kinds := (fun_mk (st := s__law_kinds) l__law_kinds q__law_kinds k__law_kinds).binds (ps := ["_law_e"]) fun _ _ _ _ _ _ us hl => match us, hl with | [_], _ => rfl,
    g__law_kinds := PySem.W.mg_of X G a__law_kinds,
    f__law_kept := f__law_kept,
    fd__law_kept := _,
    F__law_kept := fun_mk (st := s__law_kept) l__law_kept q__law_kept k__law_kept,
    b__law_kept := (fun_mk (st := s__law_kept) l__law_kept q__law_kept k__law_kept).binds (ps := ["_law_at", "_law_e"]) fun _ _ _ _ _ _ us hl => match us, hl with | [_, _], _ => rfl,
    g__law_kept := PySem.W.mg_of X G a__law_kept,
    f__law_is_usual := f__law_is_usual,
    fd__law_is_usual := _,
    F__law_is_usual := fun_mk (st := s__law_is_usual) l__law_is_usual q__law_is_usual k__law_is_usual,
    b__law_is_usual := (fun_mk (st := s__law_is_usual) l__law_is_usual q__law_is_usual k__law_is_usual).binds (ps := ["_law_e"]) fun _ _ _ _ _ _ us hl => match us, hl with | [_], _ => rfl,
    g__law_is_usual := PySem.W.mg_of X G a__law_is_usual,
    f__law_raised := f__law_raised,
    fd__law_raised := _,
    F__law_raised := fun_mk (st := s__law_raised) l__law_raised q__law_raised k__law_raised,
    b__law_raised := (fun_mk (st := s__law_raised) l__law_raised q__law_raised k__law_raised).binds (ps := ["_law_at", "_law_it"]) fun _ _ _ _ _ _ us hl => match us, hl with | [_, _], _ => rfl,
    g__law_raised := PySem.W.mg_of X G a__law_raised,
    f__law_caught := f__law_caught,
    fd__law_caught := _,
    F__law_caught := fun_mk (st := s__law_caught) l__law_caught q__law_caught k__law_caught,
    b__law_caught := (fun_mk (st := s__law_caught) l__law_caught q__law_caught k__law_caught).binds (ps := ["_law_at", "_law_it"]) fun _ _ _ _ _ _ us hl => match us, hl with | [_, _], _ => rfl,
    g__law_caught := PySem.W.mg_of X G a__law_caught,
    f_law := f_law,
    fd_law := _,
    F_law := fun_mk (st := s_law) l_law q_law k_law,
    b_law := (fun_mk (st := s_law) l_law q_law k_law).binds (ps := ["_law_script"]) fun _ _ _ _ _ _ us hl => match us, hl with | [_], _ => rfl,
    g_law := PySem.W.mg_of X G a_law,
    z_int := PySem.W.mg_none_of X G z_int,
    z_range := PySem.W.mg_none_of X G z_range,
    z_len := PySem.W.mg_none_of X G z_len,
    c_BadFrame := PySem.W.mg_of X G aC_BadFrame,
    ex_BadFrame := ⟨ei_BadFrame, ov_BadFrame, xb_BadFrame, xx_BadFrame, xy_BadFrame, kc_BadFrame, hd_BadFrame, sa_BadFrame, xm_BadFrame, xs_BadFrame, xth, xg_BadFrame, xh_BadFrame⟩,
    xf_BadFrame := ⟨fIxBadFrame, ia_BadFrame, ib_BadFrame, ⟨ocxBadFrame, kVxBadFrame, dcxBadFrame, pmxBadFrame, _, ctxBadFrame, clcxBadFrame, cllxBadFrame, odxBadFrame, anxBadFrame, cldxBadFrame, cddxBadFrame, oslxBadFrame, cslxBadFrame, ccsxBadFrame, cdaxBadFrame, ccxBadFrame, vsxBadFrame, flxBadFrame, tfxBadFrame, ic_BadFrame, rfl, id_BadFrame, ie_BadFrame, if_BadFrame, ig_BadFrame, ih_BadFrame⟩, PySem.W.mg_none_of X G z_super, ztop⟩,
    n_BadFrame_part := n_BadFrame_part,
    c_BadScheme := PySem.W.mg_of X G aC_BadScheme,
    ex_BadScheme := ⟨ei_BadScheme, ov_BadScheme, xb_BadScheme, xx_BadScheme, xy_BadScheme, kc_BadScheme, hd_BadScheme, sa_BadScheme, xm_BadScheme, xs_BadScheme, xth, xg_BadScheme, xh_BadScheme⟩,
    xf_BadScheme := ⟨fIxBadScheme, ia_BadScheme, ib_BadScheme, ⟨ocxBadScheme, kVxBadScheme, dcxBadScheme, pmxBadScheme, _, ctxBadScheme, clcxBadScheme, cllxBadScheme, odxBadScheme, anxBadScheme, cldxBadScheme, cddxBadScheme, oslxBadScheme, cslxBadScheme, ccsxBadScheme, cdaxBadScheme, ccxBadScheme, vsxBadScheme, flxBadScheme, tfxBadScheme, ic_BadScheme, rfl, id_BadScheme, ie_BadScheme, if_BadScheme, ig_BadScheme, ih_BadScheme⟩, PySem.W.mg_none_of X G z_super, ztop⟩,
    n_BadScheme_part := n_BadScheme_part,
    c_NotWhole := PySem.W.mg_of X G aC_NotWhole,
    ex_NotWhole := ⟨ei_NotWhole, ov_NotWhole, xb_NotWhole, xx_NotWhole, xy_NotWhole, kc_NotWhole, hd_NotWhole, sa_NotWhole, xm_NotWhole, xs_NotWhole, xth, xg_NotWhole, xh_NotWhole⟩,
    xf_NotWhole := ⟨fIxNotWhole, ia_NotWhole, ib_NotWhole, ⟨ocxNotWhole, kVxNotWhole, dcxNotWhole, pmxNotWhole, _, ctxNotWhole, clcxNotWhole, cllxNotWhole, odxNotWhole, anxNotWhole, cldxNotWhole, cddxNotWhole, oslxNotWhole, cslxNotWhole, ccsxNotWhole, cdaxNotWhole, ccxNotWhole, vsxNotWhole, flxNotWhole, tfxNotWhole, ic_NotWhole, rfl, id_NotWhole, ie_NotWhole, if_NotWhole, ig_NotWhole, ih_NotWhole⟩, PySem.W.mg_none_of X G z_super, ztop⟩,
    n_NotWhole_tables := n_NotWhole_tables,
    c_BadText := PySem.W.mg_of X G aC_BadText,
    ex_BadText := ⟨ei_BadText, ov_BadText, xb_BadText, xx_BadText, xy_BadText, kc_BadText, hd_BadText, sa_BadText, xm_BadText, xs_BadText, xth, xg_BadText, xh_BadText⟩,
    xf_BadText := ⟨fIxBadText, ia_BadText, ib_BadText, ⟨ocxBadText, kVxBadText, dcxBadText, pmxBadText, _, ctxBadText, clcxBadText, cllxBadText, odxBadText, anxBadText, cldxBadText, cddxBadText, oslxBadText, cslxBadText, ccsxBadText, cdaxBadText, ccxBadText, vsxBadText, flxBadText, tfxBadText, ic_BadText, rfl, id_BadText, ie_BadText, if_BadText, ig_BadText, ih_BadText⟩, PySem.W.mg_none_of X G z_super, ztop⟩,
    n_BadText_place := n_BadText_place,
    c_OtherParts := PySem.W.mg_of X G aC_OtherParts,
    ex_OtherParts := ⟨ei_OtherParts, ov_OtherParts, xb_OtherParts, xx_OtherParts, xy_OtherParts, kc_OtherParts, hd_OtherParts, sa_OtherParts, xm_OtherParts, xs_OtherParts, xth, xg_OtherParts, xh_OtherParts⟩,
    xf_OtherParts := ⟨fIxOtherParts, ia_OtherParts, ib_OtherParts, ⟨ocxOtherParts, kVxOtherParts, dcxOtherParts, pmxOtherParts, _, ctxOtherParts, clcxOtherParts, cllxOtherParts, odxOtherParts, anxOtherParts, cldxOtherParts, cddxOtherParts, oslxOtherParts, cslxOtherParts, ccsxOtherParts, cdaxOtherParts, ccxOtherParts, vsxOtherParts, flxOtherParts, tfxOtherParts, ic_OtherParts, rfl, id_OtherParts, ie_OtherParts, if_OtherParts, ig_OtherParts, ih_OtherParts⟩, PySem.W.mg_none_of X G z_super, ztop⟩,
    n_OtherParts_part := n_OtherParts_part,
    c_BadRows := PySem.W.mg_of X G aC_BadRows,
    ex_BadRows := ⟨ei_BadRows, ov_BadRows, xb_BadRows, xx_BadRows, xy_BadRows, kc_BadRows, hd_BadRows, sa_BadRows, xm_BadRows, xs_BadRows, xth, xg_BadRows, xh_BadRows⟩,
    xf_BadRows := ⟨fIxBadRows, ia_BadRows, ib_BadRows, ⟨ocxBadRows, kVxBadRows, dcxBadRows, pmxBadRows, _, ctxBadRows, clcxBadRows, cllxBadRows, odxBadRows, anxBadRows, cldxBadRows, cddxBadRows, oslxBadRows, cslxBadRows, ccsxBadRows, cdaxBadRows, ccxBadRows, vsxBadRows, flxBadRows, tfxBadRows, ic_BadRows, rfl, id_BadRows, ie_BadRows, if_BadRows, ig_BadRows, ih_BadRows⟩, PySem.W.mg_none_of X G z_super, ztop⟩,
    n_BadRows_row := n_BadRows_row,
    c_NothingBehind := PySem.W.mg_of X G aC_NothingBehind,
    ex_NothingBehind := ⟨ei_NothingBehind, ov_NothingBehind, xb_NothingBehind, xx_NothingBehind, xy_NothingBehind, kc_NothingBehind, hd_NothingBehind, sa_NothingBehind, xm_NothingBehind, xs_NothingBehind, xth, xg_NothingBehind, xh_NothingBehind⟩,
    xf_NothingBehind := ⟨fIxNothingBehind, ia_NothingBehind, ib_NothingBehind, ⟨ocxNothingBehind, kVxNothingBehind, dcxNothingBehind, pmxNothingBehind, _, ctxNothingBehind, clcxNothingBehind, cllxNothingBehind, odxNothingBehind, anxNothingBehind, cldxNothingBehind, cddxNothingBehind, oslxNothingBehind, cslxNothingBehind, ccsxNothingBehind, cdaxNothingBehind, ccxNothingBehind, vsxNothingBehind, flxNothingBehind, tfxNothingBehind, ic_NothingBehind, rfl, id_NothingBehind, ie_NothingBehind, if_NothingBehind, ig_NothingBehind, ih_NothingBehind⟩, PySem.W.mg_none_of X G z_super, ztop⟩,
    n_NothingBehind_steps := n_NothingBehind_steps,
    c_NoFrame := PySem.W.mg_of X G aC_NoFrame,
    ex_NoFrame := ⟨ei_NoFrame, ov_NoFrame, xb_NoFrame, xx_NoFrame, xy_NoFrame, kc_NoFrame, hd_NoFrame, sa_NoFrame, xm_NoFrame, xs_NoFrame, xth, xg_NoFrame, xh_NoFrame⟩,
    xf_NoFrame := ⟨fIxNoFrame, ia_NoFrame, ib_NoFrame, ⟨ocxNoFrame, kVxNoFrame, dcxNoFrame, pmxNoFrame, _, ctxNoFrame, clcxNoFrame, cllxNoFrame, odxNoFrame, anxNoFrame, cldxNoFrame, cddxNoFrame, oslxNoFrame, cslxNoFrame, ccsxNoFrame, cdaxNoFrame, ccxNoFrame, vsxNoFrame, flxNoFrame, tfxNoFrame, ic_NoFrame, rfl, id_NoFrame, ie_NoFrame, if_NoFrame, ig_NoFrame, ih_NoFrame⟩, PySem.W.mg_none_of X G z_super, ztop⟩,
    c_InvalidCommand := PySem.W.mg_of X G aC_InvalidCommand,
    ex_InvalidCommand := ⟨ei_InvalidCommand, ov_InvalidCommand, xb_InvalidCommand, xx_InvalidCommand, xy_InvalidCommand, kc_InvalidCommand, hd_InvalidCommand, sa_InvalidCommand, xm_InvalidCommand, xs_InvalidCommand, xth, xg_InvalidCommand, xh_InvalidCommand⟩,
    xf_InvalidCommand := ⟨fIxInvalidCommand, ia_InvalidCommand, ib_InvalidCommand, ⟨ocxInvalidCommand, kVxInvalidCommand, dcxInvalidCommand, pmxInvalidCommand, _, ctxInvalidCommand, clcxInvalidCommand, cllxInvalidCommand, odxInvalidCommand, anxInvalidCommand, cldxInvalidCommand, cddxInvalidCommand, oslxInvalidCommand, cslxInvalidCommand, ccsxInvalidCommand, cdaxInvalidCommand, ccxInvalidCommand, vsxInvalidCommand, flxInvalidCommand, tfxInvalidCommand, ic_InvalidCommand, rfl, id_InvalidCommand, ie_InvalidCommand, if_InvalidCommand, ig_InvalidCommand, ih_InvalidCommand⟩, PySem.W.mg_none_of X G z_super, ztop⟩,
    c_NothingToUndo := PySem.W.mg_of X G aC_NothingToUndo,
    ex_NothingToUndo := ⟨ei_NothingToUndo, ov_NothingToUndo, xb_NothingToUndo, xx_NothingToUndo, xy_NothingToUndo, kc_NothingToUndo, hd_NothingToUndo, sa_NothingToUndo, xm_NothingToUndo, xs_NothingToUndo, xth, xg_NothingToUndo, xh_NothingToUndo⟩,
    xf_NothingToUndo := ⟨fIxNothingToUndo, ia_NothingToUndo, ib_NothingToUndo, ⟨ocxNothingToUndo, kVxNothingToUndo, dcxNothingToUndo, pmxNothingToUndo, _, ctxNothingToUndo, clcxNothingToUndo, cllxNothingToUndo, odxNothingToUndo, anxNothingToUndo, cldxNothingToUndo, cddxNothingToUndo, oslxNothingToUndo, cslxNothingToUndo, ccsxNothingToUndo, cdaxNothingToUndo, ccxNothingToUndo, vsxNothingToUndo, flxNothingToUndo, tfxNothingToUndo, ic_NothingToUndo, rfl, id_NothingToUndo, ie_NothingToUndo, if_NothingToUndo, ig_NothingToUndo, ih_NothingToUndo⟩, PySem.W.mg_none_of X G z_super, ztop⟩,
    c_NothingKnown := PySem.W.mg_of X G aC_NothingKnown,
    ex_NothingKnown := ⟨ei_NothingKnown, ov_NothingKnown, xb_NothingKnown, xx_NothingKnown, xy_NothingKnown, kc_NothingKnown, hd_NothingKnown, sa_NothingKnown, xm_NothingKnown, xs_NothingKnown, xth, xg_NothingKnown, xh_NothingKnown⟩,
    xf_NothingKnown := ⟨fIxNothingKnown, ia_NothingKnown, ib_NothingKnown, ⟨ocxNothingKnown, kVxNothingKnown, dcxNothingKnown, pmxNothingKnown, _, ctxNothingKnown, clcxNothingKnown, cllxNothingKnown, odxNothingKnown, anxNothingKnown, cldxNothingKnown, cddxNothingKnown, oslxNothingKnown, cslxNothingKnown, ccsxNothingKnown, cdaxNothingKnown, ccxNothingKnown, vsxNothingKnown, flxNothingKnown, tfxNothingKnown, ic_NothingKnown, rfl, id_NothingKnown, ie_NothingKnown, if_NothingKnown, ig_NothingKnown, ih_NothingKnown⟩, PySem.W.mg_none_of X G z_super, ztop⟩,
    c_BadCommand := PySem.W.mg_of X G aC_BadCommand,
    ex_BadCommand := ⟨ei_BadCommand, ov_BadCommand, xb_BadCommand, xx_BadCommand, xy_BadCommand, kc_BadCommand, hd_BadCommand, sa_BadCommand, xm_BadCommand, xs_BadCommand, xth, xg_BadCommand, xh_BadCommand⟩,
    xf_BadCommand := ⟨fIxBadCommand, ia_BadCommand, ib_BadCommand, ⟨ocxBadCommand, kVxBadCommand, dcxBadCommand, pmxBadCommand, _, ctxBadCommand, clcxBadCommand, cllxBadCommand, odxBadCommand, anxBadCommand, cldxBadCommand, cddxBadCommand, oslxBadCommand, cslxBadCommand, ccsxBadCommand, cdaxBadCommand, ccxBadCommand, vsxBadCommand, flxBadCommand, tfxBadCommand, ic_BadCommand, rfl, id_BadCommand, ie_BadCommand, if_BadCommand, ig_BadCommand, ih_BadCommand⟩, PySem.W.mg_none_of X G z_super, ztop⟩,
    z_isinstance := PySem.W.mg_none_of X G z_isinstance,
    ko_NothingKnown_RestError := ko_NothingKnown_RestError,
    xi_NothingKnown := ⟨xc_NothingKnown, jn, jt, jm_NothingKnown⟩,
    ko_BadCommand_RestError := ko_BadCommand_RestError,
    xi_BadCommand := ⟨xc_BadCommand, jn, jt, jm_BadCommand⟩,
    ko_NoFrame_RestError := ko_NoFrame_RestError,
    xi_NoFrame := ⟨xc_NoFrame, jn, jt, jm_NoFrame⟩,
    ko_InvalidCommand_RestError := ko_InvalidCommand_RestError,
    xi_InvalidCommand := ⟨xc_InvalidCommand, jn, jt, jm_InvalidCommand⟩,
    ko_NothingToUndo_RestError := ko_NothingToUndo_RestError,
    xi_NothingToUndo := ⟨xc_NothingToUndo, jn, jt, jm_NothingToUndo⟩,
    ko_NothingBehind_RestError := ko_NothingBehind_RestError,
    xi_NothingBehind := ⟨xc_NothingBehind, jn, jt, jm_NothingBehind⟩,
    ko_OtherParts_RestError := ko_OtherParts_RestError,
    xi_OtherParts := ⟨xc_OtherParts, jn, jt, jm_OtherParts⟩,
    ko_BadRows_RestError := ko_BadRows_RestError,
    xi_BadRows := ⟨xc_BadRows, jn, jt, jm_BadRows⟩,
    ko_NotWhole_RestError := ko_NotWhole_RestError,
    xi_NotWhole := ⟨xc_NotWhole, jn, jt, jm_NotWhole⟩,
    ko_BadText_RestError := ko_BadText_RestError,
    xi_BadText := ⟨xc_BadText, jn, jt, jm_BadText⟩,
    ko_BadFrame_RestError := ko_BadFrame_RestError,
    xi_BadFrame := ⟨xc_BadFrame, jn, jt, jm_BadFrame⟩,
    ko_BadScheme_RestError := ko_BadScheme_RestError,
    xi_BadScheme := ⟨xc_BadScheme, jn, jt, jm_BadScheme⟩,
    ko_RestError_RestError := ko_RestError_RestError,
    ex_RestError := ⟨ei_RestError, ov_RestError, xb_RestError, xx_RestError, xy_RestError, kc_RestError, hd_RestError, sa_RestError, xm_RestError, xs_RestError, xth, xg_RestError, xh_RestError⟩,
    xi_RestError := ⟨xc_RestError, jn, jt, jm_RestError⟩,
    c_RestError := PySem.W.mg_of X G aC_RestError,
    ko_NothingKnown_Exception := ko_NothingKnown_Exception,
    ko_BadCommand_Exception := ko_BadCommand_Exception,
    ko_NoFrame_Exception := ko_NoFrame_Exception,
    ko_InvalidCommand_Exception := ko_InvalidCommand_Exception,
    ko_NothingToUndo_Exception := ko_NothingToUndo_Exception,
    ko_NothingBehind_Exception := ko_NothingBehind_Exception,
    ko_OtherParts_Exception := ko_OtherParts_Exception,
    ko_BadRows_Exception := ko_BadRows_Exception,
    ko_NotWhole_Exception := ko_NotWhole_Exception,
    ko_BadText_Exception := ko_BadText_Exception,
    ko_BadFrame_Exception := ko_BadFrame_Exception,
    ko_BadScheme_Exception := ko_BadScheme_Exception,
    ko_RestError_Exception := ko_RestError_Exception,
    z_Exception := PySem.W.mg_none_of X G z_Exception,
    ko_NothingKnown_NotWhole := ko_NothingKnown_NotWhole,
    ko_BadCommand_NotWhole := ko_BadCommand_NotWhole,
    ko_NoFrame_NotWhole := ko_NoFrame_NotWhole,
    ko_InvalidCommand_NotWhole := ko_InvalidCommand_NotWhole,
    ko_NothingToUndo_NotWhole := ko_NothingToUndo_NotWhole,
    ko_NothingBehind_NotWhole := ko_NothingBehind_NotWhole,
    ko_OtherParts_NotWhole := ko_OtherParts_NotWhole,
    ko_BadRows_NotWhole := ko_BadRows_NotWhole,
    ko_NotWhole_NotWhole := ko_NotWhole_NotWhole,
    ko_BadText_NotWhole := ko_BadText_NotWhole,
    ko_BadFrame_NotWhole := ko_BadFrame_NotWhole,
    ko_BadScheme_NotWhole := ko_BadScheme_NotWhole,
    ko_RestError_NotWhole := ko_RestError_NotWhole,
    ko_NothingKnown_BadText := ko_NothingKnown_BadText,
    ko_BadCommand_BadText := ko_BadCommand_BadText,
    ko_NoFrame_BadText := ko_NoFrame_BadText,
    ko_InvalidCommand_BadText := ko_InvalidCommand_BadText,
    ko_NothingToUndo_BadText := ko_NothingToUndo_BadText,
    ko_NothingBehind_BadText := ko_NothingBehind_BadText,
    ko_OtherParts_BadText := ko_OtherParts_BadText,
    ko_BadRows_BadText := ko_BadRows_BadText,
    ko_NotWhole_BadText := ko_NotWhole_BadText,
    ko_BadText_BadText := ko_BadText_BadText,
    ko_BadFrame_BadText := ko_BadFrame_BadText,
    ko_BadScheme_BadText := ko_BadScheme_BadText,
    ko_RestError_BadText := ko_RestError_BadText,
    ko_NothingKnown_BadFrame := ko_NothingKnown_BadFrame,
    ko_BadCommand_BadFrame := ko_BadCommand_BadFrame,
    ko_NoFrame_BadFrame := ko_NoFrame_BadFrame,
    ko_InvalidCommand_BadFrame := ko_InvalidCommand_BadFrame,
    ko_NothingToUndo_BadFrame := ko_NothingToUndo_BadFrame,
    ko_NothingBehind_BadFrame := ko_NothingBehind_BadFrame,
    ko_OtherParts_BadFrame := ko_OtherParts_BadFrame,
    ko_BadRows_BadFrame := ko_BadRows_BadFrame,
    ko_NotWhole_BadFrame := ko_NotWhole_BadFrame,
    ko_BadText_BadFrame := ko_BadText_BadFrame,
    ko_BadFrame_BadFrame := ko_BadFrame_BadFrame,
    ko_BadScheme_BadFrame := ko_BadScheme_BadFrame,
    ko_RestError_BadFrame := ko_RestError_BadFrame,
    ko_NothingKnown_BadScheme := ko_NothingKnown_BadScheme,
    ko_BadCommand_BadScheme := ko_BadCommand_BadScheme,
    ko_NoFrame_BadScheme := ko_NoFrame_BadScheme,
    ko_InvalidCommand_BadScheme := ko_InvalidCommand_BadScheme,
    ko_NothingToUndo_BadScheme := ko_NothingToUndo_BadScheme,
    ko_NothingBehind_BadScheme := ko_NothingBehind_BadScheme,
    ko_OtherParts_BadScheme := ko_OtherParts_BadScheme,
    ko_BadRows_BadScheme := ko_BadRows_BadScheme,
    ko_NotWhole_BadScheme := ko_NotWhole_BadScheme,
    ko_BadText_BadScheme := ko_BadText_BadScheme,
    ko_BadFrame_BadScheme := ko_BadFrame_BadScheme,
    ko_BadScheme_BadScheme := ko_BadScheme_BadScheme,
    ko_RestError_BadScheme := ko_RestError_BadScheme,
    ko_NothingKnown_NothingBehind := ko_NothingKnown_NothingBehind,
    ko_BadCommand_NothingBehind := ko_BadCommand_NothingBehind,
    ko_NoFrame_NothingBehind := ko_NoFrame_NothingBehind,
    ko_InvalidCommand_NothingBehind := ko_InvalidCommand_NothingBehind,
    ko_NothingToUndo_NothingBehind := ko_NothingToUndo_NothingBehind,
    ko_NothingBehind_NothingBehind := ko_NothingBehind_NothingBehind,
    ko_OtherParts_NothingBehind := ko_OtherParts_NothingBehind,
    ko_BadRows_NothingBehind := ko_BadRows_NothingBehind,
    ko_NotWhole_NothingBehind := ko_NotWhole_NothingBehind,
    ko_BadText_NothingBehind := ko_BadText_NothingBehind,
    ko_BadFrame_NothingBehind := ko_BadFrame_NothingBehind,
    ko_BadScheme_NothingBehind := ko_BadScheme_NothingBehind,
    ko_RestError_NothingBehind := ko_RestError_NothingBehind,
    ko_NothingKnown_OtherParts := ko_NothingKnown_OtherParts,
    ko_BadCommand_OtherParts := ko_BadCommand_OtherParts,
    ko_NoFrame_OtherParts := ko_NoFrame_OtherParts,
    ko_InvalidCommand_OtherParts := ko_InvalidCommand_OtherParts,
    ko_NothingToUndo_OtherParts := ko_NothingToUndo_OtherParts,
    ko_NothingBehind_OtherParts := ko_NothingBehind_OtherParts,
    ko_OtherParts_OtherParts := ko_OtherParts_OtherParts,
    ko_BadRows_OtherParts := ko_BadRows_OtherParts,
    ko_NotWhole_OtherParts := ko_NotWhole_OtherParts,
    ko_BadText_OtherParts := ko_BadText_OtherParts,
    ko_BadFrame_OtherParts := ko_BadFrame_OtherParts,
    ko_BadScheme_OtherParts := ko_BadScheme_OtherParts,
    ko_RestError_OtherParts := ko_RestError_OtherParts,
    ko_NothingKnown_BadRows := ko_NothingKnown_BadRows,
    ko_BadCommand_BadRows := ko_BadCommand_BadRows,
    ko_NoFrame_BadRows := ko_NoFrame_BadRows,
    ko_InvalidCommand_BadRows := ko_InvalidCommand_BadRows,
    ko_NothingToUndo_BadRows := ko_NothingToUndo_BadRows,
    ko_NothingBehind_BadRows := ko_NothingBehind_BadRows,
    ko_OtherParts_BadRows := ko_OtherParts_BadRows,
    ko_BadRows_BadRows := ko_BadRows_BadRows,
    ko_NotWhole_BadRows := ko_NotWhole_BadRows,
    ko_BadText_BadRows := ko_BadText_BadRows,
    ko_BadFrame_BadRows := ko_BadFrame_BadRows,
    ko_BadScheme_BadRows := ko_BadScheme_BadRows,
    ko_RestError_BadRows := ko_RestError_BadRows,
    ko_NothingKnown_NoFrame := ko_NothingKnown_NoFrame,
    ko_BadCommand_NoFrame := ko_BadCommand_NoFrame,
    ko_NoFrame_NoFrame := ko_NoFrame_NoFrame,
    ko_InvalidCommand_NoFrame := ko_InvalidCommand_NoFrame,
    ko_NothingToUndo_NoFrame := ko_NothingToUndo_NoFrame,
    ko_NothingBehind_NoFrame := ko_NothingBehind_NoFrame,
    ko_OtherParts_NoFrame := ko_OtherParts_NoFrame,
    ko_BadRows_NoFrame := ko_BadRows_NoFrame,
    ko_NotWhole_NoFrame := ko_NotWhole_NoFrame,
    ko_BadText_NoFrame := ko_BadText_NoFrame,
    ko_BadFrame_NoFrame := ko_BadFrame_NoFrame,
    ko_BadScheme_NoFrame := ko_BadScheme_NoFrame,
    ko_RestError_NoFrame := ko_RestError_NoFrame,
    ko_NothingKnown_InvalidCommand := ko_NothingKnown_InvalidCommand,
    ko_BadCommand_InvalidCommand := ko_BadCommand_InvalidCommand,
    ko_NoFrame_InvalidCommand := ko_NoFrame_InvalidCommand,
    ko_InvalidCommand_InvalidCommand := ko_InvalidCommand_InvalidCommand,
    ko_NothingToUndo_InvalidCommand := ko_NothingToUndo_InvalidCommand,
    ko_NothingBehind_InvalidCommand := ko_NothingBehind_InvalidCommand,
    ko_OtherParts_InvalidCommand := ko_OtherParts_InvalidCommand,
    ko_BadRows_InvalidCommand := ko_BadRows_InvalidCommand,
    ko_NotWhole_InvalidCommand := ko_NotWhole_InvalidCommand,
    ko_BadText_InvalidCommand := ko_BadText_InvalidCommand,
    ko_BadFrame_InvalidCommand := ko_BadFrame_InvalidCommand,
    ko_BadScheme_InvalidCommand := ko_BadScheme_InvalidCommand,
    ko_RestError_InvalidCommand := ko_RestError_InvalidCommand,
    ko_NothingKnown_NothingToUndo := ko_NothingKnown_NothingToUndo,
    ko_BadCommand_NothingToUndo := ko_BadCommand_NothingToUndo,
    ko_NoFrame_NothingToUndo := ko_NoFrame_NothingToUndo,
    ko_InvalidCommand_NothingToUndo := ko_InvalidCommand_NothingToUndo,
    ko_NothingToUndo_NothingToUndo := ko_NothingToUndo_NothingToUndo,
    ko_NothingBehind_NothingToUndo := ko_NothingBehind_NothingToUndo,
    ko_OtherParts_NothingToUndo := ko_OtherParts_NothingToUndo,
    ko_BadRows_NothingToUndo := ko_BadRows_NothingToUndo,
    ko_NotWhole_NothingToUndo := ko_NotWhole_NothingToUndo,
    ko_BadText_NothingToUndo := ko_BadText_NothingToUndo,
    ko_BadFrame_NothingToUndo := ko_BadFrame_NothingToUndo,
    ko_BadScheme_NothingToUndo := ko_BadScheme_NothingToUndo,
    ko_RestError_NothingToUndo := ko_RestError_NothingToUndo,
    ko_NothingKnown_NothingKnown := ko_NothingKnown_NothingKnown,
    ko_BadCommand_NothingKnown := ko_BadCommand_NothingKnown,
    ko_NoFrame_NothingKnown := ko_NoFrame_NothingKnown,
    ko_InvalidCommand_NothingKnown := ko_InvalidCommand_NothingKnown,
    ko_NothingToUndo_NothingKnown := ko_NothingToUndo_NothingKnown,
    ko_NothingBehind_NothingKnown := ko_NothingBehind_NothingKnown,
    ko_OtherParts_NothingKnown := ko_OtherParts_NothingKnown,
    ko_BadRows_NothingKnown := ko_BadRows_NothingKnown,
    ko_NotWhole_NothingKnown := ko_NotWhole_NothingKnown,
    ko_BadText_NothingKnown := ko_BadText_NothingKnown,
    ko_BadFrame_NothingKnown := ko_BadFrame_NothingKnown,
    ko_BadScheme_NothingKnown := ko_BadScheme_NothingKnown,
    ko_RestError_NothingKnown := ko_RestError_NothingKnown,
    ko_NothingKnown_BadCommand := ko_NothingKnown_BadCommand,
    ko_BadCommand_BadCommand := ko_BadCommand_BadCommand,
    ko_NoFrame_BadCommand := ko_NoFrame_BadCommand,
    ko_InvalidCommand_BadCommand := ko_InvalidCommand_BadCommand,
    ko_NothingToUndo_BadCommand := ko_NothingToUndo_BadCommand,
    ko_NothingBehind_BadCommand := ko_NothingBehind_BadCommand,
    ko_OtherParts_BadCommand := ko_OtherParts_BadCommand,
    ko_BadRows_BadCommand := ko_BadRows_BadCommand,
    ko_NotWhole_BadCommand := ko_NotWhole_BadCommand,
    ko_BadText_BadCommand := ko_BadText_BadCommand,
    ko_BadFrame_BadCommand := ko_BadFrame_BadCommand,
    ko_BadScheme_BadCommand := ko_BadScheme_BadCommand,
    ko_RestError_BadCommand := ko_RestError_BadCommand,
    z_repr := PySem.W.mg_none_of X G z_repr,
    ko_NothingKnown_TypeError := ko_NothingKnown_TypeError,
    ko_BadCommand_TypeError := ko_BadCommand_TypeError,
    ko_NoFrame_TypeError := ko_NoFrame_TypeError,
    ko_InvalidCommand_TypeError := ko_InvalidCommand_TypeError,
    ko_NothingToUndo_TypeError := ko_NothingToUndo_TypeError,
    ko_NothingBehind_TypeError := ko_NothingBehind_TypeError,
    ko_OtherParts_TypeError := ko_OtherParts_TypeError,
    ko_BadRows_TypeError := ko_BadRows_TypeError,
    ko_NotWhole_TypeError := ko_NotWhole_TypeError,
    ko_BadText_TypeError := ko_BadText_TypeError,
    ko_BadFrame_TypeError := ko_BadFrame_TypeError,
    ko_BadScheme_TypeError := ko_BadScheme_TypeError,
    ko_RestError_TypeError := ko_RestError_TypeError,
    z_TypeError := PySem.W.mg_none_of X G z_TypeError,
    ko_NothingKnown_LookupError := ko_NothingKnown_LookupError,
    ko_BadCommand_LookupError := ko_BadCommand_LookupError,
    ko_NoFrame_LookupError := ko_NoFrame_LookupError,
    ko_InvalidCommand_LookupError := ko_InvalidCommand_LookupError,
    ko_NothingToUndo_LookupError := ko_NothingToUndo_LookupError,
    ko_NothingBehind_LookupError := ko_NothingBehind_LookupError,
    ko_OtherParts_LookupError := ko_OtherParts_LookupError,
    ko_BadRows_LookupError := ko_BadRows_LookupError,
    ko_NotWhole_LookupError := ko_NotWhole_LookupError,
    ko_BadText_LookupError := ko_BadText_LookupError,
    ko_BadFrame_LookupError := ko_BadFrame_LookupError,
    ko_BadScheme_LookupError := ko_BadScheme_LookupError,
    ko_RestError_LookupError := ko_RestError_LookupError,
    z_LookupError := PySem.W.mg_none_of X G z_LookupError,
    ko_NothingKnown_ValueError := ko_NothingKnown_ValueError,
    ko_BadCommand_ValueError := ko_BadCommand_ValueError,
    ko_NoFrame_ValueError := ko_NoFrame_ValueError,
    ko_InvalidCommand_ValueError := ko_InvalidCommand_ValueError,
    ko_NothingToUndo_ValueError := ko_NothingToUndo_ValueError,
    ko_NothingBehind_ValueError := ko_NothingBehind_ValueError,
    ko_OtherParts_ValueError := ko_OtherParts_ValueError,
    ko_BadRows_ValueError := ko_BadRows_ValueError,
    ko_NotWhole_ValueError := ko_NotWhole_ValueError,
    ko_BadText_ValueError := ko_BadText_ValueError,
    ko_BadFrame_ValueError := ko_BadFrame_ValueError,
    ko_BadScheme_ValueError := ko_BadScheme_ValueError,
    ko_RestError_ValueError := ko_RestError_ValueError,
    z_ValueError := PySem.W.mg_none_of X G z_ValueError,
    ko_NothingKnown_RuntimeError := ko_NothingKnown_RuntimeError,
    ko_BadCommand_RuntimeError := ko_BadCommand_RuntimeError,
    ko_NoFrame_RuntimeError := ko_NoFrame_RuntimeError,
    ko_InvalidCommand_RuntimeError := ko_InvalidCommand_RuntimeError,
    ko_NothingToUndo_RuntimeError := ko_NothingToUndo_RuntimeError,
    ko_NothingBehind_RuntimeError := ko_NothingBehind_RuntimeError,
    ko_OtherParts_RuntimeError := ko_OtherParts_RuntimeError,
    ko_BadRows_RuntimeError := ko_BadRows_RuntimeError,
    ko_NotWhole_RuntimeError := ko_NotWhole_RuntimeError,
    ko_BadText_RuntimeError := ko_BadText_RuntimeError,
    ko_BadFrame_RuntimeError := ko_BadFrame_RuntimeError,
    ko_BadScheme_RuntimeError := ko_BadScheme_RuntimeError,
    ko_RestError_RuntimeError := ko_RestError_RuntimeError,
    z_RuntimeError := PySem.W.mg_none_of X G z_RuntimeError,
    ko_NothingKnown_ArithmeticError := ko_NothingKnown_ArithmeticError,
    ko_BadCommand_ArithmeticError := ko_BadCommand_ArithmeticError,
    ko_NoFrame_ArithmeticError := ko_NoFrame_ArithmeticError,
    ko_InvalidCommand_ArithmeticError := ko_InvalidCommand_ArithmeticError,
    ko_NothingToUndo_ArithmeticError := ko_NothingToUndo_ArithmeticError,
    ko_NothingBehind_ArithmeticError := ko_NothingBehind_ArithmeticError,
    ko_OtherParts_ArithmeticError := ko_OtherParts_ArithmeticError,
    ko_BadRows_ArithmeticError := ko_BadRows_ArithmeticError,
    ko_NotWhole_ArithmeticError := ko_NotWhole_ArithmeticError,
    ko_BadText_ArithmeticError := ko_BadText_ArithmeticError,
    ko_BadFrame_ArithmeticError := ko_BadFrame_ArithmeticError,
    ko_BadScheme_ArithmeticError := ko_BadScheme_ArithmeticError,
    ko_RestError_ArithmeticError := ko_RestError_ArithmeticError,
    z_ArithmeticError := PySem.W.mg_none_of X G z_ArithmeticError,
    sb_NothingKnown_RestError := sb_NothingKnown_RestError,
    sb_BadCommand_RestError := sb_BadCommand_RestError,
    sb_NoFrame_RestError := sb_NoFrame_RestError,
    sb_InvalidCommand_RestError := sb_InvalidCommand_RestError,
    sb_NothingToUndo_RestError := sb_NothingToUndo_RestError,
    sb_NothingBehind_RestError := sb_NothingBehind_RestError,
    sb_OtherParts_RestError := sb_OtherParts_RestError,
    sb_BadRows_RestError := sb_BadRows_RestError,
    sb_NotWhole_RestError := sb_NotWhole_RestError,
    sb_BadText_RestError := sb_BadText_RestError,
    sb_BadFrame_RestError := sb_BadFrame_RestError,
    sb_BadScheme_RestError := sb_BadScheme_RestError,
    xr_RestError := xr_RestError }
  refine ⟨R.fd_law, fun s u => (.of_eq ?_), fun base _ _ => ok_law R (hm R.c (.cons (allT_cons (ko_ne R.ko_RestError_BadScheme R.ko_BadScheme_BadScheme) (allT_cons (ko_ne R.ko_RestError_BadFrame R.ko_BadFrame_BadFrame) (allT_cons (ko_ne R.ko_RestError_BadText R.ko_BadText_BadText) (allT_cons (ko_ne R.ko_RestError_NotWhole R.ko_NotWhole_NotWhole) (allT_cons (ko_ne R.ko_RestError_BadRows R.ko_BadRows_BadRows) (allT_cons (ko_ne R.ko_RestError_OtherParts R.ko_OtherParts_OtherParts) (allT_cons (ko_ne R.ko_RestError_NothingBehind R.ko_NothingBehind_NothingBehind) (allT_cons (ko_ne R.ko_RestError_NothingToUndo R.ko_NothingToUndo_NothingToUndo) (allT_cons (ko_ne R.ko_RestError_InvalidCommand R.ko_InvalidCommand_InvalidCommand) (allT_cons (ko_ne R.ko_RestError_NoFrame R.ko_NoFrame_NoFrame) (allT_cons (ko_ne R.ko_RestError_BadCommand R.ko_BadCommand_BadCommand) (allT_cons (ko_ne R.ko_RestError_NothingKnown R.ko_NothingKnown_NothingKnown) allT_nil)))))))))))) (.cons (allT_cons (ko_ne R.ko_BadScheme_BadFrame R.ko_BadFrame_BadFrame) (allT_cons (ko_ne R.ko_BadScheme_BadText R.ko_BadText_BadText) (allT_cons (ko_ne R.ko_BadScheme_NotWhole R.ko_NotWhole_NotWhole) (allT_cons (ko_ne R.ko_BadScheme_BadRows R.ko_BadRows_BadRows) (allT_cons (ko_ne R.ko_BadScheme_OtherParts R.ko_OtherParts_OtherParts) (allT_cons (ko_ne R.ko_BadScheme_NothingBehind R.ko_NothingBehind_NothingBehind) (allT_cons (ko_ne R.ko_BadScheme_NothingToUndo R.ko_NothingToUndo_NothingToUndo) (allT_cons (ko_ne R.ko_BadScheme_InvalidCommand R.ko_InvalidCommand_InvalidCommand) (allT_cons (ko_ne R.ko_BadScheme_NoFrame R.ko_NoFrame_NoFrame) (allT_cons (ko_ne R.ko_BadScheme_BadCommand R.ko_BadCommand_BadCommand) (allT_cons (ko_ne R.ko_BadScheme_NothingKnown R.ko_NothingKnown_NothingKnown) allT_nil))))))))))) (.cons (allT_cons (ko_ne R.ko_BadFrame_BadText R.ko_BadText_BadText) (allT_cons (ko_ne R.ko_BadFrame_NotWhole R.ko_NotWhole_NotWhole) (allT_cons (ko_ne R.ko_BadFrame_BadRows R.ko_BadRows_BadRows) (allT_cons (ko_ne R.ko_BadFrame_OtherParts R.ko_OtherParts_OtherParts) (allT_cons (ko_ne R.ko_BadFrame_NothingBehind R.ko_NothingBehind_NothingBehind) (allT_cons (ko_ne R.ko_BadFrame_NothingToUndo R.ko_NothingToUndo_NothingToUndo) (allT_cons (ko_ne R.ko_BadFrame_InvalidCommand R.ko_InvalidCommand_InvalidCommand) (allT_cons (ko_ne R.ko_BadFrame_NoFrame R.ko_NoFrame_NoFrame) (allT_cons (ko_ne R.ko_BadFrame_BadCommand R.ko_BadCommand_BadCommand) (allT_cons (ko_ne R.ko_BadFrame_NothingKnown R.ko_NothingKnown_NothingKnown) allT_nil)))))))))) (.cons (allT_cons (ko_ne R.ko_BadText_NotWhole R.ko_NotWhole_NotWhole) (allT_cons (ko_ne R.ko_BadText_BadRows R.ko_BadRows_BadRows) (allT_cons (ko_ne R.ko_BadText_OtherParts R.ko_OtherParts_OtherParts) (allT_cons (ko_ne R.ko_BadText_NothingBehind R.ko_NothingBehind_NothingBehind) (allT_cons (ko_ne R.ko_BadText_NothingToUndo R.ko_NothingToUndo_NothingToUndo) (allT_cons (ko_ne R.ko_BadText_InvalidCommand R.ko_InvalidCommand_InvalidCommand) (allT_cons (ko_ne R.ko_BadText_NoFrame R.ko_NoFrame_NoFrame) (allT_cons (ko_ne R.ko_BadText_BadCommand R.ko_BadCommand_BadCommand) (allT_cons (ko_ne R.ko_BadText_NothingKnown R.ko_NothingKnown_NothingKnown) allT_nil))))))))) (.cons (allT_cons (ko_ne R.ko_NotWhole_BadRows R.ko_BadRows_BadRows) (allT_cons (ko_ne R.ko_NotWhole_OtherParts R.ko_OtherParts_OtherParts) (allT_cons (ko_ne R.ko_NotWhole_NothingBehind R.ko_NothingBehind_NothingBehind) (allT_cons (ko_ne R.ko_NotWhole_NothingToUndo R.ko_NothingToUndo_NothingToUndo) (allT_cons (ko_ne R.ko_NotWhole_InvalidCommand R.ko_InvalidCommand_InvalidCommand) (allT_cons (ko_ne R.ko_NotWhole_NoFrame R.ko_NoFrame_NoFrame) (allT_cons (ko_ne R.ko_NotWhole_BadCommand R.ko_BadCommand_BadCommand) (allT_cons (ko_ne R.ko_NotWhole_NothingKnown R.ko_NothingKnown_NothingKnown) allT_nil)))))))) (.cons (allT_cons (ko_ne R.ko_BadRows_OtherParts R.ko_OtherParts_OtherParts) (allT_cons (ko_ne R.ko_BadRows_NothingBehind R.ko_NothingBehind_NothingBehind) (allT_cons (ko_ne R.ko_BadRows_NothingToUndo R.ko_NothingToUndo_NothingToUndo) (allT_cons (ko_ne R.ko_BadRows_InvalidCommand R.ko_InvalidCommand_InvalidCommand) (allT_cons (ko_ne R.ko_BadRows_NoFrame R.ko_NoFrame_NoFrame) (allT_cons (ko_ne R.ko_BadRows_BadCommand R.ko_BadCommand_BadCommand) (allT_cons (ko_ne R.ko_BadRows_NothingKnown R.ko_NothingKnown_NothingKnown) allT_nil))))))) (.cons (allT_cons (ko_ne R.ko_OtherParts_NothingBehind R.ko_NothingBehind_NothingBehind) (allT_cons (ko_ne R.ko_OtherParts_NothingToUndo R.ko_NothingToUndo_NothingToUndo) (allT_cons (ko_ne R.ko_OtherParts_InvalidCommand R.ko_InvalidCommand_InvalidCommand) (allT_cons (ko_ne R.ko_OtherParts_NoFrame R.ko_NoFrame_NoFrame) (allT_cons (ko_ne R.ko_OtherParts_BadCommand R.ko_BadCommand_BadCommand) (allT_cons (ko_ne R.ko_OtherParts_NothingKnown R.ko_NothingKnown_NothingKnown) allT_nil)))))) (.cons (allT_cons (ko_ne R.ko_NothingBehind_NothingToUndo R.ko_NothingToUndo_NothingToUndo) (allT_cons (ko_ne R.ko_NothingBehind_InvalidCommand R.ko_InvalidCommand_InvalidCommand) (allT_cons (ko_ne R.ko_NothingBehind_NoFrame R.ko_NoFrame_NoFrame) (allT_cons (ko_ne R.ko_NothingBehind_BadCommand R.ko_BadCommand_BadCommand) (allT_cons (ko_ne R.ko_NothingBehind_NothingKnown R.ko_NothingKnown_NothingKnown) allT_nil))))) (.cons (allT_cons (ko_ne R.ko_NothingToUndo_InvalidCommand R.ko_InvalidCommand_InvalidCommand) (allT_cons (ko_ne R.ko_NothingToUndo_NoFrame R.ko_NoFrame_NoFrame) (allT_cons (ko_ne R.ko_NothingToUndo_BadCommand R.ko_BadCommand_BadCommand) (allT_cons (ko_ne R.ko_NothingToUndo_NothingKnown R.ko_NothingKnown_NothingKnown) allT_nil)))) (.cons (allT_cons (ko_ne R.ko_InvalidCommand_NoFrame R.ko_NoFrame_NoFrame) (allT_cons (ko_ne R.ko_InvalidCommand_BadCommand R.ko_BadCommand_BadCommand) (allT_cons (ko_ne R.ko_InvalidCommand_NothingKnown R.ko_NothingKnown_NothingKnown) allT_nil))) (.cons (allT_cons (ko_ne R.ko_NoFrame_BadCommand R.ko_BadCommand_BadCommand) (allT_cons (ko_ne R.ko_NoFrame_NothingKnown R.ko_NothingKnown_NothingKnown) allT_nil)) (.cons (allT_cons (ko_ne R.ko_BadCommand_NothingKnown R.ko_NothingKnown_NothingKnown) allT_nil) (.cons allT_nil List.Pairwise.nil))))))))))))))⟩
  rfl
end
def LL (c : CA) : List Addr := [c.RestError, c.BadScheme, c.BadFrame, c.BadText, c.NotWhole, c.BadRows, c.OtherParts, c.NothingBehind, c.NothingToUndo, c.InvalidCommand, c.NoFrame, c.BadCommand, c.NothingKnown]
/-- the class of the error at a number -/
def ec (c : CA) : Nat → Addr
  | 0 => c.BadScheme
  | 1 => c.BadFrame
  | 2 => c.BadText
  | 3 => c.NotWhole
  | 4 => c.BadRows
  | 5 => c.OtherParts
  | 6 => c.NothingBehind
  | 7 => c.NothingToUndo
  | 8 => c.InvalidCommand
  | 9 => c.NoFrame
  | 10 => c.BadCommand
  | _ => c.NothingKnown
/-- what it bears -/
def ef (d : D) : Nat → List (Str × D)
  | 0 => [("part", d)]
  | 1 => [("part", d)]
  | 2 => [("place", d)]
  | 3 => [("tables", d)]
  | 4 => [("row", d)]
  | 5 => [("part", d)]
  | 6 => [("steps", d)]
  | _ => []
theorem LL_at (c : CA) : ∀ i, i < 12 → (LL c)[i + 1]? = some (ec c i)
  | 0, _ => rfl
  | 1, _ => rfl
  | 2, _ => rfl
  | 3, _ => rfl
  | 4, _ => rfl
  | 5, _ => rfl
  | 6, _ => rfl
  | 7, _ => rfl
  | 8, _ => rfl
  | 9, _ => rfl
  | 10, _ => rfl
  | 11, _ => rfl
  | n + 12, h => absurd h (by omega)
section
variable {c : CA} (hd : (LL c).Nodup)
include hd
theorem is_BadScheme {i : Nat} (hi : i < 12) (fs : List (Str × D)) : gIsXn [(c.RestError, false), (c.BadScheme, true), (c.BadFrame, false), (c.BadText, false), (c.NotWhole, false), (c.BadRows, false), (c.OtherParts, false), (c.NothingBehind, false), (c.NothingToUndo, false), (c.InvalidCommand, false), (c.NoFrame, false), (c.BadCommand, false), (c.NothingKnown, false)] (.exn (ec c i) fs) = some (.bl (decide (i = 0))) :=
  gIsXn_of (lkz (bs := [false, true, false, false, false, false, false, false, false, false, false, false, false]) hd (LL_at c i hi) (by match i, hi with | 0, _ => rfl | 1, _ => rfl | 2, _ => rfl | 3, _ => rfl | 4, _ => rfl | 5, _ => rfl | 6, _ => rfl | 7, _ => rfl | 8, _ => rfl | 9, _ => rfl | 10, _ => rfl | 11, _ => rfl))
theorem is_BadFrame {i : Nat} (hi : i < 12) (fs : List (Str × D)) : gIsXn [(c.RestError, false), (c.BadScheme, false), (c.BadFrame, true), (c.BadText, false), (c.NotWhole, false), (c.BadRows, false), (c.OtherParts, false), (c.NothingBehind, false), (c.NothingToUndo, false), (c.InvalidCommand, false), (c.NoFrame, false), (c.BadCommand, false), (c.NothingKnown, false)] (.exn (ec c i) fs) = some (.bl (decide (i = 1))) :=
  gIsXn_of (lkz (bs := [false, false, true, false, false, false, false, false, false, false, false, false, false]) hd (LL_at c i hi) (by match i, hi with | 0, _ => rfl | 1, _ => rfl | 2, _ => rfl | 3, _ => rfl | 4, _ => rfl | 5, _ => rfl | 6, _ => rfl | 7, _ => rfl | 8, _ => rfl | 9, _ => rfl | 10, _ => rfl | 11, _ => rfl))
theorem is_BadText {i : Nat} (hi : i < 12) (fs : List (Str × D)) : gIsXn [(c.RestError, false), (c.BadScheme, false), (c.BadFrame, false), (c.BadText, true), (c.NotWhole, false), (c.BadRows, false), (c.OtherParts, false), (c.NothingBehind, false), (c.NothingToUndo, false), (c.InvalidCommand, false), (c.NoFrame, false), (c.BadCommand, false), (c.NothingKnown, false)] (.exn (ec c i) fs) = some (.bl (decide (i = 2))) :=
  gIsXn_of (lkz (bs := [false, false, false, true, false, false, false, false, false, false, false, false, false]) hd (LL_at c i hi) (by match i, hi with | 0, _ => rfl | 1, _ => rfl | 2, _ => rfl | 3, _ => rfl | 4, _ => rfl | 5, _ => rfl | 6, _ => rfl | 7, _ => rfl | 8, _ => rfl | 9, _ => rfl | 10, _ => rfl | 11, _ => rfl))
theorem is_NotWhole {i : Nat} (hi : i < 12) (fs : List (Str × D)) : gIsXn [(c.RestError, false), (c.BadScheme, false), (c.BadFrame, false), (c.BadText, false), (c.NotWhole, true), (c.BadRows, false), (c.OtherParts, false), (c.NothingBehind, false), (c.NothingToUndo, false), (c.InvalidCommand, false), (c.NoFrame, false), (c.BadCommand, false), (c.NothingKnown, false)] (.exn (ec c i) fs) = some (.bl (decide (i = 3))) :=
  gIsXn_of (lkz (bs := [false, false, false, false, true, false, false, false, false, false, false, false, false]) hd (LL_at c i hi) (by match i, hi with | 0, _ => rfl | 1, _ => rfl | 2, _ => rfl | 3, _ => rfl | 4, _ => rfl | 5, _ => rfl | 6, _ => rfl | 7, _ => rfl | 8, _ => rfl | 9, _ => rfl | 10, _ => rfl | 11, _ => rfl))
theorem is_BadRows {i : Nat} (hi : i < 12) (fs : List (Str × D)) : gIsXn [(c.RestError, false), (c.BadScheme, false), (c.BadFrame, false), (c.BadText, false), (c.NotWhole, false), (c.BadRows, true), (c.OtherParts, false), (c.NothingBehind, false), (c.NothingToUndo, false), (c.InvalidCommand, false), (c.NoFrame, false), (c.BadCommand, false), (c.NothingKnown, false)] (.exn (ec c i) fs) = some (.bl (decide (i = 4))) :=
  gIsXn_of (lkz (bs := [false, false, false, false, false, true, false, false, false, false, false, false, false]) hd (LL_at c i hi) (by match i, hi with | 0, _ => rfl | 1, _ => rfl | 2, _ => rfl | 3, _ => rfl | 4, _ => rfl | 5, _ => rfl | 6, _ => rfl | 7, _ => rfl | 8, _ => rfl | 9, _ => rfl | 10, _ => rfl | 11, _ => rfl))
theorem is_OtherParts {i : Nat} (hi : i < 12) (fs : List (Str × D)) : gIsXn [(c.RestError, false), (c.BadScheme, false), (c.BadFrame, false), (c.BadText, false), (c.NotWhole, false), (c.BadRows, false), (c.OtherParts, true), (c.NothingBehind, false), (c.NothingToUndo, false), (c.InvalidCommand, false), (c.NoFrame, false), (c.BadCommand, false), (c.NothingKnown, false)] (.exn (ec c i) fs) = some (.bl (decide (i = 5))) :=
  gIsXn_of (lkz (bs := [false, false, false, false, false, false, true, false, false, false, false, false, false]) hd (LL_at c i hi) (by match i, hi with | 0, _ => rfl | 1, _ => rfl | 2, _ => rfl | 3, _ => rfl | 4, _ => rfl | 5, _ => rfl | 6, _ => rfl | 7, _ => rfl | 8, _ => rfl | 9, _ => rfl | 10, _ => rfl | 11, _ => rfl))
theorem is_NothingBehind {i : Nat} (hi : i < 12) (fs : List (Str × D)) : gIsXn [(c.RestError, false), (c.BadScheme, false), (c.BadFrame, false), (c.BadText, false), (c.NotWhole, false), (c.BadRows, false), (c.OtherParts, false), (c.NothingBehind, true), (c.NothingToUndo, false), (c.InvalidCommand, false), (c.NoFrame, false), (c.BadCommand, false), (c.NothingKnown, false)] (.exn (ec c i) fs) = some (.bl (decide (i = 6))) :=
  gIsXn_of (lkz (bs := [false, false, false, false, false, false, false, true, false, false, false, false, false]) hd (LL_at c i hi) (by match i, hi with | 0, _ => rfl | 1, _ => rfl | 2, _ => rfl | 3, _ => rfl | 4, _ => rfl | 5, _ => rfl | 6, _ => rfl | 7, _ => rfl | 8, _ => rfl | 9, _ => rfl | 10, _ => rfl | 11, _ => rfl))
theorem is_NothingToUndo {i : Nat} (hi : i < 12) (fs : List (Str × D)) : gIsXn [(c.RestError, false), (c.BadScheme, false), (c.BadFrame, false), (c.BadText, false), (c.NotWhole, false), (c.BadRows, false), (c.OtherParts, false), (c.NothingBehind, false), (c.NothingToUndo, true), (c.InvalidCommand, false), (c.NoFrame, false), (c.BadCommand, false), (c.NothingKnown, false)] (.exn (ec c i) fs) = some (.bl (decide (i = 7))) :=
  gIsXn_of (lkz (bs := [false, false, false, false, false, false, false, false, true, false, false, false, false]) hd (LL_at c i hi) (by match i, hi with | 0, _ => rfl | 1, _ => rfl | 2, _ => rfl | 3, _ => rfl | 4, _ => rfl | 5, _ => rfl | 6, _ => rfl | 7, _ => rfl | 8, _ => rfl | 9, _ => rfl | 10, _ => rfl | 11, _ => rfl))
theorem is_InvalidCommand {i : Nat} (hi : i < 12) (fs : List (Str × D)) : gIsXn [(c.RestError, false), (c.BadScheme, false), (c.BadFrame, false), (c.BadText, false), (c.NotWhole, false), (c.BadRows, false), (c.OtherParts, false), (c.NothingBehind, false), (c.NothingToUndo, false), (c.InvalidCommand, true), (c.NoFrame, false), (c.BadCommand, false), (c.NothingKnown, false)] (.exn (ec c i) fs) = some (.bl (decide (i = 8))) :=
  gIsXn_of (lkz (bs := [false, false, false, false, false, false, false, false, false, true, false, false, false]) hd (LL_at c i hi) (by match i, hi with | 0, _ => rfl | 1, _ => rfl | 2, _ => rfl | 3, _ => rfl | 4, _ => rfl | 5, _ => rfl | 6, _ => rfl | 7, _ => rfl | 8, _ => rfl | 9, _ => rfl | 10, _ => rfl | 11, _ => rfl))
theorem is_NoFrame {i : Nat} (hi : i < 12) (fs : List (Str × D)) : gIsXn [(c.RestError, false), (c.BadScheme, false), (c.BadFrame, false), (c.BadText, false), (c.NotWhole, false), (c.BadRows, false), (c.OtherParts, false), (c.NothingBehind, false), (c.NothingToUndo, false), (c.InvalidCommand, false), (c.NoFrame, true), (c.BadCommand, false), (c.NothingKnown, false)] (.exn (ec c i) fs) = some (.bl (decide (i = 9))) :=
  gIsXn_of (lkz (bs := [false, false, false, false, false, false, false, false, false, false, true, false, false]) hd (LL_at c i hi) (by match i, hi with | 0, _ => rfl | 1, _ => rfl | 2, _ => rfl | 3, _ => rfl | 4, _ => rfl | 5, _ => rfl | 6, _ => rfl | 7, _ => rfl | 8, _ => rfl | 9, _ => rfl | 10, _ => rfl | 11, _ => rfl))
theorem is_BadCommand {i : Nat} (hi : i < 12) (fs : List (Str × D)) : gIsXn [(c.RestError, false), (c.BadScheme, false), (c.BadFrame, false), (c.BadText, false), (c.NotWhole, false), (c.BadRows, false), (c.OtherParts, false), (c.NothingBehind, false), (c.NothingToUndo, false), (c.InvalidCommand, false), (c.NoFrame, false), (c.BadCommand, true), (c.NothingKnown, false)] (.exn (ec c i) fs) = some (.bl (decide (i = 10))) :=
  gIsXn_of (lkz (bs := [false, false, false, false, false, false, false, false, false, false, false, true, false]) hd (LL_at c i hi) (by match i, hi with | 0, _ => rfl | 1, _ => rfl | 2, _ => rfl | 3, _ => rfl | 4, _ => rfl | 5, _ => rfl | 6, _ => rfl | 7, _ => rfl | 8, _ => rfl | 9, _ => rfl | 10, _ => rfl | 11, _ => rfl))
theorem is_NothingKnown {i : Nat} (hi : i < 12) (fs : List (Str × D)) : gIsXn [(c.RestError, false), (c.BadScheme, false), (c.BadFrame, false), (c.BadText, false), (c.NotWhole, false), (c.BadRows, false), (c.OtherParts, false), (c.NothingBehind, false), (c.NothingToUndo, false), (c.InvalidCommand, false), (c.NoFrame, false), (c.BadCommand, false), (c.NothingKnown, true)] (.exn (ec c i) fs) = some (.bl (decide (i = 11))) :=
  gIsXn_of (lkz (bs := [false, false, false, false, false, false, false, false, false, false, false, false, true]) hd (LL_at c i hi) (by match i, hi with | 0, _ => rfl | 1, _ => rfl | 2, _ => rfl | 3, _ => rfl | 4, _ => rfl | 5, _ => rfl | 6, _ => rfl | 7, _ => rfl | 8, _ => rfl | 9, _ => rfl | 10, _ => rfl | 11, _ => rfl))
theorem is_rest {i : Nat} (hi : i < 12) (fs : List (Str × D)) : gIsXn [(c.RestError, true), (c.BadScheme, true), (c.BadFrame, true), (c.BadText, true), (c.NotWhole, true), (c.BadRows, true), (c.OtherParts, true), (c.NothingBehind, true), (c.NothingToUndo, true), (c.InvalidCommand, true), (c.NoFrame, true), (c.BadCommand, true), (c.NothingKnown, true)] (.exn (ec c i) fs) = some (.bl true) :=
  gIsXn_of (lkz (bs := [true, true, true, true, true, true, true, true, true, true, true, true, true]) hd (LL_at c i hi) (by match i, hi with | 0, _ => rfl | 1, _ => rfl | 2, _ => rfl | 3, _ => rfl | 4, _ => rfl | 5, _ => rfl | 6, _ => rfl | 7, _ => rfl | 8, _ => rfl | 9, _ => rfl | 10, _ => rfl | 11, _ => rfl))
theorem is_none {i : Nat} (hi : i < 12) (fs : List (Str × D)) : gIsXn [(c.RestError, false), (c.BadScheme, false), (c.BadFrame, false), (c.BadText, false), (c.NotWhole, false), (c.BadRows, false), (c.OtherParts, false), (c.NothingBehind, false), (c.NothingToUndo, false), (c.InvalidCommand, false), (c.NoFrame, false), (c.BadCommand, false), (c.NothingKnown, false)] (.exn (ec c i) fs) = some (.bl false) :=
  gIsXn_of (lkz (bs := [false, false, false, false, false, false, false, false, false, false, false, false, false]) hd (LL_at c i hi) (by match i, hi with | 0, _ => rfl | 1, _ => rfl | 2, _ => rfl | 3, _ => rfl | 4, _ => rfl | 5, _ => rfl | 6, _ => rfl | 7, _ => rfl | 8, _ => rfl | 9, _ => rfl | 10, _ => rfl | 11, _ => rfl))
theorem isr_BadScheme (fs : List (Str × D)) : gIsXn [(c.RestError, false), (c.BadScheme, true), (c.BadFrame, false), (c.BadText, false), (c.NotWhole, false), (c.BadRows, false), (c.OtherParts, false), (c.NothingBehind, false), (c.NothingToUndo, false), (c.InvalidCommand, false), (c.NoFrame, false), (c.BadCommand, false), (c.NothingKnown, false)] (.exn c.RestError fs) = some (.bl false) :=
  gIsXn_of (lkz (i := 0) (bs := [false, true, false, false, false, false, false, false, false, false, false, false, false]) hd rfl rfl)
theorem isr_BadFrame (fs : List (Str × D)) : gIsXn [(c.RestError, false), (c.BadScheme, false), (c.BadFrame, true), (c.BadText, false), (c.NotWhole, false), (c.BadRows, false), (c.OtherParts, false), (c.NothingBehind, false), (c.NothingToUndo, false), (c.InvalidCommand, false), (c.NoFrame, false), (c.BadCommand, false), (c.NothingKnown, false)] (.exn c.RestError fs) = some (.bl false) :=
  gIsXn_of (lkz (i := 0) (bs := [false, false, true, false, false, false, false, false, false, false, false, false, false]) hd rfl rfl)
theorem isr_BadText (fs : List (Str × D)) : gIsXn [(c.RestError, false), (c.BadScheme, false), (c.BadFrame, false), (c.BadText, true), (c.NotWhole, false), (c.BadRows, false), (c.OtherParts, false), (c.NothingBehind, false), (c.NothingToUndo, false), (c.InvalidCommand, false), (c.NoFrame, false), (c.BadCommand, false), (c.NothingKnown, false)] (.exn c.RestError fs) = some (.bl false) :=
  gIsXn_of (lkz (i := 0) (bs := [false, false, false, true, false, false, false, false, false, false, false, false, false]) hd rfl rfl)
theorem isr_NotWhole (fs : List (Str × D)) : gIsXn [(c.RestError, false), (c.BadScheme, false), (c.BadFrame, false), (c.BadText, false), (c.NotWhole, true), (c.BadRows, false), (c.OtherParts, false), (c.NothingBehind, false), (c.NothingToUndo, false), (c.InvalidCommand, false), (c.NoFrame, false), (c.BadCommand, false), (c.NothingKnown, false)] (.exn c.RestError fs) = some (.bl false) :=
  gIsXn_of (lkz (i := 0) (bs := [false, false, false, false, true, false, false, false, false, false, false, false, false]) hd rfl rfl)
theorem isr_BadRows (fs : List (Str × D)) : gIsXn [(c.RestError, false), (c.BadScheme, false), (c.BadFrame, false), (c.BadText, false), (c.NotWhole, false), (c.BadRows, true), (c.OtherParts, false), (c.NothingBehind, false), (c.NothingToUndo, false), (c.InvalidCommand, false), (c.NoFrame, false), (c.BadCommand, false), (c.NothingKnown, false)] (.exn c.RestError fs) = some (.bl false) :=
  gIsXn_of (lkz (i := 0) (bs := [false, false, false, false, false, true, false, false, false, false, false, false, false]) hd rfl rfl)
theorem isr_OtherParts (fs : List (Str × D)) : gIsXn [(c.RestError, false), (c.BadScheme, false), (c.BadFrame, false), (c.BadText, false), (c.NotWhole, false), (c.BadRows, false), (c.OtherParts, true), (c.NothingBehind, false), (c.NothingToUndo, false), (c.InvalidCommand, false), (c.NoFrame, false), (c.BadCommand, false), (c.NothingKnown, false)] (.exn c.RestError fs) = some (.bl false) :=
  gIsXn_of (lkz (i := 0) (bs := [false, false, false, false, false, false, true, false, false, false, false, false, false]) hd rfl rfl)
theorem isr_NothingBehind (fs : List (Str × D)) : gIsXn [(c.RestError, false), (c.BadScheme, false), (c.BadFrame, false), (c.BadText, false), (c.NotWhole, false), (c.BadRows, false), (c.OtherParts, false), (c.NothingBehind, true), (c.NothingToUndo, false), (c.InvalidCommand, false), (c.NoFrame, false), (c.BadCommand, false), (c.NothingKnown, false)] (.exn c.RestError fs) = some (.bl false) :=
  gIsXn_of (lkz (i := 0) (bs := [false, false, false, false, false, false, false, true, false, false, false, false, false]) hd rfl rfl)
theorem isr_NothingToUndo (fs : List (Str × D)) : gIsXn [(c.RestError, false), (c.BadScheme, false), (c.BadFrame, false), (c.BadText, false), (c.NotWhole, false), (c.BadRows, false), (c.OtherParts, false), (c.NothingBehind, false), (c.NothingToUndo, true), (c.InvalidCommand, false), (c.NoFrame, false), (c.BadCommand, false), (c.NothingKnown, false)] (.exn c.RestError fs) = some (.bl false) :=
  gIsXn_of (lkz (i := 0) (bs := [false, false, false, false, false, false, false, false, true, false, false, false, false]) hd rfl rfl)
theorem isr_InvalidCommand (fs : List (Str × D)) : gIsXn [(c.RestError, false), (c.BadScheme, false), (c.BadFrame, false), (c.BadText, false), (c.NotWhole, false), (c.BadRows, false), (c.OtherParts, false), (c.NothingBehind, false), (c.NothingToUndo, false), (c.InvalidCommand, true), (c.NoFrame, false), (c.BadCommand, false), (c.NothingKnown, false)] (.exn c.RestError fs) = some (.bl false) :=
  gIsXn_of (lkz (i := 0) (bs := [false, false, false, false, false, false, false, false, false, true, false, false, false]) hd rfl rfl)
theorem isr_NoFrame (fs : List (Str × D)) : gIsXn [(c.RestError, false), (c.BadScheme, false), (c.BadFrame, false), (c.BadText, false), (c.NotWhole, false), (c.BadRows, false), (c.OtherParts, false), (c.NothingBehind, false), (c.NothingToUndo, false), (c.InvalidCommand, false), (c.NoFrame, true), (c.BadCommand, false), (c.NothingKnown, false)] (.exn c.RestError fs) = some (.bl false) :=
  gIsXn_of (lkz (i := 0) (bs := [false, false, false, false, false, false, false, false, false, false, true, false, false]) hd rfl rfl)
theorem isr_BadCommand (fs : List (Str × D)) : gIsXn [(c.RestError, false), (c.BadScheme, false), (c.BadFrame, false), (c.BadText, false), (c.NotWhole, false), (c.BadRows, false), (c.OtherParts, false), (c.NothingBehind, false), (c.NothingToUndo, false), (c.InvalidCommand, false), (c.NoFrame, false), (c.BadCommand, true), (c.NothingKnown, false)] (.exn c.RestError fs) = some (.bl false) :=
  gIsXn_of (lkz (i := 0) (bs := [false, false, false, false, false, false, false, false, false, false, false, true, false]) hd rfl rfl)
theorem isr_NothingKnown (fs : List (Str × D)) : gIsXn [(c.RestError, false), (c.BadScheme, false), (c.BadFrame, false), (c.BadText, false), (c.NotWhole, false), (c.BadRows, false), (c.OtherParts, false), (c.NothingBehind, false), (c.NothingToUndo, false), (c.InvalidCommand, false), (c.NoFrame, false), (c.BadCommand, false), (c.NothingKnown, true)] (.exn c.RestError fs) = some (.bl false) :=
  gIsXn_of (lkz (i := 0) (bs := [false, false, false, false, false, false, false, false, false, false, false, false, true]) hd rfl rfl)
end
theorem in015 (i : Nat) : gInQ false (.int i) (.tup [.int 0, .int 1, .int 5]) = some (.bl (decide (i = 0 ∨ i = 1 ∨ i = 5))) := by
  have h := Enc.int.gIn_tup false (i : Int) [0, 1, 5]
  have e : ([(0 : Int), 1, 5].map D.int) = [.int 0, .int 1, .int 5] := rfl
  rw [e] at h
  rw [h]
  congr 2
  simp only [List.mem_cons, List.not_mem_nil, or_false, Bool.false_eq_true, if_false]
  congr 1
  apply propext
  omega
theorem m_kept_ok (c : CA) {i : Nat} (hi : i < 12) (d : D) : m__law_kept c [.int i, .exn (ec c i) (ef d i)] = .ok (.lst (if i < 7 then [d] else [])) := by
  unfold m__law_kept
  apply runP_ok
  unfold b__law_kept
  have h := in015 i
  match i, hi with
  | 0, _ | 1, _ | 2, _ | 3, _ | 4, _ | 5, _ | 6, _ | 7, _ | 8, _ | 9, _ | 10, _ | 11, _ =>
    simp at h
    simp [small_ok, h, ec, ef, List.lookup]
  | n + 12, h => exact absurd h (by omega)
theorem m_made_ok (c : CA) {i : Nat} (hi : i < 12) (d : D) : m__law_made c [.int i, d] = .ok (.lst [.exn (ec c i) (ef d i), .exn (ec c i) (ef d i)]) := by
  unfold m__law_made
  apply runP_ok
  unfold b__law_made
  match i, hi with
  | 0, _ => simp [small_ok, ec, ef]
  | 1, _ | 2, _ | 3, _ | 4, _ | 5, _ | 6, _ => simp [small_ok, ec, ef]
  | 7, _ | 8, _ | 9, _ | 10, _ | 11, _ => simp [small_ok, gAdd_lst, ec, ef]
  | n + 12, h => exact absurd h (by omega)
theorem filt_one : ∀ i < 12, ((List.range 12).filter fun j => decide (i = j)) = [i] := by decide +kernel
theorem comp_kinds (e : Cell) (i : Nat) (hi : i < 12) : compL [2] (gN 2) (tB (eOp gIx (eV 1) (eV 2))) (eV 2) [e, .dat (.lst [D.bl (decide (i = 0)), D.bl (decide (i = 1)), D.bl (decide (i = 2)), D.bl (decide (i = 3)), D.bl (decide (i = 4)), D.bl (decide (i = 5)), D.bl (decide (i = 6)), D.bl (decide (i = 7)), D.bl (decide (i = 8)), D.bl (decide (i = 9)), D.bl (decide (i = 10)), D.bl (decide (i = 11))]), .no] (rgD 0 12) [] [e, .dat (.lst [D.bl (decide (i = 0)), D.bl (decide (i = 1)), D.bl (decide (i = 2)), D.bl (decide (i = 3)), D.bl (decide (i = 4)), D.bl (decide (i = 5)), D.bl (decide (i = 6)), D.bl (decide (i = 7)), D.bl (decide (i = 8)), D.bl (decide (i = 9)), D.bl (decide (i = 10)), D.bl (decide (i = 11))]), .no] = .ok (.lst [.int i], [e, .dat (.lst [D.bl (decide (i = 0)), D.bl (decide (i = 1)), D.bl (decide (i = 2)), D.bl (decide (i = 3)), D.bl (decide (i = 4)), D.bl (decide (i = 5)), D.bl (decide (i = 6)), D.bl (decide (i = 7)), D.bl (decide (i = 8)), D.bl (decide (i = 9)), D.bl (decide (i = 10)), D.bl (decide (i = 11))]), .no]) := by
  have eL : [D.bl (decide (i = 0)), D.bl (decide (i = 1)), D.bl (decide (i = 2)), D.bl (decide (i = 3)), D.bl (decide (i = 4)), D.bl (decide (i = 5)), D.bl (decide (i = 6)), D.bl (decide (i = 7)), D.bl (decide (i = 8)), D.bl (decide (i = 9)), D.bl (decide (i = 10)), D.bl (decide (i = 11))] = (List.range 12).map fun j => D.bl (decide (i = j)) := by simp [List.range, List.range.loop]
  have er : rgD 0 12 = (List.range 12).map fun j : Nat => D.int j := rgD_map 12
  rw [eL, er]
  have hc := compL_map (vs := [2]) (g := gN 2) (fc := tB (eOp gIx (eV 1) (eV 2))) (fe := eV 2) (E0 := [e, .dat (.lst ((List.range 12).map fun j => D.bl (decide (i = j)))), .no]) (E := [e, .dat (.lst ((List.range 12).map fun j => D.bl (decide (i = j)))), .no])
    (fun j : Nat => D.int j) (fun j => [e, .dat (.lst ((List.range 12).map fun j => D.bl (decide (i = j)))), .dat (.int j)]) (fun j => decide (i = j)) (fun j : Nat => D.int j) (List.range 12) (fun j hj => by
      have hj := List.mem_range.mp hj
      have hx : gIx (.lst ((List.range 12).map fun j => D.bl (decide (i = j)))) (.int j) = some (.bl (decide (i = j))) := by
        rw [gIx_lst_nat, List.getElem?_map, List.getElem?_range hj]; rfl
      refine ⟨rfl, ?_, fun _ => rfl, rfl⟩
      simp [hx]) []
  rw [hc]
  rw [filt_one i hi]; rfl
section
variable {c : CA} (hd : (LL c).Nodup)
include hd
theorem m_usual_ok {i : Nat} (hi : i < 12) (fs : List (Str × D)) : m__law_is_usual c [.exn (ec c i) fs] = .ok (.bl false) := by
  unfold m__law_is_usual
  apply runP_ok
  unfold b__law_is_usual
  have h := is_none hd hi fs
  have hin : gInQ false (.bl true) (.lst [.bl false, .bl false, .bl false, .bl false, .bl false]) = some (.bl false) := rfl
  simp [small_ok, gAdd_lst, h, hin]
theorem m_kinds_ok {i : Nat} (hi : i < 12) (fs : List (Str × D)) : m__law_kinds c [.exn (ec c i) fs] = .ok (.lst [.int i]) := by
  unfold m__law_kinds
  apply runP_ok
  unfold b__law_kinds
  have h0 := is_BadScheme hd hi fs
  have h1 := is_BadFrame hd hi fs
  have h2 := is_BadText hd hi fs
  have h3 := is_NotWhole hd hi fs
  have h4 := is_BadRows hd hi fs
  have h5 := is_OtherParts hd hi fs
  have h6 := is_NothingBehind hd hi fs
  have h7 := is_NothingToUndo hd hi fs
  have h8 := is_InvalidCommand hd hi fs
  have h9 := is_NoFrame hd hi fs
  have h10 := is_BadCommand hd hi fs
  have h11 := is_NothingKnown hd hi fs
  simp [small_ok, gAdd_lst, h0, h1, h2, h3, h4, h5, h6, h7, h8, h9, h10, h11, comp_kinds _ i hi]
end
theorem m_raised_ok (c : CA) {i : Nat} (hi : i < 7) (d : D) : m__law_raised c [.int i, d] = .err ⟨ec c i, ef d i⟩ [] := by
  unfold m__law_raised
  refine runP_ox (.inr ⟨ec c i, ef d i⟩) ?_
  unfold b__law_raised
  match i, hi with
  | 0, _ | 1, _ | 2, _ | 3, _ | 4, _ | 5, _ | 6, _ => simp [ec, ef]
  | n + 7, h => exact absurd h (by omega)
theorem m_caught_ok {c : CA} (hd : (LL c).Nodup) {i : Nat} (hi : i < 12) (d : D) : m__law_caught c [.int i, d] = .ok (.lst [.lst [.int i], .lst (if i < 7 then [d] else [])]) := by
  unfold m__law_caught
  apply runP_ok
  unfold b__law_caught
  have hk := m_kinds_ok hd hi (ef d i)
  have hp := m_kept_ok c hi d
  have hr := fun h : i < 7 => m_raised_ok c h d
  match i, hi with
  | 0, _ | 1, _ | 2, _ | 3, _ | 4, _ | 5, _ | 6, _ =>
    have hr := hr (by decide)
    simp [ec, ef] at hk hp hr
    simp [small_ok, ec, ef, hk, hp, hr]
  | 7, _ | 8, _ | 9, _ | 10, _ | 11, _ =>
    simp [ec, ef] at hk hp
    simp [small_ok, ec, ef, hk, hp]
  | n + 12, h => exact absurd h (by omega)
/-- the law's values -/
def L16 : List D := [.int 0, .int (-1), .int (10 ^ 39), .bl true, .bl false, .non, .str "", .str "columns", .str (mulC 97 99), .tup [], .lst [], .dic [], .tup [.int 0, .int 1], .tup [.str "", .str "a"], .lst [.lst []], .dic [(.inr "a", .int 1)]]
theorem L16_rp : (L16.all fun d => okShowF (.lst [d]) && (List.range 12).all fun i => okShowF (.lst [.lst [.int i], .lst [d]])) = true := by decide +kernel
theorem m_pick_ok {α : Type} (c : CA) (a q : Addr) (l : List Int) (b : Int) (d : D) (L : List α) (f : α → D) (hlen : gLen [d] = some (.int L.length)) (hix : ∀ i : Nat, gIx d (.int i) = (L[i]?).map f) (hne : L ≠ []) (hL : L.length ≤ 1000) (hl : l.length ≤ 63) :
    ∃ x ∈ L, ∃ l' b', m__law_pick c a q ⟨l, b⟩ [d] = .ok (f x, ⟨l', b'⟩) ∧ l'.length ≤ 63 := by
  have h0 : 0 < L.length := List.length_pos_iff.mpr hne
  obtain ⟨v, l', b', e, hv, hl'⟩ := draw_ok a q l b L.length (by omega) (by omega) hl
  have hv : v < L.length := by omega
  refine ⟨L[v], List.getElem_mem hv, l', b', ?_, hl'⟩
  refine runK_eq (E := [.dat d]) ?_
  unfold b__law_pick
  simp [m__law_draw, hlen, e, hix, hv]
theorem m_pick_lst {α : Type} (c : CA) (a q : Addr) (l : List Int) (b : Int) (L : List α) (f : α → D) (hne : L ≠ []) (hL : L.length ≤ 1000) (hl : l.length ≤ 63) :
    ∃ x ∈ L, ∃ l' b', m__law_pick c a q ⟨l, b⟩ [.lst (L.map f)] = .ok (f x, ⟨l', b'⟩) ∧ l'.length ≤ 63 :=
  m_pick_ok c a q l b _ L f (by simp [gLen]) (fun i => by rw [gIx_lst_nat, List.getElem?_map]) hne hL hl
theorem ne_lst (i : Nat) : gNe (.lst [.int i]) (.lst [.int i]) = some (.bl false) := by
  have h := (Enc.int.lst).gNe [(i : Int)] [(i : Int)]
  simpa using h
theorem ne_1122 : gNe (.lst [.lst [.int 1], .lst [.int 1], .lst [.int 2], .lst [.int 2]]) (.lst [.lst [.int 1], .lst [.int 1], .lst [.int 2], .lst [.int 2]]) = some (.bl false) := by
  have h := (Enc.int.lst.lst).gNe [[(1 : Int)], [1], [2], [2]] [[(1 : Int)], [1], [2], [2]]
  simpa using h
theorem reprF_ok {d : D} (h : okShowF d = true) : gReprF [d] = some (.str d.py.shown) := if_pos h
/-- what is shown of the values -/
theorem shows {d : D} (hd : d ∈ L16) {i : Nat} (hi : i < 12) : (∃ s, gReprF [.lst (if i < 7 then [d] else [])] = some (.str s)) ∧ ∃ s, gReprF [.lst [.lst [.int i], .lst (if i < 7 then [d] else [])]] = some (.str s) := by
  have h := List.all_eq_true.mp L16_rp d hd
  rw [Bool.and_eq_true] at h
  have h2 := List.all_eq_true.mp h.2 i (List.mem_range.mpr hi)
  by_cases h7 : i < 7
  · rw [if_pos h7]
    exact ⟨⟨_, reprF_ok h.1⟩, ⟨_, reprF_ok h2⟩⟩
  · rw [if_neg h7]
    have h3 : ((List.range 12).all fun i => okShowF (.lst [.lst [.int i], .lst []])) = true := by decide +kernel
    exact ⟨⟨_, reprF_ok (by decide +kernel)⟩, ⟨_, reprF_ok (List.all_eq_true.mp h3 i (List.mem_range.mpr hi))⟩⟩
theorem comp_rest (e : Cell) : compL [2] (gN 2) (tB (eOp gIx (eV 1) (eV 2))) (eV 2) [e, .dat (.lst [D.bl false, D.bl false, D.bl false, D.bl false, D.bl false, D.bl false, D.bl false, D.bl false, D.bl false, D.bl false, D.bl false, D.bl false]), .no] (rgD 0 12) [] [e, .dat (.lst [D.bl false, D.bl false, D.bl false, D.bl false, D.bl false, D.bl false, D.bl false, D.bl false, D.bl false, D.bl false, D.bl false, D.bl false]), .no] = .ok (.lst [], [e, .dat (.lst [D.bl false, D.bl false, D.bl false, D.bl false, D.bl false, D.bl false, D.bl false, D.bl false, D.bl false, D.bl false, D.bl false, D.bl false]), .no]) := by
  have eL : [D.bl false, D.bl false, D.bl false, D.bl false, D.bl false, D.bl false, D.bl false, D.bl false, D.bl false, D.bl false, D.bl false, D.bl false] = (List.range 12).map fun _ => D.bl false := by simp [List.range, List.range.loop]
  rw [eL, rgD_map 12]
  have hc := compL_map (vs := [2]) (g := gN 2) (fc := tB (eOp gIx (eV 1) (eV 2))) (fe := eV 2) (E0 := [e, .dat (.lst ((List.range 12).map fun _ => D.bl false)), .no]) (E := [e, .dat (.lst ((List.range 12).map fun _ => D.bl false)), .no])
    (fun j : Nat => D.int j) (fun j => [e, .dat (.lst ((List.range 12).map fun _ => D.bl false)), .dat (.int j)]) (fun _ => false) (fun j : Nat => D.int j) (List.range 12) (fun j hj => by
      have hj := List.mem_range.mp hj
      have hx : gIx (.lst ((List.range 12).map fun _ => D.bl false)) (.int j) = some (.bl false) := by
        rw [gIx_lst_nat, List.getElem?_map, List.getElem?_range hj]; rfl
      refine ⟨rfl, ?_, (fun z => by cases z), rfl⟩
      simp [hx]) []
  rw [hc]
  have hf : (List.range 12).filter (fun _ => false) = [] := List.filter_eq_nil_iff.mpr fun _ _ => by simp
  rw [hf]; rfl
section
variable {c : CA} (hd : (LL c).Nodup)
include hd
theorem m_kinds_rest : m__law_kinds c [.exn c.RestError []] = .ok (.lst []) := by
  unfold m__law_kinds
  apply runP_ok
  unfold b__law_kinds
  have h0 := isr_BadScheme hd []
  have h1 := isr_BadFrame hd []
  have h2 := isr_BadText hd []
  have h3 := isr_NotWhole hd []
  have h4 := isr_BadRows hd []
  have h5 := isr_OtherParts hd []
  have h6 := isr_NothingBehind hd []
  have h7 := isr_NothingToUndo hd []
  have h8 := isr_InvalidCommand hd []
  have h9 := isr_NoFrame hd []
  have h10 := isr_BadCommand hd []
  have h11 := isr_NothingKnown hd []
  simp [small_ok, gAdd_lst, h0, h1, h2, h3, h4, h5, h6, h7, h8, h9, h10, h11, comp_rest]
theorem turn_ok (p q : Addr) (l : List Int) (b : Int) (hl : l.length ≤ 63) {i : Nat} (hi : i < 12) (x4 x5 x6 x7 x8 x9 : Cell) (p7 : pl x7) :
    Ok ((sSeq (sSet 5 (eK 1 1 (m__law_pick c) (aC (eV 2) aN)))
  (sSeq (sSet 6 (eIf (tB (eOp gLt (eV 3) (eC (.int 7)))) (eN (nLst (aC (eV 5) aN))) (eN nNil)))
  (sSeq (sFor (iSq (eF 2 (m__law_made c) (aC (eV 3) (aC (eV 5) aN)))) (gN 7)
  (sSeq (sIf (tOr' (tNt (tB (eIsXn [(c.RestError, true), (c.BadScheme, true), (c.BadFrame, true), (c.BadText, true), (c.NotWhole, true), (c.BadRows, true), (c.OtherParts, true), (c.NothingBehind, true), (c.NothingToUndo, true), (c.InvalidCommand, true), (c.NoFrame, true), (c.BadCommand, true), (c.NothingKnown, true)] (eV 7)))) (tOr' (tNt (tB (eIsXn [(c.RestError, true), (c.BadScheme, true), (c.BadFrame, true), (c.BadText, true), (c.NotWhole, true), (c.BadRows, true), (c.OtherParts, true), (c.NothingBehind, true), (c.NothingToUndo, true), (c.InvalidCommand, true), (c.NoFrame, true), (c.BadCommand, true), (c.NothingKnown, true)] (eV 7)))) (tB (eOp gNe (eF 1 (m__law_kinds c) (aC (eV 7) aN)) (eN (nLst (aC (eV 3) aN))))))) (sRet (eC (.bl false))) sNx)
  (sIf (tOr' (tB (eOp gNe (eCall gReprF (aC (eF 2 (m__law_kept c) (aC (eV 3) (aC (eV 7) aN))) aN)) (eCall gReprF (aC (eV 6) aN)))) (tB (eF 1 (m__law_is_usual c) (aC (eV 7) aN)))) (sRet (eC (.bl false))) sNx)))
  (sIf (tB (eOp gNe (eCall gReprF (aC (eF 2 (m__law_caught c) (aC (eV 3) (aC (eV 5) aN))) aN)) (eCall gReprF (aC (eN (nLst (aC (eN (nLst (aC (eV 3) aN))) (aC (eV 6) aN)))) aN)))) (sRet (eC (.bl false))) sNx)))) [.no, .deck p q l b, .dat (.lst L16), .dat (.int i), x4, x5, x6, x7, x8, x9]) fun r => r.1 = .nx ∧ ∃ l' b' y5 y6 y7, r.2 = [.no, .deck p q l' b', .dat (.lst L16), .dat (.int i), x4, y5, y6, y7, x8, x9] ∧ l'.length ≤ 63 ∧ pl y7 := by
  obtain ⟨x, hx, l', b', e, hl'⟩ := m_pick_lst c p q l b L16 id (by decide) (by decide) hl
  rw [List.map_id] at e
  obtain ⟨⟨s1, h1⟩, ⟨s2, h2⟩⟩ := shows hx hi
  have hk := m_kinds_ok hd hi (ef x i)
  have hp := m_kept_ok c hi x
  have hu := m_usual_ok hd hi (ef x i)
  have hm := m_made_ok c hi x
  have hc := m_caught_ok hd hi x
  have hr := is_rest hd hi (ef x i)
  have hn := ne_lst i
  refine seq_eq (E' := [.no, .deck p q l' b', .dat (.lst L16), .dat (.int i), x4, .dat x, x6, x7, x8, x9]) (by simp [e]) ?_
  refine seq_eq (E' := [.no, .deck p q l' b', .dat (.lst L16), .dat (.int i), x4, .dat x, .dat (.lst (if i < 7 then [x] else [])), x7, x8, x9]) (by
    by_cases h7 : i < 7
    · have : ((i : Nat) : Int) < 7 := by omega
      simp [h7, this, small_ok]
    · have : ¬ ((i : Nat) : Int) < 7 := by omega
      simp [h7, this, small_ok]) ?_
  generalize (if i < 7 then [x] else []) = ks at *
  refine seq_all (fun _ : Nat => D.exn (ec c i) (ef x i)) (fun E => ∃ y7, E = [.no, .deck p q l' b', .dat (.lst L16), .dat (.int i), x4, .dat x, .dat (.lst ks), y7, x8, x9] ∧ pl y7) [0, 1] (E' := [.no, .deck p q l' b', .dat (.lst L16), .dat (.int i), x4, .dat x, .dat (.lst ks), x7, x8, x9]) (by simp [hm]) ⟨x7, rfl, p7⟩ ?_ ?_
  · rintro j _ _ ⟨y7, rfl, _⟩
    refine ⟨_, rfl, ?_⟩
    simp [hr, hk, hp, hu, hn, h1, small_ok, gNe_same, pl, plainC]
  · rintro _ ⟨y7, rfl, hy⟩
    simp [hc, h2, small_ok, gNe_same]
    exact ⟨_, _, _, _, _, ⟨⟨rfl, rfl⟩, rfl, rfl, rfl⟩, hl', hy⟩
/-- two at a time -/
theorem two_ok {i : Nat} (hi : i < 7) (e0 e1 e2 x4 x5 x6 x7 x8 x9 : Cell) (p7 : pl x7) :
    Ok ((sSeq (sPar [8, 9] [.e (eF 2 (m__law_made c) (aC (eV 3) (aC (eC (.int 1)) aN))), .e (eF 2 (m__law_made c) (aC (eV 3) (aC (eC (.int 2)) aN)))])
  (sIf (tB (eOp gNe (eN (nComp [7] (iSq (eOp gAdd (eV 8) (eV 9))) (gN 7) tYes' (eF 2 (m__law_kept c) (aC (eV 3) (aC (eV 7) aN))))) (eN (nLst (aC (eN (nLst (aC (eC (.int 1)) aN))) (aC (eN (nLst (aC (eC (.int 1)) aN))) (aC (eN (nLst (aC (eC (.int 2)) aN))) (aC (eN (nLst (aC (eC (.int 2)) aN))) aN)))))))) (sRet (eC (.bl false))) sNx)) [e0, e1, e2, .dat (.int i), x4, x5, x6, x7, x8, x9]) fun r => r.1 = .nx ∧ ∃ y8 y9, r.2 = [e0, e1, e2, .dat (.int i), x4, x5, x6, x7, y8, y9] := by
  have h12 : i < 12 := by omega
  have hm1 := m_made_ok c h12 (.int 1)
  have hm2 := m_made_ok c h12 (.int 2)
  have hp1 := m_kept_ok c h12 (.int 1)
  have hp2 := m_kept_ok c h12 (.int 2)
  rw [if_pos hi] at hp1 hp2
  have hn := ne_1122
  have hadd : gAdd (.lst [.exn (ec c i) (ef (.int 1) i), .exn (ec c i) (ef (.int 1) i)]) (.lst [.exn (ec c i) (ef (.int 2) i), .exn (ec c i) (ef (.int 2) i)]) = some (.lst ([1, 1, 2, 2].map fun k : Int => D.exn (ec c i) (ef (.int k) i))) := gAdd_lst _ _ (by simp)
  refine seq_eq (E' := [e0, e1, e2, .dat (.int i), x4, x5, x6, x7, .dat (.lst [.exn (ec c i) (ef (.int 1) i), .exn (ec c i) (ef (.int 1) i)]), .dat (.lst [.exn (ec c i) (ef (.int 2) i), .exn (ec c i) (ef (.int 2) i)])]) (by simp [hm1, hm2]) ?_
  unfold pl at p7
  simp [hadd, p7, hp1, hp2, hn, small_ok, -compL_res']
  done
end
theorem math_law (c : CA) (hd : [c.RestError, c.BadScheme, c.BadFrame, c.BadText, c.NotWhole, c.BadRows, c.OtherParts, c.NothingBehind, c.NothingToUndo, c.InvalidCommand, c.NoFrame, c.BadCommand, c.NothingKnown].Nodup) (p q : Addr) (l : List Int) (b : Int) (hl : l.length ≤ 63) : ∃ E, b_law c (.no :: .deck p q l b :: nos 8) = .ok (.rt (.bl true), E) := by
  suffices h : Ok (b_law c (.no :: .deck p q l b :: nos 8)) fun r => r.1 = .rt (.bl true) by
    obtain ⟨⟨f, E⟩, e, h⟩ := h
    dsimp only at h
    subst h
    exact ⟨E, e⟩
  have hd : (LL c).Nodup := hd
  have g1 : gPow (.int 10) (.int 39) = some (.int (10 ^ 39)) := rfl
  have g2 : gMulS (.str "a") (.int 99) = some (.str (mulC 97 99)) := rfl
  have g3 : gNeg (.int 1) = some (.int (-1)) := rfl
  have g4 : mergeM [] [((Sum.inr "a" : Key), D.int 1)] = ([((Sum.inr "a" : Key), D.int 1)] : List (Key × D)) := by simp [mergeM, putM]
  unfold b_law
  refine seq_eq (E' := [.no, .deck p q l b, .dat (.lst L16), .no, .no, .no, .no, .no, .no, .no]) (by simp [small_ok, g1, g2, g3, g4, L16]) ?_
  refine seq_all (fun i : Nat => D.int i) (fun E => ∃ l b x3 x4 x5 x6 x7, E = [.no, .deck p q l b, .dat (.lst L16), x3, x4, x5, x6, x7, .no, .no] ∧ l.length ≤ 63 ∧ pl x7) (List.range 12) (E' := [.no, .deck p q l b, .dat (.lst L16), .no, .no, .no, .no, .no, .no, .no]) (by simp [rgD_map]) ⟨l, b, _, _, _, _, _, rfl, hl, rfl⟩ ?_ ?_
  · rintro i hi _ ⟨l, b, x3, x4, x5, x6, x7, rfl, hl, p7⟩
    have hi := List.mem_range.mp hi
    refine ⟨_, rfl, ?_⟩
    refine for_all (fun i : Nat => D.int i) (fun E => ∃ l b x4 x5 x6 x7, E = [.no, .deck p q l b, .dat (.lst L16), .dat (.int i), x4, x5, x6, x7, .no, .no] ∧ l.length ≤ 63 ∧ pl x7) (List.range 6) (E' := [.no, .deck p q l b, .dat (.lst L16), .dat (.int i), x4, x5, x6, x7, .no, .no]) (by simp [rgD_map]) ⟨l, b, _, _, _, _, rfl, hl, p7⟩ ?_ ?_
    · rintro j _ _ ⟨l, b, x4, x5, x6, x7, rfl, hl, p7⟩
      refine ⟨_, rfl, ?_⟩
      refine (turn_ok hd p q l b hl hi (.dat (.int j)) x5 x6 x7 .no .no p7).mono ?_
      rintro ⟨f, E⟩ ⟨e1, l', b', y5, y6, y7, e2, hl', p7'⟩
      exact ⟨.inl e1, l', b', _, y5, y6, y7, e2, hl', p7'⟩
    · rintro _ ⟨l, b, x4, x5, x6, x7, rfl, hl, p7⟩
      exact ⟨.inl rfl, l, b, _, x4, x5, x6, x7, rfl, hl, p7⟩
  · rintro _ ⟨l, b, x3, x4, x5, x6, x7, rfl, hl, p7⟩
    refine seq_all (fun i : Nat => D.int i) (fun E => ∃ x3 x8 x9, E = [.no, .deck p q l b, .dat (.lst L16), x3, x4, x5, x6, x7, x8, x9]) (List.range 7) (E' := [.no, .deck p q l b, .dat (.lst L16), x3, x4, x5, x6, x7, .no, .no]) (by simp [rgD_map]) ⟨_, _, _, rfl⟩ ?_ ?_
    · rintro i hi _ ⟨x3, x8, x9, rfl⟩
      have hi := List.mem_range.mp hi
      refine ⟨_, rfl, ?_⟩
      refine (two_ok hd hi .no (.deck p q l b) (.dat (.lst L16)) x4 x5 x6 x7 x8 x9 p7).mono ?_
      rintro ⟨f, E⟩ ⟨e1, y8, y9, e2⟩
      exact ⟨.inl e1, _, y8, y9, e2⟩
    · rintro _ ⟨x3, x8, x9, rfl⟩
      have hk := m_kinds_rest hd
      have he : gEq (.lst []) (.lst []) = some (.bl true) := rfl
      simp [hk, he]
end DL
open PySem PySem.W PyProof.Rows in
set_option maxRecDepth 100000 in
set_option maxHeartbeats 0 in
theorem PySem.Challenge.cw_restbehind_k01_errors_holds : PySem.Challenge.rw_restbehind_k01_errors.Holds := by
  w_on; o_law; k_head; (case hw => w_witness2)
  k_fill
  refine DL.walk_G (l := PySem.Challenge.rw_restbehind_k01_errors) (n := 63) (k := 4) (x := "_law_script") (sp := fun w => DL.spLaw _) rfl (by decide) rfl ⟨rfl, by decide, by decide⟩ (fun w h Y => PySem.W.kIn_of Y) ?F (fun _ _ a ns hl hS => ⟨a, ns, rfl, hS, hl, fun _ => rfl⟩)
  case F =>
    intro w mg fa h KX G hmg
    refine' DL.all_mk KX G hmg ?aC_BadCommand ?aC_BadFrame ?aC_BadRows ?aC_BadScheme ?aC_BadText ?aC_InvalidCommand ?aC_NoFrame ?aC_NotWhole ?aC_NothingBehind ?aC_NothingKnown ?aC_NothingToUndo ?aC_OtherParts ?aC_RestError ?a__law_draw ?l__law_draw ?q__law_draw ?k__law_draw ?a__law_deck ?l__law_deck ?q__law_deck ?k__law_deck ?a__law_pick ?l__law_pick ?q__law_pick ?k__law_pick ?a__law_made ?l__law_made ?q__law_made ?k__law_made ?a__law_kinds ?l__law_kinds ?q__law_kinds ?k__law_kinds ?a__law_kept ?l__law_kept ?q__law_kept ?k__law_kept ?a__law_is_usual ?l__law_is_usual ?q__law_is_usual ?k__law_is_usual ?a__law_raised ?l__law_raised ?q__law_raised ?k__law_raised ?a__law_caught ?l__law_caught ?q__law_caught ?k__law_caught ?a_law ?l_law ?q_law ?k_law ?z_int ?z_range ?z_len ?ei_BadFrame ?ov_BadFrame ?xb_BadFrame ?xx_BadFrame ?xy_BadFrame ?kc_BadFrame ?hd_BadFrame ?sa_BadFrame ?xm_BadFrame ?xs_BadFrame ?xth ?xg_BadFrame ?xh_BadFrame ?ia_BadFrame ?ib_BadFrame ?ic_BadFrame ?id_BadFrame ?ie_BadFrame ?if_BadFrame ?ig_BadFrame ?ih_BadFrame ?z_super ?ztop ?n_BadFrame_part ?ei_BadScheme ?ov_BadScheme ?xb_BadScheme ?xx_BadScheme ?xy_BadScheme ?kc_BadScheme ?hd_BadScheme ?sa_BadScheme ?xm_BadScheme ?xs_BadScheme ?xg_BadScheme ?xh_BadScheme ?ia_BadScheme ?ib_BadScheme ?ic_BadScheme ?id_BadScheme ?ie_BadScheme ?if_BadScheme ?ig_BadScheme ?ih_BadScheme ?n_BadScheme_part ?ei_NotWhole ?ov_NotWhole ?xb_NotWhole ?xx_NotWhole ?xy_NotWhole ?kc_NotWhole ?hd_NotWhole ?sa_NotWhole ?xm_NotWhole ?xs_NotWhole ?xg_NotWhole ?xh_NotWhole ?ia_NotWhole ?ib_NotWhole ?ic_NotWhole ?id_NotWhole ?ie_NotWhole ?if_NotWhole ?ig_NotWhole ?ih_NotWhole ?n_NotWhole_tables ?ei_BadText ?ov_BadText ?xb_BadText ?xx_BadText ?xy_BadText ?kc_BadText ?hd_BadText ?sa_BadText ?xm_BadText ?xs_BadText ?xg_BadText ?xh_BadText ?ia_BadText ?ib_BadText ?ic_BadText ?id_BadText ?ie_BadText ?if_BadText ?ig_BadText ?ih_BadText ?n_BadText_place ?ei_OtherParts ?ov_OtherParts ?xb_OtherParts ?xx_OtherParts ?xy_OtherParts ?kc_OtherParts ?hd_OtherParts ?sa_OtherParts ?xm_OtherParts ?xs_OtherParts ?xg_OtherParts ?xh_OtherParts ?ia_OtherParts ?ib_OtherParts ?ic_OtherParts ?id_OtherParts ?ie_OtherParts ?if_OtherParts ?ig_OtherParts ?ih_OtherParts ?n_OtherParts_part ?ei_BadRows ?ov_BadRows ?xb_BadRows ?xx_BadRows ?xy_BadRows ?kc_BadRows ?hd_BadRows ?sa_BadRows ?xm_BadRows ?xs_BadRows ?xg_BadRows ?xh_BadRows ?ia_BadRows ?ib_BadRows ?ic_BadRows ?id_BadRows ?ie_BadRows ?if_BadRows ?ig_BadRows ?ih_BadRows ?n_BadRows_row ?ei_NothingBehind ?ov_NothingBehind ?xb_NothingBehind ?xx_NothingBehind ?xy_NothingBehind ?kc_NothingBehind ?hd_NothingBehind ?sa_NothingBehind ?xm_NothingBehind ?xs_NothingBehind ?xg_NothingBehind ?xh_NothingBehind ?ia_NothingBehind ?ib_NothingBehind ?ic_NothingBehind ?id_NothingBehind ?ie_NothingBehind ?if_NothingBehind ?ig_NothingBehind ?ih_NothingBehind ?n_NothingBehind_steps ?ei_NoFrame ?ov_NoFrame ?xb_NoFrame ?xx_NoFrame ?xy_NoFrame ?kc_NoFrame ?hd_NoFrame ?sa_NoFrame ?xm_NoFrame ?xs_NoFrame ?xg_NoFrame ?xh_NoFrame ?ia_NoFrame ?ib_NoFrame ?ic_NoFrame ?id_NoFrame ?ie_NoFrame ?if_NoFrame ?ig_NoFrame ?ih_NoFrame ?ei_InvalidCommand ?ov_InvalidCommand ?xb_InvalidCommand ?xx_InvalidCommand ?xy_InvalidCommand ?kc_InvalidCommand ?hd_InvalidCommand ?sa_InvalidCommand ?xm_InvalidCommand ?xs_InvalidCommand ?xg_InvalidCommand ?xh_InvalidCommand ?ia_InvalidCommand ?ib_InvalidCommand ?ic_InvalidCommand ?id_InvalidCommand ?ie_InvalidCommand ?if_InvalidCommand ?ig_InvalidCommand ?ih_InvalidCommand ?ei_NothingToUndo ?ov_NothingToUndo ?xb_NothingToUndo ?xx_NothingToUndo ?xy_NothingToUndo ?kc_NothingToUndo ?hd_NothingToUndo ?sa_NothingToUndo ?xm_NothingToUndo ?xs_NothingToUndo ?xg_NothingToUndo ?xh_NothingToUndo ?ia_NothingToUndo ?ib_NothingToUndo ?ic_NothingToUndo ?id_NothingToUndo ?ie_NothingToUndo ?if_NothingToUndo ?ig_NothingToUndo ?ih_NothingToUndo ?ei_NothingKnown ?ov_NothingKnown ?xb_NothingKnown ?xx_NothingKnown ?xy_NothingKnown ?kc_NothingKnown ?hd_NothingKnown ?sa_NothingKnown ?xm_NothingKnown ?xs_NothingKnown ?xg_NothingKnown ?xh_NothingKnown ?ia_NothingKnown ?ib_NothingKnown ?ic_NothingKnown ?id_NothingKnown ?ie_NothingKnown ?if_NothingKnown ?ig_NothingKnown ?ih_NothingKnown ?ei_BadCommand ?ov_BadCommand ?xb_BadCommand ?xx_BadCommand ?xy_BadCommand ?kc_BadCommand ?hd_BadCommand ?sa_BadCommand ?xm_BadCommand ?xs_BadCommand ?xg_BadCommand ?xh_BadCommand ?ia_BadCommand ?ib_BadCommand ?ic_BadCommand ?id_BadCommand ?ie_BadCommand ?if_BadCommand ?ig_BadCommand ?ih_BadCommand ?z_isinstance ?ko_NothingKnown_RestError ?xc_NothingKnown ?jn ?jt ?jm_NothingKnown ?ko_BadCommand_RestError ?xc_BadCommand ?jm_BadCommand ?ko_NoFrame_RestError ?xc_NoFrame ?jm_NoFrame ?ko_InvalidCommand_RestError ?xc_InvalidCommand ?jm_InvalidCommand ?ko_NothingToUndo_RestError ?xc_NothingToUndo ?jm_NothingToUndo ?ko_NothingBehind_RestError ?xc_NothingBehind ?jm_NothingBehind ?ko_OtherParts_RestError ?xc_OtherParts ?jm_OtherParts ?ko_BadRows_RestError ?xc_BadRows ?jm_BadRows ?ko_NotWhole_RestError ?xc_NotWhole ?jm_NotWhole ?ko_BadText_RestError ?xc_BadText ?jm_BadText ?ko_BadFrame_RestError ?xc_BadFrame ?jm_BadFrame ?ko_BadScheme_RestError ?xc_BadScheme ?jm_BadScheme ?ko_RestError_RestError ?ei_RestError ?ov_RestError ?xb_RestError ?xx_RestError ?xy_RestError ?kc_RestError ?hd_RestError ?sa_RestError ?xm_RestError ?xs_RestError ?xg_RestError ?xh_RestError ?xc_RestError ?jm_RestError ?ko_NothingKnown_Exception ?ko_BadCommand_Exception ?ko_NoFrame_Exception ?ko_InvalidCommand_Exception ?ko_NothingToUndo_Exception ?ko_NothingBehind_Exception ?ko_OtherParts_Exception ?ko_BadRows_Exception ?ko_NotWhole_Exception ?ko_BadText_Exception ?ko_BadFrame_Exception ?ko_BadScheme_Exception ?ko_RestError_Exception ?z_Exception ?ko_NothingKnown_NotWhole ?ko_BadCommand_NotWhole ?ko_NoFrame_NotWhole ?ko_InvalidCommand_NotWhole ?ko_NothingToUndo_NotWhole ?ko_NothingBehind_NotWhole ?ko_OtherParts_NotWhole ?ko_BadRows_NotWhole ?ko_NotWhole_NotWhole ?ko_BadText_NotWhole ?ko_BadFrame_NotWhole ?ko_BadScheme_NotWhole ?ko_RestError_NotWhole ?ko_NothingKnown_BadText ?ko_BadCommand_BadText ?ko_NoFrame_BadText ?ko_InvalidCommand_BadText ?ko_NothingToUndo_BadText ?ko_NothingBehind_BadText ?ko_OtherParts_BadText ?ko_BadRows_BadText ?ko_NotWhole_BadText ?ko_BadText_BadText ?ko_BadFrame_BadText ?ko_BadScheme_BadText ?ko_RestError_BadText ?ko_NothingKnown_BadFrame ?ko_BadCommand_BadFrame ?ko_NoFrame_BadFrame ?ko_InvalidCommand_BadFrame ?ko_NothingToUndo_BadFrame ?ko_NothingBehind_BadFrame ?ko_OtherParts_BadFrame ?ko_BadRows_BadFrame ?ko_NotWhole_BadFrame ?ko_BadText_BadFrame ?ko_BadFrame_BadFrame ?ko_BadScheme_BadFrame ?ko_RestError_BadFrame ?ko_NothingKnown_BadScheme ?ko_BadCommand_BadScheme ?ko_NoFrame_BadScheme ?ko_InvalidCommand_BadScheme ?ko_NothingToUndo_BadScheme ?ko_NothingBehind_BadScheme ?ko_OtherParts_BadScheme ?ko_BadRows_BadScheme ?ko_NotWhole_BadScheme ?ko_BadText_BadScheme ?ko_BadFrame_BadScheme ?ko_BadScheme_BadScheme ?ko_RestError_BadScheme ?ko_NothingKnown_NothingBehind ?ko_BadCommand_NothingBehind ?ko_NoFrame_NothingBehind ?ko_InvalidCommand_NothingBehind ?ko_NothingToUndo_NothingBehind ?ko_NothingBehind_NothingBehind ?ko_OtherParts_NothingBehind ?ko_BadRows_NothingBehind ?ko_NotWhole_NothingBehind ?ko_BadText_NothingBehind ?ko_BadFrame_NothingBehind ?ko_BadScheme_NothingBehind ?ko_RestError_NothingBehind ?ko_NothingKnown_OtherParts ?ko_BadCommand_OtherParts ?ko_NoFrame_OtherParts ?ko_InvalidCommand_OtherParts ?ko_NothingToUndo_OtherParts ?ko_NothingBehind_OtherParts ?ko_OtherParts_OtherParts ?ko_BadRows_OtherParts ?ko_NotWhole_OtherParts ?ko_BadText_OtherParts ?ko_BadFrame_OtherParts ?ko_BadScheme_OtherParts ?ko_RestError_OtherParts ?ko_NothingKnown_BadRows ?ko_BadCommand_BadRows ?ko_NoFrame_BadRows ?ko_InvalidCommand_BadRows ?ko_NothingToUndo_BadRows ?ko_NothingBehind_BadRows ?ko_OtherParts_BadRows ?ko_BadRows_BadRows ?ko_NotWhole_BadRows ?ko_BadText_BadRows ?ko_BadFrame_BadRows ?ko_BadScheme_BadRows ?ko_RestError_BadRows ?ko_NothingKnown_NoFrame ?ko_BadCommand_NoFrame ?ko_NoFrame_NoFrame ?ko_InvalidCommand_NoFrame ?ko_NothingToUndo_NoFrame ?ko_NothingBehind_NoFrame ?ko_OtherParts_NoFrame ?ko_BadRows_NoFrame ?ko_NotWhole_NoFrame ?ko_BadText_NoFrame ?ko_BadFrame_NoFrame ?ko_BadScheme_NoFrame ?ko_RestError_NoFrame ?ko_NothingKnown_InvalidCommand ?ko_BadCommand_InvalidCommand ?ko_NoFrame_InvalidCommand ?ko_InvalidCommand_InvalidCommand ?ko_NothingToUndo_InvalidCommand ?ko_NothingBehind_InvalidCommand ?ko_OtherParts_InvalidCommand ?ko_BadRows_InvalidCommand ?ko_NotWhole_InvalidCommand ?ko_BadText_InvalidCommand ?ko_BadFrame_InvalidCommand ?ko_BadScheme_InvalidCommand ?ko_RestError_InvalidCommand ?ko_NothingKnown_NothingToUndo ?ko_BadCommand_NothingToUndo ?ko_NoFrame_NothingToUndo ?ko_InvalidCommand_NothingToUndo ?ko_NothingToUndo_NothingToUndo ?ko_NothingBehind_NothingToUndo ?ko_OtherParts_NothingToUndo ?ko_BadRows_NothingToUndo ?ko_NotWhole_NothingToUndo ?ko_BadText_NothingToUndo ?ko_BadFrame_NothingToUndo ?ko_BadScheme_NothingToUndo ?ko_RestError_NothingToUndo ?ko_NothingKnown_NothingKnown ?ko_BadCommand_NothingKnown ?ko_NoFrame_NothingKnown ?ko_InvalidCommand_NothingKnown ?ko_NothingToUndo_NothingKnown ?ko_NothingBehind_NothingKnown ?ko_OtherParts_NothingKnown ?ko_BadRows_NothingKnown ?ko_NotWhole_NothingKnown ?ko_BadText_NothingKnown ?ko_BadFrame_NothingKnown ?ko_BadScheme_NothingKnown ?ko_RestError_NothingKnown ?ko_NothingKnown_BadCommand ?ko_BadCommand_BadCommand ?ko_NoFrame_BadCommand ?ko_InvalidCommand_BadCommand ?ko_NothingToUndo_BadCommand ?ko_NothingBehind_BadCommand ?ko_OtherParts_BadCommand ?ko_BadRows_BadCommand ?ko_NotWhole_BadCommand ?ko_BadText_BadCommand ?ko_BadFrame_BadCommand ?ko_BadScheme_BadCommand ?ko_RestError_BadCommand ?z_repr ?ko_NothingKnown_TypeError ?ko_BadCommand_TypeError ?ko_NoFrame_TypeError ?ko_InvalidCommand_TypeError ?ko_NothingToUndo_TypeError ?ko_NothingBehind_TypeError ?ko_OtherParts_TypeError ?ko_BadRows_TypeError ?ko_NotWhole_TypeError ?ko_BadText_TypeError ?ko_BadFrame_TypeError ?ko_BadScheme_TypeError ?ko_RestError_TypeError ?z_TypeError ?ko_NothingKnown_LookupError ?ko_BadCommand_LookupError ?ko_NoFrame_LookupError ?ko_InvalidCommand_LookupError ?ko_NothingToUndo_LookupError ?ko_NothingBehind_LookupError ?ko_OtherParts_LookupError ?ko_BadRows_LookupError ?ko_NotWhole_LookupError ?ko_BadText_LookupError ?ko_BadFrame_LookupError ?ko_BadScheme_LookupError ?ko_RestError_LookupError ?z_LookupError ?ko_NothingKnown_ValueError ?ko_BadCommand_ValueError ?ko_NoFrame_ValueError ?ko_InvalidCommand_ValueError ?ko_NothingToUndo_ValueError ?ko_NothingBehind_ValueError ?ko_OtherParts_ValueError ?ko_BadRows_ValueError ?ko_NotWhole_ValueError ?ko_BadText_ValueError ?ko_BadFrame_ValueError ?ko_BadScheme_ValueError ?ko_RestError_ValueError ?z_ValueError ?ko_NothingKnown_RuntimeError ?ko_BadCommand_RuntimeError ?ko_NoFrame_RuntimeError ?ko_InvalidCommand_RuntimeError ?ko_NothingToUndo_RuntimeError ?ko_NothingBehind_RuntimeError ?ko_OtherParts_RuntimeError ?ko_BadRows_RuntimeError ?ko_NotWhole_RuntimeError ?ko_BadText_RuntimeError ?ko_BadFrame_RuntimeError ?ko_BadScheme_RuntimeError ?ko_RestError_RuntimeError ?z_RuntimeError ?ko_NothingKnown_ArithmeticError ?ko_BadCommand_ArithmeticError ?ko_NoFrame_ArithmeticError ?ko_InvalidCommand_ArithmeticError ?ko_NothingToUndo_ArithmeticError ?ko_NothingBehind_ArithmeticError ?ko_OtherParts_ArithmeticError ?ko_BadRows_ArithmeticError ?ko_NotWhole_ArithmeticError ?ko_BadText_ArithmeticError ?ko_BadFrame_ArithmeticError ?ko_BadScheme_ArithmeticError ?ko_RestError_ArithmeticError ?z_ArithmeticError ?sb_NothingKnown_RestError ?sb_BadCommand_RestError ?sb_NoFrame_RestError ?sb_InvalidCommand_RestError ?sb_NothingToUndo_RestError ?sb_NothingBehind_RestError ?sb_OtherParts_RestError ?sb_BadRows_RestError ?sb_NotWhole_RestError ?sb_BadText_RestError ?sb_BadFrame_RestError ?sb_BadScheme_RestError ?xr_RestError DL.math_law
    (case aC_BadCommand => k_is)
    (case aC_BadFrame => k_is)
    (case aC_BadRows => k_is)
    (case aC_BadScheme => k_is)
    (case aC_BadText => k_is)
    (case aC_InvalidCommand => k_is)
    (case aC_NoFrame => k_is)
    (case aC_NotWhole => k_is)
    (case aC_NothingBehind => k_is)
    (case aC_NothingKnown => k_is)
    (case aC_NothingToUndo => k_is)
    (case aC_OtherParts => k_is)
    (case aC_RestError => k_is)
    (case a__law_draw => k_is)
    (case l__law_draw => k_is)
    (case q__law_draw => k_is)
    (case k__law_draw => k_is)
    (case a__law_deck => k_is)
    (case l__law_deck => k_is)
    (case q__law_deck => k_is)
    (case k__law_deck => k_is)
    (case a__law_pick => k_is)
    (case l__law_pick => k_is)
    (case q__law_pick => k_is)
    (case k__law_pick => k_is)
    (case a__law_made => k_is)
    (case l__law_made => k_is)
    (case q__law_made => k_is)
    (case k__law_made => k_is)
    (case a__law_kinds => k_is)
    (case l__law_kinds => k_is)
    (case q__law_kinds => k_is)
    (case k__law_kinds => k_is)
    (case a__law_kept => k_is)
    (case l__law_kept => k_is)
    (case q__law_kept => k_is)
    (case k__law_kept => k_is)
    (case a__law_is_usual => k_is)
    (case l__law_is_usual => k_is)
    (case q__law_is_usual => k_is)
    (case k__law_is_usual => k_is)
    (case a__law_raised => k_is)
    (case l__law_raised => k_is)
    (case q__law_raised => k_is)
    (case k__law_raised => k_is)
    (case a__law_caught => k_is)
    (case l__law_caught => k_is)
    (case q__law_caught => k_is)
    (case k__law_caught => k_is)
    (case a_law => k_is)
    (case l_law => k_is)
    (case q_law => k_is)
    (case k_law => k_is)
    (case z_int => k_is)
    (case z_range => k_is)
    (case z_len => k_is)
    (case ei_BadFrame => kx_is)
    (case ov_BadFrame => kx_is)
    (case xb_BadFrame => k_is)
    (case xx_BadFrame => k_is)
    (case xy_BadFrame => k_is)
    (case kc_BadFrame => k_is)
    (case hd_BadFrame => k_is)
    (case sa_BadFrame => k_is)
    (case xm_BadFrame => k_is)
    (case xs_BadFrame => ks_is)
    (case xth => k_is)
    (case xg_BadFrame => k_is)
    (case xh_BadFrame => k_is)
    (case ia_BadFrame => k_is)
    (case ib_BadFrame => k_is)
    (case ic_BadFrame => k_is)
    (case id_BadFrame => k_is)
    (case ie_BadFrame => k_is)
    (case if_BadFrame => rfl)
    (case ig_BadFrame => decide)
    (case ih_BadFrame => k_is)
    (case z_super => k_is)
    (case ztop => rfl)
    (case n_BadFrame_part => k_is)
    (case ei_BadScheme => kx_is)
    (case ov_BadScheme => kx_is)
    (case xb_BadScheme => k_is)
    (case xx_BadScheme => k_is)
    (case xy_BadScheme => k_is)
    (case kc_BadScheme => k_is)
    (case hd_BadScheme => k_is)
    (case sa_BadScheme => k_is)
    (case xm_BadScheme => k_is)
    (case xs_BadScheme => ks_is)
    (case xg_BadScheme => k_is)
    (case xh_BadScheme => k_is)
    (case ia_BadScheme => k_is)
    (case ib_BadScheme => k_is)
    (case ic_BadScheme => k_is)
    (case id_BadScheme => k_is)
    (case ie_BadScheme => k_is)
    (case if_BadScheme => rfl)
    (case ig_BadScheme => decide)
    (case ih_BadScheme => k_is)
    (case n_BadScheme_part => k_is)
    (case ei_NotWhole => kx_is)
    (case ov_NotWhole => kx_is)
    (case xb_NotWhole => k_is)
    (case xx_NotWhole => k_is)
    (case xy_NotWhole => k_is)
    (case kc_NotWhole => k_is)
    (case hd_NotWhole => k_is)
    (case sa_NotWhole => k_is)
    (case xm_NotWhole => k_is)
    (case xs_NotWhole => ks_is)
    (case xg_NotWhole => k_is)
    (case xh_NotWhole => k_is)
    (case ia_NotWhole => k_is)
    (case ib_NotWhole => k_is)
    (case ic_NotWhole => k_is)
    (case id_NotWhole => k_is)
    (case ie_NotWhole => k_is)
    (case if_NotWhole => rfl)
    (case ig_NotWhole => decide)
    (case ih_NotWhole => k_is)
    (case n_NotWhole_tables => k_is)
    (case ei_BadText => kx_is)
    (case ov_BadText => kx_is)
    (case xb_BadText => k_is)
    (case xx_BadText => k_is)
    (case xy_BadText => k_is)
    (case kc_BadText => k_is)
    (case hd_BadText => k_is)
    (case sa_BadText => k_is)
    (case xm_BadText => k_is)
    (case xs_BadText => ks_is)
    (case xg_BadText => k_is)
    (case xh_BadText => k_is)
    (case ia_BadText => k_is)
    (case ib_BadText => k_is)
    (case ic_BadText => k_is)
    (case id_BadText => k_is)
    (case ie_BadText => k_is)
    (case if_BadText => rfl)
    (case ig_BadText => decide)
    (case ih_BadText => k_is)
    (case n_BadText_place => k_is)
    (case ei_OtherParts => kx_is)
    (case ov_OtherParts => kx_is)
    (case xb_OtherParts => k_is)
    (case xx_OtherParts => k_is)
    (case xy_OtherParts => k_is)
    (case kc_OtherParts => k_is)
    (case hd_OtherParts => k_is)
    (case sa_OtherParts => k_is)
    (case xm_OtherParts => k_is)
    (case xs_OtherParts => ks_is)
    (case xg_OtherParts => k_is)
    (case xh_OtherParts => k_is)
    (case ia_OtherParts => k_is)
    (case ib_OtherParts => k_is)
    (case ic_OtherParts => k_is)
    (case id_OtherParts => k_is)
    (case ie_OtherParts => k_is)
    (case if_OtherParts => rfl)
    (case ig_OtherParts => decide)
    (case ih_OtherParts => k_is)
    (case n_OtherParts_part => k_is)
    (case ei_BadRows => kx_is)
    (case ov_BadRows => kx_is)
    (case xb_BadRows => k_is)
    (case xx_BadRows => k_is)
    (case xy_BadRows => k_is)
    (case kc_BadRows => k_is)
    (case hd_BadRows => k_is)
    (case sa_BadRows => k_is)
    (case xm_BadRows => k_is)
    (case xs_BadRows => ks_is)
    (case xg_BadRows => k_is)
    (case xh_BadRows => k_is)
    (case ia_BadRows => k_is)
    (case ib_BadRows => k_is)
    (case ic_BadRows => k_is)
    (case id_BadRows => k_is)
    (case ie_BadRows => k_is)
    (case if_BadRows => rfl)
    (case ig_BadRows => decide)
    (case ih_BadRows => k_is)
    (case n_BadRows_row => k_is)
    (case ei_NothingBehind => kx_is)
    (case ov_NothingBehind => kx_is)
    (case xb_NothingBehind => k_is)
    (case xx_NothingBehind => k_is)
    (case xy_NothingBehind => k_is)
    (case kc_NothingBehind => k_is)
    (case hd_NothingBehind => k_is)
    (case sa_NothingBehind => k_is)
    (case xm_NothingBehind => k_is)
    (case xs_NothingBehind => ks_is)
    (case xg_NothingBehind => k_is)
    (case xh_NothingBehind => k_is)
    (case ia_NothingBehind => k_is)
    (case ib_NothingBehind => k_is)
    (case ic_NothingBehind => k_is)
    (case id_NothingBehind => k_is)
    (case ie_NothingBehind => k_is)
    (case if_NothingBehind => rfl)
    (case ig_NothingBehind => decide)
    (case ih_NothingBehind => k_is)
    (case n_NothingBehind_steps => k_is)
    (case ei_NoFrame => kx_is)
    (case ov_NoFrame => kx_is)
    (case xb_NoFrame => k_is)
    (case xx_NoFrame => k_is)
    (case xy_NoFrame => k_is)
    (case kc_NoFrame => k_is)
    (case hd_NoFrame => k_is)
    (case sa_NoFrame => k_is)
    (case xm_NoFrame => k_is)
    (case xs_NoFrame => ks_is)
    (case xg_NoFrame => k_is)
    (case xh_NoFrame => k_is)
    (case ia_NoFrame => k_is)
    (case ib_NoFrame => k_is)
    (case ic_NoFrame => k_is)
    (case id_NoFrame => k_is)
    (case ie_NoFrame => k_is)
    (case if_NoFrame => rfl)
    (case ig_NoFrame => decide)
    (case ih_NoFrame => k_is)
    (case ei_InvalidCommand => kx_is)
    (case ov_InvalidCommand => kx_is)
    (case xb_InvalidCommand => k_is)
    (case xx_InvalidCommand => k_is)
    (case xy_InvalidCommand => k_is)
    (case kc_InvalidCommand => k_is)
    (case hd_InvalidCommand => k_is)
    (case sa_InvalidCommand => k_is)
    (case xm_InvalidCommand => k_is)
    (case xs_InvalidCommand => ks_is)
    (case xg_InvalidCommand => k_is)
    (case xh_InvalidCommand => k_is)
    (case ia_InvalidCommand => k_is)
    (case ib_InvalidCommand => k_is)
    (case ic_InvalidCommand => k_is)
    (case id_InvalidCommand => k_is)
    (case ie_InvalidCommand => k_is)
    (case if_InvalidCommand => rfl)
    (case ig_InvalidCommand => decide)
    (case ih_InvalidCommand => k_is)
    (case ei_NothingToUndo => kx_is)
    (case ov_NothingToUndo => kx_is)
    (case xb_NothingToUndo => k_is)
    (case xx_NothingToUndo => k_is)
    (case xy_NothingToUndo => k_is)
    (case kc_NothingToUndo => k_is)
    (case hd_NothingToUndo => k_is)
    (case sa_NothingToUndo => k_is)
    (case xm_NothingToUndo => k_is)
    (case xs_NothingToUndo => ks_is)
    (case xg_NothingToUndo => k_is)
    (case xh_NothingToUndo => k_is)
    (case ia_NothingToUndo => k_is)
    (case ib_NothingToUndo => k_is)
    (case ic_NothingToUndo => k_is)
    (case id_NothingToUndo => k_is)
    (case ie_NothingToUndo => k_is)
    (case if_NothingToUndo => rfl)
    (case ig_NothingToUndo => decide)
    (case ih_NothingToUndo => k_is)
    (case ei_NothingKnown => kx_is)
    (case ov_NothingKnown => kx_is)
    (case xb_NothingKnown => k_is)
    (case xx_NothingKnown => k_is)
    (case xy_NothingKnown => k_is)
    (case kc_NothingKnown => k_is)
    (case hd_NothingKnown => k_is)
    (case sa_NothingKnown => k_is)
    (case xm_NothingKnown => k_is)
    (case xs_NothingKnown => ks_is)
    (case xg_NothingKnown => k_is)
    (case xh_NothingKnown => k_is)
    (case ia_NothingKnown => k_is)
    (case ib_NothingKnown => k_is)
    (case ic_NothingKnown => k_is)
    (case id_NothingKnown => k_is)
    (case ie_NothingKnown => k_is)
    (case if_NothingKnown => rfl)
    (case ig_NothingKnown => decide)
    (case ih_NothingKnown => k_is)
    (case ei_BadCommand => kx_is)
    (case ov_BadCommand => kx_is)
    (case xb_BadCommand => k_is)
    (case xx_BadCommand => k_is)
    (case xy_BadCommand => k_is)
    (case kc_BadCommand => k_is)
    (case hd_BadCommand => k_is)
    (case sa_BadCommand => k_is)
    (case xm_BadCommand => k_is)
    (case xs_BadCommand => ks_is)
    (case xg_BadCommand => k_is)
    (case xh_BadCommand => k_is)
    (case ia_BadCommand => k_is)
    (case ib_BadCommand => k_is)
    (case ic_BadCommand => k_is)
    (case id_BadCommand => k_is)
    (case ie_BadCommand => k_is)
    (case if_BadCommand => rfl)
    (case ig_BadCommand => decide)
    (case ih_BadCommand => k_is)
    (case z_isinstance => k_is)
    (case ko_NothingKnown_RestError => kit_is)
    (case xc_NothingKnown => k_is)
    (case jn => k_is)
    (case jt => k_is)
    (case jm_NothingKnown => k_is)
    (case ko_BadCommand_RestError => kit_is)
    (case xc_BadCommand => k_is)
    (case jm_BadCommand => k_is)
    (case ko_NoFrame_RestError => kit_is)
    (case xc_NoFrame => k_is)
    (case jm_NoFrame => k_is)
    (case ko_InvalidCommand_RestError => kit_is)
    (case xc_InvalidCommand => k_is)
    (case jm_InvalidCommand => k_is)
    (case ko_NothingToUndo_RestError => kit_is)
    (case xc_NothingToUndo => k_is)
    (case jm_NothingToUndo => k_is)
    (case ko_NothingBehind_RestError => kit_is)
    (case xc_NothingBehind => k_is)
    (case jm_NothingBehind => k_is)
    (case ko_OtherParts_RestError => kit_is)
    (case xc_OtherParts => k_is)
    (case jm_OtherParts => k_is)
    (case ko_BadRows_RestError => kit_is)
    (case xc_BadRows => k_is)
    (case jm_BadRows => k_is)
    (case ko_NotWhole_RestError => kit_is)
    (case xc_NotWhole => k_is)
    (case jm_NotWhole => k_is)
    (case ko_BadText_RestError => kit_is)
    (case xc_BadText => k_is)
    (case jm_BadText => k_is)
    (case ko_BadFrame_RestError => kit_is)
    (case xc_BadFrame => k_is)
    (case jm_BadFrame => k_is)
    (case ko_BadScheme_RestError => kit_is)
    (case xc_BadScheme => k_is)
    (case jm_BadScheme => k_is)
    (case ko_RestError_RestError => kit_is)
    (case ei_RestError => kx_is)
    (case ov_RestError => kx_is)
    (case xb_RestError => k_is)
    (case xx_RestError => k_is)
    (case xy_RestError => k_is)
    (case kc_RestError => k_is)
    (case hd_RestError => k_is)
    (case sa_RestError => k_is)
    (case xm_RestError => k_is)
    (case xs_RestError => ks_is)
    (case xg_RestError => k_is)
    (case xh_RestError => k_is)
    (case xc_RestError => k_is)
    (case jm_RestError => k_is)
    (case ko_NothingKnown_Exception => kit_is)
    (case ko_BadCommand_Exception => kit_is)
    (case ko_NoFrame_Exception => kit_is)
    (case ko_InvalidCommand_Exception => kit_is)
    (case ko_NothingToUndo_Exception => kit_is)
    (case ko_NothingBehind_Exception => kit_is)
    (case ko_OtherParts_Exception => kit_is)
    (case ko_BadRows_Exception => kit_is)
    (case ko_NotWhole_Exception => kit_is)
    (case ko_BadText_Exception => kit_is)
    (case ko_BadFrame_Exception => kit_is)
    (case ko_BadScheme_Exception => kit_is)
    (case ko_RestError_Exception => kit_is)
    (case z_Exception => k_is)
    (case ko_NothingKnown_NotWhole => kit_is)
    (case ko_BadCommand_NotWhole => kit_is)
    (case ko_NoFrame_NotWhole => kit_is)
    (case ko_InvalidCommand_NotWhole => kit_is)
    (case ko_NothingToUndo_NotWhole => kit_is)
    (case ko_NothingBehind_NotWhole => kit_is)
    (case ko_OtherParts_NotWhole => kit_is)
    (case ko_BadRows_NotWhole => kit_is)
    (case ko_NotWhole_NotWhole => kit_is)
    (case ko_BadText_NotWhole => kit_is)
    (case ko_BadFrame_NotWhole => kit_is)
    (case ko_BadScheme_NotWhole => kit_is)
    (case ko_RestError_NotWhole => kit_is)
    (case ko_NothingKnown_BadText => kit_is)
    (case ko_BadCommand_BadText => kit_is)
    (case ko_NoFrame_BadText => kit_is)
    (case ko_InvalidCommand_BadText => kit_is)
    (case ko_NothingToUndo_BadText => kit_is)
    (case ko_NothingBehind_BadText => kit_is)
    (case ko_OtherParts_BadText => kit_is)
    (case ko_BadRows_BadText => kit_is)
    (case ko_NotWhole_BadText => kit_is)
    (case ko_BadText_BadText => kit_is)
    (case ko_BadFrame_BadText => kit_is)
    (case ko_BadScheme_BadText => kit_is)
    (case ko_RestError_BadText => kit_is)
    (case ko_NothingKnown_BadFrame => kit_is)
    (case ko_BadCommand_BadFrame => kit_is)
    (case ko_NoFrame_BadFrame => kit_is)
    (case ko_InvalidCommand_BadFrame => kit_is)
    (case ko_NothingToUndo_BadFrame => kit_is)
    (case ko_NothingBehind_BadFrame => kit_is)
    (case ko_OtherParts_BadFrame => kit_is)
    (case ko_BadRows_BadFrame => kit_is)
    (case ko_NotWhole_BadFrame => kit_is)
    (case ko_BadText_BadFrame => kit_is)
    (case ko_BadFrame_BadFrame => kit_is)
    (case ko_BadScheme_BadFrame => kit_is)
    (case ko_RestError_BadFrame => kit_is)
    (case ko_NothingKnown_BadScheme => kit_is)
    (case ko_BadCommand_BadScheme => kit_is)
    (case ko_NoFrame_BadScheme => kit_is)
    (case ko_InvalidCommand_BadScheme => kit_is)
    (case ko_NothingToUndo_BadScheme => kit_is)
    (case ko_NothingBehind_BadScheme => kit_is)
    (case ko_OtherParts_BadScheme => kit_is)
    (case ko_BadRows_BadScheme => kit_is)
    (case ko_NotWhole_BadScheme => kit_is)
    (case ko_BadText_BadScheme => kit_is)
    (case ko_BadFrame_BadScheme => kit_is)
    (case ko_BadScheme_BadScheme => kit_is)
    (case ko_RestError_BadScheme => kit_is)
    (case ko_NothingKnown_NothingBehind => kit_is)
    (case ko_BadCommand_NothingBehind => kit_is)
    (case ko_NoFrame_NothingBehind => kit_is)
    (case ko_InvalidCommand_NothingBehind => kit_is)
    (case ko_NothingToUndo_NothingBehind => kit_is)
    (case ko_NothingBehind_NothingBehind => kit_is)
    (case ko_OtherParts_NothingBehind => kit_is)
    (case ko_BadRows_NothingBehind => kit_is)
    (case ko_NotWhole_NothingBehind => kit_is)
    (case ko_BadText_NothingBehind => kit_is)
    (case ko_BadFrame_NothingBehind => kit_is)
    (case ko_BadScheme_NothingBehind => kit_is)
    (case ko_RestError_NothingBehind => kit_is)
    (case ko_NothingKnown_OtherParts => kit_is)
    (case ko_BadCommand_OtherParts => kit_is)
    (case ko_NoFrame_OtherParts => kit_is)
    (case ko_InvalidCommand_OtherParts => kit_is)
    (case ko_NothingToUndo_OtherParts => kit_is)
    (case ko_NothingBehind_OtherParts => kit_is)
    (case ko_OtherParts_OtherParts => kit_is)
    (case ko_BadRows_OtherParts => kit_is)
    (case ko_NotWhole_OtherParts => kit_is)
    (case ko_BadText_OtherParts => kit_is)
    (case ko_BadFrame_OtherParts => kit_is)
    (case ko_BadScheme_OtherParts => kit_is)
    (case ko_RestError_OtherParts => kit_is)
    (case ko_NothingKnown_BadRows => kit_is)
    (case ko_BadCommand_BadRows => kit_is)
    (case ko_NoFrame_BadRows => kit_is)
    (case ko_InvalidCommand_BadRows => kit_is)
    (case ko_NothingToUndo_BadRows => kit_is)
    (case ko_NothingBehind_BadRows => kit_is)
    (case ko_OtherParts_BadRows => kit_is)
    (case ko_BadRows_BadRows => kit_is)
    (case ko_NotWhole_BadRows => kit_is)
    (case ko_BadText_BadRows => kit_is)
    (case ko_BadFrame_BadRows => kit_is)
    (case ko_BadScheme_BadRows => kit_is)
    (case ko_RestError_BadRows => kit_is)
    (case ko_NothingKnown_NoFrame => kit_is)
    (case ko_BadCommand_NoFrame => kit_is)
    (case ko_NoFrame_NoFrame => kit_is)
    (case ko_InvalidCommand_NoFrame => kit_is)
    (case ko_NothingToUndo_NoFrame => kit_is)
    (case ko_NothingBehind_NoFrame => kit_is)
    (case ko_OtherParts_NoFrame => kit_is)
    (case ko_BadRows_NoFrame => kit_is)
    (case ko_NotWhole_NoFrame => kit_is)
    (case ko_BadText_NoFrame => kit_is)
    (case ko_BadFrame_NoFrame => kit_is)
    (case ko_BadScheme_NoFrame => kit_is)
    (case ko_RestError_NoFrame => kit_is)
    (case ko_NothingKnown_InvalidCommand => kit_is)
    (case ko_BadCommand_InvalidCommand => kit_is)
    (case ko_NoFrame_InvalidCommand => kit_is)
    (case ko_InvalidCommand_InvalidCommand => kit_is)
    (case ko_NothingToUndo_InvalidCommand => kit_is)
    (case ko_NothingBehind_InvalidCommand => kit_is)
    (case ko_OtherParts_InvalidCommand => kit_is)
    (case ko_BadRows_InvalidCommand => kit_is)
    (case ko_NotWhole_InvalidCommand => kit_is)
    (case ko_BadText_InvalidCommand => kit_is)
    (case ko_BadFrame_InvalidCommand => kit_is)
    (case ko_BadScheme_InvalidCommand => kit_is)
    (case ko_RestError_InvalidCommand => kit_is)
    (case ko_NothingKnown_NothingToUndo => kit_is)
    (case ko_BadCommand_NothingToUndo => kit_is)
    (case ko_NoFrame_NothingToUndo => kit_is)
    (case ko_InvalidCommand_NothingToUndo => kit_is)
    (case ko_NothingToUndo_NothingToUndo => kit_is)
    (case ko_NothingBehind_NothingToUndo => kit_is)
    (case ko_OtherParts_NothingToUndo => kit_is)
    (case ko_BadRows_NothingToUndo => kit_is)
    (case ko_NotWhole_NothingToUndo => kit_is)
    (case ko_BadText_NothingToUndo => kit_is)
    (case ko_BadFrame_NothingToUndo => kit_is)
    (case ko_BadScheme_NothingToUndo => kit_is)
    (case ko_RestError_NothingToUndo => kit_is)
    (case ko_NothingKnown_NothingKnown => kit_is)
    (case ko_BadCommand_NothingKnown => kit_is)
    (case ko_NoFrame_NothingKnown => kit_is)
    (case ko_InvalidCommand_NothingKnown => kit_is)
    (case ko_NothingToUndo_NothingKnown => kit_is)
    (case ko_NothingBehind_NothingKnown => kit_is)
    (case ko_OtherParts_NothingKnown => kit_is)
    (case ko_BadRows_NothingKnown => kit_is)
    (case ko_NotWhole_NothingKnown => kit_is)
    (case ko_BadText_NothingKnown => kit_is)
    (case ko_BadFrame_NothingKnown => kit_is)
    (case ko_BadScheme_NothingKnown => kit_is)
    (case ko_RestError_NothingKnown => kit_is)
    (case ko_NothingKnown_BadCommand => kit_is)
    (case ko_BadCommand_BadCommand => kit_is)
    (case ko_NoFrame_BadCommand => kit_is)
    (case ko_InvalidCommand_BadCommand => kit_is)
    (case ko_NothingToUndo_BadCommand => kit_is)
    (case ko_NothingBehind_BadCommand => kit_is)
    (case ko_OtherParts_BadCommand => kit_is)
    (case ko_BadRows_BadCommand => kit_is)
    (case ko_NotWhole_BadCommand => kit_is)
    (case ko_BadText_BadCommand => kit_is)
    (case ko_BadFrame_BadCommand => kit_is)
    (case ko_BadScheme_BadCommand => kit_is)
    (case ko_RestError_BadCommand => kit_is)
    (case z_repr => k_is)
    (case ko_NothingKnown_TypeError => kit_is)
    (case ko_BadCommand_TypeError => kit_is)
    (case ko_NoFrame_TypeError => kit_is)
    (case ko_InvalidCommand_TypeError => kit_is)
    (case ko_NothingToUndo_TypeError => kit_is)
    (case ko_NothingBehind_TypeError => kit_is)
    (case ko_OtherParts_TypeError => kit_is)
    (case ko_BadRows_TypeError => kit_is)
    (case ko_NotWhole_TypeError => kit_is)
    (case ko_BadText_TypeError => kit_is)
    (case ko_BadFrame_TypeError => kit_is)
    (case ko_BadScheme_TypeError => kit_is)
    (case ko_RestError_TypeError => kit_is)
    (case z_TypeError => k_is)
    (case ko_NothingKnown_LookupError => kit_is)
    (case ko_BadCommand_LookupError => kit_is)
    (case ko_NoFrame_LookupError => kit_is)
    (case ko_InvalidCommand_LookupError => kit_is)
    (case ko_NothingToUndo_LookupError => kit_is)
    (case ko_NothingBehind_LookupError => kit_is)
    (case ko_OtherParts_LookupError => kit_is)
    (case ko_BadRows_LookupError => kit_is)
    (case ko_NotWhole_LookupError => kit_is)
    (case ko_BadText_LookupError => kit_is)
    (case ko_BadFrame_LookupError => kit_is)
    (case ko_BadScheme_LookupError => kit_is)
    (case ko_RestError_LookupError => kit_is)
    (case z_LookupError => k_is)
    (case ko_NothingKnown_ValueError => kit_is)
    (case ko_BadCommand_ValueError => kit_is)
    (case ko_NoFrame_ValueError => kit_is)
    (case ko_InvalidCommand_ValueError => kit_is)
    (case ko_NothingToUndo_ValueError => kit_is)
    (case ko_NothingBehind_ValueError => kit_is)
    (case ko_OtherParts_ValueError => kit_is)
    (case ko_BadRows_ValueError => kit_is)
    (case ko_NotWhole_ValueError => kit_is)
    (case ko_BadText_ValueError => kit_is)
    (case ko_BadFrame_ValueError => kit_is)
    (case ko_BadScheme_ValueError => kit_is)
    (case ko_RestError_ValueError => kit_is)
    (case z_ValueError => k_is)
    (case ko_NothingKnown_RuntimeError => kit_is)
    (case ko_BadCommand_RuntimeError => kit_is)
    (case ko_NoFrame_RuntimeError => kit_is)
    (case ko_InvalidCommand_RuntimeError => kit_is)
    (case ko_NothingToUndo_RuntimeError => kit_is)
    (case ko_NothingBehind_RuntimeError => kit_is)
    (case ko_OtherParts_RuntimeError => kit_is)
    (case ko_BadRows_RuntimeError => kit_is)
    (case ko_NotWhole_RuntimeError => kit_is)
    (case ko_BadText_RuntimeError => kit_is)
    (case ko_BadFrame_RuntimeError => kit_is)
    (case ko_BadScheme_RuntimeError => kit_is)
    (case ko_RestError_RuntimeError => kit_is)
    (case z_RuntimeError => k_is)
    (case ko_NothingKnown_ArithmeticError => kit_is)
    (case ko_BadCommand_ArithmeticError => kit_is)
    (case ko_NoFrame_ArithmeticError => kit_is)
    (case ko_InvalidCommand_ArithmeticError => kit_is)
    (case ko_NothingToUndo_ArithmeticError => kit_is)
    (case ko_NothingBehind_ArithmeticError => kit_is)
    (case ko_OtherParts_ArithmeticError => kit_is)
    (case ko_BadRows_ArithmeticError => kit_is)
    (case ko_NotWhole_ArithmeticError => kit_is)
    (case ko_BadText_ArithmeticError => kit_is)
    (case ko_BadFrame_ArithmeticError => kit_is)
    (case ko_BadScheme_ArithmeticError => kit_is)
    (case ko_RestError_ArithmeticError => kit_is)
    (case z_ArithmeticError => k_is)
    (case sb_NothingKnown_RestError => k_is)
    (case sb_BadCommand_RestError => k_is)
    (case sb_NoFrame_RestError => k_is)
    (case sb_InvalidCommand_RestError => k_is)
    (case sb_NothingToUndo_RestError => k_is)
    (case sb_NothingBehind_RestError => k_is)
    (case sb_OtherParts_RestError => k_is)
    (case sb_BadRows_RestError => k_is)
    (case sb_NotWhole_RestError => k_is)
    (case sb_BadText_RestError => k_is)
    (case sb_BadFrame_RestError => k_is)
    (case sb_BadScheme_RestError => k_is)
    (case xr_RestError => k_exc)

