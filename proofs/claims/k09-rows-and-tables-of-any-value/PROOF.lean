import PyProof.Rows.All
import Wide.All
import OpenK.AllK
import Wide.FinOn
import HandS.ForMost
import HandS.Flow
import KE.DataCmp
import KE.SortData
import HandS.TupAny
import HandS.IsInst
import HandS.Replace
import HandS.Conv
import PyProof.ReprRoads
import PyProof.ListStr
import KE.GoesNew
import KE.GoesEnumKw
import KE.GoesMore
import PyProof.Rows.CallKwBuiltin
import HandS.Style
import HandS.Star
import PyProof.CollectStr
import HandS.Ends
import KE.SortKeyHeap
import KE.KSortKey
import PyProof.StrOps
import HandS.SortKw
import PyProof.InstNe
import HandS.Property
import PyProof.DictUpdate
import HandS.More
import HandS.ExcValue
import PyProof.StrCalls6
import HandS.Wide
import PyProof.SliceStr2
import PyProof.Rows.StrRev
import PyProof.NeData
import PyProof.StrLawsIn
import PyProof.StrLawsRepr
import PyProof.ReprBulk
import HandS.TupSets
import PyProof.StrLawsOcc
import PyProof.StrLawsTight
import PyProof.Rows.StrItems
import PyProof.Rows.StrSplitAre
import KE.IntTextText
import PySem.Challenge.RW_restbehind_k09_rows_and_tables_of_any_va
set_option Elab.async false
set_option linter.all false
set_option maxRecDepth 100000
set_option maxHeartbeats 4000000
namespace DL
open PySem PySem.Spec PyProof.Rows L2

/-- data -/
inductive D where
  | non | bl (b : Bool) | int (i : Int) | str (x : Str)
  | lst (xs : List D) | tup (xs : List D)
  | dic (kvs : List (Key × D)) | dit (kvs : List (List Key × D))
  | obj (C : Addr) (fs : List (Str × D))

/-- a text that may be: not too long, of code points -/
def SOk (x : Str) : Prop := x.length ≤ sizeLine ∧ PyData.strOk x = true
def KOk : Key → Prop
  | .inl _ => True
  | .inr x => SOk x
def KsOk (k : List Key) : Prop := k.length ≤ sizeLine ∧ ∀ x ∈ k, KOk x
mutual
inductive DD (K : PySem.W.Frag) (G : Hp) : V → D → Prop
  | non : DD K G .non .non
  | bl (b : Bool) : DD K G (.bl b) (.bl b)
  | int (i : Int) : DD K G (.int i) (.int i)
  | str (x : Str) : SOk x → DD K G (.str x) (.str x)
  | lst {a : Addr} {vs : List V} {ds : List D} : G a = some (.lst vs) → vs.length ≤ sizeLine → DDs K G vs ds → DD K G (.ref a) (.lst ds)
  | tup {a : Addr} {vs : List V} {ds : List D} : G a = some (.tup vs) → vs.length ≤ sizeLine → DDs K G vs ds → DD K G (.ref a) (.tup ds)
  | dic {a : Addr} {kv : List (Key × V)} {kd : List (Key × D)} : G a = some (.dK kv) → DKs K G kv kd → DD K G (.ref a) (.dic kd)
  | dit {a : Addr} {kv : List (List Key × V)} {kd : List (List Key × D)} : G a = some (.dT kv) → DTs K G kv kd → DD K G (.ref a) (.dit kd)
  | obj {a C dx : Addr} {fs : List (Str × V)} {fd : List (Str × D)} : G a = some (.ins C dx fs) → DFs K G fs fd → DD K G (.ref a) (.obj C fd)
inductive DDs (K : PySem.W.Frag) (G : Hp) : List V → List D → Prop
  | nil : DDs K G [] []
  | cons {v : V} {vs : List V} {d : D} {ds : List D} : DD K G v d → DDs K G vs ds → DDs K G (v :: vs) (d :: ds)
inductive DKs (K : PySem.W.Frag) (G : Hp) : List (Key × V) → List (Key × D) → Prop
  | nil : DKs K G [] []
  | cons {k : Key} {v : V} {vs : List (Key × V)} {d : D} {ds : List (Key × D)} : KOk k → DD K G v d → DKs K G vs ds → DKs K G ((k, v) :: vs) ((k, d) :: ds)
inductive DTs (K : PySem.W.Frag) (G : Hp) : List (List Key × V) → List (List Key × D) → Prop
  | nil : DTs K G [] []
  | cons {k : List Key} {v : V} {vs : List (List Key × V)} {d : D} {ds : List (List Key × D)} : KsOk k → DD K G v d → DTs K G vs ds → DTs K G ((k, v) :: vs) ((k, d) :: ds)
inductive DFs (K : PySem.W.Frag) (G : Hp) : List (Str × V) → List (Str × D) → Prop
  | nil : DFs K G [] []
  | cons {k : Str} {v : V} {vs : List (Str × V)} {d : D} {ds : List (Str × D)} : DD K G v d → DFs K G vs ds → DFs K G ((k, v) :: vs) ((k, d) :: ds)
end

theorem SqL.up {K : PySem.W.Frag} {G G' : Hp} {a : Addr} {xs : List V} (e : Same G G') (h : SqL K G a xs) : SqL K G' a xs := e.seq h
theorem SqT.up {K : PySem.W.Frag} {G G' : Hp} {a : Addr} {xs : List V} (e : Same G G') (h : SqT K G a xs) : SqT K G' a xs := by
  rcases h with (h | ⟨o, h⟩) | h
  · exact Or.inl (Or.inl (e _ _ h))
  · exact Or.inl (Or.inr ⟨o, e _ _ h⟩)
  · exact Or.inr h

mutual
theorem DD.up {K : PySem.W.Frag} {G G' : Hp} (e : Same G G') : ∀ {v : V} {d : D}, DD K G v d → DD K G' v d
  | _, _, .non => .non
  | _, _, .bl b => .bl b
  | _, _, .int i => .int i
  | _, _, .str x h => .str x h
  | _, _, .lst h z r => .lst (e _ _ h) z (DDs.up e r)
  | _, _, .tup h z r => .tup (e _ _ h) z (DDs.up e r)
  | _, _, .dic h r => .dic (e _ _ h) (DKs.up e r)
  | _, _, .dit h r => .dit (e _ _ h) (DTs.up e r)
  | _, _, .obj h r => .obj (e _ _ h) (DFs.up e r)
theorem DDs.up {K : PySem.W.Frag} {G G' : Hp} (e : Same G G') : ∀ {v : List V} {d : List D}, DDs K G v d → DDs K G' v d
  | _, _, .nil => .nil
  | _, _, .cons a b => .cons (DD.up e a) (DDs.up e b)
theorem DKs.up {K : PySem.W.Frag} {G G' : Hp} (e : Same G G') : ∀ {v : List (Key × V)} {d : List (Key × D)}, DKs K G v d → DKs K G' v d
  | _, _, .nil => .nil
  | _, _, .cons c a b => .cons c (DD.up e a) (DKs.up e b)
theorem DTs.up {K : PySem.W.Frag} {G G' : Hp} (e : Same G G') : ∀ {v : List (List Key × V)} {d : List (List Key × D)}, DTs K G v d → DTs K G' v d
  | _, _, .nil => .nil
  | _, _, .cons c a b => .cons c (DD.up e a) (DTs.up e b)
theorem DFs.up {K : PySem.W.Frag} {G G' : Hp} (e : Same G G') : ∀ {v : List (Str × V)} {d : List (Str × D)}, DFs K G v d → DFs K G' v d
  | _, _, .nil => .nil
  | _, _, .cons a b => .cons (DD.up e a) (DFs.up e b)
end

section
variable {K : PySem.W.Frag} {G : Hp}
theorem DDs.len : ∀ {vs : List V} {ds : List D}, DDs K G vs ds → vs.length = ds.length
  | _, _, .nil => rfl
  | _, _, .cons _ b => congrArg Nat.succ (DDs.len b)
theorem DDs.get : ∀ {vs : List V} {ds : List D} {i : Nat} {d : D}, DDs K G vs ds → ds[i]? = some d → ∃ v, vs[i]? = some v ∧ DD K G v d
  | _, _, _, _, .nil, e => by simp at e
  | _, _, 0, _, .cons a _, e => by simp at e; subst e; exact ⟨_, rfl, a⟩
  | _, _, i + 1, d, .cons _ b, e => by
    obtain ⟨v, h1, h2⟩ := DDs.get (i := i) (d := d) b (by simpa using e)
    exact ⟨v, by simpa using h1, h2⟩
theorem DDs.getV : ∀ {vs : List V} {ds : List D} {i : Nat} {v : V}, DDs K G vs ds → vs[i]? = some v → ∃ d, ds[i]? = some d ∧ DD K G v d
  | _, _, _, _, .nil, e => by simp at e
  | _, _, 0, _, .cons a _, e => by simp at e; subst e; exact ⟨_, rfl, a⟩
  | _, _, i + 1, d, .cons _ b, e => by
    obtain ⟨v, h1, h2⟩ := DDs.getV (i := i) (v := d) b (by simpa using e)
    exact ⟨v, by simpa using h1, h2⟩
theorem DDs.app : ∀ {vs ws : List V} {ds es : List D}, DDs K G vs ds → DDs K G ws es → DDs K G (vs ++ ws) (ds ++ es)
  | _, _, _, _, .nil, h => h
  | _, _, _, _, .cons a b, h => .cons a (DDs.app b h)
theorem DDs.one {v : V} {d : D} (h : DD K G v d) : DDs K G [v] [d] := .cons h .nil
theorem DDs.take : ∀ {vs : List V} {ds : List D} (n : Nat), DDs K G vs ds → DDs K G (vs.take n) (ds.take n)
  | _, _, 0, _ => .nil
  | _, _, _ + 1, .nil => .nil
  | _, _, n + 1, .cons a b => .cons a (DDs.take n b)
theorem DDs.drop : ∀ {vs : List V} {ds : List D} (n : Nat), DDs K G vs ds → DDs K G (vs.drop n) (ds.drop n)
  | _, _, 0, h => h
  | _, _, _ + 1, .nil => .nil
  | _, _, n + 1, .cons _ b => DDs.drop n b
theorem DDs.rev : ∀ {vs : List V} {ds : List D}, DDs K G vs ds → DDs K G vs.reverse ds.reverse
  | _, _, .nil => .nil
  | _, _, .cons a b => by rw [List.reverse_cons, List.reverse_cons]; exact (DDs.rev b).app (.one a)
theorem DDs.erase : ∀ {vs : List V} {ds : List D} (n : Nat), DDs K G vs ds → DDs K G (vs.eraseIdx n) (ds.eraseIdx n)
  | _, _, _, .nil => .nil
  | _, _, 0, .cons _ b => b
  | _, _, n + 1, .cons a b => .cons a (DDs.erase n b)
theorem DDs.dropLast : ∀ {vs : List V} {ds : List D}, DDs K G vs ds → DDs K G vs.dropLast ds.dropLast
  | _, _, .nil => .nil
  | _, _, .cons _ .nil => .nil
  | _, _, .cons a (.cons b c) => .cons a (DDs.dropLast (.cons b c))
theorem DKs.len : ∀ {vs : List (Key × V)} {ds : List (Key × D)}, DKs K G vs ds → vs.length = ds.length
  | _, _, .nil => rfl
  | _, _, .cons _ _ b => congrArg Nat.succ (DKs.len b)
theorem DTs.len : ∀ {vs : List (List Key × V)} {ds : List (List Key × D)}, DTs K G vs ds → vs.length = ds.length
  | _, _, .nil => rfl
  | _, _, .cons _ _ b => congrArg Nat.succ (DTs.len b)
/-- a field -/
theorem DFs.look : ∀ {vs : List (Str × V)} {ds : List (Str × D)} {f : Str} {d : D}, DFs K G vs ds → ds.lookup f = some d → ∃ v, vs.lookup f = some v ∧ DD K G v d
  | _, _, _, _, .nil, e => by cases e
  | _, _, f, d, .cons (k := k) a b, e => by
    rw [List.lookup_cons] at e ⊢
    cases h : f == k with
    | true => rw [h] at e; cases e; exact ⟨_, rfl, a⟩
    | false => rw [h] at e; exact DFs.look b e
theorem DFs.keys : ∀ {vs : List (Str × V)} {ds : List (Str × D)}, DFs K G vs ds → ∀ f, ds.lookup f = none → vs.lookup f = none
  | _, _, .nil, _, _ => rfl
  | _, _, .cons (k := k) a b, f, e => by
    rw [List.lookup_cons] at e ⊢
    cases h : f == k with
    | true => rw [h] at e; cases e
    | false => rw [h] at e; exact DFs.keys b f e
end

/-! ### the state -/
/-- a slot: not known; data; a list or dict of the frame's own; the deck: what is left, the mixed number -/
inductive Cell where
  | no | dat (d : D) | own (d : D) | deck (a q : Addr) (l : List Int) (b : Int) | slf (a : Addr) (d : D)
abbrev Env := List Cell
/-- a value: data, or the own object at a slot -/
inductive W where
  | dat (d : D) | own (i : Nat)
/-- an exception that flies: its class, its fields -/
structure ExV where
  cls : Addr
  fs : List (Str × D)
inductive Res (α : Type) where
  | ok (a : α) | err (x : ExV) (E : Env) | stuck
def Res.bind {α β : Type} : Res α → (α → Res β) → Res β
  | .ok a, f => f a
  | .err x E, _ => .err x E
  | .stuck, _ => .stuck
instance : Monad Res where
  pure := .ok
  bind := Res.bind
@[simp] theorem Res.ok_bind {α β : Type} (a : α) (f : α → Res β) : (Res.ok a).bind f = f a := rfl
@[simp] theorem Res.err_bind {α β : Type} (x : ExV) (E : Env) (f : α → Res β) : (Res.err x E).bind f = .err x E := rfl
@[simp] theorem Res.stuck_bind {α β : Type} (f : α → Res β) : (Res.stuck).bind f = .stuck := rfl

/-- a frame: the heap at its entry, what of it is data, what of it may change -/
structure Fr where
  H0 : Hp
  G0 : Hp
  X0 : List Addr

def OwnAt (K : PySem.W.Frag) (G H : Hp) (a : Addr) : D → Prop
  | .lst ds => ∃ vs, H a = some (.lst vs) ∧ vs.length ≤ sizeLine ∧ DDs K G vs ds
  | .dic kd => ∃ kv, H a = some (.dK kv) ∧ DKs K G kv kd
  | .dit kd => ∃ kv, H a = some (.dT kv) ∧ DTs K G kv kd
  | .obj C fd => ∃ dx fs, H a = some (.ins C dx fs) ∧ DFs K G fs fd
  | _ => False
def DeckAt (H : Hp) (a q : Addr) (l : List Int) (b : Int) : Prop :=
  H a = some (.dK [(.inr "left", .ref q), (.inr "blend", .int b)]) ∧ H q = some (.lst (l.map V.int))
def CellOk (K : PySem.W.Frag) (G H : Hp) (as : List Addr) (v : Option V) : Cell → Prop
  | .no => as = []
  | .dat d => as = [] ∧ ∃ x, v = some x ∧ DD K G x d
  | .own d => ∃ a, as = [a] ∧ v = some (.ref a) ∧ OwnAt K G H a d
  | .deck a q l b => as = [a, q] ∧ v = some (.ref a) ∧ DeckAt H a q l b
  | .slf a d => as = [a] ∧ v = some (.ref a) ∧ OwnAt K G H a d

/-- a tuple never changes -/
def isT : HO → Bool
  | .tup _ => true
  | _ => false
structure StE (K : PySem.W.Frag) (F : Fr) (G H : Hp) (σ : L2.St) (E : Env) (as : Nat → List Addr) : Prop where
  len : σ.length = E.length
  s0 : Same F.G0 G
  s1 : Same G H
  keep : ∀ a o, F.H0 a = some o → a ∉ F.X0 → H a = some o
  dom : ∀ a, H a = none → F.H0 a = none
  priv : ∀ a o, G a ≠ none → F.H0 a = some o → isT o = false → a ∉ F.X0 → F.G0 a ≠ none
  cell : ∀ i c, E[i]? = some c → ∃ v, σ[i]? = some v ∧ CellOk K G H (as i) v c
  sep : ∀ i j a, a ∈ as i → a ∈ as j → i = j
  off : ∀ i a, a ∈ as i → G a = none ∧ (F.H0 a = none ∨ a ∈ F.X0)
  tail : ∀ i, E.length ≤ i → as i = []

def WOk (K : PySem.W.Frag) (G : Hp) (E : Env) (σ : L2.St) (v : V) : W → Prop
  | .dat d => DD K G v d
  | .own i => σ[i]? = some (some v)
def ExOk (K : PySem.W.Frag) (G : Hp) (x : ExV) (c : Value) (dx : Option Addr) : Prop :=
  c = .ref x.cls ∧ match dx with
    | none => x.fs = []
    | some d => ∃ fs, G d = some (.xd fs) ∧ DFs K G fs x.fs

abbrev Wish := L2.St → XK
/-- what is wanted behind an expression -/
def Po (K : PySem.W.Frag) (Wi : Wish) (F : Fr) (G : Hp) (σ : L2.St) (Q : VK) : Res (W × Env) → Prop
  | .ok (w, E') => ∀ v G' H' as', Same G G' → StE K F G' H' σ E' as' → WOk K G' E' σ v w → Q v H'
  | .err x E' => ∀ c dx G' H' as', Same G G' → StE K F G' H' σ E' as' → ExOk K G' x c dx → Wi σ c dx H'
  | .stuck => False
abbrev EF := Env → Res (W × Env)
def tE (K : PySem.W.Frag) (Wi : Wish) (f : EF) : TE := fun σ H Q => ∃ F G E as, StE K F G H σ E as ∧ Po K Wi F G σ Q (f E)
/-- behind a list of arguments -/
def WOks (K : PySem.W.Frag) (G : Hp) (E : Env) (σ : L2.St) : List V → List W → Prop
  | [], [] => True
  | v :: vs, w :: ws => WOk K G E σ v w ∧ WOks K G E σ vs ws
  | _, _ => False
def PoA (K : PySem.W.Frag) (Wi : Wish) (F : Fr) (G : Hp) (σ : L2.St) (Q : List V → Hp → Prop) : Res (List W × Env) → Prop
  | .ok (ws, E') => ∀ vs G' H' as', Same G G' → StE K F G' H' σ E' as' → WOks K G' E' σ vs ws → Q vs H'
  | .err x E' => ∀ c dx G' H' as', Same G G' → StE K F G' H' σ E' as' → ExOk K G' x c dx → Wi σ c dx H'
  | .stuck => False
abbrev AF := Env → Res (List W × Env)
def tA (K : PySem.W.Frag) (Wi : Wish) (f : AF) : TA := fun σ H Q => ∃ F G E as, StE K F G H σ E as ∧ PoA K Wi F G σ Q (f E)
/-- how a statement ends -/
inductive Fl where
  | nx | bk | ct | rt (d : D)
def PoS (K : PySem.W.Frag) (Wi : Wish) (F : Fr) (G : Hp) (Dn : Ends) : Res (Fl × Env) → Prop
  | .ok (.nx, E') => ∀ σ' G' H' as', Same G G' → StE K F G' H' σ' E' as' → Dn.nx σ' H'
  | .ok (.bk, E') => ∀ σ' G' H' as', Same G G' → StE K F G' H' σ' E' as' → Dn.bk σ' H'
  | .ok (.ct, E') => ∀ σ' G' H' as', Same G G' → StE K F G' H' σ' E' as' → Dn.ct σ' H'
  | .ok (.rt d, E') => ∀ v σ' G' H' as', Same G G' → StE K F G' H' σ' E' as' → DD K G' v d → Dn.rt v H'
  | .err x E' => ∀ c dx σ' G' H' as', Same G G' → StE K F G' H' σ' E' as' → ExOk K G' x c dx → Wi σ' c dx H'
  | .stuck => False
abbrev SF := Env → Res (Fl × Env)
def tS (K : PySem.W.Frag) (Wi : Wish) (f : SF) : TS := fun Dn σ H => ∃ F G E as, StE K F G H σ E as ∧ PoS K Wi F G Dn (f E)

abbrev DE (X : Cx) (Wi : Wish) (e : Expr) (f : EF) : Prop := PE X e (tE X.K Wi f)
abbrev DA (X : Cx) (Wi : Wish) (es : List Expr) (f : AF) : Prop := PA X es (tA X.K Wi f)
abbrev DS (X : Cx) (Wi : Wish) (st : Stmt) (f : SF) : Prop := PS X st (tS X.K Wi f)
abbrev DSs (X : Cx) (Wi : Wish) (st : List Stmt) (f : SF) : Prop := PSs X st (tS X.K Wi f)

theorem PE.imp {X : Cx} {e : Expr} {t t' : TE} (h : PE X e t) (i : ∀ σ H Q, t' σ H Q → t σ H Q) : PE X e t' :=
  ⟨fun pins s σ H Q I q => h.run pins s σ H Q I (i σ H Q q)⟩
theorem PT.imp {X : Cx} {e : Expr} {t t' : TT} (h : PT X e t) (i : ∀ σ H Q, t' σ H Q → t σ H Q) : PT X e t' :=
  ⟨fun pins s σ H Q I q => h.run pins s σ H Q I (i σ H Q q)⟩
theorem PA.imp {X : Cx} {e : List Expr} {t t' : TA} (h : PA X e t) (i : ∀ σ H Q, t' σ H Q → t σ H Q) : PA X e t' :=
  ⟨fun pos pins s σ H Q I q => h.run pos pins s σ H Q I (i σ H Q q)⟩
theorem PS.imp {X : Cx} {e : Stmt} {t t' : TS} (h : PS X e t) (i : ∀ D σ H, t' D σ H → t D σ H) : PS X e t' :=
  ⟨fun pins s σ H Q I q => h.run pins s σ H Q I (i Q σ H q)⟩
theorem PSs.imp {X : Cx} {e : List Stmt} {t t' : TS} (h : PSs X e t) (i : ∀ D σ H, t' D σ H → t D σ H) : PSs X e t' :=
  ⟨fun pins s σ H Q I q => h.run pins s σ H Q I (i Q σ H q)⟩

section
variable {K : PySem.W.Frag} {Wi : Wish} {F : Fr} {G G1 H : Hp} {σ : L2.St} {E : Env} {as : Nat → List Addr} {Q : VK}
theorem Po.up {r : Res (W × Env)} (e : Same G G1) (h : Po K Wi F G σ Q r) : Po K Wi F G1 σ Q r := by
  match r, h with
  | .ok (w, E'), h => exact fun v G' H' as' s => h v G' H' as' (e.trans s)
  | .err x E', h => exact fun c dx G' H' as' s => h c dx G' H' as' (e.trans s)
theorem PoA.up {QA : List V → Hp → Prop} {r : Res (List W × Env)} (e : Same G G1) (h : PoA K Wi F G σ QA r) : PoA K Wi F G1 σ QA r := by
  match r, h with
  | .ok (w, E'), h => exact fun v G' H' as' s => h v G' H' as' (e.trans s)
  | .err x E', h => exact fun c dx G' H' as' s => h c dx G' H' as' (e.trans s)
theorem PoS.up {Dn : Ends} {r : Res (Fl × Env)} (e : Same G G1) (h : PoS K Wi F G Dn r) : PoS K Wi F G1 Dn r := by
  match r, h with
  | .ok (.nx, E'), h => exact fun v G' H' as' s => h v G' H' as' (e.trans s)
  | .ok (.bk, E'), h => exact fun v G' H' as' s => h v G' H' as' (e.trans s)
  | .ok (.ct, E'), h => exact fun v G' H' as' s => h v G' H' as' (e.trans s)
  | .ok (.rt d, E'), h => exact fun v σ' G' H' as' s => h v σ' G' H' as' (e.trans s)
  | .err x E', h => exact fun c dx σ' G' H' as' s => h c dx σ' G' H' as' (e.trans s)
/-- behind the first of two steps -/
def Mid (K : PySem.W.Frag) (F : Fr) (G : Hp) (σ : L2.St) (R : V → W → Hp → Hp → Env → (Nat → List Addr) → Prop) (v : V) (H1 : Hp) : Prop :=
  ∃ w G1 E1 as1, Same G G1 ∧ StE K F G1 H1 σ E1 as1 ∧ WOk K G1 E1 σ v w ∧ R v w G1 H1 E1 as1
theorem Po.bind {r : Res (W × Env)} {g : W × Env → Res (W × Env)} (h : Po K Wi F G σ Q (r.bind g)) :
    Po K Wi F G σ (Mid K F G σ fun _ w G1 _ E1 _ => Po K Wi F G1 σ Q (g (w, E1))) r := by
  match r, h with
  | .ok (w, E'), h => exact fun v G' H' as' s st wo => ⟨w, G', E', as', s, st, wo, Po.up s h⟩
  | .err x E', h => exact h
theorem Po.bindA {r : Res (W × Env)} {QA : List V → Hp → Prop} {g : W × Env → Res (List W × Env)} (h : PoA K Wi F G σ QA (r.bind g)) :
    Po K Wi F G σ (Mid K F G σ fun _ w G1 _ E1 _ => PoA K Wi F G1 σ QA (g (w, E1))) r := by
  match r, h with
  | .ok (w, E'), h => exact fun v G' H' as' s st wo => ⟨w, G', E', as', s, st, wo, PoA.up s h⟩
  | .err x E', h => exact h
/-- an expression, then a statement's end with the same slots -/
theorem Po.bindS {r : Res (W × Env)} {Dn : Ends} {g : W × Env → Res (Fl × Env)} (h : PoS K Wi F G Dn (r.bind g)) :
    Po K Wi F G σ (Mid K F G σ fun _ w G1 _ E1 _ => PoS K Wi F G1 Dn (g (w, E1))) r := by
  match r, h with
  | .ok (w, E'), h => exact fun v G' H' as' s st wo => ⟨w, G', E', as', s, st, wo, PoS.up s h⟩
  | .err x E', h => exact fun c dx G' H' as' s st xo => h c dx σ G' H' as' s st xo
def MidA (K : PySem.W.Frag) (F : Fr) (G : Hp) (σ : L2.St) (R : List V → List W → Hp → Hp → Env → (Nat → List Addr) → Prop) (vs : List V) (H1 : Hp) : Prop :=
  ∃ ws G1 E1 as1, Same G G1 ∧ StE K F G1 H1 σ E1 as1 ∧ WOks K G1 E1 σ vs ws ∧ R vs ws G1 H1 E1 as1
theorem PoA.bind {r : Res (List W × Env)} {g : List W × Env → Res (W × Env)} (h : Po K Wi F G σ Q (r.bind g)) :
    PoA K Wi F G σ (MidA K F G σ fun _ ws G1 _ E1 _ => Po K Wi F G1 σ Q (g (ws, E1))) r := by
  match r, h with
  | .ok (w, E'), h => exact fun v G' H' as' s st wo => ⟨w, G', E', as', s, st, wo, Po.up s h⟩
  | .err x E', h => exact h
end
end DL
namespace DL
open PySem PySem.Spec PyProof.Rows L2

section
variable {K : PySem.W.Frag} {Wi : Wish} {F : Fr} {G G' H H' : Hp} {σ : L2.St} {E : Env} {as : Nat → List Addr} {Q : VK}

/-- the heap grows, what is data grows by new things alone -/
structure Al (G H G' H' : Hp) : Prop where
  g : Same G G'
  h : Same H H'
  s : Same G' H'
  new : ∀ a o, G' a ≠ none → G a = none → H a = some o → isT o = true
theorem Al.refl (s : Same G H) : Al G H G H := ⟨Same.refl _, Same.refl _, s, fun _ _ h e => absurd e h⟩
theorem Al.trans {G1 H1 G2 H2 : Hp} (a : Al G H G1 H1) (b : Al G1 H1 G2 H2) : Al G H G2 H2 := by
  refine ⟨a.g.trans b.g, a.h.trans b.h, b.s, fun x o h e q => ?_⟩
  by_cases h1 : G1 x = none
  · exact b.new x o h h1 (a.h x o q)
  · exact a.new x o h1 e q
theorem Al.one {p : Addr} {o : HO} (s : Same G H) (hp : H p = none) : Al G H (upd G p o) (upd H p o) := by
  have gp : G p = none := s.free hp
  refine ⟨fun b u e => ?_, fun b u e => ?_, fun b u e => ?_, fun b o h e q => ?_⟩
  · rw [upd_ne (ne_of_none e gp)]; exact e
  · rw [upd_ne (ne_of_none e hp)]; exact e
  · by_cases hb : b = p
    · subst hb; rw [upd_same] at e ⊢; exact e
    · rw [upd_ne hb] at e ⊢; exact s b u e
  · by_cases hb : b = p
    · rw [hb, hp] at q; cases q
    · rw [upd_ne hb] at h; exact absurd e h
theorem Al.grow (s : Same G H) (h : Same H H') : Al G H G H' := ⟨Same.refl _, h, s.trans h, fun _ _ h e => absurd e h⟩

theorem OwnAt.up {a : Addr} {d : D} (e : Same G G') (h : ∀ o, H a = some o → H' a = some o) (x : OwnAt K G H a d) : OwnAt K G' H' a d := by
  cases d with
  | lst ds => obtain ⟨vs, e1, z, r⟩ := x; exact ⟨vs, h _ e1, z, r.up e⟩
  | dic kd => obtain ⟨vs, e1, r⟩ := x; exact ⟨vs, h _ e1, r.up e⟩
  | dit kd => obtain ⟨vs, e1, r⟩ := x; exact ⟨vs, h _ e1, r.up e⟩
  | obj C fd => obtain ⟨dx, vs, e1, r⟩ := x; exact ⟨dx, vs, h _ e1, r.up e⟩
  | non => exact x.elim
  | bl _ => exact x.elim
  | int _ => exact x.elim
  | str _ => exact x.elim
  | tup _ => exact x.elim
theorem OwnAt.hasM {a : Addr} {d : D} (x : OwnAt K G H a d) : ∃ o, H a = some o ∧ isT o = false := by
  cases d with
  | lst ds => obtain ⟨vs, e1, z, r⟩ := x; exact ⟨_, e1, rfl⟩
  | dic kd => obtain ⟨vs, e1, r⟩ := x; exact ⟨_, e1, rfl⟩
  | dit kd => obtain ⟨vs, e1, r⟩ := x; exact ⟨_, e1, rfl⟩
  | obj C fd => obtain ⟨dx, vs, e1, r⟩ := x; exact ⟨_, e1, rfl⟩
  | non => exact x.elim
  | bl _ => exact x.elim
  | int _ => exact x.elim
  | str _ => exact x.elim
  | tup _ => exact x.elim
theorem OwnAt.hasO {a : Addr} {d : D} (x : OwnAt K G H a d) : ∃ o, H a = some o := let ⟨o, h, _⟩ := x.hasM; ⟨o, h⟩
theorem CellOk.up {l : List Addr} {v : Option V} {c : Cell} (e : Same G G') (h : ∀ a ∈ l, ∀ o, H a = some o → H' a = some o) (x : CellOk K G H l v c) : CellOk K G' H' l v c := by
  cases c with
  | no => exact x
  | dat d => obtain ⟨x1, y, x2, x3⟩ := x; exact ⟨x1, y, x2, x3.up e⟩
  | own d => obtain ⟨a, x1, x2, x3⟩ := x; exact ⟨a, x1, x2, x3.up e (h a (by rw [x1]; exact List.mem_singleton.mpr rfl))⟩
  | slf a d => obtain ⟨x1, x2, x3⟩ := x; exact ⟨x1, x2, x3.up e (h a (by rw [x1]; exact List.mem_singleton.mpr rfl))⟩
  | deck a q z b => obtain ⟨x1, x2, x3, x4⟩ := x; exact ⟨x1, x2, h a (by rw [x1]; simp) _ x3, h q (by rw [x1]; simp) _ x4⟩
theorem CellOk.there {l : List Addr} {v : Option V} {c : Cell} (x : CellOk K G H l v c) : ∀ a ∈ l, ∃ o, H a = some o ∧ isT o = false := by
  intro a ha
  cases c with
  | no => rw [show l = [] from x] at ha; cases ha
  | dat d => rw [x.1] at ha; cases ha
  | own d =>
    obtain ⟨b, x1, x2, x3⟩ := x
    rw [x1] at ha
    rw [List.mem_singleton.mp ha]
    exact x3.hasM
  | slf b d =>
    obtain ⟨x1, x2, x3⟩ := x
    rw [x1] at ha
    rw [List.mem_singleton.mp ha]
    exact x3.hasM
  | deck b q z c =>
    obtain ⟨x1, x2, x3, x4⟩ := x
    rw [x1] at ha
    rcases List.mem_cons.mp ha with e | ha
    · rw [e]; exact ⟨_, x3, rfl⟩
    · rw [List.mem_singleton.mp ha]; exact ⟨_, x4, rfl⟩
theorem StE.thereM (st : StE K F G H σ E as) {i : Nat} {a : Addr} (ha : a ∈ as i) : ∃ o, H a = some o ∧ isT o = false := by
  by_cases hi : i < E.length
  · obtain ⟨v, _, x⟩ := st.cell i E[i] (List.getElem?_eq_getElem hi)
    exact x.there a ha
  · rw [st.tail i (by omega)] at ha; cases ha
theorem StE.there (st : StE K F G H σ E as) {i : Nat} {a : Addr} (ha : a ∈ as i) : ∃ o, H a = some o := let ⟨o, h, _⟩ := st.thereM ha; ⟨o, h⟩
theorem StE.al (st : StE K F G H σ E as) (a : Al G H G' H') : StE K F G' H' σ E as := by
  refine ⟨st.len, st.s0.trans a.g, a.s, fun b o h x => a.h _ _ (st.keep b o h x), fun b h => st.dom b (a.h.free h), fun b o h h0 ht hx => ?_, fun i c e => ?_, st.sep, fun i b hb => ⟨?_, (st.off i b hb).2⟩, st.tail⟩
  · by_cases hg : G b = none
    · by_cases hb : H b = none
      · rw [st.dom b hb] at h0; cases h0
      · obtain ⟨u, hu⟩ := Option.ne_none_iff_exists'.mp hb
        have e := st.keep b o h0 hx
        rw [a.new b o h hg e] at ht; cases ht
    · exact st.priv b o hg h0 ht hx
  · obtain ⟨v, e1, x⟩ := st.cell i c e
    exact ⟨v, e1, x.up a.g fun b _ o q => a.h b o q⟩
  · by_cases hg : G' b = none
    · exact hg
    · obtain ⟨o, q, ht⟩ := st.thereM hb
      rw [a.new b o hg (st.off i b hb).1 q] at ht; cases ht
/-- the rows' own way: from here to here -/
theorem StE.alr (st : StE K F G H σ E as) : Al G H G H := Al.refl st.s1

/-- the addresses without those of a slot -/
def drp (as : Nat → List Addr) (i : Nat) (l : List Addr) : Nat → List Addr := fun j => if j = i then l else as j
theorem drp_same {i : Nat} {l : List Addr} : drp as i l i = l := if_pos rfl
theorem drp_ne {i j : Nat} {l : List Addr} (h : j ≠ i) : drp as i l j = as j := if_neg h
theorem get_set {α : Type} {l : List α} {i j : Nat} {x y : α} (h : (l.set i x)[j]? = some y) : (j = i ∧ y = x) ∨ (j ≠ i ∧ l[j]? = some y) := by
  by_cases e : i = j
  · subst e
    by_cases hl : i < l.length
    · rw [List.getElem?_set_self hl] at h; cases h; exact .inl ⟨rfl, rfl⟩
    · rw [List.getElem?_eq_none (by rw [List.length_set]; omega)] at h; cases h
  · rw [List.getElem?_set_ne e] at h; exact .inr ⟨fun q => e q.symm, h⟩
/-- a slot gets a new cell, whose addresses are l -/
theorem StE.setC (st : StE K F G H σ E as) {i : Nat} {x : Option V} {c : Cell} {l : List Addr} (hc : CellOk K G H l x c) (hl : ∀ a ∈ l, (∀ j, j ≠ i → a ∉ as j) ∧ G a = none ∧ (F.H0 a = none ∨ a ∈ F.X0)) (hi : i < E.length ∨ l = []) :
    StE K F G H (σ.set i x) (E.set i c) (drp as i l) := by
  refine ⟨by rw [List.length_set, List.length_set]; exact st.len, st.s0, st.s1, st.keep, st.dom, st.priv, fun j c' e => ?_, fun j k a h1 h2 => ?_, fun j a h => ?_, fun j hj => ?_⟩
  · rcases get_set e with ⟨rfl, rfl⟩ | ⟨hj, e⟩
    · refine ⟨x, List.getElem?_set_self ?_, ?_⟩
      · have := (List.getElem?_eq_some_iff.mp e).1
        rw [List.length_set] at this; rw [st.len]; exact this
      · rw [drp_same]; exact hc
    · obtain ⟨v, e1, y⟩ := st.cell j c' e
      exact ⟨v, by rw [List.getElem?_set_ne (Ne.symm hj)]; exact e1, by rw [drp_ne hj]; exact y⟩
  · by_cases hj : j = i <;> by_cases hk : k = i
    · rw [hj, hk]
    · subst hj; rw [drp_same] at h1; rw [drp_ne hk] at h2; exact absurd h2 ((hl a h1).1 k hk)
    · subst hk; rw [drp_same] at h2; rw [drp_ne hj] at h1; exact absurd h1 ((hl a h2).1 j hj)
    · rw [drp_ne hj] at h1; rw [drp_ne hk] at h2; exact st.sep j k a h1 h2
  · by_cases hj : j = i
    · subst hj; rw [drp_same] at h; exact (hl a h).2
    · rw [drp_ne hj] at h; exact st.off j a h
  · rw [List.length_set] at hj
    by_cases e : j = i
    · subst e; rw [drp_same]
      rcases hi with hi | hi
      · omega
      · exact hi
    · rw [drp_ne e]; exact st.tail j hj
theorem StE.setD (st : StE K F G H σ E as) {i : Nat} {v : V} {d : D} (h : DD K G v d) : StE K F G H (σ.set i (some v)) (E.set i (.dat d)) (drp as i []) :=
  st.setC ⟨rfl, v, rfl, h⟩ (fun _ h => by cases h) (.inr rfl)
theorem StE.setN (st : StE K F G H σ E as) {i : Nat} {x : Option V} : StE K F G H (σ.set i x) (E.set i .no) (drp as i []) :=
  st.setC (by rfl) (fun _ h => by cases h) (.inr rfl)
/-- a new object becomes the slot's own -/
theorem StE.setO (st : StE K F G H σ E as) {i : Nat} {p : Addr} {o : HO} {d : D} (hp : H p = none) (h : OwnAt K G (upd H p o) p d) (hi : i < E.length) : StE K F G (upd H p o) (σ.set i (some (.ref p))) (E.set i (.own d)) (drp as i [p]) := by
  have gp : G p = none := st.s1.free hp
  have st1 : StE K F G (upd H p o) σ E as := st.al (Al.grow st.s1 fun b u e => by rw [upd_ne (ne_of_none e hp)]; exact e)
  refine st1.setC ⟨p, rfl, rfl, h⟩ (fun a ha => ?_) (.inl hi)
  rw [List.mem_singleton.mp ha]
  exact ⟨fun j _ hj => (by obtain ⟨u, q⟩ := st.there hj; rw [hp] at q; cases q), gp, .inl (st.dom p hp)⟩
/-- an own object is written -/
theorem StE.write (st : StE K F G H σ E as) {i : Nat} {a : Addr} {d d' : D} {o : HO} (e : E[i]? = some (.own d)) (ha : a ∈ as i) (h : OwnAt K G (upd H a o) a d') : StE K F G (upd H a o) σ (E.set i (.own d')) as := by
  obtain ⟨v, e1, b, x1, x2, x3⟩ := st.cell i _ e
  have eb : a = b := by rw [x1] at ha; exact List.mem_singleton.mp ha
  subst eb
  have of := st.off i a ha
  refine ⟨by rw [List.length_set]; exact st.len, st.s0, fun b u q => ?_, fun b u q x => ?_, fun b q => ?_, st.priv, fun j c' q => ?_, st.sep, st.off, fun j hj => st.tail j (by rw [List.length_set] at hj; exact hj)⟩
  · rw [upd_ne (ne_of_none q of.1)]; exact st.s1 b u q
  · have hb : b ≠ a := fun z => by
      subst z
      rcases of.2 with z | z
      · rw [z] at q; cases q
      · exact x z
    rw [upd_ne hb]; exact st.keep b u q x
  · by_cases hb : b = a
    · subst hb; rw [upd_same] at q; cases q
    · rw [upd_ne hb] at q; exact st.dom b q
  · rcases get_set q with ⟨rfl, rfl⟩ | ⟨hj, q⟩
    · exact ⟨v, e1, a, x1, x2, h⟩
    · obtain ⟨w, e2, y⟩ := st.cell j c' q
      refine ⟨w, e2, y.up (Same.refl _) fun b hb u q => ?_⟩
      have : b ≠ a := fun z => by subst z; exact hj (st.sep j i b hb ha)
      rw [upd_ne this]; exact q
/-- an own object becomes data -/
theorem StE.freeze (st : StE K F G H σ E as) {i : Nat} {a : Addr} {d : D} (e : E[i]? = some (.own d)) (ha : σ[i]? = some (some (.ref a))) : ∃ G', Same G G' ∧ DD K G' (.ref a) d ∧ StE K F G' H σ (E.set i (.dat d)) (drp as i []) := by
  obtain ⟨v, e1, b, x1, x2, x3⟩ := st.cell i _ e
  rw [ha] at e1; cases e1
  cases x2
  have hm : a ∈ as i := by rw [x1]; exact List.mem_singleton.mpr rfl
  obtain ⟨ga, hoff⟩ := st.off i a hm
  obtain ⟨o, ho⟩ := x3.hasO
  have sg : Same G (upd G a o) := fun b u q => by rw [upd_ne (ne_of_none q ga)]; exact q
  have st1 : StE K F (upd G a o) H σ (E.set i .no) (drp as i []) := by
    refine ⟨by rw [List.length_set]; exact st.len, st.s0.trans sg, fun b u q => ?_, st.keep, st.dom, fun b o h h0 ht hx => ?_, fun j c' q => ?_, fun j k b h1 h2 => ?_, fun j b h => ?_, fun j hj => ?_⟩
    · by_cases hb : b = a
      · subst hb; rw [upd_same] at q; cases q; exact ho
      · rw [upd_ne hb] at q; exact st.s1 b u q
    · by_cases hb : b = a
      · subst hb
        rcases hoff with z | z
        · rw [z] at h0; cases h0
        · exact absurd z hx
      · rw [upd_ne hb] at h; exact st.priv b o h h0 ht hx
    · rcases get_set q with ⟨rfl, rfl⟩ | ⟨hj, q⟩
      · exact ⟨_, ha, drp_same⟩
      · obtain ⟨w, e2, y⟩ := st.cell j c' q
        exact ⟨w, e2, by rw [drp_ne hj]; exact y.up sg fun b _ u q => q⟩
    · by_cases hj : j = i
      · subst hj; rw [drp_same] at h1; cases h1
      · by_cases hk : k = i
        · subst hk; rw [drp_same] at h2; cases h2
        · rw [drp_ne hj] at h1; rw [drp_ne hk] at h2; exact st.sep j k b h1 h2
    · by_cases hj : j = i
      · subst hj; rw [drp_same] at h; cases h
      · rw [drp_ne hj] at h
        refine ⟨?_, (st.off j b h).2⟩
        have : b ≠ a := fun z => by subst z; exact hj (st.sep j i b h hm)
        rw [upd_ne this]; exact (st.off j b h).1
    · by_cases hj' : j = i
      · subst hj'; rw [drp_same]
      · rw [drp_ne hj']; exact st.tail j (by rw [List.length_set] at hj; exact hj)
  have hd : DD K (upd G a o) (.ref a) d := by
    cases d with
    | lst ds => obtain ⟨vs, e1, z, r⟩ := x3; rw [ho] at e1; cases e1; exact .lst upd_same z (r.up sg)
    | dic kd => obtain ⟨vs, e1, r⟩ := x3; rw [ho] at e1; cases e1; exact .dic upd_same (r.up sg)
    | dit kd => obtain ⟨vs, e1, r⟩ := x3; rw [ho] at e1; cases e1; exact .dit upd_same (r.up sg)
    | obj C fd => obtain ⟨dx, vs, e1, r⟩ := x3; rw [ho] at e1; cases e1; exact .obj upd_same (r.up sg)
    | non => exact x3.elim
    | bl _ => exact x3.elim
    | int _ => exact x3.elim
    | str _ => exact x3.elim
    | tup _ => exact x3.elim
  refine ⟨_, sg, hd, ?_⟩
  have st2 := st1.setD (i := i) hd
  have e1 : σ.set i (some (V.ref a)) = σ := by
    refine List.ext_getElem? fun j => ?_
    by_cases hj : i = j
    · subst hj; rw [List.getElem?_set_self (List.getElem?_eq_some_iff.mp ha).1]; exact ha.symm
    · rw [List.getElem?_set_ne hj]
  have e2 : (E.set i Cell.no).set i (.dat d) = E.set i (.dat d) := List.set_set ..
  have e3 : drp (drp as i []) i [] = drp as i [] := by
    funext j; unfold drp; split <;> rfl
  rw [e1, e2, e3] at st2
  exact st2

/-! ### a frame within the frame (a comprehension's turn, a call) -/
def own (as : Nat → List Addr) (n : Nat) : List Addr := (List.range n).flatMap as
theorem mem_own {n i : Nat} {a : Addr} (h : a ∈ as i) (hi : i < n) : a ∈ own as n := List.mem_flatMap.mpr ⟨i, List.mem_range.mpr hi, h⟩
theorem StE.mem_own (st : StE K F G H σ E as) {i : Nat} {a : Addr} (h : a ∈ as i) : a ∈ own as E.length := by
  by_cases hi : i < E.length
  · exact DL.mem_own h hi
  · rw [st.tail i (by omega)] at h; cases h
theorem of_own {n : Nat} {a : Addr} (h : a ∈ own as n) : ∃ i, a ∈ as i := by
  obtain ⟨i, _, h⟩ := List.mem_flatMap.mp h
  exact ⟨i, h⟩
def inner (G H : Hp) (as : Nat → List Addr) (n : Nat) : Fr := ⟨H, G, own as n⟩
theorem StE.in_ (st : StE K F G H σ E as) : StE K (inner G H as E.length) G H σ E as :=
  ⟨st.len, Same.refl _, st.s1, fun _ _ h _ => h, fun _ h => h, fun _ _ h _ _ _ => h, st.cell, st.sep, fun i a h => ⟨(st.off i a h).1, .inr (st.mem_own h)⟩, st.tail⟩
theorem StE.out {σ' : L2.St} {E' : Env} {as' : Nat → List Addr} {n : Nat} (st : StE K F G H σ E as) (st' : StE K (inner G H as n) G' H' σ' E' as') : StE K F G' H' σ' E' as' := by
  have hx : ∀ a, a ∈ own as n → F.H0 a = none ∨ a ∈ F.X0 := fun a h => by
    obtain ⟨i, h⟩ := of_own h
    exact (st.off i a h).2
  refine ⟨st'.len, st.s0.trans st'.s0, st'.s1, fun b o h x => ?_, fun b h => st.dom b (st'.dom b h), fun b o h h0 ht x => ?_, st'.cell, st'.sep, fun i b h => ⟨(st'.off i b h).1, ?_⟩, st'.tail⟩
  · refine st'.keep b o (st.keep b o h x) fun z => ?_
    rcases hx b z with y | y
    · rw [y] at h; cases h
    · exact x y
  · by_cases hm : b ∈ own as n
    · rcases hx b hm with y | y
      · rw [y] at h0; cases h0
      · exact absurd y x
    · exact st.priv b o (st'.priv b o h (st.keep b o h0 x) ht hm) h0 ht x
  · rcases (st'.off i b h).2 with y | y
    · exact .inl (st.dom b y)
    · exact hx b y
end
end DL
namespace DL
open PySem PySem.Spec PyProof.Rows L2

def keyPy : Key → PyData
  | .inl i => .int i
  | .inr x => .str x
mutual
def D.py : D → PyData
  | .non => .none
  | .bl b => .bool b
  | .int i => .int i
  | .str x => .str x
  | .lst xs => .list (pyL xs)
  | .tup xs => .tuple (pyL xs)
  | .dic kvs => .dict (pyK kvs)
  | .dit kvs => .dict (pyT kvs)
  | .obj _ _ => .none
def pyL : List D → List PyData
  | [] => []
  | x :: xs => x.py :: pyL xs
def pyK : List (Key × D) → List (PyData × PyData)
  | [] => []
  | (k, d) :: r => (keyPy k, d.py) :: pyK r
def pyT : List (List Key × D) → List (PyData × PyData)
  | [] => []
  | (k, d) :: r => (.tuple (k.map keyPy), d.py) :: pyT r
end
mutual
/-- no dict, no instance -/
def D.plain : D → Bool
  | .lst xs => plainL xs
  | .tup xs => plainL xs
  | .dic _ => false
  | .dit _ => false
  | .obj _ _ => false
  | .non => true
  | .bl _ => true
  | .int _ => true
  | .str _ => true
def plainL : List D → Bool
  | [] => true
  | x :: xs => x.plain && plainL xs
end
theorem pyL_map : ∀ l : List D, pyL l = l.map D.py
  | [] => rfl
  | x :: l => by rw [pyL, pyL_map l]; rfl
theorem plainL_all : ∀ l : List D, plainL l = l.all D.plain
  | [] => rfl
  | x :: l => by rw [plainL, plainL_all l]; rfl

section
variable {X : Cx} {pins : List (Addr × Obj)} {σ : L2.St} {G H : Hp} {s : Shared}
mutual
theorem DD.reads (I : Inv X pins σ H s) (e : Same G H) : ∀ (d : D) (v : V) (u : Value), d.plain = true → DD X.K G v d → RelV v u → ∃ as, Reads s.heap u d.py as
  | .non, _, _, _, h, r => by cases h; cases r; exact ⟨_, Reads.none⟩
  | .bl b, _, _, _, h, r => by cases h; cases r; exact ⟨_, Reads.bool b⟩
  | .int i, _, _, _, h, r => by cases h; obtain ⟨t, rfl⟩ := r; exact ⟨_, Reads.int i t⟩
  | .str x, _, _, _, h, r => by cases h; obtain ⟨t, rfl⟩ := r; exact ⟨_, Reads.str x t⟩
  | .lst ds, _, _, p, h, r => by
    cases h with
    | lst hs _ ha =>
      cases r
      obtain ⟨its, rv, ⟨o, n, ho, hc, _, hd⟩, _⟩ := I.list (SqL.of (e _ _ hs))
      obtain ⟨as, hr⟩ := DDs.reads I e ds _ its (by simpa [D.plain] using p) ha rv
      exact ⟨_, Reads.list ho hc hd hr⟩
  | .tup ds, _, _, p, h, r => by
    cases h with
    | tup hs _ ha =>
      cases r
      obtain ⟨its, rv, ⟨o, ho, hc, n, hd⟩, _⟩ := I.tuple (SqT.of (e _ _ hs))
      obtain ⟨as, hr⟩ := DDs.reads I e ds _ its (by simpa [D.plain] using p) ha rv
      exact ⟨_, Reads.tuple ho hc hd hr⟩
  | .dic _, _, _, p, _, _ => by cases p
  | .dit _, _, _, p, _, _ => by cases p
  | .obj _ _, _, _, p, _, _ => by cases p
theorem DDs.reads (I : Inv X pins σ H s) (e : Same G H) : ∀ (ds : List D) (vs : List V) (us : List Value), plainL ds = true → DDs X.K G vs ds → Vals vs us → ∃ as, ReadsAll s.heap us (pyL ds) as
  | [], _, _, _, h, r => by cases h; cases r; exact ⟨_, .nil⟩
  | d :: ds, _, _, p, h, r => by
    cases h with
    | cons h1 h2 =>
      cases r with
      | cons r1 r2 =>
        rw [plainL, Bool.and_eq_true] at p
        obtain ⟨as, q1⟩ := DD.reads I e d _ _ p.1 h1 r1
        obtain ⟨bs, q2⟩ := DDs.reads I e ds _ _ p.2 h2 r2
        exact ⟨_, .cons q1 q2⟩
end
mutual
theorem DD.lay {K : PySem.W.Frag} : ∀ (d : D) (v : V), d.plain = true → DD K G v d → d.py.canLay0 = true
  | .non, _, _, _ => rfl
  | .bl b, _, _, _ => rfl
  | .int i, _, _, _ => rfl
  | .str x, _, _, h => by cases h with | str _ h => exact h.2
  | .lst ds, _, p, h => by cases h with | lst _ _ ha => exact DDs.lay ds _ (by simpa [D.plain] using p) ha
  | .tup ds, _, p, h => by cases h with | tup _ _ ha => exact DDs.lay ds _ (by simpa [D.plain] using p) ha
  | .dic _, _, p, _ => by cases p
  | .dit _, _, p, _ => by cases p
  | .obj _ _, _, p, _ => by cases p
theorem DDs.lay {K : PySem.W.Frag} : ∀ (ds : List D) (vs : List V), plainL ds = true → DDs K G vs ds → PyData.canLayAll0 (pyL ds) = true
  | [], _, _, _ => rfl
  | d :: ds, _, p, h => by
    cases h with
    | cons h1 h2 =>
      rw [plainL, Bool.and_eq_true] at p
      show (PyData.canLay0 d.py && PyData.canLayAll0 (pyL ds)) = true
      rw [DD.lay d _ p.1 h1, DDs.lay ds _ p.2 h2]; rfl
end
end

/-! ### reading a value -/
def rd (E : Env) : W → Res D
  | .dat d => .ok d
  | .own i => match E[i]? with
    | some (.own d) => .ok d
    | _ => .stuck
def ofO {α : Type} : Option α → Res α
  | some a => .ok a
  | none => .stuck
@[simp] theorem ofO_some {α : Type} (a : α) : ofO (some a) = .ok a := rfl
@[simp] theorem rd_dat (E : Env) (d : D) : rd E (.dat d) = .ok d := rfl
theorem rd_own (E : Env) (i : Nat) : (∃ d, E[i]? = some (.own d) ∧ rd E (.own i) = .ok d) ∨ rd E (.own i) = .stuck := by
  cases h : E[i]? with
  | none => exact .inr (by unfold rd; simp [h])
  | some c =>
    cases c with
    | own d => exact .inl ⟨d, rfl, by unfold rd; simp [h]⟩
    | no => exact .inr (by unfold rd; simp [h])
    | dat d => exact .inr (by unfold rd; simp [h])
    | deck a q l b => exact .inr (by unfold rd; simp [h])
    | slf a d => exact .inr (by unfold rd; simp [h])
theorem rd_no (E : Env) (w : W) : (∃ d, rd E w = .ok d) ∨ rd E w = .stuck := by
  cases w with
  | dat d => exact .inl ⟨d, rfl⟩
  | own i => exact (rd_own E i).imp (fun ⟨d, _, h⟩ => ⟨d, h⟩) id
/-- what is read: data, or the frame's own -/
inductive BD (K : PySem.W.Frag) (G H : Hp) (v : V) (d : D) : Prop
  | dat : DD K G v d → BD K G H v d
  | own {a : Addr} : v = .ref a → OwnAt K G H a d → BD K G H v d
section
variable {K : PySem.W.Frag} {Wi : Wish} {F : Fr} {G G1 G2 H H1 H2 : Hp} {σ : L2.St} {E E1 E2 : Env} {as as2 : Nat → List Addr} {Q : VK} {v : V} {w : W} {d : D}
theorem WOk.rd (h : WOk K G1 E1 σ v w) (s : Same G1 G2) (st : StE K F G2 H2 σ E2 as2) (e : DL.rd E2 w = .ok d) : BD K G2 H2 v d := by
  cases w with
  | dat d' => cases e; exact .dat (DD.up s h)
  | own i =>
    rcases rd_own E2 i with ⟨d', e1, z⟩ | z
    · rw [z] at e; cases e
      obtain ⟨x, e2, a, x1, x2, x3⟩ := st.cell i _ e1
      rw [h] at e2; cases e2
      cases x2
      exact .own rfl x3
    · rw [z] at e; cases e
theorem Po.rd {g : D → Res (W × Env)} (h : Po K Wi F G σ Q ((DL.rd E w).bind g)) : ∃ d, DL.rd E w = .ok d ∧ Po K Wi F G σ Q (g d) := by
  rcases rd_no E w with ⟨d, e⟩ | e
  · rw [e] at h; exact ⟨d, e, h⟩
  · rw [e] at h; exact h.elim
theorem PoS.rd {Dn : Ends} {g : D → Res (Fl × Env)} (h : PoS K Wi F G Dn ((DL.rd E w).bind g)) : ∃ d, DL.rd E w = .ok d ∧ PoS K Wi F G Dn (g d) := by
  rcases rd_no E w with ⟨d, e⟩ | e
  · rw [e] at h; exact ⟨d, e, h⟩
  · rw [e] at h; exact h.elim
theorem Po.of {α : Type} {o : Option α} {g : α → Res (W × Env)} (h : Po K Wi F G σ Q ((ofO o).bind g)) : ∃ d, o = some d ∧ Po K Wi F G σ Q (g d) := by
  cases o with
  | none => exact h.elim
  | some d => exact ⟨d, rfl, h⟩
theorem PoS.of {α : Type} {o : Option α} {Dn : Ends} {g : α → Res (Fl × Env)} (h : PoS K Wi F G Dn ((ofO o).bind g)) : ∃ d, o = some d ∧ PoS K Wi F G Dn (g d) := by
  cases o with
  | none => exact h.elim
  | some d => exact ⟨d, rfl, h⟩
theorem Po.mono {Q' : VK} (i : ∀ v H, Q v H → Q' v H) : ∀ {r : Res (W × Env)}, Po K Wi F G σ Q r → Po K Wi F G σ Q' r
  | .ok (_, _), h => fun v G' H' as' s st wo => i _ _ (h v G' H' as' s st wo)
  | .err _ _, h => h
theorem PoA.mono {Q Q' : List V → Hp → Prop} (i : ∀ v H, Q v H → Q' v H) : ∀ {r : Res (List W × Env)}, PoA K Wi F G σ Q r → PoA K Wi F G σ Q' r
  | .ok (_, _), h => fun v G' H' as' s st wo => i _ _ (h v G' H' as' s st wo)
  | .err _ _, h => h
/-- the answer of a value's rule: d -/
def Rz (K : PySem.W.Frag) (G H : Hp) (Q : VK) (d : D) : Prop := ∀ v G' H', Al G H G' H' → DD K G' v d → Q v H'
theorem Po.rz (st : StE K F G H σ E as) (h : Po K Wi F G σ Q (.ok (.dat d, E))) : Rz K G H Q d := fun v G' H' a dd => h v G' H' as a.g (st.al a) dd
end

/-! ### what rules say of data -/
def OpD (K : PySem.W.Frag) (r : V → V → Hp → VK → Prop) (g : D → D → Option D) : Prop :=
  ∀ (G H : Hp) (x y : V) (a b d : D) (Q : VK), Same G H → BD K G H x a → BD K G H y b → g a b = some d → Rz K G H Q d → r x y H Q
def UnD (K : PySem.W.Frag) (r : V → Hp → VK → Prop) (g : D → Option D) : Prop :=
  ∀ (G H : Hp) (x : V) (a d : D) (Q : VK), Same G H → BD K G H x a → g a = some d → Rz K G H Q d → r x H Q

inductive BDs (K : PySem.W.Frag) (G H : Hp) : List V → List D → Prop
  | nil : BDs K G H [] []
  | cons {v : V} {vs : List V} {d : D} {ds : List D} : BD K G H v d → BDs K G H vs ds → BDs K G H (v :: vs) (d :: ds)
def CallD (K : PySem.W.Frag) (r : List V → Hp → VK → Prop) (g : List D → Option D) : Prop :=
  ∀ (G H : Hp) (xs : List V) (ds : List D) (d : D) (Q : VK), Same G H → BDs K G H xs ds → g ds = some d → Rz K G H Q d → r xs H Q
def MethD (K : PySem.W.Frag) (T : String) (r : V → List V → Hp → VK → Prop) (g : D → List D → Option D) : Prop :=
  ∀ (G H : Hp) (x : V) (xs : List V) (a : D) (ds : List D) (d : D) (Q : VK), Same G H → BD K G H x a → BDs K G H xs ds → g a ds = some d → Rz K G H Q d → tyV K T x H ∧ r x xs H Q

def rds (E : Env) : List W → Res (List D)
  | [] => .ok []
  | w :: ws => (rd E w).bind fun d => (rds E ws).bind fun ds => .ok (d :: ds)
section
variable {K : PySem.W.Frag} {Wi : Wish} {F : Fr} {G G1 G2 H H1 H2 : Hp} {σ : L2.St} {E E1 E2 : Env} {as as2 : Nat → List Addr} {Q : VK}
theorem rds_no : ∀ (ws : List W), (∃ ds, rds E ws = .ok ds) ∨ rds E ws = .stuck
  | [] => .inl ⟨_, rfl⟩
  | w :: ws => by
    rcases rds_no ws with ⟨ds, h⟩ | h
    · cases e : rd E w with
      | ok d => exact .inl ⟨d :: ds, by rw [rds, e, h]; rfl⟩
      | err x E' => rcases rd_no E w with ⟨d, z⟩ | z <;> rw [z] at e <;> cases e
      | stuck => exact .inr (by rw [rds, e]; rfl)
    · cases e : rd E w with
      | ok d => exact .inr (by rw [rds, e, h]; rfl)
      | err x E' => rcases rd_no E w with ⟨d, z⟩ | z <;> rw [z] at e <;> cases e
      | stuck => exact .inr (by rw [rds, e]; rfl)
theorem Po.rds {ws : List W} {g : List D → Res (W × Env)} (h : Po K Wi F G σ Q ((DL.rds E ws).bind g)) : ∃ ds, DL.rds E ws = .ok ds ∧ Po K Wi F G σ Q (g ds) := by
  rcases rds_no (E := E) ws with ⟨ds, e⟩ | e
  · rw [e] at h; exact ⟨ds, e, h⟩
  · rw [e] at h; exact h.elim
theorem WOks.rds : ∀ {vs : List V} {ws : List W} {ds : List D}, WOks K G1 E1 σ vs ws → Same G1 G2 → StE K F G2 H2 σ E2 as2 → DL.rds E2 ws = .ok ds → BDs K G2 H2 vs ds
  | [], [], ds, _, _, _, e => by cases e; exact .nil
  | v :: vs, w :: ws, ds, h, s, st, e => by
    rw [DL.rds] at e
    cases e1 : DL.rd E2 w with
    | ok d =>
      rw [e1] at e
      cases e2 : DL.rds E2 ws with
      | ok ds' =>
        rw [e2] at e; cases e
        exact .cons (h.1.rd s st e1) (WOks.rds h.2 s st e2)
      | err x E' => rw [e2] at e; cases e
      | stuck => rw [e2] at e; cases e
    | err x E' => rw [e1] at e; cases e
    | stuck => rw [e1] at e; cases e
  | [], _ :: _, _, h, _, _, _ => h.elim
  | _ :: _, [], _, h, _, _, _ => h.elim
end

/-! ### the rules -/
section
variable {X : Cx} {Wi : Wish} {e a b : Expr} {es : List Expr} {fa fb : EF} {fs : AF} {pos : Pos}
def eC (d : D) : EF := fun E => .ok (.dat d, E)
theorem de_c {v : V} {d : D} (h : PE X e (tC v)) (hd : ∀ G, DD X.K G v d) : DE X Wi e (eC d) := by
  refine PE.imp h fun σ H Q q => ?_
  obtain ⟨F, G, E, as, st, p⟩ := q
  exact Po.rz st p v G H (Al.refl st.s1) (hd G)
theorem de_int {i : Int} {j pos} : DE X Wi (.Constant (.int i) j pos) (eC (.int i)) := de_c pe_int fun _ => .int i
theorem de_bl {i : Bool} {j pos} : DE X Wi (.Constant (.bool i) j pos) (eC (.bl i)) := de_c pe_bl fun _ => .bl i
theorem de_non {j pos} : DE X Wi (.Constant .none j pos) (eC .non) := de_c pe_non fun _ => .non
theorem de_str {x : Str} {j pos} (h : SOk x) : DE X Wi (.Constant (.str x) j pos) (eC (.str x)) := de_c pe_str fun _ => .str x h

def eV (i : Nat) : EF := fun E => match E[i]? with
  | some (.dat d) => .ok (.dat d, E)
  | some (.own _) => .ok (.own i, E)
  | _ => .stuck
theorem de_v {i : Nat} (h : PE X e (tVar i)) : DE X Wi e (eV i) := by
  refine PE.imp h fun σ H Q q => ?_
  obtain ⟨F, G, E, as, st, p⟩ := q
  unfold eV at p
  split at p
  · rename_i d e1
    obtain ⟨v, e2, x⟩ := st.cell i _ e1
    obtain ⟨_, y, rfl, dd⟩ := x
    exact ⟨y, e2, Po.rz st p y G H (Al.refl st.s1) dd⟩
  · rename_i d e1
    obtain ⟨v, e2, x⟩ := st.cell i _ e1
    obtain ⟨a, _, rfl, dd⟩ := x
    exact ⟨_, e2, p _ G H as (Same.refl _) st e2⟩
  · exact p.elim

def eOp (g : D → D → Option D) (fa fb : EF) : EF := fun E => (fa E).bind fun p => (fb p.2).bind fun q => (rd q.2 p.1).bind fun x => (rd q.2 q.1).bind fun y => (ofO (g x y)).bind fun d => .ok (.dat d, q.2)
theorem tOp_of {r : V → V → Hp → VK → Prop} {g : D → D → Option D} (hg : OpD X.K r g) : ∀ σ H Q, tE X.K Wi (eOp g fa fb) σ H Q → tOp r (tE X.K Wi fa) (tE X.K Wi fb) σ H Q := by
  intro σ H Q q
  obtain ⟨F, G, E, as, st, p⟩ := q
  refine ⟨F, G, E, as, st, Po.mono (fun x H1 m => ?_) (Po.bind p)⟩
  obtain ⟨w1, G1, E1, as1, s1, st1, wo1, p1⟩ := m
  refine ⟨F, G1, E1, as1, st1, Po.mono (fun y H2 m => ?_) (Po.bind p1)⟩
  obtain ⟨w2, G2, E2, as2, s2, st2, wo2, p2⟩ := m
  obtain ⟨d1, e1, p2⟩ := Po.rd p2
  obtain ⟨d2, e2, p2⟩ := Po.rd p2
  obtain ⟨d, e3, p2⟩ := Po.of p2
  exact hg G2 H2 x y d1 d2 d Q st2.s1 (wo1.rd s2 st2 e1) (wo2.rd (Same.refl _) st2 e2) e3 (Po.rz st2 p2)
theorem de_op {op : Operator} {r : V → V → Hp → VK → Prop} {g : D → D → Option D} (ho : OpR X (binaryOp op) r) (hg : OpD X.K r g) (ha : DE X Wi a fa) (hb : DE X Wi b fb) : DE X Wi (.BinOp a op b pos) (eOp g fa fb) :=
  PE.imp (pe_op ho ha hb) (tOp_of hg)
theorem de_cmp {op : CmpOp} {r : V → V → Hp → VK → Prop} {g : D → D → Option D} (ho : OpR X (compareOp op) r) (hg : OpD X.K r g) (ha : DE X Wi a fa) (hb : DE X Wi b fb) (hm : behindInMarks op b = false) : DE X Wi (.Compare a [op] [b] pos) (eOp g fa fb) :=
  PE.imp (pe_cmpR ho ha hb hm) (tOp_of hg)
def eUn (g : D → Option D) (fa : EF) : EF := fun E => (fa E).bind fun p => (rd p.2 p.1).bind fun x => (ofO (g x)).bind fun d => .ok (.dat d, p.2)
theorem tUn_of {r : V → Hp → VK → Prop} {g : D → Option D} (hg : UnD X.K r g) : ∀ σ H Q, tE X.K Wi (eUn g fa) σ H Q → tUn r (tE X.K Wi fa) σ H Q := by
  intro σ H Q q
  obtain ⟨F, G, E, as, st, p⟩ := q
  refine ⟨F, G, E, as, st, Po.mono (fun x H1 m => ?_) (Po.bind p)⟩
  obtain ⟨w1, G1, E1, as1, s1, st1, wo1, p1⟩ := m
  obtain ⟨d1, e1, p1⟩ := Po.rd p1
  obtain ⟨d, e3, p1⟩ := Po.of p1
  exact hg G1 H1 x d1 d Q st1.s1 (wo1.rd (Same.refl _) st1 e1) e3 (Po.rz st1 p1)
theorem de_un {op : UnaryOp} {r : V → Hp → VK → Prop} {g : D → Option D} (ho : UnR X (unaryOp op) r) (hg : UnD X.K r g) (ha : DE X Wi a fa) : DE X Wi (.UnaryOp op a pos) (eUn g fa) := PE.imp (pe_un ho ha) (tUn_of hg)

/-! arguments -/
def aN : AF := fun E => .ok ([], E)
def aC (f : EF) (g : AF) : AF := fun E => (f E).bind fun p => (g p.2).bind fun q => .ok (p.1 :: q.1, q.2)
end
end DL
namespace DL
open PySem PySem.Spec PyProof.Rows L2

/-! ### new objects -/
def PoN (K : PySem.W.Frag) (Wi : Wish) (F : Fr) (G : Hp) (σ : L2.St) (Q : VK) : Res (D × Env) → Prop
  | .ok (d, E') => ∀ p G' H' as', Same G G' → StE K F G' H' σ E' as' → G' p = none → F.H0 p = none → (∀ j, p ∉ as' j) → OwnAt K G' H' p d → Q (.ref p) H'
  | .err x E' => ∀ c dx G' H' as', Same G G' → StE K F G' H' σ E' as' → ExOk K G' x c dx → Wi σ c dx H'
  | .stuck => False
abbrev NF := Env → Res (D × Env)
def tN (K : PySem.W.Frag) (Wi : Wish) (f : NF) : TE := fun σ H Q => ∃ F G E as, StE K F G H σ E as ∧ PoN K Wi F G σ Q (f E)
abbrev DN (X : Cx) (Wi : Wish) (e : Expr) (f : NF) : Prop := PE X e (tN X.K Wi f)
/-- as data -/
def eN (f : NF) : EF := fun E => (f E).bind fun p => .ok (.dat p.1, p.2)

section
variable {K : PySem.W.Frag} {Wi : Wish} {F : Fr} {G G1 G2 H H1 H2 : Hp} {σ : L2.St} {E E1 E2 : Env} {as as2 : Nat → List Addr} {Q : VK} {v : V} {w : W} {d : D}
theorem StE.freezeN (st : StE K F G H σ E as) {p : Addr} (gp : G p = none) (fp : F.H0 p = none) (np : ∀ j, p ∉ as j) (o : OwnAt K G H p d) : ∃ G', Same G G' ∧ DD K G' (.ref p) d ∧ StE K F G' H σ E as := by
  obtain ⟨u, hu⟩ := o.hasO
  have sg : Same G (upd G p u) := fun b z q => by rw [upd_ne (ne_of_none q gp)]; exact q
  refine ⟨upd G p u, sg, ?_, st.len, st.s0.trans sg, fun b z q => ?_, st.keep, st.dom, fun b u h h0 ht x => ?_, fun i c e => ?_, st.sep, fun i b hb => ⟨?_, (st.off i b hb).2⟩, st.tail⟩
  · cases d with
    | lst ds => obtain ⟨vs, e1, z, r⟩ := o; rw [hu] at e1; cases e1; exact .lst upd_same z (r.up sg)
    | dic kd => obtain ⟨vs, e1, r⟩ := o; rw [hu] at e1; cases e1; exact .dic upd_same (r.up sg)
    | dit kd => obtain ⟨vs, e1, r⟩ := o; rw [hu] at e1; cases e1; exact .dit upd_same (r.up sg)
    | obj C fd => obtain ⟨dx, vs, e1, r⟩ := o; rw [hu] at e1; cases e1; exact .obj upd_same (r.up sg)
    | non => exact o.elim
    | bl _ => exact o.elim
    | int _ => exact o.elim
    | str _ => exact o.elim
    | tup _ => exact o.elim
  · by_cases hb : b = p
    · subst hb; rw [upd_same] at q; cases q; exact hu
    · rw [upd_ne hb] at q; exact st.s1 b z q
  · by_cases hb : b = p
    · rw [hb, fp] at h0; cases h0
    · rw [upd_ne hb] at h; exact st.priv b u h h0 ht x
  · obtain ⟨v, e1, x⟩ := st.cell i c e
    exact ⟨v, e1, x.up sg fun _ _ _ q => q⟩
  · rw [upd_ne (fun (z : b = p) => np i (by rw [← z]; exact hb))]; exact (st.off i b hb).1
theorem PoN.po {r : Res (D × Env)} (h : Po K Wi F G σ Q (r.bind fun p => .ok (.dat p.1, p.2))) : PoN K Wi F G σ Q r := by
  match r, h with
  | .ok (d, E'), h =>
    intro p G' H' as' s st gp fp np o
    obtain ⟨G2, s2, dd, st2⟩ := st.freezeN gp fp np o
    exact h _ G2 H' as' (s.trans s2) st2 dd
  | .err x E', h => exact h
/-- the answer of a rule that makes a list or a dict -/
def RzN (K : PySem.W.Frag) (G H : Hp) (Q : VK) (d : D) : Prop := ∀ p H', H p = none → Same H H' → OwnAt K G H' p d → Q (.ref p) H'
theorem OwnAt.data {p : Addr} {u : HO} (o : OwnAt K G H p d) (hu : H p = some u) (gp : G p = none) : DD K (upd G p u) (.ref p) d := by
  have sg : Same G (upd G p u) := fun b z q => by rw [upd_ne (ne_of_none q gp)]; exact q
  cases d with
  | lst ds => obtain ⟨vs, e1, z, r⟩ := o; rw [hu] at e1; cases e1; exact .lst upd_same z (r.up sg)
  | dic kd => obtain ⟨vs, e1, r⟩ := o; rw [hu] at e1; cases e1; exact .dic upd_same (r.up sg)
  | dit kd => obtain ⟨vs, e1, r⟩ := o; rw [hu] at e1; cases e1; exact .dit upd_same (r.up sg)
  | obj C fd => obtain ⟨dx, vs, e1, r⟩ := o; rw [hu] at e1; cases e1; exact .obj upd_same (r.up sg)
  | non => exact o.elim
  | bl _ => exact o.elim
  | int _ => exact o.elim
  | str _ => exact o.elim
  | tup _ => exact o.elim
theorem Al.fresh {p : Addr} {u : HO} (s : Same G H) (hp : H p = none) (h : Same H H2) (e : H2 p = some u) : Al G H (upd G p u) H2 := by
  have gp : G p = none := s.free hp
  refine ⟨fun b z q => ?_, h, fun b z q => ?_, fun b o hb e2 q => ?_⟩
  · rw [upd_ne (ne_of_none q gp)]; exact q
  · by_cases hb : b = p
    · subst hb; rw [upd_same] at q; cases q; exact e
    · rw [upd_ne hb] at q; exact h b z (s b z q)
  · by_cases hb' : b = p
    · rw [hb', hp] at q; cases q
    · rw [upd_ne hb'] at hb; exact absurd e2 hb
theorem Rz.new (s : Same G H) (h : Rz K G H Q d) : RzN K G H Q d := fun p H' hp hs o => by
  obtain ⟨u, hu⟩ := o.hasO
  exact h _ _ _ (Al.fresh s hp hs hu) (o.data hu (s.free hp))
theorem PoN.rz (st : StE K F G H σ E as) (h : PoN K Wi F G σ Q (.ok (d, E))) : RzN K G H Q d := fun p H' hp hs o => by
  have a : Al G H G H' := Al.grow st.s1 hs
  refine h p G H' as (Same.refl _) (st.al a) (st.s1.free hp) (st.dom p hp) (fun j hj => ?_) o
  obtain ⟨u, q⟩ := st.there hj
  rw [hp] at q; cases q
theorem PoN.up {r : Res (D × Env)} (e : Same G G1) (h : PoN K Wi F G σ Q r) : PoN K Wi F G1 σ Q r := by
  match r, h with
  | .ok (w, E'), h => exact fun v G' H' as' s => h v G' H' as' (e.trans s)
  | .err x E', h => exact fun c dx G' H' as' s => h c dx G' H' as' (e.trans s)
theorem Po.bindN {r : Res (W × Env)} {g : W × Env → Res (D × Env)} (h : PoN K Wi F G σ Q (r.bind g)) :
    Po K Wi F G σ (Mid K F G σ fun _ w G1 _ E1 _ => PoN K Wi F G1 σ Q (g (w, E1))) r := by
  match r, h with
  | .ok (w, E'), h => exact fun v G' H' as' s st wo => ⟨w, G', E', as', s, st, wo, PoN.up s h⟩
  | .err x E', h => exact h
theorem PoA.bindN {r : Res (List W × Env)} {g : List W × Env → Res (D × Env)} (h : PoN K Wi F G σ Q (r.bind g)) :
    PoA K Wi F G σ (MidA K F G σ fun _ ws G1 _ E1 _ => PoN K Wi F G1 σ Q (g (ws, E1))) r := by
  match r, h with
  | .ok (w, E'), h => exact fun v G' H' as' s st wo => ⟨w, G', E', as', s, st, wo, PoN.up s h⟩
  | .err x E', h => exact h
theorem PoN.rd {g : D → Res (D × Env)} (h : PoN K Wi F G σ Q ((DL.rd E w).bind g)) : ∃ d, DL.rd E w = .ok d ∧ PoN K Wi F G σ Q (g d) := by
  rcases rd_no E w with ⟨d, e⟩ | e
  · rw [e] at h; exact ⟨d, e, h⟩
  · rw [e] at h; exact h.elim
theorem PoN.rds {ws : List W} {g : List D → Res (D × Env)} (h : PoN K Wi F G σ Q ((DL.rds E ws).bind g)) : ∃ ds, DL.rds E ws = .ok ds ∧ PoN K Wi F G σ Q (g ds) := by
  rcases rds_no (E := E) ws with ⟨ds, e⟩ | e
  · rw [e] at h; exact ⟨ds, e, h⟩
  · rw [e] at h; exact h.elim
theorem PoN.of {α : Type} {o : Option α} {g : α → Res (D × Env)} (h : PoN K Wi F G σ Q ((ofO o).bind g)) : ∃ d, o = some d ∧ PoN K Wi F G σ Q (g d) := by
  cases o with
  | none => exact h.elim
  | some d => exact ⟨d, rfl, h⟩
end
def OpN (K : PySem.W.Frag) (r : V → V → Hp → VK → Prop) (g : D → D → Option D) : Prop :=
  ∀ (G H : Hp) (x y : V) (a b d : D) (Q : VK), Same G H → BD K G H x a → BD K G H y b → g a b = some d → RzN K G H Q d → r x y H Q
theorem OpN.d {K : PySem.W.Frag} {r : V → V → Hp → VK → Prop} {g : D → D → Option D} (h : OpN K r g) : OpD K r g := fun G H x y a b d Q s ha hb e z => h G H x y a b d Q s ha hb e (z.new s)
def CallN (K : PySem.W.Frag) (r : List V → Hp → VK → Prop) (g : List D → Option D) : Prop :=
  ∀ (G H : Hp) (xs : List V) (ds : List D) (d : D) (Q : VK), Same G H → BDs K G H xs ds → g ds = some d → RzN K G H Q d → r xs H Q
theorem CallN.d {K : PySem.W.Frag} {r : List V → Hp → VK → Prop} {g : List D → Option D} (h : CallN K r g) : CallD K r g := fun G H xs ds d Q s hb e z => h G H xs ds d Q s hb e (z.new s)

section
variable {X : Cx} {Wi : Wish} {e a b : Expr} {es : List Expr} {fa fb : EF} {fs : AF} {f : NF} {p pos : Pos} {x : Str}
theorem dn_de (h : DN X Wi e f) : DE X Wi e (eN f) := PE.imp h fun σ H Q q => by
  obtain ⟨F, G, E, as, st, p⟩ := q
  exact ⟨F, G, E, as, st, PoN.po p⟩

/-! ### arguments -/
theorem da_nil : DA X Wi [] aN := by
  refine PA.imp pa_nil fun σ H Q q => ?_
  obtain ⟨F, G, E, as, st, p⟩ := q
  exact p [] G H as (Same.refl _) st True.intro
theorem WOk.up {K : PySem.W.Frag} {G1 G2 : Hp} {E1 E2 : Env} {σ : L2.St} {v : V} {w : W} (s : Same G1 G2) (h : WOk K G1 E1 σ v w) : WOk K G2 E2 σ v w := by
  cases w with
  | dat d => exact DD.up s h
  | own i => exact h
theorem da_cons (ha : DE X Wi a fa) (hr : DA X Wi es fs) (hs : starEach (a :: es) X.env = (false, eval a X.env) :: starEach es X.env := by rfl) : DA X Wi (a :: es) (aC fa fs) := by
  refine PA.imp (pa_cons ha hr hs) fun σ H Q q => ?_
  obtain ⟨F, G, E, as, st, p⟩ := q
  refine ⟨F, G, E, as, st, Po.mono (fun x H1 m => ?_) (Po.bindA p)⟩
  obtain ⟨w1, G1, E1, as1, s1, st1, wo1, p1⟩ := m
  refine ⟨F, G1, E1, as1, st1, ?_⟩
  generalize fs E1 = r at p1 ⊢
  match r, p1 with
  | .ok (ws, E2), p1 => exact fun vs G2 H2 as2 s2 st2 wo2 => p1 (x :: vs) G2 H2 as2 s2 st2 ⟨WOk.up s2 wo1, wo2⟩
  | .err y E2, p1 => exact p1

/-! ### calls of built-ins -/
def eCall (g : List D → Option D) (fs : AF) : EF := fun E => (fs E).bind fun p => (rds p.2 p.1).bind fun ds => (ofO (g ds)).bind fun d => .ok (.dat d, p.2)
def nCall (g : List D → Option D) (fs : AF) : NF := fun E => (fs E).bind fun p => (rds p.2 p.1).bind fun ds => (ofO (g ds)).bind fun d => .ok (d, p.2)
theorem tCB_of {r : List V → Hp → VK → Prop} {g : List D → Option D} (hg : CallD X.K r g) : ∀ σ H Q, tE X.K Wi (eCall g fs) σ H Q → tCB r (tA X.K Wi fs) σ H Q := by
  intro σ H Q q
  obtain ⟨F, G, E, as, st, p⟩ := q
  refine ⟨F, G, E, as, st, PoA.mono (fun x H1 m => ?_) (PoA.bind p)⟩
  obtain ⟨ws, G1, E1, as1, s1, st1, wo1, p1⟩ := m
  obtain ⟨ds, e1, p1⟩ := Po.rds p1
  obtain ⟨d, e3, p1⟩ := Po.of p1
  exact hg G1 H1 x ds d Q st1.s1 (wo1.rds (Same.refl _) st1 e1) e3 (Po.rz st1 p1)
theorem tCBN_of {r : List V → Hp → VK → Prop} {g : List D → Option D} (hg : CallN X.K r g) : ∀ σ H Q, tN X.K Wi (nCall g fs) σ H Q → tCB r (tA X.K Wi fs) σ H Q := by
  intro σ H Q q
  obtain ⟨F, G, E, as, st, p⟩ := q
  refine ⟨F, G, E, as, st, PoA.mono (fun x H1 m => ?_) (PoA.bindN p)⟩
  obtain ⟨ws, G1, E1, as1, s1, st1, wo1, p1⟩ := m
  obtain ⟨ds, e1, p1⟩ := PoN.rds p1
  obtain ⟨d, e3, p1⟩ := PoN.of p1
  exact hg G1 H1 x ds d Q st1.s1 (wo1.rds (Same.refl _) st1 e1) e3 (PoN.rz st1 p1)
theorem de_callB {id : String} {r : List V → Hp → VK → Prop} {g : List D → Option D} (hc : CallR X (.builtin id) r) (hd : CallD X.K r g) (hg : Gl X x) (hm : X.mg x = none) (hv : bootBuiltins x = some (.builtin id)) (ha : DA X Wi (a :: es) fs) (hn : x ≠ "__name__" := by decide) (hdb : (x == ("__debug__" : Str)) = false := by decide)
    (he : starEach (a :: es) X.env = (false, eval a X.env) :: starEach es X.env := by rfl) (hpl : (backTo pos (starEach es X.env)).any (·.1) = false := by rfl) : DE X Wi (.Call (.Name x p) (a :: es) [] pos) (eCall g fs) :=
  PE.imp (pe_callB hc hg hm hv ha hn hdb he hpl) (tCB_of hd)
theorem de_callTy {T : String} {r : List V → Hp → VK → Prop} {g : List D → Option D} (hc : CallR X (.type T) r) (hd : CallD X.K r g) (hg : Gl X x) (hm : X.mg x = none) (hv : bootBuiltins x = some (.type T)) (ha : DA X Wi (a :: es) fs) (hn : x ≠ "__name__" := by decide) (hdb : (x == ("__debug__" : Str)) = false := by decide)
    (he : starEach (a :: es) X.env = (false, eval a X.env) :: starEach es X.env := by rfl) (hpl : (backTo pos (starEach es X.env)).any (·.1) = false := by rfl) : DE X Wi (.Call (.Name x p) (a :: es) [] pos) (eCall g fs) :=
  PE.imp (pe_callTy hc hg hm hv ha hn hdb he hpl) (tCB_of hd)
theorem dn_callB {id : String} {r : List V → Hp → VK → Prop} {g : List D → Option D} (hc : CallR X (.builtin id) r) (hd : CallN X.K r g) (hg : Gl X x) (hm : X.mg x = none) (hv : bootBuiltins x = some (.builtin id)) (ha : DA X Wi (a :: es) fs) (hn : x ≠ "__name__" := by decide) (hdb : (x == ("__debug__" : Str)) = false := by decide)
    (he : starEach (a :: es) X.env = (false, eval a X.env) :: starEach es X.env := by rfl) (hpl : (backTo pos (starEach es X.env)).any (·.1) = false := by rfl) : DN X Wi (.Call (.Name x p) (a :: es) [] pos) (nCall g fs) :=
  PE.imp (pe_callB hc hg hm hv ha hn hdb he hpl) (tCBN_of hd)
theorem dn_callTy {T : String} {r : List V → Hp → VK → Prop} {g : List D → Option D} (hc : CallR X (.type T) r) (hd : CallN X.K r g) (hg : Gl X x) (hm : X.mg x = none) (hv : bootBuiltins x = some (.type T)) (ha : DA X Wi (a :: es) fs) (hn : x ≠ "__name__" := by decide) (hdb : (x == ("__debug__" : Str)) = false := by decide)
    (he : starEach (a :: es) X.env = (false, eval a X.env) :: starEach es X.env := by rfl) (hpl : (backTo pos (starEach es X.env)).any (·.1) = false := by rfl) : DN X Wi (.Call (.Name x p) (a :: es) [] pos) (nCall g fs) :=
  PE.imp (pe_callTy hc hg hm hv ha hn hdb he hpl) (tCBN_of hd)
def nOp (g : D → D → Option D) (fa fb : EF) : NF := fun E => (fa E).bind fun p => (fb p.2).bind fun q => (rd q.2 p.1).bind fun x => (rd q.2 q.1).bind fun y => (ofO (g x y)).bind fun d => .ok (d, q.2)
theorem tOpN_of {r : V → V → Hp → VK → Prop} {g : D → D → Option D} (hg : OpN X.K r g) : ∀ σ H Q, tN X.K Wi (nOp g fa fb) σ H Q → tOp r (tE X.K Wi fa) (tE X.K Wi fb) σ H Q := by
  intro σ H Q q
  obtain ⟨F, G, E, as, st, p⟩ := q
  refine ⟨F, G, E, as, st, Po.mono (fun x H1 m => ?_) (Po.bindN p)⟩
  obtain ⟨w1, G1, E1, as1, s1, st1, wo1, p1⟩ := m
  refine ⟨F, G1, E1, as1, st1, Po.mono (fun y H2 m => ?_) (Po.bindN p1)⟩
  obtain ⟨w2, G2, E2, as2, s2, st2, wo2, p2⟩ := m
  obtain ⟨d1, e1, p2⟩ := PoN.rd p2
  obtain ⟨d2, e2, p2⟩ := PoN.rd p2
  obtain ⟨d, e3, p2⟩ := PoN.of p2
  exact hg G2 H2 x y d1 d2 d Q st2.s1 (wo1.rd s2 st2 e1) (wo2.rd (Same.refl _) st2 e2) e3 (PoN.rz st2 p2)
theorem dn_op {op : Operator} {r : V → V → Hp → VK → Prop} {g : D → D → Option D} (ho : OpR X (binaryOp op) r) (hg : OpN X.K r g) (ha : DE X Wi a fa) (hb : DE X Wi b fb) : DN X Wi (.BinOp a op b pos) (nOp g fa fb) :=
  PE.imp (pe_op ho ha hb) (tOpN_of hg)

/-! ### displays -/
def dats : List W → Option (List D)
  | [] => some []
  | .dat d :: ws => (dats ws).map (d :: ·)
  | .own _ :: _ => none
theorem dats_ok {K : PySem.W.Frag} {G : Hp} {E : Env} {σ : L2.St} : ∀ {vs : List V} {ws : List W} {ds : List D}, WOks K G E σ vs ws → dats ws = some ds → DDs K G vs ds
  | [], [], _, _, e => by cases e; exact .nil
  | v :: vs, .dat d :: ws, ds, h, e => by
    rw [dats] at e
    cases q : dats ws with
    | none => rw [q] at e; cases e
    | some r => rw [q] at e; cases e; exact .cons h.1 (dats_ok h.2 q)
  | v :: vs, .own _ :: ws, _, _, e => by cases e
  | [], _ :: _, _, h, _ => h.elim
  | _ :: _, [], _, h, _ => h.elim
def small {α : Type} (l : List α) (r : Option D) : Option D := if l.length ≤ 1000 then r else none
theorem small_some {α : Type} {l : List α} {r : Option D} {d : D} (h : small l r = some d) : l.length ≤ sizeLine ∧ r = some d := by
  unfold small at h
  split at h
  · rename_i q; exact ⟨by rw [sizeLine_eq]; omega, h⟩
  · cases h
def eTup (fs : AF) : EF := fun E => (fs E).bind fun p => (ofO (dats p.1)).bind fun ds => (ofO (small ds (some (.tup ds)))).bind fun d => .ok (.dat d, p.2)
def nLst (fs : AF) : NF := fun E => (fs E).bind fun p => (ofO (dats p.1)).bind fun ds => (ofO (small ds (some (.lst ds)))).bind fun d => .ok (d, p.2)
theorem de_tup {x1} (h : DA X Wi es fs) : DE X Wi (.Tuple es x1 pos) (eTup fs) := by
  refine PE.imp (pe_tup h) fun σ H Q q => ?_
  obtain ⟨F, G, E, as, st, p⟩ := q
  refine ⟨F, G, E, as, st, PoA.mono (fun vs H1 m => ?_) (PoA.bind p)⟩
  obtain ⟨ws, G1, E1, as1, s1, st1, wo1, p1⟩ := m
  obtain ⟨ds, e1, p1⟩ := Po.of p1
  obtain ⟨d, e2, p1⟩ := Po.of p1
  obtain ⟨hz, e3⟩ := small_some e2
  cases e3
  have dd := dats_ok wo1 e1
  have hz : vs.length ≤ sizeLine := by rw [dd.len]; exact hz
  refine ⟨hz, fun q hq => Po.rz st1 p1 _ _ _ (Al.one st1.s1 hq) ?_⟩
  exact .tup upd_same hz (dd.up (Al.one (o := .tup vs) st1.s1 hq).g)
theorem dn_lst (h : DA X Wi es fs) : DN X Wi (.List es pos) (nLst fs) := by
  refine PE.imp (pe_lst h) fun σ H Q q => ?_
  obtain ⟨F, G, E, as, st, p⟩ := q
  refine ⟨F, G, E, as, st, PoA.mono (fun vs H1 m => ?_) (PoA.bindN p)⟩
  obtain ⟨ws, G1, E1, as1, s1, st1, wo1, p1⟩ := m
  obtain ⟨ds, e1, p1⟩ := PoN.of p1
  obtain ⟨d, e2, p1⟩ := PoN.of p1
  obtain ⟨hz, e3⟩ := small_some e2
  cases e3
  have dd := dats_ok wo1 e1
  have hz : vs.length ≤ sizeLine := by rw [dd.len]; exact hz
  refine ⟨hz, fun q hq => PoN.rz st1 p1 q _ hq (fun b u z => ?_) ⟨vs, upd_same, hz, dd⟩⟩
  rw [upd_ne (ne_of_none z hq)]; exact z

/-! ### subscripts, slices -/
theorem de_ix {r : V → V → Hp → VK → Prop} {g : D → D → Option D} (hr : IxR X r) (hg : OpD X.K r g) (ha : DE X Wi a fa) (hb : DE X Wi b fb) (hs : PlainIx b) : DE X Wi (.Subscript a b pos) (eOp g fa fb) :=
  PE.imp (pe_ix hr ha hb hs) (tOp_of hg)
end

/-- a slice's end -/
abbrev OF := Env → Res (Option Int × Env)
def oNo : OF := fun E => .ok (none, E)
def asI : D → Option Int
  | .int i => some i
  | _ => none
def oSo (f : EF) : OF := fun E => (f E).bind fun p => (rd p.2 p.1).bind fun d => (ofO (asI d)).bind fun i => .ok (some i, p.2)
def SlD (K : PySem.W.Frag) (r : V → Option Int → Option Int → Hp → VK → Prop) (g : D → Option Int → Option Int → Option D) : Prop :=
  ∀ (G H : Hp) (x : V) (a d : D) (lo hi : Option Int) (Q : VK), Same G H → BD K G H x a → g a lo hi = some d → Rz K G H Q d → r x lo hi H Q
def SlN (K : PySem.W.Frag) (r : V → Option Int → Option Int → Hp → VK → Prop) (g : D → Option Int → Option Int → Option D) : Prop :=
  ∀ (G H : Hp) (x : V) (a d : D) (lo hi : Option Int) (Q : VK), Same G H → BD K G H x a → g a lo hi = some d → RzN K G H Q d → r x lo hi H Q
def PoO (K : PySem.W.Frag) (Wi : Wish) (F : Fr) (G : Hp) (σ : L2.St) (Q : Option Int → Hp → Prop) : Res (Option Int × Env) → Prop
  | .ok (o, E') => ∀ G' H' as', Same G G' → StE K F G' H' σ E' as' → Q o H'
  | .err x E' => ∀ c dx G' H' as', Same G G' → StE K F G' H' σ E' as' → ExOk K G' x c dx → Wi σ c dx H'
  | .stuck => False
def tO (K : PySem.W.Frag) (Wi : Wish) (f : OF) : TO := fun σ H Q => ∃ F G E as, StE K F G H σ E as ∧ PoO K Wi F G σ Q (f E)
abbrev DO (X : Cx) (Wi : Wish) (e : Option Expr) (f : OF) : Prop := PO X e (tO X.K Wi f)
theorem PO.imp {X : Cx} {e : Option Expr} {t t' : TO} (h : PO X e t) (i : ∀ σ H Q, t' σ H Q → t σ H Q) : PO X e t' :=
  ⟨fun pins s σ H Q I q => h.run pins s σ H Q I (i σ H Q q)⟩
section
variable {X : Cx} {Wi : Wish} {e a b : Expr} {fa fb : EF} {p pos p2 : Pos} {lo hi : Option Expr} {ol oh : OF}
theorem do_no : DO X Wi none oNo := PO.imp po_none fun σ H Q q => by
  obtain ⟨F, G, E, as, st, p⟩ := q
  exact p G H as (Same.refl _) st
theorem do_so (h : DE X Wi e fa) : DO X Wi (some e) (oSo fa) := PO.imp (po_some h) fun σ H Q q => by
  obtain ⟨F, G, E, as, st, p⟩ := q
  refine ⟨F, G, E, as, st, ?_⟩
  have p : PoO X.K Wi F G σ Q ((fa E).bind fun p => (rd p.2 p.1).bind fun d => (ofO (asI d)).bind fun i => .ok (some i, p.2)) := p
  generalize fa E = r at p ⊢
  match r, p with
  | .ok (w, E1), p =>
    intro v G1 H1 as1 s1 st1 wo1
    have p : PoO X.K Wi F G σ Q ((rd E1 w).bind fun d => (ofO (asI d)).bind fun i => .ok (some i, E1)) := p
    rcases rd_no E1 w with ⟨d, e1⟩ | e1
    · have b1 := wo1.rd (Same.refl _) st1 e1
      rw [e1] at p
      cases d with
      | int i =>
        have p : PoO X.K Wi F G σ Q (.ok (some i, E1)) := p
        cases b1 with
        | dat dd => cases dd; exact ⟨i, rfl, p G1 H1 as1 s1 st1⟩
        | own _ o => exact o.elim
      | _ => exact p.elim
    · rw [e1] at p; exact p.elim
  | .err x E1, p => exact p
def eSl (g : D → Option Int → Option Int → Option D) (fa : EF) (ol oh : OF) : EF := fun E => (fa E).bind fun p => (ol p.2).bind fun q => (oh q.2).bind fun r => (rd r.2 p.1).bind fun x => (ofO (g x q.1 r.1)).bind fun d => .ok (.dat d, r.2)
def nSl (g : D → Option Int → Option Int → Option D) (fa : EF) (ol oh : OF) : NF := fun E => (fa E).bind fun p => (ol p.2).bind fun q => (oh q.2).bind fun r => (rd r.2 p.1).bind fun x => (ofO (g x q.1 r.1)).bind fun d => .ok (d, r.2)
def MidO (K : PySem.W.Frag) (F : Fr) (G : Hp) (σ : L2.St) (R : Option Int → Hp → Hp → Env → (Nat → List Addr) → Prop) (o : Option Int) (H1 : Hp) : Prop :=
  ∃ G1 E1 as1, Same G G1 ∧ StE K F G1 H1 σ E1 as1 ∧ R o G1 H1 E1 as1
theorem PoO.bind {K : PySem.W.Frag} {F : Fr} {G : Hp} {σ : L2.St} {Q : VK} {r : Res (Option Int × Env)} {g : Option Int × Env → Res (W × Env)} (h : Po K Wi F G σ Q (r.bind g)) :
    PoO K Wi F G σ (MidO K F G σ fun o G1 _ E1 _ => Po K Wi F G1 σ Q (g (o, E1))) r := by
  match r, h with
  | .ok (w, E'), h => exact fun G' H' as' s st => ⟨G', E', as', s, st, Po.up s h⟩
  | .err x E', h => exact h
theorem PoO.bindN {K : PySem.W.Frag} {F : Fr} {G : Hp} {σ : L2.St} {Q : VK} {r : Res (Option Int × Env)} {g : Option Int × Env → Res (D × Env)} (h : PoN K Wi F G σ Q (r.bind g)) :
    PoO K Wi F G σ (MidO K F G σ fun o G1 _ E1 _ => PoN K Wi F G1 σ Q (g (o, E1))) r := by
  match r, h with
  | .ok (w, E'), h => exact fun G' H' as' s st => ⟨G', E', as', s, st, PoN.up s h⟩
  | .err x E', h => exact h
theorem PoO.mono {K : PySem.W.Frag} {F : Fr} {G : Hp} {σ : L2.St} {Q Q' : Option Int → Hp → Prop} (i : ∀ v H, Q v H → Q' v H) : ∀ {r : Res (Option Int × Env)}, PoO K Wi F G σ Q r → PoO K Wi F G σ Q' r
  | .ok (_, _), h => fun G' H' as' s st => i _ _ (h G' H' as' s st)
  | .err _ _, h => h
theorem de_slice {r : V → Option Int → Option Int → Hp → VK → Prop} {g : D → Option Int → Option Int → Option D} (hr : SlR X r) (hg : SlD X.K r g) (he : DE X Wi e fa) (hl : DO X Wi lo ol) (hh : DO X Wi hi oh) : DE X Wi (.Subscript e (.Slice lo hi none p2) pos) (eSl g fa ol oh) := by
  refine PE.imp (pe_slice hr he hl hh) fun σ H Q q => ?_
  obtain ⟨F, G, E, as, st, p⟩ := q
  refine ⟨F, G, E, as, st, Po.mono (fun x H1 m => ?_) (Po.bind p)⟩
  obtain ⟨w1, G1, E1, as1, s1, st1, wo1, p1⟩ := m
  refine ⟨F, G1, E1, as1, st1, PoO.mono (fun l H2 m => ?_) (PoO.bind p1)⟩
  obtain ⟨G2, E2, as2, s2, st2, p2⟩ := m
  refine ⟨F, G2, E2, as2, st2, PoO.mono (fun u H3 m => ?_) (PoO.bind p2)⟩
  obtain ⟨G3, E3, as3, s3, st3, p3⟩ := m
  obtain ⟨d1, e1, p3⟩ := Po.rd p3
  obtain ⟨d, e3, p3⟩ := Po.of p3
  exact hg G3 H3 x d1 d l u Q st3.s1 (wo1.rd (s2.trans s3) st3 e1) e3 (Po.rz st3 p3)
theorem dn_slice {r : V → Option Int → Option Int → Hp → VK → Prop} {g : D → Option Int → Option Int → Option D} (hr : SlR X r) (hg : SlN X.K r g) (he : DE X Wi e fa) (hl : DO X Wi lo ol) (hh : DO X Wi hi oh) : DN X Wi (.Subscript e (.Slice lo hi none p2) pos) (nSl g fa ol oh) := by
  refine PE.imp (pe_slice hr he hl hh) fun σ H Q q => ?_
  obtain ⟨F, G, E, as, st, p⟩ := q
  refine ⟨F, G, E, as, st, Po.mono (fun x H1 m => ?_) (Po.bindN p)⟩
  obtain ⟨w1, G1, E1, as1, s1, st1, wo1, p1⟩ := m
  refine ⟨F, G1, E1, as1, st1, PoO.mono (fun l H2 m => ?_) (PoO.bindN p1)⟩
  obtain ⟨G2, E2, as2, s2, st2, p2⟩ := m
  refine ⟨F, G2, E2, as2, st2, PoO.mono (fun u H3 m => ?_) (PoO.bindN p2)⟩
  obtain ⟨G3, E3, as3, s3, st3, p3⟩ := m
  obtain ⟨d1, e1, p3⟩ := PoN.rd p3
  obtain ⟨d, e3, p3⟩ := PoN.of p3
  exact hg G3 H3 x d1 d l u Q st3.s1 (wo1.rd (s2.trans s3) st3 e1) e3 (PoN.rz st3 p3)
end

/-! ### tests -/
abbrev BF := Env → Res (Bool × Env)
def PoT (K : PySem.W.Frag) (Wi : Wish) (F : Fr) (G : Hp) (σ : L2.St) (Q : Bool → Hp → Prop) : Res (Bool × Env) → Prop
  | .ok (o, E') => ∀ G' H' as', Same G G' → StE K F G' H' σ E' as' → Q o H'
  | .err x E' => ∀ c dx G' H' as', Same G G' → StE K F G' H' σ E' as' → ExOk K G' x c dx → Wi σ c dx H'
  | .stuck => False
def tT (K : PySem.W.Frag) (Wi : Wish) (f : BF) : TT := fun σ H Q => ∃ F G E as, StE K F G H σ E as ∧ PoT K Wi F G σ Q (f E)
abbrev DT (X : Cx) (Wi : Wish) (e : Expr) (f : BF) : Prop := PT X e (tT X.K Wi f)
abbrev DW (X : Cx) (Wi : Wish) (e : Expr) (f : BF) : Prop := PW X e (tT X.K Wi f)
theorem PW.imp {X : Cx} {e : Expr} {t t' : TT} (h : PW X e t) (i : ∀ σ H Q, t' σ H Q → t σ H Q) : PW X e t' :=
  ⟨fun w pins s σ H Q I q => h.run w pins s σ H Q I (i σ H Q q)⟩
def asB : D → Option Bool
  | .bl b => some b
  | _ => none
def MidT (K : PySem.W.Frag) (F : Fr) (G : Hp) (σ : L2.St) (R : Bool → Hp → Hp → Env → (Nat → List Addr) → Prop) (o : Bool) (H1 : Hp) : Prop :=
  ∃ G1 E1 as1, Same G G1 ∧ StE K F G1 H1 σ E1 as1 ∧ R o G1 H1 E1 as1
section
variable {K : PySem.W.Frag} {Wi : Wish} {F : Fr} {G G1 H : Hp} {σ : L2.St} {Q : Bool → Hp → Prop}
theorem PoT.up {r : Res (Bool × Env)} (e : Same G G1) (h : PoT K Wi F G σ Q r) : PoT K Wi F G1 σ Q r := by
  match r, h with
  | .ok (w, E'), h => exact fun G' H' as' s => h G' H' as' (e.trans s)
  | .err x E', h => exact fun c dx G' H' as' s => h c dx G' H' as' (e.trans s)
theorem PoT.mono {Q' : Bool → Hp → Prop} (i : ∀ v H, Q v H → Q' v H) : ∀ {r : Res (Bool × Env)}, PoT K Wi F G σ Q r → PoT K Wi F G σ Q' r
  | .ok (_, _), h => fun G' H' as' s st => i _ _ (h G' H' as' s st)
  | .err _ _, h => h
theorem PoT.bind {r : Res (Bool × Env)} {g : Bool × Env → Res (Bool × Env)} (h : PoT K Wi F G σ Q (r.bind g)) :
    PoT K Wi F G σ (MidT K F G σ fun o G1 _ E1 _ => PoT K Wi F G1 σ Q (g (o, E1))) r := by
  match r, h with
  | .ok (w, E'), h => exact fun G' H' as' s st => ⟨G', E', as', s, st, PoT.up s h⟩
  | .err x E', h => exact h
theorem PoT.bindE {QE : VK} {r : Res (Bool × Env)} {g : Bool × Env → Res (W × Env)} (h : Po K Wi F G σ QE (r.bind g)) :
    PoT K Wi F G σ (MidT K F G σ fun o G1 _ E1 _ => Po K Wi F G1 σ QE (g (o, E1))) r := by
  match r, h with
  | .ok (w, E'), h => exact fun G' H' as' s st => ⟨G', E', as', s, st, Po.up s h⟩
  | .err x E', h => exact h
theorem PoT.bindS {Dn : Ends} {r : Res (Bool × Env)} {g : Bool × Env → Res (Fl × Env)} (h : PoS K Wi F G Dn (r.bind g)) :
    PoT K Wi F G σ (MidT K F G σ fun o G1 _ E1 _ => PoS K Wi F G1 Dn (g (o, E1))) r := by
  match r, h with
  | .ok (w, E'), h => exact fun G' H' as' s st => ⟨G', E', as', s, st, PoS.up s h⟩
  | .err x E', h => exact fun c dx G' H' as' s st xo => h c dx σ G' H' as' s st xo
theorem Po.bindT {r : Res (W × Env)} {g : W × Env → Res (Bool × Env)} (h : PoT K Wi F G σ Q (r.bind g)) :
    Po K Wi F G σ (Mid K F G σ fun _ w G1 _ E1 _ => PoT K Wi F G1 σ Q (g (w, E1))) r := by
  match r, h with
  | .ok (w, E'), h => exact fun v G' H' as' s st wo => ⟨w, G', E', as', s, st, wo, PoT.up s h⟩
  | .err x E', h => exact h
end
/-- a value that is a bool -/
def tB (f : EF) : BF := fun E => (f E).bind fun p => (rd p.2 p.1).bind fun d => (ofO (asB d)).bind fun b => .ok (b, p.2)
def tNt (f : BF) : BF := fun E => (f E).bind fun p => .ok (!p.1, p.2)
def tAnd' (f g : BF) : BF := fun E => (f E).bind fun p => if p.1 = true then g p.2 else .ok (false, p.2)
def tOr' (f g : BF) : BF := fun E => (f E).bind fun p => if p.1 = true then .ok (true, p.2) else g p.2
def eT (f : BF) : EF := fun E => (f E).bind fun p => .ok (.dat (.bl p.1), p.2)
def eIf (c : BF) (f g : EF) : EF := fun E => (c E).bind fun p => if p.1 = true then f p.2 else g p.2
section
variable {X : Cx} {Wi : Wish} {e a b c : Expr} {fa fb : EF} {ta tb : BF} {rest : List Expr} {pos : Pos}
theorem tB_of : ∀ σ H Q, tT X.K Wi (tB fa) σ H Q → tE X.K Wi fa σ H fun x H1 => ∃ k, x = .bl k ∧ Q k H1 := by
  intro σ H Q q
  obtain ⟨F, G, E, as, st, p⟩ := q
  refine ⟨F, G, E, as, st, Po.mono (fun x H1 m => ?_) (Po.bindT p)⟩
  obtain ⟨w1, G1, E1, as1, s1, st1, wo1, p1⟩ := m
  rcases rd_no E1 w1 with ⟨d, e1⟩ | e1
  · have b1 := wo1.rd (Same.refl _) st1 e1
    rw [e1] at p1
    cases d with
    | bl k =>
      cases b1 with
      | dat dd => cases dd; exact ⟨k, rfl, p1 G1 H1 as1 (Same.refl _) st1⟩
      | own _ o => exact o.elim
    | _ => exact p1.elim
  · rw [e1] at p1; exact p1.elim
theorem dt_val (h : DE X Wi e fa) (he : ∀ whole, isTrue e X.env whole = (do let v ← whole; standAt e.pos; holding [v] (truthy v)) := by intro _; rfl) : DT X Wi e (tB fa) :=
  PT.imp (pt_val h he) tB_of
theorem dt_cmp {op : CmpOp} {r : V → V → Hp → VK → Prop} {g : D → D → Option D} (ho : OpR X (compareOp op) r) (hg : OpD X.K r g) (ha : DE X Wi a fa) (hb : DE X Wi b fb) (hm : behindInMarks op b = false) : DT X Wi (.Compare a [op] [b] pos) (tB (eOp g fa fb)) :=
  PT.imp (pt_cmpR ho ha hb hm) fun σ H Q q => tOp_of hg σ H _ (tB_of σ H Q q)
theorem dt_not (h : DT X Wi a ta) : DT X Wi (.UnaryOp .Not a pos) (tNt ta) := PT.imp (pt_not h) fun σ H Q q => by
  obtain ⟨F, G, E, as, st, p⟩ := q
  refine ⟨F, G, E, as, st, PoT.mono (fun x H1 m => ?_) (PoT.bind p)⟩
  obtain ⟨G1, E1, as1, s1, st1, p1⟩ := m
  exact p1 G1 H1 as1 (Same.refl _) st1
theorem dw_one {op} (h : DT X Wi a ta) : DW X Wi (.BoolOp op [a] pos) ta := by
  cases op with
  | And => exact pw_and1 h
  | Or => exact pw_or1 h
theorem dw_and (h : DT X Wi a ta) (hb : DW X Wi (.BoolOp .And (b :: rest) pos) tb) : DW X Wi (.BoolOp .And (a :: b :: rest) pos) (tAnd' ta tb) := PW.imp (pw_and h hb) fun σ H Q q => by
  obtain ⟨F, G, E, as, st, p⟩ := q
  refine ⟨F, G, E, as, st, PoT.mono (fun x H1 m => ?_) (PoT.bind p)⟩
  obtain ⟨G1, E1, as1, s1, st1, p1⟩ := m
  cases x with
  | true => exact ⟨F, G1, E1, as1, st1, p1⟩
  | false => exact p1 G1 H1 as1 (Same.refl _) st1
theorem dw_or (h : DT X Wi a ta) (hb : DW X Wi (.BoolOp .Or (b :: rest) pos) tb) : DW X Wi (.BoolOp .Or (a :: b :: rest) pos) (tOr' ta tb) := PW.imp (pw_or h hb) fun σ H Q q => by
  obtain ⟨F, G, E, as, st, p⟩ := q
  refine ⟨F, G, E, as, st, PoT.mono (fun x H1 m => ?_) (PoT.bind p)⟩
  obtain ⟨G1, E1, as1, s1, st1, p1⟩ := m
  cases x with
  | false => exact ⟨F, G1, E1, as1, st1, p1⟩
  | true => exact p1 G1 H1 as1 (Same.refl _) st1
theorem de_ifx (hc : DT X Wi c ta) (ha : DE X Wi a fa) (hb : DE X Wi b fb) : DE X Wi (.IfExp c a b pos) (eIf ta fa fb) := PE.imp (pe_ifExp hc ha hb) fun σ H Q q => by
  obtain ⟨F, G, E, as, st, p⟩ := q
  refine ⟨F, G, E, as, st, PoT.mono (fun x H1 m => ?_) (PoT.bindE p)⟩
  obtain ⟨G1, E1, as1, s1, st1, p1⟩ := m
  cases x with
  | true => exact ⟨F, G1, E1, as1, st1, p1⟩
  | false => exact ⟨F, G1, E1, as1, st1, p1⟩
/-! and, or, not as values of bools -/
def vAnd (f g : EF) : EF := fun E => (tB f E).bind fun p => if p.1 = true then g p.2 else .ok (.dat (.bl false), p.2)
def vOr (f g : EF) : EF := fun E => (tB f E).bind fun p => if p.1 = true then .ok (.dat (.bl true), p.2) else g p.2
theorem tB_E {f : EF} {g : Bool × Env → Res (W × Env)} {Q : VK} {σ : L2.St} {H : Hp} (q : tE X.K Wi (fun E => (tB f E).bind g) σ H Q) :
    tE X.K Wi f σ H fun x H1 => ∃ k, x = .bl k ∧ ∃ F G1 E1 as1, StE X.K F G1 H1 σ E1 as1 ∧ Po X.K Wi F G1 σ Q (g (k, E1)) := by
  obtain ⟨F, G, E, as, st, p⟩ := q
  refine tB_of (Q := fun k H1 => ∃ F G1 E1 as1, StE X.K F G1 H1 σ E1 as1 ∧ Po X.K Wi F G1 σ Q (g (k, E1))) σ H ⟨F, G, E, as, st, PoT.mono (fun x H1 m => ?_) (PoT.bindE p)⟩
  obtain ⟨G1, E1, as1, s1, st1, p1⟩ := m
  exact ⟨F, G1, E1, as1, st1, p1⟩
theorem de_and (ha : DE X Wi a fa) (hb : DE X Wi (.BoolOp .And (b :: rest) pos) fb) : DE X Wi (.BoolOp .And (a :: b :: rest) pos) (vAnd fa fb) := PE.imp (pe_and ha hb) fun σ H Q q => by
  have z := tB_E q
  obtain ⟨F, G, E, as, st, p⟩ := z
  refine ⟨F, G, E, as, st, Po.mono (fun x H1 m => ?_) p⟩
  obtain ⟨k, e, F1, G1, E1, as1, st1, p1⟩ := m
  refine ⟨k, e, ?_⟩
  cases k with
  | true => exact ⟨F1, G1, E1, as1, st1, p1⟩
  | false => exact Po.rz st1 p1 _ _ _ (Al.refl st1.s1) (.bl false)
theorem de_or (ha : DE X Wi a fa) (hb : DE X Wi (.BoolOp .Or (b :: rest) pos) fb) : DE X Wi (.BoolOp .Or (a :: b :: rest) pos) (vOr fa fb) := PE.imp (pe_or ha hb) fun σ H Q q => by
  have z := tB_E q
  obtain ⟨F, G, E, as, st, p⟩ := z
  refine ⟨F, G, E, as, st, Po.mono (fun x H1 m => ?_) p⟩
  obtain ⟨k, e, F1, G1, E1, as1, st1, p1⟩ := m
  refine ⟨k, e, ?_⟩
  cases k with
  | false => exact ⟨F1, G1, E1, as1, st1, p1⟩
  | true => exact Po.rz st1 p1 _ _ _ (Al.refl st1.s1) (.bl true)
theorem de_one {op} (ha : DE X Wi a fa) : DE X Wi (.BoolOp op [a] pos) fa := pe_one ha
def vNot (f : EF) : EF := fun E => (tB f E).bind fun p => .ok (.dat (.bl (!p.1)), p.2)
theorem de_not (ha : DE X Wi a fa) : DE X Wi (.UnaryOp .Not a pos) (vNot fa) := PE.imp (pe_not ha) fun σ H Q q => by
  have z := tB_E q
  obtain ⟨F, G, E, as, st, p⟩ := z
  refine ⟨F, G, E, as, st, Po.mono (fun x H1 m => ?_) p⟩
  obtain ⟨k, e, F1, G1, E1, as1, st1, p1⟩ := m
  exact ⟨k, e, Po.rz st1 p1 _ _ _ (Al.refl st1.s1) (.bl _)⟩
end
end DL
namespace DL
open PySem PySem.Spec PyProof.Rows L2

/-! ### statements -/
def sNx : SF := fun E => .ok (.nx, E)
def sSeq (f g : SF) : SF := fun E => (f E).bind fun p => match p.1 with
  | .nx => g p.2
  | fl => .ok (fl, p.2)
def sBk : SF := fun E => .ok (.bk, E)
def sCt : SF := fun E => .ok (.ct, E)
def sEx (f : EF) : SF := fun E => (f E).bind fun p => .ok (.nx, p.2)
/-- a value handed back: the own object of a slot becomes data -/
def sRet (f : EF) : SF := fun E => (f E).bind fun p => match p.1 with
  | .dat d => .ok (.rt d, p.2)
  | .own i => match p.2[i]? with
    | some (.own d) => .ok (.rt d, p.2.set i (.dat d))
    | _ => .stuck
def sRetN : SF := fun E => .ok (.rt .non, E)
def sIf (c : BF) (f g : SF) : SF := fun E => (c E).bind fun p => if p.1 = true then f p.2 else g p.2
def sSet (i : Nat) (f : EF) : SF := fun E => (f E).bind fun p => match p.1 with
  | .dat d => .ok (.nx, p.2.set i (.dat d))
  | .own _ => .stuck
def sSetN (i : Nat) (f : NF) : SF := fun E => (f E).bind fun p => if i < p.2.length then .ok (.nx, p.2.set i (.own p.1)) else .stuck

section
variable {X : Cx} {Wi : Wish} {e : Expr} {st : Stmt} {rest bs cs : List Stmt} {f g : SF} {fe : EF} {c : Expr} {fc : BF} {pos pos' : Pos}
theorem dss_nil : DSs X Wi [] sNx := PSs.imp pss_nil fun D σ H q => by
  obtain ⟨F, G, E, as, st, p⟩ := q
  exact p σ G H as (Same.refl _) st
theorem sSeq_of : ∀ D σ H, tS X.K Wi (sSeq f g) D σ H → tSeq (tS X.K Wi f) (tS X.K Wi g) D σ H := by
  intro D σ H q
  obtain ⟨F, G, E, as, st, p⟩ := q
  refine ⟨F, G, E, as, st, ?_⟩
  have p : PoS X.K Wi F G D ((f E).bind fun p => match p.1 with
    | .nx => g p.2
    | fl => .ok (fl, p.2)) := p
  generalize f E = r at p ⊢
  match r, p with
  | .ok (.nx, E1), p => exact fun σ' G' H' as' s st' => ⟨F, G', E1, as', st', PoS.up s p⟩
  | .ok (.bk, E1), p => exact p
  | .ok (.ct, E1), p => exact p
  | .ok (.rt d, E1), p => exact p
  | .err x E1, p => exact p
theorem dss_cons (h1 : DS X Wi st f) (h2 : DSs X Wi rest g) : DSs X Wi (st :: rest) (sSeq f g) := PSs.imp (pss_cons h1 h2) sSeq_of
theorem dss_one (h1 : DS X Wi st f) : DSs X Wi [st] f := pss_one h1
theorem ds_pass : DS X Wi (.Pass pos) sNx := PS.imp ps_pass fun D σ H q => by
  obtain ⟨F, G, E, as, st, p⟩ := q
  exact p σ G H as (Same.refl _) st
theorem ds_doc {x j} : DS X Wi (.Expr (.Constant (.str x) j pos) pos') sNx := PS.imp ps_doc fun D σ H q => by
  obtain ⟨F, G, E, as, st, p⟩ := q
  exact p σ G H as (Same.refl _) st
theorem ds_break : DS X Wi (.Break pos) sBk := PS.imp ps_break fun D σ H q => by
  obtain ⟨F, G, E, as, st, p⟩ := q
  exact p σ G H as (Same.refl _) st
theorem ds_continue : DS X Wi (.Continue pos) sCt := PS.imp ps_continue fun D σ H q => by
  obtain ⟨F, G, E, as, st, p⟩ := q
  exact p σ G H as (Same.refl _) st
theorem ds_expr (he : DE X Wi e fe) (hs : swapsWith e none pos.line X.env = pure false := by rfl) : DS X Wi (.Expr e pos) (sEx fe) := PS.imp (ps_expr he hs) fun D σ H q => by
  obtain ⟨F, G, E, as, st, p⟩ := q
  refine ⟨F, G, E, as, st, Po.mono (fun x H1 m => ?_) (Po.bindS p)⟩
  obtain ⟨w1, G1, E1, as1, s1, st1, wo1, p1⟩ := m
  exact p1 σ G1 H1 as1 (Same.refl _) st1
theorem ds_ret (he : DE X Wi e fe) : DS X Wi (.Return (some e) pos) (sRet fe) := PS.imp (ps_ret he) fun D σ H q => by
  obtain ⟨F, G, E, as, st, p⟩ := q
  refine ⟨F, G, E, as, st, Po.mono (fun x H1 m => ?_) (Po.bindS p)⟩
  obtain ⟨w1, G1, E1, as1, s1, st1, wo1, p1⟩ := m
  cases w1 with
  | dat d => exact p1 x σ G1 H1 as1 (Same.refl _) st1 wo1
  | own i =>
    have p1 : PoS X.K Wi F G1 D (match E1[i]? with
      | some (.own d) => .ok (.rt d, E1.set i (.dat d))
      | _ => .stuck) := p1
    rcases rd_own E1 i with ⟨d, e1, _⟩ | z
    · rw [e1] at p1
      obtain ⟨v, e2, a, x1, x2, x3⟩ := st1.cell i _ e1
      have wo : σ[i]? = some (some x) := wo1
      rw [wo] at e2; cases e2; cases x2
      obtain ⟨G2, s2, dd, st2⟩ := st1.freeze e1 wo
      exact p1 (.ref a) σ G2 H1 _ s2 st2 dd
    · cases h : E1[i]? with
      | none => rw [h] at p1; exact p1.elim
      | some c =>
        rw [h] at p1
        cases c with
        | own d => rw [show rd E1 (.own i) = .ok d by simp [rd, h]] at z; cases z
        | _ => exact p1.elim
theorem ds_retN : DS X Wi (.Return none pos) sRetN := PS.imp ps_retN fun D σ H q => by
  obtain ⟨F, G, E, as, st, p⟩ := q
  exact p .non σ G H as (Same.refl _) st .non
theorem ds_if (hc : DT X Wi c fc) (ha : DSs X Wi bs f) (hb : DSs X Wi cs g) : DS X Wi (.If c bs cs pos) (sIf fc f g) := PS.imp (ps_if hc ha hb) fun D σ H q => by
  obtain ⟨F, G, E, as, st, p⟩ := q
  refine ⟨F, G, E, as, st, PoT.mono (fun x H1 m => ?_) (PoT.bindS p)⟩
  obtain ⟨G1, E1, as1, s1, st1, p1⟩ := m
  cases x with
  | true => exact ⟨F, G1, E1, as1, st1, p1⟩
  | false => exact ⟨F, G1, E1, as1, st1, p1⟩
theorem tAsg_of {i : Nat} {te : TE} (h : ∀ σ H Q, tE X.K Wi fe σ H Q → te σ H Q) : ∀ D σ H, tS X.K Wi (sSet i fe) D σ H → tAsg te (gName i) D σ H := by
  intro D σ H q
  obtain ⟨F, G, E, as, st, p⟩ := q
  refine h _ _ _ ⟨F, G, E, as, st, Po.mono (fun x H1 m => ?_) (Po.bindS p)⟩
  obtain ⟨w1, G1, E1, as1, s1, st1, wo1, p1⟩ := m
  cases w1 with
  | dat d => exact p1 _ G1 H1 _ (Same.refl _) (st1.setD wo1)
  | own j => exact p1.elim
theorem PoN.bindS {K : PySem.W.Frag} {F : Fr} {G : Hp} {σ : L2.St} {D : Ends} {r : Res (DL.D × Env)} {g : DL.D × Env → Res (Fl × Env)} (h : PoS K Wi F G D (r.bind g)) :
    PoN K Wi F G σ (fun v H1 => ∃ d p G1 E1 as1, v = .ref p ∧ Same G G1 ∧ StE K F G1 H1 σ E1 as1 ∧ G1 p = none ∧ F.H0 p = none ∧ (∀ j, p ∉ as1 j) ∧ OwnAt K G1 H1 p d ∧ PoS K Wi F G1 D (g (d, E1))) r := by
  match r, h with
  | .ok (w, E'), h => exact fun p G' H' as' s st gp fp np o => ⟨w, p, G', E', as', rfl, s, st, gp, fp, np, o, PoS.up s h⟩
  | .err x E', h => exact fun c dx G' H' as' s st xo => h c dx σ G' H' as' s st xo
theorem tAsgN_of {i : Nat} {te : TE} {fn : NF} (h : ∀ σ H Q, tN X.K Wi fn σ H Q → te σ H Q) : ∀ D σ H, tS X.K Wi (sSetN i fn) D σ H → tAsg te (gName i) D σ H := by
  intro D σ H q
  obtain ⟨F, G, E, as, st, p⟩ := q
  have pp := PoN.bindS (K := X.K) (σ := σ) p
  refine h _ _ _ ⟨F, G, E, as, st, ?_⟩
  revert pp
  generalize fn E = r
  intro pp
  match r, pp with
  | .ok (w, E'), pp =>
    intro p G' H' as' s st gp fp np o
    obtain ⟨d, p', G1, E1, as1, e, s1, st1, gp1, fp1, np1, o1, p1⟩ := pp p G' H' as' s st gp fp np o
    cases e
    have p1 : PoS X.K Wi F G1 D (if i < E1.length then .ok (.nx, E1.set i (.own d)) else .stuck) := p1
    by_cases hi : i < E1.length
    · rw [if_pos hi] at p1
      refine p1 _ G1 H' _ (Same.refl _) (st1.setC (i := i) (l := [p]) ⟨p, rfl, rfl, o1⟩ (fun a ha => ?_) (.inl hi))
      rw [List.mem_singleton.mp ha]
      exact ⟨fun j _ => np1 j, gp1, .inl fp1⟩
    · rw [if_neg hi] at p1; exact p1.elim
  | .err x E', pp => exact pp
theorem ds_set {i : Nat} {x : Str} (hN : X.N.Nodup) (hi : X.N[i]? = some x) (hx : Loc X.env.scope x) (he : DE X Wi e fe) (hs : swapsWith e (some (.Name x pos')) pos.line X.env = pure false := by rfl)
    (hf : X.fn x = true ∨ X.env.scope.names.lookup x = some .local := by first | exact .inl rfl | exact .inr rfl | assumption) : DS X Wi (.Assign [.Name x pos'] e pos) (sSet i fe) :=
  PS.imp (ps_set hN hi hx he hs hf) (tAsg_of fun _ _ _ q => q)
theorem ds_setN {i : Nat} {x : Str} {fn : NF} (hN : X.N.Nodup) (hi : X.N[i]? = some x) (hx : Loc X.env.scope x) (he : DN X Wi e fn) (hs : swapsWith e (some (.Name x pos')) pos.line X.env = pure false := by rfl)
    (hf : X.fn x = true ∨ X.env.scope.names.lookup x = some .local := by first | exact .inl rfl | exact .inr rfl | assumption) : DS X Wi (.Assign [.Name x pos'] e pos) (sSetN i fn) :=
  PS.imp (ps_set hN hi hx he hs hf) (tAsgN_of fun _ _ _ q => q)
end

/-! ### targets -/
abbrev GF := D → Env → Option Env
def tG (K : PySem.W.Frag) (ts : List Nat) (g : GF) : TG := fun v σ H Q => ∃ F G E as d, StE K F G H σ E as ∧ DD K G v d ∧ ∃ E', g d E = some E' ∧
  ∀ σ' as', StE K F G H σ' E' as' → (∀ j, j ∉ ts → σ'[j]? = σ[j]?) → σ'.length = σ.length → Q σ' H
def tGs (K : PySem.W.Frag) (ts : List Nat) (g : List D → Env → Option Env) : TGs := fun vs σ H Q => ∃ F G E as ds, StE K F G H σ E as ∧ DDs K G vs ds ∧ ∃ E', g ds E = some E' ∧
  ∀ σ' as', StE K F G H σ' E' as' → (∀ j, j ∉ ts → σ'[j]? = σ[j]?) → σ'.length = σ.length → Q σ' H
abbrev DG (X : Cx) (tg : Expr) (ts : List Nat) (g : GF) : Prop := PG X tg (tG X.K ts g)
abbrev DGs (X : Cx) (tgs : List Expr) (ts : List Nat) (g : List D → Env → Option Env) : Prop := PGs X tgs (tGs X.K ts g)
theorem PG.imp {X : Cx} {e : Expr} {t t' : TG} (h : PG X e t) (i : ∀ v σ H Q, t' v σ H Q → t v σ H Q) : PG X e t' :=
  ⟨fun pins s σ H v u Q I r q => h.run pins s σ H v u Q I r (i _ _ _ _ q)⟩
theorem PGs.imp {X : Cx} {e : List Expr} {t t' : TGs} (h : PGs X e t) (i : ∀ v σ H Q, t' v σ H Q → t v σ H Q) : PGs X e t' :=
  ⟨fun pins s σ H v u Q I r q => h.run pins s σ H v u Q I r (i _ _ _ _ q)⟩
def gN (i : Nat) : GF := fun d E => some (E.set i (.dat d))
def gNil' : List D → Env → Option Env
  | [], E => some E
  | _ :: _, _ => none
def gCons' (g : GF) (gs : List D → Env → Option Env) : List D → Env → Option Env
  | [], _ => none
  | d :: ds, E => (g d E).bind fun E1 => gs ds E1
def gT (gs : List D → Env → Option Env) : GF
  | .tup ds, E => gs ds E
  | _, _ => none
section
variable {X : Cx} {es : List Expr} {e : Expr} {ts us : List Nat} {g : GF} {gs : List D → Env → Option Env} {pos : Pos}
theorem dg_name {i : Nat} {x : Str} (hN : X.N.Nodup) (hi : X.N[i]? = some x) (hx : Loc X.env.scope x) (hf : X.fn x = true ∨ X.env.scope.names.lookup x = some .local := by first | exact .inl rfl | exact .inr rfl | assumption) :
    DG X (.Name x pos) [i] (gN i) := PG.imp (pg_name hN hi hx hf) fun v σ H Q q => by
  obtain ⟨F, G, E, as, d, st, dd, E', e, k⟩ := q
  cases e
  exact k _ _ (st.setD dd) (fun j hj => List.getElem?_set_ne (fun z => hj (by rw [z]; exact List.mem_singleton.mpr rfl))) (List.length_set ..)
theorem dgs_nil : DGs X [] [] gNil' := PGs.imp pgs_nil fun v σ H Q q => by
  obtain ⟨F, G, E, as, ds, st, dd, E', e, k⟩ := q
  cases dd with
  | nil => cases e; exact ⟨rfl, k _ _ st (fun _ _ => rfl) rfl⟩
  | cons _ _ => cases e
theorem dgs_cons (h1 : DG X e ts g) (h2 : DGs X es us gs) (hs : (assignEach (e :: es) X.env).map (·.2) = assign e X.env :: (assignEach es X.env).map (·.2) := by rfl) : DGs X (e :: es) (ts ++ us) (gCons' g gs) :=
  PGs.imp (pgs_cons h1 h2 hs) fun v σ H Q q => by
    obtain ⟨F, G, E, as, ds, st, dd, E', e, k⟩ := q
    cases dd with
    | nil => cases e
    | cons a b =>
      rename_i v vs d ds
      have e : ((g d E).bind fun E1 => gs ds E1) = some E' := e
      cases h : g d E with
      | none => rw [h] at e; cases e
      | some E1 =>
        rw [h] at e
        refine ⟨v, vs, rfl, F, G, E, as, d, st, a, E1, h, fun σ1 as1 st1 k1 l1 => ?_⟩
        refine ⟨F, G, E1, as1, ds, st1, b, E', e, fun σ2 as2 st2 k2 l2 => k σ2 as2 st2 (fun j hj => ?_) (l2.trans l1)⟩
        exact (k2 j fun z => hj (List.mem_append_right _ z)).trans (k1 j fun z => hj (List.mem_append_left _ z))
theorem dg_tup {k : Nat} {ts : List Nat} (hc : X.calm = true) (h : DGs X es ts gs) (n : Nat) (hn : es.length = n := by rfl) (hg : PG X (.Tuple es k pos) (gTup X.K n (tGs X.K ts gs))) (hl : ∀ ds E E', gs ds E = some E' → ds.length = n) : DG X (.Tuple es k pos) ts (gT gs) :=
  PG.imp hg fun v σ H Q q => by
    obtain ⟨F, G, E, as, d, st, dd, E', e, k⟩ := q
    cases dd with
    | tup a b c =>
      refine ⟨_, _, rfl, SqT.of (st.s1 _ _ a), (c.len).trans (hl _ _ _ e), F, G, E, as, _, st, c, E', e, k⟩
    | _ => cases e
end

/-! ### what is walked -/
abbrev IF := Env → Res (List D × Env)
structure JD (K : PySem.W.Frag) (G0 : Hp) (J : It) (items : List D) : Prop where
  le : items.length ≤ sizeLine
  stop : ∀ G H, Same G0 G → Same G H → J.stop items.length H
  go : ∀ G H i, Same G0 G → Same G H → i < items.length → J.go i H
  yld : ∀ G H i d x H', Same G0 G → Same G H → items[i]? = some d → J.yld i H x H' → ∃ G', Al G H G' H' ∧ DD K G' x d
def PoI (K : PySem.W.Frag) (Wi : Wish) (F : Fr) (G : Hp) (σ : L2.St) (R : It → Hp → Prop) : Res (List D × Env) → Prop
  | .ok (ds, E') => ∀ J G' H' as', Same G G' → StE K F G' H' σ E' as' → JD K G' J ds → R J H'
  | .err x E' => ∀ c dx G' H' as', Same G G' → StE K F G' H' σ E' as' → ExOk K G' x c dx → Wi σ c dx H'
  | .stuck => False
def tI (K : PySem.W.Frag) (Wi : Wish) (f : IF) : TI := fun σ H R => ∃ F G E as, StE K F G H σ E as ∧ PoI K Wi F G σ R (f E)
abbrev DI (X : Cx) (Wi : Wish) (tg iter : Expr) (f : IF) : Prop := PI X tg iter (tI X.K Wi f)
theorem PI.imp {X : Cx} {tg e : Expr} {t t' : TI} (h : PI X tg e t) (i : ∀ σ H Q, t' σ H Q → t σ H Q) : PI X tg e t' :=
  ⟨fun pins s σ H R I q => h.run pins s σ H R I (i _ _ _ q)⟩
section
variable {K : PySem.W.Frag} {Wi : Wish} {F : Fr} {G G1 H : Hp} {σ : L2.St}
theorem PoI.mono {R R' : It → Hp → Prop} (i : ∀ v H, R v H → R' v H) : ∀ {r : Res (List D × Env)}, PoI K Wi F G σ R r → PoI K Wi F G σ R' r
  | .ok (_, _), h => fun J G' H' as' s st jd => i _ _ (h J G' H' as' s st jd)
  | .err _ _, h => h
def MidI (K : PySem.W.Frag) (F : Fr) (G : Hp) (σ : L2.St) (R : It → List D → Hp → Hp → Env → (Nat → List Addr) → Prop) (J : It) (H1 : Hp) : Prop :=
  ∃ ds G1 E1 as1, Same G G1 ∧ StE K F G1 H1 σ E1 as1 ∧ JD K G1 J ds ∧ R J ds G1 H1 E1 as1
theorem PoI.bindS {Dn : Ends} {r : Res (List D × Env)} {g : List D × Env → Res (Fl × Env)} (h : PoS K Wi F G Dn (r.bind g)) :
    PoI K Wi F G σ (MidI K F G σ fun _ ds G1 _ E1 _ => PoS K Wi F G1 Dn (g (ds, E1))) r := by
  match r, h with
  | .ok (w, E'), h => exact fun J G' H' as' s st jd => ⟨w, G', E', as', s, st, jd, PoS.up s h⟩
  | .err x E', h => exact fun c dx G' H' as' s st xo => h c dx σ G' H' as' s st xo
theorem PoI.bindN {Q : VK} {r : Res (List D × Env)} {g : List D × Env → Res (D × Env)} (h : PoN K Wi F G σ Q (r.bind g)) :
    PoI K Wi F G σ (MidI K F G σ fun _ ds G1 _ E1 _ => PoN K Wi F G1 σ Q (g (ds, E1))) r := by
  match r, h with
  | .ok (w, E'), h => exact fun J G' H' as' s st jd => ⟨w, G', E', as', s, st, jd, PoN.up s h⟩
  | .err x E', h => exact h
end

/-! ### for -/
def forL (g : GF) (body : SF) : List D → SF
  | [], E => .ok (.nx, E)
  | d :: ds, E => (ofO (g d E)).bind fun E1 => (body E1).bind fun p => match p.1 with
    | .nx => forL g body ds p.2
    | .ct => forL g body ds p.2
    | .bk => .ok (.nx, p.2)
    | .rt d => .ok (.rt d, p.2)
def sFor (fi : IF) (g : GF) (body : SF) : SF := fun E => (fi E).bind fun p => forL g body p.1 p.2
theorem ds_for {X : Cx} {Wi : Wish} {tg iter : Expr} {body : List Stmt} {fi : IF} {g : GF} {ts : List Nat} {fb : SF} {pos : Pos} (hp : PassesOwn (model X.prog X.w) X.A X.env X.xe) (hc : X.calm = true) (hi : DI X Wi tg iter fi) (hg : DG X tg ts g) (hb : DSs X Wi body fb) (hs : ∀ x, foldedSetIterable iter X.env x = pure x := by intro _; rfl) : DS X Wi (.For tg iter body [] pos) (sFor fi g fb) :=
  PS.imp (ps_for hp hc hi hg hb hs) fun D σ H q => by
    obtain ⟨F, G, E, as, st, p⟩ := q
    refine ⟨F, G, E, as, st, PoI.mono (fun J H1 m => ?_) (PoI.bindS p)⟩
    obtain ⟨ds, G1, E1, as1, s1, st1, jd, p1⟩ := m
    refine ⟨fun i m σ H => ∃ G2 E2 as2, m = ds.length - i ∧ i ≤ ds.length ∧ Same G1 G2 ∧ StE X.K F G2 H σ E2 as2 ∧ PoS X.K Wi F G2 D (forL g fb (ds.drop i) E2), ⟨ds.length, G1, E1, as1, by simp, Nat.zero_le _, Same.refl _, st1, p1⟩, ?_⟩
    rintro i m σ H ⟨G2, E2, as2, rfl, hi, s2, st2, p2⟩
    by_cases hlt : i < ds.length
    · refine .inr ⟨jd.go G2 H i s2 st2.s1 hlt, fun σ' H' => ∃ G3 E3 as3, i + 1 ≤ ds.length ∧ Same G1 G3 ∧ StE X.K F G3 H' σ' E3 as3 ∧ PoS X.K Wi F G3 D (forL g fb (ds.drop (i + 1)) E3), fun σ' H' z => ?_, fun x H' y => ?_⟩
      · obtain ⟨G3, E3, as3, a, b, c, d⟩ := z
        exact ⟨ds.length - (i + 1), by omega, G3, E3, as3, rfl, a, b, c, d⟩
      · have hx : ds[i]? = some ds[i] := List.getElem?_eq_getElem hlt
        obtain ⟨G3, al, dd⟩ := jd.yld G2 H i _ x H' s2 st2.s1 hx y
        have st3 := st2.al al
        have hd : ds.drop i = ds[i] :: ds.drop (i + 1) := List.drop_eq_getElem_cons hlt
        rw [hd] at p2
        obtain ⟨E3, e3, p3⟩ := PoS.of (PoS.up al.g p2)
        refine ⟨F, G3, E2, as2, ds[i], st3, dd, E3, e3, fun σ4 as4 st4 _ _ => ⟨F, G3, E3, as4, st4, ?_⟩⟩
        generalize fb E3 = r at p3 ⊢
        match r, p3 with
        | .ok (.nx, E5), p3 => exact fun σ5 G5 H5 as5 s5 st5 => ⟨G5, E5, as5, hlt, (s2.trans al.g).trans s5, st5, PoS.up s5 p3⟩
        | .ok (.ct, E5), p3 => exact fun σ5 G5 H5 as5 s5 st5 => ⟨G5, E5, as5, hlt, (s2.trans al.g).trans s5, st5, PoS.up s5 p3⟩
        | .ok (.bk, E5), p3 => exact p3
        | .ok (.rt d, E5), p3 => exact p3
        | .err x E5, p3 => exact p3
    · have e : i = ds.length := by omega
      subst e
      refine .inl ⟨jd.stop G2 H s2 st2.s1, ?_⟩
      rw [List.drop_length] at p2
      exact p2 σ G2 H as2 (Same.refl _) st2

/-! ### while -/
def whileL (c : BF) (body : SF) : Nat → SF
  | 0, _ => .stuck
  | n + 1, E => (c E).bind fun p => if p.1 = true then (body p.2).bind fun q => match q.1 with
      | .nx => whileL c body n q.2
      | .ct => whileL c body n q.2
      | .bk => .ok (.nx, q.2)
      | .rt d => .ok (.rt d, q.2)
    else .ok (.nx, p.2)
theorem ds_while {X : Cx} {Wi : Wish} {c : Expr} {body : List Stmt} {fc : BF} {fb : SF} {pos : Pos} (n : Nat) (hp : PassesOwn (model X.prog X.w) X.A X.env X.xe) (hc : DT X Wi c fc) (hb : DSs X Wi body fb) : DS X Wi (.While c body [] pos) (whileL fc fb n) :=
  PS.imp (ps_while hp hc hb) fun D σ H q => by
    obtain ⟨F, G, E, as, st, p⟩ := q
    refine ⟨fun m σ H => ∃ G E as, StE X.K F G H σ E as ∧ PoS X.K Wi F G D (whileL fc fb m E), ⟨n, G, E, as, st, p⟩, ?_⟩
    rintro m σ H ⟨G, E, as, st, p⟩
    cases m with
    | zero => exact p.elim
    | succ m =>
      refine ⟨F, G, E, as, st, PoT.mono (fun b H1 z => ?_) (PoT.bindS p)⟩
      obtain ⟨G1, E1, as1, s1, st1, p1⟩ := z
      cases b with
      | false => exact p1 σ G1 H1 as1 (Same.refl _) st1
      | true =>
        refine ⟨fun σ' H' => ∃ G3 E3 as3, StE X.K F G3 H' σ' E3 as3 ∧ PoS X.K Wi F G3 D (whileL fc fb m E3), fun σ' H' z => ⟨m, Nat.lt_succ_self _, z⟩, F, G1, E1, as1, st1, ?_⟩
        have p1 : PoS X.K Wi F G1 D ((fb E1).bind fun q => match q.1 with
          | .nx => whileL fc fb m q.2
          | .ct => whileL fc fb m q.2
          | .bk => .ok (.nx, q.2)
          | .rt d => .ok (.rt d, q.2)) := p1
        generalize fb E1 = r at p1 ⊢
        match r, p1 with
        | .ok (.nx, E5), p3 => exact fun σ5 G5 H5 as5 s5 st5 => ⟨G5, E5, as5, st5, PoS.up s5 p3⟩
        | .ok (.ct, E5), p3 => exact fun σ5 G5 H5 as5 s5 st5 => ⟨G5, E5, as5, st5, PoS.up s5 p3⟩
        | .ok (.bk, E5), p3 => exact p3
        | .ok (.rt d, E5), p3 => exact p3
        | .err x E5, p3 => exact p3
end DL
namespace DL
open PySem PySem.Spec PyProof.Rows L2

/-! ### list comprehensions -/
def plainC : Option Cell → Bool
  | some .no => true
  | some (.dat _) => true
  | none => true
  | _ => false
/-- the block's own names are not known ahead of a turn -/
def wipeE (E : Env) : List Nat → Env
  | [] => E
  | v :: vs => (wipeE E vs).set v .no
/-- behind a turn they are what they were outside -/
def backE (E0 E : Env) : List Nat → Env
  | [] => E
  | v :: vs => (backE E0 E vs).set v (E0[v]?.getD .no)
def noErr {α : Type} : Res α → Res α
  | .ok a => .ok a
  | _ => .stuck
def asDat : W → Option D
  | .dat d => some d
  | .own _ => none
def compL (vs : List Nat) (g : GF) (fc : BF) (fe : EF) (E0 : Env) : List D → List D → Env → Res (D × Env)
  | [], acc, E => .ok (.lst acc, E)
  | d :: ds, acc, E => (ofO (g d (wipeE E vs))).bind fun E1 => (noErr (fc E1)).bind fun p =>
      if p.1 = true then (noErr (fe p.2)).bind fun q => (ofO (asDat q.1)).bind fun y => compL vs g fc fe E0 ds (acc ++ [y]) (backE E0 q.2 vs)
      else compL vs g fc fe E0 ds acc (backE E0 p.2 vs)
def nComp (vs : List Nat) (fi : IF) (g : GF) (fc : BF) (fe : EF) : NF := fun E => (fi E).bind fun p => if vs.all (fun v => plainC p.2[v]?) = true then compL vs g fc fe p.2 p.1 [] p.2 else .stuck
def tYes' : BF := fun E => .ok (true, E)
/-- no exception leaves -/
def W0 : Wish := fun _ _ _ _ => False

section
variable {K : PySem.W.Frag} {Wi : Wish} {F : Fr} {G G1 H H1 : Hp} {σ : L2.St} {E E0 : Env} {as : Nat → List Addr} {Q : VK}
theorem wipeE_len : ∀ vs : List Nat, (wipeE E vs).length = E.length
  | [] => rfl
  | v :: vs => by rw [wipeE, List.length_set, wipeE_len vs]
def dropA (as : Nat → List Addr) : List Nat → Nat → List Addr
  | [] => as
  | v :: vs => drp (dropA as vs) v []
theorem StE.wipe (st : StE K F G H σ E as) : ∀ vs : List Nat, StE K F G H (L2.wipe σ vs) (wipeE E vs) (dropA as vs)
  | [] => st
  | v :: vs => (StE.wipe st vs).setN
theorem StE.wr (st : StE K F G H σ E as) {p : Addr} {o : HO} (gp : G p = none) (fp : F.H0 p = none) (np : ∀ j, p ∉ as j) (hp : H p ≠ none) : StE K F G (upd H p o) σ E as := by
  refine ⟨st.len, st.s0, fun b z q => ?_, fun b u q x => ?_, fun b q => ?_, st.priv, fun i c e => ?_, st.sep, st.off, st.tail⟩
  · rw [upd_ne (ne_of_none q gp)]; exact st.s1 b z q
  · rw [upd_ne (ne_of_none q fp)]; exact st.keep b u q x
  · by_cases hb : b = p
    · subst hb; exact fp
    · rw [upd_ne hb] at q; exact st.dom b q
  · obtain ⟨v, e1, x⟩ := st.cell i c e
    refine ⟨v, e1, x.up (Same.refl _) fun b hb u q => ?_⟩
    rw [upd_ne (fun (z : b = p) => np i (by rw [← z]; exact hb))]; exact q
/-- the block's slots are put back: the slots of the frame are σ, where the block had σ' -/
theorem StE.back {σ' : L2.St} {E1 : Env} {as1 : Nat → List Addr} {vs : List Nat} (hc : ∀ v ∈ vs, plainC E0[v]? = true ∧ ∀ d, E0[v]? = some (.dat d) → ∃ x, σ[v]? = some (some x) ∧ DD K G x d) (s : Same G G1)
    (st1 : StE K F G1 H1 σ' E1 as1) (hσ : ∀ j, j ∉ vs → σ'[j]? = σ[j]?) (hl : σ'.length = σ.length) : ∃ as2, StE K F G1 H1 σ (backE E0 E1 vs) as2 ∧ ∀ j p, p ∈ as2 j → ∃ k, p ∈ as1 k := by
  have key : ∀ us : List Nat, (∀ v ∈ us, v ∈ vs) → ∃ σ2 as2, StE K F G1 H1 σ2 (backE E0 E1 us) as2 ∧ (∀ j, j ∈ us → σ2[j]? = σ[j]?) ∧ (∀ j, j ∉ us → σ2[j]? = σ'[j]?) ∧ σ2.length = σ.length ∧ ∀ j p, p ∈ as2 j → ∃ k, p ∈ as1 k := by
    intro us
    induction us with
    | nil => intro _; exact ⟨σ', as1, st1, fun j hj => (by cases hj), fun j _ => rfl, hl, fun j p h => ⟨j, h⟩⟩
    | cons v us ih =>
      intro hs
      obtain ⟨σ2, as2, st2, h1, h2, h3, h4⟩ := ih fun u hu => hs u (List.mem_cons_of_mem _ hu)
      obtain ⟨pl, hd⟩ := hc v (hs v List.mem_cons_self)
      refine ⟨σ2.set v (σ[v]?.getD none), drp as2 v [], ?_, fun j hj => ?_, fun j hj => ?_, by rw [List.length_set, h3], fun j p hp => ?_⟩
      · show StE K F G1 H1 _ ((backE E0 E1 us).set v (E0[v]?.getD .no)) _
        cases hq : E0[v]? with
        | none => exact st2.setN
        | some c =>
          rw [hq] at pl
          cases c with
          | no => exact st2.setN
          | dat d =>
            obtain ⟨x, e1, dd⟩ := hd d hq
            rw [e1]
            exact st2.setD (dd.up s)
          | own d => cases pl
          | deck a q l b => cases pl
          | slf a d => cases pl
      · by_cases e : j = v
        · subst e
          by_cases hj2 : j < σ2.length
          · rw [List.getElem?_set_self hj2]
            rw [h3] at hj2
            rw [List.getElem?_eq_getElem hj2]; rfl
          · rw [List.getElem?_eq_none (by rw [List.length_set]; omega), List.getElem?_eq_none (by omega)]
        · rw [List.getElem?_set_ne (Ne.symm e)]
          rcases List.mem_cons.mp hj with z | z
          · exact absurd z e
          · exact h1 j z
      · rw [List.getElem?_set_ne (fun z => hj (by rw [z]; exact List.mem_cons_self))]
        exact h2 j fun z => hj (List.mem_cons_of_mem _ z)
      · by_cases e : j = v
        · rw [e, drp_same] at hp; cases hp
        · rw [drp_ne e] at hp; exact h4 j p hp
  obtain ⟨σ2, as2, st2, h1, h2, h3, h4⟩ := key vs fun _ h => h
  have e : σ2 = σ := by
    refine List.ext_getElem? fun j => ?_
    by_cases hj : j ∈ vs
    · exact h1 j hj
    · exact (h2 j hj).trans (hσ j hj)
  rw [e] at st2
  exact ⟨as2, st2, h4⟩
theorem Po.noErr {r : Res (W × Env)} (h : ∀ p, r = .ok p → Po K W0 F G σ Q (.ok p)) (hr : ∃ p, DL.noErr r = .ok p) : Po K W0 F G σ Q r := by
  obtain ⟨p, hp⟩ := hr
  cases r with
  | ok a => exact h a rfl
  | err x E => cases hp
  | stuck => cases hp
theorem wipe_get : ∀ {vs : List Nat} {j : Nat}, j ∉ vs → (L2.wipe σ vs)[j]? = σ[j]?
  | [], _, _ => rfl
  | v :: vs, j, h => by
    rw [L2.wipe, List.getElem?_set_ne (fun z => h (by rw [z]; exact List.mem_cons_self))]
    exact wipe_get fun z => h (List.mem_cons_of_mem _ z)
theorem wipe_in : ∀ {vs : List Nat} {j : Nat}, j ∈ vs → j < σ.length → (L2.wipe σ vs)[j]? = some none
  | v :: vs, j, h, hl => by
    rw [L2.wipe]
    by_cases e : v = j
    · subst e; rw [List.getElem?_set_self (by rw [wipe_length]; exact hl)]
    · rw [List.getElem?_set_ne e]
      rcases List.mem_cons.mp h with z | z
      · exact absurd z.symm e
      · exact wipe_in z hl
theorem wipe_eq {σ' : L2.St} {vs : List Nat} (h : ∀ j, j ∉ vs → σ'[j]? = (L2.wipe σ vs)[j]?) (hl : σ'.length = (L2.wipe σ vs).length) : L2.wipe σ' vs = L2.wipe σ vs := by
  rw [wipe_length] at hl
  refine List.ext_getElem? fun j => ?_
  by_cases hj : j ∈ vs
  · by_cases hb : j < σ.length
    · rw [wipe_in hj (by omega), wipe_in hj hb]
    · rw [List.getElem?_eq_none (by rw [wipe_length]; omega), List.getElem?_eq_none (by rw [wipe_length]; omega)]
  · rw [wipe_get hj]; exact h j hj
end

theorem PoN.noErr {α : Type} {K : PySem.W.Frag} {Wi : Wish} {F : Fr} {G : Hp} {σ : L2.St} {Q : VK} {r : Res α} {g : α → Res (D × Env)} (h : PoN K Wi F G σ Q ((DL.noErr r).bind g)) : ∃ a, r = .ok a ∧ PoN K Wi F G σ Q (g a) := by
  cases r with
  | ok a => exact ⟨a, rfl, h⟩
  | err x E => exact h.elim
  | stuck => exact h.elim

theorem tLc_of {K : PySem.W.Frag} {Wi : Wish} {fi : IF} {g : GF} {ts vs : List Nat} {fc : BF} {fe : EF} {tt : TT} {te : TE} (hts : ∀ t ∈ ts, t ∈ vs)
    (ht : ∀ σ H Q, tT K W0 fc σ H Q → tt σ H Q) (he : ∀ σ H Q, tE K W0 fe σ H Q → te σ H Q) :
    ∀ σ H Q, tN K Wi (nComp vs fi g fc fe) σ H Q → tLc (tI K Wi fi) (tG K ts g) tt te vs σ H Q := by
  intro σ H Q q
  obtain ⟨F, G, E, as, st, p⟩ := q
  refine ⟨F, G, E, as, st, PoI.mono (fun J H1 m => ?_) (PoI.bindN p)⟩
  obtain ⟨ds, G1, E1, as1, s1, st1, jd, p1⟩ := m
  intro D0 hD
  have p1 : PoN K Wi F G1 σ Q (if vs.all (fun v => plainC E1[v]?) = true then compL vs g fc fe E1 ds [] E1 else .stuck) := p1
  by_cases hpl : vs.all (fun v => plainC E1[v]?) = true
  · rw [if_pos hpl] at p1
    have hpl' : ∀ v ∈ vs, plainC E1[v]? = true := List.all_eq_true.mp hpl
    have al0 : Al G1 H1 G1 (upd H1 D0 (.lst [])) := Al.grow st1.s1 fun b u q => by rw [upd_ne (ne_of_none q hD)]; exact q
    refine ⟨fun i m H => m = ds.length - i ∧ i ≤ ds.length ∧ ∃ acc av G2 E2 as2, Same G1 G2 ∧ StE K F G2 H σ E2 as2 ∧ H D0 = some (.lst av) ∧ DDs K G2 av acc ∧ G2 D0 = none ∧ (∀ j, D0 ∉ as2 j) ∧ av.length ≤ i ∧
      PoN K Wi F G2 σ Q (compL vs g fc fe E1 (ds.drop i) acc E2), ⟨ds.length, by simp, Nat.zero_le _, [], [], G1, E1, as1, Same.refl _, st1.al al0, upd_same, .nil, st1.s1.free hD, fun j hj => ?_, Nat.le_refl _, p1⟩, ?_⟩
    · obtain ⟨o, q⟩ := st1.there hj
      rw [hD] at q; cases q
    · rintro i m H ⟨rfl, hi, acc, av, G2, E2, as2, s2, st2, hd, dda, gD, nD, la, p2⟩
      have fD : F.H0 D0 = none := st1.dom D0 hD
      by_cases hlt : i < ds.length
      · refine .inr ⟨jd.go G2 H i s2 st2.s1 hlt, fun H' => i + 1 ≤ ds.length ∧ ∃ acc av G2 E2 as2, Same G1 G2 ∧ StE K F G2 H' σ E2 as2 ∧ H' D0 = some (.lst av) ∧ DDs K G2 av acc ∧ G2 D0 = none ∧ (∀ j, D0 ∉ as2 j) ∧ av.length ≤ i + 1 ∧
          PoN K Wi F G2 σ Q (compL vs g fc fe E1 (ds.drop (i + 1)) acc E2), fun H' z => ⟨ds.length - (i + 1), by omega, rfl, z⟩, fun x H' y => ?_⟩
        have hx : ds[i]? = some ds[i] := List.getElem?_eq_getElem hlt
        obtain ⟨G3, al, dd⟩ := jd.yld G2 H i _ x H' s2 st2.s1 hx y
        have st3 := st2.al al
        have hdr : ds.drop i = ds[i] :: ds.drop (i + 1) := List.drop_eq_getElem_cons hlt
        rw [hdr] at p2
        have p2 := PoN.up al.g p2
        obtain ⟨E4, e4, p4⟩ := PoN.of p2
        have gD3 : G3 D0 = none := by
          cases q : G3 D0 with
          | none => rfl
          | some u => exact absurd (al.new D0 _ (by rw [q]; exact fun z => nomatch z) gD hd) (fun z => nomatch z)
        have hd3 : H' D0 = some (.lst av) := al.h _ _ hd
        -- the turn, in a frame of its own
        have stw := st3.wipe vs
        have nDw : ∀ j, D0 ∉ dropA as2 vs j := by
          have key : ∀ us : List Nat, ∀ j, D0 ∉ dropA as2 us j := by
            intro us
            induction us with
            | nil => exact nD
            | cons v us ih =>
              intro j hj
              by_cases e : j = v
              · rw [dropA, e, drp_same] at hj; cases hj
              · rw [dropA, drp_ne e] at hj; exact ih j hj
          exact key vs
        have sti := stw.in_
        have nOwn : D0 ∉ own (dropA as2 vs) (wipeE E2 vs).length := fun z => by
          obtain ⟨j, hj⟩ := of_own z
          exact nDw j hj
        obtain ⟨a, ea, p5⟩ := PoN.noErr p4
        refine ⟨_, G3, wipeE E2 vs, dropA as2 vs, ds[i], sti, dd, E4, e4, fun σ4 as4 st4 k4 l4 => ⟨wipe_eq (fun j hj => k4 j fun z => hj (hts j z)) l4, ?_⟩⟩
        refine ht _ _ _ ⟨_, G3, E4, as4, st4, ?_⟩
        rw [ea]
        intro G5 H5 as5 s5 st5
        -- what stands behind an expression of the turn
        have hσ : ∀ j, j ∉ vs → σ4[j]? = σ[j]? := fun j hj => (k4 j fun z => hj (hts j z)).trans (wipe_get hj)
        have hlen : σ4.length = σ.length := l4.trans (wipe_length σ vs)
        have keepD : ∀ {G6 H6 : Hp} {E6 : Env} {as6 : Nat → List Addr}, StE K (inner G3 H' (dropA as2 vs) (wipeE E2 vs).length) G6 H6 σ4 E6 as6 → H6 D0 = some (.lst av) ∧ G6 D0 = none := fun {G6 H6 E6 as6} st6 => by
          refine ⟨st6.keep D0 _ hd3 nOwn, ?_⟩
          cases q : G6 D0 with
          | none => rfl
          | some u => exact absurd gD3 (st6.priv D0 _ (by rw [q]; exact fun z => nomatch z) hd3 rfl nOwn)
        have hcell : ∀ v ∈ vs, plainC E1[v]? = true ∧ ∀ d, E1[v]? = some (.dat d) → ∃ x, σ[v]? = some (some x) ∧ DD K G1 x d := fun v hv => ⟨hpl' v hv, fun d hd => by
          obtain ⟨x, e1, _, z, rfl, dd⟩ := st1.cell v _ hd
          exact ⟨z, e1, dd⟩⟩
        have backD : ∀ {G6 H6 : Hp} {E6 : Env} {as6 : Nat → List Addr}, Same G3 G6 → StE K (inner G3 H' (dropA as2 vs) (wipeE E2 vs).length) G6 H6 σ4 E6 as6 → ∃ as7, StE K F G6 H6 σ (backE E1 E6 vs) as7 ∧ ∀ j, D0 ∉ as7 j := fun {G6 H6 E6 as6} s6 st6 => by
          obtain ⟨as7, st7, h7⟩ := StE.back hcell ((s2.trans al.g).trans s6) (stw.out st6) hσ hlen
          refine ⟨as7, st7, fun j hj => ?_⟩
          obtain ⟨k, hk⟩ := h7 j D0 hj
          rcases (st6.off k D0 hk).2 with z | z
          · have z : H' D0 = none := z
            rw [hd3] at z; cases z
          · exact nOwn z
        obtain ⟨b, E5⟩ := a
        cases b with
        | true =>
          rw [if_pos rfl]
          have p5 : PoN K Wi F G3 σ Q ((DL.noErr (fe E5)).bind fun q => (ofO (asDat q.1)).bind fun y => compL vs g fc fe E1 (ds.drop (i + 1)) (acc ++ [y]) (backE E1 q.2 vs)) := p5
          obtain ⟨q, eq, p6⟩ := PoN.noErr p5
          obtain ⟨w, E6⟩ := q
          refine he _ _ _ ⟨_, G5, E5, as5, st5, ?_⟩
          rw [eq]
          intro v G7 H7 as7 s7 st7 wo7
          cases w with
          | own j => exact p6.elim
          | dat y =>
            obtain ⟨hD7, gD7⟩ := keepD st7
            obtain ⟨as8, st8, n8⟩ := backD (s5.trans s7) st7
            refine ⟨av, hD7, Nat.lt_of_le_of_lt la (Nat.lt_of_lt_of_le hlt jd.le), hlt, acc ++ [y], av ++ [v], G7, backE E1 E6 vs, as8, ((s2.trans al.g).trans s5).trans s7, st8.wr gD7 fD n8 (by rw [hD7]; exact fun z => nomatch z), upd_same, (dda.up ((al.g.trans s5).trans s7)).app (.one wo7), gD7, n8, by rw [List.length_append]; exact Nat.succ_le_succ la, ?_⟩
            exact PoN.up (s5.trans s7) p6
        | false =>
          rw [if_neg Bool.false_ne_true]
          have p5 : PoN K Wi F G3 σ Q (compL vs g fc fe E1 (ds.drop (i + 1)) acc (backE E1 E5 vs)) := p5
          obtain ⟨hD7, gD7⟩ := keepD st5
          obtain ⟨as8, st8, n8⟩ := backD s5 st5
          exact ⟨hlt, acc, av, G5, backE E1 E5 vs, as8, (s2.trans al.g).trans s5, st8, hD7, dda.up (al.g.trans s5), gD7, n8, Nat.le_succ_of_le la, PoN.up s5 p5⟩
      · have e : i = ds.length := by omega
        subst e
        refine .inl ⟨jd.stop G2 H s2 st2.s1, ?_⟩
        rw [List.drop_length] at p2
        exact p2 D0 G2 H as2 (Same.refl _) st2 gD fD nD ⟨av, hd, Nat.le_trans la jd.le, dda⟩
  · rw [if_neg hpl] at p1; exact p1.elim
end DL
namespace DL
open PySem PySem.Spec PyProof.Rows L2

/-! ### comprehensions, as rules -/
abbrev DQs (X : Cx) (ifs : List Expr) (f : BF) : Prop := PTs X ifs (tT X.K W0 f)
theorem PTs.imp {X : Cx} {e : List Expr} {t t' : TT} (h : PTs X e t) (i : ∀ σ H Q, t' σ H Q → t σ H Q) : PTs X e t' :=
  ⟨fun pins s σ H Q I q => h.run pins s σ H Q I (i σ H Q q)⟩
theorem dts_nil {X : Cx} : DQs X [] tYes' := PTs.imp pts_nil fun σ H Q q => by
  obtain ⟨F, G, E, as, st, p⟩ := q
  exact p G H as (Same.refl _) st
theorem dts_one {X : Cx} {c : Expr} {f : BF} (h : DT X W0 c f) : DQs X [c] f := pts_one h
section
variable {X : Cx} {Wi : Wish} {elt tg iter : Expr} {ifs : List Expr} {scope : Scope} {own : List (Str × Nat)} {pos spos py : Pos} {fi : IF} {g : GF} {ts : List Nat} {fc : BF} {fe : EF}
theorem dn_comp (hc : X.calm = true) (hN : X.N.Nodup) (hi : DI X Wi tg iter fi) (ok : BlkOk X.N X.env.scope scope own)
    (hg : ∀ (s : Shared) (H : Hp) (C : Addr) (cl : List (Str × Addr)) (fp : List Addr), DG (X.blk s H scope (compEnvC scope cl C X.env) fp) tg ts g)
    (ht : ∀ (s : Shared) (H : Hp) (C : Addr) (cl : List (Str × Addr)) (fp : List Addr), DQs (X.blk s H scope (compEnvC scope cl C X.env) fp) ifs fc)
    (he : ∀ (s : Shared) (H : Hp) (C : Addr) (cl : List (Str × Addr)) (fp : List Addr), DE (X.blk s H scope (compEnvC scope cl C X.env) fp) W0 elt fe)
    (hts : ∀ t ∈ ts, t ∈ own.map (·.2) := by decide) (hs : ∀ x, foldedSetIterable iter X.env x = pure x := by intro _; rfl) :
    DN X Wi (.ListComp elt [⟨tg, iter, ifs, 0⟩] scope pos) (nComp (own.map (·.2)) fi g fc fe) :=
  PE.imp (pe_lc hc hN hi ok hg ht he hs) (tLc_of hts (fun _ _ _ q => q) fun _ _ _ q => q)
theorem ds_setNC {i : Nat} {y : Str} (hc : X.calm = true) (hN : X.N.Nodup) (hy : X.N[i]? = some y) (hyl : X.env.scope.names.lookup y = some .local)
    (hsw : swapsWith (.ListComp elt [⟨tg, iter, ifs, 0⟩] scope pos) (some (.Name y py)) spos.line X.env = pure true) (hi : DI X Wi tg iter fi) (ok : BlkOk X.N X.env.scope scope own)
    (hg : ∀ (s : Shared) (H : Hp) (C : Addr) (cl : List (Str × Addr)) (fp : List Addr), DG (X.blk s H scope (compEnvC scope cl C X.env) fp) tg ts g)
    (ht : ∀ (s : Shared) (H : Hp) (C : Addr) (cl : List (Str × Addr)) (fp : List Addr), DQs (X.blk s H scope (compEnvC scope cl C X.env) fp) ifs fc)
    (he : ∀ (s : Shared) (H : Hp) (C : Addr) (cl : List (Str × Addr)) (fp : List Addr), DE (X.blk s H scope (compEnvC scope cl C X.env) fp) W0 elt fe)
    (hts : ∀ t ∈ ts, t ∈ own.map (·.2) := by decide) (hs : ∀ x, foldedSetIterable iter X.env x = pure x := by intro _; rfl) :
    DS X Wi (.Assign [.Name y py] (.ListComp elt [⟨tg, iter, ifs, 0⟩] scope pos) spos) (sSetN i (nComp (own.map (·.2)) fi g fc fe)) :=
  PS.imp (ps_setLc hc hN hy hyl hsw hi ok hg ht he hs) (tAsgN_of (tLc_of hts (fun _ _ _ q => q) fun _ _ _ q => q))
/-- .. as data -/
theorem ds_setC {i : Nat} {y : Str} (hc : X.calm = true) (hN : X.N.Nodup) (hy : X.N[i]? = some y) (hyl : X.env.scope.names.lookup y = some .local)
    (hsw : swapsWith (.ListComp elt [⟨tg, iter, ifs, 0⟩] scope pos) (some (.Name y py)) spos.line X.env = pure true) (hi : DI X Wi tg iter fi) (ok : BlkOk X.N X.env.scope scope own)
    (hg : ∀ (s : Shared) (H : Hp) (C : Addr) (cl : List (Str × Addr)) (fp : List Addr), DG (X.blk s H scope (compEnvC scope cl C X.env) fp) tg ts g)
    (ht : ∀ (s : Shared) (H : Hp) (C : Addr) (cl : List (Str × Addr)) (fp : List Addr), DQs (X.blk s H scope (compEnvC scope cl C X.env) fp) ifs fc)
    (he : ∀ (s : Shared) (H : Hp) (C : Addr) (cl : List (Str × Addr)) (fp : List Addr), DE (X.blk s H scope (compEnvC scope cl C X.env) fp) W0 elt fe)
    (hts : ∀ t ∈ ts, t ∈ own.map (·.2) := by decide) (hs : ∀ x, foldedSetIterable iter X.env x = pure x := by intro _; rfl) :
    DS X Wi (.Assign [.Name y py] (.ListComp elt [⟨tg, iter, ifs, 0⟩] scope pos) spos) (sSet i (eN (nComp (own.map (·.2)) fi g fc fe))) :=
  PS.imp (ps_setLc hc hN hy hyl hsw hi ok hg ht he hs) (tAsg_of fun σ H Q q => by
    obtain ⟨F, G, E, as, st, p⟩ := q
    exact tLc_of hts (fun _ _ _ q => q) (fun _ _ _ q => q) σ H Q ⟨F, G, E, as, st, PoN.po p⟩)
end

/-! ### what a def promises -/
/-- a def that is called where no repr is under way -/
structure FnG (P : Program) (w : World) (K : PySem.W.Frag) (mg : Str → Option Value) (base : Heap) (CX : CXT) (k : Nat) (f : Addr) (fd : FuncData) (ps : List Str) (sp : Sp) : Prop where
  len : ∀ vs H Q E, sp vs H Q E → vs.length = ps.length
  go : ∀ (A : Around) (outer : List PySem.Env) (s : Shared) (H : Hp) (args : Args) (us : List Value) (vs : List V) (Q : VK) (E : XK), A.guards = some [] → Room k A → Env0 P w K mg base A outer s H →
    BindsTo s fd args (ps.zip us) → Vals vs us → sp vs H Q E → codeAny (model P w) A (.call (.ref f) args) (CR CX outer P w H s Q E) s
section
variable {P : Program} {w : World} {K : PySem.W.Frag} {mg : Str → Option Value} {base : Heap} {CX : CXT} {k j : Nat} {f : Addr} {fd : FuncData} {ps : List Str} {sp sp' : Sp}
theorem FnG.of (F : FnOk P w K mg base CX k f fd ps sp) : FnG P w K mg base CX k f fd ps sp := ⟨F.len, fun A outer s H args us vs Q E _ hr => F.run A outer s H args us vs Q E hr⟩
theorem FnG.mono (F : FnG P w K mg base CX j f fd ps sp) (h : j ≤ k) : FnG P w K mg base CX k f fd ps sp := ⟨F.len, fun A outer s H args us vs Q E hg hr => F.go A outer s H args us vs Q E hg (hr.mono h)⟩
theorem FnG.imp (F : FnG P w K mg base CX k f fd ps sp) (h : ∀ vs H Q E, sp' vs H Q E → sp vs H Q E) : FnG P w K mg base CX k f fd ps sp' :=
  ⟨fun vs H Q E q => F.len vs H Q E (h _ _ _ _ q), fun A outer s H args us vs Q E hg hr he hb hv hs => F.go A outer s H args us vs Q E hg hr he hb hv (h _ _ _ _ hs)⟩
/-- by the body -/
theorem FnG.body {x qual : Str} {st : Stmt} {N : List Str} (F : Fun K x qual st f fd) (S : FnScope N ps (defScope st)) (len : ∀ vs H Q E, sp vs H Q E → vs.length = ps.length)
    (hb : ∀ (cdv : Value) (A : Around) (outer : List PySem.Env) (s : Shared) (H : Hp) (vs : List V) (Q : VK) (E : XK), A.guards = some [] → Room k (A.deeper (envOfC qual (defScope st) s.heap.objs.size f cdv)) → sp vs H Q E →
      ∃ t, PSs (cxOf CX P w K mg base N qual (defScope st) f cdv A outer s H E) (defBody st) t ∧ t { nx := fun _ H' => Q .non H', rt := Q } (L2.start N vs) H) : FnG P w K mg base CX (k + 1) f fd ps sp := by
  obtain ⟨oc, od, kV, doc, pm, an, cdv, ct, osl, rfl, lk, hcd⟩ := F.ex
  constructor
  · exact len
  intro A outer s H args us vs Q E hg hr e0 bt r hsp
  have KX : K.In s.heap := e0.mod.kin.keeps fun b o e => (e0.bs b o e).1
  have lim : s.heap.NoLimit := e0.mod.nolimit.keeps fun b o e => (e0.bs b o e).1
  have kinds : ∀ y ∈ ps.zip us, (defScope st).names.lookup y.1 = some .local ∨ ((defScope st).names.lookup y.1 = some .cell ∧ ((cellsFrom (s.heap.objs.size + 1) (defScope st).names []).lookup y.1).isSome = true) := by
    rintro ⟨n, v⟩ hy
    cases S.par n (List.of_mem_zip hy).1 with
    | inl q => exact .inl q
    | inr q => exact .inr ⟨q, PySem.W.cellsFrom_some _ _ _ (.inl q)⟩
  refine codeAny_call_function hr.depth (KX _ _ lk) rfl S.co S.gen rfl (PySem.W.codeRec_of KX hcd) (bt _ _ _ _ (wpAny_newFunctionEnv_cells S.kind kinds fun env he s1 x => ?_))
  subst he
  obtain ⟨t, ht, hq⟩ := hb cdv A outer s H vs Q E hg (hr.deeper _) hsp
  refine ⟨lim.keeps x.toInCall.keep, codeAny_func (wpAny_mono (ht.run [] s1 (L2.start N vs) H _ (inv_start S hr.hd e0 (len _ _ _ _ hsp) r x) hq) (fun fl s' hs => ?_) fun e s' hs => hs)⟩
  cases fl with
  | ret u =>
    obtain ⟨v, σ', H', J, rv, q⟩ := hs
    exact ⟨v, H', J.os, J.bare, J.base, J.hok, rv, q⟩
  | next =>
    obtain ⟨σ', H', J, q⟩ := hs
    exact ⟨V.non, H', J.os, J.bare, J.base, J.hok, rfl, q⟩
  | brk =>
    obtain ⟨_, _, _, q⟩ := hs
    exact q.elim
  | cont =>
    obtain ⟨_, _, _, q⟩ := hs
    exact q.elim
end

/-- a promise over data: the mirror fm -/
def spP (K : PySem.W.Frag) (n : Nat) (fm : List D → Res D) : Sp := fun vs H Q E => ∃ G ds, Same G H ∧ DDs K G vs ds ∧ ds.length = n ∧ match fm ds with
  | .ok d => Rz K G H Q d
  | .err x _ => ∀ c dx G' H', Al G H G' H' → ExOk K G' x c dx → E c dx H'
  | .stuck => False
structure Dk where
  l : List Int
  b : Int
/-- the answer of a def that draws -/
def KRz (K : PySem.W.Frag) (G H : Hp) (a q : Addr) (Q : VK) : Res (D × Dk) → Prop
  | .ok (d, k') => ∀ v G' H', Same G G' → Same G' H' → (∀ b o, H b = some o → b ≠ a → b ≠ q → H' b = some o) → (∀ b o, G' b ≠ none → H b = some o → isT o = false → b ≠ a → b ≠ q → G b ≠ none) → G' a = none → G' q = none → DeckAt H' a q k'.l k'.b → DD K G' v d → Q v H'
  | _ => False
/-- .. whose first argument is the deck -/
def spK (K : PySem.W.Frag) (n : Nat) (fm : Addr → Addr → Dk → List D → Res (D × Dk)) : Sp := fun vs H Q E => ∃ G a q k vr ds, vs = .ref a :: vr ∧ Same G H ∧ G a = none ∧ G q = none ∧ DeckAt H a q k.l k.b ∧ DDs K G vr ds ∧ ds.length = n ∧
  KRz K G H a q Q (fm a q k ds)

def nos (n : Nat) : Env := List.replicate n .no
/-- what a body hands back -/
def outF : Res (Fl × Env) → Res D
  | .ok (.rt d, _) => .ok d
  | .ok (.nx, _) => .ok .non
  | .err x _ => .err x []
  | _ => .stuck
def deckOf (E : Env) : Option (Addr × Addr × Dk) := match E.head? with
  | some (Cell.deck a q l b) => some (a, q, ⟨l, b⟩)
  | _ => none
def outD (a q : Addr) (d : D) (E : Env) : Res (D × Dk) := (ofO (deckOf E)).bind fun z => if z.1 = a ∧ z.2.1 = q then .ok (d, z.2.2) else .stuck
def outK (a q : Addr) : Res (Fl × Env) → Res (D × Dk)
  | .ok (.rt d, E) => outD a q d E
  | .ok (.nx, E) => outD a q .non E
  | _ => .stuck
theorem outD_ok {K : PySem.W.Frag} {G H : Hp} {Q : VK} {a q : Addr} {d : D} {E : Env} (h : KRz K G H a q Q (outD a q d E)) : ∃ l b, E[0]? = some (.deck a q l b) ∧ KRz K G H a q Q (.ok (d, ⟨l, b⟩)) := by
  unfold outD deckOf at h
  cases E with
  | nil => exact h.elim
  | cons c r =>
    cases c with
    | deck a' q' l b =>
      have h : KRz K G H a q Q (if a' = a ∧ q' = q then Res.ok (d, (⟨l, b⟩ : Dk)) else .stuck) := h
      by_cases hq : a' = a ∧ q' = q
      · rw [if_pos hq] at h
        obtain ⟨h1, h2⟩ := hq
        rw [h1, h2]
        exact ⟨l, b, rfl, h⟩
      · rw [if_neg hq] at h; exact h.elim
    | no => exact h.elim
    | dat _ => exact h.elim
    | own _ => exact h.elim
    | slf _ _ => exact h.elim
def runP (fb : SF) (n : Nat) (ds : List D) : Res D := outF (fb (ds.map .dat ++ nos n))
def runK (fb : SF) (n : Nat) (a q : Addr) (k : Dk) (ds : List D) : Res (D × Dk) := outK a q (fb (.deck a q k.l k.b :: ds.map .dat ++ nos n))

section
variable {K : PySem.W.Frag} {G H : Hp}
theorem DDs.cell : ∀ {vs : List V} {ds : List D} {i : Nat} {c : Cell}, DDs K G vs ds → (ds.map Cell.dat)[i]? = some c → ∃ v d, vs[i]? = some v ∧ c = .dat d ∧ DD K G v d
  | vs, ds, i, c, h, e => by
    rw [List.getElem?_map] at e
    cases q : ds[i]? with
    | none => rw [q] at e; cases e
    | some d =>
      rw [q] at e
      obtain ⟨v, e1, dd⟩ := h.get q
      exact ⟨v, d, e1, (Option.some.inj e).symm, dd⟩
theorem start_get {N : List Str} {vs : List V} {i : Nat} {v : V} (h : vs[i]? = some v) : (L2.start N vs)[i]? = some (some v) := by
  unfold L2.start
  have hi := (List.getElem?_eq_some_iff.mp h).1
  rw [List.getElem?_append_left (by simpa using hi), List.getElem?_map, h]; rfl
theorem start_len {N : List Str} {vs : List V} (h : vs.length ≤ N.length) : (L2.start N vs).length = N.length := by
  unfold L2.start
  rw [List.length_append, List.length_map, List.length_replicate]; omega
theorem StE.start {N : List Str} {vs : List V} {ds : List D} {n : Nat} (s : Same G H) (dd : DDs K G vs ds) (hn : ds.length + n = N.length) : StE K ⟨H, G, []⟩ G H (L2.start N vs) (ds.map .dat ++ nos n) fun _ => [] := by
  have hl : vs.length = ds.length := dd.len
  refine ⟨by rw [start_len (by omega), List.length_append, List.length_map]; unfold nos; rw [List.length_replicate]; omega, Same.refl _, s, fun _ _ h _ => h, fun _ h => h, fun _ _ h _ _ _ => h, fun i c e => ?_, fun _ _ _ h => (by cases h), fun _ _ h => (by cases h), fun _ _ => rfl⟩
  by_cases hi : i < ds.length
  · rw [List.getElem?_append_left (by simpa using hi)] at e
    obtain ⟨v, d, e1, rfl, dd'⟩ := dd.cell e
    exact ⟨_, start_get e1, rfl, v, rfl, dd'⟩
  · rw [List.getElem?_append_right (by simpa using hi)] at e
    have hc : c = .no := by
      unfold nos at e
      rw [List.getElem?_replicate] at e
      split at e
      · exact (Option.some.inj e).symm
      · cases e
    subst hc
    have hb : i < N.length := by
      have := (List.getElem?_eq_some_iff.mp e).1
      unfold nos at this
      rw [List.length_replicate, List.length_map] at this; omega
    exact ⟨_, List.getElem?_eq_getElem (by rw [start_len (by omega)]; exact hb), rfl⟩
theorem StE.startK {N : List Str} {vs : List V} {ds : List D} {n : Nat} {a q : Addr} {k : Dk} (s : Same G H) (ga : G a = none) (gq : G q = none) (dk : DeckAt H a q k.l k.b) (dd : DDs K G vs ds) (hn : ds.length + 1 + n = N.length) :
    StE K ⟨H, G, [a, q]⟩ G H (L2.start N (.ref a :: vs)) (.deck a q k.l k.b :: ds.map .dat ++ nos n) fun i => if i = 0 then [a, q] else [] := by
  have hl : vs.length = ds.length := dd.len
  refine ⟨?_, Same.refl _, s, fun _ _ h _ => h, fun _ h => h, fun _ _ h _ _ _ => h, fun i c e => ?_, fun i j b h1 h2 => ?_, fun i b h => ?_, fun i h => ?_⟩
  · rw [start_len (by simp only [List.length_cons]; omega), List.length_append, List.length_cons, List.length_map]; unfold nos; rw [List.length_replicate]; omega
  · cases i with
    | zero =>
      cases e
      exact ⟨_, start_get (v := .ref a) rfl, rfl, rfl, dk⟩
    | succ i =>
      have e : (ds.map Cell.dat ++ nos n)[i]? = some c := e
      by_cases hi : i < ds.length
      · rw [List.getElem?_append_left (by simpa using hi)] at e
        obtain ⟨v, d, e1, rfl, dd'⟩ := dd.cell e
        exact ⟨_, start_get (v := v) e1, rfl, v, rfl, dd'⟩
      · rw [List.getElem?_append_right (by simpa using hi)] at e
        have hc : c = .no := by
          unfold nos at e
          rw [List.getElem?_replicate] at e
          split at e
          · exact (Option.some.inj e).symm
          · cases e
        subst hc
        have hb : i + 1 < N.length := by
          have := (List.getElem?_eq_some_iff.mp e).1
          unfold nos at this
          rw [List.length_replicate, List.length_map] at this; omega
        exact ⟨_, List.getElem?_eq_getElem (by rw [start_len (by simp only [List.length_cons]; omega)]; exact hb), rfl⟩
  · by_cases hi : i = 0
    · by_cases hj : j = 0
      · rw [hi, hj]
      · rw [if_neg hj] at h2; cases h2
    · rw [if_neg hi] at h1; cases h1
  · by_cases hi : i = 0
    · rw [if_pos hi] at h
      refine ⟨?_, .inr h⟩
      rcases List.mem_cons.mp h with z | z
      · rw [z]; exact ga
      · rw [List.mem_singleton.mp z]; exact gq
    · rw [if_neg hi] at h; cases h
  · have : i ≠ 0 := fun z => by subst z; simp at h
    rw [if_neg this]
end

/-! ### a def by its body -/
section
variable {P : Program} {w : World} {K : PySem.W.Frag} {mg : Str → Option Value} {base : Heap} {k : Nat} {f : Addr} {fd : FuncData} {ps N : List Str} {x qual : Str} {st : Stmt} {fb : SF}
theorem spP_len {n : Nat} {fm : List D → Res D} (hn : n = ps.length) : ∀ vs H Q E, spP K n fm vs H Q E → vs.length = ps.length := fun vs H Q E h => by
  obtain ⟨G, ds, _, dd, e, _⟩ := h
  rw [dd.len, e, hn]
theorem spK_len {n : Nat} {fm : Addr → Addr → Dk → List D → Res (D × Dk)} (hn : n + 1 = ps.length) : ∀ vs H Q E, spK K n fm vs H Q E → vs.length = ps.length := fun vs H Q E h => by
  obtain ⟨G, a, q, k, vr, ds, rfl, _, _, _, _, dd, e, _⟩ := h
  rw [List.length_cons, dd.len, e, hn]
/-- no exception leaves the def -/
theorem fn_P (F : Fun K x qual st f fd) (S : FnScope N ps (defScope st)) (n : Nat) (hn : ps.length + n = N.length)
    (hb : ∀ (cdv : Value) (A : Around) (outer : List PySem.Env) (s : Shared) (H : Hp) (E : XK), A.guards = some [] → Room k (A.deeper (envOfC qual (defScope st) s.heap.objs.size f cdv)) →
      DSs (cxOf CX0 P w K mg base N qual (defScope st) f cdv A outer s H E).nox W0 (defBody st) fb) : FnG P w K mg base CX0 (k + 1) f fd ps (spP K ps.length fun ds => noErr (runP fb n ds)) := by
  refine FnG.body F S (spP_len rfl) fun cdv A outer s H vs Q E hg hr hsp => ?_
  obtain ⟨G, ds, sm, dd, hl, q⟩ := hsp
  refine ⟨_, PSs.nox (hb cdv A outer s H E hg hr), ⟨H, G, []⟩, G, _, _, StE.start sm dd (n := n) (by omega), ?_⟩
  have done : ∀ {d : D}, Rz K G H Q d → ∀ v σ' G' H' as' E', Same G G' → StE K ⟨H, G, []⟩ G' H' σ' E' as' → DD K G' v d → Q v H' := fun {d} z v σ' G' H' as' E' s1 st1 dd1 =>
    z v G' H' ⟨s1, fun b o h => st1.keep b o h (fun z => by cases z), st1.s1, fun b o h e hb => (by
      cases ht : isT o with
      | true => rfl
      | false => exact absurd e (st1.priv b o h hb ht (fun z => by cases z)))⟩ dd1
  have q : (match noErr (outF (fb (ds.map .dat ++ nos n))) with
    | .ok d => Rz K G H Q d
    | .err x _ => ∀ c dx G' H', Al G H G' H' → ExOk K G' x c dx → E c dx H'
    | .stuck => False) := q
  show PoS K W0 ⟨H, G, []⟩ G _ (fb (ds.map .dat ++ nos n))
  generalize fb (ds.map .dat ++ nos n) = r at q ⊢
  match r, q with
  | .ok (.rt d, E'), q => exact fun v σ' G' H' as' s1 st1 dd1 => done q v σ' G' H' as' E' s1 st1 dd1
  | .ok (.nx, E'), q => exact fun σ' G' H' as' s1 st1 => done q .non σ' G' H' as' E' s1 st1 .non
  | .ok (.bk, E'), q => exact q.elim
  | .ok (.ct, E'), q => exact q.elim
  | .err x E', q => exact q.elim
theorem fn_K (F : Fun K x qual st f fd) (S : FnScope N ps (defScope st)) (m n : Nat) (hm : m + 1 = ps.length) (hn : ps.length + n = N.length)
    (hb : ∀ (cdv : Value) (A : Around) (outer : List PySem.Env) (s : Shared) (H : Hp) (E : XK), A.guards = some [] → Room k (A.deeper (envOfC qual (defScope st) s.heap.objs.size f cdv)) →
      DSs (cxOf CX0 P w K mg base N qual (defScope st) f cdv A outer s H E).nox W0 (defBody st) fb) : FnG P w K mg base CX0 (k + 1) f fd ps (spK K m (runK fb n)) := by
  refine FnG.body F S (spK_len hm) fun cdv A outer s H vs Q E hg hr hsp => ?_
  obtain ⟨G, a, q, k0, vr, ds, rfl, sm, ga, gq, dk, dd, hl, z⟩ := hsp
  refine ⟨_, PSs.nox (hb cdv A outer s H E hg hr), ⟨H, G, [a, q]⟩, G, _, _, StE.startK sm ga gq dk dd (n := n) (by omega), ?_⟩
  have done : ∀ {d : D} {E' : Env}, KRz K G H a q Q (outD a q d E') → ∀ v σ' G' H' as', Same G G' → StE K ⟨H, G, [a, q]⟩ G' H' σ' E' as' → DD K G' v d → Q v H' := fun {d E'} z v σ' G' H' as' s1 st1 dd1 => by
    obtain ⟨l, b, e, z⟩ := outD_ok z
    obtain ⟨u, e1, ea, _, dk'⟩ := st1.cell 0 _ e
    have nin : ∀ b, b ≠ a → b ≠ q → b ∉ [a, q] := fun b h1 h2 h => by
      rcases List.mem_cons.mp h with y | y
      · exact h1 y
      · exact h2 (List.mem_singleton.mp y)
    exact z v G' H' s1 st1.s1 (fun b o h h1 h2 => st1.keep b o h (nin b h1 h2)) (fun b o h h0 ht h1 h2 => st1.priv b o h h0 ht (nin b h1 h2)) (st1.off 0 a (by rw [ea]; simp)).1 (st1.off 0 q (by rw [ea]; simp)).1 dk' dd1
  have z : KRz K G H a q Q (outK a q (fb (.deck a q k0.l k0.b :: ds.map .dat ++ nos n))) := z
  show PoS K W0 ⟨H, G, [a, q]⟩ G _ (fb (.deck a q k0.l k0.b :: ds.map .dat ++ nos n))
  generalize fb (.deck a q k0.l k0.b :: ds.map .dat ++ nos n) = r at z ⊢
  match r, z with
  | .ok (.rt d, E'), z => exact fun v σ' G' H' as' s1 st1 dd1 => done (d := d) z v σ' G' H' as' s1 st1 dd1
  | .ok (.nx, E'), z => exact fun σ' G' H' as' s1 st1 => done (d := .non) z .non σ' G' H' as' s1 st1 .non
  | .ok (.bk, E'), z => exact z.elim
  | .ok (.ct, E'), z => exact z.elim
  | .err x E', z => exact z.elim
end
end DL
namespace DL
open PySem PySem.Spec PyProof.Rows L2

/-- what leaves a callee reaches what is wished for here -/
def PassW (CX : CXT) (X : Cx) (Wi : Wish) : Prop := ∀ (σ : L2.St) (pins : List (Addr × Obj)) (H : Hp) (s : Shared) (e : Value) (s' : Shared), Inv X pins σ H s → CX X.stack H s (Wi σ) e s' → X.xe e s'
theorem passW0 {X : Cx} {Wi : Wish} : PassW CX0 X Wi := fun _ _ _ _ _ _ _ h => h.elim
def CallEnd (X : Cx) (pins : List (Addr × Obj)) (σ : L2.St) (Q : VK) (r : Result) (s' : Shared) : Prop := match r with
  | .ok (.ret u) => EP X pins σ Q u s'
  | .ok _ => False
  | .error e => X.xe e s'
section
variable {X : Cx} {CX : CXT} {k : Nat} {f C : Addr} {fd : FuncData} {ps ks : List Str} {sp : Sp} {Wi : Wish} {σ : L2.St} {pins : List (Addr × Obj)} {H : Hp} {s : Shared} {Q : VK} {us : List Value} {vs : List V}
theorem ends_of (hx : PassW CX X Wi) (I : Inv X pins σ H s) {r : Result} {s' : Shared} (hq : CR CX X.stack X.prog X.w H s Q (Wi σ) r s') : CallEnd X pins σ Q r s' := by
  cases r with
  | error e => exact hx σ pins H s e s' I hq
  | ok fl =>
    cases fl with
    | ret u => exact I.after hq
    | next => exact hq.elim
    | brk => exact hq.elim
    | cont => exact hq.elim
theorem call_go (F : FnG X.prog X.w X.K X.mg X.base CX k f fd ps sp) (hg : X.A.guards = some []) (hr : Room k X.A) (hx : PassW CX X Wi) (I : Inv X pins σ H s) {args : Args} (hb : BindsTo s fd args (ps.zip us)) (r : Vals vs us) (h : sp vs H Q (Wi σ)) :
    codeAny (model X.prog X.w) X.A (.call (.ref f) args) (CallEnd X pins σ Q) s :=
  codeAny_mono (F.go X.A X.stack s H args us vs Q (Wi σ) hg hr I.env0 hb r h) fun _ _ hq => ends_of hx I hq
theorem code_call {f : Value} {us : List Value} {kw : List (Str × Value)} (h : codeAny (model X.prog X.w) X.A (.call f ⟨us, kw⟩) (CallEnd X pins σ Q) s) : wpAny (model X.prog X.w) X.A (call f us kw) (EP X pins σ Q) X.xe s := by
  refine wpAny_call (codeAny_mono h fun r s' hq => ?_)
  cases r with
  | error e => exact hq
  | ok fl =>
    cases fl with
    | ret u => exact hq
    | next => exact hq.elim
    | brk => exact hq.elim
    | cont => exact hq.elim
theorem make_guards {A : Around} {C : Addr} {us : List Value} {kw : List (Str × Value)} (hg : A.guards = some []) : (A.under (.builtin "type.__call__" ⟨.ref C :: us, kw⟩)).guards = some [] := by
  have e : (Code.builtin "type.__call__" ⟨.ref C :: us, kw⟩).guards = [] := if_neg (by simp [Code.isGuard, guardIds])
  show pushGuards (Code.builtin "type.__call__" ⟨.ref C :: us, kw⟩).guards A.guards = some []
  rw [e, hg]; rfl
/-- a call by place -/
theorem run_F (F : FnG X.prog X.w X.K X.mg X.base CX k f fd ps sp) (hg : X.A.guards = some []) (hr : Room k X.A) (hb : Binds X.K fd ps []) (hx : PassW CX X Wi) (I : Inv X pins σ H s) (r : Vals vs us) (h : sp vs H Q (Wi σ)) :
    wpAny (model X.prog X.w) X.A (call (.ref f) us) (EP X pins σ Q) X.xe s := by
  have hl : us.length = ps.length := by rw [← r.length]; exact F.len _ _ _ _ h
  have b := hb s us I.kIn (by rw [List.append_nil]; exact hl)
  rw [List.append_nil] at b
  exact code_call (call_go F hg hr hx I b r h)
/-- a call with keywords -/
theorem run_FK (F : FnG X.prog X.w X.K X.mg X.base CX k f fd ps sp) (hg : X.A.guards = some []) (hr : Room k X.A) {g : List Value → List Value → List Value} {gV : List V → List V → List V} (hb : KBinds X.K fd ps ks g gV) (hx : PassW CX X Wi)
    {ws : List Value} {zs : List V} (I : Inv X pins σ H s) (r : Vals vs us) (rz : Vals zs ws) (h : sp (gV vs zs) H Q (Wi σ)) : wpAny (model X.prog X.w) X.A (call (.ref f) us (ks.zip ws)) (EP X pins σ Q) X.xe s := by
  have r2 := hb.rel r rz
  have hl : (g us ws).length = ps.length := by rw [← r2.length]; exact F.len _ _ _ _ h
  exact code_call (call_go F hg hr hx I (hb.to s us ws I.kIn hl) r2 h)
/-- an instance is made -/
theorem run_M (M : Mk X.K C f) (F : FnG X.prog X.w X.K X.mg X.base CX k f fd ps sp) (hg : X.A.guards = some []) (hr : Room (k + 1) X.A) (hb : Binds X.K fd ps []) (hx : PassW CX X Wi) (I : Inv X pins σ H s) (r : Vals vs us)
    (h : ∀ x dx, H x = none → H dx = none → dx ≠ x → sp (.ref x :: vs) (upd (upd H dx (.own x)) x (.ins C dx [])) (fun v H2 => v = .non ∧ Q (.ref x) H2) (Wi σ)) :
    wpAny (model X.prog X.w) X.A (call (.ref C) us) (EP X pins σ Q) X.xe s := by
  have hq := h (s.heap.objs.size + 1) s.heap.objs.size (I.hok.fresh (Nat.le_succ _)) (I.hok.fresh (Nat.le_refl _)) (Nat.ne_of_lt (Nat.lt_succ_self _))
  have I2 := Inv.made (C := C) I
  have r2 : Vals (V.ref (s.heap.objs.size + 1) :: vs) (Value.ref (s.heap.objs.size + 1) :: us) := .cons rfl r
  have hl : (Value.ref (s.heap.objs.size + 1) :: us).length = ps.length := r2.length.symm.trans (F.len _ _ _ _ hq)
  have b := hb _ (Value.ref (s.heap.objs.size + 1) :: us) I2.kIn (by rw [List.append_nil]; exact hl)
  rw [List.append_nil] at b
  refine wpAny_call (make_map (f := f) I.kIn M.makes M.init (beq_iff_eq.mp M.fn) (codeAny_mono (F.go _ X.stack _ _ _ _ _ _ (Wi σ) (make_guards hg) (hr.make C us []) (I2.env0.make C us []) b r2 hq) fun r s' hq' => ?_))
  have z := ends_of hx I2 hq'
  cases r with
  | error e => exact z
  | ok fl =>
    cases fl with
    | ret u =>
      obtain ⟨v, H', I3, rv, ev, q3⟩ := z
      subst ev
      exact ⟨rv, ⟨V.ref (s.heap.objs.size + 1), H', I3, rfl, q3⟩⟩
    | next => exact z.elim
    | brk => exact z.elim
    | cont => exact z.elim
end

/-! ### calls in an expression, by promises -/
/-- what a call by the mirror's answer r leaves -/
def ret (r : Res D) (E : Env) : Res (W × Env) := match r with
  | .ok d => .ok (.dat d, E)
  | .err x _ => .err x E
  | .stuck => .stuck
def eF (n : Nat) (fm : List D → Res D) (fs : AF) : EF := fun E => (fs E).bind fun p => (ofO (dats p.1)).bind fun ds => if ds.length = n then ret (fm ds) p.2 else .stuck
section
variable {K : PySem.W.Frag} {Wi : Wish} {F : Fr} {G H : Hp} {σ : L2.St} {E : Env} {as : Nat → List Addr} {Q : VK}
theorem spP_of {n : Nat} {fm : List D → Res D} {vs : List V} {ds : List D} (st : StE K F G H σ E as) (dd : DDs K G vs ds) (hn : ds.length = n) (p : Po K Wi F G σ Q (ret (fm ds) E)) : spP K n fm vs H Q (Wi σ) := by
  refine ⟨G, ds, st.s1, dd, hn, ?_⟩
  unfold ret at p
  generalize fm ds = r at p ⊢
  match r, p with
  | .ok d, p => exact Po.rz st p
  | .err x _, p => exact fun c dx G' H' al xo => p c dx G' H' as al.g (st.al al) xo
end
def tCallG (sp : Sp) (Wi : Wish) (t : TA) : TE := fun σ H Q => t σ H fun vs H1 => sp vs H1 Q (Wi σ)
section
variable {X : Cx} {CX : CXT} {k n : Nat} {f C : Addr} {fd : FuncData} {ps ks : List Str} {Wi : Wish} {x m : Str} {p pos apos : Pos} {e o : Expr} {es : List Expr} {fs : AF} {fo : EF} {fm : List D → Res D} {sp : Sp} {t : TA}
theorem tCallG_of : ∀ σ H Q, tE X.K Wi (eF n fm fs) σ H Q → tCallG (spP X.K n fm) Wi (tA X.K Wi fs) σ H Q := by
  intro σ H Q q
  obtain ⟨F, G, E, as, st, p⟩ := q
  refine ⟨F, G, E, as, st, PoA.mono (fun vs H1 m => ?_) (PoA.bind p)⟩
  obtain ⟨ws, G1, E1, as1, s1, st1, wo1, p1⟩ := m
  obtain ⟨ds, e1, p1⟩ := Po.of p1
  by_cases hn : ds.length = n
  · rw [if_pos hn] at p1
    exact spP_of st1 (dats_ok wo1 e1) hn p1
  · rw [if_neg hn] at p1; exact p1.elim
/-- f(e, ..) -/
theorem pe_F (F : FnG X.prog X.w X.K X.mg X.base CX k f fd ps sp) (hg : X.A.guards = some []) (hr : Room k X.A) (gl : Gl X x) (hm : X.mg x = some (.ref f)) (hk : PySem.W.keepIn X.K (.ref f) = true) (hb : Binds X.K fd ps []) (hx : PassW CX X Wi)
    (ha : PA X (e :: es) t) (hdb : (x == ("__debug__" : Str)) = false := by decide) (he : starEach (e :: es) X.env = (false, eval e X.env) :: starEach es X.env := by rfl) (hpl : (backTo pos (starEach es X.env)).any (·.1) = false := by rfl) :
    PE X (.Call (.Name x p) (e :: es) [] pos) (tCallG sp Wi t) := ⟨fun pins s σ H Q I h =>
  wpAny_Call_Name_kw (ld_glob I gl hm (PySem.W.callWith_K (h₀ := X.base) I.ok.mod.kin hk (thn (ha.run pos pins s σ H _ I h) fun us s1 ⟨vs, H1, I1, r, q⟩ => ⟨I1.kIn, run_F F hg hr hb hx I1 r q⟩) he hpl) hdb)⟩
theorem de_F (F : FnG X.prog X.w X.K X.mg X.base CX k f fd ps (spP X.K n fm)) (hg : X.A.guards = some []) (hr : Room k X.A) (gl : Gl X x) (hm : X.mg x = some (.ref f)) (hk : PySem.W.keepIn X.K (.ref f) = true) (hb : Binds X.K fd ps []) (hx : PassW CX X Wi)
    (ha : DA X Wi (e :: es) fs) (hdb : (x == ("__debug__" : Str)) = false := by decide) (he : starEach (e :: es) X.env = (false, eval e X.env) :: starEach es X.env := by rfl) (hpl : (backTo pos (starEach es X.env)).any (·.1) = false := by rfl) :
    DE X Wi (.Call (.Name x p) (e :: es) [] pos) (eF n fm fs) := PE.imp (pe_F F hg hr gl hm hk hb hx ha hdb he hpl) tCallG_of

/-! the deck -/
/-- the deck in a slot -/
def deckAt (E : Env) (i : Nat) : Option (Addr × Addr × Dk) := match E[i]? with
  | some (.deck a q l b) => some (a, q, ⟨l, b⟩)
  | _ => none
theorem deckAt_ok {E : Env} {i : Nat} {a q : Addr} {k : Dk} (h : deckAt E i = some (a, q, k)) : E[i]? = some (.deck a q k.l k.b) := by
  unfold deckAt at h
  cases e : E[i]? with
  | none => rw [e] at h; cases h
  | some c =>
    rw [e] at h
    cases c with
    | deck a' q' l b => cases h; rfl
    | no => cases h
    | dat _ => cases h
    | own _ => cases h
    | slf _ _ => cases h
def retK (i : Nat) (a q : Addr) (r : Res (D × Dk)) (E : Env) : Res (W × Env) := match r with
  | .ok (d, k) => .ok (.dat d, E.set i (.deck a q k.l k.b))
  | _ => .stuck
/-- f(deck, e, ..): the deck in slot i -/
def eK (i n : Nat) (fm : Addr → Addr → Dk → List D → Res (D × Dk)) (fs : AF) : EF := fun E => (ofO (deckAt E i)).bind fun _ => (fs E).bind fun p => (ofO (dats p.1)).bind fun ds => (ofO (deckAt p.2 i)).bind fun z =>
  if ds.length = n then retK i z.1 z.2.1 (fm z.1 z.2.1 z.2.2 ds) p.2 else .stuck
theorem StE.deckC {K : PySem.W.Frag} {F : Fr} {G H G' H' : Hp} {σ : L2.St} {E : Env} {as : Nat → List Addr} {i : Nat} {a q : Addr} {l l' : List Int} {b b' : Int} (st : StE K F G H σ E as) (e : E[i]? = some (.deck a q l b)) (s : Same G G') (s1 : Same G' H')
    (kp : ∀ b o, H b = some o → b ≠ a → b ≠ q → H' b = some o) (pv : ∀ b o, G' b ≠ none → H b = some o → isT o = false → b ≠ a → b ≠ q → G b ≠ none) (ga : G' a = none) (gq : G' q = none) (dk : DeckAt H' a q l' b') :
    StE K F G' H' σ (E.set i (.deck a q l' b')) as := by
  obtain ⟨v, e1, ea, ev, dk0⟩ := st.cell i _ e
  have ma : a ∈ as i := by rw [ea]; simp
  have mq : q ∈ as i := by rw [ea]; simp
  have dom' : ∀ b, H' b = none → H b = none := fun c h => by
    cases hc : H c with
    | none => rfl
    | some o =>
      by_cases h1 : c = a
      · rw [h1, dk.1] at h; cases h
      · by_cases h2 : c = q
        · rw [h2, dk.2] at h; cases h
        · rw [kp c o hc h1 h2] at h; cases h
  refine ⟨by rw [List.length_set]; exact st.len, st.s0.trans s, s1, fun c o h x => ?_, fun c h => st.dom c (dom' c h), fun c o h h0 ht x => ?_, fun j c' q' => ?_, st.sep, fun j c h => ⟨?_, (st.off j c h).2⟩, fun j hj => st.tail j (by rw [List.length_set] at hj; exact hj)⟩
  · have na : c ≠ a := fun z => by
      rw [z] at h x
      rcases (st.off i a ma).2 with y | y
      · rw [y] at h; cases h
      · exact x y
    have nq : c ≠ q := fun z => by
      rw [z] at h x
      rcases (st.off i q mq).2 with y | y
      · rw [y] at h; cases h
      · exact x y
    exact kp c o (st.keep c o h x) na nq
  · by_cases h1 : c = a
    · rw [h1, ga] at h; exact absurd rfl h
    · by_cases h2 : c = q
      · rw [h2, gq] at h; exact absurd rfl h
      · exact st.priv c o (pv c o h (st.keep c o h0 x) ht h1 h2) h0 ht x
  · rcases get_set q' with ⟨rfl, rfl⟩ | ⟨hj, q'⟩
    · exact ⟨v, e1, ea, ev, dk⟩
    · obtain ⟨w, e2, y⟩ := st.cell j c' q'
      refine ⟨w, e2, y.up s fun c hc o h => kp c o h (fun z => ?_) fun z => ?_⟩
      · exact hj (st.sep j i c hc (by rw [z]; exact ma))
      · exact hj (st.sep j i c hc (by rw [z]; exact mq))
  · by_cases h1 : c = a
    · rw [h1]; exact ga
    · by_cases h2 : c = q
      · rw [h2]; exact gq
      · cases hc : G' c with
        | none => rfl
        | some u =>
          obtain ⟨o, ho, ht⟩ := st.thereM h
          exact absurd (st.off j c h).1 (pv c o (by rw [hc]; exact fun z => nomatch z) ho ht h1 h2)
theorem tCallK_of {i : Nat} {fk : Addr → Addr → Dk → List D → Res (D × Dk)} : ∀ σ H Q, tE X.K Wi (eK i n fk fs) σ H Q → tCallG (spK X.K n fk) Wi (tCons (tVar i) (tA X.K Wi fs)) σ H Q := by
  intro σ H Q q
  obtain ⟨F, G, E, as, st, p⟩ := q
  obtain ⟨⟨a0, q0, k0⟩, e0, p⟩ := Po.of p
  obtain ⟨v0, hv, _, ev0, _⟩ := st.cell i _ (deckAt_ok e0)
  cases ev0
  refine ⟨_, hv, F, G, E, as, st, PoA.mono (fun vs H1 m => ?_) (PoA.bind p)⟩
  obtain ⟨ws, G1, E1, as1, s1, st1, wo1, p1⟩ := m
  obtain ⟨ds, e1, p1⟩ := Po.of p1
  obtain ⟨⟨a, q, k1⟩, e2, p1⟩ := Po.of p1
  have p1 : Po X.K Wi F G1 σ Q (if ds.length = n then retK i a q (fk a q k1 ds) E1 else .stuck) := p1
  by_cases hn : ds.length = n
  · rw [if_pos hn] at p1
    have hi := deckAt_ok e2
    obtain ⟨u, e3, ea, ev, dk⟩ := st1.cell i _ hi
    rw [hv] at e3; cases e3; cases ev
    have ga := (st1.off i a0 (by rw [ea]; simp)).1
    have gq := (st1.off i q (by rw [ea]; simp)).1
    refine ⟨G1, a0, q, k1, vs, ds, rfl, st1.s1, ga, gq, dk, dats_ok wo1 e1, hn, ?_⟩
    unfold retK at p1
    generalize fk a0 q k1 ds = r at p1 ⊢
    match r, p1 with
    | .ok (d, k'), p1 => exact fun w G' H' s2 s3 kp pv ga' gq' dk' dd => p1 w G' H' as1 s2 (st1.deckC hi s2 s3 kp pv ga' gq' dk') dd
    | .err y _, p1 => exact p1.elim
    | .stuck, p1 => exact p1.elim
  · rw [if_neg hn] at p1; exact p1.elim
theorem de_K {i : Nat} {fk : Addr → Addr → Dk → List D → Res (D × Dk)} (F : FnG X.prog X.w X.K X.mg X.base CX k f fd ps (spK X.K n fk)) (hg : X.A.guards = some []) (hr : Room k X.A) (gl : Gl X x) (hm : X.mg x = some (.ref f)) (hk : PySem.W.keepIn X.K (.ref f) = true) (hb : Binds X.K fd ps []) (hx : PassW CX X Wi)
    (hv : PE X e (tVar i)) (ha : DA X Wi es fs) (hdb : (x == ("__debug__" : Str)) = false := by decide) (he : starEach (e :: es) X.env = (false, eval e X.env) :: starEach es X.env := by rfl) (hpl : (backTo pos (starEach es X.env)).any (·.1) = false := by rfl) :
    DE X Wi (.Call (.Name x p) (e :: es) [] pos) (eK i n fk fs) := PE.imp (pe_F F hg hr gl hm hk hb hx (pa_cons hv ha he) hdb he hpl) tCallK_of

/-! methods, instances, fields -/
def tMethG (C : Addr) (m : Str) (sp : Sp) (Wi : Wish) (ta : TE) (t : TA) : TE := fun σ H Q => ta σ H fun x H1 => ∃ a dx vf, x = .ref a ∧ H1 a = some (.ins C dx vf) ∧ vf.lookup m = none ∧ t σ H1 fun vs H2 => sp (x :: vs) H2 Q (Wi σ)
theorem pe_G {pl : Sem Bool} {ta : TE} (he : PE X o ta) (c : Cls X.K C) (hm : Meth X.K C m f) (F : FnG X.prog X.w X.K X.mg X.base CX k f fd ps sp) (hg : X.A.guards = some []) (hr : Room k X.A) (hb : Binds X.K fd ps []) (hx : PassW CX X Wi) (ha : PA X (e :: es) t)
    (hst : starEach (e :: es) X.env = (false, eval e X.env) :: starEach es X.env := by rfl) (hpl : (backTo pos (starEach es X.env)).any (·.1) = false := by rfl)
    (ht : eval (.Call (.Attribute o m apos) (e :: es) [] pos) X.env = (do
      let ov ← eval o X.env
      standAt apos.atName
      let (f, first) ← holding [ov] (getMethod ov m pl)
      callWith pos f first (backTo pos (starEach (e :: es) X.env)) (backToKw pos (keywordEach [] X.env))) := by rfl) :
    PE X (.Call (.Attribute o m apos) (e :: es) [] pos) (tMethG C m sp Wi ta t) := by
  constructor
  intro pins s σ H Q I h
  refine PySem.W.methodCall_KW (pl := pl) (thn (he.run pins s σ H _ I h) fun u s1 z => ?_) ht
  obtain ⟨x, H1, I1, rx, a, dx, vf, rfl, ea, l, q⟩ := z
  cases rx
  exact getmeth_ok I1 ea c hm l (PySem.W.callWith_K (first := [.ref a]) (h₀ := X.base) I.ok.mod.kin hm.kp (thn (ha.run pos pins s1 σ H1 _ I1 q) fun us s2 ⟨vs, H2, I2, r, q2⟩ => ⟨I2.kIn, run_F (us := .ref a :: us) (vs := .ref a :: vs) F hg hr hb hx I2 (.cons rfl r) q2⟩) hst hpl)
theorem pe_G0 {pl : Sem Bool} {ta : TE} (he : PE X o ta) (c : Cls X.K C) (hm : Meth X.K C m f) (F : FnG X.prog X.w X.K X.mg X.base CX k f fd ps sp) (hg : X.A.guards = some []) (hr : Room k X.A) (hb : Binds X.K fd ps []) (hx : PassW CX X Wi)
    (ht : eval (.Call (.Attribute o m apos) [] [] pos) X.env = (do
      let ov ← eval o X.env
      standAt apos.atName
      let (f, first) ← holding [ov] (getMethod ov m pl)
      callWith pos f first (backTo pos (starEach [] X.env)) (backToKw pos (keywordEach [] X.env))) := by rfl) :
    PE X (.Call (.Attribute o m apos) [] [] pos) (tMethG C m sp Wi ta tNil) := by
  constructor
  intro pins s σ H Q I h
  refine PySem.W.methodCall_KW (pl := pl) (thn (he.run pins s σ H _ I h) fun u s1 z => ?_) ht
  obtain ⟨x, H1, I1, rx, a, dx, vf, rfl, ea, l, q⟩ := z
  cases rx
  exact getmeth_ok I1 ea c hm l (PySem.W.callWith_K0 (first := [.ref a]) I1.kIn hm.kp (run_F (us := [.ref a]) (vs := [.ref a]) F hg hr hb hx I1 (.cons rfl .nil) q))
/-- is it an instance of C without a field m -/
def insOf (C : Addr) (m : Str) : W → Option D
  | .dat (.obj C' fs) => if C' = C ∧ fs.lookup m = none then some (.obj C' fs) else none
  | _ => none
def eG (C : Addr) (m : Str) (n : Nat) (fm : List D → Res D) (fo : EF) (fs : AF) : EF := fun E => (fo E).bind fun p => (ofO (insOf C m p.1)).bind fun x => (fs p.2).bind fun q => (ofO (dats q.1)).bind fun ds => if ds.length + 1 = n then ret (fm (x :: ds)) q.2 else .stuck
theorem insOf_ok {K : PySem.W.Frag} {G : Hp} {E : Env} {σ : L2.St} {v : V} {w : W} {d : D} (h : insOf C m w = some d) (wo : WOk K G E σ v w) : ∃ fs a dx vf, d = .obj C fs ∧ v = .ref a ∧ G a = some (.ins C dx vf) ∧ vf.lookup m = none ∧ DD K G v d := by
  cases w with
  | own _ => cases h
  | dat d' =>
    cases d' with
    | obj C' fs =>
      have h : (if C' = C ∧ fs.lookup m = none then some (D.obj C' fs) else none) = some d := h
      by_cases q : C' = C ∧ fs.lookup m = none
      · rw [if_pos q] at h
        cases h
        obtain ⟨rfl, q2⟩ := q
        have dd : DD K G v (.obj C' fs) := wo
        cases dd with
        | obj ga df => exact ⟨fs, _, _, _, rfl, rfl, ga, df.keys _ q2, .obj ga df⟩
      · rw [if_neg q] at h; cases h
    | _ => cases h
theorem tMethG_of : ∀ σ H Q, tE X.K Wi (eG C m n fm fo fs) σ H Q → tMethG C m (spP X.K n fm) Wi (tE X.K Wi fo) (tA X.K Wi fs) σ H Q := by
  intro σ H Q q
  obtain ⟨F, G, E, as, st, p⟩ := q
  refine ⟨F, G, E, as, st, Po.mono (fun x H1 m => ?_) (Po.bind p)⟩
  obtain ⟨w1, G1, E1, as1, s1, st1, wo1, p1⟩ := m
  obtain ⟨d, e1, p1⟩ := Po.of p1
  obtain ⟨ff, a, dx, vf, rfl, rfl, ga, nk, dd⟩ := insOf_ok e1 wo1
  refine ⟨a, dx, vf, rfl, st1.s1 _ _ ga, nk, F, G1, E1, as1, st1, PoA.mono (fun vs H2 m => ?_) (PoA.bind p1)⟩
  obtain ⟨ws, G2, E2, as2, s2, st2, wo2, p2⟩ := m
  obtain ⟨ds, e2, p2⟩ := Po.of p2
  by_cases hn : ds.length + 1 = n
  · rw [if_pos hn] at p2
    exact spP_of (ds := .obj C ff :: ds) st2 (.cons (dd.up s2) (dats_ok wo2 e2)) hn p2
  · rw [if_neg hn] at p2; exact p2.elim
theorem de_G {pl : Sem Bool} (he : DE X Wi o fo) (c : Cls X.K C) (hm : Meth X.K C m f) (F : FnG X.prog X.w X.K X.mg X.base CX k f fd ps (spP X.K n fm)) (hg : X.A.guards = some []) (hr : Room k X.A) (hb : Binds X.K fd ps []) (hx : PassW CX X Wi) (ha : DA X Wi (e :: es) fs)
    (hst : starEach (e :: es) X.env = (false, eval e X.env) :: starEach es X.env := by rfl) (hpl : (backTo pos (starEach es X.env)).any (·.1) = false := by rfl)
    (ht : eval (.Call (.Attribute o m apos) (e :: es) [] pos) X.env = (do
      let ov ← eval o X.env
      standAt apos.atName
      let (f, first) ← holding [ov] (getMethod ov m pl)
      callWith pos f first (backTo pos (starEach (e :: es) X.env)) (backToKw pos (keywordEach [] X.env))) := by rfl) : DE X Wi (.Call (.Attribute o m apos) (e :: es) [] pos) (eG C m n fm fo fs) :=
  PE.imp (pe_G he c hm F hg hr hb hx ha hst hpl ht) tMethG_of
theorem de_G0 {pl : Sem Bool} (he : DE X Wi o fo) (c : Cls X.K C) (hm : Meth X.K C m f) (F : FnG X.prog X.w X.K X.mg X.base CX k f fd ps (spP X.K n fm)) (hg : X.A.guards = some []) (hr : Room k X.A) (hb : Binds X.K fd ps []) (hx : PassW CX X Wi)
    (ht : eval (.Call (.Attribute o m apos) [] [] pos) X.env = (do
      let ov ← eval o X.env
      standAt apos.atName
      let (f, first) ← holding [ov] (getMethod ov m pl)
      callWith pos f first (backTo pos (starEach [] X.env)) (backToKw pos (keywordEach [] X.env))) := by rfl) : DE X Wi (.Call (.Attribute o m apos) [] [] pos) (eG C m n fm fo aN) :=
  PE.imp (pe_G0 he c hm F hg hr hb hx ht) fun σ H Q q => by
    have z := tMethG_of σ H Q q
    obtain ⟨F, G, E, as, st, p⟩ := z
    refine ⟨F, G, E, as, st, Po.mono (fun x H1 y => ?_) p⟩
    obtain ⟨a, dx, vf, e1, e2, e3, F2, G2, E2, as2, st2, p2⟩ := y
    exact ⟨a, dx, vf, e1, e2, e3, p2 [] G2 H1 as2 (Same.refl _) st2 True.intro⟩
/-- o.f, a field -/
def fldOf (f : Str) : D → Option D
  | .obj _ fs => fs.lookup f
  | _ => none
def eFld (C : Addr) (f : Str) (fo : EF) : EF := fun E => (fo E).bind fun p => match p.1 with
  | .dat (.obj C' fs) => if C' = C then (ofO (fs.lookup f)).bind fun d => .ok (.dat d, p.2) else .stuck
  | _ => .stuck
theorem de_fld {f : Str} (he : DE X Wi o fo) (c : Cls X.K C) (hn : NoAttr X.K C f) (hb : attributeBase o f X.env (eval o X.env) = eval o X.env := by rfl) : DE X Wi (.Attribute o f pos) (eFld C f fo) := PE.imp (pe_fld he hb) fun σ H Q q => by
  obtain ⟨F, G, E, as, st, p⟩ := q
  refine ⟨F, G, E, as, st, Po.mono (fun x H1 m => ?_) (Po.bind p)⟩
  obtain ⟨w1, G1, E1, as1, s1, st1, wo1, p1⟩ := m
  cases w1 with
  | own _ => exact p1.elim
  | dat d =>
    cases d with
    | obj C' fs =>
      have p2 : Po X.K Wi F G1 σ Q (if C' = C then (ofO (fs.lookup f)).bind fun d => .ok (.dat d, E1) else .stuck) := p1
      by_cases hC : C' = C
      · rw [if_pos hC] at p2
        subst hC
        obtain ⟨d, e1, p3⟩ := Po.of p2
        have dd : DD X.K G1 x (.obj C' fs) := wo1
        cases dd with
        | obj ga df =>
          obtain ⟨v, e2, dv⟩ := df.look e1
          exact ⟨_, C', _, _, v, rfl, st1.s1 _ _ ga, c, hn, e2, Po.rz st1 p3 _ _ _ (Al.refl st1.s1) dv⟩
      · rw [if_neg hC] at p2; exact p2.elim
    | _ => exact p1.elim
end
end DL
namespace DL
open PySem PySem.Spec PyProof.Rows L2 TL

/-! ### texts -/
theorem strOk_iff {x : Str} : PyData.strOk x = true ↔ ∀ c ∈ tl x, c < 0x110000 := by
  unfold PyData.strOk tl
  rw [← Array.all_toList, List.all_eq_true]
  simp
theorem SOk.app {x y : Str} (hx : SOk x) (hy : SOk y) (h : x.length + y.length ≤ sizeLine) : SOk (x ++ y) := by
  have e : (x ++ y).length = x.length + y.length := strLen_append x y
  refine ⟨by rw [e]; exact h, strOk_iff.mpr fun c hc => ?_⟩
  rw [tl_append] at hc
  rcases List.mem_append.mp hc with h | h
  · exact strOk_iff.mp hx.2 c h
  · exact strOk_iff.mp hy.2 c h
theorem len_tl (x : Str) : x.length = (tl x).length := by simp [Str.length, tl]
theorem SOk.sub {x y : Str} (hx : SOk x) (h : ∀ c ∈ tl y, c ∈ tl x) (hl : y.length ≤ x.length) : SOk y :=
  ⟨Nat.le_trans hl hx.1, strOk_iff.mpr fun c hc => strOk_iff.mp hx.2 c (h c hc)⟩
theorem SOk.cut {x : Str} (hx : SOk x) (lo hi : Option Int) : SOk (cutS x lo hi) := by
  have e : tl (cutS x lo hi) = ((tl x).drop (HT.sIx x.length 0 lo)).take (HT.sIx x.length x.length hi - HT.sIx x.length 0 lo) := tl_mk _
  refine hx.sub (fun c hc => ?_) ?_
  · rw [e] at hc
    exact List.mem_of_mem_drop (List.mem_of_mem_take hc)
  · rw [len_tl, len_tl, e]
    simp only [List.length_take, List.length_drop]; omega
theorem SOk.sign {x : Str} {c : Nat} (hx : SOk x) (h : c ∈ tl x) : SOk ⟨#[c]⟩ := by
  refine ⟨by show 1 ≤ sizeLine; decide, strOk_iff.mpr fun d hd => ?_⟩
  have e : tl ⟨#[c]⟩ = [c] := rfl
  rw [e] at hd
  rw [List.mem_singleton.mp hd]
  exact strOk_iff.mp hx.2 c h

/-! ### reading what is borrowed -/
section
variable {X : Cx} {pins : List (Addr × Obj)} {σ : L2.St} {G H : Hp} {s : Shared} {v : V} {u : Value} {d : D}
theorem BD.reads (I : Inv X pins σ H s) (e : Same G H) (p : d.plain = true) (h : BD X.K G H v d) (r : RelV v u) : ∃ as, Reads s.heap u d.py as := by
  cases h with
  | dat dd => exact DD.reads I e d v u p dd r
  | own ev o =>
    subst ev
    cases r
    cases d with
    | lst ds =>
      obtain ⟨vs, e1, z, ha⟩ := o
      obtain ⟨its, rv, ⟨o, n, ho, hc, _, hd⟩, _⟩ := I.list (SqL.of e1)
      obtain ⟨as, hr⟩ := DDs.reads I e ds _ its (by simpa [D.plain] using p) ha rv
      exact ⟨_, Reads.list ho hc hd hr⟩
    | dic _ => cases p
    | dit _ => cases p
    | _ => first | exact o.elim | cases p
theorem BD.lay {K : PySem.W.Frag} (p : d.plain = true) (h : BD K G H v d) : d.py.canLay0 = true := by
  cases h with
  | dat dd => exact DD.lay d v p dd
  | own ev o =>
    cases d with
    | lst ds =>
      obtain ⟨vs, e1, z, ha⟩ := o
      exact DDs.lay ds _ (by simpa [D.plain] using p) ha
    | dic _ => cases p
    | dit _ => cases p
    | _ => first | exact o.elim | cases p
/-- a list -/
theorem BD.lst {K : PySem.W.Frag} (s : Same G H) {ds : List D} (h : BD K G H v (.lst ds)) : ∃ a vs, v = .ref a ∧ H a = some (.lst vs) ∧ vs.length ≤ sizeLine ∧ DDs K G vs ds := by
  cases h with
  | dat dd => cases dd with | lst g z r => exact ⟨_, _, rfl, s _ _ g, z, r⟩
  | own ev o => obtain ⟨vs, e1, z, r⟩ := o; exact ⟨_, vs, ev, e1, z, r⟩
theorem BD.tup {K : PySem.W.Frag} (s : Same G H) {ds : List D} (h : BD K G H v (.tup ds)) : ∃ a vs, v = .ref a ∧ H a = some (.tup vs) ∧ vs.length ≤ sizeLine ∧ DDs K G vs ds ∧ G a = some (.tup vs) := by
  cases h with
  | dat dd => cases dd with | tup g z r => exact ⟨_, _, rfl, s _ _ g, z, r, g⟩
  | own ev o => exact o.elim
theorem BD.int {K : PySem.W.Frag} {i : Int} (h : BD K G H v (.int i)) : v = .int i := by
  cases h with
  | dat dd => cases dd; rfl
  | own ev o => exact o.elim
theorem BD.bl {K : PySem.W.Frag} {i : Bool} (h : BD K G H v (.bl i)) : v = .bl i := by
  cases h with
  | dat dd => cases dd; rfl
  | own ev o => exact o.elim
theorem BD.non {K : PySem.W.Frag} (h : BD K G H v .non) : v = .non := by
  cases h with
  | dat dd => cases dd; rfl
  | own ev o => exact o.elim
theorem BD.str {K : PySem.W.Frag} {x : Str} (h : BD K G H v (.str x)) : v = .str x ∧ SOk x := by
  cases h with
  | dat dd => cases dd with | str _ h => exact ⟨rfl, h⟩
  | own ev o => exact o.elim
theorem BD.dic {K : PySem.W.Frag} (s : Same G H) {kd : List (Key × D)} (h : BD K G H v (.dic kd)) : ∃ a kv, v = .ref a ∧ H a = some (.dK kv) ∧ DKs K G kv kd := by
  cases h with
  | dat dd => cases dd with | dic g r => exact ⟨_, _, rfl, s _ _ g, r⟩
  | own ev o => obtain ⟨kv, e1, r⟩ := o; exact ⟨_, kv, ev, e1, r⟩
theorem BD.dit {K : PySem.W.Frag} (s : Same G H) {kd : List (List Key × D)} (h : BD K G H v (.dit kd)) : ∃ a kv, v = .ref a ∧ H a = some (.dT kv) ∧ DTs K G kv kd := by
  cases h with
  | dat dd => cases dd with | dit g r => exact ⟨_, _, rfl, s _ _ g, r⟩
  | own ev o => obtain ⟨kv, e1, r⟩ := o; exact ⟨_, kv, ev, e1, r⟩
end

/-! ### + -/
def gAdd : D → D → Option D
  | .int i, .int j => some (.int (i + j))
  | .str x, .str y => if x.length + y.length ≤ sizeLine then some (.str (x ++ y)) else none
  | .lst x, .lst y => if x.length + y.length ≤ sizeLine then some (.lst (x ++ y)) else none
  | .tup x, .tup y => if x.length + y.length ≤ sizeLine then some (.tup (x ++ y)) else none
  | _, _ => none
def rAddA (K : PySem.W.Frag) : R2 := fun x y H Q => (∃ i j, x = .int i ∧ y = .int j ∧ Q (.int (i + j)) H) ∨ (∃ i j, x = .str i ∧ y = .str j ∧ i.length + j.length ≤ sizeLine ∧ Q (.str (i ++ j)) H) ∨ rCat x y H Q ∨ rCatA K x y H Q
theorem op_addA {X : Cx} : OpR X (binaryOp .Add) (rAddA X.K) := op_add.or (op_add_str.or (op_cat.or op_catA))
theorem ifs_some {c : Prop} [Decidable c] {a d : D} (h : (if c then some a else none) = some d) : c ∧ d = a := by
  by_cases q : c
  · rw [if_pos q] at h; cases h; exact ⟨q, rfl⟩
  · rw [if_neg q] at h; cases h
theorem opd_add {K : PySem.W.Frag} : OpD K (rAddA K) gAdd := by
  intro G H x y a b d Q s ha hb e z
  cases a with
  | int i =>
    cases b with
    | int j => cases e; exact .inl ⟨i, j, ha.int, hb.int, z _ _ _ (Al.refl s) (.int _)⟩
    | _ => cases e
  | str i =>
    cases b with
    | str j =>
      obtain ⟨hl, rfl⟩ := ifs_some e
      exact .inr (.inl ⟨i, j, ha.str.1, hb.str.1, hl, z _ _ _ (Al.refl s) (.str _ (ha.str.2.app hb.str.2 hl))⟩)
    | _ => cases e
  | lst i =>
    cases b with
    | lst j =>
      obtain ⟨hl, rfl⟩ := ifs_some e
      obtain ⟨p, vs, rfl, h1, z1, d1⟩ := ha.lst s
      obtain ⟨q, ws, rfl, h2, z2, d2⟩ := hb.lst s
      have hl' : vs.length + ws.length ≤ sizeLine := by rw [d1.len, d2.len]; exact hl
      exact .inr (.inr (.inl ⟨p, q, vs, ws, rfl, rfl, h1, h2, hl', fun r hr => z.new s r _ hr (Al.one s hr).h ⟨_, upd_same, by rw [List.length_append]; exact hl', d1.app d2⟩⟩))
    | _ => cases e
  | tup i =>
    cases b with
    | tup j =>
      obtain ⟨hl, rfl⟩ := ifs_some e
      obtain ⟨p, vs, rfl, h1, z1, d1, g1⟩ := ha.tup s
      obtain ⟨q, ws, rfl, h2, z2, d2, g2⟩ := hb.tup s
      have hl' : vs.length + ws.length ≤ sizeLine := by rw [d1.len, d2.len]; exact hl
      refine .inr (.inr (.inr ?_))
      have both : ∀ r, H r = none → Q (.ref r) (upd H r (.tup (vs ++ ws))) := fun r hr => z _ _ _ (Al.one s hr) (.tup upd_same (by rw [List.length_append]; exact hl') ((d1.app d2).up (Al.one s hr).g))
      have hv : vs = [] → Q (.ref q) H := fun e => by
        subst e
        have e2 : i = [] := by have := d1.len; simpa using this.symm
        subst e2
        exact z _ _ _ (Al.refl s) (.tup g2 z2 d2)
      have hw : ws = [] → Q (.ref p) H := fun e => by
        subst e
        have e2 : j = [] := by have := d2.len; simpa using this.symm
        subst e2
        exact z _ _ _ (Al.refl s) (by rw [List.append_nil]; exact .tup g1 z1 d1)
      exact ⟨p, q, vs, ws, rfl, rfl, SqT.of h1, SqT.of h2, hl', hv, fun _ e => hw e, fun _ _ r hr => both r hr⟩
    | _ => cases e
  | _ => cases b <;> cases e

/-! ### other arithmetic -/
def gSub : D → D → Option D
  | .int i, .int j => some (.int (i - j))
  | _, _ => none
theorem opd_sub {K : PySem.W.Frag} : OpD K (rI0 fun i j => .int (i - j)) gSub := by
  intro G H x y a b d Q s ha hb e z
  cases a with
  | int i =>
    cases b with
    | int j => cases e; exact ⟨i, j, ha.int, hb.int, z _ _ _ (Al.refl s) (.int _)⟩
    | _ => cases e
  | _ => cases b <;> cases e

/-! ### ==, !=, <, in -/
def okCmp (a b : D) : Bool := a.plain && b.plain && decide (min a.py.depth b.py.depth ≤ 60)
def gEq (a b : D) : Option D := if okCmp a b = true then some (.bl (PyData.eqv a.py b.py)) else none
def gNe (a b : D) : Option D := if okCmp a b = true then some (.bl (!PyData.eqv a.py b.py)) else none
def rCm (K : PySem.W.Frag) (f : PyData → PyData → Bool) (ok : PyData → PyData → Prop) : R2 := fun x y H Q => ∃ G a b, Same G H ∧ BD K G H x a ∧ BD K G H y b ∧ a.plain = true ∧ b.plain = true ∧ min a.py.depth b.py.depth ≤ 60 ∧ ok a.py b.py ∧ Q (.bl (f a.py b.py)) H
theorem okCmp_iff {a b : D} (h : okCmp a b = true) : a.plain = true ∧ b.plain = true ∧ min a.py.depth b.py.depth ≤ 60 := by
  unfold okCmp at h
  rw [Bool.and_eq_true, Bool.and_eq_true] at h
  exact ⟨h.1.1, h.1.2, of_decide_eq_true h.2⟩
theorem opd_eq {K : PySem.W.Frag} : OpD K (rCm K PyData.eqv fun _ _ => True) gEq := by
  intro G H x y a b d Q s ha hb e z
  obtain ⟨h, rfl⟩ := ifs_some e
  obtain ⟨h1, h2, h3⟩ := okCmp_iff h
  exact ⟨G, a, b, s, ha, hb, h1, h2, h3, trivial, z _ _ _ (Al.refl s) (.bl _)⟩
theorem opd_ne {K : PySem.W.Frag} : OpD K (rCm K (fun a b => !PyData.eqv a b) fun _ _ => True) gNe := by
  intro G H x y a b d Q s ha hb e z
  obtain ⟨h, rfl⟩ := ifs_some e
  obtain ⟨h1, h2, h3⟩ := okCmp_iff h
  exact ⟨G, a, b, s, ha, hb, h1, h2, h3, trivial, z _ _ _ (Al.refl s) (.bl _)⟩
def notN : PyData → Bool
  | .none => false
  | _ => true
theorem notN_ne {d : PyData} (h : notN d = true) : d ≠ .none := fun e => by rw [e] at h; cases h
def gLt (a b : D) : Option D := if (okCmp a b && PySem.W.alike a.py b.py && notN a.py) = true then some (.bl (PySem.W.dataLt a.py b.py)) else none
theorem opd_lt {K : PySem.W.Frag} : OpD K (rCm K PySem.W.dataLt fun a b => PySem.W.alike a b = true ∧ a ≠ .none) gLt := by
  intro G H x y a b d Q s ha hb e z
  obtain ⟨h, rfl⟩ := ifs_some e
  rw [Bool.and_eq_true, Bool.and_eq_true] at h
  obtain ⟨h1, h2, h3⟩ := okCmp_iff h.1.1
  exact ⟨G, a, b, s, ha, hb, h1, h2, h3, ⟨h.1.2, notN_ne h.2⟩, z _ _ _ (Al.refl s) (.bl _)⟩
section
variable {X : Cx} (hu : X.A.units + 64 < cLine)
include hu
theorem op_eqq : OpR X (compareOp .Eq) (rCm X.K PyData.eqv fun _ _ => True) := by
  intro pins s σ H x y v u Q I rx ry ⟨G, a, b, sm, ha, hb, p1, p2, hd, _, q⟩
  obtain ⟨as, r1⟩ := ha.reads I sm p1 rx
  obtain ⟨bs, r2⟩ := hb.reads I sm p2 ry
  exact SeqAt.compareEq_reads r1 r2 (ha.lay p1) (hb.lay p2) (by omega) ⟨.bl _, H, I, rfl, q⟩
theorem op_neq : OpR X (compareOp .NotEq) (rCm X.K (fun a b => !PyData.eqv a b) fun _ _ => True) := by
  intro pins s σ H x y v u Q I rx ry ⟨G, a, b, sm, ha, hb, p1, p2, hd, _, q⟩
  obtain ⟨as, r1⟩ := ha.reads I sm p1 rx
  obtain ⟨bs, r2⟩ := hb.reads I sm p2 ry
  exact SeqAt.compareNe_reads r1 r2 (ha.lay p1) (hb.lay p2) (by omega) ⟨.bl _, H, I, rfl, q⟩
theorem op_ltt : OpR X (compareOp .Lt) (rCm X.K PySem.W.dataLt fun a b => PySem.W.alike a b = true ∧ a ≠ .none) := by
  intro pins s σ H x y v u Q I rx ry ⟨G, a, b, sm, ha, hb, p1, p2, hd, hk, q⟩
  obtain ⟨as, r1⟩ := ha.reads I sm p1 rx
  obtain ⟨bs, r2⟩ := hb.reads I sm p2 ry
  exact PySem.W.lt_data r1 r2 hk.1 hk.2 (by omega) ⟨.bl _, H, I, rfl, q⟩
end
end DL
namespace DL
open PySem PySem.Spec PyProof.Rows L2 TL

/-! ### in -/
def inS (x y : Str) : Bool := !(Builtin.Str.occurrences y x 0 y.length 1).isEmpty
def gInQ (neg : Bool) : D → D → Option D
  | .str x, .str y => some (.bl (if neg then !(inS x y) else inS x y))
  | d, .lst ds => if (d.plain && plainL ds && decide (min (PyData.depthAll (pyL ds)) d.py.depth ≤ 60)) = true then some (.bl (if neg then !((pyL ds).any fun y => PyData.eqv y d.py) else (pyL ds).any fun y => PyData.eqv y d.py)) else none
  | d, .tup ds => if (d.plain && plainL ds && decide (min (PyData.depthAll (pyL ds)) d.py.depth ≤ 60)) = true then some (.bl (if neg then !((pyL ds).any fun y => PyData.eqv y d.py) else (pyL ds).any fun y => PyData.eqv y d.py)) else none
  | _, _ => none
abbrev gIn := gInQ false
abbrev gNotIn := gInQ true
def rInQ (K : PySem.W.Frag) (neg : Bool) : R2 := fun x y H Q => (∃ a b, x = .str a ∧ y = .str b ∧ Q (.bl (if neg then !(inS a b) else inS a b)) H) ∨
  ∃ G d ds c, (c = D.lst ds ∨ c = D.tup ds) ∧ Same G H ∧ BD K G H x d ∧ BD K G H y c ∧ d.plain = true ∧ plainL ds = true ∧ min (PyData.depthAll (pyL ds)) d.py.depth ≤ 60 ∧
    Q (.bl (if neg then !((pyL ds).any fun y => PyData.eqv y d.py) else (pyL ds).any fun y => PyData.eqv y d.py)) H
theorem opd_in {K : PySem.W.Frag} {neg : Bool} : OpD K (rInQ K neg) (gInQ neg) := by
  intro G H x y a b d Q s ha hb e z
  have seq : ∀ (ds : List D) (c : D), (c = D.lst ds ∨ c = D.tup ds) → BD K G H y c →
      (if (a.plain && plainL ds && decide (min (PyData.depthAll (pyL ds)) a.py.depth ≤ 60)) = true then some (D.bl (if neg then !((pyL ds).any fun y => PyData.eqv y a.py) else (pyL ds).any fun y => PyData.eqv y a.py)) else none) = some d → rInQ K neg x y H Q := fun ds c hc hb e => by
    obtain ⟨h, rfl⟩ := ifs_some e
    rw [Bool.and_eq_true, Bool.and_eq_true] at h
    exact .inr ⟨G, a, ds, c, hc, s, ha, hb, h.1.1, h.1.2, of_decide_eq_true h.2, z _ _ _ (Al.refl s) (.bl _)⟩
  cases b with
  | str y =>
    cases a with
    | str x => cases e; exact .inl ⟨x, y, ha.str.1, hb.str.1, z _ _ _ (Al.refl s) (.bl _)⟩
    | _ => cases e
  | lst ds =>
    refine seq ds _ (.inl rfl) hb ?_
    cases a <;> exact e
  | tup ds =>
    refine seq ds _ (.inr rfl) hb ?_
    cases a <;> exact e
  | _ => cases a <;> cases e
section
variable {X : Cx} (hu : X.A.units + 64 < cLine)
include hu
theorem op_inq : OpR X (compareOp .In) (rInQ X.K false) := by
  intro pins s σ H x y v u Q I rx ry h
  rcases h with ⟨a, b, rfl, rfl, q⟩ | ⟨G, d, ds, c, hc, sm, hx, hy, p1, p2, hd, q⟩
  · exact op_in_str pins s σ H _ _ v u Q I rx ry ⟨a, b, rfl, rfl, q⟩
  · have pc : c.plain = true := by rcases hc with rfl | rfl <;> simpa [D.plain] using p2
    obtain ⟨as, r1⟩ := hx.reads I sm p1 rx
    obtain ⟨bs, r2⟩ := hy.reads I sm pc ry
    have l1 := hx.lay p1
    have l2 := hy.lay pc
    rcases hc with rfl | rfl
    · exact PySem.SeqAt.in_list_reads r2 r1 l2 l1 (by omega) ⟨.bl _, H, I, rfl, q⟩
    · exact PySem.SeqAt.in_tuple_reads r2 r1 l2 l1 (by omega) ⟨.bl _, H, I, rfl, q⟩
theorem op_notinq : OpR X (compareOp .NotIn) (rInQ X.K true) := by
  intro pins s σ H x y v u Q I rx ry h
  rcases h with ⟨a, b, rfl, rfl, q⟩ | ⟨G, d, ds, c, hc, sm, hx, hy, p1, p2, hd, q⟩
  · exact op_notIn_str pins s σ H _ _ v u Q I rx ry ⟨a, b, rfl, rfl, q⟩
  · have pc : c.plain = true := by rcases hc with rfl | rfl <;> simpa [D.plain] using p2
    obtain ⟨as, r1⟩ := hx.reads I sm p1 rx
    obtain ⟨bs, r2⟩ := hy.reads I sm pc ry
    have l1 := hx.lay p1
    have l2 := hy.lay pc
    rcases hc with rfl | rfl
    · exact PySem.SeqAt.notIn_list_reads r2 r1 l2 l1 (by omega) ⟨.bl _, H, I, rfl, q⟩
    · exact PySem.SeqAt.notIn_tuple_reads r2 r1 l2 l1 (by omega) ⟨.bl _, H, I, rfl, q⟩
end

/-! ### len, all, any -/
def gLen : List D → Option D
  | [.str x] => some (.int x.length)
  | [.lst ds] => some (.int ds.length)
  | [.tup ds] => some (.int ds.length)
  | _ => none
theorem BDs.one {K : PySem.W.Frag} {G H : Hp} {xs : List V} {d : D} (h : BDs K G H xs [d]) : ∃ x, xs = [x] ∧ BD K G H x d := by
  cases h with
  | cons a b => cases b; exact ⟨_, rfl, a⟩
theorem calld_len {K : PySem.W.Frag} : CallD K (fun xs H Q => ∃ x n, xs = [x] ∧ LenV K x H n ∧ Q (.int n) H) gLen := by
  intro G H xs ds d Q s h e z
  match ds, e with
  | [.str x], e =>
    cases e
    obtain ⟨v, rfl, b⟩ := h.one
    obtain ⟨rfl, ok⟩ := b.str
    exact ⟨_, _, rfl, ⟨ok.1, rfl⟩, z _ _ _ (Al.refl s) (.int _)⟩
  | [.lst ds], e =>
    cases e
    obtain ⟨v, rfl, b⟩ := h.one
    obtain ⟨a, vs, rfl, h1, z1, d1⟩ := b.lst s
    exact ⟨_, _, rfl, .inl ⟨vs, SqL.of h1, rfl⟩, by rw [d1.len]; exact z _ _ _ (Al.refl s) (.int _)⟩
  | [.tup ds], e =>
    cases e
    obtain ⟨v, rfl, b⟩ := h.one
    obtain ⟨a, vs, rfl, h1, z1, d1, _⟩ := b.tup s
    exact ⟨_, _, rfl, .inr ⟨vs, SqT.of h1, rfl⟩, by rw [d1.len]; exact z _ _ _ (Al.refl s) (.int _)⟩
def bls : List D → Option (List Bool)
  | [] => some []
  | .bl b :: r => (bls r).map (b :: ·)
  | _ => none
theorem bls_ok {K : PySem.W.Frag} {G : Hp} : ∀ {vs : List V} {ds : List D} {bs : List Bool}, DDs K G vs ds → bls ds = some bs → vs = bs.map V.bl
  | [], [], _, _, e => by cases e; rfl
  | v :: vs, d :: ds, bs, .cons a r, e => by
    cases d with
    | bl b =>
      have e : (bls ds).map (b :: ·) = some bs := e
      cases q : bls ds with
      | none => rw [q] at e; cases e
      | some l => rw [q] at e; cases e; cases a; rw [List.map_cons, bls_ok r q]
    | _ => cases e
def gAll : List D → Option D
  | [.lst ds] => (bls ds).map fun l => .bl (l.all id)
  | _ => none
def gAny : List D → Option D
  | [.lst ds] => (bls ds).map fun l => .bl (l.any id)
  | _ => none
theorem calld_all {K : PySem.W.Frag} : CallD K (rAll K) gAll := by
  intro G H xs ds d Q s h e z
  match ds, e with
  | [.lst ds], e =>
    have e : (bls ds).map (fun l => D.bl (l.all id)) = some d := e
    obtain ⟨v, rfl, b⟩ := h.one
    obtain ⟨a, vs, rfl, h1, z1, d1⟩ := b.lst s
    cases q : bls ds with
    | none => rw [q] at e; cases e
    | some l =>
      rw [q] at e; cases e
      exact ⟨a, l, rfl, SqL.of (by rw [h1, bls_ok d1 q]), z _ _ _ (Al.refl s) (.bl _)⟩
theorem calld_any {K : PySem.W.Frag} : CallD K (rAny K) gAny := by
  intro G H xs ds d Q s h e z
  match ds, e with
  | [.lst ds], e =>
    have e : (bls ds).map (fun l => D.bl (l.any id)) = some d := e
    obtain ⟨v, rfl, b⟩ := h.one
    obtain ⟨a, vs, rfl, h1, z1, d1⟩ := b.lst s
    cases q : bls ds with
    | none => rw [q] at e; cases e
    | some l =>
      rw [q] at e; cases e
      exact ⟨a, l, rfl, SqL.of (by rw [h1, bls_ok d1 q]), z _ _ _ (Al.refl s) (.bl _)⟩

/-! ### items, slices -/
def gIx : D → D → Option D
  | .lst ds, .int i => atI ds i
  | .tup ds, .int i => atI ds i
  | .str x, .int i => (atI (tl x) i).map fun c => .str ⟨#[c]⟩
  | _, _ => none
theorem atI_dd {K : PySem.W.Frag} {G : Hp} {vs : List V} {ds : List D} {i : Int} {d : D} (h : DDs K G vs ds) (e : atI ds i = some d) : ∃ v, atI vs i = some v ∧ DD K G v d := by
  unfold atI at e ⊢
  rw [h.len]
  cases q : ixN ds.length i with
  | none => rw [q] at e; cases e
  | some j =>
    rw [q] at e
    exact h.get e
theorem opd_ix {K : PySem.W.Frag} : OpD K (rIx K) gIx := by
  intro G H x y a b d Q s ha hb e z
  cases b with
  | int i =>
    cases a with
    | lst ds =>
      obtain ⟨p, vs, rfl, h1, z1, d1⟩ := ha.lst s
      obtain ⟨v, e1, dd⟩ := atI_dd d1 (show atI ds i = some d from e)
      exact .inl ⟨p, vs, i, v, rfl, hb.int, SqL.of h1, e1, z _ _ _ (Al.refl s) dd⟩
    | tup ds =>
      obtain ⟨p, vs, rfl, h1, z1, d1, _⟩ := ha.tup s
      obtain ⟨v, e1, dd⟩ := atI_dd d1 (show atI ds i = some d from e)
      exact .inr (.inl ⟨p, vs, i, v, rfl, hb.int, SqT.of h1, e1, z _ _ _ (Al.refl s) dd⟩)
    | str t =>
      obtain ⟨rfl, ok⟩ := ha.str
      have e : (atI (tl t) i).map (fun c => D.str ⟨#[c]⟩) = some d := e
      cases q : atI (tl t) i with
      | none => rw [q] at e; cases e
      | some c =>
        rw [q] at e; cases e
        obtain ⟨j, _, hj, _⟩ := atI_get q
        exact .inr (.inr ⟨t, i, c, rfl, hb.int, ok.1, q, z _ _ _ (Al.refl s) (.str _ (ok.sign (List.mem_of_getElem? hj)))⟩)
    | _ => cases e
  | _ => cases a <;> cases e
def cutD (xs : List D) (lo hi : Option Int) : List D := (xs.drop (HT.sIx xs.length 0 lo)).take (HT.sIx xs.length xs.length hi - HT.sIx xs.length 0 lo)
theorem DDs.cut {K : PySem.W.Frag} {G : Hp} {vs : List V} {ds : List D} (h : DDs K G vs ds) (lo hi : Option Int) : DDs K G (cutV vs lo hi) (cutD ds lo hi) := by
  unfold cutV cutD
  rw [h.len]
  exact (h.drop _).take _
def gSl : D → Option Int → Option Int → Option D
  | .lst ds, lo, hi => some (.lst (cutD ds lo hi))
  | .tup ds, lo, hi => some (.tup (cutD ds lo hi))
  | .str x, lo, hi => some (.str (cutS x lo hi))
  | _, _, _ => none
def rSl3 (K : PySem.W.Frag) : V → Option Int → Option Int → Hp → VK → Prop := fun x lo hi H Q => rSlL K x lo hi H Q ∨ rSlA K x lo hi H Q ∨ rSlS x lo hi H Q
theorem sl_3 {X : Cx} : SlR X (rSl3 X.K) := sl_list.or (sl_tupA.or sl_str)
theorem sld_sl {K : PySem.W.Frag} : SlD K (rSl3 K) gSl := by
  intro G H x a d lo hi Q s ha e z
  cases a with
  | lst ds =>
    cases e
    obtain ⟨p, vs, rfl, h1, z1, d1⟩ := ha.lst s
    exact .inl ⟨p, vs, rfl, SqL.of h1, fun q hq => z.new s q _ hq (Al.one s hq).h ⟨_, upd_same, Nat.le_trans (cutV_length vs lo hi) z1, d1.cut lo hi⟩⟩
  | tup ds =>
    cases e
    obtain ⟨p, vs, rfl, h1, z1, d1, g1⟩ := ha.tup s
    refine .inr (.inl ⟨p, vs, rfl, SqT.of h1, fun hw => ?_, fun _ q hq => z _ _ _ (Al.one s hq) (.tup upd_same (Nat.le_trans (cutV_length vs lo hi) z1) ((d1.cut lo hi).up (Al.one s hq).g))⟩)
    have e2 : cutD ds lo hi = ds := by
      unfold cutD
      rw [← d1.len, hw.1, hw.2, List.drop_zero, Nat.sub_zero, d1.len, List.take_length]
    exact z _ _ _ (Al.refl s) (by rw [e2]; exact .tup g1 z1 d1)
  | str t =>
    cases e
    obtain ⟨rfl, ok⟩ := ha.str
    exact .inr (.inr ⟨t, rfl, ok.1, z _ _ _ (Al.refl s) (.str _ (ok.cut lo hi))⟩)
  | _ => cases e

/-! ### tuple(x), list(x), sorted(x) -/
def gTuple : List D → Option D
  | [.lst ds] => some (.tup ds)
  | [.tup ds] => some (.tup ds)
  | _ => none
theorem calld_tuple {K : PySem.W.Frag} : CallD K (fun xs H Q => ∃ p ys, xs = [.ref p] ∧ ((SqL K H p ys ∧ ∀ l, H l = none → Q (.ref l) (upd H l (.tup ys))) ∨ (SqT K H p ys ∧ Q (.ref p) H))) gTuple := by
  intro G H xs ds d Q s h e z
  match ds, e with
  | [.lst ds], e =>
    cases e
    obtain ⟨v, rfl, b⟩ := h.one
    obtain ⟨a, vs, rfl, h1, z1, d1⟩ := b.lst s
    exact ⟨a, vs, rfl, .inl ⟨SqL.of h1, fun q hq => z _ _ _ (Al.one s hq) (.tup upd_same z1 (d1.up (Al.one s hq).g))⟩⟩
  | [.tup ds], e =>
    cases e
    obtain ⟨v, rfl, b⟩ := h.one
    obtain ⟨a, vs, rfl, h1, z1, d1, g1⟩ := b.tup s
    exact ⟨a, vs, rfl, .inr ⟨SqT.of h1, z _ _ _ (Al.refl s) (.tup g1 z1 d1)⟩⟩
def keyD : Key → D
  | .inl i => .int i
  | .inr x => .str x
/-- list(..) of a list, a tuple, a text, a dict -/
def gList : List D → Option D
  | [.lst ds] => some (.lst ds)
  | [.tup ds] => some (.lst ds)
  | _ => none
theorem calln_list {K : PySem.W.Frag} : CallN K (fun xs H Q => ∃ p ys, xs = [.ref p] ∧ (SqL K H p ys ∨ SqT K H p ys) ∧ ∀ l, H l = none → Q (.ref l) (upd H l (.lst ys))) gList := by
  intro G H xs ds d Q s h e z
  match ds, e with
  | [.lst ds], e =>
    cases e
    obtain ⟨v, rfl, b⟩ := h.one
    obtain ⟨a, vs, rfl, h1, z1, d1⟩ := b.lst s
    exact ⟨a, vs, rfl, .inl (SqL.of h1), fun q hq => z q _ hq (Al.one s hq).h ⟨_, upd_same, z1, d1⟩⟩
  | [.tup ds], e =>
    cases e
    obtain ⟨v, rfl, b⟩ := h.one
    obtain ⟨a, vs, rfl, h1, z1, d1, g1⟩ := b.tup s
    exact ⟨a, vs, rfl, .inr (SqT.of h1), fun q hq => z q _ hq (Al.one s hq).h ⟨_, upd_same, z1, d1⟩⟩
/-! sorted -/
def leD (a b : D) : Bool := PySem.W.dataLe false D.py a b
def okSort (ds : List D) : Bool := ds.all D.plain && (ds.all fun a => ds.all fun b => PySem.W.alike a.py b.py) && (ds.all (fun a => match a.py with | .tuple (_ :: _) => true | _ => false) || ds.all fun a => match a.py with | .none => false | .tuple _ => false | _ => true) && ds.all fun a => decide (a.py.depth ≤ 60)
def gSorted : List D → Option D
  | [.lst ds] => if okSort ds = true then some (.lst (ds.mergeSort leD)) else none
  | _ => none
def rSortD (K : PySem.W.Frag) : List V → Hp → VK → Prop := fun xs H Q => ∃ G a vs ds, xs = [.ref a] ∧ Same G H ∧ H a = some (.lst vs) ∧ vs.length ≤ sizeLine ∧ DDs K G vs ds ∧ okSort ds = true ∧ ∀ p ws, H p = none → DDs K G ws (ds.mergeSort leD) → Q (.ref p) (upd H p (.lst ws))
theorem calln_sorted {K : PySem.W.Frag} : CallN K (rSortD K) gSorted := by
  intro G H xs ds d Q s h e z
  match ds, e with
  | [.lst ds], e =>
    obtain ⟨h0, rfl⟩ := ifs_some (show (if okSort ds = true then some (D.lst (ds.mergeSort leD)) else none) = some d from e)
    obtain ⟨v, rfl, b⟩ := h.one
    obtain ⟨a, vs, rfl, h1, z1, d1⟩ := b.lst s
    refine ⟨G, a, vs, ds, rfl, s, h1, z1, d1, h0, fun q ws hq dd => z q _ hq (Al.one s hq).h ⟨ws, upd_same, ?_, dd⟩⟩
    rw [dd.len, (List.mergeSort_perm ds leD).length_eq, ← d1.len]; exact z1
theorem each_of {X : Cx} {pins : List (Addr × Obj)} {σ : L2.St} {G H : Hp} {s : Shared} (I : Inv X pins σ H s) (sm : Same G H) : ∀ {vs : List V} {us : List Value} {ds : List D}, Vals vs us → DDs X.K G vs ds → ds.all D.plain = true →
    PySem.W.EachIs (fun u d => ∃ v, RelV v u ∧ DD X.K G v d) us ds ∧ PySem.W.EachIs (fun u d => ∃ as, Reads s.heap u (D.py d) as) us ds
  | _, _, _, .nil, .nil, _ => ⟨.nil, .nil⟩
  | _, _, _, .cons r rs, .cons a b, p => by
    rw [List.all_cons, Bool.and_eq_true] at p
    obtain ⟨h1, h2⟩ := each_of I sm rs b p.2
    exact ⟨.cons ⟨_, r, a⟩ h1, .cons (DD.reads I sm _ _ _ p.1 a r) h2⟩
theorem of_each {K : PySem.W.Frag} {G : Hp} : ∀ {us : List Value} {ds : List D}, PySem.W.EachIs (fun u d => ∃ v, RelV v u ∧ DD K G v d) us ds → ∃ vs, Vals vs us ∧ DDs K G vs ds
  | _, _, .nil => ⟨[], .nil, .nil⟩
  | _, _, .cons ⟨v, r, a⟩ t => by
    obtain ⟨vs, h1, h2⟩ := of_each t
    exact ⟨v :: vs, .cons r h1, .cons a h2⟩
theorem call_sortD {X : Cx} (hu : X.A.units + 64 < cLine) : CallR X (.builtin "sorted") (rSortD X.K) := by
  intro pins s σ H xs us Q I r h
  obtain ⟨G, a, vs, ds, rfl, sm, hv, hz, dd, ok, q⟩ := h
  obtain ⟨its, rv, hl, _⟩ := I.list (SqL.of hv)
  rw [Vals.ref1 r]
  unfold okSort at ok
  simp only [Bool.and_eq_true] at ok
  obtain ⟨⟨⟨o1, o2⟩, o3⟩, o4⟩ := ok
  obtain ⟨e1, e2⟩ := each_of I sm rv dd o1
  have mem : ∀ d ∈ ds.map D.py, ∃ b ∈ ds, b.py = d := fun d hd => List.mem_map.mp hd
  refine PySem.W.sorted_data (bs := ds) (enc := D.py) hl.isList e1 e2 (fun d hd d' hd' => ?_) ?_ (by rw [← dd.len]; exact hz) (fun b hb => ?_) fun out ho eo => ?_
  · obtain ⟨b, hb, rfl⟩ := mem d hd
    obtain ⟨b', hb', rfl⟩ := mem d' hd'
    exact List.all_eq_true.mp (List.all_eq_true.mp o2 b hb) b' hb'
  · rw [Bool.or_eq_true] at o3
    rcases o3 with o3 | o3
    · refine .inl fun d hd => ?_
      obtain ⟨b, hb, rfl⟩ := mem d hd
      have z := List.all_eq_true.mp o3 b hb
      split at z
      · rename_i x r e; exact ⟨x, r, e⟩
      · cases z
    · refine .inr fun d hd => ?_
      obtain ⟨b, hb, rfl⟩ := mem d hd
      have z := List.all_eq_true.mp o3 b hb
      refine ⟨fun e => ?_, fun xs e => ?_⟩
      · rw [e] at z; cases z
      · rw [e] at z; cases z
  · have z := of_decide_eq_true (List.all_eq_true.mp o4 b hb)
    omega
  · obtain ⟨ws, w1, w2⟩ := of_each eo
    obtain ⟨ep, he'⟩ := PyProof.Rows.sortedAll_at s.heap its out.toArray
    have hlen : ws.length ≤ sizeLine := by rw [w1.length, ho, ← dd.len]; exact hz
    exact ⟨.ref _, upd H (s.heap.objs.size + 1) (.lst ws), I.laid (t' := s.toks) (fun _ _ => PyProof.Rows.sortedAll_old) (Nat.le_succ _) ⟨hlen, out, ep, w1, he'⟩, rfl, q _ ws (I.hok.fresh (Nat.le_succ _)) w2⟩
end DL
namespace DL
open PySem PySem.Spec PyProof.Rows L2 TL

/-! ### texts of code points -/
def Cp (l : List Nat) : Prop := ∀ c ∈ l, c < 0x110000
theorem Cp.app {a b : List Nat} (ha : Cp a) (hb : Cp b) : Cp (a ++ b) := fun c h => (List.mem_append.mp h).elim (ha c) (hb c)
theorem cp_string (s : String) : Cp (tl (Str.ofString s)) := by
  rw [tl_ofString]
  intro c hc
  obtain ⟨k, _, rfl⟩ := List.mem_map.mp hc
  have h := k.valid
  show k.val.toNat < _
  rcases h with h | h
  · have : k.val.toNat < 0xd800 := h
    omega
  · exact h.2
theorem cp_reprChar {q c : Nat} (hq : q < 0x110000) (hc : c < 0x110000) : Cp (Builtin.Str.reprChar q c) := by
  have hex : ∀ w, Cp (List.replicate (w - ((Nat.toDigits 16 c).map Char.toNat).length) 48 ++ (Nat.toDigits 16 c).map Char.toNat) := fun w => by
    refine Cp.app (fun d hd => ?_) fun d hd => ?_
    · rw [(List.mem_replicate.mp hd).2]; decide
    · obtain ⟨k, _, rfl⟩ := List.mem_map.mp hd
      rcases k.valid with h | h
      · have : k.val.toNat < 0xd800 := h
        show k.val.toNat < _
        omega
      · exact h.2
  have two : ∀ a b : Nat, a < 0x110000 → b < 0x110000 → Cp [a, b] := fun a b ha hb d hd => by
    rcases List.mem_cons.mp hd with e | hd
    · rw [e]; exact ha
    · rw [List.mem_singleton.mp hd]; exact hb
  unfold Builtin.Str.reprChar
  dsimp only
  split
  · exact two _ _ (by decide) hc
  split
  · exact two _ _ (by decide) (by decide)
  split
  · exact two _ _ (by decide) (by decide)
  split
  · exact two _ _ (by decide) (by decide)
  split
  · intro d hd; rw [List.mem_singleton.mp hd]; exact hc
  split
  · exact (two _ _ (by decide) (by decide)).app (hex 2)
  split
  · exact (two _ _ (by decide) (by decide)).app (hex 4)
  · exact (two _ _ (by decide) (by decide)).app (hex 8)
theorem cp_fold {q : Nat} (hq : q < 0x110000) : ∀ (l : List Nat) (acc : Array Nat), Cp l → Cp acc.toList → Cp (l.foldl (fun out c => out ++ (Builtin.Str.reprChar q c).toArray) acc).toList
  | [], acc, _, h => h
  | c :: r, acc, hl, h => by
    rw [List.foldl_cons]
    refine cp_fold hq r _ (fun d hd => hl d (List.mem_cons_of_mem _ hd)) ?_
    rw [Array.toList_append]
    exact h.app (cp_reprChar hq (hl c List.mem_cons_self))
theorem cp_reprText {x : Str} (h : Cp (tl x)) : Cp (tl (reprText x)) := by
  have hq : reprQuote x < 0x110000 := by unfold reprQuote; split <;> decide
  unfold reprText
  show Cp (Array.push _ _).toList
  rw [Array.toList_push, ← Array.foldl_toList]
  refine (cp_fold hq _ _ h fun c hc => ?_).app fun c hc => ?_
  · have hc : c ∈ [reprQuote x] := hc
    rw [List.mem_singleton.mp hc]; exact hq
  · rw [List.mem_singleton.mp hc]; exact hq
theorem cp_add {x y : Str} (hx : Cp (tl x)) (hy : Cp (tl y)) : Cp (tl (x ++ y)) := by rw [tl_append]; exact hx.app hy
theorem cp_from : ∀ (ts : List Str) (k : Nat) (acc : Str), Cp (tl acc) → (∀ t ∈ ts, Cp (tl t)) → Cp (tl (textFrom k acc ts))
  | [], _, _, h, _ => h
  | t :: ts, k, acc, h, ht => cp_from ts (k + 1) _ (cp_add (cp_add h (by split <;> exact cp_string _)) (ht t List.mem_cons_self)) fun u hu => ht u (List.mem_cons_of_mem _ hu)
theorem cp_join {y : Str} (hy : Cp (tl y)) : ∀ (ts : List Str), (∀ t ∈ ts, Cp (tl t)) → Cp (tl (Str.join y ts))
  | [], _ => fun c hc => (by cases hc)
  | [t], h => h t List.mem_cons_self
  | t :: u :: r, h => cp_add (cp_add (h t List.mem_cons_self) hy) (cp_join hy (u :: r) fun v hv => h v (List.mem_cons_of_mem _ hv))
mutual
theorem cp_shown : ∀ d : PyData, d.canLay0 = true → Cp (tl d.shown)
  | .none, _ => cp_string _
  | .bool b, _ => by cases b <;> exact cp_string _
  | .int i, _ => cp_string _
  | .str x, h => cp_reprText (strOk_iff.mp h)
  | .list xs, h => cp_add (cp_from _ 0 _ (cp_string _) (cp_shownAll xs h)) (cp_string _)
  | .tuple xs, h => cp_add (cp_add (cp_string _) (cp_join (cp_string _) _ (cp_shownAll xs h))) (by split <;> exact cp_string _)
  | .dict _, h => by cases h
theorem cp_shownAll : ∀ ds : List PyData, PyData.canLayAll0 ds = true → ∀ t ∈ PyData.shownAll ds, Cp (tl t)
  | [], _, t, ht => by cases ht
  | d :: ds, h, t, ht => by
    have h : (PyData.canLay0 d && PyData.canLayAll0 ds) = true := h
    rw [Bool.and_eq_true] at h
    rcases List.mem_cons.mp ht with e | ht
    · rw [e]; exact cp_shown d h.1
    · exact cp_shownAll ds h.2 t ht
end
mutual
theorem plain_hasDict : ∀ d : D, d.plain = true → d.py.hasDict = false
  | .non, _ => rfl
  | .bl _, _ => rfl
  | .int _, _ => rfl
  | .str _, _ => rfl
  | .lst xs, h => plainL_hasDict xs (by simpa [D.plain] using h)
  | .tup xs, h => plainL_hasDict xs (by simpa [D.plain] using h)
  | .dic _, h => by cases h
  | .dit _, h => by cases h
  | .obj _ _, h => by cases h
theorem plainL_hasDict : ∀ ds : List D, plainL ds = true → PyData.hasDictAll (pyL ds) = false
  | [], _ => rfl
  | d :: ds, h => by
    rw [plainL, Bool.and_eq_true] at h
    show (PyData.hasDict d.py || PyData.hasDictAll (pyL ds)) = false
    rw [plain_hasDict d h.1, plainL_hasDict ds h.2]; rfl
end
/-- repr, str of data -/
def okShow (d : D) : Bool := d.plain && d.py.showable && decide (d.py.shown.length ≤ sizeLine) && decide (d.py.depth ≤ 60)
def gRepr : List D → Option D
  | [d] => if okShow d = true then some (.str d.py.shown) else none
  | _ => none
def rReprD (K : PySem.W.Frag) : List V → Hp → VK → Prop := fun xs H Q => ∃ G x d, xs = [x] ∧ Same G H ∧ BD K G H x d ∧ okShow d = true ∧ Q (.str d.py.shown) H
theorem calld_repr {K : PySem.W.Frag} : CallD K (rReprD K) gRepr := by
  intro G H xs ds d Q s h e z
  match ds, e with
  | [a], e =>
    obtain ⟨h0, rfl⟩ := ifs_some (show (if okShow a = true then some (D.str a.py.shown) else none) = some d from e)
    obtain ⟨v, rfl, b⟩ := h.one
    refine ⟨G, v, a, rfl, s, b, h0, z _ _ _ (Al.refl s) (.str _ ?_)⟩
    unfold okShow at h0
    simp only [Bool.and_eq_true, decide_eq_true_eq] at h0
    exact ⟨h0.1.2, strOk_iff.mpr (cp_shown _ (b.lay h0.1.1.1))⟩
theorem call_reprD {X : Cx} (hu : X.A.units + 64 < cLine) (hg : X.A.guards = some []) : CallR X (.builtin "repr") (rReprD X.K) := by
  intro pins s σ H xs us Q I r h
  obtain ⟨G, x, d, rfl, sm, b, ok, q⟩ := h
  obtain ⟨u, rfl, rx⟩ := vals1 r
  unfold okShow at ok
  simp only [Bool.and_eq_true, decide_eq_true_eq] at ok
  obtain ⟨⟨⟨o1, o2⟩, o3⟩, o4⟩ := ok
  obtain ⟨as, rd⟩ := b.reads I sm o1 rx
  have seq : ∀ a, u = .ref a → wpAny (model X.prog X.w) X.A (call (.builtin "repr") [u]) (EP X pins σ Q) X.xe s := fun a e => by
    subst e
    refine repr_of_reads' (h₀ := s.heap) rd o2 (fun hd => ?_) hg (by omega) (fun _ _ h => h) (fun h' t tk hk => ⟨.str _, H, I.kept (t' := tk) hk, ⟨_, rfl⟩, q⟩) o3
    rw [plain_hasDict d o1] at hd; cases hd
  cases d with
  | non => cases b.non; cases rx; exact PySem.P.repr_of_none ⟨.str _, H, I.tok _, ⟨_, rfl⟩, q⟩
  | bl k => cases b.bl; cases rx; exact PySem.P.repr_of_bool ⟨.str _, H, I.tok _, ⟨_, rfl⟩, q⟩
  | int i =>
    cases b.int
    obtain ⟨t, rfl⟩ := rx
    exact PySem.P.repr_of_int (of_decide_eq_true o2) ⟨.str _, H, I.tok _, ⟨_, rfl⟩, q⟩
  | str z =>
    cases b.str.1
    obtain ⟨t, rfl⟩ := rx
    exact PySem.P.repr_of_str ⟨.str _, H, I.tok _, ⟨_, rfl⟩, q⟩ o3
  | lst ds =>
    obtain ⟨a, vs, rfl, _⟩ := b.lst sm
    exact seq a rx
  | tup ds =>
    obtain ⟨a, vs, rfl, _⟩ := b.tup sm
    exact seq a rx
  | dic _ => cases o1
  | dit _ => cases o1
  | obj _ _ => cases o1

/-! ### join -/
def strsD : List D → Option (List Str)
  | [] => some []
  | .str x :: r => (strsD r).map (x :: ·)
  | _ => none
theorem strsD_ok {K : PySem.W.Frag} {G : Hp} : ∀ {vs : List V} {ds : List D} {ys : List Str}, DDs K G vs ds → strsD ds = some ys → vs = ys.map V.str ∧ ∀ y ∈ ys, SOk y
  | [], [], _, _, e => by cases e; exact ⟨rfl, fun _ h => (by cases h)⟩
  | v :: vs, d :: ds, ys, .cons a r, e => by
    cases d with
    | str x =>
      have e : (strsD ds).map (x :: ·) = some ys := e
      cases q : strsD ds with
      | none => rw [q] at e; cases e
      | some l =>
        rw [q] at e; cases e
        cases a with
        | str _ ok =>
          obtain ⟨h1, h2⟩ := strsD_ok r q
          refine ⟨by rw [List.map_cons, h1], fun y hy => ?_⟩
          rcases List.mem_cons.mp hy with z | z
          · rw [z]; exact ok
          · exact h2 y z
    | _ => cases e
def gJoin (sep : D) (xs : List D) : Option D := match sep, xs with
  | .str a, [.lst ds] => (strsD ds).bind fun ys => if (ys.map (·.length)).sum + ys.length * a.length ≤ 16777216 then some (.str (Str.join a ys)) else none
  | .str a, [.tup ds] => (strsD ds).bind fun ys => if (ys.map (·.length)).sum + ys.length * a.length ≤ 16777216 then some (.str (Str.join a ys)) else none
  | _, _ => none
theorem join_len (a : Str) : ∀ ys : List Str, (Str.join a ys).length ≤ (ys.map (·.length)).sum + ys.length * a.length
  | [] => Nat.zero_le _
  | [y] => by simp [Str.join]
  | y :: z :: r => by
    have ih := join_len a (z :: r)
    show (y ++ a ++ Str.join a (z :: r)).length ≤ _
    rw [strLen_append, strLen_append]
    simp only [List.map_cons, List.sum_cons, List.length_cons] at ih ⊢
    have e : (r.length + 1 + 1) * a.length = (r.length + 1) * a.length + a.length := Nat.succ_mul _ _
    rw [e]; omega
theorem sok_join {a : Str} {ys : List Str} (ha : SOk a) (hy : ∀ y ∈ ys, SOk y) (hl : (ys.map (·.length)).sum + ys.length * a.length ≤ 16777216) : SOk (Str.join a ys) :=
  ⟨by rw [sizeLine_eq]; exact Nat.le_trans (join_len a ys) hl, strOk_iff.mpr (cp_join (strOk_iff.mp ha.2) ys fun y h => strOk_iff.mp (hy y h).2)⟩
section
variable {X : Cx} {Wi : Wish} {o e : Expr} {fo fe : EF} {apos pos : Pos}
/-- o.m(e), o a text -/
def eM1 (g : D → List D → Option D) (fo fe : EF) : EF := fun E => (fo E).bind fun p => (rd p.2 p.1).bind fun x => match x with
  | .str s => (fe p.2).bind fun q => (rd q.2 q.1).bind fun y => (ofO (g (.str s) [y])).bind fun d => .ok (.dat d, q.2)
  | _ => .stuck
def M1D (K : PySem.W.Frag) (r : V → List V → Hp → VK → Prop) (g : D → List D → Option D) : Prop :=
  ∀ (G H : Hp) (x : Str) (y : V) (b d : D) (Q : VK), Same G H → SOk x → BD K G H y b → g (.str x) [b] = some d → Rz K G H Q d → r (.str x) [y] H Q
theorem tM1_of {r : V → List V → Hp → VK → Prop} {g : D → List D → Option D} (hg : M1D X.K r g) : ∀ σ H Q, tE X.K Wi (eM1 g fo fe) σ H Q → tM1 r (tE X.K Wi fo) (tE X.K Wi fe) σ H Q := by
  intro σ H Q q
  obtain ⟨F, G, E, as, st, p⟩ := q
  refine ⟨F, G, E, as, st, Po.mono (fun x H1 m => ?_) (Po.bind p)⟩
  obtain ⟨w1, G1, E1, as1, s1, st1, wo1, p1⟩ := m
  obtain ⟨d1, e1, p1⟩ := Po.rd p1
  cases d1 with
  | str t =>
    obtain ⟨rfl, ok⟩ := (wo1.rd (Same.refl _) st1 e1).str
    refine ⟨⟨t, rfl⟩, F, G1, E1, as1, st1, Po.mono (fun y H2 m => ?_) (Po.bind p1)⟩
    obtain ⟨w2, G2, E2, as2, s2, st2, wo2, p2⟩ := m
    obtain ⟨d2, e2, p2⟩ := Po.rd p2
    obtain ⟨d, e3, p2⟩ := Po.of p2
    exact hg G2 H2 t y d2 d Q st2.s1 ok (wo2.rd (Same.refl _) st2 e2) e3 (Po.rz st2 p2)
  | _ => exact p1.elim
theorem m1d_join {K : PySem.W.Frag} : M1D K (fun x xs H Q => ∃ a p, ∃ ys : List Str, x = .str a ∧ xs = [.ref p] ∧ (SqL K H p (ys.map V.str) ∨ SqT K H p (ys.map V.str)) ∧
      (ys.map (·.length)).sum + ys.length * a.length ≤ 16777216 ∧ Q (.str (Txt.join a ys)) H) gJoin := by
  intro G H x y b d Q s ok hb e z
  have fin : ∀ {ds : List D} {vs : List V} {p : Addr}, DDs K G vs ds → y = .ref p → (SqL K H p vs ∨ SqT K H p vs) → ((strsD ds).bind fun ys => if (ys.map (·.length)).sum + ys.length * x.length ≤ 16777216 then some (D.str (Str.join x ys)) else none) = some d →
      ∃ a p, ∃ ys : List Str, V.str x = .str a ∧ [y] = [.ref p] ∧ (SqL K H p (ys.map V.str) ∨ SqT K H p (ys.map V.str)) ∧ (ys.map (·.length)).sum + ys.length * a.length ≤ 16777216 ∧ Q (.str (Txt.join a ys)) H := fun {ds vs p} dd ey sq e => by
    cases q : strsD ds with
    | none => rw [q] at e; cases e
    | some ys =>
      rw [q] at e
      obtain ⟨hl, rfl⟩ := ifs_some (show (if (ys.map (·.length)).sum + ys.length * x.length ≤ 16777216 then some (D.str (Str.join x ys)) else none) = some d from e)
      obtain ⟨ev, hy⟩ := strsD_ok dd q
      rw [ev] at sq
      exact ⟨x, p, ys, rfl, by rw [ey], sq, hl, by rw [join_eq]; exact z _ _ _ (Al.refl s) (.str _ (sok_join ok hy hl))⟩
  cases b with
  | lst ds =>
    obtain ⟨p, vs, rfl, h1, z1, d1⟩ := hb.lst s
    exact fin d1 rfl (.inl (SqL.of h1)) e
  | tup ds =>
    obtain ⟨p, vs, rfl, h1, z1, d1, _⟩ := hb.tup s
    exact fin d1 rfl (.inr (SqT.of h1)) e
  | _ => cases e
theorem de_join (ho : DE X Wi o fo) (he : DE X Wi e fe) (hs : starEach [e] X.env = [(false, eval e X.env)] := by rfl) (hbase : attributeBase o "join" X.env (eval o X.env) = eval o X.env := by rfl) (hline : (apos.endLine == pos.line) = true := by rfl) :
    DE X Wi (.Call (.Attribute o "join" apos) [e] [] pos) (eM1 gJoin fo fe) := PE.imp (pe_join ho he hs hbase hline) (tM1_of m1d_join)
end
end DL
namespace DL
open PySem PySem.Spec PyProof.Rows L2 TL

/-! ### what can be walked: list, tuple, text -/
def sgn (c : Nat) : Str := ⟨#[c]⟩
def signs (x : Str) : List D := (tl x).map fun c => D.str (sgn c)
def sqD : D → Option (List D)
  | .lst ds => some ds
  | .tup ds => some ds
  | .str x => some (signs x)
  | _ => none
theorem sok_sgn {x : Str} (h : SOk x) {c : Nat} (hc : c ∈ tl x) : SOk (sgn c) := by
  refine ⟨?_, strOk_iff.mpr fun d hd => ?_⟩
  · show (1 : Nat) ≤ sizeLine
    decide
  · have e : tl (sgn c) = [c] := rfl
    rw [e, List.mem_singleton] at hd
    rw [hd]; exact strOk_iff.mp h.2 c hc
theorem signs_len (x : Str) : (signs x).length = x.length := by
  unfold signs; rw [List.length_map]; rfl
theorem signs_get {x : Str} {i c : Nat} (h : x.cps[i]? = some c) : (signs x)[i]? = some (.str (sgn c)) := by
  unfold signs tl
  rw [List.getElem?_map, Array.getElem?_toList, h]; rfl
theorem signs_mem {x : Str} {i c : Nat} (h : x.cps[i]? = some c) : c ∈ tl x := by
  unfold tl
  exact List.mem_of_getElem? (i := i) (by rw [Array.getElem?_toList]; exact h)

/-- a source of items: where it lies -/
inductive Src where
  | li (a : Addr) | tu (a : Addr) | tx (x : Str) (t : Tok)
def Src.at : Src → Addr → Nat → Heap → Prop
  | .li a, it, i, h => h.IsListIter it a i
  | .tu a, it, i, h => h.IsTupleIter it a i
  | .tx x t, it, i, h => h.IsStrIter it (strIterType x) x t i
def Src.obj : Src → Obj
  | .li a => { cls := .type "list_iterator", data := .fields #[.ref a, .int 0 0] }
  | .tu a => { cls := .type "tuple_iterator", data := .fields #[.ref a, .int 0 0] }
  | .tx x t => { cls := .type (strIterType x), data := .fields #[.str x t, .int 0 0] }
theorem Src.new (k : Src) {h : Heap} {it : Addr} (e : h.get? it = some k.obj) : k.at it 0 h := by
  cases k with
  | li a => exact ⟨_, e, rfl, rfl⟩
  | tu a => exact ⟨_, e, rfl, rfl⟩
  | tx x t => exact ⟨_, e, rfl, rfl⟩
theorem Src.live {k : Src} {it : Addr} {i : Nat} {h : Heap} (st : k.at it i h) : ∃ o, h.get? it = some o ∧ ∀ v, o.data ≠ .cell v := by
  cases k with
  | li a => obtain ⟨o, e, c, d⟩ := st; exact ⟨o, e, fun v z => by rw [d] at z; cases z⟩
  | tu a => obtain ⟨o, e, c, d⟩ := st; exact ⟨o, e, fun v z => by rw [d] at z; cases z⟩
  | tx x t => obtain ⟨o, e, c, d⟩ := st; exact ⟨o, e, fun v z => by rw [d] at z; cases z⟩
theorem Src.stay {k : Src} {it : Addr} {i : Nat} {h h' : Heap} (st : k.at it i h) (hk : ∀ o, h.get? it = some o → h'.get? it = some o) : k.at it i h' := by
  cases k with
  | li a => obtain ⟨o, e, r⟩ := st; exact ⟨o, hk o e, r⟩
  | tu a => obtain ⟨o, e, r⟩ := st; exact ⟨o, hk o e, r⟩
  | tx x t => obtain ⟨o, e, r⟩ := st; exact ⟨o, hk o e, r⟩
/-- the source k stands for the items ds of data -/
def SrcOk (K : PySem.W.Frag) (G : Hp) (ds : List D) : Src → Prop
  | .li a => ∃ vs, G a = some (.lst vs) ∧ vs.length ≤ sizeLine ∧ DDs K G vs ds
  | .tu a => ∃ vs, G a = some (.tup vs) ∧ vs.length ≤ sizeLine ∧ DDs K G vs ds
  | .tx x _ => SOk x ∧ ds = signs x
theorem SrcOk.up {K : PySem.W.Frag} {G G' : Hp} {ds : List D} (e : Same G G') : ∀ {k : Src}, SrcOk K G ds k → SrcOk K G' ds k
  | .li a, ⟨vs, h, z, r⟩ => ⟨vs, e _ _ h, z, r.up e⟩
  | .tu a, ⟨vs, h, z, r⟩ => ⟨vs, e _ _ h, z, r.up e⟩
  | .tx _ _, h => h
theorem SrcOk.le {K : PySem.W.Frag} {G : Hp} {ds : List D} : ∀ {k : Src}, SrcOk K G ds k → ds.length ≤ sizeLine
  | .li a, ⟨vs, h, z, r⟩ => by rw [← r.len]; exact z
  | .tu a, ⟨vs, h, z, r⟩ => by rw [← r.len]; exact z
  | .tx x _, ⟨h, e⟩ => by rw [e, signs_len]; exact h.1
/-- a value that can be walked -/
theorem src_of {K : PySem.W.Frag} {G : Hp} {v : V} {u : Value} {d : D} {ds : List D} (h : DD K G v d) (r : RelV v u) (e : sqD d = some ds) : ∃ k, SrcOk K G ds k ∧
    (match k with | .li a => u = .ref a | .tu a => u = .ref a | .tx x t => u = .str x t) := by
  cases h with
  | lst g z q => cases e; cases r; exact ⟨.li _, ⟨_, g, z, q⟩, rfl⟩
  | tup g z q => cases e; cases r; exact ⟨.tu _, ⟨_, g, z, q⟩, rfl⟩
  | str x ok => cases e; obtain ⟨t, rfl⟩ := r; exact ⟨.tx x t, ⟨ok, rfl⟩, rfl⟩
  | _ => cases e
/-- how its iterator draws, in a state that keeps it -/
structure Drawn (X : Cx) (G : Hp) (H : Hp) (k : Src) (ds : List D) (it : Addr) where
  fp : List Addr
  P : Nat → Value → Prop
  St : Nat → Heap → Prop
  draws : Draws X.prog X.w X.A.in1 it fp ds.length P St
  mem : it ∈ fp
  old : ∀ b ∈ fp, b = it ∨ H b ≠ none
  item : ∀ i u, P i u → ∃ v d, ds[i]? = some d ∧ RelV v u ∧ DD X.K G v d
  back : ∀ i h, St i h → k.at it i h
theorem Src.drawn {X : Cx} {pins : List (Addr × Obj)} {σ : L2.St} {G H : Hp} {s : Shared} {k : Src} {ds : List D} {it : Addr} {i : Nat} (hh : X.A.handled = none) (I : Inv X pins σ H s) (e : Same G H) (ok : SrcOk X.K G ds k) (hn : H it = none) (st : k.at it i s.heap) :
    ∃ Z : Drawn X G H k ds it, Z.St i s.heap := by
  have hh1 : X.A.in1.handled = none := hh
  cases k with
  | li a =>
    obtain ⟨vs, g, z, q⟩ := ok
    have hne : a ≠ it := fun w => by rw [w] at g; rw [e _ _ g] at hn; cases hn
    obtain ⟨its, rv, p, _⟩ := I.list (SqL.of (e _ _ g))
    have hl : its.toArray.size = ds.length := by rw [List.size_toArray, ← rv.length, q.len]
    have D0 := Draws.list (prog := X.prog) (w := X.w) hh1 it a hne its.toArray
    rw [hl] at D0
    refine ⟨⟨_, _, _, D0, by simp, fun b hb => ?_, fun j u hj => ?_, fun j h hj => hj.1⟩, st, p.isList⟩
    · have hb' : b = it ∨ b = a := by simpa using hb
      rcases hb' with w | w
      · exact .inl w
      · rw [w]; exact .inr (by rw [e _ _ g]; exact fun z => nomatch z)
    · have hj : its[j]? = some u := by simpa using hj
      obtain ⟨v, e1, r1⟩ : ∃ v, vs[j]? = some v ∧ RelV v u := by
        have hlt : j < vs.length := by rw [rv.length]; exact (List.getElem?_eq_some_iff.mp hj).1
        obtain ⟨u', hu', ru'⟩ := rv.get (List.getElem?_eq_getElem hlt)
        rw [hj] at hu'; cases hu'
        exact ⟨_, List.getElem?_eq_getElem hlt, ru'⟩
      obtain ⟨d, e2, dd⟩ := q.getV e1
      exact ⟨v, d, e2, r1, dd⟩
  | tu a =>
    obtain ⟨vs, g, z, q⟩ := ok
    have hne : a ≠ it := fun w => by rw [w] at g; rw [e _ _ g] at hn; cases hn
    obtain ⟨its, rv, p, _⟩ := I.tuple (SqT.of (e _ _ g))
    have hl : its.toArray.size = ds.length := by rw [List.size_toArray, ← rv.length, q.len]
    have D0 := Draws.tuple (prog := X.prog) (w := X.w) hh1 it a hne its.toArray
    rw [hl] at D0
    refine ⟨⟨_, _, _, D0, by simp, fun b hb => ?_, fun j u hj => ?_, fun j h hj => hj.1⟩, st, p⟩
    · have hb' : b = it ∨ b = a := by simpa using hb
      rcases hb' with w | w
      · exact .inl w
      · rw [w]; exact .inr (by rw [e _ _ g]; exact fun z => nomatch z)
    · have hj : its[j]? = some u := by simpa using hj
      obtain ⟨v, e1, r1⟩ : ∃ v, vs[j]? = some v ∧ RelV v u := by
        have hlt : j < vs.length := by rw [rv.length]; exact (List.getElem?_eq_some_iff.mp hj).1
        obtain ⟨u', hu', ru'⟩ := rv.get (List.getElem?_eq_getElem hlt)
        rw [hj] at hu'; cases hu'
        exact ⟨_, List.getElem?_eq_getElem hlt, ru'⟩
      obtain ⟨d, e2, dd⟩ := q.getV e1
      exact ⟨v, d, e2, r1, dd⟩
  | tx x t =>
    obtain ⟨ok, rfl⟩ := ok
    have D0 := Draws.text (prog := X.prog) (w := X.w) hh1 it x t
    have hl : x.cps.size = (signs x).length := (signs_len x).symm
    rw [hl] at D0
    refine ⟨⟨_, _, _, D0, by simp, fun b hb => ?_, fun j u hj => ?_, fun j h hj => hj⟩, st⟩
    · exact .inl (by simpa using hb)
    · obtain ⟨c, t', hc, rfl⟩ := hj
      exact ⟨.str (sgn c), .str (sgn c), signs_get hc, ⟨t', rfl⟩, .str _ (sok_sgn ok (signs_mem hc))⟩

/-! ### zip -/
def ItZ (K : PySem.W.Frag) (G0 : Hp) (d1 d2 : List D) : It :=
  ⟨fun i H => Same G0 H ∧ i < min d1.length d2.length, fun i H v H' => ∃ T x y a b, v = .ref T ∧ H T = none ∧ H' = upd H T (.tup [x, y]) ∧ d1[i]? = some a ∧ DD K G0 x a ∧ d2[i]? = some b ∧ DD K G0 y b,
    fun i H => Same G0 H ∧ i = min d1.length d2.length⟩
structure Apart5 (z TI TO i1 i2 : Addr) : Prop where
  a1 : TI ≠ z
  a2 : TO ≠ z
  a3 : TI ≠ TO
  a4 : TI ≠ i1
  a5 : z ≠ i1
  a6 : TO ≠ i1
  a7 : TI ≠ i2
  a8 : z ≠ i2
  a9 : TO ≠ i2
  a10 : i1 ≠ i2
theorem turn_Z {P : Program} {w : World} {K : PySem.W.Frag} {elts : List Expr} {kk : Nat} {tpos : Pos} {z TI TO i1 i2 : Addr} {G0 : Hp} {k1 k2 : Src} {d1 d2 : List D} (D : Apart5 z TI TO i1 i2) (o1 : SrcOk K G0 d1 k1) (o2 : SrcOk K G0 d2 k2) :
    Turn P w K (.Tuple elts kk tpos) (ItZ K G0 d1 d2) [z, TI, TO, i1, i2] z (fun i h => IsZip h z TI TO .none ∧ IsTupOf2 h TI (.ref i1) (.ref i2) ∧ (∃ x y, IsTupOf2 h TO x y) ∧ k1.at i1 i h ∧ k2.at i2 i h) where
  mem := by simp
  obj := fun i h st c hc => by
    obtain ⟨hz, hTI, ⟨x, y, hTO⟩, h1, h2⟩ := st
    have e' : c = z ∨ c = TI ∨ c = TO ∨ c = i1 ∨ c = i2 := by simpa using hc
    rcases e' with q | q | q | q | q
    · rw [q]; exact ⟨_, hz, fun v q => nomatch q⟩
    · rw [q]; exact ⟨_, hTI, fun v q => nomatch q⟩
    · rw [q]; exact ⟨_, hTO, fun v q => nomatch q⟩
    · rw [q]; exact Src.live h1
    · rw [q]; exact Src.live h2
  keep := fun i h h' st k => by
    obtain ⟨hz, hTI, ⟨x, y, hTO⟩, h1, h2⟩ := st
    exact ⟨k z (by simp) _ hz, k TI (by simp) _ hTI, ⟨x, y, k TO (by simp) _ hTO⟩, Src.stay h1 fun o q => k i1 (by simp) o q, Src.stay h2 fun o q => k i2 (by simp) o q⟩
  item := by
    intro X hP hw hK hc i pins s σ H E I hf st hg
    subst hP hw hK
    obtain ⟨hz, hTI, hTO, h1, h2⟩ := st
    obtain ⟨sm, hi⟩ := hg
    have nz : ∀ b ∈ [z, TI, TO, i1, i2], H b = none := fun b hb => (hf b hb).1
    obtain ⟨Z1, st1⟩ := k1.drawn (I.ok.hd hc) I sm o1 (nz i1 (by simp)) h1
    obtain ⟨Z2, st2⟩ := k2.drawn (I.ok.hd hc) I sm o2 (nz i2 (by simp)) h2
    have nf : ∀ {b it : Addr} {fp : List Addr}, (∀ c ∈ fp, c = it ∨ H c ≠ none) → b ≠ it → H b = none → b ∉ fp := fun ho hne hb hm => by
      rcases ho _ hm with w | w
      · exact hne w
      · exact w hb
    have S : ZipSep2 z TI TO i1 i2 Z1.fp Z2.fp := ⟨D.a1, D.a2, D.a3, D.a4, Z1.mem, nf Z1.old D.a5 (nz z (by simp)), nf Z1.old D.a6 (nz TO (by simp)), D.a7, Z2.mem, nf Z2.old D.a8 (nz z (by simp)), nf Z2.old D.a9 (nz TO (by simp)),
      nf Z2.old D.a10 (nz i1 (by simp)), nf Z1.old D.a10.symm (nz i2 (by simp))⟩
    have W := GoesN.zip2 (elts := elts) (x1 := kk) (pos := tpos) S Z1.draws Z2.draws
    have new5 : ∀ c ∈ [z, TI, TO, i1, i2], c < s.heap.objs.size := fun c hcm => by
      obtain ⟨o, ho⟩ : ∃ o, s.heap.get? c = some o := by
        have e' : c = z ∨ c = TI ∨ c = TO ∨ c = i1 ∨ c = i2 := by simpa using hcm
        rcases e' with q | q | q | q | q
        · rw [q]; exact ⟨_, hz⟩
        · rw [q]; exact ⟨_, hTI⟩
        · obtain ⟨x, y, hTO⟩ := hTO; rw [q]; exact ⟨_, hTO⟩
        · rw [q]; obtain ⟨o, e, _⟩ := Src.live h1; exact ⟨o, e⟩
        · rw [q]; obtain ⟨o, e, _⟩ := Src.live h2; exact ⟨o, e⟩
      exact Heap.lt_size ho
    refine wpAny_mono (W.goes i s (fun v s2 => ∃ x H', Inv X pins σ H' s2 ∧ RelV x v ∧ (ItZ X.K G0 d1 d2).yld i H x H' ∧ (IsZip s2.heap z TI TO .none ∧ IsTupOf2 s2.heap TI (.ref i1) (.ref i2) ∧ (∃ x y, IsTupOf2 s2.heap TO x y) ∧ k1.at i1 (i + 1) s2.heap ∧ k2.at i2 (i + 1) s2.heap) ∧ ∀ b ∈ [z, TI, TO, i1, i2], H' b = none) E hi ⟨hz, hTI, hTO, st1, st2⟩ fun v h' tk hY st' hk htk => ?_) (fun r s1 q => q) fun _ _ q => q
    obtain ⟨T, x, y, rfl, hT, p1, p2, tup⟩ := hY
    obtain ⟨vx, dx, e1, r1, dd1⟩ := Z1.item i x p1
    obtain ⟨vy, dy, e2, r2, dd2⟩ := Z2.item i y p2
    obtain ⟨z', TI', TO', s1', s2'⟩ := st'
    have new : ObjOk X.prog X.w (upd H T (.tup [vx, vy])) h' T (.tup [vx, vy]) := ⟨by show 2 ≤ sizeLine; decide, [x, y], .cons r1 (.cons r2 .nil), tup⟩
    have I1 : Inv X pins σ (upd H T (.tup [vx, vy])) { s with heap := h', toks := tk } :=
      I.turnedNew (ch := [z, TI, TO, i1, i2]) (fun c o hb q => hk c o (fun hm => hb (by
        have e' : c = z ∨ c = TO ∨ c = i1 ∨ c = i2 := by simpa using hm
        rcases e' with q | q | q | q <;> rw [q] <;> simp)) q) hf hT new
    refine ⟨.ref T, _, I1, rfl, ⟨T, vx, vy, dx, dy, rfl, I.hok.fresh hT, rfl, e1, dd1, e2, dd2⟩, ⟨z', TI', TO', Z1.back _ _ s1', Z2.back _ _ s2'⟩, fun c hcm => ?_⟩
    rw [upd_ne (Nat.ne_of_lt (Nat.lt_of_lt_of_le (new5 c hcm) hT))]
    exact nz c hcm
  done := by
    intro X hP hw hK hc i pins s σ H E I hf st hg
    subst hP hw hK
    obtain ⟨hz, hTI, hTO, h1, h2⟩ := st
    obtain ⟨sm, hi⟩ := hg
    have nz : ∀ b ∈ [z, TI, TO, i1, i2], H b = none := fun b hb => (hf b hb).1
    obtain ⟨Z1, st1⟩ := k1.drawn (I.ok.hd hc) I sm o1 (nz i1 (by simp)) h1
    obtain ⟨Z2, st2⟩ := k2.drawn (I.ok.hd hc) I sm o2 (nz i2 (by simp)) h2
    have nf : ∀ {b it : Addr} {fp : List Addr}, (∀ c ∈ fp, c = it ∨ H c ≠ none) → b ≠ it → H b = none → b ∉ fp := fun ho hne hb hm => by
      rcases ho _ hm with w | w
      · exact hne w
      · exact w hb
    have S : ZipSep2 z TI TO i1 i2 Z1.fp Z2.fp := ⟨D.a1, D.a2, D.a3, D.a4, Z1.mem, nf Z1.old D.a5 (nz z (by simp)), nf Z1.old D.a6 (nz TO (by simp)), D.a7, Z2.mem, nf Z2.old D.a8 (nz z (by simp)), nf Z2.old D.a9 (nz TO (by simp)),
      nf Z2.old D.a10 (nz i1 (by simp)), nf Z1.old D.a10.symm (nz i2 (by simp))⟩
    have W := GoesN.zip2 (elts := elts) (x1 := kk) (pos := tpos) S Z1.draws Z2.draws
    subst hi
    refine W.stops s (fun s2 => Inv X pins σ H s2) E ⟨hz, hTI, hTO, st1, st2⟩ fun h' tk hk htk => ?_
    exact I.turnedL (ch := [z, TI, TO, i1, i2]) (fun c o hb q => hk c o (fun hm => hb (by
        have e' : c = z ∨ c = TO ∨ c = i1 ∨ c = i2 := by simpa using hm
        rcases e' with q | q | q | q <;> rw [q] <;> simp)) q) hf
  self := fun A i s Q E st h => wpAny_pyIter_zip st.1 h
theorem jd_Z {K : PySem.W.Frag} {G0 : Hp} {d1 d2 : List D} (hl : d1.length ≤ sizeLine) : JD K G0 (ItZ K G0 d1 d2) ((List.zip d1 d2).map fun p => .tup [p.1, p.2]) := by
  have en : ((List.zip d1 d2).map fun p => D.tup [p.1, p.2]).length = min d1.length d2.length := by rw [List.length_map, List.length_zip]
  refine ⟨by rw [en]; omega, fun G H s1 s2 => ⟨s1.trans s2, en⟩, fun G H i s1 s2 hi => ⟨s1.trans s2, by rw [en] at hi; exact hi⟩, fun G H i d x H' s1 s2 e y => ?_⟩
  obtain ⟨T, vx, vy, a, b, rfl, hT, rfl, e1, dd1, e2, dd2⟩ := y
  have ed : d = .tup [a, b] := by
    rw [List.getElem?_map, (List.getElem?_zip_eq_some (z := (a, b))).mpr ⟨e1, e2⟩] at e
    exact (Option.some.inj e).symm
  subst ed
  refine ⟨upd G T (.tup [vx, vy]), Al.one s2 hT, ?_⟩
  have sg : Same G0 (upd G T (.tup [vx, vy])) := s1.trans fun b u q => by rw [upd_ne (ne_of_none q (s2.free hT))]; exact q
  exact .tup upd_same (by show 2 ≤ sizeLine; decide) (.cons (dd1.up sg) (.cons (dd2.up sg) .nil))
/-- zip(a, b) -/
def iZ (fs : AF) : IF := fun E => (fs E).bind fun p => match p.1 with
  | [.dat a, .dat b] => (ofO (sqD a)).bind fun x => (ofO (sqD b)).bind fun y => .ok ((List.zip x y).map fun p => .tup [p.1, p.2], p.2)
  | _ => .stuck
theorem PoI.ofO {K : PySem.W.Frag} {Wi : Wish} {F : Fr} {G : Hp} {σ : L2.St} {R : It → Hp → Prop} {α : Type} {o : Option α} {g : α → Res (List D × Env)} (h : PoI K Wi F G σ R ((DL.ofO o).bind g)) : ∃ d, o = some d ∧ PoI K Wi F G σ R (g d) := by
  cases o with
  | none => exact h.elim
  | some d => exact ⟨d, rfl, h⟩
theorem PoI.up {K : PySem.W.Frag} {Wi : Wish} {F : Fr} {G G1 : Hp} {σ : L2.St} {R : It → Hp → Prop} {r : Res (List D × Env)} (e : Same G G1) (h : PoI K Wi F G σ R r) : PoI K Wi F G1 σ R r := by
  match r, h with
  | .ok (w, E'), h => exact fun J G' H' as' s => h J G' H' as' (e.trans s)
  | .err x E', h => exact fun c dx G' H' as' s => h c dx G' H' as' (e.trans s)
theorem PoA.bindI {K : PySem.W.Frag} {Wi : Wish} {F : Fr} {G : Hp} {σ : L2.St} {R : It → Hp → Prop} {r : Res (List W × Env)} {g : List W × Env → Res (List D × Env)} (h : PoI K Wi F G σ R (r.bind g)) :
    PoA K Wi F G σ (MidA K F G σ fun _ ws G1 _ E1 _ => PoI K Wi F G1 σ R (g (ws, E1))) r := by
  match r, h with
  | .ok (w, E'), h => exact fun v G' H' as' s st wo => ⟨w, G', E', as', s, st, wo, PoI.up s h⟩
  | .err x E', h => exact h
theorem Po.bindI {K : PySem.W.Frag} {Wi : Wish} {F : Fr} {G : Hp} {σ : L2.St} {R : It → Hp → Prop} {r : Res (W × Env)} {g : W × Env → Res (List D × Env)} (h : PoI K Wi F G σ R (r.bind g)) :
    Po K Wi F G σ (Mid K F G σ fun _ ws G1 _ E1 _ => PoI K Wi F G1 σ R (g (ws, E1))) r := by
  match r, h with
  | .ok (w, E'), h => exact fun v G' H' as' s st wo => ⟨w, G', E', as', s, st, wo, PoI.up s h⟩
  | .err x E', h => exact h
theorem begins_src {v : Value} {k : Src} (e : match k with | .li a => v = .ref a | .tu a => v = .ref a | .tx x t => v = .str x t) {X : Cx} {pins : List (Addr × Obj)} {σ : L2.St} {G H : Hp} {s : Shared} {ds : List D} (I : Inv X pins σ H s) (sm : Same G H) (ok : SrcOk X.K G ds k) :
    ∃ HB : Heap → Prop, Begins v k.obj HB ∧ HB s.heap := by
  cases k with
  | li a =>
    obtain ⟨vs, g, z, q⟩ := ok
    obtain ⟨its, rv, p, _⟩ := I.list (SqL.of (sm _ _ g))
    cases e
    exact ⟨_, begins_list a its.toArray, p.isList⟩
  | tu a =>
    obtain ⟨vs, g, z, q⟩ := ok
    obtain ⟨its, rv, p, _⟩ := I.tuple (SqT.of (sm _ _ g))
    cases e
    exact ⟨_, begins_tuple a its.toArray, p⟩
  | tx x t => cases e; exact ⟨_, begins_text x t, trivial⟩
theorem di_zip {X : Cx} {Wi : Wish} {e e2 : Expr} {fs : AF} {p pos tpos : Pos} {elts : List Expr} {kk : Nat} (hg : Gl X "zip") (hm : X.mg "zip" = none) (ha : DA X Wi [e, e2] fs)
    (hs : starEach [e, e2] X.env = (false, eval e X.env) :: starEach [e2] X.env := by rfl) (hpl : (backTo pos (starEach [e2] X.env)).any (·.1) = false := by rfl) :
    DI X Wi (.Tuple elts kk tpos) (.Call (.Name "zip" p) [e, e2] [] pos) (iZ fs) := by
  refine ⟨fun pins s σ H R I h => ?_⟩
  obtain ⟨F, G, E, as, st, pq⟩ := h
  refine Call_ (ld_blt I hg hm PyProof.Rows.boot_zip (PyProof.Rows.callWith_type1 (thn (ha.run pos pins s σ H _ I ⟨F, G, E, as, st, PoA.bindI pq⟩) fun us s1 ⟨vs, H1, I1, r1, q1⟩ => ?_) hs hpl))
  obtain ⟨ws, G1, E1, as1, sm1, st1, wo1, p1⟩ := q1
  match ws, p1 with
  | [.dat a, .dat b], p1 =>
    obtain ⟨d1, e1, p1⟩ := PoI.ofO p1
    obtain ⟨d2, e2', p1⟩ := PoI.ofO p1
    match vs, wo1 with
    | [x, y], wo1 =>
      cases r1 with
      | cons rx rr =>
        cases rr with
        | cons ry rr =>
          cases rr
          obtain ⟨k1, ok1, u1⟩ := src_of wo1.1 rx e1
          obtain ⟨k2, ok2, u2⟩ := src_of wo1.2.1 ry e2'
          obtain ⟨B1, b1, hb1⟩ := begins_src u1 I1 st1.s1 ok1
          obtain ⟨B2, b2, hb2⟩ := begins_src u2 I1 st1.s1 ok2
          refine zip_begins2 b1 b2 hb1 hb2 fun h' hz hTI hTO g1 g2 hsz hk => wpAny_pyIter_zip hz ?_
          have I2 : Inv X pins σ H1 { s1 with heap := h' } := I1.kept (t' := s1.toks) hk
          have D5 : Apart5 (s1.heap.objs.size + 4) (s1.heap.objs.size + 2) (s1.heap.objs.size + 3) s1.heap.objs.size (s1.heap.objs.size + 1) := by
            constructor <;> (intro q; have q' : (_ : Nat) = _ := q; omega)
          refine ⟨s1.heap.objs.size + 4, [s1.heap.objs.size + 4, s1.heap.objs.size + 2, s1.heap.objs.size + 3, s1.heap.objs.size, s1.heap.objs.size + 1], _, _, H1, rfl, I2, turn_Z D5 ok1 ok2, ⟨hz, hTI, ⟨_, _, hTO⟩, k1.new g1, k2.new g2⟩, fun c hcm => ?_, p1 _ G1 H1 as1 (Same.refl _) st1 (jd_Z ok1.le)⟩
          have e' : c = s1.heap.objs.size + 4 ∨ c = s1.heap.objs.size + 2 ∨ c = s1.heap.objs.size + 3 ∨ c = s1.heap.objs.size ∨ c = s1.heap.objs.size + 1 := by simpa using hcm
          have hle : s1.heap.objs.size ≤ c := by
            rcases e' with z | z | z | z | z
            · rw [z]; exact Nat.le_add_right _ _
            · rw [z]; exact Nat.le_add_right _ _
            · rw [z]; exact Nat.le_add_right _ _
            · rw [z]; exact Nat.le_refl _
            · rw [z]; exact Nat.le_add_right _ _
          exact I1.fpOk hle (I1.hok.fresh hle)
end DL
namespace DL
open PySem PySem.Spec PyProof.Rows L2 TL

/-! ### enumerate -/
def numD (k : Int) : List D → List D
  | [] => []
  | d :: ds => .tup [.int k, d] :: numD (k + 1) ds
theorem numD_len : ∀ (ds : List D) (k : Int), (numD k ds).length = ds.length
  | [], _ => rfl
  | _ :: ds, k => congrArg Nat.succ (numD_len ds (k + 1))
theorem numD_get : ∀ (ds : List D) (k : Int) (i : Nat), (numD k ds)[i]? = ds[i]?.map fun d => .tup [.int (k + (i : Nat)), d]
  | [], _, i => by simp [numD]
  | d :: ds, k, 0 => by simp [numD]
  | d :: ds, k, i + 1 => by
    have h := numD_get ds (k + 1) i
    rw [numD, List.getElem?_cons_succ, List.getElem?_cons_succ, h]
    have e : k + 1 + ((i : Nat) : Int) = k + ((i + 1 : Nat) : Int) := by omega
    rw [e]
def ItN (K : PySem.W.Frag) (G0 : Hp) (k0 : Int) (d1 : List D) : It :=
  ⟨fun i H => Same G0 H ∧ i < d1.length, fun i H v H' => ∃ T x a, v = .ref T ∧ H T = none ∧ H' = upd H T (.tup [.int (k0 + (i : Nat)), x]) ∧ d1[i]? = some a ∧ DD K G0 x a, fun i H => Same G0 H ∧ i = d1.length⟩
theorem turn_N {P : Program} {w : World} {K : PySem.W.Frag} {elts : List Expr} {kk : Nat} {tpos : Pos} {e it : Addr} {G0 : Hp} {k1 : Src} {d1 : List D} {k0 : Int} (ne : e ≠ it) (o1 : SrcOk K G0 d1 k1) :
    Turn P w K (.Tuple elts kk tpos) (ItN K G0 k0 d1) [e, it] e (fun i h => (∃ old, IsEnum h e it (k0 + ((i : Nat) : Int)) old) ∧ k1.at it i h) where
  mem := by simp
  obj := fun i h st c hc => by
    obtain ⟨⟨old, hz⟩, h1⟩ := st
    have e' : c = e ∨ c = it := by simpa using hc
    rcases e' with q | q
    · rw [q]; exact ⟨_, hz, fun v q => nomatch q⟩
    · rw [q]; exact Src.live h1
  keep := fun i h h' st k => by
    obtain ⟨⟨old, hz⟩, h1⟩ := st
    exact ⟨⟨old, k e (by simp) _ hz⟩, Src.stay h1 fun o q => k it (by simp) o q⟩
  item := by
    intro X hP hw hK hc i pins s σ H E I hf st hg
    subst hP hw hK
    obtain ⟨hz, h1⟩ := st
    obtain ⟨sm, hi⟩ := hg
    have nz : ∀ b ∈ [e, it], H b = none := fun b hb => (hf b hb).1
    obtain ⟨Z1, st1⟩ := k1.drawn (I.ok.hd hc) I sm o1 (nz it (by simp)) h1
    have nf : e ∉ Z1.fp := fun hm => by
      rcases Z1.old _ hm with w | w
      · exact ne w
      · exact w (nz e (by simp))
    have W := GoesN.enumFrom (elts := elts) (x1 := kk) (pos := tpos) k0 Z1.draws e ne nf Z1.mem
    have new2 : ∀ c ∈ [e, it], c < s.heap.objs.size := fun c hcm => by
      obtain ⟨o, ho⟩ : ∃ o, s.heap.get? c = some o := by
        have e' : c = e ∨ c = it := by simpa using hcm
        rcases e' with q | q
        · obtain ⟨old, hz⟩ := hz; rw [q]; exact ⟨_, hz⟩
        · rw [q]; obtain ⟨o, e, _⟩ := Src.live h1; exact ⟨o, e⟩
      exact Heap.lt_size ho
    refine wpAny_mono (W.goes i s (fun v s2 => ∃ x H', Inv X pins σ H' s2 ∧ RelV x v ∧ (ItN X.K G0 k0 d1).yld i H x H' ∧ ((∃ old, IsEnum s2.heap e it (k0 + ((i + 1 : Nat) : Int)) old) ∧ k1.at it (i + 1) s2.heap) ∧ ∀ b ∈ [e, it], H' b = none) E hi ⟨hz, st1⟩ fun v h' tk hY st' hk htk => ?_) (fun r s1 q => q) fun _ _ q => q
    obtain ⟨T, t, x, rfl, hT, p1, tup⟩ := hY
    obtain ⟨vx, dx, e1, r1, dd1⟩ := Z1.item i x p1
    obtain ⟨z', s1'⟩ := st'
    have new : ObjOk X.prog X.w (upd H T (.tup [.int (k0 + (i : Nat)), vx])) h' T (.tup [.int (k0 + (i : Nat)), vx]) := ⟨by show 2 ≤ sizeLine; decide, [.int (k0 + (i : Nat)) t, x], .cons ⟨t, rfl⟩ (.cons r1 .nil), tup⟩
    have I1 : Inv X pins σ (upd H T (.tup [.int (k0 + (i : Nat)), vx])) { s with heap := h', toks := tk } := I.turnedNew (ch := [e, it]) (fun c o hb q => hk c o hb q) hf hT new
    refine ⟨.ref T, _, I1, rfl, ⟨T, vx, dx, rfl, I.hok.fresh hT, rfl, e1, dd1⟩, ⟨z', Z1.back _ _ s1'⟩, fun c hcm => ?_⟩
    rw [upd_ne (Nat.ne_of_lt (Nat.lt_of_lt_of_le (new2 c hcm) hT))]
    exact nz c hcm
  done := by
    intro X hP hw hK hc i pins s σ H E I hf st hg
    subst hP hw hK
    obtain ⟨hz, h1⟩ := st
    obtain ⟨sm, hi⟩ := hg
    have nz : ∀ b ∈ [e, it], H b = none := fun b hb => (hf b hb).1
    obtain ⟨Z1, st1⟩ := k1.drawn (I.ok.hd hc) I sm o1 (nz it (by simp)) h1
    have nf : e ∉ Z1.fp := fun hm => by
      rcases Z1.old _ hm with w | w
      · exact ne w
      · exact w (nz e (by simp))
    have W := GoesN.enumFrom (elts := elts) (x1 := kk) (pos := tpos) k0 Z1.draws e ne nf Z1.mem
    subst hi
    refine W.stops s (fun s2 => Inv X pins σ H s2) E ⟨hz, st1⟩ fun h' tk hk htk => ?_
    exact I.turnedL (ch := [e, it]) (fun c o hb q => hk c o hb q) hf
  self := fun A i s Q E st h => by
    obtain ⟨⟨old, hz⟩, _⟩ := st
    exact wpAny_pyIter_enum hz h
theorem jd_N {K : PySem.W.Frag} {G0 : Hp} {k0 : Int} {d1 : List D} (hl : d1.length ≤ sizeLine) : JD K G0 (ItN K G0 k0 d1) (numD k0 d1) := by
  have en := numD_len d1 k0
  refine ⟨by rw [en]; exact hl, fun G H s1 s2 => ⟨s1.trans s2, en⟩, fun G H i s1 s2 hi => ⟨s1.trans s2, by rw [en] at hi; exact hi⟩, fun G H i d x H' s1 s2 e y => ?_⟩
  obtain ⟨T, vx, a, rfl, hT, rfl, e1, dd1⟩ := y
  have ed : d = .tup [.int (k0 + (i : Nat)), a] := by
    rw [numD_get, e1] at e
    exact (Option.some.inj e).symm
  subst ed
  refine ⟨upd G T (.tup [.int (k0 + (i : Nat)), vx]), Al.one s2 hT, ?_⟩
  have sg : Same G0 (upd G T (.tup [.int (k0 + (i : Nat)), vx])) := s1.trans fun b u q => by rw [upd_ne (ne_of_none q (s2.free hT))]; exact q
  exact .tup upd_same (by show 2 ≤ sizeLine; decide) (.cons (.int _) (.cons (dd1.up sg) .nil))

section
variable {prog : Program} {w : World} {A : Around} {E : Value → Shared → Prop} {s : Shared}
set_option maxHeartbeats 1000000 in
/-- enumerate(v): its object -/
theorem enum_new1 {v : Value} {ob : Obj} {HB : Heap → Prop} (B : Begins v ob HB) :
    Meets (Builtin.«enumerate.__new__» ⟨[.type "enumerate", v], []⟩) (fun _ R s => HB s.heap ∧
      R (.ok (.ret (.ref (s.heap.push ob).objs.size))) { s with heap := (s.heap.push ob).push { cls := .type "enumerate", data := .fields #[.none, .bool false, .ref s.heap.objs.size, rawInt 0, .none, .none] } }) :=
  .of_wp fun prog w A R s hs => by
    obtain ⟨hp, gn, dr, tk, os⟩ := s; obtain ⟨b1, fin⟩ := hs
    have isSub := sub_enumerate
    have begun : ∀ {A' : Around} {E : Value → Shared → Prop} {Q : Value → Shared → Prop}, Q (.ref hp.objs.size) ⟨hp.push ob, gn, dr, tk, os⟩ → wpAny (model prog w) A' (pyIter v) Q E ⟨hp, gn, dr, tk, os⟩ :=
      fun q => B.iter prog w _ _ ⟨hp, gn, dr, tk, os⟩ _ b1 q
    wp_walk using begun
    refine wpAny_stack_any fun sk => wpAny_pure ?_
    split
    · rename_i cl _ _ _ _ _
      cases (cl == Value.type "enumerate") <;> (wp_walk using begun; exact ⟨_, rfl, fin⟩)
    · wp_walk using begun
      exact ⟨_, rfl, fin⟩
theorem enum_begins1 {v : Value} {ob : Obj} {HB : Heap → Prop} {Q : Value → Shared → Prop} (B : Begins v ob HB) (b1 : HB s.heap)
    (fin : ∀ h', IsEnum h' (s.heap.objs.size + 1) s.heap.objs.size 0 .none → h'.get? s.heap.objs.size = some ob → (∀ b o, s.heap.get? b = some o → h'.get? b = some o) → Q (.ref (s.heap.objs.size + 1)) { s with heap := h' }) :
    wpAny (model prog w) A (call (.type "enumerate") [v]) Q E s := by
  refine callType_new F.called_enumerate (by decide) (F.typeCall_enumerate_1 _) (F.newCall_enumerate_1 _) (fun o => F.args_object_init_2 o _) F.entry_enumerate_new (enum_new1 B) ⟨b1, ?_⟩
  have size1 : (s.heap.push ob).objs.size = s.heap.objs.size + 1 := Heap.size_push ..
  have isE := Heap.get?_push_size (s.heap.push ob) (o := { cls := .type "enumerate", data := .fields #[.none, .bool false, .ref s.heap.objs.size, rawInt 0, .none, .none] }) rfl
  show _ ∧ _
  rw [size1] at isE ⊢
  exact ⟨⟨_, isE, rfl⟩, fin _ isE (Heap.get?_push_of_some _ (Heap.get?_push_size _ B.free)) fun b o q => Heap.get?_push_of_some _ (Heap.get?_push_of_some _ q)⟩
end
def iN (fs : AF) : IF := fun E => (fs E).bind fun p => match p.1 with
  | [.dat a] => (ofO (sqD a)).bind fun x => .ok (numD 0 x, p.2)
  | _ => .stuck
def iNk (k0 : Int) (fs : AF) : IF := fun E => (fs E).bind fun p => match p.1 with
  | [.dat a] => (ofO (sqD a)).bind fun x => .ok (numD k0 x, p.2)
  | _ => .stuck
section
variable {X : Cx} {Wi : Wish} {e : Expr} {fs : AF} {p pos tpos : Pos} {elts : List Expr} {kk : Nat}
/-- behind the call the iterator stands -/
theorem enum_pie {pins : List (Addr × Obj)} {σ : L2.St} {G1 H1 : Hp} {s1 : Shared} {E1 : Env} {as1 : Nat → List Addr} {F : Fr} {R : It → Hp → Prop} {k1 : Src} {d1 : List D} {k0 : Int} {h' : Heap} (I1 : Inv X pins σ H1 s1) (ok1 : SrcOk X.K G1 d1 k1) (st1 : StE X.K F G1 H1 σ E1 as1)
    (hz : IsEnum h' (s1.heap.objs.size + 1) s1.heap.objs.size k0 .none) (g1 : h'.get? s1.heap.objs.size = some k1.obj) (hk : ∀ b o, s1.heap.get? b = some o → h'.get? b = some o) (p1 : PoI X.K Wi F G1 σ R (.ok (numD k0 d1, E1))) :
    wpAny (model X.prog X.w) X.A (pyIter (.ref (s1.heap.objs.size + 1))) (PIE X pins σ (.Tuple elts kk tpos) R) X.xe { s1 with heap := h' } := by
  refine wpAny_pyIter_enum hz ?_
  have I2 : Inv X pins σ H1 { s1 with heap := h' } := I1.kept (t' := s1.toks) hk
  have e0 : k0 + ((0 : Nat) : Int) = k0 := by omega
  refine ⟨s1.heap.objs.size + 1, [s1.heap.objs.size + 1, s1.heap.objs.size], _, _, H1, rfl, I2, turn_N (k0 := k0) (Nat.succ_ne_self _) ok1, ⟨⟨_, by rw [e0]; exact hz⟩, k1.new g1⟩, fun c hcm => ?_, p1 _ G1 H1 as1 (Same.refl _) st1 (jd_N ok1.le)⟩
  have e' : c = s1.heap.objs.size + 1 ∨ c = s1.heap.objs.size := by simpa using hcm
  have hle : s1.heap.objs.size ≤ c := by
    rcases e' with z | z
    · rw [z]; exact Nat.le_add_right _ _
    · rw [z]; exact Nat.le_refl _
  exact I1.fpOk hle (I1.hok.fresh hle)
theorem di_enum (hg : Gl X "enumerate") (hm : X.mg "enumerate" = none) (ha : DA X Wi [e] fs) (hs : starEach [e] X.env = [(false, eval e X.env)] := by rfl) : DI X Wi (.Tuple elts kk tpos) (.Call (.Name "enumerate" p) [e] [] pos) (iN fs) := by
  refine ⟨fun pins s σ H R I h => ?_⟩
  obtain ⟨F, G, E, as, st, pq⟩ := h
  refine Call_ (ld_blt I hg hm PyProof.Rows.boot_enumerate (PyProof.Rows.callWith_type1 (thn (ha.run pos pins s σ H _ I ⟨F, G, E, as, st, PoA.bindI pq⟩) fun us s1 ⟨vs, H1, I1, r1, q1⟩ => ?_) hs rfl))
  obtain ⟨ws, G1, E1, as1, sm1, st1, wo1, p1⟩ := q1
  match ws, p1 with
  | [.dat a], p1 =>
    obtain ⟨d1, e1, p1⟩ := PoI.ofO p1
    match vs, wo1 with
    | [x], wo1 =>
      cases r1 with
      | cons rx rr =>
        cases rr
        obtain ⟨k1, ok1, u1⟩ := src_of wo1.1 rx e1
        obtain ⟨B1, b1, hb1⟩ := begins_src u1 I1 st1.s1 ok1
        exact enum_begins1 b1 hb1 fun h' hz g1 hk => enum_pie I1 ok1 st1 hz g1 hk p1
/-- a built-in class, called with keywords -/
theorem callWith_typeKw {M : Model} {A : Around} {EE : Value → Shared → Prop} {s : Shared} {env : PySem.Env} {T : String} {rest : List Expr} {kws : List Keyword} {Q : Value → Shared → Prop}
    (h : wpAny M A (spliced (backTo pos (starEach (e :: rest) env))) (fun vs s₁ => wpAny M A (evalAll ((backToKw pos (keywordEach kws env)).map (·.2)))
      (fun kvs s₂ => wpAny M A (call (.type T) vs (((backToKw pos (keywordEach kws env)).filterMap (·.1)).zip kvs)) Q EE s₂) EE s₁) EE s)
    (he : backTo pos (starEach (e :: rest) env) = (false, eval e env) :: backTo pos (starEach rest env)) (hplain : (backTo pos (starEach (e :: rest) env)).any (·.1) = false)
    (hall : (backToKw pos (keywordEach kws env)).all (·.1.isSome) = true) (hkw : (backToKw pos (keywordEach kws env)).any (·.1.isNone) = false) :
    wpAny M A (callWith pos (.type T) [] (backTo pos (starEach (e :: rest) env)) (backToKw pos (keywordEach kws env))) Q EE s := by
  unfold callWith
  rw [he] at h
  have ev := evalArgs_kwB (f := Value.type T) (Q := fun a s1 => wpAny M A (call (.type T) a.pos a.kw) Q EE s1) hall h
  rw [← he] at ev
  refine wpAny_bind (wpAny_holding (wpAny_mono ev (fun a s1 h1 => wpAny_bind (wpAny_standAt ?_)) fun _ _ x => x))
  simp only [hplain, hkw, Bool.or_false]
  refine wpAny_bind (wpAny_pure ?_)
  refine wpAny_bind (wpAny_mono h1 (fun r s2 hr => ?_) fun _ _ x => x)
  exact wpAny_bind (wpAny_holding (wpAny_point (wpAny_pure hr)))
theorem di_enumK {k0 : Int} {j : Nat} {kp kp2 : Pos} (h0 : -(2 ^ 63) ≤ k0 := by decide) (h1 : k0 < 2 ^ 63 := by decide) (hg : Gl X "enumerate") (hm : X.mg "enumerate" = none) (ha : DA X Wi [e] fs) (hs : starEach [e] X.env = [(false, eval e X.env)] := by rfl)
    (he : backTo pos (starEach [e] X.env) = (false, eval e X.env) :: backTo pos (starEach [] X.env) := by rfl) (hpl : (backTo pos (starEach [e] X.env)).any (·.1) = false := by rfl) :
    DI X Wi (.Tuple elts kk tpos) (.Call (.Name "enumerate" p) [e] [⟨some "start", .Constant (.int k0) j kp2, kp⟩] pos) (iNk k0 fs) := by
  refine ⟨fun pins s σ H R I h => ?_⟩
  obtain ⟨F, G, E, as, st, pq⟩ := h
  refine wpAny_Call_Name_kw (ld_blt I hg hm PyProof.Rows.boot_enumerate (callWith_typeKw (thn (ha.run pos pins s σ H _ I ⟨F, G, E, as, st, PoA.bindI pq⟩) fun us s1 ⟨vs, H1, I1, r1, q1⟩ => ?_) he hpl rfl rfl))
  refine thn ((pk_cons (nm := some "start") (kpos := kp) pe_int pk_nil).run pos pins s1 σ H1 (fun zs H2 => zs = [.int k0] ∧ H2 = H1) I1 (show tCons (tC (.int k0)) tNil σ H1 _ from ⟨rfl, rfl⟩)) fun kvs s2 ⟨zs, H2, I2, r2, ez, eh⟩ => ?_
  subst ez eh
  obtain ⟨ws, G1, E1, as1, sm1, st1, wo1, p1⟩ := q1
  match ws, p1 with
  | [.dat a], p1 =>
    obtain ⟨d1, e1, p1⟩ := PoI.ofO p1
    match vs, wo1 with
    | [x], wo1 =>
      cases r1 with
      | cons rx rr =>
        cases rr
        cases r2 with
        | cons rk rr2 =>
          cases rr2
          obtain ⟨t, rfl⟩ := rk
          obtain ⟨k1, ok1, u1⟩ := src_of wo1.1 rx e1
          obtain ⟨B1, b1, hb1⟩ := begins_src u1 I2 st1.s1 ok1
          exact enum_begins_start b1 hb1 h0 h1 fun h' hz g1 _ hk => enum_pie I2 ok1 st1 hz g1 hk p1
end

/-! ### a value walked, ranges -/
/-- over data -/
def iSq (f : EF) : IF := fun E => (f E).bind fun p => (ofO (asDat p.1)).bind fun d => (ofO (sqD d)).bind fun ds => .ok (ds, p.2)
section
variable {X : Cx} {Wi : Wish} {tg e e2 : Expr} {f : EF} {fs : AF} {p pos : Pos}
theorem jd_l {K : PySem.W.Frag} {G0 : Hp} {a : Addr} {vs : List V} {ds : List D} (g : G0 a = some (.lst vs)) (z : vs.length ≤ sizeLine) (q : DDs K G0 vs ds) : JD K G0 (Itl K a) ds := by
  refine ⟨by rw [← q.len]; exact z, fun G H s1 s2 => ⟨vs, SqL.of (s2 _ _ (s1 _ _ g)), by rw [q.len]; exact Nat.le_refl _⟩, fun G H i s1 s2 hi => ?_, fun G H i d x H' s1 s2 e y => ?_⟩
  · have hlt : i < vs.length := by rw [q.len]; exact hi
    exact ⟨vs, vs[i], SqL.of (s2 _ _ (s1 _ _ g)), List.getElem?_eq_getElem hlt⟩
  · obtain ⟨rfl, y⟩ := y
    obtain ⟨v, e1, dd⟩ := q.get e
    have e2 := y vs (SqL.of (s2 _ _ (s1 _ _ g)))
    rw [e1] at e2; cases e2
    exact ⟨G, Al.refl s2, dd.up s1⟩
theorem jd_t {K : PySem.W.Frag} {G0 : Hp} {a : Addr} {vs : List V} {ds : List D} (g : G0 a = some (.tup vs)) (z : vs.length ≤ sizeLine) (q : DDs K G0 vs ds) : JD K G0 (Itt K a) ds := by
  refine ⟨by rw [← q.len]; exact z, fun G H s1 s2 => ⟨vs, SqT.of (s2 _ _ (s1 _ _ g)), by rw [q.len]; exact Nat.le_refl _⟩, fun G H i s1 s2 hi => ?_, fun G H i d x H' s1 s2 e y => ?_⟩
  · have hlt : i < vs.length := by rw [q.len]; exact hi
    exact ⟨vs, vs[i], SqT.of (s2 _ _ (s1 _ _ g)), List.getElem?_eq_getElem hlt⟩
  · obtain ⟨rfl, y⟩ := y
    obtain ⟨v, e1, dd⟩ := q.get e
    have e2 := y vs (SqT.of (s2 _ _ (s1 _ _ g)))
    rw [e1] at e2; cases e2
    exact ⟨G, Al.refl s2, dd.up s1⟩
theorem jd_x {K : PySem.W.Frag} {G0 : Hp} {x : Str} (ok : SOk x) : JD K G0 (Its x) (signs x) := by
  refine ⟨by rw [signs_len]; exact ok.1, fun G H s1 s2 => by rw [signs_len]; exact Nat.le_refl _, fun G H i s1 s2 hi => by rw [signs_len] at hi; exact hi, fun G H i d v H' s1 s2 e y => ?_⟩
  obtain ⟨rfl, c, hc, rfl⟩ := y
  rw [signs_get hc] at e; cases e
  exact ⟨G, Al.refl s2, .str _ (sok_sgn ok (signs_mem hc))⟩
theorem di_seq (he : DE X Wi e f) : DI X Wi tg e (iSq f) := by
  refine ⟨fun pins s σ H R I h => ?_⟩
  obtain ⟨F, G, E, as, st, pq⟩ := h
  have pq : PoI X.K Wi F G σ R ((f E).bind fun p => (ofO (asDat p.1)).bind fun d => (ofO (sqD d)).bind fun ds => .ok (ds, p.2)) := pq
  cases hf : f E with
  | stuck => rw [hf] at pq; exact pq.elim
  | err x E' =>
    rw [hf] at pq
    refine (pi_list he).run pins s σ H R I ⟨F, G, E, as, st, ?_⟩
    rw [hf]; exact pq
  | ok wE =>
    obtain ⟨w, E1⟩ := wE
    rw [hf] at pq
    cases w with
    | own i => exact pq.elim
    | dat d =>
      obtain ⟨ds, e1, pq⟩ := PoI.ofO (show PoI X.K Wi F G σ R ((ofO (sqD d)).bind fun ds => .ok (ds, E1)) from pq)
      cases d with
      | lst l =>
        cases e1
        refine (pi_list he).run pins s σ H R I ⟨F, G, E, as, st, ?_⟩
        rw [hf]
        intro v G' H' as' sm st' wo
        have wo : DD X.K G' v (.lst ds) := wo
        cases wo with
        | lst g z q => exact ⟨_, rfl, ⟨_, SqL.of (st'.s1 _ _ g)⟩, pq _ G' H' as' sm st' (jd_l g z q)⟩
      | tup l =>
        cases e1
        refine (pi_tup he).run pins s σ H R I ⟨F, G, E, as, st, ?_⟩
        rw [hf]
        intro v G' H' as' sm st' wo
        have wo : DD X.K G' v (.tup ds) := wo
        cases wo with
        | tup g z q => exact ⟨_, rfl, ⟨_, SqT.of (st'.s1 _ _ g)⟩, pq _ G' H' as' sm st' (jd_t g z q)⟩
      | str x =>
        cases e1
        refine (pi_str he).run pins s σ H R I ⟨F, G, E, as, st, ?_⟩
        rw [hf]
        intro v G' H' as' sm st' wo
        have wo : DD X.K G' v (.str x) := wo
        cases wo with
        | str _ ok => exact ⟨x, rfl, pq _ G' H' as' sm st' (jd_x ok)⟩
      | _ => cases e1
def rgD (lo : Int) (n : Nat) : List D := (List.range n).map fun i => .int (lo + (i : Nat))
theorem jd_r {K : PySem.W.Frag} {G0 : Hp} {lo : Int} {n : Nat} (h : n ≤ sizeLine) : JD K G0 (Itr lo n) (rgD lo n) := by
  have en : (rgD lo n).length = n := by unfold rgD; rw [List.length_map, List.length_range]
  refine ⟨by rw [en]; exact h, fun G H s1 s2 => by rw [en]; exact Nat.le_refl _, fun G H i s1 s2 hi => by rw [en] at hi; exact hi, fun G H i d v H' s1 s2 e y => ?_⟩
  obtain ⟨rfl, rfl⟩ := y
  unfold rgD at e
  rw [List.getElem?_map] at e
  cases q : (List.range n)[i]? with
  | none => rw [q] at e; cases e
  | some j =>
    have ej : j = i := by
      have := List.getElem?_range (i := i) (n := n) (by have := (List.getElem?_eq_some_iff.mp q).1; rw [List.length_range] at this; exact this)
      rw [this] at q; exact (Option.some.inj q).symm
    rw [q, ej] at e; cases e
    exact ⟨G, Al.refl s2, .int _⟩
def iR1 (fs : AF) : IF := fun E => (fs E).bind fun p => match p.1 with
  | [.dat (.int j)] => if j ≤ 16777216 ∧ -(2 ^ 62) ≤ j then .ok (rgD 0 j.toNat, p.2) else .stuck
  | _ => .stuck
def iR2 (fs : AF) : IF := fun E => (fs E).bind fun p => match p.1 with
  | [.dat (.int i), .dat (.int j)] => if j - i ≤ 16777216 ∧ -(2 ^ 62) ≤ i ∧ i < 2 ^ 62 ∧ -(2 ^ 62) ≤ j ∧ j < 2 ^ 62 then .ok (rgD i (j - i).toNat, p.2) else .stuck
  | _ => .stuck
theorem di_range1 (hg : Gl X "range") (hm : X.mg "range" = none) (ha : DA X Wi [e] fs) (hs : starEach [e] X.env = [(false, eval e X.env)] := by rfl) : DI X Wi tg (.Call (.Name "range" p) [e] [] pos) (iR1 fs) :=
  PI.imp (pi_range1 hg hm ha hs) fun σ H Q q => by
    obtain ⟨F, G, E, as, st, pq⟩ := q
    refine ⟨F, G, E, as, st, PoA.mono (fun vs H1 m => ?_) (PoA.bindI pq)⟩
    obtain ⟨ws, G1, E1, as1, s1, st1, wo1, p1⟩ := m
    match ws, p1 with
    | [.dat (.int j)], p1 =>
      have p1 : PoI X.K Wi F G1 σ Q (if j ≤ 16777216 ∧ -(2 ^ 62) ≤ j then .ok (rgD 0 j.toNat, E1) else .stuck) := p1
      by_cases hj : j ≤ 16777216 ∧ -(2 ^ 62) ≤ j
      · rw [if_pos hj] at p1
        match vs, wo1 with
        | [v], wo1 =>
          have w1 : DD X.K G1 v (.int j) := wo1.1
          cases w1
          exact ⟨j, rfl, hj.2, by omega, p1 _ G1 H1 as1 (Same.refl _) st1 (jd_r (by rw [sizeLine_eq]; omega))⟩
      · rw [if_neg hj] at p1; exact p1.elim
theorem di_range2 (hg : Gl X "range") (hm : X.mg "range" = none) (ha : DA X Wi [e, e2] fs) (hs : starEach [e, e2] X.env = [(false, eval e X.env), (false, eval e2 X.env)] := by rfl) (hs2 : starEach [e2] X.env = [(false, eval e2 X.env)] := by rfl) :
    DI X Wi tg (.Call (.Name "range" p) [e, e2] [] pos) (iR2 fs) :=
  PI.imp (pi_range2 hg hm ha hs hs2) fun σ H Q q => by
    obtain ⟨F, G, E, as, st, pq⟩ := q
    refine ⟨F, G, E, as, st, PoA.mono (fun vs H1 m => ?_) (PoA.bindI pq)⟩
    obtain ⟨ws, G1, E1, as1, s1, st1, wo1, p1⟩ := m
    match ws, p1 with
    | [.dat (.int i), .dat (.int j)], p1 =>
      have p1 : PoI X.K Wi F G1 σ Q (if j - i ≤ 16777216 ∧ -(2 ^ 62) ≤ i ∧ i < 2 ^ 62 ∧ -(2 ^ 62) ≤ j ∧ j < 2 ^ 62 then .ok (rgD i (j - i).toNat, E1) else .stuck) := p1
      by_cases hj : j - i ≤ 16777216 ∧ -(2 ^ 62) ≤ i ∧ i < 2 ^ 62 ∧ -(2 ^ 62) ≤ j ∧ j < 2 ^ 62
      · rw [if_pos hj] at p1
        match vs, wo1 with
        | [v, u], wo1 =>
          have w1 : DD X.K G1 v (.int i) := wo1.1
          have w2 : DD X.K G1 u (.int j) := wo1.2.1
          cases w1
          cases w2
          exact ⟨i, j, rfl, hj.2, p1 _ G1 H1 as1 (Same.refl _) st1 (jd_r (by rw [sizeLine_eq]; omega))⟩
      · rw [if_neg hj] at p1; exact p1.elim
end
end DL
namespace DL
open PySem PySem.Spec PyProof.Rows L2 TL

/-! ### dicts of data -/
section
variable {κ : Type} [DecidableEq κ]
def lkM (l : List (κ × D)) (k : κ) : Option D := (l.find? fun kv => decide (kv.1 = k)).map (·.2)
def putM (l : List (κ × D)) (k : κ) (d : D) : List (κ × D) := if (l.any fun kv => decide (kv.1 = k)) = true then l.map (fun kv => if kv.1 = k then (kv.1, d) else kv) else l ++ [(k, d)]
end
def keyO : D → Option Key
  | .int i => some (.inl i)
  | .str x => some (.inr x)
  | _ => none
def keysO : List D → Option (List Key)
  | [] => some []
  | d :: r => (keyO d).bind fun k => (keysO r).map (k :: ·)
def kD : Key → D
  | .inl i => .int i
  | .inr x => .str x
section
variable {K : PySem.W.Frag} {G H : Hp}
theorem keyO_ok {v : V} {d : D} {k : Key} (h : DD K G v d) (e : keyO d = some k) : v = kV k ∧ KOk k := by
  cases h with
  | int i => cases e; exact ⟨rfl, trivial⟩
  | str x ok => cases e; exact ⟨rfl, ok⟩
  | _ => cases e
theorem keyB_ok {v : V} {d : D} {k : Key} (h : BD K G H v d) (e : keyO d = some k) : v = kV k ∧ KOk k := by
  cases h with
  | dat h => exact keyO_ok h e
  | own _ o => cases d <;> first | cases e; done | exact o.elim
theorem keysO_ok : ∀ {vs : List V} {ds : List D} {ks : List Key}, DDs K G vs ds → keysO ds = some ks → vs = ks.map kV ∧ ∀ x ∈ ks, KOk x
  | [], [], _, _, e => by cases e; exact ⟨rfl, fun _ h => (by cases h)⟩
  | v :: vs, d :: ds, ks, .cons a r, e => by
    have e : ((keyO d).bind fun k => (keysO ds).map (k :: ·)) = some ks := e
    cases q : keyO d with
    | none => rw [q] at e; cases e
    | some k =>
      rw [q] at e
      have e : (keysO ds).map (k :: ·) = some ks := e
      cases q2 : keysO ds with
      | none => rw [q2] at e; cases e
      | some r' =>
        rw [q2] at e; cases e
        obtain ⟨h1, h2⟩ := keyO_ok a q
        obtain ⟨h3, h4⟩ := keysO_ok r q2
        refine ⟨by rw [h1, h3]; rfl, fun x hx => ?_⟩
        rcases List.mem_cons.mp hx with z | z
        · rw [z]; exact h2
        · exact h4 x z
theorem kD_dd {k : Key} (h : KOk k) : DD K G (kV k) (kD k) := by
  cases k with
  | inl i => exact .int i
  | inr x => exact .str x h
theorem keysD_dd : ∀ {k : List Key}, (∀ x ∈ k, KOk x) → DDs K G (k.map kV) (k.map kD)
  | [], _ => .nil
  | k :: r, h => .cons (kD_dd (h k List.mem_cons_self)) (keysD_dd fun x hx => h x (List.mem_cons_of_mem _ hx))
theorem DKs.look : ∀ {kv : List (Key × V)} {kd : List (Key × D)} (k : Key), DKs K G kv kd → (∀ d, lkM kd k = some d → ∃ v, valV kv k = some v ∧ DD K G v d) ∧ (lkM kd k = none → valV kv k = none)
  | _, _, _, .nil => ⟨fun _ h => (by cases h), fun _ => rfl⟩
  | _, _, k, .cons (k := j) c a b => by
    by_cases h : j = k
    · subst h
      unfold lkM valV
      rw [List.find?_cons_of_pos (by simp), List.find?_cons_of_pos (by simp)]
      exact ⟨fun d e => ⟨_, rfl, by cases e; exact a⟩, fun e => by cases e⟩
    · have ih := DKs.look k b
      unfold lkM valV at ih ⊢
      rw [List.find?_cons_of_neg (by simpa using h), List.find?_cons_of_neg (by simpa using h)]
      exact ih
theorem DTs.look : ∀ {kv : List (List Key × V)} {kd : List (List Key × D)} (k : List Key), DTs K G kv kd → (∀ d, lkM kd k = some d → ∃ v, valV kv k = some v ∧ DD K G v d) ∧ (lkM kd k = none → valV kv k = none)
  | _, _, _, .nil => ⟨fun _ h => (by cases h), fun _ => rfl⟩
  | _, _, k, .cons (k := j) c a b => by
    by_cases h : j = k
    · subst h
      unfold lkM valV
      rw [List.find?_cons_of_pos (by simp), List.find?_cons_of_pos (by simp)]
      exact ⟨fun d e => ⟨_, rfl, by cases e; exact a⟩, fun e => by cases e⟩
    · have ih := DTs.look k b
      unfold lkM valV at ih ⊢
      rw [List.find?_cons_of_neg (by simpa using h), List.find?_cons_of_neg (by simpa using h)]
      exact ih
theorem DKs.any (k : Key) : ∀ {kv : List (Key × V)} {kd : List (Key × D)}, DKs K G kv kd → (kv.any fun x => decide (x.1 = k)) = (kd.any fun x => decide (x.1 = k))
  | _, _, .nil => rfl
  | _, _, .cons _ _ b => by rw [List.any_cons, List.any_cons, DKs.any k b]
theorem DTs.any (k : List Key) : ∀ {kv : List (List Key × V)} {kd : List (List Key × D)}, DTs K G kv kd → (kv.any fun x => decide (x.1 = k)) = (kd.any fun x => decide (x.1 = k))
  | _, _, .nil => rfl
  | _, _, .cons _ _ b => by rw [List.any_cons, List.any_cons, DTs.any k b]
theorem DKs.over (k : Key) {v : V} {d : D} (h : DD K G v d) : ∀ {kv : List (Key × V)} {kd : List (Key × D)}, DKs K G kv kd → DKs K G (kv.map fun x => if x.1 = k then (x.1, v) else x) (kd.map fun x => if x.1 = k then (x.1, d) else x)
  | _, _, .nil => .nil
  | _, _, .cons (k := j) c a b => by
    rw [List.map_cons, List.map_cons]
    by_cases e : j = k
    · rw [if_pos e, if_pos e]; exact .cons c h (DKs.over k h b)
    · rw [if_neg e, if_neg e]; exact .cons c a (DKs.over k h b)
theorem DTs.over (k : List Key) {v : V} {d : D} (h : DD K G v d) : ∀ {kv : List (List Key × V)} {kd : List (List Key × D)}, DTs K G kv kd → DTs K G (kv.map fun x => if x.1 = k then (x.1, v) else x) (kd.map fun x => if x.1 = k then (x.1, d) else x)
  | _, _, .nil => .nil
  | _, _, .cons (k := j) c a b => by
    rw [List.map_cons, List.map_cons]
    by_cases e : j = k
    · rw [if_pos e, if_pos e]; exact .cons c h (DTs.over k h b)
    · rw [if_neg e, if_neg e]; exact .cons c a (DTs.over k h b)
theorem DKs.app : ∀ {kv kw : List (Key × V)} {kd ke : List (Key × D)}, DKs K G kv kd → DKs K G kw ke → DKs K G (kv ++ kw) (kd ++ ke)
  | _, _, _, _, .nil, h => h
  | _, _, _, _, .cons c a b, h => .cons c a (DKs.app b h)
theorem DTs.app : ∀ {kv kw : List (List Key × V)} {kd ke : List (List Key × D)}, DTs K G kv kd → DTs K G kw ke → DTs K G (kv ++ kw) (kd ++ ke)
  | _, _, _, _, .nil, h => h
  | _, _, _, _, .cons c a b, h => .cons c a (DTs.app b h)
theorem DKs.put {kv : List (Key × V)} {kd : List (Key × D)} {k : Key} {v : V} {d : D} (hk : KOk k) (h : DD K G v d) (r : DKs K G kv kd) : DKs K G (putK kv k v) (putM kd k d) := by
  unfold putK putM
  rw [DKs.any k r]
  split
  · exact DKs.over k h r
  · exact DKs.app r (.cons hk h .nil)
theorem DTs.put {kv : List (List Key × V)} {kd : List (List Key × D)} {k : List Key} {v : V} {d : D} (hk : KsOk k) (h : DD K G v d) (r : DTs K G kv kd) : DTs K G (putK kv k v) (putM kd k d) := by
  unfold putK putM
  rw [DTs.any k r]
  split
  · exact DTs.over k h r
  · exact DTs.app r (.cons hk h .nil)
end
/-- d[k] -/
def gGet : D → D → Option D
  | .dic kd, y => (keyO y).bind fun k => lkM kd k
  | .dit kd, .tup ds => (keysO ds).bind fun k => lkM kd k
  | _, _ => none
theorem opd_get {K : PySem.W.Frag} : OpD K (fun x y H Q => ∃ a v, x = .ref a ∧ DGet H a y (some v) ∧ Q v H) gGet := by
  intro G H x y a b d Q s ha hb e z
  cases a with
  | dic kd =>
    obtain ⟨p, kv, rfl, h1, r⟩ := ha.dic s
    have e : ((keyO b).bind fun k => lkM kd k) = some d := by cases b <;> exact e
    cases q : keyO b with
    | none => rw [q] at e; cases e
    | some k =>
      rw [q] at e
      obtain ⟨rfl, _⟩ := keyB_ok hb q
      obtain ⟨v, e1, dd⟩ := (DKs.look k r).1 d e
      exact ⟨p, v, rfl, .inl ⟨kv, k, .inl h1, rfl, e1.symm⟩, z _ _ _ (Al.refl s) dd⟩
  | dit kd =>
    obtain ⟨p, kv, rfl, h1, r⟩ := ha.dit s
    cases b with
    | tup ds =>
      have e : ((keysO ds).bind fun k => lkM kd k) = some d := e
      cases q : keysO ds with
      | none => rw [q] at e; cases e
      | some k =>
        rw [q] at e
        obtain ⟨w, vs, rfl, h2, _, dd2, _⟩ := hb.tup s
        obtain ⟨e2, _⟩ := keysO_ok dd2 q
        rw [e2] at h2
        obtain ⟨v, e1, dd⟩ := (DTs.look k r).1 d e
        exact ⟨p, v, rfl, .inr ⟨kv, k, w, .inl h1, rfl, h2, e1.symm⟩, z _ _ _ (Al.refl s) dd⟩
    | _ => cases e
  | _ => cases b <;> cases e
/-- k in d -/
def gHas (neg : Bool) : D → D → Option D
  | y, .dic kd => (keyO y).map fun k => .bl (if neg then !(lkM kd k).isSome else (lkM kd k).isSome)
  | .tup ds, .dit kd => (keysO ds).map fun k => .bl (if neg then !(lkM kd k).isSome else (lkM kd k).isSome)
  | _, _ => none
theorem opd_has {K : PySem.W.Frag} {neg : Bool} : OpD K (fun y x H Q => ∃ a o, x = .ref a ∧ DGet H a y o ∧ Q (.bl (if neg then !o.isSome else o.isSome)) H) (gHas neg) := by
  intro G H y x b a d Q s hb ha e z
  cases a with
  | dic kd =>
    obtain ⟨p, kv, rfl, h1, r⟩ := ha.dic s
    have e : ((keyO b).map fun k => D.bl (if neg then !(lkM kd k).isSome else (lkM kd k).isSome)) = some d := by cases b <;> exact e
    cases q : keyO b with
    | none => rw [q] at e; cases e
    | some k =>
      rw [q] at e; cases e
      obtain ⟨rfl, _⟩ := keyB_ok hb q
      have l := DKs.look k r
      have eo : (valV kv k).isSome = (lkM kd k).isSome := by
        cases q2 : lkM kd k with
        | none => rw [l.2 q2]; rfl
        | some d => obtain ⟨v, e1, _⟩ := l.1 d q2; rw [e1]; rfl
      refine ⟨p, valV kv k, rfl, .inl ⟨kv, k, .inl h1, rfl, rfl⟩, ?_⟩
      rw [eo]
      exact z _ _ _ (Al.refl s) (.bl _)
  | dit kd =>
    obtain ⟨p, kv, rfl, h1, r⟩ := ha.dit s
    cases b with
    | tup ds =>
      have e : ((keysO ds).map fun k => D.bl (if neg then !(lkM kd k).isSome else (lkM kd k).isSome)) = some d := e
      cases q : keysO ds with
      | none => rw [q] at e; cases e
      | some k =>
        rw [q] at e; cases e
        obtain ⟨w, vs, rfl, h2, _, dd2, _⟩ := hb.tup s
        obtain ⟨e2, _⟩ := keysO_ok dd2 q
        rw [e2] at h2
        have l := DTs.look k r
        have eo : (valV kv k).isSome = (lkM kd k).isSome := by
          cases q2 : lkM kd k with
          | none => rw [l.2 q2]; rfl
          | some d => obtain ⟨v, e1, _⟩ := l.1 d q2; rw [e1]; rfl
        refine ⟨p, valV kv k, rfl, .inr ⟨kv, k, w, .inl h1, rfl, h2, rfl⟩, ?_⟩
        rw [eo]
        exact z _ _ _ (Al.refl s) (.bl _)
    | _ => cases e
  | _ => cases b <;> cases e
section
variable {X : Cx} {Wi : Wish} {o i e value : Expr} {fo fi fv : EF} {pos pos' : Pos}
theorem de_dget (hu : X.A.units + 1 < cLine) (ho : DE X Wi o fo) (hi : DE X Wi i fi) (hs : NoSl i := by intro _ _; rfl) : DE X Wi (.Subscript o i pos) (eOp gGet fo fi) := PE.imp (pe_dget hu ho hi hs) (tOp_of opd_get)

/-! ### names -/
/-- a global that is data -/
theorem de_g {x : Str} {v : V} {u : Value} {d : D} (hg : Gl X x) (hm : X.mg x = some u) (r : RelV v u) (hd : ∀ G, DD X.K G v d) (hdb : (x == ("__debug__" : Str)) = false := by decide) : DE X Wi (.Name x pos) (eC d) := de_c (pe_glob hg hm r hdb) hd
/-- a name whose own object becomes data as it is read -/
def eVf (i : Nat) : EF := fun E => match E[i]? with
  | some (.dat d) => .ok (.dat d, E)
  | some (.own d) => .ok (.dat d, E.set i (.dat d))
  | _ => .stuck
theorem de_vf {i : Nat} (h : PE X e (tVar i)) : DE X Wi e (eVf i) := by
  refine PE.imp h fun σ H Q q => ?_
  obtain ⟨F, G, E, as, st, p⟩ := q
  unfold eVf at p
  split at p
  · rename_i d e1
    obtain ⟨v, e2, x⟩ := st.cell i _ e1
    obtain ⟨_, y, rfl, dd⟩ := x
    exact ⟨y, e2, Po.rz st p y G H (Al.refl st.s1) dd⟩
  · rename_i d e1
    obtain ⟨v, e2, x⟩ := st.cell i _ e1
    obtain ⟨a, _, rfl, dd⟩ := x
    obtain ⟨G2, s2, dd2, st2⟩ := st.freeze e1 e2
    exact ⟨_, e2, p _ G2 H _ s2 st2 dd2⟩
  · exact p.elim

theorem BD.obj {K : PySem.W.Frag} {G H : Hp} {v : V} (s : Same G H) {C : Addr} {fd : List (Str × D)} (h : BD K G H v (.obj C fd)) : ∃ a dx vf, v = .ref a ∧ H a = some (.ins C dx vf) ∧ DFs K G vf fd := by
  cases h with
  | dat dd => cases dd with | obj g r => exact ⟨_, _, _, rfl, s _ _ g, r⟩
  | own ev o => obtain ⟨dx, vf, e1, r⟩ := o; exact ⟨_, dx, vf, ev, e1, r⟩

/-! ### isinstance -/
def tyN : D → Option String
  | .non => some "NoneType"
  | .bl _ => some "bool"
  | .int _ => some "int"
  | .str _ => some "str"
  | .lst _ => some "list"
  | .tup _ => some "tuple"
  | .dic _ => some "dict"
  | .dit _ => some "dict"
  | .obj _ _ => none
/-- what isinstance answers: f for the built-in ones, g for the own ones -/
def gIs (f : String → Option Bool) (g : Addr → Option Bool) : D → Option D
  | .obj C _ => (g C).map .bl
  | d => ((tyN d).bind f).map .bl
/-- instances of C as isinstance sees them -/
structure InsOk (K : PySem.W.Frag) (C : Addr) : Prop where
  cl : Cls K C
  ha : PySem.W.findIn K (.ref C) "__class__" = some (some (.builtin "object.__class__"))
  hn : PySem.W.specialIn K (.builtin "object.__class__") "__get__" = some (some (.builtin "getset_descriptor.__get__"))
  ht : PySem.W.takesIn K (.builtin "object.__class__") = some true
  hm : PySem.W.mroIn K C (.type "object") = some true
def eIs (f : String → Option Bool) (g : Addr → Option Bool) (fa : EF) : EF := fun E => (fa E).bind fun p => (rd p.2 p.1).bind fun d => (ofO (gIs f g d)).bind fun b => .ok (.dat b, p.2)
theorem tyx_of {K : PySem.W.Frag} {G H : Hp} {v : V} {d : D} {n : String} (s : Same G H) (h : BD K G H v d) (e : tyN d = some n) : TyX K H v (.type n) := by
  cases d with
  | non => cases e; cases h.non; exact .base .non
  | bl b => cases e; cases h.bl; exact .base (.bl b)
  | int i => cases e; cases h.int; exact .base (.int i)
  | str x => cases e; cases h.str.1; exact .base (.str x)
  | lst ds => cases e; obtain ⟨a, vs, rfl, h1, _⟩ := h.lst s; exact .base (.lst h1)
  | tup ds => cases e; obtain ⟨a, vs, rfl, h1, _⟩ := h.tup s; exact .base (.tup h1)
  | dic ds => cases e; obtain ⟨a, vs, rfl, h1, _⟩ := h.dic s; exact .base (.dK h1)
  | dit ds => cases e; obtain ⟨a, vs, rfl, h1, _⟩ := h.dit s; exact .base (.dT h1)
  | obj _ _ => cases e
theorem de_is {c : Expr} {cv : V} {u : Value} {f : String → Option Bool} {g : Addr → Option Bool} {p : Pos} (hu : ClsV cv u) (hf : ∀ n b, f n = some b → PySem.W.kitOne X.K (.type n) u = some b) (hgg : ∀ C b, g C = some b → InsOk X.K C ∧ PySem.W.kitOne X.K (.ref C) u = some b)
    (hg : Gl X "isinstance") (hm : X.mg "isinstance" = none) (ha : DE X Wi e fo) (hc : PE X c (tC cv))
    (hs : starEach [e, c] X.env = (false, eval e X.env) :: starEach [c] X.env := by rfl) (hs2 : starEach [c] X.env = (false, eval c X.env) :: starEach [] X.env := by rfl) (hpl : (backTo pos (starEach [c] X.env)).any (·.1) = false := by rfl) :
    DE X Wi (.Call (.Name "isinstance" p) [e, c] [] pos) (eIs f g fo) := by
  refine PE.imp (pe_callB call_isi hg hm PyProof.Rows.boot_isinstance (pa_cons ha (pa_cons hc pa_nil hs2) hs) (by decide) (by decide) hs hpl) fun σ H Q q => ?_
  obtain ⟨F, G, E, as, st, pq⟩ := q
  refine ⟨F, G, E, as, st, Po.mono (fun x H1 m => ?_) (Po.bind pq)⟩
  obtain ⟨w1, G1, E1, as1, s1, st1, wo1, p1⟩ := m
  obtain ⟨d1, e1, p1⟩ := Po.rd p1
  obtain ⟨d, e2, p1⟩ := Po.of p1
  have b1 := wo1.rd (Same.refl _) st1 e1
  have fin : ∀ b, d = .bl b → Q (.bl b) H1 := fun b eb => by subst eb; exact Po.rz st1 p1 _ _ _ (Al.refl st1.s1) (.bl b)
  have prim : ∀ n, tyN d1 = some n → ((tyN d1).bind f).map D.bl = some d → ∃ x1 c1 t u b, [x, cv] = [x1, c1] ∧ ClsV c1 u ∧ TyX X.K H1 x1 t ∧ PySem.W.kitOne X.K t u = some b ∧ Q (.bl b) H1 := fun n en ed => by
    rw [en] at ed
    cases q : f n with
    | none => rw [show (some n).bind f = f n from rfl, q] at ed; cases ed
    | some b =>
      rw [show (some n).bind f = f n from rfl, q] at ed
      exact ⟨x, cv, _, u, b, rfl, hu, tyx_of st1.s1 b1 en, hf _ _ q, fin b (Option.some.inj ed).symm⟩
  cases d1 with
  | obj C fs =>
    have e2 : (g C).map D.bl = some d := e2
    cases q : g C with
    | none => rw [q] at e2; cases e2
    | some b =>
      rw [q] at e2
      obtain ⟨ok, kq⟩ := hgg C b q
      obtain ⟨a, dx, vf, rfl, h1, _⟩ := b1.obj st1.s1
      exact ⟨_, cv, _, u, b, rfl, hu, .base (.ins h1 ok.cl ok.ha ok.hn ok.ht ok.hm), kq, fin b (Option.some.inj e2).symm⟩
  | non => exact prim _ rfl e2
  | bl b => exact prim _ rfl e2
  | int i => exact prim _ rfl e2
  | str x => exact prim _ rfl e2
  | lst ds => exact prim _ rfl e2
  | tup ds => exact prim _ rfl e2
  | dic ds => exact prim _ rfl e2
  | dit ds => exact prim _ rfl e2

/-! ### the frame's own lists and dicts -/
theorem StE.ownA {K : PySem.W.Frag} {F : Fr} {G H : Hp} {σ : L2.St} {E : Env} {as : Nat → List Addr} {i : Nat} {d : D} {v : V} (st : StE K F G H σ E as) (e : E[i]? = some (.own d)) (hv : σ[i]? = some (some v)) : ∃ a, v = .ref a ∧ a ∈ as i ∧ OwnAt K G H a d := by
  obtain ⟨u, e1, a, x1, x2, x3⟩ := st.cell i _ e
  rw [hv] at e1; cases e1; cases x2
  exact ⟨a, rfl, by rw [x1]; exact List.mem_singleton.mpr rfl, x3⟩
def ownL (E : Env) (i : Nat) : Option (List D) := match E[i]? with
  | some (.own (.lst ds)) => some ds
  | _ => none
theorem ownL_ok {E : Env} {i : Nat} {ds : List D} (h : ownL E i = some ds) : E[i]? = some (.own (.lst ds)) := by
  unfold ownL at h
  split at h
  · rename_i l e; cases h; exact e
  · cases h
/-- what a method of a list does with it: the answer, what it is then -/
def OwnM (K : PySem.W.Frag) (r : V → List V → Hp → VK → Prop) (g : List D → List D → Option (D × List D)) : Prop :=
  ∀ (G H : Hp) (a : Addr) (vs xs : List V) (ds es l : List D) (d : D) (Q : VK), Same G H → H a = some (.lst vs) → G a = none → vs.length ≤ sizeLine → DDs K G vs ds → DDs K G xs es → g ds es = some (d, l) →
    (∀ v ws, DD K G v d → ws.length ≤ sizeLine → DDs K G ws l → Q v (upd H a (.lst ws))) → r (.ref a) xs H Q
/-- x.m(..), x the own list of slot i -/
def eOM (i : Nat) (g : List D → List D → Option (D × List D)) (fs : AF) : EF := fun E => (ofO (ownL E i)).bind fun _ => (fs E).bind fun p => (ofO (dats p.1)).bind fun es => (ofO (ownL p.2 i)).bind fun ds => (ofO (g ds es)).bind fun r => .ok (.dat r.1, p.2.set i (.own (.lst r.2)))
theorem tBM_own {i : Nat} {r : V → List V → Hp → VK → Prop} {g : List D → List D → Option (D × List D)} {fs : AF} (hg : OwnM X.K r g) : ∀ σ H Q, tE X.K Wi (eOM i g fs) σ H Q → tBM X.K "list" r (tVar i) (tA X.K Wi fs) σ H Q := by
  intro σ H Q q
  obtain ⟨F, G, E, as, st, p⟩ := q
  obtain ⟨d0, e0, p⟩ := Po.of p
  have e0 := ownL_ok e0
  obtain ⟨v, hv, a, xa, xv, xo⟩ := st.cell i _ e0
  subst xv
  obtain ⟨vs0, hl0, _⟩ := xo
  refine ⟨_, hv, .inl ⟨rfl, _, SqL.of hl0⟩, F, G, E, as, st, PoA.mono (fun vs H1 m => ?_) (PoA.bind p)⟩
  obtain ⟨ws, G1, E1, as1, s1, st1, wo1, p1⟩ := m
  obtain ⟨es, e1, p1⟩ := Po.of p1
  obtain ⟨ds, e2, p1⟩ := Po.of p1
  obtain ⟨⟨d, l⟩, e3, p1⟩ := Po.of p1
  have e2 := ownL_ok e2
  obtain ⟨a', ea, ma, xo⟩ := st1.ownA e2 hv
  cases ea
  obtain ⟨vs1, hl1, z1, dd1⟩ := xo
  refine hg G1 H1 a vs1 vs ds es l d Q st1.s1 hl1 (st1.off i a ma).1 z1 dd1 (dats_ok wo1 e1) e3 fun v ws dv hz dw => ?_
  exact p1 v G1 _ as1 (Same.refl _) (st1.write e2 ma ⟨ws, upd_same, hz, dw⟩) dv
theorem de_om {name : Str} {id : String} {i : Nat} {r : V → List V → Hp → VK → Prop} {g : List D → List D → Option (D × List D)} {fs : AF} {es : List Expr} {apos cpos : Pos} (slot : Slot "list" name id) (hty : typeOf (.builtin id) = pure (.type "method_descriptor")) (hm : MtR X id r) (hg : OwnM X.K r g) (hv : PE X o (tVar i)) (ha : DA X Wi (e :: es) fs)
    (hbase : attributeBase o name X.env (eval o X.env) = eval o X.env := by rfl)
    (hfew : ((backTo cpos (starEach (e :: es) X.env)).all (fun x => !x.1) && (backToKw cpos (keywordEach [] X.env)).all (fun x => x.1.isSome)
      && decide ((e :: es).length + ([] : List Keyword).length + (if ([] : List Keyword).isEmpty then 0 else 1) < 30)) = true := by rfl)
    (hline : (apos.endLine == cpos.line) = true := by rfl) (hs : starEach (e :: es) X.env = (false, eval e X.env) :: starEach es X.env := by rfl) (hpl : (backTo cpos (starEach es X.env)).any (·.1) = false := by rfl) :
    DE X Wi (.Call (.Attribute o name apos) (e :: es) [] cpos) (eOM i g fs) :=
  PE.imp (pe_bm PySem.F.plainAttrs_list slot hty hm hv ha hbase hfew hline hs hpl) (tBM_own hg)
theorem de_om0 {name : Str} {id : String} {i : Nat} {r : V → List V → Hp → VK → Prop} {g : List D → List D → Option (D × List D)} {apos cpos : Pos} (slot : Slot "list" name id) (hty : typeOf (.builtin id) = pure (.type "method_descriptor")) (hm : MtR X id r) (hg : OwnM X.K r g) (hv : PE X o (tVar i))
    (hbase : attributeBase o name X.env (eval o X.env) = eval o X.env := by rfl) (hline : (apos.endLine == cpos.line) = true := by rfl) :
    DE X Wi (.Call (.Attribute o name apos) [] [] cpos) (eOM i g aN) :=
  PE.imp (pe_bm0 PySem.F.plainAttrs_list slot hty hm hv hbase hline) fun σ H Q q => by
    obtain ⟨v, hv, ty, F, G, E, as, st, p⟩ := tBM_own hg σ H Q q
    exact ⟨v, hv, ty, p [] G H as (Same.refl _) st trivial⟩
def gApp (ds es : List D) : Option (D × List D) := match es with
  | [y] => if ds.length < 16777216 then some (.non, ds ++ [y]) else none
  | _ => none
theorem own_app {K : PySem.W.Frag} : OwnM K rAppend gApp := by
  intro G H a vs xs ds es l d Q s hl ga z dd de e k
  match es, e with
  | [y], e =>
    have e : (if ds.length < 16777216 then some (D.non, ds ++ [y]) else none) = some (d, l) := e
    by_cases h : ds.length < 16777216
    · rw [if_pos h] at e; cases e
      cases de with
      | cons a1 b1 =>
        cases b1
        have hv : vs.length < sizeLine := by rw [dd.len, sizeLine_eq]; exact h
        refine ⟨a, vs, _, rfl, rfl, hl, hv, k _ _ .non ?_ (dd.app (.one a1))⟩
        rw [List.length_append, List.length_singleton]; omega
    · rw [if_neg h] at e; cases e
def gPop (ds es : List D) : Option (D × List D) := match es with
  | [] => (ds[ds.length - 1]?).map fun d => (d, ds.dropLast)
  | [.int i] => if -(2 ^ 63) ≤ i ∧ i < 2 ^ 63 then (seqIndex? i ds.length).bind fun k => (ds[k]?).map fun d => (d, ds.eraseIdx k) else none
  | _ => none
theorem own_pop0 {K : PySem.W.Frag} : OwnM K rPop (fun ds es => if es.length = 0 then gPop ds es else none) := by
  intro G H a vs xs ds es l d Q s hl ga z dd de e k
  match es, e with
  | [], e =>
    have e : (ds[ds.length - 1]?).map (fun d => (d, ds.dropLast)) = some (d, l) := e
    cases q : ds[ds.length - 1]? with
    | none => rw [q] at e; cases e
    | some d' =>
      rw [q] at e; cases e
      cases de
      obtain ⟨v, e1, dv⟩ := dd.get q
      exact ⟨a, vs, v, rfl, rfl, hl, by rw [dd.len]; exact e1, k v _ dv (by rw [List.length_dropLast]; omega) dd.dropLast⟩
theorem own_popAt {K : PySem.W.Frag} : OwnM K rPopAt (fun ds es => if es.length = 1 then gPop ds es else none) := by
  intro G H a vs xs ds es l d Q s hl ga z dd de e k
  match es, e with
  | [y], e =>
    have e : gPop ds [y] = some (d, l) := e
    cases y with
    | int i =>
      have e : (if -(2 ^ 63) ≤ i ∧ i < 2 ^ 63 then (seqIndex? i ds.length).bind fun k => (ds[k]?).map fun d => (d, ds.eraseIdx k) else none) = some (d, l) := e
      by_cases h : -(2 ^ 63) ≤ i ∧ i < 2 ^ 63
      · rw [if_pos h] at e
        cases q : seqIndex? i ds.length with
        | none => rw [q] at e; cases e
        | some j =>
          rw [q] at e
          have e : (ds[j]?).map (fun d => (d, ds.eraseIdx j)) = some (d, l) := e
          cases q2 : ds[j]? with
          | none => rw [q2] at e; cases e
          | some d' =>
            rw [q2] at e; cases e
            cases de with
            | cons a1 b1 =>
              cases b1
              cases a1
              obtain ⟨v, e1, dv⟩ := dd.get q2
              refine ⟨a, vs, i, j, v, rfl, rfl, hl, h.1, h.2, by rw [dd.len]; exact q, e1, k v _ dv ?_ (dd.erase j)⟩
              exact Nat.le_trans (List.length_eraseIdx_le ..) z
      · rw [if_neg h] at e; cases e
    | _ => cases e
end
end DL
namespace DL
open PySem PySem.Spec PyProof.Rows L2 TL

/-! ### several values at once, new objects among them -/
inductive EN where
  | e (f : EF) | n (f : NF)
def evN : List EN → Env → Res (List (Bool × D) × Env)
  | [], E => .ok ([], E)
  | .e f :: r, E => (f E).bind fun p => (ofO (asDat p.1)).bind fun d => (evN r p.2).bind fun q => .ok ((false, d) :: q.1, q.2)
  | .n f :: r, E => (f E).bind fun p => (evN r p.2).bind fun q => .ok ((true, p.1) :: q.1, q.2)
inductive NWs (K : PySem.W.Frag) (F : Fr) (G H : Hp) (as : Nat → List Addr) : List V → List (Bool × D) → List Addr → Prop
  | nil : NWs K F G H as [] [] []
  | da {v : V} {d : D} {vs : List V} {ds : List (Bool × D)} {ps : List Addr} : DD K G v d → NWs K F G H as vs ds ps → NWs K F G H as (v :: vs) ((false, d) :: ds) ps
  | nw {p : Addr} {d : D} {vs : List V} {ds : List (Bool × D)} {ps : List Addr} : G p = none → F.H0 p = none → (∀ j, p ∉ as j) → OwnAt K G H p d → p ∉ ps → NWs K F G H as vs ds ps → NWs K F G H as (.ref p :: vs) ((true, d) :: ds) (p :: ps)
def PoW (K : PySem.W.Frag) (Wi : Wish) (F : Fr) (G : Hp) (σ : L2.St) (Q : List V → Hp → Prop) : Res (List (Bool × D) × Env) → Prop
  | .ok (ds, E') => ∀ vs ps G' H' as', Same G G' → StE K F G' H' σ E' as' → NWs K F G' H' as' vs ds ps → Q vs H'
  | .err x E' => ∀ c dx G' H' as', Same G G' → StE K F G' H' σ E' as' → ExOk K G' x c dx → Wi σ c dx H'
  | .stuck => False
def tW (K : PySem.W.Frag) (Wi : Wish) (l : List EN) : TA := fun σ H Q => ∃ F G E as, StE K F G H σ E as ∧ PoW K Wi F G σ Q (evN l E)
abbrev DWs (X : Cx) (Wi : Wish) (es : List Expr) (l : List EN) : Prop := PA X es (tW X.K Wi l)
section
variable {K : PySem.W.Frag} {Wi : Wish} {F : Fr} {G G1 H : Hp} {σ : L2.St} {E : Env} {as : Nat → List Addr} {Q : List V → Hp → Prop}
theorem NWs.len : ∀ {vs : List V} {ds : List (Bool × D)} {ps : List Addr}, NWs K F G H as vs ds ps → vs.length = ds.length
  | _, _, _, .nil => rfl
  | _, _, _, .da _ r => congrArg Nat.succ (NWs.len r)
  | _, _, _, .nw _ _ _ _ _ r => congrArg Nat.succ (NWs.len r)
theorem NWs.notIn {p : Addr} (h : F.H0 p ≠ none) : ∀ {vs : List V} {ds : List (Bool × D)} {ps : List Addr}, NWs K F G H as vs ds ps → p ∉ ps
  | _, _, _, .nil => fun z => by cases z
  | _, _, _, .da _ r => NWs.notIn h r
  | _, _, _, .nw _ f _ _ _ r => fun z => by
    rcases List.mem_cons.mp z with z | z
    · rw [z] at h; exact h f
    · exact NWs.notIn h r z
theorem NWs.frame {F' : Fr} (h : ∀ p, F.H0 p = none → F'.H0 p = none) : ∀ {vs : List V} {ds : List (Bool × D)} {ps : List Addr}, NWs K F G H as vs ds ps → NWs K F' G H as vs ds ps
  | _, _, _, .nil => .nil
  | _, _, _, .da a r => .da a (NWs.frame h r)
  | _, _, _, .nw a f b c d r => .nw a (h _ f) b c d (NWs.frame h r)
theorem NWs.moved {as' : Nat → List Addr} : ∀ {vs : List V} {ds : List (Bool × D)} {ps : List Addr}, (∀ p ∈ ps, (∀ j, p ∉ as j) → ∀ j, p ∉ as' j) → NWs K F G H as vs ds ps → NWs K F G H as' vs ds ps
  | _, _, _, _, .nil => .nil
  | _, _, _, h, .da a r => .da a (NWs.moved h r)
  | _, _, _, h, .nw a f b c d r => .nw a f (h _ List.mem_cons_self b) c d (NWs.moved (fun p hp => h p (List.mem_cons_of_mem _ hp)) r)
theorem PoW.up {r : Res (List (Bool × D) × Env)} (e : Same G G1) (h : PoW K Wi F G σ Q r) : PoW K Wi F G1 σ Q r := by
  match r, h with
  | .ok (w, E'), h => exact fun v ps G' H' as' s => h v ps G' H' as' (e.trans s)
  | .err x E', h => exact fun c dx G' H' as' s => h c dx G' H' as' (e.trans s)
theorem Po.bindW {r : Res (W × Env)} {g : W × Env → Res (List (Bool × D) × Env)} (h : PoW K Wi F G σ Q (r.bind g)) :
    Po K Wi F G σ (Mid K F G σ fun _ w G1 _ E1 _ => PoW K Wi F G1 σ Q (g (w, E1))) r := by
  match r, h with
  | .ok (w, E'), h => exact fun v G' H' as' s st wo => ⟨w, G', E', as', s, st, wo, PoW.up s h⟩
  | .err x E', h => exact h
theorem PoW.of {α : Type} {o : Option α} {g : α → Res (List (Bool × D) × Env)} (h : PoW K Wi F G σ Q ((ofO o).bind g)) : ∃ d, o = some d ∧ PoW K Wi F G σ Q (g d) := by
  cases o with
  | none => exact h.elim
  | some d => exact ⟨d, rfl, h⟩
end
section
variable {X : Cx} {Wi : Wish} {a : Expr} {es : List Expr} {f : EF} {fn : NF} {l : List EN}
theorem dws_nil : DWs X Wi [] [] := PA.imp pa_nil fun σ H Q q => by
  obtain ⟨F, G, E, as, st, p⟩ := q
  exact p [] [] G H as (Same.refl _) st .nil
theorem dws_e (ha : DE X Wi a f) (hr : DWs X Wi es l) (hs : starEach (a :: es) X.env = (false, eval a X.env) :: starEach es X.env := by rfl) : DWs X Wi (a :: es) (.e f :: l) :=
  PA.imp (pa_cons ha hr hs) fun σ H Q q => by
    obtain ⟨F, G, E, as, st, p⟩ := q
    refine ⟨F, G, E, as, st, Po.mono (fun x H1 m => ?_) (Po.bindW p)⟩
    obtain ⟨w1, G1, E1, as1, s1, st1, wo1, p1⟩ := m
    obtain ⟨d, e1, p1⟩ := PoW.of p1
    cases w1 with
    | own _ => cases e1
    | dat d' =>
      cases e1
      have dd : DD X.K G1 x d := wo1
      refine ⟨F, G1, E1, as1, st1, ?_⟩
      have p1 : PoW X.K Wi F G1 σ Q ((evN l E1).bind fun q => .ok ((false, d) :: q.1, q.2)) := p1
      generalize evN l E1 = r at p1 ⊢
      match r, p1 with
      | .ok (ds, E2), p1 => exact fun vs ps G2 H2 as2 s2 st2 nw => p1 (x :: vs) ps G2 H2 as2 s2 st2 (.da (dd.up s2) nw)
      | .err y E2, p1 => exact p1
theorem PoN.match {K : PySem.W.Frag} {F : Fr} {G : Hp} {σ : L2.St} {Q : List V → Hp → Prop} {r : Res (D × Env)} {g : D × Env → Res (List (Bool × D) × Env)} (h : PoW K Wi F G σ Q (r.bind g)) :
    PoN K Wi F G σ (fun v H1 => ∃ p d G1 E1 as1, v = .ref p ∧ Same G G1 ∧ StE K F G1 H1 σ E1 as1 ∧ G1 p = none ∧ F.H0 p = none ∧ (∀ j, p ∉ as1 j) ∧ OwnAt K G1 H1 p d ∧ PoW K Wi F G1 σ Q (g (d, E1))) r := by
  match r, h with
  | .ok (w, E'), h => exact fun p G' H' as' s st gp fp np o => ⟨p, w, G', E', as', rfl, s, st, gp, fp, np, o, PoW.up s h⟩
  | .err x E', h => exact h
theorem PoN.mono {K : PySem.W.Frag} {F : Fr} {G : Hp} {σ : L2.St} {Q Q' : VK} (i : ∀ v H, Q v H → Q' v H) : ∀ {r : Res (D × Env)}, PoN K Wi F G σ Q r → PoN K Wi F G σ Q' r
  | .ok (_, _), h => fun p G' H' as' s st gp fp np o => i _ _ (h p G' H' as' s st gp fp np o)
  | .err _ _, h => h
/-- a new object of the outer frame stays through what an inner frame does -/
theorem StE.stays {K : PySem.W.Frag} {G H G2 H2 : Hp} {as as2 : Nat → List Addr} {σ2 : L2.St} {E2 : Env} {n : Nat} {p : Addr} {d : D} (gp : G p = none) (np : ∀ j, p ∉ as j) (o : OwnAt K G H p d) (s2 : Same G G2) (st2 : StE K (inner G H as n) G2 H2 σ2 E2 as2) :
    G2 p = none ∧ (∀ j, p ∉ as2 j) ∧ OwnAt K G2 H2 p d := by
  obtain ⟨u, hu, ht⟩ := o.hasM
  have no : p ∉ own as n := fun z => by obtain ⟨j, hj⟩ := of_own z; exact np j hj
  refine ⟨?_, fun j hj => ?_, o.up s2 fun v q => st2.keep p v q no⟩
  · cases q : G2 p with
    | none => rfl
    | some z => exact absurd gp (st2.priv p u (by rw [q]; exact fun z => nomatch z) hu ht no)
  · rcases (st2.off j p hj).2 with z | z
    · have z : H p = none := z
      rw [hu] at z; cases z
    · exact no z
theorem dws_n (ha : DN X Wi a fn) (hr : DWs X Wi es l) (hs : starEach (a :: es) X.env = (false, eval a X.env) :: starEach es X.env := by rfl) : DWs X Wi (a :: es) (.n fn :: l) :=
  PA.imp (pa_cons ha hr hs) fun σ H Q q => by
    obtain ⟨F, G, E, as, st, p⟩ := q
    refine ⟨F, G, E, as, st, PoN.mono (fun x H1 m => ?_) (PoN.match p)⟩
    obtain ⟨p, d, G1, E1, as1, rfl, s1, st1, gp, fp, np, o, p1⟩ := m
    refine ⟨inner G1 H1 as1 E1.length, G1, E1, as1, st1.in_, ?_⟩
    have p1 : PoW X.K Wi F G1 σ Q ((evN l E1).bind fun q => .ok ((true, d) :: q.1, q.2)) := p1
    generalize evN l E1 = r at p1 ⊢
    match r, p1 with
    | .ok (ds, E2), p1 =>
      intro vs ps G2 H2 as2 s2 st2 nw
      obtain ⟨u, hu⟩ := o.hasO
      obtain ⟨g2, n2, o2⟩ := StE.stays gp np o s2 st2
      refine p1 (.ref p :: vs) (p :: ps) G2 H2 as2 s2 (st1.out st2) (.nw g2 fp n2 o2 (nw.notIn (by show H1 p ≠ none; rw [hu]; exact fun z => nomatch z)) (nw.frame fun b hb => st1.dom b hb))
    | .err y E2, p1 => exact fun c dx G2 H2 as2 s2 st2 xo => p1 c dx G2 H2 as2 s2 (st1.out st2) xo
end
def setL : List Nat → L2.St → List V → L2.St
  | i :: is, σ, v :: vs => setL is (σ.set i (some v)) vs
  | _, σ, _ => σ
def setE : List Nat → Env → List (Bool × D) → Env
  | i :: is, E, (true, d) :: ds => setE is (E.set i (.own d)) ds
  | i :: is, E, (false, d) :: ds => setE is (E.set i (.dat d)) ds
  | _, E, _ => E
theorem StE.setW {K : PySem.W.Frag} {F : Fr} {G H : Hp} : ∀ {is : List Nat} {vs : List V} {ds : List (Bool × D)} {ps : List Addr} {σ : L2.St} {E : Env} {as : Nat → List Addr}, StE K F G H σ E as → NWs K F G H as vs ds ps → vs.length = is.length → (∀ i ∈ is, i < E.length) →
    ∃ as', StE K F G H (setL is σ vs) (setE is E ds) as'
  | [], _, _, _, _, _, as, st, .nil, _, _ => ⟨as, st⟩
  | i :: is, _, _, _, σ, E, as, st, .da (v := v) (d := d) (ps := ps) a r, hl, hi => by
    refine StE.setW (is := is) (st.setD a) (NWs.moved (fun p hp h j => ?_) r) (Nat.succ.inj hl) fun j hj => by rw [List.length_set]; exact hi j (List.mem_cons_of_mem _ hj)
    by_cases e : j = i
    · rw [e, drp_same]; exact fun z => by cases z
    · rw [drp_ne e]; exact h j
  | i :: is, _, _, _, σ, E, as, st, .nw (p := p) (d := d) (ps := ps) g f n o q r, hl, hi => by
    have st2 := st.setC (i := i) (x := some (.ref p)) (c := .own d) (l := [p]) ⟨p, rfl, rfl, o⟩ (fun b hb => by
      rw [List.mem_singleton.mp hb]
      exact ⟨fun j _ => n j, g, .inl f⟩) (.inl (hi i List.mem_cons_self))
    refine StE.setW (is := is) st2 (NWs.moved (fun b hb h j => ?_) r) (Nat.succ.inj hl) fun j hj => by rw [List.length_set]; exact hi j (List.mem_cons_of_mem _ hj)
    by_cases e : j = i
    · rw [e, drp_same]
      intro z
      rw [List.mem_singleton.mp z] at hb
      exact q hb
    · rw [drp_ne e]; exact h j
def sPar (is : List Nat) (l : List EN) : SF := fun E => (evN l E).bind fun p => if p.1.length = is.length ∧ (is.all fun i => decide (i < p.2.length)) = true then .ok (.nx, setE is p.2 p.1) else .stuck
section
variable {X : Cx} {Wi : Wish} {e a b c : Expr} {es : List Expr} {f : EF} {l : List EN} {pos : Pos}
theorem sPar_of {is : List Nat} {D0 : Ends} {σ : L2.St} {H : Hp} (q : tS X.K Wi (sPar is l) D0 σ H) : tW X.K Wi l σ H fun vs H1 => vs.length = is.length ∧ ∀ H2, Same H1 H2 → D0.nx (setL is σ vs) H2 := by
  obtain ⟨F, G, E, as, st, p⟩ := q
  refine ⟨F, G, E, as, st, ?_⟩
  have p : PoS X.K Wi F G D0 ((evN l E).bind fun p => if p.1.length = is.length ∧ (is.all fun i => decide (i < p.2.length)) = true then .ok (.nx, setE is p.2 p.1) else .stuck) := p
  generalize evN l E = r at p ⊢
  match r, p with
  | .ok (ds, E2), p =>
    intro vs ps G2 H2 as2 s2 st2 nw
    have p : PoS X.K Wi F G D0 (if ds.length = is.length ∧ (is.all fun i => decide (i < E2.length)) = true then .ok (.nx, setE is E2 ds) else .stuck) := p
    by_cases hl : ds.length = is.length ∧ (is.all fun i => decide (i < E2.length)) = true
    · rw [if_pos hl] at p
      have hv := nw.len.trans hl.1
      obtain ⟨as', st'⟩ := StE.setW st2 nw hv fun i hi => of_decide_eq_true (List.all_eq_true.mp hl.2 i hi)
      exact ⟨hv, fun H3 s3 => p _ G2 H3 as' s2 (st'.al (Al.grow st'.s1 s3))⟩
    · rw [if_neg hl] at p; exact p.elim
  | .err y E2, p => exact fun c dx G2 H2 as2 s2 st2 xo => p c dx σ G2 H2 as2 s2 st2 xo
theorem ds_par2 {i j : Nat} {x y : Str} {px py pt : Pos} {kt k2 pt2} (hc : X.calm = true) (hN : X.N.Nodup) (hi : X.N[i]? = some x) (hj : X.N[j]? = some y) (hij : i ≠ j) (hx : X.env.scope.names.lookup x = some .local) (hy : X.env.scope.names.lookup y = some .local) (ha : DWs X Wi [a, b] l)
    (hw : swappedStores [.Tuple [.Name x px, .Name y py] kt pt] (.Tuple [a, b] k2 pt2) X.env = pure (some [x, y]))
    (hs : swapsWithSole [.Tuple [.Name x px, .Name y py] kt pt] (.Tuple [a, b] k2 pt2) pos.line X.env = pure false := by rfl) :
    DS X Wi (.Assign [.Tuple [.Name x px, .Name y py] kt pt] (.Tuple [a, b] k2 pt2) pos) (sPar [i, j] l) := PS.imp (ps_par hc hN hi hj hij hx hy ha hw hs) fun D0 σ H q => by
  obtain ⟨F, G, E, as, st, p⟩ := sPar_of q
  refine ⟨F, G, E, as, st, ?_⟩
  revert p
  generalize evN l E = r
  intro p
  match r, p with
  | .ok (ds, E2), p =>
    intro vs ps G2 H2 as2 s2 st2 nw
    obtain ⟨hl, k⟩ := p vs ps G2 H2 as2 s2 st2 nw
    match vs, hl with
    | [u, v], _ => exact ⟨u, v, rfl, k H2 (Same.refl _)⟩
  | .err y E2, p => exact p
theorem ds_par3 {i j k : Nat} {x y z : Str} {px py pz pt : Pos} {kt k2 pt2} (hc : X.calm = true) (hN : X.N.Nodup) (hi : X.N[i]? = some x) (hj : X.N[j]? = some y) (hk : X.N[k]? = some z) (hij : i ≠ j) (hik : i ≠ k) (hjk : j ≠ k)
    (hx : X.env.scope.names.lookup x = some .local) (hy : X.env.scope.names.lookup y = some .local) (hz : X.env.scope.names.lookup z = some .local) (ha : DWs X Wi [a, b, c] l)
    (hw : swappedStores [.Tuple [.Name x px, .Name y py, .Name z pz] kt pt] (.Tuple [a, b, c] k2 pt2) X.env = pure (some [x, y, z]))
    (hs : swapsWithSole [.Tuple [.Name x px, .Name y py, .Name z pz] kt pt] (.Tuple [a, b, c] k2 pt2) pos.line X.env = pure false := by rfl) :
    DS X Wi (.Assign [.Tuple [.Name x px, .Name y py, .Name z pz] kt pt] (.Tuple [a, b, c] k2 pt2) pos) (sPar [i, j, k] l) := PS.imp (ps_par3 hc hN hi hj hk hij hik hjk hx hy hz ha hw hs) fun D0 σ H q => by
  obtain ⟨F, G, E, as, st, p⟩ := sPar_of q
  refine ⟨F, G, E, as, st, ?_⟩
  revert p
  generalize evN l E = r
  intro p
  match r, p with
  | .ok (ds, E2), p =>
    intro vs ps G2 H2 as2 s2 st2 nw
    obtain ⟨hl, k⟩ := p vs ps G2 H2 as2 s2 st2 nw
    match vs, hl with
    | [u, v, w], _ => exact ⟨u, v, w, rfl, k H2 (Same.refl _)⟩
  | .err y E2, p => exact p
/-- the stores of names, from the left -/
def tSets (is : List Nat) : TGs := fun vs σ H Q => vs.length = is.length ∧ Q (setL is σ vs) H
theorem pns_nil : PGs X [] (tSets []) := PGs.imp pgs_nil fun vs σ H Q q => by
  obtain ⟨hl, k⟩ := q
  match vs, hl with
  | [], _ => exact ⟨rfl, k⟩
theorem pns_cons {i : Nat} {is : List Nat} {x : Str} (hN : X.N.Nodup) (hi : X.N[i]? = some x) (hx : Loc X.env.scope x) (h2 : PGs X es (tSets is)) (hf : X.fn x = true ∨ X.env.scope.names.lookup x = some .local := by first | exact .inl rfl | exact .inr rfl | assumption)
    (hs : (assignEach (.Name x pos :: es) X.env).map (·.2) = assign (.Name x pos) X.env :: (assignEach es X.env).map (·.2) := by rfl) : PGs X (.Name x pos :: es) (tSets (i :: is)) :=
  PGs.imp (pgs_cons (pg_name hN hi hx hf) h2 hs) fun vs σ H Q q => by
    obtain ⟨hl, k⟩ := q
    match vs, hl with
    | v :: vs, hl => exact ⟨v, vs, rfl, Nat.succ.inj hl, k⟩
theorem ds_parT {is : List Nat} {tgs es : List Expr} {pt pt2 : Pos} {kt k2} (hc : X.calm = true) (ht : PGs X tgs (tSets is)) (ha : DWs X Wi es l) (hn : (assignEach tgs X.env).length = is.length := by rfl) (hst : (assignEach tgs X.env).findIdx? (·.1) = none := by rfl)
    (hs : swapsWithSole [.Tuple tgs kt pt] (.Tuple es k2 pt2) pos.line X.env = pure false := by rfl) (hw : swappedStores [.Tuple tgs kt pt] (.Tuple es k2 pt2) X.env = pure none := by rfl)
    (h1 : (assignEach [.Tuple tgs kt pt] X.env).map (·.2) = [assign (.Tuple tgs kt pt) X.env] := by rfl) (h9 : is.length ≤ 9 := by decide) :
    DS X Wi (.Assign [.Tuple tgs kt pt] (.Tuple es k2 pt2) pos) (sPar is l) := PS.imp (ps_asg (pe_tup ha) (pg_tup hc ht hn hst) hs hw h1) fun D0 σ H q => by
  obtain ⟨F, G, E, as, st, p⟩ := sPar_of q
  refine ⟨F, G, E, as, st, ?_⟩
  revert p
  generalize evN l E = r
  intro p
  match r, p with
  | .ok (ds, E2), p =>
    intro vs ps G2 H2 as2 s2 st2 nw
    obtain ⟨hl, k⟩ := p vs ps G2 H2 as2 s2 st2 nw
    refine ⟨by rw [hl, sizeLine_eq]; omega, fun q hq => ⟨q, vs, rfl, SqT.of upd_same, hl, hl, k _ fun b u z => ?_⟩⟩
    rw [upd_ne (ne_of_none z hq)]; exact z
  | .err y E2, p => exact p
/-- a, b = e, e data -/
def sAsg (g : GF) (f : EF) : SF := fun E => (f E).bind fun p => (ofO (asDat p.1)).bind fun d => (ofO (g d p.2)).bind fun E1 => .ok (.nx, E1)
theorem ds_asg {tg : Expr} {ts : List Nat} {g : GF} (he : DE X Wi e f) (hg : DG X tg ts g) (hs : swapsWithSole [tg] e pos.line X.env = pure false := by rfl) (hw : swappedStores [tg] e X.env = pure none := by rfl) (h1 : (assignEach [tg] X.env).map (·.2) = [assign tg X.env] := by rfl) :
    DS X Wi (.Assign [tg] e pos) (sAsg g f) := PS.imp (ps_asg he hg hs hw h1) fun D0 σ H q => by
  obtain ⟨F, G, E, as, st, p⟩ := q
  refine ⟨F, G, E, as, st, Po.mono (fun x H1 m => ?_) (Po.bindS p)⟩
  obtain ⟨w1, G1, E1, as1, s1, st1, wo1, p1⟩ := m
  obtain ⟨d, e1, p1⟩ := PoS.of p1
  obtain ⟨E2, e2, p2⟩ := PoS.of p1
  clear p1
  cases w1 with
  | own _ => cases e1
  | dat d' =>
    cases e1
    have e2 : g d E1 = some E2 := e2
    have p2 : PoS X.K Wi F G1 D0 (.ok (.nx, E2)) := p2
    exact ⟨F, G1, E1, as1, d, st1, wo1, E2, e2, fun σ' as' st' _ _ => p2 σ' G1 H1 as' (Same.refl _) st'⟩
end

/-! ### d[k] = e, d the own dict of a slot -/
def putO (d k v : D) : Option D := match d with
  | .dic kd => (keyO k).bind fun j => if kd.length < 16777216 then some (.dic (putM kd j v)) else none
  | .dit kd => match k with
    | .tup ds => (keysO ds).bind fun j => if kd.length < 16777216 then some (.dit (putM kd j v)) else none
    | _ => none
  | _ => none
def ownO (E : Env) (i : Nat) : Option D := match E[i]? with
  | some (.own d) => some d
  | _ => none
theorem ownO_ok {E : Env} {i : Nat} {d : D} (h : ownO E i = some d) : E[i]? = some (.own d) := by
  unfold ownO at h
  split at h
  · rename_i l e; cases h; exact e
  · cases h
def sPut (i : Nat) (fk fv : EF) : SF := fun E => (fv E).bind fun p => (ofO (asDat p.1)).bind fun v => (ofO (ownO p.2 i)).bind fun _ => (fk p.2).bind fun q => (rd q.2 q.1).bind fun k => (ofO (ownO q.2 i)).bind fun d => (ofO (putO d k v)).bind fun d' => .ok (.nx, q.2.set i (.own d'))
theorem ds_put {X : Cx} {Wi : Wish} {o ie value : Expr} {i : Nat} {fk fv : EF} {pos pos' : Pos} (hu : X.A.units + 1 < cLine) (ho : PE X o (tVar i)) (hi : DE X Wi ie fk) (hv : DE X Wi value fv) (hs : swapsWith value (some (.Subscript o ie pos')) pos.line X.env = pure false := by rfl) :
    DS X Wi (.Assign [.Subscript o ie pos'] value pos) (sPut i fk fv) := PS.imp (ps_dput hu ho hi hv hs) fun D0 σ H q => by
  obtain ⟨F, G, E, as, st, p⟩ := q
  refine ⟨F, G, E, as, st, Po.mono (fun y H1 m => ?_) (Po.bindS p)⟩
  obtain ⟨w1, G1, E1, as1, s1, st1, wo1, p1⟩ := m
  obtain ⟨v, e1, p1⟩ := PoS.of p1
  obtain ⟨d0, e0, p1⟩ := PoS.of p1
  obtain ⟨x, hx, a, xa, xv, _⟩ := st1.cell i _ (ownO_ok e0)
  subst xv
  refine ⟨_, hx, F, G1, E1, as1, st1, Po.mono (fun kx H2 m => ?_) (Po.bindS p1)⟩
  obtain ⟨w2, G2, E2, as2, s2, st2, wo2, p2⟩ := m
  obtain ⟨k, e2, p2⟩ := PoS.rd p2
  obtain ⟨d, e3, p2⟩ := PoS.of p2
  obtain ⟨d', e4, p2⟩ := PoS.of p2
  have e3 := ownO_ok e3
  have kb := wo2.rd (Same.refl _) st2 e2
  cases w1 with
  | own _ => cases e1
  | dat vd =>
    cases e1
    have dv : DD X.K G2 y v := DD.up s2 wo1
    obtain ⟨a', ea, ma, xo⟩ := st2.ownA e3 hx
    cases ea
    unfold putO at e4
    cases d with
    | dic kd =>
      obtain ⟨kv, h1, r⟩ := xo
      have e4 : ((keyO k).bind fun j => if kd.length < 16777216 then some (D.dic (putM kd j v)) else none) = some d' := e4
      cases q : keyO k with
      | none => rw [q] at e4; cases e4
      | some j =>
        rw [q] at e4
        obtain ⟨hl, rfl⟩ := ifs_some (show (if kd.length < 16777216 then some (D.dic (putM kd j v)) else none) = some d' from e4)
        obtain ⟨rfl, hk⟩ := keyB_ok kb q
        have hlv : kv.length < sizeLine := by rw [r.len, sizeLine_eq]; exact hl
        exact ⟨a, _, rfl, .inl ⟨kv, j, h1, rfl, hlv, rfl⟩, p2 σ G2 _ as2 (Same.refl _) (st2.write e3 ma ⟨_, upd_same, DKs.put hk dv r⟩)⟩
    | dit kd =>
      obtain ⟨kv, h1, r⟩ := xo
      cases k with
      | tup ds =>
        have e4 : ((keysO ds).bind fun j => if kd.length < 16777216 then some (D.dit (putM kd j v)) else none) = some d' := e4
        cases q : keysO ds with
        | none => rw [q] at e4; cases e4
        | some j =>
          rw [q] at e4
          obtain ⟨hl, rfl⟩ := ifs_some (show (if kd.length < 16777216 then some (D.dit (putM kd j v)) else none) = some d' from e4)
          obtain ⟨b, vs, rfl, h2, z2, dd2, _⟩ := kb.tup st2.s1
          obtain ⟨e5, hk⟩ := keysO_ok dd2 q
          rw [e5] at h2
          have hks : KsOk j := ⟨by rw [e5, List.length_map] at z2; exact z2, hk⟩
          have hlv : kv.length < sizeLine := by rw [r.len, sizeLine_eq]; exact hl
          exact ⟨a, _, rfl, .inr ⟨kv, j, b, h1, rfl, h2, hlv, rfl⟩, p2 σ G2 _ as2 (Same.refl _) (st2.write e3 ma ⟨_, upd_same, DTs.put hks dv r⟩)⟩
      | _ => cases e4
    | _ => cases e4
section
variable {X : Cx} {Wi : Wish} {pos : Pos}
def nDK : NF := fun E => .ok (.dic [], E)
def nDT : NF := fun E => .ok (.dit [], E)
theorem dn_dk : DN X Wi (.Dict [] [] pos) nDK := PE.imp pe_dnewK fun σ H Q q => by
  obtain ⟨F, G, E, as, st, p⟩ := q
  exact fun p' hp => PoN.rz st p p' _ hp (fun b u z => by rw [upd_ne (ne_of_none z hp)]; exact z) ⟨_, upd_same, .nil⟩
theorem dn_dt : DN X Wi (.Dict [] [] pos) nDT := PE.imp pe_dnewT fun σ H Q q => by
  obtain ⟨F, G, E, as, st, p⟩ := q
  exact fun p' hp => PoN.rz st p p' _ hp (fun b u z => by rw [upd_ne (ne_of_none z hp)]; exact z) ⟨_, upd_same, .nil⟩
/-- [] -/
def nNil : NF := fun E => .ok (.lst [], E)
theorem dn_nil : DN X Wi (.List [] pos) nNil := PE.imp (pe_lst pa_nil) fun σ H Q q => by
  obtain ⟨F, G, E, as, st, p⟩ := q
  exact ⟨Nat.zero_le _, fun p' hp => PoN.rz st p p' _ hp (fun b u z => by rw [upd_ne (ne_of_none z hp)]; exact z) ⟨_, upd_same, Nat.zero_le _, .nil⟩⟩
end
end DL
namespace DL
open PySem PySem.Spec PyProof.Rows L2 TL

/-! ### {"a": e, ..} -/
def disL : List (Str × EF) → Env → Res (List (Key × D) × Env)
  | [], E => .ok ([], E)
  | (k, f) :: r, E => (f E).bind fun p => (ofO (asDat p.1)).bind fun d => (disL r p.2).bind fun q => .ok ((.inr k, d) :: q.1, q.2)
def PoD (K : PySem.W.Frag) (Wi : Wish) (F : Fr) (G : Hp) (σ : L2.St) (Q : List (Key × V) → Hp → Prop) : Res (List (Key × D) × Env) → Prop
  | .ok (ds, E') => ∀ kv G' H' as', Same G G' → StE K F G' H' σ E' as' → DKs K G' kv ds → Q kv H'
  | .err x E' => ∀ c dx G' H' as', Same G G' → StE K F G' H' σ E' as' → ExOk K G' x c dx → Wi σ c dx H'
  | .stuck => False
section
variable {K : PySem.W.Frag} {Wi : Wish} {F : Fr} {G G1 H : Hp} {σ : L2.St} {Q : List (Key × V) → Hp → Prop}
theorem PoD.up {r : Res (List (Key × D) × Env)} (e : Same G G1) (h : PoD K Wi F G σ Q r) : PoD K Wi F G1 σ Q r := by
  match r, h with
  | .ok (w, E'), h => exact fun v G' H' as' s => h v G' H' as' (e.trans s)
  | .err x E', h => exact fun c dx G' H' as' s => h c dx G' H' as' (e.trans s)
theorem Po.bindD {r : Res (W × Env)} {g : W × Env → Res (List (Key × D) × Env)} (h : PoD K Wi F G σ Q (r.bind g)) :
    Po K Wi F G σ (Mid K F G σ fun _ w G1 _ E1 _ => PoD K Wi F G1 σ Q (g (w, E1))) r := by
  match r, h with
  | .ok (w, E'), h => exact fun v G' H' as' s st wo => ⟨w, G', E', as', s, st, wo, PoD.up s h⟩
  | .err x E', h => exact h
theorem PoD.of {α : Type} {o : Option α} {g : α → Res (List (Key × D) × Env)} (h : PoD K Wi F G σ Q ((ofO o).bind g)) : ∃ d, o = some d ∧ PoD K Wi F G σ Q (g d) := by
  cases o with
  | none => exact h.elim
  | some d => exact ⟨d, rfl, h⟩
def disT (K : PySem.W.Frag) (Wi : Wish) (l : List (Str × EF)) : List (TE × TE) := l.map fun p => (tC (.str p.1), tE K Wi p.2)
theorem dis_ok : ∀ (l : List (Str × EF)) {Q : List (Key × V) → Hp → Prop} {G H : Hp} {E : Env} {as : Nat → List Addr}, (∀ p ∈ l, SOk p.1) → StE K F G H σ E as → PoD K Wi F G σ Q (disL l E) →
    tPairs (disT K Wi l) σ H fun ps H2 => ∃ kv, ps = kv.map (fun x => (kV x.1, x.2)) ∧ Q kv H2
  | [], Q, G, H, E, as, _, st, p => ⟨[], rfl, p [] G H as (Same.refl _) st .nil⟩
  | (k, f) :: r, Q, G, H, E, as, hk, st, p => by
    show tE K Wi f σ H fun y H2 => tPairs (disT K Wi r) σ H2 fun ps H3 => ∃ kv, (V.str k, y) :: ps = kv.map (fun x => (kV x.1, x.2)) ∧ Q kv H3
    refine ⟨F, G, E, as, st, Po.mono (fun y H1 m => ?_) (Po.bindD p)⟩
    obtain ⟨w1, G1, E1, as1, s1, st1, wo1, p1⟩ := m
    obtain ⟨d, e1, p2⟩ := PoD.of p1
    clear p1
    cases w1 with
    | own _ => cases e1
    | dat d' =>
      cases e1
      have dd : DD K G1 y d := wo1
      have p2 : PoD K Wi F G1 σ Q ((disL r E1).bind fun q => .ok ((.inr k, d) :: q.1, q.2)) := p2
      have hk1 : SOk k := hk (k, f) List.mem_cons_self
      have z := dis_ok r (Q := fun kv H2 => Q ((.inr k, y) :: kv) H2) (fun p hp => hk p (List.mem_cons_of_mem _ hp)) st1 (by
        generalize disL r E1 = rr at p2 ⊢
        match rr, p2 with
        | .ok (ds, E2), p2 => exact fun kv G2 H2 as2 s2 st2 dk => p2 ((.inr k, y) :: kv) G2 H2 as2 s2 st2 (.cons hk1 (dd.up s2) dk)
        | .err x E2, p2 => exact p2)
      have mono : ∀ (trs : List (TE × TE)), trs = disT K Wi r → ∀ H0 (Q1 Q2 : List (V × V) → Hp → Prop), tPairs trs σ H0 Q1 → tPairs trs σ H0 Q1 := fun _ _ _ _ _ h => h
      revert z
      have fix : ∀ (l : List (Str × EF)) (H0 : Hp) (Q1 Q2 : List (V × V) → Hp → Prop), (∀ ps H, Q1 ps H → Q2 ps H) → tPairs (disT K Wi l) σ H0 Q1 → tPairs (disT K Wi l) σ H0 Q2 := by
        intro l
        induction l with
        | nil => exact fun H0 Q1 Q2 i h => i _ _ h
        | cons q l ih =>
          intro H0 Q1 Q2 i h
          obtain ⟨F3, G3, E3, as3, st3, p3⟩ := h
          exact ⟨F3, G3, E3, as3, st3, Po.mono (fun v H2 m => ih H2 _ _ (fun ps H h => i _ _ h) m) p3⟩
      exact fun z => fix r H1 _ _ (fun ps H3 ⟨kv, e, q⟩ => ⟨(.inr k, y) :: kv, by rw [e]; rfl, q⟩) z
end
def mergeM (kd more : List (Key × D)) : List (Key × D) := more.foldl (fun acc kv => putM acc kv.1 kv.2) kd
theorem DKs.merge {K : PySem.W.Frag} {G : Hp} : ∀ {more : List (Key × V)} {md : List (Key × D)} {kv : List (Key × V)} {kd : List (Key × D)}, DKs K G more md → DKs K G kv kd → DKs K G (mergeK kv more) (mergeM kd md)
  | _, _, _, _, .nil, h => h
  | _, _, _, _, .cons c a b, h => by
    have z := DKs.merge b (h.put c a)
    exact z
def nDis (l : List (Str × EF)) : NF := fun E => (disL l E).bind fun p => if p.1.length ≤ 15 then .ok (.dic (mergeM [] p.1), p.2) else .stuck
/-- the pairs of a display of constant texts -/
structure DPs (X : Cx) (Wi : Wish) (pos : Pos) (keys : List (Option Expr)) (values : List Expr) (l : List (Str × EF)) : Prop where
  ps : PPs X pos keys values (disT X.K Wi l)
  ok : ∀ p ∈ l, SOk p.1
section
variable {X : Cx} {Wi : Wish} {pos : Pos} {keys : List (Option Expr)} {values : List Expr} {l : List (Str × EF)}
theorem dps_nil : DPs X Wi pos [] [] [] := ⟨pps_nil, fun _ h => (by cases h)⟩
theorem dps_cons {k : Str} {j} {p : Pos} {v : Expr} {f : EF} (hk : SOk k) (hv : DE X Wi v f) (hr : DPs X Wi pos keys values l) : DPs X Wi pos (some (.Constant (.str k) j p) :: keys) (v :: values) ((k, f) :: l) :=
  ⟨pps_cons pe_str hv hr.ps, fun p hp => by
    rcases List.mem_cons.mp hp with z | z
    · rw [z]; exact hk
    · exact hr.ok p z⟩
theorem dn_dis (h : DPs X Wi pos keys values l) (hall : keys.all (·.isSome) = true := by rfl) (hl : keys.length = values.length := by rfl) (h0 : keys ≠ [] := by intro z; cases z) (h15 : keys.length ≤ 15 := by decide) : DN X Wi (.Dict keys values pos) (nDis l) :=
  PE.imp (pe_disp h.ps hall hl h0 h15) fun σ H Q q => by
    obtain ⟨F, G, E, as, st, p⟩ := q
    intro a ha
    have ga : G a = none := st.s1.free ha
    have fa : F.H0 a = none := st.dom a ha
    have na : ∀ j, a ∉ as j := fun j hj => by obtain ⟨u, q⟩ := st.there hj; rw [ha] at q; cases q
    have st1 := st.al (Al.grow st.s1 (H' := upd H a (.dK [])) fun b u q => by rw [upd_ne (ne_of_none q ha)]; exact q)
    have o1 : OwnAt X.K G (upd H a (.dK [])) a (.dic []) := ⟨_, upd_same, .nil⟩
    have z := dis_ok (K := X.K) (Wi := Wi) (F := inner G (upd H a (.dK [])) as E.length) (σ := σ) l (Q := fun kv H2 => H2 a = some (.dK []) ∧ kv.length ≤ 15 ∧ Q (.ref a) (upd H2 a (.dK (mergeK [] kv)))) h.ok st1.in_ (by
      have p : PoN X.K Wi F G σ Q ((disL l E).bind fun p => if p.1.length ≤ 15 then .ok (.dic (mergeM [] p.1), p.2) else .stuck) := p
      generalize disL l E = rr at p ⊢
      match rr, p with
      | .ok (ds, E2), p =>
        intro kv G2 H2 as2 s2 st2 dk
        have p : PoN X.K Wi F G σ Q (if ds.length ≤ 15 then .ok (.dic (mergeM [] ds), E2) else .stuck) := p
        by_cases hds : ds.length ≤ 15
        · rw [if_pos hds] at p
          obtain ⟨g2, n2, kv0, h2, _⟩ := StE.stays ga na o1 s2 st2
          have keepA : H2 a = some (.dK []) := st2.keep a _ upd_same fun z => by obtain ⟨j, hj⟩ := of_own z; exact na j hj
          refine ⟨keepA, by rw [dk.len]; exact hds, ?_⟩
          exact p a G2 _ as2 s2 ((st1.out st2).wr g2 fa n2 (by rw [keepA]; exact fun z => nomatch z)) g2 fa n2 ⟨_, upd_same, DKs.merge dk .nil⟩
        · rw [if_neg hds] at p; exact p.elim
      | .err x E2, p => exact fun c dx G2 H2 as2 s2 st2 xo => p c dx G2 H2 as2 s2 (st1.out st2) xo)
    have fix : ∀ (l : List (Str × EF)) (H0 : Hp) (Q1 Q2 : List (V × V) → Hp → Prop), (∀ ps H, Q1 ps H → Q2 ps H) → tPairs (disT X.K Wi l) σ H0 Q1 → tPairs (disT X.K Wi l) σ H0 Q2 := by
      intro l
      induction l with
      | nil => exact fun H0 Q1 Q2 i h => i _ _ h
      | cons q l ih =>
        intro H0 Q1 Q2 i h
        obtain ⟨F3, G3, E3, as3, st3, p3⟩ := h
        exact ⟨F3, G3, E3, as3, st3, Po.mono (fun v H2 m => ih H2 _ _ (fun ps H h => i _ _ h) m) p3⟩
    exact fix l _ _ _ (fun ps H3 ⟨kv, e, h1, h2, h3⟩ => ⟨h1, kv, e, h2, h3⟩) z
end

/-! ### list of a dict, of a text -/
def gListK : List D → Option D
  | [.dic kd] => if kd.length ≤ 16777216 then some (.lst (kd.map fun x => kD x.1)) else none
  | _ => none
theorem dks_keys {K : PySem.W.Frag} {G : Hp} : ∀ {kv : List (Key × V)} {kd : List (Key × D)}, DKs K G kv kd → DDs K G (kv.map fun x => kV x.1) (kd.map fun x => kD x.1)
  | _, _, .nil => .nil
  | _, _, .cons c a b => .cons (kD_dd c) (dks_keys b)
theorem calln_listK {K : PySem.W.Frag} : CallN K rListD gListK := by
  intro G H xs ds d Q s h e z
  match ds, e with
  | [.dic kd], e =>
    obtain ⟨hl, rfl⟩ := ifs_some (show (if kd.length ≤ 16777216 then some (D.lst (kd.map fun x => kD x.1)) else none) = some d from e)
    obtain ⟨v, rfl, b⟩ := h.one
    obtain ⟨a, kv, rfl, h1, r⟩ := b.dic s
    refine ⟨a, kv, rfl, h1, fun q hq => z q _ hq (Al.one s hq).h ⟨_, upd_same, ?_, dks_keys r⟩⟩
    rw [List.length_map, r.len, sizeLine_eq]; exact hl
/-- list(d), d with tuples as keys -/
def nListT (fs : AF) : NF := fun E => (fs E).bind fun p => (rds p.2 p.1).bind fun ds => match ds with
  | [.dit kd] => if kd.length ≤ 16777216 then .ok (.lst (kd.map fun x => .tup (x.1.map kD)), p.2) else .stuck
  | _ => .stuck
theorem dts_keys {K : PySem.W.Frag} {G G' H : Hp} : ∀ {kv : List (List Key × V)} {kd : List (List Key × D)} {bs : List Addr}, (∀ b ∈ bs, G' b = H b) → DTs K G kv kd → Paired (fun (p : List Key × V) b => H b = some (.tup (p.1.map kV))) kv bs → DDs K G' (bs.map V.ref) (kd.map fun x => .tup (x.1.map kD))
  | _, _, _, _, .nil, .nil => .nil
  | _, _, _, hb, .cons c a b, .cons e r => .cons (.tup ((hb _ List.mem_cons_self).trans e) (by rw [List.length_map]; exact c.1) (keysD_dd c.2)) (dts_keys (fun x hx => hb x (List.mem_cons_of_mem _ hx)) b r)
theorem isKeys_tup {H : Hp} : ∀ {kv : List (List Key × V)} {bs : List Addr}, Paired (fun (p : List Key × V) b => H b = some (.tup (p.1.map kV))) kv bs → ∀ b ∈ bs, ∃ k : List Key, H b = some (.tup (k.map kV))
  | _, _, .nil, _, hb => by cases hb
  | _, _, .cons e r, b, hb => by
    rcases List.mem_cons.mp hb with z | z
    · rw [z]; exact ⟨_, e⟩
    · exact isKeys_tup r b z
theorem isKeys_len {H : Hp} : ∀ {kv : List (List Key × V)} {bs : List Addr}, Paired (fun (p : List Key × V) b => H b = some (.tup (p.1.map kV))) kv bs → bs.length = kv.length
  | _, _, .nil => rfl
  | _, _, .cons e r => congrArg Nat.succ (isKeys_len r)
theorem dn_listT {X : Cx} {Wi : Wish} {a : Expr} {fs : AF} {p pos : Pos} (hc : X.calm = true) (hg : Gl X "list") (hm : X.mg "list" = none) (ha : DA X Wi [a] fs) (he : starEach [a] X.env = (false, eval a X.env) :: starEach [] X.env := by rfl) (hpl : (backTo pos (starEach [] X.env)).any (·.1) = false := by rfl) :
    DN X Wi (.Call (.Name "list" p) [a] [] pos) (nListT fs) := PE.imp (pe_callTy (call_list_dT hc) hg hm PyProof.Rows.boot_list ha (by decide) (by decide) he hpl) fun σ H Q q => by
  obtain ⟨F, G, E, as, st, p⟩ := q
  refine ⟨F, G, E, as, st, PoA.mono (fun x H1 m => ?_) (PoA.bindN p)⟩
  obtain ⟨ws, G1, E1, as1, s1, st1, wo1, p1⟩ := m
  obtain ⟨ds, e1, p1⟩ := PoN.rds p1
  have bd := wo1.rds (Same.refl _) st1 e1
  match ds, p1 with
  | [.dit kd], p1 =>
    have p1 : PoN X.K Wi F G1 σ Q (if kd.length ≤ 16777216 then .ok (.lst (kd.map fun x => .tup (x.1.map kD)), E1) else .stuck) := p1
    by_cases hl : kd.length ≤ 16777216
    · rw [if_pos hl] at p1
      obtain ⟨v, rfl, b⟩ := bd.one
      obtain ⟨d, kv, rfl, h1, r⟩ := b.dit st1.s1
      refine ⟨d, kv, rfl, .inl h1, fun q bs hq kb => ?_⟩
      have al : Al G1 H1 (fun a => if a ∈ bs then H1 a else G1 a) (upd H1 q (.lst (bs.map V.ref))) := by
        refine ⟨fun b u e => ?_, fun b u e => by rw [upd_ne (ne_of_none e hq)]; exact e, fun b u e => ?_, fun b o hb e q' => ?_⟩
        · by_cases hb : b ∈ bs
          · show (if b ∈ bs then H1 b else G1 b) = some u
            rw [if_pos hb]; exact st1.s1 _ _ e
          · show (if b ∈ bs then H1 b else G1 b) = some u
            rw [if_neg hb]; exact e
        · have e : (if b ∈ bs then H1 b else G1 b) = some u := e
          have e2 : H1 b = some u := by
            by_cases hb : b ∈ bs
            · rw [if_pos hb] at e; exact e
            · rw [if_neg hb] at e; exact st1.s1 _ _ e
          rw [upd_ne (ne_of_none e2 hq)]; exact e2
        · by_cases hb2 : b ∈ bs
          · obtain ⟨k, hk⟩ := isKeys_tup kb b hb2
            rw [hk] at q'; cases q'; rfl
          · have hb : (if b ∈ bs then H1 b else G1 b) ≠ none := hb
            rw [if_neg hb2] at hb; exact absurd e hb
      refine p1 q _ _ as1 al.g (st1.al al) ?_ (st1.dom q hq) (fun j hj => ?_) ⟨_, upd_same, ?_, dts_keys (fun b hb => if_pos hb) r kb⟩
      · show (if q ∈ bs then H1 q else G1 q) = none
        split
        · exact hq
        · exact st1.s1.free hq
      · obtain ⟨u, z⟩ := st1.there hj
        rw [hq] at z; cases z
      · rw [List.length_map, isKeys_len kb, r.len, sizeLine_eq]; exact hl
    · rw [if_neg hl] at p1; exact p1.elim
def gListX : List D → Option D
  | [.str x] => some (.lst (signs x))
  | _ => none
def rListX : List V → Hp → VK → Prop := fun xs H Q => ∃ x : Str, xs = [.str x] ∧ SOk x ∧ ∀ l, H l = none → Q (.ref l) (upd H l (.lst ((tl x).map fun c => V.str (sgn c))))
theorem signs_dd {K : PySem.W.Frag} {G : Hp} {x : Str} (ok : SOk x) : DDs K G ((tl x).map fun c => V.str (sgn c)) (signs x) := by
  unfold signs
  have key : ∀ l : List Nat, (∀ c ∈ l, SOk (sgn c)) → DDs K G (l.map fun c => V.str (sgn c)) (l.map fun c => D.str (sgn c)) := by
    intro l
    induction l with
    | nil => exact fun _ => .nil
    | cons c l ih => exact fun h => .cons (.str _ (h c List.mem_cons_self)) (ih fun d hd => h d (List.mem_cons_of_mem _ hd))
  exact key _ fun c hc => sok_sgn ok hc
theorem calln_listX {K : PySem.W.Frag} : CallN K rListX gListX := by
  intro G H xs ds d Q s h e z
  match ds, e with
  | [.str x], e =>
    cases e
    obtain ⟨v, rfl, b⟩ := h.one
    obtain ⟨rfl, ok⟩ := b.str
    exact ⟨x, rfl, ok, fun q hq => z q _ hq (Al.one s hq).h ⟨_, upd_same, by rw [List.length_map]; exact ok.1, signs_dd ok⟩⟩
theorem signs_vals {x : Str} {acc : Array Value} (h : ItemsOf (SignAt x) acc x.cps.size) : Vals ((tl x).map fun c => V.str (sgn c)) acc.toList := by
  refine vals_of_at (by rw [List.length_map, Array.length_toList]; exact h.1.symm) fun j a u h1 h2 => ?_
  obtain ⟨c, t, hc, rfl⟩ := h.2 j u (by rw [← Array.getElem?_toList]; exact h2)
  have e : (tl x)[j]? = some c := by unfold tl; rw [Array.getElem?_toList]; exact hc
  rw [List.getElem?_map, e] at h1
  cases h1
  exact ⟨t, rfl⟩
theorem call_listX {X : Cx} (hc : X.calm = true) : CallR X (.type "list") rListX := by
  intro pins s σ H xs us Q I r h
  obtain ⟨x, rfl, ok, q⟩ := h
  obtain ⟨u, rfl, rx⟩ := vals1 r
  obtain ⟨t, rfl⟩ := rx
  refine call_list_str (I.ok.hd hc) x t (fun h' tk acc' c' kp e hacc => ?_) ok.1
  exact ⟨.ref _, _, I.laid (t' := tk) kp (Nat.le_refl _) (show ObjOk X.prog X.w _ h' _ (.lst ((tl x).map fun c => V.str (sgn c))) from ⟨by rw [List.length_map]; exact ok.1, acc'.toList, c', signs_vals hacc, by rw [Array.toArray_toList]; exact e⟩), rfl, q _ (I.hok.fresh (Nat.le_refl _))⟩

/-! ### *e in a display -/
def aSt (f : EF) (g : AF) : AF := fun E => (f E).bind fun p => (ofO (asDat p.1)).bind fun d => (ofO (sqD d)).bind fun ds => (g p.2).bind fun q => .ok (ds.map W.dat ++ q.1, q.2)
theorem WOks.app {K : PySem.W.Frag} {G : Hp} {E : Env} {σ : L2.St} : ∀ {vs us : List V} {ds : List D} {ws : List W}, DDs K G vs ds → WOks K G E σ us ws → WOks K G E σ (vs ++ us) (ds.map W.dat ++ ws)
  | _, _, _, _, .nil, h => h
  | _, _, _, _, .cons a b, h => ⟨a, WOks.app b h⟩
/-- a list, a tuple, a text -/
def tStarX (K : PySem.W.Frag) (te : TE) (t : TA) : TA := fun σ H Q => te σ H fun x H1 => (∃ p xs, x = V.ref p ∧ (SqT K H1 p xs ∨ SqL K H1 p xs) ∧ t σ H1 fun ys H2 => Q (xs ++ ys) H2) ∨
  ∃ z, x = .str z ∧ SOk z ∧ t σ H1 fun ys H2 => Q (((tl z).map fun c => V.str (sgn c)) ++ ys) H2
section
variable {X : Cx} {Wi : Wish} {e : Expr} {es : List Expr} {te : TE} {t : TA} {f : EF} {g : AF} {p : Pos}
theorem star_txt {pins : List (Addr × Obj)} {σ : L2.St} {H : Hp} {s : Shared} {x : Str} {tk : Tok} {E : Value → Shared → Prop} {Q : List Value → Shared → Prop} (hc : X.calm = true) (I : Inv X pins σ H s) (ok : SOk x) (hQ : ∀ us s', Inv X pins σ H s' → Vals ((tl x).map fun c => V.str (sgn c)) us → Q us s') : PySem.W.StarOf (model X.prog X.w) X.A E (.str x tk) Q s := by
  have z : wpAny (model X.prog X.w) X.A (collect (.str x tk)) Q E s := by
    refine wpAny_collect_str (I.ok.hd hc) x tk (fun s' acc kp h1 h2 h3 hacc => ?_) ok.1
    have I2 : Inv X pins σ H { s with heap := s'.heap, toks := s'.toks } := I.kept (t' := s'.toks) kp
    have e : s' = { s with heap := s'.heap, toks := s'.toks } := by
      obtain ⟨a, b, c, d, e⟩ := s'
      simp only at h1 h2 h3
      subst h1 h2 h3; rfl
    rw [e]
    exact hQ _ _ I2 (signs_vals hacc)
  unfold PySem.W.StarOf notIterableAtAll
  exact wpAny_bind (wpAny_specialOf (typeIs_str s x tk) PySem.F.slot_str_iter.lookup (wpAny_pure ⟨rfl, z⟩))
theorem pa_starX (hc : X.calm = true) (he : PE X e te) (hr : PA X es t) (hs : starEach (.Starred e p :: es) X.env = (true, eval e X.env) :: starEach es X.env := by rfl) : PA X (.Starred e p :: es) (tStarX X.K te t) := by
  refine ⟨fun pos pins s σ H Q I h => ?_⟩
  refine PySem.W.items_star (thn (he.run pins s σ H _ I h) fun v s1 ⟨y, H1, I1, ry, q⟩ => ?_) hs
  rcases q with ⟨a, xs, ey, hx, q⟩ | ⟨z, ey, ok, q⟩
  · subst ey
    cases ry
    exact StX.star_any I1 hx fun us s2 I2 rv => thn (hr.run pos pins s2 σ H1 _ I2 q) fun ws s3 ⟨vs, H3, I3, r3, q3⟩ => ⟨xs ++ vs, H3, I3, rv.append r3, q3⟩
  · subst ey
    obtain ⟨tk, rfl⟩ := ry
    exact star_txt hc I1 ok fun us s2 I2 rv => thn (hr.run pos pins s2 σ H1 _ I2 q) fun ws s3 ⟨vs, H3, I3, r3, q3⟩ => ⟨_ ++ vs, H3, I3, rv.append r3, q3⟩
theorem PoA.of {K : PySem.W.Frag} {F : Fr} {G : Hp} {σ : L2.St} {Q : List V → Hp → Prop} {α : Type} {o : Option α} {g : α → Res (List W × Env)} (h : PoA K Wi F G σ Q ((ofO o).bind g)) : ∃ d, o = some d ∧ PoA K Wi F G σ Q (g d) := by
  cases o with
  | none => exact h.elim
  | some d => exact ⟨d, rfl, h⟩
theorem da_star (hc : X.calm = true) (he : DE X Wi e f) (hr : DA X Wi es g) (hs : starEach (.Starred e p :: es) X.env = (true, eval e X.env) :: starEach es X.env := by rfl) : DA X Wi (.Starred e p :: es) (aSt f g) :=
  PA.imp (pa_starX hc he hr hs) fun σ H Q q => by
    obtain ⟨F, G, E, as, st, p⟩ := q
    refine ⟨F, G, E, as, st, Po.mono (fun x H1 m => ?_) (Po.bindA p)⟩
    obtain ⟨w1, G1, E1, as1, s1, st1, wo1, p1⟩ := m
    obtain ⟨d, e1, p2⟩ := PoA.of p1
    obtain ⟨ds, e2, p3⟩ := PoA.of p2
    clear p1 p2
    cases w1 with
    | own _ => cases e1
    | dat d' =>
      cases e1
      have dd : DD X.K G1 x d := wo1
      have fin : ∀ {vs : List V}, DDs X.K G1 vs ds → tA X.K Wi g σ H1 fun ys H2 => Q (vs ++ ys) H2 := fun {vs} hv => by
        refine ⟨F, G1, E1, as1, st1, ?_⟩
        have p3 : PoA X.K Wi F G1 σ Q ((g E1).bind fun q => .ok (ds.map W.dat ++ q.1, q.2)) := p3
        generalize g E1 = r at p3 ⊢
        match r, p3 with
        | .ok (ws, E2), p3 => exact fun us G2 H2 as2 s2 st2 wo2 => p3 (vs ++ us) G2 H2 as2 s2 st2 (WOks.app (hv.up s2) wo2)
        | .err y E2, p3 => exact p3
      cases dd with
      | lst h z r => cases e2; exact .inl ⟨_, _, rfl, .inr (SqL.of (st1.s1 _ _ h)), fin r⟩
      | tup h z r => cases e2; exact .inl ⟨_, _, rfl, .inl (SqT.of (st1.s1 _ _ h)), fin r⟩
      | str y ok => cases e2; exact .inr ⟨y, rfl, ok, fin (signs_dd ok)⟩
      | _ => cases e2
end

/-! ### a list times an int -/
def gRep : D → D → Option D
  | .lst ds, .int k => if -(2 ^ 63) ≤ k ∧ k < 2 ^ 63 ∧ ds.length * k.toNat ≤ 16777216 then some (.lst (List.replicate k.toNat ds).flatten) else none
  | _, _ => none
theorem DDs.rep {K : PySem.W.Frag} {G : Hp} {vs : List V} {ds : List D} (h : DDs K G vs ds) : ∀ n : Nat, DDs K G (List.replicate n vs).flatten (List.replicate n ds).flatten
  | 0 => .nil
  | n + 1 => by rw [List.replicate_succ, List.replicate_succ, List.flatten_cons, List.flatten_cons]; exact h.app (DDs.rep h n)
theorem opn_rep {K : PySem.W.Frag} : OpN K rRep gRep := by
  intro G H x y a b d Q s ha hb e z
  cases a with
  | lst ds =>
    cases b with
    | int k =>
      obtain ⟨⟨h1, h2, h3⟩, rfl⟩ := ifs_some (show (if -(2 ^ 63) ≤ k ∧ k < 2 ^ 63 ∧ ds.length * k.toNat ≤ 16777216 then some (D.lst (List.replicate k.toNat ds).flatten) else none) = some d from e)
      obtain ⟨p, vs, rfl, hp, z1, r⟩ := ha.lst s
      have hz : vs.length * k.toNat ≤ sizeLine := by rw [r.len, sizeLine_eq]; exact h3
      refine ⟨p, k, vs, rfl, hb.int, hp, h1, h2, hz, fun q hq => z q _ hq (Al.one s hq).h ⟨_, upd_same, ?_, r.rep _⟩⟩
      rw [List.length_flatten, List.map_replicate, List.sum_replicate_nat, Nat.mul_comm]; exact hz
    | _ => cases e
  | _ => cases e
end DL
namespace DL
open PySem PySem.Spec PyProof.Rows L2 TL

/-! ### __init__ -/
/-- the promise of an __init__: the fields fm, or an exception -/
def spI (K : PySem.W.Frag) (n : Nat) (C : Addr) (fm : List D → Res (List (Str × D))) : Sp := fun vs H Q E => ∃ G a dx vr ds, vs = .ref a :: vr ∧ Same G H ∧ G a = none ∧ H a = some (.ins C dx []) ∧ DDs K G vr ds ∧ ds.length = n ∧ match fm ds with
  | .ok fs => ∀ G' H' dx' vf, Same G G' → Same G' H' → (∀ b o, H b = some o → b ≠ a → H' b = some o) → (∀ b o, G' b ≠ none → H b = some o → isT o = false → b ≠ a → G b ≠ none) → G' a = none → H' a = some (.ins C dx' vf) → DFs K G' vf fs → Q .non H'
  | .err x _ => ∀ c dx G' H', Same G G' → Same G' H' → (∀ b o, H b = some o → b ≠ a → H' b = some o) → (∀ b o, G' b ≠ none → H b = some o → isT o = false → b ≠ a → G b ≠ none) → ExOk K G' x c dx → E c dx H'
  | .stuck => False
def slfO (E : Env) (a : Addr) : Option (Addr × List (Str × D)) := match E.head? with
  | some (.slf b (.obj C fs)) => if b = a then some (C, fs) else none
  | _ => none
def outI (a C : Addr) : Res (Fl × Env) → Res (List (Str × D))
  | .ok (.rt .non, E) => (ofO (slfO E a)).bind fun z => if z.1 = C then .ok z.2 else .stuck
  | .ok (.nx, E) => (ofO (slfO E a)).bind fun z => if z.1 = C then .ok z.2 else .stuck
  | .err x _ => .err x []
  | _ => .stuck
/-- whatever the address -/
def RunI (fb : SF) (n : Nat) (C : Addr) (fm : List D → Res (List (Str × D))) : Prop := ∀ a ds, outI a C (fb (.slf a (.obj C []) :: ds.map .dat ++ nos n)) = fm ds
theorem slfO_ok {E : Env} {a C : Addr} {fs : List (Str × D)} (h : slfO E a = some (C, fs)) : E[0]? = some (.slf a (.obj C fs)) := by
  unfold slfO at h
  cases E with
  | nil => cases h
  | cons c r =>
    cases c with
    | slf b d =>
      cases d with
      | obj C' fs' =>
        have h : (if b = a then some (C', fs') else none) = some (C, fs) := h
        by_cases e : b = a
        · rw [if_pos e] at h; cases h; rw [e]; rfl
        · rw [if_neg e] at h; cases h
      | _ => cases h
    | _ => cases h
theorem StE.startI {K : PySem.W.Frag} {G H : Hp} {N : List Str} {vs : List V} {ds : List D} {n : Nat} {a C dx : Addr} (s : Same G H) (ga : G a = none) (ha : H a = some (.ins C dx [])) (dd : DDs K G vs ds) (hn : ds.length + 1 + n = N.length) :
    StE K ⟨H, G, [a]⟩ G H (L2.start N (.ref a :: vs)) (.slf a (.obj C []) :: ds.map .dat ++ nos n) fun i => if i = 0 then [a] else [] := by
  have hl : vs.length = ds.length := dd.len
  refine ⟨?_, Same.refl _, s, fun _ _ h _ => h, fun _ h => h, fun _ _ h _ _ _ => h, fun i c e => ?_, fun i j b h1 h2 => ?_, fun i b h => ?_, fun i h => ?_⟩
  · rw [start_len (by simp only [List.length_cons]; omega), List.length_append, List.length_cons, List.length_map]; unfold nos; rw [List.length_replicate]; omega
  · cases i with
    | zero =>
      cases e
      exact ⟨_, start_get (v := .ref a) rfl, rfl, rfl, dx, [], ha, .nil⟩
    | succ i =>
      have e : (ds.map Cell.dat ++ nos n)[i]? = some c := e
      by_cases hi : i < ds.length
      · rw [List.getElem?_append_left (by simpa using hi)] at e
        obtain ⟨v, d, e1, rfl, dd'⟩ := dd.cell e
        exact ⟨_, start_get (v := v) e1, rfl, v, rfl, dd'⟩
      · rw [List.getElem?_append_right (by simpa using hi)] at e
        have hc : c = .no := by
          unfold nos at e
          rw [List.getElem?_replicate] at e
          split at e
          · exact (Option.some.inj e).symm
          · cases e
        subst hc
        have hb : i + 1 < N.length := by
          have := (List.getElem?_eq_some_iff.mp e).1
          unfold nos at this
          rw [List.length_replicate, List.length_map] at this; omega
        exact ⟨_, List.getElem?_eq_getElem (by rw [start_len (by simp only [List.length_cons]; omega)]; exact hb), rfl⟩
  · by_cases hi : i = 0
    · by_cases hj : j = 0
      · rw [hi, hj]
      · rw [if_neg hj] at h2; cases h2
    · rw [if_neg hi] at h1; cases h1
  · by_cases hi : i = 0
    · rw [if_pos hi] at h
      rw [List.mem_singleton.mp h]
      exact ⟨ga, .inr (List.mem_singleton.mpr rfl)⟩
    · rw [if_neg hi] at h; cases h
  · have : i ≠ 0 := fun z => by subst z; simp at h
    rw [if_neg this]
section
variable {P : Program} {w : World} {K : PySem.W.Frag} {mg : Str → Option Value} {base : Heap} {k : Nat} {f : Addr} {fd : FuncData} {ps N : List Str} {x qual : Str} {st : Stmt} {fb : SF}
theorem spI_len {n : Nat} {C : Addr} {fm : List D → Res (List (Str × D))} (hn : n + 1 = ps.length) : ∀ vs H Q E, spI K n C fm vs H Q E → vs.length = ps.length := fun vs H Q E h => by
  obtain ⟨G, a, dx, vr, ds, rfl, _, _, _, dd, e, _⟩ := h
  rw [List.length_cons, dd.len, e, hn]
/-- an exception that leaves: what the caller wishes -/
def WiX (E : XK) : Wish := fun _ => E
theorem fn_I {CX : CXT} {C : Addr} {fm : List D → Res (List (Str × D))} (F : Fun K x qual st f fd) (S : FnScope N ps (defScope st)) (m n : Nat) (hm : m + 1 = ps.length) (hn : ps.length + n = N.length) (hr : RunI fb n C fm)
    (hb : ∀ (cdv : Value) (A : Around) (outer : List PySem.Env) (s : Shared) (H : Hp) (E : XK), A.guards = some [] → Room k (A.deeper (envOfC qual (defScope st) s.heap.objs.size f cdv)) →
      DSs (cxOf CX P w K mg base N qual (defScope st) f cdv A outer s H E) (WiX E) (defBody st) fb) : FnG P w K mg base CX (k + 1) f fd ps (spI K m C fm) := by
  refine FnG.body F S (spI_len hm) fun cdv A outer s H vs Q E hg hr' hsp => ?_
  obtain ⟨G, a, dx, vr, ds, rfl, sm, ga, ha, dd, hl, z⟩ := hsp
  refine ⟨_, hb cdv A outer s H E hg hr', ⟨H, G, [a]⟩, G, _, _, StE.startI sm ga ha dd (n := n) (by omega), ?_⟩
  rw [← hr a ds] at z
  have nin : ∀ b, b ≠ a → b ∉ [a] := fun b h h2 => h (List.mem_singleton.mp h2)
  show PoS K (WiX E) ⟨H, G, [a]⟩ G _ (fb (.slf a (.obj C []) :: ds.map .dat ++ nos n))
  generalize fb (.slf a (.obj C []) :: ds.map .dat ++ nos n) = r at z ⊢
  have fin : ∀ {E' : Env}, (match (ofO (slfO E' a)).bind (fun z => if z.1 = C then Res.ok z.2 else .stuck) with
      | .ok fs => ∀ G' H' dx' vf, Same G G' → Same G' H' → (∀ b o, H b = some o → b ≠ a → H' b = some o) → (∀ b o, G' b ≠ none → H b = some o → isT o = false → b ≠ a → G b ≠ none) → G' a = none → H' a = some (.ins C dx' vf) → DFs K G' vf fs → Q .non H'
      | .err x _ => ∀ c dx G' H', Same G G' → Same G' H' → (∀ b o, H b = some o → b ≠ a → H' b = some o) → (∀ b o, G' b ≠ none → H b = some o → isT o = false → b ≠ a → G b ≠ none) → ExOk K G' x c dx → E c dx H'
      | .stuck => False) → ∀ σ' G' H' as', Same G G' → StE K ⟨H, G, [a]⟩ G' H' σ' E' as' → Q .non H' := fun {E'} z σ' G' H' as' s1 st1 => by
    cases q : slfO E' a with
    | none => rw [q] at z; exact z.elim
    | some y =>
      obtain ⟨C', fs⟩ := y
      rw [q] at z
      by_cases hC : C' = C
      · subst hC
        simp only [ofO_some, Res.ok_bind, if_pos] at z
        obtain ⟨v, e1, ea, ev, dx', vf, o1, o2⟩ := st1.cell 0 _ (slfO_ok q)
        exact z G' H' dx' vf s1 st1.s1 (fun b o h h1 => st1.keep b o h (nin b h1)) (fun b o h h0 ht h1 => st1.priv b o h h0 ht (nin b h1)) (st1.off 0 a (by rw [ea]; simp)).1 o1 o2
      · simp only [ofO_some, Res.ok_bind, if_neg hC] at z
  match r, z with
  | .ok (.rt .non, E'), z => exact fun v σ' G' H' as' s1 st1 dd1 => by cases dd1; exact fin z σ' G' H' as' s1 st1
  | .ok (.nx, E'), z => exact fun σ' G' H' as' s1 st1 => fin z σ' G' H' as' s1 st1
  | .ok (.bk, E'), z => exact z.elim
  | .ok (.ct, E'), z => exact z.elim
  | .err x E', z => exact fun c dx σ' G' H' as' s1 st1 xo => z c dx G' H' s1 st1.s1 (fun b o h h1 => st1.keep b o h (nin b h1)) (fun b o h h0 ht h1 => st1.priv b o h h0 ht (nin b h1)) xo
end

/-! ### self.f = e -/
def setF (f : Str) (d : D) : List (Str × D) → List (Str × D)
  | [] => [(f, d)]
  | (g, x) :: r => if g = f then (g, d) :: r else (g, x) :: setF f d r
theorem DFs.len {K : PySem.W.Frag} {G : Hp} : ∀ {vs : List (Str × V)} {ds : List (Str × D)}, DFs K G vs ds → vs.length = ds.length
  | _, _, .nil => rfl
  | _, _, .cons _ b => congrArg Nat.succ (DFs.len b)
theorem DFs.put {K : PySem.W.Frag} {G : Hp} {f : Str} {v : V} {d : D} (h : DD K G v d) : ∀ {vs : List (Str × V)} {ds : List (Str × D)}, DFs K G vs ds → DFs K G (putF f v vs) (setF f d ds)
  | _, _, .nil => .cons h .nil
  | _, _, .cons (k := g) (vs := vs) (ds := ds) a b => by
    show DFs K G (if g = f then (g, v) :: vs else (g, _) :: putF f v vs) (if g = f then (g, d) :: ds else (g, _) :: setF f d ds)
    by_cases e : g = f
    · rw [if_pos e, if_pos e]; exact .cons h b
    · rw [if_neg e, if_neg e]; exact .cons a (DFs.put h b)
def slfAt (E : Env) (i : Nat) (C : Addr) : Option (Addr × List (Str × D)) := match E[i]? with
  | some (.slf a (.obj C' fs)) => if C' = C ∧ fs.length < 1000 then some (a, fs) else none
  | _ => none
theorem slfAt_ok {E : Env} {i : Nat} {C a : Addr} {fs : List (Str × D)} (h : slfAt E i C = some (a, fs)) : E[i]? = some (.slf a (.obj C fs)) ∧ fs.length < 1000 := by
  unfold slfAt at h
  split at h
  · rename_i b C' fs' e
    split at h
    · rename_i q; cases h; rw [e, q.1]; exact ⟨rfl, q.2⟩
    · cases h
  · cases h
def sFldD (i : Nat) (C : Addr) (f : Str) (fe : EF) : SF := fun E => (fe E).bind fun p => (ofO (asDat p.1)).bind fun d => (ofO (slfAt p.2 i C)).bind fun z => .ok (.nx, p.2.set i (.slf z.1 (.obj C (setF f d z.2))))
theorem StE.writeS {K : PySem.W.Frag} {F : Fr} {G H : Hp} {σ : L2.St} {E : Env} {as : Nat → List Addr} {i : Nat} {a : Addr} {d d' : D} {o : HO} (st : StE K F G H σ E as) (e : E[i]? = some (.slf a d)) (h : OwnAt K G (upd H a o) a d') : StE K F G (upd H a o) σ (E.set i (.slf a d')) as := by
  obtain ⟨v, e1, x1, x2, x3⟩ := st.cell i _ e
  have ha : a ∈ as i := by rw [x1]; exact List.mem_singleton.mpr rfl
  have of := st.off i a ha
  refine ⟨by rw [List.length_set]; exact st.len, st.s0, fun b u q => ?_, fun b u q x => ?_, fun b q => ?_, st.priv, fun j c' q => ?_, st.sep, st.off, fun j hj => st.tail j (by rw [List.length_set] at hj; exact hj)⟩
  · rw [upd_ne (ne_of_none q of.1)]; exact st.s1 b u q
  · have hb : b ≠ a := fun z => by
      subst z
      rcases of.2 with z | z
      · rw [z] at q; cases q
      · exact x z
    rw [upd_ne hb]; exact st.keep b u q x
  · by_cases hb : b = a
    · subst hb; rw [upd_same] at q; cases q
    · rw [upd_ne hb] at q; exact st.dom b q
  · rcases get_set q with ⟨rfl, rfl⟩ | ⟨hj, q⟩
    · exact ⟨v, e1, x1, x2, h⟩
    · obtain ⟨w, e2, y⟩ := st.cell j c' q
      refine ⟨w, e2, y.up (Same.refl _) fun b hb u q => ?_⟩
      have : b ≠ a := fun z => by subst z; exact hj (st.sep j i b hb ha)
      rw [upd_ne this]; exact q
theorem ds_fld {X : Cx} {Wi : Wish} {o value : Expr} {i : Nat} {C : Addr} {f : Str} {fe : EF} {pos pos' : Pos} (c : Cls X.K C) (n : NoAttr X.K C f) (ho : PE X o (tVar i)) (hv : DE X Wi value fe) (hs : swapsWith value (some (.Attribute o f pos')) pos.line X.env = pure false := by rfl) :
    DS X Wi (.Assign [.Attribute o f pos'] value pos) (sFldD i C f fe) := PS.imp (ps_fld ho hv hs) fun D0 σ H q => by
  obtain ⟨F, G, E, as, st, p⟩ := q
  refine ⟨F, G, E, as, st, Po.mono (fun y H1 m => ?_) (Po.bindS p)⟩
  obtain ⟨w1, G1, E1, as1, s1, st1, wo1, p1⟩ := m
  obtain ⟨d, e1, p2⟩ := PoS.of p1
  obtain ⟨⟨a, fs⟩, e2, p3⟩ := PoS.of p2
  clear p1 p2
  obtain ⟨e3, hl⟩ := slfAt_ok e2
  obtain ⟨v, hv, x1, x2, dx, vf, h1, df⟩ := st1.cell i _ e3
  subst x2
  cases w1 with
  | own _ => cases e1
  | dat d' =>
    cases e1
    have dd : DD X.K G1 y d := wo1
    exact ⟨_, hv, a, C, dx, vf, rfl, h1, c, n, by rw [df.len]; exact hl, p3 σ G1 _ as1 (Same.refl _) (st1.writeS e3 ⟨dx, _, upd_same, DFs.put dd df⟩)⟩

/-! ### C(e, ..) -/
section
variable {X : Cx} {CX : CXT} {k n : Nat} {f C : Addr} {fd : FuncData} {ps ks : List Str} {Wi : Wish} {x m : Str} {p pos apos kpos : Pos} {e o : Expr} {es : List Expr} {kws : List Keyword} {fs fk : AF} {fo : EF} {fm : List D → Res (List (Str × D))} {gm : List D → Res D} {sp : Sp} {t tk : TA}
def nMk (C : Addr) (n : Nat) (fm : List D → Res (List (Str × D))) (fs : AF) : NF := fun E => (fs E).bind fun p => (ofO (dats p.1)).bind fun ds => if ds.length = n then (match fm ds with
  | .ok l => .ok (.obj C l, p.2)
  | .err x _ => .err x p.2
  | .stuck => .stuck) else .stuck
theorem mk_of {K : PySem.W.Frag} {F : Fr} {G H : Hp} {σ : L2.St} {E : Env} {as : Nat → List Addr} {Q : VK} {vs : List V} {ds : List D} (st : StE K F G H σ E as) (dd : DDs K G vs ds) (hn : ds.length = n) (p : PoN K Wi F G σ Q (match fm ds with
  | .ok l => .ok (.obj C l, E)
  | .err x _ => .err x E
  | .stuck => .stuck)) : ∀ x dx, H x = none → H dx = none → dx ≠ x → spI K n C fm (.ref x :: vs) (upd (upd H dx (.own x)) x (.ins C dx [])) (fun v H2 => v = .non ∧ Q (.ref x) H2) (Wi σ) := by
  intro x dx hx hdx ne
  have up : ∀ b o, H b = some o → upd (upd H dx (.own x)) x (.ins C dx []) b = some o := fun b o h => by rw [upd_ne (ne_of_none h hx), upd_ne (ne_of_none h hdx)]; exact h
  have gx : G x = none := st.s1.free hx
  refine ⟨G, x, dx, vs, ds, rfl, fun b o h => up b o (st.s1 b o h), gx, upd_same, dd, hn, ?_⟩
  have al : ∀ {G' H' : Hp}, Same G G' → Same G' H' → (∀ b o, upd (upd H dx (.own x)) x (.ins C dx []) b = some o → b ≠ x → H' b = some o) → (∀ b o, G' b ≠ none → upd (upd H dx (.own x)) x (.ins C dx []) b = some o → isT o = false → b ≠ x → G b ≠ none) → Al G H G' H' := fun {G' H'} s1 s2 kp pv =>
    ⟨s1, fun b o h => kp b o (up b o h) (ne_of_none h hx), s2, fun b o h e q => by
      cases ht : isT o with
      | true => rfl
      | false => exact absurd e (pv b o h (up b o q) ht (ne_of_none q hx))⟩
  generalize fm ds = r at p ⊢
  match r, p with
  | .ok l, p =>
    intro G' H' dx' vf s1 s2 kp pv ga ha df
    have a := al s1 s2 kp pv
    exact ⟨rfl, p x G' H' as s1 (st.al a) ga (st.dom x hx) (fun j hj => by obtain ⟨u, q⟩ := st.there hj; rw [hx] at q; cases q) ⟨dx', vf, ha, df⟩⟩
  | .err y _, p =>
    intro c dx2 G' H' s1 s2 kp pv xo
    exact p c dx2 G' H' as s1 (st.al (al s1 s2 kp pv)) xo
theorem dn_mk (M : Mk X.K C f) (F : FnG X.prog X.w X.K X.mg X.base CX k f fd ps (spI X.K n C fm)) (hg : X.A.guards = some []) (hr : Room (k + 1) X.A) (gl : Gl X x) (hm : X.mg x = some (.ref C)) (hb : Binds X.K fd ps []) (hx : PassW CX X Wi) (ha : DA X Wi (e :: es) fs)
    (hdb : (x == ("__debug__" : Str)) = false := by decide) (he : starEach (e :: es) X.env = (false, eval e X.env) :: starEach es X.env := by rfl) (hpl : (backTo pos (starEach es X.env)).any (·.1) = false := by rfl) :
    DN X Wi (.Call (.Name x p) (e :: es) [] pos) (nMk C n fm fs) := by
  refine ⟨fun pins s σ H Q I q => ?_⟩
  obtain ⟨F0, G, E, as, st, pq⟩ := q
  refine wpAny_Call_Name_kw (ld_glob I gl hm ?_ hdb)
  refine PySem.W.callWith_K (h₀ := X.base) I.ok.mod.kin M.kp (thn (ha.run pos pins s σ H _ I ⟨F0, G, E, as, st, PoA.bindN pq⟩) fun us s1 ⟨vs, H1, I1, r, m⟩ => ⟨I1.kIn, ?_⟩) he hpl
  obtain ⟨ws, G1, E1, as1, s1', st1, wo1, p1⟩ := m
  obtain ⟨ds, e1, p1⟩ := PoN.of p1
  by_cases hn : ds.length = n
  · rw [if_pos hn] at p1
    exact run_M M F hg hr hb hx I1 r (mk_of st1 (dats_ok wo1 e1) hn p1)
  · rw [if_neg hn] at p1; exact p1.elim

/-! ### keywords -/
def pick {α : Type} (pm : List Nat) (l : List α) : List α := pm.filterMap fun i => l[i]?
/-- how the positional values and those of the keywords ks come to the parameters -/
structure KW (fd : FuncData) (ps : List Str) (n : Nat) (ks : List Str) (pm : List Nat) : Prop where
  to : ∀ us ws : List Value, us.length = n → ws.length = ks.length → bindArgs fd ⟨us, ks.zip ws⟩ = pure (ps.zip (pick pm (us ++ ws)))
theorem vals_pick {vs : List V} {us : List Value} (r : Vals vs us) : ∀ pm : List Nat, Vals (pick pm vs) (pick pm us)
  | [] => .nil
  | i :: pm => by
    have ih := vals_pick r pm
    unfold pick at ih ⊢
    rw [List.filterMap_cons, List.filterMap_cons]
    cases q : vs[i]? with
    | none =>
      have q2 : us[i]? = none := by
        rw [List.getElem?_eq_none_iff] at q ⊢
        rw [← r.length]; exact q
      rw [q2]; exact ih
    | some v =>
      obtain ⟨u, q2, ru⟩ := r.get q
      rw [q2]; exact .cons ru ih
theorem dds_pick {K : PySem.W.Frag} {G : Hp} {vs : List V} {ds : List D} (r : DDs K G vs ds) : ∀ pm : List Nat, DDs K G (pick pm vs) (pick pm ds)
  | [] => .nil
  | i :: pm => by
    have ih := dds_pick r pm
    unfold pick at ih ⊢
    rw [List.filterMap_cons, List.filterMap_cons]
    cases q : vs[i]? with
    | none =>
      have q2 : ds[i]? = none := by
        rw [List.getElem?_eq_none_iff] at q ⊢
        rw [← r.len]; exact q
      rw [q2]; exact ih
    | some v =>
      obtain ⟨d, q2, dd⟩ := r.getV q
      rw [q2]; exact .cons dd ih
theorem run_KW {pins : List (Addr × Obj)} {σ : L2.St} {H : Hp} {s : Shared} {Q : VK} {us ws : List Value} {vs zs : List V} {pm : List Nat} (F : FnG X.prog X.w X.K X.mg X.base CX k f fd ps sp) (hg : X.A.guards = some []) (hr : Room k X.A) (kb : KW fd ps n ks pm) (hx : PassW CX X Wi) (I : Inv X pins σ H s) (r : Vals vs us) (rz : Vals zs ws)
    (l1 : vs.length = n) (l2 : zs.length = ks.length) (h : sp (pick pm (vs ++ zs)) H Q (Wi σ)) : wpAny (model X.prog X.w) X.A (call (.ref f) us (ks.zip ws)) (EP X pins σ Q) X.xe s :=
  code_call (call_go F hg hr hx I (.of_eq (kb.to us ws (by rw [← r.length]; exact l1) (by rw [← rz.length]; exact l2))) (vals_pick (r.append rz) pm) h)
abbrev DK (X : Cx) (Wi : Wish) (kws : List Keyword) (f : AF) : Prop := PK X kws (tA X.K Wi f)
theorem PK.imp {X : Cx} {e : List Keyword} {t t' : TA} (h : PK X e t) (i : ∀ σ H Q, t' σ H Q → t σ H Q) : PK X e t' :=
  ⟨fun pos pins s σ H Q I q => h.run pos pins s σ H Q I (i σ H Q q)⟩
theorem dk_nil : DK X Wi [] aN := PK.imp pk_nil fun σ H Q q => by
  obtain ⟨F, G, E, as, st, p⟩ := q
  exact p [] G H as (Same.refl _) st True.intro
theorem dk_cons {nm : Option Str} {fa : EF} (ha : DE X Wi e fa) (hr : DK X Wi kws fs) : DK X Wi (⟨nm, e, kpos⟩ :: kws) (aC fa fs) := PK.imp (pk_cons ha hr) fun σ H Q q => by
  obtain ⟨F, G, E, as, st, p⟩ := q
  refine ⟨F, G, E, as, st, Po.mono (fun x H1 m => ?_) (Po.bindA p)⟩
  obtain ⟨w1, G1, E1, as1, s1, st1, wo1, p1⟩ := m
  refine ⟨F, G1, E1, as1, st1, ?_⟩
  generalize fs E1 = r at p1 ⊢
  match r, p1 with
  | .ok (ws, E2), p1 => exact fun vs G2 H2 as2 s2 st2 wo2 => p1 (x :: vs) G2 H2 as2 s2 st2 ⟨WOk.up s2 wo1, wo2⟩
  | .err y E2, p1 => exact p1
theorem PoA.bindA {K : PySem.W.Frag} {F : Fr} {G : Hp} {σ : L2.St} {Q : List V → Hp → Prop} {r : Res (List W × Env)} {g : List W × Env → Res (List W × Env)} (h : PoA K Wi F G σ Q (r.bind g)) :
    PoA K Wi F G σ (MidA K F G σ fun _ ws G1 _ E1 _ => PoA K Wi F G1 σ Q (g (ws, E1))) r := by
  match r, h with
  | .ok (w, E'), h => exact fun v G' H' as' s st wo => ⟨w, G', E', as', s, st, wo, PoA.up s h⟩
  | .err x E', h => exact h
/-- f(e, .., k = v, ..) -/
def eFK (n kn : Nat) (pm : List Nat) (np : Nat) (fm : List D → Res D) (fs fk : AF) : EF := fun E => (fs E).bind fun p => (fk p.2).bind fun q => (ofO (dats p.1)).bind fun ds => (ofO (dats q.1)).bind fun es =>
  if ds.length = n ∧ es.length = kn ∧ (pick pm (ds ++ es)).length = np then ret (fm (pick pm (ds ++ es))) q.2 else .stuck
theorem tFK_of {np kn : Nat} {pm : List Nat} : ∀ σ H Q, tE X.K Wi (eFK n kn pm np gm fs fk) σ H Q → tA X.K Wi fs σ H fun vs H1 => tA X.K Wi fk σ H1 fun zs H2 => vs.length = n ∧ zs.length = kn ∧ spP X.K np gm (pick pm (vs ++ zs)) H2 Q (Wi σ) := by
  intro σ H Q q
  obtain ⟨F, G, E, as, st, p⟩ := q
  refine ⟨F, G, E, as, st, PoA.mono (fun vs H1 m => ?_) (PoA.bind p)⟩
  obtain ⟨ws, G1, E1, as1, s1, st1, wo1, p1⟩ := m
  refine ⟨F, G1, E1, as1, st1, PoA.mono (fun zs H2 m => ?_) (PoA.bind p1)⟩
  obtain ⟨ys, G2, E2, as2, s2, st2, wo2, p2⟩ := m
  obtain ⟨ds, e1, p3⟩ := Po.of p2
  obtain ⟨es, e2, p4⟩ := Po.of p3
  clear p1 p2 p3
  have d1 := (dats_ok wo1 e1).up s2
  have d2 := dats_ok wo2 e2
  have p4 : Po X.K Wi F G2 σ Q (if ds.length = n ∧ es.length = kn ∧ (pick pm (ds ++ es)).length = np then ret (gm (pick pm (ds ++ es))) E2 else .stuck) := p4
  by_cases h : ds.length = n ∧ es.length = kn ∧ (pick pm (ds ++ es)).length = np
  · rw [if_pos h] at p4
    exact ⟨d1.len.trans h.1, d2.len.trans h.2.1, spP_of st2 (dds_pick (d1.app d2) pm) h.2.2 p4⟩
  · rw [if_neg h] at p4; exact p4.elim
theorem de_FK {np : Nat} {pm : List Nat} (F : FnG X.prog X.w X.K X.mg X.base CX k f fd ps (spP X.K np gm)) (hg : X.A.guards = some []) (hr : Room k X.A) (gl : Gl X x) (hm : X.mg x = some (.ref f)) (hk : PySem.W.keepIn X.K (.ref f) = true) (kb : KW fd ps n ks pm) (hx : PassW CX X Wi) (ha : DA X Wi (e :: es) fs) (hkw : DK X Wi kws fk)
    (hall : (backToKw pos (keywordEach kws X.env)).all (·.1.isSome) = true := by rfl) (hks : (backToKw pos (keywordEach kws X.env)).filterMap (·.1) = ks := by rfl) (hdb : (x == ("__debug__" : Str)) = false := by decide) (he : starEach (e :: es) X.env = (false, eval e X.env) :: starEach es X.env := by rfl)
    (hpl : ((backTo pos (starEach (e :: es) X.env)).any (·.1) || (backToKw pos (keywordEach kws X.env)).any (·.1.isNone)) = false := by rfl) :
    DE X Wi (.Call (.Name x p) (e :: es) kws pos) (eFK n ks.length pm np gm fs fk) := by
  refine ⟨fun pins s σ H Q I q => ?_⟩
  refine wpAny_Call_Name_kw (ld_glob I gl hm ?_ hdb)
  refine PySem.W.callWith_KW (h₀ := X.base) I.ok.mod.kin hk hall (thn (ha.run pos pins s σ H _ I (tFK_of σ H Q q)) fun us s1 ⟨vs, H1, I1, r, q⟩ => ?_) hpl he
  refine thn (hkw.run pos pins s1 σ H1 _ I1 q) fun ws s2 ⟨zs, H2, I2, rz, l1, l2, q2⟩ => ⟨I2.kIn, ?_⟩
  rw [hks]
  exact run_KW F hg hr kb hx I2 r rz l1 l2 q2
/-- f(k = v, ..) -/
theorem de_FK0 {np : Nat} {pm : List Nat} (F : FnG X.prog X.w X.K X.mg X.base CX k f fd ps (spP X.K np gm)) (hg : X.A.guards = some []) (hr : Room k X.A) (gl : Gl X x) (hm : X.mg x = some (.ref f)) (hk : PySem.W.keepIn X.K (.ref f) = true) (kb : KW fd ps 0 ks pm) (hx : PassW CX X Wi) (hkw : DK X Wi kws fk)
    (hall : (backToKw pos (keywordEach kws X.env)).all (·.1.isSome) = true := by rfl) (hks : (backToKw pos (keywordEach kws X.env)).filterMap (·.1) = ks := by rfl) (hdb : (x == ("__debug__" : Str)) = false := by decide)
    (hpl : ((backTo pos (starEach [] X.env)).any (·.1) || (backToKw pos (keywordEach kws X.env)).any (·.1.isNone)) = false := by rfl) :
    DE X Wi (.Call (.Name x p) [] kws pos) (eFK 0 ks.length pm np gm aN fk) := by
  refine ⟨fun pins s σ H Q I q => ?_⟩
  refine wpAny_Call_Name_kw (ld_glob I gl hm ?_ hdb)
  have z := tFK_of σ H Q q
  obtain ⟨F1, G1, E1, as1, st1, p1⟩ := z
  refine PySem.W.callWith_KW0 (h₀ := X.base) I.ok.mod.kin hk hall ?_ hpl
  refine thn (hkw.run pos pins s σ H _ I (p1 [] G1 H as1 (Same.refl _) st1 trivial)) fun ws s2 ⟨zs, H2, I2, rz, l1, l2, q2⟩ => ⟨I2.kIn, ?_⟩
  rw [hks]
  exact run_KW F hg hr kb hx I2 .nil rz l1 l2 q2
/-- o.m(e, .., k = v, ..) -/
def eGK (C : Addr) (m : Str) (n kn : Nat) (pm : List Nat) (np : Nat) (fm : List D → Res D) (fo : EF) (fs fk : AF) : EF := fun E => (fo E).bind fun p => (ofO (insOf C m p.1)).bind fun x => (fs p.2).bind fun q => (fk q.2).bind fun r => (ofO (dats q.1)).bind fun ds => (ofO (dats r.1)).bind fun es =>
  if ds.length = n ∧ es.length = kn ∧ (pick pm (x :: ds ++ es)).length = np then ret (fm (pick pm (x :: ds ++ es))) r.2 else .stuck
theorem tGK_of {np kn : Nat} {pm : List Nat} : ∀ σ H Q, tE X.K Wi (eGK C m n kn pm np gm fo fs fk) σ H Q → tE X.K Wi fo σ H fun x H1 => ∃ a dx vf, x = .ref a ∧ H1 a = some (.ins C dx vf) ∧ vf.lookup m = none ∧ tA X.K Wi fs σ H1 fun vs H2 => tA X.K Wi fk σ H2 fun zs H3 =>
    vs.length = n ∧ zs.length = kn ∧ spP X.K np gm (pick pm (x :: vs ++ zs)) H3 Q (Wi σ) := by
  intro σ H Q q
  obtain ⟨F, G, E, as, st, p⟩ := q
  refine ⟨F, G, E, as, st, Po.mono (fun x H1 mm => ?_) (Po.bind p)⟩
  obtain ⟨w1, G1, E1, as1, s1, st1, wo1, p1⟩ := mm
  obtain ⟨d, e1, p1⟩ := Po.of p1
  obtain ⟨ff, a, dx, vf, rfl, rfl, ga, nk, dd⟩ := insOf_ok e1 wo1
  refine ⟨a, dx, vf, rfl, st1.s1 _ _ ga, nk, F, G1, E1, as1, st1, PoA.mono (fun vs H2 mm => ?_) (PoA.bind p1)⟩
  obtain ⟨ws, G2, E2, as2, s2, st2, wo2, p2⟩ := mm
  refine ⟨F, G2, E2, as2, st2, PoA.mono (fun zs H3 mm => ?_) (PoA.bind p2)⟩
  obtain ⟨ys, G3, E3, as3, s3, st3, wo3, p3⟩ := mm
  obtain ⟨ds, e2, p4⟩ := Po.of p3
  obtain ⟨es, e3, p5⟩ := Po.of p4
  clear p1 p2 p3 p4
  have d1 := (dats_ok wo2 e2).up s3
  have d2 := dats_ok wo3 e3
  have p5 : Po X.K Wi F G3 σ Q (if ds.length = n ∧ es.length = kn ∧ (pick pm (.obj C ff :: ds ++ es)).length = np then ret (gm (pick pm (.obj C ff :: ds ++ es))) E3 else .stuck) := p5
  by_cases h : ds.length = n ∧ es.length = kn ∧ (pick pm (.obj C ff :: ds ++ es)).length = np
  · rw [if_pos h] at p5
    have all : DDs X.K G3 (.ref a :: vs ++ zs) (.obj C ff :: ds ++ es) := DDs.app (.cons ((dd.up s2).up s3) d1) d2
    exact ⟨d1.len.trans h.1, d2.len.trans h.2.1, spP_of st3 (dds_pick all pm) h.2.2 p5⟩
  · rw [if_neg h] at p5; exact p5.elim
theorem de_GK {np : Nat} {pm : List Nat} {pl : Sem Bool} (he : DE X Wi o fo) (c : Cls X.K C) (hm : Meth X.K C m f) (F : FnG X.prog X.w X.K X.mg X.base CX k f fd ps (spP X.K np gm)) (hg : X.A.guards = some []) (hr : Room k X.A) (kb : KW fd ps (n + 1) ks pm) (hx : PassW CX X Wi) (ha : DA X Wi (e :: es) fs) (hkw : DK X Wi kws fk)
    (hall : (backToKw pos (keywordEach kws X.env)).all (·.1.isSome) = true := by rfl) (hks : (backToKw pos (keywordEach kws X.env)).filterMap (·.1) = ks := by rfl) (hst : starEach (e :: es) X.env = (false, eval e X.env) :: starEach es X.env := by rfl)
    (hpl : ((backTo pos (starEach (e :: es) X.env)).any (·.1) || (backToKw pos (keywordEach kws X.env)).any (·.1.isNone)) = false := by rfl)
    (ht : eval (.Call (.Attribute o m apos) (e :: es) kws pos) X.env = (do
      let ov ← eval o X.env
      standAt apos.atName
      let (f, first) ← holding [ov] (getMethod ov m pl)
      callWith pos f first (backTo pos (starEach (e :: es) X.env)) (backToKw pos (keywordEach kws X.env))) := by rfl) :
    DE X Wi (.Call (.Attribute o m apos) (e :: es) kws pos) (eGK C m n ks.length pm np gm fo fs fk) := by
  refine ⟨fun pins s σ H Q I q => ?_⟩
  refine PySem.W.methodCall_KW (pl := pl) (thn (he.run pins s σ H _ I (tGK_of σ H Q q)) fun u s1 z => ?_) ht
  obtain ⟨x, H1, I1, rx, a, dx, vf, rfl, ea, l, q⟩ := z
  cases rx
  refine getmeth_ok I1 ea c hm l (PySem.W.callWith_KW (h₀ := X.base) I.ok.mod.kin hm.kp hall (thn (ha.run pos pins s1 σ H1 _ I1 q) fun us s2 ⟨vs, H2, I2, r, q⟩ => ?_) hpl hst)
  refine thn (hkw.run pos pins s2 σ H2 _ I2 q) fun ws s3 ⟨zs, H3, I3, rz, l1, l2, q3⟩ => ⟨I3.kIn, ?_⟩
  rw [hks]
  exact run_KW F hg hr kb hx I3 (us := .ref a :: us) (vs := .ref a :: vs) (.cons rfl r) rz (by rw [List.length_cons, l1]) l2 q3
theorem de_GK0 {np : Nat} {pm : List Nat} {pl : Sem Bool} (he : DE X Wi o fo) (c : Cls X.K C) (hm : Meth X.K C m f) (F : FnG X.prog X.w X.K X.mg X.base CX k f fd ps (spP X.K np gm)) (hg : X.A.guards = some []) (hr : Room k X.A) (kb : KW fd ps 1 ks pm) (hx : PassW CX X Wi) (hkw : DK X Wi kws fk)
    (hall : (backToKw pos (keywordEach kws X.env)).all (·.1.isSome) = true := by rfl) (hks : (backToKw pos (keywordEach kws X.env)).filterMap (·.1) = ks := by rfl)
    (hpl : ((backTo pos (starEach [] X.env)).any (·.1) || (backToKw pos (keywordEach kws X.env)).any (·.1.isNone)) = false := by rfl)
    (ht : eval (.Call (.Attribute o m apos) [] kws pos) X.env = (do
      let ov ← eval o X.env
      standAt apos.atName
      let (f, first) ← holding [ov] (getMethod ov m pl)
      callWith pos f first (backTo pos (starEach [] X.env)) (backToKw pos (keywordEach kws X.env))) := by rfl) :
    DE X Wi (.Call (.Attribute o m apos) [] kws pos) (eGK C m 0 ks.length pm np gm fo aN fk) := by
  refine ⟨fun pins s σ H Q I q => ?_⟩
  refine PySem.W.methodCall_KW (pl := pl) (thn (he.run pins s σ H _ I (tGK_of σ H Q q)) fun u s1 z => ?_) ht
  obtain ⟨x, H1, I1, rx, a, dx, vf, rfl, ea, l, q⟩ := z
  cases rx
  obtain ⟨F1, G1, E1, as1, st1, p1⟩ := q
  refine getmeth_ok I1 ea c hm l (PySem.W.callWith_KW0 (h₀ := X.base) I.ok.mod.kin hm.kp hall ?_ hpl)
  refine thn (hkw.run pos pins s1 σ H1 _ I1 (p1 [] G1 H1 as1 (Same.refl _) st1 trivial)) fun ws s3 ⟨zs, H3, I3, rz, l1, l2, q3⟩ => ⟨I3.kIn, ?_⟩
  rw [hks]
  exact run_KW F hg hr kb hx I3 (us := [.ref a]) (vs := [.ref a]) (.cons rfl .nil) rz rfl l2 q3
end

/-! ### an own == -/
def rEqI (K : PySem.W.Frag) (C : Addr) (oc : List Addr) (gm : List D → Res D) : R2 := fun x y H Q => ∃ (G : Hp) (fs : List (Str × D)) (C' : Addr) (gs : List (Str × D)) (b : Bool), C' ∈ oc ∧ Same G H ∧ DD K G x (.obj C fs) ∧ DD K G y (.obj C' gs) ∧ gm [.obj C fs, .obj C' gs] = .ok (.bl b) ∧ Rz K G H Q (.bl b)
def gEqI (C : Addr) (oc : List Addr) (gm : List D → Res D) : D → D → Option D
  | .obj C1 fs, .obj C' gs => if C1 = C ∧ C' ∈ oc then (match gm [.obj C fs, .obj C' gs] with
    | .ok (.bl b) => some (.bl b)
    | _ => none) else none
  | _, _ => none
theorem op_eqI {X : Cx} {CX : CXT} {n : Nat} {C f : Addr} {fd : FuncData} {ps : List Str} {oc : List Addr} {gm : List D → Res D} (F : FnG X.prog X.w X.K X.mg X.base CX n f fd ps (spP X.K 2 gm)) (hg : X.A.guards = some []) (hr : Room n X.A) (hs : PySem.W.findIn X.K (.ref C) "__eq__" = some (some (.ref f))) (hf : PySem.W.isFn X.K (.ref f) = true) (hb : Binds X.K fd ps [])
    (nf : ∀ C' ∈ oc, PySem.W.notFirst X.K C (.ref C') = true) {Wi : Wish} (hx : PassW CX X Wi) : OpR X (compareOp .Eq) (rEqI X.K C oc gm) := by
  intro pins s σ H x y v u Q I rx ry hq
  obtain ⟨G, fs, C', gs, r, hC, sm, dx, dy, hgm, z⟩ := hq
  have dx' := dx
  have dy' := dy
  cases dx' with
  | obj g1 f1 =>
  cases dy' with
  | obj g2 f2 =>
  rename_i a da vf b db vg
  cases rx
  cases ry
  have ha := sm _ _ g1
  have hb' := sm _ _ g2
  obtain ⟨mA, J, _⟩ := ins_get I.hok ha
  obtain ⟨mB, J', _⟩ := ins_get I.hok hb'
  obtain ⟨od, J, _⟩ := J.look
  obtain ⟨od', J', _⟩ := J'.look
  obtain ⟨m, hF⟩ := I.fr
  refine PySem.W.cmp_K (op := .Eq) (tb := .ref C') hr.units0 hF I.ok.mod.kin J J'.type (nf C' hC) hs hf ?_
  have sp : spP X.K 2 gm [.ref a, .ref b] H (fun v H' => v = .bl r ∧ Q v H') (Wi σ) := by
    refine ⟨G, [.obj C fs, .obj C' gs], sm, .cons dx (.cons dy .nil), rfl, ?_⟩
    rw [hgm]
    intro v G' H' al dd
    cases dd
    exact ⟨rfl, z _ _ _ al (.bl r)⟩
  refine thn (run_F (us := [.ref a, .ref b]) (vs := [.ref a, .ref b]) F hg hr hb hx I (.cons rfl (.cons rfl .nil)) sp) fun w s' q => ?_
  obtain ⟨v, H', I', rv, ev, q⟩ := q
  subst ev
  cases rv
  exact ⟨.bl r, H', I', rfl, q⟩
/-- an operator on data alone -/
def eOpD (g : D → D → Option D) (fa fb : EF) : EF := fun E => (fa E).bind fun p => (fb p.2).bind fun q => (ofO (asDat p.1)).bind fun x => (ofO (asDat q.1)).bind fun y => (ofO (g x y)).bind fun d => .ok (.dat d, q.2)
section
variable {X : Cx} {CX : CXT} {Wi : Wish} {a b : Expr} {fa fb : EF} {pos : Pos} {n : Nat} {C f : Addr} {fd : FuncData} {ps : List Str} {oc : List Addr} {gm : List D → Res D}
theorem tEqI_of : ∀ σ H Q, tE X.K Wi (eOpD (gEqI C oc gm) fa fb) σ H Q → tOp (rEqI X.K C oc gm) (tE X.K Wi fa) (tE X.K Wi fb) σ H Q := by
  intro σ H Q q
  obtain ⟨F, G, E, as, st, p⟩ := q
  refine ⟨F, G, E, as, st, Po.mono (fun x H1 m => ?_) (Po.bind p)⟩
  obtain ⟨w1, G1, E1, as1, s1, st1, wo1, p1⟩ := m
  refine ⟨F, G1, E1, as1, st1, Po.mono (fun y H2 m => ?_) (Po.bind p1)⟩
  obtain ⟨w2, G2, E2, as2, s2, st2, wo2, p2⟩ := m
  obtain ⟨d1, e1, p3⟩ := Po.of p2
  obtain ⟨d2, e2, p4⟩ := Po.of p3
  obtain ⟨d, e3, p5⟩ := Po.of p4
  clear p1 p2 p3 p4
  cases w1 with
  | own _ => cases e1
  | dat d1' =>
  cases w2 with
  | own _ => cases e2
  | dat d2' =>
  cases e1
  cases e2
  have dx : DD X.K G2 x d1 := DD.up s2 wo1
  have dy : DD X.K G2 y d2 := wo2
  cases d1 with
  | obj C1 fs =>
    cases d2 with
    | obj C' gs =>
      have e : (if C1 = C ∧ C' ∈ oc then (match gm [.obj C fs, .obj C' gs] with
        | .ok (.bl b) => some (D.bl b)
        | _ => none) else none) = some d := e3
      by_cases h : C1 = C ∧ C' ∈ oc
      · rw [if_pos h] at e
        obtain ⟨h1, h2⟩ := h
        subst h1
        cases q : gm [.obj C1 fs, .obj C' gs] with
        | err _ _ => rw [q] at e; cases e
        | stuck => rw [q] at e; cases e
        | ok r =>
          rw [q] at e
          cases r with
          | bl r =>
            cases e
            exact ⟨G2, fs, C', gs, r, h2, st2.s1, dx, dy, q, Po.rz st2 p5⟩
          | _ => cases e
      · rw [if_neg h] at e; cases e
    | _ => cases e3
  | _ => cases e3
theorem de_eqI (F : FnG X.prog X.w X.K X.mg X.base CX n f fd ps (spP X.K 2 gm)) (hg : X.A.guards = some []) (hr : Room n X.A) (hs : PySem.W.findIn X.K (.ref C) "__eq__" = some (some (.ref f))) (hf : PySem.W.isFn X.K (.ref f) = true) (hb : Binds X.K fd ps [])
    (nf : ∀ C' ∈ oc, PySem.W.notFirst X.K C (.ref C') = true) (hx : PassW CX X Wi) (ha : DE X Wi a fa) (hb2 : DE X Wi b fb) (hm : behindInMarks .Eq b = false := by rfl) : DE X Wi (.Compare a [.Eq] [b] pos) (eOpD (gEqI C oc gm) fa fb) :=
  PE.imp (pe_cmpR (op_eqI F hg hr hs hf hb nf hx) ha hb2 hm) tEqI_of
end
/-- a statement that is not come to -/
def sNever : SF := fun _ => .stuck
theorem tS_never {X : Cx} {Wi : Wish} {st : Stmt} (D0 : Ends) (σ : L2.St) (H : Hp) (q : tS X.K Wi sNever D0 σ H) : False := by
  obtain ⟨F, G, E, as, s, p⟩ := q
  exact p
end DL
namespace DL
open PySem PySem.Spec PyProof.Rows L2 TL

/-- an __init__ that no exception leaves -/
def RunI0 (fb : SF) (n : Nat) (C : Addr) (fm : List D → Res (List (Str × D))) : Prop := ∀ a ds, match fm ds with
  | .ok fs => noErr (outI a C (fb (.slf a (.obj C []) :: ds.map .dat ++ nos n))) = .ok fs
  | .err _ _ => False
  | .stuck => True
section
variable {P : Program} {w : World} {K : PySem.W.Frag} {mg : Str → Option Value} {base : Heap} {k : Nat} {f : Addr} {fd : FuncData} {ps N : List Str} {x qual : Str} {st : Stmt} {fb : SF}
theorem fn_I0 {C : Addr} {fm : List D → Res (List (Str × D))} (F : Fun K x qual st f fd) (S : FnScope N ps (defScope st)) (m n : Nat) (hm : m + 1 = ps.length) (hn : ps.length + n = N.length) (hr : RunI0 fb n C fm)
    (hb : ∀ (cdv : Value) (A : Around) (outer : List PySem.Env) (s : Shared) (H : Hp) (E : XK), A.guards = some [] → Room k (A.deeper (envOfC qual (defScope st) s.heap.objs.size f cdv)) →
      DSs (cxOf CX0 P w K mg base N qual (defScope st) f cdv A outer s H E).nox W0 (defBody st) fb) : FnG P w K mg base CX0 (k + 1) f fd ps (spI K m C fm) := by
  refine FnG.body F S (spI_len hm) fun cdv A outer s H vs Q E hg hr' hsp => ?_
  obtain ⟨G, a, dx, vr, ds, rfl, sm, ga, ha, dd, hl, z⟩ := hsp
  refine ⟨_, PSs.nox (hb cdv A outer s H E hg hr'), ⟨H, G, [a]⟩, G, _, _, StE.startI sm ga ha dd (n := n) (by omega), ?_⟩
  have hra := hr a ds
  have z2 : (match noErr (outI a C (fb (.slf a (.obj C []) :: ds.map .dat ++ nos n))) with
      | .ok fs => ∀ G' H' dx' vf, Same G G' → Same G' H' → (∀ b o, H b = some o → b ≠ a → H' b = some o) → (∀ b o, G' b ≠ none → H b = some o → isT o = false → b ≠ a → G b ≠ none) → G' a = none → H' a = some (.ins C dx' vf) → DFs K G' vf fs → Q .non H'
      | .err x _ => ∀ c dx G' H', Same G G' → Same G' H' → (∀ b o, H b = some o → b ≠ a → H' b = some o) → (∀ b o, G' b ≠ none → H b = some o → isT o = false → b ≠ a → G b ≠ none) → ExOk K G' x c dx → E c dx H'
      | .stuck => False) := by
    cases q : fm ds with
    | ok fs => rw [q] at hra z; rw [hra]; exact z
    | err x E => rw [q] at hra; exact hra.elim
    | stuck => rw [q] at z; exact z.elim
  clear z
  have z := z2
  clear z2
  have nin : ∀ b, b ≠ a → b ∉ [a] := fun b h h2 => h (List.mem_singleton.mp h2)
  show PoS K W0 ⟨H, G, [a]⟩ G _ (fb (.slf a (.obj C []) :: ds.map .dat ++ nos n))
  generalize fb (.slf a (.obj C []) :: ds.map .dat ++ nos n) = r at z ⊢
  have fin : ∀ {E' : Env}, (match noErr ((ofO (slfO E' a)).bind (fun z => if z.1 = C then Res.ok z.2 else .stuck)) with
      | .ok fs => ∀ G' H' dx' vf, Same G G' → Same G' H' → (∀ b o, H b = some o → b ≠ a → H' b = some o) → (∀ b o, G' b ≠ none → H b = some o → isT o = false → b ≠ a → G b ≠ none) → G' a = none → H' a = some (.ins C dx' vf) → DFs K G' vf fs → Q .non H'
      | .err x _ => ∀ c dx G' H', Same G G' → Same G' H' → (∀ b o, H b = some o → b ≠ a → H' b = some o) → (∀ b o, G' b ≠ none → H b = some o → isT o = false → b ≠ a → G b ≠ none) → ExOk K G' x c dx → E c dx H'
      | .stuck => False) → ∀ σ' G' H' as', Same G G' → StE K ⟨H, G, [a]⟩ G' H' σ' E' as' → Q .non H' := fun {E'} z σ' G' H' as' s1 st1 => by
    cases q : slfO E' a with
    | none => rw [q] at z; exact z.elim
    | some y =>
      obtain ⟨C', fs⟩ := y
      rw [q] at z
      by_cases hC : C' = C
      · subst hC
        simp only [ofO_some, Res.ok_bind, if_pos, noErr] at z
        obtain ⟨v, e1, ea, ev, dx', vf, o1, o2⟩ := st1.cell 0 _ (slfO_ok q)
        exact z G' H' dx' vf s1 st1.s1 (fun b o h h1 => st1.keep b o h (nin b h1)) (fun b o h h0 ht h1 => st1.priv b o h h0 ht (nin b h1)) (st1.off 0 a (by rw [ea]; simp)).1 o1 o2
      · simp only [ofO_some, Res.ok_bind, if_neg hC, noErr] at z
  match r, z with
  | .ok (.rt .non, E'), z => exact fun v σ' G' H' as' s1 st1 dd1 => by cases dd1; exact fin z σ' G' H' as' s1 st1
  | .ok (.nx, E'), z => exact fun σ' G' H' as' s1 st1 => fin z σ' G' H' as' s1 st1
  | .ok (.bk, E'), z => exact z.elim
  | .ok (.ct, E'), z => exact z.elim
  | .err x E', z => exact z.elim
theorem ds_never {X : Cx} {Wi : Wish} {s : Stmt} : DS X Wi s sNever := PS.imp ps_never fun D0 σ H q => tS_never (st := s) D0 σ H q
theorem dss_never {X : Cx} {Wi : Wish} {s : List Stmt} : DSs X Wi s sNever := PSs.imp pss_never fun D0 σ H q => by
  obtain ⟨F, G, E, as, st, p⟩ := q
  exact p
end
/-- a test of a whole and/or -/
theorem dt_w {X : Cx} {Wi : Wish} {e : Expr} {t : BF} (h : DW X Wi e t) : DT X Wi e t := PW.pt h
/-- names -/
theorem dv (i : Nat) {X : Cx} {Wi : Wish} {x : Str} {pos : Pos} (hN : X.N[i]? = some x := by rfl) (hv : Vis X.env.scope x := by first | exact Or.inl rfl | exact Or.inr (Or.inl rfl) | exact Or.inr (Or.inr rfl)) (hd : (x == ("__debug__" : Str)) = false := by decide)
    (hcd : (x == ("__classdict__" : Str)) = false := by decide) : DE X Wi (.Name x pos) (eV i) := de_v (pv i hN hv hd hcd)
theorem dvf (i : Nat) {X : Cx} {Wi : Wish} {x : Str} {pos : Pos} (hN : X.N[i]? = some x := by rfl) (hv : Vis X.env.scope x := by first | exact Or.inl rfl | exact Or.inr (Or.inl rfl) | exact Or.inr (Or.inr rfl)) (hd : (x == ("__debug__" : Str)) = false := by decide)
    (hcd : (x == ("__classdict__" : Str)) = false := by decide) : DE X Wi (.Name x pos) (eVf i) := de_vf (pv i hN hv hd hcd)

/-! ### ints -/
def gI2 (c : Int → Int → Bool) (f : Int → Int → D) : D → D → Option D
  | .int i, .int j => if c i j = true then some (f i j) else none
  | _, _ => none
theorem opd_i2 {K : PySem.W.Frag} {R : Int → Int → Prop} {c : Int → Int → Bool} {f : Int → Int → D} {fv : Int → Int → V} (hc : ∀ i j, c i j = true → R i j) (hf : ∀ G i j, DD K G (fv i j) (f i j)) : OpD K (rI R fv) (gI2 c f) := by
  intro G H x y a b d Q s ha hb e z
  cases a with
  | int i =>
    cases b with
    | int j =>
      obtain ⟨h, rfl⟩ := ifs_some (show (if c i j = true then some (f i j) else none) = some d from e)
      exact ⟨i, j, ha.int, hb.int, hc i j h, z _ _ _ (Al.refl s) (hf _ _ _)⟩
    | _ => cases e
  | _ => cases b <;> cases e
theorem opd_i0 {K : PySem.W.Frag} {f : Int → Int → D} {fv : Int → Int → V} (hf : ∀ G i j, DD K G (fv i j) (f i j)) : OpD K (rI0 fv) (gI2 (fun _ _ => true) f) := by
  intro G H x y a b d Q s ha hb e z
  cases a with
  | int i =>
    cases b with
    | int j =>
      obtain ⟨h, rfl⟩ := ifs_some (show (if true = true then some (f i j) else none) = some d from e)
      exact ⟨i, j, ha.int, hb.int, z _ _ _ (Al.refl s) (hf _ _ _)⟩
    | _ => cases e
  | _ => cases b <;> cases e
def gLe := gI2 (fun _ _ => true) fun i j => .bl (decide (i ≤ j))
def gGt := gI2 (fun _ _ => true) fun i j => .bl (decide (j < i))
def gGe := gI2 (fun _ _ => true) fun i j => .bl (decide (j ≤ i))
theorem opd_le {K : PySem.W.Frag} : OpD K (rI0 fun i j => .bl (decide (i ≤ j))) gLe := opd_i0 fun _ _ _ => .bl _
theorem opd_gt {K : PySem.W.Frag} : OpD K (rI0 fun i j => .bl (decide (j < i))) gGt := opd_i0 fun _ _ _ => .bl _
theorem opd_ge {K : PySem.W.Frag} : OpD K (rI0 fun i j => .bl (decide (j ≤ i))) gGe := opd_i0 fun _ _ _ => .bl _
def cMul (i j : Int) : Bool := (decide (-(2 ^ 64) < i) && decide (i < 2 ^ 64)) || (decide (-(2 ^ 64) < j) && decide (j < 2 ^ 64))
def gMulI := gI2 cMul fun i j => .int (i * j)
theorem opd_mulI {K : PySem.W.Frag} : OpD K (rI CMul fun i j => .int (i * j)) gMulI := opd_i2 (fun i j h => by
  unfold cMul at h
  rw [Bool.or_eq_true, Bool.and_eq_true, Bool.and_eq_true] at h
  rcases h with h | h
  · exact .inl ⟨of_decide_eq_true h.1, of_decide_eq_true h.2⟩
  · exact .inr ⟨of_decide_eq_true h.1, of_decide_eq_true h.2⟩) fun _ _ _ => .int _
def gMod := gI2 (fun _ j => decide (0 < j)) fun i j => .int (i % j)
theorem opd_mod {K : PySem.W.Frag} : OpD K (rI (fun _ j => 0 < j) fun i j => .int (i % j)) gMod := opd_i2 (fun i j h => of_decide_eq_true h) fun _ _ _ => .int _
def gDiv := gI2 (fun _ j => decide (0 < j) && decide (j < 1073741824)) fun i j => .int (i / j)
theorem opd_div {K : PySem.W.Frag} : OpD K (rI CDiv fun i j => .int (i / j)) gDiv := opd_i2 (fun i j h => by
  rw [Bool.and_eq_true] at h
  exact ⟨of_decide_eq_true h.1, of_decide_eq_true h.2⟩) fun _ _ _ => .int _
def cPow (i j : Int) : Bool := decide (0 ≤ j) && decide (j ≤ 1000) && decide (i.natAbs ≤ 1000)
def gPow := gI2 cPow fun i j => .int (i ^ j.toNat)
theorem opd_pow {K : PySem.W.Frag} : OpD K (rI CPow fun i j => .int (i ^ j.toNat)) gPow := opd_i2 (fun i j h => by
  unfold cPow at h
  rw [Bool.and_eq_true, Bool.and_eq_true] at h
  have h2 := of_decide_eq_true h.1.2
  have h3 := of_decide_eq_true h.2
  exact ⟨of_decide_eq_true h.1.1, by omega, by omega⟩) fun _ _ _ => .int _
def gNeg : D → Option D
  | .int i => some (.int (-i))
  | _ => none
theorem und_neg {K : PySem.W.Frag} : UnD K (rU fun i => .int (-i)) gNeg := by
  intro G H x a d Q s ha e z
  cases a with
  | int i => cases e; exact ⟨i, ha.int, z _ _ _ (Al.refl s) (.int _)⟩
  | _ => cases e
/-- a list or an int times an int -/
def gMul : D → D → Option D
  | .int i, b => gMulI (.int i) b
  | .lst l, b => gRep (.lst l) b
  | _, _ => none
theorem opd_mul {K : PySem.W.Frag} : OpD K (fun x y H Q => rI CMul (fun i j => .int (i * j)) x y H Q ∨ rRep x y H Q) gMul := by
  intro G H x y a b d Q s ha hb e z
  cases a with
  | int i => exact .inl (opd_mulI G H x y _ _ d Q s ha hb e z)
  | lst l => exact .inr (opn_rep.d G H x y _ _ d Q s ha hb e z)
  | _ => cases e
theorem op_mulR {X : Cx} : OpR X (binaryOp .Mult) (fun x y H Q => rI CMul (fun i j => .int (i * j)) x y H Q ∨ rRep x y H Q) := op_mul.or op_rep
/-! ### None -/
def isNon : D → Bool
  | .non => true
  | _ => false
def gIsN (neg : Bool) (a b : D) : Option D := if isNon b = true then some (.bl (if neg then !isNon a else isNon a)) else none
theorem isNon_ok {K : PySem.W.Frag} {G H : Hp} {v : V} {d : D} (h : BD K G H v d) : decide (v = .non) = isNon d := by
  cases h with
  | dat h => cases h <;> simp [isNon]
  | own ev o => subst ev; cases d <;> first | exact o.elim | simp [isNon]
theorem opd_isN {K : PySem.W.Frag} : OpD K (fun x y H Q => y = .non ∧ Q (.bl (decide (x = .non))) H) (gIsN false) := by
  intro G H x y a b d Q s ha hb e z
  obtain ⟨h, rfl⟩ := ifs_some e
  cases b with
  | non => exact ⟨hb.non, by rw [isNon_ok ha]; exact z _ _ _ (Al.refl s) (.bl _)⟩
  | _ => cases h
theorem opd_notN {K : PySem.W.Frag} : OpD K (fun x y H Q => y = .non ∧ Q (.bl (!decide (x = .non))) H) (gIsN true) := by
  intro G H x y a b d Q s ha hb e z
  obtain ⟨h, rfl⟩ := ifs_some e
  cases b with
  | non => exact ⟨hb.non, by rw [isNon_ok ha]; exact z _ _ _ (Al.refl s) (.bl _)⟩
  | _ => cases h
end DL
namespace DL
open PySem PySem.Spec PyProof.Rows L2 TL

def gPop0 : List D → List D → Option (D × List D) := fun ds es => if es.length = 0 then gPop ds es else none
def gPopAt : List D → List D → Option (D × List D) := fun ds es => if es.length = 1 then gPop ds es else none
theorem glen0 : ∀ (ds : List D) (E E' : Env), gNil' ds E = some E' → ds.length = 0
  | [], _, _, _ => rfl
  | _ :: _, _, _, h => by cases h
theorem glenS {g : GF} {gs : List D → Env → Option Env} {n : Nat} (h : ∀ (ds : List D) (E E' : Env), gs ds E = some E' → ds.length = n) : ∀ (ds : List D) (E E' : Env), gCons' g gs ds E = some E' → ds.length = n + 1
  | [], _, _, e => by cases e
  | d :: ds, E, E', e => by
    have e : ((g d E).bind fun E1 => gs ds E1) = some E' := e
    cases q : g d E with
    | none => rw [q] at e; cases e
    | some E1 => rw [q] at e; exact congrArg Nat.succ (h ds E1 E' e)
theorem glen2 {g1 g2 : GF} : ∀ (ds : List D) (E E' : Env), gCons' g1 (gCons' g2 gNil') ds E = some E' → ds.length = 2 := glenS (glenS glen0)
theorem glen3 {g1 g2 g3 : GF} : ∀ (ds : List D) (E E' : Env), gCons' g1 (gCons' g2 (gCons' g3 gNil')) ds E = some E' → ds.length = 3 := glenS (glenS (glenS glen0))
theorem glen4 {g1 g2 g3 g4 : GF} : ∀ (ds : List D) (E E' : Env), gCons' g1 (gCons' g2 (gCons' g3 (gCons' g4 gNil'))) ds E = some E' → ds.length = 4 := glenS (glenS (glenS (glenS glen0)))
/-- is it one of the class C -/
def isC (C C' : Addr) : Option Bool := if C' = C then some true else none
theorem isC_ok {K : PySem.W.Frag} {C : Addr} (h : InsOk K C) : ∀ (C' : Addr) (b : Bool), isC C C' = some b → InsOk K C' ∧ PySem.W.kitOne K (.ref C') (.ref C) = some b := fun C' b e => by
  have e : (if C' = C then some true else none) = some b := e
  by_cases hC : C' = C
  · rw [if_pos hC] at e
    cases e
    rw [hC]
    exact ⟨h, if_pos (beq_self_eq_true _)⟩
  · rw [if_neg hC] at e; cases e

theorem de_gs {X : Cx} {Wi : Wish} {x v : Str} {pos : Pos} (hg : Gl X x) (hm : ∃ t, X.mg x = some (.str v t)) (ok : SOk v) (hdb : (x == ("__debug__" : Str)) = false := by decide) : DE X Wi (.Name x pos) (eC (.str v)) := by
  obtain ⟨t, hm⟩ := hm
  exact de_g (v := .str v) hg hm ⟨t, rfl⟩ (fun _ => .str v ok) hdb
theorem de_gi {X : Cx} {Wi : Wish} {x : Str} {v : Int} {pos : Pos} (hg : Gl X x) (hm : ∃ t, X.mg x = some (.int v t)) (hdb : (x == ("__debug__" : Str)) = false := by decide) : DE X Wi (.Name x pos) (eC (.int v)) := by
  obtain ⟨t, hm⟩ := hm
  exact de_g (v := .int v) hg hm ⟨t, rfl⟩ (fun _ => .int v) hdb

/-! ### the deck's draws -/
theorem eqv_nil (l : List Int) : PyData.eqv (D.lst (l.map D.int)).py (D.lst []).py = l.isEmpty := by
  cases l <;> rfl
theorem dds_ints {K : PySem.W.Frag} {G : Hp} : ∀ l : List Int, DDs K G (l.map V.int) (l.map D.int)
  | [] => .nil
  | i :: l => .cons (.int i) (dds_ints l)
theorem plain_ints : ∀ l : List Int, plainL (l.map D.int) = true
  | [] => rfl
  | _ :: l => plain_ints l
section
variable {P : Program} {w : World} {K : PySem.W.Frag} {mg : Str → Option Value} {base : Heap} {f : Addr} {fd : FuncData} {x qual : Str} {st : Stmt}
abbrev ND : List Str := ["_law_deck_here", "_law_many", "_law_cell", "_law_blend"]
abbrev XD (P : Program) (w : World) (K : PySem.W.Frag) (mg : Str → Option Value) (base : Heap) (qual : Str) (st : Stmt) (f : Addr) (cdv : Value) (A : Around) (outer : List PySem.Env) (s : Shared) (H : Hp) (E : XK) : Cx := (cxOf CX0 P w K mg base ND qual (defScope st) f cdv A outer s H E).nox
theorem lk_left {q : Addr} {b : Int} : valV (κ := Key) [(.inr "left", .ref q), (.inr "blend", .int b)] (.inr "left") = some (.ref q) := by
  unfold valV
  rw [List.find?_cons_of_pos (by simp)]; rfl
theorem lk_blend {q : Addr} {b : Int} : valV (κ := Key) [(.inr "left", .ref q), (.inr "blend", .int b)] (.inr "blend") = some (.int b) := by
  have h : ¬ ((Sum.inr "left" : Key) = .inr "blend") := by decide +kernel
  unfold valV
  rw [List.find?_cons_of_neg (by simpa using h), List.find?_cons_of_pos (by simp)]; rfl
theorem put_blend {q : Addr} {b c : Int} : putK (κ := Key) [(.inr "left", .ref q), (.inr "blend", .int b)] (.inr "blend") (.int c) = [(.inr "left", .ref q), (.inr "blend", .int c)] := by
  have h : ¬ ((Sum.inr "left" : Key) = .inr "blend") := by decide +kernel
  unfold putK
  simp [h]
end
end DL
namespace DL
open PySem PySem.Spec PyProof.Rows L2 TL

/-! ### the law's own call, where no repr is under way -/
section
variable {P : Program} {w : World} {K : PySem.W.Frag} {mg mb : Str → Option Value} {k : Nat} {fa a : Addr} {fd : FuncData} {x : Str} {sp : Sp} {s : Shared} {us : List Value} {ns : List Int} {H : Hp}
/-- the script's list is all that may be tracked -/
theorem hid_there (ea : s.heap.get? a = some { cls := .type "list", data := .seq us.toArray }) (one : ∀ b, H b ≠ none → b = a) {b : Addr} {o : Obj} (hb : s.heap.get? b = some o) (nl : ∀ its n, o.data ≠ .seq its n) : (hidT s.heap H).get? b = some o := by
  refine hidT_get hb ?_
  cases q : H b with
  | none => rfl
  | some u =>
    have z := one b (by rw [q]; exact fun y => nomatch y)
    rw [z, ea] at hb
    exact absurd rfl (nl us.toArray _ |> fun h y => h (by rw [← Option.some.inj hb]))
theorem hid_ns (ea : s.heap.get? a = some { cls := .type "list", data := .seq us.toArray }) (one : ∀ b, H b ≠ none → b = a) {b : Addr} {m : Str → Option Value} (n : s.heap.Ns b m) : (hidT s.heap H).Ns b m := by
  obtain ⟨o, es, ep, h1, h2, h3⟩ := n
  exact ⟨o, es, ep, hid_there ea one h1 (fun its c y => by rw [h2] at y; cases y), h2, h3⟩
theorem hid_in (kin : K.In s.heap) (one : ∀ b, H b ≠ none → b = a) (ka : H a ≠ none → K.lookup a = none) : K.In (hidT s.heap H) := fun b o hb => by
  refine hidT_get (kin b o hb) ?_
  cases q : H b with
  | none => rfl
  | some u =>
    have ne : H b ≠ none := by rw [q]; exact fun y => nomatch y
    have z := one b ne
    rw [z] at ne hb
    rw [ka ne] at hb; cases hb
/-- how the law ends -/
def Ended (s : Shared) (r : Result) (s' : Shared) : Prop := r = .ok (.ret (.bool true)) ∧ OldK s.heap s'.heap ∧ s'.os = s.os ∧ AllBare s'.gens
theorem law_go (kin : K.In s.heap) (gl : s.heap.Ns mainGlobals mg) (bl : s.heap.Ns builtinsNs mb) (bb : ∀ x : Str, x ≠ "__name__" → mb x = bootBuiltins x) (nl : s.heap.NoLimit) (ng : s.gens = #[]) (ea : s.heap.get? a = some { cls := .type "list", data := .seq us.toArray }) (hr : Room k callerA)
    (F : ∀ base : Heap, K.In base → base.Ns mainGlobals mg → FnG P w K mg base CX0 k fa fd [x] sp) (bind : ∀ (s : Shared) (u : Value), BindsTo s fd ⟨[u], []⟩ [(x, u)]) (only : Only H) (ok : HOk P w H s.heap) (one : ∀ b, H b ≠ none → b = a) (ka : H a ≠ none → K.lookup a = none)
    (hsp : sp [.ref a] H (fun v _ => v = .bl true) fun _ _ _ => False) : codeAny (model P w) callerA (.call (.ref fa) ⟨[.ref a], []⟩) (Ended s) s := by
  have kin2 := hid_in (s := s) kin one ka
  have gl2 := hid_ns ea one gl
  have modl : Mod K mg (hidT s.heap H) := by
    obtain ⟨mc, n1, n2⟩ := nl
    exact ⟨kin2, gl2, ⟨mb, hid_ns ea one bl, bb⟩, ⟨mc, hid_ns ea one n1, n2⟩⟩
  have en : Env0 P w K mg (hidT s.heap H) callerA [] s H := ⟨rfl, modl, fun _ _ e => of_hidT e, Nat.le_of_eq (hidT_size _ _), trivial, fun b hb => (nomatch (show b ∈ ([] : List Addr) from hb)), ok, .of_eq ng⟩
  refine codeAny_mono ((F _ kin2 gl2).go callerA [] s H ⟨[.ref a], []⟩ [.ref a] [.ref a] _ _ rfl hr en (bind s (.ref a)) (.cons rfl .nil) hsp) fun r s' z => ?_
  match r, z with
  | .error _, z => exact z.elim
  | .ok .next, z => exact z.elim
  | .ok .brk, z => exact z.elim
  | .ok .cont, z => exact z.elim
  | .ok (.ret u), z =>
    obtain ⟨v, H', os, bare, un, ok', ru, ev⟩ := z
    have ev : v = .bl true := ev
    subst ev
    cases ru
    refine ⟨rfl, OldK.of_keep fun b o e => ?_, os, bare⟩
    rcases only b with z | ⟨ob, xs, z⟩
    · exact un.keep b o e z (fun y => nomatch (show b ∈ ([] : List Addr) from y)) (fun y => nomatch y)
    · have h1 := (ok b _ z).1
      have h2 := (ok' b _ (un.frzs b ob _ z)).1
      rw [e] at h1; cases h1
      exact h2
/-- .. whatever the script's list is -/
theorem law_callG (kin : K.In s.heap) (gl : s.heap.Ns mainGlobals mg) (bl : s.heap.Ns builtinsNs mb) (bb : ∀ x : Str, x ≠ "__name__" → mb x = bootBuiltins x) (nl : s.heap.NoLimit) (ng : s.gens = #[]) (ea : s.heap.get? a = some { cls := .type "list", data := .seq us.toArray }) (ei : IntsAre us ns) (hz : ns.length ≤ sizeLine) (hr : Room k callerA)
    (F : ∀ base : Heap, K.In base → base.Ns mainGlobals mg → FnG P w K mg base CX0 k fa fd [x] sp) (bind : ∀ (s : Shared) (u : Value), BindsTo s fd ⟨[u], []⟩ [(x, u)])
    (hsp : ∀ H : Hp, SqL K H a (ns.map V.int) → sp [.ref a] H (fun v _ => v = .bl true) fun _ _ _ => False) : codeAny (model P w) callerA (.call (.ref fa) ⟨[.ref a], []⟩) (Ended s) s := by
  have rv := vals_ints ei
  have lu := ei.length
  cases q : K.lookup a with
  | some o =>
    have eo := kin a o q
    rw [ea] at eo; cases eo
    have sq : SqL K (fun _ => none) a (ns.map V.int) := .inr ⟨_, us.toArray, _, q, rfl, rfl, rfl, by rw [List.size_toArray, lu]; exact hz, by simpa using rv⟩
    exact law_go kin gl bl bb nl ng ea hr F bind (H := fun _ => none) (fun _ => .inl rfl) (fun b u z => (nomatch (show (none : Option HO) = some u from z))) (fun _ z => absurd rfl z) (fun z => absurd rfl z) (hsp _ sq)
  | none =>
    let HA : Hp := fun b => if b = a then some (.frz { cls := .type "list", data := .seq us.toArray } (.lst (ns.map V.int))) else none
    have at_ : HA a = some (.frz { cls := .type "list", data := .seq us.toArray } (.lst (ns.map V.int))) := if_pos rfl
    have off : ∀ b, b ≠ a → HA b = none := fun b h => if_neg h
    refine law_go kin gl bl bb nl ng ea hr F bind (H := HA) (fun b => ?_) (fun b u z => ?_) (fun b z => ?_) (fun _ => q) (hsp HA (.inl (.inr ⟨_, at_⟩)))
    · by_cases e : b = a
      · exact .inr ⟨_, _, e ▸ at_⟩
      · exact .inl (off b e)
    · by_cases e : b = a
      · subst e
        rw [at_] at z; cases z
        exact ⟨ea, by rw [List.length_map]; exact hz, us, _, rv, ea⟩
      · rw [off b e] at z; cases z
    · exact Decidable.byContradiction fun e => z (off b e)
end
theorem walk_G {l : PySem.W.OpenLaw} {n k : Nat} {q : Program} {loose : List Str} {XP : (Str → Option Value) → Heap → Prop} {YP : World → Heap → Prop} {d : DefRec} {K : Params → PySem.W.Frag} {sp : World → Sp} {x : Str} (most : l.most = some n) (small : n ≤ sizeLine) (nodef : d.params.defaults = []) (hr : Room k callerA) (kin : ∀ (w : World) (h : Heap), YP w h → (K w.params).In h)
    (F : ∀ (w : World) (mg : Str → Option Value) (fa : Addr) (h : Heap), (K w.params).In h → h.Ns mainGlobals mg → mg d.name = some (.ref fa) → ∃ fd : FuncData, (∀ (s : Shared) (u : Value), BindsTo s fd ⟨[u], []⟩ [(x, u)]) ∧ ∀ base : Heap, (K w.params).In base → base.Ns mainGlobals mg → FnG l.prog w (K w.params) mg base CX0 k fa fd [x] (sp w))
    (hsp : ∀ (w : World) (H : Hp) (a : Addr) (ns : List Int), ns.length ≤ n → SqL (K w.params) H a (ns.map V.int) → sp w [.ref a] H (fun v _ => v = .bl true) fun _ _ _ => False) :
    PySem.W.WalkO q loose XP YP l.row.toRowW d [] (fun f vs => PySem.call f vs) := by
  refine Att.attach_call most nodef fun w s0 s mg mb fa o pm cd doc a us ns G Y ho hd hcd hmg hobj hints hlen hgens => ?_
  have kh := kin w _ Y
  obtain ⟨fd, bind, hF⟩ := F w mg fa _ kh G.T.g hmg
  exact law_callG kh G.T.g G.T.b G.T.builtins G.T.nolimit hgens hobj hints (Nat.le_trans hlen small) hr hF bind fun H sq => hsp w H a ns hlen sq
end DL
namespace DL
open PySem PySem.Spec PyProof.Rows L2 TL

/-- a new deck -/
def spDeck (K : PySem.W.Frag) : Sp := fun vs H Q _ => ∃ (a : Addr) (ns : List Int), vs = [.ref a] ∧ SqL K H a (ns.map V.int) ∧ ns.length ≤ 63 ∧ ∀ (p q : Addr) (l : List Int) (b : Int) (H' : Hp), Same H H' → H p = none → H q = none → p ≠ q → l.length ≤ 63 → DeckAt H' p q l b → Q (.ref p) H'
def cutI (xs : List Int) (lo hi : Option Int) : List Int := (xs.drop (HT.sIx xs.length 0 lo)).take (HT.sIx xs.length xs.length hi - HT.sIx xs.length 0 lo)
theorem cutV_ints (xs : List Int) (lo hi : Option Int) : cutV (xs.map V.int) lo hi = (cutI xs lo hi).map V.int := by
  unfold cutV cutI
  rw [List.length_map, List.map_take, List.map_drop]
theorem cutI_len (xs : List Int) (lo hi : Option Int) : (cutI xs lo hi).length ≤ xs.length := by
  unfold cutI
  rw [List.length_take, List.length_drop]; omega
theorem int_at {ns : List Int} {i : Nat} {x : V} (h : (ns.map V.int)[i]? = some x) : ∃ c, x = .int c ∧ i < ns.length := by
  rw [List.getElem?_map] at h
  cases e : ns[i]? with
  | none => rw [e] at h; cases h
  | some c => rw [e] at h; cases h; exact ⟨c, rfl, (List.getElem?_eq_some_iff.mp e).1⟩
theorem merge2 {q : Addr} {b : Int} : mergeK [] [((.inr "left" : Key), V.ref q), (.inr "blend", .int b)] = [(.inr "left", .ref q), (.inr "blend", .int b)] := by
  have h : ¬ ((Sum.inr "left" : Key) = .inr "blend") := by decide +kernel
  unfold mergeK putK
  simp [h, putK]
theorem notFirst_self {K : PySem.W.Frag} {C C' : Addr} (h : C' ∈ [C]) : PySem.W.notFirst K C (.ref C') = true := by
  rw [List.mem_singleton.mp h]
  unfold PySem.W.notFirst
  rw [beq_self_eq_true]; rfl
/-- the law's frame behind its first statement -/
theorem StE.law {K : PySem.W.Frag} {H : Hp} {σ : L2.St} {p q : Addr} {l : List Int} {b : Int} {n : Nat} (hl : σ.length = n + 2) (h1 : σ[1]? = some (some (.ref p))) (npq : p ≠ q) (dk : DeckAt H p q l b) :
    StE K ⟨fun _ => none, fun _ => none, []⟩ (fun _ => none) H σ (.no :: .deck p q l b :: nos n) fun i => if i = 1 then [p, q] else [] := by
  refine ⟨by rw [hl]; unfold nos; simp, Same.refl _, fun _ _ h => (nomatch h), fun _ _ h => (nomatch h), fun _ _ => rfl, fun _ _ h => absurd rfl h, fun i c e => ?_, fun i j a h1 h2 => ?_, fun i a h => ⟨rfl, .inl rfl⟩, fun i h => ?_⟩
  · match i, e with
    | 0, e => cases e; exact ⟨_, List.getElem?_eq_getElem (by omega), rfl⟩
    | 1, e => cases e; exact ⟨_, h1, rfl, rfl, dk⟩
    | i + 2, e =>
      have e : (nos n)[i]? = some c := e
      unfold nos at e
      rw [List.getElem?_replicate] at e
      split at e
      · rename_i hi
        cases e
        exact ⟨_, List.getElem?_eq_getElem (by omega), if_neg (by omega)⟩
      · cases e
  · by_cases hi : i = 1
    · by_cases hj : j = 1
      · rw [hi, hj]
      · rw [if_neg hj] at h2; cases h2
    · rw [if_neg hi] at h1; cases h1
  · have : i ≠ 1 := fun z => by subst z; simp at h
    rw [if_neg this]
theorem law_read {K : PySem.W.Frag} {N : List Str} {n : Nat} {fb : SF} {H : Hp} {Q : VK} {nx : L2.St → Hp → Prop} {bk ct : L2.St → Hp → Prop} {a : Addr} {ns : List Int} (hN : N.length = n + 2)
    (hm : ∀ (p q : Addr) (l : List Int) (b : Int), l.length ≤ 63 → ∃ E, fb (.no :: .deck p q l b :: nos n) = .ok (.rt (.bl true), E)) (hS : SqL K H a (ns.map V.int)) (hl : ns.length ≤ 63) (z : ∀ H', Q (.bl true) H') :
    tSeq (tAsg (tCallG (spDeck K) W0 (tCons (tVar 0) tNil)) (gName 1)) (tS K W0 fb) { nx := nx, rt := Q, bk := bk, ct := ct } (L2.start N [.ref a]) H := by
  have len : (L2.start N [.ref a]).length = n + 2 := by
    rw [start_len (by simp only [List.length_cons, List.length_nil]; omega)]; exact hN
  refine ⟨_, start_get (v := .ref a) rfl, a, ns, rfl, hS, hl, fun p q l b H' s hp hq npq hll dk => ?_⟩
  refine ⟨_, _, _, _, StE.law (q := q) (l := l) (b := b) (n := n) (by rw [List.length_set]; exact len) (List.getElem?_set_self (by rw [len]; omega)) npq dk, ?_⟩
  obtain ⟨E, e⟩ := hm p q l b hll
  rw [e]
  intro v σ' G' H'' as' _ _ dd
  cases dd
  exact z _
end DL
namespace DL
open PySem PySem.Spec PyProof.Rows L2 TL
/-! ### a op b op' c -/
section
variable {X : Cx} {Wi : Wish} {a b c : Expr} {fa fb fc : EF} {pos : Pos} {g g' : D → D → Option D} {r r' : R2}
def eCh (g g' : D → D → Option D) (fa fb fc : EF) : EF := fun E => (fa E).bind fun p => (fb p.2).bind fun q => (rd q.2 p.1).bind fun x => (rd q.2 q.1).bind fun y => (ofO ((g x y).bind asB)).bind fun k =>
  if k = true then (fc q.2).bind fun r => (rd r.2 q.1).bind fun y' => (rd r.2 r.1).bind fun z => (ofO (g' y' z)).bind fun d => .ok (.dat d, r.2) else .ok (.dat (.bl false), q.2)
theorem tCh_of (hg : OpD X.K r g) (hg' : OpD X.K r' g') : ∀ σ H Q, tE X.K Wi (eCh g g' fa fb fc) σ H Q → tChain r r' (tE X.K Wi fa) (tE X.K Wi fb) (tE X.K Wi fc) σ H Q := by
  intro σ H Q q
  obtain ⟨F, G, E, as, st, p⟩ := q
  refine ⟨F, G, E, as, st, Po.mono (fun x H1 m => ?_) (Po.bind p)⟩
  obtain ⟨w1, G1, E1, as1, s1, st1, wo1, p1⟩ := m
  refine ⟨F, G1, E1, as1, st1, Po.mono (fun y H2 m => ?_) (Po.bind p1)⟩
  obtain ⟨w2, G2, E2, as2, s2, st2, wo2, p2⟩ := m
  obtain ⟨d1, e1, p2⟩ := Po.rd p2
  obtain ⟨d2, e2, p2⟩ := Po.rd p2
  obtain ⟨k, e3, p2⟩ := Po.of p2
  have e4 : g d1 d2 = some (.bl k) := by
    cases h : g d1 d2 with
    | none => rw [h] at e3; cases e3
    | some d =>
      rw [h] at e3
      cases d with
      | bl b => cases e3; rfl
      | _ => cases e3
  refine hg G2 H2 x y d1 d2 (.bl k) _ st2.s1 (wo1.rd s2 st2 e1) (wo2.rd (Same.refl _) st2 e2) e4 fun v G' H' al dd => ?_
  cases dd
  refine ⟨k, rfl, ?_⟩
  cases k with
  | false => exact Po.rz st2 p2 (.bl false) G' H' al (.bl false)
  | true =>
    have p2 := Po.up al.g p2
    rw [if_pos rfl] at p2
    refine ⟨F, G', E2, as2, st2.al al, Po.mono (fun w' H4 m => ?_) (Po.bind p2)⟩
    obtain ⟨w3, G3, E3, as3, s3, st4, wo3, p3⟩ := m
    obtain ⟨d2', e5, p3⟩ := Po.rd p3
    obtain ⟨d3, e6, p3⟩ := Po.rd p3
    obtain ⟨d, e7, p3⟩ := Po.of p3
    exact hg' G3 H4 y w' d2' d3 d Q st4.s1 (wo2.rd (al.g.trans s3) st4 e5) (wo3.rd (Same.refl _) st4 e6) e7 (Po.rz st4 p3)
theorem de_chain {op op' : CmpOp} (ho : OpR X (compareOp op) r) (hg : OpD X.K r g) (ho' : OpR X (compareOp op') r') (hg' : OpD X.K r' g') (ha : DE X Wi a fa) (hb : DE X Wi b fb) (hc : DE X Wi c fc)
    (hm : lastMarks [op, op'] [b, c] = false := by with_unfolding_all rfl) : DE X Wi (.Compare a [op, op'] [b, c] pos) (eCh g g' fa fb fc) :=
  PE.imp (pe_chain ho ho' ha hb hc hm) (tCh_of hg hg')
theorem dt_chain {op op' : CmpOp} (ho : OpR X (compareOp op) r) (hg : OpD X.K r g) (ho' : OpR X (compareOp op') r') (hg' : OpD X.K r' g') (ha : DE X Wi a fa) (hb : DE X Wi b fb) (hc : DE X Wi c fc)
    (hm : lastMarks [op, op'] [b, c] = false := by with_unfolding_all rfl) : DT X Wi (.Compare a [op, op'] [b, c] pos) (tB (eCh g g' fa fb fc)) :=
  PT.imp (pt_chain ho ho' ha hb hc hm) fun σ H Q q => tCh_of hg hg' σ H _ (tB_of σ H Q q)
end
end DL
namespace DL
open PySem PySem.Spec PyProof.Rows L2 TL
/-! ### sorted(texts, key=len) -/
def lenD : D → Int
  | .str x => x.length
  | _ => 0
def leLen (a b : D) : Bool := decide (lenD a ≤ lenD b)
def isStrD : D → Bool
  | .str _ => true
  | _ => false
def gSortLen : List D → Option D
  | [.lst ds] => if ds.all isStrD = true then some (.lst (ds.mergeSort leLen)) else none
  | _ => none
def rSortL (K : PySem.W.Frag) : List V → Hp → VK → Prop := fun xs H Q => ∃ G a vs ds, xs = [.ref a] ∧ Same G H ∧ H a = some (.lst vs) ∧ vs.length ≤ sizeLine ∧ DDs K G vs ds ∧ ds.all isStrD = true ∧ ∀ p ws, H p = none → DDs K G ws (ds.mergeSort leLen) → Q (.ref p) (upd H p (.lst ws))
theorem calln_sortL {K : PySem.W.Frag} : CallN K (rSortL K) gSortLen := by
  intro G H xs ds d Q s h e z
  match ds, e with
  | [.lst ds], e =>
    obtain ⟨h0, rfl⟩ := ifs_some (show (if ds.all isStrD = true then some (D.lst (ds.mergeSort leLen)) else none) = some d from e)
    obtain ⟨v, rfl, b⟩ := h.one
    obtain ⟨a, vs, rfl, h1, z1, d1⟩ := b.lst s
    refine ⟨G, a, vs, ds, rfl, s, h1, z1, d1, h0, fun q ws hq dd => z q _ hq (Al.one s hq).h ⟨ws, upd_same, ?_, dd⟩⟩
    rw [dd.len, (List.mergeSort_perm ds leLen).length_eq, ← d1.len]; exact z1
theorem each_str {K : PySem.W.Frag} {G : Hp} : ∀ {vs : List V} {us : List Value} {ds : List D}, Vals vs us → DDs K G vs ds → PySem.W.EachIs (fun u d => ∃ v, RelV v u ∧ DD K G v d) us ds
  | _, _, _, .nil, .nil => .nil
  | _, _, _, .cons r rs, .cons a b => .cons ⟨_, r, a⟩ (each_str rs b)
section
variable {X : Cx}
theorem call_sortL (hu : X.A.units + 64 < cLine) {pins : List (Addr × Obj)} {s : Shared} {σ : L2.St} {H : Hp} {xs : List V} {us : List Value} {Q : VK} (I : Inv X pins σ H s) (r : Vals xs us) (h : rSortL X.K xs H Q) :
    wpAny (model X.prog X.w) X.A (call (.builtin "sorted") us [(Str.ofString "key", .builtin "len")]) (EP X pins σ Q) X.xe s := by
  obtain ⟨G, a, vs, ds, rfl, sm, hv, hz, dd, ok, q⟩ := h
  obtain ⟨its, rv, hl, _⟩ := I.list (SqL.of hv)
  rw [Vals.ref1 r]
  have e1 := each_str rv dd
  refine PySem.W.sorted_key_data (bs := ds) (b := false) (fun d => .int (lenD d)) hl.isList e1 (fun d hd d' hd' => ?_) (.inr fun d hd => ?_) (by rw [← dd.len]; exact hz) (fun b hb => ?_) (ksk_s1 _ _) (fun _ => ksk_l1 _ _) (fun _ => rfl)
    (fun u x hR hx hh tk kp => ?_) fun out c h' tk kp _ hD ho eo => ?_
  · obtain ⟨b, _, rfl⟩ := List.mem_map.mp hd
    obtain ⟨b', _, rfl⟩ := List.mem_map.mp hd'
    rfl
  · obtain ⟨b, _, rfl⟩ := List.mem_map.mp hd
    exact ⟨fun e => (nomatch e), fun _ e => (nomatch e)⟩
  · show X.A.units + 2 + 0 < cLine
    omega
  · have hs := List.all_eq_true.mp ok x hx
    cases x with
    | str y =>
      obtain ⟨v, rl, dv⟩ := hR
      cases dv with
      | str _ hok =>
        obtain ⟨t, rfl⟩ := rl
        have h63 := line63
        have hse : sizeLine = 16777216 := sizeLine_eq
        refine len_str (by have := hok.1; omega) ?_
        exact ⟨hh, _, rfl, fun _ _ e => e, .int _ _⟩
    | _ => cases hs
  · have el : PySem.W.dataLe false (fun d : D => PyData.int (lenD d)) = leLen := by
      rw [PySem.W.dataLe_int lenD]; rfl
    rw [el] at eo
    obtain ⟨ws, w1, w2⟩ := of_each eo
    have hlen : ws.length ≤ sizeLine := by rw [w1.length, ho, ← dd.len]; exact hz
    exact ⟨.ref _, upd H (s.heap.objs.size + 1) (.lst ws), I.laid (t' := tk) kp (Nat.le_succ _) ⟨hlen, out, c, w1, hD⟩, rfl, q _ ws (I.hok.fresh (Nat.le_succ _)) w2⟩
theorem pe_sortLen {e : Expr} {p p2 p3 pos : Pos} {t : TA} (hu : X.A.units + 64 < cLine) (hg : Gl X "sorted") (hm : X.mg "sorted" = none) (hg2 : Gl X "len") (hm2 : X.mg "len" = none) (ha : PA X [e] t)
    (he : backTo pos (starEach [e] X.env) = (false, eval e X.env) :: backTo pos (starEach [] X.env) := by rfl) (hpl : (backTo pos (starEach [e] X.env)).any (·.1) = false := by rfl)
    (hall : (backToKw pos (keywordEach [⟨some (Str.ofString "key"), .Name (Str.ofString "len") p2, p3⟩] X.env)).all (·.1.isSome) = true := by rfl) (hnone : (backToKw pos (keywordEach [⟨some (Str.ofString "key"), .Name (Str.ofString "len") p2, p3⟩] X.env)).any (·.1.isNone) = false := by rfl)
    (hks : (backToKw pos (keywordEach [⟨some (Str.ofString "key"), .Name (Str.ofString "len") p2, p3⟩] X.env)).filterMap (·.1) = [Str.ofString "key"] := by rfl) :
    PE X (.Call (.Name (Str.ofString "sorted") p) [e] [⟨some (Str.ofString "key"), .Name (Str.ofString "len") p2, p3⟩] pos) (tCB (rSortL X.K) t) := by
  refine ⟨fun pins s σ H Q I h => ?_⟩
  refine wpAny_Call_Name_kw (ld_blt I hg hm PyProof.Rows.boot_sorted ?_)
  refine PyProof.Rows.callWith_kw (thn (ha.run pos pins s σ H _ I h) fun us s1 ⟨vs, H1, I1, r1, q1⟩ => ?_) he hpl hall hnone
  rw [hks]
  show wpAny _ _ (evalAll [(do let v ← eval (.Name (Str.ofString "len") p2) X.env; standAt pos; pure v)]) _ _ s1
  refine wpAny_evalAll_cons (wpAny_bind (ld_blt I1 hg2 hm2 PySem.boot_len (wpAny_bind (wpAny_standAt (wpAny_pure (wpAny_evalAll_nil ?_))))))
  exact call_sortL hu I1 r1 q1
theorem dn_sortLen {Wi : Wish} {e : Expr} {p p2 p3 pos : Pos} {fs : AF} (hu : X.A.units + 64 < cLine) (hg : Gl X "sorted") (hm : X.mg "sorted" = none) (hg2 : Gl X "len") (hm2 : X.mg "len" = none) (ha : DA X Wi [e] fs)
    (he : backTo pos (starEach [e] X.env) = (false, eval e X.env) :: backTo pos (starEach [] X.env) := by rfl) (hpl : (backTo pos (starEach [e] X.env)).any (·.1) = false := by rfl) :
    DN X Wi (.Call (.Name (Str.ofString "sorted") p) [e] [⟨some (Str.ofString "key"), .Name (Str.ofString "len") p2, p3⟩] pos) (nCall gSortLen fs) :=
  PE.imp (pe_sortLen hu hg hm hg2 hm2 ha he hpl) (tCBN_of calln_sortL)
end
end DL
namespace DL
open PySem PySem.Spec PyProof.Rows L2 TL
/-! ### a comprehension over the frame's own list, which stays the frame's own -/
def compO (vs : List Nat) (i n : Nat) (g : GF) (fc : BF) (fe : EF) (E0 : Env) : Nat → List D → Env → Res (D × Env)
  | 0, acc, E => (ofO (ownL E i)).bind fun ds => if ds.length = n then .ok (.lst acc, E) else .stuck
  | m + 1, acc, E => (ofO (ownL E i)).bind fun ds => if ds.length = n then (ofO ds[n - (m + 1)]?).bind fun d => (ofO (g d (wipeE E vs))).bind fun E1 => (noErr (fc E1)).bind fun p =>
      if p.1 = true then (noErr (fe p.2)).bind fun q => (ofO (asDat q.1)).bind fun y => compO vs i n g fc fe E0 m (acc ++ [y]) (backE E0 q.2 vs)
      else compO vs i n g fc fe E0 m acc (backE E0 p.2 vs) else .stuck
def nCompO (vs : List Nat) (i : Nat) (g : GF) (fc : BF) (fe : EF) : NF := fun E => (ofO (ownL E i)).bind fun ds => if vs.all (fun v => plainC E[v]?) = true then compO vs i ds.length g fc fe E ds.length [] E else .stuck
theorem StE.ownL {K : PySem.W.Frag} {F : Fr} {G H : Hp} {σ : L2.St} {E : Env} {as : Nat → List Addr} {i : Nat} {ds : List D} (st : StE K F G H σ E as) (e : DL.ownL E i = some ds) : ∃ a vs, σ[i]? = some (some (.ref a)) ∧ H a = some (.lst vs) ∧ vs.length ≤ sizeLine ∧ DDs K G vs ds := by
  unfold DL.ownL at e
  split at e
  · rename_i ds' e1
    cases e
    obtain ⟨v, e2, x⟩ := st.cell i _ e1
    obtain ⟨a, _, rfl, vs, h1, h2, h3⟩ := x
    exact ⟨a, vs, e2, h1, h2, h3⟩
  · cases e
theorem tLcO_of {K : PySem.W.Frag} {Wi : Wish} {i : Nat} {g : GF} {ts vs : List Nat} {fc : BF} {fe : EF} {tt : TT} {te : TE} (hts : ∀ t ∈ ts, t ∈ vs)
    (ht : ∀ σ H Q, tT K W0 fc σ H Q → tt σ H Q) (he : ∀ σ H Q, tE K W0 fe σ H Q → te σ H Q) :
    ∀ σ H Q, tN K Wi (nCompO vs i g fc fe) σ H Q → tLc (iList K (tVar i)) (tG K ts g) tt te vs σ H Q := by
  intro σ H Q q
  obtain ⟨F, G1, E1, as1, st1, p⟩ := q
  obtain ⟨ds0, e0, p1⟩ := PoN.of p
  obtain ⟨a0, vl0, ea0, hv0, hz0, dd0⟩ := st1.ownL e0
  refine ⟨_, ea0, a0, rfl, ⟨vl0, SqL.of hv0⟩, ?_⟩
  obtain ⟨n, hn⟩ : ∃ n, n = ds0.length := ⟨_, rfl⟩
  have hnz : n ≤ sizeLine := by rw [hn, ← dd0.len]; exact hz0
  have p1 : PoN K Wi F G1 σ Q (if vs.all (fun v => plainC E1[v]?) = true then compO vs i ds0.length g fc fe E1 ds0.length [] E1 else .stuck) := p1
  rw [← hn] at p1

  intro D0 hD
  by_cases hpl : vs.all (fun v => plainC E1[v]?) = true
  · rw [if_pos hpl] at p1
    have hpl' : ∀ v ∈ vs, plainC E1[v]? = true := List.all_eq_true.mp hpl
    have al0 : Al G1 H G1 (upd H D0 (.lst [])) := Al.grow st1.s1 fun b u q => by rw [upd_ne (ne_of_none q hD)]; exact q
    refine ⟨fun k m H => m = n - k ∧ k ≤ n ∧ ∃ acc av G2 E2 as2, Same G1 G2 ∧ StE K F G2 H σ E2 as2 ∧ H D0 = some (.lst av) ∧ DDs K G2 av acc ∧ G2 D0 = none ∧ (∀ j, D0 ∉ as2 j) ∧ av.length ≤ k ∧
      PoN K Wi F G2 σ Q (compO vs i n g fc fe E1 (n - k) acc E2), ⟨n, by simp, Nat.zero_le _, [], [], G1, E1, as1, Same.refl _, st1.al al0, upd_same, .nil, st1.s1.free hD, fun j hj => ?_, Nat.le_refl _, p1⟩, ?_⟩
    · obtain ⟨o, q⟩ := st1.there hj
      rw [hD] at q; cases q
    · rintro k m H ⟨rfl, hi, acc, av, G2, E2, as2, s2, st2, hd, dda, gD, nD, la, p2⟩
      have fD : F.H0 D0 = none := st1.dom D0 hD
      by_cases hlt : k < n
      · have hk1 : n - k = (n - (k + 1)) + 1 := by omega
        rw [hk1] at p2
        obtain ⟨ds, eds, p2⟩ := PoN.of p2
        obtain ⟨a', vl, ea', hvl, hzl, ddl⟩ := st2.ownL eds
        rw [ea0] at ea'; cases ea'
        by_cases hnl : ds.length = n
        case neg => rw [if_neg hnl] at p2; exact p2.elim
        rw [if_pos hnl] at p2
        obtain ⟨d, ed, p2⟩ := PoN.of p2
        have hkk : n - (n - (k + 1) + 1) = k := by omega
        rw [hkk] at ed
        obtain ⟨x0, ex0, dd0⟩ := ddl.get ed
        refine .inr ⟨⟨vl, x0, SqL.of hvl, ex0⟩, fun H' => k + 1 ≤ n ∧ ∃ acc av G2 E2 as2, Same G1 G2 ∧ StE K F G2 H' σ E2 as2 ∧ H' D0 = some (.lst av) ∧ DDs K G2 av acc ∧ G2 D0 = none ∧ (∀ j, D0 ∉ as2 j) ∧ av.length ≤ k + 1 ∧
          PoN K Wi F G2 σ Q (compO vs i n g fc fe E1 (n - (k + 1)) acc E2), fun H' z => ⟨n - (k + 1), by omega, rfl, z⟩, fun x H' y => ?_⟩
        obtain ⟨rfl, y⟩ := y
        have y := y vl (SqL.of hvl)
        rw [ex0] at y; cases y
        obtain ⟨G3, rfl⟩ : ∃ G3, G3 = G2 := ⟨_, rfl⟩
        have al : Al G3 H' G3 H' := Al.refl st2.s1
        have dd := dd0
        have st3 := st2
        obtain ⟨E4, e4, p4⟩ := PoN.of p2
        have gD3 : G3 D0 = none := by
          cases q : G3 D0 with
          | none => rfl
          | some u => exact absurd (al.new D0 _ (by rw [q]; exact fun z => nomatch z) gD hd) (fun z => nomatch z)
        have hd3 : H' D0 = some (.lst av) := al.h _ _ hd
        -- the turn, in a frame of its own
        have stw := st3.wipe vs
        have nDw : ∀ j, D0 ∉ dropA as2 vs j := by
          have key : ∀ us : List Nat, ∀ j, D0 ∉ dropA as2 us j := by
            intro us
            induction us with
            | nil => exact nD
            | cons v us ih =>
              intro j hj
              by_cases e : j = v
              · rw [dropA, e, drp_same] at hj; cases hj
              · rw [dropA, drp_ne e] at hj; exact ih j hj
          exact key vs
        have sti := stw.in_
        have nOwn : D0 ∉ own (dropA as2 vs) (wipeE E2 vs).length := fun z => by
          obtain ⟨j, hj⟩ := of_own z
          exact nDw j hj
        obtain ⟨a, ea, p5⟩ := PoN.noErr p4
        refine ⟨_, G3, wipeE E2 vs, dropA as2 vs, d, sti, dd, E4, e4, fun σ4 as4 st4 k4 l4 => ⟨wipe_eq (fun j hj => k4 j fun z => hj (hts j z)) l4, ?_⟩⟩
        refine ht _ _ _ ⟨_, G3, E4, as4, st4, ?_⟩
        rw [ea]
        intro G5 H5 as5 s5 st5
        -- what stands behind an expression of the turn
        have hσ : ∀ j, j ∉ vs → σ4[j]? = σ[j]? := fun j hj => (k4 j fun z => hj (hts j z)).trans (wipe_get hj)
        have hlen : σ4.length = σ.length := l4.trans (wipe_length σ vs)
        have keepD : ∀ {G6 H6 : Hp} {E6 : Env} {as6 : Nat → List Addr}, StE K (inner G3 H' (dropA as2 vs) (wipeE E2 vs).length) G6 H6 σ4 E6 as6 → H6 D0 = some (.lst av) ∧ G6 D0 = none := fun {G6 H6 E6 as6} st6 => by
          refine ⟨st6.keep D0 _ hd3 nOwn, ?_⟩
          cases q : G6 D0 with
          | none => rfl
          | some u => exact absurd gD3 (st6.priv D0 _ (by rw [q]; exact fun z => nomatch z) hd3 rfl nOwn)
        have hcell : ∀ v ∈ vs, plainC E1[v]? = true ∧ ∀ d, E1[v]? = some (.dat d) → ∃ x, σ[v]? = some (some x) ∧ DD K G1 x d := fun v hv => ⟨hpl' v hv, fun d hd => by
          obtain ⟨x, e1, _, z, rfl, dd⟩ := st1.cell v _ hd
          exact ⟨z, e1, dd⟩⟩
        have backD : ∀ {G6 H6 : Hp} {E6 : Env} {as6 : Nat → List Addr}, Same G3 G6 → StE K (inner G3 H' (dropA as2 vs) (wipeE E2 vs).length) G6 H6 σ4 E6 as6 → ∃ as7, StE K F G6 H6 σ (backE E1 E6 vs) as7 ∧ ∀ j, D0 ∉ as7 j := fun {G6 H6 E6 as6} s6 st6 => by
          obtain ⟨as7, st7, h7⟩ := StE.back hcell ((s2.trans al.g).trans s6) (stw.out st6) hσ hlen
          refine ⟨as7, st7, fun j hj => ?_⟩
          obtain ⟨kk, hkk⟩ := h7 j D0 hj
          rcases (st6.off kk D0 hkk).2 with z | z
          · have z : H' D0 = none := z
            rw [hd3] at z; cases z
          · exact nOwn z
        obtain ⟨b, E5⟩ := a
        cases b with
        | true =>
          rw [if_pos rfl]
          have p5 : PoN K Wi F G3 σ Q ((DL.noErr (fe E5)).bind fun q => (ofO (asDat q.1)).bind fun y => compO vs i n g fc fe E1 (n - (k + 1)) (acc ++ [y]) (backE E1 q.2 vs)) := p5
          obtain ⟨q, eq, p6⟩ := PoN.noErr p5
          obtain ⟨w, E6⟩ := q
          refine he _ _ _ ⟨_, G5, E5, as5, st5, ?_⟩
          rw [eq]
          intro v G7 H7 as7 s7 st7 wo7
          cases w with
          | own j => exact p6.elim
          | dat y =>
            obtain ⟨hD7, gD7⟩ := keepD st7
            obtain ⟨as8, st8, n8⟩ := backD (s5.trans s7) st7
            refine ⟨av, hD7, Nat.lt_of_le_of_lt la (Nat.lt_of_lt_of_le hlt hnz), hlt, acc ++ [y], av ++ [v], G7, backE E1 E6 vs, as8, ((s2.trans al.g).trans s5).trans s7, st8.wr gD7 fD n8 (by rw [hD7]; exact fun z => nomatch z), upd_same, (dda.up ((al.g.trans s5).trans s7)).app (.one wo7), gD7, n8, by rw [List.length_append]; exact Nat.succ_le_succ la, ?_⟩
            exact PoN.up (s5.trans s7) p6
        | false =>
          rw [if_neg Bool.false_ne_true]
          have p5 : PoN K Wi F G3 σ Q (compO vs i n g fc fe E1 (n - (k + 1)) acc (backE E1 E5 vs)) := p5
          obtain ⟨hD7, gD7⟩ := keepD st5
          obtain ⟨as8, st8, n8⟩ := backD s5 st5
          exact ⟨hlt, acc, av, G5, backE E1 E5 vs, as8, (s2.trans al.g).trans s5, st8, hD7, dda.up (al.g.trans s5), gD7, n8, Nat.le_succ_of_le la, PoN.up s5 p5⟩
      · have e : k = n := by omega
        rw [e, Nat.sub_self] at p2
        rw [e] at la
        obtain ⟨ds, eds, p2⟩ := PoN.of p2
        obtain ⟨a', vl, ea', hvl, hzl, ddl⟩ := st2.ownL eds
        rw [ea0] at ea'; cases ea'
        by_cases hnl : ds.length = n
        case neg => rw [if_neg hnl] at p2; exact p2.elim
        rw [if_pos hnl] at p2
        refine .inl ⟨⟨vl, SqL.of hvl, by rw [ddl.len, hnl, e]; exact Nat.le_refl _⟩, ?_⟩
        exact p2 D0 G2 H as2 (Same.refl _) st2 gD fD nD ⟨av, hd, Nat.le_trans la hnz, dda⟩
  · rw [if_neg hpl] at p1; exact p1.elim
section
variable {X : Cx} {Wi : Wish} {tg elt : Expr} {ifs : List Expr} {scope : Scope} {own : List (Str × Nat)} {pos : Pos} {g : GF} {fc : BF} {fe : EF} {ts : List Nat}
theorem dn_compO {x : Str} {p : Pos} {j : Nat} (hc : X.calm = true) (hN : X.N.Nodup) (hi : PE X (.Name x p) (tVar j)) (ok : BlkOk X.N X.env.scope scope own)
    (hg : ∀ (s : Shared) (H : Hp) (C : Addr) (cl : List (Str × Addr)) (fp : List Addr), DG (X.blk s H scope (compEnvC scope cl C X.env) fp) tg ts g)
    (ht : ∀ (s : Shared) (H : Hp) (C : Addr) (cl : List (Str × Addr)) (fp : List Addr), DQs (X.blk s H scope (compEnvC scope cl C X.env) fp) ifs fc)
    (he : ∀ (s : Shared) (H : Hp) (C : Addr) (cl : List (Str × Addr)) (fp : List Addr), DE (X.blk s H scope (compEnvC scope cl C X.env) fp) W0 elt fe)
    (hts : ∀ t ∈ ts, t ∈ own.map (·.2) := by decide) (hs : ∀ z, foldedSetIterable (.Name x p) X.env z = pure z := by intro _; rfl) :
    DN X Wi (.ListComp elt [⟨tg, .Name x p, ifs, 0⟩] scope pos) (nCompO (own.map (·.2)) j g fc fe) :=
  PE.imp (pe_lc hc hN (pi_list hi) ok hg ht he hs) (tLcO_of hts (fun _ _ _ q => q) fun _ _ _ q => q)
end
end DL
namespace DL
open PySem PySem.Spec PyProof.Rows L2 TL
/-! ### a != b by an own == -/
section
variable {prog : Program} {w : World} {A : Around} {E : Value → Shared → Prop} {s : Shared} {K : PySem.W.Frag} {x C L f : Addr} {h₀ : Heap} {m : Str → Option Value} {ox : Obj} {od : Option Obj} {b tb : Value}
theorem ifBound_ne {M : Model} {args : List Value} {Q : Option Value → Shared → Prop} (X : K.In s.heap) (I : PySem.W.InstAt s.heap x ox C od) (hs : PySem.W.findIn K (.ref C) "__ne__" = some (some (.builtin "object.__ne__")))
    (h : wpAny M A (call (.builtin "object.__ne__") (.ref x :: args)) (fun v => Q (some v)) E s) : wpAny M A (callSpecialIfBound? (.ref x) "__ne__" args) Q E s := by
  simp only [callSpecialIfBound?, bindSpecialIfBound?]
  refine wpAny_holding (wpAny_bind (wpAny_bind (wpAny_bind (I.type.here ((PySem.W.looks_findIn X hs).here ?_)))))
  simp only [PySem.F.cmp_object.ne.bind]
  refine wpAny_bind (wpAny_askSetting (wpAny_ite ?_))
  have fin : wpAny M A (call (.builtin "object.__ne__") ([.ref x] ++ args) >>= fun v => pure (some v)) Q E s := wpAny_bind (wpAny_mono h (fun v s' h' => wpAny_pure h') fun _ _ h' => h')
  split
  · exact wpAny_bind (wpAny_pure (wpAny_pure fin))
  · exact wpAny_tryCatch (wpAny_bind (wpAny_pure (wpAny_pure fin)))
theorem objNe_K {y : Addr} (X : K.In s.heap) (I : PySem.W.InstAt s.heap x ox C od) (hu : A.units < cLine) (hs : PySem.W.findIn K (.ref C) "__eq__" = some (some (.ref f))) (hf : PySem.W.isFn K (.ref f) = true) {Q : PySem.Fin → Shared → Prop}
    (hcall : wpAny (model prog w) A (call (.ref f) [.ref x, .ref y]) (fun v s' => ∃ b, v = .bool b ∧ Q (.done (.ret (.bool (!b)))) s') E s) :
    wpAny (model prog w) A (Builtin.«object.__ne__» ⟨[.ref x, .ref y], []⟩) Q E s := by
  unfold Builtin.«object.__ne__»
  repeat (first
    | with_reducible refine wpAny_cRoomFor hu ?_
    | (refine wpAny_bind (m := callSpecialIfBound? (.ref x) (Str.ofString "__eq__") [.ref y])
        (PySem.W.ifBound_K X I hs hf (wpAny_mono hcall (fun r s' hr => by
          obtain ⟨b, rfl, hq⟩ := hr
          repeat (first | exact hq | exact wpAny_pure hq | exact wpAny_truthy_bool hq | (refine wpAny_bind (m := truthy (.bool _)) (wpAny_truthy_bool ?_)) | wp_step)) fun _ _ e => e)))
    | wp_step)
theorem ne_K {y : Addr} {Q : Value → Shared → Prop} (hu : A.units + 1 < cLine) (F0 : PyProof.Rows.Fr h₀ L s.heap m) (X₀ : K.In h₀) (I : PySem.W.InstAt s.heap x ox C od) (hb : PySem.W.Looks (model prog w) s.heap (typeOf (.ref y)) tb) (hn : PySem.W.notFirst K C tb = true)
    (hne : PySem.W.findIn K (.ref C) "__ne__" = some (some (.builtin "object.__ne__"))) (hm : PySem.W.mroIn K C (.type "object") = some true) (hs : PySem.W.findIn K (.ref C) "__eq__" = some (some (.ref f))) (hf : PySem.W.isFn K (.ref f) = true)
    (h : wpAny (model prog w) A.in1 (call (.ref f) [.ref x, .ref y]) (fun v s' => ∃ b, v = .bool b ∧ Q (.bool (!b)) s') E s) : wpAny (model prog w) A (richCompare .NotEq (.ref x) (.ref y)) Q E s := by
  have X := X₀.keeps F0.keep
  have one : wpAny (model prog w) A (tryCompare (.ref x) "__ne__" (.ref y)) (fun r s' => ∃ v, r = some v ∧ Q v s') E s := by
    unfold tryCompare
    refine wpAny_bind (ifBound_ne X I hne (wpAny_call (codeAny_call_builtin PySem.F.cmp_object.ne.plain PySem.F.cmpEntry_ne (PySem.W.check_slot PySem.F.cmpKind_ne PySem.F.cmpSplit_ne (I.type.andThen (PySem.W.looks_mroIn X hm)) (PySem.F.cmpArgs_ne _ _)
      (objNe_K (A := A.in1) X I (by show A.units + 1 < cLine; exact hu) hs hf (wpAny_mono h (fun v s' hv => ?_) fun _ _ e => e))))))
    obtain ⟨b, rfl, hq⟩ := hv
    exact ⟨b, rfl, wpAny_pure ⟨_, rfl, hq⟩⟩
  unfold richCompare
  simp only [oneThing_ref]
  refine wpAny_holding (wpAny_bind (wpAny_cRoomFor (Nat.lt_of_succ_lt hu) ?_))
  refine wpAny_bind (I.type.here (wpAny_bind (hb.here ?_)))
  rw [cmpInfo_NotEq]
  dsimp only
  split
  · rename_i q
    have e : PySem.W.subIn K tb (.ref C) = some false := by
      rcases Bool.or_eq_true_iff.mp hn with e | e
      · rw [beq_iff_eq.mp e] at q; simp at q
      · exact beq_iff_eq.mp e
    refine wpAny_bind ((PySem.W.looks_subIn X e).here ?_)
    simp only [Bool.false_eq_true, if_false]
    refine wpAny_bind (wpAny_mono one (fun r s' z => ?_) fun _ _ e => e)
    obtain ⟨v, rfl, hq⟩ := z
    first | exact wpAny_pure hq | exact wpAny_pure (wpAny_pure hq)
  · refine wpAny_bind (wpAny_pure ?_)
    simp only [Bool.false_eq_true, if_false]
    refine wpAny_bind (wpAny_mono one (fun r s' z => ?_) fun _ _ e => e)
    obtain ⟨v, rfl, hq⟩ := z
    first | exact wpAny_pure hq | exact wpAny_pure (wpAny_pure hq)
end
section
variable {X : Cx} {CX : CXT} {Wi : Wish} {pins : List (Addr × Obj)} {σ : L2.St} {H : Hp} {s : Shared} {Q : VK} {k : Nat} {f : Addr} {fd : FuncData} {ps : List Str} {sp : Sp} {us : List Value} {vs : List V}
/-- a call by a built-in of ours -/
theorem run_F1 (F : FnG X.prog X.w X.K X.mg X.base CX k f fd ps sp) (hg : X.A.guards = some []) (hr : Room (k + 1) X.A) (hb : Binds X.K fd ps []) (hx : PassW CX X Wi) (I : Inv X pins σ H s) (r : Vals vs us) (h : sp vs H Q (Wi σ)) :
    wpAny (model X.prog X.w) X.A.in1 (call (.ref f) us) (EP X pins σ Q) X.xe s := by
  have hl : us.length = ps.length := by rw [← r.length]; exact F.len _ _ _ _ h
  have b := hb s us I.kIn (by rw [List.append_nil]; exact hl)
  rw [List.append_nil] at b
  refine wpAny_call (codeAny_mono (codeAny_mono (F.go X.A.in1 X.stack s H ⟨us, []⟩ us vs Q (Wi σ) hg hr.in1 I.env0.in1 b r h) fun _ _ hq => ends_of hx I hq) fun r s' hq => ?_)
  cases r with
  | error e => exact hq
  | ok fl =>
    cases fl with
    | ret u => exact hq
    | next => exact hq.elim
    | brk => exact hq.elim
    | cont => exact hq.elim
end
def rNeI (K : PySem.W.Frag) (C : Addr) (oc : List Addr) (gm : List D → Res D) : R2 := fun x y H Q => ∃ (G : Hp) (fs : List (Str × D)) (C' : Addr) (gs : List (Str × D)) (b : Bool), C' ∈ oc ∧ Same G H ∧ DD K G x (.obj C fs) ∧ DD K G y (.obj C' gs) ∧ gm [.obj C fs, .obj C' gs] = .ok (.bl b) ∧ Rz K G H Q (.bl (!b))
def gNeI (C : Addr) (oc : List Addr) (gm : List D → Res D) : D → D → Option D
  | .obj C1 fs, .obj C' gs => if C1 = C ∧ C' ∈ oc then (match gm [.obj C fs, .obj C' gs] with
    | .ok (.bl b) => some (.bl (!b))
    | _ => none) else none
  | _, _ => none
theorem op_neI {X : Cx} {CX : CXT} {n : Nat} {C f : Addr} {fd : FuncData} {ps : List Str} {oc : List Addr} {gm : List D → Res D} (F : FnG X.prog X.w X.K X.mg X.base CX n f fd ps (spP X.K 2 gm)) (hg : X.A.guards = some []) (hr : Room (n + 1) X.A) (hs : PySem.W.findIn X.K (.ref C) "__eq__" = some (some (.ref f))) (hf : PySem.W.isFn X.K (.ref f) = true)
    (hne : PySem.W.findIn X.K (.ref C) "__ne__" = some (some (.builtin "object.__ne__"))) (hm : PySem.W.mroIn X.K C (.type "object") = some true) (hb : Binds X.K fd ps []) (nf : ∀ C' ∈ oc, PySem.W.notFirst X.K C (.ref C') = true) {Wi : Wish} (hx : PassW CX X Wi) : OpR X (compareOp .NotEq) (rNeI X.K C oc gm) := by
  intro pins s σ H x y v u Q I rx ry hq
  obtain ⟨G, fs, C', gs, r, hC, sm, dx, dy, hgm, z⟩ := hq
  have dx' := dx
  have dy' := dy
  cases dx' with
  | obj g1 f1 =>
  cases dy' with
  | obj g2 f2 =>
  rename_i a da vf b db vg
  cases rx
  cases ry
  have ha := sm _ _ g1
  have hb' := sm _ _ g2
  obtain ⟨mA, J, _⟩ := ins_get I.hok ha
  obtain ⟨mB, J', _⟩ := ins_get I.hok hb'
  obtain ⟨od, J, _⟩ := J.look
  obtain ⟨od', J', _⟩ := J'.look
  obtain ⟨m, hF⟩ := I.fr
  have hu := hr.units
  refine ne_K (tb := .ref C') (by omega) hF I.ok.mod.kin J J'.type (nf C' hC) hne hm hs hf ?_
  have sp : spP X.K 2 gm [.ref a, .ref b] H (fun v H' => v = .bl r ∧ Q (.bl (!r)) H') (Wi σ) := by
    refine ⟨G, [.obj C fs, .obj C' gs], sm, .cons dx (.cons dy .nil), rfl, ?_⟩
    rw [hgm]
    intro v G' H' al dd
    cases dd
    exact ⟨rfl, z _ _ _ al (.bl (!r))⟩
  refine thn (run_F1 (us := [.ref a, .ref b]) (vs := [.ref a, .ref b]) F hg hr hb hx I (.cons rfl (.cons rfl .nil)) sp) fun w s' q => ?_
  obtain ⟨v, H', I', rv, ev, q⟩ := q
  subst ev
  cases rv
  exact ⟨r, rfl, .bl (!r), H', I', rfl, q⟩
section
variable {X : Cx} {CX : CXT} {Wi : Wish} {a b : Expr} {fa fb : EF} {pos : Pos} {n : Nat} {C f : Addr} {fd : FuncData} {ps : List Str} {oc : List Addr} {gm : List D → Res D}
theorem tNeI_of : ∀ σ H Q, tE X.K Wi (eOpD (gNeI C oc gm) fa fb) σ H Q → tOp (rNeI X.K C oc gm) (tE X.K Wi fa) (tE X.K Wi fb) σ H Q := by
  intro σ H Q q
  obtain ⟨F, G, E, as, st, p⟩ := q
  refine ⟨F, G, E, as, st, Po.mono (fun x H1 m => ?_) (Po.bind p)⟩
  obtain ⟨w1, G1, E1, as1, s1, st1, wo1, p1⟩ := m
  refine ⟨F, G1, E1, as1, st1, Po.mono (fun y H2 m => ?_) (Po.bind p1)⟩
  obtain ⟨w2, G2, E2, as2, s2, st2, wo2, p2⟩ := m
  obtain ⟨d1, e1, p3⟩ := Po.of p2
  obtain ⟨d2, e2, p4⟩ := Po.of p3
  obtain ⟨d, e3, p5⟩ := Po.of p4
  clear p1 p2 p3 p4
  cases w1 with
  | own _ => cases e1
  | dat d1' =>
  cases w2 with
  | own _ => cases e2
  | dat d2' =>
  cases e1
  cases e2
  have dx : DD X.K G2 x d1 := DD.up s2 wo1
  have dy : DD X.K G2 y d2 := wo2
  cases d1 with
  | obj C1 fs =>
    cases d2 with
    | obj C' gs =>
      have e : (if C1 = C ∧ C' ∈ oc then (match gm [.obj C fs, .obj C' gs] with
        | .ok (.bl b) => some (D.bl (!b))
        | _ => none) else none) = some d := e3
      by_cases h : C1 = C ∧ C' ∈ oc
      · rw [if_pos h] at e
        obtain ⟨h1, h2⟩ := h
        subst h1
        cases q : gm [.obj C1 fs, .obj C' gs] with
        | err _ _ => rw [q] at e; cases e
        | stuck => rw [q] at e; cases e
        | ok r =>
          rw [q] at e
          cases r with
          | bl r =>
            cases e
            exact ⟨G2, fs, C', gs, r, h2, st2.s1, dx, dy, q, Po.rz st2 p5⟩
          | _ => cases e
      · rw [if_neg h] at e; cases e
    | _ => cases e3
  | _ => cases e3
theorem de_neI (F : FnG X.prog X.w X.K X.mg X.base CX n f fd ps (spP X.K 2 gm)) (hg : X.A.guards = some []) (hr : Room (n + 1) X.A) (hs : PySem.W.findIn X.K (.ref C) "__eq__" = some (some (.ref f))) (hf : PySem.W.isFn X.K (.ref f) = true)
    (hne : PySem.W.findIn X.K (.ref C) "__ne__" = some (some (.builtin "object.__ne__"))) (hmr : PySem.W.mroIn X.K C (.type "object") = some true) (hb : Binds X.K fd ps [])
    (nf : ∀ C' ∈ oc, PySem.W.notFirst X.K C (.ref C') = true) (hx : PassW CX X Wi) (ha : DE X Wi a fa) (hb2 : DE X Wi b fb) (hm : behindInMarks .NotEq b = false := by rfl) : DE X Wi (.Compare a [.NotEq] [b] pos) (eOpD (gNeI C oc gm) fa fb) :=
  PE.imp (pe_cmpR (op_neI F hg hr hs hf hne hmr hb nf hx) ha hb2 hm) tNeI_of
theorem dt_neI (F : FnG X.prog X.w X.K X.mg X.base CX n f fd ps (spP X.K 2 gm)) (hg : X.A.guards = some []) (hr : Room (n + 1) X.A) (hs : PySem.W.findIn X.K (.ref C) "__eq__" = some (some (.ref f))) (hf : PySem.W.isFn X.K (.ref f) = true)
    (hne : PySem.W.findIn X.K (.ref C) "__ne__" = some (some (.builtin "object.__ne__"))) (hmr : PySem.W.mroIn X.K C (.type "object") = some true) (hb : Binds X.K fd ps [])
    (nf : ∀ C' ∈ oc, PySem.W.notFirst X.K C (.ref C') = true) (hx : PassW CX X Wi) (ha : DE X Wi a fa) (hb2 : DE X Wi b fb) (hm : behindInMarks .NotEq b = false := by rfl) : DT X Wi (.Compare a [.NotEq] [b] pos) (tB (eOpD (gNeI C oc gm) fa fb)) :=
  PT.imp (pt_cmpR (op_neI F hg hr hs hf hne hmr hb nf hx) ha hb2 hm) fun σ H Q q => tNeI_of σ H _ (tB_of σ H Q q)
end
/-! ### a comprehension in a comprehension -/
def relabelS (scope sc : Scope) : Scope := { scope with names := scope.names.map fun (n, k) => if (k == .free && sc.kind == .function && sc.names.lookup n == some .cell) then (n, .cell) else (n, k) }
theorem blkOk_in {N : List Str} {sc scope0 scope : Scope} {own : List (Str × Nat)} {env : PySem.Env} {cl : List (Str × Addr)} {C : Addr} (he : env.scope = sc) (h : blkC N (relabelS scope0 sc) scope own = true) : BlkOk N (compEnvC scope0 cl C env).scope scope own := by
  subst he
  exact blkOk_by h
end DL
namespace DL
open PySem PySem.Spec PyProof.Rows L2 TL
/-! ### dict(d) -/
def gDictC : List D → Option D
  | [.dic kd] => some (.dic kd)
  | _ => none
theorem calln_dictC {K : PySem.W.Frag} : CallN K (fun xs H Q => ∃ (a : Addr) (kvs : List (Key × V)), xs = [.ref a] ∧ Rd H a (.dK kvs) ∧ ∀ p, H p = none → Q (.ref p) (upd H p (.dK kvs))) gDictC := by
  intro G H xs ds d Q s h e z
  match ds, e with
  | [.dic kd], e =>
    cases e
    obtain ⟨v, rfl, b⟩ := h.one
    cases b with
    | dat q =>
      cases q with
      | dic g r => exact ⟨_, _, rfl, .inl (s _ _ g), fun p hp => z p _ hp (Al.one s hp).h ⟨_, upd_same, r⟩⟩
    | own e q =>
      subst e
      obtain ⟨kv, hk, r⟩ := q
      exact ⟨_, _, rfl, .inl hk, fun p hp => z p _ hp (Al.one s hp).h ⟨_, upd_same, r⟩⟩
/-! ### x.update({..}), x the frame's own dict -/
def rUpd : V → List V → Hp → VK → Prop := fun x xs H Q => ∃ a o kvs more, x = .ref a ∧ xs = [.ref o] ∧ a ≠ o ∧ H a = some (.dK kvs) ∧ H o = some (.dK more) ∧ kvs.length + more.length ≤ sizeLine ∧ Q .non (upd H a (.dK (mergeK kvs more)))
theorem len_putK {kvs : List (Key × V)} {k : Key} {v : V} : (putK kvs k v).length ≤ kvs.length + 1 := length_putK kvs k v
theorem len_mergeK : ∀ (more kvs : List (Key × V)), (mergeK kvs more).length ≤ kvs.length + more.length
  | [], kvs => Nat.le_refl _
  | m :: more, kvs => by
    have h := len_mergeK more (putK kvs m.1 m.2)
    have h2 := len_putK (kvs := kvs) (k := m.1) (v := m.2)
    show (mergeK (putK kvs m.1 m.2) more).length ≤ _
    rw [List.length_cons]; omega
theorem mt_update {X : Cx} : MtR X "dict.update" rUpd := by
  intro pins s σ H x xs v us Q I rx rxs h
  obtain ⟨a, o, kvs, more, rfl, rfl, hne, ha, ho, hz, q⟩ := h
  obtain ⟨u, rfl, ru⟩ := vals1 rxs
  cases rx
  cases ru
  obtain ⟨z1, hd1, vs, rel, dd⟩ := dk_of I.hok ha
  obtain ⟨z2, hd2, ms, rel2, dd2⟩ := dk_of I.hok ho
  refine call_meetsIn PySem.F.slot_dict_update dd.typeIs PySem.F.entry_dict_update (PySem.F.args_dict_update_2 _ _) (meets_dict_update (mixKind X.prog X.w) a o hne hd2) ⟨vs, ms, dd, dd2, by rw [← rel.length, ← rel2.length]; exact hz, fun h' dd' _ hs => ?_⟩
  have he : ∃ q, h'.get? a = some q := let ⟨q, _, _, hq, _⟩ := dd'; ⟨q, hq⟩
  exact ⟨.non, _, d_write (t' := s.toks) I (by rw [ha]; exact True.intro) hs he (dk_new (Nat.le_trans (len_mergeK more kvs) hz) hd1 (KV.merge rel2 rel) dd'), rfl, q⟩
def ownK (E : Env) (i : Nat) : Option (List (Key × D)) := match E[i]? with
  | some (.own (.dic kd)) => some kd
  | _ => none
theorem ownK_ok {E : Env} {i : Nat} {kd : List (Key × D)} (h : ownK E i = some kd) : E[i]? = some (.own (.dic kd)) := by
  unfold ownK at h
  split at h
  · rename_i l e; cases h; exact e
  · cases h
def updK (i : Nat) : D × Env → Res (W × Env) := fun p => match p.1 with
  | .dic more => (ofO (ownK p.2 i)).bind fun kd => if kd.length + more.length ≤ 16777216 then .ok (.dat .non, p.2.set i (.own (.dic (mergeM kd more)))) else .stuck
  | _ => .stuck
def eUpd (i : Nat) (fn : NF) : EF := fun E => (ofO (ownK E i)).bind fun _ => (fn E).bind (updK i)
section
variable {X : Cx} {Wi : Wish} {o e : Expr}
theorem tUpd_of {i : Nat} {fn : NF} : ∀ σ H Q, tE X.K Wi (eUpd i fn) σ H Q → tBM X.K "dict" rUpd (tVar i) (tCons (tN X.K Wi fn) tNil) σ H Q := by
  intro σ H Q q
  obtain ⟨F, G, E, as, st, p⟩ := q
  obtain ⟨d0, e0, p⟩ := Po.of p
  have e0 := ownK_ok e0
  obtain ⟨v, hv, a, xa, xv, xo⟩ := st.cell i _ e0
  subst xv
  obtain ⟨kv0, hl0, dk0⟩ := xo
  refine ⟨_, hv, .inr (.inr (.inl ⟨rfl, .inl ⟨_, hl0⟩⟩)), F, G, E, as, st, ?_⟩
  generalize fn E = r at p ⊢
  match r, p with
  | .ok (d, E'), p =>
    intro pp G' H' as' s st' gp fp np oo
    have p := Po.up s p
    cases d with
    | dic more =>
      obtain ⟨kd, e1, p⟩ := Po.of (show Po X.K Wi F G' σ Q ((ofO (ownK E' i)).bind fun kd => if kd.length + more.length ≤ 16777216 then .ok (.dat .non, E'.set i (.own (.dic (mergeM kd more)))) else .stuck) from p)
      by_cases hz : kd.length + more.length ≤ 16777216
      · rw [if_pos hz] at p
        have e1 := ownK_ok e1
        obtain ⟨a', ea, ma, xo⟩ := st'.ownA e1 hv
        cases ea
        obtain ⟨kv1, hl1, dk1⟩ := xo
        obtain ⟨kvm, hm, dkm⟩ := oo
        have hne : a ≠ pp := fun e => np i (by rw [← e]; exact ma)
        have hs : sizeLine = 16777216 := sizeLine_eq
        refine ⟨a, pp, kv1, kvm, rfl, rfl, hne, hl1, hm, by rw [dk1.len, dkm.len]; omega, ?_⟩
        exact p .non G' _ as' (Same.refl _) (st'.write e1 ma ⟨_, upd_same, DKs.merge dkm dk1⟩) .non
      · rw [if_neg hz] at p; exact p.elim
    | _ => exact p.elim
  | .err x E', p => exact p
theorem de_upd {i : Nat} {fn : NF} {apos cpos : Pos} (hv : PE X o (tVar i)) (ha : DN X Wi e fn)
    (hbase : attributeBase o (Str.ofString "update") X.env (eval o X.env) = eval o X.env := by rfl)
    (hfew : ((backTo cpos (starEach [e] X.env)).all (fun x => !x.1) && (backToKw cpos (keywordEach [] X.env)).all (fun x => x.1.isSome)
      && decide ([e].length + ([] : List Keyword).length + (if ([] : List Keyword).isEmpty then 0 else 1) < 30)) = true := by rfl)
    (hline : (apos.endLine == cpos.line) = true := by rfl) (hs : starEach [e] X.env = (false, eval e X.env) :: starEach [] X.env := by rfl) (hpl : (backTo cpos (starEach [] X.env)).any (·.1) = false := by rfl) :
    DE X Wi (.Call (.Attribute o (Str.ofString "update") apos) [e] [] cpos) (eUpd i fn) :=
  PE.imp (pe_bm PySem.F.plainAttrs_dict PySem.F.slot_dict_update PySem.F.type_dict_update mt_update hv (pa_cons (hs := hs) ha pa_nil) hbase hfew hline hs hpl) tUpd_of
end
/-! ### is of bools -/
def gIsB (neg : Bool) : D → D → Option D
  | .bl a, .bl b => some (.bl (if neg then !decide (a = b) else decide (a = b)))
  | _, _ => none
theorem opd_isB {K : PySem.W.Frag} : OpD K rIsB (gIsB false) := by
  intro G H x y a b d Q s ha hb e z
  match a, b, e with
  | .bl p, .bl q, e =>
    cases e
    cases ha with
    | own _ h => exact h.elim
    | dat ha =>
      cases ha
      cases hb with
      | own _ h => exact h.elim
      | dat hb => cases hb; exact ⟨p, q, rfl, rfl, z _ G H (Al.refl s) (.bl _)⟩
theorem opd_notB {K : PySem.W.Frag} : OpD K rNotB (gIsB true) := by
  intro G H x y a b d Q s ha hb e z
  match a, b, e with
  | .bl p, .bl q, e =>
    cases e
    cases ha with
    | own _ h => exact h.elim
    | dat ha =>
      cases ha
      cases hb with
      | own _ h => exact h.elim
      | dat hb => cases hb; exact ⟨p, q, rfl, rfl, z _ G H (Al.refl s) (.bl _)⟩
/-! ### a property -/
section
variable {X : Cx} {CX : CXT} {Wi : Wish} {k : Nat} {C pr g a dx : Addr} {fs : List (Str × V)} {f : Str} {fd : FuncData} {ps : List Str} {sp : Sp} {e : Expr} {pos : Pos}
theorem getpropG {pins : List (Addr × Obj)} {σ : L2.St} {H : Hp} {s : Shared} {Q : VK} {b : Bool} (I : Inv X pins σ H s) (ea : H a = some (.ins C dx fs)) (c : Cls X.K C) (hp : PropOf X.K C f pr g)
    (F : FnG X.prog X.w X.K X.mg X.base CX k g fd ps sp) (hg : X.A.guards = some []) (hr : Room (k + 1) X.A) (hb : Binds X.K fd ps []) (hx : PassW CX X.nox Wi) (h : sp [.ref a] H Q (Wi σ)) :
    wpAny (model X.prog X.w) X.A (getAttr (.ref a) f b) (EP X pins σ Q) X.xe s := by
  obtain ⟨mA, O, _, _, _, _⟩ := ins_get I.hok ea
  obtain ⟨od, J, _⟩ := O.look
  obtain ⟨rest, hrec⟩ := hp.rec_
  have I1 := I.tok (s.toks + 1)
  have hl : [Value.ref a].length = ps.length := F.len _ _ _ _ h
  have hc : (PySem.W.clsIn X.K C).isSome = true := by
    obtain ⟨cd, hc, _⟩ := PySem.W.any_some c.hd
    rw [hc]
    rfl
  have hbd := hb { s with toks := s.toks + 1 } [.ref a] I1.kIn (by rw [List.append_nil]; exact hl)
  rw [List.append_nil] at hbd
  refine PySem.W.get_bind I.kIn J (PySem.W.plainGet_of (c.get f)).1 (PySem.W.findObj_data hc hp.at_ hp.get hp.tak) (PySem.W.plainGet_of (c.get f)).2 (wpAny_call (PySem.W.prop_get (s := { s with toks := s.toks + 1 }) I.kIn hrec ?_))
  refine codeAny_mono (F.go X.A.in1 X.stack { s with toks := s.toks + 1 } H ⟨[.ref a], []⟩ [.ref a] [.ref a] Q (Wi σ) hg hr.in1 I1.env0.in1 hbd (.cons rfl .nil) h) fun r s' hq => ?_
  cases r with
  | error er => exact False.elim (hx σ pins H { s with toks := s.toks + 1 } er s' (I1.wish _) hq)
  | ok fl =>
    cases fl with
    | ret u =>
      obtain ⟨v, H', I3, rv, q3⟩ := I1.after hq
      show wpAny _ _ (handedOut u) _ _ _
      rw [PySem.W.handedOut_of (handed_of rv)]
      exact wpAny_pure ⟨v, H', I3, rv, q3⟩
    | next => exact False.elim hq
    | brk => exact False.elim hq
    | cont => exact False.elim hq
theorem de_prop {fo : EF} {fm : List D → Res D} (he : DE X Wi e fo) (c : Cls X.K C) (hp : PropOf X.K C f pr g) (F : FnG X.prog X.w X.K X.mg X.base CX k g fd ps (spP X.K 1 fm)) (hg : X.A.guards = some []) (hr : Room (k + 1) X.A) (hb : Binds X.K fd ps []) (hx : PassW CX X.nox Wi)
    (hab : attributeBase e f X.env (eval e X.env) = eval e X.env := by rfl) : DE X Wi (.Attribute e f pos) (eG C f 1 fm fo aN) := by
  refine ⟨fun pins s σ H Q I q => ?_⟩
  have z := tMethG_of σ H Q q
  refine attr_of hab (thn (he.run pins s σ H _ I (show tE X.K Wi fo σ H _ from z)) fun u s1 ⟨x, H1, I1, rx, a, dx, vf, ex, ea, _, q⟩ => ?_)
  subst ex
  obtain rfl : u = Value.ref a := rx
  obtain ⟨F2, G2, E2, as2, st2, p2⟩ := q
  exact getpropG I1 ea c hp F hg hr hb hx (p2 [] G2 H1 as2 (Same.refl _) st2 True.intro)
end
section
variable {X : Cx} {Wi : Wish} {tg elt : Expr} {ifs : List Expr} {scope : Scope} {own : List (Str × Nat)} {pos spos py : Pos} {g : GF} {fc : BF} {fe : EF} {ts : List Nat}
theorem ds_setNCO {x y : Str} {p : Pos} {i j : Nat} (hc : X.calm = true) (hN : X.N.Nodup) (hy : X.N[i]? = some y) (hyl : X.env.scope.names.lookup y = some .local)
    (hsw : swapsWith (.ListComp elt [⟨tg, .Name x p, ifs, 0⟩] scope pos) (some (.Name y py)) spos.line X.env = pure true) (hi : PE X (.Name x p) (tVar j)) (ok : BlkOk X.N X.env.scope scope own)
    (hg : ∀ (s : Shared) (H : Hp) (C : Addr) (cl : List (Str × Addr)) (fp : List Addr), DG (X.blk s H scope (compEnvC scope cl C X.env) fp) tg ts g)
    (ht : ∀ (s : Shared) (H : Hp) (C : Addr) (cl : List (Str × Addr)) (fp : List Addr), DQs (X.blk s H scope (compEnvC scope cl C X.env) fp) ifs fc)
    (he : ∀ (s : Shared) (H : Hp) (C : Addr) (cl : List (Str × Addr)) (fp : List Addr), DE (X.blk s H scope (compEnvC scope cl C X.env) fp) W0 elt fe)
    (hts : ∀ t ∈ ts, t ∈ own.map (·.2) := by decide) (hs : ∀ z, foldedSetIterable (.Name x p) X.env z = pure z := by intro _; rfl) :
    DS X Wi (.Assign [.Name y py] (.ListComp elt [⟨tg, .Name x p, ifs, 0⟩] scope pos) spos) (sSetN i (nCompO (own.map (·.2)) j g fc fe)) :=
  PS.imp (ps_setLc hc hN hy hyl hsw (pi_list hi) ok hg ht he hs) (tAsgN_of (tLcO_of hts (fun _ _ _ q => q) fun _ _ _ q => q))
theorem ds_setCO {x y : Str} {p : Pos} {i j : Nat} (hc : X.calm = true) (hN : X.N.Nodup) (hy : X.N[i]? = some y) (hyl : X.env.scope.names.lookup y = some .local)
    (hsw : swapsWith (.ListComp elt [⟨tg, .Name x p, ifs, 0⟩] scope pos) (some (.Name y py)) spos.line X.env = pure true) (hi : PE X (.Name x p) (tVar j)) (ok : BlkOk X.N X.env.scope scope own)
    (hg : ∀ (s : Shared) (H : Hp) (C : Addr) (cl : List (Str × Addr)) (fp : List Addr), DG (X.blk s H scope (compEnvC scope cl C X.env) fp) tg ts g)
    (ht : ∀ (s : Shared) (H : Hp) (C : Addr) (cl : List (Str × Addr)) (fp : List Addr), DQs (X.blk s H scope (compEnvC scope cl C X.env) fp) ifs fc)
    (he : ∀ (s : Shared) (H : Hp) (C : Addr) (cl : List (Str × Addr)) (fp : List Addr), DE (X.blk s H scope (compEnvC scope cl C X.env) fp) W0 elt fe)
    (hts : ∀ t ∈ ts, t ∈ own.map (·.2) := by decide) (hs : ∀ z, foldedSetIterable (.Name x p) X.env z = pure z := by intro _; rfl) :
    DS X Wi (.Assign [.Name y py] (.ListComp elt [⟨tg, .Name x p, ifs, 0⟩] scope pos) spos) (sSet i (eN (nCompO (own.map (·.2)) j g fc fe))) :=
  PS.imp (ps_setLc hc hN hy hyl hsw (pi_list hi) ok hg ht he hs) (tAsg_of fun σ H Q q => by
    obtain ⟨F, G, E, as, st, p⟩ := q
    exact tLcO_of hts (fun _ _ _ q => q) (fun _ _ _ q => q) σ H Q ⟨F, G, E, as, st, PoN.po p⟩)
end
end DL
namespace DL
open PySem PySem.Spec PyProof.Rows L2 TL
/-! ### sorted(a text) -/
def gSortX : List D → Option D
  | [.str x] => some (.lst ((signs x).mergeSort leD))
  | _ => none
def rSortX (K : PySem.W.Frag) : List V → Hp → VK → Prop := fun xs H Q => ∃ (G : Hp) (x : Str), xs = [.str x] ∧ Same G H ∧ SOk x ∧ ∀ p ws, H p = none → DDs K G ws ((signs x).mergeSort leD) → Q (.ref p) (upd H p (.lst ws))
theorem calln_sortX {K : PySem.W.Frag} : CallN K (rSortX K) gSortX := by
  intro G H xs ds d Q s h e z
  match ds, e with
  | [.str x], e =>
    cases e
    obtain ⟨v, rfl, b⟩ := h.one
    obtain ⟨rfl, ok⟩ := b.str
    refine ⟨G, x, rfl, s, ok, fun q ws hq dd => z q _ hq (Al.one s hq).h ⟨ws, upd_same, ?_, ?_⟩⟩
    · have e : ws.length = ((signs x).mergeSort leD).length := dd.len
      rw [e, (List.mergeSort_perm _ leD).length_eq]
      unfold signs
      rw [List.length_map]; exact ok.1
    · exact dd
theorem each_signs (h : Heap) (a : Addr) : ∀ (l : List Nat) (us : List Value), Vals (l.map fun c => V.str (sgn c)) us → PySem.W.EachIs (fun v b => ∃ as, Reads h v (D.py b) as ∧ a ∉ as) us (l.map fun c => D.str (sgn c))
  | [], _, .nil => .nil
  | c :: l, _, .cons r rs => by
    obtain ⟨t, rfl⟩ := r
    exact .cons ⟨[], .str _ _, fun z => nomatch z⟩ (each_signs h a l _ rs)
theorem each_dd {K : PySem.W.Frag} {H : Hp} : ∀ {vs : List V} {us : List Value} {ds : List D}, Vals vs us → DDs K H vs ds → PySem.W.EachIs (fun u d => ∃ v, RelV v u ∧ DD K H v d) us ds
  | _, _, _, .nil, .nil => .nil
  | _, _, _, .cons r rs, .cons a b => .cons ⟨_, r, a⟩ (each_dd rs b)
theorem call_sortX {X : Cx} (hc : X.calm = true) (hu : X.A.units + 64 < cLine) : CallR X (.builtin "sorted") (rSortX X.K) := by
  intro pins s σ H xs us Q I r h
  obtain ⟨G, x, rfl, sm, ok, q⟩ := h
  obtain ⟨u, rfl, rx⟩ := vals1 r
  obtain ⟨t, rfl⟩ := rx
  refine Calls.call_function_entry kind_sorted plain_sorted entry_sorted (args_sorted1 _) ?_
  unfold Builtin.«sorted»
  refine wpAny_bind (m := checkCount "sorted" 1 1 _) (wpAny_pure ?_)
  refine wpAny_bind (wpAny_collect_str (A := X.A.in1) (I.ok.hd hc) x t (fun s1 acc k1 g1 d1 o1 hacc => ?_) ok.1)
  have rv : Vals ((tl x).map fun c => V.str (sgn c)) acc.toList := signs_vals hacc
  have dd : DDs X.K G ((tl x).map fun c => V.str (sgn c)) (signs x) := signs_dd ok
  have hlen : acc.toList.length ≤ sizeLine := by rw [← rv.length, List.length_map]; exact ok.1
  have hsl : (signs x).length ≤ sizeLine := by unfold signs; rw [List.length_map]; exact ok.1
  refine wpAny_bind (wpAny_newList ?_ hlen)
  have hoL : (s1.heap.push (seqObj "list" acc.toList.toArray 0)).get? s1.heap.objs.size = some (seqObj "list" acc.toList.toArray 0) := Heap.get?_push_size _ rfl
  refine wpAny_bind (wpAny_holding (PySem.W.list_sort_data (bs := signs x) (enc := D.py) (a := s1.heap.objs.size) hoL (each_dd rv dd) (each_signs _ _ _ _ rv) (fun d hd d' hd' => ?_) (.inr fun d hd => ?_) hsl (fun b hb => ?_) fun out ho eo => ?_))
  · unfold signs at hd hd'
    simp only [List.map_map, List.mem_map] at hd hd'
    obtain ⟨_, _, rfl⟩ := hd
    obtain ⟨_, _, rfl⟩ := hd'
    rfl
  · unfold signs at hd
    simp only [List.map_map, List.mem_map] at hd
    obtain ⟨_, _, rfl⟩ := hd
    exact ⟨(fun z => nomatch z), fun _ z => nomatch z⟩
  · unfold signs at hb
    obtain ⟨_, _, rfl⟩ := List.mem_map.mp hb
    show X.A.in1.units + 1 + 0 < cLine
    have : X.A.in1.units ≤ X.A.units + 1 := by first | exact Nat.le_refl _ | decide
    omega
  · obtain ⟨ws, w1, w2⟩ := of_each eo
    obtain ⟨c, hcx⟩ := sortedHeap_at (vs := acc.toList) (out := out.toArray) hoL
    have hn : H s1.heap.objs.size = none := (I.hok.kept k1).fresh (Nat.le_refl _)
    have hp : s.heap.get? s1.heap.objs.size = none := by
      cases e : s.heap.get? s1.heap.objs.size with
      | none => rfl
      | some o => exact absurd (Heap.lt_size (k1 _ _ e)) (Nat.lt_irrefl _)
    refine wpAny_pure ⟨_, rfl, ?_⟩
    have e1 : ({ s1 with heap := sortedHeap (s1.heap.push (seqObj "list" acc.toList.toArray 0)) s1.heap.objs.size acc.toList out.toArray } : Shared) = { s with heap := sortedHeap (s1.heap.push (seqObj "list" acc.toList.toArray 0)) s1.heap.objs.size acc.toList out.toArray, toks := s1.toks } := by
      cases s1; cases s; cases g1; cases d1; cases o1; rfl
    have hl2 : ws.length ≤ sizeLine := by rw [w1.length, ho]; exact hsl
    show EP X pins σ Q _ ({ s1 with heap := sortedHeap (s1.heap.push (seqObj "list" acc.toList.toArray 0)) s1.heap.objs.size acc.toList out.toArray } : Shared)
    rw [e1]
    refine ⟨.ref _, upd H s1.heap.objs.size (.lst ws), I.laidN (t' := s1.toks) (fun b u e => ?_) hp hn ⟨hl2, out, c, w1, hcx⟩, rfl, q _ ws hn w2⟩
    have z := k1 b u e
    have hlt := Heap.lt_size z
    rw [sortedHeap_old (Nat.ne_of_lt hlt) (by rw [size_push']; exact Nat.lt_succ_of_lt hlt)]
    exact Heap.get?_push_of_some _ z
end DL
namespace DL
open PySem PySem.Spec PyProof.Rows L2 TL
/-! ### the turns of a comprehension, from any list on -/
theorem Res.assoc {α β γ : Type} (r : Res α) (f : α → Res β) (g : β → Res γ) : (r.bind f).bind g = r.bind fun a => (f a).bind g := by cases r <;> rfl
theorem comp_turns {K : PySem.W.Frag} {Wi : Wish} {g : GF} {ts vs : List Nat} {fc : BF} {fe : EF} {tt : TT} {te : TE} (hts : ∀ t ∈ ts, t ∈ vs)
    (ht : ∀ σ H Q, tT K W0 fc σ H Q → tt σ H Q) (he : ∀ σ H Q, tE K W0 fe σ H Q → te σ H Q) {F : Fr} {G1 H1 : Hp} {σ : L2.St} {E1 : Env} {as1 : Nat → List Addr} {J : It} {ds : List D} {Q : VK} {D0 : Addr} {acc0 : List D} {av0 : List V}
    (jd : JD K G1 J ds) (st1 : StE K F G1 H1 σ E1 as1) (hpl : ∀ v ∈ vs, plainC E1[v]? = true) (hD0 : H1 D0 = some (.lst av0)) (dd0 : DDs K G1 av0 acc0) (gD1 : G1 D0 = none) (fD : F.H0 D0 = none) (nD1 : ∀ j, D0 ∉ as1 j) (hroom : av0.length + ds.length ≤ sizeLine)
    (p1 : PoN K Wi F G1 σ Q (compL vs g fc fe E1 ds acc0 E1)) :
    ∃ W : Nat → Nat → Hp → Prop, (∃ m, W 0 m H1) ∧ ∀ i m H, W i m H →
      (J.stop i H ∧ Q (.ref D0) H) ∨ (J.go i H ∧ ∃ Nx : Hp → Prop, (∀ H', Nx H' → ∃ m', m' < m ∧ W (i + 1) m' H') ∧ ∀ x H', J.yld i H x H' → tG K ts g x (wipe σ vs) H' fun σ2 H2 => wipe σ2 vs = wipe σ vs ∧ tt σ2 H2 fun b H3 =>
        if b = true then te σ2 H3 fun y H4 => ∃ acc, H4 D0 = some (.lst acc) ∧ acc.length < sizeLine ∧ Nx (upd H4 D0 (.lst (acc ++ [y]))) else Nx H3) := by
  refine ⟨fun i m H => m = ds.length - i ∧ i ≤ ds.length ∧ ∃ acc av G2 E2 as2, Same G1 G2 ∧ StE K F G2 H σ E2 as2 ∧ H D0 = some (.lst av) ∧ DDs K G2 av acc ∧ G2 D0 = none ∧ (∀ j, D0 ∉ as2 j) ∧ av.length ≤ av0.length + i ∧
      PoN K Wi F G2 σ Q (compL vs g fc fe E1 (ds.drop i) acc E2), ⟨ds.length, by simp, Nat.zero_le _, acc0, av0, G1, E1, as1, Same.refl _, st1, hD0, dd0, gD1, nD1, Nat.le_refl _, p1⟩, ?_⟩
  rintro i m H ⟨rfl, hi, acc, av, G2, E2, as2, s2, st2, hd, dda, gD, nD, la, p2⟩
  by_cases hlt : i < ds.length
  · refine .inr ⟨jd.go G2 H i s2 st2.s1 hlt, fun H' => i + 1 ≤ ds.length ∧ ∃ acc av G2 E2 as2, Same G1 G2 ∧ StE K F G2 H' σ E2 as2 ∧ H' D0 = some (.lst av) ∧ DDs K G2 av acc ∧ G2 D0 = none ∧ (∀ j, D0 ∉ as2 j) ∧ av.length ≤ av0.length + (i + 1) ∧
          PoN K Wi F G2 σ Q (compL vs g fc fe E1 (ds.drop (i + 1)) acc E2), fun H' z => ⟨ds.length - (i + 1), by omega, rfl, z⟩, fun x H' y => ?_⟩
    have hx : ds[i]? = some ds[i] := List.getElem?_eq_getElem hlt
    obtain ⟨G3, al, dd⟩ := jd.yld G2 H i _ x H' s2 st2.s1 hx y
    have st3 := st2.al al
    have hdr : ds.drop i = ds[i] :: ds.drop (i + 1) := List.drop_eq_getElem_cons hlt
    rw [hdr] at p2
    have p2 := PoN.up al.g p2
    obtain ⟨E4, e4, p4⟩ := PoN.of p2
    have gD3 : G3 D0 = none := by
      cases q : G3 D0 with
      | none => rfl
      | some u => exact absurd (al.new D0 _ (by rw [q]; exact fun z => nomatch z) gD hd) (fun z => nomatch z)
    have hd3 : H' D0 = some (.lst av) := al.h _ _ hd
    have stw := st3.wipe vs
    have nDw : ∀ j, D0 ∉ dropA as2 vs j := by
      have key : ∀ us : List Nat, ∀ j, D0 ∉ dropA as2 us j := by
        intro us
        induction us with
        | nil => exact nD
        | cons v us ih =>
          intro j hj
          by_cases e : j = v
          · rw [dropA, e, drp_same] at hj; cases hj
          · rw [dropA, drp_ne e] at hj; exact ih j hj
      exact key vs
    have sti := stw.in_
    have nOwn : D0 ∉ own (dropA as2 vs) (wipeE E2 vs).length := fun z => by
      obtain ⟨j, hj⟩ := of_own z
      exact nDw j hj
    obtain ⟨a, ea, p5⟩ := PoN.noErr p4
    refine ⟨_, G3, wipeE E2 vs, dropA as2 vs, ds[i], sti, dd, E4, e4, fun σ4 as4 st4 k4 l4 => ⟨wipe_eq (fun j hj => k4 j fun z => hj (hts j z)) l4, ?_⟩⟩
    refine ht _ _ _ ⟨_, G3, E4, as4, st4, ?_⟩
    rw [ea]
    intro G5 H5 as5 s5 st5
    have hσ : ∀ j, j ∉ vs → σ4[j]? = σ[j]? := fun j hj => (k4 j fun z => hj (hts j z)).trans (wipe_get hj)
    have hlen : σ4.length = σ.length := l4.trans (wipe_length σ vs)
    have keepD : ∀ {G6 H6 : Hp} {E6 : Env} {as6 : Nat → List Addr}, StE K (inner G3 H' (dropA as2 vs) (wipeE E2 vs).length) G6 H6 σ4 E6 as6 → H6 D0 = some (.lst av) ∧ G6 D0 = none := fun {G6 H6 E6 as6} st6 => by
      refine ⟨st6.keep D0 _ hd3 nOwn, ?_⟩
      cases q : G6 D0 with
      | none => rfl
      | some u => exact absurd gD3 (st6.priv D0 _ (by rw [q]; exact fun z => nomatch z) hd3 rfl nOwn)
    have hcell : ∀ v ∈ vs, plainC E1[v]? = true ∧ ∀ d, E1[v]? = some (.dat d) → ∃ x, σ[v]? = some (some x) ∧ DD K G1 x d := fun v hv => ⟨hpl v hv, fun d hd => by
      obtain ⟨x, e1, _, z, rfl, dd⟩ := st1.cell v _ hd
      exact ⟨z, e1, dd⟩⟩
    have backD : ∀ {G6 H6 : Hp} {E6 : Env} {as6 : Nat → List Addr}, Same G3 G6 → StE K (inner G3 H' (dropA as2 vs) (wipeE E2 vs).length) G6 H6 σ4 E6 as6 → ∃ as7, StE K F G6 H6 σ (backE E1 E6 vs) as7 ∧ ∀ j, D0 ∉ as7 j := fun {G6 H6 E6 as6} s6 st6 => by
      obtain ⟨as7, st7, h7⟩ := StE.back hcell ((s2.trans al.g).trans s6) (stw.out st6) hσ hlen
      refine ⟨as7, st7, fun j hj => ?_⟩
      obtain ⟨k, hk⟩ := h7 j D0 hj
      rcases (st6.off k D0 hk).2 with z | z
      · have z : H' D0 = none := z
        rw [hd3] at z; cases z
      · exact nOwn z
    obtain ⟨b, E5⟩ := a
    cases b with
    | true =>
      rw [if_pos rfl]
      have p5 : PoN K Wi F G3 σ Q ((DL.noErr (fe E5)).bind fun q => (ofO (asDat q.1)).bind fun y => compL vs g fc fe E1 (ds.drop (i + 1)) (acc ++ [y]) (backE E1 q.2 vs)) := p5
      obtain ⟨q, eq, p6⟩ := PoN.noErr p5
      obtain ⟨w, E6⟩ := q
      refine he _ _ _ ⟨_, G5, E5, as5, st5, ?_⟩
      rw [eq]
      intro v G7 H7 as7 s7 st7 wo7
      cases w with
      | own j => exact p6.elim
      | dat y =>
        obtain ⟨hD7, gD7⟩ := keepD st7
        obtain ⟨as8, st8, n8⟩ := backD (s5.trans s7) st7
        refine ⟨av, hD7, by omega, hlt, acc ++ [y], av ++ [v], G7, backE E1 E6 vs, as8, ((s2.trans al.g).trans s5).trans s7, st8.wr gD7 fD n8 (by rw [hD7]; exact fun z => nomatch z), upd_same, (dda.up ((al.g.trans s5).trans s7)).app (.one wo7), gD7, n8, by rw [List.length_append, List.length_singleton]; omega, ?_⟩
        exact PoN.up (s5.trans s7) p6
    | false =>
      rw [if_neg Bool.false_ne_true]
      have p5 : PoN K Wi F G3 σ Q (compL vs g fc fe E1 (ds.drop (i + 1)) acc (backE E1 E5 vs)) := p5
      obtain ⟨hD7, gD7⟩ := keepD st5
      obtain ⟨as8, st8, n8⟩ := backD s5 st5
      exact ⟨hlt, acc, av, G5, backE E1 E5 vs, as8, (s2.trans al.g).trans s5, st8, hD7, dda.up (al.g.trans s5), gD7, n8, by omega, PoN.up s5 p5⟩
  · have e : i = ds.length := by omega
    subst e
    refine .inl ⟨jd.stop G2 H s2 st2.s1, ?_⟩
    rw [List.drop_length] at p2
    exact p2 D0 G2 H as2 (Same.refl _) st2 gD fD nD ⟨av, hd, by omega, dda⟩

/-! ### two for in one comprehension -/
def lstOf : D → Option (List D)
  | .lst l => some l
  | _ => none
def compL2 (vs vs1 : List Nat) (g : GF) (fc : BF) (fi1 : IF) (g1 : GF) (fc1 : BF) (fe : EF) (E0 : Env) : List D → List D → Env → Res (D × Env)
  | [], acc, E => .ok (.lst acc, E)
  | d :: ds, acc, E => (ofO (g d (wipeE E vs))).bind fun E1 => (noErr (fc E1)).bind fun p =>
      if p.1 = true then (noErr (fi1 p.2)).bind fun r => if (vs1.all (fun v => plainC r.2[v]?) && decide (acc.length + r.1.length ≤ 16777216)) = true then
          (noErr (compL vs1 g1 fc1 fe r.2 r.1 acc r.2)).bind fun s => (ofO (lstOf s.1)).bind fun acc' => compL2 vs vs1 g fc fi1 g1 fc1 fe E0 ds acc' (backE E0 s.2 vs) else .stuck
      else compL2 vs vs1 g fc fi1 g1 fc1 fe E0 ds acc (backE E0 p.2 vs)
def nComp2 (vs vs1 : List Nat) (fi : IF) (g : GF) (fc : BF) (fi1 : IF) (g1 : GF) (fc1 : BF) (fe : EF) : NF := fun E => (fi E).bind fun p => if vs.all (fun v => plainC p.2[v]?) = true then compL2 vs vs1 g fc fi1 g1 fc1 fe p.2 p.1 [] p.2 else .stuck
theorem tLc2_of {K : PySem.W.Frag} {Wi : Wish} {fi fi1 : IF} {g g1 : GF} {ts ts1 vs vs1 : List Nat} {fc fc1 : BF} {fe : EF} {wi1 : TI} {tt tt1 : TT} {te : TE} (hts : ∀ t ∈ ts, t ∈ vs) (hts1 : ∀ t ∈ ts1, t ∈ vs1)
    (ht : ∀ σ H Q, tT K W0 fc σ H Q → tt σ H Q) (hi1 : ∀ σ H Q, tI K W0 fi1 σ H Q → wi1 σ H Q) (ht1 : ∀ σ H Q, tT K W0 fc1 σ H Q → tt1 σ H Q) (he : ∀ σ H Q, tE K W0 fe σ H Q → te σ H Q) :
    ∀ σ H Q, tN K Wi (nComp2 vs vs1 fi g fc fi1 g1 fc1 fe) σ H Q → tLc2 (tI K Wi fi) (tG K ts g) tt wi1 (tG K ts1 g1) tt1 te vs vs1 σ H Q := by
  intro σ H Q q
  obtain ⟨F, G, E, as, st, p⟩ := q
  refine ⟨F, G, E, as, st, PoI.mono (fun J H1 m => ?_) (PoI.bindN p)⟩
  obtain ⟨ds, G1, E1, as1, s1, st1, jd, p1⟩ := m
  intro D0 hD
  have p1 : PoN K Wi F G1 σ Q (if vs.all (fun v => plainC E1[v]?) = true then compL2 vs vs1 g fc fi1 g1 fc1 fe E1 ds [] E1 else .stuck) := p1
  by_cases hpl : vs.all (fun v => plainC E1[v]?) = true
  · rw [if_pos hpl] at p1
    have hpl' : ∀ v ∈ vs, plainC E1[v]? = true := List.all_eq_true.mp hpl
    have al0 : Al G1 H1 G1 (upd H1 D0 (.lst [])) := Al.grow st1.s1 fun b u q => by rw [upd_ne (ne_of_none q hD)]; exact q
    refine ⟨fun i m H => m = ds.length - i ∧ i ≤ ds.length ∧ ∃ acc av G2 E2 as2, Same G1 G2 ∧ StE K F G2 H σ E2 as2 ∧ H D0 = some (.lst av) ∧ DDs K G2 av acc ∧ G2 D0 = none ∧ (∀ j, D0 ∉ as2 j) ∧ av.length ≤ sizeLine ∧
      PoN K Wi F G2 σ Q (compL2 vs vs1 g fc fi1 g1 fc1 fe E1 (ds.drop i) acc E2), ⟨ds.length, by simp, Nat.zero_le _, [], [], G1, E1, as1, Same.refl _, st1.al al0, upd_same, .nil, st1.s1.free hD, fun j hj => ?_, Nat.zero_le _, p1⟩, ?_⟩
    · obtain ⟨o, q⟩ := st1.there hj
      rw [hD] at q; cases q
    · rintro i m H ⟨rfl, hi, acc, av, G2, E2, as2, s2, st2, hd, dda, gD, nD, la, p2⟩
      have fD : F.H0 D0 = none := st1.dom D0 hD
      by_cases hlt : i < ds.length
      · refine .inr ⟨jd.go G2 H i s2 st2.s1 hlt, fun H' => i + 1 ≤ ds.length ∧ ∃ acc av G2 E2 as2, Same G1 G2 ∧ StE K F G2 H' σ E2 as2 ∧ H' D0 = some (.lst av) ∧ DDs K G2 av acc ∧ G2 D0 = none ∧ (∀ j, D0 ∉ as2 j) ∧ av.length ≤ sizeLine ∧
          PoN K Wi F G2 σ Q (compL2 vs vs1 g fc fi1 g1 fc1 fe E1 (ds.drop (i + 1)) acc E2), fun H' z => ⟨ds.length - (i + 1), by omega, rfl, z⟩, fun x H' y => ?_⟩
        have hx : ds[i]? = some ds[i] := List.getElem?_eq_getElem hlt
        obtain ⟨G3, al, dd⟩ := jd.yld G2 H i _ x H' s2 st2.s1 hx y
        have st3 := st2.al al
        have hdr : ds.drop i = ds[i] :: ds.drop (i + 1) := List.drop_eq_getElem_cons hlt
        rw [hdr] at p2
        have p2 := PoN.up al.g p2
        obtain ⟨E4, e4, p4⟩ := PoN.of p2
        have gD3 : G3 D0 = none := by
          cases q : G3 D0 with
          | none => rfl
          | some u => exact absurd (al.new D0 _ (by rw [q]; exact fun z => nomatch z) gD hd) (fun z => nomatch z)
        have hd3 : H' D0 = some (.lst av) := al.h _ _ hd
        have stw := st3.wipe vs
        have nDw : ∀ j, D0 ∉ dropA as2 vs j := by
          have key : ∀ us : List Nat, ∀ j, D0 ∉ dropA as2 us j := by
            intro us
            induction us with
            | nil => exact nD
            | cons v us ih =>
              intro j hj
              by_cases e : j = v
              · rw [dropA, e, drp_same] at hj; cases hj
              · rw [dropA, drp_ne e] at hj; exact ih j hj
          exact key vs
        have sti := stw.in_
        have nOwn : D0 ∉ own (dropA as2 vs) (wipeE E2 vs).length := fun z => by
          obtain ⟨j, hj⟩ := of_own z
          exact nDw j hj
        obtain ⟨a, ea, p5⟩ := PoN.noErr p4
        refine ⟨_, G3, wipeE E2 vs, dropA as2 vs, ds[i], sti, dd, E4, e4, fun σ4 as4 st4 k4 l4 => ⟨wipe_eq (fun j hj => k4 j fun z => hj (hts j z)) l4, ?_⟩⟩
        refine ht _ _ _ ⟨_, G3, E4, as4, st4, ?_⟩
        rw [ea]
        intro G5 H5 as5 s5 st5
        have hσ : ∀ j, j ∉ vs → σ4[j]? = σ[j]? := fun j hj => (k4 j fun z => hj (hts j z)).trans (wipe_get hj)
        have hlen : σ4.length = σ.length := l4.trans (wipe_length σ vs)
        have keepD : ∀ {G6 H6 : Hp} {E6 : Env} {as6 : Nat → List Addr}, StE K (inner G3 H' (dropA as2 vs) (wipeE E2 vs).length) G6 H6 σ4 E6 as6 → H6 D0 = some (.lst av) ∧ G6 D0 = none := fun {G6 H6 E6 as6} st6 => by
          refine ⟨st6.keep D0 _ hd3 nOwn, ?_⟩
          cases q : G6 D0 with
          | none => rfl
          | some u => exact absurd gD3 (st6.priv D0 _ (by rw [q]; exact fun z => nomatch z) hd3 rfl nOwn)
        have hcell : ∀ v ∈ vs, plainC E1[v]? = true ∧ ∀ d, E1[v]? = some (.dat d) → ∃ x, σ[v]? = some (some x) ∧ DD K G1 x d := fun v hv => ⟨hpl' v hv, fun d hd => by
          obtain ⟨x, e1, _, z, rfl, dd⟩ := st1.cell v _ hd
          exact ⟨z, e1, dd⟩⟩
        have nOut : ∀ {G6 H6 : Hp} {E6 : Env} {as6 : Nat → List Addr}, StE K (inner G3 H' (dropA as2 vs) (wipeE E2 vs).length) G6 H6 σ4 E6 as6 → ∀ k, D0 ∉ as6 k := fun {G6 H6 E6 as6} st6 k hk => by
          rcases (st6.off k D0 hk).2 with z | z
          · have z : H' D0 = none := z
            rw [hd3] at z; cases z
          · exact nOwn z
        obtain ⟨b, E5⟩ := a
        cases b with
        | true =>
          rw [if_pos rfl]
          have p5 : PoN K Wi F G3 σ Q ((DL.noErr (fi1 E5)).bind fun r => if (vs1.all (fun v => plainC r.2[v]?) && decide (acc.length + r.1.length ≤ 16777216)) = true then
            (noErr (compL vs1 g1 fc1 fe r.2 r.1 acc r.2)).bind fun s => (ofO (lstOf s.1)).bind fun acc' => compL2 vs vs1 g fc fi1 g1 fc1 fe E1 (ds.drop (i + 1)) acc' (backE E1 s.2 vs) else .stuck) := p5
          obtain ⟨r, er, p6⟩ := PoN.noErr p5
          obtain ⟨l, E6⟩ := r
          refine hi1 _ _ _ ⟨_, G5, E5, as5, st5, ?_⟩
          rw [er]
          intro J1 G6 H6 as6 s6 st6 jd1
          dsimp only at p6
          by_cases hok : (vs1.all (fun v => plainC E6[v]?) && decide (acc.length + l.length ≤ 16777216)) = true
          · rw [if_pos hok] at p6
            rw [Bool.and_eq_true, decide_eq_true_eq] at hok
            obtain ⟨hD6, gD6⟩ := keepD st6
            have n6 := nOut st6
            have hal : av.length = acc.length := dda.len
            have hsz : sizeLine = 16777216 := sizeLine_eq
            refine comp_turns (Wi := Wi) hts1 ht1 he jd1 (stw.out st6) (List.all_eq_true.mp hok.1) hD6 (dda.up ((al.g.trans s5).trans s6)) gD6 fD n6 (by omega) (Q := fun v H => v = .ref D0 → i + 1 ≤ ds.length ∧ ∃ acc av G2 E2 as2, Same G1 G2 ∧ StE K F G2 H σ E2 as2 ∧ H D0 = some (.lst av) ∧ DDs K G2 av acc ∧ G2 D0 = none ∧ (∀ j, D0 ∉ as2 j) ∧ av.length ≤ sizeLine ∧
                PoN K Wi F G2 σ Q (compL2 vs vs1 g fc fi1 g1 fc1 fe E1 (ds.drop (i + 1)) acc E2)) ?_ |>.imp fun W hW => ⟨hW.1, fun j k H hw => (hW.2 j k H hw).imp (fun ⟨a, b⟩ => ⟨a, b rfl⟩) id⟩
            have p6 := PoN.up (s5.trans s6) p6
            obtain ⟨⟨d, E7⟩, er7, p7⟩ := PoN.noErr p6
            rw [er7]
            obtain ⟨acc', ea', p7⟩ := PoN.of p7
            intro p G7 H7 as7 s7 st7 gp fp np o hp
            cases hp
            cases d with
            | lst l' =>
              cases ea'
              obtain ⟨av', h7, z7, d7⟩ := o
              obtain ⟨as8, st8, h8⟩ := StE.back hcell (((s2.trans al.g).trans (s5.trans s6)).trans s7) st7 hσ hlen
              refine ⟨hlt, _, av', G7, _, as8, ((s2.trans al.g).trans (s5.trans s6)).trans s7, st8, h7, d7, gp, fun j hj => ?_, z7, PoN.up s7 p7⟩
              obtain ⟨k, hk⟩ := h8 j D0 hj
              exact np k hk
            | _ => cases ea'
          · rw [if_neg hok] at p6; exact p6.elim
        | false =>
          rw [if_neg Bool.false_ne_true]
          have p5 : PoN K Wi F G3 σ Q (compL2 vs vs1 g fc fi1 g1 fc1 fe E1 (ds.drop (i + 1)) acc (backE E1 E5 vs)) := p5
          obtain ⟨hD7, gD7⟩ := keepD st5
          obtain ⟨as8, st8, h8⟩ := StE.back hcell ((s2.trans al.g).trans s5) (stw.out st5) hσ hlen
          exact ⟨hlt, acc, av, G5, backE E1 E5 vs, as8, (s2.trans al.g).trans s5, st8, hD7, dda.up (al.g.trans s5), gD7, fun j hj => (by
            obtain ⟨k, hk⟩ := h8 j D0 hj
            exact nOut st5 k hk), la, PoN.up s5 p5⟩
      · have e : i = ds.length := by omega
        subst e
        refine .inl ⟨jd.stop G2 H s2 st2.s1, ?_⟩
        rw [List.drop_length] at p2
        exact p2 D0 G2 H as2 (Same.refl _) st2 gD fD nD ⟨av, hd, la, dda⟩
  · rw [if_neg hpl] at p1; exact p1.elim
section
variable {X : Cx} {Wi : Wish} {elt tg iter tg1 iter1 : Expr} {ifs ifs1 : List Expr} {scope : Scope} {own : List (Str × Nat)} {vs1 : List Nat} {pos spos py : Pos} {fi fi1 : IF} {g g1 : GF} {ts ts1 : List Nat} {fc fc1 : BF} {fe : EF}
theorem dn_comp2 (hc : X.calm = true) (hN : X.N.Nodup) (hi : DI X Wi tg iter fi) (ok : BlkOk X.N X.env.scope scope own)
    (hg : ∀ (s : Shared) (H : Hp) (C : Addr) (cl : List (Str × Addr)) (fp : List Addr), DG (X.blk s H scope (compEnvC scope cl C X.env) fp) tg ts g)
    (ht : ∀ (s : Shared) (H : Hp) (C : Addr) (cl : List (Str × Addr)) (fp : List Addr), DQs (X.blk s H scope (compEnvC scope cl C X.env) fp) ifs fc)
    (hi1 : ∀ (s : Shared) (H : Hp) (C : Addr) (cl : List (Str × Addr)) (fp : List Addr), DI (X.blk s H scope (compEnvC scope cl C X.env) fp) W0 tg1 iter1 fi1)
    (hg1 : ∀ (s : Shared) (H : Hp) (C : Addr) (cl : List (Str × Addr)) (fp : List Addr), DG (X.blk s H scope (compEnvC scope cl C X.env) fp) tg1 ts1 g1)
    (ht1 : ∀ (s : Shared) (H : Hp) (C : Addr) (cl : List (Str × Addr)) (fp : List Addr), DQs (X.blk s H scope (compEnvC scope cl C X.env) fp) ifs1 fc1)
    (he : ∀ (s : Shared) (H : Hp) (C : Addr) (cl : List (Str × Addr)) (fp : List Addr), DE (X.blk s H scope (compEnvC scope cl C X.env) fp) W0 elt fe)
    (hv : ∀ i ∈ vs1, i ∈ own.map (·.2) := by decide) (hts : ∀ t ∈ ts, t ∈ own.map (·.2) := by decide) (hts1 : ∀ t ∈ ts1, t ∈ vs1 := by decide)
    (hs : ∀ x, foldedSetIterable iter X.env x = pure x := by intro _; rfl) (hs1 : ∀ env x, foldedSetIterable iter1 env x = pure x := by intro _ _; rfl) :
    DN X Wi (.ListComp elt [⟨tg, iter, ifs, 0⟩, ⟨tg1, iter1, ifs1, 0⟩] scope pos) (nComp2 (own.map (·.2)) vs1 fi g fc fi1 g1 fc1 fe) :=
  PE.imp (pe_lc2 hc hN hi ok hv hg ht hi1 hg1 ht1 he hs hs1) (tLc2_of hts hts1 (fun _ _ _ q => q) (fun _ _ _ q => q) (fun _ _ _ q => q) fun _ _ _ q => q)
theorem ds_setNC2 {i : Nat} {y : Str} (hc : X.calm = true) (hN : X.N.Nodup) (hy : X.N[i]? = some y) (hyl : X.env.scope.names.lookup y = some .local)
    (hsw : swapsWith (.ListComp elt [⟨tg, iter, ifs, 0⟩, ⟨tg1, iter1, ifs1, 0⟩] scope pos) (some (.Name y py)) spos.line X.env = pure true) (hi : DI X Wi tg iter fi) (ok : BlkOk X.N X.env.scope scope own)
    (hg : ∀ (s : Shared) (H : Hp) (C : Addr) (cl : List (Str × Addr)) (fp : List Addr), DG (X.blk s H scope (compEnvC scope cl C X.env) fp) tg ts g)
    (ht : ∀ (s : Shared) (H : Hp) (C : Addr) (cl : List (Str × Addr)) (fp : List Addr), DQs (X.blk s H scope (compEnvC scope cl C X.env) fp) ifs fc)
    (hi1 : ∀ (s : Shared) (H : Hp) (C : Addr) (cl : List (Str × Addr)) (fp : List Addr), DI (X.blk s H scope (compEnvC scope cl C X.env) fp) W0 tg1 iter1 fi1)
    (hg1 : ∀ (s : Shared) (H : Hp) (C : Addr) (cl : List (Str × Addr)) (fp : List Addr), DG (X.blk s H scope (compEnvC scope cl C X.env) fp) tg1 ts1 g1)
    (ht1 : ∀ (s : Shared) (H : Hp) (C : Addr) (cl : List (Str × Addr)) (fp : List Addr), DQs (X.blk s H scope (compEnvC scope cl C X.env) fp) ifs1 fc1)
    (he : ∀ (s : Shared) (H : Hp) (C : Addr) (cl : List (Str × Addr)) (fp : List Addr), DE (X.blk s H scope (compEnvC scope cl C X.env) fp) W0 elt fe)
    (hv : ∀ i ∈ vs1, i ∈ own.map (·.2) := by decide) (hts : ∀ t ∈ ts, t ∈ own.map (·.2) := by decide) (hts1 : ∀ t ∈ ts1, t ∈ vs1 := by decide)
    (hs : ∀ x, foldedSetIterable iter X.env x = pure x := by intro _; rfl) (hs1 : ∀ env x, foldedSetIterable iter1 env x = pure x := by intro _ _; rfl) :
    DS X Wi (.Assign [.Name y py] (.ListComp elt [⟨tg, iter, ifs, 0⟩, ⟨tg1, iter1, ifs1, 0⟩] scope pos) spos) (sSetN i (nComp2 (own.map (·.2)) vs1 fi g fc fi1 g1 fc1 fe)) :=
  PS.imp (ps_setLc2 hc hN hy hyl hsw hi ok hv hg ht hi1 hg1 ht1 he hs hs1) (tAsgN_of (tLc2_of hts hts1 (fun _ _ _ q => q) (fun _ _ _ q => q) (fun _ _ _ q => q) fun _ _ _ q => q))
theorem ds_setC2 {i : Nat} {y : Str} (hc : X.calm = true) (hN : X.N.Nodup) (hy : X.N[i]? = some y) (hyl : X.env.scope.names.lookup y = some .local)
    (hsw : swapsWith (.ListComp elt [⟨tg, iter, ifs, 0⟩, ⟨tg1, iter1, ifs1, 0⟩] scope pos) (some (.Name y py)) spos.line X.env = pure true) (hi : DI X Wi tg iter fi) (ok : BlkOk X.N X.env.scope scope own)
    (hg : ∀ (s : Shared) (H : Hp) (C : Addr) (cl : List (Str × Addr)) (fp : List Addr), DG (X.blk s H scope (compEnvC scope cl C X.env) fp) tg ts g)
    (ht : ∀ (s : Shared) (H : Hp) (C : Addr) (cl : List (Str × Addr)) (fp : List Addr), DQs (X.blk s H scope (compEnvC scope cl C X.env) fp) ifs fc)
    (hi1 : ∀ (s : Shared) (H : Hp) (C : Addr) (cl : List (Str × Addr)) (fp : List Addr), DI (X.blk s H scope (compEnvC scope cl C X.env) fp) W0 tg1 iter1 fi1)
    (hg1 : ∀ (s : Shared) (H : Hp) (C : Addr) (cl : List (Str × Addr)) (fp : List Addr), DG (X.blk s H scope (compEnvC scope cl C X.env) fp) tg1 ts1 g1)
    (ht1 : ∀ (s : Shared) (H : Hp) (C : Addr) (cl : List (Str × Addr)) (fp : List Addr), DQs (X.blk s H scope (compEnvC scope cl C X.env) fp) ifs1 fc1)
    (he : ∀ (s : Shared) (H : Hp) (C : Addr) (cl : List (Str × Addr)) (fp : List Addr), DE (X.blk s H scope (compEnvC scope cl C X.env) fp) W0 elt fe)
    (hv : ∀ i ∈ vs1, i ∈ own.map (·.2) := by decide) (hts : ∀ t ∈ ts, t ∈ own.map (·.2) := by decide) (hts1 : ∀ t ∈ ts1, t ∈ vs1 := by decide)
    (hs : ∀ x, foldedSetIterable iter X.env x = pure x := by intro _; rfl) (hs1 : ∀ env x, foldedSetIterable iter1 env x = pure x := by intro _ _; rfl) :
    DS X Wi (.Assign [.Name y py] (.ListComp elt [⟨tg, iter, ifs, 0⟩, ⟨tg1, iter1, ifs1, 0⟩] scope pos) spos) (sSet i (eN (nComp2 (own.map (·.2)) vs1 fi g fc fi1 g1 fc1 fe))) :=
  PS.imp (ps_setLc2 hc hN hy hyl hsw hi ok hv hg ht hi1 hg1 ht1 he hs hs1) (tAsg_of fun σ H Q q => by
    obtain ⟨F, G, E, as, st, p⟩ := q
    exact tLc2_of hts hts1 (fun _ _ _ q => q) (fun _ _ _ q => q) (fun _ _ _ q => q) (fun _ _ _ q => q) σ H Q ⟨F, G, E, as, st, PoN.po p⟩)
end
/-! ### methods of texts -/
section
variable {X : Cx} {Wi : Wish} {o e : Expr} {fo fe : EF} {apos pos : Pos}
def gSIdx : D → List D → Option D
  | .str x, [.str y] => match Builtin.Str.occurrences x y 0 x.length 1 with
    | i :: _ => some (.int (i : Nat))
    | [] => none
  | _, _ => none
theorem m1d_sidx {K : PySem.W.Frag} : M1D K (fun x xs H Q => ∃ a b i rest, x = .str a ∧ xs = [.str b] ∧ Builtin.Str.occurrences a b 0 a.length 1 = i :: rest ∧ Q (.int (i : Nat)) H) gSIdx := by
  intro G H x y b d Q s ok hb e z
  cases b with
  | str t =>
    obtain ⟨rfl, _⟩ := hb.str
    have e : (match Builtin.Str.occurrences x t 0 x.length 1 with | i :: _ => some (D.int (i : Nat)) | [] => none) = some d := e
    cases q : Builtin.Str.occurrences x t 0 x.length 1 with
    | nil => rw [q] at e; cases e
    | cons i r =>
      rw [q] at e
      cases e
      exact ⟨x, t, i, r, rfl, rfl, q, z _ _ _ (Al.refl s) (.int _)⟩
  | _ => cases e
theorem de_sidx (ho : DE X Wi o fo) (he : DE X Wi e fe) (hs : starEach [e] X.env = [(false, eval e X.env)] := by rfl) (hbase : attributeBase o "index" X.env (eval o X.env) = eval o X.env := by rfl) (hline : (apos.endLine == pos.line) = true := by rfl) :
    DE X Wi (.Call (.Attribute o "index" apos) [e] [] pos) (eM1 gSIdx fo fe) := PE.imp (pe_m1 PySem.F.slot_str_index PySem.F.type_str_index mt_sindex ho he hs hbase hline) (tM1_of m1d_sidx)
def gFind : D → List D → Option D
  | .str x, [.str y] => some (.int (Txt.find x y))
  | _, _ => none
theorem m1d_find {K : PySem.W.Frag} : M1D K (fun x xs H Q => ∃ a b, x = .str a ∧ xs = [.str b] ∧ Q (.int (Txt.find a b)) H) gFind := by
  intro G H x y b d Q s ok hb e z
  cases b with
  | str t =>
    obtain ⟨rfl, _⟩ := hb.str
    cases e
    exact ⟨x, t, rfl, rfl, z _ _ _ (Al.refl s) (.int _)⟩
  | _ => cases e
theorem de_find (ho : DE X Wi o fo) (he : DE X Wi e fe) (hs : starEach [e] X.env = [(false, eval e X.env)] := by rfl) (hbase : attributeBase o "find" X.env (eval o X.env) = eval o X.env := by rfl) (hline : (apos.endLine == pos.line) = true := by rfl) :
    DE X Wi (.Call (.Attribute o "find" apos) [e] [] pos) (eM1 gFind fo fe) := PE.imp (pe_m1 PySem.F.slot_str_find PySem.F.type_str_find mt_find ho he hs hbase hline) (tM1_of m1d_find)
/-- str(an int) -/
def gStrI : List D → Option D
  | [.int i] => if i.natAbs.log2 < 1920 then some (.str (toString i)) else none
  | _ => none
theorem log_digits {i : Int} (h : i.natAbs.log2 < 1920) : (Str.ofString (toString i)).length ≤ 1000 := by
  have hb : i.natAbs < 10 ^ 900 := by
    by_cases hz : i.natAbs = 0
    · rw [hz]; decide +kernel
    · have h1 := (Nat.log2_lt hz).mp h
      have h2 : (2 : Nat) ^ 1920 ≤ 10 ^ 900 := by decide +kernel
      exact Nat.lt_of_lt_of_le h1 h2
  have e := int_text_length_le10 (k := 900) (by decide) hb
  rw [PySem.ofString_length]
  omega
theorem calld_strI {K : PySem.W.Frag} : CallD K (fun xs H Q => ∃ i, xs = [.int i] ∧ i.natAbs.log2 < 1920 ∧ Q (.str (toString i)) H) gStrI := by
  intro G H xs ds d Q s h e z
  match ds, e with
  | [.int i], e =>
    obtain ⟨h0, rfl⟩ := ifs_some (show (if i.natAbs.log2 < 1920 then some (D.str (toString i)) else none) = some d from e)
    obtain ⟨v, rfl, b⟩ := h.one
    have := b.int
    subst this
    refine ⟨i, rfl, h0, z _ _ _ (Al.refl s) (.str _ ⟨?_, ?_⟩)⟩
    · have := log_digits h0
      rw [sizeLine_eq]
      exact Nat.le_trans this (by decide)
    · exact strOk_iff.mpr (cp_string (toString i))
/-- a text's method that makes a list of texts -/
def nM1 (g : D → List D → Option D) (fo fe : EF) : NF := fun E => (fo E).bind fun p => (rd p.2 p.1).bind fun x => match x with
  | .str s => (fe p.2).bind fun q => (rd q.2 q.1).bind fun y => (ofO (g (.str s) [y])).bind fun d => .ok (d, q.2)
  | _ => .stuck
def M1N (K : PySem.W.Frag) (r : V → List V → Hp → VK → Prop) (g : D → List D → Option D) : Prop :=
  ∀ (G H : Hp) (x : Str) (y : V) (b d : D) (Q : VK), Same G H → SOk x → BD K G H y b → g (.str x) [b] = some d → RzN K G H Q d → r (.str x) [y] H Q
theorem tM1N_of {r : V → List V → Hp → VK → Prop} {g : D → List D → Option D} (hg : M1N X.K r g) : ∀ σ H Q, tN X.K Wi (nM1 g fo fe) σ H Q → tM1 r (tE X.K Wi fo) (tE X.K Wi fe) σ H Q := by
  intro σ H Q q
  obtain ⟨F, G, E, as, st, p⟩ := q
  refine ⟨F, G, E, as, st, Po.mono (fun x H1 m => ?_) (Po.bindN p)⟩
  obtain ⟨w1, G1, E1, as1, s1, st1, wo1, p1⟩ := m
  obtain ⟨d1, e1, p1⟩ := PoN.rd p1
  cases d1 with
  | str t =>
    obtain ⟨rfl, ok⟩ := (wo1.rd (Same.refl _) st1 e1).str
    refine ⟨⟨t, rfl⟩, F, G1, E1, as1, st1, Po.mono (fun y H2 m => ?_) (Po.bindN p1)⟩
    obtain ⟨w2, G2, E2, as2, s2, st2, wo2, p2⟩ := m
    obtain ⟨d2, e2, p2⟩ := PoN.rd p2
    obtain ⟨d, e3, p2⟩ := PoN.of p2
    exact hg G2 H2 t y d2 d Q st2.s1 ok (wo2.rd (Same.refl _) st2 e2) e3 (PoN.rz st2 p2)
  | _ => exact p1.elim
def gSplit : D → List D → Option D
  | .str x, [.str y] => if ((y.length == 0) = false ∧ x.length ≤ 1000000) ∧ ((Txt.split x y).all fun t => decide (t.length ≤ 16777216) && PyData.strOk t) = true ∧ (Txt.split x y).length ≤ 16777216 then some (.lst ((Txt.split x y).map D.str)) else none
  | _, _ => none
theorem dds_strs {K : PySem.W.Frag} {G : Hp} : ∀ {l : List Str}, (∀ t ∈ l, SOk t) → DDs K G (l.map V.str) (l.map D.str)
  | [], _ => .nil
  | t :: l, h => .cons (.str t (h t List.mem_cons_self)) (dds_strs fun u hu => h u (List.mem_cons_of_mem _ hu))
theorem m1n_split {K : PySem.W.Frag} : M1N K (fun x xs H Q => ∃ a b, x = .str a ∧ xs = [.str b] ∧ (b.length == 0) = false ∧ a.length + 2 ≤ sizeLine ∧ rNewStrs (Txt.split a b) H Q) gSplit := by
  intro G H x y b d Q s ok hb e z
  cases b with
  | str t =>
    obtain ⟨rfl, _⟩ := hb.str
    obtain ⟨⟨⟨h1, h2⟩, h3, h4⟩, rfl⟩ := ifs_some (show (if ((t.length == 0) = false ∧ x.length ≤ 1000000) ∧ ((Txt.split x t).all fun t => decide (t.length ≤ 16777216) && PyData.strOk t) = true ∧ (Txt.split x t).length ≤ 16777216 then some (D.lst ((Txt.split x t).map D.str)) else none) = some d from e)
    refine ⟨x, t, rfl, rfl, h1, by rw [sizeLine_eq]; omega, fun p hp => z p _ hp (Al.one s hp).h ⟨_, upd_same, ?_, dds_strs fun u hu => ?_⟩⟩
    · rw [List.length_map, sizeLine_eq]; exact h4
    · have := List.all_eq_true.mp h3 u hu
      rw [Bool.and_eq_true, decide_eq_true_eq] at this
      exact ⟨by rw [sizeLine_eq]; exact this.1, this.2⟩
  | _ => cases e
theorem dn_split (ho : DE X Wi o fo) (he : DE X Wi e fe) (hs : starEach [e] X.env = [(false, eval e X.env)] := by rfl) (hbase : attributeBase o "split" X.env (eval o X.env) = eval o X.env := by rfl) (hline : (apos.endLine == pos.line) = true := by rfl) :
    DN X Wi (.Call (.Attribute o "split" apos) [e] [] pos) (nM1 gSplit fo fe) := PE.imp (pe_split ho he hs hbase hline) (tM1N_of m1n_split)
end
end DL
namespace DL
open PySem PySem.Spec PyProof.Rows L2 TL
/-! ### e[::k] -/
def stepAt (k : Int) (n : Nat) : Int × Nat := ((Builtin.Slice.sliceAdjust none none k (n : Int)).1, Builtin.Slice.slicePlaces (Builtin.Slice.sliceAdjust none none k (n : Int)).1 (Builtin.Slice.sliceAdjust none none k (n : Int)).2 k)
def pickL {α : Type} (k : Int) (xs : List α) : List α := (List.range (stepAt k xs.length).2).filterMap fun (m : Nat) => xs[((stepAt k xs.length).1 + (m : Int) * k).toNat]?
theorem pickL_len {α : Type} (k : Int) (xs : List α) : (pickL k xs).length ≤ (stepAt k xs.length).2 := by
  refine Nat.le_trans (List.length_filterMap_le _ _) ?_
  rw [List.length_range]; exact Nat.le_refl _
theorem step_len {k : Int} (hk : k = -1 ∨ k = 2) (n : Nat) : (stepAt k n).2 ≤ n := by
  unfold stepAt Builtin.Slice.slicePlaces Builtin.Slice.sliceAdjust
  rcases hk with rfl | rfl
  · simp
    split <;> omega
  · simp
    split <;> omega
section
variable {prog : Program} {w : World} {A : Around} {E : Value → Shared → Prop} {s : Shared}
theorem applied_step {sl : Addr} {vs : Value} {k : Int} {n : Nat} {Q : Int × Int × Nat → Shared → Prop} (hs : s.heap.IsSliceOf sl .none .none vs) (ps : IsPart vs (some k)) (hk : k = -1 ∨ k = 2)
    (h : Q ((stepAt k n).1, k, (stepAt k n).2) s) : wpAny (model prog w) A (Builtin.Slice.sliceApplied (.ref sl) (pure (n : Int))) Q E s := by
  obtain ⟨o, e1, e2, e3⟩ := hs
  unfold Builtin.Slice.sliceApplied Builtin.Slice.sliceFields
  refine wpAny_bind (wpAny_bind (wpAny_field e1 e3 (x := .none) rfl (wpAny_bind (wpAny_field e1 e3 (x := .none) rfl (wpAny_bind (wpAny_field e1 e3 (x := vs) rfl (wpAny_pure ?_)))))))
  refine wpAny_bind (HT.slicePart_ ps ?_)
  show wpAny _ _ (if (k == 0) = true then _ else _) _ _ s
  rw [if_neg (by rcases hk with rfl | rfl <;> decide)]
  refine wpAny_bind (HT.slicePart_ .none (wpAny_bind (HT.slicePart_ .none (wpAny_bind (wpAny_pure ?_)))))
  exact wpAny_pure h
theorem tuple_step {t sl : Addr} {items : Array Value} {vs : Value} {k : Int} {Q : Value → Shared → Prop} (ht : IsTup s.heap t items) (hs : s.heap.IsSliceOf sl .none .none vs) (ps : IsPart vs (some k)) (hk : k = -1 ∨ k = 2) (hz : items.size ≤ sizeLine)
    (h : Q (.ref s.heap.objs.size) { s with heap := s.heap.push { cls := .type "tuple", data := .seq (pickL k items.toList).toArray } }) : wpAny (model prog w) A (getItem (.ref t) (.ref sl)) Q E s := by
  have hT : s.TypeIs (.ref sl) "slice" := by
    obtain ⟨o, e1, e2, _⟩ := hs
    exact ⟨o, e1, e2⟩
  have hsz : sizeOk (.seq (pickL k items.toList).toArray) := by
    show (pickL k items.toList).toArray.size ≤ sizeLine
    have h1 := pickL_len k items.toList
    have h2 := step_len hk items.toList.length
    have h3 : (pickL k items.toList).toArray.size = (pickL k items.toList).length := List.size_toArray
    have h4 : items.toList.length = items.size := Array.length_toList
    rw [h4] at h1 h2
    omega
  have entry : wpAny (model prog w) A.in1 (Builtin.«tuple.__getitem__» ⟨[.ref t, .ref sl], []⟩) (fun fin s' => ∃ v, fin = .done (.ret v) ∧ Q v s') E s := by
    show wpAny _ _ (Builtin.Tuple.tupleItemsOf (.ref t) >>= _) _ _ s
    refine wpAny_bind (tupleItemsOf_ ht (wpAny_bind (wpAny_typeOf hT ?_)))
    rw [if_pos (by decide)]
    refine wpAny_bind (applied_step hs ps hk ?_)
    have hno : ¬ (((stepAt k items.size).1 == 0 && k == 1 && (stepAt k items.size).2 == items.size) = true) := by
      have : (k == 1) = false := by rcases hk with rfl | rfl <;> decide
      rw [this]; simp
    show wpAny _ _ (if ((stepAt k items.size).1 == 0 && k == 1 && (stepAt k items.size).2 == items.size) = true then _ else _) _ _ s
    rw [if_neg hno]
    have e : ((List.range (stepAt k items.size).2).filterMap fun (m : Nat) => items[((stepAt k items.size).1 + (m : Int) * k).toNat]?) = pickL k items.toList := by
      unfold pickL
      rw [Array.length_toList]
      simp only [Array.getElem?_toList]
    rw [e]
    first
      | exact wpAny_bind (m := Builtin.Tuple.tupleExact _) (wpAny_newObj_type (wpAny_pure ⟨_, rfl, wpAny_pure h⟩) hsz)
      | exact wpAny_bind (m := Builtin.Tuple.tupleExact _) (wpAny_newObj_type (wpAny_pure ⟨_, rfl, h⟩) hsz)
      | exact wpAny_bind (m := Builtin.Tuple.tupleExact _) (wpAny_newObj_type (wpAny_bind (wpAny_pure (wpAny_pure ⟨_, rfl, h⟩))) hsz)
  unfold getItem
  try with_reducible refine wpAny_holding ?_
  first | refine wpAny_bind (wpAny_pure ?_) | skip
  refine wpAny_bind (wpAny_sequenceKey ht.typeIs (by decide) ?_)
  exact wpAny_bind (wpAny_callSpecial?_slot (name := Str.ofString "__getitem__") ht.typeIs PyProof.Rows.slot_tuple_getitem (wpAny_call_entry PyProof.Rows.slot_tuple_getitem ht.typeIs entry_tuple_getitem (wpAny_mono entry (fun fin s' ⟨v, e, q⟩ => ⟨v, e, wpAny_pure q⟩) fun _ _ e => e) (args_tuple_getitem _ _)))
end
theorem vals_pickL {k : Int} {vs : List V} {us : List Value} (r : Vals vs us) : Vals (pickL k vs) (pickL k us) := by
  unfold pickL
  rw [r.length]
  generalize List.range (stepAt k us.length).2 = rg
  induction rg with
  | nil => exact .nil
  | cons m rg ih =>
    rw [List.filterMap_cons, List.filterMap_cons]
    have key : ∀ {vs : List V} {us : List Value} (i : Nat), Vals vs us → (vs[i]? = none ∧ us[i]? = none) ∨ ∃ v u, vs[i]? = some v ∧ us[i]? = some u ∧ RelV v u := by
      intro vs us i r
      induction r generalizing i with
      | nil => exact .inl ⟨rfl, rfl⟩
      | cons a _ ih2 =>
        cases i with
        | zero => exact .inr ⟨_, _, rfl, rfl, a⟩
        | succ i => simpa using ih2 i
    rcases key ((stepAt k us.length).1 + (m : Int) * k).toNat r with ⟨h1, h2⟩ | ⟨v, u, h1, h2, h3⟩
    · rw [h1, h2]; exact ih
    · rw [h1, h2]; exact .cons h3 ih
theorem dds_pickL {K : PySem.W.Frag} {G : Hp} {k : Int} {vs : List V} {ds : List D} (r : DDs K G vs ds) : DDs K G (pickL k vs) (pickL k ds) := by
  unfold pickL
  rw [r.len]
  generalize List.range (stepAt k ds.length).2 = rg
  induction rg with
  | nil => exact .nil
  | cons m rg ih =>
    rw [List.filterMap_cons, List.filterMap_cons]
    cases h : ds[((stepAt k ds.length).1 + (m : Int) * k).toNat]? with
    | none =>
      have : vs[((stepAt k ds.length).1 + (m : Int) * k).toNat]? = none := by
        rw [List.getElem?_eq_none_iff] at h ⊢
        rw [r.len]; exact h
      rw [this]; exact ih
    | some d =>
      obtain ⟨v, e1, e2⟩ := r.get h
      rw [e1]; exact .cons e2 ih
/-! the rule -/
def rStep (K : PySem.W.Frag) (k : Int) : V → Hp → VK → Prop := fun x H Q => (k = -1 ∨ k = 2) ∧ ((∃ a xs, x = .ref a ∧ SqT K H a xs ∧ ∀ p, H p = none → Q (.ref p) (upd H p (.tup (pickL k xs)))) ∨
  (k = -1 ∧ ∃ a xs, x = .ref a ∧ SqL K H a xs ∧ ∀ p, H p = none → Q (.ref p) (upd H p (.lst xs.reverse))) ∨
  (k = -1 ∧ ∃ z : Str, x = .str z ∧ z.length ≤ sizeLine ∧ Q (.str ⟨z.cps.toList.reverse.toArray⟩) H))
theorem rev_str (z : Str) : ((Builtin.Str.strSliceIndices none none (-1) z.length).filterMap (z.cps[·]?)) = z.cps.toList.reverse := by
  have h := step_rev_list z 0
  have h2 : (Txt.sliceBy z none none (-1, 0)).cps.toList = (Builtin.Str.strSliceIndices none none (-1) z.length).filterMap (z.cps[·]?) := by
    unfold Txt.sliceBy slicePicked
    simp
  rw [h2] at h
  rw [h]
  refine List.ext_getElem (by simp [Str.length]) fun i h1 h2 => ?_
  rw [List.getElem_map, List.getElem_range, List.getElem_reverse]
  rw [List.length_map, List.length_range] at h1
  have hl : z.length = z.cps.size := rfl
  simp only [Array.getD_eq_getD_getElem?, Array.length_toList, Array.getElem_toList]
  rw [Array.getElem?_eq_getElem (by omega)]
  rfl
section
variable {X : Cx} {Wi : Wish} {e se : Expr} {te tse : TE} {k : Int} {p3 pos : Pos} {fe : EF}
theorem pe_stepS (he : PE X e te) (hse : PE X se tse) (hk : ∀ σ H Q, Q (.int k) H → tse σ H Q) : PE X (.Subscript e (.Slice none none (some se) p3) pos) (tUn (rStep X.K k) te) := by
  refine ⟨fun pins s σ H Q I h => ?_⟩
  refine Subscript_ (thn (he.run pins s σ H _ I h) fun v s1 ⟨x, H1, I1, r1, q1⟩ => ?_)
  have hst : PO X (some se) (tPart tse) := po_some hse
  refine wpAny_Slice (thn (po_none.run pins s1 σ H1 (fun o H2 => o = none ∧ H2 = H1) I1 ⟨rfl, rfl⟩) fun vl s2 ⟨l, H2, I2, pl, el, e2⟩ => ?_)
  subst el e2
  refine thn (po_none.run pins s2 σ H2 (fun o H3 => o = none ∧ H3 = H2) I2 ⟨rfl, rfl⟩) fun vu s3 ⟨u, H3, I3, pu, eu, e3⟩ => ?_
  subst eu e3
  refine thn (hst.run pins s3 σ H3 (fun o H4 => o = some k ∧ H4 = H3) I3 (hk _ _ _ ⟨k, rfl, rfl, rfl⟩)) fun vs s4 ⟨o, H4, I4, ps, eo, e4⟩ => ?_
  subst eo e4
  cases pl
  cases pu
  have I5 : Inv X pins σ H4 { s4 with heap := s4.heap.push { cls := .type "slice", data := .fields #[.none, .none, vs] } } := I4.kept (t' := s4.toks) fun b ob q => Heap.get?_push_of_some _ q
  obtain ⟨hk2, q1⟩ := q1
  rcases q1 with ⟨a, xs, rfl, hx, q⟩ | ⟨rfl, a, xs, rfl, hx, q⟩ | ⟨rfl, z, rfl, hz, q⟩
  · cases r1
    obtain ⟨its, r, ht, hz⟩ := I5.tuple hx
    have hlen := r.length
    show wpAny (model X.prog X.w) X.A (subscriptTail e (.Slice none none (some se) p3) (.ref a) (.ref s4.heap.objs.size)) (EP X pins σ Q) X.xe { s4 with heap := s4.heap.push { cls := .type "slice", data := .fields #[.none, .none, vs] } }
    refine tail_any (ops := [.ref a, .ref s4.heap.objs.size]) ht.typeIs PyProof.Rows.slot_tuple_getitem.lookup ?_ (by with_unfolding_all rfl)
    refine tuple_step ht (Heap.IsSliceOf.new ..) ps hk2 (by rw [List.size_toArray]; omega) ?_
    refine ⟨.ref _, _, I5.laid (t' := s4.toks) (o := .tup (pickL k xs)) (fun b ob q => Heap.get?_push_of_some _ q) (Nat.le_refl _) ?_, rfl, q _ (I5.hok.fresh (Nat.le_refl _))⟩
    refine ⟨?_, pickL k its, vals_pickL r, ⟨_, Heap.get?_push_size _ rfl, rfl, 0, by simp⟩⟩
    exact Nat.le_trans (pickL_len k xs) (Nat.le_trans (step_len hk2 _) hz)
  · cases r1
    obtain ⟨its, r, ht, hz⟩ := I5.list hx
    have hlen := r.length
    show wpAny (model X.prog X.w) X.A (subscriptTail e (.Slice none none (some se) p3) (.ref a) (.ref s4.heap.objs.size)) (EP X pins σ Q) X.xe { s4 with heap := s4.heap.push { cls := .type "slice", data := .fields #[.none, .none, vs] } }
    refine tail_any (ops := [.ref a, .ref s4.heap.objs.size]) ht.isList.typeIs PySem.slot_list_getitem.lookup ?_ (by with_unfolding_all rfl)
    refine wpAny_getItem_list_slice ht.isList (Heap.IsSliceOf.new ..) .none .none ps (by decide) ?_ (by rw [List.size_toArray]; omega)
    rw [PySem.W.krv_pick]
    exact ⟨.ref _, _, I5.laid (t' := s4.toks) (o := .lst xs.reverse) (fun b ob q => Heap.get?_push_of_some _ q) (Nat.le_refl _) ⟨by rw [List.length_reverse]; exact hz, _, 0, r.reverse, Heap.get?_push_size _ rfl⟩, rfl, q _ (I5.hok.fresh (Nat.le_refl _))⟩
  · obtain ⟨t, rfl⟩ := r1
    cases ps with
    | int _ tk =>
      show wpAny (model X.prog X.w) X.A (subscriptTail e (.Slice none none (some se) p3) (.str z t) (.ref s4.heap.objs.size)) (EP X pins σ Q) X.xe { s4 with heap := s4.heap.push { cls := .type "slice", data := .fields #[.none, .none, .int (-1) tk] } }
      refine tail_any (ops := [.str z t, .ref s4.heap.objs.size]) (typeIs_str _ _ _) F.slot_str_getitem.lookup ?_ (by with_unfolding_all rfl)
      refine wpAny_getItem_str_slice (l := none) (u := none) (st := some (-1, tk)) ⟨_, Heap.get?_push_size _ rfl, rfl, rfl⟩ rfl ?_
      have e1 := rev_str z
      have e2 : sliceMade z t none none (some (-1, tk)) = .str ⟨z.cps.toList.reverse.toArray⟩ := by
        unfold sliceMade slicePicked
        show (if ((-1 : Int) == 1 && (Builtin.Str.strSliceIndices none none (-1) z.length).length == z.length) = true then Made.val (.str z t) else Made.str ⟨((Builtin.Str.strSliceIndices none none (-1) z.length).filterMap (z.cps[·]?)).toArray⟩) = _
        rw [if_neg (by simp), e1]
      rw [e2]
      refine ⟨?_, .str _, _, I5.tok _, ⟨_, rfl⟩, q⟩
      show (z.cps.toList.reverse.toArray).size ≤ sizeLine
      rw [List.size_toArray, List.length_reverse, Array.length_toList]
      exact hz
def gStep (k : Int) : D → Option D
  | .tup xs => if k = -1 ∨ k = 2 then some (.tup (pickL k xs)) else none
  | .lst xs => if k = -1 then some (.lst xs.reverse) else none
  | .str x => if k = -1 then some (.str ⟨(tl x).reverse.toArray⟩) else none
  | _ => none
theorem und_step {K : PySem.W.Frag} {k : Int} : UnD K (rStep K k) (gStep k) := by
  intro G H x a d Q s h e z
  cases a with
  | tup xs =>
    obtain ⟨hk, rfl⟩ := ifs_some (show (if k = -1 ∨ k = 2 then some (D.tup (pickL k xs)) else none) = some d from e)
    obtain ⟨a, vs, rfl, h1, z1, d1, _⟩ := h.tup s
    refine ⟨hk, .inl ⟨a, vs, rfl, SqT.of h1, fun p hp => z _ (upd G p (.tup (pickL k vs))) _ (Al.one s hp) (.tup upd_same ?_ ((dds_pickL d1).up (Al.one s hp).g))⟩⟩
    exact Nat.le_trans (pickL_len k vs) (Nat.le_trans (step_len hk _) z1)
  | lst xs =>
    obtain ⟨hk, rfl⟩ := ifs_some (show (if k = -1 then some (D.lst xs.reverse) else none) = some d from e)
    obtain ⟨a, vs, rfl, h1, z1, d1⟩ := h.lst s
    refine ⟨.inl hk, .inr (.inl ⟨hk, a, vs, rfl, SqL.of h1, fun p hp => z _ (upd G p (.lst vs.reverse)) _ (Al.one s hp) (.lst upd_same ?_ (d1.rev.up (Al.one s hp).g))⟩)⟩
    rw [List.length_reverse]; exact z1
  | str x =>
    obtain ⟨hk, rfl⟩ := ifs_some (show (if k = -1 then some (D.str ⟨(tl x).reverse.toArray⟩) else none) = some d from e)
    obtain ⟨rfl, ok⟩ := h.str
    refine ⟨.inl hk, .inr (.inr ⟨hk, x, rfl, ok.1, z _ _ _ (Al.refl s) (.str _ (ok.sub (fun c hc => ?_) ?_))⟩)⟩
    · exact List.mem_reverse.mp (by simpa [tl] using hc)
    · show ((tl x).reverse.toArray).size ≤ x.cps.size
      rw [List.size_toArray, List.length_reverse]
      show x.cps.toList.length ≤ _
      rw [Array.length_toList]; exact Nat.le_refl _
  | _ => cases e
theorem de_step (he : DE X Wi e fe) (hse : PE X se tse) (hk : ∀ σ H Q, Q (.int k) H → tse σ H Q) : DE X Wi (.Subscript e (.Slice none none (some se) p3) pos) (eUn (gStep k) fe) := PE.imp (pe_stepS he hse hk) (tUn_of und_step)
theorem de_rev {e : Expr} {p1 p2 : Pos} {j : Nat} (he : DE X Wi e fe) : DE X Wi (.Subscript e (.Slice none none (some (.UnaryOp .USub (.Constant (.int 1) j p1) p2)) p3) pos) (eUn (gStep (-1)) fe) :=
  de_step he (pe_un un_neg pe_int) fun _ _ _ q => ⟨1, rfl, q⟩
theorem de_two {e : Expr} {p1 : Pos} {j : Nat} (he : DE X Wi e fe) : DE X Wi (.Subscript e (.Slice none none (some (.Constant (.int 2) j p1)) p3) pos) (eUn (gStep 2) fe) :=
  de_step he pe_int fun _ _ _ q => q
end
end DL
namespace DL
open PySem PySem.Spec PyProof.Rows L2 TL
/-! ### a law that begins with the deck and a new list -/
theorem StE.law2 {K : PySem.W.Frag} {H : Hp} {σ : L2.St} {p q r : Addr} {l : List Int} {b : Int} {n : Nat} (hl : σ.length = n + 3) (h1 : σ[1]? = some (some (.ref p))) (h2 : σ[2]? = some (some (.ref r))) (npq : p ≠ q) (nrp : r ≠ p) (nrq : r ≠ q) (dk : DeckAt H p q l b) (hr : H r = some (.lst [])) :
    StE K ⟨fun _ => none, fun _ => none, []⟩ (fun _ => none) H σ (.no :: .deck p q l b :: .own (.lst []) :: nos n) fun i => if i = 1 then [p, q] else if i = 2 then [r] else [] := by
  refine ⟨by rw [hl]; unfold nos; simp, Same.refl _, fun _ _ h => (nomatch h), fun _ _ h => (nomatch h), fun _ _ => rfl, fun _ _ h => absurd rfl h, fun i c e => ?_, fun i j a h1 h2 => ?_, fun i a h => ⟨rfl, .inl rfl⟩, fun i h => ?_⟩
  · match i, e with
    | 0, e => cases e; exact ⟨_, List.getElem?_eq_getElem (by omega), rfl⟩
    | 1, e => cases e; exact ⟨_, h1, rfl, rfl, dk⟩
    | 2, e => cases e; exact ⟨_, h2, r, rfl, rfl, [], hr, Nat.zero_le _, .nil⟩
    | i + 3, e =>
      have e : (nos n)[i]? = some c := e
      unfold nos at e
      rw [List.getElem?_replicate] at e
      split at e
      · rename_i hi
        cases e
        refine ⟨_, List.getElem?_eq_getElem (by omega), ?_⟩
        show (if i + 3 = 1 then [p, q] else if i + 3 = 2 then [r] else []) = []
        rw [if_neg (by omega), if_neg (by omega)]
      · cases e
  · have key : ∀ i, a ∈ (if i = 1 then [p, q] else if i = 2 then [r] else []) → (i = 1 ∧ (a = p ∨ a = q)) ∨ (i = 2 ∧ a = r) := fun i h => by
      by_cases e1 : i = 1
      · rw [if_pos e1] at h; exact .inl ⟨e1, by simpa using h⟩
      · rw [if_neg e1] at h
        by_cases e2 : i = 2
        · rw [if_pos e2] at h; exact .inr ⟨e2, by simpa using h⟩
        · rw [if_neg e2] at h; cases h
    rcases key i h1 with ⟨a1, a2⟩ | ⟨a1, a2⟩ <;> rcases key j h2 with ⟨b1, b2⟩ | ⟨b1, b2⟩
    · rw [a1, b1]
    · rw [b2] at a2
      rcases a2 with z | z
      · exact absurd z nrp
      · exact absurd z nrq
    · rw [a2] at b2
      rcases b2 with z | z
      · exact absurd z nrp
      · exact absurd z nrq
    · rw [a1, b1]
  · have hlen : i ≥ n + 3 := by simpa [nos] using h
    show (if i = 1 then [p, q] else if i = 2 then [r] else []) = []
    rw [if_neg (by omega), if_neg (by omega)]
theorem law_read2 {K : PySem.W.Frag} {N : List Str} {n : Nat} {fb : SF} {H : Hp} {Q : VK} {nx : L2.St → Hp → Prop} {bk ct : L2.St → Hp → Prop} {a : Addr} {ns : List Int} (hN : N.length = n + 3)
    (hm : ∀ (p q : Addr) (l : List Int) (b : Int), l.length ≤ 63 → ∃ E, fb (.no :: .deck p q l b :: .own (.lst []) :: nos n) = .ok (.rt (.bl true), E)) (hS : SqL K H a (ns.map V.int)) (hl : ns.length ≤ 63) (z : ∀ H', Q (.bl true) H') :
    tSeq (tPar 1 2 (tCons (tCallG (spDeck K) W0 (tCons (tVar 0) tNil)) (tCons (tLst tNil) tNil))) (tS K W0 fb) { nx := nx, rt := Q, bk := bk, ct := ct } (L2.start N [.ref a]) H := by
  have len : (L2.start N [.ref a]).length = n + 3 := by
    rw [start_len (by simp only [List.length_cons, List.length_nil]; omega)]; exact hN
  refine ⟨_, start_get (v := .ref a) rfl, a, ns, rfl, hS, hl, fun p q l b H' s hp hq npq hll dk => ?_⟩
  refine ⟨Nat.zero_le _, fun r hr => ⟨_, _, rfl, ?_⟩⟩
  have nrp : r ≠ p := fun e => by rw [e, dk.1] at hr; cases hr
  have nrq : r ≠ q := fun e => by rw [e, dk.2] at hr; cases hr
  refine ⟨_, _, _, _, StE.law2 (p := p) (q := q) (r := r) (l := l) (b := b) (n := n) (by rw [List.length_set, List.length_set]; exact len) (by rw [List.getElem?_set_ne (by decide)]; exact List.getElem?_set_self (by rw [len]; omega)) (List.getElem?_set_self (by rw [List.length_set, len]; omega)) npq nrp nrq ⟨by rw [upd_ne nrp.symm]; exact dk.1, by rw [upd_ne nrq.symm]; exact dk.2⟩ upd_same, ?_⟩
  obtain ⟨E, e⟩ := hm p q l b hll
  rw [e]
  intro v σ' G' H'' as' _ _ dd
  cases dd
  exact z _
end DL
namespace DL
open PySem PySem.Spec PyProof.Rows L2 TL
/-! ### data in which {} may stand -/
mutual
def D.okE : D → Bool
  | .lst xs => okEL xs
  | .tup xs => okEL xs
  | .dic l => l.isEmpty
  | .dit _ => false
  | .obj _ _ => false
  | .non => true
  | .bl _ => true
  | .int _ => true
  | .str _ => true
def okEL : List D → Bool
  | [] => true
  | x :: xs => x.okE && okEL xs
end
theorem okEL_all : ∀ l : List D, okEL l = l.all D.okE
  | [] => rfl
  | x :: l => by rw [okEL, okEL_all l]; rfl
mutual
def okC : PyData → Bool
  | .none => true
  | .bool _ => true
  | .int _ => true
  | .str x => PyData.strOk x
  | .list xs => okCL xs
  | .tuple xs => okCL xs
  | .dict l => l.isEmpty
def okCL : List PyData → Bool
  | [] => true
  | x :: xs => okC x && okCL xs
end
mutual
theorem DD.layE {K : PySem.W.Frag} {G : Hp} : ∀ (d : D) (v : V), d.okE = true → DD K G v d → okC d.py = true
  | .non, _, _, _ => rfl
  | .bl b, _, _, _ => rfl
  | .int i, _, _, _ => rfl
  | .str x, _, _, h => by cases h with | str _ h => exact h.2
  | .lst ds, _, p, h => by cases h with | lst _ _ ha => exact DDs.layE ds _ (by simpa [D.okE] using p) ha
  | .tup ds, _, p, h => by cases h with | tup _ _ ha => exact DDs.layE ds _ (by simpa [D.okE] using p) ha
  | .dic l, _, p, _ => by
    cases l with
    | nil => rfl
    | cons _ _ => cases p
  | .dit _, _, p, _ => by cases p
  | .obj _ _, _, p, _ => by cases p
theorem DDs.layE {K : PySem.W.Frag} {G : Hp} : ∀ (ds : List D) (vs : List V), okEL ds = true → DDs K G vs ds → okCL (pyL ds) = true
  | [], _, _, _ => rfl
  | d :: ds, _, p, h => by
    cases h with
    | cons h1 h2 =>
      rw [okEL, Bool.and_eq_true] at p
      show (okC d.py && okCL (pyL ds)) = true
      rw [DD.layE d _ p.1 h1, DDs.layE ds _ p.2 h2]; rfl
end
mutual
theorem cp_shownE : ∀ d : PyData, okC d = true → Cp (tl d.shown)
  | .none, _ => cp_string _
  | .bool b, _ => by cases b <;> exact cp_string _
  | .int i, _ => cp_string _
  | .str x, h => cp_reprText (strOk_iff.mp h)
  | .list xs, h => cp_add (cp_from _ 0 _ (cp_string _) (cp_shownEL xs h)) (cp_string _)
  | .tuple xs, h => cp_add (cp_add (cp_string _) (cp_join (cp_string _) _ (cp_shownEL xs h))) (by split <;> exact cp_string _)
  | .dict l, h => by
    cases l with
    | nil => exact cp_string "{}"
    | cons _ _ => cases h
theorem cp_shownEL : ∀ ds : List PyData, okCL ds = true → ∀ t ∈ PyData.shownAll ds, Cp (tl t)
  | [], _, t, ht => by cases ht
  | d :: ds, h, t, ht => by
    have h : (okC d && okCL ds) = true := h
    rw [Bool.and_eq_true] at h
    rcases List.mem_cons.mp ht with e | ht
    · rw [e]; exact cp_shownE d h.1
    · exact cp_shownEL ds h.2 t ht
end
section
variable {X : Cx} {pins : List (Addr × Obj)} {σ : L2.St} {G H : Hp} {s : Shared} {v : V} {u : Value} {d : D}
/-- it is shown so, under what is being shown -/
def Shn (P : Program) (w : World) (h : Heap) (u : Value) (d : PyData) : Prop := ∃ bs, ReadAtMost h d.depth bs ∧ ReprK P w bs h d.depth u d.shown
def ShnL (P : Program) (w : World) (h : Heap) (us : List Value) (ds : List PyData) : Prop := ∃ bs, ReadAtMost h (PyData.depthAll ds) bs ∧ ReprAllK P w bs h (PyData.depthAll ds) us (PyData.shownAll ds)
section
variable {P : Program} {w : World} {h : Heap} {a : Addr} {o : Obj} {n : Nat}
theorem shn_list {us : List Value} {ds : List PyData} {as : List Addr} (ho : h.get? a = some o) (hc : o.cls = .type "list") (hd : o.data = .seq us.toArray n) (hr : ReadsAll h us ds as) (k : ShnL P w h us ds) : Shn P w h (.ref a) (.list ds) := by
  obtain ⟨bs, hb, k⟩ := k
  have rl := Reads.list ho hc hd (by simpa using hr)
  have hna : a ∉ bs := not_mem_of_deeper rl (Nat.lt_succ_self _) hb
  refine ⟨a :: bs, hb.cons rl (Nat.le_succ _), ?_⟩
  show ReprK P w (a :: bs) h (PyData.depthAll ds + 1) (.ref a) (listText (PyData.shownAll ds))
  generalize PyData.shownAll ds = ts at k ⊢
  cases us with
  | nil =>
    cases k
    rw [listText_nil]
    exact .listEmpty ho hc hd
  | cons x us =>
    have hl := k.length_eq
    exact .list ho hc hd hna (by simpa using hl) fun i y q => k.item i y (by simpa using q)
theorem shn_tup {us : List Value} {ds : List PyData} {as : List Addr} (ho : h.get? a = some o) (hc : o.cls = .type "tuple") (hd : o.data = .seq us.toArray n) (hr : ReadsAll h us ds as) (k : ShnL P w h us ds) : Shn P w h (.ref a) (.tuple ds) := by
  obtain ⟨bs, hb, k⟩ := k
  have rl := Reads.tuple ho hc hd (by simpa using hr)
  have hna : a ∉ bs := not_mem_of_deeper rl (Nat.lt_succ_self _) hb
  exact ⟨a :: bs, hb.cons rl (Nat.le_succ _), .tuple ho hc hd hna (by simpa using k)⟩
theorem shn_dic {es : Array DictEntry} (ho : h.get? a = some o) (hc : o.cls = .type "dict") (hd : o.data = .dict es n) (he : es.toList = []) (hs : (a == PySem.sysModules) = false) : Shn P w h (.ref a) (.dict []) := by
  have rd : Reads h (.ref a) (.dict []) (a :: [] ++ []) := .dict ho hc hd (by rw [he]; exact .nil) (by rw [he]; exact .nil)
  refine ⟨a :: [], ReadAtMost.cons (n := 0) rd (Nat.zero_le _) (fun _ z => nomatch z), ?_⟩
  exact .dict (ps := []) ho hc hd hs List.not_mem_nil (by rw [he]; exact .nil)
end
mutual
theorem DD.readsE (P : Program) (w : World) (I : Inv X pins σ H s) (e : Same G H) : ∀ (d : D) (v : V) (u : Value), d.okE = true → DD X.K G v d → RelV v u → ∃ as, Reads s.heap u d.py as ∧ (d.py.showable = true → d.py.shown.length ≤ sizeLine → Shn P w s.heap u d.py)
  | .non, _, _, _, h, r => by cases h; cases r; exact ⟨_, Reads.none, fun _ _ => ⟨[], (fun _ z => nomatch z), .of_is ReprIs.none _ _ _⟩⟩
  | .bl b, _, _, _, h, r => by cases h; cases r; exact ⟨_, Reads.bool b, fun _ _ => ⟨[], (fun _ z => nomatch z), .of_is (ReprIs.bool b) _ _ _⟩⟩
  | .int i, _, _, _, h, r => by cases h; obtain ⟨t, rfl⟩ := r; exact ⟨_, Reads.int i t, fun hs _ => ⟨[], (fun _ z => nomatch z), .of_is (ReprIs.int t (of_decide_eq_true hs)) _ _ _⟩⟩
  | .str x, _, _, _, h, r => by cases h; obtain ⟨t, rfl⟩ := r; exact ⟨_, Reads.str x t, fun _ hz => ⟨[], (fun _ z => nomatch z), .of_is (ReprIs.str x t hz) _ _ _⟩⟩
  | .lst ds, _, _, p, h, r => by
    cases h with
    | lst hs _ ha =>
      cases r
      obtain ⟨its, rv, ⟨o, n, ho, hc, _, hd⟩, _⟩ := I.list (SqL.of (e _ _ hs))
      obtain ⟨as, hr, k⟩ := DDs.readsE P w I e ds _ its (by simpa [D.okE] using p) ha rv
      exact ⟨_, Reads.list ho hc hd hr, fun h1 h2 => shn_list ho hc hd hr (k h1 fun t ht => Nat.le_trans (listText_mem_le ht) h2)⟩
  | .tup ds, _, _, p, h, r => by
    cases h with
    | tup hs _ ha =>
      cases r
      obtain ⟨its, rv, ⟨o, ho, hc, n, hd⟩, _⟩ := I.tuple (SqT.of (e _ _ hs))
      obtain ⟨as, hr, k⟩ := DDs.readsE P w I e ds _ its (by simpa [D.okE] using p) ha rv
      exact ⟨_, Reads.tuple ho hc hd hr, fun h1 h2 => shn_tup ho hc hd hr (k h1 fun t ht => Nat.le_trans (tupleText_mem_le ht) h2)⟩
  | .dic l, _, _, p, h, r => by
    cases l with
    | cons _ _ => cases p
    | nil =>
      cases h with
      | dic hs hk =>
        cases hk
        cases r
        obtain ⟨_, hsy, vs, rel, o, es, ep, eo, exd, hdat, hk, hp, _⟩ := dk_of I.hok (e _ _ hs)
        cases rel
        have he : es.toList = [] := by revert hp; generalize es.toList = l; intro hp; cases hp; rfl
        exact ⟨_, Reads.dict (kvs := []) (as := []) (bs := []) eo exd.1 hdat (by rw [he]; exact .nil) (by rw [he]; exact .nil), fun _ _ => shn_dic eo exd.1 hdat he hsy⟩
  | .dit _, _, _, p, _, _ => by cases p
  | .obj _ _, _, _, p, _, _ => by cases p
theorem DDs.readsE (P : Program) (w : World) (I : Inv X pins σ H s) (e : Same G H) : ∀ (ds : List D) (vs : List V) (us : List Value), okEL ds = true → DDs X.K G vs ds → Vals vs us → ∃ as, ReadsAll s.heap us (pyL ds) as ∧ (PyData.showableAll (pyL ds) = true → (∀ t ∈ PyData.shownAll (pyL ds), t.length ≤ sizeLine) → ShnL P w s.heap us (pyL ds))
  | [], _, _, _, h, r => by cases h; cases r; exact ⟨_, .nil, fun _ _ => ⟨[], (fun _ z => nomatch z), .nil⟩⟩
  | d :: ds, _, _, p, h, r => by
    cases h with
    | cons h1 h2 =>
      cases r with
      | cons r1 r2 =>
        rw [okEL, Bool.and_eq_true] at p
        obtain ⟨as, q1, k1⟩ := DD.readsE P w I e d _ _ p.1 h1 r1
        obtain ⟨bs, q2, k2⟩ := DDs.readsE P w I e ds _ _ p.2 h2 r2
        refine ⟨_, .cons q1 q2, fun hs hz => ?_⟩
        have hs : (PyData.showable d.py && PyData.showableAll (pyL ds)) = true := hs
        rw [Bool.and_eq_true] at hs
        obtain ⟨b1, m1, z1⟩ := k1 hs.1 (hz _ List.mem_cons_self)
        obtain ⟨b2, m2, z2⟩ := k2 hs.2 fun t ht => hz t (List.mem_cons_of_mem _ ht)
        have l1 : d.py.depth ≤ max d.py.depth (PyData.depthAll (pyL ds)) := Nat.le_max_left _ _
        have l2 : PyData.depthAll (pyL ds) ≤ max d.py.depth (PyData.depthAll (pyL ds)) := Nat.le_max_right _ _
        exact ⟨b1 ++ b2, (m1.mono l1).append (m2.mono l2), .cons ((z1.more fun _ m => List.mem_append_left _ m).level_le l1) (z2.more_le (fun _ m => List.mem_append_right _ m) l2)⟩
end
theorem BD.layE {K : PySem.W.Frag} (p : d.okE = true) (h : BD K G H v d) : okC d.py = true := by
  cases h with
  | dat dd => exact DD.layE d v p dd
  | own ev o =>
    cases d with
    | lst ds =>
      obtain ⟨vs, e1, z, ha⟩ := o
      exact DDs.layE ds _ (by simpa [D.okE] using p) ha
    | dic l =>
      cases l with
      | cons _ _ => cases p
      | nil => rfl
    | dit _ => cases p
    | _ => first | exact o.elim | cases p
end
/-! ### repr -/
def okShowE (d : D) : Bool := d.okE && d.py.showable && decide (d.py.shown.length ≤ sizeLine) && decide (d.py.depth ≤ 60)
def gReprE : List D → Option D
  | [d] => if okShowE d = true then some (.str d.py.shown) else none
  | _ => none
def rReprE (K : PySem.W.Frag) : List V → Hp → VK → Prop := fun xs H Q => ∃ G x d, xs = [x] ∧ Same G H ∧ BD K G H x d ∧ okShowE d = true ∧ Q (.str d.py.shown) H
theorem calld_reprE {K : PySem.W.Frag} : CallD K (rReprE K) gReprE := by
  intro G H xs ds d Q s h e z
  match ds, e with
  | [a], e =>
    obtain ⟨h0, rfl⟩ := ifs_some (show (if okShowE a = true then some (D.str a.py.shown) else none) = some d from e)
    obtain ⟨v, rfl, b⟩ := h.one
    refine ⟨G, v, a, rfl, s, b, h0, z _ _ _ (Al.refl s) (.str _ ?_)⟩
    unfold okShowE at h0
    simp only [Bool.and_eq_true, decide_eq_true_eq] at h0
    exact ⟨h0.1.2, strOk_iff.mpr (cp_shownE _ (b.layE h0.1.1.1))⟩
theorem call_reprE {X : Cx} (hu : X.A.units + 64 < cLine) (hg : X.A.guards = some []) : CallR X (.builtin "repr") (rReprE X.K) := by
  intro pins s σ H xs us Q I r h
  obtain ⟨G, x, d, rfl, sm, b, ok, q⟩ := h
  obtain ⟨u, rfl, rx⟩ := vals1 r
  unfold okShowE at ok
  simp only [Bool.and_eq_true, decide_eq_true_eq] at ok
  obtain ⟨⟨⟨o1, o2⟩, o3⟩, o4⟩ := ok
  have fin : ∀ (h' : Heap) (t : Tok) (tk : Nat), (∀ b o, s.heap.get? b = some o → h'.get? b = some o) → EP X pins σ Q (.str d.py.shown t) { s with heap := h', toks := tk } := fun h' t tk hk => ⟨.str _, H, I.kept (t' := tk) hk, ⟨_, rfl⟩, q⟩
  have lstC : ∀ {a : Addr} {ds : List D} {vs : List V}, d = .lst ds → u = .ref a → H a = some (.lst vs) → DDs X.K G vs ds → wpAny (model X.prog X.w) X.A (call (.builtin "repr") [u]) (EP X pins σ Q) X.xe s := by
    intro a ds vs ed eu hs ha
    subst ed eu
    obtain ⟨its, rv, ⟨o, n, ho, hc, _, hd⟩, _⟩ := I.list (SqL.of hs)
    obtain ⟨as, hr, k⟩ := DDs.readsE X.prog X.w I sm ds _ its o1 ha rv
    obtain ⟨bs, hb, k⟩ := k o2 fun t ht => Nat.le_trans (listText_mem_le ht) o3
    have rl := Reads.list ho hc hd hr
    have hna : a ∉ bs := not_mem_of_deeper rl (Nat.lt_succ_self _) hb
    have o4 : PyData.depthAll (pyL ds) + 1 ≤ 60 := o4
    refine call_repr_slot (by omega) ⟨o, ho, hc⟩ PySem.F.slot_list_repr.toG ?_
    have fin : ∀ (h' : Heap) (t : Tok) (tk : Nat), (∀ b o, s.heap.get? b = some o → h'.get? b = some o) → EP X pins σ Q (.str (listText (PyData.shownAll (pyL ds))) t) { s with heap := h', toks := tk } := fin
    have o3 : (listText (PyData.shownAll (pyL ds))).length ≤ sizeLine := o3
    generalize PyData.shownAll (pyL ds) = ts at k fin o3
    cases its with
    | nil =>
      cases k
      rw [listText_nil] at fin
      exact call_list_repr_empty ⟨o, ho, hc⟩ ho hd ⟨_, _, rfl, fin _ _ _ fun _ _ z => z⟩
    | cons y its =>
      have hl := k.length_eq
      exact call_list_reprK ho hc hd hna (by simpa using hl) (fun i y e => k.item i y (by simpa using e)) hg (fun b _ => Clear.nil b) (by show X.A.units + 1 + _ < cLine; omega) (fun _ _ z => z) (fun h' t tk hk => ⟨_, _, rfl, fin h' t tk hk⟩) o3
  have dicC : ∀ {a : Addr}, d = .dic [] → u = .ref a → H a = some (.dK []) → wpAny (model X.prog X.w) X.A (call (.builtin "repr") [u]) (EP X pins σ Q) X.xe s := by
    intro a ed eu hs
    subst ed eu
    obtain ⟨_, hsy, vs, rel, o, es, ep, eo, exd, hdat, hk, hp, _⟩ := dk_of I.hok hs
    cases rel
    have he : es.toList = [] := by revert hp; generalize es.toList = l; intro hp; cases hp; rfl
    refine call_repr_slot (by omega) ⟨o, eo, exd.1⟩ PySem.F.slot_dict_repr ?_
    exact call_dict_reprK (d := 0) (as := []) (ps := []) eo exd.1 hdat hsy List.not_mem_nil (by rw [he]; exact .nil) hg (fun b _ => Clear.nil b) (by show X.A.units + 1 + _ < cLine; omega) (fun _ _ z => z) (fun h' t tk hk => ⟨_, _, rfl, fin h' t tk hk⟩) o3
  cases d with
  | non => cases b.non; cases rx; exact PySem.P.repr_of_none ⟨.str _, H, I.tok _, ⟨_, rfl⟩, q⟩
  | bl k => cases b.bl; cases rx; exact PySem.P.repr_of_bool ⟨.str _, H, I.tok _, ⟨_, rfl⟩, q⟩
  | int i =>
    cases b.int
    obtain ⟨t, rfl⟩ := rx
    exact PySem.P.repr_of_int (of_decide_eq_true o2) ⟨.str _, H, I.tok _, ⟨_, rfl⟩, q⟩
  | str z =>
    cases b.str.1
    obtain ⟨t, rfl⟩ := rx
    exact PySem.P.repr_of_str ⟨.str _, H, I.tok _, ⟨_, rfl⟩, q⟩ o3
  | lst ds =>
    obtain ⟨a, vs, rfl, h1, _, h2⟩ := b.lst sm
    exact lstC rfl rx h1 h2
  | tup ds =>
    obtain ⟨a, vs, rfl, hs, _, ha, _⟩ := b.tup sm
    cases rx
    obtain ⟨its, rv, ⟨o, ho, hc, n, hd⟩, _⟩ := I.tuple (SqT.of hs)
    obtain ⟨as, hr, k⟩ := DDs.readsE X.prog X.w I sm ds _ its o1 ha rv
    obtain ⟨bs, hb, k⟩ := k o2 fun t ht => Nat.le_trans (tupleText_mem_le ht) o3
    have rl := Reads.tuple ho hc hd hr
    have hna : a ∉ bs := not_mem_of_deeper rl (Nat.lt_succ_self _) hb
    have o4 : PyData.depthAll (pyL ds) + 1 ≤ 60 := o4
    refine call_repr_slot (by omega) ⟨o, ho, hc⟩ PySem.F.slot_tuple_repr ?_
    exact call_tuple_reprK ho hc hd hna (by simpa using k) hg (fun b _ => Clear.nil b) (by show X.A.units + 1 + _ < cLine; omega) (fun _ _ z => z) (fun h' t tk hk => ⟨_, _, rfl, fin h' t tk hk⟩) o3
  | dic l =>
    cases l with
    | cons _ _ => cases o1
    | nil =>
      cases b with
      | dat dd =>
        cases dd with
        | dic hs hk =>
          cases hk
          exact dicC rfl rx (sm _ _ hs)
      | own ev o =>
        subst ev
        obtain ⟨kv, hs, hk⟩ := o
        cases hk
        exact dicC rfl rx hs
  | dit _ => cases o1
  | obj _ _ => cases o1
/-! ### a tuple != () -/
/-- no item is looked at: the one side has none -/
def gNeT : D → D → Option D
  | .tup xs, .tup [] => some (.bl (!xs.isEmpty))
  | _, _ => none
def rNeT (K : PySem.W.Frag) : R2 := fun x y H Q => ∃ a b vs, x = .ref a ∧ y = .ref b ∧ SqT K H a vs ∧ SqT K H b [] ∧ Q (.bl (!vs.isEmpty)) H
theorem opd_neT {K : PySem.W.Frag} : OpD K (rNeT K) gNeT := by
  intro G H x y a b d Q s ha hb e z
  cases a with
  | tup xs =>
    cases b with
    | tup ys =>
      cases ys with
      | cons _ _ => cases e
      | nil =>
        cases e
        obtain ⟨a, vs, rfl, h1, z1, d1, _⟩ := ha.tup s
        obtain ⟨b, ws, rfl, h2, z2, d2, _⟩ := hb.tup s
        cases d2
        refine ⟨a, b, vs, rfl, rfl, SqT.of h1, SqT.of h2, ?_⟩
        have ev : vs.isEmpty = xs.isEmpty := by cases d1 <;> rfl
        rw [ev]
        exact z _ _ _ (Al.refl s) (.bl _)
    | _ => cases e
  | _ => cases b <;> cases e
theorem op_neT {X : Cx} (hu : X.A.units + 64 < cLine) : OpR X (compareOp .NotEq) (rNeT X.K) := by
  intro pins s σ H x y v u Q I rx ry ⟨a, b, vs, ea, eb, ha, hb, q⟩
  subst ea eb
  cases rx
  cases ry
  obtain ⟨its, r1, t1, _⟩ := I.tuple ha
  obtain ⟨its2, r2, t2, _⟩ := I.tuple hb
  cases r2
  have hl := r1.length
  have h := SeqAt.RcNeAt.tuples (A := X.A) (e := fun _ => true) t1 t2 (by omega) (fun j h1 h2 => absurd h2 (by simp))
  have e : (!((List.range (min its.toArray.size (([] : List Value).toArray).size)).all (fun _ => true) && its.toArray.size == (([] : List Value).toArray).size)) = !vs.isEmpty := by
    rw [List.size_toArray, ← hl]
    cases vs <;> simp
  rw [e] at h
  exact h _ _ _ _ ⟨.bl _, H, I, rfl, q⟩
/-! ### x.upper() -/
theorem shifted_low (c : Nat) : ∀ (l : List (Nat × Nat × Nat)), (l.all fun x => decide (x.2.2 + (x.2.1 - x.1) < 1114112)) = true → ∀ d, Unicode.shifted l c = some d → d < 1114112
  | [], _, d, h => by cases h
  | (a, b, t) :: r, hl, d, h => by
    rw [List.all_cons, Bool.and_eq_true] at hl
    have h1 := of_decide_eq_true hl.1
    simp only at h1
    unfold Unicode.shifted at h
    split at h
    · cases h
    · split at h
      · cases h; omega
      · exact shifted_low c r hl.2 d h
theorem upper_low {c d : Nat} (hc : c < 1114112) (h : d ∈ Unicode.upperOf c) : d < 1114112 := by
  unfold Unicode.upperOf Unicode.image at h
  split at h
  · rename_i cs e
    have hall : (UnicodeData.severalUpper.all fun x => x.2.all fun d => decide (d < 1114112)) = true := by decide +kernel
    have key : ∀ (l : List (Nat × List Nat)), (l.all fun x => x.2.all fun d => decide (d < 1114112)) = true → l.lookup c = some cs → ∀ d ∈ cs, d < 1114112 := by
      intro l
      induction l with
      | nil => intro _ h; cases h
      | cons x l ih =>
        intro h1 h2
        rw [List.all_cons, Bool.and_eq_true] at h1
        obtain ⟨k, v⟩ := x
        rw [List.lookup_cons] at h2
        split at h2
        · cases h2
          intro d hd
          exact of_decide_eq_true (List.all_eq_true.mp h1.1 d hd)
        · exact ih h1.2 h2
    exact key _ hall e d h
  · have hall : (UnicodeData.oneUpper.all fun x => decide (x.2.2 + (x.2.1 - x.1) < 1114112)) = true := by decide +kernel
    rw [List.mem_singleton] at h
    cases q : Unicode.shifted UnicodeData.oneUpper c with
    | none => rw [q] at h; rw [h]; exact hc
    | some k => rw [q] at h; rw [h]; exact shifted_low c _ hall k q
theorem upper_mem {x : Str} {d : Nat} (h : d ∈ tl (Txt.upper x)) : ∃ c ∈ tl x, d ∈ Unicode.upperOf c := by
  have h : d ∈ ((x.cps.mapIdx fun _ c => (Unicode.upperOf c).toArray).flatten).toList := h
  rw [Array.mem_toList_iff, Array.mem_flatten] at h
  obtain ⟨ys, hy, hd⟩ := h
  rw [Array.mem_mapIdx] at hy
  obtain ⟨i, hi, rfl⟩ := hy
  exact ⟨x.cps[i], Array.mem_toList_iff.mpr (Array.getElem_mem hi), by simpa using hd⟩
def gUpper : D → Option D
  | .str x => if x.length ≤ 5592405 then some (.str (Txt.upper x)) else none
  | _ => none
section
variable {X : Cx} {Wi : Wish} {o : Expr} {fo : EF} {apos pos : Pos}
theorem sok_upper {x : Str} (h : SOk x) (hl : x.length ≤ 5592405) : SOk (Txt.upper x) := by
  refine ⟨?_, strOk_iff.mpr fun d hd => ?_⟩
  · have := PyProof.Rows.len_upper x
    rw [sizeLine_eq]; omega
  · obtain ⟨c, hc, hd⟩ := upper_mem hd
    exact upper_low (strOk_iff.mp h.2 c hc) hd
theorem de_upper (ho : DE X Wi o fo) (hbase : attributeBase o "upper" X.env (eval o X.env) = eval o X.env := by rfl) (hline : (apos.endLine == pos.line) = true := by rfl) :
    DE X Wi (.Call (.Attribute o "upper" apos) [] [] pos) (eUn gUpper fo) := PE.imp (pe_upper ho hbase hline) fun σ H Q q => by
  obtain ⟨F, G, E, as, st, p⟩ := q
  refine ⟨F, G, E, as, st, Po.mono (fun x H1 m => ?_) (Po.bind p)⟩
  obtain ⟨w1, G1, E1, as1, s1, st1, wo1, p1⟩ := m
  obtain ⟨d1, e1, p1⟩ := Po.rd p1
  obtain ⟨d, e2, p1⟩ := Po.of p1
  cases d1 with
  | str t =>
    obtain ⟨rfl, ok⟩ := (wo1.rd (Same.refl _) st1 e1).str
    obtain ⟨hl, rfl⟩ := ifs_some (show (if t.length ≤ 5592405 then some (D.str (Txt.upper t)) else none) = some d from e2)
    exact ⟨⟨t, rfl⟩, t, rfl, rfl, hl, Po.rz st1 p1 _ _ _ (Al.refl st1.s1) (.str _ (sok_upper ok hl))⟩
  | _ => cases e2
end
end DL
namespace DL
open PySem PySem.Spec PyProof.Rows L2 TL
/-! ### a list != [] -/
/-- no item is looked at: the one side has none -/
def gNeL : D → D → Option D
  | .lst xs, .lst [] => some (.bl (!xs.isEmpty))
  | _, _ => none
def rNeL (K : PySem.W.Frag) : R2 := fun x y H Q => ∃ a b vs, x = .ref a ∧ y = .ref b ∧ SqL K H a vs ∧ SqL K H b [] ∧ Q (.bl (!vs.isEmpty)) H
theorem opd_neL {K : PySem.W.Frag} : OpD K (rNeL K) gNeL := by
  intro G H x y a b d Q s ha hb e z
  cases a with
  | lst xs =>
    cases b with
    | lst ys =>
      cases ys with
      | cons _ _ => cases e
      | nil =>
        cases e
        obtain ⟨a, vs, rfl, h1, z1, d1⟩ := ha.lst s
        obtain ⟨b, ws, rfl, h2, z2, d2⟩ := hb.lst s
        cases d2
        refine ⟨a, b, vs, rfl, rfl, SqL.of h1, SqL.of h2, ?_⟩
        have ev : vs.isEmpty = xs.isEmpty := by cases d1 <;> rfl
        rw [ev]
        exact z _ _ _ (Al.refl s) (.bl _)
    | _ => cases e
  | _ => cases b <;> cases e
theorem op_neL {X : Cx} (hu : X.A.units + 64 < cLine) : OpR X (compareOp .NotEq) (rNeL X.K) := by
  intro pins s σ H x y v u Q I rx ry ⟨a, b, vs, ea, eb, ha, hb, q⟩
  subst ea eb
  cases rx
  cases ry
  obtain ⟨its, r1, t1, _⟩ := I.list ha
  obtain ⟨its2, r2, t2, _⟩ := I.list hb
  cases r2
  have t1 := t1.isList
  have t2 := t2.isList
  cases r1 with
  | nil =>
    have h := SeqAt.RcNeAt.lists (A := X.A) (e := fun _ => true) t1 t2 rfl (by omega) (fun j h1 h2 => absurd h2 (by simp))
    exact h _ _ _ _ ⟨.bl _, H, I, rfl, q⟩
  | cons a b =>
    have h := SeqAt.RcNeAt.lists_lengths (A := X.A) t1 t2 (by simp) (by omega)
    exact h _ _ _ _ ⟨.bl _, H, I, rfl, q⟩
end DL
namespace DL
open PySem PySem.Spec PyProof.Rows L2 TL

/-! ### loops by an invariant -/
theorem forL_inv {g : GF} {body : SF} (Iv : List D → Env → Prop) (step : ∀ d ds E, Iv (d :: ds) E → ∃ E1, g d E = some E1 ∧ ∃ E2, (body E1 = .ok (.nx, E2) ∨ body E1 = .ok (.ct, E2)) ∧ Iv ds E2) :
    ∀ (items : List D) (E : Env), Iv items E → ∃ E', forL g body items E = .ok (.nx, E') ∧ Iv [] E'
  | [], E, h => ⟨E, rfl, h⟩
  | d :: ds, E, h => by
    obtain ⟨E1, e1, E2, e2, h2⟩ := step d ds E h
    obtain ⟨E', e3, h3⟩ := forL_inv Iv step ds E2 h2
    refine ⟨E', ?_, h3⟩
    rw [forL, e1]
    rcases e2 with e2 | e2
    · simp only [ofO_some, Res.ok_bind, e2]; exact e3
    · simp only [ofO_some, Res.ok_bind, e2]; exact e3
theorem compL_inv {vs : List Nat} {g : GF} {fc : BF} {fe : EF} {E0 : Env} (Iv : List D → List D → Env → Prop)
    (step : ∀ d ds acc E, Iv (d :: ds) acc E → ∃ E1, g d (wipeE E vs) = some E1 ∧ ∃ b E2, fc E1 = .ok (b, E2) ∧ ((b = false ∧ Iv ds acc (backE E0 E2 vs)) ∨ (b = true ∧ ∃ y E3, fe E2 = .ok (.dat y, E3) ∧ Iv ds (acc ++ [y]) (backE E0 E3 vs)))) :
    ∀ (items acc : List D) (E : Env), Iv items acc E → ∃ acc' E', compL vs g fc fe E0 items acc E = .ok (.lst acc', E') ∧ Iv [] acc' E'
  | [], acc, E, h => ⟨acc, E, rfl, h⟩
  | d :: ds, acc, E, h => by
    obtain ⟨E1, e1, b, E2, e2, h2⟩ := step d ds acc E h
    rcases h2 with ⟨rfl, h2⟩ | ⟨rfl, y, E3, e3, h3⟩
    · obtain ⟨acc', E', e4, h4⟩ := compL_inv Iv step ds acc _ h2
      refine ⟨acc', E', ?_, h4⟩
      rw [compL, e1]
      simp only [ofO_some, Res.ok_bind, e2, noErr, if_neg Bool.false_ne_true]
      exact e4
    · obtain ⟨acc', E', e4, h4⟩ := compL_inv Iv step ds (acc ++ [y]) _ h3
      refine ⟨acc', E', ?_, h4⟩
      rw [compL, e1]
      simp only [ofO_some, Res.ok_bind, e2, e3, noErr, if_pos, asDat]
      exact e4
/-- a comprehension that leaves the frame as it is: the items that pass, each turned -/
theorem compL_pure {vs : List Nat} {g : GF} {fc : BF} {fe : EF} {E0 E : Env} (E1 : D → Env) (p : D → Bool) (y : D → D) (items : List D) (h : ∀ d ∈ items, g d (wipeE E vs) = some (E1 d) ∧ fc (E1 d) = .ok (p d, E1 d) ∧ (p d = true → fe (E1 d) = .ok (.dat (y d), E1 d)) ∧ backE E0 (E1 d) vs = E) (acc : List D) :
    compL vs g fc fe E0 items acc E = .ok (.lst (acc ++ (items.filter p).map y), E) := by
  induction items generalizing acc with
  | nil => simp [compL]
  | cons d ds ih =>
    obtain ⟨h1, h2, h3, h4⟩ := h d List.mem_cons_self
    have ih := ih fun d hd => h d (List.mem_cons_of_mem _ hd)
    rw [compL, h1]
    cases hp : p d with
    | false =>
      simp only [ofO_some, Res.ok_bind, h2, hp, noErr, if_neg Bool.false_ne_true, h4, ih, List.filter_cons]
    | true =>
      simp only [ofO_some, Res.ok_bind, h2, hp, noErr, if_pos, h3 hp, asDat, h4, ih, List.filter_cons, List.map_cons, List.append_assoc, List.singleton_append]

/-! ### draws -/
/-! ### texts of signs -/
def T (l : List Nat) : Str := ⟨l.toArray⟩
def dS (l : List Nat) : D := .str (T l)
def dC (c : Nat) : D := .str (sgn c)
theorem tl_T (l : List Nat) : tl (T l) = l := rfl
theorem T_tl (x : Str) : T (tl x) = x := by
  unfold T tl
  cases x; simp
theorem T_inj {a b : List Nat} : T a = T b ↔ a = b := ⟨fun h => by have := congrArg tl h; exact this, fun h => by rw [h]⟩
theorem sgn_T (c : Nat) : sgn c = T [c] := rfl
theorem signs_T (l : List Nat) : signs (T l) = l.map dC := rfl
theorem T_app (a b : List Nat) : T a ++ T b = T (a ++ b) := by
  have h := tl_append (T a) (T b)
  rw [← T_tl (T a ++ T b), h]; rfl
theorem T_len (l : List Nat) : (T l).length = l.length := rfl
theorem inS_one (c : Nat) (l : List Nat) : inS (sgn c) (T l) = decide (c ∈ l) := PySem.StrLaws.found_one (T l) c
theorem gIn_one (neg : Bool) (c : Nat) (l : List Nat) : gInQ neg (dC c) (dS l) = some (.bl (if neg then !decide (c ∈ l) else decide (c ∈ l))) := by
  show some (D.bl (if neg then !(inS (sgn c) (T l)) else inS (sgn c) (T l))) = _
  rw [inS_one]
theorem eqv_str (x y : Str) : PyData.eqv (.str x) (.str y) = decide (x = y) := by
  show (x == y) = _
  by_cases h : x = y
  · subst h; simp
  · rw [decide_eq_false h]
    exact beq_eq_false_iff_ne.mpr h
end DL
namespace DL
open PySem PySem.Spec PyProof.Rows L2 TL
def kc_eCh (g' : D → D → Option D) (q : W × Env) : W × Env → Res (W × Env) := fun r => (rd r.2 q.1).bind fun y' => (rd r.2 r.1).bind fun z => (ofO (g' y' z)).bind fun d => .ok (.dat d, r.2)
@[simp] theorem ap_kc_eCh (g' : D → D → Option D) (q : W × Env) (r : W × Env) : kc_eCh g' q r = (rd r.2 q.1).bind fun y' => (rd r.2 r.1).bind fun z => (ofO (g' y' z)).bind fun d => .ok (.dat d, r.2) := rfl
def k5_eOp (q : W × Env) : D → Res (W × Env) := fun d => .ok (.dat d, q.2)
def k4_eOp (g : D → D → Option D) (q : W × Env) (x : D) : D → Res (W × Env) := fun y => (ofO (g x y)).bind (k5_eOp q)
def k3_eOp (g : D → D → Option D) (q : W × Env) : D → Res (W × Env) := fun x => (rd q.2 q.1).bind (k4_eOp g q x)
def k2_eOp (g : D → D → Option D) (p : W × Env) : W × Env → Res (W × Env) := fun q => (rd q.2 p.1).bind (k3_eOp g q)
def k1_eOp (g : D → D → Option D) (fb : EF) : W × Env → Res (W × Env) := fun p => (fb p.2).bind (k2_eOp g p)
@[simp] theorem ap_k5_eOp (q : W × Env) (d : D) : k5_eOp q d = .ok (.dat d, q.2) := rfl
@[simp] theorem ap_k4_eOp (g : D → D → Option D) (q : W × Env) (x : D) (y : D) : k4_eOp g q x y = (ofO (g x y)).bind (k5_eOp q) := rfl
@[simp] theorem ap_k3_eOp (g : D → D → Option D) (q : W × Env) (x : D) : k3_eOp g q x = (rd q.2 q.1).bind (k4_eOp g q x) := rfl
@[simp] theorem ap_k2_eOp (g : D → D → Option D) (p : W × Env) (q : W × Env) : k2_eOp g p q = (rd q.2 p.1).bind (k3_eOp g q) := rfl
@[simp] theorem ap_k1_eOp (g : D → D → Option D) (fb : EF) (p : W × Env) : k1_eOp g fb p = (fb p.2).bind (k2_eOp g p) := rfl
@[simp] theorem ap_eOp (g : D → D → Option D) (fa : EF) (fb : EF) (E : Env) : eOp g fa fb E = (fa E).bind (k1_eOp g fb) := rfl
def k3_eUn (p : W × Env) : D → Res (W × Env) := fun d => .ok (.dat d, p.2)
def k2_eUn (g : D → Option D) (p : W × Env) : D → Res (W × Env) := fun x => (ofO (g x)).bind (k3_eUn p)
def k1_eUn (g : D → Option D) : W × Env → Res (W × Env) := fun p => (rd p.2 p.1).bind (k2_eUn g p)
@[simp] theorem ap_k3_eUn (p : W × Env) (d : D) : k3_eUn p d = .ok (.dat d, p.2) := rfl
@[simp] theorem ap_k2_eUn (g : D → Option D) (p : W × Env) (x : D) : k2_eUn g p x = (ofO (g x)).bind (k3_eUn p) := rfl
@[simp] theorem ap_k1_eUn (g : D → Option D) (p : W × Env) : k1_eUn g p = (rd p.2 p.1).bind (k2_eUn g p) := rfl
@[simp] theorem ap_eUn (g : D → Option D) (fa : EF) (E : Env) : eUn g fa E = (fa E).bind (k1_eUn g) := rfl
def k5_eCh (g' : D → D → Option D) (fc : EF) (q : W × Env) : Bool → Res (W × Env) := fun k => if k = true then (fc q.2).bind (kc_eCh g' q) else .ok (.dat (.bl false), q.2)
def k4_eCh (g : D → D → Option D) (g' : D → D → Option D) (fc : EF) (q : W × Env) (x : D) : D → Res (W × Env) := fun y => (ofO ((g x y).bind asB)).bind (k5_eCh g' fc q)
def k3_eCh (g : D → D → Option D) (g' : D → D → Option D) (fc : EF) (q : W × Env) : D → Res (W × Env) := fun x => (rd q.2 q.1).bind (k4_eCh g g' fc q x)
def k2_eCh (g : D → D → Option D) (g' : D → D → Option D) (fc : EF) (p : W × Env) : W × Env → Res (W × Env) := fun q => (rd q.2 p.1).bind (k3_eCh g g' fc q)
def k1_eCh (g : D → D → Option D) (g' : D → D → Option D) (fb : EF) (fc : EF) : W × Env → Res (W × Env) := fun p => (fb p.2).bind (k2_eCh g g' fc p)
@[simp] theorem ap_k5_eCh (g' : D → D → Option D) (fc : EF) (q : W × Env) (k : Bool) : k5_eCh g' fc q k = if k = true then (fc q.2).bind (kc_eCh g' q) else .ok (.dat (.bl false), q.2) := rfl
@[simp] theorem ap_k4_eCh (g : D → D → Option D) (g' : D → D → Option D) (fc : EF) (q : W × Env) (x : D) (y : D) : k4_eCh g g' fc q x y = (ofO ((g x y).bind asB)).bind (k5_eCh g' fc q) := rfl
@[simp] theorem ap_k3_eCh (g : D → D → Option D) (g' : D → D → Option D) (fc : EF) (q : W × Env) (x : D) : k3_eCh g g' fc q x = (rd q.2 q.1).bind (k4_eCh g g' fc q x) := rfl
@[simp] theorem ap_k2_eCh (g : D → D → Option D) (g' : D → D → Option D) (fc : EF) (p : W × Env) (q : W × Env) : k2_eCh g g' fc p q = (rd q.2 p.1).bind (k3_eCh g g' fc q) := rfl
@[simp] theorem ap_k1_eCh (g : D → D → Option D) (g' : D → D → Option D) (fb : EF) (fc : EF) (p : W × Env) : k1_eCh g g' fb fc p = (fb p.2).bind (k2_eCh g g' fc p) := rfl
@[simp] theorem ap_eCh (g : D → D → Option D) (g' : D → D → Option D) (fa : EF) (fb : EF) (fc : EF) (E : Env) : eCh g g' fa fb fc E = (fa E).bind (k1_eCh g g' fb fc) := rfl
def k5_eOpD (q : W × Env) : D → Res (W × Env) := fun d => .ok (.dat d, q.2)
def k4_eOpD (g : D → D → Option D) (q : W × Env) (x : D) : D → Res (W × Env) := fun y => (ofO (g x y)).bind (k5_eOpD q)
def k3_eOpD (g : D → D → Option D) (q : W × Env) : D → Res (W × Env) := fun x => (ofO (asDat q.1)).bind (k4_eOpD g q x)
def k2_eOpD (g : D → D → Option D) (p : W × Env) : W × Env → Res (W × Env) := fun q => (ofO (asDat p.1)).bind (k3_eOpD g q)
def k1_eOpD (g : D → D → Option D) (fb : EF) : W × Env → Res (W × Env) := fun p => (fb p.2).bind (k2_eOpD g p)
@[simp] theorem ap_k5_eOpD (q : W × Env) (d : D) : k5_eOpD q d = .ok (.dat d, q.2) := rfl
@[simp] theorem ap_k4_eOpD (g : D → D → Option D) (q : W × Env) (x : D) (y : D) : k4_eOpD g q x y = (ofO (g x y)).bind (k5_eOpD q) := rfl
@[simp] theorem ap_k3_eOpD (g : D → D → Option D) (q : W × Env) (x : D) : k3_eOpD g q x = (ofO (asDat q.1)).bind (k4_eOpD g q x) := rfl
@[simp] theorem ap_k2_eOpD (g : D → D → Option D) (p : W × Env) (q : W × Env) : k2_eOpD g p q = (ofO (asDat p.1)).bind (k3_eOpD g q) := rfl
@[simp] theorem ap_k1_eOpD (g : D → D → Option D) (fb : EF) (p : W × Env) : k1_eOpD g fb p = (fb p.2).bind (k2_eOpD g p) := rfl
@[simp] theorem ap_eOpD (g : D → D → Option D) (fa : EF) (fb : EF) (E : Env) : eOpD g fa fb E = (fa E).bind (k1_eOpD g fb) := rfl
def k2_aC (p : W × Env) : List W × Env → Res (List W × Env) := fun q => .ok (p.1 :: q.1, q.2)
def k1_aC (fs : AF) : W × Env → Res (List W × Env) := fun p => (fs p.2).bind (k2_aC p)
@[simp] theorem ap_k2_aC (p : W × Env) (q : List W × Env) : k2_aC p q = .ok (p.1 :: q.1, q.2) := rfl
@[simp] theorem ap_k1_aC (fs : AF) (p : W × Env) : k1_aC fs p = (fs p.2).bind (k2_aC p) := rfl
@[simp] theorem ap_aC (fa : EF) (fs : AF) (E : Env) : aC fa fs E = (fa E).bind (k1_aC fs) := rfl
def k4_aSt (ds : List D) : List W × Env → Res (List W × Env) := fun q => .ok (ds.map W.dat ++ q.1, q.2)
def k3_aSt (fs : AF) (p : W × Env) : List D → Res (List W × Env) := fun ds => (fs p.2).bind (k4_aSt ds)
def k2_aSt (fs : AF) (p : W × Env) : D → Res (List W × Env) := fun d => (ofO (sqD d)).bind (k3_aSt fs p)
def k1_aSt (fs : AF) : W × Env → Res (List W × Env) := fun p => (ofO (asDat p.1)).bind (k2_aSt fs p)
@[simp] theorem ap_k4_aSt (ds : List D) (q : List W × Env) : k4_aSt ds q = .ok (ds.map W.dat ++ q.1, q.2) := rfl
@[simp] theorem ap_k3_aSt (fs : AF) (p : W × Env) (ds : List D) : k3_aSt fs p ds = (fs p.2).bind (k4_aSt ds) := rfl
@[simp] theorem ap_k2_aSt (fs : AF) (p : W × Env) (d : D) : k2_aSt fs p d = (ofO (sqD d)).bind (k3_aSt fs p) := rfl
@[simp] theorem ap_k1_aSt (fs : AF) (p : W × Env) : k1_aSt fs p = (ofO (asDat p.1)).bind (k2_aSt fs p) := rfl
@[simp] theorem ap_aSt (fa : EF) (fs : AF) (E : Env) : aSt fa fs E = (fa E).bind (k1_aSt fs) := rfl
def k3_eCall (p : List W × Env) : D → Res (W × Env) := fun d => .ok (.dat d, p.2)
def k2_eCall (h : List D → Option D) (p : List W × Env) : List D → Res (W × Env) := fun ds => (ofO (h ds)).bind (k3_eCall p)
def k1_eCall (h : List D → Option D) : List W × Env → Res (W × Env) := fun p => (rds p.2 p.1).bind (k2_eCall h p)
@[simp] theorem ap_k3_eCall (p : List W × Env) (d : D) : k3_eCall p d = .ok (.dat d, p.2) := rfl
@[simp] theorem ap_k2_eCall (h : List D → Option D) (p : List W × Env) (ds : List D) : k2_eCall h p ds = (ofO (h ds)).bind (k3_eCall p) := rfl
@[simp] theorem ap_k1_eCall (h : List D → Option D) (p : List W × Env) : k1_eCall h p = (rds p.2 p.1).bind (k2_eCall h p) := rfl
@[simp] theorem ap_eCall (h : List D → Option D) (fs : AF) (E : Env) : eCall h fs E = (fs E).bind (k1_eCall h) := rfl
def k3_nCall (p : List W × Env) : D → Res (D × Env) := fun d => .ok (d, p.2)
def k2_nCall (h : List D → Option D) (p : List W × Env) : List D → Res (D × Env) := fun ds => (ofO (h ds)).bind (k3_nCall p)
def k1_nCall (h : List D → Option D) : List W × Env → Res (D × Env) := fun p => (rds p.2 p.1).bind (k2_nCall h p)
@[simp] theorem ap_k3_nCall (p : List W × Env) (d : D) : k3_nCall p d = .ok (d, p.2) := rfl
@[simp] theorem ap_k2_nCall (h : List D → Option D) (p : List W × Env) (ds : List D) : k2_nCall h p ds = (ofO (h ds)).bind (k3_nCall p) := rfl
@[simp] theorem ap_k1_nCall (h : List D → Option D) (p : List W × Env) : k1_nCall h p = (rds p.2 p.1).bind (k2_nCall h p) := rfl
@[simp] theorem ap_nCall (h : List D → Option D) (fs : AF) (E : Env) : nCall h fs E = (fs E).bind (k1_nCall h) := rfl
def k1_eN  : D × Env → Res (W × Env) := fun p => .ok (.dat p.1, p.2)
@[simp] theorem ap_k1_eN  (p : D × Env) : k1_eN p = .ok (.dat p.1, p.2) := rfl
@[simp] theorem ap_eN (fn : NF) (E : Env) : eN fn E = (fn E).bind k1_eN := rfl
def k3_eTup (p : List W × Env) : D → Res (W × Env) := fun d => .ok (.dat d, p.2)
def k2_eTup (p : List W × Env) : List D → Res (W × Env) := fun ds => (ofO (small ds (some (.tup ds)))).bind (k3_eTup p)
def k1_eTup  : List W × Env → Res (W × Env) := fun p => (ofO (dats p.1)).bind (k2_eTup p)
@[simp] theorem ap_k3_eTup (p : List W × Env) (d : D) : k3_eTup p d = .ok (.dat d, p.2) := rfl
@[simp] theorem ap_k2_eTup (p : List W × Env) (ds : List D) : k2_eTup p ds = (ofO (small ds (some (.tup ds)))).bind (k3_eTup p) := rfl
@[simp] theorem ap_k1_eTup  (p : List W × Env) : k1_eTup p = (ofO (dats p.1)).bind (k2_eTup p) := rfl
@[simp] theorem ap_eTup (fs : AF) (E : Env) : eTup fs E = (fs E).bind k1_eTup := rfl
def k3_nLst (p : List W × Env) : D → Res (D × Env) := fun d => .ok (d, p.2)
def k2_nLst (p : List W × Env) : List D → Res (D × Env) := fun ds => (ofO (small ds (some (.lst ds)))).bind (k3_nLst p)
def k1_nLst  : List W × Env → Res (D × Env) := fun p => (ofO (dats p.1)).bind (k2_nLst p)
@[simp] theorem ap_k3_nLst (p : List W × Env) (d : D) : k3_nLst p d = .ok (d, p.2) := rfl
@[simp] theorem ap_k2_nLst (p : List W × Env) (ds : List D) : k2_nLst p ds = (ofO (small ds (some (.lst ds)))).bind (k3_nLst p) := rfl
@[simp] theorem ap_k1_nLst  (p : List W × Env) : k1_nLst p = (ofO (dats p.1)).bind (k2_nLst p) := rfl
@[simp] theorem ap_nLst (fs : AF) (E : Env) : nLst fs E = (fs E).bind k1_nLst := rfl
def k2_nListT (p : List W × Env) : List D → Res (D × Env) := fun ds => match ds with | [.dit kd] => if kd.length ≤ 16777216 then .ok (.lst (kd.map fun x => .tup (x.1.map kD)), p.2) else .stuck | _ => .stuck
def k1_nListT  : List W × Env → Res (D × Env) := fun p => (rds p.2 p.1).bind (k2_nListT p)
@[simp] theorem ap_k2_nListT (p : List W × Env) (ds : List D) : k2_nListT p ds = match ds with | [.dit kd] => if kd.length ≤ 16777216 then .ok (.lst (kd.map fun x => .tup (x.1.map kD)), p.2) else .stuck | _ => .stuck := rfl
@[simp] theorem ap_k1_nListT  (p : List W × Env) : k1_nListT p = (rds p.2 p.1).bind (k2_nListT p) := rfl
@[simp] theorem ap_nListT (fs : AF) (E : Env) : nListT fs E = (fs E).bind k1_nListT := rfl
def k3_tB (p : W × Env) : Bool → Res (Bool × Env) := fun b => .ok (b, p.2)
def k2_tB (p : W × Env) : D → Res (Bool × Env) := fun d => (ofO (asB d)).bind (k3_tB p)
def k1_tB  : W × Env → Res (Bool × Env) := fun p => (rd p.2 p.1).bind (k2_tB p)
@[simp] theorem ap_k3_tB (p : W × Env) (b : Bool) : k3_tB p b = .ok (b, p.2) := rfl
@[simp] theorem ap_k2_tB (p : W × Env) (d : D) : k2_tB p d = (ofO (asB d)).bind (k3_tB p) := rfl
@[simp] theorem ap_k1_tB  (p : W × Env) : k1_tB p = (rd p.2 p.1).bind (k2_tB p) := rfl
@[simp] theorem ap_tB (fa : EF) (E : Env) : tB fa E = (fa E).bind k1_tB := rfl
def k1_tNt  : Bool × Env → Res (Bool × Env) := fun p => .ok (!p.1, p.2)
@[simp] theorem ap_k1_tNt  (p : Bool × Env) : k1_tNt p = .ok (!p.1, p.2) := rfl
@[simp] theorem ap_tNt (t : BF) (E : Env) : tNt t E = (t E).bind k1_tNt := rfl
def k1_tAnd_ (u : BF) : Bool × Env → Res (Bool × Env) := fun p => if p.1 = true then u p.2 else .ok (false, p.2)
@[simp] theorem ap_k1_tAnd_ (u : BF) (p : Bool × Env) : k1_tAnd_ u p = if p.1 = true then u p.2 else .ok (false, p.2) := rfl
@[simp] theorem ap_tAnd_ (t : BF) (u : BF) (E : Env) : tAnd' t u E = (t E).bind (k1_tAnd_ u) := rfl
def k1_tOr_ (u : BF) : Bool × Env → Res (Bool × Env) := fun p => if p.1 = true then .ok (true, p.2) else u p.2
@[simp] theorem ap_k1_tOr_ (u : BF) (p : Bool × Env) : k1_tOr_ u p = if p.1 = true then .ok (true, p.2) else u p.2 := rfl
@[simp] theorem ap_tOr_ (t : BF) (u : BF) (E : Env) : tOr' t u E = (t E).bind (k1_tOr_ u) := rfl
def k1_eIf (fa : EF) (fb : EF) : Bool × Env → Res (W × Env) := fun p => if p.1 = true then fa p.2 else fb p.2
@[simp] theorem ap_k1_eIf (fa : EF) (fb : EF) (p : Bool × Env) : k1_eIf fa fb p = if p.1 = true then fa p.2 else fb p.2 := rfl
@[simp] theorem ap_eIf (t : BF) (fa : EF) (fb : EF) (E : Env) : eIf t fa fb E = (t E).bind (k1_eIf fa fb) := rfl
def k1_vAnd (fb : EF) : Bool × Env → Res (W × Env) := fun p => if p.1 = true then fb p.2 else .ok (.dat (.bl false), p.2)
@[simp] theorem ap_k1_vAnd (fb : EF) (p : Bool × Env) : k1_vAnd fb p = if p.1 = true then fb p.2 else .ok (.dat (.bl false), p.2) := rfl
@[simp] theorem ap_vAnd (fa : EF) (fb : EF) (E : Env) : vAnd fa fb E = (tB fa E).bind (k1_vAnd fb) := rfl
def k1_vOr (fb : EF) : Bool × Env → Res (W × Env) := fun p => if p.1 = true then .ok (.dat (.bl true), p.2) else fb p.2
@[simp] theorem ap_k1_vOr (fb : EF) (p : Bool × Env) : k1_vOr fb p = if p.1 = true then .ok (.dat (.bl true), p.2) else fb p.2 := rfl
@[simp] theorem ap_vOr (fa : EF) (fb : EF) (E : Env) : vOr fa fb E = (tB fa E).bind (k1_vOr fb) := rfl
def k1_vNot  : Bool × Env → Res (W × Env) := fun p => .ok (.dat (.bl (!p.1)), p.2)
@[simp] theorem ap_k1_vNot  (p : Bool × Env) : k1_vNot p = .ok (.dat (.bl (!p.1)), p.2) := rfl
@[simp] theorem ap_vNot (fa : EF) (E : Env) : vNot fa E = (tB fa E).bind k1_vNot := rfl
def k3_eIs (p : W × Env) : D → Res (W × Env) := fun d => .ok (.dat d, p.2)
def k2_eIs (f : String → Option Bool) (h : Addr → Option Bool) (p : W × Env) : D → Res (W × Env) := fun x => (ofO (gIs f h x)).bind (k3_eIs p)
def k1_eIs (f : String → Option Bool) (h : Addr → Option Bool) : W × Env → Res (W × Env) := fun p => (rd p.2 p.1).bind (k2_eIs f h p)
@[simp] theorem ap_k3_eIs (p : W × Env) (d : D) : k3_eIs p d = .ok (.dat d, p.2) := rfl
@[simp] theorem ap_k2_eIs (f : String → Option Bool) (h : Addr → Option Bool) (p : W × Env) (x : D) : k2_eIs f h p x = (ofO (gIs f h x)).bind (k3_eIs p) := rfl
@[simp] theorem ap_k1_eIs (f : String → Option Bool) (h : Addr → Option Bool) (p : W × Env) : k1_eIs f h p = (rd p.2 p.1).bind (k2_eIs f h p) := rfl
@[simp] theorem ap_eIs (f : String → Option Bool) (h : Addr → Option Bool) (fa : EF) (E : Env) : eIs f h fa E = (fa E).bind (k1_eIs f h) := rfl
def k2_eF (n : Nat) (fm : List D → Res D) (p : List W × Env) : List D → Res (W × Env) := fun ds => if ds.length = n then ret (fm ds) p.2 else .stuck
def k1_eF (n : Nat) (fm : List D → Res D) : List W × Env → Res (W × Env) := fun p => (ofO (dats p.1)).bind (k2_eF n fm p)
@[simp] theorem ap_k2_eF (n : Nat) (fm : List D → Res D) (p : List W × Env) (ds : List D) : k2_eF n fm p ds = if ds.length = n then ret (fm ds) p.2 else .stuck := rfl
@[simp] theorem ap_k1_eF (n : Nat) (fm : List D → Res D) (p : List W × Env) : k1_eF n fm p = (ofO (dats p.1)).bind (k2_eF n fm p) := rfl
@[simp] theorem ap_eF (n : Nat) (fm : List D → Res D) (fs : AF) (E : Env) : eF n fm fs E = (fs E).bind (k1_eF n fm) := rfl
def k4_eK (i : Nat) (n : Nat) (fm : Addr → Addr → Dk → List D → Res (D × Dk)) (p : List W × Env) (ds : List D) : Addr × Addr × Dk → Res (W × Env) := fun z => if ds.length = n then retK i z.1 z.2.1 (fm z.1 z.2.1 z.2.2 ds) p.2 else .stuck
def k3_eK (i : Nat) (n : Nat) (fm : Addr → Addr → Dk → List D → Res (D × Dk)) (p : List W × Env) : List D → Res (W × Env) := fun ds => (ofO (deckAt p.2 i)).bind (k4_eK i n fm p ds)
def k2_eK (i : Nat) (n : Nat) (fm : Addr → Addr → Dk → List D → Res (D × Dk)) : List W × Env → Res (W × Env) := fun p => (ofO (dats p.1)).bind (k3_eK i n fm p)
def k1_eK (i : Nat) (n : Nat) (fm : Addr → Addr → Dk → List D → Res (D × Dk)) (fs : AF) (E : Env) : Addr × Addr × Dk → Res (W × Env) := fun _ => (fs E).bind (k2_eK i n fm)
@[simp] theorem ap_k4_eK (i : Nat) (n : Nat) (fm : Addr → Addr → Dk → List D → Res (D × Dk)) (p : List W × Env) (ds : List D) (z : Addr × Addr × Dk) : k4_eK i n fm p ds z = if ds.length = n then retK i z.1 z.2.1 (fm z.1 z.2.1 z.2.2 ds) p.2 else .stuck := rfl
@[simp] theorem ap_k3_eK (i : Nat) (n : Nat) (fm : Addr → Addr → Dk → List D → Res (D × Dk)) (p : List W × Env) (ds : List D) : k3_eK i n fm p ds = (ofO (deckAt p.2 i)).bind (k4_eK i n fm p ds) := rfl
@[simp] theorem ap_k2_eK (i : Nat) (n : Nat) (fm : Addr → Addr → Dk → List D → Res (D × Dk)) (p : List W × Env) : k2_eK i n fm p = (ofO (dats p.1)).bind (k3_eK i n fm p) := rfl
@[simp] theorem ap_k1_eK (i : Nat) (n : Nat) (fm : Addr → Addr → Dk → List D → Res (D × Dk)) (fs : AF) (E : Env) (_z : Addr × Addr × Dk) : k1_eK i n fm fs E _z = (fs E).bind (k2_eK i n fm) := rfl
@[simp] theorem ap_eK (i : Nat) (n : Nat) (fm : Addr → Addr → Dk → List D → Res (D × Dk)) (fs : AF) (E : Env) : eK i n fm fs E = (ofO (deckAt E i)).bind (k1_eK i n fm fs E) := rfl
def k4_eG (n : Nat) (fm : List D → Res D) (x : D) (q : List W × Env) : List D → Res (W × Env) := fun ds => if ds.length + 1 = n then ret (fm (x :: ds)) q.2 else .stuck
def k3_eG (n : Nat) (fm : List D → Res D) (x : D) : List W × Env → Res (W × Env) := fun q => (ofO (dats q.1)).bind (k4_eG n fm x q)
def k2_eG (n : Nat) (fm : List D → Res D) (fs : AF) (p : W × Env) : D → Res (W × Env) := fun x => (fs p.2).bind (k3_eG n fm x)
def k1_eG (C : Addr) (m : Str) (n : Nat) (fm : List D → Res D) (fs : AF) : W × Env → Res (W × Env) := fun p => (ofO (insOf C m p.1)).bind (k2_eG n fm fs p)
@[simp] theorem ap_k4_eG (n : Nat) (fm : List D → Res D) (x : D) (q : List W × Env) (ds : List D) : k4_eG n fm x q ds = if ds.length + 1 = n then ret (fm (x :: ds)) q.2 else .stuck := rfl
@[simp] theorem ap_k3_eG (n : Nat) (fm : List D → Res D) (x : D) (q : List W × Env) : k3_eG n fm x q = (ofO (dats q.1)).bind (k4_eG n fm x q) := rfl
@[simp] theorem ap_k2_eG (n : Nat) (fm : List D → Res D) (fs : AF) (p : W × Env) (x : D) : k2_eG n fm fs p x = (fs p.2).bind (k3_eG n fm x) := rfl
@[simp] theorem ap_k1_eG (C : Addr) (m : Str) (n : Nat) (fm : List D → Res D) (fs : AF) (p : W × Env) : k1_eG C m n fm fs p = (ofO (insOf C m p.1)).bind (k2_eG n fm fs p) := rfl
@[simp] theorem ap_eG (C : Addr) (m : Str) (n : Nat) (fm : List D → Res D) (fo : EF) (fs : AF) (E : Env) : eG C m n fm fo fs E = (fo E).bind (k1_eG C m n fm fs) := rfl
def k4_eFK (n : Nat) (kn : Nat) (pm : List Nat) (np : Nat) (fm : List D → Res D) (q : List W × Env) (ds : List D) : List D → Res (W × Env) := fun es => if ds.length = n ∧ es.length = kn ∧ (pick pm (ds ++ es)).length = np then ret (fm (pick pm (ds ++ es))) q.2 else .stuck
def k3_eFK (n : Nat) (kn : Nat) (pm : List Nat) (np : Nat) (fm : List D → Res D) (q : List W × Env) : List D → Res (W × Env) := fun ds => (ofO (dats q.1)).bind (k4_eFK n kn pm np fm q ds)
def k2_eFK (n : Nat) (kn : Nat) (pm : List Nat) (np : Nat) (fm : List D → Res D) (p : List W × Env) : List W × Env → Res (W × Env) := fun q => (ofO (dats p.1)).bind (k3_eFK n kn pm np fm q)
def k1_eFK (n : Nat) (kn : Nat) (pm : List Nat) (np : Nat) (fm : List D → Res D) (fk : AF) : List W × Env → Res (W × Env) := fun p => (fk p.2).bind (k2_eFK n kn pm np fm p)
@[simp] theorem ap_k4_eFK (n : Nat) (kn : Nat) (pm : List Nat) (np : Nat) (fm : List D → Res D) (q : List W × Env) (ds : List D) (es : List D) : k4_eFK n kn pm np fm q ds es = if ds.length = n ∧ es.length = kn ∧ (pick pm (ds ++ es)).length = np then ret (fm (pick pm (ds ++ es))) q.2 else .stuck := rfl
@[simp] theorem ap_k3_eFK (n : Nat) (kn : Nat) (pm : List Nat) (np : Nat) (fm : List D → Res D) (q : List W × Env) (ds : List D) : k3_eFK n kn pm np fm q ds = (ofO (dats q.1)).bind (k4_eFK n kn pm np fm q ds) := rfl
@[simp] theorem ap_k2_eFK (n : Nat) (kn : Nat) (pm : List Nat) (np : Nat) (fm : List D → Res D) (p : List W × Env) (q : List W × Env) : k2_eFK n kn pm np fm p q = (ofO (dats p.1)).bind (k3_eFK n kn pm np fm q) := rfl
@[simp] theorem ap_k1_eFK (n : Nat) (kn : Nat) (pm : List Nat) (np : Nat) (fm : List D → Res D) (fk : AF) (p : List W × Env) : k1_eFK n kn pm np fm fk p = (fk p.2).bind (k2_eFK n kn pm np fm p) := rfl
@[simp] theorem ap_eFK (n : Nat) (kn : Nat) (pm : List Nat) (np : Nat) (fm : List D → Res D) (fs : AF) (fk : AF) (E : Env) : eFK n kn pm np fm fs fk E = (fs E).bind (k1_eFK n kn pm np fm fk) := rfl
def k6_eGK (n : Nat) (kn : Nat) (pm : List Nat) (np : Nat) (fm : List D → Res D) (x : D) (r : List W × Env) (ds : List D) : List D → Res (W × Env) := fun es => if ds.length = n ∧ es.length = kn ∧ (pick pm (x :: ds ++ es)).length = np then ret (fm (pick pm (x :: ds ++ es))) r.2 else .stuck
def k5_eGK (n : Nat) (kn : Nat) (pm : List Nat) (np : Nat) (fm : List D → Res D) (x : D) (r : List W × Env) : List D → Res (W × Env) := fun ds => (ofO (dats r.1)).bind (k6_eGK n kn pm np fm x r ds)
def k4_eGK (n : Nat) (kn : Nat) (pm : List Nat) (np : Nat) (fm : List D → Res D) (x : D) (q : List W × Env) : List W × Env → Res (W × Env) := fun r => (ofO (dats q.1)).bind (k5_eGK n kn pm np fm x r)
def k3_eGK (n : Nat) (kn : Nat) (pm : List Nat) (np : Nat) (fm : List D → Res D) (fk : AF) (x : D) : List W × Env → Res (W × Env) := fun q => (fk q.2).bind (k4_eGK n kn pm np fm x q)
def k2_eGK (n : Nat) (kn : Nat) (pm : List Nat) (np : Nat) (fm : List D → Res D) (fs : AF) (fk : AF) (p : W × Env) : D → Res (W × Env) := fun x => (fs p.2).bind (k3_eGK n kn pm np fm fk x)
def k1_eGK (C : Addr) (m : Str) (n : Nat) (kn : Nat) (pm : List Nat) (np : Nat) (fm : List D → Res D) (fs : AF) (fk : AF) : W × Env → Res (W × Env) := fun p => (ofO (insOf C m p.1)).bind (k2_eGK n kn pm np fm fs fk p)
@[simp] theorem ap_k6_eGK (n : Nat) (kn : Nat) (pm : List Nat) (np : Nat) (fm : List D → Res D) (x : D) (r : List W × Env) (ds : List D) (es : List D) : k6_eGK n kn pm np fm x r ds es = if ds.length = n ∧ es.length = kn ∧ (pick pm (x :: ds ++ es)).length = np then ret (fm (pick pm (x :: ds ++ es))) r.2 else .stuck := rfl
@[simp] theorem ap_k5_eGK (n : Nat) (kn : Nat) (pm : List Nat) (np : Nat) (fm : List D → Res D) (x : D) (r : List W × Env) (ds : List D) : k5_eGK n kn pm np fm x r ds = (ofO (dats r.1)).bind (k6_eGK n kn pm np fm x r ds) := rfl
@[simp] theorem ap_k4_eGK (n : Nat) (kn : Nat) (pm : List Nat) (np : Nat) (fm : List D → Res D) (x : D) (q : List W × Env) (r : List W × Env) : k4_eGK n kn pm np fm x q r = (ofO (dats q.1)).bind (k5_eGK n kn pm np fm x r) := rfl
@[simp] theorem ap_k3_eGK (n : Nat) (kn : Nat) (pm : List Nat) (np : Nat) (fm : List D → Res D) (fk : AF) (x : D) (q : List W × Env) : k3_eGK n kn pm np fm fk x q = (fk q.2).bind (k4_eGK n kn pm np fm x q) := rfl
@[simp] theorem ap_k2_eGK (n : Nat) (kn : Nat) (pm : List Nat) (np : Nat) (fm : List D → Res D) (fs : AF) (fk : AF) (p : W × Env) (x : D) : k2_eGK n kn pm np fm fs fk p x = (fs p.2).bind (k3_eGK n kn pm np fm fk x) := rfl
@[simp] theorem ap_k1_eGK (C : Addr) (m : Str) (n : Nat) (kn : Nat) (pm : List Nat) (np : Nat) (fm : List D → Res D) (fs : AF) (fk : AF) (p : W × Env) : k1_eGK C m n kn pm np fm fs fk p = (ofO (insOf C m p.1)).bind (k2_eGK n kn pm np fm fs fk p) := rfl
@[simp] theorem ap_eGK (C : Addr) (m : Str) (n : Nat) (kn : Nat) (pm : List Nat) (np : Nat) (fm : List D → Res D) (fo : EF) (fs : AF) (fk : AF) (E : Env) : eGK C m n kn pm np fm fo fs fk E = (fo E).bind (k1_eGK C m n kn pm np fm fs fk) := rfl
def k1_eFld (C : Addr) (f : Str) : W × Env → Res (W × Env) := fun p => match p.1 with | .dat (.obj C' fs) => if C' = C then (ofO (fs.lookup f)).bind fun d => .ok (.dat d, p.2) else .stuck | _ => .stuck
@[simp] theorem ap_k1_eFld (C : Addr) (f : Str) (p : W × Env) : k1_eFld C f p = match p.1 with | .dat (.obj C' fs) => if C' = C then (ofO (fs.lookup f)).bind fun d => .ok (.dat d, p.2) else .stuck | _ => .stuck := rfl
@[simp] theorem ap_eFld (C : Addr) (f : Str) (fa : EF) (E : Env) : eFld C f fa E = (fa E).bind (k1_eFld C f) := rfl
def k2_eM1 (h : D → List D → Option D) (fb : EF) (p : W × Env) : D → Res (W × Env) := fun x => match x with | .str s => (fb p.2).bind fun q => (rd q.2 q.1).bind fun y => (ofO (h (.str s) [y])).bind fun d => .ok (.dat d, q.2) | _ => .stuck
def k1_eM1 (h : D → List D → Option D) (fb : EF) : W × Env → Res (W × Env) := fun p => (rd p.2 p.1).bind (k2_eM1 h fb p)
theorem ap_k2_eM1 (h : D → List D → Option D) (fb : EF) (p : W × Env) (x : D) : k2_eM1 h fb p x = match x with | .str s => (fb p.2).bind fun q => (rd q.2 q.1).bind fun y => (ofO (h (.str s) [y])).bind fun d => .ok (.dat d, q.2) | _ => .stuck := rfl
@[simp] theorem ap_k1_eM1 (h : D → List D → Option D) (fb : EF) (p : W × Env) : k1_eM1 h fb p = (rd p.2 p.1).bind (k2_eM1 h fb p) := rfl
@[simp] theorem ap_eM1 (h : D → List D → Option D) (fa : EF) (fb : EF) (E : Env) : eM1 h fa fb E = (fa E).bind (k1_eM1 h fb) := rfl
def k3_oSo (p : W × Env) : Int → Res (Option Int × Env) := fun i => .ok (some i, p.2)
def k2_oSo (p : W × Env) : D → Res (Option Int × Env) := fun d => (ofO (asI d)).bind (k3_oSo p)
def k1_oSo  : W × Env → Res (Option Int × Env) := fun p => (rd p.2 p.1).bind (k2_oSo p)
@[simp] theorem ap_k3_oSo (p : W × Env) (i : Int) : k3_oSo p i = .ok (some i, p.2) := rfl
@[simp] theorem ap_k2_oSo (p : W × Env) (d : D) : k2_oSo p d = (ofO (asI d)).bind (k3_oSo p) := rfl
@[simp] theorem ap_k1_oSo  (p : W × Env) : k1_oSo p = (rd p.2 p.1).bind (k2_oSo p) := rfl
@[simp] theorem ap_oSo (fa : EF) (E : Env) : oSo fa E = (fa E).bind k1_oSo := rfl
def k5_eSl (r : Option Int × Env) : D → Res (W × Env) := fun d => .ok (.dat d, r.2)
def k4_eSl (h : D → Option Int → Option Int → Option D) (q : Option Int × Env) (r : Option Int × Env) : D → Res (W × Env) := fun x => (ofO (h x q.1 r.1)).bind (k5_eSl r)
def k3_eSl (h : D → Option Int → Option Int → Option D) (p : W × Env) (q : Option Int × Env) : Option Int × Env → Res (W × Env) := fun r => (rd r.2 p.1).bind (k4_eSl h q r)
def k2_eSl (h : D → Option Int → Option Int → Option D) (oh : OF) (p : W × Env) : Option Int × Env → Res (W × Env) := fun q => (oh q.2).bind (k3_eSl h p q)
def k1_eSl (h : D → Option Int → Option Int → Option D) (ol : OF) (oh : OF) : W × Env → Res (W × Env) := fun p => (ol p.2).bind (k2_eSl h oh p)
@[simp] theorem ap_k5_eSl (r : Option Int × Env) (d : D) : k5_eSl r d = .ok (.dat d, r.2) := rfl
@[simp] theorem ap_k4_eSl (h : D → Option Int → Option Int → Option D) (q : Option Int × Env) (r : Option Int × Env) (x : D) : k4_eSl h q r x = (ofO (h x q.1 r.1)).bind (k5_eSl r) := rfl
@[simp] theorem ap_k3_eSl (h : D → Option Int → Option Int → Option D) (p : W × Env) (q : Option Int × Env) (r : Option Int × Env) : k3_eSl h p q r = (rd r.2 p.1).bind (k4_eSl h q r) := rfl
@[simp] theorem ap_k2_eSl (h : D → Option Int → Option Int → Option D) (oh : OF) (p : W × Env) (q : Option Int × Env) : k2_eSl h oh p q = (oh q.2).bind (k3_eSl h p q) := rfl
@[simp] theorem ap_k1_eSl (h : D → Option Int → Option Int → Option D) (ol : OF) (oh : OF) (p : W × Env) : k1_eSl h ol oh p = (ol p.2).bind (k2_eSl h oh p) := rfl
@[simp] theorem ap_eSl (h : D → Option Int → Option Int → Option D) (fa : EF) (ol : OF) (oh : OF) (E : Env) : eSl h fa ol oh E = (fa E).bind (k1_eSl h ol oh) := rfl
def k3_iSq (p : W × Env) : List D → Res (List D × Env) := fun ds => .ok (ds, p.2)
def k2_iSq (p : W × Env) : D → Res (List D × Env) := fun d => (ofO (sqD d)).bind (k3_iSq p)
def k1_iSq  : W × Env → Res (List D × Env) := fun p => (ofO (asDat p.1)).bind (k2_iSq p)
@[simp] theorem ap_k3_iSq (p : W × Env) (ds : List D) : k3_iSq p ds = .ok (ds, p.2) := rfl
@[simp] theorem ap_k2_iSq (p : W × Env) (d : D) : k2_iSq p d = (ofO (sqD d)).bind (k3_iSq p) := rfl
@[simp] theorem ap_k1_iSq  (p : W × Env) : k1_iSq p = (ofO (asDat p.1)).bind (k2_iSq p) := rfl
@[simp] theorem ap_iSq (fa : EF) (E : Env) : iSq fa E = (fa E).bind k1_iSq := rfl
def k1_iZ  : List W × Env → Res (List D × Env) := fun p => match p.1 with | [.dat a, .dat b] => (ofO (sqD a)).bind fun x => (ofO (sqD b)).bind fun y => .ok ((List.zip x y).map fun p => .tup [p.1, p.2], p.2) | _ => .stuck
@[simp] theorem ap_k1_iZ  (p : List W × Env) : k1_iZ p = match p.1 with | [.dat a, .dat b] => (ofO (sqD a)).bind fun x => (ofO (sqD b)).bind fun y => .ok ((List.zip x y).map fun p => .tup [p.1, p.2], p.2) | _ => .stuck := rfl
@[simp] theorem ap_iZ (fs : AF) (E : Env) : iZ fs E = (fs E).bind k1_iZ := rfl
def k1_iN  : List W × Env → Res (List D × Env) := fun p => match p.1 with | [.dat a] => (ofO (sqD a)).bind fun x => .ok (numD 0 x, p.2) | _ => .stuck
@[simp] theorem ap_k1_iN  (p : List W × Env) : k1_iN p = match p.1 with | [.dat a] => (ofO (sqD a)).bind fun x => .ok (numD 0 x, p.2) | _ => .stuck := rfl
@[simp] theorem ap_iN (fs : AF) (E : Env) : iN fs E = (fs E).bind k1_iN := rfl
def k1_iNk (k0 : Int) : List W × Env → Res (List D × Env) := fun p => match p.1 with | [.dat a] => (ofO (sqD a)).bind fun x => .ok (numD k0 x, p.2) | _ => .stuck
@[simp] theorem ap_k1_iNk (k0 : Int) (p : List W × Env) : k1_iNk k0 p = match p.1 with | [.dat a] => (ofO (sqD a)).bind fun x => .ok (numD k0 x, p.2) | _ => .stuck := rfl
@[simp] theorem ap_iNk (k0 : Int) (fs : AF) (E : Env) : iNk k0 fs E = (fs E).bind (k1_iNk k0) := rfl
def k1_iR1  : List W × Env → Res (List D × Env) := fun p => match p.1 with | [.dat (.int j)] => if j ≤ 16777216 ∧ -(2 ^ 62) ≤ j then .ok (rgD 0 j.toNat, p.2) else .stuck | _ => .stuck
@[simp] theorem ap_k1_iR1  (p : List W × Env) : k1_iR1 p = match p.1 with | [.dat (.int j)] => if j ≤ 16777216 ∧ -(2 ^ 62) ≤ j then .ok (rgD 0 j.toNat, p.2) else .stuck | _ => .stuck := rfl
@[simp] theorem ap_iR1 (fs : AF) (E : Env) : iR1 fs E = (fs E).bind k1_iR1 := rfl
def k1_iR2  : List W × Env → Res (List D × Env) := fun p => match p.1 with | [.dat (.int i), .dat (.int j)] => if j - i ≤ 16777216 ∧ -(2 ^ 62) ≤ i ∧ i < 2 ^ 62 ∧ -(2 ^ 62) ≤ j ∧ j < 2 ^ 62 then .ok (rgD i (j - i).toNat, p.2) else .stuck | _ => .stuck
@[simp] theorem ap_k1_iR2  (p : List W × Env) : k1_iR2 p = match p.1 with | [.dat (.int i), .dat (.int j)] => if j - i ≤ 16777216 ∧ -(2 ^ 62) ≤ i ∧ i < 2 ^ 62 ∧ -(2 ^ 62) ≤ j ∧ j < 2 ^ 62 then .ok (rgD i (j - i).toNat, p.2) else .stuck | _ => .stuck := rfl
@[simp] theorem ap_iR2 (fs : AF) (E : Env) : iR2 fs E = (fs E).bind k1_iR2 := rfl
def k1_nComp (vs : List Nat) (h : GF) (fc : BF) (fe : EF) : List D × Env → Res (D × Env) := fun p => if vs.all (fun v => plainC p.2[v]?) = true then compL vs h fc fe p.2 p.1 [] p.2 else .stuck
@[simp] theorem ap_k1_nComp (vs : List Nat) (h : GF) (fc : BF) (fe : EF) (p : List D × Env) : k1_nComp vs h fc fe p = if vs.all (fun v => plainC p.2[v]?) = true then compL vs h fc fe p.2 p.1 [] p.2 else .stuck := rfl
@[simp] theorem ap_nComp (vs : List Nat) (fi : IF) (h : GF) (fc : BF) (fe : EF) (E : Env) : nComp vs fi h fc fe E = (fi E).bind (k1_nComp vs h fc fe) := rfl
def k1_nComp2 (vs : List Nat) (vs1 : List Nat) (h : GF) (fc : BF) (fi1 : IF) (h1 : GF) (fc1 : BF) (fe : EF) : List D × Env → Res (D × Env) := fun p => if vs.all (fun v => plainC p.2[v]?) = true then compL2 vs vs1 h fc fi1 h1 fc1 fe p.2 p.1 [] p.2 else .stuck
@[simp] theorem ap_k1_nComp2 (vs : List Nat) (vs1 : List Nat) (h : GF) (fc : BF) (fi1 : IF) (h1 : GF) (fc1 : BF) (fe : EF) (p : List D × Env) : k1_nComp2 vs vs1 h fc fi1 h1 fc1 fe p = if vs.all (fun v => plainC p.2[v]?) = true then compL2 vs vs1 h fc fi1 h1 fc1 fe p.2 p.1 [] p.2 else .stuck := rfl
@[simp] theorem ap_nComp2 (vs : List Nat) (vs1 : List Nat) (fi : IF) (h : GF) (fc : BF) (fi1 : IF) (h1 : GF) (fc1 : BF) (fe : EF) (E : Env) : nComp2 vs vs1 fi h fc fi1 h1 fc1 fe E = (fi E).bind (k1_nComp2 vs vs1 h fc fi1 h1 fc1 fe) := rfl
def k2_nM1 (h : D → List D → Option D) (fb : EF) (p : W × Env) : D → Res (D × Env) := fun x => match x with | .str s => (fb p.2).bind fun q => (rd q.2 q.1).bind fun y => (ofO (h (.str s) [y])).bind fun d => .ok (d, q.2) | _ => .stuck
def k1_nM1 (h : D → List D → Option D) (fb : EF) : W × Env → Res (D × Env) := fun p => (rd p.2 p.1).bind (k2_nM1 h fb p)
theorem ap_k2_nM1 (h : D → List D → Option D) (fb : EF) (p : W × Env) (x : D) : k2_nM1 h fb p x = match x with | .str s => (fb p.2).bind fun q => (rd q.2 q.1).bind fun y => (ofO (h (.str s) [y])).bind fun d => .ok (d, q.2) | _ => .stuck := rfl
@[simp] theorem ap_k1_nM1 (h : D → List D → Option D) (fb : EF) (p : W × Env) : k1_nM1 h fb p = (rd p.2 p.1).bind (k2_nM1 h fb p) := rfl
@[simp] theorem ap_nM1 (h : D → List D → Option D) (fa : EF) (fb : EF) (E : Env) : nM1 h fa fb E = (fa E).bind (k1_nM1 h fb) := rfl
def k1_nCompO (vs : List Nat) (i : Nat) (h : GF) (fc : BF) (fe : EF) (E : Env) : List D → Res (D × Env) := fun ds => if vs.all (fun v => plainC E[v]?) = true then compO vs i ds.length h fc fe E ds.length [] E else .stuck
theorem ap_k1_nCompO (vs : List Nat) (i : Nat) (h : GF) (fc : BF) (fe : EF) (E : Env) (ds : List D) : k1_nCompO vs i h fc fe E ds = if vs.all (fun v => plainC E[v]?) = true then compO vs i ds.length h fc fe E ds.length [] E else .stuck := rfl
@[simp] theorem ap_nCompO (vs : List Nat) (i : Nat) (h : GF) (fc : BF) (fe : EF) (E : Env) : nCompO vs i h fc fe E = (ofO (ownL E i)).bind (k1_nCompO vs i h fc fe E) := rfl
def k1_sSeq (s2 : SF) : Fl × Env → Res (Fl × Env) := fun p => match p.1 with | .nx => s2 p.2 | fl => .ok (fl, p.2)
@[simp] theorem ap_k1_sSeq (s2 : SF) (p : Fl × Env) : k1_sSeq s2 p = match p.1 with | .nx => s2 p.2 | fl => .ok (fl, p.2) := rfl
@[simp] theorem ap_sSeq (s1 : SF) (s2 : SF) (E : Env) : sSeq s1 s2 E = (s1 E).bind (k1_sSeq s2) := rfl
def k1_sEx  : W × Env → Res (Fl × Env) := fun p => .ok (.nx, p.2)
@[simp] theorem ap_k1_sEx  (p : W × Env) : k1_sEx p = .ok (.nx, p.2) := rfl
@[simp] theorem ap_sEx (fa : EF) (E : Env) : sEx fa E = (fa E).bind k1_sEx := rfl
def k1_sRet  : W × Env → Res (Fl × Env) := fun p => match p.1 with | .dat d => .ok (.rt d, p.2) | .own i => match p.2[i]? with | some (.own d) => .ok (.rt d, p.2.set i (.dat d)) | _ => .stuck
@[simp] theorem ap_k1_sRet  (p : W × Env) : k1_sRet p = match p.1 with | .dat d => .ok (.rt d, p.2) | .own i => match p.2[i]? with | some (.own d) => .ok (.rt d, p.2.set i (.dat d)) | _ => .stuck := rfl
@[simp] theorem ap_sRet (fa : EF) (E : Env) : sRet fa E = (fa E).bind k1_sRet := rfl
def k1_sIf (s1 : SF) (s2 : SF) : Bool × Env → Res (Fl × Env) := fun p => if p.1 = true then s1 p.2 else s2 p.2
@[simp] theorem ap_k1_sIf (s1 : SF) (s2 : SF) (p : Bool × Env) : k1_sIf s1 s2 p = if p.1 = true then s1 p.2 else s2 p.2 := rfl
@[simp] theorem ap_sIf (t : BF) (s1 : SF) (s2 : SF) (E : Env) : sIf t s1 s2 E = (t E).bind (k1_sIf s1 s2) := rfl
def k1_sSet (i : Nat) : W × Env → Res (Fl × Env) := fun p => match p.1 with | .dat d => .ok (.nx, p.2.set i (.dat d)) | .own _ => .stuck
@[simp] theorem ap_k1_sSet (i : Nat) (p : W × Env) : k1_sSet i p = match p.1 with | .dat d => .ok (.nx, p.2.set i (.dat d)) | .own _ => .stuck := rfl
@[simp] theorem ap_sSet (i : Nat) (fa : EF) (E : Env) : sSet i fa E = (fa E).bind (k1_sSet i) := rfl
def k1_sSetN (i : Nat) : D × Env → Res (Fl × Env) := fun p => if i < p.2.length then .ok (.nx, p.2.set i (.own p.1)) else .stuck
@[simp] theorem ap_k1_sSetN (i : Nat) (p : D × Env) : k1_sSetN i p = if i < p.2.length then .ok (.nx, p.2.set i (.own p.1)) else .stuck := rfl
@[simp] theorem ap_sSetN (i : Nat) (fn : NF) (E : Env) : sSetN i fn E = (fn E).bind (k1_sSetN i) := rfl
def k1_sFor (h : GF) (s1 : SF) : List D × Env → Res (Fl × Env) := fun p => forL h s1 p.1 p.2
@[simp] theorem ap_k1_sFor (h : GF) (s1 : SF) (p : List D × Env) : k1_sFor h s1 p = forL h s1 p.1 p.2 := rfl
@[simp] theorem ap_sFor (fi : IF) (h : GF) (s1 : SF) (E : Env) : sFor fi h s1 E = (fi E).bind (k1_sFor h s1) := rfl
def k3_sAsg  : Env → Res (Fl × Env) := fun E1 => .ok (.nx, E1)
def k2_sAsg (h : GF) (p : W × Env) : D → Res (Fl × Env) := fun d => (ofO (h d p.2)).bind k3_sAsg
def k1_sAsg (h : GF) : W × Env → Res (Fl × Env) := fun p => (ofO (asDat p.1)).bind (k2_sAsg h p)
@[simp] theorem ap_k3_sAsg  (E1 : Env) : k3_sAsg E1 = .ok (.nx, E1) := rfl
@[simp] theorem ap_k2_sAsg (h : GF) (p : W × Env) (d : D) : k2_sAsg h p d = (ofO (h d p.2)).bind k3_sAsg := rfl
@[simp] theorem ap_k1_sAsg (h : GF) (p : W × Env) : k1_sAsg h p = (ofO (asDat p.1)).bind (k2_sAsg h p) := rfl
@[simp] theorem ap_sAsg (h : GF) (fa : EF) (E : Env) : sAsg h fa E = (fa E).bind (k1_sAsg h) := rfl
def k5_eOM (i : Nat) (p : List W × Env) : D × List D → Res (W × Env) := fun r => .ok (.dat r.1, p.2.set i (.own (.lst r.2)))
def k4_eOM (i : Nat) (h : List D → List D → Option (D × List D)) (p : List W × Env) (es : List D) : List D → Res (W × Env) := fun ds => (ofO (h ds es)).bind (k5_eOM i p)
def k3_eOM (i : Nat) (h : List D → List D → Option (D × List D)) (p : List W × Env) : List D → Res (W × Env) := fun es => (ofO (ownL p.2 i)).bind (k4_eOM i h p es)
def k2_eOM (i : Nat) (h : List D → List D → Option (D × List D)) : List W × Env → Res (W × Env) := fun p => (ofO (dats p.1)).bind (k3_eOM i h p)
def k1_eOM (i : Nat) (h : List D → List D → Option (D × List D)) (fs : AF) (E : Env) : List D → Res (W × Env) := fun _ => (fs E).bind (k2_eOM i h)
@[simp] theorem ap_k5_eOM (i : Nat) (p : List W × Env) (r : D × List D) : k5_eOM i p r = .ok (.dat r.1, p.2.set i (.own (.lst r.2))) := rfl
@[simp] theorem ap_k4_eOM (i : Nat) (h : List D → List D → Option (D × List D)) (p : List W × Env) (es : List D) (ds : List D) : k4_eOM i h p es ds = (ofO (h ds es)).bind (k5_eOM i p) := rfl
@[simp] theorem ap_k3_eOM (i : Nat) (h : List D → List D → Option (D × List D)) (p : List W × Env) (es : List D) : k3_eOM i h p es = (ofO (ownL p.2 i)).bind (k4_eOM i h p es) := rfl
@[simp] theorem ap_k2_eOM (i : Nat) (h : List D → List D → Option (D × List D)) (p : List W × Env) : k2_eOM i h p = (ofO (dats p.1)).bind (k3_eOM i h p) := rfl
@[simp] theorem ap_k1_eOM (i : Nat) (h : List D → List D → Option (D × List D)) (fs : AF) (E : Env) (_z : List D) : k1_eOM i h fs E _z = (fs E).bind (k2_eOM i h) := rfl
@[simp] theorem ap_eOM (i : Nat) (h : List D → List D → Option (D × List D)) (fs : AF) (E : Env) : eOM i h fs E = (ofO (ownL E i)).bind (k1_eOM i h fs E) := rfl
def k7_sPut (i : Nat) (q : W × Env) : D → Res (Fl × Env) := fun e => .ok (.nx, q.2.set i (.own e))
def k6_sPut (i : Nat) (v : D) (q : W × Env) (k : D) : D → Res (Fl × Env) := fun d => (ofO (putO d k v)).bind (k7_sPut i q)
def k5_sPut (i : Nat) (v : D) (q : W × Env) : D → Res (Fl × Env) := fun k => (ofO (ownO q.2 i)).bind (k6_sPut i v q k)
def k4_sPut (i : Nat) (v : D) : W × Env → Res (Fl × Env) := fun q => (rd q.2 q.1).bind (k5_sPut i v q)
def k3_sPut (i : Nat) (fk : EF) (p : W × Env) (v : D) : D → Res (Fl × Env) := fun _ => (fk p.2).bind (k4_sPut i v)
def k2_sPut (i : Nat) (fk : EF) (p : W × Env) : D → Res (Fl × Env) := fun v => (ofO (ownO p.2 i)).bind (k3_sPut i fk p v)
def k1_sPut (i : Nat) (fk : EF) : W × Env → Res (Fl × Env) := fun p => (ofO (asDat p.1)).bind (k2_sPut i fk p)
@[simp] theorem ap_k7_sPut (i : Nat) (q : W × Env) (e : D) : k7_sPut i q e = .ok (.nx, q.2.set i (.own e)) := rfl
@[simp] theorem ap_k6_sPut (i : Nat) (v : D) (q : W × Env) (k : D) (d : D) : k6_sPut i v q k d = (ofO (putO d k v)).bind (k7_sPut i q) := rfl
@[simp] theorem ap_k5_sPut (i : Nat) (v : D) (q : W × Env) (k : D) : k5_sPut i v q k = (ofO (ownO q.2 i)).bind (k6_sPut i v q k) := rfl
@[simp] theorem ap_k4_sPut (i : Nat) (v : D) (q : W × Env) : k4_sPut i v q = (rd q.2 q.1).bind (k5_sPut i v q) := rfl
@[simp] theorem ap_k3_sPut (i : Nat) (fk : EF) (p : W × Env) (v : D) (_z : D) : k3_sPut i fk p v _z = (fk p.2).bind (k4_sPut i v) := rfl
@[simp] theorem ap_k2_sPut (i : Nat) (fk : EF) (p : W × Env) (v : D) : k2_sPut i fk p v = (ofO (ownO p.2 i)).bind (k3_sPut i fk p v) := rfl
@[simp] theorem ap_k1_sPut (i : Nat) (fk : EF) (p : W × Env) : k1_sPut i fk p = (ofO (asDat p.1)).bind (k2_sPut i fk p) := rfl
@[simp] theorem ap_sPut (i : Nat) (fk : EF) (fv : EF) (E : Env) : sPut i fk fv E = (fv E).bind (k1_sPut i fk) := rfl
def k1_sPar (is : List Nat) : List (Bool × D) × Env → Res (Fl × Env) := fun p => if p.1.length = is.length ∧ (is.all fun i => decide (i < p.2.length)) = true then .ok (.nx, setE is p.2 p.1) else .stuck
@[simp] theorem ap_k1_sPar (is : List Nat) (p : List (Bool × D) × Env) : k1_sPar is p = if p.1.length = is.length ∧ (is.all fun i => decide (i < p.2.length)) = true then .ok (.nx, setE is p.2 p.1) else .stuck := rfl
@[simp] theorem ap_sPar (is : List Nat) (l : List EN) (E : Env) : sPar is l E = (evN l E).bind (k1_sPar is) := rfl
def k2_eUpd (i : Nat) : D × Env → Res (W × Env) := fun p => updK i p
def k1_eUpd (i : Nat) (fn : NF) (E : Env) : List (Key × D) → Res (W × Env) := fun _ => (fn E).bind (k2_eUpd i)
@[simp] theorem ap_k2_eUpd (i : Nat) (p : D × Env) : k2_eUpd i p = updK i p := rfl
@[simp] theorem ap_k1_eUpd (i : Nat) (fn : NF) (E : Env) (_z : List (Key × D)) : k1_eUpd i fn E _z = (fn E).bind (k2_eUpd i) := rfl
@[simp] theorem ap_eUpd (i : Nat) (fn : NF) (E : Env) : eUpd i fn E = (ofO (ownK E i)).bind (k1_eUpd i fn E) := rfl
def k1_nDis  : List (Key × D) × Env → Res (D × Env) := fun p => if p.1.length ≤ 15 then .ok (.dic (mergeM [] p.1), p.2) else .stuck
@[simp] theorem ap_k1_nDis  (p : List (Key × D) × Env) : k1_nDis p = if p.1.length ≤ 15 then .ok (.dic (mergeM [] p.1), p.2) else .stuck := rfl
@[simp] theorem ap_nDis (l : List (Str × EF)) (E : Env) : nDis l E = (disL l E).bind k1_nDis := rfl
def k2_nMk (C : Addr) (n : Nat) (fm : List D → Res (List (Str × D))) (p : List W × Env) : List D → Res (D × Env) := fun ds => if ds.length = n then (match fm ds with | .ok l => .ok (.obj C l, p.2) | .err x _ => .err x p.2 | .stuck => .stuck) else .stuck
def k1_nMk (C : Addr) (n : Nat) (fm : List D → Res (List (Str × D))) : List W × Env → Res (D × Env) := fun p => (ofO (dats p.1)).bind (k2_nMk C n fm p)
@[simp] theorem ap_k2_nMk (C : Addr) (n : Nat) (fm : List D → Res (List (Str × D))) (p : List W × Env) (ds : List D) : k2_nMk C n fm p ds = if ds.length = n then (match fm ds with | .ok l => .ok (.obj C l, p.2) | .err x _ => .err x p.2 | .stuck => .stuck) else .stuck := rfl
@[simp] theorem ap_k1_nMk (C : Addr) (n : Nat) (fm : List D → Res (List (Str × D))) (p : List W × Env) : k1_nMk C n fm p = (ofO (dats p.1)).bind (k2_nMk C n fm p) := rfl
@[simp] theorem ap_nMk (C : Addr) (n : Nat) (fm : List D → Res (List (Str × D))) (fs : AF) (E : Env) : nMk C n fm fs E = (fs E).bind (k1_nMk C n fm) := rfl
def k3_sFldD (i : Nat) (C : Addr) (f : Str) (p : W × Env) (d : D) : Addr × List (Str × D) → Res (Fl × Env) := fun z => .ok (.nx, p.2.set i (.slf z.1 (.obj C (setF f d z.2))))
def k2_sFldD (i : Nat) (C : Addr) (f : Str) (p : W × Env) : D → Res (Fl × Env) := fun d => (ofO (slfAt p.2 i C)).bind (k3_sFldD i C f p d)
def k1_sFldD (i : Nat) (C : Addr) (f : Str) : W × Env → Res (Fl × Env) := fun p => (ofO (asDat p.1)).bind (k2_sFldD i C f p)
@[simp] theorem ap_k3_sFldD (i : Nat) (C : Addr) (f : Str) (p : W × Env) (d : D) (z : Addr × List (Str × D)) : k3_sFldD i C f p d z = .ok (.nx, p.2.set i (.slf z.1 (.obj C (setF f d z.2)))) := rfl
@[simp] theorem ap_k2_sFldD (i : Nat) (C : Addr) (f : Str) (p : W × Env) (d : D) : k2_sFldD i C f p d = (ofO (slfAt p.2 i C)).bind (k3_sFldD i C f p d) := rfl
@[simp] theorem ap_k1_sFldD (i : Nat) (C : Addr) (f : Str) (p : W × Env) : k1_sFldD i C f p = (ofO (asDat p.1)).bind (k2_sFldD i C f p) := rfl
@[simp] theorem ap_sFldD (i : Nat) (C : Addr) (f : Str) (fa : EF) (E : Env) : sFldD i C f fa E = (fa E).bind (k1_sFldD i C f) := rfl
@[simp] theorem ap_k2_eM1s (h : D → List D → Option D) (fb : EF) (p : W × Env) (s : Str) : k2_eM1 h fb p (.str s) = (fb p.2).bind fun q => (rd q.2 q.1).bind fun y => (ofO (h (.str s) [y])).bind fun d => .ok (.dat d, q.2) := rfl
@[simp] theorem ap_k2_nM1s (h : D → List D → Option D) (fb : EF) (p : W × Env) (s : Str) : k2_nM1 h fb p (.str s) = (fb p.2).bind fun q => (rd q.2 q.1).bind fun y => (ofO (h (.str s) [y])).bind fun d => .ok (d, q.2) := rfl
@[simp] theorem ap_k2_eM1d (h : D → List D → Option D) (fb : EF) (p : W × Env) (l : List Nat) : k2_eM1 h fb p (dS l) = (fb p.2).bind fun q => (rd q.2 q.1).bind fun y => (ofO (h (dS l) [y])).bind fun d => .ok (.dat d, q.2) := rfl
@[simp] theorem ap_k2_nM1d (h : D → List D → Option D) (fb : EF) (p : W × Env) (l : List Nat) : k2_nM1 h fb p (dS l) = (fb p.2).bind fun q => (rd q.2 q.1).bind fun y => (ofO (h (dS l) [y])).bind fun d => .ok (d, q.2) := rfl
@[simp] theorem ap_k2_eM1c (h : D → List D → Option D) (fb : EF) (p : W × Env) (l : Nat) : k2_eM1 h fb p (dC l) = (fb p.2).bind fun q => (rd q.2 q.1).bind fun y => (ofO (h (dC l) [y])).bind fun d => .ok (.dat d, q.2) := rfl
@[simp] theorem ap_k2_nM1c (h : D → List D → Option D) (fb : EF) (p : W × Env) (l : Nat) : k2_nM1 h fb p (dC l) = (fb p.2).bind fun q => (rd q.2 q.1).bind fun y => (ofO (h (dC l) [y])).bind fun d => .ok (d, q.2) := rfl
@[simp] theorem ap_eC (d : D) (E : Env) : eC d E = .ok (.dat d, E) := rfl
@[simp] theorem ap_aN (E : Env) : aN E = .ok ([], E) := rfl
@[simp] theorem ap_nNil (E : Env) : nNil E = .ok (.lst [], E) := rfl
@[simp] theorem ap_nDK (E : Env) : nDK E = .ok (.dic [], E) := rfl
@[simp] theorem ap_nDT (E : Env) : nDT E = .ok (.dit [], E) := rfl
@[simp] theorem ap_oNo (E : Env) : oNo E = .ok (none, E) := rfl
@[simp] theorem ap_tYes (E : Env) : tYes' E = .ok (true, E) := rfl
@[simp] theorem ap_sNx (E : Env) : sNx E = .ok (.nx, E) := rfl
@[simp] theorem ap_sBk (E : Env) : sBk E = .ok (.bk, E) := rfl
@[simp] theorem ap_sCt (E : Env) : sCt E = .ok (.ct, E) := rfl
@[simp] theorem ap_sRetN (E : Env) : sRetN E = .ok (.rt .non, E) := rfl
@[simp] theorem ap_evN0 (E : Env) : evN [] E = .ok ([], E) := rfl
def k2_evNe (d : D) : List (Bool × D) × Env → Res (List (Bool × D) × Env) := fun q => .ok ((false, d) :: q.1, q.2)
@[simp] theorem ap_k2_evNe (d : D) (q : List (Bool × D) × Env) : k2_evNe d q = .ok ((false, d) :: q.1, q.2) := rfl
def k1_evNe (r : List EN) : W × Env → Res (List (Bool × D) × Env) := fun p => (ofO (asDat p.1)).bind fun d => (evN r p.2).bind (k2_evNe d)
@[simp] theorem ap_k1_evNe (r : List EN) (d : D) (E : Env) : k1_evNe r (.dat d, E) = (evN r E).bind (k2_evNe d) := rfl
@[simp] theorem ap_evNe (f : EF) (r : List EN) (E : Env) : evN (.e f :: r) E = (f E).bind (k1_evNe r) := rfl
def k2_evNn (d : D) : List (Bool × D) × Env → Res (List (Bool × D) × Env) := fun q => .ok ((true, d) :: q.1, q.2)
@[simp] theorem ap_k2_evNn (d : D) (q : List (Bool × D) × Env) : k2_evNn d q = .ok ((true, d) :: q.1, q.2) := rfl
def k1_evNn (r : List EN) : D × Env → Res (List (Bool × D) × Env) := fun p => (evN r p.2).bind (k2_evNn p.1)
@[simp] theorem ap_k1_evNn (r : List EN) (p : D × Env) : k1_evNn r p = (evN r p.2).bind (k2_evNn p.1) := rfl
@[simp] theorem ap_evNn (f : NF) (r : List EN) (E : Env) : evN (.n f :: r) E = (f E).bind (k1_evNn r) := rfl
@[simp] theorem ap_disL0 (E : Env) : disL [] E = .ok ([], E) := rfl
def k2_disL (k : Str) (d : D) : List (Key × D) × Env → Res (List (Key × D) × Env) := fun q => .ok ((.inr k, d) :: q.1, q.2)
@[simp] theorem ap_k2_disL (k : Str) (d : D) (q : List (Key × D) × Env) : k2_disL k d q = .ok ((.inr k, d) :: q.1, q.2) := rfl
def k1_disL (k : Str) (r : List (Str × EF)) : W × Env → Res (List (Key × D) × Env) := fun p => (ofO (asDat p.1)).bind fun d => (disL r p.2).bind (k2_disL k d)
@[simp] theorem ap_k1_disL (k : Str) (r : List (Str × EF)) (d : D) (E : Env) : k1_disL k r (.dat d, E) = (disL r E).bind (k2_disL k d) := rfl
@[simp] theorem ap_disL (k : Str) (f : EF) (r : List (Str × EF)) (E : Env) : disL ((k, f) :: r) E = (f E).bind (k1_disL k r) := rfl
@[simp] theorem setE_own (i : Nat) (is : List Nat) (E : Env) (d : D) (ds : List (Bool × D)) : setE (i :: is) E ((true, d) :: ds) = setE is (E.set i (.own d)) ds := rfl
@[simp] theorem setE_dat (i : Nat) (is : List Nat) (E : Env) (d : D) (ds : List (Bool × D)) : setE (i :: is) E ((false, d) :: ds) = setE is (E.set i (.dat d)) ds := rfl
@[simp] theorem setE_nil (E : Env) (ds : List (Bool × D)) : setE [] E ds = E := rfl
@[simp] theorem kit_ss : kitB "str" "str" = some true := by decide +kernel
@[simp] theorem kit_tt : kitB "tuple" "tuple" = some true := by decide +kernel
@[simp] theorem ret_ok {d : D} {E : Env} : ret (.ok d) E = .ok (.dat d, E) := rfl
@[simp] theorem retK_ok {i : Nat} {a q : Addr} {d : D} {l : List Int} {b : Int} {E : Env} : retK i a q (.ok (d, ⟨l, b⟩)) E = .ok (.dat d, E.set i (.deck a q l b)) := rfl
@[simp] theorem noErr_ok {α : Type} (a : α) : noErr (.ok a) = .ok a := rfl
@[simp] theorem asB_bl (b : Bool) : asB (.bl b) = some b := rfl
@[simp] theorem asI_int (i : Int) : asI (.int i) = some i := rfl
@[simp] theorem asDat_dat (d : D) : asDat (.dat d) = some d := rfl
@[simp] theorem outF_rt (d : D) (E : Env) : outF (.ok (.rt d, E)) = .ok d := rfl
@[simp] theorem outF_nx (E : Env) : outF (.ok (.nx, E)) = .ok .non := rfl
@[simp] theorem dats_nil : dats [] = some [] := rfl
@[simp] theorem dats_cons (d : D) (ws : List W) : dats (.dat d :: ws) = (dats ws).map (d :: ·) := rfl
@[simp] theorem rds_nil (E : Env) : rds E [] = .ok [] := rfl
@[simp] theorem rds_dat (E : Env) (d : D) (ws : List W) : rds E (.dat d :: ws) = (rds E ws).bind fun ds => .ok (d :: ds) := rfl
@[simp] theorem sqD_str (x : Str) : sqD (.str x) = some (signs x) := rfl
@[simp] theorem sqD_lst (x : List D) : sqD (.lst x) = some x := rfl
@[simp] theorem sqD_tup (x : List D) : sqD (.tup x) = some x := rfl
@[simp] theorem bind_ite {α β : Type} {c : Prop} [Decidable c] {x y : Res α} {f : α → Res β} : (if c then x else y).bind f = if c then x.bind f else y.bind f := by
  split <;> rfl
end DL
namespace DL
open PySem PySem.Spec PyProof.Rows L2 TL
theorem compL_map {α : Type} {vs : List Nat} {g : GF} {fc : BF} {fe : EF} {E0 E : Env} (f : α → D) (E1 : α → Env) (p : α → Bool) (y : α → D) (l : List α) (h : ∀ a ∈ l, g (f a) (wipeE E vs) = some (E1 a) ∧ fc (E1 a) = .ok (p a, E1 a) ∧ (p a = true → fe (E1 a) = .ok (.dat (y a), E1 a)) ∧ backE E0 (E1 a) vs = E) (acc : List D) :
    compL vs g fc fe E0 (l.map f) acc E = .ok (.lst (acc ++ (l.filter p).map y), E) := by
  induction l generalizing acc with
  | nil => simp [compL]
  | cons d ds ih =>
    obtain ⟨h1, h2, h3, h4⟩ := h d List.mem_cons_self
    have ih := ih fun d hd => h d (List.mem_cons_of_mem _ hd)
    rw [List.map_cons, compL, h1]
    cases hp : p d with
    | false =>
      simp only [ofO_some, Res.ok_bind, h2, hp, noErr, if_neg Bool.false_ne_true, h4, ih, List.filter_cons]
    | true =>
      simp only [ofO_some, Res.ok_bind, h2, hp, noErr, if_pos, h3 hp, asDat, h4, ih, List.filter_cons, List.map_cons, List.append_assoc, List.singleton_append]
/-- .. with no test -/
theorem compL_all {α : Type} {vs : List Nat} {g : GF} {fe : EF} {E0 E : Env} (f : α → D) (E1 : α → Env) (y : α → D) (l : List α) (h : ∀ a ∈ l, g (f a) (wipeE E vs) = some (E1 a) ∧ fe (E1 a) = .ok (.dat (y a), E1 a) ∧ backE E0 (E1 a) vs = E) :
    compL vs g tYes' fe E0 (l.map f) [] E = .ok (.lst (l.map y), E) := by
  have z := compL_map (fc := tYes') f E1 (fun _ => true) y l (fun a ha => ⟨(h a ha).1, rfl, fun _ => (h a ha).2.1, (h a ha).2.2⟩) []
  rw [z, List.nil_append, List.filter_eq_self.mpr fun _ _ => rfl]
theorem bls_map {α : Type} (q : α → Bool) : ∀ l : List α, bls (l.map fun a => D.bl (q a)) = some (l.map q)
  | [] => rfl
  | a :: l => by
    show (bls (l.map fun a => D.bl (q a))).map (q a :: ·) = _
    rw [bls_map q l]; rfl
@[simp] theorem gAll_map {α : Type} (q : α → Bool) (l : List α) : gAll [.lst (l.map fun a => D.bl (q a))] = some (.bl (l.all q)) := by
  show (bls (l.map fun a => D.bl (q a))).map (fun l => D.bl (l.all id)) = _
  rw [bls_map]
  show some (D.bl ((l.map q).all id)) = _
  rw [List.all_map]; rfl
theorem zip_two {α β : Type} (f : α → D) (g : β → D) (a : List α) (b : List β) : (List.zip (a.map f) (b.map g)).map (fun p => D.tup [p.1, p.2]) = (List.zip a b).map fun p => .tup [f p.1, g p.2] := by
  rw [List.zip_map, List.map_map]; rfl
/-- strictly ascending -/
def ascB {α : Type} (lt : α → α → Bool) : List α → Bool
  | [] => true
  | [_] => true
  | a :: b :: r => lt a b && ascB lt (b :: r)
theorem ascB_zip {α : Type} (lt : α → α → Bool) : ∀ l : List α, (List.zip l.dropLast l.tail).all (fun p => lt p.1 p.2) = ascB lt l
  | [] => rfl
  | [_] => rfl
  | a :: b :: r => by
    have ih := ascB_zip lt (b :: r)
    rw [ascB, ← ih]; rfl
/-! ### slices -/
theorem sl_init {α : Type} (xs : List α) : (xs.drop (HT.sIx xs.length 0 none)).take (HT.sIx xs.length xs.length (some (-1)) - HT.sIx xs.length 0 none) = xs.dropLast := by
  have e0 : HT.sIx xs.length 0 none = 0 := rfl
  rw [e0, List.drop_zero, List.dropLast_eq_take]
  have e1 : HT.sIx xs.length xs.length (some (-1)) = xs.length - 1 := by
    unfold HT.sIx
    cases h : xs.length <;> simp <;> omega
  rw [e1]; simp
theorem sl_tail {α : Type} (xs : List α) : (xs.drop (HT.sIx xs.length 0 (some 1))).take (HT.sIx xs.length xs.length none - HT.sIx xs.length 0 (some 1)) = xs.tail := by
  have e0 : HT.sIx xs.length xs.length none = xs.length := rfl
  rw [e0]
  have e1 : HT.sIx xs.length 0 (some 1) = min 1 xs.length := by
    unfold HT.sIx
    cases h : xs.length <;> simp <;> omega
  rw [e1, ← List.drop_one]
  cases xs with
  | nil => rfl
  | cons a r => simp
@[simp] theorem gSl_init_str (l : List Nat) : gSl (.str (T l)) none (some (-1)) = some (.str (T l.dropLast)) := by
  have h := sl_init l
  show some (D.str (T ((l.drop (HT.sIx l.length 0 none)).take (HT.sIx l.length l.length (some (-1)) - HT.sIx l.length 0 none)))) = _
  rw [h]
@[simp] theorem gSl_tail_str (l : List Nat) : gSl (.str (T l)) (some 1) none = some (.str (T l.tail)) := by
  have h := sl_tail l
  show some (D.str (T ((l.drop (HT.sIx l.length 0 (some 1))).take (HT.sIx l.length l.length none - HT.sIx l.length 0 (some 1))))) = _
  rw [h]
@[simp] theorem gSl_init_tup (l : List D) : gSl (.tup l) none (some (-1)) = some (.tup l.dropLast) := congrArg (fun x => some (D.tup x)) (sl_init l)
@[simp] theorem gSl_tail_tup (l : List D) : gSl (.tup l) (some 1) none = some (.tup l.tail) := congrArg (fun x => some (D.tup x)) (sl_tail l)
theorem gLt_str (a b : List Nat) : gLt (dS a) (dS b) = some (.bl (decide (a < b))) := by
  show (if (okCmp (dS a) (dS b) && PySem.W.alike (.str (T a)) (.str (T b)) && notN (.str (T a))) = true then some (D.bl (PySem.W.dataLt (.str (T a)) (.str (T b)))) else none) = _
  rw [PySem.W.dataLt_str]
  rfl
theorem gLt_sgn (a b : Nat) : gLt (dC a) (dC b) = some (.bl (decide (a < b))) := by
  have h := gLt_str [a] [b]
  have e : decide ([a] < [b]) = decide (a < b) := by
    by_cases hab : a < b
    · rw [decide_eq_true hab, decide_eq_true (by exact List.Lex.rel hab)]
    · rw [decide_eq_false hab, decide_eq_false]
      intro z
      cases z with
      | rel q => exact hab q
      | cons q => cases q
  rw [e] at h
  exact h
theorem eqv_int (i j : Int) : PyData.eqv (.int i) (.int j) = decide (i = j) := by
  show (i == j) = _
  by_cases h : i = j
  · subst h; simp
  · rw [decide_eq_false h]; exact beq_eq_false_iff_ne.mpr h
@[simp] theorem gNe_int (i j : Int) : gNe (.int i) (.int j) = some (.bl (!decide (i = j))) := by
  show some (D.bl (!PyData.eqv (.int i) (.int j))) = _
  rw [eqv_int]
@[simp] theorem gEq_int (i j : Int) : gEq (.int i) (.int j) = some (.bl (decide (i = j))) := by
  show some (D.bl (PyData.eqv (.int i) (.int j))) = _
  rw [eqv_int]
theorem gNe_str (x y : Str) : gNe (.str x) (.str y) = some (.bl (!decide (x = y))) := by
  show some (D.bl (!PyData.eqv (.str x) (.str y))) = _
  rw [eqv_str]
theorem gEq_str (x y : Str) : gEq (.str x) (.str y) = some (.bl (decide (x = y))) := by
  show some (D.bl (PyData.eqv (.str x) (.str y))) = _
  rw [eqv_str]
@[simp] theorem gIx_2_0 (a b : D) : gIx (.tup [a, b]) (.int 0) = some a := rfl
@[simp] theorem gIx_2_1 (a b : D) : gIx (.tup [a, b]) (.int 1) = some b := rfl
@[simp] theorem gLen_tup (l : List D) : gLen [.tup l] = some (.int l.length) := rfl
@[simp] theorem gLen_lst (l : List D) : gLen [.lst l] = some (.int l.length) := rfl
@[simp] theorem gLen_str (l : List Nat) : gLen [.str (T l)] = some (.int l.length) := rfl
end DL
namespace DL
open PySem PySem.Spec PyProof.Rows L2 TL

/-! ### join, sorted of signs -/
theorem strsD_signs : ∀ l : List Nat, strsD (l.map dC) = some (l.map sgn)
  | [] => rfl
  | c :: l => by
    show (strsD (l.map dC)).map (sgn c :: ·) = _
    rw [strsD_signs l]; rfl
theorem join_signs : ∀ l : List Nat, Str.join (T []) (l.map sgn) = T l
  | [] => rfl
  | [c] => rfl
  | c :: d :: r => by
    have ih := join_signs (d :: r)
    show sgn c ++ T [] ++ Str.join (T []) ((d :: r).map sgn) = _
    rw [ih, sgn_T, T_app, T_app]; rfl
theorem sum_ones : ∀ l : List Nat, ((l.map sgn).map (·.length)).sum = l.length
  | [] => rfl
  | c :: l => by
    rw [List.map_cons, List.map_cons, List.sum_cons, sum_ones l, List.length_cons]
    show 1 + l.length = _
    omega
theorem gJoin_signs (l : List Nat) (h : l.length ≤ 16777216) : gJoin (.str "") [.lst (l.map dC)] = some (dS l) := by
  show ((strsD (l.map dC)).bind fun ys => if (ys.map (·.length)).sum + ys.length * (T []).length ≤ 16777216 then some (D.str (Str.join (T []) ys)) else none) = _
  rw [strsD_signs]
  show (if ((l.map sgn).map (·.length)).sum + (l.map sgn).length * 0 ≤ 16777216 then some (D.str (Str.join (T []) (l.map sgn))) else none) = _
  rw [sum_ones, if_pos (by omega), join_signs]; rfl
theorem dataLt_sgn (a b : Nat) : PySem.W.dataLt (dC a).py (dC b).py = decide (a < b) := by
  show PySem.W.dataLt (.str (sgn a)) (.str (sgn b)) = _
  rw [PySem.W.dataLt_str]
  show decide ([a] < [b]) = _
  by_cases hab : a < b
  · rw [decide_eq_true hab, decide_eq_true (by exact List.Lex.rel hab)]
  · rw [decide_eq_false hab, decide_eq_false]
    intro z
    cases z with
    | rel q => exact hab q
    | cons q => cases q
theorem leD_sgn (a b : Nat) : leD (dC a) (dC b) = decide (a ≤ b) := by
  show (!PySem.W.dataLt (dC b).py (dC a).py) = _
  rw [dataLt_sgn]
  by_cases h : a ≤ b
  · rw [decide_eq_true h, decide_eq_false (by omega)]; rfl
  · rw [decide_eq_false h, decide_eq_true (by omega)]; rfl
theorem okSort_signs (l : List Nat) : okSort (l.map dC) = true := by
  unfold okSort
  simp only [Bool.and_eq_true, Bool.or_eq_true, List.all_eq_true, List.mem_map]
  refine ⟨⟨⟨?_, ?_⟩, .inr ?_⟩, ?_⟩
  · rintro d ⟨c, _, rfl⟩; rfl
  · rintro d ⟨c, _, rfl⟩ e ⟨c', _, rfl⟩; rfl
  · rintro d ⟨c, _, rfl⟩; rfl
  · rintro d ⟨c, _, rfl⟩; rfl
def sortN (l : List Nat) : List Nat := l.mergeSort fun a b => decide (a ≤ b)
theorem gSorted_signs (l : List Nat) : gSorted [.lst (l.map dC)] = some (.lst ((sortN l).map dC)) := by
  show (if okSort (l.map dC) = true then some (D.lst ((l.map dC).mergeSort leD)) else none) = _
  rw [if_pos (okSort_signs l)]
  unfold sortN
  rw [List.map_mergeSort (s := leD) fun a _ b _ => (leD_sgn a b).symm]
theorem sortN_perm (l : List Nat) : (sortN l).Perm l := List.mergeSort_perm ..
theorem sortN_sorted (l : List Nat) : (sortN l).Pairwise (· ≤ ·) := by
  have h := List.pairwise_mergeSort (le := fun a b : Nat => decide (a ≤ b)) (fun a b c h1 h2 => by simp at *; omega) (fun a b => by simp; omega) l
  exact h.imp fun h => of_decide_eq_true h
theorem sortN_asc {l : List Nat} (h : l.Nodup) : (sortN l).Pairwise (· < ·) := by
  have h1 := sortN_sorted l
  have h2 : (sortN l).Nodup := (sortN_perm l).nodup_iff.mpr h
  exact (h1.and h2).imp fun ⟨a, b⟩ => by omega
theorem mem_sortN {l : List Nat} {x : Nat} : x ∈ sortN l ↔ x ∈ l := (sortN_perm l).mem_iff
/-- ascending lists with the same members are the same -/
theorem asc_ext : ∀ {a b : List Nat}, a.Pairwise (· < ·) → b.Pairwise (· < ·) → (∀ x, x ∈ a ↔ x ∈ b) → a = b
  | [], [], _, _, _ => rfl
  | [], y :: b, _, _, h => absurd ((h y).mpr List.mem_cons_self) (by simp)
  | x :: a, [], _, _, h => absurd ((h x).mp List.mem_cons_self) (by simp)
  | x :: a, y :: b, ha, hb, h => by
    rw [List.pairwise_cons] at ha hb
    have e : x = y := by
      rcases List.mem_cons.mp ((h x).mp List.mem_cons_self) with q | q
      · exact q
      · rcases List.mem_cons.mp ((h y).mpr List.mem_cons_self) with q2 | q2
        · exact q2.symm
        · have h1 := ha.1 y q2
          have h2 := hb.1 x q
          omega
    subst e
    rw [asc_ext ha.2 hb.2 fun z => ?_]
    constructor
    · intro hz
      rcases List.mem_cons.mp ((h z).mp (List.mem_cons_of_mem _ hz)) with q | q
      · have := ha.1 z hz; omega
      · exact q
    · intro hz
      rcases List.mem_cons.mp ((h z).mpr (List.mem_cons_of_mem _ hz)) with q | q
      · have := hb.1 z hz; omega
      · exact q
theorem ascB_iff : ∀ {l : List Nat}, ascB (fun a b => decide (a < b)) l = true ↔ l.Pairwise (· < ·)
  | [] => by simp [ascB]
  | [_] => by simp [ascB]
  | a :: b :: r => by
    rw [ascB, Bool.and_eq_true, ascB_iff (l := b :: r), List.pairwise_cons (a := a)]
    constructor
    · rintro ⟨h1, h2⟩
      have h1 := of_decide_eq_true h1
      refine ⟨fun x hx => ?_, h2⟩
      rcases List.mem_cons.mp hx with q | q
      · omega
      · have := (List.pairwise_cons.mp h2).1 x q; omega
    · rintro ⟨h1, h2⟩
      exact ⟨decide_eq_true (h1 b List.mem_cons_self), h2⟩
end DL
namespace DL
open PySem PySem.Spec PyProof.Rows L2 TL

/-! ### what a run comes to -/
def Ok {α : Type} (r : Res α) (Q : α → Prop) : Prop := ∃ a, r = .ok a ∧ Q a
section
variable {α β : Type} {r : Res α} {a : α} {f : α → Res β} {P Q : α → Prop} {R : β → Prop}
theorem Ok.ok (h : Q a) : Ok (.ok a) Q := ⟨a, rfl, h⟩
theorem Ok.of (e : r = .ok a) (h : Q a) : Ok r Q := ⟨a, e, h⟩
theorem Ok.bind (h : Ok r fun a => Ok (f a) R) : Ok (r.bind f) R := by
  obtain ⟨a, e, b, e2, q⟩ := h
  exact ⟨b, by rw [e]; exact e2, q⟩
theorem Ok.bindE (e : r = .ok a) (h : Ok (f a) R) : Ok (r.bind f) R := by
  rw [e]; exact h
theorem Ok.mono (h : Ok r P) (i : ∀ a, P a → Q a) : Ok r Q := by
  obtain ⟨a, e, p⟩ := h
  exact ⟨a, e, i a p⟩
/-- with what is wanted behind a name -/
theorem Ok.cps (h : ∀ P : α → Prop, (∀ a, Q a → P a) → Ok r P) : Ok r Q := h Q fun _ h => h
@[simp] theorem Ok_ok : Ok (.ok a) Q ↔ Q a := ⟨fun ⟨b, e, q⟩ => by cases e; exact q, Ok.ok⟩
end
section
variable {α : Type} {E E' E1 : Env} {t : BF} {s1 s2 body : SF} {fi : IF} {g : GF} {Q : Fl × Env → Prop} {b : Bool}
theorem seq_eq (h1 : s1 E = .ok (.nx, E')) (h2 : Ok (s2 E') Q) : Ok (sSeq s1 s2 E) Q := by
  rw [ap_sSeq, h1]; exact h2
theorem seq_ok (h1 : Ok (s1 E) fun p => p.1 = .nx ∧ Ok (s2 p.2) Q) : Ok (sSeq s1 s2 E) Q := by
  obtain ⟨⟨f, E'⟩, e, rfl, h⟩ := h1
  rw [ap_sSeq, e]; exact h
theorem if_ok (e : t E = .ok (b, E')) (h1 : b = true → Ok (s1 E') Q) (h2 : b = false → Ok (s2 E') Q) : Ok (sIf t s1 s2 E) Q := by
  rw [ap_sIf, e]
  cases b with
  | true => exact h1 rfl
  | false => exact h2 rfl
theorem if_no (e : t E = .ok (false, E')) (h2 : Ok (s2 E') Q) : Ok (sIf t s1 s2 E) Q := if_ok e (fun z => nomatch z) fun _ => h2
theorem if_yes (e : t E = .ok (true, E')) (h2 : Ok (s1 E') Q) : Ok (sIf t s1 s2 E) Q := if_ok e (fun _ => h2) fun z => nomatch z
/-- a loop over a list by what holds ahead of each item -/
theorem forL_ok (f : α → D) (Iv : List α → Env → Prop) (l : List α) (h0 : Iv l E)
    (step : ∀ a r E, Iv (a :: r) E → ∃ E1, g (f a) E = some E1 ∧ Ok (body E1) fun p => (p.1 = .nx ∨ p.1 = .ct) ∧ Iv r p.2)
    (fin : ∀ E, Iv [] E → Q (.nx, E)) : Ok (forL g body (l.map f) E) Q := by
  induction l generalizing E with
  | nil => exact Ok.ok (fin E h0)
  | cons a r ih =>
    obtain ⟨E1, e1, ⟨fl, E2⟩, e2, h, i⟩ := step a r E h0
    rw [List.map_cons, forL, e1]
    show Ok ((body E1).bind _) Q
    rw [e2]
    rcases h with h | h <;> (dsimp only at h; subst h; exact ih i)
/-- .. by what holds throughout -/
theorem forL_all (f : α → D) (I : Env → Prop) (l : List α) (h0 : I E)
    (step : ∀ a ∈ l, ∀ E, I E → ∃ E1, g (f a) E = some E1 ∧ Ok (body E1) fun p => (p.1 = .nx ∨ p.1 = .ct) ∧ I p.2)
    (fin : ∀ E, I E → Q (.nx, E)) : Ok (forL g body (l.map f) E) Q :=
  forL_ok f (fun r E => (∀ a ∈ r, a ∈ l) ∧ I E) l ⟨fun _ h => h, h0⟩ (fun a r E h => by
    obtain ⟨E1, e1, o⟩ := step a (h.1 a List.mem_cons_self) E h.2
    exact ⟨E1, e1, o.mono fun p h2 => ⟨h2.1, fun x hx => h.1 x (List.mem_cons_of_mem _ hx), h2.2⟩⟩) fun E h => fin E h.2
end
section
variable {α : Type} {E E' E1 : Env} {t : BF} {s1 s2 body : SF} {fi : IF} {g : GF} {Q : Fl × Env → Prop} {b : Bool}
theorem for_ok (f : α → D) (Iv : List α → Env → Prop) (l : List α) (e : fi E = .ok (l.map f, E')) (h0 : Iv l E')
    (step : ∀ a r E, Iv (a :: r) E → ∃ E1, g (f a) E = some E1 ∧ Ok (body E1) fun p => (p.1 = .nx ∨ p.1 = .ct) ∧ Iv r p.2)
    (fin : ∀ E, Iv [] E → Q (.nx, E)) : Ok (sFor fi g body E) Q := by
  rw [ap_sFor, e]; exact forL_ok f Iv l h0 step fin
theorem for_all (f : α → D) (I : Env → Prop) (l : List α) (e : fi E = .ok (l.map f, E')) (h0 : I E')
    (step : ∀ a ∈ l, ∀ E, I E → ∃ E1, g (f a) E = some E1 ∧ Ok (body E1) fun p => (p.1 = .nx ∨ p.1 = .ct) ∧ I p.2)
    (fin : ∀ E, I E → Q (.nx, E)) : Ok (sFor fi g body E) Q := by
  rw [ap_sFor, e]; exact forL_all f I l h0 step fin
theorem seq_for (f : α → D) (Iv : List α → Env → Prop) (l : List α) (e : fi E = .ok (l.map f, E')) (h0 : Iv l E')
    (step : ∀ a r E, Iv (a :: r) E → ∃ E1, g (f a) E = some E1 ∧ Ok (body E1) fun p => (p.1 = .nx ∨ p.1 = .ct) ∧ Iv r p.2)
    (fin : ∀ E, Iv [] E → Ok (s2 E) Q) : Ok (sSeq (sFor fi g body) s2 E) Q :=
  seq_ok (for_ok f Iv l e h0 step fun E h => ⟨rfl, fin E h⟩)
theorem seq_all (f : α → D) (I : Env → Prop) (l : List α) (e : fi E = .ok (l.map f, E')) (h0 : I E')
    (step : ∀ a ∈ l, ∀ E, I E → ∃ E1, g (f a) E = some E1 ∧ Ok (body E1) fun p => (p.1 = .nx ∨ p.1 = .ct) ∧ I p.2)
    (fin : ∀ E, I E → Ok (s2 E) Q) : Ok (sSeq (sFor fi g body) s2 E) Q :=
  seq_ok (for_all f I l e h0 step fun E h => ⟨rfl, fin E h⟩)
end
/-- a loop that may return -/
def foldE {σ α : Type} (st : σ → α → D ⊕ σ) : σ → List α → D ⊕ σ
  | s, [] => .inr s
  | s, a :: r => match st s a with
    | .inl d => .inl d
    | .inr s' => foldE st s' r
section
variable {α σ : Type} {E E' E1 : Env} {s1 s2 body : SF} {fi : IF} {g : GF} {Q : Fl × Env → Prop}
theorem forL_fold (f : α → D) (st : σ → α → D ⊕ σ) (I : List α → σ → Env → Prop) (l : List α) (s : σ) (h0 : I l s E)
    (step : ∀ a r s E, a ∈ l → I (a :: r) s E → ∃ E1, g (f a) E = some E1 ∧ Ok (body E1) fun p => match st s a with | .inr s' => (p.1 = .nx ∨ p.1 = .ct) ∧ I r s' p.2 | .inl d => p.1 = .rt d)
    (fin : match foldE st s l with | .inr s' => ∀ E, I [] s' E → Q (.nx, E) | .inl d => ∀ E, Q (.rt d, E)) : Ok (forL g body (l.map f) E) Q := by
  induction l generalizing E s with
  | nil => exact Ok.ok (fin E h0)
  | cons a r ih =>
    obtain ⟨E1, e1, ⟨fl, E2⟩, e2, h⟩ := step a r s E List.mem_cons_self h0
    rw [List.map_cons, forL, e1]
    show Ok ((body E1).bind _) Q
    rw [e2]
    rw [foldE] at fin
    cases e : st s a with
    | inl d =>
      rw [e] at h fin
      dsimp only at h fin
      subst h
      exact Ok.ok (fin E2)
    | inr s' =>
      rw [e] at h fin
      dsimp only at h fin
      have ih := ih (E := E2) s' h.2 (fun b r s E hb => step b r s E (List.mem_cons_of_mem _ hb)) fin
      rcases h.1 with h | h <;> (subst h; exact ih)
theorem for_fold (f : α → D) (st : σ → α → D ⊕ σ) (I : List α → σ → Env → Prop) (l : List α) (s : σ) (e : fi E = .ok (l.map f, E')) (h0 : I l s E')
    (step : ∀ a r s E, a ∈ l → I (a :: r) s E → ∃ E1, g (f a) E = some E1 ∧ Ok (body E1) fun p => match st s a with | .inr s' => (p.1 = .nx ∨ p.1 = .ct) ∧ I r s' p.2 | .inl d => p.1 = .rt d)
    (fin : match foldE st s l with | .inr s' => ∀ E, I [] s' E → Q (.nx, E) | .inl d => ∀ E, Q (.rt d, E)) : Ok (sFor fi g body E) Q := by
  rw [ap_sFor, e]; exact forL_fold f st I l s h0 step fin
theorem seq_fold (f : α → D) (st : σ → α → D ⊕ σ) (I : List α → σ → Env → Prop) (l : List α) (s : σ) (e : fi E = .ok (l.map f, E')) (h0 : I l s E')
    (step : ∀ a r s E, a ∈ l → I (a :: r) s E → ∃ E1, g (f a) E = some E1 ∧ Ok (body E1) fun p => match st s a with | .inr s' => (p.1 = .nx ∨ p.1 = .ct) ∧ I r s' p.2 | .inl d => p.1 = .rt d)
    (fin : match foldE st s l with | .inr s' => ∀ E, I [] s' E → Ok (s2 E) Q | .inl d => ∀ E, Q (.rt d, E)) : Ok (sSeq (sFor fi g body) s2 E) Q := by
  have h := for_fold (body := body) (g := g) (Q := fun p => match p.1 with | .nx => Ok (s2 p.2) Q | fl => Q (fl, p.2)) f st I l s e h0 step (by
    cases q : foldE st s l with
    | inl d => rw [q] at fin; exact fin
    | inr s' => rw [q] at fin; exact fin)
  rw [ap_sSeq]
  obtain ⟨⟨fl, E2⟩, e2, h⟩ := h
  rw [e2]
  cases fl with
  | nx => exact h
  | bk => exact Ok.ok h
  | ct => exact Ok.ok h
  | rt d => exact Ok.ok h
end
/-! comprehensions with a state -/
section
variable {α : Type} {vs : List Nat} {g : GF} {fc : BF} {fe : EF} {E0 E : Env} {Q : D × Env → Prop}
theorem compL_ok (f : α → D) (Iv : List α → List D → Env → Prop) (l : List α) (acc : List D) (h0 : Iv l acc E)
    (step : ∀ a r acc E, Iv (a :: r) acc E → ∃ E1, g (f a) (wipeE E vs) = some E1 ∧ Ok (fc E1) fun p => if p.1 = true then Ok (fe p.2) fun q => ∃ y, q.1 = .dat y ∧ Iv r (acc ++ [y]) (backE E0 q.2 vs) else Iv r acc (backE E0 p.2 vs))
    (fin : ∀ acc E, Iv [] acc E → Q (.lst acc, E)) : Ok (compL vs g fc fe E0 (l.map f) acc E) Q := by
  induction l generalizing acc E with
  | nil => exact Ok.ok (fin _ _ h0)
  | cons a r ih =>
    obtain ⟨E1, e1, ⟨b, E2⟩, e2, h⟩ := step a r acc E h0
    rw [List.map_cons, compL, e1]
    show Ok ((noErr (fc E1)).bind _) Q
    rw [e2]
    dsimp only at h
    cases b with
    | false => exact ih _ h
    | true =>
      rw [if_pos rfl] at h
      obtain ⟨⟨w, E3⟩, e3, y, hw, i⟩ := h
      dsimp only at hw
      subst hw
      show Ok ((noErr (fe E2)).bind _) Q
      rw [e3]
      exact ih _ i
/-- a comprehension that hands on some of the items: all of these are so (Pp), all that must be are there (Mm) -/
theorem compL_subM (f : α → D) (I : Env → Prop) (Pp Mm : α → Prop) (l : List α) (h0 : I E)
    (step : ∀ a ∈ l, ∀ E, I E → ∃ E1, g (f a) (wipeE E vs) = some E1 ∧ Ok (fc E1) fun p => I (backE E0 p.2 vs) ∧ (p.1 = true → fe p.2 = .ok (.dat (f a), p.2) ∧ Pp a) ∧ (p.1 = false → ¬ Mm a))
    (fin : ∀ (r : List α) E, r.Sublist l → (∀ a ∈ r, Pp a) → (∀ a ∈ l, Mm a → a ∈ r) → I E → Q (.lst (r.map f), E)) : Ok (compL vs g fc fe E0 (l.map f) [] E) Q := by
  refine compL_ok f (fun r acc E => (∃ d e, acc = d.map f ∧ l = e ++ r ∧ d.Sublist e ∧ (∀ a ∈ d, Pp a) ∧ ∀ a ∈ e, Mm a → a ∈ d) ∧ I E) l [] ⟨⟨[], [], rfl, rfl, List.Sublist.refl _, fun _ h => (by cases h), fun _ h => (by cases h)⟩, h0⟩ (fun a r acc E h => ?_) fun acc E h => ?_
  · obtain ⟨⟨d, e, rfl, hl, hs, hd, hM⟩, hi⟩ := h
    obtain ⟨E1, e1, o⟩ := step a (by rw [hl]; simp) E hi
    refine ⟨E1, e1, o.mono fun p h2 => ?_⟩
    obtain ⟨h2, h3, h5⟩ := h2
    by_cases hb : p.1 = true
    · rw [if_pos hb]
      obtain ⟨h3, h4⟩ := h3 hb
      refine Ok.of h3 ⟨_, rfl, ⟨d ++ [a], e ++ [a], by simp, by simpa using hl, hs.append (List.Sublist.refl _), fun x hx => ?_, fun x hx hm => ?_⟩, h2⟩
      · rcases List.mem_append.mp hx with z | z
        · exact hd x z
        · rw [List.mem_singleton.mp z]; exact h4
      · rcases List.mem_append.mp hx with z | z
        · exact List.mem_append_left _ (hM x z hm)
        · exact List.mem_append_right _ z
    · rw [if_neg hb]
      refine ⟨⟨d, e ++ [a], rfl, by simpa using hl, hs.trans (List.sublist_append_left _ _), hd, fun x hx hm => ?_⟩, h2⟩
      rcases List.mem_append.mp hx with z | z
      · exact hM x z hm
      · rw [List.mem_singleton.mp z] at hm
        exact absurd hm (h5 (by simpa using hb))
  · obtain ⟨⟨d, e, rfl, hl, hs, hd, hM⟩, hi⟩ := h
    rw [List.append_nil] at hl
    subst hl
    exact fin d E hs hd hM hi
/-- .. -/
theorem compL_sub (f : α → D) (I : Env → Prop) (Pp : α → Prop) (l : List α) (h0 : I E)
    (step : ∀ a ∈ l, ∀ E, I E → ∃ E1, g (f a) (wipeE E vs) = some E1 ∧ Ok (fc E1) fun p => I (backE E0 p.2 vs) ∧ (p.1 = true → fe p.2 = .ok (.dat (f a), p.2) ∧ Pp a))
    (fin : ∀ (r : List α) E, r.Sublist l → (∀ a ∈ r, Pp a) → I E → Q (.lst (r.map f), E)) : Ok (compL vs g fc fe E0 (l.map f) [] E) Q :=
  compL_subM f I Pp (fun _ => False) l h0 (fun a ha E h => by
    obtain ⟨E1, e1, o⟩ := step a ha E h
    exact ⟨E1, e1, o.mono fun p h => ⟨h.1, h.2, fun _ z => z⟩⟩) fun r E h1 h2 _ h4 => fin r E h1 h2 h4
end
/-! draws -/
theorem runK_ok {fb : SF} {n : Nat} {a q : Addr} {l : List Int} {b : Int} {ds : List D} {R : D → List Int → Int → Prop}
    (h : Ok (fb (.deck a q l b :: ds.map .dat ++ nos n)) fun p => ∃ d l' b' E, p = (.rt d, .deck a q l' b' :: E) ∧ R d l' b') : ∃ d l' b', runK fb n a q ⟨l, b⟩ ds = .ok (d, ⟨l', b'⟩) ∧ R d l' b' := by
  obtain ⟨p, e, d, l', b', E, rfl, r⟩ := h
  refine ⟨d, l', b', ?_, r⟩
  unfold runK
  rw [e]
  show outD a q d (.deck a q l' b' :: E) = _
  unfold outD deckOf
  simp
theorem runK_eq {fb : SF} {n : Nat} {a q : Addr} {l l' : List Int} {b b' : Int} {ds : List D} {d : D} {E : Env} (h : fb (.deck a q l b :: ds.map .dat ++ nos n) = .ok (.rt d, .deck a q l' b' :: E)) : runK fb n a q ⟨l, b⟩ ds = .ok (d, ⟨l', b'⟩) := by
  unfold runK
  rw [h]
  show outD a q d (.deck a q l' b' :: E) = _
  unfold outD deckOf
  simp
theorem Ok_bind {α β : Type} {r : Res α} {f : α → Res β} {R : β → Prop} : Ok (r.bind f) R ↔ Ok r fun a => Ok (f a) R := by
  refine ⟨fun ⟨b, e, h⟩ => ?_, Ok.bind⟩
  cases r with
  | ok a => exact ⟨a, rfl, b, e, h⟩
  | err _ _ => cases e
  | stuck => cases e
theorem runP_ok {fb : SF} {n : Nat} {ds : List D} {d : D} (h : Ok (fb (ds.map .dat ++ nos n)) fun p => p.1 = .rt d) : noErr (runP fb n ds) = .ok d := by
  obtain ⟨⟨f, E⟩, e, h⟩ := h
  dsimp only at h
  subst h
  unfold runP
  rw [e]; rfl
end DL
namespace DL
open PySem PySem.Spec PyProof.Rows L2 TL

/-! ### data of one kind -/
/-- plain, of this depth, equal just if the same -/
structure Enc {α : Type} [DecidableEq α] (f : α → D) (n : Nat) : Prop where
  plain : ∀ a, (f a).plain = true
  eq : ∀ a b, PyData.eqv (f a).py (f b).py = decide (a = b)
  dep : ∀ a, (f a).py.depth ≤ n
section
variable {α β : Type} [DecidableEq α] [DecidableEq β] {f : α → D} {g : β → D} {n m : Nat}
theorem Enc.str : Enc D.str 0 := ⟨fun _ => rfl, eqv_str, fun _ => Nat.le_refl _⟩
theorem Enc.int : Enc D.int 0 := ⟨fun _ => rfl, eqv_int, fun _ => Nat.le_refl _⟩
theorem Enc.dS : Enc dS 0 := ⟨fun _ => rfl, fun a b => by
  show PyData.eqv (.str (T a)) (.str (T b)) = _
  rw [eqv_str]
  exact decide_eq_decide.mpr T_inj, fun _ => Nat.le_refl _⟩
theorem Enc.dC : Enc dC 0 := ⟨fun _ => rfl, fun a b => by
  show PyData.eqv (.str (T [a])) (.str (T [b])) = _
  rw [eqv_str]
  refine decide_eq_decide.mpr (T_inj.trans ?_)
  simp, fun _ => Nat.le_refl _⟩
theorem Enc.of {γ : Type} [DecidableEq γ] (e : Enc f n) (h : γ → α) (inj : ∀ a b, h a = h b → a = b) : Enc (fun c => f (h c)) n := ⟨fun _ => e.plain _, fun a b => by
  rw [e.eq]
  exact decide_eq_decide.mpr ⟨inj a b, congrArg h⟩, fun _ => e.dep _⟩
theorem Enc.nat : Enc (fun i : Nat => D.int i) 0 := Enc.of Enc.int (fun i : Nat => (i : Int)) fun a b h => by omega
theorem Enc.plainL (e : Enc f n) : ∀ l : List α, plainL (l.map f) = true
  | [] => rfl
  | a :: l => by
    show ((f a).plain && DL.plainL (l.map f)) = true
    rw [e.plain, e.plainL l]; rfl
theorem Enc.eqvAll (e : Enc f n) : ∀ a b : List α, PyData.eqvAll (pyL (a.map f)) (pyL (b.map f)) = decide (a = b)
  | [], [] => rfl
  | x :: a, [] => rfl
  | [], y :: b => rfl
  | x :: a, y :: b => by
    show (PyData.eqv (f x).py (f y).py && PyData.eqvAll (pyL (a.map f)) (pyL (b.map f))) = _
    rw [e.eq, e.eqvAll a b, ← Bool.decide_and]
    exact decide_eq_decide.mpr (by simp)
theorem Enc.depL (e : Enc f n) : ∀ l : List α, PyData.depthAll (pyL (l.map f)) ≤ n
  | [] => Nat.zero_le _
  | a :: l => Nat.max_le.mpr ⟨e.dep a, e.depL l⟩
theorem Enc.lst (e : Enc f n) : Enc (fun l : List α => D.lst (l.map f)) (n + 1) := ⟨fun l => e.plainL l, fun a b => e.eqvAll a b, fun l => Nat.succ_le_succ (e.depL l)⟩
theorem Enc.tup (e : Enc f n) : Enc (fun l : List α => D.tup (l.map f)) (n + 1) := ⟨fun l => e.plainL l, fun a b => e.eqvAll a b, fun l => Nat.succ_le_succ (e.depL l)⟩
theorem Enc.pair (e : Enc f n) (e' : Enc g m) : Enc (fun p : α × β => D.tup [f p.1, g p.2]) (max n m + 1) := ⟨fun p => by
    show ((f p.1).plain && ((g p.2).plain && true)) = true
    rw [e.plain, e'.plain]; rfl, fun a b => by
    show (PyData.eqv (f a.1).py (f b.1).py && (PyData.eqv (g a.2).py (g b.2).py && true)) = _
    rw [e.eq, e'.eq, Bool.and_true, ← Bool.decide_and]
    exact decide_eq_decide.mpr Prod.ext_iff.symm, fun p => by
    show max (f p.1).py.depth (max (g p.2).py.depth 0) + 1 ≤ _
    have h1 := e.dep p.1
    have h2 := e'.dep p.2
    omega⟩
theorem Enc.gEq (e : Enc f n) (a b : α) (hn : n ≤ 60 := by decide) : gEq (f a) (f b) = some (.bl (decide (a = b))) := by
  unfold DL.gEq okCmp
  rw [e.plain, e.plain, e.eq, if_pos]
  rw [Bool.and_self, Bool.true_and, decide_eq_true_eq]
  have h := e.dep a
  omega
theorem Enc.gNe (e : Enc f n) (a b : α) (hn : n ≤ 60 := by decide) : gNe (f a) (f b) = some (.bl (!decide (a = b))) := by
  unfold DL.gNe okCmp
  rw [e.plain, e.plain, e.eq, if_pos]
  rw [Bool.and_self, Bool.true_and, decide_eq_true_eq]
  have h := e.dep a
  omega
theorem Enc.any (e : Enc f n) (a : α) : ∀ l : List α, ((pyL (l.map f)).any fun y => PyData.eqv y (f a).py) = decide (a ∈ l)
  | [] => rfl
  | x :: l => by
    show (PyData.eqv (f x).py (f a).py || (pyL (l.map f)).any fun y => PyData.eqv y (f a).py) = _
    rw [e.eq, e.any a l, ← Bool.decide_or]
    refine decide_eq_decide.mpr ?_
    rw [List.mem_cons, eq_comm]
theorem gInQ_lst (neg : Bool) (ds : List D) : ∀ d : D, gInQ neg d (.lst ds) = if (d.plain && DL.plainL ds && decide (min (PyData.depthAll (pyL ds)) d.py.depth ≤ 60)) = true then some (.bl (if neg then !((pyL ds).any fun y => PyData.eqv y d.py) else (pyL ds).any fun y => PyData.eqv y d.py)) else none
  | .non => rfl | .bl _ => rfl | .int _ => rfl | .str _ => rfl | .lst _ => rfl | .tup _ => rfl | .dic _ => rfl | .dit _ => rfl | .obj _ _ => rfl
theorem gInQ_tup (neg : Bool) (ds : List D) : ∀ d : D, gInQ neg d (.tup ds) = if (d.plain && DL.plainL ds && decide (min (PyData.depthAll (pyL ds)) d.py.depth ≤ 60)) = true then some (.bl (if neg then !((pyL ds).any fun y => PyData.eqv y d.py) else (pyL ds).any fun y => PyData.eqv y d.py)) else none
  | .non => rfl | .bl _ => rfl | .int _ => rfl | .str _ => rfl | .lst _ => rfl | .tup _ => rfl | .dic _ => rfl | .dit _ => rfl | .obj _ _ => rfl
theorem Enc.gIn_lst (e : Enc f n) (neg : Bool) (a : α) (l : List α) (hn : n ≤ 60 := by decide) : gInQ neg (f a) (.lst (l.map f)) = some (.bl (if neg then !decide (a ∈ l) else decide (a ∈ l))) := by
  rw [gInQ_lst, e.plain, e.plainL, e.any, if_pos]
  rw [Bool.and_self, Bool.true_and, decide_eq_true_eq]
  have h := e.dep a
  omega
theorem Enc.gIn_tup (e : Enc f n) (neg : Bool) (a : α) (l : List α) (hn : n ≤ 60 := by decide) : gInQ neg (f a) (.tup (l.map f)) = some (.bl (if neg then !decide (a ∈ l) else decide (a ∈ l))) := by
  rw [gInQ_tup, e.plain, e.plainL, e.any, if_pos]
  rw [Bool.and_self, Bool.true_and, decide_eq_true_eq]
  have h := e.dep a
  omega
/-- a list against the empty one -/
theorem gEq_nil {l : List D} (h : DL.plainL l = true) : DL.gEq (.lst l) (.lst []) = some (.bl l.isEmpty) := by
  unfold DL.gEq okCmp
  rw [if_pos]
  · cases l <;> rfl
  · have : min (D.lst l).py.depth (D.lst []).py.depth ≤ 60 := Nat.le_trans (Nat.min_le_right _ _) (by decide)
    rw [decide_eq_true this]
    show (DL.plainL l && true && true) = true
    rw [h]; rfl
theorem gNe_nil {l : List D} (h : DL.plainL l = true) : DL.gNe (.lst l) (.lst []) = some (.bl (!l.isEmpty)) := by
  unfold DL.gNe okCmp
  rw [if_pos]
  · cases l <;> rfl
  · have : min (D.lst l).py.depth (D.lst []).py.depth ≤ 60 := Nat.le_trans (Nat.min_le_right _ _) (by decide)
    rw [decide_eq_true this]
    show (DL.plainL l && true && true) = true
    rw [h]; rfl
end
/-! ### items -/
theorem atI_nat {α : Type} (xs : List α) (i : Nat) : atI xs (i : Int) = xs[i]? := by
  unfold atI ixN
  rw [if_pos (Int.natCast_nonneg i)]
  by_cases h : i < xs.length
  · rw [if_pos (by omega)]; rfl
  · rw [if_neg (by omega), List.getElem?_eq_none (by omega)]; rfl
theorem gIx_tup_nat (l : List D) (i : Nat) : gIx (.tup l) (.int i) = l[i]? := atI_nat l i
theorem gIx_lst_nat (l : List D) (i : Nat) : gIx (.lst l) (.int i) = l[i]? := atI_nat l i
theorem gIx_str_nat (l : List Nat) (i : Nat) : gIx (dS l) (.int i) = (l[i]?).map dC := by
  show ((atI l i).map fun c => D.str (sgn c)) = _
  rw [atI_nat]; rfl
/-! ### repr -/
structure Shw (d : D) (n m : Nat) : Prop where
  plain : d.plain = true
  short : d.py.leavesShort 700 = true
  show_ : d.py.showable = true
  bulk : d.py.bulk ≤ n
  dep : d.py.depth ≤ m
structure Shws (d : List D) (n m : Nat) : Prop where
  plain : plainL d = true
  short : PyData.leavesShortAll 700 (pyL d) = true
  show_ : PyData.showableAll (pyL d) = true
  bulk : PyData.bulkAll (pyL d) ≤ n
  dep : PyData.depthAll (pyL d) ≤ m
theorem Shw.str {l : List Nat} {n : Nat} (h : ∀ c ∈ l, c < 1114112) (hn : l.length ≤ n) : Shw (dS l) n 0 := ⟨rfl, by
  show (l.all fun c => decide (c < 16 ^ 8)) = true
  rw [List.all_eq_true]
  intro c hc
  have := h c hc
  exact decide_eq_true (by omega), rfl, hn, Nat.le_refl _⟩
theorem Shw.bl (b : Bool) : Shw (.bl b) 0 0 := ⟨rfl, rfl, rfl, Nat.le_refl _, Nat.le_refl _⟩
theorem Shw.non : Shw .non 0 0 := ⟨rfl, rfl, rfl, Nat.le_refl _, Nat.le_refl _⟩
/-- an int of at most 100 digits -/
def I100 (i : Int) : Prop := i.natAbs < 10 ^ 100
theorem Shw.int {i : Int} (h : I100 i) : Shw (.int i) 0 0 := ⟨rfl, by
    have e := int_text_length_le10 (k := 100) (by decide) h
    show decide ((Str.ofString (toString i)).length ≤ 700) = true
    rw [PySem.ofString_length]
    exact decide_eq_true (by omega), by
    show decide (i.natAbs.log2 < 1920) = true
    refine decide_eq_true ?_
    by_cases hz : i.natAbs = 0
    · rw [hz]; decide
    · rw [Nat.log2_lt hz]
      have : (10 : Nat) ^ 100 < 2 ^ 1920 := by decide +kernel
      exact Nat.lt_trans h this, Nat.le_refl _, Nat.le_refl _⟩
theorem I100.nat {i : Nat} (h : i < 1000000) : I100 (i : Int) := by
  show (i : Int).natAbs < 10 ^ 100
  have e : (i : Int).natAbs = i := rfl
  rw [e]
  exact Nat.lt_trans h (by decide +kernel)
theorem Shw.nat {i : Nat} (h : i < 1000000) : Shw (.int (i : Int)) 0 0 := Shw.int (I100.nat h)
theorem Shws.nil : Shws [] 0 0 := ⟨rfl, rfl, rfl, Nat.le_refl _, Nat.le_refl _⟩
theorem Shws.cons {d : D} {ds : List D} {n m n' m' : Nat} (h : Shw d n m) (h' : Shws ds n' m') : Shws (d :: ds) (n + 1 + n') (max m m') := ⟨by
    show (d.plain && plainL ds) = true
    rw [h.plain, h'.plain]; rfl, by
    show (PyData.leavesShort 700 d.py && PyData.leavesShortAll 700 (pyL ds)) = true
    rw [h.short, h'.short]; rfl, by
    show (PyData.showable d.py && PyData.showableAll (pyL ds)) = true
    rw [h.show_, h'.show_]; rfl, by
    show d.py.bulk + 1 + PyData.bulkAll (pyL ds) ≤ _
    have := h.bulk
    have := h'.bulk
    omega, by
    show max d.py.depth (PyData.depthAll (pyL ds)) ≤ _
    have := h.dep
    have := h'.dep
    omega⟩
theorem Shws.map {α : Type} {f : α → D} {n m : Nat} : ∀ {l : List α}, (∀ a ∈ l, Shw (f a) n m) → Shws (l.map f) (l.length * (n + 1)) m
  | [], _ => ⟨rfl, rfl, rfl, Nat.zero_le _, Nat.zero_le _⟩
  | a :: l, h => by
    have h1 := Shws.cons (h a List.mem_cons_self) (Shws.map (l := l) fun b hb => h b (List.mem_cons_of_mem _ hb))
    refine ⟨h1.plain, h1.short, h1.show_, Nat.le_trans h1.bulk ?_, Nat.le_trans h1.dep (by omega)⟩
    rw [List.length_cons, Nat.succ_mul]
    omega
theorem Shws.lst {ds : List D} {n m : Nat} (h : Shws ds n m) : Shw (.lst ds) n (m + 1) := ⟨h.plain, h.short, h.show_, h.bulk, Nat.succ_le_succ h.dep⟩
theorem Shws.tup {ds : List D} {n m : Nat} (h : Shws ds n m) : Shw (.tup ds) n (m + 1) := ⟨h.plain, h.short, h.show_, h.bulk, Nat.succ_le_succ h.dep⟩
theorem Shw.le {d : D} {n m n' m' : Nat} (h : Shw d n m) (hn : n ≤ n') (hm : m ≤ m') : Shw d n' m' := ⟨h.plain, h.short, h.show_, Nat.le_trans h.bulk hn, Nat.le_trans h.dep hm⟩
theorem Shw.repr {d : D} {n m : Nat} (h : Shw d n m) (hn : n ≤ 20000) (hm : m ≤ 60) : gRepr [d] = some (.str d.py.shown) := by
  have h1 := PyData.shown_le_bulk 700 (by decide) d.py h.short
  have hb := h.bulk
  have hd := h.dep
  have h2 : d.py.shown.length ≤ sizeLine := by
    have : sizeLine = 16777216 := rfl
    omega
  show (if okShow d = true then some (D.str d.py.shown) else none) = _
  rw [if_pos]
  unfold okShow
  rw [h.plain, h.show_, decide_eq_true h2, decide_eq_true (show d.py.depth ≤ 60 by omega)]
  rfl
mutual
theorem eqv_refl : ∀ d : D, d.plain = true → PyData.eqv d.py d.py = true
  | .non, _ => rfl
  | .bl b, _ => by show (b == b) = true; exact beq_self_eq_true b
  | .int i, _ => by show (i == i) = true; exact beq_self_eq_true i
  | .str x, _ => by rw [D.py, eqv_str]; simp
  | .lst l, h => eqvAll_refl l h
  | .tup l, h => eqvAll_refl l h
  | .dic _, h => by cases h
  | .dit _, h => by cases h
  | .obj _ _, h => by cases h
theorem eqvAll_refl : ∀ l : List D, plainL l = true → PyData.eqvAll (pyL l) (pyL l) = true
  | [], _ => rfl
  | d :: l, h => by
    have h : (d.plain && plainL l) = true := h
    rw [Bool.and_eq_true] at h
    show (PyData.eqv d.py d.py && PyData.eqvAll (pyL l) (pyL l)) = true
    rw [eqv_refl d h.1, eqvAll_refl l h.2]; rfl
end
theorem Shw.gEq {d : D} {n m : Nat} (h : Shw d n m) (hm : m ≤ 60) : gEq d d = some (.bl true) := by
  have := h.dep
  unfold DL.gEq okCmp
  rw [h.plain, eqv_refl d h.plain, if_pos]
  rw [Bool.and_self, Bool.true_and, decide_eq_true_eq]; omega
theorem Shw.gNe {d : D} {n m : Nat} (h : Shw d n m) (hm : m ≤ 60) : gNe d d = some (.bl false) := by
  have := h.dep
  unfold DL.gNe okCmp
  rw [h.plain, eqv_refl d h.plain, if_pos]
  · rfl
  rw [Bool.and_self, Bool.true_and, decide_eq_true_eq]; omega
theorem gNe_same (x : Str) : gNe (.str x) (.str x) = some (.bl false) := by
  rw [gNe_str, decide_eq_true rfl]; rfl
/-! ### lists of values -/
theorem dats_app : ∀ (l : List D) (ws : List W), dats (l.map W.dat ++ ws) = (dats ws).map (l ++ ·)
  | [], ws => by simp
  | d :: l, ws => by
    show (dats (l.map W.dat ++ ws)).map (d :: ·) = _
    rw [dats_app l ws]
    cases dats ws <;> rfl
theorem small_ok {l : List D} {r : Option D} (h : l.length ≤ 1000) : small l r = r := if_pos h
end DL
namespace DL
open PySem PySem.Spec PyProof.Rows L2 TL
/-! ### strict orders -/
structure Ordr {α : Type} (lt : α → α → Bool) : Prop where
  irr : ∀ a, lt a a = false
  tr : ∀ a b c, lt a b = true → lt b c = true → lt a c = true
  tri : ∀ a b, lt a b = true ∨ a = b ∨ lt b a = true
section
variable {α β : Type} {lt : α → α → Bool} {lt2 : β → β → Bool}
theorem Ordr.asym (o : Ordr lt) {a b : α} (h : lt a b = true) : lt b a = false := by
  cases e : lt b a with
  | false => rfl
  | true => have := o.tr a b a h e; rw [o.irr] at this; cases this
theorem Ordr.ne (o : Ordr lt) {a b : α} (h : lt a b = true) : a ≠ b := fun e => by rw [e, o.irr] at h; cases h
def leB (lt : α → α → Bool) (a b : α) : Bool := !lt b a
theorem Ordr.letr (o : Ordr lt) (a b c : α) (h1 : leB lt a b = true) (h2 : leB lt b c = true) : leB lt a c = true := by
  unfold leB at *
  rw [Bool.not_eq_true'] at *
  cases e : lt c a with
  | false => rfl
  | true =>
    rcases o.tri b c with q | q | q
    · rw [o.tr b c a q e] at h1; cases h1
    · rw [q, e] at h1; cases h1
    · rw [q] at h2; cases h2
theorem Ordr.letot (o : Ordr lt) (a b : α) : (leB lt a b || leB lt b a) = true := by
  unfold leB
  cases e : lt b a with
  | false => rfl
  | true => rw [o.asym e]; rfl
theorem Ordr.leanti (o : Ordr lt) {a b : α} (h1 : leB lt a b = true) (h2 : leB lt b a = true) : a = b := by
  unfold leB at *
  rw [Bool.not_eq_true'] at *
  rcases o.tri a b with q | q | q
  · rw [q] at h2; cases h2
  · exact q
  · rw [q] at h1; cases h1
def sortB (lt : α → α → Bool) (l : List α) : List α := l.mergeSort (leB lt)
theorem sortB_perm (l : List α) : (sortB lt l).Perm l := List.mergeSort_perm ..
theorem mem_sortB {l : List α} {x : α} : x ∈ sortB lt l ↔ x ∈ l := (sortB_perm l).mem_iff
theorem sortB_len (l : List α) : (sortB lt l).length = l.length := (sortB_perm l).length_eq
theorem Ordr.sorted (o : Ordr lt) (l : List α) : (sortB lt l).Pairwise fun a b => leB lt a b = true := List.pairwise_mergeSort o.letr o.letot l
theorem Ordr.asc (o : Ordr lt) {l : List α} (h : l.Nodup) : (sortB lt l).Pairwise fun a b => lt a b = true := by
  have h2 : (sortB lt l).Nodup := (sortB_perm l).nodup_iff.mpr h
  exact ((o.sorted l).and h2).imp fun {x y} ⟨a, b⟩ => by
    unfold leB at a
    rw [Bool.not_eq_true'] at a
    rcases o.tri x y with q | q | q
    · exact q
    · exact absurd q b
    · rw [q] at a; cases a
theorem Ordr.nodup (o : Ordr lt) {l : List α} (h : l.Pairwise fun a b => lt a b = true) : l.Nodup := h.imp fun q => o.ne q
/-- ascending lists with the same members are the same -/
theorem Ordr.ext (o : Ordr lt) : ∀ {a b : List α}, (a.Pairwise fun a b => lt a b = true) → (b.Pairwise fun a b => lt a b = true) → (∀ x, x ∈ a ↔ x ∈ b) → a = b
  | [], [], _, _, _ => rfl
  | [], y :: b, _, _, h => absurd ((h y).mpr List.mem_cons_self) (by simp)
  | x :: a, [], _, _, h => absurd ((h x).mp List.mem_cons_self) (by simp)
  | x :: a, y :: b, ha, hb, h => by
    rw [List.pairwise_cons] at ha hb
    have e : x = y := by
      rcases List.mem_cons.mp ((h x).mp List.mem_cons_self) with q | q
      · exact q
      · rcases List.mem_cons.mp ((h y).mpr List.mem_cons_self) with q2 | q2
        · exact q2.symm
        · have h1 := ha.1 y q2
          have h2 := hb.1 x q
          rw [o.asym h1] at h2; cases h2
    subst e
    rw [o.ext ha.2 hb.2 fun z => ?_]
    constructor
    · intro hz
      rcases List.mem_cons.mp ((h z).mp (List.mem_cons_of_mem _ hz)) with q | q
      · exact absurd q.symm (o.ne (ha.1 z hz))
      · exact q
    · intro hz
      rcases List.mem_cons.mp ((h z).mpr (List.mem_cons_of_mem _ hz)) with q | q
      · exact absurd q.symm (o.ne (hb.1 z hz))
      · exact q
/-- sorted lists of the same items are the same -/
theorem Ordr.extP (o : Ordr lt) : ∀ {a b : List α}, (a.Pairwise fun a b => leB lt a b = true) → (b.Pairwise fun a b => leB lt a b = true) → a.Perm b → a = b
  | [], b, _, _, p => (List.nil_perm.mp p).symm
  | x :: a, [], _, _, p => absurd (List.perm_nil.mp p) (by simp)
  | x :: a, y :: b, ha, hb, p => by
    rw [List.pairwise_cons] at ha hb
    have e : x = y := by
      rcases List.mem_cons.mp (p.mem_iff.mp (List.mem_cons_self (a := x) (l := a))) with q | q
      · exact q
      · rcases List.mem_cons.mp (p.mem_iff.mpr (List.mem_cons_self (a := y) (l := b))) with q2 | q2
        · exact q2.symm
        · exact o.leanti (ha.1 y q2) (hb.1 x q)
    subst e
    rw [o.extP ha.2 hb.2 ((List.perm_cons x).mp p)]
theorem Ordr.sort_eq (o : Ordr lt) {l m : List α} (p : l.Perm m) : sortB lt l = sortB lt m :=
  o.extP (o.sorted l) (o.sorted m) ((sortB_perm l).trans (p.trans (sortB_perm m).symm))
theorem Ordr.sort_asc (o : Ordr lt) {l : List α} (h : l.Pairwise fun a b => lt a b = true) : sortB lt l = l :=
  o.extP (o.sorted l) (h.imp fun q => by unfold leB; rw [o.asym q]; rfl) (sortB_perm l)
theorem Ordr.ascB (o : Ordr lt) : ∀ {l : List α}, ascB lt l = true ↔ l.Pairwise fun a b => lt a b = true
  | [] => by simp [DL.ascB]
  | [_] => by simp [DL.ascB]
  | a :: b :: r => by
    rw [DL.ascB, Bool.and_eq_true, o.ascB (l := b :: r), List.pairwise_cons (a := a)]
    constructor
    · rintro ⟨h1, h2⟩
      refine ⟨fun x hx => ?_, h2⟩
      rcases List.mem_cons.mp hx with q | q
      · rw [q]; exact h1
      · exact o.tr a b x h1 ((List.pairwise_cons.mp h2).1 x q)
    · rintro ⟨h1, h2⟩
      exact ⟨h1 b List.mem_cons_self, h2⟩
def ltN (a b : Nat) : Bool := decide (a < b)
theorem ordN : Ordr ltN := ⟨fun a => by simp [ltN], fun a b c => by simp only [ltN, decide_eq_true_eq]; omega, fun a b => by simp only [ltN, decide_eq_true_eq]; omega⟩
def ltI (a b : Int) : Bool := decide (a < b)
theorem ordI : Ordr ltI := ⟨fun a => by simp [ltI], fun a b c => by simp only [ltI, decide_eq_true_eq]; omega, fun a b => by simp only [ltI, decide_eq_true_eq]; omega⟩
def lexB [DecidableEq α] (lt : α → α → Bool) (lt2 : β → β → Bool) (p q : α × β) : Bool := if p.1 = q.1 then lt2 p.2 q.2 else lt p.1 q.1
theorem ordX [DecidableEq α] (o : Ordr lt) (o2 : Ordr lt2) : Ordr (lexB lt lt2) := by
  refine ⟨fun a => by simp [lexB, o2.irr], fun a b c h1 h2 => ?_, fun a b => ?_⟩
  · unfold lexB at *
    by_cases e1 : a.1 = b.1
    · by_cases e2 : b.1 = c.1
      · rw [if_pos e1] at h1
        rw [if_pos e2] at h2
        rw [if_pos (e1.trans e2)]
        exact o2.tr _ _ _ h1 h2
      · rw [if_neg e2] at h2
        rw [if_neg (fun e => e2 (e1.symm.trans e)), e1]; exact h2
    · rw [if_neg e1] at h1
      by_cases e2 : b.1 = c.1
      · rw [if_neg (fun e => e1 (e.trans e2.symm)), ← e2]; exact h1
      · rw [if_neg e2] at h2
        have := o.tr _ _ _ h1 h2
        rw [if_neg (o.ne this)]; exact this
  · unfold lexB
    by_cases e : a.1 = b.1
    · rw [if_pos e, if_pos e.symm]
      rcases o2.tri a.2 b.2 with q | q | q
      · exact .inl q
      · exact .inr (.inl (Prod.ext e q))
      · exact .inr (.inr q)
    · rw [if_neg e, if_neg (Ne.symm e)]
      rcases o.tri a.1 b.1 with q | q | q
      · exact .inl q
      · exact absurd q e
      · exact .inr (.inr q)
/-- lists, item by item -/
def lexL (lt : α → α → Bool) : List α → List α → Bool
  | _, [] => false
  | [], _ :: _ => true
  | a :: r, b :: s => lt a b || (!lt b a && lexL lt r s)
theorem lexL_irr (o : Ordr lt) : ∀ a, lexL lt a a = false
  | [] => rfl
  | a :: r => by simp [lexL, o.irr, lexL_irr o r]
theorem lexL_tr (o : Ordr lt) : ∀ a b c, lexL lt a b = true → lexL lt b c = true → lexL lt a c = true
  | _, b, [], h1, h2 => by cases b <;> simp [lexL] at h2
  | [], b, _ :: _, h1, h2 => rfl
  | _ :: _, [], _ :: _, h1, h2 => by simp [lexL] at h1
  | x :: r, y :: s, z :: t, h1, h2 => by
    simp only [lexL, Bool.or_eq_true, Bool.and_eq_true, Bool.not_eq_true'] at *
    rcases h1 with h1 | ⟨h1, h1'⟩
    · rcases h2 with h2 | ⟨h2, h2'⟩
      · exact .inl (o.tr _ _ _ h1 h2)
      · rcases o.tri y z with q | q | q
        · exact .inl (o.tr _ _ _ h1 q)
        · rw [← q]; exact .inl h1
        · rw [q] at h2; cases h2
    · rcases o.tri x y with q | q | q
      · rcases h2 with h2 | ⟨h2, h2'⟩
        · exact .inl (o.tr _ _ _ q h2)
        · rcases o.tri y z with q' | q' | q'
          · exact .inl (o.tr _ _ _ q q')
          · rw [← q']; exact .inl q
          · rw [q'] at h2; cases h2
      · subst q
        rcases h2 with h2 | ⟨h2, h2'⟩
        · exact .inl h2
        · exact .inr ⟨h2, lexL_tr o r s t h1' h2'⟩
      · rw [q] at h1; cases h1
theorem lexL_tri (o : Ordr lt) : ∀ a b, lexL lt a b = true ∨ a = b ∨ lexL lt b a = true
  | [], [] => .inr (.inl rfl)
  | [], _ :: _ => .inl rfl
  | _ :: _, [] => .inr (.inr rfl)
  | x :: r, y :: s => by
    simp only [lexL, Bool.or_eq_true, Bool.and_eq_true, Bool.not_eq_true']
    rcases o.tri x y with q | q | q
    · exact .inl (.inl q)
    · subst q
      rcases lexL_tri o r s with q | q | q
      · exact .inl (.inr ⟨o.irr _, q⟩)
      · exact .inr (.inl (by rw [q]))
      · exact .inr (.inr (.inr ⟨o.irr _, q⟩))
    · exact .inr (.inr (.inl q))
theorem ordL (o : Ordr lt) : Ordr (lexL lt) := ⟨lexL_irr o, lexL_tr o, lexL_tri o⟩
theorem lexN : ∀ a b : List Nat, decide (a < b) = lexL ltN a b
  | _, [] => by simp [lexL]
  | [], _ :: _ => by simp [lexL]
  | a :: r, b :: s => by
    rw [lexL, ← lexN r s]
    unfold ltN
    rw [Bool.eq_iff_iff]
    simp only [decide_eq_true_eq, Bool.or_eq_true, Bool.and_eq_true, Bool.not_eq_true', decide_eq_false_iff_not, List.cons_lt_cons_iff]
    constructor
    · rintro (h | ⟨h, h2⟩)
      · exact .inl h
      · exact .inr ⟨by omega, h2⟩
    · rintro (h | ⟨h, h2⟩)
      · exact .inl h
      · by_cases z : a < b
        · exact .inl z
        · exact .inr ⟨by omega, h2⟩
theorem lexI : ∀ a b : List Int, decide (a < b) = lexL ltI a b
  | _, [] => by simp [lexL]
  | [], _ :: _ => by simp [lexL]
  | a :: r, b :: s => by
    rw [lexL, ← lexI r s]
    unfold ltI
    rw [Bool.eq_iff_iff]
    simp only [decide_eq_true_eq, Bool.or_eq_true, Bool.and_eq_true, Bool.not_eq_true', decide_eq_false_iff_not, List.cons_lt_cons_iff]
    constructor
    · rintro (h | ⟨h, h2⟩)
      · exact .inl h
      · exact .inr ⟨by omega, h2⟩
    · rintro (h | ⟨h, h2⟩)
      · exact .inl h
      · by_cases z : a < b
        · exact .inl z
        · exact .inr ⟨by omega, h2⟩
end
end DL
namespace DL
open PySem PySem.Spec PyProof.Rows L2 TL
/-! ### data in order -/
structure EncO {α : Type} (f : α → D) (lt : α → α → Bool) : Prop where
  alike : ∀ a b, PySem.W.alike (f a).py (f b).py = true
  lt : ∀ a b, PySem.W.dataLt (f a).py (f b).py = lt a b
  some : ∀ a, notN (f a).py = true
/-- no tuple: sorted as they are -/
def noTup (d : D) : Bool := match d.py with
  | .tuple _ => false
  | .none => false
  | _ => true
def fullTup (d : D) : Bool := match d.py with
  | .tuple (_ :: _) => true
  | _ => false
section
variable {α β : Type} [DecidableEq α] [DecidableEq β] {f : α → D} {g : β → D} {n m : Nat} {lt : α → α → Bool} {lt2 : β → β → Bool}
theorem EncO.dS : EncO dS (lexL ltN) := ⟨fun _ _ => rfl, fun a b => by
  show PySem.W.dataLt (.str (T a)) (.str (T b)) = _
  rw [PySem.W.dataLt_str, ← lexN]; rfl, fun _ => rfl⟩
theorem EncO.dC : EncO dC ltN := ⟨fun _ _ => rfl, fun a b => dataLt_sgn a b, fun _ => rfl⟩
theorem EncO.int : EncO D.int ltI := ⟨fun _ _ => rfl, fun a b => by
  show PySem.W.dataLt (.int a) (.int b) = _
  rw [PySem.W.dataLt_int]; rfl, fun _ => rfl⟩
theorem EncO.pair (e : Enc f n) (e' : Enc g m) (o : EncO f lt) (o' : EncO g lt2) (irr : ∀ b, lt2 b b = false) : EncO (fun p : α × β => D.tup [f p.1, g p.2]) (lexB lt lt2) := ⟨fun a b => by
    show (PySem.W.alike (f a.1).py (f b.1).py && (PySem.W.alike (g a.2).py (g b.2).py && true)) = true
    rw [o.alike, o'.alike]; rfl, fun a b => by
    show PySem.W.dataLt (.tuple [(f a.1).py, (g a.2).py]) (.tuple [(f b.1).py, (g b.2).py]) = _
    rw [PySem.W.dataLt_pair (o.alike _ _) (o'.alike _ _), e.eq, e'.eq, o.lt, o'.lt]
    unfold lexB
    by_cases h : a.1 = b.1
    · rw [if_pos h, if_pos (decide_eq_true h)]
      by_cases h2 : a.2 = b.2
      · rw [if_pos (decide_eq_true h2), h2, irr]
      · rw [if_neg (by simpa using h2)]
    · rw [if_neg h, if_neg (by simpa using h)], fun _ => rfl⟩
theorem alike_map (o : EncO f lt) : ∀ a b : List α, PySem.W.alikeAll (pyL (a.map f)) (pyL (b.map f)) = true
  | [], _ => by simp [pyL, PySem.W.alikeAll]
  | _ :: _, [] => by simp [pyL, PySem.W.alikeAll]
  | x :: a, y :: b => by
    show PySem.W.alikeAll ((f x).py :: pyL (a.map f)) ((f y).py :: pyL (b.map f)) = true
    rw [PySem.W.alikeAll, o.alike, alike_map o a b]; rfl
theorem rowLt_map (e : Enc f n) (o : EncO f lt) (irr : Ordr lt) : ∀ a b : List α, PySem.W.rowLt (pyL (a.map f)) (pyL (b.map f)) = lexL lt a b
  | [], [] => by
    have e : PySem.W.rowLt [] [] = false := lex_irrefl _
    exact e
  | [], y :: b => by
    show PySem.W.rowLt [] ((f y).py :: pyL (b.map f)) = true
    unfold PySem.W.rowLt
    rw [PySem.W.toks_all_cons]
    simp only [PySem.W.keyToksAll]
    rw [lex_diff (O := itemOrd) (by simp)]
    rfl
  | x :: a, [] => by
    show PySem.W.rowLt ((f x).py :: pyL (a.map f)) [] = false
    unfold PySem.W.rowLt
    rw [PySem.W.toks_all_cons]
    simp only [PySem.W.keyToksAll]
    rw [lex_diff (O := itemOrd) (by simp)]
    rfl
  | x :: a, y :: b => by
    have ih := rowLt_map e o irr a b
    unfold PySem.W.rowLt at ih ⊢
    show PyProof.Rows.lexLt itemOrd (PySem.W.keyToksAll ((f x).py :: pyL (a.map f))) (PySem.W.keyToksAll ((f y).py :: pyL (b.map f))) = _
    rw [PySem.W.dataLt_cons (o.alike x y), e.eq, o.lt, ih, lexL]
    by_cases h : x = y
    · subst h
      rw [if_pos (by simp), irr.irr]; rfl
    · rw [if_neg (by simpa using h)]
      rcases irr.tri x y with q | q | q
      · rw [q]; rfl
      · exact absurd q h
      · rw [q, irr.asym q]; rfl
theorem EncO.tup (e : Enc f n) (o : EncO f lt) (r : Ordr lt) : EncO (fun l : List α => D.tup (l.map f)) (lexL lt) := ⟨fun a b => by
    show PySem.W.alike (.tuple (pyL (a.map f))) (.tuple (pyL (b.map f))) = true
    rw [PySem.W.alike]; exact alike_map o a b, fun a b => by
    show PySem.W.dataLt (.tuple (pyL (a.map f))) (.tuple (pyL (b.map f))) = _
    rw [PySem.W.dataLt_tuple]; exact rowLt_map e o r a b, fun _ => rfl⟩
theorem EncO.gLt (o : EncO f lt) (e : Enc f n) (a b : α) (hn : n ≤ 60 := by decide) : gLt (f a) (f b) = Option.some (.bl (lt a b)) := by
  unfold DL.gLt okCmp
  rw [e.plain, e.plain, o.alike, o.some, o.lt, if_pos]
  rw [Bool.and_self, Bool.true_and, Bool.and_true, Bool.and_true, decide_eq_true_eq]
  have h := e.dep a
  omega
theorem leD_enc (o : EncO f lt) (a b : α) : leD (f a) (f b) = leB lt a b := by
  show (!PySem.W.dataLt (f b).py (f a).py) = _
  rw [o.lt]; rfl
theorem okSort_enc (o : EncO f lt) (e : Enc f n) (l : List α) (hn : n ≤ 60) (h : (∀ a ∈ l, noTup (f a) = true) ∨ ∀ a ∈ l, fullTup (f a) = true) : okSort (l.map f) = true := by
  unfold okSort
  simp only [Bool.and_eq_true, Bool.or_eq_true, List.all_eq_true, List.mem_map]
  refine ⟨⟨⟨?_, ?_⟩, ?_⟩, ?_⟩
  · rintro d ⟨c, _, rfl⟩; exact e.plain c
  · rintro d ⟨c, _, rfl⟩ d' ⟨c', _, rfl⟩; exact o.alike c c'
  · rcases h with h | h
    · refine .inr ?_
      rintro d ⟨c, hc, rfl⟩
      have := h c hc
      unfold noTup at this
      split at this <;> first | exact absurd this Bool.false_ne_true | (split <;> simp_all)
    · refine .inl ?_
      rintro d ⟨c, hc, rfl⟩
      have := h c hc
      unfold fullTup at this
      exact this
  · rintro d ⟨c, _, rfl⟩
    have := e.dep c
    exact decide_eq_true (by omega)
theorem EncO.gSorted (o : EncO f lt) (e : Enc f n) (l : List α) (h : (∀ a ∈ l, noTup (f a) = true) ∨ ∀ a ∈ l, fullTup (f a) = true) (hn : n ≤ 60 := by decide) : gSorted [.lst (l.map f)] = Option.some (.lst ((sortB lt l).map f)) := by
  show (if okSort (l.map f) = true then Option.some (D.lst ((l.map f).mergeSort leD)) else none) = _
  rw [if_pos (okSort_enc o e l hn h)]
  unfold sortB
  rw [List.map_mergeSort (s := leD) fun a _ b _ => (leD_enc o a b).symm]
end
theorem gSorted_dC (l : List Nat) : gSorted [.lst (l.map dC)] = some (.lst ((sortB ltN l).map dC)) := EncO.dC.gSorted Enc.dC l (.inl fun _ _ => rfl)
theorem gSorted_dS (l : List (List Nat)) : gSorted [.lst (l.map dS)] = some (.lst ((sortB (lexL ltN) l).map dS)) := EncO.dS.gSorted Enc.dS l (.inl fun _ _ => rfl)

/-! ### schemes as data -/
abbrev Rule := List Nat × Nat
def Asc (l : List Nat) : Prop := l.Pairwise fun a b => ltN a b = true
theorem Asc.nodup {l : List Nat} (h : Asc l) : l.Nodup := ordN.nodup h
theorem Asc.ext {a b : List Nat} (ha : Asc a) (hb : Asc b) (h : ∀ x, x ∈ a ↔ x ∈ b) : a = b := ordN.ext ha hb h
theorem Asc.filter {l : List Nat} (h : Asc l) (p : Nat → Bool) : Asc (l.filter p) := List.Pairwise.filter p h
theorem Asc.sort {l : List Nat} (h : l.Nodup) : Asc (sortB ltN l) := ordN.asc h
def letters : List Nat := tl (Str.ofString "abcdefghijklmnopqrstuvwxyz")
theorem letters_eq : letters = [97, 98, 99, 100, 101, 102, 103, 104, 105, 106, 107, 108, 109, 110, 111, 112, 113, 114, 115, 116, 117, 118, 119, 120, 121, 122] := by decide +kernel
def isLetter (c : Nat) : Bool := decide (c ∈ letters)
def colsB (l : List Nat) : Bool := l.all isLetter && ascB ltN l
def withinB (a b : List Nat) : Bool := colsB a && a.all fun c => decide (c ∈ b)
/-- a rule: its left columns, its right one -/
def dR (r : Rule) : D := .tup [dS r.1, dC r.2]
def ruleB (cols : List Nat) (r : Rule) : Bool := withinB r.1 cols && withinB [r.2] cols && !decide (r.2 ∈ r.1)
def ruleLt : Rule → Rule → Bool := lexB (lexL ltN) ltN
theorem ordR : Ordr ruleLt := ordX (ordL ordN) ordN
theorem Enc.dR : Enc dR 1 := Enc.pair Enc.dS Enc.dC
theorem EncO.dR : EncO dR ruleLt := EncO.pair Enc.dS Enc.dC EncO.dS EncO.dC ordN.irr
theorem gSorted_dR (l : List Rule) : gSorted [.lst (l.map dR)] = some (.lst ((sortB ruleLt l).map dR)) := EncO.dR.gSorted Enc.dR l (.inr fun _ _ => rfl)
theorem gLt_rule (p q : Rule) : gLt (dR p) (dR q) = some (.bl (ruleLt p q)) := EncO.dR.gLt Enc.dR p q
theorem gLt_dC (p q : Nat) : gLt (dC p) (dC q) = some (.bl (ltN p q)) := EncO.dC.gLt Enc.dC p q
theorem gLt_dS (p q : List Nat) : gLt (dS p) (dS q) = some (.bl (lexL ltN p q)) := EncO.dS.gLt Enc.dS p q
def unR : D → Option Rule
  | .tup [.str a, .str b] => match tl b with
    | [c] => some (tl a, c)
    | _ => none
  | _ => none
def unRs : List D → Option (List Rule)
  | [] => some []
  | d :: ds => (unR d).bind fun r => (unRs ds).map (r :: ·)
theorem unR_dR (r : Rule) : unR (dR r) = some r := rfl
theorem unRs_map : ∀ l : List Rule, unRs (l.map dR) = some l
  | [] => rfl
  | r :: l => by
    show ((unR (dR r)).bind fun r => (unRs (l.map dR)).map (r :: ·)) = _
    rw [unRs_map l]; rfl
theorem unR_eq {d : D} {r : Rule} (h : unR d = some r) : d = dR r := by
  unfold unR at h
  split at h
  · rename_i a b
    split at h
    · rename_i c e
      cases h
      have : b = sgn c := by rw [← T_tl b, e]; rfl
      rw [this]
      show _ = D.tup [D.str (T (tl a)), D.str (sgn c)]
      rw [T_tl]
    · cases h
  · cases h
theorem unRs_eq : ∀ {ds : List D} {l : List Rule}, unRs ds = some l → ds = l.map dR
  | [], l, h => by cases h; rfl
  | d :: ds, l, h => by
    have h : ((unR d).bind fun r => (unRs ds).map (r :: ·)) = some l := h
    cases q : unR d with
    | none => rw [q] at h; cases h
    | some r =>
      rw [q] at h
      have h : (unRs ds).map (r :: ·) = some l := h
      cases q2 : unRs ds with
      | none => rw [q2] at h; cases h
      | some m => rw [q2] at h; cases h; rw [List.map_cons, ← unR_eq q, unRs_eq q2]
def schemeB (cols : List Nat) (rs : List Rule) : Bool := colsB cols && !cols.isEmpty && rs.all (ruleB cols) && ascB ruleLt rs
def fSch (cols : List Nat) (rs : List Rule) : List (Str × D) := [("columns", dS cols), ("rules", .tup (rs.map dR))]
def iSch (ds : List D) : Res (List (Str × D)) := match ds with
  | [.str x, .tup rs] => match unRs rs with
    | some l => if schemeB (tl x) l = true then .ok (fSch (tl x) l) else .stuck
    | none => .stuck
  | _ => .stuck
theorem col_ne_rul : ¬ (("columns" : Str) = ("rules" : Str)) := by decide +kernel
theorem setF_two (a b : D) : setF "rules" b (setF "columns" a []) = ([(("columns" : Str), a), (("rules" : Str), b)] : List (Str × D)) := by
  show (if ("columns" : Str) = ("rules" : Str) then [(("columns" : Str), b)] else (("columns" : Str), a) :: setF "rules" b []) = _
  rw [if_neg col_ne_rul]; rfl
theorem iSch_ok {ds : List D} {fs : List (Str × D)} (h : iSch ds = .ok fs) : ∃ cols l, ds = [dS cols, .tup (l.map dR)] ∧ schemeB cols l = true ∧ fs = fSch cols l := by
  unfold iSch at h
  split at h
  · rename_i x rs
    split at h
    · rename_i l e
      split at h
      · rename_i hb
        cases h
        exact ⟨tl x, l, by rw [unRs_eq e, dS, T_tl], hb, rfl⟩
      · cases h
    · cases h
  · cases h
theorem iSch_err {ds : List D} {x : ExV} {E : Env} (h : iSch ds = .err x E) : False := by
  unfold iSch at h
  split at h
  · split at h
    · split at h <;> cases h
    · cases h
  · cases h
theorem iSch_eq {cols : List Nat} {l : List Rule} (h : schemeB cols l = true) : iSch [dS cols, .tup (l.map dR)] = .ok (fSch cols l) := by
  show (match unRs (l.map dR) with
    | some l => if schemeB cols l = true then Res.ok (fSch cols l) else .stuck
    | none => .stuck) = _
  rw [unRs_map]
  exact if_pos h
theorem lk_cols (cols : List Nat) (rs : List Rule) : (fSch cols rs).lookup ("columns" : Str) = some (dS cols) := by
  unfold fSch
  rw [List.lookup_cons]; simp
theorem lk_rules (cols : List Nat) (rs : List Rule) : (fSch cols rs).lookup ("rules" : Str) = some (.tup (rs.map dR)) := by
  have h : (("rules" : Str) == ("columns" : Str)) = false := by decide +kernel
  unfold fSch
  rw [List.lookup_cons, h, List.lookup_cons]; simp
theorem lk_sch (cols : List Nat) (rs : List Rule) (x : Str) (h1 : (x == ("columns" : Str)) = false) (h2 : (x == ("rules" : Str)) = false) : (fSch cols rs).lookup x = none := by
  unfold fSch
  rw [List.lookup_cons, h1, List.lookup_cons, h2]; rfl
structure Sch (cols : List Nat) (R : List Rule) : Prop where
  asc : Asc cols
  let_ : ∀ x ∈ cols, x ∈ letters
  ne : cols ≠ []
  left : ∀ r ∈ R, ∀ x ∈ r.1, x ∈ cols
  lasc : ∀ r ∈ R, Asc r.1
  right : ∀ r ∈ R, r.2 ∈ cols
  not : ∀ r ∈ R, r.2 ∉ r.1
  rasc : R.Pairwise fun a b => ruleLt a b = true
theorem colsB_iff {l : List Nat} : colsB l = true ↔ Asc l ∧ ∀ x ∈ l, x ∈ letters := by
  unfold colsB
  rw [Bool.and_eq_true, ordN.ascB, List.all_eq_true]
  unfold isLetter Asc
  simp only [decide_eq_true_eq]
  exact And.comm
theorem withinB_iff {a b : List Nat} : withinB a b = true ↔ Asc a ∧ (∀ x ∈ a, x ∈ letters) ∧ ∀ x ∈ a, x ∈ b := by
  unfold withinB
  rw [Bool.and_eq_true, colsB_iff, List.all_eq_true]
  simp only [decide_eq_true_eq]
  exact and_assoc
theorem ruleB_iff {cols : List Nat} {r : Rule} (hc : ∀ x ∈ cols, x ∈ letters) : ruleB cols r = true ↔ Asc r.1 ∧ (∀ x ∈ r.1, x ∈ cols) ∧ r.2 ∈ cols ∧ r.2 ∉ r.1 := by
  unfold ruleB
  rw [Bool.and_eq_true, Bool.and_eq_true, withinB_iff, withinB_iff, Bool.not_eq_true', decide_eq_false_iff_not]
  constructor
  · rintro ⟨⟨⟨h1, h2, h3⟩, _, _, h6⟩, h7⟩
    exact ⟨h1, h3, h6 _ List.mem_cons_self, h7⟩
  · rintro ⟨h1, h2, h3, h4⟩
    refine ⟨⟨⟨h1, fun x hx => hc x (h2 x hx), h2⟩, List.pairwise_singleton _ _, fun x hx => ?_, fun x hx => ?_⟩, h4⟩
    · rw [List.mem_singleton.mp hx]; exact hc _ h3
    · rw [List.mem_singleton.mp hx]; exact h3
theorem schemeB_iff {cols : List Nat} {R : List Rule} : schemeB cols R = true ↔ Sch cols R := by
  unfold schemeB
  rw [Bool.and_eq_true, Bool.and_eq_true, Bool.and_eq_true, colsB_iff, ordR.ascB, List.all_eq_true, Bool.not_eq_true', List.isEmpty_eq_false_iff]
  constructor
  · rintro ⟨⟨⟨⟨h1, h2⟩, h3⟩, h4⟩, h5⟩
    have h4 : ∀ r ∈ R, _ := fun r hr => (ruleB_iff h2).mp (h4 r hr)
    exact ⟨h1, h2, h3, fun r hr => (h4 r hr).2.1, fun r hr => (h4 r hr).1, fun r hr => (h4 r hr).2.2.1, fun r hr => (h4 r hr).2.2.2, h5⟩
  · intro h
    exact ⟨⟨⟨⟨h.asc, h.let_⟩, h.ne⟩, fun r hr => (ruleB_iff h.let_).mpr ⟨h.lasc r hr, h.left r hr, h.right r hr, h.not r hr⟩⟩, h.rasc⟩
theorem nodup_sub_len {α : Type} [DecidableEq α] : ∀ {a b : List α}, a.Nodup → (∀ x ∈ a, x ∈ b) → a.length ≤ b.length
  | [], _, _, _ => Nat.zero_le _
  | x :: a, b, hn, hs => by
    rw [List.nodup_cons] at hn
    have hx := hs x List.mem_cons_self
    have h := nodup_sub_len (a := a) (b := b.erase x) hn.2 fun y hy => (List.mem_erase_of_ne (fun e => hn.1 (by rw [← e]; exact hy))).mpr (hs y (List.mem_cons_of_mem _ hy))
    rw [List.length_erase_of_mem hx] at h
    have : 0 < b.length := List.length_pos_of_mem hx
    rw [List.length_cons]; omega
theorem Asc.len {l : List Nat} (h : Asc l) (hl : ∀ x ∈ l, x ∈ letters) : l.length ≤ 26 := by
  have := nodup_sub_len h.nodup hl
  rw [letters_eq] at this
  exact this
theorem letter_small {x : Nat} (h : x ∈ letters) : x < 1114112 := by
  rw [letters_eq] at h
  simp at h
  omega
theorem Sch.len {cols : List Nat} {R : List Rule} (h : Sch cols R) : cols.length ≤ 26 := h.asc.len h.let_
def dSch (C : Addr) (cols : List Nat) (rs : List Rule) : D := .obj C (fSch cols rs)
end DL
namespace DL
open PySem PySem.Spec PyProof.Rows L2 TL
/-! ### comprehensions that simp evaluates -/
def compF (vs : List Nat) (g : GF) (fc : BF) (fe : EF) (E0 : Env) (items : List D) : Res (D × Env) := compL vs g fc fe E0 items [] E0
/-- one turn -/
def turnC (vs : List Nat) (g : GF) (fc : BF) (fe : EF) (E : Env) (d : D) : Res (Bool × W × Env × Env) :=
  (ofO (g d (wipeE E vs))).bind fun E1 => (fc E1).bind fun p => (fe p.2).bind fun q => .ok (p.1, q.1, backE E p.2 vs, backE E q.2 vs)
theorem compL_turn {α : Type} {vs : List Nat} {g : GF} {fc : BF} {fe : EF} {E : Env} (f : α → D) (p : α → Bool) (y : α → D) (l : List α) (h : ∀ a ∈ l, turnC vs g fc fe E (f a) = .ok (p a, .dat (y a), E, E)) (acc : List D) :
    compL vs g fc fe E (l.map f) acc E = .ok (.lst (acc ++ (l.filter p).map y), E) := by
  induction l generalizing acc with
  | nil => simp [compL]
  | cons a r ih =>
    have h1 := h a List.mem_cons_self
    have ih := ih fun b hb => h b (List.mem_cons_of_mem _ hb)
    unfold turnC at h1
    cases e1 : g (f a) (wipeE E vs) with
    | none => rw [e1] at h1; cases h1
    | some E1 =>
      rw [e1] at h1
      simp only [ofO_some, Res.ok_bind] at h1
      cases e2 : fc E1 with
      | err _ _ => rw [e2] at h1; cases h1
      | stuck => rw [e2] at h1; cases h1
      | ok q =>
        rw [e2] at h1
        simp only [Res.ok_bind] at h1
        cases e3 : fe q.2 with
        | err _ _ => rw [e3] at h1; cases h1
        | stuck => rw [e3] at h1; cases h1
        | ok z =>
          rw [e3] at h1
          simp only [Res.ok_bind] at h1
          injection h1 with h1
          injection h1 with i1 h1
          injection h1 with i2 h1
          injection h1 with i3 i4
          rw [List.map_cons, compL, e1]
          simp only [ofO_some, Res.ok_bind, e2, noErr]
          cases hp : p a with
          | false => rw [i1, hp, if_neg Bool.false_ne_true, i3, ih, List.filter_cons, hp, if_neg Bool.false_ne_true]
          | true =>
            rw [i1, hp, if_pos rfl, e3]
            simp only [Res.ok_bind, noErr]
            rw [i2]
            simp only [asDat, ofO_some, Res.ok_bind]
            rw [i4, ih, List.filter_cons, hp, if_pos rfl, List.map_cons, List.append_assoc]; rfl

open Classical in
noncomputable def resP {α : Type} (E : Env) (s : α → Res (Bool × W × Env × Env)) (l : List α) (fb : Res (D × Env)) : Res (D × Env) :=
  if h : ∃ py : (α → Bool) × (α → D), ∀ a ∈ l, s a = .ok (py.1 a, .dat (py.2 a), E, E) then .ok (.lst ((l.filter h.choose.1).map h.choose.2), E) else fb
theorem resP_ok {α : Type} {E : Env} {s : α → Res (Bool × W × Env × Env)} {l : List α} {fb : Res (D × Env)} {p : α → Bool} {y : α → D} (h : ∀ a ∈ l, s a = .ok (p a, .dat (y a), E, E)) : resP E s l fb = .ok (.lst ((l.filter p).map y), E) := by
  have ex : ∃ py : (α → Bool) × (α → D), ∀ a ∈ l, s a = .ok (py.1 a, .dat (py.2 a), E, E) := ⟨(p, y), h⟩
  unfold resP
  rw [dif_pos ex]
  have c := ex.choose_spec
  have e1 : l.filter ex.choose.1 = l.filter p := List.filter_congr fun a ha => by
    have := (c a ha).symm.trans (h a ha)
    injection this with this
    injection this with i1 _
  have e2 : (l.filter p).map ex.choose.2 = (l.filter p).map y := List.map_congr_left fun a ha => by
    have := (c a (List.mem_filter.mp ha).1).symm.trans (h a (List.mem_filter.mp ha).1)
    injection this with this
    injection this with _ this
    injection this with this _
    injection this
  rw [e1, e2]
@[simp] theorem resP_simp {α : Type} (E : Env) (p : α → Bool) (y : α → D) (l : List α) (fb : Res (D × Env)) : resP E (fun a => .ok (p a, .dat (y a), E, E)) l fb = .ok (.lst ((l.filter p).map y), E) := resP_ok fun _ _ => rfl
theorem compL_res {α : Type} {vs : List Nat} {g : GF} {fc : BF} {fe : EF} {E : Env} (f : α → D) (l : List α) : compL vs g fc fe E (l.map f) [] E = resP E (fun a => turnC vs g fc fe E (f a)) l (compF vs g fc fe E (l.map f)) := by
  by_cases h : ∃ py : (α → Bool) × (α → D), ∀ a ∈ l, turnC vs g fc fe E (f a) = .ok (py.1 a, .dat (py.2 a), E, E)
  · obtain ⟨⟨p, y⟩, h⟩ := h
    rw [resP_ok h, compL_turn f p y l h]; rfl
  · unfold resP
    rw [dif_neg h]; rfl
def k3_turn (vs : List Nat) (E : Env) (p : Bool × Env) : W × Env → Res (Bool × W × Env × Env) := fun q => .ok (p.1, q.1, backE E p.2 vs, backE E q.2 vs)
@[simp] theorem ap_k3_turn (vs : List Nat) (E : Env) (p : Bool × Env) (q : W × Env) : k3_turn vs E p q = .ok (p.1, q.1, backE E p.2 vs, backE E q.2 vs) := rfl
def k2_turn (vs : List Nat) (fe : EF) (E : Env) : Bool × Env → Res (Bool × W × Env × Env) := fun p => (fe p.2).bind (k3_turn vs E p)
@[simp] theorem ap_k2_turn (vs : List Nat) (fe : EF) (E : Env) (p : Bool × Env) : k2_turn vs fe E p = (fe p.2).bind (k3_turn vs E p) := rfl
def k1_turn (vs : List Nat) (fc : BF) (fe : EF) (E : Env) : Env → Res (Bool × W × Env × Env) := fun E1 => (fc E1).bind (k2_turn vs fe E)
@[simp] theorem ap_k1_turn (vs : List Nat) (fc : BF) (fe : EF) (E E1 : Env) : k1_turn vs fc fe E E1 = (fc E1).bind (k2_turn vs fe E) := rfl
@[simp] theorem ap_turnC {vs : List Nat} {g : GF} {fc : BF} {fe : EF} {E : Env} {d : D} : turnC vs g fc fe E d = (ofO (g d (wipeE E vs))).bind (k1_turn vs fc fe E) := rfl
/-! a list item by item -/
def k3_comp (vs : List Nat) (g : GF) (fc : BF) (fe : EF) (E0 : Env) (ds acc : List D) (E3 : Env) : D → Res (D × Env) := fun y => compL vs g fc fe E0 ds (acc ++ [y]) (backE E0 E3 vs)
@[simp] theorem ap_k3_comp (vs : List Nat) (g : GF) (fc : BF) (fe : EF) (E0 : Env) (ds acc : List D) (E3 : Env) (y : D) : k3_comp vs g fc fe E0 ds acc E3 y = compL vs g fc fe E0 ds (acc ++ [y]) (backE E0 E3 vs) := rfl
def k2_comp (vs : List Nat) (g : GF) (fc : BF) (fe : EF) (E0 : Env) (ds acc : List D) : W × Env → Res (D × Env) := fun q => (ofO (asDat q.1)).bind (k3_comp vs g fc fe E0 ds acc q.2)
@[simp] theorem ap_k2_comp (vs : List Nat) (g : GF) (fc : BF) (fe : EF) (E0 : Env) (ds acc : List D) (q : W × Env) : k2_comp vs g fc fe E0 ds acc q = (ofO (asDat q.1)).bind (k3_comp vs g fc fe E0 ds acc q.2) := rfl
def k1_comp (vs : List Nat) (g : GF) (fc : BF) (fe : EF) (E0 : Env) (ds acc : List D) : Bool × Env → Res (D × Env) := fun p => if p.1 = true then (noErr (fe p.2)).bind (k2_comp vs g fc fe E0 ds acc) else compL vs g fc fe E0 ds acc (backE E0 p.2 vs)
@[simp] theorem ap_k1_comp (vs : List Nat) (g : GF) (fc : BF) (fe : EF) (E0 : Env) (ds acc : List D) (p : Bool × Env) : k1_comp vs g fc fe E0 ds acc p = if p.1 = true then (noErr (fe p.2)).bind (k2_comp vs g fc fe E0 ds acc) else compL vs g fc fe E0 ds acc (backE E0 p.2 vs) := rfl
def k0_comp (vs : List Nat) (g : GF) (fc : BF) (fe : EF) (E0 : Env) (ds acc : List D) : Env → Res (D × Env) := fun E1 => (noErr (fc E1)).bind (k1_comp vs g fc fe E0 ds acc)
@[simp] theorem ap_k0_comp (vs : List Nat) (g : GF) (fc : BF) (fe : EF) (E0 : Env) (ds acc : List D) (E1 : Env) : k0_comp vs g fc fe E0 ds acc E1 = (noErr (fc E1)).bind (k1_comp vs g fc fe E0 ds acc) := rfl
@[simp] theorem compL_nil (vs : List Nat) (g : GF) (fc : BF) (fe : EF) (E0 E : Env) (acc : List D) : compL vs g fc fe E0 [] acc E = .ok (.lst acc, E) := rfl
@[simp] theorem compL_cons (vs : List Nat) (g : GF) (fc : BF) (fe : EF) (E0 E : Env) (d : D) (ds acc : List D) : compL vs g fc fe E0 (d :: ds) acc E = (ofO (g d (wipeE E vs))).bind (k0_comp vs g fc fe E0 ds acc) := rfl
def k1_forL (g : GF) (body : SF) (ds : List D) : Fl × Env → Res (Fl × Env) := fun p => match p.1 with
    | .nx => forL g body ds p.2
    | .ct => forL g body ds p.2
    | .bk => .ok (.nx, p.2)
    | .rt d => .ok (.rt d, p.2)
@[simp] theorem k1_forL_nx (g : GF) (body : SF) (ds : List D) (E : Env) : k1_forL g body ds (.nx, E) = forL g body ds E := rfl
@[simp] theorem k1_forL_ct (g : GF) (body : SF) (ds : List D) (E : Env) : k1_forL g body ds (.ct, E) = forL g body ds E := rfl
@[simp] theorem k1_forL_bk (g : GF) (body : SF) (ds : List D) (E : Env) : k1_forL g body ds (.bk, E) = .ok (.nx, E) := rfl
@[simp] theorem k1_forL_rt (g : GF) (body : SF) (ds : List D) (E : Env) (d : D) : k1_forL g body ds (.rt d, E) = .ok (.rt d, E) := rfl
def k0_forL (g : GF) (body : SF) (ds : List D) : Env → Res (Fl × Env) := fun E1 => (body E1).bind (k1_forL g body ds)
@[simp] theorem ap_k0_forL (g : GF) (body : SF) (ds : List D) (E1 : Env) : k0_forL g body ds E1 = (body E1).bind (k1_forL g body ds) := rfl
@[simp] theorem forL_nil (g : GF) (body : SF) (E : Env) : forL g body [] E = .ok (.nx, E) := rfl
@[simp] theorem forL_cons (g : GF) (body : SF) (d : D) (ds : List D) (E : Env) : forL g body (d :: ds) E = (ofO (g d E)).bind (k0_forL g body ds) := rfl
@[simp] theorem filter_yes {α : Type} (l : List α) : l.filter (fun _ => true) = l := List.filter_eq_self.mpr fun _ _ => rfl
@[simp] theorem filter_no {α : Type} (l : List α) : l.filter (fun _ => false) = [] := List.filter_eq_nil_iff.mpr fun _ _ h => nomatch h
@[simp] theorem wipeE_nil (E : Env) : wipeE E [] = E := rfl
@[simp] theorem wipeE_cons (E : Env) (v : Nat) (vs : List Nat) : wipeE E (v :: vs) = (wipeE E vs).set v .no := rfl
@[simp] theorem backE_nil (E0 E : Env) : backE E0 E [] = E := rfl
@[simp] theorem backE_cons (E0 E : Env) (v : Nat) (vs : List Nat) : backE E0 E (v :: vs) = (backE E0 E vs).set v (E0[v]?.getD .no) := rfl
@[simp] theorem ap_gN (i : Nat) (d : D) (E : Env) : gN i d E = some (E.set i (.dat d)) := rfl
@[simp] theorem ap_gNil (E : Env) : gNil' [] E = some E := rfl
@[simp] theorem ap_gCons (g : GF) (gs : List D → Env → Option Env) (d : D) (ds : List D) (E : Env) : gCons' g gs (d :: ds) E = (g d E).bind fun E1 => gs ds E1 := rfl
@[simp] theorem ap_gT (gs : List D → Env → Option Env) (ds : List D) (E : Env) : gT gs (.tup ds) E = gs ds E := rfl
@[simp] theorem plain_no : plainC (some .no) = true := rfl
@[simp] theorem plain_dat (d : D) : plainC (some (.dat d)) = true := rfl
@[simp] theorem gNeg_int (i : Int) : gNeg (.int i) = some (.int (-i)) := rfl
end DL
namespace DL
open PySem PySem.Spec PyProof.Rows L2 TL
/-! ### what simp knows of texts and rules -/
@[simp] theorem sqD_dS (l : List Nat) : sqD (dS l) = some (l.map dC) := rfl
@[simp] theorem sqD_dC (c : Nat) : sqD (dC c) = some [dC c] := rfl
@[simp] theorem gSl_init_dS (l : List Nat) : gSl (dS l) none (some (-1)) = some (dS l.dropLast) := gSl_init_str l
@[simp] theorem gSl_tail_dS (l : List Nat) : gSl (dS l) (some 1) none = some (dS l.tail) := gSl_tail_str l
@[simp] theorem gLen_dS (l : List Nat) : gLen [dS l] = some (.int l.length) := rfl
@[simp] theorem gLen_dC (c : Nat) : gLen [dC c] = some (.int 1) := rfl
@[simp] theorem gLen_dR (r : Rule) : gLen [dR r] = some (.int 2) := rfl
@[simp] theorem gIs_dS (f : String → Option Bool) (h : Addr → Option Bool) (l : List Nat) : gIs f h (dS l) = (f "str").map .bl := rfl
@[simp] theorem gIs_dC (f : String → Option Bool) (h : Addr → Option Bool) (c : Nat) : gIs f h (dC c) = (f "str").map .bl := rfl
@[simp] theorem gIs_dR (f : String → Option Bool) (h : Addr → Option Bool) (r : Rule) : gIs f h (dR r) = (f "tuple").map .bl := rfl
@[simp] theorem gIs_tup (f : String → Option Bool) (h : Addr → Option Bool) (r : List D) : gIs f h (.tup r) = (f "tuple").map .bl := rfl
@[simp] theorem gIs_lst (f : String → Option Bool) (h : Addr → Option Bool) (r : List D) : gIs f h (.lst r) = (f "list").map .bl := rfl
@[simp] theorem gIs_int (f : String → Option Bool) (h : Addr → Option Bool) (r : Int) : gIs f h (.int r) = (f "int").map .bl := rfl
@[simp] theorem gIs_obj (f : String → Option Bool) (h : Addr → Option Bool) (C : Addr) (fs : List (Str × D)) : gIs f h (.obj C fs) = (h C).map .bl := rfl
@[simp] theorem gIx_dS_n (l : List Nat) (n : Nat) : gIx (dS l) (.int (no_index (OfNat.ofNat n))) = (l[(OfNat.ofNat n : Nat)]?).map dC := gIx_str_nat l n
@[simp] theorem gIx_tup_n (l : List D) (n : Nat) : gIx (.tup l) (.int (no_index (OfNat.ofNat n))) = l[(OfNat.ofNat n : Nat)]? := gIx_tup_nat l n
@[simp] theorem gIx_lst_n (l : List D) (n : Nat) : gIx (.lst l) (.int (no_index (OfNat.ofNat n))) = l[(OfNat.ofNat n : Nat)]? := gIx_lst_nat l n
@[simp] theorem gIx_dR0 (r : Rule) : gIx (dR r) (.int 0) = some (dS r.1) := rfl
@[simp] theorem gIx_dR1 (r : Rule) : gIx (dR r) (.int 1) = some (dC r.2) := rfl
@[simp] theorem gT_dR (gs : List D → Env → Option Env) (r : Rule) (E : Env) : gT gs (dR r) E = gs [dS r.1, dC r.2] E := rfl
@[simp] theorem zip_pairs {α : Type} (f : α → D) (l : List α) : ((l.map f).dropLast.zip (l.map f).tail).map (fun p => D.tup [p.1, p.2]) = (l.dropLast.zip l.tail).map fun p => .tup [f p.1, f p.2] := by
  rw [← List.map_dropLast, ← List.map_tail, zip_two]
@[simp] theorem zip_pairs2 {α : Type} (f : α → D) (l : List α) : ((l.dropLast.map f).zip (l.tail.map f)).map (fun p => D.tup [p.1, p.2]) = (l.dropLast.zip l.tail).map fun p => .tup [f p.1, f p.2] := zip_two ..
theorem gIn_dC (neg : Bool) (c : Nat) (l : List Nat) : gInQ neg (dC c) (dS l) = some (.bl (if neg then !decide (c ∈ l) else decide (c ∈ l))) := gIn_one neg c l
@[simp] theorem gIn_dCf (c : Nat) (l : List Nat) : gInQ false (dC c) (dS l) = some (.bl (decide (c ∈ l))) := gIn_one false c l
@[simp] theorem gIn_dCt (c : Nat) (l : List Nat) : gInQ true (dC c) (dS l) = some (.bl (!decide (c ∈ l))) := gIn_one true c l
@[simp] theorem gIn_dClf (c : Nat) (l : List Nat) : gInQ false (dC c) (.lst (l.map dC)) = some (.bl (decide (c ∈ l))) := Enc.dC.gIn_lst false c l
@[simp] theorem gIn_dClt (c : Nat) (l : List Nat) : gInQ true (dC c) (.lst (l.map dC)) = some (.bl (!decide (c ∈ l))) := Enc.dC.gIn_lst true c l
@[simp] theorem gEq_dS (a b : List Nat) : gEq (dS a) (dS b) = some (.bl (decide (a = b))) := Enc.dS.gEq a b
@[simp] theorem gNe_dS (a b : List Nat) : gNe (dS a) (dS b) = some (.bl (!decide (a = b))) := Enc.dS.gNe a b
@[simp] theorem gEq_dC (a b : Nat) : gEq (dC a) (dC b) = some (.bl (decide (a = b))) := Enc.dC.gEq a b
@[simp] theorem gNe_dC (a b : Nat) : gNe (dC a) (dC b) = some (.bl (!decide (a = b))) := Enc.dC.gNe a b
@[simp] theorem gEq_e (a : List Nat) : gEq (dS a) (.str "") = some (.bl (decide (a = []))) := Enc.dS.gEq a []
@[simp] theorem gNe_e (a : List Nat) : gNe (dS a) (.str "") = some (.bl (!decide (a = []))) := Enc.dS.gNe a []
@[simp] theorem gEq_nilC (a : List Nat) : gEq (.lst (a.map dC)) (.lst []) = some (.bl a.isEmpty) := by
  rw [gEq_nil (Enc.dC.plainL a)]; cases a <;> rfl
@[simp] theorem gNe_nilC (a : List Nat) : gNe (.lst (a.map dC)) (.lst []) = some (.bl (!a.isEmpty)) := by
  rw [gNe_nil (Enc.dC.plainL a)]; cases a <;> rfl
@[simp] theorem gEq_rules (a b : List Rule) : gEq (.tup (a.map dR)) (.tup (b.map dR)) = some (.bl (decide (a = b))) := Enc.dR.tup.gEq a b
@[simp] theorem gLt_dC' (p q : Nat) : gLt (dC p) (dC q) = some (.bl (ltN p q)) := gLt_dC p q
@[simp] theorem gLt_dR' (p q : Rule) : gLt (dR p) (dR q) = some (.bl (ruleLt p q)) := gLt_rule p q
@[simp] theorem gSorted_dC' (l : List Nat) : gSorted [.lst (l.map dC)] = some (.lst ((sortB ltN l).map dC)) := gSorted_dC l
@[simp] theorem gSorted_dS' (l : List (List Nat)) : gSorted [.lst (l.map dS)] = some (.lst ((sortB (lexL ltN) l).map dS)) := gSorted_dS l
@[simp] theorem gSorted_dR' (l : List Rule) : gSorted [.lst (l.map dR)] = some (.lst ((sortB ruleLt l).map dR)) := gSorted_dR l
@[simp] theorem gTuple_lst (l : List D) : gTuple [.lst l] = some (.tup l) := rfl
theorem gAdd_dS (a b : List Nat) (h : a.length + b.length ≤ 16777216) : gAdd (dS a) (dS b) = some (dS (a ++ b)) := by
  show (if (T a).length + (T b).length ≤ 16777216 then some (D.str (T a ++ T b)) else none) = _
  rw [if_pos (by rw [T_len, T_len]; exact h), T_app]; rfl
theorem gAdd_dSC (a : List Nat) (b : Nat) (h : a.length ≤ 16777215) : gAdd (dS a) (dC b) = some (dS (a ++ [b])) := gAdd_dS a [b] (by simp; omega)
@[simp] theorem gAdd_int (a b : Int) : gAdd (.int a) (.int b) = some (.int (a + b)) := rfl
@[simp] theorem gSub_int (a b : Int) : gSub (.int a) (.int b) = some (.int (a - b)) := rfl
theorem rgD_map (n : Nat) : rgD 0 n = (List.range n).map fun i : Nat => D.int i := by
  unfold rgD
  simp
theorem ofOf {α : Type} {o : Option α} {a : α} (h : o = some a) : ofO o = .ok a := by rw [h]; rfl
@[simp] theorem ap_eV (i : Nat) (E : Env) : eV i E = match E[i]? with
  | some (.dat d) => .ok (.dat d, E)
  | some (.own _) => .ok (.own i, E)
  | _ => .stuck := rfl
@[simp] theorem ap_eVf (i : Nat) (E : Env) : eVf i E = match E[i]? with
  | some (.dat d) => .ok (.dat d, E)
  | some (.own d) => .ok (.dat d, E.set i (.dat d))
  | _ => .stuck := rfl
@[simp] theorem ap_nos (n : Nat) : nos n = List.replicate n .no := rfl
@[simp] theorem compL_res' {α : Type} {vs : List Nat} {g : GF} {fc : BF} {fe : EF} {E : Env} (f : α → D) (l : List α) : compL vs g fc fe E (l.map f) [] E = resP E (fun a => turnC vs g fc fe E (f a)) l (compF vs g fc fe E (l.map f)) := compL_res f l
theorem compO_turn {α : Type} {vs : List Nat} {i : Nat} {g : GF} {fc : BF} {fe : EF} {E : Env} (f : α → D) (p : α → Bool) (y : α → D) (l : List α) (hown : ownL E i = some (l.map f)) (h : ∀ a ∈ l, turnC vs g fc fe E (f a) = .ok (p a, .dat (y a), E, E)) :
    ∀ (r : List α) (d : List α) (acc : List D), l = d ++ r → compO vs i l.length g fc fe E r.length acc E = .ok (.lst (acc ++ (r.filter p).map y), E) := by
  intro r
  induction r with
  | nil => intro d acc _; simp [compO, hown]
  | cons a r ih =>
    intro d acc hl
    have h1 := h a (by rw [hl]; simp)
    have ih := fun acc => ih (d ++ [a]) acc (by rw [hl]; simp)
    have hk : l.length - (r.length + 1) = d.length := by rw [hl]; simp
    have hd : (l.map f)[d.length]? = some (f a) := by rw [hl]; simp
    unfold turnC at h1
    cases e1 : g (f a) (wipeE E vs) with
    | none => rw [e1] at h1; cases h1
    | some E1 =>
      rw [e1] at h1
      simp only [ofO_some, Res.ok_bind] at h1
      cases e2 : fc E1 with
      | err _ _ => rw [e2] at h1; cases h1
      | stuck => rw [e2] at h1; cases h1
      | ok q =>
        rw [e2] at h1
        simp only [Res.ok_bind] at h1
        cases e3 : fe q.2 with
        | err _ _ => rw [e3] at h1; cases h1
        | stuck => rw [e3] at h1; cases h1
        | ok z =>
          rw [e3] at h1
          simp only [Res.ok_bind] at h1
          injection h1 with h1
          injection h1 with i1 h1
          injection h1 with i2 h1
          injection h1 with i3 i4
          rw [List.length_cons, compO, hown, hk]
          simp only [ofO_some, Res.ok_bind, List.length_map, if_pos, hd, e1, e2, noErr]
          cases hp : p a with
          | false => rw [i1, hp, if_neg Bool.false_ne_true, i3, ih, List.filter_cons, hp, if_neg Bool.false_ne_true]
          | true =>
            rw [i1, hp, if_pos rfl, e3]
            simp only [Res.ok_bind, noErr]
            rw [i2]
            simp only [asDat, ofO_some, Res.ok_bind]
            rw [i4, ih, List.filter_cons, hp, if_pos rfl, List.map_cons, List.append_assoc]; rfl
def compOF (vs : List Nat) (i : Nat) (g : GF) (fc : BF) (fe : EF) (E : Env) (ds : List D) : Res (D × Env) := compO vs i ds.length g fc fe E ds.length [] E
theorem compO_res {α : Type} {vs : List Nat} {i : Nat} {g : GF} {fc : BF} {fe : EF} {E : Env} (f : α → D) (l : List α) (hown : ownL E i = some (l.map f)) : compO vs i (l.map f).length g fc fe E (l.map f).length [] E = resP E (fun a => turnC vs g fc fe E (f a)) l (compOF vs i g fc fe E (l.map f)) := by
  by_cases h : ∃ py : (α → Bool) × (α → D), ∀ a ∈ l, turnC vs g fc fe E (f a) = .ok (py.1 a, .dat (py.2 a), E, E)
  · obtain ⟨⟨p, y⟩, h⟩ := h
    rw [resP_ok h, List.length_map, compO_turn f p y l hown h l [] [] rfl]; rfl
  · unfold resP
    rw [dif_neg h]; rfl
@[simp] theorem k1_nCompO_res {α : Type} {vs : List Nat} {i : Nat} {g : GF} {fc : BF} {fe : EF} {E : Env} (f : α → D) (l : List α) (hown : ownL E i = some (l.map f)) : k1_nCompO vs i g fc fe E (l.map f) = if vs.all (fun v => plainC E[v]?) = true then resP E (fun a => turnC vs g fc fe E (f a)) l (compOF vs i g fc fe E (l.map f)) else .stuck := by
  rw [ap_k1_nCompO, compO_res f l hown]
@[simp] theorem gAny_map {α : Type} (q : α → Bool) (l : List α) : gAny [.lst (l.map fun a => D.bl (q a))] = some (.bl (l.any q)) := by
  show (bls (l.map fun a => D.bl (q a))).map (fun l => D.bl (l.any id)) = _
  rw [bls_map]
  show some (D.bl ((l.map q).any id)) = _
  rw [List.any_map]; rfl
@[simp] theorem gEq_nilS (a : List (List Nat)) : gEq (.lst (a.map dS)) (.lst []) = some (.bl a.isEmpty) := by
  rw [gEq_nil (Enc.dS.plainL a)]; cases a <;> rfl
@[simp] theorem gNe_nilS (a : List (List Nat)) : gNe (.lst (a.map dS)) (.lst []) = some (.bl (!a.isEmpty)) := by
  rw [gNe_nil (Enc.dS.plainL a)]; cases a <;> rfl
@[simp] theorem dats_app' (l : List D) (ws : List W) : dats (l.map W.dat ++ ws) = (dats ws).map (l ++ ·) := dats_app l ws
@[simp] theorem dats_map (l : List D) : dats (l.map W.dat) = some l := by
  have := dats_app l []
  simpa using this
@[simp] theorem gSorted_dCa (a b : List Nat) : gSorted [.lst (a.map dC ++ b.map dC)] = some (.lst ((sortB ltN (a ++ b)).map dC)) := by
  rw [← List.map_append, gSorted_dC]
@[simp] theorem rd_own_ (E : Env) (i : Nat) : rd E (.own i) = match E[i]? with
  | some (.own d) => .ok d
  | _ => .stuck := rfl
@[simp] theorem rds_own (E : Env) (i : Nat) (ws : List W) : rds E (.own i :: ws) = (rd E (.own i)).bind fun d => (rds E ws).bind fun ds => .ok (d :: ds) := rfl
@[simp] theorem ap_ownL (E : Env) (i : Nat) : ownL E i = match E[i]? with
  | some (.own (.lst ds)) => some ds
  | _ => none := rfl
@[simp] theorem ap_ownO (E : Env) (i : Nat) : ownO E i = match E[i]? with
  | some (.own d) => some d
  | _ => none := rfl
@[simp] theorem ap_deckAt (E : Env) (i : Nat) : deckAt E i = match E[i]? with
  | some (.deck a q l b) => some (a, q, ⟨l, b⟩)
  | _ => none := rfl
theorem gApp_ok (ds : List D) (y : D) (h : ds.length < 16777216) : gApp ds [y] = some (.non, ds ++ [y]) := if_pos h
@[simp] theorem isC_self (C : Addr) : isC C C = some true := if_pos rfl
end DL
namespace DL
open PySem PySem.Spec PyProof.Rows L2 TL
/-! ### closures -/
def dN (i : Nat) : D := .int (i : Nat)
theorem Enc.dN : Enc dN 0 := Enc.nat
def stepF (st : List Nat × List Nat) (i : Nat) (r : Rule) : List Nat × List Nat := if !decide (r.2 ∈ st.1) && r.1.all (fun c => decide (c ∈ st.1)) then (st.1 ++ [r.2], st.2 ++ [i]) else st
def passF : List Rule → Nat → List Nat × List Nat → List Nat × List Nat
  | [], _, st => st
  | r :: rs, i, st => passF rs (i + 1) (stepF st i r)
/-- what is settled -/
inductive InClo (R : List Rule) (b : List Nat) : Nat → Prop
  | base {x : Nat} : x ∈ b → InClo R b x
  | step {r : Rule} : r ∈ R → (∀ c ∈ r.1, InClo R b c) → InClo R b r.2
def rightsAt (R : List Rule) (is : List Nat) : List Nat := is.filterMap fun i => R[i]?.map (·.2)
def stepH (R : List Rule) (known : List Nat) (d : D) : D ⊕ List Nat := match d with
  | .int i => if 0 ≤ i ∧ i < (R.length : Int) then (match R[i.toNat]? with
      | some r => if r.1.all (fun x => decide (x ∈ known)) = true then .inr (known ++ [r.2]) else .inl (.bl false)
      | none => .inl (.bl false)) else .inl (.bl false)
  | _ => .inl (.bl false)
/-- is it a derivation -/
def holdsB (R : List Rule) (b : List Nat) (x : Nat) (d : D) : Bool := match d with
  | .tup ds => match foldE (stepH R) b ds with
    | .inl _ => false
    | .inr k => decide (x ∈ k)
  | _ => false
structure IvS (R : List Rule) (b : List Nat) (st : List Nat × List Nat) : Prop where
  eq : st.1 = b ++ rightsAt R st.2
  nd : st.1.Nodup
  lt : ∀ i ∈ st.2, i < R.length
  snd : ∀ x ∈ st.1, InClo R b x
  ld : foldE (stepH R) b (st.2.map dN) = .inr st.1
theorem rightsAt_app (R : List Rule) (a c : List Nat) : rightsAt R (a ++ c) = rightsAt R a ++ rightsAt R c := List.filterMap_append ..
theorem rightsAt_one {R : List Rule} {i : Nat} {r : Rule} (h : R[i]? = some r) : rightsAt R [i] = [r.2] := by
  unfold rightsAt
  simp [h]
theorem rightsAt_len {R : List Rule} : ∀ {is : List Nat}, (∀ i ∈ is, i < R.length) → (rightsAt R is).length = is.length
  | [], _ => rfl
  | i :: is, h => by
    have ih := rightsAt_len (R := R) (is := is) fun j hj => h j (List.mem_cons_of_mem _ hj)
    have hi : i < R.length := h i List.mem_cons_self
    have e : R[i]? = some R[i] := List.getElem?_eq_getElem hi
    have : rightsAt R (i :: is) = rightsAt R [i] ++ rightsAt R is := rightsAt_app R [i] is
    rw [this, rightsAt_one e, List.length_append, ih]
    simp; omega
theorem foldE_snoc {σ α : Type} {st : σ → α → D ⊕ σ} : ∀ {l : List α} {s u : σ} {a : α}, foldE st s l = .inr u → foldE st s (l ++ [a]) = st u a
  | [], s, u, a, h => by
    cases h
    rw [List.nil_append, foldE]
    cases st s a <;> rfl
  | b :: l, s, u, a, h => by
    rw [foldE] at h
    rw [List.cons_append, foldE]
    cases e : st s b with
    | inl d => rw [e] at h; cases h
    | inr v => rw [e] at h; exact foldE_snoc h
theorem step_iv {R : List Rule} {b : List Nat} {st : List Nat × List Nat} {i : Nat} {r : Rule} (h : IvS R b st) (hr : R[i]? = some r) : IvS R b (stepF st i r) := by
  unfold stepF
  split
  · rename_i c
    rw [Bool.and_eq_true] at c
    obtain ⟨c1, c2⟩ := c
    have n : r.2 ∉ st.1 := by simpa using c1
    have c2 : ∀ x ∈ r.1, x ∈ st.1 := fun x hx => of_decide_eq_true (List.all_eq_true.mp c2 x hx)
    refine ⟨?_, ?_, fun j hj => ?_, fun x hx => ?_, ?_⟩
    · rw [rightsAt_app, rightsAt_one hr, ← List.append_assoc, ← h.eq]
    · rw [List.nodup_append]
      refine ⟨h.nd, by simp, fun a ha y hy => ?_⟩
      rw [List.mem_singleton.mp hy]
      intro e
      rw [e] at ha; exact n ha
    · rcases List.mem_append.mp hj with q | q
      · exact h.lt j q
      · rw [List.mem_singleton.mp q]; exact (List.getElem?_eq_some_iff.mp hr).1
    · rcases List.mem_append.mp hx with q | q
      · exact h.snd x q
      · rw [List.mem_singleton.mp q]
        exact .step (List.mem_of_getElem? hr) fun c hc => h.snd c (c2 c hc)
    · have hi : i < R.length := (List.getElem?_eq_some_iff.mp hr).1
      rw [List.map_append]
      show foldE (stepH R) b (st.2.map dN ++ [dN i]) = _
      rw [foldE_snoc h.ld]
      have hall : r.1.all (fun x => decide (x ∈ st.1)) = true := List.all_eq_true.mpr fun c hc => decide_eq_true (c2 c hc)
      have h0 : (0 : Int) ≤ (i : Int) ∧ (i : Int) < (R.length : Int) := by omega
      simp only [stepH, dN]
      rw [if_pos h0, Int.toNat_natCast, hr]
      simp only
      rw [if_pos hall]
  · exact h
theorem pass_iv {R : List Rule} {b : List Nat} : ∀ (rs : List Rule) (i : Nat) (st : List Nat × List Nat), R.drop i = rs → IvS R b st → IvS R b (passF rs i st)
  | [], _, _, _, h => h
  | r :: rs, i, st, e, h => by
    have hr : R[i]? = some r := by
      have : (R.drop i)[0]? = some r := by rw [e]; rfl
      rw [List.getElem?_drop] at this; simpa using this
    have e2 : R.drop (i + 1) = rs := by
      rw [← List.drop_drop, e]; rfl
    exact pass_iv rs (i + 1) _ e2 (step_iv h hr)
theorem pass_grow : ∀ (rs : List Rule) (i : Nat) (st : List Nat × List Nat), ∃ a c, passF rs i st = (st.1 ++ a, st.2 ++ c) ∧ a.length = c.length
  | [], _, st => ⟨[], [], by simp [passF], rfl⟩
  | r :: rs, i, st => by
    obtain ⟨a, c, e, hl⟩ := pass_grow rs (i + 1) (stepF st i r)
    rw [passF, e]
    unfold stepF
    split
    · exact ⟨[r.2] ++ a, [i] ++ c, by simp, by simp [hl]⟩
    · exact ⟨a, c, rfl, hl⟩
theorem pass_same {rs : List Rule} {i : Nat} {st : List Nat × List Nat} (h : (passF rs i st).2.length = st.2.length) : passF rs i st = st := by
  obtain ⟨a, c, e, hl⟩ := pass_grow rs i st
  rw [e] at h ⊢
  rw [List.length_append] at h
  have hc : c = [] := List.eq_nil_of_length_eq_zero (by omega)
  have ha : a = [] := List.eq_nil_of_length_eq_zero (by rw [hl, hc]; rfl)
  rw [ha, hc]; simp
/-- where a pass changes nothing all is closed -/
theorem pass_closed : ∀ {rs : List Rule} {i : Nat} {st : List Nat × List Nat}, passF rs i st = st → ∀ r ∈ rs, (∀ c ∈ r.1, c ∈ st.1) → r.2 ∈ st.1
  | [], _, _, _, _, hr => by cases hr
  | q :: rs, i, st, e, r, hr => fun hc => by
    have key : stepF st i q = st := by
      obtain ⟨a, c, e2, hl⟩ := pass_grow rs (i + 1) (stepF st i q)
      rw [passF, e2] at e
      unfold stepF at e ⊢
      split
      · rename_i h
        rw [if_pos h] at e
        have := congrArg (fun x => x.2.length) e
        simp at this
      · rfl
    rcases List.mem_cons.mp hr with z | z
    · subst z
      unfold stepF at key
      by_cases hm : r.2 ∈ st.1
      · exact hm
      · exfalso
        rw [if_pos (by rw [Bool.and_eq_true]; exact ⟨by simpa using hm, List.all_eq_true.mpr fun c h => decide_eq_true (hc c h)⟩)] at key
        have := congrArg (fun x => x.2.length) key
        simp at this
    · rw [passF, key] at e
      exact pass_closed e r z hc
theorem clo_iff {R : List Rule} {b : List Nat} {st : List Nat × List Nat} (h : IvS R b st) (e : passF R 0 st = st) (x : Nat) : x ∈ st.1 ↔ InClo R b x := by
  refine ⟨h.snd x, fun z => ?_⟩
  induction z with
  | base hb => rw [h.eq]; exact List.mem_append_left _ hb
  | step hr _ ih => exact pass_closed e _ hr ih
theorem iv_len {R : List Rule} {b : List Nat} {st : List Nat × List Nat} (h : IvS R b st) : st.2.length ≤ R.length ∧ st.1.length ≤ b.length + R.length := by
  have e := rightsAt_len h.lt
  have n : (rightsAt R st.2).Nodup := by
    have := h.nd
    rw [h.eq, List.nodup_append] at this
    exact this.2.1
  have sub : ∀ x ∈ rightsAt R st.2, x ∈ R.map (·.2) := fun x hx => by
    obtain ⟨i, hi, e⟩ := List.mem_filterMap.mp hx
    cases q : R[i]? with
    | none => rw [q] at e; cases e
    | some r => rw [q] at e; cases e; exact List.mem_map.mpr ⟨r, List.mem_of_getElem? q, rfl⟩
  have l := nodup_sub_len n sub
  rw [List.length_map] at l
  refine ⟨by omega, ?_⟩
  rw [h.eq, List.length_append]; omega
theorem InClo.congr {R : List Rule} {b b' : List Nat} (h : ∀ x ∈ b, x ∈ b') {x : Nat} (z : InClo R b x) : InClo R b' x := by
  induction z with
  | base hb => exact .base (h _ hb)
  | step hr _ ih => exact .step hr ih
theorem InClo.rules {R R' : List Rule} {b : List Nat} (h : ∀ r ∈ R, r ∈ R') {x : Nat} (z : InClo R b x) : InClo R' b x := by
  induction z with
  | base hb => exact .base hb
  | step hr _ ih => exact .step (h _ hr) ih
theorem InClo.trans {R : List Rule} {b b' : List Nat} (h : ∀ x ∈ b', InClo R b x) {x : Nat} (z : InClo R b' x) : InClo R b x := by
  induction z with
  | base hb => exact h _ hb
  | step hr _ ih => exact .step hr ih
theorem InClo.cols {cols : List Nat} {R : List Rule} {b : List Nat} (s : Sch cols R) (hb : ∀ x ∈ b, x ∈ cols) {x : Nat} (z : InClo R b x) : x ∈ cols := by
  cases z with
  | base h => exact hb _ h
  | step hr _ => exact s.right _ hr
open Classical in
/-- the ascending list of what is settled -/
noncomputable def cloF (cols : List Nat) (R : List Rule) (b : List Nat) : List Nat := cols.filter fun x => decide (InClo R b x)
theorem mem_clo {cols : List Nat} {R : List Rule} {b : List Nat} (s : Sch cols R) (hb : ∀ x ∈ b, x ∈ cols) {x : Nat} : x ∈ cloF cols R b ↔ InClo R b x := by
  classical
  unfold cloF
  rw [List.mem_filter]
  simp only [decide_eq_true_eq]
  exact ⟨fun h => h.2, fun h => ⟨h.cols s hb, h⟩⟩
theorem clo_asc {cols : List Nat} {R : List Rule} {b : List Nat} (s : Sch cols R) : Asc (cloF cols R b) := s.asc.filter _
theorem clo_sub {cols : List Nat} {R : List Rule} {b : List Nat} {x : Nat} (h : x ∈ cloF cols R b) : x ∈ cols := (List.mem_filter.mp h).1
theorem clo_eq {cols : List Nat} {R : List Rule} {b l : List Nat} (s : Sch cols R) (hb : ∀ x ∈ b, x ∈ cols) (hl : Asc l) (h : ∀ x, x ∈ l ↔ InClo R b x) : l = cloF cols R b :=
  hl.ext (clo_asc s) fun x => (h x).trans (mem_clo s hb).symm
theorem iv_start {R : List Rule} {b : List Nat} (hb : b.Nodup) : IvS R b (b, []) := ⟨by simp [rightsAt], hb, fun _ h => (by cases h), fun x hx => .base hx, rfl⟩
/-- a settled state's columns, sorted -/
theorem iv_clo {cols : List Nat} {R : List Rule} {b : List Nat} {st : List Nat × List Nat} (s : Sch cols R) (hb : ∀ x ∈ b, x ∈ cols) (iv : IvS R b st) (fx : passF R 0 st = st) : sortB ltN st.1 = cloF cols R b :=
  clo_eq s hb (Asc.sort iv.nd) fun x => mem_sortB.trans (clo_iff iv fx x)
def rightOf (R : List Rule) (i : Nat) : Nat := (R[i]?.map (·.2)).getD 0
theorem rights_map {R : List Rule} : ∀ {is : List Nat}, (∀ i ∈ is, i < R.length) → rightsAt R is = is.map (rightOf R)
  | [], _ => rfl
  | i :: is, h => by
    have hi : i < R.length := h i List.mem_cons_self
    have e : R[i]? = some R[i] := List.getElem?_eq_getElem hi
    have : rightsAt R (i :: is) = rightsAt R [i] ++ rightsAt R is := rightsAt_app R [i] is
    rw [this, rightsAt_one e, rights_map (is := is) fun j hj => h j (List.mem_cons_of_mem _ hj)]
    unfold rightOf
    rw [List.map_cons, e]; rfl
/-- passes, n of them -/
def iterF (R : List Rule) : Nat → List Nat × List Nat → List Nat × List Nat
  | 0, st => st
  | n + 1, st => iterF R n (passF R 0 st)
theorem iterF_snoc {R : List Rule} : ∀ (n : Nat) (st : List Nat × List Nat), iterF R (n + 1) st = passF R 0 (iterF R n st)
  | 0, _ => rfl
  | n + 1, st => by rw [iterF, iterF_snoc n (passF R 0 st), iterF]
theorem iterF_stay {R : List Rule} {st : List Nat × List Nat} (n : Nat) (h : passF R 0 (iterF R n st) = iterF R n st) : ∀ k, iterF R (n + k) st = iterF R n st
  | 0 => rfl
  | k + 1 => by rw [← Nat.add_assoc, iterF_snoc, iterF_stay n h k, h]
theorem iter_unique {R : List Rule} {st : List Nat × List Nat} {n m : Nat} (h1 : passF R 0 (iterF R n st) = iterF R n st) (h2 : passF R 0 (iterF R m st) = iterF R m st) : iterF R n st = iterF R m st := by
  rcases Nat.le_total n m with z | z
  · have := iterF_stay n h1 (m - n)
    rw [show n + (m - n) = m by omega] at this
    exact this.symm
  · have := iterF_stay m h2 (n - m)
    rw [show m + (n - m) = n by omega] at this
    exact this
theorem iter_iv {R : List Rule} {b : List Nat} : ∀ (n : Nat) {st : List Nat × List Nat}, IvS R b st → IvS R b (iterF R n st)
  | 0, _, h => h
  | n + 1, _, h => iter_iv n (pass_iv R 0 _ rfl h)
theorem iter_grow {R : List Rule} : ∀ (n : Nat) (st : List Nat × List Nat), passF R 0 (iterF R n st) = iterF R n st ∨ st.1.length + n + 1 ≤ (passF R 0 (iterF R n st)).1.length
  | 0, st => by
    obtain ⟨a, c, e, hl⟩ := pass_grow R 0 st
    by_cases h : passF R 0 st = st
    · exact .inl h
    · refine .inr ?_
      have hc : c ≠ [] := fun z => h (pass_same (by rw [e, z]; simp))
      have := List.length_pos_iff.mpr hc
      show _ ≤ (passF R 0 st).1.length
      rw [e, List.length_append]; omega
  | n + 1, st => by
    by_cases h : passF R 0 st = st
    · have : iterF R (n + 1) st = iterF R n st := by rw [iterF, h]
      rw [this]
      have fx : ∀ m, iterF R m st = st := fun m => by
        induction m with
        | zero => rfl
        | succ m ih => rw [iterF, h, ih]
      rw [fx]
      exact .inl h
    · obtain ⟨a, c, e, hl⟩ := pass_grow R 0 st
      have hc : c ≠ [] := fun z => h (pass_same (by rw [e, z]; simp))
      have := List.length_pos_iff.mpr hc
      rcases iter_grow n (passF R 0 st) with q | q
      · exact .inl q
      · refine .inr ?_
        rw [iterF]
        have e2 : (passF R 0 st).1.length = st.1.length + a.length := by rw [e, List.length_append]
        omega
theorem iter_fix {cols : List Nat} {R : List Rule} {b : List Nat} {st : List Nat × List Nat} (s : Sch cols R) (hb : ∀ x ∈ b, x ∈ cols) (iv : IvS R b st) (n : Nat) (hn : cols.length ≤ n) : passF R 0 (iterF R n st) = iterF R n st := by
  rcases iter_grow n st with q | q
  · exact q
  · have iv2 := pass_iv R 0 _ rfl (iter_iv n iv)
    have := nodup_sub_len iv2.nd fun x hx => (iv2.snd x hx).cols s hb
    omega
theorem clo_clo {cols : List Nat} {R : List Rule} {b : List Nat} (s : Sch cols R) (hb : ∀ x ∈ b, x ∈ cols) : cloF cols R (cloF cols R b) = cloF cols R b := by
  refine (clo_asc s).ext (clo_asc s) fun x => ?_
  rw [mem_clo s hb, mem_clo s fun y hy => clo_sub hy]
  exact ⟨fun z => z.trans fun y hy => (mem_clo s hb).mp hy, fun z => z.congr fun y hy => (mem_clo s hb).mpr (.base hy)⟩
theorem clo_base {cols : List Nat} {R : List Rule} {b : List Nat} (s : Sch cols R) (hb : ∀ x ∈ b, x ∈ cols) {x : Nat} (h : x ∈ b) : x ∈ cloF cols R b := (mem_clo s hb).mpr (.base h)
theorem clo_mono {cols : List Nat} {R : List Rule} {b b' : List Nat} (s : Sch cols R) (hb : ∀ x ∈ b', x ∈ cols) (h : ∀ x ∈ b, x ∈ b') {x : Nat} (z : x ∈ cloF cols R b) : x ∈ cloF cols R b' :=
  (mem_clo s hb).mpr (((mem_clo s fun y hy => hb y (h y hy)).mp z).congr h)
theorem clo_len {cols : List Nat} {R : List Rule} {b : List Nat} (s : Sch cols R) : (cloF cols R b).length ≤ 26 := Nat.le_trans (nodup_sub_len (clo_asc s).nodup fun x hx => clo_sub hx) s.len
theorem clo_small {cols : List Nat} {R : List Rule} {b : List Nat} (s : Sch cols R) : ∀ x ∈ cloF cols R b, x < 1114112 := fun x hx => letter_small (s.let_ x (clo_sub hx))
theorem lit {s : String} {l : List Nat} (h : tl (Str.ofString s) = l) : D.str (Str.ofString s) = dS l := by
  rw [← h, dS, T_tl]
/-- closures that are reckoned -/
theorem clo_calc {cols b : List Nat} {R : List Rule} (l : List Nat) (n : Nat) (s : Sch cols R) (hb : ∀ x ∈ b, x ∈ cols) (hn : b.Nodup) (fx : passF R 0 (iterF R n (b, [])) = iterF R n (b, []))
    (h : (ascB ltN l && l.all (fun x => decide (x ∈ (iterF R n (b, [])).1)) && (iterF R n (b, [])).1.all fun x => decide (x ∈ l)) = true) : cloF cols R b = l := by
  rw [Bool.and_eq_true, Bool.and_eq_true, ordN.ascB, List.all_eq_true, List.all_eq_true] at h
  simp only [decide_eq_true_eq] at h
  have iv := iter_iv n (iv_start (R := R) hn)
  exact (clo_eq s hb h.1.1 fun x => (Iff.intro (h.1.2 x) (h.2 x)).trans (clo_iff iv fx x)).symm
/-- the join of a list of signs of columns -/
theorem join_cols {cols l : List Nat} {R : List Rule} (s : Sch cols R) (h : l.Sublist cols) : gJoin (.str "") [.lst (l.map dC)] = some (dS l) := gJoin_signs l (by
  have := h.length_le
  have := s.len
  omega)
end DL
namespace DL
open PySem PySem.Spec PyProof.Rows L2 TL
/-! ### the law's own things -/
def dW (cols : List Nat) (rs : List Rule) : D := .dic [(.inr "cols", dS cols), (.inr "rules", .tup (rs.map dR))]
@[simp] theorem get_cols (cols : List Nat) (rs : List Rule) : gGet (dW cols rs) (.str "cols") = some (dS cols) := by
  show lkM ([(.inr "cols", dS cols), (.inr "rules", .tup (rs.map dR))] : List (Key × D)) (.inr "cols") = _
  unfold lkM
  rw [List.find?_cons_of_pos (by simp)]; rfl
@[simp] theorem get_rules (cols : List Nat) (rs : List Rule) : gGet (dW cols rs) (.str "rules") = some (.tup (rs.map dR)) := by
  have h : ¬ ((Sum.inr "cols" : Key) = .inr "rules") := by decide +kernel
  show lkM ([(.inr "cols", dS cols), (.inr "rules", .tup (rs.map dR))] : List (Key × D)) (.inr "rules") = _
  unfold lkM
  rw [List.find?_cons_of_neg (by simpa using h), List.find?_cons_of_pos (by simp)]; rfl
def passG (rs : List Rule) (met : List Nat) : List Nat := rs.foldl (fun met r => if !decide (r.2 ∈ met) && r.1.all (fun c => decide (c ∈ met)) then met ++ [r.2] else met) met
theorem passG_F : ∀ (rs : List Rule) (i : Nat) (st : List Nat × List Nat), (passF rs i st).1 = passG rs st.1
  | [], _, _ => rfl
  | r :: rs, i, st => by
    rw [passF, passG_F rs (i + 1)]
    unfold passG
    rw [List.foldl_cons]
    unfold stepF
    split <;> rfl
def iterG (R : List Rule) : Nat → List Nat → List Nat
  | 0, m => m
  | n + 1, m => iterG R n (passG R m)
theorem iterG_F (R : List Rule) : ∀ (n : Nat) (st : List Nat × List Nat), (iterF R n st).1 = iterG R n st.1
  | 0, _ => rfl
  | n + 1, st => by rw [iterF, iterG_F R n, passG_F, iterG]
/-- the key of a rule -/
def kR (r : Rule) : List Key := [.inr (T r.1), .inr (sgn r.2)]
theorem kR_inj {p q : Rule} : kR p = kR q ↔ p = q := by
  constructor
  · intro h
    unfold kR at h
    simp only [List.cons.injEq, Sum.inr.injEq, and_true] at h
    obtain ⟨h1, h2⟩ := h
    rw [T_inj] at h1
    rw [sgn_T, sgn_T, T_inj] at h2
    exact Prod.ext h1 (List.cons.inj h2).1
  · rintro rfl; rfl
def dT (rs : List Rule) : D := .dit (rs.map fun r => (kR r, .bl true))
theorem put_rule (rs : List Rule) (r : Rule) (h : rs.length < 16777216) : putO (dT rs) (dR r) (.bl true) = some (dT (if r ∈ rs then rs else rs ++ [r])) := by
  show ((keysO [dS r.1, dC r.2]).bind fun j => if (rs.map fun r => (kR r, D.bl true)).length < 16777216 then some (D.dit (putM (rs.map fun r => (kR r, D.bl true)) j (.bl true))) else none) = _
  have hk : keysO [dS r.1, dC r.2] = some (kR r) := rfl
  rw [hk, Option.bind_some, List.length_map, if_pos h]
  unfold putM
  have ha : ((rs.map fun r => (kR r, D.bl true)).any fun kv => decide (kv.1 = kR r)) = decide (r ∈ rs) := by
    rw [List.any_map]
    rw [Bool.eq_iff_iff, List.any_eq_true, decide_eq_true_eq]
    constructor
    · rintro ⟨x, hx, e⟩
      have e : kR x = kR r := of_decide_eq_true e
      rw [kR_inj] at e
      rw [← e]; exact hx
    · intro hr
      exact ⟨r, hr, decide_eq_true rfl⟩
  rw [ha]
  by_cases hr : r ∈ rs
  · rw [if_pos (decide_eq_true hr), if_pos hr]
    unfold dT
    congr 2
    rw [List.map_map]
    refine List.map_congr_left fun x _ => ?_
    show (if kR x = kR r then (kR x, D.bl true) else (kR x, D.bl true)) = _
    split <;> rfl
  · rw [if_neg (by simpa using hr), if_neg hr]
    unfold dT
    simp
theorem list_dT (rs : List Rule) : (rs.map fun r => (kR r, D.bl true)).map (fun x : List Key × D => D.tup (x.1.map kD)) = rs.map dR := by
  rw [List.map_map]; rfl
def P11 : List Nat := tl (Str.ofString "abcdefmnxyz")
theorem P11_eq : P11 = [97, 98, 99, 100, 101, 102, 109, 110, 120, 121, 122] := by decide +kernel
theorem P11_str : D.str (Str.ofString "abcdefmnxyz") = dS P11 := by
  show _ = D.str (T (tl _))
  rw [T_tl]
theorem P11_letters : ∀ x ∈ P11, x ∈ letters := by
  rw [P11_eq, letters_eq]; decide
theorem erase_perm {α : Type} : ∀ (l : List α) (i : Nat) (h : i < l.length), (l[i] :: l.eraseIdx i).Perm l
  | x :: l, 0, _ => List.Perm.refl _
  | x :: l, i + 1, h => by
    have h : i < l.length := by simpa using h
    show (l[i] :: x :: l.eraseIdx i).Perm (x :: l)
    exact (List.Perm.swap x l[i] _).trans ((erase_perm l i h).cons x)
theorem erase_map {α β : Type} (f : α → β) : ∀ (l : List α) (i : Nat), (l.map f).eraseIdx i = (l.eraseIdx i).map f
  | [], _ => rfl
  | x :: l, 0 => rfl
  | x :: l, i + 1 => by
    show f x :: (l.map f).eraseIdx i = f x :: (l.eraseIdx i).map f
    rw [erase_map f l i]
theorem gPopAt_nat {α : Type} (f : α → D) (L : List α) (u : Nat) (h : u < L.length) (h2 : L.length ≤ 1000) : gPopAt (L.map f) [.int u] = some (f L[u], (L.eraseIdx u).map f) := by
  have e : seqIndex? (u : Int) (L.map f).length = some u := by
    unfold seqIndex?
    rw [List.length_map]
    have h1 : ¬ ((u : Int) < 0) := by omega
    simp only [if_neg h1]
    rw [if_pos (by simp; omega)]; rfl
  have h0 : gPopAt (L.map f) [.int u] = gPop (L.map f) [.int u] := if_pos rfl
  have h1 : -(2 ^ 63 : Int) ≤ (u : Int) ∧ (u : Int) < 2 ^ 63 := by
    constructor <;> omega
  have h3 : (L.map f)[u]? = some (f L[u]) := by rw [List.getElem?_map, List.getElem?_eq_getElem h]; rfl
  rw [h0, gPop, if_pos h1, e, Option.bind_some, h3, erase_map, Option.map_some]
theorem merge_W (a b : D) : mergeM [] [((.inr "cols" : Key), a), (.inr "rules", b)] = [(.inr "cols", a), (.inr "rules", b)] := by
  have h : ¬ ((Sum.inr "cols" : Key) = .inr "rules") := by decide +kernel
  unfold mergeM putM
  simp [h, putM]
theorem tup_dR (l : List Nat) (x : Nat) : D.tup [dS l, dC x] = dR (l, x) := rfl
theorem gListX_dS (l : List Nat) : gListX [dS l] = some (.lst (l.map dC)) := rfl
theorem rep_nat (ds : List D) (k : Nat) (h : ds.length * k ≤ 1000) (hk : k ≤ 1000) : gMul (.lst ds) (.int k) = some (.lst (List.replicate k ds).flatten) := by
  have h1 : -(2 ^ 63 : Int) ≤ (k : Int) ∧ (k : Int) < 2 ^ 63 ∧ ds.length * (k : Int).toNat ≤ 16777216 := by
    rw [Int.toNat_natCast]
    refine ⟨by omega, by omega, by omega⟩
  have h0 : gMul (.lst ds) (.int k) = gRep (.lst ds) (.int k) := rfl
  rw [h0, gRep, if_pos h1, Int.toNat_natCast]
theorem rep3 (d : D) : gMul (.lst [d]) (.int 3) = some (.lst [d, d, d]) := rep_nat [d] 3 (by simp) (by simp)
theorem rep2 (d : D) : gMul (.lst [d]) (.int 2) = some (.lst [d, d]) := rep_nat [d] 2 (by simp) (by simp)
def pl (x : Cell) : Prop := plainC (some x) = true
theorem pl_no : pl .no := rfl
theorem pl_dat (d : D) : pl (.dat d) := rfl
end DL
namespace DL
open PySem PySem.Spec PyProof.Rows L2 TL
/-! ### derivations by any hand -/
def noObj : D → Bool
  | .obj _ _ => false
  | _ => true
def isInt : D → Bool
  | .int _ => true
  | _ => false
@[simp] theorem kb1 : kitB "NoneType" "int" = some false := by decide +kernel
@[simp] theorem kb2 : kitB "bool" "int" = some true := by decide +kernel
@[simp] theorem kb3 : kitB "int" "int" = some true := by decide +kernel
@[simp] theorem kb4 : kitB "str" "int" = some false := by decide +kernel
@[simp] theorem kb5 : kitB "list" "int" = some false := by decide +kernel
@[simp] theorem kb6 : kitB "tuple" "int" = some false := by decide +kernel
@[simp] theorem kb7 : kitB "dict" "int" = some false := by decide +kernel
@[simp] theorem kb8 : kitB "int" "bool" = some false := by decide +kernel
@[simp] theorem kb9 : kitB "bool" "bool" = some true := by decide +kernel
@[simp] theorem kt1 : kitB "NoneType" "tuple" = some false := by decide +kernel
@[simp] theorem kt2 : kitB "bool" "tuple" = some false := by decide +kernel
@[simp] theorem kt3 : kitB "int" "tuple" = some false := by decide +kernel
@[simp] theorem kt4 : kitB "str" "tuple" = some false := by decide +kernel
@[simp] theorem kt5 : kitB "list" "tuple" = some false := by decide +kernel
@[simp] theorem kt7 : kitB "dict" "tuple" = some false := by decide +kernel
@[simp] theorem ks1 : kitB "NoneType" "str" = some false := by decide +kernel
@[simp] theorem ks2 : kitB "bool" "str" = some false := by decide +kernel
@[simp] theorem ks3 : kitB "int" "str" = some false := by decide +kernel
@[simp] theorem ks5 : kitB "list" "str" = some false := by decide +kernel
@[simp] theorem ks6 : kitB "tuple" "str" = some false := by decide +kernel
@[simp] theorem ks7 : kitB "dict" "str" = some false := by decide +kernel
@[simp] theorem gIs_bl (f : String → Option Bool) (h : Addr → Option Bool) (r : Bool) : gIs f h (.bl r) = (f "bool").map .bl := rfl
@[simp] theorem gIs_non (f : String → Option Bool) (h : Addr → Option Bool) : gIs f h .non = (f "NoneType").map .bl := rfl
@[simp] theorem gIs_str (f : String → Option Bool) (h : Addr → Option Bool) (x : Str) : gIs f h (.str x) = (f "str").map .bl := rfl
@[simp] theorem gIs_dic (f : String → Option Bool) (h : Addr → Option Bool) (x : List (Key × D)) : gIs f h (.dic x) = (f "dict").map .bl := rfl
@[simp] theorem gIs_dit (f : String → Option Bool) (h : Addr → Option Bool) (x : List (List Key × D)) : gIs f h (.dit x) = (f "dict").map .bl := rfl
theorem foldH_inl {R : List Rule} : ∀ {ds : List D} {b : List Nat} {d : D}, foldE (stepH R) b ds = .inl d → d = .bl false
  | [], _, _, h => by cases h
  | a :: ds, b, d, h => by
    rw [foldE] at h
    cases e : stepH R b a with
    | inr s => rw [e] at h; exact foldH_inl h
    | inl d' =>
      rw [e] at h; cases h
      unfold stepH at e
      split at e
      · split at e
        · split at e
          · split at e
            · cases e
            · cases e; rfl
          · cases e; rfl
        · cases e; rfl
      · cases e; rfl
@[simp] theorem gLe_int (i j : Int) : gLe (.int i) (.int j) = some (.bl (decide (i ≤ j))) := rfl
@[simp] theorem gLt_int (i j : Int) : gLt (.int i) (.int j) = some (.bl (decide (i < j))) := EncO.int.gLt Enc.int i j
@[simp] theorem gGt_int (i j : Int) : gGt (.int i) (.int j) = some (.bl (decide (j < i))) := rfl
@[simp] theorem gIsN_non (neg : Bool) (a : D) : gIsN neg a .non = some (.bl (if neg then !isNon a else isNon a)) := rfl
@[simp] theorem gNe_bl (a b : Bool) : gNe (.bl a) (.bl b) = some (.bl (a != b)) := by
  cases a <;> cases b <;> rfl
theorem map_self (ds : List D) : ds = ds.map fun d => d := by simp
def stepV (R : List Rule) (x : Nat) (found : List Nat) (i : Nat) : D ⊕ List Nat := if rightOf R i = x then .inl (.tup ((found ++ [i]).map dN)) else .inr (found ++ [i])
def derivF (R : List Rule) (x : Nat) (is : List Nat) : D := match foldE (stepV R x) [] is with
  | .inl d => d
  | .inr _ => .non
theorem s_1 : D.str (Str.ofString "abcdefgh") = dS [97, 98, 99, 100, 101, 102, 103, 104] := lit (by decide +kernel)
theorem s_2 : D.str (Str.ofString "bcdefgh") = dS [98, 99, 100, 101, 102, 103, 104] := lit (by decide +kernel)
theorem s_3 : D.str (Str.ofString "abcdefg") = dS [97, 98, 99, 100, 101, 102, 103] := lit (by decide +kernel)
theorem s_4 : D.str (Str.ofString "h") = dS [104] := lit (by decide +kernel)
theorem s_5 : D.str (Str.ofString "d") = dS [100] := lit (by decide +kernel)
theorem s_6 : D.str (Str.ofString "a") = dS [97] := lit (by decide +kernel)
theorem s_7 : D.str (Str.ofString "abcd") = dS [97, 98, 99, 100] := lit (by decide +kernel)
theorem s_8 : D.str (Str.ofString "abcde") = dS [97, 98, 99, 100, 101] := lit (by decide +kernel)
theorem s_9 : D.str (Str.ofString "b") = dS [98] := lit (by decide +kernel)
theorem s_10 : D.str (Str.ofString "c") = dS [99] := lit (by decide +kernel)
theorem s_11 : D.str (Str.ofString "cd") = dS [99, 100] := lit (by decide +kernel)
theorem s_12 : D.str (Str.ofString "e") = dS [101] := lit (by decide +kernel)
theorem s_13 : D.str (Str.ofString "ad") = dS [97, 100] := lit (by decide +kernel)
theorem s_14 : D.str (Str.ofString "abc") = dS [97, 98, 99] := lit (by decide +kernel)
theorem s_15 : D.str (Str.ofString "") = dS [] := rfl
def R8 : List Rule := [([98], 97), ([99], 98), ([100], 99), ([101], 100), ([102], 101), ([103], 102), ([104], 103)]
theorem k8 : Sch [97, 98, 99, 100, 101, 102, 103, 104] R8 := schemeB_iff.mp (by decide +kernel)
theorem rg7 : rgD 0 7 = [D.int (0 : Nat), .int (1 : Nat), .int (2 : Nat), .int (3 : Nat), .int (4 : Nat), .int (5 : Nat), .int (6 : Nat)] := rfl
/-! what is led to -/
theorem foldE_app {σ α : Type} {st : σ → α → D ⊕ σ} : ∀ (a : List α) (s : σ) (b : List α), foldE st s (a ++ b) = match foldE st s a with
    | .inl d => .inl d
    | .inr u => foldE st u b
  | [], _, _ => rfl
  | x :: a, s, b => by
    rw [List.cons_append, foldE, foldE]
    cases st s x with
    | inl d => rfl
    | inr u => exact foldE_app a u b
theorem stepH_inr {R : List Rule} {known u : List Nat} {i : Nat} (h : stepH R known (dN i) = .inr u) : u = known ++ [rightOf R i] := by
  unfold stepH dN at h
  dsimp only at h
  split at h
  · split at h
    · rename_i r e
      split at h
      · cases h
        rw [Int.toNat_natCast] at e
        simp [rightOf, e]
      · cases h
    · cases h
  · cases h
theorem foldH_inr {R : List Rule} : ∀ {is b u : List Nat}, foldE (stepH R) b (is.map dN) = .inr u → u = b ++ is.map (rightOf R)
  | [], _, _, h => by cases h; simp
  | i :: is, b, u, h => by
    rw [List.map_cons, foldE] at h
    cases e : stepH R b (dN i) with
    | inl d => rw [e] at h; cases h
    | inr v =>
      rw [e] at h
      rw [foldH_inr h, stepH_inr e]; simp
theorem foldV_no {R : List Rule} {x : Nat} : ∀ {is acc : List Nat}, (∀ i ∈ is, rightOf R i ≠ x) → foldE (stepV R x) acc is = .inr (acc ++ is)
  | [], _, _ => by simp [foldE]
  | i :: is, acc, h => by
    rw [foldE]
    have h1 : stepV R x acc i = .inr (acc ++ [i]) := if_neg (h i List.mem_cons_self)
    rw [h1]
    dsimp only
    rw [foldV_no fun j hj => h j (List.mem_cons_of_mem _ hj)]; simp
theorem foldV_yes {R : List Rule} {x i : Nat} : ∀ {pre post acc : List Nat}, (∀ j ∈ pre, rightOf R j ≠ x) → rightOf R i = x → foldE (stepV R x) acc (pre ++ i :: post) = .inl (.tup ((acc ++ pre ++ [i]).map dN))
  | [], post, acc, _, h => by
    rw [List.nil_append, foldE]
    have h1 : stepV R x acc i = .inl (.tup ((acc ++ [i]).map dN)) := if_pos h
    rw [h1]; simp
  | j :: pre, post, acc, hp, h => by
    rw [List.cons_append, foldE]
    have h1 : stepV R x acc j = .inr (acc ++ [j]) := if_neg (hp j List.mem_cons_self)
    rw [h1]
    dsimp only
    rw [foldV_yes (fun k hk => hp k (List.mem_cons_of_mem _ hk)) h]; simp
theorem first_of {α : Type} {p : α → Prop} [DecidablePred p] : ∀ {l : List α}, (∃ a ∈ l, p a) → ∃ pre a post, l = pre ++ a :: post ∧ (∀ b ∈ pre, ¬ p b) ∧ p a
  | [], ⟨_, h, _⟩ => by cases h
  | a :: l, h => by
    by_cases ha : p a
    · exact ⟨[], a, l, rfl, (fun _ h => nomatch h), ha⟩
    · obtain ⟨pre, b, post, e, h1, h2⟩ := first_of (l := l) (by
        obtain ⟨b, hb, hp⟩ := h
        rcases List.mem_cons.mp hb with z | z
        · subst z; exact absurd hp ha
        · exact ⟨b, z, hp⟩)
      exact ⟨a :: pre, b, post, by rw [e]; rfl, fun c hc => by
        rcases List.mem_cons.mp hc with z | z
        · subst z; exact ha
        · exact h1 c z, h2⟩
/-- what the derivation tells: not settled, or a derivation -/
theorem deriv_tells {cols : List Nat} {R : List Rule} {b : List Nat} {st : List Nat × List Nat} (s : Sch cols R) (hs : ∀ x ∈ b, x ∈ cols) (iv : IvS R b st) (fx : passF R 0 st = st) (x : Nat) (it : D) (hit : it = if x ∈ b then .tup [] else derivF R x st.2) :
    (it = .non ∧ x ∉ cloF cols R b) ∨ ∃ is : List Nat, it = .tup (is.map dN) ∧ (∀ i ∈ is, i ∈ st.2) ∧ is.length ≤ st.2.length ∧ x ∈ cloF cols R b ∧ holdsB R b x it = true := by
  have hcl : x ∈ cloF cols R b ↔ x ∈ st.1 := (mem_clo s hs).trans (clo_iff iv fx x).symm
  by_cases hx : x ∈ b
  · rw [if_pos hx] at hit
    refine .inr ⟨[], hit, fun _ h => (by cases h), by simp, clo_base s hs hx, ?_⟩
    rw [hit]
    simp [holdsB, foldE, hx]
  · rw [if_neg hx] at hit
    have he : x ∈ st.1 ↔ ∃ i ∈ st.2, rightOf R i = x := by
      rw [iv.eq, rights_map iv.lt, List.mem_append, List.mem_map]
      exact ⟨fun h => h.resolve_left hx, .inr⟩
    by_cases hy : ∃ i ∈ st.2, rightOf R i = x
    · obtain ⟨pre, i, post, e, h1, h2⟩ := first_of hy
      have hd : derivF R x st.2 = .tup ((pre ++ [i]).map dN) := by
        unfold derivF
        rw [e, foldV_yes h1 h2]; rfl
      rw [hd] at hit
      have ld := iv.ld
      rw [e, show pre ++ i :: post = (pre ++ [i]) ++ post by simp, List.map_append, foldE_app] at ld
      cases hf : foldE (stepH R) b ((pre ++ [i]).map dN) with
      | inl d => rw [hf] at ld; cases ld
      | inr u =>
        have hu := foldH_inr hf
        refine .inr ⟨pre ++ [i], hit, fun j hj => ?_, by rw [e]; simp, hcl.mpr (he.mpr hy), ?_⟩
        · rw [e]
          rcases List.mem_append.mp hj with z | z
          · exact List.mem_append_left _ z
          · rw [List.mem_singleton.mp z]; simp
        · rw [hit]
          have : x ∈ u := by rw [hu]; simp [h2]
          simp only [holdsB]
          rw [hf]
          exact decide_eq_true this
    · refine .inl ⟨?_, fun z => hy (he.mp (hcl.mp z))⟩
      rw [hit]
      unfold derivF
      rw [foldV_no fun i hi e => hy ⟨i, hi, e⟩]
end DL
namespace DL
open PySem PySem.Spec PyProof.Rows L2 TL
/-! ### all strings of some columns -/
def subsF : List Nat → List (List Nat) → List (List Nat)
  | [], acc => acc
  | x :: r, acc => subsF r (acc ++ acc.map fun a => a ++ [x])
theorem mem_subsF : ∀ (r : List Nat) (acc : List (List Nat)) (s : List Nat), s ∈ subsF r acc ↔ ∃ a ∈ acc, ∃ t, t.Sublist r ∧ s = a ++ t
  | [], acc, s => by
    rw [subsF]
    constructor
    · intro h; exact ⟨s, h, [], List.Sublist.refl _, by simp⟩
    · rintro ⟨a, ha, t, ht, rfl⟩
      rw [List.sublist_nil.mp ht, List.append_nil]; exact ha
  | x :: r, acc, s => by
    rw [subsF, mem_subsF r]
    constructor
    · rintro ⟨a, ha, t, ht, rfl⟩
      rcases List.mem_append.mp ha with h | h
      · exact ⟨a, h, t, ht.cons x, rfl⟩
      · obtain ⟨b, hb, rfl⟩ := List.mem_map.mp h
        exact ⟨b, hb, x :: t, ht.cons₂ x, by simp⟩
    · rintro ⟨a, ha, t, ht, rfl⟩
      cases ht with
      | cons _ h => exact ⟨a, List.mem_append_left _ ha, t, h, rfl⟩
      | cons_cons _ h => exact ⟨a ++ [x], List.mem_append_right _ (List.mem_map.mpr ⟨a, ha, rfl⟩), _, h, by simp⟩
theorem len_subsF : ∀ (r : List Nat) (acc : List (List Nat)), (subsF r acc).length = acc.length * 2 ^ r.length
  | [], acc => by simp [subsF]
  | x :: r, acc => by
    rw [subsF, len_subsF r, List.length_append, List.length_map, List.length_cons, Nat.pow_succ, ← Nat.mul_two, Nat.mul_assoc, Nat.mul_comm 2]
theorem mem_subs {cols s : List Nat} : s ∈ subsF cols [[]] ↔ s.Sublist cols := by
  rw [mem_subsF]
  constructor
  · rintro ⟨a, ha, t, ht, rfl⟩
    rw [List.mem_singleton.mp ha]; exact ht
  · intro h; exact ⟨[], by simp, s, h, rfl⟩
def leL (a b : List Nat) : Bool := decide (a.length ≤ b.length)
def sortLen (l : List (List Nat)) : List (List Nat) := l.mergeSort leL
theorem mem_sortLen {l : List (List Nat)} {x : List Nat} : x ∈ sortLen l ↔ x ∈ l := (List.mergeSort_perm l leL).mem_iff
theorem sortLen_len (l : List (List Nat)) : (sortLen l).length = l.length := (List.mergeSort_perm l leL).length_eq
theorem sortLen_pw (l : List (List Nat)) : (sortLen l).Pairwise fun a b => a.length ≤ b.length :=
  (List.pairwise_mergeSort (le := leL) (fun a b c h1 h2 => by simp [leL] at *; omega) (fun a b => by simp [leL]; omega) l).imp fun h => by simpa [leL] using h
@[simp] theorem gSortLen_dS (l : List (List Nat)) : gSortLen [.lst (l.map dS)] = some (.lst ((sortLen l).map dS)) := by
  show (if (l.map dS).all isStrD = true then some (D.lst ((l.map dS).mergeSort leLen)) else none) = _
  rw [if_pos (by simp [dS, isStrD])]
  unfold sortLen
  rw [List.map_mergeSort (s := leLen) fun a _ b _ => ?_]
  show decide (a.length ≤ b.length) = decide (((a.length : Nat) : Int) ≤ ((b.length : Nat) : Int))
  exact decide_eq_decide.mpr (by omega)
theorem gAdd_lst (a b : List D) (h : a.length + b.length ≤ 16777216) : gAdd (.lst a) (.lst b) = some (.lst (a ++ b)) := if_pos h
/-! ### the least ones -/
theorem asc_sub_eq {s t : List Nat} (hs : Asc s) (ht : Asc t) (h : ∀ x ∈ t, x ∈ s) (hl : s.length ≤ t.length) : t = s := by
  refine ht.ext hs fun x => ⟨h x, fun hx => ?_⟩
  by_cases hm : x ∈ t
  · exact hm
  · have hn : (t ++ [x]).Nodup := by
      rw [List.nodup_append]
      refine ⟨ht.nodup, by simp, fun a ha b hb e => ?_⟩
      rw [List.mem_singleton.mp hb] at e
      exact hm (e ▸ ha)
    have := nodup_sub_len hn fun y hy => by
      rcases List.mem_append.mp hy with z | z
      · exact h y z
      · rw [List.mem_singleton.mp z]; exact hx
    rw [List.length_append, List.length_singleton] at this
    omega
def subB (a b : List Nat) : Bool := a.all fun x => decide (x ∈ b)
theorem subB_iff {a b : List Nat} : subB a b = true ↔ ∀ x ∈ a, x ∈ b := by
  unfold subB
  rw [List.all_eq_true]
  simp
theorem isEmpty_notin (l m : List Nat) : (l.filter fun x => !decide (x ∈ m)).isEmpty = subB l m := by
  unfold subB
  rw [Bool.eq_iff_iff, List.isEmpty_iff, List.filter_eq_nil_iff, List.all_eq_true]
  simp
theorem not_any_notin (l m : List Nat) : (!l.any fun x => !decide (x ∈ m)) = subB l m := by
  unfold subB
  rw [Bool.eq_iff_iff, Bool.not_eq_true', List.any_eq_false, List.all_eq_true]
  simp
theorem isEmpty_filter_any {α : Type} (q : α → Bool) (l : List α) : (l.filter q).isEmpty = !l.any q := by
  rw [Bool.eq_iff_iff, List.isEmpty_iff, List.filter_eq_nil_iff, Bool.not_eq_true', List.any_eq_false]
def keyStep (full : List Nat → Bool) (found : List (List Nat)) (x : List Nat) : List (List Nat) := if !(found.any fun k => subB k x) && full x then found ++ [x] else found
def keysOf (full : List Nat → Bool) (L : List (List Nat)) : List (List Nat) := L.foldl (keyStep full) []
structure LeastIn (full : List Nat → Bool) (P found : List (List Nat)) : Prop where
  nd : found.Nodup
  mem : ∀ s, s ∈ found ↔ s ∈ P ∧ full s = true ∧ ∀ t ∈ P, full t = true → (∀ x ∈ t, x ∈ s) → t = s
theorem least_ex {full : List Nat → Bool} {P : List (List Nat)} (hA : ∀ s ∈ P, Asc s) : ∀ (n : Nat) (t : List Nat), t.length ≤ n → t ∈ P → full t = true → ∃ s ∈ P, full s = true ∧ (∀ x ∈ s, x ∈ t) ∧ ∀ u ∈ P, full u = true → (∀ x ∈ u, x ∈ s) → u = s
  | n, t, hn, ht, hf => by
    by_cases h : ∃ u ∈ P, full u = true ∧ (∀ x ∈ u, x ∈ t) ∧ u ≠ t
    · obtain ⟨u, hu, fu, su, ne⟩ := h
      have hlt : u.length < t.length := by
        by_cases z : t.length ≤ u.length
        · exact absurd (asc_sub_eq (hA t ht) (hA u hu) su z) ne
        · omega
      match n, hn with
      | 0, hn => omega
      | n + 1, hn =>
        obtain ⟨s, hs, fs, ss, ms⟩ := least_ex hA n u (by omega) hu fu
        exact ⟨s, hs, fs, fun x hx => su x (ss x hx), ms⟩
    · refine ⟨t, ht, hf, fun _ h => h, fun u hu fu su => ?_⟩
      by_cases e : u = t
      · exact e
      · exact absurd ⟨u, hu, fu, su, e⟩ h
theorem least_step {full : List Nat → Bool} {P found : List (List Nat)} {x : List Nat} (h : LeastIn full P found) (hA : ∀ s ∈ P, Asc s) (hx : Asc x) (hl : ∀ s ∈ P, s.length ≤ x.length) : LeastIn full (P ++ [x]) (keyStep full found x) := by
  unfold keyStep
  by_cases c : (!(found.any fun k => subB k x) && full x) = true
  · rw [if_pos c]
    rw [Bool.and_eq_true, Bool.not_eq_true', List.any_eq_false] at c
    obtain ⟨c1, c2⟩ := c
    have c1 : ∀ k ∈ found, ¬ ∀ y ∈ k, y ∈ x := fun k hk z => c1 k hk (subB_iff.mpr z)
    have none : ∀ t ∈ P, full t = true → ¬ ∀ y ∈ t, y ∈ x := fun t ht ft st => by
      obtain ⟨s, hs, fs, ss, ms⟩ := least_ex hA t.length t (Nat.le_refl _) ht ft
      exact c1 s ((h.mem s).mpr ⟨hs, fs, ms⟩) fun y hy => st y (ss y hy)
    refine ⟨?_, fun s => ?_⟩
    · rw [List.nodup_append]
      refine ⟨h.nd, by simp, fun a ha b hb e => ?_⟩
      rw [List.mem_singleton.mp hb] at e
      exact c1 a ha (e ▸ fun _ h => h)
    · rw [List.mem_append, h.mem, List.mem_append]
      constructor
      · rintro (⟨h1, h2, h3⟩ | h1)
        · refine ⟨.inl h1, h2, fun t ht ft st => ?_⟩
          rcases List.mem_append.mp ht with z | z
          · exact h3 t z ft st
          · have e := List.mem_singleton.mp z
            rw [e] at st ⊢
            exact asc_sub_eq (hA s h1) hx st (hl s h1)
        · have e := List.mem_singleton.mp h1
          refine ⟨.inr h1, by rw [e]; exact c2, fun t ht ft st => ?_⟩
          rcases List.mem_append.mp ht with z | z
          · rw [e] at st; exact absurd st (none t z ft)
          · rw [e]; exact List.mem_singleton.mp z
      · rintro ⟨h1 | h1, h2, h3⟩
        · exact .inl ⟨h1, h2, fun t ht => h3 t (List.mem_append_left _ ht)⟩
        · exact .inr h1
  · rw [if_neg c]
    refine ⟨h.nd, fun s => ?_⟩
    rw [h.mem, List.mem_append]
    constructor
    · rintro ⟨h1, h2, h3⟩
      refine ⟨.inl h1, h2, fun t ht ft st => ?_⟩
      rcases List.mem_append.mp ht with z | z
      · exact h3 t z ft st
      · have e := List.mem_singleton.mp z
        rw [e] at st ⊢
        exact asc_sub_eq (hA s h1) hx st (hl s h1)
    · rintro ⟨h1 | h1, h2, h3⟩
      · exact ⟨h1, h2, fun t ht => h3 t (List.mem_append_left _ ht)⟩
      · have e := List.mem_singleton.mp h1
        subst e
        -- not taken: a key of it is known already
        have hex : ∃ k ∈ found, subB k s = true := by
          cases hany : found.any fun k => subB k s with
          | true => exact List.any_eq_true.mp hany
          | false => exact absurd (by rw [hany, h2]; rfl) c
        obtain ⟨k, hk, z⟩ := hex
        have z := subB_iff.mp z
        obtain ⟨k1, k2, k3⟩ := (h.mem k).mp hk
        have e2 : k = s := h3 k (List.mem_append_left _ k1) k2 z
        exact ⟨e2 ▸ k1, h2, fun t ht => h3 t (List.mem_append_left _ ht)⟩
theorem least_all {full : List Nat → Bool} : ∀ (L P found : List (List Nat)), LeastIn full P found → (∀ s ∈ P ++ L, Asc s) → (L.Pairwise fun a b => a.length ≤ b.length) → (∀ s ∈ P, ∀ x ∈ L, s.length ≤ x.length) → LeastIn full (P ++ L) (L.foldl (keyStep full) found)
  | [], P, found, h, _, _, _ => by simpa using h
  | x :: L, P, found, h, hA, hp, hl => by
    rw [List.pairwise_cons] at hp
    have h1 := least_step h (fun s hs => hA s (List.mem_append_left _ hs)) (hA x (by simp)) fun s hs => hl s hs x List.mem_cons_self
    have h2 := least_all L (P ++ [x]) _ h1 (fun s hs => hA s (by simpa using hs)) hp.2 fun s hs y hy => by
      rcases List.mem_append.mp hs with z | z
      · exact hl s z y (List.mem_cons_of_mem _ hy)
      · rw [List.mem_singleton.mp z]; exact hp.1 y hy
    rw [List.foldl_cons]
    simpa using h2
theorem least_keys {full : List Nat → Bool} {L : List (List Nat)} (hA : ∀ s ∈ L, Asc s) (hp : L.Pairwise fun a b => a.length ≤ b.length) : LeastIn full L (keysOf full L) := by
  have h := least_all (full := full) L [] [] ⟨List.nodup_nil, fun s => by simp⟩ (by simpa using hA) hp (by simp)
  rw [List.nil_append] at h
  exact h
/-- the keys of a list, and of those of it that are full: the same, in order -/
theorem keys_same {full : List Nat → Bool} {L M : List (List Nat)} (hA : ∀ s ∈ L, Asc s) (hm : ∀ s, s ∈ M ↔ s ∈ L ∧ full s = true) : sortB (lexL ltN) (keysOf (fun _ => true) (sortLen M)) = sortB (lexL ltN) (keysOf full (sortLen L)) := by
  have h1 := least_keys (full := full) (L := sortLen L) (fun s hs => hA s (mem_sortLen.mp hs)) (sortLen_pw L)
  have h2 := least_keys (full := fun _ => true) (L := sortLen M) (fun s hs => hA s ((hm s).mp (mem_sortLen.mp hs)).1) (sortLen_pw M)
  have o := ordL ordN
  refine o.ext (o.asc h2.nd) (o.asc h1.nd) fun s => ?_
  rw [mem_sortB, mem_sortB, h2.mem, h1.mem]
  simp only [mem_sortLen, hm]
  constructor
  · rintro ⟨⟨a, b⟩, _, c⟩
    exact ⟨a, b, fun t ht ft => c t ⟨ht, ft⟩ trivial⟩
  · rintro ⟨a, b, c⟩
    exact ⟨⟨a, b⟩, trivial, fun t ht _ => c t ht.1 ht.2⟩
theorem keysOf_len {full : List Nat → Bool} : ∀ (L found : List (List Nat)), (L.foldl (keyStep full) found).length ≤ found.length + L.length
  | [], _ => by simp
  | x :: L, found => by
    rw [List.foldl_cons, List.length_cons]
    have h := keysOf_len (full := full) L (keyStep full found x)
    have : (keyStep full found x).length ≤ found.length + 1 := by
      unfold keyStep; split <;> simp
    omega
theorem keysOf_mem {full : List Nat → Bool} : ∀ (L found : List (List Nat)) (s : List Nat), s ∈ L.foldl (keyStep full) found → s ∈ found ∨ s ∈ L
  | [], _, _, h => .inl h
  | x :: L, found, s, h => by
    rw [List.foldl_cons] at h
    rcases keysOf_mem L _ s h with z | z
    · unfold keyStep at z
      split at z
      · rcases List.mem_append.mp z with q | q
        · exact .inl q
        · exact .inr (by rw [List.mem_singleton.mp q]; simp)
      · exact .inl z
    · exact .inr (List.mem_cons_of_mem _ z)
theorem keysOf_ne {full : List Nat → Bool} {L : List (List Nat)} (hA : ∀ s ∈ L, Asc s) (hp : L.Pairwise fun a b => a.length ≤ b.length) {s : List Nat} (hs : s ∈ L) (hf : full s = true) : keysOf full L ≠ [] := fun e => by
  obtain ⟨t, ht, ft, st, mt⟩ := least_ex hA s.length s (Nat.le_refl _) hs hf
  have := ((least_keys hA hp).mem t).mpr ⟨ht, ft, mt⟩
  rw [e] at this; cases this
end DL
namespace DL
open PySem PySem.Spec PyProof.Rows L2 TL
/-! ### sorted(set(a list of tuples of ints)) -/
def dI (k : List Int) : D := .tup (k.map .int)
def intsD : List D → Option (List Int)
  | [] => some []
  | .int i :: ds => (intsD ds).map (i :: ·)
  | _ => none
def unI : D → Option (List Int)
  | .tup ds => intsD ds
  | _ => none
def rowsD : List D → Option (List (List Int))
  | [] => some []
  | d :: ds => (unI d).bind fun k => (rowsD ds).map (k :: ·)
def onceL {α : Type} [DecidableEq α] : List α → List α
  | [] => []
  | a :: l => if a ∈ onceL l then onceL l else a :: onceL l
theorem mem_once {α : Type} [DecidableEq α] : ∀ {l : List α} {x : α}, x ∈ onceL l ↔ x ∈ l
  | [], _ => Iff.rfl
  | a :: l, x => by
    rw [onceL]
    split
    · rename_i h
      rw [mem_once, List.mem_cons]
      exact ⟨.inr, fun z => z.elim (fun e => e ▸ mem_once.mp h) id⟩
    · rw [List.mem_cons, List.mem_cons, mem_once]
theorem once_nodup {α : Type} [DecidableEq α] : ∀ {l : List α}, (onceL l).Nodup
  | [] => List.nodup_nil
  | a :: l => by
    rw [onceL]
    split
    · exact once_nodup
    · rename_i h
      exact List.nodup_cons.mpr ⟨h, once_nodup⟩
def setRows (ks : List (List Int)) : List (List Int) := sortB (lexL ltI) (onceL ks)
def okRows (ks : List (List Int)) : Bool := decide (ks.length < 64) && (ks.all (fun k => !k.isEmpty) || ks.all fun k => k.isEmpty)
def gSortSet : List D → Option D
  | [.lst ds] => (rowsD ds).bind fun ks => if okRows ks = true then some (.lst ((setRows ks).map dI)) else none
  | _ => none
theorem intsD_eq : ∀ {ds : List D} {k : List Int}, intsD ds = some k → ds = k.map .int
  | [], k, h => by cases h; rfl
  | d :: ds, k, h => by
    cases d with
    | int i =>
      have h : (intsD ds).map (i :: ·) = some k := h
      cases q : intsD ds with
      | none => rw [q] at h; cases h
      | some m => rw [q] at h; cases h; rw [intsD_eq q]; rfl
    | _ => cases h
theorem intsD_map : ∀ k : List Int, intsD (k.map .int) = some k
  | [] => rfl
  | i :: k => by
    show (intsD (k.map .int)).map (i :: ·) = _
    rw [intsD_map k]; rfl
theorem unI_dI (k : List Int) : unI (dI k) = some k := intsD_map k
theorem unI_eq {d : D} {k : List Int} (h : unI d = some k) : d = dI k := by
  cases d with
  | tup ds => rw [show ds = k.map .int from intsD_eq h]; rfl
  | _ => cases h
theorem rowsD_map : ∀ l : List (List Int), rowsD (l.map dI) = some l
  | [] => rfl
  | k :: l => by
    show ((unI (dI k)).bind fun k => (rowsD (l.map dI)).map (k :: ·)) = _
    rw [unI_dI, rowsD_map l]; rfl
theorem dds_ints' {K : PySem.W.Frag} {G : Hp} : ∀ {vs : List V} {k : List Int}, DDs K G vs (k.map .int) → vs = k.map V.int
  | _, [], .nil => rfl
  | _, i :: k, .cons a b => by
    cases a
    rw [dds_ints' b]; rfl
theorem rows_refs {K : PySem.W.Frag} {G : Hp} : ∀ {vs : List V} {ds : List D} {ks : List (List Int)}, DDs K G vs ds → rowsD ds = some ks →
    ∃ L : List (Addr × List Int), vs = (L.map fun p => V.ref p.1) ∧ L.map (·.2) = ks ∧ ∀ p ∈ L, SqT K G p.1 (p.2.map V.int) ∧ DD K G (.ref p.1) (dI p.2)
  | _, _, ks, .nil, h => by cases h; exact ⟨[], rfl, rfl, fun _ h => by cases h⟩
  | _, _, ks, .cons (v := v) (vs := vs) (d := d) (ds := ds) a b, h => by
    have h : ((unI d).bind fun k => (rowsD ds).map (k :: ·)) = some ks := h
    cases q : unI d with
    | none => rw [q] at h; cases h
    | some k =>
      rw [q] at h
      have h : (rowsD ds).map (k :: ·) = some ks := h
      cases q2 : rowsD ds with
      | none => rw [q2] at h; cases h
      | some m =>
        rw [q2] at h
        cases h
        obtain ⟨L, e1, e2, h3⟩ := rows_refs b q2
        have ed := unI_eq q
        subst ed
        have a' := a
        cases a with
        | tup hg hz dd =>
          rename_i t us
          rw [dds_ints' dd] at hg
          refine ⟨(t, k) :: L, by rw [e1]; rfl, by rw [List.map_cons, e2], fun p hp => ?_⟩
          rcases List.mem_cons.mp hp with e | hp
          · rw [e]; exact ⟨.inl (.inl hg), a'⟩
          · exact h3 p hp
theorem perm_map_inv {α β : Type} {f : α → β} {vs ws : List β} (p : vs.Perm ws) : ∀ L : List α, ws = L.map f → ∃ L1 : List α, L1.Perm L ∧ vs = L1.map f := by
  induction p with
  | nil =>
    intro L e
    cases L with
    | nil => exact ⟨[], List.Perm.refl _, rfl⟩
    | cons _ _ => cases e
  | cons x p ih =>
    intro L e
    cases L with
    | nil => cases e
    | cons a L =>
      injection e with e1 e2
      obtain ⟨L1, p1, e3⟩ := ih L e2
      exact ⟨a :: L1, p1.cons a, by rw [e1, e3]; rfl⟩
  | swap x y l =>
    intro L e
    match L, e with
    | [], e => cases e
    | [_], e => injection e with _ e; cases e
    | a :: b :: L, e =>
      injection e with e1 e; injection e with e2 e3
      exact ⟨b :: a :: L, List.Perm.swap a b L, by rw [e1, e2, e3]; rfl⟩
  | trans p1 p2 ih1 ih2 =>
    intro L e
    obtain ⟨L2, q2, e2⟩ := ih2 L e
    obtain ⟨L1, q1, e1⟩ := ih1 L2 e2
    exact ⟨L1, q1.trans q2, e1⟩
theorem eI : Enc dI 1 := Enc.int.tup
theorem oI : EncO dI (lexL ltI) := EncO.int.tup Enc.int ordI
def ordRow : Ordr (lexL ltI) := ordL ordI
theorem le_rows (a b : Addr × List Int) : PySem.W.dataLe false (fun p : Addr × List Int => (dI p.2).py) a b = leB (lexL ltI) a.2 b.2 := leD_enc oI a.2 b.2
/-- sorted(the set): the tuples in order -/
def rSortS (K : PySem.W.Frag) (P : Program) (w : World) : List V → Hp → VK → Prop := fun vs H Q => ∃ (a : Addr) (L : List (Addr × List Int)), vs = [V.ref a] ∧ H a = some (SetTO P w a L) ∧ (∀ p ∈ L, SqT K H p.1 (p.2.map V.int)) ∧ ((∀ p ∈ L, p.2 ≠ []) ∨ ∀ p ∈ L, p.2 = []) ∧
  ∀ (L' : List (Addr × List Int)) (p : Addr), L'.Perm L → (L'.map (·.2)).Nodup → (L'.map (·.2)).Pairwise (fun a b => leB (lexL ltI) a b = true) → H p = none → L'.length < 64 → Q (.ref p) (upd H p (.lst (L'.map fun q => V.ref q.1)))
theorem each_rows {h : Heap} : ∀ (L : List (Addr × List Int)), (∀ p ∈ L, ∃ as, Reads h (.ref p.1) (dI p.2).py as) →
    PySem.W.EachIs (fun v p => v = Value.ref p.1) (L.map fun p => Value.ref p.1) L ∧ PySem.W.EachIs (fun v (p : Addr × List Int) => ∃ as, Reads h v (dI p.2).py as) (L.map fun p => Value.ref p.1) L
  | [], _ => ⟨.nil, .nil⟩
  | p :: L, h => by
    obtain ⟨a, b⟩ := each_rows L fun q hq => h q (List.mem_cons_of_mem _ hq)
    exact ⟨.cons rfl a, .cons (h p List.mem_cons_self) b⟩
theorem each_refs {vs : List Value} {L : List (Addr × List Int)} (h : PySem.W.EachIs (fun v p => v = Value.ref p.1) vs L) : vs = L.map fun p => Value.ref p.1 := by
  induction h with
  | nil => rfl
  | cons e _ ih => rw [e, ih]; rfl
theorem sorts_few {P : Program} {w : World} {A : Around} {s : Shared} {vs : List Value} {ds : List PyData} (e : PySem.W.EachIs (fun v d => ∃ as, Reads s.heap v d as) vs ds) (hal : PySem.W.AllAlike ds) (hn : ∀ d ∈ ds, d ≠ .none) (hl : vs.length ≤ 1) (hu : ∀ d ∈ ds, A.units + d.depth < cLine) : PySem.W.SortsAt P w A s (PySem.W.dataKind s.heap ds) vs := by
  refine ⟨fun v hv => ?_, general', ?_, fun h2 => absurd h2 (by omega)⟩
  · obtain ⟨d, hd, as, r⟩ := e.left v hv
    exact ⟨_, PySem.W.dataKind_some hal hd r⟩
  · intro E x y a b Q ha hb hq
    obtain ⟨d, as, hd, ra, rfl⟩ := PySem.W.dataKind_inv ha
    obtain ⟨d', as', hd', rb, rfl⟩ := PySem.W.dataKind_inv hb
    exact PySem.W.oneLt_alike (f := false) (fun z => nomatch z) ra rb (hal d hd d' hd') (hn d hd) (Nat.lt_of_le_of_lt (Nat.add_le_add_left (Nat.min_le_left _ _) _) (hu d hd)) hq
theorem dI_dep (k : List Int) : (dI k).py.depth ≤ 1 := eI.dep k
theorem isT_reads {P : Program} {w : World} {h : Heap} {k : List Int} {b : Addr} (x : IsT P w h k b) : ∃ as, Reads h (.ref b) (dI k).py as := by
  obtain ⟨o, items, n, ho, hc, hd, hi⟩ := x
  have key : ∀ (vs : List Value) (k : List Int), ItemsAre (intKind P w) k vs → ReadsAll h vs (pyL (k.map .int)) [] := by
    intro vs k hi
    induction hi with
    | nil => exact .nil
    | cons h1 _ ih =>
      obtain ⟨t, rfl⟩ := Value.isInt_shape h1
      exact .cons (as := []) (bs := []) (.int _ _) ih
  exact ⟨_, .tuple ho hc hd (key _ _ hi)⟩
theorem sort_rows {P : Program} {w : World} {A : Around} {E : Value → Shared → Prop} {s : Shared} {a : Addr} {n : Nat} {Lc : List (Addr × List Int)} {vs : List Value} {Q : Value → Shared → Prop} (hv : vs = Lc.map fun p => Value.ref p.1) (ho : s.heap.get? a = some (seqObj "list" vs.toArray n))
    (hr : ∀ p ∈ Lc, ∃ as, Reads (PySem.W.sortingHeap s.heap a vs) (.ref p.1) (dI p.2).py as) (hne : (∀ p ∈ Lc, p.2 ≠ []) ∨ Lc.length ≤ 1) (hl : Lc.length ≤ sizeLine) (hu : A.units + 8 < cLine)
    (h : ∀ L' : List (Addr × List Int), L'.Perm Lc → (L'.map (·.2)).Pairwise (fun a b => leB (lexL ltI) a b = true) → Q .none { s with heap := sortedHeap s.heap a vs (L'.map fun p => Value.ref p.1).toArray }) :
    wpAny (model P w) A (call (.builtin "list.sort") [.ref a]) Q E s := by
  obtain ⟨e1, e2⟩ := each_rows (h := PySem.W.sortingHeap s.heap a vs) Lc hr
  rw [← hv] at e1 e2
  have hal : PySem.W.AllAlike (Lc.map fun p => (dI p.2).py) := fun d hd d' hd' => by
    obtain ⟨p, _, rfl⟩ := List.mem_map.mp hd
    obtain ⟨p', _, rfl⟩ := List.mem_map.mp hd'
    exact oI.alike _ _
  have hub : ∀ d ∈ Lc.map fun p => (dI p.2).py, A.in1.units + d.depth < cLine := fun d hd => by
    obtain ⟨p, _, rfl⟩ := List.mem_map.mp hd
    have := dI_dep p.2
    have h1 : A.in1.units ≤ A.units + 1 := by first | exact Nat.le_refl _ | decide
    omega
  have e3 : PySem.W.EachIs (fun v d => ∃ as, Reads (PySem.W.sortingHeap s.heap a vs) v d as) vs (Lc.map fun p => (dI p.2).py) := PySem.W.each_map (R := fun v d => ∃ as, Reads _ v d as) (fun p : Addr × List Int => (dI p.2).py) e2
  have hvl : vs.length = Lc.length := by rw [hv, List.length_map]
  have S : PySem.W.SortsAt P w A.in1 { s with heap := PySem.W.sortingHeap s.heap a vs } (PySem.W.dataKind (PySem.W.sortingHeap s.heap a vs) (Lc.map fun p => (dI p.2).py)) vs := by
    rcases hne with hne | hne
    · refine PySem.W.SortsAt.data (s := { s with heap := PySem.W.sortingHeap s.heap a vs }) e3 hal (.inl fun d hd => ?_) hub
      obtain ⟨p, hp, rfl⟩ := List.mem_map.mp hd
      cases hk : p.2 with
      | nil => exact absurd hk (hne p hp)
      | cons i r => exact ⟨_, _, rfl⟩
    · refine sorts_few (s := { s with heap := PySem.W.sortingHeap s.heap a vs }) e3 hal (fun d hd => ?_) (by omega) hub
      obtain ⟨p, hp, rfl⟩ := List.mem_map.mp hd
      exact fun z => nomatch z
  refine wpAny_call_entry slot_list_sort ⟨_, ho, rfl⟩ entry_list_sort (PySem.W.list_sort_vals ho S (by omega) ⟨.none, rfl, ?_⟩) (args_list_sort _)
  have eo := PySem.W.sortVals_data (R := fun v p => v = Value.ref p.1) (enc := fun p : Addr × List Int => (dI p.2).py) false e1 e2 hal
  have el : PySem.W.dataLe false (fun p : Addr × List Int => (dI p.2).py) = fun a b => leB (lexL ltI) a.2 b.2 := by
    funext a b; exact le_rows a b
  rw [el] at eo
  rw [each_refs eo]
  refine h _ (List.mergeSort_perm _ _) ?_
  rw [List.pairwise_map]
  exact List.pairwise_mergeSort (fun a b c => ordRow.letr a.2 b.2 c.2) (fun a b => ordRow.letot a.2 b.2) Lc
theorem cr_sortS {X : Cx} (hc : X.calm = true) (hu : X.A.units + 64 < cLine) : CallR X (.builtin "sorted") (rSortS X.K X.prog X.w) := by
  intro pins s σ H vs us Q I r h
  obtain ⟨a, L, rfl, ha, hk, hne, q⟩ := h
  have R0 : SetT0 X.prog X.w s.heap a L := (I.hok a _ ha).1
  obtain ⟨es, ep, t, R⟩ := R0.full fun p hp => I.isT (hk p hp)
  rw [Vals.ref1 r]
  obtain ⟨o, ho, hex, hd⟩ := R.ob
  have hfew := R.few
  have hsz := R.size
  refine Calls.call_function_entry kind_sorted plain_sorted entry_sorted (args_sorted1 _) ?_
  unfold Builtin.«sorted»
  refine wpAny_bind (m := checkCount "sorted" 1 1 _) (wpAny_pure ?_)
  refine wpAny_bind (collect_set (A := X.A.in1) (I.ok.hd hc) ⟨o, ho, hex.1, hd⟩ R.fits (by rw [hsz]; unfold scanBound; omega) R.tab.ris R.led fun s1 vs k1 hz g1 o1 pm => ?_)
  have hes : es.toList.map (·.2) = L.map fun q => Value.ref q.1 := by
    rw [R.rows, rowsOf, List.map_map]; rfl
  rw [hes] at pm
  obtain ⟨Lc, pc, hv⟩ := perm_map_inv pm L rfl
  have hlen : Lc.length = L.length := pc.length_eq
  have hvl : vs.length = Lc.length := by rw [hv, List.length_map]
  refine wpAny_bind (wpAny_newList ?_ (by rw [sizeLine_eq]; omega))
  have hoL : (s1.heap.push (seqObj "list" vs.toArray 0)).get? s1.heap.objs.size = some (seqObj "list" vs.toArray 0) := Heap.get?_push_size _ rfl
  refine wpAny_bind (wpAny_holding (sort_rows (s := { s1 with heap := s1.heap.push (seqObj "list" vs.toArray 0) }) (Lc := Lc) hv hoL (fun p hp => isT_reads (isT_keep (R.tup p (pc.mem_iff.mp hp)) fun b o e => ?_)) ?_ (by rw [sizeLine_eq]; omega) ?_ fun L' pL0 pw => ?_))
  · have hlt := Heap.lt_size (k1 b o e)
    exact PySem.W.sortingHeap_old (Nat.ne_of_lt hlt) (Heap.get?_push_of_some _ (k1 b o e))
  · rcases hne with hne | hne
    · exact .inl fun p hp => hne p (pc.mem_iff.mp hp)
    · refine .inr ?_
      rw [hlen]
      have nd := R.nd
      match L, nd, hne with
      | [], _, _ => exact Nat.zero_le _
      | [_], _, _ => exact Nat.le_refl _
      | x :: y :: L, nd, hne =>
        exfalso
        rw [List.map_cons, List.map_cons, List.nodup_cons] at nd
        exact nd.1 (by rw [hne x (by simp), hne y (by simp)]; simp)
  · have h1 : X.A.in1.units ≤ X.A.units + 1 := by first | exact Nat.le_refl _ | decide
    omega
  · obtain ⟨out, hout⟩ : ∃ out : List Value, out = L'.map fun p => Value.ref p.1 := ⟨_, rfl⟩
    rw [← hout]
    have pL : L'.Perm L := pL0.trans pc
    obtain ⟨c, hcx⟩ := sortedHeap_at (vs := vs) (out := out.toArray) hoL
    have hfew' : L'.length < 64 := by rw [pL.length_eq]; exact hfew
    have hl2 : (L'.map fun q => V.ref q.1).length ≤ sizeLine := by rw [List.length_map, sizeLine_eq]; omega
    have hn : H s1.heap.objs.size = none := I.hok.fresh hz
    have hk2 : ∀ b o, s.heap.get? b = some o → (sortedHeap (s1.heap.push (seqObj "list" vs.toArray 0)) s1.heap.objs.size vs out.toArray).get? b = some o := fun b o e => by
      have hlt := Heap.lt_size (k1 b o e)
      rw [sortedHeap_old (Nat.ne_of_lt hlt) (by rw [size_push']; exact Nat.lt_succ_of_lt hlt)]
      exact Heap.get?_push_of_some _ (k1 b o e)
    have hv2 : Vals (L'.map fun q => V.ref q.1) out := by rw [hout]; exact vals_of_refs L'
    refine wpAny_pure ⟨_, rfl, ?_⟩
    show EP X pins σ Q _ ({ s1 with heap := sortedHeap (s1.heap.push (seqObj "list" vs.toArray 0)) s1.heap.objs.size vs out.toArray } : Shared)
    generalize sortedHeap (s1.heap.push (seqObj "list" vs.toArray 0)) s1.heap.objs.size vs out.toArray = h2 at hcx hk2 ⊢
    have J : Inv X pins σ (upd H s1.heap.objs.size (.lst (L'.map fun q => V.ref q.1))) { s with heap := h2, gens := s1.gens, drawn := s1.drawn, toks := s1.toks } :=
      I.call (ch := []) (Un.laid hk2 hz hn) (I.hok.laid hk2 hz ⟨hl2, out, c, hv2, hcx⟩) (by rw [g1]; exact I.bare) (fun _ z => nomatch z)
    have e : ({ s1 with heap := h2 } : Shared) = { s with heap := h2, gens := s1.gens, drawn := s1.drawn, toks := s1.toks } := by
      cases s1; cases s; cases o1; rfl
    rw [e]
    exact ⟨.ref _, _, J, rfl, q L' _ pL ((pL.map (·.2)).nodup_iff.mpr R.nd) pw hn hfew'⟩
def rSS (K : PySem.W.Frag) (P : Program) (w : World) : List V → Hp → VK → Prop := fun xs H Q => rSetOfT K P w xs H fun x H2 => rSortS K P w [x] H2 Q
theorem calln_sortSet {K : PySem.W.Frag} {P : Program} {w : World} : CallN K (rSS K P w) gSortSet := by
  intro G H xs ds d Q s h e z
  match ds, e with
  | [.lst dl], e =>
    have e : ((rowsD dl).bind fun ks => if okRows ks = true then some (D.lst ((setRows ks).map dI)) else none) = some d := e
    cases q : rowsD dl with
    | none => rw [q] at e; cases e
    | some ks =>
      rw [q] at e
      obtain ⟨hok, rfl⟩ := ifs_some (show (if okRows ks = true then some (D.lst ((setRows ks).map dI)) else none) = some d from e)
      unfold okRows at hok
      rw [Bool.and_eq_true, decide_eq_true_eq, Bool.or_eq_true, List.all_eq_true, List.all_eq_true] at hok
      obtain ⟨v, rfl, b⟩ := h.one
      obtain ⟨a, vs, rfl, h1, z1, d1⟩ := b.lst s
      obtain ⟨L, rfl, rfl, hL⟩ := rows_refs d1 q
      rw [List.length_map] at hok
      refine ⟨a, L, rfl, SqL.of h1, fun p hp => SqT.up s (hL p hp).1, hok.1, fun a' L2 ha' hsub hall => ⟨a', L2, rfl, upd_same, fun p hp => ?_, ?_, fun L' p pm nd pw hp' hl => ?_⟩⟩
      · exact SqT.up (s.trans fun b u e => by rw [upd_ne (ne_of_none e ha')]; exact e) (hL p (hsub p hp)).1
      · rcases hok.2 with z | z
        · exact .inl fun p hp e => by
            have := z p.2 (List.mem_map.mpr ⟨p, hsub p hp, rfl⟩)
            rw [e] at this; cases this
        · exact .inr fun p hp => by
            have := z p.2 (List.mem_map.mpr ⟨p, hsub p hp, rfl⟩)
            exact List.isEmpty_iff.mp this
      · have hpa : p ≠ a' := fun e => by rw [e, upd_same] at hp'; cases hp'
        rw [upd_ne hpa] at hp'
        have hu1 : Same H (upd H a' (SetTO P w a' L2)) := fun b u e => by rw [upd_ne (ne_of_none e ha')]; exact e
        have hu2 : Same (upd H a' (SetTO P w a' L2)) (upd (upd H a' (SetTO P w a' L2)) p (.lst (L'.map fun q => V.ref q.1))) := fun b u e => by
          by_cases hb : b = p
          · rw [hb, upd_ne hpa, hp'] at e; cases e
          · rw [upd_ne hb]; exact e
        refine z p _ hp' (hu1.trans hu2) ⟨_, upd_same, ?_, ?_⟩
        · rw [List.length_map, sizeLine_eq]; omega
        · have eq : L'.map (·.2) = setRows (L.map (·.2)) := by
            refine ordRow.ext ?_ (ordRow.asc once_nodup) fun k => ?_
            · refine (pw.and nd).imp fun {x y} ⟨h1, h2⟩ => ?_
              unfold leB at h1
              rw [Bool.not_eq_true'] at h1
              rcases ordRow.tri x y with q | q | q
              · exact q
              · exact absurd q h2
              · rw [q] at h1; cases h1
            · rw [setRows, mem_sortB, mem_once]
              constructor
              · intro hk
                obtain ⟨p, hp, rfl⟩ := List.mem_map.mp hk
                exact List.mem_map.mpr ⟨p, hsub p (pm.mem_iff.mp hp), rfl⟩
              · intro hk
                obtain ⟨p, hp, rfl⟩ := List.mem_map.mp hk
                obtain ⟨p2, hp2, e2⟩ := List.mem_map.mp (hall p hp)
                exact List.mem_map.mpr ⟨p2, pm.mem_iff.mpr hp2, e2⟩
          rw [← eq, List.map_map]
          have key : ∀ l : List (Addr × List Int), (∀ p ∈ l, DD K G (.ref p.1) (dI p.2)) → DDs K G (l.map fun q => V.ref q.1) (l.map (dI ∘ fun x => x.2)) := by
            intro l
            induction l with
            | nil => intro _; exact .nil
            | cons p l ih => intro h; exact .cons (h p List.mem_cons_self) (ih fun q hq => h q (List.mem_cons_of_mem _ hq))
          exact key L' fun p hp => (hL p (hsub p (pm.mem_iff.mp hp))).2
theorem dn_sortSet {X : Cx} {Wi : Wish} {e : Expr} {p p2 pos pos2 : Pos} {fs : AF} (hc : X.calm = true) (hu : X.A.units + 64 < cLine) (hg : Gl X "sorted") (hm : X.mg "sorted" = none) (hg2 : Gl X "set") (hm2 : X.mg "set" = none) (ha : DA X Wi [e] fs)
    (he : starEach [e] X.env = (false, eval e X.env) :: starEach [] X.env := by rfl) (hpl : (backTo pos2 (starEach [] X.env)).any (·.1) = false := by rfl)
    (he2 : starEach [Expr.Call (.Name "set" p2) [e] [] pos2] X.env = (false, eval (Expr.Call (.Name "set" p2) [e] [] pos2) X.env) :: starEach [] X.env := by rfl) (hpl2 : (backTo pos (starEach [] X.env)).any (·.1) = false := by rfl) :
    DN X Wi (.Call (.Name "sorted" p) [.Call (.Name "set" p2) [e] [] pos2] [] pos) (nCall gSortSet fs) :=
  PE.imp (pe_callB (cr_sortS hc hu) hg hm PyProof.Rows.boot_sorted (pa_cons (pe_callTy (cr_setOfT hc hu) hg2 hm2 PyProof.Rows.boot_set ha (he := he) (hpl := hpl)) pa_nil he2) (he := he2) (hpl := hpl2)) fun σ H Q q => tCBN_of (calln_sortSet (P := X.prog) (w := X.w)) σ H Q q
end DL
namespace DL
open PySem PySem.Spec PyProof.Rows L2 TL
/-! ### where a sign stands -/
theorem sidx_dC {l : List Nat} {x : Nat} (hn : l.Nodup) (hx : x ∈ l) : gSIdx (dS l) [dC x] = some (.int (l.idxOf x : Nat)) := by
  have h1 := PySem.StrLaws.found_one (T l) x
  have h2 := PySem.StrLaws.occ_length_le (T l) (sgn x) 0 (T l).length 1
  have h3 := PySem.StrLaws.occ_spec (T l) (sgn x) 0 (T l).length 1
  have h1 : (!(Builtin.Str.occurrences (T l) (sgn x) 0 (T l).length 1).isEmpty) = decide (x ∈ l) := h1
  rw [decide_eq_true hx] at h1
  show (match Builtin.Str.occurrences (T l) (sgn x) 0 (T l).length 1 with | i :: _ => some (D.int (i : Nat)) | [] => none) = _
  cases q : Builtin.Str.occurrences (T l) (sgn x) 0 (T l).length 1 with
  | nil => rw [q] at h1; cases h1
  | cons i r =>
    rw [q] at h3
    have h4 := (PySem.StrLaws.subAt_one (T l) x i).mp (h3 i List.mem_cons_self)
    have h4 : l[i]? = some x := h4
    obtain ⟨hi, e⟩ := List.getElem?_eq_some_iff.mp h4
    have : l.idxOf x = i := by rw [← e]; exact hn.idxOf_getElem i hi
    rw [this]
/-! ### rows -/
@[simp] theorem sqD_dI (k : List Int) : sqD (dI k) = some (k.map .int) := rfl
@[simp] theorem gLen_dI (k : List Int) : gLen [dI k] = some (.int k.length) := by
  show some (D.int ((k.map D.int).length : Nat)) = _
  rw [List.length_map]
@[simp] theorem gIs_dI (f : String → Option Bool) (h : Addr → Option Bool) (k : List Int) : gIs f h (dI k) = (f "tuple").map .bl := rfl
@[simp] theorem gEq_dI (a b : List Int) : gEq (dI a) (dI b) = some (.bl (decide (a = b))) := eI.gEq a b
@[simp] theorem gNe_dI (a b : List Int) : gNe (dI a) (dI b) = some (.bl (!decide (a = b))) := eI.gNe a b
@[simp] theorem gLt_dI (a b : List Int) : gLt (dI a) (dI b) = some (.bl (lexL ltI a b)) := oI.gLt eI a b
theorem gIx_dI (k : List Int) (i : Nat) : gIx (dI k) (.int i) = (k[i]?).map .int := by
  show gIx (.tup (k.map .int)) (.int i) = _
  rw [gIx_tup_nat, List.getElem?_map]
@[simp] theorem gIx_dI_n (k : List Int) (n : Nat) : gIx (dI k) (.int (no_index (OfNat.ofNat n))) = (k[(OfNat.ofNat n : Nat)]?).map .int := gIx_dI k n
/-- what a row has at a column -/
def colV (cols : List Nat) (row : List Int) (x : Nat) : Int := row.getD (cols.idxOf x) 0
theorem gIx_dI_at {cols : List Nat} {k : List Int} {x : Nat} (hl : k.length = cols.length) (hx : x ∈ cols) : gIx (dI k) (.int (cols.idxOf x : Nat)) = some (.int (colV cols k x)) := by
  have : cols.idxOf x < k.length := by rw [hl]; exact List.idxOf_lt_length_of_mem hx
  rw [gIx_dI, List.getElem?_eq_getElem this]
  unfold colV
  simp [List.getD, this]
theorem tup_ints (k : List Int) : D.tup (k.map .int) = dI k := rfl
def rowAt (cols : List Nat) (row : List Int) (some : List Nat) : List Int := some.map fun x => colV cols row x
def pairsF {α : Type} : List α → List (α × α)
  | [] => []
  | a :: r => r.map (fun b => (a, b)) ++ pairsF r
def breaksB (cols : List Nat) (r : Rule) (a b : List Int) : Bool := decide (rowAt cols a r.1 = rowAt cols b r.1) && !decide (colV cols a r.2 = colV cols b r.2)
def hitD (cols : List Nat) (i : Nat) (r : Rule) (p : List Int × List Int) : Option D := if breaksB cols r p.1 p.2 = true then some (.tup [.int i, dI p.1, dI p.2]) else none
def brokenO (cols : List Nat) (R : List Rule) (rows : List (List Int)) : Option D := R.zipIdx.findSome? fun q => (pairsF rows).findSome? (hitD cols q.2 q.1)
def brokenD (cols : List Nat) (R : List Rule) (rows : List (List Int)) : D := (brokenO cols R rows).getD .non
/-! ### loops that look for something -/
section
variable {α : Type} {E E' : Env} {g : GF} {body s2 : SF} {fi : IF} {Q : Fl × Env → Prop}
theorem forL_find (f : α → D) (I : Env → Prop) (h : α → Option D) (l : List α) (h0 : I E)
    (step : ∀ a ∈ l, ∀ E, I E → ∃ E1, g (f a) E = some E1 ∧ Ok (body E1) fun p => (∀ d, h a = some d → p.1 = .rt d) ∧ (h a = none → (p.1 = .nx ∨ p.1 = .ct) ∧ I p.2))
    (f1 : ∀ d, l.findSome? h = some d → ∀ E, Q (.rt d, E)) (f2 : l.findSome? h = none → ∀ E, I E → Q (.nx, E)) : Ok (forL g body (l.map f) E) Q := by
  induction l generalizing E with
  | nil => exact Ok.ok (f2 rfl E h0)
  | cons a r ih =>
    obtain ⟨E1, e1, ⟨fl, E2⟩, e2, h1, h2⟩ := step a List.mem_cons_self E h0
    rw [List.map_cons, forL, e1]
    show Ok ((body E1).bind _) Q
    rw [e2]
    rw [List.findSome?_cons] at f1 f2
    cases q : h a with
    | some d =>
      rw [q] at f1
      have := h1 d q
      dsimp only at this
      subst this
      exact Ok.ok (f1 d rfl E2)
    | none =>
      rw [q] at f1 f2
      obtain ⟨h3, h4⟩ := h2 q
      have ih := ih (E := E2) h4 (fun b hb => step b (List.mem_cons_of_mem _ hb)) f1 f2
      rcases h3 with h3 | h3 <;> (dsimp only at h3; subst h3; exact ih)
theorem for_find (f : α → D) (I : Env → Prop) (h : α → Option D) (l : List α) (e : fi E = .ok (l.map f, E')) (h0 : I E')
    (step : ∀ a ∈ l, ∀ E, I E → ∃ E1, g (f a) E = some E1 ∧ Ok (body E1) fun p => (∀ d, h a = some d → p.1 = .rt d) ∧ (h a = none → (p.1 = .nx ∨ p.1 = .ct) ∧ I p.2))
    (f1 : ∀ d, l.findSome? h = some d → ∀ E, Q (.rt d, E)) (f2 : l.findSome? h = none → ∀ E, I E → Q (.nx, E)) : Ok (sFor fi g body E) Q := by
  rw [ap_sFor, e]; exact forL_find f I h l h0 step f1 f2
theorem seq_find (f : α → D) (I : Env → Prop) (h : α → Option D) (l : List α) (e : fi E = .ok (l.map f, E')) (h0 : I E')
    (step : ∀ a ∈ l, ∀ E, I E → ∃ E1, g (f a) E = some E1 ∧ Ok (body E1) fun p => (∀ d, h a = some d → p.1 = .rt d) ∧ (h a = none → (p.1 = .nx ∨ p.1 = .ct) ∧ I p.2))
    (f1 : ∀ d, l.findSome? h = some d → ∀ E, Q (.rt d, E)) (f2 : l.findSome? h = none → ∀ E, I E → Ok (s2 E) Q) : Ok (sSeq (sFor fi g body) s2 E) Q := by
  cases q : l.findSome? h with
  | some d =>
    obtain ⟨⟨fl, E2⟩, e2, hp⟩ := for_find (Q := fun p => p.1 = .rt d) f I h l e h0 step (fun d' e' E => by rw [q] at e'; cases e'; rfl) fun e' => by rw [q] at e'; cases e'
    dsimp only at hp
    subst hp
    rw [ap_sSeq, e2]
    exact Ok.ok (f1 d q E2)
  | none => exact seq_ok (for_find f I h l e h0 step (fun d' e' => by rw [q] at e'; cases e') fun _ E hi => ⟨rfl, f2 q E hi⟩)
end
theorem numD_zip {α : Type} (f : α → D) : ∀ (l : List α) (k : Nat), numD (k : Int) (l.map f) = (l.zipIdx k).map fun p => .tup [.int (p.2 : Nat), f p.1]
  | [], _ => rfl
  | a :: l, k => by
    have h := numD_zip f l (k + 1)
    show D.tup [.int (k : Int), f a] :: numD ((k : Int) + 1) (l.map f) = _
    rw [List.zipIdx_cons, List.map_cons, ← h]; rfl
theorem numD0 {α : Type} (f : α → D) (l : List α) : numD 0 (l.map f) = l.zipIdx.map fun p => .tup [.int (p.2 : Nat), f p.1] := numD_zip f l 0
theorem findSome_congr {α β : Type} {f g : α → Option β} {l : List α} (h : ∀ a ∈ l, f a = g a) : l.findSome? f = l.findSome? g := by
  induction l with
  | nil => rfl
  | cons a l ih =>
    rw [List.findSome?_cons, List.findSome?_cons, h a List.mem_cons_self, ih fun b hb => h b (List.mem_cons_of_mem _ hb)]
theorem pairs_find {α β : Type} (f : α × α → Option β) (l : List α) : (pairsF l).findSome? f = l.zipIdx.findSome? fun p => (l.drop (p.2 + 1)).findSome? fun b => f (p.1, b) := by
  have key : ∀ (r pre : List α), pre ++ r = l → (pairsF r).findSome? f = (r.zipIdx pre.length).findSome? fun p => (l.drop (p.2 + 1)).findSome? fun b => f (p.1, b) := by
    intro r
    induction r with
    | nil => intro _ _; rfl
    | cons a r ih =>
      intro pre e
      have h := ih (pre ++ [a]) (by rw [← e]; simp)
      have hd : l.drop (pre.length + 1) = r := by
        rw [← e]
        rw [show pre ++ a :: r = (pre ++ [a]) ++ r by simp]
        exact List.drop_left' (by simp)
      rw [List.zipIdx_cons, List.findSome?_cons, pairsF, List.findSome?_append, h, List.length_append, List.length_singleton]
      dsimp only
      rw [hd]
      have hm : (r.map fun b => (a, b)).findSome? f = r.findSome? fun b => f (a, b) := by
        rw [List.findSome?_map]; rfl
      rw [hm]
      cases r.findSome? fun b => f (a, b) <;> rfl
  exact key l [] rfl
/-! ### two for: a pure comprehension -/
theorem compL_acc {vs : List Nat} {g : GF} {fc : BF} {fe : EF} {E0 : Env} : ∀ (items : List D) (acc acc1 r : List D) (E E' : Env), compL vs g fc fe E0 items acc E = .ok (.lst (acc ++ r), E') → compL vs g fc fe E0 items acc1 E = .ok (.lst (acc1 ++ r), E')
  | [], acc, acc1, r, E, E', h => by
    simp [compL] at h ⊢
    exact h
  | d :: ds, acc, acc1, r, E, E', h => by
    rw [compL] at h ⊢
    cases e1 : g d (wipeE E vs) with
    | none => rw [e1] at h; cases h
    | some E1 =>
      rw [e1] at h
      simp only [ofO_some, Res.ok_bind] at h ⊢
      cases e2 : noErr (fc E1) with
      | err _ _ => rw [e2] at h; cases h
      | stuck => rw [e2] at h; cases h
      | ok p =>
        rw [e2] at h
        simp only [Res.ok_bind] at h ⊢
        by_cases hb : p.1 = true
        · rw [if_pos hb] at h ⊢
          cases e3 : noErr (fe p.2) with
          | err _ _ => rw [e3] at h; cases h
          | stuck => rw [e3] at h; cases h
          | ok q =>
            rw [e3] at h
            simp only [Res.ok_bind] at h ⊢
            cases e4 : asDat q.1 with
            | none => rw [e4] at h; cases h
            | some y =>
              rw [e4] at h
              simp only [ofO_some, Res.ok_bind] at h ⊢
              have hl : ∃ r', r = y :: r' := by
                have key : ∀ (ds acc : List D) (E : Env) (z : List D) (E' : Env), compL vs g fc fe E0 ds acc E = .ok (.lst z, E') → ∃ w, z = acc ++ w := by
                  intro ds
                  induction ds with
                  | nil => intro acc E z E' h; simp [compL] at h; exact ⟨[], by rw [← h.1]; simp⟩
                  | cons d ds ih =>
                    intro acc E z E' h
                    rw [compL] at h
                    cases e1 : g d (wipeE E vs) with
                    | none => rw [e1] at h; cases h
                    | some E1 =>
                      rw [e1] at h
                      simp only [ofO_some, Res.ok_bind] at h
                      cases e2 : noErr (fc E1) with
                      | err _ _ => rw [e2] at h; cases h
                      | stuck => rw [e2] at h; cases h
                      | ok p =>
                        rw [e2] at h
                        simp only [Res.ok_bind] at h
                        split at h
                        · cases e3 : noErr (fe p.2) with
                          | err _ _ => rw [e3] at h; cases h
                          | stuck => rw [e3] at h; cases h
                          | ok q =>
                            rw [e3] at h
                            simp only [Res.ok_bind] at h
                            cases e4 : asDat q.1 with
                            | none => rw [e4] at h; cases h
                            | some y =>
                              rw [e4] at h
                              simp only [ofO_some, Res.ok_bind] at h
                              obtain ⟨w, hw⟩ := ih _ _ _ _ h
                              exact ⟨y :: w, by rw [hw]; simp⟩
                        · exact ih _ _ _ _ h
                obtain ⟨w, hw⟩ := key _ _ _ _ _ h
                rw [List.append_assoc] at hw
                exact ⟨w, List.append_cancel_left hw⟩
              obtain ⟨r', rfl⟩ := hl
              have h2 := compL_acc ds (acc ++ [y]) (acc1 ++ [y]) r' _ E' (by rw [h]; simp)
              rw [h2]; simp
        · rw [if_neg hb] at h ⊢
          exact compL_acc ds acc acc1 r _ E' h
/-- one turn of the outer for -/
def turn2 (vs vs1 : List Nat) (g : GF) (fc : BF) (fi1 : IF) (g1 : GF) (fc1 : BF) (fe : EF) (E : Env) (d : D) : Res (D × Env) :=
  (ofO (g d (wipeE E vs))).bind fun E1 => (noErr (fc E1)).bind fun p => if p.1 = true then (noErr (fi1 p.2)).bind fun r => if vs1.all (fun v => plainC r.2[v]?) = true then (noErr (compL vs1 g1 fc1 fe r.2 r.1 [] r.2)).bind fun s => if r.1.length ≤ 1000 then .ok (s.1, backE E s.2 vs) else .stuck else .stuck else .ok (.lst [], backE E p.2 vs)
theorem compL2_pure {α : Type} {vs vs1 : List Nat} {g : GF} {fc : BF} {fi1 : IF} {g1 : GF} {fc1 : BF} {fe : EF} {E : Env} (f : α → D) (ys : α → List D) (n : Nat) (l : List α) (hn : ∀ a ∈ l, (ys a).length ≤ n) (h : ∀ a ∈ l, turn2 vs vs1 g fc fi1 g1 fc1 fe E (f a) = .ok (.lst (ys a), E)) (acc : List D) (hl : acc.length + l.length * n ≤ 1000000) :
    compL2 vs vs1 g fc fi1 g1 fc1 fe E (l.map f) acc E = .ok (.lst (acc ++ l.flatMap ys), E) := by
  induction l generalizing acc with
  | nil => simp [compL2]
  | cons a r ih =>
    have h1 := h a List.mem_cons_self
    have hna := hn a List.mem_cons_self
    rw [List.length_cons, Nat.succ_mul] at hl
    have ih := ih (fun b hb => hn b (List.mem_cons_of_mem _ hb)) fun b hb => h b (List.mem_cons_of_mem _ hb)
    rw [List.map_cons, compL2]
    unfold turn2 at h1
    cases e1 : g (f a) (wipeE E vs) with
    | none => rw [e1] at h1; cases h1
    | some E1 =>
      rw [e1] at h1
      simp only [ofO_some, Res.ok_bind] at h1 ⊢
      cases e2 : noErr (fc E1) with
      | err _ _ => rw [e2] at h1; cases h1
      | stuck => rw [e2] at h1; cases h1
      | ok p =>
        rw [e2] at h1
        simp only [Res.ok_bind] at h1 ⊢
        by_cases hb : p.1 = true
        · rw [if_pos hb] at h1 ⊢
          cases e3 : noErr (fi1 p.2) with
          | err _ _ => rw [e3] at h1; cases h1
          | stuck => rw [e3] at h1; cases h1
          | ok t =>
            rw [e3] at h1
            simp only [Res.ok_bind] at h1 ⊢
            by_cases hv : vs1.all (fun v => plainC t.2[v]?) = true
            · rw [if_pos hv] at h1
              cases e4 : noErr (compL vs1 g1 fc1 fe t.2 t.1 [] t.2) with
              | err _ _ => rw [e4] at h1; cases h1
              | stuck => rw [e4] at h1; cases h1
              | ok s =>
                rw [e4] at h1
                simp only [Res.ok_bind] at h1
                by_cases ht : t.1.length ≤ 1000
                · rw [if_pos ht] at h1
                  injection h1 with h1
                  injection h1 with i1 i2
                  have e5 : compL vs1 g1 fc1 fe t.2 t.1 [] t.2 = .ok s := by
                    generalize compL vs1 g1 fc1 fe t.2 t.1 [] t.2 = rr at e4
                    cases rr with
                    | ok a => exact e4
                    | err _ _ => cases e4
                    | stuck => cases e4
                  obtain ⟨s1, s2⟩ := s
                  dsimp only at i1 i2
                  subst i1
                  have e6 := compL_acc t.1 [] acc (ys a) t.2 s2 (by rw [List.nil_append]; exact e5)
                  have hok : (vs1.all (fun v => plainC t.2[v]?) && decide (acc.length + t.1.length ≤ 16777216)) = true := by
                    rw [hv, Bool.true_and, decide_eq_true_eq]; omega
                  rw [if_pos hok, e6]
                  simp only [noErr, Res.ok_bind, lstOf, ofO_some, i2]
                  rw [ih (acc ++ ys a) (by rw [List.length_append]; omega), List.flatMap_cons, List.append_assoc]
                · rw [if_neg ht] at h1; cases h1
            · rw [if_neg hv] at h1; cases h1
        · rw [if_neg hb] at h1 ⊢
          injection h1 with h1
          injection h1 with i1 i2
          injection i1 with i1
          rw [i2, ih acc (by omega), List.flatMap_cons, ← i1, List.nil_append]
theorem flat_pairs {α : Type} (l : List α) : l.zipIdx.flatMap (fun p => (l.drop (p.2 + 1)).map fun b => (p.1, b)) = pairsF l := by
  have key : ∀ (r pre : List α), pre ++ r = l → (r.zipIdx pre.length).flatMap (fun p => (l.drop (p.2 + 1)).map fun b => (p.1, b)) = pairsF r := by
    intro r
    induction r with
    | nil => intro _ _; rfl
    | cons a r ih =>
      intro pre e
      have h := ih (pre ++ [a]) (by rw [← e]; simp)
      have hd : l.drop (pre.length + 1) = r := by
        rw [← e]
        rw [show pre ++ a :: r = (pre ++ [a]) ++ r by simp]
        exact List.drop_left' (by simp)
      rw [List.length_append, List.length_singleton] at h
      rw [List.zipIdx_cons, List.flatMap_cons, pairsF, h]
      dsimp only
      rw [hd]
  exact key l [] rfl
theorem gSl_from (l : List D) (i : Nat) : gSl (.tup l) (some (i : Int)) none = some (.tup (l.drop i)) := by
  have e0 : HT.sIx l.length l.length none = l.length := rfl
  show some (D.tup ((l.drop (HT.sIx l.length 0 (some (i : Int)))).take (HT.sIx l.length l.length none - HT.sIx l.length 0 (some (i : Int))))) = _
  rw [e0]
  have e1 : HT.sIx l.length 0 (some (i : Int)) = min i l.length := by
    unfold HT.sIx
    have : ¬ ((i : Int) < 0) := by omega
    simp [this]
  rw [e1]
  congr 2
  rcases Nat.le_total i l.length with h | h
  · rw [Nat.min_eq_left h, List.take_of_length_le (by rw [List.length_drop]; exact Nat.le_refl _)]
  · rw [Nat.min_eq_right h, List.drop_length, List.drop_of_length_le h, List.take_nil]
theorem gSortSet_dI {ks : List (List Int)} (h : okRows ks = true) : gSortSet [.lst (ks.map dI)] = some (.lst ((setRows ks).map dI)) := by
  show ((rowsD (ks.map dI)).bind fun ks => if okRows ks = true then some (D.lst ((setRows ks).map dI)) else none) = _
  rw [rowsD_map]
  exact if_pos h
theorem okRows_len {ks : List (List Int)} {n : Nat} (hl : ks.length < 64) (h : ∀ k ∈ ks, k.length = n) : okRows ks = true := by
  unfold okRows
  rw [Bool.and_eq_true, decide_eq_true_eq, Bool.or_eq_true, List.all_eq_true, List.all_eq_true]
  refine ⟨hl, ?_⟩
  cases n with
  | zero => exact .inr fun k hk => by rw [List.isEmpty_iff]; exact List.eq_nil_of_length_eq_zero (h k hk)
  | succ n =>
    refine .inl fun k hk => ?_
    have := h k hk
    cases k with
    | nil => cases this
    | cons _ _ => rfl
theorem once_len {α : Type} [DecidableEq α] : ∀ l : List α, (onceL l).length ≤ l.length
  | [] => Nat.le_refl _
  | a :: l => by
    rw [onceL]
    split
    · exact Nat.le_succ_of_le (once_len l)
    · exact Nat.succ_le_succ (once_len l)
theorem mem_setRows {ks : List (List Int)} {k : List Int} : k ∈ setRows ks ↔ k ∈ ks := by rw [setRows, mem_sortB, mem_once]
theorem setRows_asc (ks : List (List Int)) : (setRows ks).Pairwise fun a b => lexL ltI a b = true := ordRow.asc once_nodup
theorem setRows_len (ks : List (List Int)) : (setRows ks).length ≤ ks.length := by rw [setRows, sortB_len]; exact once_len ks
@[simp] theorem gTuple_ints (k : List Int) : gTuple [.lst (k.map .int)] = some (dI k) := rfl
/-- an integer that a law draws for a row -/
def SmI (i : Int) : Prop := -3 ≤ i ∧ i < 1000000000000000000000000000000
theorem SmI.i100 {i : Int} (h : SmI i) : I100 i := by
  obtain ⟨h1, h2⟩ := h
  have : i.natAbs < 10 ^ 30 := by omega
  exact Nat.lt_trans this (by decide +kernel)
theorem shw_dI {k : List Int} {n : Nat} (h : ∀ i ∈ k, I100 i) (hn : k.length ≤ n) : Shw (dI k) n 1 := (Shws.map (f := D.int) (n := 0) (m := 0) fun i hi => Shw.int (h i hi)).tup.le (by omega) (Nat.le_refl _)
theorem shw_rows {ks : List (List Int)} {n m : Nat} (h : ∀ k ∈ ks, (∀ i ∈ k, I100 i) ∧ k.length ≤ n) (hm : ks.length ≤ m) : Shw (.tup (ks.map dI)) (m * (n + 1)) 2 := (Shws.map (f := dI) (n := n) (m := 1) fun k hk => shw_dI (h k hk).1 (h k hk).2).tup.le (Nat.mul_le_mul_right _ hm) (Nat.le_refl _)
theorem compL_okY {α : Type} {vs : List Nat} {g : GF} {fe : EF} {E0 E : Env} {Q : D × Env → Prop} (f : α → D) (Iv : List α → List D → Env → Prop) (l : List α) (acc : List D) (h0 : Iv l acc E)
    (step : ∀ a r acc E, Iv (a :: r) acc E → ∃ E1, g (f a) (wipeE E vs) = some E1 ∧ Ok (fe E1) fun q => ∃ y, q.1 = .dat y ∧ Iv r (acc ++ [y]) (backE E0 q.2 vs))
    (fin : ∀ acc E, Iv [] acc E → Q (.lst acc, E)) : Ok (compL vs g tYes' fe E0 (l.map f) acc E) Q :=
  compL_ok f Iv l acc h0 (fun a r acc E h => by
    obtain ⟨E1, e1, o⟩ := step a r acc E h
    exact ⟨E1, e1, Ok.of rfl (by rw [if_pos rfl]; exact o)⟩) fin
end DL
namespace DL
open PySem PySem.Spec PyProof.Rows L2 TL
/-! ### split and join at one sign -/
def splitN (c : Nat) : List Nat → List (List Nat)
  | [] => [[]]
  | x :: r => if x = c then [] :: splitN c r else match splitN c r with
    | p :: ps => (x :: p) :: ps
    | [] => [[x]]
def jn (c : Nat) : List (List Nat) → List Nat
  | [] => []
  | [p] => p
  | p :: q :: r => p ++ c :: jn c (q :: r)
theorem splitN_ne (c : Nat) : ∀ l : List Nat, splitN c l ≠ []
  | [] => by simp [splitN]
  | x :: r => by
    rw [splitN]
    split
    · simp
    · split <;> simp
theorem jn_pre (c x : Nat) (p : List Nat) : ∀ ps : List (List Nat), jn c ((x :: p) :: ps) = x :: jn c (p :: ps)
  | [] => rfl
  | _ :: _ => rfl
theorem jn_split (c : Nat) : ∀ l : List Nat, jn c (splitN c l) = l
  | [] => rfl
  | x :: r => by
    have ih := jn_split c r
    rw [splitN]
    split
    · rename_i h
      cases q : splitN c r with
      | nil => exact absurd q (splitN_ne c r)
      | cons p ps =>
        rw [q] at ih
        show [] ++ c :: jn c (p :: ps) = _
        rw [ih, h]; rfl
    · cases q : splitN c r with
      | nil => exact absurd q (splitN_ne c r)
      | cons p ps =>
        rw [q] at ih
        show jn c ((x :: p) :: ps) = _
        rw [jn_pre, ih]
theorem split_mem (c : Nat) : ∀ (l : List Nat), ∀ p ∈ splitN c l, c ∉ p ∧ ∀ x ∈ p, x ∈ l
  | [], p, hp => by
    rw [splitN, List.mem_singleton] at hp
    rw [hp]; exact ⟨by simp, fun _ h => by cases h⟩
  | x :: r, p, hp => by
    have ih := split_mem c r
    rw [splitN] at hp
    split at hp
    · rcases List.mem_cons.mp hp with z | z
      · rw [z]; exact ⟨by simp, fun _ h => by cases h⟩
      · exact ⟨(ih p z).1, fun y hy => List.mem_cons_of_mem _ ((ih p z).2 y hy)⟩
    · rename_i hx
      cases q : splitN c r with
      | nil => exact absurd q (splitN_ne c r)
      | cons u us =>
        rw [q] at hp ih
        rcases List.mem_cons.mp hp with z | z
        · have h := ih u List.mem_cons_self
          rw [z]
          refine ⟨fun h2 => ?_, fun y hy => ?_⟩
          · rcases List.mem_cons.mp h2 with e | e
            · exact hx e.symm
            · exact h.1 e
          · rcases List.mem_cons.mp hy with e | e
            · rw [e]; exact List.mem_cons_self
            · exact List.mem_cons_of_mem _ (h.2 y e)
        · have h := ih p (List.mem_cons_of_mem _ z)
          exact ⟨h.1, fun y hy => List.mem_cons_of_mem _ (h.2 y hy)⟩
theorem split_count (c : Nat) : ∀ l : List Nat, (splitN c l).length ≤ l.length + 1
  | [] => by simp [splitN]
  | x :: r => by
    have ih := split_count c r
    rw [splitN]
    split
    · simp; omega
    · cases q : splitN c r with
      | nil => simp
      | cons p ps => rw [q] at ih; simp at ih ⊢; omega
theorem cut_eq {c : Nat} : ∀ {p p' x x' : List Nat}, c ∉ p → c ∉ p' → p ++ c :: x = p' ++ c :: x' → p = p' ∧ x = x'
  | [], [], x, x', _, _, h => by injection h with _ h; exact ⟨rfl, h⟩
  | [], y :: p', x, x', _, h2, h => by
    injection h with e _
    exact absurd List.mem_cons_self (e ▸ h2)
  | y :: p, [], x, x', h1, _, h => by
    injection h with e _
    exact absurd List.mem_cons_self (e ▸ h1)
  | y :: p, y' :: p', x, x', h1, h2, h => by
    injection h with e h
    obtain ⟨a, b⟩ := cut_eq (fun z => h1 (List.mem_cons_of_mem _ z)) (fun z => h2 (List.mem_cons_of_mem _ z)) h
    exact ⟨by rw [e, a], b⟩
theorem jn_inj {c : Nat} : ∀ {a b : List (List Nat)}, a ≠ [] → b ≠ [] → (∀ p ∈ a, c ∉ p) → (∀ p ∈ b, c ∉ p) → jn c a = jn c b → a = b
  | [], _, h, _, _, _, _ => absurd rfl h
  | _, [], _, h, _, _, _ => absurd rfl h
  | [p], [q], _, _, _, _, h => by rw [show p = q from h]
  | [p], q :: q2 :: r, _, _, ha, _, h => by
    have h : p = q ++ c :: jn c (q2 :: r) := h
    exact absurd (show c ∈ p by rw [h]; simp) (ha p List.mem_cons_self)
  | p :: p2 :: r, [q], _, _, _, hb, h => by
    have h : p ++ c :: jn c (p2 :: r) = q := h
    exact absurd (show c ∈ q by rw [← h]; simp) (hb q List.mem_cons_self)
  | p :: p2 :: r, q :: q2 :: s, _, _, ha, hb, h => by
    have h : p ++ c :: jn c (p2 :: r) = q ++ c :: jn c (q2 :: s) := h
    obtain ⟨e1, e2⟩ := cut_eq (ha p List.mem_cons_self) (hb q List.mem_cons_self) h
    have := jn_inj (a := p2 :: r) (b := q2 :: s) (by simp) (by simp) (fun x hx => ha x (List.mem_cons_of_mem _ hx)) (fun x hx => hb x (List.mem_cons_of_mem _ hx)) e2
    rw [e1, this]
theorem split_jn {c : Nat} {a : List (List Nat)} (ha : a ≠ []) (h : ∀ p ∈ a, c ∉ p) : splitN c (jn c a) = a :=
  jn_inj (splitN_ne c _) ha (fun p hp => (split_mem c _ p hp).1) h (jn_split c _)
theorem str_join (c : Nat) : ∀ l : List (List Nat), Str.join (sgn c) (l.map T) = T (jn c l)
  | [] => rfl
  | [_] => rfl
  | p :: q :: r => by
    have ih := str_join c (q :: r)
    show T p ++ sgn c ++ Str.join (sgn c) ((q :: r).map T) = _
    rw [ih, sgn_T, T_app, T_app, jn]; simp
theorem jn_len (c : Nat) : ∀ l : List (List Nat), (jn c l).length ≤ (l.map (·.length)).sum + l.length
  | [] => by simp [jn]
  | [p] => by simp [jn]
  | p :: q :: r => by
    have ih := jn_len c (q :: r)
    rw [jn, List.length_append, List.length_cons, List.map_cons, List.sum_cons, List.length_cons]
    omega
theorem mem_jn {c : Nat} : ∀ {l : List (List Nat)} {x : Nat}, x ∈ jn c l → x = c ∨ ∃ p ∈ l, x ∈ p
  | [], x, h => by cases h
  | [p], x, h => .inr ⟨p, List.mem_cons_self, h⟩
  | p :: q :: r, x, h => by
    have h : x ∈ p ++ c :: jn c (q :: r) := h
    rcases List.mem_append.mp h with z | z
    · exact .inr ⟨p, List.mem_cons_self, z⟩
    · rcases List.mem_cons.mp z with z | z
      · exact .inl z
      · rcases mem_jn z with e | ⟨u, hu, e⟩
        · exact .inl e
        · exact .inr ⟨u, List.mem_cons_of_mem _ hu, e⟩
theorem txt_split (l : List Nat) (c : Nat) : Txt.split (T l) (sgn c) = (splitN c l).map T := by
  have h1 := PySem.StrLaws.join_split (T l) (sgn c)
  have h2 : ∀ p ∈ Txt.split (T l) (sgn c), c ∉ p.cps.toList := PySem.StrLaws.split_free (T l) c
  have h3 : 1 ≤ (Txt.split (T l) (sgn c)).length := split_pos (T l) (sgn c)
  have e : Txt.split (T l) (sgn c) = ((Txt.split (T l) (sgn c)).map tl).map T := by
    rw [List.map_map]
    have : T ∘ tl = id := funext fun x => T_tl x
    rw [this, List.map_id]
  generalize Txt.split (T l) (sgn c) = ps at *
  rw [e] at h1
  rw [str_join] at h1
  have h1 := T_inj.mp h1
  have : ps.map tl = splitN c l := by
    refine jn_inj (c := c) (fun z => ?_) (splitN_ne c l) (fun p hp => ?_) (fun p hp => (split_mem c l p hp).1) (by rw [h1, jn_split])
    · rw [List.map_eq_nil_iff] at z
      rw [z] at h3
      exact absurd h3 (by decide)
    · obtain ⟨u, hu, rfl⟩ := List.mem_map.mp hp
      exact h2 u hu
  rw [e, this]
/-- short enough, of code points -/
def TxOk (l : List Nat) : Prop := l.length ≤ 1000000 ∧ ∀ x ∈ l, x < 1114112
theorem gSplit_dS {l : List Nat} (c : Nat) (h : TxOk l) : gSplit (dS l) [dC c] = some (.lst ((splitN c l).map dS)) := by
  have e := txt_split l c
  show (if (((sgn c).length == 0) = false ∧ (T l).length ≤ 1000000) ∧ ((Txt.split (T l) (sgn c)).all fun t => decide (t.length ≤ 16777216) && PyData.strOk t) = true ∧ (Txt.split (T l) (sgn c)).length ≤ 16777216 then some (D.lst ((Txt.split (T l) (sgn c)).map D.str)) else none) = _
  rw [e, if_pos]
  · rw [List.map_map]; rfl
  · refine ⟨⟨rfl, h.1⟩, ?_, ?_⟩
    · rw [List.all_eq_true]
      intro t ht
      obtain ⟨p, hp, rfl⟩ := List.mem_map.mp ht
      have hm := (split_mem c l p hp).2
      rw [Bool.and_eq_true, decide_eq_true_eq]
      refine ⟨?_, strOk_iff.mpr fun x hx => h.2 x (hm x hx)⟩
      have h1 : T p ∈ Txt.split (T l) (sgn c) := by rw [e]; exact List.mem_map.mpr ⟨p, hp, rfl⟩
      have h2 := part_short h1
      have h3 : (T p).length ≤ l.length := h2
      have := h.1
      omega
    · rw [List.length_map]
      have := split_count c l
      have := h.1
      omega
theorem gJoin_dS (c : Nat) (ps : List (List Nat)) (h : (ps.map (·.length)).sum + ps.length ≤ 16777216) : gJoin (dC c) [.lst (ps.map dS)] = some (dS (jn c ps)) := by
  have e1 : ∀ l : List (List Nat), strsD (l.map dS) = some (l.map T) := by
    intro l
    induction l with
    | nil => rfl
    | cons a r ih =>
      show (strsD (r.map dS)).map (T a :: ·) = _
      rw [ih]; rfl
  show ((strsD (ps.map dS)).bind fun ys => if (ys.map (·.length)).sum + ys.length * (sgn c).length ≤ 16777216 then some (D.str (Str.join (sgn c) ys)) else none) = _
  rw [e1]
  show (if ((ps.map T).map (·.length)).sum + (ps.map T).length * 1 ≤ 16777216 then some (D.str (Str.join (sgn c) (ps.map T))) else none) = _
  have e2 : (ps.map T).map (·.length) = ps.map (·.length) := by rw [List.map_map]; rfl
  rw [e2, List.length_map, Nat.mul_one, if_pos h, str_join]; rfl
/-! ### the text of an integer -/
def iTx (i : Int) : List Nat := tl (Str.ofString (toString i))
def decL (n : Nat) : List Nat := (Nat.toDigits 10 n).map Char.toNat
theorem iTx_nat (n : Nat) : iTx (n : Int) = decL n := by
  unfold iTx decL
  rw [tl_ofString]
  show (Nat.repr n).toList.map Char.toNat = _
  rw [Nat.toList_repr]
theorem iTx_neg (n : Nat) : iTx (-((n + 1 : Nat) : Int)) = 45 :: decL (n + 1) := by
  unfold iTx decL
  rw [tl_ofString]
  show ("-" ++ Nat.repr (n + 1)).toList.map Char.toNat = _
  rw [String.toList_append, List.map_append, Nat.toList_repr]; rfl
theorem digitChar_val : ∀ d : Nat, d < 10 → (Nat.digitChar d).toNat = 48 + d := by decide
theorem decL_if (n : Nat) : decL n = if n < 10 then [48 + n] else decL (n / 10) ++ [48 + n % 10] := by
  unfold decL
  rw [Nat.toDigits_eq_if (by decide)]
  split
  · rename_i h
    show [(Nat.digitChar n).toNat] = _
    rw [digitChar_val n h]
  · rw [List.map_append]
    show _ ++ [(Nat.digitChar (n % 10)).toNat] = _
    rw [digitChar_val _ (Nat.mod_lt _ (by decide))]
structure NumL (ds : List Nat) (n : Nat) : Prop where
  dig : ∀ c ∈ ds, 48 ≤ c ∧ c ≤ 57
  ne : ds ≠ []
  val : ds.foldl (fun acc c => acc * 10 + (c - 48)) 0 = n
  head : ds.head? = some 48 → ds = [48]
theorem decL_ok (n : Nat) : NumL (decL n) n := by
  induction n using Nat.strongRecOn with
  | ind n ih =>
    rw [decL_if]
    by_cases h : n < 10
    · rw [if_pos h]
      refine ⟨fun c hc => ?_, by simp, ?_, fun e => ?_⟩
      · rw [List.mem_singleton.mp hc]; omega
      · show 0 * 10 + (48 + n - 48) = n
        omega
      · have : 48 + n = 48 := by simpa using e
        rw [this]
    · rw [if_neg h]
      have ih := ih (n / 10) (by omega)
      refine ⟨fun c hc => ?_, by simp, ?_, fun e => ?_⟩
      · rcases List.mem_append.mp hc with z | z
        · exact ih.dig c z
        · rw [List.mem_singleton.mp z]; omega
      · rw [List.foldl_append, ih.val]
        show n / 10 * 10 + (48 + n % 10 - 48) = n
        omega
      · exfalso
        have h0 : (decL (n / 10)).head? = some 48 := by
          cases q : decL (n / 10) with
          | nil => exact absurd q ih.ne
          | cons a r => rw [q] at e; simpa using e
        have h1 := ih.head h0
        have h2 := ih.val
        rw [h1] at h2
        have h2 : 0 * 10 + (48 - 48) = n / 10 := h2
        omega
theorem iTx_cases (i : Int) : (∃ n : Nat, i = n ∧ NumL (iTx i) n) ∨ ∃ (n : Nat) (ds : List Nat), i = -(n : Int) ∧ 0 < n ∧ iTx i = 45 :: ds ∧ NumL ds n := by
  rcases Int.le_total 0 i with h | h
  · refine .inl ⟨i.toNat, by omega, ?_⟩
    have e : i = (i.toNat : Int) := by omega
    rw [e, iTx_nat]
    exact decL_ok _
  · by_cases h0 : i = 0
    · refine .inl ⟨0, by omega, ?_⟩
      have e : i = ((0 : Nat) : Int) := by omega
      rw [e, iTx_nat]
      exact decL_ok _
    · obtain ⟨m, hm⟩ : ∃ m : Nat, i = -((m + 1 : Nat) : Int) := ⟨(-i).toNat - 1, by omega⟩
      refine .inr ⟨m + 1, decL (m + 1), hm, by omega, ?_, decL_ok _⟩
      rw [hm, iTx_neg]
theorem gStrI_int {i : Int} (h : I100 i) : gStrI [.int i] = some (dS (iTx i)) := by
  have hl : i.natAbs.log2 < 1920 := by
    by_cases hz : i.natAbs = 0
    · rw [hz]; decide
    · rw [Nat.log2_lt hz]
      have : (10 : Nat) ^ 100 < 2 ^ 1920 := by decide +kernel
      exact Nat.lt_trans h this
  show (if i.natAbs.log2 < 1920 then some (D.str (Str.ofString (toString i))) else none) = _
  rw [if_pos hl]
  show some (D.str (Str.ofString (toString i))) = some (D.str (T (tl (Str.ofString (toString i)))))
  rw [T_tl]
theorem iTx_len {i : Int} (h : I100 i) : (iTx i).length ≤ 101 := by
  have e := int_text_length_le10 (k := 100) (by decide) h
  have e2 : (iTx i).length = (Str.ofString (toString i)).length := rfl
  rw [e2, PySem.ofString_length]
  exact e
theorem iTx_chars {i : Int} {x : Nat} (h : x ∈ iTx i) : x = 45 ∨ (48 ≤ x ∧ x ≤ 57) := by
  rcases iTx_cases i with ⟨n, _, hn⟩ | ⟨n, ds, _, _, e, hn⟩
  · exact .inr (hn.dig x h)
  · rw [e] at h
    rcases List.mem_cons.mp h with z | z
    · exact .inl z
    · exact .inr (hn.dig x z)
theorem iTx_ne (i : Int) : iTx i ≠ [] := by
  rcases iTx_cases i with ⟨n, _, hn⟩ | ⟨n, ds, _, _, e, hn⟩
  · exact hn.ne
  · rw [e]; simp
/-! reading an integer -/
def dF (num : Int) (r : List Nat) : Int := r.foldl (fun a c => if c = 45 then a else a * 10 + ((c - 48 : Nat) : Int)) num
def numO (w : List Nat) : Option Int :=
  let ds := if w.head? = some 45 then w.tail else w
  if ds = [] ∨ ¬ (ds.all fun c => decide (48 ≤ c ∧ c ≤ 57)) = true then none
  else if ds.head? = some 48 ∧ w ≠ [48] then none
  else some (if w.head? = some 45 then -dF 0 w else dF 0 w)
theorem dF_digits : ∀ (ds : List Nat) (a : Nat), (∀ c ∈ ds, 48 ≤ c ∧ c ≤ 57) → dF (a : Int) ds = ((ds.foldl (fun acc c => acc * 10 + (c - 48)) a : Nat) : Int)
  | [], a, _ => rfl
  | c :: ds, a, h => by
    have hc := h c List.mem_cons_self
    have ih := dF_digits ds (a * 10 + (c - 48)) fun x hx => h x (List.mem_cons_of_mem _ hx)
    unfold dF at ih ⊢
    rw [List.foldl_cons, List.foldl_cons, if_neg (by omega), ← ih]
    congr 1
theorem numO_iTx (i : Int) : numO (iTx i) = some i := by
  rcases iTx_cases i with ⟨n, e, hn⟩ | ⟨n, ds, e, hp, et, hn⟩
  · have h45 : (iTx i).head? ≠ some 45 := fun z => by
      cases q : iTx i with
      | nil => rw [q] at z; cases z
      | cons a r =>
        rw [q] at z
        have := hn.dig a (by rw [q]; exact List.mem_cons_self)
        have : a = 45 := by simpa using z
        omega
    unfold numO
    simp only [if_neg h45]
    have hall : ((iTx i).all fun c => decide (48 ≤ c ∧ c ≤ 57)) = true := List.all_eq_true.mpr fun c hc => decide_eq_true (hn.dig c hc)
    rw [if_neg (by rw [hall]; simp [hn.ne]), if_neg (fun ⟨a, b⟩ => b (hn.head a))]
    have := dF_digits (iTx i) 0 hn.dig
    rw [hn.val] at this
    rw [show dF 0 (iTx i) = ((n : Nat) : Int) from this, e]
  · unfold numO
    rw [et]
    simp only [List.head?_cons, if_true, List.tail_cons]
    have hall : (ds.all fun c => decide (48 ≤ c ∧ c ≤ 57)) = true := List.all_eq_true.mpr fun c hc => decide_eq_true (hn.dig c hc)
    have hh : ds.head? ≠ some 48 := fun z => by
      have h1 := hn.head z
      have h2 := hn.val
      rw [h1] at h2
      have h2 : 0 * 10 + (48 - 48) = n := h2
      omega
    rw [if_neg (by rw [hall]; simp [hn.ne]), if_neg (fun ⟨a, _⟩ => hh a)]
    have h1 : dF 0 (45 :: ds) = dF 0 ds := rfl
    have := dF_digits ds 0 hn.dig
    rw [hn.val] at this
    rw [h1, show dF 0 ds = ((n : Nat) : Int) from this, e]
theorem iTx_inj {i j : Int} (h : iTx i = iTx j) : i = j := by
  have h1 := numO_iTx i
  rw [h, numO_iTx j] at h1
  injection h1 with h1
  exact h1.symm
theorem gIx_last (l : List D) (z : D) : gIx (.lst (l ++ [z])) (.int (-1)) = some z := by
  show atI (l ++ [z]) (-1) = some z
  unfold atI ixN
  simp
  have : (-1 + ((l.length : Int) + 1)).toNat = l.length := by omega
  rw [if_pos (by omega), this]
  simp
end DL
namespace DL
open PySem PySem.Spec PyProof.Rows L2 TL
/-! ### values with something otherwise: what they keep -/
mutual
/-- ints below so much, texts of code points, no dict but {}, no instance -/
def D.gdb (m : Nat) : D → Bool
  | .non => true
  | .bl _ => true
  | .int i => decide (i.natAbs < 10 ^ m)
  | .str x => x.cps.toList.all fun c => decide (c < 1114112)
  | .lst xs => gdbL m xs
  | .tup xs => gdbL m xs
  | .dic l => l.isEmpty
  | .dit _ => false
  | .obj _ _ => false
def gdbL (m : Nat) : List D → Bool
  | [] => true
  | x :: xs => x.gdb m && gdbL m xs
end
theorem gdbL_all (m : Nat) : ∀ l : List D, gdbL m l = l.all (D.gdb m)
  | [] => rfl
  | x :: l => by rw [gdbL, gdbL_all m l]; rfl
mutual
theorem gdb_okE {m : Nat} : ∀ d : D, d.gdb m = true → d.okE = true
  | .non, _ => rfl
  | .bl _, _ => rfl
  | .int _, _ => rfl
  | .str _, _ => rfl
  | .lst xs, h => gdb_okEL xs h
  | .tup xs, h => gdb_okEL xs h
  | .dic _, h => h
  | .dit _, h => by cases h
  | .obj _ _, h => by cases h
theorem gdb_okEL {m : Nat} : ∀ xs : List D, gdbL m xs = true → okEL xs = true
  | [], _ => rfl
  | x :: xs, h => by
    rw [gdbL, Bool.and_eq_true] at h
    rw [okEL, gdb_okE x h.1, gdb_okEL xs h.2]; rfl
end
theorem int_short {i : Int} {m : Nat} (h0 : 0 < m) (hm : m ≤ 500) (h : i.natAbs < 10 ^ m) : (Str.ofString (toString i)).length ≤ m + 1 ∧ i.natAbs.log2 < 1920 := by
  refine ⟨?_, ?_⟩
  · have e := int_text_length_le10 (k := m) h0 h
    rw [PySem.ofString_length]; exact e
  · by_cases hz : i.natAbs = 0
    · rw [hz]; decide
    · rw [Nat.log2_lt hz]
      have h1 : (10 : Nat) ^ 500 < 2 ^ 1920 := by decide +kernel
      have h2 : (10 : Nat) ^ m ≤ 10 ^ 500 := Nat.pow_le_pow_right (by decide) hm
      exact Nat.lt_of_lt_of_le h (Nat.le_trans h2 (Nat.le_of_lt h1))
mutual
theorem gdb_show {m : Nat} (h0 : 0 < m) (hm : m ≤ 500) : ∀ d : D, d.gdb m = true → d.py.showable = true ∧ d.py.leavesShort 700 = true
  | .non, _ => ⟨rfl, rfl⟩
  | .bl _, _ => ⟨rfl, rfl⟩
  | .int i, h => by
    obtain ⟨h1, h2⟩ := int_short h0 hm (of_decide_eq_true h)
    exact ⟨decide_eq_true h2, decide_eq_true (show (Str.ofString (toString i)).length ≤ 700 by omega)⟩
  | .str x, h => ⟨rfl, by
    have h : (x.cps.toList.all fun c => decide (c < 1114112)) = true := h
    show (x.cps.toList.all fun c => decide (c < 16 ^ 8)) = true
    rw [List.all_eq_true] at h ⊢
    intro c hc
    have := of_decide_eq_true (h c hc)
    exact decide_eq_true (by omega)⟩
  | .lst xs, h => gdb_showL h0 hm xs h
  | .tup xs, h => gdb_showL h0 hm xs h
  | .dic l, h => by
    cases l with
    | nil => exact ⟨rfl, rfl⟩
    | cons _ _ => cases h
  | .dit _, h => by cases h
  | .obj _ _, h => by cases h
theorem gdb_showL {m : Nat} (h0 : 0 < m) (hm : m ≤ 500) : ∀ xs : List D, gdbL m xs = true → PyData.showableAll (pyL xs) = true ∧ PyData.leavesShortAll 700 (pyL xs) = true
  | [], _ => ⟨rfl, rfl⟩
  | x :: xs, h => by
    rw [gdbL, Bool.and_eq_true] at h
    obtain ⟨a1, a2⟩ := gdb_show h0 hm x h.1
    obtain ⟨b1, b2⟩ := gdb_showL h0 hm xs h.2
    refine ⟨?_, ?_⟩
    · show (PyData.showable x.py && PyData.showableAll (pyL xs)) = true
      rw [a1, b1]; rfl
    · show (PyData.leavesShort 700 x.py && PyData.leavesShortAll 700 (pyL xs)) = true
      rw [a2, b2]; rfl
end
/-- good data: ints of so many digits, of this bulk, of this depth -/
structure GD (m n h : Nat) (d : D) : Prop where
  gd : d.gdb m = true
  bulk : d.py.bulk ≤ n
  dep : d.py.depth ≤ h
structure GDs (m n h : Nat) (xs : List D) : Prop where
  gd : gdbL m xs = true
  bulk : PyData.bulkAll (pyL xs) ≤ n
  dep : PyData.depthAll (pyL xs) ≤ h
theorem GD.repr {m n h : Nat} {d : D} (g : GD m n h d) (h0 : 0 < m) (hm : m ≤ 500) (hn : n ≤ 20000) (hh : h ≤ 60) : gReprE [d] = some (.str d.py.shown) := by
  obtain ⟨s1, s2⟩ := gdb_show h0 hm d g.gd
  have h1 := PyData.shown_le_bulk 700 (by decide) d.py s2
  have hb := g.bulk
  have hd := g.dep
  have h2 : d.py.shown.length ≤ sizeLine := by
    have : sizeLine = 16777216 := rfl
    omega
  show (if okShowE d = true then some (D.str d.py.shown) else none) = _
  rw [if_pos]
  unfold okShowE
  rw [gdb_okE d g.gd, s1, decide_eq_true h2, decide_eq_true (show d.py.depth ≤ 60 by omega)]
  rfl
mutual
theorem gdb_mono {m m' : Nat} (hm : m ≤ m') : ∀ d : D, d.gdb m = true → d.gdb m' = true
  | .non, _ => rfl
  | .bl _, _ => rfl
  | .int i, h => decide_eq_true (Nat.lt_of_lt_of_le (of_decide_eq_true h) (Nat.pow_le_pow_right (by decide) hm))
  | .str _, h => h
  | .lst xs, h => gdbL_mono hm xs h
  | .tup xs, h => gdbL_mono hm xs h
  | .dic _, h => h
  | .dit _, h => by cases h
  | .obj _ _, h => by cases h
theorem gdbL_mono {m m' : Nat} (hm : m ≤ m') : ∀ xs : List D, gdbL m xs = true → gdbL m' xs = true
  | [], _ => rfl
  | x :: xs, h => by
    rw [gdbL, Bool.and_eq_true] at h
    rw [gdbL, gdb_mono hm x h.1, gdbL_mono hm xs h.2]; rfl
end
theorem GD.le {m n h m' n' h' : Nat} {d : D} (g : GD m n h d) (hm : m ≤ m') (hn : n ≤ n') (hh : h ≤ h') : GD m' n' h' d := ⟨gdb_mono hm d g.gd, Nat.le_trans g.bulk hn, Nat.le_trans g.dep hh⟩
theorem GDs.le {m n h m' n' h' : Nat} {d : List D} (g : GDs m n h d) (hm : m ≤ m') (hn : n ≤ n') (hh : h ≤ h') : GDs m' n' h' d := ⟨gdbL_mono hm d g.gd, Nat.le_trans g.bulk hn, Nat.le_trans g.dep hh⟩
theorem GDs.nil {m n h : Nat} : GDs m n h [] := ⟨rfl, Nat.zero_le _, Nat.zero_le _⟩
theorem GDs.cons {m n n' h : Nat} {x : D} {xs : List D} (g : GD m n h x) (g' : GDs m n' h xs) : GDs m (n + 1 + n') h (x :: xs) := ⟨by rw [gdbL, g.gd, g'.gd]; rfl, by
    show x.py.bulk + 1 + PyData.bulkAll (pyL xs) ≤ _
    have := g.bulk
    have := g'.bulk
    omega, Nat.max_le.mpr ⟨g.dep, g'.dep⟩⟩
theorem GDs.inv {m n h : Nat} {x : D} {xs : List D} (g : GDs m n h (x :: xs)) : GD m n h x ∧ GDs m n h xs := by
  have h1 := g.gd
  have h2 := g.bulk
  have h3 : max x.py.depth (PyData.depthAll (pyL xs)) ≤ h := g.dep
  have h2 : x.py.bulk + 1 + PyData.bulkAll (pyL xs) ≤ n := h2
  rw [gdbL, Bool.and_eq_true] at h1
  exact ⟨⟨h1.1, by omega, by omega⟩, h1.2, by omega, by omega⟩
theorem GDs.mem {m n h : Nat} {x : D} : ∀ {xs : List D}, GDs m n h xs → x ∈ xs → GD m n h x
  | y :: xs, g, hx => by
    rcases List.mem_cons.mp hx with e | hx
    · rw [e]; exact g.inv.1
    · exact g.inv.2.mem hx
theorem GDs.app {m n n' h : Nat} : ∀ {xs ys : List D}, GDs m n h xs → GDs m n' h ys → GDs m (n + n') h (xs ++ ys)
  | [], ys, _, g => g.le (Nat.le_refl _) (Nat.le_add_left _ _) (Nat.le_refl _)
  | x :: xs, ys, g, g' => by
    have h1 := g.gd
    have h2 : x.py.bulk + 1 + PyData.bulkAll (pyL xs) ≤ n := g.bulk
    have h3 : max x.py.depth (PyData.depthAll (pyL xs)) ≤ h := g.dep
    rw [gdbL, Bool.and_eq_true] at h1
    have k := GDs.cons (m := m) (n := x.py.bulk) (h := h) ⟨h1.1, Nat.le_refl _, by omega⟩ (GDs.app (n := PyData.bulkAll (pyL xs)) ⟨h1.2, Nat.le_refl _, by omega⟩ g')
    exact k.le (Nat.le_refl _) (by omega) (Nat.le_refl _)
theorem GDs.sub {m n h : Nat} {xs ys : List D} (s : xs.Sublist ys) (g : GDs m n h ys) : GDs m n h xs := by
  induction s generalizing n with
  | slnil => exact g
  | cons a _ ih => exact ih g.inv.2
  | cons_cons a _ ih =>
    rename_i l1 l2 _
    have h1 := g.gd
    have h2 : a.py.bulk + 1 + PyData.bulkAll (pyL l2) ≤ n := g.bulk
    have h3 : max a.py.depth (PyData.depthAll (pyL l2)) ≤ h := g.dep
    rw [gdbL, Bool.and_eq_true] at h1
    have k := ih (n := PyData.bulkAll (pyL l2)) ⟨h1.2, Nat.le_refl _, by omega⟩
    exact (GDs.cons (n := a.py.bulk) ⟨h1.1, Nat.le_refl _, by omega⟩ k).le (Nat.le_refl _) (by omega) (Nat.le_refl _)
theorem GDs.rev {m n h : Nat} : ∀ {xs : List D}, GDs m n h xs → GDs m n h xs.reverse
  | [], g => g
  | x :: xs, g => by
    have h1 := g.gd
    have h2 : x.py.bulk + 1 + PyData.bulkAll (pyL xs) ≤ n := g.bulk
    have h3 : max x.py.depth (PyData.depthAll (pyL xs)) ≤ h := g.dep
    rw [gdbL, Bool.and_eq_true] at h1
    rw [List.reverse_cons]
    have k := GDs.app (GDs.rev (xs := xs) (n := PyData.bulkAll (pyL xs)) (h := h) ⟨h1.2, Nat.le_refl _, by omega⟩) (GDs.cons (n := x.py.bulk) ⟨h1.1, Nat.le_refl _, by omega⟩ (GDs.nil (n := 0)))
    exact k.le (Nat.le_refl _) (by omega) (Nat.le_refl _)
theorem GDs.len {m n h : Nat} : ∀ {xs : List D}, GDs m n h xs → xs.length ≤ n
  | [], _ => Nat.zero_le _
  | x :: xs, g => by
    have h2 : x.py.bulk + 1 + PyData.bulkAll (pyL xs) ≤ n := g.bulk
    have h1 := g.inv.2
    have k := GDs.len (n := PyData.bulkAll (pyL xs)) ⟨h1.gd, Nat.le_refl _, h1.dep⟩
    rw [List.length_cons]; omega
theorem GDs.tup {m n h : Nat} {xs : List D} (g : GDs m n h xs) : GD m n (h + 1) (.tup xs) := ⟨g.gd, g.bulk, Nat.succ_le_succ g.dep⟩
theorem GDs.lst {m n h : Nat} {xs : List D} (g : GDs m n h xs) : GD m n (h + 1) (.lst xs) := ⟨g.gd, g.bulk, Nat.succ_le_succ g.dep⟩
theorem GD.items {m n h : Nat} {xs : List D} (g : GD m n (h + 1) (.tup xs)) : GDs m n h xs := ⟨g.gd, g.bulk, Nat.le_of_succ_le_succ g.dep⟩
theorem GD.itemsL {m n h : Nat} {xs : List D} (g : GD m n (h + 1) (.lst xs)) : GDs m n h xs := ⟨g.gd, g.bulk, Nat.le_of_succ_le_succ g.dep⟩
theorem GD.tup0 {m n : Nat} {xs : List D} (g : GD m n 0 (.tup xs)) : False := absurd g.dep (Nat.not_succ_le_zero _)
theorem GD.bl {m n h : Nat} (b : Bool) : GD m n h (.bl b) := ⟨rfl, Nat.zero_le _, Nat.zero_le _⟩
theorem GD.non {m n h : Nat} : GD m n h .non := ⟨rfl, Nat.zero_le _, Nat.zero_le _⟩
theorem GD.dic0 {m n h : Nat} (hh : 1 ≤ h) : GD m n h (.dic []) := ⟨rfl, Nat.zero_le _, hh⟩
theorem GD.int {m n h : Nat} {i : Int} (hi : i.natAbs < 10 ^ m) : GD m n h (.int i) := ⟨decide_eq_true hi, Nat.zero_le _, Nat.zero_le _⟩
theorem GD.str {m n h : Nat} {x : Str} (hx : ∀ c ∈ tl x, c < 1114112) (hn : x.length ≤ n) : GD m n h (.str x) := ⟨by
  show (x.cps.toList.all fun c => decide (c < 1114112)) = true
  rw [List.all_eq_true]
  exact fun c hc => decide_eq_true (hx c hc), hn, Nat.zero_le _⟩
theorem GD.strI {m n h : Nat} {x : Str} (g : GD m n h (.str x)) : (∀ c ∈ tl x, c < 1114112) ∧ x.length ≤ n := by
  refine ⟨fun c hc => ?_, g.bulk⟩
  have h1 : (x.cps.toList.all fun c => decide (c < 1114112)) = true := g.gd
  exact of_decide_eq_true (List.all_eq_true.mp h1 c hc)
theorem GD.intI {m n h : Nat} {i : Int} (g : GD m n h (.int i)) : i.natAbs < 10 ^ m := of_decide_eq_true g.gd
theorem cut_sub (xs : List D) (lo hi : Option Int) : (cutD xs lo hi).Sublist xs := (List.take_sublist _ _).trans (List.drop_sublist _ _)
theorem pick_rev {α : Type} (xs : List α) : pickL (-1) xs = xs.reverse := by
  have e : stepAt (-1) xs.length = ((xs.length : Int) - 1, xs.length) := by
    unfold stepAt Builtin.Slice.slicePlaces Builtin.Slice.sliceAdjust
    refine Prod.ext ?_ ?_
    · simp
    · simp; split <;> omega
  unfold pickL
  rw [e]
  refine List.ext_getElem? fun i => ?_
  have key : ∀ n : Nat, n ≤ xs.length → ((List.range n).filterMap fun (m : Nat) => xs[((xs.length : Int) - 1 + (m : Int) * -1).toNat]?) = (xs.reverse).take n := by
    intro n
    induction n with
    | zero => intro _; rfl
    | succ n ih =>
      intro hn
      rw [List.range_succ, List.filterMap_append, ih (by omega), List.take_succ, List.getElem?_reverse (by omega)]
      have e1 : ((xs.length : Int) - 1 + (n : Int) * -1).toNat = xs.length - 1 - n := by omega
      have e2 : xs[xs.length - 1 - n]? = some (xs[xs.length - 1 - n]'(by omega)) := List.getElem?_eq_getElem (by omega)
      simp only [List.filterMap_cons, List.filterMap_nil, e1, e2]
      rfl
  rw [key _ (Nat.le_refl _), List.take_of_length_le (by simp)]
theorem gStep_tup (xs : List D) : gStep (-1) (.tup xs) = some (.tup xs.reverse) := by
  show (if ((-1 : Int) = -1 ∨ (-1 : Int) = 2) then some (D.tup (pickL (-1) xs)) else none) = _
  rw [if_pos (Or.inl rfl), pick_rev]
theorem gStep_str (x : Str) : gStep (-1) (.str x) = some (.str ⟨(tl x).reverse.toArray⟩) := rfl
theorem gAdd_tup (a b : List D) (h : a.length + b.length ≤ 16777216) : gAdd (.tup a) (.tup b) = some (.tup (a ++ b)) := if_pos h
theorem gAdd_str (a b : Str) (h : a.length + b.length ≤ 16777216) : gAdd (.str a) (.str b) = some (.str (a ++ b)) := if_pos h
end DL
namespace DL
open PySem PySem.Spec PyProof.Rows L2 TL
def drawM (k : Dk) (m : Int) : Int × Dk := match k.l.getLast? with
  | some c => (c % m, ⟨if m ≤ c then k.l.dropLast ++ [c / m] else k.l.dropLast, k.b⟩)
  | none => (((k.b * 69621 + 47) % 2147483587 * ((k.b * 69621 + 47) % 2147483587) + 48271 * ((k.b * 69621 + 47) % 2147483587)) % 2147483579 / 64 % m, ⟨k.l, (k.b * 69621 + 47) % 2147483587⟩)
def drawR (_ _ : Addr) (k : Dk) (ds : List D) : Res (D × Dk) := match ds with
  | [.int m] => if 0 < m ∧ m < 10000000000000000000000000000000000000000 ∧ k.l.length ≤ 1000 then .ok (.int (drawM k m).1, (drawM k m).2) else .stuck
  | _ => .stuck
theorem drawM_ok (k : Dk) (m : Int) (hm : 0 < m) (hk : k.l.length ≤ 63) : 0 ≤ (drawM k m).1 ∧ (drawM k m).1 < m ∧ (drawM k m).2.l.length ≤ 63 := by
  unfold drawM
  cases h : k.l.getLast? with
  | none => exact ⟨Int.emod_nonneg _ (by omega), Int.emod_lt_of_pos _ hm, hk⟩
  | some c =>
    refine ⟨Int.emod_nonneg _ (by omega), Int.emod_lt_of_pos _ hm, ?_⟩
    have hne : k.l ≠ [] := fun e => by rw [e] at h; cases h
    have hpos : 0 < k.l.length := List.length_pos_iff.mpr hne
    dsimp only
    split
    · rw [List.length_append, List.length_dropLast, List.length_singleton]; omega
    · rw [List.length_dropLast]; omega
theorem drawR_ok (a q : Addr) (k : Dk) (m : Int) (hm : 0 < m) (hm2 : m < 10000000000000000000000000000000000000000) (hk : k.l.length ≤ 63) : ∃ v k', drawR a q k [.int m] = .ok (.int v, k') ∧ 0 ≤ v ∧ v < m ∧ k'.l.length ≤ 63 := by
  obtain ⟨h1, h2, h3⟩ := drawM_ok k m hm hk
  exact ⟨_, _, if_pos ⟨hm, hm2, by omega⟩, h1, h2, h3⟩

theorem draw_ok (a q : Addr) (l : List Int) (b m : Int) (hm : 0 < m) (hm2 : m < 1073741824) (hl : l.length ≤ 63) : ∃ (v : Nat) (l' : List Int) (b' : Int), drawR a q ⟨l, b⟩ [.int m] = .ok (.int v, ⟨l', b'⟩) ∧ (v : Int) < m ∧ l'.length ≤ 63 := by
  obtain ⟨v, k', e, h0, h1, h2⟩ := drawR_ok a q ⟨l, b⟩ m hm (by omega) hl
  exact ⟨v.toNat, k'.l, k'.b, by rw [Int.toNat_of_nonneg h0]; exact e, by rw [Int.toNat_of_nonneg h0]; exact h1, h2⟩
theorem draw_okW (a q : Addr) (l : List Int) (b m : Int) (hm : 0 < m) (hm2 : m < 10000000000000000000000000000000000000000) (hl : l.length ≤ 63) : ∃ (v : Nat) (l' : List Int) (b' : Int), drawR a q ⟨l, b⟩ [.int m] = .ok (.int v, ⟨l', b'⟩) ∧ (v : Int) < m ∧ l'.length ≤ 63 := by
  obtain ⟨v, k', e, h0, h1, h2⟩ := drawR_ok a q ⟨l, b⟩ m hm hm2 hl
  exact ⟨v.toNat, k'.l, k'.b, by rw [Int.toNat_of_nonneg h0]; exact e, by rw [Int.toNat_of_nonneg h0]; exact h1, h2⟩

def top (i : Nat) : Stmt := PySem.Challenge.pw_restbehind_k09_rows_and_tables_of_any_va.main.body.getD i (.Pass ⟨0, 0, 0, 0⟩)
abbrev s__law_draw : Stmt := top 34
abbrev s__law_deck : Stmt := top 33
abbrev s__law_pick : Stmt := top 35
abbrev s__law_plan : Stmt := top 36
abbrev s__law_lines : Stmt := top 41
abbrev s__law_bad : Stmt := top 40
abbrev s__law_kept : Stmt := top 44
abbrev s__law_bent : Stmt := top 39
abbrev s__law_is_whole : Stmt := top 38
abbrev s__law_are_rows : Stmt := top 42
abbrev s_is_integer : Stmt := top 14
abbrev s_is_row : Stmt := top 25
abbrev s_is_rows : Stmt := top 26
abbrev s_is_columns : Stmt := top 15
abbrev s_are_within : Stmt := top 16
abbrev s_is_rule : Stmt := top 17
abbrev s_Scheme___init__ : Stmt := inClass (top 23) 0
abbrev s__law_code : Stmt := top 37
abbrev s_pairs_of : Stmt := top 28
abbrev s_row_at : Stmt := top 27
abbrev s_does_break : Stmt := top 29
abbrev s_broken : Stmt := top 30
abbrev s_is_table : Stmt := top 31
abbrev s__law_right : Stmt := top 43
abbrev s_law : Stmt := top 45
structure CA where
  Scheme : Addr
abbrev N__law_draw : List Str := ["_law_deck_here", "_law_many", "_law_cell", "_law_blend"]
theorem sc__law_draw : FnScope N__law_draw ["_law_deck_here", "_law_many"] (defScope s__law_draw) := ⟨rfl, rfl, rfl, by decide +kernel, rfl, by decide +kernel, by decide +kernel⟩
abbrev N__law_deck : List Str := ["_law_script", "_law_blend", "_law_cell"]
theorem sc__law_deck : FnScope N__law_deck ["_law_script"] (defScope s__law_deck) := ⟨rfl, rfl, rfl, by decide +kernel, rfl, by decide +kernel, by decide +kernel⟩
abbrev N__law_pick : List Str := ["_law_deck_here", "_law_some"]
theorem sc__law_pick : FnScope N__law_pick ["_law_deck_here", "_law_some"] (defScope s__law_pick) := ⟨rfl, rfl, rfl, by decide +kernel, rfl, by decide +kernel, by decide +kernel⟩
abbrev N__law_plan : List Str := ["_law_deck_here", "_law_wide", "_law_many", "_law_pool", "_law_cols", "_law_rules_now", "_law_k", "_law_last", "_law_sign"]
theorem sc__law_plan : FnScope N__law_plan ["_law_deck_here", "_law_wide", "_law_many"] (defScope s__law_plan) := ⟨rfl, rfl, rfl, by decide +kernel, rfl, by decide +kernel, by decide +kernel⟩
abbrev N__law_lines : List Str := ["_law_deck_here", "_law_wide", "_law_many", "_law_top", "_law_found", "_law_k", "_law_j"]
theorem sc__law_lines : FnScope N__law_lines ["_law_deck_here", "_law_wide", "_law_many", "_law_top"] (defScope s__law_lines) := ⟨rfl, rfl, rfl, by decide +kernel, rfl, by decide +kernel, by decide +kernel⟩
abbrev N__law_bad : List Str := ["_law_w", "_law_lines_here", "_law_k", "_law_left", "_law_last", "_law_spots", "_law_at", "_law_sign", "_law_far", "_law_mate", "_law_near", "_law_is_alike", "_law_spot"]
theorem sc__law_bad : FnScope N__law_bad ["_law_w", "_law_lines_here"] (defScope s__law_bad) := ⟨rfl, rfl, rfl, by decide +kernel, rfl, by decide +kernel, by decide +kernel⟩
abbrev N__law_kept : List Str := ["_law_w", "_law_lines_here", "_law_found", "_law_line_now"]
theorem sc__law_kept : FnScope N__law_kept ["_law_w", "_law_lines_here"] (defScope s__law_kept) := ⟨rfl, rfl, rfl, by decide +kernel, rfl, by decide +kernel, by decide +kernel⟩
abbrev N__law_bent : List Str := ["_law_deck_here", "_law_it", "_law_at", "_law_way"]
theorem sc__law_bent : FnScope N__law_bent ["_law_deck_here", "_law_it"] (defScope s__law_bent) := ⟨rfl, rfl, rfl, by decide +kernel, rfl, by decide +kernel, by decide +kernel⟩
abbrev N__law_is_whole : List Str := ["_law_it"]
theorem sc__law_is_whole : FnScope N__law_is_whole ["_law_it"] (defScope s__law_is_whole) := ⟨rfl, rfl, rfl, by decide +kernel, rfl, by decide +kernel, by decide +kernel⟩
abbrev N__law_are_rows : List Str := ["_law_wide", "_law_it", "_law_item", "_law_x", "_law_k"]
theorem sc__law_are_rows : FnScope N__law_are_rows ["_law_wide", "_law_it"] (defScope s__law_are_rows) := ⟨rfl, rfl, rfl, by decide +kernel, rfl, by decide +kernel, by decide +kernel⟩
abbrev N_is_integer : List Str := ["thing"]
theorem sc_is_integer : FnScope N_is_integer ["thing"] (defScope s_is_integer) := ⟨rfl, rfl, rfl, by decide +kernel, rfl, by decide +kernel, by decide +kernel⟩
abbrev N_is_row : List Str := ["columns", "thing", "part"]
theorem sc_is_row : FnScope N_is_row ["columns", "thing"] (defScope s_is_row) := ⟨rfl, rfl, rfl, by decide +kernel, rfl, by decide +kernel, by decide +kernel⟩
abbrev N_is_rows : List Str := ["columns", "thing", "row", "one", "other"]
theorem sc_is_rows : FnScope N_is_rows ["columns", "thing"] (defScope s_is_rows) := ⟨rfl, rfl, rfl, by decide +kernel, rfl, by decide +kernel, by decide +kernel⟩
abbrev N_is_columns : List Str := ["thing", "letter", "one", "other"]
theorem sc_is_columns : FnScope N_is_columns ["thing"] (defScope s_is_columns) := ⟨rfl, rfl, rfl, by decide +kernel, rfl, by decide +kernel, by decide +kernel⟩
abbrev N_are_within : List Str := ["thing", "columns", "letter"]
theorem sc_are_within : FnScope N_are_within ["thing", "columns"] (defScope s_are_within) := ⟨rfl, rfl, rfl, by decide +kernel, rfl, by decide +kernel, by decide +kernel⟩
abbrev N_is_rule : List Str := ["columns", "thing"]
theorem sc_is_rule : FnScope N_is_rule ["columns", "thing"] (defScope s_is_rule) := ⟨rfl, rfl, rfl, by decide +kernel, rfl, by decide +kernel, by decide +kernel⟩
abbrev N_Scheme___init__ : List Str := ["self", "columns", "rules", "rule", "one", "other"]
theorem sc_Scheme___init__ : FnScope N_Scheme___init__ ["self", "columns", "rules"] (defScope s_Scheme___init__) := ⟨rfl, rfl, rfl, by decide +kernel, rfl, by decide +kernel, by decide +kernel⟩
abbrev N__law_code : List Str := ["_law_w"]
theorem sc__law_code : FnScope N__law_code ["_law_w"] (defScope s__law_code) := ⟨rfl, rfl, rfl, by decide +kernel, rfl, by decide +kernel, by decide +kernel⟩
abbrev N_pairs_of : List Str := ["rows", "place", "one", "other"]
theorem sc_pairs_of : FnScope N_pairs_of ["rows"] (defScope s_pairs_of) := ⟨rfl, rfl, rfl, by decide +kernel, rfl, by decide +kernel, by decide +kernel⟩
abbrev N_row_at : List Str := ["columns", "row", "some", "letter"]
theorem sc_row_at : FnScope N_row_at ["columns", "row", "some"] (defScope s_row_at) := ⟨rfl, rfl, rfl, by decide +kernel, rfl, by decide +kernel, by decide +kernel⟩
abbrev N_does_break : List Str := ["scheme", "rule", "one", "other", "left", "right"]
theorem sc_does_break : FnScope N_does_break ["scheme", "rule", "one", "other"] (defScope s_does_break) := ⟨rfl, rfl, rfl, by decide +kernel, rfl, by decide +kernel, by decide +kernel⟩
abbrev N_broken : List Str := ["scheme", "rows", "index", "rule", "one", "other"]
theorem sc_broken : FnScope N_broken ["scheme", "rows"] (defScope s_broken) := ⟨rfl, rfl, rfl, by decide +kernel, rfl, by decide +kernel, by decide +kernel⟩
abbrev N_is_table : List Str := ["scheme", "thing"]
theorem sc_is_table : FnScope N_is_table ["scheme", "thing"] (defScope s_is_table) := ⟨rfl, rfl, rfl, by decide +kernel, rfl, by decide +kernel, by decide +kernel⟩
abbrev N__law_right : List Str := ["_law_w", "_law_cols", "_law_it", "_law_was", "_law_due", "_law_code_here", "_law_heard"]
theorem sc__law_right : FnScope N__law_right ["_law_w", "_law_cols", "_law_it"] (defScope s__law_right) := ⟨rfl, rfl, rfl, by decide +kernel, rfl, by decide +kernel, by decide +kernel⟩
abbrev N_law : List Str := ["_law_script", "_law_deck_here", "_law_go", "_law_w", "_law_lines_here", "_law_fine", "_law_cols", "_law_lots", "_law_item", "_law_k", "_law_bent_here", "_law_it", "_law_heard"]
theorem sc_law : FnScope N_law ["_law_script"] (defScope s_law) := ⟨rfl, rfl, rfl, by decide +kernel, rfl, by decide +kernel, by decide +kernel⟩
structure PR (K : PySem.W.Frag) (mg : Str → Option Value) where
  c : CA
  f__law_draw : Addr
  fd__law_draw : FuncData
  F__law_draw : Fun K "_law_draw" "_law_draw" s__law_draw f__law_draw fd__law_draw
  b__law_draw : Binds K fd__law_draw ["_law_deck_here", "_law_many"] []
  g__law_draw : mg "_law_draw" = some (.ref f__law_draw)
  f__law_deck : Addr
  fd__law_deck : FuncData
  F__law_deck : Fun K "_law_deck" "_law_deck" s__law_deck f__law_deck fd__law_deck
  b__law_deck : Binds K fd__law_deck ["_law_script"] []
  g__law_deck : mg "_law_deck" = some (.ref f__law_deck)
  f__law_pick : Addr
  fd__law_pick : FuncData
  F__law_pick : Fun K "_law_pick" "_law_pick" s__law_pick f__law_pick fd__law_pick
  b__law_pick : Binds K fd__law_pick ["_law_deck_here", "_law_some"] []
  g__law_pick : mg "_law_pick" = some (.ref f__law_pick)
  f__law_plan : Addr
  fd__law_plan : FuncData
  F__law_plan : Fun K "_law_plan" "_law_plan" s__law_plan f__law_plan fd__law_plan
  b__law_plan : Binds K fd__law_plan ["_law_deck_here", "_law_wide", "_law_many"] []
  g__law_plan : mg "_law_plan" = some (.ref f__law_plan)
  f__law_lines : Addr
  fd__law_lines : FuncData
  F__law_lines : Fun K "_law_lines" "_law_lines" s__law_lines f__law_lines fd__law_lines
  b__law_lines : Binds K fd__law_lines ["_law_deck_here", "_law_wide", "_law_many", "_law_top"] []
  g__law_lines : mg "_law_lines" = some (.ref f__law_lines)
  f__law_bad : Addr
  fd__law_bad : FuncData
  F__law_bad : Fun K "_law_bad" "_law_bad" s__law_bad f__law_bad fd__law_bad
  b__law_bad : Binds K fd__law_bad ["_law_w", "_law_lines_here"] []
  g__law_bad : mg "_law_bad" = some (.ref f__law_bad)
  f__law_kept : Addr
  fd__law_kept : FuncData
  F__law_kept : Fun K "_law_kept" "_law_kept" s__law_kept f__law_kept fd__law_kept
  b__law_kept : Binds K fd__law_kept ["_law_w", "_law_lines_here"] []
  g__law_kept : mg "_law_kept" = some (.ref f__law_kept)
  f__law_bent : Addr
  fd__law_bent : FuncData
  F__law_bent : Fun K "_law_bent" "_law_bent" s__law_bent f__law_bent fd__law_bent
  b__law_bent : Binds K fd__law_bent ["_law_deck_here", "_law_it"] []
  g__law_bent : mg "_law_bent" = some (.ref f__law_bent)
  f__law_is_whole : Addr
  fd__law_is_whole : FuncData
  F__law_is_whole : Fun K "_law_is_whole" "_law_is_whole" s__law_is_whole f__law_is_whole fd__law_is_whole
  b__law_is_whole : Binds K fd__law_is_whole ["_law_it"] []
  g__law_is_whole : mg "_law_is_whole" = some (.ref f__law_is_whole)
  f__law_are_rows : Addr
  fd__law_are_rows : FuncData
  F__law_are_rows : Fun K "_law_are_rows" "_law_are_rows" s__law_are_rows f__law_are_rows fd__law_are_rows
  b__law_are_rows : Binds K fd__law_are_rows ["_law_wide", "_law_it"] []
  g__law_are_rows : mg "_law_are_rows" = some (.ref f__law_are_rows)
  f_is_integer : Addr
  fd_is_integer : FuncData
  F_is_integer : Fun K "is_integer" "is_integer" s_is_integer f_is_integer fd_is_integer
  b_is_integer : Binds K fd_is_integer ["thing"] []
  g_is_integer : mg "is_integer" = some (.ref f_is_integer)
  f_is_row : Addr
  fd_is_row : FuncData
  F_is_row : Fun K "is_row" "is_row" s_is_row f_is_row fd_is_row
  b_is_row : Binds K fd_is_row ["columns", "thing"] []
  g_is_row : mg "is_row" = some (.ref f_is_row)
  f_is_rows : Addr
  fd_is_rows : FuncData
  F_is_rows : Fun K "is_rows" "is_rows" s_is_rows f_is_rows fd_is_rows
  b_is_rows : Binds K fd_is_rows ["columns", "thing"] []
  g_is_rows : mg "is_rows" = some (.ref f_is_rows)
  f_is_columns : Addr
  fd_is_columns : FuncData
  F_is_columns : Fun K "is_columns" "is_columns" s_is_columns f_is_columns fd_is_columns
  b_is_columns : Binds K fd_is_columns ["thing"] []
  g_is_columns : mg "is_columns" = some (.ref f_is_columns)
  f_are_within : Addr
  fd_are_within : FuncData
  F_are_within : Fun K "are_within" "are_within" s_are_within f_are_within fd_are_within
  b_are_within : Binds K fd_are_within ["thing", "columns"] []
  g_are_within : mg "are_within" = some (.ref f_are_within)
  f_is_rule : Addr
  fd_is_rule : FuncData
  F_is_rule : Fun K "is_rule" "is_rule" s_is_rule f_is_rule fd_is_rule
  b_is_rule : Binds K fd_is_rule ["columns", "thing"] []
  g_is_rule : mg "is_rule" = some (.ref f_is_rule)
  f_Scheme___init__ : Addr
  fd_Scheme___init__ : FuncData
  F_Scheme___init__ : Fun K "__init__" "Scheme.__init__" s_Scheme___init__ f_Scheme___init__ fd_Scheme___init__
  b_Scheme___init__ : Binds K fd_Scheme___init__ ["self", "columns", "rules"] []
  f__law_code : Addr
  fd__law_code : FuncData
  F__law_code : Fun K "_law_code" "_law_code" s__law_code f__law_code fd__law_code
  b__law_code : Binds K fd__law_code ["_law_w"] []
  g__law_code : mg "_law_code" = some (.ref f__law_code)
  f_pairs_of : Addr
  fd_pairs_of : FuncData
  F_pairs_of : Fun K "pairs_of" "pairs_of" s_pairs_of f_pairs_of fd_pairs_of
  b_pairs_of : Binds K fd_pairs_of ["rows"] []
  g_pairs_of : mg "pairs_of" = some (.ref f_pairs_of)
  f_row_at : Addr
  fd_row_at : FuncData
  F_row_at : Fun K "row_at" "row_at" s_row_at f_row_at fd_row_at
  b_row_at : Binds K fd_row_at ["columns", "row", "some"] []
  g_row_at : mg "row_at" = some (.ref f_row_at)
  f_does_break : Addr
  fd_does_break : FuncData
  F_does_break : Fun K "does_break" "does_break" s_does_break f_does_break fd_does_break
  b_does_break : Binds K fd_does_break ["scheme", "rule", "one", "other"] []
  g_does_break : mg "does_break" = some (.ref f_does_break)
  f_broken : Addr
  fd_broken : FuncData
  F_broken : Fun K "broken" "broken" s_broken f_broken fd_broken
  b_broken : Binds K fd_broken ["scheme", "rows"] []
  g_broken : mg "broken" = some (.ref f_broken)
  f_is_table : Addr
  fd_is_table : FuncData
  F_is_table : Fun K "is_table" "is_table" s_is_table f_is_table fd_is_table
  b_is_table : Binds K fd_is_table ["scheme", "thing"] []
  g_is_table : mg "is_table" = some (.ref f_is_table)
  f__law_right : Addr
  fd__law_right : FuncData
  F__law_right : Fun K "_law_right" "_law_right" s__law_right f__law_right fd__law_right
  b__law_right : Binds K fd__law_right ["_law_w", "_law_cols", "_law_it"] []
  g__law_right : mg "_law_right" = some (.ref f__law_right)
  f_law : Addr
  fd_law : FuncData
  F_law : Fun K "law" "law" s_law f_law fd_law
  b_law : Binds K fd_law ["_law_script"] []
  g_law : mg "law" = some (.ref f_law)
  z_int : mg "int" = none
  z_range : mg "range" = none
  z_list : mg "list" = none
  z_len : mg "len" = none
  z_sorted : mg "sorted" = none
  z_tuple : mg "tuple" = none
  z_set : mg "set" = none
  z_enumerate : mg "enumerate" = none
  z_isinstance : mg "isinstance" = none
  z_bool : mg "bool" = none
  z_str : mg "str" = none
  z_repr : mg "repr" = none
  z_all : mg "all" = none
  z_zip : mg "zip" = none
  kw_is_rows_0_thing_columns : KW fd_is_rows ["columns", "thing"] 0 ["thing", "columns"] [1, 0]
  g_LETTERS : ∃ t, mg "LETTERS" = some (.str "abcdefghijklmnopqrstuvwxyz" t)
  g_RULE_PARTS : ∃ t, mg "RULE_PARTS" = some (.int 2 t)
  cl_Scheme : Cls K c.Scheme
  n_Scheme_columns : NoAttr K c.Scheme "columns"
  n_Scheme_rules : NoAttr K c.Scheme "rules"
  mk_Scheme : Mk K c.Scheme f_Scheme___init__
  c_Scheme : mg "Scheme" = some (.ref c.Scheme)
  kw_is_table_0_thing_scheme : KW fd_is_table ["scheme", "thing"] 0 ["thing", "scheme"] [1, 0]
section
variable {P : Program} {w : World} {K : PySem.W.Frag} {mg : Str → Option Value} {base : Heap}
def m__law_draw (_ : CA) : Addr → Addr → Dk → List D → Res (D × Dk) := drawR
theorem fn_draw {f : Addr} {fd : FuncData} (F : Fun K "_law_draw" "_law_draw" s__law_draw f fd) (zi : mg "int" = none) : FnG P w K mg base CX0 1 f fd ["_law_deck_here", "_law_many"] (spK K 1 drawR) := by
  refine FnG.body F sc__law_draw (spK_len rfl) fun cdv A outer s H vs Q E hg hr hsp => ?_
  obtain ⟨G, a, q, k, vr, ds, rfl, sm, ga, gq, ⟨da, dq⟩, dd, hl, z⟩ := hsp
  match ds, z with
  | [.int m], z =>
  have z : KRz K G H a q Q (if 0 < m ∧ m < 10000000000000000000000000000000000000000 ∧ k.l.length ≤ 1000 then .ok (.int (drawM k m).1, (drawM k m).2) else .stuck) := z
  have hm : 0 < m ∧ m < 10000000000000000000000000000000000000000 ∧ k.l.length ≤ 1000 := Decidable.byContradiction fun h => by rw [if_neg h] at z; exact z.elim
  rw [if_pos hm] at z
  obtain ⟨m0, m1, kl⟩ := hm
  match vr, dd with
  | [_], .cons (.int _) .nil =>
  have hu := hr.units
  refine ⟨_, PSs.nox (pss_cons (ps_if (pt_cmpR (op_neq hu) (pe_dget (hu_of hr) (pv 0) pe_str (by intro _ _; rfl)) (pe_lst pa_nil) (nomark _))
    (pss_cons (ps_set (i := 2) sc__law_draw.nd rfl (Or.inl rfl) (pe_callTy call_int1 (by rfl) zi PyProof.Rows.boot_int (pa_cons (pe_bm0 PySem.F.plainAttrs_list PySem.F.slot_list_pop PySem.F.type_list_pop mt_pop (pe_dget (hu_of hr) (pv 0) pe_str (by intro _ _; rfl))) pa_nil)))
      (pss_cons (ps_if (pt_cmpR op_ge (pv 2) (pv 1) (nomark _)) (pss_one (ps_expr (pe_bm PySem.F.plainAttrs_list PySem.F.slot_list_append PySem.F.type_list_append mt_append (pe_dget (hu_of hr) (pv 0) pe_str (by intro _ _; rfl)) (pa_cons (pe_op op_fdivW (pv 2) (pv 1)) pa_nil)))) pss_nil)
        (pss_one (ps_ret (pe_op op_mod (pv 2) (pv 1)))))) pss_nil)
    (pss_cons (ps_set (i := 3) sc__law_draw.nd rfl (Or.inl rfl) (pe_op op_mod (pe_callTy call_int1 (by rfl) zi PyProof.Rows.boot_int (pa_cons (pe_op op_add (pe_op op_mul (pe_callTy call_int1 (by rfl) zi PyProof.Rows.boot_int (pa_cons (pe_dget (hu_of hr) (pv 0) pe_str (by intro _ _; rfl)) pa_nil)) pe_int) pe_int) pa_nil)) pe_int))
      (pss_cons (ps_dput (hu_of hr) (pv 0) pe_str (pv 3) rfl)
        (pss_cons (ps_set (i := 3) sc__law_draw.nd rfl (Or.inl rfl) (pe_op op_mod (pe_callTy call_int1 (by rfl) zi PyProof.Rows.boot_int (pa_cons (pe_op op_add (pe_op op_mul (pv 3) (pv 3)) (pe_op op_mul pe_int (pv 3))) pa_nil)) pe_int))
          (pss_one (ps_ret (pe_op op_mod (pe_op op_fdiv (pv 3) pe_int) (pv 1)))))))), ?_⟩
  have lk : DGet H a (.str "left") (some (.ref q)) := .inl ⟨_, .inr "left", .inl da, rfl, lk_left.symm⟩
  refine ⟨_, rfl, a, .ref q, rfl, lk, Nat.zero_le _, fun p hp => ?_⟩
  have npa : p ≠ a := fun e => by rw [e, da] at hp; cases hp
  have npq : p ≠ q := fun e => by rw [e, dq] at hp; cases hp
  have naq : a ≠ q := fun e => by rw [e, dq] at da; cases da
  have s1 : Same H (upd H p (.lst [])) := fun b u e => by rw [upd_ne (ne_of_none e hp)]; exact e
  have e1 := s1 _ _ da
  have e2 := s1 _ _ dq
  refine ⟨G, .lst (k.l.map .int), .lst [], sm.trans s1, .own rfl ⟨_, e2, by rw [List.length_map, sizeLine_eq]; omega, dds_ints _⟩, .own rfl ⟨_, upd_same, Nat.zero_le _, .nil⟩, ?_⟩
  refine ⟨plain_ints _, rfl, Nat.le_trans (Nat.min_le_right _ _) (by decide), trivial, _, rfl, ?_⟩
  show if (!PyData.eqv (D.lst (k.l.map D.int)).py (D.lst []).py) = true then _ else _
  rw [eqv_nil]
  have fin : ∀ {d : Int} {l' : List Int} {b' : Int} {H' : Hp}, drawM k m = (d, ⟨l', b'⟩) → Same G H' → (∀ b o, H b = some o → b ≠ a → b ≠ q → H' b = some o) → DeckAt H' a q l' b' → Q (.int d) H' := fun {d l' b' H'} e s2 kp dk => by
    rw [e] at z
    exact z (.int d) G H' (Same.refl _) s2 kp (fun b o h _ _ _ _ => h) ga gq dk (.int d)
  have keep : ∀ {H' : Hp}, (∀ b o, H b = some o → b ≠ a → b ≠ q → H' b = some o) → Same G H' := fun {H'} kp b o h => kp b o (sm b o h) (ne_of_none h ga) (ne_of_none h gq)
  cases hk : k.l with
  | nil =>
    refine iteF ?_
    have lkb : DGet (upd H p (.lst [])) a (.str "blend") (some (.int k.b)) := .inl ⟨_, .inr "blend", .inl e1, rfl, lk_blend.symm⟩
    refine ⟨_, rfl, a, .int k.b, rfl, lkb, .inl ⟨_, rfl, k.b, 69621, rfl, rfl, .inr ⟨by decide, by decide⟩, _, 47, rfl, rfl, .inl ⟨_, rfl, _, 2147483587, rfl, rfl, (by show (0 : Int) < 2147483587; decide), ?_⟩⟩⟩
    have b0 := Int.emod_nonneg (k.b * 69621 + 47) (b := 2147483587) (by decide)
    have b1 := Int.emod_lt_of_pos (k.b * 69621 + 47) (b := 2147483587) (by decide)
    refine ⟨_, rfl, _, rfl, a, _, rfl, .inl ⟨_, .inr "blend", e1, rfl, by show 2 < sizeLine; decide, rfl⟩, ?_⟩
    refine ⟨_, rfl, _, rfl, _, _, rfl, rfl, .inl ⟨by omega, by omega⟩, _, rfl, 48271, _, rfl, rfl, .inl ⟨by decide, by decide⟩, _, _, rfl, rfl, .inl ⟨_, rfl, _, 2147483579, rfl, rfl, (by show (0 : Int) < 2147483579; decide), ?_⟩⟩
    refine ⟨_, rfl, _, 64, rfl, rfl, ⟨by decide, by decide⟩, _, rfl, _, m, rfl, rfl, m0, ?_⟩
    rw [put_blend]
    have kp : ∀ b o, H b = some o → b ≠ a → b ≠ q → upd (upd H p (.lst [])) a (.dK [(.inr "left", .ref q), (.inr "blend", .int ((k.b * 69621 + 47) % 2147483587))]) b = some o := fun b o h h1 _ => by
      rw [upd_ne h1]; exact s1 b o h
    refine fin (l' := k.l) (by unfold drawM; rw [hk]; rfl) (keep kp) kp ⟨upd_same, ?_⟩
    rw [upd_ne naq.symm, ← dq]; exact e2.trans dq.symm
  | cons c0 r0 =>
    refine iteT ?_
    have lk2 : DGet (upd H p (.lst [])) a (.str "left") (some (.ref q)) := .inl ⟨_, .inr "left", .inl e1, rfl, lk_left.symm⟩
    obtain ⟨c, hc⟩ : ∃ c, k.l.getLast? = some c := by
      rw [hk]; exact ⟨_, List.getLast?_eq_some_getLast (by simp)⟩
    have hg : (k.l.map V.int)[(k.l.map V.int).length - 1]? = some (.int c) := by
      rw [List.length_map, List.getElem?_map, ← List.getLast?_eq_getElem?, hc]; rfl
    refine ⟨_, rfl, a, .ref q, rfl, lk2, .inl ⟨rfl, _, SqL.of e2⟩, q, _, .int c, rfl, rfl, e2, hg, .inl ⟨c, rfl, ?_⟩⟩
    have dl : (k.l.map V.int).dropLast = k.l.dropLast.map V.int := (List.map_dropLast).symm
    rw [dl]
    refine ⟨_, rfl, _, rfl, c, m, rfl, rfl, _, rfl, ?_⟩
    have e3 : upd (upd H p (.lst [])) q (.lst (k.l.dropLast.map V.int)) a = some (.dK [(.inr "left", .ref q), (.inr "blend", .int k.b)]) := by rw [upd_ne naq]; exact e1
    have lk3 : DGet (upd (upd H p (.lst [])) q (.lst (k.l.dropLast.map V.int))) a (.str "left") (some (.ref q)) := .inl ⟨_, .inr "left", .inl e3, rfl, lk_left.symm⟩
    have kp : ∀ l', ∀ b o, H b = some o → b ≠ a → b ≠ q → upd (upd (upd H p (.lst [])) q (.lst (k.l.dropLast.map V.int))) q (.lst l') b = some o := fun l' b o h _ h2 => by
      rw [upd_ne h2, upd_ne h2]; exact s1 b o h
    have kp0 : ∀ b o, H b = some o → b ≠ a → b ≠ q → upd (upd H p (.lst [])) q (.lst (k.l.dropLast.map V.int)) b = some o := fun b o h _ h2 => by
      rw [upd_ne h2]; exact s1 b o h
    by_cases hmc : m ≤ c
    · rw [decide_eq_true hmc]
      refine iteT ?_
      refine ⟨_, rfl, a, .ref q, rfl, lk3, .inl ⟨rfl, _, SqL.of upd_same⟩, _, rfl, _, rfl, c, m, rfl, rfl, wide_div (b := 140) m0 (by omega) (by decide) (by decide), q, _, _, rfl, rfl, upd_same, ?_, ?_⟩
      · rw [List.length_map, List.length_dropLast, sizeLine_eq]; omega
      · refine ⟨_, rfl, _, rfl, c, m, rfl, rfl, m0, ?_⟩
        refine fin (l' := k.l.dropLast ++ [c / m]) (b' := k.b) (by unfold drawM; rw [hc]; simp only [if_pos hmc]) (keep (kp _)) (kp _) ⟨?_, ?_⟩
        · rw [upd_ne naq]; exact e3
        · rw [upd_same, List.map_append]; rfl
    · rw [decide_eq_false hmc]
      refine iteF ?_
      refine ⟨_, rfl, _, rfl, c, m, rfl, rfl, m0, ?_⟩
      exact fin (l' := k.l.dropLast) (b' := k.b) (by unfold drawM; rw [hc]; simp only [if_neg hmc]) (keep kp0) kp0 ⟨e3, upd_same⟩
theorem ok__law_draw (R : PR K mg) : FnG P w K mg base CX0 1 R.f__law_draw R.fd__law_draw ["_law_deck_here", "_law_many"] (spK K 1 (m__law_draw R.c)) := fn_draw R.F__law_draw R.z_int

theorem fn_deck {f : Addr} {fd : FuncData} (F : Fun K "_law_deck" "_law_deck" s__law_deck f fd) (zi : mg "int" = none) : FnG P w K mg base CX0 1 f fd ["_law_script"] (spDeck K) := by
  refine FnG.body F sc__law_deck (fun vs H Q E h => by obtain ⟨a, ns, rfl, _⟩ := h; rfl) fun cdv A outer s H vs Q E hg hr hsp => ?_
  obtain ⟨a, ns, rfl, hS, hl, z⟩ := hsp
  refine ⟨_, PSs.nox (pss_cons (ps_set (i := 1) sc__law_deck.nd rfl (Or.inl rfl) pe_int) (pss_cons (ps_for PassesOwn.never rfl (pi_list (pe_slice sl_list (pv 0) po_none (po_some pe_int))) (pg_name (i := 2) sc__law_deck.nd rfl (Or.inl rfl))
      (pss_one (ps_set (i := 1) sc__law_deck.nd rfl (Or.inl rfl) (pe_op op_mod (pe_callTy call_int1 (by rfl) zi PyProof.Rows.boot_int (pa_cons (pe_op op_add (pe_op op_add (pe_op op_mul (pv 1) pe_int) (pe_op op_mod (pe_callTy call_int1 (by rfl) zi PyProof.Rows.boot_int (pa_cons (pv 2) pa_nil)) pe_int)) pe_int) pa_nil)) pe_int))))
    (pss_one (ps_ret (pe_disp (pps_cons pe_str (pe_revL (pe_lc (own := [("_law_cell", 2)]) rfl (by exact sc__law_deck.nd) (pi_list (pe_slice sl_list (pv 0) po_none (po_some pe_int))) (by exact blkOk_by (N := N__law_deck) (sc := defScope s__law_deck) (own := [("_law_cell", 2)]) (by decide +kernel))
        (fun _ _ _ _ _ => pg_name (i := 2) (by exact sc__law_deck.nd) rfl (by first | exact Or.inl rfl | exact Or.inr rfl)) (fun _ _ _ _ _ => pts_one (pt_cmpR op_ge (pv 2) (pe_op op_pow pe_int pe_int) (nomark _))) (fun _ _ _ _ _ => pv 2)))
      (pps_cons pe_str (pv 1) pps_nil)) rfl rfl (by intro z; cases z) (by decide)))))), ?_⟩
  refine ⟨_, rfl, 63, rfl, a, _, rfl, hS, fun p hp => ⟨p, rfl, ⟨_, SqL.of upd_same⟩, ?_⟩⟩
  rw [cutV_ints]
  have s1 : Same H (upd H p (.lst ((cutI ns none (some 63)).map V.int))) := fun b u e => by rw [upd_ne (ne_of_none e hp)]; exact e
  refine for_list (xs := (cutI ns none (some 63)).map V.int) (fun i σ H' => ∃ (b : Int) (v : Option V), σ = [some (.ref a), some (.int b), v] ∧ Same (upd H p (.lst ((cutI ns none (some 63)).map V.int))) H') ⟨1086109, none, rfl, Same.refl _⟩ (fun i σ H' _ ⟨b, v, _, e⟩ => SqL.of (e _ _ upd_same)) ?_ ?_
  · rintro i x σ H' hx ⟨b, v, rfl, e⟩
    obtain ⟨c, rfl, _⟩ := int_at hx
    exact ⟨_, rfl, b, 48271, rfl, rfl, .inr ⟨by decide, by decide⟩, _, rfl, .inl ⟨c, rfl, c, 2147483629, rfl, rfl, (by show (0 : Int) < 2147483629; decide), _, _, rfl, rfl, _, 47, rfl, rfl, .inl ⟨_, rfl, _, 2147483587, rfl, rfl, (by show (0 : Int) < 2147483587; decide), _, _, rfl, e⟩⟩⟩
  · rintro σ H' ⟨b, v, rfl, e⟩
    have s2 : Same H H' := s1.trans e
    intro p1 hp1
    have s3 : Same H' (upd H' p1 (.dK [])) := fun b u e => by rw [upd_ne (ne_of_none e hp1)]; exact e
    refine ⟨_, rfl, 63, rfl, a, _, rfl, s3.seq (s2.seq hS), fun p2 hp2 => ⟨p2, rfl, ⟨_, SqL.of upd_same⟩, fun D0 hD => ?_⟩⟩
    rw [cutV_ints] at hD ⊢
    have np21 : p2 ≠ p1 := fun e => by rw [e, upd_same] at hp2; cases hp2
    have hB1 : upd (upd H' p1 (.dK [])) p2 (.lst ((cutI ns none (some 63)).map V.int)) p1 = some (.dK []) := by rw [upd_ne np21.symm, upd_same]
    have s4 : Same H' (upd (upd H' p1 (.dK [])) p2 (.lst ((cutI ns none (some 63)).map V.int))) := fun b u e => by
      rw [upd_ne (ne_of_none (s3 b u e) hp2)]; exact s3 b u e
    refine lc_list (xs := (cutI ns none (some 63)).map V.int) (fun i H2 => ∃ acc : List Int, acc.length ≤ i ∧ H2 D0 = some (.lst (acc.map V.int)) ∧ Same (upd (upd H' p1 (.dK [])) p2 (.lst ((cutI ns none (some 63)).map V.int))) H2)
      ⟨[], Nat.le_refl _, upd_same, fun b u e => by rw [upd_ne (ne_of_none e hD)]; exact e⟩ (fun i H2 _ ⟨acc, _, _, e⟩ => SqL.of (e _ _ upd_same)) ?_ ?_
    · rintro i x H2 hx ⟨acc, la, hd, e2⟩
      obtain ⟨c, rfl, hi⟩ := int_at hx
      refine ⟨rfl, _, rfl, 10, 18, rfl, rfl, ⟨by decide, by decide, by decide⟩, c, _, rfl, rfl, _, rfl, ?_⟩
      refine ite2 (fun _ => ?_) (fun _ => ⟨acc, Nat.le_succ_of_le la, hd, e2⟩)
      refine ⟨_, rfl, _, hd, ?_, acc ++ [c], ?_, ?_, fun b u e => ?_⟩
      · have := cutI_len ns none (some 63)
        rw [List.length_map, sizeLine_eq]; omega
      · rw [List.length_append, List.length_singleton]; omega
      · rw [upd_same, List.map_append]; rfl
      · rw [upd_ne (ne_of_none e hD)]; exact e2 b u e
    · rintro H2 ⟨acc, la, hd, e2⟩
      refine ⟨D0, _, rfl, SqL.of hd, fun q hq => ?_⟩
      have hq1 : q ≠ p1 := fun e => by rw [e, e2 _ _ hB1] at hq; cases hq
      refine ⟨_, rfl, ?_, [(.inr "left", .ref q), (.inr "blend", .int b)], rfl, (by show 2 ≤ 15; decide), ?_⟩
      · rw [upd_ne hq1.symm]; exact e2 _ _ hB1
      · rw [merge2, ← List.map_reverse]
        have s5 : Same H H2 := (s2.trans s4).trans e2
        refine z p1 q acc.reverse b _ (fun b u e => ?_) (s2.free hp1) (s5.free hq) hq1.symm ?_ ⟨upd_same, ?_⟩
        · rw [upd_ne (ne_of_none e (s2.free hp1)), upd_ne (ne_of_none e (s5.free hq))]; exact s5 b u e
        · have := cutI_len ns none (some 63)
          rw [List.length_map] at la
          rw [List.length_reverse]; omega
        · rw [upd_ne hq1, upd_same]
theorem ok__law_deck (R : PR K mg) : FnG P w K mg base CX0 1 R.f__law_deck R.fd__law_deck ["_law_script"] (spDeck K) := fn_deck R.F__law_deck R.z_int

def b__law_pick (c : CA) : SF := (sRet (eOp gIx (eV 1) (eK 0 1 (m__law_draw c) (aC (eCall gLen (aC (eV 1) aN)) aN))))
def m__law_pick (c : CA) : Addr → Addr → Dk → List D → Res (D × Dk) := runK (b__law_pick c) 0
theorem ok__law_pick (R : PR K mg) : FnG P w K mg base CX0 2 R.f__law_pick R.fd__law_pick ["_law_deck_here", "_law_some"] (spK K 1 (m__law_pick R.c)) :=
  fn_K R.F__law_pick sc__law_pick 1 0 rfl rfl fun cdv A outer s H E hg hr => (dss_one (ds_ret (de_ix ix_seq opd_ix (dv 1) (de_K (ok__law_draw R) hg (hr.mono (by decide)) (by rfl) R.g__law_draw R.F__law_draw.kp R.b__law_draw passW0 (pv 0) (da_cons (de_callB call_len calld_len (by rfl) R.z_len PySem.boot_len (da_cons (dv 1) da_nil)) da_nil)) (by intro _ _; rfl))))
def b__law_plan (c : CA) : SF := (sSeq (sPar [3, 4, 5] [.n (nCall gListX (aC (eC (.str "abcdefmnxyz")) aN)), .n nNil, .n nDT])
  (sSeq (sFor (iR1 (aC (eOp gAdd (eC (.int 1)) (eK 0 1 (m__law_draw c) (aC (eV 1) aN))) aN)) (gN 6)
  (sEx (eOM 4 gApp (aC (eOM 3 gPopAt (aC (eK 0 1 (m__law_draw c) (aC (eCall gLen (aC (eV 3) aN)) aN)) aN)) aN))))
  (sSeq (sSetN 4 (nCall gSorted (aC (eV 4) aN)))
  (sSeq (sFor (iR1 (aC (eK 0 1 (m__law_draw c) (aC (eOp gAdd (eV 2) (eC (.int 1))) aN)) aN)) (gN 6)
  (sSeq (sSet 7 (eK 0 1 (m__law_pick c) (aC (eVf 4) aN)))
  (sPut 5 (eTup (aC (eM1 gJoin (eC (.str "")) (eN (nComp [8] (iSq (eVf 4)) (gN 8) (tAnd' (tB (eOp gNe (eV 8) (eV 7))) (tB (eOp gEq (eK 0 1 (m__law_draw c) (aC (eC (.int 3)) aN)) (eC (.int 0))))) (eV 8)))) (aC (eV 7) aN))) (eC (.bl true)))))
  (sRet (eN (nDis (("cols", (eM1 gJoin (eC (.str "")) (eV 4))) :: (("rules", (eCall gTuple (aC (eN (nCall gSorted (aC (eN (nListT (aC (eV 5) aN))) aN))) aN))) :: [])))))))))
def m__law_plan (c : CA) : Addr → Addr → Dk → List D → Res (D × Dk) := runK (b__law_plan c) 6
theorem ok__law_plan (R : PR K mg) : FnG P w K mg base CX0 3 R.f__law_plan R.fd__law_plan ["_law_deck_here", "_law_wide", "_law_many"] (spK K 2 (m__law_plan R.c)) :=
  fn_K R.F__law_plan sc__law_plan 2 6 rfl rfl fun cdv A outer s H E hg hr => (dss_cons (ds_par3 rfl sc__law_plan.nd rfl rfl rfl (by decide) (by decide) (by decide) rfl rfl rfl (dws_n (dn_callTy (call_listX rfl) calln_listX (by rfl) R.z_list PyProof.Rows.boot_list (da_cons (de_str ⟨by decide +kernel, by decide +kernel⟩) da_nil)) (dws_n dn_nil (dws_n dn_dt dws_nil))) rfl)
    (dss_cons (ds_for PassesOwn.never rfl (di_range1 (by rfl) R.z_range (da_cons (de_op op_addA opd_add de_int (de_K (ok__law_draw R) hg (hr.mono (by decide)) (by rfl) R.g__law_draw R.F__law_draw.kp R.b__law_draw passW0 (pv 0) (da_cons (dv 1) da_nil))) da_nil)) (dg_name sc__law_plan.nd rfl (by first | exact Or.inl rfl | exact Or.inr rfl)) (dss_one (ds_expr (de_om PySem.F.slot_list_append PySem.F.type_list_append mt_append own_app (pv 4) (da_cons (de_om PySem.F.slot_list_pop PySem.F.type_list_pop mt_popAt own_popAt (pv 3) (da_cons (de_K (ok__law_draw R) hg (hr.mono (by decide)) (by rfl) R.g__law_draw R.F__law_draw.kp R.b__law_draw passW0 (pv 0) (da_cons (de_callB call_len calld_len (by rfl) R.z_len PySem.boot_len (da_cons (dv 3) da_nil)) da_nil)) da_nil)) da_nil)))))
    (dss_cons (ds_setN sc__law_plan.nd rfl (Or.inl rfl) (dn_callB (call_sortD hr.units) calln_sorted (by rfl) R.z_sorted PyProof.Rows.boot_sorted (da_cons (dv 4) da_nil)))
    (dss_cons (ds_for PassesOwn.never rfl (di_range1 (by rfl) R.z_range (da_cons (de_K (ok__law_draw R) hg (hr.mono (by decide)) (by rfl) R.g__law_draw R.F__law_draw.kp R.b__law_draw passW0 (pv 0) (da_cons (de_op op_addA opd_add (dv 2) de_int) da_nil)) da_nil)) (dg_name sc__law_plan.nd rfl (by first | exact Or.inl rfl | exact Or.inr rfl)) (dss_cons (ds_set sc__law_plan.nd rfl (Or.inr rfl) (de_K (ok__law_pick R) hg (hr.mono (by decide)) (by rfl) R.g__law_pick R.F__law_pick.kp R.b__law_pick passW0 (pv 0) (da_cons (dvf 4) da_nil)))
    (dss_one (ds_put (hu_of hr) (pv 5) (de_tup (da_cons (de_join (de_str ⟨by decide +kernel, by decide +kernel⟩) (dn_de (dn_comp (own := [("_law_sign", 8)]) rfl sc__law_plan.nd (di_seq (dvf 4)) (by exact blkOk_by (N := N__law_plan) (sc := defScope s__law_plan) (own := [("_law_sign", 8)]) (by decide +kernel)) (fun _ _ _ _ _ => (dg_name sc__law_plan.nd rfl (by first | exact Or.inl rfl | exact Or.inr rfl))) (fun _ _ _ _ _ => (dts_one (dt_w (dw_and (dt_cmp (op_neq hr.units) opd_ne (dv 8) (dv 7) (nomark _)) (dw_one (dt_cmp (op_eqq hr.units) opd_eq (de_K (ok__law_draw R) hg (hr.mono (by decide)) (by rfl) R.g__law_draw R.F__law_draw.kp R.b__law_draw passW0 (pv 0) (da_cons de_int da_nil)) de_int (nomark _))))))) (fun _ _ _ _ _ => (dv 8))))) (da_cons (dv 7) da_nil))) de_bl))))
    (dss_one (ds_ret (dn_de (dn_dis (dps_cons ⟨by decide +kernel, by decide +kernel⟩ (de_join (de_str ⟨by decide +kernel, by decide +kernel⟩) (dv 4)) (dps_cons ⟨by decide +kernel, by decide +kernel⟩ (de_callTy call_tuple_of calld_tuple (by rfl) R.z_tuple PyProof.Rows.boot_tuple (da_cons (dn_de (dn_callB (call_sortD hr.units) calln_sorted (by rfl) R.z_sorted PyProof.Rows.boot_sorted (da_cons (dn_de (dn_listT rfl (by rfl) R.z_list (da_cons (dv 5) da_nil))) da_nil))) da_nil)) dps_nil))))))))))
def b__law_lines (c : CA) : SF := (sSeq (sSetN 4 nNil)
  (sSeq (sFor (iR1 (aC (eK 0 1 (m__law_draw c) (aC (eOp gAdd (eV 2) (eC (.int 1))) aN)) aN)) (gN 5)
  (sEx (eOM 4 gApp (aC (eCall gTuple (aC (eN (nComp [6] (iR1 (aC (eV 1) aN)) (gN 6) tYes' (eK 0 1 (m__law_pick c) (aC (eN (nLst (aC (eC (.int 0)) (aC (eC (.int 1)) (aC (eC (.int 2)) (aC (eK 0 1 (m__law_draw c) (aC (eV 3) aN)) (aC (eUn gNeg (eC (.int 3))) aN))))))) aN)))) aN)) aN))))
  (sRet (eCall gTuple (aC (eN (nCall gSortSet (aC (eV 4) aN))) aN)))))
def m__law_lines (c : CA) : Addr → Addr → Dk → List D → Res (D × Dk) := runK (b__law_lines c) 3
theorem ok__law_lines (R : PR K mg) : FnG P w K mg base CX0 3 R.f__law_lines R.fd__law_lines ["_law_deck_here", "_law_wide", "_law_many", "_law_top"] (spK K 3 (m__law_lines R.c)) :=
  fn_K R.F__law_lines sc__law_lines 3 3 rfl rfl fun cdv A outer s H E hg hr => (dss_cons (ds_setN sc__law_lines.nd rfl (Or.inl rfl) dn_nil)
    (dss_cons (ds_for PassesOwn.never rfl (di_range1 (by rfl) R.z_range (da_cons (de_K (ok__law_draw R) hg (hr.mono (by decide)) (by rfl) R.g__law_draw R.F__law_draw.kp R.b__law_draw passW0 (pv 0) (da_cons (de_op op_addA opd_add (dv 2) de_int) da_nil)) da_nil)) (dg_name sc__law_lines.nd rfl (by first | exact Or.inl rfl | exact Or.inr rfl)) (dss_one (ds_expr (de_om PySem.F.slot_list_append PySem.F.type_list_append mt_append own_app (pv 4) (da_cons (de_callTy call_tuple_of calld_tuple (by rfl) R.z_tuple PyProof.Rows.boot_tuple (da_cons (dn_de (dn_comp (own := [("_law_j", 6)]) rfl sc__law_lines.nd (di_range1 (by rfl) R.z_range (da_cons (dv 1) da_nil)) (by exact blkOk_by (N := N__law_lines) (sc := defScope s__law_lines) (own := [("_law_j", 6)]) (by decide +kernel)) (fun _ _ _ _ _ => (dg_name sc__law_lines.nd rfl (by first | exact Or.inl rfl | exact Or.inr rfl))) (fun _ _ _ _ _ => dts_nil) (fun _ _ _ _ _ => (de_K (ok__law_pick R) hg (hr.mono (by decide)) (by rfl) R.g__law_pick R.F__law_pick.kp R.b__law_pick passW0 (pv 0) (da_cons (dn_de (dn_lst (da_cons de_int (da_cons de_int (da_cons de_int (da_cons (de_K (ok__law_draw R) hg (hr.mono (by decide)) (by rfl) R.g__law_draw R.F__law_draw.kp R.b__law_draw passW0 (pv 0) (da_cons (dv 3) da_nil)) (da_cons (de_un un_neg und_neg de_int) da_nil))))))) da_nil))))) da_nil)) da_nil)))))
    (dss_one (ds_ret (de_callTy call_tuple_of calld_tuple (by rfl) R.z_tuple PyProof.Rows.boot_tuple (da_cons (dn_de (dn_sortSet rfl hr.units (by rfl) R.z_sorted (by rfl) R.z_set (da_cons (dv 4) da_nil))) da_nil))))))
def b__law_bad (c : CA) : SF := (sSeq (sFor (iN (aC (eOp gGet (eV 0) (eC (.str "rules"))) aN)) (gT (gCons' (gN 2) (gCons' (gT (gCons' (gN 3) (gCons' (gN 4) gNil'))) gNil')))
  (sSeq (sPar [5, 6] [.e (eN (nComp [7] (iSq (eV 3)) (gN 7) tYes' (eM1 gSIdx (eOp gGet (eV 0) (eC (.str "cols"))) (eV 7)))), .e (eM1 gSIdx (eOp gGet (eV 0) (eC (.str "cols"))) (eV 4))])
  (sFor (iN (aC (eV 1) aN)) (gT (gCons' (gN 8) (gCons' (gN 9) gNil')))
  (sFor (iSq (eSl gSl (eV 1) (oSo (eOp gAdd (eV 8) (eC (.int 1)))) oNo)) (gN 10)
  (sSeq (sSet 11 (eOp gEq (eN (nComp [12] (iSq (eV 5)) (gN 12) (tB (eOp gNe (eOp gIx (eV 9) (eV 12)) (eOp gIx (eV 10) (eV 12)))) (eV 12))) (eN nNil)))
  (sIf (tAnd' (tB (eV 11)) (tB (eOp gNe (eOp gIx (eV 9) (eV 6)) (eOp gIx (eV 10) (eV 6))))) (sRet (eTup (aC (eV 2) (aC (eV 9) (aC (eV 10) aN))))) sNx))))))
  (sRet (eC .non)))
def m__law_bad (c : CA) : List D → Res D := fun ds => noErr (runP (b__law_bad c) 11 ds)
theorem ok__law_bad (R : PR K mg) : FnG P w K mg base CX0 1 R.f__law_bad R.fd__law_bad ["_law_w", "_law_lines_here"] (spP K 2 (m__law_bad R.c)) :=
  fn_P R.F__law_bad sc__law_bad 11 rfl fun cdv A outer s H E hg hr => (dss_cons (ds_for PassesOwn.never rfl (di_enum (by rfl) R.z_enumerate (da_cons (de_dget (hu_of hr) (dv 0) (de_str ⟨by decide +kernel, by decide +kernel⟩)) da_nil)) (dg_tup rfl (dgs_cons (dg_name sc__law_bad.nd rfl (by first | exact Or.inl rfl | exact Or.inr rfl)) (dgs_cons (dg_tup rfl (dgs_cons (dg_name sc__law_bad.nd rfl (by first | exact Or.inl rfl | exact Or.inr rfl)) (dgs_cons (dg_name sc__law_bad.nd rfl (by first | exact Or.inl rfl | exact Or.inr rfl)) dgs_nil)) 2 rfl (pg_tup rfl (dgs_cons (dg_name sc__law_bad.nd rfl (by first | exact Or.inl rfl | exact Or.inr rfl)) (dgs_cons (dg_name sc__law_bad.nd rfl (by first | exact Or.inl rfl | exact Or.inr rfl)) dgs_nil))) (glen2)) dgs_nil)) 2 rfl (pg_tup rfl (dgs_cons (dg_name sc__law_bad.nd rfl (by first | exact Or.inl rfl | exact Or.inr rfl)) (dgs_cons (dg_tup rfl (dgs_cons (dg_name sc__law_bad.nd rfl (by first | exact Or.inl rfl | exact Or.inr rfl)) (dgs_cons (dg_name sc__law_bad.nd rfl (by first | exact Or.inl rfl | exact Or.inr rfl)) dgs_nil)) 2 rfl (pg_tup rfl (dgs_cons (dg_name sc__law_bad.nd rfl (by first | exact Or.inl rfl | exact Or.inr rfl)) (dgs_cons (dg_name sc__law_bad.nd rfl (by first | exact Or.inl rfl | exact Or.inr rfl)) dgs_nil))) (glen2)) dgs_nil))) (glen2)) (dss_cons (ds_par2 rfl sc__law_bad.nd rfl rfl (by decide) rfl rfl (dws_e (dn_de (dn_comp (own := [("_law_sign", 7)]) rfl sc__law_bad.nd (di_seq (dv 3)) (by exact blkOk_by (N := N__law_bad) (sc := defScope s__law_bad) (own := [("_law_sign", 7)]) (by decide +kernel)) (fun _ _ _ _ _ => (dg_name sc__law_bad.nd rfl (by first | exact Or.inl rfl | exact Or.inr rfl))) (fun _ _ _ _ _ => dts_nil) (fun _ _ _ _ _ => (de_sidx (de_dget (hu_of hr) (dv 0) (de_str ⟨by decide +kernel, by decide +kernel⟩)) (dv 7))))) (dws_e (de_sidx (de_dget (hu_of hr) (dv 0) (de_str ⟨by decide +kernel, by decide +kernel⟩)) (dv 4)) dws_nil)) rfl)
    (dss_one (ds_for PassesOwn.never rfl (di_enum (by rfl) R.z_enumerate (da_cons (dv 1) da_nil)) (dg_tup rfl (dgs_cons (dg_name sc__law_bad.nd rfl (by first | exact Or.inl rfl | exact Or.inr rfl)) (dgs_cons (dg_name sc__law_bad.nd rfl (by first | exact Or.inl rfl | exact Or.inr rfl)) dgs_nil)) 2 rfl (pg_tup rfl (dgs_cons (dg_name sc__law_bad.nd rfl (by first | exact Or.inl rfl | exact Or.inr rfl)) (dgs_cons (dg_name sc__law_bad.nd rfl (by first | exact Or.inl rfl | exact Or.inr rfl)) dgs_nil))) (glen2)) (dss_one (ds_for PassesOwn.never rfl (di_seq (de_slice sl_3 sld_sl (dv 1) (do_so (de_op op_addA opd_add (dv 8) de_int)) do_no)) (dg_name sc__law_bad.nd rfl (by first | exact Or.inl rfl | exact Or.inr rfl)) (dss_cons (ds_set sc__law_bad.nd rfl (Or.inl rfl) (de_cmp (op_eqq hr.units) opd_eq (dn_de (dn_comp (own := [("_law_spot", 12)]) rfl sc__law_bad.nd (di_seq (dv 5)) (by exact blkOk_by (N := N__law_bad) (sc := defScope s__law_bad) (own := [("_law_spot", 12)]) (by decide +kernel)) (fun _ _ _ _ _ => (dg_name sc__law_bad.nd rfl (by first | exact Or.inl rfl | exact Or.inr rfl))) (fun _ _ _ _ _ => (dts_one (dt_cmp (op_neq hr.units) opd_ne (de_ix ix_seq opd_ix (dv 9) (dv 12) (by intro _ _; rfl)) (de_ix ix_seq opd_ix (dv 10) (dv 12) (by intro _ _; rfl)) (nomark _)))) (fun _ _ _ _ _ => (dv 12)))) (dn_de dn_nil) (nomark _)))
    (dss_one (ds_if (dt_w (dw_and (dt_val (dv 11)) (dw_one (dt_cmp (op_neq hr.units) opd_ne (de_ix ix_seq opd_ix (dv 9) (dv 6) (by intro _ _; rfl)) (de_ix ix_seq opd_ix (dv 10) (dv 6) (by intro _ _; rfl)) (nomark _))))) (dss_one (ds_ret (de_tup (da_cons (dv 2) (da_cons (dv 9) (da_cons (dv 10) da_nil)))))) dss_nil)))))))))
    (dss_one (ds_ret de_non)))
def b__law_kept (c : CA) : SF := (sSeq (sSetN 2 nNil)
  (sSeq (sFor (iSq (eV 1)) (gN 3)
  (sIf (tB (eOp (gIsN false) (eF 2 (m__law_bad c) (aC (eV 0) (aC (eOp gAdd (eV 2) (eN (nLst (aC (eV 3) aN)))) aN))) (eC .non))) (sEx (eOM 2 gApp (aC (eV 3) aN))) sNx))
  (sRet (eCall gTuple (aC (eV 2) aN)))))
def m__law_kept (c : CA) : List D → Res D := fun ds => noErr (runP (b__law_kept c) 2 ds)
theorem ok__law_kept (R : PR K mg) : FnG P w K mg base CX0 2 R.f__law_kept R.fd__law_kept ["_law_w", "_law_lines_here"] (spP K 2 (m__law_kept R.c)) :=
  fn_P R.F__law_kept sc__law_kept 2 rfl fun cdv A outer s H E hg hr => (dss_cons (ds_setN sc__law_kept.nd rfl (Or.inl rfl) dn_nil)
    (dss_cons (ds_for PassesOwn.never rfl (di_seq (dv 1)) (dg_name sc__law_kept.nd rfl (by first | exact Or.inl rfl | exact Or.inr rfl)) (dss_one (ds_if (dt_cmp op_isN opd_isN (de_F (ok__law_bad R) hg (hr.mono (by decide)) (by rfl) R.g__law_bad R.F__law_bad.kp R.b__law_bad passW0 (da_cons (dv 0) (da_cons (de_op op_addA opd_add (dv 2) (dn_de (dn_lst (da_cons (dv 3) da_nil)))) da_nil))) de_non (nomark _)) (dss_one (ds_expr (de_om PySem.F.slot_list_append PySem.F.type_list_append mt_append own_app (pv 2) (da_cons (dv 3) da_nil)))) dss_nil)))
    (dss_one (ds_ret (de_callTy call_tuple_of calld_tuple (by rfl) R.z_tuple PyProof.Rows.boot_tuple (da_cons (dv 2) da_nil))))))
def b__law_bent (c : CA) (rec : Addr → Addr → Dk → List D → Res (D × Dk)) : SF := (sSeq (sIf (tAnd' (tB (eIs (fun n => kitB n "tuple") (fun _ => none) (eV 1))) (tAnd' (tB (eOp gNeT (eV 1) (eTup aN))) (tB (eOp gGt (eK 0 1 (m__law_draw c) (aC (eC (.int 6)) aN)) (eC (.int 0)))))) (sSeq (sPar [2, 3] [.e (eK 0 1 (m__law_draw c) (aC (eCall gLen (aC (eV 1) aN)) aN)), .e (eK 0 1 (m__law_draw c) (aC (eC (.int 9)) aN))])
  (sSeq (sIf (tB (eOp gEq (eV 3) (eC (.int 0)))) (sRet (eOp gAdd (eSl gSl (eV 1) oNo (oSo (eV 2))) (eSl gSl (eV 1) (oSo (eOp gAdd (eV 2) (eC (.int 1)))) oNo))) sNx)
  (sSeq (sIf (tB (eOp gEq (eV 3) (eC (.int 1)))) (sRet (eOp gAdd (eSl gSl (eV 1) oNo (oSo (eOp gAdd (eV 2) (eC (.int 1))))) (eSl gSl (eV 1) (oSo (eV 2)) oNo))) sNx)
  (sSeq (sIf (tB (eOp gEq (eV 3) (eC (.int 2)))) (sRet (eOp gAdd (eOp gAdd (eSl gSl (eV 1) oNo (oSo (eV 2))) (eUn (gStep (-1)) (eSl gSl (eV 1) (oSo (eV 2)) (oSo (eOp gAdd (eV 2) (eC (.int 2))))))) (eSl gSl (eV 1) (oSo (eOp gAdd (eV 2) (eC (.int 2)))) oNo))) sNx)
  (sSeq (sIf (tB (eOp gEq (eV 3) (eC (.int 3)))) (sRet (eN (nCall gList (aC (eV 1) aN)))) sNx)
  (sRet (eOp gAdd (eOp gAdd (eSl gSl (eV 1) oNo (oSo (eV 2))) (eTup (aC (eK 0 1 rec (aC (eOp gIx (eV 1) (eV 2)) aN)) aN))) (eSl gSl (eV 1) (oSo (eOp gAdd (eV 2) (eC (.int 1)))) oNo)))))))) sNx)
  (sSeq (sIf (tAnd' (tB (eIs (fun n => kitB n "int") (fun _ => none) (eV 1))) (tAnd' (tNt (tB (eIs (fun n => kitB n "bool") (fun _ => none) (eV 1)))) (tB (eOp gGt (eK 0 1 (m__law_draw c) (aC (eC (.int 4)) aN)) (eC (.int 0)))))) (sRet (eK 0 1 (m__law_pick c) (aC (eN (nLst (aC (eOp gAdd (eV 1) (eC (.int 1))) (aC (eOp gSub (eV 1) (eC (.int 1))) (aC (eOp gEq (eV 1) (eC (.int 1))) (aC (eCall gStrI (aC (eV 1) aN)) (aC (eUn gNeg (eV 1)) (aC (eC (.int 0)) aN)))))))) aN))) sNx)
  (sSeq (sIf (tAnd' (tB (eIs (fun n => kitB n "str") (fun _ => none) (eV 1))) (tB (eOp gGt (eK 0 1 (m__law_draw c) (aC (eC (.int 4)) aN)) (eC (.int 0))))) (sRet (eK 0 1 (m__law_pick c) (aC (eN (nLst (aC (eOp gAdd (eV 1) (eC (.str "a"))) (aC (eSl gSl (eV 1) (oSo (eC (.int 1))) oNo) (aC (eUn (gStep (-1)) (eV 1)) (aC (eOp gAdd (eV 1) (eV 1)) (aC (eUn gUpper (eV 1)) (aC (eC (.str "")) (aC (eOp gAdd (eV 1) (eC (.str "z"))) (aC (eTup (aC (eV 1) aN)) aN)))))))))) aN))) sNx)
  (sRet (eK 0 1 (m__law_pick c) (aC (eN (nLst (aC (eC .non) (aC (eC (.bl true)) (aC (eC (.bl false)) (aC (eC (.int 0)) (aC (eC (.int 1)) (aC (eUn gNeg (eC (.int 1))) (aC (eOp gPow (eC (.int 10)) (eC (.int 39))) (aC (eC (.str "")) (aC (eC (.str "a")) (aC (eC (.str "ab")) (aC (eC (.str "ba")) (aC (eC (.str "A")) (aC (eTup aN) (aC (eTup (aC (eC (.int 0)) aN)) (aC (eN nNil) (aC (eN nDK) (aC (eTup (aC (eTup aN) aN)) aN))))))))))))))))))) aN))))))
def mr__law_bent (c : CA) : Nat → Addr → Addr → Dk → List D → Res (D × Dk)
  | 0 => fun _ _ _ _ => .stuck
  | n + 1 => runK (b__law_bent c (mr__law_bent c n)) 2
theorem okr__law_bent (R : PR K mg) : ∀ n, FnG P w K mg base CX0 (3 + n) R.f__law_bent R.fd__law_bent ["_law_deck_here", "_law_it"] (spK K 1 (mr__law_bent R.c n))
  | 0 => FnG.body R.F__law_bent sc__law_bent (spK_len rfl) fun cdv A outer s H vs Q E hg hr hsp => by
    obtain ⟨G, a, q, k, vr, ds, _, _, _, _, _, _, _, z⟩ := hsp
    exact z.elim
  | n + 1 => fn_K R.F__law_bent sc__law_bent 1 2 rfl rfl fun cdv A outer s H E hg hr => (dss_cons (ds_if (dt_w (dw_and (dt_val (de_is (ClsV.ty "tuple") (fun _ _ h => kit_ty h) (fun _ _ h => nomatch h) (by rfl) R.z_isinstance (dv 1) (pe_bltn (by rfl) R.z_tuple PyProof.Rows.boot_tuple rfl))) (dw_and (dt_cmp (op_neT hr.units) opd_neT (dv 1) (de_tup da_nil) (nomark _)) (dw_one (dt_cmp op_gt opd_gt (de_K (ok__law_draw R) hg (hr.mono (by show _ ≤ 3 + n; omega)) (by rfl) R.g__law_draw R.F__law_draw.kp R.b__law_draw passW0 (pv 0) (da_cons de_int da_nil)) de_int (nomark _)))))) (dss_cons (ds_par2 rfl sc__law_bent.nd rfl rfl (by decide) rfl rfl (dws_e (de_K (ok__law_draw R) hg (hr.mono (by show _ ≤ 3 + n; omega)) (by rfl) R.g__law_draw R.F__law_draw.kp R.b__law_draw passW0 (pv 0) (da_cons (de_callB call_len calld_len (by rfl) R.z_len PySem.boot_len (da_cons (dv 1) da_nil)) da_nil)) (dws_e (de_K (ok__law_draw R) hg (hr.mono (by show _ ≤ 3 + n; omega)) (by rfl) R.g__law_draw R.F__law_draw.kp R.b__law_draw passW0 (pv 0) (da_cons de_int da_nil)) dws_nil)) rfl)
    (dss_cons (ds_if (dt_cmp (op_eqq hr.units) opd_eq (dv 3) de_int (nomark _)) (dss_one (ds_ret (de_op op_addA opd_add (de_slice sl_3 sld_sl (dv 1) do_no (do_so (dv 2))) (de_slice sl_3 sld_sl (dv 1) (do_so (de_op op_addA opd_add (dv 2) de_int)) do_no)))) dss_nil)
    (dss_cons (ds_if (dt_cmp (op_eqq hr.units) opd_eq (dv 3) de_int (nomark _)) (dss_one (ds_ret (de_op op_addA opd_add (de_slice sl_3 sld_sl (dv 1) do_no (do_so (de_op op_addA opd_add (dv 2) de_int))) (de_slice sl_3 sld_sl (dv 1) (do_so (dv 2)) do_no)))) dss_nil)
    (dss_cons (ds_if (dt_cmp (op_eqq hr.units) opd_eq (dv 3) de_int (nomark _)) (dss_one (ds_ret (de_op op_addA opd_add (de_op op_addA opd_add (de_slice sl_3 sld_sl (dv 1) do_no (do_so (dv 2))) (de_rev (de_slice sl_3 sld_sl (dv 1) (do_so (dv 2)) (do_so (de_op op_addA opd_add (dv 2) de_int))))) (de_slice sl_3 sld_sl (dv 1) (do_so (de_op op_addA opd_add (dv 2) de_int)) do_no)))) dss_nil)
    (dss_cons (ds_if (dt_cmp (op_eqq hr.units) opd_eq (dv 3) de_int (nomark _)) (dss_one (ds_ret (dn_de (dn_callTy call_list_of calln_list (by rfl) R.z_list PyProof.Rows.boot_list (da_cons (dv 1) da_nil))))) dss_nil)
    (dss_one (ds_ret (de_op op_addA opd_add (de_op op_addA opd_add (de_slice sl_3 sld_sl (dv 1) do_no (do_so (dv 2))) (de_tup (da_cons (de_K (okr__law_bent R n) hg (hr.mono (by show _ ≤ 3 + n; omega)) (by rfl) R.g__law_bent R.F__law_bent.kp R.b__law_bent passW0 (pv 0) (da_cons (de_ix ix_seq opd_ix (dv 1) (dv 2) (by intro _ _; rfl)) da_nil)) da_nil))) (de_slice sl_3 sld_sl (dv 1) (do_so (de_op op_addA opd_add (dv 2) de_int)) do_no))))))))) dss_nil)
    (dss_cons (ds_if (dt_w (dw_and (dt_val (de_is (ClsV.ty "int") (fun _ _ h => kit_ty h) (fun _ _ h => nomatch h) (by rfl) R.z_isinstance (dv 1) (pe_bltn (by rfl) R.z_int PyProof.Rows.boot_int rfl))) (dw_and (dt_not (dt_val (de_is (ClsV.ty "bool") (fun _ _ h => kit_ty h) (fun _ _ h => nomatch h) (by rfl) R.z_isinstance (dv 1) (pe_bltn (by rfl) R.z_bool PyProof.Rows.boot_bool rfl)))) (dw_one (dt_cmp op_gt opd_gt (de_K (ok__law_draw R) hg (hr.mono (by show _ ≤ 3 + n; omega)) (by rfl) R.g__law_draw R.F__law_draw.kp R.b__law_draw passW0 (pv 0) (da_cons de_int da_nil)) de_int (nomark _)))))) (dss_one (ds_ret (de_K (ok__law_pick R) hg (hr.mono (by show _ ≤ 3 + n; omega)) (by rfl) R.g__law_pick R.F__law_pick.kp R.b__law_pick passW0 (pv 0) (da_cons (dn_de (dn_lst (da_cons (de_op op_addA opd_add (dv 1) de_int) (da_cons (de_op op_sub opd_sub (dv 1) de_int) (da_cons (de_cmp (op_eqq hr.units) opd_eq (dv 1) de_int (nomark _)) (da_cons (de_callTy call_str_int calld_strI (by rfl) R.z_str PyProof.Rows.boot_str (da_cons (dv 1) da_nil)) (da_cons (de_un un_neg und_neg (dv 1)) (da_cons de_int da_nil)))))))) da_nil)))) dss_nil)
    (dss_cons (ds_if (dt_w (dw_and (dt_val (de_is (ClsV.ty "str") (fun _ _ h => kit_ty h) (fun _ _ h => nomatch h) (by rfl) R.z_isinstance (dv 1) (pe_bltn (by rfl) R.z_str PyProof.Rows.boot_str rfl))) (dw_one (dt_cmp op_gt opd_gt (de_K (ok__law_draw R) hg (hr.mono (by show _ ≤ 3 + n; omega)) (by rfl) R.g__law_draw R.F__law_draw.kp R.b__law_draw passW0 (pv 0) (da_cons de_int da_nil)) de_int (nomark _))))) (dss_one (ds_ret (de_K (ok__law_pick R) hg (hr.mono (by show _ ≤ 3 + n; omega)) (by rfl) R.g__law_pick R.F__law_pick.kp R.b__law_pick passW0 (pv 0) (da_cons (dn_de (dn_lst (da_cons (de_op op_addA opd_add (dv 1) (de_str ⟨by decide +kernel, by decide +kernel⟩)) (da_cons (de_slice sl_3 sld_sl (dv 1) (do_so de_int) do_no) (da_cons (de_rev (dv 1)) (da_cons (de_op op_addA opd_add (dv 1) (dv 1)) (da_cons (de_upper (dv 1)) (da_cons (de_str ⟨by decide +kernel, by decide +kernel⟩) (da_cons (de_op op_addA opd_add (dv 1) (de_str ⟨by decide +kernel, by decide +kernel⟩)) (da_cons (de_tup (da_cons (dv 1) da_nil)) da_nil)))))))))) da_nil)))) dss_nil)
    (dss_one (ds_ret (de_K (ok__law_pick R) hg (hr.mono (by show _ ≤ 3 + n; omega)) (by rfl) R.g__law_pick R.F__law_pick.kp R.b__law_pick passW0 (pv 0) (da_cons (dn_de (dn_lst (da_cons de_non (da_cons de_bl (da_cons de_bl (da_cons de_int (da_cons de_int (da_cons (de_un un_neg und_neg de_int) (da_cons (de_op op_pow opd_pow de_int de_int) (da_cons (de_str ⟨by decide +kernel, by decide +kernel⟩) (da_cons (de_str ⟨by decide +kernel, by decide +kernel⟩) (da_cons (de_str ⟨by decide +kernel, by decide +kernel⟩) (da_cons (de_str ⟨by decide +kernel, by decide +kernel⟩) (da_cons (de_str ⟨by decide +kernel, by decide +kernel⟩) (da_cons (de_tup da_nil) (da_cons (de_tup (da_cons de_int da_nil)) (da_cons (dn_de dn_nil) (da_cons (dn_de dn_dk) (da_cons (de_tup (da_cons (de_tup da_nil) da_nil)) da_nil))))))))))))))))))) da_nil)))))))
def m__law_bent (c : CA) : Addr → Addr → Dk → List D → Res (D × Dk) := mr__law_bent c 8
theorem ok__law_bent (R : PR K mg) : FnG P w K mg base CX0 11 R.f__law_bent R.fd__law_bent ["_law_deck_here", "_law_it"] (spK K 1 (m__law_bent R.c)) := okr__law_bent R 8
def b__law_is_whole (c : CA) : SF := (sRet (vAnd (eIs (fun n => kitB n "int") (fun _ => none) (eV 0)) (vNot (eIs (fun n => kitB n "bool") (fun _ => none) (eV 0)))))
def m__law_is_whole (c : CA) : List D → Res D := fun ds => noErr (runP (b__law_is_whole c) 0 ds)
theorem ok__law_is_whole (R : PR K mg) : FnG P w K mg base CX0 1 R.f__law_is_whole R.fd__law_is_whole ["_law_it"] (spP K 1 (m__law_is_whole R.c)) :=
  fn_P R.F__law_is_whole sc__law_is_whole 0 rfl fun cdv A outer s H E hg hr => (dss_one (ds_ret (de_and (de_is (ClsV.ty "int") (fun _ _ h => kit_ty h) (fun _ _ h => nomatch h) (by rfl) R.z_isinstance (dv 0) (pe_bltn (by rfl) R.z_int PyProof.Rows.boot_int rfl)) (de_one (de_not (de_is (ClsV.ty "bool") (fun _ _ h => kit_ty h) (fun _ _ h => nomatch h) (by rfl) R.z_isinstance (dv 0) (pe_bltn (by rfl) R.z_bool PyProof.Rows.boot_bool rfl)))))))
def b__law_are_rows (c : CA) : SF := (sSeq (sIf (tNt (tB (eIs (fun n => kitB n "tuple") (fun _ => none) (eV 1)))) (sRet (eC (.bl false))) sNx)
  (sSeq (sFor (iSq (eV 1)) (gN 2)
  (sIf (tOr' (tNt (tB (eIs (fun n => kitB n "tuple") (fun _ => none) (eV 2)))) (tOr' (tB (eOp gNe (eCall gLen (aC (eV 2) aN)) (eV 0))) (tB (eOp gNeL (eN (nComp [3] (iSq (eV 2)) (gN 3) (tNt (tB (eF 1 (m__law_is_whole c) (aC (eV 3) aN)))) (eV 3))) (eN nNil))))) (sRet (eC (.bl false))) sNx))
  (sRet (eOp gEq (eN (nComp [4] (iR2 (aC (eC (.int 1)) (aC (eCall gLen (aC (eV 1) aN)) aN))) (gN 4) (tNt (tB (eOp gLt (eOp gIx (eV 1) (eOp gSub (eV 4) (eC (.int 1)))) (eOp gIx (eV 1) (eV 4))))) (eV 4))) (eN nNil)))))
def m__law_are_rows (c : CA) : List D → Res D := fun ds => noErr (runP (b__law_are_rows c) 3 ds)
theorem ok__law_are_rows (R : PR K mg) : FnG P w K mg base CX0 2 R.f__law_are_rows R.fd__law_are_rows ["_law_wide", "_law_it"] (spP K 2 (m__law_are_rows R.c)) :=
  fn_P R.F__law_are_rows sc__law_are_rows 3 rfl fun cdv A outer s H E hg hr => (dss_cons (ds_if (dt_not (dt_val (de_is (ClsV.ty "tuple") (fun _ _ h => kit_ty h) (fun _ _ h => nomatch h) (by rfl) R.z_isinstance (dv 1) (pe_bltn (by rfl) R.z_tuple PyProof.Rows.boot_tuple rfl)))) (dss_one (ds_ret de_bl)) dss_nil)
    (dss_cons (ds_for PassesOwn.never rfl (di_seq (dv 1)) (dg_name sc__law_are_rows.nd rfl (by first | exact Or.inl rfl | exact Or.inr rfl)) (dss_one (ds_if (dt_w (dw_or (dt_not (dt_val (de_is (ClsV.ty "tuple") (fun _ _ h => kit_ty h) (fun _ _ h => nomatch h) (by rfl) R.z_isinstance (dv 2) (pe_bltn (by rfl) R.z_tuple PyProof.Rows.boot_tuple rfl)))) (dw_or (dt_cmp (op_neq hr.units) opd_ne (de_callB call_len calld_len (by rfl) R.z_len PySem.boot_len (da_cons (dv 2) da_nil)) (dv 0) (nomark _)) (dw_one (dt_cmp (op_neL hr.units) opd_neL (dn_de (dn_comp (own := [("_law_x", 3)]) rfl sc__law_are_rows.nd (di_seq (dv 2)) (by exact blkOk_by (N := N__law_are_rows) (sc := defScope s__law_are_rows) (own := [("_law_x", 3)]) (by decide +kernel)) (fun _ _ _ _ _ => (dg_name sc__law_are_rows.nd rfl (by first | exact Or.inl rfl | exact Or.inr rfl))) (fun _ _ _ _ _ => (dts_one (dt_not (dt_val (de_F (ok__law_is_whole R) hg (hr.mono (by decide)) (by rfl) R.g__law_is_whole R.F__law_is_whole.kp R.b__law_is_whole passW0 (da_cons (dv 3) da_nil)))))) (fun _ _ _ _ _ => (dv 3)))) (dn_de dn_nil) (nomark _)))))) (dss_one (ds_ret de_bl)) dss_nil)))
    (dss_one (ds_ret (de_cmp (op_eqq hr.units) opd_eq (dn_de (dn_comp (own := [("_law_k", 4)]) rfl sc__law_are_rows.nd (di_range2 (by rfl) R.z_range (da_cons de_int (da_cons (de_callB call_len calld_len (by rfl) R.z_len PySem.boot_len (da_cons (dv 1) da_nil)) da_nil))) (by exact blkOk_by (N := N__law_are_rows) (sc := defScope s__law_are_rows) (own := [("_law_k", 4)]) (by decide +kernel)) (fun _ _ _ _ _ => (dg_name sc__law_are_rows.nd rfl (by first | exact Or.inl rfl | exact Or.inr rfl))) (fun _ _ _ _ _ => (dts_one (dt_not (dt_cmp (op_ltt hr.units) opd_lt (de_ix ix_seq opd_ix (dv 1) (de_op op_sub opd_sub (dv 4) de_int) (by intro _ _; rfl)) (de_ix ix_seq opd_ix (dv 1) (dv 4) (by intro _ _; rfl)) (nomark _))))) (fun _ _ _ _ _ => (dv 4)))) (dn_de dn_nil) (nomark _))))))
def b_is_integer (c : CA) : SF := (sRet (vAnd (eIs (fun n => kitB n "int") (fun _ => none) (eV 0)) (vNot (eIs (fun n => kitB n "bool") (fun _ => none) (eV 0)))))
def m_is_integer (c : CA) : List D → Res D := fun ds => noErr (runP (b_is_integer c) 0 ds)
theorem ok_is_integer (R : PR K mg) : FnG P w K mg base CX0 1 R.f_is_integer R.fd_is_integer ["thing"] (spP K 1 (m_is_integer R.c)) :=
  fn_P R.F_is_integer sc_is_integer 0 rfl fun cdv A outer s H E hg hr => (dss_one (ds_ret (de_and (de_is (ClsV.ty "int") (fun _ _ h => kit_ty h) (fun _ _ h => nomatch h) (by rfl) R.z_isinstance (dv 0) (pe_bltn (by rfl) R.z_int PyProof.Rows.boot_int rfl)) (de_one (de_not (de_is (ClsV.ty "bool") (fun _ _ h => kit_ty h) (fun _ _ h => nomatch h) (by rfl) R.z_isinstance (dv 0) (pe_bltn (by rfl) R.z_bool PyProof.Rows.boot_bool rfl)))))))
def b_is_row (c : CA) : SF := (sRet (vAnd (eIs (fun n => kitB n "tuple") (fun _ => none) (eV 1)) (vAnd (eOp gEq (eCall gLen (aC (eV 1) aN)) (eCall gLen (aC (eV 0) aN))) (eCall gAll (aC (eN (nComp [2] (iSq (eV 1)) (gN 2) tYes' (eF 1 (m_is_integer c) (aC (eV 2) aN)))) aN)))))
def m_is_row (c : CA) : List D → Res D := fun ds => noErr (runP (b_is_row c) 1 ds)
theorem ok_is_row (R : PR K mg) : FnG P w K mg base CX0 2 R.f_is_row R.fd_is_row ["columns", "thing"] (spP K 2 (m_is_row R.c)) :=
  fn_P R.F_is_row sc_is_row 1 rfl fun cdv A outer s H E hg hr => (dss_one (ds_ret (de_and (de_is (ClsV.ty "tuple") (fun _ _ h => kit_ty h) (fun _ _ h => nomatch h) (by rfl) R.z_isinstance (dv 1) (pe_bltn (by rfl) R.z_tuple PyProof.Rows.boot_tuple rfl)) (de_and (de_cmp (op_eqq hr.units) opd_eq (de_callB call_len calld_len (by rfl) R.z_len PySem.boot_len (da_cons (dv 1) da_nil)) (de_callB call_len calld_len (by rfl) R.z_len PySem.boot_len (da_cons (dv 0) da_nil)) (nomark _)) (de_one (de_callB (cr_all rfl) calld_all (by rfl) R.z_all PyProof.Rows.boot_all (da_cons (dn_de (dn_comp (own := [("part", 2)]) rfl sc_is_row.nd (di_seq (dv 1)) (by exact blkOk_by (N := N_is_row) (sc := defScope s_is_row) (own := [("part", 2)]) (by decide +kernel)) (fun _ _ _ _ _ => (dg_name sc_is_row.nd rfl (by first | exact Or.inl rfl | exact Or.inr rfl))) (fun _ _ _ _ _ => dts_nil) (fun _ _ _ _ _ => (de_F (ok_is_integer R) hg (hr.mono (by decide)) (by rfl) R.g_is_integer R.F_is_integer.kp R.b_is_integer passW0 (da_cons (dv 2) da_nil))))) da_nil)))))))
def b_is_rows (c : CA) : SF := (sSeq (sIf (tOr' (tNt (tB (eIs (fun n => kitB n "tuple") (fun _ => none) (eV 1)))) (tNt (tB (eCall gAll (aC (eN (nComp [2] (iSq (eV 1)) (gN 2) tYes' (eF 2 (m_is_row c) (aC (eV 0) (aC (eV 2) aN))))) aN))))) (sRet (eC (.bl false))) sNx)
  (sRet (eCall gAll (aC (eN (nComp [3, 4] (iZ (aC (eSl gSl (eV 1) oNo (oSo (eUn gNeg (eC (.int 1))))) (aC (eSl gSl (eV 1) (oSo (eC (.int 1))) oNo) aN))) (gT (gCons' (gN 3) (gCons' (gN 4) gNil'))) tYes' (eOp gLt (eV 3) (eV 4)))) aN))))
def m_is_rows (c : CA) : List D → Res D := fun ds => noErr (runP (b_is_rows c) 3 ds)
theorem ok_is_rows (R : PR K mg) : FnG P w K mg base CX0 3 R.f_is_rows R.fd_is_rows ["columns", "thing"] (spP K 2 (m_is_rows R.c)) :=
  fn_P R.F_is_rows sc_is_rows 3 rfl fun cdv A outer s H E hg hr => (dss_cons (ds_if (dt_w (dw_or (dt_not (dt_val (de_is (ClsV.ty "tuple") (fun _ _ h => kit_ty h) (fun _ _ h => nomatch h) (by rfl) R.z_isinstance (dv 1) (pe_bltn (by rfl) R.z_tuple PyProof.Rows.boot_tuple rfl)))) (dw_one (dt_not (dt_val (de_callB (cr_all rfl) calld_all (by rfl) R.z_all PyProof.Rows.boot_all (da_cons (dn_de (dn_comp (own := [("row", 2)]) rfl sc_is_rows.nd (di_seq (dv 1)) (by exact blkOk_by (N := N_is_rows) (sc := defScope s_is_rows) (own := [("row", 2)]) (by decide +kernel)) (fun _ _ _ _ _ => (dg_name sc_is_rows.nd rfl (by first | exact Or.inl rfl | exact Or.inr rfl))) (fun _ _ _ _ _ => dts_nil) (fun _ _ _ _ _ => (de_F (ok_is_row R) hg (hr.mono (by decide)) (by rfl) R.g_is_row R.F_is_row.kp R.b_is_row passW0 (da_cons (dv 0) (da_cons (dv 2) da_nil)))))) da_nil))))))) (dss_one (ds_ret de_bl)) dss_nil)
    (dss_one (ds_ret (de_callB (cr_all rfl) calld_all (by rfl) R.z_all PyProof.Rows.boot_all (da_cons (dn_de (dn_comp (own := [("one", 3), ("other", 4)]) rfl sc_is_rows.nd (di_zip (by rfl) R.z_zip (da_cons (de_slice sl_3 sld_sl (dv 1) do_no (do_so (de_un un_neg und_neg de_int))) (da_cons (de_slice sl_3 sld_sl (dv 1) (do_so de_int) do_no) da_nil))) (by exact blkOk_by (N := N_is_rows) (sc := defScope s_is_rows) (own := [("one", 3), ("other", 4)]) (by decide +kernel)) (fun _ _ _ _ _ => (dg_tup rfl (dgs_cons (dg_name sc_is_rows.nd rfl (by first | exact Or.inl rfl | exact Or.inr rfl)) (dgs_cons (dg_name sc_is_rows.nd rfl (by first | exact Or.inl rfl | exact Or.inr rfl)) dgs_nil)) 2 rfl (pg_tup rfl (dgs_cons (dg_name sc_is_rows.nd rfl (by first | exact Or.inl rfl | exact Or.inr rfl)) (dgs_cons (dg_name sc_is_rows.nd rfl (by first | exact Or.inl rfl | exact Or.inr rfl)) dgs_nil))) (glen2))) (fun _ _ _ _ _ => dts_nil) (fun _ _ _ _ _ => (de_cmp (op_ltt hr.units) opd_lt (dv 3) (dv 4) (nomark _))))) da_nil)))))
def b_is_columns (c : CA) : SF := (sSeq (sIf (tOr' (tNt (tB (eIs (fun n => kitB n "str") (fun _ => none) (eV 0)))) (tNt (tB (eCall gAll (aC (eN (nComp [1] (iSq (eV 0)) (gN 1) tYes' (eOp (gInQ false) (eV 1) (eC (.str "abcdefghijklmnopqrstuvwxyz"))))) aN))))) (sRet (eC (.bl false))) sNx)
  (sRet (eCall gAll (aC (eN (nComp [2, 3] (iZ (aC (eSl gSl (eV 0) oNo (oSo (eUn gNeg (eC (.int 1))))) (aC (eSl gSl (eV 0) (oSo (eC (.int 1))) oNo) aN))) (gT (gCons' (gN 2) (gCons' (gN 3) gNil'))) tYes' (eOp gLt (eV 2) (eV 3)))) aN))))
def m_is_columns (c : CA) : List D → Res D := fun ds => noErr (runP (b_is_columns c) 3 ds)
theorem ok_is_columns (R : PR K mg) : FnG P w K mg base CX0 1 R.f_is_columns R.fd_is_columns ["thing"] (spP K 1 (m_is_columns R.c)) :=
  fn_P R.F_is_columns sc_is_columns 3 rfl fun cdv A outer s H E hg hr => (dss_cons (ds_if (dt_w (dw_or (dt_not (dt_val (de_is (ClsV.ty "str") (fun _ _ h => kit_ty h) (fun _ _ h => nomatch h) (by rfl) R.z_isinstance (dv 0) (pe_bltn (by rfl) R.z_str PyProof.Rows.boot_str rfl)))) (dw_one (dt_not (dt_val (de_callB (cr_all rfl) calld_all (by rfl) R.z_all PyProof.Rows.boot_all (da_cons (dn_de (dn_comp (own := [("letter", 1)]) rfl sc_is_columns.nd (di_seq (dv 0)) (by exact blkOk_by (N := N_is_columns) (sc := defScope s_is_columns) (own := [("letter", 1)]) (by decide +kernel)) (fun _ _ _ _ _ => (dg_name sc_is_columns.nd rfl (by first | exact Or.inl rfl | exact Or.inr rfl))) (fun _ _ _ _ _ => dts_nil) (fun _ _ _ _ _ => (de_cmp (op_inq hr.units) opd_in (dv 1) (de_gs (by rfl) R.g_LETTERS ⟨by decide +kernel, by decide +kernel⟩) (by rfl))))) da_nil))))))) (dss_one (ds_ret de_bl)) dss_nil)
    (dss_one (ds_ret (de_callB (cr_all rfl) calld_all (by rfl) R.z_all PyProof.Rows.boot_all (da_cons (dn_de (dn_comp (own := [("one", 2), ("other", 3)]) rfl sc_is_columns.nd (di_zip (by rfl) R.z_zip (da_cons (de_slice sl_3 sld_sl (dv 0) do_no (do_so (de_un un_neg und_neg de_int))) (da_cons (de_slice sl_3 sld_sl (dv 0) (do_so de_int) do_no) da_nil))) (by exact blkOk_by (N := N_is_columns) (sc := defScope s_is_columns) (own := [("one", 2), ("other", 3)]) (by decide +kernel)) (fun _ _ _ _ _ => (dg_tup rfl (dgs_cons (dg_name sc_is_columns.nd rfl (by first | exact Or.inl rfl | exact Or.inr rfl)) (dgs_cons (dg_name sc_is_columns.nd rfl (by first | exact Or.inl rfl | exact Or.inr rfl)) dgs_nil)) 2 rfl (pg_tup rfl (dgs_cons (dg_name sc_is_columns.nd rfl (by first | exact Or.inl rfl | exact Or.inr rfl)) (dgs_cons (dg_name sc_is_columns.nd rfl (by first | exact Or.inl rfl | exact Or.inr rfl)) dgs_nil))) (glen2))) (fun _ _ _ _ _ => dts_nil) (fun _ _ _ _ _ => (de_cmp (op_ltt hr.units) opd_lt (dv 2) (dv 3) (nomark _))))) da_nil)))))
def b_are_within (c : CA) : SF := (sRet (vAnd (eF 1 (m_is_columns c) (aC (eV 0) aN)) (eCall gAll (aC (eN (nComp [2] (iSq (eV 0)) (gN 2) tYes' (eOp (gInQ false) (eV 2) (eV 1)))) aN))))
def m_are_within (c : CA) : List D → Res D := fun ds => noErr (runP (b_are_within c) 1 ds)
theorem ok_are_within (R : PR K mg) : FnG P w K mg base CX0 2 R.f_are_within R.fd_are_within ["thing", "columns"] (spP K 2 (m_are_within R.c)) :=
  fn_P R.F_are_within sc_are_within 1 rfl fun cdv A outer s H E hg hr => (dss_one (ds_ret (de_and (de_F (ok_is_columns R) hg (hr.mono (by decide)) (by rfl) R.g_is_columns R.F_is_columns.kp R.b_is_columns passW0 (da_cons (dv 0) da_nil)) (de_one (de_callB (cr_all rfl) calld_all (by rfl) R.z_all PyProof.Rows.boot_all (da_cons (dn_de (dn_comp (own := [("letter", 2)]) rfl sc_are_within.nd (di_seq (dv 0)) (by exact blkOk_by (N := N_are_within) (sc := defScope s_are_within) (own := [("letter", 2)]) (by decide +kernel)) (fun _ _ _ _ _ => (dg_name sc_are_within.nd rfl (by first | exact Or.inl rfl | exact Or.inr rfl))) (fun _ _ _ _ _ => dts_nil) (fun _ _ _ _ _ => (de_cmp (op_inq hr.units) opd_in (dv 2) (dv 1) (by rfl))))) da_nil))))))
def b_is_rule (c : CA) : SF := (sSeq (sIf (tOr' (tNt (tB (eIs (fun n => kitB n "tuple") (fun _ => none) (eV 1)))) (tOr' (tB (eOp gNe (eCall gLen (aC (eV 1) aN)) (eC (.int 2)))) (tNt (tB (eF 2 (m_are_within c) (aC (eOp gIx (eV 1) (eC (.int 0))) (aC (eV 0) aN))))))) (sRet (eC (.bl false))) sNx)
  (sRet (vAnd (eF 2 (m_are_within c) (aC (eOp gIx (eV 1) (eC (.int 1))) (aC (eV 0) aN))) (vAnd (eOp gEq (eCall gLen (aC (eOp gIx (eV 1) (eC (.int 1))) aN)) (eC (.int 1))) (eOp (gInQ true) (eOp gIx (eV 1) (eC (.int 1))) (eOp gIx (eV 1) (eC (.int 0))))))))
def m_is_rule (c : CA) : List D → Res D := fun ds => noErr (runP (b_is_rule c) 0 ds)
theorem ok_is_rule (R : PR K mg) : FnG P w K mg base CX0 3 R.f_is_rule R.fd_is_rule ["columns", "thing"] (spP K 2 (m_is_rule R.c)) :=
  fn_P R.F_is_rule sc_is_rule 0 rfl fun cdv A outer s H E hg hr => (dss_cons (ds_if (dt_w (dw_or (dt_not (dt_val (de_is (ClsV.ty "tuple") (fun _ _ h => kit_ty h) (fun _ _ h => nomatch h) (by rfl) R.z_isinstance (dv 1) (pe_bltn (by rfl) R.z_tuple PyProof.Rows.boot_tuple rfl)))) (dw_or (dt_cmp (op_neq hr.units) opd_ne (de_callB call_len calld_len (by rfl) R.z_len PySem.boot_len (da_cons (dv 1) da_nil)) (de_gi (by rfl) R.g_RULE_PARTS) (nomark _)) (dw_one (dt_not (dt_val (de_F (ok_are_within R) hg (hr.mono (by decide)) (by rfl) R.g_are_within R.F_are_within.kp R.b_are_within passW0 (da_cons (de_ix ix_seq opd_ix (dv 1) de_int (by intro _ _; rfl)) (da_cons (dv 0) da_nil))))))))) (dss_one (ds_ret de_bl)) dss_nil)
    (dss_one (ds_ret (de_and (de_F (ok_are_within R) hg (hr.mono (by decide)) (by rfl) R.g_are_within R.F_are_within.kp R.b_are_within passW0 (da_cons (de_ix ix_seq opd_ix (dv 1) de_int (by intro _ _; rfl)) (da_cons (dv 0) da_nil))) (de_and (de_cmp (op_eqq hr.units) opd_eq (de_callB call_len calld_len (by rfl) R.z_len PySem.boot_len (da_cons (de_ix ix_seq opd_ix (dv 1) de_int (by intro _ _; rfl)) da_nil)) de_int (nomark _)) (de_one (de_cmp (op_notinq hr.units) opd_in (de_ix ix_seq opd_ix (dv 1) de_int (by intro _ _; rfl)) (de_ix ix_seq opd_ix (dv 1) de_int (by intro _ _; rfl)) (by rfl))))))))
def b_Scheme___init__ (c : CA) : SF := (sSeq (sIf (tOr' (tNt (tB (eF 1 (m_is_columns c) (aC (eV 1) aN)))) (tB (eOp gEq (eV 1) (eC (.str ""))))) sNever sNx)
  (sSeq (sIf (tNt (tB (eIs (fun n => kitB n "tuple") (fun _ => none) (eV 2)))) sNever sNx)
  (sSeq (sFor (iSq (eV 2)) (gN 3)
  (sIf (tNt (tB (eF 2 (m_is_rule c) (aC (eV 1) (aC (eV 3) aN))))) sNever sNx))
  (sSeq (sIf (tNt (tB (eCall gAll (aC (eN (nComp [4, 5] (iZ (aC (eSl gSl (eV 2) oNo (oSo (eUn gNeg (eC (.int 1))))) (aC (eSl gSl (eV 2) (oSo (eC (.int 1))) oNo) aN))) (gT (gCons' (gN 4) (gCons' (gN 5) gNil'))) tYes' (eOp gLt (eV 4) (eV 5)))) aN)))) sNever sNx)
  (sSeq (sFldD 0 c.Scheme "columns" (eV 1))
  (sFldD 0 c.Scheme "rules" (eV 2)))))))
def i_Scheme (_ : CA) : List D → Res (List (Str × D)) := iSch
theorem m_is_columns_str (c : CA) (l : List Nat) : m_is_columns c [dS l] = .ok (.bl (colsB l)) := by
  have h1 : ∀ a : Nat, gInQ false (dC a) (D.str (Str.ofString "abcdefghijklmnopqrstuvwxyz")) = some (.bl (isLetter a)) := fun a => gIn_one false a letters
  unfold m_is_columns
  apply runP_ok
  unfold b_is_columns colsB
  cases hl : l.all isLetter <;>
  simp [eV, nos, List.replicate, compL_res, h1, hl, ascB_zip ltN, -List.all_eq_true, -List.all_eq_false]
theorem m_are_within_str (c : CA) (a b : List Nat) : m_are_within c [dS a, dS b] = .ok (.bl (withinB a b)) := by
  have h0 := m_is_columns_str c a
  unfold m_are_within
  apply runP_ok
  unfold b_are_within withinB
  cases hl : colsB a <;>
  simp [eV, nos, List.replicate, compL_res, h0, hl, -List.all_eq_true, -List.all_eq_false]
theorem m_is_rule_r (c : CA) (cols : List Nat) (r : List Nat × Nat) : m_is_rule c [dS cols, dR r] = .ok (.bl (ruleB cols r)) := by
  have h0 := m_are_within_str c r.1 cols
  have h1 : m_are_within c [dC r.2, dS cols] = _ := m_are_within_str c [r.2] cols
  unfold m_is_rule
  apply runP_ok
  unfold b_is_rule ruleB
  cases hl : withinB r.1 cols <;> cases hr : withinB [r.2] cols <;>
    simp [eV, nos, List.replicate, h0, h1, hl, hr, -List.all_eq_true, -List.all_eq_false]
theorem init_run (c : CA) (a : Addr) {cols : List Nat} {l : List Rule} (h : schemeB cols l = true) : noErr (outI a c.Scheme (b_Scheme___init__ c (.slf a (.obj c.Scheme []) :: [dS cols, .tup (l.map dR)].map .dat ++ nos 3))) = .ok (fSch cols l) := by
  unfold schemeB at h
  simp only [Bool.and_eq_true] at h
  obtain ⟨⟨⟨h1, h2⟩, h3⟩, h4⟩ := h
  have e1 := m_is_columns_str c cols
  rw [h1] at e1
  have hne : cols ≠ [] := by cases cols <;> simp_all
  have h3 := List.all_eq_true.mp h3
  have lp : Ok (forL (gN 3) (sIf (tNt (tB (eF 2 (m_is_rule c) (aC (eV 1) (aC (eV 3) aN))))) sNever sNx) (l.map dR) [.slf a (.obj c.Scheme []), .dat (dS cols), .dat (.tup (l.map dR)), .no, .no, .no]) fun p => p.1 = .nx ∧ ∃ y, p.2 = [.slf a (.obj c.Scheme []), .dat (dS cols), .dat (.tup (l.map dR)), y, .no, .no] := by
    refine forL_all dR (fun E => ∃ y, E = [.slf a (.obj c.Scheme []), .dat (dS cols), .dat (.tup (l.map dR)), y, .no, .no]) l ⟨_, rfl⟩ ?_ fun E h => ⟨rfl, h⟩
    rintro r hr _ ⟨y, rfl⟩
    refine ⟨_, rfl, ?_⟩
    have h0 := m_is_rule_r c cols r
    rw [h3 r hr] at h0
    simp [eV, h0]
  obtain ⟨⟨fl, E⟩, e3, hf, y, hE⟩ := lp
  dsimp only at hf hE
  subst hf hE
  unfold b_Scheme___init__
  simp [eV, nos, List.replicate, e1, hne, e3, compL_res, ascB_zip ruleLt, h4, slfAt, setF, outI, slfO, col_ne_rul, fSch, -List.all_eq_true, -List.all_eq_false]
theorem r_Sch (c : CA) : RunI0 (b_Scheme___init__ c) 3 c.Scheme iSch := by
  intro a ds
  cases h : iSch ds with
  | ok fs =>
    obtain ⟨cols, l, rfl, hb, rfl⟩ := iSch_ok h
    exact init_run c a hb
  | err x E => exact iSch_err h
  | stuck => trivial
theorem r_Scheme (c : CA) : RunI0 (b_Scheme___init__ c) 3 c.Scheme (i_Scheme c) := r_Sch c

theorem ok_Scheme___init__ (R : PR K mg) : FnG P w K mg base CX0 4 R.f_Scheme___init__ R.fd_Scheme___init__ ["self", "columns", "rules"] (spI K 2 R.c.Scheme (i_Scheme R.c)) :=
  fn_I0 R.F_Scheme___init__ sc_Scheme___init__ 2 3 rfl rfl (r_Scheme R.c) fun cdv A outer s H E hg hr => (dss_cons (ds_if (dt_w (dw_or (dt_not (dt_val (de_F (ok_is_columns R) hg (hr.mono (by decide)) (by rfl) R.g_is_columns R.F_is_columns.kp R.b_is_columns passW0 (da_cons (dv 1) da_nil)))) (dw_one (dt_cmp (op_eqq hr.units) opd_eq (dv 1) (de_str ⟨by decide +kernel, by decide +kernel⟩) (nomark _))))) (dss_one ds_never) dss_nil)
    (dss_cons (ds_if (dt_not (dt_val (de_is (ClsV.ty "tuple") (fun _ _ h => kit_ty h) (fun _ _ h => nomatch h) (by rfl) R.z_isinstance (dv 2) (pe_bltn (by rfl) R.z_tuple PyProof.Rows.boot_tuple rfl)))) (dss_one ds_never) dss_nil)
    (dss_cons (ds_for PassesOwn.never rfl (di_seq (dv 2)) (dg_name sc_Scheme___init__.nd rfl (by first | exact Or.inl rfl | exact Or.inr rfl)) (dss_one (ds_if (dt_not (dt_val (de_F (ok_is_rule R) hg (hr.mono (by decide)) (by rfl) R.g_is_rule R.F_is_rule.kp R.b_is_rule passW0 (da_cons (dv 1) (da_cons (dv 3) da_nil))))) (dss_one ds_never) dss_nil)))
    (dss_cons (ds_if (dt_not (dt_val (de_callB (cr_all rfl) calld_all (by rfl) R.z_all PyProof.Rows.boot_all (da_cons (dn_de (dn_comp (own := [("one", 4), ("other", 5)]) rfl sc_Scheme___init__.nd (di_zip (by rfl) R.z_zip (da_cons (de_slice sl_3 sld_sl (dv 2) do_no (do_so (de_un un_neg und_neg de_int))) (da_cons (de_slice sl_3 sld_sl (dv 2) (do_so de_int) do_no) da_nil))) (by exact blkOk_by (N := N_Scheme___init__) (sc := defScope s_Scheme___init__) (own := [("one", 4), ("other", 5)]) (by decide +kernel)) (fun _ _ _ _ _ => (dg_tup rfl (dgs_cons (dg_name sc_Scheme___init__.nd rfl (by first | exact Or.inl rfl | exact Or.inr rfl)) (dgs_cons (dg_name sc_Scheme___init__.nd rfl (by first | exact Or.inl rfl | exact Or.inr rfl)) dgs_nil)) 2 rfl (pg_tup rfl (dgs_cons (dg_name sc_Scheme___init__.nd rfl (by first | exact Or.inl rfl | exact Or.inr rfl)) (dgs_cons (dg_name sc_Scheme___init__.nd rfl (by first | exact Or.inl rfl | exact Or.inr rfl)) dgs_nil))) (glen2))) (fun _ _ _ _ _ => dts_nil) (fun _ _ _ _ _ => (de_cmp (op_ltt hr.units) opd_lt (dv 4) (dv 5) (nomark _))))) da_nil)))) (dss_one ds_never) dss_nil)
    (dss_cons (ds_fld R.cl_Scheme R.n_Scheme_columns (pv 0) (dv 1))
    (dss_one (ds_fld R.cl_Scheme R.n_Scheme_rules (pv 0) (dv 2))))))))
def b__law_code (c : CA) : SF := (sRet (eN (nMk c.Scheme 2 (i_Scheme c) (aC (eOp gGet (eV 0) (eC (.str "cols"))) (aC (eOp gGet (eV 0) (eC (.str "rules"))) aN)))))
def m__law_code (c : CA) : List D → Res D := fun ds => noErr (runP (b__law_code c) 0 ds)
theorem ok__law_code (R : PR K mg) : FnG P w K mg base CX0 6 R.f__law_code R.fd__law_code ["_law_w"] (spP K 1 (m__law_code R.c)) :=
  fn_P R.F__law_code sc__law_code 0 rfl fun cdv A outer s H E hg hr => (dss_one (ds_ret (dn_de (dn_mk R.mk_Scheme (ok_Scheme___init__ R) hg (hr.mono (by decide)) (by rfl) R.c_Scheme R.b_Scheme___init__ passW0 (da_cons (de_dget (hu_of hr) (dv 0) (de_str ⟨by decide +kernel, by decide +kernel⟩)) (da_cons (de_dget (hu_of hr) (dv 0) (de_str ⟨by decide +kernel, by decide +kernel⟩)) da_nil))))))
def b_pairs_of (c : CA) : SF := (sRet (eN (nComp2 [1, 2, 3] [3] (iN (aC (eV 0) aN)) (gT (gCons' (gN 1) (gCons' (gN 2) gNil'))) tYes' (iSq (eSl gSl (eV 0) (oSo (eOp gAdd (eV 1) (eC (.int 1)))) oNo)) (gN 3) tYes' (eTup (aC (eV 2) (aC (eV 3) aN))))))
def m_pairs_of (c : CA) : List D → Res D := fun ds => noErr (runP (b_pairs_of c) 3 ds)
theorem ok_pairs_of (R : PR K mg) : FnG P w K mg base CX0 1 R.f_pairs_of R.fd_pairs_of ["rows"] (spP K 1 (m_pairs_of R.c)) :=
  fn_P R.F_pairs_of sc_pairs_of 3 rfl fun cdv A outer s H E hg hr => (dss_one (ds_ret (dn_de (dn_comp2 (own := [("place", 1), ("one", 2), ("other", 3)]) (vs1 := [3]) rfl sc_pairs_of.nd (di_enum (by rfl) R.z_enumerate (da_cons (dv 0) da_nil)) (by exact blkOk_by (N := N_pairs_of) (sc := defScope s_pairs_of) (own := [("place", 1), ("one", 2), ("other", 3)]) (by decide +kernel)) (fun _ _ _ _ _ => (dg_tup rfl (dgs_cons (dg_name sc_pairs_of.nd rfl (by first | exact Or.inl rfl | exact Or.inr rfl)) (dgs_cons (dg_name sc_pairs_of.nd rfl (by first | exact Or.inl rfl | exact Or.inr rfl)) dgs_nil)) 2 rfl (pg_tup rfl (dgs_cons (dg_name sc_pairs_of.nd rfl (by first | exact Or.inl rfl | exact Or.inr rfl)) (dgs_cons (dg_name sc_pairs_of.nd rfl (by first | exact Or.inl rfl | exact Or.inr rfl)) dgs_nil))) (glen2))) (fun _ _ _ _ _ => dts_nil) (fun _ _ _ _ _ => (di_seq (de_slice sl_3 sld_sl (dv 0) (do_so (de_op op_addA opd_add (dv 1) de_int)) do_no))) (fun _ _ _ _ _ => (dg_name sc_pairs_of.nd rfl (by first | exact Or.inl rfl | exact Or.inr rfl))) (fun _ _ _ _ _ => dts_nil) (fun _ _ _ _ _ => (de_tup (da_cons (dv 2) (da_cons (dv 3) da_nil))))))))
def b_row_at (c : CA) : SF := (sRet (eCall gTuple (aC (eN (nComp [3] (iSq (eV 2)) (gN 3) tYes' (eOp gIx (eV 1) (eM1 gSIdx (eV 0) (eV 3))))) aN)))
def m_row_at (c : CA) : List D → Res D := fun ds => noErr (runP (b_row_at c) 1 ds)
theorem ok_row_at (R : PR K mg) : FnG P w K mg base CX0 1 R.f_row_at R.fd_row_at ["columns", "row", "some"] (spP K 3 (m_row_at R.c)) :=
  fn_P R.F_row_at sc_row_at 1 rfl fun cdv A outer s H E hg hr => (dss_one (ds_ret (de_callTy call_tuple_of calld_tuple (by rfl) R.z_tuple PyProof.Rows.boot_tuple (da_cons (dn_de (dn_comp (own := [("letter", 3)]) rfl sc_row_at.nd (di_seq (dv 2)) (by exact blkOk_by (N := N_row_at) (sc := defScope s_row_at) (own := [("letter", 3)]) (by decide +kernel)) (fun _ _ _ _ _ => (dg_name sc_row_at.nd rfl (by first | exact Or.inl rfl | exact Or.inr rfl))) (fun _ _ _ _ _ => dts_nil) (fun _ _ _ _ _ => (de_ix ix_seq opd_ix (dv 1) (de_sidx (dv 0) (dv 3)) (by intro _ _; rfl))))) da_nil))))
def b_does_break (c : CA) : SF := (sSeq (sAsg (gT (gCons' (gN 4) (gCons' (gN 5) gNil'))) (eV 1))
  (sSeq (sIf (tB (eOp gNe (eF 3 (m_row_at c) (aC (eFld c.Scheme "columns" (eV 0)) (aC (eV 2) (aC (eV 4) aN)))) (eF 3 (m_row_at c) (aC (eFld c.Scheme "columns" (eV 0)) (aC (eV 3) (aC (eV 4) aN)))))) (sRet (eC (.bl false))) sNx)
  (sRet (eOp gNe (eF 3 (m_row_at c) (aC (eFld c.Scheme "columns" (eV 0)) (aC (eV 2) (aC (eV 5) aN)))) (eF 3 (m_row_at c) (aC (eFld c.Scheme "columns" (eV 0)) (aC (eV 3) (aC (eV 5) aN))))))))
def m_does_break (c : CA) : List D → Res D := fun ds => noErr (runP (b_does_break c) 2 ds)
theorem ok_does_break (R : PR K mg) : FnG P w K mg base CX0 2 R.f_does_break R.fd_does_break ["scheme", "rule", "one", "other"] (spP K 4 (m_does_break R.c)) :=
  fn_P R.F_does_break sc_does_break 2 rfl fun cdv A outer s H E hg hr => (dss_cons (ds_asg (dv 1) (dg_tup rfl (dgs_cons (dg_name sc_does_break.nd rfl (by first | exact Or.inl rfl | exact Or.inr rfl)) (dgs_cons (dg_name sc_does_break.nd rfl (by first | exact Or.inl rfl | exact Or.inr rfl)) dgs_nil)) 2 rfl (pg_tup rfl (dgs_cons (dg_name sc_does_break.nd rfl (by first | exact Or.inl rfl | exact Or.inr rfl)) (dgs_cons (dg_name sc_does_break.nd rfl (by first | exact Or.inl rfl | exact Or.inr rfl)) dgs_nil))) (glen2)))
    (dss_cons (ds_if (dt_cmp (op_neq hr.units) opd_ne (de_F (ok_row_at R) hg (hr.mono (by decide)) (by rfl) R.g_row_at R.F_row_at.kp R.b_row_at passW0 (da_cons (de_fld (dv 0) R.cl_Scheme R.n_Scheme_columns) (da_cons (dv 2) (da_cons (dv 4) da_nil)))) (de_F (ok_row_at R) hg (hr.mono (by decide)) (by rfl) R.g_row_at R.F_row_at.kp R.b_row_at passW0 (da_cons (de_fld (dv 0) R.cl_Scheme R.n_Scheme_columns) (da_cons (dv 3) (da_cons (dv 4) da_nil)))) (nomark _)) (dss_one (ds_ret de_bl)) dss_nil)
    (dss_one (ds_ret (de_cmp (op_neq hr.units) opd_ne (de_F (ok_row_at R) hg (hr.mono (by decide)) (by rfl) R.g_row_at R.F_row_at.kp R.b_row_at passW0 (da_cons (de_fld (dv 0) R.cl_Scheme R.n_Scheme_columns) (da_cons (dv 2) (da_cons (dv 5) da_nil)))) (de_F (ok_row_at R) hg (hr.mono (by decide)) (by rfl) R.g_row_at R.F_row_at.kp R.b_row_at passW0 (da_cons (de_fld (dv 0) R.cl_Scheme R.n_Scheme_columns) (da_cons (dv 3) (da_cons (dv 5) da_nil)))) (nomark _))))))
def b_broken (c : CA) : SF := (sSeq (sFor (iN (aC (eFld c.Scheme "rules" (eV 0)) aN)) (gT (gCons' (gN 2) (gCons' (gN 3) gNil')))
  (sFor (iSq (eF 1 (m_pairs_of c) (aC (eV 1) aN))) (gT (gCons' (gN 4) (gCons' (gN 5) gNil')))
  (sIf (tB (eF 4 (m_does_break c) (aC (eV 0) (aC (eV 3) (aC (eV 4) (aC (eV 5) aN)))))) (sRet (eTup (aC (eV 2) (aC (eV 4) (aC (eV 5) aN))))) sNx)))
  (sRet (eC .non)))
def m_broken (c : CA) : List D → Res D := fun ds => noErr (runP (b_broken c) 4 ds)
theorem ok_broken (R : PR K mg) : FnG P w K mg base CX0 3 R.f_broken R.fd_broken ["scheme", "rows"] (spP K 2 (m_broken R.c)) :=
  fn_P R.F_broken sc_broken 4 rfl fun cdv A outer s H E hg hr => (dss_cons (ds_for PassesOwn.never rfl (di_enum (by rfl) R.z_enumerate (da_cons (de_fld (dv 0) R.cl_Scheme R.n_Scheme_rules) da_nil)) (dg_tup rfl (dgs_cons (dg_name sc_broken.nd rfl (by first | exact Or.inl rfl | exact Or.inr rfl)) (dgs_cons (dg_name sc_broken.nd rfl (by first | exact Or.inl rfl | exact Or.inr rfl)) dgs_nil)) 2 rfl (pg_tup rfl (dgs_cons (dg_name sc_broken.nd rfl (by first | exact Or.inl rfl | exact Or.inr rfl)) (dgs_cons (dg_name sc_broken.nd rfl (by first | exact Or.inl rfl | exact Or.inr rfl)) dgs_nil))) (glen2)) (dss_one (ds_for PassesOwn.never rfl (di_seq (de_F (ok_pairs_of R) hg (hr.mono (by decide)) (by rfl) R.g_pairs_of R.F_pairs_of.kp R.b_pairs_of passW0 (da_cons (dv 1) da_nil))) (dg_tup rfl (dgs_cons (dg_name sc_broken.nd rfl (by first | exact Or.inl rfl | exact Or.inr rfl)) (dgs_cons (dg_name sc_broken.nd rfl (by first | exact Or.inl rfl | exact Or.inr rfl)) dgs_nil)) 2 rfl (pg_tup rfl (dgs_cons (dg_name sc_broken.nd rfl (by first | exact Or.inl rfl | exact Or.inr rfl)) (dgs_cons (dg_name sc_broken.nd rfl (by first | exact Or.inl rfl | exact Or.inr rfl)) dgs_nil))) (glen2)) (dss_one (ds_if (dt_val (de_F (ok_does_break R) hg (hr.mono (by decide)) (by rfl) R.g_does_break R.F_does_break.kp R.b_does_break passW0 (da_cons (dv 0) (da_cons (dv 3) (da_cons (dv 4) (da_cons (dv 5) da_nil)))))) (dss_one (ds_ret (de_tup (da_cons (dv 2) (da_cons (dv 4) (da_cons (dv 5) da_nil)))))) dss_nil)))))
    (dss_one (ds_ret de_non)))
def b_is_table (c : CA) : SF := (sRet (vAnd (eF 2 (m_is_rows c) (aC (eFld c.Scheme "columns" (eV 0)) (aC (eV 1) aN))) (eOp (gIsN false) (eF 2 (m_broken c) (aC (eV 0) (aC (eV 1) aN))) (eC .non))))
def m_is_table (c : CA) : List D → Res D := fun ds => noErr (runP (b_is_table c) 0 ds)
theorem ok_is_table (R : PR K mg) : FnG P w K mg base CX0 4 R.f_is_table R.fd_is_table ["scheme", "thing"] (spP K 2 (m_is_table R.c)) :=
  fn_P R.F_is_table sc_is_table 0 rfl fun cdv A outer s H E hg hr => (dss_one (ds_ret (de_and (de_F (ok_is_rows R) hg (hr.mono (by decide)) (by rfl) R.g_is_rows R.F_is_rows.kp R.b_is_rows passW0 (da_cons (de_fld (dv 0) R.cl_Scheme R.n_Scheme_columns) (da_cons (dv 1) da_nil))) (de_one (de_cmp op_isN opd_isN (de_F (ok_broken R) hg (hr.mono (by decide)) (by rfl) R.g_broken R.F_broken.kp R.b_broken passW0 (da_cons (dv 0) (da_cons (dv 1) da_nil))) de_non (nomark _))))))
def b__law_right (c : CA) : SF := (sSeq (sPar [3, 4] [.e (eCall gReprE (aC (eV 2) aN)), .e (eF 2 (m__law_are_rows c) (aC (eCall gLen (aC (eV 1) aN)) (aC (eV 2) aN)))])
  (sSeq (sIf (tB (eOp gNe (eCall gReprE (aC (eN (nLst (aC (eF 2 (m_is_rows c) (aC (eV 1) (aC (eV 2) aN))) (aC (eFK 0 2 [1, 0] 2 (m_is_rows c) aN (aC (eV 2) (aC (eV 1) aN))) aN)))) aN)) (eCall gReprE (aC (eN (nLst (aC (eV 4) (aC (eV 4) aN)))) aN)))) (sRet (eC (.bl false))) sNx)
  (sSeq (sPar [4, 5] [.e (eF 2 (m__law_are_rows c) (aC (eCall gLen (aC (eOp gGet (eV 0) (eC (.str "cols"))) aN)) (aC (eV 2) aN))), .e (eF 1 (m__law_code c) (aC (eV 0) aN))])
  (sSeq (sSet 4 (vAnd (eV 4) (eOp (gIsN false) (eF 2 (m__law_bad c) (aC (eV 0) (aC (eV 2) aN))) (eC .non))))
  (sSeq (sSet 6 (eN (nLst (aC (eF 2 (m_is_table c) (aC (eV 5) (aC (eV 2) aN))) (aC (eFK 0 2 [1, 0] 2 (m_is_table c) aN (aC (eV 2) (aC (eV 5) aN))) aN)))))
  (sRet (vAnd (eOp gEq (eCall gReprE (aC (eV 6) aN)) (eCall gReprE (aC (eN (nLst (aC (eV 4) (aC (eV 4) aN)))) aN))) (eOp gEq (eCall gReprE (aC (eV 2) aN)) (eV 3)))))))))
def m__law_right (c : CA) : List D → Res D := fun ds => noErr (runP (b__law_right c) 4 ds)
theorem ok__law_right (R : PR K mg) : FnG P w K mg base CX0 7 R.f__law_right R.fd__law_right ["_law_w", "_law_cols", "_law_it"] (spP K 3 (m__law_right R.c)) :=
  fn_P R.F__law_right sc__law_right 4 rfl fun cdv A outer s H E hg hr => (dss_cons (ds_par2 rfl sc__law_right.nd rfl rfl (by decide) rfl rfl (dws_e (de_callB (call_reprE hr.units hg) calld_reprE (by rfl) R.z_repr PyProof.Rows.boot_repr (da_cons (dv 2) da_nil)) (dws_e (de_F (ok__law_are_rows R) hg (hr.mono (by decide)) (by rfl) R.g__law_are_rows R.F__law_are_rows.kp R.b__law_are_rows passW0 (da_cons (de_callB call_len calld_len (by rfl) R.z_len PySem.boot_len (da_cons (dv 1) da_nil)) (da_cons (dv 2) da_nil))) dws_nil)) rfl)
    (dss_cons (ds_if (dt_cmp (op_neq hr.units) opd_ne (de_callB (call_reprE hr.units hg) calld_reprE (by rfl) R.z_repr PyProof.Rows.boot_repr (da_cons (dn_de (dn_lst (da_cons (de_F (ok_is_rows R) hg (hr.mono (by decide)) (by rfl) R.g_is_rows R.F_is_rows.kp R.b_is_rows passW0 (da_cons (dv 1) (da_cons (dv 2) da_nil))) (da_cons (de_FK0 (ok_is_rows R) hg (hr.mono (by decide)) (by rfl) R.g_is_rows R.F_is_rows.kp R.kw_is_rows_0_thing_columns passW0 (dk_cons (dv 2) (dk_cons (dv 1) dk_nil))) da_nil)))) da_nil)) (de_callB (call_reprE hr.units hg) calld_reprE (by rfl) R.z_repr PyProof.Rows.boot_repr (da_cons (dn_de (dn_lst (da_cons (dv 4) (da_cons (dv 4) da_nil)))) da_nil)) (nomark _)) (dss_one (ds_ret de_bl)) dss_nil)
    (dss_cons (ds_par2 rfl sc__law_right.nd rfl rfl (by decide) rfl rfl (dws_e (de_F (ok__law_are_rows R) hg (hr.mono (by decide)) (by rfl) R.g__law_are_rows R.F__law_are_rows.kp R.b__law_are_rows passW0 (da_cons (de_callB call_len calld_len (by rfl) R.z_len PySem.boot_len (da_cons (de_dget (hu_of hr) (dv 0) (de_str ⟨by decide +kernel, by decide +kernel⟩)) da_nil)) (da_cons (dv 2) da_nil))) (dws_e (de_F (ok__law_code R) hg (hr.mono (by decide)) (by rfl) R.g__law_code R.F__law_code.kp R.b__law_code passW0 (da_cons (dv 0) da_nil)) dws_nil)) rfl)
    (dss_cons (ds_set sc__law_right.nd rfl (Or.inl rfl) (de_and (dv 4) (de_one (de_cmp op_isN opd_isN (de_F (ok__law_bad R) hg (hr.mono (by decide)) (by rfl) R.g__law_bad R.F__law_bad.kp R.b__law_bad passW0 (da_cons (dv 0) (da_cons (dv 2) da_nil))) de_non (nomark _)))))
    (dss_cons (ds_set sc__law_right.nd rfl (Or.inl rfl) (dn_de (dn_lst (da_cons (de_F (ok_is_table R) hg (hr.mono (by decide)) (by rfl) R.g_is_table R.F_is_table.kp R.b_is_table passW0 (da_cons (dv 5) (da_cons (dv 2) da_nil))) (da_cons (de_FK0 (ok_is_table R) hg (hr.mono (by decide)) (by rfl) R.g_is_table R.F_is_table.kp R.kw_is_table_0_thing_scheme passW0 (dk_cons (dv 2) (dk_cons (dv 5) dk_nil))) da_nil)))))
    (dss_one (ds_ret (de_and (de_cmp (op_eqq hr.units) opd_eq (de_callB (call_reprE hr.units hg) calld_reprE (by rfl) R.z_repr PyProof.Rows.boot_repr (da_cons (dv 6) da_nil)) (de_callB (call_reprE hr.units hg) calld_reprE (by rfl) R.z_repr PyProof.Rows.boot_repr (da_cons (dn_de (dn_lst (da_cons (dv 4) (da_cons (dv 4) da_nil)))) da_nil)) (nomark _)) (de_one (de_cmp (op_eqq hr.units) opd_eq (de_callB (call_reprE hr.units hg) calld_reprE (by rfl) R.z_repr PyProof.Rows.boot_repr (da_cons (dv 2) da_nil)) (dv 3) (nomark _)))))))))))
def b_law (c : CA) : SF := (sSeq (sFor (iR1 (aC (eC (.int 6)) aN)) (gN 2)
  (sSeq (sSet 3 (eK 1 2 (m__law_plan c) (aC (eC (.int 5)) (aC (eC (.int 5)) aN))))
  (sSeq (sSet 4 (eK 1 3 (m__law_lines c) (aC (eCall gLen (aC (eOp gGet (eV 3) (eC (.str "cols"))) aN)) (aC (eC (.int 12)) (aC (eOp gPow (eC (.int 10)) (eC (.int 30))) aN)))))
  (sSeq (sPar [5, 6] [.e (eF 2 (m__law_kept c) (aC (eV 3) (aC (eV 4) aN))), .e (eSl gSl (eOp gGet (eV 3) (eC (.str "cols"))) oNo (oSo (eK 1 1 (m__law_draw c) (aC (eOp gAdd (eCall gLen (aC (eOp gGet (eV 3) (eC (.str "cols"))) aN)) (eC (.int 1))) aN))))])
  (sSeq (sSet 7 (eN (nLst (aC (eV 4) (aC (eV 5) (aC (eUn (gStep (-1)) (eV 4)) (aC (eOp gAdd (eV 4) (eSl gSl (eV 4) oNo (oSo (eC (.int 1))))) (aC (eN (nCall gList (aC (eV 4) aN))) (aC (eTup aN) (aC (eTup (aC (eTup aN) aN)) (aC (eTup (aC (eTup aN) (aC (eTup aN) aN))) (aC (eC .non) (aC (eC (.int 0)) (aC (eC (.str "")) (aC (eN nNil) (aC (eN nDK) aN))))))))))))))))
  (sSeq (sSet 7 (eOp gAdd (eV 7) (eN (nLst (aC (eCall gTuple (aC (eN (nComp [8] (iSq (eV 4)) (gN 8) tYes' (eN (nCall gList (aC (eV 8) aN))))) aN)) (aC (eCall gTuple (aC (eN (nComp [8] (iSq (eV 4)) (gN 8) tYes' (eSl gSl (eV 8) oNo (oSo (eUn gNeg (eC (.int 1))))))) aN)) aN))))))
  (sSeq (sSet 7 (eOp gAdd (eV 7) (eN (nLst (aC (eTup (aC (eTup (aC (eC (.bl true)) aN)) aN)) (aC (eTup (aC (eTup (aC (eC (.int 0)) aN)) (aC (eTup (aC (eC (.int 1)) aN)) aN))) (aC (eTup (aC (eC (.str "a")) aN)) aN)))))))
  (sSeq (sFor (iR1 (aC (eC (.int 6)) aN)) (gN 9)
  (sSeq (sSet 10 (eK 1 1 (m__law_bent c) (aC (eV 5) aN)))
  (sSet 7 (eOp gAdd (eV 7) (eN (nLst (aC (eV 10) (aC (eK 1 1 (m__law_bent c) (aC (eV 10) aN)) (aC (eK 1 3 (m__law_lines c) (aC (eCall gLen (aC (eV 6) aN)) (aC (eC (.int 4)) (aC (eC (.int 3)) aN)))) aN)))))))))
  (sFor (iSq (eV 7)) (gN 11)
  (sIf (tOr' (tNt (tB (eF 3 (m__law_right c) (aC (eV 3) (aC (eOp gGet (eV 3) (eC (.str "cols"))) (aC (eV 11) aN)))))) (tNt (tB (eF 3 (m__law_right c) (aC (eV 3) (aC (eV 6) (aC (eV 11) aN))))))) (sRet (eC (.bl false))) sNx))))))))))
  (sSeq (sSet 12 (eN (nComp [11] (iSq (eTup (aC (eTup aN) (aC (eTup (aC (eTup aN) aN)) (aC (eTup (aC (eTup aN) (aC (eTup aN) aN))) (aC (eTup (aC (eTup (aC (eC (.int 0)) aN)) aN)) (aC (eN (nLst (aC (eTup aN) aN))) aN))))))) (gN 11) tYes' (eF 2 (m_is_rows c) (aC (eC (.str "")) (aC (eV 11) aN))))))
  (sSeq (sPar [3, 4] [.e (eN (nDis (("cols", (eC (.str "a"))) :: (("rules", (eTup aN)) :: [])))), .e (eCall gTuple (aC (eN (nComp [9] (iR1 (aC (eC (.int 60)) aN)) (gN 9) tYes' (eTup (aC (eV 9) aN)))) aN))])
  (sSeq (sIf (tOr' (tNt (tB (eF 3 (m__law_right c) (aC (eV 3) (aC (eC (.str "a")) (aC (eV 4) aN)))))) (tNt (tB (eF 3 (m__law_right c) (aC (eV 3) (aC (eC (.str "a")) (aC (eUn (gStep (-1)) (eV 4)) aN))))))) (sRet (eC (.bl false))) sNx)
  (sRet (eOp gEq (eV 12) (eN (nLst (aC (eC (.bl true)) (aC (eC (.bl true)) (aC (eC (.bl false)) (aC (eC (.bl false)) (aC (eC (.bl false)) aN)))))))))))))
def spLaw (K : PySem.W.Frag) : Sp := fun vs H Q _ => ∃ (a : Addr) (ns : List Int), vs = [.ref a] ∧ SqL K H a (ns.map V.int) ∧ ns.length ≤ 63 ∧ ∀ H', Q (.bl true) H'
theorem ok_law (R : PR K mg) (hm : ∀ (p q : Addr) (l : List Int) (b : Int), l.length ≤ 63 → ∃ E, b_law R.c (.no :: .deck p q l b :: nos 11) = .ok (.rt (.bl true), E)) : FnG P w K mg base CX0 12 R.f_law R.fd_law ["_law_script"] (spLaw K) := by
  refine FnG.body R.F_law sc_law (fun vs H Q E h => by obtain ⟨a, ns, rfl, _⟩ := h; rfl) fun cdv A outer s H vs Q E hg hr hsp => ?_
  obtain ⟨a, ns, rfl, hS, hl, z⟩ := hsp
  refine ⟨_, PSs.nox (pss_cons (ps_set (i := 1) sc_law.nd rfl (Or.inl rfl) (pe_F (ok__law_deck R) hg (hr.mono (by decide)) (by rfl) R.g__law_deck R.F__law_deck.kp R.b__law_deck (passW0 (Wi := W0)) (pa_cons (pv 0) pa_nil)))
   (show DSs _ W0 _ (b_law R.c) from (dss_cons (ds_for PassesOwn.never rfl (di_range1 (by rfl) R.z_range (da_cons de_int da_nil)) (dg_name sc_law.nd rfl (by first | exact Or.inl rfl | exact Or.inr rfl)) (dss_cons (ds_set sc_law.nd rfl (Or.inl rfl) (de_K (ok__law_plan R) hg (hr.mono (by decide)) (by rfl) R.g__law_plan R.F__law_plan.kp R.b__law_plan passW0 (pv 1) (da_cons de_int (da_cons de_int da_nil))))
    (dss_cons (ds_set sc_law.nd rfl (Or.inl rfl) (de_K (ok__law_lines R) hg (hr.mono (by decide)) (by rfl) R.g__law_lines R.F__law_lines.kp R.b__law_lines passW0 (pv 1) (da_cons (de_callB call_len calld_len (by rfl) R.z_len PySem.boot_len (da_cons (de_dget (hu_of hr) (dv 3) (de_str ⟨by decide +kernel, by decide +kernel⟩)) da_nil)) (da_cons de_int (da_cons (de_op op_pow opd_pow de_int de_int) da_nil)))))
    (dss_cons (ds_par2 rfl sc_law.nd rfl rfl (by decide) rfl rfl (dws_e (de_F (ok__law_kept R) hg (hr.mono (by decide)) (by rfl) R.g__law_kept R.F__law_kept.kp R.b__law_kept passW0 (da_cons (dv 3) (da_cons (dv 4) da_nil))) (dws_e (de_slice sl_3 sld_sl (de_dget (hu_of hr) (dv 3) (de_str ⟨by decide +kernel, by decide +kernel⟩)) do_no (do_so (de_K (ok__law_draw R) hg (hr.mono (by decide)) (by rfl) R.g__law_draw R.F__law_draw.kp R.b__law_draw passW0 (pv 1) (da_cons (de_op op_addA opd_add (de_callB call_len calld_len (by rfl) R.z_len PySem.boot_len (da_cons (de_dget (hu_of hr) (dv 3) (de_str ⟨by decide +kernel, by decide +kernel⟩)) da_nil)) de_int) da_nil)))) dws_nil)) rfl)
    (dss_cons (ds_set sc_law.nd rfl (Or.inl rfl) (dn_de (dn_lst (da_cons (dv 4) (da_cons (dv 5) (da_cons (de_rev (dv 4)) (da_cons (de_op op_addA opd_add (dv 4) (de_slice sl_3 sld_sl (dv 4) do_no (do_so de_int))) (da_cons (dn_de (dn_callTy call_list_of calln_list (by rfl) R.z_list PyProof.Rows.boot_list (da_cons (dv 4) da_nil))) (da_cons (de_tup da_nil) (da_cons (de_tup (da_cons (de_tup da_nil) da_nil)) (da_cons (de_tup (da_cons (de_tup da_nil) (da_cons (de_tup da_nil) da_nil))) (da_cons de_non (da_cons de_int (da_cons (de_str ⟨by decide +kernel, by decide +kernel⟩) (da_cons (dn_de dn_nil) (da_cons (dn_de dn_dk) da_nil))))))))))))))))
    (dss_cons (ds_set sc_law.nd rfl (Or.inl rfl) (de_op op_addA opd_add (dv 7) (dn_de (dn_lst (da_cons (de_callTy call_tuple_of calld_tuple (by rfl) R.z_tuple PyProof.Rows.boot_tuple (da_cons (dn_de (dn_comp (own := [("_law_item", 8)]) rfl sc_law.nd (di_seq (dv 4)) (by exact blkOk_by (N := N_law) (sc := defScope s_law) (own := [("_law_item", 8)]) (by decide +kernel)) (fun _ _ _ _ _ => (dg_name sc_law.nd rfl (by first | exact Or.inl rfl | exact Or.inr rfl))) (fun _ _ _ _ _ => dts_nil) (fun _ _ _ _ _ => (dn_de (dn_callTy call_list_of calln_list (by rfl) R.z_list PyProof.Rows.boot_list (da_cons (dv 8) da_nil)))))) da_nil)) (da_cons (de_callTy call_tuple_of calld_tuple (by rfl) R.z_tuple PyProof.Rows.boot_tuple (da_cons (dn_de (dn_comp (own := [("_law_item", 8)]) rfl sc_law.nd (di_seq (dv 4)) (by exact blkOk_by (N := N_law) (sc := defScope s_law) (own := [("_law_item", 8)]) (by decide +kernel)) (fun _ _ _ _ _ => (dg_name sc_law.nd rfl (by first | exact Or.inl rfl | exact Or.inr rfl))) (fun _ _ _ _ _ => dts_nil) (fun _ _ _ _ _ => (de_slice sl_3 sld_sl (dv 8) do_no (do_so (de_un un_neg und_neg de_int)))))) da_nil)) da_nil))))))
    (dss_cons (ds_set sc_law.nd rfl (Or.inl rfl) (de_op op_addA opd_add (dv 7) (dn_de (dn_lst (da_cons (de_tup (da_cons (de_tup (da_cons de_bl da_nil)) da_nil)) (da_cons (de_tup (da_cons (de_tup (da_cons de_int da_nil)) (da_cons (de_tup (da_cons de_int da_nil)) da_nil))) (da_cons (de_tup (da_cons (de_str ⟨by decide +kernel, by decide +kernel⟩) da_nil)) da_nil)))))))
    (dss_cons (ds_for PassesOwn.never rfl (di_range1 (by rfl) R.z_range (da_cons de_int da_nil)) (dg_name sc_law.nd rfl (by first | exact Or.inl rfl | exact Or.inr rfl)) (dss_cons (ds_set sc_law.nd rfl (Or.inl rfl) (de_K (ok__law_bent R) hg (hr.mono (by decide)) (by rfl) R.g__law_bent R.F__law_bent.kp R.b__law_bent passW0 (pv 1) (da_cons (dv 5) da_nil)))
    (dss_one (ds_set sc_law.nd rfl (Or.inl rfl) (de_op op_addA opd_add (dv 7) (dn_de (dn_lst (da_cons (dv 10) (da_cons (de_K (ok__law_bent R) hg (hr.mono (by decide)) (by rfl) R.g__law_bent R.F__law_bent.kp R.b__law_bent passW0 (pv 1) (da_cons (dv 10) da_nil)) (da_cons (de_K (ok__law_lines R) hg (hr.mono (by decide)) (by rfl) R.g__law_lines R.F__law_lines.kp R.b__law_lines passW0 (pv 1) (da_cons (de_callB call_len calld_len (by rfl) R.z_len PySem.boot_len (da_cons (dv 6) da_nil)) (da_cons de_int (da_cons de_int da_nil)))) da_nil))))))))))
    (dss_one (ds_for PassesOwn.never rfl (di_seq (dv 7)) (dg_name sc_law.nd rfl (by first | exact Or.inl rfl | exact Or.inr rfl)) (dss_one (ds_if (dt_w (dw_or (dt_not (dt_val (de_F (ok__law_right R) hg (hr.mono (by decide)) (by rfl) R.g__law_right R.F__law_right.kp R.b__law_right passW0 (da_cons (dv 3) (da_cons (de_dget (hu_of hr) (dv 3) (de_str ⟨by decide +kernel, by decide +kernel⟩)) (da_cons (dv 11) da_nil)))))) (dw_one (dt_not (dt_val (de_F (ok__law_right R) hg (hr.mono (by decide)) (by rfl) R.g__law_right R.F__law_right.kp R.b__law_right passW0 (da_cons (dv 3) (da_cons (dv 6) (da_cons (dv 11) da_nil))))))))) (dss_one (ds_ret de_bl)) dss_nil))))))))))))
    (dss_cons (ds_setC rfl sc_law.nd rfl rfl rfl (own := [("_law_it", 11)]) (di_seq (de_tup (da_cons (de_tup da_nil) (da_cons (de_tup (da_cons (de_tup da_nil) da_nil)) (da_cons (de_tup (da_cons (de_tup da_nil) (da_cons (de_tup da_nil) da_nil))) (da_cons (de_tup (da_cons (de_tup (da_cons de_int da_nil)) da_nil)) (da_cons (dn_de (dn_lst (da_cons (de_tup da_nil) da_nil))) da_nil))))))) (by exact blkOk_by (N := N_law) (sc := defScope s_law) (own := [("_law_it", 11)]) (by decide +kernel)) (fun _ _ _ _ _ => (dg_name sc_law.nd rfl (by first | exact Or.inl rfl | exact Or.inr rfl))) (fun _ _ _ _ _ => dts_nil) (fun _ _ _ _ _ => (de_F (ok_is_rows R) hg (hr.mono (by decide)) (by rfl) R.g_is_rows R.F_is_rows.kp R.b_is_rows passW0 (da_cons (de_str ⟨by decide +kernel, by decide +kernel⟩) (da_cons (dv 11) da_nil)))))
    (dss_cons (ds_par2 rfl sc_law.nd rfl rfl (by decide) rfl rfl (dws_e (dn_de (dn_dis (dps_cons ⟨by decide +kernel, by decide +kernel⟩ (de_str ⟨by decide +kernel, by decide +kernel⟩) (dps_cons ⟨by decide +kernel, by decide +kernel⟩ (de_tup da_nil) dps_nil)))) (dws_e (de_callTy call_tuple_of calld_tuple (by rfl) R.z_tuple PyProof.Rows.boot_tuple (da_cons (dn_de (dn_comp (own := [("_law_k", 9)]) rfl sc_law.nd (di_range1 (by rfl) R.z_range (da_cons de_int da_nil)) (by exact blkOk_by (N := N_law) (sc := defScope s_law) (own := [("_law_k", 9)]) (by decide +kernel)) (fun _ _ _ _ _ => (dg_name sc_law.nd rfl (by first | exact Or.inl rfl | exact Or.inr rfl))) (fun _ _ _ _ _ => dts_nil) (fun _ _ _ _ _ => (de_tup (da_cons (dv 9) da_nil))))) da_nil)) dws_nil)) rfl)
    (dss_cons (ds_if (dt_w (dw_or (dt_not (dt_val (de_F (ok__law_right R) hg (hr.mono (by decide)) (by rfl) R.g__law_right R.F__law_right.kp R.b__law_right passW0 (da_cons (dv 3) (da_cons (de_str ⟨by decide +kernel, by decide +kernel⟩) (da_cons (dv 4) da_nil)))))) (dw_one (dt_not (dt_val (de_F (ok__law_right R) hg (hr.mono (by decide)) (by rfl) R.g__law_right R.F__law_right.kp R.b__law_right passW0 (da_cons (dv 3) (da_cons (de_str ⟨by decide +kernel, by decide +kernel⟩) (da_cons (de_rev (dv 4)) da_nil))))))))) (dss_one (ds_ret de_bl)) dss_nil)
    (dss_one (ds_ret (de_cmp (op_eqq hr.units) opd_eq (dv 12) (dn_de (dn_lst (da_cons de_bl (da_cons de_bl (da_cons de_bl (da_cons de_bl (da_cons de_bl da_nil))))))) (nomark _)))))))))), ?_⟩
  exact law_read (n := 11) rfl hm hS hl z
theorem kw_is_rows_0_thing_columns {f : Addr} {fd : FuncData} (F : Fun K "is_rows" "is_rows" s_is_rows f fd) : KW fd ["columns", "thing"] 0 ["thing", "columns"] [1, 0] := by
  obtain ⟨oc, od, kV, doc, pm, an, cdv, ct, osl, rfl, lk, hcd⟩ := F.ex
  exact ⟨fun us ws h1 h2 => match us, ws, h1, h2 with | [], [_, _], _, _ => rfl⟩
theorem kw_is_table_0_thing_scheme {f : Addr} {fd : FuncData} (F : Fun K "is_table" "is_table" s_is_table f fd) : KW fd ["scheme", "thing"] 0 ["thing", "scheme"] [1, 0] := by
  obtain ⟨oc, od, kV, doc, pm, an, cdv, ct, osl, rfl, lk, hcd⟩ := F.ex
  exact ⟨fun us ws h1 h2 => match us, ws, h1, h2 with | [], [_, _], _, _ => rfl⟩
theorem all_mk {l : PySem.W.OpenLaw} {h : Heap} {fa : Addr} (X : K.In h) (G : h.Ns mainGlobals mg) (hfa : mg "law" = some (.ref fa)) {C_Scheme : Addr} {f__law_draw : Addr} {oc__law_draw : Value} {od__law_draw : Option Addr} {kV__law_draw dc__law_draw pm__law_draw cd__law_draw ct__law_draw : Value} {an__law_draw : Option Addr} {sl__law_draw : Array (Option Value)} {f__law_deck : Addr} {oc__law_deck : Value} {od__law_deck : Option Addr} {kV__law_deck dc__law_deck pm__law_deck cd__law_deck ct__law_deck : Value} {an__law_deck : Option Addr} {sl__law_deck : Array (Option Value)} {f__law_pick : Addr} {oc__law_pick : Value} {od__law_pick : Option Addr} {kV__law_pick dc__law_pick pm__law_pick cd__law_pick ct__law_pick : Value} {an__law_pick : Option Addr} {sl__law_pick : Array (Option Value)} {f__law_plan : Addr} {oc__law_plan : Value} {od__law_plan : Option Addr} {kV__law_plan dc__law_plan pm__law_plan cd__law_plan ct__law_plan : Value} {an__law_plan : Option Addr} {sl__law_plan : Array (Option Value)} {f__law_lines : Addr} {oc__law_lines : Value} {od__law_lines : Option Addr} {kV__law_lines dc__law_lines pm__law_lines cd__law_lines ct__law_lines : Value} {an__law_lines : Option Addr} {sl__law_lines : Array (Option Value)} {f__law_bad : Addr} {oc__law_bad : Value} {od__law_bad : Option Addr} {kV__law_bad dc__law_bad pm__law_bad cd__law_bad ct__law_bad : Value} {an__law_bad : Option Addr} {sl__law_bad : Array (Option Value)} {f__law_kept : Addr} {oc__law_kept : Value} {od__law_kept : Option Addr} {kV__law_kept dc__law_kept pm__law_kept cd__law_kept ct__law_kept : Value} {an__law_kept : Option Addr} {sl__law_kept : Array (Option Value)} {f__law_bent : Addr} {oc__law_bent : Value} {od__law_bent : Option Addr} {kV__law_bent dc__law_bent pm__law_bent cd__law_bent ct__law_bent : Value} {an__law_bent : Option Addr} {sl__law_bent : Array (Option Value)} {f__law_is_whole : Addr} {oc__law_is_whole : Value} {od__law_is_whole : Option Addr} {kV__law_is_whole dc__law_is_whole pm__law_is_whole cd__law_is_whole ct__law_is_whole : Value} {an__law_is_whole : Option Addr} {sl__law_is_whole : Array (Option Value)} {f__law_are_rows : Addr} {oc__law_are_rows : Value} {od__law_are_rows : Option Addr} {kV__law_are_rows dc__law_are_rows pm__law_are_rows cd__law_are_rows ct__law_are_rows : Value} {an__law_are_rows : Option Addr} {sl__law_are_rows : Array (Option Value)} {f_is_integer : Addr} {oc_is_integer : Value} {od_is_integer : Option Addr} {kV_is_integer dc_is_integer pm_is_integer cd_is_integer ct_is_integer : Value} {an_is_integer : Option Addr} {sl_is_integer : Array (Option Value)} {f_is_row : Addr} {oc_is_row : Value} {od_is_row : Option Addr} {kV_is_row dc_is_row pm_is_row cd_is_row ct_is_row : Value} {an_is_row : Option Addr} {sl_is_row : Array (Option Value)} {f_is_rows : Addr} {oc_is_rows : Value} {od_is_rows : Option Addr} {kV_is_rows dc_is_rows pm_is_rows cd_is_rows ct_is_rows : Value} {an_is_rows : Option Addr} {sl_is_rows : Array (Option Value)} {f_is_columns : Addr} {oc_is_columns : Value} {od_is_columns : Option Addr} {kV_is_columns dc_is_columns pm_is_columns cd_is_columns ct_is_columns : Value} {an_is_columns : Option Addr} {sl_is_columns : Array (Option Value)} {f_are_within : Addr} {oc_are_within : Value} {od_are_within : Option Addr} {kV_are_within dc_are_within pm_are_within cd_are_within ct_are_within : Value} {an_are_within : Option Addr} {sl_are_within : Array (Option Value)} {f_is_rule : Addr} {oc_is_rule : Value} {od_is_rule : Option Addr} {kV_is_rule dc_is_rule pm_is_rule cd_is_rule ct_is_rule : Value} {an_is_rule : Option Addr} {sl_is_rule : Array (Option Value)} {f_Scheme___init__ : Addr} {oc_Scheme___init__ : Value} {od_Scheme___init__ : Option Addr} {kV_Scheme___init__ dc_Scheme___init__ pm_Scheme___init__ cd_Scheme___init__ ct_Scheme___init__ : Value} {an_Scheme___init__ : Option Addr} {sl_Scheme___init__ : Array (Option Value)} {f__law_code : Addr} {oc__law_code : Value} {od__law_code : Option Addr} {kV__law_code dc__law_code pm__law_code cd__law_code ct__law_code : Value} {an__law_code : Option Addr} {sl__law_code : Array (Option Value)} {f_pairs_of : Addr} {oc_pairs_of : Value} {od_pairs_of : Option Addr} {kV_pairs_of dc_pairs_of pm_pairs_of cd_pairs_of ct_pairs_of : Value} {an_pairs_of : Option Addr} {sl_pairs_of : Array (Option Value)} {f_row_at : Addr} {oc_row_at : Value} {od_row_at : Option Addr} {kV_row_at dc_row_at pm_row_at cd_row_at ct_row_at : Value} {an_row_at : Option Addr} {sl_row_at : Array (Option Value)} {f_does_break : Addr} {oc_does_break : Value} {od_does_break : Option Addr} {kV_does_break dc_does_break pm_does_break cd_does_break ct_does_break : Value} {an_does_break : Option Addr} {sl_does_break : Array (Option Value)} {f_broken : Addr} {oc_broken : Value} {od_broken : Option Addr} {kV_broken dc_broken pm_broken cd_broken ct_broken : Value} {an_broken : Option Addr} {sl_broken : Array (Option Value)} {f_is_table : Addr} {oc_is_table : Value} {od_is_table : Option Addr} {kV_is_table dc_is_table pm_is_table cd_is_table ct_is_table : Value} {an_is_table : Option Addr} {sl_is_table : Array (Option Value)} {f__law_right : Addr} {oc__law_right : Value} {od__law_right : Option Addr} {kV__law_right dc__law_right pm__law_right cd__law_right ct__law_right : Value} {an__law_right : Option Addr} {sl__law_right : Array (Option Value)} {f_law : Addr} {oc_law : Value} {od_law : Option Addr} {kV_law dc_law pm_law cd_law ct_law : Value} {an_law : Option Addr} {sl_law : Array (Option Value)} {tg_LETTERS : Tok} {tg_RULE_PARTS : Tok}
  (aC_Scheme : PySem.W.nsIn K mainGlobals "Scheme" = some (some (.ref C_Scheme)))
  (a__law_draw : PySem.W.nsIn K mainGlobals "_law_draw" = some (some (.ref f__law_draw)))
  (l__law_draw : K.lookup f__law_draw = some ⟨oc__law_draw, od__law_draw, .func (PySem.W.fnOf "_law_draw" "_law_draw" (defArgs s__law_draw) (defBody s__law_draw) (defScope s__law_draw) .none kV__law_draw dc__law_draw pm__law_draw an__law_draw cd__law_draw ct__law_draw), sl__law_draw⟩)
  (q__law_draw : PySem.W.codeIn K cd__law_draw "_law_draw" = true)
  (k__law_draw : PySem.W.keepIn K (.ref f__law_draw) = true)
  (a__law_deck : PySem.W.nsIn K mainGlobals "_law_deck" = some (some (.ref f__law_deck)))
  (l__law_deck : K.lookup f__law_deck = some ⟨oc__law_deck, od__law_deck, .func (PySem.W.fnOf "_law_deck" "_law_deck" (defArgs s__law_deck) (defBody s__law_deck) (defScope s__law_deck) .none kV__law_deck dc__law_deck pm__law_deck an__law_deck cd__law_deck ct__law_deck), sl__law_deck⟩)
  (q__law_deck : PySem.W.codeIn K cd__law_deck "_law_deck" = true)
  (k__law_deck : PySem.W.keepIn K (.ref f__law_deck) = true)
  (a__law_pick : PySem.W.nsIn K mainGlobals "_law_pick" = some (some (.ref f__law_pick)))
  (l__law_pick : K.lookup f__law_pick = some ⟨oc__law_pick, od__law_pick, .func (PySem.W.fnOf "_law_pick" "_law_pick" (defArgs s__law_pick) (defBody s__law_pick) (defScope s__law_pick) .none kV__law_pick dc__law_pick pm__law_pick an__law_pick cd__law_pick ct__law_pick), sl__law_pick⟩)
  (q__law_pick : PySem.W.codeIn K cd__law_pick "_law_pick" = true)
  (k__law_pick : PySem.W.keepIn K (.ref f__law_pick) = true)
  (a__law_plan : PySem.W.nsIn K mainGlobals "_law_plan" = some (some (.ref f__law_plan)))
  (l__law_plan : K.lookup f__law_plan = some ⟨oc__law_plan, od__law_plan, .func (PySem.W.fnOf "_law_plan" "_law_plan" (defArgs s__law_plan) (defBody s__law_plan) (defScope s__law_plan) .none kV__law_plan dc__law_plan pm__law_plan an__law_plan cd__law_plan ct__law_plan), sl__law_plan⟩)
  (q__law_plan : PySem.W.codeIn K cd__law_plan "_law_plan" = true)
  (k__law_plan : PySem.W.keepIn K (.ref f__law_plan) = true)
  (a__law_lines : PySem.W.nsIn K mainGlobals "_law_lines" = some (some (.ref f__law_lines)))
  (l__law_lines : K.lookup f__law_lines = some ⟨oc__law_lines, od__law_lines, .func (PySem.W.fnOf "_law_lines" "_law_lines" (defArgs s__law_lines) (defBody s__law_lines) (defScope s__law_lines) .none kV__law_lines dc__law_lines pm__law_lines an__law_lines cd__law_lines ct__law_lines), sl__law_lines⟩)
  (q__law_lines : PySem.W.codeIn K cd__law_lines "_law_lines" = true)
  (k__law_lines : PySem.W.keepIn K (.ref f__law_lines) = true)
  (a__law_bad : PySem.W.nsIn K mainGlobals "_law_bad" = some (some (.ref f__law_bad)))
  (l__law_bad : K.lookup f__law_bad = some ⟨oc__law_bad, od__law_bad, .func (PySem.W.fnOf "_law_bad" "_law_bad" (defArgs s__law_bad) (defBody s__law_bad) (defScope s__law_bad) .none kV__law_bad dc__law_bad pm__law_bad an__law_bad cd__law_bad ct__law_bad), sl__law_bad⟩)
  (q__law_bad : PySem.W.codeIn K cd__law_bad "_law_bad" = true)
  (k__law_bad : PySem.W.keepIn K (.ref f__law_bad) = true)
  (a__law_kept : PySem.W.nsIn K mainGlobals "_law_kept" = some (some (.ref f__law_kept)))
  (l__law_kept : K.lookup f__law_kept = some ⟨oc__law_kept, od__law_kept, .func (PySem.W.fnOf "_law_kept" "_law_kept" (defArgs s__law_kept) (defBody s__law_kept) (defScope s__law_kept) .none kV__law_kept dc__law_kept pm__law_kept an__law_kept cd__law_kept ct__law_kept), sl__law_kept⟩)
  (q__law_kept : PySem.W.codeIn K cd__law_kept "_law_kept" = true)
  (k__law_kept : PySem.W.keepIn K (.ref f__law_kept) = true)
  (a__law_bent : PySem.W.nsIn K mainGlobals "_law_bent" = some (some (.ref f__law_bent)))
  (l__law_bent : K.lookup f__law_bent = some ⟨oc__law_bent, od__law_bent, .func (PySem.W.fnOf "_law_bent" "_law_bent" (defArgs s__law_bent) (defBody s__law_bent) (defScope s__law_bent) .none kV__law_bent dc__law_bent pm__law_bent an__law_bent cd__law_bent ct__law_bent), sl__law_bent⟩)
  (q__law_bent : PySem.W.codeIn K cd__law_bent "_law_bent" = true)
  (k__law_bent : PySem.W.keepIn K (.ref f__law_bent) = true)
  (a__law_is_whole : PySem.W.nsIn K mainGlobals "_law_is_whole" = some (some (.ref f__law_is_whole)))
  (l__law_is_whole : K.lookup f__law_is_whole = some ⟨oc__law_is_whole, od__law_is_whole, .func (PySem.W.fnOf "_law_is_whole" "_law_is_whole" (defArgs s__law_is_whole) (defBody s__law_is_whole) (defScope s__law_is_whole) .none kV__law_is_whole dc__law_is_whole pm__law_is_whole an__law_is_whole cd__law_is_whole ct__law_is_whole), sl__law_is_whole⟩)
  (q__law_is_whole : PySem.W.codeIn K cd__law_is_whole "_law_is_whole" = true)
  (k__law_is_whole : PySem.W.keepIn K (.ref f__law_is_whole) = true)
  (a__law_are_rows : PySem.W.nsIn K mainGlobals "_law_are_rows" = some (some (.ref f__law_are_rows)))
  (l__law_are_rows : K.lookup f__law_are_rows = some ⟨oc__law_are_rows, od__law_are_rows, .func (PySem.W.fnOf "_law_are_rows" "_law_are_rows" (defArgs s__law_are_rows) (defBody s__law_are_rows) (defScope s__law_are_rows) .none kV__law_are_rows dc__law_are_rows pm__law_are_rows an__law_are_rows cd__law_are_rows ct__law_are_rows), sl__law_are_rows⟩)
  (q__law_are_rows : PySem.W.codeIn K cd__law_are_rows "_law_are_rows" = true)
  (k__law_are_rows : PySem.W.keepIn K (.ref f__law_are_rows) = true)
  (a_is_integer : PySem.W.nsIn K mainGlobals "is_integer" = some (some (.ref f_is_integer)))
  (l_is_integer : K.lookup f_is_integer = some ⟨oc_is_integer, od_is_integer, .func (PySem.W.fnOf "is_integer" "is_integer" (defArgs s_is_integer) (defBody s_is_integer) (defScope s_is_integer) .none kV_is_integer dc_is_integer pm_is_integer an_is_integer cd_is_integer ct_is_integer), sl_is_integer⟩)
  (q_is_integer : PySem.W.codeIn K cd_is_integer "is_integer" = true)
  (k_is_integer : PySem.W.keepIn K (.ref f_is_integer) = true)
  (a_is_row : PySem.W.nsIn K mainGlobals "is_row" = some (some (.ref f_is_row)))
  (l_is_row : K.lookup f_is_row = some ⟨oc_is_row, od_is_row, .func (PySem.W.fnOf "is_row" "is_row" (defArgs s_is_row) (defBody s_is_row) (defScope s_is_row) .none kV_is_row dc_is_row pm_is_row an_is_row cd_is_row ct_is_row), sl_is_row⟩)
  (q_is_row : PySem.W.codeIn K cd_is_row "is_row" = true)
  (k_is_row : PySem.W.keepIn K (.ref f_is_row) = true)
  (a_is_rows : PySem.W.nsIn K mainGlobals "is_rows" = some (some (.ref f_is_rows)))
  (l_is_rows : K.lookup f_is_rows = some ⟨oc_is_rows, od_is_rows, .func (PySem.W.fnOf "is_rows" "is_rows" (defArgs s_is_rows) (defBody s_is_rows) (defScope s_is_rows) .none kV_is_rows dc_is_rows pm_is_rows an_is_rows cd_is_rows ct_is_rows), sl_is_rows⟩)
  (q_is_rows : PySem.W.codeIn K cd_is_rows "is_rows" = true)
  (k_is_rows : PySem.W.keepIn K (.ref f_is_rows) = true)
  (a_is_columns : PySem.W.nsIn K mainGlobals "is_columns" = some (some (.ref f_is_columns)))
  (l_is_columns : K.lookup f_is_columns = some ⟨oc_is_columns, od_is_columns, .func (PySem.W.fnOf "is_columns" "is_columns" (defArgs s_is_columns) (defBody s_is_columns) (defScope s_is_columns) .none kV_is_columns dc_is_columns pm_is_columns an_is_columns cd_is_columns ct_is_columns), sl_is_columns⟩)
  (q_is_columns : PySem.W.codeIn K cd_is_columns "is_columns" = true)
  (k_is_columns : PySem.W.keepIn K (.ref f_is_columns) = true)
  (a_are_within : PySem.W.nsIn K mainGlobals "are_within" = some (some (.ref f_are_within)))
  (l_are_within : K.lookup f_are_within = some ⟨oc_are_within, od_are_within, .func (PySem.W.fnOf "are_within" "are_within" (defArgs s_are_within) (defBody s_are_within) (defScope s_are_within) .none kV_are_within dc_are_within pm_are_within an_are_within cd_are_within ct_are_within), sl_are_within⟩)
  (q_are_within : PySem.W.codeIn K cd_are_within "are_within" = true)
  (k_are_within : PySem.W.keepIn K (.ref f_are_within) = true)
  (a_is_rule : PySem.W.nsIn K mainGlobals "is_rule" = some (some (.ref f_is_rule)))
  (l_is_rule : K.lookup f_is_rule = some ⟨oc_is_rule, od_is_rule, .func (PySem.W.fnOf "is_rule" "is_rule" (defArgs s_is_rule) (defBody s_is_rule) (defScope s_is_rule) .none kV_is_rule dc_is_rule pm_is_rule an_is_rule cd_is_rule ct_is_rule), sl_is_rule⟩)
  (q_is_rule : PySem.W.codeIn K cd_is_rule "is_rule" = true)
  (k_is_rule : PySem.W.keepIn K (.ref f_is_rule) = true)
  (a_Scheme___init__ : PySem.W.findIn K (.ref C_Scheme) "__init__" = some (some (.ref f_Scheme___init__)))
  (i_Scheme___init__ : PySem.W.isFn K (.ref f_Scheme___init__) = true)
  (l_Scheme___init__ : K.lookup f_Scheme___init__ = some ⟨oc_Scheme___init__, od_Scheme___init__, .func (PySem.W.fnOf "__init__" "Scheme.__init__" (defArgs s_Scheme___init__) (defBody s_Scheme___init__) (defScope s_Scheme___init__) .none kV_Scheme___init__ dc_Scheme___init__ pm_Scheme___init__ an_Scheme___init__ cd_Scheme___init__ ct_Scheme___init__), sl_Scheme___init__⟩)
  (q_Scheme___init__ : PySem.W.codeIn K cd_Scheme___init__ "Scheme.__init__" = true)
  (k_Scheme___init__ : PySem.W.keepIn K (.ref f_Scheme___init__) = true)
  (a__law_code : PySem.W.nsIn K mainGlobals "_law_code" = some (some (.ref f__law_code)))
  (l__law_code : K.lookup f__law_code = some ⟨oc__law_code, od__law_code, .func (PySem.W.fnOf "_law_code" "_law_code" (defArgs s__law_code) (defBody s__law_code) (defScope s__law_code) .none kV__law_code dc__law_code pm__law_code an__law_code cd__law_code ct__law_code), sl__law_code⟩)
  (q__law_code : PySem.W.codeIn K cd__law_code "_law_code" = true)
  (k__law_code : PySem.W.keepIn K (.ref f__law_code) = true)
  (a_pairs_of : PySem.W.nsIn K mainGlobals "pairs_of" = some (some (.ref f_pairs_of)))
  (l_pairs_of : K.lookup f_pairs_of = some ⟨oc_pairs_of, od_pairs_of, .func (PySem.W.fnOf "pairs_of" "pairs_of" (defArgs s_pairs_of) (defBody s_pairs_of) (defScope s_pairs_of) .none kV_pairs_of dc_pairs_of pm_pairs_of an_pairs_of cd_pairs_of ct_pairs_of), sl_pairs_of⟩)
  (q_pairs_of : PySem.W.codeIn K cd_pairs_of "pairs_of" = true)
  (k_pairs_of : PySem.W.keepIn K (.ref f_pairs_of) = true)
  (a_row_at : PySem.W.nsIn K mainGlobals "row_at" = some (some (.ref f_row_at)))
  (l_row_at : K.lookup f_row_at = some ⟨oc_row_at, od_row_at, .func (PySem.W.fnOf "row_at" "row_at" (defArgs s_row_at) (defBody s_row_at) (defScope s_row_at) .none kV_row_at dc_row_at pm_row_at an_row_at cd_row_at ct_row_at), sl_row_at⟩)
  (q_row_at : PySem.W.codeIn K cd_row_at "row_at" = true)
  (k_row_at : PySem.W.keepIn K (.ref f_row_at) = true)
  (a_does_break : PySem.W.nsIn K mainGlobals "does_break" = some (some (.ref f_does_break)))
  (l_does_break : K.lookup f_does_break = some ⟨oc_does_break, od_does_break, .func (PySem.W.fnOf "does_break" "does_break" (defArgs s_does_break) (defBody s_does_break) (defScope s_does_break) .none kV_does_break dc_does_break pm_does_break an_does_break cd_does_break ct_does_break), sl_does_break⟩)
  (q_does_break : PySem.W.codeIn K cd_does_break "does_break" = true)
  (k_does_break : PySem.W.keepIn K (.ref f_does_break) = true)
  (a_broken : PySem.W.nsIn K mainGlobals "broken" = some (some (.ref f_broken)))
  (l_broken : K.lookup f_broken = some ⟨oc_broken, od_broken, .func (PySem.W.fnOf "broken" "broken" (defArgs s_broken) (defBody s_broken) (defScope s_broken) .none kV_broken dc_broken pm_broken an_broken cd_broken ct_broken), sl_broken⟩)
  (q_broken : PySem.W.codeIn K cd_broken "broken" = true)
  (k_broken : PySem.W.keepIn K (.ref f_broken) = true)
  (a_is_table : PySem.W.nsIn K mainGlobals "is_table" = some (some (.ref f_is_table)))
  (l_is_table : K.lookup f_is_table = some ⟨oc_is_table, od_is_table, .func (PySem.W.fnOf "is_table" "is_table" (defArgs s_is_table) (defBody s_is_table) (defScope s_is_table) .none kV_is_table dc_is_table pm_is_table an_is_table cd_is_table ct_is_table), sl_is_table⟩)
  (q_is_table : PySem.W.codeIn K cd_is_table "is_table" = true)
  (k_is_table : PySem.W.keepIn K (.ref f_is_table) = true)
  (a__law_right : PySem.W.nsIn K mainGlobals "_law_right" = some (some (.ref f__law_right)))
  (l__law_right : K.lookup f__law_right = some ⟨oc__law_right, od__law_right, .func (PySem.W.fnOf "_law_right" "_law_right" (defArgs s__law_right) (defBody s__law_right) (defScope s__law_right) .none kV__law_right dc__law_right pm__law_right an__law_right cd__law_right ct__law_right), sl__law_right⟩)
  (q__law_right : PySem.W.codeIn K cd__law_right "_law_right" = true)
  (k__law_right : PySem.W.keepIn K (.ref f__law_right) = true)
  (a_law : PySem.W.nsIn K mainGlobals "law" = some (some (.ref f_law)))
  (l_law : K.lookup f_law = some ⟨oc_law, od_law, .func (PySem.W.fnOf "law" "law" (defArgs s_law) (defBody s_law) (defScope s_law) .none kV_law dc_law pm_law an_law cd_law ct_law), sl_law⟩)
  (q_law : PySem.W.codeIn K cd_law "law" = true)
  (k_law : PySem.W.keepIn K (.ref f_law) = true)
  (z_int : PySem.W.nsIn K mainGlobals "int" = some none)
  (z_range : PySem.W.nsIn K mainGlobals "range" = some none)
  (z_list : PySem.W.nsIn K mainGlobals "list" = some none)
  (z_len : PySem.W.nsIn K mainGlobals "len" = some none)
  (z_sorted : PySem.W.nsIn K mainGlobals "sorted" = some none)
  (z_tuple : PySem.W.nsIn K mainGlobals "tuple" = some none)
  (z_set : PySem.W.nsIn K mainGlobals "set" = some none)
  (z_enumerate : PySem.W.nsIn K mainGlobals "enumerate" = some none)
  (z_isinstance : PySem.W.nsIn K mainGlobals "isinstance" = some none)
  (z_bool : PySem.W.nsIn K mainGlobals "bool" = some none)
  (z_str : PySem.W.nsIn K mainGlobals "str" = some none)
  (z_repr : PySem.W.nsIn K mainGlobals "repr" = some none)
  (z_all : PySem.W.nsIn K mainGlobals "all" = some none)
  (z_zip : PySem.W.nsIn K mainGlobals "zip" = some none)
  (g_LETTERS : PySem.W.nsIn K mainGlobals "LETTERS" = some (some (.str "abcdefghijklmnopqrstuvwxyz" tg_LETTERS)))
  (g_RULE_PARTS : PySem.W.nsIn K mainGlobals "RULE_PARTS" = some (some (.int 2 tg_RULE_PARTS)))
  (pg_Scheme : PySem.W.plainGet K C_Scheme Str.empty = true)
  (hd_Scheme : PySem.W.hasDictIn K C_Scheme = true)
  (po_Scheme : PySem.W.plainOver K C_Scheme = true)
  (sa_Scheme : PySem.W.findIn K (.ref C_Scheme) "__setattr__" = some (some (.builtin "object.__setattr__")))
  (n_Scheme_columns : PySem.W.findIn K (.ref C_Scheme) "columns" = some none)
  (n_Scheme_rules : PySem.W.findIn K (.ref C_Scheme) "rules" = some none)
  (mk_Scheme : PySem.W.makesIn K C_Scheme = true)
  (kc_Scheme : PySem.W.keepIn K (.ref C_Scheme) = true)
  (hm : ∀ (c : CA) (p q : Addr) (l : List Int) (b : Int), l.length ≤ 63 → ∃ E, b_law c (.no :: .deck p q l b :: nos 11) = .ok (.rt (.bl true), E)) :
  ∃ fd : FuncData, (∀ (s : Shared) (v : Value), BindsTo s fd ⟨[v], []⟩ [("_law_script", v)]) ∧ ∀ base : Heap, K.In base → base.Ns mainGlobals mg → FnG l.prog w K mg base CX0 12 fa fd ["_law_script"] (spLaw K) := by
  have e := (PySem.W.mg_of X G a_law).symm.trans hfa
  have e2 : f_law = fa := Value.ref.inj (Option.some.inj e)
  subst e2
  let R : PR K mg := {
    c := ⟨C_Scheme⟩,
    f__law_draw := f__law_draw,
    fd__law_draw := _,
    F__law_draw := fun_mk (st := s__law_draw) l__law_draw q__law_draw k__law_draw,
    b__law_draw := (fun_mk (st := s__law_draw) l__law_draw q__law_draw k__law_draw).binds (ps := ["_law_deck_here", "_law_many"]) fun _ _ _ _ _ _ us hl => match us, hl with | [_, _], _ => rfl,
    g__law_draw := PySem.W.mg_of X G a__law_draw,
    f__law_deck := f__law_deck,
    fd__law_deck := _,
    F__law_deck := fun_mk (st := s__law_deck) l__law_deck q__law_deck k__law_deck,
    b__law_deck := (fun_mk (st := s__law_deck) l__law_deck q__law_deck k__law_deck).binds (ps := ["_law_script"]) fun _ _ _ _ _ _ us hl => match us, hl with | [_], _ => rfl,
    g__law_deck := PySem.W.mg_of X G a__law_deck,
    f__law_pick := f__law_pick,
    fd__law_pick := _,
    F__law_pick := fun_mk (st := s__law_pick) l__law_pick q__law_pick k__law_pick,
    b__law_pick := (fun_mk (st := s__law_pick) l__law_pick q__law_pick k__law_pick).binds (ps := ["_law_deck_here", "_law_some"]) fun _ _ _ _ _ _ us hl => match us, hl with | [_, _], _ => rfl,
    g__law_pick := PySem.W.mg_of X G a__law_pick,
    f__law_plan := f__law_plan,
    fd__law_plan := _,
    F__law_plan := fun_mk (st := s__law_plan) l__law_plan q__law_plan k__law_plan,
    b__law_plan := (fun_mk (st := s__law_plan) l__law_plan q__law_plan k__law_plan).binds (ps := ["_law_deck_here", "_law_wide", "_law_many"]) fun _ _ _ _ _ _ us hl => match us, hl with | [_, _, _], _ => rfl,
    g__law_plan := PySem.W.mg_of X G a__law_plan,
    f__law_lines := f__law_lines,
    fd__law_lines := _,
    F__law_lines := fun_mk (st := s__law_lines) l__law_lines q__law_lines k__law_lines,
    b__law_lines := (fun_mk (st := s__law_lines) l__law_lines q__law_lines k__law_lines).binds (ps := ["_law_deck_here", "_law_wide", "_law_many", "_law_top"]) fun _ _ _ _ _ _ us hl => match us, hl with | [_, _, _, _], _ => rfl,
    g__law_lines := PySem.W.mg_of X G a__law_lines,
    f__law_bad := f__law_bad,
    fd__law_bad := _,
    F__law_bad := fun_mk (st := s__law_bad) l__law_bad q__law_bad k__law_bad,
    b__law_bad := (fun_mk (st := s__law_bad) l__law_bad q__law_bad k__law_bad).binds (ps := ["_law_w", "_law_lines_here"]) fun _ _ _ _ _ _ us hl => match us, hl with | [_, _], _ => rfl,
    g__law_bad := PySem.W.mg_of X G a__law_bad,
    f__law_kept := f__law_kept,
    fd__law_kept := _,
    F__law_kept := fun_mk (st := s__law_kept) l__law_kept q__law_kept k__law_kept,
    b__law_kept := (fun_mk (st := s__law_kept) l__law_kept q__law_kept k__law_kept).binds (ps := ["_law_w", "_law_lines_here"]) fun _ _ _ _ _ _ us hl => match us, hl with | [_, _], _ => rfl,
    g__law_kept := PySem.W.mg_of X G a__law_kept,
    f__law_bent := f__law_bent,
    fd__law_bent := _,
    F__law_bent := fun_mk (st := s__law_bent) l__law_bent q__law_bent k__law_bent,
    b__law_bent := (fun_mk (st := s__law_bent) l__law_bent q__law_bent k__law_bent).binds (ps := ["_law_deck_here", "_law_it"]) fun _ _ _ _ _ _ us hl => match us, hl with | [_, _], _ => rfl,
    g__law_bent := PySem.W.mg_of X G a__law_bent,
    f__law_is_whole := f__law_is_whole,
    fd__law_is_whole := _,
    F__law_is_whole := fun_mk (st := s__law_is_whole) l__law_is_whole q__law_is_whole k__law_is_whole,
    b__law_is_whole := (fun_mk (st := s__law_is_whole) l__law_is_whole q__law_is_whole k__law_is_whole).binds (ps := ["_law_it"]) fun _ _ _ _ _ _ us hl => match us, hl with | [_], _ => rfl,
    g__law_is_whole := PySem.W.mg_of X G a__law_is_whole,
    f__law_are_rows := f__law_are_rows,
    fd__law_are_rows := _,
    F__law_are_rows := fun_mk (st := s__law_are_rows) l__law_are_rows q__law_are_rows k__law_are_rows,
    b__law_are_rows := (fun_mk (st := s__law_are_rows) l__law_are_rows q__law_are_rows k__law_are_rows).binds (ps := ["_law_wide", "_law_it"]) fun _ _ _ _ _ _ us hl => match us, hl with | [_, _], _ => rfl,
    g__law_are_rows := PySem.W.mg_of X G a__law_are_rows,
    f_is_integer := f_is_integer,
    fd_is_integer := _,
    F_is_integer := fun_mk (st := s_is_integer) l_is_integer q_is_integer k_is_integer,
    b_is_integer := (fun_mk (st := s_is_integer) l_is_integer q_is_integer k_is_integer).binds (ps := ["thing"]) fun _ _ _ _ _ _ us hl => match us, hl with | [_], _ => rfl,
    g_is_integer := PySem.W.mg_of X G a_is_integer,
    f_is_row := f_is_row,
    fd_is_row := _,
    F_is_row := fun_mk (st := s_is_row) l_is_row q_is_row k_is_row,
    b_is_row := (fun_mk (st := s_is_row) l_is_row q_is_row k_is_row).binds (ps := ["columns", "thing"]) fun _ _ _ _ _ _ us hl => match us, hl with | [_, _], _ => rfl,
    g_is_row := PySem.W.mg_of X G a_is_row,
    f_is_rows := f_is_rows,
    fd_is_rows := _,
    F_is_rows := fun_mk (st := s_is_rows) l_is_rows q_is_rows k_is_rows,
    b_is_rows := (fun_mk (st := s_is_rows) l_is_rows q_is_rows k_is_rows).binds (ps := ["columns", "thing"]) fun _ _ _ _ _ _ us hl => match us, hl with | [_, _], _ => rfl,
    g_is_rows := PySem.W.mg_of X G a_is_rows,
    f_is_columns := f_is_columns,
    fd_is_columns := _,
    F_is_columns := fun_mk (st := s_is_columns) l_is_columns q_is_columns k_is_columns,
    b_is_columns := (fun_mk (st := s_is_columns) l_is_columns q_is_columns k_is_columns).binds (ps := ["thing"]) fun _ _ _ _ _ _ us hl => match us, hl with | [_], _ => rfl,
    g_is_columns := PySem.W.mg_of X G a_is_columns,
    f_are_within := f_are_within,
    fd_are_within := _,
    F_are_within := fun_mk (st := s_are_within) l_are_within q_are_within k_are_within,
    b_are_within := (fun_mk (st := s_are_within) l_are_within q_are_within k_are_within).binds (ps := ["thing", "columns"]) fun _ _ _ _ _ _ us hl => match us, hl with | [_, _], _ => rfl,
    g_are_within := PySem.W.mg_of X G a_are_within,
    f_is_rule := f_is_rule,
    fd_is_rule := _,
    F_is_rule := fun_mk (st := s_is_rule) l_is_rule q_is_rule k_is_rule,
    b_is_rule := (fun_mk (st := s_is_rule) l_is_rule q_is_rule k_is_rule).binds (ps := ["columns", "thing"]) fun _ _ _ _ _ _ us hl => match us, hl with | [_, _], _ => rfl,
    g_is_rule := PySem.W.mg_of X G a_is_rule,
    f_Scheme___init__ := f_Scheme___init__,
    fd_Scheme___init__ := _,
    F_Scheme___init__ := fun_mk (st := s_Scheme___init__) l_Scheme___init__ q_Scheme___init__ k_Scheme___init__,
    b_Scheme___init__ := (fun_mk (st := s_Scheme___init__) l_Scheme___init__ q_Scheme___init__ k_Scheme___init__).binds (ps := ["self", "columns", "rules"]) fun _ _ _ _ _ _ us hl => match us, hl with | [_, _, _], _ => rfl,
    f__law_code := f__law_code,
    fd__law_code := _,
    F__law_code := fun_mk (st := s__law_code) l__law_code q__law_code k__law_code,
    b__law_code := (fun_mk (st := s__law_code) l__law_code q__law_code k__law_code).binds (ps := ["_law_w"]) fun _ _ _ _ _ _ us hl => match us, hl with | [_], _ => rfl,
    g__law_code := PySem.W.mg_of X G a__law_code,
    f_pairs_of := f_pairs_of,
    fd_pairs_of := _,
    F_pairs_of := fun_mk (st := s_pairs_of) l_pairs_of q_pairs_of k_pairs_of,
    b_pairs_of := (fun_mk (st := s_pairs_of) l_pairs_of q_pairs_of k_pairs_of).binds (ps := ["rows"]) fun _ _ _ _ _ _ us hl => match us, hl with | [_], _ => rfl,
    g_pairs_of := PySem.W.mg_of X G a_pairs_of,
    f_row_at := f_row_at,
    fd_row_at := _,
    F_row_at := fun_mk (st := s_row_at) l_row_at q_row_at k_row_at,
    b_row_at := (fun_mk (st := s_row_at) l_row_at q_row_at k_row_at).binds (ps := ["columns", "row", "some"]) fun _ _ _ _ _ _ us hl => match us, hl with | [_, _, _], _ => rfl,
    g_row_at := PySem.W.mg_of X G a_row_at,
    f_does_break := f_does_break,
    fd_does_break := _,
    F_does_break := fun_mk (st := s_does_break) l_does_break q_does_break k_does_break,
    b_does_break := (fun_mk (st := s_does_break) l_does_break q_does_break k_does_break).binds (ps := ["scheme", "rule", "one", "other"]) fun _ _ _ _ _ _ us hl => match us, hl with | [_, _, _, _], _ => rfl,
    g_does_break := PySem.W.mg_of X G a_does_break,
    f_broken := f_broken,
    fd_broken := _,
    F_broken := fun_mk (st := s_broken) l_broken q_broken k_broken,
    b_broken := (fun_mk (st := s_broken) l_broken q_broken k_broken).binds (ps := ["scheme", "rows"]) fun _ _ _ _ _ _ us hl => match us, hl with | [_, _], _ => rfl,
    g_broken := PySem.W.mg_of X G a_broken,
    f_is_table := f_is_table,
    fd_is_table := _,
    F_is_table := fun_mk (st := s_is_table) l_is_table q_is_table k_is_table,
    b_is_table := (fun_mk (st := s_is_table) l_is_table q_is_table k_is_table).binds (ps := ["scheme", "thing"]) fun _ _ _ _ _ _ us hl => match us, hl with | [_, _], _ => rfl,
    g_is_table := PySem.W.mg_of X G a_is_table,
    f__law_right := f__law_right,
    fd__law_right := _,
    F__law_right := fun_mk (st := s__law_right) l__law_right q__law_right k__law_right,
    b__law_right := (fun_mk (st := s__law_right) l__law_right q__law_right k__law_right).binds (ps := ["_law_w", "_law_cols", "_law_it"]) fun _ _ _ _ _ _ us hl => match us, hl with | [_, _, _], _ => rfl,
    g__law_right := PySem.W.mg_of X G a__law_right,
    f_law := f_law,
    fd_law := _,
    F_law := fun_mk (st := s_law) l_law q_law k_law,
    b_law := (fun_mk (st := s_law) l_law q_law k_law).binds (ps := ["_law_script"]) fun _ _ _ _ _ _ us hl => match us, hl with | [_], _ => rfl,
    g_law := PySem.W.mg_of X G a_law,
    z_int := PySem.W.mg_none_of X G z_int,
    z_range := PySem.W.mg_none_of X G z_range,
    z_list := PySem.W.mg_none_of X G z_list,
    z_len := PySem.W.mg_none_of X G z_len,
    z_sorted := PySem.W.mg_none_of X G z_sorted,
    z_tuple := PySem.W.mg_none_of X G z_tuple,
    z_set := PySem.W.mg_none_of X G z_set,
    z_enumerate := PySem.W.mg_none_of X G z_enumerate,
    z_isinstance := PySem.W.mg_none_of X G z_isinstance,
    z_bool := PySem.W.mg_none_of X G z_bool,
    z_str := PySem.W.mg_none_of X G z_str,
    z_repr := PySem.W.mg_none_of X G z_repr,
    z_all := PySem.W.mg_none_of X G z_all,
    z_zip := PySem.W.mg_none_of X G z_zip,
    kw_is_rows_0_thing_columns := kw_is_rows_0_thing_columns (fun_mk (st := s_is_rows) l_is_rows q_is_rows k_is_rows),
    g_LETTERS := ⟨_, PySem.W.mg_of X G g_LETTERS⟩,
    g_RULE_PARTS := ⟨_, PySem.W.mg_of X G g_RULE_PARTS⟩,
    cl_Scheme := ⟨pg_Scheme, hd_Scheme, po_Scheme, sa_Scheme⟩,
    n_Scheme_columns := n_Scheme_columns,
    n_Scheme_rules := n_Scheme_rules,
    mk_Scheme := ⟨mk_Scheme, a_Scheme___init__, i_Scheme___init__, kc_Scheme⟩,
    c_Scheme := PySem.W.mg_of X G aC_Scheme,
    kw_is_table_0_thing_scheme := kw_is_table_0_thing_scheme (fun_mk (st := s_is_table) l_is_table q_is_table k_is_table) }
  refine ⟨R.fd_law, fun s u => (.of_eq ?_), fun base _ _ => ok_law R (hm R.c)⟩
  rfl
end
theorem m_row_at_ok (c : CA) {cols some : List Nat} {row : List Int} (hn : cols.Nodup) (hl : row.length = cols.length) (hs : ∀ x ∈ some, x ∈ cols) : m_row_at c [dS cols, dI row, dS some] = .ok (dI (rowAt cols row some)) := by
  unfold m_row_at
  apply runP_ok
  unfold b_row_at
  have ec : compL [3] (gN 3) tYes' (eOp gIx (eV 1) (eM1 gSIdx (eV 0) (eV 3))) [.dat (dS cols), .dat (dI row), .dat (dS some), .no] (some.map dC) [] [.dat (dS cols), .dat (dI row), .dat (dS some), .no] = .ok (.lst ((rowAt cols row some).map .int), [.dat (dS cols), .dat (dI row), .dat (dS some), .no]) := by
    rw [compL_all dC (fun x => [.dat (dS cols), .dat (dI row), .dat (dS some), .dat (dC x)]) (fun x => D.int (colV cols row x)) some ?h]
    · unfold rowAt
      rw [List.map_map]; rfl
    · intro x hx
      refine ⟨rfl, ?_, rfl⟩
      have h1 := sidx_dC hn (hs x hx)
      have h2 := gIx_dI_at hl (hs x hx)
      have hx2 : dS cols = .str (T cols) := rfl
      rw [hx2] at h1 ⊢
      simp [h1, h2]
  have ht : gTuple [.lst ((rowAt cols row some).map .int)] = Option.some (dI (rowAt cols row some)) := rfl
  simp [ec, -compL_res', ht]
theorem m_row_at_one (c : CA) {cols : List Nat} {row : List Int} {x : Nat} (hn : cols.Nodup) (hl : row.length = cols.length) (hx : x ∈ cols) : m_row_at c [dS cols, dI row, dC x] = .ok (dI [colV cols row x]) :=
  m_row_at_ok (some := [x]) c hn hl fun y hy => by rw [List.mem_singleton.mp hy]; exact hx
def dP (p : List Int × List Int) : D := .tup [dI p.1, dI p.2]
theorem m_pairs_of_ok (c : CA) (rows : List (List Int)) (hl : rows.length ≤ 900) : m_pairs_of c [.tup (rows.map dI)] = .ok (.lst ((pairsF rows).map dP)) := by
  unfold m_pairs_of
  apply runP_ok
  unfold b_pairs_of
  obtain ⟨E, hE⟩ : ∃ E : Env, E = [.dat (.tup (rows.map dI)), .no, .no, .no] := ⟨_, rfl⟩
  have ec : compL2 [1, 2, 3] [3] (gT (gCons' (gN 1) (gCons' (gN 2) gNil'))) tYes' (iSq (eSl gSl (eV 0) (oSo (eOp gAdd (eV 1) (eC (.int 1)))) oNo)) (gN 3) tYes' (eTup (aC (eV 2) (aC (eV 3) aN))) E (rows.zipIdx.map fun p => .tup [.int (p.2 : Nat), dI p.1]) [] E = .ok (.lst ((pairsF rows).map dP), E) := by
    rw [compL2_pure (fun p : List Int × Nat => D.tup [.int (p.2 : Nat), dI p.1]) (fun p => (rows.drop (p.2 + 1)).map fun b => dP (p.1, b)) 900 rows.zipIdx ?h1 ?h2 [] ?h3]
    · rw [List.nil_append, ← flat_pairs, List.map_flatMap]
      congr 3
      refine congrArg (fun h => List.flatMap h rows.zipIdx) (funext fun p => ?_)
      rw [List.map_map]; rfl
    · intro p hp
      rw [List.length_map, List.length_drop]; omega
    · intro p hp
      have hd : (rows.drop (p.2 + 1)).length ≤ 900 := by rw [List.length_drop]; omega
      have hsl := gSl_from (rows.map dI) (p.2 + 1)
      rw [← List.map_drop] at hsl
      have hsl : gSl (.tup (rows.map dI)) (some ((p.2 : Int) + 1)) none = _ := hsl
      have hi : compL [3] (gN 3) tYes' (eTup (aC (eV 2) (aC (eV 3) aN))) [.dat (.tup (rows.map dI)), .dat (.int (p.2 : Nat)), .dat (dI p.1), .no] ((rows.drop (p.2 + 1)).map dI) [] [.dat (.tup (rows.map dI)), .dat (.int (p.2 : Nat)), .dat (dI p.1), .no] = .ok (.lst ((rows.drop (p.2 + 1)).map fun b => dP (p.1, b)), [.dat (.tup (rows.map dI)), .dat (.int (p.2 : Nat)), .dat (dI p.1), .no]) := by
        rw [compL_all dI (fun b => [.dat (.tup (rows.map dI)), .dat (.int (p.2 : Nat)), .dat (dI p.1), .dat (dI b)]) (fun b => dP (p.1, b)) (rows.drop (p.2 + 1)) ?h]
        intro b hb
        exact ⟨rfl, by simp [small, dP], rfl⟩
      rw [hE]
      unfold turn2
      simp [gAdd, hsl, hi, -compL_res', -List.map_drop]
      rw [List.length_drop] at hd
      omega
    · rw [List.length_zipIdx, List.length_nil]
      have : rows.length * 900 ≤ 900 * 900 := Nat.mul_le_mul_right _ hl
      omega
  rw [hE] at ec
  simp [numD0, ec, -compL_res']
theorem m_does_break_ok (c : CA) {cols : List Nat} {R : List Rule} {r : Rule} {a b : List Int} (s : Sch cols R) (hr : r ∈ R) (ha : a.length = cols.length) (hb : b.length = cols.length) : m_does_break c [dSch c.Scheme cols R, dR r, dI a, dI b] = .ok (.bl (breaksB cols r a b)) := by
  have hn := s.asc.nodup
  have e1 := m_row_at_ok c hn ha (s.left r hr)
  have e2 := m_row_at_ok c hn hb (s.left r hr)
  have e3 := m_row_at_one c hn ha (s.right r hr)
  have e4 := m_row_at_one c hn hb (s.right r hr)
  unfold m_does_break
  apply runP_ok
  unfold b_does_break dSch breaksB
  by_cases h : rowAt cols a r.1 = rowAt cols b r.1
  · simp [lk_cols, e1, e2, e3, e4, h]
  · simp [lk_cols, e1, e2, e3, e4, h]
theorem m_broken_ok (c : CA) {cols : List Nat} {R : List Rule} {rows : List (List Int)} (s : Sch cols R) (hl : ∀ a ∈ rows, a.length = cols.length) (hn : rows.length ≤ 900) : m_broken c [dSch c.Scheme cols R, .tup (rows.map dI)] = .ok (brokenD cols R rows) := by
  have hp := m_pairs_of_ok c rows hn
  have hpm : ∀ p ∈ pairsF rows, p.1 ∈ rows ∧ p.2 ∈ rows := by
    have key : ∀ l : List (List Int), ∀ p ∈ pairsF l, p.1 ∈ l ∧ p.2 ∈ l := by
      intro l
      induction l with
      | nil => intro p hp; cases hp
      | cons a r ih =>
        intro p hp
        rcases List.mem_append.mp hp with z | z
        · obtain ⟨b, hb, rfl⟩ := List.mem_map.mp z
          exact ⟨List.mem_cons_self, List.mem_cons_of_mem _ hb⟩
        · exact ⟨List.mem_cons_of_mem _ (ih p z).1, List.mem_cons_of_mem _ (ih p z).2⟩
    exact key rows
  unfold m_broken
  apply runP_ok
  unfold b_broken
  refine seq_find (fun q : Rule × Nat => D.tup [.int (q.2 : Nat), dR q.1]) (fun E => ∃ x2 x3 x4 x5, E = [.dat (dSch c.Scheme cols R), .dat (.tup (rows.map dI)), x2, x3, x4, x5]) (fun q => (pairsF rows).findSome? (hitD cols q.2 q.1)) R.zipIdx (E' := [.dat (dSch c.Scheme cols R), .dat (.tup (rows.map dI)), .no, .no, .no, .no]) ?_ ⟨_, _, _, _, rfl⟩ ?_ ?_ ?_
  · unfold dSch
    simp [lk_rules, numD0]
  · rintro ⟨r, i⟩ hq _ ⟨x2, x3, x4, x5, rfl⟩
    have hr : r ∈ R := (List.mem_zipIdx hq).2.2 ▸ List.getElem_mem _
    refine ⟨_, rfl, ?_⟩
    refine for_find dP (fun E => ∃ x4 x5, E = [.dat (dSch c.Scheme cols R), .dat (.tup (rows.map dI)), .dat (.int (i : Nat)), .dat (dR r), x4, x5]) (hitD cols i r) (pairsF rows) (E' := [.dat (dSch c.Scheme cols R), .dat (.tup (rows.map dI)), .dat (.int (i : Nat)), .dat (dR r), x4, x5]) (by simp [hp]) ⟨_, _, rfl⟩ ?_ ?_ ?_
    · rintro ⟨a, b⟩ hab _ ⟨x4, x5, rfl⟩
      obtain ⟨h1, h2⟩ := hpm _ hab
      have e := m_does_break_ok c s hr (hl a h1) (hl b h2)
      refine ⟨_, rfl, ?_⟩
      unfold hitD
      cases hb : breaksB cols r a b with
      | true =>
        rw [hb] at e
        simp [e, hb, small]
      | false =>
        rw [hb] at e
        simp [e, hb]
    · intro d hd E
      refine ⟨fun d' hd' => ?_, fun z => ?_⟩
      · rw [hd] at hd'; cases hd'; rfl
      · rw [hd] at z; cases z
    · rintro hz _ ⟨x4, x5, rfl⟩
      exact ⟨fun d' hd' => (by rw [hz] at hd'; cases hd'), fun _ => ⟨.inl rfl, _, _, _, _, rfl⟩⟩
  · intro d hd E
    show Fl.rt d = .rt (brokenD cols R rows)
    unfold brokenD brokenO
    rw [hd]; rfl
  · rintro hz _ ⟨x2, x3, x4, x5, rfl⟩
    have : brokenD cols R rows = .non := by unfold brokenD brokenO; rw [hz]; rfl
    simp [this]
def notObj : D → Bool
  | .obj _ _ => false
  | _ => true
def isIntD : D → Bool
  | .int _ => true
  | _ => false
def isRowB (cols : List Nat) : D → Bool
  | .tup ds => decide (ds.length = cols.length) && ds.all isIntD
  | _ => false
theorem kit_ii : kitB "int" "int" = some true := by decide +kernel
theorem kit_ib : kitB "int" "bool" = some false := by decide +kernel
theorem kit_bi : kitB "bool" "int" = some true := by decide +kernel
theorem kit_bb : kitB "bool" "bool" = some true := by decide +kernel
theorem kit_si : kitB "str" "int" = some false := by decide +kernel
theorem kit_ti : kitB "tuple" "int" = some false := by decide +kernel
theorem kit_li : kitB "list" "int" = some false := by decide +kernel
theorem kit_di : kitB "dict" "int" = some false := by decide +kernel
theorem kit_ni : kitB "NoneType" "int" = some false := by decide +kernel
theorem kit_bt : kitB "bool" "tuple" = some false := by decide +kernel
theorem kit_it : kitB "int" "tuple" = some false := by decide +kernel
theorem kit_st : kitB "str" "tuple" = some false := by decide +kernel
theorem kit_lt : kitB "list" "tuple" = some false := by decide +kernel
theorem kit_dt : kitB "dict" "tuple" = some false := by decide +kernel
theorem kit_nt : kitB "NoneType" "tuple" = some false := by decide +kernel
theorem is_tup_false {d : D} (h : notObj d = true) (ht : ∀ ds, d ≠ .tup ds) : gIs (fun n => kitB n "tuple") (fun _ => none) d = some (.bl false) := by
  cases d with
  | non => show (kitB "NoneType" "tuple").map D.bl = _; rw [kit_nt]; rfl
  | bl b => show (kitB "bool" "tuple").map D.bl = _; rw [kit_bt]; rfl
  | int i => show (kitB "int" "tuple").map D.bl = _; rw [kit_it]; rfl
  | str x => show (kitB "str" "tuple").map D.bl = _; rw [kit_st]; rfl
  | lst l => show (kitB "list" "tuple").map D.bl = _; rw [kit_lt]; rfl
  | tup l => exact absurd rfl (ht l)
  | dic l => show (kitB "dict" "tuple").map D.bl = _; rw [kit_dt]; rfl
  | dit l => show (kitB "dict" "tuple").map D.bl = _; rw [kit_dt]; rfl
  | obj C fs => cases h
theorem is_int_at {d : D} (h : notObj d = true) (hi : ∀ i, d ≠ .int i) (hb : ∀ b, d ≠ .bl b) : gIs (fun n => kitB n "int") (fun _ => none) d = some (.bl false) := by
  cases d with
  | non => show (kitB "NoneType" "int").map D.bl = _; rw [kit_ni]; rfl
  | bl b => exact absurd rfl (hb b)
  | int i => exact absurd rfl (hi i)
  | str x => show (kitB "str" "int").map D.bl = _; rw [kit_si]; rfl
  | lst l => show (kitB "list" "int").map D.bl = _; rw [kit_li]; rfl
  | tup l => show (kitB "tuple" "int").map D.bl = _; rw [kit_ti]; rfl
  | dic l => show (kitB "dict" "int").map D.bl = _; rw [kit_di]; rfl
  | dit l => show (kitB "dict" "int").map D.bl = _; rw [kit_di]; rfl
  | obj C fs => cases h
theorem m_is_integer_ok (c : CA) {d : D} (h : notObj d = true) : m_is_integer c [d] = .ok (.bl (isIntD d)) := by
  unfold m_is_integer
  apply runP_ok
  unfold b_is_integer
  cases d with
  | int i =>
    have h1 : gIs (fun n => kitB n "int") (fun _ => none) (.int i) = some (.bl true) := by show (kitB "int" "int").map D.bl = _; rw [kit_ii]; rfl
    have h2 : gIs (fun n => kitB n "bool") (fun _ => none) (.int i) = some (.bl false) := by show (kitB "int" "bool").map D.bl = _; rw [kit_ib]; rfl
    simp [-gIs_int, h1, h2, isIntD]
  | bl b =>
    have h1 : gIs (fun n => kitB n "int") (fun _ => none) (.bl b) = some (.bl true) := by show (kitB "bool" "int").map D.bl = _; rw [kit_bi]; rfl
    have h2 : gIs (fun n => kitB n "bool") (fun _ => none) (.bl b) = some (.bl true) := by show (kitB "bool" "bool").map D.bl = _; rw [kit_bb]; rfl
    simp [h1, h2, isIntD]
  | non =>
    have h1 := is_int_at h (fun _ z => nomatch z) fun _ z => nomatch z
    simp [h1, isIntD]
  | str x =>
    have h1 := is_int_at h (fun _ z => nomatch z) fun _ z => nomatch z
    simp [h1, isIntD]
  | lst x =>
    have h1 := is_int_at h (fun _ z => nomatch z) fun _ z => nomatch z
    simp [-gIs_lst, h1, isIntD]
  | tup x =>
    have h1 := is_int_at h (fun _ z => nomatch z) fun _ z => nomatch z
    simp [-gIs_tup, h1, isIntD]
  | dic x =>
    have h1 := is_int_at h (fun _ z => nomatch z) fun _ z => nomatch z
    simp [h1, isIntD]
  | dit x =>
    have h1 := is_int_at h (fun _ z => nomatch z) fun _ z => nomatch z
    simp [h1, isIntD]
  | obj C fs => cases h
theorem is_tup_true (ds : List D) : gIs (fun n => kitB n "tuple") (fun _ => none) (.tup ds) = some (.bl true) := by
  show (kitB "tuple" "tuple").map D.bl = _
  rw [kit_tt]; rfl
/-- all parts are no instances -/
def partsOk : D → Bool
  | .tup ds => ds.all notObj
  | .obj _ _ => false
  | _ => true
theorem partsOk_not {d : D} (h : partsOk d = true) : notObj d = true := by cases d <;> first | rfl | cases h
theorem m_is_row_ok (c : CA) (cols : List Nat) {d : D} (h : partsOk d = true) : m_is_row c [dS cols, d] = .ok (.bl (isRowB cols d)) := by
  unfold m_is_row
  apply runP_ok
  unfold b_is_row
  by_cases ht : ∃ ds, d = .tup ds
  · obtain ⟨ds, rfl⟩ := ht
    have hp : ∀ x ∈ ds, notObj x = true := List.all_eq_true.mp h
    have h1 := is_tup_true ds
    have ec : compL [2] (gN 2) tYes' (eF 1 (m_is_integer c) (aC (eV 2) aN)) [.dat (dS cols), .dat (.tup ds), .no] (ds.map id) [] [.dat (dS cols), .dat (.tup ds), .no] = .ok (.lst (ds.map fun x => .bl (isIntD x)), [.dat (dS cols), .dat (.tup ds), .no]) := by
      rw [compL_all id (fun x => [.dat (dS cols), .dat (.tup ds), .dat x]) (fun x => D.bl (isIntD x)) ds ?h]
      intro x hx
      refine ⟨rfl, ?_, rfl⟩
      have := m_is_integer_ok c (hp x hx)
      simp [this]
    rw [List.map_id] at ec
    unfold isRowB
    by_cases hl : ds.length = cols.length
    · have hl2 : ((ds.length : Nat) : Int) = (cols.length : Nat) := by rw [hl]
      simp [-gIs_tup, h1, hl, ec, -compL_res']
    · have hl2 : ¬ ((ds.length : Nat) : Int) = (cols.length : Nat) := by omega
      simp [-gIs_tup, h1, hl, hl2]
  · have ht : ∀ ds, d ≠ .tup ds := fun ds e => ht ⟨ds, e⟩
    have h1 := is_tup_false (partsOk_not h) ht
    have h2 : isRowB cols d = false := by cases d <;> first | rfl | exact absurd rfl (ht _)
    rw [h2]
    cases d with
    | tup ds => exact absurd rfl (ht ds)
    | _ => simp [-gIs_int, -gIs_lst, h1]
theorem isRowB_dI (cols : List Nat) (k : List Int) : isRowB cols (dI k) = decide (k.length = cols.length) := by
  show (decide ((k.map D.int).length = cols.length) && (k.map D.int).all isIntD) = _
  rw [List.length_map]
  have : (k.map D.int).all isIntD = true := by
    rw [List.all_eq_true]
    intro x hx
    obtain ⟨i, _, rfl⟩ := List.mem_map.mp hx
    rfl
  rw [this, Bool.and_true]
theorem isRowB_iff {cols : List Nat} {d : D} : isRowB cols d = true ↔ ∃ k, d = dI k ∧ k.length = cols.length := by
  constructor
  · intro h
    cases d with
    | tup ds =>
      have h : (decide (ds.length = cols.length) && ds.all isIntD) = true := h
      rw [Bool.and_eq_true, decide_eq_true_eq, List.all_eq_true] at h
      have key : ∀ ds : List D, (∀ x ∈ ds, isIntD x = true) → ∃ k : List Int, ds = k.map .int := by
        intro ds
        induction ds with
        | nil => intro _; exact ⟨[], rfl⟩
        | cons d ds ih =>
          intro hd
          obtain ⟨k, hk⟩ := ih fun x hx => hd x (List.mem_cons_of_mem _ hx)
          have := hd d List.mem_cons_self
          cases d with
          | int i => exact ⟨i :: k, by rw [hk]; rfl⟩
          | _ => cases this
      obtain ⟨k, rfl⟩ := key ds h.2
      exact ⟨k, rfl, by have := h.1; rwa [List.length_map] at this⟩
    | _ => cases h
  · rintro ⟨k, rfl, h⟩
    rw [isRowB_dI, decide_eq_true h]
theorem comp_is_row (c : CA) (cols : List Nat) (ds : List D) (hp : ∀ x ∈ ds, partsOk x = true) : compL [2] (gN 2) tYes' (eF 2 (m_is_row c) (aC (eV 0) (aC (eV 2) aN))) [.dat (dS cols), .dat (.tup ds), .no, .no, .no] (ds.map id) [] [.dat (dS cols), .dat (.tup ds), .no, .no, .no] = .ok (.lst (ds.map fun x => .bl (isRowB cols x)), [.dat (dS cols), .dat (.tup ds), .no, .no, .no]) := by
  rw [compL_all id (fun x => [.dat (dS cols), .dat (.tup ds), .dat x, .no, .no]) (fun x => D.bl (isRowB cols x)) ds ?h]
  intro x hx
  refine ⟨rfl, ?_, rfl⟩
  have := m_is_row_ok c cols (hp x hx)
  simp [this]
/-- any value: no rows -/
theorem m_is_rows_no (c : CA) (cols : List Nat) {d : D} (h : notObj d = true) (hno : ∀ ds, d = .tup ds → (∀ x ∈ ds, partsOk x = true) ∧ ds.all (isRowB cols) = false) : m_is_rows c [dS cols, d] = .ok (.bl false) := by
  unfold m_is_rows
  apply runP_ok
  unfold b_is_rows
  by_cases ht : ∃ ds, d = .tup ds
  · obtain ⟨ds, rfl⟩ := ht
    obtain ⟨hp, ha⟩ := hno ds rfl
    have h1 := is_tup_true ds
    have ec := comp_is_row c cols ds hp
    rw [List.map_id] at ec
    have hg := gAll_map (isRowB cols) ds
    rw [ha] at hg
    simp [-gIs_tup, h1, ec, -compL_res', hg, -gAll_map]
  · have h1 := is_tup_false h fun ds e => ht ⟨ds, e⟩
    cases d with
    | tup ds => exact absurd ⟨ds, rfl⟩ ht
    | _ => simp [-gIs_int, -gIs_lst, h1]
theorem m_is_rows_ok (c : CA) (cols : List Nat) (ks : List (List Int)) (hl : ∀ k ∈ ks, k.length = cols.length) : m_is_rows c [dS cols, .tup (ks.map dI)] = .ok (.bl (ascB (lexL ltI) ks)) := by
  unfold m_is_rows
  apply runP_ok
  unfold b_is_rows
  have h1 := is_tup_true (ks.map dI)
  have hp : ∀ x ∈ ks.map dI, partsOk x = true := fun x hx => by
    obtain ⟨k, _, rfl⟩ := List.mem_map.mp hx
    show (k.map D.int).all notObj = true
    rw [List.all_eq_true]
    intro y hy
    obtain ⟨i, _, rfl⟩ := List.mem_map.mp hy
    rfl
  have ec := comp_is_row c cols (ks.map dI) hp
  rw [List.map_id] at ec
  have hg := gAll_map (isRowB cols) (ks.map dI)
  have ha : (ks.map dI).all (isRowB cols) = true := by
    rw [List.all_eq_true]
    intro x hx
    obtain ⟨k, hk, rfl⟩ := List.mem_map.mp hx
    rw [isRowB_dI, decide_eq_true (hl k hk)]
  rw [ha] at hg
  have ec2 : compL [3, 4] (gT (gCons' (gN 3) (gCons' (gN 4) gNil'))) tYes' (eOp gLt (eV 3) (eV 4)) [.dat (dS cols), .dat (.tup (ks.map dI)), .no, .no, .no] ((ks.dropLast.zip ks.tail).map fun p => .tup [dI p.1, dI p.2]) [] [.dat (dS cols), .dat (.tup (ks.map dI)), .no, .no, .no] = .ok (.lst ((ks.dropLast.zip ks.tail).map fun p => .bl (lexL ltI p.1 p.2)), [.dat (dS cols), .dat (.tup (ks.map dI)), .no, .no, .no]) := by
    rw [compL_all (fun p : List Int × List Int => D.tup [dI p.1, dI p.2]) (fun p => [.dat (dS cols), .dat (.tup (ks.map dI)), .no, .dat (dI p.1), .dat (dI p.2)]) (fun p => D.bl (lexL ltI p.1 p.2)) (ks.dropLast.zip ks.tail) ?h]
    rintro p hp
    exact ⟨rfl, by simp, rfl⟩
  have hz := zip_pairs dI ks
  have hga := gAll_map (fun p : List Int × List Int => lexL ltI p.1 p.2) (ks.dropLast.zip ks.tail)
  rw [ascB_zip] at hga
  have hz : ((ks.map dI).dropLast.zip (ks.map dI).tail).map (fun p => D.tup [p.1, p.2]) = (ks.dropLast.zip ks.tail).map fun p => .tup [dI p.1, dI p.2] := hz
  simp [-gIs_tup, h1, ec, -compL_res', hg, -gAll_map, hz, ec2, hga, -List.map_dropLast, -List.map_tail, -zip_pairs2, -List.map_map]
def isRowsK (ks : List (List Int)) : Prop := ks.Pairwise fun a b => lexL ltI a b = true
theorem m_is_table_ok (c : CA) {cols : List Nat} {R : List Rule} {rows : List (List Int)} (s : Sch cols R) (hl : ∀ a ∈ rows, a.length = cols.length) (hn : rows.length ≤ 900) : m_is_table c [dSch c.Scheme cols R, .tup (rows.map dI)] = .ok (.bl (ascB (lexL ltI) rows && (brokenO cols R rows).isNone)) := by
  have e1 := m_is_rows_ok c cols rows hl
  have e2 := m_broken_ok c s hl hn
  unfold m_is_table
  apply runP_ok
  unfold b_is_table dSch
  unfold dSch at e2
  cases ha : ascB (lexL ltI) rows with
  | false =>
    rw [ha] at e1
    simp [lk_cols, e1]
  | true =>
    rw [ha] at e1
    have hn : gIsN false (brokenD cols R rows) .non = some (.bl (brokenO cols R rows).isNone) := by
      unfold brokenD
      cases hb : brokenO cols R rows with
      | none => rfl
      | some d =>
        have : isNon d = false := by
          unfold brokenO at hb
          obtain ⟨q, _, hq⟩ := List.exists_of_findSome?_eq_some hb
          obtain ⟨p, _, hp⟩ := List.exists_of_findSome?_eq_some hq
          unfold hitD at hp
          split at hp
          · cases hp; rfl
          · cases hp
        show (if isNon D.non = true then some (D.bl (isNon d)) else none) = _
        rw [this]; rfl
    simp [lk_cols, e1, e2, hn]
theorem alike_iff (cols : List Nat) (a b : List Int) (l : List Nat) : (l.filter fun x => !decide (colV cols a x = colV cols b x)).isEmpty = decide (rowAt cols a l = rowAt cols b l) := by
  rw [Bool.eq_iff_iff, List.isEmpty_iff, List.filter_eq_nil_iff, decide_eq_true_eq]
  unfold rowAt
  constructor
  · intro h
    refine List.map_congr_left fun x hx => ?_
    have := h x hx
    simpa using this
  · intro h x hx
    have := List.map_inj_left.mp h x hx
    simp [this]
theorem m_bad_ok (c : CA) {cols : List Nat} {R : List Rule} {rows : List (List Int)} (s : Sch cols R) (hl : ∀ a ∈ rows, a.length = cols.length) : m__law_bad c [dW cols R, .tup (rows.map dI)] = .ok (brokenD cols R rows) := by
  have hnd := s.asc.nodup
  unfold m__law_bad
  apply runP_ok
  unfold b__law_bad
  refine seq_find (fun q : Rule × Nat => D.tup [.int (q.2 : Nat), dR q.1]) (fun E => ∃ x2 x3 x4 x5 x6 x8 x9 x10 x11, E = [.dat (dW cols R), .dat (.tup (rows.map dI)), x2, x3, x4, x5, x6, .no, x8, x9, x10, x11, .no]) (fun q => (pairsF rows).findSome? (hitD cols q.2 q.1)) R.zipIdx (E' := [.dat (dW cols R), .dat (.tup (rows.map dI)), .no, .no, .no, .no, .no, .no, .no, .no, .no, .no, .no]) ?_ ⟨_, _, _, _, _, _, _, _, _, rfl⟩ ?_ ?_ ?_
  · simp [numD0]
  · rintro ⟨r, i⟩ hq _ ⟨x2, x3, x4, x5, x6, x8, x9, x10, x11, rfl⟩
    have hr : r ∈ R := (List.mem_zipIdx hq).2.2 ▸ List.getElem_mem _
    refine ⟨_, rfl, ?_⟩
    have hsp : compL [7] (gN 7) tYes' (eM1 gSIdx (eOp gGet (eV 0) (eC (.str "cols"))) (eV 7)) [.dat (dW cols R), .dat (.tup (rows.map dI)), .dat (.int (i : Nat)), .dat (dS r.1), .dat (dC r.2), x5, x6, .no, x8, x9, x10, x11, .no] (r.1.map dC) [] [.dat (dW cols R), .dat (.tup (rows.map dI)), .dat (.int (i : Nat)), .dat (dS r.1), .dat (dC r.2), x5, x6, .no, x8, x9, x10, x11, .no] = .ok (.lst (r.1.map fun x => .int (cols.idxOf x : Nat)), [.dat (dW cols R), .dat (.tup (rows.map dI)), .dat (.int (i : Nat)), .dat (dS r.1), .dat (dC r.2), x5, x6, .no, x8, x9, x10, x11, .no]) := by
      rw [compL_all dC (fun x => [.dat (dW cols R), .dat (.tup (rows.map dI)), .dat (.int (i : Nat)), .dat (dS r.1), .dat (dC r.2), x5, x6, .dat (dC x), x8, x9, x10, x11, .no]) (fun x => D.int (cols.idxOf x : Nat)) r.1 ?h]
      intro x hx
      refine ⟨rfl, ?_, rfl⟩
      have h1 := sidx_dC hnd (s.left r hr x hx)
      have hx2 : dS cols = .str (T cols) := rfl
      have hg := get_cols cols R
      rw [hx2] at h1 hg
      simp [-get_cols, hg, h1]
    have hat : eM1 gSIdx (eOp gGet (eV 0) (eC (.str "cols"))) (eV 4) [.dat (dW cols R), .dat (.tup (rows.map dI)), .dat (.int (i : Nat)), .dat (dS r.1), .dat (dC r.2), x5, x6, .no, x8, x9, x10, x11, .no] = .ok (.dat (.int (cols.idxOf r.2 : Nat)), [.dat (dW cols R), .dat (.tup (rows.map dI)), .dat (.int (i : Nat)), .dat (dS r.1), .dat (dC r.2), x5, x6, .no, x8, x9, x10, x11, .no]) := by
      have h1 := sidx_dC hnd (s.right r hr)
      have hx2 : dS cols = .str (T cols) := rfl
      have hg := get_cols cols R
      rw [hx2] at h1 hg
      simp [-get_cols, hg, h1]
    refine seq_eq (E' := [.dat (dW cols R), .dat (.tup (rows.map dI)), .dat (.int (i : Nat)), .dat (dS r.1), .dat (dC r.2), .dat (.lst (r.1.map fun x => .int (cols.idxOf x : Nat))), .dat (.int (cols.idxOf r.2 : Nat)), .no, x8, x9, x10, x11, .no]) (by simp [hsp, hat, -compL_res', -ap_eM1]) ?_
    dsimp only
    rw [pairs_find]
    refine for_find (fun p : List Int × Nat => D.tup [.int (p.2 : Nat), dI p.1]) (fun E => ∃ x8 x9 x10 x11, E = [.dat (dW cols R), .dat (.tup (rows.map dI)), .dat (.int (i : Nat)), .dat (dS r.1), .dat (dC r.2), .dat (.lst (r.1.map fun x => .int (cols.idxOf x : Nat))), .dat (.int (cols.idxOf r.2 : Nat)), .no, x8, x9, x10, x11, .no]) (fun p => (rows.drop (p.2 + 1)).findSome? fun b => hitD cols i r (p.1, b)) rows.zipIdx (E' := [.dat (dW cols R), .dat (.tup (rows.map dI)), .dat (.int (i : Nat)), .dat (dS r.1), .dat (dC r.2), .dat (.lst (r.1.map fun x => .int (cols.idxOf x : Nat))), .dat (.int (cols.idxOf r.2 : Nat)), .no, x8, x9, x10, x11, .no]) (by simp [numD0]) ⟨_, _, _, _, rfl⟩ ?_ ?_ ?_
    · rintro ⟨a, j⟩ ha _ ⟨x8, x9, x10, x11, rfl⟩
      have ha : a ∈ rows := (List.mem_zipIdx ha).2.2 ▸ List.getElem_mem _
      refine ⟨_, rfl, ?_⟩
      have hsl := gSl_from (rows.map dI) (j + 1)
      rw [← List.map_drop] at hsl
      have hsl : gSl (.tup (rows.map dI)) (some ((j : Int) + 1)) none = _ := hsl
      refine for_find dI (fun E => ∃ x10 x11, E = [.dat (dW cols R), .dat (.tup (rows.map dI)), .dat (.int (i : Nat)), .dat (dS r.1), .dat (dC r.2), .dat (.lst (r.1.map fun x => .int (cols.idxOf x : Nat))), .dat (.int (cols.idxOf r.2 : Nat)), .no, .dat (.int (j : Nat)), .dat (dI a), x10, x11, .no]) (fun b => hitD cols i r (a, b)) (rows.drop (j + 1)) (E' := [.dat (dW cols R), .dat (.tup (rows.map dI)), .dat (.int (i : Nat)), .dat (dS r.1), .dat (dC r.2), .dat (.lst (r.1.map fun x => .int (cols.idxOf x : Nat))), .dat (.int (cols.idxOf r.2 : Nat)), .no, .dat (.int (j : Nat)), .dat (dI a), x10, x11, .no]) (by simp [gAdd, hsl, -List.map_drop]) ⟨_, _, rfl⟩ ?_ ?_ ?_
      · rintro b hb _ ⟨x10, x11, rfl⟩
        have hb : b ∈ rows := List.mem_of_mem_drop hb
        refine ⟨_, rfl, ?_⟩
        have hla := hl a ha
        have hlb := hl b hb
        have hal : compL [12] (gN 12) (tB (eOp gNe (eOp gIx (eV 9) (eV 12)) (eOp gIx (eV 10) (eV 12)))) (eV 12) [.dat (dW cols R), .dat (.tup (rows.map dI)), .dat (.int (i : Nat)), .dat (dS r.1), .dat (dC r.2), .dat (.lst (r.1.map fun x => .int (cols.idxOf x : Nat))), .dat (.int (cols.idxOf r.2 : Nat)), .no, .dat (.int (j : Nat)), .dat (dI a), .dat (dI b), x11, .no] (r.1.map fun x => .int (cols.idxOf x : Nat)) [] [.dat (dW cols R), .dat (.tup (rows.map dI)), .dat (.int (i : Nat)), .dat (dS r.1), .dat (dC r.2), .dat (.lst (r.1.map fun x => .int (cols.idxOf x : Nat))), .dat (.int (cols.idxOf r.2 : Nat)), .no, .dat (.int (j : Nat)), .dat (dI a), .dat (dI b), x11, .no] = .ok (.lst ((r.1.filter fun x => !decide (colV cols a x = colV cols b x)).map fun x => .int (cols.idxOf x : Nat)), [.dat (dW cols R), .dat (.tup (rows.map dI)), .dat (.int (i : Nat)), .dat (dS r.1), .dat (dC r.2), .dat (.lst (r.1.map fun x => .int (cols.idxOf x : Nat))), .dat (.int (cols.idxOf r.2 : Nat)), .no, .dat (.int (j : Nat)), .dat (dI a), .dat (dI b), x11, .no]) := by
          rw [compL_map (fun x => D.int (cols.idxOf x : Nat)) (fun x => [.dat (dW cols R), .dat (.tup (rows.map dI)), .dat (.int (i : Nat)), .dat (dS r.1), .dat (dC r.2), .dat (.lst (r.1.map fun x => .int (cols.idxOf x : Nat))), .dat (.int (cols.idxOf r.2 : Nat)), .no, .dat (.int (j : Nat)), .dat (dI a), .dat (dI b), x11, .dat (.int (cols.idxOf x : Nat))]) (fun x => !decide (colV cols a x = colV cols b x)) (fun x => D.int (cols.idxOf x : Nat)) r.1 ?hal []]
          · rw [List.nil_append]
          · intro x hx
            have h1 := gIx_dI_at hla (s.left r hr x hx)
            have h2 := gIx_dI_at hlb (s.left r hr x hx)
            exact ⟨rfl, by simp [h1, h2], fun _ => by simp, rfl⟩
        have hnil : gEq (.lst ((r.1.filter fun x => !decide (colV cols a x = colV cols b x)).map fun x => .int (cols.idxOf x : Nat))) (.lst []) = some (.bl (decide (rowAt cols a r.1 = rowAt cols b r.1))) := by
          rw [gEq_nil, ← alike_iff, List.isEmpty_map]
          rw [plainL_all, List.all_eq_true]
          intro d hd
          obtain ⟨x, _, rfl⟩ := List.mem_map.mp hd
          rfl
        have h3 := gIx_dI_at hla (s.right r hr)
        have h4 := gIx_dI_at hlb (s.right r hr)
        refine seq_eq (E' := [.dat (dW cols R), .dat (.tup (rows.map dI)), .dat (.int (i : Nat)), .dat (dS r.1), .dat (dC r.2), .dat (.lst (r.1.map fun x => .int (cols.idxOf x : Nat))), .dat (.int (cols.idxOf r.2 : Nat)), .no, .dat (.int (j : Nat)), .dat (dI a), .dat (dI b), .dat (.bl (decide (rowAt cols a r.1 = rowAt cols b r.1))), .no]) (by simp [hal, hnil, -compL_res']) ?_
        unfold hitD breaksB
        by_cases c1 : rowAt cols a r.1 = rowAt cols b r.1
        · by_cases c2 : colV cols a r.2 = colV cols b r.2
          · simp [c1, h3, h4, c2]
          · simp only [c1, decide_true, Bool.true_and]
            simp [h3, h4, c2, small]
        · simp [c1]
      · intro d hd E
        exact ⟨fun d' hd' => (by rw [hd] at hd'; cases hd'; rfl), fun z => (by rw [hd] at z; cases z)⟩
      · rintro hz _ ⟨x10, x11, rfl⟩
        exact ⟨fun d' hd' => (by rw [hz] at hd'; cases hd'), fun _ => ⟨.inl rfl, _, _, _, _, rfl⟩⟩
    · intro d hd E
      exact ⟨fun d' hd' => (by rw [hd] at hd'; cases hd'; rfl), fun z => (by rw [hd] at z; cases z)⟩
    · rintro hz _ ⟨x8, x9, x10, x11, rfl⟩
      exact ⟨fun d' hd' => (by rw [hz] at hd'; cases hd'), fun _ => ⟨.inl rfl, _, _, _, _, _, _, _, _, _, rfl⟩⟩
  · intro d hd E
    show Fl.rt d = .rt (brokenD cols R rows)
    unfold brokenD brokenO
    rw [hd]; rfl
  · rintro hz _ ⟨x2, x3, x4, x5, x6, x8, x9, x10, x11, rfl⟩
    have : brokenD cols R rows = .non := by unfold brokenD brokenO; rw [hz]; rfl
    simp [this]
theorem m_pick_ok {α : Type} (c : CA) (a q : Addr) (l : List Int) (b : Int) (d : D) (L : List α) (f : α → D) (hlen : gLen [d] = some (.int L.length)) (hix : ∀ i : Nat, gIx d (.int i) = (L[i]?).map f) (hne : L ≠ []) (hL : L.length ≤ 1000) (hl : l.length ≤ 63) :
    ∃ x ∈ L, ∃ l' b', m__law_pick c a q ⟨l, b⟩ [d] = .ok (f x, ⟨l', b'⟩) ∧ l'.length ≤ 63 := by
  have h0 : 0 < L.length := List.length_pos_iff.mpr hne
  obtain ⟨v, l', b', e, hv, hl'⟩ := draw_ok a q l b L.length (by omega) (by omega) hl
  have hv : v < L.length := by omega
  refine ⟨L[v], List.getElem_mem hv, l', b', ?_, hl'⟩
  refine runK_eq (E := [.dat d]) ?_
  unfold b__law_pick
  simp [m__law_draw, hlen, e, hix, hv]
theorem m_pick_lst {α : Type} (c : CA) (a q : Addr) (l : List Int) (b : Int) (L : List α) (f : α → D) (hne : L ≠ []) (hL : L.length ≤ 1000) (hl : l.length ≤ 63) :
    ∃ x ∈ L, ∃ l' b', m__law_pick c a q ⟨l, b⟩ [.lst (L.map f)] = .ok (f x, ⟨l', b'⟩) ∧ l'.length ≤ 63 :=
  m_pick_ok c a q l b _ L f (by simp [gLen]) (fun i => by rw [gIx_lst_nat, List.getElem?_map]) hne hL hl
theorem m_lines_ok (c : CA) (a q : Addr) (l : List Int) (b : Int) (wide many : Nat) (top : Int) (hw : wide ≤ 26) (hm : many ≤ 60) (ht : 0 < top) (ht2 : top ≤ 1000000000000000000000000000000) (hl : l.length ≤ 63) :
    ∃ (rows : List (List Int)) (l' : List Int) (b' : Int), m__law_lines c a q ⟨l, b⟩ [.int wide, .int many, .int top] = .ok (.tup (rows.map dI), ⟨l', b'⟩) ∧ (rows.Pairwise fun a b => lexL ltI a b = true) ∧ (∀ k ∈ rows, k.length = wide ∧ ∀ i ∈ k, SmI i) ∧ rows.length ≤ many ∧ l'.length ≤ 63 := by
  obtain ⟨d', l', b', e, rows, hd, h⟩ : ∃ d' l' b', runK (b__law_lines c) 3 a q ⟨l, b⟩ [.int wide, .int many, .int top] = .ok (d', ⟨l', b'⟩) ∧ ∃ rows : List (List Int), d' = .tup (rows.map dI) ∧ (rows.Pairwise fun a b => lexL ltI a b = true) ∧ (∀ k ∈ rows, k.length = wide ∧ ∀ i ∈ k, SmI i) ∧ rows.length ≤ many ∧ l'.length ≤ 63 := by
    apply runK_ok
    unfold b__law_lines
    refine seq_eq (E' := [.deck a q l b, .dat (.int wide), .dat (.int many), .dat (.int top), .own (.lst []), .no, .no]) (by simp) ?_
    obtain ⟨n, l1, b1, e1, hn, hl1⟩ := draw_ok a q l b (many + 1 : Nat) (by omega) (by omega) hl
    have hr : (n : Int) ≤ 16777216 ∧ -4611686018427387904 ≤ (n : Int) := by omega
    have e1 : drawR a q { l := l, b := b } [D.int (↑many + 1)] = _ := e1
    refine seq_for (fun i : Nat => D.int i) (fun r E => ∃ l b x5 ks, E = [.deck a q l b, .dat (.int wide), .dat (.int many), .dat (.int top), .own (.lst (ks.map dI)), x5, .no] ∧ ks.length + r.length = n ∧ (∀ k ∈ ks, k.length = wide ∧ ∀ i ∈ k, SmI i) ∧ l.length ≤ 63) (List.range n) (E' := [.deck a q l1 b1, .dat (.int wide), .dat (.int many), .dat (.int top), .own (.lst []), .no, .no]) (by simp [m__law_draw, e1, hr, rgD_map, gAdd]) ⟨l1, b1, .no, [], rfl, by simp, by simp, hl1⟩ ?_ ?_
    · rintro i r _ ⟨l2, b2, x5, ks, rfl, hk, hks, hl2⟩
      refine ⟨_, rfl, ?_⟩
      refine Ok.cps fun P hP => ?_
      have hwr : (wide : Int) ≤ 16777216 ∧ -4611686018427387904 ≤ (wide : Int) := by omega
      simp [Ok_bind, -compL_res', hwr, rgD_map]
      refine compL_okY (fun i : Nat => D.int i) (fun r acc E => ∃ l b vals, acc = vals.map .int ∧ vals.length + r.length = wide ∧ (∀ i ∈ vals, SmI i) ∧ l.length ≤ 63 ∧ E = [.deck a q l b, .dat (.int wide), .dat (.int many), .dat (.int top), .own (.lst (ks.map dI)), .dat (.int i), .no]) (List.range wide) [] ⟨l2, b2, [], rfl, by simp, by simp, hl2, rfl⟩ ?_ ?_
      · rintro j r2 acc _ ⟨l3, b3, vals, rfl, hv, hsm, hl3, rfl⟩
        refine ⟨_, rfl, ?_⟩
        obtain ⟨u, l4, b4, e4, hu, hl4⟩ := draw_okW a q l3 b3 top ht (by omega) hl3
        obtain ⟨z, hz, l5, b5, e5, hl5⟩ := m_pick_lst c a q l4 b4 [0, 1, 2, (u : Int), -3] D.int (by simp) (by simp) hl4
        have e5 : m__law_pick c a q ⟨l4, b4⟩ [.lst [.int 0, .int 1, .int 2, .int u, .int (-3)]] = _ := e5
        have hsmall : ∀ r, small [D.int 0, .int 1, .int 2, .int u, .int (-3)] r = r := fun r => small_ok (by simp)
        refine Ok.cps fun P hP => ?_
        simp [m__law_draw, e4, hsmall, e5]
        refine hP _ ⟨_, rfl, l5, b5, vals ++ [z], by simp, by simp at hv ⊢; omega, fun i hi => ?_, hl5, rfl⟩
        rcases List.mem_append.mp hi with y | y
        · exact hsm i y
        · rw [List.mem_singleton.mp y]
          have hu2 : (u : Int) < 1000000000000000000000000000000 := by omega
          simp at hz
          rcases hz with rfl | rfl | rfl | rfl | rfl <;> exact ⟨by omega, by omega⟩
      · rintro acc _ ⟨l3, b3, vals, rfl, hv, hsm, hl3, rfl⟩
        simp at hv
        have hln : ks.length < 16777216 := by simp at hk; omega
        simp [gApp_ok, hln]
        refine hP _ ⟨.inl rfl, l3, b3, .dat (.int i), ks ++ [vals], by rw [List.map_append]; rfl, by simp at hk ⊢; omega, fun k hk => ?_, hl3⟩
        rcases List.mem_append.mp hk with z | z
        · exact hks k z
        · rw [List.mem_singleton.mp z]; exact ⟨hv, hsm⟩
    · rintro _ ⟨l2, b2, x5, ks, rfl, hk, hks, hl2⟩
      simp at hk
      have hok := okRows_len (ks := ks) (n := wide) (by omega) fun k hk => (hks k hk).1
      have hs := gSortSet_dI hok
      have hg := gTuple_lst ((setRows ks).map dI)
      refine Ok.cps fun P hP => ?_
      simp [hs, hg]
      exact hP _ ⟨_, l2, b2, _, rfl, setRows ks, rfl, setRows_asc ks, fun k hk => hks k (mem_setRows.mp hk), by have := setRows_len ks; omega, hl2⟩
  exact ⟨rows, l', b', hd ▸ e, h⟩
theorem pop_step (c : CA) (a q : Addr) (l l3 : List Int) (b b3 : Int) (G : List D → List D → Option (D × List D)) (pool cs : List Nat) (x1 x2 x5 x6 x7 x8 : Cell) (u : Nat) (x : Nat) (pool' : List Nat) (e3 : drawR a q { l := l, b := b } [D.int pool.length] = Res.ok (D.int u, { l := l3, b := b3 }))
   (hg : G (pool.map dC) [D.int u] = some (dC x, pool'.map dC)) (hcs : cs.length < 16777216) :
  sEx (eOM 4 gApp (aC (eOM 3 G (aC (eK 0 1 (m__law_draw c) (aC (eCall gLen (aC (eV 3) aN)) aN)) aN)) aN)) [.deck a q l b, x1, x2, .own (.lst (pool.map dC)), .own (.lst (cs.map dC)), x5, x6, x7, x8] = 
   .ok (.nx, [.deck a q l3 b3, x1, x2, .own (.lst (pool'.map dC)), .own (.lst ((cs ++ [x]).map dC)), x5, x6, x7, x8]) := by
  simp [m__law_draw, gLen, e3, hg, gApp_ok, hcs]
theorem m_plan_ok (c : CA) (a q : Addr) (l : List Int) (b : Int) (wide many : Nat) (hw : 1 ≤ wide) (hw2 : wide ≤ 11) (hm : many ≤ 40) (hl : l.length ≤ 63) :
    ∃ cols R l' b', m__law_plan c a q ⟨l, b⟩ [.int wide, .int many] = .ok (dW cols R, ⟨l', b'⟩) ∧ Sch cols R ∧ cols.length ≤ wide ∧ R.length ≤ many ∧ l'.length ≤ 63 := by
  obtain ⟨d', l', b', e, cols, R, hd, h⟩ : ∃ d' l' b', runK (b__law_plan c) 6 a q ⟨l, b⟩ [.int wide, .int many] = .ok (d', ⟨l', b'⟩) ∧ ∃ cols R, d' = dW cols R ∧ Sch cols R ∧ cols.length ≤ wide ∧ R.length ≤ many ∧ l'.length ≤ 63 := by
    apply runK_ok
    unfold b__law_plan
    rw [P11_str]
    have pl : P11.length = 11 := by rw [P11_eq]; rfl
    have pn : P11.Nodup := by rw [P11_eq]; decide
    have pt := P11_letters
    generalize P11 = PP at pl pn pt ⊢
    refine seq_eq (E' := [.deck a q l b, .dat (.int wide), .dat (.int many), .own (.lst (PP.map dC)), .own (.lst []), .own (.dit []), .no, .no, .no]) (by simp [gListX_dS]) ?_
    obtain ⟨v, l1, b1, e1, hv, hl1⟩ := draw_ok a q l b wide (by omega) (by omega) hl
    have hr : 1 + (v : Int) ≤ 16777216 ∧ -4611686018427387904 ≤ 1 + (v : Int) := by omega
    have hr2 : (1 + (v : Int)).toNat = 1 + v := by omega
    refine seq_for (fun i : Nat => D.int i) (fun r E => ∃ pool cs l b x6, E = [.deck a q l b, .dat (.int wide), .dat (.int many), .own (.lst (pool.map dC)), .own (.lst (cs.map dC)), .own (.dit []), x6, .no, .no] ∧ (cs ++ pool).Perm PP ∧ cs.length + r.length = 1 + v ∧ l.length ≤ 63) (List.range (1 + v)) (E' := [.deck a q l1 b1, .dat (.int wide), .dat (.int many), .own (.lst (PP.map dC)), .own (.lst []), .own (.dit []), .no, .no, .no]) (by simp [m__law_draw, e1, hr, hr2, rgD_map]) ⟨PP, [], l1, b1, .no, rfl, List.Perm.refl _, by simp, hl1⟩ ?_ ?_
    · rintro i r _ ⟨pool, cs, l2, b2, x6, rfl, hp, hc, hl2⟩
      refine ⟨_, rfl, ?_⟩
      have hpl := hp.length_eq
      rw [List.length_append, pl] at hpl
      simp only [List.length_cons] at hc
      obtain ⟨u, l3, b3, e3, hu, hl3⟩ := draw_ok a q l2 b2 pool.length (by omega) (by omega) hl2
      have hu : u < pool.length := by omega
      have hg := gPopAt_nat dC pool u hu (by omega)
      have hcs : cs.length < 16777216 := by omega
      refine Ok.of (pop_step c a q l2 l3 b2 b3 gPopAt pool cs _ _ _ _ _ _ u pool[u] _ e3 hg hcs) ?_
      refine ⟨.inl rfl, pool.eraseIdx u, cs ++ [pool[u]], l3, b3, .dat (.int i), rfl, ?_, by simp; omega, hl3⟩
      refine List.Perm.trans ?_ hp
      rw [List.append_assoc]
      exact (erase_perm pool u hu).append_left cs
    · rintro _ ⟨pool, cs, l2, b2, x6, rfl, hp, hc, hl2⟩
      have hc : cs.length = 1 + v := by simpa using hc
      have hnd : cs.Nodup := by
        have : (cs ++ pool).Nodup := hp.nodup_iff.mpr pn
        exact (List.nodup_append.mp this).1
      have hlet : ∀ x ∈ cs, x ∈ letters := fun x hx => pt x (hp.mem_iff.mp (List.mem_append_left _ hx))
      obtain ⟨cols, hcols⟩ : ∃ cols, cols = sortB ltN cs := ⟨_, rfl⟩
      have casc : Asc cols := hcols ▸ Asc.sort hnd
      have clet : ∀ x ∈ cols, x ∈ letters := fun x hx => hlet x (mem_sortB.mp (hcols ▸ hx))
      have clen : cols.length = 1 + v := by rw [hcols, sortB_len, hc]
      have cne : cols ≠ [] := fun z => by rw [z] at clen; simp at clen; omega
      have cpos : 0 < cols.length := by omega
      refine seq_eq (E' := [.deck a q l2 b2, .dat (.int wide), .dat (.int many), .own (.lst (pool.map dC)), .own (.lst (cols.map dC)), .own (dT []), x6, .no, .no]) (by simp [hcols]; rfl) ?_
      obtain ⟨n, l3, b3, e3, hn, hl3⟩ := draw_ok a q l2 b2 (many + 1 : Nat) (by omega) (by omega) hl2
      have hn2 : (n : Int) ≤ 16777216 ∧ -4611686018427387904 ≤ (n : Int) := by omega
      have e3 : drawR a q { l := l2, b := b2 } [D.int (↑many + 1)] = _ := e3
      refine seq_for (fun i : Nat => D.int i) (fun r E => ∃ l b x4 x6 x7 rs, E = [.deck a q l b, .dat (.int wide), .dat (.int many), .own (.lst (pool.map dC)), x4, .own (dT rs), x6, x7, .no] ∧ (x4 = .own (.lst (cols.map dC)) ∨ x4 = .dat (.lst (cols.map dC))) ∧ rs.Nodup ∧ (∀ p ∈ rs, Asc p.1 ∧ (∀ x ∈ p.1, x ∈ cols) ∧ p.2 ∈ cols ∧ p.2 ∉ p.1) ∧ rs.length + r.length ≤ many ∧ l.length ≤ 63) (List.range n) (E' := [.deck a q l3 b3, .dat (.int wide), .dat (.int many), .own (.lst (pool.map dC)), .own (.lst (cols.map dC)), .own (dT []), x6, .no, .no]) (by simp [m__law_draw, e3, hn2, rgD_map]) ⟨_, _, _, _, _, [], rfl, .inl rfl, List.nodup_nil, by simp, by simp; omega, hl3⟩ ?_ ?_
      · rintro i r _ ⟨l4, b4, x4, x6, x7, rs, rfl, hx4, hrn, hrs, hrl, hl4⟩
        refine ⟨_, rfl, ?_⟩
        simp only [List.length_cons] at hrl
        obtain ⟨x, hx, l5, b5, e5, hl5⟩ := m_pick_lst c a q l4 b4 cols dC cne (by omega) hl4
        refine seq_eq (E' := [.deck a q l5 b5, .dat (.int wide), .dat (.int many), .own (.lst (pool.map dC)), .dat (.lst (cols.map dC)), .own (dT rs), .dat (.int i), .dat (dC x), .no]) (by rcases hx4 with rfl | rfl <;> simp [e5]) ?_
        refine Ok.cps fun P hP => ?_
        simp [Ok_bind, -compL_res']
        refine compL_sub dC (fun E => ∃ l b, E = [.deck a q l b, .dat (.int wide), .dat (.int many), .own (.lst (pool.map dC)), .dat (.lst (cols.map dC)), .own (dT rs), .dat (.int i), .dat (dC x), .no] ∧ l.length ≤ 63) (fun y => y ≠ x) cols ⟨_, _, rfl, hl5⟩ ?_ ?_
        · rintro y hy _ ⟨l6, b6, rfl, hl6⟩
          refine ⟨_, rfl, ?_⟩
          refine Ok.cps fun P hP => ?_
          by_cases hyx : y = x
          · simp [hyx]
            exact hP _ ⟨⟨_, _, rfl, hl6⟩, fun h => by simp at h⟩
          · obtain ⟨w, l7, b7, e7, hw, hl7⟩ := draw_ok a q l6 b6 3 (by omega) (by omega) hl6
            simp [hyx, m__law_draw, e7]
            exact hP _ ⟨⟨_, _, rfl, hl7⟩, fun _ => ⟨by simp, hyx⟩⟩
        · rintro ls _ hsub hnx ⟨l6, b6, rfl, hl6⟩
          have hll := hsub.length_le
          have hj := gJoin_signs ls (by omega)
          have hrl2 : rs.length < 16777216 := by omega
          have hsm : ∀ r, small [dS ls, dC x] r = r := fun r => small_ok (by simp)
          have hput := put_rule rs (ls, x) hrl2
          simp [hj, hsm, tup_dR, hput]
          refine hP _ ⟨.inl rfl, l6, b6, _, _, _, _, rfl, .inr rfl, ?_, ?_, ?_, hl6⟩
          · split
            · exact hrn
            · rename_i hno
              rw [List.nodup_append]
              refine ⟨hrn, by simp, fun p hp' p' hp'' e => ?_⟩
              rw [List.mem_singleton.mp hp''] at e
              exact hno (e ▸ hp')
          · intro p hp'
            have : p ∈ rs ∨ p = (ls, x) := by
              split at hp'
              · exact .inl hp'
              · rcases List.mem_append.mp hp' with z | z
                · exact .inl z
                · exact .inr (List.mem_singleton.mp z)
            rcases this with z | rfl
            · exact hrs p z
            · exact ⟨casc.sublist hsub, fun y hy => hsub.mem hy, hx, fun z => hnx x z rfl⟩
          · have : (if (ls, x) ∈ rs then rs else rs ++ [(ls, x)]).length ≤ rs.length + 1 := by
              split <;> simp
            omega
      · rintro _ ⟨l4, b4, x4, x6, x7, rs, rfl, hx4, hrn, hrs, hrl, hl4⟩
        have hrl : rs.length ≤ many := by simpa using hrl
        have hj := gJoin_signs cols (by omega)
        have hrl2 : rs.length ≤ 16777216 := by omega
        refine Ok.cps fun P hP => ?_
        have hs : Sch cols (sortB ruleLt rs) := ⟨casc, clet, cne, fun r hr => (hrs r (mem_sortB.mp hr)).2.1, fun r hr => (hrs r (mem_sortB.mp hr)).1, fun r hr => (hrs r (mem_sortB.mp hr)).2.2.1, fun r hr => (hrs r (mem_sortB.mp hr)).2.2.2, ordR.asc hrn⟩
        rcases hx4 with rfl | rfl <;>
        · simp [hj, dT, hrl2, list_dT, merge_W, -List.map_map]
          exact hP _ ⟨_, l4, b4, _, rfl, cols, _, rfl, hs, by omega, by rw [sortB_len]; exact hrl, hl4⟩
  exact ⟨cols, R, l', b', hd ▸ e, h⟩
theorem m_code (c : CA) {cols : List Nat} {rs : List Rule} (h : Sch cols rs) : m__law_code c [dW cols rs] = .ok (dSch c.Scheme cols rs) := by
  have h := iSch_eq (schemeB_iff.mpr h)
  unfold m__law_code
  apply runP_ok
  unfold b__law_code
  simp [i_Scheme, h, dSch]
def gIsK (t : String) (d : D) : Option D := gIs (fun n => kitB n t) (fun _ => none) d
theorem pow39 : gPow (.int 10) (.int 39) = some (.int 1000000000000000000000000000000000000000) := by
  show (if cPow 10 39 = true then some (D.int ((10 : Int) ^ (39 : Int).toNat)) else none) = _
  rw [if_pos (by decide)]; rfl
def anyV : List D := [.non, .bl true, .bl false, .int 0, .int 1, .int (-1), .int 1000000000000000000000000000000000000000, .str "", .str "a", .str "ab", .str "ba", .str "A", .tup [], .tup [.int 0], .lst [], .dic [], .tup [.tup []]]
theorem anyV_ok {m w h : Nat} (hm : 40 ≤ m) : ∀ x ∈ anyV, GD m (w + 2) (h + 2) x := by
  have hp : (10 : Nat) ^ 40 ≤ 10 ^ m := Nat.pow_le_pow_right (by decide) hm
  have hb : ∀ x ∈ anyV, x.gdb 40 = true ∧ x.py.bulk ≤ 2 ∧ x.py.depth ≤ 2 := by
    have h1 : (anyV.all fun x => x.gdb 40 && decide (x.py.bulk ≤ 2) && decide (x.py.depth ≤ 2)) = true := by decide +kernel
    intro x hx
    have h2 := List.all_eq_true.mp h1 x hx
    rw [Bool.and_eq_true, Bool.and_eq_true] at h2
    exact ⟨h2.1.1, of_decide_eq_true h2.1.2, of_decide_eq_true h2.2⟩
  intro x hx
  obtain ⟨h1, h2, h3⟩ := hb x hx
  exact ⟨gdb_mono hm x h1, by omega, by omega⟩
theorem pick_any (c : CA) (a q : Addr) (l : List Int) (b : Int) (L : List D) (hne : L ≠ []) (hL : L.length ≤ 1000) (hl : l.length ≤ 63) :
    ∃ x ∈ L, ∃ l' b', m__law_pick c a q ⟨l, b⟩ [.lst L] = .ok (x, ⟨l', b'⟩) ∧ l'.length ≤ 63 := by
  obtain ⟨x, hx, l', b', e, hl'⟩ := m_pick_lst c a q l b L id hne hL hl
  rw [List.map_id] at e
  exact ⟨x, hx, l', b', e, hl'⟩
/-- the last row: a value of the law's own -/
theorem bent_end (c : CA) (a q : Addr) (l : List Int) (b : Int) (d x2 x3 : Cell) (m w h : Nat) (hm : 40 ≤ m) (hl : l.length ≤ 63) :
    Ok ((sRet (eK 0 1 (m__law_pick c) (aC (eN (nLst (aC (eC .non) (aC (eC (.bl true)) (aC (eC (.bl false)) (aC (eC (.int 0)) (aC (eC (.int 1)) (aC (eUn gNeg (eC (.int 1))) (aC (eOp gPow (eC (.int 10)) (eC (.int 39))) (aC (eC (.str "")) (aC (eC (.str "a")) (aC (eC (.str "ab")) (aC (eC (.str "ba")) (aC (eC (.str "A")) (aC (eTup aN) (aC (eTup (aC (eC (.int 0)) aN)) (aC (eN nNil) (aC (eN nDK) (aC (eTup (aC (eTup aN) aN)) aN))))))))))))))))))) aN))) [.deck a q l b, d, x2, x3])
      fun r => ∃ d' l' b' E, r = (.rt d', .deck a q l' b' :: E) ∧ GD m (w + 2) (h + 2) d' ∧ l'.length ≤ 63 := by
  obtain ⟨x, hx, l', b', e, hl'⟩ := pick_any c a q l b anyV (by simp [anyV]) (by simp [anyV]) hl
  have hg := anyV_ok (w := w) (h := h) hm x hx
  have hs : ∀ (xs : List D) r, xs.length ≤ 20 → small xs r = r := fun xs r h => small_ok (by omega)
  unfold anyV at e
  refine Ok.cps fun P hP => ?_
  simp [pow39, hs, e]
  exact hP _ ⟨x, l', b', _, rfl, hg, hl'⟩

theorem gNeT_ok (xs : List D) : gNeT (.tup xs) (.tup []) = some (.bl (!xs.isEmpty)) := rfl
/-- an int: another one, a bool, a text -/
theorem bent_int (c : CA) (rec : Addr → Addr → Dk → List D → Res (D × Dk)) (a q : Addr) (l : List Int) (b : Int) (i : Int) (m w h : Nat) (hm : 40 ≤ m) (hm2 : m ≤ 400) (hl : l.length ≤ 63) (hi : i.natAbs < 10 ^ m) :
    Ok (b__law_bent c rec [.deck a q l b, .dat (.int i), .no, .no]) fun r => ∃ d' l' b' E, r = (.rt d', .deck a q l' b' :: E) ∧ GD (m + 1) (w + m + 2) (h + 2) d' ∧ l'.length ≤ 63 := by
  obtain ⟨v, l1, b1, e1, hv, hl1⟩ := draw_ok a q l b 4 (by omega) (by omega) hl
  unfold b__law_bent
  refine seq_eq (E' := [.deck a q l b, .dat (.int i), .no, .no]) (by simp) ?_
  by_cases h0 : 0 < v
  · have h1 : (0 : Int) < v := by omega
    obtain ⟨h2, h3⟩ := int_short (by omega) (by omega) hi
    obtain ⟨tx, hst, hlen, hcp⟩ : ∃ tx : Str, gStrI [.int i] = some (.str tx) ∧ tx.length ≤ m + 1 ∧ ∀ c ∈ tl tx, c < 1114112 := ⟨_, if_pos h3, h2, cp_string _⟩
    obtain ⟨x, hx, l', b', e, hl'⟩ := pick_any c a q l1 b1 [.int (i + 1), .int (i - 1), .bl (decide (i = 1)), .str tx, .int (-i), .int 0] (by simp) (by simp) hl1
    have hs : ∀ (xs : List D) r, xs.length ≤ 20 → small xs r = r := fun xs r h => small_ok (by omega)
    have hpw : (10 : Nat) ^ (m + 1) = 10 * 10 ^ m := by rw [Nat.pow_succ]; omega
    have hp0 : 0 < (10 : Nat) ^ m := Nat.pow_pos (by decide)
    have hg : GD (m + 1) (w + m + 2) (h + 2) x := by
      simp only [List.mem_cons, List.not_mem_nil, or_false] at hx
      rcases hx with rfl | rfl | rfl | rfl | rfl | rfl
      · exact GD.int (by rw [hpw]; omega)
      · exact GD.int (by rw [hpw]; omega)
      · exact GD.bl _
      · exact GD.str hcp (by omega)
      · exact GD.int (by rw [hpw]; omega)
      · exact GD.int (by rw [hpw]; simp; omega)
    refine Ok.cps fun P hP => ?_
    simp [m__law_draw, e1, h0, hst, hs, e]
    exact hP _ ⟨x, l', b', _, rfl, hg, hl'⟩
  · have h1 : ¬ (0 : Int) < v := by omega
    refine seq_eq (E' := [.deck a q l1 b1, .dat (.int i), .no, .no]) (by simp [m__law_draw, e1, h0]) ?_
    refine seq_eq (E' := [.deck a q l1 b1, .dat (.int i), .no, .no]) (by simp) ?_
    refine Ok.mono (bent_end c a q l1 b1 _ _ _ m w h hm hl1) ?_
    rintro r ⟨d', l', b', E, rfl, hg, hl'⟩
    exact ⟨d', l', b', E, rfl, hg.le (by omega) (by omega) (by omega), hl'⟩
theorem sok_mem {x y : Str} (hx : ∀ c ∈ tl x, c < 1114112) (hy : ∀ c ∈ tl y, c < 1114112) : ∀ c ∈ tl (x ++ y), c < 1114112 := by
  rw [tl_append]
  intro c hc
  rcases List.mem_append.mp hc with h | h
  · exact hx c h
  · exact hy c h
theorem bent_str (c : CA) (rec : Addr → Addr → Dk → List D → Res (D × Dk)) (a q : Addr) (l : List Int) (b : Int) (x : Str) (m w h : Nat) (hm : 40 ≤ m) (hw : w ≤ 100000) (hl : l.length ≤ 63) (hx : ∀ c ∈ tl x, c < 1114112) (hn : x.length ≤ w) :
    Ok (b__law_bent c rec [.deck a q l b, .dat (.str x), .no, .no]) fun r => ∃ d' l' b' E, r = (.rt d', .deck a q l' b' :: E) ∧ GD m (3 * w + 2) (h + 2) d' ∧ l'.length ≤ 63 := by
  obtain ⟨v, l1, b1, e1, hv, hl1⟩ := draw_ok a q l b 4 (by omega) (by omega) hl
  unfold b__law_bent
  refine seq_eq (E' := [.deck a q l b, .dat (.str x), .no, .no]) (by simp) ?_
  refine seq_eq (E' := [.deck a q l b, .dat (.str x), .no, .no]) (by simp) ?_
  by_cases h0 : 0 < v
  · have h1 : (0 : Int) < v := by omega
    have hsa : ("a" : Str).length = 1 := rfl
    have hsz : ("z" : Str).length = 1 := rfl
    have ha := gAdd_str x "a" (by rw [hsa]; omega)
    have hz := gAdd_str x "z" (by rw [hsz]; omega)
    have h2 := gAdd_str x x (by omega)
    have hup : gUpper (.str x) = some (.str (Txt.upper x)) := if_pos (by omega)
    obtain ⟨y, hy, l', b', e, hl'⟩ := pick_any c a q l1 b1 [.str (x ++ "a"), .str (cutS x (some 1) none), .str ⟨(tl x).reverse.toArray⟩, .str (x ++ x), .str (Txt.upper x), .str "", .str (x ++ "z"), .tup [.str x]] (by simp) (by simp) hl1
    have hs : ∀ (xs : List D) r, xs.length ≤ 20 → small xs r = r := fun xs r h => small_ok (by omega)
    have hcut : gSl (.str x) (some 1) none = some (.str (cutS x (some 1) none)) := rfl
    have hg : GD m (3 * w + 2) (h + 2) y := by
      simp only [List.mem_cons, List.not_mem_nil, or_false] at hy
      rcases hy with rfl | rfl | rfl | rfl | rfl | rfl | rfl | rfl
      · exact GD.str (sok_mem hx (cp_string "a")) (by rw [strLen_append, hsa]; omega)
      · refine GD.str (fun c hc => hx c ?_) ?_
        · have e : tl (cutS x (some 1) none) = ((tl x).drop (HT.sIx x.length 0 (some 1))).take (HT.sIx x.length x.length none - HT.sIx x.length 0 (some 1)) := tl_mk _
          rw [e] at hc
          exact List.mem_of_mem_drop (List.mem_of_mem_take hc)
        · have e : tl (cutS x (some 1) none) = ((tl x).drop (HT.sIx x.length 0 (some 1))).take (HT.sIx x.length x.length none - HT.sIx x.length 0 (some 1)) := tl_mk _
          rw [len_tl] at hn ⊢
          rw [e]
          simp only [List.length_take, List.length_drop]
          omega
      · refine GD.str (fun c hc => hx c ?_) ?_
        · have hc : c ∈ (tl x).reverse.toArray.toList := hc
          simpa using hc
        · have e : ((tl x).reverse.toArray).size = x.length := by rw [List.size_toArray, List.length_reverse, ← len_tl]
          show ((tl x).reverse.toArray).size ≤ _
          rw [e]; omega
      · exact GD.str (sok_mem hx hx) (by rw [strLen_append]; omega)
      · refine GD.str (fun c hc => ?_) ?_
        · obtain ⟨d, hd, hc⟩ := upper_mem hc
          exact upper_low (hx d hd) hc
        · have := PyProof.Rows.len_upper x
          omega
      · exact GD.str (cp_string "") (by show 0 ≤ _; omega)
      · exact GD.str (sok_mem hx (cp_string "z")) (by rw [strLen_append, hsz]; omega)
      · have k := (GDs.cons (GD.str (m := m) (h := h + 1) hx hn) (GDs.nil (n := 0))).tup
        exact k.le (Nat.le_refl _) (by omega) (Nat.le_refl _)
    refine Ok.cps fun P hP => ?_
    simp [m__law_draw, e1, h0, hs, ha, hz, h2, hup, hcut, gStep_str, e]
    exact hP _ ⟨y, l', b', _, rfl, hg, hl'⟩
  · have h1 : ¬ (0 : Int) < v := by omega
    refine seq_eq (E' := [.deck a q l1 b1, .dat (.str x), .no, .no]) (by simp [m__law_draw, e1, h0]) ?_
    refine Ok.mono (bent_end c a q l1 b1 _ _ _ m w h hm hl1) ?_
    rintro r ⟨d', l', b', E, rfl, hg, hl'⟩
    exact ⟨d', l', b', E, rfl, hg.le (by omega) (by omega) (by omega), hl'⟩
theorem bent_rest (c : CA) (rec : Addr → Addr → Dk → List D → Res (D × Dk)) (a q : Addr) (l : List Int) (b : Int) (d : D) (m w h : Nat) (hm : 40 ≤ m) (hl : l.length ≤ 63) (hd : d = .non ∨ (∃ k, d = .bl k) ∨ (∃ xs, d = .lst xs) ∨ (∃ xs, d = .dic xs)) :
    Ok (b__law_bent c rec [.deck a q l b, .dat d, .no, .no]) fun r => ∃ d' l' b' E, r = (.rt d', .deck a q l' b' :: E) ∧ GD m (w + 2) (h + 2) d' ∧ l'.length ≤ 63 := by
  have dic_is : ∀ (xs : List (Key × D)) (t : String), gIs (fun n => kitB n t) (fun _ => none) (.dic xs) = (kitB "dict" t).map .bl := fun _ _ => rfl
  unfold b__law_bent
  refine seq_eq (E' := [.deck a q l b, .dat d, .no, .no]) (by rcases hd with rfl | ⟨k, rfl⟩ | ⟨xs, rfl⟩ | ⟨xs, rfl⟩ <;> simp [dic_is]) ?_
  refine seq_eq (E' := [.deck a q l b, .dat d, .no, .no]) (by rcases hd with rfl | ⟨k, rfl⟩ | ⟨xs, rfl⟩ | ⟨xs, rfl⟩ <;> simp [dic_is]) ?_
  refine seq_eq (E' := [.deck a q l b, .dat d, .no, .no]) (by rcases hd with rfl | ⟨k, rfl⟩ | ⟨xs, rfl⟩ | ⟨xs, rfl⟩ <;> simp [dic_is]) ?_
  exact bent_end c a q l b _ _ _ m w h hm hl
theorem seq_rt {s1 s2 : SF} {E : Env} {Q : Fl × Env → Prop} (h : Ok (s1 E) fun r => (∃ d, r.1 = .rt d) ∧ Q r) : Ok (sSeq s1 s2 E) Q := by
  obtain ⟨⟨f, E'⟩, e, ⟨d, e2⟩, h⟩ := h
  dsimp only at e2
  subst e2
  rw [ap_sSeq, e]
  exact ⟨_, rfl, h⟩
theorem cut_to (xs : List D) (i : Nat) : cutD xs none (some (i : Int)) = xs.take i := by
  unfold cutD
  rw [HT.sIx_none, HT.sIx_nat, List.drop_zero, Nat.sub_zero]
  rw [List.take_eq_take_min]
  simp [Nat.min_comm]
theorem bulk_app (xs ys : List D) : PyData.bulkAll (pyL (xs ++ ys)) = PyData.bulkAll (pyL xs) + PyData.bulkAll (pyL ys) := by
  induction xs with
  | nil =>
    show PyData.bulkAll (pyL ys) = 0 + PyData.bulkAll (pyL ys)
    omega
  | cons x xs ih =>
    show x.py.bulk + 1 + PyData.bulkAll (pyL (xs ++ ys)) = x.py.bulk + 1 + PyData.bulkAll (pyL xs) + PyData.bulkAll (pyL ys)
    rw [ih]; omega
theorem bent_tup (c : CA) (rec : Addr → Addr → Dk → List D → Res (D × Dk)) (a q : Addr) (l : List Int) (b : Int) (xs : List D) (m w h : Nat) (hm : 40 ≤ m) (hm2 : m ≤ 400) (hw : w ≤ 100000) (hl : l.length ≤ 63) (g : GDs m w h xs)
    (ih : ∀ (d : D) (l : List Int) (b : Int) (w : Nat), GD m w h d → w ≤ 100000 → l.length ≤ 63 → ∃ d' l' b', rec a q ⟨l, b⟩ [d] = .ok (d', ⟨l', b'⟩) ∧ (GD (m + 1) (3 * w + m + 2) (h + 2) d' ∧ l'.length ≤ 63)) :
    Ok (b__law_bent c rec [.deck a q l b, .dat (.tup xs), .no, .no]) fun r => ∃ d' l' b' E, r = (.rt d', .deck a q l' b' :: E) ∧ GD (m + 1) (3 * w + m + 2) (h + 3) d' ∧ l'.length ≤ 63 := by
  have stay : ∀ l1 b1, l1.length ≤ 63 → (sIf (tAnd' (tB (eIs (fun n => kitB n "tuple") (fun _ => none) (eV 1))) (tAnd' (tB (eOp gNeT (eV 1) (eTup aN))) (tB (eOp gGt (eK 0 1 (m__law_draw c) (aC (eC (.int 6)) aN)) (eC (.int 0)))))) (sSeq (sPar [2, 3] [.e (eK 0 1 (m__law_draw c) (aC (eCall gLen (aC (eV 1) aN)) aN)), .e (eK 0 1 (m__law_draw c) (aC (eC (.int 9)) aN))])
      (sSeq (sIf (tB (eOp gEq (eV 3) (eC (.int 0)))) (sRet (eOp gAdd (eSl gSl (eV 1) oNo (oSo (eV 2))) (eSl gSl (eV 1) (oSo (eOp gAdd (eV 2) (eC (.int 1)))) oNo))) sNx)
      (sSeq (sIf (tB (eOp gEq (eV 3) (eC (.int 1)))) (sRet (eOp gAdd (eSl gSl (eV 1) oNo (oSo (eOp gAdd (eV 2) (eC (.int 1))))) (eSl gSl (eV 1) (oSo (eV 2)) oNo))) sNx)
      (sSeq (sIf (tB (eOp gEq (eV 3) (eC (.int 2)))) (sRet (eOp gAdd (eOp gAdd (eSl gSl (eV 1) oNo (oSo (eV 2))) (eUn (gStep (-1)) (eSl gSl (eV 1) (oSo (eV 2)) (oSo (eOp gAdd (eV 2) (eC (.int 2))))))) (eSl gSl (eV 1) (oSo (eOp gAdd (eV 2) (eC (.int 2)))) oNo))) sNx)
      (sSeq (sIf (tB (eOp gEq (eV 3) (eC (.int 3)))) (sRet (eN (nCall gList (aC (eV 1) aN)))) sNx)
      (sRet (eOp gAdd (eOp gAdd (eSl gSl (eV 1) oNo (oSo (eV 2))) (eTup (aC (eK 0 1 rec (aC (eOp gIx (eV 1) (eV 2)) aN)) aN))) (eSl gSl (eV 1) (oSo (eOp gAdd (eV 2) (eC (.int 1)))) oNo)))))))) sNx) [.deck a q l b, .dat (.tup xs), .no, .no] = .ok (.nx, [.deck a q l1 b1, .dat (.tup xs), .no, .no]) →
      Ok (b__law_bent c rec [.deck a q l b, .dat (.tup xs), .no, .no]) fun r => ∃ d' l' b' E, r = (.rt d', .deck a q l' b' :: E) ∧ GD (m + 1) (3 * w + m + 2) (h + 3) d' ∧ l'.length ≤ 63 := by
    intro l1 b1 hl1 e
    unfold b__law_bent
    refine seq_eq e ?_
    refine seq_eq (E' := [.deck a q l1 b1, .dat (.tup xs), .no, .no]) (by simp) ?_
    refine seq_eq (E' := [.deck a q l1 b1, .dat (.tup xs), .no, .no]) (by simp) ?_
    refine Ok.mono (bent_end c a q l1 b1 _ _ _ m w h hm hl1) ?_
    rintro r ⟨d', l', b', E, rfl, hg, hl'⟩
    exact ⟨d', l', b', E, rfl, hg.le (by omega) (by omega) (by omega), hl'⟩
  have hs0 : ∀ r, small [] r = r := fun r => small_ok (by simp)
  cases hx : xs with
  | nil =>
    subst hx
    exact stay l b hl (by simp [gNeT_ok, hs0])
  | cons x0 r0 =>
    rw [← hx]
    have hne : xs.isEmpty = false := by rw [hx]; rfl
    have h0 : 0 < xs.length := by rw [hx]; simp
    have hlen := g.len
    obtain ⟨v, l1, b1, e1, hv, hl1⟩ := draw_ok a q l b 6 (by omega) (by omega) hl
    by_cases hv0 : 0 < v
    · clear stay
      obtain ⟨p, l2, b2, e2, hp, hl2⟩ := draw_ok a q l1 b1 xs.length (by omega) (by omega) hl1
      have hp : p < xs.length := by omega
      obtain ⟨y, l3, b3, e3, hy, hl3⟩ := draw_ok a q l2 b2 9 (by omega) (by omega) hl2
      have hgl : gLen [.tup xs] = some (.int xs.length) := rfl
      have hsl : ∀ lo hi, gSl (.tup xs) lo hi = some (.tup (cutD xs lo hi)) := fun _ _ => rfl
      have hcl : ∀ lo hi, (cutD xs lo hi).length ≤ w := fun lo hi => Nat.le_trans (cut_sub xs lo hi).length_le hlen
      have hcg : ∀ lo hi, GDs m w h (cutD xs lo hi) := fun lo hi => g.sub (cut_sub xs lo hi)
      have hs : ∀ (xs : List D) r, xs.length ≤ 20 → small xs r = r := fun xs r h => small_ok (by omega)
      unfold b__law_bent
      refine seq_rt ?_
      refine if_ok (b := true) (E' := [.deck a q l1 b1, .dat (.tup xs), .no, .no]) (by simp [gNeT_ok, hs0, hne, m__law_draw, e1, hv0]) (fun _ => ?_) (fun z => by cases z)
      refine seq_eq (E' := [.deck a q l3 b3, .dat (.tup xs), .dat (.int p), .dat (.int y)]) (by simp [m__law_draw, hgl, e2, e3]) ?_
      by_cases y0 : y = 0
      · subst y0
        have ha := gAdd_tup (cutD xs none (some (p : Int))) (cutD xs (some ((p : Int) + 1)) none) (by have := hcl none (some (p : Int)); have := hcl (some ((p : Int) + 1)) none; omega)
        refine Ok.cps fun P hP => ?_
        simp [hsl, ha]
        exact hP _ ⟨⟨_, rfl⟩, _, _, _, _, rfl, ((hcg _ _).app (hcg _ _)).tup.le (by omega) (by omega) (by omega), hl3⟩
      by_cases y1 : y = 1
      · subst y1
        have ha := gAdd_tup (cutD xs none (some ((p : Int) + 1))) (cutD xs (some (p : Int)) none) (by have := hcl none (some ((p : Int) + 1)); have := hcl (some (p : Int)) none; omega)
        refine Ok.cps fun P hP => ?_
        simp [hsl, ha]
        exact hP _ ⟨⟨_, rfl⟩, _, _, _, _, rfl, ((hcg _ _).app (hcg _ _)).tup.le (by omega) (by omega) (by omega), hl3⟩
      by_cases y2 : y = 2
      · subst y2
        have h1 := hcl none (some (p : Int))
        have h2 := hcl (some (p : Int)) (some ((p : Int) + 2))
        have h3 := hcl (some ((p : Int) + 2)) none
        have ha := gAdd_tup (cutD xs none (some (p : Int))) (cutD xs (some (p : Int)) (some ((p : Int) + 2))).reverse (by rw [List.length_reverse]; omega)
        have hb := gAdd_tup (cutD xs none (some (p : Int)) ++ (cutD xs (some (p : Int)) (some ((p : Int) + 2))).reverse) (cutD xs (some ((p : Int) + 2)) none) (by rw [List.length_append, List.length_reverse]; omega)
        refine Ok.cps fun P hP => ?_
        simp [hsl, ha, gStep_tup, hb, -List.append_assoc]
        exact hP _ ⟨⟨_, rfl⟩, _, _, _, _, rfl, (((hcg _ _).app (hcg _ _).rev).app (hcg _ _)).tup.le (by omega) (by omega) (by omega), hl3⟩
      by_cases y3 : y = 3
      · subst y3
        have hgl2 : gList [.tup xs] = some (.lst xs) := rfl
        refine Ok.cps fun P hP => ?_
        simp [hgl2]
        exact hP _ ⟨⟨_, rfl⟩, _, _, _, _, rfl, g.lst.le (by omega) (by omega) (by omega), hl3⟩
      · have hdec : xs = xs.take p ++ xs[p] :: xs.drop (p + 1) := by rw [List.getElem_cons_drop, List.take_append_drop]
        have hbk : PyData.bulkAll (pyL (xs.take p)) + (xs[p].py.bulk + 1 + PyData.bulkAll (pyL (xs.drop (p + 1)))) ≤ w := by
          have h1 := g.bulk
          rw [hdec, bulk_app] at h1
          exact h1
        have gp := g.mem (List.getElem_mem hp)
        obtain ⟨d', l4, b4, e4, gd', hl4⟩ := ih xs[p] l3 b3 xs[p].py.bulk ⟨gp.gd, Nat.le_refl _, gp.dep⟩ (by omega) hl3
        have h1 : gSl (.tup xs) none (some (p : Int)) = some (.tup (xs.take p)) := by rw [hsl, cut_to]
        have h2 : gSl (.tup xs) (some ((p : Int) + 1)) none = some (.tup (xs.drop (p + 1))) := gSl_from xs (p + 1)
        have h3 : (xs.take p).length ≤ w := Nat.le_trans (List.length_take_le _ _) (by omega)
        have h4 : (xs.drop (p + 1)).length ≤ w := by rw [List.length_drop]; omega
        have ha := gAdd_tup (xs.take p) [d'] (by simp; omega)
        have hb := gAdd_tup (xs.take p ++ [d']) (xs.drop (p + 1)) (by rw [List.length_append, List.length_singleton]; omega)
        have gt : GDs (m + 1) (PyData.bulkAll (pyL (xs.take p))) (h + 2) (xs.take p) := by
          have k := g.sub (List.take_sublist p xs)
          exact GDs.le ⟨k.gd, Nat.le_refl _, k.dep⟩ (by omega) (Nat.le_refl _) (by omega)
        have gd : GDs (m + 1) (PyData.bulkAll (pyL (xs.drop (p + 1)))) (h + 2) (xs.drop (p + 1)) := by
          have k := g.sub (List.drop_sublist (p + 1) xs)
          exact GDs.le ⟨k.gd, Nat.le_refl _, k.dep⟩ (by omega) (Nat.le_refl _) (by omega)
        have gr := ((gt.app (GDs.cons gd' (GDs.nil (n := 0)))).app gd).tup
        refine Ok.cps fun P hP => ?_
        have z1 : ¬ (y : Int) = 1 := by omega
        have z2 : ¬ (y : Int) = 2 := by omega
        have z3 : ¬ (y : Int) = 3 := by omega
        simp [h1, h2, y0, z1, z2, z3, gIx_tup_nat, hp, e4, hs, ha, hb, -List.append_assoc]
        exact hP _ ⟨⟨_, rfl⟩, _, _, _, _, rfl, gr.le (by omega) (by omega) (by omega), hl4⟩
    · exact stay l1 b1 hl1 (by simp [gNeT_ok, hs0, hne, m__law_draw, e1, hv0])
theorem bent_ok (c : CA) (a q : Addr) (m : Nat) (hm : 40 ≤ m) (hm2 : m ≤ 400) : ∀ (n h : Nat) (d : D) (l : List Int) (b : Int) (w : Nat), GD m w h d → h < n → w ≤ 100000 → l.length ≤ 63 →
    ∃ d' l' b', mr__law_bent c n a q ⟨l, b⟩ [d] = .ok (d', ⟨l', b'⟩) ∧ (GD (m + 1) (3 * w + m + 2) (h + 2) d' ∧ l'.length ≤ 63)
  | 0, h, d, l, b, w, g, hn, _, _ => absurd hn (Nat.not_lt_zero _)
  | n + 1, h, d, l, b, w, g, hn, hw, hl => by
    show ∃ d' l' b', runK (b__law_bent c (mr__law_bent c n)) 2 a q ⟨l, b⟩ [d] = .ok (d', ⟨l', b'⟩) ∧ (GD (m + 1) (3 * w + m + 2) (h + 2) d' ∧ l'.length ≤ 63)
    apply runK_ok
    show Ok (b__law_bent c (mr__law_bent c n) [.deck a q l b, .dat d, .no, .no]) _
    cases d with
    | int i =>
      refine Ok.mono (bent_int c _ a q l b i m w h hm hm2 hl g.intI) ?_
      rintro r ⟨d', l', b', E, rfl, hg, hl'⟩
      exact ⟨d', l', b', E, rfl, hg.le (by omega) (by omega) (by omega), hl'⟩
    | str x =>
      refine Ok.mono (bent_str c _ a q l b x m w h hm hw hl g.strI.1 g.strI.2) ?_
      rintro r ⟨d', l', b', E, rfl, hg, hl'⟩
      exact ⟨d', l', b', E, rfl, hg.le (by omega) (by omega) (by omega), hl'⟩
    | tup xs =>
      cases h with
      | zero => exact g.tup0.elim
      | succ h =>
        refine bent_tup c _ a q l b xs m w h hm hm2 hw hl g.items fun d l b w g hw hl => ?_
        exact bent_ok c a q m hm hm2 n h d l b w g (by omega) hw hl
    | dit _ => cases g.gd
    | obj _ _ => cases g.gd
    | _ =>
      refine Ok.mono (bent_rest c _ a q l b _ m w h hm hl (by simp)) ?_
      rintro r ⟨d', l', b', E, rfl, hg, hl'⟩
      exact ⟨d', l', b', E, rfl, hg.le (by omega) (by omega) (by omega), hl'⟩
theorem m_wholeD_ok (c : CA) {d : D} (h : notObj d = true) : m__law_is_whole c [d] = .ok (.bl (isIntD d)) := m_is_integer_ok c h
theorem gNeL_ok (xs : List D) : gNeL (.lst xs) (.lst []) = some (.bl (!xs.isEmpty)) := rfl
theorem asc_range {α : Type} (lt : α → α → Bool) : ∀ ks : List α, ascB lt ks = (List.range (ks.length - 1)).all fun j => match ks[j]?, ks[j + 1]? with
    | some a, some b => lt a b
    | _, _ => true
  | [] => rfl
  | [_] => rfl
  | a :: b :: r => by
    have ih := asc_range lt (b :: r)
    have e : (a :: b :: r).length - 1 = ((b :: r).length - 1) + 1 := by simp
    rw [e, List.range_succ_eq_map, List.all_cons, List.all_map]
    have e2 : ascB lt (a :: b :: r) = (lt a b && ascB lt (b :: r)) := rfl
    rw [e2, ih]
    rfl
/-- one item -/
theorem are_row (c : CA) (cols : List Nat) (d e : D) (h : partsOk e = true) :
    (tOr' (tNt (tB (eIs (fun n => kitB n "tuple") (fun _ => none) (eV 2)))) (tOr' (tB (eOp gNe (eCall gLen (aC (eV 2) aN)) (eV 0))) (tB (eOp gNeL (eN (nComp [3] (iSq (eV 2)) (gN 3) (tNt (tB (eF 1 (m__law_is_whole c) (aC (eV 3) aN)))) (eV 3))) (eN nNil))))) [.dat (.int (cols.length : Nat)), .dat d, .dat e, .no, .no] = .ok (!isRowB cols e, [.dat (.int (cols.length : Nat)), .dat d, .dat e, .no, .no]) := by
  by_cases ht : ∃ ds, e = .tup ds
  · obtain ⟨ds, rfl⟩ := ht
    have hp : ∀ x ∈ ds, notObj x = true := List.all_eq_true.mp h
    have h1 := is_tup_true ds
    have hcomp := compL_map (vs := [3]) (g := gN 3) (fc := tNt (tB (eF 1 (m__law_is_whole c) (aC (eV 3) aN)))) (fe := eV 3)
      (E0 := [.dat (.int (cols.length : Nat)), .dat d, .dat (.tup ds), .no, .no]) (E := [.dat (.int (cols.length : Nat)), .dat d, .dat (.tup ds), .no, .no])
      id (fun x => [.dat (.int (cols.length : Nat)), .dat d, .dat (.tup ds), .dat x, .no]) (fun x => !isIntD x) id ds (fun x hx => ⟨by simp, by simp [m_wholeD_ok c (hp x hx)], (fun z => by simp), by simp⟩) []
    rw [List.map_id, List.map_id, List.nil_append] at hcomp
    have hgl : gLen [.tup ds] = some (.int ds.length) := rfl
    have hb : isRowB cols (.tup ds) = (decide (ds.length = cols.length) && ds.all isIntD) := rfl
    have ef : (ds.filter fun x => !isIntD x).isEmpty = ds.all isIntD := by
      rw [Bool.eq_iff_iff, List.isEmpty_iff, List.filter_eq_nil_iff, List.all_eq_true]
      simp
    rw [hb]
    by_cases hl : ds.length = cols.length
    · have hne : gNe (.int (cols.length : Nat)) (.int (cols.length : Nat)) = some (.bl false) := by
        rw [Enc.int.gNe]; simp
      simp [-gIs_tup, h1, hgl, hl, hcomp, -compL_res', gNeL_ok, ef, hne]
    · have hl2 : ¬ ((ds.length : Nat) : Int) = (cols.length : Nat) := by omega
      have hne : gNe (.int (ds.length : Nat)) (.int (cols.length : Nat)) = some (.bl true) := by
        have h := Enc.int.gNe ((ds.length : Nat) : Int) ((cols.length : Nat) : Int)
        have h2 : decide (((ds.length : Nat) : Int) = ((cols.length : Nat) : Int)) = false := decide_eq_false (by omega)
        rw [h2] at h
        exact h
      simp [-gIs_tup, h1, hgl, hl, hl2, hne]
  · have ht : ∀ ds, e ≠ .tup ds := fun ds z => ht ⟨ds, z⟩
    have h1 := is_tup_false (partsOk_not h) ht
    have h2 : isRowB cols e = false := by cases e <;> first | rfl | exact absurd rfl (ht _)
    rw [h2]
    cases e with
    | tup ds => exact absurd rfl (ht _)
    | _ => simp [-gIs_int, -gIs_lst, h1]
theorem m_are_rows_no (c : CA) (cols : List Nat) {d : D} (h : notObj d = true) (hno : ∀ ds, d = .tup ds → (∀ x ∈ ds, partsOk x = true) ∧ ds.all (isRowB cols) = false) : m__law_are_rows c [.int (cols.length : Nat), d] = .ok (.bl false) := by
  unfold m__law_are_rows
  apply runP_ok
  unfold b__law_are_rows
  by_cases ht : ∃ ds, d = .tup ds
  · obtain ⟨ds, rfl⟩ := ht
    obtain ⟨hp, ha⟩ := hno ds rfl
    have h1 := is_tup_true ds
    refine seq_eq (E' := [.dat (.int (cols.length : Nat)), .dat (.tup ds), .no, .no, .no]) (by simp [-gIs_tup, h1]) ?_
    refine seq_find id (fun E => ∃ x, E = [.dat (.int (cols.length : Nat)), .dat (.tup ds), x, .no, .no]) (fun e => if isRowB cols e = true then none else some (.bl false)) ds (E' := [.dat (.int (cols.length : Nat)), .dat (.tup ds), .no, .no, .no]) (by simp) ⟨_, rfl⟩ ?_ ?_ ?_
    · rintro e he _ ⟨x, rfl⟩
      refine ⟨_, rfl, ?_⟩
      have hr := are_row c cols (.tup ds) e (hp e he)
      cases hb : isRowB cols e with
      | true =>
        rw [hb] at hr
        refine if_ok hr (fun z => by cases z) fun _ => ?_
        exact Ok.of rfl ⟨(fun d z => by simp at z), fun _ => ⟨.inl rfl, _, rfl⟩⟩
      | false =>
        rw [hb] at hr
        refine if_ok hr (fun _ => ?_) fun z => by cases z
        refine Ok.of (a := (.rt (.bl false), _)) (by simp; rfl) ⟨(fun d z => by simp at z; rw [← z]), fun z => by simp at z⟩
    · intro d' hd E
      obtain ⟨e, _, he⟩ := List.exists_of_findSome?_eq_some hd
      split at he
      · cases he
      · cases he; rfl
    · intro hn
      rw [List.findSome?_eq_none_iff] at hn
      have : ds.all (isRowB cols) = true := by
        rw [List.all_eq_true]
        intro x hx
        have := hn x hx
        by_cases hb : isRowB cols x = true
        · exact hb
        · rw [if_neg hb] at this; cases this
      rw [ha] at this; cases this
  · have h1 := is_tup_false h fun ds e => ht ⟨ds, e⟩
    cases d with
    | tup ds => exact absurd ⟨ds, rfl⟩ ht
    | _ => simp [-gIs_int, -gIs_lst, h1]
theorem m_are_rows_ok (c : CA) (cols : List Nat) (ks : List (List Int)) (hl : ∀ k ∈ ks, k.length = cols.length) (hn : ks.length ≤ 900) : m__law_are_rows c [.int (cols.length : Nat), .tup (ks.map dI)] = .ok (.bl (ascB (lexL ltI) ks)) := by
  unfold m__law_are_rows
  apply runP_ok
  unfold b__law_are_rows
  have h1 := is_tup_true (ks.map dI)
  refine seq_eq (E' := [.dat (.int (cols.length : Nat)), .dat (.tup (ks.map dI)), .no, .no, .no]) (by simp [-gIs_tup, h1]) ?_
  refine seq_all dI (fun E => ∃ x, E = [.dat (.int (cols.length : Nat)), .dat (.tup (ks.map dI)), x, .no, .no]) ks (E' := [.dat (.int (cols.length : Nat)), .dat (.tup (ks.map dI)), .no, .no, .no]) (by simp) ⟨_, rfl⟩ ?_ ?_
  · rintro k hk _ ⟨x, rfl⟩
    refine ⟨_, rfl, ?_⟩
    have hp : partsOk (dI k) = true := by
      show (k.map D.int).all notObj = true
      rw [List.all_eq_true]
      intro y hy
      obtain ⟨i, _, rfl⟩ := List.mem_map.mp hy
      rfl
    have hr := are_row c cols (.tup (ks.map dI)) (dI k) hp
    rw [isRowB_dI, decide_eq_true (hl k hk)] at hr
    refine if_ok hr (fun z => by cases z) fun _ => ?_
    exact Ok.of rfl ⟨.inl rfl, _, rfl⟩
  · rintro _ ⟨x, rfl⟩
    obtain ⟨A, hA, hasc⟩ : ∃ A : Nat → Bool, (∀ (j : Nat) (h : j + 1 < ks.length), A j = lexL ltI (ks[j]'(by omega)) ks[j + 1]) ∧ ascB (lexL ltI) ks = (List.range (ks.length - 1)).all A := by
      refine ⟨_, ?_, asc_range (lexL ltI) ks⟩
      intro j h
      rw [List.getElem?_eq_getElem (by omega), List.getElem?_eq_getElem h]
    have hgl : gLen [.tup (ks.map dI)] = some (.int ks.length) := by
      show some (D.int (ks.map dI).length) = _
      rw [List.length_map]
    have hcomp := compL_map (vs := [4]) (g := gN 4) (fc := tNt (tB (eOp gLt (eOp gIx (eV 1) (eOp gSub (eV 4) (eC (.int 1)))) (eOp gIx (eV 1) (eV 4))))) (fe := eV 4)
      (E0 := [.dat (.int (cols.length : Nat)), .dat (.tup (ks.map dI)), x, .no, .no]) (E := [.dat (.int (cols.length : Nat)), .dat (.tup (ks.map dI)), x, .no, .no])
      (fun j : Nat => D.int (1 + (j : Int))) (fun j => [.dat (.int (cols.length : Nat)), .dat (.tup (ks.map dI)), x, .no, .dat (.int (1 + (j : Int)))]) (fun j => !A j) (fun j => .int (1 + (j : Int))) (List.range (ks.length - 1)) (fun j hj => by
        have hj := List.mem_range.mp hj
        have g1 : gIx (.tup (ks.map dI)) (.int (j : Nat)) = some (dI (ks[j]'(by omega))) := by
          rw [gIx_tup_nat, List.getElem?_map, List.getElem?_eq_getElem (by omega)]; rfl
        have g2 : gIx (.tup (ks.map dI)) (.int (1 + (j : Int))) = some (dI (ks[j + 1]'(by omega))) := by
          have e : (1 + (j : Int)) = ((j + 1 : Nat) : Int) := by omega
          rw [e, gIx_tup_nat, List.getElem?_map, List.getElem?_eq_getElem (by omega)]; rfl
        have e3 : (1 + (j : Int) - 1) = (j : Int) := by omega
        have ha : A j = lexL ltI (ks[j]'(by omega)) (ks[j + 1]'(by omega)) := hA j (by omega)
        exact ⟨by simp, by simp [e3, g1, g2, ha], (fun z => by simp), by simp⟩) []
    have e4 : iR2 (aC (eC (.int 1)) (aC (eCall gLen (aC (eV 1) aN)) aN)) [.dat (.int (cols.length : Nat)), .dat (.tup (ks.map dI)), x, .no, .no] = .ok ((List.range (ks.length - 1)).map (fun j : Nat => D.int (1 + (j : Int))), [.dat (.int (cols.length : Nat)), .dat (.tup (ks.map dI)), x, .no, .no]) := by
      have hr : (ks.length : Int) - 1 ≤ 16777216 ∧ (ks.length : Int) < 4611686018427387904 ∧ -4611686018427387904 ≤ (ks.length : Int) := by omega
      have hr2 : ((ks.length : Int) - 1).toNat = ks.length - 1 := by omega
      simp [hgl, hr, hr2, rgD]
    have hf : ((List.range (ks.length - 1)).filter fun j => !A j).isEmpty = ascB (lexL ltI) ks := by
      rw [hasc, Bool.eq_iff_iff, List.isEmpty_iff, List.filter_eq_nil_iff, List.all_eq_true]
      simp
    have hnil : gEq (.lst (((List.range (ks.length - 1)).filter fun j => !A j).map fun j : Nat => D.int (1 + (j : Int)))) (.lst []) = some (.bl (ascB (lexL ltI) ks)) := by
      rw [gEq_nil, List.isEmpty_map, hf]
      rw [plainL_all, List.all_eq_true]
      intro d hd
      obtain ⟨x, _, rfl⟩ := List.mem_map.mp hd
      rfl
    rw [List.nil_append] at hcomp
    simp [e4, hcomp, hnil, -compL_res', -ap_iR2]
theorem gSl_fromL (l : List D) (i : Nat) : gSl (.lst l) (some (i : Int)) none = some (.lst (l.drop i)) := by
  have h := gSl_from l i
  have h : some (D.tup (cutD l (some (i : Int)) none)) = some (D.tup (l.drop i)) := h
  show some (D.lst (cutD l (some (i : Int)) none)) = _
  injection h with h
  injection h with h
  rw [h]
theorem broken_isN (cols : List Nat) (R : List Rule) (rows : List (List Int)) : gIsN false (brokenD cols R rows) .non = some (.bl (brokenO cols R rows).isNone) := by
  unfold brokenD
  cases hb : brokenO cols R rows with
  | none => rfl
  | some d =>
    have : isNon d = false := by
      unfold brokenO at hb
      obtain ⟨q, _, hq⟩ := List.exists_of_findSome?_eq_some hb
      obtain ⟨p, _, hp⟩ := List.exists_of_findSome?_eq_some hq
      unfold hitD at hp
      split at hp
      · cases hp; rfl
      · cases hp
    show (if isNon D.non = true then some (D.bl (isNon d)) else none) = _
    rw [this]; rfl
theorem m_bad_lst (c : CA) {cols : List Nat} {R : List Rule} {rows : List (List Int)} (s : Sch cols R) (hl : ∀ a ∈ rows, a.length = cols.length) : m__law_bad c [dW cols R, .lst (rows.map dI)] = .ok (brokenD cols R rows) := by
  have hnd := s.asc.nodup
  unfold m__law_bad
  apply runP_ok
  unfold b__law_bad
  refine seq_find (fun q : Rule × Nat => D.tup [.int (q.2 : Nat), dR q.1]) (fun E => ∃ x2 x3 x4 x5 x6 x8 x9 x10 x11, E = [.dat (dW cols R), .dat (.lst (rows.map dI)), x2, x3, x4, x5, x6, .no, x8, x9, x10, x11, .no]) (fun q => (pairsF rows).findSome? (hitD cols q.2 q.1)) R.zipIdx (E' := [.dat (dW cols R), .dat (.lst (rows.map dI)), .no, .no, .no, .no, .no, .no, .no, .no, .no, .no, .no]) ?_ ⟨_, _, _, _, _, _, _, _, _, rfl⟩ ?_ ?_ ?_
  · simp [numD0]
  · rintro ⟨r, i⟩ hq _ ⟨x2, x3, x4, x5, x6, x8, x9, x10, x11, rfl⟩
    have hr : r ∈ R := (List.mem_zipIdx hq).2.2 ▸ List.getElem_mem _
    refine ⟨_, rfl, ?_⟩
    have hsp : compL [7] (gN 7) tYes' (eM1 gSIdx (eOp gGet (eV 0) (eC (.str "cols"))) (eV 7)) [.dat (dW cols R), .dat (.lst (rows.map dI)), .dat (.int (i : Nat)), .dat (dS r.1), .dat (dC r.2), x5, x6, .no, x8, x9, x10, x11, .no] (r.1.map dC) [] [.dat (dW cols R), .dat (.lst (rows.map dI)), .dat (.int (i : Nat)), .dat (dS r.1), .dat (dC r.2), x5, x6, .no, x8, x9, x10, x11, .no] = .ok (.lst (r.1.map fun x => .int (cols.idxOf x : Nat)), [.dat (dW cols R), .dat (.lst (rows.map dI)), .dat (.int (i : Nat)), .dat (dS r.1), .dat (dC r.2), x5, x6, .no, x8, x9, x10, x11, .no]) := by
      rw [compL_all dC (fun x => [.dat (dW cols R), .dat (.lst (rows.map dI)), .dat (.int (i : Nat)), .dat (dS r.1), .dat (dC r.2), x5, x6, .dat (dC x), x8, x9, x10, x11, .no]) (fun x => D.int (cols.idxOf x : Nat)) r.1 ?h]
      intro x hx
      refine ⟨rfl, ?_, rfl⟩
      have h1 := sidx_dC hnd (s.left r hr x hx)
      have hx2 : dS cols = .str (T cols) := rfl
      have hg := get_cols cols R
      rw [hx2] at h1 hg
      simp [-get_cols, hg, h1]
    have hat : eM1 gSIdx (eOp gGet (eV 0) (eC (.str "cols"))) (eV 4) [.dat (dW cols R), .dat (.lst (rows.map dI)), .dat (.int (i : Nat)), .dat (dS r.1), .dat (dC r.2), x5, x6, .no, x8, x9, x10, x11, .no] = .ok (.dat (.int (cols.idxOf r.2 : Nat)), [.dat (dW cols R), .dat (.lst (rows.map dI)), .dat (.int (i : Nat)), .dat (dS r.1), .dat (dC r.2), x5, x6, .no, x8, x9, x10, x11, .no]) := by
      have h1 := sidx_dC hnd (s.right r hr)
      have hx2 : dS cols = .str (T cols) := rfl
      have hg := get_cols cols R
      rw [hx2] at h1 hg
      simp [-get_cols, hg, h1]
    refine seq_eq (E' := [.dat (dW cols R), .dat (.lst (rows.map dI)), .dat (.int (i : Nat)), .dat (dS r.1), .dat (dC r.2), .dat (.lst (r.1.map fun x => .int (cols.idxOf x : Nat))), .dat (.int (cols.idxOf r.2 : Nat)), .no, x8, x9, x10, x11, .no]) (by simp [hsp, hat, -compL_res', -ap_eM1]) ?_
    dsimp only
    rw [pairs_find]
    refine for_find (fun p : List Int × Nat => D.tup [.int (p.2 : Nat), dI p.1]) (fun E => ∃ x8 x9 x10 x11, E = [.dat (dW cols R), .dat (.lst (rows.map dI)), .dat (.int (i : Nat)), .dat (dS r.1), .dat (dC r.2), .dat (.lst (r.1.map fun x => .int (cols.idxOf x : Nat))), .dat (.int (cols.idxOf r.2 : Nat)), .no, x8, x9, x10, x11, .no]) (fun p => (rows.drop (p.2 + 1)).findSome? fun b => hitD cols i r (p.1, b)) rows.zipIdx (E' := [.dat (dW cols R), .dat (.lst (rows.map dI)), .dat (.int (i : Nat)), .dat (dS r.1), .dat (dC r.2), .dat (.lst (r.1.map fun x => .int (cols.idxOf x : Nat))), .dat (.int (cols.idxOf r.2 : Nat)), .no, x8, x9, x10, x11, .no]) (by simp [numD0]) ⟨_, _, _, _, rfl⟩ ?_ ?_ ?_
    · rintro ⟨a, j⟩ ha _ ⟨x8, x9, x10, x11, rfl⟩
      have ha : a ∈ rows := (List.mem_zipIdx ha).2.2 ▸ List.getElem_mem _
      refine ⟨_, rfl, ?_⟩
      have hsl := gSl_fromL (rows.map dI) (j + 1)
      rw [← List.map_drop] at hsl
      have hsl : gSl (.lst (rows.map dI)) (some ((j : Int) + 1)) none = _ := hsl
      refine for_find dI (fun E => ∃ x10 x11, E = [.dat (dW cols R), .dat (.lst (rows.map dI)), .dat (.int (i : Nat)), .dat (dS r.1), .dat (dC r.2), .dat (.lst (r.1.map fun x => .int (cols.idxOf x : Nat))), .dat (.int (cols.idxOf r.2 : Nat)), .no, .dat (.int (j : Nat)), .dat (dI a), x10, x11, .no]) (fun b => hitD cols i r (a, b)) (rows.drop (j + 1)) (E' := [.dat (dW cols R), .dat (.lst (rows.map dI)), .dat (.int (i : Nat)), .dat (dS r.1), .dat (dC r.2), .dat (.lst (r.1.map fun x => .int (cols.idxOf x : Nat))), .dat (.int (cols.idxOf r.2 : Nat)), .no, .dat (.int (j : Nat)), .dat (dI a), x10, x11, .no]) (by simp [gAdd, hsl, -List.map_drop]) ⟨_, _, rfl⟩ ?_ ?_ ?_
      · rintro b hb _ ⟨x10, x11, rfl⟩
        have hb : b ∈ rows := List.mem_of_mem_drop hb
        refine ⟨_, rfl, ?_⟩
        have hla := hl a ha
        have hlb := hl b hb
        have hal : compL [12] (gN 12) (tB (eOp gNe (eOp gIx (eV 9) (eV 12)) (eOp gIx (eV 10) (eV 12)))) (eV 12) [.dat (dW cols R), .dat (.lst (rows.map dI)), .dat (.int (i : Nat)), .dat (dS r.1), .dat (dC r.2), .dat (.lst (r.1.map fun x => .int (cols.idxOf x : Nat))), .dat (.int (cols.idxOf r.2 : Nat)), .no, .dat (.int (j : Nat)), .dat (dI a), .dat (dI b), x11, .no] (r.1.map fun x => .int (cols.idxOf x : Nat)) [] [.dat (dW cols R), .dat (.lst (rows.map dI)), .dat (.int (i : Nat)), .dat (dS r.1), .dat (dC r.2), .dat (.lst (r.1.map fun x => .int (cols.idxOf x : Nat))), .dat (.int (cols.idxOf r.2 : Nat)), .no, .dat (.int (j : Nat)), .dat (dI a), .dat (dI b), x11, .no] = .ok (.lst ((r.1.filter fun x => !decide (colV cols a x = colV cols b x)).map fun x => .int (cols.idxOf x : Nat)), [.dat (dW cols R), .dat (.lst (rows.map dI)), .dat (.int (i : Nat)), .dat (dS r.1), .dat (dC r.2), .dat (.lst (r.1.map fun x => .int (cols.idxOf x : Nat))), .dat (.int (cols.idxOf r.2 : Nat)), .no, .dat (.int (j : Nat)), .dat (dI a), .dat (dI b), x11, .no]) := by
          rw [compL_map (fun x => D.int (cols.idxOf x : Nat)) (fun x => [.dat (dW cols R), .dat (.lst (rows.map dI)), .dat (.int (i : Nat)), .dat (dS r.1), .dat (dC r.2), .dat (.lst (r.1.map fun x => .int (cols.idxOf x : Nat))), .dat (.int (cols.idxOf r.2 : Nat)), .no, .dat (.int (j : Nat)), .dat (dI a), .dat (dI b), x11, .dat (.int (cols.idxOf x : Nat))]) (fun x => !decide (colV cols a x = colV cols b x)) (fun x => D.int (cols.idxOf x : Nat)) r.1 ?hal []]
          · rw [List.nil_append]
          · intro x hx
            have h1 := gIx_dI_at hla (s.left r hr x hx)
            have h2 := gIx_dI_at hlb (s.left r hr x hx)
            exact ⟨rfl, by simp [h1, h2], fun _ => by simp, rfl⟩
        have hnil : gEq (.lst ((r.1.filter fun x => !decide (colV cols a x = colV cols b x)).map fun x => .int (cols.idxOf x : Nat))) (.lst []) = some (.bl (decide (rowAt cols a r.1 = rowAt cols b r.1))) := by
          rw [gEq_nil, ← alike_iff, List.isEmpty_map]
          rw [plainL_all, List.all_eq_true]
          intro d hd
          obtain ⟨x, _, rfl⟩ := List.mem_map.mp hd
          rfl
        have h3 := gIx_dI_at hla (s.right r hr)
        have h4 := gIx_dI_at hlb (s.right r hr)
        refine seq_eq (E' := [.dat (dW cols R), .dat (.lst (rows.map dI)), .dat (.int (i : Nat)), .dat (dS r.1), .dat (dC r.2), .dat (.lst (r.1.map fun x => .int (cols.idxOf x : Nat))), .dat (.int (cols.idxOf r.2 : Nat)), .no, .dat (.int (j : Nat)), .dat (dI a), .dat (dI b), .dat (.bl (decide (rowAt cols a r.1 = rowAt cols b r.1))), .no]) (by simp [hal, hnil, -compL_res']) ?_
        unfold hitD breaksB
        by_cases c1 : rowAt cols a r.1 = rowAt cols b r.1
        · by_cases c2 : colV cols a r.2 = colV cols b r.2
          · simp [c1, h3, h4, c2]
          · simp only [c1, decide_true, Bool.true_and]
            simp [h3, h4, c2, small]
        · simp [c1]
      · intro d hd E
        exact ⟨fun d' hd' => (by rw [hd] at hd'; cases hd'; rfl), fun z => (by rw [hd] at z; cases z)⟩
      · rintro hz _ ⟨x10, x11, rfl⟩
        exact ⟨fun d' hd' => (by rw [hz] at hd'; cases hd'), fun _ => ⟨.inl rfl, _, _, _, _, rfl⟩⟩
    · intro d hd E
      exact ⟨fun d' hd' => (by rw [hd] at hd'; cases hd'; rfl), fun z => (by rw [hd] at z; cases z)⟩
    · rintro hz _ ⟨x8, x9, x10, x11, rfl⟩
      exact ⟨fun d' hd' => (by rw [hz] at hd'; cases hd'), fun _ => ⟨.inl rfl, _, _, _, _, _, _, _, _, _, rfl⟩⟩
  · intro d hd E
    show Fl.rt d = .rt (brokenD cols R rows)
    unfold brokenD brokenO
    rw [hd]; rfl
  · rintro hz _ ⟨x2, x3, x4, x5, x6, x8, x9, x10, x11, rfl⟩
    have : brokenD cols R rows = .non := by unfold brokenD brokenO; rw [hz]; rfl
    simp [this]
theorem m_kept_ok (c : CA) {cols : List Nat} {R : List Rule} {rows : List (List Int)} (s : Sch cols R) (hl : ∀ a ∈ rows, a.length = cols.length) (hn : rows.length ≤ 900) :
    ∃ ks : List (List Int), m__law_kept c [dW cols R, .tup (rows.map dI)] = .ok (.tup (ks.map dI)) ∧ ks.Sublist rows := by
  suffices h : ∃ d, m__law_kept c [dW cols R, .tup (rows.map dI)] = .ok d ∧ ∃ ks : List (List Int), d = .tup (ks.map dI) ∧ ks.Sublist rows by
    obtain ⟨d, h, ks, rfl, hs⟩ := h
    exact ⟨ks, h, hs⟩
  suffices h : Ok (b__law_kept c [.dat (dW cols R), .dat (.tup (rows.map dI)), .no, .no]) fun p => ∃ d, p.1 = .rt d ∧ ∃ ks : List (List Int), d = .tup (ks.map dI) ∧ ks.Sublist rows by
    obtain ⟨⟨f, E⟩, e, d, e2, h⟩ := h
    dsimp only at e2
    subst e2
    refine ⟨d, ?_, h⟩
    unfold m__law_kept
    exact runP_ok (Ok.of e rfl)
  unfold b__law_kept
  refine seq_eq (E' := [.dat (dW cols R), .dat (.tup (rows.map dI)), .own (.lst (([] : List (List Int)).map dI)), .no]) (by simp) ?_
  refine seq_for dI (fun r E => ∃ (ks pre : List (List Int)) (x : Cell), E = [.dat (dW cols R), .dat (.tup (rows.map dI)), .own (.lst (ks.map dI)), x] ∧ pre ++ r = rows ∧ ks.Sublist pre) rows (E' := [.dat (dW cols R), .dat (.tup (rows.map dI)), .own (.lst (([] : List (List Int)).map dI)), .no]) (by simp) ⟨[], [], _, rfl, rfl, List.Sublist.refl _⟩ ?_ ?_
  · rintro k r _ ⟨ks, pre, x, rfl, hp, hs⟩
    refine ⟨_, rfl, ?_⟩
    have hsl : ks.length ≤ rows.length := by rw [← hp]; have := hs.length_le; simp; omega
    have hk : k ∈ rows := by rw [← hp]; simp
    have hks : ∀ a ∈ ks ++ [k], a.length = cols.length := fun a ha => by
      rcases List.mem_append.mp ha with h | h
      · exact hl a (by rw [← hp]; exact List.mem_append_left _ (hs.mem h))
      · rw [List.mem_singleton.mp h]; exact hl k hk
    have e1 := m_bad_lst c s hks
    have e2 : gAdd (.lst (ks.map dI)) (.lst [dI k]) = some (.lst ((ks ++ [k]).map dI)) := by
      rw [List.map_append]; exact gAdd_lst _ _ (by simp; omega)
    have e3 := broken_isN cols R (ks ++ [k])
    have e4 : gApp (ks.map dI) [dI k] = some (.non, (ks ++ [k]).map dI) := by rw [List.map_append]; exact gApp_ok _ _ (by rw [List.length_map]; omega)
    have hsm1 : ∀ (a : D) r, small [a] r = r := fun _ _ => small_ok (by simp)
    refine Ok.cps fun P hP => ?_
    cases hb : (brokenO cols R (ks ++ [k])).isNone with
    | true =>
      rw [hb] at e3
      simp [hsm1, e2, e1, e3, e4, -List.map_append]
      exact hP _ ⟨.inl rfl, ks ++ [k], pre ++ [k], _, rfl, by simpa using hp, hs.append (List.Sublist.refl _)⟩
    | false =>
      rw [hb] at e3
      simp [hsm1, e2, e1, e3, -List.map_append]
      exact hP _ ⟨.inl rfl, ks, pre ++ [k], _, rfl, by simpa using hp, hs.trans (List.sublist_append_left _ _)⟩
  · rintro _ ⟨ks, pre, x, rfl, hp, hs⟩
    have hg : gTuple [.lst (ks.map dI)] = some (.tup (ks.map dI)) := rfl
    simp [hg]
    exact ⟨ks, rfl, by rw [← hp]; simpa using hs⟩
theorem GD.notObj {m n h : Nat} {d : D} (g : GD m n h d) : DL.notObj d = true := by
  cases d <;> first | rfl | (have := g.gd; cases this)
theorem GD.parts {m n h : Nat} {d : D} (g : GD m n h d) : DL.partsOk d = true := by
  cases d with
  | tup ds =>
    cases h with
    | zero => exact g.tup0.elim
    | succ h =>
      have gi := g.items
      show ds.all DL.notObj = true
      rw [List.all_eq_true]
      exact fun x hx => (gi.mem hx).notObj
  | obj _ _ => have := g.gd; cases this
  | _ => rfl
theorem rows_of (cols : List Nat) : ∀ ds : List D, ds.all (isRowB cols) = true → ∃ ks : List (List Int), ds = ks.map dI ∧ ∀ a ∈ ks, a.length = cols.length
  | [], _ => ⟨[], rfl, fun _ h => by cases h⟩
  | d :: ds, h => by
    rw [List.all_cons, Bool.and_eq_true] at h
    obtain ⟨k, rfl, hk⟩ := isRowB_iff.mp h.1
    obtain ⟨ks, rfl, hks⟩ := rows_of cols ds h.2
    exact ⟨k :: ks, rfl, fun a ha => by
      rcases List.mem_cons.mp ha with e | ha
      · rw [e]; exact hk
      · exact hks a ha⟩
theorem kinds (c : CA) (cols : List Nat) {m w h : Nat} {d : D} (g : GD m w h d) (hw : w ≤ 900) : ∃ k : Bool, m_is_rows c [dS cols, d] = .ok (.bl k) ∧ m__law_are_rows c [.int (cols.length : Nat), d] = .ok (.bl k) ∧
    (k = false ∨ ∃ ks : List (List Int), d = .tup (ks.map dI) ∧ (∀ a ∈ ks, a.length = cols.length) ∧ ks.length ≤ 900) ∧ ∀ ks : List (List Int), d = .tup (ks.map dI) → (∀ a ∈ ks, a.length = cols.length) → k = ascB (lexL ltI) ks := by
  by_cases hd : ∃ ds, d = .tup ds ∧ ds.all (isRowB cols) = true
  · obtain ⟨ds, rfl, ha⟩ := hd
    obtain ⟨ks, rfl, hk⟩ := rows_of cols ds ha
    have hlen : ks.length ≤ 900 := by
      cases h with
      | zero => exact g.tup0.elim
      | succ h =>
        have := g.items.len
        rw [List.length_map] at this
        omega
    have e1 := m_is_rows_ok c cols ks hk
    have e2 := m_are_rows_ok c cols ks hk hlen
    refine ⟨_, e1, e2, .inr ⟨ks, rfl, hk, hlen⟩, fun ks' e hk' => ?_⟩
    have e1' := m_is_rows_ok c cols ks' hk'
    rw [← e, e1] at e1'
    injection e1' with e1'
    injection e1' with e1'
  · have hno : ∀ ds, d = .tup ds → (∀ x ∈ ds, partsOk x = true) ∧ ds.all (isRowB cols) = false := by
      rintro ds rfl
      refine ⟨fun x hx => ?_, ?_⟩
      · cases h with
        | zero => exact g.tup0.elim
        | succ h => exact (g.items.mem hx).parts
      · cases ha : ds.all (isRowB cols) with
        | false => rfl
        | true => exact absurd ⟨ds, rfl, ha⟩ hd
    refine ⟨false, m_is_rows_no c cols g.notObj hno, m_are_rows_no c cols g.notObj hno, .inl rfl, fun ks e hk => ?_⟩
    exact absurd ⟨_, e, by
      rw [List.all_eq_true]
      intro x hx
      obtain ⟨k, hk2, rfl⟩ := List.mem_map.mp hx
      rw [isRowB_dI, decide_eq_true (hk k hk2)]⟩ hd
theorem k09_right (c : CA) {cols : List Nat} {R : List Rule} (s : Sch cols R) (cs : List Nat) {m w h : Nat} (d : D) (g : GD m w h d) (hm0 : 0 < m) (hm : m ≤ 500) (hw : w ≤ 900) (hh : h ≤ 60) :
    m__law_right c [dW cols R, dS cs, d] = .ok (.bl true) := by
  have ec := m_code c s
  obtain ⟨k1, a1, a2, _, _⟩ := kinds c cs g hw
  obtain ⟨k2, b1, b2, b3, b4⟩ := kinds c cols g hw
  have r1 := g.repr hm0 hm (by omega) hh
  have r2 : ∀ k : Bool, gReprE [.lst [.bl k, .bl k]] = some (.str (D.lst [.bl k, .bl k]).py.shown) := fun k => (GDs.cons (GD.bl (m := 1) (n := 0) (h := 0) k) (GDs.cons (GD.bl (n := 0) k) (GDs.nil (n := 0)))).lst.repr (by decide) (by decide) (by decide) (by decide)
  have hsm2 : ∀ (a b : D) r, small [a, b] r = r := fun _ _ _ => small_ok (by simp)
  obtain ⟨t, ht⟩ : ∃ t : Bool → Str, ∀ k, gReprE [.lst [.bl k, .bl k]] = some (.str (t k)) := ⟨_, r2⟩
  -- whether it is a table
  obtain ⟨k3, c1, c2⟩ : ∃ k3 : Bool, m_is_table c [dSch c.Scheme cols R, d] = .ok (.bl k3) ∧ ((k2 = false ∧ k3 = false) ∨ (k2 = true ∧ ∃ x, m__law_bad c [dW cols R, d] = .ok x ∧ gIsN false x .non = some (.bl k3))) := by
    cases k2 with
    | false =>
      refine ⟨false, ?_, .inl ⟨rfl, rfl⟩⟩
      unfold m_is_table
      apply runP_ok
      unfold b_is_table dSch
      simp [lk_cols, b1]
    | true =>
      rcases b3 with z | ⟨ks, rfl, hk, hl⟩
      · cases z
      · have h1 := m_is_table_ok c s hk hl
        have h2 := m_bad_ok c s hk
        rw [← b4 ks rfl hk, Bool.true_and] at h1
        exact ⟨_, h1, .inr ⟨rfl, _, h2, broken_isN cols R ks⟩⟩
  clear b3 b4 r2
  unfold m__law_right
  apply runP_ok
  unfold b__law_right dSch at *
  refine seq_eq (E' := [.dat (dW cols R), .dat (dS cs), .dat d, .dat (.str d.py.shown), .dat (.bl k1), .no, .no]) (by simp [r1, a2]) ?_
  refine seq_eq (E' := [.dat (dW cols R), .dat (dS cs), .dat d, .dat (.str d.py.shown), .dat (.bl k1), .no, .no]) (by simp [a1, hsm2, ht, pick, gNe_same]) ?_
  refine seq_eq (E' := [.dat (dW cols R), .dat (dS cs), .dat d, .dat (.str d.py.shown), .dat (.bl k2), .dat (.obj c.Scheme (fSch cols R)), .no]) (by simp [b2, ec]) ?_
  refine seq_eq (E' := [.dat (dW cols R), .dat (dS cs), .dat d, .dat (.str d.py.shown), .dat (.bl k3), .dat (.obj c.Scheme (fSch cols R)), .no]) (by
    rcases c2 with ⟨rfl, rfl⟩ | ⟨rfl, x, h1, h2⟩
    · simp
    · simp [h1, h2]) ?_
  refine seq_eq (E' := [.dat (dW cols R), .dat (dS cs), .dat d, .dat (.str d.py.shown), .dat (.bl k3), .dat (.obj c.Scheme (fSch cols R)), .dat (.lst [.bl k3, .bl k3])]) (by simp [c1, hsm2, pick]) ?_
  simp [r1, ht, hsm2, gEq_str]
theorem GDs_map {α : Type} {f : α → D} {m n h : Nat} : ∀ {l : List α}, (∀ a ∈ l, GD m n h (f a)) → GDs m (l.length * (n + 1)) h (l.map f)
  | [], _ => GDs.nil
  | a :: l, g => by
    have k := GDs.cons (g a List.mem_cons_self) (GDs_map (l := l) fun b hb => g b (List.mem_cons_of_mem _ hb))
    refine k.le (Nat.le_refl _) ?_ (Nat.le_refl _)
    rw [List.length_cons, Nat.succ_mul]; omega
theorem GD_row {k : List Int} {n : Nat} (hk : ∀ i ∈ k, SmI i) (hl : k.length ≤ n) : GDs 40 n 0 (k.map D.int) := by
  have g := GDs_map (f := D.int) (m := 40) (n := 0) (h := 0) (l := k) fun i hi => GD.int (by
    obtain ⟨h1, h2⟩ := hk i hi
    have : i.natAbs < 10 ^ 30 := by omega
    exact Nat.lt_trans this (by decide +kernel))
  exact g.le (Nat.le_refl _) (by omega) (Nat.le_refl _)
theorem GD_rows {rows : List (List Int)} {f : List Int → D} {n t : Nat} (hk : ∀ k ∈ rows, GD 40 n 1 (f k)) (hl : rows.length * (n + 1) ≤ t) : GDs 40 t 1 (rows.map f) :=
  (GDs_map hk).le (Nat.le_refl _) hl (Nat.le_refl _)
theorem gSl_toS (w : List Nat) (n : Nat) : ∃ cs : List Nat, gSl (dS w) none (some (n : Int)) = some (dS cs) ∧ cs.length ≤ w.length := by
  have e0 : HT.sIx w.length 0 none = 0 := rfl
  refine ⟨(w.drop (HT.sIx w.length 0 none)).take (HT.sIx w.length w.length (some (n : Int)) - HT.sIx w.length 0 none), rfl, ?_⟩
  rw [List.length_take, List.length_drop]; omega
def ownLots : List D := [.tup [], .tup [.tup []], .tup [.tup [], .tup []], .non, .int 0, .str "", .lst [], .dic []]
def ownLots2 : List D := [.tup [.tup [.bl true]], .tup [.tup [.int 0], .tup [.int 1]], .tup [.str "a"]]
theorem own_ok : ∀ d ∈ ownLots ++ ownLots2, GD 42 900 8 d := by
  have h1 : ((ownLots ++ ownLots2).all fun x => x.gdb 42 && decide (x.py.bulk ≤ 900) && decide (x.py.depth ≤ 8)) = true := by decide +kernel
  intro x hx
  have h2 := List.all_eq_true.mp h1 x hx
  rw [Bool.and_eq_true, Bool.and_eq_true] at h2
  exact ⟨h2.1.1, of_decide_eq_true h2.1.2, of_decide_eq_true h2.2⟩
theorem k09_body (c : CA) (p q : Addr) : ∀ (l : List Int) (b : Int) (x2 x3 x4 x5 x6 x7 x9 x10 x11 : Cell), l.length ≤ 63 → pl x9 → pl x11 →
    Ok ((sSeq (sSet 3 (eK 1 2 (m__law_plan c) (aC (eC (.int 5)) (aC (eC (.int 5)) aN))))
  (sSeq (sSet 4 (eK 1 3 (m__law_lines c) (aC (eCall gLen (aC (eOp gGet (eV 3) (eC (.str "cols"))) aN)) (aC (eC (.int 12)) (aC (eOp gPow (eC (.int 10)) (eC (.int 30))) aN)))))
  (sSeq (sPar [5, 6] [.e (eF 2 (m__law_kept c) (aC (eV 3) (aC (eV 4) aN))), .e (eSl gSl (eOp gGet (eV 3) (eC (.str "cols"))) oNo (oSo (eK 1 1 (m__law_draw c) (aC (eOp gAdd (eCall gLen (aC (eOp gGet (eV 3) (eC (.str "cols"))) aN)) (eC (.int 1))) aN))))])
  (sSeq (sSet 7 (eN (nLst (aC (eV 4) (aC (eV 5) (aC (eUn (gStep (-1)) (eV 4)) (aC (eOp gAdd (eV 4) (eSl gSl (eV 4) oNo (oSo (eC (.int 1))))) (aC (eN (nCall gList (aC (eV 4) aN))) (aC (eTup aN) (aC (eTup (aC (eTup aN) aN)) (aC (eTup (aC (eTup aN) (aC (eTup aN) aN))) (aC (eC .non) (aC (eC (.int 0)) (aC (eC (.str "")) (aC (eN nNil) (aC (eN nDK) aN))))))))))))))))
  (sSeq (sSet 7 (eOp gAdd (eV 7) (eN (nLst (aC (eCall gTuple (aC (eN (nComp [8] (iSq (eV 4)) (gN 8) tYes' (eN (nCall gList (aC (eV 8) aN))))) aN)) (aC (eCall gTuple (aC (eN (nComp [8] (iSq (eV 4)) (gN 8) tYes' (eSl gSl (eV 8) oNo (oSo (eUn gNeg (eC (.int 1))))))) aN)) aN))))))
  (sSeq (sSet 7 (eOp gAdd (eV 7) (eN (nLst (aC (eTup (aC (eTup (aC (eC (.bl true)) aN)) aN)) (aC (eTup (aC (eTup (aC (eC (.int 0)) aN)) (aC (eTup (aC (eC (.int 1)) aN)) aN))) (aC (eTup (aC (eC (.str "a")) aN)) aN)))))))
  (sSeq (sFor (iR1 (aC (eC (.int 6)) aN)) (gN 9)
  (sSeq (sSet 10 (eK 1 1 (m__law_bent c) (aC (eV 5) aN)))
  (sSet 7 (eOp gAdd (eV 7) (eN (nLst (aC (eV 10) (aC (eK 1 1 (m__law_bent c) (aC (eV 10) aN)) (aC (eK 1 3 (m__law_lines c) (aC (eCall gLen (aC (eV 6) aN)) (aC (eC (.int 4)) (aC (eC (.int 3)) aN)))) aN)))))))))
  (sFor (iSq (eV 7)) (gN 11)
  (sIf (tOr' (tNt (tB (eF 3 (m__law_right c) (aC (eV 3) (aC (eOp gGet (eV 3) (eC (.str "cols"))) (aC (eV 11) aN)))))) (tNt (tB (eF 3 (m__law_right c) (aC (eV 3) (aC (eV 6) (aC (eV 11) aN))))))) (sRet (eC (.bl false))) sNx))))))))) [.no, .deck p q l b, x2, x3, x4, x5, x6, x7, .no, x9, x10, x11, .no])
  fun r => (r.1 = .nx ∨ r.1 = .ct) ∧ ∃ l b x3 x4 x5 x6 x7 x9 x10 x11, r.2 = [.no, .deck p q l b, x2, x3, x4, x5, x6, x7, .no, x9, x10, x11, .no] ∧ l.length ≤ 63 ∧ pl x9 ∧ pl x11 := by
  intro l b x2 x3 x4 x5 x6 x7 x9 x10 x11 hl h9 h11
  have hpow : gPow (.int 10) (.int 30) = some (.int 1000000000000000000000000000000) := rfl
  have hs : ∀ (xs : List D) r, xs.length ≤ 20 → small xs r = r := fun xs r h => small_ok (by omega)
  obtain ⟨cols, R, l1, b1, e1, s, hc, hR, hl1⟩ := m_plan_ok c p q l b 5 5 (by omega) (by omega) (by omega) hl
  have e1 : m__law_plan c p q ⟨l, b⟩ [D.int 5, D.int 5] = _ := e1
  obtain ⟨rows, l2, b2, e2, _, hk, hn, hl2⟩ := m_lines_ok c p q l1 b1 cols.length 12 1000000000000000000000000000000 (by omega) (by omega) (by omega) (by omega) hl1
  have e2 : m__law_lines c p q ⟨l1, b1⟩ [.int cols.length, .int 12, .int 1000000000000000000000000000000] = _ := e2
  have hlen : ∀ a ∈ rows, a.length = cols.length := fun a ha => (hk a ha).1
  obtain ⟨ks, e3, hsub⟩ := m_kept_ok c s hlen (by omega)
  obtain ⟨v, l3, b3, e4, hv, hl3⟩ := draw_ok p q l2 b2 ((cols.length + 1 : Nat) : Int) (by omega) (by omega) hl2
  have e4 : drawR p q ⟨l2, b2⟩ [D.int ((cols.length : Int) + 1)] = _ := e4
  obtain ⟨cs, e5, hcs⟩ := gSl_toS cols v
  refine seq_eq (E' := [.no, .deck p q l1 b1, x2, .dat (dW cols R), x4, x5, x6, x7, .no, x9, x10, x11, .no]) (by simp [e1]) ?_
  refine seq_eq (E' := [.no, .deck p q l2 b2, x2, .dat (dW cols R), .dat (.tup (rows.map dI)), x5, x6, x7, .no, x9, x10, x11, .no]) (by simp [hpow, e2]) ?_
  refine seq_eq (E' := [.no, .deck p q l3 b3, x2, .dat (dW cols R), .dat (.tup (rows.map dI)), .dat (.tup (ks.map dI)), .dat (dS cs), x7, .no, x9, x10, x11, .no]) (by simp [e3, m__law_draw, e4, e5]) ?_
  -- the rows as lists, the rows without the last one
  have hc1 : ∀ x7, compL [8] (gN 8) tYes' (eN (nCall gList (aC (eV 8) aN))) [.no, .deck p q l3 b3, x2, .dat (dW cols R), .dat (.tup (rows.map dI)), .dat (.tup (ks.map dI)), .dat (dS cs), x7, .no, x9, x10, x11, .no] (rows.map dI) [] [.no, .deck p q l3 b3, x2, .dat (dW cols R), .dat (.tup (rows.map dI)), .dat (.tup (ks.map dI)), .dat (dS cs), x7, .no, x9, x10, x11, .no] = .ok (.lst (rows.map fun k => .lst (k.map D.int)), [.no, .deck p q l3 b3, x2, .dat (dW cols R), .dat (.tup (rows.map dI)), .dat (.tup (ks.map dI)), .dat (dS cs), x7, .no, x9, x10, x11, .no]) := by
    intro x7
    rw [compL_all dI (fun k => [.no, .deck p q l3 b3, x2, .dat (dW cols R), .dat (.tup (rows.map dI)), .dat (.tup (ks.map dI)), .dat (dS cs), x7, .dat (dI k), x9, x10, x11, .no]) (fun k => D.lst (k.map D.int)) rows ?h1]
    intro k _
    have hg : gList [dI k] = some (.lst (k.map D.int)) := rfl
    exact ⟨rfl, by simp [hg], rfl⟩
  have hc2 : ∀ x7, compL [8] (gN 8) tYes' (eSl gSl (eV 8) oNo (oSo (eUn gNeg (eC (.int 1))))) [.no, .deck p q l3 b3, x2, .dat (dW cols R), .dat (.tup (rows.map dI)), .dat (.tup (ks.map dI)), .dat (dS cs), x7, .no, x9, x10, x11, .no] (rows.map dI) [] [.no, .deck p q l3 b3, x2, .dat (dW cols R), .dat (.tup (rows.map dI)), .dat (.tup (ks.map dI)), .dat (dS cs), x7, .no, x9, x10, x11, .no] = .ok (.lst (rows.map fun k => .tup (k.map D.int).dropLast), [.no, .deck p q l3 b3, x2, .dat (dW cols R), .dat (.tup (rows.map dI)), .dat (.tup (ks.map dI)), .dat (dS cs), x7, .no, x9, x10, x11, .no]) := by
    intro x7
    rw [compL_all dI (fun k => [.no, .deck p q l3 b3, x2, .dat (dW cols R), .dat (.tup (rows.map dI)), .dat (.tup (ks.map dI)), .dat (dS cs), x7, .dat (dI k), x9, x10, x11, .no]) (fun k => D.tup (k.map D.int).dropLast) rows ?h2]
    intro k _
    have hg : gSl (dI k) none (some (-1)) = some (.tup (k.map D.int).dropLast) := gSl_init_tup _
    exact ⟨rfl, by simp [hg], rfl⟩
  have hk5 : ∀ k ∈ rows, GDs 40 5 0 (k.map D.int) := fun k hk' => GD_row (hk k hk').2 (by rw [hlen k hk']; omega)
  have hrl : rows.length * (5 + 1) ≤ 72 := by omega
  have gxs : GDs 40 72 1 (rows.map dI) := GD_rows (fun k hk' => (hk5 k hk').tup) hrl
  have gys : GDs 40 72 1 (ks.map dI) := gxs.sub (hsub.map dI)
  have gy1 : GDs 40 72 1 (rows.map fun k => .lst (k.map D.int)) := GD_rows (fun k hk' => (hk5 k hk').lst) hrl
  have gy2 : GDs 40 72 1 (rows.map fun k => .tup (k.map D.int).dropLast) := GD_rows (fun k hk' => ((hk5 k hk').sub (List.dropLast_sublist _)).tup) hrl
  generalize (rows.map fun k => D.lst (k.map D.int)) = y1 at hc1 gy1
  generalize (rows.map fun k => D.tup (k.map D.int).dropLast) = y2 at hc2 gy2
  generalize rows.map dI = xs at hc1 hc2 gxs ⊢
  generalize ks.map dI = ys at hc1 hc2 gys ⊢
  clear e3 hk5 hsub hk hlen e2 e1 e4 e5 hn hrl
  have hxl := gxs.len
  have hcl := (cut_sub xs none (some 1)).length_le
  have hcut : gSl (.tup xs) none (some 1) = some (.tup (cutD xs none (some 1))) := rfl
  have hadd := gAdd_tup xs (cutD xs none (some 1)) (by omega)
  have hgl : gList [.tup xs] = some (.lst xs) := rfl
  obtain ⟨L0, hL0⟩ : ∃ L0 : List D, L0 = [.tup xs, .tup ys, .tup xs.reverse, .tup (xs ++ cutD xs none (some 1)), .lst xs] ++ ownLots := ⟨_, rfl⟩
  have gL0 : ∀ d ∈ L0, GD 42 900 8 d := by
    intro d hd
    rw [hL0] at hd
    rcases List.mem_append.mp hd with hd | hd
    · simp only [List.mem_cons, List.not_mem_nil, or_false] at hd
      rcases hd with rfl | rfl | rfl | rfl | rfl
      · exact gxs.tup.le (by omega) (by omega) (by omega)
      · exact gys.tup.le (by omega) (by omega) (by omega)
      · exact gxs.rev.tup.le (by omega) (by omega) (by omega)
      · exact (gxs.app (gxs.sub (cut_sub _ _ _))).tup.le (by omega) (by omega) (by omega)
      · exact gxs.lst.le (by omega) (by omega) (by omega)
    · exact own_ok d (List.mem_append_left _ hd)
  have hL0l : L0.length = 13 := by rw [hL0]; rfl
  refine seq_eq (E' := [.no, .deck p q l3 b3, x2, .dat (dW cols R), .dat (.tup xs), .dat (.tup ys), .dat (dS cs), .dat (.lst L0), .no, x9, x10, x11, .no]) (by rw [hL0]; unfold ownLots; simp [hs, gStep_tup, hcut, hadd, hgl]) ?_
  clear hL0
  have ha1 := gAdd_lst L0 [.tup y1, .tup y2] (by simp; omega)
  have t1 : gTuple [.lst y1] = some (.tup y1) := rfl
  have t2 : gTuple [.lst y2] = some (.tup y2) := rfl
  refine seq_eq (E' := [.no, .deck p q l3 b3, x2, .dat (dW cols R), .dat (.tup xs), .dat (.tup ys), .dat (dS cs), .dat (.lst (L0 ++ [.tup y1, .tup y2])), .no, x9, x10, x11, .no]) (by simp [hs, hc1, hc2, t1, t2, ha1, -compL_res']) ?_
  have ha2 := gAdd_lst (L0 ++ [.tup y1, .tup y2]) ownLots2 (by simp [ownLots2]; omega)
  have gL1 : ∀ d ∈ (L0 ++ [.tup y1, .tup y2]) ++ ownLots2, GD 42 900 8 d := by
    intro d hd
    rcases List.mem_append.mp hd with hd | hd
    · rcases List.mem_append.mp hd with hd | hd
      · exact gL0 d hd
      · simp only [List.mem_cons, List.not_mem_nil, or_false] at hd
        rcases hd with rfl | rfl
        · exact gy1.tup.le (by omega) (by omega) (by omega)
        · exact gy2.tup.le (by omega) (by omega) (by omega)
    · exact own_ok d (List.mem_append_right _ hd)
  obtain ⟨L1, hL1⟩ : ∃ L1, L1 = (L0 ++ [.tup y1, .tup y2]) ++ ownLots2 := ⟨_, rfl⟩
  have hL1l : L1.length = 18 := by rw [hL1]; simp [hL0l, ownLots2]
  rw [← hL1] at gL1 ha2
  unfold ownLots2 at ha2
  refine seq_eq (E' := [.no, .deck p q l3 b3, x2, .dat (dW cols R), .dat (.tup xs), .dat (.tup ys), .dat (dS cs), .dat (.lst L1), .no, x9, x10, x11, .no]) (by simp [hs, ha2, -List.append_assoc]) ?_
  clear hL1 ha2 ha1
  refine seq_for (fun i : Nat => D.int i) (fun r E => ∃ (l : List Int) (b : Int) (L : List D) (x9 x10 : Cell), E = [.no, .deck p q l b, x2, .dat (dW cols R), .dat (.tup xs), .dat (.tup ys), .dat (dS cs), .dat (.lst L), .no, x9, x10, x11, .no] ∧ l.length ≤ 63 ∧ L.length + 3 * r.length ≤ 36 ∧ (∀ d ∈ L, GD 42 900 8 d) ∧ pl x9) (List.range 6) (E' := [.no, .deck p q l3 b3, x2, .dat (dW cols R), .dat (.tup xs), .dat (.tup ys), .dat (dS cs), .dat (.lst L1), .no, x9, x10, x11, .no]) (by simp [← rgD_map]) ⟨l3, b3, L1, x9, x10, rfl, hl3, by simp; omega, gL1, h9⟩ ?_ ?_
  · rintro i r _ ⟨l6, b6, L, x9, x10, rfl, hl6, hLl, hL, h9⟩
    refine ⟨_, rfl, ?_⟩
    simp only [List.length_cons] at hLl
    obtain ⟨d1, l7, b7, e7, gd1, hl7⟩ := bent_ok c p q 40 (by omega) (by omega) 8 2 (.tup ys) l6 b6 72 gys.tup (by omega) (by omega) hl6
    obtain ⟨d2, l8, b8, e8, gd2, hl8⟩ := bent_ok c p q 41 (by omega) (by omega) 8 4 d1 l7 b7 _ gd1 (by omega) (by omega) hl7
    have e7 : m__law_bent c p q ⟨l6, b6⟩ [.tup ys] = .ok (d1, ⟨l7, b7⟩) := e7
    have e8 : m__law_bent c p q ⟨l7, b7⟩ [d1] = .ok (d2, ⟨l8, b8⟩) := e8
    obtain ⟨rs, l9, b9, e9, _, hk9, hn9, hl9⟩ := m_lines_ok c p q l8 b8 cs.length 4 3 (by omega) (by omega) (by omega) (by omega) hl8
    have e9 : m__law_lines c p q ⟨l8, b8⟩ [.int cs.length, .int 4, .int 3] = _ := e9
    have g9 : GDs 40 24 1 (rs.map dI) := GD_rows (n := 5) (fun k hk' => (GD_row (hk9 k hk').2 (by rw [(hk9 k hk').1]; omega)).tup) (by omega)
    generalize rs.map dI = zs at e9 g9
    have ha := gAdd_lst L [d1, d2, .tup zs] (by simp; omega)
    refine seq_eq (E' := [.no, .deck p q l7 b7, x2, .dat (dW cols R), .dat (.tup xs), .dat (.tup ys), .dat (dS cs), .dat (.lst L), .no, .dat (.int i), .dat d1, x11, .no]) (by simp [e7]) ?_
    refine Ok.cps fun P hP => ?_
    simp [hs, e8, e9, ha]
    exact hP _ ⟨.inl rfl, l9, b9, L ++ [d1, d2, .tup zs], _, _, rfl, hl9, by simp; omega, fun d hd => by
      rcases List.mem_append.mp hd with h | h
      · exact hL d h
      · simp only [List.mem_cons, List.not_mem_nil, or_false] at h
        rcases h with rfl | rfl | rfl
        · exact gd1.le (by omega) (by omega) (by omega)
        · exact gd2.le (by omega) (by omega) (by omega)
        · exact g9.tup.le (by omega) (by omega) (by omega), pl_dat _⟩
  · rintro _ ⟨l6, b6, L, x9, x10, rfl, hl6, hLl, hL, h9⟩
    refine for_all id (fun E => ∃ x11, E = [.no, .deck p q l6 b6, x2, .dat (dW cols R), .dat (.tup xs), .dat (.tup ys), .dat (dS cs), .dat (.lst L), .no, x9, x10, x11, .no] ∧ pl x11) L (E' := [.no, .deck p q l6 b6, x2, .dat (dW cols R), .dat (.tup xs), .dat (.tup ys), .dat (dS cs), .dat (.lst L), .no, x9, x10, x11, .no]) (by simp) ⟨_, rfl, h11⟩ ?_ ?_
    · rintro d hd _ ⟨x11, rfl, _⟩
      refine ⟨_, rfl, ?_⟩
      have r1 := k09_right c s cols d (hL d hd) (by omega) (by omega) (by omega) (by omega)
      have r2 := k09_right c s cs d (hL d hd) (by omega) (by omega) (by omega) (by omega)
      refine Ok.cps fun P hP => ?_
      simp [r1, r2]
      exact hP _ ⟨.inl rfl, _, rfl, pl_dat _⟩
    · rintro _ ⟨x11, rfl, h11⟩
      exact ⟨.inl rfl, _, _, _, _, _, _, _, _, _, _, rfl, hl6, h9, h11⟩
def T5 : List (D × Bool) := [(.tup [], true), (.tup [.tup []], true), (.tup [.tup [], .tup []], false), (.tup [.tup [.int 0]], false), (.lst [.tup []], false)]
theorem t5_ok (c : CA) : ∀ p ∈ T5, m_is_rows c [.str "", p.1] = .ok (.bl p.2) := by
  have h0 : D.str (Str.ofString "") = dS [] := s_15
  have hg : ∀ p ∈ T5, GD 42 900 8 p.1 := by
    have h1 : (T5.all fun x => x.1.gdb 42 && decide (x.1.py.bulk ≤ 900) && decide (x.1.py.depth ≤ 8)) = true := by decide +kernel
    intro x hx
    have h2 := List.all_eq_true.mp h1 x hx
    rw [Bool.and_eq_true, Bool.and_eq_true] at h2
    exact ⟨h2.1.1, of_decide_eq_true h2.1.2, of_decide_eq_true h2.2⟩
  intro p hp
  rw [h0]
  have g := hg p hp
  simp only [T5, List.mem_cons, List.not_mem_nil, or_false] at hp
  rcases hp with rfl | rfl | rfl | rfl | rfl
  · exact m_is_rows_ok c [] [] (fun _ h => by cases h)
  · exact m_is_rows_ok c [] [[]] (fun a h => by rw [List.mem_singleton.mp h]; rfl)
  · exact m_is_rows_ok c [] [[], []] (fun a h => by
      simp only [List.mem_cons, List.not_mem_nil, or_false, or_self] at h
      rw [h]; rfl)
  · refine m_is_rows_no c [] g.notObj fun ds e => ?_
    cases e
    exact ⟨fun x hx => by rw [List.mem_singleton.mp hx]; rfl, rfl⟩
  · exact m_is_rows_no c [] g.notObj fun ds e => by cases e
theorem k09_if (c : CA) (wa sa z z' : D) (x0 x1 x2 x5 x6 x7 x8 x9 x10 x11 x12 : Cell) (r1 : m__law_right c [wa, sa, z] = .ok (.bl true)) (r2 : m__law_right c [wa, sa, z'] = .ok (.bl true)) (hrev : gStep (-1) z = some z') :
    (sIf (tOr' (tNt (tB (eF 3 (m__law_right c) (aC (eV 3) (aC (eC sa) (aC (eV 4) aN)))))) (tNt (tB (eF 3 (m__law_right c) (aC (eV 3) (aC (eC sa) (aC (eUn (gStep (-1)) (eV 4)) aN))))))) (sRet (eC (.bl false))) sNx) [x0, x1, x2, .dat wa, .dat z, x5, x6, x7, x8, x9, x10, x11, x12] = .ok (.nx, [x0, x1, x2, .dat wa, .dat z, x5, x6, x7, x8, x9, x10, x11, x12]) := by
  simp [r1, r2, hrev]
theorem iR1_nat (n : Nat) (h : n ≤ 1000) (E : Env) : iR1 (aC (eC (.int (n : Nat))) aN) E = .ok (rgD 0 n, E) := by
  have h1 : ((n : Nat) : Int) ≤ 16777216 ∧ -4611686018427387904 ≤ ((n : Nat) : Int) := by omega
  simp [h1]
theorem math_law (c : CA) (p q : Addr) (l : List Int) (b : Int) (hl : l.length ≤ 63) : ∃ E, b_law c (.no :: .deck p q l b :: nos 11) = .ok (.rt (.bl true), E) := by
  suffices h : Ok (b_law c (.no :: .deck p q l b :: nos 11)) fun r => r.1 = .rt (.bl true) by
    obtain ⟨⟨f, E⟩, e, h⟩ := h
    dsimp only at h
    subst h
    exact ⟨E, e⟩
  have hs : ∀ (xs : List D) r, xs.length ≤ 20 → small xs r = r := fun xs r h => small_ok (by omega)
  unfold b_law
  refine seq_all (fun i : Nat => D.int i) (fun E => ∃ (l : List Int) (b : Int) (x2 x3 x4 x5 x6 x7 x9 x10 x11 : Cell), E = [.no, .deck p q l b, x2, x3, x4, x5, x6, x7, .no, x9, x10, x11, .no] ∧ l.length ≤ 63 ∧ pl x9 ∧ pl x11) (List.range 6) (E' := [.no, .deck p q l b, .no, .no, .no, .no, .no, .no, .no, .no, .no, .no, .no]) (by simp [← rgD_map]) ⟨l, b, _, _, _, _, _, _, _, _, _, rfl, hl, pl_no, pl_no⟩ ?_ ?_
  · rintro i _ _ ⟨l, b, x2, x3, x4, x5, x6, x7, x9, x10, x11, rfl, hl, h9, h11⟩
    refine ⟨_, rfl, ?_⟩
    refine Ok.mono (k09_body c p q l b _ _ _ _ _ _ _ _ _ hl h9 h11) ?_
    rintro r ⟨h1, l, b, y3, y4, y5, y6, y7, y9, y10, y11, h2, h3, h4, h5⟩
    exact ⟨h1, l, b, _, _, _, _, _, _, _, _, _, h2, h3, h4, h5⟩
  · rintro _ ⟨l, b, x2, x3, x4, x5, x6, x7, x9, x10, x11, rfl, hl, h9, h11⟩
    unfold pl at h9 h11
    have hcomp := compL_all (vs := [11]) (g := gN 11) (fe := eF 2 (m_is_rows c) (aC (eC (.str "")) (aC (eV 11) aN))) (E0 := [.no, .deck p q l b, x2, x3, x4, x5, x6, x7, .no, x9, x10, x11, .no]) (E := [.no, .deck p q l b, x2, x3, x4, x5, x6, x7, .no, x9, x10, x11, .no])
      Prod.fst (fun d => [.no, .deck p q l b, x2, x3, x4, x5, x6, x7, .no, x9, x10, .dat d.1, .no]) (fun d => .bl d.2) T5 (fun d hd => ⟨rfl, by simp [t5_ok c d hd], by simp⟩)
    have hT : T5.map Prod.fst = [.tup [], .tup [.tup []], .tup [.tup [], .tup []], .tup [.tup [.int 0]], .lst [.tup []]] := rfl
    have hT2 : (T5.map fun d => D.bl d.2) = [.bl true, .bl true, .bl false, .bl false, .bl false] := rfl
    rw [hT, hT2] at hcomp
    refine seq_eq (E' := [.no, .deck p q l b, x2, x3, x4, x5, x6, x7, .no, x9, x10, x11, .dat (.lst [.bl true, .bl true, .bl false, .bl false, .bl false])]) (by simp [h11, hs, hcomp, -compL_res']) ?_
    have hc2 := compL_all (vs := [9]) (g := gN 9) (fe := eTup (aC (eV 9) aN)) (E0 := [.no, .deck p q l b, x2, x3, x4, x5, x6, x7, .no, x9, x10, x11, .dat (.lst [.bl true, .bl true, .bl false, .bl false, .bl false])]) (E := [.no, .deck p q l b, x2, x3, x4, x5, x6, x7, .no, x9, x10, x11, .dat (.lst [.bl true, .bl true, .bl false, .bl false, .bl false])])
      (fun i : Nat => D.int i) (fun i => [.no, .deck p q l b, x2, x3, x4, x5, x6, x7, .no, .dat (.int (i : Nat)), x10, x11, .dat (.lst [.bl true, .bl true, .bl false, .bl false, .bl false])]) (fun i => .tup [.int (i : Nat)]) (List.range 60) (fun i hi => ⟨rfl, by simp [hs], by simp⟩)
    rw [← rgD_map] at hc2
    have gz : GDs 40 120 1 ((List.range 60).map fun i : Nat => D.tup [.int (i : Nat)]) := by
      have k := GDs_map (f := fun i : Nat => D.tup [.int (i : Nat)]) (m := 40) (n := 1) (h := 1) (l := List.range 60) fun i hi => by
        have hi := List.mem_range.mp hi
        exact (GDs.cons (GD.int (n := 0) (by
          have h1 : (64 : Nat) < 10 ^ 40 := by decide +kernel
          have e : (i : Int).natAbs = i := rfl
          omega)) (GDs.nil (n := 0))).tup
      exact k.le (Nat.le_refl _) (by rw [List.length_range]; omega) (Nat.le_refl _)
    generalize ((List.range 60).map fun i : Nat => D.tup [.int (i : Nat)]) = zs at hc2 gz
    have hgt : gTuple [.lst zs] = some (.tup zs) := rfl
    have w1 : D.dic [(.inr "cols", .str "a"), (.inr "rules", .tup [])] = dW [97] [] := by rw [s_6]; rfl
    have ka : Sch [97] [] := schemeB_iff.mp (by decide +kernel)
    have r1 := k09_right c ka [97] (.tup zs) gz.tup (by omega) (by omega) (by omega) (by omega)
    have r2 := k09_right c ka [97] (.tup zs.reverse) gz.rev.tup (by omega) (by omega) (by omega) (by omega)
    rw [← s_6] at r1 r2
    have e60 : iR1 (aC (eC (.int 60)) aN) [.no, .deck p q l b, x2, x3, x4, x5, x6, x7, .no, x9, x10, x11, .dat (.lst [.bl true, .bl true, .bl false, .bl false, .bl false])] = .ok (rgD 0 60, [.no, .deck p q l b, x2, x3, x4, x5, x6, x7, .no, x9, x10, x11, .dat (.lst [.bl true, .bl true, .bl false, .bl false, .bl false])]) := iR1_nat 60 (by decide) _
    generalize rgD 0 60 = rg at hc2 e60
    refine seq_eq (E' := [.no, .deck p q l b, x2, .dat (dW [97] []), .dat (.tup zs), x5, x6, x7, .no, x9, x10, x11, .dat (.lst [.bl true, .bl true, .bl false, .bl false, .bl false])]) (by simp [h9, e60, hc2, hgt, merge_W, w1, hs, -compL_res', -ap_iR1]) ?_
    refine seq_eq (k09_if c _ _ _ _ _ _ _ _ _ _ _ _ _ _ _ r1 r2 (gStep_tup zs)) ?_
    clear r1 r2 hc2 e60 hcomp
    have heq : gEq (.lst [.bl true, .bl true, .bl false, .bl false, .bl false]) (.lst [.bl true, .bl true, .bl false, .bl false, .bl false]) = some (.bl true) := rfl
    simp [hs, heq]
end DL
open PySem PySem.W PyProof.Rows in
set_option maxRecDepth 100000 in
set_option maxHeartbeats 0 in
theorem PySem.Challenge.cw_restbehind_k09_rows_and_tables_of_any_va_holds : PySem.Challenge.rw_restbehind_k09_rows_and_tables_of_any_va.Holds := by
  w_on; o_law; k_head; (case hw => w_witness2)
  k_fill
  refine DL.walk_G (l := PySem.Challenge.rw_restbehind_k09_rows_and_tables_of_any_va) (n := 63) (k := 12) (x := "_law_script") (sp := fun w => DL.spLaw _) rfl (by decide) rfl ⟨rfl, by decide, by decide⟩ (fun w h Y => PySem.W.kIn_of Y) ?F (fun _ _ a ns hl hS => ⟨a, ns, rfl, hS, hl, fun _ => rfl⟩)
  case F =>
    intro w mg fa h KX G hmg
    refine' DL.all_mk KX G hmg ?aC_Scheme ?a__law_draw ?l__law_draw ?q__law_draw ?k__law_draw ?a__law_deck ?l__law_deck ?q__law_deck ?k__law_deck ?a__law_pick ?l__law_pick ?q__law_pick ?k__law_pick ?a__law_plan ?l__law_plan ?q__law_plan ?k__law_plan ?a__law_lines ?l__law_lines ?q__law_lines ?k__law_lines ?a__law_bad ?l__law_bad ?q__law_bad ?k__law_bad ?a__law_kept ?l__law_kept ?q__law_kept ?k__law_kept ?a__law_bent ?l__law_bent ?q__law_bent ?k__law_bent ?a__law_is_whole ?l__law_is_whole ?q__law_is_whole ?k__law_is_whole ?a__law_are_rows ?l__law_are_rows ?q__law_are_rows ?k__law_are_rows ?a_is_integer ?l_is_integer ?q_is_integer ?k_is_integer ?a_is_row ?l_is_row ?q_is_row ?k_is_row ?a_is_rows ?l_is_rows ?q_is_rows ?k_is_rows ?a_is_columns ?l_is_columns ?q_is_columns ?k_is_columns ?a_are_within ?l_are_within ?q_are_within ?k_are_within ?a_is_rule ?l_is_rule ?q_is_rule ?k_is_rule ?a_Scheme___init__ ?i_Scheme___init__ ?l_Scheme___init__ ?q_Scheme___init__ ?k_Scheme___init__ ?a__law_code ?l__law_code ?q__law_code ?k__law_code ?a_pairs_of ?l_pairs_of ?q_pairs_of ?k_pairs_of ?a_row_at ?l_row_at ?q_row_at ?k_row_at ?a_does_break ?l_does_break ?q_does_break ?k_does_break ?a_broken ?l_broken ?q_broken ?k_broken ?a_is_table ?l_is_table ?q_is_table ?k_is_table ?a__law_right ?l__law_right ?q__law_right ?k__law_right ?a_law ?l_law ?q_law ?k_law ?z_int ?z_range ?z_list ?z_len ?z_sorted ?z_tuple ?z_set ?z_enumerate ?z_isinstance ?z_bool ?z_str ?z_repr ?z_all ?z_zip ?g_LETTERS ?g_RULE_PARTS ?pg_Scheme ?hd_Scheme ?po_Scheme ?sa_Scheme ?n_Scheme_columns ?n_Scheme_rules ?mk_Scheme ?kc_Scheme DL.math_law
    (case aC_Scheme => k_is)
    (case a__law_draw => k_is)
    (case l__law_draw => k_is)
    (case q__law_draw => k_is)
    (case k__law_draw => k_is)
    (case a__law_deck => k_is)
    (case l__law_deck => k_is)
    (case q__law_deck => k_is)
    (case k__law_deck => k_is)
    (case a__law_pick => k_is)
    (case l__law_pick => k_is)
    (case q__law_pick => k_is)
    (case k__law_pick => k_is)
    (case a__law_plan => k_is)
    (case l__law_plan => k_is)
    (case q__law_plan => k_is)
    (case k__law_plan => k_is)
    (case a__law_lines => k_is)
    (case l__law_lines => k_is)
    (case q__law_lines => k_is)
    (case k__law_lines => k_is)
    (case a__law_bad => k_is)
    (case l__law_bad => k_is)
    (case q__law_bad => k_is)
    (case k__law_bad => k_is)
    (case a__law_kept => k_is)
    (case l__law_kept => k_is)
    (case q__law_kept => k_is)
    (case k__law_kept => k_is)
    (case a__law_bent => k_is)
    (case l__law_bent => k_is)
    (case q__law_bent => k_is)
    (case k__law_bent => k_is)
    (case a__law_is_whole => k_is)
    (case l__law_is_whole => k_is)
    (case q__law_is_whole => k_is)
    (case k__law_is_whole => k_is)
    (case a__law_are_rows => k_is)
    (case l__law_are_rows => k_is)
    (case q__law_are_rows => k_is)
    (case k__law_are_rows => k_is)
    (case a_is_integer => k_is)
    (case l_is_integer => k_is)
    (case q_is_integer => k_is)
    (case k_is_integer => k_is)
    (case a_is_row => k_is)
    (case l_is_row => k_is)
    (case q_is_row => k_is)
    (case k_is_row => k_is)
    (case a_is_rows => k_is)
    (case l_is_rows => k_is)
    (case q_is_rows => k_is)
    (case k_is_rows => k_is)
    (case a_is_columns => k_is)
    (case l_is_columns => k_is)
    (case q_is_columns => k_is)
    (case k_is_columns => k_is)
    (case a_are_within => k_is)
    (case l_are_within => k_is)
    (case q_are_within => k_is)
    (case k_are_within => k_is)
    (case a_is_rule => k_is)
    (case l_is_rule => k_is)
    (case q_is_rule => k_is)
    (case k_is_rule => k_is)
    (case a_Scheme___init__ => k_is)
    (case i_Scheme___init__ => k_is)
    (case l_Scheme___init__ => k_is)
    (case q_Scheme___init__ => k_is)
    (case k_Scheme___init__ => k_is)
    (case a__law_code => k_is)
    (case l__law_code => k_is)
    (case q__law_code => k_is)
    (case k__law_code => k_is)
    (case a_pairs_of => k_is)
    (case l_pairs_of => k_is)
    (case q_pairs_of => k_is)
    (case k_pairs_of => k_is)
    (case a_row_at => k_is)
    (case l_row_at => k_is)
    (case q_row_at => k_is)
    (case k_row_at => k_is)
    (case a_does_break => k_is)
    (case l_does_break => k_is)
    (case q_does_break => k_is)
    (case k_does_break => k_is)
    (case a_broken => k_is)
    (case l_broken => k_is)
    (case q_broken => k_is)
    (case k_broken => k_is)
    (case a_is_table => k_is)
    (case l_is_table => k_is)
    (case q_is_table => k_is)
    (case k_is_table => k_is)
    (case a__law_right => k_is)
    (case l__law_right => k_is)
    (case q__law_right => k_is)
    (case k__law_right => k_is)
    (case a_law => k_is)
    (case l_law => k_is)
    (case q_law => k_is)
    (case k_law => k_is)
    (case z_int => k_is)
    (case z_range => k_is)
    (case z_list => k_is)
    (case z_len => k_is)
    (case z_sorted => k_is)
    (case z_tuple => k_is)
    (case z_set => k_is)
    (case z_enumerate => k_is)
    (case z_isinstance => k_is)
    (case z_bool => k_is)
    (case z_str => k_is)
    (case z_repr => k_is)
    (case z_all => k_is)
    (case z_zip => k_is)
    (case g_LETTERS => k_is)
    (case g_RULE_PARTS => k_is)
    (case pg_Scheme => k_is)
    (case hd_Scheme => k_is)
    (case po_Scheme => k_is)
    (case sa_Scheme => k_is)
    (case n_Scheme_columns => k_is)
    (case n_Scheme_rules => k_is)
    (case mk_Scheme => k_is)
    (case kc_Scheme => k_is)
