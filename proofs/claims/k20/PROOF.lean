import PyProof.Rows.All
import Wide.All
import OpenK.AllK
import Wide.FinOn
import HandS.ForMost
import HandS.Lambda
import KE.KDictKeyed
import HandS.Property
import HandS.Defaults
import HandS.TupAny
import HandS.Deep
import HandS.IsInst
import HandS.Style
import HandS.More
import HandS.TupLen
import HandS.Small
import HandS.DictTup
import KE.GoesEnum
import HandS.Iter
import HandS.DictComp
import HandS.Strs
import HandS.Ends
import HandS.SlotsOwn
import HandS.Text
import HandS.Star
import KE.KCallOwn
import KE.KRevSl
import PyProof.Rows.SortShellAny
import PyProof.TupleOfSeq
import HandS.Zip
import HandS.FStr
import HandS.MakeKw
import HandS.DictSub
import HandS.Conv
import HandS.TryOnly
import HandS.SetFor
import HandS.TupMul
import HandS.Set
import KE.KDictZip
import HandS.SetKeys
import KE.KDictWalk
import KE.KEqDict
import KE.KDictList
import HandS.ClsMeth
import HandS.OwnEq
import KE.KExcSuper
import HandS.Exc
import HandS.ExcIs
import HandS.EndTab
import HandS.ExcInit
import KE.KTryMore
import KE.KExcIs
import HandS.ExcValue
import HandS.HotCalls
import KE.KNestM
import KE.GoesZip
import KE.SortKeyHeap
import HandS.SortKw
import HandS.TupSets
import PyProof.InstEq
import PyProof.Conv_bool
import KE.KDictItemsList
import HandS.HeadHook3
import KE.KIntText
import HandS.ReplaceLit
import PyProof.NeData
import PyProof.EvalArms
import PyProof.StrLawsRepr
import PySem.Challenge.RW_fewroads_k20_whole_odd_numbers_of_roads
set_option Elab.async false
set_option linter.all false
set_option maxRecDepth 100000
set_option maxHeartbeats 4000000
/-! DL1: data as values. D: what a Python value is, as Lean data; SO: the objects that may change, by their addresses; how both lie in the abstract heap of HandS; the judgements over them -/
namespace L2.DL
open PySem PySem.Spec PyProof.Rows

/-- a value as data: lst, dic, ins are lists, dicts, instances that nobody changes any more; src a list from outside, kt a tuple that the top has written, tf a tuple of which it is known that it has no dict of its own; obj: an object by its address (one that may change, or one that is not looked into); fn: a function object of which φ is true, its code object at c -/
inductive D where
  | non | bl (b : Bool) | int (i : Int) | str (x : Str) | ty (n : String)
  | tup (xs : List D) | lst (xs : List D) | src (xs : List D) | kt (xs : List D) | tf (xs : List D) | dic (t : Bool) (kvs : List (D × D)) | ins (C : Addr) (fs : List (Str × D)) | obj (a : Addr) | fd (t : Bool) (kvs : List (D × D)) | gh (d : D) (v : V) | fn (φ : Addr → Heap → Prop) (c : Addr) (q : Str)
/-- an object that may change; err: an exception of the class of that name, with what it keeps; tb: a table of code objects, all of one name -/
inductive DO where
  | lst (xs : List D) | dic (t : Bool) (kvs : List (D × D)) | ins (C : Addr) (fs : List (Str × D)) | err (n : Str) (fs : List (Str × D)) | tb (q : Str) | nd (N : List (NestedKey × V × V) → Addr → Heap → Prop) (kvs : List (NestedKey × D × D))
abbrev SO := Addr → Option DO
def SO.set (S : SO) (a : Addr) (o : DO) : SO := fun b => if b = a then some o else S b
def SO.del (S : SO) (a : Addr) : SO := fun b => if b = a then none else S b
theorem set_same {S : SO} {a : Addr} {o : DO} : S.set a o a = some o := if_pos rfl
theorem set_ne {S : SO} {a b : Addr} {o : DO} (h : b ≠ a) : S.set a o b = S b := if_neg h
theorem set_set {S : SO} {a : Addr} {o u : DO} : (S.set a o).set a u = S.set a u := by
  funext b
  unfold SO.set
  split <;> rfl
theorem del_set {S : SO} {a : Addr} {o : DO} (h : S a = none) : (S.set a o).del a = S := by
  funext b
  unfold SO.set SO.del
  split
  · rename_i e
    rw [e, h]
  · rename_i e
    exact if_neg e
theorem so_ne {S : SO} {a b : Addr} {o : DO} (h : S a = some o) (h' : S b = none) : a ≠ b := by
  intro e
  rw [e, h'] at h
  cases h

def keyD : Key → D
  | .inl i => .int i
  | .inr x => .str x

/-- a tuple, a list that is read and that nobody changes -/
def TupAt (S : SO) (H : Hp) (a : Addr) (vs : List V) : Prop := S a = none ∧ H a = some (.tup vs)
def KTup (K : PySem.W.Frag) (a : Addr) (vs : List V) : Prop := ∃ (o : Obj) (its : Array Value) (n : Nat), K.lookup a = some o ∧ o.cls = .type "tuple" ∧ o.data = .seq its n ∧ its.size ≤ sizeLine ∧ Vals vs its.toList
def LstAt (K : PySem.W.Frag) (S : SO) (H : Hp) (a : Addr) (vs : List V) : Prop := S a = none ∧ Rd H a (.lst vs) ∨
  ∃ (o : Obj) (its : Array Value) (n : Nat), K.lookup a = some o ∧ o.cls = .type "list" ∧ o.dict = none ∧ o.data = .seq its n ∧ its.size ≤ sizeLine ∧ Vals vs its.toList
def TfAt (S : SO) (H : Hp) (a : Addr) (vs : List V) : Prop := S a = none ∧ ∃ o, H a = some (.frz o (.tup vs)) ∧ o.dict = none ∧ o.cls = .type "tuple"
theorem TfAt.sq {K : PySem.W.Frag} {S : SO} {H : Hp} {a : Addr} {vs : List V} (h : TfAt S H a vs) : SqT K H a vs := let ⟨_, o, h, _⟩ := h; .inl (.inr ⟨o, h⟩)
theorem TupAt.sq {K : PySem.W.Frag} {S : SO} {H : Hp} {a : Addr} {vs : List V} (h : TupAt S H a vs) : SqT K H a vs := .of h.2
theorem KTup.sq {K : PySem.W.Frag} {H : Hp} {a : Addr} {vs : List V} (h : KTup K a vs) : SqT K H a vs := .inr h
theorem LstAt.sq {K : PySem.W.Frag} {S : SO} {H : Hp} {a : Addr} {vs : List V} (h : LstAt K S H a vs) : SqL K H a vs := h.elim (fun x => .inl x.2) .inr

mutual
/-- the value d lies at v -/
def Rel (K : PySem.W.Frag) (S : SO) (H : Hp) : D → V → Prop
  | .non, v => v = .non
  | .bl b, v => v = .bl b
  | .int i, v => v = .int i
  | .str x, v => v = .str x
  | .ty n, v => v = .ty n
  | .obj a, v => v = .ref a
  | .tup ds, v => ∃ a vs, v = .ref a ∧ TupAt S H a vs ∧ Rels K S H ds vs
  | .lst ds, v => ∃ a vs, v = .ref a ∧ S a = none ∧ H a = some (.lst vs) ∧ Rels K S H ds vs
  | .kt ds, v => ∃ a vs, v = .ref a ∧ KTup K a vs ∧ Rels K S H ds vs
  | .tf ds, v => ∃ a vs, v = .ref a ∧ TfAt S H a vs ∧ Rels K S H ds vs
  | .src ds, v => ∃ a vs, v = .ref a ∧ LstAt K S H a vs ∧ Rels K S H ds vs
  | .dic t kvs, v => ∃ a, v = .ref a ∧ S a = none ∧ ((∃ l, t = false ∧ H a = some (.dK l) ∧ RelK K S H kvs l) ∨ (∃ l, t = true ∧ H a = some (.dT l) ∧ RelT K S H kvs l))
  | .ins C fs, v => ∃ a dx l, v = .ref a ∧ S a = none ∧ H a = some (.ins C dx l) ∧ RelF K S H fs l
  | .gh d u, v => v = u ∧ Rel K S H d u
  | .fn φ c q, v => ∃ a, v = .ref a ∧ S a = none ∧ H a = some (.ext (φ a)) ∧ S c = none ∧ H c = some (LamX.CodeO c q)
  | .fd t kvs, v => ∃ a, v = .ref a ∧ S a = none ∧ ((∃ o l, t = false ∧ H a = some (.frz o (.dK l)) ∧ RelK K S H kvs l) ∨ (∃ o l, t = true ∧ H a = some (.frz o (.dT l)) ∧ RelT K S H kvs l))
def Rels (K : PySem.W.Frag) (S : SO) (H : Hp) : List D → List V → Prop
  | [], vs => vs = []
  | d :: ds, vs => ∃ v r, vs = v :: r ∧ Rel K S H d v ∧ Rels K S H ds r
def RelK (K : PySem.W.Frag) (S : SO) (H : Hp) : List (D × D) → List (Key × V) → Prop
  | [], l => l = []
  | (k, d) :: kvs, l => ∃ q v r, l = (q, v) :: r ∧ k = keyD q ∧ Rel K S H d v ∧ RelK K S H kvs r
def RelT (K : PySem.W.Frag) (S : SO) (H : Hp) : List (D × D) → List (List Key × V) → Prop
  | [], l => l = []
  | (k, d) :: kvs, l => ∃ q v r, l = (q, v) :: r ∧ k = .tup (q.map keyD) ∧ Rel K S H d v ∧ RelT K S H kvs r
def RelF (K : PySem.W.Frag) (S : SO) (H : Hp) : List (Str × D) → List (Str × V) → Prop
  | [], l => l = []
  | (x, d) :: fs, l => ∃ v r, l = (x, v) :: r ∧ Rel K S H d v ∧ RelF K S H fs r
end

/-- at a: an exception of the class at C, its own dict d -/
def ErrO (a C : Addr) (d : Option Addr) : HO := .ext fun h => ∃ (oe : Obj) (vs : Array Value), h.get? a = some oe ∧ oe.cls = .ref C ∧ oe.dict = d ∧ oe.data = .fields vs
/-- what an exception keeps -/
def ErrF (K : PySem.W.Frag) (S : SO) (H : Hp) : Option Addr → List (Str × D) → Prop
  | none, fs => fs = []
  | some dx, fs => ∃ l, S dx = none ∧ H dx = some (.xd l) ∧ RelF K S H fs l
/-- how a changing object lies -/
def ObjAt (K : PySem.W.Frag) (S : SO) (H : Hp) (a : Addr) : DO → Prop
  | .lst ds => ∃ vs, H a = some (.lst vs) ∧ Rels K S H ds vs
  | .dic t kvs => (∃ l, t = false ∧ H a = some (.dK l) ∧ RelK K S H kvs l) ∨ (∃ l, t = true ∧ H a = some (.dT l) ∧ RelT K S H kvs l)
  | .ins C fs => ∃ dx l, H a = some (.ins C dx l) ∧ RelF K S H fs l
  | .err n fs => ∃ C d, PySem.W.nsIn K mainGlobals n = some (some (.ref C)) ∧ H a = some (ErrO a C d) ∧ ErrF K S H d fs
  | .nd N kvs => ∃ l, H a = some (.ext (N l a)) ∧ l.map (·.1) = kvs.map (·.1) ∧ Rels K S H (kvs.map (·.2.1)) (l.map (·.2.1)) ∧ Rels K S H (kvs.map (·.2.2)) (l.map (·.2.2))
  | .tb q => ∃ ps : Array Value, H a = some (.tbl ps) ∧ TriplesOk ps.toList ∧ ∀ (pos : Pos) (cv : Value), codeAmong pos ps.toList = some cv → ∃ c, cv = .ref c ∧ S c = none ∧ H c = some (LamX.CodeO c q)
def SRel (K : PySem.W.Frag) (S : SO) (H : Hp) : Prop := ∀ a o, S a = some o → ObjAt K S H a o
/-- the step from one state to a later one: what nobody changes stays -/
def Nx (S : SO) (H : Hp) (S' : SO) (H' : Hp) : Prop := ∀ a o, S a = none → H a = some o → S' a = none ∧ H' a = some o
theorem Nx.refl (S : SO) (H : Hp) : Nx S H S H := fun _ _ h h' => ⟨h, h'⟩
theorem Nx.trans {S S1 S2 : SO} {H H1 H2 : Hp} (x : Nx S H S1 H1) (y : Nx S1 H1 S2 H2) : Nx S H S2 H2 := fun a o h h' => let ⟨p, q⟩ := x a o h h'; y a o p q

section
variable {K : PySem.W.Frag} {S S' : SO} {H H' : Hp}
theorem TfAt.nx {a : Addr} {vs : List V} (x : Nx S H S' H') (h : TfAt S H a vs) : TfAt S' H' a vs := let ⟨n, o, e, r⟩ := h; let ⟨p, q⟩ := x a _ n e; ⟨p, o, q, r⟩
theorem TupAt.nx {a : Addr} {vs : List V} (x : Nx S H S' H') (h : TupAt S H a vs) : TupAt S' H' a vs := x a _ h.1 h.2
theorem LstAt.nx {a : Addr} {vs : List V} (x : Nx S H S' H') (h : LstAt K S H a vs) : LstAt K S' H' a vs := by
  rcases h with ⟨h0, h | ⟨o, h⟩⟩ | h
  · obtain ⟨p, q⟩ := x a _ h0 h
    exact .inl ⟨p, .inl q⟩
  · obtain ⟨p, q⟩ := x a _ h0 h
    exact .inl ⟨p, .inr ⟨o, q⟩⟩
  · exact .inr h
mutual
theorem Rel.nx (x : Nx S H S' H') : ∀ (d : D) (v : V), Rel K S H d v → Rel K S' H' d v
  | .non, _, h => h
  | .bl _, _, h => h
  | .int _, _, h => h
  | .str _, _, h => h
  | .ty _, _, h => h
  | .obj _, _, h => h
  | .tup ds, v, h => by
    obtain ⟨a, vs, e, t, r⟩ := h
    exact ⟨a, vs, e, t.nx x, Rels.nx x ds vs r⟩
  | .lst ds, v, h => by
    obtain ⟨a, vs, e, n, t, r⟩ := h
    obtain ⟨p, q⟩ := x a _ n t
    exact ⟨a, vs, e, p, q, Rels.nx x ds vs r⟩
  | .kt ds, v, h => by
    obtain ⟨a, vs, e, t, r⟩ := h
    exact ⟨a, vs, e, t, Rels.nx x ds vs r⟩
  | .tf ds, v, h => by
    obtain ⟨a, vs, e, t, r⟩ := h
    exact ⟨a, vs, e, t.nx x, Rels.nx x ds vs r⟩
  | .src ds, v, h => by
    obtain ⟨a, vs, e, t, r⟩ := h
    exact ⟨a, vs, e, t.nx x, Rels.nx x ds vs r⟩
  | .dic t kvs, v, h => by
    obtain ⟨a, e, n, h⟩ := h
    refine ⟨a, e, ?_⟩
    rcases h with ⟨l, ht, hl, r⟩ | ⟨l, ht, hl, r⟩
    · obtain ⟨p, q⟩ := x a _ n hl
      exact ⟨p, .inl ⟨l, ht, q, RelK.nx x kvs l r⟩⟩
    · obtain ⟨p, q⟩ := x a _ n hl
      exact ⟨p, .inr ⟨l, ht, q, RelT.nx x kvs l r⟩⟩
  | .ins C fs, v, h => by
    obtain ⟨a, dx, l, e, n, hl, r⟩ := h
    obtain ⟨p, q⟩ := x a _ n hl
    exact ⟨a, dx, l, e, p, q, RelF.nx x fs l r⟩
  | .gh d u, v, h => ⟨h.1, Rel.nx x d u h.2⟩
  | .fn φ c q, v, h => by
    obtain ⟨a, e, n, h1, m, h2⟩ := h
    obtain ⟨p1, q1⟩ := x a _ n h1
    obtain ⟨p2, q2⟩ := x c _ m h2
    exact ⟨a, e, p1, q1, p2, q2⟩
  | .fd t kvs, v, h => by
    obtain ⟨a, e, n, h⟩ := h
    refine ⟨a, e, ?_⟩
    rcases h with ⟨o, l, ht, hl, r⟩ | ⟨o, l, ht, hl, r⟩
    · obtain ⟨p, q⟩ := x a _ n hl
      exact ⟨p, .inl ⟨o, l, ht, q, RelK.nx x kvs l r⟩⟩
    · obtain ⟨p, q⟩ := x a _ n hl
      exact ⟨p, .inr ⟨o, l, ht, q, RelT.nx x kvs l r⟩⟩
theorem Rels.nx (x : Nx S H S' H') : ∀ (ds : List D) (vs : List V), Rels K S H ds vs → Rels K S' H' ds vs
  | [], _, h => h
  | d :: ds, _, h => by
    obtain ⟨v, r, e, h1, h2⟩ := h
    exact ⟨v, r, e, Rel.nx x d v h1, Rels.nx x ds r h2⟩
theorem RelK.nx (x : Nx S H S' H') : ∀ (kvs : List (D × D)) (l : List (Key × V)), RelK K S H kvs l → RelK K S' H' kvs l
  | [], _, h => h
  | (k, d) :: kvs, _, h => by
    obtain ⟨q, v, r, e, hk, h1, h2⟩ := h
    exact ⟨q, v, r, e, hk, Rel.nx x d v h1, RelK.nx x kvs r h2⟩
theorem RelT.nx (x : Nx S H S' H') : ∀ (kvs : List (D × D)) (l : List (List Key × V)), RelT K S H kvs l → RelT K S' H' kvs l
  | [], _, h => h
  | (k, d) :: kvs, _, h => by
    obtain ⟨q, v, r, e, hk, h1, h2⟩ := h
    exact ⟨q, v, r, e, hk, Rel.nx x d v h1, RelT.nx x kvs r h2⟩
theorem RelF.nx (x : Nx S H S' H') : ∀ (fs : List (Str × D)) (l : List (Str × V)), RelF K S H fs l → RelF K S' H' fs l
  | [], _, h => h
  | (k, d) :: kvs, _, h => by
    obtain ⟨v, r, e, h1, h2⟩ := h
    exact ⟨v, r, e, Rel.nx x d v h1, RelF.nx x kvs r h2⟩
end
theorem ErrF.nx (x : Nx S H S' H') : ∀ {d : Option Addr} {fs : List (Str × D)}, ErrF K S H d fs → ErrF K S' H' d fs
  | none, _, h => h
  | some dx, fs, ⟨l, h1, h2, h3⟩ => let ⟨p, q⟩ := x dx _ h1 h2; ⟨l, p, q, RelF.nx x fs l h3⟩
theorem ObjAt.nx {a : Addr} (x : Nx S H S' H') (e : H' a = H a) : ∀ {o : DO}, ObjAt K S H a o → ObjAt K S' H' a o
  | .lst ds, h => by
    obtain ⟨vs, h1, h2⟩ := h
    exact ⟨vs, e.trans h1, Rels.nx x ds vs h2⟩
  | .dic t kvs, h => by
    rcases h with ⟨l, ht, h1, h2⟩ | ⟨l, ht, h1, h2⟩
    · exact .inl ⟨l, ht, e.trans h1, RelK.nx x kvs l h2⟩
    · exact .inr ⟨l, ht, e.trans h1, RelT.nx x kvs l h2⟩
  | .ins C fs, h => by
    obtain ⟨dx, l, h1, h2⟩ := h
    exact ⟨dx, l, e.trans h1, RelF.nx x fs l h2⟩
  | .err n fs, h => by
    obtain ⟨C, d, h0, h1, h2⟩ := h
    exact ⟨C, d, h0, e.trans h1, h2.nx x⟩
  | .nd N kvs, ⟨l, h1, h2, h3, h4⟩ => ⟨l, e.trans h1, h2, Rels.nx x _ _ h3, Rels.nx x _ _ h4⟩
  | .tb q, h => by
    obtain ⟨ps, h1, h2, h3⟩ := h
    refine ⟨ps, e.trans h1, h2, fun pos cv hc => ?_⟩
    obtain ⟨c, e1, e2, e3⟩ := h3 pos cv hc
    exact ⟨c, e1, x c _ e2 e3⟩
theorem ObjAt.there {a : Addr} : ∀ {o : DO}, ObjAt K S H a o → ∃ u, H a = some u
  | .lst ds, ⟨_, h1, _⟩ => ⟨_, h1⟩
  | .dic t kvs, .inl ⟨_, _, h1, _⟩ => ⟨_, h1⟩
  | .dic t kvs, .inr ⟨_, _, h1, _⟩ => ⟨_, h1⟩
  | .ins C fs, ⟨_, _, h1, _⟩ => ⟨_, h1⟩
  | .err n fs, ⟨_, _, _, h1, _⟩ => ⟨_, h1⟩
  | .nd _ _, ⟨_, h1, _⟩ => ⟨_, h1⟩
  | .tb q, ⟨_, h1, _⟩ => ⟨_, h1⟩
theorem SRel.free (x : SRel K S H) {a : Addr} (h : H a = none) : S a = none := by
  cases q : S a with
  | none => rfl
  | some o =>
    obtain ⟨u, e⟩ := (x a o q).there
    rw [h] at e
    cases e
/-- a new thing that is tracked and not changed -/
theorem nx_new {p : Addr} {o : HO} (h : H p = none) : Nx S H S (upd H p o) := fun a u h1 h2 => ⟨h1, by rw [upd_ne (ne_of_none h2 h)]; exact h2⟩
theorem SRel.new (x : SRel K S H) {p : Addr} {o : HO} (h : H p = none) : SRel K S (upd H p o) := fun a u q => by
  have hu := x a u q
  obtain ⟨w, e⟩ := hu.there
  exact hu.nx (nx_new h) (by rw [upd_ne (ne_of_none e h)])
/-- a new object -/
theorem nx_obj {p : Addr} {o : DO} {u : HO} (h : H p = none) (hs : S p = none) : Nx S H (S.set p o) (upd H p u) := fun a w h1 h2 => by
  have ne := ne_of_none h2 h
  exact ⟨by rw [set_ne ne]; exact h1, by rw [upd_ne ne]; exact h2⟩
/-- an object is changed -/
theorem nx_put {p : Addr} {o o' : DO} {u : HO} (hs : S p = some o) : Nx S H (S.set p o') (upd H p u) := fun a w h1 h2 => by
  have ne : a ≠ p := (so_ne hs h1).symm
  exact ⟨by rw [set_ne ne]; exact h1, by rw [upd_ne ne]; exact h2⟩
theorem srel_put (x : SRel K S H) {p : Addr} {o : DO} {u : HO} (n : Nx S H (S.set p o) (upd H p u)) (h : ObjAt K (S.set p o) (upd H p u) p o) : SRel K (S.set p o) (upd H p u) := fun a w q => by
  by_cases e : a = p
  · subst e
    rw [set_same] at q
    cases q
    exact h
  · rw [set_ne e] at q
    exact (x a w q).nx n (upd_ne e)
theorem Rels.length : ∀ {ds : List D} {vs : List V}, Rels K S H ds vs → ds.length = vs.length
  | [], _, h => by
    have h' : _ = [] := h
    rw [h']
    rfl
  | d :: ds, _, h => by
    obtain ⟨v, r, e, _, h2⟩ := h
    rw [e, List.length_cons, List.length_cons, h2.length]
theorem Rels.app : ∀ {ds es : List D} {vs us : List V}, Rels K S H ds vs → Rels K S H es us → Rels K S H (ds ++ es) (vs ++ us)
  | [], _, _, _, h, h' => by
    have e : _ = [] := h
    subst e
    exact h'
  | d :: ds, es, _, us, h, h' => by
    obtain ⟨v, r, e, h1, h2⟩ := h
    subst e
    exact ⟨v, r ++ us, rfl, h1, h2.app h'⟩
theorem Rels.one {d : D} {v : V} (h : Rel K S H d v) : Rels K S H [d] [v] := ⟨v, [], rfl, h, rfl⟩
theorem Rels.get : ∀ {ds : List D} {vs : List V} {i : Nat} {d : D}, Rels K S H ds vs → ds[i]? = some d → ∃ v, vs[i]? = some v ∧ Rel K S H d v
  | [], _, _, _, _, e => by simp at e
  | d' :: ds, _, 0, d, h, e => by
    obtain ⟨v, r, rfl, h1, h2⟩ := h
    have e' : d' = d := Option.some.inj e
    subst e'
    exact ⟨v, rfl, h1⟩
  | d' :: ds, _, i + 1, d, h, e => by
    obtain ⟨v, r, rfl, h1, h2⟩ := h
    exact h2.get (i := i) e
theorem Rels.take : ∀ {ds : List D} {vs : List V} (n : Nat), Rels K S H ds vs → Rels K S H (ds.take n) (vs.take n)
  | _, _, 0, _ => rfl
  | [], _, n + 1, h => by
    have h' : _ = [] := h
    rw [h']
    exact rfl
  | d :: ds, _, n + 1, h => by
    obtain ⟨v, r, rfl, h1, h2⟩ := h
    exact ⟨v, r.take n, rfl, h1, h2.take n⟩
theorem Rels.drop : ∀ {ds : List D} {vs : List V} (n : Nat), Rels K S H ds vs → Rels K S H (ds.drop n) (vs.drop n)
  | _, _, 0, h => h
  | [], _, n + 1, h => by
    have h' : _ = [] := h
    rw [h']
    exact rfl
  | d :: ds, _, n + 1, h => by
    obtain ⟨v, r, rfl, h1, h2⟩ := h
    exact h2.drop n
theorem Rels.rev : ∀ {ds : List D} {vs : List V}, Rels K S H ds vs → Rels K S H ds.reverse vs.reverse
  | [], _, h => by
    have h' : _ = [] := h
    rw [h']
    exact rfl
  | d :: ds, _, h => by
    obtain ⟨v, r, rfl, h1, h2⟩ := h
    rw [List.reverse_cons, List.reverse_cons]
    exact h2.rev.app (.one h1)
theorem Rels.two {a b : D} {vs : List V} (h : Rels K S H [a, b] vs) : ∃ v w, vs = [v, w] ∧ Rel K S H a v ∧ Rel K S H b w := by
  obtain ⟨v, r, rfl, h1, w, r', rfl, h2, h3⟩ := h
  have e : _ = [] := h3
  subst e
  exact ⟨v, w, rfl, h1, h2⟩
theorem RelF.look : ∀ {fs : List (Str × D)} {l : List (Str × V)} {x : Str} {d : D}, RelF K S H fs l → fs.lookup x = some d → ∃ v, l.lookup x = some v ∧ Rel K S H d v
  | [], _, _, _, _, e => by cases e
  | (y, d') :: fs, _, x, d, h, e => by
    obtain ⟨v, r, rfl, h1, h2⟩ := h
    rw [List.lookup_cons] at e
    rw [List.lookup_cons]
    cases q : x == y with
    | true =>
      rw [q] at e
      cases e
      exact ⟨v, rfl, h1⟩
    | false =>
      rw [q] at e
      exact h2.look e
theorem RelF.look_none : ∀ {fs : List (Str × D)} {l : List (Str × V)} {x : Str}, RelF K S H fs l → fs.lookup x = none → l.lookup x = none
  | [], _, _, h, _ => by
    have h' : _ = [] := h
    rw [h']
    rfl
  | (y, d') :: fs, _, x, h, e => by
    obtain ⟨v, r, rfl, h1, h2⟩ := h
    rw [List.lookup_cons] at e
    rw [List.lookup_cons]
    cases q : x == y with
    | true =>
      rw [q] at e
      cases e
    | false =>
      rw [q] at e
      exact h2.look_none e
def putD (f : Str) (v : D) : List (Str × D) → List (Str × D)
  | [] => [(f, v)]
  | (g, u) :: r => if g = f then (g, v) :: r else (g, u) :: putD f v r
end

/-! ### the frame's slots -/
abbrev SD := List (Option D)
def RelS (K : PySem.W.Frag) (S : SO) (H : Hp) (sd : SD) (σ : St) : Prop := sd.length = σ.length ∧ ∀ (i : Nat) (d : D), sd[i]? = some (some d) → ∃ v, σ[i]? = some (some v) ∧ Rel K S H d v
structure Sta (K : PySem.W.Frag) (sd : SD) (S : SO) (σ : St) (H : Hp) : Prop where
  s : SRel K S H
  r : RelS K S H sd σ
theorem RelS.nx {K : PySem.W.Frag} {S S' : SO} {H H' : Hp} {sd : SD} {σ : St} (x : Nx S H S' H') (h : RelS K S H sd σ) : RelS K S' H' sd σ :=
  ⟨h.1, fun i d e => let ⟨v, e', r⟩ := h.2 i d e; ⟨v, e', Rel.nx x d v r⟩⟩
theorem Sta.nx {K : PySem.W.Frag} {S S' : SO} {H H' : Hp} {sd : SD} {σ : St} (h : Sta K sd S σ H) (x : Nx S H S' H') (s : SRel K S' H') : Sta K sd S' σ H' := ⟨s, h.r.nx x⟩
theorem Sta.set {K : PySem.W.Frag} {S : SO} {H : Hp} {sd : SD} {σ : St} (h : Sta K sd S σ H) (i : Nat) {d : D} {v : V} (r : Rel K S H d v) : Sta K (sd.set i (some d)) S (σ.set i (some v)) H := by
  refine ⟨h.s, by rw [List.length_set, List.length_set]; exact h.r.1, fun j e q => ?_⟩
  by_cases hj : i = j
  · subst hj
    have hl : i < sd.length := by
      have := (List.getElem?_eq_some_iff.mp q).1
      rwa [List.length_set] at this
    rw [List.getElem?_set_self hl] at q
    cases q
    exact ⟨v, List.getElem?_set_self (by rw [← h.r.1]; exact hl), r⟩
  · rw [List.getElem?_set_ne hj] at q
    obtain ⟨v', e', r'⟩ := h.r.2 j e q
    exact ⟨v', by rw [List.getElem?_set_ne hj]; exact e', r'⟩
end L2.DL

/-! DL2: the judgements over data, lifted from HandS, and the rules of expressions, tests, statements, targets -/
namespace L2.DL
open PySem PySem.Spec PyProof.Rows

abbrev KD := D → SO → Prop
abbrev WE := SD → SO → KD → Prop
abbrev WT := SD → SO → (Bool → SO → Prop) → Prop
abbrev WA := SD → SO → (List D → SO → Prop) → Prop
structure EndsD where
  nx : SD → SO → Prop
  rt : KD
  bk : SD → SO → Prop := fun _ _ => False
  ct : SD → SO → Prop := fun _ _ => False
abbrev WS := EndsD → SD → SO → Prop
abbrev WG := D → SD → SO → (SD → SO → Prop) → Prop
abbrev WGs := List D → SD → SO → (SD → SO → Prop) → Prop

/-- what is wanted of the data answers what is wanted of the values -/
def Ans (K : PySem.W.Frag) (S : SO) (H : Hp) (Q0 : KD) (Q : VK) : Prop := ∀ d S' v H', Q0 d S' → Nx S H S' H' → SRel K S' H' → Rel K S' H' d v → Q v H'
def AnsT (K : PySem.W.Frag) (S : SO) (H : Hp) (Q0 : Bool → SO → Prop) (Q : Bool → Hp → Prop) : Prop := ∀ b S' H', Q0 b S' → Nx S H S' H' → SRel K S' H' → Q b H'
def AnsA (K : PySem.W.Frag) (S : SO) (H : Hp) (Q0 : List D → SO → Prop) (Q : List V → Hp → Prop) : Prop := ∀ ds S' vs H', Q0 ds S' → Nx S H S' H' → SRel K S' H' → Rels K S' H' ds vs → Q vs H'
def AnsS (K : PySem.W.Frag) (S : SO) (H : Hp) (Q0 : SD → SO → Prop) (Q : St → Hp → Prop) : Prop := ∀ sd S' σ H', Q0 sd S' → Nx S H S' H' → Sta K sd S' σ H' → Q σ H'
structure AnsE (K : PySem.W.Frag) (S : SO) (H : Hp) (E0 : EndsD) (E : Ends) : Prop where
  nx : AnsS K S H E0.nx E.nx
  rt : Ans K S H E0.rt E.rt
  bk : AnsS K S H E0.bk E.bk
  ct : AnsS K S H E0.ct E.ct
section
variable {K : PySem.W.Frag} {S S' : SO} {H H' : Hp}
theorem Ans.nx {Q0 : KD} {Q : VK} (a : Ans K S H Q0 Q) (x : Nx S H S' H') : Ans K S' H' Q0 Q := fun d S2 v H2 q y s r => a d S2 v H2 q (x.trans y) s r
theorem AnsT.nx {Q0 : Bool → SO → Prop} {Q : Bool → Hp → Prop} (a : AnsT K S H Q0 Q) (x : Nx S H S' H') : AnsT K S' H' Q0 Q := fun d S2 H2 q y s => a d S2 H2 q (x.trans y) s
theorem AnsA.nx {Q0 : List D → SO → Prop} {Q : List V → Hp → Prop} (a : AnsA K S H Q0 Q) (x : Nx S H S' H') : AnsA K S' H' Q0 Q := fun d S2 v H2 q y s r => a d S2 v H2 q (x.trans y) s r
theorem AnsS.nx {Q0 : SD → SO → Prop} {Q : St → Hp → Prop} (a : AnsS K S H Q0 Q) (x : Nx S H S' H') : AnsS K S' H' Q0 Q := fun d S2 v H2 q y s => a d S2 v H2 q (x.trans y) s
theorem AnsE.go {E0 : EndsD} {E : Ends} (a : AnsE K S H E0 E) (x : Nx S H S' H') : AnsE K S' H' E0 E := ⟨a.nx.nx x, a.rt.nx x, a.bk.nx x, a.ct.nx x⟩
end
def lift (K : PySem.W.Frag) (w : WE) : TE := fun σ H Q => ∃ sd S Q0, Sta K sd S σ H ∧ w sd S Q0 ∧ Ans K S H Q0 Q
def liftT (K : PySem.W.Frag) (w : WT) : TT := fun σ H Q => ∃ sd S Q0, Sta K sd S σ H ∧ w sd S Q0 ∧ AnsT K S H Q0 Q
def liftA (K : PySem.W.Frag) (w : WA) : TA := fun σ H Q => ∃ sd S Q0, Sta K sd S σ H ∧ w sd S Q0 ∧ AnsA K S H Q0 Q
def liftS (K : PySem.W.Frag) (w : WS) : TS := fun E σ H => ∃ sd S E0, Sta K sd S σ H ∧ w E0 sd S ∧ AnsE K S H E0 E
def liftG (K : PySem.W.Frag) (w : WG) : TG := fun v σ H Q => ∃ d sd S Q0, Sta K sd S σ H ∧ Rel K S H d v ∧ w d sd S Q0 ∧ AnsS K S H Q0 Q
def liftGs (K : PySem.W.Frag) (w : WGs) : TGs := fun v σ H Q => ∃ d sd S Q0, Sta K sd S σ H ∧ Rels K S H d v ∧ w d sd S Q0 ∧ AnsS K S H Q0 Q
abbrev DE (X : Cx) (e : Expr) (w : WE) : Prop := PE X e (lift X.K w)
abbrev DT (X : Cx) (e : Expr) (w : WT) : Prop := PT X e (liftT X.K w)
abbrev DW (X : Cx) (e : Expr) (w : WT) : Prop := PW X e (liftT X.K w)
abbrev DA (X : Cx) (es : List Expr) (w : WA) : Prop := PA X es (liftA X.K w)
abbrev DS (X : Cx) (st : Stmt) (w : WS) : Prop := PS X st (liftS X.K w)
abbrev DSs (X : Cx) (st : List Stmt) (w : WS) : Prop := PSs X st (liftS X.K w)
abbrev DG (X : Cx) (tg : Expr) (w : WG) : Prop := PG X tg (liftG X.K w)
abbrev DGs (X : Cx) (tg : List Expr) (w : WGs) : Prop := PGs X tg (liftGs X.K w)

section
variable {X : Cx}
theorem pe_imp {e : Expr} {t t' : TE} (h : PE X e t) (i : ∀ σ H Q, t' σ H Q → t σ H Q) : PE X e t' := ⟨fun pins s σ H Q I q => h.run pins s σ H Q I (i σ H Q q)⟩
theorem pt_imp {e : Expr} {t t' : TT} (h : PT X e t) (i : ∀ σ H Q, t' σ H Q → t σ H Q) : PT X e t' := ⟨fun pins s σ H Q I q => h.run pins s σ H Q I (i σ H Q q)⟩
theorem pw_imp {e : Expr} {t t' : TT} (h : PW X e t) (i : ∀ σ H Q, t' σ H Q → t σ H Q) : PW X e t' := ⟨fun wh pins s σ H Q I q => h.run wh pins s σ H Q I (i σ H Q q)⟩
theorem pa_imp {e : List Expr} {t t' : TA} (h : PA X e t) (i : ∀ σ H Q, t' σ H Q → t σ H Q) : PA X e t' := ⟨fun p pins s σ H Q I q => h.run p pins s σ H Q I (i σ H Q q)⟩
theorem ps_imp {e : Stmt} {t t' : TS} (h : PS X e t) (i : ∀ E σ H, t' E σ H → t E σ H) : PS X e t' := ⟨fun pins s σ H E I q => h.run pins s σ H E I (i E σ H q)⟩
theorem pss_imp {e : List Stmt} {t t' : TS} (h : PSs X e t) (i : ∀ E σ H, t' E σ H → t E σ H) : PSs X e t' := ⟨fun pins s σ H E I q => h.run pins s σ H E I (i E σ H q)⟩
theorem pg_imp {e : Expr} {t t' : TG} (h : PG X e t) (i : ∀ v σ H Q, t' v σ H Q → t v σ H Q) : PG X e t' := ⟨fun pins s σ H v u Q I r q => h.run pins s σ H v u Q I r (i v σ H Q q)⟩
theorem pgs_imp {e : List Expr} {t t' : TGs} (h : PGs X e t) (i : ∀ v σ H Q, t' v σ H Q → t v σ H Q) : PGs X e t' := ⟨fun pins s σ H v u Q I r q => h.run pins s σ H v u Q I r (i v σ H Q q)⟩

/-! ### names, constants -/
def wV (i : Nat) : WE := fun sd S Q => match sd[i]? with
  | some (some d) => Q d S
  | _ => False
def wC (d : D) : WE := fun _ S Q => Q d S
theorem de_v (i : Nat) {x : Str} {pos : Pos} (hN : X.N[i]? = some x := by rfl) (hv : Vis X.env.scope x := by first | exact Or.inl rfl | exact Or.inr (Or.inl rfl) | exact Or.inr (Or.inr rfl)) (hd : (x == ("__debug__" : Str)) = false := by decide)
    (hcd : (x == ("__classdict__" : Str)) = false := by decide) : DE X (.Name x pos) (wV i) := by
  refine pe_imp (pe_var hN hv hd hcd) fun σ H Q ⟨sd, S, Q0, st, q, a⟩ => ?_
  unfold wV at q
  split at q
  · rename_i d e
    obtain ⟨v, e', r⟩ := st.r.2 i d e
    exact ⟨v, e', a _ _ _ _ q (Nx.refl _ _) st.s r⟩
  · exact q.elim
theorem lift_c {d : D} {v : V} (hr : ∀ K S H, Rel K S H d v) : ∀ σ H Q, lift X.K (wC d) σ H Q → tC v σ H Q := fun σ H Q ⟨sd, S, Q0, st, q, a⟩ => a _ _ _ _ q (Nx.refl _ _) st.s (hr _ _ _)
theorem de_int {i j pos} : DE X (.Constant (.int i) j pos) (wC (.int i)) := pe_imp pe_int (lift_c fun _ _ _ => rfl)
theorem de_bl {i j pos} : DE X (.Constant (.bool i) j pos) (wC (.bl i)) := pe_imp pe_bl (lift_c fun _ _ _ => rfl)
theorem de_non {j pos} : DE X (.Constant .none j pos) (wC .non) := pe_imp pe_non (lift_c fun _ _ _ => rfl)
theorem de_str {i j pos} : DE X (.Constant (.str i) j pos) (wC (.str i)) := pe_imp pe_str (lift_c fun _ _ _ => rfl)
theorem de_glob {x : Str} {d : D} {v : V} {u : Value} {pos : Pos} (hg : Gl X x) (hm : X.mg x = some u) (r : RelV v u) (hr : ∀ K S H, Rel K S H d v) (hd : (x == ("__debug__" : Str)) = false := by decide) : DE X (.Name x pos) (wC d) := pe_imp (pe_glob hg hm r hd) (lift_c hr)
theorem de_bltn {x : Str} {d : D} {v : V} {u : Value} {pos : Pos} (hg : Gl X x) (hm : X.mg x = none) (hv : bootBuiltins x = some u) (r : RelV v u) (hr : ∀ K S H, Rel K S H d v) (hn : x ≠ "__name__" := by decide) (hd : (x == ("__debug__" : Str)) = false := by decide) :
    DE X (.Name x pos) (wC d) := pe_imp (pe_bltn hg hm hv r hn hd) (lift_c hr)

/-! ### operators by values -/
abbrev WO := D → D → SO → KD → Prop
abbrev WU := D → SO → KD → Prop
abbrev WL := List D → SO → KD → Prop
def liftO (K : PySem.W.Frag) (w : WO) : R2 := fun v u H Q => ∃ x y S Q0, SRel K S H ∧ Rel K S H x v ∧ Rel K S H y u ∧ w x y S Q0 ∧ Ans K S H Q0 Q
def liftL (K : PySem.W.Frag) (w : WL) : List V → Hp → VK → Prop := fun v H Q => ∃ x S Q0, SRel K S H ∧ Rels K S H x v ∧ w x S Q0 ∧ Ans K S H Q0 Q
def liftM (K : PySem.W.Frag) (w : D → List D → SO → KD → Prop) : V → List V → Hp → VK → Prop := fun u v H Q => ∃ d x S Q0, SRel K S H ∧ Rel K S H d u ∧ Rels K S H x v ∧ w d x S Q0 ∧ Ans K S H Q0 Q
abbrev DO2 (X : Cx) (f : Value → Value → Sem Value) (w : WO) : Prop := OpR X f (liftO X.K w)
abbrev DC (X : Cx) (f : Value) (w : WL) : Prop := CallR X f (liftL X.K w)
variable {a b c : Expr} {wa wb wc : WE} {pos : Pos}
def wO (w : WO) (wa wb : WE) : WE := fun sd S Q => wa sd S fun x S1 => wb sd S1 fun y S2 => w x y S2 Q
def wU (w : WU) (wa : WE) : WE := fun sd S Q => wa sd S fun x S1 => w x S1 Q
theorem two {w : D → D → SO → KD → Prop} {σ : St} {H : Hp} {Q : VK} (h : lift X.K (wO w wa wb) σ H Q) {R : V → V → Hp → VK → Prop}
    (hr : ∀ v u H2 x y S2 Q0, SRel X.K S2 H2 → Rel X.K S2 H2 x v → Rel X.K S2 H2 y u → w x y S2 Q0 → Ans X.K S2 H2 Q0 Q → R v u H2 Q) : lift X.K wa σ H fun v H1 => lift X.K wb σ H1 fun u H2 => R v u H2 Q := by
  obtain ⟨sd, S, Q0, st, q, an⟩ := h
  exact ⟨sd, S, _, st, q, fun x S1 v H1 q1 n1 s1 r1 => ⟨sd, S1, _, st.nx n1 s1, q1, fun y S2 u H2 q2 n2 s2 r2 => hr v u H2 x y S2 Q0 s2 (Rel.nx n2 _ _ r1) r2 q2 (an.nx (n1.trans n2))⟩⟩
theorem de_o {op : Operator} {w : WO} (ho : DO2 X (binaryOp op) w) (ha : DE X a wa) (hb : DE X b wb) : DE X (.BinOp a op b pos) (wO w wa wb) :=
  pe_imp (pe_op ho ha hb) fun σ H Q h => two h fun v u H2 x y S2 Q0 s2 r1 r2 q2 an => ⟨x, y, S2, Q0, s2, r1, r2, q2, an⟩
theorem de_c {op : CmpOp} {w : WO} (ho : DO2 X (compareOp op) w) (ha : DE X a wa) (hb : DE X b wb) (hm : behindInMarks op b = false := by first | exact nomark _ | rfl) : DE X (.Compare a [op] [b] pos) (wO w wa wb) :=
  pe_imp (pe_cmpR ho ha hb hm) fun σ H Q h => two h fun v u H2 x y S2 Q0 s2 r1 r2 q2 an => ⟨x, y, S2, Q0, s2, r1, r2, q2, an⟩
/-- the answer is a truth -/
def isB0 (Q : Bool → SO → Prop) : KD := fun d S => match d with
  | .bl b => Q b S
  | _ => False
structure IsB (Q : Bool → SO → Prop) (d : D) (S : SO) : Prop where
  ex : isB0 Q d S
def isB (Q : Bool → SO → Prop) : KD := fun d S => IsB Q d S
def wB (wa : WE) : WT := fun sd S Q => wa sd S (isB Q)
theorem isB_ans {K : PySem.W.Frag} {S : SO} {H : Hp} {Q0 : Bool → SO → Prop} {Q : Bool → Hp → Prop} (an : AnsT K S H Q0 Q) : Ans K S H (isB Q0) fun x H' => ∃ k, x = .bl k ∧ Q k H' := fun d S' v H' q n s r => by
  have q := q.ex
  cases d with
  | bl k =>
    have e : v = .bl k := r
    exact ⟨k, e, an k S' H' q n s⟩
  | _ => exact q.elim
/-- a comparison as a test -/
theorem dt_c {op : CmpOp} {w : WO} (ho : DO2 X (compareOp op) w) (ha : DE X a wa) (hb : DE X b wb) (hm : behindInMarks op b = false := by first | exact nomark _ | rfl) : DT X (.Compare a [op] [b] pos) (wB (wO w wa wb)) :=
  pt_imp (pt_cmpR ho ha hb hm) fun σ H Q ⟨sd, S, Q0, st, q, an⟩ => by
    refine two (w := w) (wa := wa) (wb := wb) (R := liftO X.K w) ⟨sd, S, _, st, q, isB_ans an⟩ fun v u H2 x y S2 Q0' s2 r1 r2 q2 an => ?_
    exact ⟨x, y, S2, Q0', s2, r1, r2, q2, an⟩
/-- an expression whose value is a truth, as a test -/
theorem dt_b {e : Expr} {w : WE} (h : DE X e w) (he : ∀ whole, isTrue e X.env whole = (do let v ← whole; standAt e.pos; holding [v] (truthy v)) := by intro _; rfl) : DT X e (wB w) :=
  pt_imp (pt_val h he) fun σ H Q ⟨sd, S, Q0, st, q, an⟩ => ⟨sd, S, _, st, q, isB_ans an⟩
/-- a < b < c -/
def wCh (w w' : WO) (wa wb wc : WE) : WE := fun sd S Q => wa sd S fun x S1 => wb sd S1 fun y S2 => w x y S2 fun z S3 => isB (fun k S3 => if k = true then wc sd S3 fun u S4 => w' y u S4 Q else Q (.bl false) S3) z S3
theorem de_ch {op op' : CmpOp} {w w' : WO} (ho : DO2 X (compareOp op) w) (ho' : DO2 X (compareOp op') w') (ha : DE X a wa) (hb : DE X b wb) (hc : DE X c wc) (hm : lastMarks [op, op'] [b, c] = false := by with_unfolding_all rfl) :
    DE X (.Compare a [op, op'] [b, c] pos) (wCh w w' wa wb wc) := by
  refine pe_imp (pe_chain ho ho' ha hb hc hm) fun σ H Q ⟨sd, S, Q0, st, q, an⟩ => ?_
  refine ⟨sd, S, _, st, q, fun x S1 v H1 q1 n1 s1 r1 => ⟨sd, S1, _, st.nx n1 s1, q1, fun y S2 u H2 q2 n2 s2 r2 => ⟨x, y, S2, _, s2, Rel.nx n2 _ _ r1, r2, q2, fun z S3 zv H3 q3 n3 s3 r3 => ?_⟩⟩⟩
  have q3 := q3.ex
  cases z with
  | bl k =>
    have e : zv = .bl k := r3
    refine ⟨k, e, ?_⟩
    have n13 := (n1.trans n2).trans n3
    have q3' : if k = true then wc sd S3 fun u S4 => w' y u S4 Q0 else Q0 (.bl false) S3 := q3
    cases k with
    | true => exact ⟨sd, S3, _, st.nx n13 s3, q3', fun t S4 tv H4 q4 n4 s4 r4 => ⟨y, t, S4, Q0, s4, Rel.nx n4 _ _ (Rel.nx n3 _ _ r2), r4, q4, an.nx (n13.trans n4)⟩⟩
    | false => exact an _ _ _ _ q3' n13 s3 rfl
  | _ => exact False.elim q3
/-! ### and, or, not, if -/
variable {ta tb tc : WT} {rest : List Expr}
def wAnd (t u : WT) : WT := fun sd S Q => t sd S fun k S1 => if k = true then u sd S1 Q else Q false S1
def wOr (t u : WT) : WT := fun sd S Q => t sd S fun k S1 => if k = true then Q true S1 else u sd S1 Q
def wNot (t : WT) : WT := fun sd S Q => t sd S fun k S1 => Q (!k) S1
theorem dw_and1 (ha : DT X a ta) : DW X (.BoolOp .And [a] pos) ta := pw_and1 ha
theorem dw_or1 (ha : DT X a ta) : DW X (.BoolOp .Or [a] pos) ta := pw_or1 ha
theorem dw_and (ha : DT X a ta) (hb : DW X (.BoolOp .And (b :: rest) pos) tb) : DW X (.BoolOp .And (a :: b :: rest) pos) (wAnd ta tb) := by
  refine pw_imp (pw_and ha hb) fun σ H Q ⟨sd, S, Q0, st, q, an⟩ => ⟨sd, S, _, st, q, fun k S1 H1 q1 n1 s1 => ?_⟩
  cases k with
  | true => exact ⟨sd, S1, Q0, st.nx n1 s1, q1, an.nx n1⟩
  | false => exact an _ _ _ q1 n1 s1
theorem dw_or (ha : DT X a ta) (hb : DW X (.BoolOp .Or (b :: rest) pos) tb) : DW X (.BoolOp .Or (a :: b :: rest) pos) (wOr ta tb) := by
  refine pw_imp (pw_or ha hb) fun σ H Q ⟨sd, S, Q0, st, q, an⟩ => ⟨sd, S, _, st, q, fun k S1 H1 q1 n1 s1 => ?_⟩
  cases k with
  | true => exact an _ _ _ q1 n1 s1
  | false => exact ⟨sd, S1, Q0, st.nx n1 s1, q1, an.nx n1⟩
theorem dw_pt (h : DW X a ta) : DT X a ta := PW.pt h
theorem dt_not (ha : DT X a ta) : DT X (.UnaryOp .Not a pos) (wNot ta) :=
  pt_imp (pt_not ha) fun σ H Q ⟨sd, S, Q0, st, q, an⟩ => ⟨sd, S, _, st, q, fun k S1 H1 q1 n1 s1 => an _ _ _ q1 n1 s1⟩
/-- as values, all but the last truths -/
def wAndV (wa wb : WE) : WE := fun sd S Q => wa sd S (isB fun k S1 => if k = true then wb sd S1 Q else Q (.bl false) S1)
def wOrV (wa wb : WE) : WE := fun sd S Q => wa sd S (isB fun k S1 => if k = true then Q (.bl true) S1 else wb sd S1 Q)
def wNotV (wa : WE) : WE := fun sd S Q => wa sd S (isB fun k S1 => Q (.bl (!k)) S1)
theorem de_one {op} {w : WE} (h : DE X a w) : DE X (.BoolOp op [a] pos) w := pe_one h
theorem de_and (ha : DE X a wa) (hb : DE X (.BoolOp .And (b :: rest) pos) wb) : DE X (.BoolOp .And (a :: b :: rest) pos) (wAndV wa wb) := by
  refine pe_imp (pe_and ha hb) fun σ H Q ⟨sd, S, Q0, st, q, an⟩ => ⟨sd, S, _, st, q, fun d S1 v H1 q1 n1 s1 r1 => ?_⟩
  have q1 := q1.ex
  cases d with
  | bl k =>
    have e : v = .bl k := r1
    refine ⟨k, e, ?_⟩
    cases k with
    | true => exact ⟨sd, S1, Q0, st.nx n1 s1, q1, an.nx n1⟩
    | false => exact an _ _ _ _ q1 n1 s1 rfl
  | _ => exact False.elim q1
theorem de_or (ha : DE X a wa) (hb : DE X (.BoolOp .Or (b :: rest) pos) wb) : DE X (.BoolOp .Or (a :: b :: rest) pos) (wOrV wa wb) := by
  refine pe_imp (pe_or ha hb) fun σ H Q ⟨sd, S, Q0, st, q, an⟩ => ⟨sd, S, _, st, q, fun d S1 v H1 q1 n1 s1 r1 => ?_⟩
  have q1 := q1.ex
  cases d with
  | bl k =>
    have e : v = .bl k := r1
    refine ⟨k, e, ?_⟩
    cases k with
    | true => exact an _ _ _ _ q1 n1 s1 rfl
    | false => exact ⟨sd, S1, Q0, st.nx n1 s1, q1, an.nx n1⟩
  | _ => exact False.elim q1
def wIf (t : WT) (wa wb : WE) : WE := fun sd S Q => t sd S fun k S1 => if k = true then wa sd S1 Q else wb sd S1 Q
theorem de_if {c : Expr} (hc : DT X c tc) (ha : DE X a wa) (hb : DE X b wb) : DE X (.IfExp c a b pos) (wIf tc wa wb) := by
  refine pe_imp (pe_ifExp hc ha hb) fun σ H Q ⟨sd, S, Q0, st, q, an⟩ => ⟨sd, S, _, st, q, fun k S1 H1 q1 n1 s1 => ?_⟩
  cases k with
  | true => exact ⟨sd, S1, Q0, st.nx n1 s1, q1, an.nx n1⟩
  | false => exact ⟨sd, S1, Q0, st.nx n1 s1, q1, an.nx n1⟩

/-! ### arguments, displays, calls of built-ins by their names -/
def wNil : WA := fun _ S Q => Q [] S
def wCons (w : WE) (r : WA) : WA := fun sd S Q => w sd S fun x S1 => r sd S1 fun xs S2 => Q (x :: xs) S2
theorem da_nil : DA X [] wNil := pa_imp pa_nil fun σ H Q ⟨sd, S, Q0, st, q, an⟩ => an _ _ _ _ q (Nx.refl _ _) st.s rfl
theorem da_cons {e : Expr} {es : List Expr} {w : WE} {r : WA} (he : DE X e w) (hr : DA X es r) (hs : starEach (e :: es) X.env = (false, eval e X.env) :: starEach es X.env := by rfl) : DA X (e :: es) (wCons w r) :=
  pa_imp (pa_cons he hr hs) fun σ H Q ⟨sd, S, Q0, st, q, an⟩ => ⟨sd, S, _, st, q, fun x S1 v H1 q1 n1 s1 r1 => ⟨sd, S1, _, st.nx n1 s1, q1, fun xs S2 vs H2 q2 n2 s2 r2 => an _ _ _ _ q2 (n1.trans n2) s2 ⟨v, vs, rfl, Rel.nx n2 _ _ r1, r2⟩⟩⟩
def wTup (t : WA) : WE := fun sd S Q => t sd S fun xs S1 => xs.length ≤ 1000000 ∧ Q (.tup xs) S1
/-- a new list that nobody changes; one that may change -/
def wLst (t : WA) : WE := fun sd S Q => t sd S fun xs S1 => xs.length ≤ 1000000 ∧ Q (.lst xs) S1
def wNew (t : WA) : WE := fun sd S Q => t sd S fun xs S1 => xs.length ≤ 1000000 ∧ ∀ p, S1 p = none → Q (.obj p) (S1.set p (.lst xs))
theorem le_line {n : Nat} (h : n ≤ 1000000) : n ≤ sizeLine := Nat.le_trans h (by rw [sizeLine_eq]; decide)
variable {es : List Expr} {t : WA}
theorem de_tup {x1} (h : DA X es t) : DE X (.Tuple es x1 pos) (wTup t) :=
  pe_imp (pe_tup h) fun σ H Q ⟨sd, S, Q0, st, q, an⟩ => ⟨sd, S, _, st, q, fun xs S1 vs H1 q1 n1 s1 r1 => ⟨by rw [← r1.length]; exact le_line q1.1, fun p hp =>
    an _ _ _ _ q1.2 (n1.trans (nx_new hp)) (s1.new hp) ⟨p, vs, rfl, ⟨s1.free hp, upd_same⟩, r1.nx (nx_new hp)⟩⟩⟩
theorem de_lst (h : DA X es t) : DE X (.List es pos) (wLst t) :=
  pe_imp (pe_lst h) fun σ H Q ⟨sd, S, Q0, st, q, an⟩ => ⟨sd, S, _, st, q, fun xs S1 vs H1 q1 n1 s1 r1 => ⟨by rw [← r1.length]; exact le_line q1.1, fun p hp =>
    an _ _ _ _ q1.2 (n1.trans (nx_new hp)) (s1.new hp) ⟨p, vs, rfl, s1.free hp, upd_same, r1.nx (nx_new hp)⟩⟩⟩
theorem de_new (h : DA X es t) : DE X (.List es pos) (wNew t) :=
  pe_imp (pe_lst h) fun σ H Q ⟨sd, S, Q0, st, q, an⟩ => ⟨sd, S, _, st, q, fun xs S1 vs H1 q1 n1 s1 r1 => ⟨by rw [← r1.length]; exact le_line q1.1, fun p hp => by
    have n2 : Nx S1 H1 (S1.set p (.lst xs)) (upd H1 p (.lst vs)) := nx_obj hp (s1.free hp)
    exact an _ _ _ _ (q1.2 p (s1.free hp)) (n1.trans n2) (srel_put s1 n2 ⟨vs, upd_same, r1.nx n2⟩) rfl⟩⟩
def wCall (w : WL) (t : WA) : WE := fun sd S Q => t sd S fun xs S1 => w xs S1 Q
theorem call_lift {w : WL} {σ : St} {H : Hp} {Q : VK} (h : lift X.K (wCall w t) σ H Q) : tCB (liftL X.K w) (liftA X.K t) σ H Q := by
  obtain ⟨sd, S, Q0, st, q, an⟩ := h
  exact ⟨sd, S, _, st, q, fun xs S1 vs H1 q1 n1 s1 r1 => ⟨xs, S1, Q0, s1, r1, q1, an.nx n1⟩⟩
theorem de_callB {x : Str} {p pos : Pos} {e : Expr} {es : List Expr} {t : WA} {id : String} {w : WL} (hc : DC X (.builtin id) w) (hg : Gl X x) (hm : X.mg x = none) (hv : bootBuiltins x = some (.builtin id)) (ha : DA X (e :: es) t) (hn : x ≠ "__name__" := by decide)
    (hdb : (x == ("__debug__" : Str)) = false := by decide) (he : starEach (e :: es) X.env = (false, eval e X.env) :: starEach es X.env := by rfl) (hpl : (backTo pos (starEach es X.env)).any (fun x => x.1) = false := by rfl) : DE X (.Call (.Name x p) (e :: es) [] pos) (wCall w t) := pe_imp (pe_callB hc hg hm hv ha hn hdb he hpl) fun σ H Q h => call_lift h
theorem de_callTy {x : Str} {p pos : Pos} {e : Expr} {es : List Expr} {t : WA} {T : String} {w : WL} (hc : DC X (.type T) w) (hg : Gl X x) (hm : X.mg x = none) (hv : bootBuiltins x = some (.type T)) (ha : DA X (e :: es) t) (hn : x ≠ "__name__" := by decide)
    (hdb : (x == ("__debug__" : Str)) = false := by decide) (he : starEach (e :: es) X.env = (false, eval e X.env) :: starEach es X.env := by rfl) (hpl : (backTo pos (starEach es X.env)).any (fun x => x.1) = false := by rfl) : DE X (.Call (.Name x p) (e :: es) [] pos) (wCall w t) := pe_imp (pe_callTy hc hg hm hv ha hn hdb he hpl) fun σ H Q h => call_lift h

/-! ### statements -/
variable {st : Stmt} {sts : List Stmt} {ws wt : WS} {we : WE} {e : Expr}
def wNext : WS := fun E sd S => E.nx sd S
def wSeq (a b : WS) : WS := fun E sd S => a { E with nx := b E } sd S
theorem dss_nil : DSs X [] wNext := pss_imp pss_nil fun E σ H ⟨sd, S, E0, st, q, an⟩ => an.nx _ _ _ _ q (Nx.refl _ _) st
theorem dss_cons (h1 : DS X st ws) (h2 : DSs X sts wt) : DSs X (st :: sts) (wSeq ws wt) :=
  pss_imp (pss_cons h1 h2) fun E σ H ⟨sd, S, E0, st, q, an⟩ => ⟨sd, S, _, st, q, ⟨fun sd1 S1 σ1 H1 q1 n1 st1 => ⟨sd1, S1, E0, st1, q1, an.go n1⟩, an.rt, an.bk, an.ct⟩⟩
theorem dss_one (h1 : DS X st ws) : DSs X [st] ws := pss_one h1
def wBreak : WS := fun E sd S => E.bk sd S
def wCont : WS := fun E sd S => E.ct sd S
def wDrop (we : WE) : WS := fun E sd S => we sd S fun _ S1 => E.nx sd S1
theorem ds_expr (he : DE X e we) (hs : swapsWith e none pos.line X.env = pure false := by rfl) : DS X (.Expr e pos) (wDrop we) :=
  ps_imp (ps_expr he hs) fun E σ H ⟨sd, S, E0, st, q, an⟩ => ⟨sd, S, _, st, q, fun d S1 v H1 q1 n1 s1 r1 => an.nx _ _ _ _ q1 n1 (st.nx n1 s1)⟩
def wRet (we : WE) : WS := fun E sd S => we sd S E.rt
theorem ds_ret (he : DE X e we) : DS X (.Return (some e) pos) (wRet we) :=
  ps_imp (ps_ret he) fun E σ H ⟨sd, S, E0, st, q, an⟩ => ⟨sd, S, _, st, q, an.rt⟩
def wRetN : WS := fun E _ S => E.rt .non S
def wIfS (c : WT) (a b : WS) : WS := fun E sd S => c sd S fun k S1 => if k = true then a E sd S1 else b E sd S1
theorem ds_if {c : Expr} {a b : List Stmt} {tc : WT} (hc : DT X c tc) (ha : DSs X a ws) (hb : DSs X b wt) : DS X (.If c a b pos) (wIfS tc ws wt) := by
  refine ps_imp (ps_if hc ha hb) fun E σ H ⟨sd, S, E0, st, q, an⟩ => ⟨sd, S, _, st, q, fun k S1 H1 q1 n1 s1 => ?_⟩
  cases k with
  | true => exact ⟨sd, S1, E0, st.nx n1 s1, q1, an.go n1⟩
  | false => exact ⟨sd, S1, E0, st.nx n1 s1, q1, an.go n1⟩
def wNever : WS := fun _ _ _ => False
theorem ds_never : DS X st wNever := ps_imp ps_never fun E σ H ⟨sd, S, E0, st, q, an⟩ => q.elim

/-! ### targets -/
def gV (i : Nat) : WG := fun d sd S Q => Q (sd.set i (some d)) S
theorem dg_v {i : Nat} {x : Str} {pos : Pos} (hN : X.N.Nodup) (hi : X.N[i]? = some x := by rfl) (hx : Loc X.env.scope x := by first | exact Or.inl rfl | exact Or.inr rfl) (hf : X.fn x = true ∨ X.env.scope.names.lookup x = some .local := by first | exact .inl rfl | exact .inr rfl | assumption) : DG X (.Name x pos) (gV i) :=
  pg_imp (pg_name hN hi hx hf) fun v σ H Q ⟨d, sd, S, Q0, st, r, q, an⟩ => an _ _ _ _ q (Nx.refl _ _) (st.set i r)
def gN : WGs := fun ds sd S Q => ds = [] ∧ Q sd S
def gC (g : WG) (r : WGs) : WGs := fun ds sd S Q => match ds with
  | [] => False
  | d :: ds => g d sd S fun sd1 S1 => r ds sd1 S1 Q
theorem dgs_nil : DGs X [] gN := pgs_imp pgs_nil fun v σ H Q ⟨d, sd, S, Q0, st, r, q, an⟩ => by
  obtain ⟨rfl, q⟩ := q
  exact ⟨r, an _ _ _ _ q (Nx.refl _ _) st⟩
theorem dgs_cons {e : Expr} {es : List Expr} {g : WG} {r : WGs} (h1 : DG X e g) (h2 : DGs X es r) (hs : (assignEach (e :: es) X.env).map (·.2) = assign e X.env :: (assignEach es X.env).map (·.2) := by rfl) : DGs X (e :: es) (gC g r) :=
  pgs_imp (pgs_cons h1 h2 hs) fun v σ H Q ⟨d, sd, S, Q0, st, rr, q, an⟩ => by
    cases d with
    | nil => exact False.elim q
    | cons d ds =>
      obtain ⟨v1, vr, e1, r1, r2⟩ := rr
      exact ⟨v1, vr, e1, d, sd, S, _, st, r1, q, fun sd1 S1 σ1 H1 q1 n1 st1 => ⟨ds, sd1, S1, Q0, st1, r2.nx n1, q1, an.nx n1⟩⟩
/-- (a, b, ..) = a tuple -/
def gT (n : Nat) (r : WGs) : WG := fun d sd S Q => match d with
  | .tup xs => xs.length = n ∧ r xs sd S Q
  | _ => False
theorem dg_tup {es : List Expr} {k : Nat} {r : WGs} {n : Nat} (hc : X.calm = true) (h : DGs X es r) (hn : (assignEach es X.env).length = n := by rfl) (hst : (assignEach es X.env).findIdx? (·.1) = none := by rfl) : DG X (.Tuple es k pos) (gT n r) :=
  pg_imp (pg_tup hc h hn hst) fun v σ H Q ⟨d, sd, S, Q0, st, rr, q, an⟩ => by
    cases d with
    | tup xs =>
      obtain ⟨hl, q⟩ := q
      obtain ⟨a, vs, e, t, r⟩ := rr
      exact ⟨a, vs, e, t.sq, by rw [← r.length]; exact hl, xs, sd, S, Q0, st, r, q, an⟩
    | _ => exact False.elim q
def wAsg (we : WE) (g : WG) : WS := fun E sd S => we sd S fun d S1 => g d sd S1 E.nx
theorem asg_lift {g : WG} {E : Ends} {σ : St} {H : Hp} (h : liftS X.K (wAsg we g) E σ H) : tAsg (lift X.K we) (liftG X.K g) E σ H := by
  obtain ⟨sd, S, E0, st, q, an⟩ := h
  exact ⟨sd, S, _, st, q, fun d S1 v H1 q1 n1 s1 r1 => ⟨d, sd, S1, _, st.nx n1 s1, r1, q1, an.nx.nx n1⟩⟩
theorem ds_asg {tg e : Expr} {g : WG} (he : DE X e we) (hg : DG X tg g) (hs : swapsWithSole [tg] e pos.line X.env = pure false := by rfl) (hw : swappedStores [tg] e X.env = pure none := by rfl) (h1 : (assignEach [tg] X.env).map (·.2) = [assign tg X.env] := by rfl) :
    DS X (.Assign [tg] e pos) (wAsg we g) := ps_imp (ps_asg he hg hs hw h1) fun E σ H h => asg_lift h
theorem ds_set {i : Nat} {x : Str} {e : Expr} {pos' : Pos} (hN : X.N.Nodup) (he : DE X e we) (hi : X.N[i]? = some x := by rfl) (hx : Loc X.env.scope x := by first | exact Or.inl rfl | exact Or.inr rfl) (hs : swapsWith e (some (.Name x pos')) pos.line X.env = pure false := by rfl)
    (hf : X.fn x = true ∨ X.env.scope.names.lookup x = some .local := by first | exact .inl rfl | exact .inr rfl | assumption) : DS X (.Assign [.Name x pos'] e pos) (wAsg we (gV i)) :=
  ps_imp (ps_set hN hi hx he hs hf) fun E σ H ⟨sd, S, E0, st, q, an⟩ => ⟨sd, S, _, st, q, fun d S1 v H1 q1 n1 s1 r1 => an.nx _ _ _ _ q1 n1 ((st.nx n1 s1).set i r1)⟩
end
end L2.DL

/-! DL3: defs: what they promise over data (no repr is being made around them), calls, methods, makings, attributes -/
namespace L2.DL
open PySem PySem.Spec PyProof.Rows

/-- HandS's FnOk where, besides, no guard stands around -/
structure FnG (P : Program) (w : World) (K : PySem.W.Frag) (mg : Str → Option Value) (base : Heap) (CX : CXT) (k : Nat) (f : Addr) (fd : FuncData) (ps : List Str) (sp : Sp) : Prop where
  len : ∀ vs H Q E, sp vs H Q E → vs.length = ps.length
  go : ∀ (A : Around) (outer : List Env) (s : Shared) (H : Hp) (args : Args) (us : List Value) (vs : List V) (Q : VK) (E : XK), Room k A → A.guards = some [] → Env0 P w K mg base A outer s H →
    BindsTo s fd args (ps.zip us) → Vals vs us → sp vs H Q E → codeAny (model P w) A (.call (.ref f) args) (CR CX outer P w H s Q E) s
section
variable {P : Program} {w : World} {K : PySem.W.Frag} {mg : Str → Option Value} {base : Heap} {CX : CXT} {k j : Nat} {f : Addr} {fd : FuncData} {ps : List Str} {sp sp' : Sp}
theorem FnG.of (F : FnOk P w K mg base CX k f fd ps sp) : FnG P w K mg base CX k f fd ps sp := ⟨F.len, fun A outer s H args us vs Q E hr _ e b r h => F.run A outer s H args us vs Q E hr e b r h⟩
theorem FnG.up (F : FnG P w K mg base CX j f fd ps sp) (h : j ≤ k) : FnG P w K mg base CX k f fd ps sp := ⟨F.len, fun A outer s H args us vs Q E hr hg e b r q => F.go A outer s H args us vs Q E (hr.mono h) hg e b r q⟩
theorem FnG.imp (F : FnG P w K mg base CX k f fd ps sp) (h : ∀ vs H Q E, sp' vs H Q E → sp vs H Q E) : FnG P w K mg base CX k f fd ps sp' :=
  ⟨fun vs H Q E q => F.len vs H Q E (h _ _ _ _ q), fun A outer s H args us vs Q E hr hg e b r q => F.go A outer s H args us vs Q E hr hg e b r (h _ _ _ _ q)⟩
/-- a def's object as the written part holds it -/
def FnAt (K : PySem.W.Frag) (qual : Str) (st : Stmt) (f : Addr) (fd : FuncData) : Prop := ∃ (x : Str) (oc : Value) (od : Option Addr) (dV kV doc pm : Value) (an : Option Addr) (cdv ct : Value) (osl : Array (Option Value)),
  fd = PySem.W.fnOf x qual (defArgs st) (defBody st) (defScope st) dV kV doc pm an cdv ct ∧ K.lookup f = some ⟨oc, od, .func fd, osl⟩ ∧ PySem.W.codeIn K cdv qual = true
theorem fun_at {x qual : Str} {st : Stmt} (F : Fun K x qual st f fd) : FnAt K qual st f fd := let ⟨oc, od, kV, doc, pm, an, cdv, ct, osl, h⟩ := F.ex; ⟨x, oc, od, _, kV, doc, pm, an, cdv, ct, osl, h⟩
theorem funD_at {x qual : Str} {st : Stmt} {dvs : List V} {kws : List (Str × V)} (F : FunD K x qual (defArgs st) (defBody st) (defScope st) dvs kws f fd) : FnAt K qual st f fd := let ⟨oc, od, dV, kV, doc, pm, an, cdv, ct, osl, h1, h2, h3, _⟩ := F.ex; ⟨x, oc, od, dV, kV, doc, pm, an, cdv, ct, osl, h1, h2, h3⟩
/-- a def keeps its promise if its body does -/
theorem fnG_body {qual : Str} {st : Stmt} {N : List Str} (F : FnAt K qual st f fd) (S : FnScope N ps (defScope st)) (len : ∀ vs H Q E, sp vs H Q E → vs.length = ps.length)
    (body : ∀ (cdv : Value) (A : Around) (outer : List Env) (s : Shared) (H : Hp) (vs : List V) (Q : VK) (E : XK), Room k (A.deeper (envOfC qual (defScope st) s.heap.objs.size f cdv)) → (A.deeper (envOfC qual (defScope st) s.heap.objs.size f cdv)).guards = some [] → sp vs H Q E →
      ∃ t, PSs (cxOf CX P w K mg base N qual (defScope st) f cdv A outer s H E) (defBody st) t ∧ t { nx := fun _ H' => Q .non H', rt := Q } (start N vs) H) : FnG P w K mg base CX (k + 1) f fd ps sp := by
  obtain ⟨x, oc, od, dV, kV, doc, pm, an, cdv, ct, osl, rfl, lk, hcd⟩ := F
  refine ⟨len, fun A outer s H args us vs Q E hr hg e0 hb r hsp => ?_⟩
  have keepB : ∀ b o, base.get? b = some o → s.heap.get? b = some o := fun b o e => (e0.bs b o e).1
  have kinds : ∀ y ∈ ps.zip us, (defScope st).names.lookup y.1 = some .local ∨ ((defScope st).names.lookup y.1 = some .cell ∧ ((cellsFrom (s.heap.objs.size + 1) (defScope st).names []).lookup y.1).isSome = true) := by
    rintro ⟨n, v⟩ hy
    exact (S.par n (List.of_mem_zip hy).1).imp id fun q => ⟨q, PySem.W.cellsFrom_some _ _ _ (.inl q)⟩
  refine codeAny_call_function hr.depth (e0.mod.kin.keeps keepB _ _ lk) rfl S.co S.gen rfl (PySem.W.codeRec_of (e0.mod.kin.keeps keepB) hcd) (hb _ _ _ _ (wpAny_newFunctionEnv_cells S.kind kinds fun env he s1 x => ?_))
  subst he
  refine ⟨(e0.mod.nolimit.keeps keepB).keeps x.toInCall.keep, codeAny_func ?_⟩
  obtain ⟨t, ht, hq⟩ := body cdv A outer s H vs Q E (hr.deeper _) hg hsp
  have I := inv_start (CX := CX) (E := E) S hr.hd e0 (len _ _ _ _ hsp) r x
  refine wpAny_mono (ht.run [] s1 _ H _ I hq) (fun fl s' hs => ?_) fun _ _ hs => hs
  cases fl with
  | ret u => exact let ⟨v, _, H', J, rv, q⟩ := hs; ⟨v, H', J.os, J.bare, J.base, J.hok, rv, q⟩
  | next => exact let ⟨_, H', J, q⟩ := hs; ⟨.non, H', J.os, J.bare, J.base, J.hok, rfl, q⟩
  | brk => exact let ⟨_, _, _, q⟩ := hs; q.elim
  | cont => exact let ⟨_, _, _, q⟩ := hs; q.elim
end
section
variable {X : Cx} {CX : CXT} {k : Nat} {f C : Addr} {fd : FuncData} {ps ks : List Str} {sp : Sp} {dvs : List V} {ds : List Value} {E : XK} {x m : Str} {p pos apos : Pos} {e o : Expr} {es : List Expr} {kws : List Keyword} {ta : TE} {t tk : TA}
theorem CE.call {pins : List (Addr × Obj)} {σ : St} {H : Hp} {s s' : Shared} {Q : VK} {r : Result} (I : Inv X pins σ H s) (hx : Passes CX X E) (h : CR CX X.stack X.prog X.w H s Q E r s') :
    match r with
    | .ok (.ret u) => EP X pins σ Q u s'
    | .ok _ => False
    | .error er => X.xe er s' := by
  cases r with
  | error er => exact hx pins σ H s er s' I h
  | ok fl =>
    cases fl with
    | ret u => exact I.after h
    | next => exact h
    | brk => exact h
    | cont => exact h
theorem runG {pins : List (Addr × Obj)} {σ : St} {H : Hp} {s : Shared} {Q : VK} {args : Args} {us : List Value} {vs : List V} (F : FnG X.prog X.w X.K X.mg X.base CX k f fd ps sp) (hr : Room k X.A) (gd : X.A.guards = some []) (hx : Passes CX X E)
    (I : Inv X pins σ H s) (hb : BindsTo s fd args (ps.zip us)) (r : Vals vs us) (h : sp vs H Q E) : wpAny (model X.prog X.w) X.A (call (.ref f) args.pos args.kw) (EP X pins σ Q) X.xe s := by
  refine wpAny_call (codeAny_mono (F.go X.A X.stack s H args us vs Q E hr gd I.env0 hb r h) fun rs s' hq => ?_)
  have z := CE.call I hx hq
  cases rs with
  | error er => exact z
  | ok fl =>
    cases fl with
    | ret u => exact z
    | next => exact z.elim
    | brk => exact z.elim
    | cont => exact z.elim
theorem runB {pins : List (Addr × Obj)} {σ : St} {H : Hp} {s : Shared} {Q : VK} {us : List Value} {vs : List V} (F : FnG X.prog X.w X.K X.mg X.base CX k f fd ps sp) (hr : Room k X.A) (gd : X.A.guards = some []) (hb : Binds X.K fd ps ds) (hd : Vals dvs ds) (hx : Passes CX X E)
    (I : Inv X pins σ H s) (r : Vals vs us) (h : sp (vs ++ dvs) H Q E) : wpAny (model X.prog X.w) X.A (call (.ref f) us) (EP X pins σ Q) X.xe s := by
  have r2 := r.append hd
  exact runG (args := ⟨us, []⟩) F hr gd hx I (hb s us I.kIn (by rw [← r2.length]; exact F.len _ _ _ _ h)) r2 h
theorem peG_call (F : FnG X.prog X.w X.K X.mg X.base CX k f fd ps sp) (hr : Room k X.A) (gd : X.A.guards = some []) (hg : Gl X x) (hm : X.mg x = some (.ref f)) (hk : PySem.W.keepIn X.K (.ref f) = true) (hb : Binds X.K fd ps ds) (hd : Vals dvs ds) (hx : Passes CX X E)
    (ha : PA X (e :: es) t) (hdb : (x == ("__debug__" : Str)) = false := by decide) (he : starEach (e :: es) X.env = (false, eval e X.env) :: starEach es X.env := by rfl) (hpl : (backTo pos (starEach es X.env)).any (·.1) = false := by rfl) :
    PE X (.Call (.Name x p) (e :: es) [] pos) (tCall sp dvs E t) :=
  ⟨fun pins s σ H Q I h => wpAny_Call_Name_kw (ld_glob I hg hm (PySem.W.callWith_K (h₀ := X.base) I.ok.mod.kin hk (thn (ha.run pos pins s σ H _ I h) fun us s1 ⟨vs, H1, I1, r, q⟩ => ⟨I1.kIn, runB F hr gd hb hd hx I1 r q⟩) he hpl) hdb)⟩
/-- a method of an instance -/
abbrev MethTree (X : Cx) (o : Expr) (m : Str) (apos pos : Pos) (pl : Sem Bool) (es : List Expr) : Prop := eval (.Call (.Attribute o m apos) es [] pos) X.env = (do
      let ov ← eval o X.env
      standAt apos.atName
      let (f, first) ← holding [ov] (getMethod ov m pl)
      callWith pos f first (backTo pos (starEach es X.env)) (backToKw pos (keywordEach [] X.env)))
theorem peG_meth {pl : Sem Bool} (he : PE X o ta) (c : Cls X.K C) (hm : Meth X.K C m f) (F : FnG X.prog X.w X.K X.mg X.base CX k f fd ps sp) (hr : Room k X.A) (gd : X.A.guards = some []) (hb : Binds X.K fd ps ds) (hd : Vals dvs ds) (hx : Passes CX X E) (ha : PA X (e :: es) t)
    (hst : starEach (e :: es) X.env = (false, eval e X.env) :: starEach es X.env := by rfl) (hpl : (backTo pos (starEach es X.env)).any (·.1) = false := by rfl) (ht : MethTree X o m apos pos pl (e :: es) := by rfl) :
    PE X (.Call (.Attribute o m apos) (e :: es) [] pos) (tMeth C m sp dvs E ta t) := by
  refine ⟨fun pins s σ H Q I h => PySem.W.methodCall_KW (pl := pl) (thn (he.run pins s σ H _ I h) fun u s1 ⟨x, H1, I1, rx, a, dx, fs, ex, ea, l, q⟩ => ?_) ht⟩
  subst ex
  cases rx
  refine getmeth_ok I1 ea c hm l (PySem.W.callWith_K (first := [.ref a]) (h₀ := X.base) I.ok.mod.kin hm.kp (thn (ha.run pos pins s1 σ H1 _ I1 q) fun us s2 ⟨vs, H2, I2, r, q2⟩ => ⟨I2.kIn, ?_⟩) hst hpl)
  exact runB (us := .ref a :: us) (vs := .ref a :: vs) F hr gd hb hd hx I2 (.cons rfl r) q2
/-- C(..) -/
theorem make_guards {A : Around} {us : List Value} {kw : List (Str × Value)} : (A.under (.builtin "type.__call__" ⟨.ref C :: us, kw⟩)).guards = A.guards := by
  first
    | rfl
    | simp [Around.under, Code.guards, Code.isGuard, guardIds, pushGuards]
theorem runMk {pins : List (Addr × Obj)} {σ : St} {H : Hp} {s : Shared} {Q : VK} {args : Args} {us : List Value} {vs : List V} (M : Mk X.K C f) (F : FnG X.prog X.w X.K X.mg X.base CX k f fd ps sp) (hr : Room (k + 1) X.A) (gd : X.A.guards = some []) (hx : Passes CX X E)
    (I : Inv X pins σ H s) (hb : ∀ (s' : Shared) (x : Value), X.K.In s'.heap → (x :: us).length = ps.length → BindsTo s' fd ⟨x :: args.pos, args.kw⟩ (ps.zip (x :: us))) (r : Vals vs us)
    (h : ∀ x dx, H x = none → H dx = none → dx ≠ x → sp (.ref x :: vs) (upd (upd H dx (.own x)) x (.ins C dx [])) (fun v H2 => v = .non ∧ Q (.ref x) H2) E) : wpAny (model X.prog X.w) X.A (call (.ref C) args.pos args.kw) (EP X pins σ Q) X.xe s := by
  have hq := h (s.heap.objs.size + 1) s.heap.objs.size (I.hok.fresh (Nat.le_succ _)) (I.hok.fresh (Nat.le_refl _)) (Nat.ne_of_lt (Nat.lt_succ_self _))
  have I2 := Inv.made (C := C) I
  have r2 : Vals (V.ref (s.heap.objs.size + 1) :: vs) (Value.ref (s.heap.objs.size + 1) :: us) := .cons rfl r
  refine wpAny_call (make_map (f := f) I.kIn M.makes M.init (beq_iff_eq.mp M.fn) (codeAny_mono (F.go _ X.stack _ _ ⟨Value.ref (s.heap.objs.size + 1) :: args.pos, args.kw⟩ (Value.ref (s.heap.objs.size + 1) :: us) _ _ E (hr.make C args.pos args.kw)
    (make_guards.trans gd) (I2.env0.make C args.pos args.kw) (hb _ _ I2.kIn (by rw [← r2.length]; exact F.len _ _ _ _ hq)) r2 hq) fun rs s' hq' => ?_))
  have z := CE.call I2 hx hq'
  cases rs with
  | error er => exact z
  | ok fl =>
    cases fl with
    | ret u =>
      obtain ⟨v, H', I3, rv, ev, q3⟩ := z
      subst ev
      exact ⟨rv, ⟨V.ref (s.heap.objs.size + 1), H', I3, rfl, q3⟩⟩
    | next => exact z.elim
    | brk => exact z.elim
    | cont => exact z.elim
theorem peG_make (M : Mk X.K C f) (F : FnG X.prog X.w X.K X.mg X.base CX k f fd ps sp) (hr : Room (k + 1) X.A) (gd : X.A.guards = some []) (hg : Gl X x) (hm : X.mg x = some (.ref C)) (hb : Binds X.K fd ps ds) (hd : Vals dvs ds) (hx : Passes CX X E)
    (ha : PA X (e :: es) t) (hdb : (x == ("__debug__" : Str)) = false := by decide) (he : starEach (e :: es) X.env = (false, eval e X.env) :: starEach es X.env := by rfl) (hpl : (backTo pos (starEach es X.env)).any (·.1) = false := by rfl) :
    PE X (.Call (.Name x p) (e :: es) [] pos) (tMake C sp dvs E t) := by
  refine ⟨fun pins s σ H Q I h => wpAny_Call_Name_kw (ld_glob I hg hm (PySem.W.callWith_K (h₀ := X.base) I.ok.mod.kin M.kp (thn (ha.run pos pins s σ H _ I h) fun us s1 ⟨vs, H1, I1, r, q⟩ => ⟨I1.kIn, ?_⟩) he hpl) hdb)⟩
  exact runMk (args := ⟨us, []⟩) (us := us ++ ds) M F hr gd hx I1 (fun s' x kx hl => hb s' (x :: us) kx hl) (r.append hd) q
/-! ### .. over data -/
/-- a promise over data: the arguments, the objects, what is wanted of the answer, what is wanted of an error (its class, its attributes) -/
abbrev EK := Str → List (Str × D) → SO → Prop
abbrev DSp := List D → SO → KD → EK → Prop
def AnsX (K : PySem.W.Frag) (S : SO) (H : Hp) (E0 : EK) (E : XK) : Prop := ∀ n fs S' H' C d, E0 n fs S' → Nx S H S' H' → SRel K S' H' → PySem.W.nsIn K mainGlobals n = some (some (.ref C)) → ErrF K S' H' d fs → E (.ref C) d H'
def liftSp (K : PySem.W.Frag) (sp : DSp) : Sp := fun vs H Q E => ∃ ds S Q0 E0, SRel K S H ∧ Rels K S H ds vs ∧ sp ds S Q0 E0 ∧ Ans K S H Q0 Q ∧ AnsX K S H E0 E
abbrev NoE : EK := fun _ _ _ => False
theorem noE_ans {K : PySem.W.Frag} {S : SO} {H : Hp} {E : XK} : AnsX K S H NoE E := fun _ _ _ _ _ _ h => h.elim
abbrev FnD (P : Program) (w : World) (K : PySem.W.Frag) (mg : Str → Option Value) (base : Heap) (k : Nat) (f : Addr) (fd : FuncData) (ps : List Str) (sp : DSp) : Prop := FnG P w K mg base CX0 k f fd ps (liftSp K sp)

variable {dsp : DSp} {dds : List D} {wt wk : WA} {wo : WE}
/-- f(..); the defaults dds -/
def wFn (sp : DSp) (dds : List D) (t : WA) : WE := fun sd S Q => t sd S fun xs S1 => sp (xs ++ dds) S1 Q NoE
/-- the defaults: values that hang on no heap -/
def Lits (dds : List D) (dvs : List V) : Prop := ∀ K S H, Rels K S H dds dvs
theorem lits_nil : Lits [] [] := fun _ _ _ => rfl
theorem de_fn (F : FnD X.prog X.w X.K X.mg X.base k f fd ps dsp) (hr : Room k X.A) (gd : X.A.guards = some []) (hm : X.mg x = some (.ref f)) (hk : PySem.W.keepIn X.K (.ref f) = true) (hb : Binds X.K fd ps ds) (hd : Vals dvs ds) (hl : Lits dds dvs) (ha : DA X (e :: es) wt)
    (hg : Gl X x := by rfl) (hdb : (x == ("__debug__" : Str)) = false := by decide) (he : starEach (e :: es) X.env = (false, eval e X.env) :: starEach es X.env := by rfl) (hpl : (backTo pos (starEach es X.env)).any (·.1) = false := by rfl) :
    DE X (.Call (.Name x p) (e :: es) [] pos) (wFn dsp dds wt) :=
  pe_imp (peG_call F hr gd hg hm hk hb hd (E := E0) pass0 ha hdb he hpl) fun σ H Q ⟨sd, S, Q0, st, q, an⟩ => ⟨sd, S, _, st, q, fun xs S1 vs H1 q1 n1 s1 r1 => ⟨xs ++ dds, S1, Q0, NoE, s1, r1.app (hl _ _ _), q1, an.nx n1, noE_ans⟩⟩
/-- the instance d of the class at C, of these attributes -/
def InsD (C : Addr) (d : D) (S : SO) (fs : List (Str × D)) : Prop := match d with
  | .ins C' gs => C' = C ∧ gs = fs
  | .obj a => S a = some (.ins C fs)
  | _ => False
theorem InsD.at {K : PySem.W.Frag} {S : SO} {H : Hp} {d : D} {v : V} {fs : List (Str × D)} (h : InsD C d S fs) (s : SRel K S H) (r : Rel K S H d v) : ∃ a dx l, v = .ref a ∧ H a = some (.ins C dx l) ∧ RelF K S H fs l := by
  cases d with
  | ins C' gs =>
    obtain ⟨rfl, rfl⟩ := h
    obtain ⟨a, dx, l, e, _, hl, rf⟩ := r
    exact ⟨a, dx, l, e, hl, rf⟩
  | obj a =>
    obtain ⟨dx, l, hl, rf⟩ := s a _ h
    exact ⟨a, dx, l, r, hl, rf⟩
  | _ => exact False.elim h
/-- o.m(..) -/
def wMeth (C : Addr) (m : Str) (sp : DSp) (dds : List D) (wo : WE) (t : WA) : WE := fun sd S Q => wo sd S fun d S1 => (∃ fs, InsD C d S1 fs ∧ fs.lookup m = none) ∧ t sd S1 fun xs S2 => sp (d :: (xs ++ dds)) S2 Q NoE
theorem meth_lift {σ : St} {H : Hp} {Q : VK} (hl : Lits dds dvs) (h : lift X.K (wMeth C m dsp dds wo wt) σ H Q) : tMeth C m (liftSp X.K dsp) dvs E0 (lift X.K wo) (liftA X.K wt) σ H Q := by
  obtain ⟨sd, S, Q0, st, q, an⟩ := h
  refine ⟨sd, S, _, st, q, fun d S1 v H1 ⟨⟨fs, hi, hn⟩, q1⟩ n1 s1 r1 => ?_⟩
  obtain ⟨a, dx, l, e, hl', rf⟩ := hi.at s1 r1
  refine ⟨a, dx, l, e, hl', rf.look_none hn, sd, S1, _, st.nx n1 s1, q1, fun xs S2 vs H2 q2 n2 s2 r2 => ?_⟩
  exact ⟨d :: (xs ++ dds), S2, Q0, NoE, s2, ⟨v, _, rfl, Rel.nx n2 _ _ r1, r2.app (hl _ _ _)⟩, q2, an.nx (n1.trans n2), noE_ans⟩
theorem de_meth {pl : Sem Bool} (he : DE X o wo) (c : Cls X.K C) (hm : Meth X.K C m f) (F : FnD X.prog X.w X.K X.mg X.base k f fd ps dsp) (hr : Room k X.A) (gd : X.A.guards = some []) (hb : Binds X.K fd ps ds) (hd : Vals dvs ds) (hl : Lits dds dvs) (ha : DA X (e :: es) wt)
    (hst : starEach (e :: es) X.env = (false, eval e X.env) :: starEach es X.env := by rfl) (hpl : (backTo pos (starEach es X.env)).any (·.1) = false := by rfl) (ht : MethTree X o m apos pos pl (e :: es) := by rfl) :
    DE X (.Call (.Attribute o m apos) (e :: es) [] pos) (wMeth C m dsp dds wo wt) := pe_imp (peG_meth he c hm F hr gd hb hd (E := E0) pass0 ha hst hpl ht) fun σ H Q h => meth_lift hl h
/-- .. frozen at the end -/
def wMakeF (C : Addr) (sp : DSp) (dds : List D) (t : WA) : WE := fun sd S Q => t sd S fun xs S1 => ∀ p, S1 p = none → sp (.obj p :: (xs ++ dds)) (S1.set p (.ins C [])) (fun d S2 => d = .non ∧ ∃ fs, S2 p = some (.ins C fs) ∧ Q (.ins C fs) (S2.del p)) NoE
theorem make_srel {K : PySem.W.Frag} {S : SO} {H : Hp} {x dx : Addr} (s : SRel K S H) (nx : H x = none) (nd : H dx = none) (ne : dx ≠ x) : Nx S H (S.set x (.ins C [])) (upd (upd H dx (.own x)) x (.ins C dx [])) ∧ SRel K (S.set x (.ins C [])) (upd (upd H dx (.own x)) x (.ins C dx [])) := by
  have n1 : Nx S H S (upd H dx (.own x)) := nx_new nd
  have s1 := s.new (o := .own x) nd
  have hx : upd H dx (.own x) x = none := by rw [upd_ne ne.symm]; exact nx
  have n2 : Nx S (upd H dx (.own x)) (S.set x (.ins C [])) (upd (upd H dx (.own x)) x (.ins C dx [])) := nx_obj hx (s1.free hx)
  exact ⟨n1.trans n2, srel_put s1 n2 ⟨dx, [], upd_same, rfl⟩⟩
theorem nx_del {S : SO} {H : Hp} (p : Addr) : Nx S H (S.del p) H := fun a u h1 h2 => ⟨by unfold SO.del; split; rfl; exact h1, h2⟩
theorem srel_del {K : PySem.W.Frag} {S : SO} {H : Hp} (s : SRel K S H) (p : Addr) : SRel K (S.del p) H := fun a u q => by
  have q' : S a = some u := by
    unfold SO.del at q
    split at q
    · cases q
    · exact q
  exact (s a u q').nx (nx_del p) rfl
theorem del_at {S : SO} {p : Addr} : (S.del p) p = none := if_pos rfl
/-- nobody changes it any more -/
theorem frz_ins {K : PySem.W.Frag} {S : SO} {H : Hp} {p : Addr} {fs : List (Str × D)} (s : SRel K S H) (h : S p = some (.ins C fs)) : Nx S H (S.del p) H ∧ SRel K (S.del p) H ∧ Rel K (S.del p) H (.ins C fs) (.ref p) := by
  obtain ⟨dx, l, hl, rf⟩ := s p _ h
  exact ⟨nx_del p, srel_del s p, p, dx, l, rfl, del_at, hl, RelF.nx (nx_del p) _ _ rf⟩
theorem frz_lst {K : PySem.W.Frag} {S : SO} {H : Hp} {p : Addr} {ds : List D} (s : SRel K S H) (h : S p = some (.lst ds)) : Nx S H (S.del p) H ∧ SRel K (S.del p) H ∧ Rel K (S.del p) H (.lst ds) (.ref p) := by
  obtain ⟨l, hl, rf⟩ := s p _ h
  exact ⟨nx_del p, srel_del s p, p, l, rfl, del_at, hl, rf.nx (nx_del p)⟩
theorem frz_dic {K : PySem.W.Frag} {S : SO} {H : Hp} {p : Addr} {t : Bool} {kvs : List (D × D)} (s : SRel K S H) (h : S p = some (.dic t kvs)) : Nx S H (S.del p) H ∧ SRel K (S.del p) H ∧ Rel K (S.del p) H (.dic t kvs) (.ref p) := by
  rcases s p _ h with ⟨l, ht, hl, rf⟩ | ⟨l, ht, hl, rf⟩
  · exact ⟨nx_del p, srel_del s p, p, rfl, del_at, .inl ⟨l, ht, hl, RelK.nx (nx_del p) _ _ rf⟩⟩
  · exact ⟨nx_del p, srel_del s p, p, rfl, del_at, .inr ⟨l, ht, hl, RelT.nx (nx_del p) _ _ rf⟩⟩
theorem de_makeF (M : Mk X.K C f) (F : FnD X.prog X.w X.K X.mg X.base k f fd ps dsp) (hr : Room (k + 1) X.A) (gd : X.A.guards = some []) (hm : X.mg x = some (.ref C)) (hb : Binds X.K fd ps ds) (hd : Vals dvs ds) (hl : Lits dds dvs) (ha : DA X (e :: es) wt) (hg : Gl X x := by rfl)
    (hdb : (x == ("__debug__" : Str)) = false := by decide) (he : starEach (e :: es) X.env = (false, eval e X.env) :: starEach es X.env := by rfl) (hpl : (backTo pos (starEach es X.env)).any (·.1) = false := by rfl) : DE X (.Call (.Name x p) (e :: es) [] pos) (wMakeF C dsp dds wt) :=
  pe_imp (peG_make M F hr gd hg hm hb hd (E := E0) pass0 ha hdb he hpl) fun σ H Q ⟨sd, S, Q0, st, q, an⟩ => ⟨sd, S, _, st, q, fun xs S1 vs H1 q1 n1 s1 r1 => fun y dx ny nd ne => by
    obtain ⟨n2, s2⟩ := make_srel (C := C) s1 ny nd ne
    refine ⟨.obj y :: (xs ++ dds), _, _, NoE, s2, ⟨.ref y, _, rfl, rfl, (r1.nx n2).app (hl _ _ _)⟩, q1 y (s1.free ny), fun d S3 v H3 ⟨e1, fs, hS, q3⟩ n3 s3 r3 => ?_, noE_ans⟩
    subst e1
    obtain ⟨n4, s4, r4⟩ := frz_ins s3 hS
    exact ⟨r3, an _ _ _ _ q3 (n1.trans (n2.trans (n3.trans n4))) s4 r4⟩⟩
/-- o.f, an attribute -/
def wFld (C : Addr) (g : Str) (wo : WE) : WE := fun sd S Q => wo sd S fun d S1 => ∃ fs v, InsD C d S1 fs ∧ fs.lookup g = some v ∧ Q v S1
theorem de_fld {g : Str} (c : Cls X.K C) (n : NoAttr X.K C g) (he : DE X o wo) (hb : attributeBase o g X.env (eval o X.env) = eval o X.env := by rfl) : DE X (.Attribute o g pos) (wFld C g wo) :=
  pe_imp (pe_fld he hb) fun σ H Q ⟨sd, S, Q0, st, q, an⟩ => ⟨sd, S, _, st, q, fun d S1 v H1 ⟨fs, u, hi, hl, q1⟩ n1 s1 r1 => by
    obtain ⟨a, dx, l, e, hH, rf⟩ := hi.at s1 r1
    obtain ⟨y, hy, ry⟩ := rf.look hl
    exact ⟨a, C, dx, l, y, e, hH, c, n, hy, an _ _ _ _ q1 n1 s1 ry⟩⟩
/-- o.p, a property that gives the attribute g -/
theorem de_prop {pn g : Str} {pa ga : Addr} {fdg : FuncData} {psg : List Str} {j : Nat} (c : Cls X.K C) (hp : PropOf X.K C pn pa ga) (F : FnOk X.prog X.w X.K X.mg X.base CX0 j ga fdg psg (getSp C g)) (hr : Room (j + 1) X.A) (hbi : Binds X.K fdg psg []) (he : DE X o wo)
    (hb : attributeBase o pn X.env (eval o X.env) = eval o X.env := by rfl) : DE X (.Attribute o pn pos) (wFld C g wo) :=
  pe_imp (pe_prop he c hp F hr hbi .nil (E := E0) pass0 hb) fun σ H Q ⟨sd, S, Q0, st, q, an⟩ => ⟨sd, S, _, st, q, fun d S1 v H1 ⟨fs, u, hi, hl, q1⟩ n1 s1 r1 => by
    obtain ⟨a, dx, l, e, hH, rf⟩ := hi.at s1 r1
    obtain ⟨y, hy, ry⟩ := rf.look hl
    exact ⟨a, dx, l, e, hH, a, dx, l, y, rfl, hH, hy, an _ _ _ _ q1 n1 s1 ry⟩⟩
/-- self.f = e -/
theorem RelF.put {K : PySem.W.Frag} {S : SO} {H : Hp} {d : D} {v : V} (r : Rel K S H d v) (g : Str) : ∀ {fs : List (Str × D)} {l : List (Str × V)}, RelF K S H fs l → RelF K S H (putD g d fs) (putF g v l)
  | [], _, h => by
    have e : _ = [] := h
    subst e
    exact ⟨v, [], rfl, r, rfl⟩
  | (y, d') :: fs, _, h => by
    obtain ⟨u, t, rfl, h1, h2⟩ := h
    unfold putD putF
    split
    · exact ⟨v, t, rfl, r, h2⟩
    · exact ⟨u, _, rfl, h1, h2.put r g⟩
theorem RelF.length {K : PySem.W.Frag} {S : SO} {H : Hp} : ∀ {fs : List (Str × D)} {l : List (Str × V)}, RelF K S H fs l → fs.length = l.length
  | [], _, h => by
    have e : _ = [] := h
    rw [e]
    rfl
  | (y, d') :: fs, _, h => by
    obtain ⟨u, t, rfl, h1, h2⟩ := h
    rw [List.length_cons, List.length_cons, h2.length]
def wSetF (C : Addr) (g : Str) (wo we : WE) : WS := fun E sd S => we sd S fun y S1 => wo sd S1 fun d S2 => ∃ a fs, d = .obj a ∧ S2 a = some (.ins C fs) ∧ fs.length < 1000 ∧ E.nx sd (S2.set a (.ins C (putD g y fs)))
theorem ds_setF {g : Str} {we : WE} {value : Expr} {pos' : Pos} (c : Cls X.K C) (n : NoAttr X.K C g) (ha : DE X o wo) (hv : DE X value we) (hs : swapsWith value (some (.Attribute o g pos')) pos.line X.env = pure false := by rfl) : DS X (.Assign [.Attribute o g pos'] value pos) (wSetF C g wo we) :=
  ps_imp (ps_fld ha hv hs) fun E σ H ⟨sd, S, E0, st, q, an⟩ => ⟨sd, S, _, st, q, fun y S1 v H1 q1 n1 s1 r1 => ⟨sd, S1, _, st.nx n1 s1, q1, fun d S2 u H2 ⟨a, fs, e, hS, hlt, q2⟩ n2 s2 r2 => by
    subst e
    obtain ⟨dx, l, hH, rf⟩ := s2 a _ hS
    refine ⟨a, C, dx, l, r2, hH, c, n, by rw [← rf.length]; exact hlt, ?_⟩
    have n3 : Nx S2 H2 (S2.set a (.ins C (putD g y fs))) (upd H2 a (.ins C dx (putF g v l))) := nx_put hS
    have s3 := srel_put s2 n3 ⟨dx, _, upd_same, RelF.nx n3 _ _ (rf.put (Rel.nx n2 _ _ r1) g)⟩
    exact an.nx _ _ _ _ q2 (n1.trans (n2.trans n3)) (st.nx (n1.trans (n2.trans n3)) s3)⟩⟩
end
end L2.DL

/-! DL4: a def's promise by its body; loops; list comprehensions -/
namespace L2.DL
open PySem PySem.Spec PyProof.Rows

/-! ### what a result is worth when objects are forgotten or change no more -/
structure Rf (S : SO) (d : D) (S0 : SO) (d0 : D) : Prop where
  sub : ∀ a, S a = none → S0 a = none
  srel : ∀ K H, SRel K S H → SRel K S0 H
  rel : ∀ K H v, SRel K S H → Rel K S H d v → Rel K S0 H d0 v
theorem Rf.refl (S : SO) (d : D) : Rf S d S d := ⟨fun _ h => h, fun _ _ h => h, fun _ _ _ _ h => h⟩
theorem Rf.trans {S S1 S2 : SO} {d d1 d2 : D} (a : Rf S d S1 d1) (b : Rf S1 d1 S2 d2) : Rf S d S2 d2 := ⟨fun x h => b.sub x (a.sub x h), fun K H h => b.srel K H (a.srel K H h), fun K H v s h => b.rel K H v (a.srel K H s) (a.rel K H v s h)⟩
theorem Rf.to {S S0 : SO} (d : D) (h : ∀ a o, S0 a = some o → S a = some o) : Rf S d S0 d := by
  have sub : ∀ a, S a = none → S0 a = none := fun a e => by
    cases q : S0 a with
    | none => rfl
    | some o =>
      rw [h a o q] at e
      cases e
  have nx : ∀ H, Nx S H S0 H := fun H a u h1 h2 => ⟨sub a h1, h2⟩
  exact ⟨sub, fun K H s a o q => (s a o (h a o q)).nx (nx H) rfl, fun K H v _ r => Rel.nx (nx H) d v r⟩
theorem Rf.drop (S : SO) (d : D) (p : Addr) : Rf S d (S.del p) d := .to d fun a o q => by
  unfold SO.del at q
  split at q
  · cases q
  · exact q
theorem Rf.lst {S : SO} {p : Addr} {ds : List D} (h : S p = some (.lst ds)) : Rf S (.obj p) (S.del p) (.lst ds) := by
  have z := Rf.drop S (.obj p) p
  refine ⟨z.sub, z.srel, fun K H v s r => ?_⟩
  have e : v = .ref p := r
  rw [e]
  exact (frz_lst s h).2.2
theorem Rf.dic {S : SO} {p : Addr} {t : Bool} {ds : List (D × D)} (h : S p = some (.dic t ds)) : Rf S (.obj p) (S.del p) (.dic t ds) := by
  have z := Rf.drop S (.obj p) p
  refine ⟨z.sub, z.srel, fun K H v s r => ?_⟩
  have e : v = .ref p := r
  rw [e]
  exact (frz_dic s h).2.2
theorem Rf.ins {S : SO} {p C : Addr} {fs : List (Str × D)} (h : S p = some (.ins C fs)) : Rf S (.obj p) (S.del p) (.ins C fs) := by
  have z := Rf.drop S (.obj p) p
  refine ⟨z.sub, z.srel, fun K H v s r => ?_⟩
  have e : v = .ref p := r
  rw [e]
  exact (frz_ins s h).2.2
theorem Rf.dropS {S : SO} {p : Addr} {o : DO} (d : D) (h : S p = none) : Rf (S.set p o) d S d := by
  have z := Rf.drop (S.set p o) d p
  rw [del_set h] at z
  exact z
/-- .. wanted of it -/
def Cl (Q : KD) : KD := fun d S' => ∃ d0 S0, Rf S' d S0 d0 ∧ Q d0 S0
theorem Cl.ans {K : PySem.W.Frag} {S : SO} {H : Hp} {Q0 : KD} {Q : VK} (an : Ans K S H Q0 Q) : Ans K S H (Cl Q0) Q := fun d S' v H' ⟨d0, S0, rf, q⟩ n s r =>
  an d0 S0 v H' q (fun a u h1 h2 => let ⟨p, q⟩ := n a u h1 h2; ⟨rf.sub a p, q⟩) (rf.srel K H' s) (rf.rel K H' v s r)
theorem Cl.of {Q : KD} {d : D} {S : SO} (h : Q d S) : Cl Q d S := ⟨d, S, .refl _ _, h⟩
def endsOf (Q : KD) : EndsD := { nx := fun _ S' => Cl Q .non S', rt := Cl Q }
def startD (N : List Str) (ds : List D) : SD := ds.map some ++ List.replicate (N.length - ds.length) none
theorem start_rel {K : PySem.W.Frag} {S : SO} {H : Hp} {N : List Str} {ds : List D} {vs : List V} (r : Rels K S H ds vs) : RelS K S H (startD N ds) (start N vs) := by
  have hl := r.length
  refine ⟨by unfold startD start; rw [List.length_append, List.length_append, List.length_map, List.length_map, List.length_replicate, List.length_replicate, hl], fun i d e => ?_⟩
  unfold startD at e
  by_cases hi : i < ds.length
  · rw [List.getElem?_append_left (by simpa using hi), List.getElem?_map] at e
    cases q : ds[i]? with
    | none =>
      rw [q] at e
      cases e
    | some d' =>
      rw [q] at e
      cases e
      obtain ⟨v, hv, rv⟩ := r.get q
      refine ⟨v, ?_, rv⟩
      unfold start
      rw [List.getElem?_append_left (by rw [List.length_map]; omega), List.getElem?_map, hv]
      rfl
  · rw [List.getElem?_append_right (by simpa using hi), List.getElem?_replicate] at e
    split at e <;> cases e
section
variable {P : Program} {w : World} {K : PySem.W.Frag} {mg : Str → Option Value} {base : Heap}
/-- THE RULE for a def -/
theorem fnD_ok {k : Nat} {f : Addr} {fd : FuncData} {qual : Str} {st : Stmt} {N ps : List Str} {sp : DSp} {w0 : WS} (F : FnAt K qual st f fd) (S : FnScope N ps (defScope st)) (len : ∀ ds S Q E, sp ds S Q E → ds.length = ps.length)
    (body : ∀ (cdv : Value) (A : Around) (outer : List Env) (s : Shared) (H : Hp) (E : XK), Room k (A.deeper (envOfC qual (defScope st) s.heap.objs.size f cdv)) → (A.deeper (envOfC qual (defScope st) s.heap.objs.size f cdv)).guards = some [] →
      DSs (cxOf CX0 P w K mg base N qual (defScope st) f cdv A outer s H E).nox (defBody st) w0)
    (hw : ∀ ds S Q E, sp ds S Q E → w0 (endsOf Q) (startD N ds) S) : FnD P w K mg base (k + 1) f fd ps sp := by
  refine fnG_body F S (fun vs H Q E ⟨ds, S, Q0, E0, _, r, h, _⟩ => by rw [← r.length]; exact len _ _ _ _ h) fun cdv A outer s H vs Q E hr hg ⟨ds, S, Q0, E0, sr, r, h, an, _⟩ => ?_
  refine ⟨_, (body cdv A outer s H E hr hg).nox, startD N ds, S, endsOf Q0, ⟨sr, start_rel r⟩, hw ds S Q0 E0 h, fun sd S' σ H' q n st => ?_, Cl.ans an, fun _ _ _ _ q => q.elim, fun _ _ _ _ q => q.elim⟩
  exact Cl.ans an .non S' .non H' q n st.s rfl
end

/-! ### what is walked -/
structure ItD where
  items : List D
  ok : SO → Prop
structure JRel (K : PySem.W.Frag) (S0 : SO) (H0 : Hp) (J : ItD) (JV : It) : Prop where
  go : ∀ i S H, Nx S0 H0 S H → SRel K S H → J.ok S → i < J.items.length → JV.go i H
  stop : ∀ i S H, Nx S0 H0 S H → SRel K S H → J.ok S → i = J.items.length → JV.stop i H
  yld : ∀ i S H x H' d, Nx S0 H0 S H → SRel K S H → J.ok S → J.items[i]? = some d → JV.yld i H x H' → Nx S H S H' ∧ SRel K S H' ∧ Rel K S H' d x
abbrev WI := SD → SO → (ItD → SO → Prop) → Prop
def liftI (K : PySem.W.Frag) (w : WI) : TI := fun σ H R => ∃ sd S R0, Sta K sd S σ H ∧ w sd S R0 ∧ ∀ J S' H' JV, R0 J S' → Nx S H S' H' → SRel K S' H' → JRel K S' H' J JV → R JV H'
abbrev DI (X : Cx) (tg iter : Expr) (w : WI) : Prop := PI X tg iter (liftI X.K w)
section
variable {X : Cx} {tg e : Expr} {we : WE} {pos : Pos}
theorem pi_imp {tg it : Expr} {t t' : TI} (h : PI X tg it t) (i : ∀ σ H R, t' σ H R → t σ H R) : PI X tg it t' := ⟨fun pins s σ H R I q => h.run pins s σ H R I (i σ H R q)⟩
/-- a list or a tuple by its items -/
def seqD (d : D) (S : SO) (R : List D → (SO → Prop) → Prop) : Prop := match d with
  | .lst xs => R xs fun _ => True
  | .src xs => R xs fun _ => True
  | .tup xs => R xs fun _ => True
  | .kt xs => R xs fun _ => True
  | .tf xs => R xs fun _ => True
  | .obj a => ∃ xs, S a = some (.lst xs) ∧ R xs fun S => S a = some (.lst xs)
  | _ => False
def wSeqI (we : WE) : WI := fun sd S R => we sd S fun d S1 => seqD d S1 fun xs ok => R ⟨xs, ok⟩ S1
theorem SqL.uniq {K : PySem.W.Frag} {S : SO} {H : Hp} {a : Addr} {xs : List D} (h : S a = some (.lst xs)) (s : SRel K S H) : ∃ vs, SqL K H a vs ∧ Rels K S H xs vs := let ⟨vs, e, r⟩ := s a _ h; ⟨vs, .of e, r⟩
theorem jrel_lst {K : PySem.W.Frag} {S0 : SO} {H0 : Hp} {a : Addr} {xs : List D} {ok : SO → Prop} (h : ∀ S H, Nx S0 H0 S H → SRel K S H → ok S → ∃ vs, SqL K H a vs ∧ Rels K S H xs vs) : JRel K S0 H0 ⟨xs, ok⟩ (Itl K a) where
  go := fun i S H n s o hi => by
    obtain ⟨vs, q, r⟩ := h S H n s o
    obtain ⟨v, hv, _⟩ := r.get (List.getElem?_eq_getElem hi)
    exact ⟨vs, v, q, hv⟩
  stop := fun i S H n s o hi => by
    obtain ⟨vs, q, r⟩ := h S H n s o
    exact ⟨vs, q, by rw [← r.length]; exact Nat.le_of_eq hi.symm⟩
  yld := fun i S H x H' d n s o hi y => by
    obtain ⟨vs, q, r⟩ := h S H n s o
    obtain ⟨rfl, y⟩ := y
    obtain ⟨v, hv, rv⟩ := r.get hi
    have e := y vs q
    rw [hv] at e
    cases e
    exact ⟨.refl _ _, s, rv⟩
theorem jrel_tup {K : PySem.W.Frag} {S0 : SO} {H0 : Hp} {a : Addr} {xs : List D} {ok : SO → Prop} (h : ∀ S H, Nx S0 H0 S H → SRel K S H → ok S → ∃ vs, SqT K H a vs ∧ Rels K S H xs vs) : JRel K S0 H0 ⟨xs, ok⟩ (Itt K a) where
  go := fun i S H n s o hi => by
    obtain ⟨vs, q, r⟩ := h S H n s o
    obtain ⟨v, hv, _⟩ := r.get (List.getElem?_eq_getElem hi)
    exact ⟨vs, v, q, hv⟩
  stop := fun i S H n s o hi => by
    obtain ⟨vs, q, r⟩ := h S H n s o
    exact ⟨vs, q, by rw [← r.length]; exact Nat.le_of_eq hi.symm⟩
  yld := fun i S H x H' d n s o hi y => by
    obtain ⟨vs, q, r⟩ := h S H n s o
    obtain ⟨rfl, y⟩ := y
    obtain ⟨v, hv, rv⟩ := r.get hi
    have e := y vs q
    rw [hv] at e
    cases e
    exact ⟨.refl _ _, s, rv⟩
def rList (K : PySem.W.Frag) : V → Hp → (It → Hp → Prop) → Prop := fun x H1 R => ∃ a, x = .ref a ∧ (∃ xs, SqL K H1 a xs) ∧ R (Itl K a) H1
def rTup (K : PySem.W.Frag) : V → Hp → (It → Hp → Prop) → Prop := fun x H1 R => ∃ a, x = .ref a ∧ (∃ xs, SqT K H1 a xs) ∧ R (Itt K a) H1
theorem iter_list {pins : List (Addr × Obj)} {s : Shared} {σ : St} {H : Hp} {x : V} {v : Value} {R : It → Hp → Prop} (I : Inv X pins σ H s) (rx : RelV x v) (h : rList X.K x H R) : wpAny (model X.prog X.w) X.A (pyIter v) (PIE X pins σ tg R) X.xe s := by
  obtain ⟨a, rfl, ⟨xs, hq⟩, q⟩ := h
  cases rx
  obtain ⟨its, rv, p, hz⟩ := I.list hq
  refine wpAny_pyIter_list p.isList ⟨s.heap.objs.size, [s.heap.objs.size], _, _, H, rfl, I.kept (t' := s.toks) fun b o e => Heap.get?_push_of_some _ e, turn_list a _, ⟨_, Heap.get?_push_size _ rfl, rfl, rfl⟩, fun b hb => ?_, q⟩
  obtain rfl : b = s.heap.objs.size := by simpa using hb
  exact I.fpOk (Nat.le_refl _) (I.hok.fresh (Nat.le_refl _))
theorem iter_tup {pins : List (Addr × Obj)} {s : Shared} {σ : St} {H : Hp} {x : V} {v : Value} {R : It → Hp → Prop} (I : Inv X pins σ H s) (rx : RelV x v) (h : rTup X.K x H R) : wpAny (model X.prog X.w) X.A (pyIter v) (PIE X pins σ tg R) X.xe s := by
  obtain ⟨a, rfl, ⟨xs, hq⟩, q⟩ := h
  cases rx
  obtain ⟨its, rv, p, hz⟩ := I.tuple hq
  refine wpAny_pyIter_tuple (show s.heap.IsTuple a its.toArray from p) ⟨s.heap.objs.size, [s.heap.objs.size], _, _, H, rfl, I.kept (t' := s.toks) fun b o e => Heap.get?_push_of_some _ e, turn_tuple a _, ⟨_, Heap.get?_push_size _ rfl, rfl, rfl⟩, fun b hb => ?_, q⟩
  obtain rfl : b = s.heap.objs.size := by simpa using hb
  exact I.fpOk (Nat.le_refl _) (I.hok.fresh (Nat.le_refl _))
theorem di_seq (he : DE X e we) : DI X tg e (wSeqI we) := by
  refine ⟨fun pins s σ H R I ⟨sd, S, R0, st, q, an⟩ => ?_⟩
  refine thn (he.run pins s σ H (fun v H1 => rList X.K v H1 R ∨ rTup X.K v H1 R) I ⟨sd, S, _, st, q, fun d S1 v H1 q1 n1 s1 r1 => ?_⟩) fun v s1 ⟨x, H1, I1, r1, q1⟩ => q1.elim (iter_list I1 r1) (iter_tup I1 r1)
  cases d with
  | lst xs =>
    obtain ⟨a, vs, e, t, hv, r⟩ := r1
    refine .inl ⟨a, e, ⟨vs, .of hv⟩, an _ _ _ _ q1 n1 s1 (jrel_lst fun S2 H2 n2 s2 _ => ⟨vs, .of (n2 a _ t hv).2, r.nx n2⟩)⟩
  | src xs =>
    obtain ⟨a, vs, e, t, r⟩ := r1
    refine .inl ⟨a, e, ⟨vs, t.sq⟩, an _ _ _ _ q1 n1 s1 (jrel_lst fun S2 H2 n2 s2 _ => ⟨vs, (t.nx n2).sq, r.nx n2⟩)⟩
  | tup xs =>
    obtain ⟨a, vs, e, t, r⟩ := r1
    refine .inr ⟨a, e, ⟨vs, t.sq⟩, an _ _ _ _ q1 n1 s1 (jrel_tup fun S2 H2 n2 s2 _ => ⟨vs, (t.nx n2).sq, r.nx n2⟩)⟩
  | tf xs =>
    obtain ⟨a, vs, e, t, r⟩ := r1
    refine .inr ⟨a, e, ⟨vs, t.sq⟩, an _ _ _ _ q1 n1 s1 (jrel_tup fun S2 H2 n2 s2 _ => ⟨vs, (t.nx n2).sq, r.nx n2⟩)⟩
  | kt xs =>
    obtain ⟨a, vs, e, t, r⟩ := r1
    refine .inr ⟨a, e, ⟨vs, t.sq⟩, an _ _ _ _ q1 n1 s1 (jrel_tup fun S2 H2 n2 s2 _ => ⟨vs, t.sq, r.nx n2⟩)⟩
  | obj a =>
    obtain ⟨xs, hx, q1⟩ := q1
    obtain ⟨vs, hq, r⟩ := SqL.uniq hx s1
    exact .inl ⟨a, r1, ⟨vs, hq⟩, an _ _ _ _ q1 n1 s1 (jrel_lst fun S2 H2 n2 s2 o => SqL.uniq o s2)⟩
  | _ => exact False.elim q1
/-- range(n), range(a, b) -/
def rangeD (a b : Int) : List D := (List.range (b - a).toNat).map fun i => .int (a + (i : Nat))
theorem rangeD_get {a b : Int} {i : Nat} {d : D} (h : (rangeD a b)[i]? = some d) : d = .int (a + i) ∧ i < (b - a).toNat := by
  unfold rangeD at h
  rw [List.getElem?_map] at h
  by_cases hi : i < (b - a).toNat
  · rw [List.getElem?_range hi] at h
    exact ⟨(Option.some.inj h).symm, hi⟩
  · rw [List.getElem?_eq_none (by simpa using hi)] at h
    cases h
theorem rangeD_len {a b : Int} : (rangeD a b).length = (b - a).toNat := by unfold rangeD; rw [List.length_map, List.length_range]
theorem jrel_rng {K : PySem.W.Frag} {S0 : SO} {H0 : Hp} {a b : Int} {ok : SO → Prop} : JRel K S0 H0 ⟨rangeD a b, ok⟩ (Itr a (b - a).toNat) where
  go := fun i S H n s o hi => by
    rw [rangeD_len] at hi
    exact hi
  stop := fun i S H n s o hi => by
    rw [rangeD_len] at hi
    exact Nat.le_of_eq hi.symm
  yld := fun i S H x H' d n s o hi y => by
    obtain ⟨rfl, rfl⟩ := y
    obtain ⟨rfl, _⟩ := rangeD_get hi
    exact ⟨.refl _ _, s, rfl⟩
/-- the arguments are one int, two ints -/
def int1 (xs : List D) (k : Int → Prop) : Prop := match xs with
  | [.int j] => k j
  | _ => False
def int2 (xs : List D) (k : Int → Int → Prop) : Prop := match xs with
  | [.int i, .int j] => k i j
  | _ => False
theorem int1_of {xs : List D} {k : Int → Prop} (h : int1 xs k) : ∃ j, xs = [.int j] ∧ k j := by
  unfold int1 at h
  split at h
  · exact ⟨_, rfl, h⟩
  · exact h.elim
theorem int2_of {xs : List D} {k : Int → Int → Prop} (h : int2 xs k) : ∃ i j, xs = [.int i, .int j] ∧ k i j := by
  unfold int2 at h
  split at h
  · exact ⟨_, _, rfl, h⟩
  · exact h.elim
theorem Rels.int1 {K : PySem.W.Frag} {S : SO} {H : Hp} {j : Int} {vs : List V} (r : Rels K S H [.int j] vs) : vs = [.int j] := by
  obtain ⟨v, r', rfl, rv, e⟩ := r
  have e' : r' = [] := e
  have ev : v = .int j := rv
  rw [e', ev]
theorem Rels.int2 {K : PySem.W.Frag} {S : SO} {H : Hp} {i j : Int} {vs : List V} (r : Rels K S H [.int i, .int j] vs) : vs = [.int i, .int j] := by
  obtain ⟨v, u, rfl, rv, ru⟩ := r.two
  have ev : v = .int i := rv
  have eu : u = .int j := ru
  rw [ev, eu]
def wRng1 (w : WA) : WI := fun sd S R => w sd S fun xs S1 => int1 xs fun j => -(2 ^ 62) ≤ j ∧ j < 2 ^ 62 ∧ R ⟨rangeD 0 j, fun _ => True⟩ S1
def wRng2 (w : WA) : WI := fun sd S R => w sd S fun xs S1 => int2 xs fun i j => (-(2 ^ 62) ≤ i ∧ i < 2 ^ 62 ∧ -(2 ^ 62) ≤ j ∧ j < 2 ^ 62) ∧ R ⟨rangeD i j, fun _ => True⟩ S1
theorem di_rng1 {a : Expr} {w : WA} {p pos : Pos} (hm : X.mg "range" = none) (ha : DA X [a] w) (hg : Gl X "range" := by rfl) (hs : starEach [a] X.env = [(false, eval a X.env)] := by rfl) : DI X tg (.Call (.Name "range" p) [a] [] pos) (wRng1 w) := by
  refine pi_imp (pi_range1 hg hm ha hs) fun σ H R ⟨sd, S, R0, st, q, an⟩ => ⟨sd, S, _, st, q, fun xs S1 vs H1 q1 n1 s1 r1 => ?_⟩
  obtain ⟨j, rfl, h1, h2, q1⟩ := int1_of q1
  refine ⟨j, r1.int1, h1, h2, an _ _ _ _ q1 n1 s1 ?_⟩
  have z := jrel_rng (K := X.K) (S0 := S1) (H0 := H1) (a := 0) (b := j) (ok := fun _ => True)
  rwa [Int.sub_zero] at z
/-! ### for, while -/
structure ForD (wi : WI) (g : WG) (b : WS) (E : EndsD) (sd : SD) (S : SO) : Prop where
  ex : wi sd S fun J S1 => ∃ Pv : Nat → SD → SO → Prop, Pv 0 sd S1 ∧ (∀ i sd S, Pv i sd S → J.ok S) ∧
  (∀ i d sd S, J.items[i]? = some d → Pv i sd S → g d sd S fun sd' S' => b { nx := Pv (i + 1), rt := E.rt, bk := E.nx, ct := Pv (i + 1) } sd' S') ∧ (∀ sd S, Pv J.items.length sd S → E.nx sd S)
def wFor (wi : WI) (g : WG) (b : WS) : WS := fun E sd S => ForD wi g b E sd S
theorem ds_for {iter : Expr} {body : List Stmt} {wi : WI} {g : WG} {b : WS} (hp : PassesOwn (model X.prog X.w) X.A X.env X.xe) (hc : X.calm = true) (hi : DI X tg iter wi) (hg : DG X tg g) (hb : DSs X body b) (hs : ∀ x, foldedSetIterable iter X.env x = pure x := by intro _; rfl) :
    DS X (.For tg iter body [] pos) (wFor wi g b) := by
  refine ps_imp (ps_for hp hc hi hg hb hs) fun E σ H ⟨sd, S, E0, st, q, an⟩ => ⟨sd, S, _, st, q.ex, fun J S1 H1 JV ⟨Pv, h0, hok, hst, hend⟩ n1 s1 jr => ?_⟩
  refine ⟨fun i m σ' H' => ∃ sd' S', m = J.items.length - i ∧ i ≤ J.items.length ∧ Pv i sd' S' ∧ Sta X.K sd' S' σ' H' ∧ Nx S1 H1 S' H', ⟨J.items.length, sd, S1, by simp, Nat.zero_le _, h0, st.nx n1 s1, .refl _ _⟩, ?_⟩
  rintro i m σ' H' ⟨sd', S', rfl, hile, hp', st', n'⟩
  have o := hok i sd' S' hp'
  by_cases hlt : i < J.items.length
  · refine .inr ⟨jr.go i S' H' n' st'.s o hlt, _, fun σ2 H2 (h : ∃ sd2 S2, Pv (i + 1) sd2 S2 ∧ Sta X.K sd2 S2 σ2 H2 ∧ Nx S1 H1 S2 H2) => ?_, fun x H2 hy => ?_⟩
    · obtain ⟨sd2, S2, h1, h2, h3⟩ := h
      exact ⟨J.items.length - (i + 1), by omega, sd2, S2, rfl, hlt, h1, h2, h3⟩
    · have hi' := List.getElem?_eq_getElem hlt
      obtain ⟨n2, s2, r2⟩ := jr.yld i S' H' x H2 _ n' st'.s o hi' hy
      refine ⟨_, sd', S', _, st'.nx n2 s2, r2, hst i _ sd' S' hi' hp', fun sd3 S3 σ3 H3 q3 n3 st3 => ?_⟩
      have nn := n'.trans (n2.trans n3)
      refine ⟨sd3, S3, _, st3, q3, fun sd4 S4 σ4 H4 q4 n4 st4 => ⟨sd4, S4, q4, st4, nn.trans n4⟩, an.rt.nx (n1.trans nn), an.nx.nx (n1.trans nn), fun sd4 S4 σ4 H4 q4 n4 st4 => ⟨sd4, S4, q4, st4, nn.trans n4⟩⟩
  · have e : i = J.items.length := by omega
    subst e
    exact .inl ⟨jr.stop _ S' H' n' st'.s o rfl, an.nx _ _ _ _ (hend sd' S' hp') (n1.trans n') st'⟩
end
end L2.DL

/-! DL5: list comprehensions -/
namespace L2.DL
open PySem PySem.Spec PyProof.Rows

def wipeD (sd : SD) : List Nat → SD
  | [] => sd
  | v :: vs => (wipeD sd vs).set v none
theorem wipe_get (σ : St) (vs : List Nat) (j : Nat) : (wipe σ vs)[j]? = if j ∈ vs then (σ[j]?).map (fun _ => none) else σ[j]? := by
  induction vs with
  | nil => simp [wipe]
  | cons v vs ih =>
    unfold wipe
    by_cases hj : v = j
    · subst hj
      by_cases hl : v < (wipe σ vs).length
      · rw [List.getElem?_set_self hl]
        rw [wipe_length] at hl
        rw [if_pos (List.mem_cons_self ..), List.getElem?_eq_getElem hl]
        rfl
      · rw [wipe_length] at hl
        have e : σ[v]? = none := List.getElem?_eq_none (by omega)
        rw [List.getElem?_eq_none (by rw [List.length_set, wipe_length]; omega), e]
        simp
    · rw [List.getElem?_set_ne hj, ih]
      by_cases hm : j ∈ vs
      · rw [if_pos hm, if_pos (List.mem_cons_of_mem _ hm)]
      · rw [if_neg hm, if_neg (by simp only [List.mem_cons, not_or]; exact ⟨fun e => hj e.symm, hm⟩)]
theorem wipe_set {σ : St} {vs : List Nat} {i : Nat} {x : Option V} (h : i ∈ vs) : wipe (σ.set i x) vs = wipe σ vs := by
  refine List.ext_getElem? fun j => ?_
  rw [wipe_get, wipe_get]
  by_cases hj : j ∈ vs
  · rw [if_pos hj, if_pos hj]
    by_cases hi : i = j
    · subst hi
      by_cases hl : i < σ.length
      · rw [List.getElem?_set_self hl, List.getElem?_eq_getElem hl]
        rfl
      · rw [List.getElem?_eq_none (by rw [List.length_set]; omega), List.getElem?_eq_none (by omega)]
    · rw [List.getElem?_set_ne hi]
  · rw [if_neg hj, if_neg hj, List.getElem?_set_ne fun e => hj (by rw [← e]; exact h)]
theorem wipe_wipe {σ : St} {vs : List Nat} : wipe (wipe σ vs) vs = wipe σ vs := by
  refine List.ext_getElem? fun j => ?_
  rw [wipe_get, wipe_get]
  by_cases hj : j ∈ vs
  · rw [if_pos hj, if_pos hj]
    cases σ[j]? with
    | none => rfl
    | some x => rfl
  · rw [if_neg hj, if_neg hj]
theorem wipeD_some {sd : SD} {i : Nat} {d : D} : ∀ {vs : List Nat}, (wipeD sd vs)[i]? = some (some d) → sd[i]? = some (some d) ∧ i ∉ vs
  | [], h => ⟨h, by simp⟩
  | v :: vs, h => by
    unfold wipeD at h
    by_cases hi : v = i
    · subst hi
      by_cases hv : v < (wipeD sd vs).length
      · rw [List.getElem?_set_self hv] at h
        cases h
      · rw [List.getElem?_eq_none (by simpa using hv)] at h
        cases h
    · rw [List.getElem?_set_ne hi] at h
      obtain ⟨h1, h2⟩ := wipeD_some h
      exact ⟨h1, by simp only [List.mem_cons, not_or]; exact ⟨fun e => hi e.symm, h2⟩⟩
theorem wipeD_length (sd : SD) : ∀ vs : List Nat, (wipeD sd vs).length = sd.length
  | [] => rfl
  | v :: vs => by unfold wipeD; rw [List.length_set, wipeD_length sd vs]
theorem Sta.wipe {K : PySem.W.Frag} {sd : SD} {S : SO} {σ : St} {H : Hp} (h : Sta K sd S σ H) (vs : List Nat) : Sta K (wipeD sd vs) S (L2.wipe σ vs) H := by
  refine ⟨h.s, by rw [wipeD_length, wipe_length]; exact h.r.1, fun i d e => ?_⟩
  obtain ⟨e1, e2⟩ := wipeD_some e
  obtain ⟨v, hv, r⟩ := h.r.2 i d e1
  exact ⟨v, by rw [wipe_out e2]; exact hv, r⟩

/-- a block's target: a name, a tuple of names -/
inductive NT where
  | n (i : Nat)
  | t (l : List Nat)
def NT.ix : NT → List Nat
  | .n i => [i]
  | .t l => l
def gNs : List Nat → TGs
  | [] => gNil
  | i :: l => gCons (gName i) (gNs l)
def gNT (K : PySem.W.Frag) : NT → TG
  | .n i => gName i
  | .t l => gTup K l.length (gNs l)
def putAll : List Nat → List D → SD → SD
  | i :: l, d :: ds, sd => putAll l ds (sd.set i (some d))
  | _, _, sd => sd
/-- the slots with the target's names set -/
def putNT : NT → D → SD → (SD → Prop) → Prop
  | .n i, d, sd, k => k (sd.set i (some d))
  | .t l, d, sd, k => match d with
    | .tup xs => xs.length = l.length ∧ k (putAll l xs sd)
    | _ => False
theorem gNs_go {K : PySem.W.Frag} {S : SO} {H : Hp} {vs : List Nat} {Q : St → Hp → Prop} : ∀ {l : List Nat} {ds : List D} {us : List V} {sd : SD} {σ : St}, (∀ i ∈ l, i ∈ vs) → ds.length = l.length → Rels K S H ds us → Sta K sd S σ H →
    (∀ σ2, Sta K (putAll l ds sd) S σ2 H → wipe σ2 vs = wipe σ vs → Q σ2 H) → gNs l us σ H Q
  | [], ds, us, sd, σ, hl, e, r, st, h => by
    cases ds with
    | nil =>
      have eu : us = [] := r
      exact ⟨eu, h σ st rfl⟩
    | cons _ _ => simp at e
  | i :: l, ds, us, sd, σ, hl, e, r, st, h => by
    cases ds with
    | nil => simp at e
    | cons d ds =>
      obtain ⟨v, r', rfl, rv, rr⟩ := r
      refine ⟨v, r', rfl, ?_⟩
      refine gNs_go (l := l) (fun j hj => hl j (List.mem_cons_of_mem _ hj)) (by simpa using e) rr (st.set i rv) fun σ2 st2 hw => h σ2 st2 ?_
      rw [hw, wipe_set (hl i (List.mem_cons_self ..))]
theorem nt_go {K : PySem.W.Frag} {S : SO} {H : Hp} {vs : List Nat} {Q : St → Hp → Prop} {nt : NT} {d : D} {v : V} {sd : SD} {σ : St} {k : SD → Prop} (hs : ∀ i ∈ nt.ix, i ∈ vs) (st : Sta K sd S σ H) (r : Rel K S H d v) (hk : putNT nt d sd k)
    (h : ∀ sd2 σ2, k sd2 → Sta K sd2 S σ2 H → wipe σ2 vs = wipe σ vs → Q σ2 H) : gNT K nt v σ H Q := by
  cases nt with
  | n i => exact h _ _ hk (st.set i r) (wipe_set (hs i (List.mem_cons_self ..)))
  | t l =>
    cases d with
    | tup xs =>
      obtain ⟨hl, hk⟩ := hk
      obtain ⟨a, us, e, t, rr⟩ := r
      exact ⟨a, us, e, t.sq, by rw [← rr.length]; exact hl, gNs_go hs hl rr st fun σ2 st2 hw => h _ σ2 hk st2 hw⟩
    | _ => exact False.elim hk

abbrev DTs (X : Cx) (ifs : List Expr) (w : WT) : Prop := PTs X ifs (liftT X.K w)
def wYes : WT := fun _ S Q => Q true S
section
variable {X : Cx}
theorem dts_nil : DTs X [] wYes := ⟨fun pins s σ H Q I ⟨sd, S, Q0, st, q, an⟩ => pts_nil.run pins s σ H Q I (an _ _ _ q (Nx.refl _ _) st.s)⟩
theorem dts_one {c : Expr} {w : WT} (h : DT X c w) : DTs X [c] w := pts_one h
/-- a reading with its wish weakened -/
def up (we : WE) : WE := fun sd S Q => ∃ Q0 : KD, we sd S Q0 ∧ ∀ d S', Q0 d S' → Q d S'
def upT (tt : WT) : WT := fun sd S Q => ∃ Q0 : Bool → SO → Prop, tt sd S Q0 ∧ ∀ d S', Q0 d S' → Q d S'
theorem up_lift {K : PySem.W.Frag} {we : WE} {σ : St} {H : Hp} {Q : VK} (h : lift K (up we) σ H Q) : lift K we σ H Q := let ⟨sd, S, Q0, st, ⟨Q1, q, i⟩, an⟩ := h; ⟨sd, S, Q1, st, q, fun d S' v H' q' => an d S' v H' (i d S' q')⟩
theorem upT_lift {K : PySem.W.Frag} {we : WT} {σ : St} {H : Hp} {Q : Bool → Hp → Prop} (h : liftT K (upT we) σ H Q) : liftT K we σ H Q := let ⟨sd, S, Q0, st, ⟨Q1, q, i⟩, an⟩ := h; ⟨sd, S, Q1, st, q, fun d S' H' q' => an d S' H' (i d S' q')⟩
/-- a list comprehension: p the new list, which the element may not touch; R what is wanted behind it -/
structure LcG (wi : WI) (nt : NT) (tt : WT) (we : WE) (vs : List Nat) (R : Addr → SO → Prop) (sd : SD) (S : SO) : Prop where
  ex : wi sd S fun J S1 => ∀ p, S1 p = none → ∃ Pv : Nat → SO → Prop, Pv 0 (S1.set p (.lst [])) ∧ (∀ i S, Pv i S → J.ok S) ∧
  (∀ i d S, J.items[i]? = some d → Pv i S → putNT nt d (wipeD sd vs) fun sd2 => upT tt sd2 S fun b S2 => if b = true then up we sd2 S2 fun y S3 => ∃ acc, S3 p = some (.lst acc) ∧ acc.length ≤ 1000000 ∧ Pv (i + 1) (S3.set p (.lst (acc ++ [y]))) else Pv (i + 1) S2) ∧
  (∀ S, Pv J.items.length S → R p S)
theorem lcG_tLc {wi : WI} {nt : NT} {tt : WT} {we : WE} {vs : List Nat} {R : Addr → SO → Prop} {σ : St} {H : Hp} {Q : VK} {sd : SD} {S : SO} (hs : ∀ i ∈ nt.ix, i ∈ vs) (st : Sta X.K sd S σ H) (q : LcG wi nt tt we vs R sd S)
    (hR : ∀ p S' H', R p S' → Nx S H S' H' → SRel X.K S' H' → Q (.ref p) H') : tLc (liftI X.K wi) (gNT X.K nt) (liftT X.K tt) (lift X.K we) vs σ H Q := by
  refine ⟨sd, S, _, st, q.ex, fun J S1 H1 JV q1 n1 s1 jr p hp => ?_⟩
  obtain ⟨Pv, h0, hok, hst, hend⟩ := q1 p (s1.free hp)
  have n2 : Nx S1 H1 (S1.set p (.lst [])) (upd H1 p (.lst [])) := nx_obj hp (s1.free hp)
  have s2 : SRel X.K (S1.set p (.lst [])) (upd H1 p (.lst [])) := srel_put s1 n2 ⟨[], upd_same, rfl⟩
  refine ⟨fun i m H' => ∃ S', m = J.items.length - i ∧ i ≤ J.items.length ∧ Pv i S' ∧ SRel X.K S' H' ∧ Nx S1 H1 S' H', ⟨J.items.length, _, by simp, Nat.zero_le _, h0, s2, n2⟩, ?_⟩
  rintro i m H' ⟨S', rfl, hile, hp', s', n'⟩
  have o := hok i S' hp'
  by_cases hlt : i < J.items.length
  · refine .inr ⟨jr.go i S' H' n' s' o hlt, fun H2 => ∃ S2, Pv (i + 1) S2 ∧ SRel X.K S2 H2 ∧ Nx S1 H1 S2 H2, fun H2 ⟨S2, h1, h2, h3⟩ => ⟨J.items.length - (i + 1), by omega, S2, rfl, hlt, h1, h2, h3⟩, fun x H2 hy => ?_⟩
    have hi' := List.getElem?_eq_getElem hlt
    obtain ⟨n3, s3, r3⟩ := jr.yld i S' H' x H2 _ n' s' o hi' hy
    have nn := n'.trans n3
    refine nt_go hs ((st.nx (n1.trans nn) s3).wipe vs) r3 (hst i _ S' hi' hp') fun sd2 σ2 hk st2 hw => ⟨by rw [hw, wipe_wipe], upT_lift ?_⟩
    refine ⟨sd2, S', _, st2, hk, fun b S4 H4 q4 n4 s4 => ?_⟩
    cases b with
    | false => exact ⟨S4, q4, s4, nn.trans n4⟩
    | true =>
      refine up_lift ⟨sd2, S4, _, st2.nx n4 s4, q4, fun y S5 v H5 ⟨acc, ha, hl, q5⟩ n5 s5 r5 => ?_⟩
      obtain ⟨us, hu, ru⟩ := s5 p _ ha
      have n6 : Nx S5 H5 (S5.set p (.lst (acc ++ [y]))) (upd H5 p (.lst (us ++ [v]))) := nx_put ha
      exact ⟨us, hu, by rw [← ru.length]; exact Nat.lt_of_le_of_lt hl (by rw [sizeLine_eq]; decide), _, q5, srel_put s5 n6 ⟨_, upd_same, (ru.app (.one r5)).nx n6⟩, nn.trans (n4.trans (n5.trans n6))⟩
  · have e : i = J.items.length := by omega
    subst e
    exact .inl ⟨jr.stop _ S' H' n' s' o rfl, hR p S' H' (hend S' hp') (n1.trans n') s'⟩
/-- .. the new list an object; frozen at the end -/
def wLc (wi : WI) (nt : NT) (tt : WT) (we : WE) (vs : List Nat) : WE := fun sd S Q => LcG wi nt tt we vs (fun p S' => Q (.obj p) S') sd S
def wLcF (wi : WI) (nt : NT) (tt : WT) (we : WE) (vs : List Nat) : WE := fun sd S Q => LcG wi nt tt we vs (fun p S' => ∃ acc, S' p = some (.lst acc) ∧ Q (.lst acc) (S'.del p)) sd S
/-- .. and its element and test change nothing and look at nothing that changes: the list is f of the items -/
def Ext (S S' : SO) : Prop := ∀ a o, S a = some o → S' a = some o
structure LcP (wi : WI) (nt : NT) (tt : WT) (we : WE) (vs : List Nat) (sd : SD) (S : SO) (Q : KD) : Prop where
  ex : ∃ R : ItD → SO → Prop, wi sd S R ∧ ∀ J S1, R J S1 → (∀ S', Ext S1 S' → J.ok S') ∧ J.items.length ≤ 1000000 ∧ ∃ f : D → Option D, (∀ d ∈ J.items, ∀ S', Ext S1 S' → putNT nt d (wipeD sd vs) fun sd2 =>
  tt sd2 S' fun b S2 => S2 = S' ∧ if b = true then up we sd2 S' fun y S3 => S3 = S' ∧ f d = some y else f d = none) ∧ Q (.lst (J.items.filterMap f)) S1
def wLcP (wi : WI) (nt : NT) (tt : WT) (we : WE) (vs : List Nat) : WE := fun sd S Q => LcP wi nt tt we vs sd S Q
theorem ext_set {S : SO} {p : Addr} {o : DO} (h : S p = none) : Ext S (S.set p o) := fun a u e => by rw [set_ne (so_ne e h)]; exact e
theorem lcP_turn {nt : NT} {tt : WT} {we : WE} {vs : List Nat} {sd : SD} {S1 : SO} {J : ItD} {f : D → Option D} {p : Addr} {i : Nat} {d : D} (hl : J.items.length ≤ 1000000) (hi : J.items[i]? = some d)
    (h : ∀ S', Ext S1 S' → putNT nt d (wipeD sd vs) fun sd2 => tt sd2 S' fun b S2 => S2 = S' ∧ if b = true then up we sd2 S' fun y S3 => S3 = S' ∧ f d = some y else f d = none) (hp : S1 p = none) :
    putNT nt d (wipeD sd vs) fun sd2 => upT tt sd2 (S1.set p (.lst ((J.items.take i).filterMap f))) fun b S2 => if b = true then up we sd2 S2 fun y S3 => ∃ acc, S3 p = some (.lst acc) ∧ acc.length ≤ 1000000 ∧ S3.set p (.lst (acc ++ [y])) = S1.set p (.lst ((J.items.take (i + 1)).filterMap f))
      else S2 = S1.set p (.lst ((J.items.take (i + 1)).filterMap f)) := by
  have hn := h _ (ext_set (o := .lst ((J.items.take i).filterMap f)) hp)
  have htk : (J.items.take (i + 1)).filterMap f = (J.items.take i).filterMap f ++ (f d).toList := by
    rw [List.take_add_one, hi, List.filterMap_append]
    cases q : f d with
    | none => simp [q]
    | some y => simp [q]
  have hlen : ((J.items.take i).filterMap f).length ≤ 1000000 := by
    have h1 := List.length_filterMap_le f (J.items.take i)
    have h2 : (J.items.take i).length ≤ J.items.length := by rw [List.length_take]; omega
    omega
  have go : ∀ sd2, (tt sd2 (S1.set p (.lst ((J.items.take i).filterMap f))) fun b S2 => S2 = S1.set p (.lst ((J.items.take i).filterMap f)) ∧ if b = true then up we sd2 (S1.set p (.lst ((J.items.take i).filterMap f))) fun y S3 => S3 = S1.set p (.lst ((J.items.take i).filterMap f)) ∧ f d = some y else f d = none) →
      upT tt sd2 (S1.set p (.lst ((J.items.take i).filterMap f))) fun b S2 => if b = true then up we sd2 S2 fun y S3 => ∃ acc, S3 p = some (.lst acc) ∧ acc.length ≤ 1000000 ∧ S3.set p (.lst (acc ++ [y])) = S1.set p (.lst ((J.items.take (i + 1)).filterMap f)) else S2 = S1.set p (.lst ((J.items.take (i + 1)).filterMap f)) := by
    intro sd2 hh
    refine ⟨_, hh, fun b S2 ⟨e2, q2⟩ => ?_⟩
    subst e2
    cases b with
    | false =>
      have q2' : f d = none := q2
      show _ = _
      rw [htk, q2']
      simp
    | true =>
      obtain ⟨Q0, q3, i3⟩ := q2
      refine ⟨Q0, q3, fun y S3 q4 => ?_⟩
      obtain ⟨e3, q5⟩ := i3 y S3 q4
      subst e3
      refine ⟨_, set_same, hlen, ?_⟩
      rw [set_set, htk, q5]
      rfl
  cases nt with
  | n j => exact go _ hn
  | t l =>
    cases d with
    | tup xs => exact ⟨hn.1, go _ hn.2⟩
    | _ => exact False.elim hn
variable {elt tg iter : Expr} {ifs : List Expr} {scope : Scope} {own : List (Str × Nat)} {pos : Pos} {wi : WI} {nt : NT} {tt : WT} {we : WE}
theorem lcP_tLc {σ : St} {H : Hp} {Q : VK} (hx : ∀ i ∈ nt.ix, i ∈ own.map (·.2)) (h : lift X.K (wLcP wi nt tt we (own.map (·.2))) σ H Q) : tLc (liftI X.K wi) (gNT X.K nt) (liftT X.K tt) (lift X.K we) (own.map (·.2)) σ H Q := by
  obtain ⟨sd, S, Q0, st, ⟨R, q, i⟩, an⟩ := h
  refine ⟨sd, S, R, st, q, fun J S1 H1 JV qR n1 s1 jr => ?_⟩
  obtain ⟨hok, hl, f, hf, q1⟩ := i J S1 qR
  obtain ⟨sd', S', R0, st', q', an'⟩ := lcG_tLc (X := X) (wi := fun _ S R => S = S1 ∧ R J S1) (R := fun p S' => S' = S1.set p (.lst (J.items.filterMap f)) ∧ S1 p = none) (Q := Q) hx (st.nx n1 s1) ⟨⟨rfl, fun p hp => ⟨fun i S => S = S1.set p (.lst ((J.items.take i).filterMap f)), by simp, fun i S e => by rw [e]; exact hok _ (ext_set hp),
      fun i d S hi e => by subst e; exact lcP_turn hl hi (hf d (List.mem_of_getElem? hi)) hp, fun S e => ⟨by rw [e, List.take_length], hp⟩⟩⟩⟩
    fun p S' H' ⟨e, hp⟩ n' s' => by
      subst e
      obtain ⟨n2, s2, r2⟩ := frz_lst s' set_same
      rw [del_set hp] at n2 s2 r2
      exact an _ _ _ _ q1 (n1.trans (n'.trans n2)) s2 r2
  obtain ⟨rfl, q'⟩ := q'
  exact an' J S' H1 JV q' (.refl _ _) st'.s jr
abbrev Blk (X : Cx) (scope : Scope) (T : Cx → Prop) : Prop := ∀ (s : Shared) (H : Hp) (C : Addr) (cl : List (Str × Addr)) (fp : List Addr), T (X.blk s H scope (compEnvC scope cl C X.env) fp)
theorem de_lcF (hc : X.calm = true) (hN : X.N.Nodup) (hi : DI X tg iter wi) (ok : BlkOk X.N X.env.scope scope own) (hx : ∀ i ∈ nt.ix, i ∈ own.map (·.2)) (hg : Blk X scope fun Y => PG Y tg (gNT X.K nt)) (ht : Blk X scope fun Y => PTs Y ifs (liftT X.K tt)) (he : Blk X scope fun Y => PE Y elt (lift X.K we))
    (hs : ∀ x, foldedSetIterable iter X.env x = pure x := by intro _; rfl) : DE X (.ListComp elt [⟨tg, iter, ifs, 0⟩] scope pos) (wLcF wi nt tt we (own.map (·.2))) :=
  pe_imp (pe_lc hc hN hi ok hg ht he hs) fun σ H Q ⟨sd, S, Q0, st, q, an⟩ => lcG_tLc hx st q fun p S' H' ⟨acc, ha, q'⟩ n' s' => by
    obtain ⟨n2, s2, r2⟩ := frz_lst s' ha
    exact an _ _ _ _ q' (n'.trans n2) s2 r2
theorem de_lcP (hc : X.calm = true) (hN : X.N.Nodup) (hi : DI X tg iter wi) (ok : BlkOk X.N X.env.scope scope own) (hx : ∀ i ∈ nt.ix, i ∈ own.map (·.2)) (hg : Blk X scope fun Y => PG Y tg (gNT X.K nt)) (ht : Blk X scope fun Y => PTs Y ifs (liftT X.K tt)) (he : Blk X scope fun Y => PE Y elt (lift X.K we))
    (hs : ∀ x, foldedSetIterable iter X.env x = pure x := by intro _; rfl) : DE X (.ListComp elt [⟨tg, iter, ifs, 0⟩] scope pos) (wLcP wi nt tt we (own.map (·.2))) :=
  pe_imp (pe_lc hc hN hi ok hg ht he hs) fun σ H Q h => lcP_tLc hx h
/-- name = [..], stored within the comprehension -/
theorem setLc_lift {i : Nat} {wl : WE} {E : Ends} {σ : St} {H : Hp} {wi : WI} {nt : NT} {tt : WT} {we : WE} {vs : List Nat} (hh : ∀ Q, lift X.K wl σ H Q → tLc (liftI X.K wi) (gNT X.K nt) (liftT X.K tt) (lift X.K we) vs σ H Q)
    (h : liftS X.K (wAsg wl (gV i)) E σ H) : tAsg (tLc (liftI X.K wi) (gNT X.K nt) (liftT X.K tt) (lift X.K we) vs) (gName i) E σ H := by
  obtain ⟨sd, S, E0, st, q, an⟩ := h
  exact hh _ ⟨sd, S, _, st, q, fun d S1 v H1 q1 n1 s1 r1 => an.nx _ _ _ _ q1 n1 ((st.nx n1 s1).set i r1)⟩
theorem ds_setLcP {i : Nat} {y : Str} {py spos : Pos} (hc : X.calm = true) (hN : X.N.Nodup) (hi : DI X tg iter wi) (ok : BlkOk X.N X.env.scope scope own) (hx : ∀ i ∈ nt.ix, i ∈ own.map (·.2)) (hg : Blk X scope fun Y => PG Y tg (gNT X.K nt)) (ht : Blk X scope fun Y => PTs Y ifs (liftT X.K tt)) (he : Blk X scope fun Y => PE Y elt (lift X.K we))
    (hy : X.N[i]? = some y := by rfl) (hyl : X.env.scope.names.lookup y = some .local := by rfl) (hsw : swapsWith (.ListComp elt [⟨tg, iter, ifs, 0⟩] scope pos) (some (.Name y py)) spos.line X.env = pure true := by exact sw_true rfl rfl rfl (by decide +kernel)) (hs : ∀ x, foldedSetIterable iter X.env x = pure x := by intro _; rfl) :
    DS X (.Assign [.Name y py] (.ListComp elt [⟨tg, iter, ifs, 0⟩] scope pos) spos) (wAsg (wLcP wi nt tt we (own.map (·.2))) (gV i)) := ps_imp (ps_setLc hc hN hy hyl hsw hi ok hg ht he hs) fun E σ H h => setLc_lift (fun Q h => lcP_tLc hx h) h
end
end L2.DL

/-! DL6: operators, comparisons, built-ins over data -/
namespace L2.DL
open PySem PySem.Spec PyProof.Rows

/-! ### plain data -/
mutual
def pyD : D → Option PyData
  | .non => some .none
  | .bl b => some (.bool b)
  | .int i => some (.int i)
  | .str x => some (.str x)
  | .tup ds => (pyDs ds).map .tuple
  | .kt ds => (pyDs ds).map .tuple
  | .tf ds => (pyDs ds).map .tuple
  | .lst ds => (pyDs ds).map .list
  | .src ds => (pyDs ds).map .list
  | .ty _ => none
  | .dic _ _ => none
  | .fd _ _ => none
  | .gh _ _ => none
  | .fn _ _ _ => none
  | .ins _ _ => none
  | .obj _ => none
def pyDs : List D → Option (List PyData)
  | [] => some []
  | d :: ds => (pyD d).bind fun p => (pyDs ds).map fun ps => p :: ps
end
/-- the items of a list that may change -/
def objL : Option DO → Option (List D)
  | some (.lst ds) => some ds
  | _ => none
theorem objL_of {o : Option DO} {ds : List D} (h : objL o = some ds) : o = some (.lst ds) := by
  cases o with
  | none => cases h
  | some u =>
    cases u with
    | lst xs =>
      cases h
      rfl
    | _ => cases h
/-- .. also of a list that may change -/
def pyS (S : SO) : D → Option PyData
  | .obj a => (objL (S a)).bind fun ds => (pyDs ds).map .list
  | d => pyD d
section
variable {K : PySem.W.Frag} {S : SO} {H : Hp}
mutual
theorem rel_dp : ∀ (d : D) (v : V) (p : PyData), Rel K S H d v → pyD d = some p → Dp K H v p
  | .non, v, p, r, e => by
    cases e
    have r' : v = .non := r
    rw [r']
    exact .non
  | .bl b, v, p, r, e => by
    cases e
    have r' : v = .bl b := r
    rw [r']
    exact .bl b
  | .int b, v, p, r, e => by
    cases e
    have r' : v = .int b := r
    rw [r']
    exact .int b
  | .str b, v, p, r, e => by
    cases e
    have r' : v = .str b := r
    rw [r']
    exact .str b
  | .ty _, _, _, _, e => by cases e
  | .dic _ _, _, _, _, e => by cases e
  | .fd _ _, _, _, _, e => by cases e
  | .gh _ _, _, _, _, e => by cases e
  | .fn _ _ _, _, _, _, e => by cases e
  | .ins _ _, _, _, _, e => by cases e
  | .obj _, _, _, _, e => by cases e
  | .tup ds, v, p, r, e => by
    obtain ⟨ps, hp, rfl⟩ := Option.map_eq_some_iff.mp (show (pyDs ds).map PyData.tuple = some p from e)
    obtain ⟨a, vs, rfl, t, r⟩ := r
    exact .tup t.sq (rels_dp ds vs ps r hp)
  | .kt ds, v, p, r, e => by
    obtain ⟨ps, hp, rfl⟩ := Option.map_eq_some_iff.mp (show (pyDs ds).map PyData.tuple = some p from e)
    obtain ⟨a, vs, rfl, t, r⟩ := r
    exact .tup t.sq (rels_dp ds vs ps r hp)
  | .tf ds, v, p, r, e => by
    obtain ⟨ps, hp, rfl⟩ := Option.map_eq_some_iff.mp (show (pyDs ds).map PyData.tuple = some p from e)
    obtain ⟨a, vs, rfl, t, r⟩ := r
    exact .tup t.sq (rels_dp ds vs ps r hp)
  | .lst ds, v, p, r, e => by
    obtain ⟨ps, hp, rfl⟩ := Option.map_eq_some_iff.mp (show (pyDs ds).map PyData.list = some p from e)
    obtain ⟨a, vs, rfl, _, t, r⟩ := r
    exact .lst (.of t) (rels_dp ds vs ps r hp)
  | .src ds, v, p, r, e => by
    obtain ⟨ps, hp, rfl⟩ := Option.map_eq_some_iff.mp (show (pyDs ds).map PyData.list = some p from e)
    obtain ⟨a, vs, rfl, t, r⟩ := r
    exact .lst t.sq (rels_dp ds vs ps r hp)
theorem rels_dp : ∀ (ds : List D) (vs : List V) (ps : List PyData), Rels K S H ds vs → pyDs ds = some ps → DpAll K H vs ps
  | [], vs, ps, r, e => by
    cases e
    have r' : vs = [] := r
    rw [r']
    exact .nil
  | d :: ds, vs, ps, r, e => by
    obtain ⟨p, hp, e2⟩ := Option.bind_eq_some_iff.mp (show (pyD d).bind (fun p => (pyDs ds).map fun ps => p :: ps) = some ps from e)
    obtain ⟨qs, hq, rfl⟩ := Option.map_eq_some_iff.mp e2
    obtain ⟨v, us, rfl, r1, r2⟩ := r
    exact .cons (rel_dp d v p r1 hp) (rels_dp ds us qs r2 hq)
end
theorem relS_dp {d : D} {v : V} {p : PyData} (s : SRel K S H) (r : Rel K S H d v) (e : pyS S d = some p) : Dp K H v p := by
  cases d with
  | obj a =>
    obtain ⟨ds, hs, e2⟩ := Option.bind_eq_some_iff.mp (show (objL (S a)).bind (fun ds => (pyDs ds).map PyData.list) = some p from e)
    obtain ⟨ps, hp, rfl⟩ := Option.map_eq_some_iff.mp e2
    obtain ⟨vs, hv, rv⟩ := s a _ (objL_of hs)
    have r' : v = .ref a := r
    rw [r']
    exact .lst (.of hv) (rels_dp ds vs ps rv hp)
  | _ => exact rel_dp _ v p r e
end
/-- the items of a list, of a sequence -/
def lstD (S : SO) : D → Option (List D)
  | .lst xs => some xs
  | .obj a => objL (S a)
  | _ => none
theorem lstD_at {K : PySem.W.Frag} {S : SO} {H : Hp} {d : D} {v : V} {xs : List D} (s : SRel K S H) (r : Rel K S H d v) (e : lstD S d = some xs) : ∃ a vs, v = .ref a ∧ H a = some (.lst vs) ∧ Rels K S H xs vs := by
  cases d with
  | lst ys =>
    cases e
    obtain ⟨a, vs, h1, _, h2, h3⟩ := r
    exact ⟨a, vs, h1, h2, h3⟩
  | obj a =>
    obtain ⟨vs, hv, rv⟩ := s a _ (objL_of e)
    exact ⟨a, vs, r, hv, rv⟩
  | _ => cases e
/-- a list or tuple, read -/
def seqX (S : SO) : D → Option (List D)
  | .tup xs => some xs
  | .kt xs => some xs
  | .tf xs => some xs
  | .src xs => some xs
  | d => lstD S d
theorem seqX_at {K : PySem.W.Frag} {S : SO} {H : Hp} {d : D} {v : V} {xs : List D} (s : SRel K S H) (r : Rel K S H d v) (e : seqX S d = some xs) : ∃ a vs, v = .ref a ∧ (SqL K H a vs ∨ SqT K H a vs) ∧ Rels K S H xs vs := by
  have via : ∀ {d : D}, Rel K S H d v → lstD S d = some xs → ∃ a vs, v = .ref a ∧ (SqL K H a vs ∨ SqT K H a vs) ∧ Rels K S H xs vs := fun r e => let ⟨a, vs, h1, h2, h3⟩ := lstD_at s r e; ⟨a, vs, h1, .inl (.of h2), h3⟩
  cases d with
  | tup ys =>
    cases e
    obtain ⟨a, vs, h1, h2, h3⟩ := r
    exact ⟨a, vs, h1, .inr h2.sq, h3⟩
  | kt ys =>
    cases e
    obtain ⟨a, vs, h1, h2, h3⟩ := r
    exact ⟨a, vs, h1, .inr h2.sq, h3⟩
  | tf ys =>
    cases e
    obtain ⟨a, vs, h1, h2, h3⟩ := r
    exact ⟨a, vs, h1, .inr h2.sq, h3⟩
  | src ys =>
    cases e
    obtain ⟨a, vs, h1, h2, h3⟩ := r
    exact ⟨a, vs, h1, .inl h2.sq, h3⟩
  | _ => exact via r e

section
variable {X : Cx}
theorem ansd {K : PySem.W.Frag} {S : SO} {H : Hp} {Q0 : KD} {Q : VK} (d : D) {v : V} (s : SRel K S H) (an : Ans K S H Q0 Q) (q : Q0 d S) (r : Rel K S H d v) : Q v H := an d S v H q (.refl _ _) s r
/-! ### arithmetic -/
def opI2 (C : Int → Int → Prop) (g : Int → Int → D) : WO := fun x y S Q => match x with
  | .int i => (match y with
    | .int j => C i j ∧ Q (g i j) S
    | _ => False)
  | _ => False
theorem opI2_of {C : Int → Int → Prop} {g : Int → Int → D} {x y : D} {S : SO} {Q : KD} (h : opI2 C g x y S Q) : ∃ i j, x = .int i ∧ y = .int j ∧ C i j ∧ Q (g i j) S := by
  unfold opI2 at h
  split at h
  · split at h
    · exact ⟨_, _, rfl, rfl, h.1, h.2⟩
    · exact h.elim
  · exact h.elim
theorem do_I2 {f : Value → Value → Sem Value} {C : Int → Int → Prop} {g : Int → Int → D} {gv : Int → Int → V} (h : OpR X f (rI C gv)) (hg : ∀ i j K S H, Rel K S H (g i j) (gv i j)) : DO2 X f (opI2 C g) := by
  intro pins s σ H x y v u Q I rx ry ⟨dx, dy, S, Q0, sr, r1, r2, q, an⟩
  obtain ⟨i, j, rfl, rfl, hc, q⟩ := opI2_of q
  have e1 : x = .int i := r1
  have e2 : y = .int j := r2
  exact h pins s σ H x y v u Q I rx ry ⟨i, j, e1, e2, hc, ansd _ sr an q (hg i j _ _ _)⟩
theorem do_I2' {f : Value → Value → Sem Value} {g : Int → Int → D} {gv : Int → Int → V} (h : OpR X f (rI0 gv)) (hg : ∀ i j K S H, Rel K S H (g i j) (gv i j)) : DO2 X f (opI2 (fun _ _ => True) g) := by
  intro pins s σ H x y v u Q I rx ry ⟨dx, dy, S, Q0, sr, r1, r2, q, an⟩
  obtain ⟨i, j, rfl, rfl, hc, q⟩ := opI2_of q
  have e1 : x = .int i := r1
  have e2 : y = .int j := r2
  exact h pins s σ H x y v u Q I rx ry ⟨i, j, e1, e2, ansd _ sr an q (hg i j _ _ _)⟩
def oSub : WO := opI2 (fun _ _ => True) fun i j => .int (i - j)
theorem do_sub : DO2 X (binaryOp .Sub) oSub := do_I2' op_sub fun _ _ _ _ _ => rfl
def oMod : WO := opI2 (fun _ j => 0 < j) fun i j => .int (i % j)
theorem do_mod : DO2 X (binaryOp .Mod) oMod := do_I2 op_mod fun _ _ _ _ _ => rfl
def oDiv : WO := opI2 CDiv fun i j => .int (i / j)
theorem do_div : DO2 X (binaryOp .FloorDiv) oDiv := do_I2 op_fdiv fun _ _ _ _ _ => rfl
def oPow : WO := opI2 CPow fun i j => .int (i ^ j.toNat)
theorem do_pow : DO2 X (binaryOp .Pow) oPow := do_I2 op_pow fun _ _ _ _ _ => rfl
def oAnd : WO := opI2 (fun _ _ => True) fun i j => .int (Builtin.bitAnd i j)
def oOr : WO := opI2 (fun _ _ => True) fun i j => .int (Builtin.bitOr i j)
def oLt : WO := opI2 (fun _ _ => True) fun i j => .bl (decide (i < j))
theorem do_lt : DO2 X (compareOp .Lt) oLt := do_I2' op_lt fun _ _ _ _ _ => rfl
def oLe : WO := opI2 (fun _ _ => True) fun i j => .bl (decide (i ≤ j))
def oGt : WO := opI2 (fun _ _ => True) fun i j => .bl (decide (j < i))
theorem do_gt : DO2 X (compareOp .Gt) oGt := do_I2' op_gt fun _ _ _ _ _ => rfl
def oGe : WO := opI2 (fun _ _ => True) fun i j => .bl (decide (j ≤ i))
theorem do_ge : DO2 X (compareOp .GtE) oGe := do_I2' op_ge fun _ _ _ _ _ => rfl
def oNeg : WU := fun x S Q => match x with
  | .int i => Q (.int (-i)) S
  | _ => False
/-- + -/
def addL (a b : Option (List D)) (S : SO) (Q : KD) : Prop := match a, b with
  | some a, some b => a.length + b.length ≤ 1000000 ∧ Q (.lst (a ++ b)) S
  | _, _ => False
theorem addL_of {a b : Option (List D)} {S : SO} {Q : KD} (h : addL a b S Q) : ∃ x y, a = some x ∧ b = some y ∧ x.length + y.length ≤ 1000000 ∧ Q (.lst (x ++ y)) S := by
  cases a with
  | none => exact h.elim
  | some x =>
    cases b with
    | none => exact h.elim
    | some y => exact ⟨x, y, rfl, rfl, h.1, h.2⟩
def oAdd : WO := fun x y S Q => match x with
  | .int i => (match y with
    | .int j => Q (.int (i + j)) S
    | _ => False)
  | .str a => (match y with
    | .str b => a.length + b.length ≤ 1000000 ∧ Q (.str (a ++ b)) S
    | _ => False)
  | .tup a => (match y with
    | .tup b => a.length + b.length ≤ 1000000 ∧ Q (.tup (a ++ b)) S
    | _ => False)
  | d => addL (lstD S d) (lstD S y) S Q
theorem add_lists {dx dy : D} {S : SO} {Q0 : KD} {x y : V} {v u : Value} {pins : List (Addr × Obj)} {s : Shared} {σ : St} {H : Hp} {Q : VK} (I : Inv X pins σ H s) (rx : RelV x v) (ry : RelV y u) (sr : SRel X.K S H) (r1 : Rel X.K S H dx x) (r2 : Rel X.K S H dy y) (an : Ans X.K S H Q0 Q)
    (q : addL (lstD S dx) (lstD S dy) S Q0) : wpAny (model X.prog X.w) X.A (binaryOp .Add v u) (EP X pins σ Q) X.xe s := by
  obtain ⟨a, b, h1, h2, hl, q⟩ := addL_of q
  obtain ⟨l, vs, e1, h3, rv⟩ := lstD_at sr r1 h1
  obtain ⟨l', us, e2, h4, ru⟩ := lstD_at sr r2 h2
  refine op_cat pins s σ H x y v u Q I rx ry ⟨l, l', vs, us, e1, e2, h3, h4, by rw [← rv.length, ← ru.length]; exact le_line hl, fun p hp => ?_⟩
  exact an _ _ _ _ q (nx_new hp) (sr.new hp) ⟨p, _, rfl, sr.free hp, upd_same, (rv.app ru).nx (nx_new hp)⟩
theorem do_add : DO2 X (binaryOp .Add) oAdd := by
  intro pins s σ H x y v u Q I rx ry ⟨dx, dy, S, Q0, sr, r1, r2, q, an⟩
  cases dx with
  | int i =>
    cases dy with
    | int j => exact op_add pins s σ H x y v u Q I rx ry ⟨i, j, r1, r2, ansd (.int (i + j)) sr an q rfl⟩
    | _ => exact False.elim q
  | str a =>
    cases dy with
    | str b => exact op_add_str pins s σ H x y v u Q I rx ry ⟨a, b, r1, r2, le_line q.1, ansd (.str (a ++ b)) sr an q.2 rfl⟩
    | _ => exact False.elim q
  | tup a =>
    cases dy with
    | tup b =>
      obtain ⟨hl, q⟩ := q
      obtain ⟨p1, vs, e1, t1, rv⟩ := r1
      obtain ⟨p2, us, e2, t2, ru⟩ := r2
      have rvu := rv.app ru
      refine op_catA pins s σ H x y v u Q I rx ry ⟨p1, p2, vs, us, e1, e2, t1.sq, t2.sq, by rw [← rv.length, ← ru.length]; exact le_line hl, fun e => ?_, fun _ e => ?_, fun _ _ p hp => ?_⟩
      · subst e
        exact ansd _ sr an q ⟨p2, us, rfl, t2, rvu⟩
      · subst e
        rw [List.append_nil] at rvu
        exact ansd _ sr an q ⟨p1, vs, rfl, t1, rvu⟩
      · exact an _ _ _ _ q (nx_new hp) (sr.new hp) ⟨p, _, rfl, ⟨sr.free hp, upd_same⟩, rvu.nx (nx_new hp)⟩
    | _ => exact False.elim q
  | _ => exact add_lists I rx ry sr r1 r2 an q
/-- * -/
def mulL (a : Option (List D)) (y : D) (S : SO) (Q : KD) : Prop := ∃ xs k, a = some xs ∧ y = .int k ∧ 0 ≤ k ∧ k ≤ 1000 ∧ xs.length ≤ 1000 ∧ Q (.lst (List.replicate k.toNat xs).flatten) S
def oMul : WO := fun x y S Q => match x with
  | .int i => (match y with
    | .int j => CMul i j ∧ Q (.int (i * j)) S
    | _ => False)
  | .str a => (match y with
    | .int n => a.length ≤ 1000 ∧ n ≤ 1000 ∧ -1000 ≤ n ∧ Q (.str (Txt.mul a n)) S
    | _ => False)
  | d => mulL (lstD S d) y S Q
theorem mulOk_small {x : Str} {n : Int} (h1 : x.length ≤ 1000) (h2 : n ≤ 1000) (h3 : -1000 ≤ n) : MulOk x n := by
  refine ⟨by rw [decide_eq_false (by omega), decide_eq_false (by omega)]; rfl, fun h _ => ?_, fun h _ => ?_⟩
  · have hn : 0 < n := by omega
    intro hgt
    have h4 : (2 ^ 63 - 1 : Int) / n ≥ (2 ^ 63 - 1) / 1000 := by
      rw [ge_iff_le, Int.le_ediv_iff_mul_le hn]
      have : (2 ^ 63 - 1 : Int) / 1000 * n ≤ (2 ^ 63 - 1 : Int) / 1000 * 1000 := Int.mul_le_mul_of_nonneg_left h2 (by decide)
      omega
    have h5 : (2 ^ 63 - 1 : Int) / 1000 > 1000 := by decide
    omega
  · have h4 : x.length * n.toNat ≤ 1000 * 1000 := Nat.mul_le_mul h1 (by omega)
    have h5 : x.length * n.toNat ≤ sizeLine := le_line h4
    exact decide_eq_false (by omega)
theorem Rels.rep {K : PySem.W.Frag} {S : SO} {H : Hp} {a : List D} {vs : List V} (r : Rels K S H a vs) : ∀ n : Nat, Rels K S H (List.replicate n a).flatten (List.replicate n vs).flatten
  | 0 => rfl
  | n + 1 => by
    rw [List.replicate_succ, List.replicate_succ, List.flatten_cons, List.flatten_cons]
    exact r.app (r.rep n)
theorem mul_lists {dx dy : D} {S : SO} {Q0 : KD} {x y : V} {v u : Value} {pins : List (Addr × Obj)} {s : Shared} {σ : St} {H : Hp} {Q : VK} (I : Inv X pins σ H s) (rx : RelV x v) (ry : RelV y u) (sr : SRel X.K S H) (r1 : Rel X.K S H dx x) (r2 : Rel X.K S H dy y) (an : Ans X.K S H Q0 Q)
    (q : mulL (lstD S dx) dy S Q0) : wpAny (model X.prog X.w) X.A (binaryOp .Mult v u) (EP X pins σ Q) X.xe s := by
  obtain ⟨a, k, h1, rfl, h0, h2, h3, q⟩ := q
  obtain ⟨l, vs, e1, hl, rv⟩ := lstD_at sr r1 h1
  have e2 : y = .int k := r2
  refine op_rep pins s σ H x y v u Q I rx ry ⟨l, k, vs, e1, e2, hl, by omega, by omega, ?_, fun p hp => ?_⟩
  · rw [← rv.length]
    have h4 : a.length * k.toNat ≤ 1000 * 1000 := Nat.mul_le_mul h3 (by omega)
    exact le_line h4
  · exact an _ _ _ _ q (nx_new hp) (sr.new hp) ⟨p, _, rfl, sr.free hp, upd_same, (rv.rep _).nx (nx_new hp)⟩
theorem do_mul : DO2 X (binaryOp .Mult) oMul := by
  intro pins s σ H x y v u Q I rx ry ⟨dx, dy, S, Q0, sr, r1, r2, q, an⟩
  cases dx with
  | int i =>
    cases dy with
    | int j => exact op_mul pins s σ H x y v u Q I rx ry ⟨i, j, r1, r2, q.1, ansd (.int (i * j)) sr an q.2 rfl⟩
    | _ => exact False.elim q
  | str a =>
    cases dy with
    | int n =>
      have e1 : x = .str a := r1
      have e2 : y = .int n := r2
      subst e1 e2
      obtain ⟨t, rfl⟩ := rx
      obtain ⟨t', rfl⟩ := ry
      obtain ⟨h1, h2, h3, q⟩ := q
      exact SB.mul (mulOk_small h1 h2 h3) fun t2 k => ⟨.str _, H, I.tok k, ⟨t2, rfl⟩, ansd (.str (Txt.mul a n)) sr an q rfl⟩
    | _ => exact False.elim q
  | _ => exact mul_lists I rx ry sr r1 r2 an q
/-! ### ==, in, is -/
/-- x == y told by data -/
def eqG (x y : D) (S : SO) (k : Bool → Prop) : Prop := ∃ p q, pyS S x = some p ∧ pyS S y = some q ∧ SeqAt.shaped p = true ∧ SeqAt.shaped q = true ∧ k (PyData.eqv p q)
def eqD (x y : D) (S : SO) (k : Bool → Prop) : Prop := match x with
  | .int i => (match y with
    | .int j => k (decide (i = j))
    | y => eqG (.int i) y S k)
  | .str a => (match y with
    | .str b => k (decide (a = b))
    | y => eqG (.str a) y S k)
  | x => eqG x y S k
theorem eqD_cases {x y : D} {S : SO} {k : Bool → Prop} (h : eqD x y S k) : (∃ i j, x = .int i ∧ y = .int j ∧ k (decide (i = j))) ∨ (∃ a b, x = .str a ∧ y = .str b ∧ k (decide (a = b))) ∨ eqG x y S k := by
  cases x with
  | int i =>
    cases y with
    | int j => exact .inl ⟨i, j, rfl, rfl, h⟩
    | _ => exact .inr (.inr h)
  | str a =>
    cases y with
    | str j => exact .inr (.inl ⟨a, j, rfl, rfl, h⟩)
    | _ => exact .inr (.inr h)
  | _ => exact .inr (.inr h)
def oEq : WO := fun x y S Q => eqD x y S fun b => Q (.bl b) S
def oNe : WO := fun x y S Q => eqD x y S fun b => Q (.bl (!b)) S
theorem do_eq (hu : X.A.units + 65 < cLine) : DO2 X (compareOp .Eq) oEq := by
  intro pins s σ H x y v u Q I rx ry ⟨dx, dy, S, Q0, sr, r1, r2, q, an⟩
  rcases eqD_cases q with ⟨i, j, rfl, rfl, q⟩ | ⟨i, j, rfl, rfl, q⟩ | ⟨p, q, h1, h2, h3, h4, qq⟩
  · have e1 : x = .int i := r1
    have e2 : y = .int j := r2
    subst e1 e2
    refine op_eq pins s σ H _ _ v u Q I rx ry ⟨rfl, ?_⟩
    have e : decide (V.int i = V.int j) = decide (i = j) := by simp
    rw [e]
    exact ansd (.bl _) sr an q rfl
  · have e1 : x = .str i := r1
    have e2 : y = .str j := r2
    subst e1 e2
    refine op_eq pins s σ H _ _ v u Q I rx ry ⟨rfl, ?_⟩
    have e : decide (V.str i = V.str j) = decide (i = j) := by simp
    rw [e]
    exact ansd (.bl _) sr an q rfl
  · exact op_eqD (by omega) pins s σ H x y v u Q I rx ry ⟨p, q, relS_dp sr r1 h1, relS_dp sr r2 h2, h3, h4, ansd (.bl _) sr an qq rfl⟩
theorem do_ne (hu : X.A.units + 65 < cLine) : DO2 X (compareOp .NotEq) oNe := by
  intro pins s σ H x y v u Q I rx ry ⟨dx, dy, S, Q0, sr, r1, r2, q, an⟩
  rcases eqD_cases q with ⟨i, j, rfl, rfl, q⟩ | ⟨i, j, rfl, rfl, q⟩ | ⟨p, q, h1, h2, h3, h4, qq⟩
  · have e1 : x = .int i := r1
    have e2 : y = .int j := r2
    subst e1 e2
    refine op_ne pins s σ H _ _ v u Q I rx ry ⟨rfl, ?_⟩
    have e : decide (V.int i = V.int j) = decide (i = j) := by simp
    rw [e]
    exact ansd (.bl _) sr an q rfl
  · have e1 : x = .str i := r1
    have e2 : y = .str j := r2
    subst e1 e2
    refine op_ne pins s σ H _ _ v u Q I rx ry ⟨rfl, ?_⟩
    have e : decide (V.str i = V.str j) = decide (i = j) := by simp
    rw [e]
    exact ansd (.bl _) sr an q rfl
  · exact op_neD (by omega) pins s σ H x y v u Q I rx ry ⟨p, q, relS_dp sr r1 h1, relS_dp sr r2 h2, h3, h4, ansd (.bl _) sr an qq rfl⟩
def isNon : D → Bool
  | .non => true
  | .gh d _ => isNon d
  | _ => false
def oIsN : WO := fun x y S Q => y = .non ∧ Q (.bl (isNon x)) S
def oNotN : WO := fun x y S Q => y = .non ∧ Q (.bl (!isNon x)) S
theorem rel_non0 {K : PySem.W.Frag} {S : SO} {H : Hp} (d : D) (v : V) (ih : ∀ d' u, d = .gh d' u → Rel K S H d' u → decide (u = V.non) = isNon d') (r : Rel K S H d v) : decide (v = V.non) = isNon d := by
  have no : ∀ {u : V}, v = u → decide (u = V.non) = isNon d → decide (v = V.non) = isNon d := fun e h => by rw [e]; exact h
  cases d with
  | non => exact no (u := .non) r rfl
  | bl b => exact no (u := .bl b) r rfl
  | int b => exact no (u := .int b) r rfl
  | str b => exact no (u := .str b) r rfl
  | ty b => exact no (u := .ty b) r rfl
  | obj b => exact no (u := .ref b) r rfl
  | tup ds => exact let ⟨_, _, e, _⟩ := r; no e rfl
  | kt ds => exact let ⟨_, _, e, _⟩ := r; no e rfl
  | tf ds => exact let ⟨_, _, e, _⟩ := r; no e rfl
  | lst ds => exact let ⟨_, _, e, _⟩ := r; no e rfl
  | src ds => exact let ⟨_, _, e, _⟩ := r; no e rfl
  | dic t ds => exact let ⟨_, e, _⟩ := r; no e rfl
  | fd t ds => exact let ⟨_, e, _⟩ := r; no e rfl
  | fn φ c q => exact let ⟨_, e, _⟩ := r; no e rfl
  | ins C ds => exact let ⟨_, _, _, e, _⟩ := r; no e rfl
  | gh d u =>
    obtain ⟨e, r⟩ := r
    subst e
    exact ih d v rfl r
theorem rel_nonN {K : PySem.W.Frag} {S : SO} {H : Hp} : ∀ (n : Nat) (d : D) (v : V), sizeOf d < n → Rel K S H d v → decide (v = V.non) = isNon d
  | 0, _, _, h, _ => absurd h (Nat.not_lt_zero _)
  | n + 1, d, v, hn, r => rel_non0 d v (fun d' u e r' => rel_nonN n d' u (by
      subst e
      simp only [D.gh.sizeOf_spec] at hn
      omega) r') r
theorem rel_non {K : PySem.W.Frag} {S : SO} {H : Hp} {d : D} {v : V} (r : Rel K S H d v) : decide (v = V.non) = isNon d := rel_nonN _ d v (Nat.lt_succ_self _) r
theorem do_isN : DO2 X (compareOp .Is) oIsN := by
  intro pins s σ H x y v u Q I rx ry ⟨dx, dy, S, Q0, sr, r1, r2, ⟨e, q⟩, an⟩
  subst e
  have e2 : y = .non := r2
  exact op_isN pins s σ H x y v u Q I rx ry ⟨e2, by rw [rel_non r1]; exact ansd (.bl _) sr an q rfl⟩
theorem do_notN : DO2 X (compareOp .IsNot) oNotN := by
  intro pins s σ H x y v u Q I rx ry ⟨dx, dy, S, Q0, sr, r1, r2, ⟨e, q⟩, an⟩
  subst e
  have e2 : y = .non := r2
  exact op_notN pins s σ H x y v u Q I rx ry ⟨e2, by rw [rel_non r1]; exact ansd (.bl _) sr an q rfl⟩
end
end L2.DL

/-! DL7: containers: in, subscripts, slices, dicts; built-ins by values -/
namespace L2.DL
open PySem PySem.Spec PyProof.Rows

/-! ### dicts as data -/
section
open Classical
noncomputable def dget (kvs : List (D × D)) (k : D) : Option D := (kvs.find? fun p => decide (p.1 = k)).map (·.2)
noncomputable def dput (kvs : List (D × D)) (k v : D) : List (D × D) := if (dget kvs k).isSome = true then kvs.map fun p => if p.1 = k then (p.1, v) else p else kvs ++ [(k, v)]
theorem dget_nil {k : D} : dget [] k = none := rfl
theorem dget_cons {k k' d : D} {kvs : List (D × D)} : dget ((k', d) :: kvs) k = if k' = k then some d else dget kvs k := by
  unfold dget
  rw [List.find?_cons]
  by_cases e : k' = k
  · rw [if_pos e, decide_eq_true e]
    rfl
  · rw [if_neg e, decide_eq_false e]
theorem dget_put {kvs : List (D × D)} {k v k' : D} : dget (dput kvs k v) k' = if k = k' then some v else dget kvs k' := by
  have app : ∀ (l : List (D × D)), dget (l ++ [(k, v)]) k' = if (dget l k').isSome then dget l k' else if k = k' then some v else none := by
    intro l
    induction l with
    | nil =>
      rw [List.nil_append, dget_cons, dget_nil]
      rfl
    | cons p l ih =>
      obtain ⟨a, b⟩ := p
      rw [List.cons_append, dget_cons, dget_cons]
      by_cases e : a = k'
      · rw [if_pos e, if_pos e]
        rfl
      · rw [if_neg e, if_neg e]
        exact ih
  have mp : ∀ (l : List (D × D)), dget (l.map fun p => if p.1 = k then (p.1, v) else p) k' = if k = k' then (dget l k').map (fun _ => v) else dget l k' := by
    intro l
    induction l with
    | nil =>
      rw [List.map_nil, dget_nil]
      split <;> rfl
    | cons p l ih =>
      obtain ⟨a, b⟩ := p
      rw [List.map_cons]
      show dget ((if a = k then (a, v) else (a, b)) :: _) k' = _
      by_cases e : a = k
      · rw [if_pos e, dget_cons, dget_cons]
        by_cases e2 : a = k'
        · have e3 : k = k' := e.symm.trans e2
          rw [if_pos e2, if_pos e2, if_pos e3]
          rfl
        · have e3 : ¬ k = k' := fun z => e2 (e.trans z)
          rw [if_neg e2, if_neg e2, ih]
      · rw [if_neg e, dget_cons, dget_cons]
        by_cases e2 : a = k'
        · have e3 : ¬ k = k' := fun z => e (e2.trans z.symm)
          rw [if_pos e2, if_pos e2, if_neg e3]
        · rw [if_neg e2, if_neg e2, ih]
  unfold dput
  by_cases h : (dget kvs k).isSome = true
  · rw [if_pos h, mp]
    by_cases e : k = k'
    · subst e
      rw [if_pos rfl, if_pos rfl]
      obtain ⟨d, hd⟩ := Option.isSome_iff_exists.mp h
      rw [hd]
      rfl
    · rw [if_neg e, if_neg e]
  · rw [if_neg h, app]
    by_cases e : k = k'
    · subst e
      rw [if_neg h, if_pos rfl, if_pos rfl]
    · rw [if_neg e, if_neg e]
      cases hk : dget kvs k' with
      | none => rfl
      | some d => rfl
theorem dput_new {kvs : List (D × D)} {k v : D} (h : dget kvs k = none) : dput kvs k v = kvs ++ [(k, v)] := by
  unfold dput
  rw [h]
  exact if_neg (by simp)
theorem dput_length (kvs : List (D × D)) (k v : D) : (dput kvs k v).length ≤ kvs.length + 1 := by
  unfold dput
  split
  · rw [List.length_map]
    omega
  · rw [List.length_append, List.length_singleton]
    exact Nat.le_refl _
end
def keyOf : D → Option Key
  | .int i => some (.inl i)
  | .str x => some (.inr x)
  | _ => none
def keysOf : List D → Option (List Key)
  | [] => some []
  | d :: ds => (keyOf d).bind fun k => (keysOf ds).map fun ks => k :: ks
theorem keyOf_eq {d : D} {k : Key} (h : keyOf d = some k) : d = keyD k := by
  cases d with
  | int i =>
    cases h
    rfl
  | str i =>
    cases h
    rfl
  | _ => cases h
theorem keysOf_eq : ∀ {ds : List D} {ks : List Key}, keysOf ds = some ks → ds = ks.map keyD
  | [], ks, h => by
    cases h
    rfl
  | d :: ds, ks, h => by
    obtain ⟨k, h1, h2⟩ := Option.bind_eq_some_iff.mp h
    obtain ⟨r, h3, rfl⟩ := Option.map_eq_some_iff.mp h2
    rw [List.map_cons, ← keyOf_eq h1, ← keysOf_eq h3]
/-- a key of a dict of that kind -/
def keyOk (t : Bool) (k : D) : Prop := if t = true then ∃ ds ks, k = .tup ds ∧ keysOf ds = some ks else ∃ q, keyOf k = some q
theorem keyD_inj {a b : Key} (h : keyD a = keyD b) : a = b := by
  cases a <;> cases b <;> cases h <;> rfl
theorem keyDs_inj : ∀ {a b : List Key}, a.map keyD = b.map keyD → a = b
  | [], [], _ => rfl
  | [], _ :: _, e => by simp at e
  | _ :: _, [], e => by simp at e
  | x :: xs, y :: ys, e => by
    rw [List.map_cons, List.map_cons] at e
    injection e with e1 e2
    rw [keyD_inj e1, keyDs_inj e2]
section
variable {K : PySem.W.Frag} {S : SO} {H : Hp}
theorem rel_key {k : Key} {v : V} (h : Rel K S H (keyD k) v) : v = kV k := by
  cases k with
  | inl i => exact h
  | inr x => exact h
theorem rels_key : ∀ {ks : List Key} {vs : List V}, Rels K S H (ks.map keyD) vs → vs = ks.map kV
  | [], _, h => h
  | k :: ks, _, h => by
    obtain ⟨v, r, rfl, h1, h2⟩ := h
    rw [rel_key h1, rels_key h2]
    rfl
def OptR (K : PySem.W.Frag) (S : SO) (H : Hp) : Option D → Option V → Prop
  | some d, some v => Rel K S H d v
  | none, none => True
  | _, _ => False
theorem RelK.get : ∀ {kvs : List (D × D)} {l : List (Key × V)} (q : Key), RelK K S H kvs l → OptR K S H (dget kvs (keyD q)) (valV l q)
  | [], l, q, h => by
    have e : l = [] := h
    subst e
    exact trivial
  | (k, d) :: kvs, l, q, h => by
    obtain ⟨q', v, r, rfl, rfl, h1, h2⟩ := h
    rw [dget_cons]
    by_cases e : q' = q
    · rw [if_pos (by rw [e]), valV_pos (p := (q', v)) e]
      exact h1
    · rw [if_neg (fun z => e (keyD_inj z)), valV_neg (p := (q', v)) e]
      exact RelK.get q h2
theorem RelT.get : ∀ {kvs : List (D × D)} {l : List (List Key × V)} (q : List Key), RelT K S H kvs l → OptR K S H (dget kvs (.tup (q.map keyD))) (valV l q)
  | [], l, q, h => by
    have e : l = [] := h
    subst e
    exact trivial
  | (k, d) :: kvs, l, q, h => by
    obtain ⟨q', v, r, rfl, rfl, h1, h2⟩ := h
    rw [dget_cons]
    by_cases e : q' = q
    · rw [if_pos (by rw [e]), valV_pos (p := (q', v)) e]
      exact h1
    · rw [if_neg (fun z => e (keyDs_inj (by injection z))), valV_neg (p := (q', v)) e]
      exact RelT.get q h2
theorem OptR.isSome {o : Option D} {u : Option V} (h : OptR K S H o u) : u.isSome = o.isSome := by
  cases o <;> cases u <;> first | rfl | exact h.elim
theorem RelK.length : ∀ {kvs : List (D × D)} {l : List (Key × V)}, RelK K S H kvs l → kvs.length = l.length
  | [], l, h => by
    have e : l = [] := h
    rw [e]
    rfl
  | (k, d) :: kvs, l, h => by
    obtain ⟨q', v, r, rfl, rfl, h1, h2⟩ := h
    rw [List.length_cons, List.length_cons, h2.length]
theorem RelT.length : ∀ {kvs : List (D × D)} {l : List (List Key × V)}, RelT K S H kvs l → kvs.length = l.length
  | [], l, h => by
    have e : l = [] := h
    rw [e]
    rfl
  | (k, d) :: kvs, l, h => by
    obtain ⟨q', v, r, rfl, rfl, h1, h2⟩ := h
    rw [List.length_cons, List.length_cons, h2.length]
theorem RelK.snoc {q : Key} {d : D} {v : V} (hr : Rel K S H d v) : ∀ {kvs : List (D × D)} {l : List (Key × V)}, RelK K S H kvs l → RelK K S H (kvs ++ [(keyD q, d)]) (l ++ [(q, v)])
  | [], l, h => by
    have e : l = [] := h
    subst e
    exact ⟨q, v, [], rfl, rfl, hr, rfl⟩
  | (k, d') :: kvs, l, h => by
    obtain ⟨q', v', r, rfl, rfl, h1, h2⟩ := h
    exact ⟨q', v', _, rfl, rfl, h1, h2.snoc hr⟩
theorem RelT.snoc {q : List Key} {d : D} {v : V} (hr : Rel K S H d v) : ∀ {kvs : List (D × D)} {l : List (List Key × V)}, RelT K S H kvs l → RelT K S H (kvs ++ [(.tup (q.map keyD), d)]) (l ++ [(q, v)])
  | [], l, h => by
    have e : l = [] := h
    subst e
    exact ⟨q, v, [], rfl, rfl, hr, rfl⟩
  | (k, d') :: kvs, l, h => by
    obtain ⟨q', v', r, rfl, rfl, h1, h2⟩ := h
    exact ⟨q', v', _, rfl, rfl, h1, h2.snoc hr⟩
open Classical in
theorem RelK.repl {q : Key} {d : D} {v : V} (hr : Rel K S H d v) : ∀ {kvs : List (D × D)} {l : List (Key × V)}, RelK K S H kvs l → RelK K S H (kvs.map fun p => if p.1 = keyD q then (p.1, d) else p) (l.map fun p => if p.1 = q then (p.1, v) else p)
  | [], l, h => by
    have e : l = [] := h
    subst e
    exact rfl
  | (k, d') :: kvs, l, h => by
    obtain ⟨q', v', r, rfl, rfl, h1, h2⟩ := h
    rw [List.map_cons, List.map_cons]
    by_cases e : q' = q
    · rw [if_pos (by rw [e]), if_pos e]
      exact ⟨q', v, _, rfl, rfl, hr, h2.repl hr⟩
    · rw [if_neg (fun z => e (keyD_inj z)), if_neg e]
      exact ⟨q', v', _, rfl, rfl, h1, h2.repl hr⟩
open Classical in
theorem RelT.repl {q : List Key} {d : D} {v : V} (hr : Rel K S H d v) : ∀ {kvs : List (D × D)} {l : List (List Key × V)}, RelT K S H kvs l → RelT K S H (kvs.map fun p => if p.1 = .tup (q.map keyD) then (p.1, d) else p) (l.map fun p => if p.1 = q then (p.1, v) else p)
  | [], l, h => by
    have e : l = [] := h
    subst e
    exact rfl
  | (k, d') :: kvs, l, h => by
    obtain ⟨q', v', r, rfl, rfl, h1, h2⟩ := h
    rw [List.map_cons, List.map_cons]
    by_cases e : q' = q
    · rw [if_pos (by rw [e]), if_pos e]
      exact ⟨q', v, _, rfl, rfl, hr, h2.repl hr⟩
    · rw [if_neg (fun z => e (keyDs_inj (by injection z))), if_neg e]
      exact ⟨q', v', _, rfl, rfl, h1, h2.repl hr⟩
theorem RelK.put {q : Key} {d : D} {v : V} {kvs : List (D × D)} {l : List (Key × V)} (h : RelK K S H kvs l) (hr : Rel K S H d v) : RelK K S H (dput kvs (keyD q) d) (putK l q v) := by
  have g := (h.get q).isSome
  unfold dput putK
  rw [valV_any, g]
  split
  · exact h.repl hr
  · exact h.snoc hr
theorem RelT.put {q : List Key} {d : D} {v : V} {kvs : List (D × D)} {l : List (List Key × V)} (h : RelT K S H kvs l) (hr : Rel K S H d v) : RelT K S H (dput kvs (.tup (q.map keyD)) d) (putK l q v) := by
  have g := (h.get q).isSome
  unfold dput putK
  rw [valV_any, g]
  split
  · exact h.repl hr
  · exact h.snoc hr
end
def objD : Option DO → Option (Bool × List (D × D))
  | some (.dic t kvs) => some (t, kvs)
  | _ => none
def dicX (S : SO) : D → Option (Bool × List (D × D))
  | .dic t kvs => some (t, kvs)
  | .fd false kvs => some (false, kvs)
  | .obj a => objD (S a)
  | _ => none
theorem objD_of {o : Option DO} {t : Bool} {kvs : List (D × D)} (h : objD o = some (t, kvs)) : o = some (.dic t kvs) := by
  cases o with
  | none => cases h
  | some u =>
    cases u with
    | dic t' kvs' =>
      cases h
      rfl
    | _ => cases h
def DicAt (K : PySem.W.Frag) (S : SO) (H : Hp) (a : Addr) (t : Bool) (kvs : List (D × D)) : Prop := (∃ l, t = false ∧ H a = some (.dK l) ∧ RelK K S H kvs l) ∨ (∃ l, t = true ∧ H a = some (.dT l) ∧ RelT K S H kvs l)
/-- .. to be read: locked or not -/
def DicRd (K : PySem.W.Frag) (S : SO) (H : Hp) (a : Addr) (t : Bool) (kvs : List (D × D)) : Prop := (∃ l, t = false ∧ Rd H a (.dK l) ∧ RelK K S H kvs l) ∨ (∃ l, t = true ∧ H a = some (.dT l) ∧ RelT K S H kvs l)
theorem DicAt.rd {K : PySem.W.Frag} {S : SO} {H : Hp} {a : Addr} {t : Bool} {kvs : List (D × D)} : DicAt K S H a t kvs → DicRd K S H a t kvs
  | .inl ⟨l, ht, h, r⟩ => .inl ⟨l, ht, .inl h, r⟩
  | .inr h => .inr h
theorem dicX_at {K : PySem.W.Frag} {S : SO} {H : Hp} {d : D} {v : V} {t : Bool} {kvs : List (D × D)} (s : SRel K S H) (r : Rel K S H d v) (e : dicX S d = some (t, kvs)) : ∃ a, v = .ref a ∧ DicRd K S H a t kvs := by
  cases d with
  | dic t' kvs' =>
    cases e
    obtain ⟨a, h1, _, h2⟩ := r
    exact ⟨a, h1, DicAt.rd h2⟩
  | fd t' kvs' =>
    cases t' with
    | true => cases e
    | false =>
      cases e
      obtain ⟨a, h1, _, ⟨o, l, _, h2, h3⟩ | ⟨o, l, z, _⟩⟩ := r
      · exact ⟨a, h1, .inl ⟨l, rfl, .inr ⟨o, h2⟩, h3⟩⟩
      · cases z
  | obj a => exact ⟨a, r, DicAt.rd (s a _ (objD_of e))⟩
  | _ => cases e
theorem DicRd.get {K : PySem.W.Frag} {S : SO} {H : Hp} {a : Addr} {t : Bool} {kvs : List (D × D)} {k : D} {y : V} (h : DicRd K S H a t kvs) (r : Rel K S H k y) (ok : keyOk t k) : ∃ o, DGet H a y o ∧ OptR K S H (dget kvs k) o := by
  rcases h with ⟨l, rfl, hl, rl⟩ | ⟨l, rfl, hl, rl⟩
  · obtain ⟨q, hq⟩ := ok
    have e := keyOf_eq hq
    subst e
    rw [rel_key r]
    exact ⟨_, .inl ⟨l, q, hl, rfl, rfl⟩, rl.get q⟩
  · obtain ⟨ds, ks, rfl, hk⟩ := ok
    have e := keysOf_eq hk
    subst e
    obtain ⟨b, vs, rfl, tb, rv⟩ := r
    have e2 := rels_key rv
    subst e2
    exact ⟨_, DGet.t hl tb.2, rl.get ks⟩
theorem DicAt.put {K : PySem.W.Frag} {S : SO} {H : Hp} {a : Addr} {t : Bool} {kvs : List (D × D)} {k d : D} {y v : V} (h : DicAt K S H a t kvs) (r : Rel K S H k y) (ok : keyOk t k) (rv : Rel K S H d v) (hz : kvs.length < 1000000) :
    ∃ o, DPut H a y v (upd H a o) ∧ (∀ S' H', Nx S H S' H' → H' a = some o → DicAt K S' H' a t (dput kvs k d)) := by
  rcases h with ⟨l, rfl, hl, rl⟩ | ⟨l, rfl, hl, rl⟩
  · obtain ⟨q, hq⟩ := ok
    have e := keyOf_eq hq
    subst e
    rw [rel_key r]
    exact ⟨_, DPut.k hl (by rw [← rl.length]; exact Nat.lt_of_lt_of_le hz (le_line (Nat.le_refl _))), fun S' H' n e => .inl ⟨_, rfl, e, RelK.nx n _ _ (rl.put rv)⟩⟩
  · obtain ⟨ds, ks, rfl, hk⟩ := ok
    have e := keysOf_eq hk
    subst e
    obtain ⟨b, vs, rfl, tb, rvs⟩ := r
    have e2 := rels_key rvs
    subst e2
    exact ⟨_, DPut.t hl tb.2 (by rw [← rl.length]; exact Nat.lt_of_lt_of_le hz (le_line (Nat.le_refl _))), fun S' H' n e => .inr ⟨_, rfl, e, RelT.nx n _ _ (rl.put rv)⟩⟩
end L2.DL

/-! DL8: in, subscripts, slices, len and other built-ins -/
namespace L2.DL
open PySem PySem.Spec PyProof.Rows

/-! ### in -/
def strIn (i j : Str) : Bool := !(Builtin.Str.occurrences j i 0 j.length 1).isEmpty
/-- x is equal to one of the items -/
def memD (S : SO) (x : D) (xs : List D) (k : Bool → Prop) : Prop := ∃ p ps, pyS S x = some p ∧ pyDs xs = some ps ∧ SeqAt.shaped p = true ∧ SeqAt.shaped (.list ps) = true ∧ k (ps.any fun z => PyData.eqv z p)
def inD (x y : D) (S : SO) (k : Bool → Prop) : Prop := match y with
  | .str j => (match x with
    | .str i => k (strIn i j)
    | _ => False)
  | y => (∃ xs, seqX S y = some xs ∧ memD S x xs k) ∨ (∃ t kvs, dicX S y = some (t, kvs) ∧ keyOk t x ∧ k (dget kvs x).isSome)
def oIn : WO := fun x y S Q => inD x y S fun b => Q (.bl b) S
def oNotIn : WO := fun x y S Q => inD x y S fun b => Q (.bl (!b)) S
theorem inD_cases {x y : D} {S : SO} {k : Bool → Prop} (h : inD x y S k) : (∃ i j, x = .str i ∧ y = .str j ∧ k (strIn i j)) ∨ (∃ xs, seqX S y = some xs ∧ memD S x xs k) ∨ (∃ t kvs, dicX S y = some (t, kvs) ∧ keyOk t x ∧ k (dget kvs x).isSome) := by
  cases y with
  | str j =>
    cases x with
    | str i => exact .inl ⟨i, j, rfl, rfl, h⟩
    | _ => exact False.elim h
  | _ => exact .inr h
theorem shaped_tup {ps : List PyData} (h : SeqAt.shaped (.list ps) = true) : PyData.canLayAll0 ps = true := by
  have := SeqAt.canLay_of_shaped h
  exact this
section
variable {X : Cx}
theorem seq_in {K : PySem.W.Frag} {S : SO} {H : Hp} {d : D} {v : V} {xs : List D} {ps : List PyData} (s : SRel K S H) (r : Rel K S H d v) (e : seqX S d = some xs) (hp : pyDs xs = some ps) : Dp K H v (.list ps) ∨ Dp K H v (.tuple ps) := by
  obtain ⟨a, vs, rfl, h, rv⟩ := seqX_at s r e
  exact h.elim (fun h => .inl (.lst h (rels_dp _ _ _ rv hp))) fun h => .inr (.tup h (rels_dp _ _ _ rv hp))
theorem do_in (hu : X.A.units + 65 < cLine) : DO2 X (compareOp .In) oIn := by
  intro pins s σ H x y v u Q I rx ry ⟨dx, dy, S, Q0, sr, r1, r2, q, an⟩
  rcases inD_cases q with ⟨i, j, rfl, rfl, q⟩ | ⟨xs, e, p, ps, hp, hps, sp, sps, q⟩ | ⟨t, kvs, e, ok, q⟩
  · exact op_in_str pins s σ H x y v u Q I rx ry ⟨i, j, r1, r2, ansd (.bl _) sr an q rfl⟩
  · have dp := relS_dp sr r1 hp
    rcases seq_in sr r2 e hps with dq | dq
    · exact op_inD hu pins s σ H x y v u Q I rx ry ⟨p, ps, dp, dq, sp, sps, ansd (.bl _) sr an q rfl⟩
    · obtain ⟨as, ra⟩ := Dp.reads I p x v dp rx
      obtain ⟨bs, rb⟩ := Dp.reads I (.tuple ps) y u dq ry
      exact SeqAt.in_tuple_reads rb ra (shaped_tup sps) (SeqAt.canLay_of_shaped sp) (room_in_shaped sp hu) ⟨.bl _, H, I, rfl, ansd (.bl _) sr an q rfl⟩
  · obtain ⟨a, rfl, da⟩ := dicX_at sr r2 e
    obtain ⟨o, g, oo⟩ := da.get r1 ok
    cases ry
    refine d_in (by omega) I g rx fun s' I' => ⟨.bl o.isSome, H, I', rfl, ?_⟩
    rw [oo.isSome]
    exact ansd (.bl _) sr an q rfl
theorem do_notIn (hu : X.A.units + 65 < cLine) : DO2 X (compareOp .NotIn) oNotIn := by
  intro pins s σ H x y v u Q I rx ry ⟨dx, dy, S, Q0, sr, r1, r2, q, an⟩
  rcases inD_cases q with ⟨i, j, rfl, rfl, q⟩ | ⟨xs, e, p, ps, hp, hps, sp, sps, q⟩ | ⟨t, kvs, e, ok, q⟩
  · exact op_notin_str pins s σ H x y v u Q I rx ry ⟨i, j, r1, r2, ansd (.bl _) sr an q rfl⟩
  · have dp := relS_dp sr r1 hp
    rcases seq_in sr r2 e hps with dq | dq
    · exact op_notInD hu pins s σ H x y v u Q I rx ry ⟨p, ps, dp, dq, sp, sps, ansd (.bl _) sr an q rfl⟩
    · obtain ⟨as, ra⟩ := Dp.reads I p x v dp rx
      obtain ⟨bs, rb⟩ := Dp.reads I (.tuple ps) y u dq ry
      exact SeqAt.notIn_tuple_reads rb ra (shaped_tup sps) (SeqAt.canLay_of_shaped sp) (room_in_shaped sp hu) ⟨.bl _, H, I, rfl, ansd (.bl _) sr an q rfl⟩
  · obtain ⟨a, rfl, da⟩ := dicX_at sr r2 e
    obtain ⟨o, g, oo⟩ := da.get r1 ok
    cases ry
    refine d_notIn (by omega) I g rx fun s' I' => ⟨.bl (!o.isSome), H, I', rfl, ?_⟩
    rw [oo.isSome]
    exact ansd (.bl _) sr an q rfl

/-! ### a[i] -/
def oIx : WO := fun x y S Q => (∃ xs i v, seqX S x = some xs ∧ y = .int i ∧ atI xs i = some v ∧ Q v S) ∨ (∃ z i c, x = .str z ∧ y = .int i ∧ z.length ≤ 1000000 ∧ atI z.cps.toList i = some c ∧ Q (.str ⟨#[c]⟩) S) ∨
  (∃ t kvs v, dicX S x = some (t, kvs) ∧ keyOk t y ∧ dget kvs y = some v ∧ Q v S)
theorem do_ix (hu : X.A.units + 65 < cLine) : IxR X (liftO X.K oIx) := by
  intro value slice pins s σ H x y v u Q I rx ry ⟨dx, dy, S, Q0, sr, r1, r2, q, an⟩ hs
  rcases q with ⟨xs, i, d, e, rfl, hi, q⟩ | ⟨z, i, c, rfl, rfl, hz, hi, q⟩ | ⟨t, kvs, d, e, ok, hd, q⟩
  · obtain ⟨a, vs, ex, hq, rv⟩ := seqX_at sr r1 e
    have e2 : y = .int i := r2
    unfold atI at hi
    obtain ⟨j, hj, hx⟩ := Option.bind_eq_some_iff.mp hi
    obtain ⟨w, hw, rw'⟩ := rv.get hx
    have hi2 : atI vs i = some w := by
      unfold atI
      rw [← rv.length, hj]
      exact hw
    have qw : Q w H := ansd d sr an q rw'
    rcases hq with hq | hq
    · exact ix_list value slice pins s σ H x y v u Q I rx ry ⟨a, vs, i, w, ex, e2, hq, hi2, qw⟩ hs
    · exact ix_tup value slice pins s σ H x y v u Q I rx ry ⟨a, vs, i, w, ex, e2, hq, hi2, qw⟩ hs
  · exact ix_str value slice pins s σ H x y v u Q I rx ry ⟨z, i, c, r1, r2, le_line hz, hi, ansd (.str _) sr an q rfl⟩ hs
  · obtain ⟨a, rfl, da⟩ := dicX_at sr r1 e
    obtain ⟨o, g, oo⟩ := da.get r2 ok
    rw [hd] at oo
    cases o with
    | none => exact oo.elim
    | some w =>
      cases rx
      exact tail_any (dict_typeIs I g) PySem.F.slot_dict_getitem.lookup (d_getItem (by omega) I g ry fun w' s' I' rw' => ⟨w, H, I', rw', ansd d sr an q oo⟩) hs
theorem de_ix {a b : Expr} {wa wb : WE} {pos : Pos} (hu : X.A.units + 65 < cLine) (ha : DE X a wa) (hb : DE X b wb) (hs : PlainIx b := by intro _ _; rfl) : DE X (.Subscript a b pos) (wO oIx wa wb) :=
  pe_imp (pe_ix (do_ix hu) ha hb hs) fun σ H Q h => two h fun v u H2 x y S2 Q0 s2 r1 r2 q2 an => ⟨x, y, S2, Q0, s2, r1, r2, q2, an⟩

/-! ### a[lo:hi] -/
abbrev WP := SD → SO → (Option Int → SO → Prop) → Prop
def liftP (K : PySem.W.Frag) (w : WP) : TO := fun σ H Q => ∃ sd S Q0, Sta K sd S σ H ∧ w sd S Q0 ∧ ∀ o S' H', Q0 o S' → Nx S H S' H' → SRel K S' H' → Q o H'
abbrev DP (X : Cx) (e : Option Expr) (w : WP) : Prop := PO X e (liftP X.K w)
theorem po_imp {e : Option Expr} {t t' : TO} (h : PO X e t) (i : ∀ σ H Q, t' σ H Q → t σ H Q) : PO X e t' := ⟨fun pins s σ H Q I q => h.run pins s σ H Q I (i σ H Q q)⟩
def pNone : WP := fun _ S Q => Q none S
def isI0 (k : Int → SO → Prop) : KD := fun d S => match d with
  | .int i => k i S
  | _ => False
structure IsI (k : Int → SO → Prop) (d : D) (S : SO) : Prop where
  ex : isI0 k d S
def isI (k : Int → SO → Prop) : KD := fun d S => IsI k d S
def pSome (we : WE) : WP := fun sd S Q => we sd S (isI fun i S1 => Q (some i) S1)
theorem dp_none : DP X none pNone := po_imp po_none fun σ H Q ⟨sd, S, Q0, st, q, an⟩ => an _ _ _ q (.refl _ _) st.s
theorem dp_some {e : Expr} {we : WE} (h : DE X e we) : DP X (some e) (pSome we) := po_imp (po_some h) fun σ H Q ⟨sd, S, Q0, st, q, an⟩ => ⟨sd, S, _, st, q, fun d S1 v H1 q1 n1 s1 r1 => by
  have q1 := q1.ex
  cases d with
  | int i => exact ⟨i, r1, an _ _ _ q1 n1 s1⟩
  | _ => exact False.elim q1⟩
def cutD (xs : List D) (lo hi : Option Int) : List D := (xs.drop (HT.sIx xs.length 0 lo)).take (HT.sIx xs.length xs.length hi - HT.sIx xs.length 0 lo)
theorem Rels.cut {K : PySem.W.Frag} {S : SO} {H : Hp} {xs : List D} {vs : List V} (r : Rels K S H xs vs) (lo hi : Option Int) : Rels K S H (cutD xs lo hi) (cutV vs lo hi) := by
  unfold cutD cutV
  rw [← r.length]
  exact (r.drop _).take _
/-- what the slice of it is -/
def sliD (d : D) (S : SO) (lo hi : Option Int) (Q : KD) : Prop := match d with
  | .str z => z.length ≤ 1000000 ∧ Q (.str (cutS z lo hi)) S
  | .tup xs => Q (.tup (cutD xs lo hi)) S
  | .kt xs => ¬ (HT.sIx xs.length 0 lo = 0 ∧ HT.sIx xs.length xs.length hi = xs.length) ∧ Q (.tup (cutD xs lo hi)) S
  | .tf xs => ¬ (HT.sIx xs.length 0 lo = 0 ∧ HT.sIx xs.length xs.length hi = xs.length) ∧ Q (.tup (cutD xs lo hi)) S
  | .src xs => Q (.lst (cutD xs lo hi)) S
  | d => ∃ xs, lstD S d = some xs ∧ Q (.lst (cutD xs lo hi)) S
def wSl (we : WE) (tl th : WP) : WE := fun sd S Q => we sd S fun d S1 => tl sd S1 fun lo S2 => th sd S2 fun hi S3 => sliD d S3 lo hi Q
theorem cutD_all {xs : List D} {lo hi : Option Int} (h : HT.sIx xs.length 0 lo = 0 ∧ HT.sIx xs.length xs.length hi = xs.length) : cutD xs lo hi = xs := by
  unfold cutD
  rw [h.1, h.2]
  simp
theorem sl_d : SlR X (fun x lo hi H Q => ∃ d S Q0, SRel X.K S H ∧ Rel X.K S H d x ∧ sliD d S lo hi Q0 ∧ Ans X.K S H Q0 Q) := by
  intro pins s σ H x v vl vu lo hi sl Q I rx hs pl pu ⟨d, S, Q0, sr, r, q, an⟩
  have lists : ∀ {a : Addr} {vs : List V} {xs : List D}, x = .ref a → SqL X.K H a vs → Rels X.K S H xs vs → Q0 (.lst (cutD xs lo hi)) S → ∃ T id, typeLookup (.type T) "__getitem__" = pure (some (.builtin id)) ∧ s.TypeIs v T ∧ wpAny (model X.prog X.w) X.A (getItem v (.ref sl)) (EP X pins σ Q) X.xe s := fun e hq rv q =>
    sl_list pins s σ H x v vl vu lo hi sl Q I rx hs pl pu ⟨_, _, e, hq, fun p hp => an _ _ _ _ q (nx_new hp) (sr.new hp) ⟨p, _, rfl, sr.free hp, upd_same, (rv.cut lo hi).nx (nx_new hp)⟩⟩
  have via : ∀ {d : D} {xs : List D}, Rel X.K S H d x → lstD S d = some xs → Q0 (.lst (cutD xs lo hi)) S → ∃ T id, typeLookup (.type T) "__getitem__" = pure (some (.builtin id)) ∧ s.TypeIs v T ∧ wpAny (model X.prog X.w) X.A (getItem v (.ref sl)) (EP X pins σ Q) X.xe s := fun r e q =>
    let ⟨a, vs, h1, h2, h3⟩ := lstD_at sr r e
    lists h1 (.of h2) h3 q
  cases d with
  | str z => exact sl_str pins s σ H x v vl vu lo hi sl Q I rx hs pl pu ⟨z, r, le_line q.1, ansd (.str _) sr an q.2 rfl⟩
  | tup xs =>
    obtain ⟨a, vs, e, t, rv⟩ := r
    refine sl_tupA pins s σ H x v vl vu lo hi sl Q I rx hs pl pu ⟨a, vs, e, t.sq, fun hw => ?_, fun _ p hp => an _ _ _ _ q (nx_new hp) (sr.new hp) ⟨p, _, rfl, ⟨sr.free hp, upd_same⟩, (rv.cut lo hi).nx (nx_new hp)⟩⟩
    rw [← rv.length] at hw
    have q' : Q0 (.tup (cutD xs lo hi)) S := q
    rw [cutD_all hw] at q'
    exact ansd (.tup xs) sr an q' ⟨a, vs, rfl, t, rv⟩
  | kt xs =>
    obtain ⟨a, vs, e, t, rv⟩ := r
    refine sl_tupA pins s σ H x v vl vu lo hi sl Q I rx hs pl pu ⟨a, vs, e, t.sq, fun hw => absurd (by rw [rv.length]; exact hw) q.1, fun _ p hp => an _ _ _ _ q.2 (nx_new hp) (sr.new hp) ⟨p, _, rfl, ⟨sr.free hp, upd_same⟩, (rv.cut lo hi).nx (nx_new hp)⟩⟩
  | tf xs =>
    obtain ⟨a, vs, e, t, rv⟩ := r
    refine sl_tupA pins s σ H x v vl vu lo hi sl Q I rx hs pl pu ⟨a, vs, e, t.sq, fun hw => absurd (by rw [rv.length]; exact hw) q.1, fun _ p hp => an _ _ _ _ q.2 (nx_new hp) (sr.new hp) ⟨p, _, rfl, ⟨sr.free hp, upd_same⟩, (rv.cut lo hi).nx (nx_new hp)⟩⟩
  | src xs =>
    obtain ⟨a, vs, e, t, rv⟩ := r
    exact lists e t.sq rv q
  | lst xs => exact let ⟨ys, e, q⟩ := q; via r e q
  | obj a => exact let ⟨ys, e, q⟩ := q; via r e q
  | _ => exact let ⟨_, e, _⟩ := q; nomatch e
theorem de_sl {a : Expr} {lo hi : Option Expr} {we : WE} {tl th : WP} {pos p2 : Pos} (ha : DE X a we) (hl : DP X lo tl) (hh : DP X hi th) : DE X (.Subscript a (.Slice lo hi none p2) pos) (wSl we tl th) :=
  pe_imp (pe_slice sl_d ha hl hh) fun σ H Q ⟨sd, S, Q0, st, q, an⟩ => ⟨sd, S, _, st, q, fun d S1 v H1 q1 n1 s1 r1 => ⟨sd, S1, _, st.nx n1 s1, q1, fun o S2 H2 q2 n2 s2 => ⟨sd, S2, _, (st.nx n1 s1).nx n2 s2, q2, fun o3 S3 H3 q3 n3 s3 =>
    ⟨d, S3, Q0, s3, (Rel.nx (n2.trans n3) _ _ r1), q3, an.nx (n1.trans (n2.trans n3))⟩⟩⟩⟩
end
end L2.DL

/-! DL9: built-ins by values, methods, stores -/
namespace L2.DL
open PySem PySem.Spec PyProof.Rows

section
variable {K : PySem.W.Frag} {S : SO} {H : Hp}
theorem rels_ints : ∀ {ns : List Int} {vs : List V}, Rels K S H (ns.map D.int) vs → vs = ns.map V.int
  | [], _, h => h
  | k :: ks, _, h => by
    obtain ⟨v, r, rfl, h1, h2⟩ := h
    have e : v = .int k := h1
    rw [e, rels_ints h2]
    rfl
theorem rels_strs : ∀ {ns : List Str} {vs : List V}, Rels K S H (ns.map D.str) vs → vs = ns.map V.str
  | [], _, h => h
  | k :: ks, _, h => by
    obtain ⟨v, r, rfl, h1, h2⟩ := h
    have e : v = .str k := h1
    rw [e, rels_strs h2]
    rfl
theorem rels_bls : ∀ {ns : List Bool} {vs : List V}, Rels K S H (ns.map D.bl) vs → vs = ns.map V.bl
  | [], _, h => h
  | k :: ks, _, h => by
    obtain ⟨v, r, rfl, h1, h2⟩ := h
    have e : v = .bl k := h1
    rw [e, rels_bls h2]
    rfl
theorem rels_of_ints : ∀ (ns : List Int), Rels K S H (ns.map D.int) (ns.map V.int)
  | [] => rfl
  | k :: ks => ⟨_, _, rfl, rfl, rels_of_ints ks⟩
theorem rels_of_strs : ∀ (ns : List Str), Rels K S H (ns.map D.str) (ns.map V.str)
  | [] => rfl
  | k :: ks => ⟨_, _, rfl, rfl, rels_of_strs ks⟩
end
/-- the items of a list that is read -/
def lstX (S : SO) : D → Option (List D)
  | .src xs => some xs
  | d => lstD S d
theorem lstX_at {K : PySem.W.Frag} {S : SO} {H : Hp} {d : D} {v : V} {xs : List D} (s : SRel K S H) (r : Rel K S H d v) (e : lstX S d = some xs) : ∃ a vs, v = .ref a ∧ SqL K H a vs ∧ Rels K S H xs vs := by
  cases d with
  | src ys =>
    cases e
    obtain ⟨a, vs, h1, h2, h3⟩ := r
    exact ⟨a, vs, h1, h2.sq, h3⟩
  | lst ys =>
    obtain ⟨a, vs, h1, h2, h3⟩ := lstD_at s r e
    exact ⟨a, vs, h1, .of h2, h3⟩
  | obj ys =>
    obtain ⟨a, vs, h1, h2, h3⟩ := lstD_at s r e
    exact ⟨a, vs, h1, .of h2, h3⟩
  | _ => cases e
/-- one argument; two -/
def one (xs : List D) (k : D → Prop) : Prop := match xs with
  | [x] => k x
  | _ => False
def two2 (xs : List D) (k : D → D → Prop) : Prop := match xs with
  | [x, y] => k x y
  | _ => False
theorem one_of {xs : List D} {k : D → Prop} (h : one xs k) : ∃ j, xs = [j] ∧ k j := by
  unfold one at h
  split at h
  · exact ⟨_, rfl, h⟩
  · exact h.elim
theorem two2_of {xs : List D} {k : D → D → Prop} (h : two2 xs k) : ∃ i j, xs = [i, j] ∧ k i j := by
  unfold two2 at h
  split at h
  · exact ⟨_, _, rfl, h⟩
  · exact h.elim
theorem Rels.v1 {K : PySem.W.Frag} {S : SO} {H : Hp} {d : D} {vs : List V} (r : Rels K S H [d] vs) : ∃ v, vs = [v] ∧ Rel K S H d v := by
  obtain ⟨v, r', rfl, rv, e⟩ := r
  have e' : r' = [] := e
  exact ⟨v, by rw [e'], rv⟩
section
variable {X : Cx}
/-! ### numbers -/
def cInt : WL := fun xs S Q => one xs fun x => match x with
  | .int i => Q (.int i) S
  | .bl b => Q (.int (if b then 1 else 0)) S
  | _ => False
theorem dc_int : DC X (.type "int") cInt := by
  intro pins s σ H xs us Q I r ⟨ds, S, Q0, sr, rs, q, an⟩
  obtain ⟨x, rfl, q⟩ := one_of q
  obtain ⟨v, rfl, rv⟩ := rs.v1
  cases x with
  | int i =>
    have e : v = .int i := rv
    exact call_int1 pins s σ H _ us Q I r (.inl ⟨i, by rw [e], ansd (.int i) sr an q rfl⟩)
  | bl i =>
    have e : v = .bl i := rv
    exact call_int1 pins s σ H _ us Q I r (.inr ⟨i, by rw [e], ansd (.int _) sr an q rfl⟩)
  | _ => exact False.elim q
def cAbs : WL := fun xs S Q => int1 xs fun i => Q (.int (if i < 0 then -i else i)) S
theorem dc_abs : DC X (.builtin "abs") cAbs := by
  intro pins s σ H xs us Q I r ⟨ds, S, Q0, sr, rs, q, an⟩
  obtain ⟨i, rfl, q⟩ := int1_of q
  rw [rs.int1] at r
  exact call_abs pins s σ H _ us Q I r ⟨i, rfl, ansd (.int _) sr an q rfl⟩
/-- max(a, b) of ints, max(list of ints) -/
def intsX (S : SO) (xs : List D) (k : List Int → Prop) : Prop := one xs fun x => ∃ ns : List Int, lstX S x = some (ns.map D.int) ∧ k ns
def IsMax (ns : List Int) (m : Int) : Prop := m ∈ ns ∧ ∀ y ∈ ns, y ≤ m
def IsMin (ns : List Int) (m : Int) : Prop := m ∈ ns ∧ ∀ y ∈ ns, m ≤ y
def cMax : WL := fun xs S Q => int2 xs (fun i j => Q (.int (max i j)) S) ∨ intsX S xs fun ns => ns ≠ [] ∧ ∀ m, IsMax ns m → Q (.int m) S
def cMin : WL := fun xs S Q => int2 xs (fun i j => Q (.int (min i j)) S) ∨ intsX S xs fun ns => ns ≠ [] ∧ ∀ m, IsMin ns m → Q (.int m) S
theorem dc_max (hc : X.calm = true) : DC X (.builtin "max") cMax := by
  intro pins s σ H xs us Q I r ⟨ds, S, Q0, sr, rs, q, an⟩
  rcases q with q | q
  · obtain ⟨i, j, rfl, q⟩ := int2_of q
    rw [rs.int2] at r
    refine call_max2 hc pins s σ H _ us Q I r ⟨i, j, rfl, ?_⟩
    have e : (if j > i then j else i) = max i j := by omega
    rw [e]
    exact ansd (.int _) sr an q rfl
  · obtain ⟨x, rfl, ns, e, hne, q⟩ := one_of q
    obtain ⟨v, rfl, rv⟩ := rs.v1
    obtain ⟨a, vs, rfl, hq, rns⟩ := lstX_at sr rv e
    rw [rels_ints rns] at hq
    exact cr_max hc pins s σ H _ us Q I r ⟨a, ns, rfl, hq, List.length_pos_iff.mpr hne, fun m h1 h2 => ansd (.int m) sr an (q m ⟨h1, h2⟩) rfl⟩
theorem dc_min (hc : X.calm = true) : DC X (.builtin "min") cMin := by
  intro pins s σ H xs us Q I r ⟨ds, S, Q0, sr, rs, q, an⟩
  rcases q with q | q
  · obtain ⟨i, j, rfl, q⟩ := int2_of q
    rw [rs.int2] at r
    refine call_min2 hc pins s σ H _ us Q I r ⟨i, j, rfl, ?_⟩
    have e : (if j < i then j else i) = min i j := by omega
    rw [e]
    exact ansd (.int _) sr an q rfl
  · obtain ⟨x, rfl, ns, e, hne, q⟩ := one_of q
    obtain ⟨v, rfl, rv⟩ := rs.v1
    obtain ⟨a, vs, rfl, hq, rns⟩ := lstX_at sr rv e
    rw [rels_ints rns] at hq
    exact cr_min hc pins s σ H _ us Q I r ⟨a, ns, rfl, hq, List.length_pos_iff.mpr hne, fun m h1 h2 => ansd (.int m) sr an (q m ⟨h1, h2⟩) rfl⟩
def cSum : WL := fun xs S Q => intsX S xs fun ns => Q (.int ns.sum) S
theorem dc_sum (hc : X.calm = true) : DC X (.builtin "sum") cSum := by
  intro pins s σ H xs us Q I r ⟨ds, S, Q0, sr, rs, q, an⟩
  obtain ⟨x, rfl, ns, e, q⟩ := one_of q
  obtain ⟨v, rfl, rv⟩ := rs.v1
  obtain ⟨a, vs, rfl, hq, rns⟩ := lstX_at sr rv e
  rw [rels_ints rns] at hq
  exact cr_sum hc pins s σ H _ us Q I r ⟨a, ns, rfl, hq, ansd (.int _) sr an q rfl⟩
def blsX (S : SO) (xs : List D) (k : List Bool → Prop) : Prop := one xs fun x => ∃ ns : List Bool, lstX S x = some (ns.map D.bl) ∧ k ns
def cAll : WL := fun xs S Q => blsX S xs fun ns => Q (.bl (ns.all id)) S
def cAny : WL := fun xs S Q => blsX S xs fun ns => Q (.bl (ns.any id)) S
theorem dc_all (hc : X.calm = true) : DC X (.builtin "all") cAll := by
  intro pins s σ H xs us Q I r ⟨ds, S, Q0, sr, rs, q, an⟩
  obtain ⟨x, rfl, ns, e, q⟩ := one_of q
  obtain ⟨v, rfl, rv⟩ := rs.v1
  obtain ⟨a, vs, rfl, hq, rns⟩ := lstX_at sr rv e
  rw [rels_bls rns] at hq
  exact cr_all hc pins s σ H _ us Q I r ⟨a, ns, rfl, hq, ansd (.bl _) sr an q rfl⟩
def cDivmod : WL := fun xs S Q => int2 xs fun i j => CDiv i j ∧ Q (.tup [.int (i / j), .int (i % j)]) S
theorem dc_divmod : DC X (.builtin "divmod") cDivmod := by
  intro pins s σ H xs us Q I r ⟨ds, S, Q0, sr, rs, q, an⟩
  obtain ⟨i, j, rfl, hc, q⟩ := int2_of q
  rw [rs.int2] at r
  refine call_divmod pins s σ H _ us Q I r ⟨i, j, rfl, hc, fun p hp => ?_⟩
  exact an _ _ _ _ q (nx_new hp) (sr.new hp) ⟨p, _, rfl, ⟨sr.free hp, upd_same⟩, .int (i / j), [.int (i % j)], rfl, rfl, .int (i % j), [], rfl, rfl, rfl⟩
/-! ### len, list, tuple -/
def lenD0 (S : SO) (d : D) (k : Nat → Prop) : Prop := match d with
  | .str z => z.length ≤ 1000000 ∧ k z.length
  | d => (∃ xs, seqX S d = some xs ∧ k xs.length) ∨ ∃ t kvs, dicX S d = some (t, kvs) ∧ k kvs.length
structure LenD (S : SO) (d : D) (k : Nat → Prop) : Prop where
  ex : lenD0 S d k
abbrev lenD (S : SO) (d : D) (k : Nat → Prop) : Prop := LenD S d k
theorem len_seq {S : SO} {d : D} {k : Nat → Prop} {xs : List D} (e : seqX S d = some xs) (h : k xs.length) : lenD S d k := by
  refine ⟨?_⟩
  cases d with
  | str z => cases e
  | _ => exact .inl ⟨xs, e, h⟩
theorem lenD_cases {S : SO} {d : D} {k : Nat → Prop} (h' : lenD S d k) : (∃ z, d = .str z ∧ z.length ≤ 1000000 ∧ k z.length) ∨ (∃ xs, seqX S d = some xs ∧ k xs.length) ∨ ∃ t kvs, dicX S d = some (t, kvs) ∧ k kvs.length := by
  have h := h'.ex
  cases d with
  | str z => exact .inl ⟨z, rfl, h⟩
  | _ => exact .inr h
def cLen : WL := fun xs S Q => one xs fun x => lenD S x fun n => Q (.int n) S
theorem dc_len : DC X (.builtin "len") cLen := by
  intro pins s σ H xs us Q I r ⟨ds, S, Q0, sr, rs, q, an⟩
  obtain ⟨x, rfl, q2⟩ := one_of q
  obtain ⟨v, rfl, rv⟩ := rs.v1
  rcases lenD_cases q2 with ⟨z, rfl, hz, q⟩ | ⟨ys, e, q⟩ | ⟨t, kvs, e, q⟩
  · have e : v = .str z := rv
    exact call_len pins s σ H _ us Q I r ⟨v, z.length, rfl, by rw [e]; exact ⟨le_line hz, rfl⟩, ansd (.int _) sr an q rfl⟩
  · obtain ⟨a, vs, rfl, hq, rns⟩ := seqX_at sr rv e
    exact call_len pins s σ H _ us Q I r ⟨.ref a, ys.length, rfl, hq.elim (fun h => .inl ⟨vs, h, rns.length⟩) fun h => .inr ⟨vs, h, rns.length⟩, ansd (.int _) sr an q rfl⟩
  · obtain ⟨a, rfl, da⟩ := dicX_at sr rv e
    rcases da with ⟨l, rfl, hl, rl⟩ | ⟨l, rfl, hl, rl⟩
    · obtain ⟨u, rfl, ru⟩ := vals1 r
      cases ru
      refine d_len I hl fun t s' I' => ⟨.int l.length, H, I', ⟨t, rfl⟩, ?_⟩
      rw [← rl.length]
      exact ansd (.int _) sr an q rfl
    · refine call_len_dT pins s σ H _ us Q I r ⟨a, l, rfl, hl, ?_⟩
      rw [← rl.length]
      exact ansd (.int _) sr an q rfl
/-- tuple(of a list), of a tuple -/
def cTuple : WL := fun xs S Q => one xs fun x => match x with
  | .tup ys => Q (.tup ys) S
  | x => ∃ ys, lstX S x = some ys ∧ Q (.tup ys) S
theorem dc_tuple : DC X (.type "tuple") cTuple := by
  intro pins s σ H xs us Q I r ⟨ds, S, Q0, sr, rs, q, an⟩
  obtain ⟨x, rfl, q⟩ := one_of q
  obtain ⟨v, rfl, rv⟩ := rs.v1
  have via : (∃ ys, lstX S x = some ys ∧ Q0 (.tup ys) S) → wpAny (model X.prog X.w) X.A (call (.type "tuple") us) (EP X pins σ Q) X.xe s := fun ⟨ys, e, q⟩ => by
    obtain ⟨a, vs, rfl, hq, rns⟩ := lstX_at sr rv e
    exact call_tuple_of pins s σ H _ us Q I r ⟨a, vs, rfl, .inl ⟨hq, fun p hp => an _ _ _ _ q (nx_new hp) (sr.new hp) ⟨p, _, rfl, ⟨sr.free hp, upd_same⟩, rns.nx (nx_new hp)⟩⟩⟩
  cases x with
  | tup ys =>
    obtain ⟨a, vs, rfl, t, rns⟩ := rv
    exact call_tuple_of pins s σ H _ us Q I r ⟨a, vs, rfl, .inr ⟨t.sq, ansd (.tup ys) sr an q ⟨a, vs, rfl, t, rns⟩⟩⟩
  | _ => exact via q

/-! ### methods -/
abbrev WM := D → List D → SO → KD → Prop
abbrev DM (X : Cx) (id : String) (w : WM) : Prop := MtR X id (liftM X.K w)
def tyD (T : String) (d : D) (S : SO) : Prop := match d with
  | .str _ => T = "str"
  | .int _ => T = "int"
  | .src _ => T = "list"
  | .dic _ _ => T = "dict"
  | .lst _ => T = "list"
  | .obj a => (T = "list" ∧ ∃ xs, S a = some (.lst xs)) ∨ (T = "dict" ∧ ∃ t kvs, S a = some (.dic t kvs))
  | _ => False
theorem tyD_at {T : String} {d : D} {S : SO} {K : PySem.W.Frag} {H : Hp} {v : V} (h : tyD T d S) (s : SRel K S H) (r : Rel K S H d v) : tyV K T v H := by
  have dc : ∀ {a : Addr} {t : Bool} {kvs : List (D × D)}, DicAt K S H a t kvs → tyV K "dict" (.ref a) H := fun h => by
    rcases h with ⟨l, _, hl, _⟩ | ⟨l, _, hl, _⟩
    · exact .inr (.inr (.inl ⟨rfl, .inl ⟨l, hl⟩⟩))
    · exact .inr (.inr (.inl ⟨rfl, .inr ⟨l, hl⟩⟩))
  cases d with
  | str z =>
    have e : v = .str z := r
    have h' : T = "str" := h
    rw [e, h']
    exact rfl
  | int z =>
    have e : v = .int z := r
    have h' : T = "int" := h
    rw [e, h']
    exact rfl
  | src xs =>
    have h' : T = "list" := h
    obtain ⟨a, vs, rfl, t, _⟩ := r
    exact .inl ⟨h', vs, t.sq⟩
  | lst xs =>
    have h' : T = "list" := h
    obtain ⟨a, vs, rfl, _, t, _⟩ := r
    exact .inl ⟨h', vs, .of t⟩
  | dic t kvs =>
    have h' : T = "dict" := h
    obtain ⟨a, rfl, _, da⟩ := r
    rw [h']
    exact dc da
  | obj a =>
    have e : v = .ref a := r
    rw [e]
    rcases h with ⟨h', xs, hx⟩ | ⟨h', t, kvs, hx⟩
    · obtain ⟨vs, hv, _⟩ := s a _ hx
      exact .inl ⟨h', vs, .of hv⟩
    · rw [h']
      exact dc (s a _ hx)
  | _ => exact False.elim h
def wBM (T : String) (w : WM) (wo : WE) (t : WA) : WE := fun sd S Q => wo sd S fun d S1 => tyD T d S1 ∧ t sd S1 fun xs S2 => w d xs S2 Q
section
variable {o e : Expr} {es : List Expr} {wo : WE} {t : WA} {name : Str} {apos cpos : Pos} {T id : String} {w : WM}
theorem bm_lift {σ : St} {H : Hp} {Q : VK} (h : lift X.K (wBM T w wo t) σ H Q) : tBM X.K T (liftM X.K w) (lift X.K wo) (liftA X.K t) σ H Q := by
  obtain ⟨sd, S, Q0, st, q, an⟩ := h
  exact ⟨sd, S, _, st, q, fun d S1 v H1 ⟨ty, q1⟩ n1 s1 r1 => ⟨tyD_at ty s1 r1, sd, S1, _, st.nx n1 s1, q1, fun xs S2 vs H2 q2 n2 s2 r2 => ⟨d, xs, S2, Q0, s2, Rel.nx n2 _ _ r1, r2, q2, an.nx (n1.trans n2)⟩⟩⟩
theorem de_bm (hm : DM X id w) (pa : PlainAttrs T) (slot : Slot T name id) (hty : typeOf (.builtin id) = pure (.type "method_descriptor")) (ho : DE X o wo) (ha : DA X (e :: es) t)
    (hbase : attributeBase o name X.env (eval o X.env) = eval o X.env := by rfl)
    (hfew : ((backTo cpos (starEach (e :: es) X.env)).all (fun x => !x.1) && (backToKw cpos (keywordEach [] X.env)).all (fun x => x.1.isSome)
      && decide ((e :: es).length + ([] : List Keyword).length + (if ([] : List Keyword).isEmpty then 0 else 1) < 30)) = true := by rfl)
    (hline : (apos.endLine == cpos.line) = true := by rfl) (hs : starEach (e :: es) X.env = (false, eval e X.env) :: starEach es X.env := by rfl) (hplain : (backTo cpos (starEach es X.env)).any (·.1) = false := by rfl) :
    DE X (.Call (.Attribute o name apos) (e :: es) [] cpos) (wBM T w wo t) := pe_imp (pe_bm pa slot hty hm ho ha hbase hfew hline hs hplain) fun σ H Q h => bm_lift h
end
def mAppend : WM := fun d xs S Q => one xs fun y => ∃ a ys, d = .obj a ∧ S a = some (.lst ys) ∧ ys.length < 1000000 ∧ Q .non (S.set a (.lst (ys ++ [y])))
theorem dm_append : DM X "list.append" mAppend := by
  intro pins s σ H x xs v us Q I rx rs ⟨d, ys, S, Q0, sr, r1, r2, q, an⟩
  obtain ⟨y, rfl, a, zs, rfl, hS, hl, q⟩ := one_of q
  have r1' : x = .ref a := r1
  obtain ⟨u, rfl, ru⟩ := r2.v1
  obtain ⟨vs, hv, rv⟩ := sr a _ hS
  have n2 : Nx S H (S.set a (.lst (zs ++ [y]))) (upd H a (.lst (vs ++ [u]))) := nx_put hS
  refine mt_append pins s σ H x _ v us Q I rx rs ⟨a, vs, u, r1', rfl, hv, by rw [← rv.length]; exact Nat.lt_of_lt_of_le hl (le_line (Nat.le_refl _)), ?_⟩
  exact an _ _ _ _ q n2 (srel_put sr n2 ⟨_, upd_same, (rv.app (.one ru)).nx n2⟩) rfl
/-! ### stores -/
abbrev WSet := D → D → D → SO → (SO → Prop) → Prop
def liftSet (K : PySem.W.Frag) (w : WSet) : TSet := fun o i v H Q => ∃ d k x S Q0, SRel K S H ∧ Rel K S H d o ∧ Rel K S H k i ∧ Rel K S H x v ∧ w d k x S Q0 ∧ ∀ S' H', Q0 S' → Nx S H S' H' → SRel K S' H' → Q H'
/-- l[i] = v, d[k] = v -/
def sSub : WSet := fun d k x S Q => ∃ a, d = .obj a ∧ ((∃ xs i j, S a = some (.lst xs) ∧ k = .int i ∧ ixN xs.length i = some j ∧ Q (S.set a (.lst (xs.set j x)))) ∨ (∃ t kvs, S a = some (.dic t kvs) ∧ keyOk t k ∧ kvs.length < 1000000 ∧ Q (S.set a (.dic t (dput kvs k x)))))
theorem Rels.set {K : PySem.W.Frag} {S : SO} {H : Hp} {d : D} {v : V} (hr : Rel K S H d v) : ∀ {ds : List D} {vs : List V} (j : Nat), Rels K S H ds vs → Rels K S H (ds.set j d) (vs.set j v)
  | [], _, j, h => by
    have e : _ = [] := h
    rw [e]
    exact rfl
  | d' :: ds, _, 0, h => by
    obtain ⟨u, r, rfl, h1, h2⟩ := h
    exact ⟨v, r, rfl, hr, h2⟩
  | d' :: ds, _, j + 1, h => by
    obtain ⟨u, r, rfl, h1, h2⟩ := h
    exact ⟨u, _, rfl, h1, h2.set hr j⟩
theorem pset_sub (hu : X.A.units + 65 < cLine) : PSet X (liftSet X.K sSub) := by
  intro pins s σ H o i v ov iv u Q I ro ri rv ⟨d, k, x, S, Q0, sr, r1, r2, r3, q, an⟩
  obtain ⟨a, rfl, q⟩ := q
  rcases q with ⟨xs, i', j, hS, rfl, hj, q⟩ | ⟨t, kvs, hS, ok, hl, q⟩
  · obtain ⟨vs, hv, rvs⟩ := sr a _ hS
    have n2 : Nx S H (S.set a (.lst (xs.set j x))) (upd H a (.lst (vs.set j v))) := nx_put hS
    exact set_list pins s σ H o i v ov iv u Q I ro ri rv ⟨a, vs, i', j, r1, r2, hv, by rw [← rvs.length]; exact hj, an _ _ q n2 (srel_put sr n2 ⟨_, upd_same, (rvs.set r3 j).nx n2⟩)⟩
  · have da : DicAt X.K S H a t kvs := sr a _ hS
    obtain ⟨ob, g, hd⟩ := da.put r2 ok r3 hl
    have n2 : Nx S H (S.set a (.dic t (dput kvs k x))) (upd H a ob) := nx_put hS
    exact set_dict (by omega) pins s σ H o i v ov iv u Q I ro ri rv ⟨a, _, r1, g, an _ _ q n2 (srel_put sr n2 (hd _ _ n2 upd_same))⟩
/-- o[i] as a target -/
def gSubD (wo wi : WE) (w : WSet) : WG := fun v sd S Q => wo sd S fun d S1 => wi sd S1 fun k S2 => w d k v S2 fun S3 => Q sd S3
theorem dg_sub {o i : Expr} {wo wi : WE} {w : WSet} {pos : Pos} (hw : PSet X (liftSet X.K w)) (ho : DE X o wo) (hi : DE X i wi)
    (ha : ∀ v, assign (.Subscript o i pos) X.env v = (do
      let ov ← holding [v] (eval o X.env)
      let iv ← holding [v, ov] (eval i X.env)
      standAt pos
      holding [v, ov, iv] (setItem ov iv v)
      release [v, ov, iv] []) := by intro _; rfl) : DG X (.Subscript o i pos) (gSubD wo wi w) :=
  pg_imp (pg_sub ho hi hw ha) fun v σ H Q ⟨x, sd, S, Q0, st, r, q, an⟩ => ⟨sd, S, _, st, q, fun d S1 u H1 q1 n1 s1 r1 => ⟨sd, S1, _, st.nx n1 s1, q1, fun k S2 w' H2 q2 n2 s2 r2 =>
    ⟨d, k, x, S2, _, s2, Rel.nx n2 _ _ r1, r2, Rel.nx (n1.trans n2) _ _ r, q2, fun S3 H3 q3 n3 s3 => an _ _ _ _ q3 (n1.trans (n2.trans n3)) (st.nx (n1.trans (n2.trans n3)) s3)⟩⟩⟩
theorem ds_sub {o i value : Expr} {we wo wi : WE} {pos pos' : Pos} (hu : X.A.units + 65 < cLine) (ho : DE X o wo) (hi : DE X i wi) (hv : DE X value we) (hs : swapsWithSole [.Subscript o i pos'] value pos.line X.env = pure false := by rfl) (hw : swappedStores [.Subscript o i pos'] value X.env = pure none := by rfl)
    (h1 : (assignEach [.Subscript o i pos'] X.env).map (·.2) = [assign (.Subscript o i pos') X.env] := by rfl)
    (ha : ∀ v, assign (.Subscript o i pos') X.env v = (do
      let ov ← holding [v] (eval o X.env)
      let iv ← holding [v, ov] (eval i X.env)
      standAt pos'
      holding [v, ov, iv] (setItem ov iv v)
      release [v, ov, iv] []) := by intro _; rfl) : DS X (.Assign [.Subscript o i pos'] value pos) (wAsg we (gSubD wo wi sSub)) := ds_asg hv (dg_sub (pset_sub hu) ho hi ha) hs hw h1
/-- {} -/
def wDnew (t : Bool) : WE := fun sd S Q => ∀ p, S p = none → Q (.obj p) (S.set p (.dic t []))
theorem de_dnewT {pos : Pos} : DE X (.Dict [] [] pos) (wDnew true) := pe_imp pe_dnewT fun σ H Q ⟨sd, S, Q0, st, q, an⟩ p hp => by
  have n2 : Nx S H (S.set p (.dic true [])) (upd H p (.dT [])) := nx_obj hp (st.s.free hp)
  exact an _ _ _ _ (q p (st.s.free hp)) n2 (srel_put st.s n2 (.inr ⟨[], rfl, upd_same, rfl⟩)) rfl
/-- a, b = x, y with plain local names -/
def wPar (i j : Nat) (t : WA) : WS := fun E sd S => t sd S fun xs S1 => two2 xs fun x y => E.nx ((sd.set i (some x)).set j (some y)) S1
theorem ds_par {i j : Nat} {x y : Str} {a b : Expr} {t : WA} {px py pt pos pt2 : Pos} {kt k2 : Nat} (hc : X.calm = true) (hN : X.N.Nodup) (ha : DA X [a, b] t) (hi : X.N[i]? = some x := by rfl) (hj : X.N[j]? = some y := by rfl) (hij : i ≠ j := by decide)
    (hx : X.env.scope.names.lookup x = some .local := by rfl) (hy : X.env.scope.names.lookup y = some .local := by rfl) (hw : swappedStores [.Tuple [.Name x px, .Name y py] kt pt] (.Tuple [a, b] k2 pt2) X.env = pure (some [x, y]) := by rfl)
    (hs : swapsWithSole [.Tuple [.Name x px, .Name y py] kt pt] (.Tuple [a, b] k2 pt2) pos.line X.env = pure false := by rfl) : DS X (.Assign [.Tuple [.Name x px, .Name y py] kt pt] (.Tuple [a, b] k2 pt2) pos) (wPar i j t) :=
  ps_imp (ps_par hc hN hi hj hij hx hy ha hw hs) fun E σ H ⟨sd, S, E0, st, q, an⟩ => ⟨sd, S, _, st, q, fun xs S1 vs H1 q1 n1 s1 r1 => by
    obtain ⟨u, v, rfl, q1⟩ := two2_of q1
    obtain ⟨vu, vv, rfl, ru, rv⟩ := r1.two
    exact ⟨vu, vv, rfl, an.nx _ _ _ _ q1 n1 (((st.nx n1 s1).set i ru).set j rv)⟩⟩
def three (xs : List D) (k : D → D → D → Prop) : Prop := match xs with
  | [x, y, z] => k x y z
  | _ => False
def wPar3 (i j k : Nat) (t : WA) : WS := fun E sd S => t sd S fun xs S1 => three xs fun x y z => E.nx (((sd.set i (some x)).set j (some y)).set k (some z)) S1
end
end L2.DL

/-! DL10: enumerate over lists and tuples -/
namespace L2.DL
open PySem PySem.Spec PyProof.Rows

theorem meets_enum_tup (l : Addr) (items : Array Value) :
    Meets (Builtin.«enumerate.__new__» ⟨[.type "enumerate", .ref l], []⟩) (fun _ R s => s.heap.IsTuple l items ∧
      R (.ok (.ret (.ref (s.heap.push { cls := .type "tuple_iterator", data := .fields #[.ref l, .int 0 0] }).objs.size)))
        { s with heap := (s.heap.push { cls := .type "tuple_iterator", data := .fields #[.ref l, .int 0 0] }).push { cls := .type "enumerate", data := .fields #[.none, .bool false, .ref s.heap.objs.size, rawInt 0, .none, .none] } }) :=
  .of_wp fun prog w A R s h => by
    obtain ⟨hp, g, d, tk, os⟩ := s; obtain ⟨hL, h⟩ := h
    have hsub := sub_enumerate
    wp_walk using wpAny_pyIter_tuple hL
    refine wpAny_stack_any fun st => wpAny_pure ?_
    split
    · rename_i c _ _ _ _ _
      cases (c == Value.type "enumerate")
      · wp_walk using wpAny_pyIter_tuple hL
        exact ⟨_, rfl, h⟩
      · wp_walk using wpAny_pyIter_tuple hL
        exact ⟨_, rfl, h⟩
    · wp_walk using wpAny_pyIter_tuple hL
      exact ⟨_, rfl, h⟩
theorem call_enum_tup {prog : Program} {w : World} {A : Around} {E : Value → Shared → Prop} {s : Shared} {l : Addr} {items : Array Value} {Q : Value → Shared → Prop} (hL : s.heap.IsTuple l items)
    (h : ∀ h', IsEnum h' (s.heap.objs.size + 1) s.heap.objs.size 0 .none → h'.IsTupleIter s.heap.objs.size l 0 → h'.objs.size = s.heap.objs.size + 2 →
      (∀ b o, s.heap.get? b = some o → h'.get? b = some o) → Q (.ref (s.heap.objs.size + 1)) { s with heap := h' }) :
    wpAny (model prog w) A (call (.type "enumerate") [.ref l]) Q E s := by
  refine callType_new F.called_enumerate (by decide) (F.typeCall_enumerate_1 _) (F.newCall_enumerate_1 _) (fun obj => F.args_object_init_2 obj _) F.entry_enumerate_new
    (meets_enum_tup l items) ⟨hL, ?_⟩
  have hz : (s.heap.push { cls := .type "tuple_iterator", data := .fields #[.ref l, .int 0 0] }).objs.size = s.heap.objs.size + 1 := Heap.size_push ..
  show _ ∧ _
  rw [hz]
  have he : IsEnum ((s.heap.push { cls := .type "tuple_iterator", data := .fields #[.ref l, .int 0 0] }).push
      { cls := .type "enumerate", data := .fields #[.none, .bool false, .ref s.heap.objs.size, rawInt 0, .none, .none] }) (s.heap.objs.size + 1) s.heap.objs.size 0 .none := by
    have := Heap.get?_push_size (s.heap.push { cls := .type "tuple_iterator", data := .fields #[.ref l, .int 0 0] })
      (o := { cls := .type "enumerate", data := .fields #[.none, .bool false, .ref s.heap.objs.size, rawInt 0, .none, .none] }) rfl
    rw [hz] at this; exact this
  refine ⟨⟨_, he, rfl⟩, h _ he ⟨_, Heap.get?_push_of_some _ (Heap.get?_push_size _ rfl), rfl, rfl⟩ (by rw [Heap.size_push, hz]) fun b o x => Heap.get?_push_of_some _ (Heap.get?_push_of_some _ x)⟩
def IteT (K : PySem.W.Frag) (a : Addr) : It :=
  ⟨fun i H => ∃ (xs : List V) (x : V), SqT K H a xs ∧ xs[i]? = some x, fun i H v H' => ∃ T x, v = .ref T ∧ H T = none ∧ H' = upd H T (.tup [.int (i : Nat), x]) ∧ ∀ xs, SqT K H a xs → xs[i]? = some x, fun i H => ∃ xs : List V, SqT K H a xs ∧ xs.length = i⟩
theorem tup_ne {h : Heap} {a it : Addr} {items : Array Value} {i : Nat} (ht : h.IsTuple a items) (hi : h.IsTupleIter it a i) : a ≠ it := fun e => by
  obtain ⟨o, ho, hc, _⟩ := ht
  obtain ⟨o', ho', hc', _⟩ := hi
  rw [e, ho'] at ho
  cases ho
  rw [hc'] at hc
  exact absurd hc (by decide +kernel)
theorem turn_enumT {P : Program} {w : World} {K : PySem.W.Frag} {elts : List Expr} {kk : Nat} {tpos : Pos} (a e it : Addr) :
    Turn P w K (.Tuple elts kk tpos) (IteT K a) [e, it] e (fun i h => (∃ old, IsEnum h e it ((i : Nat) : Int) old) ∧ h.IsTupleIter it a i ∧ e ≠ it) where
  mem := by simp
  obj := fun i h st b hb => by
    obtain ⟨⟨old, he⟩, ⟨o, ho, hc, hd⟩, _⟩ := st
    have e' : b = e ∨ b = it := by simpa using hb
    rcases e' with z | z
    · rw [z]; exact ⟨_, he, fun v q => nomatch q⟩
    · rw [z]; exact ⟨o, ho, fun v q => by rw [hd] at q; cases q⟩
  keep := fun i h h' st k => let ⟨⟨old, he⟩, hi, hne⟩ := st; ⟨⟨old, k e (by simp) _ he⟩, hi.at fun o q => k it (by simp) o q, hne⟩
  item := by
    intro X hP hw hK hc i pins s σ H E I hf st hg
    subst hP hw hK
    obtain ⟨⟨old, he⟩, hit, hne⟩ := st
    obtain ⟨xs, x, hq, hx⟩ := hg
    obtain ⟨its, rv, p, hz⟩ := I.tuple hq
    obtain ⟨u, hu, ru⟩ := rv.get hx
    have p' : s.heap.IsTuple a its.toArray := p
    have hai := tup_ne p' hit
    have hae : e ∉ [it, a] := fun hm => by
      rcases List.mem_cons.mp hm with q | q
      · exact hne q
      · have q' := List.mem_singleton.mp q
        obtain ⟨o, ho, hco, _⟩ := p'
        rw [← q', he] at ho
        cases ho
        exact absurd (show Value.type "enumerate" = Value.type "tuple" from hco) (by decide +kernel)
    have hel : e < s.heap.objs.size := Heap.lt_size he
    have hil : it < s.heap.objs.size := by obtain ⟨_, q, _⟩ := hit; exact Heap.lt_size q
    have hlt : i < its.toArray.size := by
      have := (List.getElem?_eq_some_iff.mp hu).1
      simpa using this
    refine wpAny_pyNext_enum_itemC (Draws.tuple (prog := X.prog) (w := X.w) (A := X.A.in1) (I.ok.hd hc) it a hai its.toArray) he ⟨hit, p'⟩ hlt hne hae fun x' h' tk hx' ho hit' hT hsz hk => ?_
    have ex : x' = u := by
      have h1 : its.toArray[i]? = some x' := hx'
      have h2 : its.toArray[i]? = some u := by simpa using hu
      rw [h1] at h2
      exact Option.some.inj h2
    subst ex
    refine ⟨_, rfl, wpAny_letOwnedTupleGo_enum (s := { s with heap := h', toks := tk + 1 }) ho fun h'' he' sb => ?_⟩
    have hT2 : h''.get? s.heap.objs.size = some { cls := .type "tuple", data := .seq #[.int i tk, x'] } := (sb.2 _ (Nat.ne_of_gt hel)).trans hT
    have new : ObjOk X.prog X.w (upd H s.heap.objs.size (.tup [.int (i : Nat), x])) h'' s.heap.objs.size (.tup [.int (i : Nat), x]) :=
      ⟨by show 2 ≤ sizeLine; decide, [.int i tk, x'], .cons ⟨_, rfl⟩ (.cons ru .nil), ⟨_, hT2, rfl, _, rfl⟩⟩
    have I1 : Inv X pins σ (upd H s.heap.objs.size (.tup [.int (i : Nat), x])) { s with heap := h'', toks := tk + 1 } :=
      I.turnedNew (ch := [e, it]) (fun b ob hb q => (sb.2 b (fun z => hb (by simp [z]))).trans (hk b ob (fun z => hb (by simp [z])) (fun z => hb (by simp [z])) q)) hf (Nat.le_refl _) new
    refine ⟨.ref s.heap.objs.size, _, I1, rfl, ⟨_, x, rfl, I.hok.fresh (Nat.le_refl _), rfl, fun ys hy => by rw [I.tuple_inj hy hq]; exact hx⟩, ⟨⟨x', ?_⟩, hit'.1.at fun o q => (sb.2 it (Ne.symm hne)).trans q, hne⟩, fun b hb => ?_⟩
    · have e1 : ((i + 1 : Nat) : Int) = (i : Int) + 1 := by omega
      rw [e1]; exact he'
    · have hb' : b < s.heap.objs.size := by
        have e' : b = e ∨ b = it := by simpa using hb
        rcases e' with z | z
        · rw [z]; exact hel
        · rw [z]; exact hil
      rw [upd_ne (Nat.ne_of_lt hb')]
      exact (hf b hb).1
  done := by
    intro X hP hw hK hc i pins s σ H E I hf st hg
    subst hP hw hK
    obtain ⟨⟨old, he⟩, hit, hne⟩ := st
    obtain ⟨xs, hq, hx⟩ := hg
    obtain ⟨its, rv, p, hz⟩ := I.tuple hq
    have p' : s.heap.IsTuple a its.toArray := p
    obtain ⟨f0, f1, f2, f3, f4, f5⟩ := hf it (by simp)
    have hl := rv.length
    have hn : its.toArray.size = i := by rw [List.size_toArray, ← hl]; exact hx
    subst hn
    exact wpAny_pyNext_enum_endD (Draws.tuple (prog := X.prog) (w := X.w) (A := X.A.in1) (I.ok.hd hc) it a (tup_ne p' hit) its.toArray) he ⟨hit, p'⟩ fun h' eb => ⟨rfl, I.turned (t' := s.toks) (fun b o hb q => eb b o hb q) f0 f1 f3 f4 f5⟩
  self := fun A i s Q E st h => let ⟨⟨_, he⟩, _⟩ := st; wpAny_pyIter_enum he h
/-- enumerate(x) of a list or a tuple -/
def iEnumA (K : PySem.W.Frag) (ta : TA) : TI := fun σ H R => ta σ H fun vs H1 => ∃ a xs, vs = [.ref a] ∧ ((SqL K H1 a xs ∧ R (Ite K a) H1) ∨ (SqT K H1 a xs ∧ R (IteT K a) H1))
theorem pi_enumA {X : Cx} {e : Expr} {ta : TA} {p pos tpos : Pos} {elts : List Expr} {kk : Nat} (hg : Gl X "enumerate") (hm : X.mg "enumerate" = none) (ha : PA X [e] ta) (hs : starEach [e] X.env = [(false, eval e X.env)] := by rfl) :
    PI X (.Tuple elts kk tpos) (.Call (.Name "enumerate" p) [e] [] pos) (iEnumA X.K ta) := by
  refine ⟨fun pins s σ H R I h => ?_⟩
  refine Call_ (ld_blt I hg hm boot_enumerate (PyProof.Rows.callWith_type1 (thn (ha.run pos pins s σ H _ I h) fun us s1 ⟨vs, H1, I1, r1, q1⟩ => ?_) hs rfl))
  obtain ⟨a, xs, ex, q⟩ := q1
  subst ex
  cases r1 with
  | cons r rr =>
    cases rr
    cases r
    have fresh : ∀ b, b ∈ [s1.heap.objs.size + 1, s1.heap.objs.size] → FpOk X pins H1 b := fun b hb => by
      have e' : b = s1.heap.objs.size + 1 ∨ b = s1.heap.objs.size := by simpa using hb
      have hle : s1.heap.objs.size ≤ b := by
        rcases e' with z | z
        · rw [z]; exact Nat.le_add_right _ _
        · rw [z]; exact Nat.le_refl _
      exact I1.fpOk hle (I1.hok.fresh hle)
    rcases q with ⟨hq, q⟩ | ⟨hq, q⟩
    · obtain ⟨its, rv, p', hz⟩ := I1.list hq
      refine call_enumerate_list p'.isList fun h' he hit hsz hk => wpAny_pyIter_enum he ?_
      have I2 : Inv X pins σ H1 { s1 with heap := h' } := I1.kept (t' := s1.toks) hk
      exact ⟨s1.heap.objs.size + 1, [s1.heap.objs.size + 1, s1.heap.objs.size], _, _, H1, rfl, I2, turn_enum a (s1.heap.objs.size + 1) s1.heap.objs.size, ⟨⟨.none, he⟩, hit, Nat.succ_ne_self _⟩, fresh, q⟩
    · obtain ⟨its, rv, p', hz⟩ := I1.tuple hq
      refine call_enum_tup (show s1.heap.IsTuple a its.toArray from p') fun h' he hit hsz hk => wpAny_pyIter_enum he ?_
      have I2 : Inv X pins σ H1 { s1 with heap := h' } := I1.kept (t' := s1.toks) hk
      exact ⟨s1.heap.objs.size + 1, [s1.heap.objs.size + 1, s1.heap.objs.size], _, _, H1, rfl, I2, turn_enumT a (s1.heap.objs.size + 1) s1.heap.objs.size, ⟨⟨.none, he⟩, hit, Nat.succ_ne_self _⟩, fresh, q⟩
def enumD (xs : List D) : List D := xs.mapIdx fun i d => .tup [.int (i : Nat), d]
theorem enumD_eq (xs : List D) : enumD xs = xs.mapIdx fun i d => .tup [.int (i : Nat), d] := rfl
theorem enumD_len (xs : List D) : (enumD xs).length = xs.length := by rw [enumD_eq, List.length_mapIdx]
theorem enumD_get {xs : List D} {i : Nat} {d : D} (h : (enumD xs)[i]? = some d) : ∃ x, xs[i]? = some x ∧ d = .tup [.int (i : Nat), x] := by
  rw [enumD_eq, List.getElem?_mapIdx] at h
  obtain ⟨x, hx, rfl⟩ := Option.map_eq_some_iff.mp h
  exact ⟨x, hx, rfl⟩
def wEnum (t : WA) : WI := fun sd S R => t sd S fun xs S1 => one xs fun d => seqD d S1 fun ys ok => R ⟨enumD ys, ok⟩ S1
theorem new_pair {K : PySem.W.Frag} {S : SO} {H : Hp} {T : Addr} {i : Int} {x : V} {d : D} (s : SRel K S H) (hT : H T = none) (r : Rel K S H d x) : Nx S H S (upd H T (.tup [.int i, x])) ∧ SRel K S (upd H T (.tup [.int i, x])) ∧ Rel K S (upd H T (.tup [.int i, x])) (.tup [.int i, d]) (.ref T) :=
  ⟨nx_new hT, s.new hT, T, _, rfl, ⟨s.free hT, upd_same⟩, .int i, [x], rfl, rfl, x, [], rfl, Rel.nx (nx_new hT) _ _ r, rfl⟩
theorem jrel_enumL {K : PySem.W.Frag} {S0 : SO} {H0 : Hp} {a : Addr} {xs : List D} {ok : SO → Prop} (h : ∀ S H, Nx S0 H0 S H → SRel K S H → ok S → ∃ vs, SqL K H a vs ∧ Rels K S H xs vs) : JRel K S0 H0 ⟨enumD xs, ok⟩ (Ite K a) where
  go := fun i S H n s o hi => by
    obtain ⟨vs, q, r⟩ := h S H n s o
    have hi' : i < xs.length := by rw [← enumD_len xs]; exact hi
    obtain ⟨v, hv, _⟩ := r.get (List.getElem?_eq_getElem hi')
    exact ⟨vs, v, q, hv⟩
  stop := fun i S H n s o hi => by
    obtain ⟨vs, q, r⟩ := h S H n s o
    exact ⟨vs, q, by rw [← r.length, ← enumD_len xs]; exact Nat.le_of_eq hi.symm⟩
  yld := fun i S H x H' d n s o hi y => by
    obtain ⟨vs, q, r⟩ := h S H n s o
    obtain ⟨T, x', rfl, hT, rfl, y⟩ := y
    obtain ⟨dx, hd, rfl⟩ := enumD_get hi
    obtain ⟨v, hv, rv⟩ := r.get hd
    have e := y vs q
    rw [hv] at e
    cases e
    exact new_pair s hT rv
theorem jrel_enumT {K : PySem.W.Frag} {S0 : SO} {H0 : Hp} {a : Addr} {xs : List D} {ok : SO → Prop} (h : ∀ S H, Nx S0 H0 S H → SRel K S H → ok S → ∃ vs, SqT K H a vs ∧ Rels K S H xs vs) : JRel K S0 H0 ⟨enumD xs, ok⟩ (IteT K a) where
  go := fun i S H n s o hi => by
    obtain ⟨vs, q, r⟩ := h S H n s o
    have hi' : i < xs.length := by rw [← enumD_len xs]; exact hi
    obtain ⟨v, hv, _⟩ := r.get (List.getElem?_eq_getElem hi')
    exact ⟨vs, v, q, hv⟩
  stop := fun i S H n s o hi => by
    obtain ⟨vs, q, r⟩ := h S H n s o
    exact ⟨vs, q, by rw [← r.length, ← enumD_len xs]; exact hi.symm⟩
  yld := fun i S H x H' d n s o hi y => by
    obtain ⟨vs, q, r⟩ := h S H n s o
    obtain ⟨T, x', rfl, hT, rfl, y⟩ := y
    obtain ⟨dx, hd, rfl⟩ := enumD_get hi
    obtain ⟨v, hv, rv⟩ := r.get hd
    have e := y vs q
    rw [hv] at e
    cases e
    exact new_pair s hT rv
theorem di_enum {X : Cx} {e : Expr} {t : WA} {p pos tpos : Pos} {elts : List Expr} {kk : Nat} (hm : X.mg "enumerate" = none) (ha : DA X [e] t) (hg : Gl X "enumerate" := by rfl) (hs : starEach [e] X.env = [(false, eval e X.env)] := by rfl) :
    DI X (.Tuple elts kk tpos) (.Call (.Name "enumerate" p) [e] [] pos) (wEnum t) := by
  refine pi_imp (pi_enumA hg hm ha hs) fun σ H R ⟨sd, S, R0, st, q, an⟩ => ⟨sd, S, _, st, q, fun xs S1 vs H1 q1 n1 s1 r1 => ?_⟩
  obtain ⟨d, rfl, q1⟩ := one_of q1
  obtain ⟨v, rfl, rv⟩ := r1.v1
  cases d with
  | lst xs =>
    obtain ⟨a, vs, rfl, t, hv, r⟩ := rv
    exact ⟨a, vs, rfl, .inl ⟨.of hv, an _ _ _ _ q1 n1 s1 (jrel_enumL fun S2 H2 n2 s2 _ => ⟨vs, .of (n2 a _ t hv).2, r.nx n2⟩)⟩⟩
  | src xs =>
    obtain ⟨a, vs, rfl, t, r⟩ := rv
    exact ⟨a, vs, rfl, .inl ⟨t.sq, an _ _ _ _ q1 n1 s1 (jrel_enumL fun S2 H2 n2 s2 _ => ⟨vs, (t.nx n2).sq, r.nx n2⟩)⟩⟩
  | tup xs =>
    obtain ⟨a, vs, rfl, t, r⟩ := rv
    exact ⟨a, vs, rfl, .inr ⟨t.sq, an _ _ _ _ q1 n1 s1 (jrel_enumT fun S2 H2 n2 s2 _ => ⟨vs, (t.nx n2).sq, r.nx n2⟩)⟩⟩
  | tf xs =>
    obtain ⟨a, vs, rfl, t, r⟩ := rv
    exact ⟨a, vs, rfl, .inr ⟨t.sq, an _ _ _ _ q1 n1 s1 (jrel_enumT fun S2 H2 n2 s2 _ => ⟨vs, (t.nx n2).sq, r.nx n2⟩)⟩⟩
  | kt xs =>
    obtain ⟨a, vs, rfl, t, r⟩ := rv
    exact ⟨a, vs, rfl, .inr ⟨t.sq, an _ _ _ _ q1 n1 s1 (jrel_enumT fun S2 H2 n2 s2 _ => ⟨vs, t.sq, r.nx n2⟩)⟩⟩
  | obj a =>
    obtain ⟨xs, hx, q1⟩ := q1
    have e : v = .ref a := rv
    subst e
    obtain ⟨vs, hq, r⟩ := SqL.uniq hx s1
    exact ⟨a, vs, rfl, .inl ⟨hq, an _ _ _ _ q1 n1 s1 (jrel_enumL fun S2 H2 n2 s2 o => SqL.uniq o s2)⟩⟩
  | _ => exact False.elim q1
end L2.DL

/-! DL11: dict comprehensions whose keys are ints and texts, or tuples of these -/
namespace L2.DL
open PySem PySem.Spec PyProof.Rows

/-- the empty dict of that kind -/
def ob0 : Bool → HO
  | true => .dT []
  | false => .dK []
theorem ob0_ok {P : Program} {w : World} {H : Hp} (t : Bool) (h : Heap) (hb : sysModules < h.objs.size) : ObjOk P w H (h.push { cls := .type "dict", data := .dict #[] }) h.objs.size (ob0 t) := by
  cases t with
  | true => exact dt_empty h hb
  | false => exact dk_empty h hb
theorem d_dictPut {X : Cx} {pins : List (Addr × Obj)} {σ : St} {H H' : Hp} {s : Shared} {E : Value → Shared → Prop} {a : Addr} {y v : V} {u r : Value} {Q : Unit → Shared → Prop} (hu : X.A.units + 65 < cLine) (I : Inv X pins σ H s) (g : DPut H a y v H') (ry : RelV y u) (rv : RelV v r)
    (h : ∀ s', Inv X pins σ H' s' → Q () s') : wpAny (model X.prog X.w) X.A (dictSet a u r) Q E s := by
  rcases g with ⟨kvs, k, e, rfl, l, rfl⟩ | ⟨kvs, k, b, e, rfl, eb, l, rfl⟩
  · exact d_dictSet I e l ry rv h
  · obtain rfl : u = Value.ref b := ry
    obtain ⟨z, hd, xs, rel, dd⟩ := dt_of I.hok e
    have lx := Paired.length rel
    have lp := length_putK kvs k v
    refine wpAny_dictSet_heap (hsz := by omega) (show X.A.units < cLine by omega) (key_of I.hok eb) dd fun h' dd' hs => h _ ?_
    obtain ⟨q, es, ep, hq, h2, h3, h4, _, h5⟩ := dd'
    refine d_write I (by rw [e]; trivial) hs ⟨q, hq⟩ ⟨by omega, hd, _, (rel.put k eb rv).keeps fun c ys ec => ?_, q, es, ep, hq, h2, h3, h4, h5⟩
    exact (upd_ne (ne_of ec e (fun z => nomatch z))).trans ec
/-- the comprehension's reading: D the new dict -/
def tDcG (t : Bool) (wi : TI) (g : TG) (tt : TT) (tk tv : TE) (vs : List Nat) : TE := fun σ H Q => wi σ H fun J H1 => ∀ D, H1 D = none → ∃ W : Nat → Nat → Hp → Prop, (∃ m, W 0 m (upd H1 D (ob0 t))) ∧ ∀ i m H, W i m H →
  (J.stop i H ∧ Q (.ref D) H) ∨ (J.go i H ∧ ∃ N : Hp → Prop, (∀ H', N H' → ∃ m', m' < m ∧ W (i + 1) m' H') ∧ ∀ x H', J.yld i H x H' → g x (wipe σ vs) H' fun σ2 H2 => wipe σ2 vs = wipe σ vs ∧ tt σ2 H2 fun b H3 =>
    if b = true then tk σ2 H3 fun y H4 => tv σ2 H4 fun z H5 => ∃ H6, DPut H5 D y z H6 ∧ N H6 else N H3)
section
variable {X : Cx}
theorem dcG_core {t : Bool} {pins : List (Addr × Obj)} {s : Shared} {σ : St} {H : Hp} {Q : VK} {kx vx tg iter : Expr} {ifs : List Expr} {scope : Scope} {own : List (Str × Nat)} {pos pos' : Pos} {wi : TI} {g : TG} {tt : TT} {tk tv : TE} {use : Option (Value → Sem Unit)} {Qf : Value → Shared → Prop}
    (hu : X.A.units + 65 < cLine) (hc : X.calm = true) (hN : X.N.Nodup) (I : Inv X pins σ H s) (hi : PI X tg iter wi) (ok : BlkOk X.N X.env.scope scope own) (hg : Blk X scope fun Y => PG Y tg g) (ht : Blk X scope fun Y => PTs Y ifs tt) (hk : Blk X scope fun Y => PE Y kx tk) (he : Blk X scope fun Y => PE Y vx tv)
    (hs : ∀ x, foldedSetIterable iter X.env x = pure x) (h : tDcG t wi g tt tk tv (own.map (·.2)) σ H Q)
    (hRR : ∀ D C s' m H', Inv X pins σ H' s' → Q (.ref D) H' → s'.heap.Ns C m → FpOk X pins H' C → compPost (model X.prog X.w) X.A X.xe use Qf (.ref D) C (.ok .next) s') :
    wpAny (model X.prog X.w) X.A (comprehension (.DictComp kx vx [⟨tg, iter, ifs, 0⟩] scope pos) scope X.env pos' newDict false (eval iter X.env) use) Qf X.xe s := by
  have frees : ∀ y ∈ scope.names, y.2 = .free → ∃ c, X.env.cells.lookup y.1 = some c := fun y hy e => (ok.free y hy e).elim (fun k => I.ok.has _ (.inl k)) fun k => I.ok.has _ (.inr k)
  refine wpAny_comprehension_free (use := use) rfl hs (closure_ok frees) ok.kind (fun y hy e => by rw [ok.uniq y hy, e])
    (thn (hi.run pins s σ H _ I h) fun xv s1 hx => thn hx fun itv s2 h2 => ?_)
  obtain ⟨it, fp, tn, J, H2, e, I2, T, st2, f2, q⟩ := h2
  subst e
  refine wpAny_newObj_type (newEnv_comp ?_)
  generalize hD : s2.heap.objs.size = D
  obtain ⟨W, ⟨m0, w0⟩, turn⟩ := q D (I2.hok.fresh (Nat.le_of_eq hD))
  generalize hs3 : ({ s2 with heap := s2.heap.push { cls := .type "dict", data := .dict #[] } } : Shared) = s3
  have h3 : s3.heap = s2.heap.push { cls := .type "dict", data := .dict #[] } := by rw [← hs3]
  have I3 : Inv X pins σ (upd H2 D (ob0 t)) s3 := by
    subst hs3 hD
    exact I2.laid (t' := s2.toks) (fun b o e => Heap.get?_push_of_some _ e) (Nat.le_refl _) (ob0_ok t s2.heap I2.big)
  have old : ∀ b ∈ fp, b < s2.heap.objs.size := fun b hb => let ⟨o, e, _⟩ := T.obj _ _ st2 b hb; Heap.lt_size e
  have f3 : ∀ b ∈ fp, FpOk X pins (upd H2 D (ob0 t)) b ∧ b < s3.heap.objs.size := fun b hb =>
    ⟨⟨(upd_ne (by rw [← hD]; exact Nat.ne_of_lt (old b hb))).trans (f2 b hb).1, (f2 b hb).2⟩, by rw [h3, Heap.size_push]; exact Nat.lt_succ_of_lt (old b hb)⟩
  have st3 : tn 0 s3.heap := T.keep _ _ _ st2 fun b _ o e => h3 ▸ Heap.get?_push_of_some _ e
  have I4 := block_start I3 ok hN f3
  show codeAny _ _ (.compStart (.DictComp kx vx [⟨tg, iter, ifs, 0⟩] scope pos) 0 (.ref it) (.ref D) (compEnvC scope (cellsFrom (s3.heap.objs.size + 1) scope.names (cloFrom X.env.cells scope.names [])) s3.heap.objs.size X.env)) (compPost (model X.prog X.w) X.A X.xe use Qf (.ref D) s3.heap.objs.size) { s3 with heap := pushCells (s3.heap.push { cls := .type "dict", data := .dict #[] }) scope.names }
  have pg := hg s3 (upd H2 D (ob0 t)) s3.heap.objs.size (cellsFrom (s3.heap.objs.size + 1) scope.names (cloFrom X.env.cells scope.names [])) fp
  have pt := ht s3 (upd H2 D (ob0 t)) s3.heap.objs.size (cellsFrom (s3.heap.objs.size + 1) scope.names (cloFrom X.env.cells scope.names [])) fp
  have pk := hk s3 (upd H2 D (ob0 t)) s3.heap.objs.size (cellsFrom (s3.heap.objs.size + 1) scope.names (cloFrom X.env.cells scope.names [])) fp
  have pe := he s3 (upd H2 D (ob0 t)) s3.heap.objs.size (cellsFrom (s3.heap.objs.size + 1) scope.names (cloFrom X.env.cells scope.names [])) fp
  generalize hce : compEnvC scope (cellsFrom (s3.heap.objs.size + 1) scope.names (cloFrom X.env.cells scope.names [])) s3.heap.objs.size X.env = ce at I4 pg pt pk pe ⊢
  have cL : ce.locals = s3.heap.objs.size := by rw [← hce]; rfl
  generalize hH3 : upd H2 D (ob0 t) = H3 at I3 I4 pg pt pk pe w0 f3
  generalize hs4 : ({ s3 with heap := pushCells (s3.heap.push { cls := .type "dict", data := .dict #[] }) scope.names } : Shared) = s4 at I4 ⊢
  have st4 : tn 0 s4.heap := T.keep _ _ _ st3 fun b _ o e => hs4 ▸ pushCells_keeps _ _ _ _ (Heap.get?_push_of_some _ e)
  have stat : ∀ {σ' : St} {H' : Hp} {s' : Shared}, Inv (X.blk s3 H3 scope ce fp) [] σ' H' s' → (∀ b ∈ fp, H' b = none) → ∀ b ∈ fp, FpOk (X.blk s3 H3 scope ce fp) [] H' b := fun {σ' H' s'} I' hn b hb =>
    ⟨hn b hb, (I'.ok.exf b hb).1, I'.ok.exfs b hb, .inl hb, fun x c e => (I'.ok.exf b hb).2 x c e, fun p hp => nomatch (show p ∈ ([] : List (Addr × Obj)) from by simpa using hp)⟩
  have loop : codeAny (model X.prog X.w) X.A (.compLoop (.DictComp kx vx [⟨tg, iter, ifs, 0⟩] scope pos) 0 (.ref it) (.ref D) ce) (compPost (model X.prog X.w) X.A X.xe use Qf (.ref D) s3.heap.objs.size) s4 := by
    refine compLoop_anyD (fun n s' => ∃ i H', Inv (X.blk s3 H3 scope ce fp) [] (wipe σ (own.map (·.2))) H' s' ∧ tn i s'.heap ∧ (∀ b ∈ fp, H' b = none) ∧ W i n H') ?_ m0 ⟨0, H3, I4, st4, fun b hb => (f3 b hb).1.1, w0⟩
    rintro n s5 ⟨i, H5, I5, st5, n5, w5⟩
    rcases turn i n H5 w5 with ⟨stop, qq⟩ | ⟨go, N, hN', step⟩
    · refine thnF (T.done (X.blk s3 H3 scope ce fp) rfl rfl rfl hc i [] s5 _ H5 (fun _ _ => False) I5 (stat I5 n5) st5 stop) fun r s6 ⟨hr, I6⟩ => ?_
      subst hr
      have I7 : Inv X pins σ H5 s6 := I3.call' (ch := fp) I6.os I6.base I6.hok I6.bare fun b hb => let ⟨_, a1, a2, a3, a4, a5⟩ := (f3 b hb).1; ⟨a3, a1, a4, a5⟩
      have nC : H5 s3.heap.objs.size = none := cL ▸ (show H5 ce.locals = none from I6.free)
      obtain ⟨m, hn, _⟩ := I6.loc
      exact hRR D s3.heap.objs.size s6 m H5 I7 qq (cL ▸ (show s6.heap.Ns ce.locals m from hn)) (I3.fpOk (Nat.le_refl _) nC)
    · refine thnF (T.item (X.blk s3 H3 scope ce fp) rfl rfl rfl hc i [] s5 _ H5 (fun _ _ => False) I5 (stat I5 n5) st5 go) fun r s6 ⟨u, hr, h6⟩ => ?_
      subst hr
      refine thnF h6 fun _ s7 ⟨x, H7, I7, r7, y7, st7, n7⟩ => ?_
      refine thnF (pg.run _ s7 _ H7 x u _ (I7.pinned (stat I7 n7) (T.obj _ _ st7)) r7 (step x H7 y7)) fun _ s8 ⟨σ8, H8, I8, hw8, q8⟩ => ?_
      refine thnF (pt.run _ s8 σ8 H8 _ I8 q8) fun b s9 ⟨H9, I9, q9⟩ => ?_
      have fin : ∀ {s' : Shared} {H' : Hp}, Inv (X.blk s3 H3 scope ce fp) ([] ++ pinsAt fp s7.heap) σ8 H' s' → N H' → ∃ m, m < n ∧ ∃ i H', Inv (X.blk s3 H3 scope ce fp) [] (wipe σ (own.map (·.2))) H' s' ∧ tn i s'.heap ∧ (∀ b ∈ fp, H' b = none) ∧ W i m H' := fun {s' H'} I' nx => by
        obtain ⟨m', hm, w'⟩ := hN' H' nx
        have pin' : ∀ b ∈ fp, ∀ o, s7.heap.get? b = some o → s'.heap.get? b = some o ∧ H' b = none := fun b hb o e => let z := I'.pin (b, o) (List.mem_append_right _ (List.mem_append_right _ (mem_pinsAt hb e))); ⟨z.1, z.2.1⟩
        refine ⟨m', hm, i + 1, H', (I'.unpinned (pins := [])).weak (by rw [← hw8, wipe_length]) (fun j v e => (wipe_some (hw8 ▸ e)).1), T.keep _ _ _ st7 fun b hb o e => (pin' b hb o e).1, fun b hb => ?_, w'⟩
        obtain ⟨o, e, _⟩ := T.obj _ _ st7 b hb
        exact (pin' b hb o e).2
      cases b with
      | false => exact fin I9 q9
      | true =>
        refine thnF (pk.run _ s9 σ8 H9 _ I9 q9) fun z s10 ⟨yk, H10, I10, r10, q10⟩ => ?_
        refine thnF (pe.run _ s10 σ8 H10 _ I10 q10) fun z2 s11 ⟨yv, H11, I11, r11, H12, g12, nx⟩ => ?_
        exact d_dictPut (X := X.blk s3 H3 scope ce fp) hu I11 g12 r10 r11 fun s12 I12 => fin I12 nx
  exact codeAny_compStart_dict loop (T.self X.A 0 _ _ _ st4 loop)
theorem pe_dcG {t : Bool} {kx vx tg iter : Expr} {ifs : List Expr} {scope : Scope} {own : List (Str × Nat)} {pos : Pos} {wi : TI} {g : TG} {tt : TT} {tk tv : TE} (hu : X.A.units + 65 < cLine) (hc : X.calm = true) (hN : X.N.Nodup) (hi : PI X tg iter wi) (ok : BlkOk X.N X.env.scope scope own)
    (hg : Blk X scope fun Y => PG Y tg g) (ht : Blk X scope fun Y => PTs Y ifs tt) (hk : Blk X scope fun Y => PE Y kx tk) (he : Blk X scope fun Y => PE Y vx tv) (hs : ∀ x, foldedSetIterable iter X.env x = pure x) :
    PE X (.DictComp kx vx [⟨tg, iter, ifs, 0⟩] scope pos) (tDcG t wi g tt tk tv (own.map (·.2))) := by
  refine ⟨fun pins s σ H Q I h => ?_⟩
  rw [arm_eval_DictComp]
  refine dcG_core hu hc hN I hi ok hg ht hk he hs h fun D C s' m H' I' q hn ⟨f0, f1, f2, f3, f4, f5⟩ => ⟨m, hn, fun h'' sb => ?_⟩
  exact ⟨.ref D, H', I'.turned (t' := s'.toks) (fun b o hb e => (sb.2 b hb).trans e) f0 f1 f3 f4 f5, rfl, q⟩
/-! ### .. over data -/
/-- p the new dict; R what is wanted behind it -/
structure DcG (t : Bool) (wi : WI) (nt : NT) (tt : WT) (wk we : WE) (vs : List Nat) (R : Addr → SO → Prop) (sd : SD) (S : SO) : Prop where
  ex : wi sd S fun J S1 => ∀ p, S1 p = none → ∃ Pv : Nat → SO → Prop, Pv 0 (S1.set p (.dic t [])) ∧ (∀ i S, Pv i S → J.ok S) ∧
  (∀ i d S, J.items[i]? = some d → Pv i S → putNT nt d (wipeD sd vs) fun sd2 => upT tt sd2 S fun b S2 => if b = true then up wk sd2 S2 fun k S3 => up we sd2 S3 fun y S4 => ∃ kvs, S4 p = some (.dic t kvs) ∧ keyOk t k ∧ kvs.length < 1000000 ∧ Pv (i + 1) (S4.set p (.dic t (dput kvs k y))) else Pv (i + 1) S2) ∧
  (∀ S, Pv J.items.length S → R p S)
theorem dcG_lift {t : Bool} {wi : WI} {nt : NT} {tt : WT} {wk we : WE} {vs : List Nat} {R : Addr → SO → Prop} {σ : St} {H : Hp} {Q : VK} {sd : SD} {S : SO} (hs : ∀ i ∈ nt.ix, i ∈ vs) (st : Sta X.K sd S σ H) (q : DcG t wi nt tt wk we vs R sd S)
    (hR : ∀ p S' H', R p S' → Nx S H S' H' → SRel X.K S' H' → Q (.ref p) H') : tDcG t (liftI X.K wi) (gNT X.K nt) (liftT X.K tt) (lift X.K wk) (lift X.K we) vs σ H Q := by
  refine ⟨sd, S, _, st, q.ex, fun J S1 H1 JV q1 n1 s1 jr p hp => ?_⟩
  obtain ⟨Pv, h0, hok, hst, hend⟩ := q1 p (s1.free hp)
  have n2 : Nx S1 H1 (S1.set p (.dic t [])) (upd H1 p (ob0 t)) := nx_obj hp (s1.free hp)
  have s2 : SRel X.K (S1.set p (.dic t [])) (upd H1 p (ob0 t)) := srel_put s1 n2 (by
    cases t with
    | true => exact .inr ⟨[], rfl, upd_same, rfl⟩
    | false => exact .inl ⟨[], rfl, upd_same, rfl⟩)
  refine ⟨fun i m H' => ∃ S', m = J.items.length - i ∧ i ≤ J.items.length ∧ Pv i S' ∧ SRel X.K S' H' ∧ Nx S1 H1 S' H', ⟨J.items.length, _, by simp, Nat.zero_le _, h0, s2, n2⟩, ?_⟩
  rintro i m H' ⟨S', rfl, hile, hp', s', n'⟩
  have o := hok i S' hp'
  by_cases hlt : i < J.items.length
  · refine .inr ⟨jr.go i S' H' n' s' o hlt, fun H2 => ∃ S2, Pv (i + 1) S2 ∧ SRel X.K S2 H2 ∧ Nx S1 H1 S2 H2, fun H2 ⟨S2, h1, h2, h3⟩ => ⟨J.items.length - (i + 1), by omega, S2, rfl, hlt, h1, h2, h3⟩, fun x H2 hy => ?_⟩
    have hi' := List.getElem?_eq_getElem hlt
    obtain ⟨n3, s3, r3⟩ := jr.yld i S' H' x H2 _ n' s' o hi' hy
    have nn := n'.trans n3
    refine nt_go hs ((st.nx (n1.trans nn) s3).wipe vs) r3 (hst i _ S' hi' hp') fun sd2 σ2 hk st2 hw => ⟨by rw [hw, wipe_wipe], upT_lift ?_⟩
    refine ⟨sd2, S', _, st2, hk, fun b S4 H4 q4 n4 s4 => ?_⟩
    cases b with
    | false => exact ⟨S4, q4, s4, nn.trans n4⟩
    | true =>
      refine up_lift ⟨sd2, S4, _, st2.nx n4 s4, q4, fun k S5 kv H5 q5 n5 s5 r5 => up_lift ⟨sd2, S5, _, (st2.nx n4 s4).nx n5 s5, q5, fun y S6 v H6 ⟨kvs, ha, hk, hl, q6⟩ n6 s6 r6 => ?_⟩⟩
      have da : DicAt X.K S6 H6 p t kvs := s6 p _ ha
      obtain ⟨ob, g, hd⟩ := da.put (Rel.nx n6 _ _ r5) hk r6 hl
      have n7 : Nx S6 H6 (S6.set p (.dic t (dput kvs k y))) (upd H6 p ob) := nx_put ha
      exact ⟨_, g, _, q6, srel_put s6 n7 (hd _ _ n7 upd_same), nn.trans (n4.trans (n5.trans (n6.trans n7)))⟩
  · have e : i = J.items.length := by omega
    subst e
    exact .inl ⟨jr.stop _ S' H' n' s' o rfl, hR p S' H' (hend S' hp') (n1.trans n') s'⟩
/-- .. frozen at the end, its parts pure: the dict is made of f of the items -/
noncomputable def dputsL : List (D × D) → List (D × D) → List (D × D)
  | acc, [] => acc
  | acc, (k, v) :: r => dputsL (dput acc k v) r
theorem dputsL_app : ∀ {xs : List (D × D)} {acc : List (D × D)} {y : D × D}, dputsL acc (xs ++ [y]) = dput (dputsL acc xs) y.1 y.2
  | [], acc, (k, v) => rfl
  | (k, v) :: xs, acc, y => dputsL_app (xs := xs)
theorem dputsL_len : ∀ (xs acc : List (D × D)), (dputsL acc xs).length ≤ acc.length + xs.length
  | [], acc => Nat.le_refl _
  | (k, v) :: xs, acc => by
    have h1 := dputsL_len xs (dput acc k v)
    have h2 := dput_length acc k v
    show (dputsL (dput acc k v) xs).length ≤ _
    rw [List.length_cons]
    omega
theorem dputsL_nodup : ∀ {kvs acc : List (D × D)}, (∀ p ∈ kvs, dget acc p.1 = none) → (kvs.map (·.1)).Nodup → dputsL acc kvs = acc ++ kvs
  | [], acc, _, _ => (List.append_nil _).symm
  | (k, v) :: r, acc, h, n => by
    have h0 : dget acc k = none := h (k, v) (List.mem_cons_self ..)
    have n' := List.nodup_cons.mp (show (k :: r.map (·.1)).Nodup from n)
    show dputsL (dput acc k v) r = _
    rw [dputsL_nodup (fun p hp => ?_) n'.2, dput_new h0, List.append_assoc]
    · rfl
    · have hne : ¬ k = p.1 := fun e => n'.1 (by rw [e]; exact List.mem_map_of_mem hp)
      rw [dget_put, if_neg hne]
      exact h p (List.mem_cons_of_mem _ hp)
structure DcP (t : Bool) (wi : WI) (nt : NT) (tt : WT) (wk we : WE) (vs : List Nat) (sd : SD) (S : SO) (Q : KD) : Prop where
  ex : ∃ R : ItD → SO → Prop, wi sd S R ∧ ∀ J S1, R J S1 → (∀ S', Ext S1 S' → J.ok S') ∧ J.items.length ≤ 100000 ∧ ∃ f : D → Option (D × D), (∀ d ∈ J.items, ∀ S', Ext S1 S' → putNT nt d (wipeD sd vs) fun sd2 =>
  tt sd2 S' fun b S2 => S2 = S' ∧ if b = true then up wk sd2 S' fun k S3 => S3 = S' ∧ keyOk t k ∧ up we sd2 S' fun y S4 => S4 = S' ∧ f d = some (k, y) else f d = none) ∧ Q (.dic t (dputsL [] (J.items.filterMap f))) S1
def wDcP (t : Bool) (wi : WI) (nt : NT) (tt : WT) (wk we : WE) (vs : List Nat) : WE := fun sd S Q => DcP t wi nt tt wk we vs sd S Q
theorem dcP_lift {t : Bool} {wi : WI} {nt : NT} {tt : WT} {wk we : WE} {vs : List Nat} {σ : St} {H : Hp} {Q : VK} (hx : ∀ i ∈ nt.ix, i ∈ vs) (h : lift X.K (wDcP t wi nt tt wk we vs) σ H Q) : tDcG t (liftI X.K wi) (gNT X.K nt) (liftT X.K tt) (lift X.K wk) (lift X.K we) vs σ H Q := by
  obtain ⟨sd, S, Q0, st, ⟨R, q, i⟩, an⟩ := h
  refine ⟨sd, S, R, st, q, fun J S1 H1 JV qR n1 s1 jr => ?_⟩
  obtain ⟨hok, hl, f, hf, q1⟩ := i J S1 qR
  obtain ⟨sd', S', R0, st', q', an'⟩ := dcG_lift (X := X) (t := t) (wi := fun _ S R => S = S1 ∧ R J S1) (tt := tt) (wk := wk) (we := we) (R := fun p S' => S' = S1.set p (.dic t (dputsL [] (J.items.filterMap f))) ∧ S1 p = none) (Q := Q) hx (st.nx n1 s1)
    ⟨⟨rfl, fun p hp => ⟨fun i S => S = S1.set p (.dic t (dputsL [] ((J.items.take i).filterMap f))), by simp [dputsL], fun i S e => by rw [e]; exact hok _ (ext_set hp), fun i d S hi e => by
      subst e
      have hd := hf d (List.mem_of_getElem? hi) _ (ext_set (o := .dic t (dputsL [] ((J.items.take i).filterMap f))) hp)
      have htk : (J.items.take (i + 1)).filterMap f = (J.items.take i).filterMap f ++ (f d).toList := by
        rw [List.take_add_one, hi, List.filterMap_append]
        cases q : f d with
        | none => simp [q]
        | some y => simp [q]
      have hlen : (dputsL [] ((J.items.take i).filterMap f)).length ≤ 100000 := by
        have h0 := dputsL_len ((J.items.take i).filterMap f) []
        have h1 := List.length_filterMap_le f (J.items.take i)
        have h2 : (J.items.take i).length ≤ J.items.length := by rw [List.length_take]; omega
        rw [List.length_nil] at h0
        omega
      have go : ∀ sd2 S0, S0 = S1.set p (.dic t (dputsL [] ((J.items.take i).filterMap f))) → (tt sd2 S0 fun b S2 => S2 = S0 ∧ if b = true then up wk sd2 S0 fun k S3 => S3 = S0 ∧ keyOk t k ∧ up we sd2 S0 fun y S4 => S4 = S0 ∧ f d = some (k, y) else f d = none) →
          upT tt sd2 S0 fun b S2 => if b = true then up wk sd2 S2 fun k S3 => up we sd2 S3 fun y S4 => ∃ kvs, S4 p = some (.dic t kvs) ∧ keyOk t k ∧ kvs.length < 1000000 ∧ S4.set p (.dic t (dput kvs k y)) = S1.set p (.dic t (dputsL [] ((J.items.take (i + 1)).filterMap f))) else S2 = S1.set p (.dic t (dputsL [] ((J.items.take (i + 1)).filterMap f))) := by
        intro sd2 S0 eS hh
        refine ⟨_, hh, fun b S2 ⟨e2, q2⟩ => ?_⟩
        subst e2
        cases b with
        | false =>
          have q2' : f d = none := q2
          show S2 = _
          rw [htk, q2', eS]
          simp
        | true =>
          obtain ⟨K0, q3, i3⟩ := q2
          refine ⟨K0, q3, fun k S3 q4 => ?_⟩
          obtain ⟨e3, ok, E0, q5, i5⟩ := i3 k S3 q4
          subst e3
          refine ⟨E0, q5, fun y S4 q6 => ?_⟩
          obtain ⟨e4, q7⟩ := i5 y S4 q6
          subst e4
          refine ⟨_, by rw [eS]; exact set_same, ok, by omega, ?_⟩
          rw [eS, set_set, htk, q7]
          show _ = S1.set p (.dic t (dputsL [] ((J.items.take i).filterMap f ++ [(k, y)])))
          rw [dputsL_app]
      cases nt with
      | n j => exact go _ _ rfl hd
      | t l =>
        cases d with
        | tup xs => exact ⟨hd.1, go _ _ rfl hd.2⟩
        | _ => exact False.elim hd, fun S e => ⟨by rw [e, List.take_length], hp⟩⟩⟩⟩
    fun p S' H' ⟨e, hp⟩ n' s' => by
      subst e
      obtain ⟨n2, s2, r2⟩ := frz_dic s' set_same
      rw [del_set hp] at n2 s2 r2
      exact an _ _ _ _ q1 (n1.trans (n'.trans n2)) s2 r2
  obtain ⟨rfl, q'⟩ := q'
  exact an' J S' H1 JV q' (.refl _ _) st'.s jr
theorem de_dcP {t : Bool} {kx vx tg iter : Expr} {ifs : List Expr} {scope : Scope} {own : List (Str × Nat)} {pos : Pos} {wi : WI} {nt : NT} {tt : WT} {wk we : WE} (hu : X.A.units + 65 < cLine) (hc : X.calm = true) (hN : X.N.Nodup) (hi : DI X tg iter wi) (ok : BlkOk X.N X.env.scope scope own)
    (hx : ∀ i ∈ nt.ix, i ∈ own.map (·.2)) (hg : Blk X scope fun Y => PG Y tg (gNT X.K nt)) (ht : Blk X scope fun Y => PTs Y ifs (liftT X.K tt)) (hk : Blk X scope fun Y => PE Y kx (lift X.K wk)) (he : Blk X scope fun Y => PE Y vx (lift X.K we))
    (hs : ∀ x, foldedSetIterable iter X.env x = pure x := by intro _; rfl) : DE X (.DictComp kx vx [⟨tg, iter, ifs, 0⟩] scope pos) (wDcP t wi nt tt wk we (own.map (·.2))) :=
  pe_imp (pe_dcG hu hc hN hi ok hg ht hk he hs) fun σ H Q h => dcP_lift hx h
end
end L2.DL

/-! DL12: isinstance; dict of pairs -/
namespace L2.DL
open PySem PySem.Spec PyProof.Rows

/-- a value's class: a built-in one by its name, an own one by its address -/
abbrev TyN := String ⊕ Addr
def objT : Option DO → Option TyN
  | some (.lst _) => some (.inl "list")
  | some (.dic _ _) => some (.inl "dict")
  | some (.ins C _) => some (.inr C)
  | some (.err _ _) => none
  | some (.tb _) => none
  | some (.nd _ _) => none
  | none => none
def tyX (S : SO) : D → Option TyN
  | .non => some (.inl "NoneType")
  | .bl _ => some (.inl "bool")
  | .int _ => some (.inl "int")
  | .str _ => some (.inl "str")
  | .tup _ => some (.inl "tuple")
  | .kt _ => some (.inl "tuple")
  | .tf _ => some (.inl "tuple")
  | .lst _ => some (.inl "list")
  | .src _ => some (.inl "list")
  | .dic _ _ => some (.inl "dict")
  | .fd _ _ => none
  | .gh _ _ => none
  | .fn _ _ _ => none
  | .ins C _ => some (.inr C)
  | .obj a => objT (S a)
  | .ty _ => none
def tyV' : TyN → Value
  | .inl n => .type n
  | .inr C => .ref C
structure InsOk (K : PySem.W.Frag) (C : Addr) : Prop where
  cl : Cls K C
  ha : PySem.W.findIn K (.ref C) "__class__" = some (some (.builtin "object.__class__"))
  hn : PySem.W.specialIn K (.builtin "object.__class__") "__get__" = some (some (.builtin "getset_descriptor.__get__"))
  htk : PySem.W.takesIn K (.builtin "object.__class__") = some true
  hm : PySem.W.mroIn K C (.type "object") = some true
theorem tyX_at {K : PySem.W.Frag} {S : SO} {H : Hp} {d : D} {v : V} {t : TyN} (s : SRel K S H) (r : Rel K S H d v) (e : tyX S d = some t) (hC : ∀ C, t = .inr C → InsOk K C) : TyX K H v (tyV' t) := by
  have dc : ∀ {a : Addr} {b : Bool} {kvs : List (D × D)}, DicAt K S H a b kvs → TyX K H (.ref a) (.type "dict") := fun h => by
    rcases h with ⟨l, _, hl, _⟩ | ⟨l, _, hl, _⟩
    · exact .base (.dK hl)
    · exact .base (.dT hl)
  have inst : ∀ {a C dx : Addr} {l : List (Str × V)}, H a = some (.ins C dx l) → InsOk K C → TyX K H (.ref a) (.ref C) := fun h o => .base (.ins h o.cl o.ha o.hn o.htk o.hm)
  cases d with
  | non =>
    have e1 : v = .non := r
    cases e
    rw [e1]
    exact .base .non
  | bl b =>
    have e1 : v = .bl b := r
    cases e
    rw [e1]
    exact .base (.bl b)
  | int b =>
    have e1 : v = .int b := r
    cases e
    rw [e1]
    exact .base (.int b)
  | str b =>
    have e1 : v = .str b := r
    cases e
    rw [e1]
    exact .base (.str b)
  | ty n => cases e
  | fd t kvs => cases e
  | gh d u => cases e
  | fn φ c q => cases e
  | tup ds =>
    cases e
    obtain ⟨a, vs, rfl, t, _⟩ := r
    exact .base (.tup t.2)
  | lst ds =>
    cases e
    obtain ⟨a, vs, rfl, _, t, _⟩ := r
    exact .base (.lst t)
  | tf ds =>
    cases e
    obtain ⟨a, vs, rfl, ⟨_, o, t, _⟩, _⟩ := r
    exact .fTuple t
  | src ds =>
    cases e
    obtain ⟨a, vs, rfl, t, _⟩ := r
    rcases t with ⟨_, t | ⟨o, t⟩⟩ | ⟨o, its, n, h1, h2, _⟩
    · exact .base (.lst t)
    · exact .base (.frz t)
    · exact .kList h1 h2
  | kt ds =>
    cases e
    obtain ⟨a, vs, rfl, ⟨o, its, n, h1, h2, _⟩, _⟩ := r
    exact .kTuple h1 h2
  | dic t kvs =>
    cases e
    obtain ⟨a, rfl, _, da⟩ := r
    exact dc da
  | ins C fs =>
    cases e
    obtain ⟨a, dx, l, rfl, _, hl, _⟩ := r
    exact inst hl (hC C rfl)
  | obj a =>
    have e1 : v = .ref a := r
    rw [e1]
    have e2 : objT (S a) = some t := e
    cases q : S a with
    | none =>
      rw [q] at e2
      cases e2
    | some o =>
      rw [q] at e2
      have z := s a o q
      cases o with
      | lst xs =>
        cases e2
        obtain ⟨vs, hv, _⟩ := z
        exact .base (.lst hv)
      | dic b kvs =>
        cases e2
        exact dc z
      | ins C fs =>
        cases e2
        obtain ⟨dx, l, hl, _⟩ := z
        exact inst hl (hC C rfl)
      | err _ _ => cases e2
      | tb _ => cases e2
      | nd _ _ => cases e2
/-- isinstance(x, c) -/
def cIsi (c : D) (f : TyN → Option Bool) : WL := fun xs S Q => two2 xs fun x c' => c' = c ∧ ∃ t b, tyX S x = some t ∧ f t = some b ∧ Q (.bl b) S
theorem dc_isi {X : Cx} {c : D} {cv : V} {u : Value} {f : TyN → Option Bool} (hc : ∀ K S H v, Rel K S H c v → v = cv) (k : ClsV cv u) (hf : ∀ t b, f t = some b → PySem.W.kitOne X.K (tyV' t) u = some b) (hI : ∀ C b, f (.inr C) = some b → InsOk X.K C) : DC X (.builtin "isinstance") (cIsi c f) := by
  intro pins s σ H xs us Q I r ⟨ds, S, Q0, sr, rs, q, an⟩
  obtain ⟨x, c', rfl, rfl, t, b, ht, hb, q⟩ := two2_of q
  obtain ⟨v, w, rfl, rv, rw'⟩ := rs.two
  have e := hc _ _ _ _ rw'
  subst e
  exact call_isi pins s σ H _ us Q I r ⟨v, w, tyV' t, u, b, rfl, k, tyX_at sr rv ht (fun C e => hI C b (e ▸ hb)), hf t b hb, ansd (.bl b) sr an q rfl⟩
/-- a built-in class: the names that a value's class may have -/
def tyNames : List String := ["NoneType", "bool", "int", "str", "tuple", "list", "dict"]
def subN (n T : String) : Bool := n == T || (n == "bool" && T == "int")
def fTy (T : String) (Cs : List Addr) : TyN → Option Bool
  | .inl n => if n ∈ tyNames then some (subN n T) else none
  | .inr C => if C ∈ Cs then some false else none
theorem kit_tab : ∀ n ∈ tyNames, ∀ T ∈ tyNames, kitB n T = some (subN n T) := by decide +kernel
theorem fTy_n {T n : String} {Cs : List Addr} {b : Bool} (h : fTy T Cs (.inl n) = some b) : n ∈ tyNames ∧ subN n T = b := by
  have h' : (if n ∈ tyNames then some (subN n T) else none) = some b := h
  by_cases hn : n ∈ tyNames
  · rw [if_pos hn] at h'
    exact ⟨hn, Option.some.inj h'⟩
  · rw [if_neg hn] at h'
    cases h'
theorem fTy_C {T : String} {C : Addr} {Cs : List Addr} {b : Bool} (h : fTy T Cs (.inr C) = some b) : C ∈ Cs ∧ b = false := by
  have h' : (if C ∈ Cs then some false else none) = some b := h
  by_cases hn : C ∈ Cs
  · rw [if_pos hn] at h'
    exact ⟨hn, (Option.some.inj h').symm⟩
  · rw [if_neg hn] at h'
    cases h'
theorem dc_isiT {X : Cx} (T : String) (Cs : List Addr) (hT : T ∈ tyNames := by decide) (hC : ∀ C ∈ Cs, InsOk X.K C ∧ PySem.W.kitOne X.K (.ref C) (.type T) = some false) : DC X (.builtin "isinstance") (cIsi (.ty T) (fTy T Cs)) :=
  dc_isi (cv := .ty T) (fun _ _ _ _ r => r) (.ty T) (fun t b h => by
    cases t with
    | inl n =>
      obtain ⟨hn, e⟩ := fTy_n h
      rw [← e]
      exact kit_ty (kit_tab n hn T hT)
    | inr C =>
      obtain ⟨hn, e⟩ := fTy_C h
      rw [e]
      exact (hC C hn).2) fun C b h => (hC C (fTy_C h).1).1
/-- an own class C0 : of no built-in value, of the instances as g tells -/
def fOwn (g : Addr → Option Bool) : TyN → Option Bool
  | .inl n => if n ∈ tyNames then some false else none
  | .inr C => g C
theorem dc_isiO {X : Cx} (C0 : Addr) (g : Addr → Option Bool) (hB : ∀ n ∈ tyNames, PySem.W.kitOne X.K (.type n) (.ref C0) = some false) (hC : ∀ C b, g C = some b → InsOk X.K C ∧ PySem.W.kitOne X.K (.ref C) (.ref C0) = some b) : DC X (.builtin "isinstance") (cIsi (.obj C0) (fOwn g)) :=
  dc_isi (cv := .ref C0) (fun _ _ _ _ r => r) (.own C0) (fun t b h => by
    cases t with
    | inl n =>
      have h' : (if n ∈ tyNames then some false else none) = some b := h
      by_cases hn : n ∈ tyNames
      · rw [if_pos hn] at h'
        rw [← Option.some.inj h']
        exact hB n hn
      · rw [if_neg hn] at h'
        cases h'
    | inr C => exact (hC C b h).2) fun C b h => (hC C b h).1

/-! ### dict of a list of pairs -/
section
variable {K : PySem.W.Frag} {S : SO} {H : Hp}
end
end L2.DL

/-! DL13: tuples without a dict: tuple(list), index; dict displays; repr -/
namespace L2.DL
open PySem PySem.Spec PyProof.Rows
section
variable {X : Cx}
/-- tuple(list), the tuple known to have no dict -/
def cTupleF : WL := fun xs S Q => one xs fun x => ∃ ys, lstX S x = some ys ∧ Q (.tf ys) S
theorem dc_tupleF : DC X (.type "tuple") cTupleF := by
  intro pins s σ H xs us Q I r ⟨ds, S, Q0, sr, rs, q, an⟩
  obtain ⟨x, rfl, ys, e, q⟩ := one_of q
  obtain ⟨v, rfl, rv⟩ := rs.v1
  obtain ⟨a, vs, rfl, hq, rns⟩ := lstX_at sr rv e
  obtain ⟨u, rfl, ru⟩ := vals1 r
  cases ru
  obtain ⟨its, r', pl, hz⟩ := I.list hq
  refine call_tuple_list pl.isList (fun h' kp => ?_) (by rw [List.size_toArray, ← r'.length]; exact hz)
  have I1 : Inv X pins σ H { s with heap := h' } := I.kept (t' := s.toks) kp
  have hf : H h'.objs.size = none := I1.hok.fresh (Nat.le_refl _)
  have I2 : Inv X pins σ (upd H h'.objs.size (.frz { cls := .type "tuple", data := .seq its.toArray } (.tup vs))) { s with heap := h'.push { cls := .type "tuple", data := .seq its.toArray } } :=
    I1.laid (t' := s.toks) (fun b o e => Heap.get?_push_of_some _ e) (Nat.le_refl _) ⟨Heap.get?_push_size _ rfl, hz, its, r', IsTup.new _ _⟩
  exact ⟨.ref h'.objs.size, _, I2, rfl, an _ _ _ _ q (nx_new hf) (sr.new hf) ⟨_, vs, rfl, ⟨sr.free hf, _, upd_same, rfl, rfl⟩, rns.nx (nx_new hf)⟩⟩
/-! ### methods of tuples -/
/-! ### {k: v} -/
/-! ### repr -/
def ShowOk (p : PyData) : Prop := p.layable0 = true ∧ p.intsShort 13 = true ∧ p.showable = true
end
end L2.DL

/-! DL14: walks over texts; the law's head over data -/
namespace L2.DL
open PySem PySem.Spec PyProof.Rows
/-! ### for sign in text -/
def signsD (x : Str) : List D := x.cps.toList.map fun c => .str ⟨#[c]⟩
def wStrI (we : WE) : WI := fun sd S R => we sd S fun d S1 => match d with
  | .str x => R ⟨signsD x, fun _ => True⟩ S1
  | _ => False
theorem signs_len (x : Str) : (signsD x).length = x.cps.size := by unfold signsD; rw [List.length_map, Array.length_toList]
theorem jrel_str {K : PySem.W.Frag} {S0 : SO} {H0 : Hp} {x : Str} {ok : SO → Prop} : JRel K S0 H0 ⟨signsD x, ok⟩ (Its x) where
  go := fun i S H n s o hi => by
    have hi' : i < (signsD x).length := hi
    rw [signs_len] at hi'
    exact hi'
  stop := fun i S H n s o hi => by
    have hi' : i = (signsD x).length := hi
    rw [signs_len] at hi'
    exact Nat.le_of_eq hi'.symm
  yld := fun i S H v H' d n s o hi y => by
    obtain ⟨rfl, c, hc, rfl⟩ := y
    have hi' : (signsD x)[i]? = some d := hi
    unfold signsD at hi'
    rw [List.getElem?_map, Array.getElem?_toList, hc] at hi'
    cases hi'
    exact ⟨.refl _ _, s, rfl⟩
theorem di_str {X : Cx} {tg e : Expr} {we : WE} (he : DE X e we) : DI X tg e (wStrI we) := by
  refine pi_imp (pi_str he) fun σ H R ⟨sd, S, R0, st, q, an⟩ => ⟨sd, S, _, st, q, fun d S1 v H1 q1 n1 s1 r1 => ?_⟩
  cases d with
  | str x => exact ⟨x, r1, an _ _ _ _ q1 n1 s1 jrel_str⟩
  | _ => exact False.elim q1
theorem strIn_one (c : Nat) (z : Str) : strIn ⟨#[c]⟩ z = decide (c ∈ z.cps.toList) := PySem.StrLaws.found_one z c

/-! ### room -/
theorem Room.u65 {k : Nat} {A : Around} (r : Room k A) : A.units + 65 < cLine := by have := r.un; omega
/-! ### the law's head -/
section
variable {P : Program} {w : World} {K : PySem.W.Frag} {mg : Str → Option Value} {base : Heap}
/-- the law's call, from a heap in which the script alone may be tracked -/
theorem law_core {k : Nat} {fa a : Addr} {fd : FuncData} {x : Str} {sp : Sp} {s : Shared} {H : Hp} {vs : List Value} {mb : Str → Option Value} {ns : List Int}
    (KX : K.In s.heap) (hns : s.heap.Ns mainGlobals mg) (hb : s.heap.Ns builtinsNs mb) (hbb : ∀ x : Str, x ≠ "__name__" → mb x = bootBuiltins x) (hlim : s.heap.NoLimit) (hg : s.gens = #[])
    (ha : s.heap.get? a = some { cls := .type "list", data := .seq vs.toArray }) (hr : Room k callerA)
    (F : ∀ base : Heap, K.In base → base.Ns mainGlobals mg → FnG P w K mg base CX0 k fa fd [x] sp) (hbind : ∀ (s : Shared) (u : Value), BindsTo s fd ⟨[u], []⟩ [(x, u)])
    (hO : Only H) (hok : HOk P w H s.heap) (hA : ∀ b, H b ≠ none → b = a) (hK : H a ≠ none → K.lookup a = none) (hsp : sp [.ref a] H (fun v _ => v = .bl true) fun _ _ _ => False) :
    codeAny (model P w) callerA (.call (.ref fa) ⟨[.ref a], []⟩) (fun r s' => r = .ok (.ret (.bool true)) ∧ OldK s.heap s'.heap ∧ s'.os = s.os ∧ AllBare s'.gens) s := by
  have only : ∀ {b : Addr}, (b ≠ a ∨ ∃ o, s.heap.get? b = some o ∧ ∃ es ep, o.data = .dict es ep) → H b = none := fun {b} h => by
    cases q : H b with
    | none => rfl
    | some u =>
      have e := hA b (by rw [q]; exact fun z => nomatch z)
      subst e
      rcases h with h | ⟨o, h1, es, ep, h2⟩
      · exact absurd rfl h
      · rw [ha] at h1
        cases h1
        exact nomatch (show Data.seq vs.toArray _ = Data.dict es ep from h2)
  have keepNs : ∀ {b : Addr} {m : Str → Option Value}, s.heap.Ns b m → (hidT s.heap H).Ns b m := fun ⟨o, es, ep, e, d, r⟩ => ⟨o, es, ep, hidT_get e (only (.inr ⟨o, e, es, ep, d⟩)), d, r⟩
  have keepK : K.In (hidT s.heap H) := fun b o e => hidT_get (KX b o e) (by
    by_cases hb : H b = none
    · exact hb
    · have eb := hA b hb
      subst eb
      rw [hK hb] at e
      cases e)
  obtain ⟨mc, lim1, lim2⟩ := hlim
  have M : Mod K mg (hidT s.heap H) := ⟨keepK, keepNs hns, ⟨mb, keepNs hb, hbb⟩, mc, keepNs lim1, lim2⟩
  have e0 : Env0 P w K mg (hidT s.heap H) callerA [] s H := ⟨rfl, M, fun b o e => of_hidT e, Nat.le_of_eq (hidT_size _ _), trivial, fun b hb => absurd hb (by simp [frs]), hok, .of_eq hg⟩
  have run := (F _ keepK (keepNs hns)).go callerA [] s H ⟨[.ref a], []⟩ [.ref a] [.ref a] _ _ hr rfl e0 (hbind s (.ref a)) (.cons rfl .nil) hsp
  refine codeAny_mono run fun r s' h => ?_
  cases r with
  | error e => exact (show False from h).elim
  | ok fl =>
    cases fl with
    | next => exact False.elim h
    | brk => exact False.elim h
    | cont => exact False.elim h
    | ret u =>
      obtain ⟨v, H', os, bare, un, hok', ru, ev⟩ := h
      subst ev
      have eu : u = Value.bool true := ru
      refine ⟨by rw [eu], OldK.of_keep fun b o e => ?_, os, bare⟩
      rcases hO b with z | ⟨ob, ys, z⟩
      · exact un.keep b o e z (fun h => absurd h (by simp [frs])) (by simp)
      · have h1 := (hok b _ z).1
        have h2 := (hok' b _ (un.frzs b ob _ z)).1
        rw [e] at h1
        cases h1
        exact h2
theorem law_callG {mb : Str → Option Value} {k : Nat} {fa a : Addr} {fd : FuncData} {x : Str} {sp : Sp} {s : Shared} {vs : List Value} {ns : List Int}
    (KX : K.In s.heap) (hns : s.heap.Ns mainGlobals mg) (hb : s.heap.Ns builtinsNs mb) (hbb : ∀ x : Str, x ≠ "__name__" → mb x = bootBuiltins x) (hlim : s.heap.NoLimit) (hg : s.gens = #[])
    (ha : s.heap.get? a = some { cls := .type "list", data := .seq vs.toArray }) (hi : IntsAre vs ns) (hl : ns.length ≤ sizeLine) (hr : Room k callerA)
    (F : ∀ base : Heap, K.In base → base.Ns mainGlobals mg → FnG P w K mg base CX0 k fa fd [x] sp) (hbind : ∀ (s : Shared) (u : Value), BindsTo s fd ⟨[u], []⟩ [(x, u)])
    (hsp : ∀ H : Hp, Only H → SqL K H a (ns.map V.int) → sp [.ref a] H (fun v _ => v = .bl true) fun _ _ _ => False) :
    codeAny (model P w) callerA (.call (.ref fa) ⟨[.ref a], []⟩) (fun r s' => r = .ok (.ret (.bool true)) ∧ OldK s.heap s'.heap ∧ s'.os = s.os ∧ AllBare s'.gens) s := by
  have rv := vals_ints hi
  by_cases hk : K.lookup a = none
  · let ob : Obj := { cls := .type "list", data := .seq vs.toArray }
    have at_ : (fun b => if b = a then some (HO.frz ob (.lst (ns.map V.int))) else none : Hp) a = some (.frz ob (.lst (ns.map V.int))) := if_pos rfl
    have off : ∀ b, b ≠ a → (fun b => if b = a then some (HO.frz ob (.lst (ns.map V.int))) else none : Hp) b = none := fun b hb => if_neg hb
    have on : ∀ b, (fun b => if b = a then some (HO.frz ob (.lst (ns.map V.int))) else none : Hp) b ≠ none → b = a := fun b h => Classical.byContradiction fun z => h (off b z)
    have O : Only (fun b => if b = a then some (HO.frz ob (.lst (ns.map V.int))) else none : Hp) := fun b => by
      by_cases h : b = a
      · exact .inr ⟨ob, _, by rw [h]; exact at_⟩
      · exact .inl (off b h)
    refine law_core (ns := ns) KX hns hb hbb hlim hg ha hr F hbind O (fun b u z => ?_) on (fun _ => hk) (hsp _ O (.inl (.inr ⟨ob, at_⟩)))
    have hba : b = a := Classical.byContradiction fun hne => nomatch (off b hne).symm.trans z
    subst hba
    have z2 := at_.symm.trans z
    cases z2
    exact ⟨ha, by rw [List.length_map]; exact hl, vs, _, rv, ha⟩
  · obtain ⟨o, ho⟩ : ∃ o, K.lookup a = some o := Option.ne_none_iff_exists'.mp hk
    have e := KX a o ho
    rw [ha] at e
    cases e
    have O : Only (fun _ => none) := fun _ => .inl rfl
    exact law_core (ns := ns) KX hns hb hbb hlim hg ha hr F hbind O (fun b u z => nomatch (show (none : Option HO) = some u from z)) (fun b h => absurd rfl h) (fun h => absurd rfl h)
      (hsp _ O (.inr ⟨_, vs.toArray, _, ho, rfl, rfl, rfl, by rw [List.size_toArray, hi.length]; exact hl, by simpa using rv⟩))
/-- the law's def promises: of a script of ints it says True -/
def LawSp (n : Nat) : DSp := fun ds S Q _ => ∃ ns : List Int, ds = [.src (ns.map D.int)] ∧ ns.length ≤ n ∧ S = (fun _ => none) ∧ ∀ S', Q (.bl true) S'
theorem walk_G {l : PySem.W.OpenLaw} {n k : Nat} {q : Program} {loose : List Str} {XP : (Str → Option Value) → Heap → Prop} {YP : World → Heap → Prop} {d : DefRec} {K : Params → PySem.W.Frag} {x : Str}
    (hn : l.most = some n) (hn2 : n ≤ sizeLine) (hdf : d.params.defaults = []) (hr : Room k callerA) (hY : ∀ (w : World) (h : Heap), YP w h → (K w.params).In h)
    (F : ∀ (w : World) (mg : Str → Option Value) (fa : Addr) (h : Heap), (K w.params).In h → h.Ns mainGlobals mg → mg d.name = some (.ref fa) →
      ∃ fd : FuncData, (∀ (s : Shared) (u : Value), BindsTo s fd ⟨[u], []⟩ [(x, u)]) ∧ ∀ base : Heap, (K w.params).In base → base.Ns mainGlobals mg → FnD l.prog w (K w.params) mg base k fa fd [x] (LawSp n)) :
    PySem.W.WalkO q loose XP YP l.row.toRowW d [] (fun f vs => PySem.call f vs) := by
  refine Att.attach_call hn hdf fun w s₀ s₁ mg mb fa o pm cd doc a vs ns G Y ho hd hcd hmg hobj hints hlen hg => ?_
  have KX := hY w _ Y
  obtain ⟨fd, hb, hF⟩ := F w mg fa _ KX G.T.g hmg
  refine law_callG KX G.T.g G.T.b G.T.builtins G.T.nolimit hg hobj hints (Nat.le_trans hlen hn2) hr hF hb fun H hO hS => ?_
  refine ⟨[.src (ns.map D.int)], fun _ => none, fun d _ => d = .bl true, NoE, (fun a o h => nomatch (show (none : Option DO) = some o from h)), ⟨.ref a, [], rfl, ⟨a, _, rfl, ?_, rels_of_ints ns⟩, rfl⟩, ⟨ns, rfl, hlen, rfl, fun _ => rfl⟩, fun d S' v H' e _ _ r => ?_, noE_ans⟩
  · rcases hS with h | h
    · exact .inl ⟨rfl, h⟩
    · exact .inr h
  · subst e
    exact r
end
end L2.DL

/-! DL15: how readings are answered -/
namespace L2.DL
open PySem PySem.Spec PyProof.Rows
theorem lcP_of {wi : WI} {nt : NT} {tt : WT} {we : WE} {vs : List Nat} {sd : SD} {S : SO} {Q : KD} (items : List D) (f : D → Option D) (hi : wi sd S fun J S1 => J = ⟨items, fun _ => True⟩ ∧ S1 = S) (hl : items.length ≤ 1000000)
    (hf : ∀ d ∈ items, ∀ S', Ext S S' → putNT nt d (wipeD sd vs) fun sd2 => tt sd2 S' fun b S2 => S2 = S' ∧ if b = true then up we sd2 S' fun y S3 => S3 = S' ∧ f d = some y else f d = none) (hq : Q (.lst (items.filterMap f)) S) : LcP wi nt tt we vs sd S Q :=
  ⟨⟨_, hi, fun J S1 ⟨e1, e2⟩ => by
    subst e1 e2
    exact ⟨fun _ _ => trivial, hl, f, hf, hq⟩⟩⟩
theorem lcP_map {wi : WI} {nt : NT} {we : WE} {vs : List Nat} {sd : SD} {S : SO} {Q : KD} (items : List D) (g : D → D) (hi : wi sd S fun J S1 => J = ⟨items, fun _ => True⟩ ∧ S1 = S) (hl : items.length ≤ 1000000)
    (hf : ∀ d ∈ items, ∀ S', Ext S S' → putNT nt d (wipeD sd vs) fun sd2 => we sd2 S' fun y S3 => S3 = S' ∧ g d = y) (hq : Q (.lst (items.map g)) S) : LcP wi nt wYes we vs sd S Q := by
  refine lcP_of items (fun d => some (g d)) hi hl (fun d hd S' e => ?_) (by rw [List.filterMap_eq_map']; exact hq)
  have h := hf d hd S' e
  cases nt with
  | n i => exact ⟨rfl, _, h, fun y S3 ⟨e1, e2⟩ => ⟨e1, congrArg some e2⟩⟩
  | t l =>
    cases d with
    | tup xs => exact ⟨h.1, rfl, _, h.2, fun y S3 ⟨e1, e2⟩ => ⟨e1, congrArg some e2⟩⟩
    | _ => exact False.elim h
theorem dcP_of {t : Bool} {wi : WI} {nt : NT} {tt : WT} {wk we : WE} {vs : List Nat} {sd : SD} {S : SO} {Q : KD} (items : List D) (f : D → Option (D × D)) (hi : wi sd S fun J S1 => J = ⟨items, fun _ => True⟩ ∧ S1 = S) (hl : items.length ≤ 100000)
    (hf : ∀ d ∈ items, ∀ S', Ext S S' → putNT nt d (wipeD sd vs) fun sd2 => tt sd2 S' fun b S2 => S2 = S' ∧ if b = true then up wk sd2 S' fun k S3 => S3 = S' ∧ keyOk t k ∧ up we sd2 S' fun y S4 => S4 = S' ∧ f d = some (k, y) else f d = none)
    (hq : Q (.dic t (dputsL [] (items.filterMap f))) S) : DcP t wi nt tt wk we vs sd S Q :=
  ⟨⟨_, hi, fun J S1 ⟨e1, e2⟩ => by
    subst e1 e2
    exact ⟨fun _ _ => trivial, hl, f, hf, hq⟩⟩⟩
theorem ifY {b : Bool} {A B : Prop} (e : b = true) (h : A) : if b = true then A else B := by
  rw [if_pos e]
  exact h
theorem isY {b : Bool} {Q : Bool → SO → Prop} {S : SO} (e : b = true) (h : Q true S) : IsB Q (.bl b) S := by
  rw [e]
  exact ⟨h⟩
theorem isN {b : Bool} {Q : Bool → SO → Prop} {S : SO} (e : b = false) (h : Q false S) : IsB Q (.bl b) S := by
  rw [e]
  exact ⟨h⟩
theorem isC {b : Bool} {Q : Bool → SO → Prop} {S : SO} (h1 : b = true → Q true S) (h2 : b = false → Q false S) : IsB Q (.bl b) S := by
  cases b with
  | true => exact ⟨h1 rfl⟩
  | false => exact ⟨h2 rfl⟩
theorem lez {n m : Nat} (h : Nat.ble n m = true) : n ≤ m := Nat.le_of_ble_eq_true h
theorem upI {we : WE} {sd : SD} {S : SO} {Q : KD} (h : we sd S Q) : up we sd S Q := ⟨Q, h, fun _ _ q => q⟩
theorem cl {Q : KD} {d : D} {S : SO} (h : Q d S) : Cl Q d S := .of h
theorem u65 {k : Nat} {A : Around} (r : Room k A) : A.units + 65 < cLine := by have := r.un; omega
section
variable {X : Cx} {x : Str} {pos : Pos}
theorem de_gS {z : Str} {t : Tok} (hm : X.mg x = some (.str z t)) (hg : Gl X x := by rfl) (hd : (x == ("__debug__" : Str)) = false := by decide) : DE X (.Name x pos) (wC (.str z)) := de_glob (v := .str z) hg hm ⟨t, rfl⟩ (fun _ _ _ => rfl) hd
theorem de_gI {z : Int} {t : Tok} (hm : X.mg x = some (.int z t)) (hg : Gl X x := by rfl) (hd : (x == ("__debug__" : Str)) = false := by decide) : DE X (.Name x pos) (wC (.int z)) := de_glob (v := .int z) hg hm ⟨t, rfl⟩ (fun _ _ _ => rfl) hd
theorem de_gC {a : Addr} (hm : X.mg x = some (.ref a)) (hg : Gl X x := by rfl) (hd : (x == ("__debug__" : Str)) = false := by decide) : DE X (.Name x pos) (wC (.obj a)) := de_glob (v := .ref a) hg hm rfl (fun _ _ _ => rfl) hd
theorem de_bT {T : String} (hm : X.mg x = none) (hv : bootBuiltins x = some (.type T)) (hg : Gl X x := by rfl) (hn : x ≠ "__name__" := by decide) (hd : (x == ("__debug__" : Str)) = false := by decide) : DE X (.Name x pos) (wC (.ty T)) := de_bltn (v := .ty T) hg hm hv rfl (fun _ _ _ => rfl) hn hd
end
theorem kit1_of {K : PySem.W.Frag} (C : Addr) : PySem.W.kitOne K (.ref C) (.ref C) = some true := by
  unfold PySem.W.kitOne
  rw [if_pos (by simp)]
theorem kit_own {K : PySem.W.Frag} {C : Addr} {z : ClassData} {n : String} (h1 : PySem.W.clsIn K C = some z) (h2 : PySem.W.typeIn K (.ref C) = some (.type "type")) {b : Bool} (h3 : PySem.W.subIn K (.type n) (.ref C) = some b) : PySem.W.kitOne K (.type n) (.ref C) = some b := by
  unfold PySem.W.kitOne
  rw [if_neg (by simp)]
  show (if ((PySem.W.clsIn K C).isSome && PySem.W.typeIn K (.ref C) == some (.type "type")) = true then PySem.W.subIn K (.type n) (.ref C) else none) = _
  rw [h1, h2, if_pos (by simp)]
  exact h3
theorem kit0_of {K : PySem.W.Frag} {C : Addr} {z : ClassData} (h1 : PySem.W.clsIn K C = some z) (h2 : PySem.W.typeIn K (.ref C) = some (.type "type")) (a0 : PySem.W.subIn K (.type "NoneType") (.ref C) = some false) (a1 : PySem.W.subIn K (.type "bool") (.ref C) = some false) (a2 : PySem.W.subIn K (.type "int") (.ref C) = some false)
    (a3 : PySem.W.subIn K (.type "str") (.ref C) = some false) (a4 : PySem.W.subIn K (.type "tuple") (.ref C) = some false) (a5 : PySem.W.subIn K (.type "list") (.ref C) = some false) (a6 : PySem.W.subIn K (.type "dict") (.ref C) = some false) : ∀ n ∈ tyNames, PySem.W.kitOne K (.type n) (.ref C) = some false := by
  intro n hn
  simp only [tyNames, List.mem_cons, List.not_mem_nil, or_false] at hn
  rcases hn with rfl | rfl | rfl | rfl | rfl | rfl | rfl
  · exact kit_own h1 h2 a0
  · exact kit_own h1 h2 a1
  · exact kit_own h1 h2 a2
  · exact kit_own h1 h2 a3
  · exact kit_own h1 h2 a4
  · exact kit_own h1 h2 a5
  · exact kit_own h1 h2 a6
end L2.DL

/-! DL16: own comparisons, join -/
namespace L2.DL
open PySem PySem.Spec PyProof.Rows
section
variable {X : Cx} {k : Nat} {g C : Addr} {fd : FuncData} {ps : List Str} {dsp : DSp}
/-- sep.join(texts) -/
def wJoin (ws wx : WE) : WE := fun sd S Q => ws sd S fun a S1 => (∃ z, a = .str z) ∧ wx sd S1 fun d S2 => ∃ (z : Str) (ys : List Str), a = .str z ∧ seqX S2 d = some (ys.map D.str) ∧ (ys.map (·.length)).sum + ys.length * z.length ≤ 16777216 ∧ Q (.str (Txt.join z ys)) S2
theorem de_join {o e : Expr} {wo we : WE} {apos pos : Pos} (ho : DE X o wo) (he : DE X e we) (hs : starEach [e] X.env = [(false, eval e X.env)] := by rfl) (hbase : attributeBase o "join" X.env (eval o X.env) = eval o X.env := by rfl) (hline : (apos.endLine == pos.line) = true := by rfl) :
    DE X (.Call (.Attribute o "join" apos) [e] [] pos) (wJoin wo we) := by
  refine pe_imp (pe_join ho he hs hbase hline) fun σ H Q ⟨sd, S, Q0, st, q, an⟩ => ⟨sd, S, _, st, q, fun d S1 v H1 ⟨⟨z, ez⟩, q1⟩ n1 s1 r1 => ?_⟩
  subst ez
  have ev : v = .str z := r1
  subst ev
  refine ⟨⟨z, rfl⟩, sd, S1, _, st.nx n1 s1, q1, fun d S2 u H2 ⟨z', ys, e1, e2, e3, q2⟩ n2 s2 r2 => ?_⟩
  cases e1
  obtain ⟨a, vs, rfl, hq, rv⟩ := seqX_at s2 r2 e2
  have := rels_strs rv
  subst this
  exact ⟨z, a, ys, rfl, rfl, hq, e3, an _ _ _ _ q2 (n1.trans n2) s2 rfl⟩
end
end L2.DL

/-! DL17: starred items, tuples displayed and known to have no dict -/
namespace L2.DL
open PySem PySem.Spec PyProof.Rows
section
variable {X : Cx} {e : Expr} {es : List Expr} {we : WE} {t : WA} {p pos : Pos}
def wStar (we : WE) (t : WA) : WA := fun sd S Q => we sd S fun d S1 => ∃ xs, seqX S1 d = some xs ∧ t sd S1 fun ys S2 => Q (xs ++ ys) S2
theorem da_star (he : DE X e we) (hr : DA X es t) (hs : starEach (.Starred e p :: es) X.env = (true, eval e X.env) :: starEach es X.env := by rfl) : DA X (.Starred e p :: es) (wStar we t) :=
  pa_imp (StX.pa_star he hr hs) fun σ H Q ⟨sd, S, Q0, st, q, an⟩ => ⟨sd, S, _, st, q, fun d S1 v H1 ⟨xs, e1, q1⟩ n1 s1 r1 => by
    obtain ⟨a, vs, rfl, hq, rv⟩ := seqX_at s1 r1 e1
    exact ⟨a, vs, rfl, hq.symm, sd, S1, _, st.nx n1 s1, q1, fun ys S2 us H2 q2 n2 s2 r2 => an _ _ _ _ q2 (n1.trans n2) s2 (Rels.app (Rels.nx n2 _ _ rv) r2)⟩⟩
def wTupF (t : WA) : WE := fun sd S Q => t sd S fun xs S1 => xs.length ≤ 1000000 ∧ Q (.tf xs) S1
theorem de_tupF {x1} (h : DA X es t) : DE X (.Tuple es x1 pos) (wTupF t) := by
  refine ⟨fun pins s σ H Q I ⟨sd, S, Q0, st, q, an⟩ => ?_⟩
  refine wpAny_Tuple_spliced (thn (h.run pos pins s σ H (fun vs H1 => ∃ xs S1, xs.length ≤ 1000000 ∧ Nx S H S1 H1 ∧ SRel X.K S1 H1 ∧ Rels X.K S1 H1 xs vs ∧ Q0 (.tf xs) S1) I ⟨sd, S, _, st, q, fun xs S1 vs H1 ⟨z, q1⟩ n1 s1 r1 => ⟨xs, S1, z, n1, s1, r1, q1⟩⟩)
    fun us s1 ⟨vs, H1, I1, r, xs, S1, z, n1, s1', r1, q1⟩ => ?_)
  have hz : us.length ≤ sizeLine := by rw [← r.length, ← r1.length]; exact le_line z
  refine ⟨hz, ?_⟩
  have hf : H1 s1.heap.objs.size = none := I1.hok.fresh (Nat.le_refl _)
  have I2 : Inv X pins σ (upd H1 s1.heap.objs.size (.frz { cls := .type "tuple", data := .seq us.toArray } (.tup vs))) { s1 with heap := s1.heap.push { cls := .type "tuple", data := .seq us.toArray } } :=
    I1.laid (t' := s1.toks) (fun b o e => Heap.get?_push_of_some _ e) (Nat.le_refl _) ⟨Heap.get?_push_size _ rfl, by rw [r.length]; exact hz, us, r, IsTup.new _ _⟩
  exact ⟨.ref s1.heap.objs.size, _, I2, rfl, an _ _ _ _ q1 (n1.trans (nx_new hf)) (s1'.new hf) ⟨_, vs, rfl, ⟨s1'.free hf, _, upd_same, rfl, rfl⟩, r1.nx (nx_new hf)⟩⟩
end
end L2.DL

/-! DL18: len, str, repr of own instances -/
namespace L2.DL
open PySem PySem.Spec PyProof.Rows
section
variable {X : Cx} {CX : CXT} {k : Nat} {g C : Addr} {fd : FuncData} {ps : List Str} {dsp : DSp}
theorem runG_at {A : Around} {sp : Sp} {E : XK} {pins : List (Addr × Obj)} {σ : St} {H : Hp} {s : Shared} {Q : VK} {args : Args} {us : List Value} {vs : List V} (F : FnG X.prog X.w X.K X.mg X.base CX k g fd ps sp) (hr : Room k A) (gd : A.guards = some [])
    (e0 : Env0 X.prog X.w X.K X.mg X.base A X.stack s H) (hx : Passes CX X E) (I : Inv X pins σ H s) (hb : BindsTo s fd args (ps.zip us)) (r : Vals vs us) (h : sp vs H Q E) : wpAny (model X.prog X.w) A (call (.ref g) args.pos args.kw) (EP X pins σ Q) X.xe s := by
  refine wpAny_call (codeAny_mono (F.go A X.stack s H args us vs Q E hr gd e0 hb r h) fun rs s' hq => ?_)
  have z := CE.call I hx hq
  cases rs with
  | error er => exact z
  | ok fl =>
    cases fl with
    | ret u => exact z
    | next => exact z.elim
    | brk => exact z.elim
    | cont => exact z.elim
/-- the special method of an own instance, called a frame or two below -/
theorem run_own {A : Around} {pins : List (Addr × Obj)} {σ : St} {H : Hp} {s : Shared} {Q : VK} {S : SO} {Q0 : KD} {d : D} {a : Addr} (F : FnD X.prog X.w X.K X.mg X.base k g fd ps dsp) (hr : Room k A) (gd : A.guards = some []) (hb : Binds X.K fd ps [])
    (e0 : Env0 X.prog X.w X.K X.mg X.base A X.stack s H) (I : Inv X pins σ H s) (sr : SRel X.K S H) (r1 : Rel X.K S H d (.ref a)) (q : dsp [d] S Q0 NoE) (an : Ans X.K S H Q0 Q) : wpAny (model X.prog X.w) A (call (.ref g) [.ref a]) (EP X pins σ Q) X.xe s := by
  have h : liftSp X.K dsp [V.ref a] H Q E0 := ⟨[d], S, Q0, NoE, sr, ⟨_, _, rfl, r1, rfl⟩, q, an, noE_ans⟩
  have z := hb s [.ref a] I.kIn (by rw [List.append_nil] at *; exact F.len _ _ _ _ h)
  exact runG_at (args := ⟨[.ref a], []⟩) (us := [.ref a]) (vs := [V.ref a]) F hr gd e0 pass0 I z (.cons rfl .nil) h
def cLenO (C : Addr) (dsp : DSp) : WL := fun xs S Q => one xs fun x => (∃ fs, InsD C x S fs) ∧ dsp [x] S (fun d S' => ∃ n : Nat, d = .int n ∧ n < 2 ^ 62 ∧ Q d S') NoE
theorem dc_lenO (hs : PySem.W.findIn X.K (.ref C) "__len__" = some (some (.ref g))) (hf : PySem.W.isFn X.K (.ref g) = true) (F : FnD X.prog X.w X.K X.mg X.base k g fd ps dsp) (hr : Room (k + 1) X.A) (gd : X.A.guards = some []) (hb : Binds X.K fd ps []) :
    DC X (.builtin "len") (cLenO C dsp) := by
  intro pins s σ H xs us Q I r ⟨ds, S, Q0, sr, rs, q, an⟩
  obtain ⟨x, rfl, ⟨fx, ix⟩, q⟩ := one_of q
  obtain ⟨v, rfl, rv⟩ := rs.v1
  obtain ⟨a, ax, lx, rfl, hx, _⟩ := ix.at sr rv
  obtain ⟨u, rfl, ru⟩ := vals1 r
  cases (show u = Value.ref a from ru)
  obtain ⟨mA, O, _⟩ := ins_get I.hok hx
  obtain ⟨od, J, _⟩ := O.look
  obtain ⟨m, hF⟩ := I.fr
  refine PySem.W.len_K hF I.ok.mod.kin J hs hf ?_
  refine wpAny_mono (run_own (Q := fun v H' => ∃ n : Nat, v = .int n ∧ n < 2 ^ 62 ∧ Q v H') F hr.in1 gd hb I.env0.in1 I sr rv q (fun d S' v H' ⟨n, e, hn, q'⟩ n' s' r' => ?_)) (fun w s' z => ?_) fun _ _ x => x
  · subst e
    have ev : v = .int n := r'
    subst ev
    exact ⟨n, rfl, hn, an _ _ _ _ q' n' s' rfl⟩
  · obtain ⟨z', H', I', rz, n, rfl, hn, qz⟩ := z
    obtain ⟨t, rfl⟩ := (show ∃ t, w = Value.int n t from rz)
    exact ⟨⟨by omega, by omega⟩, .int n, H', I'.tok _, ⟨_, rfl⟩, qz⟩
end
end L2.DL

/-! DL19: t[::-1] of tuples and lists -/
namespace L2.DL
open PySem PySem.Spec PyProof.Rows
section
variable {prog : Program} {w : World} {A : Around} {E : Value → Shared → Prop} {s : Shared}
theorem adjust_rev (n : Nat) : Builtin.Slice.sliceAdjust none none (-1) (n : Int) = ((n : Int) - 1, -1) := by
  unfold Builtin.Slice.sliceAdjust
  rfl
theorem places_rev (n : Nat) : Builtin.Slice.slicePlaces ((n : Int) - 1) (-1) (-1) = n := by
  unfold Builtin.Slice.slicePlaces
  have h1 : ¬ (-1 : Int) > 0 := by omega
  simp only [h1, if_false]
  split
  · rename_i h
    have e : ((n : Int) - 1 - -1 - 1) / (- -1) + 1 = n := by
      rw [show (- -1 : Int) = 1 by decide, Int.ediv_one]
      omega
    first
      | omega
      | (rw [show (- -1 : Int) = 1 by decide, Int.ediv_one]; omega)
  · omega
theorem sliceApplied_rev {sl : Addr} {vs : Value} {n : Nat} {Q : Int × Int × Nat → Shared → Prop} (hs : s.heap.IsSliceOf sl .none .none vs) (ps : IsPart vs (some (-1)))
    (h : Q ((n : Int) - 1, -1, n) s) : wpAny (model prog w) A (Builtin.Slice.sliceApplied (.ref sl) (pure (n : Int))) Q E s := by
  obtain ⟨os, hos, hcs, hds⟩ := id hs
  unfold Builtin.Slice.sliceApplied Builtin.Slice.sliceFields
  refine wpAny_bind (wpAny_bind (wpAny_field hos hds (x := .none) rfl (wpAny_bind (wpAny_field hos hds (x := .none) rfl (wpAny_bind (wpAny_field hos hds (x := vs) rfl (wpAny_pure ?_)))))))
  refine wpAny_bind (HT.slicePart_ ps ?_)
  show wpAny _ _ (if ((-1 : Int) == 0) = true then _ else _) _ _ s
  rw [if_neg (by decide)]
  refine wpAny_bind (HT.slicePart_ .none (wpAny_bind (HT.slicePart_ .none (wpAny_bind (wpAny_pure ?_)))))
  show wpAny _ _ (match Builtin.Slice.sliceAdjust none none (-1) (n : Int) with | (lo, hi) => pure (lo, (-1 : Int), Builtin.Slice.slicePlaces lo hi (-1))) _ _ s
  rw [adjust_rev n]
  show wpAny _ _ (pure ((n : Int) - 1, (-1 : Int), Builtin.Slice.slicePlaces ((n : Int) - 1) (-1) (-1))) _ _ s
  rw [places_rev]
  exact wpAny_pure h
theorem pick_rev (xs : Array Value) : ((List.range xs.size).filterMap fun (m : Nat) => xs[(((xs.size : Int) - 1) + (m : Int) * (-1)).toNat]?).toArray = xs.toList.reverse.toArray := by
  have e : (List.range xs.size).filterMap (fun (m : Nat) => xs[(((xs.size : Int) - 1) + (m : Int) * (-1)).toNat]?) = ((List.range xs.size).map fun k => xs.size - 1 - k).filterMap (xs[·]?) := by
    rw [List.filterMap_map]
    congr 1
    funext m
    have : (((xs.size : Int) - 1) + (m : Int) * (-1)).toNat = xs.size - 1 - m := by omega
    show xs[_]? = xs[_]?
    rw [this]
  rw [e, PySem.W.krv_range, List.filterMap_reverse, PySem.W.krv_all]
theorem getItem_tuple_rev {t sl : Addr} {items : Array Value} {vs : Value} {Q : Value → Shared → Prop} (ht : IsTup s.heap t items) (hs : s.heap.IsSliceOf sl .none .none vs) (ps : IsPart vs (some (-1)))
    (h : Q (.ref s.heap.objs.size) { s with heap := s.heap.push { cls := .type "tuple", data := .seq items.toList.reverse.toArray } })
    (hsz : items.size ≤ sizeLine) : wpAny (model prog w) A (getItem (.ref t) (.ref sl)) Q E s := by
  have htake : sizeOk (.seq items.toList.reverse.toArray) := by
    show items.toList.reverse.toArray.size ≤ sizeLine
    rw [List.size_toArray, List.length_reverse, Array.length_toList]
    exact hsz
  obtain ⟨os, hos, hcs, hds⟩ := id hs
  have hTs : s.TypeIs (.ref sl) "slice" := ⟨os, hos, hcs⟩
  unfold getItem
  try with_reducible refine wpAny_holding ?_
  first | refine wpAny_bind (wpAny_pure ?_) | skip
  refine wpAny_bind (wpAny_sequenceKey ht.typeIs (by decide) ?_)
  refine wpAny_bind (wpAny_callSpecial?_slot (name := Str.ofString "__getitem__") ht.typeIs PyProof.Rows.slot_tuple_getitem
    (wpAny_call_entry PyProof.Rows.slot_tuple_getitem ht.typeIs entry_tuple_getitem ?_ (args_tuple_getitem _ _)))
  show wpAny _ _ (Builtin.Tuple.tupleItemsOf (.ref t) >>= _) _ _ s
  refine wpAny_bind (tupleItemsOf_ ht ?_)
  refine wpAny_bind (wpAny_typeOf hTs ?_)
  rw [if_pos (by decide)]
  refine wpAny_bind (sliceApplied_rev hs ps ?_)
  show wpAny _ _ (if (((items.size : Int) - 1) == 0 && (-1 : Int) == 1 && items.size == items.size) = true then _ else _) _ _ s
  have hno : ¬ (((((items.size : Int) - 1) == 0 && (-1 : Int) == 1) && items.size == items.size) = true) := by
    rw [show ((-1 : Int) == 1) = false by decide, Bool.and_false, Bool.false_and]
    exact Bool.false_ne_true
  rw [if_neg hno, pick_rev]
  first
    | exact wpAny_bind (m := Builtin.Tuple.tupleExact _) (wpAny_newObj_type (wpAny_pure ⟨_, rfl, wpAny_pure h⟩) htake)
    | exact wpAny_bind (m := Builtin.Tuple.tupleExact _) (wpAny_newObj_type (wpAny_bind (wpAny_pure (wpAny_pure ⟨_, rfl, wpAny_pure h⟩))) htake)
    | exact wpAny_bind (wpAny_bind (m := Builtin.Tuple.tupleExact _) (wpAny_newObj_type (wpAny_pure (wpAny_pure ⟨_, rfl, wpAny_pure h⟩)) htake))
    | exact wpAny_bind (wpAny_bind (m := Builtin.Tuple.tupleExact _) (wpAny_newObj_type (wpAny_pure ⟨_, rfl, wpAny_pure h⟩) htake))
end
section
variable {X : Cx}
/-- t[::-1] of a tuple -/
def wRevT (we : WE) : WE := fun sd S Q => we sd S fun d S1 => ∃ xs, (d = .tf xs ∨ d = .tup xs ∨ d = .kt xs) ∧ Q (.tf xs.reverse) S1
theorem revs {K : PySem.W.Frag} {S : SO} {H : Hp} : ∀ {xs : List D} {vs : List V}, Rels K S H xs vs → Rels K S H xs.reverse vs.reverse
  | [], vs, h => by
    have e : vs = [] := h
    subst e
    exact rfl
  | d :: ds, vs, h => by
    obtain ⟨v, r, rfl, h1, h2⟩ := h
    rw [List.reverse_cons, List.reverse_cons]
    exact Rels.app (revs h2) ⟨v, [], rfl, h1, rfl⟩
theorem de_revT {e : Expr} {we : WE} {k : Nat} {p1 p2 p3 pos : Pos} (he : DE X e we) : DE X (.Subscript e (.Slice none none (some (.UnaryOp .USub (.Constant (.int 1) k p1) p2)) p3) pos) (wRevT we) := by
  refine ⟨fun pins s σ H Q I ⟨sd, S, Q0, st, q, an⟩ => ?_⟩
  refine Subscript_ (thn (he.run pins s σ H (fun v H1 => ∃ a vs xs S1, v = .ref a ∧ SqT X.K H1 a vs ∧ Nx S H S1 H1 ∧ SRel X.K S1 H1 ∧ Rels X.K S1 H1 xs vs ∧ Q0 (.tf xs.reverse) S1) I ⟨sd, S, _, st, q, fun d S1 v H1 ⟨xs, hd, q1⟩ n1 s1 r1 => ?_⟩) fun v s1 ⟨x, H1, I1, r1, q1⟩ => ?_)
  · rcases hd with rfl | rfl | rfl
    · obtain ⟨a, vs, rfl, t, rv⟩ := r1
      exact ⟨a, vs, xs, S1, rfl, t.sq, n1, s1, rv, q1⟩
    · obtain ⟨a, vs, rfl, t, rv⟩ := r1
      exact ⟨a, vs, xs, S1, rfl, t.sq, n1, s1, rv, q1⟩
    · obtain ⟨a, vs, rfl, t, rv⟩ := r1
      exact ⟨a, vs, xs, S1, rfl, t.sq, n1, s1, rv, q1⟩
  obtain ⟨a, xs, ys, S1, ex, hx, n1, sr1, rv, q⟩ := q1
  subst ex
  cases r1
  have hst : PO X (some (.UnaryOp .USub (.Constant (.int 1) k p1) p2)) (tPart (tUn (rU fun i => .int (-i)) (tC (.int 1)))) := po_some (pe_un un_neg pe_int)
  refine wpAny_Slice (thn (po_none.run pins s1 σ H1 (fun o H2 => o = none ∧ H2 = H1) I1 ⟨rfl, rfl⟩) fun vl s2 ⟨l, H2, I2, pl, el, e2⟩ => ?_)
  subst el e2
  refine thn (po_none.run pins s2 σ H2 (fun o H3 => o = none ∧ H3 = H2) I2 ⟨rfl, rfl⟩) fun vu s3 ⟨u, H3, I3, pu, eu, e3⟩ => ?_
  subst eu e3
  refine thn (hst.run pins s3 σ H3 (fun o H4 => o = some (-1) ∧ H4 = H3) I3 ⟨1, rfl, -1, rfl, rfl, rfl⟩) fun vs s4 ⟨o, H4, I4, ps, eo, e4⟩ => ?_
  subst eo e4
  cases pl
  cases pu
  have I5 : Inv X pins σ H4 { s4 with heap := s4.heap.push { cls := .type "slice", data := .fields #[.none, .none, vs] } } := I4.kept (t' := s4.toks) fun b ob q => Heap.get?_push_of_some _ q
  obtain ⟨its, r, ht, hz⟩ := I5.tuple hx
  have hlen := r.length
  show wpAny (model X.prog X.w) X.A (subscriptTail e (.Slice none none (some (.UnaryOp .USub (.Constant (.int 1) k p1) p2)) p3) (.ref a) (.ref s4.heap.objs.size)) (EP X pins σ Q) X.xe { s4 with heap := s4.heap.push { cls := .type "slice", data := .fields #[.none, .none, vs] } }
  refine tail_any (ops := [.ref a, .ref s4.heap.objs.size]) ht.typeIs (PyProof.Rows.slot_tuple_getitem.lookup) ?_ (by with_unfolding_all rfl)
  refine getItem_tuple_rev ht (Heap.IsSliceOf.new _ .none .none vs) ps ?_ (by rw [List.size_toArray]; omega)
  have hf := I5.hok.fresh (Nat.le_refl _)
  have hz2 : xs.reverse.length ≤ sizeLine := by rw [List.length_reverse]; exact hz
  refine ⟨.ref _, _, I5.laid (t' := s4.toks) (o := .frz { cls := .type "tuple", data := .seq its.reverse.toArray } (.tup xs.reverse)) (fun b ob q => Heap.get?_push_of_some _ q) (Nat.le_refl _) ?_, rfl, an _ _ _ _ q (n1.trans (nx_new hf)) (sr1.new hf) ⟨_, xs.reverse, rfl, ⟨sr1.free hf, _, upd_same, rfl, rfl⟩, (revs rv).nx (nx_new hf)⟩⟩
  exact ⟨Heap.get?_push_size _ rfl, hz2, _, r.reverse, IsTup.new _ _⟩
end
end L2.DL

/-! DL20: list comprehensions with two for -/
namespace L2.DL
open PySem PySem.Spec PyProof.Rows
section
variable {X : Cx}
variable {elt tg iter tg1 iter1 : Expr} {ifs ifs1 : List Expr} {scope : Scope} {own : List (Str × Nat)} {pos : Pos} {wi wi1 : WI} {nt nt1 : NT} {tt tt1 : WT} {we : WE}
end
end L2.DL

/-! DL21: list.insert, list.pop() -/
namespace L2.DL
open PySem PySem.Spec PyProof.Rows
section
variable {X : Cx}
def mInsert : WM := fun d xs S Q => two2 xs fun k y => ∃ a ys, ∃ i : Nat, k = .int (i : Nat) ∧ d = .obj a ∧ S a = some (.lst ys) ∧ ys.length < 1000000 ∧ i < 1000000 ∧ Q .non (S.set a (.lst (ys.take i ++ [y] ++ ys.drop i)))
theorem dm_insert : DM X "list.insert" mInsert := by
  intro pins s σ H x xs v us Q I rx rs ⟨d, ys, S, Q0, sr, r1, r2, q, an⟩
  obtain ⟨k, y, rfl, a, zs, i, rfl, rfl, hS, hl, hi, q⟩ := two2_of q
  have r1' : x = .ref a := r1
  obtain ⟨v1, u, rfl, rk, ru⟩ := r2.two
  have e1 : v1 = .int (i : Nat) := rk
  subst e1
  obtain ⟨vs, hv, rv⟩ := sr a _ hS
  have n2 : Nx S H (S.set a (.lst (zs.take i ++ [y] ++ zs.drop i))) (upd H a (.lst (vs.take i ++ [u] ++ vs.drop i))) := nx_put hS
  refine mt_insert pins s σ H x _ v us Q I rx rs ⟨a, vs, i, u, r1', rfl, hv, by rw [← rv.length]; exact Nat.lt_of_lt_of_le hl (le_line (Nat.le_refl _)), by omega, by omega, ?_⟩
  rw [Int.toNat_natCast]
  exact an _ _ _ _ q n2 (srel_put sr n2 ⟨_, upd_same, (((rv.take i).app (.one ru)).app (rv.drop i)).nx n2⟩) rfl
end
end L2.DL

/-! DL22: readings answered step by step, each step a lemma that fits by its head alone -/
namespace L2.DL
open PySem PySem.Spec PyProof.Rows
/-! one step: the lemmas that fit by their head alone are instances, so that Lean finds the one that fits by its index (no alternative is tried in vain) -/
inductive Lv | z | s (v : Lv)
class Step (v : Lv) (P : Prop) (Q : outParam Prop) : Prop where go : Q → P
abbrev NoS : SD → SO → Prop := fun _ _ => False
section
variable {n bk ct : SD → SO → Prop} {r : KD} {sd : SD} {S : SO} {Q : KD} {a b : WS} {we wa wb wc : WE} {t : WA} {o : Option D} {d x y : D} {i j : Int} {A B : Prop}
/-! statements -/
theorem xFn {w : WS} (h : w ⟨fun _ S' => Cl Q .non S', Cl Q, NoS, NoS⟩ sd S) : w (endsOf Q) sd S := h
theorem xSeq (h : a ⟨b ⟨n, r, bk, ct⟩, r, bk, ct⟩ sd S) : wSeq a b ⟨n, r, bk, ct⟩ sd S := h
instance st_xSeq {lw : Lv} : Step lw (wSeq a b ⟨n, r, bk, ct⟩ sd S) (a ⟨b ⟨n, r, bk, ct⟩, r, bk, ct⟩ sd S) := ⟨fun h => xSeq h⟩
theorem xNext (h : n sd S) : wNext ⟨n, r, bk, ct⟩ sd S := h
instance st_xNext {lw : Lv} : Step lw (wNext ⟨n, r, bk, ct⟩ sd S) (n sd S) := ⟨fun h => xNext h⟩
theorem xBreak (h : bk sd S) : wBreak ⟨n, r, bk, ct⟩ sd S := h
instance st_xBreak {lw : Lv} : Step lw (wBreak ⟨n, r, bk, ct⟩ sd S) (bk sd S) := ⟨fun h => xBreak h⟩
theorem xCont (h : ct sd S) : wCont ⟨n, r, bk, ct⟩ sd S := h
instance st_xCont {lw : Lv} : Step lw (wCont ⟨n, r, bk, ct⟩ sd S) (ct sd S) := ⟨fun h => xCont h⟩
theorem xRet (h : we sd S r) : wRet we ⟨n, r, bk, ct⟩ sd S := h
instance st_xRet {lw : Lv} : Step lw (wRet we ⟨n, r, bk, ct⟩ sd S) (we sd S r) := ⟨fun h => xRet h⟩
theorem xRetN (h : r .non S) : wRetN ⟨n, r, bk, ct⟩ sd S := h
instance st_xRetN {lw : Lv} : Step lw (wRetN ⟨n, r, bk, ct⟩ sd S) (r .non S) := ⟨fun h => xRetN h⟩
theorem xDrop (h : we sd S fun _ S1 => n sd S1) : wDrop we ⟨n, r, bk, ct⟩ sd S := h
instance st_xDrop {lw : Lv} : Step lw (wDrop we ⟨n, r, bk, ct⟩ sd S) (we sd S fun _ S1 => n sd S1) := ⟨fun h => xDrop h⟩
theorem xIfS {c : WT} (h : c sd S fun k S1 => if k = true then a ⟨n, r, bk, ct⟩ sd S1 else b ⟨n, r, bk, ct⟩ sd S1) : wIfS c a b ⟨n, r, bk, ct⟩ sd S := h
instance st_xIfS {lw : Lv} {c : WT} : Step lw (wIfS c a b ⟨n, r, bk, ct⟩ sd S) (c sd S fun k S1 => if k = true then a ⟨n, r, bk, ct⟩ sd S1 else b ⟨n, r, bk, ct⟩ sd S1) := ⟨fun h => xIfS h⟩
theorem xAsg {g : WG} (h : we sd S fun d S1 => g d sd S1 n) : wAsg we g ⟨n, r, bk, ct⟩ sd S := h
instance st_xAsg {lw : Lv} {g : WG} : Step lw (wAsg we g ⟨n, r, bk, ct⟩ sd S) (we sd S fun d S1 => g d sd S1 n) := ⟨fun h => xAsg h⟩
instance st_wSeqE {lw : Lv} : Step lw (wSeq a b (endsOf Q) sd S) (wSeq a b ⟨fun _ S' => Cl Q .non S', Cl Q, NoS, NoS⟩ sd S) := ⟨fun h => h⟩
instance st_wNextE {lw : Lv} : Step lw (wNext (endsOf Q) sd S) (wNext ⟨fun _ S' => Cl Q .non S', Cl Q, NoS, NoS⟩ sd S) := ⟨fun h => h⟩
instance st_wRetE {lw : Lv} : Step lw (wRet we (endsOf Q) sd S) (wRet we ⟨fun _ S' => Cl Q .non S', Cl Q, NoS, NoS⟩ sd S) := ⟨fun h => h⟩
instance st_wRetNE {lw : Lv} : Step lw (wRetN (endsOf Q) sd S) (wRetN ⟨fun _ S' => Cl Q .non S', Cl Q, NoS, NoS⟩ sd S) := ⟨fun h => h⟩
instance st_wDropE {lw : Lv} : Step lw (wDrop we (endsOf Q) sd S) (wDrop we ⟨fun _ S' => Cl Q .non S', Cl Q, NoS, NoS⟩ sd S) := ⟨fun h => h⟩
instance st_wIfSE {lw : Lv} {c : WT} : Step lw (wIfS c a b (endsOf Q) sd S) (wIfS c a b ⟨fun _ S' => Cl Q .non S', Cl Q, NoS, NoS⟩ sd S) := ⟨fun h => h⟩
instance st_wAsgE {lw : Lv} {g : WG} : Step lw (wAsg we g (endsOf Q) sd S) (wAsg we g ⟨fun _ S' => Cl Q .non S', Cl Q, NoS, NoS⟩ sd S) := ⟨fun h => h⟩
/-! targets -/
section
variable {Qg : SD → SO → Prop} {ds : List D} {g : WG} {gs : WGs}
theorem g0 (h : Qg (some d :: sd) S) : gV 0 d (o :: sd) S Qg := h
instance st_g0 {lw : Lv} : Step lw (gV 0 d (o :: sd) S Qg) (Qg (some d :: sd) S) := ⟨fun h => g0 h⟩
theorem gSu {k : Nat} (h : gV k d sd S fun sd' S' => Qg (o :: sd') S') : gV (k + 1) d (o :: sd) S Qg := h
instance st_gSu {lw : Lv} {k : Nat} : Step lw (gV (k + 1) d (o :: sd) S Qg) (gV k d sd S fun sd' S' => Qg (o :: sd') S') := ⟨fun h => gSu h⟩
theorem gTup {k : Nat} (h : gs ds sd S Qg) (hl : ds.length = k := by with_unfolding_all rfl) : gT k gs (.tup ds) sd S Qg := ⟨hl, h⟩
theorem gCons (h : g d sd S fun sd1 S1 => gs ds sd1 S1 Qg) : gC g gs (d :: ds) sd S Qg := h
instance st_gCons {lw : Lv} : Step lw (gC g gs (d :: ds) sd S Qg) (g d sd S fun sd1 S1 => gs ds sd1 S1 Qg) := ⟨fun h => gCons h⟩
theorem gNil (h : Qg sd S) : gN [] sd S Qg := ⟨rfl, h⟩
instance st_gNil {lw : Lv} : Step lw (gN [] sd S Qg) (Qg sd S) := ⟨fun h => gNil h⟩
end
/-! names, constants -/
theorem v0 (h : Q d S) : wV 0 (some d :: sd) S Q := h
instance st_v0 {lw : Lv} : Step lw (wV 0 (some d :: sd) S Q) (Q d S) := ⟨fun h => v0 h⟩
theorem vS {k : Nat} (h : wV k sd S Q) : wV (k + 1) (o :: sd) S Q := by
  unfold wV at h ⊢
  rw [List.getElem?_cons_succ]
  exact h
instance st_vS {lw : Lv} {k : Nat} : Step lw (wV (k + 1) (o :: sd) S Q) (wV k sd S Q) := ⟨fun h => vS h⟩
theorem xC (h : Q d S) : wC d sd S Q := h
instance st_xC {lw : Lv} : Step lw (wC d sd S Q) (Q d S) := ⟨fun h => xC h⟩
/-! operators -/
theorem xO {w : WO} (h : wa sd S fun x S1 => wb sd S1 fun y S2 => w x y S2 Q) : wO w wa wb sd S Q := h
instance st_xO {lw : Lv} {w : WO} : Step lw (wO w wa wb sd S Q) (wa sd S fun x S1 => wb sd S1 fun y S2 => w x y S2 Q) := ⟨fun h => xO h⟩
theorem xU {w : WU} (h : wa sd S fun x S1 => w x S1 Q) : wU w wa sd S Q := h
instance st_xU {lw : Lv} {w : WU} : Step lw (wU w wa sd S Q) (wa sd S fun x S1 => w x S1 Q) := ⟨fun h => xU h⟩
theorem xCall {w : WL} (h : t sd S fun xs S1 => w xs S1 Q) : wCall w t sd S Q := h
instance st_xCall {lw : Lv} {w : WL} : Step lw (wCall w t sd S Q) (t sd S fun xs S1 => w xs S1 Q) := ⟨fun h => xCall h⟩
section
variable {Qa : List D → SO → Prop}
theorem xNil (h : Qa [] S) : wNil sd S Qa := h
instance st_xNil {lw : Lv} : Step lw (wNil sd S Qa) (Qa [] S) := ⟨fun h => xNil h⟩
theorem xCons (h : we sd S fun x S1 => t sd S1 fun xs S2 => Qa (x :: xs) S2) : wCons we t sd S Qa := h
instance st_xCons {lw : Lv} : Step lw (wCons we t sd S Qa) (we sd S fun x S1 => t sd S1 fun xs S2 => Qa (x :: xs) S2) := ⟨fun h => xCons h⟩
theorem xStar (h : we sd S fun d S1 => ∃ xs, seqX S1 d = some xs ∧ t sd S1 fun ys S2 => Qa (xs ++ ys) S2) : wStar we t sd S Qa := h
instance st_xStar {lw : Lv} : Step lw (wStar we t sd S Qa) (we sd S fun d S1 => ∃ xs, seqX S1 d = some xs ∧ t sd S1 fun ys S2 => Qa (xs ++ ys) S2) := ⟨fun h => xStar h⟩
end
theorem xTup (h : t sd S fun xs S1 => xs.length ≤ 1000000 ∧ Q (.tup xs) S1) : wTup t sd S Q := h
instance st_xTup {lw : Lv} : Step lw (wTup t sd S Q) (t sd S fun xs S1 => xs.length ≤ 1000000 ∧ Q (.tup xs) S1) := ⟨fun h => xTup h⟩
theorem xTupF (h : t sd S fun xs S1 => xs.length ≤ 1000000 ∧ Q (.tf xs) S1) : wTupF t sd S Q := h
instance st_xTupF {lw : Lv} : Step lw (wTupF t sd S Q) (t sd S fun xs S1 => xs.length ≤ 1000000 ∧ Q (.tf xs) S1) := ⟨fun h => xTupF h⟩
theorem xLst (h : t sd S fun xs S1 => xs.length ≤ 1000000 ∧ Q (.lst xs) S1) : wLst t sd S Q := h
instance st_xLst {lw : Lv} : Step lw (wLst t sd S Q) (t sd S fun xs S1 => xs.length ≤ 1000000 ∧ Q (.lst xs) S1) := ⟨fun h => xLst h⟩
theorem xNew (h : t sd S fun xs S1 => xs.length ≤ 1000000 ∧ ∀ p, S1 p = none → Q (.obj p) (S1.set p (.lst xs))) : wNew t sd S Q := h
instance st_xNew {lw : Lv} : Step lw (wNew t sd S Q) (t sd S fun xs S1 => xs.length ≤ 1000000 ∧ ∀ p, S1 p = none → Q (.obj p) (S1.set p (.lst xs))) := ⟨fun h => xNew h⟩
theorem andL (ha : A) (hb : B) : A ∧ B := ⟨ha, hb⟩
/-! truths -/
section
variable {Qb : Bool → SO → Prop} {tt tu : WT}
theorem xB (h : wa sd S (isB Qb)) : wB wa sd S Qb := h
instance st_xB {lw : Lv} : Step lw (wB wa sd S Qb) (wa sd S (isB Qb)) := ⟨fun h => xB h⟩
theorem xAnd (h : tt sd S fun k S1 => if k = true then tu sd S1 Qb else Qb false S1) : wAnd tt tu sd S Qb := h
instance st_xAnd {lw : Lv} : Step lw (wAnd tt tu sd S Qb) (tt sd S fun k S1 => if k = true then tu sd S1 Qb else Qb false S1) := ⟨fun h => xAnd h⟩
theorem xOr (h : tt sd S fun k S1 => if k = true then Qb true S1 else tu sd S1 Qb) : wOr tt tu sd S Qb := h
instance st_xOr {lw : Lv} : Step lw (wOr tt tu sd S Qb) (tt sd S fun k S1 => if k = true then Qb true S1 else tu sd S1 Qb) := ⟨fun h => xOr h⟩
theorem xNot (h : tt sd S fun k S1 => Qb (!k) S1) : wNot tt sd S Qb := h
instance st_xNot {lw : Lv} : Step lw (wNot tt sd S Qb) (tt sd S fun k S1 => Qb (!k) S1) := ⟨fun h => xNot h⟩
theorem xAndV (h : wa sd S (isB fun k S1 => if k = true then wb sd S1 Q else Q (.bl false) S1)) : wAndV wa wb sd S Q := h
instance st_xAndV {lw : Lv} : Step lw (wAndV wa wb sd S Q) (wa sd S (isB fun k S1 => if k = true then wb sd S1 Q else Q (.bl false) S1)) := ⟨fun h => xAndV h⟩
theorem xOrV (h : wa sd S (isB fun k S1 => if k = true then Q (.bl true) S1 else wb sd S1 Q)) : wOrV wa wb sd S Q := h
instance st_xOrV {lw : Lv} : Step lw (wOrV wa wb sd S Q) (wa sd S (isB fun k S1 => if k = true then Q (.bl true) S1 else wb sd S1 Q)) := ⟨fun h => xOrV h⟩
theorem xNotV (h : wa sd S (isB fun k S1 => Q (.bl (!k)) S1)) : wNotV wa sd S Q := h
instance st_xNotV {lw : Lv} : Step lw (wNotV wa sd S Q) (wa sd S (isB fun k S1 => Q (.bl (!k)) S1)) := ⟨fun h => xNotV h⟩
theorem xIf {tt : WT} (h : tt sd S fun k S1 => if k = true then wa sd S1 Q else wb sd S1 Q) : wIf tt wa wb sd S Q := h
instance st_xIf {lw : Lv} {tt : WT} : Step lw (wIf tt wa wb sd S Q) (tt sd S fun k S1 => if k = true then wa sd S1 Q else wb sd S1 Q) := ⟨fun h => xIf h⟩
theorem xCh {w w' : WO} (h : wa sd S fun x S1 => wb sd S1 fun y S2 => w x y S2 (isB fun k S3 => if k = true then wc sd S3 fun u S4 => w' y u S4 Q else Q (.bl false) S3)) : wCh w w' wa wb wc sd S Q := h
instance st_xCh {lw : Lv} {w w' : WO} : Step lw (wCh w w' wa wb wc sd S Q) (wa sd S fun x S1 => wb sd S1 fun y S2 => w x y S2 (isB fun k S3 => if k = true then wc sd S3 fun u S4 => w' y u S4 Q else Q (.bl false) S3)) := ⟨fun h => xCh h⟩
theorem xYes (h : Qb true S) : wYes sd S Qb := h
instance st_xYes {lw : Lv} : Step lw (wYes sd S Qb) (Qb true S) := ⟨fun h => xYes h⟩
theorem isT (h : Qb true S) : isB Qb (.bl true) S := ⟨h⟩
instance st_isT {lw : Lv} : Step lw (isB Qb (.bl true) S) (Qb true S) := ⟨fun h => isT h⟩
theorem isF (h : Qb false S) : isB Qb (.bl false) S := ⟨h⟩
instance st_isF {lw : Lv} : Step lw (isB Qb (.bl false) S) (Qb false S) := ⟨fun h => isF h⟩
theorem isT' (h : Qb true S) : IsB Qb (.bl true) S := ⟨h⟩
instance st_isT' {lw : Lv} : Step lw (IsB Qb (.bl true) S) (Qb true S) := ⟨fun h => isT' h⟩
theorem isF' (h : Qb false S) : IsB Qb (.bl false) S := ⟨h⟩
instance st_isF' {lw : Lv} : Step lw (IsB Qb (.bl false) S) (Qb false S) := ⟨fun h => isF' h⟩
theorem isD {P : Prop} [Decidable P] (h1 : P → Qb true S) (h2 : ¬ P → Qb false S) : isB Qb (.bl (decide P)) S := by
  by_cases h : P
  · rw [decide_eq_true h]
    exact ⟨h1 h⟩
  · rw [decide_eq_false h]
    exact ⟨h2 h⟩
theorem isCB {c : Bool} (h1 : c = true → Qb true S) (h2 : c = false → Qb false S) : isB Qb (.bl c) S := isC h1 h2
theorem isYB {c : Bool} (e : c = true) (q : Qb true S) : isB Qb (.bl c) S := isY e q
theorem isNB {c : Bool} (e : c = false) (q : Qb false S) : isB Qb (.bl c) S := isN e q
theorem iT (h : A) : if true = true then A else B := by
  rw [if_pos rfl]
  exact h
instance st_iT {lw : Lv} : Step lw (if true = true then A else B) (A) := ⟨fun h => iT h⟩
theorem iF (h : B) : if false = true then A else B := by
  rw [if_neg Bool.false_ne_true]
  exact h
instance st_iF {lw : Lv} : Step lw (if false = true then A else B) (B) := ⟨fun h => iF h⟩
theorem iNT (h : B) : if (!true) = true then A else B := iF h
instance st_iNT {lw : Lv} : Step lw (if (!true) = true then A else B) (B) := ⟨fun h => iNT h⟩
theorem iNF (h : A) : if (!false) = true then A else B := iT h
instance st_iNF {lw : Lv} : Step lw (if (!false) = true then A else B) (A) := ⟨fun h => iNF h⟩
end
/-! ints -/
theorem iAdd (h : Q (.int (i + j)) S) : oAdd (.int i) (.int j) S Q := h
instance st_iAdd {lw : Lv} : Step lw (oAdd (.int i) (.int j) S Q) (Q (.int (i + j)) S) := ⟨fun h => iAdd h⟩
theorem iSub (h : Q (.int (i - j)) S) : oSub (.int i) (.int j) S Q := ⟨trivial, h⟩
instance st_iSub {lw : Lv} : Step lw (oSub (.int i) (.int j) S Q) (Q (.int (i - j)) S) := ⟨fun h => iSub h⟩
theorem iAnd (h : Q (.int (Builtin.bitAnd i j)) S) : oAnd (.int i) (.int j) S Q := ⟨trivial, h⟩
instance st_iAnd {lw : Lv} : Step lw (oAnd (.int i) (.int j) S Q) (Q (.int (Builtin.bitAnd i j)) S) := ⟨fun h => iAnd h⟩
theorem iOr (h : Q (.int (Builtin.bitOr i j)) S) : oOr (.int i) (.int j) S Q := ⟨trivial, h⟩
instance st_iOr {lw : Lv} : Step lw (oOr (.int i) (.int j) S Q) (Q (.int (Builtin.bitOr i j)) S) := ⟨fun h => iOr h⟩
theorem iLt (h : Q (.bl (decide (i < j))) S) : oLt (.int i) (.int j) S Q := ⟨trivial, h⟩
instance st_iLt {lw : Lv} : Step lw (oLt (.int i) (.int j) S Q) (Q (.bl (decide (i < j))) S) := ⟨fun h => iLt h⟩
theorem iLe (h : Q (.bl (decide (i ≤ j))) S) : oLe (.int i) (.int j) S Q := ⟨trivial, h⟩
instance st_iLe {lw : Lv} : Step lw (oLe (.int i) (.int j) S Q) (Q (.bl (decide (i ≤ j))) S) := ⟨fun h => iLe h⟩
theorem iGt (h : Q (.bl (decide (j < i))) S) : oGt (.int i) (.int j) S Q := ⟨trivial, h⟩
instance st_iGt {lw : Lv} : Step lw (oGt (.int i) (.int j) S Q) (Q (.bl (decide (j < i))) S) := ⟨fun h => iGt h⟩
theorem iGe (h : Q (.bl (decide (j ≤ i))) S) : oGe (.int i) (.int j) S Q := ⟨trivial, h⟩
instance st_iGe {lw : Lv} : Step lw (oGe (.int i) (.int j) S Q) (Q (.bl (decide (j ≤ i))) S) := ⟨fun h => iGe h⟩
theorem iEq (h : Q (.bl (decide (i = j))) S) : oEq (.int i) (.int j) S Q := h
instance st_iEq {lw : Lv} : Step lw (oEq (.int i) (.int j) S Q) (Q (.bl (decide (i = j))) S) := ⟨fun h => iEq h⟩
theorem iNe (h : Q (.bl (!decide (i = j))) S) : oNe (.int i) (.int j) S Q := h
instance st_iNe {lw : Lv} : Step lw (oNe (.int i) (.int j) S Q) (Q (.bl (!decide (i = j))) S) := ⟨fun h => iNe h⟩
theorem sEq {u v : Str} (h : Q (.bl (decide (u = v))) S) : oEq (.str u) (.str v) S Q := h
instance st_sEq {lw : Lv} {u v : Str} : Step lw (oEq (.str u) (.str v) S Q) (Q (.bl (decide (u = v))) S) := ⟨fun h => sEq h⟩
theorem sNe {u v : Str} (h : Q (.bl (!decide (u = v))) S) : oNe (.str u) (.str v) S Q := h
instance st_sNe {lw : Lv} {u v : Str} : Step lw (oNe (.str u) (.str v) S Q) (Q (.bl (!decide (u = v))) S) := ⟨fun h => sNe h⟩
theorem iNeg (h : Q (.int (-i)) S) : oNeg (.int i) S Q := h
instance st_iNeg {lw : Lv} : Step lw (oNeg (.int i) S Q) (Q (.int (-i)) S) := ⟨fun h => iNeg h⟩
theorem isN1 (h : Q (.bl true) S) : oIsN .non .non S Q := ⟨rfl, h⟩
instance st_isN1 {lw : Lv} : Step lw (oIsN .non .non S Q) (Q (.bl true) S) := ⟨fun h => isN1 h⟩
theorem isN2 (h : Q (.bl (isNon d)) S) : oIsN d .non S Q := ⟨rfl, h⟩
instance st_isN2 {lw : Lv} : Step lw (oIsN d .non S Q) (Q (.bl (isNon d)) S) := ⟨fun h => isN2 h⟩
theorem noN2 (h : Q (.bl (!isNon d)) S) : oNotN d .non S Q := ⟨rfl, h⟩
instance st_noN2 {lw : Lv} : Step lw (oNotN d .non S Q) (Q (.bl (!isNon d)) S) := ⟨fun h => noN2 h⟩
/-! lengths -/
section
variable {k : Nat → Prop} {xs : List D} {α : Type} {f : α → D} {l : List α}
theorem xLen (h : lenD S x fun n => Q (.int (n : Nat)) S) : cLen [x] S Q := h
instance st_xLen {lw : Lv} : Step lw (cLen [x] S Q) (lenD S x fun n => Q (.int (n : Nat)) S) := ⟨fun h => xLen h⟩
theorem lTupM (h : k l.length) : lenD S (.tup (l.map f)) k := len_seq rfl (by rw [List.length_map]; exact h)
instance st_lTupM {lw : Lv} : Step lw (lenD S (.tup (l.map f)) k) (k l.length) := ⟨fun h => lTupM h⟩
theorem lTfM (h : k l.length) : lenD S (.tf (l.map f)) k := len_seq rfl (by rw [List.length_map]; exact h)
instance st_lTfM {lw : Lv} : Step lw (lenD S (.tf (l.map f)) k) (k l.length) := ⟨fun h => lTfM h⟩
theorem lLstM (h : k l.length) : lenD S (.lst (l.map f)) k := len_seq rfl (by rw [List.length_map]; exact h)
instance st_lLstM {lw : Lv} : Step lw (lenD S (.lst (l.map f)) k) (k l.length) := ⟨fun h => lLstM h⟩
theorem lSrcM (h : k l.length) : lenD S (.src (l.map f)) k := len_seq rfl (by rw [List.length_map]; exact h)
instance st_lSrcM {lw : Lv} : Step lw (lenD S (.src (l.map f)) k) (k l.length) := ⟨fun h => lSrcM h⟩
theorem lTup (h : k xs.length) : lenD S (.tup xs) k := len_seq rfl h
instance st_lTup {lw : Lv} : Step lw (lenD S (.tup xs) k) (k xs.length) := ⟨fun h => lTup h⟩
theorem lTf (h : k xs.length) : lenD S (.tf xs) k := len_seq rfl h
instance st_lTf {lw : Lv} : Step lw (lenD S (.tf xs) k) (k xs.length) := ⟨fun h => lTf h⟩
theorem lLst (h : k xs.length) : lenD S (.lst xs) k := len_seq rfl h
instance st_lLst {lw : Lv} : Step lw (lenD S (.lst xs) k) (k xs.length) := ⟨fun h => lLst h⟩
theorem lSrc (h : k xs.length) : lenD S (.src xs) k := len_seq rfl h
instance st_lSrc {lw : Lv} : Step lw (lenD S (.src xs) k) (k xs.length) := ⟨fun h => lSrc h⟩
theorem lObj {p : Addr} (e : S p = some (.lst xs)) (h : k xs.length) : lenD S (.obj p) k := len_seq (show objL (S p) = _ by rw [e]; rfl) h
theorem lObjM {p : Addr} (e : S p = some (.lst (l.map f))) (h : k l.length) : lenD S (.obj p) k := lObj e (by rw [List.length_map]; exact h)
theorem lDic {t : Bool} {kvs : List (D × D)} (h : k kvs.length) : lenD S (.dic t kvs) k := ⟨.inr ⟨t, kvs, rfl, h⟩⟩
instance st_lDic {lw : Lv} {t : Bool} {kvs : List (D × D)} : Step lw (lenD S (.dic t kvs) k) (k kvs.length) := ⟨fun h => lDic h⟩
/-! all, any -/
theorem xAll {bs : List Bool} (h : Q (.bl (bs.all id)) S) : cAll [.lst (bs.map D.bl)] S Q := ⟨bs, rfl, h⟩
instance st_xAll {lw : Lv} {bs : List Bool} : Step lw (cAll [.lst (bs.map D.bl)] S Q) (Q (.bl (bs.all id)) S) := ⟨fun h => xAll h⟩
theorem xAllM {g : α → Bool} (h : Q (.bl (l.all g)) S) : cAll [.lst (l.map fun z => .bl (g z))] S Q := ⟨l.map g, by show some _ = some _; rw [List.map_map]; rfl, by show Q (.bl ((l.map g).all id)) S; rw [List.all_map]; exact h⟩
instance st_xAllM {lw : Lv} {g : α → Bool} : Step lw (cAll [.lst (l.map fun z => .bl (g z))] S Q) (Q (.bl (l.all g)) S) := ⟨fun h => xAllM h⟩
theorem xAnyM {g : α → Bool} (h : Q (.bl (l.any g)) S) : cAny [.lst (l.map fun z => .bl (g z))] S Q := ⟨l.map g, by show some _ = some _; rw [List.map_map]; rfl, by show Q (.bl ((l.map g).any id)) S; rw [List.any_map]; exact h⟩
instance st_xAnyM {lw : Lv} {g : α → Bool} : Step lw (cAny [.lst (l.map fun z => .bl (g z))] S Q) (Q (.bl (l.any g)) S) := ⟨fun h => xAnyM h⟩
end
/-! items by index -/
section
variable {xs : List D} {k : Nat} {α : Type} {f : α → D} {l : List α} {z : α}
theorem ixTf (e : atI xs i = some d) (h : Q d S) : oIx (.tf xs) (.int i) S Q := .inl ⟨xs, i, d, rfl, rfl, e, h⟩
theorem ixTup (e : atI xs i = some d) (h : Q d S) : oIx (.tup xs) (.int i) S Q := .inl ⟨xs, i, d, rfl, rfl, e, h⟩
theorem ixLst (e : atI xs i = some d) (h : Q d S) : oIx (.lst xs) (.int i) S Q := .inl ⟨xs, i, d, rfl, rfl, e, h⟩
theorem at0 {v : D} {vs : List D} : atI (v :: vs) 0 = some v := atI_nat (j := 0) rfl
theorem at1 {v u : D} {vs : List D} : atI (v :: u :: vs) 1 = some u := atI_nat (j := 1) rfl
theorem atM (e : l[k]? = some z) : atI (l.map f) ((k : Nat) : Int) = some (f z) := atI_nat (by rw [List.getElem?_map, e]; rfl)
end
/-! calls -/
theorem xFnC {sp : DSp} (h : t sd S fun xs S1 => sp xs S1 Q NoE) : wFn sp [] t sd S Q := by
  unfold wFn
  simp only [List.append_nil]
  exact h
instance st_xFnC {lw : Lv} {sp : DSp} : Step lw (wFn sp [] t sd S Q) (t sd S fun xs S1 => sp xs S1 Q NoE) := ⟨fun h => xFnC h⟩
/-! attributes, methods of instances -/
def FldD (C : Addr) (g : Str) (d : D) (S : SO) (Q : KD) : Prop := ∃ fs v, InsD C d S fs ∧ fs.lookup g = some v ∧ Q v S
theorem xFld {C : Addr} {g : Str} (h : we sd S fun d S1 => FldD C g d S1 Q) : wFld C g we sd S Q := h
instance st_xFld {lw : Lv} {C : Addr} {g : Str} : Step lw (wFld C g we sd S Q) (we sd S fun d S1 => FldD C g d S1 Q) := ⟨fun h => xFld h⟩
def MthD (C : Addr) (m : Str) (d : D) (S : SO) (A : Prop) : Prop := (∃ fs, InsD C d S fs ∧ fs.lookup m = none) ∧ A
theorem xMth {C : Addr} {m : Str} {sp : DSp} (h : we sd S fun d S1 => MthD C m d S1 (t sd S1 fun xs S2 => sp (d :: xs) S2 Q NoE)) : wMeth C m sp [] we t sd S Q := by
  unfold wMeth
  simp only [List.append_nil]
  exact h
instance st_xMth {lw : Lv} {C : Addr} {m : Str} {sp : DSp} : Step lw (wMeth C m sp [] we t sd S Q) (we sd S fun d S1 => MthD C m d S1 (t sd S1 fun xs S2 => sp (d :: xs) S2 Q NoE)) := ⟨fun h => xMth h⟩
/-! what is walked -/
section
variable {R : ItD → SO → Prop} {Rs : List D → (SO → Prop) → Prop} {xs : List D}
theorem xSeqI (h : we sd S fun d S1 => seqD d S1 fun xs ok => R ⟨xs, ok⟩ S1) : wSeqI we sd S R := h
instance st_xSeqI {lw : Lv} : Step lw (wSeqI we sd S R) (we sd S fun d S1 => seqD d S1 fun xs ok => R ⟨xs, ok⟩ S1) := ⟨fun h => xSeqI h⟩
theorem sTup (h : Rs xs fun _ => True) : seqD (.tup xs) S Rs := h
instance st_sTup {lw : Lv} : Step lw (seqD (.tup xs) S Rs) (Rs xs fun _ => True) := ⟨fun h => sTup h⟩
theorem sTf (h : Rs xs fun _ => True) : seqD (.tf xs) S Rs := h
instance st_sTf {lw : Lv} : Step lw (seqD (.tf xs) S Rs) (Rs xs fun _ => True) := ⟨fun h => sTf h⟩
theorem sLst (h : Rs xs fun _ => True) : seqD (.lst xs) S Rs := h
instance st_sLst {lw : Lv} : Step lw (seqD (.lst xs) S Rs) (Rs xs fun _ => True) := ⟨fun h => sLst h⟩
theorem sSrc (h : Rs xs fun _ => True) : seqD (.src xs) S Rs := h
instance st_sSrc {lw : Lv} : Step lw (seqD (.src xs) S Rs) (Rs xs fun _ => True) := ⟨fun h => sSrc h⟩
theorem sObj {p : Addr} (e : S p = some (.lst xs)) (h : Rs xs fun S => S p = some (.lst xs)) : seqD (.obj p) S Rs := ⟨xs, e, h⟩
theorem xEnum (h : t sd S fun xs S1 => one xs fun d => seqD d S1 fun ys ok => R ⟨enumD ys, ok⟩ S1) : wEnum t sd S R := h
instance st_xEnum {lw : Lv} : Step lw (wEnum t sd S R) (t sd S fun xs S1 => one xs fun d => seqD d S1 fun ys ok => R ⟨enumD ys, ok⟩ S1) := ⟨fun h => xEnum h⟩
theorem one1 {k : D → Prop} (h : k d) : one [d] k := h
instance st_one1 {lw : Lv} {k : D → Prop} : Step lw (one [d] k) (k d) := ⟨fun h => one1 h⟩
theorem xRng1 (h : t sd S fun xs S1 => int1 xs fun j => -(2 ^ 62) ≤ j ∧ j < 2 ^ 62 ∧ R ⟨rangeD 0 j, fun _ => True⟩ S1) : wRng1 t sd S R := h
instance st_xRng1 {lw : Lv} : Step lw (wRng1 t sd S R) (t sd S fun xs S1 => int1 xs fun j => -(2 ^ 62) ≤ j ∧ j < 2 ^ 62 ∧ R ⟨rangeD 0 j, fun _ => True⟩ S1) := ⟨fun h => xRng1 h⟩
theorem xRng2 (h : t sd S fun xs S1 => int2 xs fun i j => (-(2 ^ 62) ≤ i ∧ i < 2 ^ 62 ∧ -(2 ^ 62) ≤ j ∧ j < 2 ^ 62) ∧ R ⟨rangeD i j, fun _ => True⟩ S1) : wRng2 t sd S R := h
instance st_xRng2 {lw : Lv} : Step lw (wRng2 t sd S R) (t sd S fun xs S1 => int2 xs fun i j => (-(2 ^ 62) ≤ i ∧ i < 2 ^ 62 ∧ -(2 ^ 62) ≤ j ∧ j < 2 ^ 62) ∧ R ⟨rangeD i j, fun _ => True⟩ S1) := ⟨fun h => xRng2 h⟩
theorem int1' {k : Int → Prop} (h : k i) : int1 [.int i] k := h
instance st_int1' {lw : Lv} {k : Int → Prop} : Step lw (int1 [.int i] k) (k i) := ⟨fun h => int1' h⟩
theorem int2' {k : Int → Int → Prop} (h : k i j) : int2 [.int i, .int j] k := h
instance st_int2' {lw : Lv} {k : Int → Int → Prop} : Step lw (int2 [.int i, .int j] k) (k i j) := ⟨fun h => int2' h⟩
theorem rng1N {k : Nat} (hk : k ≤ 1000000) (h : R ⟨rangeD 0 (k : Nat), fun _ => True⟩ S) : -(2 ^ 62) ≤ ((k : Nat) : Int) ∧ ((k : Nat) : Int) < 2 ^ 62 ∧ R ⟨rangeD 0 (k : Nat), fun _ => True⟩ S := ⟨by omega, by omega, h⟩
theorem rangeN (k : Nat) : rangeD 0 ((k : Nat) : Int) = (List.range k).map fun i => .int ((i : Nat) : Int) := by
  unfold rangeD
  rw [show ((k : Int) - 0).toNat = k by omega]
  exact List.map_congr_left fun i _ => by rw [Int.zero_add]
end
/-! slices -/
theorem xSl {tl th : WP} (h : we sd S fun d S1 => tl sd S1 fun lo S2 => th sd S2 fun hi S3 => sliD d S3 lo hi Q) : wSl we tl th sd S Q := h
instance st_xSl {lw : Lv} {tl th : WP} : Step lw (wSl we tl th sd S Q) (we sd S fun d S1 => tl sd S1 fun lo S2 => th sd S2 fun hi S3 => sliD d S3 lo hi Q) := ⟨fun h => xSl h⟩
section
variable {Qo : Option Int → SO → Prop}
theorem pN (h : Qo none S) : pNone sd S Qo := h
instance st_pN {lw : Lv} : Step lw (pNone sd S Qo) (Qo none S) := ⟨fun h => pN h⟩
theorem pS (h : we sd S (isI fun i S1 => Qo (some i) S1)) : pSome we sd S Qo := h
instance st_pS {lw : Lv} : Step lw (pSome we sd S Qo) (we sd S (isI fun i S1 => Qo (some i) S1)) := ⟨fun h => pS h⟩
end
theorem isI1 {k : Int → SO → Prop} (h : k i S) : isI k (.int i) S := ⟨h⟩
instance st_isI1 {lw : Lv} {k : Int → SO → Prop} : Step lw (isI k (.int i) S) (k i S) := ⟨fun h => isI1 h⟩
section
variable {xs : List D} {lo hi : Option Int} {k l : Nat} {p : Addr}
theorem slTup (h : Q (.tup (cutD xs lo hi)) S) : sliD (.tup xs) S lo hi Q := h
instance st_slTup {lw : Lv} : Step lw (sliD (.tup xs) S lo hi Q) (Q (.tup (cutD xs lo hi)) S) := ⟨fun h => slTup h⟩
theorem slSrc (h : Q (.lst (cutD xs lo hi)) S) : sliD (.src xs) S lo hi Q := h
instance st_slSrc {lw : Lv} : Step lw (sliD (.src xs) S lo hi Q) (Q (.lst (cutD xs lo hi)) S) := ⟨fun h => slSrc h⟩
theorem slLst (h : Q (.lst (cutD xs lo hi)) S) : sliD (.lst xs) S lo hi Q := ⟨xs, rfl, h⟩
instance st_slLst {lw : Lv} : Step lw (sliD (.lst xs) S lo hi Q) (Q (.lst (cutD xs lo hi)) S) := ⟨fun h => slLst h⟩
theorem sIxN (n d : Nat) : HT.sIx n d (some (k : Int)) = min k n := HT.sIx_nat n d k
theorem cutLo : cutD xs (some (k : Int)) none = xs.drop k := by
  unfold cutD
  rw [sIxN]
  show (xs.drop (min k xs.length)).take (xs.length - min k xs.length) = _
  by_cases h : k ≤ xs.length
  · rw [Nat.min_eq_left h, List.take_of_length_le (by rw [List.length_drop]; omega)]
  · rw [Nat.min_eq_right (by omega), List.drop_of_length_le (Nat.le_refl _), List.drop_of_length_le (by omega), List.take_nil]
/-- t[k:], k > 0, of a tuple known to have no dict; the empty one is left out -/
theorem slTfLo (h : Q (.tup (xs.drop k)) S) (hk : 0 < k) (hn : 0 < xs.length) : sliD (.tf xs) S (some (k : Int)) none Q := ⟨fun ⟨e, _⟩ => by rw [sIxN] at e; omega, by rw [cutLo]; exact h⟩
theorem slTfLo1 (h : Q (.tup (xs.drop (k + 1))) S) (hn : 0 < xs.length) : sliD (.tf xs) S (some ((k : Int) + 1)) none Q := slTfLo (k := k + 1) h (by omega) hn
end
/-! isinstance -/
end
/-! assignments at once, methods of lists -/
section
variable {n bk ct : SD → SO → Prop} {r : KD} {sd : SD} {S : SO} {Q : KD} {we : WE} {t : WA} {d x y z : D} {p : Addr} {xs : List D} {A : Prop}
theorem xPar {i j : Nat} (h : t sd S fun xs S1 => two2 xs fun x y => gV i x sd S1 fun sd' S2 => gV j y sd' S2 n) : wPar i j t ⟨n, r, bk, ct⟩ sd S := h
instance st_xPar {lw : Lv} {i j : Nat} : Step lw (wPar i j t ⟨n, r, bk, ct⟩ sd S) (t sd S fun xs S1 => two2 xs fun x y => gV i x sd S1 fun sd' S2 => gV j y sd' S2 n) := ⟨fun h => xPar h⟩
theorem xPar3 {i j k : Nat} (h : t sd S fun xs S1 => three xs fun x y z => gV i x sd S1 fun sd' S2 => gV j y sd' S2 fun sd' S2 => gV k z sd' S2 n) : wPar3 i j k t ⟨n, r, bk, ct⟩ sd S := h
instance st_xPar3 {lw : Lv} {i j k : Nat} : Step lw (wPar3 i j k t ⟨n, r, bk, ct⟩ sd S) (t sd S fun xs S1 => three xs fun x y z => gV i x sd S1 fun sd' S2 => gV j y sd' S2 fun sd' S2 => gV k z sd' S2 n) := ⟨fun h => xPar3 h⟩
theorem two2' {k : D → D → Prop} (h : k x y) : two2 [x, y] k := h
instance st_two2' {lw : Lv} {k : D → D → Prop} : Step lw (two2 [x, y] k) (k x y) := ⟨fun h => two2' h⟩
theorem three' {k : D → D → D → Prop} (h : k x y z) : three [x, y, z] k := h
instance st_three' {lw : Lv} {k : D → D → D → Prop} : Step lw (three [x, y, z] k) (k x y z) := ⟨fun h => three' h⟩
def BmD (T : String) (d : D) (S : SO) (A : Prop) : Prop := tyD T d S ∧ A
theorem xBM {T : String} {w : WM} (h : we sd S fun d S1 => BmD T d S1 (t sd S1 fun xs S2 => w d xs S2 Q)) : wBM T w we t sd S Q := h
instance st_xBM {lw : Lv} {T : String} {w : WM} : Step lw (wBM T w we t sd S Q) (we sd S fun d S1 => BmD T d S1 (t sd S1 fun xs S2 => w d xs S2 Q)) := ⟨fun h => xBM h⟩
theorem bmObj (e : S p = some (.lst xs)) (h : A) : BmD "list" (.obj p) S A := ⟨.inl ⟨rfl, xs, e⟩, h⟩
theorem bmLst (h : A) : BmD "list" (.lst xs) S A := ⟨rfl, h⟩
instance st_bmLst {lw : Lv} : Step lw (BmD "list" (.lst xs) S A) (A) := ⟨fun h => bmLst h⟩
theorem bmSrc (h : A) : BmD "list" (.src xs) S A := ⟨rfl, h⟩
instance st_bmSrc {lw : Lv} : Step lw (BmD "list" (.src xs) S A) (A) := ⟨fun h => bmSrc h⟩
theorem apM {α : Type} {f : α → D} {l : List α} {z : α} (e : S p = some (.lst (l.map f))) (hl : l.length < 1000000) (h : Q .non (S.set p (.lst ((l ++ [z]).map f)))) : mAppend (.obj p) [f z] S Q := ⟨p, _, rfl, e, by rw [List.length_map]; exact hl, by rw [List.map_append] at h; exact h⟩
theorem tfL (h : Q (.tf xs) S) : cTupleF [.lst xs] S Q := ⟨xs, rfl, h⟩
instance st_tfL {lw : Lv} : Step lw (cTupleF [.lst xs] S Q) (Q (.tf xs) S) := ⟨fun h => tfL h⟩
theorem tfOb (e : S p = some (.lst xs)) (h : Q (.tf xs) S) : cTupleF [.obj p] S Q := ⟨xs, show objL _ = _ by rw [e]; rfl, h⟩
theorem tuL (h : Q (.tup xs) S) : cTuple [.lst xs] S Q := ⟨xs, rfl, h⟩
instance st_tuL {lw : Lv} : Step lw (cTuple [.lst xs] S Q) (Q (.tup xs) S) := ⟨fun h => tuL h⟩
theorem tuT (h : Q (.tup xs) S) : cTuple [.tup xs] S Q := h
instance st_tuT {lw : Lv} : Step lw (cTuple [.tup xs] S Q) (Q (.tup xs) S) := ⟨fun h => tuT h⟩
end
/-! for loops over typed sources and states -/
section
variable {n bk ct : SD → SO → Prop} {r : KD} {sd : SD} {S : SO} {wi : WI} {g : WG} {b : WS} {α σ : Type}
def ForJ (g : WG) (b : WS) (n : SD → SO → Prop) (r : KD) (sd : SD) (J : ItD) (S1 : SO) : Prop := ∃ Pv : Nat → SD → SO → Prop, Pv 0 sd S1 ∧ (∀ i sd S, Pv i sd S → J.ok S) ∧
  (∀ i d sd S, J.items[i]? = some d → Pv i sd S → g d sd S fun sd' S' => b ⟨Pv (i + 1), r, n, Pv (i + 1)⟩ sd' S') ∧ (∀ sd S, Pv J.items.length sd S → n sd S)
theorem xFor (h : wi sd S fun J S1 => ForJ g b n r sd J S1) : wFor wi g b ⟨n, r, bk, ct⟩ sd S := ⟨h⟩
instance st_xFor {lw : Lv} : Step lw (wFor wi g b ⟨n, r, bk, ct⟩ sd S) (wi sd S fun J S1 => ForJ g b n r sd J S1) := ⟨fun h => xFor h⟩
/-- what holds before turn i -/
def Turn (st : σ → SD) (so : σ → SO) (Iv : Nat → σ → Prop) (i : Nat) : SD → SO → Prop := fun sd S => ∃ a, sd = st a ∧ S = so a ∧ Iv i a
theorem Turn.of {st : σ → SD} {so : σ → SO} {Iv : Nat → σ → Prop} {i : Nat} (a : σ) (hv : Iv i a) (h1 : sd = st a := by rfl) (h2 : S = so a := by rfl) : Turn st so Iv i sd S := ⟨a, h1, h2, hv⟩
/-- σ: what the state is made of; st, so: the slots, the objects; Iv: the invariant before turn i -/
theorem forJ {xs : List D} {ok : SO → Prop} (l : List α) (f : α → D) (st : σ → SD) (so : σ → SO) (Iv : Nat → σ → Prop) (a0 : σ) (h0 : Iv 0 a0)
    (ht : ∀ i z a, l[i]? = some z → Iv i a → g (f z) (st a) (so a) fun sd' S' => b ⟨Turn st so Iv (i + 1), r, n, Turn st so Iv (i + 1)⟩ sd' S')
    (he : ∀ a, Iv l.length a → n (st a) (so a)) (hs : sd = st a0 := by rfl) (hS : S = so a0 := by rfl) (hx : xs = l.map f := by rfl) (hok : ∀ i a, Iv i a → ok (so a) := by intros; trivial) : ForJ g b n r sd ⟨xs, ok⟩ S := by
  subst hx
  refine ⟨Turn st so Iv, ⟨a0, hs, hS, h0⟩, ?_, ?_, ?_⟩
  · rintro i sd S ⟨a, rfl, rfl, hv⟩
    exact hok i a hv
  · rintro i d sd S hd ⟨a, rfl, rfl, hv⟩
    rw [List.getElem?_map] at hd
    obtain ⟨z, hz, rfl⟩ := Option.map_eq_some_iff.mp hd
    exact ht i z a hz hv
  · rintro sd S ⟨a, rfl, rfl, hv⟩
    rw [List.length_map] at hv
    exact he a hv
theorem forE {ys : List D} {ok : SO → Prop} (l : List α) (f : α → D) (st : σ → SD) (so : σ → SO) (Iv : Nat → σ → Prop) (a0 : σ) (h0 : Iv 0 a0)
    (ht : ∀ i z a, l[i]? = some z → Iv i a → g (.tup [.int (i : Nat), f z]) (st a) (so a) fun sd' S' => b ⟨Turn st so Iv (i + 1), r, n, Turn st so Iv (i + 1)⟩ sd' S')
    (he : ∀ a, Iv l.length a → n (st a) (so a)) (hs : sd = st a0 := by rfl) (hS : S = so a0 := by rfl) (hx : ys = l.map f := by rfl) (hok : ∀ i a, Iv i a → ok (so a) := by intros; trivial) : ForJ g b n r sd ⟨enumD ys, ok⟩ S := by
  subst hx
  refine ⟨Turn st so Iv, ⟨a0, hs, hS, h0⟩, ?_, ?_, ?_⟩
  · rintro i sd S ⟨a, rfl, rfl, hv⟩
    exact hok i a hv
  · rintro i d sd S hd ⟨a, rfl, rfl, hv⟩
    obtain ⟨x, hx, rfl⟩ := enumD_get hd
    rw [List.getElem?_map] at hx
    obtain ⟨z, hz, rfl⟩ := Option.map_eq_some_iff.mp hx
    exact ht i z a hz hv
  · rintro sd S ⟨a, rfl, rfl, hv⟩
    rw [enumD_len, List.length_map] at hv
    exact he a hv
theorem forR {m : Nat} {ok : SO → Prop} (st : σ → SD) (so : σ → SO) (Iv : Nat → σ → Prop) (a0 : σ) (h0 : Iv 0 a0)
    (ht : ∀ i a, i < m → Iv i a → g (.int (i : Nat)) (st a) (so a) fun sd' S' => b ⟨Turn st so Iv (i + 1), r, n, Turn st so Iv (i + 1)⟩ sd' S')
    (he : ∀ a, Iv m a → n (st a) (so a)) (hs : sd = st a0 := by rfl) (hS : S = so a0 := by rfl) (hok : ∀ i a, Iv i a → ok (so a) := by intros; trivial) : ForJ g b n r sd ⟨rangeD 0 (m : Nat), ok⟩ S := by
  rw [rangeN]
  refine forJ (List.range m) (fun i : Nat => .int (i : Nat)) st so Iv a0 h0 (fun i z a hz hv => ?_) (fun a hv => he a (by rwa [List.length_range] at hv)) hs hS rfl hok
  have hl := (List.getElem?_eq_some_iff.mp hz).1
  rw [List.length_range] at hl
  rw [List.getElem?_range hl] at hz
  cases hz
  exact ht i a hl hv
/-! list comprehensions over typed sources -/
variable {nt : NT} {tt : WT} {we wk : WE} {vs : List Nat} {Q : KD}
class InjD {α : Type} (f : α → D) : Prop where
  inj : ∀ a b, f a = f b → a = b
instance : InjD D.str := ⟨fun _ _ h => by injection h⟩
instance : InjD D.int := ⟨fun _ _ h => by injection h⟩
instance : InjD (fun d : D => d) := ⟨fun _ _ h => h⟩
instance : InjD (fun i : Nat => D.int (i : Nat)) := ⟨fun _ _ h => by injection h with h; omega⟩
instance {α β : Type} (f : α → D) (h : β → D) [InjD f] [InjD h] : InjD (fun z : α × β => D.tup [f z.1, h z.2]) := ⟨fun a b e => by
  injection e with e
  injection e with e1 e
  injection e with e2 e
  exact Prod.ext (InjD.inj (f := f) _ _ e1) (InjD.inj (f := h) _ _ e2)⟩
theorem map_inj {α : Type} {f : α → D} [InjD f] : ∀ {a b : List α}, a.map f = b.map f → a = b
  | [], [], _ => rfl
  | [], _ :: _, h => by cases h
  | _ :: _, [], h => by cases h
  | x :: xs, y :: ys, h => by
    rw [List.map_cons, List.map_cons] at h
    injection h with h1 h2
    rw [InjD.inj (f := f) _ _ h1, map_inj h2]
instance {α : Type} (f : α → D) [InjD f] : InjD (fun r : List α => D.tup (r.map f)) := ⟨fun a b e => by injection e with e; exact map_inj e⟩
instance {α : Type} (f : α → D) [InjD f] : InjD (fun r : List α => D.tf (r.map f)) := ⟨fun a b e => by injection e with e; exact map_inj e⟩
instance {α : Type} (f : α → D) [InjD f] : InjD (fun r : List α => D.lst (r.map f)) := ⟨fun a b e => by injection e with e; exact map_inj e⟩
open Classical in
noncomputable def backF {α : Type} (l : List α) (f : α → D) (out : α → Option D) : D → Option D := fun d => if h : ∃ z, z ∈ l ∧ f z = d then out h.choose else none
theorem backF_eq {α : Type} {l : List α} {f : α → D} [InjD f] {out : α → Option D} {z : α} (h : z ∈ l) : backF l f out (f z) = out z := by
  unfold backF
  have e : ∃ z', z' ∈ l ∧ f z' = f z := ⟨z, h, rfl⟩
  rw [dif_pos e, InjD.inj (f := f) _ _ e.choose_spec.2]
theorem backF_map {α : Type} {l : List α} {f : α → D} [InjD f] {out : α → Option D} : (l.map f).filterMap (backF l f out) = l.filterMap out := by
  rw [List.filterMap_map]
  have key : ∀ m : List α, (∀ z ∈ m, z ∈ l) → m.filterMap (backF l f out ∘ f) = m.filterMap out := fun m => by
    induction m with
    | nil => intro _; rfl
    | cons x m ih =>
      intro hm
      rw [List.filterMap_cons, List.filterMap_cons, ih fun z hz => hm z (List.mem_cons_of_mem _ hz)]
      simp only [Function.comp]
      rw [backF_eq (hm x (List.mem_cons_self ..))]
  exact key l fun _ h => h
theorem map_filterMap {α β : Type} {p : α → Bool} {out : α → β} : ∀ l : List α, l.filterMap (fun z => if p z = true then some (out z) else none) = (l.filter p).map out
  | [] => rfl
  | x :: xs => by
    rw [List.filterMap_cons, List.filter_cons]
    cases h : p x <;> simp [map_filterMap xs]
/-- the source: the items of l -/
structure Src {α : Type} (l : List α) (f : α → D) (S : SO) (J : ItD) (S1 : SO) : Prop where
  it : J.items = l.map f
  ok : ∀ S', Ext S1 S' → J.ok S'
  st : S1 = S
theorem srcT {l : List α} {f : α → D} : Src l f S ⟨l.map f, fun _ => True⟩ S := ⟨rfl, fun _ _ => trivial, rfl⟩
theorem putNT_mono {nt : NT} {d : D} {sd : SD} {k k' : SD → Prop} (h : putNT nt d sd k) (i : ∀ sd2, k sd2 → k' sd2) : putNT nt d sd k' := by
  cases nt with
  | n j => exact i _ h
  | t l =>
    cases d with
    | tup xs => exact ⟨h.1, i _ h.2⟩
    | _ => exact False.elim h
/-- with a test: what is asked behind the test's answer c; o: the new item, if any -/
def LcK (we : WE) (sd2 : SD) (S' : SO) (o : Option D) : Bool → SO → Prop := fun c S2 => S2 = S' ∧ if c = true then up we sd2 S' fun y S3 => S3 = S' ∧ o = some y else o = none
theorem lcKT {sd2 : SD} {S' : SO} {o : Option D} {x : D} (e : o = some x) (h : we sd2 S' fun y S3 => S3 = S' ∧ x = y) : LcK we sd2 S' o true S' :=
  ⟨rfl, by rw [if_pos rfl]; exact ⟨_, h, fun y S3 ⟨e1, e2⟩ => ⟨e1, by rw [e, e2]⟩⟩⟩
theorem lcKF {sd2 : SD} {S' : SO} {o : Option D} (e : o = none) : LcK we sd2 S' o false S' := ⟨rfl, by rw [if_neg Bool.false_ne_true]; exact e⟩
def opt {α : Type} (c : Bool) (x : α) : Option α := if c = true then some x else none
theorem opt_t {α : Type} {c : Bool} {x : α} (h : c = true) : opt c x = some x := if_pos h
theorem opt_f {α : Type} {c : Bool} {x : α} (h : c = false) : opt c x = none := if_neg (by rw [h]; exact Bool.false_ne_true)
/-- the test's answer is c -/
theorem lcKI {sd2 : SD} {S' : SO} {c : Bool} {x : D} (h : c = true → we sd2 S' fun y S3 => S3 = S' ∧ x = y) : isB (LcK we sd2 S' (opt c x)) (.bl c) S' := by
  refine isC (fun e => lcKT (opt_t e) (h e)) fun e => lcKF (opt_f e)
theorem lcO (l : List α) (f : α → D) [InjD f] (F : α → Option D) (hi : wi sd S (Src l f S)) (hl : l.length ≤ 1000000)
    (hf : ∀ z ∈ l, ∀ S', Ext S S' → putNT nt (f z) (wipeD sd vs) fun sd2 => tt sd2 S' (LcK we sd2 S' (F z))) (hq : Q (.lst (l.filterMap F)) S) : wLcP wi nt tt we vs sd S Q := by
  refine ⟨_, hi, ?_⟩
  rintro ⟨xs, ok⟩ S1 ⟨hx, hok, rfl⟩
  have hx' : xs = l.map f := hx
  subst hx'
  refine ⟨hok, by show (l.map f).length ≤ _; rw [List.length_map]; exact hl, backF l f F, fun d hd S' e => ?_, ?_⟩
  · obtain ⟨z, hz, rfl⟩ := List.mem_map.mp hd
    rw [backF_eq hz]
    exact hf z hz S' e
  · show Q (.lst ((l.map f).filterMap (backF l f F))) S1
    rw [backF_map]
    exact hq
theorem lcF (l : List α) (f : α → D) [InjD f] (p : α → Bool) (out : α → D) (hi : wi sd S (Src l f S)) (hl : l.length ≤ 1000000)
    (hf : ∀ z ∈ l, ∀ S', Ext S S' → putNT nt (f z) (wipeD sd vs) fun sd2 => tt sd2 S' (LcK we sd2 S' (opt (p z) (out z)))) (hq : Q (.lst ((l.filter p).map out)) S) : wLcP wi nt tt we vs sd S Q := by
  refine lcO l f (fun z => opt (p z) (out z)) hi hl hf ?_
  have e : l.filterMap (fun z => opt (p z) (out z)) = (l.filter p).map out := map_filterMap l
  rw [e]
  exact hq
theorem lcM (l : List α) (f : α → D) [InjD f] (out : α → D) (hi : wi sd S (Src l f S)) (hl : l.length ≤ 1000000)
    (hf : ∀ z ∈ l, ∀ S', Ext S S' → putNT nt (f z) (wipeD sd vs) fun sd2 => we sd2 S' fun y S3 => S3 = S' ∧ out z = y) (hq : Q (.lst (l.map out)) S) : wLcP wi nt wYes we vs sd S Q := by
  refine lcO l f (fun z => some (out z)) hi hl (fun z hz S' e => putNT_mono (hf z hz S' e) fun sd2 h => ?_) ?_
  · exact lcKT rfl h
  · rw [List.filterMap_eq_map']
    exact hq
/-- over enumerate -/
theorem enumD_map {α : Type} (l : List α) (f : α → D) : enumD (l.map f) = (l.zipIdx).map fun z => .tup [.int (z.2 : Nat), f z.1] := by
  refine List.ext_getElem? fun j => ?_
  unfold enumD
  rw [List.getElem?_mapIdx, List.getElem?_map, List.getElem?_map, List.getElem?_zipIdx]
  cases l[j]? with
  | none => rfl
  | some x => simp
instance {α : Type} (f : α → D) [InjD f] : InjD (fun z : α × Nat => D.tup [.int (z.2 : Nat), f z.1]) := ⟨fun a b e => by
  injection e with e
  injection e with e1 e
  injection e with e2 e
  injection e1 with e1
  exact Prod.ext (InjD.inj (f := f) _ _ e2) (by omega)⟩
theorem srcEO {α : Type} {l : List α} {f : α → D} {p : Addr} {xs : List D} (h : S p = some (.lst xs)) (e : xs = l.map f := by rfl) : Src l.zipIdx (fun z : α × Nat => D.tup [.int (z.2 : Nat), f z.1]) S ⟨enumD xs, fun S => S p = some (.lst xs)⟩ S := ⟨by subst e; exact enumD_map l f, fun S' x => x p _ h, rfl⟩
theorem zip_mem {α : Type} {l : List α} {z : α × Nat} (h : z ∈ l.zipIdx) : l[z.2]? = some z.1 := by
  obtain ⟨j, hj⟩ := List.mem_iff_getElem?.mp h
  rw [List.getElem?_zipIdx] at hj
  obtain ⟨x, hx, e⟩ := Option.map_eq_some_iff.mp hj
  subst e
  simpa using hx
end
/-! equal to [] or () -/
theorem pyDs_map {α : Type} {f : α → D} {g : α → PyData} : ∀ {l : List α}, (∀ z ∈ l, pyD (f z) = some (g z)) → pyDs (l.map f) = some (l.map g)
  | [], _ => rfl
  | x :: xs, h => by
    show (pyD (f x)).bind (fun p => (pyDs (xs.map f)).map fun ps => p :: ps) = _
    rw [pyDs_map fun z hz => h z (List.mem_cons_of_mem _ hz), h x (List.mem_cons_self ..)]
    rfl
/-! the state: objects by their addresses -/
theorem free_set {S : SO} {a b : Addr} {u : DO} (h : (S.set b u) a = none) : S a = none ∧ a ≠ b := by
  unfold SO.set at h
  split at h
  · cases h
  · rename_i e
    exact ⟨h, e⟩
end L2.DL

/-! DL23: t[::-1] of tuples, the new one a tuple as any -/
namespace L2.DL
open PySem PySem.Spec PyProof.Rows
section
variable {X : Cx}
def RevD (d : D) (S : SO) (k : List D → Prop) : Prop := ∃ xs, (d = .tf xs ∨ d = .tup xs ∨ d = .kt xs) ∧ k xs
theorem revTup {xs : List D} {S : SO} {k : List D → Prop} (h : k xs) : RevD (.tup xs) S k := ⟨xs, .inr (.inl rfl), h⟩
instance st_revTup {lw : Lv} {xs : List D} {S : SO} {k : List D → Prop} : Step lw (RevD (.tup xs) S k) (k xs) := ⟨fun h => revTup h⟩
theorem revTf {xs : List D} {S : SO} {k : List D → Prop} (h : k xs) : RevD (.tf xs) S k := ⟨xs, .inl rfl, h⟩
instance st_revTf {lw : Lv} {xs : List D} {S : SO} {k : List D → Prop} : Step lw (RevD (.tf xs) S k) (k xs) := ⟨fun h => revTf h⟩
def wRevU (we : WE) : WE := fun sd S Q => we sd S fun d S1 => ∃ xs, (d = .tf xs ∨ d = .tup xs ∨ d = .kt xs) ∧ Q (.tup xs.reverse) S1
theorem de_revU {e : Expr} {we : WE} {k : Nat} {p1 p2 p3 pos : Pos} (he : DE X e we) : DE X (.Subscript e (.Slice none none (some (.UnaryOp .USub (.Constant (.int 1) k p1) p2)) p3) pos) (wRevU we) := by
  refine ⟨fun pins s σ H Q I ⟨sd, S, Q0, st, q, an⟩ => ?_⟩
  refine Subscript_ (thn (he.run pins s σ H (fun v H1 => ∃ a vs xs S1, v = .ref a ∧ SqT X.K H1 a vs ∧ Nx S H S1 H1 ∧ SRel X.K S1 H1 ∧ Rels X.K S1 H1 xs vs ∧ Q0 (.tup xs.reverse) S1) I ⟨sd, S, _, st, q, fun d S1 v H1 ⟨xs, hd, q1⟩ n1 s1 r1 => ?_⟩) fun v s1 ⟨x, H1, I1, r1, q1⟩ => ?_)
  · rcases hd with rfl | rfl | rfl
    · obtain ⟨a, vs, rfl, t, rv⟩ := r1
      exact ⟨a, vs, xs, S1, rfl, t.sq, n1, s1, rv, q1⟩
    · obtain ⟨a, vs, rfl, t, rv⟩ := r1
      exact ⟨a, vs, xs, S1, rfl, t.sq, n1, s1, rv, q1⟩
    · obtain ⟨a, vs, rfl, t, rv⟩ := r1
      exact ⟨a, vs, xs, S1, rfl, t.sq, n1, s1, rv, q1⟩
  obtain ⟨a, xs, ys, S1, ex, hx, n1, sr1, rv, q⟩ := q1
  subst ex
  cases r1
  have hst : PO X (some (.UnaryOp .USub (.Constant (.int 1) k p1) p2)) (tPart (tUn (rU fun i => .int (-i)) (tC (.int 1)))) := po_some (pe_un un_neg pe_int)
  refine wpAny_Slice (thn (po_none.run pins s1 σ H1 (fun o H2 => o = none ∧ H2 = H1) I1 ⟨rfl, rfl⟩) fun vl s2 ⟨l, H2, I2, pl, el, e2⟩ => ?_)
  subst el e2
  refine thn (po_none.run pins s2 σ H2 (fun o H3 => o = none ∧ H3 = H2) I2 ⟨rfl, rfl⟩) fun vu s3 ⟨u, H3, I3, pu, eu, e3⟩ => ?_
  subst eu e3
  refine thn (hst.run pins s3 σ H3 (fun o H4 => o = some (-1) ∧ H4 = H3) I3 ⟨1, rfl, -1, rfl, rfl, rfl⟩) fun vs s4 ⟨o, H4, I4, ps, eo, e4⟩ => ?_
  subst eo e4
  cases pl
  cases pu
  have I5 : Inv X pins σ H4 { s4 with heap := s4.heap.push { cls := .type "slice", data := .fields #[.none, .none, vs] } } := I4.kept (t' := s4.toks) fun b ob q => Heap.get?_push_of_some _ q
  obtain ⟨its, r, ht, hz⟩ := I5.tuple hx
  have hlen := r.length
  show wpAny (model X.prog X.w) X.A (subscriptTail e (.Slice none none (some (.UnaryOp .USub (.Constant (.int 1) k p1) p2)) p3) (.ref a) (.ref s4.heap.objs.size)) (EP X pins σ Q) X.xe { s4 with heap := s4.heap.push { cls := .type "slice", data := .fields #[.none, .none, vs] } }
  refine tail_any (ops := [.ref a, .ref s4.heap.objs.size]) ht.typeIs (PyProof.Rows.slot_tuple_getitem.lookup) ?_ (by with_unfolding_all rfl)
  refine getItem_tuple_rev ht (Heap.IsSliceOf.new _ .none .none vs) ps ?_ (by rw [List.size_toArray]; omega)
  have hf := I5.hok.fresh (Nat.le_refl _)
  have hz2 : xs.reverse.length ≤ sizeLine := by rw [List.length_reverse]; exact hz
  refine ⟨.ref _, _, I5.laid (t' := s4.toks) (o := .tup xs.reverse) (fun b ob q => Heap.get?_push_of_some _ q) (Nat.le_refl _) ?_, rfl, an _ _ _ _ q (n1.trans (nx_new hf)) (sr1.new hf) ⟨_, xs.reverse, rfl, ⟨sr1.free hf, upd_same⟩, (revs rv).nx (nx_new hf)⟩⟩
  exact ⟨hz2, _, r.reverse, IsTup.new _ _⟩
theorem xRevU {we : WE} {sd : SD} {S : SO} {Q : KD} (h : we sd S fun d S1 => RevD d S1 fun xs => Q (.tup xs.reverse) S1) : wRevU we sd S Q := h
instance st_xRevU {lw : Lv} {we : WE} {sd : SD} {S : SO} {Q : KD} : Step lw (wRevU we sd S Q) (we sd S fun d S1 => RevD d S1 fun xs => Q (.tup xs.reverse) S1) := ⟨fun h => xRevU h⟩
end
end L2.DL

/-! DL24: values of any kind: == () of tuples of anything, {} that nobody changes, isinstance -/
namespace L2.DL
open PySem PySem.Spec PyProof.Rows
def asTup : D → Option (List D)
  | .tup xs => some xs
  | .tf xs => some xs
  | _ => none
theorem asTup_at {K : PySem.W.Frag} {S : SO} {H : Hp} {d : D} {v : V} {xs : List D} (r : Rel K S H d v) (e : asTup d = some xs) : ∃ a vs, v = .ref a ∧ SqT K H a vs ∧ Rels K S H xs vs := by
  cases d with
  | tup ys =>
    cases e
    obtain ⟨a, vs, h1, t, h2⟩ := r
    exact ⟨a, vs, h1, t.sq, h2⟩
  | tf ys =>
    cases e
    obtain ⟨a, vs, h1, t, h2⟩ := r
    exact ⟨a, vs, h1, t.sq, h2⟩
  | _ => cases e
section
variable {X : Cx}
def wDicF : WE := fun _ S Q => Q (.dic false []) S
end
theorem xDicF {sd : SD} {S : SO} {Q : KD} (h : Q (.dic false []) S) : wDicF sd S Q := h
instance st_xDicF {lw : Lv} {sd : SD} {S : SO} {Q : KD} : Step lw (wDicF sd S Q) (Q (.dic false []) S) := ⟨fun h => xDicF h⟩
section
variable {wi : WI} {nt : NT} {tt : WT} {we : WE} {vs : List Nat} {sd : SD} {S : SO} {Q : KD}
/-- a list comprehension whose element may change objects: what is asked where the source is known -/
def LcJ (nt : NT) (tt : WT) (we : WE) (vs : List Nat) (R : Addr → SO → Prop) (sd : SD) (J : ItD) (S1 : SO) : Prop := ∀ p, S1 p = none → ∃ Pv : Nat → SO → Prop, Pv 0 (S1.set p (.lst [])) ∧ (∀ i S, Pv i S → J.ok S) ∧
  (∀ i d S, J.items[i]? = some d → Pv i S → putNT nt d (wipeD sd vs) fun sd2 => upT tt sd2 S fun b S2 => if b = true then up we sd2 S2 fun y S3 => ∃ acc, S3 p = some (.lst acc) ∧ acc.length ≤ 1000000 ∧ Pv (i + 1) (S3.set p (.lst (acc ++ [y]))) else Pv (i + 1) S2) ∧
  (∀ S, Pv J.items.length S → R p S)
def FrzR (Q : KD) (p : Addr) (S' : SO) : Prop := ∃ acc, S' p = some (.lst acc) ∧ Q (.lst acc) (S'.del p)
theorem xLcF (h : wi sd S fun J S1 => LcJ nt tt we vs (FrzR Q) sd J S1) : wLcF wi nt tt we vs sd S Q := ⟨h⟩
instance st_xLcF {lw : Lv} : Step lw (wLcF wi nt tt we vs sd S Q) (wi sd S fun J S1 => LcJ nt tt we vs (FrzR Q) sd J S1) := ⟨fun h => xLcF h⟩
theorem xLcN (h : wi sd S fun J S1 => LcJ nt tt we vs (fun p S' => Q (.obj p) S') sd J S1) : wLc wi nt tt we vs sd S Q := ⟨h⟩
instance st_xLcN {lw : Lv} : Step lw (wLc wi nt tt we vs sd S Q) (wi sd S fun J S1 => LcJ nt tt we vs (fun p S' => Q (.obj p) S') sd J S1) := ⟨fun h => xLcN h⟩
end
/-- a value of any kind, each part of at most m items -/
inductive Any (m : Nat) : D → Prop
  | non : Any m .non
  | bl (b : Bool) : Any m (.bl b)
  | int (i : Int) : Any m (.int i)
  | str (x : Str) (h : PyData.canLay0 (.str x) = true ∧ x.length ≤ m) : Any m (.str x)
  | tup (xs : List D) (hl : xs.length ≤ m) (h : ∀ x ∈ xs, Any m x) : Any m (.tup xs)
  | tf (xs : List D) (hl : xs.length ≤ m) (h : ∀ x ∈ xs, Any m x) : Any m (.tf xs)
  | lst (xs : List D) (hl : xs.length ≤ m) (h : ∀ x ∈ xs, Any m x) : Any m (.lst xs)
  | dic (t : Bool) : Any m (.dic t [])
end L2.DL

/-! DL25: sorted(..) of lists and tuples of texts, of ints -/
namespace L2.DL
open PySem PySem.Spec PyProof.Rows
section
variable {prog : Program} {w : World} {A : Around} {E : Value → Shared → Prop} {s : Shared}
/-- what collect makes of a list or a tuple -/
def heapC (h : Heap) (zs : Array Value) : Heap := (h.push { cls := .type "list", data := .seq ([] : List Value).toArray }).update h.objs.size (Obj.mapSeq (· ++ zs))
theorem collect_seqX {K : List Value → Shared → Prop} (src : Addr) {U : String} {ob : Obj} {zs : Array Value} {k : Nat} (hU : U = "list" ∨ U = "tuple") (hob : s.heap.get? src = some ob) (hcl : ob.cls = .type U) (hda : ob.data = .seq zs k)
    (hK : K zs.toList { s with heap := heapC s.heap zs }) (hfit : zs.size ≤ sizeLine) : wpAny (model prog w) A (collect (.ref src)) K E s := by
  unfold collect
  refine wpAny_bind (wpAny_runValue (codeAny_builtin F.entry_proto_collect ?_))
  rw [Around.under_plainId F.plain_proto_collect (args := _)]
  show wpAny (model prog w) A.in1 (newList [] >>= fun l => again (.builtin "list.__iadd__" ⟨[l, .ref src], []⟩)) _ _ s
  refine wpAny_bind (wpAny_newObj_type ?_)
  refine wpAny_pure ⟨plainId_quiet F.plain_list_iadd _, codeAny_builtin F.entry_list_iadd ?_⟩
  rw [Around.under_plainId F.plain_list_iadd (args := _)]
  show wpAny (model prog w) A.in1 (Builtin.List.listExtendWith (.ref s.heap.objs.size) (.ref src) (.ref s.heap.objs.size)) _ _ _
  have g1 : (s.heap.push { cls := .type "list", data := .seq ([] : List Value).toArray }).get? s.heap.objs.size = some { cls := .type "list", data := .seq #[] 0 } := Heap.get?_push_size _ (by rfl)
  have g2 := Heap.get?_update_self (Obj.mapSeq (· ++ zs)) g1 rfl
  have fin : wpAny (model prog w) A (match Value.ref s.heap.objs.size with | Value.ref a => (do (match (← load a).data with | Data.seq xs _ => pure xs.toList | _ => unsupported "internal:collect")) | _ => unsupported "internal:collect") K E { s with heap := heapC s.heap zs } := by
    show wpAny (model prog w) A (load s.heap.objs.size >>= _) K E _
    refine wpAny_bind (wpAny_load g2 (wpAny_pure ?_))
    show K ((#[] : Array Value) ++ zs).toList _
    rw [show ((#[] : Array Value) ++ zs).toList = zs.toList by simp]
    exact hK
  refine wpAny_mono (wpAny_extend_seq (hsz := hfit) (A := A) (R := fun r u => r = .ok (.ret (.ref s.heap.objs.size)) ∧ u = { s with heap := heapC s.heap zs }) (s := { s with heap := s.heap.push { cls := .type "list", data := .seq ([] : List Value).toArray } }) _ src _ 0 hU g1 (Heap.get?_push_of_some _ hob) hcl hda ⟨rfl, rfl⟩) (fun fl u hu => ?_) (fun er u hu => absurd hu.1 (by simp))
  cases fl with
  | done f =>
    obtain ⟨q, rfl⟩ := hu
    cases q
    exact fin
  | again c' => exact ⟨hu.1, codeAny_mono hu.2 fun r u2 hr => by obtain ⟨rfl, rfl⟩ := hr; exact fin⟩
theorem heapC_size (h : Heap) (zs : Array Value) : (heapC h zs).objs.size = h.objs.size + 1 := by
  unfold heapC
  rw [Heap.size_update, size_push']
theorem heapC_kept {h : Heap} {zs : Array Value} {b : Addr} {o : Obj} (q : h.get? b = some o) : (heapC h zs).get? b = some o := by
  unfold heapC
  rw [Heap.get?_update_ne _ _ _ _ (Nat.ne_of_lt (Heap.lt_size q)), Heap.get?_push_ne _ _ _ (Nat.ne_of_lt (Heap.lt_size q))]
  exact q
theorem sortedK_seq {κ : KeyKind} (hO : κ.OneLt) {it : Addr} {T : String} {o : Obj} {vs : List Value} {n : Nat} {Q : Value → Shared → Prop} (hT : T = "list" ∨ T = "tuple") (ho : s.heap.get? it = some o) (hc : o.cls = .type T) (hd : o.data = .seq vs.toArray n)
    (h0 : KeysOf κ (pairsOf vs)) (hkk : ∀ v₁ v₂ rest, vs = v₁ :: v₂ :: rest → keyKind' (v₁ :: v₂ :: rest).toArray = pure oneType') (hL : vs.length ≤ sizeLine)
    (h : ∀ (h' : Heap) (p : Addr) (e : Nat) (st' : SortSt), (∀ b o', s.heap.get? b = some o' → h'.get? b = some o') → s.heap.objs.size ≤ p → h'.get? p = some (seqObj "list" ((arrOf st').map (·.2)) e) → (arrOf st').Perm (pairsOf vs) → SortedToK κ (arrOf st') (pairsOf vs).size → Q (.ref p) { s with heap := h' }) :
    wpAny (model prog w) A (call (.builtin "sorted") [.ref it]) Q E s := by
  refine Calls.call_function_entry kind_sorted plain_sorted entry_sorted (args_sorted1 (Value.ref it)) ?_
  show wpAny (model prog w) _ (Builtin.«sorted» _) _ _ s
  unfold Builtin.«sorted»
  refine wpAny_bind (m := checkCount "sorted" 1 1 _) (wpAny_pure (wpAny_bind (collect_seqX it hT ho hc hd ?_ (by simpa using hL))))
  refine wpAny_bind (wpAny_newList ?_)
  rw [show vs.toArray.toList = vs by simp]
  have hoL : ((heapC s.heap vs.toArray).push (seqObj "list" vs.toArray 0)).get? (heapC s.heap vs.toArray).objs.size = some (seqObj "list" vs.toArray 0) := Heap.get?_push_size _ (by rfl)
  show wpAny _ _ _ _ _ { s with heap := (heapC s.heap vs.toArray).push (seqObj "list" vs.toArray 0) }
  refine wpAny_bind (wpAny_holding (wpAny_call_entry slot_list_sort ⟨_, hoL, rfl⟩ entry_list_sort (list_sort_treeKAny hO hoL h0 hkk hL fun st' a1 a2 => ⟨_, rfl, ?_⟩) (args_list_sort _)))
  obtain ⟨e, he⟩ := sortedHeap_at (out := (arrOf st').map (·.2)) hoL
  refine wpAny_pure ⟨_, rfl, h _ _ e st' (fun b o' q => ?_) (by rw [heapC_size]; exact Nat.le_succ _) he a1 a2⟩
  have k1 := heapC_kept (zs := vs.toArray) q
  have hlt := Heap.lt_size k1
  rw [sortedHeap_old (Nat.ne_of_lt hlt) (by rw [size_push']; exact Nat.lt_succ_of_lt hlt), Heap.get?_push_ne _ _ _ (Nat.ne_of_lt hlt)]
  exact k1
theorem sorted_strs_seq {it : Addr} {T : String} {o : Obj} {vs : List Value} {ss : List Str} {n : Nat} {Q : Value → Shared → Prop} (hT : T = "list" ∨ T = "tuple") (ho : s.heap.get? it = some o) (hc : o.cls = .type T) (hd : o.data = .seq vs.toArray n) (hS : StrsAre vs ss) (hL : vs.length ≤ sizeLine)
    (h : ∀ (h' : Heap) (p : Addr) (e : Nat) (out : Array Value) (ss' : List Str), (∀ b o', s.heap.get? b = some o' → h'.get? b = some o') → s.heap.objs.size ≤ p → h'.get? p = some (seqObj "list" out e) → StrsAre out.toList ss' → ss'.Perm ss → sortedS ss' = true → Q (.ref p) { s with heap := h' }) :
    wpAny (model prog w) A (call (.builtin "sorted") [.ref it]) Q E s := by
  refine sortedK_seq strKind_oneLt hT ho hc hd hS.keysOf (fun v₁ v₂ rest e => keyKind_strs (by rw [← e]; exact hS)) hL fun h' p e st' k1 k2 k3 hp hs => ?_
  obtain ⟨ss', h1, h2, h3⟩ := sorted_out_str hS hp hs
  exact h h' p e _ ss' k1 k2 k3 h1 h2 h3
theorem sorted_ints_seq {it : Addr} {T : String} {o : Obj} {vs : List Value} {ss : List Int} {n : Nat} {Q : Value → Shared → Prop} (hT : T = "list" ∨ T = "tuple") (ho : s.heap.get? it = some o) (hc : o.cls = .type T) (hd : o.data = .seq vs.toArray n) (hI : IntsAre vs ss) (hL : vs.length ≤ sizeLine)
    (h : ∀ (h' : Heap) (p : Addr) (e : Nat) (out : Array Value) (ss' : List Int), (∀ b o', s.heap.get? b = some o' → h'.get? b = some o') → s.heap.objs.size ≤ p → h'.get? p = some (seqObj "list" out e) → IntsAre out.toList ss' → ss'.Perm ss → ss'.Pairwise (· ≤ ·) → Q (.ref p) { s with heap := h' }) :
    wpAny (model prog w) A (call (.builtin "sorted") [.ref it]) Q E s := by
  refine sortedK_seq intKind_oneLt hT ho hc hd hI.keysOfInt (fun v₁ v₂ rest e => keyKind_ints (by rw [← e]; exact hI)) hL fun h' p e st' k1 k2 k3 hp hs => ?_
  obtain ⟨ss', h1, h2, h3⟩ := sorted_out hI hp (sortedTo_of_int hs)
  exact h h' p e _ ss' k1 k2 k3 h1 h2 h3
end
section
variable {X : Cx}
/-- sorted(xs) of texts, of ints: a new list, frozen -/
def cSorted : WL := fun xs S Q => one xs fun x => (∃ ss : List Str, seqX S x = some (ss.map D.str) ∧ ∀ ss' : List Str, ss'.Perm ss → sortedS ss' = true → Q (.lst (ss'.map D.str)) S) ∨ (∃ ns : List Int, seqX S x = some (ns.map D.int) ∧ ∀ ns' : List Int, ns'.Perm ns → ns'.Pairwise (· ≤ ·) → Q (.lst (ns'.map D.int)) S)
theorem dc_sorted : DC X (.builtin "sorted") cSorted := by
  intro pins s σ H xs us Q I r h
  obtain ⟨ds, S, Q0, sr, rs, q, an⟩ := h
  obtain ⟨x, rfl, q⟩ := one_of q
  obtain ⟨v, rfl, rv⟩ := rs.v1
  have seq : ∀ {ys : List D}, seqX S x = some ys → ∃ a vs its n T o, v = .ref a ∧ Rels X.K S H ys vs ∧ Vals vs its ∧ (T = "list" ∨ T = "tuple") ∧ s.heap.get? a = some o ∧ o.cls = .type T ∧ o.data = .seq its.toArray n ∧ vs.length ≤ sizeLine := fun e => by
    obtain ⟨a, vs, rfl, hq, rns⟩ := seqX_at sr rv e
    rcases hq with hq | hq
    · obtain ⟨its, rr, ⟨o, n, ho, hc, _, hd⟩, hz⟩ := I.list hq
      exact ⟨a, vs, its, n, "list", o, rfl, rns, rr, .inl rfl, ho, hc, hd, hz⟩
    · obtain ⟨its, rr, ⟨o, ho, hc, n, hd⟩, hz⟩ := I.tuple hq
      exact ⟨a, vs, its, n, "tuple", o, rfl, rns, rr, .inr rfl, ho, hc, hd, hz⟩
  rcases q with ⟨ss, e, q⟩ | ⟨ss, e, q⟩
  · obtain ⟨a, vs, its, n, T, o, rfl, rns, rr, hT, ho, hc, hd, hz⟩ := seq e
    have ev := rels_strs rns
    subst ev
    rw [Vals.ref1 r]
    have hS : StrsAre its ss := rr.strs
    refine sorted_strs_seq hT ho hc hd hS (by rw [← rr.length]; exact hz) fun h' p ep out ss' k1 k2 k3 h1 h2 h3 => ?_
    have hlen : (ss'.map V.str).length ≤ sizeLine := by rw [List.length_map, h2.length_eq]; rw [List.length_map] at hz; exact hz
    have hf := I.hok.fresh k2
    exact ⟨.ref p, upd H p (.lst (ss'.map V.str)), I.laid (t' := s.toks) k1 k2 ⟨hlen, out.toList, ep, vals_of_strs h1, k3⟩, rfl, an _ _ _ _ (q ss' h2 h3) (nx_new hf) (sr.new hf) ⟨p, _, rfl, sr.free hf, upd_same, rels_of_strs ss'⟩⟩
  · obtain ⟨a, vs, its, n, T, o, rfl, rns, rr, hT, ho, hc, hd, hz⟩ := seq e
    have ev := rels_ints rns
    subst ev
    rw [Vals.ref1 r]
    have hS : IntsAre its ss := rr.ints
    refine sorted_ints_seq hT ho hc hd hS (by rw [← rr.length]; exact hz) fun h' p ep out ss' k1 k2 k3 h1 h2 h3 => ?_
    have hlen : (ss'.map V.int).length ≤ sizeLine := by rw [List.length_map, h2.length_eq]; rw [List.length_map] at hz; exact hz
    have hf := I.hok.fresh k2
    exact ⟨.ref p, upd H p (.lst (ss'.map V.int)), I.laid (t' := s.toks) k1 k2 ⟨hlen, out.toList, ep, vals_of_ints h1, k3⟩, rfl, an _ _ _ _ (q ss' h2 h3) (nx_new hf) (sr.new hf) ⟨p, _, rfl, sr.free hf, upd_same, rels_of_ints ss'⟩⟩
end
end L2.DL

/-! DL26: zip(t, u) of tuples -/
namespace L2.DL
open PySem PySem.Spec PyProof.Rows
def zipD (xs ys : List D) : List D := List.zipWith (fun x y => .tup [x, y]) xs ys
def wZip (t : WA) : WI := fun sd S R => t sd S fun xs S1 => two2 xs fun d1 d2 => ∃ ys zs, asTup d1 = some ys ∧ asTup d2 = some zs ∧ R ⟨zipD ys zs, fun _ => True⟩ S1
/-! steps -/
section
variable {sd : SD} {S : SO} {R : ItD → SO → Prop} {t : WA} {xs ys : List D} {d e : D}
def ZipK (d1 d2 : D) (R : List D → Prop) : Prop := ∃ ys zs, asTup d1 = some ys ∧ asTup d2 = some zs ∧ R (zipD ys zs)
theorem xZip (h : t sd S fun xs S1 => two2 xs fun d1 d2 => ZipK d1 d2 fun l => R ⟨l, fun _ => True⟩ S1) : wZip t sd S R := h
instance st_xZip {lw : Lv} : Step lw (wZip t sd S R) (t sd S fun xs S1 => two2 xs fun d1 d2 => ZipK d1 d2 fun l => R ⟨l, fun _ => True⟩ S1) := ⟨fun h => xZip h⟩
end
end L2.DL

/-! DL27: f-strings, the truth of own instances, makings by keyword and with a default of the top, own == with values of any kind -/
namespace L2.DL
open PySem PySem.Spec PyProof.Rows
section
variable {X : Cx}
/-! ### f-strings -/
/-! ### the truth of an own instance that has __len__ -/
variable {CX : CXT} {k : Nat} {g f C : Addr} {fd : FuncData} {ps ks : List Str} {dsp : DSp}
/-! ### C(k = v, ..), all parameters by keyword -/
/-! ### C(..) with a default that the top has written -/
/-! ### own == with a value of any kind -/
end
end L2.DL

/-! DL28: list.pop(i), tuple.count(x) of texts -/
namespace L2.DL
open PySem PySem.Spec PyProof.Rows
section
variable {X : Cx}
theorem Rels.erase {K : PySem.W.Frag} {S : SO} {H : Hp} : ∀ {ds : List D} {vs : List V} (k : Nat), Rels K S H ds vs → Rels K S H (ds.eraseIdx k) (vs.eraseIdx k)
  | [], _, k, h => by
    have e : _ = [] := h
    subst e
    rfl
  | d :: ds, _, 0, h => by
    obtain ⟨v, r, rfl, _, h2⟩ := h
    exact h2
  | d :: ds, _, k + 1, h => by
    obtain ⟨v, r, rfl, h1, h2⟩ := h
    exact ⟨v, r.eraseIdx k, rfl, h1, h2.erase k⟩
end
end L2.DL

/-! DL29: xs[::-1] of lists, list(range(n)) -/
namespace L2.DL
open PySem PySem.Spec PyProof.Rows
section
variable {X : Cx}
end
end L2.DL

/-! DL30: a, b = a list -/
namespace L2.DL
open PySem PySem.Spec PyProof.Rows
section
variable {X : Cx} {pos : Pos}
def gTl (n : Nat) (r : WGs) : WG := fun d sd S Q => ∃ xs, lstX S d = some xs ∧ xs.length = n ∧ r xs sd S Q
theorem xGTl {n : Nat} {r : WGs} {xs : List D} {sd : SD} {S : SO} {Q : SD → SO → Prop} (h : r xs sd S Q) (hl : xs.length = n := by with_unfolding_all rfl) : gTl n r (.lst xs) sd S Q := ⟨xs, rfl, hl, h⟩
end
end L2.DL

/-! DL31: name = {k: v for ..}, stored within the comprehension -/
namespace L2.DL
open PySem PySem.Spec PyProof.Rows
section
variable {X : Cx}
theorem sw_trueD {kx vx : Expr} {gs : List Comprehension} {scope : Scope} {pos py : Pos} {y : Str} {l : Nat} {env : Env} (hk : env.scope.kind = .function) (hy : env.scope.names.lookup y = some .local) (hl : (py.line == pos.line) = true)
    (ha : (scope.names.any fun (n, k) => n == y && (k == .local || k == .cell)) = false) : swapsWith (.DictComp kx vx gs scope pos) (some (.Name y py)) l env = pure true := by
  have ky : env.kindOf y = some .local := hy
  have hb : env.blockKind = .function := by unfold Env.blockKind; rw [hk]; rfl
  unfold swapsWith
  simp only [hb, ky, ha, Expr.pos, hl]
  rfl
end
end L2.DL

/-! DL32: str(int); what a class's == must know of other kinds -/
namespace L2.DL
open PySem PySem.Spec PyProof.Rows
section
variable {X : Cx}
end
end L2.DL

/-! DL33: + of tuples made here or there, neither empty -/
namespace L2.DL
open PySem PySem.Spec PyProof.Rows
section
variable {X : Cx}
end
end L2.DL

/-! DL34: a list of anything != [] -/
namespace L2.DL
open PySem PySem.Spec PyProof.Rows
section
variable {X : Cx}
end
end L2.DL

/-! DL35: list.remove(number); a statement behind which an object is frozen or forgotten -/
namespace L2.DL
open PySem PySem.Spec PyProof.Rows
section
variable {X : Cx}
/-! ### frozen, forgotten behind a statement -/
structure Wk (sd : SD) (S : SO) (sd0 : SD) (S0 : SO) : Prop where
  sub : ∀ a, S a = none → S0 a = none
  sta : ∀ K σ H, Sta K sd S σ H → Sta K sd0 S0 σ H
theorem Wk.refl (sd : SD) (S : SO) : Wk sd S sd S := ⟨fun _ h => h, fun _ _ _ h => h⟩
theorem Wk.trans {sd sd1 sd2 : SD} {S S1 S2 : SO} (a : Wk sd S sd1 S1) (b : Wk sd1 S1 sd2 S2) : Wk sd S sd2 S2 := ⟨fun x h => b.sub x (a.sub x h), fun K σ H h => b.sta K σ H (a.sta K σ H h)⟩
def SlF (p : Addr) (ds : List D) : SD → SD → Prop
  | [], [] => True
  | a :: as, b :: bs => (b = a ∨ b = none ∨ (a = some (.obj p) ∧ b = some (.lst ds))) ∧ SlF p ds as bs
  | _, _ => False
theorem SlF.len {p : Addr} {ds : List D} : ∀ {a b : SD}, SlF p ds a b → b.length = a.length
  | [], [], _ => rfl
  | _ :: as, _ :: bs, h => by rw [List.length_cons, List.length_cons, SlF.len h.2]
  | [], _ :: _, h => h.elim
  | _ :: _, [], h => h.elim
theorem SlF.get {p : Addr} {ds : List D} : ∀ {a b : SD} {i : Nat} {d : D}, SlF p ds a b → b[i]? = some (some d) → a[i]? = some (some d) ∨ (a[i]? = some (some (.obj p)) ∧ d = .lst ds)
  | [], [], i, d, _, e => by simp at e
  | x :: as, y :: bs, 0, d, h, e => by
    have e : y = some d := Option.some.inj e
    rcases h.1 with h1 | h1 | ⟨h1, h2⟩
    · exact .inl (by rw [← h1, e]; rfl)
    · rw [h1] at e
      cases e
    · rw [h2] at e
      cases e
      exact .inr ⟨by rw [h1]; rfl, rfl⟩
  | x :: as, y :: bs, i + 1, d, h, e => SlF.get (i := i) h.2 e
  | [], _ :: _, _, _, h, _ => h.elim
  | _ :: _, [], _, _, h, _ => h.elim
theorem Wk.lst {sd sd0 : SD} {S : SO} {p : Addr} {ds : List D} (h : S p = some (.lst ds)) (hs : SlF p ds sd sd0) : Wk sd S sd0 (S.del p) := by
  refine ⟨fun a e => by unfold SO.del; split; rfl; exact e, fun K σ H st => ?_⟩
  obtain ⟨n, s2, r2⟩ := frz_lst st.s h
  refine ⟨s2, hs.len.trans st.r.1, fun i d e => ?_⟩
  rcases hs.get e with e1 | ⟨e1, rfl⟩
  · obtain ⟨v, e', r⟩ := st.r.2 i d e1
    exact ⟨v, e', Rel.nx n _ _ r⟩
  · obtain ⟨v, e', r⟩ := st.r.2 i _ e1
    have er : v = .ref p := r
    subst er
    exact ⟨_, e', r2⟩
/-- objects are forgotten -/
theorem Wk.to {sd : SD} {S S0 : SO} (h : ∀ a o, S0 a = some o → S a = some o) : Wk sd S sd S0 := by
  have sub : ∀ a, S a = none → S0 a = none := fun a e => by
    cases q : S0 a with
    | none => rfl
    | some o =>
      rw [h a o q] at e
      cases e
  refine ⟨sub, fun K σ H st => ?_⟩
  have n : Nx S H S0 H := fun a u h1 h2 => ⟨sub a h1, h2⟩
  exact st.nx n fun a o q => (st.s a o (h a o q)).nx n rfl
def ClS (n : SD → SO → Prop) : SD → SO → Prop := fun sd' S' => ∃ sd0 S0, Wk sd' S' sd0 S0 ∧ n sd0 S0
def wCl (w : WS) : WS := fun E sd S => w { E with nx := ClS E.nx } sd S
theorem xCl {a : WS} {n bk ct : SD → SO → Prop} {r : KD} {sd : SD} {S : SO} (h : a ⟨ClS n, r, bk, ct⟩ sd S) : wCl a ⟨n, r, bk, ct⟩ sd S := h
instance st_xCl {lw : Lv} {a : WS} {n bk ct : SD → SO → Prop} {r : KD} {sd : SD} {S : SO} : Step lw (wCl a ⟨n, r, bk, ct⟩ sd S) (a ⟨ClS n, r, bk, ct⟩ sd S) := ⟨fun h => xCl h⟩
/-! a typed while -/
section
variable {σ : Type} {c : WT} {b : WS} {n bk ct : SD → SO → Prop} {r : KD} {sd : SD} {S : SO}
end
end
end L2.DL

/-! DL36: list * n as a list that changes; list.count(None) -/
namespace L2.DL
open PySem PySem.Spec PyProof.Rows
section
variable {X : Cx}
/-! numbers or None -/
def onD : Option Nat → D
  | none => .non
  | some i => .int (i : Nat)
instance : InjD onD := ⟨fun a b e => by
  cases a <;> cases b
  · rfl
  · cases e
  · cases e
  · unfold onD at e
    injection e with e
    congr 1
    omega⟩
end
end L2.DL

/-! DL37: + of tuples, neither empty, the sum laid as .tf -/
namespace L2.DL
open PySem PySem.Spec PyProof.Rows
section
variable {X : Cx}
def oAddF : WO := fun x y S Q => ∃ a b, asTup x = some a ∧ asTup y = some b ∧ a ≠ [] ∧ b ≠ [] ∧ a.length + b.length ≤ 1000000 ∧ Q (.tf (a ++ b)) S
theorem do_addF : DO2 X (binaryOp .Add) oAddF := by
  intro pins s σ H x y v u Q I rx ry ⟨dx, dy, S, Q0, sr, r1, r2, ⟨a, b, h1, h2, na, nb, hl, q⟩, an⟩
  obtain ⟨p1, vs, e1, t1, rv⟩ := asTup_at r1 h1
  obtain ⟨p2, us, e2, t2, ru⟩ := asTup_at r2 h2
  subst e1 e2
  cases rx
  cases ry
  have rvu := rv.app ru
  have l1 := rv.length
  have l2 := ru.length
  have hz : vs.length + us.length ≤ sizeLine := by rw [← l1, ← l2]; exact le_line hl
  obtain ⟨its, w1, t1, _⟩ := I.tuple t1
  obtain ⟨its2, w2, t2, _⟩ := I.tuple t2
  have n1 : vs ≠ [] := fun e => na (by subst e; exact List.length_eq_zero_iff.mp l1)
  have n2 : us ≠ [] := fun e => nb (by subst e; exact List.length_eq_zero_iff.mp l2)
  have hf := I.hok.fresh (Nat.le_refl _)
  refine HT.cat_tup t1 t2 (fun z => n1 (w1.nil_iff.mp z)) (fun z => absurd (w2.nil_iff.mp z) n2) (fun z => ?_) (by rw [← w1.length, ← w2.length]; exact hz)
  refine ⟨.ref s.heap.objs.size, _, I.laid (t' := s.toks) (o := .frz { cls := .type "tuple", data := .seq (its ++ its2).toArray } (.tup (vs ++ us))) (fun b ob q => Heap.get?_push_of_some _ q) (Nat.le_refl _) ?_, rfl, an _ _ _ _ q (nx_new hf) (sr.new hf) ⟨_, vs ++ us, rfl, ⟨sr.free hf, _, upd_same, rfl, rfl⟩, rvu.nx (nx_new hf)⟩⟩
  exact ⟨Heap.get?_push_size _ rfl, by rw [List.length_append]; exact hz, _, w1.append w2, by have := IsTup.new s.heap (its ++ its2).toArray; simpa using this⟩
end
end L2.DL

/-! DL38: list.extend -/
namespace L2.DL
open PySem PySem.Spec PyProof.Rows
section
variable {X : Cx}
end
end L2.DL

/-! DL39: dict.update(dict) -/
namespace L2.DL
open PySem PySem.Spec PyProof.Rows
section
variable {X : Cx}
theorem RelK.merge {K : PySem.W.Frag} {S : SO} {H : Hp} : ∀ {ys : List (D × D)} {l2 : List (Key × V)} {kvs : List (D × D)} {l : List (Key × V)}, RelK K S H ys l2 → RelK K S H kvs l → RelK K S H (dputsL kvs ys) (mergeK l l2)
  | [], l2, kvs, l, h, h' => by
    have e : l2 = [] := h
    subst e
    exact h'
  | (k, d) :: ys, l2, kvs, l, h, h' => by
    obtain ⟨q, v, r, rfl, hk, h1, h2⟩ := h
    subst hk
    show RelK K S H (dputsL (dput kvs (keyD q) d) ys) (mergeK (putK l q v) r)
    exact RelK.merge (ys := ys) (l2 := r) h2 (h'.put h1)
theorem RelK.len {K : PySem.W.Frag} {S : SO} {H : Hp} : ∀ {ys : List (D × D)} {l : List (Key × V)}, RelK K S H ys l → ys.length = l.length
  | [], l, h => by
    have e : l = [] := h
    subst e
    rfl
  | (k, d) :: ys, l, h => by
    obtain ⟨q, v, r, rfl, _, _, h2⟩ := h
    rw [List.length_cons, List.length_cons, RelK.len h2]
end
end L2.DL

/-! DL40: tuple * int -/
namespace L2.DL
open PySem PySem.Spec PyProof.Rows
section
variable {X : Cx}
end
end L2.DL

/-! DL41: sorted(set(xs)) of texts, of ints -/
namespace L2.DL
open PySem PySem.Spec PyProof.Rows
/-- the elements of a set, by keys of one kind -/
structure SK (P : Program) (w : World) (K : Type) [DecidableEq K] where
  κ : PySem.KeyKind P w K
  val : K → Tok → Value
  key : Value → K
  keyV : ∀ k t, key (val k t) = k
  isV : ∀ k t, κ.is k (val k t) = true
  scn : ∀ k t, (val k t).scannable = true
section
variable {P : Program} {w : World} {K : Type} [DecidableEq K] {Z : SK P w K}
theorem SK.is_iff (Z : SK P w K) {k j : K} {u : Tok} : Z.κ.is j (Z.val k u) = true ↔ k = j := by
  rw [PySem.KeyKind.is_eq_decide (Z.isV k u) j, decide_eq_true_iff]
  exact eq_comm
abbrev SEs := Array (Int × Value)
def SK.keys (Z : SK P w K) (l : SEs) : List K := l.toList.map fun e => Z.key e.2
/-- the payload holds the keys of M, n of them, and can be walked -/
structure SK.Tb (Z : SK P w K) (l : SEs) (t : SetTable) (M : K → Bool) (n : Nat) : Prop where
  el : ∀ e ∈ l.toList, ∃ k u, e = (Z.κ.hash k, Z.val k u)
  nd : (Z.keys l).Nodup
  mem : ∀ k, M k = true ↔ k ∈ Z.keys l
  fit : t.fits l.size = true
  sz : l.size = n
  ris : Ris t.place.toList
  led : w.params.followText "set-order" = true ∨ t.led = true
theorem SK.Tb.mv {l l2 : SEs} {t t2 : SetTable} {M : K → Bool} {n : Nat} (T : Z.Tb l t M n) (p : List.Perm l2.toList l.toList) (hf : t2.fits l2.size = true) (hr : Ris t2.place.toList) (hl : t2.led = t.led) : Z.Tb l2 t2 M n :=
  ⟨fun e he => T.el e (p.mem_iff.mp he), (p.map _).nodup_iff.mpr T.nd, fun k => (T.mem k).trans (p.map _).mem_iff.symm, hf, by rw [← T.sz, ← Array.length_toList, p.length_eq, Array.length_toList], hr, hl ▸ T.led⟩
theorem SK.Tb.add {l l2 : SEs} {t t2 : SetTable} {M : K → Bool} {n : Nat} {k : K} {u : Tok} (T : Z.Tb l t M n) (hk : M k = false) (p : List.Perm l2.toList ((Z.κ.hash k, Z.val k u) :: l.toList)) (hf : t2.fits l2.size = true) (hr : Ris t2.place.toList) (hl : t2.led = t.led) : Z.Tb l2 t2 (fun j => M j || decide (j = k)) (n + 1) := by
  have pk : (Z.keys l2).Perm (k :: Z.keys l) := by
    have := p.map fun e => Z.key e.2
    rwa [List.map_cons, Z.keyV] at this
  have hn : k ∉ Z.keys l := fun h => by
    rw [(T.mem k).mpr h] at hk
    cases hk
  refine ⟨fun e he => ?_, pk.nodup_iff.mpr (List.nodup_cons.mpr ⟨hn, T.nd⟩), fun j => ?_, hf, ?_, hr, hl ▸ T.led⟩
  · rcases List.mem_cons.mp (p.mem_iff.mp he) with h | h
    · exact ⟨k, u, h⟩
    · exact T.el e h
  · rw [pk.mem_iff, List.mem_cons, Bool.or_eq_true, decide_eq_true_iff, T.mem j, or_comm]
  · rw [← T.sz, ← Array.length_toList, p.length_eq, List.length_cons, Array.length_toList]
theorem SK.Tb.elems {l : SEs} {t : SetTable} {M : K → Bool} {n : Nat} (T : Z.Tb l t M n) : ElemsOf Z.κ l.toList := fun e he => by
  obtain ⟨k, u, rfl⟩ := T.el e he
  exact ⟨⟨k, Z.isV k u, rfl⟩, Z.scn k u⟩
theorem SK.Tb.has {l : SEs} {t : SetTable} {M : K → Bool} {n : Nat} (T : Z.Tb l t M n) (k : K) : M k = true ↔ ∃ e ∈ l.toList, Z.κ.is k e.2 = true := by
  rw [T.mem k]
  unfold SK.keys
  rw [List.mem_map]
  constructor
  · rintro ⟨e, he, h⟩
    obtain ⟨j, u, rfl⟩ := T.el e he
    have h : Z.key (Z.val j u) = k := h
    rw [Z.keyV] at h
    exact ⟨_, he, Z.is_iff.mpr h⟩
  · rintro ⟨e, he, h⟩
    obtain ⟨j, u, rfl⟩ := T.el e he
    exact ⟨_, he, (Z.keyV j u).trans (Z.is_iff.mp h)⟩
/-- the set at a -/
def SK.Is (Z : SK P w K) (h : Heap) (a : Addr) (M : K → Bool) (n : Nat) : Prop := ∃ o l ep t, h.get? a = some o ∧ o.ExactSet ∧ o.data = .set l ep t ∧ Z.Tb l t M n
theorem SK.Is.at {h h' : Heap} {a : Addr} {M : K → Bool} {n : Nat} (R : Z.Is h a M n) (k : ∀ o, h.get? a = some o → h'.get? a = some o) : Z.Is h' a M n := by
  obtain ⟨o, l, ep, t, g, r⟩ := R
  exact ⟨o, l, ep, t, k o g, r⟩
theorem SK.Is.eqv {h : Heap} {a : Addr} {M M' : K → Bool} {n : Nat} (R : Z.Is h a M n) (e : ∀ k, M' k = M k) : Z.Is h a M' n := (funext e : M' = M) ▸ R
variable {A : Around} {E : Value → Shared → Prop} {s : Shared} {a : Addr} {M : K → Bool} {n : Nat}
theorem put_at {h : Heap} {o : Obj} {l l2 : SEs} {ep : Nat} {t t2 : SetTable} (g : h.get? a = some o) (e : o.data = .set l ep t) : (h.update a (Obj.putSet l2 t2)).get? a = some { o with data := .set l2 (ep + 1) t2 } := by
  rw [← putSet_of l2 t2 e]
  exact Heap.get?_update_self (Obj.putSet l2 t2) g (by rw [putSet_of l2 t2 e]; rfl)
theorem SK.tail {g : Bool → Sem Unit} (hg : ∀ (b : Bool) (s1 : Shared) (Q1 : Unit → Shared → Prop), Q1 () s1 → wpAny (model P w) A (g b) Q1 E s1) {o : Obj} {l0 l : SEs} {ep : Nat} {t0 t : SetTable} (h1 : s.heap.get? a = some o) (h2 : o.ExactSet) (h3 : o.data = .set l0 ep t0)
    (T : Z.Tb l t M n) (hb : n < scanBound) {wd : Bool} {R : Option Bool → Shared → Prop} (hR : ∀ h', Heap.SameBut a s.heap h' → Z.Is h' a M n → R (some true) { s with heap := h' }) :
    wpAny (model P w) A (storeSet a l t >>= fun _ => if (!wd && t.tooFull) = true then g (relayAll t l (SetTable.grown l.size)).2.2 >>= fun _ => storeSet a (relayAll t l (SetTable.grown l.size)).1 (relayAll t l (SetTable.grown l.size)).2.1 >>= fun _ => pure (some true) else pure (some true)) R E s := by
  have few : ∀ {l2 : SEs}, l2.size = n → l2.size < scanBound := fun e => e ▸ hb
  refine wpAny_bind (wpAny_storeSet_of h1 h3 ?_ (fits_of_scanBound (few T.sz)))
  have g1 := put_at (l2 := l) (t2 := t) h1 h3
  have b1 := Heap.SameBut.update s.heap a (Obj.putSet l t)
  by_cases c : (!wd && t.tooFull) = true
  · rw [if_pos c]
    have T2 : Z.Tb (relayAll t l (SetTable.grown l.size)).1 (relayAll t l (SetTable.grown l.size)).2.1 M n := T.mv (relayAll_perm ..) (relayAll_fits ..) (relayAll_ris ..) (relayAll_led ..)
    refine wpAny_bind (hg _ _ _ (wpAny_bind (wpAny_storeSet_of g1 rfl ?_ (fits_of_scanBound (few T2.sz)))))
    exact wpAny_pure (hR _ (b1.trans (Heap.SameBut.update _ a _)) ⟨_, _, _, _, put_at g1 rfl, h2, rfl, T2⟩)
  · rw [if_neg c]
    exact wpAny_pure (hR _ b1 ⟨_, _, _, _, g1, h2, rfl, T⟩)
theorem SK.put {k : K} {u : Tok} {Q : Bool → Shared → Prop} (R : Z.Is s.heap a M n) (room : n + 1 < scanBound)
    (hQ : ∀ h', Heap.SameBut a s.heap h' → Z.Is h' a (fun j => M j || decide (j = k)) (if M k = true then n else n + 1) → Q (!M k) { s with heap := h' }) : wpAny (model P w) A (setAddHashed a (Z.val k u) (Z.κ.hash k)) Q E s := by
  obtain ⟨o, l, ep, t, h1, h2, h3, T⟩ := R
  have hb : l.size < scanBound := by rw [T.sz]; omega
  have quiet : ∀ (b : Bool) (s1 : Shared) (Q1 : Unit → Shared → Prop), Q1 () s1 → wpAny (model P w) A (match b with | true => rule "set.scan.the-table-gave-way" | false => pure ()) Q1 E s1 := fun b s1 Q1 q => by
    cases b
    · exact wpAny_pure q
    · exact wpAny_rule q
  unfold setAddHashed setAddHashedIn
  refine wpAny_holding (wpAny_bind (wpAny_setState_of h1 h3 T.fit ?_))
  dsimp only
  rw [byScan_of (Z.scn k u) hb T.elems]
  simp only [↓reduceIte]
  unfold setAddByScan
  refine wpAny_bind (wpAny_bind (wpAny_rule (wpAny_bind (wpAny_setScan_of (Z.isV k u) h1 h3 T.fit T.elems ?_))))
  cases hM : M k with
  | true =>
    obtain ⟨e, he, hi⟩ := (T.has k).mp hM
    cases f : List.findIdx? (fun e => Z.κ.is k e.2) l.toList with
    | none =>
      have := List.findIdx?_eq_none_iff.mp f e he
      rw [hi] at this
      cases this
    | some j =>
      dsimp only
      have q := hQ s.heap (Heap.SameBut.refl a s.heap) (by
        rw [if_pos hM]
        refine SK.Is.eqv ⟨o, l, ep, t, h1, h2, h3, T⟩ fun j => ?_
        by_cases c : j = k
        · subst c
          rw [hM]
          rfl
        · rw [decide_eq_false c, Bool.or_false])
      rw [hM] at q
      exact wpAny_pure (wpAny_pure q)
  | false =>
    cases f : List.findIdx? (fun e => Z.κ.is k e.2) l.toList with
    | some j =>
      obtain ⟨hj, pj, _⟩ := List.findIdx?_eq_some_iff_getElem.mp f
      have := (T.has k).mpr ⟨_, List.getElem_mem hj, pj⟩
      rw [hM] at this
      cases this
    | none =>
      dsimp only
      have pm := layNew_perm t l (Z.κ.hash k) (Z.val k u)
      rw [Array.toList_push] at pm
      have T2 : ∀ t2 : SetTable, t2.fits (layNew t l (Z.κ.hash k) (Z.val k u)).1.size = true → t2.place = (layNew t l (Z.κ.hash k) (Z.val k u)).2.1.place → t2.led = (layNew t l (Z.κ.hash k) (Z.val k u)).2.1.led → Z.Tb (layNew t l (Z.κ.hash k) (Z.val k u)).1 t2 (fun j => M j || decide (j = k)) (n + 1) := fun t2 f p e =>
        T.add hM (pm.trans (List.perm_append_singleton _ _)) f (p ▸ layNew_ris t l (Z.κ.hash k) (Z.val k u) T.ris) (e.trans (layNew_led t l (Z.κ.hash k) (Z.val k u)))
      have f1 := layNew_fits t l (Z.κ.hash k) (Z.val k u)
      have fin : ∀ h', Heap.SameBut a s.heap h' → Z.Is h' a (fun j => M j || decide (j = k)) (n + 1) → Q true { s with heap := h' } := fun h' sb r => by
        have q := hQ h' sb
        rw [hM] at q
        exact q r
      generalize layNew t l (Z.κ.hash k) (Z.val k u) = N at T2 f1 ⊢
      obtain ⟨l1, t1, wd, gave⟩ := N
      dsimp only at T2 f1 ⊢
      refine wpAny_bind (quiet _ _ _ ?_)
      have last : ∀ h', Heap.SameBut a s.heap h' → Z.Is h' a (fun j => M j || decide (j = k)) (n + 1) → wpAny (model P w) A (match some true with | some added => pure added | none => setAddHashedIn a (Z.val k u) (Z.κ.hash k) 99999) Q E { s with heap := h' } := fun h' sb r => wpAny_pure (fin h' sb r)
      split
      · refine wpAny_bind ?_
        rw [hashByValue_scannable 8 (Z.scn k u)]
        refine wpAny_pure (SK.tail (fun b s1 Q1 q => ?_) h1 h2 h3 (M := fun j => M j || decide (j = k)) (n := n + 1) ?_ room fun h' sb r => last h' sb r)
        · cases b
          · exact wpAny_pure q
          · exact wpAny_rule q
        · split
          · exact T2 _ f1 rfl rfl
          · exact T2 _ (SetTable.fits_plain_off f1) rfl rfl
      · refine wpAny_bind (wpAny_pure ?_)
        simp only [↓reduceIte]
        refine SK.tail (fun b s1 Q1 q => ?_) h1 h2 h3 (T2 _ f1 rfl rfl) room fun h' sb r => last h' sb r
        cases b
        · exact wpAny_pure q
        · exact wpAny_rule q
abbrev obS (w : World) : Obj := { cls := .type "set", dict := none, data := .set #[] 0 (.fresh 0 0 (!w.params.followText "set-order")) }
theorem SK.fresh {h : Heap} {ks : List K} (g : h.get? a = some (obS w)) : Z.Is h a (fun j => decide (j ∈ ks.take 0)) 0 :=
  ⟨_, #[], 0, _, g, ⟨rfl, rfl, rfl⟩, rfl, ⟨fun e he => by simp at he, List.nodup_nil, fun k => by simp [SK.keys], rfl, rfl, .nil, by
    cases c : w.params.followText "set-order"
    · exact .inr rfl
    · exact .inl rfl⟩⟩
end
end L2.DL

/-! DL42: sorted(set(xs)) as a rule -/
namespace L2.DL
open PySem PySem.Spec PyProof.Rows
section
variable {X : Cx} {K : Type} [DecidableEq K]
end
end L2.DL

/-! DL43: len(set(t)), t a tuple of texts -/
namespace L2.DL
open PySem PySem.Spec PyProof.Rows
section
variable {P : Program} {w : World} {K : Type} [DecidableEq K] {Z : SK P w K} {A : Around} {E : Value → Shared → Prop} {s : Shared} {a : Addr} {M : K → Bool} {n : Nat}
theorem SK.Is.count {h : Heap} {ks : List K} (R : Z.Is h a (fun j => decide (j ∈ ks)) n) (nd : ks.Nodup) : n = ks.length := by
  obtain ⟨o, l, ep, t, _, _, _, T⟩ := R
  have pm : (Z.keys l).Perm ks := (List.perm_ext_iff_of_nodup T.nd nd).mpr fun k => (T.mem k).symm.trans decide_eq_true_iff
  have := pm.length_eq
  unfold SK.keys at this
  rw [List.length_map, Array.length_toList, T.sz] at this
  exact this
end
section
variable {X : Cx} {K : Type} [DecidableEq K]
end
end L2.DL

/-! DL44: dict(zip(ks, xs)) of two lists, the keys texts -/
namespace L2.DL
open PySem PySem.Spec PyProof.Rows
section
variable {K : PySem.W.Frag} {S : SO} {H : Hp}
theorem relk_zip : ∀ {ks : List Str} {ds : List D} {vs : List V} {acc : List (D × D)} {m : List (Key × V)}, Rels K S H ds vs → RelK K S H acc m → RelK K S H (dputsL acc ((ks.map D.str).zip ds)) (mergeK m ((ks.map fun k => (.inr k : Key)).zip vs))
  | [], ds, vs, acc, m, _, h => h
  | k :: ks, [], vs, acc, m, r, h => by
    have e : vs = [] := r
    subst e
    exact h
  | k :: ks, d :: ds, vs, acc, m, r, h => by
    obtain ⟨v, vs, rfl, r1, r2⟩ := r
    exact relk_zip (ks := ks) r2 (h.put (q := .inr k) r1)
end
theorem kv_zip : ∀ {ks : List Str} {vs : List V} {us : List Value}, Vals vs us → KV ((ks.map fun k => (.inr k : Key)).zip vs) ((ks.map fun k => (.inr k : Key)).zip us)
  | [], _, _, _ => .nil
  | k :: ks, _, _, .nil => .nil
  | k :: ks, _, _, .cons r t => .cons ⟨rfl, r⟩ (kv_zip (ks := ks) t)
section
variable {X : Cx}
theorem strs_mix {vs : List Value} {ks : List Str} (r : Vals (ks.map V.str) vs) {i : Nat} {v : Value} (h : vs[i]? = some v) : ∃ k : Str, ks[i]? = some k ∧ (mixKind X.prog X.w).is (.inr k) v = true := by
  obtain ⟨y, t, e1, e2⟩ := r.strs.item i v h
  exact ⟨y, e2, kV_is (k := .inr y) ⟨t, e1⟩⟩
end
end L2.DL

/-! DL45: xs[k::m] of lists; list + list as a list that changes -/
namespace L2.DL
open PySem PySem.Spec PyProof.Rows
section
variable {X : Cx}
/-! ### + as a new object -/
/-! ### xs[k::m] -/
end
end L2.DL

/-! DL46: dicts locked behind a statement (.fd), d.items() of these, d != {}, d.setdefault -/
namespace L2.DL
open PySem PySem.Spec PyProof.Rows
/-! ### locked behind a statement -/
section
variable {X : Cx}
end
section
variable {X : Cx}
end
/-! ### items -/
section
variable {X : Cx} {pins : List (Addr × Obj)} {σ : St} {H : Hp} {s : Shared} {d : Addr} {o : Obj}
end
section
variable {P : Program} {w : World} {K : PySem.W.Frag} {d : Addr} {o : Obj} {es : Array DictEntry} {ep : Nat}
end
section
variable {X : Cx} {e : Expr} {td : TE} {apos cpos : Pos}
end
end L2.DL

/-! DL47: over data: d.items() of a locked dict, d != {}, d.setdefault(k, x) -/
namespace L2.DL
open PySem PySem.Spec PyProof.Rows
section
variable {K : PySem.W.Frag} {S : SO} {H : Hp}
theorem RelK.at : ∀ {kvs : List (D × D)} {l : List (Key × V)} {i : Nat} {q : Key} {v : V}, RelK K S H kvs l → l[i]? = some (q, v) → ∃ d, kvs[i]? = some (keyD q, d) ∧ Rel K S H d v
  | [], l, i, q, v, h, e => by
    have el : l = [] := h
    subst el
    simp at e
  | (k, d) :: kvs, l, 0, q, v, h, e => by
    obtain ⟨q', v', r, rfl, rfl, h1, h2⟩ := h
    cases e
    exact ⟨d, rfl, h1⟩
  | (k, d) :: kvs, l, i + 1, q, v, h, e => by
    obtain ⟨q', v', r, rfl, rfl, h1, h2⟩ := h
    exact RelK.at (i := i) h2 e
theorem RelT.at : ∀ {kvs : List (D × D)} {l : List (List Key × V)} {i : Nat} {q : List Key} {v : V}, RelT K S H kvs l → l[i]? = some (q, v) → ∃ d, kvs[i]? = some (.tup (q.map keyD), d) ∧ Rel K S H d v
  | [], l, i, q, v, h, e => by
    have el : l = [] := h
    subst el
    simp at e
  | (k, d) :: kvs, l, 0, q, v, h, e => by
    obtain ⟨q', v', r, rfl, rfl, h1, h2⟩ := h
    cases e
    exact ⟨d, rfl, h1⟩
  | (k, d) :: kvs, l, i + 1, q, v, h, e => by
    obtain ⟨q', v', r, rfl, rfl, h1, h2⟩ := h
    exact RelT.at (i := i) h2 e
theorem key_rel (q : Key) : Rel K S H (keyD q) (kV q) := by
  cases q <;> exact rfl
end
section
variable {X : Cx} {e : Expr} {we : WE} {apos cpos : Pos}
/-! ### d != {} -/
/-! ### d.setdefault(k, x) -/
/-! ### d.get(k, x) -/
/-! ### name = {k: v for ..}, the dict an object -/
end
end L2.DL

/-! DL48: dict comprehensions with two for -/
namespace L2.DL
open PySem PySem.Spec PyProof.Rows
section
variable {prog : Program} {w : World} {A : Around} {R : Result → Shared → Prop} {s : Shared} {kx vx t0 i0 t1 i1 : Expr} {ifs0 ifs1 : List Expr} {scope : Scope} {pos : Pos} {it : Value} {D : Addr} {env : Env}
end

section
variable {X : Cx}
/-! ### .. over data -/
end
end L2.DL

/-! DL49: {**a, **b} of locked dicts with keys ints and texts, list(dict), for key in dict -/
namespace L2.DL
open PySem PySem.Spec PyProof.Rows
/-! ### a dict merged into another one by a display -/
section
variable {prog : Program} {w : World} {A : Around} {E : Value → Shared → Prop} {s : Shared}
end
section
variable {X : Cx}
/-! ### .. over data -/
/-! ### for key in a locked dict -/
def kysD (kvs : List (D × D)) : List D := kvs.map (·.1)
/-! ### list(dict) -/
theorem RelK.keys {K : PySem.W.Frag} {S : SO} {H : Hp} : ∀ {ys : List (D × D)} {l : List (Key × V)}, RelK K S H ys l → Rels K S H (kysD ys) (l.map fun p => kV p.1)
  | [], l, h => by
    have e : l = [] := h
    subst e
    rfl
  | (k, d) :: ys, l, h => by
    obtain ⟨q, v, r, rfl, rfl, _, h2⟩ := h
    exact ⟨_, _, rfl, key_rel q, RelK.keys (ys := ys) h2⟩
end
end L2.DL

/-! DL50: list(d.values()) of a locked dict, range(a, b, -1), dict(pairs) as an object -/
namespace L2.DL
open PySem PySem.Spec PyProof.Rows
def vlsD (kvs : List (D × D)) : List D := kvs.map (·.2)
theorem RelK.vals {K : PySem.W.Frag} {S : SO} {H : Hp} : ∀ {ys : List (D × D)} {l : List (Key × V)}, RelK K S H ys l → Rels K S H (vlsD ys) (l.map fun p => p.2)
  | [], l, h => by
    have e : l = [] := h
    subst e
    rfl
  | (k, d) :: ys, l, h => by
    obtain ⟨q, v, r, rfl, rfl, h1, h2⟩ := h
    exact ⟨_, _, rfl, h1, RelK.vals (ys := ys) h2⟩
section
variable {X : Cx}
/-! ### range(a, b, -1) -/
/-! ### dict(pairs), an object -/
end
/-! ### max, min of a tuple of ints -/
section
variable {prog : Program} {w : World} {A : Around} {E : Value → Shared → Prop} {s : Shared}
end
section
variable {X : Cx}
end
end L2.DL

/-! DL51: dict(zip(tuple of texts, tuple)) -/
namespace PySem
open PySem PySem.Calls PyProof.Rows PyProof.V PySem.Spec
section
variable {prog : Program} {w : World} {A : Around} {E : Value → Shared → Prop} {s : Shared}
theorem zipT_item_held {z TI TO T i1 i2 l1 l2 : Addr} {f : Bool} {oT : Obj} {k1 k2 : Nat} {xs ys : Array Value} {x y : Value} {Q : Value → Shared → Prop} (D : ZipApart z TI TO i1 i2 l1 l2)
    (hz : IsZipHeld s.heap z TI TO T f) (hT : s.heap.get? T = some oT) (hTI : IsPair s.heap TI (.ref i1) (.ref i2))
    (h1 : s.heap.IsTupleIter i1 l1 k1) (h2 : s.heap.IsTupleIter i2 l2 k2) (hl1 : s.heap.IsTuple l1 xs) (hl2 : s.heap.IsTuple l2 ys) (hx : xs[k1]? = some x) (hy : ys[k2]? = some y)
    (hQ : ∀ h', IsZipHeld h' z TI TO T true → h'.IsTupleIter i1 l1 (k1 + 1) → h'.IsTupleIter i2 l2 (k2 + 1) → IsPair h' s.heap.objs.size x y → h'.objs.size = s.heap.objs.size + 1 →
      (∀ c o, c ≠ z → c ≠ i1 → c ≠ i2 → s.heap.get? c = some o → h'.get? c = some o) → Q (.ref s.heap.objs.size) { s with heap := h' }) :
    wpAny (model prog w) A (Builtin.«zip.__next__» ⟨[.ref z], []⟩) (fun fin s' => ∃ v, fin = .done (.ret v) ∧ Q v s') E s := by
  show wpAny _ _ (field (.ref z) 2 >>= _) _ _ _
  refine wpAny_bind (wpAny_field hz rfl (x := .bool false) rfl ?_)
  show wpAny _ _ (field (.ref z) 3 >>= _) _ _ _
  refine wpAny_bind (wpAny_field hz rfl (x := .ref TI) rfl ?_)
  refine wpAny_bind (wpAny_seqItems hTI rfl ?_)
  show wpAny _ _ (Builtin.SmallTypes.ownedTupleIsFree (.ref z) >>= _) _ _ _
  refine wpAny_bind (wpAny_tupleHeld_zip hz hT fun h₁ hz₁ hs₁ => ?_)
  simp only [Bool.false_eq_true, if_false]
  refine wpAny_bind ?_
  rw [← Array.forIn_toList]
  simp only [List.forIn_cons, List.forIn_nil]
  refine wpAny_bind (wpAny_bind (wpAny_holding ?_))
  show wpAny _ _ (Builtin.SmallTypes.nextOf (.ref i1) >>= _) _ _ _
  refine wpAny_bind (RZ.nextOf_tuple_item (s := { s with heap := h₁ }) (h1.extBut hs₁.extBut D.i1z) (hl1.extBut hs₁.extBut D.l1z) hx fun h₂ h1₂ hs₂ => wpAny_pure ?_)
  refine wpAny_pure ?_
  refine wpAny_bind (wpAny_bind (wpAny_holding ?_))
  show wpAny _ _ (Builtin.SmallTypes.nextOf (.ref i2) >>= _) _ _ _
  refine wpAny_bind (RZ.nextOf_tuple_item (s := { s with heap := h₂ }) ((h2.extBut hs₁.extBut D.i2z).extBut hs₂.extBut D.i12.symm) ((hl2.extBut hs₁.extBut D.l2z).extBut hs₂.extBut D.l2i1) hy fun h₃ h2₃ hs₃ => wpAny_pure ?_)
  refine wpAny_pure (wpAny_pure ?_)
  show wpAny _ _ (newTuple [x, y] >>= _) _ _ _
  refine wpAny_bind (wpAny_newTuple ?_)
  have hsz : h₃.objs.size = s.heap.objs.size := by rw [hs₃.1, hs₂.1, hs₁.1]
  have hz₃ : IsZipHeld h₃ z TI TO T true := hs₃.extBut _ _ D.i2z.symm (hs₂.extBut _ _ D.i1z.symm hz₁)
  have hk : ∀ c o, c ≠ z → c ≠ i1 → c ≠ i2 → s.heap.get? c = some o → h₃.get? c = some o := fun c o c1 c2 c3 e => hs₃.extBut _ _ c3 (hs₂.extBut _ _ c2 (hs₁.extBut _ _ c1 e))
  have h1₃ : h₃.IsTupleIter i1 l1 (k1 + 1) := h1₂.extBut hs₃.extBut D.i12
  refine wpAny_pure ⟨_, rfl, ?_⟩
  show Q (.ref h₃.objs.size) _
  have hp : IsPair (h₃.push { cls := .type "tuple", data := .seq #[x, y] }) h₃.objs.size x y := Heap.get?_push_size _ rfl
  have hz4 : (h₃.push { cls := .type "tuple", data := .seq #[x, y] }).objs.size = h₃.objs.size + 1 := Heap.size_push ..
  rw [hsz] at hp hz4 ⊢
  exact hQ _ (Heap.get?_push_of_some _ hz₃) (h1₃.at fun o e => Heap.get?_push_of_some _ e) (h2₃.at fun o e => Heap.get?_push_of_some _ e) hp hz4 fun c o c1 c2 c3 e => Heap.get?_push_of_some _ (hk c o c1 c2 c3 e)

theorem zipT_end_held {z TI TO T i1 i2 l1 l2 : Addr} {f : Bool} {oT : Obj} {k1 k2 : Nat} {xs ys : Array Value} {Q : Fin → Shared → Prop} (hh : A.handled = none) (D : ZipApart z TI TO i1 i2 l1 l2)
    (hz : IsZipHeld s.heap z TI TO T f) (hT : s.heap.get? T = some oT) (hTI : IsPair s.heap TI (.ref i1) (.ref i2))
    (h1 : s.heap.IsTupleIter i1 l1 k1) (h2 : s.heap.IsTupleIter i2 l2 k2) (hl1 : s.heap.IsTuple l1 xs) (hl2 : s.heap.IsTuple l2 ys) (hend : xs[k1]? = none ∨ ys[k2]? = none)
    (hE : ∀ h' e, (∀ c o, c ≠ z → c ≠ i1 → c ≠ i2 → s.heap.get? c = some o → h'.get? c = some o) → (∃ o, h'.get? e = some o ∧ o.cls = .type "StopIteration") → E (.ref e) { s with heap := h' }) :
    wpAny (model prog w) A (Builtin.«zip.__next__» ⟨[.ref z], []⟩) Q E s := by
  show wpAny _ _ (field (.ref z) 2 >>= _) _ _ _
  refine wpAny_bind (wpAny_field hz rfl (x := .bool false) rfl ?_)
  show wpAny _ _ (field (.ref z) 3 >>= _) _ _ _
  refine wpAny_bind (wpAny_field hz rfl (x := .ref TI) rfl ?_)
  refine wpAny_bind (wpAny_seqItems hTI rfl ?_)
  show wpAny _ _ (Builtin.SmallTypes.ownedTupleIsFree (.ref z) >>= _) _ _ _
  refine wpAny_bind (wpAny_tupleHeld_zip hz hT fun h₁ hz₁ hs₁ => ?_)
  simp only [Bool.false_eq_true, if_false]
  refine wpAny_bind ?_
  rw [← Array.forIn_toList]
  simp only [List.forIn_cons, List.forIn_nil]
  refine wpAny_bind (wpAny_bind (wpAny_holding ?_))
  show wpAny _ _ (Builtin.SmallTypes.nextOf (.ref i1) >>= _) _ _ _
  cases hx : xs[k1]? with
  | none =>
    refine wpAny_bind (RZ.nextOf_tuple_end (s := { s with heap := h₁ }) hh (h1.extBut hs₁.extBut D.i1z) (hl1.extBut hs₁.extBut D.l1z) hx fun h₂ e hs₂ he => ?_)
    exact hE h₂ e (fun c o c1 c2 _ x => hs₂ _ _ c2 (hs₁.extBut _ _ c1 x)) he
  | some x =>
    have hy : ys[k2]? = none := by rcases hend with h | h; rw [hx] at h; cases h; exact h
    refine wpAny_bind (RZ.nextOf_tuple_item (s := { s with heap := h₁ }) (h1.extBut hs₁.extBut D.i1z) (hl1.extBut hs₁.extBut D.l1z) hx fun h₂ h1₂ hs₂ => wpAny_pure ?_)
    refine wpAny_pure ?_
    refine wpAny_bind (wpAny_bind (wpAny_holding ?_))
    show wpAny _ _ (Builtin.SmallTypes.nextOf (.ref i2) >>= _) _ _ _
    refine wpAny_bind (RZ.nextOf_tuple_end (s := { s with heap := h₂ }) hh ((h2.extBut hs₁.extBut D.i2z).extBut hs₂.extBut D.i12.symm) ((hl2.extBut hs₁.extBut D.l2z).extBut hs₂.extBut D.l2i1) hy fun h₃ e hs₃ he => ?_)
    exact hE h₃ e (fun c o c1 c2 c3 x => hs₃ _ _ c3 (hs₂.extBut _ _ c2 (hs₁.extBut _ _ c1 x))) he

theorem pyNext_zipT_item_held {z TI TO T i1 i2 l1 l2 : Addr} {f : Bool} {oT : Obj} {k1 k2 : Nat} {xs ys : Array Value} {x y : Value} {Q : Option Value → Shared → Prop} (D : ZipApart z TI TO i1 i2 l1 l2)
    (hz : IsZipHeld s.heap z TI TO T f) (hT : s.heap.get? T = some oT) (hTI : IsPair s.heap TI (.ref i1) (.ref i2))
    (h1 : s.heap.IsTupleIter i1 l1 k1) (h2 : s.heap.IsTupleIter i2 l2 k2) (hl1 : s.heap.IsTuple l1 xs) (hl2 : s.heap.IsTuple l2 ys) (hx : xs[k1]? = some x) (hy : ys[k2]? = some y)
    (hQ : ∀ h', IsZipHeld h' z TI TO T true → h'.IsTupleIter i1 l1 (k1 + 1) → h'.IsTupleIter i2 l2 (k2 + 1) → IsPair h' s.heap.objs.size x y → h'.objs.size = s.heap.objs.size + 1 →
      (∀ c o, c ≠ z → c ≠ i1 → c ≠ i2 → s.heap.get? c = some o → h'.get? c = some o) → Q (some (.ref s.heap.objs.size)) { s with heap := h' }) :
    wpAny (model prog w) A (pyNext (.ref z)) Q E s := by
  have hTy : s.TypeIs (.ref z) "zip" := ⟨_, hz, rfl⟩
  unfold pyNext
  exact wpAny_bind (wpAny_attempt (wpAny_callSpecial?_slot (name := Str.ofString "__next__") hTy F.slot_zip_next
    (wpAny_call_entry F.slot_zip_next hTy F.entry_zip_next
      (zipT_item_held D hz hT hTI h1 h2 hl1 hl2 hx hy fun h' a1 a3 a4 a5 a6 a7 => wpAny_pure (hQ h' a1 a3 a4 a5 a6 a7)) (F.args_zip_next_1 _))))
theorem pyNext_zipT_end_held {z TI TO T i1 i2 l1 l2 : Addr} {f : Bool} {oT : Obj} {k1 k2 : Nat} {xs ys : Array Value} {Q : Option Value → Shared → Prop} (hh : A.handled = none) (D : ZipApart z TI TO i1 i2 l1 l2)
    (hz : IsZipHeld s.heap z TI TO T f) (hT : s.heap.get? T = some oT) (hTI : IsPair s.heap TI (.ref i1) (.ref i2))
    (h1 : s.heap.IsTupleIter i1 l1 k1) (h2 : s.heap.IsTupleIter i2 l2 k2) (hl1 : s.heap.IsTuple l1 xs) (hl2 : s.heap.IsTuple l2 ys) (hend : xs[k1]? = none ∨ ys[k2]? = none)
    (hQ : ∀ h', (∀ c o, c ≠ z → c ≠ i1 → c ≠ i2 → s.heap.get? c = some o → h'.get? c = some o) → Q none { s with heap := h' }) : wpAny (model prog w) A (pyNext (.ref z)) Q E s := by
  have hTy : s.TypeIs (.ref z) "zip" := ⟨_, hz, rfl⟩
  unfold pyNext
  refine wpAny_bind (wpAny_attempt (wpAny_callSpecial?_slot (name := Str.ofString "__next__") hTy F.slot_zip_next
    (wpAny_call_entry F.slot_zip_next hTy F.entry_zip_next (zipT_end_held hh D hz hT hTI h1 h2 hl1 hl2 hend fun h' e hk he => ?_) (F.args_zip_next_1 _))))
  obtain ⟨o, ho, hc⟩ := he
  refine wpAny_bind (wpAny_isInstance (T := "StopIteration") (b := true) ⟨o, ho, hc⟩ isSubtype_stop ?_)
  exact wpAny_pure (hQ _ hk)

end
section
variable {prog : Program} {w : World}
theorem pairArg_zipT (z TI TO i1 i2 l1 l2 : Addr) (D : ZipApart z TI TO i1 i2 l1 l2) (xs ys : Array Value) :
    PairArg prog w "zip" z [z, TI, TO, i1, i2, l1, l2] [z, TO, i1, i2] (min xs.size ys.size) (fun i k v => xs[i]? = some k ∧ ys[i]? = some v)
      (fun h => IsZip h z TI TO .none ∧ IsPair h TI (.ref i1) (.ref i2) ∧ (∃ a b, IsPair h TO a b) ∧ h.IsTupleIter i1 l1 0 ∧ h.IsTupleIter i2 l2 0 ∧ h.IsTuple l1 xs ∧ h.IsTuple l2 ys) where
  type := fun s ok => ⟨_, ok.1, rfl⟩
  notDict := by decide
  keep := fun h h' ok hk => by
    obtain ⟨hz, hTI, ⟨a, b, hTO⟩, h1, h2, hl1, hl2⟩ := ok
    exact ⟨hk _ _ hz, hk _ _ hTI, ⟨a, b, hk _ _ hTO⟩, h1.at fun o e => hk _ o e, h2.at fun o e => hk _ o e, hl1.at fun o e => hk _ o e, hl2.at fun o e => hk _ o e⟩
  there := fun h ok b hb => by
    obtain ⟨hz, hTI, ⟨a, c, hTO⟩, ⟨o1, h1, _⟩, ⟨o2, h2, _⟩, ⟨o3, hl1, _⟩, ⟨o4, hl2, _⟩⟩ := ok
    simp only [List.mem_cons, List.not_mem_nil, or_false] at hb
    rcases hb with rfl | rfl | rfl | rfl | rfl | rfl | rfl
    all_goals first | exact ⟨_, hz⟩ | exact ⟨_, hTI⟩ | exact ⟨_, hTO⟩ | exact ⟨_, h1⟩ | exact ⟨_, h2⟩ | exact ⟨_, hl1⟩ | exact ⟨_, hl2⟩
  sub := fun b hb => by simp at hb ⊢; rcases hb with rfl | rfl | rfl | rfl <;> simp
  noKeys := fun A s Q E hA ok h => getAttrOr_miss_zip ok.1 rfl rfl rfl zip_no_keys (by decide +kernel) hA h
  iter := fun A s d Q E hA ok hd hdf h => by
    obtain ⟨hz, hTI, ⟨a, b, hTO⟩, h1, h2, hl1, hl2⟩ := ok
    simp only [List.mem_cons, List.not_mem_nil, or_false, not_or] at hdf
    obtain ⟨dz, dTI, dTO, di1, di2, dl1, dl2⟩ := hdf
    refine wpAny_pyIter_zip hz (h z [z, TO, i1, i2] (fun i h => IsPair h TI (.ref i1) (.ref i2) ∧ h.IsTupleIter i1 l1 i ∧ h.IsTupleIter i2 l2 i ∧ h.IsTuple l1 xs ∧ h.IsTuple l2 ys ∧
      ((IsZip h z TI TO .none ∧ ∃ a b, IsPair h TO a b) ∨ ∃ T f oT, IsZipHeld h z TI TO T f ∧ h.get? T = some oT ∧ T ≠ z ∧ T ≠ i1 ∧ T ≠ i2 ∧ T ≠ d)) s.heap s.toks ?_
      ⟨hTI, h1, h2, hl1, hl2, .inl ⟨hz, a, b, hTO⟩⟩ (fun _ _ e => e) fun b hb => .inl hb)
    exact {
      off := fun hm => by
        simp only [List.mem_cons, List.not_mem_nil, or_false] at hm
        rcases hm with e | e | e | e
        · exact dz e
        · exact dTO e
        · exact di1 e
        · exact di2 e
      frame := fun i h₁ h₂ st hk => by
        obtain ⟨hTI, h1, h2, hl1, hl2, hz⟩ := st
        refine ⟨hk _ _ (Ne.symm dTI) hTI, h1.at fun o e => hk _ o (Ne.symm di1) e, h2.at fun o e => hk _ o (Ne.symm di2) e, hl1.at fun o e => hk _ o (Ne.symm dl1) e, hl2.at fun o e => hk _ o (Ne.symm dl2) e, ?_⟩
        rcases hz with ⟨hz, a, b, hTO⟩ | ⟨T, f, oT, hz, hT, r1, r2, r3, r4⟩
        · exact .inl ⟨hk _ _ (Ne.symm dz) hz, a, b, hk _ _ (Ne.symm dTO) hTO⟩
        · exact .inr ⟨T, f, oT, hk _ _ (Ne.symm dz) hz, hk _ _ r4 hT, r1, r2, r3, r4⟩
      item := fun i s₁ Q₁ E₁ hi st hds hQ => by
        obtain ⟨hTI, h1, h2, hl1, hl2, hz⟩ := st
        have hix : i < xs.size := Nat.lt_of_lt_of_le hi (Nat.min_le_left ..)
        have hiy : i < ys.size := Nat.lt_of_lt_of_le hi (Nat.min_le_right ..)
        have ex := Array.getElem?_eq_getElem hix
        have ey := Array.getElem?_eq_getElem hiy
        have lt : ∀ {c o}, s₁.heap.get? c = some o → s₁.heap.objs.size ≠ c := fun e => Nat.ne_of_gt (Heap.lt_size e)
        have n1 : s₁.heap.objs.size ≠ i1 := let ⟨_, e, _⟩ := h1; lt e
        have n2 : s₁.heap.objs.size ≠ i2 := let ⟨_, e, _⟩ := h2; lt e
        rcases hz with ⟨hz, a, b, hTO⟩ | ⟨T, f, oT, hz, hT, r1, r2, r3, r4⟩
        · refine RZ.pyNext_zipT_item D hz hTI hTO h1 h2 hl1 hl2 ex ey fun h' a1 a2 a3 a4 a5 a6 hk => ?_
          exact hQ s₁.heap.objs.size _ _ h' s₁.toks ⟨ex, ey⟩ (.inl ⟨_, a5, rfl, _, rfl⟩)
            ⟨hk _ _ D.TIz D.TITO D.TIi1 D.TIi2 hTI, a3, a4, hl1.at fun o e => hk _ o D.l1z D.l1TO D.l1i1 D.l1i2 e, hl2.at fun o e => hk _ o D.l2z D.l2TO D.l2i1 D.l2i2 e,
              .inr ⟨s₁.heap.objs.size, false, _, a1, a5, lt hz, n1, n2, Nat.ne_of_gt hds⟩⟩
            fun c o hc e => hk c o (fun x => hc (by simp [x])) (fun x => hc (by simp [x])) (fun x => hc (by simp [x])) (fun x => hc (by simp [x])) e
        · refine pyNext_zipT_item_held D hz hT hTI h1 h2 hl1 hl2 ex ey fun h' a1 a3 a4 a5 a6 hk => ?_
          exact hQ s₁.heap.objs.size _ _ h' s₁.toks ⟨ex, ey⟩ (.inl ⟨_, a5, rfl, _, rfl⟩)
            ⟨hk _ _ D.TIz D.TIi1 D.TIi2 hTI, a3, a4, hl1.at fun o e => hk _ o D.l1z D.l1i1 D.l1i2 e, hl2.at fun o e => hk _ o D.l2z D.l2i1 D.l2i2 e,
              .inr ⟨T, true, oT, a1, hk _ _ r1 r2 r3 hT, r1, r2, r3, r4⟩⟩
            fun c o hc e => hk c o (fun x => hc (by simp [x])) (fun x => hc (by simp [x])) (fun x => hc (by simp [x])) e
      done := fun s₁ Q₁ E₁ st hQ => by
        obtain ⟨hTI, h1, h2, hl1, hl2, hz⟩ := st
        have hend : xs[min xs.size ys.size]? = none ∨ ys[min xs.size ys.size]? = none := by
          rcases Nat.le_total xs.size ys.size with h | h
          · exact .inl (Array.getElem?_eq_none (by rw [Nat.min_eq_left h]; exact Nat.le_refl _))
          · exact .inr (Array.getElem?_eq_none (by rw [Nat.min_eq_right h]; exact Nat.le_refl _))
        rcases hz with ⟨hz, a, b, hTO⟩ | ⟨T, f, oT, hz, hT, r1, r2, r3, r4⟩
        · exact RZ.pyNext_zipT_end hA D hz hTI hTO h1 h2 hl1 hl2 hend fun h' hk => hQ h' s₁.toks fun c o hc e => hk c o (fun x => hc (by simp [x])) (fun x => hc (by simp [x])) (fun x => hc (by simp [x])) (fun x => hc (by simp [x])) e
        · exact pyNext_zipT_end_held hA D hz hT hTI h1 h2 hl1 hl2 hend fun h' hk => hQ h' s₁.toks fun c o hc e => hk c o (fun x => hc (by simp [x])) (fun x => hc (by simp [x])) (fun x => hc (by simp [x])) e }


end
end PySem
namespace L2.DL
open PySem PySem.Spec PyProof.Rows
section
variable {X : Cx}
def wDictZipT (wa wb : WE) : WE := fun sd S Q => wa sd S fun x S1 => wb sd S1 fun y S2 => ∃ (ks : List Str) (ds : List D), asTup x = some (ks.map D.str) ∧ asTup y = some ds ∧ ks.length = ds.length ∧ ks.length ≤ 1000 ∧ Q (.dic false (dputsL [] ((ks.map D.str).zip ds))) S2
theorem xDictZipT {wa wb : WE} {sd : SD} {S : SO} {Q : KD} (h : wa sd S fun x S1 => wb sd S1 fun y S2 => ∃ (ks : List Str) (ds : List D), asTup x = some (ks.map D.str) ∧ asTup y = some ds ∧ ks.length = ds.length ∧ ks.length ≤ 1000 ∧ Q (.dic false (dputsL [] ((ks.map D.str).zip ds))) S2) : wDictZipT wa wb sd S Q := h
theorem tupd_at {K : PySem.W.Frag} {S : SO} {H : Hp} {d : D} {v : V} {xs : List D} (r : Rel K S H d v) (e : asTup d = some xs) : ∃ a vs, v = .ref a ∧ SqT K H a vs ∧ Rels K S H xs vs := asTup_at r e
def tDictZipT (K : PySem.W.Frag) (ta tb : TE) : TE := fun σ H Q => ta σ H fun v H1 => tb σ H1 fun u H2 => ∃ (a b : Addr) (ks : List Str) (vs : List V), v = .ref a ∧ u = .ref b ∧ SqT K H2 a (ks.map V.str) ∧ SqT K H2 b vs ∧ ks.length = vs.length ∧ ks.length ≤ 1000 ∧ ∀ p, H2 p = none → Q (.ref p) (upd H2 p (.dK (mergeK [] ((ks.map fun k => (.inr k : Key)).zip vs))))
theorem pe_dictzipT {e1 e2 : Expr} {ta tb : TE} {p p2 pos pos2 : Pos} (hc : X.calm = true) (hg : Gl X "dict") (hm : X.mg "dict" = none) (hv : bootBuiltins "dict" = some (.type "dict")) (hg2 : Gl X "zip") (hm2 : X.mg "zip" = none) (hv2 : bootBuiltins "zip" = some (.type "zip")) (ha : PE X e1 ta) (hb : PE X e2 tb)
    (s1 : starEach [e1, e2] X.env = (false, eval e1 X.env) :: starEach [e2] X.env := by rfl) (s2 : starEach [e2] X.env = (false, eval e2 X.env) :: starEach [] X.env := by rfl) (pl : (backTo pos2 (starEach [e2] X.env)).any (·.1) = false := by rfl)
    (s3 : starEach [.Call (.Name "zip" p2) [e1, e2] [] pos2] X.env = (false, eval (.Call (.Name "zip" p2) [e1, e2] [] pos2) X.env) :: starEach [] X.env := by rfl) : PE X (.Call (.Name "dict" p) [.Call (.Name "zip" p2) [e1, e2] [] pos2] [] pos) (tDictZipT X.K ta tb) := by
  refine ⟨fun pins s σ H Q I h => ?_⟩
  refine Call_ (ld_blt I hg hm hv (PyProof.Rows.callWith_type1 (PyProof.Rows.args_cons ?_ s3) s3 rfl))
  refine Call_ (ld_blt I hg2 hm2 hv2 (PyProof.Rows.callWith_type1 (PyProof.Rows.args_cons (thn (ha.run pins s σ H _ I h) fun v s4 ⟨x, H1, I1, r1, q1⟩ => PyProof.Rows.args_cons (thn (hb.run pins s4 σ H1 _ I1 q1) fun u s5 ⟨y, H2, I2, r2, q2⟩ => PyProof.Rows.args_nil ?_) s2) s1) s1 pl))
  obtain ⟨a, b, ks, vs, rfl, rfl, qa, qb, hl, hk, q⟩ := q2
  cases r1
  cases r2
  obtain ⟨it1, rr1, pl1, z1⟩ := I2.tuple qa
  obtain ⟨it2, rr2, pl2, z2⟩ := I2.tuple qb
  have l1 := rr1.length
  have l2 := rr2.length
  rw [List.length_map] at l1
  have big : ∀ {c : Addr} {xs : Array Value}, s5.heap.IsTuple c xs → c < s5.heap.objs.size := fun ⟨o, ho, _⟩ => Heap.lt_size ho
  have ba := big pl1
  have bb := big pl2
  refine RZ.call_zipT pl1 pl2 fun h' g1 g2 g3 g4 g5 g6 kp => PyProof.Rows.args_nil ?_
  have ap := zipApart_new ba bb
  have le : s5.heap.objs.size ≤ h'.objs.size := by rw [g6]; exact Nat.le_add_right _ _
  have rel := kv_zip (ks := ks) rr2
  have zl : ((ks.map fun k => (.inr k : Key)).zip it2).length = ks.length := by
    rw [List.length_zip, List.length_map]
    omega
  refine PySem.call_dict_pairs (s := { s5 with heap := h' }) (knd := mixKind X.prog X.w) (kvs := (ks.map fun k => (.inr k : Key)).zip it2) (PySem.pairArg_zipT _ _ _ _ _ a b ap it1.toArray it2.toArray) (I2.ok.hd hc) ⟨g1, g2, ⟨_, _, g3⟩, g4, g5, (show s5.heap.IsTuple a it1.toArray from pl1).at fun o e => kp _ o e, (show s5.heap.IsTuple b it2.toArray from pl2).at fun o e => kp _ o e⟩ ⟨?_, fun i key v ⟨e1, e2⟩ => ?_⟩ ?_ fun h2 tk hd hk => ?_
  · rw [zl, List.size_toArray, List.size_toArray]
    omega
  · obtain ⟨k, hk1, hk2⟩ := strs_mix rr1 (i := i) (v := key) (by simpa using e1)
    refine ⟨.inr k, ?_, hk2⟩
    rw [List.getElem?_zip_eq_some, List.getElem?_map, hk1]
    exact ⟨rfl, by simpa using e2⟩
  · rw [List.size_toArray, List.size_toArray, sizeLine_eq]
    omega
  · have keep : ∀ c u, s5.heap.get? c = some u → h2.get? c = some u := fun c u e => hk c u (fun z => by
      have lt := Heap.lt_size e
      have ge : ∀ m, c = s5.heap.objs.size + m → False := fun m e => absurd lt (by rw [e]; exact Nat.not_lt.mpr (Nat.le_add_right _ _))
      simp only [List.mem_cons, List.not_mem_nil, or_false] at z
      rcases z with z | z | z | z
      · exact ge 4 z
      · exact ge 3 z
      · exact ge 0 z
      · exact ge 1 z) (kp c u e)
    have hm : (h'.objs.size == sysModules) = false := beq_eq_false_iff_ne.mpr (Nat.ne_of_gt (Nat.lt_of_lt_of_le I2.big le))
    have hlen : (mergeK [] ((ks.map fun k => (.inr k : Key)).zip vs)).length ≤ sizeLine := by
      refine Nat.le_trans (length_mergeK _ []) ?_
      rw [List.length_nil, Nat.zero_add, List.length_zip, List.length_map, sizeLine_eq]
      omega
    exact ⟨.ref h'.objs.size, upd H2 h'.objs.size (.dK (mergeK [] ((ks.map fun k => (.inr k : Key)).zip vs))), I2.laid (t' := tk) keep le (show ObjOk X.prog X.w _ _ _ (.dK (mergeK [] ((ks.map fun k => (.inr k : Key)).zip vs))) from ⟨hlen, hm, merged [] _, KV.merge rel .nil, hd⟩), rfl, q _ (I2.hok.fresh le)⟩
theorem de_dictzipT {e1 e2 : Expr} {wa wb : WE} {p p2 pos pos2 : Pos} (hc : X.calm = true) (hg : Gl X "dict") (hm : X.mg "dict" = none) (hv : bootBuiltins "dict" = some (.type "dict")) (hg2 : Gl X "zip") (hm2 : X.mg "zip" = none) (hv2 : bootBuiltins "zip" = some (.type "zip")) (ha : DE X e1 wa) (hb : DE X e2 wb)
    (s1 : starEach [e1, e2] X.env = (false, eval e1 X.env) :: starEach [e2] X.env := by rfl) (s2 : starEach [e2] X.env = (false, eval e2 X.env) :: starEach [] X.env := by rfl) (pl : (backTo pos2 (starEach [e2] X.env)).any (·.1) = false := by rfl)
    (s3 : starEach [.Call (.Name "zip" p2) [e1, e2] [] pos2] X.env = (false, eval (.Call (.Name "zip" p2) [e1, e2] [] pos2) X.env) :: starEach [] X.env := by rfl) : DE X (.Call (.Name "dict" p) [.Call (.Name "zip" p2) [e1, e2] [] pos2] [] pos) (wDictZipT wa wb) := by
  refine pe_imp (pe_dictzipT hc hg hm hv hg2 hm2 hv2 ha hb s1 s2 pl s3) fun σ H Q h => ?_
  obtain ⟨sd, S, Q0, st, q, an⟩ := h
  refine ⟨sd, S, _, st, q, fun x S1 v H1 q1 n1 t1 r1 => ⟨sd, S1, _, st.nx n1 t1, q1, fun y S2 u H2 q2 n2 t2 r2 => ?_⟩⟩
  obtain ⟨ks, ds, ex, ey, hl, hk, q2⟩ := q2
  obtain ⟨a, xs, rfl, hq, rv⟩ := tupd_at (Rel.nx n2 _ _ r1) ex
  obtain ⟨b, ys, rfl, hq2, ru⟩ := tupd_at r2 ey
  have ev := rels_strs rv
  subst ev
  refine ⟨a, b, ks, ys, rfl, rfl, hq, hq2, by rw [hl, ru.length], hk, fun p hp => ?_⟩
  exact an.nx (n1.trans n2) _ _ _ _ q2 (nx_new hp) (t2.new hp) ⟨p, rfl, t2.free hp, .inl ⟨_, rfl, upd_same, RelK.nx (nx_new hp) _ _ (relk_zip ru rfl)⟩⟩
end
end L2.DL

/-! DL52: slices of a tuple of any kind, the whole one told too; + of tuples, one of them empty too -/
namespace L2.DL
open PySem PySem.Spec PyProof.Rows
section
variable {X : Cx}
def WholeS (n : Nat) (lo hi : Option Int) : Prop := HT.sIx n 0 lo = 0 ∧ HT.sIx n n hi = n
def sliT (d : D) (S : SO) (lo hi : Option Int) (Q : KD) : Prop := ∃ xs, asTup d = some xs ∧ (WholeS xs.length lo hi → Q d S) ∧ (¬ WholeS xs.length lo hi → Q (.tup (cutD xs lo hi)) S)
theorem sl_T : SlR X (fun x lo hi H Q => ∃ d S Q0, SRel X.K S H ∧ Rel X.K S H d x ∧ sliT d S lo hi Q0 ∧ Ans X.K S H Q0 Q) := by
  intro pins s σ H x v vl vu lo hi sl Q I rx hs pl pu ⟨d, S, Q0, sr, r, ⟨xs, e, q1, q2⟩, an⟩
  obtain ⟨a, vs, e1, t, rv⟩ := asTup_at r e
  refine sl_tupA pins s σ H x v vl vu lo hi sl Q I rx hs pl pu ⟨a, vs, e1, t, fun hw => ?_, fun hw p hp => ?_⟩
  · have q := q1 (by unfold WholeS; rw [rv.length]; exact hw)
    rw [← e1]
    exact ansd d sr an q r
  · have q := q2 (by unfold WholeS; rw [rv.length]; exact hw)
    exact an _ _ _ _ q (nx_new hp) (sr.new hp) ⟨p, _, rfl, ⟨sr.free hp, upd_same⟩, (rv.cut lo hi).nx (nx_new hp)⟩
def oAddE : WO := fun x y S Q => ∃ a b, asTup x = some a ∧ asTup y = some b ∧ a.length + b.length ≤ 1000000 ∧ (a = [] → Q y S) ∧ (b = [] → Q x S) ∧ (a ≠ [] → b ≠ [] → Q (.tup (a ++ b)) S)
theorem do_addE : DO2 X (binaryOp .Add) oAddE := by
  intro pins s σ H x y v u Q I rx ry ⟨dx, dy, S, Q0, sr, r1, r2, ⟨a, b, h1, h2, hl, qa, qb, q⟩, an⟩
  obtain ⟨p1, vs, e1, t1, rv⟩ := asTup_at r1 h1
  obtain ⟨p2, us, e2, t2, ru⟩ := asTup_at r2 h2
  have rvu := rv.app ru
  have l1 := rv.length
  have l2 := ru.length
  refine op_catA pins s σ H x y v u Q I rx ry ⟨p1, p2, vs, us, e1, e2, t1, t2, by rw [← l1, ← l2]; exact le_line hl, fun e => ?_, fun _ e => ?_, fun n1 n2 p hp => ?_⟩
  · subst e
    rw [← e2]
    exact ansd dy sr an (qa (List.length_eq_zero_iff.mp l1)) r2
  · subst e
    rw [← e1]
    exact ansd dx sr an (qb (List.length_eq_zero_iff.mp l2)) r1
  · have na : a ≠ [] := fun e => n1 (by rw [e] at l1; exact List.length_eq_zero_iff.mp l1.symm)
    have nb : b ≠ [] := fun e => n2 (by rw [e] at l2; exact List.length_eq_zero_iff.mp l2.symm)
    exact an _ _ _ _ (q na nb) (nx_new hp) (sr.new hp) ⟨p, _, rfl, ⟨sr.free hp, upd_same⟩, rvu.nx (nx_new hp)⟩
end
end L2.DL

/-! DL53: t[i:j] as a tuple known to have no dict; text.split(sep); C(..) through a parameter; C.m(..), m a classmethod -/
namespace L2.DL
open PySem PySem.Spec PyProof.Rows
section
variable {X : Cx}
/-! ### slices as .tf -/
theorem sl_F : SlR X (fun x lo hi H Q => ∃ d S Q0, SRel X.K S H ∧ Rel X.K S H d x ∧ (∃ xs, asTup d = some xs ∧ ¬ WholeS xs.length lo hi ∧ Q0 (.tf (cutD xs lo hi)) S) ∧ Ans X.K S H Q0 Q) := by
  intro pins s σ H x v vl vu lo hi sl Q I rx hs pl pu ⟨d, S, Q0, sr, r, ⟨xs, e, hw, q⟩, an⟩
  obtain ⟨a, vs, e1, t, rv⟩ := asTup_at r e
  subst e1
  cases rx
  obtain ⟨its, r, ht, hz⟩ := I.tuple t
  have hlen : its.toArray.size = vs.length := by rw [List.size_toArray]; exact r.length.symm
  have hf := I.hok.fresh (Nat.le_refl _)
  refine ⟨"tuple", _, PyProof.Rows.slot_tuple_getitem.lookup, ht.typeIs, ?_⟩
  refine HT.getItem_tuple_cut ht hs pl pu (by rw [hlen, ← rv.length]; exact hw) ?_ (by rw [hlen]; exact hz)
  rw [hlen]
  refine ⟨.ref s.heap.objs.size, _, I.laid (t' := s.toks) (o := .frz { cls := .type "tuple", data := .seq ((its.toArray.toList.drop (HT.sIx vs.length 0 lo)).take (HT.sIx vs.length vs.length hi - HT.sIx vs.length 0 lo)).toArray } (.tup (cutV vs lo hi))) (fun b ob q => Heap.get?_push_of_some _ q) (Nat.le_refl _) ?_, rfl, an _ _ _ _ q (nx_new hf) (sr.new hf) ⟨_, cutV vs lo hi, rfl, ⟨sr.free hf, _, upd_same, rfl, rfl⟩, (rv.cut lo hi).nx (nx_new hf)⟩⟩
  exact ⟨Heap.get?_push_size _ rfl, Nat.le_trans (cutV_length vs lo hi) hz, _, (r.drop (HT.sIx vs.length 0 lo)).take (HT.sIx vs.length vs.length hi - HT.sIx vs.length 0 lo), IsTup.new _ _⟩
/-! ### text.split(sep) -/
end
/-! ### C(..), C told by a parameter -/
section
variable {X : Cx} {CX : CXT} {k : Nat} {f C : Addr} {fd : FuncData} {ps : List Str} {sp : Sp} {dvs : List V} {ds : List Value} {E : XK} {x m : Str} {p pos apos : Pos} {e o : Expr} {es : List Expr} {ta : TE} {t : TA}
/-! ### C.m(..), m a classmethod -/
variable {dsp : DSp} {dds : List D} {wt : WA} {wo wc : WE}
end
end L2.DL

/-! DL54: + of tuples, the sum known to have no dict, one of them empty too -/
namespace L2.DL
open PySem PySem.Spec PyProof.Rows
section
variable {X : Cx}
def oAddG : WO := fun x y S Q => ∃ a b, asTup x = some a ∧ asTup y = some b ∧ a.length + b.length ≤ 1000000 ∧ (a = [] → Q y S) ∧ (b = [] → Q x S) ∧ (a ≠ [] → b ≠ [] → Q (.tf (a ++ b)) S)
theorem do_addG : DO2 X (binaryOp .Add) oAddG := by
  intro pins s σ H x y v u Q I rx ry ⟨dx, dy, S, Q0, sr, r1, r2, ⟨a, b, h1, h2, hl, qa, qb, q⟩, an⟩
  by_cases na : a = []
  · exact do_addE pins s σ H x y v u Q I rx ry ⟨dx, dy, S, Q0, sr, r1, r2, ⟨a, b, h1, h2, hl, qa, qb, fun z => absurd na z⟩, an⟩
  · by_cases nb : b = []
    · exact do_addE pins s σ H x y v u Q I rx ry ⟨dx, dy, S, Q0, sr, r1, r2, ⟨a, b, h1, h2, hl, qa, qb, fun _ z => absurd nb z⟩, an⟩
    · exact do_addF pins s σ H x y v u Q I rx ry ⟨dx, dy, S, Q0, sr, r1, r2, ⟨a, b, h1, h2, na, nb, hl, q na nb⟩, an⟩
end
end L2.DL

/-! DL55: C.m(k = v), m a classmethod; != of two lists whose items are equal by an own == -/
namespace L2.DL
open PySem PySem.Spec PyProof.Rows
section
variable {X : Cx} {CX : CXT} {k : Nat} {f C : Addr} {fd : FuncData} {ps ks : List Str} {sp : Sp} {dvs : List V} {ds : List Value} {E : XK} {x m : Str} {p pos apos : Pos} {e o : Expr} {es : List Expr} {kws : List Keyword} {ta : TE} {t tk : TA} {g : List Value → List Value → List Value} {gV : List V → List V → List V}
variable {dsp : DSp} {wk : WA} {wo : WE} {gD : List D → List D → List D}
end
end L2.DL

/-! DL56: != of two lists whose items are equal by an own == -/
namespace GQN
open PySem PySem.SeqAt GQ
open AutoSeq1 (wpAny_loadPart')
open MeetsSeq MeetsSeq2 MeetsSeq3 SeqRoads2
section
variable {prog : Program} {w : World} {A : Around} {R : Result → Shared → Prop}
end
section
variable {prog : Program} {w : World} {A : Around} {E : Value → Shared → Prop} {s : Shared}
end
end GQN
namespace L2.DL
open PySem PySem.Spec PyProof.Rows
section
variable {X : Cx} {k : Nat} {g C : Addr} {fd : FuncData} {ps : List Str} {dsp : DSp}
end
end L2.DL

namespace L2.DL
open PySem PySem.Spec PyProof.Rows
end L2.DL
--HEADFIRST
/-! VF0: in how many orders each place is tied to the next: its parity (k20; Berge, Redei) -/
namespace L2.DL
namespace Rd
variable {α : Type} [DecidableEq α]
/-- each is tied to the next -/
def stepsB (e : α → α → Bool) : List α → Bool
  | a :: b :: r => e a b && stepsB e (b :: r)
  | _ => true
def ins (x : α) : List α → List (List α)
  | [] => [[x]]
  | y :: l => (x :: y :: l) :: (ins x l).map (y :: ·)
def prm : List α → List (List α)
  | [] => [[]]
  | x :: l => (prm l).flatMap (ins x)
theorem ins_mem {x : α} : ∀ {l r : List α}, r ∈ ins x l ↔ ∃ u v, l = u ++ v ∧ r = u ++ x :: v
  | [], r => by
    constructor
    · intro h
      have h : r = [x] := List.mem_singleton.mp h
      exact ⟨[], [], rfl, h⟩
    · rintro ⟨u, v, h1, h2⟩
      obtain ⟨rfl, rfl⟩ := List.append_eq_nil_iff.mp h1.symm
      exact List.mem_singleton.mpr h2
  | y :: l, r => by
    constructor
    · intro h
      rcases List.mem_cons.mp h with h | h
      · exact ⟨[], y :: l, rfl, h⟩
      · obtain ⟨s, hs, rfl⟩ := List.mem_map.mp h
        obtain ⟨u, v, h1, h2⟩ := ins_mem.mp hs
        exact ⟨y :: u, v, by rw [h1]; rfl, by rw [h2]; rfl⟩
    · rintro ⟨u, v, h1, h2⟩
      cases u with
      | nil =>
        have h1 : y :: l = v := h1
        subst h1
        rw [h2]
        exact List.mem_cons_self
      | cons a u =>
        have h1 : y :: l = a :: (u ++ v) := h1
        cases h1
        exact List.mem_cons_of_mem _ (List.mem_map.mpr ⟨u ++ x :: v, ins_mem.mpr ⟨u, v, rfl, rfl⟩, h2.symm⟩)
theorem prm_mem : ∀ {l r : List α}, r ∈ prm l ↔ r.Perm l
  | [], r => ⟨fun h => by rw [List.mem_singleton.mp h], fun h => by rw [h.eq_nil]; exact List.mem_singleton.mpr rfl⟩
  | x :: l, r => by
    constructor
    · intro h
      obtain ⟨s, hs, hr⟩ := List.mem_flatMap.mp h
      obtain ⟨u, v, rfl, rfl⟩ := ins_mem.mp hr
      exact List.perm_middle.trans ((prm_mem.mp hs).cons x)
    · intro h
      obtain ⟨u, v, rfl⟩ := List.append_of_mem (h.mem_iff.mpr List.mem_cons_self)
      have h2 : (u ++ v).Perm l := (List.perm_middle.symm.trans h).cons_inv
      exact List.mem_flatMap.mpr ⟨u ++ v, prm_mem.mpr h2, ins_mem.mpr ⟨u, v, rfl, rfl⟩⟩
theorem ins_nodup {x : α} : ∀ {l : List α}, x ∉ l → (ins x l).Nodup
  | [], _ => by simp [ins]
  | y :: l, h => by
    have hy : x ≠ y := fun e => h (by rw [e]; exact List.mem_cons_self)
    have ih := ins_nodup (l := l) fun z => h (List.mem_cons_of_mem _ z)
    refine List.nodup_cons.mpr ⟨fun hm => ?_, ?_⟩
    · obtain ⟨s, _, e⟩ := List.mem_map.mp hm
      have e2 : y = x := (List.cons.inj e).1
      exact hy e2.symm
    · exact List.pairwise_map.mpr (ih.imp fun hne e => hne (List.cons.inj e).2)
/-- taking x out again -/
theorem ins_erase {x : α} {l r : List α} (h : x ∉ l) (hr : r ∈ ins x l) : r.erase x = l := by
  obtain ⟨u, v, rfl, rfl⟩ := ins_mem.mp hr
  rw [List.erase_append_right _ fun z => h (List.mem_append_left _ z), List.erase_cons_head]
theorem nodup_flat {β γ : Type} {f : β → List γ} : ∀ {l : List β}, l.Nodup → (∀ b ∈ l, (f b).Nodup) → (∀ b ∈ l, ∀ c ∈ l, ∀ z, z ∈ f b → z ∈ f c → b = c) → (l.flatMap f).Nodup
  | [], _, _, _ => by simp
  | b :: l, nd, h1, h2 => by
    have ⟨n1, n2⟩ := List.nodup_cons.mp nd
    rw [List.flatMap_cons]
    refine List.nodup_append.mpr ⟨h1 b List.mem_cons_self, nodup_flat n2 (fun c hc => h1 c (List.mem_cons_of_mem _ hc)) fun c hc d hd => h2 c (List.mem_cons_of_mem _ hc) d (List.mem_cons_of_mem _ hd), fun z hz w hw e => ?_⟩
    subst e
    obtain ⟨c, hc, hzc⟩ := List.mem_flatMap.mp hw
    have e := h2 b List.mem_cons_self c (List.mem_cons_of_mem _ hc) z hz hzc
    rw [e] at n1
    exact n1 hc
theorem prm_nodup : ∀ {l : List α}, l.Nodup → (prm l).Nodup
  | [], _ => by simp [prm]
  | x :: l, nd => by
    have ⟨n1, n2⟩ := List.nodup_cons.mp nd
    have out : ∀ s ∈ prm l, x ∉ s := fun s hs z => n1 ((prm_mem.mp hs).mem_iff.mp z)
    exact nodup_flat (prm_nodup n2) (fun s hs => ins_nodup (out s hs)) fun s hs t ht z h1 h2 => (ins_erase (out s hs) h1).symm.trans (ins_erase (out t ht) h2)
/-- in how many orders -/
def Hn (e : α → α → Bool) (ps : List α) : Nat := ((prm ps).filter (stepsB e)).length
theorem perm_len {β : Type} {a b : List β} (na : a.Nodup) (nb : b.Nodup) (h : ∀ x, x ∈ a ↔ x ∈ b) : a.length = b.length := ((List.perm_ext_iff_of_nodup na nb).mpr h).length_eq
/-! ### an involution without fixed points -/
theorem even_inv {β : Type} [DecidableEq β] (f : β → β) : ∀ (n : Nat) (L : List β), L.length ≤ n → L.Nodup → (∀ x ∈ L, f x ∈ L ∧ f (f x) = x ∧ f x ≠ x) → L.length % 2 = 0
  | 0, L, h, _, _ => by
    have : L.length = 0 := by omega
    rw [this]
  | n + 1, [], _, _, _ => rfl
  | n + 1, x :: l, h, nd, hf => by
    have ⟨n1, n2⟩ := List.nodup_cons.mp nd
    obtain ⟨f1, f2, f3⟩ := hf x List.mem_cons_self
    have hfl : f x ∈ l := (List.mem_cons.mp f1).resolve_left f3
    have hl : (l.erase (f x)).length = l.length - 1 := List.length_erase_of_mem hfl
    have hpos : 0 < l.length := List.length_pos_of_mem hfl
    have ih := even_inv f n (l.erase (f x)) (by rw [hl]; simp at h; omega) (n2.erase _) fun y hy => by
      obtain ⟨hy1, hy2⟩ := (List.Nodup.mem_erase_iff n2).mp hy
      obtain ⟨g1, g2, g3⟩ := hf y (List.mem_cons_of_mem _ hy2)
      have a1 : f y ≠ x := fun e => hy1 (by rw [← e, g2])
      have a2 : f y ≠ f x := fun e => by
        have e2 : y = x := by rw [← g2, e, f2]
        rw [e2] at hy2
        exact n1 hy2
      exact ⟨(List.Nodup.mem_erase_iff n2).mpr ⟨a2, (List.mem_cons.mp g1).resolve_left a1⟩, g2, g3⟩
    rw [List.length_cons]
    omega
/-! ### all ways to cut an order into roads -/
def cuts (e : α → α → Bool) : List α → List (List (List α))
  | [] => [[]]
  | [a] => [[[a]]]
  | a :: b :: r => (cuts e (b :: r)).flatMap fun c => match c with
    | [] => []
    | h :: t => if e a b then [[a] :: h :: t, (a :: h) :: t] else [[a] :: h :: t]
def Blk (e : α → α → Bool) (c : List (List α)) : Prop := ∀ b ∈ c, b ≠ [] ∧ stepsB e b = true
theorem cuts_mem {e : α → α → Bool} : ∀ {π : List α} {c : List (List α)}, c ∈ cuts e π ↔ c.flatten = π ∧ Blk e c
  | [], c => by
    constructor
    · intro h
      rw [List.mem_singleton.mp h]
      exact ⟨rfl, fun b hb => by cases hb⟩
    · rintro ⟨h1, h2⟩
      cases c with
      | nil => exact List.mem_singleton.mpr rfl
      | cons b c =>
        rw [List.flatten_cons] at h1
        exact absurd (List.append_eq_nil_iff.mp h1).1 (h2 b List.mem_cons_self).1
  | [a], c => by
    constructor
    · intro h
      rw [List.mem_singleton.mp h]
      refine ⟨rfl, fun b hb => ?_⟩
      rw [List.mem_singleton.mp hb]
      exact ⟨by simp, rfl⟩
    · rintro ⟨h1, h2⟩
      cases c with
      | nil => simp at h1
      | cons b c =>
        obtain ⟨hb, _⟩ := h2 b List.mem_cons_self
        cases b with
        | nil => exact absurd rfl hb
        | cons x b =>
          rw [List.flatten_cons, List.cons_append] at h1
          obtain ⟨e1, h3⟩ := List.cons.inj h1
          subst e1
          obtain ⟨e2, h4⟩ := List.append_eq_nil_iff.mp h3
          subst e2
          cases c with
          | nil => exact List.mem_singleton.mpr rfl
          | cons d c =>
            rw [List.flatten_cons] at h1
            exact absurd (List.append_eq_nil_iff.mp h4).1 (h2 d (by simp)).1
  | a :: b :: r, c => by
    constructor
    · intro h
      obtain ⟨d, hd, hc⟩ := List.mem_flatMap.mp h
      obtain ⟨d1, d2⟩ := cuts_mem.mp hd
      cases d with
      | nil => simp at hc
      | cons h0 t =>
        have hh := d2 h0 List.mem_cons_self
        obtain ⟨x, h1, eh⟩ : ∃ x h1, h0 = x :: h1 := by
          cases h0 with
          | nil => exact absurd rfl hh.1
          | cons x h1 => exact ⟨x, h1, rfl⟩
        subst eh
        have ex : x = b := by
          rw [List.flatten_cons, List.cons_append] at d1
          exact (List.cons.inj d1).1
        subst ex
        have old : ∀ y ∈ (x :: h1) :: t, y ≠ [] ∧ stepsB e y = true := d2
        have first : ([a] :: (x :: h1) :: t).flatten = a :: x :: r ∧ Blk e ([a] :: (x :: h1) :: t) := ⟨by rw [List.flatten_cons, d1]; rfl, fun y hy => by
          rcases List.mem_cons.mp hy with rfl | hy
          · exact ⟨by simp, rfl⟩
          · exact old y hy⟩
        have hc : c ∈ (if e a x then [[a] :: (x :: h1) :: t, (a :: x :: h1) :: t] else [[a] :: (x :: h1) :: t]) := hc
        split at hc
        · rename_i hab
          rcases List.mem_cons.mp hc with rfl | hc
          · exact first
          · rw [List.mem_singleton.mp hc]
            refine ⟨by rw [List.flatten_cons, List.cons_append, ← List.flatten_cons, d1], fun y hy => ?_⟩
            rcases List.mem_cons.mp hy with rfl | hy
            · refine ⟨by simp, ?_⟩
              show (e a x && stepsB e (x :: h1)) = true
              rw [hab, hh.2]
              rfl
            · exact old y (List.mem_cons_of_mem _ hy)
        · rw [List.mem_singleton.mp hc]
          exact first
    · rintro ⟨h1, h2⟩
      cases c with
      | nil => simp at h1
      | cons b0 t =>
        have hb := h2 b0 List.mem_cons_self
        have ht : Blk e t := fun y hy => h2 y (List.mem_cons_of_mem _ hy)
        cases b0 with
        | nil => exact absurd rfl hb.1
        | cons x b1 =>
          rw [List.flatten_cons, List.cons_append] at h1
          obtain ⟨e1, h3⟩ := List.cons.inj h1
          subst e1
          cases b1 with
          | nil =>
            have h1 : t.flatten = b :: r := h3
            cases t with
            | nil => simp at h1
            | cons h0 t =>
              refine List.mem_flatMap.mpr ⟨h0 :: t, cuts_mem.mpr ⟨h1, ht⟩, ?_⟩
              show [x] :: h0 :: t ∈ (if e x b then [[x] :: h0 :: t, (x :: h0) :: t] else [[x] :: h0 :: t])
              split <;> exact List.mem_cons_self
          | cons y b2 =>
            rw [List.cons_append] at h3
            obtain ⟨e2, h4⟩ := List.cons.inj h3
            subst e2
            have hs : (e x y && stepsB e (y :: b2)) = true := hb.2
            obtain ⟨s1, s2⟩ := Bool.and_eq_true_iff.mp hs
            refine List.mem_flatMap.mpr ⟨(y :: b2) :: t, cuts_mem.mpr ⟨by rw [List.flatten_cons, List.cons_append, h4], fun z hz => ?_⟩, ?_⟩
            · rcases List.mem_cons.mp hz with rfl | hz
              · exact ⟨by simp, s2⟩
              · exact ht z hz
            · show (x :: y :: b2) :: t ∈ (if e x y then [[x] :: (y :: b2) :: t, (x :: y :: b2) :: t] else [[x] :: (y :: b2) :: t])
              rw [if_pos s1]
              simp
theorem cuts_nodup {e : α → α → Bool} : ∀ {π : List α}, (cuts e π).Nodup
  | [] => by simp [cuts]
  | [a] => by simp [cuts]
  | a :: b :: r => by
    refine nodup_flat cuts_nodup (fun c hc => ?_) fun c hc d hd z h1 h2 => ?_
    · cases c with
      | nil => simp
      | cons h t =>
        have hh := ((cuts_mem.mp hc).2 h List.mem_cons_self).1
        show (if e a b then [[a] :: h :: t, (a :: h) :: t] else [[a] :: h :: t]).Nodup
        split
        · refine List.nodup_cons.mpr ⟨fun hm => ?_, by simp⟩
          have e1 := List.mem_singleton.mp hm
          have e2 := (List.cons.inj (List.cons.inj e1).1).2
          exact hh e2.symm
        · simp
    · have key : ∀ {c : List (List α)}, c ∈ cuts e (b :: r) → z ∈ (match c with | [] => [] | h :: t => if e a b then [[a] :: h :: t, (a :: h) :: t] else [[a] :: h :: t]) → ∃ h t, c = h :: t ∧ h ≠ [] ∧ (z = [a] :: h :: t ∨ z = (a :: h) :: t) := fun {c} hc hz => by
        cases c with
        | nil => cases hz
        | cons h t =>
          refine ⟨h, t, rfl, ((cuts_mem.mp hc).2 h List.mem_cons_self).1, ?_⟩
          have hz : z ∈ (if e a b then [[a] :: h :: t, (a :: h) :: t] else [[a] :: h :: t]) := hz
          split at hz
          · rcases List.mem_cons.mp hz with h | h
            · exact .inl h
            · exact .inr (List.mem_singleton.mp h)
          · exact .inl (List.mem_singleton.mp hz)
      obtain ⟨h, t, rfl, n1, z1⟩ := key hc h1
      obtain ⟨h', t', rfl, n2, z2⟩ := key hd h2
      rcases z1 with z1 | z1 <;> rcases z2 with z2 | z2
      · rw [z1] at z2
        exact (List.cons.inj z2).2
      · rw [z1] at z2
        have e := (List.cons.inj (List.cons.inj z2).1).2
        exact absurd e.symm n2
      · rw [z1] at z2
        have e := (List.cons.inj (List.cons.inj z2).1).2
        exact absurd e n1
      · rw [z1] at z2
        obtain ⟨e1, e2⟩ := List.cons.inj z2
        rw [(List.cons.inj e1).2, e2]
theorem len_flat2 {β γ : Type} {l : List β} {f : β → List γ} {k : Nat} (h : ∀ b ∈ l, (f b).length = k) : (l.flatMap f).length = k * l.length := by
  induction l with
  | nil => simp
  | cons b l ih =>
    rw [List.flatMap_cons, List.length_append, ih fun c hc => h c (List.mem_cons_of_mem _ hc), h b List.mem_cons_self, List.length_cons, Nat.mul_add, Nat.mul_one]
    omega
theorem cuts_par {e : α → α → Bool} : ∀ {π : List α}, (cuts e π).length % 2 = if stepsB (fun a b => !e a b) π then 1 else 0
  | [] => rfl
  | [a] => rfl
  | a :: b :: r => by
    have ih := cuts_par (e := e) (π := b :: r)
    have ne : ∀ c ∈ cuts e (b :: r), ∃ h t, c = h :: t := fun c hc => by
      cases c with
      | nil => have := (cuts_mem.mp hc).1; simp at this
      | cons h t => exact ⟨h, t, rfl⟩
    have hl : (cuts e (a :: b :: r)).length = (if e a b then 2 else 1) * (cuts e (b :: r)).length := len_flat2 fun c hc => by
      obtain ⟨h, t, rfl⟩ := ne c hc
      show (if e a b then [[a] :: h :: t, (a :: h) :: t] else [[a] :: h :: t]).length = _
      split <;> rfl
    rw [hl]
    show _ = if (!e a b && stepsB (fun a b => !e a b) (b :: r)) = true then 1 else 0
    cases hab : e a b with
    | true =>
      rw [if_pos rfl]
      simp
    | false =>
      rw [if_neg (by simp), Nat.one_mul, ih]
      simp
theorem par_flat {β γ : Type} {f : β → List γ} {p : β → Bool} : ∀ {l : List β}, (∀ b ∈ l, (f b).length % 2 = if p b then 1 else 0) → (l.flatMap f).length % 2 = (l.filter p).length % 2
  | [], _ => rfl
  | b :: l, h => by
    have ih := par_flat (l := l) fun c hc => h c (List.mem_cons_of_mem _ hc)
    have hb := h b List.mem_cons_self
    rw [List.flatMap_cons, List.length_append, List.filter_cons]
    cases hp : p b with
    | true =>
      rw [hp, if_pos rfl] at hb
      rw [if_pos rfl, List.length_cons]
      omega
    | false =>
      rw [hp, if_neg (by simp)] at hb
      rw [if_neg (by simp)]
      omega
theorem filt_two {β : Type} (p : β → Bool) : ∀ l : List β, (l.filter p).length + (l.filter fun x => !p x).length = l.length
  | [] => rfl
  | x :: l => by
    have ih := filt_two p l
    rw [List.filter_cons, List.filter_cons]
    cases h : p x
    · simp only [h, Bool.not_false, if_true, Bool.false_eq_true, if_false, List.length_cons]; omega
    · simp only [h, Bool.not_true, if_true, Bool.false_eq_true, if_false, List.length_cons]; omega
def swap2 : List (List α) → List (List α)
  | a :: b :: t => b :: a :: t
  | c => c
/-- as many orders in which each is tied to the next as such in which none is, but for an even number -/
theorem berge {e : α → α → Bool} {ps : List α} (nd : ps.Nodup) : Hn e ps % 2 = Hn (fun a b => !e a b) ps % 2 := by
  by_cases hps : ps = []
  · subst hps
    rfl
  have hO : ((prm ps).flatMap (cuts e)).length % 2 = Hn (fun a b => !e a b) ps % 2 := par_flat fun π _ => cuts_par
  rw [← hO]
  have memO : ∀ c, c ∈ (prm ps).flatMap (cuts e) ↔ c.flatten.Perm ps ∧ Blk e c := fun c => by
    constructor
    · intro h
      obtain ⟨π, hπ, hc⟩ := List.mem_flatMap.mp h
      obtain ⟨h1, h2⟩ := cuts_mem.mp hc
      exact ⟨by rw [h1]; exact prm_mem.mp hπ, h2⟩
    · rintro ⟨h1, h2⟩
      exact List.mem_flatMap.mpr ⟨c.flatten, prm_mem.mpr h1, cuts_mem.mpr ⟨rfl, h2⟩⟩
  have ndO : ((prm ps).flatMap (cuts e)).Nodup := nodup_flat (prm_nodup nd) (fun π _ => cuts_nodup) fun π _ ρ _ z h1 h2 => (cuts_mem.mp h1).1.symm.trans (cuts_mem.mp h2).1
  generalize (prm ps).flatMap (cuts e) = O at memO ndO
  have two := filt_two (fun c : List (List α) => decide (c.length = 1)) O
  have even : (O.filter fun c => !decide (c.length = 1)).length % 2 = 0 := by
    refine even_inv swap2 _ _ (Nat.le_refl _) (ndO.filter _) fun c hc => ?_
    obtain ⟨hc1, hc2⟩ := List.mem_filter.mp hc
    obtain ⟨m1, m2⟩ := (memO c).mp hc1
    have hne : c.length ≠ 1 := by simpa using hc2
    match c, hne, m1, m2 with
    | [], _, m1, _ =>
      have m1 : ([] : List α).Perm ps := m1
      exact absurd m1.symm.eq_nil hps
    | [_], hne, _, _ => exact absurd rfl hne
    | a :: b :: t, _, m1, m2 =>
      have ha := (m2 a List.mem_cons_self).1
      refine ⟨List.mem_filter.mpr ⟨(memO _).mpr ⟨?_, fun y hy => ?_⟩, by simp [swap2]⟩, rfl, fun h => ?_⟩
      · show (b :: a :: t).flatten.Perm ps
        refine List.Perm.trans ?_ m1
        rw [List.flatten_cons, List.flatten_cons, List.flatten_cons, List.flatten_cons, ← List.append_assoc, ← List.append_assoc]
        exact List.perm_append_comm.append_right _
      · refine m2 y ?_
        have hy : y ∈ b :: a :: t := hy
        simp only [List.mem_cons] at hy ⊢
        rcases hy with h | h | h
        · exact .inr (.inl h)
        · exact .inl h
        · exact .inr (.inr h)
      · have h : b :: a :: t = a :: b :: t := h
        have eab : b = a := (List.cons.inj h).1
        subst eab
        have ndf : (b :: b :: t).flatten.Nodup := m1.nodup_iff.mpr nd
        rw [List.flatten_cons, List.flatten_cons] at ndf
        obtain ⟨x, r, rfl⟩ : ∃ x r, b = x :: r := by
          cases b with
          | nil => exact absurd rfl ha
          | cons x r => exact ⟨x, r, rfl⟩
        have := (List.nodup_append.mp ndf).2.2 x List.mem_cons_self x (by simp)
        exact this rfl
  have one : (O.filter fun c => decide (c.length = 1)).length = Hn e ps := by
    unfold Hn
    rw [← List.length_map (f := fun π : List α => [π]) (as := (prm ps).filter (stepsB e))]
    refine perm_len (ndO.filter _) (List.pairwise_map.mpr (((prm_nodup nd).filter _).imp fun hne h => hne (List.cons.inj h).1)) fun c => ?_
    constructor
    · intro hc
      obtain ⟨hc1, hc2⟩ := List.mem_filter.mp hc
      obtain ⟨m1, m2⟩ := (memO c).mp hc1
      have hl : c.length = 1 := by simpa using hc2
      match c, hl, m1, m2 with
      | [π], _, m1, m2 =>
        have m1 : (π ++ []).Perm ps := m1
        rw [List.append_nil] at m1
        exact List.mem_map.mpr ⟨π, List.mem_filter.mpr ⟨prm_mem.mpr m1, (m2 π List.mem_cons_self).2⟩, rfl⟩
    · intro hc
      obtain ⟨π, hπ, rfl⟩ := List.mem_map.mp hc
      obtain ⟨h1, h2⟩ := List.mem_filter.mp hπ
      have p := prm_mem.mp h1
      refine List.mem_filter.mpr ⟨(memO _).mpr ⟨by simpa using p, fun y hy => ?_⟩, by simp⟩
      rw [List.mem_singleton.mp hy]
      exact ⟨fun z => hps (by rw [z] at p; exact p.symm.eq_nil), h2⟩
  omega
end Rd
end L2.DL

/-! VF1: the parity of the number of roads over all places of a web in which each two are tied once (k20; Redei) -/
namespace L2.DL
namespace Rd
variable {α : Type} [DecidableEq α]
theorem steps_congr {e f : α → α → Bool} : ∀ {r : List α}, r.Nodup → (∀ a ∈ r, ∀ b ∈ r, a ≠ b → e a b = f a b) → stepsB e r = stepsB f r
  | [], _, _ => rfl
  | [_], _, _ => rfl
  | a :: b :: r, nd, h => by
    have ⟨n1, n2⟩ := List.nodup_cons.mp nd
    show (e a b && stepsB e (b :: r)) = (f a b && stepsB f (b :: r))
    rw [h a (by simp) b (by simp) fun z => n1 (by rw [z]; simp), steps_congr n2 fun x hx y hy => h x (List.mem_cons_of_mem _ hx) y (List.mem_cons_of_mem _ hy)]
theorem filter_len_congr {β : Type} {p q : β → Bool} {l : List β} (h : ∀ x ∈ l, p x = q x) : (l.filter p).length = (l.filter q).length := by
  rw [List.filter_congr h]
theorem Hn_congr {e f : α → α → Bool} {ps : List α} (nd : ps.Nodup) (h : ∀ a ∈ ps, ∀ b ∈ ps, a ≠ b → e a b = f a b) : Hn e ps = Hn f ps :=
  filter_len_congr fun r hr => by
    have p := prm_mem.mp hr
    exact steps_congr (p.nodup_iff.mpr nd) fun a ha b hb => h a (p.mem_iff.mp ha) b (p.mem_iff.mp hb)
theorem Hn_perm {e : α → α → Bool} {ps qs : List α} (nd : ps.Nodup) (p : ps.Perm qs) : Hn e ps = Hn e qs :=
  perm_len ((prm_nodup nd).filter _) ((prm_nodup (p.nodup_iff.mp nd)).filter _) fun r => by
    simp only [List.mem_filter]
    constructor
    · rintro ⟨h1, h2⟩
      exact ⟨prm_mem.mpr ((prm_mem.mp h1).trans p), h2⟩
    · rintro ⟨h1, h2⟩
      exact ⟨prm_mem.mpr ((prm_mem.mp h1).trans p.symm), h2⟩
theorem steps_snoc {e : α → α → Bool} : ∀ {u : List α} {a b : α}, stepsB e (u ++ [a, b]) = (stepsB e (u ++ [a]) && e a b)
  | [], a, b => by
    show (e a b && true) = (true && e a b)
    rw [Bool.and_true, Bool.true_and]
  | [x], a, b => by
    show (e x a && (e a b && true)) = ((e x a && true) && e a b)
    rw [Bool.and_true, Bool.and_true]
  | x :: y :: u, a, b => by
    have ih := steps_snoc (e := e) (u := y :: u) (a := a) (b := b)
    show (e x y && stepsB e (y :: u ++ [a, b])) = ((e x y && stepsB e (y :: u ++ [a])) && e a b)
    rw [ih, Bool.and_assoc]
theorem steps_rev {e : α → α → Bool} : ∀ {r : List α}, stepsB (fun a b => e b a) r.reverse = stepsB e r
  | [] => rfl
  | [_] => rfl
  | a :: b :: r => by
    have ih := steps_rev (e := e) (r := b :: r)
    rw [List.reverse_cons, List.reverse_cons, List.append_assoc]
    show stepsB _ (r.reverse ++ [b, a]) = _
    rw [steps_snoc, ← List.reverse_cons, ih, Bool.and_comm]
    rfl
theorem Hn_rev {e : α → α → Bool} {ps : List α} (nd : ps.Nodup) : Hn (fun a b => e b a) ps = Hn e ps := by
  unfold Hn
  rw [← List.length_map (f := List.reverse) (as := (prm ps).filter (stepsB e))]
  refine perm_len ((prm_nodup nd).filter _) (List.pairwise_map.mpr (((prm_nodup nd).filter _).imp fun hne h => hne (List.reverse_inj.mp h))) fun r => ?_
  constructor
  · intro h
    obtain ⟨h1, h2⟩ := List.mem_filter.mp h
    refine List.mem_map.mpr ⟨r.reverse, List.mem_filter.mpr ⟨prm_mem.mpr ((List.reverse_perm r).trans (prm_mem.mp h1)), ?_⟩, List.reverse_reverse r⟩
    rw [← steps_rev, List.reverse_reverse]
    exact h2
  · intro h
    obtain ⟨s, hs, rfl⟩ := List.mem_map.mp h
    obtain ⟨h1, h2⟩ := List.mem_filter.mp hs
    exact List.mem_filter.mpr ⟨prm_mem.mpr ((List.reverse_perm s).trans (prm_mem.mp h1)), by rw [steps_rev]; exact h2⟩
theorem steps_and {e f : α → α → Bool} : ∀ {r : List α}, stepsB (fun a b => e a b && f a b) r = (stepsB e r && stepsB f r)
  | [] => rfl
  | [_] => rfl
  | a :: b :: r => by
    have ih := steps_and (e := e) (f := f) (r := b :: r)
    show ((e a b && f a b) && stepsB _ (b :: r)) = ((e a b && stepsB e (b :: r)) && (f a b && stepsB f (b :: r)))
    rw [ih]
    cases e a b <;> cases f a b <;> cases stepsB e (b :: r) <;> cases stepsB f (b :: r) <;> rfl
/-- a before b, next to it -/
def Nxt (a b : α) (r : List α) : Prop := ∃ u v, r = u ++ a :: b :: v
theorem Nxt.cons {a b c : α} {r : List α} (h : Nxt a b r) : Nxt a b (c :: r) := by
  obtain ⟨u, v, rfl⟩ := h
  exact ⟨c :: u, v, rfl⟩
theorem steps_iff {e : α → α → Bool} : ∀ {r : List α}, stepsB e r = true ↔ ∀ a b, Nxt a b r → e a b = true
  | [] => ⟨fun _ a b h => by obtain ⟨u, v, h⟩ := h; simp at h, fun _ => rfl⟩
  | [x] => ⟨fun _ a b h => by
      obtain ⟨u, v, h⟩ := h
      have := congrArg List.length h
      simp at this
      omega, fun _ => rfl⟩
  | x :: y :: r => by
    have ih := steps_iff (e := e) (r := y :: r)
    constructor
    · intro h a b hn
      have h : (e x y && stepsB e (y :: r)) = true := h
      obtain ⟨h1, h2⟩ := Bool.and_eq_true_iff.mp h
      obtain ⟨u, v, hr⟩ := hn
      cases u with
      | nil =>
        have hr : x :: y :: r = a :: b :: v := hr
        obtain ⟨e1, e2⟩ := List.cons.inj hr
        obtain ⟨e3, _⟩ := List.cons.inj e2
        rw [← e1, ← e3]
        exact h1
      | cons c u =>
        have hr : x :: y :: r = c :: (u ++ a :: b :: v) := hr
        exact ih.mp h2 a b ⟨u, v, (List.cons.inj hr).2⟩
    · intro h
      show (e x y && stepsB e (y :: r)) = true
      rw [h x y ⟨[], r, rfl⟩, Bool.true_and]
      exact ih.mpr fun a b hn => h a b hn.cons
theorem nxt_one : ∀ {r : List α} {x y : α}, r.Nodup → Nxt x y r → ¬Nxt y x r
  | [], x, y, _, h, _ => by obtain ⟨u, v, h⟩ := h; simp at h
  | z :: r, x, y, nd, h1, h2 => by
    have ⟨n1, n2⟩ := List.nodup_cons.mp nd
    obtain ⟨u, v, h1⟩ := h1
    obtain ⟨u', v', h2⟩ := h2
    cases u with
    | nil =>
      have h1 : z :: r = x :: y :: v := h1
      obtain ⟨e1, e2⟩ := List.cons.inj h1
      subst e1
      cases u' with
      | nil =>
        have h2 : z :: r = y :: z :: v' := h2
        obtain ⟨e3, e4⟩ := List.cons.inj h2
        exact n1 (by rw [e4]; simp)
      | cons c u' =>
        have h2 : z :: r = c :: (u' ++ y :: z :: v') := h2
        exact n1 (by rw [(List.cons.inj h2).2]; simp)
    | cons c u =>
      have h1 : z :: r = c :: (u ++ x :: y :: v) := h1
      have hr := (List.cons.inj h1).2
      cases u' with
      | nil =>
        have h2 : z :: r = y :: x :: v' := h2
        obtain ⟨e3, e4⟩ := List.cons.inj h2
        subst e3
        exact n1 (by rw [hr]; simp)
      | cons d u' =>
        have h2 : z :: r = d :: (u' ++ y :: x :: v') := h2
        exact nxt_one n2 ⟨u, v, hr⟩ ⟨u', v', (List.cons.inj h2).2⟩
theorem filt_or {β : Type} {p q d m : β → Bool} : ∀ {l : List β}, (∀ x ∈ l, d x = (p x || q x)) → (∀ x ∈ l, m x = (p x && q x)) → (l.filter d).length + (l.filter m).length = (l.filter p).length + (l.filter q).length
  | [], _, _ => rfl
  | x :: l, h1, h2 => by
    have ih := filt_or (l := l) (fun y hy => h1 y (List.mem_cons_of_mem _ hy)) fun y hy => h2 y (List.mem_cons_of_mem _ hy)
    have a := h1 x List.mem_cons_self
    have b := h2 x List.mem_cons_self
    simp only [List.filter_cons, a, b]
    cases p x <;> cases q x <;> simp <;> omega
/-- each two tied once -/
def Tour (e : α → α → Bool) (ps : List α) : Prop := ∀ a ∈ ps, ∀ b ∈ ps, a ≠ b → e a b = !e b a
def turnB (e : α → α → Bool) (x y : α) : α → α → Bool := fun a b => if a = x ∧ b = y then false else if a = y ∧ b = x then true else e a b
theorem flip {e : α → α → Bool} {ps : List α} {x y : α} (nd : ps.Nodup) (T : Tour e ps) (hx : x ∈ ps) (hy : y ∈ ps) (hxy : x ≠ y) (h : e x y = true) : Hn e ps % 2 = Hn (turnB e x y) ps % 2 := by
  have hyx : e y x = false := by
    rw [T y hy x hx hxy.symm, h]
    rfl
  have hM : Hn (fun a b => e a b && turnB e x y a b) ps = Hn (fun b a => !(e a b || turnB e x y a b)) ps := Hn_congr nd fun a ha b hb hab => by
    unfold turnB
    by_cases h1 : a = x ∧ b = y
    · obtain ⟨rfl, rfl⟩ := h1
      simp [hxy, hxy.symm, h, hyx]
    · by_cases h2 : a = y ∧ b = x
      · obtain ⟨rfl, rfl⟩ := h2
        simp [hxy, hxy.symm, h, hyx]
      · have h3 : ¬(b = x ∧ a = y) := fun z => h2 ⟨z.2, z.1⟩
        have h4 : ¬(b = y ∧ a = x) := fun z => h1 ⟨z.2, z.1⟩
        simp only [if_neg h1, if_neg h2, if_neg h3, if_neg h4, Bool.and_self, Bool.or_self]
        exact T a ha b hb hab
  have hB := berge (e := fun a b => e a b || turnB e x y a b) nd
  rw [← Hn_rev (e := fun a b => !(e a b || turnB e x y a b)) nd, ← hM] at hB
  have hI : Hn (fun a b => e a b || turnB e x y a b) ps + Hn (fun a b => e a b && turnB e x y a b) ps = Hn e ps + Hn (turnB e x y) ps := by
    refine filt_or (fun r hr => ?_) fun r _ => steps_and
    have ndr := (prm_mem.mp hr).nodup_iff.mpr nd
    rw [Bool.eq_iff_iff, Bool.or_eq_true, steps_iff, steps_iff, steps_iff]
    constructor
    · intro hD
      by_cases hn : Nxt y x r
      · refine .inr fun a b hab => ?_
        have h0 := hD a b hab
        unfold turnB at h0 ⊢
        by_cases h1 : a = x ∧ b = y
        · obtain ⟨rfl, rfl⟩ := h1
          exact absurd hn (nxt_one ndr hab)
        · rw [if_neg h1] at h0 ⊢
          by_cases h2 : a = y ∧ b = x
          · rw [if_pos h2]
          · rw [if_neg h2] at h0 ⊢
            simpa using h0
      · refine .inl fun a b hab => ?_
        have h0 := hD a b hab
        unfold turnB at h0
        by_cases h1 : a = x ∧ b = y
        · obtain ⟨rfl, rfl⟩ := h1
          exact h
        · rw [if_neg h1] at h0
          by_cases h2 : a = y ∧ b = x
          · obtain ⟨rfl, rfl⟩ := h2
            exact absurd hab hn
          · rw [if_neg h2] at h0
            simpa using h0
    · rintro (h0 | h0) a b hab
      · rw [h0 a b hab]; rfl
      · rw [h0 a b hab, Bool.or_true]
  omega
/-! ### one that is tied to all -/
theorem ins_src {e : α → α → Bool} {z : α} : ∀ {s : List α}, (∀ x ∈ s, e z x = true ∧ e x z = false) → ((ins z s).filter (stepsB e)).length = if stepsB e s then 1 else 0
  | [], _ => rfl
  | y :: s, h => by
    have hy := h y List.mem_cons_self
    have none : ∀ t ∈ (ins z s).map (y :: ·), stepsB e t = false := fun t ht => by
      obtain ⟨r, hr, rfl⟩ := List.mem_map.mp ht
      obtain ⟨u, v, rfl, rfl⟩ := ins_mem.mp hr
      have : stepsB e (y :: (u ++ z :: v)) ≠ true := fun hh => by
        have hh := steps_iff.mp hh
        rcases List.eq_nil_or_concat u with rfl | ⟨u', w, rfl⟩
        · have := hh y z ⟨[], v, rfl⟩
          rw [hy.2] at this
          cases this
        · have hw := h w (by simp)
          have := hh w z ⟨y :: u', v, by simp⟩
          rw [hw.2] at this
          cases this
      simpa using this
    show ((List.filter (stepsB e) ((z :: y :: s) :: (ins z s).map (y :: ·)))).length = _
    rw [List.filter_cons, show stepsB e (z :: y :: s) = (e z y && stepsB e (y :: s)) from rfl, hy.1, Bool.true_and, List.filter_eq_nil_iff.mpr fun t ht => by rw [none t ht]; simp]
    cases stepsB e (y :: s) <;> rfl
theorem flat_filt {β γ : Type} {f : β → List γ} {p : β → Bool} {q : γ → Bool} : ∀ {l : List β}, (∀ b ∈ l, ((f b).filter q).length = if p b then 1 else 0) → ((l.flatMap f).filter q).length = (l.filter p).length
  | [], _ => rfl
  | b :: l, h => by
    have ih := flat_filt (l := l) fun c hc => h c (List.mem_cons_of_mem _ hc)
    have hb := h b List.mem_cons_self
    rw [List.flatMap_cons, List.filter_append, List.length_append, ih, List.filter_cons, hb]
    cases p b <;> simp <;> omega
theorem Hn_src {e : α → α → Bool} {z : α} {l : List α} (h : ∀ x ∈ l, e z x = true ∧ e x z = false) : Hn e (z :: l) = Hn e l :=
  flat_filt fun s hs => ins_src fun x hx => h x ((prm_mem.mp hs).mem_iff.mp hx)
theorem Hn_sink {e : α → α → Bool} {z : α} {l : List α} (nd : (z :: l).Nodup) (h : ∀ x ∈ l, e x z = true ∧ e z x = false) : Hn e (z :: l) = Hn e l := by
  rw [← Hn_rev nd, ← Hn_rev (e := e) (List.nodup_cons.mp nd).2]
  exact Hn_src (e := fun a b => e b a) h
/-! ### odd -/
def fixB (z : α) (q : List α) (e : α → α → Bool) : α → α → Bool := fun a b => if a = z ∧ b ∈ q then true else if b = z ∧ a ∈ q then false else e a b
theorem fix_tour {z : α} {ps : List α} {e : α → α → Bool} {q : List α} (hz : z ∉ q) (T : Tour e ps) : Tour (fixB z q e) ps := fun a ha b hb hab => by
  have t := T a ha b hb hab
  unfold fixB
  by_cases h1 : a = z ∧ b ∈ q
  · have h2 : ¬(b = z ∧ a ∈ q) := fun w => hz (by rw [h1.1] at w; exact w.2)
    rw [if_pos h1, if_neg h2, if_pos h1]
    rfl
  · by_cases h2 : b = z ∧ a ∈ q
    · rw [if_neg h1, if_pos h2, if_pos h2]
      rfl
    · rw [if_neg h1, if_neg h2, if_neg h2, if_neg h1]
      exact t
theorem fix_even {z : α} {ps : List α} {e : α → α → Bool} (nd : ps.Nodup) (hz : z ∈ ps) (T : Tour e ps) : ∀ {q : List α}, z ∉ q → (∀ x ∈ q, x ∈ ps) → Hn e ps % 2 = Hn (fixB z q e) ps % 2
  | [], _, _ => by
    rw [Hn_congr (f := fixB z [] e) nd fun a _ b _ _ => by unfold fixB; simp]
  | y :: q, hq, hs => by
    have hzq : z ∉ q := fun w => hq (List.mem_cons_of_mem _ w)
    have hyz : y ≠ z := fun w => hq (by rw [w]; simp)
    have ih := fix_even nd hz T hzq fun x hx => hs x (List.mem_cons_of_mem _ hx)
    have T1 := fix_tour hzq T
    rw [ih]
    cases h : fixB z q e y z with
    | true =>
      rw [flip nd T1 (hs y (by simp)) hz hyz h]
      rw [Hn_congr (f := fixB z (y :: q) e) nd fun a _ b _ hab => ?_]
      unfold turnB
      by_cases h1 : a = y ∧ b = z
      · obtain ⟨rfl, rfl⟩ := h1
        rw [if_pos ⟨rfl, rfl⟩]
        unfold fixB
        simp [hyz]
      · by_cases h2 : a = z ∧ b = y
        · obtain ⟨rfl, rfl⟩ := h2
          rw [if_neg h1, if_pos ⟨rfl, rfl⟩]
          unfold fixB
          simp
        · rw [if_neg h1, if_neg h2]
          unfold fixB
          have e1 : (a = z ∧ b ∈ y :: q) ↔ (a = z ∧ b ∈ q) := by
            simp only [List.mem_cons]
            exact ⟨fun w => ⟨w.1, w.2.resolve_left fun v => h2 ⟨w.1, v⟩⟩, fun w => ⟨w.1, .inr w.2⟩⟩
          have e2 : (b = z ∧ a ∈ y :: q) ↔ (b = z ∧ a ∈ q) := by
            simp only [List.mem_cons]
            exact ⟨fun w => ⟨w.1, w.2.resolve_left fun v => h1 ⟨v, w.1⟩⟩, fun w => ⟨w.1, .inr w.2⟩⟩
          simp only [e1, e2]
    | false =>
      have h' : fixB z q e z y = true := by
        rw [T1 z hz y (hs y (by simp)) hyz.symm, h]
        rfl
      rw [Hn_congr (f := fixB z (y :: q) e) nd fun a _ b _ hab => ?_]
      by_cases h1 : a = y ∧ b = z
      · obtain ⟨rfl, rfl⟩ := h1
        rw [h]
        unfold fixB
        simp [hyz]
      · by_cases h2 : a = z ∧ b = y
        · obtain ⟨rfl, rfl⟩ := h2
          rw [h']
          unfold fixB
          simp
        · unfold fixB
          have e1 : (a = z ∧ b ∈ y :: q) ↔ (a = z ∧ b ∈ q) := by
            simp only [List.mem_cons]
            exact ⟨fun w => ⟨w.1, w.2.resolve_left fun v => h2 ⟨w.1, v⟩⟩, fun w => ⟨w.1, .inr w.2⟩⟩
          have e2 : (b = z ∧ a ∈ y :: q) ↔ (b = z ∧ a ∈ q) := by
            simp only [List.mem_cons]
            exact ⟨fun w => ⟨w.1, w.2.resolve_left fun v => h1 ⟨v, w.1⟩⟩, fun w => ⟨w.1, .inr w.2⟩⟩
          simp only [e1, e2]
/-- Redei -/
theorem odd {e : α → α → Bool} : ∀ {ps : List α}, ps.Nodup → Tour e ps → Hn e ps % 2 = 1
  | [], _, _ => rfl
  | z :: l, nd, T => by
    have ⟨n1, n2⟩ := List.nodup_cons.mp nd
    rw [fix_even nd List.mem_cons_self T n1 fun x hx => List.mem_cons_of_mem _ hx]
    rw [Hn_src (e := fixB z l e) fun x hx => ?_]
    · rw [Hn_congr (f := e) n2 fun a ha b hb _ => ?_]
      · exact odd n2 fun a ha b hb => T a (List.mem_cons_of_mem _ ha) b (List.mem_cons_of_mem _ hb)
      · unfold fixB
        rw [if_neg fun w => n1 (by rw [← w.1]; exact ha), if_neg fun w => n1 (by rw [← w.1]; exact hb)]
    · unfold fixB
      have hxz : x ≠ z := fun w => n1 (by rw [← w]; exact hx)
      simp [hx, hxz]
/-! ### other names -/
theorem ins_map {β : Type} [DecidableEq β] (f : α → β) (x : α) : ∀ l : List α, ins (f x) (l.map f) = (ins x l).map (List.map f)
  | [] => rfl
  | y :: l => by
    show (f x :: f y :: l.map f) :: (ins (f x) (l.map f)).map (f y :: ·) = _
    rw [ins_map f x l, List.map_map]
    show _ = (f x :: f y :: l.map f) :: ((ins x l).map (y :: ·)).map (List.map f)
    rw [List.map_map]
    rfl
theorem prm_map {β : Type} [DecidableEq β] (f : α → β) : ∀ l : List α, prm (l.map f) = (prm l).map (List.map f)
  | [] => rfl
  | x :: l => by
    show (prm (l.map f)).flatMap (ins (f x)) = ((prm l).flatMap (ins x)).map (List.map f)
    rw [prm_map f l, List.flatMap_map, List.map_flatMap]
    congr 1
    funext s
    exact ins_map f x s
theorem steps_map {β : Type} {f : α → β} {e : α → α → Bool} {g : β → β → Bool} : ∀ {r : List α}, r.Nodup → (∀ a ∈ r, ∀ b ∈ r, a ≠ b → g (f a) (f b) = e a b) → stepsB g (r.map f) = stepsB e r
  | [], _, _ => rfl
  | [_], _, _ => rfl
  | a :: b :: r, nd, h => by
    have ⟨n1, n2⟩ := List.nodup_cons.mp nd
    show (g (f a) (f b) && stepsB g ((b :: r).map f)) = (e a b && stepsB e (b :: r))
    rw [h a (by simp) b (by simp) fun z => n1 (by rw [z]; simp), steps_map n2 fun x hx y hy => h x (List.mem_cons_of_mem _ hx) y (List.mem_cons_of_mem _ hy)]
theorem Hn_map {β : Type} [DecidableEq β] {f : α → β} {e : α → α → Bool} {g : β → β → Bool} {ps : List α} (nd : ps.Nodup) (h : ∀ a ∈ ps, ∀ b ∈ ps, a ≠ b → g (f a) (f b) = e a b) : Hn g (ps.map f) = Hn e ps := by
  unfold Hn
  rw [prm_map, List.filter_map, List.length_map]
  refine filter_len_congr fun r hr => ?_
  have p := prm_mem.mp hr
  exact steps_map (p.nodup_iff.mpr nd) fun a ha b hb => h a (p.mem_iff.mp ha) b (p.mem_iff.mp hb)
/-! ### the head first -/
def HsA (e : α → α → Bool) (a : α) (l : List α) : Nat := ((prm l).filter fun s => stepsB e (a :: s)).length
theorem len_flat {β γ : Type} {f : β → List γ} : ∀ {l : List β}, (l.flatMap f).length = (l.map fun b => (f b).length).sum
  | [] => rfl
  | b :: l => by
    rw [List.flatMap_cons, List.length_append, len_flat, List.map_cons, List.sum_cons]
theorem prm_head {l : List α} (nd : l.Nodup) (h : l ≠ []) (q : List α → Bool) : ((prm l).filter q).length = (l.map fun p => ((prm (l.erase p)).filter fun s => q (p :: s)).length).sum := by
  have e1 : ((prm l).filter q).length = (l.flatMap fun p => ((prm (l.erase p)).filter fun s => q (p :: s)).map (p :: ·)).length := by
    refine perm_len ((prm_nodup nd).filter _) (nodup_flat nd (fun p _ => List.pairwise_map.mpr (((prm_nodup (nd.erase p)).filter _).imp fun hne h => hne (List.cons.inj h).2)) fun p _ r _ z h1 h2 => ?_) fun r => ?_
    · obtain ⟨s, _, rfl⟩ := List.mem_map.mp h1
      obtain ⟨t, _, h2⟩ := List.mem_map.mp h2
      exact (List.cons.inj h2).1.symm
    · constructor
      · intro hr
        obtain ⟨h1, h2⟩ := List.mem_filter.mp hr
        have p := prm_mem.mp h1
        cases r with
        | nil => exact absurd p.symm.eq_nil h
        | cons a r =>
          have ha : a ∈ l := p.mem_iff.mp (by simp)
          refine List.mem_flatMap.mpr ⟨a, ha, List.mem_map.mpr ⟨r, List.mem_filter.mpr ⟨prm_mem.mpr ?_, h2⟩, rfl⟩⟩
          exact (p.trans (List.perm_cons_erase ha)).cons_inv
      · intro hr
        obtain ⟨a, ha, hr⟩ := List.mem_flatMap.mp hr
        obtain ⟨s, hs, rfl⟩ := List.mem_map.mp hr
        obtain ⟨h1, h2⟩ := List.mem_filter.mp hs
        exact List.mem_filter.mpr ⟨prm_mem.mpr (((prm_mem.mp h1).cons a).trans (List.perm_cons_erase ha).symm), h2⟩
  rw [e1, len_flat]
  congr 1
  refine List.map_congr_left fun p _ => ?_
  rw [List.length_map]
theorem HsA_step {e : α → α → Bool} {a : α} {l : List α} (nd : l.Nodup) (h : l ≠ []) : HsA e a l = (l.map fun p => if e a p then HsA e p (l.erase p) else 0).sum := by
  unfold HsA
  rw [prm_head nd h]
  congr 1
  refine List.map_congr_left fun p _ => ?_
  show (List.filter (fun s => e a p && stepsB e (p :: s)) (prm (l.erase p))).length = _
  cases e a p with
  | true => simp
  | false => simp
theorem Hn_head {e : α → α → Bool} {l : List α} (nd : l.Nodup) (h : l ≠ []) : Hn e l = (l.map fun p => HsA e p (l.erase p)).sum := prm_head nd h _
end Rd
end L2.DL

/-! DL104: dicts whose keys are (a tuple of texts, a text), with whole numbers -/
namespace L2.DL
open PySem PySem.Spec PyProof.Rows
/-! ### the lists -/
abbrev NL (α β : Type) := List (NestedKey × α × β)
def ndGet {α β : Type} (l : NL α β) (q : NestedKey) : Option β := (l.find? fun r => decide (r.1 = q)).map (·.2.2)
def ndAt {α β : Type} (q : NestedKey) (b : β) (r : NestedKey × α × β) : NestedKey × α × β := if r.1 = q then (r.1, r.2.1, b) else r
def ndPut {α β : Type} (l : NL α β) (q : NestedKey) (a : α) (b : β) : NL α β := if (ndGet l q).isSome then l.map (ndAt q b) else l ++ [(q, a, b)]
theorem ndGet_pos {α β : Type} {l : NL α β} {q : NestedKey} {r : NestedKey × α × β} (h : r.1 = q) : ndGet (r :: l) q = some r.2.2 := by simp [ndGet, List.find?_cons, h]
theorem ndGet_neg {α β : Type} {l : NL α β} {q : NestedKey} {r : NestedKey × α × β} (h : r.1 ≠ q) : ndGet (r :: l) q = ndGet l q := by simp [ndGet, List.find?_cons, h]
theorem ndPut_len {α β : Type} (l : NL α β) (q : NestedKey) (a : α) (b : β) : (ndPut l q a b).length ≤ l.length + 1 := by
  unfold ndPut
  split
  · rw [List.length_map]; omega
  · rw [List.length_append]; exact Nat.le_refl _
/-- two lists with the same keys -/
abbrev Nd2 {α β γ δ : Type} (F : α → γ → Prop) (G : β → δ → Prop) : NL α β → NL γ δ → Prop := Paired fun p r => p.1 = r.1 ∧ F p.2.1 r.2.1 ∧ G p.2.2 r.2.2
def OptP {β δ : Type} (G : β → δ → Prop) : Option β → Option δ → Prop
  | some x, some y => G x y
  | none, none => True
  | _, _ => False
section
variable {α β γ δ : Type} {F : α → γ → Prop} {G : β → δ → Prop}
theorem Nd2.get {l : NL α β} {m : NL γ δ} (h : Nd2 F G l m) (q : NestedKey) : OptP G (ndGet l q) (ndGet m q) := by
  induction h with
  | nil => exact True.intro
  | @cons p r ps rs h t ih =>
    by_cases e : p.1 = q
    · rw [ndGet_pos e, ndGet_pos (h.1.symm.trans e)]
      exact h.2.2
    · rw [ndGet_neg e, ndGet_neg fun z => e (h.1.trans z)]
      exact ih
theorem OptP.some_eq {x : Option β} {y : Option δ} (h : OptP G x y) : x.isSome = y.isSome := by
  cases x <;> cases y <;> first | rfl | exact h.elim
theorem Nd2.repl {l : NL α β} {m : NL γ δ} (h : Nd2 F G l m) (q : NestedKey) {b : β} {d : δ} (g : G b d) : Nd2 F G (l.map (ndAt q b)) (m.map (ndAt q d)) := by
  induction h with
  | nil => exact .nil
  | @cons p r ps rs h t ih =>
    rw [List.map_cons, List.map_cons]
    refine .cons ?_ ih
    unfold ndAt
    by_cases e : p.1 = q
    · rw [if_pos e, if_pos (h.1.symm.trans e)]
      exact ⟨h.1, h.2.1, g⟩
    · rw [if_neg e, if_neg fun z => e (h.1.trans z)]
      exact h
theorem Nd2.put {l : NL α β} {m : NL γ δ} (h : Nd2 F G l m) (q : NestedKey) {a : α} {b : β} {c : γ} {d : δ} (f : F a c) (g : G b d) : Nd2 F G (ndPut l q a b) (ndPut m q c d) := by
  unfold ndPut
  rw [(h.get q).some_eq]
  split
  · exact h.repl q g
  · exact Paired.snoc h ⟨rfl, f, g⟩
theorem Nd2.keys {l : NL α β} {m : NL γ δ} (h : Nd2 F G l m) : l.map (·.1) = m.map (·.1) := by
  induction h with
  | nil => rfl
  | cons h t ih => rw [List.map_cons, List.map_cons, h.1, ih]
end
theorem ndPut_storedH (xs : NL Addr Value) (q : NestedKey) (a : Addr) (v : Value) : storedH xs q a v = ndPut xs q a v := by
  unfold storedH ndPut
  have e : (atKey xs q).isSome = (ndGet xs q).isSome := by
    unfold atKey ndGet
    cases xs.find? fun r => decide (r.1 = q) <;> rfl
  rw [e]
  rfl
theorem ndGet_atKey (xs : NL Addr Value) (q : NestedKey) : (atKey xs q).map (·.2) = ndGet xs q := by
  unfold atKey ndGet
  cases xs.find? fun r => decide (r.1 = q) <;> rfl
/-! ### the object -/
abbrev NdF := NL V V → Addr → Heap → Prop
def ndP (P : Program) (w : World) : NdF := fun l a h => l.length ≤ sizeLine ∧ (a == sysModules) = false ∧ (l.map (·.1)).Nodup ∧ ∃ o es ep xs, h.get? a = some o ∧ o.ExactDict ∧ o.data = .dict es ep ∧ es.toList = xs.map (entryOfKey (nestedKind P w)) ∧ Nd2 (fun x b => x = V.ref b) RelV l xs
/-- y is the key q -/
def KeyAt (H : Hp) (q : NestedKey) (y : V) : Prop := q.depth ≤ 8 ∧ ∃ b, y = .ref b ∧ ∀ P w h, HOk P w H h → NestedIs h q (.ref b)
theorem ndP_st {P : Program} {w : World} {l : NL V V} {a : Addr} {h h' : Heap} (x : ndP P w l a h) (k : ∀ o, h.get? a = some o → h'.get? a = some o) : ndP P w l a h' := by
  obtain ⟨h1, h2, h3, o, es, ep, xs, h4, h5⟩ := x
  exact ⟨h1, h2, h3, o, es, ep, xs, k o h4, h5⟩
theorem ndP_ok {P : Program} {w : World} {H : Hp} {l : NL V V} {a : Addr} {h : Heap} (x : ndP P w l a h) : ObjOk P w H h a (.ext (ndP P w l a)) :=
  ⟨x, let ⟨_, _, _, o, _, _, _, h4, _⟩ := x; ⟨o, h4⟩, fun _ _ p k => ndP_st p k⟩
theorem nd_of {P : Program} {w : World} {H : Hp} {h : Heap} {l : NL V V} {a : Addr} (ok : HOk P w H h) (e : H a = some (.ext (ndP P w l a))) (ks : ∀ r ∈ l, KeyAt H r.1 r.2.1) :
    l.length ≤ sizeLine ∧ (a == sysModules) = false ∧ ∃ xs, Nd2 (fun x b => x = V.ref b) RelV l xs ∧ h.DictOfH (nestedKind P w) a xs := by
  obtain ⟨⟨h1, h2, h3, o, es, ep, xs, h4, h5, h6, h7, r⟩, _⟩ := (show ObjOk P w H h a (.ext (ndP P w l a)) from ok a _ e)
  refine ⟨h1, h2, xs, r, o, es, ep, h4, h5, h6, h7, fun x hx => ?_, by rw [← r.keys]; exact h3⟩
  have all : ∀ {l : NL V V} {m : NL Addr Value}, Nd2 (fun x b => x = V.ref b) RelV l m → (∀ r ∈ l, KeyAt H r.1 r.2.1) → ∀ x ∈ m, (nestedKind P w).is h x.1 x.2.1 := by
    intro l m q ks
    induction q with
    | nil => intro x hx; exact nomatch hx
    | @cons p q ps qs hq t ih =>
      intro x hx
      rcases List.mem_cons.mp hx with e | hx
      · subst e
        obtain ⟨hd, b, hb, k⟩ := ks p (by simp)
        have eb : V.ref b = V.ref x.2.1 := hb.symm.trans hq.2.1
        injection eb with eb
        subst eb
        rw [← hq.1]
        exact ⟨k P w h ok, hd⟩
      · exact ih (fun r hr => ks r (List.mem_cons_of_mem _ hr)) x hx
  exact all r ks x hx
section
variable {X : Cx} {pins : List (Addr × Obj)} {σ : St} {H : Hp} {s : Shared} {a : Addr} {l : NL V V} {q : NestedKey} {y d v : V} {u r : Value} {A : Around} {E : Value → Shared → Prop}
theorem nd_isD (I : Inv X pins σ H s) (e : H a = some (.ext (ndP X.prog X.w l a))) : s.TypeIs (.ref a) "dict" ∧ (∀ b, Value.ref a = .ref b → ∃ ob, s.heap.get? b = some ob ∧ ob.dict = none) ∧ (a == sysModules) = false := by
  obtain ⟨⟨h1, h2, h3, o, es, ep, xs, h4, h5, h6, h7, r⟩, _⟩ := (show ObjOk X.prog X.w H s.heap a (.ext (ndP X.prog X.w l a)) from I.hok a _ e)
  exact ⟨⟨o, h4, h5.1⟩, fun b q => by cases q; exact ⟨o, h4, h5.2.1⟩, h2⟩
theorem nd_get2 {Q : Value → Shared → Prop} (hu : A.units + 9 < cLine) (I : Inv X pins σ H s) (e : H a = some (.ext (ndP X.prog X.w l a))) (ks : ∀ r ∈ l, KeyAt H r.1 r.2.1) (ky : KeyAt H q y) (ry : RelV y u) (rd : RelV d r)
    (h : ∀ w' s', Inv X pins σ H s' → RelV ((ndGet l q).getD d) w' → Q w' s') : wpAny (model X.prog X.w) A (call (.builtin "dict.get") [.ref a, u, r]) Q E s := by
  obtain ⟨hd, b, rfl, k⟩ := ky
  cases (show u = Value.ref b from ry)
  obtain ⟨z, hm, xs, rel, dd⟩ := nd_of I.hok e ks
  refine call_meetsIn PySem.F.slot_dict_get dd.typeIs PySem.F.entry_dict_get (PySem.F.args_dict_get_3 _ _ _) (meetsH_dict_get_default (nestedKind X.prog X.w) a b hm r) ⟨(show A.units + 1 + 8 < cLine by omega), q, xs, ⟨k _ _ _ I.hok, hd⟩, dd, h _ _ (I.tok _) ?_⟩
  rw [ndGet_atKey]
  have := rel.get q
  revert this
  cases ndGet l q <;> cases ndGet xs q <;> intro z
  · exact rd
  · exact z.elim
  · exact z.elim
  · exact z
theorem nd_setItem {Q : Unit → Shared → Prop} (hu : A.units + 9 < cLine) (I : Inv X pins σ H s) (e : H a = some (.ext (ndP X.prog X.w l a))) (ks : ∀ r ∈ l, KeyAt H r.1 r.2.1) (ky : KeyAt H q y) (hz : l.length < sizeLine) (ry : RelV y u) (rv : RelV v r)
    (h : ∀ s', Inv X pins σ (upd H a (.ext (ndP X.prog X.w (ndPut l q y v) a))) s' → Q () s') : wpAny (model X.prog X.w) A (setItem (.ref a) u r) Q E s := by
  obtain ⟨hd, b, rfl, k⟩ := ky
  cases (show u = Value.ref b from ry)
  obtain ⟨z, hm, xs, rel, dd⟩ := nd_of I.hok e ks
  have hz2 : xs.length ≤ sizeLine := by rw [← Paired.length rel]; exact z
  refine wpAny_setItem_heap (knd := nestedKind X.prog X.w) (hsz := hz2) (show A.units + 1 + 8 < cLine by omega) ⟨k _ _ _ I.hok, hd⟩ dd fun h' dd' hs => h _ ?_
  obtain ⟨o, es, ep, h1, h2, h3, h4, _, h5⟩ := dd'
  rw [ndPut_storedH] at h4 h5
  have rel' : Nd2 (fun x b => x = V.ref b) RelV (ndPut l q (.ref b) v) (ndPut xs q b r) := rel.put q rfl rv
  exact d_write I (by rw [e]; exact True.intro) hs ⟨o, h1⟩ (ndP_ok ⟨by have := ndPut_len l q (V.ref b) v; omega, hm, by rw [rel'.keys]; exact h5, o, es, ep, _, h1, h2, h3, h4, rel'⟩)
end
/-! ### keys as data -/
mutual
def nkOf : D → Option NestedKey
  | .str x => some (.text x)
  | .tup ds => (nkOfs ds).map .tup
  | _ => none
def nkOfs : List D → Option (List NestedKey)
  | [] => some []
  | d :: ds => (nkOf d).bind fun q => (nkOfs ds).map fun r => q :: r
end
section
variable {P : Program} {w : World} {K : PySem.W.Frag} {S : SO} {H : Hp} {h : Heap}
mutual
theorem rel_nested (ok : HOk P w H h) : ∀ (d : D) (q : NestedKey) (v : V) (u : Value), nkOf d = some q → Rel K S H d v → RelV v u → NestedIs h q u
  | .str x, q, v, u, e, r, ru => by
    have e : some (NestedKey.text x) = some q := e
    cases e
    have r : v = .str x := r
    subst r
    obtain ⟨t, rfl⟩ := (show ∃ t, u = Value.str x t from ru)
    exact .text x t
  | .tup ds, q, v, u, e, r, ru => by
    obtain ⟨ks, hk, rfl⟩ := Option.map_eq_some_iff.mp (show (nkOfs ds).map NestedKey.tup = some q from e)
    obtain ⟨a, vs, rfl, tb, rs⟩ := r
    obtain rfl : u = Value.ref a := ru
    obtain ⟨_, its, rv, o, h1, h2, n, h3⟩ := (show ObjOk P w H h a (.tup vs) from ok a _ tb.2)
    exact .tup h1 h2 h3 (by simpa using rels_nested ok ds ks vs its hk rs rv)
  | .non, _, _, _, e, _, _ => nomatch e
  | .bl _, _, _, _, e, _, _ => nomatch e
  | .int _, _, _, _, e, _, _ => nomatch e
  | .ty _, _, _, _, e, _, _ => nomatch e
  | .lst _, _, _, _, e, _, _ => nomatch e
  | .src _, _, _, _, e, _, _ => nomatch e
  | .kt _, _, _, _, e, _, _ => nomatch e
  | .tf _, _, _, _, e, _, _ => nomatch e
  | .dic _ _, _, _, _, e, _, _ => nomatch e
  | .ins _ _, _, _, _, e, _, _ => nomatch e
  | .obj _, _, _, _, e, _, _ => nomatch e
  | .fd _ _, _, _, _, e, _, _ => nomatch e
  | .gh _ _, _, _, _, e, _, _ => nomatch e
  | .fn _ _ _, _, _, _, e, _, _ => nomatch e
theorem rels_nested (ok : HOk P w H h) : ∀ (ds : List D) (qs : List NestedKey) (vs : List V) (us : List Value), nkOfs ds = some qs → Rels K S H ds vs → Vals vs us → NestedAll h qs us
  | [], qs, vs, us, e, r, ru => by
    have e : some [] = some qs := e
    cases e
    have r : vs = [] := r
    subst r
    cases ru
    exact .nil
  | d :: ds, qs, vs, us, e, r, ru => by
    obtain ⟨q, hq, e2⟩ := Option.bind_eq_some_iff.mp (show ((nkOf d).bind fun q => (nkOfs ds).map fun r => q :: r) = some qs from e)
    obtain ⟨r', hr, rfl⟩ := Option.map_eq_some_iff.mp e2
    obtain ⟨v, vr, rfl, h1, h2⟩ := r
    cases ru with
    | cons a b => exact .cons (rel_nested ok d q v _ hq h1 a) (rels_nested ok ds r' vr _ hr h2 b)
end
end
/-- the data k is the key q -/
def NkD (q : NestedKey) (k : D) : Prop := nkOf k = some q ∧ q.depth ≤ 8 ∧ ∃ ds, k = .tup ds
theorem KeyAt.of {K : PySem.W.Frag} {S : SO} {H : Hp} {q : NestedKey} {k : D} {v : V} (n : NkD q k) (r : Rel K S H k v) : KeyAt H q v := by
  obtain ⟨h1, h2, ds, rfl⟩ := n
  obtain ⟨a, vs, rfl, tb, rs⟩ := r
  exact ⟨h2, a, rfl, fun P w h ok => rel_nested ok (.tup ds) q (.ref a) (.ref a) h1 ⟨a, vs, rfl, tb, rs⟩ rfl⟩
theorem nd2_of {K : PySem.W.Frag} {S : SO} {H : Hp} : ∀ {kvs : NL D D} {l : NL V V}, l.map (·.1) = kvs.map (·.1) → Rels K S H (kvs.map (·.2.1)) (l.map (·.2.1)) → Rels K S H (kvs.map (·.2.2)) (l.map (·.2.2)) → Nd2 (Rel K S H) (Rel K S H) kvs l
  | [], [], _, _, _ => .nil
  | [], _ :: _, e, _, _ => nomatch e
  | _ :: _, [], e, _, _ => nomatch e
  | p :: ps, r :: rs, e, h1, h2 => by
    rw [List.map_cons, List.map_cons] at e h1 h2
    injection e with e1 e2
    obtain ⟨v, t, ev, a1, a2⟩ := h1
    obtain ⟨v', t', ev', b1, b2⟩ := h2
    injection ev with x1 x2
    injection ev' with y1 y2
    subst x1 x2 y1 y2
    exact .cons ⟨e1.symm, a1, b1⟩ (nd2_of e2 a2 b2)
theorem of_nd2 {K : PySem.W.Frag} {S : SO} {H : Hp} {kvs : NL D D} {l : NL V V} (h : Nd2 (Rel K S H) (Rel K S H) kvs l) : l.map (·.1) = kvs.map (·.1) ∧ Rels K S H (kvs.map (·.2.1)) (l.map (·.2.1)) ∧ Rels K S H (kvs.map (·.2.2)) (l.map (·.2.2)) := by
  induction h with
  | nil => exact ⟨rfl, rfl, rfl⟩
  | cons h t ih =>
    obtain ⟨i1, i2, i3⟩ := ih
    exact ⟨by rw [List.map_cons, List.map_cons, h.1, i1], ⟨_, _, rfl, h.2.1, i2⟩, ⟨_, _, rfl, h.2.2, i3⟩⟩
theorem Nd2.mem {α β γ δ : Type} {F : α → γ → Prop} {G : β → δ → Prop} {l : NL α β} {m : NL γ δ} (h : Nd2 F G l m) : ∀ r ∈ m, ∃ p ∈ l, p.1 = r.1 ∧ F p.2.1 r.2.1 ∧ G p.2.2 r.2.2 := by
  induction h with
  | nil => exact fun r hr => nomatch hr
  | @cons p q ps qs h t ih =>
    intro r hr
    rcases List.mem_cons.mp hr with rfl | hr
    · exact ⟨p, by simp, h⟩
    · obtain ⟨p', hp, z⟩ := ih r hr
      exact ⟨p', List.mem_cons_of_mem _ hp, z⟩
def NkOk (kvs : NL D D) : Prop := ∀ t ∈ kvs, NkD t.1 t.2.1
theorem nd_keys {K : PySem.W.Frag} {S : SO} {H : Hp} {kvs : NL D D} {l : NL V V} (ok : NkOk kvs) (h : Nd2 (Rel K S H) (Rel K S H) kvs l) : ∀ r ∈ l, KeyAt H r.1 r.2.1 := fun r hr => by
  obtain ⟨p, hp, e, h1, _⟩ := h.mem r hr
  rw [← e]
  exact KeyAt.of (ok p hp) h1
/-! ### the rules -/
section
variable {X : Cx} {o e f : Expr} {wo wk wx : WE} {pos apos cpos pos' : Pos}
def wNdNew (N : NdF) : WE := fun _ S Q => ∀ p, S p = none → Q (.obj p) (S.set p (.nd N []))
theorem pe_ndNew : PE X (.Dict [] [] pos) fun _ H Q => ∀ p, H p = none → Q (.ref p) (upd H p (.ext (ndP X.prog X.w [] p))) := ⟨fun pins s σ H Q I h =>
  wpAny_Dict_empty ⟨.ref s.heap.objs.size, _, I.laid (a := s.heap.objs.size) (o := .ext (ndP X.prog X.w [] s.heap.objs.size)) (t' := s.toks) (fun _ _ q => Heap.get?_push_of_some _ q) (Nat.le_refl _)
    (ndP_ok ⟨Nat.zero_le _, beq_eq_false_iff_ne.mpr (Ne.symm (Nat.ne_of_lt I.big)), List.nodup_nil, _, #[], 0, [], Heap.get?_push_size _ rfl, ⟨rfl, rfl, rfl⟩, rfl, rfl, .nil⟩), rfl, h _ (I.hok.fresh (Nat.le_refl _))⟩⟩
theorem de_ndNew : DE X (.Dict [] [] pos) (wNdNew (ndP X.prog X.w)) := pe_imp pe_ndNew fun σ H Q ⟨sd, S, Q0, st, q, an⟩ p hp => by
  have n2 : Nx S H (S.set p (.nd (ndP X.prog X.w) [])) (upd H p (.ext (ndP X.prog X.w [] p))) := nx_obj hp (st.s.free hp)
  exact an _ _ _ _ (q p (st.s.free hp)) n2 (srel_put st.s n2 ⟨[], upd_same, rfl, rfl, rfl⟩) rfl
/-- d.get(k, x) -/
def wNdGet (N : NdF) (wo wk wx : WE) : WE := fun sd S Q => wo sd S fun d S1 => ∃ a kvs0, d = .obj a ∧ S1 a = some (.nd N kvs0) ∧ wk sd S1 fun k S2 => wx sd S2 fun x S3 => ∃ kvs q, S3 a = some (.nd N kvs) ∧ NkOk kvs ∧ NkD q k ∧ Q ((ndGet kvs q).getD x) S3
theorem pe_ndGet {td ty tx : TE} (hu : X.A.units + 9 < cLine) (ho : PE X o td) (he : PE X e ty) (hf : PE X f tx) (m : M2 X o "get" apos e f cpos) : PE X (.Call (.Attribute o "get" apos) [e, f] [] cpos)
    fun σ H Q => td σ H fun x H1 => ∃ a l0, x = .ref a ∧ H1 a = some (.ext (ndP X.prog X.w l0 a)) ∧ ty σ H1 fun y H2 => tx σ H2 fun z H3 => ∃ l q, H3 a = some (.ext (ndP X.prog X.w l a)) ∧ (∀ r ∈ l, KeyAt H3 r.1 r.2.1) ∧ KeyAt H3 q y ∧ Q ((ndGet l q).getD z) H3 := by
  refine ⟨fun pins s σ H Q I h => ?_⟩
  refine wpAny_Call_method m.base m.few m.line PySem.F.plainAttrs_dict PySem.F.slot_dict_get PySem.F.type_dict_get (thn (ho.run pins s σ H _ I h) fun u s1 ⟨x, H1, I1, rx, a, l0, ex, d, q1⟩ => ?_)
  subst ex
  obtain rfl : u = Value.ref a := rx
  obtain ⟨t1, t2, _⟩ := nd_isD I1 d
  refine ⟨t1, t2, ?_⟩
  rw [m.trees]
  refine Calls.callWith_builtin rfl (Calls.evalArgs_plain (Calls.spliced_cons (thn (he.run pins s1 σ H1 _ I1 q1) fun iv s2 ⟨y, H2, I2, ry, q2⟩ =>
    Calls.spliced_cons (thn (hf.run pins s2 σ H2 _ I2 q2) fun fv s3 ⟨z, H3, I3, rz, l, q, hl, ks, ky, q3⟩ => Calls.spliced_nil ?_))))
  exact nd_get2 hu I3 hl ks ky ry rz fun w' s4 I4 rw' => ⟨_, H3, I4, rw', q3⟩
theorem de_ndGet (hu : X.A.units + 65 < cLine) (ho : DE X o wo) (he : DE X e wk) (hf : DE X f wx) (m : M2 X o "get" apos e f cpos) : DE X (.Call (.Attribute o "get" apos) [e, f] [] cpos) (wNdGet (ndP X.prog X.w) wo wk wx) :=
  pe_imp (pe_ndGet (by omega) ho he hf m) fun σ H Q ⟨sd, S, Q0, st, q, an⟩ => ⟨sd, S, _, st, q, fun d S1 v H1 ⟨a, kvs0, e1, ha, q1⟩ n1 s1 r1 => by
    subst e1
    have ev : v = .ref a := r1
    obtain ⟨l0, h0, _⟩ := s1 a _ ha
    refine ⟨a, l0, ev, h0, sd, S1, _, st.nx n1 s1, q1, fun k S2 y H2 q2 n2 s2 r2 => ⟨sd, S2, _, (st.nx n1 s1).nx n2 s2, q2, fun x S3 z H3 ⟨kvs, q, hS, ok, nk, q3⟩ n3 s3 r3 => ?_⟩⟩
    obtain ⟨l, hl, m1, m2, m3⟩ := s3 a _ hS
    have r := nd2_of m1 m2 m3
    refine ⟨l, q, hl, nd_keys ok r, KeyAt.of nk (Rel.nx n3 _ _ r2), ?_⟩
    have g := r.get q
    revert g q3
    cases ndGet kvs q <;> cases ndGet l q <;> intro q3 g
    · exact an _ _ _ _ q3 (n1.trans (n2.trans n3)) s3 r3
    · exact g.elim
    · exact g.elim
    · exact an _ _ _ _ q3 (n1.trans (n2.trans n3)) s3 g⟩
/-- d[k] = v -/
def wNdPut (N : NdF) (wo wk wv : WE) : WS := fun E sd S => wv sd S fun v S1 => wo sd S1 fun d S2 => wk sd S2 fun k S3 => ∃ a kvs q, d = .obj a ∧ S3 a = some (.nd N kvs) ∧ NkOk kvs ∧ NkD q k ∧ kvs.length < 1000000 ∧ E.nx sd (S3.set a (.nd N (ndPut kvs q k v)))
theorem ps_ndPut {value : Expr} {td ty tv : TE} (hu : X.A.units + 9 < cLine) (ho : PE X o td) (hi : PE X e ty) (hv : PE X value tv) (hs : swapsWith value (some (.Subscript o e pos')) pos.line X.env = pure false) :
    PS X (.Assign [.Subscript o e pos'] value pos) fun D σ H => tv σ H fun v H1 => td σ H1 fun x H2 => ty σ H2 fun y H3 => ∃ a l q, x = .ref a ∧ H3 a = some (.ext (ndP X.prog X.w l a)) ∧ (∀ r ∈ l, KeyAt H3 r.1 r.2.1) ∧ KeyAt H3 q y ∧ l.length < sizeLine ∧ D.nx σ (upd H3 a (.ext (ndP X.prog X.w (ndPut l q y v) a))) := by
  refine ⟨fun pins s σ H D I h => ?_⟩
  refine wpAny_Assign_Subscript (thn (hv.run pins s σ H _ I h) fun r s1 ⟨v, H1, I1, rv, q1⟩ => thn (ho.run pins s1 σ H1 _ I1 q1) fun u s2 ⟨x, H2, I2, rx, q2⟩ => thn (hi.run pins s2 σ H2 _ I2 q2) fun iv s3 ⟨y, H3, I3, ry, a, l, q, ex, hl, ks, ky, hz, q3⟩ => ?_) hs
  subst ex
  obtain rfl : u = Value.ref a := rx
  exact nd_setItem hu I3 hl ks ky hz ry rv fun s4 I4 => ⟨σ, _, I4, q3⟩
theorem ds_ndPut {value : Expr} {wv : WE} (hu : X.A.units + 65 < cLine) (ho : DE X o wo) (hi : DE X e wk) (hv : DE X value wv) (hs : swapsWith value (some (.Subscript o e pos')) pos.line X.env = pure false := by rfl) :
    DS X (.Assign [.Subscript o e pos'] value pos) (wNdPut (ndP X.prog X.w) wo wk wv) :=
  ps_imp (ps_ndPut (by omega) ho hi hv hs) fun E σ H ⟨sd, S, E0, st, q, an⟩ => ⟨sd, S, _, st, q, fun v S1 vv H1 q1 n1 s1 r1 => ⟨sd, S1, _, st.nx n1 s1, q1, fun d S2 vd H2 q2 n2 s2 r2 => ⟨sd, S2, _, (st.nx n1 s1).nx n2 s2, q2, fun k S3 vk H3 ⟨a, kvs, q, e1, hS, ok, nk, hz, q3⟩ n3 s3 r3 => by
    subst e1
    have ev : vd = .ref a := r2
    obtain ⟨l, hl, m1, m2, m3⟩ := s3 a _ hS
    have r := nd2_of m1 m2 m3
    have n4 : Nx S3 H3 (S3.set a (.nd (ndP X.prog X.w) (ndPut kvs q k v))) (upd H3 a (.ext (ndP X.prog X.w (ndPut l q vk vv) a))) := nx_put hS
    have r' : Nd2 (Rel X.K S3 H3) (Rel X.K S3 H3) (ndPut kvs q k v) (ndPut l q vk vv) := r.put q r3 (Rel.nx n3 _ _ (Rel.nx n2 _ _ r1))
    obtain ⟨k1, k2, k3⟩ := of_nd2 r'
    have sz : l.length < sizeLine := by rw [← Paired.length r]; exact Nat.lt_of_lt_of_le hz (le_line (Nat.le_refl _))
    have s4 := srel_put (S := S3) (H := H3) s3 n4 ⟨_, upd_same, k1, Rels.nx n4 _ _ k2, Rels.nx n4 _ _ k3⟩
    exact ⟨a, l, q, ev, hl, nd_keys ok r, KeyAt.of nk r3, sz, an.nx _ _ _ _ q3 (n1.trans (n2.trans (n3.trans n4))) (((((st.nx n1 s1).nx n2 s2).nx n3 s3).nx n4 s4))⟩⟩⟩⟩
end
end L2.DL

/-! DL105: dict comprehensions with nested keys -/
namespace L2.DL
open PySem PySem.Spec PyProof.Rows
theorem nd0_ok {P : Program} {w : World} {H : Hp} (h : Heap) (hb : sysModules < h.objs.size) : ObjOk P w H (h.push { cls := .type "dict", data := .dict #[] }) h.objs.size (.ext (ndP P w [] h.objs.size)) :=
  ndP_ok ⟨Nat.zero_le _, beq_eq_false_iff_ne.mpr (Ne.symm (Nat.ne_of_lt hb)), List.nodup_nil, _, #[], 0, [], Heap.get?_push_size _ rfl, ⟨rfl, rfl, rfl⟩, rfl, rfl, .nil⟩
theorem nd_dictSet {X : Cx} {pins : List (Addr × Obj)} {σ : St} {H : Hp} {s : Shared} {a : Addr} {l : NL V V} {q : NestedKey} {y v : V} {u r : Value} {E : Value → Shared → Prop} {Q : Unit → Shared → Prop} (hu : X.A.units + 65 < cLine) (I : Inv X pins σ H s) (e : H a = some (.ext (ndP X.prog X.w l a))) (ks : ∀ r ∈ l, KeyAt H r.1 r.2.1) (ky : KeyAt H q y) (hz : l.length < sizeLine) (ry : RelV y u) (rv : RelV v r)
    (h : ∀ s', Inv X pins σ (upd H a (.ext (ndP X.prog X.w (ndPut l q y v) a))) s' → Q () s') : wpAny (model X.prog X.w) X.A (dictSet a u r) Q E s := by
  obtain ⟨hd, b, rfl, k⟩ := ky
  cases (show u = Value.ref b from ry)
  obtain ⟨z, hm, xs, rel, dd⟩ := nd_of I.hok e ks
  have hz2 : xs.length ≤ sizeLine := by rw [← Paired.length rel]; exact z
  refine wpAny_dictSet_heap (knd := nestedKind X.prog X.w) (hsz := hz2) (show X.A.units + 8 < cLine by omega) ⟨k _ _ _ I.hok, hd⟩ dd fun h' dd' hs => h _ ?_
  obtain ⟨o, es, ep, h1, h2, h3, h4, _, h5⟩ := dd'
  rw [ndPut_storedH] at h4 h5
  have rel' : Nd2 (fun x b => x = V.ref b) RelV (ndPut l q (.ref b) v) (ndPut xs q b r) := rel.put q rfl rv
  exact d_write I (by rw [e]; exact True.intro) hs ⟨o, h1⟩ (ndP_ok ⟨by have := ndPut_len l q (V.ref b) v; omega, hm, by rw [rel'.keys]; exact h5, o, es, ep, _, h1, h2, h3, h4, rel'⟩)
/-- the comprehension's reading: D the new dict -/
def tDcN (N0 : NdF) (wi : TI) (g : TG) (tt : TT) (tk tv : TE) (vs : List Nat) : TE := fun σ H Q => wi σ H fun J H1 => ∀ D, H1 D = none → ∃ W : Nat → Nat → Hp → Prop, (∃ m, W 0 m (upd H1 D (.ext (N0 [] D)))) ∧ ∀ i m H, W i m H →
  (J.stop i H ∧ Q (.ref D) H) ∨ (J.go i H ∧ ∃ N : Hp → Prop, (∀ H', N H' → ∃ m', m' < m ∧ W (i + 1) m' H') ∧ ∀ x H', J.yld i H x H' → g x (wipe σ vs) H' fun σ2 H2 => wipe σ2 vs = wipe σ vs ∧ tt σ2 H2 fun b H3 =>
    if b = true then tk σ2 H3 fun y H4 => tv σ2 H4 fun z H5 => ∃ l q, H5 D = some (.ext (N0 l D)) ∧ (∀ r ∈ l, KeyAt H5 r.1 r.2.1) ∧ KeyAt H5 q y ∧ l.length < sizeLine ∧ N (upd H5 D (.ext (N0 (ndPut l q y z) D))) else N H3)
section
variable {X : Cx}
theorem dcN_core {pins : List (Addr × Obj)} {s : Shared} {σ : St} {H : Hp} {Q : VK} {kx vx tg iter : Expr} {ifs : List Expr} {scope : Scope} {own : List (Str × Nat)} {pos pos' : Pos} {wi : TI} {g : TG} {tt : TT} {tk tv : TE} {use : Option (Value → Sem Unit)} {Qf : Value → Shared → Prop}
    (hu : X.A.units + 65 < cLine) (hc : X.calm = true) (hN : X.N.Nodup) (I : Inv X pins σ H s) (hi : PI X tg iter wi) (ok : BlkOk X.N X.env.scope scope own) (hg : Blk X scope fun Y => PG Y tg g) (ht : Blk X scope fun Y => PTs Y ifs tt) (hk : Blk X scope fun Y => PE Y kx tk) (he : Blk X scope fun Y => PE Y vx tv)
    (hs : ∀ x, foldedSetIterable iter X.env x = pure x) (h : tDcN (ndP X.prog X.w) wi g tt tk tv (own.map (·.2)) σ H Q)
    (hRR : ∀ D C s' m H', Inv X pins σ H' s' → Q (.ref D) H' → s'.heap.Ns C m → FpOk X pins H' C → compPost (model X.prog X.w) X.A X.xe use Qf (.ref D) C (.ok .next) s') :
    wpAny (model X.prog X.w) X.A (comprehension (.DictComp kx vx [⟨tg, iter, ifs, 0⟩] scope pos) scope X.env pos' newDict false (eval iter X.env) use) Qf X.xe s := by
  have frees : ∀ y ∈ scope.names, y.2 = .free → ∃ c, X.env.cells.lookup y.1 = some c := fun y hy e => (ok.free y hy e).elim (fun k => I.ok.has _ (.inl k)) fun k => I.ok.has _ (.inr k)
  refine wpAny_comprehension_free (use := use) rfl hs (closure_ok frees) ok.kind (fun y hy e => by rw [ok.uniq y hy, e])
    (thn (hi.run pins s σ H _ I h) fun xv s1 hx => thn hx fun itv s2 h2 => ?_)
  obtain ⟨it, fp, tn, J, H2, e, I2, T, st2, f2, q⟩ := h2
  subst e
  refine wpAny_newObj_type (newEnv_comp ?_)
  generalize hD : s2.heap.objs.size = D
  obtain ⟨W, ⟨m0, w0⟩, turn⟩ := q D (I2.hok.fresh (Nat.le_of_eq hD))
  generalize hs3 : ({ s2 with heap := s2.heap.push { cls := .type "dict", data := .dict #[] } } : Shared) = s3
  have h3 : s3.heap = s2.heap.push { cls := .type "dict", data := .dict #[] } := by rw [← hs3]
  have I3 : Inv X pins σ (upd H2 D (.ext (ndP X.prog X.w [] D))) s3 := by
    subst hs3 hD
    exact I2.laid (t' := s2.toks) (fun b o e => Heap.get?_push_of_some _ e) (Nat.le_refl _) (nd0_ok s2.heap I2.big)
  have old : ∀ b ∈ fp, b < s2.heap.objs.size := fun b hb => let ⟨o, e, _⟩ := T.obj _ _ st2 b hb; Heap.lt_size e
  have f3 : ∀ b ∈ fp, FpOk X pins (upd H2 D (.ext (ndP X.prog X.w [] D))) b ∧ b < s3.heap.objs.size := fun b hb =>
    ⟨⟨(upd_ne (by rw [← hD]; exact Nat.ne_of_lt (old b hb))).trans (f2 b hb).1, (f2 b hb).2⟩, by rw [h3, Heap.size_push]; exact Nat.lt_succ_of_lt (old b hb)⟩
  have st3 : tn 0 s3.heap := T.keep _ _ _ st2 fun b _ o e => h3 ▸ Heap.get?_push_of_some _ e
  have I4 := block_start I3 ok hN f3
  show codeAny _ _ (.compStart (.DictComp kx vx [⟨tg, iter, ifs, 0⟩] scope pos) 0 (.ref it) (.ref D) (compEnvC scope (cellsFrom (s3.heap.objs.size + 1) scope.names (cloFrom X.env.cells scope.names [])) s3.heap.objs.size X.env)) (compPost (model X.prog X.w) X.A X.xe use Qf (.ref D) s3.heap.objs.size) { s3 with heap := pushCells (s3.heap.push { cls := .type "dict", data := .dict #[] }) scope.names }
  have pg := hg s3 (upd H2 D (.ext (ndP X.prog X.w [] D))) s3.heap.objs.size (cellsFrom (s3.heap.objs.size + 1) scope.names (cloFrom X.env.cells scope.names [])) fp
  have pt := ht s3 (upd H2 D (.ext (ndP X.prog X.w [] D))) s3.heap.objs.size (cellsFrom (s3.heap.objs.size + 1) scope.names (cloFrom X.env.cells scope.names [])) fp
  have pk := hk s3 (upd H2 D (.ext (ndP X.prog X.w [] D))) s3.heap.objs.size (cellsFrom (s3.heap.objs.size + 1) scope.names (cloFrom X.env.cells scope.names [])) fp
  have pe := he s3 (upd H2 D (.ext (ndP X.prog X.w [] D))) s3.heap.objs.size (cellsFrom (s3.heap.objs.size + 1) scope.names (cloFrom X.env.cells scope.names [])) fp
  generalize hce : compEnvC scope (cellsFrom (s3.heap.objs.size + 1) scope.names (cloFrom X.env.cells scope.names [])) s3.heap.objs.size X.env = ce at I4 pg pt pk pe ⊢
  have cL : ce.locals = s3.heap.objs.size := by rw [← hce]; rfl
  generalize hH3 : upd H2 D (.ext (ndP X.prog X.w [] D)) = H3 at I3 I4 pg pt pk pe w0 f3
  generalize hs4 : ({ s3 with heap := pushCells (s3.heap.push { cls := .type "dict", data := .dict #[] }) scope.names } : Shared) = s4 at I4 ⊢
  have st4 : tn 0 s4.heap := T.keep _ _ _ st3 fun b _ o e => hs4 ▸ pushCells_keeps _ _ _ _ (Heap.get?_push_of_some _ e)
  have stat : ∀ {σ' : St} {H' : Hp} {s' : Shared}, Inv (X.blk s3 H3 scope ce fp) [] σ' H' s' → (∀ b ∈ fp, H' b = none) → ∀ b ∈ fp, FpOk (X.blk s3 H3 scope ce fp) [] H' b := fun {σ' H' s'} I' hn b hb =>
    ⟨hn b hb, (I'.ok.exf b hb).1, I'.ok.exfs b hb, .inl hb, fun x c e => (I'.ok.exf b hb).2 x c e, fun p hp => nomatch (show p ∈ ([] : List (Addr × Obj)) from by simpa using hp)⟩
  have loop : codeAny (model X.prog X.w) X.A (.compLoop (.DictComp kx vx [⟨tg, iter, ifs, 0⟩] scope pos) 0 (.ref it) (.ref D) ce) (compPost (model X.prog X.w) X.A X.xe use Qf (.ref D) s3.heap.objs.size) s4 := by
    refine compLoop_anyD (fun n s' => ∃ i H', Inv (X.blk s3 H3 scope ce fp) [] (wipe σ (own.map (·.2))) H' s' ∧ tn i s'.heap ∧ (∀ b ∈ fp, H' b = none) ∧ W i n H') ?_ m0 ⟨0, H3, I4, st4, fun b hb => (f3 b hb).1.1, w0⟩
    rintro n s5 ⟨i, H5, I5, st5, n5, w5⟩
    rcases turn i n H5 w5 with ⟨stop, qq⟩ | ⟨go, N, hN', step⟩
    · refine thnF (T.done (X.blk s3 H3 scope ce fp) rfl rfl rfl hc i [] s5 _ H5 (fun _ _ => False) I5 (stat I5 n5) st5 stop) fun r s6 ⟨hr, I6⟩ => ?_
      subst hr
      have I7 : Inv X pins σ H5 s6 := I3.call' (ch := fp) I6.os I6.base I6.hok I6.bare fun b hb => let ⟨_, a1, a2, a3, a4, a5⟩ := (f3 b hb).1; ⟨a3, a1, a4, a5⟩
      have nC : H5 s3.heap.objs.size = none := cL ▸ (show H5 ce.locals = none from I6.free)
      obtain ⟨m, hn, _⟩ := I6.loc
      exact hRR D s3.heap.objs.size s6 m H5 I7 qq (cL ▸ (show s6.heap.Ns ce.locals m from hn)) (I3.fpOk (Nat.le_refl _) nC)
    · refine thnF (T.item (X.blk s3 H3 scope ce fp) rfl rfl rfl hc i [] s5 _ H5 (fun _ _ => False) I5 (stat I5 n5) st5 go) fun r s6 ⟨u, hr, h6⟩ => ?_
      subst hr
      refine thnF h6 fun _ s7 ⟨x, H7, I7, r7, y7, st7, n7⟩ => ?_
      refine thnF (pg.run _ s7 _ H7 x u _ (I7.pinned (stat I7 n7) (T.obj _ _ st7)) r7 (step x H7 y7)) fun _ s8 ⟨σ8, H8, I8, hw8, q8⟩ => ?_
      refine thnF (pt.run _ s8 σ8 H8 _ I8 q8) fun b s9 ⟨H9, I9, q9⟩ => ?_
      have fin : ∀ {s' : Shared} {H' : Hp}, Inv (X.blk s3 H3 scope ce fp) ([] ++ pinsAt fp s7.heap) σ8 H' s' → N H' → ∃ m, m < n ∧ ∃ i H', Inv (X.blk s3 H3 scope ce fp) [] (wipe σ (own.map (·.2))) H' s' ∧ tn i s'.heap ∧ (∀ b ∈ fp, H' b = none) ∧ W i m H' := fun {s' H'} I' nx => by
        obtain ⟨m', hm, w'⟩ := hN' H' nx
        have pin' : ∀ b ∈ fp, ∀ o, s7.heap.get? b = some o → s'.heap.get? b = some o ∧ H' b = none := fun b hb o e => let z := I'.pin (b, o) (List.mem_append_right _ (List.mem_append_right _ (mem_pinsAt hb e))); ⟨z.1, z.2.1⟩
        refine ⟨m', hm, i + 1, H', (I'.unpinned (pins := [])).weak (by rw [← hw8, wipe_length]) (fun j v e => (wipe_some (hw8 ▸ e)).1), T.keep _ _ _ st7 fun b hb o e => (pin' b hb o e).1, fun b hb => ?_, w'⟩
        obtain ⟨o, e, _⟩ := T.obj _ _ st7 b hb
        exact (pin' b hb o e).2
      cases b with
      | false => exact fin I9 q9
      | true =>
        refine thnF (pk.run _ s9 σ8 H9 _ I9 q9) fun z s10 ⟨yk, H10, I10, r10, q10⟩ => ?_
        refine thnF (pe.run _ s10 σ8 H10 _ I10 q10) fun z2 s11 ⟨yv, H11, I11, r11, l, q, hl, ks, ky, hz, nx⟩ => ?_
        exact nd_dictSet (X := X.blk s3 H3 scope ce fp) (show X.A.units + 65 < cLine from hu) I11 hl ks ky hz r10 r11 fun s12 I12 => fin I12 nx
  exact codeAny_compStart_dict loop (T.self X.A 0 _ _ _ st4 loop)
/-! ### .. over data -/
/-- p the new dict; R what is wanted behind it -/
structure DcN (N0 : NdF) (wi : WI) (nt : NT) (tt : WT) (wk we : WE) (vs : List Nat) (R : Addr → SO → Prop) (sd : SD) (S : SO) : Prop where
  ex : wi sd S fun J S1 => ∀ p, S1 p = none → ∃ Pv : Nat → SO → Prop, Pv 0 (S1.set p (.nd N0 [])) ∧ (∀ i S, Pv i S → J.ok S) ∧
  (∀ i d S, J.items[i]? = some d → Pv i S → putNT nt d (wipeD sd vs) fun sd2 => upT tt sd2 S fun b S2 => if b = true then up wk sd2 S2 fun k S3 => up we sd2 S3 fun y S4 => ∃ kvs q, S4 p = some (.nd N0 kvs) ∧ NkOk kvs ∧ NkD q k ∧ kvs.length < 1000000 ∧ Pv (i + 1) (S4.set p (.nd N0 (ndPut kvs q k y))) else Pv (i + 1) S2) ∧
  (∀ S, Pv J.items.length S → R p S)
theorem dcN_lift {N0 : NdF} {wi : WI} {nt : NT} {tt : WT} {wk we : WE} {vs : List Nat} {R : Addr → SO → Prop} {σ : St} {H : Hp} {Q : VK} {sd : SD} {S : SO} (hs : ∀ i ∈ nt.ix, i ∈ vs) (st : Sta X.K sd S σ H) (q : DcN N0 wi nt tt wk we vs R sd S)
    (hR : ∀ p S' H', R p S' → Nx S H S' H' → SRel X.K S' H' → Q (.ref p) H') : tDcN N0 (liftI X.K wi) (gNT X.K nt) (liftT X.K tt) (lift X.K wk) (lift X.K we) vs σ H Q := by
  refine ⟨sd, S, _, st, q.ex, fun J S1 H1 JV q1 n1 s1 jr p hp => ?_⟩
  obtain ⟨Pv, h0, hok, hst, hend⟩ := q1 p (s1.free hp)
  have n2 : Nx S1 H1 (S1.set p (.nd N0 [])) (upd H1 p (.ext (N0 [] p))) := nx_obj hp (s1.free hp)
  have s2 : SRel X.K (S1.set p (.nd N0 [])) (upd H1 p (.ext (N0 [] p))) := srel_put s1 n2 ⟨[], upd_same, rfl, rfl, rfl⟩
  refine ⟨fun i m H' => ∃ S', m = J.items.length - i ∧ i ≤ J.items.length ∧ Pv i S' ∧ SRel X.K S' H' ∧ Nx S1 H1 S' H', ⟨J.items.length, _, by simp, Nat.zero_le _, h0, s2, n2⟩, ?_⟩
  rintro i m H' ⟨S', rfl, hile, hp', s', n'⟩
  have o := hok i S' hp'
  by_cases hlt : i < J.items.length
  · refine .inr ⟨jr.go i S' H' n' s' o hlt, fun H2 => ∃ S2, Pv (i + 1) S2 ∧ SRel X.K S2 H2 ∧ Nx S1 H1 S2 H2, fun H2 ⟨S2, h1, h2, h3⟩ => ⟨J.items.length - (i + 1), by omega, S2, rfl, hlt, h1, h2, h3⟩, fun x H2 hy => ?_⟩
    have hi' := List.getElem?_eq_getElem hlt
    obtain ⟨n3, s3, r3⟩ := jr.yld i S' H' x H2 _ n' s' o hi' hy
    have nn := n'.trans n3
    refine nt_go hs ((st.nx (n1.trans nn) s3).wipe vs) r3 (hst i _ S' hi' hp') fun sd2 σ2 hk st2 hw => ⟨by rw [hw, wipe_wipe], upT_lift ?_⟩
    refine ⟨sd2, S', _, st2, hk, fun b S4 H4 q4 n4 s4 => ?_⟩
    cases b with
    | false => exact ⟨S4, q4, s4, nn.trans n4⟩
    | true =>
      refine up_lift ⟨sd2, S4, _, st2.nx n4 s4, q4, fun k S5 kv H5 q5 n5 s5 r5 => up_lift ⟨sd2, S5, _, (st2.nx n4 s4).nx n5 s5, q5, fun y S6 v H6 ⟨kvs, q, ha, ok, nk, hl, q6⟩ n6 s6 r6 => ?_⟩⟩
      obtain ⟨l, hl2, m1, m2, m3⟩ := s6 p _ ha
      have r := nd2_of m1 m2 m3
      have rk := Rel.nx n6 _ _ r5
      have n7 : Nx S6 H6 (S6.set p (.nd N0 (ndPut kvs q k y))) (upd H6 p (.ext (N0 (ndPut l q kv v) p))) := nx_put ha
      have r' : Nd2 (Rel X.K S6 H6) (Rel X.K S6 H6) (ndPut kvs q k y) (ndPut l q kv v) := r.put q rk r6
      obtain ⟨k1, k2, k3⟩ := of_nd2 r'
      have sz : l.length < sizeLine := by rw [← Paired.length r]; exact Nat.lt_of_lt_of_le hl (le_line (Nat.le_refl _))
      exact ⟨l, q, hl2, nd_keys ok r, KeyAt.of nk rk, sz, _, q6, srel_put s6 n7 ⟨_, upd_same, k1, Rels.nx n7 _ _ k2, Rels.nx n7 _ _ k3⟩, nn.trans (n4.trans (n5.trans (n6.trans n7)))⟩
  · have e : i = J.items.length := by omega
    subst e
    exact .inl ⟨jr.stop _ S' H' n' s' o rfl, hR p S' H' (hend S' hp') (n1.trans n') s'⟩
/-- the dict an object -/
def wDcN (N0 : NdF) (wi : WI) (nt : NT) (tt : WT) (wk we : WE) (vs : List Nat) : WE := fun sd S Q => DcN N0 wi nt tt wk we vs (fun p S' => Q (.obj p) S') sd S
end
end L2.DL

/-! DL106: d.items() of a dict with nested keys; the dict is locked by it -/
namespace L2.DL
open PySem PySem.Spec PyProof.Rows
def ItN (N : NdF) (d : Addr) (o : Obj) (l : NL V V) : It :=
  ⟨fun i H => H d = some (.frz o (.ext (N l d))) ∧ i < l.length, fun i H x H' => ∃ T r, l[i]? = some r ∧ x = .ref T ∧ H T = none ∧ H' = upd H T (.tup [r.2.1, r.2.2]), fun i H => H d = some (.frz o (.ext (N l d))) ∧ l.length ≤ i⟩
section
variable {X : Cx} {pins : List (Addr × Obj)} {σ : St} {H : Hp} {s : Shared} {d : Addr} {o : Obj}
theorem frzN {l : NL V V} (I : Inv X pins σ H s) (h : H d = some (.frz o (.ext (ndP X.prog X.w l d)))) :
    (d == sysModules) = false ∧ s.heap.get? d = some o ∧ o.ExactDict ∧ ∃ (es : Array DictEntry) (ep : Nat), o.data = .dict es ep ∧ es.size = l.length ∧
      ∀ (i : Nat) (r : NestedKey × V × V), l[i]? = some r → ∃ (en : DictEntry), es[i]? = some en ∧ RelV r.2.1 en.key ∧ RelV r.2.2 en.val := by
  obtain ⟨hd, ⟨z, hs, _, o', es, ep, xs, ho, hx, hdt, he, pr⟩, _⟩ := I.hok d _ h
  rw [hd] at ho
  cases ho
  refine ⟨hs, hd, hx, es, ep, hdt, ?_, fun i r e => ?_⟩
  · have l1 : es.size = xs.length := size_of_entries he
    have l2 : l.length = xs.length := Paired.length pr
    omega
  · obtain ⟨b, hb, e1, e2, e3⟩ := L2.paired_get pr e
    have q := entry_at he i
    rw [hb] at q
    exact ⟨_, q, by rw [e2]; exact rfl, e3⟩
end
section
variable {P : Program} {w : World} {K : PySem.W.Frag} {d : Addr} {o : Obj} {es : Array DictEntry} {ep : Nat}
theorem turn_itemsN {l : NL V V} {elts : List Expr} {kk : Nat} {tpos : Pos} (it : Addr) (hod : o.data = .dict es ep) :
    L2.Turn P w K (.Tuple elts kk tpos) (ItN (ndP P w) d o l) [it] it (fun i h => ∃ ok ov, IsItemIter h it d i l.length ep ok ov) where
  mem := by simp
  obj := fun i h st b hb => by
    have e : b = it := by simpa using hb
    subst e
    obtain ⟨ok, ov, e⟩ := st
    exact ⟨_, e, fun v z => nomatch z⟩
  keep := fun i h h' st k => let ⟨ok, ov, e⟩ := st; ⟨ok, ov, k it (by simp) _ e⟩
  item := by
    intro X hP hw hK hc i pins s σ H E I hf st hg
    subst hP hw hK
    obtain ⟨hd, hi⟩ := hg
    obtain ⟨hs, hgd, hx, es', ep', hdt, hsz, ent⟩ := frzN I hd
    obtain ⟨rfl, rfl⟩ := dict_ep hod hdt
    obtain ⟨r, hkv⟩ : ∃ p, l[i]? = some p := ⟨l[i], List.getElem?_eq_getElem hi⟩
    obtain ⟨en, hen, hkey, rv⟩ := ent i r hkv
    obtain ⟨ok, ov, he⟩ := st
    rw [← hsz] at he
    have hlt : it < s.heap.objs.size := Heap.lt_size he
    have hlt2 : i < es'.size := by omega
    have een : es'[i] = en := by
      rw [Array.getElem?_eq_getElem hlt2] at hen
      exact Option.some.inj hen
    refine PySem.wpAny_pyNext_items_item_raw he ⟨o, hgd, hx, hdt⟩ hlt2 fun h' ho hT hz hk => ?_
    rw [een] at ho hT
    refine ⟨_, rfl, wpAny_letOwnedTupleGo_items (s := { s with heap := h' }) ho fun h'' he' sb => ?_⟩
    have hT2 : h''.get? s.heap.objs.size = some { cls := .type "tuple", data := .seq #[en.key, en.val] } := (sb.2 _ (Nat.ne_of_gt hlt)).trans hT
    have new : ObjOk X.prog X.w (upd H s.heap.objs.size (.tup [r.2.1, r.2.2])) h'' s.heap.objs.size (.tup [r.2.1, r.2.2]) :=
      ⟨by show 2 ≤ sizeLine; decide, [en.key, en.val], .cons hkey (.cons rv .nil), ⟨_, hT2, rfl, _, rfl⟩⟩
    have I1 : Inv X pins σ (upd H s.heap.objs.size (.tup [r.2.1, r.2.2])) { s with heap := h'' } :=
      I.turnedNew (t' := s.toks) (ch := [it]) (fun b ob hb e => (sb.2 b (by simpa using hb)).trans (hk b ob (by simpa using hb) e)) hf (Nat.le_refl _) new
    refine ⟨.ref s.heap.objs.size, _, I1, rfl, ⟨_, r, hkv, rfl, I.hok.fresh (Nat.le_refl _), rfl⟩, ⟨en.key, en.val, ?_⟩, fun b hb => ?_⟩
    · rw [← hsz]; exact he'
    · have e : b = it := by simpa using hb
      rw [e, upd_ne (Nat.ne_of_lt hlt)]
      exact (hf it (by simp)).1
  done := by
    intro X hP hw hK hc i pins s σ H E I hf st hg
    subst hP hw hK
    obtain ⟨hd, hi⟩ := hg
    obtain ⟨f0, f1, f2, f3, f4, f5⟩ := hf it (by simp)
    obtain ⟨hs, hgd, hx, es', ep', hdt, hsz, ent⟩ := frzN I hd
    obtain ⟨rfl, rfl⟩ := dict_ep hod hdt
    obtain ⟨ok, ov, he⟩ := st
    rw [← hsz] at he
    exact PySem.wpAny_pyNext_items_end_raw (I.ok.hd hc) he ⟨o, hgd, hx, hdt⟩ (by omega) fun h' eb => ⟨rfl, I.turned (t' := s.toks) (fun b ob hb e => eb b ob hb e) f0 f1 f3 f4 f5⟩
  self := fun A i s Q E st h => let ⟨_, _, e⟩ := st; PySem.W.kcp_self e h
end
def iItemsN (N : NdF) (td : TE) : TI := fun σ H R => td σ H fun x H1 => ∃ d l, x = .ref d ∧ H1 d = some (.ext (N l d)) ∧ ∀ o, R (ItN N d o l) (upd H1 d (.frz o (.ext (N l d))))
section
variable {X : Cx} {e : Expr} {td : TE} {apos cpos : Pos}
theorem pi_itemsN {elts : List Expr} {kk : Nat} {tpos : Pos} (he : PE X e td) (hbase : attributeBase e "items" X.env (eval e X.env) = eval e X.env := by rfl) (hline : (apos.endLine == cpos.line) = true := by rfl) :
    PI X (.Tuple elts kk tpos) (.Call (.Attribute e "items" apos) [] [] cpos) (iItemsN (ndP X.prog X.w) td) := by
  refine ⟨fun pins s σ H R I h => ?_⟩
  refine wpAny_Call_method (T := "dict") (id := "dict.items") hbase rfl hline F.plainAttrs_dict F.slot_dict_items F.type_dict_items (thn (he.run pins s σ H _ I h) fun u s1 ⟨x, H1, I0, rx, d, l, ex, hd0, q⟩ => ?_)
  subst ex
  obtain rfl : u = Value.ref d := rx
  obtain ⟨o, I1⟩ := I0.lock hd0 True.intro
  have q := q o
  have hd : (upd H1 d (.frz o (.ext (ndP X.prog X.w l d)))) d = some (.frz o (.ext (ndP X.prog X.w l d))) := upd_same
  obtain ⟨hs, hgd, hx, es, ep, hdt, hsz, ent⟩ := frzN I1 hd
  have hm : s1.heap.DictRaw d es ep := ⟨o, hgd, hx, hdt⟩
  refine ⟨hm.typeIs, fun b e => by cases e; exact ⟨o, hgd, hx.2.1⟩, ?_⟩
  have I2 : Inv X pins σ (upd H1 d (.frz o (.ext (ndP X.prog X.w l d)))) { s1 with heap := s1.heap.push { cls := .type "dict_items", data := .fields #[.ref d] } } := I1.kept (t' := s1.toks) fun b ob q => Heap.get?_push_of_some _ q
  have fin : wpAny (model X.prog X.w) X.A (pyIter (.ref s1.heap.objs.size)) (PIE X pins σ (.Tuple elts kk tpos) R) X.xe { s1 with heap := s1.heap.push { cls := .type "dict_items", data := .fields #[.ref d] } } := by
    refine PySem.wpAny_pyIter_items_raw (d := d) ⟨_, Heap.get?_push_size _ rfl, rfl, rfl⟩ (hm.at fun ob q => Heap.get?_push_of_some _ q) (pi_one (tk := s1.toks) I2 _ (turn_itemsN _ hdt) ⟨.none, .none, ?_⟩ q)
    rw [← hsz]
    exact Heap.get?_push_size _ rfl
  show wpAny _ _ (callWith cpos (.builtin "dict.items") [.ref d] [] []) _ X.xe s1
  exact method_meetsIn F.slot_dict_items F.entry_dict_items rfl (PySem.evalArgs_none ⟨rfl, hm.typeIs, F.args_dict_items_1 _, _, PySem.meets_dict_items_raw d hs, ⟨es, ep, hm⟩, fin⟩)
end
def prsN (kvs : NL D D) : List D := kvs.map fun t => .tup [t.2.1, t.2.2]
/-- the dict is used up -/
def wItemsN (N : NdF) (we : WE) : WI := fun sd S R => we sd S fun d S1 => ∃ a kvs, d = .obj a ∧ S1 a = some (.nd N kvs) ∧ R ⟨prsN kvs, fun _ => True⟩ (S1.del a)
section
variable {X : Cx} {e : Expr} {we : WE} {apos cpos : Pos}
theorem di_itemsN {elts : List Expr} {kk : Nat} {tpos : Pos} (he : DE X e we) (hbase : attributeBase e "items" X.env (eval e X.env) = eval e X.env := by rfl) (hline : (apos.endLine == cpos.line) = true := by rfl) :
    DI X (.Tuple elts kk tpos) (.Call (.Attribute e "items" apos) [] [] cpos) (wItemsN (ndP X.prog X.w) we) :=
  pi_imp (pi_itemsN he hbase hline) fun σ H R ⟨sd, S, R0, st, q, an⟩ => ⟨sd, S, _, st, q, fun d S1 v H1 ⟨a, kvs, e1, hS, q1⟩ n1 s1 r1 => by
    subst e1
    have ev : v = .ref a := r1
    obtain ⟨l, hl, m1, m2, m3⟩ := s1 a _ hS
    refine ⟨a, l, ev, hl, fun o => ?_⟩
    have r := nd2_of m1 m2 m3
    have n2 : Nx S1 H1 (S1.del a) (upd H1 a (.frz o (.ext (ndP X.prog X.w l a)))) := fun b w h1 h2 => by
      have ne : b ≠ a := fun e => by rw [e, hS] at h1; cases h1
      exact ⟨by unfold SO.del; rw [if_neg ne]; exact h1, by rw [upd_ne ne]; exact h2⟩
    have s2 : SRel X.K (S1.del a) (upd H1 a (.frz o (.ext (ndP X.prog X.w l a)))) := fun b ob q => by
      unfold SO.del at q
      by_cases e : b = a
      · rw [if_pos e] at q
        cases q
      · rw [if_neg e] at q
        exact (s1 b ob q).nx n2 (upd_ne e)
    have hn : (S1.del a) a = none := del_at
    have len : (ItD.items ⟨prsN kvs, fun _ => True⟩).length = l.length := by
      show (prsN kvs).length = _
      unfold prsN
      rw [List.length_map]
      exact Paired.length r
    refine an _ (S1.del a) _ _ q1 (n1.trans n2) s2 ⟨fun i S2 H2 n3 s3 _ hi => ⟨(n3 a _ hn upd_same).2, by rw [← len]; exact hi⟩, fun i S2 H2 n3 s3 _ hi => ⟨(n3 a _ hn upd_same).2, by rw [← len, hi]; exact Nat.le_refl _⟩, fun i S2 H2 x H3 d n3 s3 _ hd hy => ?_⟩
    obtain ⟨T, rr, hrr, rfl, hT, rfl⟩ := hy
    have hd : (prsN kvs)[i]? = some d := hd
    unfold prsN at hd
    rw [List.getElem?_map] at hd
    obtain ⟨t, ht, rfl⟩ := Option.map_eq_some_iff.mp hd
    obtain ⟨rr', hrr', e1, e2, e3⟩ := L2.paired_get r ht
    have e0 : rr = rr' := by rw [hrr] at hrr'; exact Option.some.inj hrr'
    subst e0
    have nn : Nx S1 H1 S2 (upd H2 T (.tup [rr.2.1, rr.2.2])) := (n2.trans n3).trans (nx_new hT)
    exact ⟨nx_new hT, s3.new hT, T, _, rfl, ⟨s3.free hT, upd_same⟩, _, _, rfl, Rel.nx nn _ _ e2, _, _, rfl, Rel.nx nn _ _ e3, rfl⟩⟩
end
end L2.DL

/-! DL107: list(d.values()) of a dict with nested keys -/
namespace L2.DL
open PySem PySem.Spec PyProof.Rows
theorem vals_ofN : ∀ {l : NL V V} {xs : NL Addr Value} {its : List Value}, Nd2 (fun x b => x = V.ref b) RelV l xs → its.length = xs.length → (∀ (j : Nat) u, its[j]? = some u → ∃ x, xs[j]? = some x ∧ u = x.2.2) → Vals (l.map fun p => p.2.2) its
  | [], [], [], _, _, _ => .nil
  | p :: l, q :: xs, u :: its, h, hl, hv => by
    cases h with
    | cons h1 h2 =>
      obtain ⟨k, hx, hu⟩ := hv 0 u rfl
      simp only [List.getElem?_cons_zero, Option.some.injEq] at hx
      subst hx hu
      exact .cons h1.2.2 (vals_ofN (l := l) (xs := xs) (its := its) h2 (by simpa using hl) fun j y hy => by simpa using hv (j + 1) y (by simpa using hy))
  | [], _ :: _, _, h, _, _ => nomatch h
  | _ :: _, [], _, h, _, _ => nomatch h
  | _, [], _ :: _, _, hl, _ => by simp at hl
  | _, _ :: _, [], _, hl, _ => by simp at hl
section
variable {X : Cx}
def tListVN (N : NdF) (td : TE) : TE := fun σ H Q => td σ H fun x H1 => ∃ a l, x = V.ref a ∧ H1 a = some (.ext (N l a)) ∧ l.length ≤ 1000000 ∧ ∀ q, H1 q = none → Q (.ref q) (upd H1 q (.lst (l.map fun p => p.2.2)))
theorem pe_listVN {o : Expr} {p pos apos mpos : Pos} {td : TE} (hc : X.calm = true) (hg : Gl X "list") (hm : X.mg "list" = none) (hd : PE X o td) (hbase : attributeBase o "values" X.env (eval o X.env) = eval o X.env := by rfl) (hline : (apos.endLine == mpos.line) = true := by rfl)
    (na : starEach [Expr.Call (.Attribute o "values" apos) [] [] mpos] X.env = (false, eval (Expr.Call (.Attribute o "values" apos) [] [] mpos) X.env) :: starEach [] X.env := by rfl) :
    PE X (.Call (.Name "list" p) [.Call (.Attribute o "values" apos) [] [] mpos] [] pos) (tListVN (ndP X.prog X.w) td) := by
  refine ⟨fun pins s σ H Q I h => ?_⟩
  refine Call_ (ld_blt I hg hm boot_list (PyProof.Rows.callWith_type1 (args_cons ?_ na) na))
  refine wpAny_Call_method0_late hbase hline (thn (hd.run pins s σ H _ I h) fun v s1 ⟨x, H1, I1, r1, a, l, ex, ha, hl, q⟩ => ?_)
  subst ex
  obtain rfl : v = Value.ref a := r1
  obtain ⟨⟨hz, hs, _, od, es, ep, xs, ho, hx, hdt, he, pr⟩, _⟩ := (show ObjOk X.prog X.w H1 s1.heap a (.ext (ndP X.prog X.w l a)) from I1.hok a _ ha)
  have hm2 : s1.heap.DictRaw a es ep := ⟨od, ho, hx, hdt⟩
  refine ⟨"dict", "dict.values", F.plainAttrs_dict, F.slot_dict_values, F.type_dict_values, hm2.typeIs, fun b e => by cases e; exact ⟨od, ho, hx.2.1⟩, Calls.callWith_builtin rfl (PySem.evalArgs_none ?_)⟩
  refine call_meetsIn F.slot_dict_values hm2.typeIs F.entry_dict_values (F.args_dict_values_1 _) (PySem.meets_dict_values_raw a hs) ⟨⟨es, ep, hm2⟩, ?_⟩
  refine args_nil ?_
  have lx : es.size = xs.length := size_of_entries he
  have ll : l.length = xs.length := Paired.length pr
  have ln : es.size ≤ sizeLine := by omega
  have I2 : Inv X pins σ H1 { s1 with heap := s1.heap.push { cls := .type "dict_values", data := .fields #[.ref a] } } := I1.kept (t' := s1.toks) fun b ob q => Heap.get?_push_of_some _ q
  refine PySem.W.kdl_call (PySem.KdlSrc.rawValues (es := es) (ep := ep)) (I1.ok.hd hc) ⟨⟨_, Heap.get?_push_size _ rfl, rfl, rfl⟩, hm2.at fun ob q => Heap.get?_push_of_some _ q⟩ ln fun h' tk acc c keep hD hacc => ?_
  have va : Vals (l.map fun p => p.2.2) acc.toList := vals_ofN pr (by rw [Array.length_toList, hacc.1, lx]) fun j y hy => by
    obtain ⟨hi, e⟩ := hacc.2 j y (by rw [← Array.getElem?_toList]; exact hy)
    have q := entry_at he j
    rw [Array.getElem?_eq_getElem hi] at q
    obtain ⟨x, hx', ex⟩ := Option.map_eq_some_iff.mp q.symm
    refine ⟨x, hx', ?_⟩
    rw [e, ← ex]
    rfl
  have len2 : (l.map fun p => p.2.2).length ≤ sizeLine := by rw [List.length_map]; omega
  have hp : H1 (s1.heap.push { cls := .type "dict_values", data := .fields #[.ref a] }).objs.size = none := I2.hok.fresh (Nat.le_refl _)
  have I3 : Inv X pins σ (upd H1 (s1.heap.push { cls := .type "dict_values", data := .fields #[.ref a] }).objs.size (.lst (l.map fun p => p.2.2))) { s1 with heap := h', toks := tk } := I2.laid (t' := tk) keep (Nat.le_refl _) ⟨len2, acc.toList, c, va, by rw [Array.toArray_toList]; exact hD⟩
  exact ⟨.ref _, _, I3, rfl, q _ hp⟩
def wListVN (N : NdF) (we : WE) : WE := fun sd S Q => we sd S fun d S1 => ∃ a kvs, d = .obj a ∧ S1 a = some (.nd N kvs) ∧ kvs.length ≤ 1000000 ∧ Q (.lst (kvs.map (·.2.2))) S1
theorem de_listVN {o : Expr} {p pos apos mpos : Pos} {we : WE} (hc : X.calm = true) (hm : X.mg "list" = none) (hd : DE X o we) (hg : Gl X "list" := by rfl) (hbase : attributeBase o "values" X.env (eval o X.env) = eval o X.env := by rfl) (hline : (apos.endLine == mpos.line) = true := by rfl)
    (na : starEach [Expr.Call (.Attribute o "values" apos) [] [] mpos] X.env = (false, eval (Expr.Call (.Attribute o "values" apos) [] [] mpos) X.env) :: starEach [] X.env := by rfl) :
    DE X (.Call (.Name "list" p) [.Call (.Attribute o "values" apos) [] [] mpos] [] pos) (wListVN (ndP X.prog X.w) we) :=
  pe_imp (pe_listVN hc hg hm hd hbase hline na) fun σ H Q ⟨sd, S, Q0, st, q, an⟩ => ⟨sd, S, _, st, q, fun d S1 v H1 ⟨a, kvs, e, hS, hl, q1⟩ n1 s1 r1 => by
    subst e
    have ev : v = .ref a := r1
    obtain ⟨l, hH, m1, m2, m3⟩ := s1 a _ hS
    have r := nd2_of m1 m2 m3
    exact ⟨a, l, ev, hH, by rw [← Paired.length r]; exact hl, fun q hq => an _ _ _ _ q1 (n1.trans (nx_new hq)) (s1.new hq) ⟨q, _, rfl, s1.free hq, upd_same, Rels.nx (nx_new hq) _ _ m3⟩⟩⟩
end
end L2.DL

/-! DL108: name = {k: v for ..} with nested keys; steps -/
namespace L2.DL
open PySem PySem.Spec PyProof.Rows
section
variable {X : Cx}
theorem ps_setDcN {i : Nat} {y : Str} {py : Pos} {kx vx tg iter : Expr} {ifs : List Expr} {scope : Scope} {own : List (Str × Nat)} {pos spos : Pos} {wi : TI} {g : TG} {tt : TT} {tk tv : TE} (hu : X.A.units + 65 < cLine) (hc : X.calm = true) (hN : X.N.Nodup) (hy : X.N[i]? = some y) (hyl : X.env.scope.names.lookup y = some .local)
    (hsw : swapsWith (.DictComp kx vx [⟨tg, iter, ifs, 0⟩] scope pos) (some (.Name y py)) spos.line X.env = pure true) (hi : PI X tg iter wi) (ok : BlkOk X.N X.env.scope scope own)
    (hg : Blk X scope fun Y => PG Y tg g) (ht : Blk X scope fun Y => PTs Y ifs tt) (hk : Blk X scope fun Y => PE Y kx tk) (he : Blk X scope fun Y => PE Y vx tv) (hs : ∀ x, foldedSetIterable iter X.env x = pure x) :
    PS X (.Assign [.Name y py] (.DictComp kx vx [⟨tg, iter, ifs, 0⟩] scope pos) spos) (tAsg (tDcN (ndP X.prog X.w) wi g tt tk tv (own.map (·.2))) (gName i)) := by
  refine ⟨fun pins s σ H D I h => ?_⟩
  rw [exec_Assign_Name_used _ _ _ _ hsw]
  refine wpAny_bind (wpAny_standAt (wpAny_bind ?_))
  show wpAny _ X.A (do let _ ← comprehension (.DictComp kx vx [⟨tg, iter, ifs, 0⟩] scope pos) scope X.env (firstIterPos [⟨tg, iter, ifs, 0⟩] pos) newDict false (eval iter X.env) (some (assign (.Name y py) X.env))) _ _ s
  have h : tDcN (ndP X.prog X.w) wi g tt tk tv (own.map (·.2)) σ H (fun x H1 => gName i x σ H1 D.nx) := h
  refine wpAny_bind (thn (dcN_core (Qf := fun _ s' => SP X pins D .next s') hu hc hN I hi ok hg ht hk he hs h fun L C s' m H' I' q hn f => ?_) fun _ s' hq => wpAny_pure (wpAny_pure hq))
  show wpAny _ _ (assign (.Name y py) X.env (.ref L)) _ _ _
  refine wpAny_assign_Name (store_ok2 (v := V.ref L) I' hN hy (.inl hyl) rfl (fun s2 I2 ⟨a, sb, ha⟩ => ?_) (.inr hyl))
  obtain ⟨f0, f1, f2, f3, f4, f5⟩ := f
  have haC : C ≠ a := by
    rcases ha with z | z
    · rw [z]; exact f1
    · exact fun e => f4 y a z e.symm
  refine ⟨m, hn.sameBut sb haC, fun h3 sb3 => ?_⟩
  exact ⟨_, H', I2.turned (t' := s2.toks) (fun b o hb e => (sb3.2 b hb).trans e) f0 f1 f3 f4 f5, q⟩
theorem ds_setDcN {i : Nat} {y : Str} {py spos : Pos} {kx vx tg iter : Expr} {ifs : List Expr} {scope : Scope} {own : List (Str × Nat)} {pos : Pos} {wi : WI} {nt : NT} {tt : WT} {wk we : WE} (hu : X.A.units + 65 < cLine) (hc : X.calm = true) (hN : X.N.Nodup) (hi : DI X tg iter wi) (ok : BlkOk X.N X.env.scope scope own)
    (hx : ∀ i ∈ nt.ix, i ∈ own.map (·.2)) (hg : Blk X scope fun Y => PG Y tg (gNT X.K nt)) (ht : Blk X scope fun Y => PTs Y ifs (liftT X.K tt)) (hk : Blk X scope fun Y => PE Y kx (lift X.K wk)) (he : Blk X scope fun Y => PE Y vx (lift X.K we))
    (hy : X.N[i]? = some y := by rfl) (hyl : X.env.scope.names.lookup y = some .local := by rfl) (hsw : swapsWith (.DictComp kx vx [⟨tg, iter, ifs, 0⟩] scope pos) (some (.Name y py)) spos.line X.env = pure true := by exact sw_trueD rfl rfl rfl (by decide +kernel)) (hs : ∀ x, foldedSetIterable iter X.env x = pure x := by intro _; rfl) :
    DS X (.Assign [.Name y py] (.DictComp kx vx [⟨tg, iter, ifs, 0⟩] scope pos) spos) (wAsg (wDcN (ndP X.prog X.w) wi nt tt wk we (own.map (·.2))) (gV i)) :=
  ps_imp (ps_setDcN hu hc hN hy hyl hsw hi ok hg ht hk he hs) fun E σ H ⟨sd, S, E0, st, q, an⟩ => by
    show tDcN (ndP X.prog X.w) (liftI X.K wi) (gNT X.K nt) (liftT X.K tt) (lift X.K wk) (lift X.K we) (own.map (·.2)) σ H _
    exact dcN_lift hx st q fun p S' H' q' n' s' => an.nx _ _ _ _ q' n' ((st.nx n' s').set i rfl)
end
section
variable {N0 : NdF} {wi : WI} {nt : NT} {tt : WT} {wo wk we wx : WE} {vs : List Nat} {sd : SD} {S : SO} {Q : KD}
/-- what is asked where the source is known -/
def DcJN (N0 : NdF) (nt : NT) (tt : WT) (wk we : WE) (vs : List Nat) (R : Addr → SO → Prop) (sd : SD) (J : ItD) (S1 : SO) : Prop := ∀ p, S1 p = none → ∃ Pv : Nat → SO → Prop, Pv 0 (S1.set p (.nd N0 [])) ∧ (∀ i S, Pv i S → J.ok S) ∧
  (∀ i d S, J.items[i]? = some d → Pv i S → putNT nt d (wipeD sd vs) fun sd2 => upT tt sd2 S fun b S2 => if b = true then up wk sd2 S2 fun k S3 => up we sd2 S3 fun y S4 => ∃ kvs q, S4 p = some (.nd N0 kvs) ∧ NkOk kvs ∧ NkD q k ∧ kvs.length < 1000000 ∧ Pv (i + 1) (S4.set p (.nd N0 (ndPut kvs q k y))) else Pv (i + 1) S2) ∧
  (∀ S, Pv J.items.length S → R p S)
theorem xDcN (h : wi sd S fun J S1 => DcJN N0 nt tt wk we vs (fun p S' => Q (.obj p) S') sd J S1) : wDcN N0 wi nt tt wk we vs sd S Q := ⟨h⟩
instance st_xDcN {lw : Lv} : Step lw (wDcN N0 wi nt tt wk we vs sd S Q) (wi sd S fun J S1 => DcJN N0 nt tt wk we vs (fun p S' => Q (.obj p) S') sd J S1) := ⟨fun h => xDcN h⟩
theorem xNdNew (h : ∀ p, S p = none → Q (.obj p) (S.set p (.nd N0 []))) : wNdNew N0 sd S Q := h
instance st_xNdNew {lw : Lv} : Step lw (wNdNew N0 sd S Q) (∀ p, S p = none → Q (.obj p) (S.set p (.nd N0 []))) := ⟨fun h => xNdNew h⟩
theorem xNdGet (h : wo sd S fun d S1 => ∃ a kvs0, d = .obj a ∧ S1 a = some (.nd N0 kvs0) ∧ wk sd S1 fun k S2 => wx sd S2 fun x S3 => ∃ kvs q, S3 a = some (.nd N0 kvs) ∧ NkOk kvs ∧ NkD q k ∧ Q ((ndGet kvs q).getD x) S3) : wNdGet N0 wo wk wx sd S Q := h
instance st_xNdGet {lw : Lv} : Step lw (wNdGet N0 wo wk wx sd S Q) (wo sd S fun d S1 => ∃ a kvs0, d = .obj a ∧ S1 a = some (.nd N0 kvs0) ∧ wk sd S1 fun k S2 => wx sd S2 fun x S3 => ∃ kvs q, S3 a = some (.nd N0 kvs) ∧ NkOk kvs ∧ NkD q k ∧ Q ((ndGet kvs q).getD x) S3) := ⟨fun h => xNdGet h⟩
theorem xNdPut {n bk ct : SD → SO → Prop} {r : KD} (h : we sd S fun v S1 => wo sd S1 fun d S2 => wk sd S2 fun k S3 => ∃ a kvs q, d = .obj a ∧ S3 a = some (.nd N0 kvs) ∧ NkOk kvs ∧ NkD q k ∧ kvs.length < 1000000 ∧ n sd (S3.set a (.nd N0 (ndPut kvs q k v)))) : wNdPut N0 wo wk we ⟨n, r, bk, ct⟩ sd S := h
instance st_xNdPut {lw : Lv} {n bk ct : SD → SO → Prop} {r : KD} : Step lw (wNdPut N0 wo wk we ⟨n, r, bk, ct⟩ sd S) (we sd S fun v S1 => wo sd S1 fun d S2 => wk sd S2 fun k S3 => ∃ a kvs q, d = .obj a ∧ S3 a = some (.nd N0 kvs) ∧ NkOk kvs ∧ NkD q k ∧ kvs.length < 1000000 ∧ n sd (S3.set a (.nd N0 (ndPut kvs q k v)))) := ⟨fun h => xNdPut h⟩
theorem xItemsN {R : ItD → SO → Prop} (h : we sd S fun d S1 => ∃ a kvs, d = .obj a ∧ S1 a = some (.nd N0 kvs) ∧ R ⟨prsN kvs, fun _ => True⟩ (S1.del a)) : wItemsN N0 we sd S R := h
instance st_xItemsN {lw : Lv} {R : ItD → SO → Prop} : Step lw (wItemsN N0 we sd S R) (we sd S fun d S1 => ∃ a kvs, d = .obj a ∧ S1 a = some (.nd N0 kvs) ∧ R ⟨prsN kvs, fun _ => True⟩ (S1.del a)) := ⟨fun h => xItemsN h⟩
theorem xListVN (h : we sd S fun d S1 => ∃ a kvs, d = .obj a ∧ S1 a = some (.nd N0 kvs) ∧ kvs.length ≤ 1000000 ∧ Q (.lst (kvs.map (·.2.2))) S1) : wListVN N0 we sd S Q := h
instance st_xListVN {lw : Lv} : Step lw (wListVN N0 we sd S Q) (we sd S fun d S1 => ∃ a kvs, d = .obj a ∧ S1 a = some (.nd N0 kvs) ∧ kvs.length ≤ 1000000 ∧ Q (.lst (kvs.map (·.2.2))) S1) := ⟨fun h => xListVN h⟩
end
end L2.DL

namespace L2.DL
open PySem PySem.Spec PyProof.Rows
abbrev LETTERS : Str := "abcdefghijklmnopqrstuvwxyz"
def nameOk (x : Str) : Bool := decide (0 < x.length) && (decide (x.length < 9) && x.cps.toList.all fun c => decide (c ∈ LETTERS.cps.toList))
def sp_is_name (W : Addr) : DSp := fun ds S Q E => ∃ x : Str, ds = [.str x] ∧ x.length ≤ 1000000 ∧ Q (.bl (nameOk x)) S
def w_is_name (W : Addr) : WS := (wRet (wAndV (wCall (cIsi (.ty "str") (fTy "str" [])) (wCons (wV 0) (wCons (wC (.ty "str")) wNil))) (wAndV (wCh oLt oLt (wC (.int 0)) (wCall cLen (wCons (wV 0) wNil)) (wC (.int 9))) (wCall cAll (wCons (wLcP (wStrI (wV 0)) (.n 1) wYes (wO oIn (wV 1) (wC (.str "abcdefghijklmnopqrstuvwxyz"))) [1]) wNil)))))
theorem pure_is_name (W : Addr) : ∀ ds S Q E, sp_is_name W ds S Q E → w_is_name W (endsOf Q) (startD ["value", "sign"] ds) S := by
  rintro ds S Q E ⟨x, rfl, hx, q⟩
  refine ⟨rfl, _, _, rfl, rfl, isY rfl ⟨hx, trivial, ?_⟩⟩
  refine isC (fun h0 => ⟨trivial, isC (fun h1 => ?_) fun h1 => cl ?_⟩) fun h0 => isN rfl (cl ?_)
  · refine lcP_map (signsD x) (fun d => match d with | .str z => .bl (strIn z LETTERS) | _ => .non) ⟨rfl, rfl⟩ (by rw [signs_len]; exact hx) (fun d hd S' e => ?_) ⟨x.cps.toList.map fun c => decide (c ∈ LETTERS.cps.toList), ?_, cl ?_⟩
    · obtain ⟨c, hc, rfl⟩ := List.mem_map.mp hd
      exact ⟨rfl, rfl⟩
    · show some _ = some _
      unfold signsD
      rw [List.map_map, List.map_map]
      congr 1
      refine List.map_congr_left fun c hc => ?_
      show D.bl (strIn ⟨#[c]⟩ LETTERS) = _
      rw [strIn_one]
      rfl
    · have e : nameOk x = (List.map (fun c => decide (c ∈ LETTERS.cps.toList)) x.cps.toList).all id := by
        have h0' : (0 : Int) < x.length := of_decide_eq_true h0
        have h1' : (x.length : Int) < 9 := of_decide_eq_true h1
        unfold nameOk
        rw [decide_eq_true (by omega), decide_eq_true (by omega), List.all_map]
        rfl
      rw [← e]
      exact q
  · have h1' : ¬ (x.length : Int) < 9 := of_decide_eq_false h1
    have e : nameOk x = false := by
      unfold nameOk
      rw [decide_eq_false (show ¬ x.length < 9 by omega)]
      simp
    rw [e] at q
    exact q
  · have h1' : ¬ (0 : Int) < x.length := of_decide_eq_false h0
    have e : nameOk x = false := by
      unfold nameOk
      rw [decide_eq_false (show ¬ 0 < x.length by omega)]
      simp
    rw [e] at q
    exact q
end L2.DL

namespace L2.DL
open PySem PySem.Spec PyProof.Rows
/-! ### names, places, ties as data -/
abbrev plD (ps : List Str) : List D := ps.map D.str
def prD (t : Str × Str) : D := .tup [.str t.1, .str t.2]
def mkD (ts : List (Str × Str)) : List (D × D) := ts.map fun t => (prD t, .bl true)
def webD (W : Addr) (ps : List Str) (ts : List (Str × Str)) : D := .ins W [("row", .tf (plD ps)), ("pairs", .tf (ts.map prD)), ("marks", .dic true (mkD ts))]
structure WebOk (ps : List Str) (ts : List (Str × Str)) : Prop where
  pos : 0 < ps.length
  few : ps.length ≤ 40
  nm : ∀ p ∈ ps, nameOk p = true
  nd : ps.Nodup
  tfew : ts.length ≤ 200
  tie : ∀ t ∈ ts, t.1 ∈ ps ∧ t.2 ∈ ps ∧ t.1 ≠ t.2
  tnd : ts.Nodup
def isi_Web (W : Addr) : Addr → Option Bool := fun C => if C = W then some true else none
abbrev sOk (x : Str) : Prop := PyData.canLay0 (.str x) = true
theorem sOk_of {x : Str} (h : ∀ c ∈ x.cps.toList, c < 0x110000) : sOk x := by
  show PyData.canLay0 (.str x) = true
  simp only [PyData.canLay0, PyData.strOk]
  rw [Array.all_eq_true_iff_forall_mem]
  intro c hc
  exact decide_eq_true (h c (by simpa using hc))
theorem letters_small : ∀ c ∈ LETTERS.cps.toList, c < 0x110000 := by decide +kernel
theorem name_chars {x : Str} (h : nameOk x = true) : 0 < x.length ∧ x.length < 9 ∧ ∀ c ∈ x.cps.toList, c ∈ LETTERS.cps.toList := by
  unfold nameOk at h
  rw [Bool.and_eq_true, Bool.and_eq_true] at h
  refine ⟨of_decide_eq_true h.1, of_decide_eq_true h.2.1, fun c hc => ?_⟩
  exact of_decide_eq_true (List.all_eq_true.mp h.2.2 c hc)
theorem name_sOk {x : Str} (h : nameOk x = true) : sOk x := sOk_of fun c hc => letters_small c ((name_chars h).2.2 c hc)
theorem name_len {x : Str} (h : nameOk x = true) : x.length ≤ 1000000 := by have := (name_chars h).2.1; omega
theorem pyDs_strs : ∀ xs : List Str, pyDs (plD xs) = some (xs.map PyData.str)
  | [] => rfl
  | x :: xs => by
    show (pyD (.str x)).bind (fun p => (pyDs (plD xs)).map fun ps => p :: ps) = _
    rw [pyDs_strs xs]
    rfl
def prP (t : Str × Str) : PyData := .tuple [.str t.1, .str t.2]
theorem pyDs_prs : ∀ xs : List (Str × Str), pyDs (xs.map prD) = some (xs.map prP)
  | [] => rfl
  | x :: xs => by
    show (pyD (prD x)).bind (fun p => (pyDs (xs.map prD)).map fun ps => p :: ps) = _
    rw [pyDs_prs xs]
    rfl
theorem canLayAll_map {α : Type} {f : α → PyData} : ∀ {xs : List α}, (∀ x ∈ xs, (f x).canLay0 = true) → PyData.canLayAll0 (xs.map f) = true
  | [], _ => by simp [PyData.canLayAll0]
  | x :: xs, h => by
    rw [List.map_cons]
    simp only [PyData.canLayAll0, Bool.and_eq_true]
    exact ⟨h x (List.mem_cons_self ..), canLayAll_map fun y hy => h y (List.mem_cons_of_mem _ hy)⟩
theorem depthAll_map {α : Type} {f : α → PyData} {n : Nat} : ∀ {xs : List α}, (∀ x ∈ xs, (f x).depth ≤ n) → PyData.depthAll (xs.map f) ≤ n
  | [], _ => by simp [PyData.depthAll]
  | x :: xs, h => by
    rw [List.map_cons]
    simp only [PyData.depthAll]
    exact Nat.max_le.mpr ⟨h x (List.mem_cons_self ..), depthAll_map fun y hy => h y (List.mem_cons_of_mem _ hy)⟩
theorem shaped_of {p : PyData} (h : p.canLay0 = true) (hd : p.depth ≤ 64) : SeqAt.shaped p = true := by
  unfold SeqAt.shaped
  rw [h, decide_eq_true hd]
  rfl
theorem shaped_str {x : Str} (h : sOk x) : SeqAt.shaped (.str x) = true := shaped_of h (by simp [PyData.depth])
theorem shaped_list {α : Type} {f : α → PyData} {n : Nat} {xs : List α} (hn : n + 1 ≤ 64) (h : ∀ x ∈ xs, (f x).canLay0 = true) (hd : ∀ x ∈ xs, (f x).depth ≤ n) : SeqAt.shaped (.list (xs.map f)) = true := by
  refine shaped_of ?_ ?_
  · simp only [PyData.canLay0]
    exact canLayAll_map h
  · simp only [PyData.depth]
    have := depthAll_map hd
    omega
theorem prP_lay {t : Str × Str} (h1 : sOk t.1) (h2 : sOk t.2) : (prP t).canLay0 = true := by
  show PyData.canLayAll0 [.str t.1, .str t.2] = true
  simp only [PyData.canLayAll0, Bool.and_eq_true]
  exact ⟨h1, h2, trivial⟩
theorem prP_depth (t : Str × Str) : (prP t).depth ≤ 1 := by simp [prP, PyData.depth, PyData.depthAll]
theorem eqv_str (a b : Str) : PyData.eqv (.str a) (.str b) = decide (a = b) := by
  simp only [PyData.eqv]
  by_cases h : a = b
  · rw [h]
    simp
  · rw [decide_eq_false h]
    simpa using h
theorem memStr {S : SO} {x : Str} {xs : List Str} {k : Bool → Prop} (hx : sOk x) (hxs : ∀ y ∈ xs, sOk y) (h : k (decide (x ∈ xs))) : memD S (.str x) (plD xs) k := by
  refine ⟨.str x, xs.map .str, rfl, pyDs_strs xs, shaped_str hx, shaped_list (n := 0) (by decide) hxs (fun y _ => by simp [PyData.depth]), ?_⟩
  have e : (xs.map PyData.str).any (fun z => PyData.eqv z (.str x)) = decide (x ∈ xs) := by
    rw [List.any_map]
    by_cases hm : x ∈ xs
    · rw [decide_eq_true hm, List.any_eq_true]
      exact ⟨x, hm, by show PyData.eqv (.str x) (.str x) = true; rw [eqv_str]; simp⟩
    · rw [decide_eq_false hm, List.any_eq_false]
      intro y hy
      show ¬ PyData.eqv (.str y) (.str x) = true
      rw [eqv_str]
      simp only [decide_eq_true_eq]
      exact fun e => hm (e ▸ hy)
  rw [e]
  exact h
theorem prD_inj {a b : Str × Str} (h : prD a = prD b) : a = b := by
  obtain ⟨a1, a2⟩ := a
  obtain ⟨b1, b2⟩ := b
  unfold prD at h
  simp at h
  rw [h.1, h.2]
theorem prD_key (t : Str × Str) : keyOk true (prD t) := ⟨_, [.inr t.1, .inr t.2], rfl, rfl⟩
theorem dget_mk {t : Str × Str} : ∀ {ts : List (Str × Str)}, (dget (mkD ts) (prD t)).isSome = decide (t ∈ ts)
  | [] => rfl
  | u :: ts => by
    show (dget ((prD u, .bl true) :: mkD ts) (prD t)).isSome = _
    rw [dget_cons]
    by_cases h : u = t
    · rw [if_pos (by rw [h]), decide_eq_true (by rw [h]; exact List.mem_cons_self ..)]
      rfl
    · rw [if_neg fun e => h (prD_inj e), dget_mk]
      have e : (t ∈ u :: ts) = (t ∈ ts) := by
        rw [List.mem_cons]
        exact propext ⟨fun z => z.elim (fun e => absurd e.symm h) id, .inr⟩
      simp only [e]
theorem nodup_map {α β : Type} {f : α → β} (hf : ∀ a b, f a = f b → a = b) : ∀ {l : List α}, l.Nodup → (l.map f).Nodup
  | [], _ => List.nodup_nil
  | x :: xs, h => by
    have h' := List.nodup_cons.mp h
    rw [List.map_cons, List.nodup_cons]
    refine ⟨fun hm => ?_, nodup_map hf h'.2⟩
    obtain ⟨y, hy, e⟩ := List.mem_map.mp hm
    exact h'.1 (hf _ _ e ▸ hy)
theorem mk_keys (ts : List (Str × Str)) (h : ts.Nodup) : ((mkD ts).map (·.1)).Nodup := by
  unfold mkD
  rw [List.map_map]
  exact nodup_map (fun a b e => prD_inj e) h
theorem dputs_mk {ts : List (Str × Str)} (h : ts.Nodup) : dputsL [] (mkD ts) = mkD ts := by
  have := dputsL_nodup (kvs := mkD ts) (acc := []) (fun p _ => rfl) (mk_keys ts h)
  simpa using this
end L2.DL

namespace L2.DL
open PySem PySem.Spec PyProof.Rows
theorem sIx_hi {n j : Nat} (h : j ≤ n) : HT.sIx n n (some (j : Int)) = j := by
  unfold HT.sIx
  show (if (j : Int) < 0 then _ else _) = _
  rw [if_neg (by omega)]
  omega
theorem sIx_lo0 {n : Nat} : HT.sIx n 0 none = 0 := rfl
theorem cut_pre {xs : List D} {j : Nat} (h : j ≤ xs.length) : cutD xs none (some (j : Int)) = xs.take j := by
  unfold cutD
  rw [sIx_lo0, sIx_hi h]
  simp
/-! ### wrong_place -/
def PlacesOk (ps : List Str) : Prop := ps.length ≤ 40 ∧ (∀ p ∈ ps, nameOk p = true) ∧ ps.Nodup
def sp_wrong_place (W : Addr) : DSp := fun ds S Q E => ∃ ps : List Str, ds = [.tf (plD ps)] ∧ PlacesOk ps ∧ Q .non S
def w_wrong_place (W : Addr) : WS := (wSeq (wFor (wEnum (wCons (wV 0) wNil)) (gT 2 (gC (gV 1) (gC (gV 2) gN))) (wIfS (wOr (wB (wO oEq (wV 1) (wC (.int 40)))) (wOr (wNot (wB (wFn (sp_is_name W) [] (wCons (wV 2) wNil)))) (wB (wO oIn (wV 2) (wSl (wV 0) pNone (pSome (wV 1))))))) (wRet (wV 1)) wNext))
    (wRet (wC .non)))
theorem plD_get {ps : List Str} {i : Nat} {d : D} (h : (plD ps)[i]? = some d) : ∃ x, ps[i]? = some x ∧ d = .str x := by
  rw [List.getElem?_map] at h
  obtain ⟨x, hx, rfl⟩ := Option.map_eq_some_iff.mp h
  exact ⟨x, hx, rfl⟩
theorem nodup_take {α : Type} {xs : List α} {i : Nat} {x : α} (h : xs.Nodup) (hi : xs[i]? = some x) : x ∉ xs.take i := by
  obtain ⟨hl, e⟩ := List.getElem?_eq_some_iff.mp hi
  intro hm
  obtain ⟨j, hj, e2⟩ := List.mem_iff_getElem.mp hm
  rw [List.getElem_take] at e2
  rw [List.length_take] at hj
  have hp := List.pairwise_iff_getElem.mp h j i (by omega) hl (by omega)
  exact hp (e2.trans e.symm)
theorem pure_wrong_place (W : Addr) : ∀ ds S Q E, sp_wrong_place W ds S Q E → w_wrong_place W (endsOf Q) (startD ["values", "index", "value"] ds) S := by
  rintro ds S Q E ⟨ps, rfl, ⟨hf, hn, hd⟩, q⟩
  refine ⟨⟨fun i sd S' => S' = S ∧ ∃ a b, sd = [some (.tf (plD ps)), a, b], ⟨rfl, none, none, rfl⟩, fun _ _ _ _ => trivial, ?_, ?_⟩⟩
  · rintro i d sd S' hi ⟨rfl, a, b, rfl⟩
    obtain ⟨x, hx, rfl⟩ := enumD_get hi
    obtain ⟨n, hn', rfl⟩ := plD_get hx
    have hl := (List.getElem?_eq_some_iff.mp hn').1
    have hm : n ∈ ps := List.mem_of_getElem? hn'
    refine ⟨rfl, rfl, isN (decide_eq_false (by omega)) ⟨n, rfl, name_len (hn n hm), isY (hn n hm) ?_⟩⟩
    refine ⟨fun h => ?_, Or.inl ⟨_, rfl, ?_⟩⟩
    · rw [sIx_hi (by rw [List.length_map]; omega), List.length_map] at h
      omega
    · have hc : cutD (plD ps) none (some (i : Int)) = plD (ps.take i) := by
        rw [cut_pre (by rw [List.length_map]; omega)]
        exact (List.map_take ..).symm
      rw [hc]
      exact memStr (name_sOk (hn n hm)) (fun y hy => name_sOk (hn y (List.mem_of_mem_take hy))) (isN (decide_eq_false (nodup_take hd hn')) ⟨rfl, _, _, rfl⟩)
  · rintro sd S' ⟨rfl, _⟩
    exact cl q
/-! ### is_pair -/
def sp_is_pair (W : Addr) : DSp := fun ds S Q E => ∃ (ps : List Str) (t : Str × Str), ds = [.tf (plD ps), prD t] ∧ (∀ p ∈ ps, sOk p) ∧ t.1 ∈ ps ∧ t.2 ∈ ps ∧ t.1 ≠ t.2 ∧ Q (.bl true) S
def w_is_pair (W : Addr) : WS := (wSeq (wIfS (wOr (wNot (wB (wCall (cIsi (.ty "tuple") (fTy "tuple" [])) (wCons (wV 1) (wCons (wC (.ty "tuple")) wNil))))) (wB (wO oNe (wCall cLen (wCons (wV 1) wNil)) (wC (.int 2))))) (wRet (wC (.bl false))) wNext)
    (wRet (wAndV (wCall cAll (wCons (wLcP (wSeqI (wV 1)) (.n 2) wYes (wAndV (wCall (cIsi (.ty "str") (fTy "str" [])) (wCons (wV 2) (wCons (wC (.ty "str")) wNil))) (wO oIn (wV 2) (wV 0))) [2]) wNil)) (wO oNe (wO oIx (wV 1) (wC (.int 0))) (wO oIx (wV 1) (wC (.int 1)))))))
theorem pure_is_pair (W : Addr) : ∀ ds S Q E, sp_is_pair W ds S Q E → w_is_pair W (endsOf Q) (startD ["places", "value", "place"] ds) S := by
  rintro ds S Q E ⟨ps, ⟨a, b⟩, rfl, hs, ha, hb, hab, q⟩
  refine ⟨rfl, _, _, rfl, rfl, isY rfl ?_⟩
  refine ⟨Or.inl ⟨_, rfl, isN rfl ?_⟩⟩
  refine lcP_map [.str a, .str b] (fun _ => .bl true) ⟨rfl, rfl⟩ (by show 2 ≤ 1000000; decide) (fun d hd S' e => ?_) ⟨[true, true], rfl, isY rfl ?_⟩
  · have hd' : d = .str a ∨ d = .str b := by simpa using hd
    rcases hd' with rfl | rfl
    · exact ⟨rfl, _, _, rfl, rfl, isY rfl (Or.inl ⟨_, rfl, memStr (hs a ha) hs ⟨rfl, by rw [decide_eq_true ha]⟩⟩)⟩
    · exact ⟨rfl, _, _, rfl, rfl, isY rfl (Or.inl ⟨_, rfl, memStr (hs b hb) hs ⟨rfl, by rw [decide_eq_true hb]⟩⟩)⟩
  · refine Or.inl ⟨[.str a, .str b], 0, .str a, rfl, rfl, rfl, Or.inl ⟨[.str a, .str b], 1, .str b, rfl, rfl, rfl, ?_⟩⟩
    have e : (!decide (a = b)) = true := by rw [decide_eq_false hab]; rfl
    show Cl Q (.bl (!decide (a = b))) S
    rw [e]
    exact cl q
end L2.DL

namespace L2.DL
open PySem PySem.Spec PyProof.Rows
/-! ### wrong_tie -/
structure TiesOk (ps : List Str) (ts : List (Str × Str)) : Prop where
  sok : ∀ p ∈ ps, sOk p
  few : ts.length ≤ 200
  tie : ∀ t ∈ ts, t.1 ∈ ps ∧ t.2 ∈ ps ∧ t.1 ≠ t.2
  nd : ts.Nodup
def sp_wrong_tie (W : Addr) : DSp := fun ds S Q E => ∃ (ps : List Str) (ts : List (Str × Str)), ds = [.tf (plD ps), .tf (ts.map prD)] ∧ TiesOk ps ts ∧ Q .non S
def w_wrong_tie (W : Addr) : WS := (wSeq (wAsg (wDnew true) (gV 2))
    (wSeq (wFor (wEnum (wCons (wV 1) wNil)) (gT 2 (gC (gV 3) (gC (gV 4) gN))) (wSeq (wIfS (wOr (wB (wO oEq (wV 3) (wC (.int 200)))) (wOr (wNot (wB (wFn (sp_is_pair W) [] (wCons (wV 0) (wCons (wV 4) wNil))))) (wB (wO oIn (wV 4) (wV 2))))) (wRet (wV 3)) wNext)
    (wAsg (wC (.bl true)) (gSubD (wV 2) (wV 4) sSub))))
    (wRet (wC .non))))
theorem prD_get {ts : List (Str × Str)} {i : Nat} {d : D} (h : (ts.map prD)[i]? = some d) : ∃ x, ts[i]? = some x ∧ d = prD x := by
  rw [List.getElem?_map] at h
  obtain ⟨x, hx, rfl⟩ := Option.map_eq_some_iff.mp h
  exact ⟨x, hx, rfl⟩
theorem mkD_snoc {ts : List (Str × Str)} {i : Nat} {t : Str × Str} (h : ts.Nodup) (hi : ts[i]? = some t) : dput (mkD (ts.take i)) (prD t) (.bl true) = mkD (ts.take (i + 1)) := by
  have hn := dget_mk (t := t) (ts := ts.take i)
  rw [decide_eq_false (nodup_take h hi)] at hn
  have h0 : dget (mkD (ts.take i)) (prD t) = none := by
    cases q : dget (mkD (ts.take i)) (prD t) with
    | none => rfl
    | some d =>
      rw [q] at hn
      cases hn
  rw [dput_new h0, List.take_add_one, hi]
  unfold mkD
  rw [List.map_append]
  rfl
theorem pure_wrong_tie (W : Addr) : ∀ ds S Q E, sp_wrong_tie W ds S Q E → w_wrong_tie W (endsOf Q) (startD ["places", "values", "seen", "index", "value"] ds) S := by
  rintro ds S Q E ⟨ps, ts, rfl, T, q⟩
  intro p hp
  refine ⟨⟨fun i sd S' => S' = S.set p (.dic true (mkD (ts.take i))) ∧ ∃ a b, sd = [some (.tf (plD ps)), some (.tf (ts.map prD)), some (.obj p), a, b], ⟨rfl, none, none, rfl⟩, fun _ _ _ _ => trivial, ?_, ?_⟩⟩
  · rintro i d sd S' hi ⟨rfl, a, b, rfl⟩
    obtain ⟨x, hx, rfl⟩ := enumD_get hi
    obtain ⟨t, ht, rfl⟩ := prD_get hx
    have hl := (List.getElem?_eq_some_iff.mp ht).1
    have hm : t ∈ ts := List.mem_of_getElem? ht
    obtain ⟨t1, t2, t3⟩ := T.tie t hm
    have hf := T.few
    refine ⟨rfl, rfl, isN (decide_eq_false (by omega)) ⟨ps, t, rfl, T.sok, t1, t2, t3, isY rfl (Or.inr ⟨true, mkD (ts.take i), ?_, prD_key t, isN ?_ ?_⟩)⟩⟩
    · show objD (S.set p (.dic true (mkD (ts.take i))) p) = some (true, mkD (ts.take i))
      rw [set_same]
      rfl
    · rw [dget_mk]
      exact decide_eq_false (nodup_take T.nd ht)
    · refine ⟨p, rfl, Or.inr ⟨true, mkD (ts.take i), set_same, prD_key t, ?_, ?_, _, _, rfl⟩⟩
      · unfold mkD
        rw [List.length_map, List.length_take]
        omega
      · rw [set_set, mkD_snoc T.nd ht]
  · rintro sd S' ⟨rfl, _⟩
    exact ⟨.non, S, Rf.dropS .non hp, q⟩
/-! ### check_places, check_ties -/
def sp_check_places (W : Addr) : DSp := fun ds S Q E => ∃ ps : List Str, ds = [.tf (plD ps)] ∧ PlacesOk ps ∧ ps ≠ [] ∧ Q .non S
def w_check_places (W : Addr) : WS := (wSeq (wIfS (wOr (wNot (wB (wCall (cIsi (.ty "tuple") (fTy "tuple" [])) (wCons (wV 0) (wCons (wC (.ty "tuple")) wNil))))) (wB (wO oEq (wV 0) (wTup wNil)))) wNever wNext)
    (wSeq (wAsg (wFn (sp_wrong_place W) [] (wCons (wV 0) wNil)) (gV 1))
    (wIfS (wB (wO oNotN (wV 1) (wC .non))) wNever wNext)))
theorem shaped_tupS {xs : List Str} (h : ∀ x ∈ xs, sOk x) : SeqAt.shaped (.tuple (xs.map PyData.str)) = true := by
  refine shaped_of ?_ ?_
  · simp only [PyData.canLay0]
    exact canLayAll_map h
  · simp only [PyData.depth]
    have := depthAll_map (f := PyData.str) (n := 0) (xs := xs) (fun y _ => by simp [PyData.depth])
    omega
theorem pure_check_places (W : Addr) : ∀ ds S Q E, sp_check_places W ds S Q E → w_check_places W (endsOf Q) (startD ["places", "wrong"] ds) S := by
  rintro ds S Q E ⟨ps, rfl, ok, hne, q⟩
  refine ⟨rfl, _, _, rfl, rfl, isY rfl ⟨by decide, .tuple (ps.map .str), .tuple [], ?_, rfl, shaped_tupS fun x hx => name_sOk (ok.2.1 x hx), by decide +kernel, isN ?_ ⟨ps, rfl, ok, rfl, isN rfl (cl q)⟩⟩⟩
  · show (pyDs (plD ps)).map PyData.tuple = _
    rw [pyDs_strs]
    rfl
  · cases ps with
    | nil => exact absurd rfl hne
    | cons x xs =>
      simp [PyData.eqv, PyData.eqvAll]
def sp_check_ties (W : Addr) : DSp := fun ds S Q E => ∃ (ps : List Str) (ts : List (Str × Str)), ds = [.tf (plD ps), .tf (ts.map prD)] ∧ TiesOk ps ts ∧ Q .non S
def w_check_ties (W : Addr) : WS := (wSeq (wIfS (wNot (wB (wCall (cIsi (.ty "tuple") (fTy "tuple" [])) (wCons (wV 1) (wCons (wC (.ty "tuple")) wNil))))) wNever wNext)
    (wSeq (wAsg (wFn (sp_wrong_tie W) [] (wCons (wV 0) (wCons (wV 1) wNil))) (gV 2))
    (wIfS (wB (wO oNotN (wV 2) (wC .non))) wNever wNext)))
theorem pure_check_ties (W : Addr) : ∀ ds S Q E, sp_check_ties W ds S Q E → w_check_ties W (endsOf Q) (startD ["places", "ties", "wrong"] ds) S := by
  rintro ds S Q E ⟨ps, ts, rfl, ok, q⟩
  exact ⟨rfl, _, _, rfl, rfl, isY rfl ⟨ps, ts, rfl, ok, rfl, isN rfl (cl q)⟩⟩
/-! ### Web.__init__ -/
def fsD (ps : List Str) (ts : List (Str × Str)) : List (Str × D) := [("row", .tf (plD ps)), ("pairs", .tf (ts.map prD)), ("marks", .dic true (mkD ts))]
def sp_Web_init (W : Addr) : DSp := fun ds S Q E => ∃ (p : Addr) (ps : List Str) (ts : List (Str × Str)), ds = [.obj p, .tf (plD ps), .tf (ts.map prD)] ∧ S p = some (.ins W []) ∧ WebOk ps ts ∧ Q .non (S.set p (.ins W (fsD ps ts)))
def w_Web_init (W : Addr) : WS := (wSeq (wDrop (wFn (sp_check_places W) [] (wCons (wV 1) wNil)))
    (wSeq (wDrop (wFn (sp_check_ties W) [] (wCons (wV 1) (wCons (wV 2) wNil))))
    (wSeq (wSetF W "row" (wV 0) (wV 1))
    (wSeq (wSetF W "pairs" (wV 0) (wV 2))
    (wSetF W "marks" (wV 0) (wDcP true (wSeqI (wV 2)) (.n 3) wYes (wV 3) (wC (.bl true)) [3]))))))
theorem WebOk.places {ps : List Str} {ts : List (Str × Str)} (h : WebOk ps ts) : PlacesOk ps := ⟨h.few, h.nm, h.nd⟩
theorem WebOk.ties {ps : List Str} {ts : List (Str × Str)} (h : WebOk ps ts) : TiesOk ps ts := ⟨fun p hp => name_sOk (h.nm p hp), h.tfew, h.tie, h.tnd⟩
theorem WebOk.ne {ps : List Str} {ts : List (Str × Str)} (h : WebOk ps ts) : ps ≠ [] := List.length_pos_iff.mp h.pos
theorem pure_Web_init (W : Addr) : ∀ ds S Q E, sp_Web_init W ds S Q E → w_Web_init W (endsOf Q) (startD ["self", "places", "ties", "tie"] ds) S := by
  rintro ds S Q E ⟨p, ps, ts, rfl, hp, ok, q⟩
  refine ⟨ps, rfl, ok.places, ok.ne, ps, ts, rfl, ok.ties, p, _, rfl, hp, lez rfl, p, _, rfl, set_same, lez rfl, ?_⟩
  refine dcP_of (ts.map prD) (fun d => some (d, .bl true)) ⟨rfl, rfl⟩ (by rw [List.length_map]; have := ok.tfew; omega) (fun d hd S' e => ⟨rfl, upI ⟨rfl, ?_, upI ⟨rfl, rfl⟩⟩⟩) ⟨p, _, rfl, set_same, lez rfl, ?_⟩
  · obtain ⟨t, _, rfl⟩ := List.mem_map.mp hd
    exact prD_key t
  · have e : dputsL [] ((ts.map prD).filterMap fun d => some (d, D.bl true)) = mkD ts := by
      rw [List.filterMap_eq_map', List.map_map]
      exact dputs_mk ok.tnd
    rw [e, set_set, set_set]
    exact cl q
/-! ### has_tie, check_web, check_place -/
def sp_Web_has_tie (W : Addr) : DSp := fun ds S Q E => ∃ (ps : List Str) (ts : List (Str × Str)) (a b : Str), ds = [webD W ps ts, .str a, .str b] ∧ Q (.bl (decide ((a, b) ∈ ts))) S
def w_Web_has_tie (W : Addr) : WS := (wRet (wO oIn (wTup (wCons (wV 1) (wCons (wV 2) wNil))) (wFld W "marks" (wV 0))))
theorem pure_Web_has_tie (W : Addr) : ∀ ds S Q E, sp_Web_has_tie W ds S Q E → w_Web_has_tie W (endsOf Q) (startD ["self", "first", "second"] ds) S := by
  rintro ds S Q E ⟨ps, ts, a, b, rfl, q⟩
  refine ⟨lez rfl, _, _, ⟨rfl, rfl⟩, rfl, Or.inr ⟨true, mkD ts, rfl, prD_key (a, b), ?_⟩⟩
  show Cl Q (.bl (dget (mkD ts) (prD (a, b))).isSome) S
  rw [dget_mk]
  exact cl q
def sp_check_web (W : Addr) : DSp := fun ds S Q E => ∃ (ps : List Str) (ts : List (Str × Str)), ds = [webD W ps ts] ∧ Q .non S
def w_check_web (W : Addr) : WS := (wIfS (wNot (wB (wCall (cIsi (.obj W) (fOwn (isi_Web W))) (wCons (wV 0) (wCons (wC (.obj W)) wNil))))) wNever wNext)
theorem isi_W (W : Addr) : isi_Web W W = some true := if_pos rfl
theorem pure_check_web (W : Addr) : ∀ ds S Q E, sp_check_web W ds S Q E → w_check_web W (endsOf Q) (startD ["web"] ds) S := by
  rintro ds S Q E ⟨ps, ts, rfl, q⟩
  exact ⟨rfl, .inr W, true, rfl, isi_W W, isY rfl (cl q)⟩
end L2.DL

namespace L2.DL
open PySem PySem.Spec PyProof.Rows
/-! ### nexts_of -/
end L2.DL

namespace L2.DL
open PySem PySem.Spec PyProof.Rows
/-! ### what is reached -/
def Succ (nx : List (List Nat)) (i j : Nat) : Prop := ∃ r, nx[i]? = some r ∧ j ∈ r
inductive Reach (nx : List (List Nat)) (b : Nat) : Nat → Prop where
  | refl : Reach nx b b
  | step {i j : Nat} (h : Reach nx b i) (s : Succ nx i j) : Reach nx b j
end L2.DL

namespace L2.DL
open PySem PySem.Spec PyProof.Rows
theorem pyS_lst {S : SO} {d : D} {xs : List D} {ps : List PyData} (h : lstD S d = some xs) (hp : pyDs xs = some ps) : pyS S d = some (.list ps) := by
  cases d with
  | lst ys =>
    cases h
    show (pyDs xs).map PyData.list = _
    rw [hp]
    rfl
  | obj a =>
    have h' : objL (S a) = some xs := h
    show (objL (S a)).bind (fun ds => (pyDs ds).map PyData.list) = _
    rw [h']
    show (pyDs xs).map PyData.list = _
    rw [hp]
    rfl
  | _ => cases h
theorem eqD_lst {S : SO} {d y : D} {xs : List D} {k : Bool → Prop} (h : lstD S d = some xs) (g : eqG d y S k) : eqD d y S k := by
  cases d with
  | lst ys => exact g
  | obj a => exact g
  | _ => cases h
end L2.DL

namespace L2.DL
open PySem PySem.Spec PyProof.Rows
/-! ### leads -/
theorem mem_take_of {α : Type} {ps : List α} {a : α} {i j : Nat} (hi : ps[i]? = some a) (h : i < j) : a ∈ ps.take j := by
  obtain ⟨hl, e⟩ := List.getElem?_eq_some_iff.mp hi
  refine List.mem_iff_getElem.mpr ⟨i, by rw [List.length_take]; omega, ?_⟩
  rw [List.getElem_take]
  exact e
theorem nodup_ix {α : Type} {ps : List α} (nd : ps.Nodup) {a : α} {i j : Nat} (hi : ps[i]? = some a) (hj : ps[j]? = some a) : i = j := by
  rcases Nat.lt_trichotomy i j with h | h | h
  · exact absurd (mem_take_of hi h) (nodup_take nd hj)
  · exact h
  · exact absurd (mem_take_of hj h) (nodup_take nd hi)
end L2.DL

namespace L2.DL
open PySem PySem.Spec PyProof.Rows
/-! ### draws: a list of three numbers -/
abbrev pan3 (a b c : Int) : DO := .lst [.int a, .int b, .int c]
theorem seqX_obj {S : SO} {p : Addr} {xs : List D} (h : S p = some (.lst xs)) : seqX S (.obj p) = some xs := by
  show objL (S p) = some xs
  rw [h]
  rfl
theorem cmulL {i j : Int} (h1 : -(2 ^ 64) < i) (h2 : i < 2 ^ 64) : CMul i j := .inl ⟨h1, h2⟩
theorem cmulR {i j : Int} (h1 : -(2 ^ 64) < j) (h2 : j < 2 ^ 64) : CMul i j := .inr ⟨h1, h2⟩
theorem len_ints {ns : List Int} (h : ns.length ≤ 63) : (ns.map D.int).length ≤ 63 := by rw [List.length_map]; exact h
theorem cut_sub {xs : List D} {lo hi : Option Int} : ∀ d ∈ cutD xs lo hi, d ∈ xs := fun d h => List.mem_of_mem_drop (List.mem_of_mem_take h)
theorem cut_len {xs : List D} {lo hi : Option Int} : (cutD xs lo hi).length ≤ xs.length := by
  unfold cutD
  rw [List.length_take, List.length_drop]
  omega
/-! ### _law_scoop, _law_pick -/
/-- the items of what does not change -/
def fz : D → Option (List D)
  | .lst xs => some xs
  | .tup xs => some xs
  | .tf xs => some xs
  | .src xs => some xs
  | .kt xs => some xs
  | _ => none
end L2.DL

namespace L2.DL
open PySem PySem.Spec PyProof.Rows
/-! ### drawn names -/
def letterAt (n : Nat) : Nat := LETTERS.cps.toList.getD n 0
theorem letters26 : LETTERS.cps.toList.length = 26 := by decide +kernel
theorem letters_nd : LETTERS.cps.toList.Nodup := by decide +kernel
theorem letterAt_get {n : Nat} (h : n < 26) : LETTERS.cps.toList[n]? = some (letterAt n) := by
  unfold letterAt
  rw [List.getD_eq_getElem?_getD, List.getElem?_eq_getElem (by rw [letters26]; exact h)]
  rfl
theorem letterAt_mem {n : Nat} (h : n < 26) : letterAt n ∈ LETTERS.cps.toList := List.mem_of_getElem? (letterAt_get h)
theorem letterAt_inj {i j : Nat} (hi : i < 26) (hj : j < 26) (h : letterAt i = letterAt j) : i = j := nodup_ix letters_nd (letterAt_get hi) (h ▸ letterAt_get hj)
def spot (s l : Int) (k : Nat) : Nat := ((s + l * k) % 26).toNat
theorem spot_lt (s l : Int) (k : Nat) : spot s l k < 26 := by
  unfold spot
  have h0 := Int.emod_nonneg (s + l * k) (show (26 : Int) ≠ 0 by decide)
  have h1 := Int.emod_lt_of_pos (s + l * k) (show (0 : Int) < 26 by decide)
  omega
def StemOk (x : Str) : Prop := x.length ≤ 6 ∧ ∀ c ∈ x.cps.toList, c ∈ LETTERS.cps.toList
def LeapOk (l : Int) : Prop := l = 1 ∨ l = 3 ∨ l = 5 ∨ l = 7 ∨ l = 9 ∨ l = 11
theorem spot_inj {s l : Int} (hl : LeapOk l) {i j : Nat} (hi : i < j + 26) (hj : j < i + 26) (h : spot s l i = spot s l j) : i = j := by
  unfold spot at h
  have a0 := Int.emod_nonneg (s + l * i) (show (26 : Int) ≠ 0 by decide)
  have b0 := Int.emod_nonneg (s + l * j) (show (26 : Int) ≠ 0 by decide)
  have h2 : (s + l * i) % 26 = (s + l * j) % 26 := by omega
  rcases hl with rfl | rfl | rfl | rfl | rfl | rfl <;> omega
structure NamesOk (ts : List Str) : Prop where
  nm : ∀ t ∈ ts, nameOk t = true
  nd : ts.Nodup
end L2.DL

namespace L2.DL
open PySem PySem.Spec PyProof.Rows
/-! ### drawn ties -/
theorem set_comm {S : SO} {a b : Addr} {x y : DO} (h : a ≠ b) : (S.set a x).set b y = (S.set b y).set a x := by
  funext c
  unfold SO.set
  by_cases h1 : c = b
  · rw [if_pos h1, if_neg fun e => h (e.symm.trans h1), if_pos h1]
  · rw [if_neg h1]
    by_cases h2 : c = a
    · rw [if_pos h2, if_pos h2]
    · rw [if_neg h2, if_neg h2, if_neg h1]
theorem sIx_lo {n j : Nat} (h : j ≤ n) : HT.sIx n 0 (some (j : Int)) = j := by
  unfold HT.sIx
  show (if (j : Int) < 0 then _ else _) = _
  rw [if_neg (by omega)]
  omega
theorem cut_suf {xs : List D} {j : Nat} (h : j ≤ xs.length) : cutD xs (some (j : Int)) none = xs.drop j := by
  unfold cutD
  rw [sIx_lo h]
  show (xs.drop j).take (xs.length - j) = _
  rw [List.take_of_length_le]
  rw [List.length_drop]
  exact Nat.le_refl _
/-! ### _law_case, _law_made -/
end L2.DL

namespace L2.DL
open PySem PySem.Spec PyProof.Rows
/-! ### draws of the other family -/
def sp_cup_cup (W : Addr) : DSp := fun ds S Q E => ∃ (ns : List Int) (k : Nat), ds = [.src (ns.map D.int), .int (k : Nat)] ∧ ns.length ≤ 63 ∧ ∀ p a b, S p = none → Q (.obj p) (S.set p (pan3 a b 0))
def w_cup_cup (W : Addr) : WS := (wSeq (wAsg (wIf (wB (wO oLt (wV 1) (wCall cLen (wCons (wV 0) wNil)))) (wCall cInt (wCons (wO oIx (wV 0) (wV 1)) wNil)) (wO oAdd (wO oMul (wC (.int 4903)) (wV 1)) (wC (.int 67)))) (gV 2))
    (wSeq (wAsg (wO oAdd (wC (.int 61001)) (wO oMul (wC (.int 701)) (wV 1))) (gV 3))
    (wSeq (wFor (wSeqI (wO oAdd (wSl (wV 0) pNone (pSome (wC (.int 5)))) (wLst (wCons (wV 2) wNil)))) (gV 4) (wAsg (wO oMod (wCall cInt (wCons (wO oAdd (wO oMul (wV 3) (wC (.int 46021))) (wCall cInt (wCons (wV 4) wNil))) wNil)) (wC (.int 2147483137))) (gV 3)))
    (wRet (wNew (wCons (wIf (wOr (wB (wO oLt (wV 2) (wC (.int 0)))) (wB (wO oGe (wV 2) (wO oPow (wC (.int 10)) (wC (.int 18)))))) (wCall cAbs (wCons (wV 2) wNil)) (wC (.int 0))) (wCons (wV 3) (wCons (wC (.int 0)) wNil))))))))
theorem pure_cup_cup (W : Addr) : ∀ ds S Q E, sp_cup_cup W ds S Q E → w_cup_cup W (endsOf Q) (startD ["_law_script", "_law_k", "_law_cell", "_law_mixed", "_law_each"] ds) S := by
  rintro ds S Q E ⟨ns, k, rfl, hl, q⟩
  have hl' := len_ints hl
  have rest : ∀ cell : Int, wSeq (wAsg (wO oAdd (wC (.int 61001)) (wO oMul (wC (.int 701)) (wV 1))) (gV 3))
    (wSeq (wFor (wSeqI (wO oAdd (wSl (wV 0) pNone (pSome (wC (.int 5)))) (wLst (wCons (wV 2) wNil)))) (gV 4) (wAsg (wO oMod (wCall cInt (wCons (wO oAdd (wO oMul (wV 3) (wC (.int 46021))) (wCall cInt (wCons (wV 4) wNil))) wNil)) (wC (.int 2147483137))) (gV 3)))
    (wRet (wNew (wCons (wIf (wOr (wB (wO oLt (wV 2) (wC (.int 0)))) (wB (wO oGe (wV 2) (wO oPow (wC (.int 10)) (wC (.int 18)))))) (wCall cAbs (wCons (wV 2) wNil)) (wC (.int 0))) (wCons (wV 3) (wCons (wC (.int 0)) wNil)))))) (endsOf Q) [some (.src (ns.map D.int)), some (.int (k : Nat)), some (.int cell), none, none] S := by
    intro cell
    refine ⟨cmulL (by decide) (by decide), ?_⟩
    refine ⟨⟨lez rfl, ?_, ?_⟩⟩
    · have := cut_len (xs := ns.map D.int) (lo := none) (hi := some 5)
      show _ + 1 ≤ 1000000
      omega
    refine ⟨fun i sd S' => S' = S ∧ ∃ m c4, sd = [some (.src (ns.map D.int)), some (.int (k : Nat)), some (.int cell), some (.int m), c4], ⟨rfl, _, none, rfl⟩, fun _ _ _ _ => trivial, ?_, ?_⟩
    · rintro i d sd S' hi ⟨rfl, m, c4, rfl⟩
      have hm : d ∈ cutD (ns.map D.int) none (some 5) ++ [.int cell] := List.mem_of_getElem? hi
      obtain ⟨e, rfl⟩ : ∃ e, d = D.int e := by
        rcases List.mem_append.mp hm with h | h
        · obtain ⟨e, _, he⟩ := List.mem_map.mp (cut_sub d h)
          exact ⟨e, he.symm⟩
        · exact ⟨cell, by simpa using h⟩
      exact ⟨cmulR (by decide) (by decide), (by show (0 : Int) < 2147483137; decide), rfl, _, _, rfl⟩
    · rintro sd S' ⟨rfl, m, c4, rfl⟩
      have fin : ∀ a : Int, wRet (fun sd S Q => ∀ p, S p = none → Q (.obj p) (S.set p (pan3 a m 0))) (endsOf Q) [some (.src (ns.map D.int)), some (.int (k : Nat)), some (.int cell), some (.int m), c4] S' := fun a p hp => cl (q p a m hp)
      refine ⟨trivial, isC (fun h => ⟨lez rfl, fin _⟩) fun h => ?_⟩
      refine ⟨⟨by decide, by decide, by decide⟩, trivial, isC (fun h => ⟨lez rfl, fin _⟩) fun h => ⟨lez rfl, fin _⟩⟩
  refine ⟨Or.inl ⟨_, rfl, ⟨trivial, isC (fun h => ?_) fun h => ⟨cmulL (by decide) (by decide), rest _⟩⟩⟩⟩
  have h' : (k : Int) < (ns.map D.int).length := of_decide_eq_true h
  rw [List.length_map] at h'
  have hk : k < ns.length := by omega
  exact Or.inl ⟨_, (k : Int), .int ns[k], rfl, rfl, atI_nat (by rw [List.getElem?_map, List.getElem?_eq_getElem hk]; rfl), rest _⟩
def sp_cup_sip (W : Addr) : DSp := fun ds S Q E => ∃ (p : Addr) (a b c : Int) (m : Int), ds = [.obj p, .int m] ∧ S p = some (pan3 a b c) ∧ 0 < m ∧ m < 1073741824 ∧ ∀ r a' b' c' : Int, 0 ≤ r → r < m → Q (.int r) (S.set p (pan3 a' b' c'))
def w_cup_sip (W : Addr) : WS := (wSeq (wAsg (wO oAdd (wO oIx (wV 0) (wC (.int 2))) (wC (.int 1))) (gSubD (wV 0) (wC (.int 2)) sSub))
    (wSeq (wAsg (wCall cInt (wCons (wO oIx (wV 0) (wC (.int 1))) wNil)) (gV 2))
    (wSeq (wAsg (wO oMod (wCall cInt (wCons (wO oAdd (wO oAdd (wO oMul (wV 2) (wO oAdd (wO oMod (wCall cInt (wCons (wV 2) wNil)) (wC (.int 15013))) (wC (.int 29009)))) (wO oMul (wC (.int 70019)) (wO oIx (wV 0) (wC (.int 2))))) (wC (.int 31))) wNil)) (wC (.int 2147483137))) (gSubD (wV 0) (wC (.int 1)) sSub))
    (wSeq (wIfS (wB (wO oGt (wO oIx (wV 0) (wC (.int 0))) (wC (.int 0)))) (wSeq (wAsg (wCall cDivmod (wCons (wO oIx (wV 0) (wC (.int 0))) (wCons (wV 1) wNil))) (gT 2 (gC (gSubD (wV 0) (wC (.int 0)) sSub) (gC (gV 3) gN))))
    (wRet (wV 3))) wNext)
    (wRet (wO oMod (wCall cInt (wCons (wO oDiv (wO oIx (wV 0) (wC (.int 1))) (wC (.int 107))) wNil)) (wV 1)))))))
theorem pure_cup_sip (W : Addr) : ∀ ds S Q E, sp_cup_sip W ds S Q E → w_cup_sip W (endsOf Q) (startD ["_law_cup_here", "_law_many", "_law_old", "_law_digit"] ds) S := by
  rintro ds S Q E ⟨p, a, b, c, m, rfl, hp, h0, h1, q⟩
  refine Or.inl ⟨_, 2, .int c, seqX_obj hp, rfl, rfl, p, rfl, Or.inl ⟨_, 2, 2, hp, rfl, rfl, ?_⟩⟩
  refine Or.inl ⟨_, 1, .int b, seqX_obj set_same, rfl, rfl, ?_⟩
  refine ⟨by show (0 : Int) < 15013; decide, cmulR ?_ ?_, ?_⟩
  · have := Int.emod_nonneg b (show (15013 : Int) ≠ 0 by decide)
    show -(2 ^ 64) < b % 15013 + 29009
    omega
  · have := Int.emod_lt_of_pos b (show (0 : Int) < 15013 by decide)
    show b % 15013 + 29009 < 2 ^ 64
    omega
  refine Or.inl ⟨_, 2, .int (c + 1), seqX_obj set_same, rfl, rfl, ?_⟩
  refine ⟨cmulL (by decide) (by decide), by show (0 : Int) < 2147483137; decide, p, rfl, Or.inl ⟨_, 1, 1, set_same, rfl, rfl, ?_⟩⟩
  refine Or.inl ⟨_, 0, .int a, seqX_obj set_same, rfl, rfl, trivial, isC (fun h => ?_) fun h => ?_⟩
  · refine Or.inl ⟨_, 0, .int a, seqX_obj set_same, rfl, rfl, ⟨h0, h1⟩, rfl, p, rfl, Or.inl ⟨_, 0, 0, set_same, rfl, rfl, rfl, ?_⟩⟩
    rw [set_set, set_set]
    exact cl (q (a % m) (a / m) _ (c + 1) (Int.emod_nonneg _ (by omega)) (Int.emod_lt_of_pos _ h0))
  · refine Or.inl ⟨_, 1, _, seqX_obj set_same, rfl, rfl, ⟨by decide, by decide⟩, h0, cl ?_⟩
    rw [set_set]
    exact q _ _ _ _ (Int.emod_nonneg _ (by omega)) (Int.emod_lt_of_pos _ h0)
/-- the items of a list or tuple that the cup at p is not -/
def seqP (S : SO) (p : Addr) : D → Option (List D)
  | .obj q => if q = p then none else objL (S q)
  | d => fz d
theorem seqP_at {S : SO} {p : Addr} {t : D} {xs : List D} {o : DO} (h : seqP S p t = some xs) : seqX S t = some xs ∧ seqX (S.set p o) t = some xs := by
  cases t with
  | obj q =>
    have h' : (if q = p then none else objL (S q)) = some xs := h
    by_cases e : q = p
    · rw [if_pos e] at h'
      cases h'
    · rw [if_neg e] at h'
      refine ⟨h', ?_⟩
      show objL ((S.set p o) q) = _
      rw [set_ne e]
      exact h'
  | non => cases h
  | bl _ => cases h
  | int _ => cases h
  | str _ => cases h
  | ty _ => cases h
  | dic _ _ => cases h
  | ins _ _ => cases h
  | _ => exact ⟨h, h⟩
def sp_cup_of (W : Addr) : DSp := fun ds S Q E => ∃ (p : Addr) (a b c : Int) (t : D) (xs : List D), ds = [.obj p, t] ∧ S p = some (pan3 a b c) ∧ seqP S p t = some xs ∧ xs ≠ [] ∧ xs.length ≤ 1000000 ∧ ∀ x ∈ xs, ∀ a' b' c' : Int, Q x (S.set p (pan3 a' b' c'))
def w_cup_of (W : Addr) : WS := (wRet (wO oIx (wV 1) (wFn (sp_cup_sip W) [] (wCons (wV 0) (wCons (wCall cLen (wCons (wV 1) wNil)) wNil)))))
theorem pure_cup_of (W : Addr) : ∀ ds S Q E, sp_cup_of W ds S Q E → w_cup_of W (endsOf Q) (startD ["_law_cup_here", "_law_things"] ds) S := by
  rintro ds S Q E ⟨p, a, b, c, t, xs, rfl, hp, ht, hne, hl, q⟩
  have hpos := List.length_pos_iff.mpr hne
  refine len_seq (seqP_at (o := pan3 0 0 0) ht).1 ⟨p, a, b, c, _, rfl, hp, by omega, by omega, fun r a' b' c' h0 h1 => ?_⟩
  have hr : r.toNat < xs.length := by omega
  refine Or.inl ⟨xs, r, xs[r.toNat], (seqP_at ht).2, rfl, ?_, cl (q _ (List.getElem_mem hr) _ _ _)⟩
  have e := atI_nat (List.getElem?_eq_getElem hr)
  rwa [Int.toNat_of_nonneg h0] at e
end L2.DL

namespace L2.DL
open PySem PySem.Spec PyProof.Rows
/-! ### _law_folk: names -/
def MENU : List Str := ["a", "b", "c", "d", "places", "x", "abcdefgh", "ab", "ba", "put", "e"]
def menuAt (n : Nat) : Str := MENU.getD n Str.empty
theorem menuAt_get {n : Nat} (h : n < 11) : MENU[n]? = some (menuAt n) := by
  unfold menuAt
  rw [List.getD_eq_getElem?_getD, List.getElem?_eq_getElem (show n < MENU.length from h)]
  rfl
theorem menu_nd : MENU.Nodup := by decide +kernel
theorem menu_ok : ∀ x ∈ MENU, nameOk x = true := by decide +kernel
theorem menuAt_inj {i j : Nat} (hi : i < 11) (hj : j < 11) (h : menuAt i = menuAt j) : i = j := nodup_ix menu_nd (menuAt_get hi) (h ▸ menuAt_get hj)
def spot11 (s l : Int) (k : Nat) : Nat := ((s + l * k) % 11).toNat
theorem spot11_lt (s l : Int) (k : Nat) : spot11 s l k < 11 := by
  unfold spot11
  have h0 := Int.emod_nonneg (s + l * k) (show (11 : Int) ≠ 0 by decide)
  have h1 := Int.emod_lt_of_pos (s + l * k) (show (0 : Int) < 11 by decide)
  omega
theorem spot11_inj {s l : Int} (h1 : 1 ≤ l) (h2 : l ≤ 10) {i j : Nat} (hi : i < 11) (hj : j < 11) (h : spot11 s l i = spot11 s l j) : i = j := by
  unfold spot11 at h
  have a0 := Int.emod_nonneg (s + l * i) (show (11 : Int) ≠ 0 by decide)
  have b0 := Int.emod_nonneg (s + l * j) (show (11 : Int) ≠ 0 by decide)
  have h3 : (s + l * i) % 11 = (s + l * j) % 11 := by omega
  have hl : l = 1 ∨ l = 2 ∨ l = 3 ∨ l = 4 ∨ l = 5 ∨ l = 6 ∨ l = 7 ∨ l = 8 ∨ l = 9 ∨ l = 10 := by omega
  rcases hl with rfl | rfl | rfl | rfl | rfl | rfl | rfl | rfl | rfl | rfl <;> omega
theorem map_nd {f : Nat → Str} {m : Nat} (h : ∀ i j, i < m → j < m → f i = f j → i = j) : ((List.range m).map f).Nodup := by
  refine List.pairwise_iff_getElem.mpr fun i j hi hj hij => ?_
  rw [List.length_map, List.length_range] at hi hj
  rw [List.getElem_map, List.getElem_map, List.getElem_range, List.getElem_range]
  intro e
  have := h i j hi hj e
  omega
def folkA (s l : Int) (m : Nat) : List Str := (List.range m).map fun k => menuAt (spot11 s l k)
theorem folkA_ok {s l : Int} (h1 : 1 ≤ l) (h2 : l ≤ 10) {m : Nat} (hm : m < 12) : NamesOk (folkA s l m) := by
  refine ⟨fun t ht => ?_, map_nd fun i j hi hj e => spot11_inj h1 h2 (by omega) (by omega) (menuAt_inj (spot11_lt ..) (spot11_lt ..) e)⟩
  obtain ⟨k, _, rfl⟩ := List.mem_map.mp ht
  exact menu_ok _ (List.mem_of_getElem? (menuAt_get (spot11_lt ..)))
def headAt (k : Nat) : Str := if k < 26 then "" else "z"
def folkT (s l : Int) (stem : Str) (k : Nat) : Str := stem ++ headAt k ++ ⟨#[letterAt (spot s l k)]⟩
def folkB (s l : Int) (stem : Str) (m : Nat) : List Str := (List.range m).map (folkT s l stem)
theorem folkT_cps (s l : Int) (stem : Str) (k : Nat) : (folkT s l stem k).cps.toList = stem.cps.toList ++ (if k < 26 then [] else [122]) ++ [letterAt (spot s l k)] := by
  unfold folkT headAt
  by_cases h : k < 26
  · rw [if_pos h, if_pos h]
    show ((stem.cps ++ (Str.ofString "").cps) ++ #[_]).toList = _
    have e : (Str.ofString "").cps = #[] := by decide
    rw [e]
    simp
  · rw [if_neg h, if_neg h]
    show ((stem.cps ++ (Str.ofString "z").cps) ++ #[_]).toList = _
    have e : (Str.ofString "z").cps = #[122] := by decide
    rw [e]
    simp
theorem folkT_ok {s l : Int} {stem : Str} {k : Nat} (h : StemOk stem) : nameOk (folkT s l stem k) = true := by
  have e := folkT_cps s l stem k
  have hl := congrArg List.length e
  rw [Array.length_toList, List.length_append, List.length_append, Array.length_toList, List.length_singleton] at hl
  have h1 : stem.cps.size ≤ 6 := h.1
  have h2 : (if k < 26 then [] else [122] : List Nat).length ≤ 1 := by split <;> simp
  have hlen : (folkT s l stem k).length = (folkT s l stem k).cps.size := rfl
  unfold nameOk
  rw [e, Bool.and_eq_true, Bool.and_eq_true]
  refine ⟨decide_eq_true (by omega), decide_eq_true (by omega), List.all_eq_true.mpr fun c hc => decide_eq_true ?_⟩
  rcases List.mem_append.mp hc with hc | hc
  · rcases List.mem_append.mp hc with hc | hc
    · exact h.2 c hc
    · split at hc
      · cases hc
      · rw [List.mem_singleton] at hc
        rw [hc]
        decide +kernel
  · rw [List.mem_singleton] at hc
    rw [hc]
    exact letterAt_mem (spot_lt ..)
theorem folkB_nd {s l : Int} {stem : Str} {m : Nat} (hl : LeapOk l) (hm : m ≤ 52) : (folkB s l stem m).Nodup := by
  refine map_nd fun i j hi hj e => ?_
  have e2 := congrArg (fun x : Str => x.cps.toList) e
  simp only [folkT_cps, List.append_assoc] at e2
  have e3 := List.append_cancel_left e2
  by_cases h1 : i < 26 <;> by_cases h2 : j < 26
  · rw [if_pos h1, if_pos h2] at e3
    exact spot_inj hl (by omega) (by omega) (letterAt_inj (spot_lt ..) (spot_lt ..) (List.cons.inj e3).1)
  · rw [if_pos h1, if_neg h2] at e3
    exact absurd (congrArg List.length e3) (by simp)
  · rw [if_neg h1, if_pos h2] at e3
    exact absurd (congrArg List.length e3) (by simp)
  · rw [if_neg h1, if_neg h2] at e3
    have e4 := letterAt_inj (spot_lt ..) (spot_lt ..) (List.cons.inj (List.cons.inj e3).2).1
    have sh : ∀ k : Nat, 26 ≤ k → spot s l k = spot s l (k - 26) := fun k hk => by
      unfold spot
      have e : s + l * ((k - 26 : Nat) : Int) = (s + l * (k : Int)) + 26 * (-l) := by
        rw [Int.ofNat_sub hk, Int.mul_sub]
        omega
      rw [e, Int.add_mul_emod_self_left]
    rw [sh i (by omega), sh j (by omega)] at e4
    have := spot_inj hl (i := i - 26) (j := j - 26) (by omega) (by omega) e4
    omega
theorem folkB_ok {s l : Int} {stem : Str} {m : Nat} (h : StemOk stem) (hl : LeapOk l) (hm : m ≤ 52) : NamesOk (folkB s l stem m) := ⟨fun t ht => by
  obtain ⟨k, _, rfl⟩ := List.mem_map.mp ht
  exact folkT_ok h, folkB_nd hl hm⟩
/-! ### the stem -/
def signD (c : Nat) : D := .str ⟨#[c]⟩
theorem join_empty : ∀ ys : List Str, (Str.join "" ys).cps.toList = (ys.map fun y => y.cps.toList).flatten
  | [] => rfl
  | [x] => by
    show x.cps.toList = _
    simp
  | x :: y :: r => by
    have e : (Str.ofString "").cps = #[] := by decide
    show ((x.cps ++ (Str.ofString "").cps) ++ (Str.join "" (y :: r)).cps).toList = _
    rw [e, Array.toList_append, Array.toList_append, join_empty (y :: r)]
    simp
theorem join_signs (cs : List Nat) : (Txt.join "" (cs.map fun c => (⟨#[c]⟩ : Str))).cps.toList = cs := by
  show (Builtin.Str.glued _ _).cps.toList = _
  rw [StrLaws.glued_eq_join, join_empty, List.map_map]
  induction cs with
  | nil => rfl
  | cons c cs ih =>
    show [c] ++ _ = _
    rw [ih]
    rfl
theorem stem_of {cs : List Nat} (h1 : cs.length ≤ 6) (h2 : ∀ c ∈ cs, c ∈ LETTERS.cps.toList) : StemOk (Txt.join "" (cs.map fun c => (⟨#[c]⟩ : Str))) := by
  have e := join_signs cs
  refine ⟨?_, fun c hc => h2 c (by rwa [e] at hc)⟩
  have := congrArg List.length e
  rw [Array.length_toList] at this
  show (Txt.join "" (cs.map fun c => (⟨#[c]⟩ : Str))).cps.size ≤ 6
  omega
end L2.DL

namespace L2.DL
open PySem PySem.Spec PyProof.Rows
def w_folk2 (W : Addr) : WS := (wSeq (wAsg (wTup (wCons (wC (.str "abcdefghijklmnopqrstuvwxyz")) (wCons (wO oAdd (wC (.int 1)) (wO oMul (wC (.int 2)) (wFn (sp_cup_sip W) [] (wCons (wV 0) (wCons (wC (.int 6)) wNil))))) wNil))) (gT 2 (gC (gV 5) (gC (gV 4) gN))))
    (wSeq (wAsg (wJoin (wC (.str "")) (wLcF (wRng1 (wCons (wFn (sp_cup_sip W) [] (wCons (wV 0) (wCons (wC (.int 7)) wNil))) wNil)) (.n 8) wYes (wO oIx (wV 5) (wFn (sp_cup_sip W) [] (wCons (wV 0) (wCons (wC (.int 26)) wNil)))) [8])) (gV 6))
    (wSeq (wAsg (wLst (wCons (wC (.str "")) (wCons (wC (.str "z")) wNil))) (gV 7))
    (wRet (wCall cTupleF (wCons (wLcP (wRng1 (wCons (wV 1) wNil)) (.n 8) wYes (wO oAdd (wO oAdd (wV 6) (wO oIx (wV 7) (wO oDiv (wV 8) (wC (.int 26))))) (wO oIx (wV 5) (wO oMod (wCall cInt (wCons (wO oAdd (wV 2) (wO oMul (wV 4) (wV 8))) wNil)) (wC (.int 26))))) [8]) wNil))))))
theorem upYesT {sd : SD} {S : SO} {Q : Bool → SO → Prop} (h : Q true S) : upT wYes sd S Q := ⟨fun b S2 => b = true ∧ S2 = S, ⟨rfl, rfl⟩, fun b S2 ⟨e1, e2⟩ => by rw [e1, e2]; exact h⟩
theorem range_map {f : D → D} {g : Nat → D} {m : Nat} (h : ∀ k, k < m → f (.int (0 + (k : Nat))) = g k) : (rangeD 0 (m : Nat)).map f = (List.range m).map g := by
  unfold rangeD
  rw [List.map_map, show ((m : Int) - 0).toNat = m by omega]
  exact List.map_congr_left fun k hk => h k (List.mem_range.mp hk)
theorem rangeD_mem {m : Nat} {d : D} (h : d ∈ rangeD 0 (m : Nat)) : ∃ k, k < m ∧ d = .int (0 + (k : Nat)) := by
  unfold rangeD at h
  obtain ⟨k, hk, rfl⟩ := List.mem_map.mp h
  have := List.mem_range.mp hk
  exact ⟨k, by omega, rfl⟩
theorem rangeD_length {m : Nat} : (rangeD 0 (m : Nat)).length = m := by rw [rangeD_len]; omega
end L2.DL

namespace L2.DL
open PySem PySem.Spec PyProof.Rows
theorem set_self {S : SO} {a : Addr} {o : DO} (h : S a = some o) : S.set a o = S := by
  funext x
  by_cases e : x = a
  · rw [e, set_same, h]
  · exact set_ne e
def sw (ls : List (Str × Str)) : List (Str × Str) := ls.map fun t => (t.2, t.1)
theorem mem_sw {ls : List (Str × Str)} {x y : Str} : (x, y) ∈ sw ls ↔ (y, x) ∈ ls := by
  unfold sw
  rw [List.mem_map]
  constructor
  · rintro ⟨⟨a, b⟩, h, e⟩
    cases e
    exact h
  · exact fun h => ⟨(y, x), h, rfl⟩
theorem sw_sw {ls : List (Str × Str)} : sw (sw ls) = ls := by
  unfold sw
  rw [List.map_map]
  exact List.map_id _
theorem upYes {sd : SD} {S : SO} {Q : Bool → SO → Prop} (h : Q true S) : upT wYes sd S Q := ⟨fun b S2 => b = true ∧ S2 = S, ⟨rfl, rfl⟩, fun b S2 ⟨e1, e2⟩ => by rw [e1, e2]; exact h⟩
end L2.DL

namespace L2.DL
open PySem PySem.Spec PyProof.Rows
/-! ### equality of rows of texts and of pairs -/
theorem eqvAll_map {α : Type} [DecidableEq α] {f : α → PyData} (h : ∀ a b, PyData.eqv (f a) (f b) = decide (a = b)) : ∀ xs ys : List α, PyData.eqvAll (xs.map f) (ys.map f) = decide (xs = ys)
  | [], [] => by simp [PyData.eqvAll]
  | [], y :: ys => by simp [PyData.eqvAll]
  | x :: xs, [] => by simp [PyData.eqvAll]
  | x :: xs, y :: ys => by
    show PyData.eqvAll (f x :: xs.map f) (f y :: ys.map f) = _
    simp only [PyData.eqvAll]
    rw [h, eqvAll_map h xs ys]
    by_cases h1 : x = y <;> by_cases h2 : xs = ys <;> simp [h1, h2]
theorem eqv_tups {α : Type} [DecidableEq α] {f : α → PyData} (h : ∀ a b, PyData.eqv (f a) (f b) = decide (a = b)) (xs ys : List α) : PyData.eqv (.tuple (xs.map f)) (.tuple (ys.map f)) = decide (xs = ys) := by
  simp only [PyData.eqv]
  exact eqvAll_map h xs ys
theorem shaped_tupP {xs : List (Str × Str)} (h : ∀ x ∈ xs, sOk x.1 ∧ sOk x.2) : SeqAt.shaped (.tuple (xs.map prP)) = true := by
  refine shaped_of ?_ ?_
  · simp only [PyData.canLay0]
    exact canLayAll_map fun x hx => prP_lay (h x hx).1 (h x hx).2
  · simp only [PyData.depth]
    have := depthAll_map (n := 1) (f := prP) (xs := xs) fun x _ => prP_depth x
    omega
theorem WebOk.sok {ps : List Str} {ts : List (Str × Str)} (ok : WebOk ps ts) : ∀ p ∈ ps, sOk p := fun p hp => name_sOk (ok.nm p hp)
theorem WebOk.soks {ps : List Str} {ts : List (Str × Str)} (ok : WebOk ps ts) : ∀ t ∈ ts, sOk t.1 ∧ sOk t.2 := fun t ht => ⟨ok.sok _ (ok.tie t ht).1, ok.sok _ (ok.tie t ht).2.1⟩
theorem WebOk.add {ps : List Str} {ts : List (Str × Str)} (ok : WebOk ps ts) {t : Str × Str} (h1 : t.1 ∈ ps) (h2 : t.2 ∈ ps) (h3 : t.1 ≠ t.2) (h4 : t ∉ ts) (h5 : ts.length < 200) : WebOk ps (ts ++ [t]) := by
  refine ⟨ok.pos, ok.few, ok.nm, ok.nd, by rw [List.length_append, List.length_singleton]; omega, fun u hu => ?_, ?_⟩
  · rcases List.mem_append.mp hu with hu | hu
    · exact ok.tie u hu
    · rw [List.mem_singleton] at hu
      subst hu
      exact ⟨h1, h2, h3⟩
  · rw [List.nodup_append]
    refine ⟨ok.tnd, by simp, fun a ha b hb e => ?_⟩
    rw [List.mem_singleton] at hb
    exact h4 (hb ▸ e ▸ ha)
def woT (ts : List (Str × Str)) (t : Str × Str) : List (Str × Str) := ts.filter fun u => !decide (u = t)
theorem WebOk.wo {ps : List Str} {ts : List (Str × Str)} (ok : WebOk ps ts) (t : Str × Str) : WebOk ps (woT ts t) :=
  ⟨ok.pos, ok.few, ok.nm, ok.nd, Nat.le_trans (List.length_filter_le _ _) ok.tfew, fun u hu => ok.tie u (List.mem_filter.mp hu).1, List.Nodup.sublist List.filter_sublist ok.tnd⟩
theorem WebOk.sw {ps : List Str} {ts : List (Str × Str)} (ok : WebOk ps ts) : WebOk ps (sw ts) := by
  refine ⟨ok.pos, ok.few, ok.nm, ok.nd, by unfold DL.sw; rw [List.length_map]; exact ok.tfew, fun t ht => ?_, nodup_map (fun a b e => ?_) ok.tnd⟩
  · obtain ⟨h1, h2, h3⟩ := ok.tie _ (mem_sw.mp ht)
    exact ⟨h2, h1, fun e => h3 e.symm⟩
  · obtain ⟨a1, a2⟩ := a
    obtain ⟨b1, b2⟩ := b
    cases e
    rfl
/-! ### with_tie, without_tie, turned -/
/-! ### == and != of webs -/
end L2.DL

namespace L2.DL
open PySem PySem.Spec PyProof.Rows
/-! ### _law_ties, _law_net, _law_made -/
structure TieL (ts : List Str) (ls : List (Str × Str)) : Prop where
  tie : ∀ t ∈ ls, t.1 ∈ ts ∧ t.2 ∈ ts ∧ t.1 ≠ t.2
  nd : ls.Nodup
theorem NamesOk.sok {ts : List Str} (N : NamesOk ts) : ∀ t ∈ ts, sOk t := fun t ht => name_sOk (N.nm t ht)
abbrev netD (ts : List Str) (ls : List (Str × Str)) : D := .tup [.tf (plD ts), .tf (ls.map prD)]
def sp_cup_made (W : Addr) : DSp := fun ds S Q E => ∃ (ts : List Str) (ls : List (Str × Str)), ds = [netD ts ls] ∧ WebOk ts ls ∧ Q (webD W ts ls) S
def w_cup_made (W : Addr) : WS := (wRet (wMakeF W (sp_Web_init W) [] (wCons (wO oIx (wV 0) (wC (.int 0))) (wCons (wO oIx (wV 0) (wC (.int 1))) wNil))))
theorem pure_cup_made (W : Addr) : ∀ ds S Q E, sp_cup_made W ds S Q E → w_cup_made W (endsOf Q) (startD ["_law_net_here"] ds) S := by
  rintro ds S Q E ⟨ts, ls, rfl, ok, q⟩
  refine Or.inl ⟨_, 0, .tf (plD ts), rfl, rfl, rfl, Or.inl ⟨_, 1, .tf (ls.map prD), rfl, rfl, rfl, fun p hp => ⟨p, ts, ls, rfl, set_same, ok, rfl, fsD ts ls, set_same, ?_⟩⟩⟩
  rw [set_set, del_set hp]
  exact cl q
end L2.DL

namespace L2.DL
open PySem PySem.Spec PyProof.Rows
/-! ### what repr may show -/
end L2.DL

namespace L2.DL
open PySem PySem.Spec PyProof.Rows
/-! ### k07: turned -/
end L2.DL

namespace L2.DL
open PySem PySem.Spec PyProof.Rows
/-! ### law, as most laws of the family have it -/
def RightSp (right : DSp) : Prop := ∀ (p : Addr) (a b c : Int) (S : SO) (Q : KD), S p = some (pan3 a b c) → (∀ a' b' c', Q (.bl true) (S.set p (pan3 a' b' c'))) → right [.obj p] S Q NoE
end L2.DL

namespace L2.DL
open PySem PySem.Spec PyProof.Rows
end L2.DL

namespace L2.DL
open PySem PySem.Spec PyProof.Rows
/-! ### roads and partings, good ones -/
def sp_Web_len (W : Addr) : DSp := fun ds S Q E => ∃ (ps : List Str) (ts : List (Str × Str)), ds = [webD W ps ts] ∧ ps.length ≤ 1000 ∧ Q (.int (ps.length : Nat)) S
def w_Web_len (W : Addr) : WS := (wRet (wCall cLen (wCons (wFld W "row" (wV 0)) wNil)))
theorem pure_Web_len (W : Addr) : ∀ ds S Q E, sp_Web_len W ds S Q E → w_Web_len W (endsOf Q) (startD ["self"] ds) S := by
  rintro ds S Q E ⟨ps, ts, rfl, hl, q⟩
  refine ⟨_, _, ⟨rfl, rfl⟩, rfl, ⟨Or.inl ⟨_, rfl, cl ?_⟩⟩⟩
  rw [List.length_map]
  exact q
structure RoadOk (ps : List Str) (ts : List (Str × Str)) (r : List Str) : Prop where
  ne : r ≠ []
  nd : r.Nodup
  sub : ∀ x ∈ r, x ∈ ps
  step : ∀ i a b, r[i]? = some a → r[i + 1]? = some b → (a, b) ∈ ts
def TupD (d : D) (xs : List D) : Prop := d = .tf xs ∨ d = .tup xs
theorem TupD.ty {d : D} {xs : List D} (h : TupD d xs) (S : SO) : tyX S d = some (.inl "tuple") := by
  rcases h with rfl | rfl <;> rfl
theorem TupD.seq {d : D} {xs : List D} (h : TupD d xs) (S : SO) : seqX S d = some xs := by
  rcases h with rfl | rfl <;> rfl
theorem RoadOk.len {ps : List Str} {ts : List (Str × Str)} {r : List Str} (h : RoadOk ps ts r) : 1 ≤ r.length ∧ r.length ≤ ps.length := by
  refine ⟨List.length_pos_iff.mpr h.ne, ?_⟩
  have nodup_sub : ∀ {a b : List Str}, a.Nodup → (∀ x ∈ a, x ∈ b) → a.length ≤ b.length := fun {a} => by
    induction a with
    | nil => intro b _ _; exact Nat.zero_le _
    | cons x a ih =>
      intro b h hs
      have h' := List.nodup_cons.mp h
      have h1 := ih (b := b.erase x) h'.2 fun y hy => by
        have hne : y ≠ x := fun e => h'.1 (e ▸ hy)
        exact (List.mem_erase_of_ne hne).mpr (hs y (List.mem_cons_of_mem _ hy))
      have hx := hs x (List.mem_cons_self ..)
      rw [List.length_erase_of_mem hx] at h1
      have := List.length_pos_of_mem hx
      rw [List.length_cons]
      omega
  exact nodup_sub h.nd h.sub
end L2.DL

namespace L2.DL
open PySem PySem.Spec PyProof.Rows
inductive Rows : List D → List (List Str) → Prop
  | nil : Rows [] []
  | cons {d : D} {r : List Str} {ds : List D} {rs : List (List Str)} (h : TupD d (plD r)) (t : Rows ds rs) : Rows (d :: ds) (r :: rs)
theorem Rows.len {ds : List D} {rs : List (List Str)} (h : Rows ds rs) : ds.length = rs.length := by
  induction h with
  | nil => rfl
  | cons _ _ ih => rw [List.length_cons, List.length_cons, ih]
theorem Rows.mem {ds : List D} {rs : List (List Str)} (h : Rows ds rs) : ∀ d ∈ ds, ∃ r ∈ rs, TupD d (plD r) := by
  induction h with
  | nil => intro d h; cases h
  | cons h _ ih =>
    intro d hd
    rcases List.mem_cons.mp hd with rfl | hd
    · exact ⟨_, List.mem_cons_self .., h⟩
    · obtain ⟨r, hr, t⟩ := ih d hd
      exact ⟨r, List.mem_cons_of_mem _ hr, t⟩
theorem TupD.fz {d : D} {xs : List D} (h : TupD d xs) : DL.fz d = some xs := by
  rcases h with rfl | rfl <;> rfl
def unD (d : D) : List D := (fz d).getD []
theorem TupD.un {d : D} {xs : List D} (h : TupD d xs) : unD d = xs := by
  unfold unD
  rw [h.fz]
  rfl
structure PartOk (ps : List Str) (ts : List (Str × Str)) (rs : List (List Str)) : Prop where
  road : ∀ r ∈ rs, RoadOk ps ts r
  nd : rs.flatten.Nodup
  all : rs.flatten.length = ps.length
theorem flat_len {rs : List (List Str)} (h : ∀ r ∈ rs, 1 ≤ r.length) : rs.length ≤ rs.flatten.length := by
  induction rs with
  | nil => exact Nat.le_refl _
  | cons r rs ih =>
    rw [List.flatten_cons, List.length_append, List.length_cons]
    have h1 := h r (List.mem_cons_self ..)
    have h2 := ih fun x hx => h x (List.mem_cons_of_mem _ hx)
    omega
/-! ### singles, lasts -/
def lastS (r : List Str) : Str := r.getLastD Str.empty
end L2.DL

namespace L2.DL
open PySem PySem.Spec PyProof.Rows
theorem last_plD {r : List Str} (h : r ≠ []) : (plD r).getLast? = some (.str (lastS r)) := by
  show (r.map D.str).getLast? = _
  rw [List.getLast?_map]
  unfold lastS
  rw [List.getLastD_eq_getLast?]
  cases e : r.getLast? with
  | none => exact absurd (List.getLast?_eq_none_iff.mp e) h
  | some y => rfl
def lastD (d : D) : D := ((unD d).getLast?).getD .non
theorem lastD_of {d : D} {r : List Str} (T : TupD d (plD r)) (h : r ≠ []) : lastD d = .str (lastS r) := by
  unfold lastD
  rw [T.un, last_plD h]
  rfl
theorem Rows.lasts {ds : List D} {rs : List (List Str)} (h : Rows ds rs) (hn : ∀ r ∈ rs, r ≠ []) : ds.map lastD = plD (rs.map lastS) := by
  induction h with
  | nil => rfl
  | cons h _ ih =>
    rw [List.map_cons, ih fun r hr => hn r (List.mem_cons_of_mem _ hr), lastD_of h (hn _ (List.mem_cons_self ..))]
    rfl
/-! ### _law_walk -/
theorem RoadOk.more {ts : List Str} {ls : List (Str × Str)} {r : List Str} (R : RoadOk ts ls r) {x : Str} (h1 : x ∈ ts) (h2 : (lastS r, x) ∈ ls) (h3 : x ∉ r) : RoadOk ts ls (r ++ [x]) := by
  refine ⟨by simp, ?_, fun y hy => ?_, fun i a b ha hb => ?_⟩
  · rw [List.nodup_append]
    refine ⟨R.nd, by simp, fun a ha b hb e => ?_⟩
    rw [List.mem_singleton] at hb
    exact h3 (hb ▸ e ▸ ha)
  · rcases List.mem_append.mp hy with hy | hy
    · exact R.sub y hy
    · rw [List.mem_singleton] at hy
      exact hy ▸ h1
  · have hil := (List.getElem?_eq_some_iff.mp hb).1
    rw [List.length_append, List.length_singleton] at hil
    rw [List.getElem?_append_left (by omega)] at ha
    by_cases hb2 : i + 1 < r.length
    · rw [List.getElem?_append_left hb2] at hb
      exact R.step i a b ha hb
    · have e : i + 1 = r.length := by omega
      rw [e, List.getElem?_append_right (Nat.le_refl _), Nat.sub_self] at hb
      have eb : x = b := Option.some.inj hb
      have ea : lastS r = a := by
        unfold lastS
        rw [List.getLastD_eq_getLast?, List.getLast?_eq_getElem?, show r.length - 1 = i by omega, ha]
        rfl
      rw [← ea, ← eb]
      exact h2
theorem RoadOk.one {ts : List Str} {ls : List (Str × Str)} {x : Str} (h : x ∈ ts) : RoadOk ts ls [x] := by
  refine ⟨by simp, by simp, fun y hy => by rw [List.mem_singleton] at hy; rw [hy]; exact h, fun i a b h1 h2 => ?_⟩
  have := (List.getElem?_eq_some_iff.mp h2).1
  simp at this
end L2.DL

namespace L2.DL
open PySem PySem.Spec PyProof.Rows
/-! ### _law_rows -/
theorem nodup_le : ∀ {a b : List Str}, a.Nodup → (∀ x ∈ a, x ∈ b) → a.length ≤ b.length
  | [], _, _, _ => Nat.zero_le _
  | x :: a, b, h, hs => by
    have h' := List.nodup_cons.mp h
    have h1 := nodup_le (a := a) (b := b.erase x) h'.2 fun y hy => by
      have hne : y ≠ x := fun e => h'.1 (e ▸ hy)
      exact (List.mem_erase_of_ne hne).mpr (hs y (List.mem_cons_of_mem _ hy))
    have hx := hs x (List.mem_cons_self ..)
    rw [List.length_erase_of_mem hx] at h1
    have := List.length_pos_of_mem hx
    rw [List.length_cons]
    omega
end L2.DL

namespace L2.DL
open PySem PySem.Spec PyProof.Rows
/-! ### rows turned round -/
theorem perm_flat_rev : ∀ rs : List (List Str), List.Perm rs.reverse.flatten rs.flatten
  | [] => .refl _
  | r :: rs => by
    rw [List.reverse_cons, List.flatten_append, List.flatten_singleton, List.flatten_cons]
    exact (List.perm_append_comm).trans (List.Perm.append_left r (perm_flat_rev rs))
theorem perm_flat_map : ∀ rs : List (List Str), List.Perm (rs.map List.reverse).flatten rs.flatten
  | [] => .refl _
  | r :: rs => by
    rw [List.map_cons, List.flatten_cons, List.flatten_cons]
    exact List.Perm.append (List.reverse_perm r) (perm_flat_map rs)
theorem PartOk.rev {ps : List Str} {ts : List (Str × Str)} {rs : List (List Str)} (P : PartOk ps ts rs) : PartOk ps ts rs.reverse :=
  ⟨fun r hr => P.road r (List.mem_reverse.mp hr), (perm_flat_rev rs).nodup_iff.mpr P.nd, (perm_flat_rev rs).length_eq.trans P.all⟩
theorem RoadOk.rev {ps : List Str} {ts : List (Str × Str)} {r : List Str} (R : RoadOk ps ts r) : RoadOk ps (sw ts) r.reverse := by
  refine ⟨fun e => R.ne (List.reverse_eq_nil_iff.mp e), (List.reverse_perm r).nodup_iff.mpr R.nd, fun x hx => R.sub x (List.mem_reverse.mp hx), fun i a b ha hb => ?_⟩
  have h2 := (List.getElem?_eq_some_iff.mp hb).1
  rw [List.length_reverse] at h2
  rw [List.getElem?_reverse (by omega)] at ha
  rw [List.getElem?_reverse h2] at hb
  refine mem_sw.mpr (R.step (r.length - 1 - (i + 1)) b a hb ?_)
  rw [show r.length - 1 - (i + 1) + 1 = r.length - 1 - i by omega]
  exact ha
theorem PartOk.back {ps : List Str} {ts : List (Str × Str)} {rs : List (List Str)} (P : PartOk ps ts rs) : PartOk ps (sw ts) (rs.map List.reverse) := by
  refine ⟨fun r hr => ?_, (perm_flat_map rs).nodup_iff.mpr P.nd, (perm_flat_map rs).length_eq.trans P.all⟩
  obtain ⟨r, h, rfl⟩ := List.mem_map.mp hr
  exact (P.road r h).rev
/-! what repr shows -/
end L2.DL

namespace L2.DL
open PySem PySem.Spec PyProof.Rows
/-! ### steps for webs -/
instance : InjD prD := ⟨fun _ _ h => prD_inj h⟩
section
variable {W : Addr} {ps : List Str} {ts : List (Str × Str)} {S : SO} {Q : KD} {E : EK} {A : Prop} {a b : Str}
theorem fldRow (h : Q (.tf (plD ps)) S) : FldD W "row" (webD W ps ts) S Q := ⟨_, _, ⟨rfl, rfl⟩, rfl, h⟩
instance st_fldRow {lw : Lv} : Step (.s lw) (FldD W "row" (webD W ps ts) S Q) (Q (.tf (plD ps)) S) := ⟨fun h => fldRow h⟩
theorem fldPairs (h : Q (.tf (ts.map prD)) S) : FldD W "pairs" (webD W ps ts) S Q := ⟨_, _, ⟨rfl, rfl⟩, rfl, h⟩
instance st_fldPairs {lw : Lv} : Step (.s lw) (FldD W "pairs" (webD W ps ts) S Q) (Q (.tf (ts.map prD)) S) := ⟨fun h => fldPairs h⟩
theorem fldMarks (h : Q (.dic true (mkD ts)) S) : FldD W "marks" (webD W ps ts) S Q := ⟨_, _, ⟨rfl, rfl⟩, rfl, h⟩
instance st_fldMarks {lw : Lv} : Step (.s lw) (FldD W "marks" (webD W ps ts) S Q) (Q (.dic true (mkD ts)) S) := ⟨fun h => fldMarks h⟩
theorem mthTie {m : Str} (h : A) (hm : (fsD ps ts).lookup m = none := by with_unfolding_all rfl) : MthD W m (webD W ps ts) S A := ⟨⟨_, ⟨rfl, rfl⟩, hm⟩, h⟩
theorem hasTie (h : Q (.bl (decide ((a, b) ∈ ts))) S) : sp_Web_has_tie W [webD W ps ts, .str a, .str b] S Q E := ⟨ps, ts, a, b, rfl, h⟩
instance st_hasTie {lw : Lv} : Step (.s lw) (sp_Web_has_tie W [webD W ps ts, .str a, .str b] S Q E) (Q (.bl (decide ((a, b) ∈ ts))) S) := ⟨fun h => hasTie h⟩
theorem chkWeb (h : Q .non S) : sp_check_web W [webD W ps ts] S Q E := ⟨ps, ts, rfl, h⟩
instance st_chkWeb {lw : Lv} : Step (.s lw) (sp_check_web W [webD W ps ts] S Q E) (Q .non S) := ⟨fun h => chkWeb h⟩
theorem lenWeb (hl : ps.length ≤ 1000) (h : Q (.int (ps.length : Nat)) S) : cLenO W (sp_Web_len W) [webD W ps ts] S Q := ⟨⟨_, rfl, rfl⟩, ps, ts, rfl, hl, ps.length, rfl, by omega, h⟩
end
/-! isinstance -/
section
variable {S : SO} {Q : KD} {xs : List D} {x : Str} {i : Int} {b : Bool}
theorem isiTup (h : Q (.bl true) S) : cIsi (.ty "tuple") (fTy "tuple" []) [.tup xs, .ty "tuple"] S Q := ⟨rfl, _, _, rfl, rfl, h⟩
instance st_isiTup {lw : Lv} : Step (.s lw) (cIsi (.ty "tuple") (fTy "tuple" []) [.tup xs, .ty "tuple"] S Q) (Q (.bl true) S) := ⟨fun h => isiTup h⟩
theorem isiTf (h : Q (.bl true) S) : cIsi (.ty "tuple") (fTy "tuple" []) [.tf xs, .ty "tuple"] S Q := ⟨rfl, _, _, rfl, rfl, h⟩
instance st_isiTf {lw : Lv} : Step (.s lw) (cIsi (.ty "tuple") (fTy "tuple" []) [.tf xs, .ty "tuple"] S Q) (Q (.bl true) S) := ⟨fun h => isiTf h⟩
theorem isiStr (h : Q (.bl true) S) : cIsi (.ty "str") (fTy "str" []) [.str x, .ty "str"] S Q := ⟨rfl, _, _, rfl, rfl, h⟩
instance st_isiStr {lw : Lv} : Step (.s lw) (cIsi (.ty "str") (fTy "str" []) [.str x, .ty "str"] S Q) (Q (.bl true) S) := ⟨fun h => isiStr h⟩
end
/-! in, equal -/
section
variable {S : SO} {Q : KD} {x : Str} {xs : List Str} {a b : Str} {ls : List (Str × Str)}
theorem ninTup (h : Q (.bl (!decide (x ∈ xs))) S) (hx : sOk x) (hxs : ∀ y ∈ xs, sOk y) : oNotIn (.str x) (.tup (plD xs)) S Q := .inl ⟨_, rfl, memStr hx hxs h⟩
end
/-! objects: a cup at p, a list at f -/
section
variable {S : SO} {p f : Addr} {u u' v v' : DO}
theorem so_p (h : p ≠ f) : ((S.set p u).set f v) p = some u := by rw [set_ne h, set_same]
theorem so_pp (h : p ≠ f) : ((S.set p u).set f v).set p u' = (S.set p u').set f v := by rw [set_comm h.symm, set_set]
end
/-! draws -/
section
variable {W : Addr} {S : SO} {Q : KD} {E : EK} {p : Addr} {a b c : Int}
theorem sipN {m : Nat} (hp : S p = some (pan3 a b c)) (h0 : 0 < m) (h1 : m ≤ 1000000) (q : ∀ r : Nat, r < m → ∀ a' b' c' : Int, Q (.int (r : Nat)) (S.set p (pan3 a' b' c'))) : sp_cup_sip W [.obj p, .int (m : Nat)] S Q E :=
  ⟨p, a, b, c, _, rfl, hp, by omega, by omega, fun r a' b' c' h0 h1 => by
    have := q r.toNat (by omega) a' b' c'
    rwa [Int.toNat_of_nonneg h0] at this⟩
theorem ofM {α : Type} {f : α → D} {l : List α} {d : D} (hp : S p = some (pan3 a b c)) (hd : seqP S p d = some (l.map f)) (h0 : l ≠ []) (h1 : l.length ≤ 1000000) (q : ∀ z ∈ l, ∀ a' b' c' : Int, Q (f z) (S.set p (pan3 a' b' c'))) : sp_cup_of W [.obj p, d] S Q E :=
  ⟨p, a, b, c, d, _, rfl, hp, hd, by simpa using h0, by rw [List.length_map]; exact h1, fun x hx a' b' c' => by
    obtain ⟨z, hz, rfl⟩ := List.mem_map.mp hx
    exact q z hz a' b' c'⟩
end
end L2.DL

namespace L2.DL
open PySem PySem.Spec PyProof.Rows
end L2.DL

/-! X0: own exceptions two levels below a built-in one, with super().__init__() and one or two fields: made, as a heap -/
namespace PySem
namespace ErrX
open PySem.W PySem.Calls PyProof.Rows PySem.HandSPX Builtin Builtin.ObjectAttr PySem.Spec
section
variable {prog : Program} {w : World} {A : Around} {E : Value → Shared → Prop} {h : Heap} {g : Array GenState} {d : Drawn} {t : Nat} {os : OsState}
variable {nm q : Str} {C N : Addr} {bs bm bmB : List Value} {hdct : Bool} {sn : List Str} {sub : List Value} {ab : Bool} {col : Option Bool} {dd : Option Addr} {k0 k1 k2 k3 k5 : Option Value} {B newId initId : String}
end
/-! ### the text of __init__ -/
section
variable {prog : Program} {w : World} {A : Around} {E : Value → Shared → Prop} {R : Result → Shared → Prop} {s : Shared} {K : Frag} {mg mb : Str → Option Value} {C fI : Addr} {B newId initId : String} {bmB : List Value} {g : Str}
end
end ErrX
end PySem

/-! X1: the walk of __init__(self, g): super().__init__(); self.g = g -/
namespace PySem
namespace ErrX
open PySem.W PySem.Calls PyProof.Rows PySem.HandSPX Builtin Builtin.ObjectAttr PySem.Spec
section
variable {prog : Program} {w : World} {A : Around} {E : Value → Shared → Prop} {R : Result → Shared → Prop} {s : Shared} {K : Frag} {mg mb : Str → Option Value} {C fI : Addr} {B newId initId : String} {bmB : List Value} {g : Str}
end
end ErrX
end PySem

/-! X2: an own exception of one field: made, raised, held as a value -/
namespace PySem
namespace ErrX
open PySem.W PySem.Calls PyProof.Rows PySem.HandSPX Builtin Builtin.ObjectAttr PySem.Spec
section
variable {prog : Program} {w : World} {A : Around} {E : Value → Shared → Prop} {R : Result → Shared → Prop} {s : Shared} {K : Frag} {mg mb : Str → Option Value} {C fI : Addr} {B newId initId : String} {bmB : List Value} {g : Str}
end
end ErrX
end PySem
namespace L2
open PySem PySem.Spec PyProof.Rows
/-- at a: an exception of the class at C, its own dict d -/
def ErrO (a C : Addr) (d : Option Addr) : HO := .ext fun h => ∃ (oe : Obj) (vs : Array Value), h.get? a = some oe ∧ oe.cls = .ref C ∧ oe.dict = d ∧ oe.data = .fields vs
section
variable {X : Cx} {C fI : Addr} {B newId initId : String} {bmB : List Value} {g n : Str}
end
end L2

/-! X7: what the written part says of an exception class and its __init__, asked at once -/
namespace PySem
namespace ErrX
open PySem.W PySem.Calls PyProof.Rows PySem.HandSPX PySem.Spec
end ErrX
end PySem

/-! X8: own exceptions made with keywords, and with any __init__ -/
namespace PySem
namespace ErrX
open PySem.W PySem.Calls PyProof.Rows PySem.HandSPX Builtin Builtin.ObjectAttr PySem.Spec
section
variable {M : Model} {A : Around} {E : Value → Shared → Prop} {h : Heap} {g : Array GenState} {d : Drawn} {t : Nat} {os : OsState}
variable {nm q : Str} {C N : Addr} {bs bm bmB : List Value} {hdct : Bool} {sn : List Str} {sub : List Value} {ab : Bool} {col : Option Bool} {dd : Option Addr} {k0 k1 k2 k3 k5 : Option Value} {B newId initId : String}
end
section
variable {prog : Program} {w : World} {A : Around} {E : Value → Shared → Prop} {R : Result → Shared → Prop} {h : Heap} {g : Array GenState} {d : Drawn} {t : Nat} {os : OsState}
variable {nm q : Str} {C N : Addr} {bs bm bmB : List Value} {hdct : Bool} {sn : List Str} {sub : List Value} {ab : Bool} {col : Option Bool} {dd : Option Addr} {k0 k1 k2 k3 k5 : Option Value} {B newId initId : String}
end
end ErrX
end PySem

/-! X9: the walk of __init__(self, index, shown) of an own exception -/
namespace PySem
namespace ErrX
open PySem.W PySem.Calls PyProof.Rows PySem.HandSPX Builtin Builtin.ObjectAttr PySem.Spec
section
variable {prog : Program} {w : World} {A : Around} {E : Value → Shared → Prop} {R : Result → Shared → Prop} {s : Shared} {K : Frag} {mg mb : Str → Option Value} {C fI : Addr} {B newId initId : String} {bmB : List Value} {g : Str}
end
end ErrX
end PySem

/-! X3: an exception that was caught is a thing of ours: try .. except (a tuple of classes | one class) as n, the suite's context -/
namespace L2
open PySem PySem.Spec PyProof.Rows
section
variable {X : Cx} {pins : List (Addr × Obj)} {σ : St} {H : Hp} {sI s s' : Shared} {B : Heap} {a C : Addr} {d : Option Addr}
end
end L2

/-! X4: try with any clauses; the caught exception is tracked in the suites -/
namespace L2
open PySem PySem.Spec PyProof.Rows
/-- a clause: the classes, the name's slot, what the suite reads -/
structure HdW where
  cs : List Value
  slot : Option Nat
  ts : Addr → TS
def Ends.gone (D : Ends) (i : Nat) : Ends := { nx := fun σ' H' => D.nx (σ'.set i none) H', rt := D.rt, bk := fun σ' H' => D.bk (σ'.set i none) H', ct := fun σ' H' => D.ct (σ'.set i none) H' }
section
variable {X : Cx} {body : List Stmt} {h₀ : ExceptHandler} {hds : List ExceptHandler} {l : List HdW} {pos : Pos} {tb : WX → TS} {Wout : WX}
end
end L2

/-! X5: the program's exception classes by their names; isinstance of a tracked exception, its fields -/
namespace L2
open PySem PySem.Spec PyProof.Rows PySem.W
def upRight : List Str := ["InvalidText", "InvalidTie", "InvalidParting", "InvalidNumber", "InvalidName", "InvalidWish", "InvalidClaim", "InvalidPlace", "NotAWeb", "InvalidPlaces", "InvalidTies", "InvalidWishes", "InvalidChanges"]
def upThere : List Str := ["UnknownPlace", "UnknownName", "InUse"]
def upCannot : List Str := ["HasRing", "NotMet", "TooMany", "NothingToUndo", "Broken"]
/-- the classes above an exception class of the program, by their names -/
def errUp (n : Str) : List Str := if upRight.contains n then ["NotRight", "ValueError"] else if upThere.contains n then ["NotThere", "LookupError"] else if upCannot.contains n then ["CannotBe", "ArithmeticError"] else []
/-- whether the class n is m or below it -/
def isE (n m : Str) : Bool := n == m || (errUp n).contains m
section
variable {X : Cx} {pins : List (Addr × Obj)} {σ : St} {H : Hp} {s : Shared} {a C : Addr} {d : Option Addr}
end
end L2

/-! X10: own exceptions made as values, by position and by name, with none, one or two fields -/
namespace PySem
namespace ErrX
open PySem.W PySem.Calls PyProof.Rows PySem.HandSPX Builtin Builtin.ObjectAttr PySem.Spec
section
variable {prog : Program} {w : World} {A : Around} {E : Value → Shared → Prop} {R : Result → Shared → Prop} {s : Shared} {K : Frag} {C fI : Addr} {B newId initId : String} {bmB : List Value} {m : Str → Option Value} {rest : List Value} {kw : List (Str × Value)}
variable {mg mb : Str → Option Value}
end
end ErrX
end PySem
namespace L2
open PySem PySem.Spec PyProof.Rows
section
variable {X : Cx} {C fI : Addr} {B newId initId : String} {bmB : List Value} {g n : Str}
section
variable {a b : Expr} {ta : TA} {p pos : Pos} {k : Nat}
end
end
end L2

/-! X6: defs called within a suite that raise nothing; isinstance and fields of a tracked exception, as rules -/
namespace L2
open PySem PySem.Spec PyProof.Rows
section
variable {P : Program} {w : World} {K : PySem.W.Frag} {mg : Str → Option Value} {base : Heap} {k : Nat} {f : Addr} {fd : FuncData} {ps : List Str} {sp : Sp}
end
section
variable {X : Cx} {k : Nat} {f : Addr} {fd : FuncData} {ps : List Str} {sp : Sp} {E : XK} {x : Str} {p pos : Pos} {e : Expr} {es : List Expr} {t : TA}
end
end L2

/-! DL57: isinstance of an exception, its fields, over data -/
namespace L2.DL
open PySem PySem.Spec PyProof.Rows
section
variable {X : Cx} {a : Expr} {wa : WE} {p p2 pos : Pos} {m : Str} {ns : List Str}
end
end L2.DL

/-! DL58: readings with what is raised: expressions and statements that may raise; defs that may raise -/
namespace L2.DL
open PySem PySem.Spec PyProof.Rows
/-- what is wanted of an exception, with the frame's slots then -/
abbrev EX := SD → EK
abbrev WEX := SD → SO → KD → EX → Prop
abbrev WSX := EndsD → EX → SD → SO → Prop
theorem PS.nox {X : Cx} {st : Stmt} {t : TS} (h : PS X.nox st t) : PS X st t := ⟨fun pins s σ H D I hw =>
  wpAny_mono (h.run pins s σ H D (I.wish _) hw) (fun _ _ q => q.unwish) fun _ _ z => False.elim z⟩
def wNE (w : WE) : WEX := fun sd S Q _ => w sd S Q
def wNS (w : WS) : WSX := fun E _ sd S => w E sd S
section
variable {X : Cx} {W : WX} {e : Expr} {st : Stmt} {sts : List Stmt} {w : WE} {ws : WS} {wx : WEX} {wsx wtx : WSX} {pos : Pos}
def wSeqX (a b : WSX) : WSX := fun E X0 sd S => a { E with nx := b E X0 } X0 sd S
def wRetX (we : WEX) : WSX := fun E X0 sd S => we sd S E.rt X0
def wDropX (we : WEX) : WSX := fun E X0 sd S => we sd S (fun _ S1 => E.nx sd S1) X0
def wSetX (we : WEX) (i : Nat) : WSX := fun E X0 sd S => we sd S (fun d S1 => E.nx (sd.set i (some d)) S1) X0
def wIfSX (c : WT) (a b : WSX) : WSX := fun E X0 sd S => c sd S fun k S1 => if k = true then a E X0 sd S1 else b E X0 sd S1
def wIfX (t : WT) (wa wb : WEX) : WEX := fun sd S Q X0 => t sd S fun k S1 => if k = true then wa sd S1 Q X0 else wb sd S1 Q X0
/-- raise n(e) -/
def wRaise (n : Str) (g : Str) (t : WA) : WSX := fun _ X0 sd S => t sd S fun xs S1 => ∃ x, xs = [x] ∧ X0 sd n [(g, x)] S1
end
theorem DA.nox {X : Cx} {es : List Expr} {t : WA} (ha : DA X.nox es t) : DA X es t := ⟨fun q pins s σ H Q I h => wpAny_mono (ha.run q pins s σ H Q (I.wish _) h) (fun _ _ ⟨vs, H', I', r, z⟩ => ⟨vs, H', I'.unwish, r, z⟩) fun _ _ z => False.elim z⟩
/-! ### calls of defs that may raise -/
section
variable {X : Cx} {W : WX} {k : Nat} {f C : Addr} {fd : FuncData} {ps ks : List Str} {sp : Sp} {dvs : List V} {ds : List Value} {x m : Str} {p pos apos : Pos} {e o : Expr} {es : List Expr} {kws : List Keyword} {ta : TE} {t tk : TA}
end
end L2.DL

/-! DL59: calls that may raise, over data; defs that may raise by their bodies; for; try -/
namespace L2.DL
open PySem PySem.Spec PyProof.Rows
section
variable {P : Program} {w : World} {K : PySem.W.Frag} {mg : Str → Option Value} {base : Heap}
end
section
variable {X : Cx} {W : WX} {k : Nat} {f C : Addr} {fd : FuncData} {ps ks : List Str} {dsp : DSp} {dvs : List V} {dds : List D} {ds : List Value} {x m : Str} {p pos apos : Pos} {e o : Expr} {es : List Expr} {kws : List Keyword} {wt wk : WA} {wo : WE}
def wFnX (sp : DSp) (dds : List D) (t : WA) : WEX := fun sd S Q X0 => t sd S fun xs S1 => sp (xs ++ dds) S1 Q (X0 sd)
def wFnKX (sp : DSp) (gD : List D → List D → List D) (tk : WA) : WEX := fun sd S Q X0 => tk sd S fun ys S2 => sp (gD [] ys) S2 Q (X0 sd)
def wMethX (C : Addr) (m : Str) (sp : DSp) (dds : List D) (wo : WE) (t : WA) : WEX := fun sd S Q X0 => wo sd S fun d S1 => (∃ fs, InsD C d S1 fs ∧ fs.lookup m = none) ∧ t sd S1 fun xs S2 => sp (d :: (xs ++ dds)) S2 Q (X0 sd)
end
/-! ### for, its body may raise -/
section
variable {X : Cx} {W : WX} {tg iter : Expr} {body : List Stmt} {wi : WI} {g : WG} {b : WSX} {pos : Pos}
end
/-! ### try -/
/-- a clause: the names of its classes, the name's slot, what its suite reads -/
structure HdD where
  ms : List Str
  slot : Option Nat
  ws : WS
def goneD (E : EndsD) (i : Nat) : EndsD := { nx := fun sd S => E.nx (sd.set i none) S, rt := E.rt, bk := fun sd S => E.bk (sd.set i none) S, ct := fun sd S => E.ct (sd.set i none) S }
/-- an exception of the body meets the clauses -/
def hdsR (ns : List Str) (E : EndsD) (X0 : EX) : List HdD → EX
  | [] => X0
  | h :: r => fun sd n fs S => n ∈ ns ∧ (h.ms.any (isE n) = true → ∀ a, S a = none → match h.slot with
      | none => h.ws E sd (S.set a (.err n fs))
      | some i => h.ws (goneD E i) (sd.set i (some (.obj a))) (S.set a (.err n fs))) ∧ (h.ms.any (isE n) = false → hdsR ns E X0 r sd n fs S)
def wTry (ns : List Str) (wb : WSX) (hs : List HdD) : WSX := fun E X0 sd S => wb E (hdsR ns E X0 hs) sd S
section
variable {X : Cx} {W : WX} {ns : List Str}
end
end L2.DL

/-! DL76: raise C(), C an own exception class without an own __init__ -/
namespace L2.DL
open PySem PySem.Spec PyProof.Rows
section
variable {X : Cx} {W : WX} {C : Addr} {bmB : List Value} {B newId initId : String} {n : Str} {p p2 pos : Pos}
end
/-! ### o.m(k = v) of an own instance -/
section
variable {X : Cx} {W : WX} {k : Nat} {f C : Addr} {fd : FuncData} {ps ks : List Str} {sp : Sp} {dsp : DSp} {m : Str} {pos apos : Pos} {o : Expr} {kws : List Keyword} {ta : TE} {tk : TA} {CX : CXT} {E : XK} {wo : WE} {wk : WA} {g : List Value → List Value → List Value} {gV : List V → List V → List V} {gD : List D → List D → List D}
end
end L2.DL

/-! DL60: a lambda without parameters handed to a def that calls it: the lambda made, called, the def run with the maker's slots behind its own -/
namespace L2.DL
open PySem PySem.Spec PyProof.Rows LamX
section
variable {X : Cx} {pins : List (Addr × Obj)} {σ : L2.St} {H : Hp} {s : Shared} {S : SO}
end
/-! ### the maker's slots behind a def's own -/
section
variable {P : Program} {w : World} {K : PySem.W.Frag} {mg : Str → Option Value} {base : Heap} {N : List Str} {qual : Str} {scope : Scope} {f : Addr} {cd : Value} {A : Around} {outer : List Env} {s s1 : Shared} {H H1 : Hp} {E : XK} {σ : St} {pins : List (Addr × Obj)} {CX : CXT}
end
end L2.DL

/-! DL61: x(lambda: e), x a def that calls what it got -/
namespace L2.DL
open PySem PySem.Spec PyProof.Rows LamX
section
variable {X : Cx} {pins : List (Addr × Obj)} {σ : L2.St} {H : Hp} {s : Shared}
end
section
variable {X : Cx}
end
end L2.DL

/-! DL62: defs that are called in a suite; defs whose code object is told; the law's head with tables of code objects -/
namespace L2.DL
open PySem PySem.Spec PyProof.Rows
section
variable {P : Program} {w : World} {K : PySem.W.Frag} {mg : Str → Option Value} {base : Heap}
end
section
variable {X : Cx} {k : Nat} {f : Addr} {fd : FuncData} {ps : List Str} {dsp : DSp} {x : Str} {p pos : Pos} {e : Expr} {es : List Expr} {wt : WA}
end
/-! ### the law's head with tables -/
end L2.DL

/-! DL63: the program's exceptions told at once; steps of readings with exceptions and lambdas -/
namespace L2.DL
open PySem PySem.Spec PyProof.Rows
def wTry0 (ns : List Str) (wb : WSX) (hs : List HdD) : WS := fun E sd S => wTry ns wb hs E (fun _ _ _ _ => False) sd S
/-! ### steps -/
section
variable {E : EndsD} {X0 : EX} {sd : SD} {S : SO} {Q : KD} {a b : WSX} {we : WEX} {w : WE} {ws : WS} {t : WA} {wt : WT}
theorem xSeqX (h : a { E with nx := b E X0 } X0 sd S) : wSeqX a b E X0 sd S := h
instance st_xSeqX {lw : Lv} : Step (.s (.s (.s (.s lw)))) (wSeqX a b E X0 sd S) (a { E with nx := b E X0 } X0 sd S) := ⟨fun h => xSeqX h⟩
theorem xNS (h : ws E sd S) : wNS ws E X0 sd S := h
instance st_xNS {lw : Lv} : Step (.s (.s (.s (.s lw)))) (wNS ws E X0 sd S) (ws E sd S) := ⟨fun h => xNS h⟩
theorem xNE (h : w sd S Q) : wNE w sd S Q X0 := h
instance st_xNE {lw : Lv} : Step (.s (.s (.s (.s lw)))) (wNE w sd S Q X0) (w sd S Q) := ⟨fun h => xNE h⟩
theorem xRetX (h : we sd S E.rt X0) : wRetX we E X0 sd S := h
instance st_xRetX {lw : Lv} : Step (.s (.s (.s (.s lw)))) (wRetX we E X0 sd S) (we sd S E.rt X0) := ⟨fun h => xRetX h⟩
theorem xDropX (h : we sd S (fun _ S1 => E.nx sd S1) X0) : wDropX we E X0 sd S := h
instance st_xDropX {lw : Lv} : Step (.s (.s (.s (.s lw)))) (wDropX we E X0 sd S) (we sd S (fun _ S1 => E.nx sd S1) X0) := ⟨fun h => xDropX h⟩
theorem xSetX {i : Nat} (h : we sd S (fun d S1 => E.nx (sd.set i (some d)) S1) X0) : wSetX we i E X0 sd S := h
instance st_xSetX {lw : Lv} {i : Nat} : Step (.s (.s (.s (.s lw)))) (wSetX we i E X0 sd S) (we sd S (fun d S1 => E.nx (sd.set i (some d)) S1) X0) := ⟨fun h => xSetX h⟩
theorem xIfSX (h : wt sd S fun k S1 => if k = true then a E X0 sd S1 else b E X0 sd S1) : wIfSX wt a b E X0 sd S := h
instance st_xIfSX {lw : Lv} : Step (.s (.s (.s (.s lw)))) (wIfSX wt a b E X0 sd S) (wt sd S fun k S1 => if k = true then a E X0 sd S1 else b E X0 sd S1) := ⟨fun h => xIfSX h⟩
theorem xIfX {wa wb : WEX} (h : wt sd S fun k S1 => if k = true then wa sd S1 Q X0 else wb sd S1 Q X0) : wIfX wt wa wb sd S Q X0 := h
instance st_xIfX {lw : Lv} {wa wb : WEX} : Step (.s (.s (.s (.s lw)))) (wIfX wt wa wb sd S Q X0) (wt sd S fun k S1 => if k = true then wa sd S1 Q X0 else wb sd S1 Q X0) := ⟨fun h => xIfX h⟩
theorem xRaise {n g : Str} (h : t sd S fun xs S1 => ∃ x, xs = [x] ∧ X0 sd n [(g, x)] S1) : wRaise n g t E X0 sd S := h
instance st_xRaise {lw : Lv} {n g : Str} : Step (.s (.s (.s (.s lw)))) (wRaise n g t E X0 sd S) (t sd S fun xs S1 => ∃ x, xs = [x] ∧ X0 sd n [(g, x)] S1) := ⟨fun h => xRaise h⟩
theorem xFnX {sp : DSp} (h : t sd S fun xs S1 => sp xs S1 Q (X0 sd)) : wFnX sp [] t sd S Q X0 := by
  unfold wFnX
  simpa only [List.append_nil] using h
instance st_xFnX {lw : Lv} {sp : DSp} : Step (.s (.s (.s (.s lw)))) (wFnX sp [] t sd S Q X0) (t sd S fun xs S1 => sp xs S1 Q (X0 sd)) := ⟨fun h => xFnX h⟩
theorem xFnKX {sp : DSp} {gD : List D → List D → List D} (h : t sd S fun ys S2 => sp (gD [] ys) S2 Q (X0 sd)) : wFnKX sp gD t sd S Q X0 := h
instance st_xFnKX {lw : Lv} {sp : DSp} {gD : List D → List D → List D} : Step (.s (.s (.s (.s lw)))) (wFnKX sp gD t sd S Q X0) (t sd S fun ys S2 => sp (gD [] ys) S2 Q (X0 sd)) := ⟨fun h => xFnKX h⟩
theorem xMthX {C : Addr} {m : Str} {sp : DSp} (h : w sd S fun d S1 => MthD C m d S1 (t sd S1 fun xs S2 => sp (d :: xs) S2 Q (X0 sd))) : wMethX C m sp [] w t sd S Q X0 := by
  unfold wMethX
  simp only [List.append_nil]
  exact h
instance st_xMthX {lw : Lv} {C : Addr} {m : Str} {sp : DSp} : Step (.s (.s (.s (.s lw)))) (wMethX C m sp [] w t sd S Q X0) (w sd S fun d S1 => MthD C m d S1 (t sd S1 fun xs S2 => sp (d :: xs) S2 Q (X0 sd))) := ⟨fun h => xMthX h⟩
theorem xTry0 {ns : List Str} {hs : List HdD} (h : a E (hdsR ns E (fun _ _ _ _ => False) hs) sd S) : wTry0 ns a hs E sd S := h
instance st_xTry0 {lw : Lv} {ns : List Str} {hs : List HdD} : Step (.s (.s (.s (.s lw)))) (wTry0 ns a hs E sd S) (a E (hdsR ns E (fun _ _ _ _ => False) hs) sd S) := ⟨fun h => xTry0 h⟩
end
end L2.DL

/-! DL64: list.count(True); repr of a value of any kind; list.index(True) -/
namespace L2.DL
open PySem PySem.Spec PyProof.Rows
section
variable {X : Cx}
end
end L2.DL

/-! DL77: repr of values of any kind, {} among them -/
namespace L2.DL
open PySem PySem.Spec PyProof.Rows
mutual
/-- plain data with dicts that hold nothing -/
def valP : D → Option PyData
  | .non => some .none
  | .bl b => some (.bool b)
  | .int i => some (.int i)
  | .str x => some (.str x)
  | .tup ds => (valPs ds).map .tuple
  | .kt ds => (valPs ds).map .tuple
  | .tf ds => (valPs ds).map .tuple
  | .lst ds => (valPs ds).map .list
  | .dic _ [] => some (.dict [])
  | .dic _ (_ :: _) => none
  | .src _ => none
  | .ty _ => none
  | .fd _ _ => none
  | .gh _ _ => none
  | .fn _ _ _ => none
  | .ins _ _ => none
  | .obj _ => none
def valPs : List D → Option (List PyData)
  | [] => some []
  | d :: ds => (valP d).bind fun p => (valPs ds).map fun ps => p :: ps
end
section
variable {X : Cx} {pins : List (Addr × Obj)} {σ : St} {S : SO} {H : Hp} {s : Shared}
/-- a dict that holds nothing -/
theorem dic0_at (I : Inv X pins σ H s) {t : Bool} {v : V} {u : Value} (r : Rel X.K S H (.dic t []) v) (ru : RelV v u) : ∃ a o n, u = .ref a ∧ s.heap.get? a = some o ∧ o.cls = .type "dict" ∧ o.data = .dict #[] n ∧ (a == sysModules) = false := by
  obtain ⟨a, rfl, _, r⟩ := r
  cases ru
  have fin : ∀ {es : Array DictEntry} {o : Obj} {n : Nat}, s.heap.get? a = some o → o.cls = .type "dict" → o.data = .dict es n → es = #[] → (a == sysModules) = false → ∃ b o n, Value.ref a = .ref b ∧ s.heap.get? b = some o ∧ o.cls = .type "dict" ∧ o.data = .dict #[] n ∧ (b == sysModules) = false := fun {es o n} h1 h2 h3 h4 h5 => by
    subst h4
    exact ⟨a, o, n, rfl, h1, h2, h3, h5⟩
  rcases r with ⟨l, rfl, hl, rl⟩ | ⟨l, rfl, hl, rl⟩
  · have e0 : l = [] := rl
    subst e0
    obtain ⟨_, hsm, vs, kv, o, es, ep, h1, h2, h3, h4, h5, _⟩ := dk_of I.hok hl
    cases kv
    have e1 : es.toList = [] := by
      have z := h5.length
      simpa using z
    exact fin h1 h2.1 h3 (by simpa using e1) hsm
  · have e0 : l = [] := rl
    subst e0
    obtain ⟨_, hsm, xs, kv, o, es, ep, h1, h2, h3, h4, _⟩ := dt_of I.hok hl
    cases kv
    exact fin h1 h2.1 h3 (by simpa using h4) hsm
theorem tup_reprV {prog : Program} {w : World} {h : Heap} {a : Addr} {its : List Value} {ps : List PyData} {as bs : List Addr} (ob : ∃ o, h.get? a = some o ∧ o.cls = .type "tuple" ∧ ∃ n, o.data = .seq its.toArray n) (hr : ReadsAll h its ps as) (hb : ReadAtMost h (PyData.depthAll ps) bs) (hk : ReprAllK prog w bs h (PyData.depthAll ps) its (PyData.shownAll ps)) :
    ∃ bs, ReadAtMost h (PyData.tuple ps).depth bs ∧ ReprK prog w bs h (PyData.tuple ps).depth (.ref a) (PyData.tuple ps).shown := by
  obtain ⟨o, h1, h2, n, h3⟩ := ob
  have rd : Reads h (.ref a) (.tuple ps) as := .tuple h1 h2 h3 hr
  have hna : a ∉ bs := not_mem_of_deeper rd (by simp only [PyData.depth]; omega) hb
  refine ⟨a :: bs, ReadAtMost.cons rd (by simp only [PyData.depth]; omega) hb, ?_⟩
  simp only [PyData.depth, PyData.shown]
  exact ReprK.tuple h1 h2 h3 hna hk
theorem lst_reprV {prog : Program} {w : World} {h : Heap} {a : Addr} {its : List Value} {ps : List PyData} {as bs : List Addr} (ob : PlainL h a its.toArray) (hr : ReadsAll h its ps as) (hb : ReadAtMost h (PyData.depthAll ps) bs) (hk : ReprAllK prog w bs h (PyData.depthAll ps) its (PyData.shownAll ps)) :
    ∃ bs, ReadAtMost h (PyData.list ps).depth bs ∧ ReprK prog w bs h (PyData.list ps).depth (.ref a) (PyData.list ps).shown := by
  obtain ⟨o, n, h1, h2, _, h3⟩ := ob
  have rd : Reads h (.ref a) (.list ps) _ := .list h1 h2 h3 hr
  have hna : a ∉ bs := not_mem_of_deeper rd (by simp only [PyData.depth]; omega) hb
  refine ⟨a :: bs, ReadAtMost.cons rd (by simp only [PyData.depth]; omega) hb, ?_⟩
  simp only [PyData.depth, PyData.shown]
  cases its with
  | nil =>
    cases hr
    simp only [PyData.shownAll, listText_nil]
    exact ReprK.listEmpty h1 h2 h3
  | cons x l => exact ReprK.list h1 h2 h3 hna (by simpa using hk.length_eq) fun i y e => hk.item i y (by simpa using e)
mutual
theorem rel_readsV (I : Inv X pins σ H s) : ∀ (d : D) (v : V) (u : Value) (p : PyData), Rel X.K S H d v → valP d = some p → RelV v u → ∃ as, Reads s.heap u p as
  | .non, _, _, _, r, e, ru => by
    cases e
    cases (show _ = V.non from r)
    cases ru
    exact ⟨_, .none⟩
  | .bl b, _, _, _, r, e, ru => by
    cases e
    cases (show _ = V.bl b from r)
    cases ru
    exact ⟨_, .bool b⟩
  | .int i, _, _, _, r, e, ru => by
    cases e
    cases (show _ = V.int i from r)
    obtain ⟨t, rfl⟩ := ru
    exact ⟨_, .int i t⟩
  | .str x, _, _, _, r, e, ru => by
    cases e
    cases (show _ = V.str x from r)
    obtain ⟨t, rfl⟩ := ru
    exact ⟨_, .str x t⟩
  | .tup ds, _, _, _, r, e, ru => by
    obtain ⟨ps, hp, rfl⟩ := Option.map_eq_some_iff.mp (show (valPs ds).map PyData.tuple = some _ from e)
    obtain ⟨a, vs, rfl, t, r⟩ := r
    cases ru
    obtain ⟨its, rv, ⟨o, ho, hc, n, hd⟩, _⟩ := I.tuple t.sq
    obtain ⟨as, hr⟩ := rels_readsV I ds vs its ps r hp rv
    exact ⟨_, .tuple ho hc hd hr⟩
  | .kt ds, _, _, _, r, e, ru => by
    obtain ⟨ps, hp, rfl⟩ := Option.map_eq_some_iff.mp (show (valPs ds).map PyData.tuple = some _ from e)
    obtain ⟨a, vs, rfl, t, r⟩ := r
    cases ru
    obtain ⟨its, rv, ⟨o, ho, hc, n, hd⟩, _⟩ := I.tuple t.sq
    obtain ⟨as, hr⟩ := rels_readsV I ds vs its ps r hp rv
    exact ⟨_, .tuple ho hc hd hr⟩
  | .tf ds, _, _, _, r, e, ru => by
    obtain ⟨ps, hp, rfl⟩ := Option.map_eq_some_iff.mp (show (valPs ds).map PyData.tuple = some _ from e)
    obtain ⟨a, vs, rfl, t, r⟩ := r
    cases ru
    obtain ⟨its, rv, ⟨o, ho, hc, n, hd⟩, _⟩ := I.tuple t.sq
    obtain ⟨as, hr⟩ := rels_readsV I ds vs its ps r hp rv
    exact ⟨_, .tuple ho hc hd hr⟩
  | .lst ds, _, _, _, r, e, ru => by
    obtain ⟨ps, hp, rfl⟩ := Option.map_eq_some_iff.mp (show (valPs ds).map PyData.list = some _ from e)
    obtain ⟨a, vs, rfl, _, t, r⟩ := r
    cases ru
    obtain ⟨its, rv, ⟨o, n, ho, hc, _, hd⟩, _⟩ := I.list (.of t)
    obtain ⟨as, hr⟩ := rels_readsV I ds vs its ps r hp rv
    exact ⟨_, .list ho hc hd hr⟩
  | .dic t [], _, _, _, r, e, ru => by
    cases e
    obtain ⟨a, o, n, rfl, h1, h2, h3, _⟩ := dic0_at I r ru
    exact ⟨_, .dict (as := []) (bs := []) h1 h2 h3 .nil .nil⟩
  | .dic _ (_ :: _), _, _, _, _, e, _ => by cases e
  | .src _, _, _, _, _, e, _ => by cases e
  | .ty _, _, _, _, _, e, _ => by cases e
  | .fd _ _, _, _, _, _, e, _ => by cases e
  | .gh _ _, _, _, _, _, e, _ => by cases e
  | .fn _ _ _, _, _, _, _, e, _ => by cases e
  | .ins _ _, _, _, _, _, e, _ => by cases e
  | .obj _, _, _, _, _, e, _ => by cases e
theorem rels_readsV (I : Inv X pins σ H s) : ∀ (ds : List D) (vs : List V) (us : List Value) (ps : List PyData), Rels X.K S H ds vs → valPs ds = some ps → Vals vs us → ∃ as, ReadsAll s.heap us ps as
  | [], _, _, _, r, e, ru => by
    cases e
    cases (show _ = [] from r)
    cases ru
    exact ⟨_, .nil⟩
  | d :: ds, _, _, _, r, e, ru => by
    obtain ⟨p, hp, e2⟩ := Option.bind_eq_some_iff.mp (show (valP d).bind (fun p => (valPs ds).map fun ps => p :: ps) = some _ from e)
    obtain ⟨qs, hq, rfl⟩ := Option.map_eq_some_iff.mp e2
    obtain ⟨v, vs, rfl, r1, r2⟩ := r
    cases ru with
    | cons rv rr =>
      obtain ⟨as, q1⟩ := rel_readsV I d v _ p r1 hp rv
      obtain ⟨bs, q2⟩ := rels_readsV I ds vs _ qs r2 hq rr
      exact ⟨_, .cons q1 q2⟩
end
mutual
/-- the shown texts, each within another's repr -/
theorem rel_reprV (I : Inv X pins σ H s) : ∀ (d : D) (v : V) (u : Value) (p : PyData), Rel X.K S H d v → valP d = some p → RelV v u → p.showable = true → p.shown.length ≤ sizeLine → ∃ bs, ReadAtMost s.heap p.depth bs ∧ ReprK X.prog X.w bs s.heap p.depth u p.shown
  | .non, _, _, _, r, e, ru, _, _ => by
    cases e
    cases (show _ = V.non from r)
    cases ru
    exact ⟨[], (fun _ h => nomatch h), by simp only [PyData.shown]; exact .of_is ReprIs.none _ _ _⟩
  | .bl b, _, _, _, r, e, ru, _, _ => by
    cases e
    cases (show _ = V.bl b from r)
    cases ru
    exact ⟨[], (fun _ h => nomatch h), by simp only [PyData.shown]; exact .of_is (ReprIs.bool b) _ _ _⟩
  | .int i, _, _, _, r, e, ru, hs, _ => by
    cases e
    cases (show _ = V.int i from r)
    obtain ⟨t, rfl⟩ := ru
    exact ⟨[], (fun _ h => nomatch h), by simp only [PyData.shown]; exact .of_is (ReprIs.int t (by simpa [PyData.showable] using hs)) _ _ _⟩
  | .str x, _, _, _, r, e, ru, _, hz => by
    cases e
    cases (show _ = V.str x from r)
    obtain ⟨t, rfl⟩ := ru
    exact ⟨[], (fun _ h => nomatch h), by simp only [PyData.shown]; exact .of_is (ReprIs.str x t (by simpa only [PyData.shown] using hz)) _ _ _⟩
  | .tup ds, _, _, _, r, e, ru, hs, hz => by
    obtain ⟨ps, hp, rfl⟩ := Option.map_eq_some_iff.mp (show (valPs ds).map PyData.tuple = some _ from e)
    obtain ⟨a, vs, rfl, t, r⟩ := r
    cases ru
    obtain ⟨its, rv, ob, _⟩ := I.tuple t.sq
    obtain ⟨as, hr⟩ := rels_readsV I ds vs its ps r hp rv
    obtain ⟨bs, hb, hk⟩ := rels_reprV I ds vs its ps r hp rv (by simpa [PyData.showable] using hs) fun t ht => Nat.le_trans (tupleText_mem_le ht) (by simpa only [PyData.shown] using hz)
    exact tup_reprV ob hr hb hk
  | .kt ds, _, _, _, r, e, ru, hs, hz => by
    obtain ⟨ps, hp, rfl⟩ := Option.map_eq_some_iff.mp (show (valPs ds).map PyData.tuple = some _ from e)
    obtain ⟨a, vs, rfl, t, r⟩ := r
    cases ru
    obtain ⟨its, rv, ob, _⟩ := I.tuple t.sq
    obtain ⟨as, hr⟩ := rels_readsV I ds vs its ps r hp rv
    obtain ⟨bs, hb, hk⟩ := rels_reprV I ds vs its ps r hp rv (by simpa [PyData.showable] using hs) fun t ht => Nat.le_trans (tupleText_mem_le ht) (by simpa only [PyData.shown] using hz)
    exact tup_reprV ob hr hb hk
  | .tf ds, _, _, _, r, e, ru, hs, hz => by
    obtain ⟨ps, hp, rfl⟩ := Option.map_eq_some_iff.mp (show (valPs ds).map PyData.tuple = some _ from e)
    obtain ⟨a, vs, rfl, t, r⟩ := r
    cases ru
    obtain ⟨its, rv, ob, _⟩ := I.tuple t.sq
    obtain ⟨as, hr⟩ := rels_readsV I ds vs its ps r hp rv
    obtain ⟨bs, hb, hk⟩ := rels_reprV I ds vs its ps r hp rv (by simpa [PyData.showable] using hs) fun t ht => Nat.le_trans (tupleText_mem_le ht) (by simpa only [PyData.shown] using hz)
    exact tup_reprV ob hr hb hk
  | .lst ds, _, _, _, r, e, ru, hs, hz => by
    obtain ⟨ps, hp, rfl⟩ := Option.map_eq_some_iff.mp (show (valPs ds).map PyData.list = some _ from e)
    obtain ⟨a, vs, rfl, _, t, r⟩ := r
    cases ru
    obtain ⟨its, rv, ob, _⟩ := I.list (.of t)
    obtain ⟨as, hr⟩ := rels_readsV I ds vs its ps r hp rv
    obtain ⟨bs, hb, hk⟩ := rels_reprV I ds vs its ps r hp rv (by simpa [PyData.showable] using hs) fun t ht => Nat.le_trans (listText_mem_le ht) (by simpa only [PyData.shown] using hz)
    exact lst_reprV ob hr hb hk
  | .dic t [], _, _, _, r, e, ru, _, _ => by
    cases e
    obtain ⟨a, o, n, rfl, h1, h2, h3, h4⟩ := dic0_at I r ru
    have rd : Reads s.heap (.ref a) (.dict []) _ := .dict (as := []) (bs := []) h1 h2 h3 .nil .nil
    refine ⟨[a], ReadAtMost.cons rd (n := 0) (Nat.zero_le _) (fun _ h => nomatch h), ?_⟩
    exact ReprK.level_le (d := 1) (ReprK.dict (d := 0) (ps := []) h1 h2 h3 h4 (by simp) .nil) (by simp [PyData.depth])
  | .dic _ (_ :: _), _, _, _, _, e, _, _, _ => by cases e
  | .src _, _, _, _, _, e, _, _, _ => by cases e
  | .ty _, _, _, _, _, e, _, _, _ => by cases e
  | .fd _ _, _, _, _, _, e, _, _, _ => by cases e
  | .gh _ _, _, _, _, _, e, _, _, _ => by cases e
  | .fn _ _ _, _, _, _, _, e, _, _, _ => by cases e
  | .ins _ _, _, _, _, _, e, _, _, _ => by cases e
  | .obj _, _, _, _, _, e, _, _, _ => by cases e
theorem rels_reprV (I : Inv X pins σ H s) : ∀ (ds : List D) (vs : List V) (us : List Value) (ps : List PyData), Rels X.K S H ds vs → valPs ds = some ps → Vals vs us → PyData.showableAll ps = true → (∀ t ∈ PyData.shownAll ps, t.length ≤ sizeLine) →
    ∃ bs, ReadAtMost s.heap (PyData.depthAll ps) bs ∧ ReprAllK X.prog X.w bs s.heap (PyData.depthAll ps) us (PyData.shownAll ps)
  | [], _, _, _, r, e, ru, _, _ => by
    cases e
    cases (show _ = [] from r)
    cases ru
    exact ⟨[], (fun _ h => nomatch h), by simp only [PyData.shownAll]; exact .nil⟩
  | d :: ds, _, _, _, r, e, ru, hs, hz => by
    obtain ⟨p, hp, e2⟩ := Option.bind_eq_some_iff.mp (show (valP d).bind (fun p => (valPs ds).map fun ps => p :: ps) = some _ from e)
    obtain ⟨qs, hq, rfl⟩ := Option.map_eq_some_iff.mp e2
    obtain ⟨v, vs, rfl, r1, r2⟩ := r
    have hs' : p.showable = true ∧ PyData.showableAll qs = true := by simpa [PyData.showableAll] using hs
    simp only [PyData.shownAll] at hz
    cases ru with
    | cons rv rr =>
      obtain ⟨b1, g1, k1⟩ := rel_reprV I d v _ p r1 hp rv hs'.1 (hz _ (List.mem_cons_self ..))
      obtain ⟨b2, g2, k2⟩ := rels_reprV I ds vs _ qs r2 hq rr hs'.2 fun t ht => hz t (List.mem_cons_of_mem _ ht)
      simp only [PyData.depthAll, PyData.shownAll]
      refine ⟨b1 ++ b2, (g1.mono (Nat.le_max_left _ _)).append (g2.mono (Nat.le_max_right _ _)), .cons ((k1.more fun b hb => List.mem_append_left _ hb).level_le (Nat.le_max_left _ _)) (k2.more_le (fun b hb => List.mem_append_right _ hb) (Nat.le_max_right _ _))⟩
end
def ShowV (p : PyData) : Prop := p.showable = true ∧ p.depth ≤ 64 ∧ p.shown.length ≤ sizeLine
end
end L2.DL

/-! DL81: defs whatever guards stand (calls within repr of a list); repr of a list or tuple of one own instance -/
namespace L2
open PySem PySem.Spec PyProof.Rows
section
variable {P : Program} {w : World} {K : PySem.W.Frag} {mg : Str → Option Value} {base : Heap} {k : Nat} {f : Addr} {fd : FuncData} {ps : List Str} {sp : Sp}
end
end L2
namespace L2.DL
open PySem PySem.Spec PyProof.Rows
section
variable {P : Program} {w : World} {K : PySem.W.Frag} {mg : Str → Option Value} {base : Heap}
end
section
variable {X : Cx} {k : Nat} {g C : Addr} {fd : FuncData} {ps : List Str} {dsp : DSp} {pins : List (Addr × Obj)} {σ : St} {H : Hp} {s : Shared}
def StrQ (f : Str → Str) (Q0 : KD) : KD := fun e S' => ∃ z : Str, e = .str z ∧ z.length + 8 ≤ sizeLine ∧ Q0 (.str (f z)) S'
/-- a list or tuple of one thing -/
def brkD : D → Option (Bool × D)
  | .lst [y] => some (true, y)
  | .tup [y] => some (false, y)
  | .tf [y] => some (false, y)
  | _ => none
def brkT (b : Bool) (z : Str) : Str := if b = true then listText [z] else tupleText [z]
def cReprW (C : Addr) (dsp : DSp) : WL := fun xs S Q => one xs fun x => (∃ p, valP x = some p ∧ ShowV p ∧ Q (.str p.shown) S) ∨ ∃ b y, brkD x = some (b, y) ∧ (∃ fs, InsD C y S fs) ∧ dsp [y] S (StrQ (brkT b) Q) NoE
end
end L2.DL

/-! DL88: own exceptions made as values; raise of one with two fields -/
namespace L2.DL
open PySem PySem.Spec PyProof.Rows
section
variable {X : Cx} {W : WX} {C fI : Addr} {B newId initId : String} {bmB : List Value} {g n : Str} {gs : List Str} {ta : WA} {e a b : Expr} {p p2 pos : Pos} {k : Nat} {kws : List Keyword}
/-- raise n(a, b) -/
def wRaise2 (n : Str) (t : WA) : WSX := fun _ X0 sd S => t sd S fun xs S1 => xs.length = 2 ∧ X0 sd n ((["index", "shown"] : List Str).zip xs) S1
section
variable {L : List (Addr × DO)} {i : Nat} {x y : D} {f : Str} {sd : SD} {S S0 : SO} {Q : KD}
end
theorem xRaise2 {E : EndsD} {X0 : EX} {sd : SD} {S : SO} (h : ta sd S fun xs S1 => xs.length = 2 ∧ X0 sd n ((["index", "shown"] : List Str).zip xs) S1) : wRaise2 n ta E X0 sd S := h
instance st_xRaise2 {lw : Lv} {E : EndsD} {X0 : EX} {sd : SD} {S : SO} : Step (.s (.s (.s (.s lw)))) (wRaise2 n ta E X0 sd S) (ta sd S fun xs S1 => xs.length = 2 ∧ X0 sd n ((["index", "shown"] : List Str).zip xs) S1) := ⟨fun h => xRaise2 h⟩
end
end L2.DL

/-! DL68: tuple * int, 1 too -/
namespace L2.DL
open PySem PySem.Spec PyProof.Rows
section
variable {X : Cx}
end
end L2.DL

/-! DL69: `is True`, `is False` of truths -/
namespace L2.DL
open PySem PySem.Spec PyProof.Rows
section
variable {X : Cx}
end
end L2.DL

/-! DL70: zip of a tuple and a list -/
namespace L2.DL
open PySem PySem.Spec PyProof.Rows
section
variable {h : Heap} {o0 o1 o2 o3 o4 : Obj}
end
section
variable {prog : Program} {w : World} {A : Around} {E : Value → Shared → Prop} {s : Shared}
end
section
variable {sd : SD} {S : SO} {R : ItD → SO → Prop} {t : WA} {xs ys : List D} {d : D}
end
end L2.DL

/-! DL71: values that read as data (numbers, texts, truths, tuples of these); sorted(list) of such; sorted(list, key = a def of the program) -/
namespace L2.DL
open PySem PySem.Spec PySem.W PySem.Calls PyProof.Rows
mutual
def pyR : D → Option PyData
  | .int i => some (.int i)
  | .str x => some (.str x)
  | .bl b => some (.bool b)
  | .tup ds => (pyRs ds).map PyData.tuple
  | .tf ds => (pyRs ds).map PyData.tuple
  | _ => none
def pyRs : List D → Option (List PyData)
  | [] => some []
  | d :: ds => (pyR d).bind fun x => (pyRs ds).map fun xs => x :: xs
end
section
variable {X : Cx} {pins : List (Addr × Obj)} {σ : St} {H : Hp} {s : Shared} {S : SO}
theorem reads_seq {a : Addr} {vs : List V} {ks : List PyData} (I : Inv X pins σ H s) (hq : SqT X.K H a vs) (h : ∀ its, Vals vs its → ReadsAll s.heap its ks []) : Reads s.heap (.ref a) (.tuple ks) [] := by
  obtain ⟨its, rv, ⟨o, ho, hc, n, hd⟩, _⟩ := I.tuple hq
  exact .tuple ho hc hd (by rw [List.toList_toArray]; exact h its rv)
mutual
theorem rd_reads (I : Inv X pins σ H s) : ∀ (d : D) (v : V) (u : Value) (k : PyData), pyR d = some k → Rel X.K S H d v → RelV v u → Reads s.heap u k []
  | .int i, v, u, k, e, r, rv => by
    obtain rfl : PyData.int i = k := Option.some.inj e
    obtain rfl : v = .int i := r
    obtain ⟨t, rfl⟩ := rv
    exact .int i t
  | .str x, v, u, k, e, r, rv => by
    obtain rfl : PyData.str x = k := Option.some.inj e
    obtain rfl : v = .str x := r
    obtain ⟨t, rfl⟩ := rv
    exact .str x t
  | .bl b, v, u, k, e, r, rv => by
    obtain rfl : PyData.bool b = k := Option.some.inj e
    obtain rfl : v = .bl b := r
    obtain rfl : u = .bool b := rv
    exact .bool b
  | .tup ds, v, u, k, e, r, rv => by
    obtain ⟨ks, e1, rfl⟩ := Option.map_eq_some_iff.mp (show (pyRs ds).map PyData.tuple = some k from e)
    obtain ⟨a, vs, rfl, t, rs⟩ := r
    obtain rfl : u = .ref a := rv
    exact reads_seq I t.sq fun its rv => rds_reads I ds vs its ks e1 rs rv
  | .tf ds, v, u, k, e, r, rv => by
    obtain ⟨ks, e1, rfl⟩ := Option.map_eq_some_iff.mp (show (pyRs ds).map PyData.tuple = some k from e)
    obtain ⟨a, vs, rfl, t, rs⟩ := r
    obtain rfl : u = .ref a := rv
    exact reads_seq I t.sq fun its rv => rds_reads I ds vs its ks e1 rs rv
  | .non, _, _, _, e, _, _ => by cases e
  | .ty _, _, _, _, e, _, _ => by cases e
  | .obj _, _, _, _, e, _, _ => by cases e
  | .lst _, _, _, _, e, _, _ => by cases e
  | .kt _, _, _, _, e, _, _ => by cases e
  | .src _, _, _, _, e, _, _ => by cases e
  | .dic _ _, _, _, _, e, _, _ => by cases e
  | .ins _ _, _, _, _, e, _, _ => by cases e
  | .gh _ _, _, _, _, e, _, _ => by cases e
  | .fn _ _ _, _, _, _, e, _, _ => by cases e
  | .fd _ _, _, _, _, e, _, _ => by cases e
theorem rds_reads (I : Inv X pins σ H s) : ∀ (ds : List D) (vs : List V) (us : List Value) (ks : List PyData), pyRs ds = some ks → Rels X.K S H ds vs → Vals vs us → ReadsAll s.heap us ks []
  | [], vs, us, ks, e, r, rv => by
    obtain rfl : [] = ks := Option.some.inj e
    obtain rfl : vs = [] := r
    cases rv
    exact .nil
  | d :: ds, vs, us, ks, e, r, rv => by
    obtain ⟨k, e1, e2⟩ := Option.bind_eq_some_iff.mp (show ((pyR d).bind fun x => (pyRs ds).map fun xs => x :: xs) = some ks from e)
    obtain ⟨ks', e3, rfl⟩ := Option.map_eq_some_iff.mp e2
    obtain ⟨v, vr, rfl, r1, r2⟩ := r
    cases rv with
    | cons h1 h2 => exact .cons (as := []) (bs := []) (rd_reads I d v _ k e1 r1 h1) (rds_reads I ds vr _ ks' e3 r2 h2)
end
end
section
variable {X : Cx} {pins : List (Addr × Obj)} {σ : St} {H : Hp} {s : Shared} {S : SO}
end
end L2.DL

/-! DL72: sorted(list, key = a def of the program) -/
namespace L2.DL
open PySem PySem.Spec PySem.W PySem.Calls PyProof.Rows
section
variable {X : Cx} {pins : List (Addr × Obj)} {σ : St} {H : Hp} {s : Shared} {S : SO} {k : Nat} {f : Addr} {fd : FuncData} {ps : List Str} {dsp : DSp} {kd : D → PyData} {ds : List D}
end
end L2.DL

/-! DL73: sorted(set(list of pairs of numbers)); tuples of texts that the top has written -/
namespace L2.DL
open PySem PySem.Spec PyProof.Rows
section
variable {K : PySem.W.Frag} {S : SO} {H : Hp}
end
section
variable {X : Cx}
end
end L2.DL

/-! DL74: == and != of own instances without either (the same object or not); properties of any kind; C(k = v) as an object -/
namespace L2.DL
open PySem PySem.Spec PySem.W PyProof.Rows
section
variable {prog : Program} {w : World} {A : Around} {E : Value → Shared → Prop} {s : Shared} {K : PySem.W.Frag} {x y C : Addr} {ox oy : Obj} {od od' : Option Obj}
end
section
variable {X : Cx} {C : Addr}
/-! ### a property whose getter is any def -/
variable {k : Nat} {p g f' : Addr} {f : Str} {fd : FuncData} {ps : List Str} {sp : Sp} {dsp : DSp} {e : Expr} {pos : Pos} {ta : TE} {wo : WE}
/-! ### C(k = v), an object -/
end
end L2.DL

/-! DL75: C(k = v) as an object; bool(own instance that has __len__) -/
namespace L2.DL
open PySem PySem.Spec PySem.W PyProof.Rows
section
variable {X : Cx} {k : Nat} {g f C : Addr} {fd : FuncData} {ps ks : List Str} {dsp : DSp}
end
end L2.DL

/-! DL89: own __contains__, __getitem__, __setitem__, __bool__ of objects; these may raise -/
namespace L2.DL
open PySem PySem.Spec PySem.W PyProof.Rows
section
variable {X : Cx} {W : WX} {CX : CXT} {k : Nat} {f C : Addr} {fd : FuncData} {ps : List Str} {sp : Sp} {dsp : DSp} {E : XK}
/-! ### x in o -/
/-! ### o[i] -/
def wGetKX (C : Addr) (dsp : DSp) (wa wb : WE) : WEX := fun sd S Q X0 => wa sd S fun d S1 => wb sd S1 fun i S2 => (∃ fs, InsD C d S2 fs) ∧ dsp [d, i] S2 Q (X0 sd)
/-! ### o[i] = e -/
/-! ### bool(o), o's class with its own __bool__ -/
end
end L2.DL

/-! DL90: a dict locked where it is made; list(d.items()), sorted(d), {**d, k: v} of locked dicts -/
namespace L2.DL
open PySem PySem.Spec PySem.W PyProof.Rows
section
variable {X : Cx}
/-! ### locked where it is made -/
/-! ### list(d.items()) -/
end
/-! ### sorted(d) -/
section
variable {prog : Program} {w : World} {A : Around} {E : Value → Shared → Prop} {s : Shared} {T : String} {r d : Addr} {n : Nat} {P : Nat → Value → Prop} {OK : Heap → Prop}
end
section
variable {X : Cx}
/-! ### {**d, k: v} -/
end
end L2.DL

namespace L2.DL
open PySem PySem.Spec PyProof.Rows
section
variable {X : Cx} {k : Nat} {f C : Addr} {fd : FuncData} {ps : List Str} {dsp : DSp} {p pos : Pos} {x : Str} {ds : List Value} {dvs : List V} {dds : List D}
end
end L2.DL

/-! DL65: NAME.get(e), NAME a dict of the module with texts for numbers; lists of errors of other laws -/
namespace L2.DL
open PySem PySem.Spec PyProof.Rows
section
variable {X : Cx} {x : Str} {a : Addr} {tab : List (Str × Int)} {e : Expr} {we : WE} {np apos cpos : Pos}
end
section
variable {X : Cx} {pos : Pos}
end
end L2.DL

namespace L2.DL
open PySem PySem.Spec PyProof.Rows
/-! ### _law_far -/
end L2.DL

namespace L2.DL
open PySem PySem.Spec PyProof.Rows
/-! draws of this family, typed -/
end L2.DL

namespace L2.DL
open PySem PySem.Spec PyProof.Rows
/-! ### steps, as mathematics: from a parting to a witness, or to a parting with fewer roads -/
structure PartS (ps : List Str) (ts : List (Str × Str)) (rs : List (List Str)) : Prop where
  road : ∀ r ∈ rs, RoadOk ps ts r
  nd : rs.flatten.Nodup
theorem PartOk.ps {ps : List Str} {ts : List (Str × Str)} {rs : List (List Str)} (h : PartOk ps ts rs) : PartS ps ts rs := ⟨h.road, h.nd⟩
def lasts (rs : List (List Str)) : List Str := rs.map lastS
theorem lstS_eq {r : List Str} (h : r ≠ []) : r.getLast? = some (lastS r) := by
  unfold lastS
  rw [List.getLastD_eq_getLast?]
  cases e : r.getLast? with
  | none => exact absurd (List.getLast?_eq_none_iff.mp e) h
  | some x => rfl
section
variable {ps : List Str} {ts : List (Str × Str)} {rs A B : List (List Str)} {r : List Str} {x y fresh : Str}
theorem PartS.ne (h : PartS ps ts rs) : ∀ r ∈ rs, r ≠ [] := fun r hr => (h.road r hr).ne
theorem flat_mid : (A ++ r :: B).flatten.Perm (r ++ (A ++ B).flatten) := by
  rw [List.flatten_append, List.flatten_cons, List.flatten_append]
  exact (List.perm_append_comm_assoc ..)
/-- a road more at its end -/
theorem RoadOk.snoc (h : RoadOk ps ts r) (hx : fresh ∈ ps) (hn : fresh ∉ r) (ht : (lastS r, fresh) ∈ ts) : RoadOk ps ts (r ++ [fresh]) := by
  refine ⟨by simp, ?_, fun z hz => ?_, fun i a b ha hb => ?_⟩
  · rw [List.nodup_append]
    exact ⟨h.nd, by simp, fun a ha b hb e => hn (by rw [List.mem_singleton] at hb; rw [← hb, ← e]; exact ha)⟩
  · rcases List.mem_append.mp hz with hz | hz
    · exact h.sub z hz
    · rw [List.mem_singleton.mp hz]
      exact hx
  · by_cases hi : i + 1 < r.length
    · rw [List.getElem?_append_left (by omega)] at ha
      rw [List.getElem?_append_left hi] at hb
      exact h.step i a b ha hb
    · have hl : i + 1 < (r ++ [fresh]).length := (List.getElem?_eq_some_iff.mp hb).1
      rw [List.length_append, List.length_singleton] at hl
      have hi2 : i + 1 = r.length := by omega
      rw [List.getElem?_append_left (by omega)] at ha
      rw [List.getElem?_append_right (by omega), hi2, Nat.sub_self] at hb
      have hb : fresh = b := Option.some.inj hb
      subst hb
      have e := lstS_eq h.ne
      rw [List.getLast?_eq_getElem?, show r.length - 1 = i by omega, ha] at e
      injection e with e
      rw [e]
      exact ht
/-- a road without its last place -/
theorem RoadOk.cut (h : RoadOk ps ts (r ++ [fresh])) (hr : r ≠ []) : RoadOk ps ts r := by
  refine ⟨hr, (List.nodup_append.mp h.nd).1, fun z hz => h.sub z (List.mem_append_left _ hz), fun i a b ha hb => ?_⟩
  have l1 := (List.getElem?_eq_some_iff.mp ha).1
  have l2 := (List.getElem?_eq_some_iff.mp hb).1
  exact h.step i a b (by rw [List.getElem?_append_left l1]; exact ha) (by rw [List.getElem?_append_left l2]; exact hb)
theorem RoadOk.tie (h : RoadOk ps ts (r ++ [fresh])) (hr : r ≠ []) : (lastS r, fresh) ∈ ts := by
  have hl : 0 < r.length := List.length_pos_iff.mpr hr
  have e := lstS_eq hr
  rw [List.getLast?_eq_getElem?] at e
  refine h.step (r.length - 1) _ _ (by rw [List.getElem?_append_left (by omega)]; exact e) ?_
  rw [List.getElem?_append_right (by omega), show r.length - 1 + 1 - r.length = 0 by omega]
  rfl
theorem PartS.put (hr : RoadOk ps ts r) (h : PartS ps ts (A ++ B)) (hd : ∀ x ∈ r, x ∉ (A ++ B).flatten) : PartS ps ts (A ++ r :: B) := by
  refine ⟨fun q hq => ?_, (flat_mid (A := A) (B := B) (r := r)).nodup_iff.mpr ?_⟩
  · rcases List.mem_append.mp hq with hq | hq
    · exact h.road q (List.mem_append_left _ hq)
    · rcases List.mem_cons.mp hq with rfl | hq
      · exact hr
      · exact h.road q (List.mem_append_right _ hq)
  · rw [List.nodup_append]
    exact ⟨hr.nd, h.nd, fun a ha b hb e => hd a ha (e ▸ hb)⟩
end
end L2.DL

/-! DL66: repr of a truth; slices of .tf as .tf -/
namespace L2.DL
open PySem PySem.Spec PyProof.Rows
section
variable {X : Cx}
def wSlG (we : WE) (tl th : WP) : WE := fun sd S Q => we sd S fun d S1 => tl sd S1 fun lo S2 => th sd S2 fun hi S3 => ∃ xs, d = .tf xs ∧ Q (.tf (cutD xs lo hi)) S3
theorem cut_whole {xs : List D} {lo hi : Option Int} (h : WholeS xs.length lo hi) : cutD xs lo hi = xs := by
  unfold cutD
  rw [h.1, h.2, List.drop_zero, Nat.sub_zero, List.take_length]
theorem sl_G : SlR X (fun x lo hi H Q => ∃ d S Q0, SRel X.K S H ∧ Rel X.K S H d x ∧ (∃ xs, d = .tf xs ∧ Q0 (.tf (cutD xs lo hi)) S) ∧ Ans X.K S H Q0 Q) := by
  intro pins s σ H x v vl vu lo hi sl Q I rx hs pl pu ⟨d, S, Q0, sr, r, ⟨xs, e, q⟩, an⟩
  subst e
  by_cases hw : WholeS xs.length lo hi
  · rw [cut_whole hw] at q
    exact sl_T pins s σ H x v vl vu lo hi sl Q I rx hs pl pu ⟨.tf xs, S, Q0, sr, r, ⟨xs, rfl, fun _ => q, fun z => absurd hw z⟩, an⟩
  · exact sl_F pins s σ H x v vl vu lo hi sl Q I rx hs pl pu ⟨.tf xs, S, Q0, sr, r, ⟨xs, rfl, hw, q⟩, an⟩
theorem de_slG {a : Expr} {lo hi : Option Expr} {we : WE} {tl th : WP} {pos p2 : Pos} (ha : DE X a we) (hl : DP X lo tl) (hh : DP X hi th) : DE X (.Subscript a (.Slice lo hi none p2) pos) (wSlG we tl th) :=
  pe_imp (pe_slice sl_G ha hl hh) fun σ H Q ⟨sd, S, Q0, st, q, an⟩ => ⟨sd, S, _, st, q, fun d S1 v H1 q1 n1 s1 r1 => ⟨sd, S1, _, st.nx n1 s1, q1, fun o S2 H2 q2 n2 s2 => ⟨sd, S2, _, (st.nx n1 s1).nx n2 s2, q2, fun o3 S3 H3 q3 n3 s3 =>
    ⟨d, S3, Q0, s3, (Rel.nx (n2.trans n3) _ _ r1), q3, an.nx (n1.trans (n2.trans n3))⟩⟩⟩⟩
theorem xSlG {we : WE} {tl th : WP} {sd : SD} {S : SO} {Q : KD} (h : we sd S fun d S1 => tl sd S1 fun lo S2 => th sd S2 fun hi S3 => ∃ xs, d = .tf xs ∧ Q (.tf (cutD xs lo hi)) S3) : wSlG we tl th sd S Q := h
end
end L2.DL

/-! DL67: list(range(a, b)) as an object -/
namespace L2.DL
open PySem PySem.Spec PyProof.Rows
section
variable {X : Cx}
end
end L2.DL

/-! Y4: the text that repr makes is a text whose signs are all code points -/
namespace L2.DL
open PySem PySem.Spec PyProof.Rows
def OkS (x : Str) : Prop := ∀ c ∈ x.cps.toList, c < 0x110000
theorem okS_lit (s : String) : OkS (Str.ofString s) := by
  rw [Str.ofString_eq_toList]
  intro c hc
  have hc' : c ∈ s.toList.map Char.toNat := by simpa using hc
  obtain ⟨ch, _, rfl⟩ := List.mem_map.mp hc'
  have h := ch.valid
  rcases h with h | ⟨_, h⟩
  · exact Nat.lt_trans h (by decide)
  · exact h
theorem okS_app {x y : Str} (hx : OkS x) (hy : OkS y) : OkS (x ++ y) := fun c hc => by
  have e : (x ++ y).cps = x.cps ++ y.cps := rfl
  rw [e, Array.toList_append, List.mem_append] at hc
  exact hc.elim (hx c) (hy c)
theorem okS_of {x : Str} (h : sOk x) : OkS x := fun c hc => by
  have h1 : PyData.strOk x = true := by
    have h' : PyData.canLay0 (.str x) = true := h
    simpa only [PyData.canLay0] using h'
  unfold PyData.strOk at h1
  rw [Array.all_eq_true_iff_forall_mem] at h1
  have := h1 c (by simpa using hc)
  simpa using this
theorem dig_lt {n : Nat} (h : n < 16) : (Nat.digitChar n).toNat < 128 := by
  have : ∀ n, n < 16 → (Nat.digitChar n).toNat < 128 := by decide
  exact this n h
theorem digits_lt : ∀ (fuel n : Nat) (acc : List Char), (∀ c ∈ acc, c.toNat < 128) → ∀ c ∈ Nat.toDigitsCore 16 fuel n acc, c.toNat < 128
  | 0, n, acc, h => h
  | fuel + 1, n, acc, h => by
    unfold Nat.toDigitsCore
    have hd : ∀ c ∈ (Nat.digitChar (n % 16)) :: acc, c.toNat < 128 := fun c hc => by
      rcases List.mem_cons.mp hc with rfl | hc
      · exact dig_lt (Nat.mod_lt _ (by decide))
      · exact h c hc
    show ∀ c ∈ (if n / 16 = 0 then Nat.digitChar (n % 16) :: acc else Nat.toDigitsCore 16 fuel (n / 16) (Nat.digitChar (n % 16) :: acc)), c.toNat < 128
    split
    · exact hd
    · exact digits_lt fuel (n / 16) _ hd
theorem hex_ok {c w : Nat} : ∀ x ∈ List.replicate (w - ((Nat.toDigits 16 c).map Char.toNat).length) 48 ++ (Nat.toDigits 16 c).map Char.toNat, x < 0x110000 := fun x hx => by
  rcases List.mem_append.mp hx with hx | hx
  · rw [(List.mem_replicate.mp hx).2]
    decide
  · obtain ⟨ch, hch, rfl⟩ := List.mem_map.mp hx
    have : ch.toNat < 128 := digits_lt _ _ _ (by simp) ch hch
    omega
theorem reprChar_ok {q c : Nat} (hc : c < 0x110000) : ∀ x ∈ Builtin.Str.reprChar q c, x < 0x110000 := by
  intro x hx
  unfold Builtin.Str.reprChar at hx
  simp only at hx
  split at hx
  · simp only [List.mem_cons, List.not_mem_nil, or_false] at hx
    omega
  · split at hx
    · simp only [List.mem_cons, List.not_mem_nil, or_false] at hx
      omega
    · split at hx
      · simp only [List.mem_cons, List.not_mem_nil, or_false] at hx
        omega
      · split at hx
        · simp only [List.mem_cons, List.not_mem_nil, or_false] at hx
          omega
        · split at hx
          · simp only [List.mem_cons, List.not_mem_nil, or_false] at hx
            omega
          · split at hx
            · rcases List.mem_append.mp hx with hx | hx
              · simp only [List.mem_cons, List.not_mem_nil, or_false] at hx
                omega
              · exact hex_ok x hx
            · split at hx
              · rcases List.mem_append.mp hx with hx | hx
                · simp only [List.mem_cons, List.not_mem_nil, or_false] at hx
                  omega
                · exact hex_ok x hx
              · rcases List.mem_append.mp hx with hx | hx
                · simp only [List.mem_cons, List.not_mem_nil, or_false] at hx
                  omega
                · exact hex_ok x hx
theorem foldl_ok {q : Nat} : ∀ (l : List Nat) (acc : Array Nat), (∀ c ∈ l, c < 0x110000) → (∀ c ∈ acc.toList, c < 0x110000) → ∀ c ∈ (l.foldl (fun out c => out ++ (Builtin.Str.reprChar q c).toArray) acc).toList, c < 0x110000
  | [], acc, _, h => h
  | a :: l, acc, hl, h => by
    refine foldl_ok l _ (fun c hc => hl c (List.mem_cons_of_mem _ hc)) fun c hc => ?_
    rw [Array.toList_append, List.mem_append] at hc
    rcases hc with hc | hc
    · exact h c hc
    · exact reprChar_ok (hl a (List.mem_cons_self ..)) c (by simpa using hc)
theorem okS_repr {x : Str} (h : OkS x) : OkS (reprText x) := by
  have hq : reprQuote x < 0x110000 := by
    unfold reprQuote
    split <;> decide
  intro c hc
  unfold reprText at hc
  simp only [Array.toList_push, List.mem_append, List.mem_singleton] at hc
  rcases hc with hc | hc
  · rw [← Array.foldl_toList] at hc
    exact foldl_ok x.cps.toList _ h (fun c hc => by simp only [List.mem_singleton] at hc; rw [hc]; exact hq) c hc
  · rw [hc]
    exact hq
theorem okS_from : ∀ (ts : List Str) (k : Nat) (acc : Str), OkS acc → (∀ t ∈ ts, OkS t) → OkS (textFrom k acc ts)
  | [], k, acc, h, _ => h
  | t :: r, k, acc, h, ht => by
    refine okS_from r (k + 1) _ ?_ fun u hu => ht u (List.mem_cons_of_mem _ hu)
    refine okS_app (okS_app h (okS_lit _)) (ht t (List.mem_cons_self ..))
theorem okS_join : ∀ (ts : List Str), (∀ t ∈ ts, OkS t) → OkS (Str.join ", " ts)
  | [], _ => fun c hc => by simp [Str.join, Str.empty] at hc
  | [x], h => h x (List.mem_cons_self ..)
  | x :: y :: r, h => okS_app (okS_app (h x (List.mem_cons_self ..)) (okS_lit _)) (okS_join (y :: r) fun t ht => h t (List.mem_cons_of_mem _ ht))
mutual
theorem okS_shown : ∀ p : PyData, p.canLay0 = true → OkS p.shown
  | .none, _ => by
    simp only [PyData.shown]
    exact okS_lit _
  | .bool b, _ => by
    simp only [PyData.shown]
    cases b <;> exact okS_lit _
  | .int i, _ => by
    simp only [PyData.shown]
    exact okS_lit _
  | .str x, h => by
    simp only [PyData.shown]
    exact okS_repr (okS_of h)
  | .list xs, h => by
    simp only [PyData.shown]
    exact okS_app (okS_from _ 0 _ (okS_lit _) (okS_shownAll xs (by simpa only [PyData.canLay0] using h))) (okS_lit _)
  | .tuple xs, h => by
    simp only [PyData.shown]
    exact okS_app (okS_app (okS_lit _) (okS_join _ (okS_shownAll xs (by simpa only [PyData.canLay0] using h)))) (okS_lit _)
  | .dict _, h => by simp [PyData.canLay0] at h
theorem okS_shownAll : ∀ xs : List PyData, PyData.canLayAll0 xs = true → ∀ t ∈ PyData.shownAll xs, OkS t
  | [], _ => fun t ht => by simp [PyData.shownAll] at ht
  | x :: xs, h => fun t ht => by
    have h' : x.canLay0 = true ∧ PyData.canLayAll0 xs = true := by simpa [PyData.canLayAll0] using h
    simp only [PyData.shownAll, List.mem_cons] at ht
    rcases ht with rfl | ht
    · exact okS_shown x h'.1
    · exact okS_shownAll xs h'.2 t ht
end
end L2.DL

/-! DL95: int(text); slices of texts -/
namespace L2.DL
open PySem PySem.Spec PyProof.Rows
section
variable {X : Cx}
end
end L2.DL

/-! DL96: a[k].replace("..", ".."): the index k is a token ahead of the texts -/
namespace L2.DL
open PySem PySem.Spec PyProof.Rows
section
variable {X : Cx} {a : Expr} {ta : TE} {pins : List (Addr × Obj)} {σ : St} {H : Hp} {s : Shared}
end
end L2.DL

/-! DL97: zip(l, m) of lists -/
namespace L2.DL
open PySem PySem.Spec PyProof.Rows
section
variable {sd : SD} {S : SO} {R : ItD → SO → Prop} {t : WA} {xs ys : List D}
end
end L2.DL

/-! DL98: o[i] = e, where o's class has its own __setitem__ and e may raise -/
namespace L2.DL
open PySem PySem.Spec PySem.W PyProof.Rows
section
variable {X : Cx} {W : WX} {CX : CXT} {k : Nat} {f C : Addr} {fd : FuncData} {ps : List Str} {sp : Sp} {dsp : DSp} {E : XK}
end
end L2.DL

/-! DL99: targets = e, where e may raise -/
namespace L2.DL
open PySem PySem.Spec PySem.W PyProof.Rows
theorem PG.nox {X : Cx} {tg : Expr} {t : TG} (h : PG X.nox tg t) : PG X tg t := ⟨fun pins s σ H v u Q I r hw =>
  wpAny_mono (h.run pins s σ H v u Q (I.wish _) r hw) (fun _ _ ⟨σ', H', I', q⟩ => ⟨σ', H', I'.unwish, q⟩) fun _ _ z => False.elim z⟩
section
variable {X : Cx} {W : WX}
def wAsgX (we : WEX) (g : WG) : WSX := fun E X0 sd S => we sd S (fun d S1 => g d sd S1 E.nx) X0
end
section
variable {X : Cx} {W : WX} {x : Str} {p pos : Pos} {e a b c : Expr} {T : String} {w : WL} {w1 wc wa wb : WEX}
/-- T(e), T a built-in type, e may raise -/
def wCallX1 (w : WL) (w1 : WEX) : WEX := fun sd S Q X0 => w1 sd S (fun d S1 => w [d] S1 Q) X0
/-- a if c else b, where c may raise -/
def wIfTX (wc wa wb : WEX) : WEX := fun sd S Q X0 => wc sd S (isB fun k S1 => if k = true then wa sd S1 Q X0 else wb sd S1 Q X0) X0
end
section
variable {E : EndsD} {X0 : EX} {sd : SD} {S : SO} {Q : KD} {a : WSX} {we wa wb : WEX} {w wo wi : WE}
theorem xAsgX {g : WG} (h : we sd S (fun d S1 => g d sd S1 E.nx) X0) : wAsgX we g E X0 sd S := h
instance st_xAsgX {lw : Lv} {g : WG} : Step (.s (.s (.s (.s lw)))) (wAsgX we g E X0 sd S) (we sd S (fun d S1 => g d sd S1 E.nx) X0) := ⟨fun h => xAsgX h⟩
theorem xCallX1 {w : WL} (h : we sd S (fun d S1 => w [d] S1 Q) X0) : wCallX1 w we sd S Q X0 := h
instance st_xCallX1 {lw : Lv} {w : WL} : Step (.s (.s (.s (.s lw)))) (wCallX1 w we sd S Q X0) (we sd S (fun d S1 => w [d] S1 Q) X0) := ⟨fun h => xCallX1 h⟩
theorem xIfTX (h : we sd S (isB fun k S1 => if k = true then wa sd S1 Q X0 else wb sd S1 Q X0) X0) : wIfTX we wa wb sd S Q X0 := h
instance st_xIfTX {lw : Lv} : Step (.s (.s (.s (.s lw)))) (wIfTX we wa wb sd S Q X0) (we sd S (isB fun k S1 => if k = true then wa sd S1 Q X0 else wb sd S1 Q X0) X0) := ⟨fun h => xIfTX h⟩
theorem xTry {ns : List Str} {hs : List HdD} (h : a E (hdsR ns E X0 hs) sd S) : wTry ns a hs E X0 sd S := h
instance st_xTry {lw : Lv} {ns : List Str} {hs : List HdD} : Step (.s (.s (.s (.s lw)))) (wTry ns a hs E X0 sd S) (a E (hdsR ns E X0 hs) sd S) := ⟨fun h => xTry h⟩
theorem xGKX {C : Addr} {dsp : DSp} (h : w sd S fun d S1 => wi sd S1 fun i S2 => (∃ fs, InsD C d S2 fs) ∧ dsp [d, i] S2 Q (X0 sd)) : wGetKX C dsp w wi sd S Q X0 := h
instance st_xGKX {lw : Lv} {C : Addr} {dsp : DSp} : Step (.s (.s (.s (.s lw)))) (wGetKX C dsp w wi sd S Q X0) (w sd S fun d S1 => wi sd S1 fun i S2 => (∃ fs, InsD C d S2 fs) ∧ dsp [d, i] S2 Q (X0 sd)) := ⟨fun h => xGKX h⟩
end
end L2.DL

/-! DL100: str(x) of a text or an int -/
namespace L2.DL
open PySem PySem.Spec PySem.W PyProof.Rows
section
variable {X : Cx}
end
end L2.DL

/-! DL79: == and != of values of any kind, {} among them -/
namespace L2.DL
open PySem PySem.Spec PyProof.Rows
open PySem.SeqAt PySem.MeetsSeq PySem.AutoSeq1
section
variable {prog : Program} {w : World} {A : Around} {s : Shared}
/-- a dict that holds nothing -/
def Dic0 (s : Shared) (a : Addr) : Prop := ∃ o n, s.heap.get? a = some o ∧ o.ExactDict ∧ o.data = .dict #[] n
theorem Dic0.typeIs {a : Addr} (h : Dic0 s a) : s.TypeIs (.ref a) "dict" := by
  obtain ⟨o, n, h1, h2, h3⟩ := h
  exact ⟨o, h1, h2.1⟩
theorem Dic0.ob {a : Addr} (h : Dic0 s a) : ∃ dd n sl, s.heap.get? a = some { cls := .type "dict", dict := dd, data := .dict #[] n, slots := sl } := by
  obtain ⟨⟨c, dd, data, sl⟩, n, h1, ⟨h2, _, _⟩, h3⟩ := h
  simp only at h2 h3
  subst h2 h3
  exact ⟨_, _, _, h1⟩
/-- values of any kind, at most n deep -/
inductive VV (s : Shared) : Nat → Value → Prop
  | none {n : Nat} : VV s n .none
  | bool {n : Nat} (b : Bool) : VV s n (.bool b)
  | int {n : Nat} (i : Int) (t : Tok) : VV s n (.int i t)
  | str {n : Nat} (x : Str) (t : Tok) : VV s n (.str x t)
  | list {n : Nat} {l : Addr} {vs : Array Value} : s.heap.IsList l vs → (∀ x ∈ vs, VV s n x) → VV s (n + 1) (.ref l)
  | tuple {n : Nat} {l : Addr} {vs : Array Value} : s.heap.IsTuple l vs → (∀ x ∈ vs, VV s n x) → VV s (n + 1) (.ref l)
  | dict {n : Nat} {a : Addr} : Dic0 s a → (a == sysModules) = false → VV s n (.ref a)
theorem VV.mono {n : Nat} {u : Value} (h : VV s n u) : ∀ {m : Nat}, n ≤ m → VV s m u := by
  induction h with
  | none => exact fun _ => .none
  | bool b => exact fun _ => .bool b
  | int i t => exact fun _ => .int i t
  | str x t => exact fun _ => .str x t
  | list hl _ ih =>
    intro m hm
    cases m with
    | zero => omega
    | succ m => exact .list hl fun x hx => ih x hx (by omega)
  | tuple hl _ ih =>
    intro m hm
    cases m with
    | zero => omega
    | succ m => exact .tuple hl fun x hx => ih x hx (by omega)
  | dict h1 h2 => exact fun _ => .dict h1 h2
end
section
variable {X : Cx} {pins : List (Addr × Obj)} {σ : St} {S : SO} {H : Hp} {s : Shared}
theorem dic0X_at (I : Inv X pins σ H s) {t : Bool} {v : V} {u : Value} (r : Rel X.K S H (.dic t []) v) (ru : RelV v u) : ∃ a, u = .ref a ∧ Dic0 s a ∧ (a == sysModules) = false := by
  obtain ⟨a, rfl, _, r⟩ := r
  cases ru
  rcases r with ⟨l, rfl, hl, rl⟩ | ⟨l, rfl, hl, rl⟩
  · have e0 : l = [] := rl
    subst e0
    obtain ⟨_, hsm, vs, kv, o, es, ep, h1, h2, h3, h4, h5, _⟩ := dk_of I.hok hl
    cases kv
    have e1 : es = #[] := by
      have z := h5.length
      simpa using z
    subst e1
    exact ⟨a, rfl, ⟨o, ep, h1, h2, h3⟩, hsm⟩
  · have e0 : l = [] := rl
    subst e0
    obtain ⟨_, hsm, xs, kv, o, es, ep, h1, h2, h3, h4, _⟩ := dt_of I.hok hl
    cases kv
    have e1 : es = #[] := by simpa using h4
    subst e1
    exact ⟨a, rfl, ⟨o, ep, h1, h2, h3⟩, hsm⟩
mutual
theorem rel_vv (I : Inv X pins σ H s) : ∀ (d : D) (v : V) (u : Value) (p : PyData), Rel X.K S H d v → valP d = some p → RelV v u → VV s p.depth u
  | .non, _, _, _, r, e, ru => by
    cases e
    cases (show _ = V.non from r)
    cases ru
    exact .none
  | .bl b, _, _, _, r, e, ru => by
    cases e
    cases (show _ = V.bl b from r)
    cases ru
    exact .bool b
  | .int i, _, _, _, r, e, ru => by
    cases e
    cases (show _ = V.int i from r)
    obtain ⟨t, rfl⟩ := ru
    exact .int i t
  | .str x, _, _, _, r, e, ru => by
    cases e
    cases (show _ = V.str x from r)
    obtain ⟨t, rfl⟩ := ru
    exact .str x t
  | .tup ds, _, _, _, r, e, ru => by
    obtain ⟨ps, hp, rfl⟩ := Option.map_eq_some_iff.mp (show (valPs ds).map PyData.tuple = some _ from e)
    obtain ⟨a, vs, rfl, t, r⟩ := r
    cases ru
    obtain ⟨its, rv, ⟨o, ho, hc, n, hd⟩, _⟩ := I.tuple t.sq
    simp only [PyData.depth]
    exact .tuple ⟨o, ho, hc, n, hd⟩ fun x hx => rels_vv I ds vs its ps r hp rv x (by simpa using hx)
  | .kt ds, _, _, _, r, e, ru => by
    obtain ⟨ps, hp, rfl⟩ := Option.map_eq_some_iff.mp (show (valPs ds).map PyData.tuple = some _ from e)
    obtain ⟨a, vs, rfl, t, r⟩ := r
    cases ru
    obtain ⟨its, rv, ⟨o, ho, hc, n, hd⟩, _⟩ := I.tuple t.sq
    simp only [PyData.depth]
    exact .tuple ⟨o, ho, hc, n, hd⟩ fun x hx => rels_vv I ds vs its ps r hp rv x (by simpa using hx)
  | .tf ds, _, _, _, r, e, ru => by
    obtain ⟨ps, hp, rfl⟩ := Option.map_eq_some_iff.mp (show (valPs ds).map PyData.tuple = some _ from e)
    obtain ⟨a, vs, rfl, t, r⟩ := r
    cases ru
    obtain ⟨its, rv, ⟨o, ho, hc, n, hd⟩, _⟩ := I.tuple t.sq
    simp only [PyData.depth]
    exact .tuple ⟨o, ho, hc, n, hd⟩ fun x hx => rels_vv I ds vs its ps r hp rv x (by simpa using hx)
  | .lst ds, _, _, _, r, e, ru => by
    obtain ⟨ps, hp, rfl⟩ := Option.map_eq_some_iff.mp (show (valPs ds).map PyData.list = some _ from e)
    obtain ⟨a, vs, rfl, _, t, r⟩ := r
    cases ru
    obtain ⟨its, rv, ⟨o, n, ho, hc, _, hd⟩, _⟩ := I.list (.of t)
    simp only [PyData.depth]
    exact .list ⟨o, ho, hc, n, hd⟩ fun x hx => rels_vv I ds vs its ps r hp rv x (by simpa using hx)
  | .dic t [], _, _, _, r, e, ru => by
    cases e
    obtain ⟨a, rfl, h1, h2⟩ := dic0X_at I r ru
    exact .dict h1 h2
  | .dic _ (_ :: _), _, _, _, _, e, _ => by cases e
  | .src _, _, _, _, _, e, _ => by cases e
  | .ty _, _, _, _, _, e, _ => by cases e
  | .fd _ _, _, _, _, _, e, _ => by cases e
  | .gh _ _, _, _, _, _, e, _ => by cases e
  | .fn _ _ _, _, _, _, _, e, _ => by cases e
  | .ins _ _, _, _, _, _, e, _ => by cases e
  | .obj _, _, _, _, _, e, _ => by cases e
theorem rels_vv (I : Inv X pins σ H s) : ∀ (ds : List D) (vs : List V) (us : List Value) (ps : List PyData), Rels X.K S H ds vs → valPs ds = some ps → Vals vs us → ∀ x ∈ us, VV s (PyData.depthAll ps) x
  | [], _, _, _, r, e, ru => by
    cases e
    cases (show _ = [] from r)
    cases ru
    exact fun x hx => nomatch hx
  | d :: ds, _, _, _, r, e, ru => by
    obtain ⟨p, hp, e2⟩ := Option.bind_eq_some_iff.mp (show (valP d).bind (fun p => (valPs ds).map fun ps => p :: ps) = some _ from e)
    obtain ⟨qs, hq, rfl⟩ := Option.map_eq_some_iff.mp e2
    obtain ⟨v, vs, rfl, r1, r2⟩ := r
    cases ru with
    | cons rv rr =>
      intro x hx
      simp only [PyData.depthAll]
      rcases List.mem_cons.mp hx with rfl | hx
      · exact (rel_vv I d v _ p r1 hp rv).mono (by omega)
      · exact (rels_vv I ds vs _ qs r2 hq rr x hx).mono (by omega)
end
end
end L2.DL

/-! DL92: repr of a list of a text and an own instance (or a tuple of one) -/
namespace L2.DL
open PySem PySem.Spec PyProof.Rows
section
variable {X : Cx} {k : Nat} {g C : Addr} {fd : FuncData} {ps : List Str} {dsp : DSp} {pins : List (Addr × Obj)} {σ : St} {H : Hp} {s : Shared}
end
end L2.DL

/-! DL93: == of a value of any kind and a tuple of one text -/
namespace L2.DL
open PySem PySem.Spec PyProof.Rows
open PySem.SeqAt PySem.MeetsSeq PySem.AutoSeq1
section
variable {A : Around} {s : Shared}
end
section
variable {X : Cx}
end
end L2.DL

/-! DL94: an expression with two readings -/
namespace L2.DL
open PySem PySem.Spec PyProof.Rows
section
variable {X : Cx} {e : Expr} {w1 w2 : WE}
end
end L2.DL

/-! DL101: lambdas as values: D.fn, a function object whose words are known; made as an expression, kept in lists, called by a def that got it. What the words lean on (the maker's cells) is a φ that a reading holds for any φ (wAll1, wAll2). -/
namespace L2.DL
open PySem PySem.Spec PyProof.Rows LamX
section
variable {X : Cx} {pins : List (Addr × Obj)} {σ : L2.St} {H : Hp} {s : Shared} {S : SO}
end
section
variable {X : Cx}
end
end L2.DL

/-! DL102: list comprehensions whose elements may use what the def itself knows at the comprehension's beginning (its frame, with its cells): g(v) for lambdas v made by the def -/
namespace L2.DL
open PySem PySem.Spec PyProof.Rows LamX
section
variable {X : Cx}
end
section
variable {X : Cx}
end
/-- for every φ -/
structure wAllS {α : Type} (w : α → WS) (E : EndsD) (sd : SD) (S : SO) : Prop where
  all : ∀ a, w a E sd S
theorem dss_all {X : Cx} {α : Type} {ss : List Stmt} {w : α → WS} (a : α) (h : DSs X ss (w a)) : DSs X ss (wAllS w) := pss_imp h fun D σ H ⟨sd, S, E, st, q, an⟩ => ⟨sd, S, E, st, q.all a, an⟩
end L2.DL

/-! DL80: a list of anything == [] -/
namespace L2.DL
open PySem PySem.Spec PyProof.Rows
section
variable {X : Cx}
end
end L2.DL

/-! DL78: o.m(e, ..), where e may raise and m does not -/
namespace L2.DL
open PySem PySem.Spec PyProof.Rows
section
variable {X : Cx} {W : WX} {k : Nat} {f C : Addr} {fd : FuncData} {ps : List Str} {dsp : DSp} {dvs : List V} {dds : List D} {ds : List Value} {m : Str} {pos apos : Pos} {e o : Expr} {es : List Expr} {wt : WA} {wo : WE} {w1 : WEX}
end
end L2.DL

/-! DL82: a if c else b as a test -/
namespace L2.DL
open PySem PySem.Spec PyProof.Rows
end L2.DL

/-! DL83: C(..), C told by a parameter, where it may raise; C.m(..), C.m(k = v), m a classmethod that may raise; text.upper() -/
namespace L2.DL
open PySem PySem.Spec PyProof.Rows
section
variable {X : Cx} {W : WX} {k : Nat} {f C : Addr} {fd : FuncData} {ps ks : List Str} {sp : Sp} {dsp : DSp} {dvs : List V} {dds : List D} {ds : List Value} {x m : Str} {p pos apos : Pos} {e o : Expr} {es : List Expr} {kws : List Keyword} {ta : TE} {t tk : TA} {wt wk : WA} {wo wc : WE}
/-! ### C.m(..), m a classmethod that may raise -/
variable {g : List Value → List Value → List Value} {gV : List V → List V → List V} {gD : List D → List D → List D}
/-! ### text.upper() -/
end
end L2.DL

/-! DL84: text.split(sep) as a new object -/
namespace L2.DL
open PySem PySem.Spec PyProof.Rows
section
variable {X : Cx}
end
end L2.DL

/-! DL85: `is not True`, `is not False` of truths; None != a number -/
namespace L2.DL
open PySem PySem.Spec PyProof.Rows
section
variable {X : Cx}
end
end L2.DL

/-! DL86: isinstance(x, T), T a built-in class, x an instance of an own class too -/
namespace L2.DL
open PySem PySem.Spec PyProof.Rows
end L2.DL

namespace L2.DL
local macro_rules | `(tactic| and_intros) => `(tactic| repeat (first | refine Step.go (v := (.s .z)) ?_ | with_reducible refine gTup ?_ | with_reducible refine mthTie ?_ | with_reducible refine andL (by with_unfolding_all exact lez rfl) ?_))
section
open PySem PySem.Spec PyProof.Rows
/-! ### met -/
def Met (ps : List Str) (ts : List (Str × Str)) : Prop := ∀ a ∈ ps, ∀ b ∈ ps, a ≠ b → (a, b) ∈ ts ∨ (b, a) ∈ ts
def sp_is_tied (W : Addr) : DSp := fun ds S Q E => ∃ (ps : List Str) (ts : List (Str × Str)) (a b : Str), ds = [webD W ps ts, .str a, .str b] ∧ Q (.bl (decide ((a, b) ∈ ts) || decide ((b, a) ∈ ts))) S
def w_is_tied (W : Addr) : WS := (wRet (wOrV (wMeth W "has_tie" (sp_Web_has_tie W) [] (wV 0) (wCons (wV 1) (wCons (wV 2) wNil))) (wMeth W "has_tie" (sp_Web_has_tie W) [] (wV 0) (wCons (wV 2) (wCons (wV 1) wNil)))))
theorem pure_is_tied (W : Addr) : ∀ ds S Q E, sp_is_tied W ds S Q E → w_is_tied W (endsOf Q) (startD ["web", "one", "other"] ds) S := by
  rintro ds S Q E ⟨ps, ts, a, b, rfl, q⟩
  refine xFn ?_
  show w_is_tied W _ [some _, some _, some _] S
  unfold w_is_tied
  and_intros
  refine isD (fun h => ?_) (fun h => ?_)
  · and_intros
    rw [decide_eq_true h] at q
    exact cl q
  · and_intros
    rw [decide_eq_false h] at q
    exact cl q
end
section
open PySem PySem.Spec PyProof.Rows
/-! ### one road over all -/
structure Chain (ts : List (Str × Str)) (r : List Str) : Prop where
  nd : r.Nodup
  step : ∀ i a b, r[i]? = some a → r[i + 1]? = some b → (a, b) ∈ ts
theorem Chain.ins {ts : List (Str × Str)} {u v : List Str} {x : Str} (C : Chain ts (u ++ v)) (hx : x ∉ u ++ v) (hu : ∀ y, u.getLast? = some y → (y, x) ∈ ts) (hv : ∀ y, v[0]? = some y → (x, y) ∈ ts) : Chain ts (u ++ [x] ++ v) := by
  refine ⟨?_, fun i a b ha hb => ?_⟩
  · have hp : List.Perm (u ++ [x] ++ v) (x :: (u ++ v)) := by
      rw [List.append_assoc]
      exact List.perm_middle
    exact hp.nodup_iff.mpr (List.nodup_cons.mpr ⟨hx, C.nd⟩)
  · have hul : (u ++ [x]).length = u.length + 1 := by simp
    by_cases h1 : i + 1 < u.length
    · rw [List.getElem?_append_left (by omega), List.getElem?_append_left (by omega)] at ha hb
      exact C.step i a b (by rw [List.getElem?_append_left (by omega)]; exact ha) (by rw [List.getElem?_append_left h1]; exact hb)
    · by_cases h2 : i + 1 = u.length
      · rw [List.getElem?_append_left (by omega), List.getElem?_append_left (by omega)] at ha
        rw [List.getElem?_append_left (by omega), List.getElem?_append_right (by omega), h2, Nat.sub_self] at hb
        have eb : x = b := Option.some.inj hb
        rw [← eb]
        refine hu a ?_
        rw [List.getLast?_eq_getElem?, ← h2]
        exact ha
      · by_cases h3 : i = u.length
        · rw [List.getElem?_append_left (by omega), List.getElem?_append_right (by omega), h3, Nat.sub_self] at ha
          have ea : x = a := Option.some.inj ha
          rw [List.getElem?_append_right (by omega), hul, h3, Nat.sub_self] at hb
          rw [← ea]
          exact hv b hb
        · rw [List.getElem?_append_right (by omega), hul] at ha hb
          refine C.step (i - 1) a b ?_ ?_
          · rw [List.getElem?_append_right (by omega), show i - 1 - u.length = i - (u.length + 1) by omega]
            exact ha
          · rw [List.getElem?_append_right (by omega), show i - 1 + 1 - u.length = i + 1 - (u.length + 1) by omega]
            exact hb
/-- the first place where x may be put -/
def aheadOf (ts : List (Str × Str)) (r : List Str) (x : Str) : List (Str × Nat) := r.zipIdx.filter fun z => decide ((x, z.1) ∈ ts)
def insAt (ts : List (Str × Str)) (r : List Str) (x : Str) : Nat := match aheadOf ts r x with
  | [] => r.length
  | z :: _ => z.2
theorem ahead_nil {ts : List (Str × Str)} {r : List Str} {x : Str} (h : aheadOf ts r x = []) : ∀ y ∈ r, (x, y) ∉ ts := by
  intro y hy hm
  obtain ⟨j, hj⟩ := List.mem_iff_getElem?.mp hy
  have : (y, j) ∈ aheadOf ts r x := List.mem_filter.mpr ⟨by
    refine List.mem_iff_getElem?.mpr ⟨j, ?_⟩
    rw [List.getElem?_zipIdx, hj]
    simp, decide_eq_true hm⟩
  rw [h] at this
  cases this
theorem ahead_cons {ts : List (Str × Str)} {r : List Str} {x : Str} {z : Str × Nat} {l : List (Str × Nat)} (h : aheadOf ts r x = z :: l) : r[z.2]? = some z.1 ∧ (x, z.1) ∈ ts ∧ ∀ j y, j < z.2 → r[j]? = some y → (x, y) ∉ ts := by
  obtain ⟨l1, l2, e, h1, h2, _⟩ := List.filter_eq_cons_iff.mp h
  have hz : r.zipIdx[l1.length]? = some z := by
    rw [e, List.getElem?_append_right (Nat.le_refl _), Nat.sub_self]
    rfl
  have hz2 := hz
  rw [List.getElem?_zipIdx] at hz2
  obtain ⟨w, hw, ew⟩ := Option.map_eq_some_iff.mp hz2
  have ez : z.2 = l1.length := by rw [← ew]; simp
  refine ⟨zip_mem (List.mem_of_getElem? hz), of_decide_eq_true h2, fun j y hj hy hm => ?_⟩
  have hj2 : r.zipIdx[j]? = some (y, j) := by
    rw [List.getElem?_zipIdx, hy]
    simp
  rw [e, List.getElem?_append_left (by omega)] at hj2
  exact h1 _ (List.mem_of_getElem? hj2) (decide_eq_true hm)
theorem Chain.put {ts : List (Str × Str)} {r : List Str} {x : Str} (C : Chain ts r) (hx : x ∉ r) (hm : ∀ y ∈ r, (x, y) ∈ ts ∨ (y, x) ∈ ts) : insAt ts r x ≤ r.length ∧ Chain ts (r.take (insAt ts r x) ++ [x] ++ r.drop (insAt ts r x)) := by
  unfold insAt
  split
  · rename_i h
    refine ⟨Nat.le_refl _, ?_⟩
    rw [List.take_length, List.drop_length]
    refine Chain.ins (u := r) (v := []) (by rw [List.append_nil]; exact C) (by rw [List.append_nil]; exact hx) (fun y hy => ?_) (fun y hy => by simp at hy)
    have hy' := List.mem_of_getLast? hy
    exact (hm y hy').resolve_left (ahead_nil h y hy')
  · rename_i z l h
    obtain ⟨h1, h2, h3⟩ := ahead_cons h
    have hl := (List.getElem?_eq_some_iff.mp h1).1
    refine ⟨by omega, ?_⟩
    have e : r.take z.2 ++ r.drop z.2 = r := List.take_append_drop ..
    refine Chain.ins (by rw [e]; exact C) (by rw [e]; exact hx) (fun y hy => ?_) (fun y hy => ?_)
    · rw [List.getLast?_eq_getElem?, List.length_take, Nat.min_eq_left (by omega)] at hy
      by_cases h0 : z.2 = 0
      · rw [h0] at hy
        simp at hy
      · rw [List.getElem?_take_of_lt (by omega)] at hy
        exact (hm y (List.mem_of_getElem? hy)).resolve_left (h3 _ y (by omega) hy)
    · rw [List.getElem?_drop, Nat.add_zero, h1] at hy
      cases hy
      exact h2
/-- a list is [] or not -/
theorem neL0 {S : SO} {Q : KD} {d : D} {α : Type} {f : α → D} {g : α → PyData} {l : List α} (e : lstD S d = some (l.map f)) (hf : ∀ z ∈ l, pyD (f z) = some (g z)) (hs : SeqAt.shaped (.list (l.map g)) = true) (h : Q (.bl (!l.isEmpty)) S) : oNe d (.lst []) S Q := by
  refine eqD_lst e ⟨.list (l.map g), .list [], pyS_lst e (pyDs_map hf), rfl, hs, by decide +kernel, ?_⟩
  cases l with
  | nil => exact h
  | cons x xs => exact h
theorem shaped_nats {α : Type} (f : α → Nat) (l : List α) : SeqAt.shaped (.list (l.map fun z => PyData.int (f z : Nat))) = true := shaped_list (n := 0) (by decide) (fun x _ => by simp [PyData.canLay0]) (fun x _ => by simp [PyData.depth])
end
section
open PySem PySem.Spec PyProof.Rows
/-! ### law, as most laws of the family have it, for so many turns -/
def w_cup_lawN (W : Addr) (right : DSp) (n : Int) : WS := (wRet (wCall cAll (wCons (wLcF (wRng1 (wCons (wCall cMax (wCons (wC (.int 2)) (wCons (wCall cMin (wCons (wCall cLen (wCons (wV 0) wNil)) (wCons (wC (.int n)) wNil))) wNil))) wNil)) (.n 1) wYes (wFn right [] (wCons (wFn (sp_cup_cup W) [] (wCons (wV 0) (wCons (wV 1) wNil))) wNil)) [1]) wNil)))
theorem pure_cup_lawN (W : Addr) {right : DSp} (n : Int) (hn : 2 ≤ n ∧ n ≤ 63) (hr : RightSp right) : ∀ ds S Q E, LawSp 63 ds S Q E → w_cup_lawN W right n (endsOf Q) (startD ["_law_script", "_law_k"] ds) S := by
  rintro ds S Q E ⟨ns, rfl, hl, rfl, q⟩
  have hl' : (ns.map D.int).length ≤ 63 := by rw [List.length_map]; exact hl
  refine ⟨⟨Or.inl ⟨_, rfl, Or.inl (Or.inl ⟨by omega, by omega, fun p hp => ⟨fun i S' => ∃ k, k ≤ i ∧ S' p = some (.lst (List.replicate k (.bl true))), ⟨0, Nat.le_refl _, set_same⟩, fun _ _ _ => trivial, ?_, ?_⟩⟩)⟩⟩⟩
  · rintro i d S' hi ⟨k, hk, g1⟩
    obtain ⟨rfl, hi2⟩ := rangeD_get hi
    refine upYes (ifY rfl (upI ⟨ns, i, ?_, hl, fun x a b hx => ?_⟩))
    · rw [Int.zero_add]
      rfl
    have hxp : p ≠ x := fun e => by rw [← e, g1] at hx; cases hx
    refine hr x a b 0 _ _ set_same fun a' b' c' => ⟨List.replicate k (.bl true), ?_, ?_, k + 1, by omega, ?_⟩
    · rw [set_ne hxp, set_ne hxp]
      exact g1
    · rw [List.length_replicate]
      omega
    · rw [set_same, List.replicate_succ']
  · rintro S2 ⟨k, hk, g1⟩
    refine ⟨_, g1, List.replicate k true, ?_, cl ?_⟩
    · show some _ = some _
      rw [List.map_replicate]
    · have e : (List.replicate k true).all id = true := by simp
      rw [e]
      exact q _
/-! ### _law_is_road of good roads -/
instance : InjD (fun i : Nat => D.int ((i : Nat) + 1 : Int)) := ⟨fun _ _ h => by injection h with h; omega⟩
end
section
open PySem PySem.Spec PyProof.Rows
/-! ### roads of any kind of value -/
section
variable {S : SO} {Q : KD} {m : Nat} {d x : D} {xs : List D}
theorem Any.items (h : Any m d) (e : asTup d = some xs) : xs.length ≤ m ∧ ∀ x ∈ xs, Any m x := by
  cases h with
  | tup ys hl hx => cases e; exact ⟨hl, hx⟩
  | tf ys hl hx => cases e; exact ⟨hl, hx⟩
  | _ => cases e
theorem Any.sok {s : Str} (h : Any m (.str s)) : sOk s := by
  cases h with
  | str x h => exact h.1
end
def IsRd (ps : List Str) (ts : List (Str × Str)) (d : D) : Prop := ∃ r, asTup d = some (plD r) ∧ RoadOk ps ts r
theorem plD_inj {a b : List Str} (h : plD a = plD b) : a = b := map_inj (f := D.str) h
end
section
open PySem PySem.Spec PyProof.Rows
section
variable {P : Program} {w : World} {K : PySem.W.Frag} {mg : Str → Option Value} {base : Heap}
end
/-! ### _law_is_road of anything -/
/-! ### _law_bent -/
theorem sOk_iff {x : Str} : sOk x ↔ ∀ c ∈ x.cps.toList, c < 0x110000 := by
  refine ⟨fun h c hc => ?_, sOk_of⟩
  have h' : PyData.canLay0 (.str x) = true := h
  simp only [PyData.canLay0, PyData.strOk] at h'
  rw [Array.all_eq_true_iff_forall_mem] at h'
  exact of_decide_eq_true (h' c (by simpa using hc))
end
section
open PySem PySem.Spec PyProof.Rows
end
section
open PySem PySem.Spec PyProof.Rows
/-! ### sorted texts -/
abbrev leS (a b : Str) : Prop := a.cps.toList ≤ b.cps.toList
theorem rising_pw : ∀ (l : List Str) (p : Str), risingS p l = true → (p :: l).Pairwise leS
  | [], p, _ => List.pairwise_singleton _ _
  | x :: r, p, h => by
    have h' : (!ltCps x.cps.toList p.cps.toList && risingS x r) = true := h
    rw [Bool.and_eq_true] at h'
    have ih := rising_pw r x h'.2
    have h1 : leS p x := by
      have := h'.1
      rw [ltCps_eq, Bool.not_eq_true', decide_eq_false_iff_not] at this
      exact List.not_lt.mp this
    refine List.pairwise_cons.mpr ⟨fun y hy => ?_, ih⟩
    rcases List.mem_cons.mp hy with rfl | hy
    · exact h1
    · exact List.le_trans h1 ((List.pairwise_cons.mp ih).1 y hy)
theorem sortedS_pw {l : List Str} (h : sortedS l = true) : l.Pairwise leS := by
  cases l with
  | nil => exact List.Pairwise.nil
  | cons x r => exact rising_pw r x h
theorem leS_anti {a b : Str} (h1 : leS a b) (h2 : leS b a) : a = b := by
  have := List.le_antisymm h1 h2
  cases a
  cases b
  simp only at this
  rw [Array.toList_inj.mp this]
theorem sorted_uniq : ∀ {a b : List Str}, a.Perm b → a.Pairwise leS → b.Pairwise leS → a = b
  | [], b, h, _, _ => (List.Perm.nil_eq h)
  | x :: xs, [], h, _, _ => by simpa using h.length_eq
  | x :: xs, y :: ys, h, h1, h2 => by
    have p1 := List.pairwise_cons.mp h1
    have p2 := List.pairwise_cons.mp h2
    have e : x = y := by
      have m1 : x ∈ y :: ys := h.mem_iff.mp (List.mem_cons_self ..)
      have m2 : y ∈ x :: xs := h.mem_iff.mpr (List.mem_cons_self ..)
      rcases List.mem_cons.mp m1 with e | m1
      · exact e
      rcases List.mem_cons.mp m2 with e | m2
      · exact e.symm
      exact leS_anti (p1.1 y m2) (p2.1 x m1)
    subst e
    rw [sorted_uniq (List.perm_cons x |>.mp h) p1.2 p2.2]
/-! ### partings of any kind of value -/
/-! ### the law's own look -/
theorem srtS {S : SO} {Q : KD} {d : D} {ss : List Str} (e : seqX S d = some (plD ss)) (h : ∀ ss' : List Str, ss'.Perm ss → sortedS ss' = true → Q (.lst (plD ss')) S) : cSorted [d] S Q := .inl ⟨ss, e, h⟩
end
section
open PySem PySem.Spec PyProof.Rows
/-! ### k02: what a web shows -/
def tellOf (ps : List Str) (ts : List (Str × Str)) : Str := ((((Str.empty ++ "Web of ") ++ (toString ((ps.length : Nat) : Int) : Str)) ++ " places and ") ++ (toString ((ts.length : Nat) : Int) : Str)) ++ " ties"
def sp_Web_repr (W : Addr) : DSp := fun ds S Q E => ∃ (ps : List Str) (ts : List (Str × Str)), ds = [webD W ps ts] ∧ WebOk ps ts ∧ Q (.str (tellOf ps ts)) S
end
section
open PySem PySem.Spec PyProof.Rows
/-! ### k02: the web of one place, its ties the default () -/
end
section
open PySem PySem.Spec PyProof.Rows
end
section
open PySem PySem.Spec PyProof.Rows
end
section
open PySem PySem.Spec PyProof.Rows
/-! ### the third family of draws -/
/-! steps -/
theorem xSubD {wo wi : WE} {w : WSet} {x : D} {sd : SD} {S : SO} {Qg : SD → SO → Prop} (h : wo sd S fun d S1 => wi sd S1 fun k S2 => w d k x S2 fun S3 => Qg sd S3) : gSubD wo wi w x sd S Qg := h
instance st_xSubD {lw : Lv} {wo wi : WE} {w : WSet} {x : D} {sd : SD} {S : SO} {Qg : SD → SO → Prop} : Step (.s (.s lw)) (gSubD wo wi w x sd S Qg) (wo sd S fun d S1 => wi sd S1 fun k S2 => w d k x S2 fun S3 => Qg sd S3) := ⟨fun h => xSubD h⟩
def MkD (C : Addr) (sp : DSp) (xs : List D) (S : SO) (Q : KD) : Prop := ∀ p, S p = none → sp (.obj p :: xs) (S.set p (.ins C [])) (fun d S2 => d = .non ∧ ∃ fs, S2 p = some (.ins C fs) ∧ Q (.ins C fs) (S2.del p)) NoE
theorem xMakeF {C : Addr} {sp : DSp} {t : WA} {sd : SD} {S : SO} {Q : KD} (h : t sd S fun xs S1 => MkD C sp xs S1 Q) : wMakeF C sp [] t sd S Q := by
  have e : ∀ xs : List D, xs ++ [] = xs := List.append_nil
  unfold wMakeF
  simp only [e]
  exact h
instance st_xMakeF {lw : Lv} {C : Addr} {sp : DSp} {t : WA} {sd : SD} {S : SO} {Q : KD} : Step (.s (.s lw)) (wMakeF C sp [] t sd S Q) (t sd S fun xs S1 => MkD C sp xs S1 Q) := ⟨fun h => xMakeF h⟩
theorem mkWeb {W : Addr} {ps : List Str} {ts : List (Str × Str)} {S : SO} {Q : KD} (ok : WebOk ps ts) (h : Q (webD W ps ts) S) : MkD W (sp_Web_init W) [.tf (plD ps), .tf (ts.map prD)] S Q := fun p hp => ⟨p, ps, ts, rfl, set_same, ok, rfl, fsD ps ts, set_same, by rw [set_set, del_set hp]; exact h⟩
section
variable {S : SO} {Q : KD} {i j : Int}
theorem xInt (h : Q (.int i) S) : cInt [.int i] S Q := h
instance st_xInt {lw : Lv} : Step (.s (.s lw)) (cInt [.int i] S Q) (Q (.int i) S) := ⟨fun h => xInt h⟩
theorem iModL (h : Q (.int (i % j)) S) (hj : 0 < j := by decide) : oMod (.int i) (.int j) S Q := ⟨hj, h⟩
end
end
section
open PySem PySem.Spec PyProof.Rows
/-! ### k08 -/
end
section
open PySem PySem.Spec PyProof.Rows
/-! ### _law_put_together -/
end
section
open PySem PySem.Spec PyProof.Rows
/-! ### free places -/
def tiedB (ts : List (Str × Str)) (a b : Str) : Bool := decide ((a, b) ∈ ts) || decide ((b, a) ∈ ts)
/-! ### witnesses -/
instance : InjD (fun z : D × List Str => D.tup [z.1, .tup (plD z.2)]) := ⟨fun a b e => by
  injection e with e
  injection e with e1 e
  injection e with e2 e
  injection e2 with e2
  exact Prod.ext e1 (plD_inj e2)⟩
end
section
open PySem PySem.Spec PyProof.Rows
/-! ### ways of any kind of value -/
/-! ### the law's own look -/
end
section
open PySem PySem.Spec PyProof.Rows
/-! ### k37 -/
theorem Any.mono {m m' : Nat} {d : D} (h : Any m d) (hm : m ≤ m') : Any m' d := by
  induction h with
  | non => exact .non
  | bl b => exact .bl b
  | int i => exact .int i
  | str x h => exact .str x ⟨h.1, Nat.le_trans h.2 hm⟩
  | tup xs hl h ih => exact .tup xs (Nat.le_trans hl hm) ih
  | tf xs hl h ih => exact .tf xs (Nat.le_trans hl hm) ih
  | lst xs hl h ih => exact .lst xs (Nat.le_trans hl hm) ih
  | dic t => exact .dic t
end
section
open PySem PySem.Spec PyProof.Rows
/-! ### _law_bent, with numbers that are not too great -/
inductive ValB : Nat → Nat → D → Prop
  | non {n m : Nat} : ValB n m .non
  | bl {n m : Nat} (b : Bool) : ValB n m (.bl b)
  | int {n m : Nat} (i : Int) (h : i.natAbs ≤ 10 ^ 31) : ValB n m (.int i)
  | str {n m : Nat} (x : Str) (h : sOk x) (hl : x.length ≤ m) : ValB n m (.str x)
  | tup {n m : Nat} (xs : List D) (hl : xs.length ≤ m) (h : ∀ x ∈ xs, ValB n m x) : ValB (n + 1) m (.tup xs)
  | lst {n m : Nat} (xs : List D) (hl : xs.length ≤ m) (h : ∀ x ∈ xs, ValB n m x) : ValB (n + 1) m (.lst xs)
  | dic {n m : Nat} (t : Bool) : ValB n m (.dic t [])
theorem ValB.any {n m : Nat} {d : D} (h : ValB n m d) : Any m d := by
  induction h with
  | non => exact .non
  | bl b => exact .bl b
  | int i h => exact .int i
  | str x h hl => exact .str x ⟨h, hl⟩
  | tup xs hl h ih => exact .tup xs hl ih
  | lst xs hl h ih => exact .lst xs hl ih
  | dic t => exact .dic t
theorem ValB.mono {n m : Nat} {d : D} (h : ValB n m d) : ∀ {n' m' : Nat}, n ≤ n' → m ≤ m' → ValB n' m' d := by
  induction h with
  | non => intros; exact .non
  | bl b => intros; exact .bl b
  | int i h => intros; exact .int i h
  | str x h hl => intro n' m' h1 h2; exact .str x h (Nat.le_trans hl h2)
  | tup xs hl h ih =>
    intro n' m' h1 h2
    cases n' with
    | zero => omega
    | succ k => exact .tup xs (Nat.le_trans hl h2) fun x hx => ih x hx (by omega) h2
  | lst xs hl h ih =>
    intro n' m' h1 h2
    cases n' with
    | zero => omega
    | succ k => exact .lst xs (Nat.le_trans hl h2) fun x hx => ih x hx (by omega) h2
  | dic t => intros; exact .dic t
/-! its repr -/
def lenB (m : Nat) : Nat → Nat
  | 0 => 10 * m + 120
  | n + 1 => (m + 1) * (lenB m n + 2) + 4
end
section
open PySem PySem.Spec PyProof.Rows
/-! ### _law_full -/
def tri : Nat → Nat
  | 0 => 0
  | k + 1 => tri k + k
theorem tri_mono : ∀ {k m : Nat}, k ≤ m → tri k ≤ tri m
  | k, 0, h => by
    have : k = 0 := by omega
    rw [this]
    exact Nat.le_refl _
  | k, m + 1, h => by
    by_cases e : k = m + 1
    · rw [e]
      exact Nat.le_refl _
    · have := tri_mono (k := k) (m := m) (by omega)
      show tri k ≤ tri m + m
      omega
theorem tri_20 {m : Nat} (h : m ≤ 20) : tri m ≤ 190 := Nat.le_trans (tri_mono h) (by decide)
structure FullK (ts : List Str) (ls : List (Str × Str)) (k j : Nat) : Prop where
  of : ∀ t ∈ ls, ∃ x y a b, x < y ∧ (y < k ∨ y = k ∧ x < j) ∧ ts[x]? = some a ∧ ts[y]? = some b ∧ (t = (a, b) ∨ t = (b, a))
  all : ∀ x y a b, x < y → (y < k ∨ y = k ∧ x < j) → ts[x]? = some a → ts[y]? = some b → (a, b) ∈ ls ∨ (b, a) ∈ ls
  nd : ls.Nodup
  len : ls.length = tri k + j
theorem FullK.more {ts : List Str} {ls : List (Str × Str)} {k j : Nat} (h : FullK ts ls k j) (hd : ts.Nodup) (hj : j < k) {a b : Str} (ha : ts[j]? = some a) (hb : ts[k]? = some b) {t : Str × Str} (ht : t = (a, b) ∨ t = (b, a)) : FullK ts (ls ++ [t]) k (j + 1) := by
  have nt : t ∉ ls := fun hm => by
    obtain ⟨x, y, c, d, h1, h2, h3, h4, h5⟩ := h.of t hm
    have key : (a = c ∧ b = d) ∨ (a = d ∧ b = c) := by
      rcases ht with rfl | rfl <;> rcases h5 with e | e <;> cases e
      · exact .inl ⟨rfl, rfl⟩
      · exact .inr ⟨rfl, rfl⟩
      · exact .inr ⟨rfl, rfl⟩
      · exact .inl ⟨rfl, rfl⟩
    rcases key with ⟨rfl, rfl⟩ | ⟨rfl, rfl⟩
    · have e1 := nodup_ix hd ha h3
      have e2 := nodup_ix hd hb h4
      omega
    · have e1 := nodup_ix hd ha h4
      have e2 := nodup_ix hd hb h3
      omega
  refine ⟨fun u hu => ?_, fun x y c d h1 h2 h3 h4 => ?_, ?_, ?_⟩
  · rcases List.mem_append.mp hu with hu | hu
    · obtain ⟨x, y, c, d, h1, h2, h3⟩ := h.of u hu
      exact ⟨x, y, c, d, h1, by omega, h3⟩
    · rw [List.mem_singleton] at hu
      exact ⟨j, k, a, b, hj, by omega, ha, hb, hu ▸ ht⟩
  · by_cases hc : y = k ∧ x = j
    · obtain ⟨rfl, rfl⟩ := hc
      rw [ha] at h3
      rw [hb] at h4
      cases h3
      cases h4
      rcases ht with rfl | rfl
      · exact .inl (by simp)
      · exact .inr (by simp)
    · rcases h.all x y c d h1 (by omega) h3 h4 with h | h
      · exact .inl (List.mem_append_left _ h)
      · exact .inr (List.mem_append_left _ h)
  · rw [List.nodup_append]
    exact ⟨h.nd, by simp, fun x hx y hy e => nt (by rw [List.mem_singleton] at hy; rw [← hy, ← e]; exact hx)⟩
  · rw [List.length_append, List.length_singleton, h.len]
    omega
theorem FullK.next {ts : List Str} {ls : List (Str × Str)} {k : Nat} (h : FullK ts ls k k) : FullK ts ls (k + 1) 0 := by
  refine ⟨fun t ht => ?_, fun x y c d h1 h2 h3 h4 => h.all x y c d h1 (by omega) h3 h4, h.nd, ?_⟩
  · obtain ⟨x, y, c, d, h1, h2, h3⟩ := h.of t ht
    exact ⟨x, y, c, d, h1, by omega, h3⟩
  · rw [h.len]
    show _ = tri k + k + 0
    omega
theorem FullK.zero {ts : List Str} : FullK ts [] 0 0 := ⟨by simp, fun x y c d h1 h2 => by omega, List.nodup_nil, rfl⟩
theorem FullK.tie {ts : List Str} {ls : List (Str × Str)} {k j : Nat} (h : FullK ts ls k j) (hd : ts.Nodup) : TieL ts ls := by
  refine ⟨fun t ht => ?_, h.nd⟩
  obtain ⟨x, y, a, b, h1, h2, h3, h4, h5⟩ := h.of t ht
  have hne : a ≠ b := fun e => by
    have := nodup_ix hd h3 (e ▸ h4)
    omega
  rcases h5 with rfl | rfl
  · exact ⟨List.mem_of_getElem? h3, List.mem_of_getElem? h4, hne⟩
  · exact ⟨List.mem_of_getElem? h4, List.mem_of_getElem? h3, hne.symm⟩
theorem FullK.met {ts : List Str} {ls : List (Str × Str)} (h : FullK ts ls ts.length 0) : Met ts ls := by
  intro a ha b hb hne
  obtain ⟨x, hx⟩ := List.mem_iff_getElem?.mp ha
  obtain ⟨y, hy⟩ := List.mem_iff_getElem?.mp hb
  have hxl := (List.getElem?_eq_some_iff.mp hx).1
  have hyl := (List.getElem?_eq_some_iff.mp hy).1
  by_cases h1 : x < y
  · exact h.all x y a b h1 (.inl hyl) hx hy
  · by_cases h2 : y < x
    · exact (h.all y x b a h2 (.inl hxl) hy hx).symm
    · have e : x = y := by omega
      rw [e, hy] at hx
      exact absurd (Option.some.inj hx).symm hne
end
section
open PySem PySem.Spec PyProof.Rows
/-! ### k18 -/
theorem Met.sw {ts : List Str} {ls : List (Str × Str)} (M : Met ts ls) : Met ts (sw ls) := fun a ha b hb hne => (M a ha b hb hne).symm.imp mem_sw.mpr mem_sw.mpr
theorem RoadOk.whole {ts : List Str} {ls : List (Str × Str)} {r : List Str} (R : RoadOk ts ls r) (h : r.length = ts.length) : PartOk ts ls [r] := ⟨fun x hx => by rw [List.mem_singleton] at hx; exact hx ▸ R, by simpa using R.nd, by simpa using h⟩
end
end L2.DL
namespace L2.DL
local macro_rules | `(tactic| and_intros) => `(tactic| repeat (first | refine Step.go (v := (.s (.s (.s (.s .z))))) ?_ | with_reducible refine gTup ?_ | with_reducible refine mthTie ?_ | with_reducible refine iModL ?_ | with_reducible refine xGTl ?_ | with_reducible refine andL (by with_unfolding_all exact lez rfl) ?_))
section
open PySem PySem.Spec PyProof.Rows
/-! ### the law's own sorting of what is raised -/
end
section
open PySem PySem.Spec PyProof.Rows
end
section
open PySem PySem.Spec PyProof.Rows
/-! ### the pairs that no tie joins, in order -/
def apart (ts : List (Str × Str)) : List Str → List (Str × Str)
  | [] => []
  | a :: r => ((r.filter fun b => !tiedB ts a b).map fun b => (a, b)) ++ apart ts r
theorem apart_drop {ts : List (Str × Str)} {ps : List Str} {i : Nat} {z : Str} (h : ps[i]? = some z) : apart ts (ps.drop i) = (((ps.drop (i + 1)).filter fun b => !tiedB ts z b).map fun b => (z, b)) ++ apart ts (ps.drop (i + 1)) := by
  obtain ⟨hi, rfl⟩ := List.getElem?_eq_some_iff.mp h
  rw [List.drop_eq_getElem_cons hi]
  rfl
theorem apart_nil {ts : List (Str × Str)} : ∀ {ps : List Str}, apart ts ps = [] → Met ps ts
  | [], _ => fun a ha => by simp at ha
  | c :: r, h => by
    obtain ⟨h1, h2⟩ := List.append_eq_nil_iff.mp (show ((r.filter fun b => !tiedB ts c b).map fun b => (c, b)) ++ apart ts r = [] from h)
    have h3 := List.filter_eq_nil_iff.mp (List.map_eq_nil_iff.mp h1)
    have ih := apart_nil h2
    have tc : ∀ b ∈ r, (c, b) ∈ ts ∨ (b, c) ∈ ts := fun b hb => by
      have z := h3 b hb
      unfold tiedB at z
      rcases hh : decide ((c, b) ∈ ts) with _ | _
      · rw [hh] at z
        exact .inr (by simpa using z)
      · exact .inl (of_decide_eq_true hh)
    intro a ha b hb ne
    rcases List.mem_cons.mp ha with rfl | ha
    · rcases List.mem_cons.mp hb with rfl | hb
      · exact absurd rfl ne
      · exact tc b hb
    · rcases List.mem_cons.mp hb with e | hb
      · rw [e]
        exact (tc a ha).symm
      · exact ih a ha b hb ne
def sp_first_untiedX (W : Addr) : DSp := fun ds S Q E => ∃ (ps : List Str) (ts : List (Str × Str)), ds = [webD W ps ts] ∧ WebOk ps ts ∧ (apart ts ps = [] → Q .non S) ∧ ∀ a b l, apart ts ps = (a, b) :: l → Q (.tup [.str a, .str b]) S
def w_first_untiedX (W : Addr) : WS := (wSeq (wFor (wEnum (wCons (wFld W "row" (wV 0)) wNil)) (gT 2 (gC (gV 1) (gC (gV 2) gN))) (wFor (wSeqI (wSl (wFld W "row" (wV 0)) (pSome (wO oAdd (wV 1) (wC (.int 1)))) pNone)) (gV 3) (wIfS (wNot (wB (wFn (sp_is_tied W) [] (wCons (wV 0) (wCons (wV 2) (wCons (wV 3) wNil)))))) (wRet (wTup (wCons (wV 2) (wCons (wV 3) wNil)))) wNext)))
    (wRet (wC .non)))
theorem pure_first_untiedX (W : Addr) : ∀ ds S Q E, sp_first_untiedX W ds S Q E → w_first_untiedX W (endsOf Q) (startD ["web", "index", "one", "other"] ds) S := by
  rintro ds S Q E ⟨ps, ts, rfl, ok, q0, q1⟩
  have few := ok.few
  refine xFn ?_
  show w_first_untiedX W _ [some _, none, none, none] S
  unfold w_first_untiedX
  and_intros
  refine forE ps D.str (fun a : Option D × Option D × Option D => [some (webD W ps ts), a.1, a.2.1, a.2.2]) (fun _ => S) (fun i _ => apart ts ps = apart ts (ps.drop i)) (none, none, none) rfl ?_ ?_
  · rintro i z a hz hv
    have hv' : apart ts ps = apart ts (ps.drop i) := hv
    have hz' := List.getElem?_eq_some_iff.mp hz
    and_intros
    refine slTfLo1 ?_ (by rw [List.length_map]; have := hz'.1; omega)
    rw [← List.map_drop]
    and_intros
    refine forJ (ps.drop (i + 1)) D.str (fun a : Option D => [some (webD W ps ts), some (.int i), some (.str z), a]) (fun _ => S) (fun j _ => ((ps.drop (i + 1)).take j).filter (fun b => !tiedB ts z b) = []) a.2.2 (by simp) ?_ ?_
    · rintro j y b hy hj
      have hj' : ((ps.drop (i + 1)).take j).filter (fun b => !tiedB ts z b) = [] := hj
      and_intros
      refine ⟨ps, ts, z, y, rfl, ?_⟩
      and_intros
      refine isCB (fun h => ?_) (fun h => ?_)
      · and_intros
        refine .of (some (.str y)) ?_
        show ((ps.drop (i + 1)).take (j + 1)).filter (fun b => !tiedB ts z b) = []
        rw [List.take_succ, hy, List.filter_append, hj']
        show [].append (List.filter _ [y]) = []
        have h2 : tiedB ts z y = true := h
        simp [h2]
      · and_intros
        refine cl (q1 z y ((((ps.drop (i + 1)).drop (j + 1)).filter (fun b => !tiedB ts z b)).map (fun b => (z, b)) ++ apart ts (ps.drop (i + 1))) ?_)
        · rw [hv', apart_drop hz]
          have e : (ps.drop (i + 1)).filter (fun b => !tiedB ts z b) = y :: ((ps.drop (i + 1)).drop (j + 1)).filter (fun b => !tiedB ts z b) := by
            obtain ⟨hlt, ey⟩ := List.getElem?_eq_some_iff.mp hy
            have h2 : tiedB ts z y = false := h
            calc (ps.drop (i + 1)).filter (fun b => !tiedB ts z b) = ((ps.drop (i + 1)).take j ++ (ps.drop (i + 1)).drop j).filter (fun b => !tiedB ts z b) := by rw [List.take_append_drop]
              _ = _ := by rw [List.filter_append, hj', List.nil_append, List.drop_eq_getElem_cons hlt, ey, List.filter_cons_of_pos (by simp [h2])]
          rw [e]
          rfl
    · rintro b hj
      refine .of (some (.int i), some (.str z), b) ?_
      show apart ts ps = apart ts (ps.drop (i + 1))
      have hj' : ((ps.drop (i + 1)).take (ps.drop (i + 1)).length).filter (fun b => !tiedB ts z b) = [] := hj
      rw [List.take_length] at hj'
      rw [hv', apart_drop hz, hj']
      rfl
  · rintro a hv
    have hv' : apart ts ps = apart ts (ps.drop ps.length) := hv
    rw [List.drop_length] at hv'
    and_intros
    exact cl (q0 hv')
def sp_all_metX (W : Addr) : DSp := fun ds S Q E => ∃ (ps : List Str) (ts : List (Str × Str)), ds = [webD W ps ts] ∧ WebOk ps ts ∧ Q (.bl (apart ts ps).isEmpty) S
def w_all_metX (W : Addr) : WS := (wSeq (wDrop (wFn (sp_check_web W) [] (wCons (wV 0) wNil)))
    (wRet (wO oIsN (wFn (sp_first_untiedX W) [] (wCons (wV 0) wNil)) (wC .non))))
theorem pure_all_metX (W : Addr) : ∀ ds S Q E, sp_all_metX W ds S Q E → w_all_metX W (endsOf Q) (startD ["web"] ds) S := by
  rintro ds S Q E ⟨ps, ts, rfl, ok, q⟩
  refine xFn ?_
  show w_all_metX W _ [some _] S
  unfold w_all_metX
  and_intros
  refine ⟨ps, ts, rfl, ok, fun h => ?_, fun a b l h => ?_⟩
  · rw [h] at q
    and_intros
    exact cl q
  · rw [h] at q
    and_intros
    exact cl q
end
section
open PySem PySem.Spec PyProof.Rows
/-! ### a dense net -/
structure Dn (ts : List Str) (ls : List (Str × Str)) (k j : Nat) : Prop where
  nd : ls.Nodup
  is : ∀ t ∈ ls, ∃ (i' j' : Nat) (a b : Str), j' < i' ∧ (i' < k ∨ (i' = k ∧ j' < j)) ∧ ts[i']? = some a ∧ ts[j']? = some b ∧ (t = (a, b) ∨ t = (b, a))
theorem Dn.zero {ts : List Str} : Dn ts [] 0 0 := ⟨List.nodup_nil, fun t ht => by simp at ht⟩
theorem Dn.next {ts : List Str} {ls : List (Str × Str)} {k : Nat} (h : Dn ts ls k k) : Dn ts ls (k + 1) 0 := ⟨h.nd, fun t ht => by
  obtain ⟨i', j', a, b, h1, h2, h3⟩ := h.is t ht
  exact ⟨i', j', a, b, h1, .inl (by omega), h3⟩⟩
theorem Dn.skip {ts : List Str} {ls : List (Str × Str)} {k j : Nat} (h : Dn ts ls k j) : Dn ts ls k (j + 1) := ⟨h.nd, fun t ht => by
  obtain ⟨i', j', a, b, h1, h2, h3⟩ := h.is t ht
  exact ⟨i', j', a, b, h1, by omega, h3⟩⟩
theorem Dn.fresh {ts : List Str} {ls : List (Str × Str)} {k j : Nat} {x y : Str} (h : Dn ts ls k j) (nd : ts.Nodup) (hj : j < k) (hx : ts[j]? = some x) (hy : ts[k]? = some y) : ∀ t ∈ ls, t ≠ (x, y) ∧ t ≠ (y, x) := fun t ht => by
  obtain ⟨i', j', a, b, h1, h2, h3, h4, h5⟩ := h.is t ht
  have key : ¬ (a = y ∧ b = x) := fun ⟨e1, e2⟩ => by
    have e3 := nodup_ix nd (e1 ▸ h3) hy
    have e4 := nodup_ix nd (e2 ▸ h4) hx
    omega
  have key2 : ¬ (a = x ∧ b = y) := fun ⟨e1, e2⟩ => by
    have e3 := nodup_ix nd (e1 ▸ h3) hx
    have e4 := nodup_ix nd (e2 ▸ h4) hy
    omega
  constructor
  · intro e
    rcases h5 with h5 | h5 <;> rw [e] at h5 <;> injection h5 with e1 e2
    · exact key2 ⟨e1.symm, e2.symm⟩
    · exact key ⟨e2.symm, e1.symm⟩
  · intro e
    rcases h5 with h5 | h5 <;> rw [e] at h5 <;> injection h5 with e1 e2
    · exact key ⟨e1.symm, e2.symm⟩
    · exact key2 ⟨e2.symm, e1.symm⟩
theorem Dn.add {ts : List Str} {ls add : List (Str × Str)} {k j : Nat} {x y : Str} (h : Dn ts ls k j) (nd : ts.Nodup) (hj : j < k) (hx : ts[j]? = some x) (hy : ts[k]? = some y) (n2 : add.Nodup) (ha : ∀ t ∈ add, t = (x, y) ∨ t = (y, x)) : Dn ts (ls ++ add) k (j + 1) := by
  refine ⟨?_, fun t ht => ?_⟩
  · rw [List.nodup_append]
    refine ⟨h.nd, n2, fun s hs u hu e => ?_⟩
    have f := h.fresh nd hj hx hy s hs
    rcases ha u hu with e2 | e2
    · exact f.1 (e.trans e2)
    · exact f.2 (e.trans e2)
  · rcases List.mem_append.mp ht with ht | ht
    · exact h.skip.is t ht
    · exact ⟨k, j, y, x, hj, .inr ⟨rfl, by omega⟩, hy, hx, (ha t ht).symm⟩
theorem Dn.tie {ts : List Str} {ls : List (Str × Str)} {k j : Nat} (h : Dn ts ls k j) (nd : ts.Nodup) : TieL ts ls := ⟨fun t ht => by
  obtain ⟨i', j', a, b, h1, h2, h3, h4, h5⟩ := h.is t ht
  have ha := List.mem_of_getElem? h3
  have hb := List.mem_of_getElem? h4
  have ne : a ≠ b := fun e => by
    have := nodup_ix nd (e ▸ h3) h4
    omega
  rcases h5 with rfl | rfl
  · exact ⟨ha, hb, ne⟩
  · exact ⟨hb, ha, ne.symm⟩, h.nd⟩
end
section
open PySem PySem.Spec PyProof.Rows
/-! ### law, with the tables of the lambdas -/
/-! ### the law of k17 -/
def cameD (r : List Str) : D := .tup [.str "back", .tup (plD r)]
instance : InjD cameD := ⟨fun a b e => by
  unfold cameD at e
  injection e with e
  injection e with _ e
  injection e with e _
  injection e with e
  exact plD_inj e⟩
end
end L2.DL
namespace L2.DL
open PySem PySem.Spec PyProof.Rows
/-! ### texts of webs are apart -/
end L2.DL

namespace L2.DL
open PySem PySem.Spec PyProof.Rows
/-! ### k02: the page as text -/
end L2.DL

namespace L2.DL
open PySem PySem.Spec PyProof.Rows
/-! ### values of any kind are shown -/
theorem piled_up {B : Nat} : ∀ {ts : List Str}, (∀ t ∈ ts, t.length ≤ B) → piled ts ≤ ts.length * (B + 2)
  | [], _ => by simp [piled]
  | t :: ts, h => by
    have ih := piled_up (ts := ts) fun u hu => h u (List.mem_cons_of_mem _ hu)
    have h1 := h t (List.mem_cons_self ..)
    have e : piled (t :: ts) = (t.length + 2) + piled ts := by simp [piled]
    rw [e, List.length_cons, Nat.succ_mul]
    omega
theorem join_up {B : Nat} {ts : List Str} (h : ∀ t ∈ ts, t.length ≤ B) : (Str.join ", " ts).length ≤ ts.length * (B + 2) := by
  cases ts with
  | nil => exact Nat.zero_le _
  | cons t ts =>
    have h1 := join_length_add (t :: ts) (by simp)
    have h2 := piled_up h
    omega
theorem textFrom_up {B : Nat} : ∀ {ts : List Str} (k : Nat) (acc : Str), (∀ t ∈ ts, t.length ≤ B) → (textFrom k acc ts).length ≤ acc.length + ts.length * (B + 2)
  | [], k, acc, _ => by show acc.length ≤ _; omega
  | t :: ts, k, acc, h => by
    have ih := textFrom_up (ts := ts) (k + 1) (acc ++ (if k > 0 then ", " else "" : String) ++ t) fun u hu => h u (List.mem_cons_of_mem _ hu)
    have h1 := h t (List.mem_cons_self ..)
    have e : (acc ++ (if k > 0 then ", " else "" : String) ++ t : Str).length ≤ acc.length + 2 + t.length := by
      rw [strLen_append, strLen_append]
      have : (((if k > 0 then ", " else "" : String)) : Str).length ≤ 2 := by split <;> decide
      omega
    show (textFrom (k + 1) _ ts).length ≤ _
    rw [List.length_cons, Nat.succ_mul]
    omega
theorem listText_up {B : Nat} {ts : List Str} (h : ∀ t ∈ ts, t.length ≤ B) : (listText ts).length ≤ ts.length * (B + 2) + 2 := by
  have z := textFrom_up 0 "[" h
  unfold listText
  rw [strLen_append]
  have e1 : (("[" : String) : Str).length = 1 := by decide
  have e2 : (("]" : String) : Str).length = 1 := by decide
  omega
theorem tupleText_up {B : Nat} {ts : List Str} (h : ∀ t ∈ ts, t.length ≤ B) : (tupleText ts).length ≤ ts.length * (B + 2) + 3 := by
  have z := join_up h
  unfold tupleText
  rw [strLen_append, strLen_append]
  have e1 : ("(" : Str).length = 1 := by decide
  have e2 : (((if ts.length == 1 then ",)" else ")" : String)) : Str).length ≤ 2 := by split <;> decide
  omega
theorem valPs_of {n B : Nat} : ∀ {xs : List D}, (∀ x ∈ xs, ∃ p, valP x = some p ∧ p.showable = true ∧ p.depth ≤ n ∧ p.shown.length ≤ B) → ∃ ps, valPs xs = some ps ∧ PyData.showableAll ps = true ∧ PyData.depthAll ps ≤ n ∧ (∀ t ∈ PyData.shownAll ps, t.length ≤ B) ∧ (PyData.shownAll ps).length = xs.length
  | [], _ => ⟨[], rfl, by simp [PyData.showableAll], by simp [PyData.depthAll], by simp [PyData.shownAll], by simp [PyData.shownAll]⟩
  | x :: xs, h => by
    obtain ⟨p, h1, h2, h3, h4⟩ := h x (List.mem_cons_self ..)
    obtain ⟨ps, g1, g2, g3, g4, g5⟩ := valPs_of (xs := xs) fun y hy => h y (List.mem_cons_of_mem _ hy)
    refine ⟨p :: ps, ?_, by simp [PyData.showableAll, h2, g2], by simp only [PyData.depthAll]; omega, fun t ht => ?_, by simp [PyData.shownAll, g5]⟩
    · show (valP x).bind (fun p => (valPs xs).map fun ps => p :: ps) = _
      rw [h1, g1]
      rfl
    · simp only [PyData.shownAll, List.mem_cons] at ht
      rcases ht with rfl | ht
      · exact h4
      · exact g4 t ht
theorem small_int {i : Int} (h : i.natAbs ≤ 10 ^ 31) : i.natAbs.log2 < 110 := by
  rcases Nat.eq_zero_or_pos i.natAbs with h0 | h0
  · rw [h0]
    decide
  · exact (Nat.log2_lt (by omega)).mpr (Nat.lt_of_le_of_lt h (by decide))
theorem ValB.shown {n m : Nat} {d : D} (h : ValB n m d) : ∃ p, valP d = some p ∧ p.showable = true ∧ p.depth ≤ n + 1 ∧ p.shown.length ≤ lenB m n := by
  have l0 : ∀ n, 120 ≤ lenB m n ∧ 10 * m ≤ lenB m n := fun n => by
    induction n with
    | zero => unfold lenB; omega
    | succ n ih =>
      unfold lenB
      have := Nat.le_mul_of_pos_left (lenB m n + 2) (show 0 < m + 1 by omega)
      omega
  have l1 : ∀ {n m : Nat}, 10 * m + 2 ≤ lenB m n := fun {n m} => by
    cases n with
    | zero => unfold lenB; omega
    | succ n =>
      have : ∀ k, 10 * m + 2 ≤ lenB m k := fun k => by
        induction k with
        | zero => unfold lenB; omega
        | succ k ih =>
          unfold lenB
          have := Nat.le_mul_of_pos_left (lenB m k + 2) (show 0 < m + 1 by omega)
          omega
      exact this _
  have l2 : ∀ {n m : Nat}, 120 ≤ lenB m n := fun {n m} => by
    induction n with
    | zero => unfold lenB; omega
    | succ n ih =>
      unfold lenB
      have := Nat.le_mul_of_pos_left (lenB m n + 2) (show 0 < m + 1 by omega)
      omega
  clear l0
  induction h with
  | non => exact ⟨_, rfl, rfl, by simp [PyData.depth], Nat.le_trans (show (PyData.shown .none).length ≤ 120 by simp only [PyData.shown]; decide) l2⟩
  | bl b => exact ⟨_, rfl, rfl, by simp [PyData.depth], Nat.le_trans (show (PyData.shown (.bool b)).length ≤ 120 by simp only [PyData.shown]; cases b <;> decide) l2⟩
  | int i h =>
    have h2 := small_int h
    refine ⟨_, rfl, by simp only [PyData.showable]; exact decide_eq_true (by omega), by simp [PyData.depth], Nat.le_trans ?_ l2⟩
    simp only [PyData.shown]
    rw [PySem.ofString_length]
    have := int_text_length_le (k := 110) (by decide) h2
    omega
  | @str n m x h hl =>
    refine ⟨_, rfl, rfl, by simp [PyData.depth], ?_⟩
    simp only [PyData.shown]
    have z := StrLaws.reprText_len x fun c hc => Nat.lt_trans (sOk_iff.mp h c hc) (by decide)
    have := l1 (n := n) (m := m)
    omega
  | @tup n m xs hl h ih =>
    obtain ⟨ps, h1, h2, h3, h4, h5⟩ := valPs_of ih
    refine ⟨.tuple ps, by show (valPs xs).map PyData.tuple = _; rw [h1]; rfl, by simp only [PyData.showable]; exact h2, by simp only [PyData.depth]; omega, ?_⟩
    simp only [PyData.shown]
    have z := tupleText_up h4
    rw [h5] at z
    have := Nat.mul_le_mul_right (lenB m n + 2) hl
    show _ ≤ (m + 1) * (lenB m n + 2) + 4
    rw [Nat.succ_mul]
    omega
  | @lst n m xs hl h ih =>
    obtain ⟨ps, h1, h2, h3, h4, h5⟩ := valPs_of ih
    refine ⟨.list ps, by show (valPs xs).map PyData.list = _; rw [h1]; rfl, by simp only [PyData.showable]; exact h2, by simp only [PyData.depth]; omega, ?_⟩
    simp only [PyData.shown]
    have z := listText_up h4
    rw [h5] at z
    have := Nat.mul_le_mul_right (lenB m n + 2) hl
    show _ ≤ (m + 1) * (lenB m n + 2) + 4
    rw [Nat.succ_mul]
    omega
  | dic t => exact ⟨_, rfl, by simp [PyData.showable, PyData.showableKv], by simp [PyData.depth, PyData.depthKv], Nat.le_trans (show (PyData.shown (.dict [])).length ≤ 120 by simp only [PyData.shown, PyData.shownKv]; decide) l2⟩
theorem ValB.showV {n m : Nat} {d : D} (h : ValB n m d) (hn : n ≤ 60) (hm : lenB m n ≤ 16777216) : ∃ p, valP d = some p ∧ ShowV p := by
  obtain ⟨p, h1, h2, h3, h4⟩ := h.shown
  exact ⟨p, h1, h2, by omega, by rw [sizeLine_eq]; omega⟩
end L2.DL

namespace L2.DL
open PySem PySem.Spec PyProof.Rows
theorem okS_list {ts : List Str} (h : ∀ t ∈ ts, OkS t) : OkS (listText ts) := okS_app (okS_from ts 0 _ (okS_lit "[") h) (okS_lit "]")
theorem okS_tuple {ts : List Str} (h : ∀ t ∈ ts, OkS t) : OkS (tupleText ts) := by
  unfold tupleText
  refine okS_app (okS_app (okS_lit "(") (okS_join ts h)) ?_
  split
  · exact okS_lit ",)"
  · exact okS_lit ")"
theorem okS_valPs : ∀ {xs : List D} {ps : List PyData}, (∀ x ∈ xs, ∀ p, valP x = some p → OkS p.shown) → valPs xs = some ps → ∀ t ∈ PyData.shownAll ps, OkS t
  | [], _, _, e, t, ht => by
    cases e
    simp [PyData.shownAll] at ht
  | x :: xs, _, h, e, t, ht => by
    obtain ⟨p, hp, e2⟩ := Option.bind_eq_some_iff.mp (show (valP x).bind (fun p => (valPs xs).map fun ps => p :: ps) = some _ from e)
    obtain ⟨qs, hq, rfl⟩ := Option.map_eq_some_iff.mp e2
    simp only [PyData.shownAll, List.mem_cons] at ht
    rcases ht with rfl | ht
    · exact h x (List.mem_cons_self ..) p hp
    · exact okS_valPs (fun y hy => h y (List.mem_cons_of_mem _ hy)) hq t ht
theorem ValB.okS {n m : Nat} {d : D} (h : ValB n m d) : ∀ p, valP d = some p → OkS p.shown := by
  induction h with
  | non =>
    intro p e
    cases e
    simp only [PyData.shown]
    exact okS_lit "None"
  | bl b =>
    intro p e
    cases e
    simp only [PyData.shown]
    cases b
    · exact okS_lit "False"
    · exact okS_lit "True"
  | int i h =>
    intro p e
    cases e
    simp only [PyData.shown]
    exact okS_lit _
  | str x h hl =>
    intro p e
    cases e
    simp only [PyData.shown]
    exact okS_repr (okS_of h)
  | tup xs hl h ih =>
    intro p e
    obtain ⟨ps, hp, rfl⟩ := Option.map_eq_some_iff.mp (show (valPs xs).map PyData.tuple = some p from e)
    simp only [PyData.shown]
    exact okS_tuple (okS_valPs ih hp)
  | lst xs hl h ih =>
    intro p e
    obtain ⟨ps, hp, rfl⟩ := Option.map_eq_some_iff.mp (show (valPs xs).map PyData.list = some p from e)
    simp only [PyData.shown]
    exact okS_list (okS_valPs ih hp)
  | dic t =>
    intro p e
    cases e
    simp only [PyData.shown, PyData.shownKv]
    exact okS_lit "{}"
end L2.DL

namespace L2.DL
open PySem PySem.Spec PyProof.Rows
end L2.DL

namespace L2.DL
local macro_rules | `(tactic| and_intros) => `(tactic| repeat (first | refine Step.go (v := (.s (.s .z))) ?_ | with_reducible refine gTup ?_ | with_reducible refine mthTie ?_ | with_reducible refine iModL ?_ | with_reducible refine andL (by with_unfolding_all exact lez rfl) ?_))
section
open PySem PySem.Spec PyProof.Rows
/-! ### _law_labels -/
end
section
open PySem PySem.Spec PyProof.Rows
/-! ### _law_order -/
abbrev nsD (l : List Nat) : List D := l.map fun i : Nat => D.int (i : Nat)
/-! ### _law_links -/
def ipD (t : Nat × Nat) : D := .tup [.int (t.1 : Nat), .int (t.2 : Nat)]
theorem ipD_inj {a b : Nat × Nat} (h : ipD a = ipD b) : a = b := by
  unfold ipD at h
  injection h with h
  injection h with h1 h
  injection h with h2 h
  injection h1 with h1
  injection h2 with h2
  exact Prod.ext (by omega) (by omega)
instance : InjD ipD := ⟨fun _ _ h => ipD_inj h⟩
end
section
open PySem PySem.Spec PyProof.Rows
/-! ### _law_web, _law_scene -/
theorem nodup_map_on {α β : Type} {f : α → β} : ∀ {l : List α}, (∀ x ∈ l, ∀ y ∈ l, f x = f y → x = y) → l.Nodup → (l.map f).Nodup
  | [], _, _ => List.nodup_nil
  | x :: l, h, n => by
    have n2 := List.nodup_cons.mp n
    refine List.nodup_cons.mpr ⟨fun hm => ?_, nodup_map_on (fun a ha b hb => h a (List.mem_cons_of_mem _ ha) b (List.mem_cons_of_mem _ hb)) n2.2⟩
    obtain ⟨y, hy, e⟩ := List.mem_map.mp hm
    exact n2.1 (h y (List.mem_cons_of_mem _ hy) x (List.mem_cons_self ..) e ▸ hy)
def nmT (ts : List Str) (t : Nat × Nat) : Str × Str := (ts.getD t.1 Str.empty, ts.getD t.2 Str.empty)
abbrev nmL (ts : List Str) (ls : List (Nat × Nat)) : List (Str × Str) := ls.map (nmT ts)
theorem getD_get {ts : List Str} {i : Nat} (h : i < ts.length) : ts[i]? = some (ts.getD i Str.empty) := by
  rw [List.getD_eq_getElem?_getD, List.getElem?_eq_getElem h]
  rfl
theorem getD_inj {ts : List Str} (nd : ts.Nodup) {i j : Nat} (hi : i < ts.length) (hj : j < ts.length) (h : ts.getD i Str.empty = ts.getD j Str.empty) : i = j := nodup_ix nd (getD_get hi) (h ▸ getD_get hj)
/-- names and ties by numbers -/
structure NetI (ts : List Str) (ls : List (Nat × Nat)) : Prop where
  nm : NamesOk ts
  pos : 0 < ts.length
  few : ts.length ≤ 40
  ok : ∀ t ∈ ls, t.1 < ts.length ∧ t.2 < ts.length ∧ t.1 ≠ t.2
  nd : ls.Nodup
  lfew : ls.length ≤ 200
theorem NetI.web {ts : List Str} {ls : List (Nat × Nat)} (h : NetI ts ls) : WebOk ts (nmL ts ls) := by
  refine ⟨h.pos, h.few, h.nm.1, h.nm.2, by rw [List.length_map]; exact h.lfew, fun t ht => ?_, ?_⟩
  · obtain ⟨u, hu, rfl⟩ := List.mem_map.mp ht
    obtain ⟨h1, h2, h3⟩ := h.ok u hu
    exact ⟨List.mem_of_getElem? (getD_get h1), List.mem_of_getElem? (getD_get h2), fun e => h3 (getD_inj h.nm.2 h1 h2 e)⟩
  · have key : ∀ l : List (Nat × Nat), (∀ t ∈ l, t ∈ ls) → l.Nodup → (nmL ts l).Nodup := fun l => by
      induction l with
      | nil => intros; exact List.nodup_nil
      | cons t l ih =>
        intro hs hn
        have hn2 := List.nodup_cons.mp hn
        refine List.nodup_cons.mpr ⟨fun hm => ?_, ih (fun u hu => hs u (List.mem_cons_of_mem _ hu)) hn2.2⟩
        obtain ⟨u, hu, e⟩ := List.mem_map.mp hm
        obtain ⟨a1, a2, _⟩ := h.ok t (hs t (List.mem_cons_self ..))
        obtain ⟨b1, b2, _⟩ := h.ok u (hs u (List.mem_cons_of_mem _ hu))
        unfold nmT at e
        injection e with e1 e2
        have : u = t := Prod.ext (getD_inj h.nm.2 b1 a1 e1) (getD_inj h.nm.2 b2 a2 e2)
        exact hn2.1 (this ▸ hu)
    exact key ls (fun _ h => h) h.nd
end
section
open PySem PySem.Spec PyProof.Rows
/-! ### many lists of numbers, each an object -/
/-! ### numbered -/
theorem ixDic {t : Bool} {kvs : List (D × D)} {k v : D} {S : SO} {Q : KD} (ok : keyOk t k) (e : dget kvs k = some v) (h : Q v S) : oIx (.dic t kvs) k S Q := .inr (.inr ⟨t, kvs, v, rfl, ok, e, h⟩)
theorem key_str (p : Str) : keyOk false (.str p) := ⟨.inr p, rfl⟩
end
end L2.DL
namespace L2.DL
open PySem PySem.Spec PyProof.Rows
/-! ### a walk that looks for rings: row the way to here, vals what is left to see at each of its places, ks the places from which no ring is reached, in the order in which that was found -/
end L2.DL

namespace L2.DL
open PySem PySem.Spec PyProof.Rows
/-! ### numbers paired with numbers they lead to: bg for each end the begin, en for each begin the end -/
section
variable {nx : List (List Nat)} {bg en bg1 en1 : List (Option Nat)} {b e0 a : Nat} {T Ti : List Nat}
/-! ### the loop over the leads of b -/
/-! ### all numbers, one after the other -/
end
end L2.DL

namespace L2.DL
local macro_rules | `(tactic| and_intros) => `(tactic| repeat (first | refine Step.go (v := (.s (.s .z))) ?_ | with_reducible refine gTup ?_ | with_reducible refine mthTie ?_ | with_reducible refine iModL ?_ | with_reducible refine andL (by with_unfolding_all exact lez rfl) ?_))
section
open PySem PySem.Spec PyProof.Rows
theorem eqv_n (y x : Nat) : PyData.eqv (.int (y : Int)) (.int (x : Int)) = decide (y = x) := by
  by_cases e : y = x
  · subst e
    simp [PyData.eqv]
  · have e2 : ¬ ((y : Int) = (x : Int)) := fun h => e (by omega)
    simp [PyData.eqv, e, e2]
end
section
open PySem PySem.Spec PyProof.Rows
/-! ### ring_of, ring, ringless -/
end
section
open PySem PySem.Spec PyProof.Rows
/-! ### the law's own look at rings -/
/-- numbers left, round by round -/
def leftS (ls : List (Nat × Nat)) (L : List Nat) : List Nat := L.filter fun a => !(L.filter fun b => decide ((a, b) ∈ ls)).isEmpty
def leftN (m : Nat) (ls : List (Nat × Nat)) : Nat → List Nat
  | 0 => List.range m
  | k + 1 => leftS ls (leftN m ls k)
end
section
open PySem PySem.Spec PyProof.Rows
end
section
open PySem PySem.Spec PyProof.Rows
/-- a road by numbers -/
structure RoadI (n : Nat) (ls : List (Nat × Nat)) (rg : List Nat) : Prop where
  ne : rg ≠ []
  nd : rg.Nodup
  low : ∀ v ∈ rg, v < n
  path : ∀ (i a b : Nat), rg[i]? = some a → rg[i + 1]? = some b → (a, b) ∈ ls
abbrev nmR (ts : List Str) (rg : List Nat) : List Str := rg.map fun i => ts.getD i Str.empty
theorem idx_getD {ts : List Str} {i : Nat} (nd : ts.Nodup) (hi : i < ts.length) : List.idxOf (ts.getD i Str.empty) ts = i := by
  rw [List.getD_eq_getElem?_getD, List.getElem?_eq_getElem hi]
  exact nd.idxOf_getElem i hi
end
end L2.DL
namespace L2.DL
local macro_rules | `(tactic| and_intros) => `(tactic| repeat (first | refine Step.go (v := (.s (.s (.s .z)))) ?_ | with_reducible refine gTup ?_ | with_reducible refine mthTie ?_ | with_reducible refine iModL ?_ | with_reducible refine xGTl ?_ | with_reducible refine andL (by with_unfolding_all exact lez rfl) ?_))
section
open PySem PySem.Spec PyProof.Rows
def rowL (r : List Str) : D := .lst (plD r)
instance : InjD rowL := ⟨fun a b e => by
  unfold rowL plD at e
  injection e with e
  exact map_inj e⟩
end
section
open PySem PySem.Spec PyProof.Rows
theorem PartS.size {ps : List Str} {ts : List (Str × Str)} {rs : List (List Str)} (h : PartS ps ts rs) : rs.length ≤ rs.flatten.length := flat_len fun r hr => List.length_pos_iff.mpr (h.ne r hr)
theorem PartS.few {ps : List Str} {ts : List (Str × Str)} {rs : List (List Str)} (h : PartS ps ts rs) : rs.flatten.length ≤ ps.length := nodup_le h.nd fun x hx => by
  obtain ⟨r, hr, hx⟩ := List.mem_flatten.mp hx
  exact (h.road r hr).sub x hx
theorem PartS.rlen {ps : List Str} {ts : List (Str × Str)} {rs : List (List Str)} (h : PartS ps ts rs) {r : List Str} (hr : r ∈ rs) : r.length ≤ ps.length := nodup_le (h.road r hr).nd (h.road r hr).sub
end
section
open PySem PySem.Spec PyProof.Rows
/-! ### _law_order as a list that changes -/
/-! ### as_lists, as_tuples, step -/
def rowT (r : List Str) : D := .tf (plD r)
abbrev tfD (rs : List (List Str)) : D := .tf (rs.map rowT)
instance : InjD rowT := ⟨fun a b e => by
  unfold rowT plD at e
  injection e with e
  exact map_inj e⟩
/-! ### partings by numbers -/
structure PartI (n : Nat) (ls : List (Nat × Nat)) (rs : List (List Nat)) : Prop where
  road : ∀ r ∈ rs, RoadI n ls r
  nd : rs.flatten.Nodup
  all : rs.flatten.length = n
abbrev nsL (r : List Nat) : D := .lst (nsD r)
instance : InjD nsL := ⟨fun a b e => by
  unfold nsL nsD at e
  injection e with e
  exact map_inj e⟩
abbrev partN (rs : List (List Nat)) : D := .lst (rs.map nsL)
theorem RoadI.nm {ts : List Str} {ls : List (Nat × Nat)} {r : List Nat} (N : NetI ts ls) (R : RoadI ts.length ls r) : RoadOk ts (nmL ts ls) (nmR ts r) := by
  refine ⟨by intro e; exact R.ne (List.map_eq_nil_iff.mp e), nodup_map_on (fun a ha b hb e => getD_inj N.nm.2 (R.low a ha) (R.low b hb) e) R.nd, fun x hx => ?_, fun i a b ha hb => ?_⟩
  · obtain ⟨k, hk, rfl⟩ := List.mem_map.mp hx
    exact List.mem_of_getElem? (getD_get (R.low k hk))
  · unfold nmR at ha hb
    rw [List.getElem?_map] at ha hb
    obtain ⟨u, hu, rfl⟩ := Option.map_eq_some_iff.mp ha
    obtain ⟨v, hv, rfl⟩ := Option.map_eq_some_iff.mp hb
    exact List.mem_map.mpr ⟨(u, v), R.path i u v hu hv, rfl⟩
theorem flat_nm {ts : List Str} (rs : List (List Nat)) : (rs.map (nmR ts)).flatten = nmR ts rs.flatten := by
  unfold nmR
  rw [List.map_flatten]
theorem PartI.nm {ts : List Str} {ls : List (Nat × Nat)} {rs : List (List Nat)} (N : NetI ts ls) (P : PartI ts.length ls rs) : PartOk ts (nmL ts ls) (rs.map (nmR ts)) := by
  have low : ∀ v ∈ rs.flatten, v < ts.length := fun v hv => by
    obtain ⟨r, hr, hv⟩ := List.mem_flatten.mp hv
    exact (P.road r hr).low v hv
  refine ⟨fun r hr => ?_, ?_, by rw [flat_nm, List.length_map]; exact P.all⟩
  · obtain ⟨q, hq, rfl⟩ := List.mem_map.mp hr
    exact (P.road q hq).nm N
  · rw [flat_nm]
    exact nodup_map_on (fun a ha b hb e => getD_inj N.nm.2 (low a ha) (low b hb) e) P.nd
/-- the numbers of names -/
def ixR (ts : List Str) (r : List Str) : List Nat := r.map fun x => List.idxOf x ts
theorem RoadOk.ix {ts : List Str} {ls : List (Nat × Nat)} {r : List Str} (N : NetI ts ls) (R : RoadOk ts (nmL ts ls) r) : RoadI ts.length ls (ixR ts r) := by
  have gx : ∀ x ∈ r, ts[List.idxOf x ts]? = some x := fun x hx => by
    have hl := List.idxOf_lt_length_of_mem (R.sub x hx)
    rw [List.getElem?_eq_getElem hl, List.getElem_idxOf hl]
  refine ⟨by intro e; exact R.ne (List.map_eq_nil_iff.mp e), nodup_map_on (fun x hx y hy e => ?_) R.nd, fun v hv => ?_, fun i a b ha hb => ?_⟩
  · have h1 := gx x hx
    rw [e, gx y hy] at h1
    exact (Option.some.inj h1).symm
  · obtain ⟨x, hx, rfl⟩ := List.mem_map.mp hv
    exact List.idxOf_lt_length_of_mem (R.sub x hx)
  · unfold ixR at ha hb
    rw [List.getElem?_map] at ha hb
    obtain ⟨x, hx, rfl⟩ := Option.map_eq_some_iff.mp ha
    obtain ⟨y, hy, rfl⟩ := Option.map_eq_some_iff.mp hb
    obtain ⟨⟨u, v⟩, hu, e⟩ := List.mem_map.mp (R.step i x y hx hy)
    obtain ⟨h1, h2, _⟩ := N.ok _ hu
    unfold nmT at e
    injection e with e1 e2
    rw [← e1, ← e2, idx_getD N.nm.2 h1, idx_getD N.nm.2 h2]
    exact hu
end
section
open PySem PySem.Spec PyProof.Rows
/-! ### three objects beside one another -/
section
variable {S : SO} {p r f g : Addr} {x x' y y' z z' u : DO}
def o3 (S : SO) (p r f : Addr) (x y z : DO) : SO := ((S.set p x).set r y).set f z
end
/-! ### roads by numbers -/
theorem RoadI.one {n : Nat} {ls : List (Nat × Nat)} {v : Nat} (h : v < n) : RoadI n ls [v] := ⟨by simp, by simp, fun u hu => by rw [List.mem_singleton.mp hu]; exact h, fun i a b _ hb => by simp at hb⟩
theorem RoadI.snoc {n : Nat} {ls : List (Nat × Nat)} {r : List Nat} {u v : Nat} (R : RoadI n ls r) (hu : r.getLast? = some u) (hv : v < n) (hn : v ∉ r) (ht : (u, v) ∈ ls) : RoadI n ls (r ++ [v]) := by
  refine ⟨by simp, ?_, fun z hz => ?_, fun i a b ha hb => ?_⟩
  · rw [List.nodup_append]
    exact ⟨R.nd, by simp, fun a ha b hb e => hn (by rw [List.mem_singleton] at hb; rw [← hb, ← e]; exact ha)⟩
  · rcases List.mem_append.mp hz with hz | hz
    · exact R.low z hz
    · rw [List.mem_singleton.mp hz]
      exact hv
  · have hl : i + 1 < (r ++ [v]).length := (List.getElem?_eq_some_iff.mp hb).1
    rw [List.length_append, List.length_singleton] at hl
    rw [List.getElem?_append_left (by omega)] at ha
    by_cases hi : i + 1 < r.length
    · rw [List.getElem?_append_left hi] at hb
      exact R.path i a b ha hb
    · rw [List.getElem?_append_right (by omega), show i + 1 - r.length = 0 by omega] at hb
      have hb : v = b := Option.some.inj hb
      rw [List.getLast?_eq_getElem?, show r.length - 1 = i by omega, ha] at hu
      rw [← hb, Option.some.inj hu]
      exact ht
/-! ### _law_parted -/
end
section
open PySem PySem.Spec PyProof.Rows
/-! ### Pairing.grow -/
end
section
open PySem PySem.Spec PyProof.Rows
/-! ### Pairing(leads), pairing_of -/
theorem Wk.dropS {sd : SD} {S : SO} {p : Addr} {o : DO} (h : S p = none) : Wk sd (S.set p o) sd S := Wk.to fun a u e => by
  rw [set_ne (so_ne e h)]
  exact e
end
section
open PySem PySem.Spec PyProof.Rows
end
section
open PySem PySem.Spec PyProof.Rows
/-! ### all partings, as mathematics -/
structure SetP (k : Nat) (P : List (List Nat)) : Prop where
  ne : ∀ r ∈ P, r ≠ []
  pm : P.flatten.Perm (List.range k)
/-- how many -/
theorem SetP.len {k : Nat} {P : List (List Nat)} (s : SetP k P) : P.length ≤ k := by
  have h1 : P.length ≤ P.flatten.length := by
    have hr := s.ne
    clear s
    induction P with
    | nil => exact Nat.le_refl _
    | cons r rs ih =>
      have := ih fun q hq => hr q (List.mem_cons_of_mem _ hq)
      have hp := List.length_pos_iff.mpr (hr r (List.mem_cons_self ..))
      rw [List.flatten_cons, List.length_append, List.length_cons]
      omega
  have := s.pm.length_eq
  rw [List.length_range] at this
  omega
theorem SetP.rlen {k : Nat} {P : List (List Nat)} (s : SetP k P) {r : List Nat} (h : r ∈ P) : r.length ≤ k := by
  have h2 := (List.sublist_flatten_of_mem h).length_le
  have := s.pm.length_eq
  rw [List.length_range] at this
  omega
def chainB (ls : List (Nat × Nat)) (r : List Nat) : Bool := (List.range (r.length - 1)).all fun i => decide ((r.getD i 0, r.getD (i + 1) 0) ∈ ls)
theorem chainB_iff {ls : List (Nat × Nat)} {r : List Nat} : chainB ls r = true ↔ ∀ (i a b : Nat), r[i]? = some a → r[i + 1]? = some b → (a, b) ∈ ls := by
  unfold chainB
  rw [List.all_eq_true]
  constructor
  · intro h i a b ha hb
    have hl := (List.getElem?_eq_some_iff.mp hb).1
    have := of_decide_eq_true (h i (List.mem_range.mpr (by omega)))
    rw [List.getD_eq_getElem?_getD, List.getD_eq_getElem?_getD, ha, hb] at this
    exact this
  · intro h i hi
    have hi := List.mem_range.mp hi
    have h1 := List.getElem?_eq_getElem (show i < r.length by omega)
    have h2 := List.getElem?_eq_getElem (show i + 1 < r.length by omega)
    refine decide_eq_true ?_
    rw [List.getD_eq_getElem?_getD, List.getD_eq_getElem?_getD, h1, h2]
    exact h i _ _ h1 h2
def goesB (ls : List (Nat × Nat)) (P : List (List Nat)) : Bool := P.all (chainB ls)
theorem SetP.part {n : Nat} {ls : List (Nat × Nat)} {P : List (List Nat)} (s : SetP n P) (h : goesB ls P = true) : PartI n ls P := by
  have nd : P.flatten.Nodup := s.pm.nodup_iff.mpr List.nodup_range
  refine ⟨fun r hr => ⟨s.ne r hr, (List.sublist_flatten_of_mem hr).nodup nd, fun v hv => ?_, chainB_iff.mp (List.all_eq_true.mp h r hr)⟩, nd, by rw [s.pm.length_eq, List.length_range]⟩
  exact List.mem_range.mp (s.pm.mem_iff.mp (List.mem_flatten.mpr ⟨r, hr, hv⟩))
theorem perm_range {n : Nat} {l : List Nat} (nd : l.Nodup) (low : ∀ v ∈ l, v < n) (hl : l.length = n) : l.Perm (List.range n) := by
  have sub : ∀ (a b : List Nat), a.Nodup → (∀ x ∈ a, x ∈ b) → b.length ≤ a.length → a.Perm b := by
    intro a
    induction a with
    | nil =>
      intro b _ _ h
      rw [List.length_eq_zero_iff.mp (Nat.le_zero.mp h)]
    | cons x a ih =>
      intro b nd hb h
      have nd2 := List.nodup_cons.mp nd
      have hx := hb x (List.mem_cons_self ..)
      have l := List.length_erase_of_mem hx
      have p := List.length_pos_of_mem hx
      rw [List.length_cons] at h
      have z := ih (b.erase x) nd2.2 (fun y hy => (List.mem_erase_of_ne (fun e => nd2.1 (by rw [← e]; exact hy))).mpr (hb y (List.mem_cons_of_mem _ hy))) (by omega)
      exact (List.Perm.cons x z).trans (List.perm_cons_erase hx).symm
  exact sub l _ nd (fun x hx => List.mem_range.mpr (low x hx)) (by rw [List.length_range, hl]; exact Nat.le_refl _)
theorem PartI.set {n : Nat} {ls : List (Nat × Nat)} {P : List (List Nat)} (h : PartI n ls P) : SetP n P := ⟨fun r hr => (h.road r hr).ne, perm_range h.nd (fun v hv => by
  obtain ⟨r, hr, hv⟩ := List.mem_flatten.mp hv
  exact (h.road r hr).low v hv) h.all⟩
end
section
open PySem PySem.Spec PyProof.Rows
/-! ### _law_goes, _law_all_partings -/
instance : InjD partN := ⟨fun a b e => by
  unfold partN at e
  injection e with e
  exact map_inj e⟩
end
section
open PySem PySem.Spec PyProof.Rows
/-! ### whether something is a parting: a right one -/
/-! ### whether something is a witness: a right one -/
/-! ### k51 -/
end
section
open PySem PySem.Spec PyProof.Rows
/-! ### improved_of -/
/-! ### the greatest free set -/
end
section
open PySem PySem.Spec PyProof.Rows
/-! ### k46 -/
theorem NetI.loop {ts : List Str} {ls : List (Nat × Nat)} (N : NetI ts ls) : ∀ a, (a, a) ∉ ls := fun a h => (N.ok _ h).2.2 rfl
end
section
open PySem PySem.Spec PyProof.Rows
/-! ### k45 -/
def lastN (r : List Nat) : Nat := r.getLastD 0
theorem lastN_eq {r : List Nat} (h : r ≠ []) : r.getLast? = some (lastN r) := by
  unfold lastN
  rw [List.getLastD_eq_getLast?]
  cases e : r.getLast? with
  | none => exact absurd (List.getLast?_eq_none_iff.mp e) h
  | some x => rfl
theorem PartOk.ix {ts : List Str} {ls : List (Nat × Nat)} {rs : List (List Str)} (N : NetI ts ls) (P : PartOk ts (nmL ts ls) rs) : PartI ts.length ls (rs.map (ixR ts)) := by
  have fl : (rs.map (ixR ts)).flatten = ixR ts rs.flatten := by
    unfold ixR
    rw [List.map_flatten]
  have sub : ∀ x ∈ rs.flatten, x ∈ ts := fun x hx => by
    obtain ⟨r, hr, hx⟩ := List.mem_flatten.mp hx
    exact (P.road r hr).sub x hx
  have gx : ∀ x ∈ ts, ts[List.idxOf x ts]? = some x := fun x hx => by
    have hl := List.idxOf_lt_length_of_mem hx
    rw [List.getElem?_eq_getElem hl, List.getElem_idxOf hl]
  refine ⟨fun r hr => ?_, ?_, by rw [fl]; unfold ixR; rw [List.length_map]; exact P.all⟩
  · obtain ⟨q, hq, rfl⟩ := List.mem_map.mp hr
    exact (P.road q hq).ix N
  · rw [fl]
    refine nodup_map_on (fun x hx y hy e => ?_) P.nd
    have h1 := gx x (sub x hx)
    rw [e, gx y (sub y hy)] at h1
    exact (Option.some.inj h1).symm
end
section
open PySem PySem.Spec PyProof.Rows
/-! ### k47 -/
abbrev freeB (ts : List Str) (w : List (Nat × Nat)) : Bool := (leftN ts.length w ts.length).isEmpty
section
variable {W : Addr} {S : SO} {Q : KD} {E : EK} {ts : List Str} {w : List (Nat × Nat)}
end
end
section
open PySem PySem.Spec PyProof.Rows
/-! ### each parting has a witness or a step (Gallai, Milgram) -/
/-! ### k60 -/
end
end L2.DL
namespace L2.DL
open PySem PySem.Spec PyProof.Rows
/-! ### few roads by many pairs -/
section
variable {n : Nat} {ls : List (Nat × Nat)} {R : List (List Nat)}
end
/-! ### so many roads, if there is no ring -/
end L2.DL

namespace L2.DL
open PySem PySem.Spec PyProof.Rows
/-! ### roads put together along the pairs -/
theorem RoadI.app {n : Nat} {ls : List (Nat × Nat)} {q r : List Nat} {b e : Nat} (Q : RoadI n ls q) (R : RoadI n ls r) (hd : ∀ x ∈ q, x ∉ r) (hb : lastN q = b) (he : r[0]? = some e) (ht : (b, e) ∈ ls) : RoadI n ls (q ++ r) := by
  have lq := List.length_pos_iff.mpr Q.ne
  refine ⟨by simp [Q.ne], List.nodup_append.mpr ⟨Q.nd, R.nd, fun x hx y hy e => hd x hx (e ▸ hy)⟩, fun v hv => ?_, fun i a c ha hc => ?_⟩
  · rcases List.mem_append.mp hv with hv | hv
    · exact Q.low v hv
    · exact R.low v hv
  · by_cases h : i + 1 < q.length
    · rw [List.getElem?_append_left (by omega)] at ha
      rw [List.getElem?_append_left h] at hc
      exact Q.path i a c ha hc
    · by_cases h2 : i < q.length
      · rw [List.getElem?_append_left h2] at ha
        rw [List.getElem?_append_right (by omega), show i + 1 - q.length = 0 by omega, he] at hc
        cases hc
        have e := lastN_eq Q.ne
        rw [List.getLast?_eq_getElem?, show q.length - 1 = i by omega, ha] at e
        have := Option.some.inj e
        rw [this, hb]
        exact ht
      · rw [List.getElem?_append_right (by omega)] at ha hc
        exact R.path (i - q.length) a c ha (by rw [← hc]; congr 1; omega)
end L2.DL

namespace L2.DL
open PySem PySem.Spec PyProof.Rows
/-! ### values compared part by part -/
def EqP (x y : D) (b : Bool) : Prop := ∃ p q, pyD x = some p ∧ pyD y = some q ∧ p.canLay0 = true ∧ q.canLay0 = true ∧ p.depth ≤ 9 ∧ q.depth ≤ 9 ∧ PyData.eqv p q = b
def EqPs (xs ys : List D) (b : Bool) : Prop := ∃ ps qs, pyDs xs = some ps ∧ pyDs ys = some qs ∧ PyData.canLayAll0 ps = true ∧ PyData.canLayAll0 qs = true ∧ PyData.depthAll ps ≤ 9 ∧ PyData.depthAll qs ≤ 9 ∧ PyData.eqvAll ps qs = b
theorem EqPs.nil : EqPs [] [] true := ⟨[], [], rfl, rfl, by simp [PyData.canLayAll0], by simp [PyData.canLayAll0], by simp [PyData.depthAll], by simp [PyData.depthAll], by simp [PyData.eqvAll]⟩
theorem EqPs.cons {x y : D} {xs ys : List D} {b c : Bool} (h : EqP x y b) (t : EqPs xs ys c) : EqPs (x :: xs) (y :: ys) (b && c) := by
  obtain ⟨p, q, h1, h2, h3, h4, h5, h6, h7⟩ := h
  obtain ⟨ps, qs, t1, t2, t3, t4, t5, t6, t7⟩ := t
  refine ⟨p :: ps, q :: qs, ?_, ?_, ?_, ?_, ?_, ?_, ?_⟩
  · show (pyD x).bind (fun p => (pyDs xs).map fun ps => p :: ps) = _
    rw [h1, t1]
    rfl
  · show (pyD y).bind (fun p => (pyDs ys).map fun ps => p :: ps) = _
    rw [h2, t2]
    rfl
  · simp only [PyData.canLayAll0, Bool.and_eq_true]
    exact ⟨h3, t3⟩
  · simp only [PyData.canLayAll0, Bool.and_eq_true]
    exact ⟨h4, t4⟩
  · simp only [PyData.depthAll]
    omega
  · simp only [PyData.depthAll]
    omega
  · simp only [PyData.eqvAll]
    rw [h7, t7]
theorem EqP.n (i j : Nat) : EqP (.int (i : Nat)) (.int (j : Nat)) (decide (i = j)) := ⟨.int i, .int j, rfl, rfl, by simp [PyData.canLay0], by simp [PyData.canLay0], by simp [PyData.depth], by simp [PyData.depth], eqv_n i j⟩
theorem EqP.b (i j : Bool) : EqP (.bl i) (.bl j) (i == j) := ⟨.bool i, .bool j, rfl, rfl, by simp [PyData.canLay0], by simp [PyData.canLay0], by simp [PyData.depth], by simp [PyData.depth], by cases i <;> cases j <;> decide +kernel⟩
theorem rowP_ok {xs : List Str} (h : ∀ x ∈ xs, sOk x) : (PyData.tuple (xs.map PyData.str)).canLay0 = true ∧ (PyData.tuple (xs.map PyData.str)).depth ≤ 9 := by
  constructor
  · simp only [PyData.canLay0]
    exact canLayAll_map h
  · simp only [PyData.depth]
    have := depthAll_map (n := 0) (f := PyData.str) (xs := xs) fun x _ => by simp [PyData.depth]
    omega
theorem pyD_row {d : D} {xs : List Str} (e : d = .tup (plD xs) ∨ d = .tf (plD xs)) : pyD d = some (.tuple (xs.map PyData.str)) := by
  rcases e with rfl | rfl
  · show (pyDs (plD xs)).map PyData.tuple = _
    rw [pyDs_strs]
    rfl
  · show (pyDs (plD xs)).map PyData.tuple = _
    rw [pyDs_strs]
    rfl
theorem EqP.row {x y : D} {xs ys : List Str} (e1 : x = .tup (plD xs) ∨ x = .tf (plD xs)) (e2 : y = .tup (plD ys) ∨ y = .tf (plD ys)) (h1 : ∀ x ∈ xs, sOk x) (h2 : ∀ x ∈ ys, sOk x) : EqP x y (decide (xs = ys)) :=
  ⟨_, _, pyD_row e1, pyD_row e2, (rowP_ok h1).1, (rowP_ok h2).1, (rowP_ok h1).2, (rowP_ok h2).2, eqv_tups eqv_str xs ys⟩
theorem EqP.tup {x y : D} {xs ys : List D} {b : Bool} (e1 : x = .tup xs ∨ x = .tf xs) (e2 : y = .tup ys ∨ y = .tf ys) (h : EqPs xs ys b) (hd : ∀ ps, pyDs xs = some ps → PyData.depthAll ps ≤ 8) (hd2 : ∀ ps, pyDs ys = some ps → PyData.depthAll ps ≤ 8) : EqP x y b := by
  obtain ⟨ps, qs, t1, t2, t3, t4, t5, t6, t7⟩ := h
  have g1 : pyD x = some (.tuple ps) := by
    rcases e1 with rfl | rfl
    · show (pyDs xs).map PyData.tuple = _
      rw [t1]
      rfl
    · show (pyDs xs).map PyData.tuple = _
      rw [t1]
      rfl
  have g2 : pyD y = some (.tuple qs) := by
    rcases e2 with rfl | rfl
    · show (pyDs ys).map PyData.tuple = _
      rw [t2]
      rfl
    · show (pyDs ys).map PyData.tuple = _
      rw [t2]
      rfl
  refine ⟨_, _, g1, g2, by simpa only [PyData.canLay0] using t3, by simpa only [PyData.canLay0] using t4, ?_, ?_, by simpa only [PyData.eqv] using t7⟩
  · simp only [PyData.depth]
    have := hd ps t1
    omega
  · simp only [PyData.depth]
    have := hd2 qs t2
    omega
theorem EqPs.lst {xs ys : List D} {b : Bool} {S : SO} {k : Bool → Prop} (h : EqPs xs ys b) (q : k b) : eqD (.lst xs) (.lst ys) S k := by
  obtain ⟨ps, qs, t1, t2, t3, t4, t5, t6, t7⟩ := h
  refine ⟨.list ps, .list qs, ?_, ?_, shaped_of (by simpa only [PyData.canLay0] using t3) ?_, shaped_of (by simpa only [PyData.canLay0] using t4) ?_, ?_⟩
  · show (pyDs xs).map PyData.list = _
    rw [t1]
    rfl
  · show (pyDs ys).map PyData.list = _
    rw [t2]
    rfl
  · simp only [PyData.depth]
    omega
  · simp only [PyData.depth]
    omega
  · rw [show PyData.eqv (.list ps) (.list qs) = b by simpa only [PyData.eqv] using t7]
    exact q
theorem EqP.s (i j : Str) (hi : sOk i) (hj : sOk j) : EqP (.str i) (.str j) (decide (i = j)) := ⟨.str i, .str j, rfl, rfl, hi, hj, by simp [PyData.depth], by simp [PyData.depth], eqv_str i j⟩
end L2.DL

namespace L2.DL
local macro_rules | `(tactic| and_intros) => `(tactic| repeat (first | refine Step.go (v := (.s (.s (.s .z)))) ?_ | with_reducible refine gTup ?_ | with_reducible refine mthTie ?_ | with_reducible refine iModL ?_ | with_reducible refine xGTl ?_ | with_reducible refine andL (by with_unfolding_all exact lez rfl) ?_))
section
open PySem PySem.Spec PyProof.Rows
/-! ### no ring: by ranks, by the law's own look -/
/-! ### check_ringless, fewest_ringless -/
/-! ### is_witness of a right one -/
end
section
open PySem PySem.Spec PyProof.Rows
/-! ### k71 -/
theorem any_tfD {ts : List Str} {rs : List (List Str)} (hs : ∀ x ∈ ts, sOk x ∧ x.length ≤ 8) (h : ∀ r ∈ rs, r.length ≤ 100 ∧ ∀ x ∈ r, x ∈ ts) (hl : rs.length ≤ 100) : Any 100 (tfD rs) := by
  refine .tf _ (by rw [List.length_map]; exact hl) fun d hd => ?_
  obtain ⟨r, hr, rfl⟩ := List.mem_map.mp hd
  refine .tf _ (by unfold plD; rw [List.length_map]; exact (h r hr).1) fun e he => ?_
  obtain ⟨x, hx, rfl⟩ := List.mem_map.mp he
  obtain ⟨h1, h2⟩ := hs x ((h r hr).2 x hx)
  exact .str x ⟨h1, by omega⟩
theorem PartOk.any {ts : List Str} {es : List (Str × Str)} {rs : List (List Str)} (ok : WebOk ts es) {es' : List (Str × Str)} (P : PartOk ts es' rs) : Any 100 (tfD rs) := by
  have hf := ok.few
  have h1 := P.ps.size
  have h2 := P.all
  exact any_tfD (ts := ts) (fun x hx => ⟨ok.sok x hx, by have := (name_chars (ok.nm x hx)).2.1; omega⟩) (fun r hr => ⟨by have := P.ps.rlen hr; omega, (P.road r hr).sub⟩) (by omega)
section
variable {W : Addr} {S : SO} {Q : KD} {E : EK} {ts : List Str} {es : List (Str × Str)} {rs : List (List Str)}
end
theorem RoadOk.mono {ps : List Str} {ts ts' : List (Str × Str)} {r : List Str} (h : ∀ t ∈ ts, t ∈ ts') (R : RoadOk ps ts r) : RoadOk ps ts' r := ⟨R.ne, R.nd, R.sub, fun i a b h1 h2 => h _ (R.step i a b h1 h2)⟩
theorem PartOk.mono {ps : List Str} {ts ts' : List (Str × Str)} {rs : List (List Str)} (h : ∀ t ∈ ts, t ∈ ts') (P : PartOk ps ts rs) : PartOk ps ts' rs := ⟨fun r hr => (P.road r hr).mono h, P.nd, P.all⟩
theorem PartI.mono {n : Nat} {ls ls' : List (Nat × Nat)} {R : List (List Nat)} (h : ∀ t ∈ ls, t ∈ ls') (P : PartI n ls R) : PartI n ls' R := ⟨fun r hr => ⟨(P.road r hr).ne, (P.road r hr).nd, (P.road r hr).low, fun i a b h1 h2 => h _ ((P.road r hr).path i a b h1 h2)⟩, P.nd, P.all⟩
end
section
open PySem PySem.Spec PyProof.Rows
theorem NetI.add {ts : List Str} {ls : List (Nat × Nat)} (N : NetI ts ls) {a b : Nat} (ha : a < ts.length) (hb : b < ts.length) (hab : a ≠ b) (hm : (a, b) ∉ ls) (hl : ls.length < 200) : NetI ts (ls ++ [(a, b)]) := by
  refine ⟨N.nm, N.pos, N.few, fun t ht => ?_, ?_, by rw [List.length_append, List.length_singleton]; omega⟩
  · rcases List.mem_append.mp ht with ht | ht
    · exact N.ok t ht
    · rw [List.mem_singleton.mp ht]
      exact ⟨ha, hb, hab⟩
  · exact List.nodup_append.mpr ⟨N.nd, by simp, fun u hu v hv e => hm (by rw [List.mem_singleton] at hv; rw [← hv, ← e]; exact hu)⟩
end
section
open PySem PySem.Spec PyProof.Rows
/-! ### planners: made, asked -/
end
section
open PySem PySem.Spec PyProof.Rows
/-! ### the law's look at a planner -/
end
section
open PySem PySem.Spec PyProof.Rows
/-! ### a road cut at a tie -/
def cutIx (t : Str × Str) (r : List Str) : List Nat := (List.range (r.length - 1)).filter fun i => decide ((r.getD i Str.empty, r.getD (i + 1) Str.empty) = t)
def cutR (t : Str × Str) (r : List Str) : List (List Str) := match cutIx t r with
  | [] => [r]
  | k :: _ => [r.take (k + 1), r.drop (k + 1)]
def cutAll (t : Str × Str) (rs : List (List Str)) : List (List Str) := (rs.map (cutR t)).flatten
theorem getD_eq {r : List Str} {i : Nat} {a : Str} (h : r[i]? = some a) : r.getD i Str.empty = a := by rw [List.getD_eq_getElem?_getD, h]; rfl
theorem cutIx_mem {t : Str × Str} {r : List Str} {k : Nat} (h : k ∈ cutIx t r) : k + 1 < r.length ∧ r[k]? = some t.1 ∧ r[k + 1]? = some t.2 := by
  obtain ⟨h1, h2⟩ := List.mem_filter.mp h
  have h1 := List.mem_range.mp h1
  have e := of_decide_eq_true h2
  have g1 := List.getElem?_eq_getElem (show k < r.length by omega)
  have g2 := List.getElem?_eq_getElem (show k + 1 < r.length by omega)
  rw [getD_eq g1, getD_eq g2] at e
  refine ⟨by omega, ?_, ?_⟩
  · rw [g1, ← e]
  · rw [g2, ← e]
theorem cutIx_no {t : Str × Str} {r : List Str} (h : cutIx t r = []) : ∀ (i : Nat) (a b : Str), r[i]? = some a → r[i + 1]? = some b → (a, b) ≠ t := fun i a b h1 h2 e => by
  have hi := (List.getElem?_eq_some_iff.mp h2).1
  have : i ∈ cutIx t r := List.mem_filter.mpr ⟨List.mem_range.mpr (by omega), decide_eq_true (by rw [getD_eq h1, getD_eq h2]; exact e)⟩
  rw [h] at this
  cases this
theorem cutR_flat (t : Str × Str) (r : List Str) : (cutR t r).flatten = r := by
  unfold cutR
  split
  · simp
  · simp
theorem cutAll_flat (t : Str × Str) : ∀ rs : List (List Str), (cutAll t rs).flatten = rs.flatten
  | [] => rfl
  | r :: rs => by
    have ih := cutAll_flat t rs
    unfold cutAll at ih ⊢
    rw [List.map_cons, List.flatten_cons, List.flatten_append, cutR_flat, ih, List.flatten_cons]
theorem cutR_road {ps : List Str} {ts : List (Str × Str)} {t : Str × Str} {r q : List Str} (R : RoadOk ps ts r) (h : q ∈ cutR t r) : RoadOk ps (woT ts t) q := by
  have wo : ∀ {u : Str × Str}, u ∈ ts → u ≠ t → u ∈ woT ts t := fun {u} hu hne => List.mem_filter.mpr ⟨hu, by simp [hne]⟩
  unfold cutR at h
  split at h
  · rename_i e
    rw [List.mem_singleton.mp h]
    exact ⟨R.ne, R.nd, R.sub, fun i a b h1 h2 => wo (R.step i a b h1 h2) (cutIx_no e i a b h1 h2)⟩
  · rename_i k l e
    obtain ⟨hk, g1, g2⟩ := cutIx_mem (t := t) (r := r) (k := k) (by rw [e]; exact List.mem_cons_self ..)
    have one : ∀ (i : Nat) (a b : Str), r[i]? = some a → r[i + 1]? = some b → i ≠ k → (a, b) ≠ t := fun i a b h1 h2 hik e => hik (nodup_ix R.nd (by rw [h1, ← e] : r[i]? = some t.1) g1)
    rcases List.mem_cons.mp h with rfl | h
    · refine ⟨fun e => ?_, R.nd.sublist (List.take_sublist ..), fun x hx => R.sub x (List.mem_of_mem_take hx), fun i a b h1 h2 => ?_⟩
      · have := congrArg List.length e
        rw [List.length_take, List.length_nil] at this
        omega
      · have hi := (List.getElem?_eq_some_iff.mp h2).1
        rw [List.length_take] at hi
        rw [List.getElem?_take_of_lt (by omega)] at h1 h2
        exact wo (R.step i a b h1 h2) (one i a b h1 h2 (by omega))
    · rw [List.mem_singleton.mp h]
      refine ⟨fun e => ?_, R.nd.sublist (List.drop_sublist ..), fun x hx => R.sub x (List.mem_of_mem_drop hx), fun i a b h1 h2 => ?_⟩
      · have := congrArg List.length e
        rw [List.length_drop, List.length_nil] at this
        omega
      · rw [List.getElem?_drop] at h1 h2
        exact wo (R.step (k + 1 + i) a b h1 h2) (one (k + 1 + i) a b h1 h2 (by omega))
theorem PartOk.cut {ps : List Str} {ts : List (Str × Str)} {rs : List (List Str)} (P : PartOk ps ts rs) (t : Str × Str) : PartOk ps (woT ts t) (cutAll t rs) := by
  refine ⟨fun q hq => ?_, by rw [cutAll_flat]; exact P.nd, by rw [cutAll_flat]; exact P.all⟩
  obtain ⟨l, hl, hql⟩ := List.mem_flatten.mp hq
  obtain ⟨r, hr, rfl⟩ := List.mem_map.mp hl
  exact cutR_road (P.road r hr) hql
end
end L2.DL
namespace L2.DL
local macro_rules | `(tactic| and_intros) => `(tactic| repeat (first | refine Step.go (v := (.s (.s (.s (.s .z))))) ?_ | with_reducible refine gTup ?_ | with_reducible refine mthTie ?_ | with_reducible refine iModL ?_ | with_reducible refine xGTl ?_ | with_reducible refine andL (by with_unfolding_all exact lez rfl) ?_))
section
open PySem PySem.Spec PyProof.Rows
/-! ### planners changed -/
theorem WebOk.snoc {ps : List Str} {ts : List (Str × Str)} (ok : WebOk ps ts) {t : Str × Str} (h1 : t.1 ∈ ps) (h2 : t.2 ∈ ps) (h3 : t.1 ≠ t.2) (h4 : t ∉ ts) (h5 : ts.length < 200) : WebOk ps (ts ++ [t]) := by
  refine ⟨ok.pos, ok.few, ok.nm, ok.nd, by rw [List.length_append, List.length_singleton]; omega, fun u hu => ?_, ?_⟩
  · rcases List.mem_append.mp hu with hu | hu
    · exact ok.tie u hu
    · rw [List.mem_singleton.mp hu]
      exact ⟨h1, h2, h3⟩
  · exact List.nodup_append.mpr ⟨ok.tnd, by simp, fun u hu v hv e => h4 (by rw [List.mem_singleton] at hv; rw [← hv, ← e]; exact hu)⟩
end
section
open PySem PySem.Spec PyProof.Rows
/-! ### the law's own sorting, of values of any kind -/
def ShownV (v : D) (z : Str) : Prop := ∃ p, valP v = some p ∧ ShowV p ∧ z = p.shown
end
section
open PySem PySem.Spec PyProof.Rows
/-- repr of v tells z -/
def ShownW (W : Addr) (v : D) (z : Str) : Prop := ∀ (S : SO) (Q : KD), Q (.str z) S → cReprW W (sp_Web_repr W) [v] S Q
theorem ShownV.w {W : Addr} {v : D} {z : Str} (h : ShownV v z) : ShownW W v z := fun S Q q => by
  obtain ⟨p, h1, h2, rfl⟩ := h
  exact .inl ⟨p, h1, h2, q⟩
theorem ShowOk.v {p : PyData} (h : ShowOk p) : ShowV p := by
  refine ⟨h.2.2, ?_, ?_⟩
  · have := h.1
    unfold PyData.layable0 at this
    simp only [Bool.and_eq_true, decide_eq_true_eq] at this
    omega
  · have := shown_le13 h.1 h.2.1
    have : (15728653 : Nat) ≤ sizeLine := by decide
    omega
theorem ValB.shownV {n m : Nat} {d : D} (V : ValB n m d) (hn : n ≤ 60) (hm : lenB m n ≤ 16777216) : ∃ z, ShownV d z ∧ sOk z := by
  obtain ⟨p, hp, hs⟩ := V.showV hn hm
  exact ⟨p.shown, ⟨p, hp, hs, rfl⟩, sOk_of (V.okS p hp)⟩
/-! ### what is known to be no web -/
end
section
open PySem PySem.Spec PyProof.Rows
/-! ### ties put and struck, refused -/
end
section
open PySem PySem.Spec PyProof.Rows
/-! ### k22: ties to be put and struck -/
end
section
open PySem PySem.Spec PyProof.Rows
/-! ### k23: what is refused -/
end
section
open PySem PySem.Spec PyProof.Rows
/-! ### k23: two hundred ties -/
end
section
open PySem PySem.Spec PyProof.Rows
/-! ### ties put and struck, refused or not -/
end
section
open PySem PySem.Spec PyProof.Rows
/-! ### k03: names and places of any value -/
end
end L2.DL
namespace L2.DL
open PySem PySem.Spec PyProof.Rows
/-! ### a net under other numbers, and turned -/
abbrev oT (os : List Nat) (t : Nat × Nat) : Nat × Nat := (os.getD t.1 0, os.getD t.2 0)
abbrev swT (t : Nat × Nat) : Nat × Nat := (t.2, t.1)
theorem PartI.via {n : Nat} {ls ls' : List (Nat × Nat)} {R : List (List Nat)} (h : Nat → Nat) (hn : ∀ v, v < n → h v < n) (hi : ∀ u v, u < n → v < n → h u = h v → u = v) (ht : ∀ t ∈ ls, (h t.1, h t.2) ∈ ls') (P : PartI n ls R) : PartI n ls' (R.map (List.map h)) := by
  have low : ∀ v ∈ R.flatten, v < n := fun v hv => by
    obtain ⟨r, hr, hv⟩ := List.mem_flatten.mp hv
    exact (P.road r hr).low v hv
  have fl : (R.map (List.map h)).flatten = R.flatten.map h := by rw [List.map_flatten]
  refine ⟨fun r hr => ?_, ?_, by rw [fl, List.length_map]; exact P.all⟩
  · obtain ⟨q, hq, rfl⟩ := List.mem_map.mp hr
    have Rq := P.road q hq
    refine ⟨by intro e; exact Rq.ne (List.map_eq_nil_iff.mp e), nodup_map_on (fun a ha b hb e => hi a b (Rq.low a ha) (Rq.low b hb) e) Rq.nd, fun v hv => ?_, fun i a b ha hb => ?_⟩
    · obtain ⟨u, hu, rfl⟩ := List.mem_map.mp hv
      exact hn u (Rq.low u hu)
    · rw [List.getElem?_map] at ha hb
      obtain ⟨u, hu, rfl⟩ := Option.map_eq_some_iff.mp ha
      obtain ⟨v, hv, rfl⟩ := Option.map_eq_some_iff.mp hb
      exact ht (u, v) (Rq.path i u v hu hv)
  · rw [fl]
    exact nodup_map_on (fun a ha b hb e => hi a b (low a ha) (low b hb) e) P.nd
theorem flat_rev {α : Type} (R : List (List α)) : (R.map List.reverse).flatten.Perm R.flatten := by
  induction R with
  | nil => exact .refl _
  | cons r R ih =>
    rw [List.map_cons, List.flatten_cons, List.flatten_cons]
    exact (List.reverse_perm r).append ih
theorem rev_step {α : Type} {r : List α} {i : Nat} {a b : α} (h1 : r.reverse[i]? = some a) (h2 : r.reverse[i + 1]? = some b) : ∃ j : Nat, r[j]? = some b ∧ r[j + 1]? = some a := by
  have g1 := (List.getElem?_eq_some_iff.mp h1).1
  have g2 := (List.getElem?_eq_some_iff.mp h2).1
  rw [List.length_reverse] at g1 g2
  rw [List.getElem?_reverse g1] at h1
  rw [List.getElem?_reverse g2] at h2
  exact ⟨r.length - 1 - (i + 1), h2, by rw [← h1]; congr 1; omega⟩
theorem PartI.rev {n : Nat} {ls : List (Nat × Nat)} {R : List (List Nat)} (P : PartI n ls R) : PartI n (ls.map swT) (R.map List.reverse) := by
  refine ⟨fun r hr => ?_, (flat_rev R).nodup_iff.mpr P.nd, (flat_rev R).length_eq.trans P.all⟩
  obtain ⟨q, hq, rfl⟩ := List.mem_map.mp hr
  have Rq := P.road q hq
  refine ⟨by intro e; exact Rq.ne (List.reverse_eq_nil_iff.mp e), (List.reverse_perm q).nodup_iff.mpr Rq.nd, fun v hv => Rq.low v (List.mem_reverse.mp hv), fun i a b ha hb => ?_⟩
  obtain ⟨j, h1, h2⟩ := rev_step ha hb
  exact List.mem_map.mpr ⟨(b, a), Rq.path j b a h1 h2, rfl⟩
theorem NetI.back {ts : List Str} {ls : List (Nat × Nat)} (N : NetI ts ls) : NetI ts (ls.map swT) := by
  refine ⟨N.nm, N.pos, N.few, fun t ht => ?_, nodup_map_on (fun a _ b _ e => ?_) N.nd, by rw [List.length_map]; exact N.lfew⟩
  · obtain ⟨u, hu, rfl⟩ := List.mem_map.mp ht
    obtain ⟨h1, h2, h3⟩ := N.ok u hu
    exact ⟨h2, h1, fun e => h3 e.symm⟩
  · obtain ⟨a1, a2⟩ := a
    obtain ⟨b1, b2⟩ := b
    cases e
    rfl
section
variable {n : Nat} {os : List Nat} (hp : os.Perm (List.range n))
include hp
theorem os_len : os.length = n := by rw [hp.length_eq, List.length_range]
theorem os_nd : os.Nodup := hp.nodup_iff.mpr List.nodup_range
theorem os_get {v : Nat} (hv : v < n) : os[v]? = some (os.getD v 0) := by
  have : v < os.length := by rw [os_len hp]; exact hv
  rw [List.getD_eq_getElem?_getD, List.getElem?_eq_getElem this]
  rfl
theorem os_lt {v : Nat} (hv : v < n) : os.getD v 0 < n := List.mem_range.mp (hp.mem_iff.mp (List.mem_of_getElem? (os_get hp hv)))
theorem os_inj {u v : Nat} (hu : u < n) (hv : v < n) (e : os.getD u 0 = os.getD v 0) : u = v := nodup_ix (os_nd hp) (os_get hp hu) (e ▸ os_get hp hv)
theorem NetI.mv {ts ts2 : List Str} {ls : List (Nat × Nat)} (N : NetI ts ls) (e : ts.length = n) (e2 : ts2.length = n) (h2 : NamesOk ts2) : NetI ts2 (ls.map (oT os)).reverse := by
  have hp0 := N.pos
  have hf := N.few
  refine ⟨h2, by omega, by omega, fun t ht => ?_, ?_, by rw [List.length_reverse, List.length_map]; exact N.lfew⟩
  · obtain ⟨u, hu, rfl⟩ := List.mem_map.mp (List.mem_reverse.mp ht)
    obtain ⟨h1, h2, h3⟩ := N.ok u hu
    rw [e] at h1 h2
    rw [e2]
    exact ⟨os_lt hp h1, os_lt hp h2, fun e => h3 (os_inj hp h1 h2 e)⟩
  · refine (List.reverse_perm _).nodup_iff.mpr (nodup_map_on (fun a ha b hb e3 => ?_) N.nd)
    obtain ⟨a1, a2, _⟩ := N.ok a ha
    obtain ⟨b1, b2, _⟩ := N.ok b hb
    rw [e] at a1 a2 b1 b2
    obtain ⟨x, y⟩ := a
    obtain ⟨z, w⟩ := b
    injection e3 with f1 f2
    have := os_inj hp a1 b1 f1
    have := os_inj hp a2 b2 f2
    simp_all
end
/-- the table of new names -/
theorem dget_map {α : Type} {f : α → D × D} {l : List α} {z : α} (hz : z ∈ l) (hi : ∀ y ∈ l, (f y).1 = (f z).1 → f y = f z) : dget (l.map f) (f z).1 = some (f z).2 := by
  induction l with
  | nil => cases hz
  | cons y l ih =>
    rw [List.map_cons]
    show dget (((f y).1, (f y).2) :: l.map f) _ = _
    rw [dget_cons]
    by_cases e : (f y).1 = (f z).1
    · rw [if_pos e, hi y (List.mem_cons_self ..) e]
    · rw [if_neg e]
      refine ih ?_ fun x hx => hi x (List.mem_cons_of_mem _ hx)
      rcases List.mem_cons.mp hz with h | h
      · exact absurd (by rw [h]) e
      · exact h
end L2.DL

namespace L2.DL
open PySem PySem.Spec PyProof.Rows
/-! ### ties that lead on, without those that close a ring; the longest roads of these, as mathematics -/
inductive Rch (P : List (Str × Str)) (a : Str) : Str → Prop where
  | one {b : Str} (h : (a, b) ∈ P) : Rch P a b
  | step {b c : Str} (h : Rch P a b) (t : (b, c) ∈ P) : Rch P a c
theorem Rch.trans {P : List (Str × Str)} {a b c : Str} (h : Rch P a b) (g : Rch P b c) : Rch P a c := by
  induction g with
  | one t => exact .step h t
  | step _ t ih => exact .step ih t
theorem Rch.mono {P P' : List (Str × Str)} {a b : Str} (s : ∀ t ∈ P, t ∈ P') (h : Rch P a b) : Rch P' a b := by
  induction h with
  | one t => exact .one (s _ t)
  | step _ t ih => exact .step ih (s _ t)
theorem Rch.head {P : List (Str × Str)} {a b c : Str} (t : (a, b) ∈ P) (h : Rch P b c) : Rch P a c := (Rch.one t).trans h
def Acyc (P : List (Str × Str)) : Prop := ∀ v, ¬ Rch P v v
/-! ### how many places a road has that ends there -/
section
variable {P : List (Str × Str)} {ps : List Str} (ac : Acyc P) (hp : ∀ t ∈ P, t.1 ∈ ps ∧ t.2 ∈ ps)
include ac hp
end
/-! ### rounds of relaxing -/
/-! ### the dict from places to numbers -/
end L2.DL

namespace L2.DL
open PySem PySem.Spec PyProof.Rows
/-! ### two nets side by side -/
abbrev loN (n : Nat) (v : Nat) : Bool := decide (v < n)
abbrev hiN (n : Nat) (v : Nat) : Bool := !decide (v < n)
abbrev shT (n : Nat) (t : Nat × Nat) : Nat × Nat := (t.1 + n, t.2 + n)
def GoF (n : Nat) (r : List Nat) : Prop := ∀ (i a b : Nat), r[i]? = some a → r[i + 1]? = some b → n ≤ a → n ≤ b
theorem GoF.tail {n x : Nat} {r : List Nat} (h : GoF n (x :: r)) : GoF n r := fun i a b h1 h2 => h (i + 1) a b (by simpa using h1) (by simpa using h2)
theorem GoF.far {n : Nat} : ∀ {r : List Nat} {x : Nat}, GoF n (x :: r) → n ≤ x → ∀ y ∈ r, n ≤ y
  | [], _, _, _ => fun y hy => by cases hy
  | z :: r, x, h, hx => by
    have hz := h 0 x z rfl rfl hx
    intro y hy
    rcases List.mem_cons.mp hy with rfl | hy
    · exact hz
    · exact GoF.far h.tail hz y hy
theorem GoF.split {n : Nat} : ∀ {r : List Nat}, GoF n r → r = r.filter (loN n) ++ r.filter (hiN n)
  | [], _ => rfl
  | x :: r, h => by
    by_cases hx : x < n
    · rw [List.filter_cons_of_pos (by simp [hx]), List.filter_cons_of_neg (by simp [hx]), List.cons_append, ← GoF.split h.tail]
    · have hf := h.far (by omega)
      rw [List.filter_cons_of_neg (by simp [hx]), List.filter_cons_of_pos (by simp [hx])]
      have e : r.filter (loN n) = [] := List.filter_eq_nil_iff.mpr fun y hy => by
        have := hf y hy
        simp
        omega
      rw [e, List.nil_append]
      have e2 : r.filter (hiN n) = r := List.filter_eq_self.mpr fun y hy => by
        have := hf y hy
        simp
        omega
      rw [e2]
section
variable {n m : Nat} {l1 l2 lb : List (Nat × Nat)}
/-- ties within, and from the first to the second -/
structure Side (n m : Nat) (l1 l2 L : List (Nat × Nat)) : Prop where
  lo : ∀ t ∈ L, t.1 < n → t.2 < n → t ∈ l1
  hi : ∀ t ∈ L, n ≤ t.1 → n ≤ t.2 ∧ (t.1 - n, t.2 - n) ∈ l2
variable {L : List (Nat × Nat)} (sd : Side n m l1 l2 L)
include sd
theorem Side.go {r : List Nat} (R : RoadI (n + m) L r) : GoF n r := fun i a b h1 h2 h => (sd.hi _ (R.path i a b h1 h2) h).1
end
section
variable {n m : Nat} {l1 l2 L : List (Nat × Nat)} (sd : Side n m l1 l2 L)
include sd
end
/-! ### put side by side -/
theorem RoadI.wide {n k : Nat} {l L : List (Nat × Nat)} {r : List Nat} (R : RoadI n l r) (hk : n ≤ k) (h : ∀ t ∈ l, t ∈ L) : RoadI k L r := ⟨R.ne, R.nd, fun v hv => by have := R.low v hv; omega, fun i a b h1 h2 => h _ (R.path i a b h1 h2)⟩
section
variable {n m : Nat} {l1 l2 : List (Nat × Nat)} (k1 : ∀ t ∈ l1, t.1 < n ∧ t.2 < n) (k2 : ∀ t ∈ l2, t.1 < m ∧ t.2 < m)
include k1 k2
end
/-! ### by names -/
theorem RoadOk.wide {ps ps' : List Str} {es es' : List (Str × Str)} {r : List Str} (hp : ∀ x ∈ ps, x ∈ ps') (he : ∀ t ∈ es, t ∈ es') (R : RoadOk ps es r) : RoadOk ps' es' r := ⟨R.ne, R.nd, fun x hx => hp x (R.sub x hx), fun i a b h1 h2 => he _ (R.step i a b h1 h2)⟩
theorem PartOk.subs {ps : List Str} {es : List (Str × Str)} {rs : List (List Str)} (P : PartOk ps es rs) {x : Str} (hx : x ∈ rs.flatten) : x ∈ ps := by
  obtain ⟨r, hr, hx⟩ := List.mem_flatten.mp hx
  exact (P.road r hr).sub x hx
theorem PartOk.join {A B : List Str} {e1 e2 : List (Str × Str)} {r1 r2 : List (List Str)} (nd : (A ++ B).Nodup) (P1 : PartOk A e1 r1) (P2 : PartOk B e2 r2) : PartOk (A ++ B) (e1 ++ e2) (r1 ++ r2) := by
  refine ⟨fun r hr => ?_, ?_, by rw [List.flatten_append, List.length_append, List.length_append, P1.all, P2.all]⟩
  · rcases List.mem_append.mp hr with hr | hr
    · exact (P1.road r hr).wide (fun x hx => List.mem_append_left _ hx) fun x hx => List.mem_append_left _ hx
    · exact (P2.road r hr).wide (fun x hx => List.mem_append_right _ hx) fun x hx => List.mem_append_right _ hx
  · rw [List.flatten_append]
    exact List.nodup_append.mpr ⟨P1.nd, P2.nd, fun x hx y hy e => (List.nodup_append.mp nd).2.2 x (P1.subs hx) y (P2.subs hy) e⟩
theorem NamesOk.sub {ts us : List Str} (h : us.Sublist ts) (N : NamesOk ts) : NamesOk us := ⟨fun x hx => N.1 x (h.mem hx), h.nodup N.2⟩
theorem NetI.join {A B : List Str} {l1 l2 : List (Nat × Nat)} (nm : NamesOk (A ++ B)) (N1 : NetI A l1) (N2 : NetI B l2) (hs : A.length + B.length ≤ 40) (hl : l1.length + l2.length ≤ 200) : NetI (A ++ B) (l1 ++ l2.map (shT A.length)) := by
  have := N1.pos
  refine ⟨nm, by rw [List.length_append]; omega, by rw [List.length_append]; omega, fun t ht => ?_, ?_, by rw [List.length_append, List.length_map]; omega⟩
  · rw [List.length_append]
    rcases List.mem_append.mp ht with ht | ht
    · obtain ⟨h1, h2, h3⟩ := N1.ok t ht
      exact ⟨by omega, by omega, h3⟩
    · obtain ⟨u, hu, rfl⟩ := List.mem_map.mp ht
      obtain ⟨h1, h2, h3⟩ := N2.ok u hu
      exact ⟨by simp only; omega, by simp only; omega, by simp only; omega⟩
  · refine List.nodup_append.mpr ⟨N1.nd, nodup_map_on (fun a _ b _ e => ?_) N2.nd, fun x hx y hy e => ?_⟩
    · injection e with f1 f2
      exact Prod.ext (by omega) (by omega)
    · obtain ⟨u, hu, rfl⟩ := List.mem_map.mp hy
      have := (N1.ok x hx).1
      rw [e] at this
      simp only at this
      omega
/-- all ties from the first to the second -/
def btw (n m : Nat) : List (Nat × Nat) := ((List.range n).map fun a => (List.range m).map fun b => (a, n + b)).flatten
theorem mem_btw {n m : Nat} (t : Nat × Nat) : t ∈ btw n m ↔ t.1 < n ∧ n ≤ t.2 ∧ t.2 < n + m := by
  unfold btw
  constructor
  · intro h
    obtain ⟨r, hr, h⟩ := List.mem_flatten.mp h
    obtain ⟨a, ha, rfl⟩ := List.mem_map.mp hr
    obtain ⟨b, hb, rfl⟩ := List.mem_map.mp h
    have := List.mem_range.mp ha
    have := List.mem_range.mp hb
    exact ⟨by simpa, by simp, by simpa⟩
  · rintro ⟨h1, h2, h3⟩
    refine List.mem_flatten.mpr ⟨_, List.mem_map.mpr ⟨t.1, List.mem_range.mpr h1, rfl⟩, List.mem_map.mpr ⟨t.2 - n, List.mem_range.mpr (by omega), ?_⟩⟩
    exact Prod.ext rfl (by simp only; omega)
theorem btw_succ (n m k : Nat) : ((List.range (k + 1)).map fun a => (List.range m).map fun b => (a, n + b)).flatten = ((List.range k).map fun a => (List.range m).map fun b => (a, n + b)).flatten ++ (List.range m).map fun b => (k, n + b) := by
  rw [List.range_succ, List.map_append, List.flatten_append]
  simp
theorem btw_nd {n m : Nat} : ∀ k : Nat, (((List.range k).map fun a => (List.range m).map fun b => (a, n + b)).flatten).Nodup
  | 0 => List.nodup_nil
  | k + 1 => by
    rw [btw_succ]
    refine List.nodup_append.mpr ⟨btw_nd k, nodup_map_on (fun a _ b _ e => by injection e; omega) List.nodup_range, fun x hx y hy e => ?_⟩
    obtain ⟨r, hr, h⟩ := List.mem_flatten.mp hx
    obtain ⟨a, ha, rfl⟩ := List.mem_map.mp hr
    obtain ⟨b, hb, rfl⟩ := List.mem_map.mp h
    obtain ⟨c, hc, rfl⟩ := List.mem_map.mp hy
    have := List.mem_range.mp ha
    injection e
    omega
theorem btw_len {n m : Nat} : ∀ k : Nat, (((List.range k).map fun a => (List.range m).map fun b => (a, n + b)).flatten).length = k * m
  | 0 => by simp
  | k + 1 => by
    rw [btw_succ, List.length_append, btw_len k, List.length_map, List.length_range, Nat.add_mul, Nat.one_mul]
theorem NetI.met {A B : List Str} {l1 l2 : List (Nat × Nat)} (N : NetI (A ++ B) (l1 ++ l2.map (shT A.length))) (k1 : ∀ t ∈ l1, t.1 < A.length ∧ t.2 < A.length) (hl : l1.length + l2.length + A.length * B.length ≤ 200) : NetI (A ++ B) (l1 ++ l2.map (shT A.length) ++ btw A.length B.length) := by
  refine ⟨N.nm, N.pos, N.few, fun t ht => ?_, ?_, ?_⟩
  · rcases List.mem_append.mp ht with ht | ht
    · exact N.ok t ht
    · have := (mem_btw t).mp ht
      rw [List.length_append]
      omega
  · refine List.nodup_append.mpr ⟨N.nd, btw_nd _, fun x hx y hy e => ?_⟩
    have h := (mem_btw y).mp hy
    subst e
    rcases List.mem_append.mp hx with hx | hx
    · have := k1 x hx
      omega
    · obtain ⟨u, hu, rfl⟩ := List.mem_map.mp hx
      simp only at h
      omega
  · have := btw_len (n := A.length) (m := B.length) A.length
    rw [List.length_append, List.length_append, List.length_map]
    unfold btw
    omega
end L2.DL

namespace L2.DL
open PySem PySem.Spec PyProof.Rows
/-! ### begins and ends that touch all ties, as few as the pairs -/
section
variable {nx : List (List Nat)} {bg en : List (Option Nat)} {A C : Nat → Prop}
variable {seen clo met wait : List Nat} {h e : Nat}
/-- as many as the pairs -/
theorem filt_two (c : Nat → Bool) : ∀ l : List Nat, (l.filter c).length + (l.filter fun b => !c b).length = l.length
  | [] => rfl
  | x :: l => by
    have ih := filt_two c l
    cases h : c x with
    | true =>
      rw [List.filter_cons_of_pos h, List.filter_cons_of_neg (by rw [h]; simp), List.length_cons, List.length_cons]
      omega
    | false =>
      rw [List.filter_cons_of_neg (by rw [h]; simp), List.filter_cons_of_pos (by rw [h]; rfl), List.length_cons, List.length_cons]
      omega
end
end L2.DL

namespace L2.DL
local macro_rules | `(tactic| and_intros) => `(tactic| repeat (first | refine Step.go (v := (.s (.s (.s .z)))) ?_ | with_reducible refine gTup ?_ | with_reducible refine mthTie ?_ | with_reducible refine iModL ?_ | with_reducible refine xGTl ?_ | with_reducible refine andL (by with_unfolding_all exact lez rfl) ?_))
section
open PySem PySem.Spec PyProof.Rows
/-! ### sets of places as numbers -/
def msk (r : List Nat) : Nat := r.foldl (fun m i => m ||| 2 ^ i) 0
/-! ### entries of dicts -/
end
section
open PySem PySem.Spec PyProof.Rows
section
variable {α : Type} {wi : WI} {nt : NT} {tt : WT} {wk we : WE} {vs : List Nat} {sd : SD} {S : SO} {Q : KD}
end
end
section
open PySem PySem.Spec PyProof.Rows
/-! ### ways: where each leads -/
noncomputable def rchB (nx : List (List Nat)) (i j : Nat) : Bool := @decide (Reach nx i j) (Classical.propDecidable _)
noncomputable def truL (nx : List (List Nat)) : List (List Bool) := (List.range nx.length).map fun i => (List.range nx.length).map (rchB nx i)
abbrev blL (r : List Bool) : D := .lst (r.map D.bl)
noncomputable abbrev truD (nx : List (List Nat)) : D := .lst ((truL nx).map blL)
instance : InjD D.bl := ⟨fun _ _ h => by injection h⟩
end
section
open PySem PySem.Spec PyProof.Rows
/-! ### knots: places that lead to each other -/
noncomputable def samB (nx : List (List Nat)) (i j : Nat) : Bool := rchB nx i j && rchB nx j i
/-- all of b's knot -/
noncomputable def clsL (nx : List (List Nat)) (b : Nat) : List Nat := (List.range nx.length).filter (samB nx b)
/-- b is the least of its knot -/
noncomputable def fstB (nx : List (List Nat)) (b : Nat) : Bool := (List.range b).all fun j => !samB nx j b
noncomputable def knotsTo (nx : List (List Nat)) (i : Nat) : List (List Nat) := ((List.range i).filter (fstB nx)).map (clsL nx)
noncomputable abbrev knotsL (nx : List (List Nat)) : List (List Nat) := knotsTo nx nx.length
end
section
open PySem PySem.Spec PyProof.Rows
/-! ### which knot leads to which -/
end
section
open PySem PySem.Spec PyProof.Rows
end
section
open PySem PySem.Spec PyProof.Rows
end
section
open PySem PySem.Spec PyProof.Rows
end
section
open PySem PySem.Spec PyProof.Rows
/-! ### roads from their begins -/
end
section
open PySem PySem.Spec PyProof.Rows
end
section
open PySem PySem.Spec PyProof.Rows
end
section
open PySem PySem.Spec PyProof.Rows
/-! ### known webs, as mathematics -/
end
section
open PySem PySem.Spec PyProof.Rows
end
end L2.DL
namespace L2.DL
local macro_rules | `(tactic| and_intros) => `(tactic| repeat (first | refine Step.go (v := (.s (.s .z))) ?_ | with_reducible refine gTup ?_ | with_reducible refine mthTie ?_ | with_reducible refine iModL ?_ | with_reducible refine andL (by with_unfolding_all exact lez rfl) ?_))
section
open PySem PySem.Spec PyProof.Rows
/-! ### comes_to: whether ties in a dict of lists lead on to a place -/
section
variable {P : List (Str × Str)} {ps : List Str} {b e : Str} {sn wt : List Str}
end
end
section
open PySem PySem.Spec PyProof.Rows
/-! ### many lists of names, each an object, in a dict -/
section
variable {α : Type} {sd : SD} {S : SO} {R : Addr → SO → Prop} {nt : NT} {wk we : WE} {vs : List Nat}
end
/-! ### ringless_part -/
end
section
open PySem PySem.Spec PyProof.Rows
/-! ### colours_by, colouring -/
/-! ### colouring -/
end
section
open PySem PySem.Spec PyProof.Rows
/-! ### long_road -/
end
section
open PySem PySem.Spec PyProof.Rows
/-! ### the law's own walk: reaches, part, colours -/
theorem Rch.last {P : List (Str × Str)} {a b : Str} (h : Rch P a b) : b ∈ P.map (·.2) := by
  cases h with
  | one t => exact List.mem_map.mpr ⟨_, t, rfl⟩
  | step _ t => exact List.mem_map.mpr ⟨_, t, rfl⟩
section
variable {P : List (Str × Str)} {a : Str} {k : Nat} {row : List Str}
end
end
section
open PySem PySem.Spec PyProof.Rows
/-! ### k15 -/
end
section
open PySem PySem.Spec PyProof.Rows
/-! ### is_colouring of any value, by the program and by the law -/
end
section
open PySem PySem.Spec PyProof.Rows
/-! ### split of what was joined -/
/-! ### Web.read -/
end
section
open PySem PySem.Spec PyProof.Rows
/-! ### k14 -/
end
section
open PySem PySem.Spec PyProof.Rows
/-! ### k13 -/
end
end L2.DL
namespace L2.DL
open PySem PySem.Spec PyProof.Rows
/-! ### before_from, and whom each came from -/
end L2.DL

namespace L2.DL
local macro_rules | `(tactic| and_intros) => `(tactic| repeat (first | refine Step.go (v := (.s (.s (.s .z)))) ?_ | with_reducible refine gTup ?_ | with_reducible refine mthTie ?_ | with_reducible refine iModL ?_ | with_reducible refine xGTl ?_ | with_reducible refine andL (by with_unfolding_all exact lez rfl) ?_))
section
open PySem PySem.Spec PyProof.Rows
end
section
open PySem PySem.Spec PyProof.Rows
end
section
open PySem PySem.Spec PyProof.Rows
noncomputable abbrev kRow (nx : List (List Nat)) (r : List Nat) : List Nat := (r.map fun a => (knotsL nx).getD a []).flatten
end
section
open PySem PySem.Spec PyProof.Rows
end
section
open PySem PySem.Spec PyProof.Rows
/-! ### going along ties given by numbers -/
/-! ### the rows and rings -/
end
section
open PySem PySem.Spec PyProof.Rows
theorem getD_mem {ts : List Str} {i : Nat} (h : i < ts.length) : ts.getD i Str.empty ∈ ts := List.mem_of_getElem? (getD_get h)
end
section
open PySem PySem.Spec PyProof.Rows
end
section
open PySem PySem.Spec PyProof.Rows
/-! ### two rings -/
end
section
open PySem PySem.Spec PyProof.Rows
/-! ### layers -/
end
section
open PySem PySem.Spec PyProof.Rows
end
section
open PySem PySem.Spec PyProof.Rows
end
section
open PySem PySem.Spec PyProof.Rows
abbrev tpD (r : List Str) : D := .tup (plD r)
/-! ### places by their names -/
end
section
open PySem PySem.Spec PyProof.Rows
end
section
open PySem PySem.Spec PyProof.Rows
section
variable {α : Type} {sd : SD} {S : SO} {R : Addr → SO → Prop} {nt : NT} {wk we : WE} {vs : List Nat}
end
/-! ### roads by numbers -/
abbrev rdD (r : List Nat) : D := .tup (r.map fun i : Nat => D.int (i : Nat))
abbrev ky1 (m : Nat) : D := .int (m : Nat)
abbrev ky2 (m b : Nat) : D := .tup [.int (m : Nat), .int (b : Nat)]
end
section
open PySem PySem.Spec PyProof.Rows
end
section
open PySem PySem.Spec PyProof.Rows
theorem ok2 (m b : Nat) : keyOk true (ky2 m b) := ⟨_, [.inl (m : Nat), .inl (b : Nat)], rfl, rfl⟩
end
section
open PySem PySem.Spec PyProof.Rows
/-! ### partings of all places into roads of a kind, as mathematics -/
end
section
open PySem PySem.Spec PyProof.Rows
section
variable {n : Nat} {G : List Nat → Prop} {t : Nat} {K K' : List (D × D)} {L L' : List Nat}
end
end
section
open PySem PySem.Spec PyProof.Rows
abbrev prR : List Nat → D := fun r => .tup [ky1 (msk r), rdD r]
abbrev pwF : Nat → D := fun i => .int ((2 ^ i : Nat) : Int)
theorem ints_inj {r r' : List Nat} (e : r.map (fun i : Nat => D.int (i : Nat)) = r'.map (fun i : Nat => D.int (i : Nat))) : r = r' := map_inj e
instance : InjD prR := ⟨fun a b e => by
  injection e with e
  injection e with _ e
  injection e with e _
  injection e with e
  exact ints_inj e⟩
instance : InjD pwF := ⟨fun a b e => by
  injection e with e
  have e : 2 ^ a = 2 ^ b := by omega
  exact (Nat.pow_right_inj (by decide)).mp e⟩
end
section
open PySem PySem.Spec PyProof.Rows
structure FewS (ps : List Str) (ts : List (Str × Str)) (m : Nat) : Prop where
  ex : ∃ rs, PartOk ps ts rs ∧ rs.length = m
  all : ∀ rs, PartOk ps ts rs → m ≤ rs.length
theorem FewS.one {ps : List Str} {ts : List (Str × Str)} {m k : Nat} (h : FewS ps ts m) (h' : FewS ps ts k) : m = k := by
  obtain ⟨R, P, e⟩ := h.ex
  obtain ⟨R', P', e'⟩ := h'.ex
  have h1 := h.all R' P'
  have h2 := h'.all R P
  omega
/-! ### the functions -/
end
section
open PySem PySem.Spec PyProof.Rows
/-! ### free places -/
def FrS (ls : List (Str × Str)) (r : List Str) : Prop := ∀ x ∈ r, ∀ y ∈ r, (x, y) ∉ ls
structure FrM (ps : List Str) (ls : List (Str × Str)) (m : Nat) : Prop where
  ex : ∃ r : List Str, r.Sublist ps ∧ FrS ls r ∧ r.length = m
  all : ∀ r : List Str, r.Sublist ps → FrS ls r → r.length ≤ m
theorem FrM.one {ps : List Str} {ls : List (Str × Str)} {m k : Nat} (h : FrM ps ls m) (h' : FrM ps ls k) : m = k := by
  obtain ⟨r, r1, r2, r3⟩ := h.ex
  obtain ⟨u, u1, u2, u3⟩ := h'.ex
  have h1 := h.all u u1 u2
  have h2 := h'.all r r1 r2
  omega
theorem FrS.sw {ls : List (Str × Str)} {r : List Str} (h : FrS ls r) : FrS (sw ls) r := fun x hx y hy hm => h y hy x hx (by
  have := mem_sw.mpr hm
  rwa [sw_sw] at this)
theorem FrM.sw {ps : List Str} {ls : List (Str × Str)} {m : Nat} (h : FrM ps ls m) : FrM ps (sw ls) m := by
  obtain ⟨r, r1, r2, r3⟩ := h.ex
  refine ⟨⟨r, r1, r2.sw, r3⟩, fun u u1 u2 => h.all u u1 ?_⟩
  have := u2.sw
  rwa [sw_sw] at this
/-! ### the functions -/
end
section
open PySem PySem.Spec PyProof.Rows
end
section
open PySem PySem.Spec PyProof.Rows
theorem TupD.as {d : D} {xs : List D} (h : TupD d xs) : asTup d = some xs := by
  rcases h with rfl | rfl <;> rfl
end
section
open PySem PySem.Spec PyProof.Rows
abbrev rwS : List (List Str) → D := fun rs => .tup (rs.map tpD)
instance : InjD rwS := ⟨fun a b e => by
  injection e with e
  exact map_inj e⟩
end
section
open PySem PySem.Spec PyProof.Rows
instance : InjD rdD := ⟨fun a b e => by
  injection e with e
  exact map_inj e⟩
theorem part_sing {ts : List Str} {ls : List (Str × Str)} (ok : WebOk ts ls) : PartOk ts ls (ts.map fun x => [x]) := by
  have e : (ts.map fun x => [x]).flatten = ts := by
    rw [List.flatten_eq_flatMap, List.flatMap_map]
    simp
  refine ⟨fun r hr => ?_, by rw [e]; exact ok.nd, by rw [e]⟩
  obtain ⟨x, hx, rfl⟩ := List.mem_map.mp hr
  exact ⟨by simp, by simp, fun y hy => by rw [List.mem_singleton.mp hy]; exact hx, fun i a b ha hb => by simp at hb⟩
theorem FewS.le {ts : List Str} {ls : List (Str × Str)} {m : Nat} (h : FewS ts ls m) (ok : WebOk ts ls) : m ≤ ts.length := by
  have := h.all _ (part_sing ok)
  rwa [List.length_map] at this
end
section
open PySem PySem.Spec PyProof.Rows
/-- the fewest roads of a parting all of whose roads keep C; none if there is no such parting -/
def FewO (ps : List Str) (ts : List (Str × Str)) (C : List Str → Prop) : Option Nat → Prop
  | some m => (∃ rs, PartOk ps ts rs ∧ (∀ r ∈ rs, C r) ∧ rs.length = m) ∧ ∀ rs, PartOk ps ts rs → (∀ r ∈ rs, C r) → m ≤ rs.length
  | none => ∀ rs, PartOk ps ts rs → ¬ ∀ r ∈ rs, C r
theorem FewO.one {ps : List Str} {ts : List (Str × Str)} {C : List Str → Prop} : ∀ {o o' : Option Nat}, FewO ps ts C o → FewO ps ts C o' → o = o'
  | some m, some k, ⟨⟨r, P, c, e⟩, h⟩, ⟨⟨r', P', c', e'⟩, h'⟩ => by
    have h1 := h r' P' c'
    have h2 := h' r P c
    have : m = k := by omega
    rw [this]
  | none, none, _, _ => rfl
  | some m, none, ⟨⟨r, P, c, e⟩, h⟩, h' => absurd c (h' r P)
  | none, some m, h', ⟨⟨r, P, c, e⟩, h⟩ => absurd c (h' r P)
theorem FewO.mono {ps : List Str} {ts : List (Str × Str)} {C C' : List Str → Prop} (hc : ∀ r, RoadOk ps ts r → C r → C' r) {m : Nat} : ∀ {o : Option Nat}, FewO ps ts C (some m) → FewO ps ts C' o → ∃ k, o = some k ∧ k ≤ m
  | some k, ⟨⟨r, P, c, e⟩, h⟩, h' => ⟨k, rfl, by
    have := h'.2 r P fun x hx => hc x (P.road x hx) (c x hx)
    omega⟩
  | none, ⟨⟨r, P, c, e⟩, h⟩, h' => absurd (fun x hx => hc x (P.road x hx) (c x hx)) (h' r P)
theorem FewS.opt {ps : List Str} {ts : List (Str × Str)} {C : List Str → Prop} (hc : ∀ r, RoadOk ps ts r → C r) {m : Nat} (h : FewS ps ts m) : FewO ps ts C (some m) := by
  obtain ⟨r, P, e⟩ := h.ex
  exact ⟨⟨r, P, fun x hx => hc x (P.road x hx), e⟩, fun q Q _ => h.all q Q⟩
theorem FewO.few {ps : List Str} {ts : List (Str × Str)} {C : List Str → Prop} (hc : ∀ r, RoadOk ps ts r → C r) {m : Nat} (h : FewO ps ts C (some m)) : FewS ps ts m := by
  obtain ⟨⟨r, P, c, e⟩, h⟩ := h
  exact ⟨⟨r, P, e⟩, fun q Q => h q Q fun x hx => hc x (Q.road x hx)⟩
theorem FewO.le {ps : List Str} {ts : List (Str × Str)} {C : List Str → Prop} {m : Nat} (h : FewO ps ts C (some m)) : m ≤ ps.length := by
  obtain ⟨⟨r, P, c, e⟩, h⟩ := h
  have h1 : r.length ≤ r.flatten.length := flat_len fun x hx => (P.road x hx).len.1
  rw [P.all] at h1
  omega
section
variable {ps : List Str} {ts : List (Str × Str)} {nx : List (List Nat)} {G : List Nat → Prop} {C : List Str → Prop}
end
end
section
open PySem PySem.Spec PyProof.Rows
section
variable {ts : List Str} {ls : List (Str × Str)} {F : List (List (List Str))} {C : List Str → Prop} {p : List (List Str) → Bool}
end
theorem EqP.non : EqP .non .non true := ⟨.none, .none, rfl, rfl, by simp [PyData.canLay0], by simp [PyData.canLay0], by simp [PyData.depth], by simp [PyData.depth], by simp [PyData.eqv]⟩
end
section
open PySem PySem.Spec PyProof.Rows
section
variable {α : Type} {sd : SD} {S : SO} {R : Addr → SO → Prop} {nt : NT} {tt : WT} {wk we : WE} {vs : List Nat}
end
end
section
open PySem PySem.Spec PyProof.Rows
end
section
open PySem PySem.Spec PyProof.Rows
/-! ### ways in other dresses, as mathematics -/
/-! a dict of names -/
def mapK (ts : List Str) (g : Str → Str) : List (D × D) := ts.map fun t => (.str t, .str (g t))
theorem mapK_get {ts : List Str} {g : Str → Str} {x : Str} (hx : x ∈ ts) : dget (mapK ts g) (.str x) = some (.str (g x)) := by
  have := dget_map (f := fun t : Str => ((.str t, .str (g t)) : D × D)) hx (fun y hy e => by
    injection e with e
    rw [e])
  exact this
theorem mapK_puts {ts : List Str} {g : Str → Str} (nd : ts.Nodup) : dputsL [] (mapK ts g) = mapK ts g := by
  have hk : ((mapK ts g).map (·.1)).Nodup := by
    unfold mapK
    rw [List.map_map]
    exact nodup_map_on (fun a _ b _ e => by injection e) nd
  rw [dputsL_nodup (fun p _ => rfl) hk, List.nil_append]
def renF (ts us : List Str) (x : Str) : Str := us.getD (List.idxOf x ts) Str.empty
theorem idx_at {ts : List Str} (nd : ts.Nodup) {k : Nat} (h : k < ts.length) : List.idxOf (ts.getD k Str.empty) ts = k := by
  have hm := getD_mem h
  have hil := List.idxOf_lt_length_of_mem hm
  exact nodup_ix nd (by rw [List.getElem?_eq_getElem hil, List.getElem_idxOf hil]) (getD_get h)
theorem renF_at {ts us : List Str} (nd : ts.Nodup) {k : Nat} (h : k < ts.length) : renF ts us (ts.getD k Str.empty) = us.getD k Str.empty := by
  unfold renF
  rw [idx_at nd h]
theorem renF_mem {ts us : List Str} (hl : us.length = ts.length) {x : Str} (hx : x ∈ ts) : renF ts us x ∈ us := getD_mem (by rw [hl]; exact List.idxOf_lt_length_of_mem hx)
theorem renF_back {ts us : List Str} (nd : ts.Nodup) (nu : us.Nodup) (hl : us.length = ts.length) {x : Str} (hx : x ∈ ts) : renF us ts (renF ts us x) = x := by
  have hil := List.idxOf_lt_length_of_mem hx
  unfold renF
  rw [idx_at nu (by rw [hl]; exact hil), List.getD_eq_getElem?_getD, List.getElem?_eq_getElem hil]
  exact List.getElem_idxOf hil
theorem zip_mapK {ts us : List Str} (nd : ts.Nodup) (hl : us.length = ts.length) : (ts.map D.str).zip (us.map D.str) = mapK ts (renF ts us) := by
  refine List.ext_getElem? fun i => ?_
  unfold mapK
  rw [List.getElem?_map]
  by_cases h : i < ts.length
  · have hz : ((ts.map D.str).zip (us.map D.str))[i]? = some (D.str (ts.getD i Str.empty), D.str (us.getD i Str.empty)) := List.getElem?_zip_eq_some.mpr ⟨by rw [List.getElem?_map, getD_get h]; rfl, by rw [List.getElem?_map, getD_get (show i < us.length by omega)]; rfl⟩
    rw [hz, getD_get h]
    show some _ = some (D.str (ts.getD i Str.empty), D.str (renF ts us (ts.getD i Str.empty)))
    rw [renF_at nd h]
  · rw [List.getElem?_eq_none (by rw [List.length_zip, List.length_map, List.length_map]; omega), List.getElem?_eq_none (show ts.length ≤ i by omega)]
    rfl
def renP (g : Str → Str) (t : Str × Str) : Str × Str := (g t.1, g t.2)
/-! drawn together -/
end
section
open PySem PySem.Spec PyProof.Rows
section
variable {α β : Type} {sd : SD} {S : SO} {R : Addr → SO → Prop} {nt nt1 : NT} {wi wi1 : WI} {tt1 : WT} {wk we : WE} {vs vs1 : List Nat}
end
/-! ### two dicts into one -/
/-! ### rows of roads that have no place in common -/
end
section
open PySem PySem.Spec PyProof.Rows
section
variable {ts : List Str} {ls : List (Str × Str)}
end
end
section
open PySem PySem.Spec PyProof.Rows
end
section
open PySem PySem.Spec PyProof.Rows
section
variable {ts : List Str} {ls : List (Str × Str)}
theorem FewO.tie {C : List Str → Prop} {t : Str × Str} {m m' : Nat} (h : FewO ts ls C (some m)) (h' : FewO ts (ls ++ [t]) C (some m')) : m' ≤ m := by
  obtain ⟨⟨r, P, c, e⟩, _⟩ := h
  have := h'.2 r (P.mono fun t ht => List.mem_append_left _ ht) c
  omega
end
/-! ### the ties that roads use -/
end
section
open PySem PySem.Spec PyProof.Rows
end
end L2.DL
namespace L2.DL
local macro_rules | `(tactic| and_intros) => `(tactic| repeat (first | refine Step.go (v := (.s (.s (.s (.s .z))))) ?_ | with_reducible refine gTup ?_ | with_reducible refine mthTie ?_ | with_reducible refine iModL ?_ | with_reducible refine xGTl ?_ | with_reducible refine andL (by with_unfolding_all exact lez rfl) ?_))
section
open PySem PySem.Spec PyProof.Rows
/-! ### the checker: a web's text, places of any kind -/
end
section
open PySem PySem.Spec PyProof.Rows
/-! ### the checker: partings, roads, caps of any kind -/
end
section
open PySem PySem.Spec PyProof.Rows
/-! ### values of any kind whose tuples have no dict of their own -/
inductive AnyF (m : Nat) : D → Prop
  | non : AnyF m .non
  | bl (b : Bool) : AnyF m (.bl b)
  | int (i : Int) : AnyF m (.int i)
  | str (x : Str) (h : PyData.canLay0 (.str x) = true ∧ x.length ≤ m) : AnyF m (.str x)
  | tf (xs : List D) (hl : xs.length ≤ m) (h : ∀ x ∈ xs, AnyF m x) : AnyF m (.tf xs)
  | lst (xs : List D) (hl : xs.length ≤ m) (h : ∀ x ∈ xs, AnyF m x) : AnyF m (.lst xs)
  | dic (t : Bool) : AnyF m (.dic t [])
theorem AnyF.any {m : Nat} {d : D} (h : AnyF m d) : Any m d := by
  induction h with
  | non => exact .non
  | bl b => exact .bl b
  | int i => exact .int i
  | str x h => exact .str x h
  | tf xs hl _ ih => exact .tf xs hl ih
  | lst xs hl _ ih => exact .lst xs hl ih
  | dic t => exact .dic t
theorem AnyF.mono {m k : Nat} {d : D} (h : AnyF m d) (hk : m ≤ k) : AnyF k d := by
  induction h with
  | non => exact .non
  | bl b => exact .bl b
  | int i => exact .int i
  | str x h => exact .str x ⟨h.1, Nat.le_trans h.2 hk⟩
  | tf xs hl _ ih => exact .tf xs (Nat.le_trans hl hk) ih
  | lst xs hl _ ih => exact .lst xs (Nat.le_trans hl hk) ih
  | dic t => exact .dic t
theorem AnyF.tup {m : Nat} {d : D} {xs : List D} (h : AnyF m d) (e : asTup d = some xs) : d = .tf xs ∧ xs.length ≤ m ∧ ∀ x ∈ xs, AnyF m x := by
  cases h with
  | tf ys hl hx => cases e; exact ⟨rfl, hl, hx⟩
  | _ => cases e
theorem anyF_row {r : List Str} {m : Nat} (h : ∀ x ∈ r, sOk x ∧ x.length ≤ m) (hl : r.length ≤ m) : AnyF m (rowT r) := .tf _ (by rw [List.length_map]; exact hl) fun d hd => by
  obtain ⟨x, hx, rfl⟩ := List.mem_map.mp hd
  exact .str x (h x hx)
/-! ### the law's own look at roads and partings, of any kind -/
end
section
open PySem PySem.Spec PyProof.Rows
/-! ### lines with something otherwise -/
theorem AnyF.cut {m : Nat} {xs : List D} {lo hi : Option Int} (hl : xs.length ≤ m) (h : ∀ x ∈ xs, AnyF m x) : (cutD xs lo hi).length ≤ xs.length ∧ ∀ x ∈ cutD xs lo hi, x ∈ xs := by
  unfold cutD
  refine ⟨?_, fun x hx => List.mem_of_mem_drop (List.mem_of_mem_take hx)⟩
  rw [List.length_take, List.length_drop]
  omega
theorem addGf {S : SO} {Q : KD} {xs ys : List D} (hl : xs.length + ys.length ≤ 1000000) (h : Q (.tf (xs ++ ys)) S) : oAddG (.tf xs) (.tf ys) S Q := ⟨xs, ys, rfl, rfl, hl, fun e => by
  subst e
  exact h, fun e => by
  subst e
  rw [List.append_nil] at h
  exact h, fun _ _ => h⟩
theorem xRevT {we : WE} {sd : SD} {S : SO} {Q : KD} (h : we sd S fun d S1 => ∃ xs, (d = .tf xs ∨ d = .tup xs ∨ d = .kt xs) ∧ Q (.tf xs.reverse) S1) : wRevT we sd S Q := h
end
section
open PySem PySem.Spec PyProof.Rows
/-! ### the checker: colourings, places apart -/
def apD (z : Str × List Str) : D := .tup [.str z.1, .tf (plD z.2)]
instance : InjD apD := ⟨fun a b e => by
  unfold apD at e
  injection e with e
  injection e with e1 e2
  injection e2 with e2 _
  injection e1 with e1
  injection e2 with e2
  exact Prod.ext e1 (plD_inj e2)⟩
end
section
open PySem PySem.Spec PyProof.Rows
/-! ### caps bar: as mathematics -/
/-! ### drawn parts of a list -/
/-! ### the law's own count -/
/-! ### k61 -/
end
section
open PySem PySem.Spec PyProof.Rows
end
section
open PySem PySem.Spec PyProof.Rows
end
section
open PySem PySem.Spec PyProof.Rows
end
section
open PySem PySem.Spec PyProof.Rows
end
section
open PySem PySem.Spec PyProof.Rows
/-! ### wishes (k53) -/
end
section
open PySem PySem.Spec PyProof.Rows
/-! UB00: roads and wishes of values of any kind -/
end
section
open PySem PySem.Spec PyProof.Rows
/-! ### the law's pairs of a wish and what is due -/
end
section
open PySem PySem.Spec PyProof.Rows
/-! ### k53 -/
end
section
open PySem PySem.Spec PyProof.Rows
/-! UB0: what shows that a wish does not hold, as a function; desks as data -/
abbrev Wb := List Str × List (Nat × Nat)
/-- what the wish d tells of a web: nothing if it holds, else what is shown -/
inductive Flt (w : Wb) : D → Option D → Prop
  | road (x : D) (b : Bool) (h : b = true ↔ IsRd w.1 (nmL w.1 w.2) x) : Flt w (.tup [.str "road", x]) (if b then none else some .non)
  | free (k : Int) (m : Nat) (hl : w.1.length ≤ 9) (h : FrM w.1 (nmL w.1 w.2) m) (hm : m ≤ 40) : Flt w (.tup [.str "free", .int k]) (if k ≤ (m : Nat) then none else some (.int (m : Nat)))
  | roads (k : Int) (m : Nat) (hl : w.1.length ≤ 9) (h : FewS w.1 (nmL w.1 w.2) m) (hm : m ≤ 40) : Flt w (.tup [.str "roads", .int k]) (if ((m : Nat) : Int) ≤ k then none else some (.int (m : Nat)))
  | freeX (k : Int) (hl : 9 < w.1.length) : Flt w (.tup [.str "free", .int k]) (some .non)
  | roadsX (k : Int) (hl : 9 < w.1.length) : Flt w (.tup [.str "roads", .int k]) (some .non)
  | ringless : Flt w (.tup [.str "ringless"]) (if freeB w.1 w.2 then none else some .non)
  | ringlessF : Flt w (.tf [.str "ringless"]) (if freeB w.1 w.2 then none else some .non)
theorem fr_ne {k k' : Int} : D.tup [.str "free", .int k] ≠ .tup [.str "roads", .int k'] := by
  intro e
  injection e with e
  injection e with e _
  injection e with e
  exact absurd e (by decide +kernel)
theorem rd_ne {x : D} {k : Int} : D.tup [.str "road", x] ≠ .tup [.str "roads", .int k] ∧ D.tup [.str "road", x] ≠ .tup [.str "free", .int k] := by
  refine ⟨fun e => ?_, fun e => ?_⟩
  all_goals
    injection e with e
    injection e with e _
    injection e with e
    exact absurd e (by decide +kernel)
theorem Flt.one {w : Wb} {d : D} {o o' : Option D} (h : Flt w d o) (h' : Flt w d o') : o = o' := by
  cases h with
  | road x b h =>
    generalize hd : D.tup [.str "road", x] = d at h'
    cases h' with
    | road x' b' h2 =>
      have e : x = x' := by
        injection hd with hd
        injection hd with _ hd
        injection hd with hd
      subst e
      have : b = b' := by rw [Bool.eq_iff_iff, h, h2]
      rw [this]
    | free => exact absurd hd rd_ne.2
    | roads => exact absurd hd rd_ne.1
    | freeX => exact absurd hd rd_ne.2
    | roadsX => exact absurd hd rd_ne.1
    | ringless => cases hd
    | ringlessF => cases hd
  | free k m hl h hm =>
    generalize hd : D.tup [.str "free", .int k] = d at h'
    cases h' with
    | free k' m' hl' h2 hm' =>
      cases hd
      rw [h.one h2]
    | roads => exact absurd hd fr_ne
    | freeX k' hl' => omega
    | road => exact absurd hd.symm rd_ne.2
    | roadsX => exact absurd hd fr_ne
    | ringless => cases hd
    | ringlessF => cases hd
  | roads k m hl h hm =>
    generalize hd : D.tup [.str "roads", .int k] = d at h'
    cases h' with
    | roads k' m' hl' h2 hm' =>
      cases hd
      rw [h.one h2]
    | free => exact absurd hd.symm fr_ne
    | roadsX k' hl' => omega
    | road => exact absurd hd.symm rd_ne.1
    | freeX => exact absurd hd.symm fr_ne
    | ringless => cases hd
    | ringlessF => cases hd
  | freeX k hl =>
    generalize hd : D.tup [.str "free", .int k] = d at h'
    cases h' with
    | freeX => rfl
    | free k' m' hl' => omega
    | roads => exact absurd hd fr_ne
    | road => exact absurd hd.symm rd_ne.2
    | roadsX => exact absurd hd fr_ne
    | ringless => cases hd
    | ringlessF => cases hd
  | roadsX k hl =>
    generalize hd : D.tup [.str "roads", .int k] = d at h'
    cases h' with
    | roadsX => rfl
    | roads k' m' hl' => omega
    | free => exact absurd hd.symm fr_ne
    | road => exact absurd hd.symm rd_ne.1
    | freeX => exact absurd hd.symm fr_ne
    | ringless => cases hd
    | ringlessF => cases hd
  | ringless =>
    generalize hd : D.tup [.str "ringless"] = d at h'
    cases h' with
    | ringless => rfl
    | ringlessF => cases hd
    | road => cases hd
    | free => cases hd
    | roads => cases hd
    | freeX => cases hd
    | roadsX => cases hd
  | ringlessF =>
    generalize hd : D.tf [.str "ringless"] = d at h'
    cases h' with
    | ringlessF => rfl
    | ringless => cases hd
    | road => cases hd
    | free => cases hd
    | roads => cases hd
    | freeX => cases hd
    | roadsX => cases hd
open Classical in
noncomputable def fltOf (w : Wb) (d : D) : Option D := if h : ∃ o, Flt w d o then h.choose else none
/-- a wish of a desk's claim -/
def WishK (d : D) : Prop := (∃ xs, d = .tup [.str "road", .tf xs] ∧ AnyF 1000 (.tf xs)) ∨ (∃ k : Nat, k ≤ 10 ^ 700 ∧ (d = .tup [.str "roads", .int k] ∨ d = .tup [.str "free", .int k])) ∨ d = .tup [.str "ringless"] ∨ d = .tf [.str "ringless"]
theorem WishK.any {d : D} (h : WishK d) : Any 1000 d := by
  have st : ∀ {x : Str}, sOk x → x.length ≤ 1000 → Any 1000 (.str x) := fun h hl => .str _ ⟨h, hl⟩
  have two : ∀ {x : Str} {y : D}, sOk x → x.length ≤ 1000 → Any 1000 y → Any 1000 (.tup [.str x, y]) := fun h hl hy => .tup _ (by simp) fun z hz => by
    simp only [List.mem_cons, List.not_mem_nil, or_false] at hz
    rcases hz with rfl | rfl
    · exact st h hl
    · exact hy
  have one : ∀ z ∈ [D.str "ringless"], Any 1000 z := fun z hz => by
    rw [List.mem_singleton.mp hz]
    exact st (by decide +kernel) (by decide +kernel)
  rcases h with ⟨xs, rfl, A⟩ | ⟨k, _, rfl | rfl⟩ | rfl | rfl
  · exact two (by decide +kernel) (by decide +kernel) A.any
  · exact two (by decide +kernel) (by decide +kernel) (.int _)
  · exact two (by decide +kernel) (by decide +kernel) (.int _)
  · exact .tup _ (by simp) one
  · exact .tf _ (by simp) one
end
section
open PySem PySem.Spec PyProof.Rows
/-! VC0: roads_over, exactly (k24) -/
open Classical in
noncomputable def srtF (l : List Str) : List Str := if h : ∃ ss : List Str, ss.Perm l ∧ sortedS ss = true then h.choose else l
theorem srtF_eq {l ss : List Str} (p : ss.Perm l) (s : sortedS ss = true) : ss = srtF l := by
  have h : ∃ ss : List Str, ss.Perm l ∧ sortedS ss = true := ⟨ss, p, s⟩
  have e : srtF l = h.choose := dif_pos h
  rw [e]
  exact sorted_uniq (p.trans h.choose_spec.1.symm) (sortedS_pw s) (sortedS_pw h.choose_spec.2)
abbrev RK := List Str × Str
abbrev RM := List (RK × Int)
def rkQ (t : RK) : NestedKey := .tup [.tup (t.1.map .text), .text t.2]
def rkD (t : RK) : D := .tup [.tup (plD t.1), .str t.2]
def rmL (m : RM) : NL D D := m.map fun x => (rkQ x.1, rkD x.1, .int x.2)
theorem nkOfs_pl : ∀ g : List Str, nkOfs (plD g) = some (g.map .text)
  | [] => rfl
  | x :: g => by
    show ((nkOf (.str x)).bind fun q => (nkOfs (plD g)).map fun r => q :: r) = _
    rw [nkOfs_pl g]
    rfl
theorem depth_texts : ∀ g : List Str, NestedKey.depthAll (g.map .text) = 0
  | [] => rfl
  | x :: g => by
    show max (NestedKey.depth (.text x)) (NestedKey.depthAll (g.map .text)) = 0
    rw [depth_texts g]
    rfl
theorem rk_nk (t : RK) : NkD (rkQ t) (rkD t) := by
  refine ⟨?_, ?_, _, rfl⟩
  · show ((nkOf (.tup (plD t.1))).bind fun q => (nkOfs [.str t.2]).map fun r => q :: r).map NestedKey.tup = _
    have e : nkOf (.tup (plD t.1)) = some (.tup (t.1.map .text)) := by
      show (nkOfs (plD t.1)).map NestedKey.tup = _
      rw [nkOfs_pl]
      rfl
    rw [e]
    rfl
  · show NestedKey.depth (.tup [.tup (t.1.map .text), .text t.2]) ≤ 8
    simp only [NestedKey.depth, NestedKey.depthAll, depth_texts]
    omega
theorem rm_ok (m : RM) : NkOk (rmL m) := fun t ht => by
  obtain ⟨x, _, rfl⟩ := List.mem_map.mp ht
  exact rk_nk x.1
theorem texts_inj : ∀ {a b : List Str}, a.map NestedKey.text = b.map NestedKey.text → a = b
  | [], [], _ => rfl
  | [], _ :: _, h => by simp at h
  | _ :: _, [], h => by simp at h
  | x :: a, y :: b, h => by
    rw [List.map_cons, List.map_cons] at h
    injection h with h1 h2
    injection h1 with h1
    rw [h1, texts_inj h2]
theorem rkQ_inj {a b : RK} (h : rkQ a = rkQ b) : a = b := by
  unfold rkQ at h
  injection h with h
  injection h with h1 h
  injection h with h2 _
  injection h1 with h1
  injection h2 with h2
  exact Prod.ext (texts_inj h1) h2
def lkR (m : RM) (t : RK) : Option Int := (m.find? fun x => decide (x.1 = t)).map (·.2)
def putR (m : RM) (t : RK) (v : Int) : RM := if (lkR m t).isSome then m.map (fun x => if x.1 = t then (x.1, v) else x) else m ++ [(t, v)]
theorem rm_get (m : RM) (t : RK) : ndGet (rmL m) (rkQ t) = (lkR m t).map D.int := by
  induction m with
  | nil => rfl
  | cons x m ih =>
    by_cases e : x.1 = t
    · rw [show rmL (x :: m) = (rkQ x.1, rkD x.1, D.int x.2) :: rmL m from rfl, ndGet_pos (by rw [e])]
      simp [lkR, List.find?_cons, e]
    · rw [show rmL (x :: m) = (rkQ x.1, rkD x.1, D.int x.2) :: rmL m from rfl, ndGet_neg fun z => e (rkQ_inj z), ih]
      simp [lkR, List.find?_cons, e]
theorem rm_put (m : RM) (t : RK) (v : Int) : ndPut (rmL m) (rkQ t) (rkD t) (.int v) = rmL (putR m t v) := by
  unfold ndPut putR
  rw [rm_get, Option.isSome_map]
  split
  · unfold rmL
    rw [List.map_map, List.map_map]
    refine List.map_congr_left fun x _ => ?_
    show ndAt (rkQ t) (D.int v) (rkQ x.1, rkD x.1, D.int x.2) = _
    unfold ndAt
    by_cases e : x.1 = t
    · rw [if_pos (by rw [e])]
      simp [e]
    · rw [if_neg fun z => e (rkQ_inj z)]
      simp [e]
  · unfold rmL
    rw [List.map_append]
    rfl
theorem putR_len (m : RM) (t : RK) (v : Int) : (putR m t v).length ≤ m.length + 1 := by
  unfold putR
  split
  · rw [List.length_map]; omega
  · rw [List.length_append]; exact Nat.le_refl _
theorem putR_key {m : RM} {t : RK} {v : Int} {x : RK × Int} (h : x ∈ putR m t v) : x.1 = t ∨ ∃ y ∈ m, y.1 = x.1 := by
  unfold putR at h
  split at h
  · obtain ⟨y, hy, rfl⟩ := List.mem_map.mp h
    by_cases e : y.1 = t
    · rw [if_pos e]; exact .inl e
    · rw [if_neg e]; exact .inr ⟨y, hy, rfl⟩
  · rcases List.mem_append.mp h with h | h
    · exact .inr ⟨x, h, rfl⟩
    · rw [List.mem_singleton.mp h]; exact .inl rfl
/-- what the keys are -/
def RI (ps : List Str) (k : Nat) (m : RM) : Prop := ∀ x ∈ m, x.1.1.Nodup ∧ x.1.1.length = k ∧ (∀ y ∈ x.1.1, y ∈ ps) ∧ x.1.2 ∈ ps
theorem RI.put {ps : List Str} {k : Nat} {m : RM} {t : RK} {v : Int} (h : RI ps k m) (ht : t.1.Nodup ∧ t.1.length = k ∧ (∀ y ∈ t.1, y ∈ ps) ∧ t.2 ∈ ps) : RI ps k (putR m t v) := fun x hx => by
  rcases putR_key hx with e | ⟨y, hy, e⟩
  · rw [e]; exact ht
  · rw [← e]; exact h y hy
noncomputable def inR (ts : List (Str × Str)) (x : RK × Int) (l : RM) (p : Str) : RM := if p ∉ x.1.1 ∧ (x.1.2, p) ∈ ts then putR l (srtF (x.1.1 ++ [p]), p) ((lkR l (srtF (x.1.1 ++ [p]), p)).getD 0 + x.2) else l
noncomputable def turnR (ps : List Str) (ts : List (Str × Str)) (m : RM) : RM := m.foldl (fun l x => ps.foldl (inR ts x) l) []
def known0 (ps : List Str) : RM := ps.foldl (fun m p => putR m ([p], p) 1) []
noncomputable def turnsR (ps : List Str) (ts : List (Str × Str)) : Nat → RM
  | 0 => known0 ps
  | k + 1 => turnR ps ts (turnsR ps ts k)
noncomputable def rovF (ps : List Str) (ts : List (Str × Str)) : Int := ((turnsR ps ts (ps.length - 1)).map (·.2)).sum
def capR (n : Nat) : Nat → Nat
  | 0 => n
  | k + 1 => capR n k * (n - (k + 1))
theorem capR_le {n k : Nat} (hn : n ≤ 9) (hk : k ≤ 9) : capR n k ≤ 362880 := by
  have : ∀ n, n < 10 → ∀ k, k < 10 → capR n k ≤ 362880 := by decide
  exact this n (by omega) k (by omega)
theorem filt_hf {α : Type} (p : α → Bool) : ∀ l : List α, (l.filter p).length + (l.filter fun x => !p x).length = l.length
  | [] => rfl
  | x :: l => by
    have ih := filt_hf p l
    rw [List.filter_cons, List.filter_cons]
    cases h : p x
    · simp only [h, Bool.not_false, if_true, Bool.false_eq_true, if_false, List.length_cons]; omega
    · simp only [h, Bool.not_true, if_true, Bool.false_eq_true, if_false, List.length_cons]; omega
theorem out_len {ps g : List Str} (nd : g.Nodup) (h : ∀ y ∈ g, y ∈ ps) (np : ps.Nodup) : (ps.filter fun p => decide (p ∉ g)).length = ps.length - g.length := by
  have h1 : (ps.filter fun p => decide (p ∈ g)).Perm g := (List.perm_ext_iff_of_nodup (np.filter _) nd).mpr fun y => by
    simp only [List.mem_filter, decide_eq_true_eq]
    exact ⟨fun z => z.2, fun z => ⟨h y z, z⟩⟩
  have h2 := filt_hf (fun p => decide (p ∈ g)) ps
  have h3 : (ps.filter fun p => !decide (p ∈ g)) = ps.filter fun p => decide (p ∉ g) := by
    congr 1
    funext p
    simp
  rw [h3, h1.length_eq] at h2
  omega
theorem inR_len (ts : List (Str × Str)) (x : RK × Int) : ∀ (ps : List Str) (l : RM), (ps.foldl (inR ts x) l).length ≤ l.length + (ps.filter fun p => decide (p ∉ x.1.1)).length
  | [], l => Nat.le_refl _
  | p :: ps, l => by
    have ih := inR_len ts x ps (inR ts x l p)
    have h : (inR ts x l p).length ≤ l.length + if decide (p ∉ x.1.1) = true then 1 else 0 := by
      unfold inR
      split
      · rename_i h
        rw [if_pos (decide_eq_true h.1)]
        exact putR_len _ _ _
      · omega
    rw [List.foldl_cons, List.filter_cons]
    split
    · rename_i e
      rw [if_pos e] at h
      rw [List.length_cons]
      omega
    · rename_i e
      rw [if_neg e] at h
      omega
theorem turnR_len {ps : List Str} {ts : List (Str × Str)} {k : Nat} (np : ps.Nodup) : ∀ {m : RM}, RI ps k m → ∀ l : RM, (m.foldl (fun l x => ps.foldl (inR ts x) l) l).length ≤ l.length + m.length * (ps.length - k)
  | [], _, l => by simp
  | x :: m, h, l => by
    have hx := h x (by simp)
    have h1 := inR_len ts x ps l
    rw [out_len hx.1 hx.2.2.1 np, hx.2.1] at h1
    have ih := turnR_len (ts := ts) np (fun y hy => h y (List.mem_cons_of_mem _ hy)) (ps.foldl (inR ts x) l)
    rw [List.foldl_cons, List.length_cons, Nat.add_mul, Nat.one_mul]
    omega
theorem known0_step {ps : List Str} {i : Nat} {p : Str} (h : ps[i]? = some p) : (ps.take (i + 1)).foldl (fun m p => putR m ([p], p) 1) [] = putR ((ps.take i).foldl (fun m p => putR m ([p], p) 1) []) ([p], p) 1 := by
  rw [List.take_add_one, h, List.foldl_append]
  rfl
theorem known0_len : ∀ (ps : List Str) (m : RM), (ps.foldl (fun m p => putR m ([p], p) 1) m).length ≤ m.length + ps.length
  | [], m => Nat.le_refl _
  | p :: ps, m => by
    have ih := known0_len ps (putR m ([p], p) 1)
    have := putR_len m ([p], p) 1
    rw [List.foldl_cons, List.length_cons]
    omega
theorem known0_RI {qs : List Str} : ∀ (ps : List Str) (m : RM), (∀ p ∈ ps, p ∈ qs) → RI qs 1 m → RI qs 1 (ps.foldl (fun m p => putR m ([p], p) 1) m)
  | [], m, _, h => h
  | p :: ps, m, hp, h => known0_RI ps _ (fun x hx => hp x (List.mem_cons_of_mem _ hx)) (h.put ⟨by simp, rfl, by simpa using hp p (by simp), hp p (by simp)⟩)
def sp_roads_overD (W : Addr) : DSp := fun ds S Q E => ∃ (ps : List Str) (ts : List (Str × Str)), ds = [webD W ps ts] ∧ WebOk ps ts ∧ ps.length ≤ 9 ∧ Q (.int (rovF ps ts)) S
def w_roads_overD (W : Addr) : WS := (wSeq (wDrop (wFn (sp_check_web W) [] (wCons (wV 0) wNil)))
    (wSeq (wIfS (wB (wO oGt (wCall (cLenO W (sp_Web_len W)) (wCons (wV 0) wNil)) (wC (.int 9)))) wNever wNext)
    (wAllS (α := NdF) fun N => (wSeq (wAsg (wDcN N (wSeqI (wFld W "row" (wV 0))) (.n 7) wYes (wTup (wCons (wTup (wCons (wV 7) wNil)) (wCons (wV 7) wNil))) (wC (.int 1)) [7]) (gV 1))
    (wSeq (wFor (wRng1 (wCons (wO oSub (wCall (cLenO W (sp_Web_len W)) (wCons (wV 0) wNil)) (wC (.int 1))) wNil)) (gV 2) (wSeq (wAsg (wNdNew N) (gV 3))
    (wSeq (wFor (wItemsN N (wV 1)) (gT 2 (gC (gT 2 (gC (gV 4) (gC (gV 5) gN))) (gC (gV 6) gN))) (wFor (wSeqI (wFld W "row" (wV 0))) (gV 7) (wIfS (wAnd (wB (wO oNotIn (wV 7) (wV 4))) (wB (wMeth W "has_tie" (sp_Web_has_tie W) [] (wV 0) (wCons (wV 5) (wCons (wV 7) wNil))))) (wSeq (wAsg (wTup (wCons (wCall cTuple (wCons (wCall cSorted (wCons (wLst (wStar (wV 4) (wCons (wV 7) wNil))) wNil)) wNil)) (wCons (wV 7) wNil))) (gV 8))
    (wNdPut N (wV 3) (wV 8) (wO oAdd (wNdGet N (wV 3) (wV 8) (wC (.int 0))) (wV 6)))) wNext)))
    (wAsg (wV 3) (gV 1)))))
    (wRet (wCall cSum (wCons (wListVN N (wV 1)) wNil))))))))
theorem del_two {S : SO} {a b : Addr} {x y : DO} (h : S a = none) (hab : a ≠ b) : ((S.set a x).set b y).del a = S.set b y := by
  funext c
  unfold SO.del SO.set
  by_cases e : c = a
  · subst e
    rw [if_pos rfl, if_neg hab, h]
  · rw [if_neg e, if_neg e]
theorem pure_roads_overD (W : Addr) : ∀ ds S Q E, sp_roads_overD W ds S Q E → w_roads_overD W (endsOf Q) (startD ["web", "known", "turn", "later", "gone", "last", "many", "place", "key"] ds) S := by
  rintro ds S Q E ⟨ps, ts, rfl, ok, h9, q⟩
  have few := ok.few
  have hpos := ok.pos
  have hsO := ok.sok
  have hnd := ok.nd
  refine xFn ?_
  show w_roads_overD W _ [some _, none, none, none, none, none, none, none, none] S
  unfold w_roads_overD
  and_intros
  refine lenWeb (by omega) ?_
  and_intros
  refine isNB (decide_eq_false (by omega)) ?_
  and_intros
  refine ⟨fun N => ?_⟩
  and_intros
  intro k hk
  refine ⟨fun i S' => S' = S.set k (.nd N (rmL ((ps.take i).foldl (fun m p => putR m ([p], p) 1) []))), rfl, fun _ _ _ => trivial, ?_, ?_⟩
  · rintro i d S' hd rfl
    have hd : (plD ps)[i]? = some d := hd
    rw [List.getElem?_map] at hd
    obtain ⟨p, hp, rfl⟩ := Option.map_eq_some_iff.mp hd
    have hl := known0_len (ps.take i) []
    have ht : (ps.take i).length ≤ ps.length := by rw [List.length_take]; omega
    (simp only [prD, putNT, wipeD, putAll, List.set_cons_zero, List.set_cons_succ, List.length_cons, List.length_nil, true_and]; and_intros)
    refine upYes (ifY rfl (upI ?_))
    and_intros
    refine upI ?_
    and_intros
    refine ⟨_, rkQ ([p], p), set_same, rm_ok _, rk_nk ([p], p), ?_, ?_⟩
    · unfold rmL
      rw [List.length_map]
      simp only [List.length_nil] at hl
      omega
    · show SO.set _ k (.nd N (ndPut _ (rkQ ([p], p)) (rkD ([p], p)) (.int 1))) = _
      rw [set_set, rm_put, known0_step hp]
  rintro S' rfl
  rw [show (ItD.items ⟨plD ps, fun _ => True⟩).length = ps.length from List.length_map _, List.take_length]
  have hK : RI ps 1 (known0 ps) := known0_RI ps [] (fun p h => h) (fun x hx => nomatch hx)
  have hK2 : (known0 ps).length ≤ ps.length := by
    have := known0_len ps []
    simpa [known0] using this
  show gV 1 _ _ (S.set k (.nd N (rmL (known0 ps)))) _
  and_intros
  refine lenWeb (by omega) ?_
  and_intros
  rw [show ((ps.length : Nat) : Int) - 1 = ((ps.length - 1 : Nat) : Int) by omega]
  refine rng1N (by omega) ?_
  refine forR (fun x : Addr × RM × Option D × Option D × Option D × Option D × Option D × Option D × Option D => [some (webD W ps ts), some (.obj x.1), x.2.2.1, x.2.2.2.1, x.2.2.2.2.1, x.2.2.2.2.2.1, x.2.2.2.2.2.2.1, x.2.2.2.2.2.2.2.1, x.2.2.2.2.2.2.2.2]) (fun x => S.set x.1 (.nd N (rmL x.2.1)))
    (fun i x => S x.1 = none ∧ x.2.1 = turnsR ps ts i ∧ RI ps (i + 1) x.2.1 ∧ x.2.1.length ≤ capR ps.length i) (k, known0 ps, none, none, none, none, none, none, none) ⟨hk, rfl, hK, hK2⟩ ?_ ?_
  · clear hK hK2 hk
    rintro i ⟨k, m, c2, c3, c4, c5, c6, c7, c8⟩ hi ⟨hk, hm, hR, hC⟩
    have hk : S k = none := hk
    have hm : m = turnsR ps ts i := hm
    have hR : RI ps (i + 1) m := hR
    have hC : m.length ≤ capR ps.length i := hC
    and_intros
    intro l hl
    have hkl : k ≠ l := so_ne set_same hl
    have hlS : S l = none := by rw [← hl]; exact (set_ne hkl.symm).symm
    and_intros
    refine ⟨k, rmL m, rfl, by rw [set_ne hkl]; exact set_same, ?_⟩
    rw [show ((S.set k (.nd N (rmL m))).set l (.nd N [])).del k = S.set l (.nd N []) from del_two hk hkl]
    refine forJ m (fun x => .tup [rkD x.1, .int x.2]) (fun y : RM × Option D × Option D × Option D × Option D × Option D => [some (webD W ps ts), some (.obj k), some (.int (i : Nat)), some (.obj l), y.2.1, y.2.2.1, y.2.2.2.1, y.2.2.2.2.1, y.2.2.2.2.2]) (fun y => S.set l (.nd N (rmL y.1)))
      (fun j y => y.1 = (m.take j).foldl (fun l x => ps.foldl (inR ts x) l) [] ∧ RI ps (i + 2) y.1) ([], c4, c5, c6, c7, c8) ⟨rfl, fun x hx => nomatch hx⟩ ?_ ?_ rfl rfl (by unfold prsN rmL; rw [List.map_map]; rfl)
    · rintro j x ⟨y, c4, c5, c6, c7, c8⟩ hx ⟨hy, hyR⟩
      have hy : y = (m.take j).foldl (fun l x => ps.foldl (inR ts x) l) [] := hy
      have hyR : RI ps (i + 2) y := hyR
      have xm := hR x (List.mem_of_getElem? hx)
      have hyB : y.length ≤ 362880 := by
        have h := turnR_len (ts := ts) hnd (m := m.take j) (fun w hw => hR w (List.mem_of_mem_take hw)) []
        rw [← hy] at h
        have h2 : (m.take j).length ≤ m.length := by rw [List.length_take]; omega
        have h3 := capR_le (n := ps.length) (k := i + 1) h9 (by omega)
        have h4 : (m.take j).length * (ps.length - (i + 1)) ≤ capR ps.length i * (ps.length - (i + 1)) := Nat.mul_le_mul_right _ (by omega)
        have h5 : capR ps.length (i + 1) = capR ps.length i * (ps.length - (i + 1)) := rfl
        simp only [List.length_nil] at h
        omega
      show gT 2 _ (.tup [.tup [.tup (plD x.1.1), .str x.1.2], .int x.2]) _ _ _
      and_intros
      refine forJ ps D.str (fun z : RM × Option D × Option D => [some (webD W ps ts), some (.obj k), some (.int (i : Nat)), some (.obj l), some (.tup (plD x.1.1)), some (.str x.1.2), some (.int x.2), z.2.1, z.2.2]) (fun z => S.set l (.nd N (rmL z.1)))
        (fun r z => z.1 = (ps.take r).foldl (inR ts x) y ∧ RI ps (i + 2) z.1) (y, c7, c8) ⟨rfl, hyR⟩ ?_ ?_
      · rintro r p ⟨z, c7, c8⟩ hp ⟨hz, hzR⟩
        have hz : z = (ps.take r).foldl (inR ts x) y := hz
        have hzR : RI ps (i + 2) z := hzR
        have pm := List.mem_of_getElem? hp
        have hzB : z.length ≤ 370000 := by
          have h := inR_len ts x (ps.take r) y
          rw [← hz] at h
          have h2 := List.length_filter_le (fun p => decide (p ∉ x.1.1)) (ps.take r)
          have h3 : (ps.take r).length ≤ ps.length := by rw [List.length_take]; omega
          omega
        have nx : (ps.take (r + 1)).foldl (inR ts x) y = inR ts x z p := by
          rw [List.take_add_one, hp, List.foldl_append, ← hz]
          rfl
        and_intros
        refine ninTup ?_ (hsO p pm) (fun w hw => hsO w (xm.2.2.1 w hw))
        refine isCB (fun h1 => ?_) fun h1 => ?_
        · and_intros
          refine isD (fun h2 => ?_) fun h2 => ?_
          · and_intros
            refine ⟨_, rfl, ?_⟩
            and_intros
            refine ⟨by rw [List.length_append, List.length_map, xm.2.1]; simp; omega, ?_⟩
            and_intros
            refine srtS (ss := x.1.1 ++ [p]) ?_ fun ss' pms so => ?_
            · show some _ = some _
              unfold plD
              rw [List.map_append]
              rfl
            have es := srtF_eq pms so
            have np : p ∉ x.1.1 := by simpa using h1
            have tk : (srtF (x.1.1 ++ [p])).Nodup ∧ (srtF (x.1.1 ++ [p])).length = i + 2 ∧ (∀ w ∈ srtF (x.1.1 ++ [p]), w ∈ ps) ∧ p ∈ ps := by
              rw [← es]
              refine ⟨pms.nodup_iff.mpr (List.nodup_append.mpr ⟨xm.1, by simp, fun a ha b hb e => np (by rw [List.mem_singleton.mp hb] at e; rw [← e]; exact ha)⟩), by rw [pms.length_eq, List.length_append, xm.2.1]; rfl, fun w hw => ?_, pm⟩
              rcases List.mem_append.mp (pms.mem_iff.mp hw) with h | h
              · exact xm.2.2.1 w h
              · rw [List.mem_singleton.mp h]; exact pm
            have ein : inR ts x z p = putR z (srtF (x.1.1 ++ [p]), p) ((lkR z (srtF (x.1.1 ++ [p]), p)).getD 0 + x.2) := if_pos ⟨np, h2⟩
            subst es
            and_intros
            refine ⟨l, rmL z, rfl, set_same, ?_⟩
            and_intros
            refine ⟨rmL z, rkQ (srtF (x.1.1 ++ [p]), p), set_same, rm_ok _, rk_nk (srtF (x.1.1 ++ [p]), p), ?_⟩
            rw [rm_get]
            rw [show ((lkR z (srtF (x.1.1 ++ [p]), p)).map D.int).getD (.int 0) = .int ((lkR z (srtF (x.1.1 ++ [p]), p)).getD 0) by cases lkR z (srtF (x.1.1 ++ [p]), p) <;> rfl]
            and_intros
            refine ⟨l, rmL z, rkQ (srtF (x.1.1 ++ [p]), p), rfl, set_same, rm_ok _, rk_nk (srtF (x.1.1 ++ [p]), p), ?_, ?_⟩
            · unfold rmL
              rw [List.length_map]
              omega
            · refine .of (inR ts x z p, _, _) ⟨nx.symm, by rw [ein]; exact hzR.put tk⟩ rfl ?_
              show (S.set l (.nd N (rmL z))).set l (.nd N (ndPut (rmL z) (rkQ (srtF (x.1.1 ++ [p]), p)) (rkD (srtF (x.1.1 ++ [p]), p)) (.int ((lkR z (srtF (x.1.1 ++ [p]), p)).getD 0 + x.2)))) = S.set l (.nd N (rmL (inR ts x z p)))
              rw [set_set, rm_put, ein]
          · and_intros
            have e : inR ts x z p = z := if_neg fun h => h2 h.2
            rw [e] at nx
            exact ⟨(z, _, _), rfl, rfl, nx.symm, hzR⟩
        · and_intros
          have e : inR ts x z p = z := if_neg fun h => h.1 (by simpa using h1)
          rw [e] at nx
          exact ⟨(z, _, _), rfl, rfl, nx.symm, hzR⟩
      · rintro ⟨z, c7, c8⟩ ⟨hz, hzR⟩
        have hz : z = (ps.take ps.length).foldl (inR ts x) y := hz
        rw [List.take_length] at hz
        refine ⟨(z, _, _, _, _, _), rfl, rfl, ?_, hzR⟩
        rw [List.take_add_one, hx, List.foldl_append, ← hy, hz]
        rfl
    · rintro ⟨y, c4, c5, c6, c7, c8⟩ ⟨hy, hyR⟩
      have hy : y = (m.take m.length).foldl (fun l x => ps.foldl (inR ts x) l) [] := hy
      rw [List.take_length] at hy
      have hyl : y.length ≤ m.length * (ps.length - (i + 1)) := by
        have := turnR_len (ts := ts) hnd hR []
        rw [← hy] at this
        simpa using this
      and_intros
      refine .of (l, y, _, _, _, _, _, _, _) ⟨hlS, ?_, hyR, Nat.le_trans hyl (Nat.mul_le_mul_right _ hC)⟩
      rw [hy, hm]
      rfl
  · rintro ⟨k, m, c2, c3, c4, c5, c6, c7, c8⟩ ⟨hk, hm, hR, hC⟩
    have hC : m.length ≤ capR ps.length (ps.length - 1) := hC
    have hm : m = turnsR ps ts (ps.length - 1) := hm
    have hk : S k = none := hk
    have c := capR_le (n := ps.length) (k := ps.length - 1) h9 (by omega)
    and_intros
    refine ⟨k, rmL m, rfl, set_same, ?_, ?_⟩
    · unfold rmL
      rw [List.length_map]
      omega
    and_intros
    refine ⟨m.map (·.2), ?_, ?_⟩
    · show some _ = some _
      unfold rmL
      rw [List.map_map, List.map_map]
      rfl
    refine ⟨_, _, Rf.dropS _ hk, ?_⟩
    have e : (m.map (·.2)).sum = rovF ps ts := by rw [hm]; rfl
    rw [e]
    exact q
end
section
open PySem PySem.Spec PyProof.Rows
/-! VC1: one_road, exactly (k24) -/
def oneT (ts : List (Str × Str)) (ps : List Str) : List Str := ps.foldl (fun r x => r.take (insAt ts r x) ++ [x] ++ r.drop (insAt ts r x)) []
theorem oneT_step {ts : List (Str × Str)} {ps r : List Str} {i : Nat} {x : Str} (hx : ps[i]? = some x) (he : r = oneT ts (ps.take i)) : r.take (insAt ts r x) ++ [x] ++ r.drop (insAt ts r x) = oneT ts (ps.take (i + 1)) := by
  unfold oneT
  rw [List.take_add_one, hx, List.foldl_append, he]
  rfl
def sp_one_roadD (W : Addr) : DSp := fun ds S Q E => ∃ (ps : List Str) (ts : List (Str × Str)), ds = [webD W ps ts] ∧ WebOk ps ts ∧ apart ts ps = [] ∧ (RoadOk ps ts (oneT ts ps) → (oneT ts ps).length = ps.length → Q (.tup (plD (oneT ts ps))) S)
def w_one_roadD (W : Addr) : WS := (wSeq (wDrop (wFn (sp_check_web W) [] (wCons (wV 0) wNil)))
    (wSeq (wAsg (wFn (sp_first_untiedX W) [] (wCons (wV 0) wNil)) (gV 1))
    (wSeq (wIfS (wB (wO oNotN (wV 1) (wC .non))) wNever wNext)
    (wSeq (wAsg (wNew wNil) (gV 2))
    (wSeq (wFor (wSeqI (wFld W "row" (wV 0))) (gV 3) (wSeq (wAsg (wLcP (wEnum (wCons (wV 2) wNil)) (.t [5, 6]) (wB (wMeth W "has_tie" (sp_Web_has_tie W) [] (wV 0) (wCons (wV 3) (wCons (wV 6) wNil)))) (wV 5) [5, 6]) (gV 4))
    (wDrop (wBM "list" mInsert (wV 2) (wCons (wIf (wB (wO oNe (wV 4) (wLst wNil))) (wO oIx (wV 4) (wC (.int 0))) (wCall cLen (wCons (wV 2) wNil))) (wCons (wV 3) wNil))))))
    (wRet (wCall cTuple (wCons (wV 2) wNil))))))))
theorem pure_one_roadD (W : Addr) : ∀ ds S Q E, sp_one_roadD W ds S Q E → w_one_roadD W (endsOf Q) (startD ["web", "found", "road", "place", "ahead", "index", "other"] ds) S := by
  rintro ds S Q E ⟨ps, ts, rfl, ok, h0, q⟩
  have M := apart_nil h0
  have few := ok.few
  refine xFn ?_
  show w_one_roadD W _ [some _, none, none, none, none, none, none] S
  unfold w_one_roadD
  and_intros
  refine ⟨ps, ts, rfl, ok, fun _ => ?_, fun a b l h => by rw [h0] at h; cases h⟩
  and_intros
  refine isNB rfl ?_
  and_intros
  intro p hp
  and_intros
  refine forJ ps D.str (fun a : List Str × Option D × Option D => [some (webD W ps ts), some .non, some (.obj p), a.2.1, a.2.2, none, none]) (fun a => S.set p (.lst (plD a.1))) (fun i a => Chain ts a.1 ∧ a.1.length = i ∧ (∀ y, y ∈ a.1 ↔ y ∈ ps.take i) ∧ a.1 = oneT ts (ps.take i)) ([], none, none) ⟨⟨by simp, by simp⟩, rfl, by simp, rfl⟩ ?_ ?_
  · rintro i x ⟨r, c3, c4⟩ hx ⟨C, hl, hm, he⟩
    have hx' := List.mem_of_getElem? hx
    have hxr : x ∉ r := fun h => nodup_take ok.nd hx ((hm x).mp h)
    have hlt := (List.getElem?_eq_some_iff.mp hx).1
    have hl' : r.length = i := hl
    have he : r = oneT ts (ps.take i) := he
    have hm' : ∀ y, y ∈ r ↔ y ∈ ps.take i := hm
    obtain ⟨hi, C2⟩ := C.put hxr fun y hy => M x hx' y (List.mem_of_mem_take ((hm y).mp hy)) fun e => hxr (e ▸ hy)
    have fin : Turn (fun a : List Str × Option D × Option D => [some (webD W ps ts), some D.non, some (D.obj p), a.2.1, a.2.2, none, none]) (fun a => S.set p (.lst (plD a.1))) (fun i a => Chain ts a.1 ∧ a.1.length = i ∧ (∀ y, y ∈ a.1 ↔ y ∈ ps.take i) ∧ a.1 = oneT ts (ps.take i)) (i + 1) [some (webD W ps ts), some D.non, some (D.obj p), some (.str x), some (.lst ((aheadOf ts r x).map fun z => .int (z.2 : Nat))), none, none] (S.set p (.lst ((plD r).take (insAt ts r x) ++ [.str x] ++ (plD r).drop (insAt ts r x)))) := by
      refine .of (r.take (insAt ts r x) ++ [x] ++ r.drop (insAt ts r x), _, _) ⟨C2, ?_, fun y => ?_, oneT_step hx he⟩ rfl ?_
      · show (r.take (insAt ts r x) ++ [x] ++ r.drop (insAt ts r x)).length = _
        rw [List.length_append, List.length_append, List.length_take, List.length_drop, List.length_singleton]
        omega
      · show y ∈ r.take (insAt ts r x) ++ [x] ++ r.drop (insAt ts r x) ↔ _
        have e : y ∈ r ↔ y ∈ r.take (insAt ts r x) ∨ y ∈ r.drop (insAt ts r x) := by rw [← List.mem_append, List.take_append_drop]
        rw [List.take_succ, hx, List.mem_append, List.mem_append, List.mem_append, ← hm' y, e]
        simp only [List.mem_singleton, Option.toList_some]
        constructor
        · rintro ((h | h) | h)
          · exact .inl (.inl h)
          · exact .inr h
          · exact .inl (.inr h)
        · rintro ((h | h) | h)
          · exact .inl (.inl h)
          · exact .inr h
          · exact .inl (.inr h)
      · show S.set p _ = S.set p (.lst (plD _))
        unfold plD
        rw [List.map_append, List.map_append, List.map_take, List.map_drop]
        rfl
    and_intros
    refine lcF r.zipIdx (fun z : Str × Nat => .tup [.int (z.2 : Nat), .str z.1]) (fun z => decide ((x, z.1) ∈ ts)) (fun z => .int (z.2 : Nat)) ?_ (by rw [List.length_zipIdx]; omega) ?_ ?_
    · and_intros
      refine sObj set_same ?_
      exact srcEO set_same
    · rintro z hz S' e
      (simp only [prD, putNT, wipeD, putAll, List.set_cons_zero, List.set_cons_succ, List.length_cons, List.length_nil, true_and]; and_intros)
      refine lcKI fun h => ?_
      and_intros
      exact ⟨rfl, rfl⟩
    · and_intros
      refine ⟨Or.inl ⟨rfl, _, set_same⟩, ?_⟩
      and_intros
      refine neL0 (g := fun z : Str × Nat => PyData.int (z.2 : Nat)) rfl (fun _ _ => rfl) (shaped_nats _ _) ?_
      unfold insAt at fin hi
      have hA : r.zipIdx.filter (fun z => decide ((x, z.1) ∈ ts)) = aheadOf ts r x := rfl
      rw [hA]
      cases hB : aheadOf ts r x with
      | nil =>
        rw [hB] at fin
        refine isNB rfl ?_
        and_intros
        refine lObjM set_same ?_
        refine ⟨p, _, r.length, rfl, rfl, set_same, by rw [List.length_map]; omega, by omega, ?_⟩
        rw [set_set]
        exact fin
      | cons z l =>
        rw [hB] at fin hi
        refine isYB rfl ?_
        and_intros
        refine ixLst (d := .int (z.2 : Nat)) at0 ?_
        and_intros
        have hi' : z.2 ≤ r.length := hi
        refine ⟨p, _, z.2, rfl, rfl, set_same, by rw [List.length_map]; omega, by omega, ?_⟩
        rw [set_set]
        exact fin
  · rintro ⟨r, c3, c4⟩ ⟨C, hl, hm, he⟩
    have hl' : r.length = ps.length := hl
    have hm' : ∀ y, y ∈ r ↔ y ∈ ps.take ps.length := hm
    have C : Chain ts r := C
    and_intros
    have he : r = oneT ts (ps.take ps.length) := he
    rw [List.take_length] at he
    refine ⟨plD r, show objL _ = _ by rw [set_same]; rfl, ?_⟩
    subst he
    refine ⟨_, _, .dropS _ hp, q ⟨fun e => ?_, C.nd, fun y hy => ?_, C.step⟩ hl'⟩
    · have := ok.pos
      rw [e] at hl'
      simp at hl'
      omega
    · exact List.mem_of_mem_take ((hm' y).mp hy)
end
section
open PySem PySem.Spec PyProof.Rows
/-! UB1: the state of a desk; its parts -/
abbrev Tb2 := List (Str × Wb)
abbrev Clm := Str × D
abbrev Dst := Tb2 × List Clm
/-! ### the program's parts -/
/-! ### what a deed comes to -/
/-- the first claim about n that does not hold for w, and what shows it -/
noncomputable def brk (w : Wb) (n : Str) : Nat → List Clm → Option (Nat × D)
  | _, [] => none
  | i, c :: r => if c.1 = n then (match fltOf w c.2 with | some x => some (i, x) | none => brk w n (i + 1) r) else brk w n (i + 1) r
end
section
open PySem PySem.Spec PyProof.Rows
/-! UB2: the other deeds of a desk -/
end
section
open PySem PySem.Spec PyProof.Rows
/-! UB3: the law's own look at a wish, at the claims -/
/-! ### the claims that a deed would break -/
end
section
open PySem PySem.Spec PyProof.Rows
/-! UB4: the law's own state; what a deed is due to come to -/
end
section
open PySem PySem.Spec PyProof.Rows
/-! ### the second family's own sorting; values of any kind, webs within lists -/
/-! a value of any kind -/
end
section
open PySem PySem.Spec PyProof.Rows
/-! ### _law_class, _law_ended -/
end
section
open PySem PySem.Spec PyProof.Rows
end
section
open PySem PySem.Spec PyProof.Rows
/-! UB5: what a deed says (caught), the law's put and do -/
/-! ### the law's put and do -/
/-! ### values shown the same way, tuples of either kind -/
def VT (n m : Nat) (d : D) : Prop := ∃ y, ValB n m y ∧ valP y = valP d
theorem VT.of {n m : Nat} {d : D} (h : ValB n m d) : VT n m d := ⟨d, h, rfl⟩
theorem VT.list {n m : Nat} : ∀ {xs : List D}, (∀ x ∈ xs, VT n m x) → ∃ ys, ys.length = xs.length ∧ (∀ y ∈ ys, ValB n m y) ∧ valPs ys = valPs xs
  | [], _ => ⟨[], rfl, (by intro y h; cases h), rfl⟩
  | x :: xs, h => by
    obtain ⟨y, h1, h2⟩ := h x (List.mem_cons_self ..)
    obtain ⟨ys, g1, g2, g3⟩ := VT.list (xs := xs) fun z hz => h z (List.mem_cons_of_mem _ hz)
    refine ⟨y :: ys, by rw [List.length_cons, g1, List.length_cons], fun z hz => ?_, ?_⟩
    · rcases List.mem_cons.mp hz with rfl | hz
      · exact h1
      · exact g2 z hz
    · show (valP y).bind (fun p => (valPs ys).map fun ps => p :: ps) = (valP x).bind fun p => (valPs xs).map fun ps => p :: ps
      rw [h2, g3]
theorem VT.tup {n m : Nat} {xs : List D} (hl : xs.length ≤ m) (h : ∀ x ∈ xs, VT n m x) : VT (n + 1) m (.tup xs) := by
  obtain ⟨ys, g1, g2, g3⟩ := VT.list h
  exact ⟨.tup ys, .tup ys (by omega) g2, by show (valPs ys).map PyData.tuple = (valPs xs).map _; rw [g3]⟩
theorem VT.tf {n m : Nat} {xs : List D} (hl : xs.length ≤ m) (h : ∀ x ∈ xs, VT n m x) : VT (n + 1) m (.tf xs) := by
  obtain ⟨ys, g1, g2, g3⟩ := VT.list h
  exact ⟨.tup ys, .tup ys (by omega) g2, by show (valPs ys).map PyData.tuple = (valPs xs).map _; rw [g3]⟩
theorem VT.lst {n m : Nat} {xs : List D} (hl : xs.length ≤ m) (h : ∀ x ∈ xs, VT n m x) : VT (n + 1) m (.lst xs) := by
  obtain ⟨ys, g1, g2, g3⟩ := VT.list h
  exact ⟨.lst ys, .lst ys (by omega) g2, by show (valPs ys).map PyData.list = (valPs xs).map _; rw [g3]⟩
theorem VT.shown {n m : Nat} {d : D} (h : VT n m d) (hn : n ≤ 60) (hm : lenB m n ≤ 16777216) : ∃ z, ShownV d z ∧ sOk z := by
  obtain ⟨y, h1, h2⟩ := h
  obtain ⟨z, ⟨p, g1, g2, g3⟩, g4⟩ := h1.shownV hn hm
  exact ⟨z, ⟨p, by rw [← h2]; exact g1, g2, g3⟩, g4⟩
theorem ValB.up {n m : Nat} {d : D} (h : ValB n m d) : ∀ k, n ≤ k → ValB k m d := by
  induction h with
  | non => exact fun k _ => .non
  | bl b => exact fun k _ => .bl b
  | int i h => exact fun k _ => .int i h
  | str x h hl => exact fun k _ => .str x h hl
  | tup xs hl h ih =>
    intro k hk
    obtain ⟨j, rfl⟩ : ∃ j, k = j + 1 := ⟨k - 1, by omega⟩
    exact .tup xs hl fun x hx => ih x hx j (by omega)
  | lst xs hl h ih =>
    intro k hk
    obtain ⟨j, rfl⟩ : ∃ j, k = j + 1 := ⟨k - 1, by omega⟩
    exact .lst xs hl fun x hx => ih x hx j (by omega)
  | dic t => exact fun k _ => .dic t
theorem VT.up {n m k : Nat} {d : D} (h : VT n m d) (hk : n ≤ k) : VT k m d := let ⟨y, h1, h2⟩ := h; ⟨y, h1.up k hk, h2⟩
def Shb (n B : Nat) (d : D) : Prop := ∃ p, valP d = some p ∧ p.showable = true ∧ p.depth ≤ n ∧ p.shown.length ≤ B
theorem VT.shb {n m B : Nat} {d : D} (h : VT n m d) (hB : lenB m n ≤ B) : Shb (n + 1) B d := by
  obtain ⟨y, h1, h2⟩ := h
  obtain ⟨p, g1, g2, g3, g4⟩ := h1.shown
  exact ⟨p, by rw [← h2]; exact g1, g2, g3, Nat.le_trans g4 hB⟩
theorem Shb.mono {n k B C : Nat} {d : D} (h : Shb n B d) (h1 : n ≤ k) (h2 : B ≤ C) : Shb k C d := let ⟨p, g1, g2, g3, g4⟩ := h; ⟨p, g1, g2, by omega, by omega⟩
theorem Shb.tup {n B k : Nat} {xs : List D} (hl : xs.length ≤ k) (h : ∀ x ∈ xs, Shb n B x) : Shb (n + 1) (k * (B + 2) + 3) (.tup xs) := by
  obtain ⟨ps, h1, h2, h3, h4, h5⟩ := valPs_of h
  refine ⟨.tuple ps, by show (valPs xs).map PyData.tuple = _; rw [h1]; rfl, by simp only [PyData.showable]; exact h2, by simp only [PyData.depth]; omega, ?_⟩
  simp only [PyData.shown]
  have z := tupleText_up h4
  rw [h5] at z
  have := Nat.mul_le_mul_right (B + 2) hl
  omega
theorem Shb.tf {n B k : Nat} {xs : List D} (hl : xs.length ≤ k) (h : ∀ x ∈ xs, Shb n B x) : Shb (n + 1) (k * (B + 2) + 3) (.tf xs) := Shb.tup hl h
theorem Shb.lst {n B k : Nat} {xs : List D} (hl : xs.length ≤ k) (h : ∀ x ∈ xs, Shb n B x) : Shb (n + 1) (k * (B + 2) + 3) (.lst xs) := by
  obtain ⟨ps, h1, h2, h3, h4, h5⟩ := valPs_of h
  refine ⟨.list ps, by show (valPs xs).map PyData.list = _; rw [h1]; rfl, by simp only [PyData.showable]; exact h2, by simp only [PyData.depth]; omega, ?_⟩
  simp only [PyData.shown]
  have z := listText_up h4
  rw [h5] at z
  have := Nat.mul_le_mul_right (B + 2) hl
  omega
theorem Shb.z {n B : Nat} {d : D} (h : Shb n B d) (hn : n ≤ 64) (hB : B ≤ 16777216) : ∃ z, ShownV d z := by
  obtain ⟨p, g1, g2, g3, g4⟩ := h
  exact ⟨p.shown, p, g1, ⟨g2, by omega, by rw [sizeLine_eq]; omega⟩, rfl⟩
/-! ### a state as this law has it -/
def WishS (d : D) : Prop := WishK d ∧ Shb 5 40000 d
theorem WishS.k {d : D} (h : WishS d) : WishK d := h.1
theorem WishS.sh {d : D} (h : WishS d) : Shb 5 40000 d := h.2
def WishR (d : D) : Prop := (∃ r : List Str, d = .tup [.str "road", .tf (plD r)] ∧ (0 < r.length ∧ r.length ≤ 7) ∧ ∀ x ∈ r, nameOk x = true) ∨ (∃ k : Nat, k ≤ 100 ∧ (d = .tup [.str "roads", .int k] ∨ d = .tup [.str "free", .int k])) ∨ d = .tup [.str "ringless"]
theorem WishR.k {d : D} (h : WishR d) : WishK d := by
  rcases h with ⟨r, h1, h2, h3⟩ | ⟨k, hk, h⟩ | h
  · exact .inl ⟨plD r, h1, anyF_row (fun x hx => ⟨name_sOk (h3 x hx), by have := (name_chars (h3 x hx)).2.1; omega⟩) (by omega)⟩
  · exact .inr (.inl ⟨k, by omega, h⟩)
  · exact .inr (.inr (.inl h))
theorem vt_str {m n : Nat} {x : Str} (h : nameOk x = true) (hm : 8 ≤ m) : VT n m (.str x) := .of (.str x (name_sOk h) (by have := (name_chars h).2.1; omega))
theorem WishR.vt {d : D} (h : WishR d) : VT 2 8 d := by
  rcases h with ⟨r, rfl, h2, h3⟩ | ⟨k, hk, rfl | rfl⟩ | rfl
  · refine .tup (by simp) fun x hx => ?_
    simp only [List.mem_cons, List.not_mem_nil, or_false] at hx
    rcases hx with rfl | rfl
    · exact .of (.str _ (by decide +kernel) (by decide +kernel))
    · refine .tf (by unfold plD; rw [List.length_map]; omega) fun x hx => ?_
      obtain ⟨y, hy, rfl⟩ := List.mem_map.mp hx
      exact vt_str (h3 y hy) (by omega)
  all_goals
    refine .tup (by simp) fun x hx => ?_
    simp only [List.mem_cons, List.not_mem_nil, or_false] at hx
    first
    | rcases hx with rfl | rfl
      · exact .of (.str _ (by decide +kernel) (by decide +kernel))
      · exact .of (.int _ (by omega))
    | subst hx
      exact .of (.str _ (by decide +kernel) (by decide +kernel))
theorem WishR.s {d : D} (h : WishR d) : WishS d := ⟨h.k, (h.vt.shb (B := 40000) (by decide)).mono (by decide) (Nat.le_refl _)⟩
end
section
open PySem PySem.Spec PyProof.Rows
/-! UB6: a deed done by the desk and by the law -/
end
section
open PySem PySem.Spec PyProof.Rows
/-! UB7: both states told alike; the shelf -/
end
section
open PySem PySem.Spec PyProof.Rows
/-! UB8: law of n turns of the third family with tables; all turns of one desk -/
/-! ### the turns -/
section
variable {W Dn : Addr} {S : SO} {p g r : Addr} {a b c : Int} {s : Dst} {past : List Dst}
end
end
section
open PySem PySem.Spec PyProof.Rows
/-! UC0: what a desk refuses -/
def PW (W : Addr) (d : D) : Prop := (∃ m, Any m d) ∨ ∃ fs, d = .ins W fs
end
section
open PySem PySem.Spec PyProof.Rows
/-! UC1: the law's own look at claims; claims made odd -/
/-! ### claims made odd -/
end
end L2.DL
namespace L2.DL
open PySem PySem.Spec PyProof.Rows
/-! VF2: roads_over counts the orders in which each place is tied to the next (k20) -/
def tB (ts : List (Str × Str)) (a b : Str) : Bool := decide ((a, b) ∈ ts)
theorem srtF_perm (l : List Str) : (srtF l).Perm l := by
  unfold srtF
  split
  · rename_i h
    exact h.choose_spec.1
  · exact List.Perm.refl _
/-- what a table weighs -/
def wgt (f : RK → Int) (m : RM) : Int := (m.map fun x => x.2 * f x.1).sum
def UK (m : RM) : Prop := (m.map (·.1)).Nodup
theorem lkR_none {m : RM} {t : RK} : (lkR m t).isSome = true ↔ t ∈ m.map (·.1) := by
  unfold lkR
  rw [Option.isSome_map, List.find?_isSome]
  simp only [decide_eq_true_eq, List.mem_map]
theorem putR_keys {m : RM} {t : RK} {v : Int} (h : UK m) : UK (putR m t v) := by
  unfold UK putR at *
  split
  · rw [List.map_map]
    have e : ((fun x : RK × Int => x.1) ∘ fun x : RK × Int => if x.1 = t then (x.1, v) else x) = fun x => x.1 := by
      funext x
      show (if x.1 = t then (x.1, v) else x).1 = x.1
      split <;> rfl
    rw [e]
    exact h
  · rename_i hn
    rw [lkR_none] at hn
    rw [List.map_append, List.nodup_append]
    refine ⟨h, by simp, fun a ha b hb e => hn ?_⟩
    rw [List.map_singleton, List.mem_singleton] at hb
    have hb : b = t := hb
    rw [← hb, ← e]
    exact ha
theorem wgt_set {f : RK → Int} {t : RK} {v : Int} : ∀ {m : RM}, UK m → t ∈ m.map (·.1) → wgt f (m.map fun x => if x.1 = t then (x.1, v) else x) = wgt f m + (v - (lkR m t).getD 0) * f t
  | [], _, h => by simp at h
  | x :: m, nd, h => by
    have ⟨n1, n2⟩ := List.nodup_cons.mp nd
    by_cases e : x.1 = t
    · have hm : (m.map fun x => if x.1 = t then (x.1, v) else x) = m := by
        rw [List.map_congr_left (g := id) fun y hy => ?_, List.map_id]
        have : y.1 ≠ t := fun z => n1 (List.mem_map.mpr ⟨y, hy, z.trans e.symm⟩)
        exact if_neg this
      rw [List.map_cons, hm, if_pos e]
      have l : (lkR (x :: m) t).getD 0 = x.2 := by simp [lkR, List.find?_cons, e]
      rw [l]
      show v * f x.1 + wgt f m = x.2 * f x.1 + wgt f m + (v - x.2) * f t
      rw [e, Int.sub_mul]
      omega
    · have hm := (List.mem_cons.mp h).resolve_left fun z => e z.symm
      have ih := wgt_set (f := f) (v := v) n2 hm
      have l : lkR (x :: m) t = lkR m t := by simp [lkR, List.find?_cons, e]
      rw [List.map_cons, if_neg e, l]
      show x.2 * f x.1 + wgt f (m.map _) = x.2 * f x.1 + wgt f m + _
      rw [ih]
      omega
theorem wgt_put {f : RK → Int} {m : RM} {t : RK} {v : Int} (h : UK m) : wgt f (putR m t v) = wgt f m + (v - (lkR m t).getD 0) * f t := by
  unfold putR
  split
  · rename_i hs
    exact wgt_set h (lkR_none.mp hs)
  · rename_i hn
    have e : lkR m t = none := by
      cases h : lkR m t with
      | none => rfl
      | some _ => rw [h] at hn; exact absurd rfl hn
    rw [e]
    unfold wgt
    rw [List.map_append, List.sum_append]
    simp
/-- a turn, told by what the next keys weigh -/
noncomputable def stepW (ps : List Str) (ts : List (Str × Str)) (f : RK → Int) : RK → Int := fun k => (ps.map fun p => if p ∉ k.1 ∧ (k.2, p) ∈ ts then f (srtF (k.1 ++ [p]), p) else 0).sum
theorem inR_wgt {ts : List (Str × Str)} {f : RK → Int} {x : RK × Int} {p : Str} {l : RM} (h : UK l) : UK (inR ts x l p) ∧ wgt f (inR ts x l p) = wgt f l + x.2 * (if p ∉ x.1.1 ∧ (x.1.2, p) ∈ ts then f (srtF (x.1.1 ++ [p]), p) else 0) := by
  unfold inR
  split
  · refine ⟨putR_keys h, ?_⟩
    rw [wgt_put h]
    congr 2
    omega
  · exact ⟨h, by simp⟩
theorem inRs_wgt {ts : List (Str × Str)} {f : RK → Int} {x : RK × Int} : ∀ {ps : List Str} {l : RM}, UK l → UK (ps.foldl (inR ts x) l) ∧ wgt f (ps.foldl (inR ts x) l) = wgt f l + x.2 * (ps.map fun p => if p ∉ x.1.1 ∧ (x.1.2, p) ∈ ts then f (srtF (x.1.1 ++ [p]), p) else 0).sum
  | [], l, h => ⟨h, by simp⟩
  | p :: ps, l, h => by
    obtain ⟨h1, h2⟩ := inR_wgt (ts := ts) (f := f) (x := x) (p := p) h
    obtain ⟨h3, h4⟩ := inRs_wgt (ts := ts) (f := f) (x := x) (ps := ps) h1
    refine ⟨h3, ?_⟩
    rw [List.foldl_cons, h4, h2, List.map_cons, List.sum_cons, Int.mul_add]
    omega
theorem turn_wgt {ps : List Str} {ts : List (Str × Str)} {f : RK → Int} : ∀ {m : RM} {l : RM}, UK l → UK (m.foldl (fun l x => ps.foldl (inR ts x) l) l) ∧ wgt f (m.foldl (fun l x => ps.foldl (inR ts x) l) l) = wgt f l + wgt (stepW ps ts f) m
  | [], l, h => ⟨h, by simp [wgt]⟩
  | x :: m, l, h => by
    obtain ⟨h1, h2⟩ := inRs_wgt (ts := ts) (f := f) (x := x) (ps := ps) h
    obtain ⟨h3, h4⟩ := turn_wgt (ps := ps) (ts := ts) (f := f) (m := m) h1
    refine ⟨h3, ?_⟩
    rw [List.foldl_cons, h4, h2]
    show _ = wgt f l + (x.2 * stepW ps ts f x.1 + wgt (stepW ps ts f) m)
    unfold stepW
    omega
noncomputable def itW (ps : List Str) (ts : List (Str × Str)) : Nat → (RK → Int) → RK → Int
  | 0, f => f
  | k + 1, f => itW ps ts k (stepW ps ts f)
theorem turns_wgt {ps : List Str} {ts : List (Str × Str)} : ∀ (k : Nat) (f : RK → Int), wgt f (turnsR ps ts k) = wgt (itW ps ts k f) (known0 ps)
  | 0, f => rfl
  | k + 1, f => by
    show wgt f (turnR ps ts (turnsR ps ts k)) = wgt (itW ps ts k (stepW ps ts f)) (known0 ps)
    rw [← turns_wgt k]
    have := (turn_wgt (ps := ps) (ts := ts) (f := f) (m := turnsR ps ts k) (l := []) (by simp [UK])).2
    unfold turnR
    rw [this]
    simp [wgt]
theorem known_wgt {f : RK → Int} : ∀ {ps : List Str} {m : RM}, ps.Nodup → UK m → (∀ p ∈ ps, ([p], p) ∉ m.map (·.1)) → wgt f (ps.foldl (fun m p => putR m ([p], p) 1) m) = wgt f m + (ps.map fun p => f ([p], p)).sum
  | [], m, _, _, _ => by simp
  | p :: ps, m, nd, h, hn => by
    have ⟨n1, n2⟩ := List.nodup_cons.mp nd
    have e : lkR m ([p], p) = none := by
      cases h : lkR m ([p], p) with
      | none => rfl
      | some _ => exact absurd (lkR_none.mp (by rw [h]; rfl)) (hn p (by simp))
    have hk : (putR m ([p], p) 1).map (·.1) = m.map (·.1) ++ [([p], p)] := by
      unfold putR
      rw [e, if_neg (by simp), List.map_append]
      rfl
    rw [List.foldl_cons, known_wgt (m := putR m ([p], p) 1) n2 (putR_keys h) fun q hq z => ?_, wgt_put h, e, List.map_cons, List.sum_cons]
    · simp only [Option.getD_none]
      omega
    · rw [hk] at z
      rcases List.mem_append.mp z with z | z
      · exact hn q (List.mem_cons_of_mem _ hq) z
      · have e2 := List.mem_singleton.mp z
        have e3 : q = p := congrArg Prod.snd e2
        rw [e3] at hq
        exact n1 hq
theorem itW_comm {ps : List Str} {ts : List (Str × Str)} : ∀ (k : Nat) (f : RK → Int), itW ps ts (k + 1) f = stepW ps ts (itW ps ts k f)
  | 0, f => rfl
  | k + 1, f => by
    show itW ps ts (k + 1) (stepW ps ts f) = _
    rw [itW_comm k]
    rfl
theorem sum_filt {α : Type} (c : α → Prop) [DecidablePred c] (g : α → Int) : ∀ l : List α, (l.map fun p => if c p then g p else 0).sum = ((l.filter fun p => decide (c p)).map g).sum
  | [] => rfl
  | p :: l => by
    rw [List.map_cons, List.sum_cons, sum_filt c g l, List.filter_cons]
    by_cases h : c p
    · rw [if_pos h, if_pos (decide_eq_true h), List.map_cons, List.sum_cons]
    · rw [if_neg h, if_neg (by simp [h])]
      omega
theorem sum_cast {α : Type} (g : α → Nat) : ∀ l : List α, (l.map fun p => ((g p : Nat) : Int)).sum = (((l.map g).sum : Nat) : Int)
  | [] => rfl
  | p :: l => by
    rw [List.map_cons, List.sum_cons, sum_cast g l, List.map_cons, List.sum_cons]
    omega
def outP (ps g : List Str) : List Str := ps.filter fun p => decide (p ∉ g)
theorem itW_eq {ps : List Str} {ts : List (Str × Str)} (nd : ps.Nodup) : ∀ (k : Nat) (g : List Str) (a : Str), (outP ps g).length = k → itW ps ts k (fun _ => 1) (g, a) = ((Rd.HsA (tB ts) a (outP ps g) : Nat) : Int)
  | 0, g, a, h => by
    rw [List.eq_nil_of_length_eq_zero h]
    rfl
  | k + 1, g, a, h => by
    rw [itW_comm]
    have ndo : (outP ps g).Nodup := nd.filter _
    rw [Rd.HsA_step ndo (fun z => by rw [z] at h; cases h), ← sum_cast]
    show (ps.map fun p => if p ∉ g ∧ (a, p) ∈ ts then itW ps ts k (fun _ => 1) (srtF (g ++ [p]), p) else 0).sum = _
    have e1 : (ps.map fun p => if p ∉ g ∧ (a, p) ∈ ts then itW ps ts k (fun _ => 1) (srtF (g ++ [p]), p) else 0) = ps.map fun p => if p ∉ g then (if (a, p) ∈ ts then itW ps ts k (fun _ => 1) (srtF (g ++ [p]), p) else 0) else 0 := List.map_congr_left fun p _ => by
      by_cases h1 : p ∉ g
      · simp [h1]
      · simp [h1]
    rw [e1, sum_filt (fun p => p ∉ g)]
    congr 1
    refine List.map_congr_left fun p hp => ?_
    have hp : p ∈ outP ps g := hp
    have hpg : p ∉ g := of_decide_eq_true (List.mem_filter.mp hp).2
    unfold tB
    by_cases h2 : (a, p) ∈ ts
    · rw [if_pos h2, if_pos (decide_eq_true h2)]
      have eo : outP ps (srtF (g ++ [p])) = (outP ps g).erase p := by
        rw [List.Nodup.erase_eq_filter ndo]
        unfold outP
        rw [List.filter_filter]
        refine List.filter_congr fun q _ => ?_
        rw [Bool.eq_iff_iff]
        simp only [decide_eq_true_eq, Bool.and_eq_true, bne_iff_ne, ne_eq, (srtF_perm (g ++ [p])).mem_iff, List.mem_append, List.mem_singleton]
        exact ⟨fun z => ⟨fun w => z (.inr w), fun w => z (.inl w)⟩, fun z w => w.elim z.2 z.1⟩
      have hl : (outP ps (srtF (g ++ [p]))).length = k := by
        rw [eo, List.length_erase_of_mem hp, h]
        rfl
      rw [itW_eq nd k _ p hl, eo]
      rfl
    · rw [if_neg h2, if_neg (by simp [h2])]
      rfl
/-- what roads_over answers -/
theorem rovF_eq {ps : List Str} {ts : List (Str × Str)} (nd : ps.Nodup) (h : ps ≠ []) : rovF ps ts = ((Rd.Hn (tB ts) ps : Nat) : Int) := by
  have e1 : rovF ps ts = wgt (fun _ => 1) (turnsR ps ts (ps.length - 1)) := by
    unfold rovF wgt
    congr 1
    exact List.map_congr_left fun x _ => (Int.mul_one _).symm
  rw [e1, turns_wgt, known0, known_wgt nd (by simp [UK]) (fun p _ => by simp), Rd.Hn_head nd h, ← sum_cast]
  show (0 : Int) + _ = _
  rw [Int.zero_add]
  congr 1
  refine List.map_congr_left fun p hp => ?_
  have eo : outP ps [p] = ps.erase p := by
    rw [List.Nodup.erase_eq_filter nd]
    unfold outP
    refine List.filter_congr fun q _ => ?_
    rw [Bool.eq_iff_iff]
    simp
  rw [itW_eq nd _ _ _ (by rw [eo, List.length_erase_of_mem hp]), eo]
end L2.DL

namespace L2.DL
local macro_rules | `(tactic| and_intros) => `(tactic| repeat (first | refine Step.go (v := (.s (.s (.s (.s .z))))) ?_ | with_reducible refine gTup ?_ | with_reducible refine mthTie ?_ | with_reducible refine iModL ?_ | with_reducible refine xGTl ?_ | with_reducible refine andL (by with_unfolding_all exact lez rfl) ?_))
section
open PySem PySem.Spec PyProof.Rows
/-! VF3: the webs of k20: each two places tied once -/
def zS : Str := "zzzzzzzz"
def NamesZ (ts : List Str) : Prop := NamesOk ts ∧ zS ∉ ts
theorem menu_z : zS ∉ MENU := by decide +kernel
theorem folkA_okZ {s l : Int} (h1 : 1 ≤ l) (h2 : l ≤ 10) {m : Nat} (hm : m < 12) : NamesZ (folkA s l m) := ⟨folkA_ok h1 h2 hm, fun h => by
  unfold folkA at h
  obtain ⟨k, _, e⟩ := List.mem_map.mp h
  have := menuAt_get (spot11_lt s l k)
  rw [e] at this
  exact menu_z (List.mem_of_getElem? this)⟩
theorem folkB_okZ {s l : Int} {stem : Str} {m : Nat} (h : StemOk stem) (hl : LeapOk l) (hm : m ≤ 26) : NamesZ (folkB s l stem m) := ⟨folkB_ok h hl (by omega), fun hz => by
  unfold folkB at hz
  obtain ⟨k, hk, e⟩ := List.mem_map.mp hz
  have hk := List.mem_range.mp hk
  have e1 := folkT_cps s l stem k
  rw [e, if_pos (by omega)] at e1
  have e2 := congrArg List.length e1
  have e3 : zS.cps.toList.length = 8 := by decide +kernel
  have e4 : stem.cps.size ≤ 6 := h.1
  rw [e3] at e2
  simp at e2
  omega⟩
theorem pure_folk2Z (W : Addr) {S : SO} {Q : KD} {p : Addr} {a b c s : Int} {m : Nat} (hp : S p = some (pan3 a b c)) (hm : m ≤ 26) (q : ∀ (ts : List Str) (a' b' c' : Int), ts.length = m → NamesZ ts → Q (.tf (plD ts)) (S.set p (pan3 a' b' c'))) :
    w_folk2 W (endsOf Q) [some (.obj p), some (.int (m : Nat)), some (.int s), none, none, none, none, none, none] S := by
  refine ⟨p, a, b, c, 6, rfl, hp, by decide, by decide, fun l0 a1 b1 c1 hl0 hl1 => ⟨cmulL (by decide) (by decide), lez rfl, rfl, rfl, ?_⟩⟩
  have hl : LeapOk (1 + 2 * l0) := by
    have : l0 = 0 ∨ l0 = 1 ∨ l0 = 2 ∨ l0 = 3 ∨ l0 = 4 ∨ l0 = 5 := by omega
    unfold LeapOk
    rcases this with rfl | rfl | rfl | rfl | rfl | rfl <;> decide
  generalize 1 + 2 * l0 = l at hl
  have hll : -(2 ^ 64) < l ∧ l < 2 ^ 64 := by
    rcases hl with rfl | rfl | rfl | rfl | rfl | rfl <;> decide
  refine ⟨⟨_, rfl⟩, ⟨⟨p, a1, b1, c1, 7, rfl, set_same, by decide, by decide, fun n a2 b2 c2 hn0 hn1 => ⟨by omega, by omega, fun f hf => ?_⟩⟩⟩⟩
  rw [set_set] at hf ⊢
  obtain ⟨n, rfl⟩ : ∃ k : Nat, n = k := ⟨n.toNat, by omega⟩
  have hpf : p ≠ f := fun e => by rw [← e, set_same] at hf; cases hf
  refine ⟨fun i S' => ∃ a b c cs, S' = (S.set p (pan3 a b c)).set f (.lst (cs.map signD)) ∧ cs.length = i ∧ ∀ x ∈ cs, x ∈ LETTERS.cps.toList, ⟨a2, b2, c2, [], rfl, rfl, fun x hx => by cases hx⟩, fun _ _ _ => trivial, ?_, ?_⟩
  · rintro i d S' hi ⟨a, b, c, cs, rfl, hcs, hin⟩
    obtain ⟨rfl, hi2⟩ := rangeD_get hi
    refine upYesT (ifY rfl (upI ⟨p, a, b, c, 26, rfl, by rw [set_ne hpf, set_same], by decide, by decide, fun r a' b' c' hr0 hr1 => ?_⟩))
    have hr : r.toNat < 26 := by omega
    have e := atI_nat (letterAt_get hr)
    rw [Int.toNat_of_nonneg hr0] at e
    refine Or.inr (Or.inl ⟨LETTERS, r, letterAt r.toNat, rfl, rfl, by decide +kernel, e, cs.map signD, ?_, ?_, ?_⟩)
    · rw [set_comm hpf.symm, set_same]
    · rw [List.length_map]
      omega
    · refine ⟨a', b', c', cs ++ [letterAt r.toNat], ?_, by rw [List.length_append, hcs]; rfl, fun x hx => ?_⟩
      · rw [set_comm hpf.symm, set_set, set_set, List.map_append]
        rfl
      · rcases List.mem_append.mp hx with hx | hx
        · exact hin x hx
        · rw [List.mem_singleton] at hx
          rw [hx]
          exact letterAt_mem hr
  · rintro S' ⟨a3, b3, c3, cs, rfl, hcs, hin⟩
    have hn : cs.length = n := by
      rw [hcs]
      exact rangeD_length
    refine ⟨_, set_same, ?_⟩
    rw [del_set (by rw [set_ne hpf.symm]; rw [set_ne hpf.symm] at hf; exact hf)]
    have hstem := stem_of (cs := cs) (by omega) hin
    refine ⟨"", cs.map fun c => ⟨#[c]⟩, rfl, ?_, ?_, ?_⟩
    · show some _ = some _
      rw [List.map_map]
      rfl
    · rw [List.map_map, List.length_map]
      have e : ((fun x : Str => x.length) ∘ fun c : Nat => (⟨#[c]⟩ : Str)) = fun _ => 1 := rfl
      have z : (Str.ofString "").length = 0 := by decide
      rw [e, z]
      have : ∀ xs : List Nat, (xs.map fun _ => 1).sum = xs.length := fun xs => by
        induction xs with
        | nil => rfl
        | cons x xs ih => rw [List.map_cons, List.sum_cons, ih, List.length_cons]; omega
      rw [this]
      omega
    generalize Txt.join "" (cs.map fun c => (⟨#[c]⟩ : Str)) = stem at hstem
    refine ⟨lez rfl, ?_⟩
    refine lcP_map (rangeD 0 (m : Nat)) (fun d => match d with | .int k => .str (folkT s l stem k.toNat) | _ => .non) ⟨by omega, by omega, rfl, rfl⟩ (by rw [rangeD_length]; omega) (fun d hd S' e => ?_) ?_
    · obtain ⟨k, hk, rfl⟩ := rangeD_mem hd
      have hk26 : ((0 + (k : Nat) : Int) / 26) = (k / 26 : Nat) := by omega
      refine ⟨⟨by decide, by decide⟩, Or.inl ⟨_, _, .str (headAt k), rfl, rfl, ?_, ?_, ?_⟩⟩
      · rw [hk26]
        refine atI_nat ?_
        unfold headAt
        have : k / 26 = 0 ∨ k / 26 = 1 := by omega
        rcases this with h | h
        · rw [if_pos (by omega), h]
          rfl
        · rw [if_neg (by omega), h]
          rfl
      · have h1 : stem.cps.size ≤ 6 := hstem.1
        have h2 : (headAt k).length ≤ 1 := by
          unfold headAt
          split <;> decide
        show stem.cps.size + (headAt k).length ≤ 1000000
        omega
      · have hsp : (s + l * (0 + (k : Nat) : Int)) % 26 = (spot s l k : Nat) := by
          unfold spot
          have := Int.emod_nonneg (s + l * k) (show (26 : Int) ≠ 0 by decide)
          rw [Int.zero_add]
          omega
        refine ⟨cmulL hll.1 hll.2, by show (0 : Int) < 26; decide, Or.inr (Or.inl ⟨LETTERS, _, letterAt (spot s l k), rfl, rfl, by decide +kernel, ?_, ?_, rfl, ?_⟩)⟩
        · show atI LETTERS.cps.toList ((s + l * (0 + (k : Nat) : Int)) % 26) = _
          rw [hsp]
          exact atI_nat (letterAt_get (spot_lt ..))
        · have h1 : stem.cps.size ≤ 6 := hstem.1
          have h2 : (headAt k).cps.size ≤ 1 := by
            unfold headAt
            split <;> decide
          show (stem.cps ++ (headAt k).cps).size + 1 ≤ 1000000
          rw [Array.size_append]
          omega
        · show D.str (folkT s l stem (0 + (k : Nat) : Int).toNat) = _
          rw [Int.zero_add, Int.toNat_natCast]
          rfl
    · rw [range_map (g := fun k => .str (folkT s l stem k)) fun k _ => by simp]
      have e : (List.range m).map (fun k => D.str (folkT s l stem k)) = plD (folkB s l stem m) := by
        unfold folkB plD
        rw [List.map_map]
        rfl
      rw [e]
      refine ⟨_, rfl, cl (q _ _ _ _ ?_ (folkB_okZ hstem hl hm))⟩
      unfold folkB
      rw [List.length_map, List.length_range]
def sp_cup_folkZ (W : Addr) : DSp := fun ds S Q E => ∃ (p : Addr) (a b c : Int) (m : Nat), ds = [.obj p, .int (m : Nat)] ∧ S p = some (pan3 a b c) ∧ m ≤ 26 ∧ ∀ (ts : List Str) (a' b' c' : Int), ts.length = m → NamesZ ts → Q (.tf (plD ts)) (S.set p (pan3 a' b' c'))
def w_cup_folkZ (W : Addr) : WS := (wSeq (wAsg (wFn (sp_cup_sip W) [] (wCons (wV 0) (wCons (wC (.int 26)) wNil))) (gV 2))
    (wSeq (wIfS (wAnd (wB (wO oEq (wFn (sp_cup_sip W) [] (wCons (wV 0) (wCons (wC (.int 2)) wNil))) (wC (.int 0)))) (wB (wO oLt (wV 1) (wC (.int 12))))) (wSeq (wAsg (wLst (wCons (wC (.str "a")) (wCons (wC (.str "b")) (wCons (wC (.str "c")) (wCons (wC (.str "d")) (wCons (wC (.str "places")) (wCons (wC (.str "x")) (wCons (wC (.str "abcdefgh")) (wCons (wC (.str "ab")) (wCons (wC (.str "ba")) (wCons (wC (.str "put")) (wCons (wC (.str "e")) wNil)))))))))))) (gV 3))
    (wSeq (wAsg (wO oAdd (wC (.int 1)) (wFn (sp_cup_sip W) [] (wCons (wV 0) (wCons (wC (.int 10)) wNil)))) (gV 4))
    (wRet (wCall cTupleF (wCons (wLcP (wRng1 (wCons (wV 1) wNil)) (.n 8) wYes (wO oIx (wV 3) (wO oMod (wCall cInt (wCons (wO oAdd (wV 2) (wO oMul (wV 4) (wV 8))) wNil)) (wC (.int 11)))) [8]) wNil))))) wNext)
    (wSeq (wAsg (wTup (wCons (wC (.str "abcdefghijklmnopqrstuvwxyz")) (wCons (wO oAdd (wC (.int 1)) (wO oMul (wC (.int 2)) (wFn (sp_cup_sip W) [] (wCons (wV 0) (wCons (wC (.int 6)) wNil))))) wNil))) (gT 2 (gC (gV 5) (gC (gV 4) gN))))
    (wSeq (wAsg (wJoin (wC (.str "")) (wLcF (wRng1 (wCons (wFn (sp_cup_sip W) [] (wCons (wV 0) (wCons (wC (.int 7)) wNil))) wNil)) (.n 8) wYes (wO oIx (wV 5) (wFn (sp_cup_sip W) [] (wCons (wV 0) (wCons (wC (.int 26)) wNil)))) [8])) (gV 6))
    (wSeq (wAsg (wLst (wCons (wC (.str "")) (wCons (wC (.str "z")) wNil))) (gV 7))
    (wRet (wCall cTupleF (wCons (wLcP (wRng1 (wCons (wV 1) wNil)) (.n 8) wYes (wO oAdd (wO oAdd (wV 6) (wO oIx (wV 7) (wO oDiv (wV 8) (wC (.int 26))))) (wO oIx (wV 5) (wO oMod (wCall cInt (wCons (wO oAdd (wV 2) (wO oMul (wV 4) (wV 8))) wNil)) (wC (.int 26))))) [8]) wNil))))))))
theorem pure_cup_folkZ (W : Addr) : ∀ ds S Q E, sp_cup_folkZ W ds S Q E → w_cup_folkZ W (endsOf Q) (startD ["_law_cup_here", "_law_many", "_law_start", "_law_menu", "_law_leap", "_law_letters", "_law_stem", "_law_heads", "_law_k"] ds) S := by
  rintro ds S Q E ⟨p, a, b, c, m, rfl, hp, hm, q⟩
  refine ⟨p, a, b, c, 26, rfl, hp, by decide, by decide, fun s a1 b1 c1 hs0 hs1 => ?_⟩
  have rest : ∀ a b c, w_folk2 W (endsOf Q) [some (.obj p), some (.int (m : Nat)), some (.int s), none, none, none, none, none, none] (S.set p (pan3 a b c)) := fun a b c =>
    pure_folk2Z W set_same hm fun ts a' b' c' h1 h2 => by
      rw [set_set]
      exact q ts a' b' c' h1 h2
  refine ⟨p, a1, b1, c1, 2, rfl, set_same, by decide, by decide, fun r a2 b2 c2 _ _ => ?_⟩
  rw [set_set]
  refine isC (fun h => ⟨trivial, isC (fun h2 => ?_) fun h2 => rest _ _ _⟩) fun h => rest _ _ _
  have hm12 : (m : Int) < 12 := of_decide_eq_true h2
  refine ⟨lez rfl, p, a2, b2, c2, 10, rfl, set_same, by decide, by decide, fun l0 a3 b3 c3 hl0 hl1 => ?_⟩
  rw [set_set]
  have g1 : 1 ≤ 1 + l0 := by omega
  have g2 : 1 + l0 ≤ 10 := by omega
  revert g1 g2
  generalize hL : 1 + l0 = l
  intro g1 g2
  refine lcP_map (rangeD 0 (m : Nat)) (fun d => match d with | .int k => .str (menuAt (spot11 s l k.toNat)) | _ => .non) ⟨by omega, by omega, rfl, rfl⟩ (by rw [rangeD_length]; omega) (fun d hd S' e => ?_) ?_
  · obtain ⟨k, hk, rfl⟩ := rangeD_mem hd
    have hsp : (s + (1 + l0) * (0 + (k : Nat) : Int)) % 11 = (spot11 s l k : Nat) := by
      unfold spot11
      have := Int.emod_nonneg (s + l * k) (show (11 : Int) ≠ 0 by decide)
      rw [Int.zero_add, hL]
      omega
    refine ⟨cmulL (by omega) (by omega), by show (0 : Int) < 11; decide, Or.inl ⟨_, _, .str (menuAt (spot11 s l k)), rfl, rfl, ?_, rfl, ?_⟩⟩
    · show atI (plD MENU) ((s + (1 + l0) * (0 + (k : Nat) : Int)) % 11) = _
      rw [hsp]
      refine atI_nat ?_
      show (MENU.map D.str)[_]? = _
      rw [List.getElem?_map, menuAt_get (spot11_lt ..)]
      rfl
    · show D.str (menuAt (spot11 s l (0 + (k : Nat) : Int).toNat)) = _
      rw [Int.zero_add, Int.toNat_natCast]
  · rw [range_map (g := fun k => .str (menuAt (spot11 s l k))) fun k _ => by simp]
    have e : (List.range m).map (fun k => D.str (menuAt (spot11 s l k))) = plD (folkA s l m) := by
      unfold folkA plD
      rw [List.map_map]
      rfl
    rw [e]
    refine ⟨_, rfl, cl (q _ _ _ _ ?_ (folkA_okZ g1 g2 (by omega)))⟩
    unfold folkA
    rw [List.length_map, List.length_range]
theorem FullK.one_more {ts : List Str} {ls : List (Str × Str)} {k j : Nat} (h : FullK ts ls k j) (o : ∀ a b, (a, b) ∈ ls → (b, a) ∉ ls) (hd : ts.Nodup) (hj : j < k) {a b : Str} (ha : ts[j]? = some a) (hb : ts[k]? = some b) {t : Str × Str} (ht : t = (a, b) ∨ t = (b, a)) : ∀ x y, (x, y) ∈ ls ++ [t] → (y, x) ∉ ls ++ [t] := by
  have hab : a ≠ b := fun e => by
    have := nodup_ix hd ha (e ▸ hb)
    omega
  have out : ∀ u : Str × Str, u = (a, b) ∨ u = (b, a) → u ∉ ls := fun u hu hm => by
    obtain ⟨x, y, c, d, h1, h2, h3, h4, h5⟩ := h.of u hm
    have key : (a = c ∧ b = d) ∨ (a = d ∧ b = c) := by
      rcases hu with rfl | rfl <;> rcases h5 with e | e <;> cases e
      · exact .inl ⟨rfl, rfl⟩
      · exact .inr ⟨rfl, rfl⟩
      · exact .inr ⟨rfl, rfl⟩
      · exact .inl ⟨rfl, rfl⟩
    rcases key with ⟨rfl, rfl⟩ | ⟨rfl, rfl⟩
    · have e1 := nodup_ix hd ha h3
      have e2 := nodup_ix hd hb h4
      omega
    · have e1 := nodup_ix hd ha h4
      have e2 := nodup_ix hd hb h3
      omega
  intro x y h1 h2
  rcases List.mem_append.mp h1 with h1 | h1
  · rcases List.mem_append.mp h2 with h2 | h2
    · exact o x y h1 h2
    · have e := List.mem_singleton.mp h2
      refine out (x, y) ?_ h1
      rcases ht with rfl | rfl <;> cases e
      · exact .inr rfl
      · exact .inl rfl
  · have e := List.mem_singleton.mp h1
    rcases List.mem_append.mp h2 with h2 | h2
    · refine out (y, x) ?_ h2
      rcases ht with rfl | rfl <;> cases e
      · exact .inr rfl
      · exact .inl rfl
    · have e2 := List.mem_singleton.mp h2
      rw [← e2] at e
      injection e with e3 e4
      rcases ht with rfl | rfl <;> cases e2 <;> exact hab (by first | exact e3 | exact e4)
/-- a web in which each two are tied once -/
structure OnceOk (ts : List Str) (ls : List (Str × Str)) : Prop where
  web : WebOk ts ls
  met : Met ts ls
  one : ∀ a b, (a, b) ∈ ls → (b, a) ∉ ls
def sp_k20_once (W : Addr) : DSp := fun ds S Q E => ∃ (p : Addr) (a b c : Int) (m : Nat), ds = [.obj p, .int (m : Nat)] ∧ S p = some (pan3 a b c) ∧ 0 < m ∧ m ≤ 9 ∧ ∀ (ts : List Str) (ls : List (Str × Str)) (a' b' c' : Int), OnceOk ts ls → ts.length ≤ 9 → ls.length ≤ 36 → zS ∉ ts → Q (netD ts ls) (S.set p (pan3 a' b' c'))
def w_k20_once (W : Addr) : WS := (wSeq (wPar 2 3 (wCons (wFn (sp_cup_folkZ W) [] (wCons (wV 0) (wCons (wO oAdd (wC (.int 1)) (wFn (sp_cup_sip W) [] (wCons (wV 0) (wCons (wV 1) wNil)))) wNil))) (wCons (wNew wNil) wNil)))
    (wSeq (wFor (wRng1 (wCons (wCall cLen (wCons (wV 2) wNil)) wNil)) (gV 4) (wFor (wRng1 (wCons (wV 4) wNil)) (gV 5) (wDrop (wBM "list" mAppend (wV 3) (wCons (wFn (sp_cup_of W) [] (wCons (wV 0) (wCons (wLst (wCons (wTup (wCons (wO oIx (wV 2) (wV 5)) (wCons (wO oIx (wV 2) (wV 4)) wNil))) (wCons (wTup (wCons (wO oIx (wV 2) (wV 4)) (wCons (wO oIx (wV 2) (wV 5)) wNil))) wNil))) wNil))) wNil)))))
    (wRet (wTup (wCons (wV 2) (wCons (wCall cTupleF (wCons (wV 3) wNil)) wNil))))))
theorem pure_k20_once (W : Addr) : ∀ ds S Q E, sp_k20_once W ds S Q E → w_k20_once W (endsOf Q) (startD ["_law_cup_here", "_law_most", "_law_folk_here", "_law_found", "_law_k", "_law_j"] ds) S := by
  rintro ds S Q E ⟨p, a, b, c, m, rfl, hp, hm0, hm, q⟩
  refine xFn ?_
  show w_k20_once W _ [some _, some _, none, none, none, none] S
  unfold w_k20_once
  and_intros
  refine sipN hp hm0 (by omega) fun r hr a b c => ?_
  and_intros
  rw [show (1 + (r : Int)) = ((r + 1 : Nat) : Int) by omega]
  refine ⟨p, a, b, c, r + 1, rfl, set_same, by omega, fun ts a b c hts N => ?_⟩
  rw [set_set]
  obtain ⟨N, nz⟩ := N
  have hl : ts.length ≤ 9 := by omega
  and_intros
  intro f hf
  obtain ⟨hf1, hfp⟩ := free_set hf
  have hpf : p ≠ f := hfp.symm
  and_intros
  refine rng1N (by omega) ?_
  refine forR (fun a : (Int × Int × Int × List (Str × Str)) × Option D × Option D => [some (.obj p), some (.int (m : Nat)), some (.tf (plD ts)), some (.obj f), a.2.1, a.2.2]) (fun a => (S.set p (pan3 a.1.1 a.1.2.1 a.1.2.2.1)).set f (.lst (a.1.2.2.2.map prD))) (fun i a => FullK ts a.1.2.2.2 i 0 ∧ ∀ x y, (x, y) ∈ a.1.2.2.2 → (y, x) ∉ a.1.2.2.2) ((a, b, c, []), none, none) ⟨.zero, fun x y h => nomatch h⟩ ?_ ?_
  · rintro k ⟨⟨a, b, c, ls⟩, c3, c4⟩ hk F
    have hb := List.getElem?_eq_getElem hk
    and_intros
    refine rng1N (by omega) ?_
    refine forR (fun a : (Int × Int × Int × List (Str × Str)) × Option D => [some (.obj p), some (.int (m : Nat)), some (.tf (plD ts)), some (.obj f), some (.int (k : Nat)), a.2]) (fun a => (S.set p (pan3 a.1.1 a.1.2.1 a.1.2.2.1)).set f (.lst (a.1.2.2.2.map prD))) (fun i a => FullK ts a.1.2.2.2 k i ∧ ∀ x y, (x, y) ∈ a.1.2.2.2 → (y, x) ∉ a.1.2.2.2) ((a, b, c, ls), c4) F ?_ ?_
    · rintro j ⟨⟨a, b, c, ls⟩, c4⟩ hj ⟨F, O⟩
      have ha : ts[j]? = some ts[j] := List.getElem?_eq_getElem (by omega)
      have F' : FullK ts ls k j := F
      have O' : ∀ x y, (x, y) ∈ ls → (y, x) ∉ ls := O
      have hll : ls.length < 1000000 := by
        have := tri_20 (m := k) (by omega)
        rw [F'.len]
        omega
      and_intros
      refine bmObj set_same ?_
      and_intros
      refine ixTf (atM ha) ?_
      and_intros
      refine ixTf (atM hb) ?_
      and_intros
      refine ixTf (atM hb) ?_
      and_intros
      refine ixTf (atM ha) ?_
      and_intros
      refine ofM (f := prD) (l := [(ts[j], ts[k]), (ts[k], ts[j])]) (so_p hpf) rfl (by simp) (by simp) fun z hz a b c => ?_
      rw [so_pp hpf]
      have hz : z = (ts[j], ts[k]) ∨ z = (ts[k], ts[j]) := by simpa using hz
      and_intros
      refine apM (f := prD) (z := z) set_same hll ?_
      and_intros
      rw [set_set]
      exact .of ((a, b, c, _), _) ⟨F'.more N.nd hj ha hb hz, F'.one_more O' N.nd hj ha hb hz⟩
    · rintro ⟨⟨a, b, c, ls⟩, c4⟩ ⟨F, O⟩
      exact .of ((a, b, c, ls), _, _) ⟨F.next, O⟩
  · rintro ⟨⟨a, b, c, ls⟩, c3, c4⟩ ⟨F, O⟩
    have F' : FullK ts ls ts.length 0 := F
    have O' : ∀ x y, (x, y) ∈ ls → (y, x) ∉ ls := O
    have hl0 := F'.len
    have hl1 : tri ts.length ≤ 36 := Nat.le_trans (tri_mono hl) (by decide)
    have T := F'.tie N.nd
    and_intros
    refine tfOb set_same ?_
    and_intros
    have hfn : (S.set p (pan3 a b c)) f = none := by rw [set_ne hfp]; exact hf1
    exact ⟨_, _, .dropS _ hfn, q ts ls a b c ⟨⟨by omega, by omega, N.nm, N.nd, by omega, fun t ht => T.tie t ht, F'.nd⟩, F'.met, O'⟩ hl (by omega) nz⟩
end
end L2.DL
namespace L2.DL
open PySem PySem.Spec PyProof.Rows
/-! VF4: k20 as mathematics -/
theorem OnceOk.tour {ts : List Str} {ls : List (Str × Str)} (h : OnceOk ts ls) : Rd.Tour (tB ls) ts := fun a ha b hb hab => by
  unfold tB
  rcases h.met a ha b hb hab with m | m
  · rw [decide_eq_true m, decide_eq_false (h.one a b m)]
    rfl
  · rw [decide_eq_true m, decide_eq_false (h.one b a m)]
    rfl
theorem OnceOk.odd {ts : List Str} {ls : List (Str × Str)} (h : OnceOk ts ls) : rovF ts ls % 2 = 1 := by
  rw [rovF_eq h.web.nd (List.length_pos_iff.mp h.web.pos)]
  have := Rd.odd h.web.nd h.tour
  omega
theorem apart_met {ts : List (Str × Str)} : ∀ {ps : List Str}, ps.Nodup → Met ps ts → apart ts ps = []
  | [], _, _ => rfl
  | a :: r, nd, M => by
    have ⟨n1, n2⟩ := List.nodup_cons.mp nd
    show ((r.filter fun b => !tiedB ts a b).map fun b => (a, b)) ++ apart ts r = []
    rw [apart_met n2 fun x hx y hy => M x (List.mem_cons_of_mem _ hx) y (List.mem_cons_of_mem _ hy), List.append_nil, List.filter_eq_nil_iff.mpr fun b hb => ?_]
    · rfl
    · have := M a List.mem_cons_self b (List.mem_cons_of_mem _ hb) fun e => n1 (by rw [e]; exact hb)
      unfold tiedB
      rcases this with h | h <;> simp [h]
/-- one tie turned round -/
def turnT (ls : List (Str × Str)) (i : Nat) (u : Str × Str) : List (Str × Str) := ls.take i ++ [(u.2, u.1)] ++ ls.drop (i + 1)
theorem turnT_mem {ls : List (Str × Str)} {i : Nat} {u t : Str × Str} (nd : ls.Nodup) (hu : ls[i]? = some u) : t ∈ turnT ls i u ↔ (t ∈ ls ∧ t ≠ u) ∨ t = (u.2, u.1) := by
  have hi := (List.getElem?_eq_some_iff.mp hu).1
  have e : ls = ls.take i ++ u :: ls.drop (i + 1) := by
    have h1 : ls.drop i = u :: ls.drop (i + 1) := by
      rw [List.drop_eq_getElem_cons hi, (List.getElem?_eq_some_iff.mp hu).2]
    rw [← h1, List.take_append_drop]
  have nd2 := nd
  rw [e] at nd2
  obtain ⟨_, n2, n3⟩ := List.nodup_append.mp nd2
  have ⟨n4, _⟩ := List.nodup_cons.mp n2
  unfold turnT
  rw [show (t ∈ ls) = (t ∈ ls.take i ++ u :: ls.drop (i + 1)) by rw [← e]]
  simp only [List.mem_append, List.mem_cons, List.not_mem_nil, or_false]
  constructor
  · rintro ((h | h) | h)
    · exact .inl ⟨.inl h, fun z => n3 t h u List.mem_cons_self z⟩
    · exact .inr h
    · exact .inl ⟨.inr (.inr h), fun z => n4 (by rw [← z]; exact h)⟩
  · rintro (⟨h | h | h, hn⟩ | h)
    · exact .inl (.inl h)
    · exact absurd h hn
    · exact .inr h
    · exact .inl (.inr h)
theorem turnT_nd {ls : List (Str × Str)} {i : Nat} {u : Str × Str} (nd : ls.Nodup) (hu : ls[i]? = some u) (hn : (u.2, u.1) ∉ ls) : (turnT ls i u).Nodup := by
  unfold turnT
  have h1 : (ls.take i ++ ls.drop (i + 1)).Nodup := by
    rw [← List.eraseIdx_eq_take_drop_succ]
    exact nd.sublist (List.eraseIdx_sublist _ _)
  rw [List.append_assoc]
  have p : (ls.take i ++ ([(u.2, u.1)] ++ ls.drop (i + 1))).Perm ((u.2, u.1) :: (ls.take i ++ ls.drop (i + 1))) := List.perm_middle
  refine p.nodup_iff.mpr (List.nodup_cons.mpr ⟨fun h => hn ?_, h1⟩)
  rcases List.mem_append.mp h with h | h
  · exact List.mem_of_mem_take h
  · exact List.mem_of_mem_drop h
theorem OnceOk.turn {ts : List Str} {ls : List (Str × Str)} (h : OnceOk ts ls) {i : Nat} {u : Str × Str} (hu : ls[i]? = some u) : OnceOk ts (turnT ls i u) := by
  have hm := List.mem_of_getElem? hu
  obtain ⟨x, y⟩ := u
  obtain ⟨hx, hy, hxy⟩ := h.web.tie _ hm
  have hn : (y, x) ∉ ls := h.one x y hm
  have mem := fun t => turnT_mem (t := t) h.web.tnd hu
  have len : (turnT ls i (x, y)).length = ls.length := by
    have hi := (List.getElem?_eq_some_iff.mp hu).1
    unfold turnT
    simp
    omega
  refine ⟨⟨h.web.pos, h.web.few, h.web.nm, h.web.nd, by rw [len]; exact h.web.tfew, fun t ht => ?_, turnT_nd h.web.tnd hu hn⟩, fun a ha b hb hab => ?_, fun a b h1 h2 => ?_⟩
  · rcases (mem t).mp ht with ⟨ht, _⟩ | rfl
    · exact h.web.tie t ht
    · exact ⟨hy, hx, fun e => hxy e.symm⟩
  · rw [mem, mem]
    by_cases e1 : (a, b) = (x, y)
    · cases e1
      exact .inr (.inr rfl)
    · by_cases e2 : (b, a) = (x, y)
      · cases e2
        exact .inl (.inr rfl)
      · rcases h.met a ha b hb hab with m | m
        · exact .inl (.inl ⟨m, e1⟩)
        · exact .inr (.inl ⟨m, e2⟩)
  · rcases (mem _).mp h1 with ⟨m1, d1⟩ | e1 <;> rcases (mem _).mp h2 with ⟨m2, d2⟩ | e2
    · exact h.one a b m1 m2
    · cases e2
      exact d1 rfl
    · cases e1
      exact d2 rfl
    · cases e1
      cases e2
      exact hxy rfl
/-- in another order -/
theorem WebOk.mix {ts us : List Str} {ls ks : List (Str × Str)} (ok : WebOk ts ls) (p : us.Perm ts) (q : ks.Perm ls) : WebOk us ks :=
  ⟨by rw [p.length_eq]; exact ok.pos, by rw [p.length_eq]; exact ok.few, fun x hx => ok.nm x (p.mem_iff.mp hx), p.nodup_iff.mpr ok.nd, by rw [q.length_eq]; exact ok.tfew, fun t ht => by
    obtain ⟨h1, h2, h3⟩ := ok.tie t (q.mem_iff.mp ht)
    exact ⟨p.mem_iff.mpr h1, p.mem_iff.mpr h2, h3⟩, q.nodup_iff.mpr ok.tnd⟩
theorem rov_mix {ts us : List Str} {ls ks : List (Str × Str)} (ok : WebOk ts ls) (p : us.Perm ts) (q : ks.Perm ls) : rovF us ks = rovF ts ls := by
  have ok2 := ok.mix p q
  rw [rovF_eq ok.nd (List.length_pos_iff.mp ok.pos), rovF_eq ok2.nd (List.length_pos_iff.mp ok2.pos), Rd.Hn_perm ok2.nd p, Rd.Hn_congr (f := tB ls) ok.nd fun a _ b _ _ => ?_]
  unfold tB
  rw [Bool.eq_iff_iff, decide_eq_true_iff, decide_eq_true_iff, q.mem_iff]
/-- with other names -/
theorem web_ren {ts : List Str} {ls : List (Str × Str)} {g : Str → Str} (ok : WebOk ts ls) (nm : ∀ x ∈ ts, nameOk (g x) = true) (inj : ∀ x ∈ ts, ∀ y ∈ ts, g x = g y → x = y) : WebOk (ts.map g) (ls.map (renP g)) := by
  refine ⟨by rw [List.length_map]; exact ok.pos, by rw [List.length_map]; exact ok.few, fun x hx => ?_, nodup_map_on inj ok.nd, by rw [List.length_map]; exact ok.tfew, fun t ht => ?_, ?_⟩
  · obtain ⟨y, hy, rfl⟩ := List.mem_map.mp hx
    exact nm y hy
  · obtain ⟨u, hu, rfl⟩ := List.mem_map.mp ht
    obtain ⟨h1, h2, h3⟩ := ok.tie u hu
    exact ⟨List.mem_map.mpr ⟨_, h1, rfl⟩, List.mem_map.mpr ⟨_, h2, rfl⟩, fun e => h3 (inj _ h1 _ h2 e)⟩
  · refine nodup_map_on (fun u hu v hv e => ?_) ok.tnd
    obtain ⟨h1, h2, _⟩ := ok.tie u hu
    obtain ⟨h3, h4, _⟩ := ok.tie v hv
    exact Prod.ext (inj _ h1 _ h3 (congrArg Prod.fst e)) (inj _ h2 _ h4 (congrArg Prod.snd e))
theorem rov_ren {ts : List Str} {ls : List (Str × Str)} {g : Str → Str} (ok : WebOk ts ls) (nm : ∀ x ∈ ts, nameOk (g x) = true) (inj : ∀ x ∈ ts, ∀ y ∈ ts, g x = g y → x = y) : rovF (ts.map g) (ls.map (renP g)) = rovF ts ls := by
  have ok2 := web_ren ok nm inj
  rw [rovF_eq ok.nd (List.length_pos_iff.mp ok.pos), rovF_eq ok2.nd (List.length_pos_iff.mp ok2.pos), Rd.Hn_map (e := tB ls) ok.nd fun a ha b hb _ => ?_]
  unfold tB
  rw [Bool.eq_iff_iff, decide_eq_true_iff, decide_eq_true_iff]
  constructor
  · intro h
    obtain ⟨u, hu, e⟩ := List.mem_map.mp h
    obtain ⟨h1, h2, _⟩ := ok.tie u hu
    have e1 := inj _ h1 _ ha (congrArg Prod.fst e)
    have e2 := inj _ h2 _ hb (congrArg Prod.snd e)
    rw [← e1, ← e2]
    exact hu
  · intro h
    exact List.mem_map.mpr ⟨_, h, rfl⟩
/-- a place more -/
theorem zS_ok : nameOk zS = true := by decide +kernel
def toZ (ts : List Str) : List (Str × Str) := ts.map fun x => (x, zS)
def ofZ (ts : List Str) : List (Str × Str) := ts.map fun x => (zS, x)
theorem web_z {ts : List Str} {ls hs : List (Str × Str)} (ok : WebOk ts ls) (nz : zS ∉ ts) (h9 : ts.length < 9) (h36 : ls.length ≤ 36) (h : hs = ofZ ts ∨ hs = toZ ts) : WebOk (zS :: ts) (hs ++ ls) := by
  have hl : hs.length = ts.length := by rcases h with rfl | rfl <;> exact List.length_map _
  refine ⟨by simp, by rw [List.length_cons]; omega, fun x hx => ?_, List.nodup_cons.mpr ⟨nz, ok.nd⟩, by rw [List.length_append]; omega, fun t ht => ?_, List.nodup_append.mpr ⟨?_, ok.tnd, fun t ht u hu e => ?_⟩⟩
  · rcases List.mem_cons.mp hx with rfl | hx
    · exact zS_ok
    · exact ok.nm x hx
  · rcases List.mem_append.mp ht with ht | ht
    · rcases h with rfl | rfl
      · obtain ⟨x, hx, rfl⟩ := List.mem_map.mp ht
        exact ⟨List.mem_cons_self, List.mem_cons_of_mem _ hx, fun e => nz (by rw [show zS = x from e]; exact hx)⟩
      · obtain ⟨x, hx, rfl⟩ := List.mem_map.mp ht
        exact ⟨List.mem_cons_of_mem _ hx, List.mem_cons_self, fun e => nz (by rw [← show x = zS from e]; exact hx)⟩
    · obtain ⟨h1, h2, h3⟩ := ok.tie t ht
      exact ⟨List.mem_cons_of_mem _ h1, List.mem_cons_of_mem _ h2, h3⟩
  · rcases h with rfl | rfl
    · exact nodup_map_on (fun a _ b _ e => congrArg Prod.snd e) ok.nd
    · exact nodup_map_on (fun a _ b _ e => congrArg Prod.fst e) ok.nd
  · subst e
    obtain ⟨h1, h2, _⟩ := ok.tie t hu
    rcases h with rfl | rfl
    · obtain ⟨x, hx, rfl⟩ := List.mem_map.mp ht
      exact nz h1
    · obtain ⟨x, hx, rfl⟩ := List.mem_map.mp ht
      exact nz h2
theorem rov_z {ts : List Str} {ls hs : List (Str × Str)} (ok : WebOk ts ls) (nz : zS ∉ ts) (h9 : ts.length < 9) (h36 : ls.length ≤ 36) (h : hs = ofZ ts ∨ hs = toZ ts) : rovF (zS :: ts) (hs ++ ls) = rovF ts ls := by
  have ok2 := web_z ok nz h9 h36 h
  rw [rovF_eq ok.nd (List.length_pos_iff.mp ok.pos), rovF_eq ok2.nd (by simp)]
  have out : ∀ x ∈ ts, (zS, x) ∉ ls ∧ (x, zS) ∉ ls := fun x _ => ⟨fun z => nz (ok.tie _ z).1, fun z => nz (ok.tie _ z).2.1⟩
  have ne : ∀ x ∈ ts, x ≠ zS := fun x hx e => nz (by rw [← e]; exact hx)
  have step : Rd.Hn (tB (hs ++ ls)) (zS :: ts) = Rd.Hn (tB (hs ++ ls)) ts := by
    rcases h with rfl | rfl
    · refine Rd.Hn_src fun x hx => ⟨decide_eq_true (List.mem_append_left _ (List.mem_map.mpr ⟨x, hx, rfl⟩)), decide_eq_false fun z => ?_⟩
      rcases List.mem_append.mp z with z | z
      · obtain ⟨y, hy, e⟩ := List.mem_map.mp z
        exact ne x hx (congrArg Prod.fst e).symm
      · exact (out x hx).2 z
    · refine Rd.Hn_sink ok2.nd fun x hx => ⟨decide_eq_true (List.mem_append_left _ (List.mem_map.mpr ⟨x, hx, rfl⟩)), decide_eq_false fun z => ?_⟩
      rcases List.mem_append.mp z with z | z
      · obtain ⟨y, hy, e⟩ := List.mem_map.mp z
        exact ne x hx (congrArg Prod.snd e).symm
      · exact (out x hx).1 z
  rw [step, Rd.Hn_congr (f := tB ls) ok.nd fun a ha b hb _ => ?_]
  unfold tB
  rw [Bool.eq_iff_iff, decide_eq_true_iff, decide_eq_true_iff]
  constructor
  · intro z
    rcases List.mem_append.mp z with z | z
    · rcases h with rfl | rfl
      · obtain ⟨y, hy, e⟩ := List.mem_map.mp z
        exact absurd (congrArg Prod.fst e).symm (ne a ha)
      · obtain ⟨y, hy, e⟩ := List.mem_map.mp z
        exact absurd (congrArg Prod.snd e).symm (ne b hb)
    · exact z
  · exact fun z => List.mem_append_right _ z
theorem nePrs {S : SO} {Q : KD} {l : List (Str × Str)} (hs : ∀ t ∈ l, sOk t.1 ∧ sOk t.2) (h : Q (.bl (!l.isEmpty)) S) : oNe (.tf (l.map prD)) (.tup []) S Q := by
  refine ⟨.tuple (l.map prP), .tuple [], ?_, rfl, ?_, by decide +kernel, ?_⟩
  · show (pyDs (l.map prD)).map PyData.tuple = _
    rw [pyDs_prs]
    rfl
  · exact shaped_tupP hs
  · cases l with
    | nil => exact h
    | cons x xs => exact h
end L2.DL

namespace L2.DL
local macro_rules | `(tactic| and_intros) => `(tactic| repeat (first | refine Step.go (v := (.s (.s (.s (.s .z))))) ?_ | with_reducible refine gTup ?_ | with_reducible refine mthTie ?_ | with_reducible refine iModL ?_ | with_reducible refine xGTl ?_ | with_reducible refine andL (by with_unfolding_all exact lez rfl) ?_))
section
open PySem PySem.Spec PyProof.Rows
/-! VF5: k20, a turn -/
def sp_k20_right (W : Addr) : DSp := fun ds S Q E => ∃ (p : Addr) (a b c : Int), ds = [.obj p] ∧ S p = some (pan3 a b c) ∧ ∀ a' b' c', Q (.bl true) (S.set p (pan3 a' b' c'))
def w_k20_right (W : Addr) : WS := (wSeq (wFor (wRng1 (wCons (wC (.int 5)) wNil)) (gV 1) (wSeq (wAsg (wFn (sp_k20_once W) [] (wCons (wV 0) (wCons (wFn (sp_cup_of W) [] (wCons (wV 0) (wCons (wLst (wCons (wC (.int 5)) (wCons (wC (.int 5)) (wCons (wC (.int 8)) (wCons (wC (.int 9)) wNil))))) wNil))) wNil))) (gV 2))
    (wSeq (wAsg (wFn (sp_cup_made W) [] (wCons (wV 2) wNil)) (gV 3))
    (wSeq (wPar 4 5 (wCons (wFn (sp_roads_overD W) [] (wCons (wV 3) wNil)) (wCons (wV 2) wNil)))
    (wSeq (wIfS (wOr (wNot (wB (wFn (sp_all_metX W) [] (wCons (wV 3) wNil)))) (wOr (wB (wO oNe (wO oMod (wCall cInt (wCons (wV 4) wNil)) (wC (.int 2))) (wC (.int 1)))) (wB (wO oNe (wCall cLen (wCons (wFn (sp_one_roadD W) [] (wCons (wV 3) wNil)) wNil)) (wCall cLen (wCons (wO oIx (wV 2) (wC (.int 0))) wNil)))))) (wRet (wC (.bl false))) wNext)
    (wSeq (wIfS (wB (wO oNe (wO oIx (wV 2) (wC (.int 1))) (wTup wNil))) (wSeq (wAsg (wFn (sp_cup_sip W) [] (wCons (wV 0) (wCons (wCall cLen (wCons (wO oIx (wV 2) (wC (.int 1))) wNil)) wNil))) (gV 6))
    (wAsg (wTup (wCons (wO oIx (wV 2) (wC (.int 0))) (wCons (wO oAddG (wO oAddG (wSlG (wO oIx (wV 2) (wC (.int 1))) pNone (pSome (wV 6))) (wTupF (wCons (wRevU (wO oIx (wO oIx (wV 2) (wC (.int 1))) (wV 6))) wNil))) (wSlG (wO oIx (wV 2) (wC (.int 1))) (pSome (wO oAdd (wV 6) (wC (.int 1)))) pNone)) wNil))) (gV 5))) wNext)
    (wSeq (wIfS (wB (wO oNe (wO oMod (wCall cInt (wCons (wFn (sp_roads_overD W) [] (wCons (wFn (sp_cup_made W) [] (wCons (wV 5) wNil)) wNil)) wNil)) (wC (.int 2))) (wC (.int 1)))) (wRet (wC (.bl false))) wNext)
    (wSeq (wAsg (wFn (sp_cup_sip W) [] (wCons (wV 0) (wCons (wCall cLen (wCons (wO oIx (wV 2) (wC (.int 0))) wNil)) wNil))) (gV 7))
    (wSeq (wIfS (wB (wO oNe (wFn (sp_roads_overD W) [] (wCons (wMakeF W (sp_Web_init W) [] (wCons (wO oAddG (wSlG (wO oIx (wV 2) (wC (.int 0))) (pSome (wV 7)) pNone) (wSlG (wO oIx (wV 2) (wC (.int 0))) pNone (pSome (wV 7)))) (wCons (wRevT (wO oIx (wV 2) (wC (.int 1)))) wNil))) wNil)) (wV 4))) (wRet (wC (.bl false))) wNext)
    (wSeq (wAsg (wDictZipT (wO oIx (wV 2) (wC (.int 0))) (wFn (sp_cup_folkZ W) [] (wCons (wV 0) (wCons (wCall cLen (wCons (wO oIx (wV 2) (wC (.int 0))) wNil)) wNil)))) (gV 8))
    (wSeq (wAsg (wCall cTupleF (wCons (wLcP (wSeqI (wO oIx (wV 2) (wC (.int 1)))) (.t [12, 13]) wYes (wTup (wCons (wO oIx (wV 8) (wV 12)) (wCons (wO oIx (wV 8) (wV 13)) wNil))) [12, 13]) wNil)) (gV 9))
    (wSeq (wIfS (wB (wO oNe (wFn (sp_roads_overD W) [] (wCons (wMakeF W (sp_Web_init W) [] (wCons (wCall cTupleF (wCons (wLcP (wSeqI (wO oIx (wV 2) (wC (.int 0)))) (.n 14) wYes (wO oIx (wV 8) (wV 14)) [14]) wNil)) (wCons (wV 9) wNil))) wNil)) (wV 4))) (wRet (wC (.bl false))) wNext)
    (wIfS (wB (wO oLt (wCall cLen (wCons (wO oIx (wV 2) (wC (.int 0))) wNil)) (wC (.int 9)))) (wSeq (wAsg (wLst (wCons (wCall cTupleF (wCons (wLcP (wSeqI (wO oIx (wV 2) (wC (.int 0)))) (.n 14) wYes (wTup (wCons (wC (.str "zzzzzzzz")) (wCons (wV 14) wNil))) [14]) wNil)) (wCons (wCall cTupleF (wCons (wLcP (wSeqI (wO oIx (wV 2) (wC (.int 0)))) (.n 14) wYes (wTup (wCons (wV 14) (wCons (wC (.str "zzzzzzzz")) wNil))) [14]) wNil)) wNil))) (gV 10))
    (wFor (wSeqI (wV 10)) (gV 11) (wIfS (wB (wO oNe (wFn (sp_roads_overD W) [] (wCons (wMakeF W (sp_Web_init W) [] (wCons (wO oAddG (wTup (wCons (wC (.str "zzzzzzzz")) wNil)) (wO oIx (wV 2) (wC (.int 0)))) (wCons (wO oAddG (wV 11) (wO oIx (wV 2) (wC (.int 1)))) wNil))) wNil)) (wV 4))) (wRet (wC (.bl false))) wNext))) wNext)))))))))))))
    (wRet (wC (.bl true))))
def w_k20_2 (W : Addr) : WS := (wSeq (wIfS (wB (wO oNe (wO oMod (wCall cInt (wCons (wFn (sp_roads_overD W) [] (wCons (wFn (sp_cup_made W) [] (wCons (wV 5) wNil)) wNil)) wNil)) (wC (.int 2))) (wC (.int 1)))) (wRet (wC (.bl false))) wNext)
    (wSeq (wAsg (wFn (sp_cup_sip W) [] (wCons (wV 0) (wCons (wCall cLen (wCons (wO oIx (wV 2) (wC (.int 0))) wNil)) wNil))) (gV 7))
    (wSeq (wIfS (wB (wO oNe (wFn (sp_roads_overD W) [] (wCons (wMakeF W (sp_Web_init W) [] (wCons (wO oAddG (wSlG (wO oIx (wV 2) (wC (.int 0))) (pSome (wV 7)) pNone) (wSlG (wO oIx (wV 2) (wC (.int 0))) pNone (pSome (wV 7)))) (wCons (wRevT (wO oIx (wV 2) (wC (.int 1)))) wNil))) wNil)) (wV 4))) (wRet (wC (.bl false))) wNext)
    (wSeq (wAsg (wDictZipT (wO oIx (wV 2) (wC (.int 0))) (wFn (sp_cup_folkZ W) [] (wCons (wV 0) (wCons (wCall cLen (wCons (wO oIx (wV 2) (wC (.int 0))) wNil)) wNil)))) (gV 8))
    (wSeq (wAsg (wCall cTupleF (wCons (wLcP (wSeqI (wO oIx (wV 2) (wC (.int 1)))) (.t [12, 13]) wYes (wTup (wCons (wO oIx (wV 8) (wV 12)) (wCons (wO oIx (wV 8) (wV 13)) wNil))) [12, 13]) wNil)) (gV 9))
    (wSeq (wIfS (wB (wO oNe (wFn (sp_roads_overD W) [] (wCons (wMakeF W (sp_Web_init W) [] (wCons (wCall cTupleF (wCons (wLcP (wSeqI (wO oIx (wV 2) (wC (.int 0)))) (.n 14) wYes (wO oIx (wV 8) (wV 14)) [14]) wNil)) (wCons (wV 9) wNil))) wNil)) (wV 4))) (wRet (wC (.bl false))) wNext)
    (wIfS (wB (wO oLt (wCall cLen (wCons (wO oIx (wV 2) (wC (.int 0))) wNil)) (wC (.int 9)))) (wSeq (wAsg (wLst (wCons (wCall cTupleF (wCons (wLcP (wSeqI (wO oIx (wV 2) (wC (.int 0)))) (.n 14) wYes (wTup (wCons (wC (.str "zzzzzzzz")) (wCons (wV 14) wNil))) [14]) wNil)) (wCons (wCall cTupleF (wCons (wLcP (wSeqI (wO oIx (wV 2) (wC (.int 0)))) (.n 14) wYes (wTup (wCons (wV 14) (wCons (wC (.str "zzzzzzzz")) wNil))) [14]) wNil)) wNil))) (gV 10))
    (wFor (wSeqI (wV 10)) (gV 11) (wIfS (wB (wO oNe (wFn (sp_roads_overD W) [] (wCons (wMakeF W (sp_Web_init W) [] (wCons (wO oAddG (wTup (wCons (wC (.str "zzzzzzzz")) wNil)) (wO oIx (wV 2) (wC (.int 0)))) (wCons (wO oAddG (wV 11) (wO oIx (wV 2) (wC (.int 1)))) wNil))) wNil)) (wV 4))) (wRet (wC (.bl false))) wNext))) wNext)))))))
theorem k20_rest (W : Addr) {E : EndsD} {S : SO} {p : Addr} {a b c : Int} {ts : List Str} {ls ls' : List (Str × Str)} {c1 c6 c7 c8 c9 c10 c11 : Option D} (O : OnceOk ts ls) (O' : OnceOk ts ls') (hl : ts.length ≤ 9) (hls : ls.length ≤ 36) (nz : zS ∉ ts)
    (hE : ∀ (a b c : Int) (cs : List (Option D)), E.nx [some (.obj p), cs.getD 0 none, cs.getD 1 none, cs.getD 2 none, cs.getD 3 none, cs.getD 4 none, cs.getD 5 none, cs.getD 6 none, cs.getD 7 none, cs.getD 8 none, cs.getD 9 none, cs.getD 10 none, none, none, none] (S.set p (pan3 a b c))) :
    w_k20_2 W E [some (.obj p), c1, some (netD ts ls), some (webD W ts ls), some (.int (rovF ts ls)), some (netD ts ls'), c6, c7, c8, c9, c10, c11, none, none, none] (S.set p (pan3 a b c)) := by
  have ok := O.web
  have few := ok.few
  have pos := ok.pos
  have hodd' := O'.odd
  obtain ⟨en, er, eb, ec⟩ := E
  unfold w_k20_2
  and_intros
  refine ⟨ts, ls', rfl, O'.web, ?_⟩
  and_intros
  refine ⟨ts, ls', rfl, O'.web, hl, ?_⟩
  and_intros
  refine isNB (by rw [hodd']; rfl) ?_
  and_intros
  refine ixTup at0 ?_
  and_intros
  refine sipN (m := ts.length) set_same pos (by omega) fun st hst a b c => ?_
  rw [set_set]
  and_intros
  refine xSlG ?_
  and_intros
  refine ixTup at0 ?_
  and_intros
  refine ⟨_, rfl, ?_⟩
  and_intros
  refine xSlG ?_
  and_intros
  refine ixTup at0 ?_
  and_intros
  refine ⟨_, rfl, ?_⟩
  rw [cut_suf (by rw [List.length_map]; omega), cut_pre (by rw [List.length_map]; omega)]
  refine addGf (by simp; omega) ?_
  and_intros
  refine xRevT ?_
  and_intros
  refine ixTup at1 ?_
  and_intros
  refine ⟨_, .inl rfl, ?_⟩
  and_intros
  rw [show (plD ts).drop st ++ (plD ts).take st = plD (ts.drop st ++ ts.take st) by unfold plD; rw [List.map_append, List.map_drop, List.map_take], ← List.map_reverse]
  have p1 : (ts.drop st ++ ts.take st).Perm ts := List.perm_append_comm.trans (by rw [List.take_append_drop])
  have p2 : ls.reverse.Perm ls := List.reverse_perm ls
  refine mkWeb (ok.mix p1 p2) ?_
  and_intros
  refine ⟨_, _, rfl, ok.mix p1 p2, by rw [p1.length_eq]; exact hl, ?_⟩
  rw [rov_mix ok p1 p2]
  and_intros
  refine isNB (by simp) ?_
  and_intros
  refine xDictZipT ?_
  and_intros
  refine ixTup at0 ?_
  and_intros
  refine ixTup at0 ?_
  and_intros
  refine ⟨p, a, b, c, ts.length, rfl, set_same, by omega, fun us a b c hus N => ?_⟩
  rw [set_set]
  obtain ⟨N, nzu⟩ := N
  refine ⟨ts, us.map D.str, rfl, rfl, by rw [List.length_map]; exact hus.symm, by omega, ?_⟩
  rw [zip_mapK ok.nd hus, mapK_puts ok.nd]
  have rin : ∀ x ∈ ts, renF ts us x ∈ us := fun x hx => renF_mem hus hx
  have rinj : ∀ x ∈ ts, ∀ y ∈ ts, renF ts us x = renF ts us y → x = y := fun x hx y hy e => by
    have := renF_back ok.nd N.nd hus hx
    rw [e, renF_back ok.nd N.nd hus hy] at this
    exact this.symm
  have rnm : ∀ x ∈ ts, nameOk (renF ts us x) = true := fun x hx => N.nm _ (rin x hx)
  generalize renF ts us = g at rin rinj rnm
  and_intros
  refine lcM ls prD (fun t => prD (renP g t)) ?_ (by omega) (fun t ht S' e => ?_) ?_
  · and_intros
    refine ixTup at1 ?_
    and_intros
    exact srcT
  · obtain ⟨x, y⟩ := t
    obtain ⟨hx, hy, _⟩ := ok.tie _ ht
    (simp only [prD, putNT, wipeD, putAll, List.set_cons_zero, List.set_cons_succ, List.length_cons, List.length_nil, true_and]; and_intros)
    refine ixDic (key_str _) (mapK_get hx) ?_
    and_intros
    refine ixDic (key_str _) (mapK_get hy) ?_
    and_intros
    exact ⟨rfl, rfl⟩
  rw [show ls.map (fun t => prD (renP g t)) = (ls.map (renP g)).map prD by rw [List.map_map]; rfl]
  and_intros
  refine lcM ts D.str (fun t => D.str (g t)) ?_ (by omega) (fun t ht S' e => ?_) ?_
  · and_intros
    refine ixTup at0 ?_
    and_intros
    exact srcT
  · (simp only [prD, putNT, wipeD, putAll, List.set_cons_zero, List.set_cons_succ, List.length_cons, List.length_nil, true_and]; and_intros)
    refine ixDic (key_str _) (mapK_get ht) ?_
    and_intros
    exact ⟨rfl, rfl⟩
  rw [show ts.map (fun t => D.str (g t)) = plD (ts.map g) by unfold plD; rw [List.map_map]; rfl]
  and_intros
  refine mkWeb (web_ren ok rnm rinj) ?_
  and_intros
  refine ⟨_, _, rfl, web_ren ok rnm rinj, by rw [List.length_map]; exact hl, ?_⟩
  rw [rov_ren ok rnm rinj]
  and_intros
  refine isNB (by simp) ?_
  and_intros
  refine ixTup at0 ?_
  and_intros
  refine isD (fun h => ?_) fun h => ?_
  · have h9 : ts.length < 9 := by
      have h' : (ts.length : Int) < 9 := h
      omega
    and_intros
    refine lcM ts D.str (fun t => prD (zS, t)) ?_ (by omega) (fun t ht S' e => ?_) ?_
    · and_intros
      refine ixTup at0 ?_
      and_intros
      exact srcT
    · (simp only [prD, putNT, wipeD, putAll, List.set_cons_zero, List.set_cons_succ, List.length_cons, List.length_nil, true_and]; and_intros)
      exact ⟨rfl, rfl⟩
    rw [show ts.map (fun t => prD (zS, t)) = (ofZ ts).map prD by unfold ofZ; rw [List.map_map]; rfl]
    and_intros
    refine lcM ts D.str (fun t => prD (t, zS)) ?_ (by omega) (fun t ht S' e => ?_) ?_
    · and_intros
      refine ixTup at0 ?_
      and_intros
      exact srcT
    · (simp only [prD, putNT, wipeD, putAll, List.set_cons_zero, List.set_cons_succ, List.length_cons, List.length_nil, true_and]; and_intros)
      exact ⟨rfl, rfl⟩
    rw [show ts.map (fun t => prD (t, zS)) = (toZ ts).map prD by unfold toZ; rw [List.map_map]; rfl]
    and_intros
    refine forJ [ofZ ts, toZ ts] (fun hs : List (Str × Str) => D.tf (hs.map prD)) (fun z : Option D => [some (.obj p), c1, some (netD ts ls), some (webD W ts ls), some (.int (rovF ts ls)), some (netD ts ls'), c6, some (.int (st : Nat)), some (.dic false (mapK ts g)), some (.tf ((ls.map (renP g)).map prD)), some (.lst [.tf ((ofZ ts).map prD), .tf ((toZ ts).map prD)]), z, none, none, none]) (fun _ => S.set p (pan3 a b c)) (fun _ _ => True) c11 trivial ?_ ?_
    · rintro i hs z hz -
      have hh : hs = ofZ ts ∨ hs = toZ ts := by simpa using List.mem_of_getElem? hz
      have okz := web_z ok nz h9 hls hh
      have hhl : hs.length = ts.length := by rcases hh with rfl | rfl <;> exact List.length_map _
      and_intros
      refine ixTup at0 ?_
      and_intros
      refine ⟨[.str zS], plD ts, rfl, rfl, by simp; omega, (fun e => nomatch e), (fun e => ?_), fun _ _ => ?_⟩
      · have e2 : (plD ts).length = 0 := by rw [e]; rfl
        rw [List.length_map] at e2
        omega
      and_intros
      refine ixTup at1 ?_
      and_intros
      refine addGf (by simp; omega) ?_
      and_intros
      rw [← List.map_append]
      refine mkWeb (ps := zS :: ts) okz ?_
      and_intros
      refine ⟨_, _, rfl, okz, by rw [List.length_cons]; omega, ?_⟩
      rw [rov_z ok nz h9 hls hh]
      and_intros
      refine isNB (by simp) ?_
      and_intros
      exact .of _ trivial
    · rintro z -
      exact hE a b c [_, _, _, _, _, _, _, _, _, _, _]
  · and_intros
    exact hE a b c [_, _, _, _, _, _, _, _, _, _, _]
theorem pure_k20_right (W : Addr) : ∀ ds S Q E, sp_k20_right W ds S Q E → w_k20_right W (endsOf Q) (startD ["_law_cup_here", "_law_turn", "_law_net", "_law_here", "_law_many", "_law_back", "_law_at", "_law_start", "_law_fresh", "_law_pairs", "_law_heads", "_law_more", "_law_one", "_law_two", "_law_each"] ds) S := by
  rintro ds S Q E ⟨p, a, b, c, rfl, hp, q⟩
  refine xFn ?_
  show w_k20_right W _ [some _, none, none, none, none, none, none, none, none, none, none, none, none, none, none] S
  unfold w_k20_right
  and_intros
  refine rng1N (k := 5) (by omega) ?_
  refine forR (fun x : (Int × Int × Int) × List (Option D) => [some (.obj p), x.2.getD 0 none, x.2.getD 1 none, x.2.getD 2 none, x.2.getD 3 none, x.2.getD 4 none, x.2.getD 5 none, x.2.getD 6 none, x.2.getD 7 none, x.2.getD 8 none, x.2.getD 9 none, x.2.getD 10 none, none, none, none]) (fun x => S.set p (pan3 x.1.1 x.1.2.1 x.1.2.2)) (fun _ _ => True) ((a, b, c), []) trivial ?_ ?_ rfl (set_self hp).symm
  · rintro i ⟨⟨a, b, c⟩, cs⟩ hi -
    and_intros
    refine ofM (f := fun n : Nat => .int (n : Nat)) (l := [5, 5, 8, 9]) set_same rfl (by simp) (by simp) fun m hm a b c => ?_
    rw [set_set]
    have hm' : 0 < m ∧ m ≤ 9 := by
      simp only [List.mem_cons, List.not_mem_nil, or_false] at hm
      omega
    and_intros
    refine ⟨p, a, b, c, m, rfl, set_same, hm'.1, hm'.2, fun ts ls a b c O hl hls nz => ?_⟩
    rw [set_set]
    have ok := O.web
    have few := ok.few
    have pos := ok.pos
    have hodd := O.odd
    and_intros
    refine ⟨ts, ls, rfl, ok, ?_⟩
    and_intros
    refine ⟨ts, ls, rfl, ok, hl, ?_⟩
    and_intros
    refine ⟨ts, ls, rfl, ok, ?_⟩
    have ha : apart ls ts = [] := apart_met ok.nd O.met
    rw [ha]
    and_intros
    refine isYB rfl ?_
    and_intros
    refine isNB (by rw [hodd]; rfl) ?_
    and_intros
    refine ⟨ts, ls, rfl, ok, ha, fun _ hr => ?_⟩
    and_intros
    refine ixTup at0 ?_
    and_intros
    refine isNB (by rw [hr]; simp) ?_
    and_intros
    refine ixTup at1 ?_
    and_intros
    refine nePrs ok.soks ?_
    refine isCB (fun h => ?_) fun h => ?_
    · and_intros
      refine ixTup at1 ?_
      and_intros
      have hpos : 0 < ls.length := by
        cases ls with
        | nil => cases h
        | cons => simp
      refine sipN (m := ls.length) set_same hpos (by omega) fun i hi a b c => ?_
      rw [set_set]
      have hu : ls[i]? = some ls[i] := List.getElem?_eq_getElem hi
      and_intros
      refine ixTup at0 ?_
      and_intros
      refine xSlG ?_
      and_intros
      refine ixTup at1 ?_
      and_intros
      refine ⟨_, rfl, ?_⟩
      and_intros
      refine ixTup at1 ?_
      and_intros
      refine ixTf (atM hu) ?_
      show RevD (.tup [.str ls[i].1, .str ls[i].2]) _ _
      and_intros
      refine addGf (by rw [cut_pre (by rw [List.length_map]; omega)]; simp; omega) ?_
      and_intros
      refine xSlG ?_
      and_intros
      refine ixTup at1 ?_
      and_intros
      refine ⟨_, rfl, ?_⟩
      rw [cut_pre (by rw [List.length_map]; omega)]
      rw [show ((i : Nat) : Int) + 1 = ((i + 1 : Nat) : Int) by omega, cut_suf (by rw [List.length_map]; omega)]
      refine addGf (by simp; omega) ?_
      rw [show (ls.map prD).take i ++ [D.tup [.str ls[i].1, .str ls[i].2].reverse] ++ (ls.map prD).drop (i + 1) = (turnT ls i ls[i]).map prD by unfold turnT; rw [List.map_append, List.map_append, List.map_take, List.map_drop]; rfl]
      refine ⟨lez rfl, ?_⟩
      refine k20_rest W O (O.turn hu) hl hls nz ?_
      exact fun a b c cs => ⟨((a, b, c), cs), rfl, rfl, trivial⟩
    · exact k20_rest W O O hl hls nz fun a b c cs => ⟨((a, b, c), cs), rfl, rfl, trivial⟩
  · rintro ⟨⟨a, b, c⟩, cs⟩ -
    and_intros
    exact cl (q a b c)
end
end L2.DL
namespace L2.DL
open PySem PySem.Spec PyProof.Rows
/-! VF6: k20 -/
def sp_k20_law (W : Addr) : DSp := LawSp 63
def w_k20_law (W : Addr) : WS := (wRet (wCall cAll (wCons (wLcF (wRng1 (wCons (wCall cMax (wCons (wC (.int 2)) (wCons (wCall cMin (wCons (wCall cLen (wCons (wV 0) wNil)) (wCons (wC (.int 4)) wNil))) wNil))) wNil)) (.n 1) wYes (wFn (sp_k20_right W) [] (wCons (wFn (sp_cup_cup W) [] (wCons (wV 0) (wCons (wV 1) wNil))) wNil)) [1]) wNil)))
theorem pure_k20_law (W : Addr) : ∀ ds S Q E, sp_k20_law W ds S Q E → w_k20_law W (endsOf Q) (startD ["_law_script", "_law_k"] ds) S := pure_cup_lawN W 4 (by decide) fun p a b c S Q hp q => ⟨p, a, b, c, rfl, hp, q⟩
end L2.DL

namespace L2.DL
open PySem PySem.Spec PyProof.Rows
theorem len_is_name (W : Addr) : ∀ ds S Q E, sp_is_name W ds S Q E → ds.length = ["value"].length := by
  rintro ds S Q E ⟨_, rfl, _⟩
  rfl
theorem len_wrong_place (W : Addr) : ∀ ds S Q E, sp_wrong_place W ds S Q E → ds.length = ["values"].length := by
  rintro ds S Q E ⟨_, rfl, _⟩
  rfl
theorem len_is_pair (W : Addr) : ∀ ds S Q E, sp_is_pair W ds S Q E → ds.length = ["places", "value"].length := by
  rintro ds S Q E ⟨_, _, rfl, _⟩
  rfl
theorem len_wrong_tie (W : Addr) : ∀ ds S Q E, sp_wrong_tie W ds S Q E → ds.length = ["places", "values"].length := by
  rintro ds S Q E ⟨_, _, rfl, _⟩
  rfl
theorem len_check_places (W : Addr) : ∀ ds S Q E, sp_check_places W ds S Q E → ds.length = ["places"].length := by
  rintro ds S Q E ⟨_, rfl, _⟩
  rfl
theorem len_check_ties (W : Addr) : ∀ ds S Q E, sp_check_ties W ds S Q E → ds.length = ["places", "ties"].length := by
  rintro ds S Q E ⟨_, _, rfl, _⟩
  rfl
theorem len_Web_init (W : Addr) : ∀ ds S Q E, sp_Web_init W ds S Q E → ds.length = ["self", "places", "ties"].length := by
  rintro ds S Q E ⟨_, _, _, rfl, _⟩
  rfl
theorem len_Web_has_tie (W : Addr) : ∀ ds S Q E, sp_Web_has_tie W ds S Q E → ds.length = ["self", "first", "second"].length := by
  rintro ds S Q E ⟨_, _, _, _, rfl, _⟩
  rfl
theorem len_Web_len (W : Addr) : ∀ ds S Q E, sp_Web_len W ds S Q E → ds.length = ["self"].length := by
  rintro ds S Q E ⟨_, _, rfl, _⟩
  rfl
theorem len_is_tied (W : Addr) : ∀ ds S Q E, sp_is_tied W ds S Q E → ds.length = ["web", "one", "other"].length := by
  rintro ds S Q E ⟨_, _, _, _, rfl, _⟩
  rfl
theorem len_first_untiedX (W : Addr) : ∀ ds S Q E, sp_first_untiedX W ds S Q E → ds.length = ["web"].length := by
  rintro ds S Q E ⟨_, _, rfl, _⟩
  rfl
theorem len_check_web (W : Addr) : ∀ ds S Q E, sp_check_web W ds S Q E → ds.length = ["web"].length := by
  rintro ds S Q E ⟨_, _, rfl, _⟩
  rfl
theorem len_all_metX (W : Addr) : ∀ ds S Q E, sp_all_metX W ds S Q E → ds.length = ["web"].length := by
  rintro ds S Q E ⟨_, _, rfl, _⟩
  rfl
theorem len_one_roadD (W : Addr) : ∀ ds S Q E, sp_one_roadD W ds S Q E → ds.length = ["web"].length := by
  rintro ds S Q E ⟨_, _, rfl, _⟩
  rfl
theorem len_roads_overD (W : Addr) : ∀ ds S Q E, sp_roads_overD W ds S Q E → ds.length = ["web"].length := by
  rintro ds S Q E ⟨_, _, rfl, _⟩
  rfl
theorem len_cup_cup (W : Addr) : ∀ ds S Q E, sp_cup_cup W ds S Q E → ds.length = ["_law_script", "_law_k"].length := by
  rintro ds S Q E ⟨_, _, rfl, _⟩
  rfl
theorem len_cup_sip (W : Addr) : ∀ ds S Q E, sp_cup_sip W ds S Q E → ds.length = ["_law_cup_here", "_law_many"].length := by
  rintro ds S Q E ⟨_, _, _, _, _, rfl, _⟩
  rfl
theorem len_cup_of (W : Addr) : ∀ ds S Q E, sp_cup_of W ds S Q E → ds.length = ["_law_cup_here", "_law_things"].length := by
  rintro ds S Q E ⟨_, _, _, _, _, _, rfl, _⟩
  rfl
theorem len_cup_folkZ (W : Addr) : ∀ ds S Q E, sp_cup_folkZ W ds S Q E → ds.length = ["_law_cup_here", "_law_many"].length := by
  rintro ds S Q E ⟨_, _, _, _, _, rfl, _⟩
  rfl
theorem len_cup_made (W : Addr) : ∀ ds S Q E, sp_cup_made W ds S Q E → ds.length = ["_law_net"].length := by
  rintro ds S Q E ⟨_, _, rfl, _⟩
  rfl
theorem len_k20_once (W : Addr) : ∀ ds S Q E, sp_k20_once W ds S Q E → ds.length = ["_law_cup_here", "_law_most"].length := by
  rintro ds S Q E ⟨_, _, _, _, _, rfl, _⟩
  rfl
theorem len_k20_right (W : Addr) : ∀ ds S Q E, sp_k20_right W ds S Q E → ds.length = ["_law_cup_here"].length := by
  rintro ds S Q E ⟨_, _, _, _, rfl, _⟩
  rfl
theorem len_k20_law (W : Addr) : ∀ ds S Q E, sp_k20_law W ds S Q E → ds.length = ["_law_script"].length := by
  rintro ds S Q E ⟨_, rfl, _⟩
  rfl
/-! ### the program by places -/
def topS (i : Nat) : Stmt := PySem.Challenge.pw_fewroads_k20_whole_odd_numbers_of_roads.main.body.getD i (.Pass ⟨0, 0, 0, 0⟩)
abbrev s_is_name : Stmt := topS 15
theorem sc_is_name : FnScope ["value", "sign"] ["value"] (defScope s_is_name) := ⟨rfl, rfl, rfl, by decide +kernel, rfl, by decide +kernel, by decide +kernel⟩
abbrev s_wrong_place : Stmt := topS 17
theorem sc_wrong_place : FnScope ["values", "index", "value"] ["values"] (defScope s_wrong_place) := ⟨rfl, rfl, rfl, by decide +kernel, rfl, by decide +kernel, by decide +kernel⟩
abbrev s_is_pair : Stmt := topS 18
theorem sc_is_pair : FnScope ["places", "value", "place"] ["places", "value"] (defScope s_is_pair) := ⟨rfl, rfl, rfl, by decide +kernel, rfl, by decide +kernel, by decide +kernel⟩
abbrev s_wrong_tie : Stmt := topS 19
theorem sc_wrong_tie : FnScope ["places", "values", "seen", "index", "value"] ["places", "values"] (defScope s_wrong_tie) := ⟨rfl, rfl, rfl, by decide +kernel, rfl, by decide +kernel, by decide +kernel⟩
abbrev s_check_places : Stmt := topS 20
theorem sc_check_places : FnScope ["places", "wrong"] ["places"] (defScope s_check_places) := ⟨rfl, rfl, rfl, by decide +kernel, rfl, by decide +kernel, by decide +kernel⟩
abbrev s_check_ties : Stmt := topS 21
theorem sc_check_ties : FnScope ["places", "ties", "wrong"] ["places", "ties"] (defScope s_check_ties) := ⟨rfl, rfl, rfl, by decide +kernel, rfl, by decide +kernel, by decide +kernel⟩
abbrev s_Web_init : Stmt := inClass (topS 22) 0
theorem sc_Web_init : FnScope ["self", "places", "ties", "tie"] ["self", "places", "ties"] (defScope s_Web_init) := ⟨rfl, rfl, rfl, by decide +kernel, rfl, by decide +kernel, by decide +kernel⟩
abbrev s_Web_has_tie : Stmt := inClass (topS 22) 4
theorem sc_Web_has_tie : FnScope ["self", "first", "second"] ["self", "first", "second"] (defScope s_Web_has_tie) := ⟨rfl, rfl, rfl, by decide +kernel, rfl, by decide +kernel, by decide +kernel⟩
abbrev s_Web_len : Stmt := inClass (topS 22) 10
theorem sc_Web_len : FnScope ["self"] ["self"] (defScope s_Web_len) := ⟨rfl, rfl, rfl, by decide +kernel, rfl, by decide +kernel, by decide +kernel⟩
abbrev s_is_tied : Stmt := topS 24
theorem sc_is_tied : FnScope ["web", "one", "other"] ["web", "one", "other"] (defScope s_is_tied) := ⟨rfl, rfl, rfl, by decide +kernel, rfl, by decide +kernel, by decide +kernel⟩
abbrev s_first_untiedX : Stmt := topS 26
theorem sc_first_untiedX : FnScope ["web", "index", "one", "other"] ["web"] (defScope s_first_untiedX) := ⟨rfl, rfl, rfl, by decide +kernel, rfl, by decide +kernel, by decide +kernel⟩
abbrev s_check_web : Stmt := topS 23
theorem sc_check_web : FnScope ["web"] ["web"] (defScope s_check_web) := ⟨rfl, rfl, rfl, by decide +kernel, rfl, by decide +kernel, by decide +kernel⟩
abbrev s_all_metX : Stmt := topS 27
theorem sc_all_metX : FnScope ["web"] ["web"] (defScope s_all_metX) := ⟨rfl, rfl, rfl, by decide +kernel, rfl, by decide +kernel, by decide +kernel⟩
abbrev s_one_roadD : Stmt := topS 28
theorem sc_one_roadD : FnScope ["web", "found", "road", "place", "ahead", "index", "other"] ["web"] (defScope s_one_roadD) := ⟨rfl, rfl, rfl, by decide +kernel, rfl, by decide +kernel, by decide +kernel⟩
abbrev s_roads_overD : Stmt := topS 29
theorem sc_roads_overD : FnScope ["web", "known", "turn", "later", "gone", "last", "many", "place", "key"] ["web"] (defScope s_roads_overD) := ⟨rfl, rfl, rfl, by decide +kernel, rfl, by decide +kernel, by decide +kernel⟩
abbrev s_cup_cup : Stmt := topS 31
theorem sc_cup_cup : FnScope ["_law_script", "_law_k", "_law_cell", "_law_mixed", "_law_each"] ["_law_script", "_law_k"] (defScope s_cup_cup) := ⟨rfl, rfl, rfl, by decide +kernel, rfl, by decide +kernel, by decide +kernel⟩
abbrev s_cup_sip : Stmt := topS 32
theorem sc_cup_sip : FnScope ["_law_cup_here", "_law_many", "_law_old", "_law_digit"] ["_law_cup_here", "_law_many"] (defScope s_cup_sip) := ⟨rfl, rfl, rfl, by decide +kernel, rfl, by decide +kernel, by decide +kernel⟩
abbrev s_cup_of : Stmt := topS 33
theorem sc_cup_of : FnScope ["_law_cup_here", "_law_things"] ["_law_cup_here", "_law_things"] (defScope s_cup_of) := ⟨rfl, rfl, rfl, by decide +kernel, rfl, by decide +kernel, by decide +kernel⟩
abbrev s_cup_folkZ : Stmt := topS 34
theorem sc_cup_folkZ : FnScope ["_law_cup_here", "_law_many", "_law_start", "_law_menu", "_law_leap", "_law_letters", "_law_stem", "_law_heads", "_law_k"] ["_law_cup_here", "_law_many"] (defScope s_cup_folkZ) := ⟨rfl, rfl, rfl, by decide +kernel, rfl, by decide +kernel, by decide +kernel⟩
abbrev s_cup_made : Stmt := topS 35
theorem sc_cup_made : FnScope ["_law_net"] ["_law_net"] (defScope s_cup_made) := ⟨rfl, rfl, rfl, by decide +kernel, rfl, by decide +kernel, by decide +kernel⟩
abbrev s_k20_once : Stmt := topS 36
theorem sc_k20_once : FnScope ["_law_cup_here", "_law_most", "_law_folk_here", "_law_found", "_law_k", "_law_j"] ["_law_cup_here", "_law_most"] (defScope s_k20_once) := ⟨rfl, rfl, rfl, by decide +kernel, rfl, by decide +kernel, by decide +kernel⟩
abbrev s_k20_right : Stmt := topS 37
theorem sc_k20_right : FnScope ["_law_cup_here", "_law_turn", "_law_net", "_law_here", "_law_many", "_law_back", "_law_at", "_law_start", "_law_fresh", "_law_pairs", "_law_heads", "_law_more", "_law_one", "_law_two", "_law_each"] ["_law_cup_here"] (defScope s_k20_right) := ⟨rfl, rfl, rfl, by decide +kernel, rfl, by decide +kernel, by decide +kernel⟩
abbrev s_k20_law : Stmt := topS 38
theorem sc_k20_law : FnScope ["_law_script", "_law_k"] ["_law_script"] (defScope s_k20_law) := ⟨rfl, rfl, rfl, by decide +kernel, rfl, by decide +kernel, by decide +kernel⟩
abbrev s_g_places : Stmt := inClass (topS 22) 2
theorem sc_g_places : FnScope ["self"] ["self"] (defScope s_g_places) := ⟨rfl, rfl, rfl, by decide +kernel, rfl, by decide +kernel, by decide +kernel⟩
/-! ### what the top has written -/
structure Txt (P : Program) (K : W.Frag) (mg : Str → Option Value) where
  a_Web : Addr
  m_Web : mg "Web" = some (.ref a_Web)
  c_Web : Cls K a_Web
  n_marks : NoAttr K a_Web "marks"
  n_pairs : NoAttr K a_Web "pairs"
  n_row : NoAttr K a_Web "row"
  ins_Web : InsOk K a_Web
  kit0 : ∀ n ∈ tyNames, W.kitOne K (.type n) (.ref a_Web) = some false
  kit1 : W.kitOne K (.ref a_Web) (.ref a_Web) = some true
  a_is_name : Addr
  d_is_name : FuncData
  F_is_name : Fun K "is_name" "is_name" s_is_name a_is_name d_is_name
  m_is_name : mg "is_name" = some (.ref a_is_name)
  a_wrong_place : Addr
  d_wrong_place : FuncData
  F_wrong_place : Fun K "wrong_place" "wrong_place" s_wrong_place a_wrong_place d_wrong_place
  m_wrong_place : mg "wrong_place" = some (.ref a_wrong_place)
  a_is_pair : Addr
  d_is_pair : FuncData
  F_is_pair : Fun K "is_pair" "is_pair" s_is_pair a_is_pair d_is_pair
  m_is_pair : mg "is_pair" = some (.ref a_is_pair)
  a_wrong_tie : Addr
  d_wrong_tie : FuncData
  F_wrong_tie : Fun K "wrong_tie" "wrong_tie" s_wrong_tie a_wrong_tie d_wrong_tie
  m_wrong_tie : mg "wrong_tie" = some (.ref a_wrong_tie)
  a_check_places : Addr
  d_check_places : FuncData
  F_check_places : Fun K "check_places" "check_places" s_check_places a_check_places d_check_places
  m_check_places : mg "check_places" = some (.ref a_check_places)
  a_check_ties : Addr
  d_check_ties : FuncData
  F_check_ties : Fun K "check_ties" "check_ties" s_check_ties a_check_ties d_check_ties
  m_check_ties : mg "check_ties" = some (.ref a_check_ties)
  a_Web_init : Addr
  d_Web_init : FuncData
  v_Web_init : V
  F_Web_init : FunD K "__init__" "Web.__init__" (defArgs s_Web_init) (defBody s_Web_init) (defScope s_Web_init) [v_Web_init] [] a_Web_init d_Web_init
  k_Web : Mk K a_Web a_Web_init
  a_Web_has_tie : Addr
  d_Web_has_tie : FuncData
  F_Web_has_tie : Fun K "has_tie" "Web.has_tie" s_Web_has_tie a_Web_has_tie d_Web_has_tie
  h_has_tie : Meth K a_Web "has_tie" a_Web_has_tie
  a_Web_len : Addr
  d_Web_len : FuncData
  F_Web_len : Fun K "__len__" "Web.__len__" s_Web_len a_Web_len d_Web_len
  h___len__ : Meth K a_Web "__len__" a_Web_len
  a_is_tied : Addr
  d_is_tied : FuncData
  F_is_tied : Fun K "is_tied" "is_tied" s_is_tied a_is_tied d_is_tied
  m_is_tied : mg "is_tied" = some (.ref a_is_tied)
  a_first_untiedX : Addr
  d_first_untiedX : FuncData
  F_first_untiedX : Fun K "first_untied" "first_untied" s_first_untiedX a_first_untiedX d_first_untiedX
  m_first_untiedX : mg "first_untied" = some (.ref a_first_untiedX)
  a_check_web : Addr
  d_check_web : FuncData
  F_check_web : Fun K "check_web" "check_web" s_check_web a_check_web d_check_web
  m_check_web : mg "check_web" = some (.ref a_check_web)
  a_all_metX : Addr
  d_all_metX : FuncData
  F_all_metX : Fun K "all_met" "all_met" s_all_metX a_all_metX d_all_metX
  m_all_metX : mg "all_met" = some (.ref a_all_metX)
  a_one_roadD : Addr
  d_one_roadD : FuncData
  F_one_roadD : Fun K "one_road" "one_road" s_one_roadD a_one_roadD d_one_roadD
  m_one_roadD : mg "one_road" = some (.ref a_one_roadD)
  a_roads_overD : Addr
  d_roads_overD : FuncData
  F_roads_overD : Fun K "roads_over" "roads_over" s_roads_overD a_roads_overD d_roads_overD
  m_roads_overD : mg "roads_over" = some (.ref a_roads_overD)
  a_cup_cup : Addr
  d_cup_cup : FuncData
  F_cup_cup : Fun K "_law_cup" "_law_cup" s_cup_cup a_cup_cup d_cup_cup
  m_cup_cup : mg "_law_cup" = some (.ref a_cup_cup)
  a_cup_sip : Addr
  d_cup_sip : FuncData
  F_cup_sip : Fun K "_law_sip" "_law_sip" s_cup_sip a_cup_sip d_cup_sip
  m_cup_sip : mg "_law_sip" = some (.ref a_cup_sip)
  a_cup_of : Addr
  d_cup_of : FuncData
  F_cup_of : Fun K "_law_of" "_law_of" s_cup_of a_cup_of d_cup_of
  m_cup_of : mg "_law_of" = some (.ref a_cup_of)
  a_cup_folkZ : Addr
  d_cup_folkZ : FuncData
  F_cup_folkZ : Fun K "_law_folk" "_law_folk" s_cup_folkZ a_cup_folkZ d_cup_folkZ
  m_cup_folkZ : mg "_law_folk" = some (.ref a_cup_folkZ)
  a_cup_made : Addr
  d_cup_made : FuncData
  F_cup_made : Fun K "_law_made" "_law_made" s_cup_made a_cup_made d_cup_made
  m_cup_made : mg "_law_made" = some (.ref a_cup_made)
  a_k20_once : Addr
  d_k20_once : FuncData
  F_k20_once : Fun K "_law_once" "_law_once" s_k20_once a_k20_once d_k20_once
  m_k20_once : mg "_law_once" = some (.ref a_k20_once)
  a_k20_right : Addr
  d_k20_right : FuncData
  F_k20_right : Fun K "_law_right" "_law_right" s_k20_right a_k20_right d_k20_right
  m_k20_right : mg "_law_right" = some (.ref a_k20_right)
  a_k20_law : Addr
  d_k20_law : FuncData
  F_k20_law : Fun K "law" "law" s_k20_law a_k20_law d_k20_law
  m_k20_law : mg "law" = some (.ref a_k20_law)
  a_g_places : Addr
  d_g_places : FuncData
  F_g_places : Fun K "places" "Web.places" s_g_places a_g_places d_g_places
  q_places : Addr
  p_places : PropOf K a_Web "places" q_places a_g_places
  t_LETTERS : Tok
  m_LETTERS : mg "LETTERS" = some (.str "abcdefghijklmnopqrstuvwxyz" t_LETTERS)
  t_MOST_PLACES : Tok
  m_MOST_PLACES : mg "MOST_PLACES" = some (.int 40 t_MOST_PLACES)
  t_MOST_SMALL : Tok
  m_MOST_SMALL : mg "MOST_SMALL" = some (.int 9 t_MOST_SMALL)
  t_MOST_TIES : Tok
  m_MOST_TIES : mg "MOST_TIES" = some (.int 200 t_MOST_TIES)
  z_abs : mg "abs" = none
  z_all : mg "all" = none
  z_dict : mg "dict" = none
  z_divmod : mg "divmod" = none
  z_enumerate : mg "enumerate" = none
  z_int : mg "int" = none
  z_isinstance : mg "isinstance" = none
  z_len : mg "len" = none
  z_list : mg "list" = none
  z_max : mg "max" = none
  z_min : mg "min" = none
  z_range : mg "range" = none
  z_sorted : mg "sorted" = none
  z_str : mg "str" = none
  z_sum : mg "sum" = none
  z_tuple : mg "tuple" = none
  z_zip : mg "zip" = none
section
variable {P : Program} {w : World} {K : W.Frag} {mg : Str → Option Value} {base : Heap}
theorem isiT_Web (T : Txt P K mg) {X : Cx} (hK : X.K = K) : DC X (.builtin "isinstance") (cIsi (.obj T.a_Web) (fOwn (isi_Web T.a_Web))) := by
  subst hK
  exact dc_isiO T.a_Web _ T.kit0 (fun C b h => by
    unfold isi_Web at h
    split at h
    · rename_i e
      rw [e]
      cases h
      exact ⟨T.ins_Web, T.kit1⟩
    · cases h)
theorem g_places (T : Txt P K mg) : FnOk P w K mg base CX0 1 T.a_g_places T.d_g_places ["self"] (getSp T.a_Web "row") := by
  obtain ⟨oc, od, kV, doc, pm, an, cdv, ct, osl, e, lk, hcd⟩ := T.F_g_places.ex
  rw [e] at lk ⊢
  exact fn_getter lk hcd sc_g_places rfl rfl T.c_Web T.n_row
theorem b_places (T : Txt P K mg) : Binds K T.d_g_places ["self"] [] := T.F_g_places.binds fun _ _ _ _ _ _ us hl => match us, hl with | [_], _ => rfl
theorem b_is_name {f : Addr} {fd : FuncData} (F : Fun K "is_name" "is_name" s_is_name f fd) : Binds K fd ["value"] [] := F.binds fun _ _ _ _ _ _ us hl => match us, hl with | [_], _ => rfl
theorem b_wrong_place {f : Addr} {fd : FuncData} (F : Fun K "wrong_place" "wrong_place" s_wrong_place f fd) : Binds K fd ["values"] [] := F.binds fun _ _ _ _ _ _ us hl => match us, hl with | [_], _ => rfl
theorem b_is_pair {f : Addr} {fd : FuncData} (F : Fun K "is_pair" "is_pair" s_is_pair f fd) : Binds K fd ["places", "value"] [] := F.binds fun _ _ _ _ _ _ us hl => match us, hl with | [_, _], _ => rfl
theorem b_wrong_tie {f : Addr} {fd : FuncData} (F : Fun K "wrong_tie" "wrong_tie" s_wrong_tie f fd) : Binds K fd ["places", "values"] [] := F.binds fun _ _ _ _ _ _ us hl => match us, hl with | [_, _], _ => rfl
theorem b_check_places {f : Addr} {fd : FuncData} (F : Fun K "check_places" "check_places" s_check_places f fd) : Binds K fd ["places"] [] := F.binds fun _ _ _ _ _ _ us hl => match us, hl with | [_], _ => rfl
theorem b_check_ties {f : Addr} {fd : FuncData} (F : Fun K "check_ties" "check_ties" s_check_ties f fd) : Binds K fd ["places", "ties"] [] := F.binds fun _ _ _ _ _ _ us hl => match us, hl with | [_, _], _ => rfl
theorem b_Web_init (T : Txt P K mg) : Binds K T.d_Web_init ["self", "places", "ties"] [] := by
  obtain ⟨ds, h1, h2⟩ := T.F_Web_init.binds1 (ps := ["self", "places", "ties"]) 3 1 (by simp) (by rfl) (fun _ _ _ _ _ _ _ us its hl hi => match us, its, hl, hi with | [_, _, _], [_], _, _ => ⟨_, rfl, rfl⟩)
  cases h1
  exact h2
theorem b_Web_has_tie {f : Addr} {fd : FuncData} (F : Fun K "has_tie" "Web.has_tie" s_Web_has_tie f fd) : Binds K fd ["self", "first", "second"] [] := F.binds fun _ _ _ _ _ _ us hl => match us, hl with | [_, _, _], _ => rfl
theorem b_Web_len {f : Addr} {fd : FuncData} (F : Fun K "__len__" "Web.__len__" s_Web_len f fd) : Binds K fd ["self"] [] := F.binds fun _ _ _ _ _ _ us hl => match us, hl with | [_], _ => rfl
theorem b_is_tied {f : Addr} {fd : FuncData} (F : Fun K "is_tied" "is_tied" s_is_tied f fd) : Binds K fd ["web", "one", "other"] [] := F.binds fun _ _ _ _ _ _ us hl => match us, hl with | [_, _, _], _ => rfl
theorem b_first_untiedX {f : Addr} {fd : FuncData} (F : Fun K "first_untied" "first_untied" s_first_untiedX f fd) : Binds K fd ["web"] [] := F.binds fun _ _ _ _ _ _ us hl => match us, hl with | [_], _ => rfl
theorem b_check_web {f : Addr} {fd : FuncData} (F : Fun K "check_web" "check_web" s_check_web f fd) : Binds K fd ["web"] [] := F.binds fun _ _ _ _ _ _ us hl => match us, hl with | [_], _ => rfl
theorem b_all_metX {f : Addr} {fd : FuncData} (F : Fun K "all_met" "all_met" s_all_metX f fd) : Binds K fd ["web"] [] := F.binds fun _ _ _ _ _ _ us hl => match us, hl with | [_], _ => rfl
theorem b_one_roadD {f : Addr} {fd : FuncData} (F : Fun K "one_road" "one_road" s_one_roadD f fd) : Binds K fd ["web"] [] := F.binds fun _ _ _ _ _ _ us hl => match us, hl with | [_], _ => rfl
theorem b_roads_overD {f : Addr} {fd : FuncData} (F : Fun K "roads_over" "roads_over" s_roads_overD f fd) : Binds K fd ["web"] [] := F.binds fun _ _ _ _ _ _ us hl => match us, hl with | [_], _ => rfl
theorem b_cup_cup {f : Addr} {fd : FuncData} (F : Fun K "_law_cup" "_law_cup" s_cup_cup f fd) : Binds K fd ["_law_script", "_law_k"] [] := F.binds fun _ _ _ _ _ _ us hl => match us, hl with | [_, _], _ => rfl
theorem b_cup_sip {f : Addr} {fd : FuncData} (F : Fun K "_law_sip" "_law_sip" s_cup_sip f fd) : Binds K fd ["_law_cup_here", "_law_many"] [] := F.binds fun _ _ _ _ _ _ us hl => match us, hl with | [_, _], _ => rfl
theorem b_cup_of {f : Addr} {fd : FuncData} (F : Fun K "_law_of" "_law_of" s_cup_of f fd) : Binds K fd ["_law_cup_here", "_law_things"] [] := F.binds fun _ _ _ _ _ _ us hl => match us, hl with | [_, _], _ => rfl
theorem b_cup_folkZ {f : Addr} {fd : FuncData} (F : Fun K "_law_folk" "_law_folk" s_cup_folkZ f fd) : Binds K fd ["_law_cup_here", "_law_many"] [] := F.binds fun _ _ _ _ _ _ us hl => match us, hl with | [_, _], _ => rfl
theorem b_cup_made {f : Addr} {fd : FuncData} (F : Fun K "_law_made" "_law_made" s_cup_made f fd) : Binds K fd ["_law_net"] [] := F.binds fun _ _ _ _ _ _ us hl => match us, hl with | [_], _ => rfl
theorem b_k20_once {f : Addr} {fd : FuncData} (F : Fun K "_law_once" "_law_once" s_k20_once f fd) : Binds K fd ["_law_cup_here", "_law_most"] [] := F.binds fun _ _ _ _ _ _ us hl => match us, hl with | [_, _], _ => rfl
theorem b_k20_right {f : Addr} {fd : FuncData} (F : Fun K "_law_right" "_law_right" s_k20_right f fd) : Binds K fd ["_law_cup_here"] [] := F.binds fun _ _ _ _ _ _ us hl => match us, hl with | [_], _ => rfl
/-! ### each def keeps its promise -/
theorem ok_is_name (T : Txt P K mg) : FnD P w K mg base 1 T.a_is_name T.d_is_name ["value"] (sp_is_name T.a_Web) := by
  refine fnD_ok (w0 := w_is_name T.a_Web) (fun_at T.F_is_name) sc_is_name (len_is_name _) (fun cdv A outer s H E hr hg => ?_) (pure_is_name T.a_Web)
  exact (dss_one (ds_ret (de_and (de_callB (dc_isiT "str" [] (by decide) (fun _ h => nomatch h)) (by rfl) T.z_isinstance boot_isinstance (da_cons (de_v 0) (da_cons (de_bT T.z_str boot_str) da_nil))) (de_and (de_ch do_lt do_lt de_int (de_callB dc_len (by rfl) T.z_len boot_len (da_cons (de_v 0) da_nil)) de_int) (de_one (de_callB (dc_all rfl) (by rfl) T.z_all boot_all (da_cons (de_lcP rfl sc_is_name.nd (di_str (de_v 0)) (own := [("sign", 1)]) (nt := (.n 1)) (blkOk_by (by kernel_rfl)) (by decide) (fun _ _ _ _ _ => (pg_name (i := 1) sc_is_name.nd rfl (.inl rfl))) (fun _ _ _ _ _ => dts_nil) (fun _ _ _ _ _ => (de_c (do_in (u65 hr)) (de_v 1) (de_gS T.m_LETTERS)))) da_nil)))))))
theorem ok_wrong_place (T : Txt P K mg) : FnD P w K mg base 2 T.a_wrong_place T.d_wrong_place ["values"] (sp_wrong_place T.a_Web) := by
  refine fnD_ok (w0 := w_wrong_place T.a_Web) (fun_at T.F_wrong_place) sc_wrong_place (len_wrong_place _) (fun cdv A outer s H E hr hg => ?_) (pure_wrong_place T.a_Web)
  exact (dss_cons (ds_for PassesOwn.never rfl (di_enum T.z_enumerate (da_cons (de_v 0) da_nil)) (dg_tup rfl (dgs_cons (dg_v (i := 1) sc_wrong_place.nd) (dgs_cons (dg_v (i := 2) sc_wrong_place.nd) dgs_nil))) (dss_one (ds_if (dw_pt (dw_or (dt_c (do_eq (u65 hr)) (de_v 1) (de_gI T.m_MOST_PLACES)) (dw_or (dt_not (dt_b (de_fn (FnG.up (ok_is_name T) (by decide)) hr hg T.m_is_name T.F_is_name.kp (b_is_name T.F_is_name) .nil lits_nil (da_cons (de_v 2) da_nil)))) (dw_or1 (dt_c (do_in (u65 hr)) (de_v 2) (de_sl (de_v 0) dp_none (dp_some (de_v 1)))))))) (dss_one (ds_ret (de_v 1))) dss_nil)))
    (dss_one (ds_ret de_non)))
theorem ok_is_pair (T : Txt P K mg) : FnD P w K mg base 1 T.a_is_pair T.d_is_pair ["places", "value"] (sp_is_pair T.a_Web) := by
  refine fnD_ok (w0 := w_is_pair T.a_Web) (fun_at T.F_is_pair) sc_is_pair (len_is_pair _) (fun cdv A outer s H E hr hg => ?_) (pure_is_pair T.a_Web)
  exact (dss_cons (ds_if (dw_pt (dw_or (dt_not (dt_b (de_callB (dc_isiT "tuple" [] (by decide) (fun _ h => nomatch h)) (by rfl) T.z_isinstance boot_isinstance (da_cons (de_v 1) (da_cons (de_bT T.z_tuple boot_tuple) da_nil))))) (dw_or1 (dt_c (do_ne (u65 hr)) (de_callB dc_len (by rfl) T.z_len boot_len (da_cons (de_v 1) da_nil)) de_int)))) (dss_one (ds_ret de_bl)) dss_nil)
    (dss_one (ds_ret (de_and (de_callB (dc_all rfl) (by rfl) T.z_all boot_all (da_cons (de_lcP rfl sc_is_pair.nd (di_seq (de_v 1)) (own := [("place", 2)]) (nt := (.n 2)) (blkOk_by (by kernel_rfl)) (by decide) (fun _ _ _ _ _ => (pg_name (i := 2) sc_is_pair.nd rfl (.inl rfl))) (fun _ _ _ _ _ => dts_nil) (fun _ _ _ _ _ => (de_and (de_callB (dc_isiT "str" [] (by decide) (fun _ h => nomatch h)) (by rfl) T.z_isinstance boot_isinstance (da_cons (de_v 2) (da_cons (de_bT T.z_str boot_str) da_nil))) (de_one (de_c (do_in (u65 hr)) (de_v 2) (de_v 0)))))) da_nil)) (de_one (de_c (do_ne (u65 hr)) (de_ix (u65 hr) (de_v 1) de_int) (de_ix (u65 hr) (de_v 1) de_int)))))))
theorem ok_wrong_tie (T : Txt P K mg) : FnD P w K mg base 2 T.a_wrong_tie T.d_wrong_tie ["places", "values"] (sp_wrong_tie T.a_Web) := by
  refine fnD_ok (w0 := w_wrong_tie T.a_Web) (fun_at T.F_wrong_tie) sc_wrong_tie (len_wrong_tie _) (fun cdv A outer s H E hr hg => ?_) (pure_wrong_tie T.a_Web)
  exact (dss_cons (ds_set (i := 2) sc_wrong_tie.nd de_dnewT)
    (dss_cons (ds_for PassesOwn.never rfl (di_enum T.z_enumerate (da_cons (de_v 1) da_nil)) (dg_tup rfl (dgs_cons (dg_v (i := 3) sc_wrong_tie.nd) (dgs_cons (dg_v (i := 4) sc_wrong_tie.nd) dgs_nil))) (dss_cons (ds_if (dw_pt (dw_or (dt_c (do_eq (u65 hr)) (de_v 3) (de_gI T.m_MOST_TIES)) (dw_or (dt_not (dt_b (de_fn (FnG.up (ok_is_pair T) (by decide)) hr hg T.m_is_pair T.F_is_pair.kp (b_is_pair T.F_is_pair) .nil lits_nil (da_cons (de_v 0) (da_cons (de_v 4) da_nil))))) (dw_or1 (dt_c (do_in (u65 hr)) (de_v 4) (de_v 2)))))) (dss_one (ds_ret (de_v 3))) dss_nil)
    (dss_one (ds_sub (u65 hr) (de_v 2) (de_v 4) de_bl))))
    (dss_one (ds_ret de_non))))
theorem ok_check_places (T : Txt P K mg) : FnD P w K mg base 3 T.a_check_places T.d_check_places ["places"] (sp_check_places T.a_Web) := by
  refine fnD_ok (w0 := w_check_places T.a_Web) (fun_at T.F_check_places) sc_check_places (len_check_places _) (fun cdv A outer s H E hr hg => ?_) (pure_check_places T.a_Web)
  exact (dss_cons (ds_if (dw_pt (dw_or (dt_not (dt_b (de_callB (dc_isiT "tuple" [] (by decide) (fun _ h => nomatch h)) (by rfl) T.z_isinstance boot_isinstance (da_cons (de_v 0) (da_cons (de_bT T.z_tuple boot_tuple) da_nil))))) (dw_or1 (dt_c (do_eq (u65 hr)) (de_v 0) (de_tup da_nil))))) (dss_one ds_never) dss_nil)
    (dss_cons (ds_set (i := 1) sc_check_places.nd (de_fn (FnG.up (ok_wrong_place T) (by decide)) hr hg T.m_wrong_place T.F_wrong_place.kp (b_wrong_place T.F_wrong_place) .nil lits_nil (da_cons (de_v 0) da_nil)))
    (dss_one (ds_if (dt_c do_notN (de_v 1) de_non) (dss_one ds_never) dss_nil))))
theorem ok_check_ties (T : Txt P K mg) : FnD P w K mg base 3 T.a_check_ties T.d_check_ties ["places", "ties"] (sp_check_ties T.a_Web) := by
  refine fnD_ok (w0 := w_check_ties T.a_Web) (fun_at T.F_check_ties) sc_check_ties (len_check_ties _) (fun cdv A outer s H E hr hg => ?_) (pure_check_ties T.a_Web)
  exact (dss_cons (ds_if (dt_not (dt_b (de_callB (dc_isiT "tuple" [] (by decide) (fun _ h => nomatch h)) (by rfl) T.z_isinstance boot_isinstance (da_cons (de_v 1) (da_cons (de_bT T.z_tuple boot_tuple) da_nil))))) (dss_one ds_never) dss_nil)
    (dss_cons (ds_set (i := 2) sc_check_ties.nd (de_fn (FnG.up (ok_wrong_tie T) (by decide)) hr hg T.m_wrong_tie T.F_wrong_tie.kp (b_wrong_tie T.F_wrong_tie) .nil lits_nil (da_cons (de_v 0) (da_cons (de_v 1) da_nil))))
    (dss_one (ds_if (dt_c do_notN (de_v 2) de_non) (dss_one ds_never) dss_nil))))
theorem ok_Web_init (T : Txt P K mg) : FnD P w K mg base 4 T.a_Web_init T.d_Web_init ["self", "places", "ties"] (sp_Web_init T.a_Web) := by
  refine fnD_ok (w0 := w_Web_init T.a_Web) (funD_at T.F_Web_init) sc_Web_init (len_Web_init _) (fun cdv A outer s H E hr hg => ?_) (pure_Web_init T.a_Web)
  exact (dss_cons (ds_expr (de_fn (FnG.up (ok_check_places T) (by decide)) hr hg T.m_check_places T.F_check_places.kp (b_check_places T.F_check_places) .nil lits_nil (da_cons (de_v 1) da_nil)))
    (dss_cons (ds_expr (de_fn (FnG.up (ok_check_ties T) (by decide)) hr hg T.m_check_ties T.F_check_ties.kp (b_check_ties T.F_check_ties) .nil lits_nil (da_cons (de_v 1) (da_cons (de_v 2) da_nil))))
    (dss_cons (ds_setF T.c_Web T.n_row (de_v 0) (de_v 1))
    (dss_cons (ds_setF T.c_Web T.n_pairs (de_v 0) (de_v 2))
    (dss_one (ds_setF T.c_Web T.n_marks (de_v 0) (de_dcP (t := true) (u65 hr) rfl sc_Web_init.nd (di_seq (de_v 2)) (own := [("tie", 3)]) (nt := (.n 3)) (blkOk_by (by kernel_rfl)) (by decide) (fun _ _ _ _ _ => (pg_name (i := 3) sc_Web_init.nd rfl (.inl rfl))) (fun _ _ _ _ _ => dts_nil) (fun _ _ _ _ _ => (de_v 3)) (fun _ _ _ _ _ => de_bl))))))))
theorem ok_Web_has_tie (T : Txt P K mg) : FnD P w K mg base 1 T.a_Web_has_tie T.d_Web_has_tie ["self", "first", "second"] (sp_Web_has_tie T.a_Web) := by
  refine fnD_ok (w0 := w_Web_has_tie T.a_Web) (fun_at T.F_Web_has_tie) sc_Web_has_tie (len_Web_has_tie _) (fun cdv A outer s H E hr hg => ?_) (pure_Web_has_tie T.a_Web)
  exact (dss_one (ds_ret (de_c (do_in (u65 hr)) (de_tup (da_cons (de_v 1) (da_cons (de_v 2) da_nil))) (de_fld T.c_Web T.n_marks (de_v 0)))))
theorem ok_Web_len (T : Txt P K mg) : FnD P w K mg base 1 T.a_Web_len T.d_Web_len ["self"] (sp_Web_len T.a_Web) := by
  refine fnD_ok (w0 := w_Web_len T.a_Web) (fun_at T.F_Web_len) sc_Web_len (len_Web_len _) (fun cdv A outer s H E hr hg => ?_) (pure_Web_len T.a_Web)
  exact (dss_one (ds_ret (de_callB dc_len (by rfl) T.z_len boot_len (da_cons (de_fld T.c_Web T.n_row (de_v 0)) da_nil))))
theorem ok_is_tied (T : Txt P K mg) : FnD P w K mg base 2 T.a_is_tied T.d_is_tied ["web", "one", "other"] (sp_is_tied T.a_Web) := by
  refine fnD_ok (w0 := w_is_tied T.a_Web) (fun_at T.F_is_tied) sc_is_tied (len_is_tied _) (fun cdv A outer s H E hr hg => ?_) (pure_is_tied T.a_Web)
  exact (dss_one (ds_ret (de_or (de_meth (de_v 0) T.c_Web T.h_has_tie (FnG.up (ok_Web_has_tie T) (by decide)) hr hg (b_Web_has_tie T.F_Web_has_tie) .nil lits_nil (da_cons (de_v 1) (da_cons (de_v 2) da_nil))) (de_one (de_meth (de_v 0) T.c_Web T.h_has_tie (FnG.up (ok_Web_has_tie T) (by decide)) hr hg (b_Web_has_tie T.F_Web_has_tie) .nil lits_nil (da_cons (de_v 2) (da_cons (de_v 1) da_nil)))))))
theorem ok_first_untiedX (T : Txt P K mg) : FnD P w K mg base 3 T.a_first_untiedX T.d_first_untiedX ["web"] (sp_first_untiedX T.a_Web) := by
  refine fnD_ok (w0 := w_first_untiedX T.a_Web) (fun_at T.F_first_untiedX) sc_first_untiedX (len_first_untiedX _) (fun cdv A outer s H E hr hg => ?_) (pure_first_untiedX T.a_Web)
  exact (dss_cons (ds_for PassesOwn.never rfl (di_enum T.z_enumerate (da_cons (de_prop T.c_Web T.p_places (g_places T) (hr.mono (by decide)) (b_places T) (de_v 0)) da_nil)) (dg_tup rfl (dgs_cons (dg_v (i := 1) sc_first_untiedX.nd) (dgs_cons (dg_v (i := 2) sc_first_untiedX.nd) dgs_nil))) (dss_one (ds_for PassesOwn.never rfl (di_seq (de_sl (de_prop T.c_Web T.p_places (g_places T) (hr.mono (by decide)) (b_places T) (de_v 0)) (dp_some (de_o do_add (de_v 1) de_int)) dp_none)) (dg_v (i := 3) sc_first_untiedX.nd) (dss_one (ds_if (dt_not (dt_b (de_fn (FnG.up (ok_is_tied T) (by decide)) hr hg T.m_is_tied T.F_is_tied.kp (b_is_tied T.F_is_tied) .nil lits_nil (da_cons (de_v 0) (da_cons (de_v 2) (da_cons (de_v 3) da_nil)))))) (dss_one (ds_ret (de_tup (da_cons (de_v 2) (da_cons (de_v 3) da_nil))))) dss_nil)))))
    (dss_one (ds_ret de_non)))
theorem ok_check_web (T : Txt P K mg) : FnD P w K mg base 1 T.a_check_web T.d_check_web ["web"] (sp_check_web T.a_Web) := by
  refine fnD_ok (w0 := w_check_web T.a_Web) (fun_at T.F_check_web) sc_check_web (len_check_web _) (fun cdv A outer s H E hr hg => ?_) (pure_check_web T.a_Web)
  exact (dss_one (ds_if (dt_not (dt_b (de_callB (isiT_Web T rfl) (by rfl) T.z_isinstance boot_isinstance (da_cons (de_v 0) (da_cons (de_gC T.m_Web) da_nil))))) (dss_one ds_never) dss_nil))
theorem ok_all_metX (T : Txt P K mg) : FnD P w K mg base 4 T.a_all_metX T.d_all_metX ["web"] (sp_all_metX T.a_Web) := by
  refine fnD_ok (w0 := w_all_metX T.a_Web) (fun_at T.F_all_metX) sc_all_metX (len_all_metX _) (fun cdv A outer s H E hr hg => ?_) (pure_all_metX T.a_Web)
  exact (dss_cons (ds_expr (de_fn (FnG.up (ok_check_web T) (by decide)) hr hg T.m_check_web T.F_check_web.kp (b_check_web T.F_check_web) .nil lits_nil (da_cons (de_v 0) da_nil)))
    (dss_one (ds_ret (de_c do_isN (de_fn (FnG.up (ok_first_untiedX T) (by decide)) hr hg T.m_first_untiedX T.F_first_untiedX.kp (b_first_untiedX T.F_first_untiedX) .nil lits_nil (da_cons (de_v 0) da_nil)) de_non))))
theorem ok_one_roadD (T : Txt P K mg) : FnD P w K mg base 4 T.a_one_roadD T.d_one_roadD ["web"] (sp_one_roadD T.a_Web) := by
  refine fnD_ok (w0 := w_one_roadD T.a_Web) (fun_at T.F_one_roadD) sc_one_roadD (len_one_roadD _) (fun cdv A outer s H E hr hg => ?_) (pure_one_roadD T.a_Web)
  exact (dss_cons (ds_expr (de_fn (FnG.up (ok_check_web T) (by decide)) hr hg T.m_check_web T.F_check_web.kp (b_check_web T.F_check_web) .nil lits_nil (da_cons (de_v 0) da_nil)))
    (dss_cons (ds_set (i := 1) sc_one_roadD.nd (de_fn (FnG.up (ok_first_untiedX T) (by decide)) hr hg T.m_first_untiedX T.F_first_untiedX.kp (b_first_untiedX T.F_first_untiedX) .nil lits_nil (da_cons (de_v 0) da_nil)))
    (dss_cons (ds_if (dt_c do_notN (de_v 1) de_non) (dss_one ds_never) dss_nil)
    (dss_cons (ds_set (i := 2) sc_one_roadD.nd (de_new da_nil))
    (dss_cons (ds_for PassesOwn.never rfl (di_seq (de_prop T.c_Web T.p_places (g_places T) (hr.mono (by decide)) (b_places T) (de_v 0))) (dg_v (i := 3) sc_one_roadD.nd) (dss_cons (ds_setLcP (i := 4) rfl sc_one_roadD.nd (di_enum T.z_enumerate (da_cons (de_v 2) da_nil)) (own := [("index", 5), ("other", 6)]) (nt := (.t [5, 6])) (blkOk_by (by kernel_rfl)) (by decide) (fun _ _ _ _ _ => (pg_tup rfl (pgs_cons (pg_name (i := 5) sc_one_roadD.nd rfl (.inl rfl)) (pgs_cons (pg_name (i := 6) sc_one_roadD.nd rfl (.inl rfl)) pgs_nil)))) (fun _ _ _ _ _ => (dts_one (dt_b (de_meth (de_v 0) T.c_Web T.h_has_tie (FnG.up (ok_Web_has_tie T) (by decide)) hr hg (b_Web_has_tie T.F_Web_has_tie) .nil lits_nil (da_cons (de_v 3) (da_cons (de_v 6) da_nil)))))) (fun _ _ _ _ _ => (de_v 5)))
    (dss_one (ds_expr (de_bm dm_insert F.plainAttrs_list F.slot_list_insert F.type_list_insert (de_v 2) (da_cons (de_if (dt_c (do_ne (u65 hr)) (de_v 4) (de_lst da_nil)) (de_ix (u65 hr) (de_v 4) de_int) (de_callB dc_len (by rfl) T.z_len boot_len (da_cons (de_v 2) da_nil))) (da_cons (de_v 3) da_nil)))))))
    (dss_one (ds_ret (de_callTy dc_tuple (by rfl) T.z_tuple boot_tuple (da_cons (de_v 2) da_nil)))))))))
theorem ok_roads_overD (T : Txt P K mg) : FnD P w K mg base 3 T.a_roads_overD T.d_roads_overD ["web"] (sp_roads_overD T.a_Web) := by
  refine fnD_ok (w0 := w_roads_overD T.a_Web) (fun_at T.F_roads_overD) sc_roads_overD (len_roads_overD _) (fun cdv A outer s H E hr hg => ?_) (pure_roads_overD T.a_Web)
  exact (dss_cons (ds_expr (de_fn (FnG.up (ok_check_web T) (by decide)) hr hg T.m_check_web T.F_check_web.kp (b_check_web T.F_check_web) .nil lits_nil (da_cons (de_v 0) da_nil)))
    (dss_cons (ds_if (dt_c do_gt (de_callB (dc_lenO T.h___len__.at_ T.h___len__.fn (ok_Web_len T) (hr.mono (by decide)) hg (b_Web_len T.F_Web_len)) (by rfl) T.z_len boot_len (da_cons (de_v 0) da_nil)) (de_gI T.m_MOST_SMALL)) (dss_one ds_never) dss_nil)
    (dss_all _ (dss_cons (ds_setDcN (i := 1) (u65 hr) rfl sc_roads_overD.nd (di_seq (de_prop T.c_Web T.p_places (g_places T) (hr.mono (by decide)) (b_places T) (de_v 0))) (own := [("place", 7)]) (nt := (.n 7)) (blkOk_by (by kernel_rfl)) (by decide) (fun _ _ _ _ _ => (pg_name (i := 7) sc_roads_overD.nd rfl (.inl rfl))) (fun _ _ _ _ _ => dts_nil) (fun _ _ _ _ _ => (de_tup (da_cons (de_tup (da_cons (de_v 7) da_nil)) (da_cons (de_v 7) da_nil)))) (fun _ _ _ _ _ => de_int))
    (dss_cons (ds_for PassesOwn.never rfl (di_rng1 T.z_range (da_cons (de_o do_sub (de_callB (dc_lenO T.h___len__.at_ T.h___len__.fn (ok_Web_len T) (hr.mono (by decide)) hg (b_Web_len T.F_Web_len)) (by rfl) T.z_len boot_len (da_cons (de_v 0) da_nil)) de_int) da_nil)) (dg_v (i := 2) sc_roads_overD.nd) (dss_cons (ds_set (i := 3) sc_roads_overD.nd de_ndNew)
    (dss_cons (ds_for PassesOwn.never rfl (di_itemsN (de_v 1)) (dg_tup rfl (dgs_cons (dg_tup rfl (dgs_cons (dg_v (i := 4) sc_roads_overD.nd) (dgs_cons (dg_v (i := 5) sc_roads_overD.nd) dgs_nil))) (dgs_cons (dg_v (i := 6) sc_roads_overD.nd) dgs_nil))) (dss_one (ds_for PassesOwn.never rfl (di_seq (de_prop T.c_Web T.p_places (g_places T) (hr.mono (by decide)) (b_places T) (de_v 0))) (dg_v (i := 7) sc_roads_overD.nd) (dss_one (ds_if (dw_pt (dw_and (dt_c (do_notIn (u65 hr)) (de_v 7) (de_v 4)) (dw_and1 (dt_b (de_meth (de_v 0) T.c_Web T.h_has_tie (FnG.up (ok_Web_has_tie T) (by decide)) hr hg (b_Web_has_tie T.F_Web_has_tie) .nil lits_nil (da_cons (de_v 5) (da_cons (de_v 7) da_nil))))))) (dss_cons (ds_set (i := 8) sc_roads_overD.nd (de_tup (da_cons (de_callTy dc_tuple (by rfl) T.z_tuple boot_tuple (da_cons (de_callB dc_sorted (by rfl) T.z_sorted boot_sorted (da_cons (de_lst (da_star (de_v 4) (da_cons (de_v 7) da_nil))) da_nil)) da_nil)) (da_cons (de_v 7) da_nil))))
    (dss_one (ds_ndPut (u65 hr) (de_v 3) (de_v 8) (de_o do_add (de_ndGet (u65 hr) (de_v 3) (de_v 8) de_int ⟨rfl, rfl, rfl, rfl⟩) (de_v 6))))) dss_nil)))))
    (dss_one (ds_set (i := 1) sc_roads_overD.nd (de_v 3))))))
    (dss_one (ds_ret (de_callB (dc_sum rfl) (by rfl) T.z_sum boot_sum (da_cons (de_listVN rfl T.z_list (de_v 1)) da_nil)))))))))
theorem ok_cup_cup (T : Txt P K mg) : FnD P w K mg base 1 T.a_cup_cup T.d_cup_cup ["_law_script", "_law_k"] (sp_cup_cup T.a_Web) := by
  refine fnD_ok (w0 := w_cup_cup T.a_Web) (fun_at T.F_cup_cup) sc_cup_cup (len_cup_cup _) (fun cdv A outer s H E hr hg => ?_) (pure_cup_cup T.a_Web)
  exact (dss_cons (ds_set (i := 2) sc_cup_cup.nd (de_if (dt_c do_lt (de_v 1) (de_callB dc_len (by rfl) T.z_len boot_len (da_cons (de_v 0) da_nil))) (de_callTy dc_int (by rfl) T.z_int boot_int (da_cons (de_ix (u65 hr) (de_v 0) (de_v 1)) da_nil)) (de_o do_add (de_o do_mul de_int (de_v 1)) de_int)))
    (dss_cons (ds_set (i := 3) sc_cup_cup.nd (de_o do_add de_int (de_o do_mul de_int (de_v 1))))
    (dss_cons (ds_for PassesOwn.never rfl (di_seq (de_o do_add (de_sl (de_v 0) dp_none (dp_some de_int)) (de_lst (da_cons (de_v 2) da_nil)))) (dg_v (i := 4) sc_cup_cup.nd) (dss_one (ds_set (i := 3) sc_cup_cup.nd (de_o do_mod (de_callTy dc_int (by rfl) T.z_int boot_int (da_cons (de_o do_add (de_o do_mul (de_v 3) de_int) (de_callTy dc_int (by rfl) T.z_int boot_int (da_cons (de_v 4) da_nil))) da_nil)) de_int))))
    (dss_one (ds_ret (de_new (da_cons (de_if (dw_pt (dw_or (dt_c do_lt (de_v 2) de_int) (dw_or1 (dt_c do_ge (de_v 2) (de_o do_pow de_int de_int))))) (de_callB dc_abs (by rfl) T.z_abs boot_abs (da_cons (de_v 2) da_nil)) de_int) (da_cons (de_v 3) (da_cons de_int da_nil)))))))))
theorem ok_cup_sip (T : Txt P K mg) : FnD P w K mg base 1 T.a_cup_sip T.d_cup_sip ["_law_cup_here", "_law_many"] (sp_cup_sip T.a_Web) := by
  refine fnD_ok (w0 := w_cup_sip T.a_Web) (fun_at T.F_cup_sip) sc_cup_sip (len_cup_sip _) (fun cdv A outer s H E hr hg => ?_) (pure_cup_sip T.a_Web)
  exact (dss_cons (ds_sub (u65 hr) (de_v 0) de_int (de_o do_add (de_ix (u65 hr) (de_v 0) de_int) de_int))
    (dss_cons (ds_set (i := 2) sc_cup_sip.nd (de_callTy dc_int (by rfl) T.z_int boot_int (da_cons (de_ix (u65 hr) (de_v 0) de_int) da_nil)))
    (dss_cons (ds_sub (u65 hr) (de_v 0) de_int (de_o do_mod (de_callTy dc_int (by rfl) T.z_int boot_int (da_cons (de_o do_add (de_o do_add (de_o do_mul (de_v 2) (de_o do_add (de_o do_mod (de_callTy dc_int (by rfl) T.z_int boot_int (da_cons (de_v 2) da_nil)) de_int) de_int)) (de_o do_mul de_int (de_ix (u65 hr) (de_v 0) de_int))) de_int) da_nil)) de_int))
    (dss_cons (ds_if (dt_c do_gt (de_ix (u65 hr) (de_v 0) de_int) de_int) (dss_cons (ds_asg (de_callB dc_divmod (by rfl) T.z_divmod boot_divmod (da_cons (de_ix (u65 hr) (de_v 0) de_int) (da_cons (de_v 1) da_nil))) (dg_tup rfl (dgs_cons (dg_sub (pset_sub (u65 hr)) (de_v 0) de_int) (dgs_cons (dg_v (i := 3) sc_cup_sip.nd) dgs_nil))))
    (dss_one (ds_ret (de_v 3)))) dss_nil)
    (dss_one (ds_ret (de_o do_mod (de_callTy dc_int (by rfl) T.z_int boot_int (da_cons (de_o do_div (de_ix (u65 hr) (de_v 0) de_int) de_int) da_nil)) (de_v 1))))))))
theorem ok_cup_of (T : Txt P K mg) : FnD P w K mg base 2 T.a_cup_of T.d_cup_of ["_law_cup_here", "_law_things"] (sp_cup_of T.a_Web) := by
  refine fnD_ok (w0 := w_cup_of T.a_Web) (fun_at T.F_cup_of) sc_cup_of (len_cup_of _) (fun cdv A outer s H E hr hg => ?_) (pure_cup_of T.a_Web)
  exact (dss_one (ds_ret (de_ix (u65 hr) (de_v 1) (de_fn (FnG.up (ok_cup_sip T) (by decide)) hr hg T.m_cup_sip T.F_cup_sip.kp (b_cup_sip T.F_cup_sip) .nil lits_nil (da_cons (de_v 0) (da_cons (de_callB dc_len (by rfl) T.z_len boot_len (da_cons (de_v 1) da_nil)) da_nil))))))
theorem ok_cup_folkZ (T : Txt P K mg) : FnD P w K mg base 2 T.a_cup_folkZ T.d_cup_folkZ ["_law_cup_here", "_law_many"] (sp_cup_folkZ T.a_Web) := by
  refine fnD_ok (w0 := w_cup_folkZ T.a_Web) (fun_at T.F_cup_folkZ) sc_cup_folkZ (len_cup_folkZ _) (fun cdv A outer s H E hr hg => ?_) (pure_cup_folkZ T.a_Web)
  exact (dss_cons (ds_set (i := 2) sc_cup_folkZ.nd (de_fn (FnG.up (ok_cup_sip T) (by decide)) hr hg T.m_cup_sip T.F_cup_sip.kp (b_cup_sip T.F_cup_sip) .nil lits_nil (da_cons (de_v 0) (da_cons de_int da_nil))))
    (dss_cons (ds_if (dw_pt (dw_and (dt_c (do_eq (u65 hr)) (de_fn (FnG.up (ok_cup_sip T) (by decide)) hr hg T.m_cup_sip T.F_cup_sip.kp (b_cup_sip T.F_cup_sip) .nil lits_nil (da_cons (de_v 0) (da_cons de_int da_nil))) de_int) (dw_and1 (dt_c do_lt (de_v 1) de_int)))) (dss_cons (ds_set (i := 3) sc_cup_folkZ.nd (de_lst (da_cons de_str (da_cons de_str (da_cons de_str (da_cons de_str (da_cons de_str (da_cons de_str (da_cons de_str (da_cons de_str (da_cons de_str (da_cons de_str (da_cons de_str da_nil)))))))))))))
    (dss_cons (ds_set (i := 4) sc_cup_folkZ.nd (de_o do_add de_int (de_fn (FnG.up (ok_cup_sip T) (by decide)) hr hg T.m_cup_sip T.F_cup_sip.kp (b_cup_sip T.F_cup_sip) .nil lits_nil (da_cons (de_v 0) (da_cons de_int da_nil)))))
    (dss_one (ds_ret (de_callTy dc_tupleF (by rfl) T.z_tuple boot_tuple (da_cons (de_lcP rfl sc_cup_folkZ.nd (di_rng1 T.z_range (da_cons (de_v 1) da_nil)) (own := [("_law_k", 8)]) (nt := (.n 8)) (blkOk_by (by kernel_rfl)) (by decide) (fun _ _ _ _ _ => (pg_name (i := 8) sc_cup_folkZ.nd rfl (.inl rfl))) (fun _ _ _ _ _ => dts_nil) (fun _ _ _ _ _ => (de_ix (u65 hr) (de_v 3) (de_o do_mod (de_callTy dc_int (by rfl) T.z_int boot_int (da_cons (de_o do_add (de_v 2) (de_o do_mul (de_v 4) (de_v 8))) da_nil)) de_int)))) da_nil)))))) dss_nil)
    (dss_cons (ds_asg (de_tup (da_cons de_str (da_cons (de_o do_add de_int (de_o do_mul de_int (de_fn (FnG.up (ok_cup_sip T) (by decide)) hr hg T.m_cup_sip T.F_cup_sip.kp (b_cup_sip T.F_cup_sip) .nil lits_nil (da_cons (de_v 0) (da_cons de_int da_nil))))) da_nil))) (dg_tup rfl (dgs_cons (dg_v (i := 5) sc_cup_folkZ.nd) (dgs_cons (dg_v (i := 4) sc_cup_folkZ.nd) dgs_nil))))
    (dss_cons (ds_set (i := 6) sc_cup_folkZ.nd (de_join de_str (de_lcF rfl sc_cup_folkZ.nd (di_rng1 T.z_range (da_cons (de_fn (FnG.up (ok_cup_sip T) (by decide)) hr hg T.m_cup_sip T.F_cup_sip.kp (b_cup_sip T.F_cup_sip) .nil lits_nil (da_cons (de_v 0) (da_cons de_int da_nil))) da_nil)) (own := [("_law_k", 8)]) (nt := (.n 8)) (blkOk_by (by kernel_rfl)) (by decide) (fun _ _ _ _ _ => (pg_name (i := 8) sc_cup_folkZ.nd rfl (.inl rfl))) (fun _ _ _ _ _ => dts_nil) (fun _ _ _ _ _ => (de_ix (u65 hr) (de_v 5) (de_fn (FnG.up (ok_cup_sip T) (by decide)) hr hg T.m_cup_sip T.F_cup_sip.kp (b_cup_sip T.F_cup_sip) .nil lits_nil (da_cons (de_v 0) (da_cons de_int da_nil))))))))
    (dss_cons (ds_set (i := 7) sc_cup_folkZ.nd (de_lst (da_cons de_str (da_cons de_str da_nil))))
    (dss_one (ds_ret (de_callTy dc_tupleF (by rfl) T.z_tuple boot_tuple (da_cons (de_lcP rfl sc_cup_folkZ.nd (di_rng1 T.z_range (da_cons (de_v 1) da_nil)) (own := [("_law_k", 8)]) (nt := (.n 8)) (blkOk_by (by kernel_rfl)) (by decide) (fun _ _ _ _ _ => (pg_name (i := 8) sc_cup_folkZ.nd rfl (.inl rfl))) (fun _ _ _ _ _ => dts_nil) (fun _ _ _ _ _ => (de_o do_add (de_o do_add (de_v 6) (de_ix (u65 hr) (de_v 7) (de_o do_div (de_v 8) de_int))) (de_ix (u65 hr) (de_v 5) (de_o do_mod (de_callTy dc_int (by rfl) T.z_int boot_int (da_cons (de_o do_add (de_v 2) (de_o do_mul (de_v 4) (de_v 8))) da_nil)) de_int))))) da_nil)))))))))
theorem ok_cup_made (T : Txt P K mg) : FnD P w K mg base 6 T.a_cup_made T.d_cup_made ["_law_net"] (sp_cup_made T.a_Web) := by
  refine fnD_ok (w0 := w_cup_made T.a_Web) (fun_at T.F_cup_made) sc_cup_made (len_cup_made _) (fun cdv A outer s H E hr hg => ?_) (pure_cup_made T.a_Web)
  exact (dss_one (ds_ret (de_makeF T.k_Web (ok_Web_init T) (hr.mono (by decide)) hg T.m_Web (b_Web_init T) .nil lits_nil (da_cons (de_ix (u65 hr) (de_v 0) de_int) (da_cons (de_ix (u65 hr) (de_v 0) de_int) da_nil)))))
theorem ok_k20_once (T : Txt P K mg) : FnD P w K mg base 3 T.a_k20_once T.d_k20_once ["_law_cup_here", "_law_most"] (sp_k20_once T.a_Web) := by
  refine fnD_ok (w0 := w_k20_once T.a_Web) (fun_at T.F_k20_once) sc_k20_once (len_k20_once _) (fun cdv A outer s H E hr hg => ?_) (pure_k20_once T.a_Web)
  exact (dss_cons (ds_par (i := 2) (j := 3) rfl sc_k20_once.nd (da_cons (de_fn (FnG.up (ok_cup_folkZ T) (by decide)) hr hg T.m_cup_folkZ T.F_cup_folkZ.kp (b_cup_folkZ T.F_cup_folkZ) .nil lits_nil (da_cons (de_v 0) (da_cons (de_o do_add de_int (de_fn (FnG.up (ok_cup_sip T) (by decide)) hr hg T.m_cup_sip T.F_cup_sip.kp (b_cup_sip T.F_cup_sip) .nil lits_nil (da_cons (de_v 0) (da_cons (de_v 1) da_nil)))) da_nil))) (da_cons (de_new da_nil) da_nil)))
    (dss_cons (ds_for PassesOwn.never rfl (di_rng1 T.z_range (da_cons (de_callB dc_len (by rfl) T.z_len boot_len (da_cons (de_v 2) da_nil)) da_nil)) (dg_v (i := 4) sc_k20_once.nd) (dss_one (ds_for PassesOwn.never rfl (di_rng1 T.z_range (da_cons (de_v 4) da_nil)) (dg_v (i := 5) sc_k20_once.nd) (dss_one (ds_expr (de_bm dm_append F.plainAttrs_list F.slot_list_append F.type_list_append (de_v 3) (da_cons (de_fn (FnG.up (ok_cup_of T) (by decide)) hr hg T.m_cup_of T.F_cup_of.kp (b_cup_of T.F_cup_of) .nil lits_nil (da_cons (de_v 0) (da_cons (de_lst (da_cons (de_tup (da_cons (de_ix (u65 hr) (de_v 2) (de_v 5)) (da_cons (de_ix (u65 hr) (de_v 2) (de_v 4)) da_nil))) (da_cons (de_tup (da_cons (de_ix (u65 hr) (de_v 2) (de_v 4)) (da_cons (de_ix (u65 hr) (de_v 2) (de_v 5)) da_nil))) da_nil))) da_nil))) da_nil)))))))
    (dss_one (ds_ret (de_tup (da_cons (de_v 2) (da_cons (de_callTy dc_tupleF (by rfl) T.z_tuple boot_tuple (da_cons (de_v 3) da_nil)) da_nil)))))))
theorem ok_k20_right (T : Txt P K mg) : FnD P w K mg base 7 T.a_k20_right T.d_k20_right ["_law_cup_here"] (sp_k20_right T.a_Web) := by
  refine fnD_ok (w0 := w_k20_right T.a_Web) (fun_at T.F_k20_right) sc_k20_right (len_k20_right _) (fun cdv A outer s H E hr hg => ?_) (pure_k20_right T.a_Web)
  exact (dss_cons (ds_for PassesOwn.never rfl (di_rng1 T.z_range (da_cons de_int da_nil)) (dg_v (i := 1) sc_k20_right.nd) (dss_cons (ds_set (i := 2) sc_k20_right.nd (de_fn (FnG.up (ok_k20_once T) (by decide)) hr hg T.m_k20_once T.F_k20_once.kp (b_k20_once T.F_k20_once) .nil lits_nil (da_cons (de_v 0) (da_cons (de_fn (FnG.up (ok_cup_of T) (by decide)) hr hg T.m_cup_of T.F_cup_of.kp (b_cup_of T.F_cup_of) .nil lits_nil (da_cons (de_v 0) (da_cons (de_lst (da_cons de_int (da_cons de_int (da_cons de_int (da_cons de_int da_nil))))) da_nil))) da_nil))))
    (dss_cons (ds_set (i := 3) sc_k20_right.nd (de_fn (FnG.up (ok_cup_made T) (by decide)) hr hg T.m_cup_made T.F_cup_made.kp (b_cup_made T.F_cup_made) .nil lits_nil (da_cons (de_v 2) da_nil)))
    (dss_cons (ds_par (i := 4) (j := 5) rfl sc_k20_right.nd (da_cons (de_fn (FnG.up (ok_roads_overD T) (by decide)) hr hg T.m_roads_overD T.F_roads_overD.kp (b_roads_overD T.F_roads_overD) .nil lits_nil (da_cons (de_v 3) da_nil)) (da_cons (de_v 2) da_nil)))
    (dss_cons (ds_if (dw_pt (dw_or (dt_not (dt_b (de_fn (FnG.up (ok_all_metX T) (by decide)) hr hg T.m_all_metX T.F_all_metX.kp (b_all_metX T.F_all_metX) .nil lits_nil (da_cons (de_v 3) da_nil)))) (dw_or (dt_c (do_ne (u65 hr)) (de_o do_mod (de_callTy dc_int (by rfl) T.z_int boot_int (da_cons (de_v 4) da_nil)) de_int) de_int) (dw_or1 (dt_c (do_ne (u65 hr)) (de_callB dc_len (by rfl) T.z_len boot_len (da_cons (de_fn (FnG.up (ok_one_roadD T) (by decide)) hr hg T.m_one_roadD T.F_one_roadD.kp (b_one_roadD T.F_one_roadD) .nil lits_nil (da_cons (de_v 3) da_nil)) da_nil)) (de_callB dc_len (by rfl) T.z_len boot_len (da_cons (de_ix (u65 hr) (de_v 2) de_int) da_nil))))))) (dss_one (ds_ret de_bl)) dss_nil)
    (dss_cons (ds_if (dt_c (do_ne (u65 hr)) (de_ix (u65 hr) (de_v 2) de_int) (de_tup da_nil)) (dss_cons (ds_set (i := 6) sc_k20_right.nd (de_fn (FnG.up (ok_cup_sip T) (by decide)) hr hg T.m_cup_sip T.F_cup_sip.kp (b_cup_sip T.F_cup_sip) .nil lits_nil (da_cons (de_v 0) (da_cons (de_callB dc_len (by rfl) T.z_len boot_len (da_cons (de_ix (u65 hr) (de_v 2) de_int) da_nil)) da_nil))))
    (dss_one (ds_set (i := 5) sc_k20_right.nd (de_tup (da_cons (de_ix (u65 hr) (de_v 2) de_int) (da_cons (de_o do_addG (de_o do_addG (de_slG (de_ix (u65 hr) (de_v 2) de_int) dp_none (dp_some (de_v 6))) (de_tupF (da_cons (de_revU (de_ix (u65 hr) (de_ix (u65 hr) (de_v 2) de_int) (de_v 6))) da_nil))) (de_slG (de_ix (u65 hr) (de_v 2) de_int) (dp_some (de_o do_add (de_v 6) de_int)) dp_none)) da_nil)))))) dss_nil)
    (dss_cons (ds_if (dt_c (do_ne (u65 hr)) (de_o do_mod (de_callTy dc_int (by rfl) T.z_int boot_int (da_cons (de_fn (FnG.up (ok_roads_overD T) (by decide)) hr hg T.m_roads_overD T.F_roads_overD.kp (b_roads_overD T.F_roads_overD) .nil lits_nil (da_cons (de_fn (FnG.up (ok_cup_made T) (by decide)) hr hg T.m_cup_made T.F_cup_made.kp (b_cup_made T.F_cup_made) .nil lits_nil (da_cons (de_v 5) da_nil)) da_nil)) da_nil)) de_int) de_int) (dss_one (ds_ret de_bl)) dss_nil)
    (dss_cons (ds_set (i := 7) sc_k20_right.nd (de_fn (FnG.up (ok_cup_sip T) (by decide)) hr hg T.m_cup_sip T.F_cup_sip.kp (b_cup_sip T.F_cup_sip) .nil lits_nil (da_cons (de_v 0) (da_cons (de_callB dc_len (by rfl) T.z_len boot_len (da_cons (de_ix (u65 hr) (de_v 2) de_int) da_nil)) da_nil))))
    (dss_cons (ds_if (dt_c (do_ne (u65 hr)) (de_fn (FnG.up (ok_roads_overD T) (by decide)) hr hg T.m_roads_overD T.F_roads_overD.kp (b_roads_overD T.F_roads_overD) .nil lits_nil (da_cons (de_makeF T.k_Web (ok_Web_init T) (hr.mono (by decide)) hg T.m_Web (b_Web_init T) .nil lits_nil (da_cons (de_o do_addG (de_slG (de_ix (u65 hr) (de_v 2) de_int) (dp_some (de_v 7)) dp_none) (de_slG (de_ix (u65 hr) (de_v 2) de_int) dp_none (dp_some (de_v 7)))) (da_cons (de_revT (de_ix (u65 hr) (de_v 2) de_int)) da_nil))) da_nil)) (de_v 4)) (dss_one (ds_ret de_bl)) dss_nil)
    (dss_cons (ds_set (i := 8) sc_k20_right.nd (de_dictzipT rfl (by rfl) T.z_dict boot_dict (by rfl) T.z_zip boot_zip (de_ix (u65 hr) (de_v 2) de_int) (de_fn (FnG.up (ok_cup_folkZ T) (by decide)) hr hg T.m_cup_folkZ T.F_cup_folkZ.kp (b_cup_folkZ T.F_cup_folkZ) .nil lits_nil (da_cons (de_v 0) (da_cons (de_callB dc_len (by rfl) T.z_len boot_len (da_cons (de_ix (u65 hr) (de_v 2) de_int) da_nil)) da_nil)))))
    (dss_cons (ds_set (i := 9) sc_k20_right.nd (de_callTy dc_tupleF (by rfl) T.z_tuple boot_tuple (da_cons (de_lcP rfl sc_k20_right.nd (di_seq (de_ix (u65 hr) (de_v 2) de_int)) (own := [("_law_one", 12), ("_law_two", 13)]) (nt := (.t [12, 13])) (blkOk_by (by kernel_rfl)) (by decide) (fun _ _ _ _ _ => (pg_tup rfl (pgs_cons (pg_name (i := 12) sc_k20_right.nd rfl (.inl rfl)) (pgs_cons (pg_name (i := 13) sc_k20_right.nd rfl (.inl rfl)) pgs_nil)))) (fun _ _ _ _ _ => dts_nil) (fun _ _ _ _ _ => (de_tup (da_cons (de_ix (u65 hr) (de_v 8) (de_v 12)) (da_cons (de_ix (u65 hr) (de_v 8) (de_v 13)) da_nil))))) da_nil)))
    (dss_cons (ds_if (dt_c (do_ne (u65 hr)) (de_fn (FnG.up (ok_roads_overD T) (by decide)) hr hg T.m_roads_overD T.F_roads_overD.kp (b_roads_overD T.F_roads_overD) .nil lits_nil (da_cons (de_makeF T.k_Web (ok_Web_init T) (hr.mono (by decide)) hg T.m_Web (b_Web_init T) .nil lits_nil (da_cons (de_callTy dc_tupleF (by rfl) T.z_tuple boot_tuple (da_cons (de_lcP rfl sc_k20_right.nd (di_seq (de_ix (u65 hr) (de_v 2) de_int)) (own := [("_law_each", 14)]) (nt := (.n 14)) (blkOk_by (by kernel_rfl)) (by decide) (fun _ _ _ _ _ => (pg_name (i := 14) sc_k20_right.nd rfl (.inl rfl))) (fun _ _ _ _ _ => dts_nil) (fun _ _ _ _ _ => (de_ix (u65 hr) (de_v 8) (de_v 14)))) da_nil)) (da_cons (de_v 9) da_nil))) da_nil)) (de_v 4)) (dss_one (ds_ret de_bl)) dss_nil)
    (dss_one (ds_if (dt_c do_lt (de_callB dc_len (by rfl) T.z_len boot_len (da_cons (de_ix (u65 hr) (de_v 2) de_int) da_nil)) de_int) (dss_cons (ds_set (i := 10) sc_k20_right.nd (de_lst (da_cons (de_callTy dc_tupleF (by rfl) T.z_tuple boot_tuple (da_cons (de_lcP rfl sc_k20_right.nd (di_seq (de_ix (u65 hr) (de_v 2) de_int)) (own := [("_law_each", 14)]) (nt := (.n 14)) (blkOk_by (by kernel_rfl)) (by decide) (fun _ _ _ _ _ => (pg_name (i := 14) sc_k20_right.nd rfl (.inl rfl))) (fun _ _ _ _ _ => dts_nil) (fun _ _ _ _ _ => (de_tup (da_cons de_str (da_cons (de_v 14) da_nil))))) da_nil)) (da_cons (de_callTy dc_tupleF (by rfl) T.z_tuple boot_tuple (da_cons (de_lcP rfl sc_k20_right.nd (di_seq (de_ix (u65 hr) (de_v 2) de_int)) (own := [("_law_each", 14)]) (nt := (.n 14)) (blkOk_by (by kernel_rfl)) (by decide) (fun _ _ _ _ _ => (pg_name (i := 14) sc_k20_right.nd rfl (.inl rfl))) (fun _ _ _ _ _ => dts_nil) (fun _ _ _ _ _ => (de_tup (da_cons (de_v 14) (da_cons de_str da_nil))))) da_nil)) da_nil))))
    (dss_one (ds_for PassesOwn.never rfl (di_seq (de_v 10)) (dg_v (i := 11) sc_k20_right.nd) (dss_one (ds_if (dt_c (do_ne (u65 hr)) (de_fn (FnG.up (ok_roads_overD T) (by decide)) hr hg T.m_roads_overD T.F_roads_overD.kp (b_roads_overD T.F_roads_overD) .nil lits_nil (da_cons (de_makeF T.k_Web (ok_Web_init T) (hr.mono (by decide)) hg T.m_Web (b_Web_init T) .nil lits_nil (da_cons (de_o do_addG (de_tup (da_cons de_str da_nil)) (de_ix (u65 hr) (de_v 2) de_int)) (da_cons (de_o do_addG (de_v 11) (de_ix (u65 hr) (de_v 2) de_int)) da_nil))) da_nil)) (de_v 4)) (dss_one (ds_ret de_bl)) dss_nil))))) dss_nil))))))))))))))
    (dss_one (ds_ret de_bl)))
theorem ok_k20_law (T : Txt P K mg) : FnD P w K mg base 8 T.a_k20_law T.d_k20_law ["_law_script"] (sp_k20_law T.a_Web) := by
  refine fnD_ok (w0 := w_k20_law T.a_Web) (fun_at T.F_k20_law) sc_k20_law (len_k20_law _) (fun cdv A outer s H E hr hg => ?_) (pure_k20_law T.a_Web)
  exact (dss_one (ds_ret (de_callB (dc_all rfl) (by rfl) T.z_all boot_all (da_cons (de_lcF rfl sc_k20_law.nd (di_rng1 T.z_range (da_cons (de_callB (dc_max rfl) (by rfl) T.z_max boot_max (da_cons de_int (da_cons (de_callB (dc_min rfl) (by rfl) T.z_min boot_min (da_cons (de_callB dc_len (by rfl) T.z_len boot_len (da_cons (de_v 0) da_nil)) (da_cons de_int da_nil))) da_nil))) da_nil)) (own := [("_law_k", 1)]) (nt := (.n 1)) (blkOk_by (by kernel_rfl)) (by decide) (fun _ _ _ _ _ => (pg_name (i := 1) sc_k20_law.nd rfl (.inl rfl))) (fun _ _ _ _ _ => dts_nil) (fun _ _ _ _ _ => (de_fn (FnG.up (ok_k20_right T) (by decide)) hr hg T.m_k20_right T.F_k20_right.kp (b_k20_right T.F_k20_right) .nil lits_nil (da_cons (de_fn (FnG.up (ok_cup_cup T) (by decide)) hr hg T.m_cup_cup T.F_cup_cup.kp (b_cup_cup T.F_cup_cup) .nil lits_nil (da_cons (de_v 0) (da_cons (de_v 1) da_nil))) da_nil)))) da_nil))))
end

end L2.DL
def PySem.W.Fast.tw12366996862759828615 : Nat := 0
def PySem.W.Fast.tw808712181959008408 : Nat := 0
def PySem.W.Fast.tw13178109230746836016 : Nat := 0
def PySem.W.Fast.tw5830409648547228528 : Nat := 0
def PySem.W.Fast.tw5633814861120229684 : Nat := 0
def PySem.W.Fast.tw7902714354103857469 : Nat := 0
def PySem.W.Fast.tw5318718262917147430 : Nat := 0
def PySem.W.Fast.tw10119110047287541955 : Nat := 0
def PySem.W.Fast.tw13670330982830752593 : Nat := 0
def PySem.W.Fast.tw12219856956154382199 : Nat := 0
def PySem.W.Fast.tw2694970066721039409 : Nat := 0
def PySem.W.Fast.tw284458666447000263 : Nat := 0
def PySem.W.Fast.tw9118950907872900141 : Nat := 0
def PySem.W.Fast.tw9663375488224036560 : Nat := 0
def PySem.W.Fast.tw14845615592290003751 : Nat := 0
def PySem.W.Fast.tw4950110422494810604 : Nat := 0
def PySem.W.Fast.tw12889102286722093242 : Nat := 0
def PySem.W.Fast.tw968704667642768701 : Nat := 0
def PySem.W.Fast.tw15558250061418978997 : Nat := 0
def PySem.W.Fast.tw15308988094311604536 : Nat := 0
def PySem.W.Fast.tw12903332118224792196 : Nat := 0
def PySem.W.Fast.tw941175897639613458 : Nat := 0
def PySem.W.Fast.tw11924420098137784867 : Nat := 0
def PySem.W.Fast.tw10086334675426092717 : Nat := 0
def PySem.W.Fast.tw2246205449405746105 : Nat := 0
namespace L2.DL
open PySem PySem.Spec PyProof.Rows

/-! ### the head -/
theorem all_mk {l : W.OpenLaw} {w : World} {K : W.Frag} {h : Heap} {mg : Str → Option Value} {fa : Addr} {kz : ClassData} {C vh vo vi vp v7 v8 v1 v24 v25 v0 v2 vj vf v9 v6 vm vn va ve vd vb vc vk vl v3 v5 vg : Addr} {v8s v2q v90 v2y v8t v2r v91 v2z v8i v2g v8j v2h v8f v2d v67 v8e v2c v8g v2e v8u v2s v8q v2o v8k v2i v8h v2f v8y v2w v8z v2x v8l v2j v8p v2n v8o v2m v8m v2k v8n v2l v8w v2u v8x v2v v8v v2t v8r v2p : Option Addr} {v84 v6u v5x v9i v1u v59 v8c v72 v65 v9q v22 v5h v85 v6v v5y v9j v1v v5a v8d v73 v66 v9r v23 v5i v7u v6k v5n v98 v1k v4z v7v v6l v5o v99 v1l v50 v7r v6h v5k v95 v1h v4w v6a vr v7q v6g v5j v94 v1g v4v v7s v6i v5l v96 v1i v4x v86 v6w v5z v9k v1w v5b v82 v6s v5v v9g v1s v57 v7w v6m v5p v9a v1m v51 v7t v6j v5m v97 v1j v4y v8a v70 v63 v9o v20 v5f v8b v71 v64 v9p v21 v5g v7x v6n v5q v9b v1n v52 v81 v6r v5u v9f v1r v56 v80 v6q v5t v9e v1q v55 v7y v6o v5r v9c v1o v53 v7z v6p v5s v9d v1p v54 v88 v6y v61 v9m v1y v5d v89 v6z v62 v9n v1z v5e v87 v6x v60 v9l v1x v5c v83 v6t v5w v9h v1t v58 : Value} {va8 vag va9 vah v9y v9z v9v v6c v9u v9w vaa va6 va0 v9x vae vaf va1 va5 va4 va2 va3 vac vad vab va7 : Array (Option Value)} {v28 v29 v2a v2b : Tok} {v69 : Nat} {v9s : List Value} (X : K.In h) (G : h.Ns mainGlobals mg) (hfa : mg "law" = some (.ref fa))
    (atC : W.nsIn K mainGlobals "Web" = some (some (.ref C)))
    (pgC : W.plainGet K C Str.empty = true)
    (hdC : W.hasDictIn K C = true)
    (poC : W.plainOver K C = true)
    (saC : W.findIn K (.ref C) "__setattr__" = some (some (.builtin "object.__setattr__")))
    (mkC : W.makesIn K C = true)
    (kcC : W.keepIn K (.ref C) = true)
    (n_marks : W.findIn K (.ref C) "marks" = some none)
    (n_pairs : W.findIn K (.ref C) "pairs" = some none)
    (n_row : W.findIn K (.ref C) "row" = some none)
    (icl : W.findIn K (.ref C) "__class__" = some (some (.builtin "object.__class__")))
    (isp : W.specialIn K (.builtin "object.__class__") "__get__" = some (some (.builtin "getset_descriptor.__get__")))
    (itk : W.takesIn K (.builtin "object.__class__") = some true)
    (imr : W.mroIn K C (.type "object") = some true)
    (kcls : W.clsIn K C = some kz)
    (kty : W.typeIn K (.ref C) = some (.type "type"))
    (ks0 : W.subIn K (.type "NoneType") (.ref C) = some false)
    (ks1 : W.subIn K (.type "bool") (.ref C) = some false)
    (ks2 : W.subIn K (.type "int") (.ref C) = some false)
    (ks3 : W.subIn K (.type "str") (.ref C) = some false)
    (ks4 : W.subIn K (.type "tuple") (.ref C) = some false)
    (ks5 : W.subIn K (.type "list") (.ref C) = some false)
    (ks6 : W.subIn K (.type "dict") (.ref C) = some false)
    (v3n : W.nsIn K mainGlobals "is_name" = some (some (.ref vh)))
    (v15 : K.lookup vh = some ⟨v84, v8s, .func (W.fnOf "is_name" "is_name" (defArgs s_is_name) (defBody s_is_name) (defScope s_is_name) .none v6u v5x v9i v2q v1u v59), va8⟩)
    (v4l : W.codeIn K v1u "is_name" = true)
    (v7g : W.keepIn K (.ref vh) = true)
    (v44 : W.nsIn K mainGlobals "wrong_place" = some (some (.ref vo)))
    (v1d : K.lookup vo = some ⟨v8c, v90, .func (W.fnOf "wrong_place" "wrong_place" (defArgs s_wrong_place) (defBody s_wrong_place) (defScope s_wrong_place) .none v72 v65 v9q v2y v22 v5h), vag⟩)
    (v4t : W.codeIn K v22 "wrong_place" = true)
    (v7o : W.keepIn K (.ref vo) = true)
    (v3o : W.nsIn K mainGlobals "is_pair" = some (some (.ref vi)))
    (v16 : K.lookup vi = some ⟨v85, v8t, .func (W.fnOf "is_pair" "is_pair" (defArgs s_is_pair) (defBody s_is_pair) (defScope s_is_pair) .none v6v v5y v9j v2r v1v v5a), va9⟩)
    (v4m : W.codeIn K v1v "is_pair" = true)
    (v7h : W.keepIn K (.ref vi) = true)
    (v45 : W.nsIn K mainGlobals "wrong_tie" = some (some (.ref vp)))
    (v1e : K.lookup vp = some ⟨v8d, v91, .func (W.fnOf "wrong_tie" "wrong_tie" (defArgs s_wrong_tie) (defBody s_wrong_tie) (defScope s_wrong_tie) .none v73 v66 v9r v2z v23 v5i), vah⟩)
    (v4u : W.codeIn K v23 "wrong_tie" = true)
    (v7p : W.keepIn K (.ref vp) = true)
    (v39 : W.nsIn K mainGlobals "check_places" = some (some (.ref v7)))
    (vv : K.lookup v7 = some ⟨v7u, v8i, .func (W.fnOf "check_places" "check_places" (defArgs s_check_places) (defBody s_check_places) (defScope s_check_places) .none v6k v5n v98 v2g v1k v4z), v9y⟩)
    (v4b : W.codeIn K v1k "check_places" = true)
    (v76 : W.keepIn K (.ref v7) = true)
    (v3a : W.nsIn K mainGlobals "check_ties" = some (some (.ref v8)))
    (vw : K.lookup v8 = some ⟨v7v, v8j, .func (W.fnOf "check_ties" "check_ties" (defArgs s_check_ties) (defBody s_check_ties) (defScope s_check_ties) .none v6l v5o v99 v2h v1l v50), v9z⟩)
    (v4c : W.codeIn K v1l "check_ties" = true)
    (v77 : W.keepIn K (.ref v8) = true)
    (v35 : W.findIn K (.ref C) "__init__" = some (some (.ref v1)))
    (v6e : W.isFn K (.ref v1) = true)
    (v4 : K.lookup v1 = some ⟨v7r, v8f, .func (W.fnOf "__init__" "Web.__init__" (defArgs s_Web_init) (defBody s_Web_init) (defScope s_Web_init) (.ref v24) v6h v5k v95 v2d v1h v4w), v9v⟩)
    (v48 : W.codeIn K v1h "Web.__init__" = true)
    (v74 : W.keepIn K (.ref v1) = true)
    (v68 : K.lookup v24 = some ⟨v6a, v67, .seq #[vr] v69, v6c⟩)
    (v6b : vr = .ref v25)
    (v34 : W.findIn K (.ref C) "has_tie" = some (some (.ref v0)))
    (v6d : W.isFn K (.ref v0) = true)
    (vs : K.lookup v0 = some ⟨v7q, v8e, .func (W.fnOf "has_tie" "Web.has_tie" (defArgs s_Web_has_tie) (defBody s_Web_has_tie) (defScope s_Web_has_tie) .none v6g v5j v94 v2c v1g v4v), v9u⟩)
    (v47 : W.codeIn K v1g "Web.has_tie" = true)
    (v26 : W.keepIn K (.ref v0) = true)
    (v36 : W.findIn K (.ref C) "__len__" = some (some (.ref v2)))
    (v6f : W.isFn K (.ref v2) = true)
    (vt : K.lookup v2 = some ⟨v7s, v8g, .func (W.fnOf "__len__" "Web.__len__" (defArgs s_Web_len) (defBody s_Web_len) (defScope s_Web_len) .none v6i v5l v96 v2e v1i v4x), v9w⟩)
    (v49 : W.codeIn K v1i "Web.__len__" = true)
    (v27 : W.keepIn K (.ref v2) = true)
    (v3p : W.nsIn K mainGlobals "is_tied" = some (some (.ref vj)))
    (v17 : K.lookup vj = some ⟨v86, v8u, .func (W.fnOf "is_tied" "is_tied" (defArgs s_is_tied) (defBody s_is_tied) (defScope s_is_tied) .none v6w v5z v9k v2s v1w v5b), vaa⟩)
    (v4n : W.codeIn K v1w "is_tied" = true)
    (v7i : W.keepIn K (.ref vj) = true)
    (v3k : W.nsIn K mainGlobals "first_untied" = some (some (.ref vf)))
    (v13 : K.lookup vf = some ⟨v82, v8q, .func (W.fnOf "first_untied" "first_untied" (defArgs s_first_untiedX) (defBody s_first_untiedX) (defScope s_first_untiedX) .none v6s v5v v9g v2o v1s v57), va6⟩)
    (v4j : W.codeIn K v1s "first_untied" = true)
    (v7e : W.keepIn K (.ref vf) = true)
    (v3b : W.nsIn K mainGlobals "check_web" = some (some (.ref v9)))
    (vx : K.lookup v9 = some ⟨v7w, v8k, .func (W.fnOf "check_web" "check_web" (defArgs s_check_web) (defBody s_check_web) (defScope s_check_web) .none v6m v5p v9a v2i v1m v51), va0⟩)
    (v4d : W.codeIn K v1m "check_web" = true)
    (v78 : W.keepIn K (.ref v9) = true)
    (v38 : W.nsIn K mainGlobals "all_met" = some (some (.ref v6)))
    (vu : K.lookup v6 = some ⟨v7t, v8h, .func (W.fnOf "all_met" "all_met" (defArgs s_all_metX) (defBody s_all_metX) (defScope s_all_metX) .none v6j v5m v97 v2f v1j v4y), v9x⟩)
    (v4a : W.codeIn K v1j "all_met" = true)
    (v75 : W.keepIn K (.ref v6) = true)
    (v3x : W.nsIn K mainGlobals "one_road" = some (some (.ref vm)))
    (v1b : K.lookup vm = some ⟨v8a, v8y, .func (W.fnOf "one_road" "one_road" (defArgs s_one_roadD) (defBody s_one_roadD) (defScope s_one_roadD) .none v70 v63 v9o v2w v20 v5f), vae⟩)
    (v4r : W.codeIn K v20 "one_road" = true)
    (v7m : W.keepIn K (.ref vm) = true)
    (v3z : W.nsIn K mainGlobals "roads_over" = some (some (.ref vn)))
    (v1c : K.lookup vn = some ⟨v8b, v8z, .func (W.fnOf "roads_over" "roads_over" (defArgs s_roads_overD) (defBody s_roads_overD) (defScope s_roads_overD) .none v71 v64 v9p v2x v21 v5g), vaf⟩)
    (v4s : W.codeIn K v21 "roads_over" = true)
    (v7n : W.keepIn K (.ref vn) = true)
    (v3c : W.nsIn K mainGlobals "_law_cup" = some (some (.ref va)))
    (vy : K.lookup va = some ⟨v7x, v8l, .func (W.fnOf "_law_cup" "_law_cup" (defArgs s_cup_cup) (defBody s_cup_cup) (defScope s_cup_cup) .none v6n v5q v9b v2j v1n v52), va1⟩)
    (v4e : W.codeIn K v1n "_law_cup" = true)
    (v79 : W.keepIn K (.ref va) = true)
    (v3g : W.nsIn K mainGlobals "_law_sip" = some (some (.ref ve)))
    (v12 : K.lookup ve = some ⟨v81, v8p, .func (W.fnOf "_law_sip" "_law_sip" (defArgs s_cup_sip) (defBody s_cup_sip) (defScope s_cup_sip) .none v6r v5u v9f v2n v1r v56), va5⟩)
    (v4i : W.codeIn K v1r "_law_sip" = true)
    (v7d : W.keepIn K (.ref ve) = true)
    (v3f : W.nsIn K mainGlobals "_law_of" = some (some (.ref vd)))
    (v11 : K.lookup vd = some ⟨v80, v8o, .func (W.fnOf "_law_of" "_law_of" (defArgs s_cup_of) (defBody s_cup_of) (defScope s_cup_of) .none v6q v5t v9e v2m v1q v55), va4⟩)
    (v4h : W.codeIn K v1q "_law_of" = true)
    (v7c : W.keepIn K (.ref vd) = true)
    (v3d : W.nsIn K mainGlobals "_law_folk" = some (some (.ref vb)))
    (vz : K.lookup vb = some ⟨v7y, v8m, .func (W.fnOf "_law_folk" "_law_folk" (defArgs s_cup_folkZ) (defBody s_cup_folkZ) (defScope s_cup_folkZ) .none v6o v5r v9c v2k v1o v53), va2⟩)
    (v4f : W.codeIn K v1o "_law_folk" = true)
    (v7a : W.keepIn K (.ref vb) = true)
    (v3e : W.nsIn K mainGlobals "_law_made" = some (some (.ref vc)))
    (v10 : K.lookup vc = some ⟨v7z, v8n, .func (W.fnOf "_law_made" "_law_made" (defArgs s_cup_made) (defBody s_cup_made) (defScope s_cup_made) .none v6p v5s v9d v2l v1p v54), va3⟩)
    (v4g : W.codeIn K v1p "_law_made" = true)
    (v7b : W.keepIn K (.ref vc) = true)
    (v3r : W.nsIn K mainGlobals "_law_once" = some (some (.ref vk)))
    (v19 : K.lookup vk = some ⟨v88, v8w, .func (W.fnOf "_law_once" "_law_once" (defArgs s_k20_once) (defBody s_k20_once) (defScope s_k20_once) .none v6y v61 v9m v2u v1y v5d), vac⟩)
    (v4p : W.codeIn K v1y "_law_once" = true)
    (v7k : W.keepIn K (.ref vk) = true)
    (v3s : W.nsIn K mainGlobals "_law_right" = some (some (.ref vl)))
    (v1a : K.lookup vl = some ⟨v89, v8x, .func (W.fnOf "_law_right" "_law_right" (defArgs s_k20_right) (defBody s_k20_right) (defScope s_k20_right) .none v6z v62 v9n v2v v1z v5e), vad⟩)
    (v4q : W.codeIn K v1z "_law_right" = true)
    (v7l : W.keepIn K (.ref vl) = true)
    (v1f : W.nsIn K mainGlobals "law" = some (some (.ref v3)))
    (v18 : K.lookup v3 = some ⟨v87, v8v, .func (W.fnOf "law" "law" (defArgs s_k20_law) (defBody s_k20_law) (defScope s_k20_law) .none v6x v60 v9l v2t v1x v5c), vab⟩)
    (v4o : W.codeIn K v1x "law" = true)
    (v7j : W.keepIn K (.ref v3) = true)
    (v9t : W.findIn K (.ref C) "places" = some (some (.ref v5)))
    (v3l : W.recIn K v5 "property" = some (.ref vg :: v9s))
    (v92 : W.specialIn K (.ref v5) "__get__" = some (some (.builtin "property.__get__")))
    (v93 : W.takesIn K (.ref v5) = some true)
    (v14 : K.lookup vg = some ⟨v83, v8r, .func (W.fnOf "places" "Web.places" (defArgs s_g_places) (defBody s_g_places) (defScope s_g_places) .none v6t v5w v9h v2p v1t v58), va7⟩)
    (v4k : W.codeIn K v1t "Web.places" = true)
    (v7f : W.keepIn K (.ref vg) = true)
    (v30 : W.nsIn K mainGlobals "LETTERS" = some (some (.str "abcdefghijklmnopqrstuvwxyz" v28)))
    (v31 : W.nsIn K mainGlobals "MOST_PLACES" = some (some (.int 40 v29)))
    (v32 : W.nsIn K mainGlobals "MOST_SMALL" = some (some (.int 9 v2a)))
    (v33 : W.nsIn K mainGlobals "MOST_TIES" = some (some (.int 200 v2b)))
    (v37 : W.nsIn K mainGlobals "abs" = some none)
    (vq : W.nsIn K mainGlobals "all" = some none)
    (v3h : W.nsIn K mainGlobals "dict" = some none)
    (v3i : W.nsIn K mainGlobals "divmod" = some none)
    (v3j : W.nsIn K mainGlobals "enumerate" = some none)
    (v3m : W.nsIn K mainGlobals "int" = some none)
    (v3q : W.nsIn K mainGlobals "isinstance" = some none)
    (v3t : W.nsIn K mainGlobals "len" = some none)
    (v3u : W.nsIn K mainGlobals "list" = some none)
    (v3v : W.nsIn K mainGlobals "max" = some none)
    (v3w : W.nsIn K mainGlobals "min" = some none)
    (v3y : W.nsIn K mainGlobals "range" = some none)
    (v40 : W.nsIn K mainGlobals "sorted" = some none)
    (v41 : W.nsIn K mainGlobals "str" = some none)
    (v42 : W.nsIn K mainGlobals "sum" = some none)
    (v43 : W.nsIn K mainGlobals "tuple" = some none)
    (v46 : W.nsIn K mainGlobals "zip" = some none)
    : ∃ fd : FuncData, (∀ (s : Shared) (v : Value), BindsTo s fd ⟨[v], []⟩ [("_law_script", v)]) ∧ ∀ base : Heap, K.In base → base.Ns mainGlobals mg → FnD l.prog w K mg base 8 fa fd ["_law_script"] (LawSp 63) := by
  have e : fa = v3 := by
    have e := hfa.symm.trans (W.mg_of X G v1f)
    cases e
    rfl
  let T : Txt l.prog K mg := { a_Web := C, m_Web := W.mg_of X G atC, c_Web := ⟨pgC, hdC, poC, saC⟩, n_marks := n_marks, n_pairs := n_pairs, n_row := n_row, ins_Web := ⟨⟨pgC, hdC, poC, saC⟩, icl, isp, itk, imr⟩, kit0 := kit0_of kcls kty ks0 ks1 ks2 ks3 ks4 ks5 ks6, kit1 := kit1_of C, a_is_name := vh, d_is_name := _, F_is_name := fun_mk (st := s_is_name) v15 v4l v7g, m_is_name := W.mg_of X G v3n, a_wrong_place := vo, d_wrong_place := _, F_wrong_place := fun_mk (st := s_wrong_place) v1d v4t v7o, m_wrong_place := W.mg_of X G v44, a_is_pair := vi, d_is_pair := _, F_is_pair := fun_mk (st := s_is_pair) v16 v4m v7h, m_is_pair := W.mg_of X G v3o, a_wrong_tie := vp, d_wrong_tie := _, F_wrong_tie := fun_mk (st := s_wrong_tie) v1e v4u v7p, m_wrong_tie := W.mg_of X G v45, a_check_places := v7, d_check_places := _, F_check_places := fun_mk (st := s_check_places) vv v4b v76, m_check_places := W.mg_of X G v39, a_check_ties := v8, d_check_ties := _, F_check_ties := fun_mk (st := s_check_ties) vw v4c v77, m_check_ties := W.mg_of X G v3a, a_Web_init := v1, d_Web_init := _, v_Web_init := .ref v25, F_Web_init := ⟨⟨_, _, _, _, _, _, _, _, _, _, rfl, v4, v48, .inr ⟨by simp, _, _, [vr], _, rfl, v68, rfl, .cons v6b .nil⟩, .inl rfl⟩, v74⟩, k_Web := ⟨mkC, v35, v6e, kcC⟩, a_Web_has_tie := v0, d_Web_has_tie := _, F_Web_has_tie := fun_mk (st := s_Web_has_tie) vs v47 v26, h_has_tie := ⟨v34, v6d, v26⟩, a_Web_len := v2, d_Web_len := _, F_Web_len := fun_mk (st := s_Web_len) vt v49 v27, h___len__ := ⟨v36, v6f, v27⟩, a_is_tied := vj, d_is_tied := _, F_is_tied := fun_mk (st := s_is_tied) v17 v4n v7i, m_is_tied := W.mg_of X G v3p, a_first_untiedX := vf, d_first_untiedX := _, F_first_untiedX := fun_mk (st := s_first_untiedX) v13 v4j v7e, m_first_untiedX := W.mg_of X G v3k, a_check_web := v9, d_check_web := _, F_check_web := fun_mk (st := s_check_web) vx v4d v78, m_check_web := W.mg_of X G v3b, a_all_metX := v6, d_all_metX := _, F_all_metX := fun_mk (st := s_all_metX) vu v4a v75, m_all_metX := W.mg_of X G v38, a_one_roadD := vm, d_one_roadD := _, F_one_roadD := fun_mk (st := s_one_roadD) v1b v4r v7m, m_one_roadD := W.mg_of X G v3x, a_roads_overD := vn, d_roads_overD := _, F_roads_overD := fun_mk (st := s_roads_overD) v1c v4s v7n, m_roads_overD := W.mg_of X G v3z, a_cup_cup := va, d_cup_cup := _, F_cup_cup := fun_mk (st := s_cup_cup) vy v4e v79, m_cup_cup := W.mg_of X G v3c, a_cup_sip := ve, d_cup_sip := _, F_cup_sip := fun_mk (st := s_cup_sip) v12 v4i v7d, m_cup_sip := W.mg_of X G v3g, a_cup_of := vd, d_cup_of := _, F_cup_of := fun_mk (st := s_cup_of) v11 v4h v7c, m_cup_of := W.mg_of X G v3f, a_cup_folkZ := vb, d_cup_folkZ := _, F_cup_folkZ := fun_mk (st := s_cup_folkZ) vz v4f v7a, m_cup_folkZ := W.mg_of X G v3d, a_cup_made := vc, d_cup_made := _, F_cup_made := fun_mk (st := s_cup_made) v10 v4g v7b, m_cup_made := W.mg_of X G v3e, a_k20_once := vk, d_k20_once := _, F_k20_once := fun_mk (st := s_k20_once) v19 v4p v7k, m_k20_once := W.mg_of X G v3r, a_k20_right := vl, d_k20_right := _, F_k20_right := fun_mk (st := s_k20_right) v1a v4q v7l, m_k20_right := W.mg_of X G v3s, a_k20_law := v3, d_k20_law := _, F_k20_law := fun_mk (st := s_k20_law) v18 v4o v7j, m_k20_law := W.mg_of X G v1f, a_g_places := vg, d_g_places := _, F_g_places := fun_mk (st := s_g_places) v14 v4k v7f, q_places := v5, p_places := ⟨v9t, v92, v93, _, v3l⟩, t_LETTERS := v28, m_LETTERS := W.mg_of X G v30, t_MOST_PLACES := v29, m_MOST_PLACES := W.mg_of X G v31, t_MOST_SMALL := v2a, m_MOST_SMALL := W.mg_of X G v32, t_MOST_TIES := v2b, m_MOST_TIES := W.mg_of X G v33, z_abs := W.mg_none_of X G v37, z_all := W.mg_none_of X G vq, z_dict := W.mg_none_of X G v3h, z_divmod := W.mg_none_of X G v3i, z_enumerate := W.mg_none_of X G v3j, z_int := W.mg_none_of X G v3m, z_isinstance := W.mg_none_of X G v3q, z_len := W.mg_none_of X G v3t, z_list := W.mg_none_of X G v3u, z_max := W.mg_none_of X G v3v, z_min := W.mg_none_of X G v3w, z_range := W.mg_none_of X G v3y, z_sorted := W.mg_none_of X G v40, z_str := W.mg_none_of X G v41, z_sum := W.mg_none_of X G v42, z_tuple := W.mg_none_of X G v43, z_zip := W.mg_none_of X G v46 }
  rw [e]
  exact ⟨T.d_k20_law, fun s v => .of_eq rfl, fun base _ _ => ok_k20_law T⟩
end L2.DL
open PySem PySem.W PyProof.Rows
set_option maxRecDepth 100000 in
set_option maxHeartbeats 0 in
theorem PySem.Challenge.cw_fewroads_k20_whole_odd_numbers_of_roads_holds : PySem.Challenge.rw_fewroads_k20_whole_odd_numbers_of_roads.Holds := by
  w_on; o_law; k_head; (case hw => w_witness2)
  k_fill
  refine L2.DL.walk_G (l := PySem.Challenge.rw_fewroads_k20_whole_odd_numbers_of_roads) (n := 63) (k := 8) (x := "_law_script") rfl (by decide) rfl ⟨rfl, by decide, by decide⟩ (fun w h Y => PySem.W.kIn_of Y) ?F
  case F =>
    intro w mg fa h KX G hmg
    refine' L2.DL.all_mk (l := PySem.Challenge.rw_fewroads_k20_whole_odd_numbers_of_roads) (w := w) KX G hmg ?atC ?pgC ?hdC ?poC ?saC ?mkC ?kcC ?n_marks ?n_pairs ?n_row ?icl ?isp ?itk ?imr ?kcls ?kty ?ks0 ?ks1 ?ks2 ?ks3 ?ks4 ?ks5 ?ks6 ?v3n ?v15 ?v4l ?v7g ?v44 ?v1d ?v4t ?v7o ?v3o ?v16 ?v4m ?v7h ?v45 ?v1e ?v4u ?v7p ?v39 ?vv ?v4b ?v76 ?v3a ?vw ?v4c ?v77 ?v35 ?v6e ?v4 ?v48 ?v74 ?v68 ?v6b ?v34 ?v6d ?vs ?v47 ?v26 ?v36 ?v6f ?vt ?v49 ?v27 ?v3p ?v17 ?v4n ?v7i ?v3k ?v13 ?v4j ?v7e ?v3b ?vx ?v4d ?v78 ?v38 ?vu ?v4a ?v75 ?v3x ?v1b ?v4r ?v7m ?v3z ?v1c ?v4s ?v7n ?v3c ?vy ?v4e ?v79 ?v3g ?v12 ?v4i ?v7d ?v3f ?v11 ?v4h ?v7c ?v3d ?vz ?v4f ?v7a ?v3e ?v10 ?v4g ?v7b ?v3r ?v19 ?v4p ?v7k ?v3s ?v1a ?v4q ?v7l ?v1f ?v18 ?v4o ?v7j ?v9t ?v3l ?v92 ?v93 ?v14 ?v4k ?v7f ?v30 ?v31 ?v32 ?v33 ?v37 ?vq ?v3h ?v3i ?v3j ?v3m ?v3q ?v3t ?v3u ?v3v ?v3w ?v3y ?v40 ?v41 ?v42 ?v43 ?v46
    (case atC => k_is)
    (case pgC => k_is)
    (case hdC => k_is)
    (case poC => k_is)
    (case saC => k_is)
    (case mkC => k_is)
    (case kcC => k_is)
    (case n_marks => k_is)
    (case n_pairs => k_is)
    (case n_row => k_is)
    (case icl => k_is)
    (case isp => k_is)
    (case itk => k_is)
    (case imr => k_is)
    (case kcls => k_is)
    (case kty => k_is)
    (case ks0 => k_is)
    (case ks1 => k_is)
    (case ks2 => k_is)
    (case ks3 => k_is)
    (case ks4 => k_is)
    (case ks5 => k_is)
    (case ks6 => k_is)
    (case v3n => k_is)
    (case v15 => k_is)
    (case v4l => k_is)
    (case v7g => k_is)
    (case v44 => k_is)
    (case v1d => k_is)
    (case v4t => k_is)
    (case v7o => k_is)
    (case v3o => k_is)
    (case v16 => k_is)
    (case v4m => k_is)
    (case v7h => k_is)
    (case v45 => k_is)
    (case v1e => k_is)
    (case v4u => k_is)
    (case v7p => k_is)
    (case v39 => k_is)
    (case vv => k_is)
    (case v4b => k_is)
    (case v76 => k_is)
    (case v3a => k_is)
    (case vw => k_is)
    (case v4c => k_is)
    (case v77 => k_is)
    (case v35 => k_is)
    (case v6e => k_is)
    (case v4 => k_is)
    (case v48 => k_is)
    (case v74 => k_is)
    (case v68 => k_is)
    (case v6b => rfl)
    (case v34 => k_is)
    (case v6d => k_is)
    (case vs => k_is)
    (case v47 => k_is)
    (case v26 => k_is)
    (case v36 => k_is)
    (case v6f => k_is)
    (case vt => k_is)
    (case v49 => k_is)
    (case v27 => k_is)
    (case v3p => k_is)
    (case v17 => k_is)
    (case v4n => k_is)
    (case v7i => k_is)
    (case v3k => k_is)
    (case v13 => k_is)
    (case v4j => k_is)
    (case v7e => k_is)
    (case v3b => k_is)
    (case vx => k_is)
    (case v4d => k_is)
    (case v78 => k_is)
    (case v38 => k_is)
    (case vu => k_is)
    (case v4a => k_is)
    (case v75 => k_is)
    (case v3x => k_is)
    (case v1b => k_is)
    (case v4r => k_is)
    (case v7m => k_is)
    (case v3z => k_is)
    (case v1c => k_is)
    (case v4s => k_is)
    (case v7n => k_is)
    (case v3c => k_is)
    (case vy => k_is)
    (case v4e => k_is)
    (case v79 => k_is)
    (case v3g => k_is)
    (case v12 => k_is)
    (case v4i => k_is)
    (case v7d => k_is)
    (case v3f => k_is)
    (case v11 => k_is)
    (case v4h => k_is)
    (case v7c => k_is)
    (case v3d => k_is)
    (case vz => k_is)
    (case v4f => k_is)
    (case v7a => k_is)
    (case v3e => k_is)
    (case v10 => k_is)
    (case v4g => k_is)
    (case v7b => k_is)
    (case v3r => k_is)
    (case v19 => k_is)
    (case v4p => k_is)
    (case v7k => k_is)
    (case v3s => k_is)
    (case v1a => k_is)
    (case v4q => k_is)
    (case v7l => k_is)
    (case v1f => k_is)
    (case v18 => k_is)
    (case v4o => k_is)
    (case v7j => k_is)
    (case v9t => k_is)
    (case v3l => k_is)
    (case v92 => k_is)
    (case v93 => k_is)
    (case v14 => k_is)
    (case v4k => k_is)
    (case v7f => k_is)
    (case v30 => k_is)
    (case v31 => k_is)
    (case v32 => k_is)
    (case v33 => k_is)
    (case v37 => k_is)
    (case vq => k_is)
    (case v3h => k_is)
    (case v3i => k_is)
    (case v3j => k_is)
    (case v3m => k_is)
    (case v3q => k_is)
    (case v3t => k_is)
    (case v3u => k_is)
    (case v3v => k_is)
    (case v3w => k_is)
    (case v3y => k_is)
    (case v40 => k_is)
    (case v41 => k_is)
    (case v42 => k_is)
    (case v43 => k_is)
    (case v46 => k_is)
