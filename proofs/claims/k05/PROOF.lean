import PyProof.Rows.All
import Wide.All
import OpenK.AllK
import Wide.FinOn
import HandS.ForMost
import HandS.Lambda
import HandS.Property
import HandS.Defaults
import HandS.TupAny
import HandS.Deep
import HandS.IsInst
import HandS.Style
import HandS.More
import HandS.TupLen
import HandS.Small
import HandS.DictTup
import KE.GoesEnum
import HandS.Iter
import HandS.DictComp
import HandS.Strs
import HandS.Ends
import HandS.SlotsOwn
import HandS.Text
import HandS.Star
import KE.KCallOwn
import KE.KRevSl
import PyProof.Rows.SortShellAny
import PyProof.TupleOfSeq
import HandS.Zip
import HandS.FStr
import HandS.MakeKw
import HandS.DictSub
import HandS.Conv
import HandS.TryOnly
import HandS.SetFor
import HandS.TupMul
import HandS.Set
import KE.KDictZip
import HandS.SetKeys
import KE.KDictWalk
import KE.KEqDict
import KE.KDictList
import HandS.ClsMeth
import HandS.OwnEq
import KE.KExcSuper
import HandS.Exc
import HandS.ExcIs
import HandS.EndTab
import KE.KTryMore
import KE.KExcIs
import HandS.HotCalls
import KE.KNestM
import PyProof.NeData
import KE.GoesZip
import KE.SortKeyHeap
import HandS.SortKw
import HandS.ExcValue
import HandS.TupSets
import PyProof.InstEq
import PyProof.Conv_bool
import PyProof.EvalArms
import PyProof.StrLawsRepr
import PySem.Challenge.RW_fewroads_k05_whole_texts_bent
set_option Elab.async false
set_option linter.all false
set_option maxRecDepth 100000
set_option maxHeartbeats 4000000
/-! DL1: data as values. D: what a Python value is, as Lean data; SO: the objects that may change, by their addresses; how both lie in the abstract heap of HandS; the judgements over them -/
namespace L2.DL
open PySem PySem.Spec PyProof.Rows

/-- a value as data: lst, dic, ins are lists, dicts, instances that nobody changes any more; src a list from outside, kt a tuple that the top has written, tf a tuple of which it is known that it has no dict of its own; obj: an object by its address (one that may change, or one that is not looked into) -/
inductive D where
  | non | bl (b : Bool) | int (i : Int) | str (x : Str) | ty (n : String)
  | tup (xs : List D) | lst (xs : List D) | src (xs : List D) | kt (xs : List D) | tf (xs : List D) | dic (t : Bool) (kvs : List (D × D)) | ins (C : Addr) (fs : List (Str × D)) | obj (a : Addr) | fd (t : Bool) (kvs : List (D × D)) | gh (d : D) (v : V)
/-- an object that may change; err: an exception of the class of that name, with what it keeps; tb: a table of code objects, all of one name -/
inductive DO where
  | lst (xs : List D) | dic (t : Bool) (kvs : List (D × D)) | ins (C : Addr) (fs : List (Str × D)) | err (n : Str) (fs : List (Str × D)) | tb (q : Str)
abbrev SO := Addr → Option DO
def SO.set (S : SO) (a : Addr) (o : DO) : SO := fun b => if b = a then some o else S b
def SO.del (S : SO) (a : Addr) : SO := fun b => if b = a then none else S b
theorem set_same {S : SO} {a : Addr} {o : DO} : S.set a o a = some o := if_pos rfl
theorem set_ne {S : SO} {a b : Addr} {o : DO} (h : b ≠ a) : S.set a o b = S b := if_neg h
theorem set_set {S : SO} {a : Addr} {o u : DO} : (S.set a o).set a u = S.set a u := by
  funext b
  unfold SO.set
  split <;> rfl
theorem del_set {S : SO} {a : Addr} {o : DO} (h : S a = none) : (S.set a o).del a = S := by
  funext b
  unfold SO.set SO.del
  split
  · rename_i e
    rw [e, h]
  · rename_i e
    exact if_neg e
theorem so_ne {S : SO} {a b : Addr} {o : DO} (h : S a = some o) (h' : S b = none) : a ≠ b := by
  intro e
  rw [e, h'] at h
  cases h

def keyD : Key → D
  | .inl i => .int i
  | .inr x => .str x

/-- a tuple, a list that is read and that nobody changes -/
def TupAt (S : SO) (H : Hp) (a : Addr) (vs : List V) : Prop := S a = none ∧ H a = some (.tup vs)
def KTup (K : PySem.W.Frag) (a : Addr) (vs : List V) : Prop := ∃ (o : Obj) (its : Array Value) (n : Nat), K.lookup a = some o ∧ o.cls = .type "tuple" ∧ o.data = .seq its n ∧ its.size ≤ sizeLine ∧ Vals vs its.toList
def LstAt (K : PySem.W.Frag) (S : SO) (H : Hp) (a : Addr) (vs : List V) : Prop := S a = none ∧ Rd H a (.lst vs) ∨
  ∃ (o : Obj) (its : Array Value) (n : Nat), K.lookup a = some o ∧ o.cls = .type "list" ∧ o.dict = none ∧ o.data = .seq its n ∧ its.size ≤ sizeLine ∧ Vals vs its.toList
def TfAt (S : SO) (H : Hp) (a : Addr) (vs : List V) : Prop := S a = none ∧ ∃ o, H a = some (.frz o (.tup vs)) ∧ o.dict = none ∧ o.cls = .type "tuple"
theorem TfAt.sq {K : PySem.W.Frag} {S : SO} {H : Hp} {a : Addr} {vs : List V} (h : TfAt S H a vs) : SqT K H a vs := let ⟨_, o, h, _⟩ := h; .inl (.inr ⟨o, h⟩)
theorem TupAt.sq {K : PySem.W.Frag} {S : SO} {H : Hp} {a : Addr} {vs : List V} (h : TupAt S H a vs) : SqT K H a vs := .of h.2
theorem KTup.sq {K : PySem.W.Frag} {H : Hp} {a : Addr} {vs : List V} (h : KTup K a vs) : SqT K H a vs := .inr h
theorem LstAt.sq {K : PySem.W.Frag} {S : SO} {H : Hp} {a : Addr} {vs : List V} (h : LstAt K S H a vs) : SqL K H a vs := h.elim (fun x => .inl x.2) .inr

mutual
/-- the value d lies at v -/
def Rel (K : PySem.W.Frag) (S : SO) (H : Hp) : D → V → Prop
  | .non, v => v = .non
  | .bl b, v => v = .bl b
  | .int i, v => v = .int i
  | .str x, v => v = .str x
  | .ty n, v => v = .ty n
  | .obj a, v => v = .ref a
  | .tup ds, v => ∃ a vs, v = .ref a ∧ TupAt S H a vs ∧ Rels K S H ds vs
  | .lst ds, v => ∃ a vs, v = .ref a ∧ S a = none ∧ H a = some (.lst vs) ∧ Rels K S H ds vs
  | .kt ds, v => ∃ a vs, v = .ref a ∧ KTup K a vs ∧ Rels K S H ds vs
  | .tf ds, v => ∃ a vs, v = .ref a ∧ TfAt S H a vs ∧ Rels K S H ds vs
  | .src ds, v => ∃ a vs, v = .ref a ∧ LstAt K S H a vs ∧ Rels K S H ds vs
  | .dic t kvs, v => ∃ a, v = .ref a ∧ S a = none ∧ ((∃ l, t = false ∧ H a = some (.dK l) ∧ RelK K S H kvs l) ∨ (∃ l, t = true ∧ H a = some (.dT l) ∧ RelT K S H kvs l))
  | .ins C fs, v => ∃ a dx l, v = .ref a ∧ S a = none ∧ H a = some (.ins C dx l) ∧ RelF K S H fs l
  | .gh d u, v => v = u ∧ Rel K S H d u
  | .fd t kvs, v => ∃ a, v = .ref a ∧ S a = none ∧ ((∃ o l, t = false ∧ H a = some (.frz o (.dK l)) ∧ RelK K S H kvs l) ∨ (∃ o l, t = true ∧ H a = some (.frz o (.dT l)) ∧ RelT K S H kvs l))
def Rels (K : PySem.W.Frag) (S : SO) (H : Hp) : List D → List V → Prop
  | [], vs => vs = []
  | d :: ds, vs => ∃ v r, vs = v :: r ∧ Rel K S H d v ∧ Rels K S H ds r
def RelK (K : PySem.W.Frag) (S : SO) (H : Hp) : List (D × D) → List (Key × V) → Prop
  | [], l => l = []
  | (k, d) :: kvs, l => ∃ q v r, l = (q, v) :: r ∧ k = keyD q ∧ Rel K S H d v ∧ RelK K S H kvs r
def RelT (K : PySem.W.Frag) (S : SO) (H : Hp) : List (D × D) → List (List Key × V) → Prop
  | [], l => l = []
  | (k, d) :: kvs, l => ∃ q v r, l = (q, v) :: r ∧ k = .tup (q.map keyD) ∧ Rel K S H d v ∧ RelT K S H kvs r
def RelF (K : PySem.W.Frag) (S : SO) (H : Hp) : List (Str × D) → List (Str × V) → Prop
  | [], l => l = []
  | (x, d) :: fs, l => ∃ v r, l = (x, v) :: r ∧ Rel K S H d v ∧ RelF K S H fs r
end

/-- at a: an exception of the class at C, its own dict d -/
def ErrO (a C : Addr) (d : Option Addr) : HO := .ext fun h => ∃ (oe : Obj) (vs : Array Value), h.get? a = some oe ∧ oe.cls = .ref C ∧ oe.dict = d ∧ oe.data = .fields vs
/-- what an exception keeps -/
def ErrF (K : PySem.W.Frag) (S : SO) (H : Hp) : Option Addr → List (Str × D) → Prop
  | none, fs => fs = []
  | some dx, fs => ∃ l, S dx = none ∧ H dx = some (.xd l) ∧ RelF K S H fs l
/-- how a changing object lies -/
def ObjAt (K : PySem.W.Frag) (S : SO) (H : Hp) (a : Addr) : DO → Prop
  | .lst ds => ∃ vs, H a = some (.lst vs) ∧ Rels K S H ds vs
  | .dic t kvs => (∃ l, t = false ∧ H a = some (.dK l) ∧ RelK K S H kvs l) ∨ (∃ l, t = true ∧ H a = some (.dT l) ∧ RelT K S H kvs l)
  | .ins C fs => ∃ dx l, H a = some (.ins C dx l) ∧ RelF K S H fs l
  | .err n fs => ∃ C d, PySem.W.nsIn K mainGlobals n = some (some (.ref C)) ∧ H a = some (ErrO a C d) ∧ ErrF K S H d fs
  | .tb q => ∃ ps : Array Value, H a = some (.tbl ps) ∧ TriplesOk ps.toList ∧ ∀ (pos : Pos) (cv : Value), codeAmong pos ps.toList = some cv → ∃ c, cv = .ref c ∧ S c = none ∧ H c = some (LamX.CodeO c q)
def SRel (K : PySem.W.Frag) (S : SO) (H : Hp) : Prop := ∀ a o, S a = some o → ObjAt K S H a o
/-- the step from one state to a later one: what nobody changes stays -/
def Nx (S : SO) (H : Hp) (S' : SO) (H' : Hp) : Prop := ∀ a o, S a = none → H a = some o → S' a = none ∧ H' a = some o
theorem Nx.refl (S : SO) (H : Hp) : Nx S H S H := fun _ _ h h' => ⟨h, h'⟩
theorem Nx.trans {S S1 S2 : SO} {H H1 H2 : Hp} (x : Nx S H S1 H1) (y : Nx S1 H1 S2 H2) : Nx S H S2 H2 := fun a o h h' => let ⟨p, q⟩ := x a o h h'; y a o p q

section
variable {K : PySem.W.Frag} {S S' : SO} {H H' : Hp}
theorem TfAt.nx {a : Addr} {vs : List V} (x : Nx S H S' H') (h : TfAt S H a vs) : TfAt S' H' a vs := let ⟨n, o, e, r⟩ := h; let ⟨p, q⟩ := x a _ n e; ⟨p, o, q, r⟩
theorem TupAt.nx {a : Addr} {vs : List V} (x : Nx S H S' H') (h : TupAt S H a vs) : TupAt S' H' a vs := x a _ h.1 h.2
theorem LstAt.nx {a : Addr} {vs : List V} (x : Nx S H S' H') (h : LstAt K S H a vs) : LstAt K S' H' a vs := by
  rcases h with ⟨h0, h | ⟨o, h⟩⟩ | h
  · obtain ⟨p, q⟩ := x a _ h0 h
    exact .inl ⟨p, .inl q⟩
  · obtain ⟨p, q⟩ := x a _ h0 h
    exact .inl ⟨p, .inr ⟨o, q⟩⟩
  · exact .inr h
mutual
theorem Rel.nx (x : Nx S H S' H') : ∀ (d : D) (v : V), Rel K S H d v → Rel K S' H' d v
  | .non, _, h => h
  | .bl _, _, h => h
  | .int _, _, h => h
  | .str _, _, h => h
  | .ty _, _, h => h
  | .obj _, _, h => h
  | .tup ds, v, h => by
    obtain ⟨a, vs, e, t, r⟩ := h
    exact ⟨a, vs, e, t.nx x, Rels.nx x ds vs r⟩
  | .lst ds, v, h => by
    obtain ⟨a, vs, e, n, t, r⟩ := h
    obtain ⟨p, q⟩ := x a _ n t
    exact ⟨a, vs, e, p, q, Rels.nx x ds vs r⟩
  | .kt ds, v, h => by
    obtain ⟨a, vs, e, t, r⟩ := h
    exact ⟨a, vs, e, t, Rels.nx x ds vs r⟩
  | .tf ds, v, h => by
    obtain ⟨a, vs, e, t, r⟩ := h
    exact ⟨a, vs, e, t.nx x, Rels.nx x ds vs r⟩
  | .src ds, v, h => by
    obtain ⟨a, vs, e, t, r⟩ := h
    exact ⟨a, vs, e, t.nx x, Rels.nx x ds vs r⟩
  | .dic t kvs, v, h => by
    obtain ⟨a, e, n, h⟩ := h
    refine ⟨a, e, ?_⟩
    rcases h with ⟨l, ht, hl, r⟩ | ⟨l, ht, hl, r⟩
    · obtain ⟨p, q⟩ := x a _ n hl
      exact ⟨p, .inl ⟨l, ht, q, RelK.nx x kvs l r⟩⟩
    · obtain ⟨p, q⟩ := x a _ n hl
      exact ⟨p, .inr ⟨l, ht, q, RelT.nx x kvs l r⟩⟩
  | .ins C fs, v, h => by
    obtain ⟨a, dx, l, e, n, hl, r⟩ := h
    obtain ⟨p, q⟩ := x a _ n hl
    exact ⟨a, dx, l, e, p, q, RelF.nx x fs l r⟩
  | .gh d u, v, h => ⟨h.1, Rel.nx x d u h.2⟩
  | .fd t kvs, v, h => by
    obtain ⟨a, e, n, h⟩ := h
    refine ⟨a, e, ?_⟩
    rcases h with ⟨o, l, ht, hl, r⟩ | ⟨o, l, ht, hl, r⟩
    · obtain ⟨p, q⟩ := x a _ n hl
      exact ⟨p, .inl ⟨o, l, ht, q, RelK.nx x kvs l r⟩⟩
    · obtain ⟨p, q⟩ := x a _ n hl
      exact ⟨p, .inr ⟨o, l, ht, q, RelT.nx x kvs l r⟩⟩
theorem Rels.nx (x : Nx S H S' H') : ∀ (ds : List D) (vs : List V), Rels K S H ds vs → Rels K S' H' ds vs
  | [], _, h => h
  | d :: ds, _, h => by
    obtain ⟨v, r, e, h1, h2⟩ := h
    exact ⟨v, r, e, Rel.nx x d v h1, Rels.nx x ds r h2⟩
theorem RelK.nx (x : Nx S H S' H') : ∀ (kvs : List (D × D)) (l : List (Key × V)), RelK K S H kvs l → RelK K S' H' kvs l
  | [], _, h => h
  | (k, d) :: kvs, _, h => by
    obtain ⟨q, v, r, e, hk, h1, h2⟩ := h
    exact ⟨q, v, r, e, hk, Rel.nx x d v h1, RelK.nx x kvs r h2⟩
theorem RelT.nx (x : Nx S H S' H') : ∀ (kvs : List (D × D)) (l : List (List Key × V)), RelT K S H kvs l → RelT K S' H' kvs l
  | [], _, h => h
  | (k, d) :: kvs, _, h => by
    obtain ⟨q, v, r, e, hk, h1, h2⟩ := h
    exact ⟨q, v, r, e, hk, Rel.nx x d v h1, RelT.nx x kvs r h2⟩
theorem RelF.nx (x : Nx S H S' H') : ∀ (fs : List (Str × D)) (l : List (Str × V)), RelF K S H fs l → RelF K S' H' fs l
  | [], _, h => h
  | (k, d) :: kvs, _, h => by
    obtain ⟨v, r, e, h1, h2⟩ := h
    exact ⟨v, r, e, Rel.nx x d v h1, RelF.nx x kvs r h2⟩
end
theorem ErrF.nx (x : Nx S H S' H') : ∀ {d : Option Addr} {fs : List (Str × D)}, ErrF K S H d fs → ErrF K S' H' d fs
  | none, _, h => h
  | some dx, fs, ⟨l, h1, h2, h3⟩ => let ⟨p, q⟩ := x dx _ h1 h2; ⟨l, p, q, RelF.nx x fs l h3⟩
theorem ObjAt.nx {a : Addr} (x : Nx S H S' H') (e : H' a = H a) : ∀ {o : DO}, ObjAt K S H a o → ObjAt K S' H' a o
  | .lst ds, h => by
    obtain ⟨vs, h1, h2⟩ := h
    exact ⟨vs, e.trans h1, Rels.nx x ds vs h2⟩
  | .dic t kvs, h => by
    rcases h with ⟨l, ht, h1, h2⟩ | ⟨l, ht, h1, h2⟩
    · exact .inl ⟨l, ht, e.trans h1, RelK.nx x kvs l h2⟩
    · exact .inr ⟨l, ht, e.trans h1, RelT.nx x kvs l h2⟩
  | .ins C fs, h => by
    obtain ⟨dx, l, h1, h2⟩ := h
    exact ⟨dx, l, e.trans h1, RelF.nx x fs l h2⟩
  | .err n fs, h => by
    obtain ⟨C, d, h0, h1, h2⟩ := h
    exact ⟨C, d, h0, e.trans h1, h2.nx x⟩
  | .tb q, h => by
    obtain ⟨ps, h1, h2, h3⟩ := h
    refine ⟨ps, e.trans h1, h2, fun pos cv hc => ?_⟩
    obtain ⟨c, e1, e2, e3⟩ := h3 pos cv hc
    exact ⟨c, e1, x c _ e2 e3⟩
theorem ObjAt.there {a : Addr} : ∀ {o : DO}, ObjAt K S H a o → ∃ u, H a = some u
  | .lst ds, ⟨_, h1, _⟩ => ⟨_, h1⟩
  | .dic t kvs, .inl ⟨_, _, h1, _⟩ => ⟨_, h1⟩
  | .dic t kvs, .inr ⟨_, _, h1, _⟩ => ⟨_, h1⟩
  | .ins C fs, ⟨_, _, h1, _⟩ => ⟨_, h1⟩
  | .err n fs, ⟨_, _, _, h1, _⟩ => ⟨_, h1⟩
  | .tb q, ⟨_, h1, _⟩ => ⟨_, h1⟩
theorem SRel.free (x : SRel K S H) {a : Addr} (h : H a = none) : S a = none := by
  cases q : S a with
  | none => rfl
  | some o =>
    obtain ⟨u, e⟩ := (x a o q).there
    rw [h] at e
    cases e
/-- a new thing that is tracked and not changed -/
theorem nx_new {p : Addr} {o : HO} (h : H p = none) : Nx S H S (upd H p o) := fun a u h1 h2 => ⟨h1, by rw [upd_ne (ne_of_none h2 h)]; exact h2⟩
theorem SRel.new (x : SRel K S H) {p : Addr} {o : HO} (h : H p = none) : SRel K S (upd H p o) := fun a u q => by
  have hu := x a u q
  obtain ⟨w, e⟩ := hu.there
  exact hu.nx (nx_new h) (by rw [upd_ne (ne_of_none e h)])
/-- a new object -/
theorem nx_obj {p : Addr} {o : DO} {u : HO} (h : H p = none) (hs : S p = none) : Nx S H (S.set p o) (upd H p u) := fun a w h1 h2 => by
  have ne := ne_of_none h2 h
  exact ⟨by rw [set_ne ne]; exact h1, by rw [upd_ne ne]; exact h2⟩
/-- an object is changed -/
theorem nx_put {p : Addr} {o o' : DO} {u : HO} (hs : S p = some o) : Nx S H (S.set p o') (upd H p u) := fun a w h1 h2 => by
  have ne : a ≠ p := (so_ne hs h1).symm
  exact ⟨by rw [set_ne ne]; exact h1, by rw [upd_ne ne]; exact h2⟩
theorem srel_put (x : SRel K S H) {p : Addr} {o : DO} {u : HO} (n : Nx S H (S.set p o) (upd H p u)) (h : ObjAt K (S.set p o) (upd H p u) p o) : SRel K (S.set p o) (upd H p u) := fun a w q => by
  by_cases e : a = p
  · subst e
    rw [set_same] at q
    cases q
    exact h
  · rw [set_ne e] at q
    exact (x a w q).nx n (upd_ne e)
theorem Rels.length : ∀ {ds : List D} {vs : List V}, Rels K S H ds vs → ds.length = vs.length
  | [], _, h => by
    have h' : _ = [] := h
    rw [h']
    rfl
  | d :: ds, _, h => by
    obtain ⟨v, r, e, _, h2⟩ := h
    rw [e, List.length_cons, List.length_cons, h2.length]
theorem Rels.app : ∀ {ds es : List D} {vs us : List V}, Rels K S H ds vs → Rels K S H es us → Rels K S H (ds ++ es) (vs ++ us)
  | [], _, _, _, h, h' => by
    have e : _ = [] := h
    subst e
    exact h'
  | d :: ds, es, _, us, h, h' => by
    obtain ⟨v, r, e, h1, h2⟩ := h
    subst e
    exact ⟨v, r ++ us, rfl, h1, h2.app h'⟩
theorem Rels.one {d : D} {v : V} (h : Rel K S H d v) : Rels K S H [d] [v] := ⟨v, [], rfl, h, rfl⟩
theorem Rels.get : ∀ {ds : List D} {vs : List V} {i : Nat} {d : D}, Rels K S H ds vs → ds[i]? = some d → ∃ v, vs[i]? = some v ∧ Rel K S H d v
  | [], _, _, _, _, e => by simp at e
  | d' :: ds, _, 0, d, h, e => by
    obtain ⟨v, r, rfl, h1, h2⟩ := h
    have e' : d' = d := Option.some.inj e
    subst e'
    exact ⟨v, rfl, h1⟩
  | d' :: ds, _, i + 1, d, h, e => by
    obtain ⟨v, r, rfl, h1, h2⟩ := h
    exact h2.get (i := i) e
theorem Rels.take : ∀ {ds : List D} {vs : List V} (n : Nat), Rels K S H ds vs → Rels K S H (ds.take n) (vs.take n)
  | _, _, 0, _ => rfl
  | [], _, n + 1, h => by
    have h' : _ = [] := h
    rw [h']
    exact rfl
  | d :: ds, _, n + 1, h => by
    obtain ⟨v, r, rfl, h1, h2⟩ := h
    exact ⟨v, r.take n, rfl, h1, h2.take n⟩
theorem Rels.drop : ∀ {ds : List D} {vs : List V} (n : Nat), Rels K S H ds vs → Rels K S H (ds.drop n) (vs.drop n)
  | _, _, 0, h => h
  | [], _, n + 1, h => by
    have h' : _ = [] := h
    rw [h']
    exact rfl
  | d :: ds, _, n + 1, h => by
    obtain ⟨v, r, rfl, h1, h2⟩ := h
    exact h2.drop n
theorem Rels.two {a b : D} {vs : List V} (h : Rels K S H [a, b] vs) : ∃ v w, vs = [v, w] ∧ Rel K S H a v ∧ Rel K S H b w := by
  obtain ⟨v, r, rfl, h1, w, r', rfl, h2, h3⟩ := h
  have e : _ = [] := h3
  subst e
  exact ⟨v, w, rfl, h1, h2⟩
theorem RelF.look : ∀ {fs : List (Str × D)} {l : List (Str × V)} {x : Str} {d : D}, RelF K S H fs l → fs.lookup x = some d → ∃ v, l.lookup x = some v ∧ Rel K S H d v
  | [], _, _, _, _, e => by cases e
  | (y, d') :: fs, _, x, d, h, e => by
    obtain ⟨v, r, rfl, h1, h2⟩ := h
    rw [List.lookup_cons] at e
    rw [List.lookup_cons]
    cases q : x == y with
    | true =>
      rw [q] at e
      cases e
      exact ⟨v, rfl, h1⟩
    | false =>
      rw [q] at e
      exact h2.look e
def putD (f : Str) (v : D) : List (Str × D) → List (Str × D)
  | [] => [(f, v)]
  | (g, u) :: r => if g = f then (g, v) :: r else (g, u) :: putD f v r
end

/-! ### the frame's slots -/
abbrev SD := List (Option D)
def RelO (K : PySem.W.Frag) (S : SO) (H : Hp) : Option D → Option V → Prop
  | none, _ => True
  | some d, some v => Rel K S H d v
  | some _, none => False
def RelS (K : PySem.W.Frag) (S : SO) (H : Hp) (sd : SD) (σ : St) : Prop := sd.length = σ.length ∧ ∀ (i : Nat) (d : D), sd[i]? = some (some d) → ∃ v, σ[i]? = some (some v) ∧ Rel K S H d v
structure Sta (K : PySem.W.Frag) (sd : SD) (S : SO) (σ : St) (H : Hp) : Prop where
  s : SRel K S H
  r : RelS K S H sd σ
theorem RelS.nx {K : PySem.W.Frag} {S S' : SO} {H H' : Hp} {sd : SD} {σ : St} (x : Nx S H S' H') (h : RelS K S H sd σ) : RelS K S' H' sd σ :=
  ⟨h.1, fun i d e => let ⟨v, e', r⟩ := h.2 i d e; ⟨v, e', Rel.nx x d v r⟩⟩
theorem Sta.nx {K : PySem.W.Frag} {S S' : SO} {H H' : Hp} {sd : SD} {σ : St} (h : Sta K sd S σ H) (x : Nx S H S' H') (s : SRel K S' H') : Sta K sd S' σ H' := ⟨s, h.r.nx x⟩
theorem Sta.set {K : PySem.W.Frag} {S : SO} {H : Hp} {sd : SD} {σ : St} (h : Sta K sd S σ H) (i : Nat) {d : D} {v : V} (r : Rel K S H d v) : Sta K (sd.set i (some d)) S (σ.set i (some v)) H := by
  refine ⟨h.s, by rw [List.length_set, List.length_set]; exact h.r.1, fun j e q => ?_⟩
  by_cases hj : i = j
  · subst hj
    have hl : i < sd.length := by
      have := (List.getElem?_eq_some_iff.mp q).1
      rwa [List.length_set] at this
    rw [List.getElem?_set_self hl] at q
    cases q
    exact ⟨v, List.getElem?_set_self (by rw [← h.r.1]; exact hl), r⟩
  · rw [List.getElem?_set_ne hj] at q
    obtain ⟨v', e', r'⟩ := h.r.2 j e q
    exact ⟨v', by rw [List.getElem?_set_ne hj]; exact e', r'⟩
end L2.DL

/-! DL2: the judgements over data, lifted from HandS, and the rules of expressions, tests, statements, targets -/
namespace L2.DL
open PySem PySem.Spec PyProof.Rows

abbrev KD := D → SO → Prop
abbrev WE := SD → SO → KD → Prop
abbrev WT := SD → SO → (Bool → SO → Prop) → Prop
abbrev WA := SD → SO → (List D → SO → Prop) → Prop
structure EndsD where
  nx : SD → SO → Prop
  rt : KD
  bk : SD → SO → Prop := fun _ _ => False
  ct : SD → SO → Prop := fun _ _ => False
abbrev WS := EndsD → SD → SO → Prop
abbrev WG := D → SD → SO → (SD → SO → Prop) → Prop
abbrev WGs := List D → SD → SO → (SD → SO → Prop) → Prop

/-- what is wanted of the data answers what is wanted of the values -/
def Ans (K : PySem.W.Frag) (S : SO) (H : Hp) (Q0 : KD) (Q : VK) : Prop := ∀ d S' v H', Q0 d S' → Nx S H S' H' → SRel K S' H' → Rel K S' H' d v → Q v H'
def AnsT (K : PySem.W.Frag) (S : SO) (H : Hp) (Q0 : Bool → SO → Prop) (Q : Bool → Hp → Prop) : Prop := ∀ b S' H', Q0 b S' → Nx S H S' H' → SRel K S' H' → Q b H'
def AnsA (K : PySem.W.Frag) (S : SO) (H : Hp) (Q0 : List D → SO → Prop) (Q : List V → Hp → Prop) : Prop := ∀ ds S' vs H', Q0 ds S' → Nx S H S' H' → SRel K S' H' → Rels K S' H' ds vs → Q vs H'
def AnsS (K : PySem.W.Frag) (S : SO) (H : Hp) (Q0 : SD → SO → Prop) (Q : St → Hp → Prop) : Prop := ∀ sd S' σ H', Q0 sd S' → Nx S H S' H' → Sta K sd S' σ H' → Q σ H'
structure AnsE (K : PySem.W.Frag) (S : SO) (H : Hp) (E0 : EndsD) (E : Ends) : Prop where
  nx : AnsS K S H E0.nx E.nx
  rt : Ans K S H E0.rt E.rt
  bk : AnsS K S H E0.bk E.bk
  ct : AnsS K S H E0.ct E.ct
section
variable {K : PySem.W.Frag} {S S' : SO} {H H' : Hp}
theorem Ans.nx {Q0 : KD} {Q : VK} (a : Ans K S H Q0 Q) (x : Nx S H S' H') : Ans K S' H' Q0 Q := fun d S2 v H2 q y s r => a d S2 v H2 q (x.trans y) s r
theorem AnsT.nx {Q0 : Bool → SO → Prop} {Q : Bool → Hp → Prop} (a : AnsT K S H Q0 Q) (x : Nx S H S' H') : AnsT K S' H' Q0 Q := fun d S2 H2 q y s => a d S2 H2 q (x.trans y) s
theorem AnsA.nx {Q0 : List D → SO → Prop} {Q : List V → Hp → Prop} (a : AnsA K S H Q0 Q) (x : Nx S H S' H') : AnsA K S' H' Q0 Q := fun d S2 v H2 q y s r => a d S2 v H2 q (x.trans y) s r
theorem AnsS.nx {Q0 : SD → SO → Prop} {Q : St → Hp → Prop} (a : AnsS K S H Q0 Q) (x : Nx S H S' H') : AnsS K S' H' Q0 Q := fun d S2 v H2 q y s => a d S2 v H2 q (x.trans y) s
theorem AnsE.go {E0 : EndsD} {E : Ends} (a : AnsE K S H E0 E) (x : Nx S H S' H') : AnsE K S' H' E0 E := ⟨a.nx.nx x, a.rt.nx x, a.bk.nx x, a.ct.nx x⟩
end
def lift (K : PySem.W.Frag) (w : WE) : TE := fun σ H Q => ∃ sd S Q0, Sta K sd S σ H ∧ w sd S Q0 ∧ Ans K S H Q0 Q
def liftT (K : PySem.W.Frag) (w : WT) : TT := fun σ H Q => ∃ sd S Q0, Sta K sd S σ H ∧ w sd S Q0 ∧ AnsT K S H Q0 Q
def liftA (K : PySem.W.Frag) (w : WA) : TA := fun σ H Q => ∃ sd S Q0, Sta K sd S σ H ∧ w sd S Q0 ∧ AnsA K S H Q0 Q
def liftS (K : PySem.W.Frag) (w : WS) : TS := fun E σ H => ∃ sd S E0, Sta K sd S σ H ∧ w E0 sd S ∧ AnsE K S H E0 E
def liftG (K : PySem.W.Frag) (w : WG) : TG := fun v σ H Q => ∃ d sd S Q0, Sta K sd S σ H ∧ Rel K S H d v ∧ w d sd S Q0 ∧ AnsS K S H Q0 Q
def liftGs (K : PySem.W.Frag) (w : WGs) : TGs := fun v σ H Q => ∃ d sd S Q0, Sta K sd S σ H ∧ Rels K S H d v ∧ w d sd S Q0 ∧ AnsS K S H Q0 Q
abbrev DE (X : Cx) (e : Expr) (w : WE) : Prop := PE X e (lift X.K w)
abbrev DT (X : Cx) (e : Expr) (w : WT) : Prop := PT X e (liftT X.K w)
abbrev DW (X : Cx) (e : Expr) (w : WT) : Prop := PW X e (liftT X.K w)
abbrev DA (X : Cx) (es : List Expr) (w : WA) : Prop := PA X es (liftA X.K w)
abbrev DS (X : Cx) (st : Stmt) (w : WS) : Prop := PS X st (liftS X.K w)
abbrev DSs (X : Cx) (st : List Stmt) (w : WS) : Prop := PSs X st (liftS X.K w)
abbrev DG (X : Cx) (tg : Expr) (w : WG) : Prop := PG X tg (liftG X.K w)
abbrev DGs (X : Cx) (tg : List Expr) (w : WGs) : Prop := PGs X tg (liftGs X.K w)

section
variable {X : Cx}
theorem pe_imp {e : Expr} {t t' : TE} (h : PE X e t) (i : ∀ σ H Q, t' σ H Q → t σ H Q) : PE X e t' := ⟨fun pins s σ H Q I q => h.run pins s σ H Q I (i σ H Q q)⟩
theorem pt_imp {e : Expr} {t t' : TT} (h : PT X e t) (i : ∀ σ H Q, t' σ H Q → t σ H Q) : PT X e t' := ⟨fun pins s σ H Q I q => h.run pins s σ H Q I (i σ H Q q)⟩
theorem pw_imp {e : Expr} {t t' : TT} (h : PW X e t) (i : ∀ σ H Q, t' σ H Q → t σ H Q) : PW X e t' := ⟨fun wh pins s σ H Q I q => h.run wh pins s σ H Q I (i σ H Q q)⟩
theorem pa_imp {e : List Expr} {t t' : TA} (h : PA X e t) (i : ∀ σ H Q, t' σ H Q → t σ H Q) : PA X e t' := ⟨fun p pins s σ H Q I q => h.run p pins s σ H Q I (i σ H Q q)⟩
theorem ps_imp {e : Stmt} {t t' : TS} (h : PS X e t) (i : ∀ E σ H, t' E σ H → t E σ H) : PS X e t' := ⟨fun pins s σ H E I q => h.run pins s σ H E I (i E σ H q)⟩
theorem pss_imp {e : List Stmt} {t t' : TS} (h : PSs X e t) (i : ∀ E σ H, t' E σ H → t E σ H) : PSs X e t' := ⟨fun pins s σ H E I q => h.run pins s σ H E I (i E σ H q)⟩
theorem pg_imp {e : Expr} {t t' : TG} (h : PG X e t) (i : ∀ v σ H Q, t' v σ H Q → t v σ H Q) : PG X e t' := ⟨fun pins s σ H v u Q I r q => h.run pins s σ H v u Q I r (i v σ H Q q)⟩
theorem pgs_imp {e : List Expr} {t t' : TGs} (h : PGs X e t) (i : ∀ v σ H Q, t' v σ H Q → t v σ H Q) : PGs X e t' := ⟨fun pins s σ H v u Q I r q => h.run pins s σ H v u Q I r (i v σ H Q q)⟩

/-! ### names, constants -/
def wV (i : Nat) : WE := fun sd S Q => match sd[i]? with
  | some (some d) => Q d S
  | _ => False
def wC (d : D) : WE := fun _ S Q => Q d S
theorem de_v (i : Nat) {x : Str} {pos : Pos} (hN : X.N[i]? = some x := by rfl) (hv : Vis X.env.scope x := by first | exact Or.inl rfl | exact Or.inr (Or.inl rfl) | exact Or.inr (Or.inr rfl)) (hd : (x == ("__debug__" : Str)) = false := by decide)
    (hcd : (x == ("__classdict__" : Str)) = false := by decide) : DE X (.Name x pos) (wV i) := by
  refine pe_imp (pe_var hN hv hd hcd) fun σ H Q ⟨sd, S, Q0, st, q, a⟩ => ?_
  unfold wV at q
  split at q
  · rename_i d e
    obtain ⟨v, e', r⟩ := st.r.2 i d e
    exact ⟨v, e', a _ _ _ _ q (Nx.refl _ _) st.s r⟩
  · exact q.elim
theorem lift_c {d : D} {v : V} (hr : ∀ K S H, Rel K S H d v) : ∀ σ H Q, lift X.K (wC d) σ H Q → tC v σ H Q := fun σ H Q ⟨sd, S, Q0, st, q, a⟩ => a _ _ _ _ q (Nx.refl _ _) st.s (hr _ _ _)
theorem de_int {i j pos} : DE X (.Constant (.int i) j pos) (wC (.int i)) := pe_imp pe_int (lift_c fun _ _ _ => rfl)
theorem de_bl {i j pos} : DE X (.Constant (.bool i) j pos) (wC (.bl i)) := pe_imp pe_bl (lift_c fun _ _ _ => rfl)
theorem de_non {j pos} : DE X (.Constant .none j pos) (wC .non) := pe_imp pe_non (lift_c fun _ _ _ => rfl)
theorem de_str {i j pos} : DE X (.Constant (.str i) j pos) (wC (.str i)) := pe_imp pe_str (lift_c fun _ _ _ => rfl)
theorem de_glob {x : Str} {d : D} {v : V} {u : Value} {pos : Pos} (hg : Gl X x) (hm : X.mg x = some u) (r : RelV v u) (hr : ∀ K S H, Rel K S H d v) (hd : (x == ("__debug__" : Str)) = false := by decide) : DE X (.Name x pos) (wC d) := pe_imp (pe_glob hg hm r hd) (lift_c hr)
theorem de_bltn {x : Str} {d : D} {v : V} {u : Value} {pos : Pos} (hg : Gl X x) (hm : X.mg x = none) (hv : bootBuiltins x = some u) (r : RelV v u) (hr : ∀ K S H, Rel K S H d v) (hn : x ≠ "__name__" := by decide) (hd : (x == ("__debug__" : Str)) = false := by decide) :
    DE X (.Name x pos) (wC d) := pe_imp (pe_bltn hg hm hv r hn hd) (lift_c hr)

/-! ### operators by values -/
abbrev WO := D → D → SO → KD → Prop
abbrev WU := D → SO → KD → Prop
abbrev WL := List D → SO → KD → Prop
def liftO (K : PySem.W.Frag) (w : WO) : R2 := fun v u H Q => ∃ x y S Q0, SRel K S H ∧ Rel K S H x v ∧ Rel K S H y u ∧ w x y S Q0 ∧ Ans K S H Q0 Q
def liftL (K : PySem.W.Frag) (w : WL) : List V → Hp → VK → Prop := fun v H Q => ∃ x S Q0, SRel K S H ∧ Rels K S H x v ∧ w x S Q0 ∧ Ans K S H Q0 Q
def liftM (K : PySem.W.Frag) (w : D → List D → SO → KD → Prop) : V → List V → Hp → VK → Prop := fun u v H Q => ∃ d x S Q0, SRel K S H ∧ Rel K S H d u ∧ Rels K S H x v ∧ w d x S Q0 ∧ Ans K S H Q0 Q
abbrev DO2 (X : Cx) (f : Value → Value → Sem Value) (w : WO) : Prop := OpR X f (liftO X.K w)
abbrev DC (X : Cx) (f : Value) (w : WL) : Prop := CallR X f (liftL X.K w)
variable {a b c : Expr} {wa wb wc : WE} {pos : Pos}
def wO (w : WO) (wa wb : WE) : WE := fun sd S Q => wa sd S fun x S1 => wb sd S1 fun y S2 => w x y S2 Q
def wU (w : WU) (wa : WE) : WE := fun sd S Q => wa sd S fun x S1 => w x S1 Q
theorem two {w : D → D → SO → KD → Prop} {σ : St} {H : Hp} {Q : VK} (h : lift X.K (wO w wa wb) σ H Q) {R : V → V → Hp → VK → Prop}
    (hr : ∀ v u H2 x y S2 Q0, SRel X.K S2 H2 → Rel X.K S2 H2 x v → Rel X.K S2 H2 y u → w x y S2 Q0 → Ans X.K S2 H2 Q0 Q → R v u H2 Q) : lift X.K wa σ H fun v H1 => lift X.K wb σ H1 fun u H2 => R v u H2 Q := by
  obtain ⟨sd, S, Q0, st, q, an⟩ := h
  exact ⟨sd, S, _, st, q, fun x S1 v H1 q1 n1 s1 r1 => ⟨sd, S1, _, st.nx n1 s1, q1, fun y S2 u H2 q2 n2 s2 r2 => hr v u H2 x y S2 Q0 s2 (Rel.nx n2 _ _ r1) r2 q2 (an.nx (n1.trans n2))⟩⟩
theorem de_o {op : Operator} {w : WO} (ho : DO2 X (binaryOp op) w) (ha : DE X a wa) (hb : DE X b wb) : DE X (.BinOp a op b pos) (wO w wa wb) :=
  pe_imp (pe_op ho ha hb) fun σ H Q h => two h fun v u H2 x y S2 Q0 s2 r1 r2 q2 an => ⟨x, y, S2, Q0, s2, r1, r2, q2, an⟩
theorem de_c {op : CmpOp} {w : WO} (ho : DO2 X (compareOp op) w) (ha : DE X a wa) (hb : DE X b wb) (hm : behindInMarks op b = false := by first | exact nomark _ | rfl) : DE X (.Compare a [op] [b] pos) (wO w wa wb) :=
  pe_imp (pe_cmpR ho ha hb hm) fun σ H Q h => two h fun v u H2 x y S2 Q0 s2 r1 r2 q2 an => ⟨x, y, S2, Q0, s2, r1, r2, q2, an⟩
/-- the answer is a truth -/
def isB0 (Q : Bool → SO → Prop) : KD := fun d S => match d with
  | .bl b => Q b S
  | _ => False
structure IsB (Q : Bool → SO → Prop) (d : D) (S : SO) : Prop where
  ex : isB0 Q d S
def isB (Q : Bool → SO → Prop) : KD := fun d S => IsB Q d S
def wB (wa : WE) : WT := fun sd S Q => wa sd S (isB Q)
theorem isB_ans {K : PySem.W.Frag} {S : SO} {H : Hp} {Q0 : Bool → SO → Prop} {Q : Bool → Hp → Prop} (an : AnsT K S H Q0 Q) : Ans K S H (isB Q0) fun x H' => ∃ k, x = .bl k ∧ Q k H' := fun d S' v H' q n s r => by
  have q := q.ex
  cases d with
  | bl k =>
    have e : v = .bl k := r
    exact ⟨k, e, an k S' H' q n s⟩
  | _ => exact q.elim
/-- a comparison as a test -/
theorem dt_c {op : CmpOp} {w : WO} (ho : DO2 X (compareOp op) w) (ha : DE X a wa) (hb : DE X b wb) (hm : behindInMarks op b = false := by first | exact nomark _ | rfl) : DT X (.Compare a [op] [b] pos) (wB (wO w wa wb)) :=
  pt_imp (pt_cmpR ho ha hb hm) fun σ H Q ⟨sd, S, Q0, st, q, an⟩ => by
    refine two (w := w) (wa := wa) (wb := wb) (R := liftO X.K w) ⟨sd, S, _, st, q, isB_ans an⟩ fun v u H2 x y S2 Q0' s2 r1 r2 q2 an => ?_
    exact ⟨x, y, S2, Q0', s2, r1, r2, q2, an⟩
/-- an expression whose value is a truth, as a test -/
theorem dt_b {e : Expr} {w : WE} (h : DE X e w) (he : ∀ whole, isTrue e X.env whole = (do let v ← whole; standAt e.pos; holding [v] (truthy v)) := by intro _; rfl) : DT X e (wB w) :=
  pt_imp (pt_val h he) fun σ H Q ⟨sd, S, Q0, st, q, an⟩ => ⟨sd, S, _, st, q, isB_ans an⟩
/-- a < b < c -/
def wCh (w w' : WO) (wa wb wc : WE) : WE := fun sd S Q => wa sd S fun x S1 => wb sd S1 fun y S2 => w x y S2 fun z S3 => isB (fun k S3 => if k = true then wc sd S3 fun u S4 => w' y u S4 Q else Q (.bl false) S3) z S3
theorem de_ch {op op' : CmpOp} {w w' : WO} (ho : DO2 X (compareOp op) w) (ho' : DO2 X (compareOp op') w') (ha : DE X a wa) (hb : DE X b wb) (hc : DE X c wc) (hm : lastMarks [op, op'] [b, c] = false := by with_unfolding_all rfl) :
    DE X (.Compare a [op, op'] [b, c] pos) (wCh w w' wa wb wc) := by
  refine pe_imp (pe_chain ho ho' ha hb hc hm) fun σ H Q ⟨sd, S, Q0, st, q, an⟩ => ?_
  refine ⟨sd, S, _, st, q, fun x S1 v H1 q1 n1 s1 r1 => ⟨sd, S1, _, st.nx n1 s1, q1, fun y S2 u H2 q2 n2 s2 r2 => ⟨x, y, S2, _, s2, Rel.nx n2 _ _ r1, r2, q2, fun z S3 zv H3 q3 n3 s3 r3 => ?_⟩⟩⟩
  have q3 := q3.ex
  cases z with
  | bl k =>
    have e : zv = .bl k := r3
    refine ⟨k, e, ?_⟩
    have n13 := (n1.trans n2).trans n3
    have q3' : if k = true then wc sd S3 fun u S4 => w' y u S4 Q0 else Q0 (.bl false) S3 := q3
    cases k with
    | true => exact ⟨sd, S3, _, st.nx n13 s3, q3', fun t S4 tv H4 q4 n4 s4 r4 => ⟨y, t, S4, Q0, s4, Rel.nx n4 _ _ (Rel.nx n3 _ _ r2), r4, q4, an.nx (n13.trans n4)⟩⟩
    | false => exact an _ _ _ _ q3' n13 s3 rfl
  | _ => exact False.elim q3
theorem dt_ch {op op' : CmpOp} {w w' : WO} (ho : DO2 X (compareOp op) w) (ho' : DO2 X (compareOp op') w') (ha : DE X a wa) (hb : DE X b wb) (hc : DE X c wc) (hm : lastMarks [op, op'] [b, c] = false := by with_unfolding_all rfl) :
    DT X (.Compare a [op, op'] [b, c] pos) (wB (wCh w w' wa wb wc)) := by
  refine pt_imp (pt_chain ho ho' ha hb hc hm) fun σ H Q ⟨sd, S, Q0', st, q, an'⟩ => ?_
  have an := isB_ans an'
  refine ⟨sd, S, _, st, q, fun x S1 v H1 q1 n1 s1 r1 => ⟨sd, S1, _, st.nx n1 s1, q1, fun y S2 u H2 q2 n2 s2 r2 => ⟨x, y, S2, _, s2, Rel.nx n2 _ _ r1, r2, q2, fun z S3 zv H3 q3 n3 s3 r3 => ?_⟩⟩⟩
  have q3 := q3.ex
  cases z with
  | bl k =>
    have e : zv = .bl k := r3
    refine ⟨k, e, ?_⟩
    have n13 := (n1.trans n2).trans n3
    have q3' : if k = true then wc sd S3 fun u S4 => w' y u S4 (isB Q0') else isB Q0' (.bl false) S3 := q3
    cases k with
    | true => exact ⟨sd, S3, _, st.nx n13 s3, q3', fun t S4 tv H4 q4 n4 s4 r4 => ⟨y, t, S4, _, s4, Rel.nx n4 _ _ (Rel.nx n3 _ _ r2), r4, q4, an.nx (n13.trans n4)⟩⟩
    | false => exact an (.bl false) S3 _ _ q3' n13 s3 rfl
  | _ => exact False.elim q3

/-! ### and, or, not, if -/
variable {ta tb tc : WT} {rest : List Expr}
def wAnd (t u : WT) : WT := fun sd S Q => t sd S fun k S1 => if k = true then u sd S1 Q else Q false S1
def wOr (t u : WT) : WT := fun sd S Q => t sd S fun k S1 => if k = true then Q true S1 else u sd S1 Q
def wNot (t : WT) : WT := fun sd S Q => t sd S fun k S1 => Q (!k) S1
theorem dw_and1 (ha : DT X a ta) : DW X (.BoolOp .And [a] pos) ta := pw_and1 ha
theorem dw_or1 (ha : DT X a ta) : DW X (.BoolOp .Or [a] pos) ta := pw_or1 ha
theorem dw_and (ha : DT X a ta) (hb : DW X (.BoolOp .And (b :: rest) pos) tb) : DW X (.BoolOp .And (a :: b :: rest) pos) (wAnd ta tb) := by
  refine pw_imp (pw_and ha hb) fun σ H Q ⟨sd, S, Q0, st, q, an⟩ => ⟨sd, S, _, st, q, fun k S1 H1 q1 n1 s1 => ?_⟩
  cases k with
  | true => exact ⟨sd, S1, Q0, st.nx n1 s1, q1, an.nx n1⟩
  | false => exact an _ _ _ q1 n1 s1
theorem dw_or (ha : DT X a ta) (hb : DW X (.BoolOp .Or (b :: rest) pos) tb) : DW X (.BoolOp .Or (a :: b :: rest) pos) (wOr ta tb) := by
  refine pw_imp (pw_or ha hb) fun σ H Q ⟨sd, S, Q0, st, q, an⟩ => ⟨sd, S, _, st, q, fun k S1 H1 q1 n1 s1 => ?_⟩
  cases k with
  | true => exact an _ _ _ q1 n1 s1
  | false => exact ⟨sd, S1, Q0, st.nx n1 s1, q1, an.nx n1⟩
theorem dw_pt (h : DW X a ta) : DT X a ta := PW.pt h
theorem dt_not (ha : DT X a ta) : DT X (.UnaryOp .Not a pos) (wNot ta) :=
  pt_imp (pt_not ha) fun σ H Q ⟨sd, S, Q0, st, q, an⟩ => ⟨sd, S, _, st, q, fun k S1 H1 q1 n1 s1 => an _ _ _ q1 n1 s1⟩
/-- as values, all but the last truths -/
def wAndV (wa wb : WE) : WE := fun sd S Q => wa sd S (isB fun k S1 => if k = true then wb sd S1 Q else Q (.bl false) S1)
def wOrV (wa wb : WE) : WE := fun sd S Q => wa sd S (isB fun k S1 => if k = true then Q (.bl true) S1 else wb sd S1 Q)
def wNotV (wa : WE) : WE := fun sd S Q => wa sd S (isB fun k S1 => Q (.bl (!k)) S1)
theorem de_one {op} {w : WE} (h : DE X a w) : DE X (.BoolOp op [a] pos) w := pe_one h
theorem de_and (ha : DE X a wa) (hb : DE X (.BoolOp .And (b :: rest) pos) wb) : DE X (.BoolOp .And (a :: b :: rest) pos) (wAndV wa wb) := by
  refine pe_imp (pe_and ha hb) fun σ H Q ⟨sd, S, Q0, st, q, an⟩ => ⟨sd, S, _, st, q, fun d S1 v H1 q1 n1 s1 r1 => ?_⟩
  have q1 := q1.ex
  cases d with
  | bl k =>
    have e : v = .bl k := r1
    refine ⟨k, e, ?_⟩
    cases k with
    | true => exact ⟨sd, S1, Q0, st.nx n1 s1, q1, an.nx n1⟩
    | false => exact an _ _ _ _ q1 n1 s1 rfl
  | _ => exact False.elim q1
theorem de_or (ha : DE X a wa) (hb : DE X (.BoolOp .Or (b :: rest) pos) wb) : DE X (.BoolOp .Or (a :: b :: rest) pos) (wOrV wa wb) := by
  refine pe_imp (pe_or ha hb) fun σ H Q ⟨sd, S, Q0, st, q, an⟩ => ⟨sd, S, _, st, q, fun d S1 v H1 q1 n1 s1 r1 => ?_⟩
  have q1 := q1.ex
  cases d with
  | bl k =>
    have e : v = .bl k := r1
    refine ⟨k, e, ?_⟩
    cases k with
    | true => exact an _ _ _ _ q1 n1 s1 rfl
    | false => exact ⟨sd, S1, Q0, st.nx n1 s1, q1, an.nx n1⟩
  | _ => exact False.elim q1
def wIf (t : WT) (wa wb : WE) : WE := fun sd S Q => t sd S fun k S1 => if k = true then wa sd S1 Q else wb sd S1 Q
theorem de_if {c : Expr} (hc : DT X c tc) (ha : DE X a wa) (hb : DE X b wb) : DE X (.IfExp c a b pos) (wIf tc wa wb) := by
  refine pe_imp (pe_ifExp hc ha hb) fun σ H Q ⟨sd, S, Q0, st, q, an⟩ => ⟨sd, S, _, st, q, fun k S1 H1 q1 n1 s1 => ?_⟩
  cases k with
  | true => exact ⟨sd, S1, Q0, st.nx n1 s1, q1, an.nx n1⟩
  | false => exact ⟨sd, S1, Q0, st.nx n1 s1, q1, an.nx n1⟩

/-! ### arguments, displays, calls of built-ins by their names -/
def wNil : WA := fun _ S Q => Q [] S
def wCons (w : WE) (r : WA) : WA := fun sd S Q => w sd S fun x S1 => r sd S1 fun xs S2 => Q (x :: xs) S2
theorem da_nil : DA X [] wNil := pa_imp pa_nil fun σ H Q ⟨sd, S, Q0, st, q, an⟩ => an _ _ _ _ q (Nx.refl _ _) st.s rfl
theorem da_cons {e : Expr} {es : List Expr} {w : WE} {r : WA} (he : DE X e w) (hr : DA X es r) (hs : starEach (e :: es) X.env = (false, eval e X.env) :: starEach es X.env := by rfl) : DA X (e :: es) (wCons w r) :=
  pa_imp (pa_cons he hr hs) fun σ H Q ⟨sd, S, Q0, st, q, an⟩ => ⟨sd, S, _, st, q, fun x S1 v H1 q1 n1 s1 r1 => ⟨sd, S1, _, st.nx n1 s1, q1, fun xs S2 vs H2 q2 n2 s2 r2 => an _ _ _ _ q2 (n1.trans n2) s2 ⟨v, vs, rfl, Rel.nx n2 _ _ r1, r2⟩⟩⟩
def wTup (t : WA) : WE := fun sd S Q => t sd S fun xs S1 => xs.length ≤ 1000000 ∧ Q (.tup xs) S1
/-- a new list that nobody changes; one that may change -/
def wLst (t : WA) : WE := fun sd S Q => t sd S fun xs S1 => xs.length ≤ 1000000 ∧ Q (.lst xs) S1
def wNew (t : WA) : WE := fun sd S Q => t sd S fun xs S1 => xs.length ≤ 1000000 ∧ ∀ p, S1 p = none → Q (.obj p) (S1.set p (.lst xs))
theorem le_line {n : Nat} (h : n ≤ 1000000) : n ≤ sizeLine := Nat.le_trans h (by rw [sizeLine_eq]; decide)
variable {es : List Expr} {t : WA}
theorem de_tup {x1} (h : DA X es t) : DE X (.Tuple es x1 pos) (wTup t) :=
  pe_imp (pe_tup h) fun σ H Q ⟨sd, S, Q0, st, q, an⟩ => ⟨sd, S, _, st, q, fun xs S1 vs H1 q1 n1 s1 r1 => ⟨by rw [← r1.length]; exact le_line q1.1, fun p hp =>
    an _ _ _ _ q1.2 (n1.trans (nx_new hp)) (s1.new hp) ⟨p, vs, rfl, ⟨s1.free hp, upd_same⟩, r1.nx (nx_new hp)⟩⟩⟩
theorem de_lst (h : DA X es t) : DE X (.List es pos) (wLst t) :=
  pe_imp (pe_lst h) fun σ H Q ⟨sd, S, Q0, st, q, an⟩ => ⟨sd, S, _, st, q, fun xs S1 vs H1 q1 n1 s1 r1 => ⟨by rw [← r1.length]; exact le_line q1.1, fun p hp =>
    an _ _ _ _ q1.2 (n1.trans (nx_new hp)) (s1.new hp) ⟨p, vs, rfl, s1.free hp, upd_same, r1.nx (nx_new hp)⟩⟩⟩
theorem de_new (h : DA X es t) : DE X (.List es pos) (wNew t) :=
  pe_imp (pe_lst h) fun σ H Q ⟨sd, S, Q0, st, q, an⟩ => ⟨sd, S, _, st, q, fun xs S1 vs H1 q1 n1 s1 r1 => ⟨by rw [← r1.length]; exact le_line q1.1, fun p hp => by
    have n2 : Nx S1 H1 (S1.set p (.lst xs)) (upd H1 p (.lst vs)) := nx_obj hp (s1.free hp)
    exact an _ _ _ _ (q1.2 p (s1.free hp)) (n1.trans n2) (srel_put s1 n2 ⟨vs, upd_same, r1.nx n2⟩) rfl⟩⟩
def wCall (w : WL) (t : WA) : WE := fun sd S Q => t sd S fun xs S1 => w xs S1 Q
theorem call_lift {w : WL} {σ : St} {H : Hp} {Q : VK} (h : lift X.K (wCall w t) σ H Q) : tCB (liftL X.K w) (liftA X.K t) σ H Q := by
  obtain ⟨sd, S, Q0, st, q, an⟩ := h
  exact ⟨sd, S, _, st, q, fun xs S1 vs H1 q1 n1 s1 r1 => ⟨xs, S1, Q0, s1, r1, q1, an.nx n1⟩⟩
theorem de_callB {x : Str} {p pos : Pos} {e : Expr} {es : List Expr} {t : WA} {id : String} {w : WL} (hc : DC X (.builtin id) w) (hg : Gl X x) (hm : X.mg x = none) (hv : bootBuiltins x = some (.builtin id)) (ha : DA X (e :: es) t) (hn : x ≠ "__name__" := by decide)
    (hdb : (x == ("__debug__" : Str)) = false := by decide) (he : starEach (e :: es) X.env = (false, eval e X.env) :: starEach es X.env := by rfl) (hpl : (backTo pos (starEach es X.env)).any (fun x => x.1) = false := by rfl) : DE X (.Call (.Name x p) (e :: es) [] pos) (wCall w t) := pe_imp (pe_callB hc hg hm hv ha hn hdb he hpl) fun σ H Q h => call_lift h
theorem de_callTy {x : Str} {p pos : Pos} {e : Expr} {es : List Expr} {t : WA} {T : String} {w : WL} (hc : DC X (.type T) w) (hg : Gl X x) (hm : X.mg x = none) (hv : bootBuiltins x = some (.type T)) (ha : DA X (e :: es) t) (hn : x ≠ "__name__" := by decide)
    (hdb : (x == ("__debug__" : Str)) = false := by decide) (he : starEach (e :: es) X.env = (false, eval e X.env) :: starEach es X.env := by rfl) (hpl : (backTo pos (starEach es X.env)).any (fun x => x.1) = false := by rfl) : DE X (.Call (.Name x p) (e :: es) [] pos) (wCall w t) := pe_imp (pe_callTy hc hg hm hv ha hn hdb he hpl) fun σ H Q h => call_lift h

/-! ### statements -/
variable {st : Stmt} {sts : List Stmt} {ws wt : WS} {we : WE} {e : Expr}
def wNext : WS := fun E sd S => E.nx sd S
def wSeq (a b : WS) : WS := fun E sd S => a { E with nx := b E } sd S
theorem dss_nil : DSs X [] wNext := pss_imp pss_nil fun E σ H ⟨sd, S, E0, st, q, an⟩ => an.nx _ _ _ _ q (Nx.refl _ _) st
theorem dss_cons (h1 : DS X st ws) (h2 : DSs X sts wt) : DSs X (st :: sts) (wSeq ws wt) :=
  pss_imp (pss_cons h1 h2) fun E σ H ⟨sd, S, E0, st, q, an⟩ => ⟨sd, S, _, st, q, ⟨fun sd1 S1 σ1 H1 q1 n1 st1 => ⟨sd1, S1, E0, st1, q1, an.go n1⟩, an.rt, an.bk, an.ct⟩⟩
theorem dss_one (h1 : DS X st ws) : DSs X [st] ws := pss_one h1
def wBreak : WS := fun E sd S => E.bk sd S
def wCont : WS := fun E sd S => E.ct sd S
def wDrop (we : WE) : WS := fun E sd S => we sd S fun _ S1 => E.nx sd S1
theorem ds_expr (he : DE X e we) (hs : swapsWith e none pos.line X.env = pure false := by rfl) : DS X (.Expr e pos) (wDrop we) :=
  ps_imp (ps_expr he hs) fun E σ H ⟨sd, S, E0, st, q, an⟩ => ⟨sd, S, _, st, q, fun d S1 v H1 q1 n1 s1 r1 => an.nx _ _ _ _ q1 n1 (st.nx n1 s1)⟩
def wRet (we : WE) : WS := fun E sd S => we sd S E.rt
theorem ds_ret (he : DE X e we) : DS X (.Return (some e) pos) (wRet we) :=
  ps_imp (ps_ret he) fun E σ H ⟨sd, S, E0, st, q, an⟩ => ⟨sd, S, _, st, q, an.rt⟩
def wRetN : WS := fun E _ S => E.rt .non S
def wIfS (c : WT) (a b : WS) : WS := fun E sd S => c sd S fun k S1 => if k = true then a E sd S1 else b E sd S1
theorem ds_if {c : Expr} {a b : List Stmt} {tc : WT} (hc : DT X c tc) (ha : DSs X a ws) (hb : DSs X b wt) : DS X (.If c a b pos) (wIfS tc ws wt) := by
  refine ps_imp (ps_if hc ha hb) fun E σ H ⟨sd, S, E0, st, q, an⟩ => ⟨sd, S, _, st, q, fun k S1 H1 q1 n1 s1 => ?_⟩
  cases k with
  | true => exact ⟨sd, S1, E0, st.nx n1 s1, q1, an.go n1⟩
  | false => exact ⟨sd, S1, E0, st.nx n1 s1, q1, an.go n1⟩
def wNever : WS := fun _ _ _ => False
theorem ds_never : DS X st wNever := ps_imp ps_never fun E σ H ⟨sd, S, E0, st, q, an⟩ => q.elim

/-! ### targets -/
def gV (i : Nat) : WG := fun d sd S Q => Q (sd.set i (some d)) S
theorem dg_v {i : Nat} {x : Str} {pos : Pos} (hN : X.N.Nodup) (hi : X.N[i]? = some x := by rfl) (hx : Loc X.env.scope x := by first | exact Or.inl rfl | exact Or.inr rfl) (hf : X.fn x = true ∨ X.env.scope.names.lookup x = some .local := by first | exact .inl rfl | exact .inr rfl | assumption) : DG X (.Name x pos) (gV i) :=
  pg_imp (pg_name hN hi hx hf) fun v σ H Q ⟨d, sd, S, Q0, st, r, q, an⟩ => an _ _ _ _ q (Nx.refl _ _) (st.set i r)
def gN : WGs := fun ds sd S Q => ds = [] ∧ Q sd S
def gC (g : WG) (r : WGs) : WGs := fun ds sd S Q => match ds with
  | [] => False
  | d :: ds => g d sd S fun sd1 S1 => r ds sd1 S1 Q
theorem dgs_nil : DGs X [] gN := pgs_imp pgs_nil fun v σ H Q ⟨d, sd, S, Q0, st, r, q, an⟩ => by
  obtain ⟨rfl, q⟩ := q
  exact ⟨r, an _ _ _ _ q (Nx.refl _ _) st⟩
theorem dgs_cons {e : Expr} {es : List Expr} {g : WG} {r : WGs} (h1 : DG X e g) (h2 : DGs X es r) (hs : (assignEach (e :: es) X.env).map (·.2) = assign e X.env :: (assignEach es X.env).map (·.2) := by rfl) : DGs X (e :: es) (gC g r) :=
  pgs_imp (pgs_cons h1 h2 hs) fun v σ H Q ⟨d, sd, S, Q0, st, rr, q, an⟩ => by
    cases d with
    | nil => exact False.elim q
    | cons d ds =>
      obtain ⟨v1, vr, e1, r1, r2⟩ := rr
      exact ⟨v1, vr, e1, d, sd, S, _, st, r1, q, fun sd1 S1 σ1 H1 q1 n1 st1 => ⟨ds, sd1, S1, Q0, st1, r2.nx n1, q1, an.nx n1⟩⟩
/-- (a, b, ..) = a tuple -/
def gT (n : Nat) (r : WGs) : WG := fun d sd S Q => match d with
  | .tup xs => xs.length = n ∧ r xs sd S Q
  | _ => False
theorem dg_tup {es : List Expr} {k : Nat} {r : WGs} {n : Nat} (hc : X.calm = true) (h : DGs X es r) (hn : (assignEach es X.env).length = n := by rfl) (hst : (assignEach es X.env).findIdx? (·.1) = none := by rfl) : DG X (.Tuple es k pos) (gT n r) :=
  pg_imp (pg_tup hc h hn hst) fun v σ H Q ⟨d, sd, S, Q0, st, rr, q, an⟩ => by
    cases d with
    | tup xs =>
      obtain ⟨hl, q⟩ := q
      obtain ⟨a, vs, e, t, r⟩ := rr
      exact ⟨a, vs, e, t.sq, by rw [← r.length]; exact hl, xs, sd, S, Q0, st, r, q, an⟩
    | _ => exact False.elim q
def wAsg (we : WE) (g : WG) : WS := fun E sd S => we sd S fun d S1 => g d sd S1 E.nx
theorem asg_lift {g : WG} {E : Ends} {σ : St} {H : Hp} (h : liftS X.K (wAsg we g) E σ H) : tAsg (lift X.K we) (liftG X.K g) E σ H := by
  obtain ⟨sd, S, E0, st, q, an⟩ := h
  exact ⟨sd, S, _, st, q, fun d S1 v H1 q1 n1 s1 r1 => ⟨d, sd, S1, _, st.nx n1 s1, r1, q1, an.nx.nx n1⟩⟩
theorem ds_asg {tg e : Expr} {g : WG} (he : DE X e we) (hg : DG X tg g) (hs : swapsWithSole [tg] e pos.line X.env = pure false := by rfl) (hw : swappedStores [tg] e X.env = pure none := by rfl) (h1 : (assignEach [tg] X.env).map (·.2) = [assign tg X.env] := by rfl) :
    DS X (.Assign [tg] e pos) (wAsg we g) := ps_imp (ps_asg he hg hs hw h1) fun E σ H h => asg_lift h
theorem ds_set {i : Nat} {x : Str} {e : Expr} {pos' : Pos} (hN : X.N.Nodup) (he : DE X e we) (hi : X.N[i]? = some x := by rfl) (hx : Loc X.env.scope x := by first | exact Or.inl rfl | exact Or.inr rfl) (hs : swapsWith e (some (.Name x pos')) pos.line X.env = pure false := by rfl)
    (hf : X.fn x = true ∨ X.env.scope.names.lookup x = some .local := by first | exact .inl rfl | exact .inr rfl | assumption) : DS X (.Assign [.Name x pos'] e pos) (wAsg we (gV i)) :=
  ps_imp (ps_set hN hi hx he hs hf) fun E σ H ⟨sd, S, E0, st, q, an⟩ => ⟨sd, S, _, st, q, fun d S1 v H1 q1 n1 s1 r1 => an.nx _ _ _ _ q1 n1 ((st.nx n1 s1).set i r1)⟩
end
end L2.DL

/-! DL3: defs: what they promise over data (no repr is being made around them), calls, methods, makings, attributes -/
namespace L2.DL
open PySem PySem.Spec PyProof.Rows

/-- HandS's FnOk where, besides, no guard stands around -/
structure FnG (P : Program) (w : World) (K : PySem.W.Frag) (mg : Str → Option Value) (base : Heap) (CX : CXT) (k : Nat) (f : Addr) (fd : FuncData) (ps : List Str) (sp : Sp) : Prop where
  len : ∀ vs H Q E, sp vs H Q E → vs.length = ps.length
  go : ∀ (A : Around) (outer : List Env) (s : Shared) (H : Hp) (args : Args) (us : List Value) (vs : List V) (Q : VK) (E : XK), Room k A → A.guards = some [] → Env0 P w K mg base A outer s H →
    BindsTo s fd args (ps.zip us) → Vals vs us → sp vs H Q E → codeAny (model P w) A (.call (.ref f) args) (CR CX outer P w H s Q E) s
section
variable {P : Program} {w : World} {K : PySem.W.Frag} {mg : Str → Option Value} {base : Heap} {CX : CXT} {k j : Nat} {f : Addr} {fd : FuncData} {ps : List Str} {sp sp' : Sp}
theorem FnG.of (F : FnOk P w K mg base CX k f fd ps sp) : FnG P w K mg base CX k f fd ps sp := ⟨F.len, fun A outer s H args us vs Q E hr _ e b r h => F.run A outer s H args us vs Q E hr e b r h⟩
theorem FnG.up (F : FnG P w K mg base CX j f fd ps sp) (h : j ≤ k) : FnG P w K mg base CX k f fd ps sp := ⟨F.len, fun A outer s H args us vs Q E hr hg e b r q => F.go A outer s H args us vs Q E (hr.mono h) hg e b r q⟩
theorem FnG.imp (F : FnG P w K mg base CX k f fd ps sp) (h : ∀ vs H Q E, sp' vs H Q E → sp vs H Q E) : FnG P w K mg base CX k f fd ps sp' :=
  ⟨fun vs H Q E q => F.len vs H Q E (h _ _ _ _ q), fun A outer s H args us vs Q E hr hg e b r q => F.go A outer s H args us vs Q E hr hg e b r (h _ _ _ _ q)⟩
/-- a def's object as the written part holds it -/
def FnAt (K : PySem.W.Frag) (qual : Str) (st : Stmt) (f : Addr) (fd : FuncData) : Prop := ∃ (x : Str) (oc : Value) (od : Option Addr) (dV kV doc pm : Value) (an : Option Addr) (cdv ct : Value) (osl : Array (Option Value)),
  fd = PySem.W.fnOf x qual (defArgs st) (defBody st) (defScope st) dV kV doc pm an cdv ct ∧ K.lookup f = some ⟨oc, od, .func fd, osl⟩ ∧ PySem.W.codeIn K cdv qual = true
theorem fun_at {x qual : Str} {st : Stmt} (F : Fun K x qual st f fd) : FnAt K qual st f fd := let ⟨oc, od, kV, doc, pm, an, cdv, ct, osl, h⟩ := F.ex; ⟨x, oc, od, _, kV, doc, pm, an, cdv, ct, osl, h⟩
theorem funD_at {x qual : Str} {st : Stmt} {dvs : List V} {kws : List (Str × V)} (F : FunD K x qual (defArgs st) (defBody st) (defScope st) dvs kws f fd) : FnAt K qual st f fd := let ⟨oc, od, dV, kV, doc, pm, an, cdv, ct, osl, h1, h2, h3, _⟩ := F.ex; ⟨x, oc, od, dV, kV, doc, pm, an, cdv, ct, osl, h1, h2, h3⟩
/-- a def keeps its promise if its body does -/
theorem fnG_body {qual : Str} {st : Stmt} {N : List Str} (F : FnAt K qual st f fd) (S : FnScope N ps (defScope st)) (len : ∀ vs H Q E, sp vs H Q E → vs.length = ps.length)
    (body : ∀ (cdv : Value) (A : Around) (outer : List Env) (s : Shared) (H : Hp) (vs : List V) (Q : VK) (E : XK), Room k (A.deeper (envOfC qual (defScope st) s.heap.objs.size f cdv)) → (A.deeper (envOfC qual (defScope st) s.heap.objs.size f cdv)).guards = some [] → sp vs H Q E →
      ∃ t, PSs (cxOf CX P w K mg base N qual (defScope st) f cdv A outer s H E) (defBody st) t ∧ t { nx := fun _ H' => Q .non H', rt := Q } (start N vs) H) : FnG P w K mg base CX (k + 1) f fd ps sp := by
  obtain ⟨x, oc, od, dV, kV, doc, pm, an, cdv, ct, osl, rfl, lk, hcd⟩ := F
  refine ⟨len, fun A outer s H args us vs Q E hr hg e0 hb r hsp => ?_⟩
  have keepB : ∀ b o, base.get? b = some o → s.heap.get? b = some o := fun b o e => (e0.bs b o e).1
  have kinds : ∀ y ∈ ps.zip us, (defScope st).names.lookup y.1 = some .local ∨ ((defScope st).names.lookup y.1 = some .cell ∧ ((cellsFrom (s.heap.objs.size + 1) (defScope st).names []).lookup y.1).isSome = true) := by
    rintro ⟨n, v⟩ hy
    exact (S.par n (List.of_mem_zip hy).1).imp id fun q => ⟨q, PySem.W.cellsFrom_some _ _ _ (.inl q)⟩
  refine codeAny_call_function hr.depth (e0.mod.kin.keeps keepB _ _ lk) rfl S.co S.gen rfl (PySem.W.codeRec_of (e0.mod.kin.keeps keepB) hcd) (hb _ _ _ _ (wpAny_newFunctionEnv_cells S.kind kinds fun env he s1 x => ?_))
  subst he
  refine ⟨(e0.mod.nolimit.keeps keepB).keeps x.toInCall.keep, codeAny_func ?_⟩
  obtain ⟨t, ht, hq⟩ := body cdv A outer s H vs Q E (hr.deeper _) hg hsp
  have I := inv_start (CX := CX) (E := E) S hr.hd e0 (len _ _ _ _ hsp) r x
  refine wpAny_mono (ht.run [] s1 _ H _ I hq) (fun fl s' hs => ?_) fun _ _ hs => hs
  cases fl with
  | ret u => exact let ⟨v, _, H', J, rv, q⟩ := hs; ⟨v, H', J.os, J.bare, J.base, J.hok, rv, q⟩
  | next => exact let ⟨_, H', J, q⟩ := hs; ⟨.non, H', J.os, J.bare, J.base, J.hok, rfl, q⟩
  | brk => exact let ⟨_, _, _, q⟩ := hs; q.elim
  | cont => exact let ⟨_, _, _, q⟩ := hs; q.elim
end
section
variable {X : Cx} {CX : CXT} {k : Nat} {f C : Addr} {fd : FuncData} {ps ks : List Str} {sp : Sp} {dvs : List V} {ds : List Value} {E : XK} {x m : Str} {p pos apos : Pos} {e o : Expr} {es : List Expr} {kws : List Keyword} {ta : TE} {t tk : TA}
theorem CE.call {pins : List (Addr × Obj)} {σ : St} {H : Hp} {s s' : Shared} {Q : VK} {r : Result} (I : Inv X pins σ H s) (hx : Passes CX X E) (h : CR CX X.stack X.prog X.w H s Q E r s') :
    match r with
    | .ok (.ret u) => EP X pins σ Q u s'
    | .ok _ => False
    | .error er => X.xe er s' := by
  cases r with
  | error er => exact hx pins σ H s er s' I h
  | ok fl =>
    cases fl with
    | ret u => exact I.after h
    | next => exact h
    | brk => exact h
    | cont => exact h
theorem runG {pins : List (Addr × Obj)} {σ : St} {H : Hp} {s : Shared} {Q : VK} {args : Args} {us : List Value} {vs : List V} (F : FnG X.prog X.w X.K X.mg X.base CX k f fd ps sp) (hr : Room k X.A) (gd : X.A.guards = some []) (hx : Passes CX X E)
    (I : Inv X pins σ H s) (hb : BindsTo s fd args (ps.zip us)) (r : Vals vs us) (h : sp vs H Q E) : wpAny (model X.prog X.w) X.A (call (.ref f) args.pos args.kw) (EP X pins σ Q) X.xe s := by
  refine wpAny_call (codeAny_mono (F.go X.A X.stack s H args us vs Q E hr gd I.env0 hb r h) fun rs s' hq => ?_)
  have z := CE.call I hx hq
  cases rs with
  | error er => exact z
  | ok fl =>
    cases fl with
    | ret u => exact z
    | next => exact z.elim
    | brk => exact z.elim
    | cont => exact z.elim
theorem runB {pins : List (Addr × Obj)} {σ : St} {H : Hp} {s : Shared} {Q : VK} {us : List Value} {vs : List V} (F : FnG X.prog X.w X.K X.mg X.base CX k f fd ps sp) (hr : Room k X.A) (gd : X.A.guards = some []) (hb : Binds X.K fd ps ds) (hd : Vals dvs ds) (hx : Passes CX X E)
    (I : Inv X pins σ H s) (r : Vals vs us) (h : sp (vs ++ dvs) H Q E) : wpAny (model X.prog X.w) X.A (call (.ref f) us) (EP X pins σ Q) X.xe s := by
  have r2 := r.append hd
  exact runG (args := ⟨us, []⟩) F hr gd hx I (hb s us I.kIn (by rw [← r2.length]; exact F.len _ _ _ _ h)) r2 h
theorem peG_call (F : FnG X.prog X.w X.K X.mg X.base CX k f fd ps sp) (hr : Room k X.A) (gd : X.A.guards = some []) (hg : Gl X x) (hm : X.mg x = some (.ref f)) (hk : PySem.W.keepIn X.K (.ref f) = true) (hb : Binds X.K fd ps ds) (hd : Vals dvs ds) (hx : Passes CX X E)
    (ha : PA X (e :: es) t) (hdb : (x == ("__debug__" : Str)) = false := by decide) (he : starEach (e :: es) X.env = (false, eval e X.env) :: starEach es X.env := by rfl) (hpl : (backTo pos (starEach es X.env)).any (·.1) = false := by rfl) :
    PE X (.Call (.Name x p) (e :: es) [] pos) (tCall sp dvs E t) :=
  ⟨fun pins s σ H Q I h => wpAny_Call_Name_kw (ld_glob I hg hm (PySem.W.callWith_K (h₀ := X.base) I.ok.mod.kin hk (thn (ha.run pos pins s σ H _ I h) fun us s1 ⟨vs, H1, I1, r, q⟩ => ⟨I1.kIn, runB F hr gd hb hd hx I1 r q⟩) he hpl) hdb)⟩
/-- a method of an instance -/
abbrev MethTree (X : Cx) (o : Expr) (m : Str) (apos pos : Pos) (pl : Sem Bool) (es : List Expr) : Prop := eval (.Call (.Attribute o m apos) es [] pos) X.env = (do
      let ov ← eval o X.env
      standAt apos.atName
      let (f, first) ← holding [ov] (getMethod ov m pl)
      callWith pos f first (backTo pos (starEach es X.env)) (backToKw pos (keywordEach [] X.env)))
/-- C(..) -/
theorem make_guards {A : Around} {us : List Value} {kw : List (Str × Value)} : (A.under (.builtin "type.__call__" ⟨.ref C :: us, kw⟩)).guards = A.guards := by
  first
    | rfl
    | simp [Around.under, Code.guards, Code.isGuard, guardIds, pushGuards]
theorem runMk {pins : List (Addr × Obj)} {σ : St} {H : Hp} {s : Shared} {Q : VK} {args : Args} {us : List Value} {vs : List V} (M : Mk X.K C f) (F : FnG X.prog X.w X.K X.mg X.base CX k f fd ps sp) (hr : Room (k + 1) X.A) (gd : X.A.guards = some []) (hx : Passes CX X E)
    (I : Inv X pins σ H s) (hb : ∀ (s' : Shared) (x : Value), X.K.In s'.heap → (x :: us).length = ps.length → BindsTo s' fd ⟨x :: args.pos, args.kw⟩ (ps.zip (x :: us))) (r : Vals vs us)
    (h : ∀ x dx, H x = none → H dx = none → dx ≠ x → sp (.ref x :: vs) (upd (upd H dx (.own x)) x (.ins C dx [])) (fun v H2 => v = .non ∧ Q (.ref x) H2) E) : wpAny (model X.prog X.w) X.A (call (.ref C) args.pos args.kw) (EP X pins σ Q) X.xe s := by
  have hq := h (s.heap.objs.size + 1) s.heap.objs.size (I.hok.fresh (Nat.le_succ _)) (I.hok.fresh (Nat.le_refl _)) (Nat.ne_of_lt (Nat.lt_succ_self _))
  have I2 := Inv.made (C := C) I
  have r2 : Vals (V.ref (s.heap.objs.size + 1) :: vs) (Value.ref (s.heap.objs.size + 1) :: us) := .cons rfl r
  refine wpAny_call (make_map (f := f) I.kIn M.makes M.init (beq_iff_eq.mp M.fn) (codeAny_mono (F.go _ X.stack _ _ ⟨Value.ref (s.heap.objs.size + 1) :: args.pos, args.kw⟩ (Value.ref (s.heap.objs.size + 1) :: us) _ _ E (hr.make C args.pos args.kw)
    (make_guards.trans gd) (I2.env0.make C args.pos args.kw) (hb _ _ I2.kIn (by rw [← r2.length]; exact F.len _ _ _ _ hq)) r2 hq) fun rs s' hq' => ?_))
  have z := CE.call I2 hx hq'
  cases rs with
  | error er => exact z
  | ok fl =>
    cases fl with
    | ret u =>
      obtain ⟨v, H', I3, rv, ev, q3⟩ := z
      subst ev
      exact ⟨rv, ⟨V.ref (s.heap.objs.size + 1), H', I3, rfl, q3⟩⟩
    | next => exact z.elim
    | brk => exact z.elim
    | cont => exact z.elim
/-! ### .. over data -/
/-- a promise over data: the arguments, the objects, what is wanted of the answer, what is wanted of an error (its class, its attributes) -/
abbrev EK := Str → List (Str × D) → SO → Prop
abbrev DSp := List D → SO → KD → EK → Prop
def AnsX (K : PySem.W.Frag) (S : SO) (H : Hp) (E0 : EK) (E : XK) : Prop := ∀ n fs S' H' C d, E0 n fs S' → Nx S H S' H' → SRel K S' H' → PySem.W.nsIn K mainGlobals n = some (some (.ref C)) → ErrF K S' H' d fs → E (.ref C) d H'
def liftSp (K : PySem.W.Frag) (sp : DSp) : Sp := fun vs H Q E => ∃ ds S Q0 E0, SRel K S H ∧ Rels K S H ds vs ∧ sp ds S Q0 E0 ∧ Ans K S H Q0 Q ∧ AnsX K S H E0 E
abbrev NoE : EK := fun _ _ _ => False
theorem noE_ans {K : PySem.W.Frag} {S : SO} {H : Hp} {E : XK} : AnsX K S H NoE E := fun _ _ _ _ _ _ h => h.elim
abbrev FnD (P : Program) (w : World) (K : PySem.W.Frag) (mg : Str → Option Value) (base : Heap) (k : Nat) (f : Addr) (fd : FuncData) (ps : List Str) (sp : DSp) : Prop := FnG P w K mg base CX0 k f fd ps (liftSp K sp)

variable {dsp : DSp} {dds : List D} {wt wk : WA} {wo : WE}
/-- f(..); the defaults dds -/
def wFn (sp : DSp) (dds : List D) (t : WA) : WE := fun sd S Q => t sd S fun xs S1 => sp (xs ++ dds) S1 Q NoE
/-- the defaults: values that hang on no heap -/
def Lits (dds : List D) (dvs : List V) : Prop := ∀ K S H, Rels K S H dds dvs
theorem lits_nil : Lits [] [] := fun _ _ _ => rfl
theorem de_fn (F : FnD X.prog X.w X.K X.mg X.base k f fd ps dsp) (hr : Room k X.A) (gd : X.A.guards = some []) (hm : X.mg x = some (.ref f)) (hk : PySem.W.keepIn X.K (.ref f) = true) (hb : Binds X.K fd ps ds) (hd : Vals dvs ds) (hl : Lits dds dvs) (ha : DA X (e :: es) wt)
    (hg : Gl X x := by rfl) (hdb : (x == ("__debug__" : Str)) = false := by decide) (he : starEach (e :: es) X.env = (false, eval e X.env) :: starEach es X.env := by rfl) (hpl : (backTo pos (starEach es X.env)).any (·.1) = false := by rfl) :
    DE X (.Call (.Name x p) (e :: es) [] pos) (wFn dsp dds wt) :=
  pe_imp (peG_call F hr gd hg hm hk hb hd (E := E0) pass0 ha hdb he hpl) fun σ H Q ⟨sd, S, Q0, st, q, an⟩ => ⟨sd, S, _, st, q, fun xs S1 vs H1 q1 n1 s1 r1 => ⟨xs ++ dds, S1, Q0, NoE, s1, r1.app (hl _ _ _), q1, an.nx n1, noE_ans⟩⟩
/-- f(k = v, ..): gD puts the values in the parameters' order -/
abbrev DK (X : Cx) (kws : List Keyword) (w : WA) : Prop := PK X kws (liftA X.K w)
theorem dk_nil : DK X [] wNil := ⟨fun pos pins s σ H Q I ⟨sd, S, Q0, st, q, an⟩ => pk_nil.run pos pins s σ H Q I (an _ _ _ _ q (Nx.refl _ _) st.s rfl)⟩
theorem dk_cons {nm : Option Str} {kpos : Pos} {w : WE} (he : DE X e w) (hr : DK X kws wk) : DK X (⟨nm, e, kpos⟩ :: kws) (wCons w wk) :=
  ⟨fun pos pins s σ H Q I ⟨sd, S, Q0, st, q, an⟩ => (pk_cons he hr).run pos pins s σ H Q I ⟨sd, S, _, st, q, fun x S1 v H1 q1 n1 s1 r1 => ⟨sd, S1, _, st.nx n1 s1, q1, fun xs S2 vs H2 q2 n2 s2 r2 => an _ _ _ _ q2 (n1.trans n2) s2 ⟨v, vs, rfl, Rel.nx n2 _ _ r1, r2⟩⟩⟩⟩
def GD (gD : List D → List D → List D) (gV : List V → List V → List V) : Prop := ∀ K S H ds vs es us, Rels K S H ds vs → Rels K S H es us → Rels K S H (gD ds es) (gV vs us)
/-- the instance d of the class at C, of these attributes -/
def InsD (C : Addr) (d : D) (S : SO) (fs : List (Str × D)) : Prop := match d with
  | .ins C' gs => C' = C ∧ gs = fs
  | .obj a => S a = some (.ins C fs)
  | _ => False
theorem InsD.at {K : PySem.W.Frag} {S : SO} {H : Hp} {d : D} {v : V} {fs : List (Str × D)} (h : InsD C d S fs) (s : SRel K S H) (r : Rel K S H d v) : ∃ a dx l, v = .ref a ∧ H a = some (.ins C dx l) ∧ RelF K S H fs l := by
  cases d with
  | ins C' gs =>
    obtain ⟨rfl, rfl⟩ := h
    obtain ⟨a, dx, l, e, _, hl, rf⟩ := r
    exact ⟨a, dx, l, e, hl, rf⟩
  | obj a =>
    obtain ⟨dx, l, hl, rf⟩ := s a _ h
    exact ⟨a, dx, l, r, hl, rf⟩
  | _ => exact False.elim h
/-- o.m(..) -/
def wMeth (C : Addr) (m : Str) (sp : DSp) (dds : List D) (wo : WE) (t : WA) : WE := fun sd S Q => wo sd S fun d S1 => (∃ fs, InsD C d S1 fs ∧ fs.lookup m = none) ∧ t sd S1 fun xs S2 => sp (d :: (xs ++ dds)) S2 Q NoE
/-- .. frozen at the end -/
def wMakeF (C : Addr) (sp : DSp) (dds : List D) (t : WA) : WE := fun sd S Q => t sd S fun xs S1 => ∀ p, S1 p = none → sp (.obj p :: (xs ++ dds)) (S1.set p (.ins C [])) (fun d S2 => d = .non ∧ ∃ fs, S2 p = some (.ins C fs) ∧ Q (.ins C fs) (S2.del p)) NoE
theorem make_srel {K : PySem.W.Frag} {S : SO} {H : Hp} {x dx : Addr} (s : SRel K S H) (nx : H x = none) (nd : H dx = none) (ne : dx ≠ x) : Nx S H (S.set x (.ins C [])) (upd (upd H dx (.own x)) x (.ins C dx [])) ∧ SRel K (S.set x (.ins C [])) (upd (upd H dx (.own x)) x (.ins C dx [])) := by
  have n1 : Nx S H S (upd H dx (.own x)) := nx_new nd
  have s1 := s.new (o := .own x) nd
  have hx : upd H dx (.own x) x = none := by rw [upd_ne ne.symm]; exact nx
  have n2 : Nx S (upd H dx (.own x)) (S.set x (.ins C [])) (upd (upd H dx (.own x)) x (.ins C dx [])) := nx_obj hx (s1.free hx)
  exact ⟨n1.trans n2, srel_put s1 n2 ⟨dx, [], upd_same, rfl⟩⟩
theorem nx_del {S : SO} {H : Hp} (p : Addr) : Nx S H (S.del p) H := fun a u h1 h2 => ⟨by unfold SO.del; split; rfl; exact h1, h2⟩
theorem srel_del {K : PySem.W.Frag} {S : SO} {H : Hp} (s : SRel K S H) (p : Addr) : SRel K (S.del p) H := fun a u q => by
  have q' : S a = some u := by
    unfold SO.del at q
    split at q
    · cases q
    · exact q
  exact (s a u q').nx (nx_del p) rfl
theorem del_at {S : SO} {p : Addr} : (S.del p) p = none := if_pos rfl
/-- nobody changes it any more -/
theorem frz_ins {K : PySem.W.Frag} {S : SO} {H : Hp} {p : Addr} {fs : List (Str × D)} (s : SRel K S H) (h : S p = some (.ins C fs)) : Nx S H (S.del p) H ∧ SRel K (S.del p) H ∧ Rel K (S.del p) H (.ins C fs) (.ref p) := by
  obtain ⟨dx, l, hl, rf⟩ := s p _ h
  exact ⟨nx_del p, srel_del s p, p, dx, l, rfl, del_at, hl, RelF.nx (nx_del p) _ _ rf⟩
theorem frz_lst {K : PySem.W.Frag} {S : SO} {H : Hp} {p : Addr} {ds : List D} (s : SRel K S H) (h : S p = some (.lst ds)) : Nx S H (S.del p) H ∧ SRel K (S.del p) H ∧ Rel K (S.del p) H (.lst ds) (.ref p) := by
  obtain ⟨l, hl, rf⟩ := s p _ h
  exact ⟨nx_del p, srel_del s p, p, l, rfl, del_at, hl, rf.nx (nx_del p)⟩
theorem frz_dic {K : PySem.W.Frag} {S : SO} {H : Hp} {p : Addr} {t : Bool} {kvs : List (D × D)} (s : SRel K S H) (h : S p = some (.dic t kvs)) : Nx S H (S.del p) H ∧ SRel K (S.del p) H ∧ Rel K (S.del p) H (.dic t kvs) (.ref p) := by
  rcases s p _ h with ⟨l, ht, hl, rf⟩ | ⟨l, ht, hl, rf⟩
  · exact ⟨nx_del p, srel_del s p, p, rfl, del_at, .inl ⟨l, ht, hl, RelK.nx (nx_del p) _ _ rf⟩⟩
  · exact ⟨nx_del p, srel_del s p, p, rfl, del_at, .inr ⟨l, ht, hl, RelT.nx (nx_del p) _ _ rf⟩⟩
/-- o.f, an attribute -/
def wFld (C : Addr) (g : Str) (wo : WE) : WE := fun sd S Q => wo sd S fun d S1 => ∃ fs v, InsD C d S1 fs ∧ fs.lookup g = some v ∧ Q v S1
/-- o.p, a property that gives the attribute g -/
theorem de_prop {pn g : Str} {pa ga : Addr} {fdg : FuncData} {psg : List Str} {j : Nat} (c : Cls X.K C) (hp : PropOf X.K C pn pa ga) (F : FnOk X.prog X.w X.K X.mg X.base CX0 j ga fdg psg (getSp C g)) (hr : Room (j + 1) X.A) (hbi : Binds X.K fdg psg []) (he : DE X o wo)
    (hb : attributeBase o pn X.env (eval o X.env) = eval o X.env := by rfl) : DE X (.Attribute o pn pos) (wFld C g wo) :=
  pe_imp (pe_prop he c hp F hr hbi .nil (E := E0) pass0 hb) fun σ H Q ⟨sd, S, Q0, st, q, an⟩ => ⟨sd, S, _, st, q, fun d S1 v H1 ⟨fs, u, hi, hl, q1⟩ n1 s1 r1 => by
    obtain ⟨a, dx, l, e, hH, rf⟩ := hi.at s1 r1
    obtain ⟨y, hy, ry⟩ := rf.look hl
    exact ⟨a, dx, l, e, hH, a, dx, l, y, rfl, hH, hy, an _ _ _ _ q1 n1 s1 ry⟩⟩
/-- self.f = e -/
theorem RelF.put {K : PySem.W.Frag} {S : SO} {H : Hp} {d : D} {v : V} (r : Rel K S H d v) (g : Str) : ∀ {fs : List (Str × D)} {l : List (Str × V)}, RelF K S H fs l → RelF K S H (putD g d fs) (putF g v l)
  | [], _, h => by
    have e : _ = [] := h
    subst e
    exact ⟨v, [], rfl, r, rfl⟩
  | (y, d') :: fs, _, h => by
    obtain ⟨u, t, rfl, h1, h2⟩ := h
    unfold putD putF
    split
    · exact ⟨v, t, rfl, r, h2⟩
    · exact ⟨u, _, rfl, h1, h2.put r g⟩
theorem RelF.length {K : PySem.W.Frag} {S : SO} {H : Hp} : ∀ {fs : List (Str × D)} {l : List (Str × V)}, RelF K S H fs l → fs.length = l.length
  | [], _, h => by
    have e : _ = [] := h
    rw [e]
    rfl
  | (y, d') :: fs, _, h => by
    obtain ⟨u, t, rfl, h1, h2⟩ := h
    rw [List.length_cons, List.length_cons, h2.length]
def wSetF (C : Addr) (g : Str) (wo we : WE) : WS := fun E sd S => we sd S fun y S1 => wo sd S1 fun d S2 => ∃ a fs, d = .obj a ∧ S2 a = some (.ins C fs) ∧ fs.length < 1000 ∧ E.nx sd (S2.set a (.ins C (putD g y fs)))
theorem ds_setF {g : Str} {we : WE} {value : Expr} {pos' : Pos} (c : Cls X.K C) (n : NoAttr X.K C g) (ha : DE X o wo) (hv : DE X value we) (hs : swapsWith value (some (.Attribute o g pos')) pos.line X.env = pure false := by rfl) : DS X (.Assign [.Attribute o g pos'] value pos) (wSetF C g wo we) :=
  ps_imp (ps_fld ha hv hs) fun E σ H ⟨sd, S, E0, st, q, an⟩ => ⟨sd, S, _, st, q, fun y S1 v H1 q1 n1 s1 r1 => ⟨sd, S1, _, st.nx n1 s1, q1, fun d S2 u H2 ⟨a, fs, e, hS, hlt, q2⟩ n2 s2 r2 => by
    subst e
    obtain ⟨dx, l, hH, rf⟩ := s2 a _ hS
    refine ⟨a, C, dx, l, r2, hH, c, n, by rw [← rf.length]; exact hlt, ?_⟩
    have n3 : Nx S2 H2 (S2.set a (.ins C (putD g y fs))) (upd H2 a (.ins C dx (putF g v l))) := nx_put hS
    have s3 := srel_put s2 n3 ⟨dx, _, upd_same, RelF.nx n3 _ _ (rf.put (Rel.nx n2 _ _ r1) g)⟩
    exact an.nx _ _ _ _ q2 (n1.trans (n2.trans n3)) (st.nx (n1.trans (n2.trans n3)) s3)⟩⟩
end
end L2.DL

/-! DL4: a def's promise by its body; loops; list comprehensions -/
namespace L2.DL
open PySem PySem.Spec PyProof.Rows

/-! ### what a result is worth when objects are forgotten or change no more -/
structure Rf (S : SO) (d : D) (S0 : SO) (d0 : D) : Prop where
  sub : ∀ a, S a = none → S0 a = none
  srel : ∀ K H, SRel K S H → SRel K S0 H
  rel : ∀ K H v, SRel K S H → Rel K S H d v → Rel K S0 H d0 v
theorem Rf.refl (S : SO) (d : D) : Rf S d S d := ⟨fun _ h => h, fun _ _ h => h, fun _ _ _ _ h => h⟩
theorem Rf.trans {S S1 S2 : SO} {d d1 d2 : D} (a : Rf S d S1 d1) (b : Rf S1 d1 S2 d2) : Rf S d S2 d2 := ⟨fun x h => b.sub x (a.sub x h), fun K H h => b.srel K H (a.srel K H h), fun K H v s h => b.rel K H v (a.srel K H s) (a.rel K H v s h)⟩
theorem Rf.to {S S0 : SO} (d : D) (h : ∀ a o, S0 a = some o → S a = some o) : Rf S d S0 d := by
  have sub : ∀ a, S a = none → S0 a = none := fun a e => by
    cases q : S0 a with
    | none => rfl
    | some o =>
      rw [h a o q] at e
      cases e
  have nx : ∀ H, Nx S H S0 H := fun H a u h1 h2 => ⟨sub a h1, h2⟩
  exact ⟨sub, fun K H s a o q => (s a o (h a o q)).nx (nx H) rfl, fun K H v _ r => Rel.nx (nx H) d v r⟩
theorem Rf.drop (S : SO) (d : D) (p : Addr) : Rf S d (S.del p) d := .to d fun a o q => by
  unfold SO.del at q
  split at q
  · cases q
  · exact q
theorem Rf.lst {S : SO} {p : Addr} {ds : List D} (h : S p = some (.lst ds)) : Rf S (.obj p) (S.del p) (.lst ds) := by
  have z := Rf.drop S (.obj p) p
  refine ⟨z.sub, z.srel, fun K H v s r => ?_⟩
  have e : v = .ref p := r
  rw [e]
  exact (frz_lst s h).2.2
theorem Rf.dic {S : SO} {p : Addr} {t : Bool} {ds : List (D × D)} (h : S p = some (.dic t ds)) : Rf S (.obj p) (S.del p) (.dic t ds) := by
  have z := Rf.drop S (.obj p) p
  refine ⟨z.sub, z.srel, fun K H v s r => ?_⟩
  have e : v = .ref p := r
  rw [e]
  exact (frz_dic s h).2.2
theorem Rf.ins {S : SO} {p C : Addr} {fs : List (Str × D)} (h : S p = some (.ins C fs)) : Rf S (.obj p) (S.del p) (.ins C fs) := by
  have z := Rf.drop S (.obj p) p
  refine ⟨z.sub, z.srel, fun K H v s r => ?_⟩
  have e : v = .ref p := r
  rw [e]
  exact (frz_ins s h).2.2
theorem Rf.dropS {S : SO} {p : Addr} {o : DO} (d : D) (h : S p = none) : Rf (S.set p o) d S d := by
  have z := Rf.drop (S.set p o) d p
  rw [del_set h] at z
  exact z
theorem Rf.pair {S S1 S2 : SO} {a b a1 b1 : D} (h1 : Rf S a S1 a1) (h2 : Rf S1 b S2 b1) : Rf S (.tup [a, b]) S2 (.tup [a1, b1]) := by
  refine ⟨fun x h => h2.sub x (h1.sub x h), fun K H h => h2.srel K H (h1.srel K H h), fun K H v s r => ?_⟩
  obtain ⟨p, vs, e, t, rs⟩ := r
  obtain ⟨x, y, rfl, ra, rb⟩ := rs.two
  have n1 : Nx S H S1 H := fun a u q1 q2 => ⟨h1.sub a q1, q2⟩
  have n2 : Nx S1 H S2 H := fun a u q1 q2 => ⟨h2.sub a q1, q2⟩
  have s1 := h1.srel K H s
  exact ⟨p, _, e, (t.nx n1).nx n2, x, _, rfl, Rel.nx n2 _ _ (h1.rel K H x s ra), y, _, rfl, h2.rel K H y s1 (Rel.nx n1 _ _ rb), rfl⟩
/-- .. wanted of it -/
def Cl (Q : KD) : KD := fun d S' => ∃ d0 S0, Rf S' d S0 d0 ∧ Q d0 S0
theorem Cl.ans {K : PySem.W.Frag} {S : SO} {H : Hp} {Q0 : KD} {Q : VK} (an : Ans K S H Q0 Q) : Ans K S H (Cl Q0) Q := fun d S' v H' ⟨d0, S0, rf, q⟩ n s r =>
  an d0 S0 v H' q (fun a u h1 h2 => let ⟨p, q⟩ := n a u h1 h2; ⟨rf.sub a p, q⟩) (rf.srel K H' s) (rf.rel K H' v s r)
theorem Cl.of {Q : KD} {d : D} {S : SO} (h : Q d S) : Cl Q d S := ⟨d, S, .refl _ _, h⟩
def endsOf (Q : KD) : EndsD := { nx := fun _ S' => Cl Q .non S', rt := Cl Q }
def startD (N : List Str) (ds : List D) : SD := ds.map some ++ List.replicate (N.length - ds.length) none
theorem start_rel {K : PySem.W.Frag} {S : SO} {H : Hp} {N : List Str} {ds : List D} {vs : List V} (r : Rels K S H ds vs) : RelS K S H (startD N ds) (start N vs) := by
  have hl := r.length
  refine ⟨by unfold startD start; rw [List.length_append, List.length_append, List.length_map, List.length_map, List.length_replicate, List.length_replicate, hl], fun i d e => ?_⟩
  unfold startD at e
  by_cases hi : i < ds.length
  · rw [List.getElem?_append_left (by simpa using hi), List.getElem?_map] at e
    cases q : ds[i]? with
    | none =>
      rw [q] at e
      cases e
    | some d' =>
      rw [q] at e
      cases e
      obtain ⟨v, hv, rv⟩ := r.get q
      refine ⟨v, ?_, rv⟩
      unfold start
      rw [List.getElem?_append_left (by rw [List.length_map]; omega), List.getElem?_map, hv]
      rfl
  · rw [List.getElem?_append_right (by simpa using hi), List.getElem?_replicate] at e
    split at e <;> cases e
section
variable {P : Program} {w : World} {K : PySem.W.Frag} {mg : Str → Option Value} {base : Heap}
/-- THE RULE for a def -/
theorem fnD_ok {k : Nat} {f : Addr} {fd : FuncData} {qual : Str} {st : Stmt} {N ps : List Str} {sp : DSp} {w0 : WS} (F : FnAt K qual st f fd) (S : FnScope N ps (defScope st)) (len : ∀ ds S Q E, sp ds S Q E → ds.length = ps.length)
    (body : ∀ (cdv : Value) (A : Around) (outer : List Env) (s : Shared) (H : Hp) (E : XK), Room k (A.deeper (envOfC qual (defScope st) s.heap.objs.size f cdv)) → (A.deeper (envOfC qual (defScope st) s.heap.objs.size f cdv)).guards = some [] →
      DSs (cxOf CX0 P w K mg base N qual (defScope st) f cdv A outer s H E).nox (defBody st) w0)
    (hw : ∀ ds S Q E, sp ds S Q E → w0 (endsOf Q) (startD N ds) S) : FnD P w K mg base (k + 1) f fd ps sp := by
  refine fnG_body F S (fun vs H Q E ⟨ds, S, Q0, E0, _, r, h, _⟩ => by rw [← r.length]; exact len _ _ _ _ h) fun cdv A outer s H vs Q E hr hg ⟨ds, S, Q0, E0, sr, r, h, an, _⟩ => ?_
  refine ⟨_, (body cdv A outer s H E hr hg).nox, startD N ds, S, endsOf Q0, ⟨sr, start_rel r⟩, hw ds S Q0 E0 h, fun sd S' σ H' q n st => ?_, Cl.ans an, fun _ _ _ _ q => q.elim, fun _ _ _ _ q => q.elim⟩
  exact Cl.ans an .non S' .non H' q n st.s rfl
end

/-! ### what is walked -/
structure ItD where
  items : List D
  ok : SO → Prop
structure JRel (K : PySem.W.Frag) (S0 : SO) (H0 : Hp) (J : ItD) (JV : It) : Prop where
  go : ∀ i S H, Nx S0 H0 S H → SRel K S H → J.ok S → i < J.items.length → JV.go i H
  stop : ∀ i S H, Nx S0 H0 S H → SRel K S H → J.ok S → i = J.items.length → JV.stop i H
  yld : ∀ i S H x H' d, Nx S0 H0 S H → SRel K S H → J.ok S → J.items[i]? = some d → JV.yld i H x H' → Nx S H S H' ∧ SRel K S H' ∧ Rel K S H' d x
abbrev WI := SD → SO → (ItD → SO → Prop) → Prop
def liftI (K : PySem.W.Frag) (w : WI) : TI := fun σ H R => ∃ sd S R0, Sta K sd S σ H ∧ w sd S R0 ∧ ∀ J S' H' JV, R0 J S' → Nx S H S' H' → SRel K S' H' → JRel K S' H' J JV → R JV H'
abbrev DI (X : Cx) (tg iter : Expr) (w : WI) : Prop := PI X tg iter (liftI X.K w)
section
variable {X : Cx} {tg e : Expr} {we : WE} {pos : Pos}
theorem pi_imp {tg it : Expr} {t t' : TI} (h : PI X tg it t) (i : ∀ σ H R, t' σ H R → t σ H R) : PI X tg it t' := ⟨fun pins s σ H R I q => h.run pins s σ H R I (i σ H R q)⟩
/-- a list or a tuple by its items -/
def seqD (d : D) (S : SO) (R : List D → (SO → Prop) → Prop) : Prop := match d with
  | .lst xs => R xs fun _ => True
  | .src xs => R xs fun _ => True
  | .tup xs => R xs fun _ => True
  | .kt xs => R xs fun _ => True
  | .tf xs => R xs fun _ => True
  | .obj a => ∃ xs, S a = some (.lst xs) ∧ R xs fun S => S a = some (.lst xs)
  | _ => False
def wSeqI (we : WE) : WI := fun sd S R => we sd S fun d S1 => seqD d S1 fun xs ok => R ⟨xs, ok⟩ S1
theorem SqL.uniq {K : PySem.W.Frag} {S : SO} {H : Hp} {a : Addr} {xs : List D} (h : S a = some (.lst xs)) (s : SRel K S H) : ∃ vs, SqL K H a vs ∧ Rels K S H xs vs := let ⟨vs, e, r⟩ := s a _ h; ⟨vs, .of e, r⟩
theorem jrel_lst {K : PySem.W.Frag} {S0 : SO} {H0 : Hp} {a : Addr} {xs : List D} {ok : SO → Prop} (h : ∀ S H, Nx S0 H0 S H → SRel K S H → ok S → ∃ vs, SqL K H a vs ∧ Rels K S H xs vs) : JRel K S0 H0 ⟨xs, ok⟩ (Itl K a) where
  go := fun i S H n s o hi => by
    obtain ⟨vs, q, r⟩ := h S H n s o
    obtain ⟨v, hv, _⟩ := r.get (List.getElem?_eq_getElem hi)
    exact ⟨vs, v, q, hv⟩
  stop := fun i S H n s o hi => by
    obtain ⟨vs, q, r⟩ := h S H n s o
    exact ⟨vs, q, by rw [← r.length]; exact Nat.le_of_eq hi.symm⟩
  yld := fun i S H x H' d n s o hi y => by
    obtain ⟨vs, q, r⟩ := h S H n s o
    obtain ⟨rfl, y⟩ := y
    obtain ⟨v, hv, rv⟩ := r.get hi
    have e := y vs q
    rw [hv] at e
    cases e
    exact ⟨.refl _ _, s, rv⟩
theorem jrel_tup {K : PySem.W.Frag} {S0 : SO} {H0 : Hp} {a : Addr} {xs : List D} {ok : SO → Prop} (h : ∀ S H, Nx S0 H0 S H → SRel K S H → ok S → ∃ vs, SqT K H a vs ∧ Rels K S H xs vs) : JRel K S0 H0 ⟨xs, ok⟩ (Itt K a) where
  go := fun i S H n s o hi => by
    obtain ⟨vs, q, r⟩ := h S H n s o
    obtain ⟨v, hv, _⟩ := r.get (List.getElem?_eq_getElem hi)
    exact ⟨vs, v, q, hv⟩
  stop := fun i S H n s o hi => by
    obtain ⟨vs, q, r⟩ := h S H n s o
    exact ⟨vs, q, by rw [← r.length]; exact Nat.le_of_eq hi.symm⟩
  yld := fun i S H x H' d n s o hi y => by
    obtain ⟨vs, q, r⟩ := h S H n s o
    obtain ⟨rfl, y⟩ := y
    obtain ⟨v, hv, rv⟩ := r.get hi
    have e := y vs q
    rw [hv] at e
    cases e
    exact ⟨.refl _ _, s, rv⟩
def rList (K : PySem.W.Frag) : V → Hp → (It → Hp → Prop) → Prop := fun x H1 R => ∃ a, x = .ref a ∧ (∃ xs, SqL K H1 a xs) ∧ R (Itl K a) H1
def rTup (K : PySem.W.Frag) : V → Hp → (It → Hp → Prop) → Prop := fun x H1 R => ∃ a, x = .ref a ∧ (∃ xs, SqT K H1 a xs) ∧ R (Itt K a) H1
theorem iter_list {pins : List (Addr × Obj)} {s : Shared} {σ : St} {H : Hp} {x : V} {v : Value} {R : It → Hp → Prop} (I : Inv X pins σ H s) (rx : RelV x v) (h : rList X.K x H R) : wpAny (model X.prog X.w) X.A (pyIter v) (PIE X pins σ tg R) X.xe s := by
  obtain ⟨a, rfl, ⟨xs, hq⟩, q⟩ := h
  cases rx
  obtain ⟨its, rv, p, hz⟩ := I.list hq
  refine wpAny_pyIter_list p.isList ⟨s.heap.objs.size, [s.heap.objs.size], _, _, H, rfl, I.kept (t' := s.toks) fun b o e => Heap.get?_push_of_some _ e, turn_list a _, ⟨_, Heap.get?_push_size _ rfl, rfl, rfl⟩, fun b hb => ?_, q⟩
  obtain rfl : b = s.heap.objs.size := by simpa using hb
  exact I.fpOk (Nat.le_refl _) (I.hok.fresh (Nat.le_refl _))
theorem iter_tup {pins : List (Addr × Obj)} {s : Shared} {σ : St} {H : Hp} {x : V} {v : Value} {R : It → Hp → Prop} (I : Inv X pins σ H s) (rx : RelV x v) (h : rTup X.K x H R) : wpAny (model X.prog X.w) X.A (pyIter v) (PIE X pins σ tg R) X.xe s := by
  obtain ⟨a, rfl, ⟨xs, hq⟩, q⟩ := h
  cases rx
  obtain ⟨its, rv, p, hz⟩ := I.tuple hq
  refine wpAny_pyIter_tuple (show s.heap.IsTuple a its.toArray from p) ⟨s.heap.objs.size, [s.heap.objs.size], _, _, H, rfl, I.kept (t' := s.toks) fun b o e => Heap.get?_push_of_some _ e, turn_tuple a _, ⟨_, Heap.get?_push_size _ rfl, rfl, rfl⟩, fun b hb => ?_, q⟩
  obtain rfl : b = s.heap.objs.size := by simpa using hb
  exact I.fpOk (Nat.le_refl _) (I.hok.fresh (Nat.le_refl _))
theorem di_seq (he : DE X e we) : DI X tg e (wSeqI we) := by
  refine ⟨fun pins s σ H R I ⟨sd, S, R0, st, q, an⟩ => ?_⟩
  refine thn (he.run pins s σ H (fun v H1 => rList X.K v H1 R ∨ rTup X.K v H1 R) I ⟨sd, S, _, st, q, fun d S1 v H1 q1 n1 s1 r1 => ?_⟩) fun v s1 ⟨x, H1, I1, r1, q1⟩ => q1.elim (iter_list I1 r1) (iter_tup I1 r1)
  cases d with
  | lst xs =>
    obtain ⟨a, vs, e, t, hv, r⟩ := r1
    refine .inl ⟨a, e, ⟨vs, .of hv⟩, an _ _ _ _ q1 n1 s1 (jrel_lst fun S2 H2 n2 s2 _ => ⟨vs, .of (n2 a _ t hv).2, r.nx n2⟩)⟩
  | src xs =>
    obtain ⟨a, vs, e, t, r⟩ := r1
    refine .inl ⟨a, e, ⟨vs, t.sq⟩, an _ _ _ _ q1 n1 s1 (jrel_lst fun S2 H2 n2 s2 _ => ⟨vs, (t.nx n2).sq, r.nx n2⟩)⟩
  | tup xs =>
    obtain ⟨a, vs, e, t, r⟩ := r1
    refine .inr ⟨a, e, ⟨vs, t.sq⟩, an _ _ _ _ q1 n1 s1 (jrel_tup fun S2 H2 n2 s2 _ => ⟨vs, (t.nx n2).sq, r.nx n2⟩)⟩
  | tf xs =>
    obtain ⟨a, vs, e, t, r⟩ := r1
    refine .inr ⟨a, e, ⟨vs, t.sq⟩, an _ _ _ _ q1 n1 s1 (jrel_tup fun S2 H2 n2 s2 _ => ⟨vs, (t.nx n2).sq, r.nx n2⟩)⟩
  | kt xs =>
    obtain ⟨a, vs, e, t, r⟩ := r1
    refine .inr ⟨a, e, ⟨vs, t.sq⟩, an _ _ _ _ q1 n1 s1 (jrel_tup fun S2 H2 n2 s2 _ => ⟨vs, t.sq, r.nx n2⟩)⟩
  | obj a =>
    obtain ⟨xs, hx, q1⟩ := q1
    obtain ⟨vs, hq, r⟩ := SqL.uniq hx s1
    exact .inl ⟨a, r1, ⟨vs, hq⟩, an _ _ _ _ q1 n1 s1 (jrel_lst fun S2 H2 n2 s2 o => SqL.uniq o s2)⟩
  | _ => exact False.elim q1
/-- range(n), range(a, b) -/
def rangeD (a b : Int) : List D := (List.range (b - a).toNat).map fun i => .int (a + (i : Nat))
theorem rangeD_get {a b : Int} {i : Nat} {d : D} (h : (rangeD a b)[i]? = some d) : d = .int (a + i) ∧ i < (b - a).toNat := by
  unfold rangeD at h
  rw [List.getElem?_map] at h
  by_cases hi : i < (b - a).toNat
  · rw [List.getElem?_range hi] at h
    exact ⟨(Option.some.inj h).symm, hi⟩
  · rw [List.getElem?_eq_none (by simpa using hi)] at h
    cases h
theorem rangeD_len {a b : Int} : (rangeD a b).length = (b - a).toNat := by unfold rangeD; rw [List.length_map, List.length_range]
theorem jrel_rng {K : PySem.W.Frag} {S0 : SO} {H0 : Hp} {a b : Int} {ok : SO → Prop} : JRel K S0 H0 ⟨rangeD a b, ok⟩ (Itr a (b - a).toNat) where
  go := fun i S H n s o hi => by
    rw [rangeD_len] at hi
    exact hi
  stop := fun i S H n s o hi => by
    rw [rangeD_len] at hi
    exact Nat.le_of_eq hi.symm
  yld := fun i S H x H' d n s o hi y => by
    obtain ⟨rfl, rfl⟩ := y
    obtain ⟨rfl, _⟩ := rangeD_get hi
    exact ⟨.refl _ _, s, rfl⟩
/-- the arguments are one int, two ints -/
def int1 (xs : List D) (k : Int → Prop) : Prop := match xs with
  | [.int j] => k j
  | _ => False
def int2 (xs : List D) (k : Int → Int → Prop) : Prop := match xs with
  | [.int i, .int j] => k i j
  | _ => False
theorem int1_of {xs : List D} {k : Int → Prop} (h : int1 xs k) : ∃ j, xs = [.int j] ∧ k j := by
  unfold int1 at h
  split at h
  · exact ⟨_, rfl, h⟩
  · exact h.elim
theorem int2_of {xs : List D} {k : Int → Int → Prop} (h : int2 xs k) : ∃ i j, xs = [.int i, .int j] ∧ k i j := by
  unfold int2 at h
  split at h
  · exact ⟨_, _, rfl, h⟩
  · exact h.elim
theorem Rels.int1 {K : PySem.W.Frag} {S : SO} {H : Hp} {j : Int} {vs : List V} (r : Rels K S H [.int j] vs) : vs = [.int j] := by
  obtain ⟨v, r', rfl, rv, e⟩ := r
  have e' : r' = [] := e
  have ev : v = .int j := rv
  rw [e', ev]
theorem Rels.int2 {K : PySem.W.Frag} {S : SO} {H : Hp} {i j : Int} {vs : List V} (r : Rels K S H [.int i, .int j] vs) : vs = [.int i, .int j] := by
  obtain ⟨v, u, rfl, rv, ru⟩ := r.two
  have ev : v = .int i := rv
  have eu : u = .int j := ru
  rw [ev, eu]
def wRng1 (w : WA) : WI := fun sd S R => w sd S fun xs S1 => int1 xs fun j => -(2 ^ 62) ≤ j ∧ j < 2 ^ 62 ∧ R ⟨rangeD 0 j, fun _ => True⟩ S1
def wRng2 (w : WA) : WI := fun sd S R => w sd S fun xs S1 => int2 xs fun i j => (-(2 ^ 62) ≤ i ∧ i < 2 ^ 62 ∧ -(2 ^ 62) ≤ j ∧ j < 2 ^ 62) ∧ R ⟨rangeD i j, fun _ => True⟩ S1
theorem di_rng1 {a : Expr} {w : WA} {p pos : Pos} (hm : X.mg "range" = none) (ha : DA X [a] w) (hg : Gl X "range" := by rfl) (hs : starEach [a] X.env = [(false, eval a X.env)] := by rfl) : DI X tg (.Call (.Name "range" p) [a] [] pos) (wRng1 w) := by
  refine pi_imp (pi_range1 hg hm ha hs) fun σ H R ⟨sd, S, R0, st, q, an⟩ => ⟨sd, S, _, st, q, fun xs S1 vs H1 q1 n1 s1 r1 => ?_⟩
  obtain ⟨j, rfl, h1, h2, q1⟩ := int1_of q1
  refine ⟨j, r1.int1, h1, h2, an _ _ _ _ q1 n1 s1 ?_⟩
  have z := jrel_rng (K := X.K) (S0 := S1) (H0 := H1) (a := 0) (b := j) (ok := fun _ => True)
  rwa [Int.sub_zero] at z
/-! ### for, while -/
structure ForD (wi : WI) (g : WG) (b : WS) (E : EndsD) (sd : SD) (S : SO) : Prop where
  ex : wi sd S fun J S1 => ∃ Pv : Nat → SD → SO → Prop, Pv 0 sd S1 ∧ (∀ i sd S, Pv i sd S → J.ok S) ∧
  (∀ i d sd S, J.items[i]? = some d → Pv i sd S → g d sd S fun sd' S' => b { nx := Pv (i + 1), rt := E.rt, bk := E.nx, ct := Pv (i + 1) } sd' S') ∧ (∀ sd S, Pv J.items.length sd S → E.nx sd S)
def wFor (wi : WI) (g : WG) (b : WS) : WS := fun E sd S => ForD wi g b E sd S
theorem ds_for {iter : Expr} {body : List Stmt} {wi : WI} {g : WG} {b : WS} (hp : PassesOwn (model X.prog X.w) X.A X.env X.xe) (hc : X.calm = true) (hi : DI X tg iter wi) (hg : DG X tg g) (hb : DSs X body b) (hs : ∀ x, foldedSetIterable iter X.env x = pure x := by intro _; rfl) :
    DS X (.For tg iter body [] pos) (wFor wi g b) := by
  refine ps_imp (ps_for hp hc hi hg hb hs) fun E σ H ⟨sd, S, E0, st, q, an⟩ => ⟨sd, S, _, st, q.ex, fun J S1 H1 JV ⟨Pv, h0, hok, hst, hend⟩ n1 s1 jr => ?_⟩
  refine ⟨fun i m σ' H' => ∃ sd' S', m = J.items.length - i ∧ i ≤ J.items.length ∧ Pv i sd' S' ∧ Sta X.K sd' S' σ' H' ∧ Nx S1 H1 S' H', ⟨J.items.length, sd, S1, by simp, Nat.zero_le _, h0, st.nx n1 s1, .refl _ _⟩, ?_⟩
  rintro i m σ' H' ⟨sd', S', rfl, hile, hp', st', n'⟩
  have o := hok i sd' S' hp'
  by_cases hlt : i < J.items.length
  · refine .inr ⟨jr.go i S' H' n' st'.s o hlt, _, fun σ2 H2 (h : ∃ sd2 S2, Pv (i + 1) sd2 S2 ∧ Sta X.K sd2 S2 σ2 H2 ∧ Nx S1 H1 S2 H2) => ?_, fun x H2 hy => ?_⟩
    · obtain ⟨sd2, S2, h1, h2, h3⟩ := h
      exact ⟨J.items.length - (i + 1), by omega, sd2, S2, rfl, hlt, h1, h2, h3⟩
    · have hi' := List.getElem?_eq_getElem hlt
      obtain ⟨n2, s2, r2⟩ := jr.yld i S' H' x H2 _ n' st'.s o hi' hy
      refine ⟨_, sd', S', _, st'.nx n2 s2, r2, hst i _ sd' S' hi' hp', fun sd3 S3 σ3 H3 q3 n3 st3 => ?_⟩
      have nn := n'.trans (n2.trans n3)
      refine ⟨sd3, S3, _, st3, q3, fun sd4 S4 σ4 H4 q4 n4 st4 => ⟨sd4, S4, q4, st4, nn.trans n4⟩, an.rt.nx (n1.trans nn), an.nx.nx (n1.trans nn), fun sd4 S4 σ4 H4 q4 n4 st4 => ⟨sd4, S4, q4, st4, nn.trans n4⟩⟩
  · have e : i = J.items.length := by omega
    subst e
    exact .inl ⟨jr.stop _ S' H' n' st'.s o rfl, an.nx _ _ _ _ (hend sd' S' hp') (n1.trans n') st'⟩
end
end L2.DL

/-! DL5: list comprehensions -/
namespace L2.DL
open PySem PySem.Spec PyProof.Rows

def wipeD (sd : SD) : List Nat → SD
  | [] => sd
  | v :: vs => (wipeD sd vs).set v none
theorem wipe_get (σ : St) (vs : List Nat) (j : Nat) : (wipe σ vs)[j]? = if j ∈ vs then (σ[j]?).map (fun _ => none) else σ[j]? := by
  induction vs with
  | nil => simp [wipe]
  | cons v vs ih =>
    unfold wipe
    by_cases hj : v = j
    · subst hj
      by_cases hl : v < (wipe σ vs).length
      · rw [List.getElem?_set_self hl]
        rw [wipe_length] at hl
        rw [if_pos (List.mem_cons_self ..), List.getElem?_eq_getElem hl]
        rfl
      · rw [wipe_length] at hl
        have e : σ[v]? = none := List.getElem?_eq_none (by omega)
        rw [List.getElem?_eq_none (by rw [List.length_set, wipe_length]; omega), e]
        simp
    · rw [List.getElem?_set_ne hj, ih]
      by_cases hm : j ∈ vs
      · rw [if_pos hm, if_pos (List.mem_cons_of_mem _ hm)]
      · rw [if_neg hm, if_neg (by simp only [List.mem_cons, not_or]; exact ⟨fun e => hj e.symm, hm⟩)]
theorem wipe_set {σ : St} {vs : List Nat} {i : Nat} {x : Option V} (h : i ∈ vs) : wipe (σ.set i x) vs = wipe σ vs := by
  refine List.ext_getElem? fun j => ?_
  rw [wipe_get, wipe_get]
  by_cases hj : j ∈ vs
  · rw [if_pos hj, if_pos hj]
    by_cases hi : i = j
    · subst hi
      by_cases hl : i < σ.length
      · rw [List.getElem?_set_self hl, List.getElem?_eq_getElem hl]
        rfl
      · rw [List.getElem?_eq_none (by rw [List.length_set]; omega), List.getElem?_eq_none (by omega)]
    · rw [List.getElem?_set_ne hi]
  · rw [if_neg hj, if_neg hj, List.getElem?_set_ne fun e => hj (by rw [← e]; exact h)]
theorem wipe_wipe {σ : St} {vs : List Nat} : wipe (wipe σ vs) vs = wipe σ vs := by
  refine List.ext_getElem? fun j => ?_
  rw [wipe_get, wipe_get]
  by_cases hj : j ∈ vs
  · rw [if_pos hj, if_pos hj]
    cases σ[j]? with
    | none => rfl
    | some x => rfl
  · rw [if_neg hj, if_neg hj]
theorem wipeD_some {sd : SD} {i : Nat} {d : D} : ∀ {vs : List Nat}, (wipeD sd vs)[i]? = some (some d) → sd[i]? = some (some d) ∧ i ∉ vs
  | [], h => ⟨h, by simp⟩
  | v :: vs, h => by
    unfold wipeD at h
    by_cases hi : v = i
    · subst hi
      by_cases hv : v < (wipeD sd vs).length
      · rw [List.getElem?_set_self hv] at h
        cases h
      · rw [List.getElem?_eq_none (by simpa using hv)] at h
        cases h
    · rw [List.getElem?_set_ne hi] at h
      obtain ⟨h1, h2⟩ := wipeD_some h
      exact ⟨h1, by simp only [List.mem_cons, not_or]; exact ⟨fun e => hi e.symm, h2⟩⟩
theorem wipeD_length (sd : SD) : ∀ vs : List Nat, (wipeD sd vs).length = sd.length
  | [] => rfl
  | v :: vs => by unfold wipeD; rw [List.length_set, wipeD_length sd vs]
theorem Sta.wipe {K : PySem.W.Frag} {sd : SD} {S : SO} {σ : St} {H : Hp} (h : Sta K sd S σ H) (vs : List Nat) : Sta K (wipeD sd vs) S (L2.wipe σ vs) H := by
  refine ⟨h.s, by rw [wipeD_length, wipe_length]; exact h.r.1, fun i d e => ?_⟩
  obtain ⟨e1, e2⟩ := wipeD_some e
  obtain ⟨v, hv, r⟩ := h.r.2 i d e1
  exact ⟨v, by rw [wipe_out e2]; exact hv, r⟩

/-- a block's target: a name, a tuple of names -/
inductive NT where
  | n (i : Nat)
  | t (l : List Nat)
def NT.ix : NT → List Nat
  | .n i => [i]
  | .t l => l
def gNs : List Nat → TGs
  | [] => gNil
  | i :: l => gCons (gName i) (gNs l)
def gNT (K : PySem.W.Frag) : NT → TG
  | .n i => gName i
  | .t l => gTup K l.length (gNs l)
def putAll : List Nat → List D → SD → SD
  | i :: l, d :: ds, sd => putAll l ds (sd.set i (some d))
  | _, _, sd => sd
/-- the slots with the target's names set -/
def putNT : NT → D → SD → (SD → Prop) → Prop
  | .n i, d, sd, k => k (sd.set i (some d))
  | .t l, d, sd, k => match d with
    | .tup xs => xs.length = l.length ∧ k (putAll l xs sd)
    | _ => False
theorem gNs_go {K : PySem.W.Frag} {S : SO} {H : Hp} {vs : List Nat} {Q : St → Hp → Prop} : ∀ {l : List Nat} {ds : List D} {us : List V} {sd : SD} {σ : St}, (∀ i ∈ l, i ∈ vs) → ds.length = l.length → Rels K S H ds us → Sta K sd S σ H →
    (∀ σ2, Sta K (putAll l ds sd) S σ2 H → wipe σ2 vs = wipe σ vs → Q σ2 H) → gNs l us σ H Q
  | [], ds, us, sd, σ, hl, e, r, st, h => by
    cases ds with
    | nil =>
      have eu : us = [] := r
      exact ⟨eu, h σ st rfl⟩
    | cons _ _ => simp at e
  | i :: l, ds, us, sd, σ, hl, e, r, st, h => by
    cases ds with
    | nil => simp at e
    | cons d ds =>
      obtain ⟨v, r', rfl, rv, rr⟩ := r
      refine ⟨v, r', rfl, ?_⟩
      refine gNs_go (l := l) (fun j hj => hl j (List.mem_cons_of_mem _ hj)) (by simpa using e) rr (st.set i rv) fun σ2 st2 hw => h σ2 st2 ?_
      rw [hw, wipe_set (hl i (List.mem_cons_self ..))]
theorem nt_go {K : PySem.W.Frag} {S : SO} {H : Hp} {vs : List Nat} {Q : St → Hp → Prop} {nt : NT} {d : D} {v : V} {sd : SD} {σ : St} {k : SD → Prop} (hs : ∀ i ∈ nt.ix, i ∈ vs) (st : Sta K sd S σ H) (r : Rel K S H d v) (hk : putNT nt d sd k)
    (h : ∀ sd2 σ2, k sd2 → Sta K sd2 S σ2 H → wipe σ2 vs = wipe σ vs → Q σ2 H) : gNT K nt v σ H Q := by
  cases nt with
  | n i => exact h _ _ hk (st.set i r) (wipe_set (hs i (List.mem_cons_self ..)))
  | t l =>
    cases d with
    | tup xs =>
      obtain ⟨hl, hk⟩ := hk
      obtain ⟨a, us, e, t, rr⟩ := r
      exact ⟨a, us, e, t.sq, by rw [← rr.length]; exact hl, gNs_go hs hl rr st fun σ2 st2 hw => h _ σ2 hk st2 hw⟩
    | _ => exact False.elim hk

abbrev DTs (X : Cx) (ifs : List Expr) (w : WT) : Prop := PTs X ifs (liftT X.K w)
def wYes : WT := fun _ S Q => Q true S
section
variable {X : Cx}
theorem dts_nil : DTs X [] wYes := ⟨fun pins s σ H Q I ⟨sd, S, Q0, st, q, an⟩ => pts_nil.run pins s σ H Q I (an _ _ _ q (Nx.refl _ _) st.s)⟩
theorem dts_one {c : Expr} {w : WT} (h : DT X c w) : DTs X [c] w := pts_one h
/-- a reading with its wish weakened -/
def up (we : WE) : WE := fun sd S Q => ∃ Q0 : KD, we sd S Q0 ∧ ∀ d S', Q0 d S' → Q d S'
def upT (tt : WT) : WT := fun sd S Q => ∃ Q0 : Bool → SO → Prop, tt sd S Q0 ∧ ∀ d S', Q0 d S' → Q d S'
theorem up_lift {K : PySem.W.Frag} {we : WE} {σ : St} {H : Hp} {Q : VK} (h : lift K (up we) σ H Q) : lift K we σ H Q := let ⟨sd, S, Q0, st, ⟨Q1, q, i⟩, an⟩ := h; ⟨sd, S, Q1, st, q, fun d S' v H' q' => an d S' v H' (i d S' q')⟩
theorem upT_lift {K : PySem.W.Frag} {we : WT} {σ : St} {H : Hp} {Q : Bool → Hp → Prop} (h : liftT K (upT we) σ H Q) : liftT K we σ H Q := let ⟨sd, S, Q0, st, ⟨Q1, q, i⟩, an⟩ := h; ⟨sd, S, Q1, st, q, fun d S' H' q' => an d S' H' (i d S' q')⟩
/-- a list comprehension: p the new list, which the element may not touch; R what is wanted behind it -/
structure LcG (wi : WI) (nt : NT) (tt : WT) (we : WE) (vs : List Nat) (R : Addr → SO → Prop) (sd : SD) (S : SO) : Prop where
  ex : wi sd S fun J S1 => ∀ p, S1 p = none → ∃ Pv : Nat → SO → Prop, Pv 0 (S1.set p (.lst [])) ∧ (∀ i S, Pv i S → J.ok S) ∧
  (∀ i d S, J.items[i]? = some d → Pv i S → putNT nt d (wipeD sd vs) fun sd2 => upT tt sd2 S fun b S2 => if b = true then up we sd2 S2 fun y S3 => ∃ acc, S3 p = some (.lst acc) ∧ acc.length ≤ 1000000 ∧ Pv (i + 1) (S3.set p (.lst (acc ++ [y]))) else Pv (i + 1) S2) ∧
  (∀ S, Pv J.items.length S → R p S)
theorem lcG_tLc {wi : WI} {nt : NT} {tt : WT} {we : WE} {vs : List Nat} {R : Addr → SO → Prop} {σ : St} {H : Hp} {Q : VK} {sd : SD} {S : SO} (hs : ∀ i ∈ nt.ix, i ∈ vs) (st : Sta X.K sd S σ H) (q : LcG wi nt tt we vs R sd S)
    (hR : ∀ p S' H', R p S' → Nx S H S' H' → SRel X.K S' H' → Q (.ref p) H') : tLc (liftI X.K wi) (gNT X.K nt) (liftT X.K tt) (lift X.K we) vs σ H Q := by
  refine ⟨sd, S, _, st, q.ex, fun J S1 H1 JV q1 n1 s1 jr p hp => ?_⟩
  obtain ⟨Pv, h0, hok, hst, hend⟩ := q1 p (s1.free hp)
  have n2 : Nx S1 H1 (S1.set p (.lst [])) (upd H1 p (.lst [])) := nx_obj hp (s1.free hp)
  have s2 : SRel X.K (S1.set p (.lst [])) (upd H1 p (.lst [])) := srel_put s1 n2 ⟨[], upd_same, rfl⟩
  refine ⟨fun i m H' => ∃ S', m = J.items.length - i ∧ i ≤ J.items.length ∧ Pv i S' ∧ SRel X.K S' H' ∧ Nx S1 H1 S' H', ⟨J.items.length, _, by simp, Nat.zero_le _, h0, s2, n2⟩, ?_⟩
  rintro i m H' ⟨S', rfl, hile, hp', s', n'⟩
  have o := hok i S' hp'
  by_cases hlt : i < J.items.length
  · refine .inr ⟨jr.go i S' H' n' s' o hlt, fun H2 => ∃ S2, Pv (i + 1) S2 ∧ SRel X.K S2 H2 ∧ Nx S1 H1 S2 H2, fun H2 ⟨S2, h1, h2, h3⟩ => ⟨J.items.length - (i + 1), by omega, S2, rfl, hlt, h1, h2, h3⟩, fun x H2 hy => ?_⟩
    have hi' := List.getElem?_eq_getElem hlt
    obtain ⟨n3, s3, r3⟩ := jr.yld i S' H' x H2 _ n' s' o hi' hy
    have nn := n'.trans n3
    refine nt_go hs ((st.nx (n1.trans nn) s3).wipe vs) r3 (hst i _ S' hi' hp') fun sd2 σ2 hk st2 hw => ⟨by rw [hw, wipe_wipe], upT_lift ?_⟩
    refine ⟨sd2, S', _, st2, hk, fun b S4 H4 q4 n4 s4 => ?_⟩
    cases b with
    | false => exact ⟨S4, q4, s4, nn.trans n4⟩
    | true =>
      refine up_lift ⟨sd2, S4, _, st2.nx n4 s4, q4, fun y S5 v H5 ⟨acc, ha, hl, q5⟩ n5 s5 r5 => ?_⟩
      obtain ⟨us, hu, ru⟩ := s5 p _ ha
      have n6 : Nx S5 H5 (S5.set p (.lst (acc ++ [y]))) (upd H5 p (.lst (us ++ [v]))) := nx_put ha
      exact ⟨us, hu, by rw [← ru.length]; exact Nat.lt_of_le_of_lt hl (by rw [sizeLine_eq]; decide), _, q5, srel_put s5 n6 ⟨_, upd_same, (ru.app (.one r5)).nx n6⟩, nn.trans (n4.trans (n5.trans n6))⟩
  · have e : i = J.items.length := by omega
    subst e
    exact .inl ⟨jr.stop _ S' H' n' s' o rfl, hR p S' H' (hend S' hp') (n1.trans n') s'⟩
/-- .. the new list an object; frozen at the end -/
def wLc (wi : WI) (nt : NT) (tt : WT) (we : WE) (vs : List Nat) : WE := fun sd S Q => LcG wi nt tt we vs (fun p S' => Q (.obj p) S') sd S
def wLcF (wi : WI) (nt : NT) (tt : WT) (we : WE) (vs : List Nat) : WE := fun sd S Q => LcG wi nt tt we vs (fun p S' => ∃ acc, S' p = some (.lst acc) ∧ Q (.lst acc) (S'.del p)) sd S
/-- .. and its element and test change nothing and look at nothing that changes: the list is f of the items -/
def Ext (S S' : SO) : Prop := ∀ a o, S a = some o → S' a = some o
structure LcP (wi : WI) (nt : NT) (tt : WT) (we : WE) (vs : List Nat) (sd : SD) (S : SO) (Q : KD) : Prop where
  ex : ∃ R : ItD → SO → Prop, wi sd S R ∧ ∀ J S1, R J S1 → (∀ S', Ext S1 S' → J.ok S') ∧ J.items.length ≤ 1000000 ∧ ∃ f : D → Option D, (∀ d ∈ J.items, ∀ S', Ext S1 S' → putNT nt d (wipeD sd vs) fun sd2 =>
  tt sd2 S' fun b S2 => S2 = S' ∧ if b = true then up we sd2 S' fun y S3 => S3 = S' ∧ f d = some y else f d = none) ∧ Q (.lst (J.items.filterMap f)) S1
def wLcP (wi : WI) (nt : NT) (tt : WT) (we : WE) (vs : List Nat) : WE := fun sd S Q => LcP wi nt tt we vs sd S Q
theorem ext_set {S : SO} {p : Addr} {o : DO} (h : S p = none) : Ext S (S.set p o) := fun a u e => by rw [set_ne (so_ne e h)]; exact e
theorem lcP_turn {nt : NT} {tt : WT} {we : WE} {vs : List Nat} {sd : SD} {S1 : SO} {J : ItD} {f : D → Option D} {p : Addr} {i : Nat} {d : D} (hl : J.items.length ≤ 1000000) (hi : J.items[i]? = some d)
    (h : ∀ S', Ext S1 S' → putNT nt d (wipeD sd vs) fun sd2 => tt sd2 S' fun b S2 => S2 = S' ∧ if b = true then up we sd2 S' fun y S3 => S3 = S' ∧ f d = some y else f d = none) (hp : S1 p = none) :
    putNT nt d (wipeD sd vs) fun sd2 => upT tt sd2 (S1.set p (.lst ((J.items.take i).filterMap f))) fun b S2 => if b = true then up we sd2 S2 fun y S3 => ∃ acc, S3 p = some (.lst acc) ∧ acc.length ≤ 1000000 ∧ S3.set p (.lst (acc ++ [y])) = S1.set p (.lst ((J.items.take (i + 1)).filterMap f))
      else S2 = S1.set p (.lst ((J.items.take (i + 1)).filterMap f)) := by
  have hn := h _ (ext_set (o := .lst ((J.items.take i).filterMap f)) hp)
  have htk : (J.items.take (i + 1)).filterMap f = (J.items.take i).filterMap f ++ (f d).toList := by
    rw [List.take_add_one, hi, List.filterMap_append]
    cases q : f d with
    | none => simp [q]
    | some y => simp [q]
  have hlen : ((J.items.take i).filterMap f).length ≤ 1000000 := by
    have h1 := List.length_filterMap_le f (J.items.take i)
    have h2 : (J.items.take i).length ≤ J.items.length := by rw [List.length_take]; omega
    omega
  have go : ∀ sd2, (tt sd2 (S1.set p (.lst ((J.items.take i).filterMap f))) fun b S2 => S2 = S1.set p (.lst ((J.items.take i).filterMap f)) ∧ if b = true then up we sd2 (S1.set p (.lst ((J.items.take i).filterMap f))) fun y S3 => S3 = S1.set p (.lst ((J.items.take i).filterMap f)) ∧ f d = some y else f d = none) →
      upT tt sd2 (S1.set p (.lst ((J.items.take i).filterMap f))) fun b S2 => if b = true then up we sd2 S2 fun y S3 => ∃ acc, S3 p = some (.lst acc) ∧ acc.length ≤ 1000000 ∧ S3.set p (.lst (acc ++ [y])) = S1.set p (.lst ((J.items.take (i + 1)).filterMap f)) else S2 = S1.set p (.lst ((J.items.take (i + 1)).filterMap f)) := by
    intro sd2 hh
    refine ⟨_, hh, fun b S2 ⟨e2, q2⟩ => ?_⟩
    subst e2
    cases b with
    | false =>
      have q2' : f d = none := q2
      show _ = _
      rw [htk, q2']
      simp
    | true =>
      obtain ⟨Q0, q3, i3⟩ := q2
      refine ⟨Q0, q3, fun y S3 q4 => ?_⟩
      obtain ⟨e3, q5⟩ := i3 y S3 q4
      subst e3
      refine ⟨_, set_same, hlen, ?_⟩
      rw [set_set, htk, q5]
      rfl
  cases nt with
  | n j => exact go _ hn
  | t l =>
    cases d with
    | tup xs => exact ⟨hn.1, go _ hn.2⟩
    | _ => exact False.elim hn
variable {elt tg iter : Expr} {ifs : List Expr} {scope : Scope} {own : List (Str × Nat)} {pos : Pos} {wi : WI} {nt : NT} {tt : WT} {we : WE}
theorem lcP_tLc {σ : St} {H : Hp} {Q : VK} (hx : ∀ i ∈ nt.ix, i ∈ own.map (·.2)) (h : lift X.K (wLcP wi nt tt we (own.map (·.2))) σ H Q) : tLc (liftI X.K wi) (gNT X.K nt) (liftT X.K tt) (lift X.K we) (own.map (·.2)) σ H Q := by
  obtain ⟨sd, S, Q0, st, ⟨R, q, i⟩, an⟩ := h
  refine ⟨sd, S, R, st, q, fun J S1 H1 JV qR n1 s1 jr => ?_⟩
  obtain ⟨hok, hl, f, hf, q1⟩ := i J S1 qR
  obtain ⟨sd', S', R0, st', q', an'⟩ := lcG_tLc (X := X) (wi := fun _ S R => S = S1 ∧ R J S1) (R := fun p S' => S' = S1.set p (.lst (J.items.filterMap f)) ∧ S1 p = none) (Q := Q) hx (st.nx n1 s1) ⟨⟨rfl, fun p hp => ⟨fun i S => S = S1.set p (.lst ((J.items.take i).filterMap f)), by simp, fun i S e => by rw [e]; exact hok _ (ext_set hp),
      fun i d S hi e => by subst e; exact lcP_turn hl hi (hf d (List.mem_of_getElem? hi)) hp, fun S e => ⟨by rw [e, List.take_length], hp⟩⟩⟩⟩
    fun p S' H' ⟨e, hp⟩ n' s' => by
      subst e
      obtain ⟨n2, s2, r2⟩ := frz_lst s' set_same
      rw [del_set hp] at n2 s2 r2
      exact an _ _ _ _ q1 (n1.trans (n'.trans n2)) s2 r2
  obtain ⟨rfl, q'⟩ := q'
  exact an' J S' H1 JV q' (.refl _ _) st'.s jr
abbrev Blk (X : Cx) (scope : Scope) (T : Cx → Prop) : Prop := ∀ (s : Shared) (H : Hp) (C : Addr) (cl : List (Str × Addr)) (fp : List Addr), T (X.blk s H scope (compEnvC scope cl C X.env) fp)
theorem de_lcF (hc : X.calm = true) (hN : X.N.Nodup) (hi : DI X tg iter wi) (ok : BlkOk X.N X.env.scope scope own) (hx : ∀ i ∈ nt.ix, i ∈ own.map (·.2)) (hg : Blk X scope fun Y => PG Y tg (gNT X.K nt)) (ht : Blk X scope fun Y => PTs Y ifs (liftT X.K tt)) (he : Blk X scope fun Y => PE Y elt (lift X.K we))
    (hs : ∀ x, foldedSetIterable iter X.env x = pure x := by intro _; rfl) : DE X (.ListComp elt [⟨tg, iter, ifs, 0⟩] scope pos) (wLcF wi nt tt we (own.map (·.2))) :=
  pe_imp (pe_lc hc hN hi ok hg ht he hs) fun σ H Q ⟨sd, S, Q0, st, q, an⟩ => lcG_tLc hx st q fun p S' H' ⟨acc, ha, q'⟩ n' s' => by
    obtain ⟨n2, s2, r2⟩ := frz_lst s' ha
    exact an _ _ _ _ q' (n'.trans n2) s2 r2
theorem de_lcP (hc : X.calm = true) (hN : X.N.Nodup) (hi : DI X tg iter wi) (ok : BlkOk X.N X.env.scope scope own) (hx : ∀ i ∈ nt.ix, i ∈ own.map (·.2)) (hg : Blk X scope fun Y => PG Y tg (gNT X.K nt)) (ht : Blk X scope fun Y => PTs Y ifs (liftT X.K tt)) (he : Blk X scope fun Y => PE Y elt (lift X.K we))
    (hs : ∀ x, foldedSetIterable iter X.env x = pure x := by intro _; rfl) : DE X (.ListComp elt [⟨tg, iter, ifs, 0⟩] scope pos) (wLcP wi nt tt we (own.map (·.2))) :=
  pe_imp (pe_lc hc hN hi ok hg ht he hs) fun σ H Q h => lcP_tLc hx h
/-- name = [..], stored within the comprehension -/
theorem setLc_lift {i : Nat} {wl : WE} {E : Ends} {σ : St} {H : Hp} {wi : WI} {nt : NT} {tt : WT} {we : WE} {vs : List Nat} (hh : ∀ Q, lift X.K wl σ H Q → tLc (liftI X.K wi) (gNT X.K nt) (liftT X.K tt) (lift X.K we) vs σ H Q)
    (h : liftS X.K (wAsg wl (gV i)) E σ H) : tAsg (tLc (liftI X.K wi) (gNT X.K nt) (liftT X.K tt) (lift X.K we) vs) (gName i) E σ H := by
  obtain ⟨sd, S, E0, st, q, an⟩ := h
  exact hh _ ⟨sd, S, _, st, q, fun d S1 v H1 q1 n1 s1 r1 => an.nx _ _ _ _ q1 n1 ((st.nx n1 s1).set i r1)⟩
theorem ds_setLcP {i : Nat} {y : Str} {py spos : Pos} (hc : X.calm = true) (hN : X.N.Nodup) (hi : DI X tg iter wi) (ok : BlkOk X.N X.env.scope scope own) (hx : ∀ i ∈ nt.ix, i ∈ own.map (·.2)) (hg : Blk X scope fun Y => PG Y tg (gNT X.K nt)) (ht : Blk X scope fun Y => PTs Y ifs (liftT X.K tt)) (he : Blk X scope fun Y => PE Y elt (lift X.K we))
    (hy : X.N[i]? = some y := by rfl) (hyl : X.env.scope.names.lookup y = some .local := by rfl) (hsw : swapsWith (.ListComp elt [⟨tg, iter, ifs, 0⟩] scope pos) (some (.Name y py)) spos.line X.env = pure true := by exact sw_true rfl rfl rfl (by decide +kernel)) (hs : ∀ x, foldedSetIterable iter X.env x = pure x := by intro _; rfl) :
    DS X (.Assign [.Name y py] (.ListComp elt [⟨tg, iter, ifs, 0⟩] scope pos) spos) (wAsg (wLcP wi nt tt we (own.map (·.2))) (gV i)) := ps_imp (ps_setLc hc hN hy hyl hsw hi ok hg ht he hs) fun E σ H h => setLc_lift (fun Q h => lcP_tLc hx h) h
end
end L2.DL

/-! DL6: operators, comparisons, built-ins over data -/
namespace L2.DL
open PySem PySem.Spec PyProof.Rows

/-! ### plain data -/
mutual
def pyD : D → Option PyData
  | .non => some .none
  | .bl b => some (.bool b)
  | .int i => some (.int i)
  | .str x => some (.str x)
  | .tup ds => (pyDs ds).map .tuple
  | .kt ds => (pyDs ds).map .tuple
  | .tf ds => (pyDs ds).map .tuple
  | .lst ds => (pyDs ds).map .list
  | .src ds => (pyDs ds).map .list
  | .ty _ => none
  | .dic _ _ => none
  | .fd _ _ => none
  | .gh _ _ => none
  | .ins _ _ => none
  | .obj _ => none
def pyDs : List D → Option (List PyData)
  | [] => some []
  | d :: ds => (pyD d).bind fun p => (pyDs ds).map fun ps => p :: ps
end
/-- the items of a list that may change -/
def objL : Option DO → Option (List D)
  | some (.lst ds) => some ds
  | _ => none
theorem objL_of {o : Option DO} {ds : List D} (h : objL o = some ds) : o = some (.lst ds) := by
  cases o with
  | none => cases h
  | some u =>
    cases u with
    | lst xs =>
      cases h
      rfl
    | _ => cases h
/-- .. also of a list that may change -/
def pyS (S : SO) : D → Option PyData
  | .obj a => (objL (S a)).bind fun ds => (pyDs ds).map .list
  | d => pyD d
section
variable {K : PySem.W.Frag} {S : SO} {H : Hp}
mutual
theorem rel_dp : ∀ (d : D) (v : V) (p : PyData), Rel K S H d v → pyD d = some p → Dp K H v p
  | .non, v, p, r, e => by
    cases e
    have r' : v = .non := r
    rw [r']
    exact .non
  | .bl b, v, p, r, e => by
    cases e
    have r' : v = .bl b := r
    rw [r']
    exact .bl b
  | .int b, v, p, r, e => by
    cases e
    have r' : v = .int b := r
    rw [r']
    exact .int b
  | .str b, v, p, r, e => by
    cases e
    have r' : v = .str b := r
    rw [r']
    exact .str b
  | .ty _, _, _, _, e => by cases e
  | .dic _ _, _, _, _, e => by cases e
  | .fd _ _, _, _, _, e => by cases e
  | .gh _ _, _, _, _, e => by cases e
  | .ins _ _, _, _, _, e => by cases e
  | .obj _, _, _, _, e => by cases e
  | .tup ds, v, p, r, e => by
    obtain ⟨ps, hp, rfl⟩ := Option.map_eq_some_iff.mp (show (pyDs ds).map PyData.tuple = some p from e)
    obtain ⟨a, vs, rfl, t, r⟩ := r
    exact .tup t.sq (rels_dp ds vs ps r hp)
  | .kt ds, v, p, r, e => by
    obtain ⟨ps, hp, rfl⟩ := Option.map_eq_some_iff.mp (show (pyDs ds).map PyData.tuple = some p from e)
    obtain ⟨a, vs, rfl, t, r⟩ := r
    exact .tup t.sq (rels_dp ds vs ps r hp)
  | .tf ds, v, p, r, e => by
    obtain ⟨ps, hp, rfl⟩ := Option.map_eq_some_iff.mp (show (pyDs ds).map PyData.tuple = some p from e)
    obtain ⟨a, vs, rfl, t, r⟩ := r
    exact .tup t.sq (rels_dp ds vs ps r hp)
  | .lst ds, v, p, r, e => by
    obtain ⟨ps, hp, rfl⟩ := Option.map_eq_some_iff.mp (show (pyDs ds).map PyData.list = some p from e)
    obtain ⟨a, vs, rfl, _, t, r⟩ := r
    exact .lst (.of t) (rels_dp ds vs ps r hp)
  | .src ds, v, p, r, e => by
    obtain ⟨ps, hp, rfl⟩ := Option.map_eq_some_iff.mp (show (pyDs ds).map PyData.list = some p from e)
    obtain ⟨a, vs, rfl, t, r⟩ := r
    exact .lst t.sq (rels_dp ds vs ps r hp)
theorem rels_dp : ∀ (ds : List D) (vs : List V) (ps : List PyData), Rels K S H ds vs → pyDs ds = some ps → DpAll K H vs ps
  | [], vs, ps, r, e => by
    cases e
    have r' : vs = [] := r
    rw [r']
    exact .nil
  | d :: ds, vs, ps, r, e => by
    obtain ⟨p, hp, e2⟩ := Option.bind_eq_some_iff.mp (show (pyD d).bind (fun p => (pyDs ds).map fun ps => p :: ps) = some ps from e)
    obtain ⟨qs, hq, rfl⟩ := Option.map_eq_some_iff.mp e2
    obtain ⟨v, us, rfl, r1, r2⟩ := r
    exact .cons (rel_dp d v p r1 hp) (rels_dp ds us qs r2 hq)
end
theorem relS_dp {d : D} {v : V} {p : PyData} (s : SRel K S H) (r : Rel K S H d v) (e : pyS S d = some p) : Dp K H v p := by
  cases d with
  | obj a =>
    obtain ⟨ds, hs, e2⟩ := Option.bind_eq_some_iff.mp (show (objL (S a)).bind (fun ds => (pyDs ds).map PyData.list) = some p from e)
    obtain ⟨ps, hp, rfl⟩ := Option.map_eq_some_iff.mp e2
    obtain ⟨vs, hv, rv⟩ := s a _ (objL_of hs)
    have r' : v = .ref a := r
    rw [r']
    exact .lst (.of hv) (rels_dp ds vs ps rv hp)
  | _ => exact rel_dp _ v p r e
end
/-- the items of a list, of a sequence -/
def lstD (S : SO) : D → Option (List D)
  | .lst xs => some xs
  | .obj a => objL (S a)
  | _ => none
theorem lstD_at {K : PySem.W.Frag} {S : SO} {H : Hp} {d : D} {v : V} {xs : List D} (s : SRel K S H) (r : Rel K S H d v) (e : lstD S d = some xs) : ∃ a vs, v = .ref a ∧ H a = some (.lst vs) ∧ Rels K S H xs vs := by
  cases d with
  | lst ys =>
    cases e
    obtain ⟨a, vs, h1, _, h2, h3⟩ := r
    exact ⟨a, vs, h1, h2, h3⟩
  | obj a =>
    obtain ⟨vs, hv, rv⟩ := s a _ (objL_of e)
    exact ⟨a, vs, r, hv, rv⟩
  | _ => cases e
/-- a list or tuple, read -/
def seqX (S : SO) : D → Option (List D)
  | .tup xs => some xs
  | .kt xs => some xs
  | .tf xs => some xs
  | .src xs => some xs
  | d => lstD S d
theorem seqX_at {K : PySem.W.Frag} {S : SO} {H : Hp} {d : D} {v : V} {xs : List D} (s : SRel K S H) (r : Rel K S H d v) (e : seqX S d = some xs) : ∃ a vs, v = .ref a ∧ (SqL K H a vs ∨ SqT K H a vs) ∧ Rels K S H xs vs := by
  have via : ∀ {d : D}, Rel K S H d v → lstD S d = some xs → ∃ a vs, v = .ref a ∧ (SqL K H a vs ∨ SqT K H a vs) ∧ Rels K S H xs vs := fun r e => let ⟨a, vs, h1, h2, h3⟩ := lstD_at s r e; ⟨a, vs, h1, .inl (.of h2), h3⟩
  cases d with
  | tup ys =>
    cases e
    obtain ⟨a, vs, h1, h2, h3⟩ := r
    exact ⟨a, vs, h1, .inr h2.sq, h3⟩
  | kt ys =>
    cases e
    obtain ⟨a, vs, h1, h2, h3⟩ := r
    exact ⟨a, vs, h1, .inr h2.sq, h3⟩
  | tf ys =>
    cases e
    obtain ⟨a, vs, h1, h2, h3⟩ := r
    exact ⟨a, vs, h1, .inr h2.sq, h3⟩
  | src ys =>
    cases e
    obtain ⟨a, vs, h1, h2, h3⟩ := r
    exact ⟨a, vs, h1, .inl h2.sq, h3⟩
  | _ => exact via r e

section
variable {X : Cx}
theorem ansd {K : PySem.W.Frag} {S : SO} {H : Hp} {Q0 : KD} {Q : VK} (d : D) {v : V} (s : SRel K S H) (an : Ans K S H Q0 Q) (q : Q0 d S) (r : Rel K S H d v) : Q v H := an d S v H q (.refl _ _) s r
/-! ### arithmetic -/
def opI2 (C : Int → Int → Prop) (g : Int → Int → D) : WO := fun x y S Q => match x with
  | .int i => (match y with
    | .int j => C i j ∧ Q (g i j) S
    | _ => False)
  | _ => False
theorem opI2_of {C : Int → Int → Prop} {g : Int → Int → D} {x y : D} {S : SO} {Q : KD} (h : opI2 C g x y S Q) : ∃ i j, x = .int i ∧ y = .int j ∧ C i j ∧ Q (g i j) S := by
  unfold opI2 at h
  split at h
  · split at h
    · exact ⟨_, _, rfl, rfl, h.1, h.2⟩
    · exact h.elim
  · exact h.elim
theorem do_I2 {f : Value → Value → Sem Value} {C : Int → Int → Prop} {g : Int → Int → D} {gv : Int → Int → V} (h : OpR X f (rI C gv)) (hg : ∀ i j K S H, Rel K S H (g i j) (gv i j)) : DO2 X f (opI2 C g) := by
  intro pins s σ H x y v u Q I rx ry ⟨dx, dy, S, Q0, sr, r1, r2, q, an⟩
  obtain ⟨i, j, rfl, rfl, hc, q⟩ := opI2_of q
  have e1 : x = .int i := r1
  have e2 : y = .int j := r2
  exact h pins s σ H x y v u Q I rx ry ⟨i, j, e1, e2, hc, ansd _ sr an q (hg i j _ _ _)⟩
theorem do_I2' {f : Value → Value → Sem Value} {g : Int → Int → D} {gv : Int → Int → V} (h : OpR X f (rI0 gv)) (hg : ∀ i j K S H, Rel K S H (g i j) (gv i j)) : DO2 X f (opI2 (fun _ _ => True) g) := by
  intro pins s σ H x y v u Q I rx ry ⟨dx, dy, S, Q0, sr, r1, r2, q, an⟩
  obtain ⟨i, j, rfl, rfl, hc, q⟩ := opI2_of q
  have e1 : x = .int i := r1
  have e2 : y = .int j := r2
  exact h pins s σ H x y v u Q I rx ry ⟨i, j, e1, e2, ansd _ sr an q (hg i j _ _ _)⟩
def oSub : WO := opI2 (fun _ _ => True) fun i j => .int (i - j)
def oMod : WO := opI2 (fun _ j => 0 < j) fun i j => .int (i % j)
theorem do_mod : DO2 X (binaryOp .Mod) oMod := do_I2 op_mod fun _ _ _ _ _ => rfl
def oDiv : WO := opI2 CDiv fun i j => .int (i / j)
theorem do_div : DO2 X (binaryOp .FloorDiv) oDiv := do_I2 op_fdiv fun _ _ _ _ _ => rfl
def oPow : WO := opI2 CPow fun i j => .int (i ^ j.toNat)
theorem do_pow : DO2 X (binaryOp .Pow) oPow := do_I2 op_pow fun _ _ _ _ _ => rfl
def oAnd : WO := opI2 (fun _ _ => True) fun i j => .int (Builtin.bitAnd i j)
def oOr : WO := opI2 (fun _ _ => True) fun i j => .int (Builtin.bitOr i j)
def oLt : WO := opI2 (fun _ _ => True) fun i j => .bl (decide (i < j))
theorem do_lt : DO2 X (compareOp .Lt) oLt := do_I2' op_lt fun _ _ _ _ _ => rfl
def oLe : WO := opI2 (fun _ _ => True) fun i j => .bl (decide (i ≤ j))
theorem do_le : DO2 X (compareOp .LtE) oLe := do_I2' op_le fun _ _ _ _ _ => rfl
def oGt : WO := opI2 (fun _ _ => True) fun i j => .bl (decide (j < i))
theorem do_gt : DO2 X (compareOp .Gt) oGt := do_I2' op_gt fun _ _ _ _ _ => rfl
def oGe : WO := opI2 (fun _ _ => True) fun i j => .bl (decide (j ≤ i))
theorem do_ge : DO2 X (compareOp .GtE) oGe := do_I2' op_ge fun _ _ _ _ _ => rfl
def oNeg : WU := fun x S Q => match x with
  | .int i => Q (.int (-i)) S
  | _ => False
/-- + -/
def addL (a b : Option (List D)) (S : SO) (Q : KD) : Prop := match a, b with
  | some a, some b => a.length + b.length ≤ 1000000 ∧ Q (.lst (a ++ b)) S
  | _, _ => False
theorem addL_of {a b : Option (List D)} {S : SO} {Q : KD} (h : addL a b S Q) : ∃ x y, a = some x ∧ b = some y ∧ x.length + y.length ≤ 1000000 ∧ Q (.lst (x ++ y)) S := by
  cases a with
  | none => exact h.elim
  | some x =>
    cases b with
    | none => exact h.elim
    | some y => exact ⟨x, y, rfl, rfl, h.1, h.2⟩
def oAdd : WO := fun x y S Q => match x with
  | .int i => (match y with
    | .int j => Q (.int (i + j)) S
    | _ => False)
  | .str a => (match y with
    | .str b => a.length + b.length ≤ 1000000 ∧ Q (.str (a ++ b)) S
    | _ => False)
  | .tup a => (match y with
    | .tup b => a.length + b.length ≤ 1000000 ∧ Q (.tup (a ++ b)) S
    | _ => False)
  | d => addL (lstD S d) (lstD S y) S Q
theorem add_lists {dx dy : D} {S : SO} {Q0 : KD} {x y : V} {v u : Value} {pins : List (Addr × Obj)} {s : Shared} {σ : St} {H : Hp} {Q : VK} (I : Inv X pins σ H s) (rx : RelV x v) (ry : RelV y u) (sr : SRel X.K S H) (r1 : Rel X.K S H dx x) (r2 : Rel X.K S H dy y) (an : Ans X.K S H Q0 Q)
    (q : addL (lstD S dx) (lstD S dy) S Q0) : wpAny (model X.prog X.w) X.A (binaryOp .Add v u) (EP X pins σ Q) X.xe s := by
  obtain ⟨a, b, h1, h2, hl, q⟩ := addL_of q
  obtain ⟨l, vs, e1, h3, rv⟩ := lstD_at sr r1 h1
  obtain ⟨l', us, e2, h4, ru⟩ := lstD_at sr r2 h2
  refine op_cat pins s σ H x y v u Q I rx ry ⟨l, l', vs, us, e1, e2, h3, h4, by rw [← rv.length, ← ru.length]; exact le_line hl, fun p hp => ?_⟩
  exact an _ _ _ _ q (nx_new hp) (sr.new hp) ⟨p, _, rfl, sr.free hp, upd_same, (rv.app ru).nx (nx_new hp)⟩
theorem do_add : DO2 X (binaryOp .Add) oAdd := by
  intro pins s σ H x y v u Q I rx ry ⟨dx, dy, S, Q0, sr, r1, r2, q, an⟩
  cases dx with
  | int i =>
    cases dy with
    | int j => exact op_add pins s σ H x y v u Q I rx ry ⟨i, j, r1, r2, ansd (.int (i + j)) sr an q rfl⟩
    | _ => exact False.elim q
  | str a =>
    cases dy with
    | str b => exact op_add_str pins s σ H x y v u Q I rx ry ⟨a, b, r1, r2, le_line q.1, ansd (.str (a ++ b)) sr an q.2 rfl⟩
    | _ => exact False.elim q
  | tup a =>
    cases dy with
    | tup b =>
      obtain ⟨hl, q⟩ := q
      obtain ⟨p1, vs, e1, t1, rv⟩ := r1
      obtain ⟨p2, us, e2, t2, ru⟩ := r2
      have rvu := rv.app ru
      refine op_catA pins s σ H x y v u Q I rx ry ⟨p1, p2, vs, us, e1, e2, t1.sq, t2.sq, by rw [← rv.length, ← ru.length]; exact le_line hl, fun e => ?_, fun _ e => ?_, fun _ _ p hp => ?_⟩
      · subst e
        exact ansd _ sr an q ⟨p2, us, rfl, t2, rvu⟩
      · subst e
        rw [List.append_nil] at rvu
        exact ansd _ sr an q ⟨p1, vs, rfl, t1, rvu⟩
      · exact an _ _ _ _ q (nx_new hp) (sr.new hp) ⟨p, _, rfl, ⟨sr.free hp, upd_same⟩, rvu.nx (nx_new hp)⟩
    | _ => exact False.elim q
  | _ => exact add_lists I rx ry sr r1 r2 an q
/-- * -/
def mulL (a : Option (List D)) (y : D) (S : SO) (Q : KD) : Prop := ∃ xs k, a = some xs ∧ y = .int k ∧ 0 ≤ k ∧ k ≤ 1000 ∧ xs.length ≤ 1000 ∧ Q (.lst (List.replicate k.toNat xs).flatten) S
def oMul : WO := fun x y S Q => match x with
  | .int i => (match y with
    | .int j => CMul i j ∧ Q (.int (i * j)) S
    | _ => False)
  | .str a => (match y with
    | .int n => a.length ≤ 1000 ∧ n ≤ 1000 ∧ -1000 ≤ n ∧ Q (.str (Txt.mul a n)) S
    | _ => False)
  | d => mulL (lstD S d) y S Q
theorem mulOk_small {x : Str} {n : Int} (h1 : x.length ≤ 1000) (h2 : n ≤ 1000) (h3 : -1000 ≤ n) : MulOk x n := by
  refine ⟨by rw [decide_eq_false (by omega), decide_eq_false (by omega)]; rfl, fun h _ => ?_, fun h _ => ?_⟩
  · have hn : 0 < n := by omega
    intro hgt
    have h4 : (2 ^ 63 - 1 : Int) / n ≥ (2 ^ 63 - 1) / 1000 := by
      rw [ge_iff_le, Int.le_ediv_iff_mul_le hn]
      have : (2 ^ 63 - 1 : Int) / 1000 * n ≤ (2 ^ 63 - 1 : Int) / 1000 * 1000 := Int.mul_le_mul_of_nonneg_left h2 (by decide)
      omega
    have h5 : (2 ^ 63 - 1 : Int) / 1000 > 1000 := by decide
    omega
  · have h4 : x.length * n.toNat ≤ 1000 * 1000 := Nat.mul_le_mul h1 (by omega)
    have h5 : x.length * n.toNat ≤ sizeLine := le_line h4
    exact decide_eq_false (by omega)
theorem Rels.rep {K : PySem.W.Frag} {S : SO} {H : Hp} {a : List D} {vs : List V} (r : Rels K S H a vs) : ∀ n : Nat, Rels K S H (List.replicate n a).flatten (List.replicate n vs).flatten
  | 0 => rfl
  | n + 1 => by
    rw [List.replicate_succ, List.replicate_succ, List.flatten_cons, List.flatten_cons]
    exact r.app (r.rep n)
theorem mul_lists {dx dy : D} {S : SO} {Q0 : KD} {x y : V} {v u : Value} {pins : List (Addr × Obj)} {s : Shared} {σ : St} {H : Hp} {Q : VK} (I : Inv X pins σ H s) (rx : RelV x v) (ry : RelV y u) (sr : SRel X.K S H) (r1 : Rel X.K S H dx x) (r2 : Rel X.K S H dy y) (an : Ans X.K S H Q0 Q)
    (q : mulL (lstD S dx) dy S Q0) : wpAny (model X.prog X.w) X.A (binaryOp .Mult v u) (EP X pins σ Q) X.xe s := by
  obtain ⟨a, k, h1, rfl, h0, h2, h3, q⟩ := q
  obtain ⟨l, vs, e1, hl, rv⟩ := lstD_at sr r1 h1
  have e2 : y = .int k := r2
  refine op_rep pins s σ H x y v u Q I rx ry ⟨l, k, vs, e1, e2, hl, by omega, by omega, ?_, fun p hp => ?_⟩
  · rw [← rv.length]
    have h4 : a.length * k.toNat ≤ 1000 * 1000 := Nat.mul_le_mul h3 (by omega)
    exact le_line h4
  · exact an _ _ _ _ q (nx_new hp) (sr.new hp) ⟨p, _, rfl, sr.free hp, upd_same, (rv.rep _).nx (nx_new hp)⟩
theorem do_mul : DO2 X (binaryOp .Mult) oMul := by
  intro pins s σ H x y v u Q I rx ry ⟨dx, dy, S, Q0, sr, r1, r2, q, an⟩
  cases dx with
  | int i =>
    cases dy with
    | int j => exact op_mul pins s σ H x y v u Q I rx ry ⟨i, j, r1, r2, q.1, ansd (.int (i * j)) sr an q.2 rfl⟩
    | _ => exact False.elim q
  | str a =>
    cases dy with
    | int n =>
      have e1 : x = .str a := r1
      have e2 : y = .int n := r2
      subst e1 e2
      obtain ⟨t, rfl⟩ := rx
      obtain ⟨t', rfl⟩ := ry
      obtain ⟨h1, h2, h3, q⟩ := q
      exact SB.mul (mulOk_small h1 h2 h3) fun t2 k => ⟨.str _, H, I.tok k, ⟨t2, rfl⟩, ansd (.str (Txt.mul a n)) sr an q rfl⟩
    | _ => exact False.elim q
  | _ => exact mul_lists I rx ry sr r1 r2 an q
/-! ### ==, in, is -/
/-- x == y told by data -/
def eqG (x y : D) (S : SO) (k : Bool → Prop) : Prop := ∃ p q, pyS S x = some p ∧ pyS S y = some q ∧ SeqAt.shaped p = true ∧ SeqAt.shaped q = true ∧ k (PyData.eqv p q)
def eqD (x y : D) (S : SO) (k : Bool → Prop) : Prop := match x with
  | .int i => (match y with
    | .int j => k (decide (i = j))
    | y => eqG (.int i) y S k)
  | .str a => (match y with
    | .str b => k (decide (a = b))
    | y => eqG (.str a) y S k)
  | x => eqG x y S k
theorem eqD_cases {x y : D} {S : SO} {k : Bool → Prop} (h : eqD x y S k) : (∃ i j, x = .int i ∧ y = .int j ∧ k (decide (i = j))) ∨ (∃ a b, x = .str a ∧ y = .str b ∧ k (decide (a = b))) ∨ eqG x y S k := by
  cases x with
  | int i =>
    cases y with
    | int j => exact .inl ⟨i, j, rfl, rfl, h⟩
    | _ => exact .inr (.inr h)
  | str a =>
    cases y with
    | str j => exact .inr (.inl ⟨a, j, rfl, rfl, h⟩)
    | _ => exact .inr (.inr h)
  | _ => exact .inr (.inr h)
def oEq : WO := fun x y S Q => eqD x y S fun b => Q (.bl b) S
def oNe : WO := fun x y S Q => eqD x y S fun b => Q (.bl (!b)) S
theorem do_eq (hu : X.A.units + 65 < cLine) : DO2 X (compareOp .Eq) oEq := by
  intro pins s σ H x y v u Q I rx ry ⟨dx, dy, S, Q0, sr, r1, r2, q, an⟩
  rcases eqD_cases q with ⟨i, j, rfl, rfl, q⟩ | ⟨i, j, rfl, rfl, q⟩ | ⟨p, q, h1, h2, h3, h4, qq⟩
  · have e1 : x = .int i := r1
    have e2 : y = .int j := r2
    subst e1 e2
    refine op_eq pins s σ H _ _ v u Q I rx ry ⟨rfl, ?_⟩
    have e : decide (V.int i = V.int j) = decide (i = j) := by simp
    rw [e]
    exact ansd (.bl _) sr an q rfl
  · have e1 : x = .str i := r1
    have e2 : y = .str j := r2
    subst e1 e2
    refine op_eq pins s σ H _ _ v u Q I rx ry ⟨rfl, ?_⟩
    have e : decide (V.str i = V.str j) = decide (i = j) := by simp
    rw [e]
    exact ansd (.bl _) sr an q rfl
  · exact op_eqD (by omega) pins s σ H x y v u Q I rx ry ⟨p, q, relS_dp sr r1 h1, relS_dp sr r2 h2, h3, h4, ansd (.bl _) sr an qq rfl⟩
theorem do_ne (hu : X.A.units + 65 < cLine) : DO2 X (compareOp .NotEq) oNe := by
  intro pins s σ H x y v u Q I rx ry ⟨dx, dy, S, Q0, sr, r1, r2, q, an⟩
  rcases eqD_cases q with ⟨i, j, rfl, rfl, q⟩ | ⟨i, j, rfl, rfl, q⟩ | ⟨p, q, h1, h2, h3, h4, qq⟩
  · have e1 : x = .int i := r1
    have e2 : y = .int j := r2
    subst e1 e2
    refine op_ne pins s σ H _ _ v u Q I rx ry ⟨rfl, ?_⟩
    have e : decide (V.int i = V.int j) = decide (i = j) := by simp
    rw [e]
    exact ansd (.bl _) sr an q rfl
  · have e1 : x = .str i := r1
    have e2 : y = .str j := r2
    subst e1 e2
    refine op_ne pins s σ H _ _ v u Q I rx ry ⟨rfl, ?_⟩
    have e : decide (V.str i = V.str j) = decide (i = j) := by simp
    rw [e]
    exact ansd (.bl _) sr an q rfl
  · exact op_neD (by omega) pins s σ H x y v u Q I rx ry ⟨p, q, relS_dp sr r1 h1, relS_dp sr r2 h2, h3, h4, ansd (.bl _) sr an qq rfl⟩
def isNon : D → Bool
  | .non => true
  | .gh d _ => isNon d
  | _ => false
def oIsN : WO := fun x y S Q => y = .non ∧ Q (.bl (isNon x)) S
def oNotN : WO := fun x y S Q => y = .non ∧ Q (.bl (!isNon x)) S
theorem rel_non0 {K : PySem.W.Frag} {S : SO} {H : Hp} (d : D) (v : V) (ih : ∀ d' u, d = .gh d' u → Rel K S H d' u → decide (u = V.non) = isNon d') (r : Rel K S H d v) : decide (v = V.non) = isNon d := by
  have no : ∀ {u : V}, v = u → decide (u = V.non) = isNon d → decide (v = V.non) = isNon d := fun e h => by rw [e]; exact h
  cases d with
  | non => exact no (u := .non) r rfl
  | bl b => exact no (u := .bl b) r rfl
  | int b => exact no (u := .int b) r rfl
  | str b => exact no (u := .str b) r rfl
  | ty b => exact no (u := .ty b) r rfl
  | obj b => exact no (u := .ref b) r rfl
  | tup ds => exact let ⟨_, _, e, _⟩ := r; no e rfl
  | kt ds => exact let ⟨_, _, e, _⟩ := r; no e rfl
  | tf ds => exact let ⟨_, _, e, _⟩ := r; no e rfl
  | lst ds => exact let ⟨_, _, e, _⟩ := r; no e rfl
  | src ds => exact let ⟨_, _, e, _⟩ := r; no e rfl
  | dic t ds => exact let ⟨_, e, _⟩ := r; no e rfl
  | fd t ds => exact let ⟨_, e, _⟩ := r; no e rfl
  | ins C ds => exact let ⟨_, _, _, e, _⟩ := r; no e rfl
  | gh d u =>
    obtain ⟨e, r⟩ := r
    subst e
    exact ih d v rfl r
theorem rel_nonN {K : PySem.W.Frag} {S : SO} {H : Hp} : ∀ (n : Nat) (d : D) (v : V), sizeOf d < n → Rel K S H d v → decide (v = V.non) = isNon d
  | 0, _, _, h, _ => absurd h (Nat.not_lt_zero _)
  | n + 1, d, v, hn, r => rel_non0 d v (fun d' u e r' => rel_nonN n d' u (by
      subst e
      simp only [D.gh.sizeOf_spec] at hn
      omega) r') r
theorem rel_non {K : PySem.W.Frag} {S : SO} {H : Hp} {d : D} {v : V} (r : Rel K S H d v) : decide (v = V.non) = isNon d := rel_nonN _ d v (Nat.lt_succ_self _) r
theorem do_isN : DO2 X (compareOp .Is) oIsN := by
  intro pins s σ H x y v u Q I rx ry ⟨dx, dy, S, Q0, sr, r1, r2, ⟨e, q⟩, an⟩
  subst e
  have e2 : y = .non := r2
  exact op_isN pins s σ H x y v u Q I rx ry ⟨e2, by rw [rel_non r1]; exact ansd (.bl _) sr an q rfl⟩
theorem do_notN : DO2 X (compareOp .IsNot) oNotN := by
  intro pins s σ H x y v u Q I rx ry ⟨dx, dy, S, Q0, sr, r1, r2, ⟨e, q⟩, an⟩
  subst e
  have e2 : y = .non := r2
  exact op_notN pins s σ H x y v u Q I rx ry ⟨e2, by rw [rel_non r1]; exact ansd (.bl _) sr an q rfl⟩
end
end L2.DL

/-! DL7: containers: in, subscripts, slices, dicts; built-ins by values -/
namespace L2.DL
open PySem PySem.Spec PyProof.Rows

/-! ### dicts as data -/
section
open Classical
noncomputable def dget (kvs : List (D × D)) (k : D) : Option D := (kvs.find? fun p => decide (p.1 = k)).map (·.2)
noncomputable def dput (kvs : List (D × D)) (k v : D) : List (D × D) := if (dget kvs k).isSome = true then kvs.map fun p => if p.1 = k then (p.1, v) else p else kvs ++ [(k, v)]
theorem dget_nil {k : D} : dget [] k = none := rfl
theorem dget_cons {k k' d : D} {kvs : List (D × D)} : dget ((k', d) :: kvs) k = if k' = k then some d else dget kvs k := by
  unfold dget
  rw [List.find?_cons]
  by_cases e : k' = k
  · rw [if_pos e, decide_eq_true e]
    rfl
  · rw [if_neg e, decide_eq_false e]
theorem dget_put {kvs : List (D × D)} {k v k' : D} : dget (dput kvs k v) k' = if k = k' then some v else dget kvs k' := by
  have app : ∀ (l : List (D × D)), dget (l ++ [(k, v)]) k' = if (dget l k').isSome then dget l k' else if k = k' then some v else none := by
    intro l
    induction l with
    | nil =>
      rw [List.nil_append, dget_cons, dget_nil]
      rfl
    | cons p l ih =>
      obtain ⟨a, b⟩ := p
      rw [List.cons_append, dget_cons, dget_cons]
      by_cases e : a = k'
      · rw [if_pos e, if_pos e]
        rfl
      · rw [if_neg e, if_neg e]
        exact ih
  have mp : ∀ (l : List (D × D)), dget (l.map fun p => if p.1 = k then (p.1, v) else p) k' = if k = k' then (dget l k').map (fun _ => v) else dget l k' := by
    intro l
    induction l with
    | nil =>
      rw [List.map_nil, dget_nil]
      split <;> rfl
    | cons p l ih =>
      obtain ⟨a, b⟩ := p
      rw [List.map_cons]
      show dget ((if a = k then (a, v) else (a, b)) :: _) k' = _
      by_cases e : a = k
      · rw [if_pos e, dget_cons, dget_cons]
        by_cases e2 : a = k'
        · have e3 : k = k' := e.symm.trans e2
          rw [if_pos e2, if_pos e2, if_pos e3]
          rfl
        · have e3 : ¬ k = k' := fun z => e2 (e.trans z)
          rw [if_neg e2, if_neg e2, ih]
      · rw [if_neg e, dget_cons, dget_cons]
        by_cases e2 : a = k'
        · have e3 : ¬ k = k' := fun z => e (e2.trans z.symm)
          rw [if_pos e2, if_pos e2, if_neg e3]
        · rw [if_neg e2, if_neg e2, ih]
  unfold dput
  by_cases h : (dget kvs k).isSome = true
  · rw [if_pos h, mp]
    by_cases e : k = k'
    · subst e
      rw [if_pos rfl, if_pos rfl]
      obtain ⟨d, hd⟩ := Option.isSome_iff_exists.mp h
      rw [hd]
      rfl
    · rw [if_neg e, if_neg e]
  · rw [if_neg h, app]
    by_cases e : k = k'
    · subst e
      rw [if_neg h, if_pos rfl, if_pos rfl]
    · rw [if_neg e, if_neg e]
      cases hk : dget kvs k' with
      | none => rfl
      | some d => rfl
theorem dput_new {kvs : List (D × D)} {k v : D} (h : dget kvs k = none) : dput kvs k v = kvs ++ [(k, v)] := by
  unfold dput
  rw [h]
  exact if_neg (by simp)
theorem dput_length (kvs : List (D × D)) (k v : D) : (dput kvs k v).length ≤ kvs.length + 1 := by
  unfold dput
  split
  · rw [List.length_map]
    omega
  · rw [List.length_append, List.length_singleton]
    exact Nat.le_refl _
end
def keyOf : D → Option Key
  | .int i => some (.inl i)
  | .str x => some (.inr x)
  | _ => none
def keysOf : List D → Option (List Key)
  | [] => some []
  | d :: ds => (keyOf d).bind fun k => (keysOf ds).map fun ks => k :: ks
theorem keyOf_eq {d : D} {k : Key} (h : keyOf d = some k) : d = keyD k := by
  cases d with
  | int i =>
    cases h
    rfl
  | str i =>
    cases h
    rfl
  | _ => cases h
theorem keysOf_eq : ∀ {ds : List D} {ks : List Key}, keysOf ds = some ks → ds = ks.map keyD
  | [], ks, h => by
    cases h
    rfl
  | d :: ds, ks, h => by
    obtain ⟨k, h1, h2⟩ := Option.bind_eq_some_iff.mp h
    obtain ⟨r, h3, rfl⟩ := Option.map_eq_some_iff.mp h2
    rw [List.map_cons, ← keyOf_eq h1, ← keysOf_eq h3]
/-- a key of a dict of that kind -/
def keyOk (t : Bool) (k : D) : Prop := if t = true then ∃ ds ks, k = .tup ds ∧ keysOf ds = some ks else ∃ q, keyOf k = some q
theorem keyD_inj {a b : Key} (h : keyD a = keyD b) : a = b := by
  cases a <;> cases b <;> cases h <;> rfl
theorem keyDs_inj : ∀ {a b : List Key}, a.map keyD = b.map keyD → a = b
  | [], [], _ => rfl
  | [], _ :: _, e => by simp at e
  | _ :: _, [], e => by simp at e
  | x :: xs, y :: ys, e => by
    rw [List.map_cons, List.map_cons] at e
    injection e with e1 e2
    rw [keyD_inj e1, keyDs_inj e2]
section
variable {K : PySem.W.Frag} {S : SO} {H : Hp}
theorem rel_key {k : Key} {v : V} (h : Rel K S H (keyD k) v) : v = kV k := by
  cases k with
  | inl i => exact h
  | inr x => exact h
theorem rels_key : ∀ {ks : List Key} {vs : List V}, Rels K S H (ks.map keyD) vs → vs = ks.map kV
  | [], _, h => h
  | k :: ks, _, h => by
    obtain ⟨v, r, rfl, h1, h2⟩ := h
    rw [rel_key h1, rels_key h2]
    rfl
def OptR (K : PySem.W.Frag) (S : SO) (H : Hp) : Option D → Option V → Prop
  | some d, some v => Rel K S H d v
  | none, none => True
  | _, _ => False
theorem RelK.get : ∀ {kvs : List (D × D)} {l : List (Key × V)} (q : Key), RelK K S H kvs l → OptR K S H (dget kvs (keyD q)) (valV l q)
  | [], l, q, h => by
    have e : l = [] := h
    subst e
    exact trivial
  | (k, d) :: kvs, l, q, h => by
    obtain ⟨q', v, r, rfl, rfl, h1, h2⟩ := h
    rw [dget_cons]
    by_cases e : q' = q
    · rw [if_pos (by rw [e]), valV_pos (p := (q', v)) e]
      exact h1
    · rw [if_neg (fun z => e (keyD_inj z)), valV_neg (p := (q', v)) e]
      exact RelK.get q h2
theorem RelT.get : ∀ {kvs : List (D × D)} {l : List (List Key × V)} (q : List Key), RelT K S H kvs l → OptR K S H (dget kvs (.tup (q.map keyD))) (valV l q)
  | [], l, q, h => by
    have e : l = [] := h
    subst e
    exact trivial
  | (k, d) :: kvs, l, q, h => by
    obtain ⟨q', v, r, rfl, rfl, h1, h2⟩ := h
    rw [dget_cons]
    by_cases e : q' = q
    · rw [if_pos (by rw [e]), valV_pos (p := (q', v)) e]
      exact h1
    · rw [if_neg (fun z => e (keyDs_inj (by injection z))), valV_neg (p := (q', v)) e]
      exact RelT.get q h2
theorem OptR.isSome {o : Option D} {u : Option V} (h : OptR K S H o u) : u.isSome = o.isSome := by
  cases o <;> cases u <;> first | rfl | exact h.elim
theorem RelK.length : ∀ {kvs : List (D × D)} {l : List (Key × V)}, RelK K S H kvs l → kvs.length = l.length
  | [], l, h => by
    have e : l = [] := h
    rw [e]
    rfl
  | (k, d) :: kvs, l, h => by
    obtain ⟨q', v, r, rfl, rfl, h1, h2⟩ := h
    rw [List.length_cons, List.length_cons, h2.length]
theorem RelT.length : ∀ {kvs : List (D × D)} {l : List (List Key × V)}, RelT K S H kvs l → kvs.length = l.length
  | [], l, h => by
    have e : l = [] := h
    rw [e]
    rfl
  | (k, d) :: kvs, l, h => by
    obtain ⟨q', v, r, rfl, rfl, h1, h2⟩ := h
    rw [List.length_cons, List.length_cons, h2.length]
theorem RelK.snoc {q : Key} {d : D} {v : V} (hr : Rel K S H d v) : ∀ {kvs : List (D × D)} {l : List (Key × V)}, RelK K S H kvs l → RelK K S H (kvs ++ [(keyD q, d)]) (l ++ [(q, v)])
  | [], l, h => by
    have e : l = [] := h
    subst e
    exact ⟨q, v, [], rfl, rfl, hr, rfl⟩
  | (k, d') :: kvs, l, h => by
    obtain ⟨q', v', r, rfl, rfl, h1, h2⟩ := h
    exact ⟨q', v', _, rfl, rfl, h1, h2.snoc hr⟩
theorem RelT.snoc {q : List Key} {d : D} {v : V} (hr : Rel K S H d v) : ∀ {kvs : List (D × D)} {l : List (List Key × V)}, RelT K S H kvs l → RelT K S H (kvs ++ [(.tup (q.map keyD), d)]) (l ++ [(q, v)])
  | [], l, h => by
    have e : l = [] := h
    subst e
    exact ⟨q, v, [], rfl, rfl, hr, rfl⟩
  | (k, d') :: kvs, l, h => by
    obtain ⟨q', v', r, rfl, rfl, h1, h2⟩ := h
    exact ⟨q', v', _, rfl, rfl, h1, h2.snoc hr⟩
open Classical in
theorem RelK.repl {q : Key} {d : D} {v : V} (hr : Rel K S H d v) : ∀ {kvs : List (D × D)} {l : List (Key × V)}, RelK K S H kvs l → RelK K S H (kvs.map fun p => if p.1 = keyD q then (p.1, d) else p) (l.map fun p => if p.1 = q then (p.1, v) else p)
  | [], l, h => by
    have e : l = [] := h
    subst e
    exact rfl
  | (k, d') :: kvs, l, h => by
    obtain ⟨q', v', r, rfl, rfl, h1, h2⟩ := h
    rw [List.map_cons, List.map_cons]
    by_cases e : q' = q
    · rw [if_pos (by rw [e]), if_pos e]
      exact ⟨q', v, _, rfl, rfl, hr, h2.repl hr⟩
    · rw [if_neg (fun z => e (keyD_inj z)), if_neg e]
      exact ⟨q', v', _, rfl, rfl, h1, h2.repl hr⟩
open Classical in
theorem RelT.repl {q : List Key} {d : D} {v : V} (hr : Rel K S H d v) : ∀ {kvs : List (D × D)} {l : List (List Key × V)}, RelT K S H kvs l → RelT K S H (kvs.map fun p => if p.1 = .tup (q.map keyD) then (p.1, d) else p) (l.map fun p => if p.1 = q then (p.1, v) else p)
  | [], l, h => by
    have e : l = [] := h
    subst e
    exact rfl
  | (k, d') :: kvs, l, h => by
    obtain ⟨q', v', r, rfl, rfl, h1, h2⟩ := h
    rw [List.map_cons, List.map_cons]
    by_cases e : q' = q
    · rw [if_pos (by rw [e]), if_pos e]
      exact ⟨q', v, _, rfl, rfl, hr, h2.repl hr⟩
    · rw [if_neg (fun z => e (keyDs_inj (by injection z))), if_neg e]
      exact ⟨q', v', _, rfl, rfl, h1, h2.repl hr⟩
theorem RelK.put {q : Key} {d : D} {v : V} {kvs : List (D × D)} {l : List (Key × V)} (h : RelK K S H kvs l) (hr : Rel K S H d v) : RelK K S H (dput kvs (keyD q) d) (putK l q v) := by
  have g := (h.get q).isSome
  unfold dput putK
  rw [valV_any, g]
  split
  · exact h.repl hr
  · exact h.snoc hr
theorem RelT.put {q : List Key} {d : D} {v : V} {kvs : List (D × D)} {l : List (List Key × V)} (h : RelT K S H kvs l) (hr : Rel K S H d v) : RelT K S H (dput kvs (.tup (q.map keyD)) d) (putK l q v) := by
  have g := (h.get q).isSome
  unfold dput putK
  rw [valV_any, g]
  split
  · exact h.repl hr
  · exact h.snoc hr
end
def objD : Option DO → Option (Bool × List (D × D))
  | some (.dic t kvs) => some (t, kvs)
  | _ => none
def dicX (S : SO) : D → Option (Bool × List (D × D))
  | .dic t kvs => some (t, kvs)
  | .fd false kvs => some (false, kvs)
  | .obj a => objD (S a)
  | _ => none
theorem objD_of {o : Option DO} {t : Bool} {kvs : List (D × D)} (h : objD o = some (t, kvs)) : o = some (.dic t kvs) := by
  cases o with
  | none => cases h
  | some u =>
    cases u with
    | dic t' kvs' =>
      cases h
      rfl
    | _ => cases h
def DicAt (K : PySem.W.Frag) (S : SO) (H : Hp) (a : Addr) (t : Bool) (kvs : List (D × D)) : Prop := (∃ l, t = false ∧ H a = some (.dK l) ∧ RelK K S H kvs l) ∨ (∃ l, t = true ∧ H a = some (.dT l) ∧ RelT K S H kvs l)
/-- .. to be read: locked or not -/
def DicRd (K : PySem.W.Frag) (S : SO) (H : Hp) (a : Addr) (t : Bool) (kvs : List (D × D)) : Prop := (∃ l, t = false ∧ Rd H a (.dK l) ∧ RelK K S H kvs l) ∨ (∃ l, t = true ∧ H a = some (.dT l) ∧ RelT K S H kvs l)
theorem DicAt.rd {K : PySem.W.Frag} {S : SO} {H : Hp} {a : Addr} {t : Bool} {kvs : List (D × D)} : DicAt K S H a t kvs → DicRd K S H a t kvs
  | .inl ⟨l, ht, h, r⟩ => .inl ⟨l, ht, .inl h, r⟩
  | .inr h => .inr h
theorem dicX_at {K : PySem.W.Frag} {S : SO} {H : Hp} {d : D} {v : V} {t : Bool} {kvs : List (D × D)} (s : SRel K S H) (r : Rel K S H d v) (e : dicX S d = some (t, kvs)) : ∃ a, v = .ref a ∧ DicRd K S H a t kvs := by
  cases d with
  | dic t' kvs' =>
    cases e
    obtain ⟨a, h1, _, h2⟩ := r
    exact ⟨a, h1, DicAt.rd h2⟩
  | fd t' kvs' =>
    cases t' with
    | true => cases e
    | false =>
      cases e
      obtain ⟨a, h1, _, ⟨o, l, _, h2, h3⟩ | ⟨o, l, z, _⟩⟩ := r
      · exact ⟨a, h1, .inl ⟨l, rfl, .inr ⟨o, h2⟩, h3⟩⟩
      · cases z
  | obj a => exact ⟨a, r, DicAt.rd (s a _ (objD_of e))⟩
  | _ => cases e
theorem DicRd.get {K : PySem.W.Frag} {S : SO} {H : Hp} {a : Addr} {t : Bool} {kvs : List (D × D)} {k : D} {y : V} (h : DicRd K S H a t kvs) (r : Rel K S H k y) (ok : keyOk t k) : ∃ o, DGet H a y o ∧ OptR K S H (dget kvs k) o := by
  rcases h with ⟨l, rfl, hl, rl⟩ | ⟨l, rfl, hl, rl⟩
  · obtain ⟨q, hq⟩ := ok
    have e := keyOf_eq hq
    subst e
    rw [rel_key r]
    exact ⟨_, .inl ⟨l, q, hl, rfl, rfl⟩, rl.get q⟩
  · obtain ⟨ds, ks, rfl, hk⟩ := ok
    have e := keysOf_eq hk
    subst e
    obtain ⟨b, vs, rfl, tb, rv⟩ := r
    have e2 := rels_key rv
    subst e2
    exact ⟨_, DGet.t hl tb.2, rl.get ks⟩
theorem DicAt.put {K : PySem.W.Frag} {S : SO} {H : Hp} {a : Addr} {t : Bool} {kvs : List (D × D)} {k d : D} {y v : V} (h : DicAt K S H a t kvs) (r : Rel K S H k y) (ok : keyOk t k) (rv : Rel K S H d v) (hz : kvs.length < 1000000) :
    ∃ o, DPut H a y v (upd H a o) ∧ (∀ S' H', Nx S H S' H' → H' a = some o → DicAt K S' H' a t (dput kvs k d)) := by
  rcases h with ⟨l, rfl, hl, rl⟩ | ⟨l, rfl, hl, rl⟩
  · obtain ⟨q, hq⟩ := ok
    have e := keyOf_eq hq
    subst e
    rw [rel_key r]
    exact ⟨_, DPut.k hl (by rw [← rl.length]; exact Nat.lt_of_lt_of_le hz (le_line (Nat.le_refl _))), fun S' H' n e => .inl ⟨_, rfl, e, RelK.nx n _ _ (rl.put rv)⟩⟩
  · obtain ⟨ds, ks, rfl, hk⟩ := ok
    have e := keysOf_eq hk
    subst e
    obtain ⟨b, vs, rfl, tb, rvs⟩ := r
    have e2 := rels_key rvs
    subst e2
    exact ⟨_, DPut.t hl tb.2 (by rw [← rl.length]; exact Nat.lt_of_lt_of_le hz (le_line (Nat.le_refl _))), fun S' H' n e => .inr ⟨_, rfl, e, RelT.nx n _ _ (rl.put rv)⟩⟩
end L2.DL

/-! DL8: in, subscripts, slices, len and other built-ins -/
namespace L2.DL
open PySem PySem.Spec PyProof.Rows

/-! ### in -/
def strIn (i j : Str) : Bool := !(Builtin.Str.occurrences j i 0 j.length 1).isEmpty
/-- x is equal to one of the items -/
def memD (S : SO) (x : D) (xs : List D) (k : Bool → Prop) : Prop := ∃ p ps, pyS S x = some p ∧ pyDs xs = some ps ∧ SeqAt.shaped p = true ∧ SeqAt.shaped (.list ps) = true ∧ k (ps.any fun z => PyData.eqv z p)
def inD (x y : D) (S : SO) (k : Bool → Prop) : Prop := match y with
  | .str j => (match x with
    | .str i => k (strIn i j)
    | _ => False)
  | y => (∃ xs, seqX S y = some xs ∧ memD S x xs k) ∨ (∃ t kvs, dicX S y = some (t, kvs) ∧ keyOk t x ∧ k (dget kvs x).isSome)
def oIn : WO := fun x y S Q => inD x y S fun b => Q (.bl b) S
def oNotIn : WO := fun x y S Q => inD x y S fun b => Q (.bl (!b)) S
theorem in_str {i j : Str} {S : SO} {k : Bool → Prop} (h : k (strIn i j)) : inD (.str i) (.str j) S k := h
theorem inD_cases {x y : D} {S : SO} {k : Bool → Prop} (h : inD x y S k) : (∃ i j, x = .str i ∧ y = .str j ∧ k (strIn i j)) ∨ (∃ xs, seqX S y = some xs ∧ memD S x xs k) ∨ (∃ t kvs, dicX S y = some (t, kvs) ∧ keyOk t x ∧ k (dget kvs x).isSome) := by
  cases y with
  | str j =>
    cases x with
    | str i => exact .inl ⟨i, j, rfl, rfl, h⟩
    | _ => exact False.elim h
  | _ => exact .inr h
theorem shaped_tup {ps : List PyData} (h : SeqAt.shaped (.list ps) = true) : PyData.canLayAll0 ps = true := by
  have := SeqAt.canLay_of_shaped h
  exact this
section
variable {X : Cx}
theorem seq_in {K : PySem.W.Frag} {S : SO} {H : Hp} {d : D} {v : V} {xs : List D} {ps : List PyData} (s : SRel K S H) (r : Rel K S H d v) (e : seqX S d = some xs) (hp : pyDs xs = some ps) : Dp K H v (.list ps) ∨ Dp K H v (.tuple ps) := by
  obtain ⟨a, vs, rfl, h, rv⟩ := seqX_at s r e
  exact h.elim (fun h => .inl (.lst h (rels_dp _ _ _ rv hp))) fun h => .inr (.tup h (rels_dp _ _ _ rv hp))
theorem do_in (hu : X.A.units + 65 < cLine) : DO2 X (compareOp .In) oIn := by
  intro pins s σ H x y v u Q I rx ry ⟨dx, dy, S, Q0, sr, r1, r2, q, an⟩
  rcases inD_cases q with ⟨i, j, rfl, rfl, q⟩ | ⟨xs, e, p, ps, hp, hps, sp, sps, q⟩ | ⟨t, kvs, e, ok, q⟩
  · exact op_in_str pins s σ H x y v u Q I rx ry ⟨i, j, r1, r2, ansd (.bl _) sr an q rfl⟩
  · have dp := relS_dp sr r1 hp
    rcases seq_in sr r2 e hps with dq | dq
    · exact op_inD hu pins s σ H x y v u Q I rx ry ⟨p, ps, dp, dq, sp, sps, ansd (.bl _) sr an q rfl⟩
    · obtain ⟨as, ra⟩ := Dp.reads I p x v dp rx
      obtain ⟨bs, rb⟩ := Dp.reads I (.tuple ps) y u dq ry
      exact SeqAt.in_tuple_reads rb ra (shaped_tup sps) (SeqAt.canLay_of_shaped sp) (room_in_shaped sp hu) ⟨.bl _, H, I, rfl, ansd (.bl _) sr an q rfl⟩
  · obtain ⟨a, rfl, da⟩ := dicX_at sr r2 e
    obtain ⟨o, g, oo⟩ := da.get r1 ok
    cases ry
    refine d_in (by omega) I g rx fun s' I' => ⟨.bl o.isSome, H, I', rfl, ?_⟩
    rw [oo.isSome]
    exact ansd (.bl _) sr an q rfl
theorem do_notIn (hu : X.A.units + 65 < cLine) : DO2 X (compareOp .NotIn) oNotIn := by
  intro pins s σ H x y v u Q I rx ry ⟨dx, dy, S, Q0, sr, r1, r2, q, an⟩
  rcases inD_cases q with ⟨i, j, rfl, rfl, q⟩ | ⟨xs, e, p, ps, hp, hps, sp, sps, q⟩ | ⟨t, kvs, e, ok, q⟩
  · exact op_notin_str pins s σ H x y v u Q I rx ry ⟨i, j, r1, r2, ansd (.bl _) sr an q rfl⟩
  · have dp := relS_dp sr r1 hp
    rcases seq_in sr r2 e hps with dq | dq
    · exact op_notInD hu pins s σ H x y v u Q I rx ry ⟨p, ps, dp, dq, sp, sps, ansd (.bl _) sr an q rfl⟩
    · obtain ⟨as, ra⟩ := Dp.reads I p x v dp rx
      obtain ⟨bs, rb⟩ := Dp.reads I (.tuple ps) y u dq ry
      exact SeqAt.notIn_tuple_reads rb ra (shaped_tup sps) (SeqAt.canLay_of_shaped sp) (room_in_shaped sp hu) ⟨.bl _, H, I, rfl, ansd (.bl _) sr an q rfl⟩
  · obtain ⟨a, rfl, da⟩ := dicX_at sr r2 e
    obtain ⟨o, g, oo⟩ := da.get r1 ok
    cases ry
    refine d_notIn (by omega) I g rx fun s' I' => ⟨.bl (!o.isSome), H, I', rfl, ?_⟩
    rw [oo.isSome]
    exact ansd (.bl _) sr an q rfl

/-! ### a[i] -/
def oIx : WO := fun x y S Q => (∃ xs i v, seqX S x = some xs ∧ y = .int i ∧ atI xs i = some v ∧ Q v S) ∨ (∃ z i c, x = .str z ∧ y = .int i ∧ z.length ≤ 1000000 ∧ atI z.cps.toList i = some c ∧ Q (.str ⟨#[c]⟩) S) ∨
  (∃ t kvs v, dicX S x = some (t, kvs) ∧ keyOk t y ∧ dget kvs y = some v ∧ Q v S)
theorem do_ix (hu : X.A.units + 65 < cLine) : IxR X (liftO X.K oIx) := by
  intro value slice pins s σ H x y v u Q I rx ry ⟨dx, dy, S, Q0, sr, r1, r2, q, an⟩ hs
  rcases q with ⟨xs, i, d, e, rfl, hi, q⟩ | ⟨z, i, c, rfl, rfl, hz, hi, q⟩ | ⟨t, kvs, d, e, ok, hd, q⟩
  · obtain ⟨a, vs, ex, hq, rv⟩ := seqX_at sr r1 e
    have e2 : y = .int i := r2
    unfold atI at hi
    obtain ⟨j, hj, hx⟩ := Option.bind_eq_some_iff.mp hi
    obtain ⟨w, hw, rw'⟩ := rv.get hx
    have hi2 : atI vs i = some w := by
      unfold atI
      rw [← rv.length, hj]
      exact hw
    have qw : Q w H := ansd d sr an q rw'
    rcases hq with hq | hq
    · exact ix_list value slice pins s σ H x y v u Q I rx ry ⟨a, vs, i, w, ex, e2, hq, hi2, qw⟩ hs
    · exact ix_tup value slice pins s σ H x y v u Q I rx ry ⟨a, vs, i, w, ex, e2, hq, hi2, qw⟩ hs
  · exact ix_str value slice pins s σ H x y v u Q I rx ry ⟨z, i, c, r1, r2, le_line hz, hi, ansd (.str _) sr an q rfl⟩ hs
  · obtain ⟨a, rfl, da⟩ := dicX_at sr r1 e
    obtain ⟨o, g, oo⟩ := da.get r2 ok
    rw [hd] at oo
    cases o with
    | none => exact oo.elim
    | some w =>
      cases rx
      exact tail_any (dict_typeIs I g) PySem.F.slot_dict_getitem.lookup (d_getItem (by omega) I g ry fun w' s' I' rw' => ⟨w, H, I', rw', ansd d sr an q oo⟩) hs
theorem de_ix {a b : Expr} {wa wb : WE} {pos : Pos} (hu : X.A.units + 65 < cLine) (ha : DE X a wa) (hb : DE X b wb) (hs : PlainIx b := by intro _ _; rfl) : DE X (.Subscript a b pos) (wO oIx wa wb) :=
  pe_imp (pe_ix (do_ix hu) ha hb hs) fun σ H Q h => two h fun v u H2 x y S2 Q0 s2 r1 r2 q2 an => ⟨x, y, S2, Q0, s2, r1, r2, q2, an⟩

/-! ### a[lo:hi] -/
abbrev WP := SD → SO → (Option Int → SO → Prop) → Prop
def liftP (K : PySem.W.Frag) (w : WP) : TO := fun σ H Q => ∃ sd S Q0, Sta K sd S σ H ∧ w sd S Q0 ∧ ∀ o S' H', Q0 o S' → Nx S H S' H' → SRel K S' H' → Q o H'
abbrev DP (X : Cx) (e : Option Expr) (w : WP) : Prop := PO X e (liftP X.K w)
theorem po_imp {e : Option Expr} {t t' : TO} (h : PO X e t) (i : ∀ σ H Q, t' σ H Q → t σ H Q) : PO X e t' := ⟨fun pins s σ H Q I q => h.run pins s σ H Q I (i σ H Q q)⟩
def pNone : WP := fun _ S Q => Q none S
def isI0 (k : Int → SO → Prop) : KD := fun d S => match d with
  | .int i => k i S
  | _ => False
structure IsI (k : Int → SO → Prop) (d : D) (S : SO) : Prop where
  ex : isI0 k d S
def isI (k : Int → SO → Prop) : KD := fun d S => IsI k d S
def pSome (we : WE) : WP := fun sd S Q => we sd S (isI fun i S1 => Q (some i) S1)
theorem dp_none : DP X none pNone := po_imp po_none fun σ H Q ⟨sd, S, Q0, st, q, an⟩ => an _ _ _ q (.refl _ _) st.s
theorem dp_some {e : Expr} {we : WE} (h : DE X e we) : DP X (some e) (pSome we) := po_imp (po_some h) fun σ H Q ⟨sd, S, Q0, st, q, an⟩ => ⟨sd, S, _, st, q, fun d S1 v H1 q1 n1 s1 r1 => by
  have q1 := q1.ex
  cases d with
  | int i => exact ⟨i, r1, an _ _ _ q1 n1 s1⟩
  | _ => exact False.elim q1⟩
def cutD (xs : List D) (lo hi : Option Int) : List D := (xs.drop (HT.sIx xs.length 0 lo)).take (HT.sIx xs.length xs.length hi - HT.sIx xs.length 0 lo)
theorem Rels.cut {K : PySem.W.Frag} {S : SO} {H : Hp} {xs : List D} {vs : List V} (r : Rels K S H xs vs) (lo hi : Option Int) : Rels K S H (cutD xs lo hi) (cutV vs lo hi) := by
  unfold cutD cutV
  rw [← r.length]
  exact (r.drop _).take _
/-- what the slice of it is -/
def sliD (d : D) (S : SO) (lo hi : Option Int) (Q : KD) : Prop := match d with
  | .str z => z.length ≤ 1000000 ∧ Q (.str (cutS z lo hi)) S
  | .tup xs => Q (.tup (cutD xs lo hi)) S
  | .kt xs => ¬ (HT.sIx xs.length 0 lo = 0 ∧ HT.sIx xs.length xs.length hi = xs.length) ∧ Q (.tup (cutD xs lo hi)) S
  | .tf xs => ¬ (HT.sIx xs.length 0 lo = 0 ∧ HT.sIx xs.length xs.length hi = xs.length) ∧ Q (.tup (cutD xs lo hi)) S
  | .src xs => Q (.lst (cutD xs lo hi)) S
  | d => ∃ xs, lstD S d = some xs ∧ Q (.lst (cutD xs lo hi)) S
def wSl (we : WE) (tl th : WP) : WE := fun sd S Q => we sd S fun d S1 => tl sd S1 fun lo S2 => th sd S2 fun hi S3 => sliD d S3 lo hi Q
theorem cutD_all {xs : List D} {lo hi : Option Int} (h : HT.sIx xs.length 0 lo = 0 ∧ HT.sIx xs.length xs.length hi = xs.length) : cutD xs lo hi = xs := by
  unfold cutD
  rw [h.1, h.2]
  simp
theorem sl_d : SlR X (fun x lo hi H Q => ∃ d S Q0, SRel X.K S H ∧ Rel X.K S H d x ∧ sliD d S lo hi Q0 ∧ Ans X.K S H Q0 Q) := by
  intro pins s σ H x v vl vu lo hi sl Q I rx hs pl pu ⟨d, S, Q0, sr, r, q, an⟩
  have lists : ∀ {a : Addr} {vs : List V} {xs : List D}, x = .ref a → SqL X.K H a vs → Rels X.K S H xs vs → Q0 (.lst (cutD xs lo hi)) S → ∃ T id, typeLookup (.type T) "__getitem__" = pure (some (.builtin id)) ∧ s.TypeIs v T ∧ wpAny (model X.prog X.w) X.A (getItem v (.ref sl)) (EP X pins σ Q) X.xe s := fun e hq rv q =>
    sl_list pins s σ H x v vl vu lo hi sl Q I rx hs pl pu ⟨_, _, e, hq, fun p hp => an _ _ _ _ q (nx_new hp) (sr.new hp) ⟨p, _, rfl, sr.free hp, upd_same, (rv.cut lo hi).nx (nx_new hp)⟩⟩
  have via : ∀ {d : D} {xs : List D}, Rel X.K S H d x → lstD S d = some xs → Q0 (.lst (cutD xs lo hi)) S → ∃ T id, typeLookup (.type T) "__getitem__" = pure (some (.builtin id)) ∧ s.TypeIs v T ∧ wpAny (model X.prog X.w) X.A (getItem v (.ref sl)) (EP X pins σ Q) X.xe s := fun r e q =>
    let ⟨a, vs, h1, h2, h3⟩ := lstD_at sr r e
    lists h1 (.of h2) h3 q
  cases d with
  | str z => exact sl_str pins s σ H x v vl vu lo hi sl Q I rx hs pl pu ⟨z, r, le_line q.1, ansd (.str _) sr an q.2 rfl⟩
  | tup xs =>
    obtain ⟨a, vs, e, t, rv⟩ := r
    refine sl_tupA pins s σ H x v vl vu lo hi sl Q I rx hs pl pu ⟨a, vs, e, t.sq, fun hw => ?_, fun _ p hp => an _ _ _ _ q (nx_new hp) (sr.new hp) ⟨p, _, rfl, ⟨sr.free hp, upd_same⟩, (rv.cut lo hi).nx (nx_new hp)⟩⟩
    rw [← rv.length] at hw
    have q' : Q0 (.tup (cutD xs lo hi)) S := q
    rw [cutD_all hw] at q'
    exact ansd (.tup xs) sr an q' ⟨a, vs, rfl, t, rv⟩
  | kt xs =>
    obtain ⟨a, vs, e, t, rv⟩ := r
    refine sl_tupA pins s σ H x v vl vu lo hi sl Q I rx hs pl pu ⟨a, vs, e, t.sq, fun hw => absurd (by rw [rv.length]; exact hw) q.1, fun _ p hp => an _ _ _ _ q.2 (nx_new hp) (sr.new hp) ⟨p, _, rfl, ⟨sr.free hp, upd_same⟩, (rv.cut lo hi).nx (nx_new hp)⟩⟩
  | tf xs =>
    obtain ⟨a, vs, e, t, rv⟩ := r
    refine sl_tupA pins s σ H x v vl vu lo hi sl Q I rx hs pl pu ⟨a, vs, e, t.sq, fun hw => absurd (by rw [rv.length]; exact hw) q.1, fun _ p hp => an _ _ _ _ q.2 (nx_new hp) (sr.new hp) ⟨p, _, rfl, ⟨sr.free hp, upd_same⟩, (rv.cut lo hi).nx (nx_new hp)⟩⟩
  | src xs =>
    obtain ⟨a, vs, e, t, rv⟩ := r
    exact lists e t.sq rv q
  | lst xs => exact let ⟨ys, e, q⟩ := q; via r e q
  | obj a => exact let ⟨ys, e, q⟩ := q; via r e q
  | _ => exact let ⟨_, e, _⟩ := q; nomatch e
theorem de_sl {a : Expr} {lo hi : Option Expr} {we : WE} {tl th : WP} {pos p2 : Pos} (ha : DE X a we) (hl : DP X lo tl) (hh : DP X hi th) : DE X (.Subscript a (.Slice lo hi none p2) pos) (wSl we tl th) :=
  pe_imp (pe_slice sl_d ha hl hh) fun σ H Q ⟨sd, S, Q0, st, q, an⟩ => ⟨sd, S, _, st, q, fun d S1 v H1 q1 n1 s1 r1 => ⟨sd, S1, _, st.nx n1 s1, q1, fun o S2 H2 q2 n2 s2 => ⟨sd, S2, _, (st.nx n1 s1).nx n2 s2, q2, fun o3 S3 H3 q3 n3 s3 =>
    ⟨d, S3, Q0, s3, (Rel.nx (n2.trans n3) _ _ r1), q3, an.nx (n1.trans (n2.trans n3))⟩⟩⟩⟩
end
end L2.DL

/-! DL9: built-ins by values, methods, stores -/
namespace L2.DL
open PySem PySem.Spec PyProof.Rows

section
variable {K : PySem.W.Frag} {S : SO} {H : Hp}
theorem rels_ints : ∀ {ns : List Int} {vs : List V}, Rels K S H (ns.map D.int) vs → vs = ns.map V.int
  | [], _, h => h
  | k :: ks, _, h => by
    obtain ⟨v, r, rfl, h1, h2⟩ := h
    have e : v = .int k := h1
    rw [e, rels_ints h2]
    rfl
theorem rels_strs : ∀ {ns : List Str} {vs : List V}, Rels K S H (ns.map D.str) vs → vs = ns.map V.str
  | [], _, h => h
  | k :: ks, _, h => by
    obtain ⟨v, r, rfl, h1, h2⟩ := h
    have e : v = .str k := h1
    rw [e, rels_strs h2]
    rfl
theorem rels_bls : ∀ {ns : List Bool} {vs : List V}, Rels K S H (ns.map D.bl) vs → vs = ns.map V.bl
  | [], _, h => h
  | k :: ks, _, h => by
    obtain ⟨v, r, rfl, h1, h2⟩ := h
    have e : v = .bl k := h1
    rw [e, rels_bls h2]
    rfl
theorem rels_of_ints : ∀ (ns : List Int), Rels K S H (ns.map D.int) (ns.map V.int)
  | [] => rfl
  | k :: ks => ⟨_, _, rfl, rfl, rels_of_ints ks⟩
theorem rels_of_strs : ∀ (ns : List Str), Rels K S H (ns.map D.str) (ns.map V.str)
  | [] => rfl
  | k :: ks => ⟨_, _, rfl, rfl, rels_of_strs ks⟩
end
/-- the items of a list that is read -/
def lstX (S : SO) : D → Option (List D)
  | .src xs => some xs
  | d => lstD S d
theorem lstX_at {K : PySem.W.Frag} {S : SO} {H : Hp} {d : D} {v : V} {xs : List D} (s : SRel K S H) (r : Rel K S H d v) (e : lstX S d = some xs) : ∃ a vs, v = .ref a ∧ SqL K H a vs ∧ Rels K S H xs vs := by
  cases d with
  | src ys =>
    cases e
    obtain ⟨a, vs, h1, h2, h3⟩ := r
    exact ⟨a, vs, h1, h2.sq, h3⟩
  | lst ys =>
    obtain ⟨a, vs, h1, h2, h3⟩ := lstD_at s r e
    exact ⟨a, vs, h1, .of h2, h3⟩
  | obj ys =>
    obtain ⟨a, vs, h1, h2, h3⟩ := lstD_at s r e
    exact ⟨a, vs, h1, .of h2, h3⟩
  | _ => cases e
/-- one argument; two -/
def one (xs : List D) (k : D → Prop) : Prop := match xs with
  | [x] => k x
  | _ => False
def two2 (xs : List D) (k : D → D → Prop) : Prop := match xs with
  | [x, y] => k x y
  | _ => False
theorem one_of {xs : List D} {k : D → Prop} (h : one xs k) : ∃ j, xs = [j] ∧ k j := by
  unfold one at h
  split at h
  · exact ⟨_, rfl, h⟩
  · exact h.elim
theorem two2_of {xs : List D} {k : D → D → Prop} (h : two2 xs k) : ∃ i j, xs = [i, j] ∧ k i j := by
  unfold two2 at h
  split at h
  · exact ⟨_, _, rfl, h⟩
  · exact h.elim
theorem Rels.v1 {K : PySem.W.Frag} {S : SO} {H : Hp} {d : D} {vs : List V} (r : Rels K S H [d] vs) : ∃ v, vs = [v] ∧ Rel K S H d v := by
  obtain ⟨v, r', rfl, rv, e⟩ := r
  have e' : r' = [] := e
  exact ⟨v, by rw [e'], rv⟩
section
variable {X : Cx}
/-! ### numbers -/
def cInt : WL := fun xs S Q => one xs fun x => match x with
  | .int i => Q (.int i) S
  | .bl b => Q (.int (if b then 1 else 0)) S
  | _ => False
theorem dc_int : DC X (.type "int") cInt := by
  intro pins s σ H xs us Q I r ⟨ds, S, Q0, sr, rs, q, an⟩
  obtain ⟨x, rfl, q⟩ := one_of q
  obtain ⟨v, rfl, rv⟩ := rs.v1
  cases x with
  | int i =>
    have e : v = .int i := rv
    exact call_int1 pins s σ H _ us Q I r (.inl ⟨i, by rw [e], ansd (.int i) sr an q rfl⟩)
  | bl i =>
    have e : v = .bl i := rv
    exact call_int1 pins s σ H _ us Q I r (.inr ⟨i, by rw [e], ansd (.int _) sr an q rfl⟩)
  | _ => exact False.elim q
def cAbs : WL := fun xs S Q => int1 xs fun i => Q (.int (if i < 0 then -i else i)) S
theorem dc_abs : DC X (.builtin "abs") cAbs := by
  intro pins s σ H xs us Q I r ⟨ds, S, Q0, sr, rs, q, an⟩
  obtain ⟨i, rfl, q⟩ := int1_of q
  rw [rs.int1] at r
  exact call_abs pins s σ H _ us Q I r ⟨i, rfl, ansd (.int _) sr an q rfl⟩
/-- max(a, b) of ints, max(list of ints) -/
def intsX (S : SO) (xs : List D) (k : List Int → Prop) : Prop := one xs fun x => ∃ ns : List Int, lstX S x = some (ns.map D.int) ∧ k ns
def IsMax (ns : List Int) (m : Int) : Prop := m ∈ ns ∧ ∀ y ∈ ns, y ≤ m
def IsMin (ns : List Int) (m : Int) : Prop := m ∈ ns ∧ ∀ y ∈ ns, m ≤ y
def cMax : WL := fun xs S Q => int2 xs (fun i j => Q (.int (max i j)) S) ∨ intsX S xs fun ns => ns ≠ [] ∧ ∀ m, IsMax ns m → Q (.int m) S
def cMin : WL := fun xs S Q => int2 xs (fun i j => Q (.int (min i j)) S) ∨ intsX S xs fun ns => ns ≠ [] ∧ ∀ m, IsMin ns m → Q (.int m) S
theorem dc_max (hc : X.calm = true) : DC X (.builtin "max") cMax := by
  intro pins s σ H xs us Q I r ⟨ds, S, Q0, sr, rs, q, an⟩
  rcases q with q | q
  · obtain ⟨i, j, rfl, q⟩ := int2_of q
    rw [rs.int2] at r
    refine call_max2 hc pins s σ H _ us Q I r ⟨i, j, rfl, ?_⟩
    have e : (if j > i then j else i) = max i j := by omega
    rw [e]
    exact ansd (.int _) sr an q rfl
  · obtain ⟨x, rfl, ns, e, hne, q⟩ := one_of q
    obtain ⟨v, rfl, rv⟩ := rs.v1
    obtain ⟨a, vs, rfl, hq, rns⟩ := lstX_at sr rv e
    rw [rels_ints rns] at hq
    exact cr_max hc pins s σ H _ us Q I r ⟨a, ns, rfl, hq, List.length_pos_iff.mpr hne, fun m h1 h2 => ansd (.int m) sr an (q m ⟨h1, h2⟩) rfl⟩
theorem dc_min (hc : X.calm = true) : DC X (.builtin "min") cMin := by
  intro pins s σ H xs us Q I r ⟨ds, S, Q0, sr, rs, q, an⟩
  rcases q with q | q
  · obtain ⟨i, j, rfl, q⟩ := int2_of q
    rw [rs.int2] at r
    refine call_min2 hc pins s σ H _ us Q I r ⟨i, j, rfl, ?_⟩
    have e : (if j < i then j else i) = min i j := by omega
    rw [e]
    exact ansd (.int _) sr an q rfl
  · obtain ⟨x, rfl, ns, e, hne, q⟩ := one_of q
    obtain ⟨v, rfl, rv⟩ := rs.v1
    obtain ⟨a, vs, rfl, hq, rns⟩ := lstX_at sr rv e
    rw [rels_ints rns] at hq
    exact cr_min hc pins s σ H _ us Q I r ⟨a, ns, rfl, hq, List.length_pos_iff.mpr hne, fun m h1 h2 => ansd (.int m) sr an (q m ⟨h1, h2⟩) rfl⟩
def blsX (S : SO) (xs : List D) (k : List Bool → Prop) : Prop := one xs fun x => ∃ ns : List Bool, lstX S x = some (ns.map D.bl) ∧ k ns
def cAll : WL := fun xs S Q => blsX S xs fun ns => Q (.bl (ns.all id)) S
def cAny : WL := fun xs S Q => blsX S xs fun ns => Q (.bl (ns.any id)) S
theorem dc_all (hc : X.calm = true) : DC X (.builtin "all") cAll := by
  intro pins s σ H xs us Q I r ⟨ds, S, Q0, sr, rs, q, an⟩
  obtain ⟨x, rfl, ns, e, q⟩ := one_of q
  obtain ⟨v, rfl, rv⟩ := rs.v1
  obtain ⟨a, vs, rfl, hq, rns⟩ := lstX_at sr rv e
  rw [rels_bls rns] at hq
  exact cr_all hc pins s σ H _ us Q I r ⟨a, ns, rfl, hq, ansd (.bl _) sr an q rfl⟩
def cDivmod : WL := fun xs S Q => int2 xs fun i j => CDiv i j ∧ Q (.tup [.int (i / j), .int (i % j)]) S
theorem dc_divmod : DC X (.builtin "divmod") cDivmod := by
  intro pins s σ H xs us Q I r ⟨ds, S, Q0, sr, rs, q, an⟩
  obtain ⟨i, j, rfl, hc, q⟩ := int2_of q
  rw [rs.int2] at r
  refine call_divmod pins s σ H _ us Q I r ⟨i, j, rfl, hc, fun p hp => ?_⟩
  exact an _ _ _ _ q (nx_new hp) (sr.new hp) ⟨p, _, rfl, ⟨sr.free hp, upd_same⟩, .int (i / j), [.int (i % j)], rfl, rfl, .int (i % j), [], rfl, rfl, rfl⟩
/-! ### len, list, tuple -/
def lenD0 (S : SO) (d : D) (k : Nat → Prop) : Prop := match d with
  | .str z => z.length ≤ 1000000 ∧ k z.length
  | d => (∃ xs, seqX S d = some xs ∧ k xs.length) ∨ ∃ t kvs, dicX S d = some (t, kvs) ∧ k kvs.length
structure LenD (S : SO) (d : D) (k : Nat → Prop) : Prop where
  ex : lenD0 S d k
abbrev lenD (S : SO) (d : D) (k : Nat → Prop) : Prop := LenD S d k
theorem len_seq {S : SO} {d : D} {k : Nat → Prop} {xs : List D} (e : seqX S d = some xs) (h : k xs.length) : lenD S d k := by
  refine ⟨?_⟩
  cases d with
  | str z => cases e
  | _ => exact .inl ⟨xs, e, h⟩
theorem lenD_cases {S : SO} {d : D} {k : Nat → Prop} (h' : lenD S d k) : (∃ z, d = .str z ∧ z.length ≤ 1000000 ∧ k z.length) ∨ (∃ xs, seqX S d = some xs ∧ k xs.length) ∨ ∃ t kvs, dicX S d = some (t, kvs) ∧ k kvs.length := by
  have h := h'.ex
  cases d with
  | str z => exact .inl ⟨z, rfl, h⟩
  | _ => exact .inr h
def cLen : WL := fun xs S Q => one xs fun x => lenD S x fun n => Q (.int n) S
theorem dc_len : DC X (.builtin "len") cLen := by
  intro pins s σ H xs us Q I r ⟨ds, S, Q0, sr, rs, q, an⟩
  obtain ⟨x, rfl, q2⟩ := one_of q
  obtain ⟨v, rfl, rv⟩ := rs.v1
  rcases lenD_cases q2 with ⟨z, rfl, hz, q⟩ | ⟨ys, e, q⟩ | ⟨t, kvs, e, q⟩
  · have e : v = .str z := rv
    exact call_len pins s σ H _ us Q I r ⟨v, z.length, rfl, by rw [e]; exact ⟨le_line hz, rfl⟩, ansd (.int _) sr an q rfl⟩
  · obtain ⟨a, vs, rfl, hq, rns⟩ := seqX_at sr rv e
    exact call_len pins s σ H _ us Q I r ⟨.ref a, ys.length, rfl, hq.elim (fun h => .inl ⟨vs, h, rns.length⟩) fun h => .inr ⟨vs, h, rns.length⟩, ansd (.int _) sr an q rfl⟩
  · obtain ⟨a, rfl, da⟩ := dicX_at sr rv e
    rcases da with ⟨l, rfl, hl, rl⟩ | ⟨l, rfl, hl, rl⟩
    · obtain ⟨u, rfl, ru⟩ := vals1 r
      cases ru
      refine d_len I hl fun t s' I' => ⟨.int l.length, H, I', ⟨t, rfl⟩, ?_⟩
      rw [← rl.length]
      exact ansd (.int _) sr an q rfl
    · refine call_len_dT pins s σ H _ us Q I r ⟨a, l, rfl, hl, ?_⟩
      rw [← rl.length]
      exact ansd (.int _) sr an q rfl
def cList : WL := fun xs S Q => one xs fun x => ∃ ys, seqX S x = some ys ∧ Q (.lst ys) S
theorem dc_list : DC X (.type "list") cList := by
  intro pins s σ H xs us Q I r ⟨ds, S, Q0, sr, rs, q, an⟩
  obtain ⟨x, rfl, ys, e, q⟩ := one_of q
  obtain ⟨v, rfl, rv⟩ := rs.v1
  obtain ⟨a, vs, rfl, hq, rns⟩ := seqX_at sr rv e
  exact call_list_of pins s σ H _ us Q I r ⟨a, vs, rfl, hq, fun p hp => an _ _ _ _ q (nx_new hp) (sr.new hp) ⟨p, _, rfl, sr.free hp, upd_same, rns.nx (nx_new hp)⟩⟩
/-- tuple(of a list), of a tuple -/
def cTuple : WL := fun xs S Q => one xs fun x => match x with
  | .tup ys => Q (.tup ys) S
  | x => ∃ ys, lstX S x = some ys ∧ Q (.tup ys) S
theorem dc_tuple : DC X (.type "tuple") cTuple := by
  intro pins s σ H xs us Q I r ⟨ds, S, Q0, sr, rs, q, an⟩
  obtain ⟨x, rfl, q⟩ := one_of q
  obtain ⟨v, rfl, rv⟩ := rs.v1
  have via : (∃ ys, lstX S x = some ys ∧ Q0 (.tup ys) S) → wpAny (model X.prog X.w) X.A (call (.type "tuple") us) (EP X pins σ Q) X.xe s := fun ⟨ys, e, q⟩ => by
    obtain ⟨a, vs, rfl, hq, rns⟩ := lstX_at sr rv e
    exact call_tuple_of pins s σ H _ us Q I r ⟨a, vs, rfl, .inl ⟨hq, fun p hp => an _ _ _ _ q (nx_new hp) (sr.new hp) ⟨p, _, rfl, ⟨sr.free hp, upd_same⟩, rns.nx (nx_new hp)⟩⟩⟩
  cases x with
  | tup ys =>
    obtain ⟨a, vs, rfl, t, rns⟩ := rv
    exact call_tuple_of pins s σ H _ us Q I r ⟨a, vs, rfl, .inr ⟨t.sq, ansd (.tup ys) sr an q ⟨a, vs, rfl, t, rns⟩⟩⟩
  | _ => exact via q

/-! ### methods -/
abbrev WM := D → List D → SO → KD → Prop
abbrev DM (X : Cx) (id : String) (w : WM) : Prop := MtR X id (liftM X.K w)
def tyD (T : String) (d : D) (S : SO) : Prop := match d with
  | .str _ => T = "str"
  | .int _ => T = "int"
  | .src _ => T = "list"
  | .dic _ _ => T = "dict"
  | .lst _ => T = "list"
  | .obj a => (T = "list" ∧ ∃ xs, S a = some (.lst xs)) ∨ (T = "dict" ∧ ∃ t kvs, S a = some (.dic t kvs))
  | _ => False
theorem tyD_at {T : String} {d : D} {S : SO} {K : PySem.W.Frag} {H : Hp} {v : V} (h : tyD T d S) (s : SRel K S H) (r : Rel K S H d v) : tyV K T v H := by
  have dc : ∀ {a : Addr} {t : Bool} {kvs : List (D × D)}, DicAt K S H a t kvs → tyV K "dict" (.ref a) H := fun h => by
    rcases h with ⟨l, _, hl, _⟩ | ⟨l, _, hl, _⟩
    · exact .inr (.inr (.inl ⟨rfl, .inl ⟨l, hl⟩⟩))
    · exact .inr (.inr (.inl ⟨rfl, .inr ⟨l, hl⟩⟩))
  cases d with
  | str z =>
    have e : v = .str z := r
    have h' : T = "str" := h
    rw [e, h']
    exact rfl
  | int z =>
    have e : v = .int z := r
    have h' : T = "int" := h
    rw [e, h']
    exact rfl
  | src xs =>
    have h' : T = "list" := h
    obtain ⟨a, vs, rfl, t, _⟩ := r
    exact .inl ⟨h', vs, t.sq⟩
  | lst xs =>
    have h' : T = "list" := h
    obtain ⟨a, vs, rfl, _, t, _⟩ := r
    exact .inl ⟨h', vs, .of t⟩
  | dic t kvs =>
    have h' : T = "dict" := h
    obtain ⟨a, rfl, _, da⟩ := r
    rw [h']
    exact dc da
  | obj a =>
    have e : v = .ref a := r
    rw [e]
    rcases h with ⟨h', xs, hx⟩ | ⟨h', t, kvs, hx⟩
    · obtain ⟨vs, hv, _⟩ := s a _ hx
      exact .inl ⟨h', vs, .of hv⟩
    · rw [h']
      exact dc (s a _ hx)
  | _ => exact False.elim h
def wBM (T : String) (w : WM) (wo : WE) (t : WA) : WE := fun sd S Q => wo sd S fun d S1 => tyD T d S1 ∧ t sd S1 fun xs S2 => w d xs S2 Q
section
variable {o e : Expr} {es : List Expr} {wo : WE} {t : WA} {name : Str} {apos cpos : Pos} {T id : String} {w : WM}
theorem bm_lift {σ : St} {H : Hp} {Q : VK} (h : lift X.K (wBM T w wo t) σ H Q) : tBM X.K T (liftM X.K w) (lift X.K wo) (liftA X.K t) σ H Q := by
  obtain ⟨sd, S, Q0, st, q, an⟩ := h
  exact ⟨sd, S, _, st, q, fun d S1 v H1 ⟨ty, q1⟩ n1 s1 r1 => ⟨tyD_at ty s1 r1, sd, S1, _, st.nx n1 s1, q1, fun xs S2 vs H2 q2 n2 s2 r2 => ⟨d, xs, S2, Q0, s2, Rel.nx n2 _ _ r1, r2, q2, an.nx (n1.trans n2)⟩⟩⟩
theorem de_bm (hm : DM X id w) (pa : PlainAttrs T) (slot : Slot T name id) (hty : typeOf (.builtin id) = pure (.type "method_descriptor")) (ho : DE X o wo) (ha : DA X (e :: es) t)
    (hbase : attributeBase o name X.env (eval o X.env) = eval o X.env := by rfl)
    (hfew : ((backTo cpos (starEach (e :: es) X.env)).all (fun x => !x.1) && (backToKw cpos (keywordEach [] X.env)).all (fun x => x.1.isSome)
      && decide ((e :: es).length + ([] : List Keyword).length + (if ([] : List Keyword).isEmpty then 0 else 1) < 30)) = true := by rfl)
    (hline : (apos.endLine == cpos.line) = true := by rfl) (hs : starEach (e :: es) X.env = (false, eval e X.env) :: starEach es X.env := by rfl) (hplain : (backTo cpos (starEach es X.env)).any (·.1) = false := by rfl) :
    DE X (.Call (.Attribute o name apos) (e :: es) [] cpos) (wBM T w wo t) := pe_imp (pe_bm pa slot hty hm ho ha hbase hfew hline hs hplain) fun σ H Q h => bm_lift h
end
def mAppend : WM := fun d xs S Q => one xs fun y => ∃ a ys, d = .obj a ∧ S a = some (.lst ys) ∧ ys.length < 1000000 ∧ Q .non (S.set a (.lst (ys ++ [y])))
theorem dm_append : DM X "list.append" mAppend := by
  intro pins s σ H x xs v us Q I rx rs ⟨d, ys, S, Q0, sr, r1, r2, q, an⟩
  obtain ⟨y, rfl, a, zs, rfl, hS, hl, q⟩ := one_of q
  have r1' : x = .ref a := r1
  obtain ⟨u, rfl, ru⟩ := r2.v1
  obtain ⟨vs, hv, rv⟩ := sr a _ hS
  have n2 : Nx S H (S.set a (.lst (zs ++ [y]))) (upd H a (.lst (vs ++ [u]))) := nx_put hS
  refine mt_append pins s σ H x _ v us Q I rx rs ⟨a, vs, u, r1', rfl, hv, by rw [← rv.length]; exact Nat.lt_of_lt_of_le hl (le_line (Nat.le_refl _)), ?_⟩
  exact an _ _ _ _ q n2 (srel_put sr n2 ⟨_, upd_same, (rv.app (.one ru)).nx n2⟩) rfl
/-- l.index(x), t.index(x) -/
def IsIdx (ps : List PyData) (p : PyData) (j : Nat) : Prop := (∃ z, ps[j]? = some z ∧ PyData.eqv z p = true) ∧ ∀ m z', m < j → ps[m]? = some z' → PyData.eqv z' p = false
def mIndex : WM := fun d xs S Q => one xs fun y => ∃ ys p ps j, lstX S d = some ys ∧ pyS S y = some p ∧ pyDs ys = some ps ∧ SeqAt.shaped p = true ∧ SeqAt.shaped (.list ps) = true ∧ IsIdx ps p j ∧ Q (.int (j : Nat)) S
theorem dm_index (hu : X.A.units + 65 < cLine) : DM X "list.index" mIndex := by
  intro pins s σ H x xs v us Q I rx rs ⟨d, ys, S, Q0, sr, r1, r2, q, an⟩
  obtain ⟨y, rfl, zs, p, ps, j, e, hp, hps, sp, sps, ⟨⟨z, hz, hzp⟩, hno⟩, q⟩ := one_of q
  obtain ⟨u, rfl, ru⟩ := r2.v1
  obtain ⟨a, vs, rfl, hq, rns⟩ := lstX_at sr r1 e
  exact mt_indexD hu pins s σ H _ _ v us Q I rx rs ⟨a, u, p, ps, j, z, rfl, rfl, .lst hq (rels_dp _ _ _ rns hps), relS_dp sr ru hp, sps, sp, hz, hzp, hno, ansd (.int _) sr an q rfl⟩
/-! ### stores -/
abbrev WSet := D → D → D → SO → (SO → Prop) → Prop
def liftSet (K : PySem.W.Frag) (w : WSet) : TSet := fun o i v H Q => ∃ d k x S Q0, SRel K S H ∧ Rel K S H d o ∧ Rel K S H k i ∧ Rel K S H x v ∧ w d k x S Q0 ∧ ∀ S' H', Q0 S' → Nx S H S' H' → SRel K S' H' → Q H'
/-- l[i] = v, d[k] = v -/
def sSub : WSet := fun d k x S Q => ∃ a, d = .obj a ∧ ((∃ xs i j, S a = some (.lst xs) ∧ k = .int i ∧ ixN xs.length i = some j ∧ Q (S.set a (.lst (xs.set j x)))) ∨ (∃ t kvs, S a = some (.dic t kvs) ∧ keyOk t k ∧ kvs.length < 1000000 ∧ Q (S.set a (.dic t (dput kvs k x)))))
theorem Rels.set {K : PySem.W.Frag} {S : SO} {H : Hp} {d : D} {v : V} (hr : Rel K S H d v) : ∀ {ds : List D} {vs : List V} (j : Nat), Rels K S H ds vs → Rels K S H (ds.set j d) (vs.set j v)
  | [], _, j, h => by
    have e : _ = [] := h
    rw [e]
    exact rfl
  | d' :: ds, _, 0, h => by
    obtain ⟨u, r, rfl, h1, h2⟩ := h
    exact ⟨v, r, rfl, hr, h2⟩
  | d' :: ds, _, j + 1, h => by
    obtain ⟨u, r, rfl, h1, h2⟩ := h
    exact ⟨u, _, rfl, h1, h2.set hr j⟩
theorem pset_sub (hu : X.A.units + 65 < cLine) : PSet X (liftSet X.K sSub) := by
  intro pins s σ H o i v ov iv u Q I ro ri rv ⟨d, k, x, S, Q0, sr, r1, r2, r3, q, an⟩
  obtain ⟨a, rfl, q⟩ := q
  rcases q with ⟨xs, i', j, hS, rfl, hj, q⟩ | ⟨t, kvs, hS, ok, hl, q⟩
  · obtain ⟨vs, hv, rvs⟩ := sr a _ hS
    have n2 : Nx S H (S.set a (.lst (xs.set j x))) (upd H a (.lst (vs.set j v))) := nx_put hS
    exact set_list pins s σ H o i v ov iv u Q I ro ri rv ⟨a, vs, i', j, r1, r2, hv, by rw [← rvs.length]; exact hj, an _ _ q n2 (srel_put sr n2 ⟨_, upd_same, (rvs.set r3 j).nx n2⟩)⟩
  · have da : DicAt X.K S H a t kvs := sr a _ hS
    obtain ⟨ob, g, hd⟩ := da.put r2 ok r3 hl
    have n2 : Nx S H (S.set a (.dic t (dput kvs k x))) (upd H a ob) := nx_put hS
    exact set_dict (by omega) pins s σ H o i v ov iv u Q I ro ri rv ⟨a, _, r1, g, an _ _ q n2 (srel_put sr n2 (hd _ _ n2 upd_same))⟩
/-- o[i] as a target -/
def gSubD (wo wi : WE) (w : WSet) : WG := fun v sd S Q => wo sd S fun d S1 => wi sd S1 fun k S2 => w d k v S2 fun S3 => Q sd S3
theorem dg_sub {o i : Expr} {wo wi : WE} {w : WSet} {pos : Pos} (hw : PSet X (liftSet X.K w)) (ho : DE X o wo) (hi : DE X i wi)
    (ha : ∀ v, assign (.Subscript o i pos) X.env v = (do
      let ov ← holding [v] (eval o X.env)
      let iv ← holding [v, ov] (eval i X.env)
      standAt pos
      holding [v, ov, iv] (setItem ov iv v)
      release [v, ov, iv] []) := by intro _; rfl) : DG X (.Subscript o i pos) (gSubD wo wi w) :=
  pg_imp (pg_sub ho hi hw ha) fun v σ H Q ⟨x, sd, S, Q0, st, r, q, an⟩ => ⟨sd, S, _, st, q, fun d S1 u H1 q1 n1 s1 r1 => ⟨sd, S1, _, st.nx n1 s1, q1, fun k S2 w' H2 q2 n2 s2 r2 =>
    ⟨d, k, x, S2, _, s2, Rel.nx n2 _ _ r1, r2, Rel.nx (n1.trans n2) _ _ r, q2, fun S3 H3 q3 n3 s3 => an _ _ _ _ q3 (n1.trans (n2.trans n3)) (st.nx (n1.trans (n2.trans n3)) s3)⟩⟩⟩
theorem ds_sub {o i value : Expr} {we wo wi : WE} {pos pos' : Pos} (hu : X.A.units + 65 < cLine) (ho : DE X o wo) (hi : DE X i wi) (hv : DE X value we) (hs : swapsWithSole [.Subscript o i pos'] value pos.line X.env = pure false := by rfl) (hw : swappedStores [.Subscript o i pos'] value X.env = pure none := by rfl)
    (h1 : (assignEach [.Subscript o i pos'] X.env).map (·.2) = [assign (.Subscript o i pos') X.env] := by rfl)
    (ha : ∀ v, assign (.Subscript o i pos') X.env v = (do
      let ov ← holding [v] (eval o X.env)
      let iv ← holding [v, ov] (eval i X.env)
      standAt pos'
      holding [v, ov, iv] (setItem ov iv v)
      release [v, ov, iv] []) := by intro _; rfl) : DS X (.Assign [.Subscript o i pos'] value pos) (wAsg we (gSubD wo wi sSub)) := ds_asg hv (dg_sub (pset_sub hu) ho hi ha) hs hw h1
/-- {} -/
def wDnew (t : Bool) : WE := fun sd S Q => ∀ p, S p = none → Q (.obj p) (S.set p (.dic t []))
theorem de_dnewK {pos : Pos} : DE X (.Dict [] [] pos) (wDnew false) := pe_imp pe_dnewK fun σ H Q ⟨sd, S, Q0, st, q, an⟩ p hp => by
  have n2 : Nx S H (S.set p (.dic false [])) (upd H p (.dK [])) := nx_obj hp (st.s.free hp)
  exact an _ _ _ _ (q p (st.s.free hp)) n2 (srel_put st.s n2 (.inl ⟨[], rfl, upd_same, rfl⟩)) rfl
theorem de_dnewT {pos : Pos} : DE X (.Dict [] [] pos) (wDnew true) := pe_imp pe_dnewT fun σ H Q ⟨sd, S, Q0, st, q, an⟩ p hp => by
  have n2 : Nx S H (S.set p (.dic true [])) (upd H p (.dT [])) := nx_obj hp (st.s.free hp)
  exact an _ _ _ _ (q p (st.s.free hp)) n2 (srel_put st.s n2 (.inr ⟨[], rfl, upd_same, rfl⟩)) rfl
/-- a, b = x, y with plain local names -/
def wPar (i j : Nat) (t : WA) : WS := fun E sd S => t sd S fun xs S1 => two2 xs fun x y => E.nx ((sd.set i (some x)).set j (some y)) S1
theorem ds_par {i j : Nat} {x y : Str} {a b : Expr} {t : WA} {px py pt pos pt2 : Pos} {kt k2 : Nat} (hc : X.calm = true) (hN : X.N.Nodup) (ha : DA X [a, b] t) (hi : X.N[i]? = some x := by rfl) (hj : X.N[j]? = some y := by rfl) (hij : i ≠ j := by decide)
    (hx : X.env.scope.names.lookup x = some .local := by rfl) (hy : X.env.scope.names.lookup y = some .local := by rfl) (hw : swappedStores [.Tuple [.Name x px, .Name y py] kt pt] (.Tuple [a, b] k2 pt2) X.env = pure (some [x, y]) := by rfl)
    (hs : swapsWithSole [.Tuple [.Name x px, .Name y py] kt pt] (.Tuple [a, b] k2 pt2) pos.line X.env = pure false := by rfl) : DS X (.Assign [.Tuple [.Name x px, .Name y py] kt pt] (.Tuple [a, b] k2 pt2) pos) (wPar i j t) :=
  ps_imp (ps_par hc hN hi hj hij hx hy ha hw hs) fun E σ H ⟨sd, S, E0, st, q, an⟩ => ⟨sd, S, _, st, q, fun xs S1 vs H1 q1 n1 s1 r1 => by
    obtain ⟨u, v, rfl, q1⟩ := two2_of q1
    obtain ⟨vu, vv, rfl, ru, rv⟩ := r1.two
    exact ⟨vu, vv, rfl, an.nx _ _ _ _ q1 n1 (((st.nx n1 s1).set i ru).set j rv)⟩⟩
def three (xs : List D) (k : D → D → D → Prop) : Prop := match xs with
  | [x, y, z] => k x y z
  | _ => False
def wPar3 (i j k : Nat) (t : WA) : WS := fun E sd S => t sd S fun xs S1 => three xs fun x y z => E.nx (((sd.set i (some x)).set j (some y)).set k (some z)) S1
end
end L2.DL

/-! DL10: enumerate over lists and tuples -/
namespace L2.DL
open PySem PySem.Spec PyProof.Rows

theorem meets_enum_tup (l : Addr) (items : Array Value) :
    Meets (Builtin.«enumerate.__new__» ⟨[.type "enumerate", .ref l], []⟩) (fun _ R s => s.heap.IsTuple l items ∧
      R (.ok (.ret (.ref (s.heap.push { cls := .type "tuple_iterator", data := .fields #[.ref l, .int 0 0] }).objs.size)))
        { s with heap := (s.heap.push { cls := .type "tuple_iterator", data := .fields #[.ref l, .int 0 0] }).push { cls := .type "enumerate", data := .fields #[.none, .bool false, .ref s.heap.objs.size, rawInt 0, .none, .none] } }) :=
  .of_wp fun prog w A R s h => by
    obtain ⟨hp, g, d, tk, os⟩ := s; obtain ⟨hL, h⟩ := h
    have hsub := sub_enumerate
    wp_walk using wpAny_pyIter_tuple hL
    refine wpAny_stack_any fun st => wpAny_pure ?_
    split
    · rename_i c _ _ _ _ _
      cases (c == Value.type "enumerate")
      · wp_walk using wpAny_pyIter_tuple hL
        exact ⟨_, rfl, h⟩
      · wp_walk using wpAny_pyIter_tuple hL
        exact ⟨_, rfl, h⟩
    · wp_walk using wpAny_pyIter_tuple hL
      exact ⟨_, rfl, h⟩
theorem call_enum_tup {prog : Program} {w : World} {A : Around} {E : Value → Shared → Prop} {s : Shared} {l : Addr} {items : Array Value} {Q : Value → Shared → Prop} (hL : s.heap.IsTuple l items)
    (h : ∀ h', IsEnum h' (s.heap.objs.size + 1) s.heap.objs.size 0 .none → h'.IsTupleIter s.heap.objs.size l 0 → h'.objs.size = s.heap.objs.size + 2 →
      (∀ b o, s.heap.get? b = some o → h'.get? b = some o) → Q (.ref (s.heap.objs.size + 1)) { s with heap := h' }) :
    wpAny (model prog w) A (call (.type "enumerate") [.ref l]) Q E s := by
  refine callType_new F.called_enumerate (by decide) (F.typeCall_enumerate_1 _) (F.newCall_enumerate_1 _) (fun obj => F.args_object_init_2 obj _) F.entry_enumerate_new
    (meets_enum_tup l items) ⟨hL, ?_⟩
  have hz : (s.heap.push { cls := .type "tuple_iterator", data := .fields #[.ref l, .int 0 0] }).objs.size = s.heap.objs.size + 1 := Heap.size_push ..
  show _ ∧ _
  rw [hz]
  have he : IsEnum ((s.heap.push { cls := .type "tuple_iterator", data := .fields #[.ref l, .int 0 0] }).push
      { cls := .type "enumerate", data := .fields #[.none, .bool false, .ref s.heap.objs.size, rawInt 0, .none, .none] }) (s.heap.objs.size + 1) s.heap.objs.size 0 .none := by
    have := Heap.get?_push_size (s.heap.push { cls := .type "tuple_iterator", data := .fields #[.ref l, .int 0 0] })
      (o := { cls := .type "enumerate", data := .fields #[.none, .bool false, .ref s.heap.objs.size, rawInt 0, .none, .none] }) rfl
    rw [hz] at this; exact this
  refine ⟨⟨_, he, rfl⟩, h _ he ⟨_, Heap.get?_push_of_some _ (Heap.get?_push_size _ rfl), rfl, rfl⟩ (by rw [Heap.size_push, hz]) fun b o x => Heap.get?_push_of_some _ (Heap.get?_push_of_some _ x)⟩
def IteT (K : PySem.W.Frag) (a : Addr) : It :=
  ⟨fun i H => ∃ (xs : List V) (x : V), SqT K H a xs ∧ xs[i]? = some x, fun i H v H' => ∃ T x, v = .ref T ∧ H T = none ∧ H' = upd H T (.tup [.int (i : Nat), x]) ∧ ∀ xs, SqT K H a xs → xs[i]? = some x, fun i H => ∃ xs : List V, SqT K H a xs ∧ xs.length = i⟩
theorem tup_ne {h : Heap} {a it : Addr} {items : Array Value} {i : Nat} (ht : h.IsTuple a items) (hi : h.IsTupleIter it a i) : a ≠ it := fun e => by
  obtain ⟨o, ho, hc, _⟩ := ht
  obtain ⟨o', ho', hc', _⟩ := hi
  rw [e, ho'] at ho
  cases ho
  rw [hc'] at hc
  exact absurd hc (by decide +kernel)
theorem turn_enumT {P : Program} {w : World} {K : PySem.W.Frag} {elts : List Expr} {kk : Nat} {tpos : Pos} (a e it : Addr) :
    Turn P w K (.Tuple elts kk tpos) (IteT K a) [e, it] e (fun i h => (∃ old, IsEnum h e it ((i : Nat) : Int) old) ∧ h.IsTupleIter it a i ∧ e ≠ it) where
  mem := by simp
  obj := fun i h st b hb => by
    obtain ⟨⟨old, he⟩, ⟨o, ho, hc, hd⟩, _⟩ := st
    have e' : b = e ∨ b = it := by simpa using hb
    rcases e' with z | z
    · rw [z]; exact ⟨_, he, fun v q => nomatch q⟩
    · rw [z]; exact ⟨o, ho, fun v q => by rw [hd] at q; cases q⟩
  keep := fun i h h' st k => let ⟨⟨old, he⟩, hi, hne⟩ := st; ⟨⟨old, k e (by simp) _ he⟩, hi.at fun o q => k it (by simp) o q, hne⟩
  item := by
    intro X hP hw hK hc i pins s σ H E I hf st hg
    subst hP hw hK
    obtain ⟨⟨old, he⟩, hit, hne⟩ := st
    obtain ⟨xs, x, hq, hx⟩ := hg
    obtain ⟨its, rv, p, hz⟩ := I.tuple hq
    obtain ⟨u, hu, ru⟩ := rv.get hx
    have p' : s.heap.IsTuple a its.toArray := p
    have hai := tup_ne p' hit
    have hae : e ∉ [it, a] := fun hm => by
      rcases List.mem_cons.mp hm with q | q
      · exact hne q
      · have q' := List.mem_singleton.mp q
        obtain ⟨o, ho, hco, _⟩ := p'
        rw [← q', he] at ho
        cases ho
        exact absurd (show Value.type "enumerate" = Value.type "tuple" from hco) (by decide +kernel)
    have hel : e < s.heap.objs.size := Heap.lt_size he
    have hil : it < s.heap.objs.size := by obtain ⟨_, q, _⟩ := hit; exact Heap.lt_size q
    have hlt : i < its.toArray.size := by
      have := (List.getElem?_eq_some_iff.mp hu).1
      simpa using this
    refine wpAny_pyNext_enum_itemC (Draws.tuple (prog := X.prog) (w := X.w) (A := X.A.in1) (I.ok.hd hc) it a hai its.toArray) he ⟨hit, p'⟩ hlt hne hae fun x' h' tk hx' ho hit' hT hsz hk => ?_
    have ex : x' = u := by
      have h1 : its.toArray[i]? = some x' := hx'
      have h2 : its.toArray[i]? = some u := by simpa using hu
      rw [h1] at h2
      exact Option.some.inj h2
    subst ex
    refine ⟨_, rfl, wpAny_letOwnedTupleGo_enum (s := { s with heap := h', toks := tk + 1 }) ho fun h'' he' sb => ?_⟩
    have hT2 : h''.get? s.heap.objs.size = some { cls := .type "tuple", data := .seq #[.int i tk, x'] } := (sb.2 _ (Nat.ne_of_gt hel)).trans hT
    have new : ObjOk X.prog X.w (upd H s.heap.objs.size (.tup [.int (i : Nat), x])) h'' s.heap.objs.size (.tup [.int (i : Nat), x]) :=
      ⟨by show 2 ≤ sizeLine; decide, [.int i tk, x'], .cons ⟨_, rfl⟩ (.cons ru .nil), ⟨_, hT2, rfl, _, rfl⟩⟩
    have I1 : Inv X pins σ (upd H s.heap.objs.size (.tup [.int (i : Nat), x])) { s with heap := h'', toks := tk + 1 } :=
      I.turnedNew (ch := [e, it]) (fun b ob hb q => (sb.2 b (fun z => hb (by simp [z]))).trans (hk b ob (fun z => hb (by simp [z])) (fun z => hb (by simp [z])) q)) hf (Nat.le_refl _) new
    refine ⟨.ref s.heap.objs.size, _, I1, rfl, ⟨_, x, rfl, I.hok.fresh (Nat.le_refl _), rfl, fun ys hy => by rw [I.tuple_inj hy hq]; exact hx⟩, ⟨⟨x', ?_⟩, hit'.1.at fun o q => (sb.2 it (Ne.symm hne)).trans q, hne⟩, fun b hb => ?_⟩
    · have e1 : ((i + 1 : Nat) : Int) = (i : Int) + 1 := by omega
      rw [e1]; exact he'
    · have hb' : b < s.heap.objs.size := by
        have e' : b = e ∨ b = it := by simpa using hb
        rcases e' with z | z
        · rw [z]; exact hel
        · rw [z]; exact hil
      rw [upd_ne (Nat.ne_of_lt hb')]
      exact (hf b hb).1
  done := by
    intro X hP hw hK hc i pins s σ H E I hf st hg
    subst hP hw hK
    obtain ⟨⟨old, he⟩, hit, hne⟩ := st
    obtain ⟨xs, hq, hx⟩ := hg
    obtain ⟨its, rv, p, hz⟩ := I.tuple hq
    have p' : s.heap.IsTuple a its.toArray := p
    obtain ⟨f0, f1, f2, f3, f4, f5⟩ := hf it (by simp)
    have hl := rv.length
    have hn : its.toArray.size = i := by rw [List.size_toArray, ← hl]; exact hx
    subst hn
    exact wpAny_pyNext_enum_endD (Draws.tuple (prog := X.prog) (w := X.w) (A := X.A.in1) (I.ok.hd hc) it a (tup_ne p' hit) its.toArray) he ⟨hit, p'⟩ fun h' eb => ⟨rfl, I.turned (t' := s.toks) (fun b o hb q => eb b o hb q) f0 f1 f3 f4 f5⟩
  self := fun A i s Q E st h => let ⟨⟨_, he⟩, _⟩ := st; wpAny_pyIter_enum he h
/-- enumerate(x) of a list or a tuple -/
def iEnumA (K : PySem.W.Frag) (ta : TA) : TI := fun σ H R => ta σ H fun vs H1 => ∃ a xs, vs = [.ref a] ∧ ((SqL K H1 a xs ∧ R (Ite K a) H1) ∨ (SqT K H1 a xs ∧ R (IteT K a) H1))
theorem pi_enumA {X : Cx} {e : Expr} {ta : TA} {p pos tpos : Pos} {elts : List Expr} {kk : Nat} (hg : Gl X "enumerate") (hm : X.mg "enumerate" = none) (ha : PA X [e] ta) (hs : starEach [e] X.env = [(false, eval e X.env)] := by rfl) :
    PI X (.Tuple elts kk tpos) (.Call (.Name "enumerate" p) [e] [] pos) (iEnumA X.K ta) := by
  refine ⟨fun pins s σ H R I h => ?_⟩
  refine Call_ (ld_blt I hg hm boot_enumerate (PyProof.Rows.callWith_type1 (thn (ha.run pos pins s σ H _ I h) fun us s1 ⟨vs, H1, I1, r1, q1⟩ => ?_) hs rfl))
  obtain ⟨a, xs, ex, q⟩ := q1
  subst ex
  cases r1 with
  | cons r rr =>
    cases rr
    cases r
    have fresh : ∀ b, b ∈ [s1.heap.objs.size + 1, s1.heap.objs.size] → FpOk X pins H1 b := fun b hb => by
      have e' : b = s1.heap.objs.size + 1 ∨ b = s1.heap.objs.size := by simpa using hb
      have hle : s1.heap.objs.size ≤ b := by
        rcases e' with z | z
        · rw [z]; exact Nat.le_add_right _ _
        · rw [z]; exact Nat.le_refl _
      exact I1.fpOk hle (I1.hok.fresh hle)
    rcases q with ⟨hq, q⟩ | ⟨hq, q⟩
    · obtain ⟨its, rv, p', hz⟩ := I1.list hq
      refine call_enumerate_list p'.isList fun h' he hit hsz hk => wpAny_pyIter_enum he ?_
      have I2 : Inv X pins σ H1 { s1 with heap := h' } := I1.kept (t' := s1.toks) hk
      exact ⟨s1.heap.objs.size + 1, [s1.heap.objs.size + 1, s1.heap.objs.size], _, _, H1, rfl, I2, turn_enum a (s1.heap.objs.size + 1) s1.heap.objs.size, ⟨⟨.none, he⟩, hit, Nat.succ_ne_self _⟩, fresh, q⟩
    · obtain ⟨its, rv, p', hz⟩ := I1.tuple hq
      refine call_enum_tup (show s1.heap.IsTuple a its.toArray from p') fun h' he hit hsz hk => wpAny_pyIter_enum he ?_
      have I2 : Inv X pins σ H1 { s1 with heap := h' } := I1.kept (t' := s1.toks) hk
      exact ⟨s1.heap.objs.size + 1, [s1.heap.objs.size + 1, s1.heap.objs.size], _, _, H1, rfl, I2, turn_enumT a (s1.heap.objs.size + 1) s1.heap.objs.size, ⟨⟨.none, he⟩, hit, Nat.succ_ne_self _⟩, fresh, q⟩
def enumD (xs : List D) : List D := xs.mapIdx fun i d => .tup [.int (i : Nat), d]
theorem enumD_eq (xs : List D) : enumD xs = xs.mapIdx fun i d => .tup [.int (i : Nat), d] := rfl
theorem enumD_len (xs : List D) : (enumD xs).length = xs.length := by rw [enumD_eq, List.length_mapIdx]
theorem enumD_get {xs : List D} {i : Nat} {d : D} (h : (enumD xs)[i]? = some d) : ∃ x, xs[i]? = some x ∧ d = .tup [.int (i : Nat), x] := by
  rw [enumD_eq, List.getElem?_mapIdx] at h
  obtain ⟨x, hx, rfl⟩ := Option.map_eq_some_iff.mp h
  exact ⟨x, hx, rfl⟩
def wEnum (t : WA) : WI := fun sd S R => t sd S fun xs S1 => one xs fun d => seqD d S1 fun ys ok => R ⟨enumD ys, ok⟩ S1
theorem new_pair {K : PySem.W.Frag} {S : SO} {H : Hp} {T : Addr} {i : Int} {x : V} {d : D} (s : SRel K S H) (hT : H T = none) (r : Rel K S H d x) : Nx S H S (upd H T (.tup [.int i, x])) ∧ SRel K S (upd H T (.tup [.int i, x])) ∧ Rel K S (upd H T (.tup [.int i, x])) (.tup [.int i, d]) (.ref T) :=
  ⟨nx_new hT, s.new hT, T, _, rfl, ⟨s.free hT, upd_same⟩, .int i, [x], rfl, rfl, x, [], rfl, Rel.nx (nx_new hT) _ _ r, rfl⟩
theorem jrel_enumL {K : PySem.W.Frag} {S0 : SO} {H0 : Hp} {a : Addr} {xs : List D} {ok : SO → Prop} (h : ∀ S H, Nx S0 H0 S H → SRel K S H → ok S → ∃ vs, SqL K H a vs ∧ Rels K S H xs vs) : JRel K S0 H0 ⟨enumD xs, ok⟩ (Ite K a) where
  go := fun i S H n s o hi => by
    obtain ⟨vs, q, r⟩ := h S H n s o
    have hi' : i < xs.length := by rw [← enumD_len xs]; exact hi
    obtain ⟨v, hv, _⟩ := r.get (List.getElem?_eq_getElem hi')
    exact ⟨vs, v, q, hv⟩
  stop := fun i S H n s o hi => by
    obtain ⟨vs, q, r⟩ := h S H n s o
    exact ⟨vs, q, by rw [← r.length, ← enumD_len xs]; exact Nat.le_of_eq hi.symm⟩
  yld := fun i S H x H' d n s o hi y => by
    obtain ⟨vs, q, r⟩ := h S H n s o
    obtain ⟨T, x', rfl, hT, rfl, y⟩ := y
    obtain ⟨dx, hd, rfl⟩ := enumD_get hi
    obtain ⟨v, hv, rv⟩ := r.get hd
    have e := y vs q
    rw [hv] at e
    cases e
    exact new_pair s hT rv
theorem jrel_enumT {K : PySem.W.Frag} {S0 : SO} {H0 : Hp} {a : Addr} {xs : List D} {ok : SO → Prop} (h : ∀ S H, Nx S0 H0 S H → SRel K S H → ok S → ∃ vs, SqT K H a vs ∧ Rels K S H xs vs) : JRel K S0 H0 ⟨enumD xs, ok⟩ (IteT K a) where
  go := fun i S H n s o hi => by
    obtain ⟨vs, q, r⟩ := h S H n s o
    have hi' : i < xs.length := by rw [← enumD_len xs]; exact hi
    obtain ⟨v, hv, _⟩ := r.get (List.getElem?_eq_getElem hi')
    exact ⟨vs, v, q, hv⟩
  stop := fun i S H n s o hi => by
    obtain ⟨vs, q, r⟩ := h S H n s o
    exact ⟨vs, q, by rw [← r.length, ← enumD_len xs]; exact hi.symm⟩
  yld := fun i S H x H' d n s o hi y => by
    obtain ⟨vs, q, r⟩ := h S H n s o
    obtain ⟨T, x', rfl, hT, rfl, y⟩ := y
    obtain ⟨dx, hd, rfl⟩ := enumD_get hi
    obtain ⟨v, hv, rv⟩ := r.get hd
    have e := y vs q
    rw [hv] at e
    cases e
    exact new_pair s hT rv
theorem di_enum {X : Cx} {e : Expr} {t : WA} {p pos tpos : Pos} {elts : List Expr} {kk : Nat} (hm : X.mg "enumerate" = none) (ha : DA X [e] t) (hg : Gl X "enumerate" := by rfl) (hs : starEach [e] X.env = [(false, eval e X.env)] := by rfl) :
    DI X (.Tuple elts kk tpos) (.Call (.Name "enumerate" p) [e] [] pos) (wEnum t) := by
  refine pi_imp (pi_enumA hg hm ha hs) fun σ H R ⟨sd, S, R0, st, q, an⟩ => ⟨sd, S, _, st, q, fun xs S1 vs H1 q1 n1 s1 r1 => ?_⟩
  obtain ⟨d, rfl, q1⟩ := one_of q1
  obtain ⟨v, rfl, rv⟩ := r1.v1
  cases d with
  | lst xs =>
    obtain ⟨a, vs, rfl, t, hv, r⟩ := rv
    exact ⟨a, vs, rfl, .inl ⟨.of hv, an _ _ _ _ q1 n1 s1 (jrel_enumL fun S2 H2 n2 s2 _ => ⟨vs, .of (n2 a _ t hv).2, r.nx n2⟩)⟩⟩
  | src xs =>
    obtain ⟨a, vs, rfl, t, r⟩ := rv
    exact ⟨a, vs, rfl, .inl ⟨t.sq, an _ _ _ _ q1 n1 s1 (jrel_enumL fun S2 H2 n2 s2 _ => ⟨vs, (t.nx n2).sq, r.nx n2⟩)⟩⟩
  | tup xs =>
    obtain ⟨a, vs, rfl, t, r⟩ := rv
    exact ⟨a, vs, rfl, .inr ⟨t.sq, an _ _ _ _ q1 n1 s1 (jrel_enumT fun S2 H2 n2 s2 _ => ⟨vs, (t.nx n2).sq, r.nx n2⟩)⟩⟩
  | tf xs =>
    obtain ⟨a, vs, rfl, t, r⟩ := rv
    exact ⟨a, vs, rfl, .inr ⟨t.sq, an _ _ _ _ q1 n1 s1 (jrel_enumT fun S2 H2 n2 s2 _ => ⟨vs, (t.nx n2).sq, r.nx n2⟩)⟩⟩
  | kt xs =>
    obtain ⟨a, vs, rfl, t, r⟩ := rv
    exact ⟨a, vs, rfl, .inr ⟨t.sq, an _ _ _ _ q1 n1 s1 (jrel_enumT fun S2 H2 n2 s2 _ => ⟨vs, t.sq, r.nx n2⟩)⟩⟩
  | obj a =>
    obtain ⟨xs, hx, q1⟩ := q1
    have e : v = .ref a := rv
    subst e
    obtain ⟨vs, hq, r⟩ := SqL.uniq hx s1
    exact ⟨a, vs, rfl, .inl ⟨hq, an _ _ _ _ q1 n1 s1 (jrel_enumL fun S2 H2 n2 s2 o => SqL.uniq o s2)⟩⟩
  | _ => exact False.elim q1
end L2.DL

/-! DL11: dict comprehensions whose keys are ints and texts, or tuples of these -/
namespace L2.DL
open PySem PySem.Spec PyProof.Rows

/-- the empty dict of that kind -/
def ob0 : Bool → HO
  | true => .dT []
  | false => .dK []
theorem ob0_ok {P : Program} {w : World} {H : Hp} (t : Bool) (h : Heap) (hb : sysModules < h.objs.size) : ObjOk P w H (h.push { cls := .type "dict", data := .dict #[] }) h.objs.size (ob0 t) := by
  cases t with
  | true => exact dt_empty h hb
  | false => exact dk_empty h hb
theorem d_dictPut {X : Cx} {pins : List (Addr × Obj)} {σ : St} {H H' : Hp} {s : Shared} {E : Value → Shared → Prop} {a : Addr} {y v : V} {u r : Value} {Q : Unit → Shared → Prop} (hu : X.A.units + 65 < cLine) (I : Inv X pins σ H s) (g : DPut H a y v H') (ry : RelV y u) (rv : RelV v r)
    (h : ∀ s', Inv X pins σ H' s' → Q () s') : wpAny (model X.prog X.w) X.A (dictSet a u r) Q E s := by
  rcases g with ⟨kvs, k, e, rfl, l, rfl⟩ | ⟨kvs, k, b, e, rfl, eb, l, rfl⟩
  · exact d_dictSet I e l ry rv h
  · obtain rfl : u = Value.ref b := ry
    obtain ⟨z, hd, xs, rel, dd⟩ := dt_of I.hok e
    have lx := Paired.length rel
    have lp := length_putK kvs k v
    refine wpAny_dictSet_heap (hsz := by omega) (show X.A.units < cLine by omega) (key_of I.hok eb) dd fun h' dd' hs => h _ ?_
    obtain ⟨q, es, ep, hq, h2, h3, h4, _, h5⟩ := dd'
    refine d_write I (by rw [e]; trivial) hs ⟨q, hq⟩ ⟨by omega, hd, _, (rel.put k eb rv).keeps fun c ys ec => ?_, q, es, ep, hq, h2, h3, h4, h5⟩
    exact (upd_ne (ne_of ec e (fun z => nomatch z))).trans ec
/-- the comprehension's reading: D the new dict -/
def tDcG (t : Bool) (wi : TI) (g : TG) (tt : TT) (tk tv : TE) (vs : List Nat) : TE := fun σ H Q => wi σ H fun J H1 => ∀ D, H1 D = none → ∃ W : Nat → Nat → Hp → Prop, (∃ m, W 0 m (upd H1 D (ob0 t))) ∧ ∀ i m H, W i m H →
  (J.stop i H ∧ Q (.ref D) H) ∨ (J.go i H ∧ ∃ N : Hp → Prop, (∀ H', N H' → ∃ m', m' < m ∧ W (i + 1) m' H') ∧ ∀ x H', J.yld i H x H' → g x (wipe σ vs) H' fun σ2 H2 => wipe σ2 vs = wipe σ vs ∧ tt σ2 H2 fun b H3 =>
    if b = true then tk σ2 H3 fun y H4 => tv σ2 H4 fun z H5 => ∃ H6, DPut H5 D y z H6 ∧ N H6 else N H3)
section
variable {X : Cx}
theorem dcG_core {t : Bool} {pins : List (Addr × Obj)} {s : Shared} {σ : St} {H : Hp} {Q : VK} {kx vx tg iter : Expr} {ifs : List Expr} {scope : Scope} {own : List (Str × Nat)} {pos pos' : Pos} {wi : TI} {g : TG} {tt : TT} {tk tv : TE} {use : Option (Value → Sem Unit)} {Qf : Value → Shared → Prop}
    (hu : X.A.units + 65 < cLine) (hc : X.calm = true) (hN : X.N.Nodup) (I : Inv X pins σ H s) (hi : PI X tg iter wi) (ok : BlkOk X.N X.env.scope scope own) (hg : Blk X scope fun Y => PG Y tg g) (ht : Blk X scope fun Y => PTs Y ifs tt) (hk : Blk X scope fun Y => PE Y kx tk) (he : Blk X scope fun Y => PE Y vx tv)
    (hs : ∀ x, foldedSetIterable iter X.env x = pure x) (h : tDcG t wi g tt tk tv (own.map (·.2)) σ H Q)
    (hRR : ∀ D C s' m H', Inv X pins σ H' s' → Q (.ref D) H' → s'.heap.Ns C m → FpOk X pins H' C → compPost (model X.prog X.w) X.A X.xe use Qf (.ref D) C (.ok .next) s') :
    wpAny (model X.prog X.w) X.A (comprehension (.DictComp kx vx [⟨tg, iter, ifs, 0⟩] scope pos) scope X.env pos' newDict false (eval iter X.env) use) Qf X.xe s := by
  have frees : ∀ y ∈ scope.names, y.2 = .free → ∃ c, X.env.cells.lookup y.1 = some c := fun y hy e => (ok.free y hy e).elim (fun k => I.ok.has _ (.inl k)) fun k => I.ok.has _ (.inr k)
  refine wpAny_comprehension_free (use := use) rfl hs (closure_ok frees) ok.kind (fun y hy e => by rw [ok.uniq y hy, e])
    (thn (hi.run pins s σ H _ I h) fun xv s1 hx => thn hx fun itv s2 h2 => ?_)
  obtain ⟨it, fp, tn, J, H2, e, I2, T, st2, f2, q⟩ := h2
  subst e
  refine wpAny_newObj_type (newEnv_comp ?_)
  generalize hD : s2.heap.objs.size = D
  obtain ⟨W, ⟨m0, w0⟩, turn⟩ := q D (I2.hok.fresh (Nat.le_of_eq hD))
  generalize hs3 : ({ s2 with heap := s2.heap.push { cls := .type "dict", data := .dict #[] } } : Shared) = s3
  have h3 : s3.heap = s2.heap.push { cls := .type "dict", data := .dict #[] } := by rw [← hs3]
  have I3 : Inv X pins σ (upd H2 D (ob0 t)) s3 := by
    subst hs3 hD
    exact I2.laid (t' := s2.toks) (fun b o e => Heap.get?_push_of_some _ e) (Nat.le_refl _) (ob0_ok t s2.heap I2.big)
  have old : ∀ b ∈ fp, b < s2.heap.objs.size := fun b hb => let ⟨o, e, _⟩ := T.obj _ _ st2 b hb; Heap.lt_size e
  have f3 : ∀ b ∈ fp, FpOk X pins (upd H2 D (ob0 t)) b ∧ b < s3.heap.objs.size := fun b hb =>
    ⟨⟨(upd_ne (by rw [← hD]; exact Nat.ne_of_lt (old b hb))).trans (f2 b hb).1, (f2 b hb).2⟩, by rw [h3, Heap.size_push]; exact Nat.lt_succ_of_lt (old b hb)⟩
  have st3 : tn 0 s3.heap := T.keep _ _ _ st2 fun b _ o e => h3 ▸ Heap.get?_push_of_some _ e
  have I4 := block_start I3 ok hN f3
  show codeAny _ _ (.compStart (.DictComp kx vx [⟨tg, iter, ifs, 0⟩] scope pos) 0 (.ref it) (.ref D) (compEnvC scope (cellsFrom (s3.heap.objs.size + 1) scope.names (cloFrom X.env.cells scope.names [])) s3.heap.objs.size X.env)) (compPost (model X.prog X.w) X.A X.xe use Qf (.ref D) s3.heap.objs.size) { s3 with heap := pushCells (s3.heap.push { cls := .type "dict", data := .dict #[] }) scope.names }
  have pg := hg s3 (upd H2 D (ob0 t)) s3.heap.objs.size (cellsFrom (s3.heap.objs.size + 1) scope.names (cloFrom X.env.cells scope.names [])) fp
  have pt := ht s3 (upd H2 D (ob0 t)) s3.heap.objs.size (cellsFrom (s3.heap.objs.size + 1) scope.names (cloFrom X.env.cells scope.names [])) fp
  have pk := hk s3 (upd H2 D (ob0 t)) s3.heap.objs.size (cellsFrom (s3.heap.objs.size + 1) scope.names (cloFrom X.env.cells scope.names [])) fp
  have pe := he s3 (upd H2 D (ob0 t)) s3.heap.objs.size (cellsFrom (s3.heap.objs.size + 1) scope.names (cloFrom X.env.cells scope.names [])) fp
  generalize hce : compEnvC scope (cellsFrom (s3.heap.objs.size + 1) scope.names (cloFrom X.env.cells scope.names [])) s3.heap.objs.size X.env = ce at I4 pg pt pk pe ⊢
  have cL : ce.locals = s3.heap.objs.size := by rw [← hce]; rfl
  generalize hH3 : upd H2 D (ob0 t) = H3 at I3 I4 pg pt pk pe w0 f3
  generalize hs4 : ({ s3 with heap := pushCells (s3.heap.push { cls := .type "dict", data := .dict #[] }) scope.names } : Shared) = s4 at I4 ⊢
  have st4 : tn 0 s4.heap := T.keep _ _ _ st3 fun b _ o e => hs4 ▸ pushCells_keeps _ _ _ _ (Heap.get?_push_of_some _ e)
  have stat : ∀ {σ' : St} {H' : Hp} {s' : Shared}, Inv (X.blk s3 H3 scope ce fp) [] σ' H' s' → (∀ b ∈ fp, H' b = none) → ∀ b ∈ fp, FpOk (X.blk s3 H3 scope ce fp) [] H' b := fun {σ' H' s'} I' hn b hb =>
    ⟨hn b hb, (I'.ok.exf b hb).1, I'.ok.exfs b hb, .inl hb, fun x c e => (I'.ok.exf b hb).2 x c e, fun p hp => nomatch (show p ∈ ([] : List (Addr × Obj)) from by simpa using hp)⟩
  have loop : codeAny (model X.prog X.w) X.A (.compLoop (.DictComp kx vx [⟨tg, iter, ifs, 0⟩] scope pos) 0 (.ref it) (.ref D) ce) (compPost (model X.prog X.w) X.A X.xe use Qf (.ref D) s3.heap.objs.size) s4 := by
    refine compLoop_anyD (fun n s' => ∃ i H', Inv (X.blk s3 H3 scope ce fp) [] (wipe σ (own.map (·.2))) H' s' ∧ tn i s'.heap ∧ (∀ b ∈ fp, H' b = none) ∧ W i n H') ?_ m0 ⟨0, H3, I4, st4, fun b hb => (f3 b hb).1.1, w0⟩
    rintro n s5 ⟨i, H5, I5, st5, n5, w5⟩
    rcases turn i n H5 w5 with ⟨stop, qq⟩ | ⟨go, N, hN', step⟩
    · refine thnF (T.done (X.blk s3 H3 scope ce fp) rfl rfl rfl hc i [] s5 _ H5 (fun _ _ => False) I5 (stat I5 n5) st5 stop) fun r s6 ⟨hr, I6⟩ => ?_
      subst hr
      have I7 : Inv X pins σ H5 s6 := I3.call' (ch := fp) I6.os I6.base I6.hok I6.bare fun b hb => let ⟨_, a1, a2, a3, a4, a5⟩ := (f3 b hb).1; ⟨a3, a1, a4, a5⟩
      have nC : H5 s3.heap.objs.size = none := cL ▸ (show H5 ce.locals = none from I6.free)
      obtain ⟨m, hn, _⟩ := I6.loc
      exact hRR D s3.heap.objs.size s6 m H5 I7 qq (cL ▸ (show s6.heap.Ns ce.locals m from hn)) (I3.fpOk (Nat.le_refl _) nC)
    · refine thnF (T.item (X.blk s3 H3 scope ce fp) rfl rfl rfl hc i [] s5 _ H5 (fun _ _ => False) I5 (stat I5 n5) st5 go) fun r s6 ⟨u, hr, h6⟩ => ?_
      subst hr
      refine thnF h6 fun _ s7 ⟨x, H7, I7, r7, y7, st7, n7⟩ => ?_
      refine thnF (pg.run _ s7 _ H7 x u _ (I7.pinned (stat I7 n7) (T.obj _ _ st7)) r7 (step x H7 y7)) fun _ s8 ⟨σ8, H8, I8, hw8, q8⟩ => ?_
      refine thnF (pt.run _ s8 σ8 H8 _ I8 q8) fun b s9 ⟨H9, I9, q9⟩ => ?_
      have fin : ∀ {s' : Shared} {H' : Hp}, Inv (X.blk s3 H3 scope ce fp) ([] ++ pinsAt fp s7.heap) σ8 H' s' → N H' → ∃ m, m < n ∧ ∃ i H', Inv (X.blk s3 H3 scope ce fp) [] (wipe σ (own.map (·.2))) H' s' ∧ tn i s'.heap ∧ (∀ b ∈ fp, H' b = none) ∧ W i m H' := fun {s' H'} I' nx => by
        obtain ⟨m', hm, w'⟩ := hN' H' nx
        have pin' : ∀ b ∈ fp, ∀ o, s7.heap.get? b = some o → s'.heap.get? b = some o ∧ H' b = none := fun b hb o e => let z := I'.pin (b, o) (List.mem_append_right _ (List.mem_append_right _ (mem_pinsAt hb e))); ⟨z.1, z.2.1⟩
        refine ⟨m', hm, i + 1, H', (I'.unpinned (pins := [])).weak (by rw [← hw8, wipe_length]) (fun j v e => (wipe_some (hw8 ▸ e)).1), T.keep _ _ _ st7 fun b hb o e => (pin' b hb o e).1, fun b hb => ?_, w'⟩
        obtain ⟨o, e, _⟩ := T.obj _ _ st7 b hb
        exact (pin' b hb o e).2
      cases b with
      | false => exact fin I9 q9
      | true =>
        refine thnF (pk.run _ s9 σ8 H9 _ I9 q9) fun z s10 ⟨yk, H10, I10, r10, q10⟩ => ?_
        refine thnF (pe.run _ s10 σ8 H10 _ I10 q10) fun z2 s11 ⟨yv, H11, I11, r11, H12, g12, nx⟩ => ?_
        exact d_dictPut (X := X.blk s3 H3 scope ce fp) hu I11 g12 r10 r11 fun s12 I12 => fin I12 nx
  exact codeAny_compStart_dict loop (T.self X.A 0 _ _ _ st4 loop)
theorem pe_dcG {t : Bool} {kx vx tg iter : Expr} {ifs : List Expr} {scope : Scope} {own : List (Str × Nat)} {pos : Pos} {wi : TI} {g : TG} {tt : TT} {tk tv : TE} (hu : X.A.units + 65 < cLine) (hc : X.calm = true) (hN : X.N.Nodup) (hi : PI X tg iter wi) (ok : BlkOk X.N X.env.scope scope own)
    (hg : Blk X scope fun Y => PG Y tg g) (ht : Blk X scope fun Y => PTs Y ifs tt) (hk : Blk X scope fun Y => PE Y kx tk) (he : Blk X scope fun Y => PE Y vx tv) (hs : ∀ x, foldedSetIterable iter X.env x = pure x) :
    PE X (.DictComp kx vx [⟨tg, iter, ifs, 0⟩] scope pos) (tDcG t wi g tt tk tv (own.map (·.2))) := by
  refine ⟨fun pins s σ H Q I h => ?_⟩
  rw [arm_eval_DictComp]
  refine dcG_core hu hc hN I hi ok hg ht hk he hs h fun D C s' m H' I' q hn ⟨f0, f1, f2, f3, f4, f5⟩ => ⟨m, hn, fun h'' sb => ?_⟩
  exact ⟨.ref D, H', I'.turned (t' := s'.toks) (fun b o hb e => (sb.2 b hb).trans e) f0 f1 f3 f4 f5, rfl, q⟩
/-! ### .. over data -/
/-- p the new dict; R what is wanted behind it -/
structure DcG (t : Bool) (wi : WI) (nt : NT) (tt : WT) (wk we : WE) (vs : List Nat) (R : Addr → SO → Prop) (sd : SD) (S : SO) : Prop where
  ex : wi sd S fun J S1 => ∀ p, S1 p = none → ∃ Pv : Nat → SO → Prop, Pv 0 (S1.set p (.dic t [])) ∧ (∀ i S, Pv i S → J.ok S) ∧
  (∀ i d S, J.items[i]? = some d → Pv i S → putNT nt d (wipeD sd vs) fun sd2 => upT tt sd2 S fun b S2 => if b = true then up wk sd2 S2 fun k S3 => up we sd2 S3 fun y S4 => ∃ kvs, S4 p = some (.dic t kvs) ∧ keyOk t k ∧ kvs.length < 1000000 ∧ Pv (i + 1) (S4.set p (.dic t (dput kvs k y))) else Pv (i + 1) S2) ∧
  (∀ S, Pv J.items.length S → R p S)
theorem dcG_lift {t : Bool} {wi : WI} {nt : NT} {tt : WT} {wk we : WE} {vs : List Nat} {R : Addr → SO → Prop} {σ : St} {H : Hp} {Q : VK} {sd : SD} {S : SO} (hs : ∀ i ∈ nt.ix, i ∈ vs) (st : Sta X.K sd S σ H) (q : DcG t wi nt tt wk we vs R sd S)
    (hR : ∀ p S' H', R p S' → Nx S H S' H' → SRel X.K S' H' → Q (.ref p) H') : tDcG t (liftI X.K wi) (gNT X.K nt) (liftT X.K tt) (lift X.K wk) (lift X.K we) vs σ H Q := by
  refine ⟨sd, S, _, st, q.ex, fun J S1 H1 JV q1 n1 s1 jr p hp => ?_⟩
  obtain ⟨Pv, h0, hok, hst, hend⟩ := q1 p (s1.free hp)
  have n2 : Nx S1 H1 (S1.set p (.dic t [])) (upd H1 p (ob0 t)) := nx_obj hp (s1.free hp)
  have s2 : SRel X.K (S1.set p (.dic t [])) (upd H1 p (ob0 t)) := srel_put s1 n2 (by
    cases t with
    | true => exact .inr ⟨[], rfl, upd_same, rfl⟩
    | false => exact .inl ⟨[], rfl, upd_same, rfl⟩)
  refine ⟨fun i m H' => ∃ S', m = J.items.length - i ∧ i ≤ J.items.length ∧ Pv i S' ∧ SRel X.K S' H' ∧ Nx S1 H1 S' H', ⟨J.items.length, _, by simp, Nat.zero_le _, h0, s2, n2⟩, ?_⟩
  rintro i m H' ⟨S', rfl, hile, hp', s', n'⟩
  have o := hok i S' hp'
  by_cases hlt : i < J.items.length
  · refine .inr ⟨jr.go i S' H' n' s' o hlt, fun H2 => ∃ S2, Pv (i + 1) S2 ∧ SRel X.K S2 H2 ∧ Nx S1 H1 S2 H2, fun H2 ⟨S2, h1, h2, h3⟩ => ⟨J.items.length - (i + 1), by omega, S2, rfl, hlt, h1, h2, h3⟩, fun x H2 hy => ?_⟩
    have hi' := List.getElem?_eq_getElem hlt
    obtain ⟨n3, s3, r3⟩ := jr.yld i S' H' x H2 _ n' s' o hi' hy
    have nn := n'.trans n3
    refine nt_go hs ((st.nx (n1.trans nn) s3).wipe vs) r3 (hst i _ S' hi' hp') fun sd2 σ2 hk st2 hw => ⟨by rw [hw, wipe_wipe], upT_lift ?_⟩
    refine ⟨sd2, S', _, st2, hk, fun b S4 H4 q4 n4 s4 => ?_⟩
    cases b with
    | false => exact ⟨S4, q4, s4, nn.trans n4⟩
    | true =>
      refine up_lift ⟨sd2, S4, _, st2.nx n4 s4, q4, fun k S5 kv H5 q5 n5 s5 r5 => up_lift ⟨sd2, S5, _, (st2.nx n4 s4).nx n5 s5, q5, fun y S6 v H6 ⟨kvs, ha, hk, hl, q6⟩ n6 s6 r6 => ?_⟩⟩
      have da : DicAt X.K S6 H6 p t kvs := s6 p _ ha
      obtain ⟨ob, g, hd⟩ := da.put (Rel.nx n6 _ _ r5) hk r6 hl
      have n7 : Nx S6 H6 (S6.set p (.dic t (dput kvs k y))) (upd H6 p ob) := nx_put ha
      exact ⟨_, g, _, q6, srel_put s6 n7 (hd _ _ n7 upd_same), nn.trans (n4.trans (n5.trans (n6.trans n7)))⟩
  · have e : i = J.items.length := by omega
    subst e
    exact .inl ⟨jr.stop _ S' H' n' s' o rfl, hR p S' H' (hend S' hp') (n1.trans n') s'⟩
/-- .. frozen at the end, its parts pure: the dict is made of f of the items -/
noncomputable def dputsL : List (D × D) → List (D × D) → List (D × D)
  | acc, [] => acc
  | acc, (k, v) :: r => dputsL (dput acc k v) r
theorem dputsL_app : ∀ {xs : List (D × D)} {acc : List (D × D)} {y : D × D}, dputsL acc (xs ++ [y]) = dput (dputsL acc xs) y.1 y.2
  | [], acc, (k, v) => rfl
  | (k, v) :: xs, acc, y => dputsL_app (xs := xs)
theorem dputsL_len : ∀ (xs acc : List (D × D)), (dputsL acc xs).length ≤ acc.length + xs.length
  | [], acc => Nat.le_refl _
  | (k, v) :: xs, acc => by
    have h1 := dputsL_len xs (dput acc k v)
    have h2 := dput_length acc k v
    show (dputsL (dput acc k v) xs).length ≤ _
    rw [List.length_cons]
    omega
theorem dputsL_nodup : ∀ {kvs acc : List (D × D)}, (∀ p ∈ kvs, dget acc p.1 = none) → (kvs.map (·.1)).Nodup → dputsL acc kvs = acc ++ kvs
  | [], acc, _, _ => (List.append_nil _).symm
  | (k, v) :: r, acc, h, n => by
    have h0 : dget acc k = none := h (k, v) (List.mem_cons_self ..)
    have n' := List.nodup_cons.mp (show (k :: r.map (·.1)).Nodup from n)
    show dputsL (dput acc k v) r = _
    rw [dputsL_nodup (fun p hp => ?_) n'.2, dput_new h0, List.append_assoc]
    · rfl
    · have hne : ¬ k = p.1 := fun e => n'.1 (by rw [e]; exact List.mem_map_of_mem hp)
      rw [dget_put, if_neg hne]
      exact h p (List.mem_cons_of_mem _ hp)
structure DcP (t : Bool) (wi : WI) (nt : NT) (tt : WT) (wk we : WE) (vs : List Nat) (sd : SD) (S : SO) (Q : KD) : Prop where
  ex : ∃ R : ItD → SO → Prop, wi sd S R ∧ ∀ J S1, R J S1 → (∀ S', Ext S1 S' → J.ok S') ∧ J.items.length ≤ 100000 ∧ ∃ f : D → Option (D × D), (∀ d ∈ J.items, ∀ S', Ext S1 S' → putNT nt d (wipeD sd vs) fun sd2 =>
  tt sd2 S' fun b S2 => S2 = S' ∧ if b = true then up wk sd2 S' fun k S3 => S3 = S' ∧ keyOk t k ∧ up we sd2 S' fun y S4 => S4 = S' ∧ f d = some (k, y) else f d = none) ∧ Q (.dic t (dputsL [] (J.items.filterMap f))) S1
def wDcP (t : Bool) (wi : WI) (nt : NT) (tt : WT) (wk we : WE) (vs : List Nat) : WE := fun sd S Q => DcP t wi nt tt wk we vs sd S Q
theorem dcP_lift {t : Bool} {wi : WI} {nt : NT} {tt : WT} {wk we : WE} {vs : List Nat} {σ : St} {H : Hp} {Q : VK} (hx : ∀ i ∈ nt.ix, i ∈ vs) (h : lift X.K (wDcP t wi nt tt wk we vs) σ H Q) : tDcG t (liftI X.K wi) (gNT X.K nt) (liftT X.K tt) (lift X.K wk) (lift X.K we) vs σ H Q := by
  obtain ⟨sd, S, Q0, st, ⟨R, q, i⟩, an⟩ := h
  refine ⟨sd, S, R, st, q, fun J S1 H1 JV qR n1 s1 jr => ?_⟩
  obtain ⟨hok, hl, f, hf, q1⟩ := i J S1 qR
  obtain ⟨sd', S', R0, st', q', an'⟩ := dcG_lift (X := X) (t := t) (wi := fun _ S R => S = S1 ∧ R J S1) (tt := tt) (wk := wk) (we := we) (R := fun p S' => S' = S1.set p (.dic t (dputsL [] (J.items.filterMap f))) ∧ S1 p = none) (Q := Q) hx (st.nx n1 s1)
    ⟨⟨rfl, fun p hp => ⟨fun i S => S = S1.set p (.dic t (dputsL [] ((J.items.take i).filterMap f))), by simp [dputsL], fun i S e => by rw [e]; exact hok _ (ext_set hp), fun i d S hi e => by
      subst e
      have hd := hf d (List.mem_of_getElem? hi) _ (ext_set (o := .dic t (dputsL [] ((J.items.take i).filterMap f))) hp)
      have htk : (J.items.take (i + 1)).filterMap f = (J.items.take i).filterMap f ++ (f d).toList := by
        rw [List.take_add_one, hi, List.filterMap_append]
        cases q : f d with
        | none => simp [q]
        | some y => simp [q]
      have hlen : (dputsL [] ((J.items.take i).filterMap f)).length ≤ 100000 := by
        have h0 := dputsL_len ((J.items.take i).filterMap f) []
        have h1 := List.length_filterMap_le f (J.items.take i)
        have h2 : (J.items.take i).length ≤ J.items.length := by rw [List.length_take]; omega
        rw [List.length_nil] at h0
        omega
      have go : ∀ sd2 S0, S0 = S1.set p (.dic t (dputsL [] ((J.items.take i).filterMap f))) → (tt sd2 S0 fun b S2 => S2 = S0 ∧ if b = true then up wk sd2 S0 fun k S3 => S3 = S0 ∧ keyOk t k ∧ up we sd2 S0 fun y S4 => S4 = S0 ∧ f d = some (k, y) else f d = none) →
          upT tt sd2 S0 fun b S2 => if b = true then up wk sd2 S2 fun k S3 => up we sd2 S3 fun y S4 => ∃ kvs, S4 p = some (.dic t kvs) ∧ keyOk t k ∧ kvs.length < 1000000 ∧ S4.set p (.dic t (dput kvs k y)) = S1.set p (.dic t (dputsL [] ((J.items.take (i + 1)).filterMap f))) else S2 = S1.set p (.dic t (dputsL [] ((J.items.take (i + 1)).filterMap f))) := by
        intro sd2 S0 eS hh
        refine ⟨_, hh, fun b S2 ⟨e2, q2⟩ => ?_⟩
        subst e2
        cases b with
        | false =>
          have q2' : f d = none := q2
          show S2 = _
          rw [htk, q2', eS]
          simp
        | true =>
          obtain ⟨K0, q3, i3⟩ := q2
          refine ⟨K0, q3, fun k S3 q4 => ?_⟩
          obtain ⟨e3, ok, E0, q5, i5⟩ := i3 k S3 q4
          subst e3
          refine ⟨E0, q5, fun y S4 q6 => ?_⟩
          obtain ⟨e4, q7⟩ := i5 y S4 q6
          subst e4
          refine ⟨_, by rw [eS]; exact set_same, ok, by omega, ?_⟩
          rw [eS, set_set, htk, q7]
          show _ = S1.set p (.dic t (dputsL [] ((J.items.take i).filterMap f ++ [(k, y)])))
          rw [dputsL_app]
      cases nt with
      | n j => exact go _ _ rfl hd
      | t l =>
        cases d with
        | tup xs => exact ⟨hd.1, go _ _ rfl hd.2⟩
        | _ => exact False.elim hd, fun S e => ⟨by rw [e, List.take_length], hp⟩⟩⟩⟩
    fun p S' H' ⟨e, hp⟩ n' s' => by
      subst e
      obtain ⟨n2, s2, r2⟩ := frz_dic s' set_same
      rw [del_set hp] at n2 s2 r2
      exact an _ _ _ _ q1 (n1.trans (n'.trans n2)) s2 r2
  obtain ⟨rfl, q'⟩ := q'
  exact an' J S' H1 JV q' (.refl _ _) st'.s jr
theorem de_dcP {t : Bool} {kx vx tg iter : Expr} {ifs : List Expr} {scope : Scope} {own : List (Str × Nat)} {pos : Pos} {wi : WI} {nt : NT} {tt : WT} {wk we : WE} (hu : X.A.units + 65 < cLine) (hc : X.calm = true) (hN : X.N.Nodup) (hi : DI X tg iter wi) (ok : BlkOk X.N X.env.scope scope own)
    (hx : ∀ i ∈ nt.ix, i ∈ own.map (·.2)) (hg : Blk X scope fun Y => PG Y tg (gNT X.K nt)) (ht : Blk X scope fun Y => PTs Y ifs (liftT X.K tt)) (hk : Blk X scope fun Y => PE Y kx (lift X.K wk)) (he : Blk X scope fun Y => PE Y vx (lift X.K we))
    (hs : ∀ x, foldedSetIterable iter X.env x = pure x := by intro _; rfl) : DE X (.DictComp kx vx [⟨tg, iter, ifs, 0⟩] scope pos) (wDcP t wi nt tt wk we (own.map (·.2))) :=
  pe_imp (pe_dcG hu hc hN hi ok hg ht hk he hs) fun σ H Q h => dcP_lift hx h
end
end L2.DL

/-! DL12: isinstance; dict of pairs -/
namespace L2.DL
open PySem PySem.Spec PyProof.Rows

/-- a value's class: a built-in one by its name, an own one by its address -/
abbrev TyN := String ⊕ Addr
def objT : Option DO → Option TyN
  | some (.lst _) => some (.inl "list")
  | some (.dic _ _) => some (.inl "dict")
  | some (.ins C _) => some (.inr C)
  | some (.err _ _) => none
  | some (.tb _) => none
  | none => none
def tyX (S : SO) : D → Option TyN
  | .non => some (.inl "NoneType")
  | .bl _ => some (.inl "bool")
  | .int _ => some (.inl "int")
  | .str _ => some (.inl "str")
  | .tup _ => some (.inl "tuple")
  | .kt _ => some (.inl "tuple")
  | .tf _ => some (.inl "tuple")
  | .lst _ => some (.inl "list")
  | .src _ => some (.inl "list")
  | .dic _ _ => some (.inl "dict")
  | .fd _ _ => none
  | .gh _ _ => none
  | .ins C _ => some (.inr C)
  | .obj a => objT (S a)
  | .ty _ => none
def tyV' : TyN → Value
  | .inl n => .type n
  | .inr C => .ref C
structure InsOk (K : PySem.W.Frag) (C : Addr) : Prop where
  cl : Cls K C
  ha : PySem.W.findIn K (.ref C) "__class__" = some (some (.builtin "object.__class__"))
  hn : PySem.W.specialIn K (.builtin "object.__class__") "__get__" = some (some (.builtin "getset_descriptor.__get__"))
  htk : PySem.W.takesIn K (.builtin "object.__class__") = some true
  hm : PySem.W.mroIn K C (.type "object") = some true
theorem tyX_at {K : PySem.W.Frag} {S : SO} {H : Hp} {d : D} {v : V} {t : TyN} (s : SRel K S H) (r : Rel K S H d v) (e : tyX S d = some t) (hC : ∀ C, t = .inr C → InsOk K C) : TyX K H v (tyV' t) := by
  have dc : ∀ {a : Addr} {b : Bool} {kvs : List (D × D)}, DicAt K S H a b kvs → TyX K H (.ref a) (.type "dict") := fun h => by
    rcases h with ⟨l, _, hl, _⟩ | ⟨l, _, hl, _⟩
    · exact .base (.dK hl)
    · exact .base (.dT hl)
  have inst : ∀ {a C dx : Addr} {l : List (Str × V)}, H a = some (.ins C dx l) → InsOk K C → TyX K H (.ref a) (.ref C) := fun h o => .base (.ins h o.cl o.ha o.hn o.htk o.hm)
  cases d with
  | non =>
    have e1 : v = .non := r
    cases e
    rw [e1]
    exact .base .non
  | bl b =>
    have e1 : v = .bl b := r
    cases e
    rw [e1]
    exact .base (.bl b)
  | int b =>
    have e1 : v = .int b := r
    cases e
    rw [e1]
    exact .base (.int b)
  | str b =>
    have e1 : v = .str b := r
    cases e
    rw [e1]
    exact .base (.str b)
  | ty n => cases e
  | fd t kvs => cases e
  | gh d u => cases e
  | tup ds =>
    cases e
    obtain ⟨a, vs, rfl, t, _⟩ := r
    exact .base (.tup t.2)
  | lst ds =>
    cases e
    obtain ⟨a, vs, rfl, _, t, _⟩ := r
    exact .base (.lst t)
  | tf ds =>
    cases e
    obtain ⟨a, vs, rfl, ⟨_, o, t, _⟩, _⟩ := r
    exact .fTuple t
  | src ds =>
    cases e
    obtain ⟨a, vs, rfl, t, _⟩ := r
    rcases t with ⟨_, t | ⟨o, t⟩⟩ | ⟨o, its, n, h1, h2, _⟩
    · exact .base (.lst t)
    · exact .base (.frz t)
    · exact .kList h1 h2
  | kt ds =>
    cases e
    obtain ⟨a, vs, rfl, ⟨o, its, n, h1, h2, _⟩, _⟩ := r
    exact .kTuple h1 h2
  | dic t kvs =>
    cases e
    obtain ⟨a, rfl, _, da⟩ := r
    exact dc da
  | ins C fs =>
    cases e
    obtain ⟨a, dx, l, rfl, _, hl, _⟩ := r
    exact inst hl (hC C rfl)
  | obj a =>
    have e1 : v = .ref a := r
    rw [e1]
    have e2 : objT (S a) = some t := e
    cases q : S a with
    | none =>
      rw [q] at e2
      cases e2
    | some o =>
      rw [q] at e2
      have z := s a o q
      cases o with
      | lst xs =>
        cases e2
        obtain ⟨vs, hv, _⟩ := z
        exact .base (.lst hv)
      | dic b kvs =>
        cases e2
        exact dc z
      | ins C fs =>
        cases e2
        obtain ⟨dx, l, hl, _⟩ := z
        exact inst hl (hC C rfl)
      | err _ _ => cases e2
      | tb _ => cases e2
/-- isinstance(x, c) -/
def cIsi (c : D) (f : TyN → Option Bool) : WL := fun xs S Q => two2 xs fun x c' => c' = c ∧ ∃ t b, tyX S x = some t ∧ f t = some b ∧ Q (.bl b) S
theorem dc_isi {X : Cx} {c : D} {cv : V} {u : Value} {f : TyN → Option Bool} (hc : ∀ K S H v, Rel K S H c v → v = cv) (k : ClsV cv u) (hf : ∀ t b, f t = some b → PySem.W.kitOne X.K (tyV' t) u = some b) (hI : ∀ C b, f (.inr C) = some b → InsOk X.K C) : DC X (.builtin "isinstance") (cIsi c f) := by
  intro pins s σ H xs us Q I r ⟨ds, S, Q0, sr, rs, q, an⟩
  obtain ⟨x, c', rfl, rfl, t, b, ht, hb, q⟩ := two2_of q
  obtain ⟨v, w, rfl, rv, rw'⟩ := rs.two
  have e := hc _ _ _ _ rw'
  subst e
  exact call_isi pins s σ H _ us Q I r ⟨v, w, tyV' t, u, b, rfl, k, tyX_at sr rv ht (fun C e => hI C b (e ▸ hb)), hf t b hb, ansd (.bl b) sr an q rfl⟩
/-- a built-in class: the names that a value's class may have -/
def tyNames : List String := ["NoneType", "bool", "int", "str", "tuple", "list", "dict"]
def subN (n T : String) : Bool := n == T || (n == "bool" && T == "int")
def fTy (T : String) (Cs : List Addr) : TyN → Option Bool
  | .inl n => if n ∈ tyNames then some (subN n T) else none
  | .inr C => if C ∈ Cs then some false else none
theorem kit_tab : ∀ n ∈ tyNames, ∀ T ∈ tyNames, kitB n T = some (subN n T) := by decide +kernel
theorem fTy_n {T n : String} {Cs : List Addr} {b : Bool} (h : fTy T Cs (.inl n) = some b) : n ∈ tyNames ∧ subN n T = b := by
  have h' : (if n ∈ tyNames then some (subN n T) else none) = some b := h
  by_cases hn : n ∈ tyNames
  · rw [if_pos hn] at h'
    exact ⟨hn, Option.some.inj h'⟩
  · rw [if_neg hn] at h'
    cases h'
theorem fTy_C {T : String} {C : Addr} {Cs : List Addr} {b : Bool} (h : fTy T Cs (.inr C) = some b) : C ∈ Cs ∧ b = false := by
  have h' : (if C ∈ Cs then some false else none) = some b := h
  by_cases hn : C ∈ Cs
  · rw [if_pos hn] at h'
    exact ⟨hn, (Option.some.inj h').symm⟩
  · rw [if_neg hn] at h'
    cases h'
theorem dc_isiT {X : Cx} (T : String) (Cs : List Addr) (hT : T ∈ tyNames := by decide) (hC : ∀ C ∈ Cs, InsOk X.K C ∧ PySem.W.kitOne X.K (.ref C) (.type T) = some false) : DC X (.builtin "isinstance") (cIsi (.ty T) (fTy T Cs)) :=
  dc_isi (cv := .ty T) (fun _ _ _ _ r => r) (.ty T) (fun t b h => by
    cases t with
    | inl n =>
      obtain ⟨hn, e⟩ := fTy_n h
      rw [← e]
      exact kit_ty (kit_tab n hn T hT)
    | inr C =>
      obtain ⟨hn, e⟩ := fTy_C h
      rw [e]
      exact (hC C hn).2) fun C b h => (hC C (fTy_C h).1).1
/-! ### dict of a list of pairs -/
section
variable {K : PySem.W.Frag} {S : SO} {H : Hp}
end
end L2.DL

/-! DL13: tuples without a dict: tuple(list), index; dict displays; repr -/
namespace L2.DL
open PySem PySem.Spec PyProof.Rows
section
variable {X : Cx}
/-- tuple(list), the tuple known to have no dict -/
def cTupleF : WL := fun xs S Q => one xs fun x => ∃ ys, lstX S x = some ys ∧ Q (.tf ys) S
theorem dc_tupleF : DC X (.type "tuple") cTupleF := by
  intro pins s σ H xs us Q I r ⟨ds, S, Q0, sr, rs, q, an⟩
  obtain ⟨x, rfl, ys, e, q⟩ := one_of q
  obtain ⟨v, rfl, rv⟩ := rs.v1
  obtain ⟨a, vs, rfl, hq, rns⟩ := lstX_at sr rv e
  obtain ⟨u, rfl, ru⟩ := vals1 r
  cases ru
  obtain ⟨its, r', pl, hz⟩ := I.list hq
  refine call_tuple_list pl.isList (fun h' kp => ?_) (by rw [List.size_toArray, ← r'.length]; exact hz)
  have I1 : Inv X pins σ H { s with heap := h' } := I.kept (t' := s.toks) kp
  have hf : H h'.objs.size = none := I1.hok.fresh (Nat.le_refl _)
  have I2 : Inv X pins σ (upd H h'.objs.size (.frz { cls := .type "tuple", data := .seq its.toArray } (.tup vs))) { s with heap := h'.push { cls := .type "tuple", data := .seq its.toArray } } :=
    I1.laid (t' := s.toks) (fun b o e => Heap.get?_push_of_some _ e) (Nat.le_refl _) ⟨Heap.get?_push_size _ rfl, hz, its, r', IsTup.new _ _⟩
  exact ⟨.ref h'.objs.size, _, I2, rfl, an _ _ _ _ q (nx_new hf) (sr.new hf) ⟨_, vs, rfl, ⟨sr.free hf, _, upd_same, rfl, rfl⟩, rns.nx (nx_new hf)⟩⟩
/-! ### methods of tuples -/
/-! ### {k: v} -/
/-! ### repr -/
def ShowOk (p : PyData) : Prop := p.layable0 = true ∧ p.intsShort 13 = true ∧ p.showable = true
def isRefD : D → Bool
  | .tup _ => true
  | .tf _ => true
  | .lst _ => true
  | .obj _ => true
  | _ => false
def cRepr : WL := fun xs S Q => one xs fun x => isRefD x = true ∧ ∃ p, pyS S x = some p ∧ ShowOk p ∧ Q (.str p.shown) S
theorem dc_repr (gd : X.A.guards = some []) (hu : X.A.units + 70 < cLine) : DC X (.builtin "repr") cRepr := by
  intro pins s σ H xs us Q I r ⟨ds, S, Q0, sr, rs, q, an⟩
  obtain ⟨x, rfl, isr, p, hp, ⟨h1, h2, h3⟩, q⟩ := one_of q
  obtain ⟨v, rfl, rv⟩ := rs.v1
  obtain ⟨u, rfl, ru⟩ := vals1 r
  have dp := relS_dp sr rv hp
  obtain ⟨as, ra⟩ := Dp.reads I p v u dp ru
  obtain ⟨a, rfl⟩ : ∃ a, v = .ref a := by
    cases x with
    | tup ys => exact let ⟨a, _, e, _⟩ := rv; ⟨a, e⟩
    | tf ys => exact let ⟨a, _, e, _⟩ := rv; ⟨a, e⟩
    | lst ys => exact let ⟨a, _, e, _⟩ := rv; ⟨a, e⟩
    | obj a => exact ⟨a, rv⟩
    | _ => cases isr
  cases ru
  have lay : p.canLay0 = true ∧ p.depth ≤ 64 := by
    have h := h1
    unfold PyData.layable0 at h
    rw [Bool.and_eq_true, Bool.and_eq_true] at h
    exact ⟨h.1.1, of_decide_eq_true h.1.2⟩
  refine repr_of_reads' ra h3 (PyData.noDict_hsm (PyData.hasDict_of_canLay p lay.1)) gd (by have := lay.2; omega) (fun b o e => e) (fun h' t tk hk => ?_) (Nat.le_trans (PyData.shown_le_of_layable0 h1 h2) (by rw [sizeLine_eq]; decide))
  exact ⟨.str p.shown, H, I.kept hk, ⟨t, rfl⟩, ansd (.str _) sr an q rfl⟩
end
end L2.DL

/-! DL14: walks over texts; the law's head over data -/
namespace L2.DL
open PySem PySem.Spec PyProof.Rows
/-! ### for sign in text -/
def signsD (x : Str) : List D := x.cps.toList.map fun c => .str ⟨#[c]⟩
def wStrI (we : WE) : WI := fun sd S R => we sd S fun d S1 => match d with
  | .str x => R ⟨signsD x, fun _ => True⟩ S1
  | _ => False
theorem signs_len (x : Str) : (signsD x).length = x.cps.size := by unfold signsD; rw [List.length_map, Array.length_toList]
theorem jrel_str {K : PySem.W.Frag} {S0 : SO} {H0 : Hp} {x : Str} {ok : SO → Prop} : JRel K S0 H0 ⟨signsD x, ok⟩ (Its x) where
  go := fun i S H n s o hi => by
    have hi' : i < (signsD x).length := hi
    rw [signs_len] at hi'
    exact hi'
  stop := fun i S H n s o hi => by
    have hi' : i = (signsD x).length := hi
    rw [signs_len] at hi'
    exact Nat.le_of_eq hi'.symm
  yld := fun i S H v H' d n s o hi y => by
    obtain ⟨rfl, c, hc, rfl⟩ := y
    have hi' : (signsD x)[i]? = some d := hi
    unfold signsD at hi'
    rw [List.getElem?_map, Array.getElem?_toList, hc] at hi'
    cases hi'
    exact ⟨.refl _ _, s, rfl⟩
theorem di_str {X : Cx} {tg e : Expr} {we : WE} (he : DE X e we) : DI X tg e (wStrI we) := by
  refine pi_imp (pi_str he) fun σ H R ⟨sd, S, R0, st, q, an⟩ => ⟨sd, S, _, st, q, fun d S1 v H1 q1 n1 s1 r1 => ?_⟩
  cases d with
  | str x => exact ⟨x, r1, an _ _ _ _ q1 n1 s1 jrel_str⟩
  | _ => exact False.elim q1
theorem strIn_one (c : Nat) (z : Str) : strIn ⟨#[c]⟩ z = decide (c ∈ z.cps.toList) := PySem.StrLaws.found_one z c

/-! ### room -/
theorem Room.u65 {k : Nat} {A : Around} (r : Room k A) : A.units + 65 < cLine := by have := r.un; omega
theorem Room.u70 {k : Nat} {A : Around} (r : Room k A) : A.units + 70 < cLine := by have := r.un; omega

/-! ### the law's head -/
section
variable {P : Program} {w : World} {K : PySem.W.Frag} {mg : Str → Option Value} {base : Heap}
end
end L2.DL

/-! DL15: how readings are answered -/
namespace L2.DL
open PySem PySem.Spec PyProof.Rows
theorem lcP_of {wi : WI} {nt : NT} {tt : WT} {we : WE} {vs : List Nat} {sd : SD} {S : SO} {Q : KD} (items : List D) (f : D → Option D) (hi : wi sd S fun J S1 => J = ⟨items, fun _ => True⟩ ∧ S1 = S) (hl : items.length ≤ 1000000)
    (hf : ∀ d ∈ items, ∀ S', Ext S S' → putNT nt d (wipeD sd vs) fun sd2 => tt sd2 S' fun b S2 => S2 = S' ∧ if b = true then up we sd2 S' fun y S3 => S3 = S' ∧ f d = some y else f d = none) (hq : Q (.lst (items.filterMap f)) S) : LcP wi nt tt we vs sd S Q :=
  ⟨⟨_, hi, fun J S1 ⟨e1, e2⟩ => by
    subst e1 e2
    exact ⟨fun _ _ => trivial, hl, f, hf, hq⟩⟩⟩
theorem lcP_map {wi : WI} {nt : NT} {we : WE} {vs : List Nat} {sd : SD} {S : SO} {Q : KD} (items : List D) (g : D → D) (hi : wi sd S fun J S1 => J = ⟨items, fun _ => True⟩ ∧ S1 = S) (hl : items.length ≤ 1000000)
    (hf : ∀ d ∈ items, ∀ S', Ext S S' → putNT nt d (wipeD sd vs) fun sd2 => we sd2 S' fun y S3 => S3 = S' ∧ g d = y) (hq : Q (.lst (items.map g)) S) : LcP wi nt wYes we vs sd S Q := by
  refine lcP_of items (fun d => some (g d)) hi hl (fun d hd S' e => ?_) (by rw [List.filterMap_eq_map']; exact hq)
  have h := hf d hd S' e
  cases nt with
  | n i => exact ⟨rfl, _, h, fun y S3 ⟨e1, e2⟩ => ⟨e1, congrArg some e2⟩⟩
  | t l =>
    cases d with
    | tup xs => exact ⟨h.1, rfl, _, h.2, fun y S3 ⟨e1, e2⟩ => ⟨e1, congrArg some e2⟩⟩
    | _ => exact False.elim h
theorem dcP_of {t : Bool} {wi : WI} {nt : NT} {tt : WT} {wk we : WE} {vs : List Nat} {sd : SD} {S : SO} {Q : KD} (items : List D) (f : D → Option (D × D)) (hi : wi sd S fun J S1 => J = ⟨items, fun _ => True⟩ ∧ S1 = S) (hl : items.length ≤ 100000)
    (hf : ∀ d ∈ items, ∀ S', Ext S S' → putNT nt d (wipeD sd vs) fun sd2 => tt sd2 S' fun b S2 => S2 = S' ∧ if b = true then up wk sd2 S' fun k S3 => S3 = S' ∧ keyOk t k ∧ up we sd2 S' fun y S4 => S4 = S' ∧ f d = some (k, y) else f d = none)
    (hq : Q (.dic t (dputsL [] (items.filterMap f))) S) : DcP t wi nt tt wk we vs sd S Q :=
  ⟨⟨_, hi, fun J S1 ⟨e1, e2⟩ => by
    subst e1 e2
    exact ⟨fun _ _ => trivial, hl, f, hf, hq⟩⟩⟩
theorem ifY {b : Bool} {A B : Prop} (e : b = true) (h : A) : if b = true then A else B := by
  rw [if_pos e]
  exact h
theorem isY {b : Bool} {Q : Bool → SO → Prop} {S : SO} (e : b = true) (h : Q true S) : IsB Q (.bl b) S := by
  rw [e]
  exact ⟨h⟩
theorem isN {b : Bool} {Q : Bool → SO → Prop} {S : SO} (e : b = false) (h : Q false S) : IsB Q (.bl b) S := by
  rw [e]
  exact ⟨h⟩
theorem isC {b : Bool} {Q : Bool → SO → Prop} {S : SO} (h1 : b = true → Q true S) (h2 : b = false → Q false S) : IsB Q (.bl b) S := by
  cases b with
  | true => exact ⟨h1 rfl⟩
  | false => exact ⟨h2 rfl⟩
theorem lez {n m : Nat} (h : Nat.ble n m = true) : n ≤ m := Nat.le_of_ble_eq_true h
theorem upI {we : WE} {sd : SD} {S : SO} {Q : KD} (h : we sd S Q) : up we sd S Q := ⟨Q, h, fun _ _ q => q⟩
theorem cl {Q : KD} {d : D} {S : SO} (h : Q d S) : Cl Q d S := .of h
theorem u65 {k : Nat} {A : Around} (r : Room k A) : A.units + 65 < cLine := by have := r.un; omega
theorem u70 {k : Nat} {A : Around} (r : Room k A) : A.units + 70 < cLine := by have := r.un; omega
section
variable {X : Cx} {x : Str} {pos : Pos}
theorem de_gS {z : Str} {t : Tok} (hm : X.mg x = some (.str z t)) (hg : Gl X x := by rfl) (hd : (x == ("__debug__" : Str)) = false := by decide) : DE X (.Name x pos) (wC (.str z)) := de_glob (v := .str z) hg hm ⟨t, rfl⟩ (fun _ _ _ => rfl) hd
theorem de_gI {z : Int} {t : Tok} (hm : X.mg x = some (.int z t)) (hg : Gl X x := by rfl) (hd : (x == ("__debug__" : Str)) = false := by decide) : DE X (.Name x pos) (wC (.int z)) := de_glob (v := .int z) hg hm ⟨t, rfl⟩ (fun _ _ _ => rfl) hd
theorem de_gC {a : Addr} (hm : X.mg x = some (.ref a)) (hg : Gl X x := by rfl) (hd : (x == ("__debug__" : Str)) = false := by decide) : DE X (.Name x pos) (wC (.obj a)) := de_glob (v := .ref a) hg hm rfl (fun _ _ _ => rfl) hd
theorem de_bT {T : String} (hm : X.mg x = none) (hv : bootBuiltins x = some (.type T)) (hg : Gl X x := by rfl) (hn : x ≠ "__name__" := by decide) (hd : (x == ("__debug__" : Str)) = false := by decide) : DE X (.Name x pos) (wC (.ty T)) := de_bltn (v := .ty T) hg hm hv rfl (fun _ _ _ => rfl) hn hd
end
theorem kit1_of {K : PySem.W.Frag} (C : Addr) : PySem.W.kitOne K (.ref C) (.ref C) = some true := by
  unfold PySem.W.kitOne
  rw [if_pos (by simp)]
theorem kit_own {K : PySem.W.Frag} {C : Addr} {z : ClassData} {n : String} (h1 : PySem.W.clsIn K C = some z) (h2 : PySem.W.typeIn K (.ref C) = some (.type "type")) {b : Bool} (h3 : PySem.W.subIn K (.type n) (.ref C) = some b) : PySem.W.kitOne K (.type n) (.ref C) = some b := by
  unfold PySem.W.kitOne
  rw [if_neg (by simp)]
  show (if ((PySem.W.clsIn K C).isSome && PySem.W.typeIn K (.ref C) == some (.type "type")) = true then PySem.W.subIn K (.type n) (.ref C) else none) = _
  rw [h1, h2, if_pos (by simp)]
  exact h3
theorem kit0_of {K : PySem.W.Frag} {C : Addr} {z : ClassData} (h1 : PySem.W.clsIn K C = some z) (h2 : PySem.W.typeIn K (.ref C) = some (.type "type")) (a0 : PySem.W.subIn K (.type "NoneType") (.ref C) = some false) (a1 : PySem.W.subIn K (.type "bool") (.ref C) = some false) (a2 : PySem.W.subIn K (.type "int") (.ref C) = some false)
    (a3 : PySem.W.subIn K (.type "str") (.ref C) = some false) (a4 : PySem.W.subIn K (.type "tuple") (.ref C) = some false) (a5 : PySem.W.subIn K (.type "list") (.ref C) = some false) (a6 : PySem.W.subIn K (.type "dict") (.ref C) = some false) : ∀ n ∈ tyNames, PySem.W.kitOne K (.type n) (.ref C) = some false := by
  intro n hn
  simp only [tyNames, List.mem_cons, List.not_mem_nil, or_false] at hn
  rcases hn with rfl | rfl | rfl | rfl | rfl | rfl | rfl
  · exact kit_own h1 h2 a0
  · exact kit_own h1 h2 a1
  · exact kit_own h1 h2 a2
  · exact kit_own h1 h2 a3
  · exact kit_own h1 h2 a4
  · exact kit_own h1 h2 a5
  · exact kit_own h1 h2 a6
end L2.DL

/-! DL16: own comparisons, join -/
namespace L2.DL
open PySem PySem.Spec PyProof.Rows
section
variable {X : Cx} {k : Nat} {g C : Addr} {fd : FuncData} {ps : List Str} {dsp : DSp}
/-- sep.join(texts) -/
def wJoin (ws wx : WE) : WE := fun sd S Q => ws sd S fun a S1 => (∃ z, a = .str z) ∧ wx sd S1 fun d S2 => ∃ (z : Str) (ys : List Str), a = .str z ∧ seqX S2 d = some (ys.map D.str) ∧ (ys.map (·.length)).sum + ys.length * z.length ≤ 16777216 ∧ Q (.str (Txt.join z ys)) S2
theorem de_join {o e : Expr} {wo we : WE} {apos pos : Pos} (ho : DE X o wo) (he : DE X e we) (hs : starEach [e] X.env = [(false, eval e X.env)] := by rfl) (hbase : attributeBase o "join" X.env (eval o X.env) = eval o X.env := by rfl) (hline : (apos.endLine == pos.line) = true := by rfl) :
    DE X (.Call (.Attribute o "join" apos) [e] [] pos) (wJoin wo we) := by
  refine pe_imp (pe_join ho he hs hbase hline) fun σ H Q ⟨sd, S, Q0, st, q, an⟩ => ⟨sd, S, _, st, q, fun d S1 v H1 ⟨⟨z, ez⟩, q1⟩ n1 s1 r1 => ?_⟩
  subst ez
  have ev : v = .str z := r1
  subst ev
  refine ⟨⟨z, rfl⟩, sd, S1, _, st.nx n1 s1, q1, fun d S2 u H2 ⟨z', ys, e1, e2, e3, q2⟩ n2 s2 r2 => ?_⟩
  cases e1
  obtain ⟨a, vs, rfl, hq, rv⟩ := seqX_at s2 r2 e2
  have := rels_strs rv
  subst this
  exact ⟨z, a, ys, rfl, rfl, hq, e3, an _ _ _ _ q2 (n1.trans n2) s2 rfl⟩
end
end L2.DL

/-! DL17: starred items, tuples displayed and known to have no dict -/
namespace L2.DL
open PySem PySem.Spec PyProof.Rows
section
variable {X : Cx} {e : Expr} {es : List Expr} {we : WE} {t : WA} {p pos : Pos}
def wStar (we : WE) (t : WA) : WA := fun sd S Q => we sd S fun d S1 => ∃ xs, seqX S1 d = some xs ∧ t sd S1 fun ys S2 => Q (xs ++ ys) S2
def wTupF (t : WA) : WE := fun sd S Q => t sd S fun xs S1 => xs.length ≤ 1000000 ∧ Q (.tf xs) S1
end
end L2.DL

/-! DL18: len, str, repr of own instances -/
namespace L2.DL
open PySem PySem.Spec PyProof.Rows
section
variable {X : Cx} {CX : CXT} {k : Nat} {g C : Addr} {fd : FuncData} {ps : List Str} {dsp : DSp}
end
end L2.DL

/-! DL19: t[::-1] of tuples and lists -/
namespace L2.DL
open PySem PySem.Spec PyProof.Rows
section
variable {prog : Program} {w : World} {A : Around} {E : Value → Shared → Prop} {s : Shared}
end
section
variable {X : Cx}
theorem revs {K : PySem.W.Frag} {S : SO} {H : Hp} : ∀ {xs : List D} {vs : List V}, Rels K S H xs vs → Rels K S H xs.reverse vs.reverse
  | [], vs, h => by
    have e : vs = [] := h
    subst e
    exact rfl
  | d :: ds, vs, h => by
    obtain ⟨v, r, rfl, h1, h2⟩ := h
    rw [List.reverse_cons, List.reverse_cons]
    exact Rels.app (revs h2) ⟨v, [], rfl, h1, rfl⟩
end
end L2.DL

/-! DL20: list comprehensions with two for -/
namespace L2.DL
open PySem PySem.Spec PyProof.Rows
section
variable {X : Cx}
variable {elt tg iter tg1 iter1 : Expr} {ifs ifs1 : List Expr} {scope : Scope} {own : List (Str × Nat)} {pos : Pos} {wi wi1 : WI} {nt nt1 : NT} {tt tt1 : WT} {we : WE}
end
end L2.DL

/-! DL21: list.insert, list.pop() -/
namespace L2.DL
open PySem PySem.Spec PyProof.Rows
section
variable {X : Cx}
end
end L2.DL

/-! DL22: readings answered step by step, each step a lemma that fits by its head alone -/
namespace L2.DL
open PySem PySem.Spec PyProof.Rows
/-! one step: the lemmas that fit by their head alone are instances, so that Lean finds the one that fits by its index (no alternative is tried in vain) -/
inductive Lv | z | s (v : Lv)
class Step (v : Lv) (P : Prop) (Q : outParam Prop) : Prop where go : Q → P
abbrev NoS : SD → SO → Prop := fun _ _ => False
section
variable {n bk ct : SD → SO → Prop} {r : KD} {sd : SD} {S : SO} {Q : KD} {a b : WS} {we wa wb wc : WE} {t : WA} {o : Option D} {d x y : D} {i j : Int} {A B : Prop}
/-! statements -/
theorem xFn {w : WS} (h : w ⟨fun _ S' => Cl Q .non S', Cl Q, NoS, NoS⟩ sd S) : w (endsOf Q) sd S := h
theorem xSeq (h : a ⟨b ⟨n, r, bk, ct⟩, r, bk, ct⟩ sd S) : wSeq a b ⟨n, r, bk, ct⟩ sd S := h
instance st_xSeq {lw : Lv} : Step lw (wSeq a b ⟨n, r, bk, ct⟩ sd S) (a ⟨b ⟨n, r, bk, ct⟩, r, bk, ct⟩ sd S) := ⟨fun h => xSeq h⟩
theorem xNext (h : n sd S) : wNext ⟨n, r, bk, ct⟩ sd S := h
instance st_xNext {lw : Lv} : Step lw (wNext ⟨n, r, bk, ct⟩ sd S) (n sd S) := ⟨fun h => xNext h⟩
theorem xBreak (h : bk sd S) : wBreak ⟨n, r, bk, ct⟩ sd S := h
instance st_xBreak {lw : Lv} : Step lw (wBreak ⟨n, r, bk, ct⟩ sd S) (bk sd S) := ⟨fun h => xBreak h⟩
theorem xCont (h : ct sd S) : wCont ⟨n, r, bk, ct⟩ sd S := h
instance st_xCont {lw : Lv} : Step lw (wCont ⟨n, r, bk, ct⟩ sd S) (ct sd S) := ⟨fun h => xCont h⟩
theorem xRet (h : we sd S r) : wRet we ⟨n, r, bk, ct⟩ sd S := h
instance st_xRet {lw : Lv} : Step lw (wRet we ⟨n, r, bk, ct⟩ sd S) (we sd S r) := ⟨fun h => xRet h⟩
theorem xRetN (h : r .non S) : wRetN ⟨n, r, bk, ct⟩ sd S := h
instance st_xRetN {lw : Lv} : Step lw (wRetN ⟨n, r, bk, ct⟩ sd S) (r .non S) := ⟨fun h => xRetN h⟩
theorem xDrop (h : we sd S fun _ S1 => n sd S1) : wDrop we ⟨n, r, bk, ct⟩ sd S := h
instance st_xDrop {lw : Lv} : Step lw (wDrop we ⟨n, r, bk, ct⟩ sd S) (we sd S fun _ S1 => n sd S1) := ⟨fun h => xDrop h⟩
theorem xIfS {c : WT} (h : c sd S fun k S1 => if k = true then a ⟨n, r, bk, ct⟩ sd S1 else b ⟨n, r, bk, ct⟩ sd S1) : wIfS c a b ⟨n, r, bk, ct⟩ sd S := h
instance st_xIfS {lw : Lv} {c : WT} : Step lw (wIfS c a b ⟨n, r, bk, ct⟩ sd S) (c sd S fun k S1 => if k = true then a ⟨n, r, bk, ct⟩ sd S1 else b ⟨n, r, bk, ct⟩ sd S1) := ⟨fun h => xIfS h⟩
theorem xAsg {g : WG} (h : we sd S fun d S1 => g d sd S1 n) : wAsg we g ⟨n, r, bk, ct⟩ sd S := h
instance st_xAsg {lw : Lv} {g : WG} : Step lw (wAsg we g ⟨n, r, bk, ct⟩ sd S) (we sd S fun d S1 => g d sd S1 n) := ⟨fun h => xAsg h⟩
instance st_wSeqE {lw : Lv} : Step lw (wSeq a b (endsOf Q) sd S) (wSeq a b ⟨fun _ S' => Cl Q .non S', Cl Q, NoS, NoS⟩ sd S) := ⟨fun h => h⟩
instance st_wNextE {lw : Lv} : Step lw (wNext (endsOf Q) sd S) (wNext ⟨fun _ S' => Cl Q .non S', Cl Q, NoS, NoS⟩ sd S) := ⟨fun h => h⟩
instance st_wRetE {lw : Lv} : Step lw (wRet we (endsOf Q) sd S) (wRet we ⟨fun _ S' => Cl Q .non S', Cl Q, NoS, NoS⟩ sd S) := ⟨fun h => h⟩
instance st_wRetNE {lw : Lv} : Step lw (wRetN (endsOf Q) sd S) (wRetN ⟨fun _ S' => Cl Q .non S', Cl Q, NoS, NoS⟩ sd S) := ⟨fun h => h⟩
instance st_wDropE {lw : Lv} : Step lw (wDrop we (endsOf Q) sd S) (wDrop we ⟨fun _ S' => Cl Q .non S', Cl Q, NoS, NoS⟩ sd S) := ⟨fun h => h⟩
instance st_wIfSE {lw : Lv} {c : WT} : Step lw (wIfS c a b (endsOf Q) sd S) (wIfS c a b ⟨fun _ S' => Cl Q .non S', Cl Q, NoS, NoS⟩ sd S) := ⟨fun h => h⟩
instance st_wAsgE {lw : Lv} {g : WG} : Step lw (wAsg we g (endsOf Q) sd S) (wAsg we g ⟨fun _ S' => Cl Q .non S', Cl Q, NoS, NoS⟩ sd S) := ⟨fun h => h⟩
/-! targets -/
section
variable {Qg : SD → SO → Prop} {ds : List D} {g : WG} {gs : WGs}
theorem g0 (h : Qg (some d :: sd) S) : gV 0 d (o :: sd) S Qg := h
instance st_g0 {lw : Lv} : Step lw (gV 0 d (o :: sd) S Qg) (Qg (some d :: sd) S) := ⟨fun h => g0 h⟩
theorem gSu {k : Nat} (h : gV k d sd S fun sd' S' => Qg (o :: sd') S') : gV (k + 1) d (o :: sd) S Qg := h
instance st_gSu {lw : Lv} {k : Nat} : Step lw (gV (k + 1) d (o :: sd) S Qg) (gV k d sd S fun sd' S' => Qg (o :: sd') S') := ⟨fun h => gSu h⟩
theorem gTup {k : Nat} (h : gs ds sd S Qg) (hl : ds.length = k := by with_unfolding_all rfl) : gT k gs (.tup ds) sd S Qg := ⟨hl, h⟩
theorem gCons (h : g d sd S fun sd1 S1 => gs ds sd1 S1 Qg) : gC g gs (d :: ds) sd S Qg := h
instance st_gCons {lw : Lv} : Step lw (gC g gs (d :: ds) sd S Qg) (g d sd S fun sd1 S1 => gs ds sd1 S1 Qg) := ⟨fun h => gCons h⟩
theorem gNil (h : Qg sd S) : gN [] sd S Qg := ⟨rfl, h⟩
instance st_gNil {lw : Lv} : Step lw (gN [] sd S Qg) (Qg sd S) := ⟨fun h => gNil h⟩
end
/-! names, constants -/
theorem v0 (h : Q d S) : wV 0 (some d :: sd) S Q := h
instance st_v0 {lw : Lv} : Step lw (wV 0 (some d :: sd) S Q) (Q d S) := ⟨fun h => v0 h⟩
theorem vS {k : Nat} (h : wV k sd S Q) : wV (k + 1) (o :: sd) S Q := by
  unfold wV at h ⊢
  rw [List.getElem?_cons_succ]
  exact h
instance st_vS {lw : Lv} {k : Nat} : Step lw (wV (k + 1) (o :: sd) S Q) (wV k sd S Q) := ⟨fun h => vS h⟩
theorem xC (h : Q d S) : wC d sd S Q := h
instance st_xC {lw : Lv} : Step lw (wC d sd S Q) (Q d S) := ⟨fun h => xC h⟩
/-! operators -/
theorem xO {w : WO} (h : wa sd S fun x S1 => wb sd S1 fun y S2 => w x y S2 Q) : wO w wa wb sd S Q := h
instance st_xO {lw : Lv} {w : WO} : Step lw (wO w wa wb sd S Q) (wa sd S fun x S1 => wb sd S1 fun y S2 => w x y S2 Q) := ⟨fun h => xO h⟩
theorem xU {w : WU} (h : wa sd S fun x S1 => w x S1 Q) : wU w wa sd S Q := h
instance st_xU {lw : Lv} {w : WU} : Step lw (wU w wa sd S Q) (wa sd S fun x S1 => w x S1 Q) := ⟨fun h => xU h⟩
theorem xCall {w : WL} (h : t sd S fun xs S1 => w xs S1 Q) : wCall w t sd S Q := h
instance st_xCall {lw : Lv} {w : WL} : Step lw (wCall w t sd S Q) (t sd S fun xs S1 => w xs S1 Q) := ⟨fun h => xCall h⟩
section
variable {Qa : List D → SO → Prop}
theorem xNil (h : Qa [] S) : wNil sd S Qa := h
instance st_xNil {lw : Lv} : Step lw (wNil sd S Qa) (Qa [] S) := ⟨fun h => xNil h⟩
theorem xCons (h : we sd S fun x S1 => t sd S1 fun xs S2 => Qa (x :: xs) S2) : wCons we t sd S Qa := h
instance st_xCons {lw : Lv} : Step lw (wCons we t sd S Qa) (we sd S fun x S1 => t sd S1 fun xs S2 => Qa (x :: xs) S2) := ⟨fun h => xCons h⟩
theorem xStar (h : we sd S fun d S1 => ∃ xs, seqX S1 d = some xs ∧ t sd S1 fun ys S2 => Qa (xs ++ ys) S2) : wStar we t sd S Qa := h
instance st_xStar {lw : Lv} : Step lw (wStar we t sd S Qa) (we sd S fun d S1 => ∃ xs, seqX S1 d = some xs ∧ t sd S1 fun ys S2 => Qa (xs ++ ys) S2) := ⟨fun h => xStar h⟩
end
theorem xTup (h : t sd S fun xs S1 => xs.length ≤ 1000000 ∧ Q (.tup xs) S1) : wTup t sd S Q := h
instance st_xTup {lw : Lv} : Step lw (wTup t sd S Q) (t sd S fun xs S1 => xs.length ≤ 1000000 ∧ Q (.tup xs) S1) := ⟨fun h => xTup h⟩
theorem xTupF (h : t sd S fun xs S1 => xs.length ≤ 1000000 ∧ Q (.tf xs) S1) : wTupF t sd S Q := h
instance st_xTupF {lw : Lv} : Step lw (wTupF t sd S Q) (t sd S fun xs S1 => xs.length ≤ 1000000 ∧ Q (.tf xs) S1) := ⟨fun h => xTupF h⟩
theorem xLst (h : t sd S fun xs S1 => xs.length ≤ 1000000 ∧ Q (.lst xs) S1) : wLst t sd S Q := h
instance st_xLst {lw : Lv} : Step lw (wLst t sd S Q) (t sd S fun xs S1 => xs.length ≤ 1000000 ∧ Q (.lst xs) S1) := ⟨fun h => xLst h⟩
theorem xNew (h : t sd S fun xs S1 => xs.length ≤ 1000000 ∧ ∀ p, S1 p = none → Q (.obj p) (S1.set p (.lst xs))) : wNew t sd S Q := h
instance st_xNew {lw : Lv} : Step lw (wNew t sd S Q) (t sd S fun xs S1 => xs.length ≤ 1000000 ∧ ∀ p, S1 p = none → Q (.obj p) (S1.set p (.lst xs))) := ⟨fun h => xNew h⟩
theorem andL (ha : A) (hb : B) : A ∧ B := ⟨ha, hb⟩
/-! truths -/
section
variable {Qb : Bool → SO → Prop} {tt tu : WT}
theorem xB (h : wa sd S (isB Qb)) : wB wa sd S Qb := h
instance st_xB {lw : Lv} : Step lw (wB wa sd S Qb) (wa sd S (isB Qb)) := ⟨fun h => xB h⟩
theorem xAnd (h : tt sd S fun k S1 => if k = true then tu sd S1 Qb else Qb false S1) : wAnd tt tu sd S Qb := h
instance st_xAnd {lw : Lv} : Step lw (wAnd tt tu sd S Qb) (tt sd S fun k S1 => if k = true then tu sd S1 Qb else Qb false S1) := ⟨fun h => xAnd h⟩
theorem xOr (h : tt sd S fun k S1 => if k = true then Qb true S1 else tu sd S1 Qb) : wOr tt tu sd S Qb := h
instance st_xOr {lw : Lv} : Step lw (wOr tt tu sd S Qb) (tt sd S fun k S1 => if k = true then Qb true S1 else tu sd S1 Qb) := ⟨fun h => xOr h⟩
theorem xNot (h : tt sd S fun k S1 => Qb (!k) S1) : wNot tt sd S Qb := h
instance st_xNot {lw : Lv} : Step lw (wNot tt sd S Qb) (tt sd S fun k S1 => Qb (!k) S1) := ⟨fun h => xNot h⟩
theorem xAndV (h : wa sd S (isB fun k S1 => if k = true then wb sd S1 Q else Q (.bl false) S1)) : wAndV wa wb sd S Q := h
instance st_xAndV {lw : Lv} : Step lw (wAndV wa wb sd S Q) (wa sd S (isB fun k S1 => if k = true then wb sd S1 Q else Q (.bl false) S1)) := ⟨fun h => xAndV h⟩
theorem xOrV (h : wa sd S (isB fun k S1 => if k = true then Q (.bl true) S1 else wb sd S1 Q)) : wOrV wa wb sd S Q := h
instance st_xOrV {lw : Lv} : Step lw (wOrV wa wb sd S Q) (wa sd S (isB fun k S1 => if k = true then Q (.bl true) S1 else wb sd S1 Q)) := ⟨fun h => xOrV h⟩
theorem xNotV (h : wa sd S (isB fun k S1 => Q (.bl (!k)) S1)) : wNotV wa sd S Q := h
instance st_xNotV {lw : Lv} : Step lw (wNotV wa sd S Q) (wa sd S (isB fun k S1 => Q (.bl (!k)) S1)) := ⟨fun h => xNotV h⟩
theorem xIf {tt : WT} (h : tt sd S fun k S1 => if k = true then wa sd S1 Q else wb sd S1 Q) : wIf tt wa wb sd S Q := h
instance st_xIf {lw : Lv} {tt : WT} : Step lw (wIf tt wa wb sd S Q) (tt sd S fun k S1 => if k = true then wa sd S1 Q else wb sd S1 Q) := ⟨fun h => xIf h⟩
theorem xCh {w w' : WO} (h : wa sd S fun x S1 => wb sd S1 fun y S2 => w x y S2 (isB fun k S3 => if k = true then wc sd S3 fun u S4 => w' y u S4 Q else Q (.bl false) S3)) : wCh w w' wa wb wc sd S Q := h
instance st_xCh {lw : Lv} {w w' : WO} : Step lw (wCh w w' wa wb wc sd S Q) (wa sd S fun x S1 => wb sd S1 fun y S2 => w x y S2 (isB fun k S3 => if k = true then wc sd S3 fun u S4 => w' y u S4 Q else Q (.bl false) S3)) := ⟨fun h => xCh h⟩
theorem xYes (h : Qb true S) : wYes sd S Qb := h
instance st_xYes {lw : Lv} : Step lw (wYes sd S Qb) (Qb true S) := ⟨fun h => xYes h⟩
theorem isT (h : Qb true S) : isB Qb (.bl true) S := ⟨h⟩
instance st_isT {lw : Lv} : Step lw (isB Qb (.bl true) S) (Qb true S) := ⟨fun h => isT h⟩
theorem isF (h : Qb false S) : isB Qb (.bl false) S := ⟨h⟩
instance st_isF {lw : Lv} : Step lw (isB Qb (.bl false) S) (Qb false S) := ⟨fun h => isF h⟩
theorem isT' (h : Qb true S) : IsB Qb (.bl true) S := ⟨h⟩
instance st_isT' {lw : Lv} : Step lw (IsB Qb (.bl true) S) (Qb true S) := ⟨fun h => isT' h⟩
theorem isF' (h : Qb false S) : IsB Qb (.bl false) S := ⟨h⟩
instance st_isF' {lw : Lv} : Step lw (IsB Qb (.bl false) S) (Qb false S) := ⟨fun h => isF' h⟩
theorem isD {P : Prop} [Decidable P] (h1 : P → Qb true S) (h2 : ¬ P → Qb false S) : isB Qb (.bl (decide P)) S := by
  by_cases h : P
  · rw [decide_eq_true h]
    exact ⟨h1 h⟩
  · rw [decide_eq_false h]
    exact ⟨h2 h⟩
theorem isND {P : Prop} [Decidable P] (h1 : P → Qb false S) (h2 : ¬ P → Qb true S) : isB Qb (.bl (!decide P)) S := by
  by_cases h : P
  · rw [decide_eq_true h]
    exact ⟨h1 h⟩
  · rw [decide_eq_false h]
    exact ⟨h2 h⟩
theorem isCB {c : Bool} (h1 : c = true → Qb true S) (h2 : c = false → Qb false S) : isB Qb (.bl c) S := isC h1 h2
theorem isYB {c : Bool} (e : c = true) (q : Qb true S) : isB Qb (.bl c) S := isY e q
theorem isNB {c : Bool} (e : c = false) (q : Qb false S) : isB Qb (.bl c) S := isN e q
theorem iT (h : A) : if true = true then A else B := by
  rw [if_pos rfl]
  exact h
instance st_iT {lw : Lv} : Step lw (if true = true then A else B) (A) := ⟨fun h => iT h⟩
theorem iF (h : B) : if false = true then A else B := by
  rw [if_neg Bool.false_ne_true]
  exact h
instance st_iF {lw : Lv} : Step lw (if false = true then A else B) (B) := ⟨fun h => iF h⟩
theorem iNT (h : B) : if (!true) = true then A else B := iF h
instance st_iNT {lw : Lv} : Step lw (if (!true) = true then A else B) (B) := ⟨fun h => iNT h⟩
theorem iNF (h : A) : if (!false) = true then A else B := iT h
instance st_iNF {lw : Lv} : Step lw (if (!false) = true then A else B) (A) := ⟨fun h => iNF h⟩
end
/-! ints -/
theorem iAdd (h : Q (.int (i + j)) S) : oAdd (.int i) (.int j) S Q := h
instance st_iAdd {lw : Lv} : Step lw (oAdd (.int i) (.int j) S Q) (Q (.int (i + j)) S) := ⟨fun h => iAdd h⟩
theorem iSub (h : Q (.int (i - j)) S) : oSub (.int i) (.int j) S Q := ⟨trivial, h⟩
instance st_iSub {lw : Lv} : Step lw (oSub (.int i) (.int j) S Q) (Q (.int (i - j)) S) := ⟨fun h => iSub h⟩
theorem iAnd (h : Q (.int (Builtin.bitAnd i j)) S) : oAnd (.int i) (.int j) S Q := ⟨trivial, h⟩
instance st_iAnd {lw : Lv} : Step lw (oAnd (.int i) (.int j) S Q) (Q (.int (Builtin.bitAnd i j)) S) := ⟨fun h => iAnd h⟩
theorem iOr (h : Q (.int (Builtin.bitOr i j)) S) : oOr (.int i) (.int j) S Q := ⟨trivial, h⟩
instance st_iOr {lw : Lv} : Step lw (oOr (.int i) (.int j) S Q) (Q (.int (Builtin.bitOr i j)) S) := ⟨fun h => iOr h⟩
theorem iLt (h : Q (.bl (decide (i < j))) S) : oLt (.int i) (.int j) S Q := ⟨trivial, h⟩
instance st_iLt {lw : Lv} : Step lw (oLt (.int i) (.int j) S Q) (Q (.bl (decide (i < j))) S) := ⟨fun h => iLt h⟩
theorem iLe (h : Q (.bl (decide (i ≤ j))) S) : oLe (.int i) (.int j) S Q := ⟨trivial, h⟩
instance st_iLe {lw : Lv} : Step lw (oLe (.int i) (.int j) S Q) (Q (.bl (decide (i ≤ j))) S) := ⟨fun h => iLe h⟩
theorem iGt (h : Q (.bl (decide (j < i))) S) : oGt (.int i) (.int j) S Q := ⟨trivial, h⟩
instance st_iGt {lw : Lv} : Step lw (oGt (.int i) (.int j) S Q) (Q (.bl (decide (j < i))) S) := ⟨fun h => iGt h⟩
theorem iGe (h : Q (.bl (decide (j ≤ i))) S) : oGe (.int i) (.int j) S Q := ⟨trivial, h⟩
instance st_iGe {lw : Lv} : Step lw (oGe (.int i) (.int j) S Q) (Q (.bl (decide (j ≤ i))) S) := ⟨fun h => iGe h⟩
theorem iEq (h : Q (.bl (decide (i = j))) S) : oEq (.int i) (.int j) S Q := h
instance st_iEq {lw : Lv} : Step lw (oEq (.int i) (.int j) S Q) (Q (.bl (decide (i = j))) S) := ⟨fun h => iEq h⟩
theorem iNe (h : Q (.bl (!decide (i = j))) S) : oNe (.int i) (.int j) S Q := h
instance st_iNe {lw : Lv} : Step lw (oNe (.int i) (.int j) S Q) (Q (.bl (!decide (i = j))) S) := ⟨fun h => iNe h⟩
theorem sEq {u v : Str} (h : Q (.bl (decide (u = v))) S) : oEq (.str u) (.str v) S Q := h
instance st_sEq {lw : Lv} {u v : Str} : Step lw (oEq (.str u) (.str v) S Q) (Q (.bl (decide (u = v))) S) := ⟨fun h => sEq h⟩
theorem sNe {u v : Str} (h : Q (.bl (!decide (u = v))) S) : oNe (.str u) (.str v) S Q := h
instance st_sNe {lw : Lv} {u v : Str} : Step lw (oNe (.str u) (.str v) S Q) (Q (.bl (!decide (u = v))) S) := ⟨fun h => sNe h⟩
theorem iNeg (h : Q (.int (-i)) S) : oNeg (.int i) S Q := h
instance st_iNeg {lw : Lv} : Step lw (oNeg (.int i) S Q) (Q (.int (-i)) S) := ⟨fun h => iNeg h⟩
theorem tAdd {u v : List D} (h : Q (.tup (u ++ v)) S) (hl : u.length + v.length ≤ 1000000) : oAdd (.tup u) (.tup v) S Q := ⟨hl, h⟩
theorem isN1 (h : Q (.bl true) S) : oIsN .non .non S Q := ⟨rfl, h⟩
instance st_isN1 {lw : Lv} : Step lw (oIsN .non .non S Q) (Q (.bl true) S) := ⟨fun h => isN1 h⟩
theorem isN2 (h : Q (.bl (isNon d)) S) : oIsN d .non S Q := ⟨rfl, h⟩
instance st_isN2 {lw : Lv} : Step lw (oIsN d .non S Q) (Q (.bl (isNon d)) S) := ⟨fun h => isN2 h⟩
theorem noN2 (h : Q (.bl (!isNon d)) S) : oNotN d .non S Q := ⟨rfl, h⟩
instance st_noN2 {lw : Lv} : Step lw (oNotN d .non S Q) (Q (.bl (!isNon d)) S) := ⟨fun h => noN2 h⟩
/-! lengths -/
section
variable {k : Nat → Prop} {xs : List D} {α : Type} {f : α → D} {l : List α}
theorem xLen (h : lenD S x fun n => Q (.int (n : Nat)) S) : cLen [x] S Q := h
instance st_xLen {lw : Lv} : Step lw (cLen [x] S Q) (lenD S x fun n => Q (.int (n : Nat)) S) := ⟨fun h => xLen h⟩
theorem lTupM (h : k l.length) : lenD S (.tup (l.map f)) k := len_seq rfl (by rw [List.length_map]; exact h)
instance st_lTupM {lw : Lv} : Step lw (lenD S (.tup (l.map f)) k) (k l.length) := ⟨fun h => lTupM h⟩
theorem lTfM (h : k l.length) : lenD S (.tf (l.map f)) k := len_seq rfl (by rw [List.length_map]; exact h)
instance st_lTfM {lw : Lv} : Step lw (lenD S (.tf (l.map f)) k) (k l.length) := ⟨fun h => lTfM h⟩
theorem lLstM (h : k l.length) : lenD S (.lst (l.map f)) k := len_seq rfl (by rw [List.length_map]; exact h)
instance st_lLstM {lw : Lv} : Step lw (lenD S (.lst (l.map f)) k) (k l.length) := ⟨fun h => lLstM h⟩
theorem lSrcM (h : k l.length) : lenD S (.src (l.map f)) k := len_seq rfl (by rw [List.length_map]; exact h)
instance st_lSrcM {lw : Lv} : Step lw (lenD S (.src (l.map f)) k) (k l.length) := ⟨fun h => lSrcM h⟩
theorem lTup (h : k xs.length) : lenD S (.tup xs) k := len_seq rfl h
instance st_lTup {lw : Lv} : Step lw (lenD S (.tup xs) k) (k xs.length) := ⟨fun h => lTup h⟩
theorem lTf (h : k xs.length) : lenD S (.tf xs) k := len_seq rfl h
instance st_lTf {lw : Lv} : Step lw (lenD S (.tf xs) k) (k xs.length) := ⟨fun h => lTf h⟩
theorem lLst (h : k xs.length) : lenD S (.lst xs) k := len_seq rfl h
instance st_lLst {lw : Lv} : Step lw (lenD S (.lst xs) k) (k xs.length) := ⟨fun h => lLst h⟩
theorem lSrc (h : k xs.length) : lenD S (.src xs) k := len_seq rfl h
instance st_lSrc {lw : Lv} : Step lw (lenD S (.src xs) k) (k xs.length) := ⟨fun h => lSrc h⟩
theorem lObj {p : Addr} (e : S p = some (.lst xs)) (h : k xs.length) : lenD S (.obj p) k := len_seq (show objL (S p) = _ by rw [e]; rfl) h
theorem lObjM {p : Addr} (e : S p = some (.lst (l.map f))) (h : k l.length) : lenD S (.obj p) k := lObj e (by rw [List.length_map]; exact h)
theorem lDic {t : Bool} {kvs : List (D × D)} (h : k kvs.length) : lenD S (.dic t kvs) k := ⟨.inr ⟨t, kvs, rfl, h⟩⟩
instance st_lDic {lw : Lv} {t : Bool} {kvs : List (D × D)} : Step lw (lenD S (.dic t kvs) k) (k kvs.length) := ⟨fun h => lDic h⟩
/-! all, any -/
theorem xAll {bs : List Bool} (h : Q (.bl (bs.all id)) S) : cAll [.lst (bs.map D.bl)] S Q := ⟨bs, rfl, h⟩
instance st_xAll {lw : Lv} {bs : List Bool} : Step lw (cAll [.lst (bs.map D.bl)] S Q) (Q (.bl (bs.all id)) S) := ⟨fun h => xAll h⟩
theorem xAllM {g : α → Bool} (h : Q (.bl (l.all g)) S) : cAll [.lst (l.map fun z => .bl (g z))] S Q := ⟨l.map g, by show some _ = some _; rw [List.map_map]; rfl, by show Q (.bl ((l.map g).all id)) S; rw [List.all_map]; exact h⟩
instance st_xAllM {lw : Lv} {g : α → Bool} : Step lw (cAll [.lst (l.map fun z => .bl (g z))] S Q) (Q (.bl (l.all g)) S) := ⟨fun h => xAllM h⟩
theorem xAnyM {g : α → Bool} (h : Q (.bl (l.any g)) S) : cAny [.lst (l.map fun z => .bl (g z))] S Q := ⟨l.map g, by show some _ = some _; rw [List.map_map]; rfl, by show Q (.bl ((l.map g).any id)) S; rw [List.any_map]; exact h⟩
instance st_xAnyM {lw : Lv} {g : α → Bool} : Step lw (cAny [.lst (l.map fun z => .bl (g z))] S Q) (Q (.bl (l.any g)) S) := ⟨fun h => xAnyM h⟩
end
/-! items by index -/
section
variable {xs : List D} {k : Nat} {α : Type} {f : α → D} {l : List α} {z : α}
theorem ixTup (e : atI xs i = some d) (h : Q d S) : oIx (.tup xs) (.int i) S Q := .inl ⟨xs, i, d, rfl, rfl, e, h⟩
theorem ixLst (e : atI xs i = some d) (h : Q d S) : oIx (.lst xs) (.int i) S Q := .inl ⟨xs, i, d, rfl, rfl, e, h⟩
theorem ixObj {p : Addr} (e0 : S p = some (.lst xs)) (e : atI xs i = some d) (h : Q d S) : oIx (.obj p) (.int i) S Q := .inl ⟨xs, i, d, show objL (S p) = _ by rw [e0]; rfl, rfl, e, h⟩
theorem at0 {v : D} {vs : List D} : atI (v :: vs) 0 = some v := atI_nat (j := 0) rfl
theorem at1 {v u : D} {vs : List D} : atI (v :: u :: vs) 1 = some u := atI_nat (j := 1) rfl
theorem atM (e : l[k]? = some z) : atI (l.map f) ((k : Nat) : Int) = some (f z) := atI_nat (by rw [List.getElem?_map, e]; rfl)
end
/-! calls -/
theorem xFnC {sp : DSp} (h : t sd S fun xs S1 => sp xs S1 Q NoE) : wFn sp [] t sd S Q := by
  unfold wFn
  simp only [List.append_nil]
  exact h
instance st_xFnC {lw : Lv} {sp : DSp} : Step lw (wFn sp [] t sd S Q) (t sd S fun xs S1 => sp xs S1 Q NoE) := ⟨fun h => xFnC h⟩
/-! attributes, methods of instances -/
def FldD (C : Addr) (g : Str) (d : D) (S : SO) (Q : KD) : Prop := ∃ fs v, InsD C d S fs ∧ fs.lookup g = some v ∧ Q v S
theorem xFld {C : Addr} {g : Str} (h : we sd S fun d S1 => FldD C g d S1 Q) : wFld C g we sd S Q := h
instance st_xFld {lw : Lv} {C : Addr} {g : Str} : Step lw (wFld C g we sd S Q) (we sd S fun d S1 => FldD C g d S1 Q) := ⟨fun h => xFld h⟩
def MthD (C : Addr) (m : Str) (d : D) (S : SO) (A : Prop) : Prop := (∃ fs, InsD C d S fs ∧ fs.lookup m = none) ∧ A
theorem xMth {C : Addr} {m : Str} {sp : DSp} (h : we sd S fun d S1 => MthD C m d S1 (t sd S1 fun xs S2 => sp (d :: xs) S2 Q NoE)) : wMeth C m sp [] we t sd S Q := by
  unfold wMeth
  simp only [List.append_nil]
  exact h
instance st_xMth {lw : Lv} {C : Addr} {m : Str} {sp : DSp} : Step lw (wMeth C m sp [] we t sd S Q) (we sd S fun d S1 => MthD C m d S1 (t sd S1 fun xs S2 => sp (d :: xs) S2 Q NoE)) := ⟨fun h => xMth h⟩
/-! what is walked -/
section
variable {R : ItD → SO → Prop} {Rs : List D → (SO → Prop) → Prop} {xs : List D}
theorem xSeqI (h : we sd S fun d S1 => seqD d S1 fun xs ok => R ⟨xs, ok⟩ S1) : wSeqI we sd S R := h
instance st_xSeqI {lw : Lv} : Step lw (wSeqI we sd S R) (we sd S fun d S1 => seqD d S1 fun xs ok => R ⟨xs, ok⟩ S1) := ⟨fun h => xSeqI h⟩
theorem sTup (h : Rs xs fun _ => True) : seqD (.tup xs) S Rs := h
instance st_sTup {lw : Lv} : Step lw (seqD (.tup xs) S Rs) (Rs xs fun _ => True) := ⟨fun h => sTup h⟩
theorem sTf (h : Rs xs fun _ => True) : seqD (.tf xs) S Rs := h
instance st_sTf {lw : Lv} : Step lw (seqD (.tf xs) S Rs) (Rs xs fun _ => True) := ⟨fun h => sTf h⟩
theorem sLst (h : Rs xs fun _ => True) : seqD (.lst xs) S Rs := h
instance st_sLst {lw : Lv} : Step lw (seqD (.lst xs) S Rs) (Rs xs fun _ => True) := ⟨fun h => sLst h⟩
theorem sSrc (h : Rs xs fun _ => True) : seqD (.src xs) S Rs := h
instance st_sSrc {lw : Lv} : Step lw (seqD (.src xs) S Rs) (Rs xs fun _ => True) := ⟨fun h => sSrc h⟩
theorem xEnum (h : t sd S fun xs S1 => one xs fun d => seqD d S1 fun ys ok => R ⟨enumD ys, ok⟩ S1) : wEnum t sd S R := h
instance st_xEnum {lw : Lv} : Step lw (wEnum t sd S R) (t sd S fun xs S1 => one xs fun d => seqD d S1 fun ys ok => R ⟨enumD ys, ok⟩ S1) := ⟨fun h => xEnum h⟩
theorem one1 {k : D → Prop} (h : k d) : one [d] k := h
instance st_one1 {lw : Lv} {k : D → Prop} : Step lw (one [d] k) (k d) := ⟨fun h => one1 h⟩
theorem xRng1 (h : t sd S fun xs S1 => int1 xs fun j => -(2 ^ 62) ≤ j ∧ j < 2 ^ 62 ∧ R ⟨rangeD 0 j, fun _ => True⟩ S1) : wRng1 t sd S R := h
instance st_xRng1 {lw : Lv} : Step lw (wRng1 t sd S R) (t sd S fun xs S1 => int1 xs fun j => -(2 ^ 62) ≤ j ∧ j < 2 ^ 62 ∧ R ⟨rangeD 0 j, fun _ => True⟩ S1) := ⟨fun h => xRng1 h⟩
theorem xRng2 (h : t sd S fun xs S1 => int2 xs fun i j => (-(2 ^ 62) ≤ i ∧ i < 2 ^ 62 ∧ -(2 ^ 62) ≤ j ∧ j < 2 ^ 62) ∧ R ⟨rangeD i j, fun _ => True⟩ S1) : wRng2 t sd S R := h
instance st_xRng2 {lw : Lv} : Step lw (wRng2 t sd S R) (t sd S fun xs S1 => int2 xs fun i j => (-(2 ^ 62) ≤ i ∧ i < 2 ^ 62 ∧ -(2 ^ 62) ≤ j ∧ j < 2 ^ 62) ∧ R ⟨rangeD i j, fun _ => True⟩ S1) := ⟨fun h => xRng2 h⟩
theorem int1' {k : Int → Prop} (h : k i) : int1 [.int i] k := h
instance st_int1' {lw : Lv} {k : Int → Prop} : Step lw (int1 [.int i] k) (k i) := ⟨fun h => int1' h⟩
theorem int2' {k : Int → Int → Prop} (h : k i j) : int2 [.int i, .int j] k := h
instance st_int2' {lw : Lv} {k : Int → Int → Prop} : Step lw (int2 [.int i, .int j] k) (k i j) := ⟨fun h => int2' h⟩
theorem rng1N {k : Nat} (hk : k ≤ 1000000) (h : R ⟨rangeD 0 (k : Nat), fun _ => True⟩ S) : -(2 ^ 62) ≤ ((k : Nat) : Int) ∧ ((k : Nat) : Int) < 2 ^ 62 ∧ R ⟨rangeD 0 (k : Nat), fun _ => True⟩ S := ⟨by omega, by omega, h⟩
theorem rangeN (k : Nat) : rangeD 0 ((k : Nat) : Int) = (List.range k).map fun i => .int ((i : Nat) : Int) := by
  unfold rangeD
  rw [show ((k : Int) - 0).toNat = k by omega]
  exact List.map_congr_left fun i _ => by rw [Int.zero_add]
end
/-! slices -/
theorem xSl {tl th : WP} (h : we sd S fun d S1 => tl sd S1 fun lo S2 => th sd S2 fun hi S3 => sliD d S3 lo hi Q) : wSl we tl th sd S Q := h
instance st_xSl {lw : Lv} {tl th : WP} : Step lw (wSl we tl th sd S Q) (we sd S fun d S1 => tl sd S1 fun lo S2 => th sd S2 fun hi S3 => sliD d S3 lo hi Q) := ⟨fun h => xSl h⟩
section
variable {Qo : Option Int → SO → Prop}
theorem pN (h : Qo none S) : pNone sd S Qo := h
instance st_pN {lw : Lv} : Step lw (pNone sd S Qo) (Qo none S) := ⟨fun h => pN h⟩
theorem pS (h : we sd S (isI fun i S1 => Qo (some i) S1)) : pSome we sd S Qo := h
instance st_pS {lw : Lv} : Step lw (pSome we sd S Qo) (we sd S (isI fun i S1 => Qo (some i) S1)) := ⟨fun h => pS h⟩
end
theorem isI1 {k : Int → SO → Prop} (h : k i S) : isI k (.int i) S := ⟨h⟩
instance st_isI1 {lw : Lv} {k : Int → SO → Prop} : Step lw (isI k (.int i) S) (k i S) := ⟨fun h => isI1 h⟩
section
variable {xs : List D} {lo hi : Option Int} {k l : Nat} {p : Addr}
theorem slTup (h : Q (.tup (cutD xs lo hi)) S) : sliD (.tup xs) S lo hi Q := h
instance st_slTup {lw : Lv} : Step lw (sliD (.tup xs) S lo hi Q) (Q (.tup (cutD xs lo hi)) S) := ⟨fun h => slTup h⟩
theorem slSrc (h : Q (.lst (cutD xs lo hi)) S) : sliD (.src xs) S lo hi Q := h
instance st_slSrc {lw : Lv} : Step lw (sliD (.src xs) S lo hi Q) (Q (.lst (cutD xs lo hi)) S) := ⟨fun h => slSrc h⟩
theorem slLst (h : Q (.lst (cutD xs lo hi)) S) : sliD (.lst xs) S lo hi Q := ⟨xs, rfl, h⟩
instance st_slLst {lw : Lv} : Step lw (sliD (.lst xs) S lo hi Q) (Q (.lst (cutD xs lo hi)) S) := ⟨fun h => slLst h⟩
theorem slObj (e : S p = some (.lst xs)) (h : Q (.lst (cutD xs lo hi)) S) : sliD (.obj p) S lo hi Q := ⟨xs, show objL (S p) = _ by rw [e]; rfl, h⟩
theorem sIxN (n d : Nat) : HT.sIx n d (some (k : Int)) = min k n := HT.sIx_nat n d k
theorem cutLo : cutD xs (some (k : Int)) none = xs.drop k := by
  unfold cutD
  rw [sIxN]
  show (xs.drop (min k xs.length)).take (xs.length - min k xs.length) = _
  by_cases h : k ≤ xs.length
  · rw [Nat.min_eq_left h, List.take_of_length_le (by rw [List.length_drop]; omega)]
  · rw [Nat.min_eq_right (by omega), List.drop_of_length_le (Nat.le_refl _), List.drop_of_length_le (by omega), List.take_nil]
theorem cutHi : cutD xs none (some (k : Int)) = xs.take k := by
  unfold cutD
  rw [sIxN]
  show (xs.drop 0).take (min k xs.length - 0) = _
  rw [List.drop_zero, Nat.sub_zero]
  by_cases h : k ≤ xs.length
  · rw [Nat.min_eq_left h]
  · rw [Nat.min_eq_right (by omega), List.take_of_length_le (Nat.le_refl _), List.take_of_length_le (by omega)]
theorem slTfHi (h : Q (.tup (xs.take k)) S) (hk : k < xs.length) : sliD (.tf xs) S none (some (k : Int)) Q := ⟨fun ⟨_, e⟩ => by rw [sIxN] at e; omega, by rw [cutHi]; exact h⟩
end
/-! isinstance -/
end
/-! assignments at once, methods of lists -/
section
variable {n bk ct : SD → SO → Prop} {r : KD} {sd : SD} {S : SO} {Q : KD} {we : WE} {t : WA} {d x y z : D} {p : Addr} {xs : List D} {A : Prop}
theorem xPar {i j : Nat} (h : t sd S fun xs S1 => two2 xs fun x y => gV i x sd S1 fun sd' S2 => gV j y sd' S2 n) : wPar i j t ⟨n, r, bk, ct⟩ sd S := h
instance st_xPar {lw : Lv} {i j : Nat} : Step lw (wPar i j t ⟨n, r, bk, ct⟩ sd S) (t sd S fun xs S1 => two2 xs fun x y => gV i x sd S1 fun sd' S2 => gV j y sd' S2 n) := ⟨fun h => xPar h⟩
theorem xPar3 {i j k : Nat} (h : t sd S fun xs S1 => three xs fun x y z => gV i x sd S1 fun sd' S2 => gV j y sd' S2 fun sd' S2 => gV k z sd' S2 n) : wPar3 i j k t ⟨n, r, bk, ct⟩ sd S := h
instance st_xPar3 {lw : Lv} {i j k : Nat} : Step lw (wPar3 i j k t ⟨n, r, bk, ct⟩ sd S) (t sd S fun xs S1 => three xs fun x y z => gV i x sd S1 fun sd' S2 => gV j y sd' S2 fun sd' S2 => gV k z sd' S2 n) := ⟨fun h => xPar3 h⟩
theorem two2' {k : D → D → Prop} (h : k x y) : two2 [x, y] k := h
instance st_two2' {lw : Lv} {k : D → D → Prop} : Step lw (two2 [x, y] k) (k x y) := ⟨fun h => two2' h⟩
theorem three' {k : D → D → D → Prop} (h : k x y z) : three [x, y, z] k := h
instance st_three' {lw : Lv} {k : D → D → D → Prop} : Step lw (three [x, y, z] k) (k x y z) := ⟨fun h => three' h⟩
def BmD (T : String) (d : D) (S : SO) (A : Prop) : Prop := tyD T d S ∧ A
theorem xBM {T : String} {w : WM} (h : we sd S fun d S1 => BmD T d S1 (t sd S1 fun xs S2 => w d xs S2 Q)) : wBM T w we t sd S Q := h
instance st_xBM {lw : Lv} {T : String} {w : WM} : Step lw (wBM T w we t sd S Q) (we sd S fun d S1 => BmD T d S1 (t sd S1 fun xs S2 => w d xs S2 Q)) := ⟨fun h => xBM h⟩
theorem bmObj (e : S p = some (.lst xs)) (h : A) : BmD "list" (.obj p) S A := ⟨.inl ⟨rfl, xs, e⟩, h⟩
theorem bmLst (h : A) : BmD "list" (.lst xs) S A := ⟨rfl, h⟩
instance st_bmLst {lw : Lv} : Step lw (BmD "list" (.lst xs) S A) (A) := ⟨fun h => bmLst h⟩
theorem bmSrc (h : A) : BmD "list" (.src xs) S A := ⟨rfl, h⟩
instance st_bmSrc {lw : Lv} : Step lw (BmD "list" (.src xs) S A) (A) := ⟨fun h => bmSrc h⟩
theorem apM {α : Type} {f : α → D} {l : List α} {z : α} (e : S p = some (.lst (l.map f))) (hl : l.length < 1000000) (h : Q .non (S.set p (.lst ((l ++ [z]).map f)))) : mAppend (.obj p) [f z] S Q := ⟨p, _, rfl, e, by rw [List.length_map]; exact hl, by rw [List.map_append] at h; exact h⟩
theorem tfL (h : Q (.tf xs) S) : cTupleF [.lst xs] S Q := ⟨xs, rfl, h⟩
instance st_tfL {lw : Lv} : Step lw (cTupleF [.lst xs] S Q) (Q (.tf xs) S) := ⟨fun h => tfL h⟩
theorem tuL (h : Q (.tup xs) S) : cTuple [.lst xs] S Q := ⟨xs, rfl, h⟩
instance st_tuL {lw : Lv} : Step lw (cTuple [.lst xs] S Q) (Q (.tup xs) S) := ⟨fun h => tuL h⟩
theorem tuT (h : Q (.tup xs) S) : cTuple [.tup xs] S Q := h
instance st_tuT {lw : Lv} : Step lw (cTuple [.tup xs] S Q) (Q (.tup xs) S) := ⟨fun h => tuT h⟩
end
/-! for loops over typed sources and states -/
section
variable {n bk ct : SD → SO → Prop} {r : KD} {sd : SD} {S : SO} {wi : WI} {g : WG} {b : WS} {α σ : Type}
def ForJ (g : WG) (b : WS) (n : SD → SO → Prop) (r : KD) (sd : SD) (J : ItD) (S1 : SO) : Prop := ∃ Pv : Nat → SD → SO → Prop, Pv 0 sd S1 ∧ (∀ i sd S, Pv i sd S → J.ok S) ∧
  (∀ i d sd S, J.items[i]? = some d → Pv i sd S → g d sd S fun sd' S' => b ⟨Pv (i + 1), r, n, Pv (i + 1)⟩ sd' S') ∧ (∀ sd S, Pv J.items.length sd S → n sd S)
theorem xFor (h : wi sd S fun J S1 => ForJ g b n r sd J S1) : wFor wi g b ⟨n, r, bk, ct⟩ sd S := ⟨h⟩
instance st_xFor {lw : Lv} : Step lw (wFor wi g b ⟨n, r, bk, ct⟩ sd S) (wi sd S fun J S1 => ForJ g b n r sd J S1) := ⟨fun h => xFor h⟩
/-- what holds before turn i -/
def Turn (st : σ → SD) (so : σ → SO) (Iv : Nat → σ → Prop) (i : Nat) : SD → SO → Prop := fun sd S => ∃ a, sd = st a ∧ S = so a ∧ Iv i a
theorem Turn.of {st : σ → SD} {so : σ → SO} {Iv : Nat → σ → Prop} {i : Nat} (a : σ) (hv : Iv i a) (h1 : sd = st a := by rfl) (h2 : S = so a := by rfl) : Turn st so Iv i sd S := ⟨a, h1, h2, hv⟩
/-- σ: what the state is made of; st, so: the slots, the objects; Iv: the invariant before turn i -/
theorem forJ {xs : List D} {ok : SO → Prop} (l : List α) (f : α → D) (st : σ → SD) (so : σ → SO) (Iv : Nat → σ → Prop) (a0 : σ) (h0 : Iv 0 a0)
    (ht : ∀ i z a, l[i]? = some z → Iv i a → g (f z) (st a) (so a) fun sd' S' => b ⟨Turn st so Iv (i + 1), r, n, Turn st so Iv (i + 1)⟩ sd' S')
    (he : ∀ a, Iv l.length a → n (st a) (so a)) (hs : sd = st a0 := by rfl) (hS : S = so a0 := by rfl) (hx : xs = l.map f := by rfl) (hok : ∀ i a, Iv i a → ok (so a) := by intros; trivial) : ForJ g b n r sd ⟨xs, ok⟩ S := by
  subst hx
  refine ⟨Turn st so Iv, ⟨a0, hs, hS, h0⟩, ?_, ?_, ?_⟩
  · rintro i sd S ⟨a, rfl, rfl, hv⟩
    exact hok i a hv
  · rintro i d sd S hd ⟨a, rfl, rfl, hv⟩
    rw [List.getElem?_map] at hd
    obtain ⟨z, hz, rfl⟩ := Option.map_eq_some_iff.mp hd
    exact ht i z a hz hv
  · rintro sd S ⟨a, rfl, rfl, hv⟩
    rw [List.length_map] at hv
    exact he a hv
theorem forE {ys : List D} {ok : SO → Prop} (l : List α) (f : α → D) (st : σ → SD) (so : σ → SO) (Iv : Nat → σ → Prop) (a0 : σ) (h0 : Iv 0 a0)
    (ht : ∀ i z a, l[i]? = some z → Iv i a → g (.tup [.int (i : Nat), f z]) (st a) (so a) fun sd' S' => b ⟨Turn st so Iv (i + 1), r, n, Turn st so Iv (i + 1)⟩ sd' S')
    (he : ∀ a, Iv l.length a → n (st a) (so a)) (hs : sd = st a0 := by rfl) (hS : S = so a0 := by rfl) (hx : ys = l.map f := by rfl) (hok : ∀ i a, Iv i a → ok (so a) := by intros; trivial) : ForJ g b n r sd ⟨enumD ys, ok⟩ S := by
  subst hx
  refine ⟨Turn st so Iv, ⟨a0, hs, hS, h0⟩, ?_, ?_, ?_⟩
  · rintro i sd S ⟨a, rfl, rfl, hv⟩
    exact hok i a hv
  · rintro i d sd S hd ⟨a, rfl, rfl, hv⟩
    obtain ⟨x, hx, rfl⟩ := enumD_get hd
    rw [List.getElem?_map] at hx
    obtain ⟨z, hz, rfl⟩ := Option.map_eq_some_iff.mp hx
    exact ht i z a hz hv
  · rintro sd S ⟨a, rfl, rfl, hv⟩
    rw [enumD_len, List.length_map] at hv
    exact he a hv
theorem forR {m : Nat} {ok : SO → Prop} (st : σ → SD) (so : σ → SO) (Iv : Nat → σ → Prop) (a0 : σ) (h0 : Iv 0 a0)
    (ht : ∀ i a, i < m → Iv i a → g (.int (i : Nat)) (st a) (so a) fun sd' S' => b ⟨Turn st so Iv (i + 1), r, n, Turn st so Iv (i + 1)⟩ sd' S')
    (he : ∀ a, Iv m a → n (st a) (so a)) (hs : sd = st a0 := by rfl) (hS : S = so a0 := by rfl) (hok : ∀ i a, Iv i a → ok (so a) := by intros; trivial) : ForJ g b n r sd ⟨rangeD 0 (m : Nat), ok⟩ S := by
  rw [rangeN]
  refine forJ (List.range m) (fun i : Nat => .int (i : Nat)) st so Iv a0 h0 (fun i z a hz hv => ?_) (fun a hv => he a (by rwa [List.length_range] at hv)) hs hS rfl hok
  have hl := (List.getElem?_eq_some_iff.mp hz).1
  rw [List.length_range] at hl
  rw [List.getElem?_range hl] at hz
  cases hz
  exact ht i a hl hv
/-! list comprehensions over typed sources -/
variable {nt : NT} {tt : WT} {we wk : WE} {vs : List Nat} {Q : KD}
class InjD {α : Type} (f : α → D) : Prop where
  inj : ∀ a b, f a = f b → a = b
instance : InjD D.str := ⟨fun _ _ h => by injection h⟩
instance : InjD D.int := ⟨fun _ _ h => by injection h⟩
instance : InjD (fun d : D => d) := ⟨fun _ _ h => h⟩
instance : InjD (fun i : Nat => D.int (i : Nat)) := ⟨fun _ _ h => by injection h with h; omega⟩
instance {α β : Type} (f : α → D) (h : β → D) [InjD f] [InjD h] : InjD (fun z : α × β => D.tup [f z.1, h z.2]) := ⟨fun a b e => by
  injection e with e
  injection e with e1 e
  injection e with e2 e
  exact Prod.ext (InjD.inj (f := f) _ _ e1) (InjD.inj (f := h) _ _ e2)⟩
theorem map_inj {α : Type} {f : α → D} [InjD f] : ∀ {a b : List α}, a.map f = b.map f → a = b
  | [], [], _ => rfl
  | [], _ :: _, h => by cases h
  | _ :: _, [], h => by cases h
  | x :: xs, y :: ys, h => by
    rw [List.map_cons, List.map_cons] at h
    injection h with h1 h2
    rw [InjD.inj (f := f) _ _ h1, map_inj h2]
instance {α : Type} (f : α → D) [InjD f] : InjD (fun r : List α => D.tup (r.map f)) := ⟨fun a b e => by injection e with e; exact map_inj e⟩
instance {α : Type} (f : α → D) [InjD f] : InjD (fun r : List α => D.tf (r.map f)) := ⟨fun a b e => by injection e with e; exact map_inj e⟩
instance {α : Type} (f : α → D) [InjD f] : InjD (fun r : List α => D.lst (r.map f)) := ⟨fun a b e => by injection e with e; exact map_inj e⟩
open Classical in
noncomputable def backF {α : Type} (l : List α) (f : α → D) (out : α → Option D) : D → Option D := fun d => if h : ∃ z, z ∈ l ∧ f z = d then out h.choose else none
theorem backF_eq {α : Type} {l : List α} {f : α → D} [InjD f] {out : α → Option D} {z : α} (h : z ∈ l) : backF l f out (f z) = out z := by
  unfold backF
  have e : ∃ z', z' ∈ l ∧ f z' = f z := ⟨z, h, rfl⟩
  rw [dif_pos e, InjD.inj (f := f) _ _ e.choose_spec.2]
theorem backF_map {α : Type} {l : List α} {f : α → D} [InjD f] {out : α → Option D} : (l.map f).filterMap (backF l f out) = l.filterMap out := by
  rw [List.filterMap_map]
  have key : ∀ m : List α, (∀ z ∈ m, z ∈ l) → m.filterMap (backF l f out ∘ f) = m.filterMap out := fun m => by
    induction m with
    | nil => intro _; rfl
    | cons x m ih =>
      intro hm
      rw [List.filterMap_cons, List.filterMap_cons, ih fun z hz => hm z (List.mem_cons_of_mem _ hz)]
      simp only [Function.comp]
      rw [backF_eq (hm x (List.mem_cons_self ..))]
  exact key l fun _ h => h
theorem map_filterMap {α β : Type} {p : α → Bool} {out : α → β} : ∀ l : List α, l.filterMap (fun z => if p z = true then some (out z) else none) = (l.filter p).map out
  | [] => rfl
  | x :: xs => by
    rw [List.filterMap_cons, List.filter_cons]
    cases h : p x <;> simp [map_filterMap xs]
/-- the source: the items of l -/
structure Src {α : Type} (l : List α) (f : α → D) (S : SO) (J : ItD) (S1 : SO) : Prop where
  it : J.items = l.map f
  ok : ∀ S', Ext S1 S' → J.ok S'
  st : S1 = S
theorem srcT {l : List α} {f : α → D} : Src l f S ⟨l.map f, fun _ => True⟩ S := ⟨rfl, fun _ _ => trivial, rfl⟩
theorem srcX {l : List α} {f : α → D} {xs : List D} (h : xs = l.map f) : Src l f S ⟨xs, fun _ => True⟩ S := ⟨h, fun _ _ => trivial, rfl⟩
theorem srcO {l : List α} {f : α → D} {p : Addr} {xs : List D} (h : S p = some (.lst xs)) (e : xs = l.map f := by rfl) : Src l f S ⟨xs, fun S => S p = some (.lst xs)⟩ S := ⟨e, fun S' x => x p _ h, rfl⟩
theorem putNT_mono {nt : NT} {d : D} {sd : SD} {k k' : SD → Prop} (h : putNT nt d sd k) (i : ∀ sd2, k sd2 → k' sd2) : putNT nt d sd k' := by
  cases nt with
  | n j => exact i _ h
  | t l =>
    cases d with
    | tup xs => exact ⟨h.1, i _ h.2⟩
    | _ => exact False.elim h
/-- with a test: what is asked behind the test's answer c; o: the new item, if any -/
def LcK (we : WE) (sd2 : SD) (S' : SO) (o : Option D) : Bool → SO → Prop := fun c S2 => S2 = S' ∧ if c = true then up we sd2 S' fun y S3 => S3 = S' ∧ o = some y else o = none
theorem lcKT {sd2 : SD} {S' : SO} {o : Option D} {x : D} (e : o = some x) (h : we sd2 S' fun y S3 => S3 = S' ∧ x = y) : LcK we sd2 S' o true S' :=
  ⟨rfl, by rw [if_pos rfl]; exact ⟨_, h, fun y S3 ⟨e1, e2⟩ => ⟨e1, by rw [e, e2]⟩⟩⟩
theorem lcKF {sd2 : SD} {S' : SO} {o : Option D} (e : o = none) : LcK we sd2 S' o false S' := ⟨rfl, by rw [if_neg Bool.false_ne_true]; exact e⟩
def opt {α : Type} (c : Bool) (x : α) : Option α := if c = true then some x else none
theorem opt_t {α : Type} {c : Bool} {x : α} (h : c = true) : opt c x = some x := if_pos h
theorem opt_f {α : Type} {c : Bool} {x : α} (h : c = false) : opt c x = none := if_neg (by rw [h]; exact Bool.false_ne_true)
/-- the test's answer is c -/
theorem lcKI {sd2 : SD} {S' : SO} {c : Bool} {x : D} (h : c = true → we sd2 S' fun y S3 => S3 = S' ∧ x = y) : isB (LcK we sd2 S' (opt c x)) (.bl c) S' := by
  refine isC (fun e => lcKT (opt_t e) (h e)) fun e => lcKF (opt_f e)
theorem lcO (l : List α) (f : α → D) [InjD f] (F : α → Option D) (hi : wi sd S (Src l f S)) (hl : l.length ≤ 1000000)
    (hf : ∀ z ∈ l, ∀ S', Ext S S' → putNT nt (f z) (wipeD sd vs) fun sd2 => tt sd2 S' (LcK we sd2 S' (F z))) (hq : Q (.lst (l.filterMap F)) S) : wLcP wi nt tt we vs sd S Q := by
  refine ⟨_, hi, ?_⟩
  rintro ⟨xs, ok⟩ S1 ⟨hx, hok, rfl⟩
  have hx' : xs = l.map f := hx
  subst hx'
  refine ⟨hok, by show (l.map f).length ≤ _; rw [List.length_map]; exact hl, backF l f F, fun d hd S' e => ?_, ?_⟩
  · obtain ⟨z, hz, rfl⟩ := List.mem_map.mp hd
    rw [backF_eq hz]
    exact hf z hz S' e
  · show Q (.lst ((l.map f).filterMap (backF l f F))) S1
    rw [backF_map]
    exact hq
theorem lcF (l : List α) (f : α → D) [InjD f] (p : α → Bool) (out : α → D) (hi : wi sd S (Src l f S)) (hl : l.length ≤ 1000000)
    (hf : ∀ z ∈ l, ∀ S', Ext S S' → putNT nt (f z) (wipeD sd vs) fun sd2 => tt sd2 S' (LcK we sd2 S' (opt (p z) (out z)))) (hq : Q (.lst ((l.filter p).map out)) S) : wLcP wi nt tt we vs sd S Q := by
  refine lcO l f (fun z => opt (p z) (out z)) hi hl hf ?_
  have e : l.filterMap (fun z => opt (p z) (out z)) = (l.filter p).map out := map_filterMap l
  rw [e]
  exact hq
theorem lcM (l : List α) (f : α → D) [InjD f] (out : α → D) (hi : wi sd S (Src l f S)) (hl : l.length ≤ 1000000)
    (hf : ∀ z ∈ l, ∀ S', Ext S S' → putNT nt (f z) (wipeD sd vs) fun sd2 => we sd2 S' fun y S3 => S3 = S' ∧ out z = y) (hq : Q (.lst (l.map out)) S) : wLcP wi nt wYes we vs sd S Q := by
  refine lcO l f (fun z => some (out z)) hi hl (fun z hz S' e => putNT_mono (hf z hz S' e) fun sd2 h => ?_) ?_
  · exact lcKT rfl h
  · rw [List.filterMap_eq_map']
    exact hq
instance {α : Type} (f : α → D) [InjD f] : InjD (fun z : α × Nat => D.tup [.int (z.2 : Nat), f z.1]) := ⟨fun a b e => by
  injection e with e
  injection e with e1 e
  injection e with e2 e
  injection e1 with e1
  exact Prod.ext (InjD.inj (f := f) _ _ e2) (by omega)⟩
theorem srcR {m : Nat} : Src (List.range m) (fun i : Nat => D.int (i : Nat)) S ⟨rangeD 0 (m : Nat), fun _ => True⟩ S := ⟨rangeN m, fun _ _ => trivial, rfl⟩
end
/-! equal to [] or () -/
/-! the state: objects by their addresses -/
end L2.DL

/-! DL23: t[::-1] of tuples, the new one a tuple as any -/
namespace L2.DL
open PySem PySem.Spec PyProof.Rows
section
variable {X : Cx}
def RevD (d : D) (S : SO) (k : List D → Prop) : Prop := ∃ xs, (d = .tf xs ∨ d = .tup xs ∨ d = .kt xs) ∧ k xs
theorem revTup {xs : List D} {S : SO} {k : List D → Prop} (h : k xs) : RevD (.tup xs) S k := ⟨xs, .inr (.inl rfl), h⟩
instance st_revTup {lw : Lv} {xs : List D} {S : SO} {k : List D → Prop} : Step lw (RevD (.tup xs) S k) (k xs) := ⟨fun h => revTup h⟩
theorem revTf {xs : List D} {S : SO} {k : List D → Prop} (h : k xs) : RevD (.tf xs) S k := ⟨xs, .inl rfl, h⟩
instance st_revTf {lw : Lv} {xs : List D} {S : SO} {k : List D → Prop} : Step lw (RevD (.tf xs) S k) (k xs) := ⟨fun h => revTf h⟩
def wRevU (we : WE) : WE := fun sd S Q => we sd S fun d S1 => ∃ xs, (d = .tf xs ∨ d = .tup xs ∨ d = .kt xs) ∧ Q (.tup xs.reverse) S1
theorem xRevU {we : WE} {sd : SD} {S : SO} {Q : KD} (h : we sd S fun d S1 => RevD d S1 fun xs => Q (.tup xs.reverse) S1) : wRevU we sd S Q := h
instance st_xRevU {lw : Lv} {we : WE} {sd : SD} {S : SO} {Q : KD} : Step lw (wRevU we sd S Q) (we sd S fun d S1 => RevD d S1 fun xs => Q (.tup xs.reverse) S1) := ⟨fun h => xRevU h⟩
end
end L2.DL

/-! DL24: values of any kind: == () of tuples of anything, {} that nobody changes, isinstance -/
namespace L2.DL
open PySem PySem.Spec PyProof.Rows
def asTup : D → Option (List D)
  | .tup xs => some xs
  | .tf xs => some xs
  | _ => none
def asStr : D → Option Str
  | .str x => some x
  | _ => none
theorem asTup_at {K : PySem.W.Frag} {S : SO} {H : Hp} {d : D} {v : V} {xs : List D} (r : Rel K S H d v) (e : asTup d = some xs) : ∃ a vs, v = .ref a ∧ SqT K H a vs ∧ Rels K S H xs vs := by
  cases d with
  | tup ys =>
    cases e
    obtain ⟨a, vs, h1, t, h2⟩ := r
    exact ⟨a, vs, h1, t.sq, h2⟩
  | tf ys =>
    cases e
    obtain ⟨a, vs, h1, t, h2⟩ := r
    exact ⟨a, vs, h1, t.sq, h2⟩
  | _ => cases e
section
variable {X : Cx}
/-- == () of a tuple -/
def oEqT : WO := fun x y S Q => ∃ xs, asTup x = some xs ∧ y = .tup [] ∧ Q (.bl xs.isEmpty) S
theorem eqT_core {pins : List (Addr × Obj)} {s : Shared} {σ : St} {H : Hp} {dx : D} {x y : V} {v u : Value} {S : SO} (I : Inv X pins σ H s) (rx : RelV x v) (ry : RelV y u) (r1 : Rel X.K S H dx x) (r2 : Rel X.K S H (.tup []) y) {xs : List D} (e : asTup dx = some xs) :
    ∃ a b items, v = .ref a ∧ u = .ref b ∧ s.heap.IsTuple a items ∧ s.heap.IsTuple b #[] ∧ (items.size == 0) = xs.isEmpty := by
  obtain ⟨a, vs, rfl, t, rv⟩ := asTup_at r1 e
  obtain ⟨b, us, rfl, t2, ru⟩ := r2
  have eu : us = [] := ru
  subst eu
  cases rx
  cases ry
  obtain ⟨its, r, ⟨o, ho, hc, n, hd⟩, hz⟩ := I.tuple t
  obtain ⟨its2, r3, ⟨o2, ho2, hc2, n2, hd2⟩, hz2⟩ := I.tuple t2.sq
  have e2 : its2 = [] := by cases r3; rfl
  subst e2
  refine ⟨a, b, its.toArray, rfl, rfl, ⟨o, ho, hc, n, hd⟩, ⟨o2, ho2, hc2, n2, hd2⟩, ?_⟩
  have h1 := rv.length
  have h2 := r.length
  rw [List.size_toArray]
  cases xs with
  | nil =>
    have : its.length = 0 := by rw [← h2, ← h1]; rfl
    rw [this]
    rfl
  | cons x xs =>
    rw [List.length_cons] at h1
    have : its.length ≠ 0 := by omega
    show (its.length == 0) = false
    simpa using this
theorem do_eqT (hu : X.A.units + 65 < cLine) : DO2 X (compareOp .Eq) oEqT := by
  intro pins s σ H x y v u Q I rx ry ⟨dx, dy, S, Q0, sr, r1, r2, q, an⟩
  obtain ⟨xs, e, rfl, q⟩ := q
  obtain ⟨a, b, items, rfl, rfl, h1, h2, h3⟩ := eqT_core I rx ry r1 r2 e
  refine SeqAt.eq_tupleAt (e := fun _ => true) h1 h2 (by omega) (fun j _ h => absurd h (Nat.not_lt_zero _)) ?_
  have e3 : ((List.range (min items.size (#[] : Array Value).size)).all (fun _ => true) && items.size == (#[] : Array Value).size) = xs.isEmpty := by
    rw [← h3]
    simp
  rw [e3]
  exact ⟨.bl _, H, I, rfl, ansd (.bl _) sr an q rfl⟩
def wDicF : WE := fun _ S Q => Q (.dic false []) S
theorem de_dicF {pos : Pos} : DE X (.Dict [] [] pos) wDicF := pe_imp de_dnewK fun σ H Q ⟨sd, S, Q0, st, q, an⟩ => ⟨sd, S, fun d S' => ∃ p, d = .obj p ∧ S p = none ∧ S' = S.set p (.dic false []), st, fun p hp => ⟨p, rfl, hp, rfl⟩, by
  rintro d S' v H' ⟨p, rfl, hp, rfl⟩ n s r
  obtain ⟨n2, s2, r2⟩ := frz_dic s set_same
  rw [del_set hp] at n2 s2 r2
  cases (show v = .ref p from r)
  exact an (.dic false []) S (.ref p) H' q (n.trans n2) s2 r2⟩
end
theorem xDicF {sd : SD} {S : SO} {Q : KD} (h : Q (.dic false []) S) : wDicF sd S Q := h
instance st_xDicF {lw : Lv} {sd : SD} {S : SO} {Q : KD} : Step lw (wDicF sd S Q) (Q (.dic false []) S) := ⟨fun h => xDicF h⟩
section
variable {wi : WI} {nt : NT} {tt : WT} {we : WE} {vs : List Nat} {sd : SD} {S : SO} {Q : KD}
/-- a list comprehension whose element may change objects: what is asked where the source is known -/
def LcJ (nt : NT) (tt : WT) (we : WE) (vs : List Nat) (R : Addr → SO → Prop) (sd : SD) (J : ItD) (S1 : SO) : Prop := ∀ p, S1 p = none → ∃ Pv : Nat → SO → Prop, Pv 0 (S1.set p (.lst [])) ∧ (∀ i S, Pv i S → J.ok S) ∧
  (∀ i d S, J.items[i]? = some d → Pv i S → putNT nt d (wipeD sd vs) fun sd2 => upT tt sd2 S fun b S2 => if b = true then up we sd2 S2 fun y S3 => ∃ acc, S3 p = some (.lst acc) ∧ acc.length ≤ 1000000 ∧ Pv (i + 1) (S3.set p (.lst (acc ++ [y]))) else Pv (i + 1) S2) ∧
  (∀ S, Pv J.items.length S → R p S)
def FrzR (Q : KD) (p : Addr) (S' : SO) : Prop := ∃ acc, S' p = some (.lst acc) ∧ Q (.lst acc) (S'.del p)
theorem xLcF (h : wi sd S fun J S1 => LcJ nt tt we vs (FrzR Q) sd J S1) : wLcF wi nt tt we vs sd S Q := ⟨h⟩
instance st_xLcF {lw : Lv} : Step lw (wLcF wi nt tt we vs sd S Q) (wi sd S fun J S1 => LcJ nt tt we vs (FrzR Q) sd J S1) := ⟨fun h => xLcF h⟩
theorem xLcN (h : wi sd S fun J S1 => LcJ nt tt we vs (fun p S' => Q (.obj p) S') sd J S1) : wLc wi nt tt we vs sd S Q := ⟨h⟩
instance st_xLcN {lw : Lv} : Step lw (wLc wi nt tt we vs sd S Q) (wi sd S fun J S1 => LcJ nt tt we vs (fun p S' => Q (.obj p) S') sd J S1) := ⟨fun h => xLcN h⟩
end
/-- a value of any kind, each part of at most m items -/
inductive Any (m : Nat) : D → Prop
  | non : Any m .non
  | bl (b : Bool) : Any m (.bl b)
  | int (i : Int) : Any m (.int i)
  | str (x : Str) (h : PyData.canLay0 (.str x) = true ∧ x.length ≤ m) : Any m (.str x)
  | tup (xs : List D) (hl : xs.length ≤ m) (h : ∀ x ∈ xs, Any m x) : Any m (.tup xs)
  | tf (xs : List D) (hl : xs.length ≤ m) (h : ∀ x ∈ xs, Any m x) : Any m (.tf xs)
  | lst (xs : List D) (hl : xs.length ≤ m) (h : ∀ x ∈ xs, Any m x) : Any m (.lst xs)
  | dic (t : Bool) : Any m (.dic t [])
end L2.DL

/-! DL25: sorted(..) of lists and tuples of texts, of ints -/
namespace L2.DL
open PySem PySem.Spec PyProof.Rows
section
variable {prog : Program} {w : World} {A : Around} {E : Value → Shared → Prop} {s : Shared}
end
section
variable {X : Cx}
end
end L2.DL

/-! DL26: zip(t, u) of tuples -/
namespace L2.DL
open PySem PySem.Spec PyProof.Rows
def zipD (xs ys : List D) : List D := List.zipWith (fun x y => .tup [x, y]) xs ys
def wZip (t : WA) : WI := fun sd S R => t sd S fun xs S1 => two2 xs fun d1 d2 => ∃ ys zs, asTup d1 = some ys ∧ asTup d2 = some zs ∧ R ⟨zipD ys zs, fun _ => True⟩ S1
/-! steps -/
section
variable {sd : SD} {S : SO} {R : ItD → SO → Prop} {t : WA} {xs ys : List D} {d e : D}
def ZipK (d1 d2 : D) (R : List D → Prop) : Prop := ∃ ys zs, asTup d1 = some ys ∧ asTup d2 = some zs ∧ R (zipD ys zs)
theorem xZip (h : t sd S fun xs S1 => two2 xs fun d1 d2 => ZipK d1 d2 fun l => R ⟨l, fun _ => True⟩ S1) : wZip t sd S R := h
instance st_xZip {lw : Lv} : Step lw (wZip t sd S R) (t sd S fun xs S1 => two2 xs fun d1 d2 => ZipK d1 d2 fun l => R ⟨l, fun _ => True⟩ S1) := ⟨fun h => xZip h⟩
end
end L2.DL

/-! DL27: f-strings, the truth of own instances, makings by keyword and with a default of the top, own == with values of any kind -/
namespace L2.DL
open PySem PySem.Spec PyProof.Rows
section
variable {X : Cx}
/-! ### f-strings -/
/-! ### the truth of an own instance that has __len__ -/
variable {CX : CXT} {k : Nat} {g f C : Addr} {fd : FuncData} {ps ks : List Str} {dsp : DSp}
/-! ### C(k = v, ..), all parameters by keyword -/
/-! ### C(..) with a default that the top has written -/
/-! ### own == with a value of any kind -/
end
end L2.DL

/-! DL28: list.pop(i), tuple.count(x) of texts -/
namespace L2.DL
open PySem PySem.Spec PyProof.Rows
section
variable {X : Cx}
end
end L2.DL

/-! DL29: xs[::-1] of lists, list(range(n)) -/
namespace L2.DL
open PySem PySem.Spec PyProof.Rows
section
variable {X : Cx}
def wRevL (we : WE) : WE := fun sd S Q => we sd S fun d S1 => ∃ xs, lstX S1 d = some xs ∧ Q (.lst xs.reverse) S1
theorem de_revL {e : Expr} {we : WE} {k : Nat} {p1 p2 p3 pos : Pos} (he : DE X e we) : DE X (.Subscript e (.Slice none none (some (.UnaryOp .USub (.Constant (.int 1) k p1) p2)) p3) pos) (wRevL we) :=
  pe_imp (pe_revL he) fun σ H Q ⟨sd, S, Q0, st, q, an⟩ => ⟨sd, S, _, st, q, fun d S1 v H1 ⟨xs, hx, q1⟩ n1 s1 r1 => by
    obtain ⟨a, vs, rfl, hq, rv⟩ := lstX_at s1 r1 hx
    exact ⟨a, vs, rfl, hq, fun p hp => an _ _ _ _ q1 (n1.trans (nx_new hp)) (s1.new hp) ⟨p, vs.reverse, rfl, s1.free hp, upd_same, (revs rv).nx (nx_new hp)⟩⟩⟩
theorem xRevL {we : WE} {sd : SD} {S : SO} {Q : KD} (h : we sd S fun d S1 => ∃ xs, lstX S1 d = some xs ∧ Q (.lst xs.reverse) S1) : wRevL we sd S Q := h
end
end L2.DL

/-! DL30: a, b = a list -/
namespace L2.DL
open PySem PySem.Spec PyProof.Rows
section
variable {X : Cx} {pos : Pos}
def gTl (n : Nat) (r : WGs) : WG := fun d sd S Q => ∃ xs, lstX S d = some xs ∧ xs.length = n ∧ r xs sd S Q
theorem xGTl {n : Nat} {r : WGs} {xs : List D} {sd : SD} {S : SO} {Q : SD → SO → Prop} (h : r xs sd S Q) (hl : xs.length = n := by with_unfolding_all rfl) : gTl n r (.lst xs) sd S Q := ⟨xs, rfl, hl, h⟩
end
end L2.DL

/-! DL31: name = {k: v for ..}, stored within the comprehension -/
namespace L2.DL
open PySem PySem.Spec PyProof.Rows
section
variable {X : Cx}
end
end L2.DL

/-! DL32: str(int); what a class's == must know of other kinds -/
namespace L2.DL
open PySem PySem.Spec PyProof.Rows
section
variable {X : Cx}
end
end L2.DL

/-! DL33: + of tuples made here or there, neither empty -/
namespace L2.DL
open PySem PySem.Spec PyProof.Rows
section
variable {X : Cx}
end
end L2.DL

/-! DL34: a list of anything != [] -/
namespace L2.DL
open PySem PySem.Spec PyProof.Rows
section
variable {X : Cx}
def oNeL : WO := fun x y S Q => ∃ xs, lstX S x = some xs ∧ y = .lst [] ∧ Q (.bl (!xs.isEmpty)) S
theorem do_neL (hu : X.A.units + 65 < cLine) : DO2 X (compareOp .NotEq) oNeL := by
  intro pins s σ H x y v u Q I rx ry ⟨dx, dy, S, Q0, sr, r1, r2, q, an⟩
  obtain ⟨xs, hx, rfl, q⟩ := q
  obtain ⟨a, vs, rfl, hq, rv⟩ := lstX_at sr r1 hx
  obtain ⟨b, us, rfl, hn, hb, ru⟩ := r2
  have eu : us = [] := ru
  subst eu
  cases rx
  cases ry
  obtain ⟨its, r, pl, hz⟩ := I.list hq
  obtain ⟨its2, r3, pl2, hz2⟩ := I.list (xs := []) (.of hb)
  have e2 : its2 = [] := by cases r3; rfl
  subst e2
  have h1 := rv.length
  have h2 := r.length
  cases xs with
  | nil =>
    have h0 : its = [] := by
      have : its.length = 0 := by rw [← h2, ← h1]; rfl
      exact List.length_eq_zero_iff.mp this
    subst h0
    refine SeqAt.RcNeAt.lists (e := fun _ => true) pl.isList pl2.isList rfl (by omega) (fun j _ h => absurd h (Nat.not_lt_zero _)) X.prog X.w X.xe _ ?_
    exact ⟨.bl _, H, I, rfl, ansd (.bl _) sr an q rfl⟩
  | cons x xs =>
    rw [List.length_cons] at h1
    have hne : its.length ≠ 0 := by omega
    refine SeqAt.RcNeAt.lists_lengths pl.isList pl2.isList (by show (its.length != 0) = true; simpa using hne) (by omega) X.prog X.w X.xe _ ?_
    exact ⟨.bl _, H, I, rfl, ansd (.bl _) sr an q rfl⟩
end
end L2.DL

/-! DL35: list.remove(number); a statement behind which an object is frozen or forgotten -/
namespace L2.DL
open PySem PySem.Spec PyProof.Rows
section
variable {X : Cx}
/-! ### frozen, forgotten behind a statement -/
structure Wk (sd : SD) (S : SO) (sd0 : SD) (S0 : SO) : Prop where
  sub : ∀ a, S a = none → S0 a = none
  sta : ∀ K σ H, Sta K sd S σ H → Sta K sd0 S0 σ H
theorem Wk.refl (sd : SD) (S : SO) : Wk sd S sd S := ⟨fun _ h => h, fun _ _ _ h => h⟩
theorem Wk.trans {sd sd1 sd2 : SD} {S S1 S2 : SO} (a : Wk sd S sd1 S1) (b : Wk sd1 S1 sd2 S2) : Wk sd S sd2 S2 := ⟨fun x h => b.sub x (a.sub x h), fun K σ H h => b.sta K σ H (a.sta K σ H h)⟩
def SlF (p : Addr) (ds : List D) : SD → SD → Prop
  | [], [] => True
  | a :: as, b :: bs => (b = a ∨ b = none ∨ (a = some (.obj p) ∧ b = some (.lst ds))) ∧ SlF p ds as bs
  | _, _ => False
theorem SlF.len {p : Addr} {ds : List D} : ∀ {a b : SD}, SlF p ds a b → b.length = a.length
  | [], [], _ => rfl
  | _ :: as, _ :: bs, h => by rw [List.length_cons, List.length_cons, SlF.len h.2]
  | [], _ :: _, h => h.elim
  | _ :: _, [], h => h.elim
theorem SlF.get {p : Addr} {ds : List D} : ∀ {a b : SD} {i : Nat} {d : D}, SlF p ds a b → b[i]? = some (some d) → a[i]? = some (some d) ∨ (a[i]? = some (some (.obj p)) ∧ d = .lst ds)
  | [], [], i, d, _, e => by simp at e
  | x :: as, y :: bs, 0, d, h, e => by
    have e : y = some d := Option.some.inj e
    rcases h.1 with h1 | h1 | ⟨h1, h2⟩
    · exact .inl (by rw [← h1, e]; rfl)
    · rw [h1] at e
      cases e
    · rw [h2] at e
      cases e
      exact .inr ⟨by rw [h1]; rfl, rfl⟩
  | x :: as, y :: bs, i + 1, d, h, e => SlF.get (i := i) h.2 e
  | [], _ :: _, _, _, h, _ => h.elim
  | _ :: _, [], _, _, h, _ => h.elim
theorem Wk.lst {sd sd0 : SD} {S : SO} {p : Addr} {ds : List D} (h : S p = some (.lst ds)) (hs : SlF p ds sd sd0) : Wk sd S sd0 (S.del p) := by
  refine ⟨fun a e => by unfold SO.del; split; rfl; exact e, fun K σ H st => ?_⟩
  obtain ⟨n, s2, r2⟩ := frz_lst st.s h
  refine ⟨s2, hs.len.trans st.r.1, fun i d e => ?_⟩
  rcases hs.get e with e1 | ⟨e1, rfl⟩
  · obtain ⟨v, e', r⟩ := st.r.2 i d e1
    exact ⟨v, e', Rel.nx n _ _ r⟩
  · obtain ⟨v, e', r⟩ := st.r.2 i _ e1
    have er : v = .ref p := r
    subst er
    exact ⟨_, e', r2⟩
/-- objects are forgotten -/
theorem Wk.to {sd : SD} {S S0 : SO} (h : ∀ a o, S0 a = some o → S a = some o) : Wk sd S sd S0 := by
  have sub : ∀ a, S a = none → S0 a = none := fun a e => by
    cases q : S0 a with
    | none => rfl
    | some o =>
      rw [h a o q] at e
      cases e
  refine ⟨sub, fun K σ H st => ?_⟩
  have n : Nx S H S0 H := fun a u h1 h2 => ⟨sub a h1, h2⟩
  exact st.nx n fun a o q => (st.s a o (h a o q)).nx n rfl
def ClS (n : SD → SO → Prop) : SD → SO → Prop := fun sd' S' => ∃ sd0 S0, Wk sd' S' sd0 S0 ∧ n sd0 S0
def wCl (w : WS) : WS := fun E sd S => w { E with nx := ClS E.nx } sd S
theorem ds_cl {st : Stmt} {w : WS} (h : DS X st w) : DS X st (wCl w) :=
  ps_imp h fun E σ H ⟨sd, S, E0, st, q, an⟩ => ⟨sd, S, _, st, q, ⟨fun sd' S' σ' H' ⟨sd0, S0, wk, q0⟩ n st' => an.nx sd0 S0 σ' H' q0 (fun a o h1 h2 => let ⟨x, y⟩ := n a o h1 h2; ⟨wk.sub a x, y⟩) (wk.sta _ _ _ st'), an.rt, an.bk, an.ct⟩⟩
theorem xCl {a : WS} {n bk ct : SD → SO → Prop} {r : KD} {sd : SD} {S : SO} (h : a ⟨ClS n, r, bk, ct⟩ sd S) : wCl a ⟨n, r, bk, ct⟩ sd S := h
instance st_xCl {lw : Lv} {a : WS} {n bk ct : SD → SO → Prop} {r : KD} {sd : SD} {S : SO} : Step lw (wCl a ⟨n, r, bk, ct⟩ sd S) (a ⟨ClS n, r, bk, ct⟩ sd S) := ⟨fun h => xCl h⟩
/-! a typed while -/
section
variable {σ : Type} {c : WT} {b : WS} {n bk ct : SD → SO → Prop} {r : KD} {sd : SD} {S : SO}
end
end
end L2.DL

/-! DL36: list * n as a list that changes; list.count(None) -/
namespace L2.DL
open PySem PySem.Spec PyProof.Rows
section
variable {X : Cx}
/-! numbers or None -/
def onD : Option Nat → D
  | none => .non
  | some i => .int (i : Nat)
instance : InjD onD := ⟨fun a b e => by
  cases a <;> cases b
  · rfl
  · cases e
  · cases e
  · unfold onD at e
    injection e with e
    congr 1
    omega⟩
end
end L2.DL

/-! DL37: + of tuples, neither empty, the sum laid as .tf -/
namespace L2.DL
open PySem PySem.Spec PyProof.Rows
section
variable {X : Cx}
end
end L2.DL

/-! DL38: list.extend -/
namespace L2.DL
open PySem PySem.Spec PyProof.Rows
section
variable {X : Cx}
end
end L2.DL

/-! DL39: dict.update(dict) -/
namespace L2.DL
open PySem PySem.Spec PyProof.Rows
section
variable {X : Cx}
theorem RelK.len {K : PySem.W.Frag} {S : SO} {H : Hp} : ∀ {ys : List (D × D)} {l : List (Key × V)}, RelK K S H ys l → ys.length = l.length
  | [], l, h => by
    have e : l = [] := h
    subst e
    rfl
  | (k, d) :: ys, l, h => by
    obtain ⟨q, v, r, rfl, _, _, h2⟩ := h
    rw [List.length_cons, List.length_cons, RelK.len h2]
end
end L2.DL

/-! DL40: tuple * int -/
namespace L2.DL
open PySem PySem.Spec PyProof.Rows
section
variable {X : Cx}
end
end L2.DL

/-! DL41: sorted(set(xs)) of texts, of ints -/
namespace L2.DL
open PySem PySem.Spec PyProof.Rows
/-- the elements of a set, by keys of one kind -/
structure SK (P : Program) (w : World) (K : Type) [DecidableEq K] where
  κ : PySem.KeyKind P w K
  val : K → Tok → Value
  key : Value → K
  keyV : ∀ k t, key (val k t) = k
  isV : ∀ k t, κ.is k (val k t) = true
  scn : ∀ k t, (val k t).scannable = true
section
variable {P : Program} {w : World} {K : Type} [DecidableEq K] {Z : SK P w K}
theorem SK.is_iff (Z : SK P w K) {k j : K} {u : Tok} : Z.κ.is j (Z.val k u) = true ↔ k = j := by
  rw [PySem.KeyKind.is_eq_decide (Z.isV k u) j, decide_eq_true_iff]
  exact eq_comm
abbrev SEs := Array (Int × Value)
def SK.keys (Z : SK P w K) (l : SEs) : List K := l.toList.map fun e => Z.key e.2
/-- the payload holds the keys of M, n of them, and can be walked -/
structure SK.Tb (Z : SK P w K) (l : SEs) (t : SetTable) (M : K → Bool) (n : Nat) : Prop where
  el : ∀ e ∈ l.toList, ∃ k u, e = (Z.κ.hash k, Z.val k u)
  nd : (Z.keys l).Nodup
  mem : ∀ k, M k = true ↔ k ∈ Z.keys l
  fit : t.fits l.size = true
  sz : l.size = n
  ris : Ris t.place.toList
  led : w.params.followText "set-order" = true ∨ t.led = true
theorem SK.Tb.mv {l l2 : SEs} {t t2 : SetTable} {M : K → Bool} {n : Nat} (T : Z.Tb l t M n) (p : List.Perm l2.toList l.toList) (hf : t2.fits l2.size = true) (hr : Ris t2.place.toList) (hl : t2.led = t.led) : Z.Tb l2 t2 M n :=
  ⟨fun e he => T.el e (p.mem_iff.mp he), (p.map _).nodup_iff.mpr T.nd, fun k => (T.mem k).trans (p.map _).mem_iff.symm, hf, by rw [← T.sz, ← Array.length_toList, p.length_eq, Array.length_toList], hr, hl ▸ T.led⟩
theorem SK.Tb.add {l l2 : SEs} {t t2 : SetTable} {M : K → Bool} {n : Nat} {k : K} {u : Tok} (T : Z.Tb l t M n) (hk : M k = false) (p : List.Perm l2.toList ((Z.κ.hash k, Z.val k u) :: l.toList)) (hf : t2.fits l2.size = true) (hr : Ris t2.place.toList) (hl : t2.led = t.led) : Z.Tb l2 t2 (fun j => M j || decide (j = k)) (n + 1) := by
  have pk : (Z.keys l2).Perm (k :: Z.keys l) := by
    have := p.map fun e => Z.key e.2
    rwa [List.map_cons, Z.keyV] at this
  have hn : k ∉ Z.keys l := fun h => by
    rw [(T.mem k).mpr h] at hk
    cases hk
  refine ⟨fun e he => ?_, pk.nodup_iff.mpr (List.nodup_cons.mpr ⟨hn, T.nd⟩), fun j => ?_, hf, ?_, hr, hl ▸ T.led⟩
  · rcases List.mem_cons.mp (p.mem_iff.mp he) with h | h
    · exact ⟨k, u, h⟩
    · exact T.el e h
  · rw [pk.mem_iff, List.mem_cons, Bool.or_eq_true, decide_eq_true_iff, T.mem j, or_comm]
  · rw [← T.sz, ← Array.length_toList, p.length_eq, List.length_cons, Array.length_toList]
theorem SK.Tb.elems {l : SEs} {t : SetTable} {M : K → Bool} {n : Nat} (T : Z.Tb l t M n) : ElemsOf Z.κ l.toList := fun e he => by
  obtain ⟨k, u, rfl⟩ := T.el e he
  exact ⟨⟨k, Z.isV k u, rfl⟩, Z.scn k u⟩
theorem SK.Tb.has {l : SEs} {t : SetTable} {M : K → Bool} {n : Nat} (T : Z.Tb l t M n) (k : K) : M k = true ↔ ∃ e ∈ l.toList, Z.κ.is k e.2 = true := by
  rw [T.mem k]
  unfold SK.keys
  rw [List.mem_map]
  constructor
  · rintro ⟨e, he, h⟩
    obtain ⟨j, u, rfl⟩ := T.el e he
    have h : Z.key (Z.val j u) = k := h
    rw [Z.keyV] at h
    exact ⟨_, he, Z.is_iff.mpr h⟩
  · rintro ⟨e, he, h⟩
    obtain ⟨j, u, rfl⟩ := T.el e he
    exact ⟨_, he, (Z.keyV j u).trans (Z.is_iff.mp h)⟩
/-- the set at a -/
def SK.Is (Z : SK P w K) (h : Heap) (a : Addr) (M : K → Bool) (n : Nat) : Prop := ∃ o l ep t, h.get? a = some o ∧ o.ExactSet ∧ o.data = .set l ep t ∧ Z.Tb l t M n
theorem SK.Is.at {h h' : Heap} {a : Addr} {M : K → Bool} {n : Nat} (R : Z.Is h a M n) (k : ∀ o, h.get? a = some o → h'.get? a = some o) : Z.Is h' a M n := by
  obtain ⟨o, l, ep, t, g, r⟩ := R
  exact ⟨o, l, ep, t, k o g, r⟩
theorem SK.Is.eqv {h : Heap} {a : Addr} {M M' : K → Bool} {n : Nat} (R : Z.Is h a M n) (e : ∀ k, M' k = M k) : Z.Is h a M' n := (funext e : M' = M) ▸ R
variable {A : Around} {E : Value → Shared → Prop} {s : Shared} {a : Addr} {M : K → Bool} {n : Nat}
theorem put_at {h : Heap} {o : Obj} {l l2 : SEs} {ep : Nat} {t t2 : SetTable} (g : h.get? a = some o) (e : o.data = .set l ep t) : (h.update a (Obj.putSet l2 t2)).get? a = some { o with data := .set l2 (ep + 1) t2 } := by
  rw [← putSet_of l2 t2 e]
  exact Heap.get?_update_self (Obj.putSet l2 t2) g (by rw [putSet_of l2 t2 e]; rfl)
theorem SK.tail {g : Bool → Sem Unit} (hg : ∀ (b : Bool) (s1 : Shared) (Q1 : Unit → Shared → Prop), Q1 () s1 → wpAny (model P w) A (g b) Q1 E s1) {o : Obj} {l0 l : SEs} {ep : Nat} {t0 t : SetTable} (h1 : s.heap.get? a = some o) (h2 : o.ExactSet) (h3 : o.data = .set l0 ep t0)
    (T : Z.Tb l t M n) (hb : n < scanBound) {wd : Bool} {R : Option Bool → Shared → Prop} (hR : ∀ h', Heap.SameBut a s.heap h' → Z.Is h' a M n → R (some true) { s with heap := h' }) :
    wpAny (model P w) A (storeSet a l t >>= fun _ => if (!wd && t.tooFull) = true then g (relayAll t l (SetTable.grown l.size)).2.2 >>= fun _ => storeSet a (relayAll t l (SetTable.grown l.size)).1 (relayAll t l (SetTable.grown l.size)).2.1 >>= fun _ => pure (some true) else pure (some true)) R E s := by
  have few : ∀ {l2 : SEs}, l2.size = n → l2.size < scanBound := fun e => e ▸ hb
  refine wpAny_bind (wpAny_storeSet_of h1 h3 ?_ (fits_of_scanBound (few T.sz)))
  have g1 := put_at (l2 := l) (t2 := t) h1 h3
  have b1 := Heap.SameBut.update s.heap a (Obj.putSet l t)
  by_cases c : (!wd && t.tooFull) = true
  · rw [if_pos c]
    have T2 : Z.Tb (relayAll t l (SetTable.grown l.size)).1 (relayAll t l (SetTable.grown l.size)).2.1 M n := T.mv (relayAll_perm ..) (relayAll_fits ..) (relayAll_ris ..) (relayAll_led ..)
    refine wpAny_bind (hg _ _ _ (wpAny_bind (wpAny_storeSet_of g1 rfl ?_ (fits_of_scanBound (few T2.sz)))))
    exact wpAny_pure (hR _ (b1.trans (Heap.SameBut.update _ a _)) ⟨_, _, _, _, put_at g1 rfl, h2, rfl, T2⟩)
  · rw [if_neg c]
    exact wpAny_pure (hR _ b1 ⟨_, _, _, _, g1, h2, rfl, T⟩)
theorem SK.put {k : K} {u : Tok} {Q : Bool → Shared → Prop} (R : Z.Is s.heap a M n) (room : n + 1 < scanBound)
    (hQ : ∀ h', Heap.SameBut a s.heap h' → Z.Is h' a (fun j => M j || decide (j = k)) (if M k = true then n else n + 1) → Q (!M k) { s with heap := h' }) : wpAny (model P w) A (setAddHashed a (Z.val k u) (Z.κ.hash k)) Q E s := by
  obtain ⟨o, l, ep, t, h1, h2, h3, T⟩ := R
  have hb : l.size < scanBound := by rw [T.sz]; omega
  have quiet : ∀ (b : Bool) (s1 : Shared) (Q1 : Unit → Shared → Prop), Q1 () s1 → wpAny (model P w) A (match b with | true => rule "set.scan.the-table-gave-way" | false => pure ()) Q1 E s1 := fun b s1 Q1 q => by
    cases b
    · exact wpAny_pure q
    · exact wpAny_rule q
  unfold setAddHashed setAddHashedIn
  refine wpAny_holding (wpAny_bind (wpAny_setState_of h1 h3 T.fit ?_))
  dsimp only
  rw [byScan_of (Z.scn k u) hb T.elems]
  simp only [↓reduceIte]
  unfold setAddByScan
  refine wpAny_bind (wpAny_bind (wpAny_rule (wpAny_bind (wpAny_setScan_of (Z.isV k u) h1 h3 T.fit T.elems ?_))))
  cases hM : M k with
  | true =>
    obtain ⟨e, he, hi⟩ := (T.has k).mp hM
    cases f : List.findIdx? (fun e => Z.κ.is k e.2) l.toList with
    | none =>
      have := List.findIdx?_eq_none_iff.mp f e he
      rw [hi] at this
      cases this
    | some j =>
      dsimp only
      have q := hQ s.heap (Heap.SameBut.refl a s.heap) (by
        rw [if_pos hM]
        refine SK.Is.eqv ⟨o, l, ep, t, h1, h2, h3, T⟩ fun j => ?_
        by_cases c : j = k
        · subst c
          rw [hM]
          rfl
        · rw [decide_eq_false c, Bool.or_false])
      rw [hM] at q
      exact wpAny_pure (wpAny_pure q)
  | false =>
    cases f : List.findIdx? (fun e => Z.κ.is k e.2) l.toList with
    | some j =>
      obtain ⟨hj, pj, _⟩ := List.findIdx?_eq_some_iff_getElem.mp f
      have := (T.has k).mpr ⟨_, List.getElem_mem hj, pj⟩
      rw [hM] at this
      cases this
    | none =>
      dsimp only
      have pm := layNew_perm t l (Z.κ.hash k) (Z.val k u)
      rw [Array.toList_push] at pm
      have T2 : ∀ t2 : SetTable, t2.fits (layNew t l (Z.κ.hash k) (Z.val k u)).1.size = true → t2.place = (layNew t l (Z.κ.hash k) (Z.val k u)).2.1.place → t2.led = (layNew t l (Z.κ.hash k) (Z.val k u)).2.1.led → Z.Tb (layNew t l (Z.κ.hash k) (Z.val k u)).1 t2 (fun j => M j || decide (j = k)) (n + 1) := fun t2 f p e =>
        T.add hM (pm.trans (List.perm_append_singleton _ _)) f (p ▸ layNew_ris t l (Z.κ.hash k) (Z.val k u) T.ris) (e.trans (layNew_led t l (Z.κ.hash k) (Z.val k u)))
      have f1 := layNew_fits t l (Z.κ.hash k) (Z.val k u)
      have fin : ∀ h', Heap.SameBut a s.heap h' → Z.Is h' a (fun j => M j || decide (j = k)) (n + 1) → Q true { s with heap := h' } := fun h' sb r => by
        have q := hQ h' sb
        rw [hM] at q
        exact q r
      generalize layNew t l (Z.κ.hash k) (Z.val k u) = N at T2 f1 ⊢
      obtain ⟨l1, t1, wd, gave⟩ := N
      dsimp only at T2 f1 ⊢
      refine wpAny_bind (quiet _ _ _ ?_)
      have last : ∀ h', Heap.SameBut a s.heap h' → Z.Is h' a (fun j => M j || decide (j = k)) (n + 1) → wpAny (model P w) A (match some true with | some added => pure added | none => setAddHashedIn a (Z.val k u) (Z.κ.hash k) 99999) Q E { s with heap := h' } := fun h' sb r => wpAny_pure (fin h' sb r)
      split
      · refine wpAny_bind ?_
        rw [hashByValue_scannable 8 (Z.scn k u)]
        refine wpAny_pure (SK.tail (fun b s1 Q1 q => ?_) h1 h2 h3 (M := fun j => M j || decide (j = k)) (n := n + 1) ?_ room fun h' sb r => last h' sb r)
        · cases b
          · exact wpAny_pure q
          · exact wpAny_rule q
        · split
          · exact T2 _ f1 rfl rfl
          · exact T2 _ (SetTable.fits_plain_off f1) rfl rfl
      · refine wpAny_bind (wpAny_pure ?_)
        simp only [↓reduceIte]
        refine SK.tail (fun b s1 Q1 q => ?_) h1 h2 h3 (T2 _ f1 rfl rfl) room fun h' sb r => last h' sb r
        cases b
        · exact wpAny_pure q
        · exact wpAny_rule q
abbrev obS (w : World) : Obj := { cls := .type "set", dict := none, data := .set #[] 0 (.fresh 0 0 (!w.params.followText "set-order")) }
theorem SK.fresh {h : Heap} {ks : List K} (g : h.get? a = some (obS w)) : Z.Is h a (fun j => decide (j ∈ ks.take 0)) 0 :=
  ⟨_, #[], 0, _, g, ⟨rfl, rfl, rfl⟩, rfl, ⟨fun e he => by simp at he, List.nodup_nil, fun k => by simp [SK.keys], rfl, rfl, .nil, by
    cases c : w.params.followText "set-order"
    · exact .inr rfl
    · exact .inl rfl⟩⟩
end
end L2.DL

/-! DL42: sorted(set(xs)) as a rule -/
namespace L2.DL
open PySem PySem.Spec PyProof.Rows
section
variable {X : Cx} {K : Type} [DecidableEq K]
end
end L2.DL

/-! DL43: len(set(t)), t a tuple of texts -/
namespace L2.DL
open PySem PySem.Spec PyProof.Rows
section
variable {P : Program} {w : World} {K : Type} [DecidableEq K] {Z : SK P w K} {A : Around} {E : Value → Shared → Prop} {s : Shared} {a : Addr} {M : K → Bool} {n : Nat}
theorem SK.Is.count {h : Heap} {ks : List K} (R : Z.Is h a (fun j => decide (j ∈ ks)) n) (nd : ks.Nodup) : n = ks.length := by
  obtain ⟨o, l, ep, t, _, _, _, T⟩ := R
  have pm : (Z.keys l).Perm ks := (List.perm_ext_iff_of_nodup T.nd nd).mpr fun k => (T.mem k).symm.trans decide_eq_true_iff
  have := pm.length_eq
  unfold SK.keys at this
  rw [List.length_map, Array.length_toList, T.sz] at this
  exact this
end
section
variable {X : Cx} {K : Type} [DecidableEq K]
end
end L2.DL

/-! DL44: dict(zip(ks, xs)) of two lists, the keys texts -/
namespace L2.DL
open PySem PySem.Spec PyProof.Rows
section
variable {K : PySem.W.Frag} {S : SO} {H : Hp}
end
section
variable {X : Cx}
end
end L2.DL

/-! DL45: xs[k::m] of lists; list + list as a list that changes -/
namespace L2.DL
open PySem PySem.Spec PyProof.Rows
section
variable {X : Cx}
/-! ### + as a new object -/
/-! ### xs[k::m] -/
end
end L2.DL

/-! DL46: dicts locked behind a statement (.fd), d.items() of these, d != {}, d.setdefault -/
namespace L2.DL
open PySem PySem.Spec PyProof.Rows
/-! ### locked behind a statement -/
section
variable {X : Cx}
end
section
variable {X : Cx}
end
/-! ### items -/
section
variable {X : Cx} {pins : List (Addr × Obj)} {σ : St} {H : Hp} {s : Shared} {d : Addr} {o : Obj}
end
section
variable {P : Program} {w : World} {K : PySem.W.Frag} {d : Addr} {o : Obj} {es : Array DictEntry} {ep : Nat}
end
section
variable {X : Cx} {e : Expr} {td : TE} {apos cpos : Pos}
end
end L2.DL

/-! DL47: over data: d.items() of a locked dict, d != {}, d.setdefault(k, x) -/
namespace L2.DL
open PySem PySem.Spec PyProof.Rows
section
variable {K : PySem.W.Frag} {S : SO} {H : Hp}
theorem RelK.at : ∀ {kvs : List (D × D)} {l : List (Key × V)} {i : Nat} {q : Key} {v : V}, RelK K S H kvs l → l[i]? = some (q, v) → ∃ d, kvs[i]? = some (keyD q, d) ∧ Rel K S H d v
  | [], l, i, q, v, h, e => by
    have el : l = [] := h
    subst el
    simp at e
  | (k, d) :: kvs, l, 0, q, v, h, e => by
    obtain ⟨q', v', r, rfl, rfl, h1, h2⟩ := h
    cases e
    exact ⟨d, rfl, h1⟩
  | (k, d) :: kvs, l, i + 1, q, v, h, e => by
    obtain ⟨q', v', r, rfl, rfl, h1, h2⟩ := h
    exact RelK.at (i := i) h2 e
theorem RelT.at : ∀ {kvs : List (D × D)} {l : List (List Key × V)} {i : Nat} {q : List Key} {v : V}, RelT K S H kvs l → l[i]? = some (q, v) → ∃ d, kvs[i]? = some (.tup (q.map keyD), d) ∧ Rel K S H d v
  | [], l, i, q, v, h, e => by
    have el : l = [] := h
    subst el
    simp at e
  | (k, d) :: kvs, l, 0, q, v, h, e => by
    obtain ⟨q', v', r, rfl, rfl, h1, h2⟩ := h
    cases e
    exact ⟨d, rfl, h1⟩
  | (k, d) :: kvs, l, i + 1, q, v, h, e => by
    obtain ⟨q', v', r, rfl, rfl, h1, h2⟩ := h
    exact RelT.at (i := i) h2 e
theorem key_rel (q : Key) : Rel K S H (keyD q) (kV q) := by
  cases q <;> exact rfl
end
section
variable {X : Cx} {e : Expr} {we : WE} {apos cpos : Pos}
/-! ### d != {} -/
/-! ### d.setdefault(k, x) -/
/-! ### d.get(k, x) -/
/-! ### name = {k: v for ..}, the dict an object -/
end
end L2.DL

/-! DL48: dict comprehensions with two for -/
namespace L2.DL
open PySem PySem.Spec PyProof.Rows
section
variable {prog : Program} {w : World} {A : Around} {R : Result → Shared → Prop} {s : Shared} {kx vx t0 i0 t1 i1 : Expr} {ifs0 ifs1 : List Expr} {scope : Scope} {pos : Pos} {it : Value} {D : Addr} {env : Env}
end

section
variable {X : Cx}
/-! ### .. over data -/
end
end L2.DL

/-! DL49: {**a, **b} of locked dicts with keys ints and texts, list(dict), for key in dict -/
namespace L2.DL
open PySem PySem.Spec PyProof.Rows
/-! ### a dict merged into another one by a display -/
section
variable {prog : Program} {w : World} {A : Around} {E : Value → Shared → Prop} {s : Shared}
end
section
variable {X : Cx}
/-! ### .. over data -/
/-! ### for key in a locked dict -/
def kysD (kvs : List (D × D)) : List D := kvs.map (·.1)
/-! ### list(dict) -/
theorem RelK.keys {K : PySem.W.Frag} {S : SO} {H : Hp} : ∀ {ys : List (D × D)} {l : List (Key × V)}, RelK K S H ys l → Rels K S H (kysD ys) (l.map fun p => kV p.1)
  | [], l, h => by
    have e : l = [] := h
    subst e
    rfl
  | (k, d) :: ys, l, h => by
    obtain ⟨q, v, r, rfl, rfl, _, h2⟩ := h
    exact ⟨_, _, rfl, key_rel q, RelK.keys (ys := ys) h2⟩
end
end L2.DL

/-! DL50: list(d.values()) of a locked dict, range(a, b, -1), dict(pairs) as an object -/
namespace L2.DL
open PySem PySem.Spec PyProof.Rows
def vlsD (kvs : List (D × D)) : List D := kvs.map (·.2)
theorem RelK.vals {K : PySem.W.Frag} {S : SO} {H : Hp} : ∀ {ys : List (D × D)} {l : List (Key × V)}, RelK K S H ys l → Rels K S H (vlsD ys) (l.map fun p => p.2)
  | [], l, h => by
    have e : l = [] := h
    subst e
    rfl
  | (k, d) :: ys, l, h => by
    obtain ⟨q, v, r, rfl, rfl, h1, h2⟩ := h
    exact ⟨_, _, rfl, h1, RelK.vals (ys := ys) h2⟩
section
variable {X : Cx}
/-! ### range(a, b, -1) -/
/-! ### dict(pairs), an object -/
end
/-! ### max, min of a tuple of ints -/
section
variable {prog : Program} {w : World} {A : Around} {E : Value → Shared → Prop} {s : Shared}
end
section
variable {X : Cx}
end
end L2.DL

/-! DL51: dict(zip(tuple of texts, tuple)) -/
namespace PySem
open PySem PySem.Calls PyProof.Rows PyProof.V PySem.Spec
section
variable {prog : Program} {w : World} {A : Around} {E : Value → Shared → Prop} {s : Shared}
end
section
variable {prog : Program} {w : World}
end
end PySem
namespace L2.DL
open PySem PySem.Spec PyProof.Rows
section
variable {X : Cx}
end
end L2.DL

/-! DL52: slices of a tuple of any kind, the whole one told too; + of tuples, one of them empty too -/
namespace L2.DL
open PySem PySem.Spec PyProof.Rows
section
variable {X : Cx}
def WholeS (n : Nat) (lo hi : Option Int) : Prop := HT.sIx n 0 lo = 0 ∧ HT.sIx n n hi = n
end
end L2.DL

/-! DL53: t[i:j] as a tuple known to have no dict; text.split(sep); C(..) through a parameter; C.m(..), m a classmethod -/
namespace L2.DL
open PySem PySem.Spec PyProof.Rows
section
variable {X : Cx}
/-! ### slices as .tf -/
def wSlF (we : WE) (tl th : WP) : WE := fun sd S Q => we sd S fun d S1 => tl sd S1 fun lo S2 => th sd S2 fun hi S3 => ∃ xs, asTup d = some xs ∧ ¬ WholeS xs.length lo hi ∧ Q (.tf (cutD xs lo hi)) S3
theorem sl_F : SlR X (fun x lo hi H Q => ∃ d S Q0, SRel X.K S H ∧ Rel X.K S H d x ∧ (∃ xs, asTup d = some xs ∧ ¬ WholeS xs.length lo hi ∧ Q0 (.tf (cutD xs lo hi)) S) ∧ Ans X.K S H Q0 Q) := by
  intro pins s σ H x v vl vu lo hi sl Q I rx hs pl pu ⟨d, S, Q0, sr, r, ⟨xs, e, hw, q⟩, an⟩
  obtain ⟨a, vs, e1, t, rv⟩ := asTup_at r e
  subst e1
  cases rx
  obtain ⟨its, r, ht, hz⟩ := I.tuple t
  have hlen : its.toArray.size = vs.length := by rw [List.size_toArray]; exact r.length.symm
  have hf := I.hok.fresh (Nat.le_refl _)
  refine ⟨"tuple", _, PyProof.Rows.slot_tuple_getitem.lookup, ht.typeIs, ?_⟩
  refine HT.getItem_tuple_cut ht hs pl pu (by rw [hlen, ← rv.length]; exact hw) ?_ (by rw [hlen]; exact hz)
  rw [hlen]
  refine ⟨.ref s.heap.objs.size, _, I.laid (t' := s.toks) (o := .frz { cls := .type "tuple", data := .seq ((its.toArray.toList.drop (HT.sIx vs.length 0 lo)).take (HT.sIx vs.length vs.length hi - HT.sIx vs.length 0 lo)).toArray } (.tup (cutV vs lo hi))) (fun b ob q => Heap.get?_push_of_some _ q) (Nat.le_refl _) ?_, rfl, an _ _ _ _ q (nx_new hf) (sr.new hf) ⟨_, cutV vs lo hi, rfl, ⟨sr.free hf, _, upd_same, rfl, rfl⟩, (rv.cut lo hi).nx (nx_new hf)⟩⟩
  exact ⟨Heap.get?_push_size _ rfl, Nat.le_trans (cutV_length vs lo hi) hz, _, (r.drop (HT.sIx vs.length 0 lo)).take (HT.sIx vs.length vs.length hi - HT.sIx vs.length 0 lo), IsTup.new _ _⟩
theorem de_slF {a : Expr} {lo hi : Option Expr} {we : WE} {tl th : WP} {pos p2 : Pos} (ha : DE X a we) (hl : DP X lo tl) (hh : DP X hi th) : DE X (.Subscript a (.Slice lo hi none p2) pos) (wSlF we tl th) :=
  pe_imp (pe_slice sl_F ha hl hh) fun σ H Q ⟨sd, S, Q0, st, q, an⟩ => ⟨sd, S, _, st, q, fun d S1 v H1 q1 n1 s1 r1 => ⟨sd, S1, _, st.nx n1 s1, q1, fun o S2 H2 q2 n2 s2 => ⟨sd, S2, _, (st.nx n1 s1).nx n2 s2, q2, fun o3 S3 H3 q3 n3 s3 =>
    ⟨d, S3, Q0, s3, (Rel.nx (n2.trans n3) _ _ r1), q3, an.nx (n1.trans (n2.trans n3))⟩⟩⟩⟩
theorem xSlF {we : WE} {tl th : WP} {sd : SD} {S : SO} {Q : KD} (h : we sd S fun d S1 => tl sd S1 fun lo S2 => th sd S2 fun hi S3 => ∃ xs, asTup d = some xs ∧ ¬ WholeS xs.length lo hi ∧ Q (.tf (cutD xs lo hi)) S3) : wSlF we tl th sd S Q := h
/-! ### text.split(sep) -/
def wSplit (wo we : WE) : WE := fun sd S Q => wo sd S fun d S1 => (∃ a, d = .str a) ∧ we sd S1 fun e S2 => ∃ a b : Str, d = .str a ∧ e = .str b ∧ (b.length == 0) = false ∧ a.length ≤ 1000000 ∧ Q (.lst ((Txt.split a b).map D.str)) S2
theorem de_split {o e : Expr} {wo we : WE} {apos pos : Pos} (ho : DE X o wo) (he : DE X e we) (hs : starEach [e] X.env = [(false, eval e X.env)] := by rfl) (hbase : attributeBase o "split" X.env (eval o X.env) = eval o X.env := by rfl) (hline : (apos.endLine == pos.line) = true := by rfl) :
    DE X (.Call (.Attribute o "split" apos) [e] [] pos) (wSplit wo we) :=
  pe_imp (pe_split ho he hs hbase hline) fun σ H Q ⟨sd, S, Q0, st, q, an⟩ => ⟨sd, S, _, st, q, fun d S1 v H1 ⟨⟨a, ea⟩, q1⟩ n1 s1 r1 => by
    subst ea
    have ev : v = .str a := r1
    subst ev
    refine ⟨⟨a, rfl⟩, sd, S1, _, st.nx n1 s1, q1, fun e S2 u H2 ⟨a', b, e1, e2, hb, hl, q2⟩ n2 s2 r2 => ?_⟩
    cases e1
    subst e2
    have eu : u = .str b := r2
    subst eu
    refine ⟨a, b, rfl, rfl, hb, by rw [sizeLine_eq]; omega, fun p hp => ?_⟩
    exact an _ _ _ _ q2 (n1.trans (n2.trans (nx_new hp))) (s2.new hp) ⟨p, _, rfl, s2.free hp, upd_same, (rels_of_strs _).nx (nx_new hp)⟩⟩
end
/-! ### C(..), C told by a parameter -/
section
variable {X : Cx} {CX : CXT} {k : Nat} {f C : Addr} {fd : FuncData} {ps : List Str} {sp : Sp} {dvs : List V} {ds : List Value} {E : XK} {x m : Str} {p pos apos : Pos} {e o : Expr} {es : List Expr} {ta : TE} {t : TA}
theorem peG_makeV (hc : PE X (.Name x p) ta) (M : Mk X.K C f) (F : FnG X.prog X.w X.K X.mg X.base CX k f fd ps sp) (hr : Room (k + 1) X.A) (gd : X.A.guards = some []) (hb : Binds X.K fd ps ds) (hd : Vals dvs ds) (hx : Passes CX X E)
    (ha : PA X (e :: es) t) (he : starEach (e :: es) X.env = (false, eval e X.env) :: starEach es X.env := by rfl) (hpl : (backTo pos (starEach es X.env)).any (·.1) = false := by rfl) :
    PE X (.Call (.Name x p) (e :: es) [] pos) (fun σ H Q => ta σ H fun v H1 => v = .ref C ∧ tMake C sp dvs E t σ H1 Q) := by
  refine ⟨fun pins s σ H Q I h => wpAny_Call_Name_kw (thn (hc.run pins s σ H _ I h) fun u s1 ⟨v, H1, I1, r1, e1, q1⟩ => ?_)⟩
  subst e1
  obtain rfl : u = Value.ref C := r1
  refine PySem.W.callWith_K (h₀ := X.base) I.ok.mod.kin M.kp (thn (ha.run pos pins s1 σ H1 _ I1 q1) fun us s2 ⟨vs, H2, I2, r, q⟩ => ⟨I2.kIn, ?_⟩) he hpl
  exact runMk (args := ⟨us, []⟩) (us := us ++ ds) M F hr gd hx I2 (fun s' x kx hl => hb s' (x :: us) kx hl) (r.append hd) q
/-! ### C.m(..), m a classmethod -/
variable {dsp : DSp} {dds : List D} {wt : WA} {wo wc : WE}
def wMakeV (C : Addr) (sp : DSp) (dds : List D) (wc : WE) (t : WA) : WE := fun sd S Q => wc sd S fun d S1 => d = .obj C ∧ wMakeF C sp dds t sd S1 Q
theorem de_makeV (hc : DE X (.Name x p) wc) (M : Mk X.K C f) (F : FnD X.prog X.w X.K X.mg X.base k f fd ps dsp) (hr : Room (k + 1) X.A) (gd : X.A.guards = some []) (hb : Binds X.K fd ps ds) (hd : Vals dvs ds) (hl : Lits dds dvs) (ha : DA X (e :: es) wt)
    (he : starEach (e :: es) X.env = (false, eval e X.env) :: starEach es X.env := by rfl) (hpl : (backTo pos (starEach es X.env)).any (·.1) = false := by rfl) : DE X (.Call (.Name x p) (e :: es) [] pos) (wMakeV C dsp dds wc wt) :=
  pe_imp (peG_makeV hc M F hr gd hb hd (E := E0) pass0 ha he hpl) fun σ H Q ⟨sd, S, Q0, st, q, an⟩ => ⟨sd, S, _, st, q, fun d S1 v H1 ⟨e1, q1⟩ n1 s1 r1 => by
    subst e1
    refine ⟨r1, sd, S1, _, st.nx n1 s1, q1, fun xs S2 vs H2 q2 n2 s2 r2 => fun y dx ny nd ne => ?_⟩
    obtain ⟨n3, s3⟩ := make_srel (C := C) s2 ny nd ne
    refine ⟨.obj y :: (xs ++ dds), _, _, NoE, s3, ⟨.ref y, _, rfl, rfl, (r2.nx n3).app (hl _ _ _)⟩, q2 y (s2.free ny), fun d S4 v H4 ⟨e1, fs, hS, q3⟩ n4 s4 r4 => ?_, noE_ans⟩
    subst e1
    obtain ⟨n5, s5, r5⟩ := frz_ins s4 hS
    exact ⟨r4, an _ _ _ _ q3 (n1.trans (n2.trans (n3.trans (n4.trans n5)))) s5 r5⟩⟩
theorem xMakeV {sd : SD} {S : SO} {Q : KD} (h : wc sd S fun d S1 => d = .obj C ∧ wMakeF C dsp dds wt sd S1 Q) : wMakeV C dsp dds wc wt sd S Q := h
end
end L2.DL

/-! DL54: + of tuples, the sum known to have no dict, one of them empty too -/
namespace L2.DL
open PySem PySem.Spec PyProof.Rows
section
variable {X : Cx}
theorem wh_lo {n k : Nat} : WholeS n (some (k : Int)) none ↔ min k n = 0 := by
  unfold WholeS
  rw [sIxN]
  exact ⟨fun h => h.1, fun h => ⟨h, rfl⟩⟩
end
end L2.DL

/-! DL55: C.m(k = v), m a classmethod; != of two lists whose items are equal by an own == -/
namespace L2.DL
open PySem PySem.Spec PyProof.Rows
section
variable {X : Cx} {CX : CXT} {k : Nat} {f C : Addr} {fd : FuncData} {ps ks : List Str} {sp : Sp} {dvs : List V} {ds : List Value} {E : XK} {x m : Str} {p pos apos : Pos} {e o : Expr} {es : List Expr} {kws : List Keyword} {ta : TE} {t tk : TA} {g : List Value → List Value → List Value} {gV : List V → List V → List V}
variable {dsp : DSp} {wk : WA} {wo : WE} {gD : List D → List D → List D}
end
/-- the one keyword behind the class -/
def catC {α : Type} (a b : List α) : List α := match a, b with
  | [x], [y] => [x, y]
  | _, _ => []
theorem catC_of {α : Type} {a b : List α} (h : (catC a b).length = 2) : ∃ x y, a = [x] ∧ b = [y] := by
  unfold catC at h
  split at h
  · exact ⟨_, _, rfl, rfl⟩
  · cases h
theorem catC_rel {vs zs : List V} {us ws : List Value} (h1 : Vals vs us) (h2 : Vals zs ws) : Vals (catC vs zs) (catC us ws) := by
  cases h1 with
  | nil => exact .nil
  | cons a b =>
    cases b with
    | nil =>
      cases h2 with
      | nil => exact .nil
      | cons c d =>
        cases d with
        | nil => exact .cons a (.cons c .nil)
        | cons _ _ => exact .nil
    | cons _ _ => exact .nil
theorem gd_c1 : GD catC catC := fun K S H ds vs es us h1 h2 => by
  cases ds with
  | nil =>
    have e : vs = [] := h1
    subst e
    exact rfl
  | cons d ds =>
    obtain ⟨v, r, rfl, h, t⟩ := h1
    cases ds with
    | cons _ _ =>
      obtain ⟨_, _, rfl, _, _⟩ := t
      exact rfl
    | nil =>
      have e : r = [] := t
      subst e
      cases es with
      | nil =>
        have e : us = [] := h2
        subst e
        exact rfl
      | cons d2 es =>
        obtain ⟨v2, r2, rfl, h', t'⟩ := h2
        cases es with
        | cons _ _ =>
          obtain ⟨_, _, rfl, _, _⟩ := t'
          exact rfl
        | nil =>
          have e : r2 = [] := t'
          subst e
          exact ⟨_, _, rfl, h, _, _, rfl, h', rfl⟩
end L2.DL

/-! DL56: != of two lists whose items are equal by an own == -/
namespace GQN
open PySem PySem.SeqAt GQ
open AutoSeq1 (wpAny_loadPart')
open MeetsSeq MeetsSeq2 MeetsSeq3 SeqRoads2
section
variable {prog : Program} {w : World} {A : Around} {R : Result → Shared → Prop}
end
section
variable {prog : Program} {w : World} {A : Around} {E : Value → Shared → Prop} {s : Shared}
end
end GQN
namespace L2.DL
open PySem PySem.Spec PyProof.Rows
section
variable {X : Cx} {k : Nat} {g C : Addr} {fd : FuncData} {ps : List Str} {dsp : DSp}
end
end L2.DL

namespace L2.DL
open PySem PySem.Spec PyProof.Rows
end L2.DL
/-! X0: own exceptions two levels below a built-in one, with super().__init__() and one or two fields: made, as a heap -/
namespace PySem
namespace ErrX
open PySem.W PySem.Calls PyProof.Rows PySem.HandSPX Builtin Builtin.ObjectAttr PySem.Spec
section
variable {prog : Program} {w : World} {A : Around} {E : Value → Shared → Prop} {h : Heap} {g : Array GenState} {d : Drawn} {t : Nat} {os : OsState}
variable {nm q : Str} {C N : Addr} {bs bm bmB : List Value} {hdct : Bool} {sn : List Str} {sub : List Value} {ab : Bool} {col : Option Bool} {dd : Option Addr} {k0 k1 k2 k3 k5 : Option Value} {B newId initId : String}
/-- the bound __init__ of the built-in base, called without arguments -/
theorem call_mw (FB : ExcBaseFacts B newId initId bmB) {u e t0 : Addr} {Q : Value → Shared → Prop}
    (hC : h.get? C = some (excClassObj nm q C N bs bm hdct sn sub ab col dd k0 k1 k2 k3 k5 newId)) (he : h.get? e = some (excO C t0)) (hu : h.get? u = some (kxs_mw initId e))
    (hq : ∀ h' t1, (∀ b o, b ≠ e → h.get? b = some o → h'.get? b = some o) → h'.get? e = some (excO C t1) → Q .none ⟨h', g, d, t, os⟩) :
    wpAny (model prog w) A (call (.ref u) []) Q E ⟨h, g, d, t, os⟩ := by
  refine wpAny_call (codeAny_of_tree ?_)
  show wpAny _ A.in1 (callAny (.ref u) ⟨[], []⟩) _ _ _
  simp only [callAny]
  refine wpAny_bind (wpAny_load hu ?_)
  simp only [kxs_mw, show (Value.type "method-wrapper" == Value.type "method" || Value.type "method-wrapper" == Value.type "builtin_function_or_method" || Value.type "method-wrapper" == Value.type "method-wrapper") = true by decide, if_true]
  refine KFB.if_so (by decide) ?_
  refine wpAny_bind (check_bound_init FB.toExcCallFacts hC he rfl ?_)
  refine wpAny_bind (wpAny_pure (wpAny_pure ?_))
  refine ⟨plainId_quiet FB.init.plain _, codeAny_builtin FB.initEntry ?_⟩
  rw [Around.under_plainId FB.init.plain _]
  refine exc_init_tree (cls := .ref C) (t0 := t0) (dv := none) (c2 := .none) (c3 := .none) (b4 := .bool false) he (by rw [sizeLine_eq]; exact Nat.zero_le _) fun h' k1 k2 _ => ?_
  exact hq h' _ k1 k2
end
/-! ### the text of __init__ -/
def iA (g : Str) (p1 p2 : Pos) : Arguments := { posonlyargs := [], args := [{ arg := "self", annotation := none, pos := p1 }, { arg := g, annotation := none, pos := p2 }], vararg := none, kwonlyargs := [], kw_defaults := [], kwarg := none, defaults := [] }
def iB (g : Str) (p0 p1 p2 p3 p4 q1 q2 q3 q4 : Pos) : List Stmt := [.Expr (.Call (.Attribute (.Call (.Name "super" p0) [] [] p1) "__init__" p2) [] [] p3) p4, .Assign [.Attribute (.Name "self" q1) g q2] (.Name g q3) q4]
def iS (g : Str) : Scope := { kind := .function, names := [(PySem.Str.ofString "self", .local), (g, .local), (PySem.Str.ofString "__class__", .free), (PySem.Str.ofString "super", .globalImplicit)], isGenerator := false, isCoroutine := false, more := [] }
/-- a field's name: not one of those that the text of __init__ uses else -/
structure FieldOk (g : Str) : Prop where
  ne : g ≠ "self" ∧ g ≠ "__class__" ∧ g ≠ "super" ∧ (g == ("__debug__" : Str)) = false
  bnd : ∀ (qual : Str) (p1 p2 r0 r1 r2 r3 r4 q1 q2 q3 q4 : Pos) (kV doc pm : Value) (an : Option Addr) (cda ct : Value) (cc : Addr) (u v : Value), bindArgs (ksFn "__init__" qual (iA g p1 p2) (iB g r0 r1 r2 r3 r4 q1 q2 q3 q4) (iS g) .none kV doc pm an cda ct cc) ⟨[u, v], []⟩ = pure [(("self" : Str), u), (g, v)]
theorem field_given : FieldOk "given" := ⟨by decide, fun _ _ _ _ _ _ _ _ _ _ _ _ _ _ _ _ _ _ _ _ _ => rfl⟩
/-- a built-in base -/
structure BaseF (B newId initId : String) (bmB : List Value) : Prop where
  base : ExcBaseFacts B newId initId bmB
  kxs : KxsFacts B initId
  store : StoreFacts B bmB "object.__setattr__" "object"
theorem base_ValueError : BaseF "ValueError" "ValueError.__new__" "ValueError.__init__" [.type "ValueError", .type "Exception", .type "BaseException", .type "object"] := ⟨F.excBase_ValueError, kxs_ValueError, F.store_ValueError⟩
/-- what the written part says of an own exception class at C -/
structure ClsE (K : Frag) (C : Addr) (B newId : String) (bmB : List Value) : Prop where
  exi : excInitIn K C bmB newId = true
  exo : excOver K C bmB = true
  sa : findIn K (.ref C) "__setattr__" = some (some (.builtin "object.__setattr__"))
  hd : hasDictIn K C = true
  sB : subIn K (.ref C) (.type B) = some true
  sE : subIn K (.ref C) (.type "BaseException") = some true
  sC : mroIn K C (.ref C) = some true
  tC : typeIn K (.ref C) = some (.type "type")
  kC : keepIn K (.ref C) = true
/-- .. and of its __init__ of one field g -/
structure InitE (P : Program) (K : Frag) (C fI : Addr) (initId : String) (g : Str) : Prop where
  ii : findIn K (.ref C) "__init__" = some (some (.ref fI))
  tI : typeIn K (.ref fI) = some (.type "function")
  tk : takerIn K C g = some none
  opq : nsIn K cStatics "thirdparty.any" = some none
  sup : ks_superIn K C C "__init__" = some (some (.builtin initId))
  nsu : nsIn K mainGlobals "super" = some none
  fn : ∃ (oc : Value) (od : Option Addr) (qual : Str) (kV doc pm : Value) (an : Option Addr) (cda cc : Addr) (ct : Value) (osl : Array (Option Value)) (p1 p2 r0 r1 r2 r3 r4 q1 q2 q3 q4 : Pos) (cl : Value) (cld : Option Addr) (csl : Array (Option Value)) (ccl : Value) (cdd : Option Addr) (vs : Array Value) (ccs : Array (Option Value)) (file : Str) (tf : Tok),
    K.lookup fI = some ⟨oc, od, .func (ksFn "__init__" qual (iA g p1 p2) (iB g r0 r1 r2 r3 r4 q1 q2 q3 q4) (iS g) .none kV doc pm an (.ref cda) ct cc), osl⟩ ∧ codeIn K (.ref cda) qual = true ∧
    K.lookup cc = some ⟨cl, cld, .cell (some (.ref C)), csl⟩ ∧ K.lookup cda = some ⟨ccl, cdd, .fields vs, ccs⟩ ∧ vs[2]? = some (.str file tf) ∧ ((P.main.file : Str) == file) = true ∧ (r2.endLine == r3.line) = true
  top : (P.main.scope.names.lookup ("super" : Str)).isSome = false
  fld : FieldOk g
/-- what __init__ leaves of a fresh exception at x -/
structure InitEnd (h h' : Heap) (x C dx t1 : Addr) (g : Str) (v : Value) : Prop where
  keep : ∀ b o, b ≠ x → h.get? b = some o → h'.get? b = some o
  obj : h'.get? x = some { cls := .ref C, dict := some dx, data := .fields #[.ref t1, .none, .none, .none, .bool false, .none] }
  dbig : h.objs.size ≤ dx
  dne : dx ≠ x
  ns : h'.Ns1 dx (fun y => if y = g then some v else none)
theorem iS_super {g : Str} (h : g ≠ "self" ∧ g ≠ "__class__" ∧ g ≠ "super" ∧ (g == ("__debug__" : Str)) = false) : (iS g).names.lookup ("super" : Str) = some .globalImplicit := by
  have e1 : (("super" : Str) == PySem.Str.ofString "self") = false := by decide
  have e2 : (("super" : Str) == g) = false := by simpa using Ne.symm h.2.2.1
  have e3 : (("super" : Str) == PySem.Str.ofString "__class__") = false := by decide
  have e4 : (("super" : Str) == PySem.Str.ofString "super") = true := by decide
  show List.lookup ("super" : Str) [(PySem.Str.ofString "self", NameKind.local), (g, .local), (PySem.Str.ofString "__class__", .free), (PySem.Str.ofString "super", .globalImplicit)] = _
  simp only [List.lookup, e1, e2, e3, e4]
theorem iS_class {g : Str} (h : g ≠ "self" ∧ g ≠ "__class__" ∧ g ≠ "super" ∧ (g == ("__debug__" : Str)) = false) : (iS g).names.lookup ("__class__" : Str) = some .free := by
  have e1 : (("__class__" : Str) == PySem.Str.ofString "self") = false := by decide
  have e2 : (("__class__" : Str) == g) = false := by simpa using Ne.symm h.2.1
  have e3 : (("__class__" : Str) == PySem.Str.ofString "__class__") = true := by decide
  show List.lookup ("__class__" : Str) [(PySem.Str.ofString "self", NameKind.local), (g, .local), (PySem.Str.ofString "__class__", .free), (PySem.Str.ofString "super", .globalImplicit)] = _
  simp only [List.lookup, e1, e2, e3]
theorem iS_self {g : Str} : (iS g).names.lookup ("self" : Str) = some .local := rfl
theorem iS_g {g : Str} (h : g ≠ "self" ∧ g ≠ "__class__" ∧ g ≠ "super" ∧ (g == ("__debug__" : Str)) = false) : (iS g).names.lookup g = some .local := by
  have e1 : (g == PySem.Str.ofString "self") = false := by simpa using h.1
  show List.lookup g [(PySem.Str.ofString "self", NameKind.local), (g, .local), (PySem.Str.ofString "__class__", .free), (PySem.Str.ofString "super", .globalImplicit)] = _
  simp only [List.lookup, e1, beq_self_eq_true]
section
variable {prog : Program} {w : World} {A : Around} {E : Value → Shared → Prop} {R : Result → Shared → Prop} {s : Shared} {K : Frag} {mg mb : Str → Option Value} {C fI : Addr} {B newId initId : String} {bmB : List Value} {g : Str}
theorem cls_at (T : ClsE K C B newId bmB) : ∃ cd, clsIn K C = some cd ∧ cd.hasDict = true := by
  obtain ⟨cd, hc, hh⟩ := any_some T.hd
  exact ⟨cd, hc, hh⟩
/-- self.g = v on an exception without a dict -/
theorem set_first (FB : BaseF B newId initId bmB) (T : ClsE K C B newId bmB) (tk : takerIn K C g = some none) {x t1 : Addr} {v : Value} {Q : Unit → Shared → Prop} (X : K.In s.heap) (hx : s.heap.get? x = some (excO C t1))
    (hq : ∀ h' tk' dx, (∀ b o, b ≠ x → s.heap.get? b = some o → h'.get? b = some o) → s.heap.objs.size ≤ dx → dx ≠ x → h'.get? x = some { cls := .ref C, dict := some dx, data := .fields #[.ref t1, .none, .none, .none, .bool false, .none] } →
      h'.Ns1 dx (fun y => if y = g then some v else none) → Q () { s with heap := h', toks := tk' }) : wpAny (model prog w) A (setAttr (.ref x) g v) Q E s := by
  refine set_plain X (ox := excO C t1) (od := none) ⟨hx, rfl, rfl, trivial⟩ T.sa ?_
  refine osa_openX (r := none) FB.store X (ox := excO C t1) (od := none) ⟨hx, rfl, rfl, trivial⟩ T.exo tk fun b => ?_
  obtain ⟨cd, hc, hh⟩ := cls_at T
  obtain ⟨hp, gs, d, t, os⟩ := s
  have hcls : W.Looks (model prog w) hp (classData C) cd := W.looks_clsIn X hc
  have hxs : x ≠ hp.objs.size := Nat.ne_of_lt (Heap.lt_size hx)
  obtain ⟨nm, bs, mro, ns, qn, hd, sn, sb, ab, col, del⟩ := cd
  dsimp only at hh
  subst hh
  show wpAny _ _ (storeInOwnDict (.ref x) (.ref C) (.str g _) g v b) _ _ _
  unfold storeInOwnDict ownDictForStores
  repeat (first | with_reducible refine store_in_new ?_ ?_ | with_reducible refine wpAny_loadPart_at hx ?_ | with_reducible refine hcls.at ?_ | wp_step)
  · exact ⟨_, #[], _, (Heap.get?_update_ne _ _ _ _ hxs.symm).trans (Heap.get?_push_at rfl rfl), rfl, fun e he => absurd he (by simp), fun _ => rfl⟩
  · intro h' tk' hn' hs
    have hx₁ : (hp.push { cls := .type "dict", data := .dict #[] }).get? x = some (excO C t1) := Heap.get?_push_of_some _ hx
    refine hq h' tk' hp.objs.size (fun b o hb ho => ?_) (Nat.le_refl _) hxs.symm ?_ hn'
    · exact (hs.2 b (Nat.ne_of_lt (Heap.lt_size ho))).trans ((Heap.get?_update_ne _ _ _ _ hb).trans (Heap.get?_push_of_some _ ho))
    · exact (hs.2 x hxs).trans (Heap.get?_update_self _ hx₁ rfl)
end
end ErrX
end PySem

/-! X1: the walk of __init__(self, g): super().__init__(); self.g = g -/
namespace PySem
namespace ErrX
open PySem.W PySem.Calls PyProof.Rows PySem.HandSPX Builtin Builtin.ObjectAttr PySem.Spec
theorem tree_super {qual : Str} {scope : Scope} {L f cc : Addr} {cda : Value} {r0 r1 r2 r3 : Pos} (hpos : (r2.endLine == r3.line) = true) : ∃ pl : Sem Bool, eval (.Call (.Attribute (.Call (.Name "super" r0) [] [] r1) "__init__" r2) [] [] r3) (ksEnv qual scope L f cda cc) = (do
      let ov ← attributeBase (.Call (.Name "super" r0) [] [] r1) "__init__" (ksEnv qual scope L f cda cc) (eval (.Call (.Name "super" r0) [] [] r1) (ksEnv qual scope L f cda cc))
      standAt r2.atName
      let (f', first) ← holding [ov] (getMethod ov "__init__" pl)
      callWith r3 f' first (backTo r3 (starEach [] (ksEnv qual scope L f cda cc))) []) := by
  refine ⟨(do return (← importBound (.Call (.Name "super" r0) [] [] r1) (ksEnv qual scope L f cda cc)).getD true), ?_⟩
  have e : (!(methodCallForm 0 (backTo r3 (starEach [] (ksEnv qual scope L f cda cc))) (backToKw r3 (keywordEach [] (ksEnv qual scope L f cda cc)))) || r2.endLine == r3.line) = true := by rw [hpos, Bool.or_true]
  show (do let ov ← attributeBase (.Call (.Name "super" r0) [] [] r1) "__init__" (ksEnv qual scope L f cda cc) (eval (.Call (.Name "super" r0) [] [] r1) (ksEnv qual scope L f cda cc)); standAt r2.atName; methodCall (.Call (.Name "super" r0) [] [] r1) "__init__" r2 r3 (ksEnv qual scope L f cda cc) ov 0 (backTo r3 (starEach [] (ksEnv qual scope L f cda cc))) (backToKw r3 (keywordEach [] (ksEnv qual scope L f cda cc)))) = _
  unfold methodCall methodCallPos
  simp only [e, if_true, pure_bind]
  rfl
section
variable {prog : Program} {w : World} {A : Around} {E : Value → Shared → Prop} {R : Result → Shared → Prop} {s : Shared} {K : Frag} {mg mb : Str → Option Value} {C fI : Addr} {B newId initId : String} {bmB : List Value} {g : Str}
theorem init_one (FB : BaseF B newId initId bmB) (T : ClsE K C B newId bmB) (I : InitE prog K C fI initId g) {x t0 : Addr} {v : Value} (X : K.In s.heap) (hG : s.heap.Ns mainGlobals mg) (hb : s.heap.Ns builtinsNs mb) (hbb : ∀ x : Str, x ≠ "__name__" → mb x = bootBuiltins x) (hlim : s.heap.NoLimit)
    (hx : s.heap.get? x = some (excO C t0)) (hnx : K.lookup x = none) (hroom : A.depth < recursionLimit)
    (hq : ∀ h' tk dx t1, InitEnd s.heap h' x C dx t1 g v → R (.ok (.ret .none)) { s with heap := h', toks := tk }) :
    codeAny (model prog w) A (.call (.ref fI) ⟨[.ref x, v], []⟩) R s := by
  obtain ⟨oc, od, qual, kV, doc, pm, an, cda, cc, ct, osl, p1, p2, r0, r1, r2, r3, r4, q1, q2, q3, q4, cl, cld, csl, ccl, cdd, vs, ccs, file, tf, lk, hcd, hcell, hcode, hvs, hfile, hpos⟩ := I.fn
  obtain ⟨nm, N', qn, bs, bm, hdct, sn, sub, ab, col, dd, k0, k1, k2, k3, k5, hC, hT⟩ := excInit_of X T.exi
  obtain ⟨cdC, hcC, hhC⟩ := cls_at T
  have gn := I.fld.ne
  have hbind : BindsTo s (ksFn "__init__" qual (iA g p1 p2) (iB g r0 r1 r2 r3 r4 q1 q2 q3 q4) (iS g) .none kV doc pm an (.ref cda) ct cc) ⟨[.ref x, v], []⟩ [(("self" : Str), .ref x), (g, v)] := BindsTo.of_eq (I.fld.bnd _ _ _ _ _ _ _ _ _ _ _ _ _ _ _ _ _ _ _ _ _)
  refine ks_codeAny_call_defAt (fd := ksFn "__init__" qual (iA g p1 p2) (iB g r0 r1 r2 r3 r4 q1 q2 q3 q4) (iS g) .none kV doc pm an (.ref cda) ct cc) (body := iB g r0 r1 r2 r3 r4 q1 q2 q3 q4) hroom (X _ _ lk) rfl hlim (codeRec_of X hcd) rfl hbind (by
      intro y hy
      have hy : y ∈ [(PySem.Str.ofString "self", NameKind.local), (g, NameKind.local), (PySem.Str.ofString "__class__", NameKind.free), (PySem.Str.ofString "super", NameKind.globalImplicit)] := hy
      simp only [List.mem_cons, List.not_mem_nil, or_false] at hy
      rcases hy with rfl | rfl | rfl | rfl <;> simp) (by
      intro y hy
      simp only [List.mem_cons, List.not_mem_nil, or_false] at hy
      rcases hy with rfl | rfl
      · exact iS_self
      · exact iS_g gn) (fun h₀ hns hk => ?_) rfl rfl rfl
  have hself : ([(("self" : Str), Value.ref x), (g, v)] : List (Str × Value)).reverse.lookup ("self" : Str) = some (.ref x) := by
    have e : (("self" : Str) == g) = false := by simpa using Ne.symm gn.1
    show List.lookup ("self" : Str) [(g, v), (("self" : Str), Value.ref x)] = _
    simp only [List.lookup, e, beq_self_eq_true]
  have hg : ([(("self" : Str), Value.ref x), (g, v)] : List (Str × Value)).reverse.lookup g = some v := by
    show List.lookup g [(g, v), (("self" : Str), Value.ref x)] = _
    simp only [List.lookup, beq_self_eq_true]
  have lt_of : ∀ {b : Addr} {o : Obj}, s.heap.get? b = some o → b ≠ s.heap.objs.size := fun {b o} e => Nat.ne_of_lt (Heap.lt_size e)
  obtain ⟨hp, gs, d, tk, os⟩ := s
  have X0 : K.In h₀ := X.keeps hk
  have hx0 := hk _ _ hx
  show _root_.PySem.wpAt _ _ _ (execs (iB g r0 r1 r2 r3 r4 q1 q2 q3 q4) (ksEnv qual (iS g) hp.objs.size fI (.ref cda) cc)) _ _ _
  obtain ⟨pl, htree⟩ := tree_super (qual := qual) (scope := iS g) (L := hp.objs.size) (f := fI) (cc := cc) (cda := .ref cda) (r0 := r0) (r1 := r1) hpos
  refine ks_wpAt_execs_cons (ks_wpAt_Expr_any (ks_wpAt_MethodCall (pl := pl) ?_ htree))
  obtain ⟨oD, hD1, hD2⟩ : ∃ oD, h₀.get? C = some oD ∧ oD.data = .cls cdC := by
    unfold clsIn at hcC
    split at hcC
    · rename_i c d cd' sl ho
      cases hcC
      exact ⟨_, X0 _ _ ho, rfl⟩
    · cases hcC
  refine ks_wpAt_super_base (env := ksEnv qual (iS g) hp.objs.size fI (.ref cda) cc) (iS_super gn) (iS_class gn) (by decide) rfl (X0 _ _ lk) rfl rfl rfl (X0 _ _ hcode) rfl hvs hfile I.top ?_
  refine ks_loadName_global rfl (iS_super gn) (loadGlobal_builtin (env := ksEnv qual (iS g) hp.objs.size fI (.ref cda) cc) (mg := mg) (mb := mb) (v := .type "super") ?_ (mg_none_of X hG I.nsu) ?_ ((hbb _ (by decide)).trans (by first | rfl | decide +kernel | kernel_rfl)) ⟨rfl, ?_⟩)
  · obtain ⟨o, es, ep, e, r⟩ := hG
    exact ⟨o, es, ep, hk _ _ e, r⟩
  · obtain ⟨o, es, ep, e, r⟩ := hb
    exact ⟨o, es, ep, hk _ _ e, r⟩
  refine wpAny_loadName_free rfl (iS_class gn) rfl ⟨_, X0 _ _ hcell, rfl⟩ ?_
  refine wpAny_loadName_local rfl iS_self hns hself ?_
  refine ks_wpAny_isType_cls hD1 hD2 ⟨rfl, ?_⟩
  refine ks_wpAny_call_super hD1 hD2 hx0 rfl (fun c e => by cases e) (looks_mroIn X0 T.sC) (fun h2 e2 k2 => ?_)
  have X2 : K.In h2 := X0.keeps k2
  have hx2 := k2 _ _ hx0
  have I2 : InstAt h2 x (excO C t0) C none := ⟨hx2, rfl, rfl, trivial⟩
  have hm : alongIn K "__init__" ((cdC.mro.dropWhile (· != .ref C)).drop 1) = some (some (.builtin initId)) := by
    have z := I.sup
    unfold ks_superIn at z
    rw [hcC] at z
    exact z
  refine kxs_getMethod FB.kxs e2 (looks_opaque X2 I.opq) (l₀ := cdC.mro) (fun A Q E s k q => wpAny_bind ((looks_clsIn X2 hcC) A _ E s k (wpAny_pure q))) rfl X2 hm (I2.type.andThen (looks_subIn X2 T.sB)) (ks_ne X2 I2 hcC) (by decide) ?_
  have k3 : ∀ b o, h2.get? b = some o → (h2.push (kxs_mw initId x)).get? b = some o := fun b o e => Heap.get?_push_of_some _ e
  refine kxs_callWith (i := initId) (x := x) rfl (evalArgs_empty ⟨Heap.get?_push_at rfl rfl, ?_⟩)
  refine call_mw FB.base (k3 _ _ (k2 _ _ (hk _ _ hC))) (k3 _ _ hx2) (Heap.get?_push_at rfl rfl) fun h4 t1 k4 hx4 => ?_
  have kx : ∀ b o, b ≠ x → h₀.get? b = some o → h4.get? b = some o := fun b o hb e => k4 b o hb (k3 _ _ (k2 _ _ e))
  have nx : ∀ {b : Addr} {o : Obj}, h₀.get? b = some o → (∀ vs, o.data ≠ .fields vs) → b ≠ x := fun {b o} e hd z => by
    rw [z, hx0] at e
    cases e
    exact hd _ rfl
  have X4 : K.In h4 := fun b o e => kx b o (fun z => by
    rw [z, hnx] at e
    cases e) (X0 b o e)
  refine wpAt_of_wpAny ?_
  have hsL : hp.objs.size ≠ x := fun z => Nat.lt_irrefl _ (show hp.objs.size < hp.objs.size by
    have y : x < hp.objs.size := Heap.lt_size hx
    rw [z] at y ⊢
    exact y)
  have ns4 : h4.Ns hp.objs.size (fun y => ([(("self" : Str), Value.ref x), (g, v)] : List (Str × Value)).reverse.lookup y) := by
    obtain ⟨o, es, ep, e, r⟩ := hns
    exact ⟨o, es, ep, kx _ _ hsL e, r⟩
  refine wpAny_execs_cons (plainObj_wpAny_Assign_Attribute ?_)
  refine wpAny_Name (wpAny_loadName_local rfl (iS_g gn) ns4 hg ?_) gn.2.2.2
  refine wpAny_Name (wpAny_loadName_local rfl iS_self ns4 hself ?_) (by decide)
  refine set_first FB T I.tk X4 hx4 fun h5 tk5 dx k5 dn dne hx5 hn5 => ?_
  refine wpAny_execs_nil ?_
  have keep : ∀ b o, b ≠ x → hp.get? b = some o → h5.get? b = some o := fun b o hb e => k5 b o hb (kx b o hb (hk b o e))
  refine hq h5 tk5 dx t1 ⟨keep, hx5, ?_, dne, hn5⟩
  have z : hp.objs.size < h₀.objs.size := hns.lt
  have z4 : hp.objs.size < h4.objs.size := ns4.lt
  exact Nat.le_of_lt (Nat.lt_of_lt_of_le z4 dn)
end
end ErrX
end PySem

/-! X2: an own exception of one field: made, raised, held as a value -/
namespace PySem
namespace ErrX
open PySem.W PySem.Calls PyProof.Rows PySem.HandSPX Builtin Builtin.ObjectAttr PySem.Spec
/-- a made exception -/
structure OwnMade (h h' : Heap) (e C d : Addr) (g : Str) (v : Value) : Prop where
  keep : ∀ b o, h.get? b = some o → h'.get? b = some o
  new : h.objs.size ≤ e
  obj : ∃ oe vs, h'.get? e = some oe ∧ oe.cls = .ref C ∧ oe.dict = some d ∧ oe.data = .fields vs ∧ vs[1]? = some .none
  dbig : h.objs.size ≤ d
  dne : d ≠ e
  ns : h'.Ns1 d (fun y => if y = g then some v else none)
section
variable {prog : Program} {w : World} {A : Around} {E : Value → Shared → Prop} {R : Result → Shared → Prop} {s : Shared} {K : Frag} {mg mb : Str → Option Value} {C fI : Addr} {B newId initId : String} {bmB : List Value} {g : Str}
theorem one_size (v : Value) : [v].length ≤ sizeLine := by
  rw [sizeLine_eq]
  exact (by decide : 1 ≤ 16777216)
theorem err_made (FB : BaseF B newId initId bmB) (T : ClsE K C B newId bmB) (I : InitE prog K C fI initId g) {v : Value} (X : K.In s.heap) (hG : s.heap.Ns mainGlobals mg) (hb : s.heap.Ns builtinsNs mb) (hbb : ∀ x : Str, x ≠ "__name__" → mb x = bootBuiltins x) (hlim : s.heap.NoLimit)
    (hroom : A.depth + 1 < recursionLimit) (hq : ∀ h' tk e d, OwnMade s.heap h' e C d g v → R (.ok (.ret (.ref e))) { s with heap := h', toks := tk }) :
    codeAny (model prog w) A (.call (.ref C) ⟨[v], []⟩) R s := by
  obtain ⟨nm, N', qn, bs, bm, hdct, sn, sub, ab, col, dd, k0, k1, k2, k3, k5, hC, hT⟩ := excInit_of X T.exi
  obtain ⟨hp, gs, dr, tk, os⟩ := s
  have k : ∀ b o, hp.get? b = some o → ((hp.push (kdv_tup [v])).push (excO C hp.objs.size)).get? b = some o := fun b o e => Heap.get?_push_of_some _ (Heap.get?_push_of_some _ e)
  have hget : ((hp.push (kdv_tup [v])).push (excO C hp.objs.size)).get? (hp.objs.size + 1) = some (excO C hp.objs.size) := by heap_get
  have hnx : K.lookup (hp.objs.size + 1) = none := by
    cases e : K.lookup (hp.objs.size + 1) with
    | none => rfl
    | some o =>
      have z : hp.get? (hp.objs.size + 1) = some o := X _ _ e
      exact absurd (Nat.lt_of_succ_lt (Heap.lt_size z)) (Nat.lt_irrefl _)
  have nsK : ∀ {b : Addr} {m : Str → Option Value}, hp.Ns b m → ((hp.push (kdv_tup [v])).push (excO C hp.objs.size)).Ns b m := fun {b m} ⟨o, es, ep, e, r⟩ => ⟨o, es, ep, k _ _ e, r⟩
  refine call_own FB.base hT hC (looks_findIn X I.ii) (fun self => bind_fn X self I.tI) (one_size v) ?_
  refine init_one (mg := mg) (mb := mb) (s := ⟨(hp.push (kdv_tup [v])).push (excO C hp.objs.size), gs, dr, tk, os⟩) FB T I (X.keeps k) (nsK hG) (nsK hb) hbb (hlim.keeps k) hget hnx ?_ fun h' tk' dx t1 ⟨k', hx, dn, dne, hns⟩ => ?_
  · show A.depth + 1 < recursionLimit
    exact hroom
  · have old : ∀ b o, hp.get? b = some o → h'.get? b = some o := fun b o e => k' b o (Nat.ne_of_lt (Nat.lt_succ_of_lt (Heap.lt_size e))) (k b o e)
    have z : hp.objs.size + 1 + 1 ≤ dx := by
      first
        | (simpa only [Heap.size_push] using dn)
        | exact dn
        | (have q := dn; rw [Heap.size_push, Heap.size_push] at q; exact q)
    exact ⟨rfl, hq h' tk' (hp.objs.size + 1) dx ⟨old, Nat.le_succ _, ⟨_, _, hx, rfl, rfl, rfl, rfl⟩, Nat.le_trans (Nat.le_trans (Nat.le_succ _) (Nat.le_succ _)) z, dne, hns⟩⟩
end
end ErrX
end PySem
namespace L2
open PySem PySem.Spec PyProof.Rows
/-- at a: an exception of the class at C, its own dict d -/
def ErrO (a C : Addr) (d : Option Addr) : HO := .ext fun h => ∃ (oe : Obj) (vs : Array Value), h.get? a = some oe ∧ oe.cls = .ref C ∧ oe.dict = d ∧ oe.data = .fields vs
theorem relO_fld {g : Str} {v : V} {v' : Value} (r : RelV v v') (f : Str) : RelO (List.lookup f [(g, v)]) (if f = g then some v' else none) := by
  by_cases hw : f = g
  · subst hw
    rw [if_pos rfl]
    have q : List.lookup f [(f, v)] = some v := by simp [List.lookup]
    rw [q]
    exact r
  · rw [if_neg hw]
    have qw : (f == g) = false := by simpa using hw
    have q2 : List.lookup f [(g, v)] = none := by simp [List.lookup, qw]
    rw [q2]
    trivial
section
variable {X : Cx} {C fI : Addr} {B newId initId : String} {bmB : List Value} {g n : Str}
/-- n(e), to be raised -/
def tMkE (C : Addr) (g : Str) (ta : TA) : St → Hp → XK → Prop := fun σ H Q => ta σ H fun vs H1 => ∃ v, vs = [v] ∧ ∀ d, H1 d = none → Q (.ref C) (some d) (upd H1 d (.xd [(g, v)]))
theorem pmk_err {a : Expr} {ta : TA} {p pos : Pos} {k : Nat} (FB : PySem.ErrX.BaseF B newId initId bmB) (T : PySem.ErrX.ClsE X.K C B newId bmB) (In : PySem.ErrX.InitE X.prog X.K C fI initId g) (hm : X.mg n = some (.ref C)) (hr : Room k X.A) (ha : PA X [a] ta) (hg : Gl X n := by rfl) (hdb : (n == ("__debug__" : Str)) = false := by decide)
    (he : starEach (a :: []) X.env = (false, eval a X.env) :: starEach [] X.env := by rfl) (hpl : (backTo pos (starEach [] X.env)).any (·.1) = false := by rfl) :
    PMk X (.Call (.Name n p) [a] [] pos) (tMkE C g ta) := by
  intro pins s σ H Q I h
  refine wpAny_Call_Name_kw (ld_glob I hg hm ?_ hdb)
  refine PySem.W.callWith_K (h₀ := X.base) I.ok.mod.kin T.kC (thn (ha.run pos pins s σ H _ I h) fun us s1 hh => ?_) he hpl
  obtain ⟨vs, H1, I1, r1, v, ev, q1⟩ := hh
  subst ev
  refine ⟨I1.kIn, ?_⟩
  cases r1 with
  | cons rv rn =>
    rename_i v' us'
    cases rn
    show wpAny _ _ (call (.ref C) [v']) _ _ _
    have hlim := I1.nolimit
    obtain ⟨mb, hb, hbb⟩ := I1.mod.blt
    have kp := I1.bk
    have nsK : ∀ {b : Addr} {m : Str → Option Value}, X.base.Ns b m → s1.heap.Ns b m := fun {b m} ⟨o, es, ep, e, r⟩ => ⟨o, es, ep, kp _ _ e, r⟩
    have hG := nsK I1.mod.glob
    have hB := nsK hb
    obtain ⟨hp, gs, dr, tk, os⟩ := s1
    refine wpAny_call (PySem.ErrX.err_made (mg := X.mg) (mb := mb) FB T In I1.kIn hG hB hbb hlim (by have := hr.dp; omega) fun h' tk' e d M => ?_)
    show MkP X pins σ Q (.ref e) ⟨h', gs, dr, tk', os⟩
    obtain ⟨oe, fv, hoe, hc, hd, hdat, h1⟩ := M.obj
    have hns := M.ns
    obtain ⟨G', g1, g2⟩ := restrict h' fun b => decide (b ≠ e)
    have gk : ∀ b, b ≠ e → G'.get? b = h'.get? b := fun b hb => g1 b (decide_eq_true hb)
    have ge : G'.get? e = none := g2 e (by simp)
    have old : ∀ b o, hp.get? b = some o → G'.get? b = some o := fun b o q => (gk b (Nat.ne_of_lt (Nat.lt_of_lt_of_le (Heap.lt_size q) M.new))).trans (M.keep b o q)
    have ob : ObjOk X.prog X.w (upd H1 d (.xd [(g, v)])) G' d (.xd [(g, v)]) :=
      ⟨_, hns.at (fun o q => (gk d M.dne).trans q), fun f => relO_fld rv f⟩
    have J : Inv X pins σ (upd H1 d (.xd [(g, v)])) ⟨G', gs, dr, tk', os⟩ := I1.laid (t' := tk') old M.dbig ob
    refine ⟨e, oe, fv, ⟨G', gs, dr, tk', os⟩, _, .ref C, some d, rfl, J, fun b o q => ?_, ge, hoe, ⟨hc, hd⟩, hdat, h1, ?_, rfl, I1.bare, raises_own T.sE T.tC, q1 d (I1.hok.fresh M.dbig)⟩
    · by_cases hb : b = e
      · have q' : G'.get? b = some o := q
        rw [hb, ge] at q'; cases q'
      · exact (gk b hb).symm.trans q
    · rw [upd_ne (Ne.symm M.dne)]
      exact I1.hok.fresh M.new
end
end L2

/-! X3: an exception that was caught is a thing of ours: try .. except (a tuple of classes | one class) as n, the suite's context -/
namespace L2
open PySem PySem.Spec PyProof.Rows
section
variable {X : Cx} {pins : List (Addr × Obj)} {σ : St} {H : Hp} {sI s s' : Shared} {B : Heap} {a C : Addr} {d : Option Addr}
/-- back on the ground, the exception tracked -/
theorem Inv.landedE (I : Inv X pins σ H sI) (nb : ∀ b o, sI.heap.get? b = some o → b ∉ frs X.stack → B.get? b = some o) (st : B.StaysIn s'.heap) (up : sI.heap.UpToSlots s'.heap) (os : s'.os = sI.os) (ag : AllBare s'.gens)
    (na : H a = none) (nB : B.get? a = none) (nf : a ∉ frs X.stack) {oe : Obj} {vs : Array Value} (he : s'.heap.get? a = some oe) (h1 : oe.cls = .ref C) (h2 : oe.dict = d) (h3 : oe.data = .fields vs) : Inv X pins σ (upd H a (L2.DL.ErrO a C d)) s' := by
  have notin : ∀ {b : Addr} {o : Obj}, sI.heap.get? b = some o → b ≠ a := fun {b o} e z => by
    subst z
    rw [nb _ _ e nf] at nB
    cases nB
  have nfr : ∀ b ∈ frs X.stack, ∀ o, sI.heap.get? b = some o → ∃ sl, s'.heap.get? b = some { o with slots := sl } := fun b hb o e => by
    obtain ⟨_, o', e', hd⟩ := I.stack.mem hb
    rw [e] at e'; cases e'
    exact up b o e hd
  have nta : ∀ {b : Addr} {o : HO}, H b = some o → b ≠ a := fun {b o} e => ne_of_none e na
  have hok : HOk X.prog X.w (upd H a (L2.DL.ErrO a C d)) s'.heap := fun b o q => by
    by_cases hb : b = a
    · subst hb
      rw [upd_same] at q
      cases q
      exact ⟨⟨oe, vs, he, h1, h2, h3⟩, ⟨_, he⟩, fun h1 h2 z k => by
        obtain ⟨o, us, q, r⟩ := z
        exact ⟨o, us, k _ q, r⟩⟩
    · rw [upd_ne hb] at q
      exact ((I.inGround nb).kept st b o q).stay (fun c v hc z => z) (fun c z => by rw [upd_ne (nta z)]; exact z) fun c xs z => by rw [upd_ne (nta z)]; exact z
  have J := I.call (ch := []) (h' := s'.heap) (g' := s'.gens) (t' := s'.toks) (d' := s'.drawn) (H' := upd H a (L2.DL.ErrO a C d))
    ⟨fun b o e _ hb _ => st b o (nb b o e hb), fun b o e _ hb _ => nfr b hb o e, fun b o e n _ => by rw [upd_ne (notin e)]; exact n, fun b o e _ => by
      by_cases hb : b ∈ frs X.stack
      · obtain ⟨sl, q⟩ := nfr b hb o e
        exact ⟨_, q⟩
      · exact ⟨o, st b o (nb b o e hb)⟩, fun _ _ e => by rw [upd_ne (nta e)]; exact e, fun _ _ _ e => by rw [upd_ne (nta e)]; exact e, fun b ps e => ⟨#[], by rw [upd_ne (nta e), e]; simp⟩⟩
    hok ag (fun _ z => nomatch z)
  obtain ⟨a1, a2, a3, a4, a5⟩ := s'
  have e5 : a5 = sI.os := os
  subst e5
  exact J
/-- the context of a suite -/
abbrev Cx.suiteE (X : Cx) (a : Addr) (pn : List (Addr × Obj)) : Cx := { X with A := X.A.mark (some (.ref a)), calm := false, pn := pn, xe := fun _ _ => False }
theorem Inv.suiteE (I : Inv X pins σ H s) (a : Addr) : Inv (X.suiteE a (X.pn ++ pins)) [] σ H s :=
  ⟨⟨I.ok.mod, I.ok.kind, I.ok.glob, I.ok.blt, I.ok.above, I.ok.inj, I.ok.has, I.ok.cab, (fun z => absurd (show false = true from z) Bool.false_ne_true), I.ok.frames, I.ok.stk, I.ok.exf, I.ok.bs, I.ok.bsz, I.ok.noex, I.ok.exfs, I.ok.funs, I.ok.frf⟩,
    I.os, I.bare, I.base, I.loc, I.cell, I.free, I.freeC, fun p hp => I.pin p (by rw [List.append_nil] at hp; exact hp), I.hok, I.len⟩
theorem Inv.unsuiteE {a : Addr} {pn' : List (Addr × Obj)} (I : Inv (X.suiteE a (X.pn ++ pins)) pn' σ H s) (ok : X.Ok) : Inv X pins σ H s :=
  ⟨ok, I.os, I.bare, I.base, I.loc, I.cell, I.free, I.freeC, fun p hp => I.pin p (List.mem_append_left _ hp), I.hok, I.len⟩
end
end L2

/-! X4: try with any clauses; the caught exception is tracked in the suites -/
namespace L2
open PySem PySem.Spec PyProof.Rows
theorem flyZ_keeps {B h h' : Heap} {l : List Env} {e : Addr} {Z : Obj → Prop} (R : HandSPX.FlyingZ B l e Z h) (k : ∀ b o, h.get? b = some o → h'.get? b = some o) : HandSPX.FlyingZ B l e Z h' := by
  obtain ⟨f1, f2, f3, oe, ws, T, oT, ts, he, hc, hd, h1, hn, hne, hT, hdT, h3⟩ := R
  exact ⟨fun b o q => k b o (f1 b o q), f2, f3.of_keeps fun b o q _ => ⟨o, k b o q, rfl⟩, oe, ws, T, oT, ts, k _ _ he, hc, hd, h1, hn, hne, k _ _ hT, hdT, h3⟩
/-- the test of a clause: a class, or some classes -/
def TestE (X : Cx) (te : Expr) (cs : List Value) : Prop := ∀ (a : Addr) (pn pins : List (Addr × Obj)) (σ : St) (H : Hp) (s : Shared) (cls : Value) (b : Bool) (Q : Bool → Shared → Prop) (E : Value → Shared → Prop), Inv (X.suiteE a pn) pins σ H s →
  PySem.W.Looks (model X.prog X.w) s.heap (typeOf (.ref a)) cls → PySem.W.exmAny X.K cls cs = some b → (∀ h' : Heap, (∀ q o, s.heap.get? q = some o → h'.get? q = some o) → Q b { s with heap := h' }) →
  wpAny (model X.prog X.w) (X.A.mark (some (.ref a))) (eval te X.env) (fun c s1 => wpAny (model X.prog X.w) (X.A.mark (some (.ref a))) (excMatches (.ref a) c) Q E s1) E s
theorem ld_names {X : Cx} {x : Str} {c : Value} {np : Pos} (hc : Names X x c) {a : Addr} {pn pins : List (Addr × Obj)} {σ : St} {H : Hp} {s : Shared} {Q : Value → Shared → Prop} {E : Value → Shared → Prop} (I : Inv (X.suiteE a pn) pins σ H s) (q : Q c s) :
    wpAny (model X.prog X.w) (X.A.mark (some (.ref a))) (eval (.Name x np) X.env) Q E s := by
  obtain ⟨hg, hdbg, hm | ⟨hm, hv, hnn⟩⟩ := hc
  · exact ld_glob (X := X.suiteE a pn) I hg hm q hdbg
  · exact ld_blt (X := X.suiteE a pn) I hg hm hv q hnn hdbg
theorem test3 {X : Cx} {x1 x2 x3 : Str} {c1 c2 c3 : Value} {p1 p2 p3 tpos : Pos} {kk : Nat} (h1 : Names X x1 c1) (h2 : Names X x2 c2) (h3 : Names X x3 c3) : TestE X (.Tuple [.Name x1 p1, .Name x2 p2, .Name x3 p3] kk tpos) [c1, c2, c3] := fun a pn pins σ H s cls b Q E I LT hx q => by
  refine wpAny_Tuple ?_
  refine wpAny_items_cons (ld_names h1 I ?_)
  refine wpAny_items_cons (ld_names h2 I ?_)
  refine wpAny_items_cons (ld_names h3 I ?_)
  refine wpAny_items_nil ⟨by size_fits, ?_⟩
  have kp : ∀ q o, s.heap.get? q = some o → (s.heap.push { cls := .type "tuple", data := .seq [c1, c2, c3].toArray }).get? q = some o := fun _ _ z => Heap.get?_push_of_some _ z
  exact (PySem.W.exm_tup3 (I.kIn.keeps kp) (LT.keeps kp) (Heap.get?_push_size s.heap rfl) hx).here (q _ kp)
/-- a clause: the classes, the name's slot, what the suite reads -/
structure HdW where
  cs : List Value
  slot : Option Nat
  ts : Addr → TS
def Ends.gone (D : Ends) (i : Nat) : Ends := { nx := fun σ' H' => D.nx (σ'.set i none) H', rt := D.rt, bk := fun σ' H' => D.bk (σ'.set i none) H', ct := fun σ' H' => D.ct (σ'.set i none) H' }
/-- what the clauses wish of an exception of the body, one after the other -/
def wHdE (K : PySem.W.Frag) (Wout : WX) (D : Ends) : List HdW → WX
  | [] => Wout
  | h :: r => fun cls d σ H => ∃ b C, PySem.W.exmAny K cls h.cs = some b ∧ cls = .ref C ∧ (b = true → ∀ a, H a = none → match h.slot with
      | none => h.ts a D σ (upd H a (L2.DL.ErrO a C d))
      | some i => h.ts a (D.gone i) (σ.set i (some (.ref a))) (upd H a (L2.DL.ErrO a C d))) ∧ (b = false → wHdE K Wout D r cls d σ H)
inductive HdsE (X : Cx) : List ExceptHandler → List HdW → Prop
  | nil : HdsE X [] []
  | plain {te : Expr} {cs : List Value} {ts : Addr → TS} {b₀ : Stmt} {suite : List Stmt} {pos' : Pos} {hds : List ExceptHandler} {l : List HdW} (ht : TestE X te cs)
      (hsu : ∀ (a : Addr) (pn : List (Addr × Obj)), PSs (X.suiteE a pn) (b₀ :: suite) (ts a)) (r : HdsE X hds l) : HdsE X (.ExceptHandler (some te) none (b₀ :: suite) pos' :: hds) (⟨cs, none, ts⟩ :: l)
  | named {te : Expr} {cs : List Value} {ts : Addr → TS} {b₀ : Stmt} {suite : List Stmt} {pos' : Pos} {hds : List ExceptHandler} {l : List HdW} {n : Str} {i : Nat} (ht : TestE X te cs) (hN : X.N.Nodup) (hi : X.N[i]? = some n) (hln : X.env.kindOf n = some .local)
      (hsu : ∀ (a : Addr) (pn : List (Addr × Obj)), PSs (X.suiteE a pn) (b₀ :: suite) (ts a)) (r : HdsE X hds l) : HdsE X (.ExceptHandler (some te) (some n) (b₀ :: suite) pos' :: hds) (⟨cs, some i, ts⟩ :: l)
section
variable {X : Cx} {body : List Stmt} {h₀ : ExceptHandler} {hds : List ExceptHandler} {l : List HdW} {pos : Pos} {tb : WX → TS} {Wout : WX}
theorem ps_tryE (hs : X.stack = X.env :: X.outer) (hf : X.env.frame = some X.env.locals) (tk : Takes X Wout)
    (hb : ∀ (W : WX) (pn : List (Addr × Obj)) (xe : Value → Shared → Prop), Takes (X.tr pn xe) W → PassesOwn (model X.prog X.w) X.A X.env xe → PSs (X.tr pn xe) body (tb W))
    (hh : HdsE X (h₀ :: hds) l) : PS X (.Try body (h₀ :: hds) [] [] pos) (fun D σ H => tb (wHdE X.K Wout D l) D σ H) := by
  refine ⟨fun pins s σ H D I h => ?_⟩
  have ok := I.ok
  have hfr : X.A.frames = some (X.env :: X.outer) := by rw [ok.frames, hs]
  refine wpAny_Try_except ?_
  refine wpAny_mono ((hb (wHdE X.K Wout D l) (X.pn ++ pins) (fun e s₁ => wpAny (model X.prog X.w) X.A (noteFrame e X.env) (fun _ s₂ => wpAny (model X.prog X.w) X.A (setFlight e none) (fun _ s₃ =>
    wpAny (model X.prog X.w) X.A (handleBy e X.env (h₀ :: hds)) (SP X pins D) X.xe s₃) X.xe s₂) X.xe s₁) (fun u s' xx => ?_) PassesOwn.looking).run [] s σ H D (I.toTry _) h) (fun f s1 hsp => ?_) (fun e s1 he => he)
  · -- the catch
    obtain ⟨a, B, sI, pins', σ', H', cls, d, rfl, J', nb, up, sky, na, os, ag, w⟩ := xx
    have J : Inv X pins σ' H' sI := J'.ofTry ok
    have sky' : Sky B (X.env :: X.outer) a (Zc cls d) X.env.locals s'.heap := by rw [← hs]; exact sky
    show wpAny (model X.prog X.w) X.A (noteFrame (.ref a) X.env) _ _ _
    refine Sky.land Zc.steady hfr hf sky' fun h3 fl3 up3 => ?_
    have notFr : ∀ {h : Heap} {o : Obj} {vs : Array Value}, h.FunFrames B (X.env :: X.outer) → h.get? a = some o → o.data = .fields vs → a ∉ frs (X.env :: X.outer) := fun {h o vs} ff e dd hm => by
      obtain ⟨_, o', e', hnf⟩ := ff.mem hm
      rw [e] at e'; cases e'
      exact hnf _ dd
    have nfS : a ∉ frs X.stack := by
      obtain ⟨oe3, vs3, he3, hz3, hd3⟩ := fl3.there
      rw [hs]
      exact notFr fl3.2.2.1 he3 hd3
    have nB : B.get? a = none := fl3.2.1
    have go : ∀ {hds' : List ExceptHandler} {l' : List HdW}, HdsE X hds' l' → wHdE X.K Wout D l' cls d σ' H' → ∀ h5 : Heap, HandSPX.FlyingZ B (X.env :: X.outer) a (Zc cls d) h5 → sI.heap.UpToSlots h5 →
        wpAny (model X.prog X.w) X.A (handleBy (.ref a) X.env hds') (SP X pins D) X.xe { s' with heap := h5 } := by
      intro hds' l' hk
      induction hk with
      | nil =>
        intro w h5 fl5 up5
        refine wpAny_handleBy_nil ?_
        obtain ⟨k1, k2, k3, oe, vs, T, oT, ts', he, hz, hd, h1, hr⟩ := id fl5
        unfold PySem.passOn
        refine wpAny_bind (wpAny_field he hd h1 ?_)
        rw [if_neg (show ¬ ((Value.ref T == Value.none) = true) from by simp)]
        have fin : wpAny (model X.prog X.w) X.A (setFlight (.ref a) X.env.frame) (fun _ s4 => wpAny (model X.prog X.w) X.A (throw (.ref a) : Sem Flow) (SP X pins D) X.xe s4) X.xe { s' with heap := h5 } := by
          rw [hf]
          refine HandSPX.setFlight_upZ fl5 fun h4 hh4 up4 => wpAny_throw (tk _ _ ?_)
          exact ⟨a, B, sI, pins, σ', H', cls, d, rfl, J, nb, up5.trans up4, .inr (.inr (by rw [hs]; exact hh4)), na, os, ag, w⟩
        first
          | exact wpAny_bind (wpAny_pure (wpAny_bind fin))
          | exact wpAny_bind fin
      | @plain te cs ts b₀ suite pos' hds2 l2 ht hsu r ih =>
        intro w h5 fl5 up5
        obtain ⟨b, C, hb1, ec, hyes, hno⟩ := w
        obtain ⟨oe5, vs5, he5, hz5, hd5⟩ := fl5.there
        have J5 : Inv X pins σ' (upd H' a (L2.DL.ErrO a C d)) { s' with heap := h5 } := J.landedE nb fl5.1 up5 os ag na nB nfS he5 (by rw [hz5.1, ec]) hz5.2 hd5
        refine wpAny_handleBy_cons (codeAny_handlers_test ?_) (by intro q; cases q)
        have LT : PySem.W.Looks (model X.prog X.w) h5 (typeOf (.ref a)) cls := fun A Q E s k q => wpAny_typeOf_ref (k _ _ he5) (by rw [hz5.1]; exact q)
        refine ht a (X.pn ++ pins) [] σ' _ { s' with heap := h5 } cls b _ _ (J5.suiteE a) LT hb1 fun h6 k6 => ?_
        have fl6 := flyZ_keeps fl5 k6
        have up6 : sI.heap.UpToSlots h6 := up5.trans (Heap.UpToSlots.of_keeps k6)
        cases b with
        | true =>
          refine codeAny_handlers_suite ?_
          refine HandSPX.lands_againZ fl6 fun h4 fl4 up4 => ?_
          obtain ⟨oe4, vs4, he4, hz4, hd4⟩ := fl4.there
          have J4 : Inv X pins σ' (upd H' a (L2.DL.ErrO a C d)) { s' with heap := h4 } := J.landedE nb fl4.1 (up6.trans up4) os ag na nB nfS he4 (by rw [hz4.1, ec]) hz4.2 hd4
          refine wpAny_mono ((hsu a (X.pn ++ pins)).run [] _ _ _ _ (J4.suiteE a) (hyes rfl a na)) (fun f s6 hsp => ?_) (fun _ _ z => False.elim z)
          cases f with
          | next =>
            obtain ⟨σ6, H6, S6, q6⟩ := hsp
            exact ⟨_, _, S6.unsuiteE ok, q6⟩
          | brk =>
            obtain ⟨σ6, H6, S6, q6⟩ := hsp
            exact ⟨_, _, S6.unsuiteE ok, q6⟩
          | cont =>
            obtain ⟨σ6, H6, S6, q6⟩ := hsp
            exact ⟨_, _, S6.unsuiteE ok, q6⟩
          | ret u =>
            obtain ⟨v6, σ6, H6, S6, r6, q6⟩ := hsp
            exact ⟨_, _, _, S6.unsuiteE ok, r6, q6⟩
        | false =>
          show wpAny _ X.A (handleBy (.ref a) X.env hds2) _ _ _
          exact ih (hno rfl) h6 fl6 up6
      | @named te cs ts b₀ suite pos' hds2 l2 n i ht hN hi hln hsu r ih =>
        intro w h5 fl5 up5
        obtain ⟨b, C, hb1, ec, hyes, hno⟩ := w
        obtain ⟨oe5, vs5, he5, hz5, hd5⟩ := fl5.there
        have J5 : Inv X pins σ' (upd H' a (L2.DL.ErrO a C d)) { s' with heap := h5 } := J.landedE nb fl5.1 up5 os ag na nB nfS he5 (by rw [hz5.1, ec]) hz5.2 hd5
        refine wpAny_handleBy_cons (codeAny_handlers_test ?_) (by intro q; cases q)
        have LT : PySem.W.Looks (model X.prog X.w) h5 (typeOf (.ref a)) cls := fun A Q E s k q => wpAny_typeOf_ref (k _ _ he5) (by rw [hz5.1]; exact q)
        refine ht a (X.pn ++ pins) [] σ' _ { s' with heap := h5 } cls b _ _ (J5.suiteE a) LT hb1 fun h6 k6 => ?_
        have fl6 := flyZ_keeps fl5 k6
        have up6 : sI.heap.UpToSlots h6 := up5.trans (Heap.UpToSlots.of_keeps k6)
        cases b with
        | true =>
          refine codeAny_handlers_suite_as ?_
          refine HandSPX.lands_againZ fl6 fun h4 fl4 up4 => ?_
          obtain ⟨oe4, vs4, he4, hz4, hd4⟩ := fl4.there
          have J4 : Inv X pins σ' (upd H' a (L2.DL.ErrO a C d)) { s' with heap := h4 } := J.landedE nb fl4.1 (up6.trans up4) os ag na nB nfS he4 (by rw [hz4.1, ec]) hz4.2 hd4
          refine store_ok (X := X.suiteE a (X.pn ++ pins)) (v := .ref a) (J4.suiteE a) hN hi (.inl hln) rfl (fun s5 S5 => ?_) (.inr hln)
          refine wpAny_mono ((hsu a (X.pn ++ pins)).run [] s5 _ _ _ S5 (hyes rfl a na)) (fun f s6 hsp => ?_) (fun _ _ z => False.elim z)
          have end_ : ∀ {σ6 : St} {H6 : Hp} {Q : Shared → Prop}, Inv (X.suiteE a (X.pn ++ pins)) [] σ6 H6 s6 → (∀ s7, Inv X pins (σ6.set i none) H6 s7 → Q s7) →
              wpAny (model X.prog X.w) X.A (do bindName X.env n .none; unbindBehindTheSuite X.env n pos') (fun _ s7 => Q s7) X.xe s6 := fun {σ6 H6 Q} S6 hq => gone_ok (S6.unsuiteE ok) hN hi hln hq
          cases f with
          | next =>
            obtain ⟨σ6, H6, S6, q6⟩ := hsp
            exact end_ S6 fun s7 J7 => ⟨_, _, J7, q6⟩
          | brk =>
            obtain ⟨σ6, H6, S6, q6⟩ := hsp
            exact end_ S6 fun s7 J7 => ⟨_, _, J7, q6⟩
          | cont =>
            obtain ⟨σ6, H6, S6, q6⟩ := hsp
            exact end_ S6 fun s7 J7 => ⟨_, _, J7, q6⟩
          | ret u =>
            obtain ⟨v6, σ6, H6, S6, r6, q6⟩ := hsp
            exact end_ S6 fun s7 J7 => ⟨_, _, _, J7, r6, q6⟩
        | false =>
          show wpAny _ X.A (handleBy (.ref a) X.env hds2) _ _ _
          exact ih (hno rfl) h6 fl6 up6
    exact go hh w h3 fl3 (up.trans up3)
  · cases f with
    | next =>
      obtain ⟨σ', H', J', q⟩ := hsp
      exact wpAny_execs_nil ⟨σ', H', J'.ofTry ok, q⟩
    | brk =>
      obtain ⟨σ', H', J', q⟩ := hsp
      exact ⟨σ', H', J'.ofTry ok, q⟩
    | cont =>
      obtain ⟨σ', H', J', q⟩ := hsp
      exact ⟨σ', H', J'.ofTry ok, q⟩
    | ret u =>
      obtain ⟨v, σ', H', J', r, q⟩ := hsp
      exact ⟨v, σ', H', J'.ofTry ok, r, q⟩
end
end L2

/-! X5: the program's exception classes by their names; isinstance of a tracked exception, its fields -/
namespace L2
open PySem PySem.Spec PyProof.Rows PySem.W
def upRight : List Str := ["InvalidText", "InvalidTie", "InvalidParting", "InvalidNumber", "InvalidName", "InvalidWish", "InvalidClaim", "InvalidPlace", "NotAWeb", "InvalidPlaces", "InvalidTies", "InvalidWishes", "InvalidChanges"]
def upThere : List Str := ["UnknownPlace", "UnknownName", "InUse"]
def upCannot : List Str := ["HasRing", "NotMet", "TooMany", "NothingToUndo", "Broken"]
/-- the classes above an exception class of the program, by their names -/
def errUp (n : Str) : List Str := if upRight.contains n then ["NotRight", "ValueError"] else if upThere.contains n then ["NotThere", "LookupError"] else if upCannot.contains n then ["CannotBe", "ArithmeticError"] else []
/-- whether the class n is m or below it -/
def isE (n m : Str) : Bool := n == m || (errUp n).contains m
/-- what the class at C must say, so that its instances are asked rightly -/
structure ErrC (K : Frag) (C : Addr) : Prop where
  cl : (clsIn K C).isSome = true
  hd : hasDictIn K C = true
  ga : findIn K (.ref C) "__getattribute__" = some (some (.builtin "BaseException.__getattribute__"))
  gg : findIn K (.ref C) "__getattr__" = some none
  sB : subIn K (.ref C) (.type "BaseException") = some true
  ha : findIn K (.ref C) "__class__" = some (some (.builtin "object.__class__"))
  hn : specialIn K (.builtin "object.__class__") "__get__" = some (some (.builtin "getset_descriptor.__get__"))
  ht : takesIn K (.builtin "object.__class__") = some true
  hm : mroIn K C (.type "object") = some true
def errCB (K : Frag) (C : Addr) : Bool := (clsIn K C).isSome && (hasDictIn K C && (decide (findIn K (.ref C) "__getattribute__" = some (some (.builtin "BaseException.__getattribute__"))) && (decide (findIn K (.ref C) "__getattr__" = some none) &&
  (decide (subIn K (.ref C) (.type "BaseException") = some true) && (decide (findIn K (.ref C) "__class__" = some (some (.builtin "object.__class__"))) && (decide (specialIn K (.builtin "object.__class__") "__get__" = some (some (.builtin "getset_descriptor.__get__"))) &&
  (decide (takesIn K (.builtin "object.__class__") = some true) && decide (mroIn K C (.type "object") = some true))))))))
theorem errC_of {K : Frag} {C : Addr} (h : errCB K C = true) : ErrC K C := by
  unfold errCB at h
  simp only [Bool.and_eq_true, decide_eq_true_eq] at h
  obtain ⟨h1, h2, h3, h4, h5, h6, h7, h8, h9⟩ := h
  exact ⟨h1, h2, h3, h4, h5, h6, h7, h8, h9⟩
/-- the own classes ms and built-in ones bs that an instance of n is asked about; its fields fs -/
structure ErrN (K : Frag) (n : Str) (ms : List Str) (bs : List String) (fs : List Str) (C : Addr) : Prop where
  at_ : nsIn K mainGlobals n = some (some (.ref C))
  c : ErrC K C
  own : ∀ m ∈ ms, ∃ D, nsIn K mainGlobals m = some (some (.ref D)) ∧ kitOne K (.ref C) (.ref D) = some (isE n m) ∧ exmOne K (.ref C) (.ref D) = some (isE n m)
  bi : ∀ b ∈ bs, kitOne K (.ref C) (.type b) = some (isE n b)
  fl : ∀ f ∈ fs, findIn K (.ref C) f = some none
def errNB (K : Frag) (n : Str) (ms : List Str) (bs : List String) (fs : List Str) : Bool := match nsIn K mainGlobals n with
  | some (some (.ref C)) => errCB K C && (ms.all (fun m => match nsIn K mainGlobals m with
      | some (some (.ref D)) => decide (kitOne K (.ref C) (.ref D) = some (isE n m)) && decide (exmOne K (.ref C) (.ref D) = some (isE n m))
      | _ => false) && (bs.all (fun b => decide (kitOne K (.ref C) (.type b) = some (isE n b))) && fs.all fun f => decide (findIn K (.ref C) f = some none)))
  | _ => false
theorem errN_of {K : Frag} {n : Str} {ms : List Str} {bs : List String} {fs : List Str} (h : errNB K n ms bs fs = true) : ∃ C, ErrN K n ms bs fs C := by
  unfold errNB at h
  split at h
  · rename_i C e
    rw [Bool.and_eq_true, Bool.and_eq_true, Bool.and_eq_true] at h
    obtain ⟨h1, h2, h3, h4⟩ := h
    refine ⟨C, e, errC_of h1, fun m hm => ?_, fun b hb => of_decide_eq_true (List.all_eq_true.mp h3 b hb), fun f hf => of_decide_eq_true (List.all_eq_true.mp h4 f hf)⟩
    have z := List.all_eq_true.mp h2 m hm
    split at z
    · rename_i D e'
      rw [Bool.and_eq_true] at z
      exact ⟨D, e', of_decide_eq_true z.1, of_decide_eq_true z.2⟩
    · cases z
  · cases h
section
variable {X : Cx} {pins : List (Addr × Obj)} {σ : St} {H : Hp} {s : Shared} {a C : Addr} {d : Option Addr}
/-- the caught exception as an instance -/
theorem err_inst (hok : HOk X.prog X.w H s.heap) (e : H a = some (L2.DL.ErrO a C d)) (hd : ∀ dx, d = some dx → ∃ l, H dx = some (.xd l)) : ∃ ox od, InstAt s.heap a ox C od ∧ (d = none → od = none) ∧ ∀ dx, d = some dx → ∃ ob, s.heap.get? dx = some ob ∧ od = some ob := by
  obtain ⟨⟨oe, vs, he, h1, h2, h3⟩, _⟩ := (show ObjOk X.prog X.w H s.heap a (.ext fun h => ∃ (oe : Obj) (vs : Array Value), h.get? a = some oe ∧ oe.cls = .ref C ∧ oe.dict = d ∧ oe.data = .fields vs) from hok a _ e)
  have nc : notCls oe = true := by unfold notCls; rw [h3] <;> rfl
  cases d with
  | none => exact ⟨oe, none, ⟨he, h1, nc, by rw [h2]; trivial⟩, fun _ => rfl, (fun dx z => by cases z)⟩
  | some dx =>
    obtain ⟨l, hl⟩ := hd dx rfl
    obtain ⟨mA, hns, _⟩ := (show ObjOk X.prog X.w H s.heap dx (.xd l) from hok dx _ hl)
    obtain ⟨ob, es, ep, ho, _⟩ := hns
    exact ⟨oe, some ob, ⟨he, h1, nc, by rw [h2]; exact ho⟩, (fun z => by cases z), fun dx' z => ⟨ob, by rw [← Option.some.inj z]; exact ho, rfl⟩⟩
end
end L2

/-! X6: defs called within a suite that raise nothing; isinstance and fields of a tracked exception, as rules -/
namespace L2
open PySem PySem.Spec PyProof.Rows
/-- room, whatever is handled -/
structure RoomU (k : Nat) (A : Around) : Prop where
  dp : A.depth + 3 * k + 5 < recursionLimit
  un : A.units + 16 * k + 200 < cLine
theorem RoomU.mono {j k : Nat} {A : Around} (r : RoomU k A) (h : j ≤ k) : RoomU j A := ⟨by have := r.dp; omega, by have := r.un; omega⟩
theorem RoomU.deeper {k : Nat} {A : Around} (r : RoomU (k + 1) A) (env : Env) : RoomU k (A.deeper env) :=
  ⟨by have := r.dp; show A.depth + 1 + 3 * k + 5 < _; omega, by have := r.un; show A.units + 3 + 16 * k + 200 < _; omega⟩
theorem RoomU.depth {k : Nat} {A : Around} (r : RoomU k A) : A.depth < recursionLimit := by have := r.dp; omega
theorem roomU_of {k : Nat} {A : Around} (r : Room k A) : RoomU k A := ⟨r.dp, r.un⟩
theorem RoomU.mark {k : Nat} {A : Around} (r : RoomU k A) (v : Option Value) : RoomU k (A.mark v) := ⟨r.dp, r.un⟩
theorem RoomU.u65 {k : Nat} {A : Around} (r : RoomU k A) : A.units + 65 < cLine := by have := r.un; omega
theorem RoomU.u70 {k : Nat} {A : Around} (r : RoomU k A) : A.units + 70 < cLine := by have := r.un; omega
/-- a def that is called where something may be handled; nothing leaves it -/
structure FnU (P : Program) (w : World) (K : PySem.W.Frag) (mg : Str → Option Value) (base : Heap) (k : Nat) (f : Addr) (fd : FuncData) (ps : List Str) (sp : Sp) : Prop where
  len : ∀ vs H Q E, sp vs H Q E → vs.length = ps.length
  go : ∀ (A : Around) (outer : List Env) (s : Shared) (H : Hp) (args : Args) (us : List Value) (vs : List V) (Q : VK) (E : XK), RoomU k A → A.guards = some [] → Env0 P w K mg base A outer s H → BindsTo s fd args (ps.zip us) → Vals vs us → sp vs H Q E →
    codeAny (model P w) A (.call (.ref f) args) (CR CX0 outer P w H s Q E) s
/-- the context of such a def's body -/
def cxU (P : Program) (w : World) (K : PySem.W.Frag) (mg : Str → Option Value) (base : Heap) (N : List Str) (qual : Str) (scope : Scope) (f : Addr) (cd : Value) (A : Around) (outer : List Env) (s : Shared) (H : Hp) (E : XK) : Cx :=
  { cxOf CX0 P w K mg base N qual scope f cd A outer s H E with calm := false }
theorem inv_startU {P : Program} {w : World} {K : PySem.W.Frag} {mg : Str → Option Value} {base : Heap} {N ps : List Str} {qual : Str} {scope : Scope} {f : Addr} {cd : Value} {A : Around} {outer : List Env} {s s1 : Shared} {H : Hp} {E : XK} {us : List Value} {vs : List V}
    (S : FnScope N ps scope) (e0 : Env0 P w K mg base A outer s H) (hl : vs.length = ps.length) (r : Vals vs us)
    (x : InCallC s s.heap.objs.size (bindL (envOfC qual scope s.heap.objs.size f cd).kindOf (ps.zip us) fun _ => none) (cellsFrom (s.heap.objs.size + 1) scope.names []) (bindC (envOfC qual scope s.heap.objs.size f cd).kindOf (ps.zip us) fun _ => none) s1) :
    Inv (cxU P w K mg base N qual scope f cd A outer s H E) [] (L2.start N vs) H s1 := by
  have hpl : ps.length ≤ N.length := by have := congrArg List.length S.pre; rw [List.length_take] at this; omega
  obtain ⟨h1, tk, rfl, hk⟩ := x.done
  have noA : ∀ b : Addr, b ∉ (cxU P w K mg base N qual scope f cd A outer s H E).ex := fun b z => absurd (show b ∈ ([] : List Addr) from z) (by simp)
  refine ⟨⟨e0.mod, S.kind, rfl, rfl, Nat.le_refl _, fun y z c h1 h2 => ?_, fun y hy => ?_, fun y c _ h => ?_, (fun z => Bool.noConfusion (show false = true from z)), Around.frames_deeper e0.frames, .inr ⟨rfl, rfl⟩, fun b z => absurd z (noA b), e0.bs, e0.bsz, fun b _ _ => noA b, fun b z => absurd z (noA b), e0.funs, e0.frf⟩,
    rfl, e0.bare, Un.kept hk, ⟨_, x.toInCall.ns, fun i y v h1 h2 h3 => ?_⟩, fun y c h => ⟨_, x.cell y c h⟩, e0.hok.fresh (Nat.le_refl _), fun y c h => ?_, fun q hq => ?_, e0.hok.kept hk, ?_⟩
  · exact name_of_addr x.apart (PySem.mem_of_lookup h1) (PySem.mem_of_lookup h2)
  · have hy : scope.names.lookup y = some .cell ∨ scope.names.lookup y = some .free := hy
    rcases hy with hy | hy
    · exact cell_has hy
    · exact absurd rfl (S.nofree _ (PySem.mem_of_lookup hy))
  · exact Nat.le_of_lt (x.above y c (PySem.mem_of_lookup h))
  · have hi : i < vs.length := by
      unfold L2.start at h2
      by_cases hi : i < vs.length
      · exact hi
      · rw [List.getElem?_append_right (by simpa using hi)] at h2
        rw [List.getElem?_replicate] at h2
        split at h2 <;> cases h2
    have ha : vs[i]? = some v := by
      unfold L2.start at h2
      rw [List.getElem?_append_left (by simpa using hi), List.getElem?_map] at h2
      cases e : vs[i]? with
      | none => rw [e] at h2; cases h2
      | some a => rw [e] at h2; cases h2; rfl
    obtain ⟨u, hu, rv⟩ := r.get ha
    have hp : ps[i]? = some y := by
      rw [← S.pre, List.getElem?_take_of_lt (by omega)]; exact h1
    have ndP : ps.Nodup := by rw [← S.pre]; exact S.nd.sublist (List.take_sublist _ _)
    refine ⟨u, rv, ?_⟩
    rcases S.par y (List.mem_of_getElem? hp) with k | k
    · exact .inl ⟨k, bindL_get ndP hp hu k⟩
    · obtain ⟨c, e⟩ := cell_has (n := s.heap.objs.size + 1) k
      refine .inr ⟨.inl k, c, e, ?_⟩
      have q := x.cell y c e
      rw [bindC_get ndP hp hu (by show scope.names.lookup y ≠ _; rw [k]; decide)] at q
      exact q
  · exact e0.hok.fresh (Nat.le_of_lt (x.above y c (PySem.mem_of_lookup h)))
  · exact absurd (show q ∈ ([] : List (Addr × Obj)) ++ [] from hq) (by simp)
  · unfold L2.start
    show _ = N.length
    rw [List.length_append, List.length_map, List.length_replicate]
    omega
section
variable {P : Program} {w : World} {K : PySem.W.Frag} {mg : Str → Option Value} {base : Heap} {k : Nat} {f : Addr} {fd : FuncData} {ps : List Str} {sp : Sp}
theorem fnU_body {qual : Str} {st : Stmt} {N : List Str} (F : L2.DL.FnAt K qual st f fd) (S : FnScope N ps (defScope st)) (len : ∀ vs H Q E, sp vs H Q E → vs.length = ps.length)
    (body : ∀ (cdv : Value) (A : Around) (outer : List Env) (s : Shared) (H : Hp) (vs : List V) (Q : VK) (E : XK), RoomU k (A.deeper (envOfC qual (defScope st) s.heap.objs.size f cdv)) → (A.deeper (envOfC qual (defScope st) s.heap.objs.size f cdv)).guards = some [] → sp vs H Q E →
      ∃ t, PSs (cxU P w K mg base N qual (defScope st) f cdv A outer s H E) (defBody st) t ∧ t { nx := fun _ H' => Q .non H', rt := Q } (start N vs) H) : FnU P w K mg base (k + 1) f fd ps sp := by
  obtain ⟨x, oc, od, dV, kV, doc, pm, an, cdv, ct, osl, rfl, lk, hcd⟩ := F
  refine ⟨len, fun A outer s H args us vs Q E hr hg e0 hb r hsp => ?_⟩
  have keepB : ∀ b o, base.get? b = some o → s.heap.get? b = some o := fun b o e => (e0.bs b o e).1
  have kinds : ∀ y ∈ ps.zip us, (defScope st).names.lookup y.1 = some .local ∨ ((defScope st).names.lookup y.1 = some .cell ∧ ((cellsFrom (s.heap.objs.size + 1) (defScope st).names []).lookup y.1).isSome = true) := by
    rintro ⟨n, v⟩ hy
    exact (S.par n (List.of_mem_zip hy).1).imp id fun q => ⟨q, PySem.W.cellsFrom_some _ _ _ (.inl q)⟩
  refine codeAny_call_function hr.depth (e0.mod.kin.keeps keepB _ _ lk) rfl S.co S.gen rfl (PySem.W.codeRec_of (e0.mod.kin.keeps keepB) hcd) (hb _ _ _ _ (wpAny_newFunctionEnv_cells S.kind kinds fun env he s1 x => ?_))
  subst he
  refine ⟨(e0.mod.nolimit.keeps keepB).keeps x.toInCall.keep, codeAny_func ?_⟩
  obtain ⟨t, ht, hq⟩ := body cdv A outer s H vs Q E (hr.deeper _) hg hsp
  have I := inv_startU (E := E) S e0 (len _ _ _ _ hsp) r x
  refine wpAny_mono (ht.run [] s1 _ H _ I hq) (fun fl s' hs => ?_) fun _ _ hs => hs
  cases fl with
  | ret u => exact let ⟨v, _, H', J, rv, q⟩ := hs; ⟨v, H', J.os, J.bare, J.base, J.hok, rv, q⟩
  | next => exact let ⟨_, H', J, q⟩ := hs; ⟨.non, H', J.os, J.bare, J.base, J.hok, rfl, q⟩
  | brk => exact let ⟨_, _, _, q⟩ := hs; q.elim
  | cont => exact let ⟨_, _, _, q⟩ := hs; q.elim
end
section
variable {X : Cx} {k : Nat} {f : Addr} {fd : FuncData} {ps : List Str} {sp : Sp} {E : XK} {x : Str} {p pos : Pos} {e : Expr} {es : List Expr} {t : TA}
theorem peU_call (F : FnU X.prog X.w X.K X.mg X.base k f fd ps sp) (hr : RoomU k X.A) (gd : X.A.guards = some []) (hg : Gl X x) (hm : X.mg x = some (.ref f)) (hk : PySem.W.keepIn X.K (.ref f) = true) (hb : Binds X.K fd ps [])
    (ha : PA X (e :: es) t) (hdb : (x == ("__debug__" : Str)) = false := by decide) (he : starEach (e :: es) X.env = (false, eval e X.env) :: starEach es X.env := by rfl) (hpl : (backTo pos (starEach es X.env)).any (·.1) = false := by rfl) :
    PE X (.Call (.Name x p) (e :: es) [] pos) (fun σ H Q => t σ H fun vs H1 => sp vs H1 Q E) := by
  refine ⟨fun pins s σ H Q I h => wpAny_Call_Name_kw (ld_glob I hg hm (PySem.W.callWith_K (h₀ := X.base) I.ok.mod.kin hk (thn (ha.run pos pins s σ H _ I h) fun us s1 ⟨vs, H1, I1, r, q⟩ => ⟨I1.kIn, ?_⟩) he hpl) hdb)⟩
  have hl : (us ++ []).length = ps.length := by rw [List.append_nil, ← r.length]; exact F.len _ _ _ _ q
  have b := hb s1 us I1.kIn hl
  rw [List.append_nil] at b
  refine wpAny_call (codeAny_mono (F.go X.A X.stack s1 H1 ⟨us, []⟩ us vs Q E hr gd I1.env0 b r q) fun r s' hq => ?_)
  cases r with
  | error er => exact (show False from hq).elim
  | ok fl =>
    cases fl with
    | ret u => exact I1.after hq
    | next => exact False.elim hq
    | brk => exact False.elim hq
    | cont => exact False.elim hq
end
end L2

/-! DL57: isinstance of an exception, its fields, over data -/
namespace L2.DL
open PySem PySem.Spec PyProof.Rows
section
variable {X : Cx} {a : Expr} {wa : WE} {p p2 pos : Pos} {m : Str} {ns : List Str}
theorem err_at {S : SO} {H : Hp} {K : PySem.W.Frag} {b : Addr} {n : Str} {fs : List (Str × D)} (s : SRel K S H) (e : S b = some (.err n fs)) : ∃ C d, PySem.W.nsIn K mainGlobals n = some (some (.ref C)) ∧ H b = some (ErrO b C d) ∧ ErrF K S H d fs := s b _ e
theorem errF_xd {K : PySem.W.Frag} {S : SO} {H : Hp} {d : Option Addr} {fs : List (Str × D)} (h : ErrF K S H d fs) : ∀ dx, d = some dx → ∃ l, H dx = some (.xd l) := fun dx e => by
  subst e
  obtain ⟨l, _, h2, _⟩ := h
  exact ⟨l, h2⟩
/-- isinstance(e, m) of an exception -/
def wIsE (ns : List Str) (m : Str) (wa : WE) : WE := fun sd S Q => wa sd S fun d S1 => ∃ b n fs, d = .obj b ∧ S1 b = some (.err n fs) ∧ n ∈ ns ∧ Q (.bl (isE n m)) S1
def rIsErr (K : PySem.W.Frag) : List V → Hp → VK → Prop := fun xs H Q => ∃ (b C : Addr) (d : Option Addr) (c : V) (cv : Value) (k : Bool), xs = [.ref b, c] ∧ H b = some (ErrO b C d) ∧ (∀ dx, d = some dx → ∃ l, H dx = some (.xd l)) ∧ ErrC K C ∧ (∀ u, RelV c u → u = cv) ∧ PySem.W.kitOne K (.ref C) cv = some k ∧ Q (.bl k) H
theorem call_isErr : CallR X (.builtin "isinstance") (rIsErr X.K) := by
  intro pins s σ H xs us Q I r h
  obtain ⟨b, C, d, c, cv, k, rfl, hb, hx, hc, hcv, e, q⟩ := h
  cases r with
  | cons rx rr =>
    cases rr with
    | cons rt rr =>
      cases rr
      cases rx
      have ec := hcv _ rt
      subst ec
      obtain ⟨ox, od, J, _, _⟩ := err_inst I.hok hb hx
      exact PySem.W.kia_one (PySem.W.kitx_exc (gt := none) hc.cl hc.ga hc.gg hc.sB hc.ha hc.hn hc.ht hc.hm) I.kIn J e (fun z => nomatch z) fun tk => ⟨.bl k, H, I.kept (t' := tk) fun _ _ z => z, rfl, q⟩
theorem de_isE {D : Addr} {ms : List Str} {bs : List String} (hT : ∀ n ∈ ns, ∃ fs C, ErrN X.K n ms bs fs C) (hm : m ∈ ms) (hD : PySem.W.nsIn X.K mainGlobals m = some (some (.ref D))) (hmg : X.mg m = some (.ref D)) (he : DE X a wa) (hz : X.mg "isinstance" = none) (hv : bootBuiltins "isinstance" = some (.builtin "isinstance")) (hg : Gl X "isinstance" := by rfl) (hgm : Gl X m := by rfl) (hdb : (m == ("__debug__" : Str)) = false := by decide)
    (hs1 : starEach [a, .Name m p2] X.env = (false, eval a X.env) :: starEach [.Name m p2] X.env := by rfl) (hpl : (backTo pos (starEach [.Name m p2] X.env)).any (fun x => x.1) = false := by rfl) :
    DE X (.Call (.Name "isinstance" p) [a, .Name m p2] [] pos) (wIsE ns m wa) := by
  refine pe_imp (pe_callB (X := X) (pos := pos) (p := p) call_isErr hg hz hv (da_cons he (da_cons (de_gC hmg hgm hdb) da_nil) hs1) (by decide) (by decide) hs1 hpl) fun σ H Q ⟨sd, S, Q0, st, q, an⟩ => ?_
  refine ⟨sd, S, fun xs S1 => ∃ b n fs, xs = [.obj b, .obj D] ∧ S1 b = some (.err n fs) ∧ n ∈ ns ∧ Q0 (.bl (isE n m)) S1, st, ?_, ?_⟩
  · have ext : ∀ (w : WE) (Q1 Q2 : KD), True := fun _ _ _ => trivial
    show wa sd S _
    have e : (fun x S1 => (wCons (wC (.obj D)) wNil) sd S1 fun xs S2 => (fun xs S1 => ∃ b n fs, xs = [.obj b, .obj D] ∧ S1 b = some (.err n fs) ∧ n ∈ ns ∧ Q0 (.bl (isE n m)) S1) (x :: xs) S2) = (fun d S1 => ∃ b n fs, d = .obj b ∧ S1 b = some (.err n fs) ∧ n ∈ ns ∧ Q0 (.bl (isE n m)) S1) := by
      funext d S1
      refine propext ⟨fun ⟨b, n, fs, e1, r⟩ => ⟨b, n, fs, (List.cons.inj e1).1, r⟩, fun ⟨b, n, fs, e1, r⟩ => ⟨b, n, fs, by rw [e1], r⟩⟩
    show wa sd S (fun x S1 => (wCons (wC (.obj D)) wNil) sd S1 fun xs S2 => _)
    rw [e]
    exact q
  · rintro ds S' vs H' ⟨b, n, fs, rfl, hS, hn, q1⟩ nx s1 r1
    obtain ⟨v, r, rfl, rv, w, r2, rfl, rw', rn⟩ := r1
    have e0 : r2 = [] := rn
    subst e0
    have e1 : v = .ref b := rv
    have e2 : w = .ref D := rw'
    subst e1 e2
    obtain ⟨C, d, hC, hb, hF⟩ := err_at s1 hS
    obtain ⟨fsN, C', T⟩ := hT n hn
    have eC : C' = C := by
      have z := T.at_.symm.trans hC
      cases z
      rfl
    subst eC
    obtain ⟨D', hD', k1, _⟩ := T.own m hm
    have eD : D' = D := by
      have z := hD'.symm.trans hD
      cases z
      rfl
    subst eD
    exact ⟨b, C', d, .ref D', .ref D', isE n m, rfl, hb, errF_xd hF, T.c, fun u hu => hu, k1, an (.bl (isE n m)) S' _ _ q1 nx s1 rfl⟩
/-- .. of a built-in class -/
theorem de_isB {T0 : String} {ms : List Str} {bs : List String} (hT : ∀ n ∈ ns, ∃ fs C, ErrN X.K n ms bs fs C) (hm : T0 ∈ bs) (hmz : X.mg T0 = none) (hvm : bootBuiltins T0 = some (.type T0)) (he : DE X a wa) (hz : X.mg "isinstance" = none) (hv : bootBuiltins "isinstance" = some (.builtin "isinstance")) (hg : Gl X "isinstance" := by rfl) (hgm : Gl X T0 := by rfl) (hdb : ((T0 : Str) == ("__debug__" : Str)) = false := by decide) (hnn : (T0 : Str) ≠ "__name__" := by decide)
    (hs1 : starEach [a, .Name T0 p2] X.env = (false, eval a X.env) :: starEach [.Name T0 p2] X.env := by rfl) (hpl : (backTo pos (starEach [.Name T0 p2] X.env)).any (fun x => x.1) = false := by rfl) :
    DE X (.Call (.Name "isinstance" p) [a, .Name T0 p2] [] pos) (wIsE ns T0 wa) := by
  refine pe_imp (pe_callB (X := X) (pos := pos) (p := p) call_isErr hg hz hv (da_cons he (da_cons (de_bT hmz hvm hgm hnn hdb) da_nil) hs1) (by decide) (by decide) hs1 hpl) fun σ H Q ⟨sd, S, Q0, st, q, an⟩ => ?_
  refine ⟨sd, S, fun xs S1 => ∃ b n fs, xs = [.obj b, .ty T0] ∧ S1 b = some (.err n fs) ∧ n ∈ ns ∧ Q0 (.bl (isE n T0)) S1, st, ?_, ?_⟩
  · have e : (fun x S1 => (wCons (wC (.ty T0)) wNil) sd S1 fun xs S2 => (fun xs S1 => ∃ b n fs, xs = [.obj b, .ty T0] ∧ S1 b = some (.err n fs) ∧ n ∈ ns ∧ Q0 (.bl (isE n T0)) S1) (x :: xs) S2) = (fun d S1 => ∃ b n fs, d = .obj b ∧ S1 b = some (.err n fs) ∧ n ∈ ns ∧ Q0 (.bl (isE n T0)) S1) := by
      funext d S1
      refine propext ⟨fun ⟨b, n, fs, e1, r⟩ => ⟨b, n, fs, (List.cons.inj e1).1, r⟩, fun ⟨b, n, fs, e1, r⟩ => ⟨b, n, fs, by rw [e1], r⟩⟩
    show wa sd S (fun x S1 => (wCons (wC (.ty T0)) wNil) sd S1 fun xs S2 => _)
    rw [e]
    exact q
  · rintro ds S' vs H' ⟨b, n, fs, rfl, hS, hn, q1⟩ nx s1 r1
    obtain ⟨v, r, rfl, rv, w, r2, rfl, rw', rn⟩ := r1
    have e0 : r2 = [] := rn
    subst e0
    have e1 : v = .ref b := rv
    have e2 : w = .ty T0 := rw'
    subst e1 e2
    obtain ⟨C, d, hC, hb, hF⟩ := err_at s1 hS
    obtain ⟨fsN, C', T⟩ := hT n hn
    have eC : C' = C := by
      have z := T.at_.symm.trans hC
      cases z
      rfl
    subst eC
    exact ⟨b, C', d, .ty T0, .type T0, isE n T0, rfl, hb, errF_xd hF, T.c, fun u hu => hu, T.bi T0 hm, an (.bl (isE n T0)) S' _ _ q1 nx s1 rfl⟩
/-- e.f of an exception -/
def wFldE (ns : List Str) (f : Str) (wo : WE) : WE := fun sd S Q => wo sd S fun d S1 => ∃ b n fs v, d = .obj b ∧ S1 b = some (.err n fs) ∧ n ∈ ns ∧ fs.lookup f = some v ∧ Q v S1
theorem de_fldE {f : Str} {ms : List Str} {bs : List String} (hT : ∀ n ∈ ns, ∃ fs C, ErrN X.K n ms bs fs C ∧ f ∈ fs) (he : DE X a wa) (hb : attributeBase a f X.env (eval a X.env) = eval a X.env := by rfl) : DE X (.Attribute a f pos) (wFldE ns f wa) := by
  refine ⟨fun pins s σ H Q I ⟨sd, S, Q0, st, q, an⟩ => ?_⟩
  refine attr_of hb (thn (he.run pins s σ H (fun x H1 => ∃ b C d l v, x = .ref b ∧ H1 b = some (ErrO b C d) ∧ (∃ dx, d = some dx ∧ H1 dx = some (.xd l)) ∧ l.lookup f = some v ∧ ErrC X.K C ∧ PySem.W.findIn X.K (.ref C) f = some none ∧ Q v H1) I ⟨sd, S, _, st, q, ?_⟩) fun u s1 hh => ?_)
  · rintro d S1 v H1 ⟨b, n, fs, y, rfl, hS, hn, hl, q1⟩ n1 s1 r1
    have e1 : v = .ref b := r1
    subst e1
    obtain ⟨C, d, hC, hbo, hF⟩ := err_at s1 hS
    obtain ⟨fsN, C', T, hf⟩ := hT n hn
    have eC : C' = C := by
      have z := T.at_.symm.trans hC
      cases z
      rfl
    subst eC
    cases d with
    | none =>
      have z : fs = [] := hF
      subst z
      cases hl
    | some dx =>
      obtain ⟨l, h1, h2, h3⟩ := hF
      obtain ⟨vv, hv, rv⟩ := h3.look hl
      exact ⟨b, C', some dx, l, vv, rfl, hbo, ⟨dx, rfl, h2⟩, hv, T.c, T.fl f hf, an y S1 vv H1 q1 n1 s1 rv⟩
  · obtain ⟨x, H1, I1, rx, b, C, d, l, v, rfl, hbo, ⟨dx, rfl, hx⟩, hl, hc, hno, q1⟩ := hh
    obtain rfl : u = Value.ref b := rx
    obtain ⟨ox, od, J, _, h2⟩ := err_inst I1.hok hbo (fun dx' z => ⟨l, by rw [← Option.some.inj z]; exact hx⟩)
    obtain ⟨ob, hob, rfl⟩ := h2 dx rfl
    have hxk : ObjOk X.prog X.w H1 s1.heap dx (.xd l) := I1.hok dx _ hx
    obtain ⟨mA, hns, hr⟩ := hxk
    obtain ⟨od2, ho2, hlk⟩ := lookIn_ns hns
    have eo : od2 = ob := by
      rw [hob] at ho2
      cases ho2
      rfl
    subst eo
    obtain ⟨u, hu, ru⟩ := RelO.some_of (v := v) (o := mA f) (by rw [← hl]; exact hr f)
    exact HandSPX.exc_get I1.kIn J hc.ga hc.gg hc.sB (PySem.W.findObj_own hc.hd hno rfl (by rw [hlk, hu])) (handed_of ru) ⟨v, H1, I1.tok _, ru, q1⟩
end
end L2.DL

/-! DL58: readings with what is raised: expressions and statements that may raise; defs that may raise -/
namespace L2.DL
open PySem PySem.Spec PyProof.Rows
/-- what is wanted of an exception, with the frame's slots then -/
abbrev EX := SD → EK
def AnsW (K : PySem.W.Frag) (S : SO) (H : Hp) (X0 : EX) (W : WX) : Prop := ∀ n fs sd' S' σ' H' C d, X0 sd' n fs S' → Nx S H S' H' → Sta K sd' S' σ' H' → PySem.W.nsIn K mainGlobals n = some (some (.ref C)) → ErrF K S' H' d fs → W (.ref C) d σ' H'
theorem AnsW.nx {K : PySem.W.Frag} {S S' : SO} {H H' : Hp} {X0 : EX} {W : WX} (a : AnsW K S H X0 W) (x : Nx S H S' H') : AnsW K S' H' X0 W := fun n fs sd' S2 σ' H2 C d q y s hn hf => a n fs sd' S2 σ' H2 C d q (x.trans y) s hn hf
abbrev WEX := SD → SO → KD → EX → Prop
abbrev WSX := EndsD → EX → SD → SO → Prop
def liftX (K : PySem.W.Frag) (W : WX) (w : WEX) : TE := fun σ H Q => ∃ sd S Q0 X0, Sta K sd S σ H ∧ w sd S Q0 X0 ∧ Ans K S H Q0 Q ∧ AnsW K S H X0 W
def liftSX (K : PySem.W.Frag) (W : WX) (w : WSX) : TS := fun E σ H => ∃ sd S E0 X0, Sta K sd S σ H ∧ w E0 X0 sd S ∧ AnsE K S H E0 E ∧ AnsW K S H X0 W
abbrev DEX (X : Cx) (W : WX) (e : Expr) (w : WEX) : Prop := PE X e (liftX X.K W w)
abbrev DSX (X : Cx) (W : WX) (st : Stmt) (w : WSX) : Prop := PS X st (liftSX X.K W w)
abbrev DSsX (X : Cx) (W : WX) (st : List Stmt) (w : WSX) : Prop := PSs X st (liftSX X.K W w)
theorem PS.nox {X : Cx} {st : Stmt} {t : TS} (h : PS X.nox st t) : PS X st t := ⟨fun pins s σ H D I hw =>
  wpAny_mono (h.run pins s σ H D (I.wish _) hw) (fun _ _ q => q.unwish) fun _ _ z => False.elim z⟩
def wNE (w : WE) : WEX := fun sd S Q _ => w sd S Q
def wNS (w : WS) : WSX := fun E _ sd S => w E sd S
section
variable {X : Cx} {W : WX} {e : Expr} {st : Stmt} {sts : List Stmt} {w : WE} {ws : WS} {wx : WEX} {wsx wtx : WSX} {pos : Pos}
theorem dsx_of (h : DS X.nox st ws) : DSX X W st (wNS ws) := ps_imp (PS.nox h) fun E σ H ⟨sd, S, E0, X0, st, q, an, _⟩ => ⟨sd, S, E0, st, q, an⟩
theorem dssx_of (h : DSs X.nox sts ws) : DSsX X W sts (wNS ws) := pss_imp (PSs.nox h) fun E σ H ⟨sd, S, E0, X0, st, q, an, _⟩ => ⟨sd, S, E0, st, q, an⟩
def wSeqX (a b : WSX) : WSX := fun E X0 sd S => a { E with nx := b E X0 } X0 sd S
theorem dssx_cons (h1 : DSX X W st wsx) (h2 : DSsX X W sts wtx) : DSsX X W (st :: sts) (wSeqX wsx wtx) :=
  pss_imp (pss_cons h1 h2) fun E σ H ⟨sd, S, E0, X0, st, q, an, ax⟩ => ⟨sd, S, _, X0, st, q, ⟨fun sd1 S1 σ1 H1 q1 n1 st1 => ⟨sd1, S1, E0, X0, st1, q1, an.go n1, ax.nx n1⟩, an.rt, an.bk, an.ct⟩, ax⟩
theorem dssx_one (h1 : DSX X W st wsx) : DSsX X W [st] wsx := pss_one h1
def wRetX (we : WEX) : WSX := fun E X0 sd S => we sd S E.rt X0
def wDropX (we : WEX) : WSX := fun E X0 sd S => we sd S (fun _ S1 => E.nx sd S1) X0
def wSetX (we : WEX) (i : Nat) : WSX := fun E X0 sd S => we sd S (fun d S1 => E.nx (sd.set i (some d)) S1) X0
theorem dsx_set {i : Nat} {x : Str} {pos' : Pos} (hN : X.N.Nodup) (he : DEX X W e wx) (hi : X.N[i]? = some x := by rfl) (hx : Loc X.env.scope x := by first | exact Or.inl rfl | exact Or.inr rfl) (hs : swapsWith e (some (.Name x pos')) pos.line X.env = pure false := by rfl)
    (hf : X.fn x = true ∨ X.env.scope.names.lookup x = some .local := by first | exact .inl rfl | exact .inr rfl | assumption) : DSX X W (.Assign [.Name x pos'] e pos) (wSetX wx i) :=
  ps_imp (ps_set hN hi hx he hs hf) fun E σ H ⟨sd, S, E0, X0, st, q, an, ax⟩ => ⟨sd, S, _, X0, st, q, fun d S1 v H1 q1 n1 s1 r1 => an.nx _ _ _ _ q1 n1 ((st.nx n1 s1).set i r1), ax⟩
def wIfSX (c : WT) (a b : WSX) : WSX := fun E X0 sd S => c sd S fun k S1 => if k = true then a E X0 sd S1 else b E X0 sd S1
theorem dsx_if {c : Expr} {a b : List Stmt} {tc : WT} (hc : DT X.nox c tc) (ha : DSsX X W a wsx) (hb : DSsX X W b wtx) : DSX X W (.If c a b pos) (wIfSX tc wsx wtx) := by
  refine ps_imp (ps_if (PT.nox hc) ha hb) fun E σ H ⟨sd, S, E0, X0, st, q, an, ax⟩ => ⟨sd, S, _, st, q, fun k S1 H1 q1 n1 s1 => ?_⟩
  cases k with
  | true => exact ⟨sd, S1, E0, X0, st.nx n1 s1, q1, an.go n1, ax.nx n1⟩
  | false => exact ⟨sd, S1, E0, X0, st.nx n1 s1, q1, an.go n1, ax.nx n1⟩
theorem dssx_nil : DSsX X W [] (wNS wNext) := dssx_of dss_nil
def wIfX (t : WT) (wa wb : WEX) : WEX := fun sd S Q X0 => t sd S fun k S1 => if k = true then wa sd S1 Q X0 else wb sd S1 Q X0
/-- raise n(e) -/
def wRaise (n : Str) (g : Str) (t : WA) : WSX := fun _ X0 sd S => t sd S fun xs S1 => ∃ x, xs = [x] ∧ X0 sd n [(g, x)] S1
theorem dsx_raise {n g : Str} {C fI : Addr} {B newId initId : String} {bmB : List Value} {a : Expr} {ta : WA} {p p2 : Pos} {k : Nat} (hc : X.calm = true) (tk : Takes X W) (FB : PySem.ErrX.BaseF B newId initId bmB) (T : PySem.ErrX.ClsE X.K C B newId bmB) (In : PySem.ErrX.InitE X.prog X.K C fI initId g)
    (hC : PySem.W.nsIn X.K mainGlobals n = some (some (.ref C))) (hm : X.mg n = some (.ref C)) (hr : Room k X.A) (ha : DA X.nox [a] ta) (hg : Gl X n := by rfl) (hdb : (n == ("__debug__" : Str)) = false := by decide)
    (he : starEach (a :: []) X.env = (false, eval a X.env) :: starEach [] X.env := by rfl) (hpl : (backTo pos (starEach [] X.env)).any (·.1) = false := by rfl) : DSX X W (.Raise (some (.Call (.Name n p) [a] [] pos)) none p2) (wRaise n g ta) := by
  have ha' : PA X [a] (liftA X.K ta) := ⟨fun q pins s σ H Q I h => wpAny_mono (ha.run q pins s σ H Q (I.wish _) h) (fun _ _ ⟨vs, H', I', r, z⟩ => ⟨vs, H', I'.unwish, r, z⟩) fun _ _ z => False.elim z⟩
  refine ps_imp (ps_raise hc tk (pmk_err FB T In hm hr ha' hg hdb he hpl)) fun E σ H ⟨sd, S, E0, X0, st, q, an, ax⟩ => ?_
  refine ⟨sd, S, _, st, q, fun xs S1 vs H1 ⟨x, ex, q1⟩ n1 s1 r1 => ?_⟩
  subst ex
  obtain ⟨v, r, rfl, rv, rn⟩ := r1
  have er : r = [] := rn
  subst er
  refine ⟨v, rfl, fun d hd => ?_⟩
  have n2 : Nx S1 H1 S1 (upd H1 d (.xd [(g, v)])) := nx_new hd
  have s2 := s1.new (o := .xd [(g, v)]) hd
  exact ax n [(g, x)] sd S1 σ _ C (some d) q1 (n1.trans n2) (st.nx (n1.trans n2) s2) hC ⟨[(g, v)], s1.free hd, upd_same, v, [], rfl, Rel.nx n2 _ _ rv, rfl⟩
end
theorem DA.nox {X : Cx} {es : List Expr} {t : WA} (ha : DA X.nox es t) : DA X es t := ⟨fun q pins s σ H Q I h => wpAny_mono (ha.run q pins s σ H Q (I.wish _) h) (fun _ _ ⟨vs, H', I', r, z⟩ => ⟨vs, H', I'.unwish, r, z⟩) fun _ _ z => False.elim z⟩
theorem DK.nox {X : Cx} {es : List Keyword} {t : WA} (ha : DK X.nox es t) : DK X es t := ⟨fun q pins s σ H Q I h => wpAny_mono (ha.run q pins s σ H Q (I.wish _) h) (fun _ _ ⟨vs, H', I', r, z⟩ => ⟨vs, H', I'.unwish, r, z⟩) fun _ _ z => False.elim z⟩

/-! ### calls of defs that may raise -/
abbrev FnX (P : Program) (w : World) (K : PySem.W.Frag) (mg : Str → Option Value) (base : Heap) (k : Nat) (f : Addr) (fd : FuncData) (ps : List Str) (sp : DSp) : Prop := FnG P w K mg base (L2.CX P w) k f fd ps (liftSp K sp)
/-- what may be raised here, at the slots σ -/
abbrev WAt (W : WX) (σ : St) : XK := fun cls d H' => W cls d σ H'
section
variable {X : Cx} {W : WX} {k : Nat} {f C : Addr} {fd : FuncData} {ps ks : List Str} {sp : Sp} {dvs : List V} {ds : List Value} {x m : Str} {p pos apos : Pos} {e o : Expr} {es : List Expr} {kws : List Keyword} {ta : TE} {t tk : TA}
end
end L2.DL

/-! DL59: calls that may raise, over data; defs that may raise by their bodies; for; try -/
namespace L2.DL
open PySem PySem.Spec PyProof.Rows
theorem ansX_at {K : PySem.W.Frag} {sd : SD} {S : SO} {σ : St} {H : Hp} {X0 : EX} {W : WX} (st : Sta K sd S σ H) (ax : AnsW K S H X0 W) : AnsX K S H (X0 sd) (WAt W σ) := fun n fs S' H' C d q nx s hn hf => ax n fs sd S' σ H' C d q nx (st.nx nx s) hn hf
/-- .. objects forgotten -/
def ClE (E : EK) : EK := fun n fs S' => ∃ S0, (∀ a o, S0 a = some o → S' a = some o) ∧ E n fs S0
theorem ClE.of {E : EK} {n : Str} {fs : List (Str × D)} {S : SO} (h : E n fs S) : ClE E n fs S := ⟨S, fun _ _ z => z, h⟩
theorem sub_none {S S0 : SO} (h : ∀ a o, S0 a = some o → S a = some o) : ∀ a, S a = none → S0 a = none := fun a e => by
  cases q : S0 a with
  | none => rfl
  | some o =>
    rw [h a o q] at e
    cases e
theorem ClE.ans {K : PySem.W.Frag} {S : SO} {H : Hp} {E0 : EK} {E : XK} (an : AnsX K S H E0 E) : AnsX K S H (ClE E0) E := fun n fs S' H' C d ⟨S0, hs, q⟩ nx s hn hf => by
  have n2 : Nx S' H' S0 H' := fun a u h1 h2 => ⟨sub_none hs a h1, h2⟩
  exact an n fs S0 H' C d q (nx.trans n2) (fun a o z => (s a o (hs a o z)).nx n2 rfl) hn (hf.nx n2)
section
variable {P : Program} {w : World} {K : PySem.W.Frag} {mg : Str → Option Value} {base : Heap}
/-- THE RULE for a def that may raise -/
theorem fnX_ok {k : Nat} {f : Addr} {fd : FuncData} {qual : Str} {st : Stmt} {N ps : List Str} {sp : DSp} {w0 : WSX} (F : FnAt K qual st f fd) (S : FnScope N ps (defScope st)) (len : ∀ ds S Q E, sp ds S Q E → ds.length = ps.length)
    (body : ∀ (cdv : Value) (A : Around) (outer : List Env) (s : Shared) (H : Hp) (E : XK), Room k (A.deeper (envOfC qual (defScope st) s.heap.objs.size f cdv)) → (A.deeper (envOfC qual (defScope st) s.heap.objs.size f cdv)).guards = some [] →
      Takes (cxOf (L2.CX P w) P w K mg base N qual (defScope st) f cdv A outer s H E) (fun cls d _ H' => E cls d H') → DSsX (cxOf (L2.CX P w) P w K mg base N qual (defScope st) f cdv A outer s H E) (fun cls d _ H' => E cls d H') (defBody st) w0)
    (hw : ∀ ds S Q E, sp ds S Q E → w0 (endsOf Q) (fun _ => ClE E) (startD N ds) S) : FnX P w K mg base (k + 1) f fd ps sp := by
  refine fnG_body F S (fun vs H Q E ⟨ds, S, Q0, E0, _, r, h, _⟩ => by rw [← r.length]; exact len _ _ _ _ h) fun cdv A outer s H vs Q E hr hg ⟨ds, S, Q0, E0, sr, r, h, an, ax⟩ => ?_
  refine ⟨_, body cdv A outer s H E hr hg (takes_of rfl rfl rfl rfl), startD N ds, S, endsOf Q0, fun _ => ClE E0, ⟨sr, start_rel r⟩, hw ds S Q0 E0 h, ⟨fun sd S' σ H' q n st => ?_, Cl.ans an, fun _ _ _ _ q => q.elim, fun _ _ _ _ q => q.elim⟩, fun n fs sd' S' σ' H' C d q nx st hn hf => ClE.ans ax n fs S' H' C d q nx st.s hn hf⟩
  exact Cl.ans an .non S' .non H' q n st.s rfl
end
section
variable {X : Cx} {W : WX} {k : Nat} {f C : Addr} {fd : FuncData} {ps ks : List Str} {dsp : DSp} {dvs : List V} {dds : List D} {ds : List Value} {x m : Str} {p pos apos : Pos} {e o : Expr} {es : List Expr} {kws : List Keyword} {wt wk : WA} {wo : WE}
def wFnX (sp : DSp) (dds : List D) (t : WA) : WEX := fun sd S Q X0 => t sd S fun xs S1 => sp (xs ++ dds) S1 Q (X0 sd)
def wFnKX (sp : DSp) (gD : List D → List D → List D) (tk : WA) : WEX := fun sd S Q X0 => tk sd S fun ys S2 => sp (gD [] ys) S2 Q (X0 sd)
def wMethX (C : Addr) (m : Str) (sp : DSp) (dds : List D) (wo : WE) (t : WA) : WEX := fun sd S Q X0 => wo sd S fun d S1 => (∃ fs, InsD C d S1 fs ∧ fs.lookup m = none) ∧ t sd S1 fun xs S2 => sp (d :: (xs ++ dds)) S2 Q (X0 sd)
end
/-! ### for, its body may raise -/
section
variable {X : Cx} {W : WX} {tg iter : Expr} {body : List Stmt} {wi : WI} {g : WG} {b : WSX} {pos : Pos}
end
/-! ### try -/
/-- a clause: the names of its classes, the name's slot, what its suite reads -/
structure HdD where
  ms : List Str
  slot : Option Nat
  ws : WS
def goneD (E : EndsD) (i : Nat) : EndsD := { nx := fun sd S => E.nx (sd.set i none) S, rt := E.rt, bk := fun sd S => E.bk (sd.set i none) S, ct := fun sd S => E.ct (sd.set i none) S }
/-- an exception of the body meets the clauses -/
def hdsR (ns : List Str) (E : EndsD) (X0 : EX) : List HdD → EX
  | [] => X0
  | h :: r => fun sd n fs S => n ∈ ns ∧ (h.ms.any (isE n) = true → ∀ a, S a = none → match h.slot with
      | none => h.ws E sd (S.set a (.err n fs))
      | some i => h.ws (goneD E i) (sd.set i (some (.obj a))) (S.set a (.err n fs))) ∧ (h.ms.any (isE n) = false → hdsR ns E X0 r sd n fs S)
def wTry (ns : List Str) (wb : WSX) (hs : List HdD) : WSX := fun E X0 sd S => wb E (hdsR ns E X0 hs) sd S
theorem exmAny_of {K : PySem.W.Frag} {n : Str} {C : Addr} : ∀ {l : List (Str × Addr)}, (∀ p ∈ l, PySem.W.exmOne K (.ref C) (.ref p.2) = some (isE n p.1)) → PySem.W.exmAny K (.ref C) (l.map fun p => Value.ref p.2) = some ((l.map (·.1)).any (isE n))
  | [], _ => rfl
  | p :: l, h => by
    have h1 := h p (List.mem_cons_self ..)
    have h2 := exmAny_of (l := l) fun q hq => h q (List.mem_cons_of_mem _ hq)
    show PySem.W.exmAny K (.ref C) (.ref p.2 :: l.map fun p => Value.ref p.2) = _
    unfold PySem.W.exmAny
    rw [h1, h2]
    rfl
section
variable {X : Cx} {W : WX} {ns : List Str}
/-- the clauses over data -/
inductive HdsX (X : Cx) (ns : List Str) : List ExceptHandler → List HdD → List HdW → Prop
  | nil : HdsX X ns [] [] []
  | plain {te : Expr} {l : List (Str × Addr)} {ws : WS} {b₀ : Stmt} {suite : List Stmt} {pos' : Pos} {hds : List ExceptHandler} {ld : List HdD} {lw : List HdW} (ht : TestE X te (l.map fun p => Value.ref p.2))
      (hT : ∀ n ∈ ns, ∃ ms bs fs C, ErrN X.K n ms bs fs C ∧ ∀ p ∈ l, p.1 ∈ ms) (hl : ∀ p ∈ l, PySem.W.nsIn X.K mainGlobals p.1 = some (some (.ref p.2)))
      (hsu : ∀ (a : Addr) (pn : List (Addr × Obj)), DSs (X.suiteE a pn) (b₀ :: suite) ws) (r : HdsX X ns hds ld lw) : HdsX X ns (.ExceptHandler (some te) none (b₀ :: suite) pos' :: hds) (⟨l.map (·.1), none, ws⟩ :: ld) (⟨l.map fun p => Value.ref p.2, none, fun _ => liftS X.K ws⟩ :: lw)
  | named {te : Expr} {l : List (Str × Addr)} {ws : WS} {b₀ : Stmt} {suite : List Stmt} {pos' : Pos} {hds : List ExceptHandler} {ld : List HdD} {lw : List HdW} {nm : Str} {i : Nat} (ht : TestE X te (l.map fun p => Value.ref p.2)) (hN : X.N.Nodup) (hi : X.N[i]? = some nm) (hln : X.env.kindOf nm = some .local)
      (hT : ∀ n ∈ ns, ∃ ms bs fs C, ErrN X.K n ms bs fs C ∧ ∀ p ∈ l, p.1 ∈ ms) (hl : ∀ p ∈ l, PySem.W.nsIn X.K mainGlobals p.1 = some (some (.ref p.2)))
      (hsu : ∀ (a : Addr) (pn : List (Addr × Obj)), DSs (X.suiteE a pn) (b₀ :: suite) ws) (r : HdsX X ns hds ld lw) : HdsX X ns (.ExceptHandler (some te) (some nm) (b₀ :: suite) pos' :: hds) (⟨l.map (·.1), some i, ws⟩ :: ld) (⟨l.map fun p => Value.ref p.2, some i, fun _ => liftS X.K ws⟩ :: lw)
theorem HdsX.e {hds : List ExceptHandler} {ld : List HdD} {lw : List HdW} (h : HdsX X ns hds ld lw) : HdsE X hds lw := by
  induction h with
  | nil => exact .nil
  | plain ht hT hl hsu r ih => exact .plain ht hsu ih
  | named ht hN hi hln hT hl hsu r ih => exact .named ht hN hi hln hsu ih
theorem exm_at {n : Str} {C : Addr} {l : List (Str × Addr)} (hT : ∃ ms bs fs C, ErrN X.K n ms bs fs C ∧ ∀ p ∈ l, p.1 ∈ ms) (hl : ∀ p ∈ l, PySem.W.nsIn X.K mainGlobals p.1 = some (some (.ref p.2))) (hC : PySem.W.nsIn X.K mainGlobals n = some (some (.ref C))) :
    PySem.W.exmAny X.K (.ref C) (l.map fun p => Value.ref p.2) = some ((l.map (·.1)).any (isE n)) := by
  obtain ⟨ms, bs, fs, C', T, hm⟩ := hT
  have eC : C' = C := by
    have z := T.at_.symm.trans hC
    cases z
    rfl
  subst eC
  refine exmAny_of fun p hp => ?_
  obtain ⟨D, hD, _, hx⟩ := T.own p.1 (hm p hp)
  have eD : D = p.2 := by
    have z := hD.symm.trans (hl p hp)
    cases z
    rfl
  subst eD
  exact hx
theorem hds_ans {hds : List ExceptHandler} {ld : List HdD} {lw : List HdW} (h : HdsX X ns hds ld lw) {S : SO} {H : Hp} {E0 : EndsD} {X0 : EX} {E : Ends} (an : AnsE X.K S H E0 E) (ax : AnsW X.K S H X0 W) : AnsW X.K S H (hdsR ns E0 X0 ld) (wHdE X.K W E lw) := by
  induction h with
  | nil => exact ax
  | @plain te l ws b₀ suite pos' hds2 ld lw ht hT hl hsu r ih =>
    intro n fs sd' S' σ' H' C d ⟨hn, hy, hno⟩ nx st hC hf
    refine ⟨_, C, exm_at (hT n hn) hl hC, rfl, fun hb a na => ?_, fun hb => ih n fs sd' S' σ' H' C d (hno hb) nx st hC hf⟩
    have fa := st.s.free na
    have n2 : Nx S' H' (S'.set a (.err n fs)) (upd H' a (ErrO a C d)) := nx_obj na fa
    have s2 := srel_put st.s n2 ⟨C, d, hC, upd_same, hf.nx n2⟩
    exact ⟨sd', _, E0, st.nx n2 s2, hy hb a fa, an.go (nx.trans n2)⟩
  | @named te l ws b₀ suite pos' hds2 ld lw nm i ht hN hi hln hT hl hsu r ih =>
    intro n fs sd' S' σ' H' C d ⟨hn, hy, hno⟩ nx st hC hf
    refine ⟨_, C, exm_at (hT n hn) hl hC, rfl, fun hb a na => ?_, fun hb => ih n fs sd' S' σ' H' C d (hno hb) nx st hC hf⟩
    have fa := st.s.free na
    have n2 : Nx S' H' (S'.set a (.err n fs)) (upd H' a (ErrO a C d)) := nx_obj na fa
    have s2 := srel_put st.s n2 ⟨C, d, hC, upd_same, hf.nx n2⟩
    have st2 : Sta X.K (sd'.set i (some (.obj a))) (S'.set a (.err n fs)) (σ'.set i (some (.ref a))) (upd H' a (ErrO a C d)) := (st.nx n2 s2).set i (d := .obj a) (v := .ref a) rfl
    have ag := an.go (nx.trans n2)
    have clr : ∀ {sd : SD} {S : SO} {σ : St} {H : Hp}, Sta X.K sd S σ H → Sta X.K (sd.set i none) S (σ.set i none) H := fun {sd S σ H} st => ⟨st.s, by
      refine ⟨by rw [List.length_set, List.length_set]; exact st.r.1, fun j dd e => ?_⟩
      by_cases hj : i = j
      · subst hj
        have hl := (List.getElem?_eq_some_iff.mp e).1
        rw [List.length_set] at hl
        rw [List.getElem?_set_self hl] at e
        cases e
      · rw [List.getElem?_set_ne hj] at e
        obtain ⟨v, e', r⟩ := st.r.2 j dd e
        exact ⟨v, by rw [List.getElem?_set_ne hj]; exact e', r⟩⟩
    exact ⟨_, _, goneD E0 i, st2, hy hb a fa, ⟨fun sd S2 σ H2 q n st => ag.nx _ _ _ _ q n (clr st), ag.rt, fun sd S2 σ H2 q n st => ag.bk _ _ _ _ q n (clr st), fun sd S2 σ H2 q n st => ag.ct _ _ _ _ q n (clr st)⟩⟩
/-- in a def that nothing leaves -/
theorem ds_try {body : List Stmt} {h₀ : ExceptHandler} {hds : List ExceptHandler} {ld : List HdD} {lw : List HdW} {wb : WSX} {pos : Pos} (hs : X.stack = X.env :: X.outer) (hf : X.env.frame = some X.env.locals)
    (hb : ∀ (W' : WX) (pn : List (Addr × Obj)) (xe : Value → Shared → Prop), Takes (X.tr pn xe) W' → PassesOwn (model X.prog X.w) X.A X.env xe → DSsX (X.tr pn xe) W' body wb) (hh : HdsX X ns (h₀ :: hds) ld lw) : DS X (.Try body (h₀ :: hds) [] [] pos) (fun E sd S => wTry ns wb ld E (fun _ _ _ _ => False) sd S) :=
  ps_imp (ps_tryE (tb := fun W' => liftSX X.K W' wb) hs hf (Wout := fun _ _ _ _ => False) (fun _ _ ⟨_, _, _, _, _, _, _, _, _, _, _, _, _, _, _, _, w⟩ => w.elim) hb hh.e) fun E σ H ⟨sd, S, E0, st, q, an⟩ => ⟨sd, S, E0, _, st, q, an, hds_ans hh an (W := fun _ _ _ _ => False) (X0 := fun _ _ _ _ => False) fun _ _ _ _ _ _ _ _ z => z.elim⟩
end
end L2.DL

/-! DL60: a lambda without parameters handed to a def that calls it: the lambda made, called, the def run with the maker's slots behind its own -/
namespace L2.DL
open PySem PySem.Spec PyProof.Rows LamX
theorem among_more {pos : Pos} {cv : Value} (l more : List Value) (h : TriplesOk l) (hc : codeAmong pos l = some cv) : codeAmong pos (l ++ more) = some cv := by
  fun_induction TriplesOk l with
  | case1 => simp [codeAmong] at hc
  | case2 a t b u x rest ih =>
    simp only [List.cons_append, codeAmong] at hc ⊢
    split at hc
    · rename_i q
      rw [if_pos q]
      exact hc
    · rename_i q
      rw [if_neg q]
      exact ih h hc
  | case3 l h1 h2 => exact h.elim
section
variable {X : Cx} {pins : List (Addr × Obj)} {σ : L2.St} {H : Hp} {s : Shared} {S : SO}
/-- the lambda is made: its code object is new, or found in the table; over data nothing changes -/
theorem lam_makeD {q : Str} {c P : Addr} {params : Arguments} {body : Expr} {scope : Scope} {pos : Pos} {E : Value → Shared → Prop} {Q : Value → Shared → Prop} (I : Inv X pins σ H s) (TB : TabB X.base X.mg c P) (hcode : X.env.code = .ref c) (hq : q = X.env.qual ++ "<lambda>")
    (sr : SRel X.K S H) (hS : S P = some (.tb q)) (hdef : defaultsOf params X.env = ([], [])) (hfree : ∀ y ∈ scope.names, y.2 = .free → ∃ c, X.env.cells.lookup y.1 = some c)
    (h : ∀ (f c' : Addr) (pm ctv : Value) (H1 : Hp) (s' : Shared) (ps : Array Value), Inv X pins σ H1 s' → SRel X.K S H1 → Nx S H S H1 → H1 P = some (.tbl ps) → TriplesOk ps.toList → codeAmong pos ps.toList = some (.ref c') →
      s'.heap.get? f = some (PySem.W.kla_obj "<lambda>" (X.env.qual ++ "<lambda>") params body scope (cloFrom X.env.cells scope.names []) pm c' ctv) → H1 f = none → f ∉ frs X.stack → Q (.ref f) s') :
    wpAny (model X.prog X.w) X.A (eval (.Lambda params body scope pos) X.env) Q E s := by
  subst hq
  obtain ⟨ps, hP, ht, ha⟩ := sr P _ hS
  refine PySem.W.kla_eval hdef ?_
  have bP : s.heap.BuiltinsAt X.mg P := TB.bm.keeps I.bk
  have hP' : s.heap.get? P = some { cls := .none, data := .fields ps } := I.hok P _ hP
  have nofr : ∀ f, s.heap.objs.size ≤ f → f ∉ frs X.stack := fun f hf z => by
    rcases List.mem_cons.mp (I.stkSub _ z) with e | e
    · have h1 := I.lt
      rw [← e] at h1
      exact Nat.lt_irrefl _ (Nat.lt_of_lt_of_le h1 hf)
    · exact I.nofs hf e
  cases hc : codeAmong pos ps.toList with
  | none =>
    refine PySem.W.kla_makeFunction (mg := X.mg) (c := c) (P := P) (ps := ps) (closure_ok hfree) I.ok.glob (I.mod.glob.keeps I.bk) hcode (TB.code.keeps I.bk) hP' ht hc TB.gP bP fun c' ctv h' tk hx hge hlt hrec htb => ?_
    obtain ⟨c2, oc, vs, t, e2, hoc, hd, hv⟩ := hrec
    cases e2
    have hsz : s.heap.objs.size ≤ h'.objs.size := Nat.le_trans hge (Nat.le_of_lt hlt)
    have nC : H c' = none := I.hok.fresh hge
    have I1 := inv_table (t' := tk) (more := #[rawInt pos.line, rawInt pos.col, .ref c']) (h' := h'.push (PySem.W.kla_obj "<lambda>" (X.env.qual ++ "<lambda>") params body scope (cloFrom X.env.cells scope.names []) ((X.mg "__name__").getD .none) c' ctv)) I hP
      (fun b o hb e => Heap.get?_push_of_some _ (hx b o hb e)) (Heap.get?_push_of_some _ htb) hge ⟨oc, vs, t, Heap.get?_push_of_some _ hoc, hd, hv⟩
    have eL : (ps ++ #[rawInt pos.line, rawInt pos.col, .ref c']).toList = ps.toList ++ [rawInt pos.line, rawInt pos.col, .ref c'] := by simp
    have nPc : P ≠ c' := ne_of_none hP nC
    have atP : upd (upd H P (.tbl (ps ++ #[rawInt pos.line, rawInt pos.col, .ref c']))) c' (CodeO c' (X.env.qual ++ "<lambda>")) P = some (.tbl (ps ++ #[rawInt pos.line, rawInt pos.col, .ref c'])) := by rw [upd_ne nPc, upd_same]
    have other : ∀ b u, H b = some u → b ≠ P → upd (upd H P (.tbl (ps ++ #[rawInt pos.line, rawInt pos.col, .ref c']))) c' (CodeO c' (X.env.qual ++ "<lambda>")) b = some u := fun b u e hb => by rw [upd_ne (ne_of_none e nC), upd_ne hb]; exact e
    have nx : Nx S H S (upd (upd H P (.tbl (ps ++ #[rawInt pos.line, rawInt pos.col, .ref c']))) c' (CodeO c' (X.env.qual ++ "<lambda>"))) := fun b u h1 h2 => ⟨h1, other b u h2 fun z => by
      rw [z, hS] at h1
      cases h1⟩
    have sr1 : SRel X.K S (upd (upd H P (.tbl (ps ++ #[rawInt pos.line, rawInt pos.col, .ref c']))) c' (CodeO c' (X.env.qual ++ "<lambda>"))) := fun b o e => by
      by_cases hb : b = P
      · subst hb
        rw [hS] at e
        cases e
        refine ⟨_, atP, by rw [eL]; exact PySem.TriplesOk_snoc _ _ _ _ ht, fun p' cv hcv => ?_⟩
        rw [eL] at hcv
        rcases among_app _ ht hcv with z | z
        · obtain ⟨c0, e1, e2, e3⟩ := ha p' cv z
          exact ⟨c0, e1, e2, other c0 _ e3 fun z => codeO_ne _ (Option.some.inj ((z ▸ e3 : H b = _).symm.trans hP))⟩
        · exact ⟨c', z, sr.free nC, upd_same⟩
      · have hu := sr b o e
        obtain ⟨w, ew⟩ := hu.there
        exact hu.nx nx ((other b w ew hb).trans ew.symm)
    refine h h'.objs.size c' ((X.mg "__name__").getD .none) ctv _ _ _ I1 sr1 nx atP (by rw [eL]; exact PySem.TriplesOk_snoc _ _ _ _ ht) (by rw [eL]; exact PySem.codeAmong_snoc _ ht hc) (Heap.get?_push_size _ rfl) ?_ (nofr _ hsz)
    have n1 : h'.objs.size ≠ c' := Nat.ne_of_gt hlt
    have n2 : h'.objs.size ≠ P := Nat.ne_of_gt (Nat.lt_of_lt_of_le (Heap.lt_size hP') hsz)
    rw [upd_ne n1, upd_ne n2]
    exact I.hok.fresh hsz
  | some cv =>
    obtain ⟨c', e, hn, hco⟩ := ha pos cv hc
    subst e
    refine PySem.W.kla_makeFunctionHit (mg := X.mg) (c := c) (P := P) (ps := ps) (closure_ok hfree) I.ok.glob (I.mod.glob.keeps I.bk) hcode (TB.code.keeps I.bk) hP' ht hc bP fun ctv h' tk hx hsz => ?_
    have I1 : Inv X pins σ H { s with heap := h'.push (PySem.W.kla_obj "<lambda>" (X.env.qual ++ "<lambda>") params body scope (cloFrom X.env.cells scope.names []) ((X.mg "__name__").getD .none) c' ctv), toks := tk } := I.kept fun b o e => Heap.get?_push_of_some _ (hx b o e)
    exact h h'.objs.size c' ((X.mg "__name__").getD .none) ctv H _ ps I1 sr (Nx.refl _ _) hP ht hc (Heap.get?_push_size _ rfl) (I.hok.fresh hsz) (nofr _ hsz)
end
/-! ### the maker's slots behind a def's own -/
def ghost (i : Nat) : Str := ⟨#[63, i]⟩
def ghosts (n : Nat) : List Str := (List.range n).map ghost
theorem ghosts_len (n : Nat) : (ghosts n).length = n := by unfold ghosts; rw [List.length_map, List.length_range]
def noGhost (l : List Str) : Bool := l.all fun x => x.cps.getD 0 0 != 63
theorem noGhost_ne {l : List Str} (h : noGhost l = true) {i : Nat} : ghost i ∉ l := fun hm => by
  have z := List.all_eq_true.mp h _ hm
  have e : ((ghost i).cps.getD 0 0 != 63) = false := rfl
  rw [e] at z
  cases z
theorem ghosts_nodup (n : Nat) : (ghosts n).Nodup := by
  unfold ghosts
  refine List.pairwise_map.mpr (List.Pairwise.imp (fun {a b} hne e => hne ?_) List.nodup_range)
  have z : (#[63, a] : Array Nat) = #[63, b] := Str.mk.inj e
  have z2 := congrArg (fun x : Array Nat => x[1]?) z
  simpa using z2
theorem ghost_nodup {N : List Str} (h : N.Nodup) (hg : noGhost N = true) (n : Nat) : (N ++ ghosts n).Nodup := by
  refine List.nodup_append.mpr ⟨h, ghosts_nodup n, fun a ha b hb e => ?_⟩
  subst e
  unfold ghosts at hb
  obtain ⟨i, _, rfl⟩ := List.mem_map.mp hb
  exact noGhost_ne hg ha
section
variable {P : Program} {w : World} {K : PySem.W.Frag} {mg : Str → Option Value} {base : Heap} {N : List Str} {qual : Str} {scope : Scope} {f : Addr} {cd : Value} {A : Around} {outer : List Env} {s s1 : Shared} {H H1 : Hp} {E : XK} {σ : St} {pins : List (Addr × Obj)} {CX : CXT}
theorem inv_ghost (σg : St) (hv : noGhost (scope.names.map (·.1)) = true) (I : Inv (cxOf CX P w K mg base N qual scope f cd A outer s H E) pins σ H1 s1) : Inv (cxOf CX P w K mg base (N ++ ghosts σg.length) qual scope f cd A outer s H E) pins (σ ++ σg) H1 s1 := by
  refine ⟨⟨I.ok.mod, I.ok.kind, I.ok.glob, I.ok.blt, I.ok.above, I.ok.inj, I.ok.has, I.ok.cab, I.ok.hd, I.ok.frames, I.ok.stk, I.ok.exf, I.ok.bs, I.ok.bsz, I.ok.noex, I.ok.exfs, I.ok.funs, I.ok.frf⟩, I.os, I.bare, I.base, ?_, I.cell, I.free, I.freeC, I.pin, I.hok, ?_⟩
  · obtain ⟨m, hn, hl⟩ := I.loc
    have ln : σ.length = N.length := I.len
    refine ⟨m, hn, fun i x v e1 e2 e3 => ?_⟩
    have e1 : (N ++ ghosts σg.length)[i]? = some x := e1
    by_cases hi : i < N.length
    · rw [List.getElem?_append_left hi] at e1
      rw [List.getElem?_append_left (by rw [ln]; exact hi)] at e2
      exact hl i x v e1 e2 e3
    · rw [List.getElem?_append_right (by omega)] at e1
      have hm : x ∈ ghosts σg.length := List.mem_of_getElem? e1
      unfold ghosts at hm
      obtain ⟨j, _, rfl⟩ := List.mem_map.mp hm
      have e3 : Vis scope (ghost j) := e3
      have hin : ghost j ∈ scope.names.map (·.1) := by
        rcases e3 with z | z | z
        · exact List.mem_map.mpr ⟨_, PySem.mem_of_lookup z, rfl⟩
        · exact List.mem_map.mpr ⟨_, PySem.mem_of_lookup z, rfl⟩
        · exact List.mem_map.mpr ⟨_, PySem.mem_of_lookup z, rfl⟩
      exact absurd hin (noGhost_ne hv)
  · show (σ ++ σg).length = (N ++ ghosts σg.length).length
    rw [List.length_append, List.length_append, ghosts_len]
    have ln : σ.length = N.length := I.len
    rw [ln]
end
end L2.DL

/-! DL61: x(lambda: e), x a def that calls what it got -/
namespace L2.DL
open PySem PySem.Spec PyProof.Rows LamX
section
variable {X : Cx} {pins : List (Addr × Obj)} {σ : L2.St} {H : Hp} {s : Shared}
/-- a(), in the def that got the lambda; W: what is wished of an exception there -/
theorem pe_actW {CXg : CXT} {Eg : XK} {N' : List Str} {qg : Str} {sg : Scope} {g f c' P : Addr} {cdg pm ctv : Value} {params : Arguments} {body : Expr} {scope : Scope} {k i : Nat} {a q : Str} {pn : List (Addr × Obj)} {xe : Value → Shared → Prop} {W : WX} {t : XK → TE} {p1 p2 lpos : Pos} {ps0 : Array Value}
    (I : Inv X pins σ H s) (L : LamS X.env.scope scope) (hq : q = X.env.qual ++ "<lambda>") (hf : s.heap.get? f = some (PySem.W.kla_obj "<lambda>" (X.env.qual ++ "<lambda>") params body scope (cloFrom X.env.cells scope.names []) pm c' ctv)) (hfn : H f = none) (hfr : f ∉ frs X.stack)
    (hbind : bindArgs (PySem.W.kla_fn "<lambda>" (X.env.qual ++ "<lambda>") params body scope (cloFrom X.env.cells scope.names []) pm (.ref c') ctv) ⟨[], []⟩ = pure [])
    (hP : H P = some (.tbl ps0)) (ht0 : TriplesOk ps0.toList) (hc0 : codeAmong lpos ps0.toList = some (.ref c'))
    (tk : Takes ((cxOf CXg X.prog X.w X.K X.mg X.base N' qg sg g cdg X.A X.stack s H Eg).tr pn xe) W) (hr : Room (k + 1) (X.A.deeper (envOfC qg sg s.heap.objs.size g cdg))) (hgd : X.A.guards = some [])
    (hbody : ∀ (A : Around) (outer : List Env) (s : Shared) (H : Hp) (E : XK), Room k (A.deeper (lamEnv X scope s.heap.objs.size f c')) → (A.deeper (lamEnv X scope s.heap.objs.size f c')).guards = some [] → PE (lamCx X A outer s H E scope f c') body (t E))
    (hN : N'[i]? = some a) (hv : Vis sg a) (hd : (a == ("__debug__" : Str)) = false := by decide) (hcd : (a == ("__classdict__" : Str)) = false := by decide) :
    PE ((cxOf CXg X.prog X.w X.K X.mg X.base N' qg sg g cdg X.A X.stack s H Eg).tr pn xe) (.Call (.Name a p1) [] [] p2)
      (fun σZ HZ Q => σZ[i]? = some (some (.ref f)) ∧ (∃ ps : Array Value, HZ P = some (.tbl ps) ∧ ∀ (pos : Pos) (cv : Value), codeAmong pos ps.toList = some cv → ∃ c, cv = .ref c ∧ HZ c = some (CodeO c q)) ∧ t (WAt W σZ) σ HZ Q) := by
  subst hq
  refine ⟨fun pinsZ sZ σZ HZ Q IZ h => ?_⟩
  obtain ⟨hs, ⟨ps, hps, hcs⟩, ht⟩ := h
  refine wpAny_Call_Name_kw (thn ((pe_var (pos := p1) (i := i) hN hv hd hcd).run pinsZ sZ σZ HZ (fun v H1 => v = .ref f ∧ H1 = HZ) IZ ⟨.ref f, hs, rfl, rfl⟩) fun u s1 ⟨v, H1, I1, r1, q1⟩ => ?_)
  obtain ⟨ev, eH⟩ := q1
  subst ev
  rw [eH] at I1
  obtain rfl : u = Value.ref f := r1
  have of1 : s1.heap.get? f = some (PySem.W.kla_obj "<lambda>" (X.env.qual ++ "<lambda>") params body scope (cloFrom X.env.cells scope.names []) pm c' ctv) := I1.base.keep f _ hf hfn hfr (fun z => nomatch (show f ∈ ([] : List Addr) from z))
  refine PySem.W.callWith_F0 ⟨_, _, _, _, of1⟩ ?_
  have un : Un (frs X.stack) [] H HZ s.heap s1.heap := I1.base
  obtain ⟨more, hm⟩ := un.tbls P ps0 hP
  have eps : ps = ps0 ++ more := by
    rw [hps] at hm
    cases hm
    rfl
  obtain ⟨c2, e2, hc⟩ := hcs lpos (.ref c') (by rw [eps, Array.toList_append]; exact among_more _ _ ht0 hc0)
  cases e2
  obtain ⟨⟨oc, vs, tt, hoc, hdc, hvc⟩, _, _⟩ := I1.hok c' _ hc
  have rc : codeAny (model X.prog X.w) (X.A.deeper (envOfC qg sg s.heap.objs.size g cdg)) (.call (.ref f) ⟨[], []⟩) (CR (L2.CX X.prog X.w) (envOfC qg sg s.heap.objs.size g cdg :: X.stack) X.prog X.w HZ s1 Q (WAt W σZ)) s1 := by
    refine PySem.W.kla_callFunE hr.depth of1 rfl L.co L.gen rfl ⟨c', oc, vs, tt, rfl, hoc, hdc, hvc⟩ ?_
    rw [hbind]
    refine wpAny_pure (wpAny_newFunctionEnv (fun y hy => (L.own y hy).2) (fun y hy => absurd hy (by simp)) (fun h₁ hns hsb => ⟨I1.nolimit.fresh _ hsb, ?_⟩) L.kind)
    show codeAny _ _ (.expr body (lamEnv X scope s1.heap.objs.size f c')) _ _
    have kp : ∀ b o, s1.heap.get? b = some o → h₁.get? b = some o := fun b o e => hsb.extBut b o (Nat.ne_of_lt (Heap.lt_size e)) (Heap.get?_push_of_some _ e)
    have J : Inv (lamCx X (X.A.deeper (envOfC qg sg s.heap.objs.size g cdg)) (envOfC qg sg s.heap.objs.size g cdg :: X.stack) s1 HZ (WAt W σZ) scope f c') [] σ HZ { s1 with heap := h₁, toks := s1.toks + ([] : List (Str × Value)).length } :=
      lam_start2 I L I1.env0 hr.hd un hns kp
    refine PySem.W.kla_codeExpr (wpAny_mono ((hbody _ _ s1 HZ _ (hr.deeper _) hgd).run [] _ _ HZ Q J ht) (fun v s' hq => ?_) fun e s' hq => hq)
    obtain ⟨w', H', J', rv, q⟩ := hq
    exact ⟨w', H', J'.os, J'.bare, J'.base, J'.hok, rv, q⟩
  refine wpAny_call (codeAny_mono rc fun r s' hq => ?_)
  cases r with
  | error e => exact tk _ _ (XE.of_call I1 (fun _ _ _ h => h) hq)
  | ok fl =>
    cases fl with
    | ret u => exact I1.after hq
    | next => exact False.elim hq
    | brk => exact False.elim hq
    | cont => exact False.elim hq
end
/-- the maker's slots, each with the value that it has -/
def ghD (sd : SD) (σ : St) : SD := List.zipWith (fun o v => match o, v with
  | some d, some v => some (.gh d v)
  | _, _ => none) sd σ
theorem ghD_len {sd : SD} {σ : St} (h : sd.length = σ.length) : (ghD sd σ).length = σ.length := by
  unfold ghD
  rw [List.length_zipWith, h, Nat.min_self]
theorem ghD_at {sd : SD} {σ : St} {i : Nat} {d : D} {v : V} (h1 : sd[i]? = some (some d)) (h2 : σ[i]? = some (some v)) : (ghD sd σ)[i]? = some (some (.gh d v)) := by
  unfold ghD
  rw [List.getElem?_zipWith, h1, h2]
theorem ghD_of {sd : SD} {σ : St} {i : Nat} {e : D} (h : (ghD sd σ)[i]? = some (some e)) : ∃ d v, sd[i]? = some (some d) ∧ σ[i]? = some (some v) ∧ e = .gh d v := by
  unfold ghD at h
  rw [List.getElem?_zipWith] at h
  cases h1 : sd[i]? with
  | none =>
    rw [h1] at h
    cases h2 : σ[i]? <;> rw [h2] at h <;> cases h
  | some o =>
    cases h2 : σ[i]? with
    | none =>
      rw [h1, h2] at h
      cases h
    | some u =>
      rw [h1, h2] at h
      cases o with
      | none => cases u <;> cases h
      | some d =>
        cases u with
        | none => cases h
        | some v =>
          cases h
          exact ⟨d, v, rfl, rfl, rfl⟩
theorem ghD_back {K : PySem.W.Frag} {S0 S : SO} {H0 H : Hp} {sd sdZ : SD} {σ σZ : St} {n : Nat} (r0 : RelS K S0 H0 sd σ) (r : RelS K S H sdZ σZ) (h : sdZ.drop n = ghD sd σ) : RelS K S H sd σ := by
  refine ⟨r0.1, fun i d e => ?_⟩
  obtain ⟨v, hv, _⟩ := r0.2 i d e
  have z := ghD_at e hv
  rw [← h, List.getElem?_drop] at z
  obtain ⟨u, _, eu, ru⟩ := r.2 _ _ z
  subst eu
  exact ⟨u, hv, ru⟩
/-- a(), the lambda's reading wl over the maker's slots sd; n: how many slots the def has of its own -/
def wAct (n : Nat) (f P : Addr) (q : Str) (sdG sd : SD) (wl : WEX) : WEX := fun sdZ SZ Q X0 => sdZ[0]? = some (some (.obj f)) ∧ sdZ.drop n = sdG ∧ SZ P = some (.tb q) ∧ wl sd SZ Q (fun _ => X0 sdZ)
def wLam (P : Addr) (q : Str) (N : List Str) (wg : Addr → SD → SD → WS) : WE := fun sd S Q => S P = some (.tb q) ∧ ∀ f sdG, wg f sdG sd (endsOf Q) (startD N [.obj f] ++ sdG) S
section
variable {X : Cx}
theorem de_lam {x a q : Str} {g c P : Addr} {fd : FuncData} {k : Nat} {st : Stmt} {N : List Str} {params : Arguments} {body : Expr} {scope : Scope} {lpos p pos : Pos} {wl : WEX} {wg : Addr → SD → SD → WS}
    (hm : X.mg x = some (.ref g)) (hk : PySem.W.keepIn X.K (.ref g) = true) (F : FnAt X.K x st g fd) (S0 : FnScope N [a] (defScope st)) (hvis : noGhost ((defScope st).names.map (·.1)) = true) (hNg : noGhost N = true) (hb : Binds X.K fd [a] []) (hva : Vis (defScope st) a) (hN0 : ∀ l : List Str, (N ++ l)[0]? = some a)
    (TB : TabB X.base X.mg c P) (hcode : X.env.code = .ref c) (hq : q = X.env.qual ++ "<lambda>") (hr : Room (k + 2) X.A) (gd : X.A.guards = some []) (L : LamS X.env.scope scope) (hdef : defaultsOf params X.env = ([], []))
    (hbind : ∀ (q : Str) (cl : List (Str × Addr)) (pm cv ctv : Value), bindArgs (PySem.W.kla_fn "<lambda>" q params body scope cl pm cv ctv) ⟨[], []⟩ = pure [])
    (hbody : ∀ (A : Around) (outer : List Env) (s : Shared) (H : Hp) (E : XK) (f c' : Addr), Room k (A.deeper (lamEnv X scope s.heap.objs.size f c')) → (A.deeper (lamEnv X scope s.heap.objs.size f c')).guards = some [] → Takes (lamCx X A outer s H E scope f c') (fun cls d _ H' => E cls d H') →
      DEX (lamCx X A outer s H E scope f c') (fun cls d _ H' => E cls d H') body wl)
    (hG : ∀ (cdv : Value) (A : Around) (outer : List Env) (s : Shared) (H : Hp) (f : Addr) (sdG sd : SD) (n : Nat), Room (k + 1) (A.deeper (envOfC x (defScope st) s.heap.objs.size g cdv)) → (A.deeper (envOfC x (defScope st) s.heap.objs.size g cdv)).guards = some [] → (N ++ ghosts n).Nodup →
      (∀ (W : WX) (pn : List (Addr × Obj)) (xe : Value → Shared → Prop) (p1 p2 : Pos), Takes ((cxOf CX0 X.prog X.w X.K X.mg X.base (N ++ ghosts n) x (defScope st) g cdv A outer s H E0).tr pn xe) W →
        DEX ((cxOf CX0 X.prog X.w X.K X.mg X.base (N ++ ghosts n) x (defScope st) g cdv A outer s H E0).tr pn xe) W (.Call (.Name a p1) [] [] p2) (wAct N.length f P q sdG sd wl)) →
      DSs (cxOf CX0 X.prog X.w X.K X.mg X.base (N ++ ghosts n) x (defScope st) g cdv A outer s H E0).nox (defBody st) (wg f sdG sd))
    (hg : Gl X x := by rfl) (hdb : (x == ("__debug__" : Str)) = false := by decide) (had : (a == ("__debug__" : Str)) = false := by decide) (hacd : (a == ("__classdict__" : Str)) = false := by decide) :
    DE X (.Call (.Name x p) [.Lambda params body scope lpos] [] pos) (wLam P q N wg) := by
  refine ⟨fun pins s σ H Q I ⟨sd, S, Q0, st0, ⟨hS, hwg⟩, an⟩ => ?_⟩
  refine wpAny_Call_Name_kw (ld_glob I hg hm ?_ hdb)
  refine PySem.W.callWith_K (h₀ := X.base) I.ok.mod.kin hk ?_ (by rfl) (by rfl)
  show wpAny _ _ (spliced ((false, eval (.Lambda params body scope lpos) X.env) :: backTo pos (starEach [] X.env))) _ _ s
  refine Calls.spliced_cons (lam_makeD I TB hcode hq st0.s hS hdef (L.has I.ok) fun f c' pm' ctv H1 s' ps I1 sr1 nx hP ht hc hf hfn hfr => ?_)
  refine Calls.spliced_nil ⟨I1.kIn, ?_⟩
  have lnN : 0 < N.length := by
    have z := hN0 []
    rw [List.append_nil] at z
    exact (List.getElem?_eq_some_iff.mp z).1
  have rc : codeAny (model X.prog X.w) X.A (.call (.ref g) ⟨[.ref f], []⟩) (CR CX0 X.stack X.prog X.w H1 s' Q E0) s' := by
    obtain ⟨y, oc, od, dV, kV, doc, pm, an', cdv, ct, osl, rfl, lk, hcd⟩ := F
    have kinds : ∀ y ∈ [a].zip [Value.ref f], (defScope st).names.lookup y.1 = some .local ∨ ((defScope st).names.lookup y.1 = some .cell ∧ ((cellsFrom (s'.heap.objs.size + 1) (defScope st).names []).lookup y.1).isSome = true) := by
      rintro ⟨n, v⟩ hy
      exact (S0.par n (List.of_mem_zip hy).1).imp id fun q => ⟨q, PySem.W.cellsFrom_some _ _ _ (.inl q)⟩
    have bb := hb s' [.ref f] I1.kIn rfl
    refine codeAny_call_function hr.depth (I1.kIn _ _ lk) rfl S0.co S0.gen rfl (PySem.W.codeRec_of I1.kIn hcd) (bb _ _ _ _ (wpAny_newFunctionEnv_cells S0.kind kinds fun env he s2 x2 => ?_))
    subst he
    refine ⟨I1.nolimit.keeps x2.toInCall.keep, codeAny_func ?_⟩
    have J0 : Inv (cxOf CX0 X.prog X.w X.K X.mg X.base N x (defScope st) g cdv X.A X.stack s' H1 E0) [] (start N [.ref f]) H1 s2 := inv_start S0 hr.hd I1.env0 rfl (.cons rfl .nil) x2
    have J := inv_ghost σ hvis J0
    have hr' : Room (k + 1) (X.A.deeper (envOfC x (defScope st) s'.heap.objs.size g cdv)) := hr.deeper _
    have bd := hG cdv X.A X.stack s' H1 f (ghD sd σ) sd σ.length hr' gd (ghost_nodup S0.nd hNg _) (fun W pn xe p1 p2 tk => by
      refine pe_imp (pe_actW (i := 0) (t := fun E => liftX X.K (fun cls d _ H' => E cls d H') wl) I1 L hq hf hfn hfr (hbind _ _ _ _ _) hP ht hc tk hr' gd (fun A outer s H E hr2 hg2 => hbody A outer s H E f c' hr2 hg2 (takes_of rfl rfl rfl rfl)) (hN0 _) hva had hacd) fun σZ HZ QZ hz => ?_
      obtain ⟨sdZ, SZ, QZ0, X0, stZ, ⟨h0, hd, hT, hwl⟩, anZ, axZ⟩ := hz
      obtain ⟨v0, hv0, rv0⟩ := stZ.r.2 0 _ h0
      have ev0 : v0 = .ref f := rv0
      subst ev0
      obtain ⟨psZ, hpZ, _, hcZ⟩ := stZ.s P _ hT
      refine ⟨hv0, ⟨psZ, hpZ, fun pos cv z => let ⟨c, e1, _, e3⟩ := hcZ pos cv z; ⟨c, e1, e3⟩⟩, sd, SZ, QZ0, fun _ => X0 sdZ, ⟨stZ.s, ghD_back st0.r stZ.r hd⟩, hwl, anZ, fun n fs sd' S' σ' H' C d q1 n1 s1 hn hf => ?_⟩
      exact axZ n fs sdZ S' σZ H' C d q1 n1 (stZ.nx n1 s1.s) hn hf)
    have rel : RelS X.K S H1 (startD N [.obj f] ++ ghD sd σ) (start N [.ref f] ++ σ) := by
      have r1 : RelS X.K S H1 (startD N [.obj f]) (start N [.ref f]) := start_rel ⟨.ref f, [], rfl, rfl, rfl⟩
      refine ⟨by rw [List.length_append, List.length_append, r1.1, ghD_len st0.r.1], fun i d e => ?_⟩
      by_cases hi : i < (startD N [.obj f]).length
      · rw [List.getElem?_append_left hi] at e
        obtain ⟨v, hv, rv⟩ := r1.2 i d e
        exact ⟨v, by rw [List.getElem?_append_left (by rw [← r1.1]; exact hi)]; exact hv, rv⟩
      · rw [List.getElem?_append_right (by omega)] at e
        obtain ⟨d', v, e1, e2, rfl⟩ := ghD_of e
        obtain ⟨v', e3, rv⟩ := st0.r.2 _ _ e1
        have ev : v' = v := by
          rw [e2] at e3
          cases e3
          rfl
        subst ev
        exact ⟨v', by rw [List.getElem?_append_right (by rw [← r1.1]; omega), ← r1.1]; exact e2, rfl, Rel.nx nx _ _ rv⟩
    refine wpAny_mono (bd.nox.run [] s2 _ H1 { nx := fun _ H' => Q .non H', rt := Q } J ⟨startD N [.obj f] ++ ghD sd σ, S, endsOf Q0, ⟨sr1, rel⟩, hwg f _, ⟨fun sd2 S2 σ2 H2 q n st => Cl.ans (an.nx nx) .non S2 .non H2 q n st.s rfl, Cl.ans (an.nx nx), fun _ _ _ _ q => q.elim, fun _ _ _ _ q => q.elim⟩⟩) (fun fl s3 hs => ?_) fun _ _ hs => hs
    cases fl with
    | ret u => exact let ⟨v, _, H', J, rv, q⟩ := hs; ⟨v, H', J.os, J.bare, J.base, J.hok, rv, q⟩
    | next => exact let ⟨_, H', J, q⟩ := hs; ⟨.non, H', J.os, J.bare, J.base, J.hok, rfl, q⟩
    | brk => exact let ⟨_, _, _, q⟩ := hs; q.elim
    | cont => exact let ⟨_, _, _, q⟩ := hs; q.elim
  refine wpAny_call (codeAny_mono rc fun r s3 hq => ?_)
  cases r with
  | error e => exact (show False from hq).elim
  | ok fl =>
    cases fl with
    | ret u => exact I1.after hq
    | next => exact False.elim hq
    | brk => exact False.elim hq
    | cont => exact False.elim hq
end
end L2.DL

/-! DL62: defs that are called in a suite; defs whose code object is told; the law's head with tables of code objects -/
namespace L2.DL
open PySem PySem.Spec PyProof.Rows
abbrev FnDU (P : Program) (w : World) (K : PySem.W.Frag) (mg : Str → Option Value) (base : Heap) (k : Nat) (f : Addr) (fd : FuncData) (ps : List Str) (sp : DSp) : Prop := FnU P w K mg base k f fd ps (liftSp K sp)
section
variable {P : Program} {w : World} {K : PySem.W.Frag} {mg : Str → Option Value} {base : Heap}
theorem fnU_ok {k : Nat} {f : Addr} {fd : FuncData} {qual : Str} {st : Stmt} {N ps : List Str} {sp : DSp} {w0 : WS} (F : FnAt K qual st f fd) (S : FnScope N ps (defScope st)) (len : ∀ ds S Q E, sp ds S Q E → ds.length = ps.length)
    (body : ∀ (cdv : Value) (A : Around) (outer : List Env) (s : Shared) (H : Hp) (E : XK), RoomU k (A.deeper (envOfC qual (defScope st) s.heap.objs.size f cdv)) → (A.deeper (envOfC qual (defScope st) s.heap.objs.size f cdv)).guards = some [] →
      DSs (cxU P w K mg base N qual (defScope st) f cdv A outer s H E).nox (defBody st) w0)
    (hw : ∀ ds S Q E, sp ds S Q E → w0 (endsOf Q) (startD N ds) S) : FnDU P w K mg base (k + 1) f fd ps sp := by
  refine fnU_body F S (fun vs H Q E ⟨ds, S, Q0, E0, _, r, h, _⟩ => by rw [← r.length]; exact len _ _ _ _ h) fun cdv A outer s H vs Q E hr hg ⟨ds, S, Q0, E0, sr, r, h, an, _⟩ => ?_
  refine ⟨_, (body cdv A outer s H E hr hg).nox, startD N ds, S, endsOf Q0, ⟨sr, start_rel r⟩, hw ds S Q0 E0 h, fun sd S' σ H' q n st => ?_, Cl.ans an, fun _ _ _ _ q => q.elim, fun _ _ _ _ q => q.elim⟩
  exact Cl.ans an .non S' .non H' q n st.s rfl
/-- a def's object, its code object told -/
def FnAtC (K : PySem.W.Frag) (qual : Str) (st : Stmt) (f : Addr) (fd : FuncData) (cdv : Value) : Prop := ∃ (x : Str) (oc : Value) (od : Option Addr) (dV kV doc pm : Value) (an : Option Addr) (ct : Value) (osl : Array (Option Value)),
  fd = PySem.W.fnOf x qual (defArgs st) (defBody st) (defScope st) dV kV doc pm an cdv ct ∧ K.lookup f = some ⟨oc, od, .func fd, osl⟩ ∧ PySem.W.codeIn K cdv qual = true
theorem fnD_okC {k : Nat} {f : Addr} {fd : FuncData} {qual : Str} {st : Stmt} {N ps : List Str} {sp : DSp} {w0 : WS} {cdv : Value} (F : FnAtC K qual st f fd cdv) (S : FnScope N ps (defScope st)) (len : ∀ ds S Q E, sp ds S Q E → ds.length = ps.length)
    (body : ∀ (A : Around) (outer : List Env) (s : Shared) (H : Hp) (E : XK), Room k (A.deeper (envOfC qual (defScope st) s.heap.objs.size f cdv)) → (A.deeper (envOfC qual (defScope st) s.heap.objs.size f cdv)).guards = some [] →
      DSs (cxOf CX0 P w K mg base N qual (defScope st) f cdv A outer s H E).nox (defBody st) w0)
    (hw : ∀ ds S Q E, sp ds S Q E → w0 (endsOf Q) (startD N ds) S) : FnD P w K mg base (k + 1) f fd ps sp := by
  obtain ⟨x, oc, od, dV, kV, doc, pm, an, ct, osl, rfl, lk, hcd⟩ := F
  refine ⟨fun vs H Q E ⟨ds, S, Q0, E0, _, r, h, _⟩ => by rw [← r.length]; exact len _ _ _ _ h, fun A outer s H args us vs Q E hr hg e0 hb r ⟨ds, S', Q0, E0, sr, rd, h, an', _⟩ => ?_⟩
  have keepB : ∀ b o, base.get? b = some o → s.heap.get? b = some o := fun b o e => (e0.bs b o e).1
  have kinds : ∀ y ∈ ps.zip us, (defScope st).names.lookup y.1 = some .local ∨ ((defScope st).names.lookup y.1 = some .cell ∧ ((cellsFrom (s.heap.objs.size + 1) (defScope st).names []).lookup y.1).isSome = true) := by
    rintro ⟨n, v⟩ hy
    exact (S.par n (List.of_mem_zip hy).1).imp id fun q => ⟨q, PySem.W.cellsFrom_some _ _ _ (.inl q)⟩
  have hl : vs.length = ps.length := by rw [← rd.length]; exact len _ _ _ _ h
  refine codeAny_call_function hr.depth (e0.mod.kin.keeps keepB _ _ lk) rfl S.co S.gen rfl (PySem.W.codeRec_of (e0.mod.kin.keeps keepB) hcd) (hb _ _ _ _ (wpAny_newFunctionEnv_cells S.kind kinds fun env he s1 x => ?_))
  subst he
  refine ⟨(e0.mod.nolimit.keeps keepB).keeps x.toInCall.keep, codeAny_func ?_⟩
  have I := inv_start (CX := CX0) (E := E) S hr.hd e0 hl r x
  refine wpAny_mono ((body A outer s H E (hr.deeper _) hg).nox.run [] s1 _ H { nx := fun _ H' => Q .non H', rt := Q } I ⟨startD N ds, S', endsOf Q0, ⟨sr, start_rel rd⟩, hw ds S' Q0 E0 h, fun sd S2 σ H' q n st => Cl.ans an' .non S2 .non H' q n st.s rfl, Cl.ans an', fun _ _ _ _ q => q.elim, fun _ _ _ _ q => q.elim⟩) (fun fl s' hs => ?_) fun _ _ hs => hs
  cases fl with
  | ret u => exact let ⟨v, _, H', J, rv, q⟩ := hs; ⟨v, H', J.os, J.bare, J.base, J.hok, rv, q⟩
  | next => exact let ⟨_, H', J, q⟩ := hs; ⟨.non, H', J.os, J.bare, J.base, J.hok, rfl, q⟩
  | brk => exact let ⟨_, _, _, q⟩ := hs; q.elim
  | cont => exact let ⟨_, _, _, q⟩ := hs; q.elim
end
section
variable {X : Cx} {k : Nat} {f : Addr} {fd : FuncData} {ps : List Str} {dsp : DSp} {x : Str} {p pos : Pos} {e : Expr} {es : List Expr} {wt : WA}
theorem de_fnU (F : FnDU X.prog X.w X.K X.mg X.base k f fd ps dsp) (hr : RoomU k X.A) (gd : X.A.guards = some []) (hm : X.mg x = some (.ref f)) (hk : PySem.W.keepIn X.K (.ref f) = true) (hb : Binds X.K fd ps []) (ha : DA X (e :: es) wt)
    (hg : Gl X x := by rfl) (hdb : (x == ("__debug__" : Str)) = false := by decide) (he : starEach (e :: es) X.env = (false, eval e X.env) :: starEach es X.env := by rfl) (hpl : (backTo pos (starEach es X.env)).any (·.1) = false := by rfl) :
    DE X (.Call (.Name x p) (e :: es) [] pos) (wFn dsp [] wt) :=
  pe_imp (peU_call (E := E0) F hr gd hg hm hk hb ha hdb he hpl) fun σ H Q ⟨sd, S, Q0, st, q, an⟩ => ⟨sd, S, _, st, q, fun xs S1 vs H1 q1 n1 s1 r1 => ⟨xs, S1, Q0, NoE, s1, r1, by rw [← List.append_nil xs]; exact q1, an.nx n1, noE_ans⟩⟩
end
/-! ### the law's head with tables -/
/-- the place of the table of a code object at c -/
def tabOf (K : PySem.W.Frag) (c : Addr) : Addr := match K.lookup c with
  | some ⟨_, _, .fields vs, _⟩ => (match vs.getD 11 .none with
    | .ref P => P
    | _ => 0)
  | _ => 0
/-- the law's def promises: of a script of ints, the tables at their places, it says True -/
def LawSpT (n : Nat) (cs : List (Addr × Str)) : DSp := fun ds S Q _ => ∃ ns : List Int, ds = [.src (ns.map D.int)] ∧ ns.length ≤ n ∧ (∀ p ∈ cs, S p.1 = some (.tb p.2)) ∧ ∀ S', Q (.bl true) S'
theorem law_callTG {P : Program} {w : World} {K : PySem.W.Frag} {mg mb : Str → Option Value} {k : Nat} {fa a : Addr} {cs : List (Addr × Addr)} {fd : FuncData} {x : Str} {sp : Sp} {s₁ : Shared} {vs : List Value} {ns : List Int}
    (KX : K.In s₁.heap) (hns : s₁.heap.Ns mainGlobals mg) (hb : s₁.heap.Ns builtinsNs mb) (hbb : ∀ x : Str, x ≠ "__name__" → mb x = bootBuiltins x) (hlim : s₁.heap.NoLimit) (hg : s₁.gens = #[])
    (hT : ∀ p ∈ cs, s₁.heap.get? p.2 = some { cls := .none, data := .fields #[] }) (nT : ∀ p ∈ cs, K.lookup p.2 = none) (C : ∀ p ∈ cs, PySem.W.CodeHd s₁.heap p.1 p.2)
    (hbm : ∃ (bm : Addr) (ob : Obj), mg "__builtins__" = some (.ref bm) ∧ bm ≠ builtinsNs ∧ s₁.heap.get? bm = some ob ∧ ob.cls = .type "module" ∧ ob.dict = some builtinsNs ∧ ob.data = .plain)
    (ha : s₁.heap.get? a = some { cls := .type "list", data := .seq vs.toArray }) (hi : IntsAre vs ns) (hl : ns.length ≤ sizeLine) (hr : Room k callerA)
    (F : ∀ base : Heap, K.In base → base.Ns mainGlobals mg → (∀ p ∈ cs, LamX.TabB base mg p.1 p.2) → FnG P w K mg base CX0 k fa fd [x] sp) (hbind : ∀ (s : Shared) (u : Value), BindsTo s fd ⟨[u], []⟩ [(x, u)])
    (hsp : ∀ H : Hp, (∀ p ∈ cs, H p.2 = some (.tbl #[])) → SqL K H a (ns.map V.int) → sp [.ref a] H (fun v _ => v = .bl true) fun _ _ _ => False) :
    codeAny (model P w) callerA (.call (.ref fa) ⟨[.ref a], []⟩) (fun r s' => r = .ok (.ret (.bool true)) ∧ OldK s₁.heap s'.heap ∧ s'.os = s₁.os ∧ AllBare s'.gens) s₁ := by
  have rv := vals_ints hi
  have lenV := hi.length
  have isT : ∀ b : Addr, b ∈ cs.map (·.2) → s₁.heap.get? b = some { cls := .none, data := .fields #[] } := fun b hb => by
    obtain ⟨p, hp, e⟩ := List.mem_map.mp hb
    rw [← e]
    exact hT p hp
  have aT : a ∉ cs.map (·.2) := fun z => by
    have q := isT a z
    rw [ha] at q
    have z' : Data.seq vs.toArray _ = Data.fields #[] := congrArg Obj.data (Option.some.inj q)
    cases z'
  have memT : ∀ p ∈ cs, p.2 ∈ cs.map (·.2) := fun p hp => List.mem_map.mpr ⟨p, hp, rfl⟩
  have core : ∀ H : Hp, (∀ p ∈ cs, H p.2 = some (.tbl #[])) → (∀ b, H b = none ∨ b ∈ cs.map (·.2) ∨ ∃ o xs, H b = some (.frz o (.lst xs))) → SqL K H a (ns.map V.int) → HOk P w H s₁.heap → (∀ b, H b ≠ none → b = a ∨ b ∈ cs.map (·.2)) → (H a ≠ none → K.lookup a = none) →
      codeAny (model P w) callerA (.call (.ref fa) ⟨[.ref a], []⟩) (fun r s' => r = .ok (.ret (.bool true)) ∧ OldK s₁.heap s'.heap ∧ s'.os = s₁.os ∧ AllBare s'.gens) s₁ := by
    intro H hH hO hS hok hA hK
    have base_of : ∀ {b : Addr} {o : Obj}, s₁.heap.get? b = some o → H b = none → (hidT s₁.heap H).get? b = some o := fun e n => hidT_get e n
    have noD : ∀ {b : Addr} {o : Obj}, s₁.heap.get? b = some o → (∀ vs n, o.data ≠ .seq vs n) → o.data ≠ .fields #[] → H b = none := fun {b o} e h1 h2 => by
      cases q : H b with
      | none => rfl
      | some u =>
        rcases hA b (by rw [q]; simp) with e' | e'
        · rw [e', ha] at e
          cases e
          exact (h1 _ _ rfl).elim
        · rw [isT b e'] at e
          cases e
          exact (h2 rfl).elim
    have noA : ∀ {b : Addr} {o : Obj} {es : Array DictEntry} {ep : Nat}, s₁.heap.get? b = some o → o.data = .dict es ep → H b = none := fun {b o es ep} e d => by
      refine noD e (fun vs n z => ?_) fun z => ?_
      · rw [d] at z
        cases z
      · rw [d] at z
        cases z
    have nsK : ∀ {b : Addr} {m : Str → Option Value}, s₁.heap.Ns b m → (hidT s₁.heap H).Ns b m := fun {b m} ⟨o, es, ep, e, d, r⟩ => ⟨o, es, ep, base_of e (noA e d), d, r⟩
    have hKb : K.In (hidT s₁.heap H) := fun b o e => base_of (KX b o e) (by
      cases q : H b with
      | none => rfl
      | some u =>
        rcases hA b (by rw [q]; simp) with e' | e'
        · rw [e'] at e q
          rw [hK (by rw [q]; simp)] at e
          cases e
        · obtain ⟨p, hp, ep⟩ := List.mem_map.mp e'
          rw [← ep, nT p hp] at e
          cases e)
    have hM : L2.Mod K mg (hidT s₁.heap H) := ⟨hKb, nsK hns, ⟨mb, nsK hb, hbb⟩, let ⟨mc, h1, h2⟩ := hlim; ⟨mc, nsK h1, h2⟩⟩
    have TB : ∀ p ∈ cs, LamX.TabB (hidT s₁.heap H) mg p.1 p.2 := fun p hp => by
      have hTp := hT p hp
      refine ⟨?_, ?_, fun z => ?_⟩
      · obtain ⟨o, us, file, tf, flags, tg, inF, text, tt, e1, r1, r2, r3, r4, r5, r6, r7, r8, hne⟩ := C p hp
        refine ⟨o, us, file, tf, flags, tg, inF, text, tt, base_of e1 (noD e1 (fun vs n z => ?_) fun z => ?_), r1, r2, r3, r4, r5, r6, r7, r8, hne⟩
        · rw [r2] at z
          cases z
        · rw [r2] at z
          cases z
          simp at r3
      · obtain ⟨bm, ob, b1, b2, b3, b4, b5, b6⟩ := hbm
        have nG : bm ≠ mainGlobals := fun q => by
          obtain ⟨o, es, ep, e, hd, _⟩ := hns
          rw [q, e] at b3
          cases b3
          rw [hd] at b6
          cases b6
        have nP : bm ≠ p.2 := fun q => by
          rw [q, hTp] at b3
          cases b3
          cases b6
        refine ⟨bm, ob, b1, b2, nG, nP, base_of b3 (noD b3 (fun vs n z => ?_) fun z => ?_), b4, b5, b6⟩
        · rw [b6] at z
          cases z
        · rw [b6] at z
          cases z
      · obtain ⟨o, es, ep, e, hd, _⟩ := hns
        rw [z, hTp] at e
        cases e
        cases hd
    have e0 : Env0 P w K mg (hidT s₁.heap H) callerA [] s₁ H := ⟨rfl, hM, fun b o e => of_hidT e, Nat.le_of_eq (hidT_size _ _), trivial, fun b hb => absurd (show b ∈ ([] : List Addr) from hb) (by simp), hok, .of_eq hg⟩
    refine codeAny_mono ((F _ hKb (nsK hns) TB).go callerA [] s₁ H ⟨[.ref a], []⟩ [.ref a] [.ref a] _ _ hr rfl e0 (hbind s₁ (.ref a)) (.cons rfl .nil) (hsp H hH hS)) fun r s' h => ?_
    cases r with
    | error e => exact (show False from h).elim
    | ok fl =>
      cases fl with
      | next => exact False.elim h
      | brk => exact False.elim h
      | cont => exact False.elim h
      | ret u =>
        obtain ⟨v, H', os, bare, un, hok', r', q⟩ := h
        have q' : v = .bl true := q
        subst q'
        obtain rfl : u = Value.bool true := r'
        have key : ∀ b o, b ∉ cs.map (·.2) → s₁.heap.get? b = some o → s'.heap.get? b = some o := fun b o nb e => by
          cases q : H b with
          | none => exact un.keep b o e q (by intro z; exact absurd (show b ∈ ([] : List Addr) from z) (by simp)) (by simp)
          | some u =>
            rcases hO b with z | z | ⟨ob, xs, z⟩
            · rw [q] at z; cases z
            · exact absurd z nb
            · have z2 := un.frzs b ob _ z
              obtain ⟨e1, _⟩ := hok b _ z
              obtain ⟨e2, _⟩ := hok' b _ z2
              rw [e] at e1; cases e1
              exact e2
        have grown : ∀ p ∈ cs, ∃ more : Array Value, s'.heap.get? p.2 = some { cls := .none, data := .fields more } := fun p hp => by
          obtain ⟨more, z⟩ := un.tbls p.2 #[] (hH p hp)
          exact ⟨_, hok' p.2 _ z⟩
        refine ⟨rfl, ⟨fun b o e => ?_, fun b o e => ?_⟩, os, bare⟩
        · by_cases hb : b ∈ cs.map (·.2)
          · obtain ⟨p, hp, ep⟩ := List.mem_map.mp hb
            obtain ⟨more, hm⟩ := grown p hp
            rw [← ep] at e ⊢
            rw [hT p hp] at e
            cases e
            exact .inr (.inl ⟨((C p hp).tab (hT p hp)).isCodeTable, rfl, #[], more, rfl, by rw [Array.empty_append]; exact hm⟩)
          · exact .inl (key b o hb e)
        · by_cases hb : b ∈ cs.map (·.2)
          · obtain ⟨p, hp, ep⟩ := List.mem_map.mp hb
            obtain ⟨more, hm⟩ := grown p hp
            rw [← ep]
            exact ⟨_, hm⟩
          · exact ⟨o, key b o hb e⟩
  cases hk : K.lookup a with
  | some o =>
    have e := KX a o hk
    rw [ha] at e
    cases e
    refine core (fun b => if b ∈ cs.map (·.2) then some (.tbl #[]) else none) (fun p hp => if_pos (memT p hp)) (fun b => ?_) (.inr ⟨_, vs.toArray, _, hk, rfl, rfl, rfl, by rw [List.size_toArray, lenV]; exact hl, by simpa using rv⟩) (fun b u z => ?_) (fun b z => ?_) fun z => absurd (show (if a ∈ cs.map (·.2) then some (HO.tbl #[]) else none) = none from if_neg aT) z
    · by_cases hb : b ∈ cs.map (·.2)
      · exact .inr (.inl hb)
      · exact .inl (if_neg hb)
    · by_cases hb : b ∈ cs.map (·.2)
      · have z' := (if_pos hb).symm.trans z
        cases z'
        exact isT b hb
      · have z' := (if_neg hb).symm.trans z
        cases z'
    · by_cases hb : b ∈ cs.map (·.2)
      · exact .inr hb
      · exact absurd (if_neg hb) z
  | none =>
    refine core (fun b => if b = a then some (.frz { cls := .type "list", data := .seq vs.toArray } (.lst (ns.map V.int))) else if b ∈ cs.map (·.2) then some (.tbl #[]) else none) (fun p hp => (if_neg (show ¬ p.2 = a from fun z => aT (by rw [← z]; exact memT p hp))).trans (if_pos (memT p hp))) (fun b => ?_)
      (.inl (.inr ⟨{ cls := .type "list", data := .seq vs.toArray }, if_pos rfl⟩)) (fun b u z => ?_) (fun b z => ?_) fun _ => hk
    · by_cases hb : b = a
      · exact .inr (.inr ⟨_, _, if_pos hb⟩)
      · by_cases hb2 : b ∈ cs.map (·.2)
        · exact .inr (.inl hb2)
        · exact .inl ((if_neg hb).trans (if_neg hb2))
    · by_cases hb : b = a
      · have z' := (if_pos hb).symm.trans z
        cases z'
        rw [hb]
        exact ⟨ha, by rw [List.length_map]; exact hl, vs, _, rv, ha⟩
      · have z1 := (if_neg hb).symm.trans z
        by_cases hb2 : b ∈ cs.map (·.2)
        · have z' := (if_pos hb2).symm.trans z1
          cases z'
          exact isT b hb2
        · have z' := (if_neg hb2).symm.trans z1
          cases z'
    · by_cases hb : b = a
      · exact .inl hb
      · by_cases hb2 : b ∈ cs.map (·.2)
        · exact .inr hb2
        · exact absurd ((if_neg hb).trans (if_neg hb2)) z
theorem walk_GT {l : PySem.W.OpenLaw} {n k : Nat} {q : Program} {loose : List Str} {XP : (Str → Option Value) → Heap → Prop} {YP : World → Heap → Prop} {d : DefRec} {K : Params → PySem.W.Frag} {x : Str}
    (hn : l.most = some n) (hn2 : n ≤ sizeLine) (hdf : d.params.defaults = []) (hr : Room k callerA) (hY : ∀ (w : World) (h : Heap), YP w h → (K w.params).In h)
    (F : ∀ (w : World) (mg : Str → Option Value) (fa : Addr) (h : Heap), YP w h → (K w.params).In h → h.Ns mainGlobals mg → mg d.name = some (.ref fa) →
      ∃ (fd : FuncData) (cs : List (Addr × Addr × Str)), (∀ p ∈ cs, h.get? p.2.1 = some { cls := .none, data := .fields #[] }) ∧ (∀ p ∈ cs, (K w.params).lookup p.2.1 = none) ∧ (∀ p ∈ cs, PySem.W.CodeHd h p.1 p.2.1) ∧ (cs.map (·.2.1)).Nodup ∧
        (∀ (s : Shared) (u : Value), BindsTo s fd ⟨[u], []⟩ [(x, u)]) ∧ ∀ base : Heap, (K w.params).In base → base.Ns mainGlobals mg → (∀ p ∈ cs, LamX.TabB base mg p.1 p.2.1) → FnD l.prog w (K w.params) mg base k fa fd [x] (LawSpT n (cs.map (·.2)))) :
    PySem.W.WalkO q loose XP YP l.row.toRowW d [] (fun f vs => PySem.call f vs) := by
  refine Att.attach_callB hn hdf fun w s₀ s₁ mg mb fa o pm cd doc a vs ns G Y ho hd hcd hmg hobj hints hlen hbits hg => ?_
  have KX := hY w _ Y
  obtain ⟨fd, cs, hT, nT, C, nd, hb, hF⟩ := F w mg fa _ Y KX G.T.g hmg
  have mem2 : ∀ p ∈ cs.map (fun p => (p.1, p.2.1)), ∃ r ∈ cs, p = (r.1, r.2.1) := fun p hp => by
    obtain ⟨r, hr, e⟩ := List.mem_map.mp hp
    exact ⟨r, hr, e.symm⟩
  refine law_callTG (cs := cs.map fun p => (p.1, p.2.1)) KX G.T.g G.T.b G.T.builtins G.T.nolimit hg (fun p hp => by obtain ⟨r, hr, rfl⟩ := mem2 p hp; exact hT r hr) (fun p hp => by obtain ⟨r, hr, rfl⟩ := mem2 p hp; exact nT r hr) (fun p hp => by obtain ⟨r, hr, rfl⟩ := mem2 p hp; exact C r hr) G.T.bmain hobj hints (Nat.le_trans hlen hn2) hr
    (fun base hk hn hTB => hF base hk hn fun p hp => hTB (p.1, p.2.1) (List.mem_map.mpr ⟨p, hp, rfl⟩)) hb fun H hH hS => ?_
  have hH' : ∀ p ∈ cs, H p.2.1 = some (.tbl #[]) := fun p hp => hH (p.1, p.2.1) (List.mem_map.mpr ⟨p, hp, rfl⟩)
  let S0 : SO := fun b => (cs.find? fun p => p.2.1 == b).map fun p => DO.tb p.2.2
  have at_ : ∀ p ∈ cs, S0 p.2.1 = some (.tb p.2.2) := fun p hp => by
    have key : ∀ l : List (Addr × Addr × Str), (l.map (·.2.1)).Nodup → p ∈ l → (l.find? fun r => r.2.1 == p.2.1) = some p := by
      intro l
      induction l with
      | nil => exact fun _ h => absurd h (by simp)
      | cons r l ih =>
        intro nd h
        rw [List.map_cons] at nd
        have ⟨n1, n2⟩ := List.nodup_cons.mp nd
        rw [List.find?_cons]
        rcases List.mem_cons.mp h with e | h
        · subst e
          rw [beq_self_eq_true]
        · have ne : (r.2.1 == p.2.1) = false := by
            refine beq_eq_false_iff_ne.mpr fun e => n1 ?_
            rw [e]
            exact List.mem_map.mpr ⟨p, h, rfl⟩
          rw [ne]
          exact ih n2 h
    show (cs.find? fun r => r.2.1 == p.2.1).map (fun p => DO.tb p.2.2) = _
    rw [key cs nd hp]
    rfl
  have of_ : ∀ b o, S0 b = some o → ∃ p ∈ cs, b = p.2.1 ∧ o = .tb p.2.2 := fun b o e => by
    obtain ⟨p, hp, rfl⟩ := Option.map_eq_some_iff.mp (show (cs.find? fun p => p.2.1 == b).map (fun p => DO.tb p.2.2) = some o from e)
    exact ⟨p, List.mem_of_find?_eq_some hp, (by
      have z := List.find?_some hp
      exact (beq_iff_eq.mp z).symm), rfl⟩
  have sr : SRel (K w.params) S0 H := fun b o e => by
    obtain ⟨p, hp, rfl, rfl⟩ := of_ b o e
    exact ⟨#[], hH' p hp, True.intro, fun pos cv hc => by
      have z : codeAmong pos [] = some cv := hc
      simp [codeAmong] at z⟩
  refine ⟨[.src (ns.map D.int)], S0, fun d _ => d = .bl true, NoE, sr, ⟨.ref a, [], rfl, ⟨a, _, rfl, ?_, rels_of_ints ns⟩, rfl⟩, ⟨ns, rfl, hlen, fun p hp => ?_, fun _ => rfl⟩, fun d S' v H' e _ _ r => ?_, noE_ans⟩
  · rcases hS with h | h
    · refine .inl ⟨?_, h⟩
      cases q : S0 a with
      | none => rfl
      | some o =>
        obtain ⟨p, hp, e, _⟩ := of_ a o q
        have z := hH' p hp
        rw [← e] at z
        rcases h with h | ⟨o', h⟩ <;> rw [h] at z <;> cases z
    · exact .inr h
  · obtain ⟨r, hr, rfl⟩ := List.mem_map.mp hp
    exact at_ r hr
  · subst e
    exact r
end L2.DL

/-! X7: what the written part says of an exception class and its __init__, asked at once -/
namespace PySem
namespace ErrX
open PySem.W PySem.Calls PyProof.Rows PySem.HandSPX PySem.Spec
def clsEB (K : Frag) (C : Addr) (B newId : String) (bmB : List Value) : Bool :=
  excInitIn K C bmB newId && (excOver K C bmB && (decide (findIn K (.ref C) "__setattr__" = some (some (.builtin "object.__setattr__"))) && (hasDictIn K C && (decide (subIn K (.ref C) (.type B) = some true) && (decide (subIn K (.ref C) (.type "BaseException") = some true) &&
  (decide (mroIn K C (.ref C) = some true) && (decide (typeIn K (.ref C) = some (.type "type")) && keepIn K (.ref C))))))))
theorem clsE_of {K : Frag} {C : Addr} {B newId : String} {bmB : List Value} (h : clsEB K C B newId bmB = true) : ClsE K C B newId bmB := by
  unfold clsEB at h
  simp only [Bool.and_eq_true, decide_eq_true_eq] at h
  obtain ⟨h1, h2, h3, h4, h5, h6, h7, h8, h9⟩ := h
  exact ⟨h1, h2, h3, h4, h5, h6, h7, h8, h9⟩
def argsB (g : Str) : Arguments → Bool
  | ⟨[], [⟨a1, none, _⟩, ⟨a2, none, _⟩], none, [], [], none, []⟩ => a1 == "self" && a2 == g
  | _ => false
theorem argsB_of {g : Str} {a : Arguments} (h : argsB g a = true) : ∃ p1 p2, a = iA g p1 p2 := by
  unfold argsB at h
  split at h
  · rw [Bool.and_eq_true, beq_iff_eq, beq_iff_eq] at h
    obtain ⟨rfl, rfl⟩ := h
    exact ⟨_, _, rfl⟩
  · cases h
def bodyB (g : Str) : FuncBody → Bool
  | .stmts [.Expr (.Call (.Attribute (.Call (.Name n1 _) [] [] _) n2 r2) [] [] r3) _, .Assign [.Attribute (.Name n3 _) n4 _] (.Name n5 _) _] => n1 == "super" && (n2 == "__init__" && (n3 == "self" && (n4 == g && (n5 == g && r2.endLine == r3.line))))
  | _ => false
theorem bodyB_of {g : Str} {b : FuncBody} (h : bodyB g b = true) : ∃ p0 p1 p2 p3 p4 q1 q2 q3 q4, b = .stmts (iB g p0 p1 p2 p3 p4 q1 q2 q3 q4) ∧ (p2.endLine == p3.line) = true := by
  unfold bodyB at h
  split at h
  · simp only [Bool.and_eq_true] at h
    obtain ⟨h1, h2, h3, h4, h5, h6⟩ := h
    rw [beq_iff_eq] at h1 h2 h3 h4 h5
    subst h1 h2 h3 h4 h5
    exact ⟨_, _, _, _, _, _, _, _, _, rfl, h6⟩
  · cases h
def cellB (K : Frag) (C cc : Addr) : Bool := match K.lookup cc with
  | some ⟨_, _, .cell (some (.ref D)), _⟩ => D == C
  | _ => false
def codeB (P : Program) (K : Frag) (cda : Addr) : Bool := match K.lookup cda with
  | some ⟨_, _, .fields vs, _⟩ => (match (vs[2]? : Option Value) with
    | some (.str file _) => (P.main.file : Str) == file
    | _ => false)
  | _ => false
def fnB (P : Program) (K : Frag) (C : Addr) (g : Str) (fd : FuncData) : Bool := match fd.closure, fd.code, fd.defaults with
  | [(cn, cc)], .ref cda, .none => fd.name == "__init__" && (argsB g fd.params && (bodyB g fd.body && (decide (fd.scope = iS g) && (fd.globals == mainGlobals && (fd.builtins == builtinsNs && (cn == "__class__" && (codeIn K (.ref cda) fd.qualname && (cellB K C cc && codeB P K cda))))))))
  | _, _, _ => false
def initEB (P : Program) (K : Frag) (C : Addr) (initId : String) (g : Str) : Bool := match findIn K (.ref C) "__init__" with
  | some (some (.ref fI)) => (match K.lookup fI with
    | some ⟨_, _, .func fd, _⟩ => fnB P K C g fd && (decide (typeIn K (.ref fI) = some (.type "function")) && (decide (takerIn K C g = some none) && (decide (nsIn K cStatics "thirdparty.any" = some none) && (decide (ks_superIn K C C "__init__" = some (some (.builtin initId))) &&
        (decide (nsIn K mainGlobals "super" = some none) && !(P.main.scope.names.lookup ("super" : Str)).isSome)))))
    | _ => false)
  | _ => false
theorem initE_of {P : Program} {K : Frag} {C : Addr} {initId : String} {g : Str} (F : FieldOk g) (h : initEB P K C initId g = true) : ∃ fI, InitE P K C fI initId g := by
  unfold initEB at h
  split at h
  · rename_i fI hi
    split at h
    · rename_i oc od fd sl lk
      simp only [Bool.and_eq_true, decide_eq_true_eq, Bool.not_eq_true'] at h
      obtain ⟨h1, h2, h3, h4, h5, h6, h7⟩ := h
      refine ⟨fI, hi, h2, h3, h4, h5, h6, ?_, h7, F⟩
      unfold fnB at h1
      split at h1
      · rename_i cn cc cda e1 e2 e3
        simp only [Bool.and_eq_true, decide_eq_true_eq] at h1
        obtain ⟨a1, a2, a3, a4, a5, a6, a7, a8, a9, a10⟩ := h1
        obtain ⟨p1, p2, b2⟩ := argsB_of a2
        obtain ⟨r0, r1, r2, r3, r4, q1, q2, q3, q4, b3, hpos⟩ := bodyB_of a3
        clear a2 a3
        obtain ⟨name, qual, params, body, scope, globals, closure, defaults, kV, doc, pm, an, code, ct, builtins⟩ := fd
        dsimp only at e1 e2 e3 a1 b2 b3 a4 a5 a6 a8
        rw [beq_iff_eq] at a1 a5 a6 a7
        subst e1 e2 e3 a1 b2 b3 a4 a5 a6 a7
        unfold cellB at a9
        split at a9
        · rename_i cl cld D csl hcell
          rw [beq_iff_eq] at a9
          subst a9
          unfold codeB at a10
          split at a10
          · rename_i ccl cdd vs ccs hcode
            split at a10
            · rename_i file tf hvs
              exact ⟨oc, od, qual, kV, doc, pm, an, cda, cc, ct, sl, p1, p2, r0, r1, r2, r3, r4, q1, q2, q3, q4, cl, cld, csl, ccl, cdd, vs, ccs, file, tf, lk, a8, hcell, hcode, hvs, a10, hpos⟩
            · cases a10
          · cases a10
        · cases a9
      · cases h1
    · cases h
  · cases h
end ErrX
end PySem

/-! DL63: the program's exceptions told at once; steps of readings with exceptions and lambdas -/
namespace L2.DL
open PySem PySem.Spec PyProof.Rows
/-- the fields of an exception class -/
def errFld (n : Str) : List Str := if n = "NothingToUndo" then [] else if n = "Broken" then ["index", "shown"] else if n = "HasRing" then ["ring"] else if n = "NotMet" then ["pair"] else if n = "TooMany" then ["most"] else if n = "InvalidPlaces" ∨ n = "InvalidTies" ∨ n = "InvalidWishes" ∨ n = "InvalidChanges" ∨ n = "InUse" then ["index"] else ["given"]
def ErrT (K : PySem.W.Frag) (ns ms : List Str) (bs : List String) : Prop := ∀ n ∈ ns, ∃ C, ErrN K n ms bs (errFld n) C
def errTB (K : PySem.W.Frag) (ns ms : List Str) (bs : List String) : Bool := ns.all fun n => errNB K n ms bs (errFld n)
theorem errT_of {K : PySem.W.Frag} {ns ms : List Str} {bs : List String} (h : errTB K ns ms bs = true) : ErrT K ns ms bs := fun n hn => errN_of (List.all_eq_true.mp h n hn)
theorem errT_a {K : PySem.W.Frag} {ns ms : List Str} {bs : List String} (h : ErrT K ns ms bs) : ∀ n ∈ ns, ∃ fs C, ErrN K n ms bs fs C := fun n hn => let ⟨C, T⟩ := h n hn; ⟨_, C, T⟩
theorem errT_f {K : PySem.W.Frag} {ns ms ns' : List Str} {bs : List String} {f : Str} (h : ErrT K ns ms bs) (hs : (ns'.all fun n => ns.contains n && (errFld n).contains f) = true) : ∀ n ∈ ns', ∃ fs C, ErrN K n ms bs fs C ∧ f ∈ fs := fun n hn => by
  have z := List.all_eq_true.mp hs n hn
  rw [Bool.and_eq_true] at z
  obtain ⟨C, T⟩ := h n (by simpa using z.1)
  exact ⟨_, C, T, by simpa using z.2⟩
theorem errT_h {K : PySem.W.Frag} {ns ms : List Str} {bs : List String} {l : List (Str × Addr)} (h : ErrT K ns ms bs) (hs : (l.map (·.1)).all (fun m => ms.contains m) = true) : ∀ n ∈ ns, ∃ ms bs fs C, ErrN K n ms bs fs C ∧ ∀ p ∈ l, p.1 ∈ ms := fun n hn => by
  obtain ⟨C, T⟩ := h n hn
  refine ⟨ms, bs, _, C, T, fun p hp => ?_⟩
  have z := List.all_eq_true.mp hs p.1 (List.mem_map.mpr ⟨p, hp, rfl⟩)
  simpa using z
def nsA : List Str := ["InvalidText", "InvalidTie", "InvalidParting", "NotAWeb", "InvalidPlaces", "InvalidTies", "NotMet", "TooMany", "NothingToUndo", "InvalidNumber", "UnknownPlace"]
def msA : List Str := nsA ++ (["NotRight", "NotThere", "CannotBe"] : List Str)
def bsA : List String := ["ValueError", "LookupError", "ArithmeticError"]
theorem all3 {α : Type} {P : α → Prop} {a b c : α} (h1 : P a) (h2 : P b) (h3 : P c) : ∀ p ∈ [a, b, c], P p := fun p hp => by
  simp only [List.mem_cons, List.not_mem_nil, or_false] at hp
  rcases hp with rfl | rfl | rfl
  · exact h1
  · exact h2
  · exact h3
def wTry0 (ns : List Str) (wb : WSX) (hs : List HdD) : WS := fun E sd S => wTry ns wb hs E (fun _ _ _ _ => False) sd S
/-! ### steps -/
section
variable {E : EndsD} {X0 : EX} {sd : SD} {S : SO} {Q : KD} {a b : WSX} {we : WEX} {w : WE} {ws : WS} {t : WA} {wt : WT}
theorem xSeqX (h : a { E with nx := b E X0 } X0 sd S) : wSeqX a b E X0 sd S := h
instance st_xSeqX {lw : Lv} : Step (.s (.s (.s (.s lw)))) (wSeqX a b E X0 sd S) (a { E with nx := b E X0 } X0 sd S) := ⟨fun h => xSeqX h⟩
theorem xNS (h : ws E sd S) : wNS ws E X0 sd S := h
instance st_xNS {lw : Lv} : Step (.s (.s (.s (.s lw)))) (wNS ws E X0 sd S) (ws E sd S) := ⟨fun h => xNS h⟩
theorem xNE (h : w sd S Q) : wNE w sd S Q X0 := h
instance st_xNE {lw : Lv} : Step (.s (.s (.s (.s lw)))) (wNE w sd S Q X0) (w sd S Q) := ⟨fun h => xNE h⟩
theorem xRetX (h : we sd S E.rt X0) : wRetX we E X0 sd S := h
instance st_xRetX {lw : Lv} : Step (.s (.s (.s (.s lw)))) (wRetX we E X0 sd S) (we sd S E.rt X0) := ⟨fun h => xRetX h⟩
theorem xDropX (h : we sd S (fun _ S1 => E.nx sd S1) X0) : wDropX we E X0 sd S := h
instance st_xDropX {lw : Lv} : Step (.s (.s (.s (.s lw)))) (wDropX we E X0 sd S) (we sd S (fun _ S1 => E.nx sd S1) X0) := ⟨fun h => xDropX h⟩
theorem xSetX {i : Nat} (h : we sd S (fun d S1 => E.nx (sd.set i (some d)) S1) X0) : wSetX we i E X0 sd S := h
instance st_xSetX {lw : Lv} {i : Nat} : Step (.s (.s (.s (.s lw)))) (wSetX we i E X0 sd S) (we sd S (fun d S1 => E.nx (sd.set i (some d)) S1) X0) := ⟨fun h => xSetX h⟩
theorem xIfSX (h : wt sd S fun k S1 => if k = true then a E X0 sd S1 else b E X0 sd S1) : wIfSX wt a b E X0 sd S := h
instance st_xIfSX {lw : Lv} : Step (.s (.s (.s (.s lw)))) (wIfSX wt a b E X0 sd S) (wt sd S fun k S1 => if k = true then a E X0 sd S1 else b E X0 sd S1) := ⟨fun h => xIfSX h⟩
theorem xIfX {wa wb : WEX} (h : wt sd S fun k S1 => if k = true then wa sd S1 Q X0 else wb sd S1 Q X0) : wIfX wt wa wb sd S Q X0 := h
instance st_xIfX {lw : Lv} {wa wb : WEX} : Step (.s (.s (.s (.s lw)))) (wIfX wt wa wb sd S Q X0) (wt sd S fun k S1 => if k = true then wa sd S1 Q X0 else wb sd S1 Q X0) := ⟨fun h => xIfX h⟩
theorem xRaise {n g : Str} (h : t sd S fun xs S1 => ∃ x, xs = [x] ∧ X0 sd n [(g, x)] S1) : wRaise n g t E X0 sd S := h
instance st_xRaise {lw : Lv} {n g : Str} : Step (.s (.s (.s (.s lw)))) (wRaise n g t E X0 sd S) (t sd S fun xs S1 => ∃ x, xs = [x] ∧ X0 sd n [(g, x)] S1) := ⟨fun h => xRaise h⟩
theorem xFnX {sp : DSp} (h : t sd S fun xs S1 => sp xs S1 Q (X0 sd)) : wFnX sp [] t sd S Q X0 := by
  unfold wFnX
  simpa only [List.append_nil] using h
instance st_xFnX {lw : Lv} {sp : DSp} : Step (.s (.s (.s (.s lw)))) (wFnX sp [] t sd S Q X0) (t sd S fun xs S1 => sp xs S1 Q (X0 sd)) := ⟨fun h => xFnX h⟩
theorem xFnKX {sp : DSp} {gD : List D → List D → List D} (h : t sd S fun ys S2 => sp (gD [] ys) S2 Q (X0 sd)) : wFnKX sp gD t sd S Q X0 := h
instance st_xFnKX {lw : Lv} {sp : DSp} {gD : List D → List D → List D} : Step (.s (.s (.s (.s lw)))) (wFnKX sp gD t sd S Q X0) (t sd S fun ys S2 => sp (gD [] ys) S2 Q (X0 sd)) := ⟨fun h => xFnKX h⟩
theorem xMthX {C : Addr} {m : Str} {sp : DSp} (h : w sd S fun d S1 => MthD C m d S1 (t sd S1 fun xs S2 => sp (d :: xs) S2 Q (X0 sd))) : wMethX C m sp [] w t sd S Q X0 := by
  unfold wMethX
  simp only [List.append_nil]
  exact h
instance st_xMthX {lw : Lv} {C : Addr} {m : Str} {sp : DSp} : Step (.s (.s (.s (.s lw)))) (wMethX C m sp [] w t sd S Q X0) (w sd S fun d S1 => MthD C m d S1 (t sd S1 fun xs S2 => sp (d :: xs) S2 Q (X0 sd))) := ⟨fun h => xMthX h⟩
theorem xTry0 {ns : List Str} {hs : List HdD} (h : a E (hdsR ns E (fun _ _ _ _ => False) hs) sd S) : wTry0 ns a hs E sd S := h
instance st_xTry0 {lw : Lv} {ns : List Str} {hs : List HdD} : Step (.s (.s (.s (.s lw)))) (wTry0 ns a hs E sd S) (a E (hdsR ns E (fun _ _ _ _ => False) hs) sd S) := ⟨fun h => xTry0 h⟩
end
end L2.DL

/-! DL64: list.count(True); repr of a value of any kind; list.index(True) -/
namespace L2.DL
open PySem PySem.Spec PyProof.Rows
section
variable {X : Cx}
theorem flat_bls (bs : List Bool) : (bs.map V.bl).all flatV = true := by
  rw [List.all_map, List.all_eq_true]
  intro x _
  rfl
theorem count_bls : ∀ {bs : List Bool} {us : List Value}, Vals (bs.map V.bl) us → us.countP (eqU (.bl true)) = bs.count true
  | [], _, .nil => rfl
  | b :: bs, _, .cons r t => by
    cases r
    rw [List.countP_cons, List.count_cons, count_bls t]
    cases b <;> rfl
def mCountB : WM := fun d xs S Q => one xs fun y => ∃ bs : List Bool, lstX S d = some (bs.map .bl) ∧ y = .bl true ∧ Q (.int (bs.count true : Nat)) S
theorem mt_countB : MtR X "list.count" (fun x xs H Q => ∃ p, ∃ bs : List Bool, x = .ref p ∧ xs = [.bl true] ∧ SqL X.K H p (bs.map V.bl) ∧ Q (.int (bs.count true : Nat)) H) := by
  intro pins s σ H x xs v us Q I rx rxs h
  obtain ⟨p, bs, rfl, rfl, hs, q⟩ := h
  cases rx
  obtain ⟨u, rfl, ru⟩ := rxs.one
  cases ru
  obtain ⟨its, rv, ⟨⟨cls, dd, data, sl⟩, n, ho, hc, hdn, hd⟩, hlen⟩ := I.list hs
  simp only at hc hd
  subst hc hd
  refine call_meets PySem.F.slot_list_count ⟨_, ho, rfl⟩ PySem.F.entry_list_count (PySem.F.args_list_count_2 _ _)
    (SeqAt.list_countAt p its.toArray n dd sl (.bool true) (eqU (.bl true))) ⟨ho, fun w hw => mem_eqAt (x := .bl true) rfl rfl rv (flat_bls bs) w (by simpa using hw), ?_⟩
  refine ⟨.int (bs.count true : Nat), H, I.tok _, ⟨s.toks, ?_⟩, q⟩
  show Value.int ((its.toArray.toList.countP (eqU (.bl true)) : Nat) : Int) s.toks = Value.int ((bs.count true : Nat) : Int) s.toks
  rw [show its.toArray.toList = its from rfl, count_bls rv]
theorem dm_countB : DM X "list.count" mCountB := by
  intro pins s σ H x xs v us Q I rx rs ⟨d, ys, S, Q0, sr, r1, r2, q, an⟩
  obtain ⟨y, rfl, bs, e, rfl, q2⟩ := one_of q
  obtain ⟨u, rfl, ru⟩ := r2.v1
  have eu : u = .bl true := ru
  subst eu
  obtain ⟨a, vs, rfl, hq, rv⟩ := lstX_at sr r1 e
  have ev := rels_bls rv
  subst ev
  exact mt_countB pins s σ H _ _ v us Q I rx rs ⟨a, bs, rfl, rfl, hq, ansd (.int _) sr an q2 rfl⟩
end
end L2.DL

/-! DL77: repr of values of any kind, {} among them -/
namespace L2.DL
open PySem PySem.Spec PyProof.Rows
mutual
/-- plain data with dicts that hold nothing -/
def valP : D → Option PyData
  | .non => some .none
  | .bl b => some (.bool b)
  | .int i => some (.int i)
  | .str x => some (.str x)
  | .tup ds => (valPs ds).map .tuple
  | .kt ds => (valPs ds).map .tuple
  | .tf ds => (valPs ds).map .tuple
  | .lst ds => (valPs ds).map .list
  | .dic _ [] => some (.dict [])
  | .dic _ (_ :: _) => none
  | .src _ => none
  | .ty _ => none
  | .fd _ _ => none
  | .gh _ _ => none
  | .ins _ _ => none
  | .obj _ => none
def valPs : List D → Option (List PyData)
  | [] => some []
  | d :: ds => (valP d).bind fun p => (valPs ds).map fun ps => p :: ps
end
section
variable {X : Cx} {pins : List (Addr × Obj)} {σ : St} {S : SO} {H : Hp} {s : Shared}
/-- a dict that holds nothing -/
theorem dic0_at (I : Inv X pins σ H s) {t : Bool} {v : V} {u : Value} (r : Rel X.K S H (.dic t []) v) (ru : RelV v u) : ∃ a o n, u = .ref a ∧ s.heap.get? a = some o ∧ o.cls = .type "dict" ∧ o.data = .dict #[] n ∧ (a == sysModules) = false := by
  obtain ⟨a, rfl, _, r⟩ := r
  cases ru
  have fin : ∀ {es : Array DictEntry} {o : Obj} {n : Nat}, s.heap.get? a = some o → o.cls = .type "dict" → o.data = .dict es n → es = #[] → (a == sysModules) = false → ∃ b o n, Value.ref a = .ref b ∧ s.heap.get? b = some o ∧ o.cls = .type "dict" ∧ o.data = .dict #[] n ∧ (b == sysModules) = false := fun {es o n} h1 h2 h3 h4 h5 => by
    subst h4
    exact ⟨a, o, n, rfl, h1, h2, h3, h5⟩
  rcases r with ⟨l, rfl, hl, rl⟩ | ⟨l, rfl, hl, rl⟩
  · have e0 : l = [] := rl
    subst e0
    obtain ⟨_, hsm, vs, kv, o, es, ep, h1, h2, h3, h4, h5, _⟩ := dk_of I.hok hl
    cases kv
    have e1 : es.toList = [] := by
      have z := h5.length
      simpa using z
    exact fin h1 h2.1 h3 (by simpa using e1) hsm
  · have e0 : l = [] := rl
    subst e0
    obtain ⟨_, hsm, xs, kv, o, es, ep, h1, h2, h3, h4, _⟩ := dt_of I.hok hl
    cases kv
    exact fin h1 h2.1 h3 (by simpa using h4) hsm
theorem tup_reprV {prog : Program} {w : World} {h : Heap} {a : Addr} {its : List Value} {ps : List PyData} {as bs : List Addr} (ob : ∃ o, h.get? a = some o ∧ o.cls = .type "tuple" ∧ ∃ n, o.data = .seq its.toArray n) (hr : ReadsAll h its ps as) (hb : ReadAtMost h (PyData.depthAll ps) bs) (hk : ReprAllK prog w bs h (PyData.depthAll ps) its (PyData.shownAll ps)) :
    ∃ bs, ReadAtMost h (PyData.tuple ps).depth bs ∧ ReprK prog w bs h (PyData.tuple ps).depth (.ref a) (PyData.tuple ps).shown := by
  obtain ⟨o, h1, h2, n, h3⟩ := ob
  have rd : Reads h (.ref a) (.tuple ps) as := .tuple h1 h2 h3 hr
  have hna : a ∉ bs := not_mem_of_deeper rd (by simp only [PyData.depth]; omega) hb
  refine ⟨a :: bs, ReadAtMost.cons rd (by simp only [PyData.depth]; omega) hb, ?_⟩
  simp only [PyData.depth, PyData.shown]
  exact ReprK.tuple h1 h2 h3 hna hk
theorem lst_reprV {prog : Program} {w : World} {h : Heap} {a : Addr} {its : List Value} {ps : List PyData} {as bs : List Addr} (ob : PlainL h a its.toArray) (hr : ReadsAll h its ps as) (hb : ReadAtMost h (PyData.depthAll ps) bs) (hk : ReprAllK prog w bs h (PyData.depthAll ps) its (PyData.shownAll ps)) :
    ∃ bs, ReadAtMost h (PyData.list ps).depth bs ∧ ReprK prog w bs h (PyData.list ps).depth (.ref a) (PyData.list ps).shown := by
  obtain ⟨o, n, h1, h2, _, h3⟩ := ob
  have rd : Reads h (.ref a) (.list ps) _ := .list h1 h2 h3 hr
  have hna : a ∉ bs := not_mem_of_deeper rd (by simp only [PyData.depth]; omega) hb
  refine ⟨a :: bs, ReadAtMost.cons rd (by simp only [PyData.depth]; omega) hb, ?_⟩
  simp only [PyData.depth, PyData.shown]
  cases its with
  | nil =>
    cases hr
    simp only [PyData.shownAll, listText_nil]
    exact ReprK.listEmpty h1 h2 h3
  | cons x l => exact ReprK.list h1 h2 h3 hna (by simpa using hk.length_eq) fun i y e => hk.item i y (by simpa using e)
mutual
theorem rel_readsV (I : Inv X pins σ H s) : ∀ (d : D) (v : V) (u : Value) (p : PyData), Rel X.K S H d v → valP d = some p → RelV v u → ∃ as, Reads s.heap u p as
  | .non, _, _, _, r, e, ru => by
    cases e
    cases (show _ = V.non from r)
    cases ru
    exact ⟨_, .none⟩
  | .bl b, _, _, _, r, e, ru => by
    cases e
    cases (show _ = V.bl b from r)
    cases ru
    exact ⟨_, .bool b⟩
  | .int i, _, _, _, r, e, ru => by
    cases e
    cases (show _ = V.int i from r)
    obtain ⟨t, rfl⟩ := ru
    exact ⟨_, .int i t⟩
  | .str x, _, _, _, r, e, ru => by
    cases e
    cases (show _ = V.str x from r)
    obtain ⟨t, rfl⟩ := ru
    exact ⟨_, .str x t⟩
  | .tup ds, _, _, _, r, e, ru => by
    obtain ⟨ps, hp, rfl⟩ := Option.map_eq_some_iff.mp (show (valPs ds).map PyData.tuple = some _ from e)
    obtain ⟨a, vs, rfl, t, r⟩ := r
    cases ru
    obtain ⟨its, rv, ⟨o, ho, hc, n, hd⟩, _⟩ := I.tuple t.sq
    obtain ⟨as, hr⟩ := rels_readsV I ds vs its ps r hp rv
    exact ⟨_, .tuple ho hc hd hr⟩
  | .kt ds, _, _, _, r, e, ru => by
    obtain ⟨ps, hp, rfl⟩ := Option.map_eq_some_iff.mp (show (valPs ds).map PyData.tuple = some _ from e)
    obtain ⟨a, vs, rfl, t, r⟩ := r
    cases ru
    obtain ⟨its, rv, ⟨o, ho, hc, n, hd⟩, _⟩ := I.tuple t.sq
    obtain ⟨as, hr⟩ := rels_readsV I ds vs its ps r hp rv
    exact ⟨_, .tuple ho hc hd hr⟩
  | .tf ds, _, _, _, r, e, ru => by
    obtain ⟨ps, hp, rfl⟩ := Option.map_eq_some_iff.mp (show (valPs ds).map PyData.tuple = some _ from e)
    obtain ⟨a, vs, rfl, t, r⟩ := r
    cases ru
    obtain ⟨its, rv, ⟨o, ho, hc, n, hd⟩, _⟩ := I.tuple t.sq
    obtain ⟨as, hr⟩ := rels_readsV I ds vs its ps r hp rv
    exact ⟨_, .tuple ho hc hd hr⟩
  | .lst ds, _, _, _, r, e, ru => by
    obtain ⟨ps, hp, rfl⟩ := Option.map_eq_some_iff.mp (show (valPs ds).map PyData.list = some _ from e)
    obtain ⟨a, vs, rfl, _, t, r⟩ := r
    cases ru
    obtain ⟨its, rv, ⟨o, n, ho, hc, _, hd⟩, _⟩ := I.list (.of t)
    obtain ⟨as, hr⟩ := rels_readsV I ds vs its ps r hp rv
    exact ⟨_, .list ho hc hd hr⟩
  | .dic t [], _, _, _, r, e, ru => by
    cases e
    obtain ⟨a, o, n, rfl, h1, h2, h3, _⟩ := dic0_at I r ru
    exact ⟨_, .dict (as := []) (bs := []) h1 h2 h3 .nil .nil⟩
  | .dic _ (_ :: _), _, _, _, _, e, _ => by cases e
  | .src _, _, _, _, _, e, _ => by cases e
  | .ty _, _, _, _, _, e, _ => by cases e
  | .fd _ _, _, _, _, _, e, _ => by cases e
  | .gh _ _, _, _, _, _, e, _ => by cases e
  | .ins _ _, _, _, _, _, e, _ => by cases e
  | .obj _, _, _, _, _, e, _ => by cases e
theorem rels_readsV (I : Inv X pins σ H s) : ∀ (ds : List D) (vs : List V) (us : List Value) (ps : List PyData), Rels X.K S H ds vs → valPs ds = some ps → Vals vs us → ∃ as, ReadsAll s.heap us ps as
  | [], _, _, _, r, e, ru => by
    cases e
    cases (show _ = [] from r)
    cases ru
    exact ⟨_, .nil⟩
  | d :: ds, _, _, _, r, e, ru => by
    obtain ⟨p, hp, e2⟩ := Option.bind_eq_some_iff.mp (show (valP d).bind (fun p => (valPs ds).map fun ps => p :: ps) = some _ from e)
    obtain ⟨qs, hq, rfl⟩ := Option.map_eq_some_iff.mp e2
    obtain ⟨v, vs, rfl, r1, r2⟩ := r
    cases ru with
    | cons rv rr =>
      obtain ⟨as, q1⟩ := rel_readsV I d v _ p r1 hp rv
      obtain ⟨bs, q2⟩ := rels_readsV I ds vs _ qs r2 hq rr
      exact ⟨_, .cons q1 q2⟩
end
mutual
/-- the shown texts, each within another's repr -/
theorem rel_reprV (I : Inv X pins σ H s) : ∀ (d : D) (v : V) (u : Value) (p : PyData), Rel X.K S H d v → valP d = some p → RelV v u → p.showable = true → p.shown.length ≤ sizeLine → ∃ bs, ReadAtMost s.heap p.depth bs ∧ ReprK X.prog X.w bs s.heap p.depth u p.shown
  | .non, _, _, _, r, e, ru, _, _ => by
    cases e
    cases (show _ = V.non from r)
    cases ru
    exact ⟨[], (fun _ h => nomatch h), by simp only [PyData.shown]; exact .of_is ReprIs.none _ _ _⟩
  | .bl b, _, _, _, r, e, ru, _, _ => by
    cases e
    cases (show _ = V.bl b from r)
    cases ru
    exact ⟨[], (fun _ h => nomatch h), by simp only [PyData.shown]; exact .of_is (ReprIs.bool b) _ _ _⟩
  | .int i, _, _, _, r, e, ru, hs, _ => by
    cases e
    cases (show _ = V.int i from r)
    obtain ⟨t, rfl⟩ := ru
    exact ⟨[], (fun _ h => nomatch h), by simp only [PyData.shown]; exact .of_is (ReprIs.int t (by simpa [PyData.showable] using hs)) _ _ _⟩
  | .str x, _, _, _, r, e, ru, _, hz => by
    cases e
    cases (show _ = V.str x from r)
    obtain ⟨t, rfl⟩ := ru
    exact ⟨[], (fun _ h => nomatch h), by simp only [PyData.shown]; exact .of_is (ReprIs.str x t (by simpa only [PyData.shown] using hz)) _ _ _⟩
  | .tup ds, _, _, _, r, e, ru, hs, hz => by
    obtain ⟨ps, hp, rfl⟩ := Option.map_eq_some_iff.mp (show (valPs ds).map PyData.tuple = some _ from e)
    obtain ⟨a, vs, rfl, t, r⟩ := r
    cases ru
    obtain ⟨its, rv, ob, _⟩ := I.tuple t.sq
    obtain ⟨as, hr⟩ := rels_readsV I ds vs its ps r hp rv
    obtain ⟨bs, hb, hk⟩ := rels_reprV I ds vs its ps r hp rv (by simpa [PyData.showable] using hs) fun t ht => Nat.le_trans (tupleText_mem_le ht) (by simpa only [PyData.shown] using hz)
    exact tup_reprV ob hr hb hk
  | .kt ds, _, _, _, r, e, ru, hs, hz => by
    obtain ⟨ps, hp, rfl⟩ := Option.map_eq_some_iff.mp (show (valPs ds).map PyData.tuple = some _ from e)
    obtain ⟨a, vs, rfl, t, r⟩ := r
    cases ru
    obtain ⟨its, rv, ob, _⟩ := I.tuple t.sq
    obtain ⟨as, hr⟩ := rels_readsV I ds vs its ps r hp rv
    obtain ⟨bs, hb, hk⟩ := rels_reprV I ds vs its ps r hp rv (by simpa [PyData.showable] using hs) fun t ht => Nat.le_trans (tupleText_mem_le ht) (by simpa only [PyData.shown] using hz)
    exact tup_reprV ob hr hb hk
  | .tf ds, _, _, _, r, e, ru, hs, hz => by
    obtain ⟨ps, hp, rfl⟩ := Option.map_eq_some_iff.mp (show (valPs ds).map PyData.tuple = some _ from e)
    obtain ⟨a, vs, rfl, t, r⟩ := r
    cases ru
    obtain ⟨its, rv, ob, _⟩ := I.tuple t.sq
    obtain ⟨as, hr⟩ := rels_readsV I ds vs its ps r hp rv
    obtain ⟨bs, hb, hk⟩ := rels_reprV I ds vs its ps r hp rv (by simpa [PyData.showable] using hs) fun t ht => Nat.le_trans (tupleText_mem_le ht) (by simpa only [PyData.shown] using hz)
    exact tup_reprV ob hr hb hk
  | .lst ds, _, _, _, r, e, ru, hs, hz => by
    obtain ⟨ps, hp, rfl⟩ := Option.map_eq_some_iff.mp (show (valPs ds).map PyData.list = some _ from e)
    obtain ⟨a, vs, rfl, _, t, r⟩ := r
    cases ru
    obtain ⟨its, rv, ob, _⟩ := I.list (.of t)
    obtain ⟨as, hr⟩ := rels_readsV I ds vs its ps r hp rv
    obtain ⟨bs, hb, hk⟩ := rels_reprV I ds vs its ps r hp rv (by simpa [PyData.showable] using hs) fun t ht => Nat.le_trans (listText_mem_le ht) (by simpa only [PyData.shown] using hz)
    exact lst_reprV ob hr hb hk
  | .dic t [], _, _, _, r, e, ru, _, _ => by
    cases e
    obtain ⟨a, o, n, rfl, h1, h2, h3, h4⟩ := dic0_at I r ru
    have rd : Reads s.heap (.ref a) (.dict []) _ := .dict (as := []) (bs := []) h1 h2 h3 .nil .nil
    refine ⟨[a], ReadAtMost.cons rd (n := 0) (Nat.zero_le _) (fun _ h => nomatch h), ?_⟩
    exact ReprK.level_le (d := 1) (ReprK.dict (d := 0) (ps := []) h1 h2 h3 h4 (by simp) .nil) (by simp [PyData.depth])
  | .dic _ (_ :: _), _, _, _, _, e, _, _, _ => by cases e
  | .src _, _, _, _, _, e, _, _, _ => by cases e
  | .ty _, _, _, _, _, e, _, _, _ => by cases e
  | .fd _ _, _, _, _, _, e, _, _, _ => by cases e
  | .gh _ _, _, _, _, _, e, _, _, _ => by cases e
  | .ins _ _, _, _, _, _, e, _, _, _ => by cases e
  | .obj _, _, _, _, _, e, _, _, _ => by cases e
theorem rels_reprV (I : Inv X pins σ H s) : ∀ (ds : List D) (vs : List V) (us : List Value) (ps : List PyData), Rels X.K S H ds vs → valPs ds = some ps → Vals vs us → PyData.showableAll ps = true → (∀ t ∈ PyData.shownAll ps, t.length ≤ sizeLine) →
    ∃ bs, ReadAtMost s.heap (PyData.depthAll ps) bs ∧ ReprAllK X.prog X.w bs s.heap (PyData.depthAll ps) us (PyData.shownAll ps)
  | [], _, _, _, r, e, ru, _, _ => by
    cases e
    cases (show _ = [] from r)
    cases ru
    exact ⟨[], (fun _ h => nomatch h), by simp only [PyData.shownAll]; exact .nil⟩
  | d :: ds, _, _, _, r, e, ru, hs, hz => by
    obtain ⟨p, hp, e2⟩ := Option.bind_eq_some_iff.mp (show (valP d).bind (fun p => (valPs ds).map fun ps => p :: ps) = some _ from e)
    obtain ⟨qs, hq, rfl⟩ := Option.map_eq_some_iff.mp e2
    obtain ⟨v, vs, rfl, r1, r2⟩ := r
    have hs' : p.showable = true ∧ PyData.showableAll qs = true := by simpa [PyData.showableAll] using hs
    simp only [PyData.shownAll] at hz
    cases ru with
    | cons rv rr =>
      obtain ⟨b1, g1, k1⟩ := rel_reprV I d v _ p r1 hp rv hs'.1 (hz _ (List.mem_cons_self ..))
      obtain ⟨b2, g2, k2⟩ := rels_reprV I ds vs _ qs r2 hq rr hs'.2 fun t ht => hz t (List.mem_cons_of_mem _ ht)
      simp only [PyData.depthAll, PyData.shownAll]
      refine ⟨b1 ++ b2, (g1.mono (Nat.le_max_left _ _)).append (g2.mono (Nat.le_max_right _ _)), .cons ((k1.more fun b hb => List.mem_append_left _ hb).level_le (Nat.le_max_left _ _)) (k2.more_le (fun b hb => List.mem_append_right _ hb) (Nat.le_max_right _ _))⟩
end
def ShowV (p : PyData) : Prop := p.showable = true ∧ p.depth ≤ 64 ∧ p.shown.length ≤ sizeLine
theorem tup_callV {prog : Program} {w : World} {A : Around} {E : Value → Shared → Prop} {s : Shared} {a : Addr} {its : List Value} {ps : List PyData} {as bs : List Addr} {Q : Value → Shared → Prop} (gd : A.guards = some []) (hu : A.units + 70 < cLine) (ob : ∃ o, s.heap.get? a = some o ∧ o.cls = .type "tuple" ∧ ∃ n, o.data = .seq its.toArray n)
    (hr : ReadsAll s.heap its ps as) (hb : ReadAtMost s.heap (PyData.depthAll ps) bs) (hk : ReprAllK prog w bs s.heap (PyData.depthAll ps) its (PyData.shownAll ps)) (hs : ShowV (.tuple ps))
    (hQ : ∀ h' u tk, (∀ b o, s.heap.get? b = some o → h'.get? b = some o) → Q (.str (PyData.tuple ps).shown u) { s with heap := h', toks := tk }) : wpAny (model prog w) A (call (.builtin "repr") [.ref a]) Q E s := by
  obtain ⟨o, h1, h2, n, h3⟩ := ob
  have rd : Reads s.heap (.ref a) (.tuple ps) as := .tuple h1 h2 h3 hr
  have hna : a ∉ bs := not_mem_of_deeper rd (by simp only [PyData.depth]; omega) hb
  obtain ⟨_, hd, hz⟩ := hs
  simp only [PyData.depth] at hd
  simp only [PyData.shown] at hz hQ
  refine call_repr_slot (T := "tuple") (by omega) ⟨o, h1, h2⟩ F.slot_tuple_repr ?_
  exact call_tuple_reprK h1 h2 h3 hna hk gd (fun b _ => Clear.nil b) (by show A.units + 1 + (PyData.depthAll ps + 1) < cLine; omega) (fun _ _ e => e) (fun h' u tk hk' => ⟨_, _, rfl, hQ h' u tk hk'⟩) hz
theorem lst_callV {prog : Program} {w : World} {A : Around} {E : Value → Shared → Prop} {s : Shared} {a : Addr} {its : List Value} {ps : List PyData} {as bs : List Addr} {Q : Value → Shared → Prop} (gd : A.guards = some []) (hu : A.units + 70 < cLine) (ob : PlainL s.heap a its.toArray)
    (hr : ReadsAll s.heap its ps as) (hb : ReadAtMost s.heap (PyData.depthAll ps) bs) (hk : ReprAllK prog w bs s.heap (PyData.depthAll ps) its (PyData.shownAll ps)) (hs : ShowV (.list ps))
    (hQ : ∀ h' u tk, (∀ b o, s.heap.get? b = some o → h'.get? b = some o) → Q (.str (PyData.list ps).shown u) { s with heap := h', toks := tk }) : wpAny (model prog w) A (call (.builtin "repr") [.ref a]) Q E s := by
  obtain ⟨o, n, h1, h2, _, h3⟩ := ob
  have rd : Reads s.heap (.ref a) (.list ps) _ := .list h1 h2 h3 hr
  have hna : a ∉ bs := not_mem_of_deeper rd (by simp only [PyData.depth]; omega) hb
  obtain ⟨_, hd, hz⟩ := hs
  simp only [PyData.depth] at hd
  simp only [PyData.shown] at hz hQ
  refine call_repr_slot (T := "list") (by omega) ⟨o, h1, h2⟩ F.slot_list_repr.toG ?_
  cases its with
  | nil =>
    cases hr
    simp only [PyData.shownAll, listText_nil] at hQ
    exact call_list_repr_empty ⟨o, h1, h2⟩ h1 h3 ⟨_, _, rfl, hQ s.heap _ _ fun _ _ e => e⟩
  | cons x l => exact call_list_reprK h1 h2 h3 hna (by simpa using hk.length_eq) (fun i y e => hk.item i y (by simpa using e)) gd (fun b _ => Clear.nil b) (by show A.units + 1 + (PyData.depthAll ps + 1) < cLine; omega) (fun _ _ e => e) (fun h' u tk hk' => ⟨_, _, rfl, hQ h' u tk hk'⟩) hz
def cReprV : WL := fun xs S Q => one xs fun x => ∃ p, valP x = some p ∧ ShowV p ∧ Q (.str p.shown) S
theorem dc_reprV (gd : X.A.guards = some []) (hu : X.A.units + 70 < cLine) : DC X (.builtin "repr") cReprV := by
  intro pins s σ H xs us Q I r ⟨ds, S, Q0, sr, rs, q, an⟩
  obtain ⟨x, rfl, p, hp, hsh, q⟩ := one_of q
  obtain ⟨v, rfl, rv⟩ := rs.v1
  obtain ⟨u, rfl, ru⟩ := vals1 r
  have h1 := hsh.1
  have h3 := hsh.2.2
  have fin : ∀ (h' : Heap) (t : Tok) (tk : Nat), (∀ b o, s.heap.get? b = some o → h'.get? b = some o) → EP X pins σ Q (.str p.shown t) { s with heap := h', toks := tk } := fun h' t tk hk => ⟨.str p.shown, H, I.kept hk, ⟨t, rfl⟩, ansd (.str _) sr an q rfl⟩
  have tup : ∀ (ds : List D) (a : Addr) (vs : List V), SqT X.K H a vs → Rels X.K S H ds vs → u = .ref a → (valPs ds).map PyData.tuple = some p → wpAny (model X.prog X.w) X.A (call (.builtin "repr") [u]) (EP X pins σ Q) X.xe s := by
    intro ds a vs t rr eu e
    subst eu
    obtain ⟨ps, hps, rfl⟩ := Option.map_eq_some_iff.mp e
    obtain ⟨its, rv, ob, _⟩ := I.tuple t
    obtain ⟨as, hr⟩ := rels_readsV I ds vs its ps rr hps rv
    obtain ⟨bs, hb, hk⟩ := rels_reprV I ds vs its ps rr hps rv (by simpa [PyData.showable] using h1) fun t ht => Nat.le_trans (tupleText_mem_le ht) (by simpa only [PyData.shown] using h3)
    exact tup_callV gd hu ob hr hb hk hsh fin
  cases x with
  | non =>
    cases hp
    cases (show v = V.non from rv)
    cases ru
    exact PySem.P.repr_of_none (by simpa only [PyData.shown] using fin s.heap _ _ fun _ _ z => z)
  | bl b =>
    cases hp
    cases (show v = V.bl b from rv)
    cases ru
    have z := fin s.heap s.toks (s.toks + 1) fun _ _ z => z
    refine PySem.P.repr_of_bool ?_
    simp only [PyData.shown] at z
    cases b <;> exact z
  | int i =>
    cases hp
    cases (show v = V.int i from rv)
    obtain ⟨t, rfl⟩ := ru
    exact PySem.P.repr_of_int (by simpa [PyData.showable] using h1) (by simpa only [PyData.shown] using fin s.heap _ _ fun _ _ z => z)
  | str y =>
    cases hp
    cases (show v = V.str y from rv)
    obtain ⟨t, rfl⟩ := ru
    exact PySem.P.repr_of_str (by simpa only [PyData.shown] using fin s.heap _ _ fun _ _ z => z) (by simpa only [PyData.shown] using h3)
  | tup ds =>
    obtain ⟨a, vs, rfl, t, rr⟩ := rv
    cases ru
    exact tup ds a vs t.sq rr rfl hp
  | kt ds =>
    obtain ⟨a, vs, rfl, t, rr⟩ := rv
    cases ru
    exact tup ds a vs t.sq rr rfl hp
  | tf ds =>
    obtain ⟨a, vs, rfl, t, rr⟩ := rv
    cases ru
    exact tup ds a vs t.sq rr rfl hp
  | lst ds =>
    obtain ⟨ps, hps, rfl⟩ := Option.map_eq_some_iff.mp (show (valPs ds).map PyData.list = some _ from hp)
    obtain ⟨a, vs, rfl, _, t, rr⟩ := rv
    cases ru
    obtain ⟨its, rv, ob, _⟩ := I.list (.of t)
    obtain ⟨as, hr⟩ := rels_readsV I ds vs its ps rr hps rv
    obtain ⟨bs, hb, hk⟩ := rels_reprV I ds vs its ps rr hps rv (by simpa [PyData.showable] using h1) fun t ht => Nat.le_trans (listText_mem_le ht) (by simpa only [PyData.shown] using h3)
    exact lst_callV gd hu ob hr hb hk hsh fin
  | dic t kvs =>
    cases kvs with
    | cons _ _ => cases hp
    | nil =>
      cases hp
      obtain ⟨a, o, n, rfl, g1, g2, g3, g4⟩ := dic0_at I rv ru
      exact repr_of_reads' (d := .dict []) (.dict (as := []) (bs := []) g1 g2 g3 .nil .nil) h1 (fun _ => by simpa using fun z => beq_eq_false_iff_ne.mp g4 z.symm) gd (by simp [PyData.depth, PyData.depthKv]; omega) (fun _ _ e => e) (fun h' t tk hk => fin h' t tk hk) h3
  | _ => cases hp
end
end L2.DL

/-! DL79: == and != of values of any kind, {} among them -/
namespace L2.DL
open PySem PySem.Spec PyProof.Rows
open PySem.SeqAt PySem.MeetsSeq PySem.AutoSeq1
section
variable {prog : Program} {w : World} {A : Around} {s : Shared}
/-- a dict that holds nothing -/
def Dic0 (s : Shared) (a : Addr) : Prop := ∃ o n, s.heap.get? a = some o ∧ o.ExactDict ∧ o.data = .dict #[] n
theorem Dic0.typeIs {a : Addr} (h : Dic0 s a) : s.TypeIs (.ref a) "dict" := by
  obtain ⟨o, n, h1, h2, h3⟩ := h
  exact ⟨o, h1, h2.1⟩
theorem Dic0.ob {a : Addr} (h : Dic0 s a) : ∃ dd n sl, s.heap.get? a = some { cls := .type "dict", dict := dd, data := .dict #[] n, slots := sl } := by
  obtain ⟨⟨c, dd, data, sl⟩, n, h1, ⟨h2, _, _⟩, h3⟩ := h
  simp only at h2 h3
  subst h2 h3
  exact ⟨_, _, _, h1⟩
/-- values of any kind, at most n deep -/
inductive VV (s : Shared) : Nat → Value → Prop
  | none {n : Nat} : VV s n .none
  | bool {n : Nat} (b : Bool) : VV s n (.bool b)
  | int {n : Nat} (i : Int) (t : Tok) : VV s n (.int i t)
  | str {n : Nat} (x : Str) (t : Tok) : VV s n (.str x t)
  | list {n : Nat} {l : Addr} {vs : Array Value} : s.heap.IsList l vs → (∀ x ∈ vs, VV s n x) → VV s (n + 1) (.ref l)
  | tuple {n : Nat} {l : Addr} {vs : Array Value} : s.heap.IsTuple l vs → (∀ x ∈ vs, VV s n x) → VV s (n + 1) (.ref l)
  | dict {n : Nat} {a : Addr} : Dic0 s a → (a == sysModules) = false → VV s n (.ref a)
theorem VV.mono {n : Nat} {u : Value} (h : VV s n u) : ∀ {m : Nat}, n ≤ m → VV s m u := by
  induction h with
  | none => exact fun _ => .none
  | bool b => exact fun _ => .bool b
  | int i t => exact fun _ => .int i t
  | str x t => exact fun _ => .str x t
  | list hl _ ih =>
    intro m hm
    cases m with
    | zero => omega
    | succ m => exact .list hl fun x hx => ih x hx (by omega)
  | tuple hl _ ih =>
    intro m hm
    cases m with
    | zero => omega
    | succ m => exact .tuple hl fun x hx => ih x hx (by omega)
  | dict h1 h2 => exact fun _ => .dict h1 h2
end
section
variable {X : Cx} {pins : List (Addr × Obj)} {σ : St} {S : SO} {H : Hp} {s : Shared}
theorem dic0X_at (I : Inv X pins σ H s) {t : Bool} {v : V} {u : Value} (r : Rel X.K S H (.dic t []) v) (ru : RelV v u) : ∃ a, u = .ref a ∧ Dic0 s a ∧ (a == sysModules) = false := by
  obtain ⟨a, rfl, _, r⟩ := r
  cases ru
  rcases r with ⟨l, rfl, hl, rl⟩ | ⟨l, rfl, hl, rl⟩
  · have e0 : l = [] := rl
    subst e0
    obtain ⟨_, hsm, vs, kv, o, es, ep, h1, h2, h3, h4, h5, _⟩ := dk_of I.hok hl
    cases kv
    have e1 : es = #[] := by
      have z := h5.length
      simpa using z
    subst e1
    exact ⟨a, rfl, ⟨o, ep, h1, h2, h3⟩, hsm⟩
  · have e0 : l = [] := rl
    subst e0
    obtain ⟨_, hsm, xs, kv, o, es, ep, h1, h2, h3, h4, _⟩ := dt_of I.hok hl
    cases kv
    have e1 : es = #[] := by simpa using h4
    subst e1
    exact ⟨a, rfl, ⟨o, ep, h1, h2, h3⟩, hsm⟩
mutual
theorem rel_vv (I : Inv X pins σ H s) : ∀ (d : D) (v : V) (u : Value) (p : PyData), Rel X.K S H d v → valP d = some p → RelV v u → VV s p.depth u
  | .non, _, _, _, r, e, ru => by
    cases e
    cases (show _ = V.non from r)
    cases ru
    exact .none
  | .bl b, _, _, _, r, e, ru => by
    cases e
    cases (show _ = V.bl b from r)
    cases ru
    exact .bool b
  | .int i, _, _, _, r, e, ru => by
    cases e
    cases (show _ = V.int i from r)
    obtain ⟨t, rfl⟩ := ru
    exact .int i t
  | .str x, _, _, _, r, e, ru => by
    cases e
    cases (show _ = V.str x from r)
    obtain ⟨t, rfl⟩ := ru
    exact .str x t
  | .tup ds, _, _, _, r, e, ru => by
    obtain ⟨ps, hp, rfl⟩ := Option.map_eq_some_iff.mp (show (valPs ds).map PyData.tuple = some _ from e)
    obtain ⟨a, vs, rfl, t, r⟩ := r
    cases ru
    obtain ⟨its, rv, ⟨o, ho, hc, n, hd⟩, _⟩ := I.tuple t.sq
    simp only [PyData.depth]
    exact .tuple ⟨o, ho, hc, n, hd⟩ fun x hx => rels_vv I ds vs its ps r hp rv x (by simpa using hx)
  | .kt ds, _, _, _, r, e, ru => by
    obtain ⟨ps, hp, rfl⟩ := Option.map_eq_some_iff.mp (show (valPs ds).map PyData.tuple = some _ from e)
    obtain ⟨a, vs, rfl, t, r⟩ := r
    cases ru
    obtain ⟨its, rv, ⟨o, ho, hc, n, hd⟩, _⟩ := I.tuple t.sq
    simp only [PyData.depth]
    exact .tuple ⟨o, ho, hc, n, hd⟩ fun x hx => rels_vv I ds vs its ps r hp rv x (by simpa using hx)
  | .tf ds, _, _, _, r, e, ru => by
    obtain ⟨ps, hp, rfl⟩ := Option.map_eq_some_iff.mp (show (valPs ds).map PyData.tuple = some _ from e)
    obtain ⟨a, vs, rfl, t, r⟩ := r
    cases ru
    obtain ⟨its, rv, ⟨o, ho, hc, n, hd⟩, _⟩ := I.tuple t.sq
    simp only [PyData.depth]
    exact .tuple ⟨o, ho, hc, n, hd⟩ fun x hx => rels_vv I ds vs its ps r hp rv x (by simpa using hx)
  | .lst ds, _, _, _, r, e, ru => by
    obtain ⟨ps, hp, rfl⟩ := Option.map_eq_some_iff.mp (show (valPs ds).map PyData.list = some _ from e)
    obtain ⟨a, vs, rfl, _, t, r⟩ := r
    cases ru
    obtain ⟨its, rv, ⟨o, n, ho, hc, _, hd⟩, _⟩ := I.list (.of t)
    simp only [PyData.depth]
    exact .list ⟨o, ho, hc, n, hd⟩ fun x hx => rels_vv I ds vs its ps r hp rv x (by simpa using hx)
  | .dic t [], _, _, _, r, e, ru => by
    cases e
    obtain ⟨a, rfl, h1, h2⟩ := dic0X_at I r ru
    exact .dict h1 h2
  | .dic _ (_ :: _), _, _, _, _, e, _ => by cases e
  | .src _, _, _, _, _, e, _ => by cases e
  | .ty _, _, _, _, _, e, _ => by cases e
  | .fd _ _, _, _, _, _, e, _ => by cases e
  | .gh _ _, _, _, _, _, e, _ => by cases e
  | .ins _ _, _, _, _, _, e, _ => by cases e
  | .obj _, _, _, _, _, e, _ => by cases e
theorem rels_vv (I : Inv X pins σ H s) : ∀ (ds : List D) (vs : List V) (us : List Value) (ps : List PyData), Rels X.K S H ds vs → valPs ds = some ps → Vals vs us → ∀ x ∈ us, VV s (PyData.depthAll ps) x
  | [], _, _, _, r, e, ru => by
    cases e
    cases (show _ = [] from r)
    cases ru
    exact fun x hx => nomatch hx
  | d :: ds, _, _, _, r, e, ru => by
    obtain ⟨p, hp, e2⟩ := Option.bind_eq_some_iff.mp (show (valP d).bind (fun p => (valPs ds).map fun ps => p :: ps) = some _ from e)
    obtain ⟨qs, hq, rfl⟩ := Option.map_eq_some_iff.mp e2
    obtain ⟨v, vs, rfl, r1, r2⟩ := r
    cases ru with
    | cons rv rr =>
      intro x hx
      simp only [PyData.depthAll]
      rcases List.mem_cons.mp hx with rfl | hx
      · exact (rel_vv I d v _ p r1 hp rv).mono (by omega)
      · exact (rels_vv I ds vs _ qs r2 hq rr x hx).mono (by omega)
end
end
end L2.DL

/-! DL80: a list of anything == [] -/
namespace L2.DL
open PySem PySem.Spec PyProof.Rows
section
variable {X : Cx}
end
end L2.DL

namespace L2.DL
open PySem PySem.Spec PyProof.Rows
abbrev LETTERS : Str := "abcdefghijklmnopqrstuvwxyz"
def nameOk (x : Str) : Bool := decide (0 < x.length) && (decide (x.length < 9) && x.cps.toList.all fun c => decide (c ∈ LETTERS.cps.toList))
def sp_is_name (W : Addr) : DSp := fun ds S Q E => ∃ x : Str, ds = [.str x] ∧ x.length ≤ 1000000 ∧ Q (.bl (nameOk x)) S
def w_is_name (W : Addr) : WS := (wRet (wAndV (wCall (cIsi (.ty "str") (fTy "str" [])) (wCons (wV 0) (wCons (wC (.ty "str")) wNil))) (wAndV (wCh oLt oLt (wC (.int 0)) (wCall cLen (wCons (wV 0) wNil)) (wC (.int 9))) (wCall cAll (wCons (wLcP (wStrI (wV 0)) (.n 1) wYes (wO oIn (wV 1) (wC (.str "abcdefghijklmnopqrstuvwxyz"))) [1]) wNil)))))
theorem pure_is_name (W : Addr) : ∀ ds S Q E, sp_is_name W ds S Q E → w_is_name W (endsOf Q) (startD ["value", "sign"] ds) S := by
  rintro ds S Q E ⟨x, rfl, hx, q⟩
  refine ⟨rfl, _, _, rfl, rfl, isY rfl ⟨hx, trivial, ?_⟩⟩
  refine isC (fun h0 => ⟨trivial, isC (fun h1 => ?_) fun h1 => cl ?_⟩) fun h0 => isN rfl (cl ?_)
  · refine lcP_map (signsD x) (fun d => match d with | .str z => .bl (strIn z LETTERS) | _ => .non) ⟨rfl, rfl⟩ (by rw [signs_len]; exact hx) (fun d hd S' e => ?_) ⟨x.cps.toList.map fun c => decide (c ∈ LETTERS.cps.toList), ?_, cl ?_⟩
    · obtain ⟨c, hc, rfl⟩ := List.mem_map.mp hd
      exact ⟨rfl, rfl⟩
    · show some _ = some _
      unfold signsD
      rw [List.map_map, List.map_map]
      congr 1
      refine List.map_congr_left fun c hc => ?_
      show D.bl (strIn ⟨#[c]⟩ LETTERS) = _
      rw [strIn_one]
      rfl
    · have e : nameOk x = (List.map (fun c => decide (c ∈ LETTERS.cps.toList)) x.cps.toList).all id := by
        have h0' : (0 : Int) < x.length := of_decide_eq_true h0
        have h1' : (x.length : Int) < 9 := of_decide_eq_true h1
        unfold nameOk
        rw [decide_eq_true (by omega), decide_eq_true (by omega), List.all_map]
        rfl
      rw [← e]
      exact q
  · have h1' : ¬ (x.length : Int) < 9 := of_decide_eq_false h1
    have e : nameOk x = false := by
      unfold nameOk
      rw [decide_eq_false (show ¬ x.length < 9 by omega)]
      simp
    rw [e] at q
    exact q
  · have h1' : ¬ (0 : Int) < x.length := of_decide_eq_false h0
    have e : nameOk x = false := by
      unfold nameOk
      rw [decide_eq_false (show ¬ 0 < x.length by omega)]
      simp
    rw [e] at q
    exact q
end L2.DL

namespace L2.DL
open PySem PySem.Spec PyProof.Rows
/-! ### names, places, ties as data -/
abbrev plD (ps : List Str) : List D := ps.map D.str
def prD (t : Str × Str) : D := .tup [.str t.1, .str t.2]
def mkD (ts : List (Str × Str)) : List (D × D) := ts.map fun t => (prD t, .bl true)
def webD (W : Addr) (ps : List Str) (ts : List (Str × Str)) : D := .ins W [("row", .tf (plD ps)), ("pairs", .tf (ts.map prD)), ("marks", .dic true (mkD ts))]
structure WebOk (ps : List Str) (ts : List (Str × Str)) : Prop where
  pos : 0 < ps.length
  few : ps.length ≤ 40
  nm : ∀ p ∈ ps, nameOk p = true
  nd : ps.Nodup
  tfew : ts.length ≤ 200
  tie : ∀ t ∈ ts, t.1 ∈ ps ∧ t.2 ∈ ps ∧ t.1 ≠ t.2
  tnd : ts.Nodup
abbrev sOk (x : Str) : Prop := PyData.canLay0 (.str x) = true
theorem sOk_of {x : Str} (h : ∀ c ∈ x.cps.toList, c < 0x110000) : sOk x := by
  show PyData.canLay0 (.str x) = true
  simp only [PyData.canLay0, PyData.strOk]
  rw [Array.all_eq_true_iff_forall_mem]
  intro c hc
  exact decide_eq_true (h c (by simpa using hc))
theorem letters_small : ∀ c ∈ LETTERS.cps.toList, c < 0x110000 := by decide +kernel
theorem name_chars {x : Str} (h : nameOk x = true) : 0 < x.length ∧ x.length < 9 ∧ ∀ c ∈ x.cps.toList, c ∈ LETTERS.cps.toList := by
  unfold nameOk at h
  rw [Bool.and_eq_true, Bool.and_eq_true] at h
  refine ⟨of_decide_eq_true h.1, of_decide_eq_true h.2.1, fun c hc => ?_⟩
  exact of_decide_eq_true (List.all_eq_true.mp h.2.2 c hc)
theorem name_sOk {x : Str} (h : nameOk x = true) : sOk x := sOk_of fun c hc => letters_small c ((name_chars h).2.2 c hc)
theorem name_len {x : Str} (h : nameOk x = true) : x.length ≤ 1000000 := by have := (name_chars h).2.1; omega
theorem pyDs_strs : ∀ xs : List Str, pyDs (plD xs) = some (xs.map PyData.str)
  | [] => rfl
  | x :: xs => by
    show (pyD (.str x)).bind (fun p => (pyDs (plD xs)).map fun ps => p :: ps) = _
    rw [pyDs_strs xs]
    rfl
def prP (t : Str × Str) : PyData := .tuple [.str t.1, .str t.2]
theorem pyDs_prs : ∀ xs : List (Str × Str), pyDs (xs.map prD) = some (xs.map prP)
  | [] => rfl
  | x :: xs => by
    show (pyD (prD x)).bind (fun p => (pyDs (xs.map prD)).map fun ps => p :: ps) = _
    rw [pyDs_prs xs]
    rfl
theorem canLayAll_map {α : Type} {f : α → PyData} : ∀ {xs : List α}, (∀ x ∈ xs, (f x).canLay0 = true) → PyData.canLayAll0 (xs.map f) = true
  | [], _ => by simp [PyData.canLayAll0]
  | x :: xs, h => by
    rw [List.map_cons]
    simp only [PyData.canLayAll0, Bool.and_eq_true]
    exact ⟨h x (List.mem_cons_self ..), canLayAll_map fun y hy => h y (List.mem_cons_of_mem _ hy)⟩
theorem depthAll_map {α : Type} {f : α → PyData} {n : Nat} : ∀ {xs : List α}, (∀ x ∈ xs, (f x).depth ≤ n) → PyData.depthAll (xs.map f) ≤ n
  | [], _ => by simp [PyData.depthAll]
  | x :: xs, h => by
    rw [List.map_cons]
    simp only [PyData.depthAll]
    exact Nat.max_le.mpr ⟨h x (List.mem_cons_self ..), depthAll_map fun y hy => h y (List.mem_cons_of_mem _ hy)⟩
theorem shaped_of {p : PyData} (h : p.canLay0 = true) (hd : p.depth ≤ 64) : SeqAt.shaped p = true := by
  unfold SeqAt.shaped
  rw [h, decide_eq_true hd]
  rfl
theorem shaped_str {x : Str} (h : sOk x) : SeqAt.shaped (.str x) = true := shaped_of h (by simp [PyData.depth])
theorem shaped_list {α : Type} {f : α → PyData} {n : Nat} {xs : List α} (hn : n + 1 ≤ 64) (h : ∀ x ∈ xs, (f x).canLay0 = true) (hd : ∀ x ∈ xs, (f x).depth ≤ n) : SeqAt.shaped (.list (xs.map f)) = true := by
  refine shaped_of ?_ ?_
  · simp only [PyData.canLay0]
    exact canLayAll_map h
  · simp only [PyData.depth]
    have := depthAll_map hd
    omega
theorem prP_lay {t : Str × Str} (h1 : sOk t.1) (h2 : sOk t.2) : (prP t).canLay0 = true := by
  show PyData.canLayAll0 [.str t.1, .str t.2] = true
  simp only [PyData.canLayAll0, Bool.and_eq_true]
  exact ⟨h1, h2, trivial⟩
theorem prP_depth (t : Str × Str) : (prP t).depth ≤ 1 := by simp [prP, PyData.depth, PyData.depthAll]
theorem eqv_str (a b : Str) : PyData.eqv (.str a) (.str b) = decide (a = b) := by
  simp only [PyData.eqv]
  by_cases h : a = b
  · rw [h]
    simp
  · rw [decide_eq_false h]
    simpa using h
theorem eqv_pr (a b : Str × Str) : PyData.eqv (prP a) (prP b) = decide (a = b) := by
  obtain ⟨a1, a2⟩ := a
  obtain ⟨b1, b2⟩ := b
  show (PyData.eqv (.str a1) (.str b1) && (PyData.eqv (.str a2) (.str b2) && PyData.eqvAll [] [])) = _
  rw [eqv_str, eqv_str]
  simp only [PyData.eqvAll, Bool.and_true, Prod.mk.injEq]
  by_cases h1 : a1 = b1 <;> by_cases h2 : a2 = b2 <;> simp [h1, h2]
theorem memStr {S : SO} {x : Str} {xs : List Str} {k : Bool → Prop} (hx : sOk x) (hxs : ∀ y ∈ xs, sOk y) (h : k (decide (x ∈ xs))) : memD S (.str x) (plD xs) k := by
  refine ⟨.str x, xs.map .str, rfl, pyDs_strs xs, shaped_str hx, shaped_list (n := 0) (by decide) hxs (fun y _ => by simp [PyData.depth]), ?_⟩
  have e : (xs.map PyData.str).any (fun z => PyData.eqv z (.str x)) = decide (x ∈ xs) := by
    rw [List.any_map]
    by_cases hm : x ∈ xs
    · rw [decide_eq_true hm, List.any_eq_true]
      exact ⟨x, hm, by show PyData.eqv (.str x) (.str x) = true; rw [eqv_str]; simp⟩
    · rw [decide_eq_false hm, List.any_eq_false]
      intro y hy
      show ¬ PyData.eqv (.str y) (.str x) = true
      rw [eqv_str]
      simp only [decide_eq_true_eq]
      exact fun e => hm (e ▸ hy)
  rw [e]
  exact h
theorem memPr {S : SO} {x : Str × Str} {xs : List (Str × Str)} {k : Bool → Prop} (hx : sOk x.1 ∧ sOk x.2) (hxs : ∀ y ∈ xs, sOk y.1 ∧ sOk y.2) (h : k (decide (x ∈ xs))) : memD S (prD x) (xs.map prD) k := by
  refine ⟨prP x, xs.map prP, rfl, pyDs_prs xs, shaped_of (prP_lay hx.1 hx.2) (Nat.le_trans (prP_depth x) (by decide)), shaped_list (n := 1) (by decide) (fun y hy => prP_lay (hxs y hy).1 (hxs y hy).2) (fun y _ => prP_depth y), ?_⟩
  have e : (xs.map prP).any (fun z => PyData.eqv z (prP x)) = decide (x ∈ xs) := by
    rw [List.any_map]
    by_cases hm : x ∈ xs
    · rw [decide_eq_true hm, List.any_eq_true]
      exact ⟨x, hm, by show PyData.eqv (prP x) (prP x) = true; rw [eqv_pr]; simp⟩
    · rw [decide_eq_false hm, List.any_eq_false]
      intro y hy
      show ¬ PyData.eqv (prP y) (prP x) = true
      rw [eqv_pr]
      simp only [decide_eq_true_eq]
      exact fun e => hm (e ▸ hy)
  rw [e]
  exact h
theorem prD_inj {a b : Str × Str} (h : prD a = prD b) : a = b := by
  obtain ⟨a1, a2⟩ := a
  obtain ⟨b1, b2⟩ := b
  unfold prD at h
  simp at h
  rw [h.1, h.2]
theorem prD_key (t : Str × Str) : keyOk true (prD t) := ⟨_, [.inr t.1, .inr t.2], rfl, rfl⟩
theorem dget_mk {t : Str × Str} : ∀ {ts : List (Str × Str)}, (dget (mkD ts) (prD t)).isSome = decide (t ∈ ts)
  | [] => rfl
  | u :: ts => by
    show (dget ((prD u, .bl true) :: mkD ts) (prD t)).isSome = _
    rw [dget_cons]
    by_cases h : u = t
    · rw [if_pos (by rw [h]), decide_eq_true (by rw [h]; exact List.mem_cons_self ..)]
      rfl
    · rw [if_neg fun e => h (prD_inj e), dget_mk]
      have e : (t ∈ u :: ts) = (t ∈ ts) := by
        rw [List.mem_cons]
        exact propext ⟨fun z => z.elim (fun e => absurd e.symm h) id, .inr⟩
      simp only [e]
theorem nodup_map {α β : Type} {f : α → β} (hf : ∀ a b, f a = f b → a = b) : ∀ {l : List α}, l.Nodup → (l.map f).Nodup
  | [], _ => List.nodup_nil
  | x :: xs, h => by
    have h' := List.nodup_cons.mp h
    rw [List.map_cons, List.nodup_cons]
    refine ⟨fun hm => ?_, nodup_map hf h'.2⟩
    obtain ⟨y, hy, e⟩ := List.mem_map.mp hm
    exact h'.1 (hf _ _ e ▸ hy)
theorem mk_keys (ts : List (Str × Str)) (h : ts.Nodup) : ((mkD ts).map (·.1)).Nodup := by
  unfold mkD
  rw [List.map_map]
  exact nodup_map (fun a b e => prD_inj e) h
theorem dputs_mk {ts : List (Str × Str)} (h : ts.Nodup) : dputsL [] (mkD ts) = mkD ts := by
  have := dputsL_nodup (kvs := mkD ts) (acc := []) (fun p _ => rfl) (mk_keys ts h)
  simpa using this
end L2.DL

namespace L2.DL
open PySem PySem.Spec PyProof.Rows
theorem sIx_hi {n j : Nat} (h : j ≤ n) : HT.sIx n n (some (j : Int)) = j := by
  unfold HT.sIx
  show (if (j : Int) < 0 then _ else _) = _
  rw [if_neg (by omega)]
  omega
theorem sIx_lo0 {n : Nat} : HT.sIx n 0 none = 0 := rfl
theorem cut_pre {xs : List D} {j : Nat} (h : j ≤ xs.length) : cutD xs none (some (j : Int)) = xs.take j := by
  unfold cutD
  rw [sIx_lo0, sIx_hi h]
  simp
/-! ### wrong_place -/
def PlacesOk (ps : List Str) : Prop := ps.length ≤ 40 ∧ (∀ p ∈ ps, nameOk p = true) ∧ ps.Nodup
def sp_wrong_place (W : Addr) : DSp := fun ds S Q E => ∃ ps : List Str, ds = [.tf (plD ps)] ∧ PlacesOk ps ∧ Q .non S
def w_wrong_place (W : Addr) : WS := (wSeq (wFor (wEnum (wCons (wV 0) wNil)) (gT 2 (gC (gV 1) (gC (gV 2) gN))) (wIfS (wOr (wB (wO oEq (wV 1) (wC (.int 40)))) (wOr (wNot (wB (wFn (sp_is_name W) [] (wCons (wV 2) wNil)))) (wB (wO oIn (wV 2) (wSl (wV 0) pNone (pSome (wV 1))))))) (wRet (wV 1)) wNext))
    (wRet (wC .non)))
theorem plD_get {ps : List Str} {i : Nat} {d : D} (h : (plD ps)[i]? = some d) : ∃ x, ps[i]? = some x ∧ d = .str x := by
  rw [List.getElem?_map] at h
  obtain ⟨x, hx, rfl⟩ := Option.map_eq_some_iff.mp h
  exact ⟨x, hx, rfl⟩
theorem nodup_take {α : Type} {xs : List α} {i : Nat} {x : α} (h : xs.Nodup) (hi : xs[i]? = some x) : x ∉ xs.take i := by
  obtain ⟨hl, e⟩ := List.getElem?_eq_some_iff.mp hi
  intro hm
  obtain ⟨j, hj, e2⟩ := List.mem_iff_getElem.mp hm
  rw [List.getElem_take] at e2
  rw [List.length_take] at hj
  have hp := List.pairwise_iff_getElem.mp h j i (by omega) hl (by omega)
  exact hp (e2.trans e.symm)
theorem pure_wrong_place (W : Addr) : ∀ ds S Q E, sp_wrong_place W ds S Q E → w_wrong_place W (endsOf Q) (startD ["values", "index", "value"] ds) S := by
  rintro ds S Q E ⟨ps, rfl, ⟨hf, hn, hd⟩, q⟩
  refine ⟨⟨fun i sd S' => S' = S ∧ ∃ a b, sd = [some (.tf (plD ps)), a, b], ⟨rfl, none, none, rfl⟩, fun _ _ _ _ => trivial, ?_, ?_⟩⟩
  · rintro i d sd S' hi ⟨rfl, a, b, rfl⟩
    obtain ⟨x, hx, rfl⟩ := enumD_get hi
    obtain ⟨n, hn', rfl⟩ := plD_get hx
    have hl := (List.getElem?_eq_some_iff.mp hn').1
    have hm : n ∈ ps := List.mem_of_getElem? hn'
    refine ⟨rfl, rfl, isN (decide_eq_false (by omega)) ⟨n, rfl, name_len (hn n hm), isY (hn n hm) ?_⟩⟩
    refine ⟨fun h => ?_, Or.inl ⟨_, rfl, ?_⟩⟩
    · rw [sIx_hi (by rw [List.length_map]; omega), List.length_map] at h
      omega
    · have hc : cutD (plD ps) none (some (i : Int)) = plD (ps.take i) := by
        rw [cut_pre (by rw [List.length_map]; omega)]
        exact (List.map_take ..).symm
      rw [hc]
      exact memStr (name_sOk (hn n hm)) (fun y hy => name_sOk (hn y (List.mem_of_mem_take hy))) (isN (decide_eq_false (nodup_take hd hn')) ⟨rfl, _, _, rfl⟩)
  · rintro sd S' ⟨rfl, _⟩
    exact cl q
/-! ### is_pair -/
def sp_is_pair (W : Addr) : DSp := fun ds S Q E => ∃ (ps : List Str) (t : Str × Str), ds = [.tf (plD ps), prD t] ∧ (∀ p ∈ ps, sOk p) ∧ t.1 ∈ ps ∧ t.2 ∈ ps ∧ t.1 ≠ t.2 ∧ Q (.bl true) S
def w_is_pair (W : Addr) : WS := (wSeq (wIfS (wOr (wNot (wB (wCall (cIsi (.ty "tuple") (fTy "tuple" [])) (wCons (wV 1) (wCons (wC (.ty "tuple")) wNil))))) (wB (wO oNe (wCall cLen (wCons (wV 1) wNil)) (wC (.int 2))))) (wRet (wC (.bl false))) wNext)
    (wRet (wAndV (wCall cAll (wCons (wLcP (wSeqI (wV 1)) (.n 2) wYes (wAndV (wCall (cIsi (.ty "str") (fTy "str" [])) (wCons (wV 2) (wCons (wC (.ty "str")) wNil))) (wO oIn (wV 2) (wV 0))) [2]) wNil)) (wO oNe (wO oIx (wV 1) (wC (.int 0))) (wO oIx (wV 1) (wC (.int 1)))))))
theorem pure_is_pair (W : Addr) : ∀ ds S Q E, sp_is_pair W ds S Q E → w_is_pair W (endsOf Q) (startD ["places", "value", "place"] ds) S := by
  rintro ds S Q E ⟨ps, ⟨a, b⟩, rfl, hs, ha, hb, hab, q⟩
  refine ⟨rfl, _, _, rfl, rfl, isY rfl ?_⟩
  refine ⟨Or.inl ⟨_, rfl, isN rfl ?_⟩⟩
  refine lcP_map [.str a, .str b] (fun _ => .bl true) ⟨rfl, rfl⟩ (by show 2 ≤ 1000000; decide) (fun d hd S' e => ?_) ⟨[true, true], rfl, isY rfl ?_⟩
  · have hd' : d = .str a ∨ d = .str b := by simpa using hd
    rcases hd' with rfl | rfl
    · exact ⟨rfl, _, _, rfl, rfl, isY rfl (Or.inl ⟨_, rfl, memStr (hs a ha) hs ⟨rfl, by rw [decide_eq_true ha]⟩⟩)⟩
    · exact ⟨rfl, _, _, rfl, rfl, isY rfl (Or.inl ⟨_, rfl, memStr (hs b hb) hs ⟨rfl, by rw [decide_eq_true hb]⟩⟩)⟩
  · refine Or.inl ⟨[.str a, .str b], 0, .str a, rfl, rfl, rfl, Or.inl ⟨[.str a, .str b], 1, .str b, rfl, rfl, rfl, ?_⟩⟩
    have e : (!decide (a = b)) = true := by rw [decide_eq_false hab]; rfl
    show Cl Q (.bl (!decide (a = b))) S
    rw [e]
    exact cl q
end L2.DL

namespace L2.DL
open PySem PySem.Spec PyProof.Rows
/-! ### wrong_tie -/
structure TiesOk (ps : List Str) (ts : List (Str × Str)) : Prop where
  sok : ∀ p ∈ ps, sOk p
  few : ts.length ≤ 200
  tie : ∀ t ∈ ts, t.1 ∈ ps ∧ t.2 ∈ ps ∧ t.1 ≠ t.2
  nd : ts.Nodup
def sp_wrong_tie (W : Addr) : DSp := fun ds S Q E => ∃ (ps : List Str) (ts : List (Str × Str)), ds = [.tf (plD ps), .tf (ts.map prD)] ∧ TiesOk ps ts ∧ Q .non S
def w_wrong_tie (W : Addr) : WS := (wSeq (wAsg (wDnew true) (gV 2))
    (wSeq (wFor (wEnum (wCons (wV 1) wNil)) (gT 2 (gC (gV 3) (gC (gV 4) gN))) (wSeq (wIfS (wOr (wB (wO oEq (wV 3) (wC (.int 200)))) (wOr (wNot (wB (wFn (sp_is_pair W) [] (wCons (wV 0) (wCons (wV 4) wNil))))) (wB (wO oIn (wV 4) (wV 2))))) (wRet (wV 3)) wNext)
    (wAsg (wC (.bl true)) (gSubD (wV 2) (wV 4) sSub))))
    (wRet (wC .non))))
theorem prD_get {ts : List (Str × Str)} {i : Nat} {d : D} (h : (ts.map prD)[i]? = some d) : ∃ x, ts[i]? = some x ∧ d = prD x := by
  rw [List.getElem?_map] at h
  obtain ⟨x, hx, rfl⟩ := Option.map_eq_some_iff.mp h
  exact ⟨x, hx, rfl⟩
theorem mkD_snoc {ts : List (Str × Str)} {i : Nat} {t : Str × Str} (h : ts.Nodup) (hi : ts[i]? = some t) : dput (mkD (ts.take i)) (prD t) (.bl true) = mkD (ts.take (i + 1)) := by
  have hn := dget_mk (t := t) (ts := ts.take i)
  rw [decide_eq_false (nodup_take h hi)] at hn
  have h0 : dget (mkD (ts.take i)) (prD t) = none := by
    cases q : dget (mkD (ts.take i)) (prD t) with
    | none => rfl
    | some d =>
      rw [q] at hn
      cases hn
  rw [dput_new h0, List.take_add_one, hi]
  unfold mkD
  rw [List.map_append]
  rfl
theorem pure_wrong_tie (W : Addr) : ∀ ds S Q E, sp_wrong_tie W ds S Q E → w_wrong_tie W (endsOf Q) (startD ["places", "values", "seen", "index", "value"] ds) S := by
  rintro ds S Q E ⟨ps, ts, rfl, T, q⟩
  intro p hp
  refine ⟨⟨fun i sd S' => S' = S.set p (.dic true (mkD (ts.take i))) ∧ ∃ a b, sd = [some (.tf (plD ps)), some (.tf (ts.map prD)), some (.obj p), a, b], ⟨rfl, none, none, rfl⟩, fun _ _ _ _ => trivial, ?_, ?_⟩⟩
  · rintro i d sd S' hi ⟨rfl, a, b, rfl⟩
    obtain ⟨x, hx, rfl⟩ := enumD_get hi
    obtain ⟨t, ht, rfl⟩ := prD_get hx
    have hl := (List.getElem?_eq_some_iff.mp ht).1
    have hm : t ∈ ts := List.mem_of_getElem? ht
    obtain ⟨t1, t2, t3⟩ := T.tie t hm
    have hf := T.few
    refine ⟨rfl, rfl, isN (decide_eq_false (by omega)) ⟨ps, t, rfl, T.sok, t1, t2, t3, isY rfl (Or.inr ⟨true, mkD (ts.take i), ?_, prD_key t, isN ?_ ?_⟩)⟩⟩
    · show objD (S.set p (.dic true (mkD (ts.take i))) p) = some (true, mkD (ts.take i))
      rw [set_same]
      rfl
    · rw [dget_mk]
      exact decide_eq_false (nodup_take T.nd ht)
    · refine ⟨p, rfl, Or.inr ⟨true, mkD (ts.take i), set_same, prD_key t, ?_, ?_, _, _, rfl⟩⟩
      · unfold mkD
        rw [List.length_map, List.length_take]
        omega
      · rw [set_set, mkD_snoc T.nd ht]
  · rintro sd S' ⟨rfl, _⟩
    exact ⟨.non, S, Rf.dropS .non hp, q⟩
/-! ### check_places, check_ties -/
def sp_check_places (W : Addr) : DSp := fun ds S Q E => ∃ ps : List Str, ds = [.tf (plD ps)] ∧ PlacesOk ps ∧ ps ≠ [] ∧ Q .non S
def w_check_places (W : Addr) : WS := (wSeq (wIfS (wOr (wNot (wB (wCall (cIsi (.ty "tuple") (fTy "tuple" [])) (wCons (wV 0) (wCons (wC (.ty "tuple")) wNil))))) (wB (wO oEq (wV 0) (wTup wNil)))) wNever wNext)
    (wSeq (wAsg (wFn (sp_wrong_place W) [] (wCons (wV 0) wNil)) (gV 1))
    (wIfS (wB (wO oNotN (wV 1) (wC .non))) wNever wNext)))
theorem shaped_tupS {xs : List Str} (h : ∀ x ∈ xs, sOk x) : SeqAt.shaped (.tuple (xs.map PyData.str)) = true := by
  refine shaped_of ?_ ?_
  · simp only [PyData.canLay0]
    exact canLayAll_map h
  · simp only [PyData.depth]
    have := depthAll_map (f := PyData.str) (n := 0) (xs := xs) (fun y _ => by simp [PyData.depth])
    omega
theorem pure_check_places (W : Addr) : ∀ ds S Q E, sp_check_places W ds S Q E → w_check_places W (endsOf Q) (startD ["places", "wrong"] ds) S := by
  rintro ds S Q E ⟨ps, rfl, ok, hne, q⟩
  refine ⟨rfl, _, _, rfl, rfl, isY rfl ⟨by decide, .tuple (ps.map .str), .tuple [], ?_, rfl, shaped_tupS fun x hx => name_sOk (ok.2.1 x hx), by decide +kernel, isN ?_ ⟨ps, rfl, ok, rfl, isN rfl (cl q)⟩⟩⟩
  · show (pyDs (plD ps)).map PyData.tuple = _
    rw [pyDs_strs]
    rfl
  · cases ps with
    | nil => exact absurd rfl hne
    | cons x xs =>
      simp [PyData.eqv, PyData.eqvAll]
def sp_check_ties (W : Addr) : DSp := fun ds S Q E => ∃ (ps : List Str) (ts : List (Str × Str)), ds = [.tf (plD ps), .tf (ts.map prD)] ∧ TiesOk ps ts ∧ Q .non S
def w_check_ties (W : Addr) : WS := (wSeq (wIfS (wNot (wB (wCall (cIsi (.ty "tuple") (fTy "tuple" [])) (wCons (wV 1) (wCons (wC (.ty "tuple")) wNil))))) wNever wNext)
    (wSeq (wAsg (wFn (sp_wrong_tie W) [] (wCons (wV 0) (wCons (wV 1) wNil))) (gV 2))
    (wIfS (wB (wO oNotN (wV 2) (wC .non))) wNever wNext)))
theorem pure_check_ties (W : Addr) : ∀ ds S Q E, sp_check_ties W ds S Q E → w_check_ties W (endsOf Q) (startD ["places", "ties", "wrong"] ds) S := by
  rintro ds S Q E ⟨ps, ts, rfl, ok, q⟩
  exact ⟨rfl, _, _, rfl, rfl, isY rfl ⟨ps, ts, rfl, ok, rfl, isN rfl (cl q)⟩⟩
/-! ### Web.__init__ -/
def fsD (ps : List Str) (ts : List (Str × Str)) : List (Str × D) := [("row", .tf (plD ps)), ("pairs", .tf (ts.map prD)), ("marks", .dic true (mkD ts))]
def sp_Web_init (W : Addr) : DSp := fun ds S Q E => ∃ (p : Addr) (ps : List Str) (ts : List (Str × Str)), ds = [.obj p, .tf (plD ps), .tf (ts.map prD)] ∧ S p = some (.ins W []) ∧ WebOk ps ts ∧ Q .non (S.set p (.ins W (fsD ps ts)))
def w_Web_init (W : Addr) : WS := (wSeq (wDrop (wFn (sp_check_places W) [] (wCons (wV 1) wNil)))
    (wSeq (wDrop (wFn (sp_check_ties W) [] (wCons (wV 1) (wCons (wV 2) wNil))))
    (wSeq (wSetF W "row" (wV 0) (wV 1))
    (wSeq (wSetF W "pairs" (wV 0) (wV 2))
    (wSetF W "marks" (wV 0) (wDcP true (wSeqI (wV 2)) (.n 3) wYes (wV 3) (wC (.bl true)) [3]))))))
theorem WebOk.places {ps : List Str} {ts : List (Str × Str)} (h : WebOk ps ts) : PlacesOk ps := ⟨h.few, h.nm, h.nd⟩
theorem WebOk.ties {ps : List Str} {ts : List (Str × Str)} (h : WebOk ps ts) : TiesOk ps ts := ⟨fun p hp => name_sOk (h.nm p hp), h.tfew, h.tie, h.tnd⟩
theorem WebOk.ne {ps : List Str} {ts : List (Str × Str)} (h : WebOk ps ts) : ps ≠ [] := List.length_pos_iff.mp h.pos
theorem pure_Web_init (W : Addr) : ∀ ds S Q E, sp_Web_init W ds S Q E → w_Web_init W (endsOf Q) (startD ["self", "places", "ties", "tie"] ds) S := by
  rintro ds S Q E ⟨p, ps, ts, rfl, hp, ok, q⟩
  refine ⟨ps, rfl, ok.places, ok.ne, ps, ts, rfl, ok.ties, p, _, rfl, hp, lez rfl, p, _, rfl, set_same, lez rfl, ?_⟩
  refine dcP_of (ts.map prD) (fun d => some (d, .bl true)) ⟨rfl, rfl⟩ (by rw [List.length_map]; have := ok.tfew; omega) (fun d hd S' e => ⟨rfl, upI ⟨rfl, ?_, upI ⟨rfl, rfl⟩⟩⟩) ⟨p, _, rfl, set_same, lez rfl, ?_⟩
  · obtain ⟨t, _, rfl⟩ := List.mem_map.mp hd
    exact prD_key t
  · have e : dputsL [] ((ts.map prD).filterMap fun d => some (d, D.bl true)) = mkD ts := by
      rw [List.filterMap_eq_map', List.map_map]
      exact dputs_mk ok.tnd
    rw [e, set_set, set_set]
    exact cl q
/-! ### has_tie, check_web, check_place -/
def sp_Web_has_tie (W : Addr) : DSp := fun ds S Q E => ∃ (ps : List Str) (ts : List (Str × Str)) (a b : Str), ds = [webD W ps ts, .str a, .str b] ∧ Q (.bl (decide ((a, b) ∈ ts))) S
def sp_check_web (W : Addr) : DSp := fun ds S Q E => ∃ (ps : List Str) (ts : List (Str × Str)), ds = [webD W ps ts] ∧ Q .non S
end L2.DL

namespace L2.DL
open PySem PySem.Spec PyProof.Rows
/-! ### nexts_of -/
end L2.DL

namespace L2.DL
open PySem PySem.Spec PyProof.Rows
/-! ### what is reached -/
end L2.DL

namespace L2.DL
open PySem PySem.Spec PyProof.Rows
end L2.DL

namespace L2.DL
open PySem PySem.Spec PyProof.Rows
/-! ### leads -/
theorem mem_take_of {α : Type} {ps : List α} {a : α} {i j : Nat} (hi : ps[i]? = some a) (h : i < j) : a ∈ ps.take j := by
  obtain ⟨hl, e⟩ := List.getElem?_eq_some_iff.mp hi
  refine List.mem_iff_getElem.mpr ⟨i, by rw [List.length_take]; omega, ?_⟩
  rw [List.getElem_take]
  exact e
theorem nodup_ix {α : Type} {ps : List α} (nd : ps.Nodup) {a : α} {i j : Nat} (hi : ps[i]? = some a) (hj : ps[j]? = some a) : i = j := by
  rcases Nat.lt_trichotomy i j with h | h | h
  · exact absurd (mem_take_of hi h) (nodup_take nd hj)
  · exact h
  · exact absurd (mem_take_of hj h) (nodup_take nd hi)
end L2.DL

namespace L2.DL
open PySem PySem.Spec PyProof.Rows
/-! ### draws: a list of three numbers -/
abbrev pan3 (a b c : Int) : DO := .lst [.int a, .int b, .int c]
theorem seqX_obj {S : SO} {p : Addr} {xs : List D} (h : S p = some (.lst xs)) : seqX S (.obj p) = some xs := by
  show objL (S p) = some xs
  rw [h]
  rfl
theorem lstX_obj {S : SO} {p : Addr} {xs : List D} (h : S p = some (.lst xs)) : lstX S (.obj p) = some xs := by
  show objL (S p) = some xs
  rw [h]
  rfl
theorem cmulL {i j : Int} (h1 : -(2 ^ 64) < i) (h2 : i < 2 ^ 64) : CMul i j := .inl ⟨h1, h2⟩
theorem cmulR {i j : Int} (h1 : -(2 ^ 64) < j) (h2 : j < 2 ^ 64) : CMul i j := .inr ⟨h1, h2⟩
theorem len_ints {ns : List Int} (h : ns.length ≤ 63) : (ns.map D.int).length ≤ 63 := by rw [List.length_map]; exact h
theorem cut_sub {xs : List D} {lo hi : Option Int} : ∀ d ∈ cutD xs lo hi, d ∈ xs := fun d h => List.mem_of_mem_drop (List.mem_of_mem_take h)
theorem cut_len {xs : List D} {lo hi : Option Int} : (cutD xs lo hi).length ≤ xs.length := by
  unfold cutD
  rw [List.length_take, List.length_drop]
  omega
/-! ### _law_scoop, _law_pick -/
/-- the items of what does not change -/
def fz : D → Option (List D)
  | .lst xs => some xs
  | .tup xs => some xs
  | .tf xs => some xs
  | .src xs => some xs
  | .kt xs => some xs
  | _ => none
end L2.DL

namespace L2.DL
open PySem PySem.Spec PyProof.Rows
/-! ### drawn names -/
def letterAt (n : Nat) : Nat := LETTERS.cps.toList.getD n 0
theorem letters26 : LETTERS.cps.toList.length = 26 := by decide +kernel
theorem letters_nd : LETTERS.cps.toList.Nodup := by decide +kernel
theorem letterAt_get {n : Nat} (h : n < 26) : LETTERS.cps.toList[n]? = some (letterAt n) := by
  unfold letterAt
  rw [List.getD_eq_getElem?_getD, List.getElem?_eq_getElem (by rw [letters26]; exact h)]
  rfl
theorem letterAt_mem {n : Nat} (h : n < 26) : letterAt n ∈ LETTERS.cps.toList := List.mem_of_getElem? (letterAt_get h)
theorem letterAt_inj {i j : Nat} (hi : i < 26) (hj : j < 26) (h : letterAt i = letterAt j) : i = j := nodup_ix letters_nd (letterAt_get hi) (h ▸ letterAt_get hj)
def spot (s l : Int) (k : Nat) : Nat := ((s + l * k) % 26).toNat
theorem spot_lt (s l : Int) (k : Nat) : spot s l k < 26 := by
  unfold spot
  have h0 := Int.emod_nonneg (s + l * k) (show (26 : Int) ≠ 0 by decide)
  have h1 := Int.emod_lt_of_pos (s + l * k) (show (0 : Int) < 26 by decide)
  omega
def StemOk (x : Str) : Prop := x.length ≤ 6 ∧ ∀ c ∈ x.cps.toList, c ∈ LETTERS.cps.toList
def LeapOk (l : Int) : Prop := l = 1 ∨ l = 3 ∨ l = 5 ∨ l = 7 ∨ l = 9 ∨ l = 11
theorem spot_inj {s l : Int} (hl : LeapOk l) {i j : Nat} (hi : i < j + 26) (hj : j < i + 26) (h : spot s l i = spot s l j) : i = j := by
  unfold spot at h
  have a0 := Int.emod_nonneg (s + l * i) (show (26 : Int) ≠ 0 by decide)
  have b0 := Int.emod_nonneg (s + l * j) (show (26 : Int) ≠ 0 by decide)
  have h2 : (s + l * i) % 26 = (s + l * j) % 26 := by omega
  rcases hl with rfl | rfl | rfl | rfl | rfl | rfl <;> omega
structure NamesOk (ts : List Str) : Prop where
  nm : ∀ t ∈ ts, nameOk t = true
  nd : ts.Nodup
end L2.DL

namespace L2.DL
open PySem PySem.Spec PyProof.Rows
/-! ### drawn ties -/
theorem set_comm {S : SO} {a b : Addr} {x y : DO} (h : a ≠ b) : (S.set a x).set b y = (S.set b y).set a x := by
  funext c
  unfold SO.set
  by_cases h1 : c = b
  · rw [if_pos h1, if_neg fun e => h (e.symm.trans h1), if_pos h1]
  · rw [if_neg h1]
    by_cases h2 : c = a
    · rw [if_pos h2, if_pos h2]
    · rw [if_neg h2, if_neg h2, if_neg h1]
/-! ### _law_case, _law_made -/
end L2.DL

namespace L2.DL
open PySem PySem.Spec PyProof.Rows
/-! ### draws of the other family -/
def sp_cup_cup (W : Addr) : DSp := fun ds S Q E => ∃ (ns : List Int) (k : Nat), ds = [.src (ns.map D.int), .int (k : Nat)] ∧ ns.length ≤ 63 ∧ ∀ p a b, S p = none → Q (.obj p) (S.set p (pan3 a b 0))
def w_cup_cup (W : Addr) : WS := (wSeq (wAsg (wIf (wB (wO oLt (wV 1) (wCall cLen (wCons (wV 0) wNil)))) (wCall cInt (wCons (wO oIx (wV 0) (wV 1)) wNil)) (wO oAdd (wO oMul (wC (.int 4903)) (wV 1)) (wC (.int 67)))) (gV 2))
    (wSeq (wAsg (wO oAdd (wC (.int 61001)) (wO oMul (wC (.int 701)) (wV 1))) (gV 3))
    (wSeq (wFor (wSeqI (wO oAdd (wSl (wV 0) pNone (pSome (wC (.int 5)))) (wLst (wCons (wV 2) wNil)))) (gV 4) (wAsg (wO oMod (wCall cInt (wCons (wO oAdd (wO oMul (wV 3) (wC (.int 46021))) (wCall cInt (wCons (wV 4) wNil))) wNil)) (wC (.int 2147483137))) (gV 3)))
    (wRet (wNew (wCons (wIf (wOr (wB (wO oLt (wV 2) (wC (.int 0)))) (wB (wO oGe (wV 2) (wO oPow (wC (.int 10)) (wC (.int 18)))))) (wCall cAbs (wCons (wV 2) wNil)) (wC (.int 0))) (wCons (wV 3) (wCons (wC (.int 0)) wNil))))))))
theorem pure_cup_cup (W : Addr) : ∀ ds S Q E, sp_cup_cup W ds S Q E → w_cup_cup W (endsOf Q) (startD ["_law_script", "_law_k", "_law_cell", "_law_mixed", "_law_each"] ds) S := by
  rintro ds S Q E ⟨ns, k, rfl, hl, q⟩
  have hl' := len_ints hl
  have rest : ∀ cell : Int, wSeq (wAsg (wO oAdd (wC (.int 61001)) (wO oMul (wC (.int 701)) (wV 1))) (gV 3))
    (wSeq (wFor (wSeqI (wO oAdd (wSl (wV 0) pNone (pSome (wC (.int 5)))) (wLst (wCons (wV 2) wNil)))) (gV 4) (wAsg (wO oMod (wCall cInt (wCons (wO oAdd (wO oMul (wV 3) (wC (.int 46021))) (wCall cInt (wCons (wV 4) wNil))) wNil)) (wC (.int 2147483137))) (gV 3)))
    (wRet (wNew (wCons (wIf (wOr (wB (wO oLt (wV 2) (wC (.int 0)))) (wB (wO oGe (wV 2) (wO oPow (wC (.int 10)) (wC (.int 18)))))) (wCall cAbs (wCons (wV 2) wNil)) (wC (.int 0))) (wCons (wV 3) (wCons (wC (.int 0)) wNil)))))) (endsOf Q) [some (.src (ns.map D.int)), some (.int (k : Nat)), some (.int cell), none, none] S := by
    intro cell
    refine ⟨cmulL (by decide) (by decide), ?_⟩
    refine ⟨⟨lez rfl, ?_, ?_⟩⟩
    · have := cut_len (xs := ns.map D.int) (lo := none) (hi := some 5)
      show _ + 1 ≤ 1000000
      omega
    refine ⟨fun i sd S' => S' = S ∧ ∃ m c4, sd = [some (.src (ns.map D.int)), some (.int (k : Nat)), some (.int cell), some (.int m), c4], ⟨rfl, _, none, rfl⟩, fun _ _ _ _ => trivial, ?_, ?_⟩
    · rintro i d sd S' hi ⟨rfl, m, c4, rfl⟩
      have hm : d ∈ cutD (ns.map D.int) none (some 5) ++ [.int cell] := List.mem_of_getElem? hi
      obtain ⟨e, rfl⟩ : ∃ e, d = D.int e := by
        rcases List.mem_append.mp hm with h | h
        · obtain ⟨e, _, he⟩ := List.mem_map.mp (cut_sub d h)
          exact ⟨e, he.symm⟩
        · exact ⟨cell, by simpa using h⟩
      exact ⟨cmulR (by decide) (by decide), (by show (0 : Int) < 2147483137; decide), rfl, _, _, rfl⟩
    · rintro sd S' ⟨rfl, m, c4, rfl⟩
      have fin : ∀ a : Int, wRet (fun sd S Q => ∀ p, S p = none → Q (.obj p) (S.set p (pan3 a m 0))) (endsOf Q) [some (.src (ns.map D.int)), some (.int (k : Nat)), some (.int cell), some (.int m), c4] S' := fun a p hp => cl (q p a m hp)
      refine ⟨trivial, isC (fun h => ⟨lez rfl, fin _⟩) fun h => ?_⟩
      refine ⟨⟨by decide, by decide, by decide⟩, trivial, isC (fun h => ⟨lez rfl, fin _⟩) fun h => ⟨lez rfl, fin _⟩⟩
  refine ⟨Or.inl ⟨_, rfl, ⟨trivial, isC (fun h => ?_) fun h => ⟨cmulL (by decide) (by decide), rest _⟩⟩⟩⟩
  have h' : (k : Int) < (ns.map D.int).length := of_decide_eq_true h
  rw [List.length_map] at h'
  have hk : k < ns.length := by omega
  exact Or.inl ⟨_, (k : Int), .int ns[k], rfl, rfl, atI_nat (by rw [List.getElem?_map, List.getElem?_eq_getElem hk]; rfl), rest _⟩
def sp_cup_sip (W : Addr) : DSp := fun ds S Q E => ∃ (p : Addr) (a b c : Int) (m : Int), ds = [.obj p, .int m] ∧ S p = some (pan3 a b c) ∧ 0 < m ∧ m < 1073741824 ∧ ∀ r a' b' c' : Int, 0 ≤ r → r < m → Q (.int r) (S.set p (pan3 a' b' c'))
def w_cup_sip (W : Addr) : WS := (wSeq (wAsg (wO oAdd (wO oIx (wV 0) (wC (.int 2))) (wC (.int 1))) (gSubD (wV 0) (wC (.int 2)) sSub))
    (wSeq (wAsg (wCall cInt (wCons (wO oIx (wV 0) (wC (.int 1))) wNil)) (gV 2))
    (wSeq (wAsg (wO oMod (wCall cInt (wCons (wO oAdd (wO oAdd (wO oMul (wV 2) (wO oAdd (wO oMod (wCall cInt (wCons (wV 2) wNil)) (wC (.int 15013))) (wC (.int 29009)))) (wO oMul (wC (.int 70019)) (wO oIx (wV 0) (wC (.int 2))))) (wC (.int 31))) wNil)) (wC (.int 2147483137))) (gSubD (wV 0) (wC (.int 1)) sSub))
    (wSeq (wIfS (wB (wO oGt (wO oIx (wV 0) (wC (.int 0))) (wC (.int 0)))) (wSeq (wAsg (wCall cDivmod (wCons (wO oIx (wV 0) (wC (.int 0))) (wCons (wV 1) wNil))) (gT 2 (gC (gSubD (wV 0) (wC (.int 0)) sSub) (gC (gV 3) gN))))
    (wRet (wV 3))) wNext)
    (wRet (wO oMod (wCall cInt (wCons (wO oDiv (wO oIx (wV 0) (wC (.int 1))) (wC (.int 107))) wNil)) (wV 1)))))))
theorem pure_cup_sip (W : Addr) : ∀ ds S Q E, sp_cup_sip W ds S Q E → w_cup_sip W (endsOf Q) (startD ["_law_cup_here", "_law_many", "_law_old", "_law_digit"] ds) S := by
  rintro ds S Q E ⟨p, a, b, c, m, rfl, hp, h0, h1, q⟩
  refine Or.inl ⟨_, 2, .int c, seqX_obj hp, rfl, rfl, p, rfl, Or.inl ⟨_, 2, 2, hp, rfl, rfl, ?_⟩⟩
  refine Or.inl ⟨_, 1, .int b, seqX_obj set_same, rfl, rfl, ?_⟩
  refine ⟨by show (0 : Int) < 15013; decide, cmulR ?_ ?_, ?_⟩
  · have := Int.emod_nonneg b (show (15013 : Int) ≠ 0 by decide)
    show -(2 ^ 64) < b % 15013 + 29009
    omega
  · have := Int.emod_lt_of_pos b (show (0 : Int) < 15013 by decide)
    show b % 15013 + 29009 < 2 ^ 64
    omega
  refine Or.inl ⟨_, 2, .int (c + 1), seqX_obj set_same, rfl, rfl, ?_⟩
  refine ⟨cmulL (by decide) (by decide), by show (0 : Int) < 2147483137; decide, p, rfl, Or.inl ⟨_, 1, 1, set_same, rfl, rfl, ?_⟩⟩
  refine Or.inl ⟨_, 0, .int a, seqX_obj set_same, rfl, rfl, trivial, isC (fun h => ?_) fun h => ?_⟩
  · refine Or.inl ⟨_, 0, .int a, seqX_obj set_same, rfl, rfl, ⟨h0, h1⟩, rfl, p, rfl, Or.inl ⟨_, 0, 0, set_same, rfl, rfl, rfl, ?_⟩⟩
    rw [set_set, set_set]
    exact cl (q (a % m) (a / m) _ (c + 1) (Int.emod_nonneg _ (by omega)) (Int.emod_lt_of_pos _ h0))
  · refine Or.inl ⟨_, 1, _, seqX_obj set_same, rfl, rfl, ⟨by decide, by decide⟩, h0, cl ?_⟩
    rw [set_set]
    exact q _ _ _ _ (Int.emod_nonneg _ (by omega)) (Int.emod_lt_of_pos _ h0)
/-- the items of a list or tuple that the cup at p is not -/
def seqP (S : SO) (p : Addr) : D → Option (List D)
  | .obj q => if q = p then none else objL (S q)
  | d => fz d
theorem seqP_at {S : SO} {p : Addr} {t : D} {xs : List D} {o : DO} (h : seqP S p t = some xs) : seqX S t = some xs ∧ seqX (S.set p o) t = some xs := by
  cases t with
  | obj q =>
    have h' : (if q = p then none else objL (S q)) = some xs := h
    by_cases e : q = p
    · rw [if_pos e] at h'
      cases h'
    · rw [if_neg e] at h'
      refine ⟨h', ?_⟩
      show objL ((S.set p o) q) = _
      rw [set_ne e]
      exact h'
  | non => cases h
  | bl _ => cases h
  | int _ => cases h
  | str _ => cases h
  | ty _ => cases h
  | dic _ _ => cases h
  | ins _ _ => cases h
  | _ => exact ⟨h, h⟩
def sp_cup_of (W : Addr) : DSp := fun ds S Q E => ∃ (p : Addr) (a b c : Int) (t : D) (xs : List D), ds = [.obj p, t] ∧ S p = some (pan3 a b c) ∧ seqP S p t = some xs ∧ xs ≠ [] ∧ xs.length ≤ 1000000 ∧ ∀ x ∈ xs, ∀ a' b' c' : Int, Q x (S.set p (pan3 a' b' c'))
def w_cup_of (W : Addr) : WS := (wRet (wO oIx (wV 1) (wFn (sp_cup_sip W) [] (wCons (wV 0) (wCons (wCall cLen (wCons (wV 1) wNil)) wNil)))))
theorem pure_cup_of (W : Addr) : ∀ ds S Q E, sp_cup_of W ds S Q E → w_cup_of W (endsOf Q) (startD ["_law_cup_here", "_law_things"] ds) S := by
  rintro ds S Q E ⟨p, a, b, c, t, xs, rfl, hp, ht, hne, hl, q⟩
  have hpos := List.length_pos_iff.mpr hne
  refine len_seq (seqP_at (o := pan3 0 0 0) ht).1 ⟨p, a, b, c, _, rfl, hp, by omega, by omega, fun r a' b' c' h0 h1 => ?_⟩
  have hr : r.toNat < xs.length := by omega
  refine Or.inl ⟨xs, r, xs[r.toNat], (seqP_at ht).2, rfl, ?_, cl (q _ (List.getElem_mem hr) _ _ _)⟩
  have e := atI_nat (List.getElem?_eq_getElem hr)
  rwa [Int.toNat_of_nonneg h0] at e
end L2.DL

namespace L2.DL
open PySem PySem.Spec PyProof.Rows
/-! ### _law_folk: names -/
def MENU : List Str := ["a", "b", "c", "d", "places", "x", "abcdefgh", "ab", "ba", "put", "e"]
def menuAt (n : Nat) : Str := MENU.getD n Str.empty
theorem menuAt_get {n : Nat} (h : n < 11) : MENU[n]? = some (menuAt n) := by
  unfold menuAt
  rw [List.getD_eq_getElem?_getD, List.getElem?_eq_getElem (show n < MENU.length from h)]
  rfl
theorem menu_nd : MENU.Nodup := by decide +kernel
theorem menu_ok : ∀ x ∈ MENU, nameOk x = true := by decide +kernel
theorem menuAt_inj {i j : Nat} (hi : i < 11) (hj : j < 11) (h : menuAt i = menuAt j) : i = j := nodup_ix menu_nd (menuAt_get hi) (h ▸ menuAt_get hj)
def spot11 (s l : Int) (k : Nat) : Nat := ((s + l * k) % 11).toNat
theorem spot11_lt (s l : Int) (k : Nat) : spot11 s l k < 11 := by
  unfold spot11
  have h0 := Int.emod_nonneg (s + l * k) (show (11 : Int) ≠ 0 by decide)
  have h1 := Int.emod_lt_of_pos (s + l * k) (show (0 : Int) < 11 by decide)
  omega
theorem spot11_inj {s l : Int} (h1 : 1 ≤ l) (h2 : l ≤ 10) {i j : Nat} (hi : i < 11) (hj : j < 11) (h : spot11 s l i = spot11 s l j) : i = j := by
  unfold spot11 at h
  have a0 := Int.emod_nonneg (s + l * i) (show (11 : Int) ≠ 0 by decide)
  have b0 := Int.emod_nonneg (s + l * j) (show (11 : Int) ≠ 0 by decide)
  have h3 : (s + l * i) % 11 = (s + l * j) % 11 := by omega
  have hl : l = 1 ∨ l = 2 ∨ l = 3 ∨ l = 4 ∨ l = 5 ∨ l = 6 ∨ l = 7 ∨ l = 8 ∨ l = 9 ∨ l = 10 := by omega
  rcases hl with rfl | rfl | rfl | rfl | rfl | rfl | rfl | rfl | rfl | rfl <;> omega
theorem map_nd {f : Nat → Str} {m : Nat} (h : ∀ i j, i < m → j < m → f i = f j → i = j) : ((List.range m).map f).Nodup := by
  refine List.pairwise_iff_getElem.mpr fun i j hi hj hij => ?_
  rw [List.length_map, List.length_range] at hi hj
  rw [List.getElem_map, List.getElem_map, List.getElem_range, List.getElem_range]
  intro e
  have := h i j hi hj e
  omega
def folkA (s l : Int) (m : Nat) : List Str := (List.range m).map fun k => menuAt (spot11 s l k)
theorem folkA_ok {s l : Int} (h1 : 1 ≤ l) (h2 : l ≤ 10) {m : Nat} (hm : m < 12) : NamesOk (folkA s l m) := by
  refine ⟨fun t ht => ?_, map_nd fun i j hi hj e => spot11_inj h1 h2 (by omega) (by omega) (menuAt_inj (spot11_lt ..) (spot11_lt ..) e)⟩
  obtain ⟨k, _, rfl⟩ := List.mem_map.mp ht
  exact menu_ok _ (List.mem_of_getElem? (menuAt_get (spot11_lt ..)))
def headAt (k : Nat) : Str := if k < 26 then "" else "z"
def folkT (s l : Int) (stem : Str) (k : Nat) : Str := stem ++ headAt k ++ ⟨#[letterAt (spot s l k)]⟩
def folkB (s l : Int) (stem : Str) (m : Nat) : List Str := (List.range m).map (folkT s l stem)
theorem folkT_cps (s l : Int) (stem : Str) (k : Nat) : (folkT s l stem k).cps.toList = stem.cps.toList ++ (if k < 26 then [] else [122]) ++ [letterAt (spot s l k)] := by
  unfold folkT headAt
  by_cases h : k < 26
  · rw [if_pos h, if_pos h]
    show ((stem.cps ++ (Str.ofString "").cps) ++ #[_]).toList = _
    have e : (Str.ofString "").cps = #[] := by decide
    rw [e]
    simp
  · rw [if_neg h, if_neg h]
    show ((stem.cps ++ (Str.ofString "z").cps) ++ #[_]).toList = _
    have e : (Str.ofString "z").cps = #[122] := by decide
    rw [e]
    simp
theorem folkT_ok {s l : Int} {stem : Str} {k : Nat} (h : StemOk stem) : nameOk (folkT s l stem k) = true := by
  have e := folkT_cps s l stem k
  have hl := congrArg List.length e
  rw [Array.length_toList, List.length_append, List.length_append, Array.length_toList, List.length_singleton] at hl
  have h1 : stem.cps.size ≤ 6 := h.1
  have h2 : (if k < 26 then [] else [122] : List Nat).length ≤ 1 := by split <;> simp
  have hlen : (folkT s l stem k).length = (folkT s l stem k).cps.size := rfl
  unfold nameOk
  rw [e, Bool.and_eq_true, Bool.and_eq_true]
  refine ⟨decide_eq_true (by omega), decide_eq_true (by omega), List.all_eq_true.mpr fun c hc => decide_eq_true ?_⟩
  rcases List.mem_append.mp hc with hc | hc
  · rcases List.mem_append.mp hc with hc | hc
    · exact h.2 c hc
    · split at hc
      · cases hc
      · rw [List.mem_singleton] at hc
        rw [hc]
        decide +kernel
  · rw [List.mem_singleton] at hc
    rw [hc]
    exact letterAt_mem (spot_lt ..)
theorem folkB_nd {s l : Int} {stem : Str} {m : Nat} (hl : LeapOk l) (hm : m ≤ 52) : (folkB s l stem m).Nodup := by
  refine map_nd fun i j hi hj e => ?_
  have e2 := congrArg (fun x : Str => x.cps.toList) e
  simp only [folkT_cps, List.append_assoc] at e2
  have e3 := List.append_cancel_left e2
  by_cases h1 : i < 26 <;> by_cases h2 : j < 26
  · rw [if_pos h1, if_pos h2] at e3
    exact spot_inj hl (by omega) (by omega) (letterAt_inj (spot_lt ..) (spot_lt ..) (List.cons.inj e3).1)
  · rw [if_pos h1, if_neg h2] at e3
    exact absurd (congrArg List.length e3) (by simp)
  · rw [if_neg h1, if_pos h2] at e3
    exact absurd (congrArg List.length e3) (by simp)
  · rw [if_neg h1, if_neg h2] at e3
    have e4 := letterAt_inj (spot_lt ..) (spot_lt ..) (List.cons.inj (List.cons.inj e3).2).1
    have sh : ∀ k : Nat, 26 ≤ k → spot s l k = spot s l (k - 26) := fun k hk => by
      unfold spot
      have e : s + l * ((k - 26 : Nat) : Int) = (s + l * (k : Int)) + 26 * (-l) := by
        rw [Int.ofNat_sub hk, Int.mul_sub]
        omega
      rw [e, Int.add_mul_emod_self_left]
    rw [sh i (by omega), sh j (by omega)] at e4
    have := spot_inj hl (i := i - 26) (j := j - 26) (by omega) (by omega) e4
    omega
theorem folkB_ok {s l : Int} {stem : Str} {m : Nat} (h : StemOk stem) (hl : LeapOk l) (hm : m ≤ 52) : NamesOk (folkB s l stem m) := ⟨fun t ht => by
  obtain ⟨k, _, rfl⟩ := List.mem_map.mp ht
  exact folkT_ok h, folkB_nd hl hm⟩
/-! ### the stem -/
def signD (c : Nat) : D := .str ⟨#[c]⟩
theorem join_empty : ∀ ys : List Str, (Str.join "" ys).cps.toList = (ys.map fun y => y.cps.toList).flatten
  | [] => rfl
  | [x] => by
    show x.cps.toList = _
    simp
  | x :: y :: r => by
    have e : (Str.ofString "").cps = #[] := by decide
    show ((x.cps ++ (Str.ofString "").cps) ++ (Str.join "" (y :: r)).cps).toList = _
    rw [e, Array.toList_append, Array.toList_append, join_empty (y :: r)]
    simp
theorem join_signs (cs : List Nat) : (Txt.join "" (cs.map fun c => (⟨#[c]⟩ : Str))).cps.toList = cs := by
  show (Builtin.Str.glued _ _).cps.toList = _
  rw [StrLaws.glued_eq_join, join_empty, List.map_map]
  induction cs with
  | nil => rfl
  | cons c cs ih =>
    show [c] ++ _ = _
    rw [ih]
    rfl
theorem stem_of {cs : List Nat} (h1 : cs.length ≤ 6) (h2 : ∀ c ∈ cs, c ∈ LETTERS.cps.toList) : StemOk (Txt.join "" (cs.map fun c => (⟨#[c]⟩ : Str))) := by
  have e := join_signs cs
  refine ⟨?_, fun c hc => h2 c (by rwa [e] at hc)⟩
  have := congrArg List.length e
  rw [Array.length_toList] at this
  show (Txt.join "" (cs.map fun c => (⟨#[c]⟩ : Str))).cps.size ≤ 6
  omega
end L2.DL

namespace L2.DL
open PySem PySem.Spec PyProof.Rows
theorem upYesT {sd : SD} {S : SO} {Q : Bool → SO → Prop} (h : Q true S) : upT wYes sd S Q := ⟨fun b S2 => b = true ∧ S2 = S, ⟨rfl, rfl⟩, fun b S2 ⟨e1, e2⟩ => by rw [e1, e2]; exact h⟩
theorem range_map {f : D → D} {g : Nat → D} {m : Nat} (h : ∀ k, k < m → f (.int (0 + (k : Nat))) = g k) : (rangeD 0 (m : Nat)).map f = (List.range m).map g := by
  unfold rangeD
  rw [List.map_map, show ((m : Int) - 0).toNat = m by omega]
  exact List.map_congr_left fun k hk => h k (List.mem_range.mp hk)
theorem rangeD_mem {m : Nat} {d : D} (h : d ∈ rangeD 0 (m : Nat)) : ∃ k, k < m ∧ d = .int (0 + (k : Nat)) := by
  unfold rangeD at h
  obtain ⟨k, hk, rfl⟩ := List.mem_map.mp h
  have := List.mem_range.mp hk
  exact ⟨k, by omega, rfl⟩
theorem rangeD_length {m : Nat} : (rangeD 0 (m : Nat)).length = m := by rw [rangeD_len]; omega
end L2.DL

namespace L2.DL
open PySem PySem.Spec PyProof.Rows
def sw (ls : List (Str × Str)) : List (Str × Str) := ls.map fun t => (t.2, t.1)
theorem mem_sw {ls : List (Str × Str)} {x y : Str} : (x, y) ∈ sw ls ↔ (y, x) ∈ ls := by
  unfold sw
  rw [List.mem_map]
  constructor
  · rintro ⟨⟨a, b⟩, h, e⟩
    cases e
    exact h
  · exact fun h => ⟨(y, x), h, rfl⟩
theorem upYes {sd : SD} {S : SO} {Q : Bool → SO → Prop} (h : Q true S) : upT wYes sd S Q := ⟨fun b S2 => b = true ∧ S2 = S, ⟨rfl, rfl⟩, fun b S2 ⟨e1, e2⟩ => by rw [e1, e2]; exact h⟩
end L2.DL

namespace L2.DL
open PySem PySem.Spec PyProof.Rows
/-! ### equality of rows of texts and of pairs -/
theorem eqvAll_map {α : Type} [DecidableEq α] {f : α → PyData} (h : ∀ a b, PyData.eqv (f a) (f b) = decide (a = b)) : ∀ xs ys : List α, PyData.eqvAll (xs.map f) (ys.map f) = decide (xs = ys)
  | [], [] => by simp [PyData.eqvAll]
  | [], y :: ys => by simp [PyData.eqvAll]
  | x :: xs, [] => by simp [PyData.eqvAll]
  | x :: xs, y :: ys => by
    show PyData.eqvAll (f x :: xs.map f) (f y :: ys.map f) = _
    simp only [PyData.eqvAll]
    rw [h, eqvAll_map h xs ys]
    by_cases h1 : x = y <;> by_cases h2 : xs = ys <;> simp [h1, h2]
theorem eqv_tups {α : Type} [DecidableEq α] {f : α → PyData} (h : ∀ a b, PyData.eqv (f a) (f b) = decide (a = b)) (xs ys : List α) : PyData.eqv (.tuple (xs.map f)) (.tuple (ys.map f)) = decide (xs = ys) := by
  simp only [PyData.eqv]
  exact eqvAll_map h xs ys
theorem WebOk.sok {ps : List Str} {ts : List (Str × Str)} (ok : WebOk ps ts) : ∀ p ∈ ps, sOk p := fun p hp => name_sOk (ok.nm p hp)
theorem WebOk.add {ps : List Str} {ts : List (Str × Str)} (ok : WebOk ps ts) {t : Str × Str} (h1 : t.1 ∈ ps) (h2 : t.2 ∈ ps) (h3 : t.1 ≠ t.2) (h4 : t ∉ ts) (h5 : ts.length < 200) : WebOk ps (ts ++ [t]) := by
  refine ⟨ok.pos, ok.few, ok.nm, ok.nd, by rw [List.length_append, List.length_singleton]; omega, fun u hu => ?_, ?_⟩
  · rcases List.mem_append.mp hu with hu | hu
    · exact ok.tie u hu
    · rw [List.mem_singleton] at hu
      subst hu
      exact ⟨h1, h2, h3⟩
  · rw [List.nodup_append]
    refine ⟨ok.tnd, by simp, fun a ha b hb e => ?_⟩
    rw [List.mem_singleton] at hb
    exact h4 (hb ▸ e ▸ ha)
def woT (ts : List (Str × Str)) (t : Str × Str) : List (Str × Str) := ts.filter fun u => !decide (u = t)
theorem WebOk.wo {ps : List Str} {ts : List (Str × Str)} (ok : WebOk ps ts) (t : Str × Str) : WebOk ps (woT ts t) :=
  ⟨ok.pos, ok.few, ok.nm, ok.nd, Nat.le_trans (List.length_filter_le _ _) ok.tfew, fun u hu => ok.tie u (List.mem_filter.mp hu).1, List.Nodup.sublist List.filter_sublist ok.tnd⟩
theorem WebOk.sw {ps : List Str} {ts : List (Str × Str)} (ok : WebOk ps ts) : WebOk ps (sw ts) := by
  refine ⟨ok.pos, ok.few, ok.nm, ok.nd, by unfold DL.sw; rw [List.length_map]; exact ok.tfew, fun t ht => ?_, nodup_map (fun a b e => ?_) ok.tnd⟩
  · obtain ⟨h1, h2, h3⟩ := ok.tie _ (mem_sw.mp ht)
    exact ⟨h2, h1, fun e => h3 e.symm⟩
  · obtain ⟨a1, a2⟩ := a
    obtain ⟨b1, b2⟩ := b
    cases e
    rfl
/-! ### with_tie, without_tie, turned -/
/-! ### == and != of webs -/
end L2.DL

namespace L2.DL
open PySem PySem.Spec PyProof.Rows
/-! ### _law_ties, _law_net, _law_made -/
structure TieL (ts : List Str) (ls : List (Str × Str)) : Prop where
  tie : ∀ t ∈ ls, t.1 ∈ ts ∧ t.2 ∈ ts ∧ t.1 ≠ t.2
  nd : ls.Nodup
theorem NamesOk.sok {ts : List Str} (N : NamesOk ts) : ∀ t ∈ ts, sOk t := fun t ht => name_sOk (N.nm t ht)
end L2.DL

namespace L2.DL
open PySem PySem.Spec PyProof.Rows
/-! ### what repr may show -/
structure ShK (n w : Nat) (p : PyData) : Prop where
  lay : p.canLay0 = true
  dep : p.depth ≤ n
  wei : p.weight ≤ w
  iok : p.intsShort 13 = true
  show_ : p.showable = true
structure ShKs (n w : Nat) (ps : List PyData) : Prop where
  lay : PyData.canLayAll0 ps = true
  dep : PyData.depthAll ps ≤ n
  wei : PyData.weightAll ps ≤ w
  iok : PyData.intsShortAll 13 ps = true
  show_ : PyData.showableAll ps = true
theorem ShK.ok {n w : Nat} {p : PyData} (h : ShK n w p) (hn : n ≤ 64) (hw : w ≤ 1048576) : ShowOk p := by
  refine ⟨?_, h.iok, h.show_⟩
  have h1 := h.dep
  have h2 := h.wei
  unfold PyData.layable0
  rw [h.lay, decide_eq_true (show p.depth ≤ 64 by omega), decide_eq_true (show p.weight ≤ 2 ^ 20 by omega)]
  rfl
theorem ShKs.nil {n w : Nat} : ShKs n w [] := ⟨rfl, by simp [PyData.depthAll], by simp [PyData.weightAll], rfl, rfl⟩
theorem ShKs.cons {n w w' : Nat} {p : PyData} {ps : List PyData} (h : ShK n w p) (hs : ShKs n w' ps) : ShKs n (w + 1 + w') (p :: ps) := by
  refine ⟨?_, ?_, ?_, ?_, ?_⟩
  · simp only [PyData.canLayAll0, h.lay, hs.lay]; rfl
  · simp only [PyData.depthAll]; exact Nat.max_le.mpr ⟨h.dep, hs.dep⟩
  · simp only [PyData.weightAll]; have := h.wei; have := hs.wei; omega
  · simp only [PyData.intsShortAll, h.iok, hs.iok]; rfl
  · simp only [PyData.showableAll, h.show_, hs.show_]; rfl
theorem ShKs.map {α : Type} {f : α → PyData} {n w : Nat} : ∀ {xs : List α} {L : Nat}, (∀ x ∈ xs, ShK n w (f x)) → xs.length ≤ L → ShKs n (L * (w + 1)) (xs.map f)
  | [], L, _, _ => .nil
  | x :: xs, 0, _, h => absurd h (by simp)
  | x :: xs, L + 1, h, hl => by
    have z := ShKs.cons (h x (List.mem_cons_self ..)) (ShKs.map (xs := xs) (L := L) (fun y hy => h y (List.mem_cons_of_mem _ hy)) (by simpa using hl))
    have e : (L + 1) * (w + 1) = w + 1 + L * (w + 1) := by rw [Nat.succ_mul]; omega
    rw [e]
    exact z
theorem ShKs.tup {n w : Nat} {ps : List PyData} (h : ShKs n w ps) : ShK (n + 1) w (.tuple ps) := by
  refine ⟨?_, ?_, ?_, ?_, ?_⟩
  · simp only [PyData.canLay0]; exact h.lay
  · simp only [PyData.depth]; have := h.dep; omega
  · simp only [PyData.weight]; exact h.wei
  · simp only [PyData.intsShort]; exact h.iok
  · simp only [PyData.showable]; exact h.show_
theorem ShKs.lst {n w : Nat} {ps : List PyData} (h : ShKs n w ps) : ShK (n + 1) w (.list ps) := by
  refine ⟨?_, ?_, ?_, ?_, ?_⟩
  · simp only [PyData.canLay0]; exact h.lay
  · simp only [PyData.depth]; have := h.dep; omega
  · simp only [PyData.weight]; exact h.wei
  · simp only [PyData.intsShort]; exact h.iok
  · simp only [PyData.showable]; exact h.show_
theorem ShK.mono {n m w v : Nat} {p : PyData} (h : ShK n w p) (hn : n ≤ m) (hw : w ≤ v) : ShK m v p := ⟨h.lay, Nat.le_trans h.dep hn, Nat.le_trans h.wei hw, h.iok, h.show_⟩
theorem ShK.str {x : Str} {w : Nat} (h : sOk x) (hw : x.length ≤ w) : ShK 0 w (.str x) := ⟨h, by simp [PyData.depth], by simp only [PyData.weight]; exact hw, rfl, rfl⟩
theorem ShK.bool {b : Bool} : ShK 0 0 (.bool b) := ⟨by simp [PyData.canLay0], by simp [PyData.depth], by simp [PyData.weight], rfl, rfl⟩
theorem ShK.name {x : Str} (h : nameOk x = true) : ShK 0 8 (.str x) := .str (name_sOk h) (by have := (name_chars h).2.1; omega)
theorem ShK.names {ts : List Str} (h : ∀ t ∈ ts, nameOk t = true) {L : Nat} (hl : ts.length ≤ L) : ShK 1 (L * 9) (.tuple (ts.map PyData.str)) := (ShKs.map (n := 0) (w := 8) (fun x hx => .name (h x hx)) hl).tup
theorem ShK.pair {t : Str × Str} (h1 : nameOk t.1 = true) (h2 : nameOk t.2 = true) : ShK 1 18 (prP t) := (ShKs.cons (.name h1) (.cons (.name h2) (.nil (w := 0)))).tup
theorem ShK.pairs {ls : List (Str × Str)} (h : ∀ t ∈ ls, nameOk t.1 = true ∧ nameOk t.2 = true) {L : Nat} (hl : ls.length ≤ L) : ShK 2 (L * 19) (.tuple (ls.map prP)) := (ShKs.map (n := 1) (w := 18) (fun x hx => .pair (h x hx).1 (h x hx).2) hl).tup
theorem WebOk.nms {ps : List Str} {ts : List (Str × Str)} (ok : WebOk ps ts) : ∀ t ∈ ts, nameOk t.1 = true ∧ nameOk t.2 = true := fun t ht => ⟨ok.nm _ (ok.tie t ht).1, ok.nm _ (ok.tie t ht).2.1⟩
/-- [places, ties] -/
def netP (ps : List Str) (ts : List (Str × Str)) : PyData := .list [.tuple (ps.map .str), .tuple (ts.map prP)]
theorem netP_ok {ps : List Str} {ts : List (Str × Str)} (ok : WebOk ps ts) : ShowOk (netP ps ts) :=
  ((ShKs.cons ((ShK.names ok.nm ok.few).mono (by decide) (Nat.le_refl _)) (ShKs.cons (ShK.pairs ok.nms ok.tfew) (.nil (w := 0)))).lst).ok (by decide) (by decide)
theorem pyS_net (S : SO) (ps : List Str) (ts : List (Str × Str)) : pyS S (.lst [.tf (plD ps), .tf (ts.map prD)]) = some (netP ps ts) := by
  show (pyDs [.tf (plD ps), .tf (ts.map prD)]).map PyData.list = _
  have e1 : pyD (.tf (plD ps)) = some (.tuple (ps.map .str)) := by
    show (pyDs (plD ps)).map PyData.tuple = _
    rw [pyDs_strs]
    rfl
  have e2 : pyD (.tf (ts.map prD)) = some (.tuple (ts.map prP)) := by
    show (pyDs (ts.map prD)).map PyData.tuple = _
    rw [pyDs_prs]
    rfl
  show ((pyD (.tf (plD ps))).bind fun p => (pyDs [.tf (ts.map prD)]).map fun ps => p :: ps).map PyData.list = _
  rw [e1]
  show (((pyD (.tf (ts.map prD))).bind fun p => (pyDs []).map fun ps => p :: ps).map fun qs => PyData.tuple (ps.map .str) :: qs).map PyData.list = _
  rw [e2]
  rfl
end L2.DL

namespace L2.DL
open PySem PySem.Spec PyProof.Rows
/-! ### k07: turned -/
end L2.DL

namespace L2.DL
open PySem PySem.Spec PyProof.Rows
/-! ### law, as most laws of the family have it -/
end L2.DL

namespace L2.DL
open PySem PySem.Spec PyProof.Rows
end L2.DL

namespace L2.DL
open PySem PySem.Spec PyProof.Rows
/-! ### roads and partings, good ones -/
def TupD (d : D) (xs : List D) : Prop := d = .tf xs ∨ d = .tup xs
theorem TupD.ty {d : D} {xs : List D} (h : TupD d xs) (S : SO) : tyX S d = some (.inl "tuple") := by
  rcases h with rfl | rfl <;> rfl
theorem TupD.seq {d : D} {xs : List D} (h : TupD d xs) (S : SO) : seqX S d = some xs := by
  rcases h with rfl | rfl <;> rfl
end L2.DL

namespace L2.DL
open PySem PySem.Spec PyProof.Rows
inductive Rows : List D → List (List Str) → Prop
  | nil : Rows [] []
  | cons {d : D} {r : List Str} {ds : List D} {rs : List (List Str)} (h : TupD d (plD r)) (t : Rows ds rs) : Rows (d :: ds) (r :: rs)
theorem Rows.len {ds : List D} {rs : List (List Str)} (h : Rows ds rs) : ds.length = rs.length := by
  induction h with
  | nil => rfl
  | cons _ _ ih => rw [List.length_cons, List.length_cons, ih]
theorem Rows.mem {ds : List D} {rs : List (List Str)} (h : Rows ds rs) : ∀ d ∈ ds, ∃ r ∈ rs, TupD d (plD r) := by
  induction h with
  | nil => intro d h; cases h
  | cons h _ ih =>
    intro d hd
    rcases List.mem_cons.mp hd with rfl | hd
    · exact ⟨_, List.mem_cons_self .., h⟩
    · obtain ⟨r, hr, t⟩ := ih d hd
      exact ⟨r, List.mem_cons_of_mem _ hr, t⟩
theorem TupD.fz {d : D} {xs : List D} (h : TupD d xs) : DL.fz d = some xs := by
  rcases h with rfl | rfl <;> rfl
def unD (d : D) : List D := (fz d).getD []
theorem TupD.un {d : D} {xs : List D} (h : TupD d xs) : unD d = xs := by
  unfold unD
  rw [h.fz]
  rfl
/-! ### singles, lasts -/
def lastS (r : List Str) : Str := r.getLastD Str.empty
end L2.DL

namespace L2.DL
open PySem PySem.Spec PyProof.Rows
theorem last_plD {r : List Str} (h : r ≠ []) : (plD r).getLast? = some (.str (lastS r)) := by
  show (r.map D.str).getLast? = _
  rw [List.getLast?_map]
  unfold lastS
  rw [List.getLastD_eq_getLast?]
  cases e : r.getLast? with
  | none => exact absurd (List.getLast?_eq_none_iff.mp e) h
  | some y => rfl
def lastD (d : D) : D := ((unD d).getLast?).getD .non
theorem lastD_of {d : D} {r : List Str} (T : TupD d (plD r)) (h : r ≠ []) : lastD d = .str (lastS r) := by
  unfold lastD
  rw [T.un, last_plD h]
  rfl
theorem Rows.lasts {ds : List D} {rs : List (List Str)} (h : Rows ds rs) (hn : ∀ r ∈ rs, r ≠ []) : ds.map lastD = plD (rs.map lastS) := by
  induction h with
  | nil => rfl
  | cons h _ ih =>
    rw [List.map_cons, ih fun r hr => hn r (List.mem_cons_of_mem _ hr), lastD_of h (hn _ (List.mem_cons_self ..))]
    rfl
/-! ### _law_walk -/
end L2.DL

namespace L2.DL
open PySem PySem.Spec PyProof.Rows
/-! ### _law_rows -/
end L2.DL

namespace L2.DL
open PySem PySem.Spec PyProof.Rows
/-! ### rows turned round -/
def headD (d : D) : D := ((unD d).head?).getD .non
/-! what repr shows -/
end L2.DL

namespace L2.DL
open PySem PySem.Spec PyProof.Rows
/-! ### steps for webs -/
instance : InjD prD := ⟨fun _ _ h => prD_inj h⟩
section
variable {W : Addr} {ps : List Str} {ts : List (Str × Str)} {S : SO} {Q : KD} {E : EK} {A : Prop} {a b : Str}
theorem fldRow (h : Q (.tf (plD ps)) S) : FldD W "row" (webD W ps ts) S Q := ⟨_, _, ⟨rfl, rfl⟩, rfl, h⟩
instance st_fldRow {lw : Lv} : Step (.s lw) (FldD W "row" (webD W ps ts) S Q) (Q (.tf (plD ps)) S) := ⟨fun h => fldRow h⟩
theorem fldPairs (h : Q (.tf (ts.map prD)) S) : FldD W "pairs" (webD W ps ts) S Q := ⟨_, _, ⟨rfl, rfl⟩, rfl, h⟩
instance st_fldPairs {lw : Lv} : Step (.s lw) (FldD W "pairs" (webD W ps ts) S Q) (Q (.tf (ts.map prD)) S) := ⟨fun h => fldPairs h⟩
theorem fldMarks (h : Q (.dic true (mkD ts)) S) : FldD W "marks" (webD W ps ts) S Q := ⟨_, _, ⟨rfl, rfl⟩, rfl, h⟩
instance st_fldMarks {lw : Lv} : Step (.s lw) (FldD W "marks" (webD W ps ts) S Q) (Q (.dic true (mkD ts)) S) := ⟨fun h => fldMarks h⟩
theorem mthTie {m : Str} (h : A) (hm : (fsD ps ts).lookup m = none := by with_unfolding_all rfl) : MthD W m (webD W ps ts) S A := ⟨⟨_, ⟨rfl, rfl⟩, hm⟩, h⟩
theorem hasTie (h : Q (.bl (decide ((a, b) ∈ ts))) S) : sp_Web_has_tie W [webD W ps ts, .str a, .str b] S Q E := ⟨ps, ts, a, b, rfl, h⟩
instance st_hasTie {lw : Lv} : Step (.s lw) (sp_Web_has_tie W [webD W ps ts, .str a, .str b] S Q E) (Q (.bl (decide ((a, b) ∈ ts))) S) := ⟨fun h => hasTie h⟩
theorem chkWeb (h : Q .non S) : sp_check_web W [webD W ps ts] S Q E := ⟨ps, ts, rfl, h⟩
instance st_chkWeb {lw : Lv} : Step (.s lw) (sp_check_web W [webD W ps ts] S Q E) (Q .non S) := ⟨fun h => chkWeb h⟩
end
/-! isinstance -/
section
variable {S : SO} {Q : KD} {xs : List D} {x : Str} {i : Int} {b : Bool}
theorem isiTup (h : Q (.bl true) S) : cIsi (.ty "tuple") (fTy "tuple" []) [.tup xs, .ty "tuple"] S Q := ⟨rfl, _, _, rfl, rfl, h⟩
instance st_isiTup {lw : Lv} : Step (.s lw) (cIsi (.ty "tuple") (fTy "tuple" []) [.tup xs, .ty "tuple"] S Q) (Q (.bl true) S) := ⟨fun h => isiTup h⟩
theorem isiTf (h : Q (.bl true) S) : cIsi (.ty "tuple") (fTy "tuple" []) [.tf xs, .ty "tuple"] S Q := ⟨rfl, _, _, rfl, rfl, h⟩
instance st_isiTf {lw : Lv} : Step (.s lw) (cIsi (.ty "tuple") (fTy "tuple" []) [.tf xs, .ty "tuple"] S Q) (Q (.bl true) S) := ⟨fun h => isiTf h⟩
theorem isiStr (h : Q (.bl true) S) : cIsi (.ty "str") (fTy "str" []) [.str x, .ty "str"] S Q := ⟨rfl, _, _, rfl, rfl, h⟩
instance st_isiStr {lw : Lv} : Step (.s lw) (cIsi (.ty "str") (fTy "str" []) [.str x, .ty "str"] S Q) (Q (.bl true) S) := ⟨fun h => isiStr h⟩
end
/-! in, equal -/
section
variable {S : SO} {Q : KD} {x : Str} {xs : List Str} {a b : Str} {ls : List (Str × Str)}
theorem inTf (h : Q (.bl (decide (x ∈ xs))) S) (hx : sOk x) (hxs : ∀ y ∈ xs, sOk y) : oIn (.str x) (.tf (plD xs)) S Q := .inl ⟨_, rfl, memStr hx hxs h⟩
theorem inTup (h : Q (.bl (decide (x ∈ xs))) S) (hx : sOk x) (hxs : ∀ y ∈ xs, sOk y) : oIn (.str x) (.tup (plD xs)) S Q := .inl ⟨_, rfl, memStr hx hxs h⟩
end
/-! objects: a cup at p, a list at f -/
section
variable {S : SO} {p f : Addr} {u u' v v' : DO}
theorem so_p (h : p ≠ f) : ((S.set p u).set f v) p = some u := by rw [set_ne h, set_same]
theorem so_pp (h : p ≠ f) : ((S.set p u).set f v).set p u' = (S.set p u').set f v := by rw [set_comm h.symm, set_set]
end
/-! draws -/
section
variable {W : Addr} {S : SO} {Q : KD} {E : EK} {p : Addr} {a b c : Int}
theorem sipN {m : Nat} (hp : S p = some (pan3 a b c)) (h0 : 0 < m) (h1 : m ≤ 1000000) (q : ∀ r : Nat, r < m → ∀ a' b' c' : Int, Q (.int (r : Nat)) (S.set p (pan3 a' b' c'))) : sp_cup_sip W [.obj p, .int (m : Nat)] S Q E :=
  ⟨p, a, b, c, _, rfl, hp, by omega, by omega, fun r a' b' c' h0 h1 => by
    have := q r.toNat (by omega) a' b' c'
    rwa [Int.toNat_of_nonneg h0] at this⟩
theorem ofM {α : Type} {f : α → D} {l : List α} {d : D} (hp : S p = some (pan3 a b c)) (hd : seqP S p d = some (l.map f)) (h0 : l ≠ []) (h1 : l.length ≤ 1000000) (q : ∀ z ∈ l, ∀ a' b' c' : Int, Q (f z) (S.set p (pan3 a' b' c'))) : sp_cup_of W [.obj p, d] S Q E :=
  ⟨p, a, b, c, d, _, rfl, hp, hd, by simpa using h0, by rw [List.length_map]; exact h1, fun x hx a' b' c' => by
    obtain ⟨z, hz, rfl⟩ := List.mem_map.mp hx
    exact q z hz a' b' c'⟩
end
end L2.DL

/-! Y4: the text that repr makes is a text whose signs are all code points -/
namespace L2.DL
open PySem PySem.Spec PyProof.Rows
def OkS (x : Str) : Prop := ∀ c ∈ x.cps.toList, c < 0x110000
theorem okS_lit (s : String) : OkS (Str.ofString s) := by
  rw [Str.ofString_eq_toList]
  intro c hc
  have hc' : c ∈ s.toList.map Char.toNat := by simpa using hc
  obtain ⟨ch, _, rfl⟩ := List.mem_map.mp hc'
  have h := ch.valid
  rcases h with h | ⟨_, h⟩
  · exact Nat.lt_trans h (by decide)
  · exact h
theorem okS_app {x y : Str} (hx : OkS x) (hy : OkS y) : OkS (x ++ y) := fun c hc => by
  have e : (x ++ y).cps = x.cps ++ y.cps := rfl
  rw [e, Array.toList_append, List.mem_append] at hc
  exact hc.elim (hx c) (hy c)
theorem okS_of {x : Str} (h : sOk x) : OkS x := fun c hc => by
  have h1 : PyData.strOk x = true := by
    have h' : PyData.canLay0 (.str x) = true := h
    simpa only [PyData.canLay0] using h'
  unfold PyData.strOk at h1
  rw [Array.all_eq_true_iff_forall_mem] at h1
  have := h1 c (by simpa using hc)
  simpa using this
theorem dig_lt {n : Nat} (h : n < 16) : (Nat.digitChar n).toNat < 128 := by
  have : ∀ n, n < 16 → (Nat.digitChar n).toNat < 128 := by decide
  exact this n h
theorem digits_lt : ∀ (fuel n : Nat) (acc : List Char), (∀ c ∈ acc, c.toNat < 128) → ∀ c ∈ Nat.toDigitsCore 16 fuel n acc, c.toNat < 128
  | 0, n, acc, h => h
  | fuel + 1, n, acc, h => by
    unfold Nat.toDigitsCore
    have hd : ∀ c ∈ (Nat.digitChar (n % 16)) :: acc, c.toNat < 128 := fun c hc => by
      rcases List.mem_cons.mp hc with rfl | hc
      · exact dig_lt (Nat.mod_lt _ (by decide))
      · exact h c hc
    show ∀ c ∈ (if n / 16 = 0 then Nat.digitChar (n % 16) :: acc else Nat.toDigitsCore 16 fuel (n / 16) (Nat.digitChar (n % 16) :: acc)), c.toNat < 128
    split
    · exact hd
    · exact digits_lt fuel (n / 16) _ hd
theorem hex_ok {c w : Nat} : ∀ x ∈ List.replicate (w - ((Nat.toDigits 16 c).map Char.toNat).length) 48 ++ (Nat.toDigits 16 c).map Char.toNat, x < 0x110000 := fun x hx => by
  rcases List.mem_append.mp hx with hx | hx
  · rw [(List.mem_replicate.mp hx).2]
    decide
  · obtain ⟨ch, hch, rfl⟩ := List.mem_map.mp hx
    have : ch.toNat < 128 := digits_lt _ _ _ (by simp) ch hch
    omega
theorem reprChar_ok {q c : Nat} (hc : c < 0x110000) : ∀ x ∈ Builtin.Str.reprChar q c, x < 0x110000 := by
  intro x hx
  unfold Builtin.Str.reprChar at hx
  simp only at hx
  split at hx
  · simp only [List.mem_cons, List.not_mem_nil, or_false] at hx
    omega
  · split at hx
    · simp only [List.mem_cons, List.not_mem_nil, or_false] at hx
      omega
    · split at hx
      · simp only [List.mem_cons, List.not_mem_nil, or_false] at hx
        omega
      · split at hx
        · simp only [List.mem_cons, List.not_mem_nil, or_false] at hx
          omega
        · split at hx
          · simp only [List.mem_cons, List.not_mem_nil, or_false] at hx
            omega
          · split at hx
            · rcases List.mem_append.mp hx with hx | hx
              · simp only [List.mem_cons, List.not_mem_nil, or_false] at hx
                omega
              · exact hex_ok x hx
            · split at hx
              · rcases List.mem_append.mp hx with hx | hx
                · simp only [List.mem_cons, List.not_mem_nil, or_false] at hx
                  omega
                · exact hex_ok x hx
              · rcases List.mem_append.mp hx with hx | hx
                · simp only [List.mem_cons, List.not_mem_nil, or_false] at hx
                  omega
                · exact hex_ok x hx
theorem foldl_ok {q : Nat} : ∀ (l : List Nat) (acc : Array Nat), (∀ c ∈ l, c < 0x110000) → (∀ c ∈ acc.toList, c < 0x110000) → ∀ c ∈ (l.foldl (fun out c => out ++ (Builtin.Str.reprChar q c).toArray) acc).toList, c < 0x110000
  | [], acc, _, h => h
  | a :: l, acc, hl, h => by
    refine foldl_ok l _ (fun c hc => hl c (List.mem_cons_of_mem _ hc)) fun c hc => ?_
    rw [Array.toList_append, List.mem_append] at hc
    rcases hc with hc | hc
    · exact h c hc
    · exact reprChar_ok (hl a (List.mem_cons_self ..)) c (by simpa using hc)
theorem okS_repr {x : Str} (h : OkS x) : OkS (reprText x) := by
  have hq : reprQuote x < 0x110000 := by
    unfold reprQuote
    split <;> decide
  intro c hc
  unfold reprText at hc
  simp only [Array.toList_push, List.mem_append, List.mem_singleton] at hc
  rcases hc with hc | hc
  · rw [← Array.foldl_toList] at hc
    exact foldl_ok x.cps.toList _ h (fun c hc => by simp only [List.mem_singleton] at hc; rw [hc]; exact hq) c hc
  · rw [hc]
    exact hq
theorem okS_from : ∀ (ts : List Str) (k : Nat) (acc : Str), OkS acc → (∀ t ∈ ts, OkS t) → OkS (textFrom k acc ts)
  | [], k, acc, h, _ => h
  | t :: r, k, acc, h, ht => by
    refine okS_from r (k + 1) _ ?_ fun u hu => ht u (List.mem_cons_of_mem _ hu)
    refine okS_app (okS_app h (okS_lit _)) (ht t (List.mem_cons_self ..))
theorem okS_join : ∀ (ts : List Str), (∀ t ∈ ts, OkS t) → OkS (Str.join ", " ts)
  | [], _ => fun c hc => by simp [Str.join, Str.empty] at hc
  | [x], h => h x (List.mem_cons_self ..)
  | x :: y :: r, h => okS_app (okS_app (h x (List.mem_cons_self ..)) (okS_lit _)) (okS_join (y :: r) fun t ht => h t (List.mem_cons_of_mem _ ht))
mutual
theorem okS_shown : ∀ p : PyData, p.canLay0 = true → OkS p.shown
  | .none, _ => by
    simp only [PyData.shown]
    exact okS_lit _
  | .bool b, _ => by
    simp only [PyData.shown]
    cases b <;> exact okS_lit _
  | .int i, _ => by
    simp only [PyData.shown]
    exact okS_lit _
  | .str x, h => by
    simp only [PyData.shown]
    exact okS_repr (okS_of h)
  | .list xs, h => by
    simp only [PyData.shown]
    exact okS_app (okS_from _ 0 _ (okS_lit _) (okS_shownAll xs (by simpa only [PyData.canLay0] using h))) (okS_lit _)
  | .tuple xs, h => by
    simp only [PyData.shown]
    exact okS_app (okS_app (okS_lit _) (okS_join _ (okS_shownAll xs (by simpa only [PyData.canLay0] using h)))) (okS_lit _)
  | .dict _, h => by simp [PyData.canLay0] at h
theorem okS_shownAll : ∀ xs : List PyData, PyData.canLayAll0 xs = true → ∀ t ∈ PyData.shownAll xs, OkS t
  | [], _ => fun t ht => by simp [PyData.shownAll] at ht
  | x :: xs, h => fun t ht => by
    have h' : x.canLay0 = true ∧ PyData.canLayAll0 xs = true := by simpa [PyData.canLayAll0] using h
    simp only [PyData.shownAll, List.mem_cons] at ht
    rcases ht with rfl | ht
    · exact okS_shown x h'.1
    · exact okS_shownAll xs h'.2 t ht
end
theorem sOk_lit (s : String) : sOk (Str.ofString s) := sOk_of (okS_lit s)
end L2.DL

namespace L2.DL
open PySem PySem.Spec PyProof.Rows
end L2.DL

namespace L2.DL
open PySem PySem.Spec PyProof.Rows
/-! draws of this family, typed -/
end L2.DL

namespace L2.DL
open PySem PySem.Spec PyProof.Rows
/-! ### steps, as mathematics: from a parting to a witness, or to a parting with fewer roads -/
def lasts (rs : List (List Str)) : List Str := rs.map lastS
section
variable {ps : List Str} {ts : List (Str × Str)} {rs A B : List (List Str)} {r : List Str} {x y fresh : Str}
end
end L2.DL

/-! DL68: tuple * int, 1 too -/
namespace L2.DL
open PySem PySem.Spec PyProof.Rows
section
variable {X : Cx}
end
end L2.DL

/-! DL69: `is True`, `is False` of truths -/
namespace L2.DL
open PySem PySem.Spec PyProof.Rows
section
variable {X : Cx}
end
end L2.DL

/-! DL70: zip of a tuple and a list -/
namespace L2.DL
open PySem PySem.Spec PyProof.Rows
section
variable {h : Heap} {o0 o1 o2 o3 o4 : Obj}
end
section
variable {prog : Program} {w : World} {A : Around} {E : Value → Shared → Prop} {s : Shared}
end
section
variable {sd : SD} {S : SO} {R : ItD → SO → Prop} {t : WA} {xs ys : List D} {d : D}
end
end L2.DL

/-! DL71: values that read as data (numbers, texts, truths, tuples of these); sorted(list) of such; sorted(list, key = a def of the program) -/
namespace L2.DL
open PySem PySem.Spec PySem.W PySem.Calls PyProof.Rows
mutual
def pyR : D → Option PyData
  | .int i => some (.int i)
  | .str x => some (.str x)
  | .bl b => some (.bool b)
  | .tup ds => (pyRs ds).map PyData.tuple
  | .tf ds => (pyRs ds).map PyData.tuple
  | _ => none
def pyRs : List D → Option (List PyData)
  | [] => some []
  | d :: ds => (pyR d).bind fun x => (pyRs ds).map fun xs => x :: xs
end
section
variable {X : Cx} {pins : List (Addr × Obj)} {σ : St} {H : Hp} {s : Shared} {S : SO}
theorem reads_seq {a : Addr} {vs : List V} {ks : List PyData} (I : Inv X pins σ H s) (hq : SqT X.K H a vs) (h : ∀ its, Vals vs its → ReadsAll s.heap its ks []) : Reads s.heap (.ref a) (.tuple ks) [] := by
  obtain ⟨its, rv, ⟨o, ho, hc, n, hd⟩, _⟩ := I.tuple hq
  exact .tuple ho hc hd (by rw [List.toList_toArray]; exact h its rv)
mutual
theorem rd_reads (I : Inv X pins σ H s) : ∀ (d : D) (v : V) (u : Value) (k : PyData), pyR d = some k → Rel X.K S H d v → RelV v u → Reads s.heap u k []
  | .int i, v, u, k, e, r, rv => by
    obtain rfl : PyData.int i = k := Option.some.inj e
    obtain rfl : v = .int i := r
    obtain ⟨t, rfl⟩ := rv
    exact .int i t
  | .str x, v, u, k, e, r, rv => by
    obtain rfl : PyData.str x = k := Option.some.inj e
    obtain rfl : v = .str x := r
    obtain ⟨t, rfl⟩ := rv
    exact .str x t
  | .bl b, v, u, k, e, r, rv => by
    obtain rfl : PyData.bool b = k := Option.some.inj e
    obtain rfl : v = .bl b := r
    obtain rfl : u = .bool b := rv
    exact .bool b
  | .tup ds, v, u, k, e, r, rv => by
    obtain ⟨ks, e1, rfl⟩ := Option.map_eq_some_iff.mp (show (pyRs ds).map PyData.tuple = some k from e)
    obtain ⟨a, vs, rfl, t, rs⟩ := r
    obtain rfl : u = .ref a := rv
    exact reads_seq I t.sq fun its rv => rds_reads I ds vs its ks e1 rs rv
  | .tf ds, v, u, k, e, r, rv => by
    obtain ⟨ks, e1, rfl⟩ := Option.map_eq_some_iff.mp (show (pyRs ds).map PyData.tuple = some k from e)
    obtain ⟨a, vs, rfl, t, rs⟩ := r
    obtain rfl : u = .ref a := rv
    exact reads_seq I t.sq fun its rv => rds_reads I ds vs its ks e1 rs rv
  | .non, _, _, _, e, _, _ => by cases e
  | .ty _, _, _, _, e, _, _ => by cases e
  | .obj _, _, _, _, e, _, _ => by cases e
  | .lst _, _, _, _, e, _, _ => by cases e
  | .kt _, _, _, _, e, _, _ => by cases e
  | .src _, _, _, _, e, _, _ => by cases e
  | .dic _ _, _, _, _, e, _, _ => by cases e
  | .ins _ _, _, _, _, e, _, _ => by cases e
  | .gh _ _, _, _, _, e, _, _ => by cases e
  | .fd _ _, _, _, _, e, _, _ => by cases e
theorem rds_reads (I : Inv X pins σ H s) : ∀ (ds : List D) (vs : List V) (us : List Value) (ks : List PyData), pyRs ds = some ks → Rels X.K S H ds vs → Vals vs us → ReadsAll s.heap us ks []
  | [], vs, us, ks, e, r, rv => by
    obtain rfl : [] = ks := Option.some.inj e
    obtain rfl : vs = [] := r
    cases rv
    exact .nil
  | d :: ds, vs, us, ks, e, r, rv => by
    obtain ⟨k, e1, e2⟩ := Option.bind_eq_some_iff.mp (show ((pyR d).bind fun x => (pyRs ds).map fun xs => x :: xs) = some ks from e)
    obtain ⟨ks', e3, rfl⟩ := Option.map_eq_some_iff.mp e2
    obtain ⟨v, vr, rfl, r1, r2⟩ := r
    cases rv with
    | cons h1 h2 => exact .cons (as := []) (bs := []) (rd_reads I d v _ k e1 r1 h1) (rds_reads I ds vr _ ks' e3 r2 h2)
end
end
section
variable {X : Cx} {pins : List (Addr × Obj)} {σ : St} {H : Hp} {s : Shared} {S : SO}
end
end L2.DL

/-! DL72: sorted(list, key = a def of the program) -/
namespace L2.DL
open PySem PySem.Spec PySem.W PySem.Calls PyProof.Rows
section
variable {X : Cx} {pins : List (Addr × Obj)} {σ : St} {H : Hp} {s : Shared} {S : SO} {k : Nat} {f : Addr} {fd : FuncData} {ps : List Str} {dsp : DSp} {kd : D → PyData} {ds : List D}
end
end L2.DL

/-! DL73: sorted(set(list of pairs of numbers)); tuples of texts that the top has written -/
namespace L2.DL
open PySem PySem.Spec PyProof.Rows
section
variable {K : PySem.W.Frag} {S : SO} {H : Hp}
end
section
variable {X : Cx}
end
end L2.DL

/-! DL74: == and != of own instances without either (the same object or not); properties of any kind; C(k = v) as an object -/
namespace L2.DL
open PySem PySem.Spec PySem.W PyProof.Rows
section
variable {prog : Program} {w : World} {A : Around} {E : Value → Shared → Prop} {s : Shared} {K : PySem.W.Frag} {x y C : Addr} {ox oy : Obj} {od od' : Option Obj}
end
section
variable {X : Cx} {C : Addr}
/-! ### a property whose getter is any def -/
variable {k : Nat} {p g f' : Addr} {f : Str} {fd : FuncData} {ps : List Str} {sp : Sp} {dsp : DSp} {e : Expr} {pos : Pos} {ta : TE} {wo : WE}
/-! ### C(k = v), an object -/
end
end L2.DL

/-! DL75: C(k = v) as an object; bool(own instance that has __len__) -/
namespace L2.DL
open PySem PySem.Spec PySem.W PyProof.Rows
section
variable {X : Cx} {k : Nat} {g f C : Addr} {fd : FuncData} {ps ks : List Str} {dsp : DSp}
end
end L2.DL

/-! DL76: raise C(), C an own exception class without an own __init__ -/
namespace L2.DL
open PySem PySem.Spec PyProof.Rows
section
variable {X : Cx} {W : WX} {C : Addr} {bmB : List Value} {B newId initId : String} {n : Str} {p p2 pos : Pos}
end
/-! ### o.m(k = v) of an own instance -/
section
variable {X : Cx} {W : WX} {k : Nat} {f C : Addr} {fd : FuncData} {ps ks : List Str} {sp : Sp} {dsp : DSp} {m : Str} {pos apos : Pos} {o : Expr} {kws : List Keyword} {ta : TE} {tk : TA} {CX : CXT} {E : XK} {wo : WE} {wk : WA} {g : List Value → List Value → List Value} {gV : List V → List V → List V} {gD : List D → List D → List D}
end
end L2.DL

/-! DL78: o.m(e, ..), where e may raise and m does not -/
namespace L2.DL
open PySem PySem.Spec PyProof.Rows
section
variable {X : Cx} {W : WX} {k : Nat} {f C : Addr} {fd : FuncData} {ps : List Str} {dsp : DSp} {dvs : List V} {dds : List D} {ds : List Value} {m : Str} {pos apos : Pos} {e o : Expr} {es : List Expr} {wt : WA} {wo : WE} {w1 : WEX}
end
end L2.DL

namespace L2.DL
open PySem PySem.Spec PyProof.Rows
/-! ### _law_far -/
end L2.DL

/-! DL82: a if c else b as a test -/
namespace L2.DL
open PySem PySem.Spec PyProof.Rows
end L2.DL

/-! DL83: C(..), C told by a parameter, where it may raise; C.m(..), C.m(k = v), m a classmethod that may raise; text.upper() -/
namespace L2.DL
open PySem PySem.Spec PyProof.Rows
section
variable {X : Cx} {W : WX} {k : Nat} {f C : Addr} {fd : FuncData} {ps ks : List Str} {sp : Sp} {dsp : DSp} {dvs : List V} {dds : List D} {ds : List Value} {x m : Str} {p pos apos : Pos} {e o : Expr} {es : List Expr} {kws : List Keyword} {ta : TE} {t tk : TA} {wt wk : WA} {wo wc : WE}
/-! ### C.m(..), m a classmethod that may raise -/
open ClX in
theorem run_cmX {pins : List (Addr × Obj)} {σ : St} {H : Hp} {s : Shared} {g : Addr} {q : Addr} {Q : VK} {us : List Value} {vs : List V} (F : FnG X.prog X.w X.K X.mg X.base (L2.CX X.prog X.w) k g fd ps sp) (hr : Room k X.A) (gd : X.A.guards = some []) (tk : Takes X W) (hb : Binds X.K fd ps ds) (hd : Vals dvs ds)
    (I : Inv X ((q, PySem.W.methodObj (.ref g) (.ref C)) :: pins) σ H s) (r : Vals vs us) (h : sp ((.ref C :: vs) ++ dvs) H Q (WAt W σ)) : wpAny (model X.prog X.w) X.A (call (.ref q) us) (EP X pins σ Q) X.xe s := by
  have r1 : Vals (.ref C :: vs) (.ref C :: us) := .cons rfl r
  have r2 := r1.append hd
  have z : wpAny (model X.prog X.w) X.A (call (.ref q) us) (EP X ((q, PySem.W.methodObj (.ref g) (.ref C)) :: pins) σ Q) X.xe s := by
    refine wpAny_call (PySem.W.method_call (pin_at I) (codeAny_mono (F.go X.A X.stack s H ⟨.ref C :: us, []⟩ _ _ Q (WAt W σ) hr gd I.env0 (hb s (.ref C :: us) I.kIn (by rw [← r2.length]; exact F.len _ _ _ _ h)) r2 h) fun rs s' hq => ?_))
    cases rs with
    | error er => exact tk _ _ (XE.of_call I (fun _ _ _ h => h) hq)
    | ok fl =>
      cases fl with
      | ret u => exact I.after hq
      | next => exact False.elim hq
      | brk => exact False.elim hq
      | cont => exact False.elim hq
  exact thn z fun _ _ y => unpinE y
open ClX in
theorem peX_cmeth {g cp : Addr} {mc : Value} {pl : Sem Bool} (ho : PE X o ta) (r : CRead X.K C mc) (c : CMet X.K C mc m cp g) (F : FnG X.prog X.w X.K X.mg X.base (L2.CX X.prog X.w) k g fd ps sp) (hr : Room k X.A) (gd : X.A.guards = some []) (tk : Takes X W) (hb : Binds X.K fd ps ds) (hd : Vals dvs ds) (ha : PA X (e :: es) t)
    (hst : starEach (e :: es) X.env = (false, eval e X.env) :: starEach es X.env := by rfl) (hpl : (backTo pos (starEach es X.env)).any (·.1) = false := by rfl) (ht : MethTree X o m apos pos pl (e :: es) := by rfl) :
    PE X (.Call (.Attribute o m apos) (e :: es) [] pos) (fun σ H Q => ta σ H fun v H1 => v = .ref C ∧ t σ H1 fun vs H2 => sp ((.ref C :: vs) ++ dvs) H2 Q (WAt W σ)) := by
  refine ⟨fun pins s σ H Q I h => ?_⟩
  refine PySem.W.methodCall_KW (pl := pl) (thn (ho.run pins s σ H _ I h) fun u s1 ⟨x, H1, I1, rx, ex, q⟩ => ?_) ht
  subst ex
  obtain rfl : u = Value.ref C := rx
  refine getmethcm_ok I1 r c fun s2 I2 => ?_
  refine callwith_cm I2 (base_none I1 (Nat.le_refl _)) c.fi (thn (ha.run pos _ s2 σ H1 _ I2 q) fun us s3 ⟨vs, H2, I3, rv, q2⟩ => ⟨⟨pin_at I3, I3.kIn⟩, ?_⟩) hst hpl
  exact run_cmX F hr gd tk hb hd I3 rv q2
def wCMethX (C : Addr) (sp : DSp) (dds : List D) (wo : WE) (t : WA) : WEX := fun sd S Q X0 => wo sd S fun d S1 => d = .obj C ∧ t sd S1 fun xs S2 => sp ((.obj C :: xs) ++ dds) S2 Q (X0 sd)
open ClX in
theorem dex_cmeth {g cp : Addr} {mc : Value} {pl : Sem Bool} (ho : DE X.nox o wo) (r : CRead X.K C mc) (c : CMet X.K C mc m cp g) (F : FnX X.prog X.w X.K X.mg X.base k g fd ps dsp) (hr : Room k X.A) (gd : X.A.guards = some []) (tk : Takes X W) (hb : Binds X.K fd ps ds) (hd : Vals dvs ds) (hl : Lits dds dvs) (ha : DA X.nox (e :: es) wt)
    (hst : starEach (e :: es) X.env = (false, eval e X.env) :: starEach es X.env := by rfl) (hpl : (backTo pos (starEach es X.env)).any (·.1) = false := by rfl) (ht : MethTree X o m apos pos pl (e :: es) := by rfl) :
    DEX X W (.Call (.Attribute o m apos) (e :: es) [] pos) (wCMethX C dsp dds wo wt) :=
  pe_imp (peX_cmeth (PE.nox ho) r c F hr gd tk hb hd (DA.nox ha) hst hpl ht) fun σ H Q ⟨sd, S, Q0, X0, st, q, an, ax⟩ => ⟨sd, S, _, st, q, fun d S1 v H1 ⟨e1, q1⟩ n1 s1 r1 => by
    subst e1
    exact ⟨r1, sd, S1, _, st.nx n1 s1, q1, fun xs S2 vs H2 q2 n2 s2 r2 => ⟨(.obj C :: xs) ++ dds, S2, Q0, X0 sd, s2, Rels.app (show Rels X.K S2 H2 (.obj C :: xs) (.ref C :: vs) from ⟨_, _, rfl, rfl, r2⟩) (hl _ _ _), q2, an.nx (n1.trans n2), ansX_at (st.nx (n1.trans n2) s2) (ax.nx (n1.trans n2))⟩⟩⟩
theorem xCMethX {sd : SD} {S : SO} {Q : KD} {X0 : SD → EK} (h : wo sd S fun d S1 => d = .obj C ∧ wt sd S1 fun xs S2 => dsp ((.obj C :: xs) ++ dds) S2 Q (X0 sd)) : wCMethX C dsp dds wo wt sd S Q X0 := h
variable {g : List Value → List Value → List Value} {gV : List V → List V → List V} {gD : List D → List D → List D}
open ClX in
theorem run_cmKX {pins : List (Addr × Obj)} {σ : St} {H : Hp} {s : Shared} {f : Addr} {q : Addr} {Q : VK} {ws : List Value} {zs : List V} (F : FnG X.prog X.w X.K X.mg X.base (L2.CX X.prog X.w) k f fd ps sp) (hr : Room k X.A) (gd : X.A.guards = some []) (tk : Takes X W) (hb : KBinds X.K fd ps ks g gV)
    (I : Inv X ((q, PySem.W.methodObj (.ref f) (.ref C)) :: pins) σ H s) (r : Vals zs ws) (h : sp (gV [.ref C] zs) H Q (WAt W σ)) : wpAny (model X.prog X.w) X.A (call (.ref q) [] (ks.zip ws)) (EP X pins σ Q) X.xe s := by
  have r2 : Vals (gV [.ref C] zs) (g [.ref C] ws) := hb.rel (.cons rfl .nil) r
  have z : wpAny (model X.prog X.w) X.A (call (.ref q) [] (ks.zip ws)) (EP X ((q, PySem.W.methodObj (.ref f) (.ref C)) :: pins) σ Q) X.xe s := by
    refine wpAny_call (PySem.W.method_call (pin_at I) (codeAny_mono (F.go X.A X.stack s H ⟨[.ref C], ks.zip ws⟩ _ _ Q (WAt W σ) hr gd I.env0 (hb.to s [.ref C] ws I.kIn (by rw [← r2.length]; exact F.len _ _ _ _ h)) r2 h) fun rs s' hq => ?_))
    cases rs with
    | error er => exact tk _ _ (XE.of_call I (fun _ _ _ h => h) hq)
    | ok fl =>
      cases fl with
      | ret u => exact I.after hq
      | next => exact False.elim hq
      | brk => exact False.elim hq
      | cont => exact False.elim hq
  exact thn z fun _ _ y => unpinE y
open ClX in
theorem peX_cmethK {f cp : Addr} {mc : Value} {pl : Sem Bool} (ho : PE X o ta) (r : CRead X.K C mc) (c : CMet X.K C mc m cp f) (F : FnG X.prog X.w X.K X.mg X.base (L2.CX X.prog X.w) k f fd ps sp) (hr : Room k X.A) (gd : X.A.guards = some []) (tk' : Takes X W) (hb : KBinds X.K fd ps ks g gV) (hkw : PK X kws tk)
    (hall : (backToKw pos (keywordEach kws X.env)).all (·.1.isSome) = true := by rfl) (hks : (backToKw pos (keywordEach kws X.env)).filterMap (·.1) = ks := by rfl)
    (hpl : ((backTo pos (starEach [] X.env)).any (·.1) || (backToKw pos (keywordEach kws X.env)).any (·.1.isNone)) = false := by rfl)
    (ht : eval (.Call (.Attribute o m apos) [] kws pos) X.env = (do
      let ov ← eval o X.env
      standAt apos.atName
      let (f, first) ← holding [ov] (getMethod ov m pl)
      callWith pos f first (backTo pos (starEach [] X.env)) (backToKw pos (keywordEach kws X.env))) := by rfl) :
    PE X (.Call (.Attribute o m apos) [] kws pos) (fun σ H Q => ta σ H fun v H1 => v = .ref C ∧ tk σ H1 fun zs H2 => sp (gV [.ref C] zs) H2 Q (WAt W σ)) := by
  refine ⟨fun pins s σ H Q I h => ?_⟩
  refine PySem.W.methodCall_KW (pl := pl) (thn (ho.run pins s σ H _ I h) fun u s1 ⟨x, H1, I1, rx, ex, q⟩ => ?_) ht
  subst ex
  obtain rfl : u = Value.ref C := rx
  refine getmethcm_ok I1 r c fun s2 I2 => ?_
  refine PySem.W.callWith_of (P := PySem.W.MethP X.K s1.heap.objs.size f (.ref C)) hpl (PySem.W.keeps_M c.fi) (evalArgs_kw2_nil hall (thn (hkw.run pos _ s2 σ H1 _ I2 q) fun ws s3 ⟨zs, H2, I3, rv, q2⟩ => ⟨⟨pin_at I3, I3.kIn⟩, ?_⟩))
  rw [hks]
  exact run_cmKX F hr gd tk' hb I3 rv q2
def wCMethKX (C : Addr) (sp : DSp) (gD : List D → List D → List D) (wo : WE) (t : WA) : WEX := fun sd S Q X0 => wo sd S fun d S1 => d = .obj C ∧ t sd S1 fun xs S2 => sp (gD [.obj C] xs) S2 Q (X0 sd)
open ClX in
theorem dex_cmethK {f cp : Addr} {mc : Value} {pl : Sem Bool} (ho : DE X.nox o wo) (r : CRead X.K C mc) (c : CMet X.K C mc m cp f) (F : FnX X.prog X.w X.K X.mg X.base k f fd ps dsp) (hr : Room k X.A) (gd : X.A.guards = some []) (tk : Takes X W) (hb : KBinds X.K fd ps ks g gV) (hgd : GD gD gV) (hkw : DK X.nox kws wk)
    (hall : (backToKw pos (keywordEach kws X.env)).all (·.1.isSome) = true := by rfl) (hks : (backToKw pos (keywordEach kws X.env)).filterMap (·.1) = ks := by rfl)
    (hpl : ((backTo pos (starEach [] X.env)).any (·.1) || (backToKw pos (keywordEach kws X.env)).any (·.1.isNone)) = false := by rfl)
    (ht : eval (.Call (.Attribute o m apos) [] kws pos) X.env = (do
      let ov ← eval o X.env
      standAt apos.atName
      let (f, first) ← holding [ov] (getMethod ov m pl)
      callWith pos f first (backTo pos (starEach [] X.env)) (backToKw pos (keywordEach kws X.env))) := by rfl) :
    DEX X W (.Call (.Attribute o m apos) [] kws pos) (wCMethKX C dsp gD wo wk) :=
  pe_imp (peX_cmethK (PE.nox ho) r c F hr gd tk hb (DK.nox hkw) hall hks hpl ht) fun σ H Q ⟨sd, S, Q0, X0, st, q, an, ax⟩ => ⟨sd, S, _, st, q, fun d S1 v H1 ⟨e1, q1⟩ n1 s1 r1 => by
    subst e1
    exact ⟨r1, sd, S1, _, st.nx n1 s1, q1, fun xs S2 vs H2 q2 n2 s2 r2 => ⟨gD [.obj C] xs, S2, Q0, X0 sd, s2, hgd _ _ _ _ _ _ _ (show Rels X.K S2 H2 [.obj C] [.ref C] from ⟨_, _, rfl, rfl, rfl⟩) r2, q2, an.nx (n1.trans n2), ansX_at (st.nx (n1.trans n2) s2) (ax.nx (n1.trans n2))⟩⟩⟩
theorem xCMethKX {sd : SD} {S : SO} {Q : KD} {X0 : SD → EK} (h : wo sd S fun d S1 => d = .obj C ∧ wk sd S1 fun xs S2 => dsp (gD [.obj C] xs) S2 Q (X0 sd)) : wCMethKX C dsp gD wo wk sd S Q X0 := h
/-! ### text.upper() -/
def wUpper (wo : WE) : WE := fun sd S Q => wo sd S fun d S1 => ∃ a, d = .str a ∧ a.length ≤ 1000000 ∧ Q (.str (Txt.upper a)) S1
theorem de_upper {apos pos : Pos} (ho : DE X o wo) (hbase : attributeBase o "upper" X.env (eval o X.env) = eval o X.env := by rfl) (hline : (apos.endLine == pos.line) = true := by rfl) : DE X (.Call (.Attribute o "upper" apos) [] [] pos) (wUpper wo) :=
  pe_imp (pe_upper ho hbase hline) fun σ H Q ⟨sd, S, Q0, st, q, an⟩ => ⟨sd, S, _, st, q, fun d S1 v H1 ⟨a, ea, hl, q1⟩ n1 s1 r1 => by
    subst ea
    have ev : v = .str a := r1
    subst ev
    exact ⟨⟨a, rfl⟩, a, rfl, rfl, by omega, an _ _ _ _ q1 n1 s1 rfl⟩⟩
theorem xUpper {sd : SD} {S : SO} {Q : KD} (h : wo sd S fun d S1 => ∃ a, d = .str a ∧ a.length ≤ 1000000 ∧ Q (.str (Txt.upper a)) S1) : wUpper wo sd S Q := h
end
end L2.DL

/-! DL84: text.split(sep) as a new object -/
namespace L2.DL
open PySem PySem.Spec PyProof.Rows
section
variable {X : Cx}
def wSplitO (wo we : WE) : WE := fun sd S Q => wo sd S fun d S1 => (∃ a, d = .str a) ∧ we sd S1 fun e S2 => ∃ a b : Str, d = .str a ∧ e = .str b ∧ (b.length == 0) = false ∧ a.length ≤ 1000000 ∧ ∀ p, S2 p = none → Q (.obj p) (S2.set p (.lst ((Txt.split a b).map D.str)))
theorem de_splitO {o e : Expr} {wo we : WE} {apos pos : Pos} (ho : DE X o wo) (he : DE X e we) (hs : starEach [e] X.env = [(false, eval e X.env)] := by rfl) (hbase : attributeBase o "split" X.env (eval o X.env) = eval o X.env := by rfl) (hline : (apos.endLine == pos.line) = true := by rfl) :
    DE X (.Call (.Attribute o "split" apos) [e] [] pos) (wSplitO wo we) :=
  pe_imp (pe_split ho he hs hbase hline) fun σ H Q ⟨sd, S, Q0, st, q, an⟩ => ⟨sd, S, _, st, q, fun d S1 v H1 ⟨⟨a, ea⟩, q1⟩ n1 s1 r1 => by
    subst ea
    have ev : v = .str a := r1
    subst ev
    refine ⟨⟨a, rfl⟩, sd, S1, _, st.nx n1 s1, q1, fun e S2 u H2 ⟨a', b, e1, e2, hb, hl, q2⟩ n2 s2 r2 => ?_⟩
    cases e1
    subst e2
    have eu : u = .str b := r2
    subst eu
    refine ⟨a, b, rfl, rfl, hb, by rw [sizeLine_eq]; omega, fun p hp => ?_⟩
    have n3 : Nx S2 H2 (S2.set p (.lst ((Txt.split a b).map D.str))) (upd H2 p (.lst ((Txt.split a b).map V.str))) := nx_obj hp (s2.free hp)
    exact an _ _ _ _ (q2 p (s2.free hp)) (n1.trans (n2.trans n3)) (srel_put s2 n3 ⟨_, upd_same, (rels_of_strs _).nx n3⟩) rfl⟩
end
theorem xSplitO {wo we : WE} {sd : SD} {S : SO} {Q : KD} (h : wo sd S fun d S1 => (∃ a, d = .str a) ∧ we sd S1 fun e S2 => ∃ a b : Str, d = .str a ∧ e = .str b ∧ (b.length == 0) = false ∧ a.length ≤ 1000000 ∧ ∀ p, S2 p = none → Q (.obj p) (S2.set p (.lst ((Txt.split a b).map D.str)))) : wSplitO wo we sd S Q := h
end L2.DL

namespace L2.DL
local macro_rules | `(tactic| and_intros) => `(tactic| repeat (first | refine Step.go (v := (.s .z)) ?_ | with_reducible refine gTup ?_ | with_reducible refine mthTie ?_ | with_reducible refine andL (by with_unfolding_all exact lez rfl) ?_))
section
open PySem PySem.Spec PyProof.Rows
/-! ### met -/
end
section
open PySem PySem.Spec PyProof.Rows
/-! ### one road over all -/
end
section
open PySem PySem.Spec PyProof.Rows
/-! ### law, as most laws of the family have it, for so many turns -/
def w_cup_lawN (W : Addr) (right : DSp) (n : Int) : WS := (wRet (wCall cAll (wCons (wLcF (wRng1 (wCons (wCall cMax (wCons (wC (.int 2)) (wCons (wCall cMin (wCons (wCall cLen (wCons (wV 0) wNil)) (wCons (wC (.int n)) wNil))) wNil))) wNil)) (.n 1) wYes (wFn right [] (wCons (wFn (sp_cup_cup W) [] (wCons (wV 0) (wCons (wV 1) wNil))) wNil)) [1]) wNil)))
/-! ### _law_is_road of good roads -/
instance : InjD (fun i : Nat => D.int ((i : Nat) + 1 : Int)) := ⟨fun _ _ h => by injection h with h; omega⟩
end
section
open PySem PySem.Spec PyProof.Rows
/-! ### roads of any kind of value -/
section
variable {S : SO} {Q : KD} {m : Nat} {d x : D} {xs : List D}
theorem isiTupA (h : Q (.bl (asTup d).isSome) S) (hd : Any m d) : cIsi (.ty "tuple") (fTy "tuple" []) [d, .ty "tuple"] S Q := by
  cases hd <;> exact ⟨rfl, _, _, rfl, rfl, h⟩
theorem isiStrA (h : Q (.bl (asStr d).isSome) S) (hd : Any m d) : cIsi (.ty "str") (fTy "str" []) [d, .ty "str"] S Q := by
  cases hd <;> exact ⟨rfl, _, _, rfl, rfl, h⟩
theorem asTup_seq (e : asTup d = some xs) (S : SO) : seqX S d = some xs := by
  cases d <;> first | exact e | cases e
theorem asTup_len {k : Nat → Prop} (e : asTup d = some xs) (h : k xs.length) : lenD S d k := len_seq (asTup_seq e S) h
theorem asStr_of {s : Str} (e : asStr d = some s) : d = .str s := by
  cases d <;> first | (cases e; rfl) | cases e
theorem Any.items (h : Any m d) (e : asTup d = some xs) : xs.length ≤ m ∧ ∀ x ∈ xs, Any m x := by
  cases h with
  | tup ys hl hx => cases e; exact ⟨hl, hx⟩
  | tf ys hl hx => cases e; exact ⟨hl, hx⟩
  | _ => cases e
theorem Any.sok {s : Str} (h : Any m (.str s)) : sOk s := by
  cases h with
  | str x h => exact h.1
end
theorem plD_inj {a b : List Str} (h : plD a = plD b) : a = b := map_inj (f := D.str) h
end
section
open PySem PySem.Spec PyProof.Rows
section
variable {P : Program} {w : World} {K : PySem.W.Frag} {mg : Str → Option Value} {base : Heap}
end
/-! ### _law_is_road of anything -/
/-! ### _law_bent -/
theorem sOk_iff {x : Str} : sOk x ↔ ∀ c ∈ x.cps.toList, c < 0x110000 := by
  refine ⟨fun h c hc => ?_, sOk_of⟩
  have h' : PyData.canLay0 (.str x) = true := h
  simp only [PyData.canLay0, PyData.strOk] at h'
  rw [Array.all_eq_true_iff_forall_mem] at h'
  exact of_decide_eq_true (h' c (by simpa using hc))
theorem cutS_len (a : Str) (lo hi : Option Int) : (cutS a lo hi).length ≤ a.length := by
  unfold cutS Str.length
  rw [List.size_toArray, List.length_take, List.length_drop, Array.length_toList]
  omega
end
section
open PySem PySem.Spec PyProof.Rows
end
section
open PySem PySem.Spec PyProof.Rows
/-! ### _law_bent, with numbers that are not too great -/
inductive ValB : Nat → Nat → D → Prop
  | non {n m : Nat} : ValB n m .non
  | bl {n m : Nat} (b : Bool) : ValB n m (.bl b)
  | int {n m : Nat} (i : Int) (h : i.natAbs ≤ 10 ^ 30) : ValB n m (.int i)
  | str {n m : Nat} (x : Str) (h : sOk x) (hl : x.length ≤ m) : ValB n m (.str x)
  | tup {n m : Nat} (xs : List D) (hl : xs.length ≤ m) (h : ∀ x ∈ xs, ValB n m x) : ValB (n + 1) m (.tup xs)
  | lst {n m : Nat} (xs : List D) (hl : xs.length ≤ m) (h : ∀ x ∈ xs, ValB n m x) : ValB (n + 1) m (.lst xs)
  | dic {n m : Nat} (t : Bool) : ValB n m (.dic t [])
theorem ValB.any {n m : Nat} {d : D} (h : ValB n m d) : Any m d := by
  induction h with
  | non => exact .non
  | bl b => exact .bl b
  | int i h => exact .int i
  | str x h hl => exact .str x ⟨h, hl⟩
  | tup xs hl h ih => exact .tup xs hl ih
  | lst xs hl h ih => exact .lst xs hl ih
  | dic t => exact .dic t
theorem ValB.mono {n m : Nat} {d : D} (h : ValB n m d) : ∀ {n' m' : Nat}, n ≤ n' → m ≤ m' → ValB n' m' d := by
  induction h with
  | non => intros; exact .non
  | bl b => intros; exact .bl b
  | int i h => intros; exact .int i h
  | str x h hl => intro n' m' h1 h2; exact .str x h (Nat.le_trans hl h2)
  | tup xs hl h ih =>
    intro n' m' h1 h2
    cases n' with
    | zero => omega
    | succ k => exact .tup xs (Nat.le_trans hl h2) fun x hx => ih x hx (by omega) h2
  | lst xs hl h ih =>
    intro n' m' h1 h2
    cases n' with
    | zero => omega
    | succ k => exact .lst xs (Nat.le_trans hl h2) fun x hx => ih x hx (by omega) h2
  | dic t => intros; exact .dic t
/-! its repr -/
def lenB (m : Nat) : Nat → Nat
  | 0 => 10 * m + 120
  | n + 1 => (m + 1) * (lenB m n + 2) + 4
end
section
open PySem PySem.Spec PyProof.Rows
/-! ### the third family of draws -/
/-! steps -/
theorem xSubD {wo wi : WE} {w : WSet} {x : D} {sd : SD} {S : SO} {Qg : SD → SO → Prop} (h : wo sd S fun d S1 => wi sd S1 fun k S2 => w d k x S2 fun S3 => Qg sd S3) : gSubD wo wi w x sd S Qg := h
instance st_xSubD {lw : Lv} {wo wi : WE} {w : WSet} {x : D} {sd : SD} {S : SO} {Qg : SD → SO → Prop} : Step (.s (.s lw)) (gSubD wo wi w x sd S Qg) (wo sd S fun d S1 => wi sd S1 fun k S2 => w d k x S2 fun S3 => Qg sd S3) := ⟨fun h => xSubD h⟩
/-- a comprehension's source first -/
def itC (J : ItD) : WI := fun _ S R => R J S
theorem lcB {wi : WI} {nt : NT} {tt : WT} {we : WE} {vs : List Nat} {sd : SD} {S : SO} {Q : KD} (h : wi sd S fun J S1 => wLcP (itC J) nt tt we vs sd S1 Q) : wLcP wi nt tt we vs sd S Q :=
  ⟨_, h, fun J S1 ⟨_, r, k⟩ => k J S1 r⟩
def MkD (C : Addr) (sp : DSp) (xs : List D) (S : SO) (Q : KD) : Prop := ∀ p, S p = none → sp (.obj p :: xs) (S.set p (.ins C [])) (fun d S2 => d = .non ∧ ∃ fs, S2 p = some (.ins C fs) ∧ Q (.ins C fs) (S2.del p)) NoE
theorem xMakeF {C : Addr} {sp : DSp} {t : WA} {sd : SD} {S : SO} {Q : KD} (h : t sd S fun xs S1 => MkD C sp xs S1 Q) : wMakeF C sp [] t sd S Q := by
  have e : ∀ xs : List D, xs ++ [] = xs := List.append_nil
  unfold wMakeF
  simp only [e]
  exact h
instance st_xMakeF {lw : Lv} {C : Addr} {sp : DSp} {t : WA} {sd : SD} {S : SO} {Q : KD} : Step (.s (.s lw)) (wMakeF C sp [] t sd S Q) (t sd S fun xs S1 => MkD C sp xs S1 Q) := ⟨fun h => xMakeF h⟩
theorem mkWeb {W : Addr} {ps : List Str} {ts : List (Str × Str)} {S : SO} {Q : KD} (ok : WebOk ps ts) (h : Q (webD W ps ts) S) : MkD W (sp_Web_init W) [.tf (plD ps), .tf (ts.map prD)] S Q := fun p hp => ⟨p, ps, ts, rfl, set_same, ok, rfl, fsD ps ts, set_same, by rw [set_set, del_set hp]; exact h⟩
section
variable {S : SO} {Q : KD} {i j : Int}
theorem xInt (h : Q (.int i) S) : cInt [.int i] S Q := h
instance st_xInt {lw : Lv} : Step (.s (.s lw)) (cInt [.int i] S Q) (Q (.int i) S) := ⟨fun h => xInt h⟩
theorem iModL (h : Q (.int (i % j)) S) (hj : 0 < j := by decide) : oMod (.int i) (.int j) S Q := ⟨hj, h⟩
end
end
section
open PySem PySem.Spec PyProof.Rows
/-! ### k08 -/
end
section
open PySem PySem.Spec PyProof.Rows
/-! ### sorted texts -/
/-! ### partings of any kind of value -/
/-! ### the law's own look -/
end
section
open PySem PySem.Spec PyProof.Rows
/-! ### _law_put_together -/
end
section
open PySem PySem.Spec PyProof.Rows
/-! ### free places -/
def tiedB (ts : List (Str × Str)) (a b : Str) : Bool := decide ((a, b) ∈ ts) || decide ((b, a) ∈ ts)
/-! ### witnesses -/
instance : InjD (fun z : D × List Str => D.tup [z.1, .tup (plD z.2)]) := ⟨fun a b e => by
  injection e with e
  injection e with e1 e
  injection e with e2 e
  injection e2 with e2
  exact Prod.ext e1 (plD_inj e2)⟩
end
section
open PySem PySem.Spec PyProof.Rows
/-! ### k02: what a web shows -/
theorem xJoin {ws wx : WE} {sd : SD} {S : SO} {Q : KD} (h : ws sd S fun a S1 => (∃ z, a = .str z) ∧ wx sd S1 fun d S2 => ∃ (z : Str) (ys : List Str), a = .str z ∧ seqX S2 d = some (ys.map D.str) ∧ (ys.map (·.length)).sum + ys.length * z.length ≤ 16777216 ∧ Q (.str (Txt.join z ys)) S2) : wJoin ws wx sd S Q := h
end
section
open PySem PySem.Spec PyProof.Rows
/-! ### k02: the web of one place, its ties the default () -/
end
section
open PySem PySem.Spec PyProof.Rows
end
section
open PySem PySem.Spec PyProof.Rows
end
end L2.DL
namespace L2.DL
local macro_rules | `(tactic| and_intros) => `(tactic| repeat (first | refine Step.go (v := (.s (.s (.s (.s .z))))) ?_ | with_reducible refine gTup ?_ | with_reducible refine mthTie ?_ | with_reducible refine iModL ?_ | with_reducible refine xGTl ?_ | with_reducible refine andL (by with_unfolding_all exact lez rfl) ?_))
section
open PySem PySem.Spec PyProof.Rows
/-! ### the law's own sorting of what is raised -/
def fieldOf (n : Str) : Str := (errFld n).headD ""
def wordOf (n : Str) : Str := if n = "InvalidText" then "text" else if n = "InvalidTie" then "tie" else if n = "InvalidParting" then "parting" else if n = "NotAWeb" then "web" else if n = "InvalidPlaces" then "places" else if n = "InvalidTies" then "ties" else if n = "NotMet" then "met" else if n = "TooMany" then "many" else if n = "NothingToUndo" then "nothing" else if n = "InvalidNumber" then "number" else "place"
theorem isEv {ns : List Str} {m n : Str} {fs : List (Str × D)} {i : Nat} {a : Addr} {sd : SD} {S : SO} {Q : KD} (hx : ∀ P : KD, P (.obj a) S → wV i sd S P) (hS : S a = some (.err n fs)) (hn : n ∈ ns) (h : Q (.bl (isE n m)) S) : wIsE ns m (wV i) sd S Q := hx _ ⟨a, n, fs, rfl, hS, hn, h⟩
theorem fldEv {ns : List Str} {f n : Str} {fs : List (Str × D)} {v : D} {i : Nat} {a : Addr} {sd : SD} {S : SO} {Q : KD} (hx : ∀ P : KD, P (.obj a) S → wV i sd S P) (hS : S a = some (.err n fs)) (hn : n ∈ ns) (hv : fs.lookup f = some v) (h : Q v S) : wFldE ns f (wV i) sd S Q := hx _ ⟨a, n, fs, v, rfl, hS, hn, hv, h⟩
theorem idxB {S : SO} {Q : KD} {bs : List Bool} {d : D} {j : Nat} (e : lstX S d = some (bs.map .bl)) (hj : bs[j]? = some true) (hno : ∀ m, m < j → bs[m]? = some false) (h : Q (.int (j : Nat)) S) : mIndex d [.bl true] S Q := by
  have py : ∀ bs : List Bool, pyDs (bs.map D.bl) = some (bs.map PyData.bool) := fun bs => by
    induction bs with
    | nil => rfl
    | cons b bs ih =>
      rw [List.map_cons, List.map_cons]
      unfold pyDs
      rw [ih]
      rfl
  refine ⟨_, .bool true, bs.map PyData.bool, j, e, rfl, py bs, by decide, shaped_list (n := 0) (by decide) (fun x _ => rfl) (fun x _ => by simp [PyData.depth]), ⟨⟨.bool true, by rw [List.getElem?_map, hj]; rfl, by decide⟩, fun m z' hm hz => ?_⟩, h⟩
  rw [List.getElem?_map, hno m hm] at hz
  cases hz
  decide
theorem addL_mk {S : SO} {Q : KD} {xs ys : List D} (hl : xs.length + ys.length ≤ 1000000) (h : Q (.lst (xs ++ ys)) S) : oAdd (.lst xs) (.lst ys) S Q := ⟨hl, h⟩
def own11 : List Str := ["InvalidText", "InvalidTie", "InvalidParting", "NotAWeb", "InvalidPlaces", "InvalidTies", "NotMet", "TooMany", "NothingToUndo", "InvalidNumber", "UnknownPlace"]
theorem memLit {S : SO} {Q : KD} {i : Int} {xs : List D} {ps : List PyData} (e : pyDs xs = some ps) (h1 : SeqAt.shaped (.int i) = true) (h2 : SeqAt.shaped (.list ps) = true) (h : Q (.bl (ps.any fun z => PyData.eqv z (.int i))) S) : oIn (.int i) (.lst xs) S Q := .inl ⟨xs, rfl, .int i, ps, rfl, e, h1, h2, h⟩
end
section
open PySem PySem.Spec PyProof.Rows
theorem caught3 : ∀ n ∈ nsA, (["NotRight", "NotThere", "CannotBe"] : List Str).any (isE n) = true := by decide +kernel
end
section
open PySem PySem.Spec PyProof.Rows
/-! ### the pairs that no tie joins, in order -/
def apart (ts : List (Str × Str)) : List Str → List (Str × Str)
  | [] => []
  | a :: r => ((r.filter fun b => !tiedB ts a b).map fun b => (a, b)) ++ apart ts r
end
section
open PySem PySem.Spec PyProof.Rows
/-! ### a dense net -/
end
section
open PySem PySem.Spec PyProof.Rows
/-! ### law, with the tables of the lambdas -/
def RightSpT (cs : List (Addr × Str)) (right : DSp) : Prop := ∀ (p : Addr) (a b c : Int) (S : SO) (Q : KD), S p = some (pan3 a b c) → (∀ t ∈ cs, S t.1 = some (.tb t.2)) → (∀ a' b' c', Q (.bl true) (S.set p (pan3 a' b' c'))) → right [.obj p] S Q NoE
theorem pure_cup_lawT (W : Addr) {cs : List (Addr × Str)} {right : DSp} (n : Int) (hn : 2 ≤ n ∧ n ≤ 63) (hr : RightSpT cs right) : ∀ ds S Q E, LawSpT 63 cs ds S Q E → w_cup_lawN W right n (endsOf Q) (startD ["_law_script", "_law_k"] ds) S := by
  rintro ds S Q E ⟨ns, rfl, hl, ht, q⟩
  have hl' : (ns.map D.int).length ≤ 63 := by rw [List.length_map]; exact hl
  refine ⟨⟨Or.inl ⟨_, rfl, Or.inl (Or.inl ⟨by omega, by omega, fun p hp => ⟨fun i S' => (∀ t ∈ cs, S' t.1 = some (.tb t.2)) ∧ ∃ k, k ≤ i ∧ S' p = some (.lst (List.replicate k (.bl true))), ⟨fun t h => ?_, 0, Nat.le_refl _, set_same⟩, fun _ _ _ => trivial, ?_, ?_⟩⟩)⟩⟩⟩
  · have e := ht t h
    have ne : t.1 ≠ p := fun z => by rw [z, hp] at e; cases e
    rw [set_ne ne]
    exact e
  · rintro i d S' hi ⟨hT, k, hk, g1⟩
    obtain ⟨rfl, hi2⟩ := rangeD_get hi
    refine upYes (ifY rfl (upI ⟨ns, i, ?_, hl, fun x a b hx => ?_⟩))
    · rw [Int.zero_add]
      rfl
    have hxp : p ≠ x := fun e => by rw [← e, g1] at hx; cases hx
    have nx : ∀ t ∈ cs, t.1 ≠ x := fun t h e => by
      have z := hT t h
      rw [e, hx] at z
      cases z
    have np : ∀ t ∈ cs, t.1 ≠ p := fun t h e => by
      have z := hT t h
      rw [e, g1] at z
      cases z
    refine hr x a b 0 _ _ set_same (fun t h => by rw [set_ne (nx t h)]; exact hT t h) fun a' b' c' => ⟨List.replicate k (.bl true), ?_, ?_, fun t h => ?_, k + 1, by omega, ?_⟩
    · rw [set_ne hxp, set_ne hxp]
      exact g1
    · rw [List.length_replicate]
      omega
    · rw [set_ne (np t h), set_ne (nx t h), set_ne (nx t h)]
      exact hT t h
    · rw [set_same, List.replicate_succ']
  · rintro S2 ⟨hT, k, hk, g1⟩
    refine ⟨_, g1, List.replicate k true, ?_, cl ?_⟩
    · show some _ = some _
      rw [List.map_replicate]
    · have e : (List.replicate k true).all id = true := by simp
      rw [e]
      exact q _
/-! ### the law of k17 -/
def cameD (r : List Str) : D := .tup [.str "back", .tup (plD r)]
instance : InjD cameD := ⟨fun a b e => by
  unfold cameD at e
  injection e with e
  injection e with _ e
  injection e with e _
  injection e with e
  exact plD_inj e⟩
end
end L2.DL
namespace L2.DL
open PySem PySem.Spec PyProof.Rows
/-! ### values of any kind are shown -/
theorem piled_up {B : Nat} : ∀ {ts : List Str}, (∀ t ∈ ts, t.length ≤ B) → piled ts ≤ ts.length * (B + 2)
  | [], _ => by simp [piled]
  | t :: ts, h => by
    have ih := piled_up (ts := ts) fun u hu => h u (List.mem_cons_of_mem _ hu)
    have h1 := h t (List.mem_cons_self ..)
    have e : piled (t :: ts) = (t.length + 2) + piled ts := by simp [piled]
    rw [e, List.length_cons, Nat.succ_mul]
    omega
theorem join_up {B : Nat} {ts : List Str} (h : ∀ t ∈ ts, t.length ≤ B) : (Str.join ", " ts).length ≤ ts.length * (B + 2) := by
  cases ts with
  | nil => exact Nat.zero_le _
  | cons t ts =>
    have h1 := join_length_add (t :: ts) (by simp)
    have h2 := piled_up h
    omega
theorem textFrom_up {B : Nat} : ∀ {ts : List Str} (k : Nat) (acc : Str), (∀ t ∈ ts, t.length ≤ B) → (textFrom k acc ts).length ≤ acc.length + ts.length * (B + 2)
  | [], k, acc, _ => by show acc.length ≤ _; omega
  | t :: ts, k, acc, h => by
    have ih := textFrom_up (ts := ts) (k + 1) (acc ++ (if k > 0 then ", " else "" : String) ++ t) fun u hu => h u (List.mem_cons_of_mem _ hu)
    have h1 := h t (List.mem_cons_self ..)
    have e : (acc ++ (if k > 0 then ", " else "" : String) ++ t : Str).length ≤ acc.length + 2 + t.length := by
      rw [strLen_append, strLen_append]
      have : (((if k > 0 then ", " else "" : String)) : Str).length ≤ 2 := by split <;> decide
      omega
    show (textFrom (k + 1) _ ts).length ≤ _
    rw [List.length_cons, Nat.succ_mul]
    omega
theorem listText_up {B : Nat} {ts : List Str} (h : ∀ t ∈ ts, t.length ≤ B) : (listText ts).length ≤ ts.length * (B + 2) + 2 := by
  have z := textFrom_up 0 "[" h
  unfold listText
  rw [strLen_append]
  have e1 : (("[" : String) : Str).length = 1 := by decide
  have e2 : (("]" : String) : Str).length = 1 := by decide
  omega
theorem tupleText_up {B : Nat} {ts : List Str} (h : ∀ t ∈ ts, t.length ≤ B) : (tupleText ts).length ≤ ts.length * (B + 2) + 3 := by
  have z := join_up h
  unfold tupleText
  rw [strLen_append, strLen_append]
  have e1 : ("(" : Str).length = 1 := by decide
  have e2 : (((if ts.length == 1 then ",)" else ")" : String)) : Str).length ≤ 2 := by split <;> decide
  omega
theorem valPs_of {n B : Nat} : ∀ {xs : List D}, (∀ x ∈ xs, ∃ p, valP x = some p ∧ p.showable = true ∧ p.depth ≤ n ∧ p.shown.length ≤ B) → ∃ ps, valPs xs = some ps ∧ PyData.showableAll ps = true ∧ PyData.depthAll ps ≤ n ∧ (∀ t ∈ PyData.shownAll ps, t.length ≤ B) ∧ (PyData.shownAll ps).length = xs.length
  | [], _ => ⟨[], rfl, by simp [PyData.showableAll], by simp [PyData.depthAll], by simp [PyData.shownAll], by simp [PyData.shownAll]⟩
  | x :: xs, h => by
    obtain ⟨p, h1, h2, h3, h4⟩ := h x (List.mem_cons_self ..)
    obtain ⟨ps, g1, g2, g3, g4, g5⟩ := valPs_of (xs := xs) fun y hy => h y (List.mem_cons_of_mem _ hy)
    refine ⟨p :: ps, ?_, by simp [PyData.showableAll, h2, g2], by simp only [PyData.depthAll]; omega, fun t ht => ?_, by simp [PyData.shownAll, g5]⟩
    · show (valP x).bind (fun p => (valPs xs).map fun ps => p :: ps) = _
      rw [h1, g1]
      rfl
    · simp only [PyData.shownAll, List.mem_cons] at ht
      rcases ht with rfl | ht
      · exact h4
      · exact g4 t ht
theorem small_int {i : Int} (h : i.natAbs ≤ 10 ^ 30) : i.natAbs.log2 < 100 := by
  rcases Nat.eq_zero_or_pos i.natAbs with h0 | h0
  · rw [h0]
    decide
  · exact (Nat.log2_lt (by omega)).mpr (Nat.lt_of_le_of_lt h (by decide))
theorem ValB.shown {n m : Nat} {d : D} (h : ValB n m d) : ∃ p, valP d = some p ∧ p.showable = true ∧ p.depth ≤ n + 1 ∧ p.shown.length ≤ lenB m n := by
  have l0 : ∀ n, 120 ≤ lenB m n ∧ 10 * m ≤ lenB m n := fun n => by
    induction n with
    | zero => unfold lenB; omega
    | succ n ih =>
      unfold lenB
      have := Nat.le_mul_of_pos_left (lenB m n + 2) (show 0 < m + 1 by omega)
      omega
  have l1 : ∀ {n m : Nat}, 10 * m + 2 ≤ lenB m n := fun {n m} => by
    cases n with
    | zero => unfold lenB; omega
    | succ n =>
      have : ∀ k, 10 * m + 2 ≤ lenB m k := fun k => by
        induction k with
        | zero => unfold lenB; omega
        | succ k ih =>
          unfold lenB
          have := Nat.le_mul_of_pos_left (lenB m k + 2) (show 0 < m + 1 by omega)
          omega
      exact this _
  have l2 : ∀ {n m : Nat}, 120 ≤ lenB m n := fun {n m} => by
    induction n with
    | zero => unfold lenB; omega
    | succ n ih =>
      unfold lenB
      have := Nat.le_mul_of_pos_left (lenB m n + 2) (show 0 < m + 1 by omega)
      omega
  clear l0
  induction h with
  | non => exact ⟨_, rfl, rfl, by simp [PyData.depth], Nat.le_trans (show (PyData.shown .none).length ≤ 120 by simp only [PyData.shown]; decide) l2⟩
  | bl b => exact ⟨_, rfl, rfl, by simp [PyData.depth], Nat.le_trans (show (PyData.shown (.bool b)).length ≤ 120 by simp only [PyData.shown]; cases b <;> decide) l2⟩
  | int i h =>
    have h2 := small_int h
    refine ⟨_, rfl, by simp only [PyData.showable]; exact decide_eq_true (by omega), by simp [PyData.depth], Nat.le_trans ?_ l2⟩
    simp only [PyData.shown]
    rw [PySem.ofString_length]
    have := int_text_length_le (k := 100) (by decide) h2
    omega
  | @str n m x h hl =>
    refine ⟨_, rfl, rfl, by simp [PyData.depth], ?_⟩
    simp only [PyData.shown]
    have z := StrLaws.reprText_len x fun c hc => Nat.lt_trans (sOk_iff.mp h c hc) (by decide)
    have := l1 (n := n) (m := m)
    omega
  | @tup n m xs hl h ih =>
    obtain ⟨ps, h1, h2, h3, h4, h5⟩ := valPs_of ih
    refine ⟨.tuple ps, by show (valPs xs).map PyData.tuple = _; rw [h1]; rfl, by simp only [PyData.showable]; exact h2, by simp only [PyData.depth]; omega, ?_⟩
    simp only [PyData.shown]
    have z := tupleText_up h4
    rw [h5] at z
    have := Nat.mul_le_mul_right (lenB m n + 2) hl
    show _ ≤ (m + 1) * (lenB m n + 2) + 4
    rw [Nat.succ_mul]
    omega
  | @lst n m xs hl h ih =>
    obtain ⟨ps, h1, h2, h3, h4, h5⟩ := valPs_of ih
    refine ⟨.list ps, by show (valPs xs).map PyData.list = _; rw [h1]; rfl, by simp only [PyData.showable]; exact h2, by simp only [PyData.depth]; omega, ?_⟩
    simp only [PyData.shown]
    have z := listText_up h4
    rw [h5] at z
    have := Nat.mul_le_mul_right (lenB m n + 2) hl
    show _ ≤ (m + 1) * (lenB m n + 2) + 4
    rw [Nat.succ_mul]
    omega
  | dic t => exact ⟨_, rfl, by simp [PyData.showable, PyData.showableKv], by simp [PyData.depth, PyData.depthKv], Nat.le_trans (show (PyData.shown (.dict [])).length ≤ 120 by simp only [PyData.shown, PyData.shownKv]; decide) l2⟩
theorem ValB.showV {n m : Nat} {d : D} (h : ValB n m d) (hn : n ≤ 60) (hm : lenB m n ≤ 16777216) : ∃ p, valP d = some p ∧ ShowV p := by
  obtain ⟨p, h1, h2, h3, h4⟩ := h.shown
  exact ⟨p, h1, h2, by omega, by rw [sizeLine_eq]; omega⟩
end L2.DL

namespace L2.DL
open PySem PySem.Spec PyProof.Rows
theorem okS_list {ts : List Str} (h : ∀ t ∈ ts, OkS t) : OkS (listText ts) := okS_app (okS_from ts 0 _ (okS_lit "[") h) (okS_lit "]")
theorem okS_tuple {ts : List Str} (h : ∀ t ∈ ts, OkS t) : OkS (tupleText ts) := by
  unfold tupleText
  refine okS_app (okS_app (okS_lit "(") (okS_join ts h)) ?_
  split
  · exact okS_lit ",)"
  · exact okS_lit ")"
theorem okS_valPs : ∀ {xs : List D} {ps : List PyData}, (∀ x ∈ xs, ∀ p, valP x = some p → OkS p.shown) → valPs xs = some ps → ∀ t ∈ PyData.shownAll ps, OkS t
  | [], _, _, e, t, ht => by
    cases e
    simp [PyData.shownAll] at ht
  | x :: xs, _, h, e, t, ht => by
    obtain ⟨p, hp, e2⟩ := Option.bind_eq_some_iff.mp (show (valP x).bind (fun p => (valPs xs).map fun ps => p :: ps) = some _ from e)
    obtain ⟨qs, hq, rfl⟩ := Option.map_eq_some_iff.mp e2
    simp only [PyData.shownAll, List.mem_cons] at ht
    rcases ht with rfl | ht
    · exact h x (List.mem_cons_self ..) p hp
    · exact okS_valPs (fun y hy => h y (List.mem_cons_of_mem _ hy)) hq t ht
theorem ValB.okS {n m : Nat} {d : D} (h : ValB n m d) : ∀ p, valP d = some p → OkS p.shown := by
  induction h with
  | non =>
    intro p e
    cases e
    simp only [PyData.shown]
    exact okS_lit "None"
  | bl b =>
    intro p e
    cases e
    simp only [PyData.shown]
    cases b
    · exact okS_lit "False"
    · exact okS_lit "True"
  | int i h =>
    intro p e
    cases e
    simp only [PyData.shown]
    exact okS_lit _
  | str x h hl =>
    intro p e
    cases e
    simp only [PyData.shown]
    exact okS_repr (okS_of h)
  | tup xs hl h ih =>
    intro p e
    obtain ⟨ps, hp, rfl⟩ := Option.map_eq_some_iff.mp (show (valPs xs).map PyData.tuple = some p from e)
    simp only [PyData.shown]
    exact okS_tuple (okS_valPs ih hp)
  | lst xs hl h ih =>
    intro p e
    obtain ⟨ps, hp, rfl⟩ := Option.map_eq_some_iff.mp (show (valPs xs).map PyData.list = some p from e)
    simp only [PyData.shown]
    exact okS_list (okS_valPs ih hp)
  | dic t =>
    intro p e
    cases e
    simp only [PyData.shown, PyData.shownKv]
    exact okS_lit "{}"
end L2.DL

namespace L2.DL
open PySem PySem.Spec PyProof.Rows
/-! ### texts of webs are apart -/
def flatJ (c : Nat) : List (List Nat) → List Nat
  | [] => []
  | [x] => x
  | x :: y :: r => x ++ c :: flatJ c (y :: r)
theorem join_flat (z : Str) (c : Nat) (hz : z.cps = #[c]) : ∀ ys : List Str, (Txt.join z ys).cps.toList = flatJ c (ys.map fun y => y.cps.toList) := by
  intro ys
  show (Builtin.Str.glued _ _).cps.toList = _
  rw [StrLaws.glued_eq_join]
  induction ys with
  | nil => rfl
  | cons x r ih =>
    cases r with
    | nil => rfl
    | cons y r =>
      show ((x.cps ++ z.cps) ++ (Str.join z (y :: r)).cps).toList = x.cps.toList ++ c :: flatJ c ((y :: r).map fun y => y.cps.toList)
      rw [Array.toList_append, Array.toList_append, hz, ih]
      simp
theorem str_ext {a b : Str} (h : a.cps.toList = b.cps.toList) : a = b := by
  obtain ⟨a⟩ := a
  obtain ⟨b⟩ := b
  have : a = b := Array.ext' h
  rw [this]
theorem flatJ_mem {c d : Nat} : ∀ {xs : List (List Nat)}, d ∈ flatJ c xs → d = c ∨ ∃ x ∈ xs, d ∈ x
  | [], h => by cases h
  | [x], h => .inr ⟨x, List.mem_cons_self .., h⟩
  | x :: y :: r, h => by
    rcases List.mem_append.mp (show d ∈ x ++ c :: flatJ c (y :: r) from h) with h | h
    · exact .inr ⟨x, List.mem_cons_self .., h⟩
    · rcases List.mem_cons.mp h with h | h
      · exact .inl h
      · rcases flatJ_mem h with h | ⟨z, hz, h⟩
        · exact .inl h
        · exact .inr ⟨z, List.mem_cons_of_mem _ hz, h⟩
end L2.DL

namespace L2.DL
open PySem PySem.Spec PyProof.Rows
/-! ### k02: the page as text -/
end L2.DL

namespace L2.DL
local macro_rules | `(tactic| and_intros) => `(tactic| repeat (first | refine Step.go (v := (.s (.s .z))) ?_ | with_reducible refine gTup ?_ | with_reducible refine mthTie ?_ | with_reducible refine iModL ?_ | with_reducible refine andL (by with_unfolding_all exact lez rfl) ?_))
section
open PySem PySem.Spec PyProof.Rows
/-! ### _law_labels -/
end
section
open PySem PySem.Spec PyProof.Rows
/-! ### _law_order -/
abbrev nsD (l : List Nat) : List D := l.map fun i : Nat => D.int (i : Nat)
/-! ### _law_links -/
def ipD (t : Nat × Nat) : D := .tup [.int (t.1 : Nat), .int (t.2 : Nat)]
theorem ipD_inj {a b : Nat × Nat} (h : ipD a = ipD b) : a = b := by
  unfold ipD at h
  injection h with h
  injection h with h1 h
  injection h with h2 h
  injection h1 with h1
  injection h2 with h2
  exact Prod.ext (by omega) (by omega)
instance : InjD ipD := ⟨fun _ _ h => ipD_inj h⟩
end
section
open PySem PySem.Spec PyProof.Rows
/-! ### _law_web, _law_scene -/
end
section
open PySem PySem.Spec PyProof.Rows
/-! ### many lists of numbers, each an object -/
/-! ### numbered -/
end
end L2.DL
namespace L2.DL
open PySem PySem.Spec PyProof.Rows
/-! ### a walk that looks for rings: row the way to here, vals what is left to see at each of its places, ks the places from which no ring is reached, in the order in which that was found -/
end L2.DL

namespace L2.DL
open PySem PySem.Spec PyProof.Rows
/-! ### numbers paired with numbers they lead to: bg for each end the begin, en for each begin the end -/
section
variable {nx : List (List Nat)} {bg en bg1 en1 : List (Option Nat)} {b e0 a : Nat} {T Ti : List Nat}
/-! ### the loop over the leads of b -/
/-! ### all numbers, one after the other -/
end
end L2.DL

namespace L2.DL
local macro_rules | `(tactic| and_intros) => `(tactic| repeat (first | refine Step.go (v := (.s (.s .z))) ?_ | with_reducible refine gTup ?_ | with_reducible refine mthTie ?_ | with_reducible refine iModL ?_ | with_reducible refine andL (by with_unfolding_all exact lez rfl) ?_))
section
open PySem PySem.Spec PyProof.Rows
theorem eqv_n (y x : Nat) : PyData.eqv (.int (y : Int)) (.int (x : Int)) = decide (y = x) := by
  by_cases e : y = x
  · subst e
    simp [PyData.eqv]
  · have e2 : ¬ ((y : Int) = (x : Int)) := fun h => e (by omega)
    simp [PyData.eqv, e, e2]
end
section
open PySem PySem.Spec PyProof.Rows
/-! ### ring_of, ring, ringless -/
end
section
open PySem PySem.Spec PyProof.Rows
/-! ### the law's own look at rings -/
end
section
open PySem PySem.Spec PyProof.Rows
end
section
open PySem PySem.Spec PyProof.Rows
end
end L2.DL
namespace L2.DL
local macro_rules | `(tactic| and_intros) => `(tactic| repeat (first | refine Step.go (v := (.s (.s (.s .z)))) ?_ | with_reducible refine gTup ?_ | with_reducible refine mthTie ?_ | with_reducible refine iModL ?_ | with_reducible refine xGTl ?_ | with_reducible refine andL (by with_unfolding_all exact lez rfl) ?_))
section
open PySem PySem.Spec PyProof.Rows
def rowL (r : List Str) : D := .lst (plD r)
instance : InjD rowL := ⟨fun a b e => by
  unfold rowL plD at e
  injection e with e
  exact map_inj e⟩
end
section
open PySem PySem.Spec PyProof.Rows
end
section
open PySem PySem.Spec PyProof.Rows
/-! ### _law_order as a list that changes -/
/-! ### as_lists, as_tuples, step -/
def rowT (r : List Str) : D := .tf (plD r)
instance : InjD rowT := ⟨fun a b e => by
  unfold rowT plD at e
  injection e with e
  exact map_inj e⟩
/-! ### partings by numbers -/
abbrev nsL (r : List Nat) : D := .lst (nsD r)
instance : InjD nsL := ⟨fun a b e => by
  unfold nsL nsD at e
  injection e with e
  exact map_inj e⟩
abbrev partN (rs : List (List Nat)) : D := .lst (rs.map nsL)
end
section
open PySem PySem.Spec PyProof.Rows
/-! ### three objects beside one another -/
section
variable {S : SO} {p r f g : Addr} {x x' y y' z z' u : DO}
def o3 (S : SO) (p r f : Addr) (x y z : DO) : SO := ((S.set p x).set r y).set f z
end
/-! ### roads by numbers -/
/-! ### _law_parted -/
end
section
open PySem PySem.Spec PyProof.Rows
/-! ### Pairing.grow -/
theorem ixN_nat {n k : Nat} (h : k < n) : ixN n (k : Nat) = some k := by
  unfold ixN
  rw [if_pos (by omega), if_pos (by omega)]
  rfl
end
section
open PySem PySem.Spec PyProof.Rows
/-! ### Pairing(leads), pairing_of -/
theorem Wk.dropS {sd : SD} {S : SO} {p : Addr} {o : DO} (h : S p = none) : Wk sd (S.set p o) sd S := Wk.to fun a u e => by
  rw [set_ne (so_ne e h)]
  exact e
end
section
open PySem PySem.Spec PyProof.Rows
end
section
open PySem PySem.Spec PyProof.Rows
/-! ### all partings, as mathematics -/
end
section
open PySem PySem.Spec PyProof.Rows
/-! ### _law_goes, _law_all_partings -/
instance : InjD partN := ⟨fun a b e => by
  unfold partN at e
  injection e with e
  exact map_inj e⟩
end
section
open PySem PySem.Spec PyProof.Rows
/-! ### whether something is a parting: a right one -/
/-! ### whether something is a witness: a right one -/
/-! ### k51 -/
end
section
open PySem PySem.Spec PyProof.Rows
/-! ### improved_of -/
/-! ### the greatest free set -/
end
section
open PySem PySem.Spec PyProof.Rows
/-! ### k46 -/
end
section
open PySem PySem.Spec PyProof.Rows
/-! ### k45 -/
end
section
open PySem PySem.Spec PyProof.Rows
/-! ### k47 -/
section
variable {W : Addr} {S : SO} {Q : KD} {E : EK} {ts : List Str} {w : List (Nat × Nat)}
end
end
end L2.DL
namespace L2.DL
open PySem PySem.Spec PyProof.Rows
/-! ### few roads by many pairs -/
section
variable {n : Nat} {ls : List (Nat × Nat)} {R : List (List Nat)}
end
/-! ### so many roads, if there is no ring -/
end L2.DL

namespace L2.DL
open PySem PySem.Spec PyProof.Rows
/-! ### roads put together along the pairs -/
end L2.DL

namespace L2.DL
open PySem PySem.Spec PyProof.Rows
/-! ### values compared part by part -/
def EqP (x y : D) (b : Bool) : Prop := ∃ p q, pyD x = some p ∧ pyD y = some q ∧ p.canLay0 = true ∧ q.canLay0 = true ∧ p.depth ≤ 9 ∧ q.depth ≤ 9 ∧ PyData.eqv p q = b
def EqPs (xs ys : List D) (b : Bool) : Prop := ∃ ps qs, pyDs xs = some ps ∧ pyDs ys = some qs ∧ PyData.canLayAll0 ps = true ∧ PyData.canLayAll0 qs = true ∧ PyData.depthAll ps ≤ 9 ∧ PyData.depthAll qs ≤ 9 ∧ PyData.eqvAll ps qs = b
theorem EqPs.nil : EqPs [] [] true := ⟨[], [], rfl, rfl, by simp [PyData.canLayAll0], by simp [PyData.canLayAll0], by simp [PyData.depthAll], by simp [PyData.depthAll], by simp [PyData.eqvAll]⟩
theorem EqPs.cons {x y : D} {xs ys : List D} {b c : Bool} (h : EqP x y b) (t : EqPs xs ys c) : EqPs (x :: xs) (y :: ys) (b && c) := by
  obtain ⟨p, q, h1, h2, h3, h4, h5, h6, h7⟩ := h
  obtain ⟨ps, qs, t1, t2, t3, t4, t5, t6, t7⟩ := t
  refine ⟨p :: ps, q :: qs, ?_, ?_, ?_, ?_, ?_, ?_, ?_⟩
  · show (pyD x).bind (fun p => (pyDs xs).map fun ps => p :: ps) = _
    rw [h1, t1]
    rfl
  · show (pyD y).bind (fun p => (pyDs ys).map fun ps => p :: ps) = _
    rw [h2, t2]
    rfl
  · simp only [PyData.canLayAll0, Bool.and_eq_true]
    exact ⟨h3, t3⟩
  · simp only [PyData.canLayAll0, Bool.and_eq_true]
    exact ⟨h4, t4⟩
  · simp only [PyData.depthAll]
    omega
  · simp only [PyData.depthAll]
    omega
  · simp only [PyData.eqvAll]
    rw [h7, t7]
theorem EqP.n (i j : Nat) : EqP (.int (i : Nat)) (.int (j : Nat)) (decide (i = j)) := ⟨.int i, .int j, rfl, rfl, by simp [PyData.canLay0], by simp [PyData.canLay0], by simp [PyData.depth], by simp [PyData.depth], eqv_n i j⟩
theorem EqP.b (i j : Bool) : EqP (.bl i) (.bl j) (i == j) := ⟨.bool i, .bool j, rfl, rfl, by simp [PyData.canLay0], by simp [PyData.canLay0], by simp [PyData.depth], by simp [PyData.depth], by cases i <;> cases j <;> decide +kernel⟩
theorem rowP_ok {xs : List Str} (h : ∀ x ∈ xs, sOk x) : (PyData.tuple (xs.map PyData.str)).canLay0 = true ∧ (PyData.tuple (xs.map PyData.str)).depth ≤ 9 := by
  constructor
  · simp only [PyData.canLay0]
    exact canLayAll_map h
  · simp only [PyData.depth]
    have := depthAll_map (n := 0) (f := PyData.str) (xs := xs) fun x _ => by simp [PyData.depth]
    omega
theorem pyD_row {d : D} {xs : List Str} (e : d = .tup (plD xs) ∨ d = .tf (plD xs)) : pyD d = some (.tuple (xs.map PyData.str)) := by
  rcases e with rfl | rfl
  · show (pyDs (plD xs)).map PyData.tuple = _
    rw [pyDs_strs]
    rfl
  · show (pyDs (plD xs)).map PyData.tuple = _
    rw [pyDs_strs]
    rfl
theorem EqP.row {x y : D} {xs ys : List Str} (e1 : x = .tup (plD xs) ∨ x = .tf (plD xs)) (e2 : y = .tup (plD ys) ∨ y = .tf (plD ys)) (h1 : ∀ x ∈ xs, sOk x) (h2 : ∀ x ∈ ys, sOk x) : EqP x y (decide (xs = ys)) :=
  ⟨_, _, pyD_row e1, pyD_row e2, (rowP_ok h1).1, (rowP_ok h2).1, (rowP_ok h1).2, (rowP_ok h2).2, eqv_tups eqv_str xs ys⟩
theorem EqP.tup {x y : D} {xs ys : List D} {b : Bool} (e1 : x = .tup xs ∨ x = .tf xs) (e2 : y = .tup ys ∨ y = .tf ys) (h : EqPs xs ys b) (hd : ∀ ps, pyDs xs = some ps → PyData.depthAll ps ≤ 8) (hd2 : ∀ ps, pyDs ys = some ps → PyData.depthAll ps ≤ 8) : EqP x y b := by
  obtain ⟨ps, qs, t1, t2, t3, t4, t5, t6, t7⟩ := h
  have g1 : pyD x = some (.tuple ps) := by
    rcases e1 with rfl | rfl
    · show (pyDs xs).map PyData.tuple = _
      rw [t1]
      rfl
    · show (pyDs xs).map PyData.tuple = _
      rw [t1]
      rfl
  have g2 : pyD y = some (.tuple qs) := by
    rcases e2 with rfl | rfl
    · show (pyDs ys).map PyData.tuple = _
      rw [t2]
      rfl
    · show (pyDs ys).map PyData.tuple = _
      rw [t2]
      rfl
  refine ⟨_, _, g1, g2, by simpa only [PyData.canLay0] using t3, by simpa only [PyData.canLay0] using t4, ?_, ?_, by simpa only [PyData.eqv] using t7⟩
  · simp only [PyData.depth]
    have := hd ps t1
    omega
  · simp only [PyData.depth]
    have := hd2 qs t2
    omega
theorem EqPs.lst {xs ys : List D} {b : Bool} {S : SO} {k : Bool → Prop} (h : EqPs xs ys b) (q : k b) : eqD (.lst xs) (.lst ys) S k := by
  obtain ⟨ps, qs, t1, t2, t3, t4, t5, t6, t7⟩ := h
  refine ⟨.list ps, .list qs, ?_, ?_, shaped_of (by simpa only [PyData.canLay0] using t3) ?_, shaped_of (by simpa only [PyData.canLay0] using t4) ?_, ?_⟩
  · show (pyDs xs).map PyData.list = _
    rw [t1]
    rfl
  · show (pyDs ys).map PyData.list = _
    rw [t2]
    rfl
  · simp only [PyData.depth]
    omega
  · simp only [PyData.depth]
    omega
  · rw [show PyData.eqv (.list ps) (.list qs) = b by simpa only [PyData.eqv] using t7]
    exact q
theorem EqP.s (i j : Str) (hi : sOk i) (hj : sOk j) : EqP (.str i) (.str j) (decide (i = j)) := ⟨.str i, .str j, rfl, rfl, hi, hj, by simp [PyData.depth], by simp [PyData.depth], eqv_str i j⟩
end L2.DL

namespace L2.DL
local macro_rules | `(tactic| and_intros) => `(tactic| repeat (first | refine Step.go (v := (.s (.s (.s .z)))) ?_ | with_reducible refine gTup ?_ | with_reducible refine mthTie ?_ | with_reducible refine iModL ?_ | with_reducible refine xGTl ?_ | with_reducible refine andL (by with_unfolding_all exact lez rfl) ?_))
section
open PySem PySem.Spec PyProof.Rows
/-! ### no ring: by ranks, by the law's own look -/
/-! ### check_ringless, fewest_ringless -/
/-! ### is_witness of a right one -/
end
section
open PySem PySem.Spec PyProof.Rows
/-! ### k71 -/
section
variable {W : Addr} {S : SO} {Q : KD} {E : EK} {ts : List Str} {es : List (Str × Str)} {rs : List (List Str)}
end
end
section
open PySem PySem.Spec PyProof.Rows
/-! ### planners: made, asked -/
end
section
open PySem PySem.Spec PyProof.Rows
/-! ### the law's look at a planner -/
end
section
open PySem PySem.Spec PyProof.Rows
end
section
open PySem PySem.Spec PyProof.Rows
/-! ### a road cut at a tie -/
end
section
open PySem PySem.Spec PyProof.Rows
/-! ### k21 -/
end
section
open PySem PySem.Spec PyProof.Rows
/-! ### k21, the law -/
/-- what stood before stands, but for the cup at p -/
structure UpS (S S' : SO) (p : Addr) : Prop where
  pan : ∃ a b c, S' p = some (pan3 a b c)
  up : ∀ q u, q ≠ p → S q = some u → S' q = some u
theorem UpS.refl {S : SO} {p : Addr} {a b c : Int} (h : S p = some (pan3 a b c)) : UpS S S p := ⟨⟨a, b, c, h⟩, fun _ _ _ h => h⟩
theorem UpS.cup {S S' : SO} {p : Addr} {a b c : Int} (h : UpS S S' p) : UpS S (S'.set p (pan3 a b c)) p := ⟨⟨a, b, c, set_same⟩, fun q u hq e => by rw [set_ne hq]; exact h.up q u hq e⟩
theorem UpS.ne {S S' : SO} {p q : Addr} (h : UpS S S' p) (hq : S' q = none) : q ≠ p := fun e => by
  obtain ⟨a, b, c, e2⟩ := h.pan
  rw [e, e2] at hq
  cases hq
theorem UpS.new {S S' : SO} {p q : Addr} {o : DO} (h : UpS S S' p) (hq : S' q = none) : UpS S (S'.set q o) p := by
  have hne := h.ne hq
  obtain ⟨a, b, c, e⟩ := h.pan
  refine ⟨⟨a, b, c, by rw [set_ne hne.symm]; exact e⟩, fun r u hr e => ?_⟩
  have e2 := h.up r u hr e
  rw [set_ne (so_ne e2 hq)]
  exact e2
theorem UpS.wk {S S' : SO} {p : Addr} {sd : SD} (h : UpS S S' p) : ∃ a b c, Wk sd S' sd (S.set p (pan3 a b c)) := by
  obtain ⟨a, b, c, e⟩ := h.pan
  refine ⟨a, b, c, Wk.to fun q u hu => ?_⟩
  by_cases hq : q = p
  · rw [hq, set_same] at hu
    rw [hq, e]
    exact hu
  · rw [set_ne hq] at hu
    exact h.up q u hq hu
end
end L2.DL
namespace L2.DL
local macro_rules | `(tactic| and_intros) => `(tactic| repeat (first | refine Step.go (v := (.s (.s (.s (.s .z))))) ?_ | with_reducible refine gTup ?_ | with_reducible refine mthTie ?_ | with_reducible refine iModL ?_ | with_reducible refine xGTl ?_ | with_reducible refine andL (by with_unfolding_all exact lez rfl) ?_))
section
open PySem PySem.Spec PyProof.Rows
/-! ### the law's own sorting, of values of any kind -/
def ShownV (v : D) (z : Str) : Prop := ∃ p, valP v = some p ∧ ShowV p ∧ z = p.shown
def SortV (n : Str) (fs : List (Str × D)) (Q : D → Prop) : Prop := (n = "NothingToUndo" → Q (.tup [.str "nothing", .str ""])) ∧ (n ≠ "NothingToUndo" → ∃ v z, fs.lookup (fieldOf n) = some v ∧ ShownV v z ∧ Q (.tup [.str (wordOf n), .str z]))
theorem reprV1 {S : SO} {Q : KD} {v : D} {z : Str} (h : ShownV v z) (q : Q (.str z) S) : cReprV [v] S Q := by
  obtain ⟨p, h1, h2, rfl⟩ := h
  exact ⟨p, h1, h2, q⟩
def sp_cup_sortV (W : Addr) : DSp := fun ds S Q E => ∃ (a : Addr) (n : Str) (fs : List (Str × D)), ds = [.obj a] ∧ S a = some (.err n fs) ∧ n ∈ nsA ∧ SortV n fs fun d => Q d S
def w_cup_sortV (W : Addr) : WS := (wSeq (wAsg (wLst (wCons (wIsE nsA "InvalidText" (wV 0)) (wCons (wIsE nsA "InvalidTie" (wV 0)) (wCons (wIsE nsA "InvalidParting" (wV 0)) (wCons (wIsE nsA "NotAWeb" (wV 0)) wNil))))) (gV 1))
    (wSeq (wAsg (wO oAdd (wV 1) (wLst (wCons (wIsE nsA "InvalidPlaces" (wV 0)) (wCons (wIsE nsA "InvalidTies" (wV 0)) (wCons (wIsE nsA "NotMet" (wV 0)) (wCons (wIsE nsA "TooMany" (wV 0)) wNil)))))) (gV 1))
    (wSeq (wAsg (wO oAdd (wV 1) (wLst (wCons (wIsE nsA "NothingToUndo" (wV 0)) (wCons (wIsE nsA "InvalidNumber" (wV 0)) (wCons (wIsE nsA "UnknownPlace" (wV 0)) wNil))))) (gV 1))
    (wSeq (wAsg (wLst (wCons (wIsE nsA "NotRight" (wV 0)) (wCons (wIsE nsA "NotThere" (wV 0)) (wCons (wIsE nsA "CannotBe" (wV 0)) wNil)))) (gV 2))
    (wSeq (wAsg (wLst (wCons (wIsE nsA "ValueError" (wV 0)) (wCons (wIsE nsA "LookupError" (wV 0)) (wCons (wIsE nsA "ArithmeticError" (wV 0)) wNil)))) (gV 3))
    (wSeq (wAsg (wIf (wB (wO oEq (wBM "list" mCountB (wV 1) (wCons (wC (.bl true)) wNil)) (wC (.int 1)))) (wBM "list" mIndex (wV 1) (wCons (wC (.bl true)) wNil)) (wC (.int 11))) (gV 4))
    (wSeq (wIfS (wOr (wB (wO oNe (wV 2) (wV 3))) (wB (wO oNe (wV 2) (wLst (wCons (wOrV (wO oLt (wV 4) (wC (.int 6))) (wO oEq (wV 4) (wC (.int 9)))) (wCons (wO oEq (wV 4) (wC (.int 10))) (wCons (wCh oLe oLt (wC (.int 6)) (wV 4) (wC (.int 9))) wNil))))))) (wRet (wTup (wCons (wC (.str "odd")) (wCons (wC (.str "")) wNil)))) wNext)
    (wSeq (wAsg (wLst (wCons (wC (.str "text")) (wCons (wC (.str "tie")) (wCons (wC (.str "parting")) (wCons (wC (.str "web")) (wCons (wC (.str "places")) (wCons (wC (.str "ties")) (wCons (wC (.str "met")) (wCons (wC (.str "many")) (wCons (wC (.str "nothing")) (wCons (wC (.str "number")) (wCons (wC (.str "place")) wNil)))))))))))) (gV 5))
    (wSeq (wIfS (wB (wO oIn (wV 4) (wLst (wCons (wC (.int 4)) (wCons (wC (.int 5)) wNil))))) (wRet (wTup (wCons (wO oIx (wV 5) (wV 4)) (wCons (wCall cReprV (wCons (wFldE ["InvalidPlaces", "InvalidTies"] "index" (wV 0)) wNil)) wNil)))) wNext)
    (wSeq (wIfS (wB (wO oIn (wV 4) (wLst (wCons (wC (.int 6)) (wCons (wC (.int 7)) wNil))))) (wRet (wTup (wCons (wO oIx (wV 5) (wV 4)) (wCons (wCall cReprV (wCons (wIf (wB (wO oEq (wV 4) (wC (.int 6)))) (wFldE ["NotMet"] "pair" (wV 0)) (wFldE ["TooMany"] "most" (wV 0))) wNil)) wNil)))) wNext)
    (wRet (wTup (wCons (wO oIx (wV 5) (wV 4)) (wCons (wIf (wB (wO oNe (wV 4) (wC (.int 8)))) (wCall cReprV (wCons (wFldE ["InvalidText", "InvalidTie", "InvalidParting", "InvalidNumber", "NotAWeb", "UnknownPlace"] "given" (wV 0)) wNil)) (wC (.str ""))) wNil))))))))))))))
theorem pure_cup_sortV (W : Addr) : ∀ ds S Q E, sp_cup_sortV W ds S Q E → w_cup_sortV W (endsOf Q) (startD ["_law_e", "_law_own", "_law_under", "_law_plain", "_law_at", "_law_words"] ds) S := by
  rintro ds S Q E ⟨a, n, fs, rfl, hS, hn, q0, q1⟩
  refine xFn ?_
  show w_cup_sortV W _ [some _, none, none, none, none, none] S
  unfold w_cup_sortV
  iterate 8 (and_intros; refine isEv (fun _ z => v0 z) hS hn ?_)
  and_intros
  refine addL_mk (show 4 + 4 ≤ 1000000 by decide) ?_
  iterate 3 (and_intros; refine isEv (fun _ z => v0 z) hS hn ?_)
  and_intros
  refine addL_mk (show 8 + 3 ≤ 1000000 by decide) ?_
  iterate 6 (and_intros; refine isEv (fun _ z => v0 z) hS hn ?_)
  and_intros
  simp only [nsA, List.mem_cons, List.not_mem_nil, or_false] at hn
  rcases hn with rfl | rfl | rfl | rfl | rfl | rfl | rfl | rfl | rfl | rfl | rfl
  · obtain ⟨v, z, hv, sh, q⟩ := q1 (by decide)
    refine ⟨own11.map (isE _), rfl, rfl, ?_⟩
    and_intros
    refine isYB (by decide +kernel) ?_
    and_intros
    refine idxB (bs := own11.map (isE _)) (j := 0) rfl (by decide +kernel) (by decide +kernel) ?_
    and_intros
    refine ⟨_, _, rfl, rfl, by decide +kernel, by decide +kernel, ?_⟩
    refine isNB (by decide +kernel) ?_
    and_intros
    repeat ((first | refine isYB (by decide +kernel) ?_ | refine isNB (by decide +kernel) ?_); and_intros)
    refine ⟨_, _, rfl, rfl, by decide +kernel, by decide +kernel, ?_⟩
    refine isNB (by decide +kernel) ?_
    and_intros
    refine memLit rfl (by decide +kernel) (by decide +kernel) ?_
    first | refine isYB (by decide +kernel) ?_ | refine isNB (by decide +kernel) ?_
    and_intros
    refine memLit rfl (by decide +kernel) (by decide +kernel) ?_
    first | refine isYB (by decide +kernel) ?_ | refine isNB (by decide +kernel) ?_
    and_intros
    refine ixLst (atI_nat (j := 0) rfl) ?_
    and_intros
    first | refine isYB (by decide +kernel) ?_ | refine isNB (by decide +kernel) ?_
    and_intros
    refine fldEv (fun _ z => v0 z) hS (by decide) hv ?_
    and_intros
    refine reprV1 sh ?_
    and_intros
    exact cl q
  · obtain ⟨v, z, hv, sh, q⟩ := q1 (by decide)
    refine ⟨own11.map (isE _), rfl, rfl, ?_⟩
    and_intros
    refine isYB (by decide +kernel) ?_
    and_intros
    refine idxB (bs := own11.map (isE _)) (j := 1) rfl (by decide +kernel) (by decide +kernel) ?_
    and_intros
    refine ⟨_, _, rfl, rfl, by decide +kernel, by decide +kernel, ?_⟩
    refine isNB (by decide +kernel) ?_
    and_intros
    repeat ((first | refine isYB (by decide +kernel) ?_ | refine isNB (by decide +kernel) ?_); and_intros)
    refine ⟨_, _, rfl, rfl, by decide +kernel, by decide +kernel, ?_⟩
    refine isNB (by decide +kernel) ?_
    and_intros
    refine memLit rfl (by decide +kernel) (by decide +kernel) ?_
    first | refine isYB (by decide +kernel) ?_ | refine isNB (by decide +kernel) ?_
    and_intros
    refine memLit rfl (by decide +kernel) (by decide +kernel) ?_
    first | refine isYB (by decide +kernel) ?_ | refine isNB (by decide +kernel) ?_
    and_intros
    refine ixLst (atI_nat (j := 1) rfl) ?_
    and_intros
    first | refine isYB (by decide +kernel) ?_ | refine isNB (by decide +kernel) ?_
    and_intros
    refine fldEv (fun _ z => v0 z) hS (by decide) hv ?_
    and_intros
    refine reprV1 sh ?_
    and_intros
    exact cl q
  · obtain ⟨v, z, hv, sh, q⟩ := q1 (by decide)
    refine ⟨own11.map (isE _), rfl, rfl, ?_⟩
    and_intros
    refine isYB (by decide +kernel) ?_
    and_intros
    refine idxB (bs := own11.map (isE _)) (j := 2) rfl (by decide +kernel) (by decide +kernel) ?_
    and_intros
    refine ⟨_, _, rfl, rfl, by decide +kernel, by decide +kernel, ?_⟩
    refine isNB (by decide +kernel) ?_
    and_intros
    repeat ((first | refine isYB (by decide +kernel) ?_ | refine isNB (by decide +kernel) ?_); and_intros)
    refine ⟨_, _, rfl, rfl, by decide +kernel, by decide +kernel, ?_⟩
    refine isNB (by decide +kernel) ?_
    and_intros
    refine memLit rfl (by decide +kernel) (by decide +kernel) ?_
    first | refine isYB (by decide +kernel) ?_ | refine isNB (by decide +kernel) ?_
    and_intros
    refine memLit rfl (by decide +kernel) (by decide +kernel) ?_
    first | refine isYB (by decide +kernel) ?_ | refine isNB (by decide +kernel) ?_
    and_intros
    refine ixLst (atI_nat (j := 2) rfl) ?_
    and_intros
    first | refine isYB (by decide +kernel) ?_ | refine isNB (by decide +kernel) ?_
    and_intros
    refine fldEv (fun _ z => v0 z) hS (by decide) hv ?_
    and_intros
    refine reprV1 sh ?_
    and_intros
    exact cl q
  · obtain ⟨v, z, hv, sh, q⟩ := q1 (by decide)
    refine ⟨own11.map (isE _), rfl, rfl, ?_⟩
    and_intros
    refine isYB (by decide +kernel) ?_
    and_intros
    refine idxB (bs := own11.map (isE _)) (j := 3) rfl (by decide +kernel) (by decide +kernel) ?_
    and_intros
    refine ⟨_, _, rfl, rfl, by decide +kernel, by decide +kernel, ?_⟩
    refine isNB (by decide +kernel) ?_
    and_intros
    repeat ((first | refine isYB (by decide +kernel) ?_ | refine isNB (by decide +kernel) ?_); and_intros)
    refine ⟨_, _, rfl, rfl, by decide +kernel, by decide +kernel, ?_⟩
    refine isNB (by decide +kernel) ?_
    and_intros
    refine memLit rfl (by decide +kernel) (by decide +kernel) ?_
    first | refine isYB (by decide +kernel) ?_ | refine isNB (by decide +kernel) ?_
    and_intros
    refine memLit rfl (by decide +kernel) (by decide +kernel) ?_
    first | refine isYB (by decide +kernel) ?_ | refine isNB (by decide +kernel) ?_
    and_intros
    refine ixLst (atI_nat (j := 3) rfl) ?_
    and_intros
    first | refine isYB (by decide +kernel) ?_ | refine isNB (by decide +kernel) ?_
    and_intros
    refine fldEv (fun _ z => v0 z) hS (by decide) hv ?_
    and_intros
    refine reprV1 sh ?_
    and_intros
    exact cl q
  · obtain ⟨v, z, hv, sh, q⟩ := q1 (by decide)
    refine ⟨own11.map (isE _), rfl, rfl, ?_⟩
    and_intros
    refine isYB (by decide +kernel) ?_
    and_intros
    refine idxB (bs := own11.map (isE _)) (j := 4) rfl (by decide +kernel) (by decide +kernel) ?_
    and_intros
    refine ⟨_, _, rfl, rfl, by decide +kernel, by decide +kernel, ?_⟩
    refine isNB (by decide +kernel) ?_
    and_intros
    repeat ((first | refine isYB (by decide +kernel) ?_ | refine isNB (by decide +kernel) ?_); and_intros)
    refine ⟨_, _, rfl, rfl, by decide +kernel, by decide +kernel, ?_⟩
    refine isNB (by decide +kernel) ?_
    and_intros
    refine memLit rfl (by decide +kernel) (by decide +kernel) ?_
    first | refine isYB (by decide +kernel) ?_ | refine isNB (by decide +kernel) ?_
    and_intros
    refine ixLst (atI_nat (j := 4) rfl) ?_
    and_intros
    refine fldEv (fun _ z => v0 z) hS (by decide) hv ?_
    and_intros
    refine reprV1 sh ?_
    and_intros
    exact cl q
  · obtain ⟨v, z, hv, sh, q⟩ := q1 (by decide)
    refine ⟨own11.map (isE _), rfl, rfl, ?_⟩
    and_intros
    refine isYB (by decide +kernel) ?_
    and_intros
    refine idxB (bs := own11.map (isE _)) (j := 5) rfl (by decide +kernel) (by decide +kernel) ?_
    and_intros
    refine ⟨_, _, rfl, rfl, by decide +kernel, by decide +kernel, ?_⟩
    refine isNB (by decide +kernel) ?_
    and_intros
    repeat ((first | refine isYB (by decide +kernel) ?_ | refine isNB (by decide +kernel) ?_); and_intros)
    refine ⟨_, _, rfl, rfl, by decide +kernel, by decide +kernel, ?_⟩
    refine isNB (by decide +kernel) ?_
    and_intros
    refine memLit rfl (by decide +kernel) (by decide +kernel) ?_
    first | refine isYB (by decide +kernel) ?_ | refine isNB (by decide +kernel) ?_
    and_intros
    refine ixLst (atI_nat (j := 5) rfl) ?_
    and_intros
    refine fldEv (fun _ z => v0 z) hS (by decide) hv ?_
    and_intros
    refine reprV1 sh ?_
    and_intros
    exact cl q
  · obtain ⟨v, z, hv, sh, q⟩ := q1 (by decide)
    refine ⟨own11.map (isE _), rfl, rfl, ?_⟩
    and_intros
    refine isYB (by decide +kernel) ?_
    and_intros
    refine idxB (bs := own11.map (isE _)) (j := 6) rfl (by decide +kernel) (by decide +kernel) ?_
    and_intros
    refine ⟨_, _, rfl, rfl, by decide +kernel, by decide +kernel, ?_⟩
    refine isNB (by decide +kernel) ?_
    and_intros
    repeat ((first | refine isYB (by decide +kernel) ?_ | refine isNB (by decide +kernel) ?_); and_intros)
    refine ⟨_, _, rfl, rfl, by decide +kernel, by decide +kernel, ?_⟩
    refine isNB (by decide +kernel) ?_
    and_intros
    refine memLit rfl (by decide +kernel) (by decide +kernel) ?_
    first | refine isYB (by decide +kernel) ?_ | refine isNB (by decide +kernel) ?_
    and_intros
    refine memLit rfl (by decide +kernel) (by decide +kernel) ?_
    first | refine isYB (by decide +kernel) ?_ | refine isNB (by decide +kernel) ?_
    and_intros
    refine ixLst (atI_nat (j := 6) rfl) ?_
    and_intros
    first | refine isYB (by decide +kernel) ?_ | refine isNB (by decide +kernel) ?_
    and_intros
    refine fldEv (fun _ z => v0 z) hS (by decide) hv ?_
    and_intros
    refine reprV1 sh ?_
    and_intros
    exact cl q
  · obtain ⟨v, z, hv, sh, q⟩ := q1 (by decide)
    refine ⟨own11.map (isE _), rfl, rfl, ?_⟩
    and_intros
    refine isYB (by decide +kernel) ?_
    and_intros
    refine idxB (bs := own11.map (isE _)) (j := 7) rfl (by decide +kernel) (by decide +kernel) ?_
    and_intros
    refine ⟨_, _, rfl, rfl, by decide +kernel, by decide +kernel, ?_⟩
    refine isNB (by decide +kernel) ?_
    and_intros
    repeat ((first | refine isYB (by decide +kernel) ?_ | refine isNB (by decide +kernel) ?_); and_intros)
    refine ⟨_, _, rfl, rfl, by decide +kernel, by decide +kernel, ?_⟩
    refine isNB (by decide +kernel) ?_
    and_intros
    refine memLit rfl (by decide +kernel) (by decide +kernel) ?_
    first | refine isYB (by decide +kernel) ?_ | refine isNB (by decide +kernel) ?_
    and_intros
    refine memLit rfl (by decide +kernel) (by decide +kernel) ?_
    first | refine isYB (by decide +kernel) ?_ | refine isNB (by decide +kernel) ?_
    and_intros
    refine ixLst (atI_nat (j := 7) rfl) ?_
    and_intros
    first | refine isYB (by decide +kernel) ?_ | refine isNB (by decide +kernel) ?_
    and_intros
    refine fldEv (fun _ z => v0 z) hS (by decide) hv ?_
    and_intros
    refine reprV1 sh ?_
    and_intros
    exact cl q
  · have q := q0 rfl
    refine ⟨own11.map (isE _), rfl, rfl, ?_⟩
    and_intros
    refine isYB (by decide +kernel) ?_
    and_intros
    refine idxB (bs := own11.map (isE _)) (j := 8) rfl (by decide +kernel) (by decide +kernel) ?_
    and_intros
    refine ⟨_, _, rfl, rfl, by decide +kernel, by decide +kernel, ?_⟩
    refine isNB (by decide +kernel) ?_
    and_intros
    repeat ((first | refine isYB (by decide +kernel) ?_ | refine isNB (by decide +kernel) ?_); and_intros)
    refine ⟨_, _, rfl, rfl, by decide +kernel, by decide +kernel, ?_⟩
    refine isNB (by decide +kernel) ?_
    and_intros
    refine memLit rfl (by decide +kernel) (by decide +kernel) ?_
    first | refine isYB (by decide +kernel) ?_ | refine isNB (by decide +kernel) ?_
    and_intros
    refine memLit rfl (by decide +kernel) (by decide +kernel) ?_
    first | refine isYB (by decide +kernel) ?_ | refine isNB (by decide +kernel) ?_
    and_intros
    refine ixLst (atI_nat (j := 8) rfl) ?_
    and_intros
    first | refine isYB (by decide +kernel) ?_ | refine isNB (by decide +kernel) ?_
    and_intros
    exact cl q
  · obtain ⟨v, z, hv, sh, q⟩ := q1 (by decide)
    refine ⟨own11.map (isE _), rfl, rfl, ?_⟩
    and_intros
    refine isYB (by decide +kernel) ?_
    and_intros
    refine idxB (bs := own11.map (isE _)) (j := 9) rfl (by decide +kernel) (by decide +kernel) ?_
    and_intros
    refine ⟨_, _, rfl, rfl, by decide +kernel, by decide +kernel, ?_⟩
    refine isNB (by decide +kernel) ?_
    and_intros
    repeat ((first | refine isYB (by decide +kernel) ?_ | refine isNB (by decide +kernel) ?_); and_intros)
    refine ⟨_, _, rfl, rfl, by decide +kernel, by decide +kernel, ?_⟩
    refine isNB (by decide +kernel) ?_
    and_intros
    refine memLit rfl (by decide +kernel) (by decide +kernel) ?_
    first | refine isYB (by decide +kernel) ?_ | refine isNB (by decide +kernel) ?_
    and_intros
    refine memLit rfl (by decide +kernel) (by decide +kernel) ?_
    first | refine isYB (by decide +kernel) ?_ | refine isNB (by decide +kernel) ?_
    and_intros
    refine ixLst (atI_nat (j := 9) rfl) ?_
    and_intros
    first | refine isYB (by decide +kernel) ?_ | refine isNB (by decide +kernel) ?_
    and_intros
    refine fldEv (fun _ z => v0 z) hS (by decide) hv ?_
    and_intros
    refine reprV1 sh ?_
    and_intros
    exact cl q
  · obtain ⟨v, z, hv, sh, q⟩ := q1 (by decide)
    refine ⟨own11.map (isE _), rfl, rfl, ?_⟩
    and_intros
    refine isYB (by decide +kernel) ?_
    and_intros
    refine idxB (bs := own11.map (isE _)) (j := 10) rfl (by decide +kernel) (by decide +kernel) ?_
    and_intros
    refine ⟨_, _, rfl, rfl, by decide +kernel, by decide +kernel, ?_⟩
    refine isNB (by decide +kernel) ?_
    and_intros
    repeat ((first | refine isYB (by decide +kernel) ?_ | refine isNB (by decide +kernel) ?_); and_intros)
    refine ⟨_, _, rfl, rfl, by decide +kernel, by decide +kernel, ?_⟩
    refine isNB (by decide +kernel) ?_
    and_intros
    refine memLit rfl (by decide +kernel) (by decide +kernel) ?_
    first | refine isYB (by decide +kernel) ?_ | refine isNB (by decide +kernel) ?_
    and_intros
    refine memLit rfl (by decide +kernel) (by decide +kernel) ?_
    first | refine isYB (by decide +kernel) ?_ | refine isNB (by decide +kernel) ?_
    and_intros
    refine ixLst (atI_nat (j := 10) rfl) ?_
    and_intros
    first | refine isYB (by decide +kernel) ?_ | refine isNB (by decide +kernel) ?_
    and_intros
    refine fldEv (fun _ z => v0 z) hS (by decide) hv ?_
    and_intros
    refine reprV1 sh ?_
    and_intros
    exact cl q
def w_cup_caughtV (W : Addr) (wl : WEX) (f Pt : Addr) (q : Str) (sdG sd : SD) : WS := (wSeq (wTry0 nsA (wSetX (wAct 3 f Pt q sdG sd wl) 1) [⟨["NotRight", "NotThere", "CannotBe"], some 2, (wRet (wFn (sp_cup_sortV W) [] (wCons (wV 2) wNil)))⟩])
    (wRet (wTup (wCons (wC (.str "back")) (wCons (wV 1) wNil)))))
/-- what is raised in the lambda meets the law's sorting -/
theorem sortQV {W : Addr} {n : Str} {fs : List (Str × D)} {S1 : SO} {Q : KD} (hn : n ∈ nsA) (h : SortV n fs fun d => Q d S1) : n ∈ nsA ∧ ∀ a, S1 a = none → sp_cup_sortV W [.obj a] (S1.set a (.err n fs)) (Cl Q) NoE :=
  ⟨hn, fun a ha => ⟨a, n, fs, rfl, set_same, hn, by
    have c : ∀ d, Q d S1 → Cl Q d (S1.set a (.err n fs)) := fun d q => ⟨d, S1, .dropS d ha, q⟩
    exact ⟨fun e => c _ (h.1 e), fun e => let ⟨v, z, h1, h2, h3⟩ := h.2 e; ⟨v, z, h1, h2, c _ h3⟩⟩⟩⟩
theorem xCaughtV {W P : Addr} {q : Str} {N : List Str} {wl : WEX} {sd : SD} {S : SO} {Q : KD} (hN : N.length = 3) (h0 : S P = some (.tb q))
    (h : wl sd S (fun v S1 => Cl Q (.tup [.str "back", v]) S1) (fun _ n fs S1 => n ∈ nsA ∧ ∀ a, S1 a = none → sp_cup_sortV W [.obj a] (S1.set a (.err n fs)) (Cl Q) NoE)) : wLam P q N (fun f sdG sd => w_cup_caughtV W wl f P q sdG sd) sd S Q := by
  refine ⟨h0, fun f sdG => ?_⟩
  have e0 : startD N [.obj f] ++ sdG = some (.obj f) :: none :: none :: sdG := by
    show ([some (.obj f)] ++ List.replicate (N.length - 1) none) ++ sdG = _
    rw [hN]
    rfl
  rw [e0]
  refine ⟨rfl, rfl, h0, ?_⟩
  refine (show ∀ {Q1 Q2 : KD} {X1 X2 : EX}, Q1 = Q2 → X1 = X2 → wl sd S Q1 X1 → wl sd S Q2 X2 from fun e1 e2 h => e1 ▸ e2 ▸ h) ?_ ?_ h
  · funext v S1
    refine propext ⟨fun q => ⟨(show 2 ≤ 1000000 by decide), q⟩, fun q => q.2⟩
  · funext _ n fs S1
    refine propext ⟨fun ⟨hn, q⟩ => ⟨hn, fun _ a ha => q a ha, fun z => ?_⟩, fun ⟨hn, q, _⟩ => ⟨hn, fun a ha => q ?_ a ha⟩⟩
    · have z' := (caught3 n hn).symm.trans z
      cases z'
    · exact caught3 n hn
end
section
open PySem PySem.Spec PyProof.Rows
/-! ### planners changed -/
theorem WebOk.snoc {ps : List Str} {ts : List (Str × Str)} (ok : WebOk ps ts) {t : Str × Str} (h1 : t.1 ∈ ps) (h2 : t.2 ∈ ps) (h3 : t.1 ≠ t.2) (h4 : t ∉ ts) (h5 : ts.length < 200) : WebOk ps (ts ++ [t]) := by
  refine ⟨ok.pos, ok.few, ok.nm, ok.nd, by rw [List.length_append, List.length_singleton]; omega, fun u hu => ?_, ?_⟩
  · rcases List.mem_append.mp hu with hu | hu
    · exact ok.tie u hu
    · rw [List.mem_singleton.mp hu]
      exact ⟨h1, h2, h3⟩
  · exact List.nodup_append.mpr ⟨ok.tnd, by simp, fun u hu v hv e => h4 (by rw [List.mem_singleton] at hv; rw [← hv, ← e]; exact hu)⟩
end
section
open PySem PySem.Spec PyProof.Rows
/-! ### ties put and struck, refused -/
def IsPairV (ps : List Str) (d : D) : Prop := ∃ x y, d = .tup [.str x, .str y] ∧ x ∈ ps ∧ y ∈ ps ∧ x ≠ y
def nmB (ps : List Str) (d : D) : Bool := match asStr d with
  | some s => decide (s ∈ ps)
  | none => false
theorem nmB_iff {ps : List Str} {d : D} : nmB ps d = true ↔ ∃ x, d = .str x ∧ x ∈ ps := by
  unfold nmB
  cases e : asStr d with
  | none => exact ⟨fun h => (by cases h), fun ⟨x, h, _⟩ => by rw [h] at e; cases e⟩
  | some s =>
    have e2 := asStr_of e
    subst e2
    rw [decide_eq_true_iff]
    exact ⟨fun h => ⟨s, rfl, h⟩, fun ⟨x, h, hx⟩ => by cases h; exact hx⟩
theorem valB_tup {n m : Nat} {d : D} (V : ValB n m d) {xs : List D} (h : asTup d = some xs) : d = .tup xs := by
  cases V <;> cases h
  rfl
theorem dgetMk2 (ts : List (Str × Str)) (x y : Str) : (dget (mkD ts) (.tup [.str x, .str y])).isSome = decide ((x, y) ∈ ts) := dget_mk (t := (x, y))
end
section
open PySem PySem.Spec PyProof.Rows
/-! ### k22: ties to be put and struck -/
end
section
open PySem PySem.Spec PyProof.Rows
/-! ### k23: what is refused -/
end
section
open PySem PySem.Spec PyProof.Rows
/-! ### k23: two hundred ties -/
end
section
open PySem PySem.Spec PyProof.Rows
/-! ### ties put and struck, refused or not -/
end
section
open PySem PySem.Spec PyProof.Rows
/-! ### k03: names and places of any value -/
def tagB (d : D) : Bool := match asStr d with
  | some s => nameOk s
  | none => false
theorem tagB_iff {d : D} : tagB d = true ↔ ∃ s, d = .str s ∧ nameOk s = true := by
  unfold tagB
  cases e : asStr d with
  | none => exact ⟨fun h => (by cases h), fun ⟨x, h, _⟩ => by rw [h] at e; cases e⟩
  | some s =>
    have e2 := asStr_of e
    subst e2
    exact ⟨fun h => ⟨s, rfl, h⟩, fun ⟨x, h, hx⟩ => by cases h; exact hx⟩
def FirstBad (good : Nat → Prop) (n : Nat) : Option Nat → Prop
  | none => ∀ i, i < n → good i
  | some i => i < n ∧ ¬ good i ∧ ∀ j, j < i → good j
theorem FirstBad.uniq {good : Nat → Prop} {n : Nat} {o o' : Option Nat} (h : FirstBad good n o) (h' : FirstBad good n o') : o = o' := by
  cases o with
  | none =>
    cases o' with
    | none => rfl
    | some j => exact absurd (h j h'.1) h'.2.1
  | some i =>
    cases o' with
    | none => exact absurd (h' i h.1) h.2.1
    | some j =>
      rcases Nat.lt_trichotomy i j with e | e | e
      · exact absurd (h'.2.2 i e) h.2.1
      · rw [e]
      · exact absurd (h.2.2 j e) h'.2.1
abbrev opN : Option Nat → D
  | none => .non
  | some i => .int (i : Nat)
def GoodP (xs : List D) (i : Nat) : Prop := i ≠ 40 ∧ ∃ s, xs[i]? = some (.str s) ∧ nameOk s = true ∧ D.str s ∉ xs.take i
def sp_is_nameA (W : Addr) : DSp := fun ds S Q E => ∃ (d : D) (n m : Nat), ds = [d] ∧ ValB n m d ∧ m ≤ 30000 ∧ Q (.bl (tagB d)) S
def w_is_nameA (W : Addr) : WS := (wRet (wAndV (wCall (cIsi (.ty "str") (fTy "str" [])) (wCons (wV 0) (wCons (wC (.ty "str")) wNil))) (wAndV (wCh oLt oLt (wC (.int 0)) (wCall cLen (wCons (wV 0) wNil)) (wC (.int 9))) (wCall cAll (wCons (wLcP (wStrI (wV 0)) (.n 1) wYes (wO oIn (wV 1) (wC (.str "abcdefghijklmnopqrstuvwxyz"))) [1]) wNil)))))
theorem pure_is_nameA (W : Addr) : ∀ ds S Q E, sp_is_nameA W ds S Q E → w_is_nameA W (endsOf Q) (startD ["value", "sign"] ds) S := by
  rintro ds S Q E ⟨d, n, m, rfl, V, hm, q⟩
  have A := V.any
  cases e : asStr d with
  | some s =>
    have e2 := asStr_of e
    subst e2
    have hl : s.length ≤ m := by
      cases V with
      | str _ _ hl => exact hl
    exact pure_is_name W _ S Q E ⟨s, rfl, by omega, q⟩
  | none =>
    refine xFn ?_
    show w_is_nameA W _ [some _, none] S
    unfold w_is_nameA
    and_intros
    refine isiStrA ?_ A
    have e3 : tagB d = false := by
      unfold tagB
      rw [e]
    rw [e3] at q
    rw [e]
    refine isNB rfl ?_
    and_intros
    exact cl q
theorem strs_of {xs : List D} {i : Nat} (h : ∀ j, j < i → GoodP xs j) (hi : i ≤ xs.length) : ∃ ps : List Str, xs.take i = plD ps ∧ ∀ p ∈ ps, nameOk p = true := by
  induction i with
  | zero => exact ⟨[], by simp, by simp⟩
  | succ i ih =>
    obtain ⟨ps, e, hn⟩ := ih (fun j hj => h j (by omega)) (by omega)
    obtain ⟨_, s, hs, hk, _⟩ := h i (by omega)
    refine ⟨ps ++ [s], ?_, ?_⟩
    · rw [List.take_succ, e, hs]
      simp
    · intro p hp
      rcases List.mem_append.mp hp with hp | hp
      · exact hn p hp
      · rw [List.mem_singleton.mp hp]
        exact hk
end
section
open PySem PySem.Spec PyProof.Rows
/-! ### k03: tags, ties of any value -/
instance injSign : InjD fun c : Nat => D.str ⟨#[c]⟩ := ⟨fun a b e => by
  injection e with e
  injection e with e
  simpa using e⟩
def GoodT (ps : List Str) (xs : List D) (i : Nat) : Prop := i ≠ 200 ∧ ∃ t, xs[i]? = some (prD t) ∧ IsPairV ps (prD t) ∧ prD t ∉ xs.take i
theorem mkD_add {ts : List (Str × Str)} {t : Str × Str} (h : t ∉ ts) : dput (mkD ts) (prD t) (.bl true) = mkD (ts ++ [t]) := by
  have hn := dget_mk (t := t) (ts := ts)
  rw [decide_eq_false h] at hn
  have h0 : dget (mkD ts) (prD t) = none := by
    cases q : dget (mkD ts) (prD t) with
    | none => rfl
    | some d =>
      rw [q] at hn
      cases hn
  rw [dput_new h0]
  unfold mkD
  rw [List.map_append]
  rfl
theorem prs_of {ps : List Str} {xs : List D} {i : Nat} (h : ∀ j, j < i → GoodT ps xs j) (hi : i ≤ xs.length) : ∃ ts : List (Str × Str), xs.take i = ts.map prD ∧ (∀ t ∈ ts, IsPairV ps (prD t)) ∧ ts.Nodup := by
  induction i with
  | zero => exact ⟨[], by simp, by simp, List.nodup_nil⟩
  | succ i ih =>
    obtain ⟨ts, e, hn, nd⟩ := ih (fun j hj => h j (by omega)) (by omega)
    obtain ⟨_, t, hs, hk, hno⟩ := h i (by omega)
    rw [e] at hno
    have hno : t ∉ ts := fun h => hno (List.mem_map_of_mem h)
    refine ⟨ts ++ [t], ?_, ?_, ?_⟩
    · rw [List.take_succ, e, hs]
      simp
    · intro p hp
      rcases List.mem_append.mp hp with hp | hp
      · exact hn p hp
      · rw [List.mem_singleton.mp hp]
        exact hk
    · rw [List.nodup_append]
      exact ⟨nd, by simp, fun a ha b hb e => hno (by rw [← List.mem_singleton.mp hb, ← e]; exact ha)⟩
end
section
open PySem PySem.Spec PyProof.Rows
/-! ### k03: places and ties judged -/
theorem strs_all {xs : List D} (h : FirstBad (GoodP xs) xs.length none) : ∃ ps : List Str, xs = plD ps ∧ PlacesOk ps := by
  have h : ∀ i, i < xs.length → GoodP xs i := h
  obtain ⟨ps, e, hn⟩ := strs_of h (Nat.le_refl _)
  rw [List.take_length] at e
  subst e
  have hl : (plD ps).length = ps.length := List.length_map ..
  refine ⟨ps, rfl, ?_, hn, ?_⟩
  · by_cases hc : ps.length ≤ 40
    · exact hc
    · exact absurd rfl (h 40 (by omega)).1
  · refine List.pairwise_iff_getElem.mpr fun i j hi hj hij e => ?_
    obtain ⟨_, s, h1, _, h2⟩ := h j (by omega)
    have e1 : (plD ps)[j]? = some (.str ps[j]) := by
      rw [List.getElem?_map, List.getElem?_eq_getElem hj]
      rfl
    rw [e1] at h1
    cases h1
    refine h2 ?_
    rw [← List.map_take, ← e]
    exact List.mem_map_of_mem (List.mem_take_iff_getElem.mpr ⟨i, by omega, rfl⟩)
theorem prs_all {ps : List Str} {xs : List D} (hs : ∀ p ∈ ps, sOk p) (h : FirstBad (GoodT ps xs) xs.length none) : ∃ ts : List (Str × Str), xs = ts.map prD ∧ TiesOk ps ts := by
  have h : ∀ i, i < xs.length → GoodT ps xs i := h
  obtain ⟨ts, e, hn, nd⟩ := prs_of h (Nat.le_refl _)
  rw [List.take_length] at e
  subst e
  have hl : (ts.map prD).length = ts.length := List.length_map ..
  refine ⟨ts, rfl, hs, ?_, ?_, nd⟩
  · by_cases hc : ts.length ≤ 200
    · exact hc
    · exact absurd rfl (h 200 (by omega)).1
  · intro t ht
    obtain ⟨x, y, e, hx, hy, hxy⟩ := hn t ht
    cases prD_inj (b := (x, y)) e
    exact ⟨hx, hy, hxy⟩
end
section
open PySem PySem.Spec PyProof.Rows
/-! ### k03: webs of values of any kind -/
end
section
open PySem PySem.Spec PyProof.Rows
/-! ### k06: one turn -/
section
variable {W : Addr} {ps : List Str} {ts ts' : List (Str × Str)} {d : D} {n m : Nat} {S : SO} {Q : KD} {E : Str → List (Str × D) → SO → Prop} {o : Str × Str × D}
end
section
variable {α : Type} {wi : WI} {nt : NT} {tt : WT} {wk we : WE} {vs : List Nat} {sd : SD} {S : SO} {Q : KD}
end
section
variable {W : Addr} {P : Str → Addr} {ps : List Str} {ts ts' : List (Str × Str)} {d : D} {n m : Nat} {S : SO} {Q : KD} {o : Str × Str × D} {put : Bool} {x0 x1 x4 : Option D} {rest : SD}
end
theorem lMul26 {S : SO} {Q : KD} {d : D} (h : Q (.lst [d, d]) S) : oMul (.lst [d]) (.int 2) S Q := ⟨[d], 2, rfl, rfl, by omega, by omega, by simp, h⟩
abbrev T6 (w z : Str) : D := .tup [.str w, .str z]
abbrev P6 (w z : Str) : PyData := .tuple [.str w, .str z]
end
section
open PySem PySem.Spec PyProof.Rows
/-! ### k03: the law's own look -/
end
end L2.DL
namespace L2.DL
open PySem PySem.Spec PyProof.Rows
/-! ### k03: names and ties as tuples of the plain kind -/
def sp_cup_folkT (W : Addr) : DSp := fun ds S Q E => ∃ (p : Addr) (a b c : Int) (m : Nat), ds = [.obj p, .int (m : Nat)] ∧ S p = some (pan3 a b c) ∧ m ≤ 52 ∧ ∀ (ts : List Str) (a' b' c' : Int), ts.length = m → NamesOk ts → Q (.tup (plD ts)) (S.set p (pan3 a' b' c'))
def w_folk2T (W : Addr) : WS := (wSeq (wAsg (wTup (wCons (wC (.str "abcdefghijklmnopqrstuvwxyz")) (wCons (wO oAdd (wC (.int 1)) (wO oMul (wC (.int 2)) (wFn (sp_cup_sip W) [] (wCons (wV 0) (wCons (wC (.int 6)) wNil))))) wNil))) (gT 2 (gC (gV 5) (gC (gV 4) gN))))
    (wSeq (wAsg (wJoin (wC (.str "")) (wLcF (wRng1 (wCons (wFn (sp_cup_sip W) [] (wCons (wV 0) (wCons (wC (.int 7)) wNil))) wNil)) (.n 8) wYes (wO oIx (wV 5) (wFn (sp_cup_sip W) [] (wCons (wV 0) (wCons (wC (.int 26)) wNil)))) [8])) (gV 6))
    (wSeq (wAsg (wLst (wCons (wC (.str "")) (wCons (wC (.str "z")) wNil))) (gV 7))
    (wRet (wCall cTuple (wCons (wLcP (wRng1 (wCons (wV 1) wNil)) (.n 8) wYes (wO oAdd (wO oAdd (wV 6) (wO oIx (wV 7) (wO oDiv (wV 8) (wC (.int 26))))) (wO oIx (wV 5) (wO oMod (wCall cInt (wCons (wO oAdd (wV 2) (wO oMul (wV 4) (wV 8))) wNil)) (wC (.int 26))))) [8]) wNil))))))
def w_cup_folkT (W : Addr) : WS := (wSeq (wAsg (wFn (sp_cup_sip W) [] (wCons (wV 0) (wCons (wC (.int 26)) wNil))) (gV 2))
    (wSeq (wIfS (wAnd (wB (wO oEq (wFn (sp_cup_sip W) [] (wCons (wV 0) (wCons (wC (.int 2)) wNil))) (wC (.int 0)))) (wB (wO oLt (wV 1) (wC (.int 12))))) (wSeq (wAsg (wLst (wCons (wC (.str "a")) (wCons (wC (.str "b")) (wCons (wC (.str "c")) (wCons (wC (.str "d")) (wCons (wC (.str "places")) (wCons (wC (.str "x")) (wCons (wC (.str "abcdefgh")) (wCons (wC (.str "ab")) (wCons (wC (.str "ba")) (wCons (wC (.str "put")) (wCons (wC (.str "e")) wNil)))))))))))) (gV 3))
    (wSeq (wAsg (wO oAdd (wC (.int 1)) (wFn (sp_cup_sip W) [] (wCons (wV 0) (wCons (wC (.int 10)) wNil)))) (gV 4))
    (wRet (wCall cTuple (wCons (wLcP (wRng1 (wCons (wV 1) wNil)) (.n 8) wYes (wO oIx (wV 3) (wO oMod (wCall cInt (wCons (wO oAdd (wV 2) (wO oMul (wV 4) (wV 8))) wNil)) (wC (.int 11)))) [8]) wNil))))) wNext)
    (wSeq (wAsg (wTup (wCons (wC (.str "abcdefghijklmnopqrstuvwxyz")) (wCons (wO oAdd (wC (.int 1)) (wO oMul (wC (.int 2)) (wFn (sp_cup_sip W) [] (wCons (wV 0) (wCons (wC (.int 6)) wNil))))) wNil))) (gT 2 (gC (gV 5) (gC (gV 4) gN))))
    (wSeq (wAsg (wJoin (wC (.str "")) (wLcF (wRng1 (wCons (wFn (sp_cup_sip W) [] (wCons (wV 0) (wCons (wC (.int 7)) wNil))) wNil)) (.n 8) wYes (wO oIx (wV 5) (wFn (sp_cup_sip W) [] (wCons (wV 0) (wCons (wC (.int 26)) wNil)))) [8])) (gV 6))
    (wSeq (wAsg (wLst (wCons (wC (.str "")) (wCons (wC (.str "z")) wNil))) (gV 7))
    (wRet (wCall cTuple (wCons (wLcP (wRng1 (wCons (wV 1) wNil)) (.n 8) wYes (wO oAdd (wO oAdd (wV 6) (wO oIx (wV 7) (wO oDiv (wV 8) (wC (.int 26))))) (wO oIx (wV 5) (wO oMod (wCall cInt (wCons (wO oAdd (wV 2) (wO oMul (wV 4) (wV 8))) wNil)) (wC (.int 26))))) [8]) wNil))))))))
theorem pure_folk2T (W : Addr) {S : SO} {Q : KD} {p : Addr} {a b c s : Int} {m : Nat} (hp : S p = some (pan3 a b c)) (hm : m ≤ 52) (q : ∀ (ts : List Str) (a' b' c' : Int), ts.length = m → NamesOk ts → Q (.tup (plD ts)) (S.set p (pan3 a' b' c'))) :
    w_folk2T W (endsOf Q) [some (.obj p), some (.int (m : Nat)), some (.int s), none, none, none, none, none, none] S := by
  refine ⟨p, a, b, c, 6, rfl, hp, by decide, by decide, fun l0 a1 b1 c1 hl0 hl1 => ⟨cmulL (by decide) (by decide), lez rfl, rfl, rfl, ?_⟩⟩
  have hl : LeapOk (1 + 2 * l0) := by
    have : l0 = 0 ∨ l0 = 1 ∨ l0 = 2 ∨ l0 = 3 ∨ l0 = 4 ∨ l0 = 5 := by omega
    unfold LeapOk
    rcases this with rfl | rfl | rfl | rfl | rfl | rfl <;> decide
  generalize 1 + 2 * l0 = l at hl
  have hll : -(2 ^ 64) < l ∧ l < 2 ^ 64 := by
    rcases hl with rfl | rfl | rfl | rfl | rfl | rfl <;> decide
  refine ⟨⟨_, rfl⟩, ⟨⟨p, a1, b1, c1, 7, rfl, set_same, by decide, by decide, fun n a2 b2 c2 hn0 hn1 => ⟨by omega, by omega, fun f hf => ?_⟩⟩⟩⟩
  rw [set_set] at hf ⊢
  obtain ⟨n, rfl⟩ : ∃ k : Nat, n = k := ⟨n.toNat, by omega⟩
  have hpf : p ≠ f := fun e => by rw [← e, set_same] at hf; cases hf
  refine ⟨fun i S' => ∃ a b c cs, S' = (S.set p (pan3 a b c)).set f (.lst (cs.map signD)) ∧ cs.length = i ∧ ∀ x ∈ cs, x ∈ LETTERS.cps.toList, ⟨a2, b2, c2, [], rfl, rfl, fun x hx => by cases hx⟩, fun _ _ _ => trivial, ?_, ?_⟩
  · rintro i d S' hi ⟨a, b, c, cs, rfl, hcs, hin⟩
    obtain ⟨rfl, hi2⟩ := rangeD_get hi
    refine upYesT (ifY rfl (upI ⟨p, a, b, c, 26, rfl, by rw [set_ne hpf, set_same], by decide, by decide, fun r a' b' c' hr0 hr1 => ?_⟩))
    have hr : r.toNat < 26 := by omega
    have e := atI_nat (letterAt_get hr)
    rw [Int.toNat_of_nonneg hr0] at e
    refine Or.inr (Or.inl ⟨LETTERS, r, letterAt r.toNat, rfl, rfl, by decide +kernel, e, cs.map signD, ?_, ?_, ?_⟩)
    · rw [set_comm hpf.symm, set_same]
    · rw [List.length_map]
      omega
    · refine ⟨a', b', c', cs ++ [letterAt r.toNat], ?_, by rw [List.length_append, hcs]; rfl, fun x hx => ?_⟩
      · rw [set_comm hpf.symm, set_set, set_set, List.map_append]
        rfl
      · rcases List.mem_append.mp hx with hx | hx
        · exact hin x hx
        · rw [List.mem_singleton] at hx
          rw [hx]
          exact letterAt_mem hr
  · rintro S' ⟨a3, b3, c3, cs, rfl, hcs, hin⟩
    have hn : cs.length = n := by
      rw [hcs]
      exact rangeD_length
    refine ⟨_, set_same, ?_⟩
    rw [del_set (by rw [set_ne hpf.symm]; rw [set_ne hpf.symm] at hf; exact hf)]
    have hstem := stem_of (cs := cs) (by omega) hin
    refine ⟨"", cs.map fun c => ⟨#[c]⟩, rfl, ?_, ?_, ?_⟩
    · show some _ = some _
      rw [List.map_map]
      rfl
    · rw [List.map_map, List.length_map]
      have e : ((fun x : Str => x.length) ∘ fun c : Nat => (⟨#[c]⟩ : Str)) = fun _ => 1 := rfl
      have z : (Str.ofString "").length = 0 := by decide
      rw [e, z]
      have : ∀ xs : List Nat, (xs.map fun _ => 1).sum = xs.length := fun xs => by
        induction xs with
        | nil => rfl
        | cons x xs ih => rw [List.map_cons, List.sum_cons, ih, List.length_cons]; omega
      rw [this]
      omega
    generalize Txt.join "" (cs.map fun c => (⟨#[c]⟩ : Str)) = stem at hstem
    refine ⟨lez rfl, ?_⟩
    refine lcP_map (rangeD 0 (m : Nat)) (fun d => match d with | .int k => .str (folkT s l stem k.toNat) | _ => .non) ⟨by omega, by omega, rfl, rfl⟩ (by rw [rangeD_length]; omega) (fun d hd S' e => ?_) ?_
    · obtain ⟨k, hk, rfl⟩ := rangeD_mem hd
      have hk26 : ((0 + (k : Nat) : Int) / 26) = (k / 26 : Nat) := by omega
      refine ⟨⟨by decide, by decide⟩, Or.inl ⟨_, _, .str (headAt k), rfl, rfl, ?_, ?_, ?_⟩⟩
      · rw [hk26]
        refine atI_nat ?_
        unfold headAt
        have : k / 26 = 0 ∨ k / 26 = 1 := by omega
        rcases this with h | h
        · rw [if_pos (by omega), h]
          rfl
        · rw [if_neg (by omega), h]
          rfl
      · have h1 : stem.cps.size ≤ 6 := hstem.1
        have h2 : (headAt k).length ≤ 1 := by
          unfold headAt
          split <;> decide
        show stem.cps.size + (headAt k).length ≤ 1000000
        omega
      · have hsp : (s + l * (0 + (k : Nat) : Int)) % 26 = (spot s l k : Nat) := by
          unfold spot
          have := Int.emod_nonneg (s + l * k) (show (26 : Int) ≠ 0 by decide)
          rw [Int.zero_add]
          omega
        refine ⟨cmulL hll.1 hll.2, by show (0 : Int) < 26; decide, Or.inr (Or.inl ⟨LETTERS, _, letterAt (spot s l k), rfl, rfl, by decide +kernel, ?_, ?_, rfl, ?_⟩)⟩
        · show atI LETTERS.cps.toList ((s + l * (0 + (k : Nat) : Int)) % 26) = _
          rw [hsp]
          exact atI_nat (letterAt_get (spot_lt ..))
        · have h1 : stem.cps.size ≤ 6 := hstem.1
          have h2 : (headAt k).cps.size ≤ 1 := by
            unfold headAt
            split <;> decide
          show (stem.cps ++ (headAt k).cps).size + 1 ≤ 1000000
          rw [Array.size_append]
          omega
        · show D.str (folkT s l stem (0 + (k : Nat) : Int).toNat) = _
          rw [Int.zero_add, Int.toNat_natCast]
          rfl
    · rw [range_map (g := fun k => .str (folkT s l stem k)) fun k _ => by simp]
      have e : (List.range m).map (fun k => D.str (folkT s l stem k)) = plD (folkB s l stem m) := by
        unfold folkB plD
        rw [List.map_map]
        rfl
      rw [e]
      refine ⟨_, rfl, cl (q _ _ _ _ ?_ (folkB_ok hstem hl hm))⟩
      unfold folkB
      rw [List.length_map, List.length_range]
theorem pure_cup_folkT (W : Addr) : ∀ ds S Q E, sp_cup_folkT W ds S Q E → w_cup_folkT W (endsOf Q) (startD ["_law_cup_here", "_law_many", "_law_start", "_law_menu", "_law_leap", "_law_letters", "_law_stem", "_law_heads", "_law_k"] ds) S := by
  rintro ds S Q E ⟨p, a, b, c, m, rfl, hp, hm, q⟩
  refine ⟨p, a, b, c, 26, rfl, hp, by decide, by decide, fun s a1 b1 c1 hs0 hs1 => ?_⟩
  have rest : ∀ a b c, w_folk2T W (endsOf Q) [some (.obj p), some (.int (m : Nat)), some (.int s), none, none, none, none, none, none] (S.set p (pan3 a b c)) := fun a b c =>
    pure_folk2T W set_same hm fun ts a' b' c' h1 h2 => by
      rw [set_set]
      exact q ts a' b' c' h1 h2
  refine ⟨p, a1, b1, c1, 2, rfl, set_same, by decide, by decide, fun r a2 b2 c2 _ _ => ?_⟩
  rw [set_set]
  refine isC (fun h => ⟨trivial, isC (fun h2 => ?_) fun h2 => rest _ _ _⟩) fun h => rest _ _ _
  have hm12 : (m : Int) < 12 := of_decide_eq_true h2
  refine ⟨lez rfl, p, a2, b2, c2, 10, rfl, set_same, by decide, by decide, fun l0 a3 b3 c3 hl0 hl1 => ?_⟩
  rw [set_set]
  have g1 : 1 ≤ 1 + l0 := by omega
  have g2 : 1 + l0 ≤ 10 := by omega
  revert g1 g2
  generalize hL : 1 + l0 = l
  intro g1 g2
  refine lcP_map (rangeD 0 (m : Nat)) (fun d => match d with | .int k => .str (menuAt (spot11 s l k.toNat)) | _ => .non) ⟨by omega, by omega, rfl, rfl⟩ (by rw [rangeD_length]; omega) (fun d hd S' e => ?_) ?_
  · obtain ⟨k, hk, rfl⟩ := rangeD_mem hd
    have hsp : (s + (1 + l0) * (0 + (k : Nat) : Int)) % 11 = (spot11 s l k : Nat) := by
      unfold spot11
      have := Int.emod_nonneg (s + l * k) (show (11 : Int) ≠ 0 by decide)
      rw [Int.zero_add, hL]
      omega
    refine ⟨cmulL (by omega) (by omega), by show (0 : Int) < 11; decide, Or.inl ⟨_, _, .str (menuAt (spot11 s l k)), rfl, rfl, ?_, rfl, ?_⟩⟩
    · show atI (plD MENU) ((s + (1 + l0) * (0 + (k : Nat) : Int)) % 11) = _
      rw [hsp]
      refine atI_nat ?_
      show (MENU.map D.str)[_]? = _
      rw [List.getElem?_map, menuAt_get (spot11_lt ..)]
      rfl
    · show D.str (menuAt (spot11 s l (0 + (k : Nat) : Int).toNat)) = _
      rw [Int.zero_add, Int.toNat_natCast]
  · rw [range_map (g := fun k => .str (menuAt (spot11 s l k))) fun k _ => by simp]
    have e : (List.range m).map (fun k => D.str (menuAt (spot11 s l k))) = plD (folkA s l m) := by
      unfold folkA plD
      rw [List.map_map]
      rfl
    rw [e]
    refine ⟨_, rfl, cl (q _ _ _ _ ?_ (folkA_ok g1 g2 (by omega)))⟩
    unfold folkA
    rw [List.length_map, List.length_range]

def sp_cup_tiesT (W : Addr) : DSp := fun ds S Q E => ∃ (p : Addr) (a b c : Int) (ts : List Str) (m : Nat), ds = [.obj p, .tup (plD ts), .int (m : Nat)] ∧ S p = some (pan3 a b c) ∧ NamesOk ts ∧ 0 < ts.length ∧ ts.length ≤ 52 ∧ m ≤ 200 ∧ ∀ (ls : List (Str × Str)) (a' b' c' : Int), TieL ts ls → ls.length ≤ m → Q (.tup (ls.map prD)) (S.set p (pan3 a' b' c'))
def w_cup_tiesT (W : Addr) : WS := (wSeq (wAsg (wNew wNil) (gV 3))
    (wSeq (wFor (wRng1 (wCons (wFn (sp_cup_sip W) [] (wCons (wV 0) (wCons (wO oAdd (wV 2) (wC (.int 1))) wNil))) wNil)) (gV 4) (wSeq (wAsg (wTup (wCons (wFn (sp_cup_of W) [] (wCons (wV 0) (wCons (wV 1) wNil))) (wCons (wFn (sp_cup_of W) [] (wCons (wV 0) (wCons (wV 1) wNil))) wNil))) (gV 5))
    (wIfS (wAnd (wB (wO oNe (wO oIx (wV 5) (wC (.int 0))) (wO oIx (wV 5) (wC (.int 1))))) (wB (wO oNotIn (wV 5) (wV 3)))) (wDrop (wBM "list" mAppend (wV 3) (wCons (wV 5) wNil))) wNext)))
    (wRet (wCall cTuple (wCons (wV 3) wNil)))))
theorem pure_cup_tiesT (W : Addr) : ∀ ds S Q E, sp_cup_tiesT W ds S Q E → w_cup_tiesT W (endsOf Q) (startD ["_law_cup_here", "_law_folk_here", "_law_most", "_law_found", "_law_turn", "_law_pair"] ds) S := by
  rintro ds S Q E ⟨p, a, b, c, ts, m, rfl, hp, N, h0, hl, hm, q⟩
  refine ⟨lez rfl, fun f hf => ?_⟩
  have hpf : p ≠ f := fun e => by rw [← e, hp] at hf; cases hf
  have hts : (plD ts).length = ts.length := List.length_map ..
  have hne : plD ts ≠ [] := fun e => by rw [e] at hts; simp at hts; omega
  let St (a b c : Int) (ls : List (Str × Str)) : SO := (S.set p (pan3 a b c)).set f (.lst (ls.map prD))
  have sp0 : ∀ a b c ls, St a b c ls p = some (pan3 a b c) := fun a b c ls => by show ((S.set p _).set f _) p = _; rw [set_ne hpf, set_same]
  have sf0 : ∀ a b c ls, St a b c ls f = some (.lst (ls.map prD)) := fun a b c ls => set_same
  have sp1 : ∀ a b c ls x y z, (St a b c ls).set p (pan3 x y z) = St x y z ls := fun a b c ls x y z => by
    show ((S.set p _).set f _).set p _ = _
    rw [set_comm hpf.symm, set_set]
  have sf1 : ∀ a b c ls l2, (St a b c ls).set f (.lst (l2.map prD)) = St a b c l2 := fun a b c ls l2 => set_set
  have e0 : ∀ x y z, (S.set f (.lst [])).set p (pan3 x y z) = St x y z [] := fun x y z => by
    show _ = (S.set p _).set f _
    rw [set_comm hpf.symm]
    rfl
  refine ⟨⟨p, a, b, c, _, rfl, by rw [set_ne hpf]; exact hp, by omega, by omega, fun r a1 b1 c1 hr0 hr1 => ⟨by omega, by omega, ?_⟩⟩⟩
  rw [e0]
  refine ⟨fun i sd S' => ∃ a b c ls c4 c5, S' = St a b c ls ∧ sd = [some (.obj p), some (.tup (plD ts)), some (.int (m : Nat)), some (.obj f), c4, c5] ∧ TieL ts ls ∧ ls.length ≤ i, ⟨a1, b1, c1, [], none, none, rfl, rfl, ⟨by simp, List.nodup_nil⟩, Nat.le_refl _⟩, fun _ _ _ _ => trivial, ?_, ?_⟩
  · rintro i d sd S' hi ⟨a, b, c, ls, c4, c5, rfl, rfl, T, hi3⟩
    obtain ⟨rfl, hi2⟩ := rangeD_get hi
    refine ⟨p, a, b, c, _, plD ts, rfl, sp0 .., rfl, hne, by omega, fun x hx a2 b2 c2 => ?_⟩
    rw [sp1]
    refine ⟨p, a2, b2, c2, _, plD ts, rfl, sp0 .., rfl, hne, by omega, fun y hy a3 b3 c3 => ?_⟩
    rw [sp1]
    obtain ⟨x, hxm, rfl⟩ := List.mem_map.mp hx
    obtain ⟨y, hym, rfl⟩ := List.mem_map.mp hy
    refine ⟨lez rfl, Or.inl ⟨_, 0, .str x, rfl, rfl, rfl, Or.inl ⟨_, 1, .str y, rfl, rfl, rfl, isC (fun h => ?_) fun h => ⟨a3, b3, c3, ls, _, _, rfl, rfl, T, by omega⟩⟩⟩⟩
    have hxy : x ≠ y := fun e => by
      rw [decide_eq_true e] at h
      cases h
    refine Or.inl ⟨_, seqX_obj (sf0 ..), memPr (x := (x, y)) ⟨N.sok x hxm, N.sok y hym⟩ (fun t ht => ⟨N.sok _ (T.tie t ht).1, N.sok _ (T.tie t ht).2.1⟩) (isC (fun h2 => ?_) fun h2 => ⟨a3, b3, c3, ls, _, _, rfl, rfl, T, by omega⟩)⟩
    have hno : (x, y) ∉ ls := fun e => by
      rw [decide_eq_true e] at h2
      cases h2
    refine ⟨Or.inl ⟨rfl, _, sf0 ..⟩, f, ls.map prD, rfl, sf0 .., ?_, a3, b3, c3, ls ++ [(x, y)], some (.int (0 + (i : Nat))), some (prD (x, y)), ?_, rfl, ⟨fun t ht => ?_, ?_⟩, ?_⟩
    · rw [List.length_map]
      omega
    · have e : ls.map prD ++ [D.tup [.str x, .str y]] = (ls ++ [(x, y)]).map prD := by
        rw [List.map_append]
        rfl
      rw [e, sf1]
    · rcases List.mem_append.mp ht with ht | ht
      · exact T.tie t ht
      · rw [List.mem_singleton] at ht
        subst ht
        exact ⟨hxm, hym, hxy⟩
    · rw [List.nodup_append]
      refine ⟨T.nd, by simp, fun s hs u hu e => ?_⟩
      rw [List.mem_singleton] at hu
      subst hu
      exact hno (e ▸ hs)
    · rw [List.length_append, List.length_singleton]
      omega
  · rintro sd S' ⟨a, b, c, ls, c4, c5, rfl, rfl, T, hlen⟩
    have hr : (ItD.items ⟨rangeD 0 r, fun _ => True⟩).length = (r - 0).toNat := rangeD_len
    rw [hr] at hlen
    refine ⟨_, lstX_obj (sf0 ..), .tup (ls.map prD), S.set p (pan3 a b c), Rf.dropS _ ?_, q ls a b c T (by omega)⟩
    rw [set_ne hpf.symm]
    exact hf
abbrev netT (ts : List Str) (ls : List (Str × Str)) : D := .tup [.tup (plD ts), .tup (ls.map prD)]
def sp_cup_netT (W : Addr) : DSp := fun ds S Q E => ∃ (p : Addr) (a b c : Int) (m k : Nat), ds = [.obj p, .int (m : Nat), .int (k : Nat)] ∧ S p = some (pan3 a b c) ∧ 0 < m ∧ m ≤ 40 ∧ k ≤ 200 ∧ ∀ (ts : List Str) (ls : List (Str × Str)) (a' b' c' : Int), WebOk ts ls → ts.length ≤ m → ls.length ≤ k → Q (netT ts ls) (S.set p (pan3 a' b' c'))
def w_cup_netT (W : Addr) : WS := (wSeq (wAsg (wFn (sp_cup_folkT W) [] (wCons (wV 0) (wCons (wO oAdd (wC (.int 1)) (wFn (sp_cup_sip W) [] (wCons (wV 0) (wCons (wV 1) wNil)))) wNil))) (gV 3))
    (wRet (wTup (wCons (wV 3) (wCons (wFn (sp_cup_tiesT W) [] (wCons (wV 0) (wCons (wV 3) (wCons (wV 2) wNil)))) wNil)))))
theorem pure_cup_netT (W : Addr) : ∀ ds S Q E, sp_cup_netT W ds S Q E → w_cup_netT W (endsOf Q) (startD ["_law_cup_here", "_law_most", "_law_ties_most", "_law_folk_here"] ds) S := by
  rintro ds S Q E ⟨p, a, b, c, m, k, rfl, hp, h0, hm, hk, q⟩
  refine ⟨p, a, b, c, _, rfl, hp, by omega, by omega, fun r a1 b1 c1 hr0 hr1 => ?_⟩
  refine ⟨p, a1, b1, c1, (1 + r).toNat, ?_, set_same, by omega, fun ts a2 b2 c2 hl N => ?_⟩
  · rw [Int.toNat_of_nonneg (by omega)]
    rfl
  refine ⟨p, a2, b2, c2, ts, k, rfl, set_same, N, by omega, by omega, hk, fun ls a3 b3 c3 L hls => ⟨lez rfl, cl ?_⟩⟩
  rw [set_set, set_set]
  exact q ts ls _ _ _ ⟨by omega, by omega, N.nm, N.nd, by omega, L.tie, L.nd⟩ (by omega) hls
end L2.DL

namespace L2.DL
open PySem PySem.Spec PyProof.Rows
/-! ### a net under other numbers, and turned -/
abbrev oT (os : List Nat) (t : Nat × Nat) : Nat × Nat := (os.getD t.1 0, os.getD t.2 0)
section
variable {n : Nat} {os : List Nat} (hp : os.Perm (List.range n))
include hp
end
end L2.DL

namespace L2.DL
open PySem PySem.Spec PyProof.Rows
/-! ### ties that lead on, without those that close a ring; the longest roads of these, as mathematics -/
inductive Rch (P : List (Str × Str)) (a : Str) : Str → Prop where
  | one {b : Str} (h : (a, b) ∈ P) : Rch P a b
  | step {b c : Str} (h : Rch P a b) (t : (b, c) ∈ P) : Rch P a c
theorem Rch.trans {P : List (Str × Str)} {a b c : Str} (h : Rch P a b) (g : Rch P b c) : Rch P a c := by
  induction g with
  | one t => exact .step h t
  | step _ t ih => exact .step ih t
theorem Rch.mono {P P' : List (Str × Str)} {a b : Str} (s : ∀ t ∈ P, t ∈ P') (h : Rch P a b) : Rch P' a b := by
  induction h with
  | one t => exact .one (s _ t)
  | step _ t ih => exact .step ih (s _ t)
theorem Rch.head {P : List (Str × Str)} {a b c : Str} (t : (a, b) ∈ P) (h : Rch P b c) : Rch P a c := (Rch.one t).trans h
def Acyc (P : List (Str × Str)) : Prop := ∀ v, ¬ Rch P v v
/-! ### how many places a road has that ends there -/
section
variable {P : List (Str × Str)} {ps : List Str} (ac : Acyc P) (hp : ∀ t ∈ P, t.1 ∈ ps ∧ t.2 ∈ ps)
include ac hp
end
/-! ### rounds of relaxing -/
/-! ### the dict from places to numbers -/
end L2.DL

namespace L2.DL
local macro_rules | `(tactic| and_intros) => `(tactic| repeat (first | refine Step.go (v := (.s (.s .z))) ?_ | with_reducible refine gTup ?_ | with_reducible refine mthTie ?_ | with_reducible refine iModL ?_ | with_reducible refine andL (by with_unfolding_all exact lez rfl) ?_))
section
open PySem PySem.Spec PyProof.Rows
/-! ### comes_to: whether ties in a dict of lists lead on to a place -/
section
variable {P : List (Str × Str)} {ps : List Str} {b e : Str} {sn wt : List Str}
end
end
section
open PySem PySem.Spec PyProof.Rows
/-! ### many lists of names, each an object, in a dict -/
section
variable {α : Type} {sd : SD} {S : SO} {R : Addr → SO → Prop} {nt : NT} {wk we : WE} {vs : List Nat}
end
/-! ### ringless_part -/
end
section
open PySem PySem.Spec PyProof.Rows
/-! ### colours_by, colouring -/
/-! ### colouring -/
end
section
open PySem PySem.Spec PyProof.Rows
/-! ### long_road -/
end
section
open PySem PySem.Spec PyProof.Rows
/-! ### the law's own walk: reaches, part, colours -/
theorem Rch.last {P : List (Str × Str)} {a b : Str} (h : Rch P a b) : b ∈ P.map (·.2) := by
  cases h with
  | one t => exact List.mem_map.mpr ⟨_, t, rfl⟩
  | step _ t => exact List.mem_map.mpr ⟨_, t, rfl⟩
section
variable {P : List (Str × Str)} {a : Str} {k : Nat} {row : List Str}
end
end
section
open PySem PySem.Spec PyProof.Rows
/-! ### k15 -/
end
section
open PySem PySem.Spec PyProof.Rows
/-! ### is_colouring of any value, by the program and by the law -/
end
section
open PySem PySem.Spec PyProof.Rows
/-! ### split of what was joined -/
open StrLaws Builtin Builtin.Str in
theorem occ_cnt (x : Str) (c : Nat) : ∀ (m a free : Nat) (found : Array Nat), a + m = x.length + 1 → found.size ≤ a → free ≤ a →
    ((forIn (List.range' a m) (found, free) (occBody x ⟨#[c]⟩ x.length (x.length + 1))).run.fst).size = found.size + (x.cps.toList.drop a).count c
  | 0, a, free, found, h, _, _ => by
    have e : x.cps.toList.drop a = [] := List.drop_eq_nil_of_le (by show x.cps.toList.length ≤ a; have : x.cps.toList.length = x.length := rfl; omega)
    rw [e]
    rfl
  | m + 1, a, free, found, h, hs, hf => by
    rw [List.range'_succ, List.forIn_cons]
    unfold occBody
    by_cases hc : x.cps.toList[a]? = some c
    · have h1 := (subAt_one x c a).mpr hc
      rw [if_pos ⟨⟨⟨by show found.size < _; omega, hf⟩, h1.1⟩, h1.2⟩]
      have ih := occ_cnt x c m (a + 1) (a + (⟨#[c]⟩ : Str).length) (found.push a) (by omega) (by simp; omega) (by show a + 1 ≤ a + 1; exact Nat.le_refl _)
      refine ih.trans ?_
      obtain ⟨hl, e⟩ := List.getElem?_eq_some_iff.mp hc
      rw [List.drop_eq_getElem_cons hl, e, List.count_cons_self, Array.size_push]
      omega
    · rw [if_neg fun z => hc ((subAt_one x c a).mp ⟨z.1.2, z.2⟩)]
      have ih := occ_cnt x c m (a + 1) free found (by omega) (by omega) (by omega)
      refine ih.trans ?_
      by_cases hl : a < x.cps.toList.length
      · rw [List.drop_eq_getElem_cons hl, List.count_cons_of_ne fun e => hc (by rw [List.getElem?_eq_getElem hl, e])]
      · rw [List.drop_eq_nil_of_le (by omega), List.drop_eq_nil_of_le (by omega)]
open StrLaws Builtin Builtin.Str in
theorem occ_count (x : Str) (c : Nat) : (occurrences x ⟨#[c]⟩ 0 x.length (x.length + 1)).length = x.cps.toList.count c := by
  rw [occ_eq, Array.length_toList]
  have := occ_cnt x c (x.length + 1) 0 0 #[] (by omega) (by simp) (Nat.le_refl _)
  simpa using this
open Builtin Builtin.Str in
theorem split_parts (x : Str) (c : Nat) (hc : c < 256) : Txt.split x ⟨#[c]⟩ ≠ [] ∧ Txt.join ⟨#[c]⟩ (Txt.split x ⟨#[c]⟩) = x ∧ (Txt.split x ⟨#[c]⟩).length = x.cps.toList.count c + 1 := by
  have one : Txt.join ⟨#[c]⟩ [x] = x := by
    have := join_flat ⟨#[c]⟩ c rfl [x]
    exact str_ext this
  unfold Txt.split
  by_cases h1 : (decide (x.length < (⟨#[c]⟩ : Str).length) || decide (Builtin.Str.strKind x < Builtin.Str.strKind ⟨#[c]⟩)) = true
  · rw [if_pos h1]
    have k1 : Builtin.Str.strKind ⟨#[c]⟩ = 1 := by
      unfold Builtin.Str.strKind
      rw [if_pos (by simpa using hc)]
    have k2 : 1 ≤ Builtin.Str.strKind x := by
      unfold Builtin.Str.strKind
      split
      · exact Nat.le_refl _
      · split <;> decide
    rw [k1] at h1
    have hx : x.cps.toList.length = 0 := by
      rcases Bool.or_eq_true_iff.mp h1 with h | h
      · have := of_decide_eq_true h
        have e : (⟨#[c]⟩ : Str).length = 1 := rfl
        rw [e] at this
        show x.length = 0
        omega
      · have := of_decide_eq_true h
        omega
    refine ⟨by simp, one, ?_⟩
    rw [List.length_eq_zero_iff.mp hx]
    rfl
  · rw [if_neg h1]
    by_cases h2 : (occurrences x ⟨#[c]⟩ 0 x.length (x.length + 1)).isEmpty = true
    · rw [if_pos h2]
      refine ⟨by simp, one, ?_⟩
      have := occ_count x c
      rw [List.isEmpty_iff.mp h2] at this
      rw [← this]
      rfl
    · rw [if_neg h2]
      refine ⟨fun e => ?_, StrLaws.glued_between_self x ⟨#[c]⟩ _, ?_⟩
      · have := length_partsBetween x (occurrences x ⟨#[c]⟩ 0 x.length (x.length + 1)) (⟨#[c]⟩ : Str).length
        rw [e] at this
        cases this
      · rw [length_partsBetween, occ_count]
theorem nl_eq : ("\n" : Str) = ⟨#[10]⟩ := str_ext (by decide)
theorem sp_eq : (" " : Str) = ⟨#[32]⟩ := str_ext (by decide)
theorem xSplit {wo we : WE} {sd : SD} {S : SO} {Q : KD} (h : wo sd S fun d S1 => (∃ a, d = .str a) ∧ we sd S1 fun e S2 => ∃ a b : Str, d = .str a ∧ e = .str b ∧ (b.length == 0) = false ∧ a.length ≤ 1000000 ∧ Q (.lst ((Txt.split a b).map D.str)) S2) : wSplit wo we sd S Q := h
/-! ### Web.read -/
end
end L2.DL
namespace L2.DL
local macro_rules | `(tactic| and_intros) => `(tactic| repeat (first | refine Step.go (v := (.s (.s (.s (.s .z))))) ?_ | with_reducible refine gTup ?_ | with_reducible refine mthTie ?_ | with_reducible refine iModL ?_ | with_reducible refine xGTl ?_ | with_reducible refine andL (by with_unfolding_all exact lez rfl) ?_))
section
open PySem PySem.Spec PyProof.Rows
/-! ### k03: great webs -/
end
section
open PySem PySem.Spec PyProof.Rows
/-! ### k03 -/
theorem goodAll {ps : List Str} (ok : PlacesOk ps) : FirstBad (GoodP (plD ps)) (plD ps).length Option.none := by
  intro i hi
  have hi : i < ps.length := by simpa using hi
  have := ok.1
  have e1 : (plD ps)[i]? = some (.str ps[i]) := by
    rw [List.getElem?_map, List.getElem?_eq_getElem hi]
    rfl
  refine ⟨by omega, ps[i], e1, ok.2.1 _ (List.getElem_mem hi), fun h => ?_⟩
  rw [← List.map_take] at h
  obtain ⟨y, hy, e⟩ := List.mem_map.mp h
  cases e
  exact nodup_take ok.2.2 (List.getElem?_eq_getElem hi) hy
theorem goodTs {ps : List Str} {ts : List (Str × Str)} (ok : TiesOk ps ts) : FirstBad (GoodT ps (ts.map prD)) (ts.map prD).length Option.none := by
  intro i hi
  have hi : i < ts.length := by simpa using hi
  have := ok.few
  have e1 : (ts.map prD)[i]? = some (prD ts[i]) := by
    rw [List.getElem?_map, List.getElem?_eq_getElem hi]
    rfl
  obtain ⟨h1, h2, h3⟩ := ok.tie _ (List.getElem_mem hi)
  refine ⟨by omega, ts[i], e1, ⟨_, _, rfl, h1, h2, h3⟩, fun h => ?_⟩
  rw [← List.map_take] at h
  obtain ⟨y, hy, e⟩ := List.mem_map.mp h
  rw [prD_inj e] at hy
  exact nodup_take ok.nd (List.getElem?_eq_getElem hi) hy
section
variable {W : Addr} {P : Str → Addr} {d e : D} {n m k j : Nat} {S : SO} {Q : KD} {E : Str → List (Str × D) → SO → Prop} {o : Str × Str × D} {q : Addr} {ps : List Str} {ts : List (Str × Str)} {x0 x1 : Option D} {rest : SD}
end
theorem neCame {S : SO} {Q : KD} {q : Addr} {w z : Str} (hq : S q = some (.lst [T6 w z, T6 w z])) (sw : sOk w) (sz : sOk z) (h : Q (.bl false) S) : oNe (.obj q) (.lst [T6 w z, T6 w z]) S Q := by
  have l : (PyData.list [P6 w z, P6 w z]).canLay0 = true := by
    simp only [PyData.canLay0, PyData.canLayAll0, Bool.and_eq_true]
    exact ⟨⟨sw, sz, trivial⟩, ⟨sw, sz, trivial⟩, trivial⟩
  have s : SeqAt.shaped (.list [P6 w z, P6 w z]) = true := shaped_of l (by simp [PyData.depth, PyData.depthAll])
  refine ⟨.list [P6 w z, P6 w z], .list [P6 w z, P6 w z], ?_, rfl, s, s, ?_⟩
  · show (objL (S q)).bind (fun l => (pyDs l).map PyData.list) = _
    rw [hq]
    rfl
  · rw [SeqAt.eqv_refl _ l]
    exact h
theorem pyS_netT (S : SO) (ps : List Str) (ts : List (Str × Str)) : pyS S (.lst [.tup (plD ps), .tup (ts.map prD)]) = some (netP ps ts) := pyS_net S ps ts
end
section
open PySem PySem.Spec PyProof.Rows
/-! ### the first wrong place, the first wrong tie, of values of any kind in tuples known to have no dict -/
def sp_wrong_placeF (W : Addr) : DSp := fun ds S Q E => ∃ (xs : List D) (n m : Nat), ds = [.tf xs] ∧ (∀ x ∈ xs, ValB n m x) ∧ m ≤ 30000 ∧ xs.length ≤ 30001 ∧ ∀ o, FirstBad (GoodP xs) xs.length o → Q (opN o) S
def w_wrong_placeF (W : Addr) : WS := (wSeq (wFor (wEnum (wCons (wV 0) wNil)) (gT 2 (gC (gV 1) (gC (gV 2) gN))) (wIfS (wOr (wB (wO oEq (wV 1) (wC (.int 40)))) (wOr (wNot (wB (wFn (sp_is_nameA W) [] (wCons (wV 2) wNil)))) (wB (wO oIn (wV 2) (wSl (wV 0) pNone (pSome (wV 1))))))) (wRet (wV 1)) wNext))
    (wRet (wC .non)))
theorem pure_wrong_placeF (W : Addr) : ∀ ds S Q E, sp_wrong_placeF W ds S Q E → w_wrong_placeF W (endsOf Q) (startD ["values", "index", "value"] ds) S := by
  rintro ds S Q E ⟨xs, n, m, rfl, V, hm, hl, q⟩
  refine xFn ?_
  show w_wrong_placeF W _ [some _, none, none] S
  unfold w_wrong_placeF
  and_intros
  refine forE xs (fun d => d) (fun x : Option D × Option D => [some (.tf xs), x.1, x.2]) (fun _ => S) (fun i x => ∀ j, j < i → GoodP xs j) (none, none) (fun j hj => absurd hj (Nat.not_lt_zero _)) ?_ ?_ (hx := by rw [List.map_id'])
  · rintro i z ⟨c1, c2⟩ hz hg
    have hg : ∀ j, j < i → GoodP xs j := hg
    have hil := (List.getElem?_eq_some_iff.mp hz).1
    obtain ⟨ps, ep, hps⟩ := strs_of hg (by omega)
    have bad : ¬ GoodP xs i → Q (.int (i : Nat)) S := fun h => q (some i) ⟨hil, h, hg⟩
    and_intros
    refine isD (fun h40 => ?_) fun h40 => ?_
    · and_intros
      exact cl (bad fun h => h.1 (by omega))
    · and_intros
      refine ⟨z, n, m, rfl, V z (List.mem_of_getElem? hz), hm, ?_⟩
      refine isCB (fun ht => ?_) fun ht => ?_
      · obtain ⟨s, rfl, hk⟩ := tagB_iff.mp ht
        and_intros
        refine slTfHi ?_ hil
        rw [ep]
        refine inTup ?_ (name_sOk hk) (fun y hy => name_sOk (hps y hy))
        refine isD (fun hin => ?_) fun hin => ?_
        · and_intros
          refine cl (bad fun ⟨_, s2, h2, _, h4⟩ => h4 ?_)
          rw [hz] at h2
          cases h2
          rw [ep]
          exact List.mem_map_of_mem hin
        · and_intros
          refine .of (some (.int (i : Nat)), some (.str s)) fun j hj => ?_
          by_cases e : j = i
          · subst e
            refine ⟨by omega, s, hz, hk, fun h => hin ?_⟩
            rw [ep] at h
            obtain ⟨y, hy, e⟩ := List.mem_map.mp h
            cases e
            exact hy
          · exact hg j (by omega)
      · and_intros
        refine cl (bad fun ⟨_, s, h2, h3, _⟩ => ?_)
        rw [hz] at h2
        cases h2
        have := tagB_iff.mpr ⟨s, rfl, h3⟩
        rw [ht] at this
        cases this
  · rintro ⟨c1, c2⟩ hg
    and_intros
    exact cl (q none hg)
def sp_is_pairL (W : Addr) : DSp := fun ds S Q E => ∃ (ps : List Str) (d : D) (n m : Nat), ds = [.tf (plD ps), d] ∧ (∀ x ∈ ps, sOk x) ∧ ValB n m d ∧ m ≤ 30001 ∧ ∀ b : Bool, (b = true ↔ IsPairV ps d) → Q (.bl b) S
def w_is_pairL (W : Addr) : WS := (wSeq (wIfS (wOr (wNot (wB (wCall (cIsi (.ty "tuple") (fTy "tuple" [])) (wCons (wV 1) (wCons (wC (.ty "tuple")) wNil))))) (wB (wO oNe (wCall cLen (wCons (wV 1) wNil)) (wC (.int 2))))) (wRet (wC (.bl false))) wNext)
    (wRet (wAndV (wCall cAll (wCons (wLcP (wSeqI (wV 1)) (.n 2) wYes (wAndV (wCall (cIsi (.ty "str") (fTy "str" [])) (wCons (wV 2) (wCons (wC (.ty "str")) wNil))) (wO oIn (wV 2) (wV 0))) [2]) wNil)) (wO oNe (wO oIx (wV 1) (wC (.int 0))) (wO oIx (wV 1) (wC (.int 1)))))))
theorem pure_is_pairL (W : Addr) : ∀ ds S Q E, sp_is_pairL W ds S Q E → w_is_pairL W (endsOf Q) (startD ["places", "value", "place"] ds) S := by
  rintro ds S Q E ⟨ps, d, n, m, rfl, hs, V, hm, q⟩
  have A := V.any
  refine xFn ?_
  show w_is_pairL W _ [some _, some _, none] S
  unfold w_is_pairL
  and_intros
  refine isiTupA ?_ A
  cases e : asTup d with
  | none =>
    refine isNB rfl ?_
    and_intros
    exact cl (q false ⟨fun h => (by cases h), fun ⟨x, y, h, _⟩ => by rw [h] at e; cases e⟩)
  | some xs =>
    obtain ⟨hxl, hx⟩ := A.items e
    have ed := valB_tup V e
    refine isYB rfl ?_
    and_intros
    refine asTup_len e ?_
    and_intros
    refine isND (fun h2 => ?_) fun h2 => ?_
    · have hl : xs.length = 2 := by omega
      and_intros
      refine lcM xs (fun d => d) (fun d => .bl (nmB ps d)) ?_ (by omega) (fun y hy S' e2 => ?_) ?_
      · and_intros
        subst ed
        and_intros
        exact srcX (by rw [List.map_id'])
      · (simp only [prD, putNT, wipeD, putAll, List.set_cons_zero, List.set_cons_succ, List.length_cons, List.length_nil, true_and]; and_intros)
        refine isiStrA ?_ (hx y hy)
        unfold nmB
        cases es : asStr y with
        | none =>
          refine isNB rfl ?_
          and_intros
          exact ⟨rfl, rfl⟩
        | some s =>
          have ey := asStr_of es
          have ss : sOk s := (ey ▸ hx y hy).sok
          refine isYB rfl ?_
          and_intros
          rw [ey]
          refine inTf ?_ ss hs
          exact ⟨rfl, rfl⟩
      · and_intros
        have two : ∃ u v, xs = [u, v] := by
          match xs, hl with
          | [u, v], _ => exact ⟨u, v, rfl⟩
        obtain ⟨u, v, rfl⟩ := two
        subst ed
        refine isCB (fun ha => ?_) fun ha => ?_
        · have ha' : nmB ps u = true ∧ nmB ps v = true := by simpa using ha
          obtain ⟨x, rfl, hx1⟩ := nmB_iff.mp ha'.1
          obtain ⟨y, rfl, hy1⟩ := nmB_iff.mp ha'.2
          and_intros
          refine ixTup at0 ?_
          and_intros
          refine ixTup at1 ?_
          and_intros
          refine cl (q _ ?_)
          constructor
          · intro h
            exact ⟨x, y, rfl, hx1, hy1, by simpa using h⟩
          · rintro ⟨x', y', h, _, _, hne⟩
            cases h
            simpa using hne
        · and_intros
          refine cl (q false ⟨fun h => (by cases h), fun ⟨x, y, h, g1, g2, _⟩ => ?_⟩)
          cases h
          have z : ([D.str x, D.str y].all fun z => nmB ps z) = true := by simp [nmB_iff, g1, g2]
          rw [z] at ha
          cases ha
    · and_intros
      refine cl (q false ⟨fun h => (by cases h), fun ⟨x, y, h, _⟩ => ?_⟩)
      rw [h] at e
      cases e
      exact absurd rfl h2
def sp_wrong_tieF (W : Addr) : DSp := fun ds S Q E => ∃ (ps : List Str) (xs : List D) (n m : Nat), ds = [.tf (plD ps), .tf xs] ∧ (∀ x ∈ ps, sOk x) ∧ (∀ x ∈ xs, ValB n m x) ∧ m ≤ 30001 ∧ xs.length ≤ 30001 ∧ ∀ o, FirstBad (GoodT ps xs) xs.length o → Q (opN o) S
def w_wrong_tieF (W : Addr) : WS := (wSeq (wAsg (wDnew true) (gV 2))
    (wSeq (wFor (wEnum (wCons (wV 1) wNil)) (gT 2 (gC (gV 3) (gC (gV 4) gN))) (wSeq (wIfS (wOr (wB (wO oEq (wV 3) (wC (.int 200)))) (wOr (wNot (wB (wFn (sp_is_pairL W) [] (wCons (wV 0) (wCons (wV 4) wNil))))) (wB (wO oIn (wV 4) (wV 2))))) (wRet (wV 3)) wNext)
    (wAsg (wC (.bl true)) (gSubD (wV 2) (wV 4) sSub))))
    (wRet (wC .non))))
theorem pure_wrong_tieF (W : Addr) : ∀ ds S Q E, sp_wrong_tieF W ds S Q E → w_wrong_tieF W (endsOf Q) (startD ["places", "values", "seen", "index", "value"] ds) S := by
  rintro ds S Q E ⟨ps, xs, n, m, rfl, hs, V, hm, hl, q⟩
  refine xFn ?_
  show w_wrong_tieF W _ [some _, some _, none, none, none] S
  unfold w_wrong_tieF
  and_intros
  intro p hp
  and_intros
  refine forE xs (fun d => d) (fun x : List (Str × Str) × Option D × Option D => [some (.tf (plD ps)), some (.tf xs), some (.obj p), x.2.1, x.2.2]) (fun x => S.set p (.dic true (mkD x.1))) (fun i x => xs.take i = x.1.map prD ∧ x.1.Nodup ∧ ∀ j, j < i → GoodT ps xs j) ([], none, none) ⟨by simp, List.nodup_nil, fun j hj => absurd hj (Nat.not_lt_zero _)⟩ ?_ ?_ (hx := by rw [List.map_id'])
  · rintro i z ⟨ts, c1, c2⟩ hz ⟨ht, nd, hg⟩
    have ht : xs.take i = ts.map prD := ht
    have hg : ∀ j, j < i → GoodT ps xs j := hg
    have hil := (List.getElem?_eq_some_iff.mp hz).1
    have bad : ¬ GoodT ps xs i → Q (.int (i : Nat)) S := fun h => q (some i) ⟨hil, h, hg⟩
    have out : ¬ GoodT ps xs i → Cl Q (.int (i : Nat)) (S.set p (.dic true (mkD ts))) := fun h => ⟨_, S, .dropS _ hp, bad h⟩
    and_intros
    refine isD (fun h40 => ?_) fun h40 => ?_
    · and_intros
      exact out fun h => h.1 (by omega)
    · and_intros
      refine ⟨ps, z, n, m, rfl, hs, V z (List.mem_of_getElem? hz), hm, fun b hb => ?_⟩
      refine isCB (fun h => ?_) fun h => ?_
      · obtain ⟨x, y, rfl, hx, hy, hxy⟩ := id (hb.mp h)
        have hpr := hb.mp h
        and_intros
        refine .inr ⟨true, mkD ts, by show objD (S.set p (.dic true (mkD ts)) p) = _; rw [set_same]; rfl, prD_key (x, y), ?_⟩
        rw [dgetMk2]
        refine isD (fun hin => ?_) fun hin => ?_
        · and_intros
          refine out fun ⟨_, t, h2, _, h4⟩ => h4 ?_
          rw [hz] at h2
          cases prD_inj (a := (x, y)) (Option.some.inj h2)
          rw [ht]
          exact List.mem_map_of_mem hin
        · have nin : prD (x, y) ∉ xs.take i := by
            rw [ht]
            intro h
            obtain ⟨u, hu, e⟩ := List.mem_map.mp h
            rw [prD_inj e] at hu
            exact hin hu
          have fin : Turn (fun x : List (Str × Str) × Option D × Option D => [some (D.tf (plD ps)), some (D.tf xs), some (D.obj p), x.2.1, x.2.2]) (fun x => S.set p (DO.dic true (mkD x.1))) (fun i x => xs.take i = x.1.map prD ∧ x.1.Nodup ∧ ∀ j, j < i → GoodT ps xs j) (i + 1) [some (.tf (plD ps)), some (.tf xs), some (.obj p), some (.int (i : Nat)), some (prD (x, y))] (S.set p (.dic true (mkD (ts ++ [(x, y)])))) := by
            refine .of (ts ++ [(x, y)], some (.int (i : Nat)), some (prD (x, y))) ⟨?_, ?_, fun j hj => ?_⟩
            · rw [List.take_succ, ht, hz]
              simp
              rfl
            · show (ts ++ [(x, y)]).Nodup
              rw [List.nodup_append]
              exact ⟨nd, by simp, fun a ha b hb e => hin (by rw [← List.mem_singleton.mp hb, ← e]; exact ha)⟩
            · by_cases e : j = i
              · subst e
                exact ⟨by omega, (x, y), hz, hpr, nin⟩
              · exact hg j (by omega)
          and_intros
          refine ⟨p, rfl, .inr ⟨true, mkD ts, set_same, prD_key (x, y), ?_, ?_⟩⟩
          · have lt : ts.length = i := by
              have := congrArg List.length ht
              rw [List.length_map, List.length_take] at this
              omega
            unfold mkD
            rw [List.length_map]
            omega
          · rw [set_set]
            rw [← mkD_add hin] at fin
            exact fin
      · and_intros
        refine out fun ⟨_, t, h2, h3, _⟩ => ?_
        rw [hz] at h2
        cases h2
        have := hb.mpr h3
        rw [h] at this
        cases this
  · rintro ⟨ts, c1, c2⟩ ⟨ht, nd, hg⟩
    and_intros
    exact ⟨_, S, .dropS _ hp, q none hg⟩
end
section
open PySem PySem.Spec PyProof.Rows
/-! ### the parts of a text -/
theorem flatJ_len (c : Nat) : ∀ xs : List (List Nat), (flatJ c xs).length = (xs.map List.length).sum + (xs.length - 1)
  | [] => rfl
  | [x] => by
    show x.length = _
    simp
  | x :: y :: r => by
    have ih := flatJ_len c (y :: r)
    show (x ++ c :: flatJ c (y :: r)).length = _
    rw [List.length_append, List.length_cons, ih]
    simp only [List.map_cons, List.sum_cons, List.length_cons]
    omega
theorem mem_flatJ {c d : Nat} : ∀ {xs : List (List Nat)} {x : List Nat}, x ∈ xs → d ∈ x → d ∈ flatJ c xs
  | [x], _, h, hd => by
    rw [List.mem_singleton.mp h] at hd
    exact hd
  | x :: y :: r, z, h, hd => by
    show d ∈ x ++ c :: flatJ c (y :: r)
    rcases List.mem_cons.mp h with rfl | h
    · exact List.mem_append_left _ hd
    · exact List.mem_append_right _ (List.mem_cons_of_mem _ (mem_flatJ h hd))
theorem le_sum : ∀ {l : List Nat} {n : Nat}, n ∈ l → n ≤ l.sum
  | x :: l, n, h => by
    rw [List.sum_cons]
    rcases List.mem_cons.mp h with rfl | h
    · omega
    · have := le_sum h
      omega
/-- the parts of a text at a sign: at least one, no longer than it, of its signs -/
theorem split_facts (x : Str) (c : Nat) (hc : c < 256) : Txt.split x ⟨#[c]⟩ ≠ [] ∧ (Txt.split x ⟨#[c]⟩).length ≤ x.length + 1 ∧ ∀ y ∈ Txt.split x ⟨#[c]⟩, y.length ≤ x.length ∧ (sOk x → sOk y) := by
  obtain ⟨h1, h2, h3⟩ := split_parts x c hc
  have e := join_flat ⟨#[c]⟩ c rfl (Txt.split x ⟨#[c]⟩)
  rw [h2] at e
  have el := congrArg List.length e
  rw [flatJ_len, List.map_map, List.length_map] at el
  have exl : x.cps.toList.length = x.length := rfl
  rw [exl] at el
  refine ⟨h1, by omega, fun y hy => ⟨?_, fun hx => ?_⟩⟩
  · have := le_sum (List.mem_map.mpr ⟨y, hy, rfl⟩ : (List.length ∘ fun y : Str => y.cps.toList) y ∈ (Txt.split x ⟨#[c]⟩).map (List.length ∘ fun y : Str => y.cps.toList))
    have e2 : (List.length ∘ fun y : Str => y.cps.toList) y = y.length := rfl
    omega
  · refine sOk_iff.mpr fun d hd => sOk_iff.mp hx d ?_
    rw [e]
    exact mem_flatJ (List.mem_map.mpr ⟨y, hy, rfl⟩) hd
theorem split_nl (x : Str) : Txt.split x "\n" ≠ [] ∧ (Txt.split x "\n").length ≤ x.length + 1 ∧ ∀ y ∈ Txt.split x "\n", y.length ≤ x.length ∧ (sOk x → sOk y) := by
  rw [nl_eq]
  exact split_facts x 10 (by decide)
theorem split_sp (x : Str) : Txt.split x " " ≠ [] ∧ (Txt.split x " ").length ≤ x.length + 1 ∧ ∀ y ∈ Txt.split x " ", y.length ≤ x.length ∧ (sOk x → sOk y) := by
  rw [sp_eq]
  exact split_facts x 32 (by decide)
/-! ### texts read, whatever they are -/
def linesS (s : Str) : List (List Str) := (Txt.split s "\n").map fun l => Txt.split l " "
def prL (t : Str × Str) : List Str := [t.1, t.2]
def Reads (L : List (List Str)) (ps : List Str) (ts : List (Str × Str)) : Prop := L = (("places" : Str) :: ps) :: ts.map prL ∧ WebOk ps ts
def ReadsAs (d : D) (ps : List Str) (ts : List (Str × Str)) : Prop := ∃ s, d = .str s ∧ Reads (linesS s) ps ts
theorem prL_inj {a b : Str × Str} (h : prL a = prL b) : a = b := by
  unfold prL at h
  cases a; cases b
  simpa using h
theorem Reads.one {L : List (List Str)} {ps ps' : List Str} {ts ts' : List (Str × Str)} (h : Reads L ps ts) (h' : Reads L ps' ts') : ps = ps' ∧ ts = ts' := by
  have e := h.1.symm.trans h'.1
  injection e with e1 e2
  injection e1 with _ e1
  exact ⟨e1, List.map_inj_right (fun a b e => prL_inj e) |>.mp e2⟩
structure LinesOk (L : List (List Str)) : Prop where
  ne : L ≠ []
  len : L.length ≤ 30001
  row : ∀ r ∈ L, r ≠ [] ∧ r.length ≤ 30001 ∧ ∀ w ∈ r, sOk w ∧ w.length ≤ 30000
theorem linesS_ok {s : Str} (hs : sOk s) (hl : s.length ≤ 30000) : LinesOk (linesS s) := by
  obtain ⟨h1, h2, h3⟩ := split_nl s
  refine ⟨fun e => h1 (List.map_eq_nil_iff.mp e), by unfold linesS; rw [List.length_map]; omega, fun r hr => ?_⟩
  obtain ⟨l, hl', rfl⟩ := List.mem_map.mp hr
  obtain ⟨g1, g2, g3⟩ := split_sp l
  obtain ⟨f1, f2⟩ := h3 l hl'
  exact ⟨g1, by omega, fun w hw => ⟨(g3 w hw).2 (f2 hs), by have := (g3 w hw).1; omega⟩⟩
abbrev rowS2 (r : List Str) : D := .tup (plD r)
theorem valRow {r : List Str} (hl : r.length ≤ 30001) (h : ∀ w ∈ r, sOk w ∧ w.length ≤ 30000) : ValB 1 30001 (rowS2 r) :=
  .tup _ (by rw [List.length_map]; exact hl) fun x hx => by
    obtain ⟨w, hw, rfl⟩ := List.mem_map.mp hx
    exact .str w (h w hw).1 (by have := (h w hw).2; omega)
def sp_Web_readE (W : Addr) : DSp := fun ds S Q E => ∃ (d : D) (n m : Nat), ds = [.obj W, d] ∧ ValB n m d ∧ m ≤ 30000 ∧ (∀ ps ts, ReadsAs d ps ts → Q (webD W ps ts) S) ∧ ((∀ ps ts, ¬ ReadsAs d ps ts) → E "InvalidText" [("given", d)] S)
def w_Web_readE (W : Addr) : WSX := (wSeqX (wNS (wAsg (wIf (wB (wCall (cIsi (.ty "str") (fTy "str" [])) (wCons (wV 1) (wCons (wC (.ty "str")) wNil)))) (wLcP (wSeqI (wSplit (wV 1) (wC (.str "\n")))) (.n 5) wYes (wCall cTuple (wCons (wSplit (wV 5) (wC (.str " "))) wNil)) [5]) (wLst (wCons (wTup (wCons (wC (.str "")) wNil)) wNil))) (gV 2)))
    (wSeqX (wNS (wPar 3 4 (wCons (wSlF (wO oIx (wV 2) (wC (.int 0))) (pSome (wC (.int 1))) pNone) (wCons (wCall cTupleF (wCons (wSl (wV 2) (pSome (wC (.int 1))) pNone) wNil)) wNil))))
    (wSeqX (wIfSX (wOr (wB (wO oNe (wO oIx (wO oIx (wV 2) (wC (.int 0))) (wC (.int 0))) (wC (.str "places")))) (wOr (wB (wO oEqT (wV 3) (wTup wNil))) (wB (wO oNotN (wFn (sp_wrong_placeF W) [] (wCons (wV 3) wNil)) (wC .non))))) (wRaise "InvalidText" "given" (wCons (wV 1) wNil)) (wNS wNext))
    (wSeqX (wIfSX (wB (wO oNotN (wFn (sp_wrong_tieF W) [] (wCons (wV 3) (wCons (wV 4) wNil))) (wC .non))) (wRaise "InvalidText" "given" (wCons (wV 1) wNil)) (wNS wNext))
    (wNS (wRet (wMakeV W (sp_Web_init W) [] (wV 0) (wCons (wV 3) (wCons (wV 4) wNil)))))))))
theorem pure_Web_readE (W : Addr) : ∀ ds S Q E, sp_Web_readE W ds S Q E → w_Web_readE W (endsOf Q) (fun _ => ClE E) (startD ["cls", "text", "rows", "places", "ties", "row"] ds) S := by
  rintro ds S Q E ⟨d, n, m, rfl, V, hm, q1, q2⟩
  show w_Web_readE W _ _ [some _, some _, none, none, none, none] S
  unfold w_Web_readE
  generalize hN : wSeqX (wNS (wPar 3 4 _)) _ = N
  have rest : ∀ L : List (List Str), LinesOk L → (∀ ps ts, Reads L ps ts → Q (webD W ps ts) S) → ((∀ ps ts, ¬ Reads L ps ts) → E "InvalidText" [("given", d)] S) → N (endsOf Q) (fun _ => ClE E) [some (.obj W), some d, some (.lst (L.map rowS2)), none, none, none] S := by
    intro L ok q1 q2
    subst hN
    obtain ⟨r0, L1, rfl⟩ : ∃ r0 L1, L = r0 :: L1 := by
      cases L with
      | nil => exact absurd rfl ok.ne
      | cons a b => exact ⟨a, b, rfl⟩
    obtain ⟨hr0, hr1, hr2⟩ := ok.row r0 (List.mem_cons_self ..)
    obtain ⟨w0, r1, rfl⟩ : ∃ w0 r1, r0 = w0 :: r1 := by
      cases r0 with
      | nil => exact absurd rfl hr0
      | cons a b => exact ⟨a, b, rfl⟩
    have hL := ok.len
    rw [List.length_cons] at hL hr1
    have bad : (∀ ps ts, ¬ Reads ((w0 :: r1) :: L1) ps ts) → ∃ x, [d] = [x] ∧ ClE E "InvalidText" [("given", x)] S := fun h => ⟨_, rfl, .of (q2 h)⟩
    have e0 : ((w0 :: r1) :: L1).map rowS2 = .tup (.str w0 :: plD r1) :: L1.map rowS2 := rfl
    rw [e0]
    and_intros
    refine xSlF ?_
    and_intros
    refine ixLst at0 ?_
    and_intros
    refine ⟨_, rfl, fun w => ?_, ?_⟩
    · have := (wh_lo (k := 1)).mp w
      rw [List.length_cons] at this
      omega
    rw [show cutD (D.str w0 :: plD r1) (some 1) none = plD r1 from cutLo (k := 1)]
    and_intros
    rw [show cutD (D.tup (D.str w0 :: plD r1) :: L1.map rowS2) (some 1) none = L1.map rowS2 from cutLo (k := 1)]
    and_intros
    refine ixLst at0 ?_
    and_intros
    refine ixTup at0 ?_
    and_intros
    refine isND (fun hw => ?_) fun hw => ?_
    · and_intros
      refine ⟨_, rfl, rfl, ?_⟩
      refine isCB (fun he => ?_) fun he => ?_
      · and_intros
        refine bad fun ps ts h => ?_
        have e := h.1
        injection e with e1 e2
        injection e1 with _ e1
        have := h.2.ne
        rw [← e1] at this
        cases r1 with
        | nil => exact this rfl
        | cons => cases he
      · and_intros
        refine ⟨plD r1, 0, 30000, rfl, fun x hx => ?_, Nat.le_refl _, by rw [List.length_map]; omega, fun o ho => ?_⟩
        · obtain ⟨w, hw, rfl⟩ := List.mem_map.mp hx
          have := hr2 w (List.mem_cons_of_mem _ hw)
          exact .str w this.1 this.2
        cases o with
        | some i =>
          refine noN2 ?_
          refine isYB rfl ?_
          and_intros
          refine bad fun ps ts h => ?_
          have e := h.1
          injection e with e1 e2
          injection e1 with _ e1
          subst e1
          have := (goodAll h.2.places).uniq ho
          cases this
        | none =>
          refine noN2 ?_
          refine isNB rfl ?_
          obtain ⟨ps, e, okp⟩ := strs_all ho
          have e := plD_inj e
          subst e
          have hne : r1 ≠ [] := fun e => by rw [e] at he; cases he
          have hs : ∀ p ∈ r1, sOk p := fun p hp => name_sOk (okp.2.1 p hp)
          and_intros
          refine ⟨r1, L1.map rowS2, 1, 30001, rfl, hs, fun x hx => ?_, Nat.le_refl _, by rw [List.length_map]; omega, fun o ho2 => ?_⟩
          · obtain ⟨r, hr, rfl⟩ := List.mem_map.mp hx
            have := ok.row r (List.mem_cons_of_mem _ hr)
            exact valRow this.2.1 this.2.2
          cases o with
          | some i =>
            refine noN2 ?_
            refine isYB rfl ?_
            and_intros
            refine bad fun ps ts h => ?_
            have e := h.1
            injection e with e1 e2
            injection e1 with _ e1
            subst e1
            have e3 : L1.map rowS2 = ts.map prD := by
              rw [e2, List.map_map]
              rfl
            rw [e3] at ho2
            have := (goodTs h.2.ties).uniq ho2
            cases this
          | none =>
            refine noN2 ?_
            refine isNB rfl ?_
            obtain ⟨ts, e, okt⟩ := prs_all hs ho2
            have okW : WebOk r1 ts := ⟨List.length_pos_iff.mpr hne, okp.1, okp.2.1, okp.2.2, okt.few, okt.tie, okt.nd⟩
            have eL : L1 = ts.map prL := by
              have e3 : L1.map rowS2 = (ts.map prL).map rowS2 := by
                rw [e, List.map_map]
                rfl
              exact List.map_inj_right (fun a b h => plD_inj (by unfold rowS2 at h; injection h)) |>.mp e3
            and_intros
            refine xMakeV ?_
            and_intros
            refine ⟨rfl, ?_⟩
            and_intros
            rw [e]
            exact mkWeb okW (cl (q1 r1 ts ⟨by rw [eL]; simpa using hw, okW⟩))
    · and_intros
      refine bad fun ps ts h => hw ?_
      exact (List.cons.inj (List.cons.inj h.1).1).1
  and_intros
  refine isiStrA ?_ V.any
  cases es : asStr d with
  | none =>
    refine isNB rfl ?_
    and_intros
    have no : ∀ ps ts, ¬ ReadsAs d ps ts := fun ps ts ⟨s, e, _⟩ => by
      subst e
      cases es
    exact rest [[""]] ⟨by simp, by simp, fun r hr => by
      rw [List.mem_singleton.mp hr]
      exact ⟨by simp, by simp, fun w hw => by rw [List.mem_singleton.mp hw]; exact ⟨sOk_lit "", by decide⟩⟩⟩ (fun ps ts h => by
        have e := h.1
        exact absurd (List.cons.inj (List.cons.inj e).1).1 (by decide +kernel)) fun _ => q2 no
  | some s =>
    have ed := asStr_of es
    subst ed
    refine isYB rfl ?_
    obtain ⟨hs, hl⟩ : sOk s ∧ s.length ≤ m := by
      cases V with
      | str _ h hl => exact ⟨h, hl⟩
    have ok := linesS_ok hs (by omega)
    obtain ⟨g1, g2, g3⟩ := split_nl s
    and_intros
    refine lcM (Txt.split s "\n") D.str (fun l => rowS2 (Txt.split l " ")) (by
      and_intros
      refine xSplit ?_
      and_intros
      refine ⟨⟨_, rfl⟩, ?_⟩
      and_intros
      refine ⟨_, _, rfl, rfl, by decide, by omega, ?_⟩
      refine sLst ?_
      exact srcT) (by omega) (fun l hl' S' _ => ?_) ?_
    · (simp only [prD, putNT, wipeD, putAll, List.set_cons_zero, List.set_cons_succ, List.length_cons, List.length_nil, true_and]; and_intros)
      refine xSplit ?_
      and_intros
      refine ⟨⟨_, rfl⟩, ?_⟩
      and_intros
      have := (g3 l hl').1
      refine ⟨_, _, rfl, rfl, by decide, by omega, ?_⟩
      and_intros
      exact ⟨rfl, rfl⟩
    and_intros
    have e : (Txt.split s "\n").map (fun l => rowS2 (Txt.split l " ")) = (linesS s).map rowS2 := by
      unfold linesS
      rw [List.map_map]
      rfl
    rw [e]
    exact rest _ ok (fun ps ts h => q1 ps ts ⟨s, rfl, h⟩) fun h => q2 fun ps ts ⟨s', e, h'⟩ => by
      cases e
      exact h ps ts h'
end
section
open PySem PySem.Spec PyProof.Rows
/-! ### the law's own reader -/
theorem neLL {S : SO} {Q : KD} {xs : List D} (h : Q (.bl (!xs.isEmpty)) S) : oNeL (.lst xs) (.lst []) S Q := ⟨xs, rfl, rfl, h⟩
theorem inPrT {S : SO} {Q : KD} {a b : Str} {ls : List (Str × Str)} (h : Q (.bl (decide ((a, b) ∈ ls))) S) (ha : sOk a) (hb : sOk b) (hls : ∀ t ∈ ls, sOk t.1 ∧ sOk t.2) : oIn (.tup [.str a, .str b]) (.tup (ls.map prD)) S Q := .inl ⟨_, rfl, memPr (x := (a, b)) ⟨ha, hb⟩ hls h⟩
def net5 (ps : List Str) (ts : List (Str × Str)) : D := .tup [.tup (plD ps), .tup (ts.map prD)]
def rowL2 (r : List Str) : D := .lst (plD r)
theorem rowL2_inj {a b : List Str} (h : rowL2 a = rowL2 b) : a = b := plD_inj (by unfold rowL2 at h; injection h)
instance : InjD rowL2 := ⟨fun _ _ h => rowL2_inj h⟩
def NmAt (r : List Str) (j : Nat) : Prop := ∃ s, r[j]? = some s ∧ nameOk s = true ∧ s ∉ r.take j
theorem nmAll {r : List Str} (h : ∀ j, j < r.length → NmAt r j) : (∀ p ∈ r, nameOk p = true) ∧ r.Nodup := by
  refine ⟨fun p hp => ?_, ?_⟩
  · obtain ⟨j, hj⟩ := List.mem_iff_getElem?.mp hp
    obtain ⟨s, h1, h2, _⟩ := h j (List.getElem?_eq_some_iff.mp hj).1
    rw [hj] at h1
    rw [Option.some.inj h1]
    exact h2
  · refine List.pairwise_iff_getElem.mpr fun i j hi hj hij e => ?_
    obtain ⟨s, h1, _, h2⟩ := h j hj
    rw [List.getElem?_eq_getElem hj] at h1
    rw [← Option.some.inj h1, ← e] at h2
    exact h2 (List.mem_take_iff_getElem.mpr ⟨i, by omega, rfl⟩)
theorem ok_nmAt {ps : List Str} (hn : ∀ p ∈ ps, nameOk p = true) (nd : ps.Nodup) {j : Nat} (hj : j < ps.length) : NmAt ps j :=
  ⟨ps[j], List.getElem?_eq_getElem hj, hn _ (List.getElem_mem hj), nodup_take nd (List.getElem?_eq_getElem hj)⟩
def sp_k05_net_in (W : Addr) : DSp := fun ds S Q E => ∃ (d : D) (n m : Nat), ds = [d] ∧ ValB n m d ∧ m ≤ 30000 ∧ (∀ ps ts, ReadsAs d ps ts → Q (net5 ps ts) S) ∧ ((∀ ps ts, ¬ ReadsAs d ps ts) → Q .non S)
def w_k05_net_in (W : Addr) : WS := (wSeq (wIfS (wNot (wB (wCall (cIsi (.ty "str") (fTy "str" [])) (wCons (wV 0) (wCons (wC (.ty "str")) wNil))))) (wRet (wC .non)) wNext)
    (wSeq (wAsg (wLcP (wSeqI (wSplit (wV 0) (wC (.str "\n")))) (.n 5) wYes (wSplit (wV 5) (wC (.str " "))) [5]) (gV 1))
    (wSeq (wAsg (wCall cTuple (wCons (wSl (wO oIx (wV 1) (wC (.int 0))) (pSome (wC (.int 1))) pNone) wNil)) (gV 2))
    (wSeq (wIfS (wOr (wB (wO oNe (wO oIx (wO oIx (wV 1) (wC (.int 0))) (wC (.int 0))) (wC (.str "places")))) (wOr (wNot (wB (wCh oLe oLe (wC (.int 1)) (wCall cLen (wCons (wV 2) wNil)) (wC (.int 40))))) (wB (wO oGt (wCall cLen (wCons (wV 1) wNil)) (wC (.int 201)))))) (wRet (wC .non)) wNext)
    (wSeq (wFor (wRng1 (wCons (wCall cLen (wCons (wV 2) wNil)) wNil)) (gV 3) (wSeq (wIfS (wOr (wNot (wB (wCh oLe oLe (wC (.int 1)) (wCall cLen (wCons (wO oIx (wV 2) (wV 3)) wNil)) (wC (.int 8))))) (wB (wO oIn (wO oIx (wV 2) (wV 3)) (wSl (wV 2) pNone (pSome (wV 3)))))) (wRet (wC .non)) wNext)
    (wIfS (wB (wO oNeL (wLcP (wStrI (wO oIx (wV 2) (wV 3))) (.n 6) (wB (wO oNotIn (wV 6) (wC (.str "abcdefghijklmnopqrstuvwxyz")))) (wV 6) [6]) (wLst wNil))) (wRet (wC .non)) wNext)))
    (wSeq (wAsg (wCall cTuple (wCons (wLcP (wSeqI (wSl (wV 1) (pSome (wC (.int 1))) pNone)) (.n 7) wYes (wCall cTuple (wCons (wV 7) wNil)) [7]) wNil)) (gV 4))
    (wSeq (wFor (wRng1 (wCons (wCall cLen (wCons (wV 4) wNil)) wNil)) (gV 3) (wSeq (wIfS (wOr (wB (wO oNe (wCall cLen (wCons (wO oIx (wV 4) (wV 3)) wNil)) (wC (.int 2)))) (wOr (wB (wO oEq (wO oIx (wO oIx (wV 4) (wV 3)) (wC (.int 0))) (wO oIx (wO oIx (wV 4) (wV 3)) (wC (.int 1))))) (wB (wO oIn (wO oIx (wV 4) (wV 3)) (wSl (wV 4) pNone (pSome (wV 3))))))) (wRet (wC .non)) wNext)
    (wIfS (wNot (wB (wCall cAll (wCons (wLcP (wSeqI (wO oIx (wV 4) (wV 3))) (.n 8) wYes (wO oIn (wV 8) (wV 2)) [8]) wNil)))) (wRet (wC .non)) wNext)))
    (wRet (wTup (wCons (wV 2) (wCons (wV 4) wNil)))))))))))
theorem pure_k05_net_in (W : Addr) : ∀ ds S Q E, sp_k05_net_in W ds S Q E → w_k05_net_in W (endsOf Q) (startD ["_law_thing", "_law_lines_here", "_law_folk_here", "_law_k", "_law_pairs", "_law_line", "_law_sign", "_law_words", "_law_each"] ds) S := by
  rintro ds S Q E ⟨d, n, m, rfl, V, hm, q1, q2⟩
  refine xFn ?_
  show w_k05_net_in W _ [some _, none, none, none, none, none, none, none, none] S
  unfold w_k05_net_in
  and_intros
  refine isiStrA ?_ V.any
  cases es : asStr d with
  | none =>
    refine isNB rfl ?_
    and_intros
    exact cl (q2 fun ps ts ⟨s, e, _⟩ => by subst e; cases es)
  | some s =>
  have ed := asStr_of es
  subst ed
  refine isYB rfl ?_
  obtain ⟨hs, hl⟩ : sOk s ∧ s.length ≤ m := by
    cases V with
    | str _ h hl => exact ⟨h, hl⟩
  have ok := linesS_ok hs (by omega)
  obtain ⟨g1, g2, g3⟩ := split_nl s
  and_intros
  refine lcM (Txt.split s "\n") D.str (fun l => rowL2 (Txt.split l " ")) (by
    and_intros
    refine xSplit ?_
    and_intros
    refine ⟨⟨_, rfl⟩, ?_⟩
    and_intros
    refine ⟨_, _, rfl, rfl, by decide, by omega, ?_⟩
    refine sLst ?_
    exact srcT) (by omega) (fun l hl' S' _ => ?_) ?_
  · (simp only [prD, putNT, wipeD, putAll, List.set_cons_zero, List.set_cons_succ, List.length_cons, List.length_nil, true_and]; and_intros)
    refine xSplit ?_
    and_intros
    refine ⟨⟨_, rfl⟩, ?_⟩
    and_intros
    have := (g3 l hl').1
    refine ⟨_, _, rfl, rfl, by decide, by omega, ?_⟩
    exact ⟨rfl, rfl⟩
  have e : (Txt.split s "\n").map (fun l => rowL2 (Txt.split l " ")) = (linesS s).map rowL2 := by
    unfold linesS
    rw [List.map_map]
    rfl
  rw [e]
  have q1 : ∀ ps ts, Reads (linesS s) ps ts → Q (net5 ps ts) S := fun ps ts h => q1 ps ts ⟨s, rfl, h⟩
  have q2 : (∀ ps ts, ¬ Reads (linesS s) ps ts) → Cl Q .non S := fun h => cl (q2 fun ps ts ⟨s', e, h'⟩ => by
    cases e
    exact h ps ts h')
  generalize linesS s = L at ok q1 q2
  obtain ⟨r0, L1, rfl⟩ : ∃ r0 L1, L = r0 :: L1 := by
    cases L with
    | nil => exact absurd rfl ok.ne
    | cons a b => exact ⟨a, b, rfl⟩
  obtain ⟨hr0, hr1, hr2⟩ := ok.row r0 (List.mem_cons_self ..)
  obtain ⟨w0, r1, rfl⟩ : ∃ w0 r1, r0 = w0 :: r1 := by
    cases r0 with
    | nil => exact absurd rfl hr0
    | cons a b => exact ⟨a, b, rfl⟩
  have hL := ok.len
  rw [List.length_cons] at hL hr1
  have e0 : ((w0 :: r1) :: L1).map rowL2 = .lst (.str w0 :: plD r1) :: L1.map rowL2 := rfl
  rw [e0]
  have rd : ∀ {ps ts}, Reads ((w0 :: r1) :: L1) ps ts → w0 = "places" ∧ r1 = ps ∧ L1 = ts.map prL := fun h => by
    have e := h.1
    injection e with e1 e2
    injection e1 with e3 e1
    exact ⟨e3, e1, e2⟩
  and_intros
  refine ixLst at0 ?_
  and_intros
  rw [show cutD (D.str w0 :: plD r1) (some 1) none = plD r1 from cutLo (k := 1)]
  and_intros
  refine ixLst at0 ?_
  and_intros
  refine ixLst at0 ?_
  and_intros
  have lr1 : (plD r1).length = r1.length := List.length_map ..
  have lL1 : (L1.map rowL2).length = L1.length := List.length_map ..
  refine isND (fun hw => ?_) fun hw => ?_
  rotate_left
  · and_intros
    exact q2 fun ps ts h => hw (rd h).1
  and_intros
  refine isD (fun h1 => ?_) fun h1 => ?_
  rotate_left
  · and_intros
    refine q2 fun ps ts h => h1 ?_
    have := h.2.pos
    rw [(rd h).2.1]
    omega
  and_intros
  refine isD (fun h40 => ?_) fun h40 => ?_
  rotate_left
  · and_intros
    refine q2 fun ps ts h => h40 ?_
    have := h.2.few
    rw [(rd h).2.1]
    omega
  and_intros
  refine isD (fun h2 => ?_) fun h2 => ?_
  · and_intros
    refine q2 fun ps ts h => ?_
    have := h.2.tfew
    have e := congrArg List.length (rd h).2.2
    rw [List.length_map] at e
    rw [List.length_cons, lL1] at h2
    omega
  rw [List.length_cons, lL1] at h2
  and_intros
  refine rng1N (by omega) ?_
  refine forR (fun x : Option D => [some (.str s), some (.lst (.lst (.str w0 :: plD r1) :: L1.map rowL2)), some (.tup (plD r1)), x, none, none, none, none, none]) (fun _ => S) (fun i _ => ∀ j, j < i → NmAt r1 j) none (fun j hj => absurd hj (Nat.not_lt_zero _)) ?_ ?_
  · rintro i c3 hi hg
    have gz := List.getElem?_eq_getElem hi
    generalize r1[i] = z at gz
    have zm := List.mem_of_getElem? gz
    obtain ⟨zs, zl⟩ := hr2 z (List.mem_cons_of_mem _ zm)
    have bad : ¬ NmAt r1 i → Cl Q .non S := fun h => q2 fun ps ts hr => h (by
      have e := (rd hr).2.1
      subst e
      exact ok_nmAt hr.2.nm hr.2.nd hi)
    have bad1 : ¬ nameOk z = true → Cl Q .non S := fun h => bad fun ⟨z', h1, h2, _⟩ => h (by
      rw [gz] at h1
      rw [Option.some.inj h1]
      exact h2)
    and_intros
    refine ixTup (atM (l := r1) (f := D.str) gz) ?_
    and_intros
    refine ⟨(show z.length ≤ 1000000 by omega), ?_⟩
    and_intros
    refine isD (fun z1 => ?_) fun z1 => ?_
    rotate_left
    · and_intros
      exact bad1 fun h => z1 (by have := (name_chars h).1; omega)
    and_intros
    refine isD (fun z8 => ?_) fun z8 => ?_
    rotate_left
    · and_intros
      exact bad1 fun h => z8 (by have := (name_chars h).2.1; omega)
    and_intros
    refine ixTup (atM (l := r1) (f := D.str) gz) ?_
    and_intros
    rw [cutHi, ← List.map_take]
    refine inTup ?_ zs (fun y hy => (hr2 y (List.mem_cons_of_mem _ (List.mem_of_mem_take hy))).1)
    refine isD (fun hin => ?_) fun hin => ?_
    · and_intros
      refine bad fun ⟨z', h1, _, h3⟩ => h3 ?_
      rw [gz] at h1
      rw [← Option.some.inj h1]
      exact hin
    and_intros
    refine lcF z.cps.toList (fun c => D.str ⟨#[c]⟩) (fun c => !decide (c ∈ LETTERS.cps.toList)) (fun c => D.str ⟨#[c]⟩) ?_ ?_ (fun c hc S' e => ?_) ?_
    · unfold wStrI
      and_intros
      refine ixTup (atM (l := r1) (f := D.str) gz) ?_
      exact ⟨rfl, fun _ _ => trivial, rfl⟩
    · rw [Array.length_toList]
      show z.length ≤ _
      omega
    · (simp only [prD, putNT, wipeD, putAll, List.set_cons_zero, List.set_cons_succ, List.length_cons, List.length_nil, true_and]; and_intros)
      rw [← strIn_one]
      refine in_str ?_
      refine lcKI fun h => ?_
      and_intros
      exact ⟨rfl, rfl⟩
    · and_intros
      refine neLL ?_
      have key : nameOk z = ((z.cps.toList.filter fun c => !decide (c ∈ LETTERS.cps.toList)).map fun c => D.str ⟨#[c]⟩).isEmpty := by
        have ha : nameOk z = z.cps.toList.all fun c => decide (c ∈ LETTERS.cps.toList) := by
          unfold nameOk
          rw [decide_eq_true (show 0 < z.length by omega), decide_eq_true (show z.length < 9 by omega)]
          rfl
        rw [ha]
        generalize z.cps.toList = l
        induction l with
        | nil => rfl
        | cons c l ih =>
          by_cases hc : c ∈ LETTERS.cps.toList
          · rw [List.all_cons, List.filter_cons, decide_eq_true hc]
            simpa using ih
          · rw [List.all_cons, List.filter_cons, decide_eq_false hc]
            simp
      rw [← key]
      cases hz : nameOk z with
      | false =>
        refine isYB rfl ?_
        and_intros
        exact bad1 fun h => by rw [hz] at h; cases h
      | true =>
        refine isNB rfl ?_
        and_intros
        refine .of (some (.int (i : Nat))) fun j hj => ?_
        by_cases e : j = i
        · subst e
          exact ⟨z, gz, hz, hin⟩
        · exact hg j (by omega)
  · rintro c3 hg
    obtain ⟨hn, nd⟩ := nmAll hg
    have hso : ∀ p ∈ r1, sOk p := fun p hp => name_sOk (hn p hp)
    and_intros
    refine lcM L1 rowL2 rowS2 ?_ (by omega) (fun r hr S' e => ?_) ?_
    · and_intros
      rw [show cutD (D.lst (D.str w0 :: plD r1) :: L1.map rowL2) (some 1) none = L1.map rowL2 from cutLo (k := 1)]
      exact srcT
    · (simp only [prD, putNT, wipeD, putAll, List.set_cons_zero, List.set_cons_succ, List.length_cons, List.length_nil, true_and]; and_intros)
      unfold rowL2
      and_intros
      exact ⟨rfl, rfl⟩
    and_intros
    refine rng1N (by omega) ?_
    refine forR (fun x : Option D => [some (.str s), some (.lst (.lst (.str w0 :: plD r1) :: L1.map rowL2)), some (.tup (plD r1)), x, some (.tup (L1.map rowS2)), none, none, none, none]) (fun _ => S) (fun i _ => ∃ ts : List (Str × Str), L1.take i = ts.map prL ∧ ts.Nodup ∧ ∀ t ∈ ts, t.1 ∈ r1 ∧ t.2 ∈ r1 ∧ t.1 ≠ t.2) c3 ⟨[], by simp, List.nodup_nil, by simp⟩ ?_ ?_
    · rintro i c3 hi ⟨ts, ht, tnd, tok⟩
      have gz := List.getElem?_eq_getElem hi
      generalize L1[i] = z at gz
      have zm := List.mem_of_getElem? gz
      obtain ⟨_, zl, zw⟩ := ok.row z (List.mem_cons_of_mem _ zm)
      have lz : (plD z).length = z.length := List.length_map ..
      have bad : ¬ (∃ t : Str × Str, z = prL t ∧ t.1 ∈ r1 ∧ t.2 ∈ r1 ∧ t.1 ≠ t.2 ∧ t ∉ ts) → Cl Q .non S := fun h => q2 fun ps us hr => h (by
        obtain ⟨_, e1, e2⟩ := rd hr
        rw [e2, List.getElem?_map] at gz
        obtain ⟨t, ht', et⟩ := Option.map_eq_some_iff.mp gz
        have tm := List.mem_of_getElem? ht'
        obtain ⟨a1, a2, a3⟩ := hr.2.tie t tm
        refine ⟨t, et.symm, e1 ▸ a1, e1 ▸ a2, a3, fun hin => nodup_take hr.2.tnd ht' ?_⟩
        rw [e2, ← List.map_take] at ht
        rw [List.map_inj_right (fun a b h => prL_inj h) |>.mp ht]
        exact hin)
      and_intros
      refine ixTup (atM (l := L1) (f := rowS2) gz) ?_
      and_intros
      refine isND (fun h2 => ?_) fun h2 => ?_
      rotate_left
      · and_intros
        refine bad fun ⟨t, e, _⟩ => h2 ?_
        rw [e]
        rfl
      obtain ⟨x, y, rfl⟩ : ∃ x y, z = [x, y] := by
        match z, (show z.length = 2 by omega) with
        | [x, y], _ => exact ⟨x, y, rfl⟩
      obtain ⟨xs, _⟩ := zw x (by simp)
      obtain ⟨ys, _⟩ := zw y (by simp)
      and_intros
      refine ixTup (atM (l := L1) (f := rowS2) gz) ?_
      and_intros
      refine ixTup at0 ?_
      and_intros
      refine ixTup (atM (l := L1) (f := rowS2) gz) ?_
      and_intros
      refine ixTup at1 ?_
      and_intros
      refine isD (fun hxy => ?_) fun hxy => ?_
      · and_intros
        refine bad fun ⟨t, e, _, _, h, _⟩ => h ?_
        cases t
        cases e
        exact hxy
      and_intros
      refine ixTup (atM (l := L1) (f := rowS2) gz) ?_
      and_intros
      rw [cutHi, ← List.map_take, ht, List.map_map]
      refine inPrT (ls := ts) ?_ xs ys fun t ht => ⟨hso _ (tok t ht).1, hso _ (tok t ht).2.1⟩
      refine isD (fun hin => ?_) fun hin => ?_
      · and_intros
        refine bad fun ⟨t, e, _, _, _, h⟩ => h ?_
        cases t
        cases e
        exact hin
      and_intros
      refine lcM [x, y] D.str (fun u => .bl (decide (u ∈ r1))) ?_ (by simp) (fun u hu S' e => ?_) ?_
      · and_intros
        refine ixTup (atM (l := L1) (f := rowS2) gz) ?_
        and_intros
        exact srcT
      · (simp only [prD, putNT, wipeD, putAll, List.set_cons_zero, List.set_cons_succ, List.length_cons, List.length_nil, true_and]; and_intros)
        refine inTup ?_ (zw u hu).1 hso
        exact ⟨rfl, rfl⟩
      and_intros
      refine isCB (fun h => ?_) fun h => ?_
      · have h : x ∈ r1 ∧ y ∈ r1 := by simpa using h
        and_intros
        refine .of (some (.int (i : Nat))) ⟨ts ++ [(x, y)], ?_, ?_, fun t ht => ?_⟩
        · rw [List.take_succ, ht, gz]
          simp [prL]
        · rw [List.nodup_append]
          exact ⟨tnd, by simp, fun a ha b hb e => hin (by rw [← List.mem_singleton.mp hb, ← e]; exact ha)⟩
        · rcases List.mem_append.mp ht with ht | ht
          · exact tok t ht
          · rw [List.mem_singleton.mp ht]
            exact ⟨h.1, h.2, hxy⟩
      · and_intros
        refine bad fun ⟨⟨t1, t2⟩, e, k1, k2, _⟩ => ?_
        cases e
        have z : ([t1, t2].all fun u => decide (u ∈ r1)) = true := by simpa using ⟨k1, k2⟩
        rw [z] at h
        cases h
    · rintro c3 ⟨ts, ht, tnd, tok⟩
      rw [List.take_length] at ht
      and_intros
      have okW : WebOk r1 ts := ⟨by omega, by omega, hn, nd, by have := congrArg List.length ht; rw [List.length_map] at this; omega, tok, tnd⟩
      have z := q1 r1 ts ⟨by rw [ht]; simpa using hw, okW⟩
      unfold net5 at z
      rw [ht, List.map_map]
      exact cl z
end
section
open PySem PySem.Spec PyProof.Rows
/-! ### texts of plain signs -/
def Asc (x : Str) : Prop := ∀ c ∈ x.cps.toList, c < 128
theorem Asc.sok {x : Str} (h : Asc x) : sOk x := sOk_iff.mpr fun c hc => by have := h c hc; omega
theorem asc_app {a b : Str} (ha : Asc a) (hb : Asc b) : Asc (a ++ b) := by
  intro c hc
  rw [Str.cps_append, Array.toList_append] at hc
  rcases List.mem_append.mp hc with h | h
  · exact ha c h
  · exact hb c h
theorem asc_cut {a : Str} (ha : Asc a) (lo hi : Option Int) : Asc (cutS a lo hi) := by
  intro c hc
  unfold cutS at hc
  exact ha c (List.mem_of_mem_drop (List.mem_of_mem_take (by simpa using hc)))
theorem asc_lit {x : Str} (h : (x.cps.toList.all fun c => decide (c < 128)) = true) : Asc x := fun c hc => of_decide_eq_true (List.all_eq_true.mp h c hc)
theorem asc_name {x : Str} (h : nameOk x = true) : Asc x := fun c hc => (by decide +kernel : ∀ c ∈ LETTERS.cps.toList, c < 128) c ((name_chars h).2.2 c hc)
theorem asc_upper {x : Str} (h : Asc x) : Asc (Txt.upper x) ∧ (Txt.upper x).length = x.length := by
  rw [PyProof.Rows.upper_ascii h]
  refine ⟨fun c hc => ?_, by show (x.cps.map PyProof.Rows.up1).size = _; rw [Array.size_map]; rfl⟩
  have hc : c ∈ (x.cps.map PyProof.Rows.up1).toList := hc
  rw [Array.toList_map] at hc
  obtain ⟨d, hd, rfl⟩ := List.mem_map.mp hc
  have := h d hd
  unfold PyProof.Rows.up1
  split <;> omega
theorem split_asc (x : Str) (c : Nat) (hc : c < 256) (hx : Asc x) : ∀ y ∈ Txt.split x ⟨#[c]⟩, Asc y := fun y hy d hd => by
  obtain ⟨h1, h2, h3⟩ := split_parts x c hc
  have e := join_flat ⟨#[c]⟩ c rfl (Txt.split x ⟨#[c]⟩)
  rw [h2] at e
  refine hx d ?_
  rw [e]
  exact mem_flatJ (List.mem_map.mpr ⟨y, hy, rfl⟩) hd
theorem split_nlA {x : Str} (hx : Asc x) : Txt.split x "\n" ≠ [] ∧ (Txt.split x "\n").length ≤ x.length + 1 ∧ ∀ y ∈ Txt.split x "\n", y.length ≤ x.length ∧ Asc y := by
  obtain ⟨h1, h2, h3⟩ := split_nl x
  refine ⟨h1, h2, fun y hy => ⟨(h3 y hy).1, ?_⟩⟩
  rw [nl_eq] at hy
  exact split_asc x 10 (by decide) hx y hy
theorem split_spA {x : Str} (hx : Asc x) : Txt.split x " " ≠ [] ∧ (Txt.split x " ").length ≤ x.length + 1 ∧ ∀ y ∈ Txt.split x " ", y.length ≤ x.length ∧ Asc y := by
  obtain ⟨h1, h2, h3⟩ := split_sp x
  refine ⟨h1, h2, fun y hy => ⟨(h3 y hy).1, ?_⟩⟩
  rw [sp_eq] at hy
  exact split_asc x 32 (by decide) hx y hy
/-! ### lists of texts and the room they take -/
def szL (ls : List Str) : Nat := (ls.map fun x => x.length).sum + ls.length
theorem szL_app (a b : List Str) : szL (a ++ b) = szL a + szL b := by
  unfold szL
  rw [List.map_append, List.sum_append, List.length_append]
  omega
theorem szL_one (x : Str) : szL [x] = x.length + 1 := by simp [szL]
theorem szL_cut (ls : List Str) (k : Nat) : szL (ls.take k) + szL (ls.drop k) = szL ls := by rw [← szL_app, List.take_append_drop]
theorem szL_drop (ls : List Str) (k : Nat) : szL (ls.drop (k + 1)) ≤ szL (ls.drop k) := by
  have h := szL_cut (ls.drop k) 1
  rw [List.drop_drop] at h
  omega
theorem szL_mem {ls : List Str} {x : Str} (h : x ∈ ls) : x.length + 1 ≤ szL ls := by
  induction ls with
  | nil => cases h
  | cons y ls ih =>
    rw [show y :: ls = [y] ++ ls from rfl, szL_app, szL_one]
    rcases List.mem_cons.mp h with rfl | h
    · omega
    · have := ih h
      omega
theorem szL_rev (ls : List Str) : szL ls.reverse = szL ls := by
  induction ls with
  | nil => rfl
  | cons y ls ih => rw [List.reverse_cons, szL_app, ih, show y :: ls = [y] ++ ls from rfl, szL_app]; omega
theorem szL_set (ls : List Str) (k : Nat) (x : Str) {y : Str} (h : ls[k]? = some y) : szL (ls.set k x) + y.length = szL ls + x.length := by
  induction ls generalizing k with
  | nil => cases h
  | cons z ls ih =>
    cases k with
    | zero =>
      cases h
      rw [List.set_cons_zero, show x :: ls = [x] ++ ls from rfl, show y :: ls = [y] ++ ls from rfl, szL_app, szL_app, szL_one, szL_one]
      omega
    | succ k =>
      have := ih k h
      rw [List.set_cons_succ, show z :: ls.set k x = [z] ++ ls.set k x from rfl, show z :: ls = [z] ++ ls from rfl, szL_app, szL_app]
      omega
theorem joinC_len (c : Nat) (ls : List Str) : (Txt.join ⟨#[c]⟩ ls).length ≤ szL ls := by
  have e := congrArg List.length (join_flat ⟨#[c]⟩ c rfl ls)
  rw [flatJ_len, List.map_map, List.length_map] at e
  have e1 : (Txt.join ⟨#[c]⟩ ls).cps.toList.length = (Txt.join ⟨#[c]⟩ ls).length := rfl
  have e2 : (ls.map (List.length ∘ fun y : Str => y.cps.toList)).sum = (ls.map fun x => x.length).sum := rfl
  unfold szL
  omega
theorem joinC_asc {c : Nat} (hc : c < 128) {ls : List Str} (h : ∀ x ∈ ls, Asc x) : Asc (Txt.join ⟨#[c]⟩ ls) := by
  intro d hd
  rw [join_flat ⟨#[c]⟩ c rfl ls] at hd
  rcases flatJ_mem hd with rfl | ⟨x, hx, hd⟩
  · exact hc
  · obtain ⟨y, hy, rfl⟩ := List.mem_map.mp hx
    exact h y hy d hd
theorem szL_split (s : Str) (c : Nat) (hc : c < 256) : szL (Txt.split s ⟨#[c]⟩) = s.length + 1 := by
  obtain ⟨h1, h2, h3⟩ := split_parts s c hc
  have e := congrArg List.length (join_flat ⟨#[c]⟩ c rfl (Txt.split s ⟨#[c]⟩))
  rw [h2, flatJ_len, List.map_map, List.length_map] at e
  have e1 : s.cps.toList.length = s.length := rfl
  have e2 : ((Txt.split s ⟨#[c]⟩).map (List.length ∘ fun y : Str => y.cps.toList)).sum = ((Txt.split s ⟨#[c]⟩).map fun x => x.length).sum := rfl
  have := List.length_pos_iff.mpr h1
  unfold szL
  omega
theorem szL_nl (s : Str) : szL (Txt.split s "\n") = s.length + 1 := by rw [nl_eq]; exact szL_split s 10 (by decide)
theorem szL_sp (s : Str) : szL (Txt.split s " ") = s.length + 1 := by rw [sp_eq]; exact szL_split s 32 (by decide)
theorem nl_join {ls : List Str} (h : ∀ x ∈ ls, Asc x) : (Txt.join "\n" ls).length ≤ szL ls ∧ Asc (Txt.join "\n" ls) := by
  rw [nl_eq]
  exact ⟨joinC_len 10 ls, joinC_asc (by decide) h⟩
theorem sp_join {ls : List Str} (h : ∀ x ∈ ls, Asc x) : (Txt.join " " ls).length ≤ szL ls ∧ Asc (Txt.join " " ls) := by
  rw [sp_eq]
  exact ⟨joinC_len 32 ls, joinC_asc (by decide) h⟩
/-- texts joined: a text of about the room that they take -/
theorem joinNl {ys : List Str} {d : D} {S : SO} {Q : KD} (e : seqX S d = some (ys.map D.str)) (hl : szL ys ≤ 1000000) (hs : ∀ x ∈ ys, Asc x) (q : ∀ z, Asc z → z.length ≤ szL ys → Q (.str z) S) :
    ∃ (z : Str) (ys : List Str), D.str "\n" = .str z ∧ seqX S d = some (ys.map D.str) ∧ (ys.map (·.length)).sum + ys.length * z.length ≤ 16777216 ∧ Q (.str (Txt.join z ys)) S := ⟨"\n", ys, rfl, e, by
  have e : ("\n" : Str).length = 1 := by decide
  rw [e]
  unfold szL at hl
  omega, q _ (nl_join hs).2 (nl_join hs).1⟩
end
section
open PySem PySem.Spec PyProof.Rows
/-! ### k05: a text bent -/
theorem str_app_len (a b : Str) : (a ++ b).length = a.length + b.length := by
  show (a.cps ++ b.cps).size = a.cps.size + b.cps.size
  exact Array.size_append
theorem oLst {S : SO} {Q : KD} {xs ys : List D} (hl : xs.length + ys.length ≤ 1000000) (h : Q (.lst (xs ++ ys)) S) : oAdd (.lst xs) (.lst ys) S Q := ⟨hl, h⟩
def sp_k05_bent (W : Addr) : DSp := fun ds S Q E => ∃ (p : Addr) (a b c : Int) (s : Str), ds = [.obj p, .str s] ∧ S p = some (pan3 a b c) ∧ Asc s ∧ s.length ≤ 14000 ∧ ∀ (z : Str) (a' b' c' : Int), Asc z → z.length ≤ 2 * s.length + 20 → Q (.str z) (S.set p (pan3 a' b' c'))
def w_k05_bent (W : Addr) : WS := (wSeq (wPar 2 3 (wCons (wFn (sp_cup_sip W) [] (wCons (wV 0) (wCons (wC (.int 11)) wNil))) (wCons (wFn (sp_cup_sip W) [] (wCons (wV 0) (wCons (wO oAdd (wCall cLen (wCons (wV 1) wNil)) (wC (.int 1))) wNil))) wNil)))
    (wSeq (wAsg (wFn (sp_cup_of W) [] (wCons (wV 0) (wCons (wLst (wCons (wC (.str "a")) (wCons (wC (.str "b")) (wCons (wC (.str "z")) (wCons (wC (.str " ")) (wCons (wC (.str "\n")) (wCons (wC (.str "A")) (wCons (wC (.str "0")) wNil)))))))) wNil))) (gV 4))
    (wSeq (wIfS (wB (wO oLt (wV 2) (wC (.int 3)))) (wRet (wO oAdd (wO oAdd (wSl (wV 1) pNone (pSome (wV 3))) (wO oIx (wLst (wCons (wC (.str "")) (wCons (wV 4) (wCons (wV 4) wNil)))) (wV 2))) (wSl (wV 1) (pSome (wO oAdd (wV 3) (wO oIx (wLst (wCons (wC (.int 1)) (wCons (wC (.int 0)) (wCons (wC (.int 1)) wNil)))) (wV 2)))) pNone))) wNext)
    (wSeq (wAsg (wSplitO (wV 1) (wC (.str "\n"))) (gV 5))
    (wSeq (wPar 6 7 (wCons (wFn (sp_cup_sip W) [] (wCons (wV 0) (wCons (wCall cLen (wCons (wV 5) wNil)) wNil))) (wCons (wFn (sp_cup_sip W) [] (wCons (wV 0) (wCons (wCall cLen (wCons (wV 5) wNil)) wNil))) wNil)))
    (wSeq (wIfS (wB (wO oEq (wV 2) (wC (.int 3)))) (wRet (wJoin (wC (.str "\n")) (wO oAdd (wO oAdd (wSl (wV 5) pNone (pSome (wV 6))) (wLst (wCons (wO oIx (wV 5) (wV 7)) wNil))) (wSl (wV 5) (pSome (wV 6)) pNone)))) wNext)
    (wSeq (wIfS (wB (wO oEq (wV 2) (wC (.int 4)))) (wRet (wJoin (wC (.str "\n")) (wO oAdd (wSl (wV 5) pNone (pSome (wV 6))) (wSl (wV 5) (pSome (wO oAdd (wV 6) (wC (.int 1)))) pNone)))) wNext)
    (wSeq (wIfS (wB (wO oEq (wV 2) (wC (.int 5)))) (wRet (wO oAdd (wV 1) (wFn (sp_cup_of W) [] (wCons (wV 0) (wCons (wLst (wCons (wC (.str "\n")) (wCons (wC (.str " ")) (wCons (wC (.str "\na b")) (wCons (wC (.str "\n\n")) wNil))))) wNil))))) wNext)
    (wSeq (wAsg (wSplit (wO oIx (wV 5) (wV 6)) (wC (.str " "))) (gV 8))
    (wSeq (wPar 9 10 (wCons (wFn (sp_cup_sip W) [] (wCons (wV 0) (wCons (wCall cLen (wCons (wV 8) wNil)) wNil))) (wCons (wFn (sp_cup_sip W) [] (wCons (wV 0) (wCons (wCall cLen (wCons (wV 8) wNil)) wNil))) wNil)))
    (wSeq (wAsg (wNew (wCons (wO oAdd (wSl (wV 8) pNone (pSome (wV 9))) (wSl (wV 8) (pSome (wO oAdd (wV 9) (wC (.int 1)))) pNone)) (wCons (wO oAdd (wO oAdd (wSl (wV 8) pNone (pSome (wV 9))) (wLst (wCons (wO oIx (wV 8) (wV 10)) wNil))) (wSl (wV 8) (pSome (wV 9)) pNone)) (wCons (wRevL (wV 8)) wNil)))) (gV 11))
    (wSeq (wDrop (wBM "list" mAppend (wV 11) (wCons (wO oAdd (wO oAdd (wSl (wV 8) pNone (pSome (wV 9))) (wLst (wCons (wFn (sp_cup_of W) [] (wCons (wV 0) (wCons (wO oAdd (wV 8) (wLst (wCons (wC (.str "a")) (wCons (wC (.str "b")) (wCons (wC (.str "places")) (wCons (wC (.str "abcdefghi")) (wCons (wC (.str "")) wNil))))))) wNil))) wNil))) (wSl (wV 8) (pSome (wO oAdd (wV 9) (wC (.int 1)))) pNone)) wNil)))
    (wSeq (wAsg (wJoin (wC (.str " ")) (wO oIx (wV 11) (wO oMod (wV 2) (wC (.int 4))))) (gSubD (wV 5) (wV 6) sSub))
    (wRet (wJoin (wC (.str "\n")) (wV 5))))))))))))))))
theorem pure_k05_bent (W : Addr) : ∀ ds S Q E, sp_k05_bent W ds S Q E → w_k05_bent W (endsOf Q) (startD ["_law_cup_here", "_law_page_here", "_law_way_here", "_law_at", "_law_sign", "_law_lines_here", "_law_spot", "_law_to", "_law_words", "_law_here", "_law_there", "_law_found"] ds) S := by
  rintro ds S Q E ⟨p, a, b, c, s, rfl, hp, hs, hl, q⟩
  refine xFn ?_
  show w_k05_bent W _ [some _, some _, none, none, none, none, none, none, none, none, none, none] S
  unfold w_k05_bent
  and_intros
  refine sipN (m := 11) hp (by decide) (by decide) fun way hway a b c => ?_
  and_intros
  refine ⟨(show s.length ≤ 1000000 by omega), ?_⟩
  and_intros
  refine sipN (m := s.length + 1) set_same (by omega) (by omega) fun at_ hat a b c => ?_
  rw [set_set]
  and_intros
  refine ofM (f := D.str) (l := ["a", "b", "z", " ", "\n", "A", "0"]) set_same rfl (by simp) (by simp) fun sg hsg a b c => ?_
  rw [set_set]
  have hsg : Asc sg ∧ sg.length ≤ 1 := by
    simp only [List.mem_cons, List.not_mem_nil, or_false] at hsg
    rcases hsg with rfl | rfl | rfl | rfl | rfl | rfl | rfl <;> exact ⟨asc_lit (by decide), by decide⟩
  and_intros
  refine isD (fun h3 => ?_) fun h3 => ?_
  · and_intros
    refine ⟨by omega, ?_⟩
    and_intros
    obtain ⟨t, ht, hts⟩ : ∃ t, (["", sg, sg] : List Str)[way]? = some t ∧ Asc t ∧ t.length ≤ 1 := by
      have : way = 0 ∨ way = 1 ∨ way = 2 := by omega
      rcases this with rfl | rfl | rfl
      · exact ⟨_, rfl, asc_lit (by decide), by decide⟩
      · exact ⟨_, rfl, hsg⟩
      · exact ⟨_, rfl, hsg⟩
    obtain ⟨k, hk⟩ : ∃ k, ([1, 0, 1] : List Int)[way]? = some k := ⟨_, List.getElem?_eq_getElem (show way < 3 by omega)⟩
    refine ixLst (atM (l := ["", sg, sg]) (f := D.str) ht) ?_
    have c1 := cutS_len s none (some (at_ : Nat))
    refine ⟨by omega, ?_⟩
    and_intros
    refine ixLst (atM (l := [1, 0, 1]) (f := D.int) hk) ?_
    and_intros
    refine ⟨by omega, ?_⟩
    have c2 := cutS_len s (some (((at_ : Nat) : Int) + k)) none
    refine ⟨by rw [str_app_len]; omega, ?_⟩
    exact cl (q _ _ _ _ (asc_app (asc_app (asc_cut hs _ _) hts.1) (asc_cut hs _ _)) (by rw [str_app_len, str_app_len]; omega))
  obtain ⟨g1, g2, g3⟩ := split_nlA hs
  have gz := szL_nl s
  and_intros
  refine xSplitO ?_
  and_intros
  refine ⟨⟨_, rfl⟩, ?_⟩
  and_intros
  refine ⟨_, _, rfl, rfl, by decide, by omega, fun f hf => ?_⟩
  have hpf : p ≠ f := fun e => by rw [← e, set_same] at hf; cases hf
  rw [set_ne hpf.symm] at hf
  generalize Txt.split s "\n" = L at g1 g2 g3 gz
  have hLs : ∀ x ∈ L, Asc x := fun x hx => (g3 x hx).2
  have hL0 := List.length_pos_iff.mpr g1
  and_intros
  refine lObjM set_same ?_
  and_intros
  refine sipN (m := L.length) (so_p hpf) (by omega) (by omega) fun spot hspot a b c => ?_
  rw [so_pp hpf]
  and_intros
  refine lObjM set_same ?_
  and_intros
  refine sipN (m := L.length) (so_p hpf) (by omega) (by omega) fun to hto a b c => ?_
  rw [so_pp hpf]
  have gto := List.getElem?_eq_getElem hto
  generalize L[to] = lto at gto
  have gsp := List.getElem?_eq_getElem hspot
  generalize L[spot] = lsp at gsp
  have mto := List.mem_of_getElem? gto
  have msp := List.mem_of_getElem? gsp
  have cut := szL_cut L spot
  have dr := szL_drop L spot
  have szto := szL_mem mto
  have hT : ∀ {k}, ∀ x ∈ L.take k, Asc x := fun x hx => hLs x (List.mem_of_mem_take hx)
  have hD : ∀ {k}, ∀ x ∈ L.drop k, Asc x := fun x hx => hLs x (List.mem_of_mem_drop hx)
  have lenT : ∀ k, (L.take k).length ≤ L.length := fun k => by rw [List.length_take]; omega
  have lenD : ∀ k, (L.drop k).length ≤ L.length := fun k => by rw [List.length_drop]; omega
  have ret : ∀ z : Str, Asc z → z.length ≤ 2 * s.length + 20 → Cl Q (.str z) ((S.set p (pan3 a b c)).set f (.lst (L.map D.str))) := fun z h1 h2 => ⟨_, _, .dropS _ (by rw [set_ne hpf.symm]; exact hf), q z a b c h1 h2⟩
  and_intros
  refine isD (fun h4 => ?_) fun h4 => ?_
  · and_intros
    refine xJoin ?_
    and_intros
    refine ⟨⟨_, rfl⟩, ?_⟩
    and_intros
    refine slObj set_same ?_
    rw [cutHi, ← List.map_take]
    and_intros
    refine ixObj set_same (atM (l := L) (f := D.str) gto) ?_
    and_intros
    refine oLst (by have := lenT spot; rw [List.length_map]; simp; omega) ?_
    and_intros
    refine slObj set_same ?_
    rw [cutLo, ← List.map_drop]
    refine oLst (by have := lenT spot; have := lenD spot; rw [List.length_append, List.length_map, List.length_map]; simp; omega) ?_
    have e : (L.take spot).map D.str ++ [D.str lto] ++ (L.drop spot).map D.str = (L.take spot ++ [lto] ++ L.drop spot).map D.str := by simp
    rw [e]
    have sz : szL (L.take spot ++ [lto] ++ L.drop spot) ≤ 2 * s.length + 2 := by
      rw [szL_app, szL_app, szL_one]
      omega
    refine joinNl rfl (by omega) (fun x hx => ?_) fun z h1 h2 => ret z h1 (by omega)
    simp only [List.mem_append, List.mem_singleton] at hx
    rcases hx with (hx | rfl) | hx
    · exact hT x hx
    · exact hLs _ mto
    · exact hD x hx
  and_intros
  refine isD (fun h5 => ?_) fun h5 => ?_
  · and_intros
    refine xJoin ?_
    and_intros
    refine ⟨⟨_, rfl⟩, ?_⟩
    and_intros
    refine slObj set_same ?_
    rw [cutHi, ← List.map_take]
    and_intros
    refine slObj set_same ?_
    rw [show (((spot : Nat) : Int) + 1) = ((spot + 1 : Nat) : Int) by omega, cutLo, ← List.map_drop]
    refine oLst (by have := lenT spot; have := lenD (spot + 1); rw [List.length_map, List.length_map]; omega) ?_
    rw [← List.map_append]
    have sz : szL (L.take spot ++ L.drop (spot + 1)) ≤ s.length + 1 := by
      rw [szL_app]
      omega
    refine joinNl rfl (by omega) (fun x hx => ?_) fun z h1 h2 => ret z h1 (by omega)
    rcases List.mem_append.mp hx with hx | hx
    · exact hT x hx
    · exact hD x hx
  and_intros
  refine isD (fun h6 => ?_) fun h6 => ?_
  · and_intros
    refine ofM (f := D.str) (l := ["\n", " ", "\na b", "\n\n"]) (so_p hpf) rfl (by simp) (by simp) fun t ht a b c => ?_
    rw [so_pp hpf]
    have ht : Asc t ∧ t.length ≤ 4 := by
      simp only [List.mem_cons, List.not_mem_nil, or_false] at ht
      rcases ht with rfl | rfl | rfl | rfl <;> exact ⟨asc_lit (by decide), by decide⟩
    refine ⟨by omega, ?_⟩
    exact ⟨_, _, .dropS _ (by rw [set_ne hpf.symm]; exact hf), q _ a b c (asc_app hs ht.1) (by rw [str_app_len]; omega)⟩
  obtain ⟨k1, k2, k3⟩ := split_spA (hLs _ msp)
  have kz := szL_sp lsp
  have hlsp := (g3 lsp msp).1
  and_intros
  refine xSplit ?_
  and_intros
  refine ixObj set_same (atM (l := L) (f := D.str) gsp) ?_
  refine ⟨⟨_, rfl⟩, ?_⟩
  and_intros
  refine ⟨_, _, rfl, rfl, by decide, by omega, ?_⟩
  generalize Txt.split lsp " " = Ws at k1 k2 k3 kz
  have hWs : ∀ x ∈ Ws, Asc x := fun x hx => (k3 x hx).2
  have hW0 := List.length_pos_iff.mpr k1
  and_intros
  refine sipN (m := Ws.length) (so_p hpf) (by omega) (by omega) fun here hhere a b c => ?_
  rw [so_pp hpf]
  and_intros
  refine sipN (m := Ws.length) (so_p hpf) (by omega) (by omega) fun there hthere a b c => ?_
  rw [so_pp hpf]
  have gth := List.getElem?_eq_getElem hthere
  generalize Ws[there] = wth at gth
  have mth := List.mem_of_getElem? gth
  have cutw := szL_cut Ws here
  have drw := szL_drop Ws here
  have szth := szL_mem mth
  have hTw : ∀ {k}, ∀ x ∈ Ws.take k, Asc x := fun x hx => hWs x (List.mem_of_mem_take hx)
  have hDw : ∀ {k}, ∀ x ∈ Ws.drop k, Asc x := fun x hx => hWs x (List.mem_of_mem_drop hx)
  have lenTw : ∀ k, (Ws.take k).length ≤ Ws.length := fun k => by rw [List.length_take]; omega
  have lenDw : ∀ k, (Ws.drop k).length ≤ Ws.length := fun k => by rw [List.length_drop]; omega
  have e1 : (((here : Nat) : Int) + 1) = ((here + 1 : Nat) : Int) := by omega
  and_intros
  rw [cutHi, ← List.map_take]
  and_intros
  rw [e1, cutLo, ← List.map_drop]
  refine oLst (by have := lenTw here; have := lenDw (here + 1); rw [List.length_map, List.length_map]; omega) ?_
  rw [← List.map_append]
  and_intros
  rw [cutHi, ← List.map_take]
  refine ixLst (atM (l := Ws) (f := D.str) gth) ?_
  and_intros
  refine oLst (by have := lenTw here; rw [List.length_map]; simp; omega) ?_
  and_intros
  rw [cutLo, ← List.map_drop]
  refine oLst (by have := lenTw here; have := lenDw here; rw [List.length_append, List.length_map, List.length_map]; simp; omega) ?_
  have ew : (Ws.take here).map D.str ++ [D.str wth] ++ (Ws.drop here).map D.str = (Ws.take here ++ [wth] ++ Ws.drop here).map D.str := by simp
  rw [ew]
  and_intros
  refine xRevL ?_
  and_intros
  refine ⟨_, rfl, ?_⟩
  rw [← List.map_reverse]
  and_intros
  intro g hg
  have hpg : p ≠ g := fun e => by rw [← e, so_p hpf] at hg; cases hg
  have hfg : f ≠ g := fun e => by rw [← e, set_same] at hg; cases hg
  rw [set_ne hfg.symm, set_ne hpg.symm] at hg
  and_intros
  refine bmObj set_same ?_
  and_intros
  rw [cutHi, ← List.map_take]
  and_intros
  refine oLst (by rw [List.length_map]; simp; omega) ?_
  have ea : Ws.map D.str ++ [D.str "a", .str "b", .str "places", .str "abcdefghi", .str ""] = (Ws ++ (["a", "b", "places", "abcdefghi", ""] : List Str)).map D.str := by simp
  rw [ea]
  and_intros
  have hp3 : (((S.set p (pan3 a b c)).set f (.lst (L.map D.str))).set g (.lst [.lst ((Ws.take here ++ Ws.drop (here + 1)).map D.str), .lst ((Ws.take here ++ [wth] ++ Ws.drop here).map D.str), .lst (Ws.reverse.map D.str)])) p = some (pan3 a b c) := by rw [set_ne hpg, so_p hpf]
  refine ofM (f := D.str) (d := .lst _) (l := Ws ++ (["a", "b", "places", "abcdefghi", ""] : List Str)) hp3 rfl (by simp) (by simp; omega) fun w hw a2 b2 c2 => ?_
  rw [set_comm hpg.symm, so_pp hpf]
  have hw : Asc w ∧ w.length ≤ szL Ws + 9 := by
    rcases List.mem_append.mp hw with hw | hw
    · have := szL_mem hw
      exact ⟨hWs w hw, by omega⟩
    · simp only [List.mem_cons, List.not_mem_nil, or_false] at hw
      rcases hw with rfl | rfl | rfl | rfl | rfl
      · exact ⟨asc_lit (by decide), Nat.le_trans (by decide) (Nat.le_add_left 9 _)⟩
      · exact ⟨asc_lit (by decide), Nat.le_trans (by decide) (Nat.le_add_left 9 _)⟩
      · exact ⟨asc_lit (by decide), Nat.le_trans (by decide) (Nat.le_add_left 9 _)⟩
      · exact ⟨asc_lit (by decide), Nat.le_trans (by decide) (Nat.le_add_left 9 _)⟩
      · exact ⟨asc_lit (by decide), Nat.le_trans (by decide) (Nat.le_add_left 9 _)⟩
  and_intros
  refine oLst (by have := lenTw here; rw [List.length_map]; simp; omega) ?_
  and_intros
  rw [e1, cutLo, ← List.map_drop]
  refine oLst (by have := lenTw here; have := lenDw (here + 1); rw [List.length_append, List.length_map, List.length_map]; simp; omega) ?_
  have ev : (Ws.take here).map D.str ++ [D.str w] ++ (Ws.drop (here + 1)).map D.str = (Ws.take here ++ [w] ++ Ws.drop (here + 1)).map D.str := by simp
  rw [ev]
  and_intros
  refine apM (f := fun x : List Str => D.lst (x.map D.str)) (l := [Ws.take here ++ Ws.drop (here + 1), Ws.take here ++ [wth] ++ Ws.drop here, Ws.reverse]) set_same (by simp) ?_
  rw [set_set]
  and_intros
  refine xJoin ?_
  and_intros
  refine ⟨⟨_, rfl⟩, ?_⟩
  and_intros
  obtain ⟨F, eF⟩ : ∃ F : List (List Str), F = [Ws.take here ++ Ws.drop (here + 1), Ws.take here ++ [wth] ++ Ws.drop here, Ws.reverse, Ws.take here ++ [w] ++ Ws.drop (here + 1)] := ⟨_, rfl⟩
  have hF : ∀ V ∈ F, szL V ≤ 2 * szL Ws + 10 ∧ ∀ x ∈ V, Asc x := fun V hV => by
    rw [eF] at hV
    simp only [List.mem_cons, List.not_mem_nil, or_false] at hV
    rcases hV with rfl | rfl | rfl | rfl
    · refine ⟨by rw [szL_app]; omega, fun x hx => ?_⟩
      rcases List.mem_append.mp hx with hx | hx
      · exact hTw x hx
      · exact hDw x hx
    · refine ⟨by rw [szL_app, szL_app, szL_one]; omega, fun x hx => ?_⟩
      simp only [List.mem_append, List.mem_singleton] at hx
      rcases hx with (hx | rfl) | hx
      · exact hTw x hx
      · exact hWs _ mth
      · exact hDw x hx
    · exact ⟨by rw [szL_rev]; omega, fun x hx => hWs x (List.mem_reverse.mp hx)⟩
    · refine ⟨by rw [szL_app, szL_app, szL_one]; omega, fun x hx => ?_⟩
      simp only [List.mem_append, List.mem_singleton] at hx
      rcases hx with (hx | rfl) | hx
      · exact hTw x hx
      · exact hw.1
      · exact hDw x hx
  have e3 : [Ws.take here ++ Ws.drop (here + 1), Ws.take here ++ [wth] ++ Ws.drop here, Ws.reverse] ++ [Ws.take here ++ [w] ++ Ws.drop (here + 1)] = F := by rw [eF]; rfl
  have lF : F.length = 4 := by rw [eF]; rfl
  rw [e3]
  have hm : way % 4 < F.length := by omega
  have gF := List.getElem?_eq_getElem hm
  generalize F[way % 4] = V at gF
  obtain ⟨v1, v2⟩ := hF V (List.mem_of_getElem? gF)
  rw [show (((way : Nat) : Int) % 4) = ((way % 4 : Nat) : Int) by omega]
  refine ixObj set_same (atM (l := F) (f := fun x : List Str => D.lst (x.map D.str)) gF) ?_
  refine ⟨_, V, rfl, rfl, (by
    have e : (" " : Str).length = 1 := by decide
    rw [e]
    unfold szL at v1 kz
    omega), ?_⟩
  obtain ⟨zl, zs⟩ := sp_join v2
  generalize Txt.join " " V = z at zl zs
  and_intros
  refine ⟨f, rfl, .inl ⟨_, _, spot, by rw [set_ne hfg, set_same], rfl, ixN_nat (by rw [List.length_map]; exact hspot), ?_⟩⟩
  rw [← set_comm hfg, set_set, ← List.map_set]
  and_intros
  refine xJoin ?_
  and_intros
  refine ⟨⟨_, rfl⟩, ?_⟩
  and_intros
  have hLz := szL_set L spot z gsp
  refine joinNl (ys := L.set spot z) (show objL _ = _ by rw [set_ne hfg, set_same]; rfl) (by omega) (fun x hx => ?_) fun y h1 h2 => ?_
  · rcases List.mem_or_eq_of_mem_set hx with hx | rfl
    · exact hLs x hx
    · exact zs
  · refine ⟨_, _, (Rf.dropS _ (by rw [set_ne hfg.symm, set_ne hpg.symm]; exact hg)).trans (Rf.dropS _ (by rw [set_ne hpf.symm]; exact hf)), q y a2 b2 c2 h1 ?_⟩
    omega
end
section
open PySem PySem.Spec PyProof.Rows
/-! ### k05: pages -/
def Wd (m : Nat) (x : Str) : Prop := Asc x ∧ x.length ≤ m
def sp_cup_pageT (W : Addr) : DSp := fun ds S Q E => ∃ (ps : List Str) (L : List (Str × Str)), ds = [netT ps L] ∧ (∀ x ∈ ps, Wd 8 x) ∧ (∀ t ∈ L, Wd 8 t.1 ∧ Wd 8 t.2) ∧ ps.length ≤ 60 ∧ L.length ≤ 210 ∧ ∀ z : Str, Asc z → z.length ≤ 6000 → Q (.str z) S
def w_cup_pageT (W : Addr) : WS := (wRet (wJoin (wC (.str "\n")) (wO oAdd (wLst (wCons (wJoin (wC (.str " ")) (wO oAdd (wTup (wCons (wC (.str "places")) wNil)) (wO oIx (wV 0) (wC (.int 0))))) wNil)) (wLcP (wSeqI (wO oIx (wV 0) (wC (.int 1)))) (.n 1) wYes (wJoin (wC (.str " ")) (wV 1)) [1]))))
theorem szL_le {l : List Str} {m : Nat} (h : ∀ x ∈ l, x.length ≤ m) : szL l ≤ (m + 1) * l.length := by
  induction l with
  | nil => simp [szL]
  | cons y l ih =>
    have := ih fun x hx => h x (List.mem_cons_of_mem _ hx)
    have := h y (List.mem_cons_self ..)
    rw [show y :: l = [y] ++ l from rfl, szL_app, szL_one, List.length_append, List.length_singleton, Nat.mul_add]
    omega
theorem pure_cup_pageT (W : Addr) : ∀ ds S Q E, sp_cup_pageT W ds S Q E → w_cup_pageT W (endsOf Q) (startD ["_law_net_here", "_law_pair"] ds) S := by
  rintro ds S Q E ⟨ps, L, rfl, hp, hL, lp, lL, q⟩
  refine xFn ?_
  show w_cup_pageT W _ [some _, none] S
  unfold w_cup_pageT
  have z1 := szL_le (l := "places" :: ps) (m := 8) fun x hx => by
    rcases List.mem_cons.mp hx with rfl | hx
    · decide
    · exact (hp x hx).2
  rw [List.length_cons] at z1
  have s1 : ∀ x ∈ (("places" : Str) :: ps), Asc x := fun x hx => by
    rcases List.mem_cons.mp hx with rfl | hx
    · exact asc_lit (by decide)
    · exact (hp x hx).1
  have s2 : ∀ t ∈ L, ∀ x ∈ prL t, Asc x := fun t ht x hx => by
    have := hL t ht
    simp only [prL, List.mem_cons, List.not_mem_nil, or_false] at hx
    rcases hx with rfl | rfl
    · exact this.1.1
    · exact this.2.1
  have z2 : ∀ t ∈ L, szL (prL t) ≤ 18 := fun t ht => szL_le (l := prL t) (m := 8) fun x hx => by
    have := hL t ht
    simp only [prL, List.mem_cons, List.not_mem_nil, or_false] at hx
    rcases hx with rfl | rfl
    · exact this.1.2
    · exact this.2.2
  and_intros
  refine xJoin ?_
  and_intros
  refine ⟨⟨_, rfl⟩, ?_⟩
  and_intros
  refine xJoin ?_
  and_intros
  refine ⟨⟨_, rfl⟩, ?_⟩
  and_intros
  unfold netT
  refine ixTup at0 ?_
  refine tAdd ?_ (by rw [List.length_map]; simp; omega)
  have e1 : [D.str "places"] ++ plD ps = (("places" : Str) :: ps).map D.str := rfl
  rw [e1]
  refine ⟨_, _, rfl, rfl, (by
    have e : (" " : Str).length = 1 := by decide
    rw [e]
    unfold szL at z1
    simp only [List.map_cons, List.sum_cons, List.length_cons] at z1 ⊢
    omega), ?_⟩
  obtain ⟨j1, j2⟩ := sp_join s1
  generalize Txt.join " " (("places" : Str) :: ps) = l0 at j1 j2
  and_intros
  refine lcM L prD (fun t => .str (Txt.join " " (prL t))) ?_ (by omega) (fun t ht S' e => ?_) ?_
  · and_intros
    refine ixTup at1 ?_
    and_intros
    exact srcT
  · have zt := z2 t ht
    (simp only [prD, putNT, wipeD, putAll, List.set_cons_zero, List.set_cons_succ, List.length_cons, List.length_nil, true_and]; and_intros)
    refine xJoin ?_
    and_intros
    refine ⟨⟨_, rfl⟩, ?_⟩
    and_intros
    refine ⟨_, prL t, rfl, rfl, (by
      have e : (" " : Str).length = 1 := by decide
      rw [e]
      unfold szL at zt
      omega), ?_⟩
    exact ⟨rfl, rfl⟩
  have e2 : [D.str l0] ++ L.map (fun t => D.str (Txt.join " " (prL t))) = (l0 :: L.map fun t => Txt.join " " (prL t)).map D.str := by
    rw [List.map_cons, List.map_map]
    rfl
  refine oLst (by rw [List.length_map]; simp; omega) ?_
  rw [e2]
  have hs : ∀ x ∈ (l0 :: L.map fun t => Txt.join " " (prL t)), Asc x := fun x hx => by
    rcases List.mem_cons.mp hx with rfl | hx
    · exact j2
    · obtain ⟨t, ht, rfl⟩ := List.mem_map.mp hx
      exact (sp_join (s2 t ht)).2
  have hz : szL (l0 :: L.map fun t => Txt.join " " (prL t)) ≤ 6000 := by
    have z3 := szL_le (l := L.map fun t => Txt.join " " (prL t)) (m := 18) fun x hx => by
      obtain ⟨t, ht, rfl⟩ := List.mem_map.mp hx
      exact Nat.le_trans (sp_join (s2 t ht)).1 (z2 t ht)
    rw [List.length_map] at z3
    rw [show (l0 :: L.map fun t => Txt.join " " (prL t)) = [l0] ++ L.map (fun t => Txt.join " " (prL t)) from rfl, szL_app, szL_one]
    omega
  refine ⟨_, _, rfl, rfl, (by
    have e : ("\n" : Str).length = 1 := by decide
    rw [e]
    unfold szL at hz
    omega), ?_⟩
  obtain ⟨k1, k2⟩ := nl_join hs
  exact cl (q _ k2 (by omega))
def sp_k05_great (W : Addr) : DSp := fun ds S Q E => ∃ (p : Addr) (a b c : Int), ds = [.obj p] ∧ S p = some (pan3 a b c) ∧ ∀ (z : Str) (a' b' c' : Int), Asc z → z.length ≤ 6000 → Q (.str z) (S.set p (pan3 a' b' c'))
def w_k05_great (W : Addr) : WS := (wSeq (wAsg (wC (.str "abcdefghijklmnopqrstuvwxyz")) (gV 1))
    (wSeq (wAsg (wCall cTuple (wCons (wLcP (wRng1 (wCons (wFn (sp_cup_of W) [] (wCons (wV 0) (wCons (wLst (wCons (wC (.int 16)) (wCons (wC (.int 40)) (wCons (wC (.int 41)) wNil)))) wNil))) wNil)) (.n 4) wYes (wO oAdd (wO oIx (wV 1) (wO oDiv (wV 4) (wC (.int 26)))) (wO oIx (wV 1) (wO oMod (wCall cInt (wCons (wV 4) wNil)) (wC (.int 26))))) [4]) wNil)) (gV 2))
    (wSeq (wAsg (wTup wNil) (gV 3))
    (wSeq (wFor (wRng1 (wCons (wCall cLen (wCons (wV 2) wNil)) wNil)) (gV 4) (wAsg (wO oAdd (wV 3) (wCall cTuple (wCons (wLcP (wRng1 (wCons (wCall cMin (wCons (wV 4) (wCons (wC (.int 14)) wNil))) wNil)) (.n 5) wYes (wTup (wCons (wO oIx (wV 2) (wV 4)) (wCons (wO oIx (wV 2) (wV 5)) wNil))) [5]) wNil))) (gV 3)))
    (wRet (wFn (sp_cup_pageT W) [] (wCons (wTup (wCons (wV 2) (wCons (wSl (wV 3) pNone (pSome (wFn (sp_cup_of W) [] (wCons (wV 0) (wCons (wLst (wCons (wC (.int 7)) (wCons (wC (.int 200)) (wCons (wC (.int 201)) wNil)))) wNil))))) wNil))) wNil)))))))
def nm5 (k : Nat) : Str := (⟨#[letterAt (k / 26)]⟩ : Str) ++ (⟨#[letterAt (k % 26)]⟩ : Str)
theorem nm5_ok {k : Nat} (h : k < 52) : Wd 8 (nm5 k) := by
  have one : ∀ {j : Nat}, j < 26 → Asc (⟨#[letterAt j]⟩ : Str) := fun {j} hj => fun c hc => by
    have : c = letterAt j := by simpa using hc
    rw [this]
    exact (by decide +kernel : ∀ c ∈ LETTERS.cps.toList, c < 128) _ (letterAt_mem hj)
  exact ⟨asc_app (one (by omega)) (one (by omega)), by unfold nm5; rw [str_app_len]; show 1 + 1 ≤ 8; omega⟩
theorem pure_k05_great (W : Addr) : ∀ ds S Q E, sp_k05_great W ds S Q E → w_k05_great W (endsOf Q) (startD ["_law_cup_here", "_law_letters", "_law_folk_here", "_law_pairs", "_law_k", "_law_j"] ds) S := by
  rintro ds S Q E ⟨p, a, b, c, rfl, hp, q⟩
  refine xFn ?_
  show w_k05_great W _ [some _, none, none, none, none, none] S
  unfold w_k05_great
  and_intros
  refine lcB ?_
  and_intros
  refine ofM (f := fun k : Nat => .int (k : Nat)) (l := [16, 40, 41]) hp rfl (by simp) (by decide) fun k hk a b c => ?_
  have hk41 : k ≤ 41 := by
    simp only [List.mem_cons, List.not_mem_nil, or_false] at hk
    omega
  and_intros
  refine ⟨by omega, by omega, ?_⟩
  refine lcM (List.range k) (fun j : Nat => .int (j : Nat)) (fun j => .str (nm5 j)) (by rw [rangeN]; exact ⟨rfl, fun _ _ => trivial, rfl⟩) (by simp; omega) (fun j hj S' e => ?_) ?_
  · have hj : j < 41 := by
      have := List.mem_range.mp hj
      omega
    (simp only [prD, putNT, wipeD, putAll, List.set_cons_zero, List.set_cons_succ, List.length_cons, List.length_nil, true_and]; and_intros)
    refine ⟨⟨by decide, by decide⟩, ?_⟩
    show oIx _ (.int (((j : Nat) : Int) / 26)) _ _
    rw [show ((j : Nat) : Int) / 26 = ((j / 26 : Nat) : Int) by omega]
    refine .inr (.inl ⟨LETTERS, _, letterAt (j / 26), rfl, rfl, by decide +kernel, atI_nat (letterAt_get (by omega)), ?_⟩)
    and_intros
    rw [show ((j : Nat) : Int) % 26 = ((j % 26 : Nat) : Int) by omega]
    refine .inr (.inl ⟨LETTERS, _, letterAt (j % 26), rfl, rfl, by decide +kernel, atI_nat (letterAt_get (by omega)), ?_⟩)
    refine ⟨by show 1 + 1 ≤ _; omega, ?_⟩
    exact ⟨rfl, rfl⟩
  have eps : (List.range k).map (fun j => D.str (nm5 j)) = plD ((List.range k).map nm5) := by
    show _ = ((List.range k).map nm5).map D.str
    rw [List.map_map]
    rfl
  rw [eps]
  have hps : ∀ x ∈ (List.range k).map nm5, Wd 8 x := fun x hx => by
    obtain ⟨j, hj, rfl⟩ := List.mem_map.mp hx
    exact nm5_ok (by have := List.mem_range.mp hj; omega)
  have hpl : ((List.range k).map nm5).length ≤ 41 := by simp; omega
  generalize (List.range k).map nm5 = ps at hps hpl
  and_intros
  refine rng1N (by omega) ?_
  refine forR (fun x : List (Str × Str) × Option D => [some (.obj p), some (.str LETTERS), some (.tup (plD ps)), some (.tup (x.1.map prD)), x.2, none]) (fun _ => S.set p (pan3 a b c)) (fun i x => x.1.length ≤ 14 * i ∧ ∀ t ∈ x.1, t.1 ∈ ps ∧ t.2 ∈ ps) ([], none) ⟨by simp, by simp⟩ ?_ ?_
  · rintro i ⟨L, c1⟩ hi ⟨hL, hm⟩
    have hL : L.length ≤ 14 * i := hL
    have hi : i < ps.length := by simpa using hi
    have hm : ∀ t ∈ L, t.1 ∈ ps ∧ t.2 ∈ ps := hm
    have hz := List.getElem?_eq_getElem hi
    generalize ps[i] = z at hz
    have hzm := List.mem_of_getElem? hz
    and_intros
    refine lcM (List.range (min i 14)) (fun j : Nat => .int (j : Nat)) (fun j => prD (z, ps.getD j "")) ?_ (by simp; omega) (fun j hj S' e => ?_) ?_
    · and_intros
      refine .inl ?_
      simp only [int2]
      rw [show (min (i : Int) 14) = ((min i 14 : Nat) : Int) by omega]
      and_intros
      exact rng1N (by omega) srcR
    · have hj : j < ps.length := by
        have := List.mem_range.mp hj
        omega
      have hg : ps[j]? = some (ps.getD j "") := by
        rw [List.getElem?_eq_getElem hj]
        simp [hj]
      (simp only [prD, putNT, wipeD, putAll, List.set_cons_zero, List.set_cons_succ, List.length_cons, List.length_nil, true_and]; and_intros)
      refine ixTup (atM hz) ?_
      and_intros
      refine ixTup (atM hg) ?_
      and_intros
      exact ⟨rfl, rfl⟩
    · and_intros
      refine tAdd ?_ (by rw [List.length_map, List.length_map, List.length_range]; omega)
      and_intros
      refine .of (L ++ (List.range (min i 14)).map fun j => (z, ps.getD j ""), some (.int (i : Nat))) ⟨?_, ?_⟩ ?_ rfl
      · show (L ++ _).length ≤ 14 * (i + 1)
        rw [List.length_append, List.length_map, List.length_range]
        omega
      · intro t ht
        rcases List.mem_append.mp ht with ht | ht
        · exact hm t ht
        · obtain ⟨j, hj, rfl⟩ := List.mem_map.mp ht
          have hj : j < ps.length := by
            have := List.mem_range.mp hj
            omega
          refine ⟨hzm, ?_⟩
          have hg : ps[j]? = some (ps.getD j "") := by
            rw [List.getElem?_eq_getElem hj]
            simp [hj]
          exact List.mem_of_getElem? hg
      · rw [List.map_append, List.map_map]
        rfl
  · rintro ⟨L, c1⟩ ⟨hL, hm⟩
    have hm : ∀ t ∈ L, t.1 ∈ ps ∧ t.2 ∈ ps := hm
    and_intros
    refine ofM (f := fun k : Nat => .int (k : Nat)) (l := [7, 200, 201]) set_same rfl (by simp) (by decide) fun u hu a b c => ?_
    rw [set_set]
    have hu2 : u ≤ 201 := by
      simp only [List.mem_cons, List.not_mem_nil, or_false] at hu
      omega
    and_intros
    rw [cutHi, ← List.map_take]
    and_intros
    refine ⟨ps, L.take u, rfl, hps, fun t ht => ?_, by omega, by rw [List.length_take]; omega, fun z h1 h2 => cl (q z a b c h1 h2)⟩
    have := hm t (List.mem_of_mem_take ht)
    exact ⟨hps _ this.1, hps _ this.2⟩
end
section
open PySem PySem.Spec PyProof.Rows
/-! ### k05 -/
theorem lMulK {S : SO} {Q : KD} {xs : List D} {k : Nat} (h : Q (.lst (List.replicate k xs).flatten) S) (hk : k ≤ 1000) (hl : xs.length ≤ 1000) : oMul (.lst xs) (.int (k : Nat)) S Q := ⟨xs, k, rfl, rfl, by omega, by omega, hl, by rw [show ((k : Nat) : Int).toNat = k by omega]; exact h⟩
theorem shownStr {s : Str} (hs : sOk s) (hl : s.length ≤ 30000) : ShowV (.str s) ∧ (PyData.str s).shown.length ≤ 300120 := by
  obtain ⟨p, h1, h2, h3, h4⟩ := (ValB.str (n := 0) (m := 30000) s hs hl).shown
  cases h1
  have e : lenB 30000 0 = 300120 := rfl
  rw [e] at h4
  exact ⟨⟨h2, by omega, by rw [sizeLine_eq]; omega⟩, h4⟩
/-- what may be asked of the reader -/
def Th5 (d : D) : Prop := ValB 1 30000 d ∧ ∃ z, ShownV d z ∧ sOk z
theorem th5 {d : D} {p : PyData} (V : ValB 1 30000 d) (hp : valP d = some p) (hs : ShowV p) : Th5 d := ⟨V, _, ⟨p, hp, hs, rfl⟩, sOk_of (V.okS p hp)⟩
theorem th5_str {s : Str} (hs : sOk s) (hl : s.length ≤ 30000) : Th5 (.str s) := th5 (.str s hs hl) rfl (shownStr hs hl).1
theorem th5_tup {s : Str} (hs : sOk s) (hl : s.length ≤ 30000) : Th5 (.tup [.str s]) := by
  refine th5 (p := .tuple [.str s]) (.tup _ (by simp) fun x hx => by rw [List.mem_singleton.mp hx]; exact .str s hs hl) rfl ⟨rfl, by simp [PyData.depth, PyData.depthAll], ?_⟩
  have h := (shownStr hs hl).2
  have z := tupleText_up (B := 300120) (ts := [(PyData.str s).shown]) fun t ht => by rw [List.mem_singleton.mp ht]; exact h
  have e : (PyData.tuple [.str s]).shown = tupleText [(PyData.str s).shown] := by simp only [PyData.shown, PyData.shownAll]
  rw [e, sizeLine_eq]
  simp only [List.length_singleton] at z
  omega
theorem th5_lst {s : Str} (hs : sOk s) (hl : s.length ≤ 30000) : Th5 (.lst [.str s]) := by
  refine th5 (p := .list [.str s]) (.lst _ (by simp) fun x hx => by rw [List.mem_singleton.mp hx]; exact .str s hs hl) rfl ⟨rfl, by simp [PyData.depth, PyData.depthAll], ?_⟩
  have h := (shownStr hs hl).2
  have z := listText_up (B := 300120) (ts := [(PyData.str s).shown]) fun t ht => by rw [List.mem_singleton.mp ht]; exact h
  have e : (PyData.list [.str s]).shown = listText [(PyData.str s).shown] := by simp only [PyData.shown, PyData.shownAll]
  rw [e, sizeLine_eq]
  simp only [List.length_singleton] at z
  omega
theorem th5_small {d : D} (V : ValB 0 0 d) : Th5 d := by
  obtain ⟨p, h1, h2⟩ := V.showV (by decide) (by decide)
  exact th5 (V.mono (by decide) (by decide)) h1 h2
theorem out5 {s : Str} (hs : Asc s) (hl : s.length ≤ 30000) : ∀ x ∈ (List.replicate 9 [D.str s]).flatten ++ [D.non, .int 5, .tup [.str s], .lst [.str s], .dic false [], .str "", .str "places", .str (Txt.upper s)], Th5 x := by
  intro x hx
  obtain ⟨u1, u2⟩ := asc_upper hs
  rcases List.mem_append.mp hx with hx | hx
  · obtain ⟨l, hl', hx⟩ := List.mem_flatten.mp hx
    rw [List.eq_of_mem_replicate hl'] at hx
    rw [List.mem_singleton.mp hx]
    exact th5_str hs.sok hl
  · simp only [List.mem_cons, List.not_mem_nil, or_false] at hx
    rcases hx with rfl | rfl | rfl | rfl | rfl | rfl | rfl | rfl
    · exact th5_small .non
    · exact th5_small (.int 5 (by decide))
    · exact th5_tup hs.sok hl
    · exact th5_lst hs.sok hl
    · exact th5_small (.dic false)
    · exact th5_str (sOk_lit _) (by decide)
    · exact th5_str (sOk_lit _) (by decide)
    · exact th5_str u1.sok (by omega)
section
variable {W : Addr} {P : Str → Addr} {S : SO} {Q : KD} {d : D} {n m : Nat} {x0 x1 x2 x3 : Option D} {rest : SD} {ps : List Str} {ts : List (Str × Str)}
abbrev lam5a (W : Addr) (P : Str → Addr) : WE := wLam (P "k05_right") "_law_right.<locals>.<lambda>" ["_law_act_here", "_law_back", "_law_e"] (fun f sdG sd => w_cup_caughtV W (wCMethX W (sp_Web_readE W) [] (wC (.obj W)) (wCons (wV 4) wNil)) f (P "k05_right") "_law_right.<locals>.<lambda>" sdG sd)
abbrev lam5b (W : Addr) (P : Str → Addr) : WE := wLam (P "k05_right") "_law_right.<locals>.<lambda>" ["_law_act_here", "_law_back", "_law_e"] (fun f sdG sd => w_cup_caughtV W (wCMethKX W (sp_Web_readE W) catC (wC (.obj W)) (wCons (wV 4) wNil)) f (P "k05_right") "_law_right.<locals>.<lambda>" sdG sd)
theorem lam5O (hT : S (P "k05_right") = some (.tb "_law_right.<locals>.<lambda>")) (V : ValB n m d) (hm : m ≤ 30000) (R : ReadsAs d ps ts) (qq : Q (.tup [.str "back", webD W ps ts]) S) :
    lam5a W P (x0 :: x1 :: x2 :: x3 :: some d :: rest) S Q ∧ lam5b W P (x0 :: x1 :: x2 :: x3 :: some d :: rest) S Q := by
  have one : ∀ {ps' ts'}, ReadsAs d ps' ts' → ps' = ps ∧ ts' = ts := fun ⟨s, e, h⟩ => by
    obtain ⟨s', e', h'⟩ := R
    rw [e] at e'
    cases e'
    exact h.one h'
  constructor
  · refine xCaughtV rfl hT ?_
    refine xCMethX ?_
    and_intros
    refine ⟨rfl, ?_⟩
    and_intros
    refine ⟨d, n, m, rfl, V, hm, fun ps' ts' h => ?_, fun h => absurd R (h _ _)⟩
    obtain ⟨rfl, rfl⟩ := one h
    exact .of qq
  · refine xCaughtV rfl hT ?_
    refine xCMethKX ?_
    and_intros
    refine ⟨rfl, ?_⟩
    and_intros
    refine ⟨d, n, m, rfl, V, hm, fun ps' ts' h => ?_, fun h => absurd R (h _ _)⟩
    obtain ⟨rfl, rfl⟩ := one h
    exact .of qq
theorem lam5R {z : Str} (hT : S (P "k05_right") = some (.tb "_law_right.<locals>.<lambda>")) (V : ValB n m d) (hm : m ≤ 30000) (R : ∀ ps ts, ¬ ReadsAs d ps ts) (hz : ShownV d z) (qq : Q (T6 "text" z) S) :
    lam5a W P (x0 :: x1 :: x2 :: x3 :: some d :: rest) S Q ∧ lam5b W P (x0 :: x1 :: x2 :: x3 :: some d :: rest) S Q := by
  have e : SortV "InvalidText" [("given", d)] fun d => Q d S := ⟨fun z => absurd z (by decide +kernel), fun _ => ⟨d, z, rfl, hz, by
    show Q (.tup [.str (wordOf "InvalidText"), .str z]) S
    rw [show wordOf "InvalidText" = "text" by decide +kernel]
    exact qq⟩⟩
  constructor
  · refine xCaughtV rfl hT ?_
    refine xCMethX ?_
    and_intros
    refine ⟨rfl, ?_⟩
    and_intros
    exact ⟨d, n, m, rfl, V, hm, fun ps' ts' h => absurd h (R _ _), fun h => sortQV (by decide +kernel) e⟩
  · refine xCaughtV rfl hT ?_
    refine xCMethKX ?_
    and_intros
    refine ⟨rfl, ?_⟩
    and_intros
    exact ⟨d, n, m, rfl, V, hm, fun ps' ts' h => absurd h (R _ _), fun h => sortQV (by decide +kernel) e⟩
end
def bnd5 : Nat → Nat
  | 0 => 6000
  | i + 1 => 2 * bnd5 i + 20
def sp_k05_right (W : Addr) (P : Str → Addr) : DSp := fun ds S Q E => ∃ (p : Addr) (a b c : Int), ds = [.obj p] ∧ S p = some (pan3 a b c) ∧ S (P "k05_right") = some (.tb "_law_right.<locals>.<lambda>") ∧ ∀ a' b' c', Q (.bl true) (S.set p (pan3 a' b' c'))
def w_k05_right (W : Addr) (P : Str → Addr) : WS := (wSeq (wCl (wFor (wRng1 (wCons (wC (.int 10)) wNil)) (gV 1) (wSeq (wAsg (wIf (wB (wO oGt (wFn (sp_cup_sip W) [] (wCons (wV 0) (wCons (wC (.int 4)) wNil))) (wC (.int 0)))) (wFn (sp_cup_pageT W) [] (wCons (wFn (sp_cup_netT W) [] (wCons (wV 0) (wCons (wC (.int 5)) (wCons (wC (.int 7)) wNil)))) wNil)) (wFn (sp_k05_great W) [] (wCons (wV 0) wNil))) (gV 2))
    (wSeq (wFor (wRng1 (wCons (wFn (sp_cup_sip W) [] (wCons (wV 0) (wCons (wC (.int 3)) wNil))) wNil)) (gV 3) (wAsg (wFn (sp_k05_bent W) [] (wCons (wV 0) (wCons (wV 2) wNil))) (gV 2)))
    (wSeq (wAsg (wFn (sp_cup_of W) [] (wCons (wV 0) (wCons (wO oAdd (wO oMul (wLst (wCons (wV 2) wNil)) (wC (.int 9))) (wLst (wCons (wC .non) (wCons (wC (.int 5)) (wCons (wTup (wCons (wV 2) wNil)) (wCons (wLst (wCons (wV 2) wNil)) (wCons wDicF (wCons (wC (.str "")) (wCons (wC (.str "places")) (wCons (wUpper (wV 2)) wNil)))))))))) wNil))) (gV 4))
    (wSeq (wAsg (wFn (sp_k05_net_in W) [] (wCons (wV 4) wNil)) (gV 5))
    (wSeq (wAsg (wNew (wCons (wLam (P "k05_right") "_law_right.<locals>.<lambda>" ["_law_act_here", "_law_back", "_law_e"] (fun f sdG sd => w_cup_caughtV W (wCMethX W (sp_Web_readE W) [] (wC (.obj W)) (wCons (wV 4) wNil)) f (P "k05_right") "_law_right.<locals>.<lambda>" sdG sd)) wNil)) (gV 6))
    (wSeq (wDrop (wBM "list" mAppend (wV 6) (wCons (wLam (P "k05_right") "_law_right.<locals>.<lambda>" ["_law_act_here", "_law_back", "_law_e"] (fun f sdG sd => w_cup_caughtV W (wCMethKX W (sp_Web_readE W) catC (wC (.obj W)) (wCons (wV 4) wNil)) f (P "k05_right") "_law_right.<locals>.<lambda>" sdG sd)) wNil)))
    (wIfS (wB (wO oIsN (wV 5) (wC .non))) (wIfS (wB (wO oNe (wV 6) (wO oMul (wLst (wCons (wTup (wCons (wC (.str "text")) (wCons (wCall cReprV (wCons (wV 4) wNil)) wNil))) wNil)) (wC (.int 2))))) (wRet (wC (.bl false))) wNext) (wIfS (wOr (wB (wO oNe (wLcP (wSeqI (wV 6)) (.n 7) wYes (wO oIx (wV 7) (wC (.int 0))) [7]) (wO oMul (wLst (wCons (wC (.str "back")) wNil)) (wC (.int 2))))) (wB (wO oNe (wCall cRepr (wCons (wLst (wCons (wFld W "row" (wO oIx (wO oIx (wV 6) (wC (.int 0))) (wC (.int 1)))) (wCons (wFld W "pairs" (wO oIx (wO oIx (wV 6) (wC (.int 1))) (wC (.int 1)))) wNil))) wNil)) (wCall cRepr (wCons (wCall cList (wCons (wV 5) wNil)) wNil))))) (wRet (wC (.bl false))) wNext))))))))))
    (wRet (wC (.bl true))))
theorem pure_k05_right (W : Addr) (P : Str → Addr) : ∀ ds S Q E, sp_k05_right W P ds S Q E → w_k05_right W P (endsOf Q) (startD ["_law_cup_here", "_law_turn", "_law_page_here", "_law_again", "_law_thing", "_law_due", "_law_came", "_law_each"] ds) S := by
  rintro ds S Q E ⟨p, a, b, c, rfl, hp, hT, q⟩
  have nT : P "k05_right" ≠ p := fun e => by rw [e, hp] at hT; cases hT
  refine xFn ?_
  show w_k05_right W P _ [some _, none, none, none, none, none, none, none] S
  unfold w_k05_right
  and_intros
  refine rng1N (k := 10) (by omega) ?_
  refine forR (fun x : SO × Option D × Option D × Option D × Option D × Option D × Option D => [some (.obj p), x.2.1, x.2.2.1, x.2.2.2.1, x.2.2.2.2.1, x.2.2.2.2.2.1, x.2.2.2.2.2.2, none]) (fun x => x.1) (fun _ x => UpS S x.1 p) (S, none, none, none, none, none, none) (.refl hp) ?_ ?_
  · rintro i ⟨S1, c1, c2, c3, c4, c5, c6⟩ hi U
    have U : UpS S S1 p := U
    and_intros
    generalize hN : wSeq (wFor (wRng1 (wCons (wFn (sp_cup_sip W) _ _) _)) (gV 3) _) _ = N
    have rest : ∀ (bk : SD → SO → Prop) (s : Str) (S1 : SO), UpS S S1 p → Asc s → s.length ≤ 6000 → N ⟨Turn (fun x : SO × Option D × Option D × Option D × Option D × Option D × Option D => [some (.obj p), x.2.1, x.2.2.1, x.2.2.2.1, x.2.2.2.2.1, x.2.2.2.2.2.1, x.2.2.2.2.2.2, none]) (fun x => x.1) (fun _ x => UpS S x.1 p) (i + 1), Cl Q, bk, Turn (fun x : SO × Option D × Option D × Option D × Option D × Option D × Option D => [some (.obj p), x.2.1, x.2.2.1, x.2.2.2.1, x.2.2.2.2.1, x.2.2.2.2.2.1, x.2.2.2.2.2.2, none]) (fun x => x.1) (fun _ x => UpS S x.1 p) (i + 1)⟩ [some (.obj p), some (.int (i : Nat)), some (.str s), c3, c4, c5, c6, none] S1 := by
      intro bk s S1 U hs hl
      subst hN
      obtain ⟨a, b, c, e⟩ := U.pan
      and_intros
      refine sipN e (by decide) (by decide) fun r hr a b c => ?_
      have hr : r < 3 := hr
      and_intros
      refine rng1N (by omega) ?_
      refine forR (fun x : (Int × Int × Int) × Str × Option D => [some (.obj p), some (.int (i : Nat)), some (.str x.2.1), x.2.2, c4, c5, c6, none]) (fun x => S1.set p (pan3 x.1.1 x.1.2.1 x.1.2.2)) (fun i x => Asc x.2.1 ∧ x.2.1.length ≤ bnd5 i) ((a, b, c), s, c3) ⟨hs, hl⟩ ?_ ?_
      · rintro i2 ⟨⟨a, b, c⟩, s2, c3⟩ hi2 ⟨h1, h2⟩
        have h2 : s2.length ≤ bnd5 i2 := h2
        have hb : bnd5 i2 ≤ 14000 := by
          have : i2 = 0 ∨ i2 = 1 := by omega
          rcases this with rfl | rfl <;> decide
        and_intros
        refine ⟨p, a, b, c, s2, rfl, set_same, h1, by omega, fun z a b c z1 z2 => ?_⟩
        rw [set_set]
        and_intros
        exact .of ((a, b, c), z, some (.int (i2 : Nat))) ⟨z1, (show z.length ≤ 2 * bnd5 i2 + 20 by omega)⟩
      · rintro ⟨⟨a, b, c⟩, s2, c3⟩ ⟨h1, h2⟩
        have h2 : s2.length ≤ bnd5 r := h2
        have hb : bnd5 r ≤ 30000 := by
          have : r = 0 ∨ r = 1 ∨ r = 2 := by omega
          rcases this with rfl | rfl | rfl <;> decide
        obtain ⟨u1, u2⟩ := asc_upper h1
        and_intros
        refine lMulK (k := 9) ?_ (by decide) (by simp)
        and_intros
        refine xUpper ?_
        and_intros
        refine ⟨s2, rfl, by omega, ?_⟩
        and_intros
        refine oLst (show 9 + 8 ≤ 1000000 by decide) ?_
        and_intros
        refine ⟨p, a, b, c, .lst _, _, rfl, set_same, rfl, by simp, (show 9 + 8 ≤ 1000000 by decide), fun d hd a b c => ?_⟩
        rw [set_set]
        obtain ⟨V, z, hz, sz⟩ := out5 h1 (by omega) d hd
        have U2 : UpS S (S1.set p (pan3 a b c)) p := U.cup
        generalize S1.set p (pan3 a b c) = S2 at U2
        have hT1 : S2 (P "k05_right") = some (.tb "_law_right.<locals>.<lambda>") := U2.up _ _ nT hT
        and_intros
        refine ⟨d, 1, 30000, rfl, V, Nat.le_refl _, fun ps ts R => ?_, fun R => ?_⟩
        · have okW := R.choose_spec.2.2
          and_intros
          refine (lam5O hT1 V (Nat.le_refl _) R ?_).1
          and_intros
          intro q' hq'
          have nTq : P "k05_right" ≠ q' := fun e => by rw [e, hq'] at hT1; cases hT1
          have hT2 : (S2.set q' (DO.lst [.tup [.str "back", webD W ps ts]])) (P "k05_right") = some (.tb "_law_right.<locals>.<lambda>") := by rw [set_ne nTq]; exact hT1
          and_intros
          refine bmObj set_same ?_
          refine (lam5O hT2 V (Nat.le_refl _) R ?_).2
          and_intros
          refine apM (f := fun d : D => d) (l := [_]) set_same (by simp) ?_
          rw [set_set]
          and_intros
          refine isNB rfl ?_
          and_intros
          refine lcM [D.tup [.str "back", webD W ps ts], .tup [.str "back", webD W ps ts]] (fun d => d) (fun _ => .str "back") ?_ (by simp) (fun y hy S' e => ?_) ?_
          · and_intros
            exact ⟨_, set_same, srcO set_same rfl⟩
          · have hy : y = D.tup [.str "back", webD W ps ts] := by simpa using hy
            subst hy
            (simp only [prD, putNT, wipeD, putAll, List.set_cons_zero, List.set_cons_succ, List.length_cons, List.length_nil, true_and]; and_intros)
            refine ixTup at0 ?_
            exact ⟨rfl, rfl⟩
          · and_intros
            refine lMul26 ?_
            refine ⟨.list [.str "back", .str "back"], .list [.str "back", .str "back"], rfl, rfl, by decide +kernel, by decide +kernel, ?_⟩
            refine isNB (by decide +kernel) ?_
            and_intros
            refine ixObj set_same at0 ?_
            and_intros
            refine ixTup at1 ?_
            and_intros
            refine ixObj set_same at1 ?_
            and_intros
            refine ixTup at1 ?_
            and_intros
            refine ⟨rfl, netP ps ts, pyS_net _ ps ts, netP_ok okW, ?_⟩
            and_intros
            refine ⟨_, rfl, ?_⟩
            and_intros
            refine ⟨rfl, netP ps ts, pyS_netT _ ps ts, netP_ok okW, ?_⟩
            and_intros
            refine isNB (by simp) ?_
            and_intros
            exact .of (S2.set q' (.lst [D.tup [.str "back", webD W ps ts], .tup [.str "back", webD W ps ts]]), _, _, _, _, _, _) (U2.new hq')
        · and_intros
          refine (lam5R hT1 V (Nat.le_refl _) R hz ?_).1
          and_intros
          intro q' hq'
          have nTq : P "k05_right" ≠ q' := fun e => by rw [e, hq'] at hT1; cases hT1
          have hT2 : (S2.set q' (DO.lst [T6 "text" z])) (P "k05_right") = some (.tb "_law_right.<locals>.<lambda>") := by rw [set_ne nTq]; exact hT1
          and_intros
          refine bmObj set_same ?_
          refine (lam5R hT2 V (Nat.le_refl _) R hz ?_).2
          and_intros
          refine apM (f := fun d : D => d) (l := [_]) set_same (by simp) ?_
          rw [set_set]
          and_intros
          refine reprV1 hz ?_
          and_intros
          refine lMul26 ?_
          refine neCame set_same (sOk_lit _) sz ?_
          refine isNB rfl ?_
          and_intros
          exact .of (S2.set q' (.lst [T6 "text" z, T6 "text" z]), _, _, _, _, _, _) (U2.new hq')
    obtain ⟨a, b, c, e⟩ := U.pan
    refine sipN e (by decide) (by decide) fun r hr a b c => ?_
    and_intros
    refine isD (fun h => ?_) fun h => ?_
    · and_intros
      refine ⟨p, a, b, c, 5, 7, rfl, set_same, by decide, by decide, by decide, fun ts ls a b c ok _ _ => ?_⟩
      rw [set_set]
      have wd : ∀ x ∈ ts, Wd 8 x := fun x hx => ⟨asc_name (ok.nm x hx), by have := (name_chars (ok.nm x hx)).2.1; omega⟩
      and_intros
      refine ⟨ts, ls, rfl, wd, fun t ht => ⟨wd _ (ok.tie t ht).1, wd _ (ok.tie t ht).2.1⟩, by have := ok.few; omega, by have := ok.tfew; omega, fun z z1 z2 => ?_⟩
      and_intros
      exact rest _ z _ U.cup z1 z2
    · and_intros
      refine ⟨p, a, b, c, rfl, set_same, fun z a b c z1 z2 => ?_⟩
      rw [set_set]
      and_intros
      exact rest _ z _ U.cup z1 z2
  · rintro ⟨S1, c1, c2, c3, c4, c5, c6⟩ U
    obtain ⟨a, b, c, wk⟩ := (show UpS S S1 p from U).wk (sd := [some (.obj p), c1, c2, c3, c4, c5, c6, none])
    refine ⟨_, _, wk, ?_⟩
    and_intros
    exact cl (q a b c)
def sp_k05_law (W : Addr) (P : Str → Addr) : DSp := LawSpT 63 [(P "k05_right", "_law_right.<locals>.<lambda>")]
def w_k05_law (W : Addr) (P : Str → Addr) : WS := (wRet (wCall cAll (wCons (wLcF (wRng1 (wCons (wCall cMax (wCons (wC (.int 2)) (wCons (wCall cMin (wCons (wCall cLen (wCons (wV 0) wNil)) (wCons (wC (.int 6)) wNil))) wNil))) wNil)) (.n 1) wYes (wFn (sp_k05_right W P) [] (wCons (wFn (sp_cup_cup W) [] (wCons (wV 0) (wCons (wV 1) wNil))) wNil)) [1]) wNil)))
theorem pure_k05_law (W : Addr) (P : Str → Addr) : ∀ ds S Q E, sp_k05_law W P ds S Q E → w_k05_law W P (endsOf Q) (startD ["_law_script", "_law_k"] ds) S :=
  pure_cup_lawT W 6 (by decide) fun p a b c S Q hp hT q => ⟨p, a, b, c, rfl, hp, hT (P "k05_right", "_law_right.<locals>.<lambda>") (by simp), q⟩
end
end L2.DL
namespace L2.DL
open PySem PySem.Spec PyProof.Rows
theorem len_is_name (W : Addr) : ∀ ds S Q E, sp_is_name W ds S Q E → ds.length = ["value"].length := by
  rintro ds S Q E ⟨_, rfl, _⟩
  rfl
theorem len_wrong_place (W : Addr) : ∀ ds S Q E, sp_wrong_place W ds S Q E → ds.length = ["values"].length := by
  rintro ds S Q E ⟨_, rfl, _⟩
  rfl
theorem len_is_pair (W : Addr) : ∀ ds S Q E, sp_is_pair W ds S Q E → ds.length = ["places", "value"].length := by
  rintro ds S Q E ⟨_, _, rfl, _⟩
  rfl
theorem len_wrong_tie (W : Addr) : ∀ ds S Q E, sp_wrong_tie W ds S Q E → ds.length = ["places", "values"].length := by
  rintro ds S Q E ⟨_, _, rfl, _⟩
  rfl
theorem len_check_places (W : Addr) : ∀ ds S Q E, sp_check_places W ds S Q E → ds.length = ["places"].length := by
  rintro ds S Q E ⟨_, rfl, _⟩
  rfl
theorem len_check_ties (W : Addr) : ∀ ds S Q E, sp_check_ties W ds S Q E → ds.length = ["places", "ties"].length := by
  rintro ds S Q E ⟨_, _, rfl, _⟩
  rfl
theorem len_Web_init (W : Addr) : ∀ ds S Q E, sp_Web_init W ds S Q E → ds.length = ["self", "places", "ties"].length := by
  rintro ds S Q E ⟨_, _, _, rfl, _⟩
  rfl
theorem len_is_nameA (W : Addr) : ∀ ds S Q E, sp_is_nameA W ds S Q E → ds.length = ["value"].length := by
  rintro ds S Q E ⟨_, _, _, rfl, _⟩
  rfl
theorem len_wrong_placeF (W : Addr) : ∀ ds S Q E, sp_wrong_placeF W ds S Q E → ds.length = ["values"].length := by
  rintro ds S Q E ⟨_, _, _, rfl, _⟩
  rfl
theorem len_is_pairL (W : Addr) : ∀ ds S Q E, sp_is_pairL W ds S Q E → ds.length = ["places", "value"].length := by
  rintro ds S Q E ⟨_, _, _, _, rfl, _⟩
  rfl
theorem len_wrong_tieF (W : Addr) : ∀ ds S Q E, sp_wrong_tieF W ds S Q E → ds.length = ["places", "values"].length := by
  rintro ds S Q E ⟨_, _, _, _, rfl, _⟩
  rfl
theorem len_Web_readE (W : Addr) : ∀ ds S Q E, sp_Web_readE W ds S Q E → ds.length = ["cls", "text"].length := by
  rintro ds S Q E ⟨_, _, _, rfl, _⟩
  rfl
theorem len_cup_cup (W : Addr) : ∀ ds S Q E, sp_cup_cup W ds S Q E → ds.length = ["_law_script", "_law_k"].length := by
  rintro ds S Q E ⟨_, _, rfl, _⟩
  rfl
theorem len_cup_sip (W : Addr) : ∀ ds S Q E, sp_cup_sip W ds S Q E → ds.length = ["_law_cup_here", "_law_many"].length := by
  rintro ds S Q E ⟨_, _, _, _, _, rfl, _⟩
  rfl
theorem len_cup_of (W : Addr) : ∀ ds S Q E, sp_cup_of W ds S Q E → ds.length = ["_law_cup_here", "_law_things"].length := by
  rintro ds S Q E ⟨_, _, _, _, _, _, rfl, _⟩
  rfl
theorem len_cup_folkT (W : Addr) : ∀ ds S Q E, sp_cup_folkT W ds S Q E → ds.length = ["_law_cup_here", "_law_many"].length := by
  rintro ds S Q E ⟨_, _, _, _, _, rfl, _⟩
  rfl
theorem len_cup_tiesT (W : Addr) : ∀ ds S Q E, sp_cup_tiesT W ds S Q E → ds.length = ["_law_cup_here", "_law_folk_here", "_law_most"].length := by
  rintro ds S Q E ⟨_, _, _, _, _, _, rfl, _⟩
  rfl
theorem len_cup_netT (W : Addr) : ∀ ds S Q E, sp_cup_netT W ds S Q E → ds.length = ["_law_cup_here", "_law_most", "_law_ties_most"].length := by
  rintro ds S Q E ⟨_, _, _, _, _, _, rfl, _⟩
  rfl
theorem len_cup_pageT (W : Addr) : ∀ ds S Q E, sp_cup_pageT W ds S Q E → ds.length = ["_law_net_here"].length := by
  rintro ds S Q E ⟨_, _, rfl, _⟩
  rfl
theorem len_cup_sortV (W : Addr) : ∀ ds S Q E, sp_cup_sortV W ds S Q E → ds.length = ["_law_e"].length := by
  rintro ds S Q E ⟨_, _, _, rfl, _⟩
  rfl
theorem len_k05_net_in (W : Addr) : ∀ ds S Q E, sp_k05_net_in W ds S Q E → ds.length = ["_law_thing"].length := by
  rintro ds S Q E ⟨_, _, _, rfl, _⟩
  rfl
theorem len_k05_bent (W : Addr) : ∀ ds S Q E, sp_k05_bent W ds S Q E → ds.length = ["_law_cup_here", "_law_page_here"].length := by
  rintro ds S Q E ⟨_, _, _, _, _, rfl, _⟩
  rfl
theorem len_k05_great (W : Addr) : ∀ ds S Q E, sp_k05_great W ds S Q E → ds.length = ["_law_cup_here"].length := by
  rintro ds S Q E ⟨_, _, _, _, rfl, _⟩
  rfl
theorem len_k05_right (W : Addr) (P : Str → Addr) : ∀ ds S Q E, sp_k05_right W P ds S Q E → ds.length = ["_law_cup_here"].length := by
  rintro ds S Q E ⟨_, _, _, _, rfl, _⟩
  rfl
theorem len_k05_law (W : Addr) (P : Str → Addr) : ∀ ds S Q E, sp_k05_law W P ds S Q E → ds.length = ["_law_script"].length := by
  rintro ds S Q E ⟨_, rfl, _⟩
  rfl
/-! ### the program by places -/
def topS (i : Nat) : Stmt := PySem.Challenge.pw_fewroads_k05_whole_texts_bent.main.body.getD i (.Pass ⟨0, 0, 0, 0⟩)
abbrev s_is_name : Stmt := topS 18
theorem sc_is_name : FnScope ["value", "sign"] ["value"] (defScope s_is_name) := ⟨rfl, rfl, rfl, by decide +kernel, rfl, by decide +kernel, by decide +kernel⟩
abbrev s_wrong_place : Stmt := topS 22
theorem sc_wrong_place : FnScope ["values", "index", "value"] ["values"] (defScope s_wrong_place) := ⟨rfl, rfl, rfl, by decide +kernel, rfl, by decide +kernel, by decide +kernel⟩
abbrev s_is_pair : Stmt := topS 23
theorem sc_is_pair : FnScope ["places", "value", "place"] ["places", "value"] (defScope s_is_pair) := ⟨rfl, rfl, rfl, by decide +kernel, rfl, by decide +kernel, by decide +kernel⟩
abbrev s_wrong_tie : Stmt := topS 24
theorem sc_wrong_tie : FnScope ["places", "values", "seen", "index", "value"] ["places", "values"] (defScope s_wrong_tie) := ⟨rfl, rfl, rfl, by decide +kernel, rfl, by decide +kernel, by decide +kernel⟩
abbrev s_check_places : Stmt := topS 25
theorem sc_check_places : FnScope ["places", "wrong"] ["places"] (defScope s_check_places) := ⟨rfl, rfl, rfl, by decide +kernel, rfl, by decide +kernel, by decide +kernel⟩
abbrev s_check_ties : Stmt := topS 26
theorem sc_check_ties : FnScope ["places", "ties", "wrong"] ["places", "ties"] (defScope s_check_ties) := ⟨rfl, rfl, rfl, by decide +kernel, rfl, by decide +kernel, by decide +kernel⟩
abbrev s_Web_init : Stmt := inClass (topS 27) 0
theorem sc_Web_init : FnScope ["self", "places", "ties", "tie"] ["self", "places", "ties"] (defScope s_Web_init) := ⟨rfl, rfl, rfl, by decide +kernel, rfl, by decide +kernel, by decide +kernel⟩
abbrev s_is_nameA : Stmt := topS 18
theorem sc_is_nameA : FnScope ["value", "sign"] ["value"] (defScope s_is_nameA) := ⟨rfl, rfl, rfl, by decide +kernel, rfl, by decide +kernel, by decide +kernel⟩
abbrev s_wrong_placeF : Stmt := topS 22
theorem sc_wrong_placeF : FnScope ["values", "index", "value"] ["values"] (defScope s_wrong_placeF) := ⟨rfl, rfl, rfl, by decide +kernel, rfl, by decide +kernel, by decide +kernel⟩
abbrev s_is_pairL : Stmt := topS 23
theorem sc_is_pairL : FnScope ["places", "value", "place"] ["places", "value"] (defScope s_is_pairL) := ⟨rfl, rfl, rfl, by decide +kernel, rfl, by decide +kernel, by decide +kernel⟩
abbrev s_wrong_tieF : Stmt := topS 24
theorem sc_wrong_tieF : FnScope ["places", "values", "seen", "index", "value"] ["places", "values"] (defScope s_wrong_tieF) := ⟨rfl, rfl, rfl, by decide +kernel, rfl, by decide +kernel, by decide +kernel⟩
abbrev s_Web_readE : Stmt := inClass (topS 27) 1
theorem sc_Web_readE : FnScope ["cls", "text", "rows", "places", "ties", "row"] ["cls", "text"] (defScope s_Web_readE) := ⟨rfl, rfl, rfl, by decide +kernel, rfl, by decide +kernel, by decide +kernel⟩
abbrev s_cup_cup : Stmt := topS 29
theorem sc_cup_cup : FnScope ["_law_script", "_law_k", "_law_cell", "_law_mixed", "_law_each"] ["_law_script", "_law_k"] (defScope s_cup_cup) := ⟨rfl, rfl, rfl, by decide +kernel, rfl, by decide +kernel, by decide +kernel⟩
abbrev s_cup_sip : Stmt := topS 30
theorem sc_cup_sip : FnScope ["_law_cup_here", "_law_many", "_law_old", "_law_digit"] ["_law_cup_here", "_law_many"] (defScope s_cup_sip) := ⟨rfl, rfl, rfl, by decide +kernel, rfl, by decide +kernel, by decide +kernel⟩
abbrev s_cup_of : Stmt := topS 31
theorem sc_cup_of : FnScope ["_law_cup_here", "_law_things"] ["_law_cup_here", "_law_things"] (defScope s_cup_of) := ⟨rfl, rfl, rfl, by decide +kernel, rfl, by decide +kernel, by decide +kernel⟩
abbrev s_cup_folkT : Stmt := topS 32
theorem sc_cup_folkT : FnScope ["_law_cup_here", "_law_many", "_law_start", "_law_menu", "_law_leap", "_law_letters", "_law_stem", "_law_heads", "_law_k"] ["_law_cup_here", "_law_many"] (defScope s_cup_folkT) := ⟨rfl, rfl, rfl, by decide +kernel, rfl, by decide +kernel, by decide +kernel⟩
abbrev s_cup_tiesT : Stmt := topS 33
theorem sc_cup_tiesT : FnScope ["_law_cup_here", "_law_folk_here", "_law_most", "_law_found", "_law_turn", "_law_pair"] ["_law_cup_here", "_law_folk_here", "_law_most"] (defScope s_cup_tiesT) := ⟨rfl, rfl, rfl, by decide +kernel, rfl, by decide +kernel, by decide +kernel⟩
abbrev s_cup_netT : Stmt := topS 34
theorem sc_cup_netT : FnScope ["_law_cup_here", "_law_most", "_law_ties_most", "_law_folk_here"] ["_law_cup_here", "_law_most", "_law_ties_most"] (defScope s_cup_netT) := ⟨rfl, rfl, rfl, by decide +kernel, rfl, by decide +kernel, by decide +kernel⟩
abbrev s_cup_pageT : Stmt := topS 35
theorem sc_cup_pageT : FnScope ["_law_net_here", "_law_pair"] ["_law_net_here"] (defScope s_cup_pageT) := ⟨rfl, rfl, rfl, by decide +kernel, rfl, by decide +kernel, by decide +kernel⟩
abbrev s_cup_sortV : Stmt := topS 36
theorem sc_cup_sortV : FnScope ["_law_e", "_law_own", "_law_under", "_law_plain", "_law_at", "_law_words"] ["_law_e"] (defScope s_cup_sortV) := ⟨rfl, rfl, rfl, by decide +kernel, rfl, by decide +kernel, by decide +kernel⟩
abbrev s_cup_caughtV : Stmt := topS 37
theorem sc_cup_caughtV : FnScope ["_law_act_here", "_law_back", "_law_e"] ["_law_act_here"] (defScope s_cup_caughtV) := ⟨rfl, rfl, rfl, by decide +kernel, rfl, by decide +kernel, by decide +kernel⟩
abbrev s_k05_net_in : Stmt := topS 38
theorem sc_k05_net_in : FnScope ["_law_thing", "_law_lines_here", "_law_folk_here", "_law_k", "_law_pairs", "_law_line", "_law_sign", "_law_words", "_law_each"] ["_law_thing"] (defScope s_k05_net_in) := ⟨rfl, rfl, rfl, by decide +kernel, rfl, by decide +kernel, by decide +kernel⟩
abbrev s_k05_bent : Stmt := topS 39
theorem sc_k05_bent : FnScope ["_law_cup_here", "_law_page_here", "_law_way_here", "_law_at", "_law_sign", "_law_lines_here", "_law_spot", "_law_to", "_law_words", "_law_here", "_law_there", "_law_found"] ["_law_cup_here", "_law_page_here"] (defScope s_k05_bent) := ⟨rfl, rfl, rfl, by decide +kernel, rfl, by decide +kernel, by decide +kernel⟩
abbrev s_k05_great : Stmt := topS 40
theorem sc_k05_great : FnScope ["_law_cup_here", "_law_letters", "_law_folk_here", "_law_pairs", "_law_k", "_law_j"] ["_law_cup_here"] (defScope s_k05_great) := ⟨rfl, rfl, rfl, by decide +kernel, rfl, by decide +kernel, by decide +kernel⟩
abbrev s_k05_right : Stmt := topS 41
theorem sc_k05_right : FnScope ["_law_cup_here", "_law_turn", "_law_page_here", "_law_again", "_law_thing", "_law_due", "_law_came", "_law_each"] ["_law_cup_here"] (defScope s_k05_right) := ⟨rfl, rfl, rfl, by decide +kernel, rfl, by decide +kernel, by decide +kernel⟩
abbrev s_k05_law : Stmt := topS 42
theorem sc_k05_law : FnScope ["_law_script", "_law_k"] ["_law_script"] (defScope s_k05_law) := ⟨rfl, rfl, rfl, by decide +kernel, rfl, by decide +kernel, by decide +kernel⟩
abbrev s_g_places : Stmt := inClass (topS 27) 2
theorem sc_g_places : FnScope ["self"] ["self"] (defScope s_g_places) := ⟨rfl, rfl, rfl, by decide +kernel, rfl, by decide +kernel, by decide +kernel⟩
abbrev s_g_ties : Stmt := inClass (topS 27) 3
theorem sc_g_ties : FnScope ["self"] ["self"] (defScope s_g_ties) := ⟨rfl, rfl, rfl, by decide +kernel, rfl, by decide +kernel, by decide +kernel⟩
/-! ### what the top has written -/
structure Txt (P : Program) (K : PySem.W.Frag) (mg : Str → Option Value) where
  a_CannotBe : Addr
  m_CannotBe : mg "CannotBe" = some (.ref a_CannotBe)
  n_CannotBe : PySem.W.nsIn K mainGlobals "CannotBe" = some (some (.ref a_CannotBe))
  a_InvalidNumber : Addr
  m_InvalidNumber : mg "InvalidNumber" = some (.ref a_InvalidNumber)
  n_InvalidNumber : PySem.W.nsIn K mainGlobals "InvalidNumber" = some (some (.ref a_InvalidNumber))
  a_InvalidParting : Addr
  m_InvalidParting : mg "InvalidParting" = some (.ref a_InvalidParting)
  n_InvalidParting : PySem.W.nsIn K mainGlobals "InvalidParting" = some (some (.ref a_InvalidParting))
  a_InvalidPlaces : Addr
  m_InvalidPlaces : mg "InvalidPlaces" = some (.ref a_InvalidPlaces)
  n_InvalidPlaces : PySem.W.nsIn K mainGlobals "InvalidPlaces" = some (some (.ref a_InvalidPlaces))
  a_InvalidText : Addr
  m_InvalidText : mg "InvalidText" = some (.ref a_InvalidText)
  n_InvalidText : PySem.W.nsIn K mainGlobals "InvalidText" = some (some (.ref a_InvalidText))
  a_InvalidTie : Addr
  m_InvalidTie : mg "InvalidTie" = some (.ref a_InvalidTie)
  n_InvalidTie : PySem.W.nsIn K mainGlobals "InvalidTie" = some (some (.ref a_InvalidTie))
  a_InvalidTies : Addr
  m_InvalidTies : mg "InvalidTies" = some (.ref a_InvalidTies)
  n_InvalidTies : PySem.W.nsIn K mainGlobals "InvalidTies" = some (some (.ref a_InvalidTies))
  a_NotAWeb : Addr
  m_NotAWeb : mg "NotAWeb" = some (.ref a_NotAWeb)
  n_NotAWeb : PySem.W.nsIn K mainGlobals "NotAWeb" = some (some (.ref a_NotAWeb))
  a_NotMet : Addr
  m_NotMet : mg "NotMet" = some (.ref a_NotMet)
  n_NotMet : PySem.W.nsIn K mainGlobals "NotMet" = some (some (.ref a_NotMet))
  a_NotRight : Addr
  m_NotRight : mg "NotRight" = some (.ref a_NotRight)
  n_NotRight : PySem.W.nsIn K mainGlobals "NotRight" = some (some (.ref a_NotRight))
  a_NotThere : Addr
  m_NotThere : mg "NotThere" = some (.ref a_NotThere)
  n_NotThere : PySem.W.nsIn K mainGlobals "NotThere" = some (some (.ref a_NotThere))
  a_NothingToUndo : Addr
  m_NothingToUndo : mg "NothingToUndo" = some (.ref a_NothingToUndo)
  n_NothingToUndo : PySem.W.nsIn K mainGlobals "NothingToUndo" = some (some (.ref a_NothingToUndo))
  a_TooMany : Addr
  m_TooMany : mg "TooMany" = some (.ref a_TooMany)
  n_TooMany : PySem.W.nsIn K mainGlobals "TooMany" = some (some (.ref a_TooMany))
  a_UnknownPlace : Addr
  m_UnknownPlace : mg "UnknownPlace" = some (.ref a_UnknownPlace)
  n_UnknownPlace : PySem.W.nsIn K mainGlobals "UnknownPlace" = some (some (.ref a_UnknownPlace))
  et : ErrT K nsA msA bsA
  i_InvalidText : Addr
  rz_InvalidText : PySem.ErrX.BaseF "ValueError" "ValueError.__new__" "ValueError.__init__" [.type "ValueError", .type "Exception", .type "BaseException", .type "object"] ∧ PySem.ErrX.ClsE K a_InvalidText "ValueError" "ValueError.__new__" [.type "ValueError", .type "Exception", .type "BaseException", .type "object"] ∧ PySem.ErrX.InitE P K a_InvalidText i_InvalidText "ValueError.__init__" "given"
  a_Web : Addr
  m_Web : mg "Web" = some (.ref a_Web)
  c_Web : Cls K a_Web
  n_marks : NoAttr K a_Web "marks"
  n_pairs : NoAttr K a_Web "pairs"
  n_row : NoAttr K a_Web "row"
  ins_Web : InsOk K a_Web
  kit0 : ∀ n ∈ tyNames, PySem.W.kitOne K (.type n) (.ref a_Web) = some false
  kit1 : PySem.W.kitOne K (.ref a_Web) (.ref a_Web) = some true
  a_is_name : Addr
  d_is_name : FuncData
  F_is_name : Fun K "is_name" "is_name" s_is_name a_is_name d_is_name
  m_is_name : mg "is_name" = some (.ref a_is_name)
  a_wrong_place : Addr
  d_wrong_place : FuncData
  F_wrong_place : Fun K "wrong_place" "wrong_place" s_wrong_place a_wrong_place d_wrong_place
  m_wrong_place : mg "wrong_place" = some (.ref a_wrong_place)
  a_is_pair : Addr
  d_is_pair : FuncData
  F_is_pair : Fun K "is_pair" "is_pair" s_is_pair a_is_pair d_is_pair
  m_is_pair : mg "is_pair" = some (.ref a_is_pair)
  a_wrong_tie : Addr
  d_wrong_tie : FuncData
  F_wrong_tie : Fun K "wrong_tie" "wrong_tie" s_wrong_tie a_wrong_tie d_wrong_tie
  m_wrong_tie : mg "wrong_tie" = some (.ref a_wrong_tie)
  a_check_places : Addr
  d_check_places : FuncData
  F_check_places : Fun K "check_places" "check_places" s_check_places a_check_places d_check_places
  m_check_places : mg "check_places" = some (.ref a_check_places)
  a_check_ties : Addr
  d_check_ties : FuncData
  F_check_ties : Fun K "check_ties" "check_ties" s_check_ties a_check_ties d_check_ties
  m_check_ties : mg "check_ties" = some (.ref a_check_ties)
  a_Web_init : Addr
  d_Web_init : FuncData
  v_Web_init : V
  F_Web_init : FunD K "__init__" "Web.__init__" (defArgs s_Web_init) (defBody s_Web_init) (defScope s_Web_init) [v_Web_init] [] a_Web_init d_Web_init
  k_Web : Mk K a_Web a_Web_init
  a_is_nameA : Addr
  d_is_nameA : FuncData
  F_is_nameA : Fun K "is_name" "is_name" s_is_nameA a_is_nameA d_is_nameA
  m_is_nameA : mg "is_name" = some (.ref a_is_nameA)
  a_wrong_placeF : Addr
  d_wrong_placeF : FuncData
  F_wrong_placeF : Fun K "wrong_place" "wrong_place" s_wrong_placeF a_wrong_placeF d_wrong_placeF
  m_wrong_placeF : mg "wrong_place" = some (.ref a_wrong_placeF)
  a_is_pairL : Addr
  d_is_pairL : FuncData
  F_is_pairL : Fun K "is_pair" "is_pair" s_is_pairL a_is_pairL d_is_pairL
  m_is_pairL : mg "is_pair" = some (.ref a_is_pairL)
  a_wrong_tieF : Addr
  d_wrong_tieF : FuncData
  F_wrong_tieF : Fun K "wrong_tie" "wrong_tie" s_wrong_tieF a_wrong_tieF d_wrong_tieF
  m_wrong_tieF : mg "wrong_tie" = some (.ref a_wrong_tieF)
  a_Web_readE : Addr
  d_Web_readE : FuncData
  F_Web_readE : Fun K "read" "Web.read" s_Web_readE a_Web_readE d_Web_readE
  r_Web : ClX.CRead K a_Web (.type "type")
  ep_read : Addr
  e_read : ClX.CMet K a_Web (.type "type") "read" ep_read a_Web_readE
  a_cup_cup : Addr
  d_cup_cup : FuncData
  F_cup_cup : Fun K "_law_cup" "_law_cup" s_cup_cup a_cup_cup d_cup_cup
  m_cup_cup : mg "_law_cup" = some (.ref a_cup_cup)
  a_cup_sip : Addr
  d_cup_sip : FuncData
  F_cup_sip : Fun K "_law_sip" "_law_sip" s_cup_sip a_cup_sip d_cup_sip
  m_cup_sip : mg "_law_sip" = some (.ref a_cup_sip)
  a_cup_of : Addr
  d_cup_of : FuncData
  F_cup_of : Fun K "_law_of" "_law_of" s_cup_of a_cup_of d_cup_of
  m_cup_of : mg "_law_of" = some (.ref a_cup_of)
  a_cup_folkT : Addr
  d_cup_folkT : FuncData
  F_cup_folkT : Fun K "_law_folk" "_law_folk" s_cup_folkT a_cup_folkT d_cup_folkT
  m_cup_folkT : mg "_law_folk" = some (.ref a_cup_folkT)
  a_cup_tiesT : Addr
  d_cup_tiesT : FuncData
  F_cup_tiesT : Fun K "_law_ties" "_law_ties" s_cup_tiesT a_cup_tiesT d_cup_tiesT
  m_cup_tiesT : mg "_law_ties" = some (.ref a_cup_tiesT)
  a_cup_netT : Addr
  d_cup_netT : FuncData
  F_cup_netT : Fun K "_law_net" "_law_net" s_cup_netT a_cup_netT d_cup_netT
  m_cup_netT : mg "_law_net" = some (.ref a_cup_netT)
  a_cup_pageT : Addr
  d_cup_pageT : FuncData
  F_cup_pageT : Fun K "_law_page" "_law_page" s_cup_pageT a_cup_pageT d_cup_pageT
  m_cup_pageT : mg "_law_page" = some (.ref a_cup_pageT)
  a_cup_sortV : Addr
  d_cup_sortV : FuncData
  F_cup_sortV : Fun K "_law_sort" "_law_sort" s_cup_sortV a_cup_sortV d_cup_sortV
  m_cup_sortV : mg "_law_sort" = some (.ref a_cup_sortV)
  a_cup_caughtV : Addr
  d_cup_caughtV : FuncData
  F_cup_caughtV : Fun K "_law_caught" "_law_caught" s_cup_caughtV a_cup_caughtV d_cup_caughtV
  m_cup_caughtV : mg "_law_caught" = some (.ref a_cup_caughtV)
  a_k05_net_in : Addr
  d_k05_net_in : FuncData
  F_k05_net_in : Fun K "_law_net_in" "_law_net_in" s_k05_net_in a_k05_net_in d_k05_net_in
  m_k05_net_in : mg "_law_net_in" = some (.ref a_k05_net_in)
  a_k05_bent : Addr
  d_k05_bent : FuncData
  F_k05_bent : Fun K "_law_bent_page" "_law_bent_page" s_k05_bent a_k05_bent d_k05_bent
  m_k05_bent : mg "_law_bent_page" = some (.ref a_k05_bent)
  a_k05_great : Addr
  d_k05_great : FuncData
  F_k05_great : Fun K "_law_great" "_law_great" s_k05_great a_k05_great d_k05_great
  m_k05_great : mg "_law_great" = some (.ref a_k05_great)
  a_k05_right : Addr
  d_k05_right : FuncData
  tc_k05_right : Addr
  FC_k05_right : FnAtC K "_law_right" s_k05_right a_k05_right d_k05_right (.ref tc_k05_right)
  F_k05_right : Fun K "_law_right" "_law_right" s_k05_right a_k05_right d_k05_right
  m_k05_right : mg "_law_right" = some (.ref a_k05_right)
  a_k05_law : Addr
  d_k05_law : FuncData
  F_k05_law : Fun K "law" "law" s_k05_law a_k05_law d_k05_law
  m_k05_law : mg "law" = some (.ref a_k05_law)
  a_g_places : Addr
  d_g_places : FuncData
  F_g_places : Fun K "places" "Web.places" s_g_places a_g_places d_g_places
  q_places : Addr
  p_places : PropOf K a_Web "places" q_places a_g_places
  a_g_ties : Addr
  d_g_ties : FuncData
  F_g_ties : Fun K "ties" "Web.ties" s_g_ties a_g_ties d_g_ties
  q_ties : Addr
  p_ties : PropOf K a_Web "ties" q_ties a_g_ties
  t_LETTERS : Tok
  m_LETTERS : mg "LETTERS" = some (.str "abcdefghijklmnopqrstuvwxyz" t_LETTERS)
  t_MOST_PLACES : Tok
  m_MOST_PLACES : mg "MOST_PLACES" = some (.int 40 t_MOST_PLACES)
  t_MOST_TIES : Tok
  m_MOST_TIES : mg "MOST_TIES" = some (.int 200 t_MOST_TIES)
  z_ArithmeticError : mg "ArithmeticError" = none
  z_LookupError : mg "LookupError" = none
  z_ValueError : mg "ValueError" = none
  z_abs : mg "abs" = none
  z_all : mg "all" = none
  z_divmod : mg "divmod" = none
  z_enumerate : mg "enumerate" = none
  z_int : mg "int" = none
  z_isinstance : mg "isinstance" = none
  z_len : mg "len" = none
  z_list : mg "list" = none
  z_max : mg "max" = none
  z_min : mg "min" = none
  z_range : mg "range" = none
  z_repr : mg "repr" = none
  z_str : mg "str" = none
  z_tuple : mg "tuple" = none
  tp : Str → Addr
structure TabsB (base : Heap) {P : Program} {K : PySem.W.Frag} {mg : Str → Option Value} (T : Txt P K mg) : Prop where
  k05_right : LamX.TabB base mg T.tc_k05_right (T.tp "k05_right")
section
variable {P : Program} {w : World} {K : PySem.W.Frag} {mg : Str → Option Value} {base : Heap}
theorem g_places (T : Txt P K mg) : FnOk P w K mg base CX0 1 T.a_g_places T.d_g_places ["self"] (getSp T.a_Web "row") := by
  obtain ⟨oc, od, kV, doc, pm, an, cdv, ct, osl, e, lk, hcd⟩ := T.F_g_places.ex
  rw [e] at lk ⊢
  exact fn_getter lk hcd sc_g_places rfl rfl T.c_Web T.n_row
theorem b_places (T : Txt P K mg) : Binds K T.d_g_places ["self"] [] := T.F_g_places.binds fun _ _ _ _ _ _ us hl => match us, hl with | [_], _ => rfl
theorem g_ties (T : Txt P K mg) : FnOk P w K mg base CX0 1 T.a_g_ties T.d_g_ties ["self"] (getSp T.a_Web "pairs") := by
  obtain ⟨oc, od, kV, doc, pm, an, cdv, ct, osl, e, lk, hcd⟩ := T.F_g_ties.ex
  rw [e] at lk ⊢
  exact fn_getter lk hcd sc_g_ties rfl rfl T.c_Web T.n_pairs
theorem b_ties (T : Txt P K mg) : Binds K T.d_g_ties ["self"] [] := T.F_g_ties.binds fun _ _ _ _ _ _ us hl => match us, hl with | [_], _ => rfl
theorem b_is_name {f : Addr} {fd : FuncData} (F : Fun K "is_name" "is_name" s_is_name f fd) : Binds K fd ["value"] [] := F.binds fun _ _ _ _ _ _ us hl => match us, hl with | [_], _ => rfl
theorem b_wrong_place {f : Addr} {fd : FuncData} (F : Fun K "wrong_place" "wrong_place" s_wrong_place f fd) : Binds K fd ["values"] [] := F.binds fun _ _ _ _ _ _ us hl => match us, hl with | [_], _ => rfl
theorem b_is_pair {f : Addr} {fd : FuncData} (F : Fun K "is_pair" "is_pair" s_is_pair f fd) : Binds K fd ["places", "value"] [] := F.binds fun _ _ _ _ _ _ us hl => match us, hl with | [_, _], _ => rfl
theorem b_wrong_tie {f : Addr} {fd : FuncData} (F : Fun K "wrong_tie" "wrong_tie" s_wrong_tie f fd) : Binds K fd ["places", "values"] [] := F.binds fun _ _ _ _ _ _ us hl => match us, hl with | [_, _], _ => rfl
theorem b_check_places {f : Addr} {fd : FuncData} (F : Fun K "check_places" "check_places" s_check_places f fd) : Binds K fd ["places"] [] := F.binds fun _ _ _ _ _ _ us hl => match us, hl with | [_], _ => rfl
theorem b_check_ties {f : Addr} {fd : FuncData} (F : Fun K "check_ties" "check_ties" s_check_ties f fd) : Binds K fd ["places", "ties"] [] := F.binds fun _ _ _ _ _ _ us hl => match us, hl with | [_, _], _ => rfl
theorem b_Web_init (T : Txt P K mg) : Binds K T.d_Web_init ["self", "places", "ties"] [] := by
  obtain ⟨ds, h1, h2⟩ := T.F_Web_init.binds1 (ps := ["self", "places", "ties"]) 3 1 (by simp) (by rfl) (fun _ _ _ _ _ _ _ us its hl hi => match us, its, hl, hi with | [_, _, _], [_], _, _ => ⟨_, rfl, rfl⟩)
  cases h1
  exact h2
theorem b_is_nameA {f : Addr} {fd : FuncData} (F : Fun K "is_name" "is_name" s_is_nameA f fd) : Binds K fd ["value"] [] := F.binds fun _ _ _ _ _ _ us hl => match us, hl with | [_], _ => rfl
theorem b_wrong_placeF {f : Addr} {fd : FuncData} (F : Fun K "wrong_place" "wrong_place" s_wrong_placeF f fd) : Binds K fd ["values"] [] := F.binds fun _ _ _ _ _ _ us hl => match us, hl with | [_], _ => rfl
theorem b_is_pairL {f : Addr} {fd : FuncData} (F : Fun K "is_pair" "is_pair" s_is_pairL f fd) : Binds K fd ["places", "value"] [] := F.binds fun _ _ _ _ _ _ us hl => match us, hl with | [_, _], _ => rfl
theorem b_wrong_tieF {f : Addr} {fd : FuncData} (F : Fun K "wrong_tie" "wrong_tie" s_wrong_tieF f fd) : Binds K fd ["places", "values"] [] := F.binds fun _ _ _ _ _ _ us hl => match us, hl with | [_, _], _ => rfl
theorem b_Web_readE {f : Addr} {fd : FuncData} (F : Fun K "read" "Web.read" s_Web_readE f fd) : Binds K fd ["cls", "text"] [] := F.binds fun _ _ _ _ _ _ us hl => match us, hl with | [_, _], _ => rfl
theorem b_cup_cup {f : Addr} {fd : FuncData} (F : Fun K "_law_cup" "_law_cup" s_cup_cup f fd) : Binds K fd ["_law_script", "_law_k"] [] := F.binds fun _ _ _ _ _ _ us hl => match us, hl with | [_, _], _ => rfl
theorem b_cup_sip {f : Addr} {fd : FuncData} (F : Fun K "_law_sip" "_law_sip" s_cup_sip f fd) : Binds K fd ["_law_cup_here", "_law_many"] [] := F.binds fun _ _ _ _ _ _ us hl => match us, hl with | [_, _], _ => rfl
theorem b_cup_of {f : Addr} {fd : FuncData} (F : Fun K "_law_of" "_law_of" s_cup_of f fd) : Binds K fd ["_law_cup_here", "_law_things"] [] := F.binds fun _ _ _ _ _ _ us hl => match us, hl with | [_, _], _ => rfl
theorem b_cup_folkT {f : Addr} {fd : FuncData} (F : Fun K "_law_folk" "_law_folk" s_cup_folkT f fd) : Binds K fd ["_law_cup_here", "_law_many"] [] := F.binds fun _ _ _ _ _ _ us hl => match us, hl with | [_, _], _ => rfl
theorem b_cup_tiesT {f : Addr} {fd : FuncData} (F : Fun K "_law_ties" "_law_ties" s_cup_tiesT f fd) : Binds K fd ["_law_cup_here", "_law_folk_here", "_law_most"] [] := F.binds fun _ _ _ _ _ _ us hl => match us, hl with | [_, _, _], _ => rfl
theorem b_cup_netT {f : Addr} {fd : FuncData} (F : Fun K "_law_net" "_law_net" s_cup_netT f fd) : Binds K fd ["_law_cup_here", "_law_most", "_law_ties_most"] [] := F.binds fun _ _ _ _ _ _ us hl => match us, hl with | [_, _, _], _ => rfl
theorem b_cup_pageT {f : Addr} {fd : FuncData} (F : Fun K "_law_page" "_law_page" s_cup_pageT f fd) : Binds K fd ["_law_net_here"] [] := F.binds fun _ _ _ _ _ _ us hl => match us, hl with | [_], _ => rfl
theorem b_cup_sortV {f : Addr} {fd : FuncData} (F : Fun K "_law_sort" "_law_sort" s_cup_sortV f fd) : Binds K fd ["_law_e"] [] := F.binds fun _ _ _ _ _ _ us hl => match us, hl with | [_], _ => rfl
theorem b_cup_caughtV {f : Addr} {fd : FuncData} (F : Fun K "_law_caught" "_law_caught" s_cup_caughtV f fd) : Binds K fd ["_law_act_here"] [] := F.binds fun _ _ _ _ _ _ us hl => match us, hl with | [_], _ => rfl
theorem b_k05_net_in {f : Addr} {fd : FuncData} (F : Fun K "_law_net_in" "_law_net_in" s_k05_net_in f fd) : Binds K fd ["_law_thing"] [] := F.binds fun _ _ _ _ _ _ us hl => match us, hl with | [_], _ => rfl
theorem b_k05_bent {f : Addr} {fd : FuncData} (F : Fun K "_law_bent_page" "_law_bent_page" s_k05_bent f fd) : Binds K fd ["_law_cup_here", "_law_page_here"] [] := F.binds fun _ _ _ _ _ _ us hl => match us, hl with | [_, _], _ => rfl
theorem b_k05_great {f : Addr} {fd : FuncData} (F : Fun K "_law_great" "_law_great" s_k05_great f fd) : Binds K fd ["_law_cup_here"] [] := F.binds fun _ _ _ _ _ _ us hl => match us, hl with | [_], _ => rfl
theorem b_k05_right {f : Addr} {fd : FuncData} (F : Fun K "_law_right" "_law_right" s_k05_right f fd) : Binds K fd ["_law_cup_here"] [] := F.binds fun _ _ _ _ _ _ us hl => match us, hl with | [_], _ => rfl
theorem kbc_Web_readE {f : Addr} {fd : FuncData} (F : Fun K "read" "Web.read" s_Web_readE f fd) : KBinds K fd ["cls", "text"] ["text"] catC catC := by
  obtain ⟨oc, od, kV, doc, pm, an, cdv, ct, osl, rfl, lk, hcd⟩ := F.ex
  refine ⟨fun s us ws X hl => ?_, fun h1 h2 => catC_rel h1 h2⟩
  obtain ⟨x, y, rfl, rfl⟩ := catC_of hl
  exact .of_eq rfl
/-! ### each def keeps its promise -/
theorem ok_is_name (T : Txt P K mg) : FnD P w K mg base 1 T.a_is_name T.d_is_name ["value"] (sp_is_name T.a_Web) := by
  refine fnD_ok (w0 := w_is_name T.a_Web) (fun_at T.F_is_name) sc_is_name (len_is_name _) (fun cdv A outer s H E hr hg => ?_) (pure_is_name T.a_Web)
  exact (dss_one (ds_ret (de_and (de_callB (dc_isiT "str" [] (by decide) (fun _ h => nomatch h)) (by rfl) T.z_isinstance boot_isinstance (da_cons (de_v 0) (da_cons (de_bT T.z_str boot_str) da_nil))) (de_and (de_ch do_lt do_lt de_int (de_callB dc_len (by rfl) T.z_len boot_len (da_cons (de_v 0) da_nil)) de_int) (de_one (de_callB (dc_all rfl) (by rfl) T.z_all boot_all (da_cons (de_lcP rfl sc_is_name.nd (di_str (de_v 0)) (own := [("sign", 1)]) (nt := (.n 1)) (blkOk_by (by kernel_rfl)) (by decide) (fun _ _ _ _ _ => (pg_name (i := 1) sc_is_name.nd rfl (.inl rfl))) (fun _ _ _ _ _ => dts_nil) (fun _ _ _ _ _ => (de_c (do_in (u65 hr)) (de_v 1) (de_gS T.m_LETTERS)))) da_nil)))))))
theorem ok_wrong_place (T : Txt P K mg) : FnD P w K mg base 2 T.a_wrong_place T.d_wrong_place ["values"] (sp_wrong_place T.a_Web) := by
  refine fnD_ok (w0 := w_wrong_place T.a_Web) (fun_at T.F_wrong_place) sc_wrong_place (len_wrong_place _) (fun cdv A outer s H E hr hg => ?_) (pure_wrong_place T.a_Web)
  exact (dss_cons (ds_for PassesOwn.never rfl (di_enum T.z_enumerate (da_cons (de_v 0) da_nil)) (dg_tup rfl (dgs_cons (dg_v (i := 1) sc_wrong_place.nd) (dgs_cons (dg_v (i := 2) sc_wrong_place.nd) dgs_nil))) (dss_one (ds_if (dw_pt (dw_or (dt_c (do_eq (u65 hr)) (de_v 1) (de_gI T.m_MOST_PLACES)) (dw_or (dt_not (dt_b (de_fn (FnG.up (ok_is_name T) (by decide)) hr hg T.m_is_name T.F_is_name.kp (b_is_name T.F_is_name) .nil lits_nil (da_cons (de_v 2) da_nil)))) (dw_or1 (dt_c (do_in (u65 hr)) (de_v 2) (de_sl (de_v 0) dp_none (dp_some (de_v 1)))))))) (dss_one (ds_ret (de_v 1))) dss_nil)))
    (dss_one (ds_ret de_non)))
theorem ok_is_pair (T : Txt P K mg) : FnD P w K mg base 1 T.a_is_pair T.d_is_pair ["places", "value"] (sp_is_pair T.a_Web) := by
  refine fnD_ok (w0 := w_is_pair T.a_Web) (fun_at T.F_is_pair) sc_is_pair (len_is_pair _) (fun cdv A outer s H E hr hg => ?_) (pure_is_pair T.a_Web)
  exact (dss_cons (ds_if (dw_pt (dw_or (dt_not (dt_b (de_callB (dc_isiT "tuple" [] (by decide) (fun _ h => nomatch h)) (by rfl) T.z_isinstance boot_isinstance (da_cons (de_v 1) (da_cons (de_bT T.z_tuple boot_tuple) da_nil))))) (dw_or1 (dt_c (do_ne (u65 hr)) (de_callB dc_len (by rfl) T.z_len boot_len (da_cons (de_v 1) da_nil)) de_int)))) (dss_one (ds_ret de_bl)) dss_nil)
    (dss_one (ds_ret (de_and (de_callB (dc_all rfl) (by rfl) T.z_all boot_all (da_cons (de_lcP rfl sc_is_pair.nd (di_seq (de_v 1)) (own := [("place", 2)]) (nt := (.n 2)) (blkOk_by (by kernel_rfl)) (by decide) (fun _ _ _ _ _ => (pg_name (i := 2) sc_is_pair.nd rfl (.inl rfl))) (fun _ _ _ _ _ => dts_nil) (fun _ _ _ _ _ => (de_and (de_callB (dc_isiT "str" [] (by decide) (fun _ h => nomatch h)) (by rfl) T.z_isinstance boot_isinstance (da_cons (de_v 2) (da_cons (de_bT T.z_str boot_str) da_nil))) (de_one (de_c (do_in (u65 hr)) (de_v 2) (de_v 0)))))) da_nil)) (de_one (de_c (do_ne (u65 hr)) (de_ix (u65 hr) (de_v 1) de_int) (de_ix (u65 hr) (de_v 1) de_int)))))))
theorem ok_wrong_tie (T : Txt P K mg) : FnD P w K mg base 2 T.a_wrong_tie T.d_wrong_tie ["places", "values"] (sp_wrong_tie T.a_Web) := by
  refine fnD_ok (w0 := w_wrong_tie T.a_Web) (fun_at T.F_wrong_tie) sc_wrong_tie (len_wrong_tie _) (fun cdv A outer s H E hr hg => ?_) (pure_wrong_tie T.a_Web)
  exact (dss_cons (ds_set (i := 2) sc_wrong_tie.nd de_dnewT)
    (dss_cons (ds_for PassesOwn.never rfl (di_enum T.z_enumerate (da_cons (de_v 1) da_nil)) (dg_tup rfl (dgs_cons (dg_v (i := 3) sc_wrong_tie.nd) (dgs_cons (dg_v (i := 4) sc_wrong_tie.nd) dgs_nil))) (dss_cons (ds_if (dw_pt (dw_or (dt_c (do_eq (u65 hr)) (de_v 3) (de_gI T.m_MOST_TIES)) (dw_or (dt_not (dt_b (de_fn (FnG.up (ok_is_pair T) (by decide)) hr hg T.m_is_pair T.F_is_pair.kp (b_is_pair T.F_is_pair) .nil lits_nil (da_cons (de_v 0) (da_cons (de_v 4) da_nil))))) (dw_or1 (dt_c (do_in (u65 hr)) (de_v 4) (de_v 2)))))) (dss_one (ds_ret (de_v 3))) dss_nil)
    (dss_one (ds_sub (u65 hr) (de_v 2) (de_v 4) de_bl))))
    (dss_one (ds_ret de_non))))
theorem ok_check_places (T : Txt P K mg) : FnD P w K mg base 3 T.a_check_places T.d_check_places ["places"] (sp_check_places T.a_Web) := by
  refine fnD_ok (w0 := w_check_places T.a_Web) (fun_at T.F_check_places) sc_check_places (len_check_places _) (fun cdv A outer s H E hr hg => ?_) (pure_check_places T.a_Web)
  exact (dss_cons (ds_if (dw_pt (dw_or (dt_not (dt_b (de_callB (dc_isiT "tuple" [] (by decide) (fun _ h => nomatch h)) (by rfl) T.z_isinstance boot_isinstance (da_cons (de_v 0) (da_cons (de_bT T.z_tuple boot_tuple) da_nil))))) (dw_or1 (dt_c (do_eq (u65 hr)) (de_v 0) (de_tup da_nil))))) (dss_one ds_never) dss_nil)
    (dss_cons (ds_set (i := 1) sc_check_places.nd (de_fn (FnG.up (ok_wrong_place T) (by decide)) hr hg T.m_wrong_place T.F_wrong_place.kp (b_wrong_place T.F_wrong_place) .nil lits_nil (da_cons (de_v 0) da_nil)))
    (dss_one (ds_if (dt_c do_notN (de_v 1) de_non) (dss_one ds_never) dss_nil))))
theorem ok_check_ties (T : Txt P K mg) : FnD P w K mg base 3 T.a_check_ties T.d_check_ties ["places", "ties"] (sp_check_ties T.a_Web) := by
  refine fnD_ok (w0 := w_check_ties T.a_Web) (fun_at T.F_check_ties) sc_check_ties (len_check_ties _) (fun cdv A outer s H E hr hg => ?_) (pure_check_ties T.a_Web)
  exact (dss_cons (ds_if (dt_not (dt_b (de_callB (dc_isiT "tuple" [] (by decide) (fun _ h => nomatch h)) (by rfl) T.z_isinstance boot_isinstance (da_cons (de_v 1) (da_cons (de_bT T.z_tuple boot_tuple) da_nil))))) (dss_one ds_never) dss_nil)
    (dss_cons (ds_set (i := 2) sc_check_ties.nd (de_fn (FnG.up (ok_wrong_tie T) (by decide)) hr hg T.m_wrong_tie T.F_wrong_tie.kp (b_wrong_tie T.F_wrong_tie) .nil lits_nil (da_cons (de_v 0) (da_cons (de_v 1) da_nil))))
    (dss_one (ds_if (dt_c do_notN (de_v 2) de_non) (dss_one ds_never) dss_nil))))
theorem ok_Web_init (T : Txt P K mg) : FnD P w K mg base 4 T.a_Web_init T.d_Web_init ["self", "places", "ties"] (sp_Web_init T.a_Web) := by
  refine fnD_ok (w0 := w_Web_init T.a_Web) (funD_at T.F_Web_init) sc_Web_init (len_Web_init _) (fun cdv A outer s H E hr hg => ?_) (pure_Web_init T.a_Web)
  exact (dss_cons (ds_expr (de_fn (FnG.up (ok_check_places T) (by decide)) hr hg T.m_check_places T.F_check_places.kp (b_check_places T.F_check_places) .nil lits_nil (da_cons (de_v 1) da_nil)))
    (dss_cons (ds_expr (de_fn (FnG.up (ok_check_ties T) (by decide)) hr hg T.m_check_ties T.F_check_ties.kp (b_check_ties T.F_check_ties) .nil lits_nil (da_cons (de_v 1) (da_cons (de_v 2) da_nil))))
    (dss_cons (ds_setF T.c_Web T.n_row (de_v 0) (de_v 1))
    (dss_cons (ds_setF T.c_Web T.n_pairs (de_v 0) (de_v 2))
    (dss_one (ds_setF T.c_Web T.n_marks (de_v 0) (de_dcP (t := true) (u65 hr) rfl sc_Web_init.nd (di_seq (de_v 2)) (own := [("tie", 3)]) (nt := (.n 3)) (blkOk_by (by kernel_rfl)) (by decide) (fun _ _ _ _ _ => (pg_name (i := 3) sc_Web_init.nd rfl (.inl rfl))) (fun _ _ _ _ _ => dts_nil) (fun _ _ _ _ _ => (de_v 3)) (fun _ _ _ _ _ => de_bl))))))))
theorem ok_is_nameA (T : Txt P K mg) : FnD P w K mg base 1 T.a_is_nameA T.d_is_nameA ["value"] (sp_is_nameA T.a_Web) := by
  refine fnD_ok (w0 := w_is_nameA T.a_Web) (fun_at T.F_is_nameA) sc_is_nameA (len_is_nameA _) (fun cdv A outer s H E hr hg => ?_) (pure_is_nameA T.a_Web)
  exact (dss_one (ds_ret (de_and (de_callB (dc_isiT "str" [] (by decide) (fun _ h => nomatch h)) (by rfl) T.z_isinstance boot_isinstance (da_cons (de_v 0) (da_cons (de_bT T.z_str boot_str) da_nil))) (de_and (de_ch do_lt do_lt de_int (de_callB dc_len (by rfl) T.z_len boot_len (da_cons (de_v 0) da_nil)) de_int) (de_one (de_callB (dc_all rfl) (by rfl) T.z_all boot_all (da_cons (de_lcP rfl sc_is_nameA.nd (di_str (de_v 0)) (own := [("sign", 1)]) (nt := (.n 1)) (blkOk_by (by kernel_rfl)) (by decide) (fun _ _ _ _ _ => (pg_name (i := 1) sc_is_nameA.nd rfl (.inl rfl))) (fun _ _ _ _ _ => dts_nil) (fun _ _ _ _ _ => (de_c (do_in (u65 hr)) (de_v 1) (de_gS T.m_LETTERS)))) da_nil)))))))
theorem ok_wrong_placeF (T : Txt P K mg) : FnD P w K mg base 2 T.a_wrong_placeF T.d_wrong_placeF ["values"] (sp_wrong_placeF T.a_Web) := by
  refine fnD_ok (w0 := w_wrong_placeF T.a_Web) (fun_at T.F_wrong_placeF) sc_wrong_placeF (len_wrong_placeF _) (fun cdv A outer s H E hr hg => ?_) (pure_wrong_placeF T.a_Web)
  exact (dss_cons (ds_for PassesOwn.never rfl (di_enum T.z_enumerate (da_cons (de_v 0) da_nil)) (dg_tup rfl (dgs_cons (dg_v (i := 1) sc_wrong_placeF.nd) (dgs_cons (dg_v (i := 2) sc_wrong_placeF.nd) dgs_nil))) (dss_one (ds_if (dw_pt (dw_or (dt_c (do_eq (u65 hr)) (de_v 1) (de_gI T.m_MOST_PLACES)) (dw_or (dt_not (dt_b (de_fn (FnG.up (ok_is_nameA T) (by decide)) hr hg T.m_is_nameA T.F_is_nameA.kp (b_is_nameA T.F_is_nameA) .nil lits_nil (da_cons (de_v 2) da_nil)))) (dw_or1 (dt_c (do_in (u65 hr)) (de_v 2) (de_sl (de_v 0) dp_none (dp_some (de_v 1)))))))) (dss_one (ds_ret (de_v 1))) dss_nil)))
    (dss_one (ds_ret de_non)))
theorem ok_is_pairL (T : Txt P K mg) : FnD P w K mg base 1 T.a_is_pairL T.d_is_pairL ["places", "value"] (sp_is_pairL T.a_Web) := by
  refine fnD_ok (w0 := w_is_pairL T.a_Web) (fun_at T.F_is_pairL) sc_is_pairL (len_is_pairL _) (fun cdv A outer s H E hr hg => ?_) (pure_is_pairL T.a_Web)
  exact (dss_cons (ds_if (dw_pt (dw_or (dt_not (dt_b (de_callB (dc_isiT "tuple" [] (by decide) (fun _ h => nomatch h)) (by rfl) T.z_isinstance boot_isinstance (da_cons (de_v 1) (da_cons (de_bT T.z_tuple boot_tuple) da_nil))))) (dw_or1 (dt_c (do_ne (u65 hr)) (de_callB dc_len (by rfl) T.z_len boot_len (da_cons (de_v 1) da_nil)) de_int)))) (dss_one (ds_ret de_bl)) dss_nil)
    (dss_one (ds_ret (de_and (de_callB (dc_all rfl) (by rfl) T.z_all boot_all (da_cons (de_lcP rfl sc_is_pairL.nd (di_seq (de_v 1)) (own := [("place", 2)]) (nt := (.n 2)) (blkOk_by (by kernel_rfl)) (by decide) (fun _ _ _ _ _ => (pg_name (i := 2) sc_is_pairL.nd rfl (.inl rfl))) (fun _ _ _ _ _ => dts_nil) (fun _ _ _ _ _ => (de_and (de_callB (dc_isiT "str" [] (by decide) (fun _ h => nomatch h)) (by rfl) T.z_isinstance boot_isinstance (da_cons (de_v 2) (da_cons (de_bT T.z_str boot_str) da_nil))) (de_one (de_c (do_in (u65 hr)) (de_v 2) (de_v 0)))))) da_nil)) (de_one (de_c (do_ne (u65 hr)) (de_ix (u65 hr) (de_v 1) de_int) (de_ix (u65 hr) (de_v 1) de_int)))))))
theorem ok_wrong_tieF (T : Txt P K mg) : FnD P w K mg base 2 T.a_wrong_tieF T.d_wrong_tieF ["places", "values"] (sp_wrong_tieF T.a_Web) := by
  refine fnD_ok (w0 := w_wrong_tieF T.a_Web) (fun_at T.F_wrong_tieF) sc_wrong_tieF (len_wrong_tieF _) (fun cdv A outer s H E hr hg => ?_) (pure_wrong_tieF T.a_Web)
  exact (dss_cons (ds_set (i := 2) sc_wrong_tieF.nd de_dnewT)
    (dss_cons (ds_for PassesOwn.never rfl (di_enum T.z_enumerate (da_cons (de_v 1) da_nil)) (dg_tup rfl (dgs_cons (dg_v (i := 3) sc_wrong_tieF.nd) (dgs_cons (dg_v (i := 4) sc_wrong_tieF.nd) dgs_nil))) (dss_cons (ds_if (dw_pt (dw_or (dt_c (do_eq (u65 hr)) (de_v 3) (de_gI T.m_MOST_TIES)) (dw_or (dt_not (dt_b (de_fn (FnG.up (ok_is_pairL T) (by decide)) hr hg T.m_is_pairL T.F_is_pairL.kp (b_is_pairL T.F_is_pairL) .nil lits_nil (da_cons (de_v 0) (da_cons (de_v 4) da_nil))))) (dw_or1 (dt_c (do_in (u65 hr)) (de_v 4) (de_v 2)))))) (dss_one (ds_ret (de_v 3))) dss_nil)
    (dss_one (ds_sub (u65 hr) (de_v 2) (de_v 4) de_bl))))
    (dss_one (ds_ret de_non))))
theorem ok_Web_readE (T : Txt P K mg) : FnX P w K mg base 6 T.a_Web_readE T.d_Web_readE ["cls", "text"] (sp_Web_readE T.a_Web) := by
  refine fnX_ok (w0 := w_Web_readE T.a_Web) (fun_at T.F_Web_readE) sc_Web_readE (len_Web_readE _) (fun cdv A outer s H E hr hg tk => ?_) (pure_Web_readE T.a_Web)
  exact (dssx_cons (dsx_of (ds_set (i := 2) sc_Web_readE.nd (de_if (dt_b (de_callB (dc_isiT "str" [] (by decide) (fun _ h => nomatch h)) (by rfl) T.z_isinstance boot_isinstance (da_cons (de_v 1) (da_cons (de_bT T.z_str boot_str) da_nil)))) (de_lcP rfl sc_Web_readE.nd (di_seq (de_split (de_v 1) de_str)) (own := [("row", 5)]) (nt := (.n 5)) (blkOk_by (by kernel_rfl)) (by decide) (fun _ _ _ _ _ => (pg_name (i := 5) sc_Web_readE.nd rfl (.inl rfl))) (fun _ _ _ _ _ => dts_nil) (fun _ _ _ _ _ => (de_callTy dc_tuple (by rfl) T.z_tuple boot_tuple (da_cons (de_split (de_v 5) de_str) da_nil)))) (de_lst (da_cons (de_tup (da_cons de_str da_nil)) da_nil)))))
    (dssx_cons (dsx_of (ds_par (i := 3) (j := 4) rfl sc_Web_readE.nd (da_cons (de_slF (de_ix (u65 hr) (de_v 2) de_int) (dp_some de_int) dp_none) (da_cons (de_callTy dc_tupleF (by rfl) T.z_tuple boot_tuple (da_cons (de_sl (de_v 2) (dp_some de_int) dp_none) da_nil)) da_nil))))
    (dssx_cons (dsx_if (dw_pt (dw_or (dt_c (do_ne (u65 hr)) (de_ix (u65 hr) (de_ix (u65 hr) (de_v 2) de_int) de_int) de_str) (dw_or (dt_c (do_eqT (u65 hr)) (de_v 3) (de_tup da_nil)) (dw_or1 (dt_c do_notN (de_fn (FnG.up (ok_wrong_placeF T) (by decide)) hr hg T.m_wrong_placeF T.F_wrong_placeF.kp (b_wrong_placeF T.F_wrong_placeF) .nil lits_nil (da_cons (de_v 3) da_nil)) de_non))))) (dssx_one (dsx_raise rfl tk T.rz_InvalidText.1 T.rz_InvalidText.2.1 T.rz_InvalidText.2.2 T.n_InvalidText T.m_InvalidText hr (da_cons (de_v 1) da_nil))) dssx_nil)
    (dssx_cons (dsx_if (dt_c do_notN (de_fn (FnG.up (ok_wrong_tieF T) (by decide)) hr hg T.m_wrong_tieF T.F_wrong_tieF.kp (b_wrong_tieF T.F_wrong_tieF) .nil lits_nil (da_cons (de_v 3) (da_cons (de_v 4) da_nil))) de_non) (dssx_one (dsx_raise rfl tk T.rz_InvalidText.1 T.rz_InvalidText.2.1 T.rz_InvalidText.2.2 T.n_InvalidText T.m_InvalidText hr (da_cons (de_v 1) da_nil))) dssx_nil)
    (dssx_one (dsx_of (ds_ret (de_makeV (de_v 0) T.k_Web (ok_Web_init T) (hr.mono (by decide)) hg (b_Web_init T) .nil lits_nil (da_cons (de_v 3) (da_cons (de_v 4) da_nil))))))))))
theorem ok_cup_cup (T : Txt P K mg) : FnD P w K mg base 1 T.a_cup_cup T.d_cup_cup ["_law_script", "_law_k"] (sp_cup_cup T.a_Web) := by
  refine fnD_ok (w0 := w_cup_cup T.a_Web) (fun_at T.F_cup_cup) sc_cup_cup (len_cup_cup _) (fun cdv A outer s H E hr hg => ?_) (pure_cup_cup T.a_Web)
  exact (dss_cons (ds_set (i := 2) sc_cup_cup.nd (de_if (dt_c do_lt (de_v 1) (de_callB dc_len (by rfl) T.z_len boot_len (da_cons (de_v 0) da_nil))) (de_callTy dc_int (by rfl) T.z_int boot_int (da_cons (de_ix (u65 hr) (de_v 0) (de_v 1)) da_nil)) (de_o do_add (de_o do_mul de_int (de_v 1)) de_int)))
    (dss_cons (ds_set (i := 3) sc_cup_cup.nd (de_o do_add de_int (de_o do_mul de_int (de_v 1))))
    (dss_cons (ds_for PassesOwn.never rfl (di_seq (de_o do_add (de_sl (de_v 0) dp_none (dp_some de_int)) (de_lst (da_cons (de_v 2) da_nil)))) (dg_v (i := 4) sc_cup_cup.nd) (dss_one (ds_set (i := 3) sc_cup_cup.nd (de_o do_mod (de_callTy dc_int (by rfl) T.z_int boot_int (da_cons (de_o do_add (de_o do_mul (de_v 3) de_int) (de_callTy dc_int (by rfl) T.z_int boot_int (da_cons (de_v 4) da_nil))) da_nil)) de_int))))
    (dss_one (ds_ret (de_new (da_cons (de_if (dw_pt (dw_or (dt_c do_lt (de_v 2) de_int) (dw_or1 (dt_c do_ge (de_v 2) (de_o do_pow de_int de_int))))) (de_callB dc_abs (by rfl) T.z_abs boot_abs (da_cons (de_v 2) da_nil)) de_int) (da_cons (de_v 3) (da_cons de_int da_nil)))))))))
theorem ok_cup_sip (T : Txt P K mg) : FnD P w K mg base 1 T.a_cup_sip T.d_cup_sip ["_law_cup_here", "_law_many"] (sp_cup_sip T.a_Web) := by
  refine fnD_ok (w0 := w_cup_sip T.a_Web) (fun_at T.F_cup_sip) sc_cup_sip (len_cup_sip _) (fun cdv A outer s H E hr hg => ?_) (pure_cup_sip T.a_Web)
  exact (dss_cons (ds_sub (u65 hr) (de_v 0) de_int (de_o do_add (de_ix (u65 hr) (de_v 0) de_int) de_int))
    (dss_cons (ds_set (i := 2) sc_cup_sip.nd (de_callTy dc_int (by rfl) T.z_int boot_int (da_cons (de_ix (u65 hr) (de_v 0) de_int) da_nil)))
    (dss_cons (ds_sub (u65 hr) (de_v 0) de_int (de_o do_mod (de_callTy dc_int (by rfl) T.z_int boot_int (da_cons (de_o do_add (de_o do_add (de_o do_mul (de_v 2) (de_o do_add (de_o do_mod (de_callTy dc_int (by rfl) T.z_int boot_int (da_cons (de_v 2) da_nil)) de_int) de_int)) (de_o do_mul de_int (de_ix (u65 hr) (de_v 0) de_int))) de_int) da_nil)) de_int))
    (dss_cons (ds_if (dt_c do_gt (de_ix (u65 hr) (de_v 0) de_int) de_int) (dss_cons (ds_asg (de_callB dc_divmod (by rfl) T.z_divmod boot_divmod (da_cons (de_ix (u65 hr) (de_v 0) de_int) (da_cons (de_v 1) da_nil))) (dg_tup rfl (dgs_cons (dg_sub (pset_sub (u65 hr)) (de_v 0) de_int) (dgs_cons (dg_v (i := 3) sc_cup_sip.nd) dgs_nil))))
    (dss_one (ds_ret (de_v 3)))) dss_nil)
    (dss_one (ds_ret (de_o do_mod (de_callTy dc_int (by rfl) T.z_int boot_int (da_cons (de_o do_div (de_ix (u65 hr) (de_v 0) de_int) de_int) da_nil)) (de_v 1))))))))
theorem ok_cup_of (T : Txt P K mg) : FnD P w K mg base 2 T.a_cup_of T.d_cup_of ["_law_cup_here", "_law_things"] (sp_cup_of T.a_Web) := by
  refine fnD_ok (w0 := w_cup_of T.a_Web) (fun_at T.F_cup_of) sc_cup_of (len_cup_of _) (fun cdv A outer s H E hr hg => ?_) (pure_cup_of T.a_Web)
  exact (dss_one (ds_ret (de_ix (u65 hr) (de_v 1) (de_fn (FnG.up (ok_cup_sip T) (by decide)) hr hg T.m_cup_sip T.F_cup_sip.kp (b_cup_sip T.F_cup_sip) .nil lits_nil (da_cons (de_v 0) (da_cons (de_callB dc_len (by rfl) T.z_len boot_len (da_cons (de_v 1) da_nil)) da_nil))))))
theorem ok_cup_folkT (T : Txt P K mg) : FnD P w K mg base 2 T.a_cup_folkT T.d_cup_folkT ["_law_cup_here", "_law_many"] (sp_cup_folkT T.a_Web) := by
  refine fnD_ok (w0 := w_cup_folkT T.a_Web) (fun_at T.F_cup_folkT) sc_cup_folkT (len_cup_folkT _) (fun cdv A outer s H E hr hg => ?_) (pure_cup_folkT T.a_Web)
  exact (dss_cons (ds_set (i := 2) sc_cup_folkT.nd (de_fn (FnG.up (ok_cup_sip T) (by decide)) hr hg T.m_cup_sip T.F_cup_sip.kp (b_cup_sip T.F_cup_sip) .nil lits_nil (da_cons (de_v 0) (da_cons de_int da_nil))))
    (dss_cons (ds_if (dw_pt (dw_and (dt_c (do_eq (u65 hr)) (de_fn (FnG.up (ok_cup_sip T) (by decide)) hr hg T.m_cup_sip T.F_cup_sip.kp (b_cup_sip T.F_cup_sip) .nil lits_nil (da_cons (de_v 0) (da_cons de_int da_nil))) de_int) (dw_and1 (dt_c do_lt (de_v 1) de_int)))) (dss_cons (ds_set (i := 3) sc_cup_folkT.nd (de_lst (da_cons de_str (da_cons de_str (da_cons de_str (da_cons de_str (da_cons de_str (da_cons de_str (da_cons de_str (da_cons de_str (da_cons de_str (da_cons de_str (da_cons de_str da_nil)))))))))))))
    (dss_cons (ds_set (i := 4) sc_cup_folkT.nd (de_o do_add de_int (de_fn (FnG.up (ok_cup_sip T) (by decide)) hr hg T.m_cup_sip T.F_cup_sip.kp (b_cup_sip T.F_cup_sip) .nil lits_nil (da_cons (de_v 0) (da_cons de_int da_nil)))))
    (dss_one (ds_ret (de_callTy dc_tuple (by rfl) T.z_tuple boot_tuple (da_cons (de_lcP rfl sc_cup_folkT.nd (di_rng1 T.z_range (da_cons (de_v 1) da_nil)) (own := [("_law_k", 8)]) (nt := (.n 8)) (blkOk_by (by kernel_rfl)) (by decide) (fun _ _ _ _ _ => (pg_name (i := 8) sc_cup_folkT.nd rfl (.inl rfl))) (fun _ _ _ _ _ => dts_nil) (fun _ _ _ _ _ => (de_ix (u65 hr) (de_v 3) (de_o do_mod (de_callTy dc_int (by rfl) T.z_int boot_int (da_cons (de_o do_add (de_v 2) (de_o do_mul (de_v 4) (de_v 8))) da_nil)) de_int)))) da_nil)))))) dss_nil)
    (dss_cons (ds_asg (de_tup (da_cons de_str (da_cons (de_o do_add de_int (de_o do_mul de_int (de_fn (FnG.up (ok_cup_sip T) (by decide)) hr hg T.m_cup_sip T.F_cup_sip.kp (b_cup_sip T.F_cup_sip) .nil lits_nil (da_cons (de_v 0) (da_cons de_int da_nil))))) da_nil))) (dg_tup rfl (dgs_cons (dg_v (i := 5) sc_cup_folkT.nd) (dgs_cons (dg_v (i := 4) sc_cup_folkT.nd) dgs_nil))))
    (dss_cons (ds_set (i := 6) sc_cup_folkT.nd (de_join de_str (de_lcF rfl sc_cup_folkT.nd (di_rng1 T.z_range (da_cons (de_fn (FnG.up (ok_cup_sip T) (by decide)) hr hg T.m_cup_sip T.F_cup_sip.kp (b_cup_sip T.F_cup_sip) .nil lits_nil (da_cons (de_v 0) (da_cons de_int da_nil))) da_nil)) (own := [("_law_k", 8)]) (nt := (.n 8)) (blkOk_by (by kernel_rfl)) (by decide) (fun _ _ _ _ _ => (pg_name (i := 8) sc_cup_folkT.nd rfl (.inl rfl))) (fun _ _ _ _ _ => dts_nil) (fun _ _ _ _ _ => (de_ix (u65 hr) (de_v 5) (de_fn (FnG.up (ok_cup_sip T) (by decide)) hr hg T.m_cup_sip T.F_cup_sip.kp (b_cup_sip T.F_cup_sip) .nil lits_nil (da_cons (de_v 0) (da_cons de_int da_nil))))))))
    (dss_cons (ds_set (i := 7) sc_cup_folkT.nd (de_lst (da_cons de_str (da_cons de_str da_nil))))
    (dss_one (ds_ret (de_callTy dc_tuple (by rfl) T.z_tuple boot_tuple (da_cons (de_lcP rfl sc_cup_folkT.nd (di_rng1 T.z_range (da_cons (de_v 1) da_nil)) (own := [("_law_k", 8)]) (nt := (.n 8)) (blkOk_by (by kernel_rfl)) (by decide) (fun _ _ _ _ _ => (pg_name (i := 8) sc_cup_folkT.nd rfl (.inl rfl))) (fun _ _ _ _ _ => dts_nil) (fun _ _ _ _ _ => (de_o do_add (de_o do_add (de_v 6) (de_ix (u65 hr) (de_v 7) (de_o do_div (de_v 8) de_int))) (de_ix (u65 hr) (de_v 5) (de_o do_mod (de_callTy dc_int (by rfl) T.z_int boot_int (da_cons (de_o do_add (de_v 2) (de_o do_mul (de_v 4) (de_v 8))) da_nil)) de_int))))) da_nil)))))))))
theorem ok_cup_tiesT (T : Txt P K mg) : FnD P w K mg base 3 T.a_cup_tiesT T.d_cup_tiesT ["_law_cup_here", "_law_folk_here", "_law_most"] (sp_cup_tiesT T.a_Web) := by
  refine fnD_ok (w0 := w_cup_tiesT T.a_Web) (fun_at T.F_cup_tiesT) sc_cup_tiesT (len_cup_tiesT _) (fun cdv A outer s H E hr hg => ?_) (pure_cup_tiesT T.a_Web)
  exact (dss_cons (ds_set (i := 3) sc_cup_tiesT.nd (de_new da_nil))
    (dss_cons (ds_for PassesOwn.never rfl (di_rng1 T.z_range (da_cons (de_fn (FnG.up (ok_cup_sip T) (by decide)) hr hg T.m_cup_sip T.F_cup_sip.kp (b_cup_sip T.F_cup_sip) .nil lits_nil (da_cons (de_v 0) (da_cons (de_o do_add (de_v 2) de_int) da_nil))) da_nil)) (dg_v (i := 4) sc_cup_tiesT.nd) (dss_cons (ds_set (i := 5) sc_cup_tiesT.nd (de_tup (da_cons (de_fn (FnG.up (ok_cup_of T) (by decide)) hr hg T.m_cup_of T.F_cup_of.kp (b_cup_of T.F_cup_of) .nil lits_nil (da_cons (de_v 0) (da_cons (de_v 1) da_nil))) (da_cons (de_fn (FnG.up (ok_cup_of T) (by decide)) hr hg T.m_cup_of T.F_cup_of.kp (b_cup_of T.F_cup_of) .nil lits_nil (da_cons (de_v 0) (da_cons (de_v 1) da_nil))) da_nil))))
    (dss_one (ds_if (dw_pt (dw_and (dt_c (do_ne (u65 hr)) (de_ix (u65 hr) (de_v 5) de_int) (de_ix (u65 hr) (de_v 5) de_int)) (dw_and1 (dt_c (do_notIn (u65 hr)) (de_v 5) (de_v 3))))) (dss_one (ds_expr (de_bm dm_append F.plainAttrs_list F.slot_list_append F.type_list_append (de_v 3) (da_cons (de_v 5) da_nil)))) dss_nil))))
    (dss_one (ds_ret (de_callTy dc_tuple (by rfl) T.z_tuple boot_tuple (da_cons (de_v 3) da_nil))))))
theorem ok_cup_netT (T : Txt P K mg) : FnD P w K mg base 4 T.a_cup_netT T.d_cup_netT ["_law_cup_here", "_law_most", "_law_ties_most"] (sp_cup_netT T.a_Web) := by
  refine fnD_ok (w0 := w_cup_netT T.a_Web) (fun_at T.F_cup_netT) sc_cup_netT (len_cup_netT _) (fun cdv A outer s H E hr hg => ?_) (pure_cup_netT T.a_Web)
  exact (dss_cons (ds_set (i := 3) sc_cup_netT.nd (de_fn (FnG.up (ok_cup_folkT T) (by decide)) hr hg T.m_cup_folkT T.F_cup_folkT.kp (b_cup_folkT T.F_cup_folkT) .nil lits_nil (da_cons (de_v 0) (da_cons (de_o do_add de_int (de_fn (FnG.up (ok_cup_sip T) (by decide)) hr hg T.m_cup_sip T.F_cup_sip.kp (b_cup_sip T.F_cup_sip) .nil lits_nil (da_cons (de_v 0) (da_cons (de_v 1) da_nil)))) da_nil))))
    (dss_one (ds_ret (de_tup (da_cons (de_v 3) (da_cons (de_fn (FnG.up (ok_cup_tiesT T) (by decide)) hr hg T.m_cup_tiesT T.F_cup_tiesT.kp (b_cup_tiesT T.F_cup_tiesT) .nil lits_nil (da_cons (de_v 0) (da_cons (de_v 3) (da_cons (de_v 2) da_nil)))) da_nil))))))
theorem ok_cup_pageT (T : Txt P K mg) : FnD P w K mg base 1 T.a_cup_pageT T.d_cup_pageT ["_law_net_here"] (sp_cup_pageT T.a_Web) := by
  refine fnD_ok (w0 := w_cup_pageT T.a_Web) (fun_at T.F_cup_pageT) sc_cup_pageT (len_cup_pageT _) (fun cdv A outer s H E hr hg => ?_) (pure_cup_pageT T.a_Web)
  exact (dss_one (ds_ret (de_join de_str (de_o do_add (de_lst (da_cons (de_join de_str (de_o do_add (de_tup (da_cons de_str da_nil)) (de_ix (u65 hr) (de_v 0) de_int))) da_nil)) (de_lcP rfl sc_cup_pageT.nd (di_seq (de_ix (u65 hr) (de_v 0) de_int)) (own := [("_law_pair", 1)]) (nt := (.n 1)) (blkOk_by (by kernel_rfl)) (by decide) (fun _ _ _ _ _ => (pg_name (i := 1) sc_cup_pageT.nd rfl (.inl rfl))) (fun _ _ _ _ _ => dts_nil) (fun _ _ _ _ _ => (de_join de_str (de_v 1))))))))
theorem ok_cup_sortV (T : Txt P K mg) : FnDU P w K mg base 1 T.a_cup_sortV T.d_cup_sortV ["_law_e"] (sp_cup_sortV T.a_Web) := by
  refine fnU_ok (w0 := w_cup_sortV T.a_Web) (fun_at T.F_cup_sortV) sc_cup_sortV (len_cup_sortV _) (fun cdv A outer s H E hr hg => ?_) (pure_cup_sortV T.a_Web)
  exact (dss_cons (ds_set (i := 1) sc_cup_sortV.nd (de_lst (da_cons (de_isE (ns := nsA) (errT_a T.et) (by decide) T.n_InvalidText T.m_InvalidText (de_v 0) T.z_isinstance boot_isinstance) (da_cons (de_isE (ns := nsA) (errT_a T.et) (by decide) T.n_InvalidTie T.m_InvalidTie (de_v 0) T.z_isinstance boot_isinstance) (da_cons (de_isE (ns := nsA) (errT_a T.et) (by decide) T.n_InvalidParting T.m_InvalidParting (de_v 0) T.z_isinstance boot_isinstance) (da_cons (de_isE (ns := nsA) (errT_a T.et) (by decide) T.n_NotAWeb T.m_NotAWeb (de_v 0) T.z_isinstance boot_isinstance) da_nil))))))
    (dss_cons (ds_set (i := 1) sc_cup_sortV.nd (de_o do_add (de_v 1) (de_lst (da_cons (de_isE (ns := nsA) (errT_a T.et) (by decide) T.n_InvalidPlaces T.m_InvalidPlaces (de_v 0) T.z_isinstance boot_isinstance) (da_cons (de_isE (ns := nsA) (errT_a T.et) (by decide) T.n_InvalidTies T.m_InvalidTies (de_v 0) T.z_isinstance boot_isinstance) (da_cons (de_isE (ns := nsA) (errT_a T.et) (by decide) T.n_NotMet T.m_NotMet (de_v 0) T.z_isinstance boot_isinstance) (da_cons (de_isE (ns := nsA) (errT_a T.et) (by decide) T.n_TooMany T.m_TooMany (de_v 0) T.z_isinstance boot_isinstance) da_nil)))))))
    (dss_cons (ds_set (i := 1) sc_cup_sortV.nd (de_o do_add (de_v 1) (de_lst (da_cons (de_isE (ns := nsA) (errT_a T.et) (by decide) T.n_NothingToUndo T.m_NothingToUndo (de_v 0) T.z_isinstance boot_isinstance) (da_cons (de_isE (ns := nsA) (errT_a T.et) (by decide) T.n_InvalidNumber T.m_InvalidNumber (de_v 0) T.z_isinstance boot_isinstance) (da_cons (de_isE (ns := nsA) (errT_a T.et) (by decide) T.n_UnknownPlace T.m_UnknownPlace (de_v 0) T.z_isinstance boot_isinstance) da_nil))))))
    (dss_cons (ds_set (i := 2) sc_cup_sortV.nd (de_lst (da_cons (de_isE (ns := nsA) (errT_a T.et) (by decide) T.n_NotRight T.m_NotRight (de_v 0) T.z_isinstance boot_isinstance) (da_cons (de_isE (ns := nsA) (errT_a T.et) (by decide) T.n_NotThere T.m_NotThere (de_v 0) T.z_isinstance boot_isinstance) (da_cons (de_isE (ns := nsA) (errT_a T.et) (by decide) T.n_CannotBe T.m_CannotBe (de_v 0) T.z_isinstance boot_isinstance) da_nil)))))
    (dss_cons (ds_set (i := 3) sc_cup_sortV.nd (de_lst (da_cons (de_isB (ns := nsA) (T0 := "ValueError") (errT_a T.et) (by decide) T.z_ValueError PyProof.Rows.Boot.«ValueError» (de_v 0) T.z_isinstance boot_isinstance) (da_cons (de_isB (ns := nsA) (T0 := "LookupError") (errT_a T.et) (by decide) T.z_LookupError PyProof.Rows.Boot.«LookupError» (de_v 0) T.z_isinstance boot_isinstance) (da_cons (de_isB (ns := nsA) (T0 := "ArithmeticError") (errT_a T.et) (by decide) T.z_ArithmeticError PyProof.Rows.Boot.«ArithmeticError» (de_v 0) T.z_isinstance boot_isinstance) da_nil)))))
    (dss_cons (ds_set (i := 4) sc_cup_sortV.nd (de_if (dt_c (do_eq (RoomU.u65 hr)) (de_bm (dm_countB) F.plainAttrs_list F.slot_list_count F.type_list_count (de_v 1) (da_cons de_bl da_nil)) de_int) (de_bm (dm_index (RoomU.u65 hr)) F.plainAttrs_list F.slot_list_index F.type_list_index (de_v 1) (da_cons de_bl da_nil)) de_int))
    (dss_cons (ds_if (dw_pt (dw_or (dt_c (do_ne (RoomU.u65 hr)) (de_v 2) (de_v 3)) (dw_or1 (dt_c (do_ne (RoomU.u65 hr)) (de_v 2) (de_lst (da_cons (de_or (de_c do_lt (de_v 4) de_int) (de_one (de_c (do_eq (RoomU.u65 hr)) (de_v 4) de_int))) (da_cons (de_c (do_eq (RoomU.u65 hr)) (de_v 4) de_int) (da_cons (de_ch do_le do_lt de_int (de_v 4) de_int) da_nil)))))))) (dss_one (ds_ret (de_tup (da_cons de_str (da_cons de_str da_nil))))) dss_nil)
    (dss_cons (ds_set (i := 5) sc_cup_sortV.nd (de_lst (da_cons de_str (da_cons de_str (da_cons de_str (da_cons de_str (da_cons de_str (da_cons de_str (da_cons de_str (da_cons de_str (da_cons de_str (da_cons de_str (da_cons de_str da_nil)))))))))))))
    (dss_cons (ds_if (dt_c (do_in (RoomU.u65 hr)) (de_v 4) (de_lst (da_cons de_int (da_cons de_int da_nil)))) (dss_one (ds_ret (de_tup (da_cons (de_ix (RoomU.u65 hr) (de_v 5) (de_v 4)) (da_cons (de_callB (dc_reprV hg (RoomU.u70 hr)) (by rfl) T.z_repr boot_repr (da_cons (de_fldE (ns := ["InvalidPlaces", "InvalidTies"]) (errT_f T.et (by decide)) (de_v 0)) da_nil)) da_nil))))) dss_nil)
    (dss_cons (ds_if (dt_c (do_in (RoomU.u65 hr)) (de_v 4) (de_lst (da_cons de_int (da_cons de_int da_nil)))) (dss_one (ds_ret (de_tup (da_cons (de_ix (RoomU.u65 hr) (de_v 5) (de_v 4)) (da_cons (de_callB (dc_reprV hg (RoomU.u70 hr)) (by rfl) T.z_repr boot_repr (da_cons (de_if (dt_c (do_eq (RoomU.u65 hr)) (de_v 4) de_int) (de_fldE (ns := ["NotMet"]) (errT_f T.et (by decide)) (de_v 0)) (de_fldE (ns := ["TooMany"]) (errT_f T.et (by decide)) (de_v 0))) da_nil)) da_nil))))) dss_nil)
    (dss_one (ds_ret (de_tup (da_cons (de_ix (RoomU.u65 hr) (de_v 5) (de_v 4)) (da_cons (de_if (dt_c (do_ne (RoomU.u65 hr)) (de_v 4) de_int) (de_callB (dc_reprV hg (RoomU.u70 hr)) (by rfl) T.z_repr boot_repr (da_cons (de_fldE (ns := ["InvalidText", "InvalidTie", "InvalidParting", "InvalidNumber", "NotAWeb", "UnknownPlace"]) (errT_f T.et (by decide)) (de_v 0)) da_nil)) de_str) da_nil)))))))))))))))
theorem lm_cup_caughtV (T : Txt P K mg) {wl : WEX} {f Pt : Addr} {q : Str} {sdG sd : SD} {n : Nat} {cdv : Value} {A : Around} {outer : List Env} {s : Shared} {H : Hp} (hr : Room 1 (A.deeper (envOfC "_law_caught" (defScope s_cup_caughtV) s.heap.objs.size T.a_cup_caughtV cdv))) (hg : (A.deeper (envOfC "_law_caught" (defScope s_cup_caughtV) s.heap.objs.size T.a_cup_caughtV cdv)).guards = some []) (hnd : ((["_law_act_here", "_law_back", "_law_e"] : List Str) ++ ghosts n).Nodup)
    (act : ∀ (W : WX) (pn : List (Addr × Obj)) (xe : Value → Shared → Prop) (p1 p2 : Pos), Takes ((cxOf CX0 P w K mg base ((["_law_act_here", "_law_back", "_law_e"] : List Str) ++ ghosts n) "_law_caught" (defScope s_cup_caughtV) T.a_cup_caughtV cdv A outer s H E0).tr pn xe) W → DEX ((cxOf CX0 P w K mg base ((["_law_act_here", "_law_back", "_law_e"] : List Str) ++ ghosts n) "_law_caught" (defScope s_cup_caughtV) T.a_cup_caughtV cdv A outer s H E0).tr pn xe) W (.Call (.Name "_law_act_here" p1) [] [] p2) (wAct 3 f Pt q sdG sd wl)) : DSs (cxOf CX0 P w K mg base ((["_law_act_here", "_law_back", "_law_e"] : List Str) ++ ghosts n) "_law_caught" (defScope s_cup_caughtV) T.a_cup_caughtV cdv A outer s H E0).nox (defBody s_cup_caughtV) (w_cup_caughtV T.a_Web wl f Pt q sdG sd) := by
  exact (dss_cons (ds_try (ns := nsA) rfl rfl (fun W pn xe tk hp => (dssx_one (dsx_set (i := 1) hnd (act _ _ _ _ _ tk)))) (HdsX.named (l := [("NotRight", T.a_NotRight), ("NotThere", T.a_NotThere), ("CannotBe", T.a_CannotBe)]) (i := 2) (test3 ⟨rfl, by decide, .inl T.m_NotRight⟩ ⟨rfl, by decide, .inl T.m_NotThere⟩ ⟨rfl, by decide, .inl T.m_CannotBe⟩) hnd rfl rfl (errT_h T.et (by kernel_rfl)) (all3 T.n_NotRight T.n_NotThere T.n_CannotBe) (fun a pn => (dss_one (ds_ret (de_fnU (ok_cup_sortV T) (((roomU_of hr).mark _).mono (by decide)) hg T.m_cup_sortV T.F_cup_sortV.kp (b_cup_sortV T.F_cup_sortV) (da_cons (de_v 2) da_nil))))) HdsX.nil))
    (dss_one (ds_ret (de_tup (da_cons de_str (da_cons (de_v 1) da_nil))))))
theorem ok_k05_net_in (T : Txt P K mg) : FnD P w K mg base 1 T.a_k05_net_in T.d_k05_net_in ["_law_thing"] (sp_k05_net_in T.a_Web) := by
  refine fnD_ok (w0 := w_k05_net_in T.a_Web) (fun_at T.F_k05_net_in) sc_k05_net_in (len_k05_net_in _) (fun cdv A outer s H E hr hg => ?_) (pure_k05_net_in T.a_Web)
  exact (dss_cons (ds_if (dt_not (dt_b (de_callB (dc_isiT "str" [] (by decide) (fun _ h => nomatch h)) (by rfl) T.z_isinstance boot_isinstance (da_cons (de_v 0) (da_cons (de_bT T.z_str boot_str) da_nil))))) (dss_one (ds_ret de_non)) dss_nil)
    (dss_cons (ds_setLcP (i := 1) rfl sc_k05_net_in.nd (di_seq (de_split (de_v 0) de_str)) (own := [("_law_line", 5)]) (nt := (.n 5)) (blkOk_by (by kernel_rfl)) (by decide) (fun _ _ _ _ _ => (pg_name (i := 5) sc_k05_net_in.nd rfl (.inl rfl))) (fun _ _ _ _ _ => dts_nil) (fun _ _ _ _ _ => (de_split (de_v 5) de_str)))
    (dss_cons (ds_set (i := 2) sc_k05_net_in.nd (de_callTy dc_tuple (by rfl) T.z_tuple boot_tuple (da_cons (de_sl (de_ix (u65 hr) (de_v 1) de_int) (dp_some de_int) dp_none) da_nil)))
    (dss_cons (ds_if (dw_pt (dw_or (dt_c (do_ne (u65 hr)) (de_ix (u65 hr) (de_ix (u65 hr) (de_v 1) de_int) de_int) de_str) (dw_or (dt_not (dt_ch do_le do_le de_int (de_callB dc_len (by rfl) T.z_len boot_len (da_cons (de_v 2) da_nil)) de_int)) (dw_or1 (dt_c do_gt (de_callB dc_len (by rfl) T.z_len boot_len (da_cons (de_v 1) da_nil)) de_int))))) (dss_one (ds_ret de_non)) dss_nil)
    (dss_cons (ds_for PassesOwn.never rfl (di_rng1 T.z_range (da_cons (de_callB dc_len (by rfl) T.z_len boot_len (da_cons (de_v 2) da_nil)) da_nil)) (dg_v (i := 3) sc_k05_net_in.nd) (dss_cons (ds_if (dw_pt (dw_or (dt_not (dt_ch do_le do_le de_int (de_callB dc_len (by rfl) T.z_len boot_len (da_cons (de_ix (u65 hr) (de_v 2) (de_v 3)) da_nil)) de_int)) (dw_or1 (dt_c (do_in (u65 hr)) (de_ix (u65 hr) (de_v 2) (de_v 3)) (de_sl (de_v 2) dp_none (dp_some (de_v 3))))))) (dss_one (ds_ret de_non)) dss_nil)
    (dss_one (ds_if (dt_c (do_neL (u65 hr)) (de_lcP rfl sc_k05_net_in.nd (di_str (de_ix (u65 hr) (de_v 2) (de_v 3))) (own := [("_law_sign", 6)]) (nt := (.n 6)) (blkOk_by (by kernel_rfl)) (by decide) (fun _ _ _ _ _ => (pg_name (i := 6) sc_k05_net_in.nd rfl (.inl rfl))) (fun _ _ _ _ _ => (dts_one (dt_c (do_notIn (u65 hr)) (de_v 6) de_str))) (fun _ _ _ _ _ => (de_v 6))) (de_lst da_nil)) (dss_one (ds_ret de_non)) dss_nil))))
    (dss_cons (ds_set (i := 4) sc_k05_net_in.nd (de_callTy dc_tuple (by rfl) T.z_tuple boot_tuple (da_cons (de_lcP rfl sc_k05_net_in.nd (di_seq (de_sl (de_v 1) (dp_some de_int) dp_none)) (own := [("_law_words", 7)]) (nt := (.n 7)) (blkOk_by (by kernel_rfl)) (by decide) (fun _ _ _ _ _ => (pg_name (i := 7) sc_k05_net_in.nd rfl (.inl rfl))) (fun _ _ _ _ _ => dts_nil) (fun _ _ _ _ _ => (de_callTy dc_tuple (by rfl) T.z_tuple boot_tuple (da_cons (de_v 7) da_nil)))) da_nil)))
    (dss_cons (ds_for PassesOwn.never rfl (di_rng1 T.z_range (da_cons (de_callB dc_len (by rfl) T.z_len boot_len (da_cons (de_v 4) da_nil)) da_nil)) (dg_v (i := 3) sc_k05_net_in.nd) (dss_cons (ds_if (dw_pt (dw_or (dt_c (do_ne (u65 hr)) (de_callB dc_len (by rfl) T.z_len boot_len (da_cons (de_ix (u65 hr) (de_v 4) (de_v 3)) da_nil)) de_int) (dw_or (dt_c (do_eq (u65 hr)) (de_ix (u65 hr) (de_ix (u65 hr) (de_v 4) (de_v 3)) de_int) (de_ix (u65 hr) (de_ix (u65 hr) (de_v 4) (de_v 3)) de_int)) (dw_or1 (dt_c (do_in (u65 hr)) (de_ix (u65 hr) (de_v 4) (de_v 3)) (de_sl (de_v 4) dp_none (dp_some (de_v 3)))))))) (dss_one (ds_ret de_non)) dss_nil)
    (dss_one (ds_if (dt_not (dt_b (de_callB (dc_all rfl) (by rfl) T.z_all boot_all (da_cons (de_lcP rfl sc_k05_net_in.nd (di_seq (de_ix (u65 hr) (de_v 4) (de_v 3))) (own := [("_law_each", 8)]) (nt := (.n 8)) (blkOk_by (by kernel_rfl)) (by decide) (fun _ _ _ _ _ => (pg_name (i := 8) sc_k05_net_in.nd rfl (.inl rfl))) (fun _ _ _ _ _ => dts_nil) (fun _ _ _ _ _ => (de_c (do_in (u65 hr)) (de_v 8) (de_v 2)))) da_nil)))) (dss_one (ds_ret de_non)) dss_nil))))
    (dss_one (ds_ret (de_tup (da_cons (de_v 2) (da_cons (de_v 4) da_nil))))))))))))
theorem ok_k05_bent (T : Txt P K mg) : FnD P w K mg base 3 T.a_k05_bent T.d_k05_bent ["_law_cup_here", "_law_page_here"] (sp_k05_bent T.a_Web) := by
  refine fnD_ok (w0 := w_k05_bent T.a_Web) (fun_at T.F_k05_bent) sc_k05_bent (len_k05_bent _) (fun cdv A outer s H E hr hg => ?_) (pure_k05_bent T.a_Web)
  exact (dss_cons (ds_par (i := 2) (j := 3) rfl sc_k05_bent.nd (da_cons (de_fn (FnG.up (ok_cup_sip T) (by decide)) hr hg T.m_cup_sip T.F_cup_sip.kp (b_cup_sip T.F_cup_sip) .nil lits_nil (da_cons (de_v 0) (da_cons de_int da_nil))) (da_cons (de_fn (FnG.up (ok_cup_sip T) (by decide)) hr hg T.m_cup_sip T.F_cup_sip.kp (b_cup_sip T.F_cup_sip) .nil lits_nil (da_cons (de_v 0) (da_cons (de_o do_add (de_callB dc_len (by rfl) T.z_len boot_len (da_cons (de_v 1) da_nil)) de_int) da_nil))) da_nil)))
    (dss_cons (ds_set (i := 4) sc_k05_bent.nd (de_fn (FnG.up (ok_cup_of T) (by decide)) hr hg T.m_cup_of T.F_cup_of.kp (b_cup_of T.F_cup_of) .nil lits_nil (da_cons (de_v 0) (da_cons (de_lst (da_cons de_str (da_cons de_str (da_cons de_str (da_cons de_str (da_cons de_str (da_cons de_str (da_cons de_str da_nil)))))))) da_nil))))
    (dss_cons (ds_if (dt_c do_lt (de_v 2) de_int) (dss_one (ds_ret (de_o do_add (de_o do_add (de_sl (de_v 1) dp_none (dp_some (de_v 3))) (de_ix (u65 hr) (de_lst (da_cons de_str (da_cons (de_v 4) (da_cons (de_v 4) da_nil)))) (de_v 2))) (de_sl (de_v 1) (dp_some (de_o do_add (de_v 3) (de_ix (u65 hr) (de_lst (da_cons de_int (da_cons de_int (da_cons de_int da_nil)))) (de_v 2)))) dp_none)))) dss_nil)
    (dss_cons (ds_set (i := 5) sc_k05_bent.nd (de_splitO (de_v 1) de_str))
    (dss_cons (ds_par (i := 6) (j := 7) rfl sc_k05_bent.nd (da_cons (de_fn (FnG.up (ok_cup_sip T) (by decide)) hr hg T.m_cup_sip T.F_cup_sip.kp (b_cup_sip T.F_cup_sip) .nil lits_nil (da_cons (de_v 0) (da_cons (de_callB dc_len (by rfl) T.z_len boot_len (da_cons (de_v 5) da_nil)) da_nil))) (da_cons (de_fn (FnG.up (ok_cup_sip T) (by decide)) hr hg T.m_cup_sip T.F_cup_sip.kp (b_cup_sip T.F_cup_sip) .nil lits_nil (da_cons (de_v 0) (da_cons (de_callB dc_len (by rfl) T.z_len boot_len (da_cons (de_v 5) da_nil)) da_nil))) da_nil)))
    (dss_cons (ds_if (dt_c (do_eq (u65 hr)) (de_v 2) de_int) (dss_one (ds_ret (de_join de_str (de_o do_add (de_o do_add (de_sl (de_v 5) dp_none (dp_some (de_v 6))) (de_lst (da_cons (de_ix (u65 hr) (de_v 5) (de_v 7)) da_nil))) (de_sl (de_v 5) (dp_some (de_v 6)) dp_none))))) dss_nil)
    (dss_cons (ds_if (dt_c (do_eq (u65 hr)) (de_v 2) de_int) (dss_one (ds_ret (de_join de_str (de_o do_add (de_sl (de_v 5) dp_none (dp_some (de_v 6))) (de_sl (de_v 5) (dp_some (de_o do_add (de_v 6) de_int)) dp_none))))) dss_nil)
    (dss_cons (ds_if (dt_c (do_eq (u65 hr)) (de_v 2) de_int) (dss_one (ds_ret (de_o do_add (de_v 1) (de_fn (FnG.up (ok_cup_of T) (by decide)) hr hg T.m_cup_of T.F_cup_of.kp (b_cup_of T.F_cup_of) .nil lits_nil (da_cons (de_v 0) (da_cons (de_lst (da_cons de_str (da_cons de_str (da_cons de_str (da_cons de_str da_nil))))) da_nil)))))) dss_nil)
    (dss_cons (ds_set (i := 8) sc_k05_bent.nd (de_split (de_ix (u65 hr) (de_v 5) (de_v 6)) de_str))
    (dss_cons (ds_par (i := 9) (j := 10) rfl sc_k05_bent.nd (da_cons (de_fn (FnG.up (ok_cup_sip T) (by decide)) hr hg T.m_cup_sip T.F_cup_sip.kp (b_cup_sip T.F_cup_sip) .nil lits_nil (da_cons (de_v 0) (da_cons (de_callB dc_len (by rfl) T.z_len boot_len (da_cons (de_v 8) da_nil)) da_nil))) (da_cons (de_fn (FnG.up (ok_cup_sip T) (by decide)) hr hg T.m_cup_sip T.F_cup_sip.kp (b_cup_sip T.F_cup_sip) .nil lits_nil (da_cons (de_v 0) (da_cons (de_callB dc_len (by rfl) T.z_len boot_len (da_cons (de_v 8) da_nil)) da_nil))) da_nil)))
    (dss_cons (ds_set (i := 11) sc_k05_bent.nd (de_new (da_cons (de_o do_add (de_sl (de_v 8) dp_none (dp_some (de_v 9))) (de_sl (de_v 8) (dp_some (de_o do_add (de_v 9) de_int)) dp_none)) (da_cons (de_o do_add (de_o do_add (de_sl (de_v 8) dp_none (dp_some (de_v 9))) (de_lst (da_cons (de_ix (u65 hr) (de_v 8) (de_v 10)) da_nil))) (de_sl (de_v 8) (dp_some (de_v 9)) dp_none)) (da_cons (de_revL (de_v 8)) da_nil)))))
    (dss_cons (ds_expr (de_bm dm_append F.plainAttrs_list F.slot_list_append F.type_list_append (de_v 11) (da_cons (de_o do_add (de_o do_add (de_sl (de_v 8) dp_none (dp_some (de_v 9))) (de_lst (da_cons (de_fn (FnG.up (ok_cup_of T) (by decide)) hr hg T.m_cup_of T.F_cup_of.kp (b_cup_of T.F_cup_of) .nil lits_nil (da_cons (de_v 0) (da_cons (de_o do_add (de_v 8) (de_lst (da_cons de_str (da_cons de_str (da_cons de_str (da_cons de_str (da_cons de_str da_nil))))))) da_nil))) da_nil))) (de_sl (de_v 8) (dp_some (de_o do_add (de_v 9) de_int)) dp_none)) da_nil)))
    (dss_cons (ds_sub (u65 hr) (de_v 5) (de_v 6) (de_join de_str (de_ix (u65 hr) (de_v 11) (de_o do_mod (de_v 2) de_int))))
    (dss_one (ds_ret (de_join de_str (de_v 5)))))))))))))))))
theorem ok_k05_great (T : Txt P K mg) : FnD P w K mg base 3 T.a_k05_great T.d_k05_great ["_law_cup_here"] (sp_k05_great T.a_Web) := by
  refine fnD_ok (w0 := w_k05_great T.a_Web) (fun_at T.F_k05_great) sc_k05_great (len_k05_great _) (fun cdv A outer s H E hr hg => ?_) (pure_k05_great T.a_Web)
  exact (dss_cons (ds_set (i := 1) sc_k05_great.nd de_str)
    (dss_cons (ds_set (i := 2) sc_k05_great.nd (de_callTy dc_tuple (by rfl) T.z_tuple boot_tuple (da_cons (de_lcP rfl sc_k05_great.nd (di_rng1 T.z_range (da_cons (de_fn (FnG.up (ok_cup_of T) (by decide)) hr hg T.m_cup_of T.F_cup_of.kp (b_cup_of T.F_cup_of) .nil lits_nil (da_cons (de_v 0) (da_cons (de_lst (da_cons de_int (da_cons de_int (da_cons de_int da_nil)))) da_nil))) da_nil)) (own := [("_law_k", 4)]) (nt := (.n 4)) (blkOk_by (by kernel_rfl)) (by decide) (fun _ _ _ _ _ => (pg_name (i := 4) sc_k05_great.nd rfl (.inl rfl))) (fun _ _ _ _ _ => dts_nil) (fun _ _ _ _ _ => (de_o do_add (de_ix (u65 hr) (de_v 1) (de_o do_div (de_v 4) de_int)) (de_ix (u65 hr) (de_v 1) (de_o do_mod (de_callTy dc_int (by rfl) T.z_int boot_int (da_cons (de_v 4) da_nil)) de_int))))) da_nil)))
    (dss_cons (ds_set (i := 3) sc_k05_great.nd (de_tup da_nil))
    (dss_cons (ds_for PassesOwn.never rfl (di_rng1 T.z_range (da_cons (de_callB dc_len (by rfl) T.z_len boot_len (da_cons (de_v 2) da_nil)) da_nil)) (dg_v (i := 4) sc_k05_great.nd) (dss_one (ds_set (i := 3) sc_k05_great.nd (de_o do_add (de_v 3) (de_callTy dc_tuple (by rfl) T.z_tuple boot_tuple (da_cons (de_lcP rfl sc_k05_great.nd (di_rng1 T.z_range (da_cons (de_callB (dc_min rfl) (by rfl) T.z_min boot_min (da_cons (de_v 4) (da_cons de_int da_nil))) da_nil)) (own := [("_law_j", 5)]) (nt := (.n 5)) (blkOk_by (by kernel_rfl)) (by decide) (fun _ _ _ _ _ => (pg_name (i := 5) sc_k05_great.nd rfl (.inl rfl))) (fun _ _ _ _ _ => dts_nil) (fun _ _ _ _ _ => (de_tup (da_cons (de_ix (u65 hr) (de_v 2) (de_v 4)) (da_cons (de_ix (u65 hr) (de_v 2) (de_v 5)) da_nil))))) da_nil))))))
    (dss_one (ds_ret (de_fn (FnG.up (ok_cup_pageT T) (by decide)) hr hg T.m_cup_pageT T.F_cup_pageT.kp (b_cup_pageT T.F_cup_pageT) .nil lits_nil (da_cons (de_tup (da_cons (de_v 2) (da_cons (de_sl (de_v 3) dp_none (dp_some (de_fn (FnG.up (ok_cup_of T) (by decide)) hr hg T.m_cup_of T.F_cup_of.kp (b_cup_of T.F_cup_of) .nil lits_nil (da_cons (de_v 0) (da_cons (de_lst (da_cons de_int (da_cons de_int (da_cons de_int da_nil)))) da_nil))))) da_nil))) da_nil))))))))
theorem ok_k05_right (T : Txt P K mg) (TB : TabsB base T) : FnD P w K mg base 9 T.a_k05_right T.d_k05_right ["_law_cup_here"] (sp_k05_right T.a_Web T.tp) := by
  refine fnD_okC (w0 := w_k05_right T.a_Web T.tp) (T.FC_k05_right) sc_k05_right (len_k05_right _ _) (fun A outer s H E hr hg => ?_) (pure_k05_right T.a_Web T.tp)
  exact (dss_cons (ds_cl (ds_for PassesOwn.never rfl (di_rng1 T.z_range (da_cons de_int da_nil)) (dg_v (i := 1) sc_k05_right.nd) (dss_cons (ds_set (i := 2) sc_k05_right.nd (de_if (dt_c do_gt (de_fn (FnG.up (ok_cup_sip T) (by decide)) hr hg T.m_cup_sip T.F_cup_sip.kp (b_cup_sip T.F_cup_sip) .nil lits_nil (da_cons (de_v 0) (da_cons de_int da_nil))) de_int) (de_fn (FnG.up (ok_cup_pageT T) (by decide)) hr hg T.m_cup_pageT T.F_cup_pageT.kp (b_cup_pageT T.F_cup_pageT) .nil lits_nil (da_cons (de_fn (FnG.up (ok_cup_netT T) (by decide)) hr hg T.m_cup_netT T.F_cup_netT.kp (b_cup_netT T.F_cup_netT) .nil lits_nil (da_cons (de_v 0) (da_cons de_int (da_cons de_int da_nil)))) da_nil)) (de_fn (FnG.up (ok_k05_great T) (by decide)) hr hg T.m_k05_great T.F_k05_great.kp (b_k05_great T.F_k05_great) .nil lits_nil (da_cons (de_v 0) da_nil))))
    (dss_cons (ds_for PassesOwn.never rfl (di_rng1 T.z_range (da_cons (de_fn (FnG.up (ok_cup_sip T) (by decide)) hr hg T.m_cup_sip T.F_cup_sip.kp (b_cup_sip T.F_cup_sip) .nil lits_nil (da_cons (de_v 0) (da_cons de_int da_nil))) da_nil)) (dg_v (i := 3) sc_k05_right.nd) (dss_one (ds_set (i := 2) sc_k05_right.nd (de_fn (FnG.up (ok_k05_bent T) (by decide)) hr hg T.m_k05_bent T.F_k05_bent.kp (b_k05_bent T.F_k05_bent) .nil lits_nil (da_cons (de_v 0) (da_cons (de_v 2) da_nil))))))
    (dss_cons (ds_set (i := 4) sc_k05_right.nd (de_fn (FnG.up (ok_cup_of T) (by decide)) hr hg T.m_cup_of T.F_cup_of.kp (b_cup_of T.F_cup_of) .nil lits_nil (da_cons (de_v 0) (da_cons (de_o do_add (de_o do_mul (de_lst (da_cons (de_v 2) da_nil)) de_int) (de_lst (da_cons de_non (da_cons de_int (da_cons (de_tup (da_cons (de_v 2) da_nil)) (da_cons (de_lst (da_cons (de_v 2) da_nil)) (da_cons de_dicF (da_cons de_str (da_cons de_str (da_cons (de_upper (de_v 2)) da_nil)))))))))) da_nil))))
    (dss_cons (ds_set (i := 5) sc_k05_right.nd (de_fn (FnG.up (ok_k05_net_in T) (by decide)) hr hg T.m_k05_net_in T.F_k05_net_in.kp (b_k05_net_in T.F_k05_net_in) .nil lits_nil (da_cons (de_v 4) da_nil)))
    (dss_cons (ds_set (i := 6) sc_k05_right.nd (de_new (da_cons (de_lam (k := 6) (P := T.tp "k05_right") (q := "_law_right.<locals>.<lambda>") (N := ["_law_act_here", "_law_back", "_law_e"]) (wl := _) (wg := _) T.m_cup_caughtV T.F_cup_caughtV.kp (fun_at T.F_cup_caughtV) sc_cup_caughtV (by decide) (by decide) (b_cup_caughtV T.F_cup_caughtV) (.inl rfl) (fun _ => rfl) (TB.k05_right) rfl rfl (hr.mono (by decide)) hg (LamX.lamS_by (by kernel_rfl)) rfl (fun _ _ _ _ _ => rfl) (fun A outer s H E f c' hr hg tk => (dex_cmeth (de_gC T.m_Web) T.r_Web T.e_read (FnG.up (ok_Web_readE T) (by decide)) hr hg tk (b_Web_readE T.F_Web_readE) .nil lits_nil (da_cons (de_v 4) da_nil))) (fun cdv A outer s H f sdG sd n hr hg hnd act => lm_cup_caughtV T (hr.mono (by decide)) hg hnd act)) da_nil)))
    (dss_cons (ds_expr (de_bm dm_append F.plainAttrs_list F.slot_list_append F.type_list_append (de_v 6) (da_cons (de_lam (k := 6) (P := T.tp "k05_right") (q := "_law_right.<locals>.<lambda>") (N := ["_law_act_here", "_law_back", "_law_e"]) (wl := _) (wg := _) T.m_cup_caughtV T.F_cup_caughtV.kp (fun_at T.F_cup_caughtV) sc_cup_caughtV (by decide) (by decide) (b_cup_caughtV T.F_cup_caughtV) (.inl rfl) (fun _ => rfl) (TB.k05_right) rfl rfl (hr.mono (by decide)) hg (LamX.lamS_by (by kernel_rfl)) rfl (fun _ _ _ _ _ => rfl) (fun A outer s H E f c' hr hg tk => (dex_cmethK (de_gC T.m_Web) T.r_Web T.e_read (FnG.up (ok_Web_readE T) (by decide)) hr hg tk (kbc_Web_readE T.F_Web_readE) gd_c1 (dk_cons (de_v 4) dk_nil))) (fun cdv A outer s H f sdG sd n hr hg hnd act => lm_cup_caughtV T (hr.mono (by decide)) hg hnd act)) da_nil)))
    (dss_one (ds_if (dt_c do_isN (de_v 5) de_non) (dss_one (ds_if (dt_c (do_ne (u65 hr)) (de_v 6) (de_o do_mul (de_lst (da_cons (de_tup (da_cons de_str (da_cons (de_callB (dc_reprV hg (u70 hr)) (by rfl) T.z_repr boot_repr (da_cons (de_v 4) da_nil)) da_nil))) da_nil)) de_int)) (dss_one (ds_ret de_bl)) dss_nil)) (dss_one (ds_if (dw_pt (dw_or (dt_c (do_ne (u65 hr)) (de_lcP rfl sc_k05_right.nd (di_seq (de_v 6)) (own := [("_law_each", 7)]) (nt := (.n 7)) (blkOk_by (by kernel_rfl)) (by decide) (fun _ _ _ _ _ => (pg_name (i := 7) sc_k05_right.nd rfl (.inl rfl))) (fun _ _ _ _ _ => dts_nil) (fun _ _ _ _ _ => (de_ix (u65 hr) (de_v 7) de_int))) (de_o do_mul (de_lst (da_cons de_str da_nil)) de_int)) (dw_or1 (dt_c (do_ne (u65 hr)) (de_callB (dc_repr hg (u70 hr)) (by rfl) T.z_repr boot_repr (da_cons (de_lst (da_cons (de_prop T.c_Web T.p_places (g_places T) (hr.mono (by decide)) (b_places T) (de_ix (u65 hr) (de_ix (u65 hr) (de_v 6) de_int) de_int)) (da_cons (de_prop T.c_Web T.p_ties (g_ties T) (hr.mono (by decide)) (b_ties T) (de_ix (u65 hr) (de_ix (u65 hr) (de_v 6) de_int) de_int)) da_nil))) da_nil)) (de_callB (dc_repr hg (u70 hr)) (by rfl) T.z_repr boot_repr (da_cons (de_callTy dc_list (by rfl) T.z_list boot_list (da_cons (de_v 5) da_nil)) da_nil)))))) (dss_one (ds_ret de_bl)) dss_nil))))))))))))
    (dss_one (ds_ret de_bl)))
theorem ok_k05_law (T : Txt P K mg) (TB : TabsB base T) : FnD P w K mg base 10 T.a_k05_law T.d_k05_law ["_law_script"] (sp_k05_law T.a_Web T.tp) := by
  refine fnD_ok (w0 := w_k05_law T.a_Web T.tp) (fun_at T.F_k05_law) sc_k05_law (len_k05_law _ _) (fun cdv A outer s H E hr hg => ?_) (pure_k05_law T.a_Web T.tp)
  exact (dss_one (ds_ret (de_callB (dc_all rfl) (by rfl) T.z_all boot_all (da_cons (de_lcF rfl sc_k05_law.nd (di_rng1 T.z_range (da_cons (de_callB (dc_max rfl) (by rfl) T.z_max boot_max (da_cons de_int (da_cons (de_callB (dc_min rfl) (by rfl) T.z_min boot_min (da_cons (de_callB dc_len (by rfl) T.z_len boot_len (da_cons (de_v 0) da_nil)) (da_cons de_int da_nil))) da_nil))) da_nil)) (own := [("_law_k", 1)]) (nt := (.n 1)) (blkOk_by (by kernel_rfl)) (by decide) (fun _ _ _ _ _ => (pg_name (i := 1) sc_k05_law.nd rfl (.inl rfl))) (fun _ _ _ _ _ => dts_nil) (fun _ _ _ _ _ => (de_fn (FnG.up (ok_k05_right T TB) (by decide)) hr hg T.m_k05_right T.F_k05_right.kp (b_k05_right T.F_k05_right) .nil lits_nil (da_cons (de_fn (FnG.up (ok_cup_cup T) (by decide)) hr hg T.m_cup_cup T.F_cup_cup.kp (b_cup_cup T.F_cup_cup) .nil lits_nil (da_cons (de_v 0) (da_cons (de_v 1) da_nil))) da_nil)))) da_nil))))
end

end L2.DL
def PySem.W.Fast.tw4319619836803047726 : Nat := 0
def PySem.W.Fast.tw13805795197397581514 : Nat := 0
def PySem.W.Fast.tw11036052661101032659 : Nat := 0
def PySem.W.Fast.tw7345928287773123076 : Nat := 0
def PySem.W.Fast.tw4250351421423664210 : Nat := 0
def PySem.W.Fast.tw17183754204810124161 : Nat := 0
def PySem.W.Fast.tw17169947142085341199 : Nat := 0
def PySem.W.Fast.tw4007165184184236379 : Nat := 0
def PySem.W.Fast.tw11881296484918457208 : Nat := 0
def PySem.W.Fast.tw11978026075034532974 : Nat := 0
def PySem.W.Fast.tw5005400029836137006 : Nat := 0
def PySem.W.Fast.tw12054946719838153418 : Nat := 0
def PySem.W.Fast.tw7068132045202830456 : Nat := 0
def PySem.W.Fast.tw1884528485763133828 : Nat := 0
def PySem.W.Fast.tw18370886879396988692 : Nat := 0
def PySem.W.Fast.tw2725162747102583320 : Nat := 0
def PySem.W.Fast.tw2531437309074467281 : Nat := 0
def PySem.W.Fast.tw10999561226670432473 : Nat := 0
def PySem.W.Fast.tw8937615031203572758 : Nat := 0
def PySem.W.Fast.tw14961416628923063378 : Nat := 0
def PySem.W.Fast.tw12842520268908015173 : Nat := 0
def PySem.W.Fast.tw12216559283059079071 : Nat := 0
def PySem.W.Fast.tw11957922089924282344 : Nat := 0
def PySem.W.Fast.tw17175354731299438496 : Nat := 0
def PySem.W.Fast.tw6565116838015262356 : Nat := 0
def PySem.W.Fast.tw5673279280488829880 : Nat := 0
def PySem.W.Fast.tw10794875699469466627 : Nat := 0
def PySem.W.Fast.tw3292812791307382232 : Nat := 0
def PySem.W.Fast.tw5505324305227393548 : Nat := 0
def PySem.W.Fast.tw2627304703589722085 : Nat := 0
def PySem.W.Fast.tw14604216528001818630 : Nat := 0
def PySem.W.Fast.tw11527047171708974387 : Nat := 0
def PySem.W.Fast.tw13092424573052286362 : Nat := 0
def PySem.W.Fast.tw12156674263711800780 : Nat := 0
def PySem.W.Fast.tw9149104946759061815 : Nat := 0
def PySem.W.Fast.tw4947111789867855887 : Nat := 0
namespace L2.DL
open PySem PySem.Spec PyProof.Rows

/-! ### the head -/
def ndBs : List Addr → Bool
  | [] => true
  | a :: r => !(r.contains a) && ndBs r
theorem nd_of : ∀ {l : List Addr}, ndBs l = true → l.Nodup
  | [], _ => List.nodup_nil
  | a :: r, h => by
    unfold ndBs at h
    rw [Bool.and_eq_true] at h
    exact List.nodup_cons.mpr ⟨by simpa using h.1, nd_of h.2⟩
theorem all_mk {l : PySem.W.OpenLaw} {w : World} {K : PySem.W.Frag} {h : Heap} {mg : Str → Option Value} {fa : Addr} {kz : ClassData} {C_CannotBe C_InvalidNumber C_InvalidParting C_InvalidPlaces C_InvalidText C_InvalidTie C_InvalidTies C_NotAWeb C_NotMet C_NotRight C_NotThere C_NothingToUndo C_TooMany C_UnknownPlace C f_is_name f_wrong_place f_is_pair f_wrong_tie f_check_places f_check_ties f_Web_init dT_Web_init da_Web_init f_is_nameA f_wrong_placeF f_is_pairL f_wrong_tieF cp_read f_Web_readE f_cup_cup f_cup_sip f_cup_of f_cup_folkT f_cup_tiesT f_cup_netT f_cup_pageT f_cup_sortV f_cup_caughtV f_k05_net_in f_k05_bent f_k05_great f_k05_right tc_k05_right f_k05_law pa_places f_g_places pa_ties f_g_ties : Addr} {od_is_name an_is_name od_wrong_place an_wrong_place od_is_pair an_is_pair od_wrong_tie an_wrong_tie od_check_places an_check_places od_check_ties an_check_ties od_Web_init an_Web_init dd_Web_init od_is_nameA an_is_nameA od_wrong_placeF an_wrong_placeF od_is_pairL an_is_pairL od_wrong_tieF an_wrong_tieF od_Web_readE an_Web_readE od_cup_cup an_cup_cup od_cup_sip an_cup_sip od_cup_of an_cup_of od_cup_folkT an_cup_folkT od_cup_tiesT an_cup_tiesT od_cup_netT an_cup_netT od_cup_pageT an_cup_pageT od_cup_sortV an_cup_sortV od_cup_caughtV an_cup_caughtV od_k05_net_in an_k05_net_in od_k05_bent an_k05_bent od_k05_great an_k05_great od_k05_right an_k05_right od_k05_law an_k05_law od_g_places an_g_places od_g_ties an_g_ties : Option Addr} {oc_is_name kV_is_name dc_is_name pm_is_name cd_is_name ct_is_name oc_wrong_place kV_wrong_place dc_wrong_place pm_wrong_place cd_wrong_place ct_wrong_place oc_is_pair kV_is_pair dc_is_pair pm_is_pair cd_is_pair ct_is_pair oc_wrong_tie kV_wrong_tie dc_wrong_tie pm_wrong_tie cd_wrong_tie ct_wrong_tie oc_check_places kV_check_places dc_check_places pm_check_places cd_check_places ct_check_places oc_check_ties kV_check_ties dc_check_ties pm_check_ties cd_check_ties ct_check_ties oc_Web_init kV_Web_init dc_Web_init pm_Web_init cd_Web_init ct_Web_init do_Web_init dv_Web_init oc_is_nameA kV_is_nameA dc_is_nameA pm_is_nameA cd_is_nameA ct_is_nameA oc_wrong_placeF kV_wrong_placeF dc_wrong_placeF pm_wrong_placeF cd_wrong_placeF ct_wrong_placeF oc_is_pairL kV_is_pairL dc_is_pairL pm_is_pairL cd_is_pairL ct_is_pairL oc_wrong_tieF kV_wrong_tieF dc_wrong_tieF pm_wrong_tieF cd_wrong_tieF ct_wrong_tieF oc_Web_readE kV_Web_readE dc_Web_readE pm_Web_readE cd_Web_readE ct_Web_readE oc_cup_cup kV_cup_cup dc_cup_cup pm_cup_cup cd_cup_cup ct_cup_cup oc_cup_sip kV_cup_sip dc_cup_sip pm_cup_sip cd_cup_sip ct_cup_sip oc_cup_of kV_cup_of dc_cup_of pm_cup_of cd_cup_of ct_cup_of oc_cup_folkT kV_cup_folkT dc_cup_folkT pm_cup_folkT cd_cup_folkT ct_cup_folkT oc_cup_tiesT kV_cup_tiesT dc_cup_tiesT pm_cup_tiesT cd_cup_tiesT ct_cup_tiesT oc_cup_netT kV_cup_netT dc_cup_netT pm_cup_netT cd_cup_netT ct_cup_netT oc_cup_pageT kV_cup_pageT dc_cup_pageT pm_cup_pageT cd_cup_pageT ct_cup_pageT oc_cup_sortV kV_cup_sortV dc_cup_sortV pm_cup_sortV cd_cup_sortV ct_cup_sortV oc_cup_caughtV kV_cup_caughtV dc_cup_caughtV pm_cup_caughtV cd_cup_caughtV ct_cup_caughtV oc_k05_net_in kV_k05_net_in dc_k05_net_in pm_k05_net_in cd_k05_net_in ct_k05_net_in oc_k05_bent kV_k05_bent dc_k05_bent pm_k05_bent cd_k05_bent ct_k05_bent oc_k05_great kV_k05_great dc_k05_great pm_k05_great cd_k05_great ct_k05_great oc_k05_right kV_k05_right dc_k05_right pm_k05_right ct_k05_right oc_k05_law kV_k05_law dc_k05_law pm_k05_law cd_k05_law ct_k05_law oc_g_places kV_g_places dc_g_places pm_g_places cd_g_places ct_g_places oc_g_ties kV_g_ties dc_g_ties pm_g_ties cd_g_ties ct_g_ties : Value} {sl_is_name sl_wrong_place sl_is_pair sl_wrong_tie sl_check_places sl_check_ties sl_Web_init ds_Web_init sl_is_nameA sl_wrong_placeF sl_is_pairL sl_wrong_tieF sl_Web_readE sl_cup_cup sl_cup_sip sl_cup_of sl_cup_folkT sl_cup_tiesT sl_cup_netT sl_cup_pageT sl_cup_sortV sl_cup_caughtV sl_k05_net_in sl_k05_bent sl_k05_great sl_k05_right sl_k05_law sl_g_places sl_g_ties : Array (Option Value)} {tk_LETTERS tk_MOST_PLACES tk_MOST_TIES : Tok} {dn_Web_init : Nat} {cr_read pr_places pr_ties : List Value} {ts : List Addr} (X : K.In h) (G : h.Ns mainGlobals mg) (Yt : ∀ P ∈ ts, h.get? P = some (PySem.W.tabObj #[])) (hfa : mg "law" = some (.ref fa))
    (atC_CannotBe : PySem.W.nsIn K mainGlobals "CannotBe" = some (some (.ref C_CannotBe)))
    (atC_InvalidNumber : PySem.W.nsIn K mainGlobals "InvalidNumber" = some (some (.ref C_InvalidNumber)))
    (atC_InvalidParting : PySem.W.nsIn K mainGlobals "InvalidParting" = some (some (.ref C_InvalidParting)))
    (atC_InvalidPlaces : PySem.W.nsIn K mainGlobals "InvalidPlaces" = some (some (.ref C_InvalidPlaces)))
    (atC_InvalidText : PySem.W.nsIn K mainGlobals "InvalidText" = some (some (.ref C_InvalidText)))
    (atC_InvalidTie : PySem.W.nsIn K mainGlobals "InvalidTie" = some (some (.ref C_InvalidTie)))
    (atC_InvalidTies : PySem.W.nsIn K mainGlobals "InvalidTies" = some (some (.ref C_InvalidTies)))
    (atC_NotAWeb : PySem.W.nsIn K mainGlobals "NotAWeb" = some (some (.ref C_NotAWeb)))
    (atC_NotMet : PySem.W.nsIn K mainGlobals "NotMet" = some (some (.ref C_NotMet)))
    (atC_NotRight : PySem.W.nsIn K mainGlobals "NotRight" = some (some (.ref C_NotRight)))
    (atC_NotThere : PySem.W.nsIn K mainGlobals "NotThere" = some (some (.ref C_NotThere)))
    (atC_NothingToUndo : PySem.W.nsIn K mainGlobals "NothingToUndo" = some (some (.ref C_NothingToUndo)))
    (atC_TooMany : PySem.W.nsIn K mainGlobals "TooMany" = some (some (.ref C_TooMany)))
    (atC_UnknownPlace : PySem.W.nsIn K mainGlobals "UnknownPlace" = some (some (.ref C_UnknownPlace)))
    (et : errTB K nsA msA bsA = true)
    (ce_InvalidText : PySem.ErrX.clsEB K C_InvalidText "ValueError" "ValueError.__new__" [.type "ValueError", .type "Exception", .type "BaseException", .type "object"] = true)
    (ie_InvalidText : PySem.ErrX.initEB l.prog K C_InvalidText "ValueError.__init__" "given" = true)
    (atC : PySem.W.nsIn K mainGlobals "Web" = some (some (.ref C)))
    (pgC : PySem.W.plainGet K C Str.empty = true)
    (hdC : PySem.W.hasDictIn K C = true)
    (poC : PySem.W.plainOver K C = true)
    (saC : PySem.W.findIn K (.ref C) "__setattr__" = some (some (.builtin "object.__setattr__")))
    (mkC : PySem.W.makesIn K C = true)
    (kcC : PySem.W.keepIn K (.ref C) = true)
    (n_marks : PySem.W.findIn K (.ref C) "marks" = some none)
    (n_pairs : PySem.W.findIn K (.ref C) "pairs" = some none)
    (n_row : PySem.W.findIn K (.ref C) "row" = some none)
    (icl : PySem.W.findIn K (.ref C) "__class__" = some (some (.builtin "object.__class__")))
    (isp : PySem.W.specialIn K (.builtin "object.__class__") "__get__" = some (some (.builtin "getset_descriptor.__get__")))
    (itk : PySem.W.takesIn K (.builtin "object.__class__") = some true)
    (imr : PySem.W.mroIn K C (.type "object") = some true)
    (kcls : PySem.W.clsIn K C = some kz)
    (kty : PySem.W.typeIn K (.ref C) = some (.type "type"))
    (ks0 : PySem.W.subIn K (.type "NoneType") (.ref C) = some false)
    (ks1 : PySem.W.subIn K (.type "bool") (.ref C) = some false)
    (ks2 : PySem.W.subIn K (.type "int") (.ref C) = some false)
    (ks3 : PySem.W.subIn K (.type "str") (.ref C) = some false)
    (ks4 : PySem.W.subIn K (.type "tuple") (.ref C) = some false)
    (ks5 : PySem.W.subIn K (.type "list") (.ref C) = some false)
    (ks6 : PySem.W.subIn K (.type "dict") (.ref C) = some false)
    (at_is_name : PySem.W.nsIn K mainGlobals "is_name" = some (some (.ref f_is_name)))
    (l_is_name : K.lookup f_is_name = some ⟨oc_is_name, od_is_name, .func (PySem.W.fnOf "is_name" "is_name" (defArgs s_is_name) (defBody s_is_name) (defScope s_is_name) .none kV_is_name dc_is_name pm_is_name an_is_name cd_is_name ct_is_name), sl_is_name⟩)
    (cc_is_name : PySem.W.codeIn K cd_is_name "is_name" = true)
    (kk_is_name : PySem.W.keepIn K (.ref f_is_name) = true)
    (at_wrong_place : PySem.W.nsIn K mainGlobals "wrong_place" = some (some (.ref f_wrong_place)))
    (l_wrong_place : K.lookup f_wrong_place = some ⟨oc_wrong_place, od_wrong_place, .func (PySem.W.fnOf "wrong_place" "wrong_place" (defArgs s_wrong_place) (defBody s_wrong_place) (defScope s_wrong_place) .none kV_wrong_place dc_wrong_place pm_wrong_place an_wrong_place cd_wrong_place ct_wrong_place), sl_wrong_place⟩)
    (cc_wrong_place : PySem.W.codeIn K cd_wrong_place "wrong_place" = true)
    (kk_wrong_place : PySem.W.keepIn K (.ref f_wrong_place) = true)
    (at_is_pair : PySem.W.nsIn K mainGlobals "is_pair" = some (some (.ref f_is_pair)))
    (l_is_pair : K.lookup f_is_pair = some ⟨oc_is_pair, od_is_pair, .func (PySem.W.fnOf "is_pair" "is_pair" (defArgs s_is_pair) (defBody s_is_pair) (defScope s_is_pair) .none kV_is_pair dc_is_pair pm_is_pair an_is_pair cd_is_pair ct_is_pair), sl_is_pair⟩)
    (cc_is_pair : PySem.W.codeIn K cd_is_pair "is_pair" = true)
    (kk_is_pair : PySem.W.keepIn K (.ref f_is_pair) = true)
    (at_wrong_tie : PySem.W.nsIn K mainGlobals "wrong_tie" = some (some (.ref f_wrong_tie)))
    (l_wrong_tie : K.lookup f_wrong_tie = some ⟨oc_wrong_tie, od_wrong_tie, .func (PySem.W.fnOf "wrong_tie" "wrong_tie" (defArgs s_wrong_tie) (defBody s_wrong_tie) (defScope s_wrong_tie) .none kV_wrong_tie dc_wrong_tie pm_wrong_tie an_wrong_tie cd_wrong_tie ct_wrong_tie), sl_wrong_tie⟩)
    (cc_wrong_tie : PySem.W.codeIn K cd_wrong_tie "wrong_tie" = true)
    (kk_wrong_tie : PySem.W.keepIn K (.ref f_wrong_tie) = true)
    (at_check_places : PySem.W.nsIn K mainGlobals "check_places" = some (some (.ref f_check_places)))
    (l_check_places : K.lookup f_check_places = some ⟨oc_check_places, od_check_places, .func (PySem.W.fnOf "check_places" "check_places" (defArgs s_check_places) (defBody s_check_places) (defScope s_check_places) .none kV_check_places dc_check_places pm_check_places an_check_places cd_check_places ct_check_places), sl_check_places⟩)
    (cc_check_places : PySem.W.codeIn K cd_check_places "check_places" = true)
    (kk_check_places : PySem.W.keepIn K (.ref f_check_places) = true)
    (at_check_ties : PySem.W.nsIn K mainGlobals "check_ties" = some (some (.ref f_check_ties)))
    (l_check_ties : K.lookup f_check_ties = some ⟨oc_check_ties, od_check_ties, .func (PySem.W.fnOf "check_ties" "check_ties" (defArgs s_check_ties) (defBody s_check_ties) (defScope s_check_ties) .none kV_check_ties dc_check_ties pm_check_ties an_check_ties cd_check_ties ct_check_ties), sl_check_ties⟩)
    (cc_check_ties : PySem.W.codeIn K cd_check_ties "check_ties" = true)
    (kk_check_ties : PySem.W.keepIn K (.ref f_check_ties) = true)
    (at_Web_init : PySem.W.findIn K (.ref C) "__init__" = some (some (.ref f_Web_init)))
    (i_Web_init : PySem.W.isFn K (.ref f_Web_init) = true)
    (l_Web_init : K.lookup f_Web_init = some ⟨oc_Web_init, od_Web_init, .func (PySem.W.fnOf "__init__" "Web.__init__" (defArgs s_Web_init) (defBody s_Web_init) (defScope s_Web_init) (.ref dT_Web_init) kV_Web_init dc_Web_init pm_Web_init an_Web_init cd_Web_init ct_Web_init), sl_Web_init⟩)
    (cc_Web_init : PySem.W.codeIn K cd_Web_init "Web.__init__" = true)
    (kk_Web_init : PySem.W.keepIn K (.ref f_Web_init) = true)
    (dl_Web_init : K.lookup dT_Web_init = some ⟨do_Web_init, dd_Web_init, .seq #[dv_Web_init] dn_Web_init, ds_Web_init⟩)
    (dr_Web_init : dv_Web_init = .ref da_Web_init)
    (at_is_nameA : PySem.W.nsIn K mainGlobals "is_name" = some (some (.ref f_is_nameA)))
    (l_is_nameA : K.lookup f_is_nameA = some ⟨oc_is_nameA, od_is_nameA, .func (PySem.W.fnOf "is_name" "is_name" (defArgs s_is_nameA) (defBody s_is_nameA) (defScope s_is_nameA) .none kV_is_nameA dc_is_nameA pm_is_nameA an_is_nameA cd_is_nameA ct_is_nameA), sl_is_nameA⟩)
    (cc_is_nameA : PySem.W.codeIn K cd_is_nameA "is_name" = true)
    (kk_is_nameA : PySem.W.keepIn K (.ref f_is_nameA) = true)
    (at_wrong_placeF : PySem.W.nsIn K mainGlobals "wrong_place" = some (some (.ref f_wrong_placeF)))
    (l_wrong_placeF : K.lookup f_wrong_placeF = some ⟨oc_wrong_placeF, od_wrong_placeF, .func (PySem.W.fnOf "wrong_place" "wrong_place" (defArgs s_wrong_placeF) (defBody s_wrong_placeF) (defScope s_wrong_placeF) .none kV_wrong_placeF dc_wrong_placeF pm_wrong_placeF an_wrong_placeF cd_wrong_placeF ct_wrong_placeF), sl_wrong_placeF⟩)
    (cc_wrong_placeF : PySem.W.codeIn K cd_wrong_placeF "wrong_place" = true)
    (kk_wrong_placeF : PySem.W.keepIn K (.ref f_wrong_placeF) = true)
    (at_is_pairL : PySem.W.nsIn K mainGlobals "is_pair" = some (some (.ref f_is_pairL)))
    (l_is_pairL : K.lookup f_is_pairL = some ⟨oc_is_pairL, od_is_pairL, .func (PySem.W.fnOf "is_pair" "is_pair" (defArgs s_is_pairL) (defBody s_is_pairL) (defScope s_is_pairL) .none kV_is_pairL dc_is_pairL pm_is_pairL an_is_pairL cd_is_pairL ct_is_pairL), sl_is_pairL⟩)
    (cc_is_pairL : PySem.W.codeIn K cd_is_pairL "is_pair" = true)
    (kk_is_pairL : PySem.W.keepIn K (.ref f_is_pairL) = true)
    (at_wrong_tieF : PySem.W.nsIn K mainGlobals "wrong_tie" = some (some (.ref f_wrong_tieF)))
    (l_wrong_tieF : K.lookup f_wrong_tieF = some ⟨oc_wrong_tieF, od_wrong_tieF, .func (PySem.W.fnOf "wrong_tie" "wrong_tie" (defArgs s_wrong_tieF) (defBody s_wrong_tieF) (defScope s_wrong_tieF) .none kV_wrong_tieF dc_wrong_tieF pm_wrong_tieF an_wrong_tieF cd_wrong_tieF ct_wrong_tieF), sl_wrong_tieF⟩)
    (cc_wrong_tieF : PySem.W.codeIn K cd_wrong_tieF "wrong_tie" = true)
    (kk_wrong_tieF : PySem.W.keepIn K (.ref f_wrong_tieF) = true)
    (cm_read : PySem.W.findCls K (.ref C) (.type "type") "read" = some (.get (.builtin "classmethod.__get__") (.ref cp_read) .none (.ref C)))
    (at_Web_readE : PySem.W.recIn K cp_read "classmethod" = some (.ref f_Web_readE :: cr_read))
    (cf_read : PySem.W.fnIn K f_Web_readE = true)
    (cd1_read : PySem.W.readsIn K C (.type "type") = true)
    (cd2_read : PySem.W.specialIn K (.ref C) "__getattribute__" = some (some (.builtin "type.__getattribute__")))
    (l_Web_readE : K.lookup f_Web_readE = some ⟨oc_Web_readE, od_Web_readE, .func (PySem.W.fnOf "read" "Web.read" (defArgs s_Web_readE) (defBody s_Web_readE) (defScope s_Web_readE) .none kV_Web_readE dc_Web_readE pm_Web_readE an_Web_readE cd_Web_readE ct_Web_readE), sl_Web_readE⟩)
    (cc_Web_readE : PySem.W.codeIn K cd_Web_readE "Web.read" = true)
    (kk_Web_readE : PySem.W.keepIn K (.ref f_Web_readE) = true)
    (at_cup_cup : PySem.W.nsIn K mainGlobals "_law_cup" = some (some (.ref f_cup_cup)))
    (l_cup_cup : K.lookup f_cup_cup = some ⟨oc_cup_cup, od_cup_cup, .func (PySem.W.fnOf "_law_cup" "_law_cup" (defArgs s_cup_cup) (defBody s_cup_cup) (defScope s_cup_cup) .none kV_cup_cup dc_cup_cup pm_cup_cup an_cup_cup cd_cup_cup ct_cup_cup), sl_cup_cup⟩)
    (cc_cup_cup : PySem.W.codeIn K cd_cup_cup "_law_cup" = true)
    (kk_cup_cup : PySem.W.keepIn K (.ref f_cup_cup) = true)
    (at_cup_sip : PySem.W.nsIn K mainGlobals "_law_sip" = some (some (.ref f_cup_sip)))
    (l_cup_sip : K.lookup f_cup_sip = some ⟨oc_cup_sip, od_cup_sip, .func (PySem.W.fnOf "_law_sip" "_law_sip" (defArgs s_cup_sip) (defBody s_cup_sip) (defScope s_cup_sip) .none kV_cup_sip dc_cup_sip pm_cup_sip an_cup_sip cd_cup_sip ct_cup_sip), sl_cup_sip⟩)
    (cc_cup_sip : PySem.W.codeIn K cd_cup_sip "_law_sip" = true)
    (kk_cup_sip : PySem.W.keepIn K (.ref f_cup_sip) = true)
    (at_cup_of : PySem.W.nsIn K mainGlobals "_law_of" = some (some (.ref f_cup_of)))
    (l_cup_of : K.lookup f_cup_of = some ⟨oc_cup_of, od_cup_of, .func (PySem.W.fnOf "_law_of" "_law_of" (defArgs s_cup_of) (defBody s_cup_of) (defScope s_cup_of) .none kV_cup_of dc_cup_of pm_cup_of an_cup_of cd_cup_of ct_cup_of), sl_cup_of⟩)
    (cc_cup_of : PySem.W.codeIn K cd_cup_of "_law_of" = true)
    (kk_cup_of : PySem.W.keepIn K (.ref f_cup_of) = true)
    (at_cup_folkT : PySem.W.nsIn K mainGlobals "_law_folk" = some (some (.ref f_cup_folkT)))
    (l_cup_folkT : K.lookup f_cup_folkT = some ⟨oc_cup_folkT, od_cup_folkT, .func (PySem.W.fnOf "_law_folk" "_law_folk" (defArgs s_cup_folkT) (defBody s_cup_folkT) (defScope s_cup_folkT) .none kV_cup_folkT dc_cup_folkT pm_cup_folkT an_cup_folkT cd_cup_folkT ct_cup_folkT), sl_cup_folkT⟩)
    (cc_cup_folkT : PySem.W.codeIn K cd_cup_folkT "_law_folk" = true)
    (kk_cup_folkT : PySem.W.keepIn K (.ref f_cup_folkT) = true)
    (at_cup_tiesT : PySem.W.nsIn K mainGlobals "_law_ties" = some (some (.ref f_cup_tiesT)))
    (l_cup_tiesT : K.lookup f_cup_tiesT = some ⟨oc_cup_tiesT, od_cup_tiesT, .func (PySem.W.fnOf "_law_ties" "_law_ties" (defArgs s_cup_tiesT) (defBody s_cup_tiesT) (defScope s_cup_tiesT) .none kV_cup_tiesT dc_cup_tiesT pm_cup_tiesT an_cup_tiesT cd_cup_tiesT ct_cup_tiesT), sl_cup_tiesT⟩)
    (cc_cup_tiesT : PySem.W.codeIn K cd_cup_tiesT "_law_ties" = true)
    (kk_cup_tiesT : PySem.W.keepIn K (.ref f_cup_tiesT) = true)
    (at_cup_netT : PySem.W.nsIn K mainGlobals "_law_net" = some (some (.ref f_cup_netT)))
    (l_cup_netT : K.lookup f_cup_netT = some ⟨oc_cup_netT, od_cup_netT, .func (PySem.W.fnOf "_law_net" "_law_net" (defArgs s_cup_netT) (defBody s_cup_netT) (defScope s_cup_netT) .none kV_cup_netT dc_cup_netT pm_cup_netT an_cup_netT cd_cup_netT ct_cup_netT), sl_cup_netT⟩)
    (cc_cup_netT : PySem.W.codeIn K cd_cup_netT "_law_net" = true)
    (kk_cup_netT : PySem.W.keepIn K (.ref f_cup_netT) = true)
    (at_cup_pageT : PySem.W.nsIn K mainGlobals "_law_page" = some (some (.ref f_cup_pageT)))
    (l_cup_pageT : K.lookup f_cup_pageT = some ⟨oc_cup_pageT, od_cup_pageT, .func (PySem.W.fnOf "_law_page" "_law_page" (defArgs s_cup_pageT) (defBody s_cup_pageT) (defScope s_cup_pageT) .none kV_cup_pageT dc_cup_pageT pm_cup_pageT an_cup_pageT cd_cup_pageT ct_cup_pageT), sl_cup_pageT⟩)
    (cc_cup_pageT : PySem.W.codeIn K cd_cup_pageT "_law_page" = true)
    (kk_cup_pageT : PySem.W.keepIn K (.ref f_cup_pageT) = true)
    (at_cup_sortV : PySem.W.nsIn K mainGlobals "_law_sort" = some (some (.ref f_cup_sortV)))
    (l_cup_sortV : K.lookup f_cup_sortV = some ⟨oc_cup_sortV, od_cup_sortV, .func (PySem.W.fnOf "_law_sort" "_law_sort" (defArgs s_cup_sortV) (defBody s_cup_sortV) (defScope s_cup_sortV) .none kV_cup_sortV dc_cup_sortV pm_cup_sortV an_cup_sortV cd_cup_sortV ct_cup_sortV), sl_cup_sortV⟩)
    (cc_cup_sortV : PySem.W.codeIn K cd_cup_sortV "_law_sort" = true)
    (kk_cup_sortV : PySem.W.keepIn K (.ref f_cup_sortV) = true)
    (at_cup_caughtV : PySem.W.nsIn K mainGlobals "_law_caught" = some (some (.ref f_cup_caughtV)))
    (l_cup_caughtV : K.lookup f_cup_caughtV = some ⟨oc_cup_caughtV, od_cup_caughtV, .func (PySem.W.fnOf "_law_caught" "_law_caught" (defArgs s_cup_caughtV) (defBody s_cup_caughtV) (defScope s_cup_caughtV) .none kV_cup_caughtV dc_cup_caughtV pm_cup_caughtV an_cup_caughtV cd_cup_caughtV ct_cup_caughtV), sl_cup_caughtV⟩)
    (cc_cup_caughtV : PySem.W.codeIn K cd_cup_caughtV "_law_caught" = true)
    (kk_cup_caughtV : PySem.W.keepIn K (.ref f_cup_caughtV) = true)
    (at_k05_net_in : PySem.W.nsIn K mainGlobals "_law_net_in" = some (some (.ref f_k05_net_in)))
    (l_k05_net_in : K.lookup f_k05_net_in = some ⟨oc_k05_net_in, od_k05_net_in, .func (PySem.W.fnOf "_law_net_in" "_law_net_in" (defArgs s_k05_net_in) (defBody s_k05_net_in) (defScope s_k05_net_in) .none kV_k05_net_in dc_k05_net_in pm_k05_net_in an_k05_net_in cd_k05_net_in ct_k05_net_in), sl_k05_net_in⟩)
    (cc_k05_net_in : PySem.W.codeIn K cd_k05_net_in "_law_net_in" = true)
    (kk_k05_net_in : PySem.W.keepIn K (.ref f_k05_net_in) = true)
    (at_k05_bent : PySem.W.nsIn K mainGlobals "_law_bent_page" = some (some (.ref f_k05_bent)))
    (l_k05_bent : K.lookup f_k05_bent = some ⟨oc_k05_bent, od_k05_bent, .func (PySem.W.fnOf "_law_bent_page" "_law_bent_page" (defArgs s_k05_bent) (defBody s_k05_bent) (defScope s_k05_bent) .none kV_k05_bent dc_k05_bent pm_k05_bent an_k05_bent cd_k05_bent ct_k05_bent), sl_k05_bent⟩)
    (cc_k05_bent : PySem.W.codeIn K cd_k05_bent "_law_bent_page" = true)
    (kk_k05_bent : PySem.W.keepIn K (.ref f_k05_bent) = true)
    (at_k05_great : PySem.W.nsIn K mainGlobals "_law_great" = some (some (.ref f_k05_great)))
    (l_k05_great : K.lookup f_k05_great = some ⟨oc_k05_great, od_k05_great, .func (PySem.W.fnOf "_law_great" "_law_great" (defArgs s_k05_great) (defBody s_k05_great) (defScope s_k05_great) .none kV_k05_great dc_k05_great pm_k05_great an_k05_great cd_k05_great ct_k05_great), sl_k05_great⟩)
    (cc_k05_great : PySem.W.codeIn K cd_k05_great "_law_great" = true)
    (kk_k05_great : PySem.W.keepIn K (.ref f_k05_great) = true)
    (at_k05_right : PySem.W.nsIn K mainGlobals "_law_right" = some (some (.ref f_k05_right)))
    (l_k05_right : K.lookup f_k05_right = some ⟨oc_k05_right, od_k05_right, .func (PySem.W.fnOf "_law_right" "_law_right" (defArgs s_k05_right) (defBody s_k05_right) (defScope s_k05_right) .none kV_k05_right dc_k05_right pm_k05_right an_k05_right (.ref tc_k05_right) ct_k05_right), sl_k05_right⟩)
    (ch_k05_right : PySem.W.codeHdIn K tc_k05_right (tabOf K tc_k05_right) = true)
    (cn_k05_right : (K.lookup (tabOf K tc_k05_right)).isNone = true)
    (cm_k05_right : ts.contains (tabOf K tc_k05_right) = true)
    (cc_k05_right : PySem.W.codeIn K (.ref tc_k05_right) "_law_right" = true)
    (kk_k05_right : PySem.W.keepIn K (.ref f_k05_right) = true)
    (at_k05_law : PySem.W.nsIn K mainGlobals "law" = some (some (.ref f_k05_law)))
    (l_k05_law : K.lookup f_k05_law = some ⟨oc_k05_law, od_k05_law, .func (PySem.W.fnOf "law" "law" (defArgs s_k05_law) (defBody s_k05_law) (defScope s_k05_law) .none kV_k05_law dc_k05_law pm_k05_law an_k05_law cd_k05_law ct_k05_law), sl_k05_law⟩)
    (cc_k05_law : PySem.W.codeIn K cd_k05_law "law" = true)
    (kk_k05_law : PySem.W.keepIn K (.ref f_k05_law) = true)
    (pt_places : PySem.W.findIn K (.ref C) "places" = some (some (.ref pa_places)))
    (at_g_places : PySem.W.recIn K pa_places "property" = some (.ref f_g_places :: pr_places))
    (pg_places : PySem.W.specialIn K (.ref pa_places) "__get__" = some (some (.builtin "property.__get__")))
    (pk_places : PySem.W.takesIn K (.ref pa_places) = some true)
    (l_g_places : K.lookup f_g_places = some ⟨oc_g_places, od_g_places, .func (PySem.W.fnOf "places" "Web.places" (defArgs s_g_places) (defBody s_g_places) (defScope s_g_places) .none kV_g_places dc_g_places pm_g_places an_g_places cd_g_places ct_g_places), sl_g_places⟩)
    (cc_g_places : PySem.W.codeIn K cd_g_places "Web.places" = true)
    (kk_g_places : PySem.W.keepIn K (.ref f_g_places) = true)
    (pt_ties : PySem.W.findIn K (.ref C) "ties" = some (some (.ref pa_ties)))
    (at_g_ties : PySem.W.recIn K pa_ties "property" = some (.ref f_g_ties :: pr_ties))
    (pg_ties : PySem.W.specialIn K (.ref pa_ties) "__get__" = some (some (.builtin "property.__get__")))
    (pk_ties : PySem.W.takesIn K (.ref pa_ties) = some true)
    (l_g_ties : K.lookup f_g_ties = some ⟨oc_g_ties, od_g_ties, .func (PySem.W.fnOf "ties" "Web.ties" (defArgs s_g_ties) (defBody s_g_ties) (defScope s_g_ties) .none kV_g_ties dc_g_ties pm_g_ties an_g_ties cd_g_ties ct_g_ties), sl_g_ties⟩)
    (cc_g_ties : PySem.W.codeIn K cd_g_ties "Web.ties" = true)
    (kk_g_ties : PySem.W.keepIn K (.ref f_g_ties) = true)
    (at_LETTERS : PySem.W.nsIn K mainGlobals "LETTERS" = some (some (.str "abcdefghijklmnopqrstuvwxyz" tk_LETTERS)))
    (at_MOST_PLACES : PySem.W.nsIn K mainGlobals "MOST_PLACES" = some (some (.int 40 tk_MOST_PLACES)))
    (at_MOST_TIES : PySem.W.nsIn K mainGlobals "MOST_TIES" = some (some (.int 200 tk_MOST_TIES)))
    (at_ArithmeticError : PySem.W.nsIn K mainGlobals "ArithmeticError" = some none)
    (at_LookupError : PySem.W.nsIn K mainGlobals "LookupError" = some none)
    (at_ValueError : PySem.W.nsIn K mainGlobals "ValueError" = some none)
    (at_abs : PySem.W.nsIn K mainGlobals "abs" = some none)
    (at_all : PySem.W.nsIn K mainGlobals "all" = some none)
    (at_divmod : PySem.W.nsIn K mainGlobals "divmod" = some none)
    (at_enumerate : PySem.W.nsIn K mainGlobals "enumerate" = some none)
    (at_int : PySem.W.nsIn K mainGlobals "int" = some none)
    (at_isinstance : PySem.W.nsIn K mainGlobals "isinstance" = some none)
    (at_len : PySem.W.nsIn K mainGlobals "len" = some none)
    (at_list : PySem.W.nsIn K mainGlobals "list" = some none)
    (at_max : PySem.W.nsIn K mainGlobals "max" = some none)
    (at_min : PySem.W.nsIn K mainGlobals "min" = some none)
    (at_range : PySem.W.nsIn K mainGlobals "range" = some none)
    (at_repr : PySem.W.nsIn K mainGlobals "repr" = some none)
    (at_str : PySem.W.nsIn K mainGlobals "str" = some none)
    (at_tuple : PySem.W.nsIn K mainGlobals "tuple" = some none)
    (ndT : ndBs [tabOf K tc_k05_right] = true)
    : ∃ (fd : FuncData) (cs : List (Addr × Addr × Str)), (∀ p ∈ cs, h.get? p.2.1 = some { cls := .none, data := .fields #[] }) ∧ (∀ p ∈ cs, K.lookup p.2.1 = none) ∧ (∀ p ∈ cs, PySem.W.CodeHd h p.1 p.2.1) ∧ (cs.map (·.2.1)).Nodup ∧ (∀ (s : Shared) (v : Value), BindsTo s fd ⟨[v], []⟩ [("_law_script", v)]) ∧ ∀ base : Heap, K.In base → base.Ns mainGlobals mg → (∀ p ∈ cs, LamX.TabB base mg p.1 p.2.1) → FnD l.prog w K mg base 10 fa fd ["_law_script"] (LawSpT 63 (cs.map (·.2))) := by
  have e : fa = f_k05_law := by
    have e := hfa.symm.trans (PySem.W.mg_of X G at_k05_law)
    cases e
    rfl
  obtain ⟨i_InvalidText, In_InvalidText⟩ := PySem.ErrX.initE_of PySem.ErrX.field_given ie_InvalidText
  let T : Txt l.prog K mg := { a_CannotBe := C_CannotBe, m_CannotBe := PySem.W.mg_of X G atC_CannotBe, n_CannotBe := atC_CannotBe, a_InvalidNumber := C_InvalidNumber, m_InvalidNumber := PySem.W.mg_of X G atC_InvalidNumber, n_InvalidNumber := atC_InvalidNumber, a_InvalidParting := C_InvalidParting, m_InvalidParting := PySem.W.mg_of X G atC_InvalidParting, n_InvalidParting := atC_InvalidParting, a_InvalidPlaces := C_InvalidPlaces, m_InvalidPlaces := PySem.W.mg_of X G atC_InvalidPlaces, n_InvalidPlaces := atC_InvalidPlaces, a_InvalidText := C_InvalidText, m_InvalidText := PySem.W.mg_of X G atC_InvalidText, n_InvalidText := atC_InvalidText, a_InvalidTie := C_InvalidTie, m_InvalidTie := PySem.W.mg_of X G atC_InvalidTie, n_InvalidTie := atC_InvalidTie, a_InvalidTies := C_InvalidTies, m_InvalidTies := PySem.W.mg_of X G atC_InvalidTies, n_InvalidTies := atC_InvalidTies, a_NotAWeb := C_NotAWeb, m_NotAWeb := PySem.W.mg_of X G atC_NotAWeb, n_NotAWeb := atC_NotAWeb, a_NotMet := C_NotMet, m_NotMet := PySem.W.mg_of X G atC_NotMet, n_NotMet := atC_NotMet, a_NotRight := C_NotRight, m_NotRight := PySem.W.mg_of X G atC_NotRight, n_NotRight := atC_NotRight, a_NotThere := C_NotThere, m_NotThere := PySem.W.mg_of X G atC_NotThere, n_NotThere := atC_NotThere, a_NothingToUndo := C_NothingToUndo, m_NothingToUndo := PySem.W.mg_of X G atC_NothingToUndo, n_NothingToUndo := atC_NothingToUndo, a_TooMany := C_TooMany, m_TooMany := PySem.W.mg_of X G atC_TooMany, n_TooMany := atC_TooMany, a_UnknownPlace := C_UnknownPlace, m_UnknownPlace := PySem.W.mg_of X G atC_UnknownPlace, n_UnknownPlace := atC_UnknownPlace, et := errT_of et, i_InvalidText := i_InvalidText, rz_InvalidText := ⟨PySem.ErrX.base_ValueError, PySem.ErrX.clsE_of ce_InvalidText, In_InvalidText⟩, a_Web := C, m_Web := PySem.W.mg_of X G atC, c_Web := ⟨pgC, hdC, poC, saC⟩, n_marks := n_marks, n_pairs := n_pairs, n_row := n_row, ins_Web := ⟨⟨pgC, hdC, poC, saC⟩, icl, isp, itk, imr⟩, kit0 := kit0_of kcls kty ks0 ks1 ks2 ks3 ks4 ks5 ks6, kit1 := kit1_of C, a_is_name := f_is_name, d_is_name := _, F_is_name := fun_mk (st := s_is_name) l_is_name cc_is_name kk_is_name, m_is_name := PySem.W.mg_of X G at_is_name, a_wrong_place := f_wrong_place, d_wrong_place := _, F_wrong_place := fun_mk (st := s_wrong_place) l_wrong_place cc_wrong_place kk_wrong_place, m_wrong_place := PySem.W.mg_of X G at_wrong_place, a_is_pair := f_is_pair, d_is_pair := _, F_is_pair := fun_mk (st := s_is_pair) l_is_pair cc_is_pair kk_is_pair, m_is_pair := PySem.W.mg_of X G at_is_pair, a_wrong_tie := f_wrong_tie, d_wrong_tie := _, F_wrong_tie := fun_mk (st := s_wrong_tie) l_wrong_tie cc_wrong_tie kk_wrong_tie, m_wrong_tie := PySem.W.mg_of X G at_wrong_tie, a_check_places := f_check_places, d_check_places := _, F_check_places := fun_mk (st := s_check_places) l_check_places cc_check_places kk_check_places, m_check_places := PySem.W.mg_of X G at_check_places, a_check_ties := f_check_ties, d_check_ties := _, F_check_ties := fun_mk (st := s_check_ties) l_check_ties cc_check_ties kk_check_ties, m_check_ties := PySem.W.mg_of X G at_check_ties, a_Web_init := f_Web_init, d_Web_init := _, v_Web_init := .ref da_Web_init, F_Web_init := ⟨⟨_, _, _, _, _, _, _, _, _, _, rfl, l_Web_init, cc_Web_init, .inr ⟨by simp, _, _, [dv_Web_init], _, rfl, dl_Web_init, rfl, .cons dr_Web_init .nil⟩, .inl rfl⟩, kk_Web_init⟩, k_Web := ⟨mkC, at_Web_init, i_Web_init, kcC⟩, a_is_nameA := f_is_nameA, d_is_nameA := _, F_is_nameA := fun_mk (st := s_is_nameA) l_is_nameA cc_is_nameA kk_is_nameA, m_is_nameA := PySem.W.mg_of X G at_is_nameA, a_wrong_placeF := f_wrong_placeF, d_wrong_placeF := _, F_wrong_placeF := fun_mk (st := s_wrong_placeF) l_wrong_placeF cc_wrong_placeF kk_wrong_placeF, m_wrong_placeF := PySem.W.mg_of X G at_wrong_placeF, a_is_pairL := f_is_pairL, d_is_pairL := _, F_is_pairL := fun_mk (st := s_is_pairL) l_is_pairL cc_is_pairL kk_is_pairL, m_is_pairL := PySem.W.mg_of X G at_is_pairL, a_wrong_tieF := f_wrong_tieF, d_wrong_tieF := _, F_wrong_tieF := fun_mk (st := s_wrong_tieF) l_wrong_tieF cc_wrong_tieF kk_wrong_tieF, m_wrong_tieF := PySem.W.mg_of X G at_wrong_tieF, a_Web_readE := f_Web_readE, d_Web_readE := _, F_Web_readE := fun_mk (st := s_Web_readE) l_Web_readE cc_Web_readE kk_Web_readE, r_Web := ⟨cd1_read, cd2_read⟩, ep_read := cp_read, e_read := ⟨cm_read, ⟨_, at_Web_readE⟩, cf_read⟩, a_cup_cup := f_cup_cup, d_cup_cup := _, F_cup_cup := fun_mk (st := s_cup_cup) l_cup_cup cc_cup_cup kk_cup_cup, m_cup_cup := PySem.W.mg_of X G at_cup_cup, a_cup_sip := f_cup_sip, d_cup_sip := _, F_cup_sip := fun_mk (st := s_cup_sip) l_cup_sip cc_cup_sip kk_cup_sip, m_cup_sip := PySem.W.mg_of X G at_cup_sip, a_cup_of := f_cup_of, d_cup_of := _, F_cup_of := fun_mk (st := s_cup_of) l_cup_of cc_cup_of kk_cup_of, m_cup_of := PySem.W.mg_of X G at_cup_of, a_cup_folkT := f_cup_folkT, d_cup_folkT := _, F_cup_folkT := fun_mk (st := s_cup_folkT) l_cup_folkT cc_cup_folkT kk_cup_folkT, m_cup_folkT := PySem.W.mg_of X G at_cup_folkT, a_cup_tiesT := f_cup_tiesT, d_cup_tiesT := _, F_cup_tiesT := fun_mk (st := s_cup_tiesT) l_cup_tiesT cc_cup_tiesT kk_cup_tiesT, m_cup_tiesT := PySem.W.mg_of X G at_cup_tiesT, a_cup_netT := f_cup_netT, d_cup_netT := _, F_cup_netT := fun_mk (st := s_cup_netT) l_cup_netT cc_cup_netT kk_cup_netT, m_cup_netT := PySem.W.mg_of X G at_cup_netT, a_cup_pageT := f_cup_pageT, d_cup_pageT := _, F_cup_pageT := fun_mk (st := s_cup_pageT) l_cup_pageT cc_cup_pageT kk_cup_pageT, m_cup_pageT := PySem.W.mg_of X G at_cup_pageT, a_cup_sortV := f_cup_sortV, d_cup_sortV := _, F_cup_sortV := fun_mk (st := s_cup_sortV) l_cup_sortV cc_cup_sortV kk_cup_sortV, m_cup_sortV := PySem.W.mg_of X G at_cup_sortV, a_cup_caughtV := f_cup_caughtV, d_cup_caughtV := _, F_cup_caughtV := fun_mk (st := s_cup_caughtV) l_cup_caughtV cc_cup_caughtV kk_cup_caughtV, m_cup_caughtV := PySem.W.mg_of X G at_cup_caughtV, a_k05_net_in := f_k05_net_in, d_k05_net_in := _, F_k05_net_in := fun_mk (st := s_k05_net_in) l_k05_net_in cc_k05_net_in kk_k05_net_in, m_k05_net_in := PySem.W.mg_of X G at_k05_net_in, a_k05_bent := f_k05_bent, d_k05_bent := _, F_k05_bent := fun_mk (st := s_k05_bent) l_k05_bent cc_k05_bent kk_k05_bent, m_k05_bent := PySem.W.mg_of X G at_k05_bent, a_k05_great := f_k05_great, d_k05_great := _, F_k05_great := fun_mk (st := s_k05_great) l_k05_great cc_k05_great kk_k05_great, m_k05_great := PySem.W.mg_of X G at_k05_great, a_k05_right := f_k05_right, tc_k05_right := tc_k05_right, FC_k05_right := ⟨_, _, _, _, _, _, _, _, _, _, rfl, l_k05_right, cc_k05_right⟩, d_k05_right := _, F_k05_right := fun_mk (st := s_k05_right) l_k05_right cc_k05_right kk_k05_right, m_k05_right := PySem.W.mg_of X G at_k05_right, a_k05_law := f_k05_law, d_k05_law := _, F_k05_law := fun_mk (st := s_k05_law) l_k05_law cc_k05_law kk_k05_law, m_k05_law := PySem.W.mg_of X G at_k05_law, a_g_places := f_g_places, d_g_places := _, F_g_places := fun_mk (st := s_g_places) l_g_places cc_g_places kk_g_places, q_places := pa_places, p_places := ⟨pt_places, pg_places, pk_places, _, at_g_places⟩, a_g_ties := f_g_ties, d_g_ties := _, F_g_ties := fun_mk (st := s_g_ties) l_g_ties cc_g_ties kk_g_ties, q_ties := pa_ties, p_ties := ⟨pt_ties, pg_ties, pk_ties, _, at_g_ties⟩, t_LETTERS := tk_LETTERS, m_LETTERS := PySem.W.mg_of X G at_LETTERS, t_MOST_PLACES := tk_MOST_PLACES, m_MOST_PLACES := PySem.W.mg_of X G at_MOST_PLACES, t_MOST_TIES := tk_MOST_TIES, m_MOST_TIES := PySem.W.mg_of X G at_MOST_TIES, z_ArithmeticError := PySem.W.mg_none_of X G at_ArithmeticError, z_LookupError := PySem.W.mg_none_of X G at_LookupError, z_ValueError := PySem.W.mg_none_of X G at_ValueError, z_abs := PySem.W.mg_none_of X G at_abs, z_all := PySem.W.mg_none_of X G at_all, z_divmod := PySem.W.mg_none_of X G at_divmod, z_enumerate := PySem.W.mg_none_of X G at_enumerate, z_int := PySem.W.mg_none_of X G at_int, z_isinstance := PySem.W.mg_none_of X G at_isinstance, z_len := PySem.W.mg_none_of X G at_len, z_list := PySem.W.mg_none_of X G at_list, z_max := PySem.W.mg_none_of X G at_max, z_min := PySem.W.mg_none_of X G at_min, z_range := PySem.W.mg_none_of X G at_range, z_repr := PySem.W.mg_none_of X G at_repr, z_str := PySem.W.mg_none_of X G at_str, z_tuple := PySem.W.mg_none_of X G at_tuple, tp := fun n => if n == "k05_right" then tabOf K tc_k05_right else 0 }
  rw [e]
  refine ⟨T.d_k05_law, [(tc_k05_right, tabOf K tc_k05_right, "_law_right.<locals>.<lambda>")], (fun p hp => by
    simp only [List.mem_cons, List.not_mem_nil, or_false] at hp
    rcases hp with rfl
    · exact Yt _ (List.contains_iff_mem.mp cm_k05_right)), (fun p hp => by
    simp only [List.mem_cons, List.not_mem_nil, or_false] at hp
    rcases hp with rfl
    · exact Option.isNone_iff_eq_none.mp cn_k05_right), (fun p hp => by
    simp only [List.mem_cons, List.not_mem_nil, or_false] at hp
    rcases hp with rfl
    · exact PySem.W.codeHd_of_K X ch_k05_right), nd_of ndT, fun s v => .of_eq rfl, fun base _ _ TB => ok_k05_law T ⟨TB (tc_k05_right, tabOf K tc_k05_right, "_law_right.<locals>.<lambda>") (by simp)⟩⟩
end L2.DL
open PySem PySem.W PyProof.Rows
set_option maxRecDepth 100000 in
set_option maxHeartbeats 0 in
theorem PySem.Challenge.cw_fewroads_k05_whole_texts_bent_holds : PySem.Challenge.rw_fewroads_k05_whole_texts_bent.Holds := by
  w_on; o_law; k_head; (case hw => w_witness2)
  k_fill
  refine L2.DL.walk_GT (l := PySem.Challenge.rw_fewroads_k05_whole_texts_bent) (n := 63) (k := 10) (x := "_law_script") rfl (by decide) rfl ⟨rfl, by decide, by decide⟩ (fun w h Y => PySem.W.km_in_of Y) ?F
  case F =>
    intro w mg fa h Y KX G hmg
    refine' L2.DL.all_mk (l := PySem.Challenge.rw_fewroads_k05_whole_texts_bent) (w := w) KX G (PySem.W.km_tabs_of Y) hmg ?atC_CannotBe ?atC_InvalidNumber ?atC_InvalidParting ?atC_InvalidPlaces ?atC_InvalidText ?atC_InvalidTie ?atC_InvalidTies ?atC_NotAWeb ?atC_NotMet ?atC_NotRight ?atC_NotThere ?atC_NothingToUndo ?atC_TooMany ?atC_UnknownPlace ?et ?ce_InvalidText ?ie_InvalidText ?atC ?pgC ?hdC ?poC ?saC ?mkC ?kcC ?n_marks ?n_pairs ?n_row ?icl ?isp ?itk ?imr ?kcls ?kty ?ks0 ?ks1 ?ks2 ?ks3 ?ks4 ?ks5 ?ks6 ?at_is_name ?l_is_name ?cc_is_name ?kk_is_name ?at_wrong_place ?l_wrong_place ?cc_wrong_place ?kk_wrong_place ?at_is_pair ?l_is_pair ?cc_is_pair ?kk_is_pair ?at_wrong_tie ?l_wrong_tie ?cc_wrong_tie ?kk_wrong_tie ?at_check_places ?l_check_places ?cc_check_places ?kk_check_places ?at_check_ties ?l_check_ties ?cc_check_ties ?kk_check_ties ?at_Web_init ?i_Web_init ?l_Web_init ?cc_Web_init ?kk_Web_init ?dl_Web_init ?dr_Web_init ?at_is_nameA ?l_is_nameA ?cc_is_nameA ?kk_is_nameA ?at_wrong_placeF ?l_wrong_placeF ?cc_wrong_placeF ?kk_wrong_placeF ?at_is_pairL ?l_is_pairL ?cc_is_pairL ?kk_is_pairL ?at_wrong_tieF ?l_wrong_tieF ?cc_wrong_tieF ?kk_wrong_tieF ?cm_read ?at_Web_readE ?cf_read ?cd1_read ?cd2_read ?l_Web_readE ?cc_Web_readE ?kk_Web_readE ?at_cup_cup ?l_cup_cup ?cc_cup_cup ?kk_cup_cup ?at_cup_sip ?l_cup_sip ?cc_cup_sip ?kk_cup_sip ?at_cup_of ?l_cup_of ?cc_cup_of ?kk_cup_of ?at_cup_folkT ?l_cup_folkT ?cc_cup_folkT ?kk_cup_folkT ?at_cup_tiesT ?l_cup_tiesT ?cc_cup_tiesT ?kk_cup_tiesT ?at_cup_netT ?l_cup_netT ?cc_cup_netT ?kk_cup_netT ?at_cup_pageT ?l_cup_pageT ?cc_cup_pageT ?kk_cup_pageT ?at_cup_sortV ?l_cup_sortV ?cc_cup_sortV ?kk_cup_sortV ?at_cup_caughtV ?l_cup_caughtV ?cc_cup_caughtV ?kk_cup_caughtV ?at_k05_net_in ?l_k05_net_in ?cc_k05_net_in ?kk_k05_net_in ?at_k05_bent ?l_k05_bent ?cc_k05_bent ?kk_k05_bent ?at_k05_great ?l_k05_great ?cc_k05_great ?kk_k05_great ?at_k05_right ?l_k05_right ?ch_k05_right ?cn_k05_right ?cm_k05_right ?cc_k05_right ?kk_k05_right ?at_k05_law ?l_k05_law ?cc_k05_law ?kk_k05_law ?pt_places ?at_g_places ?pg_places ?pk_places ?l_g_places ?cc_g_places ?kk_g_places ?pt_ties ?at_g_ties ?pg_ties ?pk_ties ?l_g_ties ?cc_g_ties ?kk_g_ties ?at_LETTERS ?at_MOST_PLACES ?at_MOST_TIES ?at_ArithmeticError ?at_LookupError ?at_ValueError ?at_abs ?at_all ?at_divmod ?at_enumerate ?at_int ?at_isinstance ?at_len ?at_list ?at_max ?at_min ?at_range ?at_repr ?at_str ?at_tuple ?ndT
    (case atC_CannotBe => k_is)
    (case atC_InvalidNumber => k_is)
    (case atC_InvalidParting => k_is)
    (case atC_InvalidPlaces => k_is)
    (case atC_InvalidText => k_is)
    (case atC_InvalidTie => k_is)
    (case atC_InvalidTies => k_is)
    (case atC_NotAWeb => k_is)
    (case atC_NotMet => k_is)
    (case atC_NotRight => k_is)
    (case atC_NotThere => k_is)
    (case atC_NothingToUndo => k_is)
    (case atC_TooMany => k_is)
    (case atC_UnknownPlace => k_is)
    (case et => kernel_rfl)
    (case ce_InvalidText => kernel_rfl)
    (case ie_InvalidText => kernel_rfl)
    (case atC => k_is)
    (case pgC => k_is)
    (case hdC => k_is)
    (case poC => k_is)
    (case saC => k_is)
    (case mkC => k_is)
    (case kcC => k_is)
    (case n_marks => k_is)
    (case n_pairs => k_is)
    (case n_row => k_is)
    (case icl => k_is)
    (case isp => k_is)
    (case itk => k_is)
    (case imr => k_is)
    (case kcls => k_is)
    (case kty => k_is)
    (case ks0 => k_is)
    (case ks1 => k_is)
    (case ks2 => k_is)
    (case ks3 => k_is)
    (case ks4 => k_is)
    (case ks5 => k_is)
    (case ks6 => k_is)
    (case at_is_name => k_is)
    (case l_is_name => k_is)
    (case cc_is_name => k_is)
    (case kk_is_name => k_is)
    (case at_wrong_place => k_is)
    (case l_wrong_place => k_is)
    (case cc_wrong_place => k_is)
    (case kk_wrong_place => k_is)
    (case at_is_pair => k_is)
    (case l_is_pair => k_is)
    (case cc_is_pair => k_is)
    (case kk_is_pair => k_is)
    (case at_wrong_tie => k_is)
    (case l_wrong_tie => k_is)
    (case cc_wrong_tie => k_is)
    (case kk_wrong_tie => k_is)
    (case at_check_places => k_is)
    (case l_check_places => k_is)
    (case cc_check_places => k_is)
    (case kk_check_places => k_is)
    (case at_check_ties => k_is)
    (case l_check_ties => k_is)
    (case cc_check_ties => k_is)
    (case kk_check_ties => k_is)
    (case at_Web_init => k_is)
    (case i_Web_init => k_is)
    (case l_Web_init => k_is)
    (case cc_Web_init => k_is)
    (case kk_Web_init => k_is)
    (case dl_Web_init => k_is)
    (case dr_Web_init => rfl)
    (case at_is_nameA => k_is)
    (case l_is_nameA => k_is)
    (case cc_is_nameA => k_is)
    (case kk_is_nameA => k_is)
    (case at_wrong_placeF => k_is)
    (case l_wrong_placeF => k_is)
    (case cc_wrong_placeF => k_is)
    (case kk_wrong_placeF => k_is)
    (case at_is_pairL => k_is)
    (case l_is_pairL => k_is)
    (case cc_is_pairL => k_is)
    (case kk_is_pairL => k_is)
    (case at_wrong_tieF => k_is)
    (case l_wrong_tieF => k_is)
    (case cc_wrong_tieF => k_is)
    (case kk_wrong_tieF => k_is)
    (case cm_read => k_is)
    (case at_Web_readE => k_is)
    (case cf_read => k_is)
    (case cd1_read => k_is)
    (case cd2_read => k_is)
    (case l_Web_readE => k_is)
    (case cc_Web_readE => k_is)
    (case kk_Web_readE => k_is)
    (case at_cup_cup => k_is)
    (case l_cup_cup => k_is)
    (case cc_cup_cup => k_is)
    (case kk_cup_cup => k_is)
    (case at_cup_sip => k_is)
    (case l_cup_sip => k_is)
    (case cc_cup_sip => k_is)
    (case kk_cup_sip => k_is)
    (case at_cup_of => k_is)
    (case l_cup_of => k_is)
    (case cc_cup_of => k_is)
    (case kk_cup_of => k_is)
    (case at_cup_folkT => k_is)
    (case l_cup_folkT => k_is)
    (case cc_cup_folkT => k_is)
    (case kk_cup_folkT => k_is)
    (case at_cup_tiesT => k_is)
    (case l_cup_tiesT => k_is)
    (case cc_cup_tiesT => k_is)
    (case kk_cup_tiesT => k_is)
    (case at_cup_netT => k_is)
    (case l_cup_netT => k_is)
    (case cc_cup_netT => k_is)
    (case kk_cup_netT => k_is)
    (case at_cup_pageT => k_is)
    (case l_cup_pageT => k_is)
    (case cc_cup_pageT => k_is)
    (case kk_cup_pageT => k_is)
    (case at_cup_sortV => k_is)
    (case l_cup_sortV => k_is)
    (case cc_cup_sortV => k_is)
    (case kk_cup_sortV => k_is)
    (case at_cup_caughtV => k_is)
    (case l_cup_caughtV => k_is)
    (case cc_cup_caughtV => k_is)
    (case kk_cup_caughtV => k_is)
    (case at_k05_net_in => k_is)
    (case l_k05_net_in => k_is)
    (case cc_k05_net_in => k_is)
    (case kk_k05_net_in => k_is)
    (case at_k05_bent => k_is)
    (case l_k05_bent => k_is)
    (case cc_k05_bent => k_is)
    (case kk_k05_bent => k_is)
    (case at_k05_great => k_is)
    (case l_k05_great => k_is)
    (case cc_k05_great => k_is)
    (case kk_k05_great => k_is)
    (case at_k05_right => k_is)
    (case l_k05_right => k_is)
    (case ch_k05_right => kernel_rfl)
    (case cn_k05_right => kernel_rfl)
    (case cm_k05_right => kernel_rfl)
    (case cc_k05_right => k_is)
    (case kk_k05_right => k_is)
    (case at_k05_law => k_is)
    (case l_k05_law => k_is)
    (case cc_k05_law => k_is)
    (case kk_k05_law => k_is)
    (case pt_places => k_is)
    (case at_g_places => k_is)
    (case pg_places => k_is)
    (case pk_places => k_is)
    (case l_g_places => k_is)
    (case cc_g_places => k_is)
    (case kk_g_places => k_is)
    (case pt_ties => k_is)
    (case at_g_ties => k_is)
    (case pg_ties => k_is)
    (case pk_ties => k_is)
    (case l_g_ties => k_is)
    (case cc_g_ties => k_is)
    (case kk_g_ties => k_is)
    (case at_LETTERS => k_is)
    (case at_MOST_PLACES => k_is)
    (case at_MOST_TIES => k_is)
    (case at_ArithmeticError => k_is)
    (case at_LookupError => k_is)
    (case at_ValueError => k_is)
    (case at_abs => k_is)
    (case at_all => k_is)
    (case at_divmod => k_is)
    (case at_enumerate => k_is)
    (case at_int => k_is)
    (case at_isinstance => k_is)
    (case at_len => k_is)
    (case at_list => k_is)
    (case at_max => k_is)
    (case at_min => k_is)
    (case at_range => k_is)
    (case at_repr => k_is)
    (case at_str => k_is)
    (case at_tuple => k_is)
    (case ndT => kernel_rfl)
