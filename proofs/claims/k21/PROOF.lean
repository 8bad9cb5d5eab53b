import PyProof.Rows.All
import Wide.All
import OpenK.AllK
import Wide.FinOn
import HandS.ForMost
import HandS.Lambda
import HandS.Property
import HandS.Defaults
import HandS.TupAny
import HandS.Deep
import HandS.IsInst
import HandS.Style
import HandS.More
import HandS.TupLen
import HandS.Small
import HandS.DictTup
import KE.GoesEnum
import HandS.Iter
import HandS.DictComp
import HandS.Strs
import HandS.Ends
import HandS.SlotsOwn
import HandS.Text
import HandS.Star
import KE.KCallOwn
import KE.KRevSl
import PyProof.Rows.SortShellAny
import PyProof.TupleOfSeq
import HandS.Zip
import HandS.FStr
import HandS.MakeKw
import HandS.DictSub
import HandS.Conv
import HandS.TryOnly
import HandS.SetFor
import HandS.TupMul
import HandS.Set
import KE.GoesZip
import KE.SortKeyHeap
import HandS.SortKw
import HandS.ExcValue
import HandS.TupSets
import PyProof.InstEq
import PyProof.Conv_bool
import PySem.Challenge.RW_fewroads_k21_whole_planners_made
set_option Elab.async false
set_option linter.all false
set_option maxRecDepth 100000
set_option maxHeartbeats 4000000
/-! DL1: data as values. D: what a Python value is, as Lean data; SO: the objects that may change, by their addresses; how both lie in the abstract heap of HandS; the judgements over them -/
namespace L2.DL
open PySem PySem.Spec PyProof.Rows

/-- a value as data: lst, dic, ins are lists, dicts, instances that nobody changes any more; src a list from outside, kt a tuple that the top has written, tf a tuple of which it is known that it has no dict of its own; obj: an object by its address (one that may change, or one that is not looked into) -/
inductive D where
  | non | bl (b : Bool) | int (i : Int) | str (x : Str) | ty (n : String)
  | tup (xs : List D) | lst (xs : List D) | src (xs : List D) | kt (xs : List D) | tf (xs : List D) | dic (t : Bool) (kvs : List (D × D)) | ins (C : Addr) (fs : List (Str × D)) | obj (a : Addr) | fd (t : Bool) (kvs : List (D × D)) | gh (d : D) (v : V)
/-- an object that may change; err: an exception of the class of that name, with what it keeps; tb: a table of code objects, all of one name -/
inductive DO where
  | lst (xs : List D) | dic (t : Bool) (kvs : List (D × D)) | ins (C : Addr) (fs : List (Str × D)) | err (n : Str) (fs : List (Str × D)) | tb (q : Str)
abbrev SO := Addr → Option DO
def SO.set (S : SO) (a : Addr) (o : DO) : SO := fun b => if b = a then some o else S b
def SO.del (S : SO) (a : Addr) : SO := fun b => if b = a then none else S b
theorem set_same {S : SO} {a : Addr} {o : DO} : S.set a o a = some o := if_pos rfl
theorem set_ne {S : SO} {a b : Addr} {o : DO} (h : b ≠ a) : S.set a o b = S b := if_neg h
theorem set_set {S : SO} {a : Addr} {o u : DO} : (S.set a o).set a u = S.set a u := by
  funext b
  unfold SO.set
  split <;> rfl
theorem del_set {S : SO} {a : Addr} {o : DO} (h : S a = none) : (S.set a o).del a = S := by
  funext b
  unfold SO.set SO.del
  split
  · rename_i e
    rw [e, h]
  · rename_i e
    exact if_neg e
theorem so_ne {S : SO} {a b : Addr} {o : DO} (h : S a = some o) (h' : S b = none) : a ≠ b := by
  intro e
  rw [e, h'] at h
  cases h

def keyD : Key → D
  | .inl i => .int i
  | .inr x => .str x

/-- a tuple, a list that is read and that nobody changes -/
def TupAt (S : SO) (H : Hp) (a : Addr) (vs : List V) : Prop := S a = none ∧ H a = some (.tup vs)
def KTup (K : PySem.W.Frag) (a : Addr) (vs : List V) : Prop := ∃ (o : Obj) (its : Array Value) (n : Nat), K.lookup a = some o ∧ o.cls = .type "tuple" ∧ o.data = .seq its n ∧ its.size ≤ sizeLine ∧ Vals vs its.toList
def LstAt (K : PySem.W.Frag) (S : SO) (H : Hp) (a : Addr) (vs : List V) : Prop := S a = none ∧ Rd H a (.lst vs) ∨
  ∃ (o : Obj) (its : Array Value) (n : Nat), K.lookup a = some o ∧ o.cls = .type "list" ∧ o.dict = none ∧ o.data = .seq its n ∧ its.size ≤ sizeLine ∧ Vals vs its.toList
def TfAt (S : SO) (H : Hp) (a : Addr) (vs : List V) : Prop := S a = none ∧ ∃ o, H a = some (.frz o (.tup vs)) ∧ o.dict = none ∧ o.cls = .type "tuple"
theorem TfAt.sq {K : PySem.W.Frag} {S : SO} {H : Hp} {a : Addr} {vs : List V} (h : TfAt S H a vs) : SqT K H a vs := let ⟨_, o, h, _⟩ := h; .inl (.inr ⟨o, h⟩)
theorem TupAt.sq {K : PySem.W.Frag} {S : SO} {H : Hp} {a : Addr} {vs : List V} (h : TupAt S H a vs) : SqT K H a vs := .of h.2
theorem KTup.sq {K : PySem.W.Frag} {H : Hp} {a : Addr} {vs : List V} (h : KTup K a vs) : SqT K H a vs := .inr h
theorem LstAt.sq {K : PySem.W.Frag} {S : SO} {H : Hp} {a : Addr} {vs : List V} (h : LstAt K S H a vs) : SqL K H a vs := h.elim (fun x => .inl x.2) .inr

mutual
/-- the value d lies at v -/
def Rel (K : PySem.W.Frag) (S : SO) (H : Hp) : D → V → Prop
  | .non, v => v = .non
  | .bl b, v => v = .bl b
  | .int i, v => v = .int i
  | .str x, v => v = .str x
  | .ty n, v => v = .ty n
  | .obj a, v => v = .ref a
  | .tup ds, v => ∃ a vs, v = .ref a ∧ TupAt S H a vs ∧ Rels K S H ds vs
  | .lst ds, v => ∃ a vs, v = .ref a ∧ S a = none ∧ H a = some (.lst vs) ∧ Rels K S H ds vs
  | .kt ds, v => ∃ a vs, v = .ref a ∧ KTup K a vs ∧ Rels K S H ds vs
  | .tf ds, v => ∃ a vs, v = .ref a ∧ TfAt S H a vs ∧ Rels K S H ds vs
  | .src ds, v => ∃ a vs, v = .ref a ∧ LstAt K S H a vs ∧ Rels K S H ds vs
  | .dic t kvs, v => ∃ a, v = .ref a ∧ S a = none ∧ ((∃ l, t = false ∧ H a = some (.dK l) ∧ RelK K S H kvs l) ∨ (∃ l, t = true ∧ H a = some (.dT l) ∧ RelT K S H kvs l))
  | .ins C fs, v => ∃ a dx l, v = .ref a ∧ S a = none ∧ H a = some (.ins C dx l) ∧ RelF K S H fs l
  | .gh d u, v => v = u ∧ Rel K S H d u
  | .fd t kvs, v => ∃ a, v = .ref a ∧ S a = none ∧ ((∃ o l, t = false ∧ H a = some (.frz o (.dK l)) ∧ RelK K S H kvs l) ∨ (∃ o l, t = true ∧ H a = some (.frz o (.dT l)) ∧ RelT K S H kvs l))
def Rels (K : PySem.W.Frag) (S : SO) (H : Hp) : List D → List V → Prop
  | [], vs => vs = []
  | d :: ds, vs => ∃ v r, vs = v :: r ∧ Rel K S H d v ∧ Rels K S H ds r
def RelK (K : PySem.W.Frag) (S : SO) (H : Hp) : List (D × D) → List (Key × V) → Prop
  | [], l => l = []
  | (k, d) :: kvs, l => ∃ q v r, l = (q, v) :: r ∧ k = keyD q ∧ Rel K S H d v ∧ RelK K S H kvs r
def RelT (K : PySem.W.Frag) (S : SO) (H : Hp) : List (D × D) → List (List Key × V) → Prop
  | [], l => l = []
  | (k, d) :: kvs, l => ∃ q v r, l = (q, v) :: r ∧ k = .tup (q.map keyD) ∧ Rel K S H d v ∧ RelT K S H kvs r
def RelF (K : PySem.W.Frag) (S : SO) (H : Hp) : List (Str × D) → List (Str × V) → Prop
  | [], l => l = []
  | (x, d) :: fs, l => ∃ v r, l = (x, v) :: r ∧ Rel K S H d v ∧ RelF K S H fs r
end

/-- at a: an exception of the class at C, its own dict d -/
def ErrO (a C : Addr) (d : Option Addr) : HO := .ext fun h => ∃ (oe : Obj) (vs : Array Value), h.get? a = some oe ∧ oe.cls = .ref C ∧ oe.dict = d ∧ oe.data = .fields vs
/-- what an exception keeps -/
def ErrF (K : PySem.W.Frag) (S : SO) (H : Hp) : Option Addr → List (Str × D) → Prop
  | none, fs => fs = []
  | some dx, fs => ∃ l, S dx = none ∧ H dx = some (.xd l) ∧ RelF K S H fs l
/-- how a changing object lies -/
def ObjAt (K : PySem.W.Frag) (S : SO) (H : Hp) (a : Addr) : DO → Prop
  | .lst ds => ∃ vs, H a = some (.lst vs) ∧ Rels K S H ds vs
  | .dic t kvs => (∃ l, t = false ∧ H a = some (.dK l) ∧ RelK K S H kvs l) ∨ (∃ l, t = true ∧ H a = some (.dT l) ∧ RelT K S H kvs l)
  | .ins C fs => ∃ dx l, H a = some (.ins C dx l) ∧ RelF K S H fs l
  | .err n fs => ∃ C d, PySem.W.nsIn K mainGlobals n = some (some (.ref C)) ∧ H a = some (ErrO a C d) ∧ ErrF K S H d fs
  | .tb q => ∃ ps : Array Value, H a = some (.tbl ps) ∧ TriplesOk ps.toList ∧ ∀ (pos : Pos) (cv : Value), codeAmong pos ps.toList = some cv → ∃ c, cv = .ref c ∧ S c = none ∧ H c = some (LamX.CodeO c q)
def SRel (K : PySem.W.Frag) (S : SO) (H : Hp) : Prop := ∀ a o, S a = some o → ObjAt K S H a o
/-- the step from one state to a later one: what nobody changes stays -/
def Nx (S : SO) (H : Hp) (S' : SO) (H' : Hp) : Prop := ∀ a o, S a = none → H a = some o → S' a = none ∧ H' a = some o
theorem Nx.refl (S : SO) (H : Hp) : Nx S H S H := fun _ _ h h' => ⟨h, h'⟩
theorem Nx.trans {S S1 S2 : SO} {H H1 H2 : Hp} (x : Nx S H S1 H1) (y : Nx S1 H1 S2 H2) : Nx S H S2 H2 := fun a o h h' => let ⟨p, q⟩ := x a o h h'; y a o p q

section
variable {K : PySem.W.Frag} {S S' : SO} {H H' : Hp}
theorem TfAt.nx {a : Addr} {vs : List V} (x : Nx S H S' H') (h : TfAt S H a vs) : TfAt S' H' a vs := let ⟨n, o, e, r⟩ := h; let ⟨p, q⟩ := x a _ n e; ⟨p, o, q, r⟩
theorem TupAt.nx {a : Addr} {vs : List V} (x : Nx S H S' H') (h : TupAt S H a vs) : TupAt S' H' a vs := x a _ h.1 h.2
theorem LstAt.nx {a : Addr} {vs : List V} (x : Nx S H S' H') (h : LstAt K S H a vs) : LstAt K S' H' a vs := by
  rcases h with ⟨h0, h | ⟨o, h⟩⟩ | h
  · obtain ⟨p, q⟩ := x a _ h0 h
    exact .inl ⟨p, .inl q⟩
  · obtain ⟨p, q⟩ := x a _ h0 h
    exact .inl ⟨p, .inr ⟨o, q⟩⟩
  · exact .inr h
mutual
theorem Rel.nx (x : Nx S H S' H') : ∀ (d : D) (v : V), Rel K S H d v → Rel K S' H' d v
  | .non, _, h => h
  | .bl _, _, h => h
  | .int _, _, h => h
  | .str _, _, h => h
  | .ty _, _, h => h
  | .obj _, _, h => h
  | .tup ds, v, h => by
    obtain ⟨a, vs, e, t, r⟩ := h
    exact ⟨a, vs, e, t.nx x, Rels.nx x ds vs r⟩
  | .lst ds, v, h => by
    obtain ⟨a, vs, e, n, t, r⟩ := h
    obtain ⟨p, q⟩ := x a _ n t
    exact ⟨a, vs, e, p, q, Rels.nx x ds vs r⟩
  | .kt ds, v, h => by
    obtain ⟨a, vs, e, t, r⟩ := h
    exact ⟨a, vs, e, t, Rels.nx x ds vs r⟩
  | .tf ds, v, h => by
    obtain ⟨a, vs, e, t, r⟩ := h
    exact ⟨a, vs, e, t.nx x, Rels.nx x ds vs r⟩
  | .src ds, v, h => by
    obtain ⟨a, vs, e, t, r⟩ := h
    exact ⟨a, vs, e, t.nx x, Rels.nx x ds vs r⟩
  | .dic t kvs, v, h => by
    obtain ⟨a, e, n, h⟩ := h
    refine ⟨a, e, ?_⟩
    rcases h with ⟨l, ht, hl, r⟩ | ⟨l, ht, hl, r⟩
    · obtain ⟨p, q⟩ := x a _ n hl
      exact ⟨p, .inl ⟨l, ht, q, RelK.nx x kvs l r⟩⟩
    · obtain ⟨p, q⟩ := x a _ n hl
      exact ⟨p, .inr ⟨l, ht, q, RelT.nx x kvs l r⟩⟩
  | .ins C fs, v, h => by
    obtain ⟨a, dx, l, e, n, hl, r⟩ := h
    obtain ⟨p, q⟩ := x a _ n hl
    exact ⟨a, dx, l, e, p, q, RelF.nx x fs l r⟩
  | .gh d u, v, h => ⟨h.1, Rel.nx x d u h.2⟩
  | .fd t kvs, v, h => by
    obtain ⟨a, e, n, h⟩ := h
    refine ⟨a, e, ?_⟩
    rcases h with ⟨o, l, ht, hl, r⟩ | ⟨o, l, ht, hl, r⟩
    · obtain ⟨p, q⟩ := x a _ n hl
      exact ⟨p, .inl ⟨o, l, ht, q, RelK.nx x kvs l r⟩⟩
    · obtain ⟨p, q⟩ := x a _ n hl
      exact ⟨p, .inr ⟨o, l, ht, q, RelT.nx x kvs l r⟩⟩
theorem Rels.nx (x : Nx S H S' H') : ∀ (ds : List D) (vs : List V), Rels K S H ds vs → Rels K S' H' ds vs
  | [], _, h => h
  | d :: ds, _, h => by
    obtain ⟨v, r, e, h1, h2⟩ := h
    exact ⟨v, r, e, Rel.nx x d v h1, Rels.nx x ds r h2⟩
theorem RelK.nx (x : Nx S H S' H') : ∀ (kvs : List (D × D)) (l : List (Key × V)), RelK K S H kvs l → RelK K S' H' kvs l
  | [], _, h => h
  | (k, d) :: kvs, _, h => by
    obtain ⟨q, v, r, e, hk, h1, h2⟩ := h
    exact ⟨q, v, r, e, hk, Rel.nx x d v h1, RelK.nx x kvs r h2⟩
theorem RelT.nx (x : Nx S H S' H') : ∀ (kvs : List (D × D)) (l : List (List Key × V)), RelT K S H kvs l → RelT K S' H' kvs l
  | [], _, h => h
  | (k, d) :: kvs, _, h => by
    obtain ⟨q, v, r, e, hk, h1, h2⟩ := h
    exact ⟨q, v, r, e, hk, Rel.nx x d v h1, RelT.nx x kvs r h2⟩
theorem RelF.nx (x : Nx S H S' H') : ∀ (fs : List (Str × D)) (l : List (Str × V)), RelF K S H fs l → RelF K S' H' fs l
  | [], _, h => h
  | (k, d) :: kvs, _, h => by
    obtain ⟨v, r, e, h1, h2⟩ := h
    exact ⟨v, r, e, Rel.nx x d v h1, RelF.nx x kvs r h2⟩
end
theorem ErrF.nx (x : Nx S H S' H') : ∀ {d : Option Addr} {fs : List (Str × D)}, ErrF K S H d fs → ErrF K S' H' d fs
  | none, _, h => h
  | some dx, fs, ⟨l, h1, h2, h3⟩ => let ⟨p, q⟩ := x dx _ h1 h2; ⟨l, p, q, RelF.nx x fs l h3⟩
theorem ObjAt.nx {a : Addr} (x : Nx S H S' H') (e : H' a = H a) : ∀ {o : DO}, ObjAt K S H a o → ObjAt K S' H' a o
  | .lst ds, h => by
    obtain ⟨vs, h1, h2⟩ := h
    exact ⟨vs, e.trans h1, Rels.nx x ds vs h2⟩
  | .dic t kvs, h => by
    rcases h with ⟨l, ht, h1, h2⟩ | ⟨l, ht, h1, h2⟩
    · exact .inl ⟨l, ht, e.trans h1, RelK.nx x kvs l h2⟩
    · exact .inr ⟨l, ht, e.trans h1, RelT.nx x kvs l h2⟩
  | .ins C fs, h => by
    obtain ⟨dx, l, h1, h2⟩ := h
    exact ⟨dx, l, e.trans h1, RelF.nx x fs l h2⟩
  | .err n fs, h => by
    obtain ⟨C, d, h0, h1, h2⟩ := h
    exact ⟨C, d, h0, e.trans h1, h2.nx x⟩
  | .tb q, h => by
    obtain ⟨ps, h1, h2, h3⟩ := h
    refine ⟨ps, e.trans h1, h2, fun pos cv hc => ?_⟩
    obtain ⟨c, e1, e2, e3⟩ := h3 pos cv hc
    exact ⟨c, e1, x c _ e2 e3⟩
theorem ObjAt.there {a : Addr} : ∀ {o : DO}, ObjAt K S H a o → ∃ u, H a = some u
  | .lst ds, ⟨_, h1, _⟩ => ⟨_, h1⟩
  | .dic t kvs, .inl ⟨_, _, h1, _⟩ => ⟨_, h1⟩
  | .dic t kvs, .inr ⟨_, _, h1, _⟩ => ⟨_, h1⟩
  | .ins C fs, ⟨_, _, h1, _⟩ => ⟨_, h1⟩
  | .err n fs, ⟨_, _, _, h1, _⟩ => ⟨_, h1⟩
  | .tb q, ⟨_, h1, _⟩ => ⟨_, h1⟩
theorem SRel.free (x : SRel K S H) {a : Addr} (h : H a = none) : S a = none := by
  cases q : S a with
  | none => rfl
  | some o =>
    obtain ⟨u, e⟩ := (x a o q).there
    rw [h] at e
    cases e
/-- a new thing that is tracked and not changed -/
theorem nx_new {p : Addr} {o : HO} (h : H p = none) : Nx S H S (upd H p o) := fun a u h1 h2 => ⟨h1, by rw [upd_ne (ne_of_none h2 h)]; exact h2⟩
theorem SRel.new (x : SRel K S H) {p : Addr} {o : HO} (h : H p = none) : SRel K S (upd H p o) := fun a u q => by
  have hu := x a u q
  obtain ⟨w, e⟩ := hu.there
  exact hu.nx (nx_new h) (by rw [upd_ne (ne_of_none e h)])
/-- a new object -/
theorem nx_obj {p : Addr} {o : DO} {u : HO} (h : H p = none) (hs : S p = none) : Nx S H (S.set p o) (upd H p u) := fun a w h1 h2 => by
  have ne := ne_of_none h2 h
  exact ⟨by rw [set_ne ne]; exact h1, by rw [upd_ne ne]; exact h2⟩
/-- an object is changed -/
theorem nx_put {p : Addr} {o o' : DO} {u : HO} (hs : S p = some o) : Nx S H (S.set p o') (upd H p u) := fun a w h1 h2 => by
  have ne : a ≠ p := (so_ne hs h1).symm
  exact ⟨by rw [set_ne ne]; exact h1, by rw [upd_ne ne]; exact h2⟩
theorem srel_put (x : SRel K S H) {p : Addr} {o : DO} {u : HO} (n : Nx S H (S.set p o) (upd H p u)) (h : ObjAt K (S.set p o) (upd H p u) p o) : SRel K (S.set p o) (upd H p u) := fun a w q => by
  by_cases e : a = p
  · subst e
    rw [set_same] at q
    cases q
    exact h
  · rw [set_ne e] at q
    exact (x a w q).nx n (upd_ne e)
theorem Rels.length : ∀ {ds : List D} {vs : List V}, Rels K S H ds vs → ds.length = vs.length
  | [], _, h => by
    have h' : _ = [] := h
    rw [h']
    rfl
  | d :: ds, _, h => by
    obtain ⟨v, r, e, _, h2⟩ := h
    rw [e, List.length_cons, List.length_cons, h2.length]
theorem Rels.app : ∀ {ds es : List D} {vs us : List V}, Rels K S H ds vs → Rels K S H es us → Rels K S H (ds ++ es) (vs ++ us)
  | [], _, _, _, h, h' => by
    have e : _ = [] := h
    subst e
    exact h'
  | d :: ds, es, _, us, h, h' => by
    obtain ⟨v, r, e, h1, h2⟩ := h
    subst e
    exact ⟨v, r ++ us, rfl, h1, h2.app h'⟩
theorem Rels.one {d : D} {v : V} (h : Rel K S H d v) : Rels K S H [d] [v] := ⟨v, [], rfl, h, rfl⟩
theorem Rels.get : ∀ {ds : List D} {vs : List V} {i : Nat} {d : D}, Rels K S H ds vs → ds[i]? = some d → ∃ v, vs[i]? = some v ∧ Rel K S H d v
  | [], _, _, _, _, e => by simp at e
  | d' :: ds, _, 0, d, h, e => by
    obtain ⟨v, r, rfl, h1, h2⟩ := h
    have e' : d' = d := Option.some.inj e
    subst e'
    exact ⟨v, rfl, h1⟩
  | d' :: ds, _, i + 1, d, h, e => by
    obtain ⟨v, r, rfl, h1, h2⟩ := h
    exact h2.get (i := i) e
theorem Rels.take : ∀ {ds : List D} {vs : List V} (n : Nat), Rels K S H ds vs → Rels K S H (ds.take n) (vs.take n)
  | _, _, 0, _ => rfl
  | [], _, n + 1, h => by
    have h' : _ = [] := h
    rw [h']
    exact rfl
  | d :: ds, _, n + 1, h => by
    obtain ⟨v, r, rfl, h1, h2⟩ := h
    exact ⟨v, r.take n, rfl, h1, h2.take n⟩
theorem Rels.drop : ∀ {ds : List D} {vs : List V} (n : Nat), Rels K S H ds vs → Rels K S H (ds.drop n) (vs.drop n)
  | _, _, 0, h => h
  | [], _, n + 1, h => by
    have h' : _ = [] := h
    rw [h']
    exact rfl
  | d :: ds, _, n + 1, h => by
    obtain ⟨v, r, rfl, h1, h2⟩ := h
    exact h2.drop n
theorem Rels.two {a b : D} {vs : List V} (h : Rels K S H [a, b] vs) : ∃ v w, vs = [v, w] ∧ Rel K S H a v ∧ Rel K S H b w := by
  obtain ⟨v, r, rfl, h1, w, r', rfl, h2, h3⟩ := h
  have e : _ = [] := h3
  subst e
  exact ⟨v, w, rfl, h1, h2⟩
theorem RelF.look : ∀ {fs : List (Str × D)} {l : List (Str × V)} {x : Str} {d : D}, RelF K S H fs l → fs.lookup x = some d → ∃ v, l.lookup x = some v ∧ Rel K S H d v
  | [], _, _, _, _, e => by cases e
  | (y, d') :: fs, _, x, d, h, e => by
    obtain ⟨v, r, rfl, h1, h2⟩ := h
    rw [List.lookup_cons] at e
    rw [List.lookup_cons]
    cases q : x == y with
    | true =>
      rw [q] at e
      cases e
      exact ⟨v, rfl, h1⟩
    | false =>
      rw [q] at e
      exact h2.look e
theorem RelF.look_none : ∀ {fs : List (Str × D)} {l : List (Str × V)} {x : Str}, RelF K S H fs l → fs.lookup x = none → l.lookup x = none
  | [], _, _, h, _ => by
    have h' : _ = [] := h
    rw [h']
    rfl
  | (y, d') :: fs, _, x, h, e => by
    obtain ⟨v, r, rfl, h1, h2⟩ := h
    rw [List.lookup_cons] at e
    rw [List.lookup_cons]
    cases q : x == y with
    | true =>
      rw [q] at e
      cases e
    | false =>
      rw [q] at e
      exact h2.look_none e
def putD (f : Str) (v : D) : List (Str × D) → List (Str × D)
  | [] => [(f, v)]
  | (g, u) :: r => if g = f then (g, v) :: r else (g, u) :: putD f v r
end

/-! ### the frame's slots -/
abbrev SD := List (Option D)
def RelS (K : PySem.W.Frag) (S : SO) (H : Hp) (sd : SD) (σ : St) : Prop := sd.length = σ.length ∧ ∀ (i : Nat) (d : D), sd[i]? = some (some d) → ∃ v, σ[i]? = some (some v) ∧ Rel K S H d v
structure Sta (K : PySem.W.Frag) (sd : SD) (S : SO) (σ : St) (H : Hp) : Prop where
  s : SRel K S H
  r : RelS K S H sd σ
theorem RelS.nx {K : PySem.W.Frag} {S S' : SO} {H H' : Hp} {sd : SD} {σ : St} (x : Nx S H S' H') (h : RelS K S H sd σ) : RelS K S' H' sd σ :=
  ⟨h.1, fun i d e => let ⟨v, e', r⟩ := h.2 i d e; ⟨v, e', Rel.nx x d v r⟩⟩
theorem Sta.nx {K : PySem.W.Frag} {S S' : SO} {H H' : Hp} {sd : SD} {σ : St} (h : Sta K sd S σ H) (x : Nx S H S' H') (s : SRel K S' H') : Sta K sd S' σ H' := ⟨s, h.r.nx x⟩
theorem Sta.set {K : PySem.W.Frag} {S : SO} {H : Hp} {sd : SD} {σ : St} (h : Sta K sd S σ H) (i : Nat) {d : D} {v : V} (r : Rel K S H d v) : Sta K (sd.set i (some d)) S (σ.set i (some v)) H := by
  refine ⟨h.s, by rw [List.length_set, List.length_set]; exact h.r.1, fun j e q => ?_⟩
  by_cases hj : i = j
  · subst hj
    have hl : i < sd.length := by
      have := (List.getElem?_eq_some_iff.mp q).1
      rwa [List.length_set] at this
    rw [List.getElem?_set_self hl] at q
    cases q
    exact ⟨v, List.getElem?_set_self (by rw [← h.r.1]; exact hl), r⟩
  · rw [List.getElem?_set_ne hj] at q
    obtain ⟨v', e', r'⟩ := h.r.2 j e q
    exact ⟨v', by rw [List.getElem?_set_ne hj]; exact e', r'⟩
end L2.DL

/-! DL2: the judgements over data, lifted from HandS, and the rules of expressions, tests, statements, targets -/
namespace L2.DL
open PySem PySem.Spec PyProof.Rows

abbrev KD := D → SO → Prop
abbrev WE := SD → SO → KD → Prop
abbrev WT := SD → SO → (Bool → SO → Prop) → Prop
abbrev WA := SD → SO → (List D → SO → Prop) → Prop
structure EndsD where
  nx : SD → SO → Prop
  rt : KD
  bk : SD → SO → Prop := fun _ _ => False
  ct : SD → SO → Prop := fun _ _ => False
abbrev WS := EndsD → SD → SO → Prop
abbrev WG := D → SD → SO → (SD → SO → Prop) → Prop
abbrev WGs := List D → SD → SO → (SD → SO → Prop) → Prop

/-- what is wanted of the data answers what is wanted of the values -/
def Ans (K : PySem.W.Frag) (S : SO) (H : Hp) (Q0 : KD) (Q : VK) : Prop := ∀ d S' v H', Q0 d S' → Nx S H S' H' → SRel K S' H' → Rel K S' H' d v → Q v H'
def AnsT (K : PySem.W.Frag) (S : SO) (H : Hp) (Q0 : Bool → SO → Prop) (Q : Bool → Hp → Prop) : Prop := ∀ b S' H', Q0 b S' → Nx S H S' H' → SRel K S' H' → Q b H'
def AnsA (K : PySem.W.Frag) (S : SO) (H : Hp) (Q0 : List D → SO → Prop) (Q : List V → Hp → Prop) : Prop := ∀ ds S' vs H', Q0 ds S' → Nx S H S' H' → SRel K S' H' → Rels K S' H' ds vs → Q vs H'
def AnsS (K : PySem.W.Frag) (S : SO) (H : Hp) (Q0 : SD → SO → Prop) (Q : St → Hp → Prop) : Prop := ∀ sd S' σ H', Q0 sd S' → Nx S H S' H' → Sta K sd S' σ H' → Q σ H'
structure AnsE (K : PySem.W.Frag) (S : SO) (H : Hp) (E0 : EndsD) (E : Ends) : Prop where
  nx : AnsS K S H E0.nx E.nx
  rt : Ans K S H E0.rt E.rt
  bk : AnsS K S H E0.bk E.bk
  ct : AnsS K S H E0.ct E.ct
section
variable {K : PySem.W.Frag} {S S' : SO} {H H' : Hp}
theorem Ans.nx {Q0 : KD} {Q : VK} (a : Ans K S H Q0 Q) (x : Nx S H S' H') : Ans K S' H' Q0 Q := fun d S2 v H2 q y s r => a d S2 v H2 q (x.trans y) s r
theorem AnsT.nx {Q0 : Bool → SO → Prop} {Q : Bool → Hp → Prop} (a : AnsT K S H Q0 Q) (x : Nx S H S' H') : AnsT K S' H' Q0 Q := fun d S2 H2 q y s => a d S2 H2 q (x.trans y) s
theorem AnsA.nx {Q0 : List D → SO → Prop} {Q : List V → Hp → Prop} (a : AnsA K S H Q0 Q) (x : Nx S H S' H') : AnsA K S' H' Q0 Q := fun d S2 v H2 q y s r => a d S2 v H2 q (x.trans y) s r
theorem AnsS.nx {Q0 : SD → SO → Prop} {Q : St → Hp → Prop} (a : AnsS K S H Q0 Q) (x : Nx S H S' H') : AnsS K S' H' Q0 Q := fun d S2 v H2 q y s => a d S2 v H2 q (x.trans y) s
theorem AnsE.go {E0 : EndsD} {E : Ends} (a : AnsE K S H E0 E) (x : Nx S H S' H') : AnsE K S' H' E0 E := ⟨a.nx.nx x, a.rt.nx x, a.bk.nx x, a.ct.nx x⟩
end
def lift (K : PySem.W.Frag) (w : WE) : TE := fun σ H Q => ∃ sd S Q0, Sta K sd S σ H ∧ w sd S Q0 ∧ Ans K S H Q0 Q
def liftT (K : PySem.W.Frag) (w : WT) : TT := fun σ H Q => ∃ sd S Q0, Sta K sd S σ H ∧ w sd S Q0 ∧ AnsT K S H Q0 Q
def liftA (K : PySem.W.Frag) (w : WA) : TA := fun σ H Q => ∃ sd S Q0, Sta K sd S σ H ∧ w sd S Q0 ∧ AnsA K S H Q0 Q
def liftS (K : PySem.W.Frag) (w : WS) : TS := fun E σ H => ∃ sd S E0, Sta K sd S σ H ∧ w E0 sd S ∧ AnsE K S H E0 E
def liftG (K : PySem.W.Frag) (w : WG) : TG := fun v σ H Q => ∃ d sd S Q0, Sta K sd S σ H ∧ Rel K S H d v ∧ w d sd S Q0 ∧ AnsS K S H Q0 Q
def liftGs (K : PySem.W.Frag) (w : WGs) : TGs := fun v σ H Q => ∃ d sd S Q0, Sta K sd S σ H ∧ Rels K S H d v ∧ w d sd S Q0 ∧ AnsS K S H Q0 Q
abbrev DE (X : Cx) (e : Expr) (w : WE) : Prop := PE X e (lift X.K w)
abbrev DT (X : Cx) (e : Expr) (w : WT) : Prop := PT X e (liftT X.K w)
abbrev DW (X : Cx) (e : Expr) (w : WT) : Prop := PW X e (liftT X.K w)
abbrev DA (X : Cx) (es : List Expr) (w : WA) : Prop := PA X es (liftA X.K w)
abbrev DS (X : Cx) (st : Stmt) (w : WS) : Prop := PS X st (liftS X.K w)
abbrev DSs (X : Cx) (st : List Stmt) (w : WS) : Prop := PSs X st (liftS X.K w)
abbrev DG (X : Cx) (tg : Expr) (w : WG) : Prop := PG X tg (liftG X.K w)
abbrev DGs (X : Cx) (tg : List Expr) (w : WGs) : Prop := PGs X tg (liftGs X.K w)

section
variable {X : Cx}
theorem pe_imp {e : Expr} {t t' : TE} (h : PE X e t) (i : ∀ σ H Q, t' σ H Q → t σ H Q) : PE X e t' := ⟨fun pins s σ H Q I q => h.run pins s σ H Q I (i σ H Q q)⟩
theorem pt_imp {e : Expr} {t t' : TT} (h : PT X e t) (i : ∀ σ H Q, t' σ H Q → t σ H Q) : PT X e t' := ⟨fun pins s σ H Q I q => h.run pins s σ H Q I (i σ H Q q)⟩
theorem pw_imp {e : Expr} {t t' : TT} (h : PW X e t) (i : ∀ σ H Q, t' σ H Q → t σ H Q) : PW X e t' := ⟨fun wh pins s σ H Q I q => h.run wh pins s σ H Q I (i σ H Q q)⟩
theorem pa_imp {e : List Expr} {t t' : TA} (h : PA X e t) (i : ∀ σ H Q, t' σ H Q → t σ H Q) : PA X e t' := ⟨fun p pins s σ H Q I q => h.run p pins s σ H Q I (i σ H Q q)⟩
theorem ps_imp {e : Stmt} {t t' : TS} (h : PS X e t) (i : ∀ E σ H, t' E σ H → t E σ H) : PS X e t' := ⟨fun pins s σ H E I q => h.run pins s σ H E I (i E σ H q)⟩
theorem pss_imp {e : List Stmt} {t t' : TS} (h : PSs X e t) (i : ∀ E σ H, t' E σ H → t E σ H) : PSs X e t' := ⟨fun pins s σ H E I q => h.run pins s σ H E I (i E σ H q)⟩
theorem pg_imp {e : Expr} {t t' : TG} (h : PG X e t) (i : ∀ v σ H Q, t' v σ H Q → t v σ H Q) : PG X e t' := ⟨fun pins s σ H v u Q I r q => h.run pins s σ H v u Q I r (i v σ H Q q)⟩
theorem pgs_imp {e : List Expr} {t t' : TGs} (h : PGs X e t) (i : ∀ v σ H Q, t' v σ H Q → t v σ H Q) : PGs X e t' := ⟨fun pins s σ H v u Q I r q => h.run pins s σ H v u Q I r (i v σ H Q q)⟩

/-! ### names, constants -/
def wV (i : Nat) : WE := fun sd S Q => match sd[i]? with
  | some (some d) => Q d S
  | _ => False
def wC (d : D) : WE := fun _ S Q => Q d S
theorem de_v (i : Nat) {x : Str} {pos : Pos} (hN : X.N[i]? = some x := by rfl) (hv : Vis X.env.scope x := by first | exact Or.inl rfl | exact Or.inr (Or.inl rfl) | exact Or.inr (Or.inr rfl)) (hd : (x == ("__debug__" : Str)) = false := by decide)
    (hcd : (x == ("__classdict__" : Str)) = false := by decide) : DE X (.Name x pos) (wV i) := by
  refine pe_imp (pe_var hN hv hd hcd) fun σ H Q ⟨sd, S, Q0, st, q, a⟩ => ?_
  unfold wV at q
  split at q
  · rename_i d e
    obtain ⟨v, e', r⟩ := st.r.2 i d e
    exact ⟨v, e', a _ _ _ _ q (Nx.refl _ _) st.s r⟩
  · exact q.elim
theorem lift_c {d : D} {v : V} (hr : ∀ K S H, Rel K S H d v) : ∀ σ H Q, lift X.K (wC d) σ H Q → tC v σ H Q := fun σ H Q ⟨sd, S, Q0, st, q, a⟩ => a _ _ _ _ q (Nx.refl _ _) st.s (hr _ _ _)
theorem de_int {i j pos} : DE X (.Constant (.int i) j pos) (wC (.int i)) := pe_imp pe_int (lift_c fun _ _ _ => rfl)
theorem de_bl {i j pos} : DE X (.Constant (.bool i) j pos) (wC (.bl i)) := pe_imp pe_bl (lift_c fun _ _ _ => rfl)
theorem de_non {j pos} : DE X (.Constant .none j pos) (wC .non) := pe_imp pe_non (lift_c fun _ _ _ => rfl)
theorem de_str {i j pos} : DE X (.Constant (.str i) j pos) (wC (.str i)) := pe_imp pe_str (lift_c fun _ _ _ => rfl)
theorem de_glob {x : Str} {d : D} {v : V} {u : Value} {pos : Pos} (hg : Gl X x) (hm : X.mg x = some u) (r : RelV v u) (hr : ∀ K S H, Rel K S H d v) (hd : (x == ("__debug__" : Str)) = false := by decide) : DE X (.Name x pos) (wC d) := pe_imp (pe_glob hg hm r hd) (lift_c hr)
theorem de_bltn {x : Str} {d : D} {v : V} {u : Value} {pos : Pos} (hg : Gl X x) (hm : X.mg x = none) (hv : bootBuiltins x = some u) (r : RelV v u) (hr : ∀ K S H, Rel K S H d v) (hn : x ≠ "__name__" := by decide) (hd : (x == ("__debug__" : Str)) = false := by decide) :
    DE X (.Name x pos) (wC d) := pe_imp (pe_bltn hg hm hv r hn hd) (lift_c hr)

/-! ### operators by values -/
abbrev WO := D → D → SO → KD → Prop
abbrev WU := D → SO → KD → Prop
abbrev WL := List D → SO → KD → Prop
def liftO (K : PySem.W.Frag) (w : WO) : R2 := fun v u H Q => ∃ x y S Q0, SRel K S H ∧ Rel K S H x v ∧ Rel K S H y u ∧ w x y S Q0 ∧ Ans K S H Q0 Q
def liftU (K : PySem.W.Frag) (w : WU) : V → Hp → VK → Prop := fun v H Q => ∃ x S Q0, SRel K S H ∧ Rel K S H x v ∧ w x S Q0 ∧ Ans K S H Q0 Q
def liftL (K : PySem.W.Frag) (w : WL) : List V → Hp → VK → Prop := fun v H Q => ∃ x S Q0, SRel K S H ∧ Rels K S H x v ∧ w x S Q0 ∧ Ans K S H Q0 Q
def liftM (K : PySem.W.Frag) (w : D → List D → SO → KD → Prop) : V → List V → Hp → VK → Prop := fun u v H Q => ∃ d x S Q0, SRel K S H ∧ Rel K S H d u ∧ Rels K S H x v ∧ w d x S Q0 ∧ Ans K S H Q0 Q
abbrev DO2 (X : Cx) (f : Value → Value → Sem Value) (w : WO) : Prop := OpR X f (liftO X.K w)
abbrev DO1 (X : Cx) (f : Value → Sem Value) (w : WU) : Prop := UnR X f (liftU X.K w)
abbrev DC (X : Cx) (f : Value) (w : WL) : Prop := CallR X f (liftL X.K w)
variable {a b c : Expr} {wa wb wc : WE} {pos : Pos}
def wO (w : WO) (wa wb : WE) : WE := fun sd S Q => wa sd S fun x S1 => wb sd S1 fun y S2 => w x y S2 Q
def wU (w : WU) (wa : WE) : WE := fun sd S Q => wa sd S fun x S1 => w x S1 Q
theorem two {w : D → D → SO → KD → Prop} {σ : St} {H : Hp} {Q : VK} (h : lift X.K (wO w wa wb) σ H Q) {R : V → V → Hp → VK → Prop}
    (hr : ∀ v u H2 x y S2 Q0, SRel X.K S2 H2 → Rel X.K S2 H2 x v → Rel X.K S2 H2 y u → w x y S2 Q0 → Ans X.K S2 H2 Q0 Q → R v u H2 Q) : lift X.K wa σ H fun v H1 => lift X.K wb σ H1 fun u H2 => R v u H2 Q := by
  obtain ⟨sd, S, Q0, st, q, an⟩ := h
  exact ⟨sd, S, _, st, q, fun x S1 v H1 q1 n1 s1 r1 => ⟨sd, S1, _, st.nx n1 s1, q1, fun y S2 u H2 q2 n2 s2 r2 => hr v u H2 x y S2 Q0 s2 (Rel.nx n2 _ _ r1) r2 q2 (an.nx (n1.trans n2))⟩⟩
theorem de_o {op : Operator} {w : WO} (ho : DO2 X (binaryOp op) w) (ha : DE X a wa) (hb : DE X b wb) : DE X (.BinOp a op b pos) (wO w wa wb) :=
  pe_imp (pe_op ho ha hb) fun σ H Q h => two h fun v u H2 x y S2 Q0 s2 r1 r2 q2 an => ⟨x, y, S2, Q0, s2, r1, r2, q2, an⟩
theorem de_c {op : CmpOp} {w : WO} (ho : DO2 X (compareOp op) w) (ha : DE X a wa) (hb : DE X b wb) (hm : behindInMarks op b = false := by first | exact nomark _ | rfl) : DE X (.Compare a [op] [b] pos) (wO w wa wb) :=
  pe_imp (pe_cmpR ho ha hb hm) fun σ H Q h => two h fun v u H2 x y S2 Q0 s2 r1 r2 q2 an => ⟨x, y, S2, Q0, s2, r1, r2, q2, an⟩
theorem de_u {op : UnaryOp} {w : WU} (ho : DO1 X (unaryOp op) w) (ha : DE X a wa) : DE X (.UnaryOp op a pos) (wU w wa) :=
  pe_imp (pe_un ho ha) fun σ H Q ⟨sd, S, Q0, st, q, an⟩ => ⟨sd, S, _, st, q, fun x S1 v H1 q1 n1 s1 r1 => ⟨x, S1, Q0, s1, r1, q1, an.nx n1⟩⟩
/-- the answer is a truth -/
def isB0 (Q : Bool → SO → Prop) : KD := fun d S => match d with
  | .bl b => Q b S
  | _ => False
structure IsB (Q : Bool → SO → Prop) (d : D) (S : SO) : Prop where
  ex : isB0 Q d S
def isB (Q : Bool → SO → Prop) : KD := fun d S => IsB Q d S
def wB (wa : WE) : WT := fun sd S Q => wa sd S (isB Q)
theorem isB_ans {K : PySem.W.Frag} {S : SO} {H : Hp} {Q0 : Bool → SO → Prop} {Q : Bool → Hp → Prop} (an : AnsT K S H Q0 Q) : Ans K S H (isB Q0) fun x H' => ∃ k, x = .bl k ∧ Q k H' := fun d S' v H' q n s r => by
  have q := q.ex
  cases d with
  | bl k =>
    have e : v = .bl k := r
    exact ⟨k, e, an k S' H' q n s⟩
  | _ => exact q.elim
/-- a comparison as a test -/
theorem dt_c {op : CmpOp} {w : WO} (ho : DO2 X (compareOp op) w) (ha : DE X a wa) (hb : DE X b wb) (hm : behindInMarks op b = false := by first | exact nomark _ | rfl) : DT X (.Compare a [op] [b] pos) (wB (wO w wa wb)) :=
  pt_imp (pt_cmpR ho ha hb hm) fun σ H Q ⟨sd, S, Q0, st, q, an⟩ => by
    refine two (w := w) (wa := wa) (wb := wb) (R := liftO X.K w) ⟨sd, S, _, st, q, isB_ans an⟩ fun v u H2 x y S2 Q0' s2 r1 r2 q2 an => ?_
    exact ⟨x, y, S2, Q0', s2, r1, r2, q2, an⟩
/-- an expression whose value is a truth, as a test -/
theorem dt_b {e : Expr} {w : WE} (h : DE X e w) (he : ∀ whole, isTrue e X.env whole = (do let v ← whole; standAt e.pos; holding [v] (truthy v)) := by intro _; rfl) : DT X e (wB w) :=
  pt_imp (pt_val h he) fun σ H Q ⟨sd, S, Q0, st, q, an⟩ => ⟨sd, S, _, st, q, isB_ans an⟩
/-- a < b < c -/
def wCh (w w' : WO) (wa wb wc : WE) : WE := fun sd S Q => wa sd S fun x S1 => wb sd S1 fun y S2 => w x y S2 fun z S3 => isB (fun k S3 => if k = true then wc sd S3 fun u S4 => w' y u S4 Q else Q (.bl false) S3) z S3
theorem de_ch {op op' : CmpOp} {w w' : WO} (ho : DO2 X (compareOp op) w) (ho' : DO2 X (compareOp op') w') (ha : DE X a wa) (hb : DE X b wb) (hc : DE X c wc) (hm : lastMarks [op, op'] [b, c] = false := by with_unfolding_all rfl) :
    DE X (.Compare a [op, op'] [b, c] pos) (wCh w w' wa wb wc) := by
  refine pe_imp (pe_chain ho ho' ha hb hc hm) fun σ H Q ⟨sd, S, Q0, st, q, an⟩ => ?_
  refine ⟨sd, S, _, st, q, fun x S1 v H1 q1 n1 s1 r1 => ⟨sd, S1, _, st.nx n1 s1, q1, fun y S2 u H2 q2 n2 s2 r2 => ⟨x, y, S2, _, s2, Rel.nx n2 _ _ r1, r2, q2, fun z S3 zv H3 q3 n3 s3 r3 => ?_⟩⟩⟩
  have q3 := q3.ex
  cases z with
  | bl k =>
    have e : zv = .bl k := r3
    refine ⟨k, e, ?_⟩
    have n13 := (n1.trans n2).trans n3
    have q3' : if k = true then wc sd S3 fun u S4 => w' y u S4 Q0 else Q0 (.bl false) S3 := q3
    cases k with
    | true => exact ⟨sd, S3, _, st.nx n13 s3, q3', fun t S4 tv H4 q4 n4 s4 r4 => ⟨y, t, S4, Q0, s4, Rel.nx n4 _ _ (Rel.nx n3 _ _ r2), r4, q4, an.nx (n13.trans n4)⟩⟩
    | false => exact an _ _ _ _ q3' n13 s3 rfl
  | _ => exact False.elim q3
theorem dt_ch {op op' : CmpOp} {w w' : WO} (ho : DO2 X (compareOp op) w) (ho' : DO2 X (compareOp op') w') (ha : DE X a wa) (hb : DE X b wb) (hc : DE X c wc) (hm : lastMarks [op, op'] [b, c] = false := by with_unfolding_all rfl) :
    DT X (.Compare a [op, op'] [b, c] pos) (wB (wCh w w' wa wb wc)) := by
  refine pt_imp (pt_chain ho ho' ha hb hc hm) fun σ H Q ⟨sd, S, Q0', st, q, an'⟩ => ?_
  have an := isB_ans an'
  refine ⟨sd, S, _, st, q, fun x S1 v H1 q1 n1 s1 r1 => ⟨sd, S1, _, st.nx n1 s1, q1, fun y S2 u H2 q2 n2 s2 r2 => ⟨x, y, S2, _, s2, Rel.nx n2 _ _ r1, r2, q2, fun z S3 zv H3 q3 n3 s3 r3 => ?_⟩⟩⟩
  have q3 := q3.ex
  cases z with
  | bl k =>
    have e : zv = .bl k := r3
    refine ⟨k, e, ?_⟩
    have n13 := (n1.trans n2).trans n3
    have q3' : if k = true then wc sd S3 fun u S4 => w' y u S4 (isB Q0') else isB Q0' (.bl false) S3 := q3
    cases k with
    | true => exact ⟨sd, S3, _, st.nx n13 s3, q3', fun t S4 tv H4 q4 n4 s4 r4 => ⟨y, t, S4, _, s4, Rel.nx n4 _ _ (Rel.nx n3 _ _ r2), r4, q4, an.nx (n13.trans n4)⟩⟩
    | false => exact an (.bl false) S3 _ _ q3' n13 s3 rfl
  | _ => exact False.elim q3

/-! ### and, or, not, if -/
variable {ta tb tc : WT} {rest : List Expr}
def wAnd (t u : WT) : WT := fun sd S Q => t sd S fun k S1 => if k = true then u sd S1 Q else Q false S1
def wOr (t u : WT) : WT := fun sd S Q => t sd S fun k S1 => if k = true then Q true S1 else u sd S1 Q
def wNot (t : WT) : WT := fun sd S Q => t sd S fun k S1 => Q (!k) S1
theorem dw_and1 (ha : DT X a ta) : DW X (.BoolOp .And [a] pos) ta := pw_and1 ha
theorem dw_or1 (ha : DT X a ta) : DW X (.BoolOp .Or [a] pos) ta := pw_or1 ha
theorem dw_and (ha : DT X a ta) (hb : DW X (.BoolOp .And (b :: rest) pos) tb) : DW X (.BoolOp .And (a :: b :: rest) pos) (wAnd ta tb) := by
  refine pw_imp (pw_and ha hb) fun σ H Q ⟨sd, S, Q0, st, q, an⟩ => ⟨sd, S, _, st, q, fun k S1 H1 q1 n1 s1 => ?_⟩
  cases k with
  | true => exact ⟨sd, S1, Q0, st.nx n1 s1, q1, an.nx n1⟩
  | false => exact an _ _ _ q1 n1 s1
theorem dw_or (ha : DT X a ta) (hb : DW X (.BoolOp .Or (b :: rest) pos) tb) : DW X (.BoolOp .Or (a :: b :: rest) pos) (wOr ta tb) := by
  refine pw_imp (pw_or ha hb) fun σ H Q ⟨sd, S, Q0, st, q, an⟩ => ⟨sd, S, _, st, q, fun k S1 H1 q1 n1 s1 => ?_⟩
  cases k with
  | true => exact an _ _ _ q1 n1 s1
  | false => exact ⟨sd, S1, Q0, st.nx n1 s1, q1, an.nx n1⟩
theorem dw_pt (h : DW X a ta) : DT X a ta := PW.pt h
theorem dt_not (ha : DT X a ta) : DT X (.UnaryOp .Not a pos) (wNot ta) :=
  pt_imp (pt_not ha) fun σ H Q ⟨sd, S, Q0, st, q, an⟩ => ⟨sd, S, _, st, q, fun k S1 H1 q1 n1 s1 => an _ _ _ q1 n1 s1⟩
/-- as values, all but the last truths -/
def wAndV (wa wb : WE) : WE := fun sd S Q => wa sd S (isB fun k S1 => if k = true then wb sd S1 Q else Q (.bl false) S1)
def wOrV (wa wb : WE) : WE := fun sd S Q => wa sd S (isB fun k S1 => if k = true then Q (.bl true) S1 else wb sd S1 Q)
def wNotV (wa : WE) : WE := fun sd S Q => wa sd S (isB fun k S1 => Q (.bl (!k)) S1)
theorem de_one {op} {w : WE} (h : DE X a w) : DE X (.BoolOp op [a] pos) w := pe_one h
theorem de_and (ha : DE X a wa) (hb : DE X (.BoolOp .And (b :: rest) pos) wb) : DE X (.BoolOp .And (a :: b :: rest) pos) (wAndV wa wb) := by
  refine pe_imp (pe_and ha hb) fun σ H Q ⟨sd, S, Q0, st, q, an⟩ => ⟨sd, S, _, st, q, fun d S1 v H1 q1 n1 s1 r1 => ?_⟩
  have q1 := q1.ex
  cases d with
  | bl k =>
    have e : v = .bl k := r1
    refine ⟨k, e, ?_⟩
    cases k with
    | true => exact ⟨sd, S1, Q0, st.nx n1 s1, q1, an.nx n1⟩
    | false => exact an _ _ _ _ q1 n1 s1 rfl
  | _ => exact False.elim q1
theorem de_or (ha : DE X a wa) (hb : DE X (.BoolOp .Or (b :: rest) pos) wb) : DE X (.BoolOp .Or (a :: b :: rest) pos) (wOrV wa wb) := by
  refine pe_imp (pe_or ha hb) fun σ H Q ⟨sd, S, Q0, st, q, an⟩ => ⟨sd, S, _, st, q, fun d S1 v H1 q1 n1 s1 r1 => ?_⟩
  have q1 := q1.ex
  cases d with
  | bl k =>
    have e : v = .bl k := r1
    refine ⟨k, e, ?_⟩
    cases k with
    | true => exact an _ _ _ _ q1 n1 s1 rfl
    | false => exact ⟨sd, S1, Q0, st.nx n1 s1, q1, an.nx n1⟩
  | _ => exact False.elim q1
theorem de_not (ha : DE X a wa) : DE X (.UnaryOp .Not a pos) (wNotV wa) := by
  refine pe_imp (pe_not ha) fun σ H Q ⟨sd, S, Q0, st, q, an⟩ => ⟨sd, S, _, st, q, fun d S1 v H1 q1 n1 s1 r1 => ?_⟩
  have q1 := q1.ex
  cases d with
  | bl k =>
    have e : v = .bl k := r1
    exact ⟨k, e, an _ _ _ _ q1 n1 s1 rfl⟩
  | _ => exact False.elim q1
def wIf (t : WT) (wa wb : WE) : WE := fun sd S Q => t sd S fun k S1 => if k = true then wa sd S1 Q else wb sd S1 Q
theorem de_if {c : Expr} (hc : DT X c tc) (ha : DE X a wa) (hb : DE X b wb) : DE X (.IfExp c a b pos) (wIf tc wa wb) := by
  refine pe_imp (pe_ifExp hc ha hb) fun σ H Q ⟨sd, S, Q0, st, q, an⟩ => ⟨sd, S, _, st, q, fun k S1 H1 q1 n1 s1 => ?_⟩
  cases k with
  | true => exact ⟨sd, S1, Q0, st.nx n1 s1, q1, an.nx n1⟩
  | false => exact ⟨sd, S1, Q0, st.nx n1 s1, q1, an.nx n1⟩

/-! ### arguments, displays, calls of built-ins by their names -/
def wNil : WA := fun _ S Q => Q [] S
def wCons (w : WE) (r : WA) : WA := fun sd S Q => w sd S fun x S1 => r sd S1 fun xs S2 => Q (x :: xs) S2
theorem da_nil : DA X [] wNil := pa_imp pa_nil fun σ H Q ⟨sd, S, Q0, st, q, an⟩ => an _ _ _ _ q (Nx.refl _ _) st.s rfl
theorem da_cons {e : Expr} {es : List Expr} {w : WE} {r : WA} (he : DE X e w) (hr : DA X es r) (hs : starEach (e :: es) X.env = (false, eval e X.env) :: starEach es X.env := by rfl) : DA X (e :: es) (wCons w r) :=
  pa_imp (pa_cons he hr hs) fun σ H Q ⟨sd, S, Q0, st, q, an⟩ => ⟨sd, S, _, st, q, fun x S1 v H1 q1 n1 s1 r1 => ⟨sd, S1, _, st.nx n1 s1, q1, fun xs S2 vs H2 q2 n2 s2 r2 => an _ _ _ _ q2 (n1.trans n2) s2 ⟨v, vs, rfl, Rel.nx n2 _ _ r1, r2⟩⟩⟩
def wTup (t : WA) : WE := fun sd S Q => t sd S fun xs S1 => xs.length ≤ 1000000 ∧ Q (.tup xs) S1
/-- a new list that nobody changes; one that may change -/
def wLst (t : WA) : WE := fun sd S Q => t sd S fun xs S1 => xs.length ≤ 1000000 ∧ Q (.lst xs) S1
def wNew (t : WA) : WE := fun sd S Q => t sd S fun xs S1 => xs.length ≤ 1000000 ∧ ∀ p, S1 p = none → Q (.obj p) (S1.set p (.lst xs))
theorem le_line {n : Nat} (h : n ≤ 1000000) : n ≤ sizeLine := Nat.le_trans h (by rw [sizeLine_eq]; decide)
variable {es : List Expr} {t : WA}
theorem de_tup {x1} (h : DA X es t) : DE X (.Tuple es x1 pos) (wTup t) :=
  pe_imp (pe_tup h) fun σ H Q ⟨sd, S, Q0, st, q, an⟩ => ⟨sd, S, _, st, q, fun xs S1 vs H1 q1 n1 s1 r1 => ⟨by rw [← r1.length]; exact le_line q1.1, fun p hp =>
    an _ _ _ _ q1.2 (n1.trans (nx_new hp)) (s1.new hp) ⟨p, vs, rfl, ⟨s1.free hp, upd_same⟩, r1.nx (nx_new hp)⟩⟩⟩
theorem de_lst (h : DA X es t) : DE X (.List es pos) (wLst t) :=
  pe_imp (pe_lst h) fun σ H Q ⟨sd, S, Q0, st, q, an⟩ => ⟨sd, S, _, st, q, fun xs S1 vs H1 q1 n1 s1 r1 => ⟨by rw [← r1.length]; exact le_line q1.1, fun p hp =>
    an _ _ _ _ q1.2 (n1.trans (nx_new hp)) (s1.new hp) ⟨p, vs, rfl, s1.free hp, upd_same, r1.nx (nx_new hp)⟩⟩⟩
theorem de_new (h : DA X es t) : DE X (.List es pos) (wNew t) :=
  pe_imp (pe_lst h) fun σ H Q ⟨sd, S, Q0, st, q, an⟩ => ⟨sd, S, _, st, q, fun xs S1 vs H1 q1 n1 s1 r1 => ⟨by rw [← r1.length]; exact le_line q1.1, fun p hp => by
    have n2 : Nx S1 H1 (S1.set p (.lst xs)) (upd H1 p (.lst vs)) := nx_obj hp (s1.free hp)
    exact an _ _ _ _ (q1.2 p (s1.free hp)) (n1.trans n2) (srel_put s1 n2 ⟨vs, upd_same, r1.nx n2⟩) rfl⟩⟩
def wCall (w : WL) (t : WA) : WE := fun sd S Q => t sd S fun xs S1 => w xs S1 Q
theorem call_lift {w : WL} {σ : St} {H : Hp} {Q : VK} (h : lift X.K (wCall w t) σ H Q) : tCB (liftL X.K w) (liftA X.K t) σ H Q := by
  obtain ⟨sd, S, Q0, st, q, an⟩ := h
  exact ⟨sd, S, _, st, q, fun xs S1 vs H1 q1 n1 s1 r1 => ⟨xs, S1, Q0, s1, r1, q1, an.nx n1⟩⟩
theorem de_callB {x : Str} {p pos : Pos} {e : Expr} {es : List Expr} {t : WA} {id : String} {w : WL} (hc : DC X (.builtin id) w) (hg : Gl X x) (hm : X.mg x = none) (hv : bootBuiltins x = some (.builtin id)) (ha : DA X (e :: es) t) (hn : x ≠ "__name__" := by decide)
    (hdb : (x == ("__debug__" : Str)) = false := by decide) (he : starEach (e :: es) X.env = (false, eval e X.env) :: starEach es X.env := by rfl) (hpl : (backTo pos (starEach es X.env)).any (fun x => x.1) = false := by rfl) : DE X (.Call (.Name x p) (e :: es) [] pos) (wCall w t) := pe_imp (pe_callB hc hg hm hv ha hn hdb he hpl) fun σ H Q h => call_lift h
theorem de_callTy {x : Str} {p pos : Pos} {e : Expr} {es : List Expr} {t : WA} {T : String} {w : WL} (hc : DC X (.type T) w) (hg : Gl X x) (hm : X.mg x = none) (hv : bootBuiltins x = some (.type T)) (ha : DA X (e :: es) t) (hn : x ≠ "__name__" := by decide)
    (hdb : (x == ("__debug__" : Str)) = false := by decide) (he : starEach (e :: es) X.env = (false, eval e X.env) :: starEach es X.env := by rfl) (hpl : (backTo pos (starEach es X.env)).any (fun x => x.1) = false := by rfl) : DE X (.Call (.Name x p) (e :: es) [] pos) (wCall w t) := pe_imp (pe_callTy hc hg hm hv ha hn hdb he hpl) fun σ H Q h => call_lift h

/-! ### statements -/
variable {st : Stmt} {sts : List Stmt} {ws wt : WS} {we : WE} {e : Expr}
def wNext : WS := fun E sd S => E.nx sd S
def wSeq (a b : WS) : WS := fun E sd S => a { E with nx := b E } sd S
theorem dss_nil : DSs X [] wNext := pss_imp pss_nil fun E σ H ⟨sd, S, E0, st, q, an⟩ => an.nx _ _ _ _ q (Nx.refl _ _) st
theorem dss_cons (h1 : DS X st ws) (h2 : DSs X sts wt) : DSs X (st :: sts) (wSeq ws wt) :=
  pss_imp (pss_cons h1 h2) fun E σ H ⟨sd, S, E0, st, q, an⟩ => ⟨sd, S, _, st, q, ⟨fun sd1 S1 σ1 H1 q1 n1 st1 => ⟨sd1, S1, E0, st1, q1, an.go n1⟩, an.rt, an.bk, an.ct⟩⟩
theorem dss_one (h1 : DS X st ws) : DSs X [st] ws := pss_one h1
def wBreak : WS := fun E sd S => E.bk sd S
def wCont : WS := fun E sd S => E.ct sd S
def wDrop (we : WE) : WS := fun E sd S => we sd S fun _ S1 => E.nx sd S1
theorem ds_expr (he : DE X e we) (hs : swapsWith e none pos.line X.env = pure false := by rfl) : DS X (.Expr e pos) (wDrop we) :=
  ps_imp (ps_expr he hs) fun E σ H ⟨sd, S, E0, st, q, an⟩ => ⟨sd, S, _, st, q, fun d S1 v H1 q1 n1 s1 r1 => an.nx _ _ _ _ q1 n1 (st.nx n1 s1)⟩
def wRet (we : WE) : WS := fun E sd S => we sd S E.rt
theorem ds_ret (he : DE X e we) : DS X (.Return (some e) pos) (wRet we) :=
  ps_imp (ps_ret he) fun E σ H ⟨sd, S, E0, st, q, an⟩ => ⟨sd, S, _, st, q, an.rt⟩
def wRetN : WS := fun E _ S => E.rt .non S
def wIfS (c : WT) (a b : WS) : WS := fun E sd S => c sd S fun k S1 => if k = true then a E sd S1 else b E sd S1
theorem ds_if {c : Expr} {a b : List Stmt} {tc : WT} (hc : DT X c tc) (ha : DSs X a ws) (hb : DSs X b wt) : DS X (.If c a b pos) (wIfS tc ws wt) := by
  refine ps_imp (ps_if hc ha hb) fun E σ H ⟨sd, S, E0, st, q, an⟩ => ⟨sd, S, _, st, q, fun k S1 H1 q1 n1 s1 => ?_⟩
  cases k with
  | true => exact ⟨sd, S1, E0, st.nx n1 s1, q1, an.go n1⟩
  | false => exact ⟨sd, S1, E0, st.nx n1 s1, q1, an.go n1⟩
def wNever : WS := fun _ _ _ => False
theorem ds_never : DS X st wNever := ps_imp ps_never fun E σ H ⟨sd, S, E0, st, q, an⟩ => q.elim

/-! ### targets -/
def gV (i : Nat) : WG := fun d sd S Q => Q (sd.set i (some d)) S
theorem dg_v {i : Nat} {x : Str} {pos : Pos} (hN : X.N.Nodup) (hi : X.N[i]? = some x := by rfl) (hx : Loc X.env.scope x := by first | exact Or.inl rfl | exact Or.inr rfl) (hf : X.fn x = true ∨ X.env.scope.names.lookup x = some .local := by first | exact .inl rfl | exact .inr rfl | assumption) : DG X (.Name x pos) (gV i) :=
  pg_imp (pg_name hN hi hx hf) fun v σ H Q ⟨d, sd, S, Q0, st, r, q, an⟩ => an _ _ _ _ q (Nx.refl _ _) (st.set i r)
def gN : WGs := fun ds sd S Q => ds = [] ∧ Q sd S
def gC (g : WG) (r : WGs) : WGs := fun ds sd S Q => match ds with
  | [] => False
  | d :: ds => g d sd S fun sd1 S1 => r ds sd1 S1 Q
theorem dgs_nil : DGs X [] gN := pgs_imp pgs_nil fun v σ H Q ⟨d, sd, S, Q0, st, r, q, an⟩ => by
  obtain ⟨rfl, q⟩ := q
  exact ⟨r, an _ _ _ _ q (Nx.refl _ _) st⟩
theorem dgs_cons {e : Expr} {es : List Expr} {g : WG} {r : WGs} (h1 : DG X e g) (h2 : DGs X es r) (hs : (assignEach (e :: es) X.env).map (·.2) = assign e X.env :: (assignEach es X.env).map (·.2) := by rfl) : DGs X (e :: es) (gC g r) :=
  pgs_imp (pgs_cons h1 h2 hs) fun v σ H Q ⟨d, sd, S, Q0, st, rr, q, an⟩ => by
    cases d with
    | nil => exact False.elim q
    | cons d ds =>
      obtain ⟨v1, vr, e1, r1, r2⟩ := rr
      exact ⟨v1, vr, e1, d, sd, S, _, st, r1, q, fun sd1 S1 σ1 H1 q1 n1 st1 => ⟨ds, sd1, S1, Q0, st1, r2.nx n1, q1, an.nx n1⟩⟩
/-- (a, b, ..) = a tuple -/
def gT (n : Nat) (r : WGs) : WG := fun d sd S Q => match d with
  | .tup xs => xs.length = n ∧ r xs sd S Q
  | _ => False
theorem dg_tup {es : List Expr} {k : Nat} {r : WGs} {n : Nat} (hc : X.calm = true) (h : DGs X es r) (hn : (assignEach es X.env).length = n := by rfl) (hst : (assignEach es X.env).findIdx? (·.1) = none := by rfl) : DG X (.Tuple es k pos) (gT n r) :=
  pg_imp (pg_tup hc h hn hst) fun v σ H Q ⟨d, sd, S, Q0, st, rr, q, an⟩ => by
    cases d with
    | tup xs =>
      obtain ⟨hl, q⟩ := q
      obtain ⟨a, vs, e, t, r⟩ := rr
      exact ⟨a, vs, e, t.sq, by rw [← r.length]; exact hl, xs, sd, S, Q0, st, r, q, an⟩
    | _ => exact False.elim q
def wAsg (we : WE) (g : WG) : WS := fun E sd S => we sd S fun d S1 => g d sd S1 E.nx
theorem asg_lift {g : WG} {E : Ends} {σ : St} {H : Hp} (h : liftS X.K (wAsg we g) E σ H) : tAsg (lift X.K we) (liftG X.K g) E σ H := by
  obtain ⟨sd, S, E0, st, q, an⟩ := h
  exact ⟨sd, S, _, st, q, fun d S1 v H1 q1 n1 s1 r1 => ⟨d, sd, S1, _, st.nx n1 s1, r1, q1, an.nx.nx n1⟩⟩
theorem ds_asg {tg e : Expr} {g : WG} (he : DE X e we) (hg : DG X tg g) (hs : swapsWithSole [tg] e pos.line X.env = pure false := by rfl) (hw : swappedStores [tg] e X.env = pure none := by rfl) (h1 : (assignEach [tg] X.env).map (·.2) = [assign tg X.env] := by rfl) :
    DS X (.Assign [tg] e pos) (wAsg we g) := ps_imp (ps_asg he hg hs hw h1) fun E σ H h => asg_lift h
theorem ds_set {i : Nat} {x : Str} {e : Expr} {pos' : Pos} (hN : X.N.Nodup) (he : DE X e we) (hi : X.N[i]? = some x := by rfl) (hx : Loc X.env.scope x := by first | exact Or.inl rfl | exact Or.inr rfl) (hs : swapsWith e (some (.Name x pos')) pos.line X.env = pure false := by rfl)
    (hf : X.fn x = true ∨ X.env.scope.names.lookup x = some .local := by first | exact .inl rfl | exact .inr rfl | assumption) : DS X (.Assign [.Name x pos'] e pos) (wAsg we (gV i)) :=
  ps_imp (ps_set hN hi hx he hs hf) fun E σ H ⟨sd, S, E0, st, q, an⟩ => ⟨sd, S, _, st, q, fun d S1 v H1 q1 n1 s1 r1 => an.nx _ _ _ _ q1 n1 ((st.nx n1 s1).set i r1)⟩
end
end L2.DL

/-! DL3: defs: what they promise over data (no repr is being made around them), calls, methods, makings, attributes -/
namespace L2.DL
open PySem PySem.Spec PyProof.Rows

/-- HandS's FnOk where, besides, no guard stands around -/
structure FnG (P : Program) (w : World) (K : PySem.W.Frag) (mg : Str → Option Value) (base : Heap) (CX : CXT) (k : Nat) (f : Addr) (fd : FuncData) (ps : List Str) (sp : Sp) : Prop where
  len : ∀ vs H Q E, sp vs H Q E → vs.length = ps.length
  go : ∀ (A : Around) (outer : List Env) (s : Shared) (H : Hp) (args : Args) (us : List Value) (vs : List V) (Q : VK) (E : XK), Room k A → A.guards = some [] → Env0 P w K mg base A outer s H →
    BindsTo s fd args (ps.zip us) → Vals vs us → sp vs H Q E → codeAny (model P w) A (.call (.ref f) args) (CR CX outer P w H s Q E) s
section
variable {P : Program} {w : World} {K : PySem.W.Frag} {mg : Str → Option Value} {base : Heap} {CX : CXT} {k j : Nat} {f : Addr} {fd : FuncData} {ps : List Str} {sp sp' : Sp}
theorem FnG.of (F : FnOk P w K mg base CX k f fd ps sp) : FnG P w K mg base CX k f fd ps sp := ⟨F.len, fun A outer s H args us vs Q E hr _ e b r h => F.run A outer s H args us vs Q E hr e b r h⟩
theorem FnG.up (F : FnG P w K mg base CX j f fd ps sp) (h : j ≤ k) : FnG P w K mg base CX k f fd ps sp := ⟨F.len, fun A outer s H args us vs Q E hr hg e b r q => F.go A outer s H args us vs Q E (hr.mono h) hg e b r q⟩
theorem FnG.imp (F : FnG P w K mg base CX k f fd ps sp) (h : ∀ vs H Q E, sp' vs H Q E → sp vs H Q E) : FnG P w K mg base CX k f fd ps sp' :=
  ⟨fun vs H Q E q => F.len vs H Q E (h _ _ _ _ q), fun A outer s H args us vs Q E hr hg e b r q => F.go A outer s H args us vs Q E hr hg e b r (h _ _ _ _ q)⟩
/-- a def's object as the written part holds it -/
def FnAt (K : PySem.W.Frag) (qual : Str) (st : Stmt) (f : Addr) (fd : FuncData) : Prop := ∃ (x : Str) (oc : Value) (od : Option Addr) (dV kV doc pm : Value) (an : Option Addr) (cdv ct : Value) (osl : Array (Option Value)),
  fd = PySem.W.fnOf x qual (defArgs st) (defBody st) (defScope st) dV kV doc pm an cdv ct ∧ K.lookup f = some ⟨oc, od, .func fd, osl⟩ ∧ PySem.W.codeIn K cdv qual = true
theorem fun_at {x qual : Str} {st : Stmt} (F : Fun K x qual st f fd) : FnAt K qual st f fd := let ⟨oc, od, kV, doc, pm, an, cdv, ct, osl, h⟩ := F.ex; ⟨x, oc, od, _, kV, doc, pm, an, cdv, ct, osl, h⟩
theorem funD_at {x qual : Str} {st : Stmt} {dvs : List V} {kws : List (Str × V)} (F : FunD K x qual (defArgs st) (defBody st) (defScope st) dvs kws f fd) : FnAt K qual st f fd := let ⟨oc, od, dV, kV, doc, pm, an, cdv, ct, osl, h1, h2, h3, _⟩ := F.ex; ⟨x, oc, od, dV, kV, doc, pm, an, cdv, ct, osl, h1, h2, h3⟩
/-- a def keeps its promise if its body does -/
theorem fnG_body {qual : Str} {st : Stmt} {N : List Str} (F : FnAt K qual st f fd) (S : FnScope N ps (defScope st)) (len : ∀ vs H Q E, sp vs H Q E → vs.length = ps.length)
    (body : ∀ (cdv : Value) (A : Around) (outer : List Env) (s : Shared) (H : Hp) (vs : List V) (Q : VK) (E : XK), Room k (A.deeper (envOfC qual (defScope st) s.heap.objs.size f cdv)) → (A.deeper (envOfC qual (defScope st) s.heap.objs.size f cdv)).guards = some [] → sp vs H Q E →
      ∃ t, PSs (cxOf CX P w K mg base N qual (defScope st) f cdv A outer s H E) (defBody st) t ∧ t { nx := fun _ H' => Q .non H', rt := Q } (start N vs) H) : FnG P w K mg base CX (k + 1) f fd ps sp := by
  obtain ⟨x, oc, od, dV, kV, doc, pm, an, cdv, ct, osl, rfl, lk, hcd⟩ := F
  refine ⟨len, fun A outer s H args us vs Q E hr hg e0 hb r hsp => ?_⟩
  have keepB : ∀ b o, base.get? b = some o → s.heap.get? b = some o := fun b o e => (e0.bs b o e).1
  have kinds : ∀ y ∈ ps.zip us, (defScope st).names.lookup y.1 = some .local ∨ ((defScope st).names.lookup y.1 = some .cell ∧ ((cellsFrom (s.heap.objs.size + 1) (defScope st).names []).lookup y.1).isSome = true) := by
    rintro ⟨n, v⟩ hy
    exact (S.par n (List.of_mem_zip hy).1).imp id fun q => ⟨q, PySem.W.cellsFrom_some _ _ _ (.inl q)⟩
  refine codeAny_call_function hr.depth (e0.mod.kin.keeps keepB _ _ lk) rfl S.co S.gen rfl (PySem.W.codeRec_of (e0.mod.kin.keeps keepB) hcd) (hb _ _ _ _ (wpAny_newFunctionEnv_cells S.kind kinds fun env he s1 x => ?_))
  subst he
  refine ⟨(e0.mod.nolimit.keeps keepB).keeps x.toInCall.keep, codeAny_func ?_⟩
  obtain ⟨t, ht, hq⟩ := body cdv A outer s H vs Q E (hr.deeper _) hg hsp
  have I := inv_start (CX := CX) (E := E) S hr.hd e0 (len _ _ _ _ hsp) r x
  refine wpAny_mono (ht.run [] s1 _ H _ I hq) (fun fl s' hs => ?_) fun _ _ hs => hs
  cases fl with
  | ret u => exact let ⟨v, _, H', J, rv, q⟩ := hs; ⟨v, H', J.os, J.bare, J.base, J.hok, rv, q⟩
  | next => exact let ⟨_, H', J, q⟩ := hs; ⟨.non, H', J.os, J.bare, J.base, J.hok, rfl, q⟩
  | brk => exact let ⟨_, _, _, q⟩ := hs; q.elim
  | cont => exact let ⟨_, _, _, q⟩ := hs; q.elim
end
section
variable {X : Cx} {CX : CXT} {k : Nat} {f C : Addr} {fd : FuncData} {ps ks : List Str} {sp : Sp} {dvs : List V} {ds : List Value} {E : XK} {x m : Str} {p pos apos : Pos} {e o : Expr} {es : List Expr} {kws : List Keyword} {ta : TE} {t tk : TA}
theorem CE.call {pins : List (Addr × Obj)} {σ : St} {H : Hp} {s s' : Shared} {Q : VK} {r : Result} (I : Inv X pins σ H s) (hx : Passes CX X E) (h : CR CX X.stack X.prog X.w H s Q E r s') :
    match r with
    | .ok (.ret u) => EP X pins σ Q u s'
    | .ok _ => False
    | .error er => X.xe er s' := by
  cases r with
  | error er => exact hx pins σ H s er s' I h
  | ok fl =>
    cases fl with
    | ret u => exact I.after h
    | next => exact h
    | brk => exact h
    | cont => exact h
theorem runG {pins : List (Addr × Obj)} {σ : St} {H : Hp} {s : Shared} {Q : VK} {args : Args} {us : List Value} {vs : List V} (F : FnG X.prog X.w X.K X.mg X.base CX k f fd ps sp) (hr : Room k X.A) (gd : X.A.guards = some []) (hx : Passes CX X E)
    (I : Inv X pins σ H s) (hb : BindsTo s fd args (ps.zip us)) (r : Vals vs us) (h : sp vs H Q E) : wpAny (model X.prog X.w) X.A (call (.ref f) args.pos args.kw) (EP X pins σ Q) X.xe s := by
  refine wpAny_call (codeAny_mono (F.go X.A X.stack s H args us vs Q E hr gd I.env0 hb r h) fun rs s' hq => ?_)
  have z := CE.call I hx hq
  cases rs with
  | error er => exact z
  | ok fl =>
    cases fl with
    | ret u => exact z
    | next => exact z.elim
    | brk => exact z.elim
    | cont => exact z.elim
theorem runB {pins : List (Addr × Obj)} {σ : St} {H : Hp} {s : Shared} {Q : VK} {us : List Value} {vs : List V} (F : FnG X.prog X.w X.K X.mg X.base CX k f fd ps sp) (hr : Room k X.A) (gd : X.A.guards = some []) (hb : Binds X.K fd ps ds) (hd : Vals dvs ds) (hx : Passes CX X E)
    (I : Inv X pins σ H s) (r : Vals vs us) (h : sp (vs ++ dvs) H Q E) : wpAny (model X.prog X.w) X.A (call (.ref f) us) (EP X pins σ Q) X.xe s := by
  have r2 := r.append hd
  exact runG (args := ⟨us, []⟩) F hr gd hx I (hb s us I.kIn (by rw [← r2.length]; exact F.len _ _ _ _ h)) r2 h
theorem peG_call (F : FnG X.prog X.w X.K X.mg X.base CX k f fd ps sp) (hr : Room k X.A) (gd : X.A.guards = some []) (hg : Gl X x) (hm : X.mg x = some (.ref f)) (hk : PySem.W.keepIn X.K (.ref f) = true) (hb : Binds X.K fd ps ds) (hd : Vals dvs ds) (hx : Passes CX X E)
    (ha : PA X (e :: es) t) (hdb : (x == ("__debug__" : Str)) = false := by decide) (he : starEach (e :: es) X.env = (false, eval e X.env) :: starEach es X.env := by rfl) (hpl : (backTo pos (starEach es X.env)).any (·.1) = false := by rfl) :
    PE X (.Call (.Name x p) (e :: es) [] pos) (tCall sp dvs E t) :=
  ⟨fun pins s σ H Q I h => wpAny_Call_Name_kw (ld_glob I hg hm (PySem.W.callWith_K (h₀ := X.base) I.ok.mod.kin hk (thn (ha.run pos pins s σ H _ I h) fun us s1 ⟨vs, H1, I1, r, q⟩ => ⟨I1.kIn, runB F hr gd hb hd hx I1 r q⟩) he hpl) hdb)⟩
/-- a method of an instance -/
abbrev MethTree (X : Cx) (o : Expr) (m : Str) (apos pos : Pos) (pl : Sem Bool) (es : List Expr) : Prop := eval (.Call (.Attribute o m apos) es [] pos) X.env = (do
      let ov ← eval o X.env
      standAt apos.atName
      let (f, first) ← holding [ov] (getMethod ov m pl)
      callWith pos f first (backTo pos (starEach es X.env)) (backToKw pos (keywordEach [] X.env)))
theorem peG_meth {pl : Sem Bool} (he : PE X o ta) (c : Cls X.K C) (hm : Meth X.K C m f) (F : FnG X.prog X.w X.K X.mg X.base CX k f fd ps sp) (hr : Room k X.A) (gd : X.A.guards = some []) (hb : Binds X.K fd ps ds) (hd : Vals dvs ds) (hx : Passes CX X E) (ha : PA X (e :: es) t)
    (hst : starEach (e :: es) X.env = (false, eval e X.env) :: starEach es X.env := by rfl) (hpl : (backTo pos (starEach es X.env)).any (·.1) = false := by rfl) (ht : MethTree X o m apos pos pl (e :: es) := by rfl) :
    PE X (.Call (.Attribute o m apos) (e :: es) [] pos) (tMeth C m sp dvs E ta t) := by
  refine ⟨fun pins s σ H Q I h => PySem.W.methodCall_KW (pl := pl) (thn (he.run pins s σ H _ I h) fun u s1 ⟨x, H1, I1, rx, a, dx, fs, ex, ea, l, q⟩ => ?_) ht⟩
  subst ex
  cases rx
  refine getmeth_ok I1 ea c hm l (PySem.W.callWith_K (first := [.ref a]) (h₀ := X.base) I.ok.mod.kin hm.kp (thn (ha.run pos pins s1 σ H1 _ I1 q) fun us s2 ⟨vs, H2, I2, r, q2⟩ => ⟨I2.kIn, ?_⟩) hst hpl)
  exact runB (us := .ref a :: us) (vs := .ref a :: vs) F hr gd hb hd hx I2 (.cons rfl r) q2
/-- C(..) -/
theorem make_guards {A : Around} {us : List Value} {kw : List (Str × Value)} : (A.under (.builtin "type.__call__" ⟨.ref C :: us, kw⟩)).guards = A.guards := by
  first
    | rfl
    | simp [Around.under, Code.guards, Code.isGuard, guardIds, pushGuards]
theorem runMk {pins : List (Addr × Obj)} {σ : St} {H : Hp} {s : Shared} {Q : VK} {args : Args} {us : List Value} {vs : List V} (M : Mk X.K C f) (F : FnG X.prog X.w X.K X.mg X.base CX k f fd ps sp) (hr : Room (k + 1) X.A) (gd : X.A.guards = some []) (hx : Passes CX X E)
    (I : Inv X pins σ H s) (hb : ∀ (s' : Shared) (x : Value), X.K.In s'.heap → (x :: us).length = ps.length → BindsTo s' fd ⟨x :: args.pos, args.kw⟩ (ps.zip (x :: us))) (r : Vals vs us)
    (h : ∀ x dx, H x = none → H dx = none → dx ≠ x → sp (.ref x :: vs) (upd (upd H dx (.own x)) x (.ins C dx [])) (fun v H2 => v = .non ∧ Q (.ref x) H2) E) : wpAny (model X.prog X.w) X.A (call (.ref C) args.pos args.kw) (EP X pins σ Q) X.xe s := by
  have hq := h (s.heap.objs.size + 1) s.heap.objs.size (I.hok.fresh (Nat.le_succ _)) (I.hok.fresh (Nat.le_refl _)) (Nat.ne_of_lt (Nat.lt_succ_self _))
  have I2 := Inv.made (C := C) I
  have r2 : Vals (V.ref (s.heap.objs.size + 1) :: vs) (Value.ref (s.heap.objs.size + 1) :: us) := .cons rfl r
  refine wpAny_call (make_map (f := f) I.kIn M.makes M.init (beq_iff_eq.mp M.fn) (codeAny_mono (F.go _ X.stack _ _ ⟨Value.ref (s.heap.objs.size + 1) :: args.pos, args.kw⟩ (Value.ref (s.heap.objs.size + 1) :: us) _ _ E (hr.make C args.pos args.kw)
    (make_guards.trans gd) (I2.env0.make C args.pos args.kw) (hb _ _ I2.kIn (by rw [← r2.length]; exact F.len _ _ _ _ hq)) r2 hq) fun rs s' hq' => ?_))
  have z := CE.call I2 hx hq'
  cases rs with
  | error er => exact z
  | ok fl =>
    cases fl with
    | ret u =>
      obtain ⟨v, H', I3, rv, ev, q3⟩ := z
      subst ev
      exact ⟨rv, ⟨V.ref (s.heap.objs.size + 1), H', I3, rfl, q3⟩⟩
    | next => exact z.elim
    | brk => exact z.elim
    | cont => exact z.elim
theorem peG_make (M : Mk X.K C f) (F : FnG X.prog X.w X.K X.mg X.base CX k f fd ps sp) (hr : Room (k + 1) X.A) (gd : X.A.guards = some []) (hg : Gl X x) (hm : X.mg x = some (.ref C)) (hb : Binds X.K fd ps ds) (hd : Vals dvs ds) (hx : Passes CX X E)
    (ha : PA X (e :: es) t) (hdb : (x == ("__debug__" : Str)) = false := by decide) (he : starEach (e :: es) X.env = (false, eval e X.env) :: starEach es X.env := by rfl) (hpl : (backTo pos (starEach es X.env)).any (·.1) = false := by rfl) :
    PE X (.Call (.Name x p) (e :: es) [] pos) (tMake C sp dvs E t) := by
  refine ⟨fun pins s σ H Q I h => wpAny_Call_Name_kw (ld_glob I hg hm (PySem.W.callWith_K (h₀ := X.base) I.ok.mod.kin M.kp (thn (ha.run pos pins s σ H _ I h) fun us s1 ⟨vs, H1, I1, r, q⟩ => ⟨I1.kIn, ?_⟩) he hpl) hdb)⟩
  exact runMk (args := ⟨us, []⟩) (us := us ++ ds) M F hr gd hx I1 (fun s' x kx hl => hb s' (x :: us) kx hl) (r.append hd) q
/-! ### .. over data -/
/-- a promise over data: the arguments, the objects, what is wanted of the answer, what is wanted of an error (its class, its attributes) -/
abbrev EK := Str → List (Str × D) → SO → Prop
abbrev DSp := List D → SO → KD → EK → Prop
def AnsX (K : PySem.W.Frag) (S : SO) (H : Hp) (E0 : EK) (E : XK) : Prop := ∀ n fs S' H' C d, E0 n fs S' → Nx S H S' H' → SRel K S' H' → PySem.W.nsIn K mainGlobals n = some (some (.ref C)) → ErrF K S' H' d fs → E (.ref C) d H'
def liftSp (K : PySem.W.Frag) (sp : DSp) : Sp := fun vs H Q E => ∃ ds S Q0 E0, SRel K S H ∧ Rels K S H ds vs ∧ sp ds S Q0 E0 ∧ Ans K S H Q0 Q ∧ AnsX K S H E0 E
abbrev NoE : EK := fun _ _ _ => False
theorem noE_ans {K : PySem.W.Frag} {S : SO} {H : Hp} {E : XK} : AnsX K S H NoE E := fun _ _ _ _ _ _ h => h.elim
abbrev FnD (P : Program) (w : World) (K : PySem.W.Frag) (mg : Str → Option Value) (base : Heap) (k : Nat) (f : Addr) (fd : FuncData) (ps : List Str) (sp : DSp) : Prop := FnG P w K mg base CX0 k f fd ps (liftSp K sp)

variable {dsp : DSp} {dds : List D} {wt wk : WA} {wo : WE}
/-- f(..); the defaults dds -/
def wFn (sp : DSp) (dds : List D) (t : WA) : WE := fun sd S Q => t sd S fun xs S1 => sp (xs ++ dds) S1 Q NoE
/-- the defaults: values that hang on no heap -/
def Lits (dds : List D) (dvs : List V) : Prop := ∀ K S H, Rels K S H dds dvs
theorem lits_nil : Lits [] [] := fun _ _ _ => rfl
theorem de_fn (F : FnD X.prog X.w X.K X.mg X.base k f fd ps dsp) (hr : Room k X.A) (gd : X.A.guards = some []) (hm : X.mg x = some (.ref f)) (hk : PySem.W.keepIn X.K (.ref f) = true) (hb : Binds X.K fd ps ds) (hd : Vals dvs ds) (hl : Lits dds dvs) (ha : DA X (e :: es) wt)
    (hg : Gl X x := by rfl) (hdb : (x == ("__debug__" : Str)) = false := by decide) (he : starEach (e :: es) X.env = (false, eval e X.env) :: starEach es X.env := by rfl) (hpl : (backTo pos (starEach es X.env)).any (·.1) = false := by rfl) :
    DE X (.Call (.Name x p) (e :: es) [] pos) (wFn dsp dds wt) :=
  pe_imp (peG_call F hr gd hg hm hk hb hd (E := E0) pass0 ha hdb he hpl) fun σ H Q ⟨sd, S, Q0, st, q, an⟩ => ⟨sd, S, _, st, q, fun xs S1 vs H1 q1 n1 s1 r1 => ⟨xs ++ dds, S1, Q0, NoE, s1, r1.app (hl _ _ _), q1, an.nx n1, noE_ans⟩⟩
/-- f(k = v, ..): gD puts the values in the parameters' order -/
abbrev DK (X : Cx) (kws : List Keyword) (w : WA) : Prop := PK X kws (liftA X.K w)
theorem dk_nil : DK X [] wNil := ⟨fun pos pins s σ H Q I ⟨sd, S, Q0, st, q, an⟩ => pk_nil.run pos pins s σ H Q I (an _ _ _ _ q (Nx.refl _ _) st.s rfl)⟩
theorem dk_cons {nm : Option Str} {kpos : Pos} {w : WE} (he : DE X e w) (hr : DK X kws wk) : DK X (⟨nm, e, kpos⟩ :: kws) (wCons w wk) :=
  ⟨fun pos pins s σ H Q I ⟨sd, S, Q0, st, q, an⟩ => (pk_cons he hr).run pos pins s σ H Q I ⟨sd, S, _, st, q, fun x S1 v H1 q1 n1 s1 r1 => ⟨sd, S1, _, st.nx n1 s1, q1, fun xs S2 vs H2 q2 n2 s2 r2 => an _ _ _ _ q2 (n1.trans n2) s2 ⟨v, vs, rfl, Rel.nx n2 _ _ r1, r2⟩⟩⟩⟩
def GD (gD : List D → List D → List D) (gV : List V → List V → List V) : Prop := ∀ K S H ds vs es us, Rels K S H ds vs → Rels K S H es us → Rels K S H (gD ds es) (gV vs us)
/-- the instance d of the class at C, of these attributes -/
def InsD (C : Addr) (d : D) (S : SO) (fs : List (Str × D)) : Prop := match d with
  | .ins C' gs => C' = C ∧ gs = fs
  | .obj a => S a = some (.ins C fs)
  | _ => False
theorem InsD.at {K : PySem.W.Frag} {S : SO} {H : Hp} {d : D} {v : V} {fs : List (Str × D)} (h : InsD C d S fs) (s : SRel K S H) (r : Rel K S H d v) : ∃ a dx l, v = .ref a ∧ H a = some (.ins C dx l) ∧ RelF K S H fs l := by
  cases d with
  | ins C' gs =>
    obtain ⟨rfl, rfl⟩ := h
    obtain ⟨a, dx, l, e, _, hl, rf⟩ := r
    exact ⟨a, dx, l, e, hl, rf⟩
  | obj a =>
    obtain ⟨dx, l, hl, rf⟩ := s a _ h
    exact ⟨a, dx, l, r, hl, rf⟩
  | _ => exact False.elim h
/-- o.m(..) -/
def wMeth (C : Addr) (m : Str) (sp : DSp) (dds : List D) (wo : WE) (t : WA) : WE := fun sd S Q => wo sd S fun d S1 => (∃ fs, InsD C d S1 fs ∧ fs.lookup m = none) ∧ t sd S1 fun xs S2 => sp (d :: (xs ++ dds)) S2 Q NoE
theorem meth_lift {σ : St} {H : Hp} {Q : VK} (hl : Lits dds dvs) (h : lift X.K (wMeth C m dsp dds wo wt) σ H Q) : tMeth C m (liftSp X.K dsp) dvs E0 (lift X.K wo) (liftA X.K wt) σ H Q := by
  obtain ⟨sd, S, Q0, st, q, an⟩ := h
  refine ⟨sd, S, _, st, q, fun d S1 v H1 ⟨⟨fs, hi, hn⟩, q1⟩ n1 s1 r1 => ?_⟩
  obtain ⟨a, dx, l, e, hl', rf⟩ := hi.at s1 r1
  refine ⟨a, dx, l, e, hl', rf.look_none hn, sd, S1, _, st.nx n1 s1, q1, fun xs S2 vs H2 q2 n2 s2 r2 => ?_⟩
  exact ⟨d :: (xs ++ dds), S2, Q0, NoE, s2, ⟨v, _, rfl, Rel.nx n2 _ _ r1, r2.app (hl _ _ _)⟩, q2, an.nx (n1.trans n2), noE_ans⟩
theorem de_meth {pl : Sem Bool} (he : DE X o wo) (c : Cls X.K C) (hm : Meth X.K C m f) (F : FnD X.prog X.w X.K X.mg X.base k f fd ps dsp) (hr : Room k X.A) (gd : X.A.guards = some []) (hb : Binds X.K fd ps ds) (hd : Vals dvs ds) (hl : Lits dds dvs) (ha : DA X (e :: es) wt)
    (hst : starEach (e :: es) X.env = (false, eval e X.env) :: starEach es X.env := by rfl) (hpl : (backTo pos (starEach es X.env)).any (·.1) = false := by rfl) (ht : MethTree X o m apos pos pl (e :: es) := by rfl) :
    DE X (.Call (.Attribute o m apos) (e :: es) [] pos) (wMeth C m dsp dds wo wt) := pe_imp (peG_meth he c hm F hr gd hb hd (E := E0) pass0 ha hst hpl ht) fun σ H Q h => meth_lift hl h
/-- C(..): the new instance, an object that may change while __init__ runs; sp is __init__'s promise -/
def wMake (C : Addr) (sp : DSp) (dds : List D) (t : WA) : WE := fun sd S Q => t sd S fun xs S1 => ∀ p, S1 p = none → sp (.obj p :: (xs ++ dds)) (S1.set p (.ins C [])) (fun d S2 => d = .non ∧ Q (.obj p) S2) NoE
/-- .. frozen at the end -/
def wMakeF (C : Addr) (sp : DSp) (dds : List D) (t : WA) : WE := fun sd S Q => t sd S fun xs S1 => ∀ p, S1 p = none → sp (.obj p :: (xs ++ dds)) (S1.set p (.ins C [])) (fun d S2 => d = .non ∧ ∃ fs, S2 p = some (.ins C fs) ∧ Q (.ins C fs) (S2.del p)) NoE
theorem make_srel {K : PySem.W.Frag} {S : SO} {H : Hp} {x dx : Addr} (s : SRel K S H) (nx : H x = none) (nd : H dx = none) (ne : dx ≠ x) : Nx S H (S.set x (.ins C [])) (upd (upd H dx (.own x)) x (.ins C dx [])) ∧ SRel K (S.set x (.ins C [])) (upd (upd H dx (.own x)) x (.ins C dx [])) := by
  have n1 : Nx S H S (upd H dx (.own x)) := nx_new nd
  have s1 := s.new (o := .own x) nd
  have hx : upd H dx (.own x) x = none := by rw [upd_ne ne.symm]; exact nx
  have n2 : Nx S (upd H dx (.own x)) (S.set x (.ins C [])) (upd (upd H dx (.own x)) x (.ins C dx [])) := nx_obj hx (s1.free hx)
  exact ⟨n1.trans n2, srel_put s1 n2 ⟨dx, [], upd_same, rfl⟩⟩
theorem nx_del {S : SO} {H : Hp} (p : Addr) : Nx S H (S.del p) H := fun a u h1 h2 => ⟨by unfold SO.del; split; rfl; exact h1, h2⟩
theorem srel_del {K : PySem.W.Frag} {S : SO} {H : Hp} (s : SRel K S H) (p : Addr) : SRel K (S.del p) H := fun a u q => by
  have q' : S a = some u := by
    unfold SO.del at q
    split at q
    · cases q
    · exact q
  exact (s a u q').nx (nx_del p) rfl
theorem del_at {S : SO} {p : Addr} : (S.del p) p = none := if_pos rfl
/-- nobody changes it any more -/
theorem frz_ins {K : PySem.W.Frag} {S : SO} {H : Hp} {p : Addr} {fs : List (Str × D)} (s : SRel K S H) (h : S p = some (.ins C fs)) : Nx S H (S.del p) H ∧ SRel K (S.del p) H ∧ Rel K (S.del p) H (.ins C fs) (.ref p) := by
  obtain ⟨dx, l, hl, rf⟩ := s p _ h
  exact ⟨nx_del p, srel_del s p, p, dx, l, rfl, del_at, hl, RelF.nx (nx_del p) _ _ rf⟩
theorem frz_lst {K : PySem.W.Frag} {S : SO} {H : Hp} {p : Addr} {ds : List D} (s : SRel K S H) (h : S p = some (.lst ds)) : Nx S H (S.del p) H ∧ SRel K (S.del p) H ∧ Rel K (S.del p) H (.lst ds) (.ref p) := by
  obtain ⟨l, hl, rf⟩ := s p _ h
  exact ⟨nx_del p, srel_del s p, p, l, rfl, del_at, hl, rf.nx (nx_del p)⟩
theorem frz_dic {K : PySem.W.Frag} {S : SO} {H : Hp} {p : Addr} {t : Bool} {kvs : List (D × D)} (s : SRel K S H) (h : S p = some (.dic t kvs)) : Nx S H (S.del p) H ∧ SRel K (S.del p) H ∧ Rel K (S.del p) H (.dic t kvs) (.ref p) := by
  rcases s p _ h with ⟨l, ht, hl, rf⟩ | ⟨l, ht, hl, rf⟩
  · exact ⟨nx_del p, srel_del s p, p, rfl, del_at, .inl ⟨l, ht, hl, RelK.nx (nx_del p) _ _ rf⟩⟩
  · exact ⟨nx_del p, srel_del s p, p, rfl, del_at, .inr ⟨l, ht, hl, RelT.nx (nx_del p) _ _ rf⟩⟩
theorem de_make (M : Mk X.K C f) (F : FnD X.prog X.w X.K X.mg X.base k f fd ps dsp) (hr : Room (k + 1) X.A) (gd : X.A.guards = some []) (hm : X.mg x = some (.ref C)) (hb : Binds X.K fd ps ds) (hd : Vals dvs ds) (hl : Lits dds dvs) (ha : DA X (e :: es) wt) (hg : Gl X x := by rfl)
    (hdb : (x == ("__debug__" : Str)) = false := by decide) (he : starEach (e :: es) X.env = (false, eval e X.env) :: starEach es X.env := by rfl) (hpl : (backTo pos (starEach es X.env)).any (·.1) = false := by rfl) : DE X (.Call (.Name x p) (e :: es) [] pos) (wMake C dsp dds wt) :=
  pe_imp (peG_make M F hr gd hg hm hb hd (E := E0) pass0 ha hdb he hpl) fun σ H Q ⟨sd, S, Q0, st, q, an⟩ => ⟨sd, S, _, st, q, fun xs S1 vs H1 q1 n1 s1 r1 => fun y dx ny nd ne => by
    obtain ⟨n2, s2⟩ := make_srel (C := C) s1 ny nd ne
    refine ⟨.obj y :: (xs ++ dds), _, _, NoE, s2, ⟨.ref y, _, rfl, rfl, (r1.nx n2).app (hl _ _ _)⟩, q1 y (s1.free ny), fun d S3 v H3 ⟨e1, q3⟩ n3 s3 r3 => ?_, noE_ans⟩
    subst e1
    exact ⟨r3, an _ _ _ _ q3 (n1.trans (n2.trans n3)) s3 rfl⟩⟩
theorem de_makeF (M : Mk X.K C f) (F : FnD X.prog X.w X.K X.mg X.base k f fd ps dsp) (hr : Room (k + 1) X.A) (gd : X.A.guards = some []) (hm : X.mg x = some (.ref C)) (hb : Binds X.K fd ps ds) (hd : Vals dvs ds) (hl : Lits dds dvs) (ha : DA X (e :: es) wt) (hg : Gl X x := by rfl)
    (hdb : (x == ("__debug__" : Str)) = false := by decide) (he : starEach (e :: es) X.env = (false, eval e X.env) :: starEach es X.env := by rfl) (hpl : (backTo pos (starEach es X.env)).any (·.1) = false := by rfl) : DE X (.Call (.Name x p) (e :: es) [] pos) (wMakeF C dsp dds wt) :=
  pe_imp (peG_make M F hr gd hg hm hb hd (E := E0) pass0 ha hdb he hpl) fun σ H Q ⟨sd, S, Q0, st, q, an⟩ => ⟨sd, S, _, st, q, fun xs S1 vs H1 q1 n1 s1 r1 => fun y dx ny nd ne => by
    obtain ⟨n2, s2⟩ := make_srel (C := C) s1 ny nd ne
    refine ⟨.obj y :: (xs ++ dds), _, _, NoE, s2, ⟨.ref y, _, rfl, rfl, (r1.nx n2).app (hl _ _ _)⟩, q1 y (s1.free ny), fun d S3 v H3 ⟨e1, fs, hS, q3⟩ n3 s3 r3 => ?_, noE_ans⟩
    subst e1
    obtain ⟨n4, s4, r4⟩ := frz_ins s3 hS
    exact ⟨r3, an _ _ _ _ q3 (n1.trans (n2.trans (n3.trans n4))) s4 r4⟩⟩
/-- o.f, an attribute -/
def wFld (C : Addr) (g : Str) (wo : WE) : WE := fun sd S Q => wo sd S fun d S1 => ∃ fs v, InsD C d S1 fs ∧ fs.lookup g = some v ∧ Q v S1
theorem de_fld {g : Str} (c : Cls X.K C) (n : NoAttr X.K C g) (he : DE X o wo) (hb : attributeBase o g X.env (eval o X.env) = eval o X.env := by rfl) : DE X (.Attribute o g pos) (wFld C g wo) :=
  pe_imp (pe_fld he hb) fun σ H Q ⟨sd, S, Q0, st, q, an⟩ => ⟨sd, S, _, st, q, fun d S1 v H1 ⟨fs, u, hi, hl, q1⟩ n1 s1 r1 => by
    obtain ⟨a, dx, l, e, hH, rf⟩ := hi.at s1 r1
    obtain ⟨y, hy, ry⟩ := rf.look hl
    exact ⟨a, C, dx, l, y, e, hH, c, n, hy, an _ _ _ _ q1 n1 s1 ry⟩⟩
/-- o.p, a property that gives the attribute g -/
theorem de_prop {pn g : Str} {pa ga : Addr} {fdg : FuncData} {psg : List Str} {j : Nat} (c : Cls X.K C) (hp : PropOf X.K C pn pa ga) (F : FnOk X.prog X.w X.K X.mg X.base CX0 j ga fdg psg (getSp C g)) (hr : Room (j + 1) X.A) (hbi : Binds X.K fdg psg []) (he : DE X o wo)
    (hb : attributeBase o pn X.env (eval o X.env) = eval o X.env := by rfl) : DE X (.Attribute o pn pos) (wFld C g wo) :=
  pe_imp (pe_prop he c hp F hr hbi .nil (E := E0) pass0 hb) fun σ H Q ⟨sd, S, Q0, st, q, an⟩ => ⟨sd, S, _, st, q, fun d S1 v H1 ⟨fs, u, hi, hl, q1⟩ n1 s1 r1 => by
    obtain ⟨a, dx, l, e, hH, rf⟩ := hi.at s1 r1
    obtain ⟨y, hy, ry⟩ := rf.look hl
    exact ⟨a, dx, l, e, hH, a, dx, l, y, rfl, hH, hy, an _ _ _ _ q1 n1 s1 ry⟩⟩
/-- self.f = e -/
theorem RelF.put {K : PySem.W.Frag} {S : SO} {H : Hp} {d : D} {v : V} (r : Rel K S H d v) (g : Str) : ∀ {fs : List (Str × D)} {l : List (Str × V)}, RelF K S H fs l → RelF K S H (putD g d fs) (putF g v l)
  | [], _, h => by
    have e : _ = [] := h
    subst e
    exact ⟨v, [], rfl, r, rfl⟩
  | (y, d') :: fs, _, h => by
    obtain ⟨u, t, rfl, h1, h2⟩ := h
    unfold putD putF
    split
    · exact ⟨v, t, rfl, r, h2⟩
    · exact ⟨u, _, rfl, h1, h2.put r g⟩
theorem RelF.length {K : PySem.W.Frag} {S : SO} {H : Hp} : ∀ {fs : List (Str × D)} {l : List (Str × V)}, RelF K S H fs l → fs.length = l.length
  | [], _, h => by
    have e : _ = [] := h
    rw [e]
    rfl
  | (y, d') :: fs, _, h => by
    obtain ⟨u, t, rfl, h1, h2⟩ := h
    rw [List.length_cons, List.length_cons, h2.length]
def wSetF (C : Addr) (g : Str) (wo we : WE) : WS := fun E sd S => we sd S fun y S1 => wo sd S1 fun d S2 => ∃ a fs, d = .obj a ∧ S2 a = some (.ins C fs) ∧ fs.length < 1000 ∧ E.nx sd (S2.set a (.ins C (putD g y fs)))
theorem ds_setF {g : Str} {we : WE} {value : Expr} {pos' : Pos} (c : Cls X.K C) (n : NoAttr X.K C g) (ha : DE X o wo) (hv : DE X value we) (hs : swapsWith value (some (.Attribute o g pos')) pos.line X.env = pure false := by rfl) : DS X (.Assign [.Attribute o g pos'] value pos) (wSetF C g wo we) :=
  ps_imp (ps_fld ha hv hs) fun E σ H ⟨sd, S, E0, st, q, an⟩ => ⟨sd, S, _, st, q, fun y S1 v H1 q1 n1 s1 r1 => ⟨sd, S1, _, st.nx n1 s1, q1, fun d S2 u H2 ⟨a, fs, e, hS, hlt, q2⟩ n2 s2 r2 => by
    subst e
    obtain ⟨dx, l, hH, rf⟩ := s2 a _ hS
    refine ⟨a, C, dx, l, r2, hH, c, n, by rw [← rf.length]; exact hlt, ?_⟩
    have n3 : Nx S2 H2 (S2.set a (.ins C (putD g y fs))) (upd H2 a (.ins C dx (putF g v l))) := nx_put hS
    have s3 := srel_put s2 n3 ⟨dx, _, upd_same, RelF.nx n3 _ _ (rf.put (Rel.nx n2 _ _ r1) g)⟩
    exact an.nx _ _ _ _ q2 (n1.trans (n2.trans n3)) (st.nx (n1.trans (n2.trans n3)) s3)⟩⟩
end
end L2.DL

/-! DL4: a def's promise by its body; loops; list comprehensions -/
namespace L2.DL
open PySem PySem.Spec PyProof.Rows

/-! ### what a result is worth when objects are forgotten or change no more -/
structure Rf (S : SO) (d : D) (S0 : SO) (d0 : D) : Prop where
  sub : ∀ a, S a = none → S0 a = none
  srel : ∀ K H, SRel K S H → SRel K S0 H
  rel : ∀ K H v, SRel K S H → Rel K S H d v → Rel K S0 H d0 v
theorem Rf.refl (S : SO) (d : D) : Rf S d S d := ⟨fun _ h => h, fun _ _ h => h, fun _ _ _ _ h => h⟩
theorem Rf.trans {S S1 S2 : SO} {d d1 d2 : D} (a : Rf S d S1 d1) (b : Rf S1 d1 S2 d2) : Rf S d S2 d2 := ⟨fun x h => b.sub x (a.sub x h), fun K H h => b.srel K H (a.srel K H h), fun K H v s h => b.rel K H v (a.srel K H s) (a.rel K H v s h)⟩
theorem Rf.to {S S0 : SO} (d : D) (h : ∀ a o, S0 a = some o → S a = some o) : Rf S d S0 d := by
  have sub : ∀ a, S a = none → S0 a = none := fun a e => by
    cases q : S0 a with
    | none => rfl
    | some o =>
      rw [h a o q] at e
      cases e
  have nx : ∀ H, Nx S H S0 H := fun H a u h1 h2 => ⟨sub a h1, h2⟩
  exact ⟨sub, fun K H s a o q => (s a o (h a o q)).nx (nx H) rfl, fun K H v _ r => Rel.nx (nx H) d v r⟩
theorem Rf.drop (S : SO) (d : D) (p : Addr) : Rf S d (S.del p) d := .to d fun a o q => by
  unfold SO.del at q
  split at q
  · cases q
  · exact q
theorem Rf.lst {S : SO} {p : Addr} {ds : List D} (h : S p = some (.lst ds)) : Rf S (.obj p) (S.del p) (.lst ds) := by
  have z := Rf.drop S (.obj p) p
  refine ⟨z.sub, z.srel, fun K H v s r => ?_⟩
  have e : v = .ref p := r
  rw [e]
  exact (frz_lst s h).2.2
theorem Rf.dic {S : SO} {p : Addr} {t : Bool} {ds : List (D × D)} (h : S p = some (.dic t ds)) : Rf S (.obj p) (S.del p) (.dic t ds) := by
  have z := Rf.drop S (.obj p) p
  refine ⟨z.sub, z.srel, fun K H v s r => ?_⟩
  have e : v = .ref p := r
  rw [e]
  exact (frz_dic s h).2.2
theorem Rf.ins {S : SO} {p C : Addr} {fs : List (Str × D)} (h : S p = some (.ins C fs)) : Rf S (.obj p) (S.del p) (.ins C fs) := by
  have z := Rf.drop S (.obj p) p
  refine ⟨z.sub, z.srel, fun K H v s r => ?_⟩
  have e : v = .ref p := r
  rw [e]
  exact (frz_ins s h).2.2
theorem Rf.dropS {S : SO} {p : Addr} {o : DO} (d : D) (h : S p = none) : Rf (S.set p o) d S d := by
  have z := Rf.drop (S.set p o) d p
  rw [del_set h] at z
  exact z
theorem Rf.pair {S S1 S2 : SO} {a b a1 b1 : D} (h1 : Rf S a S1 a1) (h2 : Rf S1 b S2 b1) : Rf S (.tup [a, b]) S2 (.tup [a1, b1]) := by
  refine ⟨fun x h => h2.sub x (h1.sub x h), fun K H h => h2.srel K H (h1.srel K H h), fun K H v s r => ?_⟩
  obtain ⟨p, vs, e, t, rs⟩ := r
  obtain ⟨x, y, rfl, ra, rb⟩ := rs.two
  have n1 : Nx S H S1 H := fun a u q1 q2 => ⟨h1.sub a q1, q2⟩
  have n2 : Nx S1 H S2 H := fun a u q1 q2 => ⟨h2.sub a q1, q2⟩
  have s1 := h1.srel K H s
  exact ⟨p, _, e, (t.nx n1).nx n2, x, _, rfl, Rel.nx n2 _ _ (h1.rel K H x s ra), y, _, rfl, h2.rel K H y s1 (Rel.nx n1 _ _ rb), rfl⟩
/-- .. wanted of it -/
def Cl (Q : KD) : KD := fun d S' => ∃ d0 S0, Rf S' d S0 d0 ∧ Q d0 S0
theorem Cl.ans {K : PySem.W.Frag} {S : SO} {H : Hp} {Q0 : KD} {Q : VK} (an : Ans K S H Q0 Q) : Ans K S H (Cl Q0) Q := fun d S' v H' ⟨d0, S0, rf, q⟩ n s r =>
  an d0 S0 v H' q (fun a u h1 h2 => let ⟨p, q⟩ := n a u h1 h2; ⟨rf.sub a p, q⟩) (rf.srel K H' s) (rf.rel K H' v s r)
theorem Cl.of {Q : KD} {d : D} {S : SO} (h : Q d S) : Cl Q d S := ⟨d, S, .refl _ _, h⟩
def endsOf (Q : KD) : EndsD := { nx := fun _ S' => Cl Q .non S', rt := Cl Q }
def startD (N : List Str) (ds : List D) : SD := ds.map some ++ List.replicate (N.length - ds.length) none
theorem start_rel {K : PySem.W.Frag} {S : SO} {H : Hp} {N : List Str} {ds : List D} {vs : List V} (r : Rels K S H ds vs) : RelS K S H (startD N ds) (start N vs) := by
  have hl := r.length
  refine ⟨by unfold startD start; rw [List.length_append, List.length_append, List.length_map, List.length_map, List.length_replicate, List.length_replicate, hl], fun i d e => ?_⟩
  unfold startD at e
  by_cases hi : i < ds.length
  · rw [List.getElem?_append_left (by simpa using hi), List.getElem?_map] at e
    cases q : ds[i]? with
    | none =>
      rw [q] at e
      cases e
    | some d' =>
      rw [q] at e
      cases e
      obtain ⟨v, hv, rv⟩ := r.get q
      refine ⟨v, ?_, rv⟩
      unfold start
      rw [List.getElem?_append_left (by rw [List.length_map]; omega), List.getElem?_map, hv]
      rfl
  · rw [List.getElem?_append_right (by simpa using hi), List.getElem?_replicate] at e
    split at e <;> cases e
section
variable {P : Program} {w : World} {K : PySem.W.Frag} {mg : Str → Option Value} {base : Heap}
/-- THE RULE for a def -/
theorem fnD_ok {k : Nat} {f : Addr} {fd : FuncData} {qual : Str} {st : Stmt} {N ps : List Str} {sp : DSp} {w0 : WS} (F : FnAt K qual st f fd) (S : FnScope N ps (defScope st)) (len : ∀ ds S Q E, sp ds S Q E → ds.length = ps.length)
    (body : ∀ (cdv : Value) (A : Around) (outer : List Env) (s : Shared) (H : Hp) (E : XK), Room k (A.deeper (envOfC qual (defScope st) s.heap.objs.size f cdv)) → (A.deeper (envOfC qual (defScope st) s.heap.objs.size f cdv)).guards = some [] →
      DSs (cxOf CX0 P w K mg base N qual (defScope st) f cdv A outer s H E).nox (defBody st) w0)
    (hw : ∀ ds S Q E, sp ds S Q E → w0 (endsOf Q) (startD N ds) S) : FnD P w K mg base (k + 1) f fd ps sp := by
  refine fnG_body F S (fun vs H Q E ⟨ds, S, Q0, E0, _, r, h, _⟩ => by rw [← r.length]; exact len _ _ _ _ h) fun cdv A outer s H vs Q E hr hg ⟨ds, S, Q0, E0, sr, r, h, an, _⟩ => ?_
  refine ⟨_, (body cdv A outer s H E hr hg).nox, startD N ds, S, endsOf Q0, ⟨sr, start_rel r⟩, hw ds S Q0 E0 h, fun sd S' σ H' q n st => ?_, Cl.ans an, fun _ _ _ _ q => q.elim, fun _ _ _ _ q => q.elim⟩
  exact Cl.ans an .non S' .non H' q n st.s rfl
end

/-! ### what is walked -/
structure ItD where
  items : List D
  ok : SO → Prop
structure JRel (K : PySem.W.Frag) (S0 : SO) (H0 : Hp) (J : ItD) (JV : It) : Prop where
  go : ∀ i S H, Nx S0 H0 S H → SRel K S H → J.ok S → i < J.items.length → JV.go i H
  stop : ∀ i S H, Nx S0 H0 S H → SRel K S H → J.ok S → i = J.items.length → JV.stop i H
  yld : ∀ i S H x H' d, Nx S0 H0 S H → SRel K S H → J.ok S → J.items[i]? = some d → JV.yld i H x H' → Nx S H S H' ∧ SRel K S H' ∧ Rel K S H' d x
abbrev WI := SD → SO → (ItD → SO → Prop) → Prop
def liftI (K : PySem.W.Frag) (w : WI) : TI := fun σ H R => ∃ sd S R0, Sta K sd S σ H ∧ w sd S R0 ∧ ∀ J S' H' JV, R0 J S' → Nx S H S' H' → SRel K S' H' → JRel K S' H' J JV → R JV H'
abbrev DI (X : Cx) (tg iter : Expr) (w : WI) : Prop := PI X tg iter (liftI X.K w)
section
variable {X : Cx} {tg e : Expr} {we : WE} {pos : Pos}
theorem pi_imp {tg it : Expr} {t t' : TI} (h : PI X tg it t) (i : ∀ σ H R, t' σ H R → t σ H R) : PI X tg it t' := ⟨fun pins s σ H R I q => h.run pins s σ H R I (i σ H R q)⟩
/-- a list or a tuple by its items -/
def seqD (d : D) (S : SO) (R : List D → (SO → Prop) → Prop) : Prop := match d with
  | .lst xs => R xs fun _ => True
  | .src xs => R xs fun _ => True
  | .tup xs => R xs fun _ => True
  | .kt xs => R xs fun _ => True
  | .tf xs => R xs fun _ => True
  | .obj a => ∃ xs, S a = some (.lst xs) ∧ R xs fun S => S a = some (.lst xs)
  | _ => False
def wSeqI (we : WE) : WI := fun sd S R => we sd S fun d S1 => seqD d S1 fun xs ok => R ⟨xs, ok⟩ S1
theorem SqL.uniq {K : PySem.W.Frag} {S : SO} {H : Hp} {a : Addr} {xs : List D} (h : S a = some (.lst xs)) (s : SRel K S H) : ∃ vs, SqL K H a vs ∧ Rels K S H xs vs := let ⟨vs, e, r⟩ := s a _ h; ⟨vs, .of e, r⟩
theorem jrel_lst {K : PySem.W.Frag} {S0 : SO} {H0 : Hp} {a : Addr} {xs : List D} {ok : SO → Prop} (h : ∀ S H, Nx S0 H0 S H → SRel K S H → ok S → ∃ vs, SqL K H a vs ∧ Rels K S H xs vs) : JRel K S0 H0 ⟨xs, ok⟩ (Itl K a) where
  go := fun i S H n s o hi => by
    obtain ⟨vs, q, r⟩ := h S H n s o
    obtain ⟨v, hv, _⟩ := r.get (List.getElem?_eq_getElem hi)
    exact ⟨vs, v, q, hv⟩
  stop := fun i S H n s o hi => by
    obtain ⟨vs, q, r⟩ := h S H n s o
    exact ⟨vs, q, by rw [← r.length]; exact Nat.le_of_eq hi.symm⟩
  yld := fun i S H x H' d n s o hi y => by
    obtain ⟨vs, q, r⟩ := h S H n s o
    obtain ⟨rfl, y⟩ := y
    obtain ⟨v, hv, rv⟩ := r.get hi
    have e := y vs q
    rw [hv] at e
    cases e
    exact ⟨.refl _ _, s, rv⟩
theorem jrel_tup {K : PySem.W.Frag} {S0 : SO} {H0 : Hp} {a : Addr} {xs : List D} {ok : SO → Prop} (h : ∀ S H, Nx S0 H0 S H → SRel K S H → ok S → ∃ vs, SqT K H a vs ∧ Rels K S H xs vs) : JRel K S0 H0 ⟨xs, ok⟩ (Itt K a) where
  go := fun i S H n s o hi => by
    obtain ⟨vs, q, r⟩ := h S H n s o
    obtain ⟨v, hv, _⟩ := r.get (List.getElem?_eq_getElem hi)
    exact ⟨vs, v, q, hv⟩
  stop := fun i S H n s o hi => by
    obtain ⟨vs, q, r⟩ := h S H n s o
    exact ⟨vs, q, by rw [← r.length]; exact Nat.le_of_eq hi.symm⟩
  yld := fun i S H x H' d n s o hi y => by
    obtain ⟨vs, q, r⟩ := h S H n s o
    obtain ⟨rfl, y⟩ := y
    obtain ⟨v, hv, rv⟩ := r.get hi
    have e := y vs q
    rw [hv] at e
    cases e
    exact ⟨.refl _ _, s, rv⟩
def rList (K : PySem.W.Frag) : V → Hp → (It → Hp → Prop) → Prop := fun x H1 R => ∃ a, x = .ref a ∧ (∃ xs, SqL K H1 a xs) ∧ R (Itl K a) H1
def rTup (K : PySem.W.Frag) : V → Hp → (It → Hp → Prop) → Prop := fun x H1 R => ∃ a, x = .ref a ∧ (∃ xs, SqT K H1 a xs) ∧ R (Itt K a) H1
theorem iter_list {pins : List (Addr × Obj)} {s : Shared} {σ : St} {H : Hp} {x : V} {v : Value} {R : It → Hp → Prop} (I : Inv X pins σ H s) (rx : RelV x v) (h : rList X.K x H R) : wpAny (model X.prog X.w) X.A (pyIter v) (PIE X pins σ tg R) X.xe s := by
  obtain ⟨a, rfl, ⟨xs, hq⟩, q⟩ := h
  cases rx
  obtain ⟨its, rv, p, hz⟩ := I.list hq
  refine wpAny_pyIter_list p.isList ⟨s.heap.objs.size, [s.heap.objs.size], _, _, H, rfl, I.kept (t' := s.toks) fun b o e => Heap.get?_push_of_some _ e, turn_list a _, ⟨_, Heap.get?_push_size _ rfl, rfl, rfl⟩, fun b hb => ?_, q⟩
  obtain rfl : b = s.heap.objs.size := by simpa using hb
  exact I.fpOk (Nat.le_refl _) (I.hok.fresh (Nat.le_refl _))
theorem iter_tup {pins : List (Addr × Obj)} {s : Shared} {σ : St} {H : Hp} {x : V} {v : Value} {R : It → Hp → Prop} (I : Inv X pins σ H s) (rx : RelV x v) (h : rTup X.K x H R) : wpAny (model X.prog X.w) X.A (pyIter v) (PIE X pins σ tg R) X.xe s := by
  obtain ⟨a, rfl, ⟨xs, hq⟩, q⟩ := h
  cases rx
  obtain ⟨its, rv, p, hz⟩ := I.tuple hq
  refine wpAny_pyIter_tuple (show s.heap.IsTuple a its.toArray from p) ⟨s.heap.objs.size, [s.heap.objs.size], _, _, H, rfl, I.kept (t' := s.toks) fun b o e => Heap.get?_push_of_some _ e, turn_tuple a _, ⟨_, Heap.get?_push_size _ rfl, rfl, rfl⟩, fun b hb => ?_, q⟩
  obtain rfl : b = s.heap.objs.size := by simpa using hb
  exact I.fpOk (Nat.le_refl _) (I.hok.fresh (Nat.le_refl _))
theorem di_seq (he : DE X e we) : DI X tg e (wSeqI we) := by
  refine ⟨fun pins s σ H R I ⟨sd, S, R0, st, q, an⟩ => ?_⟩
  refine thn (he.run pins s σ H (fun v H1 => rList X.K v H1 R ∨ rTup X.K v H1 R) I ⟨sd, S, _, st, q, fun d S1 v H1 q1 n1 s1 r1 => ?_⟩) fun v s1 ⟨x, H1, I1, r1, q1⟩ => q1.elim (iter_list I1 r1) (iter_tup I1 r1)
  cases d with
  | lst xs =>
    obtain ⟨a, vs, e, t, hv, r⟩ := r1
    refine .inl ⟨a, e, ⟨vs, .of hv⟩, an _ _ _ _ q1 n1 s1 (jrel_lst fun S2 H2 n2 s2 _ => ⟨vs, .of (n2 a _ t hv).2, r.nx n2⟩)⟩
  | src xs =>
    obtain ⟨a, vs, e, t, r⟩ := r1
    refine .inl ⟨a, e, ⟨vs, t.sq⟩, an _ _ _ _ q1 n1 s1 (jrel_lst fun S2 H2 n2 s2 _ => ⟨vs, (t.nx n2).sq, r.nx n2⟩)⟩
  | tup xs =>
    obtain ⟨a, vs, e, t, r⟩ := r1
    refine .inr ⟨a, e, ⟨vs, t.sq⟩, an _ _ _ _ q1 n1 s1 (jrel_tup fun S2 H2 n2 s2 _ => ⟨vs, (t.nx n2).sq, r.nx n2⟩)⟩
  | tf xs =>
    obtain ⟨a, vs, e, t, r⟩ := r1
    refine .inr ⟨a, e, ⟨vs, t.sq⟩, an _ _ _ _ q1 n1 s1 (jrel_tup fun S2 H2 n2 s2 _ => ⟨vs, (t.nx n2).sq, r.nx n2⟩)⟩
  | kt xs =>
    obtain ⟨a, vs, e, t, r⟩ := r1
    refine .inr ⟨a, e, ⟨vs, t.sq⟩, an _ _ _ _ q1 n1 s1 (jrel_tup fun S2 H2 n2 s2 _ => ⟨vs, t.sq, r.nx n2⟩)⟩
  | obj a =>
    obtain ⟨xs, hx, q1⟩ := q1
    obtain ⟨vs, hq, r⟩ := SqL.uniq hx s1
    exact .inl ⟨a, r1, ⟨vs, hq⟩, an _ _ _ _ q1 n1 s1 (jrel_lst fun S2 H2 n2 s2 o => SqL.uniq o s2)⟩
  | _ => exact False.elim q1
/-- range(n), range(a, b) -/
def rangeD (a b : Int) : List D := (List.range (b - a).toNat).map fun i => .int (a + (i : Nat))
theorem rangeD_get {a b : Int} {i : Nat} {d : D} (h : (rangeD a b)[i]? = some d) : d = .int (a + i) ∧ i < (b - a).toNat := by
  unfold rangeD at h
  rw [List.getElem?_map] at h
  by_cases hi : i < (b - a).toNat
  · rw [List.getElem?_range hi] at h
    exact ⟨(Option.some.inj h).symm, hi⟩
  · rw [List.getElem?_eq_none (by simpa using hi)] at h
    cases h
theorem rangeD_len {a b : Int} : (rangeD a b).length = (b - a).toNat := by unfold rangeD; rw [List.length_map, List.length_range]
theorem jrel_rng {K : PySem.W.Frag} {S0 : SO} {H0 : Hp} {a b : Int} {ok : SO → Prop} : JRel K S0 H0 ⟨rangeD a b, ok⟩ (Itr a (b - a).toNat) where
  go := fun i S H n s o hi => by
    rw [rangeD_len] at hi
    exact hi
  stop := fun i S H n s o hi => by
    rw [rangeD_len] at hi
    exact Nat.le_of_eq hi.symm
  yld := fun i S H x H' d n s o hi y => by
    obtain ⟨rfl, rfl⟩ := y
    obtain ⟨rfl, _⟩ := rangeD_get hi
    exact ⟨.refl _ _, s, rfl⟩
/-- the arguments are one int, two ints -/
def int1 (xs : List D) (k : Int → Prop) : Prop := match xs with
  | [.int j] => k j
  | _ => False
def int2 (xs : List D) (k : Int → Int → Prop) : Prop := match xs with
  | [.int i, .int j] => k i j
  | _ => False
theorem int1_of {xs : List D} {k : Int → Prop} (h : int1 xs k) : ∃ j, xs = [.int j] ∧ k j := by
  unfold int1 at h
  split at h
  · exact ⟨_, rfl, h⟩
  · exact h.elim
theorem int2_of {xs : List D} {k : Int → Int → Prop} (h : int2 xs k) : ∃ i j, xs = [.int i, .int j] ∧ k i j := by
  unfold int2 at h
  split at h
  · exact ⟨_, _, rfl, h⟩
  · exact h.elim
theorem Rels.int1 {K : PySem.W.Frag} {S : SO} {H : Hp} {j : Int} {vs : List V} (r : Rels K S H [.int j] vs) : vs = [.int j] := by
  obtain ⟨v, r', rfl, rv, e⟩ := r
  have e' : r' = [] := e
  have ev : v = .int j := rv
  rw [e', ev]
theorem Rels.int2 {K : PySem.W.Frag} {S : SO} {H : Hp} {i j : Int} {vs : List V} (r : Rels K S H [.int i, .int j] vs) : vs = [.int i, .int j] := by
  obtain ⟨v, u, rfl, rv, ru⟩ := r.two
  have ev : v = .int i := rv
  have eu : u = .int j := ru
  rw [ev, eu]
def wRng1 (w : WA) : WI := fun sd S R => w sd S fun xs S1 => int1 xs fun j => -(2 ^ 62) ≤ j ∧ j < 2 ^ 62 ∧ R ⟨rangeD 0 j, fun _ => True⟩ S1
def wRng2 (w : WA) : WI := fun sd S R => w sd S fun xs S1 => int2 xs fun i j => (-(2 ^ 62) ≤ i ∧ i < 2 ^ 62 ∧ -(2 ^ 62) ≤ j ∧ j < 2 ^ 62) ∧ R ⟨rangeD i j, fun _ => True⟩ S1
theorem di_rng1 {a : Expr} {w : WA} {p pos : Pos} (hm : X.mg "range" = none) (ha : DA X [a] w) (hg : Gl X "range" := by rfl) (hs : starEach [a] X.env = [(false, eval a X.env)] := by rfl) : DI X tg (.Call (.Name "range" p) [a] [] pos) (wRng1 w) := by
  refine pi_imp (pi_range1 hg hm ha hs) fun σ H R ⟨sd, S, R0, st, q, an⟩ => ⟨sd, S, _, st, q, fun xs S1 vs H1 q1 n1 s1 r1 => ?_⟩
  obtain ⟨j, rfl, h1, h2, q1⟩ := int1_of q1
  refine ⟨j, r1.int1, h1, h2, an _ _ _ _ q1 n1 s1 ?_⟩
  have z := jrel_rng (K := X.K) (S0 := S1) (H0 := H1) (a := 0) (b := j) (ok := fun _ => True)
  rwa [Int.sub_zero] at z
theorem di_rng2 {a b : Expr} {w : WA} {p pos : Pos} (hm : X.mg "range" = none) (ha : DA X [a, b] w) (hg : Gl X "range" := by rfl) (hs : starEach [a, b] X.env = [(false, eval a X.env), (false, eval b X.env)] := by rfl) (hs2 : starEach [b] X.env = [(false, eval b X.env)] := by rfl) :
    DI X tg (.Call (.Name "range" p) [a, b] [] pos) (wRng2 w) := by
  refine pi_imp (pi_range2 hg hm ha hs hs2) fun σ H R ⟨sd, S, R0, st, q, an⟩ => ⟨sd, S, _, st, q, fun xs S1 vs H1 q1 n1 s1 r1 => ?_⟩
  obtain ⟨i, j, rfl, h1, q1⟩ := int2_of q1
  exact ⟨i, j, r1.int2, h1, an _ _ _ _ q1 n1 s1 jrel_rng⟩

/-! ### for, while -/
structure ForD (wi : WI) (g : WG) (b : WS) (E : EndsD) (sd : SD) (S : SO) : Prop where
  ex : wi sd S fun J S1 => ∃ Pv : Nat → SD → SO → Prop, Pv 0 sd S1 ∧ (∀ i sd S, Pv i sd S → J.ok S) ∧
  (∀ i d sd S, J.items[i]? = some d → Pv i sd S → g d sd S fun sd' S' => b { nx := Pv (i + 1), rt := E.rt, bk := E.nx, ct := Pv (i + 1) } sd' S') ∧ (∀ sd S, Pv J.items.length sd S → E.nx sd S)
def wFor (wi : WI) (g : WG) (b : WS) : WS := fun E sd S => ForD wi g b E sd S
theorem ds_for {iter : Expr} {body : List Stmt} {wi : WI} {g : WG} {b : WS} (hp : PassesOwn (model X.prog X.w) X.A X.env X.xe) (hc : X.calm = true) (hi : DI X tg iter wi) (hg : DG X tg g) (hb : DSs X body b) (hs : ∀ x, foldedSetIterable iter X.env x = pure x := by intro _; rfl) :
    DS X (.For tg iter body [] pos) (wFor wi g b) := by
  refine ps_imp (ps_for hp hc hi hg hb hs) fun E σ H ⟨sd, S, E0, st, q, an⟩ => ⟨sd, S, _, st, q.ex, fun J S1 H1 JV ⟨Pv, h0, hok, hst, hend⟩ n1 s1 jr => ?_⟩
  refine ⟨fun i m σ' H' => ∃ sd' S', m = J.items.length - i ∧ i ≤ J.items.length ∧ Pv i sd' S' ∧ Sta X.K sd' S' σ' H' ∧ Nx S1 H1 S' H', ⟨J.items.length, sd, S1, by simp, Nat.zero_le _, h0, st.nx n1 s1, .refl _ _⟩, ?_⟩
  rintro i m σ' H' ⟨sd', S', rfl, hile, hp', st', n'⟩
  have o := hok i sd' S' hp'
  by_cases hlt : i < J.items.length
  · refine .inr ⟨jr.go i S' H' n' st'.s o hlt, _, fun σ2 H2 (h : ∃ sd2 S2, Pv (i + 1) sd2 S2 ∧ Sta X.K sd2 S2 σ2 H2 ∧ Nx S1 H1 S2 H2) => ?_, fun x H2 hy => ?_⟩
    · obtain ⟨sd2, S2, h1, h2, h3⟩ := h
      exact ⟨J.items.length - (i + 1), by omega, sd2, S2, rfl, hlt, h1, h2, h3⟩
    · have hi' := List.getElem?_eq_getElem hlt
      obtain ⟨n2, s2, r2⟩ := jr.yld i S' H' x H2 _ n' st'.s o hi' hy
      refine ⟨_, sd', S', _, st'.nx n2 s2, r2, hst i _ sd' S' hi' hp', fun sd3 S3 σ3 H3 q3 n3 st3 => ?_⟩
      have nn := n'.trans (n2.trans n3)
      refine ⟨sd3, S3, _, st3, q3, fun sd4 S4 σ4 H4 q4 n4 st4 => ⟨sd4, S4, q4, st4, nn.trans n4⟩, an.rt.nx (n1.trans nn), an.nx.nx (n1.trans nn), fun sd4 S4 σ4 H4 q4 n4 st4 => ⟨sd4, S4, q4, st4, nn.trans n4⟩⟩
  · have e : i = J.items.length := by omega
    subst e
    exact .inl ⟨jr.stop _ S' H' n' st'.s o rfl, an.nx _ _ _ _ (hend sd' S' hp') (n1.trans n') st'⟩
structure WhileD (c : WT) (b : WS) (E : EndsD) (sd : SD) (S : SO) : Prop where
  ex : ∃ Pv : Nat → SD → SO → Prop, (∃ m, Pv m sd S) ∧ ∀ m sd S, Pv m sd S → c sd S fun k S1 =>
  if k = true then b { nx := fun sd' S' => ∃ m', m' < m ∧ Pv m' sd' S', rt := E.rt, bk := E.nx, ct := fun sd' S' => ∃ m', m' < m ∧ Pv m' sd' S' } sd S1 else E.nx sd S1
def wWhile (c : WT) (b : WS) : WS := fun E sd S => WhileD c b E sd S
theorem ds_while {c : Expr} {body : List Stmt} {wc : WT} {b : WS} (hp : PassesOwn (model X.prog X.w) X.A X.env X.xe) (hc : DT X c wc) (hb : DSs X body b) : DS X (.While c body [] pos) (wWhile wc b) := by
  refine ps_imp (ps_while hp hc hb) fun E σ H ⟨sd, S, E0, st, ⟨Pv, ⟨m0, h0⟩, turn⟩, an⟩ => ?_
  refine ⟨fun m σ' H' => ∃ sd' S', Pv m sd' S' ∧ Sta X.K sd' S' σ' H' ∧ Nx S H S' H', ⟨m0, sd, S, h0, st, .refl _ _⟩, ?_⟩
  rintro m σ' H' ⟨sd', S', hp', st', n'⟩
  refine ⟨sd', S', _, st', turn m sd' S' hp', fun k S1 H1 q1 n1 s1 => ?_⟩
  have nn := n'.trans n1
  cases k with
  | true =>
    refine ⟨fun σ2 H2 => ∃ m', m' < m ∧ ∃ sd2 S2, Pv m' sd2 S2 ∧ Sta X.K sd2 S2 σ2 H2 ∧ Nx S H S2 H2, fun σ2 H2 h => h, sd', S1, _, st'.nx n1 s1, q1, ?_⟩
    exact ⟨fun sd4 S4 σ4 H4 ⟨m', hm, q4⟩ n4 st4 => ⟨m', hm, sd4, S4, q4, st4, nn.trans n4⟩, an.rt.nx nn, an.nx.nx nn, fun sd4 S4 σ4 H4 ⟨m', hm, q4⟩ n4 st4 => ⟨m', hm, sd4, S4, q4, st4, nn.trans n4⟩⟩
  | false => exact an.nx _ _ _ _ q1 nn (st'.nx n1 s1)
end
end L2.DL

/-! DL5: list comprehensions -/
namespace L2.DL
open PySem PySem.Spec PyProof.Rows

def wipeD (sd : SD) : List Nat → SD
  | [] => sd
  | v :: vs => (wipeD sd vs).set v none
theorem wipe_get (σ : St) (vs : List Nat) (j : Nat) : (wipe σ vs)[j]? = if j ∈ vs then (σ[j]?).map (fun _ => none) else σ[j]? := by
  induction vs with
  | nil => simp [wipe]
  | cons v vs ih =>
    unfold wipe
    by_cases hj : v = j
    · subst hj
      by_cases hl : v < (wipe σ vs).length
      · rw [List.getElem?_set_self hl]
        rw [wipe_length] at hl
        rw [if_pos (List.mem_cons_self ..), List.getElem?_eq_getElem hl]
        rfl
      · rw [wipe_length] at hl
        have e : σ[v]? = none := List.getElem?_eq_none (by omega)
        rw [List.getElem?_eq_none (by rw [List.length_set, wipe_length]; omega), e]
        simp
    · rw [List.getElem?_set_ne hj, ih]
      by_cases hm : j ∈ vs
      · rw [if_pos hm, if_pos (List.mem_cons_of_mem _ hm)]
      · rw [if_neg hm, if_neg (by simp only [List.mem_cons, not_or]; exact ⟨fun e => hj e.symm, hm⟩)]
theorem wipe_set {σ : St} {vs : List Nat} {i : Nat} {x : Option V} (h : i ∈ vs) : wipe (σ.set i x) vs = wipe σ vs := by
  refine List.ext_getElem? fun j => ?_
  rw [wipe_get, wipe_get]
  by_cases hj : j ∈ vs
  · rw [if_pos hj, if_pos hj]
    by_cases hi : i = j
    · subst hi
      by_cases hl : i < σ.length
      · rw [List.getElem?_set_self hl, List.getElem?_eq_getElem hl]
        rfl
      · rw [List.getElem?_eq_none (by rw [List.length_set]; omega), List.getElem?_eq_none (by omega)]
    · rw [List.getElem?_set_ne hi]
  · rw [if_neg hj, if_neg hj, List.getElem?_set_ne fun e => hj (by rw [← e]; exact h)]
theorem wipe_wipe {σ : St} {vs : List Nat} : wipe (wipe σ vs) vs = wipe σ vs := by
  refine List.ext_getElem? fun j => ?_
  rw [wipe_get, wipe_get]
  by_cases hj : j ∈ vs
  · rw [if_pos hj, if_pos hj]
    cases σ[j]? with
    | none => rfl
    | some x => rfl
  · rw [if_neg hj, if_neg hj]
theorem wipeD_some {sd : SD} {i : Nat} {d : D} : ∀ {vs : List Nat}, (wipeD sd vs)[i]? = some (some d) → sd[i]? = some (some d) ∧ i ∉ vs
  | [], h => ⟨h, by simp⟩
  | v :: vs, h => by
    unfold wipeD at h
    by_cases hi : v = i
    · subst hi
      by_cases hv : v < (wipeD sd vs).length
      · rw [List.getElem?_set_self hv] at h
        cases h
      · rw [List.getElem?_eq_none (by simpa using hv)] at h
        cases h
    · rw [List.getElem?_set_ne hi] at h
      obtain ⟨h1, h2⟩ := wipeD_some h
      exact ⟨h1, by simp only [List.mem_cons, not_or]; exact ⟨fun e => hi e.symm, h2⟩⟩
theorem wipeD_length (sd : SD) : ∀ vs : List Nat, (wipeD sd vs).length = sd.length
  | [] => rfl
  | v :: vs => by unfold wipeD; rw [List.length_set, wipeD_length sd vs]
theorem Sta.wipe {K : PySem.W.Frag} {sd : SD} {S : SO} {σ : St} {H : Hp} (h : Sta K sd S σ H) (vs : List Nat) : Sta K (wipeD sd vs) S (L2.wipe σ vs) H := by
  refine ⟨h.s, by rw [wipeD_length, wipe_length]; exact h.r.1, fun i d e => ?_⟩
  obtain ⟨e1, e2⟩ := wipeD_some e
  obtain ⟨v, hv, r⟩ := h.r.2 i d e1
  exact ⟨v, by rw [wipe_out e2]; exact hv, r⟩

/-- a block's target: a name, a tuple of names -/
inductive NT where
  | n (i : Nat)
  | t (l : List Nat)
def NT.ix : NT → List Nat
  | .n i => [i]
  | .t l => l
def gNs : List Nat → TGs
  | [] => gNil
  | i :: l => gCons (gName i) (gNs l)
def gNT (K : PySem.W.Frag) : NT → TG
  | .n i => gName i
  | .t l => gTup K l.length (gNs l)
def putAll : List Nat → List D → SD → SD
  | i :: l, d :: ds, sd => putAll l ds (sd.set i (some d))
  | _, _, sd => sd
/-- the slots with the target's names set -/
def putNT : NT → D → SD → (SD → Prop) → Prop
  | .n i, d, sd, k => k (sd.set i (some d))
  | .t l, d, sd, k => match d with
    | .tup xs => xs.length = l.length ∧ k (putAll l xs sd)
    | _ => False
theorem gNs_go {K : PySem.W.Frag} {S : SO} {H : Hp} {vs : List Nat} {Q : St → Hp → Prop} : ∀ {l : List Nat} {ds : List D} {us : List V} {sd : SD} {σ : St}, (∀ i ∈ l, i ∈ vs) → ds.length = l.length → Rels K S H ds us → Sta K sd S σ H →
    (∀ σ2, Sta K (putAll l ds sd) S σ2 H → wipe σ2 vs = wipe σ vs → Q σ2 H) → gNs l us σ H Q
  | [], ds, us, sd, σ, hl, e, r, st, h => by
    cases ds with
    | nil =>
      have eu : us = [] := r
      exact ⟨eu, h σ st rfl⟩
    | cons _ _ => simp at e
  | i :: l, ds, us, sd, σ, hl, e, r, st, h => by
    cases ds with
    | nil => simp at e
    | cons d ds =>
      obtain ⟨v, r', rfl, rv, rr⟩ := r
      refine ⟨v, r', rfl, ?_⟩
      refine gNs_go (l := l) (fun j hj => hl j (List.mem_cons_of_mem _ hj)) (by simpa using e) rr (st.set i rv) fun σ2 st2 hw => h σ2 st2 ?_
      rw [hw, wipe_set (hl i (List.mem_cons_self ..))]
theorem nt_go {K : PySem.W.Frag} {S : SO} {H : Hp} {vs : List Nat} {Q : St → Hp → Prop} {nt : NT} {d : D} {v : V} {sd : SD} {σ : St} {k : SD → Prop} (hs : ∀ i ∈ nt.ix, i ∈ vs) (st : Sta K sd S σ H) (r : Rel K S H d v) (hk : putNT nt d sd k)
    (h : ∀ sd2 σ2, k sd2 → Sta K sd2 S σ2 H → wipe σ2 vs = wipe σ vs → Q σ2 H) : gNT K nt v σ H Q := by
  cases nt with
  | n i => exact h _ _ hk (st.set i r) (wipe_set (hs i (List.mem_cons_self ..)))
  | t l =>
    cases d with
    | tup xs =>
      obtain ⟨hl, hk⟩ := hk
      obtain ⟨a, us, e, t, rr⟩ := r
      exact ⟨a, us, e, t.sq, by rw [← rr.length]; exact hl, gNs_go hs hl rr st fun σ2 st2 hw => h _ σ2 hk st2 hw⟩
    | _ => exact False.elim hk

abbrev DTs (X : Cx) (ifs : List Expr) (w : WT) : Prop := PTs X ifs (liftT X.K w)
def wYes : WT := fun _ S Q => Q true S
section
variable {X : Cx}
theorem dts_nil : DTs X [] wYes := ⟨fun pins s σ H Q I ⟨sd, S, Q0, st, q, an⟩ => pts_nil.run pins s σ H Q I (an _ _ _ q (Nx.refl _ _) st.s)⟩
theorem dts_one {c : Expr} {w : WT} (h : DT X c w) : DTs X [c] w := pts_one h
/-- a reading with its wish weakened -/
def up (we : WE) : WE := fun sd S Q => ∃ Q0 : KD, we sd S Q0 ∧ ∀ d S', Q0 d S' → Q d S'
def upT (tt : WT) : WT := fun sd S Q => ∃ Q0 : Bool → SO → Prop, tt sd S Q0 ∧ ∀ d S', Q0 d S' → Q d S'
theorem up_lift {K : PySem.W.Frag} {we : WE} {σ : St} {H : Hp} {Q : VK} (h : lift K (up we) σ H Q) : lift K we σ H Q := let ⟨sd, S, Q0, st, ⟨Q1, q, i⟩, an⟩ := h; ⟨sd, S, Q1, st, q, fun d S' v H' q' => an d S' v H' (i d S' q')⟩
theorem upT_lift {K : PySem.W.Frag} {we : WT} {σ : St} {H : Hp} {Q : Bool → Hp → Prop} (h : liftT K (upT we) σ H Q) : liftT K we σ H Q := let ⟨sd, S, Q0, st, ⟨Q1, q, i⟩, an⟩ := h; ⟨sd, S, Q1, st, q, fun d S' H' q' => an d S' H' (i d S' q')⟩
/-- a list comprehension: p the new list, which the element may not touch; R what is wanted behind it -/
structure LcG (wi : WI) (nt : NT) (tt : WT) (we : WE) (vs : List Nat) (R : Addr → SO → Prop) (sd : SD) (S : SO) : Prop where
  ex : wi sd S fun J S1 => ∀ p, S1 p = none → ∃ Pv : Nat → SO → Prop, Pv 0 (S1.set p (.lst [])) ∧ (∀ i S, Pv i S → J.ok S) ∧
  (∀ i d S, J.items[i]? = some d → Pv i S → putNT nt d (wipeD sd vs) fun sd2 => upT tt sd2 S fun b S2 => if b = true then up we sd2 S2 fun y S3 => ∃ acc, S3 p = some (.lst acc) ∧ acc.length ≤ 1000000 ∧ Pv (i + 1) (S3.set p (.lst (acc ++ [y]))) else Pv (i + 1) S2) ∧
  (∀ S, Pv J.items.length S → R p S)
theorem lcG_tLc {wi : WI} {nt : NT} {tt : WT} {we : WE} {vs : List Nat} {R : Addr → SO → Prop} {σ : St} {H : Hp} {Q : VK} {sd : SD} {S : SO} (hs : ∀ i ∈ nt.ix, i ∈ vs) (st : Sta X.K sd S σ H) (q : LcG wi nt tt we vs R sd S)
    (hR : ∀ p S' H', R p S' → Nx S H S' H' → SRel X.K S' H' → Q (.ref p) H') : tLc (liftI X.K wi) (gNT X.K nt) (liftT X.K tt) (lift X.K we) vs σ H Q := by
  refine ⟨sd, S, _, st, q.ex, fun J S1 H1 JV q1 n1 s1 jr p hp => ?_⟩
  obtain ⟨Pv, h0, hok, hst, hend⟩ := q1 p (s1.free hp)
  have n2 : Nx S1 H1 (S1.set p (.lst [])) (upd H1 p (.lst [])) := nx_obj hp (s1.free hp)
  have s2 : SRel X.K (S1.set p (.lst [])) (upd H1 p (.lst [])) := srel_put s1 n2 ⟨[], upd_same, rfl⟩
  refine ⟨fun i m H' => ∃ S', m = J.items.length - i ∧ i ≤ J.items.length ∧ Pv i S' ∧ SRel X.K S' H' ∧ Nx S1 H1 S' H', ⟨J.items.length, _, by simp, Nat.zero_le _, h0, s2, n2⟩, ?_⟩
  rintro i m H' ⟨S', rfl, hile, hp', s', n'⟩
  have o := hok i S' hp'
  by_cases hlt : i < J.items.length
  · refine .inr ⟨jr.go i S' H' n' s' o hlt, fun H2 => ∃ S2, Pv (i + 1) S2 ∧ SRel X.K S2 H2 ∧ Nx S1 H1 S2 H2, fun H2 ⟨S2, h1, h2, h3⟩ => ⟨J.items.length - (i + 1), by omega, S2, rfl, hlt, h1, h2, h3⟩, fun x H2 hy => ?_⟩
    have hi' := List.getElem?_eq_getElem hlt
    obtain ⟨n3, s3, r3⟩ := jr.yld i S' H' x H2 _ n' s' o hi' hy
    have nn := n'.trans n3
    refine nt_go hs ((st.nx (n1.trans nn) s3).wipe vs) r3 (hst i _ S' hi' hp') fun sd2 σ2 hk st2 hw => ⟨by rw [hw, wipe_wipe], upT_lift ?_⟩
    refine ⟨sd2, S', _, st2, hk, fun b S4 H4 q4 n4 s4 => ?_⟩
    cases b with
    | false => exact ⟨S4, q4, s4, nn.trans n4⟩
    | true =>
      refine up_lift ⟨sd2, S4, _, st2.nx n4 s4, q4, fun y S5 v H5 ⟨acc, ha, hl, q5⟩ n5 s5 r5 => ?_⟩
      obtain ⟨us, hu, ru⟩ := s5 p _ ha
      have n6 : Nx S5 H5 (S5.set p (.lst (acc ++ [y]))) (upd H5 p (.lst (us ++ [v]))) := nx_put ha
      exact ⟨us, hu, by rw [← ru.length]; exact Nat.lt_of_le_of_lt hl (by rw [sizeLine_eq]; decide), _, q5, srel_put s5 n6 ⟨_, upd_same, (ru.app (.one r5)).nx n6⟩, nn.trans (n4.trans (n5.trans n6))⟩
  · have e : i = J.items.length := by omega
    subst e
    exact .inl ⟨jr.stop _ S' H' n' s' o rfl, hR p S' H' (hend S' hp') (n1.trans n') s'⟩
/-- .. the new list an object; frozen at the end -/
def wLc (wi : WI) (nt : NT) (tt : WT) (we : WE) (vs : List Nat) : WE := fun sd S Q => LcG wi nt tt we vs (fun p S' => Q (.obj p) S') sd S
def wLcF (wi : WI) (nt : NT) (tt : WT) (we : WE) (vs : List Nat) : WE := fun sd S Q => LcG wi nt tt we vs (fun p S' => ∃ acc, S' p = some (.lst acc) ∧ Q (.lst acc) (S'.del p)) sd S
/-- .. and its element and test change nothing and look at nothing that changes: the list is f of the items -/
def Ext (S S' : SO) : Prop := ∀ a o, S a = some o → S' a = some o
structure LcP (wi : WI) (nt : NT) (tt : WT) (we : WE) (vs : List Nat) (sd : SD) (S : SO) (Q : KD) : Prop where
  ex : ∃ R : ItD → SO → Prop, wi sd S R ∧ ∀ J S1, R J S1 → (∀ S', Ext S1 S' → J.ok S') ∧ J.items.length ≤ 1000000 ∧ ∃ f : D → Option D, (∀ d ∈ J.items, ∀ S', Ext S1 S' → putNT nt d (wipeD sd vs) fun sd2 =>
  tt sd2 S' fun b S2 => S2 = S' ∧ if b = true then up we sd2 S' fun y S3 => S3 = S' ∧ f d = some y else f d = none) ∧ Q (.lst (J.items.filterMap f)) S1
def wLcP (wi : WI) (nt : NT) (tt : WT) (we : WE) (vs : List Nat) : WE := fun sd S Q => LcP wi nt tt we vs sd S Q
theorem ext_set {S : SO} {p : Addr} {o : DO} (h : S p = none) : Ext S (S.set p o) := fun a u e => by rw [set_ne (so_ne e h)]; exact e
theorem lcP_turn {nt : NT} {tt : WT} {we : WE} {vs : List Nat} {sd : SD} {S1 : SO} {J : ItD} {f : D → Option D} {p : Addr} {i : Nat} {d : D} (hl : J.items.length ≤ 1000000) (hi : J.items[i]? = some d)
    (h : ∀ S', Ext S1 S' → putNT nt d (wipeD sd vs) fun sd2 => tt sd2 S' fun b S2 => S2 = S' ∧ if b = true then up we sd2 S' fun y S3 => S3 = S' ∧ f d = some y else f d = none) (hp : S1 p = none) :
    putNT nt d (wipeD sd vs) fun sd2 => upT tt sd2 (S1.set p (.lst ((J.items.take i).filterMap f))) fun b S2 => if b = true then up we sd2 S2 fun y S3 => ∃ acc, S3 p = some (.lst acc) ∧ acc.length ≤ 1000000 ∧ S3.set p (.lst (acc ++ [y])) = S1.set p (.lst ((J.items.take (i + 1)).filterMap f))
      else S2 = S1.set p (.lst ((J.items.take (i + 1)).filterMap f)) := by
  have hn := h _ (ext_set (o := .lst ((J.items.take i).filterMap f)) hp)
  have htk : (J.items.take (i + 1)).filterMap f = (J.items.take i).filterMap f ++ (f d).toList := by
    rw [List.take_add_one, hi, List.filterMap_append]
    cases q : f d with
    | none => simp [q]
    | some y => simp [q]
  have hlen : ((J.items.take i).filterMap f).length ≤ 1000000 := by
    have h1 := List.length_filterMap_le f (J.items.take i)
    have h2 : (J.items.take i).length ≤ J.items.length := by rw [List.length_take]; omega
    omega
  have go : ∀ sd2, (tt sd2 (S1.set p (.lst ((J.items.take i).filterMap f))) fun b S2 => S2 = S1.set p (.lst ((J.items.take i).filterMap f)) ∧ if b = true then up we sd2 (S1.set p (.lst ((J.items.take i).filterMap f))) fun y S3 => S3 = S1.set p (.lst ((J.items.take i).filterMap f)) ∧ f d = some y else f d = none) →
      upT tt sd2 (S1.set p (.lst ((J.items.take i).filterMap f))) fun b S2 => if b = true then up we sd2 S2 fun y S3 => ∃ acc, S3 p = some (.lst acc) ∧ acc.length ≤ 1000000 ∧ S3.set p (.lst (acc ++ [y])) = S1.set p (.lst ((J.items.take (i + 1)).filterMap f)) else S2 = S1.set p (.lst ((J.items.take (i + 1)).filterMap f)) := by
    intro sd2 hh
    refine ⟨_, hh, fun b S2 ⟨e2, q2⟩ => ?_⟩
    subst e2
    cases b with
    | false =>
      have q2' : f d = none := q2
      show _ = _
      rw [htk, q2']
      simp
    | true =>
      obtain ⟨Q0, q3, i3⟩ := q2
      refine ⟨Q0, q3, fun y S3 q4 => ?_⟩
      obtain ⟨e3, q5⟩ := i3 y S3 q4
      subst e3
      refine ⟨_, set_same, hlen, ?_⟩
      rw [set_set, htk, q5]
      rfl
  cases nt with
  | n j => exact go _ hn
  | t l =>
    cases d with
    | tup xs => exact ⟨hn.1, go _ hn.2⟩
    | _ => exact False.elim hn
variable {elt tg iter : Expr} {ifs : List Expr} {scope : Scope} {own : List (Str × Nat)} {pos : Pos} {wi : WI} {nt : NT} {tt : WT} {we : WE}
theorem lcP_tLc {σ : St} {H : Hp} {Q : VK} (hx : ∀ i ∈ nt.ix, i ∈ own.map (·.2)) (h : lift X.K (wLcP wi nt tt we (own.map (·.2))) σ H Q) : tLc (liftI X.K wi) (gNT X.K nt) (liftT X.K tt) (lift X.K we) (own.map (·.2)) σ H Q := by
  obtain ⟨sd, S, Q0, st, ⟨R, q, i⟩, an⟩ := h
  refine ⟨sd, S, R, st, q, fun J S1 H1 JV qR n1 s1 jr => ?_⟩
  obtain ⟨hok, hl, f, hf, q1⟩ := i J S1 qR
  obtain ⟨sd', S', R0, st', q', an'⟩ := lcG_tLc (X := X) (wi := fun _ S R => S = S1 ∧ R J S1) (R := fun p S' => S' = S1.set p (.lst (J.items.filterMap f)) ∧ S1 p = none) (Q := Q) hx (st.nx n1 s1) ⟨⟨rfl, fun p hp => ⟨fun i S => S = S1.set p (.lst ((J.items.take i).filterMap f)), by simp, fun i S e => by rw [e]; exact hok _ (ext_set hp),
      fun i d S hi e => by subst e; exact lcP_turn hl hi (hf d (List.mem_of_getElem? hi)) hp, fun S e => ⟨by rw [e, List.take_length], hp⟩⟩⟩⟩
    fun p S' H' ⟨e, hp⟩ n' s' => by
      subst e
      obtain ⟨n2, s2, r2⟩ := frz_lst s' set_same
      rw [del_set hp] at n2 s2 r2
      exact an _ _ _ _ q1 (n1.trans (n'.trans n2)) s2 r2
  obtain ⟨rfl, q'⟩ := q'
  exact an' J S' H1 JV q' (.refl _ _) st'.s jr
abbrev Blk (X : Cx) (scope : Scope) (T : Cx → Prop) : Prop := ∀ (s : Shared) (H : Hp) (C : Addr) (cl : List (Str × Addr)) (fp : List Addr), T (X.blk s H scope (compEnvC scope cl C X.env) fp)
theorem de_lcF (hc : X.calm = true) (hN : X.N.Nodup) (hi : DI X tg iter wi) (ok : BlkOk X.N X.env.scope scope own) (hx : ∀ i ∈ nt.ix, i ∈ own.map (·.2)) (hg : Blk X scope fun Y => PG Y tg (gNT X.K nt)) (ht : Blk X scope fun Y => PTs Y ifs (liftT X.K tt)) (he : Blk X scope fun Y => PE Y elt (lift X.K we))
    (hs : ∀ x, foldedSetIterable iter X.env x = pure x := by intro _; rfl) : DE X (.ListComp elt [⟨tg, iter, ifs, 0⟩] scope pos) (wLcF wi nt tt we (own.map (·.2))) :=
  pe_imp (pe_lc hc hN hi ok hg ht he hs) fun σ H Q ⟨sd, S, Q0, st, q, an⟩ => lcG_tLc hx st q fun p S' H' ⟨acc, ha, q'⟩ n' s' => by
    obtain ⟨n2, s2, r2⟩ := frz_lst s' ha
    exact an _ _ _ _ q' (n'.trans n2) s2 r2
theorem de_lcP (hc : X.calm = true) (hN : X.N.Nodup) (hi : DI X tg iter wi) (ok : BlkOk X.N X.env.scope scope own) (hx : ∀ i ∈ nt.ix, i ∈ own.map (·.2)) (hg : Blk X scope fun Y => PG Y tg (gNT X.K nt)) (ht : Blk X scope fun Y => PTs Y ifs (liftT X.K tt)) (he : Blk X scope fun Y => PE Y elt (lift X.K we))
    (hs : ∀ x, foldedSetIterable iter X.env x = pure x := by intro _; rfl) : DE X (.ListComp elt [⟨tg, iter, ifs, 0⟩] scope pos) (wLcP wi nt tt we (own.map (·.2))) :=
  pe_imp (pe_lc hc hN hi ok hg ht he hs) fun σ H Q h => lcP_tLc hx h
/-- name = [..], stored within the comprehension -/
theorem setLc_lift {i : Nat} {wl : WE} {E : Ends} {σ : St} {H : Hp} {wi : WI} {nt : NT} {tt : WT} {we : WE} {vs : List Nat} (hh : ∀ Q, lift X.K wl σ H Q → tLc (liftI X.K wi) (gNT X.K nt) (liftT X.K tt) (lift X.K we) vs σ H Q)
    (h : liftS X.K (wAsg wl (gV i)) E σ H) : tAsg (tLc (liftI X.K wi) (gNT X.K nt) (liftT X.K tt) (lift X.K we) vs) (gName i) E σ H := by
  obtain ⟨sd, S, E0, st, q, an⟩ := h
  exact hh _ ⟨sd, S, _, st, q, fun d S1 v H1 q1 n1 s1 r1 => an.nx _ _ _ _ q1 n1 ((st.nx n1 s1).set i r1)⟩
theorem ds_setLcP {i : Nat} {y : Str} {py spos : Pos} (hc : X.calm = true) (hN : X.N.Nodup) (hi : DI X tg iter wi) (ok : BlkOk X.N X.env.scope scope own) (hx : ∀ i ∈ nt.ix, i ∈ own.map (·.2)) (hg : Blk X scope fun Y => PG Y tg (gNT X.K nt)) (ht : Blk X scope fun Y => PTs Y ifs (liftT X.K tt)) (he : Blk X scope fun Y => PE Y elt (lift X.K we))
    (hy : X.N[i]? = some y := by rfl) (hyl : X.env.scope.names.lookup y = some .local := by rfl) (hsw : swapsWith (.ListComp elt [⟨tg, iter, ifs, 0⟩] scope pos) (some (.Name y py)) spos.line X.env = pure true := by exact sw_true rfl rfl rfl (by decide +kernel)) (hs : ∀ x, foldedSetIterable iter X.env x = pure x := by intro _; rfl) :
    DS X (.Assign [.Name y py] (.ListComp elt [⟨tg, iter, ifs, 0⟩] scope pos) spos) (wAsg (wLcP wi nt tt we (own.map (·.2))) (gV i)) := ps_imp (ps_setLc hc hN hy hyl hsw hi ok hg ht he hs) fun E σ H h => setLc_lift (fun Q h => lcP_tLc hx h) h
end
end L2.DL

/-! DL6: operators, comparisons, built-ins over data -/
namespace L2.DL
open PySem PySem.Spec PyProof.Rows

/-! ### plain data -/
mutual
def pyD : D → Option PyData
  | .non => some .none
  | .bl b => some (.bool b)
  | .int i => some (.int i)
  | .str x => some (.str x)
  | .tup ds => (pyDs ds).map .tuple
  | .kt ds => (pyDs ds).map .tuple
  | .tf ds => (pyDs ds).map .tuple
  | .lst ds => (pyDs ds).map .list
  | .src ds => (pyDs ds).map .list
  | .ty _ => none
  | .dic _ _ => none
  | .fd _ _ => none
  | .gh _ _ => none
  | .ins _ _ => none
  | .obj _ => none
def pyDs : List D → Option (List PyData)
  | [] => some []
  | d :: ds => (pyD d).bind fun p => (pyDs ds).map fun ps => p :: ps
end
/-- the items of a list that may change -/
def objL : Option DO → Option (List D)
  | some (.lst ds) => some ds
  | _ => none
theorem objL_of {o : Option DO} {ds : List D} (h : objL o = some ds) : o = some (.lst ds) := by
  cases o with
  | none => cases h
  | some u =>
    cases u with
    | lst xs =>
      cases h
      rfl
    | _ => cases h
/-- .. also of a list that may change -/
def pyS (S : SO) : D → Option PyData
  | .obj a => (objL (S a)).bind fun ds => (pyDs ds).map .list
  | d => pyD d
section
variable {K : PySem.W.Frag} {S : SO} {H : Hp}
mutual
theorem rel_dp : ∀ (d : D) (v : V) (p : PyData), Rel K S H d v → pyD d = some p → Dp K H v p
  | .non, v, p, r, e => by
    cases e
    have r' : v = .non := r
    rw [r']
    exact .non
  | .bl b, v, p, r, e => by
    cases e
    have r' : v = .bl b := r
    rw [r']
    exact .bl b
  | .int b, v, p, r, e => by
    cases e
    have r' : v = .int b := r
    rw [r']
    exact .int b
  | .str b, v, p, r, e => by
    cases e
    have r' : v = .str b := r
    rw [r']
    exact .str b
  | .ty _, _, _, _, e => by cases e
  | .dic _ _, _, _, _, e => by cases e
  | .fd _ _, _, _, _, e => by cases e
  | .gh _ _, _, _, _, e => by cases e
  | .ins _ _, _, _, _, e => by cases e
  | .obj _, _, _, _, e => by cases e
  | .tup ds, v, p, r, e => by
    obtain ⟨ps, hp, rfl⟩ := Option.map_eq_some_iff.mp (show (pyDs ds).map PyData.tuple = some p from e)
    obtain ⟨a, vs, rfl, t, r⟩ := r
    exact .tup t.sq (rels_dp ds vs ps r hp)
  | .kt ds, v, p, r, e => by
    obtain ⟨ps, hp, rfl⟩ := Option.map_eq_some_iff.mp (show (pyDs ds).map PyData.tuple = some p from e)
    obtain ⟨a, vs, rfl, t, r⟩ := r
    exact .tup t.sq (rels_dp ds vs ps r hp)
  | .tf ds, v, p, r, e => by
    obtain ⟨ps, hp, rfl⟩ := Option.map_eq_some_iff.mp (show (pyDs ds).map PyData.tuple = some p from e)
    obtain ⟨a, vs, rfl, t, r⟩ := r
    exact .tup t.sq (rels_dp ds vs ps r hp)
  | .lst ds, v, p, r, e => by
    obtain ⟨ps, hp, rfl⟩ := Option.map_eq_some_iff.mp (show (pyDs ds).map PyData.list = some p from e)
    obtain ⟨a, vs, rfl, _, t, r⟩ := r
    exact .lst (.of t) (rels_dp ds vs ps r hp)
  | .src ds, v, p, r, e => by
    obtain ⟨ps, hp, rfl⟩ := Option.map_eq_some_iff.mp (show (pyDs ds).map PyData.list = some p from e)
    obtain ⟨a, vs, rfl, t, r⟩ := r
    exact .lst t.sq (rels_dp ds vs ps r hp)
theorem rels_dp : ∀ (ds : List D) (vs : List V) (ps : List PyData), Rels K S H ds vs → pyDs ds = some ps → DpAll K H vs ps
  | [], vs, ps, r, e => by
    cases e
    have r' : vs = [] := r
    rw [r']
    exact .nil
  | d :: ds, vs, ps, r, e => by
    obtain ⟨p, hp, e2⟩ := Option.bind_eq_some_iff.mp (show (pyD d).bind (fun p => (pyDs ds).map fun ps => p :: ps) = some ps from e)
    obtain ⟨qs, hq, rfl⟩ := Option.map_eq_some_iff.mp e2
    obtain ⟨v, us, rfl, r1, r2⟩ := r
    exact .cons (rel_dp d v p r1 hp) (rels_dp ds us qs r2 hq)
end
theorem relS_dp {d : D} {v : V} {p : PyData} (s : SRel K S H) (r : Rel K S H d v) (e : pyS S d = some p) : Dp K H v p := by
  cases d with
  | obj a =>
    obtain ⟨ds, hs, e2⟩ := Option.bind_eq_some_iff.mp (show (objL (S a)).bind (fun ds => (pyDs ds).map PyData.list) = some p from e)
    obtain ⟨ps, hp, rfl⟩ := Option.map_eq_some_iff.mp e2
    obtain ⟨vs, hv, rv⟩ := s a _ (objL_of hs)
    have r' : v = .ref a := r
    rw [r']
    exact .lst (.of hv) (rels_dp ds vs ps rv hp)
  | _ => exact rel_dp _ v p r e
end
/-- the items of a list, of a sequence -/
def lstD (S : SO) : D → Option (List D)
  | .lst xs => some xs
  | .obj a => objL (S a)
  | _ => none
theorem lstD_at {K : PySem.W.Frag} {S : SO} {H : Hp} {d : D} {v : V} {xs : List D} (s : SRel K S H) (r : Rel K S H d v) (e : lstD S d = some xs) : ∃ a vs, v = .ref a ∧ H a = some (.lst vs) ∧ Rels K S H xs vs := by
  cases d with
  | lst ys =>
    cases e
    obtain ⟨a, vs, h1, _, h2, h3⟩ := r
    exact ⟨a, vs, h1, h2, h3⟩
  | obj a =>
    obtain ⟨vs, hv, rv⟩ := s a _ (objL_of e)
    exact ⟨a, vs, r, hv, rv⟩
  | _ => cases e
/-- a list or tuple, read -/
def seqX (S : SO) : D → Option (List D)
  | .tup xs => some xs
  | .kt xs => some xs
  | .tf xs => some xs
  | .src xs => some xs
  | d => lstD S d
theorem seqX_at {K : PySem.W.Frag} {S : SO} {H : Hp} {d : D} {v : V} {xs : List D} (s : SRel K S H) (r : Rel K S H d v) (e : seqX S d = some xs) : ∃ a vs, v = .ref a ∧ (SqL K H a vs ∨ SqT K H a vs) ∧ Rels K S H xs vs := by
  have via : ∀ {d : D}, Rel K S H d v → lstD S d = some xs → ∃ a vs, v = .ref a ∧ (SqL K H a vs ∨ SqT K H a vs) ∧ Rels K S H xs vs := fun r e => let ⟨a, vs, h1, h2, h3⟩ := lstD_at s r e; ⟨a, vs, h1, .inl (.of h2), h3⟩
  cases d with
  | tup ys =>
    cases e
    obtain ⟨a, vs, h1, h2, h3⟩ := r
    exact ⟨a, vs, h1, .inr h2.sq, h3⟩
  | kt ys =>
    cases e
    obtain ⟨a, vs, h1, h2, h3⟩ := r
    exact ⟨a, vs, h1, .inr h2.sq, h3⟩
  | tf ys =>
    cases e
    obtain ⟨a, vs, h1, h2, h3⟩ := r
    exact ⟨a, vs, h1, .inr h2.sq, h3⟩
  | src ys =>
    cases e
    obtain ⟨a, vs, h1, h2, h3⟩ := r
    exact ⟨a, vs, h1, .inl h2.sq, h3⟩
  | _ => exact via r e

section
variable {X : Cx}
theorem ansd {K : PySem.W.Frag} {S : SO} {H : Hp} {Q0 : KD} {Q : VK} (d : D) {v : V} (s : SRel K S H) (an : Ans K S H Q0 Q) (q : Q0 d S) (r : Rel K S H d v) : Q v H := an d S v H q (.refl _ _) s r
/-! ### arithmetic -/
def opI2 (C : Int → Int → Prop) (g : Int → Int → D) : WO := fun x y S Q => match x with
  | .int i => (match y with
    | .int j => C i j ∧ Q (g i j) S
    | _ => False)
  | _ => False
theorem opI2_of {C : Int → Int → Prop} {g : Int → Int → D} {x y : D} {S : SO} {Q : KD} (h : opI2 C g x y S Q) : ∃ i j, x = .int i ∧ y = .int j ∧ C i j ∧ Q (g i j) S := by
  unfold opI2 at h
  split at h
  · split at h
    · exact ⟨_, _, rfl, rfl, h.1, h.2⟩
    · exact h.elim
  · exact h.elim
theorem do_I2 {f : Value → Value → Sem Value} {C : Int → Int → Prop} {g : Int → Int → D} {gv : Int → Int → V} (h : OpR X f (rI C gv)) (hg : ∀ i j K S H, Rel K S H (g i j) (gv i j)) : DO2 X f (opI2 C g) := by
  intro pins s σ H x y v u Q I rx ry ⟨dx, dy, S, Q0, sr, r1, r2, q, an⟩
  obtain ⟨i, j, rfl, rfl, hc, q⟩ := opI2_of q
  have e1 : x = .int i := r1
  have e2 : y = .int j := r2
  exact h pins s σ H x y v u Q I rx ry ⟨i, j, e1, e2, hc, ansd _ sr an q (hg i j _ _ _)⟩
theorem do_I2' {f : Value → Value → Sem Value} {g : Int → Int → D} {gv : Int → Int → V} (h : OpR X f (rI0 gv)) (hg : ∀ i j K S H, Rel K S H (g i j) (gv i j)) : DO2 X f (opI2 (fun _ _ => True) g) := by
  intro pins s σ H x y v u Q I rx ry ⟨dx, dy, S, Q0, sr, r1, r2, q, an⟩
  obtain ⟨i, j, rfl, rfl, hc, q⟩ := opI2_of q
  have e1 : x = .int i := r1
  have e2 : y = .int j := r2
  exact h pins s σ H x y v u Q I rx ry ⟨i, j, e1, e2, ansd _ sr an q (hg i j _ _ _)⟩
def oSub : WO := opI2 (fun _ _ => True) fun i j => .int (i - j)
theorem do_sub : DO2 X (binaryOp .Sub) oSub := do_I2' op_sub fun _ _ _ _ _ => rfl
def oMod : WO := opI2 (fun _ j => 0 < j) fun i j => .int (i % j)
theorem do_mod : DO2 X (binaryOp .Mod) oMod := do_I2 op_mod fun _ _ _ _ _ => rfl
def oDiv : WO := opI2 CDiv fun i j => .int (i / j)
theorem do_div : DO2 X (binaryOp .FloorDiv) oDiv := do_I2 op_fdiv fun _ _ _ _ _ => rfl
def oPow : WO := opI2 CPow fun i j => .int (i ^ j.toNat)
theorem do_pow : DO2 X (binaryOp .Pow) oPow := do_I2 op_pow fun _ _ _ _ _ => rfl
def oAnd : WO := opI2 (fun _ _ => True) fun i j => .int (Builtin.bitAnd i j)
def oOr : WO := opI2 (fun _ _ => True) fun i j => .int (Builtin.bitOr i j)
def oLt : WO := opI2 (fun _ _ => True) fun i j => .bl (decide (i < j))
theorem do_lt : DO2 X (compareOp .Lt) oLt := do_I2' op_lt fun _ _ _ _ _ => rfl
def oLe : WO := opI2 (fun _ _ => True) fun i j => .bl (decide (i ≤ j))
theorem do_le : DO2 X (compareOp .LtE) oLe := do_I2' op_le fun _ _ _ _ _ => rfl
def oGt : WO := opI2 (fun _ _ => True) fun i j => .bl (decide (j < i))
theorem do_gt : DO2 X (compareOp .Gt) oGt := do_I2' op_gt fun _ _ _ _ _ => rfl
def oGe : WO := opI2 (fun _ _ => True) fun i j => .bl (decide (j ≤ i))
theorem do_ge : DO2 X (compareOp .GtE) oGe := do_I2' op_ge fun _ _ _ _ _ => rfl
def oNeg : WU := fun x S Q => match x with
  | .int i => Q (.int (-i)) S
  | _ => False
theorem do_neg : DO1 X (unaryOp .USub) oNeg := by
  intro pins s σ H x v Q I rx ⟨dx, S, Q0, sr, r1, q, an⟩
  cases dx with
  | int i =>
    have e1 : x = .int i := r1
    exact un_neg pins s σ H x v Q I rx ⟨i, e1, ansd (.int (-i)) sr an q rfl⟩
  | _ => exact False.elim q
/-- + -/
def addL (a b : Option (List D)) (S : SO) (Q : KD) : Prop := match a, b with
  | some a, some b => a.length + b.length ≤ 1000000 ∧ Q (.lst (a ++ b)) S
  | _, _ => False
theorem addL_of {a b : Option (List D)} {S : SO} {Q : KD} (h : addL a b S Q) : ∃ x y, a = some x ∧ b = some y ∧ x.length + y.length ≤ 1000000 ∧ Q (.lst (x ++ y)) S := by
  cases a with
  | none => exact h.elim
  | some x =>
    cases b with
    | none => exact h.elim
    | some y => exact ⟨x, y, rfl, rfl, h.1, h.2⟩
def oAdd : WO := fun x y S Q => match x with
  | .int i => (match y with
    | .int j => Q (.int (i + j)) S
    | _ => False)
  | .str a => (match y with
    | .str b => a.length + b.length ≤ 1000000 ∧ Q (.str (a ++ b)) S
    | _ => False)
  | .tup a => (match y with
    | .tup b => a.length + b.length ≤ 1000000 ∧ Q (.tup (a ++ b)) S
    | _ => False)
  | d => addL (lstD S d) (lstD S y) S Q
theorem add_lists {dx dy : D} {S : SO} {Q0 : KD} {x y : V} {v u : Value} {pins : List (Addr × Obj)} {s : Shared} {σ : St} {H : Hp} {Q : VK} (I : Inv X pins σ H s) (rx : RelV x v) (ry : RelV y u) (sr : SRel X.K S H) (r1 : Rel X.K S H dx x) (r2 : Rel X.K S H dy y) (an : Ans X.K S H Q0 Q)
    (q : addL (lstD S dx) (lstD S dy) S Q0) : wpAny (model X.prog X.w) X.A (binaryOp .Add v u) (EP X pins σ Q) X.xe s := by
  obtain ⟨a, b, h1, h2, hl, q⟩ := addL_of q
  obtain ⟨l, vs, e1, h3, rv⟩ := lstD_at sr r1 h1
  obtain ⟨l', us, e2, h4, ru⟩ := lstD_at sr r2 h2
  refine op_cat pins s σ H x y v u Q I rx ry ⟨l, l', vs, us, e1, e2, h3, h4, by rw [← rv.length, ← ru.length]; exact le_line hl, fun p hp => ?_⟩
  exact an _ _ _ _ q (nx_new hp) (sr.new hp) ⟨p, _, rfl, sr.free hp, upd_same, (rv.app ru).nx (nx_new hp)⟩
theorem do_add : DO2 X (binaryOp .Add) oAdd := by
  intro pins s σ H x y v u Q I rx ry ⟨dx, dy, S, Q0, sr, r1, r2, q, an⟩
  cases dx with
  | int i =>
    cases dy with
    | int j => exact op_add pins s σ H x y v u Q I rx ry ⟨i, j, r1, r2, ansd (.int (i + j)) sr an q rfl⟩
    | _ => exact False.elim q
  | str a =>
    cases dy with
    | str b => exact op_add_str pins s σ H x y v u Q I rx ry ⟨a, b, r1, r2, le_line q.1, ansd (.str (a ++ b)) sr an q.2 rfl⟩
    | _ => exact False.elim q
  | tup a =>
    cases dy with
    | tup b =>
      obtain ⟨hl, q⟩ := q
      obtain ⟨p1, vs, e1, t1, rv⟩ := r1
      obtain ⟨p2, us, e2, t2, ru⟩ := r2
      have rvu := rv.app ru
      refine op_catA pins s σ H x y v u Q I rx ry ⟨p1, p2, vs, us, e1, e2, t1.sq, t2.sq, by rw [← rv.length, ← ru.length]; exact le_line hl, fun e => ?_, fun _ e => ?_, fun _ _ p hp => ?_⟩
      · subst e
        exact ansd _ sr an q ⟨p2, us, rfl, t2, rvu⟩
      · subst e
        rw [List.append_nil] at rvu
        exact ansd _ sr an q ⟨p1, vs, rfl, t1, rvu⟩
      · exact an _ _ _ _ q (nx_new hp) (sr.new hp) ⟨p, _, rfl, ⟨sr.free hp, upd_same⟩, rvu.nx (nx_new hp)⟩
    | _ => exact False.elim q
  | _ => exact add_lists I rx ry sr r1 r2 an q
/-- * -/
def mulL (a : Option (List D)) (y : D) (S : SO) (Q : KD) : Prop := ∃ xs k, a = some xs ∧ y = .int k ∧ 0 ≤ k ∧ k ≤ 1000 ∧ xs.length ≤ 1000 ∧ Q (.lst (List.replicate k.toNat xs).flatten) S
def oMul : WO := fun x y S Q => match x with
  | .int i => (match y with
    | .int j => CMul i j ∧ Q (.int (i * j)) S
    | _ => False)
  | .str a => (match y with
    | .int n => a.length ≤ 1000 ∧ n ≤ 1000 ∧ -1000 ≤ n ∧ Q (.str (Txt.mul a n)) S
    | _ => False)
  | d => mulL (lstD S d) y S Q
theorem mulOk_small {x : Str} {n : Int} (h1 : x.length ≤ 1000) (h2 : n ≤ 1000) (h3 : -1000 ≤ n) : MulOk x n := by
  refine ⟨by rw [decide_eq_false (by omega), decide_eq_false (by omega)]; rfl, fun h _ => ?_, fun h _ => ?_⟩
  · have hn : 0 < n := by omega
    intro hgt
    have h4 : (2 ^ 63 - 1 : Int) / n ≥ (2 ^ 63 - 1) / 1000 := by
      rw [ge_iff_le, Int.le_ediv_iff_mul_le hn]
      have : (2 ^ 63 - 1 : Int) / 1000 * n ≤ (2 ^ 63 - 1 : Int) / 1000 * 1000 := Int.mul_le_mul_of_nonneg_left h2 (by decide)
      omega
    have h5 : (2 ^ 63 - 1 : Int) / 1000 > 1000 := by decide
    omega
  · have h4 : x.length * n.toNat ≤ 1000 * 1000 := Nat.mul_le_mul h1 (by omega)
    have h5 : x.length * n.toNat ≤ sizeLine := le_line h4
    exact decide_eq_false (by omega)
theorem Rels.rep {K : PySem.W.Frag} {S : SO} {H : Hp} {a : List D} {vs : List V} (r : Rels K S H a vs) : ∀ n : Nat, Rels K S H (List.replicate n a).flatten (List.replicate n vs).flatten
  | 0 => rfl
  | n + 1 => by
    rw [List.replicate_succ, List.replicate_succ, List.flatten_cons, List.flatten_cons]
    exact r.app (r.rep n)
theorem mul_lists {dx dy : D} {S : SO} {Q0 : KD} {x y : V} {v u : Value} {pins : List (Addr × Obj)} {s : Shared} {σ : St} {H : Hp} {Q : VK} (I : Inv X pins σ H s) (rx : RelV x v) (ry : RelV y u) (sr : SRel X.K S H) (r1 : Rel X.K S H dx x) (r2 : Rel X.K S H dy y) (an : Ans X.K S H Q0 Q)
    (q : mulL (lstD S dx) dy S Q0) : wpAny (model X.prog X.w) X.A (binaryOp .Mult v u) (EP X pins σ Q) X.xe s := by
  obtain ⟨a, k, h1, rfl, h0, h2, h3, q⟩ := q
  obtain ⟨l, vs, e1, hl, rv⟩ := lstD_at sr r1 h1
  have e2 : y = .int k := r2
  refine op_rep pins s σ H x y v u Q I rx ry ⟨l, k, vs, e1, e2, hl, by omega, by omega, ?_, fun p hp => ?_⟩
  · rw [← rv.length]
    have h4 : a.length * k.toNat ≤ 1000 * 1000 := Nat.mul_le_mul h3 (by omega)
    exact le_line h4
  · exact an _ _ _ _ q (nx_new hp) (sr.new hp) ⟨p, _, rfl, sr.free hp, upd_same, (rv.rep _).nx (nx_new hp)⟩
theorem do_mul : DO2 X (binaryOp .Mult) oMul := by
  intro pins s σ H x y v u Q I rx ry ⟨dx, dy, S, Q0, sr, r1, r2, q, an⟩
  cases dx with
  | int i =>
    cases dy with
    | int j => exact op_mul pins s σ H x y v u Q I rx ry ⟨i, j, r1, r2, q.1, ansd (.int (i * j)) sr an q.2 rfl⟩
    | _ => exact False.elim q
  | str a =>
    cases dy with
    | int n =>
      have e1 : x = .str a := r1
      have e2 : y = .int n := r2
      subst e1 e2
      obtain ⟨t, rfl⟩ := rx
      obtain ⟨t', rfl⟩ := ry
      obtain ⟨h1, h2, h3, q⟩ := q
      exact SB.mul (mulOk_small h1 h2 h3) fun t2 k => ⟨.str _, H, I.tok k, ⟨t2, rfl⟩, ansd (.str (Txt.mul a n)) sr an q rfl⟩
    | _ => exact False.elim q
  | _ => exact mul_lists I rx ry sr r1 r2 an q
/-! ### ==, in, is -/
/-- x == y told by data -/
def eqG (x y : D) (S : SO) (k : Bool → Prop) : Prop := ∃ p q, pyS S x = some p ∧ pyS S y = some q ∧ SeqAt.shaped p = true ∧ SeqAt.shaped q = true ∧ k (PyData.eqv p q)
def eqD (x y : D) (S : SO) (k : Bool → Prop) : Prop := match x with
  | .int i => (match y with
    | .int j => k (decide (i = j))
    | y => eqG (.int i) y S k)
  | .str a => (match y with
    | .str b => k (decide (a = b))
    | y => eqG (.str a) y S k)
  | x => eqG x y S k
theorem eqD_cases {x y : D} {S : SO} {k : Bool → Prop} (h : eqD x y S k) : (∃ i j, x = .int i ∧ y = .int j ∧ k (decide (i = j))) ∨ (∃ a b, x = .str a ∧ y = .str b ∧ k (decide (a = b))) ∨ eqG x y S k := by
  cases x with
  | int i =>
    cases y with
    | int j => exact .inl ⟨i, j, rfl, rfl, h⟩
    | _ => exact .inr (.inr h)
  | str a =>
    cases y with
    | str j => exact .inr (.inl ⟨a, j, rfl, rfl, h⟩)
    | _ => exact .inr (.inr h)
  | _ => exact .inr (.inr h)
def oEq : WO := fun x y S Q => eqD x y S fun b => Q (.bl b) S
def oNe : WO := fun x y S Q => eqD x y S fun b => Q (.bl (!b)) S
theorem do_eq (hu : X.A.units + 65 < cLine) : DO2 X (compareOp .Eq) oEq := by
  intro pins s σ H x y v u Q I rx ry ⟨dx, dy, S, Q0, sr, r1, r2, q, an⟩
  rcases eqD_cases q with ⟨i, j, rfl, rfl, q⟩ | ⟨i, j, rfl, rfl, q⟩ | ⟨p, q, h1, h2, h3, h4, qq⟩
  · have e1 : x = .int i := r1
    have e2 : y = .int j := r2
    subst e1 e2
    refine op_eq pins s σ H _ _ v u Q I rx ry ⟨rfl, ?_⟩
    have e : decide (V.int i = V.int j) = decide (i = j) := by simp
    rw [e]
    exact ansd (.bl _) sr an q rfl
  · have e1 : x = .str i := r1
    have e2 : y = .str j := r2
    subst e1 e2
    refine op_eq pins s σ H _ _ v u Q I rx ry ⟨rfl, ?_⟩
    have e : decide (V.str i = V.str j) = decide (i = j) := by simp
    rw [e]
    exact ansd (.bl _) sr an q rfl
  · exact op_eqD (by omega) pins s σ H x y v u Q I rx ry ⟨p, q, relS_dp sr r1 h1, relS_dp sr r2 h2, h3, h4, ansd (.bl _) sr an qq rfl⟩
theorem do_ne (hu : X.A.units + 65 < cLine) : DO2 X (compareOp .NotEq) oNe := by
  intro pins s σ H x y v u Q I rx ry ⟨dx, dy, S, Q0, sr, r1, r2, q, an⟩
  rcases eqD_cases q with ⟨i, j, rfl, rfl, q⟩ | ⟨i, j, rfl, rfl, q⟩ | ⟨p, q, h1, h2, h3, h4, qq⟩
  · have e1 : x = .int i := r1
    have e2 : y = .int j := r2
    subst e1 e2
    refine op_ne pins s σ H _ _ v u Q I rx ry ⟨rfl, ?_⟩
    have e : decide (V.int i = V.int j) = decide (i = j) := by simp
    rw [e]
    exact ansd (.bl _) sr an q rfl
  · have e1 : x = .str i := r1
    have e2 : y = .str j := r2
    subst e1 e2
    refine op_ne pins s σ H _ _ v u Q I rx ry ⟨rfl, ?_⟩
    have e : decide (V.str i = V.str j) = decide (i = j) := by simp
    rw [e]
    exact ansd (.bl _) sr an q rfl
  · exact op_neD (by omega) pins s σ H x y v u Q I rx ry ⟨p, q, relS_dp sr r1 h1, relS_dp sr r2 h2, h3, h4, ansd (.bl _) sr an qq rfl⟩
def isNon : D → Bool
  | .non => true
  | .gh d _ => isNon d
  | _ => false
def oIsN : WO := fun x y S Q => y = .non ∧ Q (.bl (isNon x)) S
def oNotN : WO := fun x y S Q => y = .non ∧ Q (.bl (!isNon x)) S
theorem rel_non0 {K : PySem.W.Frag} {S : SO} {H : Hp} (d : D) (v : V) (ih : ∀ d' u, d = .gh d' u → Rel K S H d' u → decide (u = V.non) = isNon d') (r : Rel K S H d v) : decide (v = V.non) = isNon d := by
  have no : ∀ {u : V}, v = u → decide (u = V.non) = isNon d → decide (v = V.non) = isNon d := fun e h => by rw [e]; exact h
  cases d with
  | non => exact no (u := .non) r rfl
  | bl b => exact no (u := .bl b) r rfl
  | int b => exact no (u := .int b) r rfl
  | str b => exact no (u := .str b) r rfl
  | ty b => exact no (u := .ty b) r rfl
  | obj b => exact no (u := .ref b) r rfl
  | tup ds => exact let ⟨_, _, e, _⟩ := r; no e rfl
  | kt ds => exact let ⟨_, _, e, _⟩ := r; no e rfl
  | tf ds => exact let ⟨_, _, e, _⟩ := r; no e rfl
  | lst ds => exact let ⟨_, _, e, _⟩ := r; no e rfl
  | src ds => exact let ⟨_, _, e, _⟩ := r; no e rfl
  | dic t ds => exact let ⟨_, e, _⟩ := r; no e rfl
  | fd t ds => exact let ⟨_, e, _⟩ := r; no e rfl
  | ins C ds => exact let ⟨_, _, _, e, _⟩ := r; no e rfl
  | gh d u =>
    obtain ⟨e, r⟩ := r
    subst e
    exact ih d v rfl r
theorem rel_nonN {K : PySem.W.Frag} {S : SO} {H : Hp} : ∀ (n : Nat) (d : D) (v : V), sizeOf d < n → Rel K S H d v → decide (v = V.non) = isNon d
  | 0, _, _, h, _ => absurd h (Nat.not_lt_zero _)
  | n + 1, d, v, hn, r => rel_non0 d v (fun d' u e r' => rel_nonN n d' u (by
      subst e
      simp only [D.gh.sizeOf_spec] at hn
      omega) r') r
theorem rel_non {K : PySem.W.Frag} {S : SO} {H : Hp} {d : D} {v : V} (r : Rel K S H d v) : decide (v = V.non) = isNon d := rel_nonN _ d v (Nat.lt_succ_self _) r
theorem do_isN : DO2 X (compareOp .Is) oIsN := by
  intro pins s σ H x y v u Q I rx ry ⟨dx, dy, S, Q0, sr, r1, r2, ⟨e, q⟩, an⟩
  subst e
  have e2 : y = .non := r2
  exact op_isN pins s σ H x y v u Q I rx ry ⟨e2, by rw [rel_non r1]; exact ansd (.bl _) sr an q rfl⟩
theorem do_notN : DO2 X (compareOp .IsNot) oNotN := by
  intro pins s σ H x y v u Q I rx ry ⟨dx, dy, S, Q0, sr, r1, r2, ⟨e, q⟩, an⟩
  subst e
  have e2 : y = .non := r2
  exact op_notN pins s σ H x y v u Q I rx ry ⟨e2, by rw [rel_non r1]; exact ansd (.bl _) sr an q rfl⟩
end
end L2.DL

/-! DL7: containers: in, subscripts, slices, dicts; built-ins by values -/
namespace L2.DL
open PySem PySem.Spec PyProof.Rows

/-! ### dicts as data -/
section
open Classical
noncomputable def dget (kvs : List (D × D)) (k : D) : Option D := (kvs.find? fun p => decide (p.1 = k)).map (·.2)
noncomputable def dput (kvs : List (D × D)) (k v : D) : List (D × D) := if (dget kvs k).isSome = true then kvs.map fun p => if p.1 = k then (p.1, v) else p else kvs ++ [(k, v)]
theorem dget_nil {k : D} : dget [] k = none := rfl
theorem dget_cons {k k' d : D} {kvs : List (D × D)} : dget ((k', d) :: kvs) k = if k' = k then some d else dget kvs k := by
  unfold dget
  rw [List.find?_cons]
  by_cases e : k' = k
  · rw [if_pos e, decide_eq_true e]
    rfl
  · rw [if_neg e, decide_eq_false e]
theorem dget_put {kvs : List (D × D)} {k v k' : D} : dget (dput kvs k v) k' = if k = k' then some v else dget kvs k' := by
  have app : ∀ (l : List (D × D)), dget (l ++ [(k, v)]) k' = if (dget l k').isSome then dget l k' else if k = k' then some v else none := by
    intro l
    induction l with
    | nil =>
      rw [List.nil_append, dget_cons, dget_nil]
      rfl
    | cons p l ih =>
      obtain ⟨a, b⟩ := p
      rw [List.cons_append, dget_cons, dget_cons]
      by_cases e : a = k'
      · rw [if_pos e, if_pos e]
        rfl
      · rw [if_neg e, if_neg e]
        exact ih
  have mp : ∀ (l : List (D × D)), dget (l.map fun p => if p.1 = k then (p.1, v) else p) k' = if k = k' then (dget l k').map (fun _ => v) else dget l k' := by
    intro l
    induction l with
    | nil =>
      rw [List.map_nil, dget_nil]
      split <;> rfl
    | cons p l ih =>
      obtain ⟨a, b⟩ := p
      rw [List.map_cons]
      show dget ((if a = k then (a, v) else (a, b)) :: _) k' = _
      by_cases e : a = k
      · rw [if_pos e, dget_cons, dget_cons]
        by_cases e2 : a = k'
        · have e3 : k = k' := e.symm.trans e2
          rw [if_pos e2, if_pos e2, if_pos e3]
          rfl
        · have e3 : ¬ k = k' := fun z => e2 (e.trans z)
          rw [if_neg e2, if_neg e2, ih]
      · rw [if_neg e, dget_cons, dget_cons]
        by_cases e2 : a = k'
        · have e3 : ¬ k = k' := fun z => e (e2.trans z.symm)
          rw [if_pos e2, if_pos e2, if_neg e3]
        · rw [if_neg e2, if_neg e2, ih]
  unfold dput
  by_cases h : (dget kvs k).isSome = true
  · rw [if_pos h, mp]
    by_cases e : k = k'
    · subst e
      rw [if_pos rfl, if_pos rfl]
      obtain ⟨d, hd⟩ := Option.isSome_iff_exists.mp h
      rw [hd]
      rfl
    · rw [if_neg e, if_neg e]
  · rw [if_neg h, app]
    by_cases e : k = k'
    · subst e
      rw [if_neg h, if_pos rfl, if_pos rfl]
    · rw [if_neg e, if_neg e]
      cases hk : dget kvs k' with
      | none => rfl
      | some d => rfl
theorem dput_new {kvs : List (D × D)} {k v : D} (h : dget kvs k = none) : dput kvs k v = kvs ++ [(k, v)] := by
  unfold dput
  rw [h]
  exact if_neg (by simp)
theorem dput_length (kvs : List (D × D)) (k v : D) : (dput kvs k v).length ≤ kvs.length + 1 := by
  unfold dput
  split
  · rw [List.length_map]
    omega
  · rw [List.length_append, List.length_singleton]
    exact Nat.le_refl _
end
def keyOf : D → Option Key
  | .int i => some (.inl i)
  | .str x => some (.inr x)
  | _ => none
def keysOf : List D → Option (List Key)
  | [] => some []
  | d :: ds => (keyOf d).bind fun k => (keysOf ds).map fun ks => k :: ks
theorem keyOf_eq {d : D} {k : Key} (h : keyOf d = some k) : d = keyD k := by
  cases d with
  | int i =>
    cases h
    rfl
  | str i =>
    cases h
    rfl
  | _ => cases h
theorem keysOf_eq : ∀ {ds : List D} {ks : List Key}, keysOf ds = some ks → ds = ks.map keyD
  | [], ks, h => by
    cases h
    rfl
  | d :: ds, ks, h => by
    obtain ⟨k, h1, h2⟩ := Option.bind_eq_some_iff.mp h
    obtain ⟨r, h3, rfl⟩ := Option.map_eq_some_iff.mp h2
    rw [List.map_cons, ← keyOf_eq h1, ← keysOf_eq h3]
/-- a key of a dict of that kind -/
def keyOk (t : Bool) (k : D) : Prop := if t = true then ∃ ds ks, k = .tup ds ∧ keysOf ds = some ks else ∃ q, keyOf k = some q
theorem keyD_inj {a b : Key} (h : keyD a = keyD b) : a = b := by
  cases a <;> cases b <;> cases h <;> rfl
theorem keyDs_inj : ∀ {a b : List Key}, a.map keyD = b.map keyD → a = b
  | [], [], _ => rfl
  | [], _ :: _, e => by simp at e
  | _ :: _, [], e => by simp at e
  | x :: xs, y :: ys, e => by
    rw [List.map_cons, List.map_cons] at e
    injection e with e1 e2
    rw [keyD_inj e1, keyDs_inj e2]
section
variable {K : PySem.W.Frag} {S : SO} {H : Hp}
theorem rel_key {k : Key} {v : V} (h : Rel K S H (keyD k) v) : v = kV k := by
  cases k with
  | inl i => exact h
  | inr x => exact h
theorem rels_key : ∀ {ks : List Key} {vs : List V}, Rels K S H (ks.map keyD) vs → vs = ks.map kV
  | [], _, h => h
  | k :: ks, _, h => by
    obtain ⟨v, r, rfl, h1, h2⟩ := h
    rw [rel_key h1, rels_key h2]
    rfl
def OptR (K : PySem.W.Frag) (S : SO) (H : Hp) : Option D → Option V → Prop
  | some d, some v => Rel K S H d v
  | none, none => True
  | _, _ => False
theorem RelK.get : ∀ {kvs : List (D × D)} {l : List (Key × V)} (q : Key), RelK K S H kvs l → OptR K S H (dget kvs (keyD q)) (valV l q)
  | [], l, q, h => by
    have e : l = [] := h
    subst e
    exact trivial
  | (k, d) :: kvs, l, q, h => by
    obtain ⟨q', v, r, rfl, rfl, h1, h2⟩ := h
    rw [dget_cons]
    by_cases e : q' = q
    · rw [if_pos (by rw [e]), valV_pos (p := (q', v)) e]
      exact h1
    · rw [if_neg (fun z => e (keyD_inj z)), valV_neg (p := (q', v)) e]
      exact RelK.get q h2
theorem RelT.get : ∀ {kvs : List (D × D)} {l : List (List Key × V)} (q : List Key), RelT K S H kvs l → OptR K S H (dget kvs (.tup (q.map keyD))) (valV l q)
  | [], l, q, h => by
    have e : l = [] := h
    subst e
    exact trivial
  | (k, d) :: kvs, l, q, h => by
    obtain ⟨q', v, r, rfl, rfl, h1, h2⟩ := h
    rw [dget_cons]
    by_cases e : q' = q
    · rw [if_pos (by rw [e]), valV_pos (p := (q', v)) e]
      exact h1
    · rw [if_neg (fun z => e (keyDs_inj (by injection z))), valV_neg (p := (q', v)) e]
      exact RelT.get q h2
theorem OptR.isSome {o : Option D} {u : Option V} (h : OptR K S H o u) : u.isSome = o.isSome := by
  cases o <;> cases u <;> first | rfl | exact h.elim
theorem RelK.length : ∀ {kvs : List (D × D)} {l : List (Key × V)}, RelK K S H kvs l → kvs.length = l.length
  | [], l, h => by
    have e : l = [] := h
    rw [e]
    rfl
  | (k, d) :: kvs, l, h => by
    obtain ⟨q', v, r, rfl, rfl, h1, h2⟩ := h
    rw [List.length_cons, List.length_cons, h2.length]
theorem RelT.length : ∀ {kvs : List (D × D)} {l : List (List Key × V)}, RelT K S H kvs l → kvs.length = l.length
  | [], l, h => by
    have e : l = [] := h
    rw [e]
    rfl
  | (k, d) :: kvs, l, h => by
    obtain ⟨q', v, r, rfl, rfl, h1, h2⟩ := h
    rw [List.length_cons, List.length_cons, h2.length]
theorem RelK.snoc {q : Key} {d : D} {v : V} (hr : Rel K S H d v) : ∀ {kvs : List (D × D)} {l : List (Key × V)}, RelK K S H kvs l → RelK K S H (kvs ++ [(keyD q, d)]) (l ++ [(q, v)])
  | [], l, h => by
    have e : l = [] := h
    subst e
    exact ⟨q, v, [], rfl, rfl, hr, rfl⟩
  | (k, d') :: kvs, l, h => by
    obtain ⟨q', v', r, rfl, rfl, h1, h2⟩ := h
    exact ⟨q', v', _, rfl, rfl, h1, h2.snoc hr⟩
theorem RelT.snoc {q : List Key} {d : D} {v : V} (hr : Rel K S H d v) : ∀ {kvs : List (D × D)} {l : List (List Key × V)}, RelT K S H kvs l → RelT K S H (kvs ++ [(.tup (q.map keyD), d)]) (l ++ [(q, v)])
  | [], l, h => by
    have e : l = [] := h
    subst e
    exact ⟨q, v, [], rfl, rfl, hr, rfl⟩
  | (k, d') :: kvs, l, h => by
    obtain ⟨q', v', r, rfl, rfl, h1, h2⟩ := h
    exact ⟨q', v', _, rfl, rfl, h1, h2.snoc hr⟩
open Classical in
theorem RelK.repl {q : Key} {d : D} {v : V} (hr : Rel K S H d v) : ∀ {kvs : List (D × D)} {l : List (Key × V)}, RelK K S H kvs l → RelK K S H (kvs.map fun p => if p.1 = keyD q then (p.1, d) else p) (l.map fun p => if p.1 = q then (p.1, v) else p)
  | [], l, h => by
    have e : l = [] := h
    subst e
    exact rfl
  | (k, d') :: kvs, l, h => by
    obtain ⟨q', v', r, rfl, rfl, h1, h2⟩ := h
    rw [List.map_cons, List.map_cons]
    by_cases e : q' = q
    · rw [if_pos (by rw [e]), if_pos e]
      exact ⟨q', v, _, rfl, rfl, hr, h2.repl hr⟩
    · rw [if_neg (fun z => e (keyD_inj z)), if_neg e]
      exact ⟨q', v', _, rfl, rfl, h1, h2.repl hr⟩
open Classical in
theorem RelT.repl {q : List Key} {d : D} {v : V} (hr : Rel K S H d v) : ∀ {kvs : List (D × D)} {l : List (List Key × V)}, RelT K S H kvs l → RelT K S H (kvs.map fun p => if p.1 = .tup (q.map keyD) then (p.1, d) else p) (l.map fun p => if p.1 = q then (p.1, v) else p)
  | [], l, h => by
    have e : l = [] := h
    subst e
    exact rfl
  | (k, d') :: kvs, l, h => by
    obtain ⟨q', v', r, rfl, rfl, h1, h2⟩ := h
    rw [List.map_cons, List.map_cons]
    by_cases e : q' = q
    · rw [if_pos (by rw [e]), if_pos e]
      exact ⟨q', v, _, rfl, rfl, hr, h2.repl hr⟩
    · rw [if_neg (fun z => e (keyDs_inj (by injection z))), if_neg e]
      exact ⟨q', v', _, rfl, rfl, h1, h2.repl hr⟩
theorem RelK.put {q : Key} {d : D} {v : V} {kvs : List (D × D)} {l : List (Key × V)} (h : RelK K S H kvs l) (hr : Rel K S H d v) : RelK K S H (dput kvs (keyD q) d) (putK l q v) := by
  have g := (h.get q).isSome
  unfold dput putK
  rw [valV_any, g]
  split
  · exact h.repl hr
  · exact h.snoc hr
theorem RelT.put {q : List Key} {d : D} {v : V} {kvs : List (D × D)} {l : List (List Key × V)} (h : RelT K S H kvs l) (hr : Rel K S H d v) : RelT K S H (dput kvs (.tup (q.map keyD)) d) (putK l q v) := by
  have g := (h.get q).isSome
  unfold dput putK
  rw [valV_any, g]
  split
  · exact h.repl hr
  · exact h.snoc hr
end
def objD : Option DO → Option (Bool × List (D × D))
  | some (.dic t kvs) => some (t, kvs)
  | _ => none
def dicX (S : SO) : D → Option (Bool × List (D × D))
  | .dic t kvs => some (t, kvs)
  | .fd false kvs => some (false, kvs)
  | .obj a => objD (S a)
  | _ => none
theorem objD_of {o : Option DO} {t : Bool} {kvs : List (D × D)} (h : objD o = some (t, kvs)) : o = some (.dic t kvs) := by
  cases o with
  | none => cases h
  | some u =>
    cases u with
    | dic t' kvs' =>
      cases h
      rfl
    | _ => cases h
def DicAt (K : PySem.W.Frag) (S : SO) (H : Hp) (a : Addr) (t : Bool) (kvs : List (D × D)) : Prop := (∃ l, t = false ∧ H a = some (.dK l) ∧ RelK K S H kvs l) ∨ (∃ l, t = true ∧ H a = some (.dT l) ∧ RelT K S H kvs l)
/-- .. to be read: locked or not -/
def DicRd (K : PySem.W.Frag) (S : SO) (H : Hp) (a : Addr) (t : Bool) (kvs : List (D × D)) : Prop := (∃ l, t = false ∧ Rd H a (.dK l) ∧ RelK K S H kvs l) ∨ (∃ l, t = true ∧ H a = some (.dT l) ∧ RelT K S H kvs l)
theorem DicAt.rd {K : PySem.W.Frag} {S : SO} {H : Hp} {a : Addr} {t : Bool} {kvs : List (D × D)} : DicAt K S H a t kvs → DicRd K S H a t kvs
  | .inl ⟨l, ht, h, r⟩ => .inl ⟨l, ht, .inl h, r⟩
  | .inr h => .inr h
theorem dicX_at {K : PySem.W.Frag} {S : SO} {H : Hp} {d : D} {v : V} {t : Bool} {kvs : List (D × D)} (s : SRel K S H) (r : Rel K S H d v) (e : dicX S d = some (t, kvs)) : ∃ a, v = .ref a ∧ DicRd K S H a t kvs := by
  cases d with
  | dic t' kvs' =>
    cases e
    obtain ⟨a, h1, _, h2⟩ := r
    exact ⟨a, h1, DicAt.rd h2⟩
  | fd t' kvs' =>
    cases t' with
    | true => cases e
    | false =>
      cases e
      obtain ⟨a, h1, _, ⟨o, l, _, h2, h3⟩ | ⟨o, l, z, _⟩⟩ := r
      · exact ⟨a, h1, .inl ⟨l, rfl, .inr ⟨o, h2⟩, h3⟩⟩
      · cases z
  | obj a => exact ⟨a, r, DicAt.rd (s a _ (objD_of e))⟩
  | _ => cases e
theorem DicRd.get {K : PySem.W.Frag} {S : SO} {H : Hp} {a : Addr} {t : Bool} {kvs : List (D × D)} {k : D} {y : V} (h : DicRd K S H a t kvs) (r : Rel K S H k y) (ok : keyOk t k) : ∃ o, DGet H a y o ∧ OptR K S H (dget kvs k) o := by
  rcases h with ⟨l, rfl, hl, rl⟩ | ⟨l, rfl, hl, rl⟩
  · obtain ⟨q, hq⟩ := ok
    have e := keyOf_eq hq
    subst e
    rw [rel_key r]
    exact ⟨_, .inl ⟨l, q, hl, rfl, rfl⟩, rl.get q⟩
  · obtain ⟨ds, ks, rfl, hk⟩ := ok
    have e := keysOf_eq hk
    subst e
    obtain ⟨b, vs, rfl, tb, rv⟩ := r
    have e2 := rels_key rv
    subst e2
    exact ⟨_, DGet.t hl tb.2, rl.get ks⟩
theorem DicAt.put {K : PySem.W.Frag} {S : SO} {H : Hp} {a : Addr} {t : Bool} {kvs : List (D × D)} {k d : D} {y v : V} (h : DicAt K S H a t kvs) (r : Rel K S H k y) (ok : keyOk t k) (rv : Rel K S H d v) (hz : kvs.length < 1000000) :
    ∃ o, DPut H a y v (upd H a o) ∧ (∀ S' H', Nx S H S' H' → H' a = some o → DicAt K S' H' a t (dput kvs k d)) := by
  rcases h with ⟨l, rfl, hl, rl⟩ | ⟨l, rfl, hl, rl⟩
  · obtain ⟨q, hq⟩ := ok
    have e := keyOf_eq hq
    subst e
    rw [rel_key r]
    exact ⟨_, DPut.k hl (by rw [← rl.length]; exact Nat.lt_of_lt_of_le hz (le_line (Nat.le_refl _))), fun S' H' n e => .inl ⟨_, rfl, e, RelK.nx n _ _ (rl.put rv)⟩⟩
  · obtain ⟨ds, ks, rfl, hk⟩ := ok
    have e := keysOf_eq hk
    subst e
    obtain ⟨b, vs, rfl, tb, rvs⟩ := r
    have e2 := rels_key rvs
    subst e2
    exact ⟨_, DPut.t hl tb.2 (by rw [← rl.length]; exact Nat.lt_of_lt_of_le hz (le_line (Nat.le_refl _))), fun S' H' n e => .inr ⟨_, rfl, e, RelT.nx n _ _ (rl.put rv)⟩⟩
end L2.DL

/-! DL8: in, subscripts, slices, len and other built-ins -/
namespace L2.DL
open PySem PySem.Spec PyProof.Rows

/-! ### in -/
def strIn (i j : Str) : Bool := !(Builtin.Str.occurrences j i 0 j.length 1).isEmpty
/-- x is equal to one of the items -/
def memD (S : SO) (x : D) (xs : List D) (k : Bool → Prop) : Prop := ∃ p ps, pyS S x = some p ∧ pyDs xs = some ps ∧ SeqAt.shaped p = true ∧ SeqAt.shaped (.list ps) = true ∧ k (ps.any fun z => PyData.eqv z p)
def inD (x y : D) (S : SO) (k : Bool → Prop) : Prop := match y with
  | .str j => (match x with
    | .str i => k (strIn i j)
    | _ => False)
  | y => (∃ xs, seqX S y = some xs ∧ memD S x xs k) ∨ (∃ t kvs, dicX S y = some (t, kvs) ∧ keyOk t x ∧ k (dget kvs x).isSome)
def oIn : WO := fun x y S Q => inD x y S fun b => Q (.bl b) S
def oNotIn : WO := fun x y S Q => inD x y S fun b => Q (.bl (!b)) S
theorem inD_cases {x y : D} {S : SO} {k : Bool → Prop} (h : inD x y S k) : (∃ i j, x = .str i ∧ y = .str j ∧ k (strIn i j)) ∨ (∃ xs, seqX S y = some xs ∧ memD S x xs k) ∨ (∃ t kvs, dicX S y = some (t, kvs) ∧ keyOk t x ∧ k (dget kvs x).isSome) := by
  cases y with
  | str j =>
    cases x with
    | str i => exact .inl ⟨i, j, rfl, rfl, h⟩
    | _ => exact False.elim h
  | _ => exact .inr h
theorem shaped_tup {ps : List PyData} (h : SeqAt.shaped (.list ps) = true) : PyData.canLayAll0 ps = true := by
  have := SeqAt.canLay_of_shaped h
  exact this
section
variable {X : Cx}
theorem seq_in {K : PySem.W.Frag} {S : SO} {H : Hp} {d : D} {v : V} {xs : List D} {ps : List PyData} (s : SRel K S H) (r : Rel K S H d v) (e : seqX S d = some xs) (hp : pyDs xs = some ps) : Dp K H v (.list ps) ∨ Dp K H v (.tuple ps) := by
  obtain ⟨a, vs, rfl, h, rv⟩ := seqX_at s r e
  exact h.elim (fun h => .inl (.lst h (rels_dp _ _ _ rv hp))) fun h => .inr (.tup h (rels_dp _ _ _ rv hp))
theorem do_in (hu : X.A.units + 65 < cLine) : DO2 X (compareOp .In) oIn := by
  intro pins s σ H x y v u Q I rx ry ⟨dx, dy, S, Q0, sr, r1, r2, q, an⟩
  rcases inD_cases q with ⟨i, j, rfl, rfl, q⟩ | ⟨xs, e, p, ps, hp, hps, sp, sps, q⟩ | ⟨t, kvs, e, ok, q⟩
  · exact op_in_str pins s σ H x y v u Q I rx ry ⟨i, j, r1, r2, ansd (.bl _) sr an q rfl⟩
  · have dp := relS_dp sr r1 hp
    rcases seq_in sr r2 e hps with dq | dq
    · exact op_inD hu pins s σ H x y v u Q I rx ry ⟨p, ps, dp, dq, sp, sps, ansd (.bl _) sr an q rfl⟩
    · obtain ⟨as, ra⟩ := Dp.reads I p x v dp rx
      obtain ⟨bs, rb⟩ := Dp.reads I (.tuple ps) y u dq ry
      exact SeqAt.in_tuple_reads rb ra (shaped_tup sps) (SeqAt.canLay_of_shaped sp) (room_in_shaped sp hu) ⟨.bl _, H, I, rfl, ansd (.bl _) sr an q rfl⟩
  · obtain ⟨a, rfl, da⟩ := dicX_at sr r2 e
    obtain ⟨o, g, oo⟩ := da.get r1 ok
    cases ry
    refine d_in (by omega) I g rx fun s' I' => ⟨.bl o.isSome, H, I', rfl, ?_⟩
    rw [oo.isSome]
    exact ansd (.bl _) sr an q rfl
theorem do_notIn (hu : X.A.units + 65 < cLine) : DO2 X (compareOp .NotIn) oNotIn := by
  intro pins s σ H x y v u Q I rx ry ⟨dx, dy, S, Q0, sr, r1, r2, q, an⟩
  rcases inD_cases q with ⟨i, j, rfl, rfl, q⟩ | ⟨xs, e, p, ps, hp, hps, sp, sps, q⟩ | ⟨t, kvs, e, ok, q⟩
  · exact op_notin_str pins s σ H x y v u Q I rx ry ⟨i, j, r1, r2, ansd (.bl _) sr an q rfl⟩
  · have dp := relS_dp sr r1 hp
    rcases seq_in sr r2 e hps with dq | dq
    · exact op_notInD hu pins s σ H x y v u Q I rx ry ⟨p, ps, dp, dq, sp, sps, ansd (.bl _) sr an q rfl⟩
    · obtain ⟨as, ra⟩ := Dp.reads I p x v dp rx
      obtain ⟨bs, rb⟩ := Dp.reads I (.tuple ps) y u dq ry
      exact SeqAt.notIn_tuple_reads rb ra (shaped_tup sps) (SeqAt.canLay_of_shaped sp) (room_in_shaped sp hu) ⟨.bl _, H, I, rfl, ansd (.bl _) sr an q rfl⟩
  · obtain ⟨a, rfl, da⟩ := dicX_at sr r2 e
    obtain ⟨o, g, oo⟩ := da.get r1 ok
    cases ry
    refine d_notIn (by omega) I g rx fun s' I' => ⟨.bl (!o.isSome), H, I', rfl, ?_⟩
    rw [oo.isSome]
    exact ansd (.bl _) sr an q rfl

/-! ### a[i] -/
def oIx : WO := fun x y S Q => (∃ xs i v, seqX S x = some xs ∧ y = .int i ∧ atI xs i = some v ∧ Q v S) ∨ (∃ z i c, x = .str z ∧ y = .int i ∧ z.length ≤ 1000000 ∧ atI z.cps.toList i = some c ∧ Q (.str ⟨#[c]⟩) S) ∨
  (∃ t kvs v, dicX S x = some (t, kvs) ∧ keyOk t y ∧ dget kvs y = some v ∧ Q v S)
theorem do_ix (hu : X.A.units + 65 < cLine) : IxR X (liftO X.K oIx) := by
  intro value slice pins s σ H x y v u Q I rx ry ⟨dx, dy, S, Q0, sr, r1, r2, q, an⟩ hs
  rcases q with ⟨xs, i, d, e, rfl, hi, q⟩ | ⟨z, i, c, rfl, rfl, hz, hi, q⟩ | ⟨t, kvs, d, e, ok, hd, q⟩
  · obtain ⟨a, vs, ex, hq, rv⟩ := seqX_at sr r1 e
    have e2 : y = .int i := r2
    unfold atI at hi
    obtain ⟨j, hj, hx⟩ := Option.bind_eq_some_iff.mp hi
    obtain ⟨w, hw, rw'⟩ := rv.get hx
    have hi2 : atI vs i = some w := by
      unfold atI
      rw [← rv.length, hj]
      exact hw
    have qw : Q w H := ansd d sr an q rw'
    rcases hq with hq | hq
    · exact ix_list value slice pins s σ H x y v u Q I rx ry ⟨a, vs, i, w, ex, e2, hq, hi2, qw⟩ hs
    · exact ix_tup value slice pins s σ H x y v u Q I rx ry ⟨a, vs, i, w, ex, e2, hq, hi2, qw⟩ hs
  · exact ix_str value slice pins s σ H x y v u Q I rx ry ⟨z, i, c, r1, r2, le_line hz, hi, ansd (.str _) sr an q rfl⟩ hs
  · obtain ⟨a, rfl, da⟩ := dicX_at sr r1 e
    obtain ⟨o, g, oo⟩ := da.get r2 ok
    rw [hd] at oo
    cases o with
    | none => exact oo.elim
    | some w =>
      cases rx
      exact tail_any (dict_typeIs I g) PySem.F.slot_dict_getitem.lookup (d_getItem (by omega) I g ry fun w' s' I' rw' => ⟨w, H, I', rw', ansd d sr an q oo⟩) hs
theorem de_ix {a b : Expr} {wa wb : WE} {pos : Pos} (hu : X.A.units + 65 < cLine) (ha : DE X a wa) (hb : DE X b wb) (hs : PlainIx b := by intro _ _; rfl) : DE X (.Subscript a b pos) (wO oIx wa wb) :=
  pe_imp (pe_ix (do_ix hu) ha hb hs) fun σ H Q h => two h fun v u H2 x y S2 Q0 s2 r1 r2 q2 an => ⟨x, y, S2, Q0, s2, r1, r2, q2, an⟩

/-! ### a[lo:hi] -/
abbrev WP := SD → SO → (Option Int → SO → Prop) → Prop
def liftP (K : PySem.W.Frag) (w : WP) : TO := fun σ H Q => ∃ sd S Q0, Sta K sd S σ H ∧ w sd S Q0 ∧ ∀ o S' H', Q0 o S' → Nx S H S' H' → SRel K S' H' → Q o H'
abbrev DP (X : Cx) (e : Option Expr) (w : WP) : Prop := PO X e (liftP X.K w)
theorem po_imp {e : Option Expr} {t t' : TO} (h : PO X e t) (i : ∀ σ H Q, t' σ H Q → t σ H Q) : PO X e t' := ⟨fun pins s σ H Q I q => h.run pins s σ H Q I (i σ H Q q)⟩
def pNone : WP := fun _ S Q => Q none S
def isI0 (k : Int → SO → Prop) : KD := fun d S => match d with
  | .int i => k i S
  | _ => False
structure IsI (k : Int → SO → Prop) (d : D) (S : SO) : Prop where
  ex : isI0 k d S
def isI (k : Int → SO → Prop) : KD := fun d S => IsI k d S
def pSome (we : WE) : WP := fun sd S Q => we sd S (isI fun i S1 => Q (some i) S1)
theorem dp_none : DP X none pNone := po_imp po_none fun σ H Q ⟨sd, S, Q0, st, q, an⟩ => an _ _ _ q (.refl _ _) st.s
theorem dp_some {e : Expr} {we : WE} (h : DE X e we) : DP X (some e) (pSome we) := po_imp (po_some h) fun σ H Q ⟨sd, S, Q0, st, q, an⟩ => ⟨sd, S, _, st, q, fun d S1 v H1 q1 n1 s1 r1 => by
  have q1 := q1.ex
  cases d with
  | int i => exact ⟨i, r1, an _ _ _ q1 n1 s1⟩
  | _ => exact False.elim q1⟩
def cutD (xs : List D) (lo hi : Option Int) : List D := (xs.drop (HT.sIx xs.length 0 lo)).take (HT.sIx xs.length xs.length hi - HT.sIx xs.length 0 lo)
theorem Rels.cut {K : PySem.W.Frag} {S : SO} {H : Hp} {xs : List D} {vs : List V} (r : Rels K S H xs vs) (lo hi : Option Int) : Rels K S H (cutD xs lo hi) (cutV vs lo hi) := by
  unfold cutD cutV
  rw [← r.length]
  exact (r.drop _).take _
/-- what the slice of it is -/
def sliD (d : D) (S : SO) (lo hi : Option Int) (Q : KD) : Prop := match d with
  | .str z => z.length ≤ 1000000 ∧ Q (.str (cutS z lo hi)) S
  | .tup xs => Q (.tup (cutD xs lo hi)) S
  | .kt xs => ¬ (HT.sIx xs.length 0 lo = 0 ∧ HT.sIx xs.length xs.length hi = xs.length) ∧ Q (.tup (cutD xs lo hi)) S
  | .tf xs => ¬ (HT.sIx xs.length 0 lo = 0 ∧ HT.sIx xs.length xs.length hi = xs.length) ∧ Q (.tup (cutD xs lo hi)) S
  | .src xs => Q (.lst (cutD xs lo hi)) S
  | d => ∃ xs, lstD S d = some xs ∧ Q (.lst (cutD xs lo hi)) S
def wSl (we : WE) (tl th : WP) : WE := fun sd S Q => we sd S fun d S1 => tl sd S1 fun lo S2 => th sd S2 fun hi S3 => sliD d S3 lo hi Q
theorem cutD_all {xs : List D} {lo hi : Option Int} (h : HT.sIx xs.length 0 lo = 0 ∧ HT.sIx xs.length xs.length hi = xs.length) : cutD xs lo hi = xs := by
  unfold cutD
  rw [h.1, h.2]
  simp
theorem sl_d : SlR X (fun x lo hi H Q => ∃ d S Q0, SRel X.K S H ∧ Rel X.K S H d x ∧ sliD d S lo hi Q0 ∧ Ans X.K S H Q0 Q) := by
  intro pins s σ H x v vl vu lo hi sl Q I rx hs pl pu ⟨d, S, Q0, sr, r, q, an⟩
  have lists : ∀ {a : Addr} {vs : List V} {xs : List D}, x = .ref a → SqL X.K H a vs → Rels X.K S H xs vs → Q0 (.lst (cutD xs lo hi)) S → ∃ T id, typeLookup (.type T) "__getitem__" = pure (some (.builtin id)) ∧ s.TypeIs v T ∧ wpAny (model X.prog X.w) X.A (getItem v (.ref sl)) (EP X pins σ Q) X.xe s := fun e hq rv q =>
    sl_list pins s σ H x v vl vu lo hi sl Q I rx hs pl pu ⟨_, _, e, hq, fun p hp => an _ _ _ _ q (nx_new hp) (sr.new hp) ⟨p, _, rfl, sr.free hp, upd_same, (rv.cut lo hi).nx (nx_new hp)⟩⟩
  have via : ∀ {d : D} {xs : List D}, Rel X.K S H d x → lstD S d = some xs → Q0 (.lst (cutD xs lo hi)) S → ∃ T id, typeLookup (.type T) "__getitem__" = pure (some (.builtin id)) ∧ s.TypeIs v T ∧ wpAny (model X.prog X.w) X.A (getItem v (.ref sl)) (EP X pins σ Q) X.xe s := fun r e q =>
    let ⟨a, vs, h1, h2, h3⟩ := lstD_at sr r e
    lists h1 (.of h2) h3 q
  cases d with
  | str z => exact sl_str pins s σ H x v vl vu lo hi sl Q I rx hs pl pu ⟨z, r, le_line q.1, ansd (.str _) sr an q.2 rfl⟩
  | tup xs =>
    obtain ⟨a, vs, e, t, rv⟩ := r
    refine sl_tupA pins s σ H x v vl vu lo hi sl Q I rx hs pl pu ⟨a, vs, e, t.sq, fun hw => ?_, fun _ p hp => an _ _ _ _ q (nx_new hp) (sr.new hp) ⟨p, _, rfl, ⟨sr.free hp, upd_same⟩, (rv.cut lo hi).nx (nx_new hp)⟩⟩
    rw [← rv.length] at hw
    have q' : Q0 (.tup (cutD xs lo hi)) S := q
    rw [cutD_all hw] at q'
    exact ansd (.tup xs) sr an q' ⟨a, vs, rfl, t, rv⟩
  | kt xs =>
    obtain ⟨a, vs, e, t, rv⟩ := r
    refine sl_tupA pins s σ H x v vl vu lo hi sl Q I rx hs pl pu ⟨a, vs, e, t.sq, fun hw => absurd (by rw [rv.length]; exact hw) q.1, fun _ p hp => an _ _ _ _ q.2 (nx_new hp) (sr.new hp) ⟨p, _, rfl, ⟨sr.free hp, upd_same⟩, (rv.cut lo hi).nx (nx_new hp)⟩⟩
  | tf xs =>
    obtain ⟨a, vs, e, t, rv⟩ := r
    refine sl_tupA pins s σ H x v vl vu lo hi sl Q I rx hs pl pu ⟨a, vs, e, t.sq, fun hw => absurd (by rw [rv.length]; exact hw) q.1, fun _ p hp => an _ _ _ _ q.2 (nx_new hp) (sr.new hp) ⟨p, _, rfl, ⟨sr.free hp, upd_same⟩, (rv.cut lo hi).nx (nx_new hp)⟩⟩
  | src xs =>
    obtain ⟨a, vs, e, t, rv⟩ := r
    exact lists e t.sq rv q
  | lst xs => exact let ⟨ys, e, q⟩ := q; via r e q
  | obj a => exact let ⟨ys, e, q⟩ := q; via r e q
  | _ => exact let ⟨_, e, _⟩ := q; nomatch e
theorem de_sl {a : Expr} {lo hi : Option Expr} {we : WE} {tl th : WP} {pos p2 : Pos} (ha : DE X a we) (hl : DP X lo tl) (hh : DP X hi th) : DE X (.Subscript a (.Slice lo hi none p2) pos) (wSl we tl th) :=
  pe_imp (pe_slice sl_d ha hl hh) fun σ H Q ⟨sd, S, Q0, st, q, an⟩ => ⟨sd, S, _, st, q, fun d S1 v H1 q1 n1 s1 r1 => ⟨sd, S1, _, st.nx n1 s1, q1, fun o S2 H2 q2 n2 s2 => ⟨sd, S2, _, (st.nx n1 s1).nx n2 s2, q2, fun o3 S3 H3 q3 n3 s3 =>
    ⟨d, S3, Q0, s3, (Rel.nx (n2.trans n3) _ _ r1), q3, an.nx (n1.trans (n2.trans n3))⟩⟩⟩⟩
end
end L2.DL

/-! DL9: built-ins by values, methods, stores -/
namespace L2.DL
open PySem PySem.Spec PyProof.Rows

section
variable {K : PySem.W.Frag} {S : SO} {H : Hp}
theorem rels_ints : ∀ {ns : List Int} {vs : List V}, Rels K S H (ns.map D.int) vs → vs = ns.map V.int
  | [], _, h => h
  | k :: ks, _, h => by
    obtain ⟨v, r, rfl, h1, h2⟩ := h
    have e : v = .int k := h1
    rw [e, rels_ints h2]
    rfl
theorem rels_strs : ∀ {ns : List Str} {vs : List V}, Rels K S H (ns.map D.str) vs → vs = ns.map V.str
  | [], _, h => h
  | k :: ks, _, h => by
    obtain ⟨v, r, rfl, h1, h2⟩ := h
    have e : v = .str k := h1
    rw [e, rels_strs h2]
    rfl
theorem rels_bls : ∀ {ns : List Bool} {vs : List V}, Rels K S H (ns.map D.bl) vs → vs = ns.map V.bl
  | [], _, h => h
  | k :: ks, _, h => by
    obtain ⟨v, r, rfl, h1, h2⟩ := h
    have e : v = .bl k := h1
    rw [e, rels_bls h2]
    rfl
theorem rels_of_ints : ∀ (ns : List Int), Rels K S H (ns.map D.int) (ns.map V.int)
  | [] => rfl
  | k :: ks => ⟨_, _, rfl, rfl, rels_of_ints ks⟩
theorem rels_of_strs : ∀ (ns : List Str), Rels K S H (ns.map D.str) (ns.map V.str)
  | [] => rfl
  | k :: ks => ⟨_, _, rfl, rfl, rels_of_strs ks⟩
end
/-- the items of a list that is read -/
def lstX (S : SO) : D → Option (List D)
  | .src xs => some xs
  | d => lstD S d
theorem lstX_at {K : PySem.W.Frag} {S : SO} {H : Hp} {d : D} {v : V} {xs : List D} (s : SRel K S H) (r : Rel K S H d v) (e : lstX S d = some xs) : ∃ a vs, v = .ref a ∧ SqL K H a vs ∧ Rels K S H xs vs := by
  cases d with
  | src ys =>
    cases e
    obtain ⟨a, vs, h1, h2, h3⟩ := r
    exact ⟨a, vs, h1, h2.sq, h3⟩
  | lst ys =>
    obtain ⟨a, vs, h1, h2, h3⟩ := lstD_at s r e
    exact ⟨a, vs, h1, .of h2, h3⟩
  | obj ys =>
    obtain ⟨a, vs, h1, h2, h3⟩ := lstD_at s r e
    exact ⟨a, vs, h1, .of h2, h3⟩
  | _ => cases e
/-- one argument; two -/
def one (xs : List D) (k : D → Prop) : Prop := match xs with
  | [x] => k x
  | _ => False
def two2 (xs : List D) (k : D → D → Prop) : Prop := match xs with
  | [x, y] => k x y
  | _ => False
theorem one_of {xs : List D} {k : D → Prop} (h : one xs k) : ∃ j, xs = [j] ∧ k j := by
  unfold one at h
  split at h
  · exact ⟨_, rfl, h⟩
  · exact h.elim
theorem two2_of {xs : List D} {k : D → D → Prop} (h : two2 xs k) : ∃ i j, xs = [i, j] ∧ k i j := by
  unfold two2 at h
  split at h
  · exact ⟨_, _, rfl, h⟩
  · exact h.elim
theorem Rels.v1 {K : PySem.W.Frag} {S : SO} {H : Hp} {d : D} {vs : List V} (r : Rels K S H [d] vs) : ∃ v, vs = [v] ∧ Rel K S H d v := by
  obtain ⟨v, r', rfl, rv, e⟩ := r
  have e' : r' = [] := e
  exact ⟨v, by rw [e'], rv⟩
section
variable {X : Cx}
/-! ### numbers -/
def cInt : WL := fun xs S Q => one xs fun x => match x with
  | .int i => Q (.int i) S
  | .bl b => Q (.int (if b then 1 else 0)) S
  | _ => False
theorem dc_int : DC X (.type "int") cInt := by
  intro pins s σ H xs us Q I r ⟨ds, S, Q0, sr, rs, q, an⟩
  obtain ⟨x, rfl, q⟩ := one_of q
  obtain ⟨v, rfl, rv⟩ := rs.v1
  cases x with
  | int i =>
    have e : v = .int i := rv
    exact call_int1 pins s σ H _ us Q I r (.inl ⟨i, by rw [e], ansd (.int i) sr an q rfl⟩)
  | bl i =>
    have e : v = .bl i := rv
    exact call_int1 pins s σ H _ us Q I r (.inr ⟨i, by rw [e], ansd (.int _) sr an q rfl⟩)
  | _ => exact False.elim q
def cAbs : WL := fun xs S Q => int1 xs fun i => Q (.int (if i < 0 then -i else i)) S
theorem dc_abs : DC X (.builtin "abs") cAbs := by
  intro pins s σ H xs us Q I r ⟨ds, S, Q0, sr, rs, q, an⟩
  obtain ⟨i, rfl, q⟩ := int1_of q
  rw [rs.int1] at r
  exact call_abs pins s σ H _ us Q I r ⟨i, rfl, ansd (.int _) sr an q rfl⟩
/-- max(a, b) of ints, max(list of ints) -/
def intsX (S : SO) (xs : List D) (k : List Int → Prop) : Prop := one xs fun x => ∃ ns : List Int, lstX S x = some (ns.map D.int) ∧ k ns
def IsMax (ns : List Int) (m : Int) : Prop := m ∈ ns ∧ ∀ y ∈ ns, y ≤ m
def IsMin (ns : List Int) (m : Int) : Prop := m ∈ ns ∧ ∀ y ∈ ns, m ≤ y
def cMax : WL := fun xs S Q => int2 xs (fun i j => Q (.int (max i j)) S) ∨ intsX S xs fun ns => ns ≠ [] ∧ ∀ m, IsMax ns m → Q (.int m) S
def cMin : WL := fun xs S Q => int2 xs (fun i j => Q (.int (min i j)) S) ∨ intsX S xs fun ns => ns ≠ [] ∧ ∀ m, IsMin ns m → Q (.int m) S
theorem dc_max (hc : X.calm = true) : DC X (.builtin "max") cMax := by
  intro pins s σ H xs us Q I r ⟨ds, S, Q0, sr, rs, q, an⟩
  rcases q with q | q
  · obtain ⟨i, j, rfl, q⟩ := int2_of q
    rw [rs.int2] at r
    refine call_max2 hc pins s σ H _ us Q I r ⟨i, j, rfl, ?_⟩
    have e : (if j > i then j else i) = max i j := by omega
    rw [e]
    exact ansd (.int _) sr an q rfl
  · obtain ⟨x, rfl, ns, e, hne, q⟩ := one_of q
    obtain ⟨v, rfl, rv⟩ := rs.v1
    obtain ⟨a, vs, rfl, hq, rns⟩ := lstX_at sr rv e
    rw [rels_ints rns] at hq
    exact cr_max hc pins s σ H _ us Q I r ⟨a, ns, rfl, hq, List.length_pos_iff.mpr hne, fun m h1 h2 => ansd (.int m) sr an (q m ⟨h1, h2⟩) rfl⟩
theorem dc_min (hc : X.calm = true) : DC X (.builtin "min") cMin := by
  intro pins s σ H xs us Q I r ⟨ds, S, Q0, sr, rs, q, an⟩
  rcases q with q | q
  · obtain ⟨i, j, rfl, q⟩ := int2_of q
    rw [rs.int2] at r
    refine call_min2 hc pins s σ H _ us Q I r ⟨i, j, rfl, ?_⟩
    have e : (if j < i then j else i) = min i j := by omega
    rw [e]
    exact ansd (.int _) sr an q rfl
  · obtain ⟨x, rfl, ns, e, hne, q⟩ := one_of q
    obtain ⟨v, rfl, rv⟩ := rs.v1
    obtain ⟨a, vs, rfl, hq, rns⟩ := lstX_at sr rv e
    rw [rels_ints rns] at hq
    exact cr_min hc pins s σ H _ us Q I r ⟨a, ns, rfl, hq, List.length_pos_iff.mpr hne, fun m h1 h2 => ansd (.int m) sr an (q m ⟨h1, h2⟩) rfl⟩
def blsX (S : SO) (xs : List D) (k : List Bool → Prop) : Prop := one xs fun x => ∃ ns : List Bool, lstX S x = some (ns.map D.bl) ∧ k ns
def cAll : WL := fun xs S Q => blsX S xs fun ns => Q (.bl (ns.all id)) S
def cAny : WL := fun xs S Q => blsX S xs fun ns => Q (.bl (ns.any id)) S
theorem dc_all (hc : X.calm = true) : DC X (.builtin "all") cAll := by
  intro pins s σ H xs us Q I r ⟨ds, S, Q0, sr, rs, q, an⟩
  obtain ⟨x, rfl, ns, e, q⟩ := one_of q
  obtain ⟨v, rfl, rv⟩ := rs.v1
  obtain ⟨a, vs, rfl, hq, rns⟩ := lstX_at sr rv e
  rw [rels_bls rns] at hq
  exact cr_all hc pins s σ H _ us Q I r ⟨a, ns, rfl, hq, ansd (.bl _) sr an q rfl⟩
theorem dc_any (hc : X.calm = true) : DC X (.builtin "any") cAny := by
  intro pins s σ H xs us Q I r ⟨ds, S, Q0, sr, rs, q, an⟩
  obtain ⟨x, rfl, ns, e, q⟩ := one_of q
  obtain ⟨v, rfl, rv⟩ := rs.v1
  obtain ⟨a, vs, rfl, hq, rns⟩ := lstX_at sr rv e
  rw [rels_bls rns] at hq
  exact cr_any hc pins s σ H _ us Q I r ⟨a, ns, rfl, hq, ansd (.bl _) sr an q rfl⟩
def cDivmod : WL := fun xs S Q => int2 xs fun i j => CDiv i j ∧ Q (.tup [.int (i / j), .int (i % j)]) S
theorem dc_divmod : DC X (.builtin "divmod") cDivmod := by
  intro pins s σ H xs us Q I r ⟨ds, S, Q0, sr, rs, q, an⟩
  obtain ⟨i, j, rfl, hc, q⟩ := int2_of q
  rw [rs.int2] at r
  refine call_divmod pins s σ H _ us Q I r ⟨i, j, rfl, hc, fun p hp => ?_⟩
  exact an _ _ _ _ q (nx_new hp) (sr.new hp) ⟨p, _, rfl, ⟨sr.free hp, upd_same⟩, .int (i / j), [.int (i % j)], rfl, rfl, .int (i % j), [], rfl, rfl, rfl⟩
/-! ### len, list, tuple -/
def lenD0 (S : SO) (d : D) (k : Nat → Prop) : Prop := match d with
  | .str z => z.length ≤ 1000000 ∧ k z.length
  | d => (∃ xs, seqX S d = some xs ∧ k xs.length) ∨ ∃ t kvs, dicX S d = some (t, kvs) ∧ k kvs.length
structure LenD (S : SO) (d : D) (k : Nat → Prop) : Prop where
  ex : lenD0 S d k
abbrev lenD (S : SO) (d : D) (k : Nat → Prop) : Prop := LenD S d k
theorem len_seq {S : SO} {d : D} {k : Nat → Prop} {xs : List D} (e : seqX S d = some xs) (h : k xs.length) : lenD S d k := by
  refine ⟨?_⟩
  cases d with
  | str z => cases e
  | _ => exact .inl ⟨xs, e, h⟩
theorem lenD_cases {S : SO} {d : D} {k : Nat → Prop} (h' : lenD S d k) : (∃ z, d = .str z ∧ z.length ≤ 1000000 ∧ k z.length) ∨ (∃ xs, seqX S d = some xs ∧ k xs.length) ∨ ∃ t kvs, dicX S d = some (t, kvs) ∧ k kvs.length := by
  have h := h'.ex
  cases d with
  | str z => exact .inl ⟨z, rfl, h⟩
  | _ => exact .inr h
def cLen : WL := fun xs S Q => one xs fun x => lenD S x fun n => Q (.int n) S
theorem dc_len : DC X (.builtin "len") cLen := by
  intro pins s σ H xs us Q I r ⟨ds, S, Q0, sr, rs, q, an⟩
  obtain ⟨x, rfl, q2⟩ := one_of q
  obtain ⟨v, rfl, rv⟩ := rs.v1
  rcases lenD_cases q2 with ⟨z, rfl, hz, q⟩ | ⟨ys, e, q⟩ | ⟨t, kvs, e, q⟩
  · have e : v = .str z := rv
    exact call_len pins s σ H _ us Q I r ⟨v, z.length, rfl, by rw [e]; exact ⟨le_line hz, rfl⟩, ansd (.int _) sr an q rfl⟩
  · obtain ⟨a, vs, rfl, hq, rns⟩ := seqX_at sr rv e
    exact call_len pins s σ H _ us Q I r ⟨.ref a, ys.length, rfl, hq.elim (fun h => .inl ⟨vs, h, rns.length⟩) fun h => .inr ⟨vs, h, rns.length⟩, ansd (.int _) sr an q rfl⟩
  · obtain ⟨a, rfl, da⟩ := dicX_at sr rv e
    rcases da with ⟨l, rfl, hl, rl⟩ | ⟨l, rfl, hl, rl⟩
    · obtain ⟨u, rfl, ru⟩ := vals1 r
      cases ru
      refine d_len I hl fun t s' I' => ⟨.int l.length, H, I', ⟨t, rfl⟩, ?_⟩
      rw [← rl.length]
      exact ansd (.int _) sr an q rfl
    · refine call_len_dT pins s σ H _ us Q I r ⟨a, l, rfl, hl, ?_⟩
      rw [← rl.length]
      exact ansd (.int _) sr an q rfl
def cList : WL := fun xs S Q => one xs fun x => ∃ ys, seqX S x = some ys ∧ Q (.lst ys) S
theorem dc_list : DC X (.type "list") cList := by
  intro pins s σ H xs us Q I r ⟨ds, S, Q0, sr, rs, q, an⟩
  obtain ⟨x, rfl, ys, e, q⟩ := one_of q
  obtain ⟨v, rfl, rv⟩ := rs.v1
  obtain ⟨a, vs, rfl, hq, rns⟩ := seqX_at sr rv e
  exact call_list_of pins s σ H _ us Q I r ⟨a, vs, rfl, hq, fun p hp => an _ _ _ _ q (nx_new hp) (sr.new hp) ⟨p, _, rfl, sr.free hp, upd_same, rns.nx (nx_new hp)⟩⟩
/-- tuple(of a list), of a tuple -/
def cTuple : WL := fun xs S Q => one xs fun x => match x with
  | .tup ys => Q (.tup ys) S
  | x => ∃ ys, lstX S x = some ys ∧ Q (.tup ys) S
/-! ### methods -/
abbrev WM := D → List D → SO → KD → Prop
abbrev DM (X : Cx) (id : String) (w : WM) : Prop := MtR X id (liftM X.K w)
def tyD (T : String) (d : D) (S : SO) : Prop := match d with
  | .str _ => T = "str"
  | .int _ => T = "int"
  | .src _ => T = "list"
  | .dic _ _ => T = "dict"
  | .lst _ => T = "list"
  | .obj a => (T = "list" ∧ ∃ xs, S a = some (.lst xs)) ∨ (T = "dict" ∧ ∃ t kvs, S a = some (.dic t kvs))
  | _ => False
theorem tyD_at {T : String} {d : D} {S : SO} {K : PySem.W.Frag} {H : Hp} {v : V} (h : tyD T d S) (s : SRel K S H) (r : Rel K S H d v) : tyV K T v H := by
  have dc : ∀ {a : Addr} {t : Bool} {kvs : List (D × D)}, DicAt K S H a t kvs → tyV K "dict" (.ref a) H := fun h => by
    rcases h with ⟨l, _, hl, _⟩ | ⟨l, _, hl, _⟩
    · exact .inr (.inr (.inl ⟨rfl, .inl ⟨l, hl⟩⟩))
    · exact .inr (.inr (.inl ⟨rfl, .inr ⟨l, hl⟩⟩))
  cases d with
  | str z =>
    have e : v = .str z := r
    have h' : T = "str" := h
    rw [e, h']
    exact rfl
  | int z =>
    have e : v = .int z := r
    have h' : T = "int" := h
    rw [e, h']
    exact rfl
  | src xs =>
    have h' : T = "list" := h
    obtain ⟨a, vs, rfl, t, _⟩ := r
    exact .inl ⟨h', vs, t.sq⟩
  | lst xs =>
    have h' : T = "list" := h
    obtain ⟨a, vs, rfl, _, t, _⟩ := r
    exact .inl ⟨h', vs, .of t⟩
  | dic t kvs =>
    have h' : T = "dict" := h
    obtain ⟨a, rfl, _, da⟩ := r
    rw [h']
    exact dc da
  | obj a =>
    have e : v = .ref a := r
    rw [e]
    rcases h with ⟨h', xs, hx⟩ | ⟨h', t, kvs, hx⟩
    · obtain ⟨vs, hv, _⟩ := s a _ hx
      exact .inl ⟨h', vs, .of hv⟩
    · rw [h']
      exact dc (s a _ hx)
  | _ => exact False.elim h
def wBM (T : String) (w : WM) (wo : WE) (t : WA) : WE := fun sd S Q => wo sd S fun d S1 => tyD T d S1 ∧ t sd S1 fun xs S2 => w d xs S2 Q
section
variable {o e : Expr} {es : List Expr} {wo : WE} {t : WA} {name : Str} {apos cpos : Pos} {T id : String} {w : WM}
theorem bm_lift {σ : St} {H : Hp} {Q : VK} (h : lift X.K (wBM T w wo t) σ H Q) : tBM X.K T (liftM X.K w) (lift X.K wo) (liftA X.K t) σ H Q := by
  obtain ⟨sd, S, Q0, st, q, an⟩ := h
  exact ⟨sd, S, _, st, q, fun d S1 v H1 ⟨ty, q1⟩ n1 s1 r1 => ⟨tyD_at ty s1 r1, sd, S1, _, st.nx n1 s1, q1, fun xs S2 vs H2 q2 n2 s2 r2 => ⟨d, xs, S2, Q0, s2, Rel.nx n2 _ _ r1, r2, q2, an.nx (n1.trans n2)⟩⟩⟩
theorem de_bm (hm : DM X id w) (pa : PlainAttrs T) (slot : Slot T name id) (hty : typeOf (.builtin id) = pure (.type "method_descriptor")) (ho : DE X o wo) (ha : DA X (e :: es) t)
    (hbase : attributeBase o name X.env (eval o X.env) = eval o X.env := by rfl)
    (hfew : ((backTo cpos (starEach (e :: es) X.env)).all (fun x => !x.1) && (backToKw cpos (keywordEach [] X.env)).all (fun x => x.1.isSome)
      && decide ((e :: es).length + ([] : List Keyword).length + (if ([] : List Keyword).isEmpty then 0 else 1) < 30)) = true := by rfl)
    (hline : (apos.endLine == cpos.line) = true := by rfl) (hs : starEach (e :: es) X.env = (false, eval e X.env) :: starEach es X.env := by rfl) (hplain : (backTo cpos (starEach es X.env)).any (·.1) = false := by rfl) :
    DE X (.Call (.Attribute o name apos) (e :: es) [] cpos) (wBM T w wo t) := pe_imp (pe_bm pa slot hty hm ho ha hbase hfew hline hs hplain) fun σ H Q h => bm_lift h
end
def mAppend : WM := fun d xs S Q => one xs fun y => ∃ a ys, d = .obj a ∧ S a = some (.lst ys) ∧ ys.length < 1000000 ∧ Q .non (S.set a (.lst (ys ++ [y])))
theorem dm_append : DM X "list.append" mAppend := by
  intro pins s σ H x xs v us Q I rx rs ⟨d, ys, S, Q0, sr, r1, r2, q, an⟩
  obtain ⟨y, rfl, a, zs, rfl, hS, hl, q⟩ := one_of q
  have r1' : x = .ref a := r1
  obtain ⟨u, rfl, ru⟩ := r2.v1
  obtain ⟨vs, hv, rv⟩ := sr a _ hS
  have n2 : Nx S H (S.set a (.lst (zs ++ [y]))) (upd H a (.lst (vs ++ [u]))) := nx_put hS
  refine mt_append pins s σ H x _ v us Q I rx rs ⟨a, vs, u, r1', rfl, hv, by rw [← rv.length]; exact Nat.lt_of_lt_of_le hl (le_line (Nat.le_refl _)), ?_⟩
  exact an _ _ _ _ q n2 (srel_put sr n2 ⟨_, upd_same, (rv.app (.one ru)).nx n2⟩) rfl
/-! ### stores -/
abbrev WSet := D → D → D → SO → (SO → Prop) → Prop
def liftSet (K : PySem.W.Frag) (w : WSet) : TSet := fun o i v H Q => ∃ d k x S Q0, SRel K S H ∧ Rel K S H d o ∧ Rel K S H k i ∧ Rel K S H x v ∧ w d k x S Q0 ∧ ∀ S' H', Q0 S' → Nx S H S' H' → SRel K S' H' → Q H'
/-- l[i] = v, d[k] = v -/
def sSub : WSet := fun d k x S Q => ∃ a, d = .obj a ∧ ((∃ xs i j, S a = some (.lst xs) ∧ k = .int i ∧ ixN xs.length i = some j ∧ Q (S.set a (.lst (xs.set j x)))) ∨ (∃ t kvs, S a = some (.dic t kvs) ∧ keyOk t k ∧ kvs.length < 1000000 ∧ Q (S.set a (.dic t (dput kvs k x)))))
theorem Rels.set {K : PySem.W.Frag} {S : SO} {H : Hp} {d : D} {v : V} (hr : Rel K S H d v) : ∀ {ds : List D} {vs : List V} (j : Nat), Rels K S H ds vs → Rels K S H (ds.set j d) (vs.set j v)
  | [], _, j, h => by
    have e : _ = [] := h
    rw [e]
    exact rfl
  | d' :: ds, _, 0, h => by
    obtain ⟨u, r, rfl, h1, h2⟩ := h
    exact ⟨v, r, rfl, hr, h2⟩
  | d' :: ds, _, j + 1, h => by
    obtain ⟨u, r, rfl, h1, h2⟩ := h
    exact ⟨u, _, rfl, h1, h2.set hr j⟩
theorem pset_sub (hu : X.A.units + 65 < cLine) : PSet X (liftSet X.K sSub) := by
  intro pins s σ H o i v ov iv u Q I ro ri rv ⟨d, k, x, S, Q0, sr, r1, r2, r3, q, an⟩
  obtain ⟨a, rfl, q⟩ := q
  rcases q with ⟨xs, i', j, hS, rfl, hj, q⟩ | ⟨t, kvs, hS, ok, hl, q⟩
  · obtain ⟨vs, hv, rvs⟩ := sr a _ hS
    have n2 : Nx S H (S.set a (.lst (xs.set j x))) (upd H a (.lst (vs.set j v))) := nx_put hS
    exact set_list pins s σ H o i v ov iv u Q I ro ri rv ⟨a, vs, i', j, r1, r2, hv, by rw [← rvs.length]; exact hj, an _ _ q n2 (srel_put sr n2 ⟨_, upd_same, (rvs.set r3 j).nx n2⟩)⟩
  · have da : DicAt X.K S H a t kvs := sr a _ hS
    obtain ⟨ob, g, hd⟩ := da.put r2 ok r3 hl
    have n2 : Nx S H (S.set a (.dic t (dput kvs k x))) (upd H a ob) := nx_put hS
    exact set_dict (by omega) pins s σ H o i v ov iv u Q I ro ri rv ⟨a, _, r1, g, an _ _ q n2 (srel_put sr n2 (hd _ _ n2 upd_same))⟩
/-- o[i] as a target -/
def gSubD (wo wi : WE) (w : WSet) : WG := fun v sd S Q => wo sd S fun d S1 => wi sd S1 fun k S2 => w d k v S2 fun S3 => Q sd S3
theorem dg_sub {o i : Expr} {wo wi : WE} {w : WSet} {pos : Pos} (hw : PSet X (liftSet X.K w)) (ho : DE X o wo) (hi : DE X i wi)
    (ha : ∀ v, assign (.Subscript o i pos) X.env v = (do
      let ov ← holding [v] (eval o X.env)
      let iv ← holding [v, ov] (eval i X.env)
      standAt pos
      holding [v, ov, iv] (setItem ov iv v)
      release [v, ov, iv] []) := by intro _; rfl) : DG X (.Subscript o i pos) (gSubD wo wi w) :=
  pg_imp (pg_sub ho hi hw ha) fun v σ H Q ⟨x, sd, S, Q0, st, r, q, an⟩ => ⟨sd, S, _, st, q, fun d S1 u H1 q1 n1 s1 r1 => ⟨sd, S1, _, st.nx n1 s1, q1, fun k S2 w' H2 q2 n2 s2 r2 =>
    ⟨d, k, x, S2, _, s2, Rel.nx n2 _ _ r1, r2, Rel.nx (n1.trans n2) _ _ r, q2, fun S3 H3 q3 n3 s3 => an _ _ _ _ q3 (n1.trans (n2.trans n3)) (st.nx (n1.trans (n2.trans n3)) s3)⟩⟩⟩
theorem ds_sub {o i value : Expr} {we wo wi : WE} {pos pos' : Pos} (hu : X.A.units + 65 < cLine) (ho : DE X o wo) (hi : DE X i wi) (hv : DE X value we) (hs : swapsWithSole [.Subscript o i pos'] value pos.line X.env = pure false := by rfl) (hw : swappedStores [.Subscript o i pos'] value X.env = pure none := by rfl)
    (h1 : (assignEach [.Subscript o i pos'] X.env).map (·.2) = [assign (.Subscript o i pos') X.env] := by rfl)
    (ha : ∀ v, assign (.Subscript o i pos') X.env v = (do
      let ov ← holding [v] (eval o X.env)
      let iv ← holding [v, ov] (eval i X.env)
      standAt pos'
      holding [v, ov, iv] (setItem ov iv v)
      release [v, ov, iv] []) := by intro _; rfl) : DS X (.Assign [.Subscript o i pos'] value pos) (wAsg we (gSubD wo wi sSub)) := ds_asg hv (dg_sub (pset_sub hu) ho hi ha) hs hw h1
/-- {} -/
def wDnew (t : Bool) : WE := fun sd S Q => ∀ p, S p = none → Q (.obj p) (S.set p (.dic t []))
theorem de_dnewT {pos : Pos} : DE X (.Dict [] [] pos) (wDnew true) := pe_imp pe_dnewT fun σ H Q ⟨sd, S, Q0, st, q, an⟩ p hp => by
  have n2 : Nx S H (S.set p (.dic true [])) (upd H p (.dT [])) := nx_obj hp (st.s.free hp)
  exact an _ _ _ _ (q p (st.s.free hp)) n2 (srel_put st.s n2 (.inr ⟨[], rfl, upd_same, rfl⟩)) rfl
/-- a, b = x, y with plain local names -/
def wPar (i j : Nat) (t : WA) : WS := fun E sd S => t sd S fun xs S1 => two2 xs fun x y => E.nx ((sd.set i (some x)).set j (some y)) S1
theorem ds_par {i j : Nat} {x y : Str} {a b : Expr} {t : WA} {px py pt pos pt2 : Pos} {kt k2 : Nat} (hc : X.calm = true) (hN : X.N.Nodup) (ha : DA X [a, b] t) (hi : X.N[i]? = some x := by rfl) (hj : X.N[j]? = some y := by rfl) (hij : i ≠ j := by decide)
    (hx : X.env.scope.names.lookup x = some .local := by rfl) (hy : X.env.scope.names.lookup y = some .local := by rfl) (hw : swappedStores [.Tuple [.Name x px, .Name y py] kt pt] (.Tuple [a, b] k2 pt2) X.env = pure (some [x, y]) := by rfl)
    (hs : swapsWithSole [.Tuple [.Name x px, .Name y py] kt pt] (.Tuple [a, b] k2 pt2) pos.line X.env = pure false := by rfl) : DS X (.Assign [.Tuple [.Name x px, .Name y py] kt pt] (.Tuple [a, b] k2 pt2) pos) (wPar i j t) :=
  ps_imp (ps_par hc hN hi hj hij hx hy ha hw hs) fun E σ H ⟨sd, S, E0, st, q, an⟩ => ⟨sd, S, _, st, q, fun xs S1 vs H1 q1 n1 s1 r1 => by
    obtain ⟨u, v, rfl, q1⟩ := two2_of q1
    obtain ⟨vu, vv, rfl, ru, rv⟩ := r1.two
    exact ⟨vu, vv, rfl, an.nx _ _ _ _ q1 n1 (((st.nx n1 s1).set i ru).set j rv)⟩⟩
def three (xs : List D) (k : D → D → D → Prop) : Prop := match xs with
  | [x, y, z] => k x y z
  | _ => False
def wPar3 (i j k : Nat) (t : WA) : WS := fun E sd S => t sd S fun xs S1 => three xs fun x y z => E.nx (((sd.set i (some x)).set j (some y)).set k (some z)) S1
end
end L2.DL

/-! DL10: enumerate over lists and tuples -/
namespace L2.DL
open PySem PySem.Spec PyProof.Rows

theorem meets_enum_tup (l : Addr) (items : Array Value) :
    Meets (Builtin.«enumerate.__new__» ⟨[.type "enumerate", .ref l], []⟩) (fun _ R s => s.heap.IsTuple l items ∧
      R (.ok (.ret (.ref (s.heap.push { cls := .type "tuple_iterator", data := .fields #[.ref l, .int 0 0] }).objs.size)))
        { s with heap := (s.heap.push { cls := .type "tuple_iterator", data := .fields #[.ref l, .int 0 0] }).push { cls := .type "enumerate", data := .fields #[.none, .bool false, .ref s.heap.objs.size, rawInt 0, .none, .none] } }) :=
  .of_wp fun prog w A R s h => by
    obtain ⟨hp, g, d, tk, os⟩ := s; obtain ⟨hL, h⟩ := h
    have hsub := sub_enumerate
    wp_walk using wpAny_pyIter_tuple hL
    refine wpAny_stack_any fun st => wpAny_pure ?_
    split
    · rename_i c _ _ _ _ _
      cases (c == Value.type "enumerate")
      · wp_walk using wpAny_pyIter_tuple hL
        exact ⟨_, rfl, h⟩
      · wp_walk using wpAny_pyIter_tuple hL
        exact ⟨_, rfl, h⟩
    · wp_walk using wpAny_pyIter_tuple hL
      exact ⟨_, rfl, h⟩
theorem call_enum_tup {prog : Program} {w : World} {A : Around} {E : Value → Shared → Prop} {s : Shared} {l : Addr} {items : Array Value} {Q : Value → Shared → Prop} (hL : s.heap.IsTuple l items)
    (h : ∀ h', IsEnum h' (s.heap.objs.size + 1) s.heap.objs.size 0 .none → h'.IsTupleIter s.heap.objs.size l 0 → h'.objs.size = s.heap.objs.size + 2 →
      (∀ b o, s.heap.get? b = some o → h'.get? b = some o) → Q (.ref (s.heap.objs.size + 1)) { s with heap := h' }) :
    wpAny (model prog w) A (call (.type "enumerate") [.ref l]) Q E s := by
  refine callType_new F.called_enumerate (by decide) (F.typeCall_enumerate_1 _) (F.newCall_enumerate_1 _) (fun obj => F.args_object_init_2 obj _) F.entry_enumerate_new
    (meets_enum_tup l items) ⟨hL, ?_⟩
  have hz : (s.heap.push { cls := .type "tuple_iterator", data := .fields #[.ref l, .int 0 0] }).objs.size = s.heap.objs.size + 1 := Heap.size_push ..
  show _ ∧ _
  rw [hz]
  have he : IsEnum ((s.heap.push { cls := .type "tuple_iterator", data := .fields #[.ref l, .int 0 0] }).push
      { cls := .type "enumerate", data := .fields #[.none, .bool false, .ref s.heap.objs.size, rawInt 0, .none, .none] }) (s.heap.objs.size + 1) s.heap.objs.size 0 .none := by
    have := Heap.get?_push_size (s.heap.push { cls := .type "tuple_iterator", data := .fields #[.ref l, .int 0 0] })
      (o := { cls := .type "enumerate", data := .fields #[.none, .bool false, .ref s.heap.objs.size, rawInt 0, .none, .none] }) rfl
    rw [hz] at this; exact this
  refine ⟨⟨_, he, rfl⟩, h _ he ⟨_, Heap.get?_push_of_some _ (Heap.get?_push_size _ rfl), rfl, rfl⟩ (by rw [Heap.size_push, hz]) fun b o x => Heap.get?_push_of_some _ (Heap.get?_push_of_some _ x)⟩
def IteT (K : PySem.W.Frag) (a : Addr) : It :=
  ⟨fun i H => ∃ (xs : List V) (x : V), SqT K H a xs ∧ xs[i]? = some x, fun i H v H' => ∃ T x, v = .ref T ∧ H T = none ∧ H' = upd H T (.tup [.int (i : Nat), x]) ∧ ∀ xs, SqT K H a xs → xs[i]? = some x, fun i H => ∃ xs : List V, SqT K H a xs ∧ xs.length = i⟩
theorem tup_ne {h : Heap} {a it : Addr} {items : Array Value} {i : Nat} (ht : h.IsTuple a items) (hi : h.IsTupleIter it a i) : a ≠ it := fun e => by
  obtain ⟨o, ho, hc, _⟩ := ht
  obtain ⟨o', ho', hc', _⟩ := hi
  rw [e, ho'] at ho
  cases ho
  rw [hc'] at hc
  exact absurd hc (by decide +kernel)
theorem turn_enumT {P : Program} {w : World} {K : PySem.W.Frag} {elts : List Expr} {kk : Nat} {tpos : Pos} (a e it : Addr) :
    Turn P w K (.Tuple elts kk tpos) (IteT K a) [e, it] e (fun i h => (∃ old, IsEnum h e it ((i : Nat) : Int) old) ∧ h.IsTupleIter it a i ∧ e ≠ it) where
  mem := by simp
  obj := fun i h st b hb => by
    obtain ⟨⟨old, he⟩, ⟨o, ho, hc, hd⟩, _⟩ := st
    have e' : b = e ∨ b = it := by simpa using hb
    rcases e' with z | z
    · rw [z]; exact ⟨_, he, fun v q => nomatch q⟩
    · rw [z]; exact ⟨o, ho, fun v q => by rw [hd] at q; cases q⟩
  keep := fun i h h' st k => let ⟨⟨old, he⟩, hi, hne⟩ := st; ⟨⟨old, k e (by simp) _ he⟩, hi.at fun o q => k it (by simp) o q, hne⟩
  item := by
    intro X hP hw hK hc i pins s σ H E I hf st hg
    subst hP hw hK
    obtain ⟨⟨old, he⟩, hit, hne⟩ := st
    obtain ⟨xs, x, hq, hx⟩ := hg
    obtain ⟨its, rv, p, hz⟩ := I.tuple hq
    obtain ⟨u, hu, ru⟩ := rv.get hx
    have p' : s.heap.IsTuple a its.toArray := p
    have hai := tup_ne p' hit
    have hae : e ∉ [it, a] := fun hm => by
      rcases List.mem_cons.mp hm with q | q
      · exact hne q
      · have q' := List.mem_singleton.mp q
        obtain ⟨o, ho, hco, _⟩ := p'
        rw [← q', he] at ho
        cases ho
        exact absurd (show Value.type "enumerate" = Value.type "tuple" from hco) (by decide +kernel)
    have hel : e < s.heap.objs.size := Heap.lt_size he
    have hil : it < s.heap.objs.size := by obtain ⟨_, q, _⟩ := hit; exact Heap.lt_size q
    have hlt : i < its.toArray.size := by
      have := (List.getElem?_eq_some_iff.mp hu).1
      simpa using this
    refine wpAny_pyNext_enum_itemC (Draws.tuple (prog := X.prog) (w := X.w) (A := X.A.in1) (I.ok.hd hc) it a hai its.toArray) he ⟨hit, p'⟩ hlt hne hae fun x' h' tk hx' ho hit' hT hsz hk => ?_
    have ex : x' = u := by
      have h1 : its.toArray[i]? = some x' := hx'
      have h2 : its.toArray[i]? = some u := by simpa using hu
      rw [h1] at h2
      exact Option.some.inj h2
    subst ex
    refine ⟨_, rfl, wpAny_letOwnedTupleGo_enum (s := { s with heap := h', toks := tk + 1 }) ho fun h'' he' sb => ?_⟩
    have hT2 : h''.get? s.heap.objs.size = some { cls := .type "tuple", data := .seq #[.int i tk, x'] } := (sb.2 _ (Nat.ne_of_gt hel)).trans hT
    have new : ObjOk X.prog X.w (upd H s.heap.objs.size (.tup [.int (i : Nat), x])) h'' s.heap.objs.size (.tup [.int (i : Nat), x]) :=
      ⟨by show 2 ≤ sizeLine; decide, [.int i tk, x'], .cons ⟨_, rfl⟩ (.cons ru .nil), ⟨_, hT2, rfl, _, rfl⟩⟩
    have I1 : Inv X pins σ (upd H s.heap.objs.size (.tup [.int (i : Nat), x])) { s with heap := h'', toks := tk + 1 } :=
      I.turnedNew (ch := [e, it]) (fun b ob hb q => (sb.2 b (fun z => hb (by simp [z]))).trans (hk b ob (fun z => hb (by simp [z])) (fun z => hb (by simp [z])) q)) hf (Nat.le_refl _) new
    refine ⟨.ref s.heap.objs.size, _, I1, rfl, ⟨_, x, rfl, I.hok.fresh (Nat.le_refl _), rfl, fun ys hy => by rw [I.tuple_inj hy hq]; exact hx⟩, ⟨⟨x', ?_⟩, hit'.1.at fun o q => (sb.2 it (Ne.symm hne)).trans q, hne⟩, fun b hb => ?_⟩
    · have e1 : ((i + 1 : Nat) : Int) = (i : Int) + 1 := by omega
      rw [e1]; exact he'
    · have hb' : b < s.heap.objs.size := by
        have e' : b = e ∨ b = it := by simpa using hb
        rcases e' with z | z
        · rw [z]; exact hel
        · rw [z]; exact hil
      rw [upd_ne (Nat.ne_of_lt hb')]
      exact (hf b hb).1
  done := by
    intro X hP hw hK hc i pins s σ H E I hf st hg
    subst hP hw hK
    obtain ⟨⟨old, he⟩, hit, hne⟩ := st
    obtain ⟨xs, hq, hx⟩ := hg
    obtain ⟨its, rv, p, hz⟩ := I.tuple hq
    have p' : s.heap.IsTuple a its.toArray := p
    obtain ⟨f0, f1, f2, f3, f4, f5⟩ := hf it (by simp)
    have hl := rv.length
    have hn : its.toArray.size = i := by rw [List.size_toArray, ← hl]; exact hx
    subst hn
    exact wpAny_pyNext_enum_endD (Draws.tuple (prog := X.prog) (w := X.w) (A := X.A.in1) (I.ok.hd hc) it a (tup_ne p' hit) its.toArray) he ⟨hit, p'⟩ fun h' eb => ⟨rfl, I.turned (t' := s.toks) (fun b o hb q => eb b o hb q) f0 f1 f3 f4 f5⟩
  self := fun A i s Q E st h => let ⟨⟨_, he⟩, _⟩ := st; wpAny_pyIter_enum he h
/-- enumerate(x) of a list or a tuple -/
def iEnumA (K : PySem.W.Frag) (ta : TA) : TI := fun σ H R => ta σ H fun vs H1 => ∃ a xs, vs = [.ref a] ∧ ((SqL K H1 a xs ∧ R (Ite K a) H1) ∨ (SqT K H1 a xs ∧ R (IteT K a) H1))
theorem pi_enumA {X : Cx} {e : Expr} {ta : TA} {p pos tpos : Pos} {elts : List Expr} {kk : Nat} (hg : Gl X "enumerate") (hm : X.mg "enumerate" = none) (ha : PA X [e] ta) (hs : starEach [e] X.env = [(false, eval e X.env)] := by rfl) :
    PI X (.Tuple elts kk tpos) (.Call (.Name "enumerate" p) [e] [] pos) (iEnumA X.K ta) := by
  refine ⟨fun pins s σ H R I h => ?_⟩
  refine Call_ (ld_blt I hg hm boot_enumerate (PyProof.Rows.callWith_type1 (thn (ha.run pos pins s σ H _ I h) fun us s1 ⟨vs, H1, I1, r1, q1⟩ => ?_) hs rfl))
  obtain ⟨a, xs, ex, q⟩ := q1
  subst ex
  cases r1 with
  | cons r rr =>
    cases rr
    cases r
    have fresh : ∀ b, b ∈ [s1.heap.objs.size + 1, s1.heap.objs.size] → FpOk X pins H1 b := fun b hb => by
      have e' : b = s1.heap.objs.size + 1 ∨ b = s1.heap.objs.size := by simpa using hb
      have hle : s1.heap.objs.size ≤ b := by
        rcases e' with z | z
        · rw [z]; exact Nat.le_add_right _ _
        · rw [z]; exact Nat.le_refl _
      exact I1.fpOk hle (I1.hok.fresh hle)
    rcases q with ⟨hq, q⟩ | ⟨hq, q⟩
    · obtain ⟨its, rv, p', hz⟩ := I1.list hq
      refine call_enumerate_list p'.isList fun h' he hit hsz hk => wpAny_pyIter_enum he ?_
      have I2 : Inv X pins σ H1 { s1 with heap := h' } := I1.kept (t' := s1.toks) hk
      exact ⟨s1.heap.objs.size + 1, [s1.heap.objs.size + 1, s1.heap.objs.size], _, _, H1, rfl, I2, turn_enum a (s1.heap.objs.size + 1) s1.heap.objs.size, ⟨⟨.none, he⟩, hit, Nat.succ_ne_self _⟩, fresh, q⟩
    · obtain ⟨its, rv, p', hz⟩ := I1.tuple hq
      refine call_enum_tup (show s1.heap.IsTuple a its.toArray from p') fun h' he hit hsz hk => wpAny_pyIter_enum he ?_
      have I2 : Inv X pins σ H1 { s1 with heap := h' } := I1.kept (t' := s1.toks) hk
      exact ⟨s1.heap.objs.size + 1, [s1.heap.objs.size + 1, s1.heap.objs.size], _, _, H1, rfl, I2, turn_enumT a (s1.heap.objs.size + 1) s1.heap.objs.size, ⟨⟨.none, he⟩, hit, Nat.succ_ne_self _⟩, fresh, q⟩
def enumD (xs : List D) : List D := xs.mapIdx fun i d => .tup [.int (i : Nat), d]
theorem enumD_eq (xs : List D) : enumD xs = xs.mapIdx fun i d => .tup [.int (i : Nat), d] := rfl
theorem enumD_len (xs : List D) : (enumD xs).length = xs.length := by rw [enumD_eq, List.length_mapIdx]
theorem enumD_get {xs : List D} {i : Nat} {d : D} (h : (enumD xs)[i]? = some d) : ∃ x, xs[i]? = some x ∧ d = .tup [.int (i : Nat), x] := by
  rw [enumD_eq, List.getElem?_mapIdx] at h
  obtain ⟨x, hx, rfl⟩ := Option.map_eq_some_iff.mp h
  exact ⟨x, hx, rfl⟩
def wEnum (t : WA) : WI := fun sd S R => t sd S fun xs S1 => one xs fun d => seqD d S1 fun ys ok => R ⟨enumD ys, ok⟩ S1
theorem new_pair {K : PySem.W.Frag} {S : SO} {H : Hp} {T : Addr} {i : Int} {x : V} {d : D} (s : SRel K S H) (hT : H T = none) (r : Rel K S H d x) : Nx S H S (upd H T (.tup [.int i, x])) ∧ SRel K S (upd H T (.tup [.int i, x])) ∧ Rel K S (upd H T (.tup [.int i, x])) (.tup [.int i, d]) (.ref T) :=
  ⟨nx_new hT, s.new hT, T, _, rfl, ⟨s.free hT, upd_same⟩, .int i, [x], rfl, rfl, x, [], rfl, Rel.nx (nx_new hT) _ _ r, rfl⟩
theorem jrel_enumL {K : PySem.W.Frag} {S0 : SO} {H0 : Hp} {a : Addr} {xs : List D} {ok : SO → Prop} (h : ∀ S H, Nx S0 H0 S H → SRel K S H → ok S → ∃ vs, SqL K H a vs ∧ Rels K S H xs vs) : JRel K S0 H0 ⟨enumD xs, ok⟩ (Ite K a) where
  go := fun i S H n s o hi => by
    obtain ⟨vs, q, r⟩ := h S H n s o
    have hi' : i < xs.length := by rw [← enumD_len xs]; exact hi
    obtain ⟨v, hv, _⟩ := r.get (List.getElem?_eq_getElem hi')
    exact ⟨vs, v, q, hv⟩
  stop := fun i S H n s o hi => by
    obtain ⟨vs, q, r⟩ := h S H n s o
    exact ⟨vs, q, by rw [← r.length, ← enumD_len xs]; exact Nat.le_of_eq hi.symm⟩
  yld := fun i S H x H' d n s o hi y => by
    obtain ⟨vs, q, r⟩ := h S H n s o
    obtain ⟨T, x', rfl, hT, rfl, y⟩ := y
    obtain ⟨dx, hd, rfl⟩ := enumD_get hi
    obtain ⟨v, hv, rv⟩ := r.get hd
    have e := y vs q
    rw [hv] at e
    cases e
    exact new_pair s hT rv
theorem jrel_enumT {K : PySem.W.Frag} {S0 : SO} {H0 : Hp} {a : Addr} {xs : List D} {ok : SO → Prop} (h : ∀ S H, Nx S0 H0 S H → SRel K S H → ok S → ∃ vs, SqT K H a vs ∧ Rels K S H xs vs) : JRel K S0 H0 ⟨enumD xs, ok⟩ (IteT K a) where
  go := fun i S H n s o hi => by
    obtain ⟨vs, q, r⟩ := h S H n s o
    have hi' : i < xs.length := by rw [← enumD_len xs]; exact hi
    obtain ⟨v, hv, _⟩ := r.get (List.getElem?_eq_getElem hi')
    exact ⟨vs, v, q, hv⟩
  stop := fun i S H n s o hi => by
    obtain ⟨vs, q, r⟩ := h S H n s o
    exact ⟨vs, q, by rw [← r.length, ← enumD_len xs]; exact hi.symm⟩
  yld := fun i S H x H' d n s o hi y => by
    obtain ⟨vs, q, r⟩ := h S H n s o
    obtain ⟨T, x', rfl, hT, rfl, y⟩ := y
    obtain ⟨dx, hd, rfl⟩ := enumD_get hi
    obtain ⟨v, hv, rv⟩ := r.get hd
    have e := y vs q
    rw [hv] at e
    cases e
    exact new_pair s hT rv
theorem di_enum {X : Cx} {e : Expr} {t : WA} {p pos tpos : Pos} {elts : List Expr} {kk : Nat} (hm : X.mg "enumerate" = none) (ha : DA X [e] t) (hg : Gl X "enumerate" := by rfl) (hs : starEach [e] X.env = [(false, eval e X.env)] := by rfl) :
    DI X (.Tuple elts kk tpos) (.Call (.Name "enumerate" p) [e] [] pos) (wEnum t) := by
  refine pi_imp (pi_enumA hg hm ha hs) fun σ H R ⟨sd, S, R0, st, q, an⟩ => ⟨sd, S, _, st, q, fun xs S1 vs H1 q1 n1 s1 r1 => ?_⟩
  obtain ⟨d, rfl, q1⟩ := one_of q1
  obtain ⟨v, rfl, rv⟩ := r1.v1
  cases d with
  | lst xs =>
    obtain ⟨a, vs, rfl, t, hv, r⟩ := rv
    exact ⟨a, vs, rfl, .inl ⟨.of hv, an _ _ _ _ q1 n1 s1 (jrel_enumL fun S2 H2 n2 s2 _ => ⟨vs, .of (n2 a _ t hv).2, r.nx n2⟩)⟩⟩
  | src xs =>
    obtain ⟨a, vs, rfl, t, r⟩ := rv
    exact ⟨a, vs, rfl, .inl ⟨t.sq, an _ _ _ _ q1 n1 s1 (jrel_enumL fun S2 H2 n2 s2 _ => ⟨vs, (t.nx n2).sq, r.nx n2⟩)⟩⟩
  | tup xs =>
    obtain ⟨a, vs, rfl, t, r⟩ := rv
    exact ⟨a, vs, rfl, .inr ⟨t.sq, an _ _ _ _ q1 n1 s1 (jrel_enumT fun S2 H2 n2 s2 _ => ⟨vs, (t.nx n2).sq, r.nx n2⟩)⟩⟩
  | tf xs =>
    obtain ⟨a, vs, rfl, t, r⟩ := rv
    exact ⟨a, vs, rfl, .inr ⟨t.sq, an _ _ _ _ q1 n1 s1 (jrel_enumT fun S2 H2 n2 s2 _ => ⟨vs, (t.nx n2).sq, r.nx n2⟩)⟩⟩
  | kt xs =>
    obtain ⟨a, vs, rfl, t, r⟩ := rv
    exact ⟨a, vs, rfl, .inr ⟨t.sq, an _ _ _ _ q1 n1 s1 (jrel_enumT fun S2 H2 n2 s2 _ => ⟨vs, t.sq, r.nx n2⟩)⟩⟩
  | obj a =>
    obtain ⟨xs, hx, q1⟩ := q1
    have e : v = .ref a := rv
    subst e
    obtain ⟨vs, hq, r⟩ := SqL.uniq hx s1
    exact ⟨a, vs, rfl, .inl ⟨hq, an _ _ _ _ q1 n1 s1 (jrel_enumL fun S2 H2 n2 s2 o => SqL.uniq o s2)⟩⟩
  | _ => exact False.elim q1
end L2.DL

/-! DL11: dict comprehensions whose keys are ints and texts, or tuples of these -/
namespace L2.DL
open PySem PySem.Spec PyProof.Rows

/-- the empty dict of that kind -/
def ob0 : Bool → HO
  | true => .dT []
  | false => .dK []
theorem ob0_ok {P : Program} {w : World} {H : Hp} (t : Bool) (h : Heap) (hb : sysModules < h.objs.size) : ObjOk P w H (h.push { cls := .type "dict", data := .dict #[] }) h.objs.size (ob0 t) := by
  cases t with
  | true => exact dt_empty h hb
  | false => exact dk_empty h hb
theorem d_dictPut {X : Cx} {pins : List (Addr × Obj)} {σ : St} {H H' : Hp} {s : Shared} {E : Value → Shared → Prop} {a : Addr} {y v : V} {u r : Value} {Q : Unit → Shared → Prop} (hu : X.A.units + 65 < cLine) (I : Inv X pins σ H s) (g : DPut H a y v H') (ry : RelV y u) (rv : RelV v r)
    (h : ∀ s', Inv X pins σ H' s' → Q () s') : wpAny (model X.prog X.w) X.A (dictSet a u r) Q E s := by
  rcases g with ⟨kvs, k, e, rfl, l, rfl⟩ | ⟨kvs, k, b, e, rfl, eb, l, rfl⟩
  · exact d_dictSet I e l ry rv h
  · obtain rfl : u = Value.ref b := ry
    obtain ⟨z, hd, xs, rel, dd⟩ := dt_of I.hok e
    have lx := Paired.length rel
    have lp := length_putK kvs k v
    refine wpAny_dictSet_heap (hsz := by omega) (show X.A.units < cLine by omega) (key_of I.hok eb) dd fun h' dd' hs => h _ ?_
    obtain ⟨q, es, ep, hq, h2, h3, h4, _, h5⟩ := dd'
    refine d_write I (by rw [e]; trivial) hs ⟨q, hq⟩ ⟨by omega, hd, _, (rel.put k eb rv).keeps fun c ys ec => ?_, q, es, ep, hq, h2, h3, h4, h5⟩
    exact (upd_ne (ne_of ec e (fun z => nomatch z))).trans ec
/-- the comprehension's reading: D the new dict -/
def tDcG (t : Bool) (wi : TI) (g : TG) (tt : TT) (tk tv : TE) (vs : List Nat) : TE := fun σ H Q => wi σ H fun J H1 => ∀ D, H1 D = none → ∃ W : Nat → Nat → Hp → Prop, (∃ m, W 0 m (upd H1 D (ob0 t))) ∧ ∀ i m H, W i m H →
  (J.stop i H ∧ Q (.ref D) H) ∨ (J.go i H ∧ ∃ N : Hp → Prop, (∀ H', N H' → ∃ m', m' < m ∧ W (i + 1) m' H') ∧ ∀ x H', J.yld i H x H' → g x (wipe σ vs) H' fun σ2 H2 => wipe σ2 vs = wipe σ vs ∧ tt σ2 H2 fun b H3 =>
    if b = true then tk σ2 H3 fun y H4 => tv σ2 H4 fun z H5 => ∃ H6, DPut H5 D y z H6 ∧ N H6 else N H3)
section
variable {X : Cx}
theorem dcG_core {t : Bool} {pins : List (Addr × Obj)} {s : Shared} {σ : St} {H : Hp} {Q : VK} {kx vx tg iter : Expr} {ifs : List Expr} {scope : Scope} {own : List (Str × Nat)} {pos pos' : Pos} {wi : TI} {g : TG} {tt : TT} {tk tv : TE} {use : Option (Value → Sem Unit)} {Qf : Value → Shared → Prop}
    (hu : X.A.units + 65 < cLine) (hc : X.calm = true) (hN : X.N.Nodup) (I : Inv X pins σ H s) (hi : PI X tg iter wi) (ok : BlkOk X.N X.env.scope scope own) (hg : Blk X scope fun Y => PG Y tg g) (ht : Blk X scope fun Y => PTs Y ifs tt) (hk : Blk X scope fun Y => PE Y kx tk) (he : Blk X scope fun Y => PE Y vx tv)
    (hs : ∀ x, foldedSetIterable iter X.env x = pure x) (h : tDcG t wi g tt tk tv (own.map (·.2)) σ H Q)
    (hRR : ∀ D C s' m H', Inv X pins σ H' s' → Q (.ref D) H' → s'.heap.Ns C m → FpOk X pins H' C → compPost (model X.prog X.w) X.A X.xe use Qf (.ref D) C (.ok .next) s') :
    wpAny (model X.prog X.w) X.A (comprehension (.DictComp kx vx [⟨tg, iter, ifs, 0⟩] scope pos) scope X.env pos' newDict false (eval iter X.env) use) Qf X.xe s := by
  have frees : ∀ y ∈ scope.names, y.2 = .free → ∃ c, X.env.cells.lookup y.1 = some c := fun y hy e => (ok.free y hy e).elim (fun k => I.ok.has _ (.inl k)) fun k => I.ok.has _ (.inr k)
  refine wpAny_comprehension_free (use := use) rfl hs (closure_ok frees) ok.kind (fun y hy e => by rw [ok.uniq y hy, e])
    (thn (hi.run pins s σ H _ I h) fun xv s1 hx => thn hx fun itv s2 h2 => ?_)
  obtain ⟨it, fp, tn, J, H2, e, I2, T, st2, f2, q⟩ := h2
  subst e
  refine wpAny_newObj_type (newEnv_comp ?_)
  generalize hD : s2.heap.objs.size = D
  obtain ⟨W, ⟨m0, w0⟩, turn⟩ := q D (I2.hok.fresh (Nat.le_of_eq hD))
  generalize hs3 : ({ s2 with heap := s2.heap.push { cls := .type "dict", data := .dict #[] } } : Shared) = s3
  have h3 : s3.heap = s2.heap.push { cls := .type "dict", data := .dict #[] } := by rw [← hs3]
  have I3 : Inv X pins σ (upd H2 D (ob0 t)) s3 := by
    subst hs3 hD
    exact I2.laid (t' := s2.toks) (fun b o e => Heap.get?_push_of_some _ e) (Nat.le_refl _) (ob0_ok t s2.heap I2.big)
  have old : ∀ b ∈ fp, b < s2.heap.objs.size := fun b hb => let ⟨o, e, _⟩ := T.obj _ _ st2 b hb; Heap.lt_size e
  have f3 : ∀ b ∈ fp, FpOk X pins (upd H2 D (ob0 t)) b ∧ b < s3.heap.objs.size := fun b hb =>
    ⟨⟨(upd_ne (by rw [← hD]; exact Nat.ne_of_lt (old b hb))).trans (f2 b hb).1, (f2 b hb).2⟩, by rw [h3, Heap.size_push]; exact Nat.lt_succ_of_lt (old b hb)⟩
  have st3 : tn 0 s3.heap := T.keep _ _ _ st2 fun b _ o e => h3 ▸ Heap.get?_push_of_some _ e
  have I4 := block_start I3 ok hN f3
  show codeAny _ _ (.compStart (.DictComp kx vx [⟨tg, iter, ifs, 0⟩] scope pos) 0 (.ref it) (.ref D) (compEnvC scope (cellsFrom (s3.heap.objs.size + 1) scope.names (cloFrom X.env.cells scope.names [])) s3.heap.objs.size X.env)) (compPost (model X.prog X.w) X.A X.xe use Qf (.ref D) s3.heap.objs.size) { s3 with heap := pushCells (s3.heap.push { cls := .type "dict", data := .dict #[] }) scope.names }
  have pg := hg s3 (upd H2 D (ob0 t)) s3.heap.objs.size (cellsFrom (s3.heap.objs.size + 1) scope.names (cloFrom X.env.cells scope.names [])) fp
  have pt := ht s3 (upd H2 D (ob0 t)) s3.heap.objs.size (cellsFrom (s3.heap.objs.size + 1) scope.names (cloFrom X.env.cells scope.names [])) fp
  have pk := hk s3 (upd H2 D (ob0 t)) s3.heap.objs.size (cellsFrom (s3.heap.objs.size + 1) scope.names (cloFrom X.env.cells scope.names [])) fp
  have pe := he s3 (upd H2 D (ob0 t)) s3.heap.objs.size (cellsFrom (s3.heap.objs.size + 1) scope.names (cloFrom X.env.cells scope.names [])) fp
  generalize hce : compEnvC scope (cellsFrom (s3.heap.objs.size + 1) scope.names (cloFrom X.env.cells scope.names [])) s3.heap.objs.size X.env = ce at I4 pg pt pk pe ⊢
  have cL : ce.locals = s3.heap.objs.size := by rw [← hce]; rfl
  generalize hH3 : upd H2 D (ob0 t) = H3 at I3 I4 pg pt pk pe w0 f3
  generalize hs4 : ({ s3 with heap := pushCells (s3.heap.push { cls := .type "dict", data := .dict #[] }) scope.names } : Shared) = s4 at I4 ⊢
  have st4 : tn 0 s4.heap := T.keep _ _ _ st3 fun b _ o e => hs4 ▸ pushCells_keeps _ _ _ _ (Heap.get?_push_of_some _ e)
  have stat : ∀ {σ' : St} {H' : Hp} {s' : Shared}, Inv (X.blk s3 H3 scope ce fp) [] σ' H' s' → (∀ b ∈ fp, H' b = none) → ∀ b ∈ fp, FpOk (X.blk s3 H3 scope ce fp) [] H' b := fun {σ' H' s'} I' hn b hb =>
    ⟨hn b hb, (I'.ok.exf b hb).1, I'.ok.exfs b hb, .inl hb, fun x c e => (I'.ok.exf b hb).2 x c e, fun p hp => nomatch (show p ∈ ([] : List (Addr × Obj)) from by simpa using hp)⟩
  have loop : codeAny (model X.prog X.w) X.A (.compLoop (.DictComp kx vx [⟨tg, iter, ifs, 0⟩] scope pos) 0 (.ref it) (.ref D) ce) (compPost (model X.prog X.w) X.A X.xe use Qf (.ref D) s3.heap.objs.size) s4 := by
    refine compLoop_anyD (fun n s' => ∃ i H', Inv (X.blk s3 H3 scope ce fp) [] (wipe σ (own.map (·.2))) H' s' ∧ tn i s'.heap ∧ (∀ b ∈ fp, H' b = none) ∧ W i n H') ?_ m0 ⟨0, H3, I4, st4, fun b hb => (f3 b hb).1.1, w0⟩
    rintro n s5 ⟨i, H5, I5, st5, n5, w5⟩
    rcases turn i n H5 w5 with ⟨stop, qq⟩ | ⟨go, N, hN', step⟩
    · refine thnF (T.done (X.blk s3 H3 scope ce fp) rfl rfl rfl hc i [] s5 _ H5 (fun _ _ => False) I5 (stat I5 n5) st5 stop) fun r s6 ⟨hr, I6⟩ => ?_
      subst hr
      have I7 : Inv X pins σ H5 s6 := I3.call' (ch := fp) I6.os I6.base I6.hok I6.bare fun b hb => let ⟨_, a1, a2, a3, a4, a5⟩ := (f3 b hb).1; ⟨a3, a1, a4, a5⟩
      have nC : H5 s3.heap.objs.size = none := cL ▸ (show H5 ce.locals = none from I6.free)
      obtain ⟨m, hn, _⟩ := I6.loc
      exact hRR D s3.heap.objs.size s6 m H5 I7 qq (cL ▸ (show s6.heap.Ns ce.locals m from hn)) (I3.fpOk (Nat.le_refl _) nC)
    · refine thnF (T.item (X.blk s3 H3 scope ce fp) rfl rfl rfl hc i [] s5 _ H5 (fun _ _ => False) I5 (stat I5 n5) st5 go) fun r s6 ⟨u, hr, h6⟩ => ?_
      subst hr
      refine thnF h6 fun _ s7 ⟨x, H7, I7, r7, y7, st7, n7⟩ => ?_
      refine thnF (pg.run _ s7 _ H7 x u _ (I7.pinned (stat I7 n7) (T.obj _ _ st7)) r7 (step x H7 y7)) fun _ s8 ⟨σ8, H8, I8, hw8, q8⟩ => ?_
      refine thnF (pt.run _ s8 σ8 H8 _ I8 q8) fun b s9 ⟨H9, I9, q9⟩ => ?_
      have fin : ∀ {s' : Shared} {H' : Hp}, Inv (X.blk s3 H3 scope ce fp) ([] ++ pinsAt fp s7.heap) σ8 H' s' → N H' → ∃ m, m < n ∧ ∃ i H', Inv (X.blk s3 H3 scope ce fp) [] (wipe σ (own.map (·.2))) H' s' ∧ tn i s'.heap ∧ (∀ b ∈ fp, H' b = none) ∧ W i m H' := fun {s' H'} I' nx => by
        obtain ⟨m', hm, w'⟩ := hN' H' nx
        have pin' : ∀ b ∈ fp, ∀ o, s7.heap.get? b = some o → s'.heap.get? b = some o ∧ H' b = none := fun b hb o e => let z := I'.pin (b, o) (List.mem_append_right _ (List.mem_append_right _ (mem_pinsAt hb e))); ⟨z.1, z.2.1⟩
        refine ⟨m', hm, i + 1, H', (I'.unpinned (pins := [])).weak (by rw [← hw8, wipe_length]) (fun j v e => (wipe_some (hw8 ▸ e)).1), T.keep _ _ _ st7 fun b hb o e => (pin' b hb o e).1, fun b hb => ?_, w'⟩
        obtain ⟨o, e, _⟩ := T.obj _ _ st7 b hb
        exact (pin' b hb o e).2
      cases b with
      | false => exact fin I9 q9
      | true =>
        refine thnF (pk.run _ s9 σ8 H9 _ I9 q9) fun z s10 ⟨yk, H10, I10, r10, q10⟩ => ?_
        refine thnF (pe.run _ s10 σ8 H10 _ I10 q10) fun z2 s11 ⟨yv, H11, I11, r11, H12, g12, nx⟩ => ?_
        exact d_dictPut (X := X.blk s3 H3 scope ce fp) hu I11 g12 r10 r11 fun s12 I12 => fin I12 nx
  exact codeAny_compStart_dict loop (T.self X.A 0 _ _ _ st4 loop)
theorem pe_dcG {t : Bool} {kx vx tg iter : Expr} {ifs : List Expr} {scope : Scope} {own : List (Str × Nat)} {pos : Pos} {wi : TI} {g : TG} {tt : TT} {tk tv : TE} (hu : X.A.units + 65 < cLine) (hc : X.calm = true) (hN : X.N.Nodup) (hi : PI X tg iter wi) (ok : BlkOk X.N X.env.scope scope own)
    (hg : Blk X scope fun Y => PG Y tg g) (ht : Blk X scope fun Y => PTs Y ifs tt) (hk : Blk X scope fun Y => PE Y kx tk) (he : Blk X scope fun Y => PE Y vx tv) (hs : ∀ x, foldedSetIterable iter X.env x = pure x) :
    PE X (.DictComp kx vx [⟨tg, iter, ifs, 0⟩] scope pos) (tDcG t wi g tt tk tv (own.map (·.2))) := by
  refine ⟨fun pins s σ H Q I h => ?_⟩
  rw [arm_eval_DictComp]
  refine dcG_core hu hc hN I hi ok hg ht hk he hs h fun D C s' m H' I' q hn ⟨f0, f1, f2, f3, f4, f5⟩ => ⟨m, hn, fun h'' sb => ?_⟩
  exact ⟨.ref D, H', I'.turned (t' := s'.toks) (fun b o hb e => (sb.2 b hb).trans e) f0 f1 f3 f4 f5, rfl, q⟩
/-! ### .. over data -/
/-- p the new dict; R what is wanted behind it -/
structure DcG (t : Bool) (wi : WI) (nt : NT) (tt : WT) (wk we : WE) (vs : List Nat) (R : Addr → SO → Prop) (sd : SD) (S : SO) : Prop where
  ex : wi sd S fun J S1 => ∀ p, S1 p = none → ∃ Pv : Nat → SO → Prop, Pv 0 (S1.set p (.dic t [])) ∧ (∀ i S, Pv i S → J.ok S) ∧
  (∀ i d S, J.items[i]? = some d → Pv i S → putNT nt d (wipeD sd vs) fun sd2 => upT tt sd2 S fun b S2 => if b = true then up wk sd2 S2 fun k S3 => up we sd2 S3 fun y S4 => ∃ kvs, S4 p = some (.dic t kvs) ∧ keyOk t k ∧ kvs.length < 1000000 ∧ Pv (i + 1) (S4.set p (.dic t (dput kvs k y))) else Pv (i + 1) S2) ∧
  (∀ S, Pv J.items.length S → R p S)
theorem dcG_lift {t : Bool} {wi : WI} {nt : NT} {tt : WT} {wk we : WE} {vs : List Nat} {R : Addr → SO → Prop} {σ : St} {H : Hp} {Q : VK} {sd : SD} {S : SO} (hs : ∀ i ∈ nt.ix, i ∈ vs) (st : Sta X.K sd S σ H) (q : DcG t wi nt tt wk we vs R sd S)
    (hR : ∀ p S' H', R p S' → Nx S H S' H' → SRel X.K S' H' → Q (.ref p) H') : tDcG t (liftI X.K wi) (gNT X.K nt) (liftT X.K tt) (lift X.K wk) (lift X.K we) vs σ H Q := by
  refine ⟨sd, S, _, st, q.ex, fun J S1 H1 JV q1 n1 s1 jr p hp => ?_⟩
  obtain ⟨Pv, h0, hok, hst, hend⟩ := q1 p (s1.free hp)
  have n2 : Nx S1 H1 (S1.set p (.dic t [])) (upd H1 p (ob0 t)) := nx_obj hp (s1.free hp)
  have s2 : SRel X.K (S1.set p (.dic t [])) (upd H1 p (ob0 t)) := srel_put s1 n2 (by
    cases t with
    | true => exact .inr ⟨[], rfl, upd_same, rfl⟩
    | false => exact .inl ⟨[], rfl, upd_same, rfl⟩)
  refine ⟨fun i m H' => ∃ S', m = J.items.length - i ∧ i ≤ J.items.length ∧ Pv i S' ∧ SRel X.K S' H' ∧ Nx S1 H1 S' H', ⟨J.items.length, _, by simp, Nat.zero_le _, h0, s2, n2⟩, ?_⟩
  rintro i m H' ⟨S', rfl, hile, hp', s', n'⟩
  have o := hok i S' hp'
  by_cases hlt : i < J.items.length
  · refine .inr ⟨jr.go i S' H' n' s' o hlt, fun H2 => ∃ S2, Pv (i + 1) S2 ∧ SRel X.K S2 H2 ∧ Nx S1 H1 S2 H2, fun H2 ⟨S2, h1, h2, h3⟩ => ⟨J.items.length - (i + 1), by omega, S2, rfl, hlt, h1, h2, h3⟩, fun x H2 hy => ?_⟩
    have hi' := List.getElem?_eq_getElem hlt
    obtain ⟨n3, s3, r3⟩ := jr.yld i S' H' x H2 _ n' s' o hi' hy
    have nn := n'.trans n3
    refine nt_go hs ((st.nx (n1.trans nn) s3).wipe vs) r3 (hst i _ S' hi' hp') fun sd2 σ2 hk st2 hw => ⟨by rw [hw, wipe_wipe], upT_lift ?_⟩
    refine ⟨sd2, S', _, st2, hk, fun b S4 H4 q4 n4 s4 => ?_⟩
    cases b with
    | false => exact ⟨S4, q4, s4, nn.trans n4⟩
    | true =>
      refine up_lift ⟨sd2, S4, _, st2.nx n4 s4, q4, fun k S5 kv H5 q5 n5 s5 r5 => up_lift ⟨sd2, S5, _, (st2.nx n4 s4).nx n5 s5, q5, fun y S6 v H6 ⟨kvs, ha, hk, hl, q6⟩ n6 s6 r6 => ?_⟩⟩
      have da : DicAt X.K S6 H6 p t kvs := s6 p _ ha
      obtain ⟨ob, g, hd⟩ := da.put (Rel.nx n6 _ _ r5) hk r6 hl
      have n7 : Nx S6 H6 (S6.set p (.dic t (dput kvs k y))) (upd H6 p ob) := nx_put ha
      exact ⟨_, g, _, q6, srel_put s6 n7 (hd _ _ n7 upd_same), nn.trans (n4.trans (n5.trans (n6.trans n7)))⟩
  · have e : i = J.items.length := by omega
    subst e
    exact .inl ⟨jr.stop _ S' H' n' s' o rfl, hR p S' H' (hend S' hp') (n1.trans n') s'⟩
/-- .. frozen at the end, its parts pure: the dict is made of f of the items -/
noncomputable def dputsL : List (D × D) → List (D × D) → List (D × D)
  | acc, [] => acc
  | acc, (k, v) :: r => dputsL (dput acc k v) r
theorem dputsL_app : ∀ {xs : List (D × D)} {acc : List (D × D)} {y : D × D}, dputsL acc (xs ++ [y]) = dput (dputsL acc xs) y.1 y.2
  | [], acc, (k, v) => rfl
  | (k, v) :: xs, acc, y => dputsL_app (xs := xs)
theorem dputsL_len : ∀ (xs acc : List (D × D)), (dputsL acc xs).length ≤ acc.length + xs.length
  | [], acc => Nat.le_refl _
  | (k, v) :: xs, acc => by
    have h1 := dputsL_len xs (dput acc k v)
    have h2 := dput_length acc k v
    show (dputsL (dput acc k v) xs).length ≤ _
    rw [List.length_cons]
    omega
theorem dputsL_nodup : ∀ {kvs acc : List (D × D)}, (∀ p ∈ kvs, dget acc p.1 = none) → (kvs.map (·.1)).Nodup → dputsL acc kvs = acc ++ kvs
  | [], acc, _, _ => (List.append_nil _).symm
  | (k, v) :: r, acc, h, n => by
    have h0 : dget acc k = none := h (k, v) (List.mem_cons_self ..)
    have n' := List.nodup_cons.mp (show (k :: r.map (·.1)).Nodup from n)
    show dputsL (dput acc k v) r = _
    rw [dputsL_nodup (fun p hp => ?_) n'.2, dput_new h0, List.append_assoc]
    · rfl
    · have hne : ¬ k = p.1 := fun e => n'.1 (by rw [e]; exact List.mem_map_of_mem hp)
      rw [dget_put, if_neg hne]
      exact h p (List.mem_cons_of_mem _ hp)
structure DcP (t : Bool) (wi : WI) (nt : NT) (tt : WT) (wk we : WE) (vs : List Nat) (sd : SD) (S : SO) (Q : KD) : Prop where
  ex : ∃ R : ItD → SO → Prop, wi sd S R ∧ ∀ J S1, R J S1 → (∀ S', Ext S1 S' → J.ok S') ∧ J.items.length ≤ 100000 ∧ ∃ f : D → Option (D × D), (∀ d ∈ J.items, ∀ S', Ext S1 S' → putNT nt d (wipeD sd vs) fun sd2 =>
  tt sd2 S' fun b S2 => S2 = S' ∧ if b = true then up wk sd2 S' fun k S3 => S3 = S' ∧ keyOk t k ∧ up we sd2 S' fun y S4 => S4 = S' ∧ f d = some (k, y) else f d = none) ∧ Q (.dic t (dputsL [] (J.items.filterMap f))) S1
def wDcP (t : Bool) (wi : WI) (nt : NT) (tt : WT) (wk we : WE) (vs : List Nat) : WE := fun sd S Q => DcP t wi nt tt wk we vs sd S Q
theorem dcP_lift {t : Bool} {wi : WI} {nt : NT} {tt : WT} {wk we : WE} {vs : List Nat} {σ : St} {H : Hp} {Q : VK} (hx : ∀ i ∈ nt.ix, i ∈ vs) (h : lift X.K (wDcP t wi nt tt wk we vs) σ H Q) : tDcG t (liftI X.K wi) (gNT X.K nt) (liftT X.K tt) (lift X.K wk) (lift X.K we) vs σ H Q := by
  obtain ⟨sd, S, Q0, st, ⟨R, q, i⟩, an⟩ := h
  refine ⟨sd, S, R, st, q, fun J S1 H1 JV qR n1 s1 jr => ?_⟩
  obtain ⟨hok, hl, f, hf, q1⟩ := i J S1 qR
  obtain ⟨sd', S', R0, st', q', an'⟩ := dcG_lift (X := X) (t := t) (wi := fun _ S R => S = S1 ∧ R J S1) (tt := tt) (wk := wk) (we := we) (R := fun p S' => S' = S1.set p (.dic t (dputsL [] (J.items.filterMap f))) ∧ S1 p = none) (Q := Q) hx (st.nx n1 s1)
    ⟨⟨rfl, fun p hp => ⟨fun i S => S = S1.set p (.dic t (dputsL [] ((J.items.take i).filterMap f))), by simp [dputsL], fun i S e => by rw [e]; exact hok _ (ext_set hp), fun i d S hi e => by
      subst e
      have hd := hf d (List.mem_of_getElem? hi) _ (ext_set (o := .dic t (dputsL [] ((J.items.take i).filterMap f))) hp)
      have htk : (J.items.take (i + 1)).filterMap f = (J.items.take i).filterMap f ++ (f d).toList := by
        rw [List.take_add_one, hi, List.filterMap_append]
        cases q : f d with
        | none => simp [q]
        | some y => simp [q]
      have hlen : (dputsL [] ((J.items.take i).filterMap f)).length ≤ 100000 := by
        have h0 := dputsL_len ((J.items.take i).filterMap f) []
        have h1 := List.length_filterMap_le f (J.items.take i)
        have h2 : (J.items.take i).length ≤ J.items.length := by rw [List.length_take]; omega
        rw [List.length_nil] at h0
        omega
      have go : ∀ sd2 S0, S0 = S1.set p (.dic t (dputsL [] ((J.items.take i).filterMap f))) → (tt sd2 S0 fun b S2 => S2 = S0 ∧ if b = true then up wk sd2 S0 fun k S3 => S3 = S0 ∧ keyOk t k ∧ up we sd2 S0 fun y S4 => S4 = S0 ∧ f d = some (k, y) else f d = none) →
          upT tt sd2 S0 fun b S2 => if b = true then up wk sd2 S2 fun k S3 => up we sd2 S3 fun y S4 => ∃ kvs, S4 p = some (.dic t kvs) ∧ keyOk t k ∧ kvs.length < 1000000 ∧ S4.set p (.dic t (dput kvs k y)) = S1.set p (.dic t (dputsL [] ((J.items.take (i + 1)).filterMap f))) else S2 = S1.set p (.dic t (dputsL [] ((J.items.take (i + 1)).filterMap f))) := by
        intro sd2 S0 eS hh
        refine ⟨_, hh, fun b S2 ⟨e2, q2⟩ => ?_⟩
        subst e2
        cases b with
        | false =>
          have q2' : f d = none := q2
          show S2 = _
          rw [htk, q2', eS]
          simp
        | true =>
          obtain ⟨K0, q3, i3⟩ := q2
          refine ⟨K0, q3, fun k S3 q4 => ?_⟩
          obtain ⟨e3, ok, E0, q5, i5⟩ := i3 k S3 q4
          subst e3
          refine ⟨E0, q5, fun y S4 q6 => ?_⟩
          obtain ⟨e4, q7⟩ := i5 y S4 q6
          subst e4
          refine ⟨_, by rw [eS]; exact set_same, ok, by omega, ?_⟩
          rw [eS, set_set, htk, q7]
          show _ = S1.set p (.dic t (dputsL [] ((J.items.take i).filterMap f ++ [(k, y)])))
          rw [dputsL_app]
      cases nt with
      | n j => exact go _ _ rfl hd
      | t l =>
        cases d with
        | tup xs => exact ⟨hd.1, go _ _ rfl hd.2⟩
        | _ => exact False.elim hd, fun S e => ⟨by rw [e, List.take_length], hp⟩⟩⟩⟩
    fun p S' H' ⟨e, hp⟩ n' s' => by
      subst e
      obtain ⟨n2, s2, r2⟩ := frz_dic s' set_same
      rw [del_set hp] at n2 s2 r2
      exact an _ _ _ _ q1 (n1.trans (n'.trans n2)) s2 r2
  obtain ⟨rfl, q'⟩ := q'
  exact an' J S' H1 JV q' (.refl _ _) st'.s jr
theorem de_dcP {t : Bool} {kx vx tg iter : Expr} {ifs : List Expr} {scope : Scope} {own : List (Str × Nat)} {pos : Pos} {wi : WI} {nt : NT} {tt : WT} {wk we : WE} (hu : X.A.units + 65 < cLine) (hc : X.calm = true) (hN : X.N.Nodup) (hi : DI X tg iter wi) (ok : BlkOk X.N X.env.scope scope own)
    (hx : ∀ i ∈ nt.ix, i ∈ own.map (·.2)) (hg : Blk X scope fun Y => PG Y tg (gNT X.K nt)) (ht : Blk X scope fun Y => PTs Y ifs (liftT X.K tt)) (hk : Blk X scope fun Y => PE Y kx (lift X.K wk)) (he : Blk X scope fun Y => PE Y vx (lift X.K we))
    (hs : ∀ x, foldedSetIterable iter X.env x = pure x := by intro _; rfl) : DE X (.DictComp kx vx [⟨tg, iter, ifs, 0⟩] scope pos) (wDcP t wi nt tt wk we (own.map (·.2))) :=
  pe_imp (pe_dcG hu hc hN hi ok hg ht hk he hs) fun σ H Q h => dcP_lift hx h
end
end L2.DL

/-! DL12: isinstance; dict of pairs -/
namespace L2.DL
open PySem PySem.Spec PyProof.Rows

/-- a value's class: a built-in one by its name, an own one by its address -/
abbrev TyN := String ⊕ Addr
def objT : Option DO → Option TyN
  | some (.lst _) => some (.inl "list")
  | some (.dic _ _) => some (.inl "dict")
  | some (.ins C _) => some (.inr C)
  | some (.err _ _) => none
  | some (.tb _) => none
  | none => none
def tyX (S : SO) : D → Option TyN
  | .non => some (.inl "NoneType")
  | .bl _ => some (.inl "bool")
  | .int _ => some (.inl "int")
  | .str _ => some (.inl "str")
  | .tup _ => some (.inl "tuple")
  | .kt _ => some (.inl "tuple")
  | .tf _ => some (.inl "tuple")
  | .lst _ => some (.inl "list")
  | .src _ => some (.inl "list")
  | .dic _ _ => some (.inl "dict")
  | .fd _ _ => none
  | .gh _ _ => none
  | .ins C _ => some (.inr C)
  | .obj a => objT (S a)
  | .ty _ => none
def tyV' : TyN → Value
  | .inl n => .type n
  | .inr C => .ref C
structure InsOk (K : PySem.W.Frag) (C : Addr) : Prop where
  cl : Cls K C
  ha : PySem.W.findIn K (.ref C) "__class__" = some (some (.builtin "object.__class__"))
  hn : PySem.W.specialIn K (.builtin "object.__class__") "__get__" = some (some (.builtin "getset_descriptor.__get__"))
  htk : PySem.W.takesIn K (.builtin "object.__class__") = some true
  hm : PySem.W.mroIn K C (.type "object") = some true
theorem tyX_at {K : PySem.W.Frag} {S : SO} {H : Hp} {d : D} {v : V} {t : TyN} (s : SRel K S H) (r : Rel K S H d v) (e : tyX S d = some t) (hC : ∀ C, t = .inr C → InsOk K C) : TyX K H v (tyV' t) := by
  have dc : ∀ {a : Addr} {b : Bool} {kvs : List (D × D)}, DicAt K S H a b kvs → TyX K H (.ref a) (.type "dict") := fun h => by
    rcases h with ⟨l, _, hl, _⟩ | ⟨l, _, hl, _⟩
    · exact .base (.dK hl)
    · exact .base (.dT hl)
  have inst : ∀ {a C dx : Addr} {l : List (Str × V)}, H a = some (.ins C dx l) → InsOk K C → TyX K H (.ref a) (.ref C) := fun h o => .base (.ins h o.cl o.ha o.hn o.htk o.hm)
  cases d with
  | non =>
    have e1 : v = .non := r
    cases e
    rw [e1]
    exact .base .non
  | bl b =>
    have e1 : v = .bl b := r
    cases e
    rw [e1]
    exact .base (.bl b)
  | int b =>
    have e1 : v = .int b := r
    cases e
    rw [e1]
    exact .base (.int b)
  | str b =>
    have e1 : v = .str b := r
    cases e
    rw [e1]
    exact .base (.str b)
  | ty n => cases e
  | fd t kvs => cases e
  | gh d u => cases e
  | tup ds =>
    cases e
    obtain ⟨a, vs, rfl, t, _⟩ := r
    exact .base (.tup t.2)
  | lst ds =>
    cases e
    obtain ⟨a, vs, rfl, _, t, _⟩ := r
    exact .base (.lst t)
  | tf ds =>
    cases e
    obtain ⟨a, vs, rfl, ⟨_, o, t, _⟩, _⟩ := r
    exact .fTuple t
  | src ds =>
    cases e
    obtain ⟨a, vs, rfl, t, _⟩ := r
    rcases t with ⟨_, t | ⟨o, t⟩⟩ | ⟨o, its, n, h1, h2, _⟩
    · exact .base (.lst t)
    · exact .base (.frz t)
    · exact .kList h1 h2
  | kt ds =>
    cases e
    obtain ⟨a, vs, rfl, ⟨o, its, n, h1, h2, _⟩, _⟩ := r
    exact .kTuple h1 h2
  | dic t kvs =>
    cases e
    obtain ⟨a, rfl, _, da⟩ := r
    exact dc da
  | ins C fs =>
    cases e
    obtain ⟨a, dx, l, rfl, _, hl, _⟩ := r
    exact inst hl (hC C rfl)
  | obj a =>
    have e1 : v = .ref a := r
    rw [e1]
    have e2 : objT (S a) = some t := e
    cases q : S a with
    | none =>
      rw [q] at e2
      cases e2
    | some o =>
      rw [q] at e2
      have z := s a o q
      cases o with
      | lst xs =>
        cases e2
        obtain ⟨vs, hv, _⟩ := z
        exact .base (.lst hv)
      | dic b kvs =>
        cases e2
        exact dc z
      | ins C fs =>
        cases e2
        obtain ⟨dx, l, hl, _⟩ := z
        exact inst hl (hC C rfl)
      | err _ _ => cases e2
      | tb _ => cases e2
/-- isinstance(x, c) -/
def cIsi (c : D) (f : TyN → Option Bool) : WL := fun xs S Q => two2 xs fun x c' => c' = c ∧ ∃ t b, tyX S x = some t ∧ f t = some b ∧ Q (.bl b) S
theorem dc_isi {X : Cx} {c : D} {cv : V} {u : Value} {f : TyN → Option Bool} (hc : ∀ K S H v, Rel K S H c v → v = cv) (k : ClsV cv u) (hf : ∀ t b, f t = some b → PySem.W.kitOne X.K (tyV' t) u = some b) (hI : ∀ C b, f (.inr C) = some b → InsOk X.K C) : DC X (.builtin "isinstance") (cIsi c f) := by
  intro pins s σ H xs us Q I r ⟨ds, S, Q0, sr, rs, q, an⟩
  obtain ⟨x, c', rfl, rfl, t, b, ht, hb, q⟩ := two2_of q
  obtain ⟨v, w, rfl, rv, rw'⟩ := rs.two
  have e := hc _ _ _ _ rw'
  subst e
  exact call_isi pins s σ H _ us Q I r ⟨v, w, tyV' t, u, b, rfl, k, tyX_at sr rv ht (fun C e => hI C b (e ▸ hb)), hf t b hb, ansd (.bl b) sr an q rfl⟩
/-- a built-in class: the names that a value's class may have -/
def tyNames : List String := ["NoneType", "bool", "int", "str", "tuple", "list", "dict"]
def subN (n T : String) : Bool := n == T || (n == "bool" && T == "int")
def fTy (T : String) (Cs : List Addr) : TyN → Option Bool
  | .inl n => if n ∈ tyNames then some (subN n T) else none
  | .inr C => if C ∈ Cs then some false else none
theorem kit_tab : ∀ n ∈ tyNames, ∀ T ∈ tyNames, kitB n T = some (subN n T) := by decide +kernel
theorem fTy_n {T n : String} {Cs : List Addr} {b : Bool} (h : fTy T Cs (.inl n) = some b) : n ∈ tyNames ∧ subN n T = b := by
  have h' : (if n ∈ tyNames then some (subN n T) else none) = some b := h
  by_cases hn : n ∈ tyNames
  · rw [if_pos hn] at h'
    exact ⟨hn, Option.some.inj h'⟩
  · rw [if_neg hn] at h'
    cases h'
theorem fTy_C {T : String} {C : Addr} {Cs : List Addr} {b : Bool} (h : fTy T Cs (.inr C) = some b) : C ∈ Cs ∧ b = false := by
  have h' : (if C ∈ Cs then some false else none) = some b := h
  by_cases hn : C ∈ Cs
  · rw [if_pos hn] at h'
    exact ⟨hn, (Option.some.inj h').symm⟩
  · rw [if_neg hn] at h'
    cases h'
theorem dc_isiT {X : Cx} (T : String) (Cs : List Addr) (hT : T ∈ tyNames := by decide) (hC : ∀ C ∈ Cs, InsOk X.K C ∧ PySem.W.kitOne X.K (.ref C) (.type T) = some false) : DC X (.builtin "isinstance") (cIsi (.ty T) (fTy T Cs)) :=
  dc_isi (cv := .ty T) (fun _ _ _ _ r => r) (.ty T) (fun t b h => by
    cases t with
    | inl n =>
      obtain ⟨hn, e⟩ := fTy_n h
      rw [← e]
      exact kit_ty (kit_tab n hn T hT)
    | inr C =>
      obtain ⟨hn, e⟩ := fTy_C h
      rw [e]
      exact (hC C hn).2) fun C b h => (hC C (fTy_C h).1).1
/-- an own class C0 : of no built-in value, of the instances as g tells -/
def fOwn (g : Addr → Option Bool) : TyN → Option Bool
  | .inl n => if n ∈ tyNames then some false else none
  | .inr C => g C
theorem dc_isiO {X : Cx} (C0 : Addr) (g : Addr → Option Bool) (hB : ∀ n ∈ tyNames, PySem.W.kitOne X.K (.type n) (.ref C0) = some false) (hC : ∀ C b, g C = some b → InsOk X.K C ∧ PySem.W.kitOne X.K (.ref C) (.ref C0) = some b) : DC X (.builtin "isinstance") (cIsi (.obj C0) (fOwn g)) :=
  dc_isi (cv := .ref C0) (fun _ _ _ _ r => r) (.own C0) (fun t b h => by
    cases t with
    | inl n =>
      have h' : (if n ∈ tyNames then some false else none) = some b := h
      by_cases hn : n ∈ tyNames
      · rw [if_pos hn] at h'
        rw [← Option.some.inj h']
        exact hB n hn
      · rw [if_neg hn] at h'
        cases h'
    | inr C => exact (hC C b h).2) fun C b h => (hC C b h).1

/-! ### dict of a list of pairs -/
section
variable {K : PySem.W.Frag} {S : SO} {H : Hp}
end
end L2.DL

/-! DL13: tuples without a dict: tuple(list), index; dict displays; repr -/
namespace L2.DL
open PySem PySem.Spec PyProof.Rows
section
variable {X : Cx}
/-- tuple(list), the tuple known to have no dict -/
def cTupleF : WL := fun xs S Q => one xs fun x => ∃ ys, lstX S x = some ys ∧ Q (.tf ys) S
theorem dc_tupleF : DC X (.type "tuple") cTupleF := by
  intro pins s σ H xs us Q I r ⟨ds, S, Q0, sr, rs, q, an⟩
  obtain ⟨x, rfl, ys, e, q⟩ := one_of q
  obtain ⟨v, rfl, rv⟩ := rs.v1
  obtain ⟨a, vs, rfl, hq, rns⟩ := lstX_at sr rv e
  obtain ⟨u, rfl, ru⟩ := vals1 r
  cases ru
  obtain ⟨its, r', pl, hz⟩ := I.list hq
  refine call_tuple_list pl.isList (fun h' kp => ?_) (by rw [List.size_toArray, ← r'.length]; exact hz)
  have I1 : Inv X pins σ H { s with heap := h' } := I.kept (t' := s.toks) kp
  have hf : H h'.objs.size = none := I1.hok.fresh (Nat.le_refl _)
  have I2 : Inv X pins σ (upd H h'.objs.size (.frz { cls := .type "tuple", data := .seq its.toArray } (.tup vs))) { s with heap := h'.push { cls := .type "tuple", data := .seq its.toArray } } :=
    I1.laid (t' := s.toks) (fun b o e => Heap.get?_push_of_some _ e) (Nat.le_refl _) ⟨Heap.get?_push_size _ rfl, hz, its, r', IsTup.new _ _⟩
  exact ⟨.ref h'.objs.size, _, I2, rfl, an _ _ _ _ q (nx_new hf) (sr.new hf) ⟨_, vs, rfl, ⟨sr.free hf, _, upd_same, rfl, rfl⟩, rns.nx (nx_new hf)⟩⟩
/-! ### methods of tuples -/
/-! ### {k: v} -/
/-! ### repr -/
def ShowOk (p : PyData) : Prop := p.layable0 = true ∧ p.intsShort 13 = true ∧ p.showable = true
def isRefD : D → Bool
  | .tup _ => true
  | .tf _ => true
  | .lst _ => true
  | .obj _ => true
  | _ => false
def cRepr : WL := fun xs S Q => one xs fun x => isRefD x = true ∧ ∃ p, pyS S x = some p ∧ ShowOk p ∧ Q (.str p.shown) S
theorem dc_repr (gd : X.A.guards = some []) (hu : X.A.units + 70 < cLine) : DC X (.builtin "repr") cRepr := by
  intro pins s σ H xs us Q I r ⟨ds, S, Q0, sr, rs, q, an⟩
  obtain ⟨x, rfl, isr, p, hp, ⟨h1, h2, h3⟩, q⟩ := one_of q
  obtain ⟨v, rfl, rv⟩ := rs.v1
  obtain ⟨u, rfl, ru⟩ := vals1 r
  have dp := relS_dp sr rv hp
  obtain ⟨as, ra⟩ := Dp.reads I p v u dp ru
  obtain ⟨a, rfl⟩ : ∃ a, v = .ref a := by
    cases x with
    | tup ys => exact let ⟨a, _, e, _⟩ := rv; ⟨a, e⟩
    | tf ys => exact let ⟨a, _, e, _⟩ := rv; ⟨a, e⟩
    | lst ys => exact let ⟨a, _, e, _⟩ := rv; ⟨a, e⟩
    | obj a => exact ⟨a, rv⟩
    | _ => cases isr
  cases ru
  have lay : p.canLay0 = true ∧ p.depth ≤ 64 := by
    have h := h1
    unfold PyData.layable0 at h
    rw [Bool.and_eq_true, Bool.and_eq_true] at h
    exact ⟨h.1.1, of_decide_eq_true h.1.2⟩
  refine repr_of_reads' ra h3 (PyData.noDict_hsm (PyData.hasDict_of_canLay p lay.1)) gd (by have := lay.2; omega) (fun b o e => e) (fun h' t tk hk => ?_) (Nat.le_trans (PyData.shown_le_of_layable0 h1 h2) (by rw [sizeLine_eq]; decide))
  exact ⟨.str p.shown, H, I.kept hk, ⟨t, rfl⟩, ansd (.str _) sr an q rfl⟩
end
end L2.DL

/-! DL14: walks over texts; the law's head over data -/
namespace L2.DL
open PySem PySem.Spec PyProof.Rows
/-! ### for sign in text -/
def signsD (x : Str) : List D := x.cps.toList.map fun c => .str ⟨#[c]⟩
def wStrI (we : WE) : WI := fun sd S R => we sd S fun d S1 => match d with
  | .str x => R ⟨signsD x, fun _ => True⟩ S1
  | _ => False
theorem signs_len (x : Str) : (signsD x).length = x.cps.size := by unfold signsD; rw [List.length_map, Array.length_toList]
theorem jrel_str {K : PySem.W.Frag} {S0 : SO} {H0 : Hp} {x : Str} {ok : SO → Prop} : JRel K S0 H0 ⟨signsD x, ok⟩ (Its x) where
  go := fun i S H n s o hi => by
    have hi' : i < (signsD x).length := hi
    rw [signs_len] at hi'
    exact hi'
  stop := fun i S H n s o hi => by
    have hi' : i = (signsD x).length := hi
    rw [signs_len] at hi'
    exact Nat.le_of_eq hi'.symm
  yld := fun i S H v H' d n s o hi y => by
    obtain ⟨rfl, c, hc, rfl⟩ := y
    have hi' : (signsD x)[i]? = some d := hi
    unfold signsD at hi'
    rw [List.getElem?_map, Array.getElem?_toList, hc] at hi'
    cases hi'
    exact ⟨.refl _ _, s, rfl⟩
theorem di_str {X : Cx} {tg e : Expr} {we : WE} (he : DE X e we) : DI X tg e (wStrI we) := by
  refine pi_imp (pi_str he) fun σ H R ⟨sd, S, R0, st, q, an⟩ => ⟨sd, S, _, st, q, fun d S1 v H1 q1 n1 s1 r1 => ?_⟩
  cases d with
  | str x => exact ⟨x, r1, an _ _ _ _ q1 n1 s1 jrel_str⟩
  | _ => exact False.elim q1
theorem strIn_one (c : Nat) (z : Str) : strIn ⟨#[c]⟩ z = decide (c ∈ z.cps.toList) := PySem.StrLaws.found_one z c

/-! ### room -/
theorem Room.u65 {k : Nat} {A : Around} (r : Room k A) : A.units + 65 < cLine := by have := r.un; omega
theorem Room.u70 {k : Nat} {A : Around} (r : Room k A) : A.units + 70 < cLine := by have := r.un; omega

/-! ### the law's head -/
section
variable {P : Program} {w : World} {K : PySem.W.Frag} {mg : Str → Option Value} {base : Heap}
/-- the law's call, from a heap in which the script alone may be tracked -/
theorem law_core {k : Nat} {fa a : Addr} {fd : FuncData} {x : Str} {sp : Sp} {s : Shared} {H : Hp} {vs : List Value} {mb : Str → Option Value} {ns : List Int}
    (KX : K.In s.heap) (hns : s.heap.Ns mainGlobals mg) (hb : s.heap.Ns builtinsNs mb) (hbb : ∀ x : Str, x ≠ "__name__" → mb x = bootBuiltins x) (hlim : s.heap.NoLimit) (hg : s.gens = #[])
    (ha : s.heap.get? a = some { cls := .type "list", data := .seq vs.toArray }) (hr : Room k callerA)
    (F : ∀ base : Heap, K.In base → base.Ns mainGlobals mg → FnG P w K mg base CX0 k fa fd [x] sp) (hbind : ∀ (s : Shared) (u : Value), BindsTo s fd ⟨[u], []⟩ [(x, u)])
    (hO : Only H) (hok : HOk P w H s.heap) (hA : ∀ b, H b ≠ none → b = a) (hK : H a ≠ none → K.lookup a = none) (hsp : sp [.ref a] H (fun v _ => v = .bl true) fun _ _ _ => False) :
    codeAny (model P w) callerA (.call (.ref fa) ⟨[.ref a], []⟩) (fun r s' => r = .ok (.ret (.bool true)) ∧ OldK s.heap s'.heap ∧ s'.os = s.os ∧ AllBare s'.gens) s := by
  have only : ∀ {b : Addr}, (b ≠ a ∨ ∃ o, s.heap.get? b = some o ∧ ∃ es ep, o.data = .dict es ep) → H b = none := fun {b} h => by
    cases q : H b with
    | none => rfl
    | some u =>
      have e := hA b (by rw [q]; exact fun z => nomatch z)
      subst e
      rcases h with h | ⟨o, h1, es, ep, h2⟩
      · exact absurd rfl h
      · rw [ha] at h1
        cases h1
        exact nomatch (show Data.seq vs.toArray _ = Data.dict es ep from h2)
  have keepNs : ∀ {b : Addr} {m : Str → Option Value}, s.heap.Ns b m → (hidT s.heap H).Ns b m := fun ⟨o, es, ep, e, d, r⟩ => ⟨o, es, ep, hidT_get e (only (.inr ⟨o, e, es, ep, d⟩)), d, r⟩
  have keepK : K.In (hidT s.heap H) := fun b o e => hidT_get (KX b o e) (by
    by_cases hb : H b = none
    · exact hb
    · have eb := hA b hb
      subst eb
      rw [hK hb] at e
      cases e)
  obtain ⟨mc, lim1, lim2⟩ := hlim
  have M : Mod K mg (hidT s.heap H) := ⟨keepK, keepNs hns, ⟨mb, keepNs hb, hbb⟩, mc, keepNs lim1, lim2⟩
  have e0 : Env0 P w K mg (hidT s.heap H) callerA [] s H := ⟨rfl, M, fun b o e => of_hidT e, Nat.le_of_eq (hidT_size _ _), trivial, fun b hb => absurd hb (by simp [frs]), hok, .of_eq hg⟩
  have run := (F _ keepK (keepNs hns)).go callerA [] s H ⟨[.ref a], []⟩ [.ref a] [.ref a] _ _ hr rfl e0 (hbind s (.ref a)) (.cons rfl .nil) hsp
  refine codeAny_mono run fun r s' h => ?_
  cases r with
  | error e => exact (show False from h).elim
  | ok fl =>
    cases fl with
    | next => exact False.elim h
    | brk => exact False.elim h
    | cont => exact False.elim h
    | ret u =>
      obtain ⟨v, H', os, bare, un, hok', ru, ev⟩ := h
      subst ev
      have eu : u = Value.bool true := ru
      refine ⟨by rw [eu], OldK.of_keep fun b o e => ?_, os, bare⟩
      rcases hO b with z | ⟨ob, ys, z⟩
      · exact un.keep b o e z (fun h => absurd h (by simp [frs])) (by simp)
      · have h1 := (hok b _ z).1
        have h2 := (hok' b _ (un.frzs b ob _ z)).1
        rw [e] at h1
        cases h1
        exact h2
theorem law_callG {mb : Str → Option Value} {k : Nat} {fa a : Addr} {fd : FuncData} {x : Str} {sp : Sp} {s : Shared} {vs : List Value} {ns : List Int}
    (KX : K.In s.heap) (hns : s.heap.Ns mainGlobals mg) (hb : s.heap.Ns builtinsNs mb) (hbb : ∀ x : Str, x ≠ "__name__" → mb x = bootBuiltins x) (hlim : s.heap.NoLimit) (hg : s.gens = #[])
    (ha : s.heap.get? a = some { cls := .type "list", data := .seq vs.toArray }) (hi : IntsAre vs ns) (hl : ns.length ≤ sizeLine) (hr : Room k callerA)
    (F : ∀ base : Heap, K.In base → base.Ns mainGlobals mg → FnG P w K mg base CX0 k fa fd [x] sp) (hbind : ∀ (s : Shared) (u : Value), BindsTo s fd ⟨[u], []⟩ [(x, u)])
    (hsp : ∀ H : Hp, Only H → SqL K H a (ns.map V.int) → sp [.ref a] H (fun v _ => v = .bl true) fun _ _ _ => False) :
    codeAny (model P w) callerA (.call (.ref fa) ⟨[.ref a], []⟩) (fun r s' => r = .ok (.ret (.bool true)) ∧ OldK s.heap s'.heap ∧ s'.os = s.os ∧ AllBare s'.gens) s := by
  have rv := vals_ints hi
  by_cases hk : K.lookup a = none
  · let ob : Obj := { cls := .type "list", data := .seq vs.toArray }
    have at_ : (fun b => if b = a then some (HO.frz ob (.lst (ns.map V.int))) else none : Hp) a = some (.frz ob (.lst (ns.map V.int))) := if_pos rfl
    have off : ∀ b, b ≠ a → (fun b => if b = a then some (HO.frz ob (.lst (ns.map V.int))) else none : Hp) b = none := fun b hb => if_neg hb
    have on : ∀ b, (fun b => if b = a then some (HO.frz ob (.lst (ns.map V.int))) else none : Hp) b ≠ none → b = a := fun b h => Classical.byContradiction fun z => h (off b z)
    have O : Only (fun b => if b = a then some (HO.frz ob (.lst (ns.map V.int))) else none : Hp) := fun b => by
      by_cases h : b = a
      · exact .inr ⟨ob, _, by rw [h]; exact at_⟩
      · exact .inl (off b h)
    refine law_core (ns := ns) KX hns hb hbb hlim hg ha hr F hbind O (fun b u z => ?_) on (fun _ => hk) (hsp _ O (.inl (.inr ⟨ob, at_⟩)))
    have hba : b = a := Classical.byContradiction fun hne => nomatch (off b hne).symm.trans z
    subst hba
    have z2 := at_.symm.trans z
    cases z2
    exact ⟨ha, by rw [List.length_map]; exact hl, vs, _, rv, ha⟩
  · obtain ⟨o, ho⟩ : ∃ o, K.lookup a = some o := Option.ne_none_iff_exists'.mp hk
    have e := KX a o ho
    rw [ha] at e
    cases e
    have O : Only (fun _ => none) := fun _ => .inl rfl
    exact law_core (ns := ns) KX hns hb hbb hlim hg ha hr F hbind O (fun b u z => nomatch (show (none : Option HO) = some u from z)) (fun b h => absurd rfl h) (fun h => absurd rfl h)
      (hsp _ O (.inr ⟨_, vs.toArray, _, ho, rfl, rfl, rfl, by rw [List.size_toArray, hi.length]; exact hl, by simpa using rv⟩))
/-- the law's def promises: of a script of ints it says True -/
def LawSp (n : Nat) : DSp := fun ds S Q _ => ∃ ns : List Int, ds = [.src (ns.map D.int)] ∧ ns.length ≤ n ∧ S = (fun _ => none) ∧ ∀ S', Q (.bl true) S'
theorem walk_G {l : PySem.W.OpenLaw} {n k : Nat} {q : Program} {loose : List Str} {XP : (Str → Option Value) → Heap → Prop} {YP : World → Heap → Prop} {d : DefRec} {K : Params → PySem.W.Frag} {x : Str}
    (hn : l.most = some n) (hn2 : n ≤ sizeLine) (hdf : d.params.defaults = []) (hr : Room k callerA) (hY : ∀ (w : World) (h : Heap), YP w h → (K w.params).In h)
    (F : ∀ (w : World) (mg : Str → Option Value) (fa : Addr) (h : Heap), (K w.params).In h → h.Ns mainGlobals mg → mg d.name = some (.ref fa) →
      ∃ fd : FuncData, (∀ (s : Shared) (u : Value), BindsTo s fd ⟨[u], []⟩ [(x, u)]) ∧ ∀ base : Heap, (K w.params).In base → base.Ns mainGlobals mg → FnD l.prog w (K w.params) mg base k fa fd [x] (LawSp n)) :
    PySem.W.WalkO q loose XP YP l.row.toRowW d [] (fun f vs => PySem.call f vs) := by
  refine Att.attach_call hn hdf fun w s₀ s₁ mg mb fa o pm cd doc a vs ns G Y ho hd hcd hmg hobj hints hlen hg => ?_
  have KX := hY w _ Y
  obtain ⟨fd, hb, hF⟩ := F w mg fa _ KX G.T.g hmg
  refine law_callG KX G.T.g G.T.b G.T.builtins G.T.nolimit hg hobj hints (Nat.le_trans hlen hn2) hr hF hb fun H hO hS => ?_
  refine ⟨[.src (ns.map D.int)], fun _ => none, fun d _ => d = .bl true, NoE, (fun a o h => nomatch (show (none : Option DO) = some o from h)), ⟨.ref a, [], rfl, ⟨a, _, rfl, ?_, rels_of_ints ns⟩, rfl⟩, ⟨ns, rfl, hlen, rfl, fun _ => rfl⟩, fun d S' v H' e _ _ r => ?_, noE_ans⟩
  · rcases hS with h | h
    · exact .inl ⟨rfl, h⟩
    · exact .inr h
  · subst e
    exact r
end
end L2.DL

/-! DL15: how readings are answered -/
namespace L2.DL
open PySem PySem.Spec PyProof.Rows
theorem lcP_of {wi : WI} {nt : NT} {tt : WT} {we : WE} {vs : List Nat} {sd : SD} {S : SO} {Q : KD} (items : List D) (f : D → Option D) (hi : wi sd S fun J S1 => J = ⟨items, fun _ => True⟩ ∧ S1 = S) (hl : items.length ≤ 1000000)
    (hf : ∀ d ∈ items, ∀ S', Ext S S' → putNT nt d (wipeD sd vs) fun sd2 => tt sd2 S' fun b S2 => S2 = S' ∧ if b = true then up we sd2 S' fun y S3 => S3 = S' ∧ f d = some y else f d = none) (hq : Q (.lst (items.filterMap f)) S) : LcP wi nt tt we vs sd S Q :=
  ⟨⟨_, hi, fun J S1 ⟨e1, e2⟩ => by
    subst e1 e2
    exact ⟨fun _ _ => trivial, hl, f, hf, hq⟩⟩⟩
theorem lcP_map {wi : WI} {nt : NT} {we : WE} {vs : List Nat} {sd : SD} {S : SO} {Q : KD} (items : List D) (g : D → D) (hi : wi sd S fun J S1 => J = ⟨items, fun _ => True⟩ ∧ S1 = S) (hl : items.length ≤ 1000000)
    (hf : ∀ d ∈ items, ∀ S', Ext S S' → putNT nt d (wipeD sd vs) fun sd2 => we sd2 S' fun y S3 => S3 = S' ∧ g d = y) (hq : Q (.lst (items.map g)) S) : LcP wi nt wYes we vs sd S Q := by
  refine lcP_of items (fun d => some (g d)) hi hl (fun d hd S' e => ?_) (by rw [List.filterMap_eq_map']; exact hq)
  have h := hf d hd S' e
  cases nt with
  | n i => exact ⟨rfl, _, h, fun y S3 ⟨e1, e2⟩ => ⟨e1, congrArg some e2⟩⟩
  | t l =>
    cases d with
    | tup xs => exact ⟨h.1, rfl, _, h.2, fun y S3 ⟨e1, e2⟩ => ⟨e1, congrArg some e2⟩⟩
    | _ => exact False.elim h
theorem dcP_of {t : Bool} {wi : WI} {nt : NT} {tt : WT} {wk we : WE} {vs : List Nat} {sd : SD} {S : SO} {Q : KD} (items : List D) (f : D → Option (D × D)) (hi : wi sd S fun J S1 => J = ⟨items, fun _ => True⟩ ∧ S1 = S) (hl : items.length ≤ 100000)
    (hf : ∀ d ∈ items, ∀ S', Ext S S' → putNT nt d (wipeD sd vs) fun sd2 => tt sd2 S' fun b S2 => S2 = S' ∧ if b = true then up wk sd2 S' fun k S3 => S3 = S' ∧ keyOk t k ∧ up we sd2 S' fun y S4 => S4 = S' ∧ f d = some (k, y) else f d = none)
    (hq : Q (.dic t (dputsL [] (items.filterMap f))) S) : DcP t wi nt tt wk we vs sd S Q :=
  ⟨⟨_, hi, fun J S1 ⟨e1, e2⟩ => by
    subst e1 e2
    exact ⟨fun _ _ => trivial, hl, f, hf, hq⟩⟩⟩
theorem ifY {b : Bool} {A B : Prop} (e : b = true) (h : A) : if b = true then A else B := by
  rw [if_pos e]
  exact h
theorem isY {b : Bool} {Q : Bool → SO → Prop} {S : SO} (e : b = true) (h : Q true S) : IsB Q (.bl b) S := by
  rw [e]
  exact ⟨h⟩
theorem isN {b : Bool} {Q : Bool → SO → Prop} {S : SO} (e : b = false) (h : Q false S) : IsB Q (.bl b) S := by
  rw [e]
  exact ⟨h⟩
theorem isC {b : Bool} {Q : Bool → SO → Prop} {S : SO} (h1 : b = true → Q true S) (h2 : b = false → Q false S) : IsB Q (.bl b) S := by
  cases b with
  | true => exact ⟨h1 rfl⟩
  | false => exact ⟨h2 rfl⟩
theorem lez {n m : Nat} (h : Nat.ble n m = true) : n ≤ m := Nat.le_of_ble_eq_true h
theorem upI {we : WE} {sd : SD} {S : SO} {Q : KD} (h : we sd S Q) : up we sd S Q := ⟨Q, h, fun _ _ q => q⟩
theorem cl {Q : KD} {d : D} {S : SO} (h : Q d S) : Cl Q d S := .of h
theorem u65 {k : Nat} {A : Around} (r : Room k A) : A.units + 65 < cLine := by have := r.un; omega
theorem u70 {k : Nat} {A : Around} (r : Room k A) : A.units + 70 < cLine := by have := r.un; omega
section
variable {X : Cx} {x : Str} {pos : Pos}
theorem de_gS {z : Str} {t : Tok} (hm : X.mg x = some (.str z t)) (hg : Gl X x := by rfl) (hd : (x == ("__debug__" : Str)) = false := by decide) : DE X (.Name x pos) (wC (.str z)) := de_glob (v := .str z) hg hm ⟨t, rfl⟩ (fun _ _ _ => rfl) hd
theorem de_gI {z : Int} {t : Tok} (hm : X.mg x = some (.int z t)) (hg : Gl X x := by rfl) (hd : (x == ("__debug__" : Str)) = false := by decide) : DE X (.Name x pos) (wC (.int z)) := de_glob (v := .int z) hg hm ⟨t, rfl⟩ (fun _ _ _ => rfl) hd
theorem de_gC {a : Addr} (hm : X.mg x = some (.ref a)) (hg : Gl X x := by rfl) (hd : (x == ("__debug__" : Str)) = false := by decide) : DE X (.Name x pos) (wC (.obj a)) := de_glob (v := .ref a) hg hm rfl (fun _ _ _ => rfl) hd
theorem de_bT {T : String} (hm : X.mg x = none) (hv : bootBuiltins x = some (.type T)) (hg : Gl X x := by rfl) (hn : x ≠ "__name__" := by decide) (hd : (x == ("__debug__" : Str)) = false := by decide) : DE X (.Name x pos) (wC (.ty T)) := de_bltn (v := .ty T) hg hm hv rfl (fun _ _ _ => rfl) hn hd
end
theorem kit1_of {K : PySem.W.Frag} (C : Addr) : PySem.W.kitOne K (.ref C) (.ref C) = some true := by
  unfold PySem.W.kitOne
  rw [if_pos (by simp)]
theorem kit_own {K : PySem.W.Frag} {C : Addr} {z : ClassData} {n : String} (h1 : PySem.W.clsIn K C = some z) (h2 : PySem.W.typeIn K (.ref C) = some (.type "type")) {b : Bool} (h3 : PySem.W.subIn K (.type n) (.ref C) = some b) : PySem.W.kitOne K (.type n) (.ref C) = some b := by
  unfold PySem.W.kitOne
  rw [if_neg (by simp)]
  show (if ((PySem.W.clsIn K C).isSome && PySem.W.typeIn K (.ref C) == some (.type "type")) = true then PySem.W.subIn K (.type n) (.ref C) else none) = _
  rw [h1, h2, if_pos (by simp)]
  exact h3
theorem kit0_of {K : PySem.W.Frag} {C : Addr} {z : ClassData} (h1 : PySem.W.clsIn K C = some z) (h2 : PySem.W.typeIn K (.ref C) = some (.type "type")) (a0 : PySem.W.subIn K (.type "NoneType") (.ref C) = some false) (a1 : PySem.W.subIn K (.type "bool") (.ref C) = some false) (a2 : PySem.W.subIn K (.type "int") (.ref C) = some false)
    (a3 : PySem.W.subIn K (.type "str") (.ref C) = some false) (a4 : PySem.W.subIn K (.type "tuple") (.ref C) = some false) (a5 : PySem.W.subIn K (.type "list") (.ref C) = some false) (a6 : PySem.W.subIn K (.type "dict") (.ref C) = some false) : ∀ n ∈ tyNames, PySem.W.kitOne K (.type n) (.ref C) = some false := by
  intro n hn
  simp only [tyNames, List.mem_cons, List.not_mem_nil, or_false] at hn
  rcases hn with rfl | rfl | rfl | rfl | rfl | rfl | rfl
  · exact kit_own h1 h2 a0
  · exact kit_own h1 h2 a1
  · exact kit_own h1 h2 a2
  · exact kit_own h1 h2 a3
  · exact kit_own h1 h2 a4
  · exact kit_own h1 h2 a5
  · exact kit_own h1 h2 a6
end L2.DL

/-! DL16: own comparisons, join -/
namespace L2.DL
open PySem PySem.Spec PyProof.Rows
section
variable {X : Cx} {k : Nat} {g C : Addr} {fd : FuncData} {ps : List Str} {dsp : DSp}
/-- x op y by an own def, both of the class at C -/
def oOwn (C : Addr) (dsp : DSp) : WO := fun x y S Q => (∃ fs, InsD C x S fs) ∧ (∃ fs, InsD C y S fs) ∧ dsp [x, y] S Q NoE
theorem do_own {op : CmpOp} (hop : ∀ a b, compareOp op a b = richCompare op a b) (hs : PySem.W.findIn X.K (.ref C) (cmpInfo op).2.1 = some (some (.ref g))) (hf : PySem.W.isFn X.K (.ref g) = true) (F : FnD X.prog X.w X.K X.mg X.base k g fd ps dsp)
    (hr : Room k X.A) (gd : X.A.guards = some []) (hb : Binds X.K fd ps []) : DO2 X (compareOp op) (oOwn C dsp) := by
  intro pins s σ H x y v u Q I rx ry ⟨dx, dy, S, Q0, sr, r1, r2, ⟨⟨fx, ix⟩, ⟨fy, iy⟩, q⟩, an⟩
  obtain ⟨a, ax, lx, rfl, hx, _⟩ := ix.at sr r1
  obtain ⟨b, bx, ly, rfl, hy, _⟩ := iy.at sr r2
  cases (show v = Value.ref a from rx)
  cases (show u = Value.ref b from ry)
  obtain ⟨mA, O, _⟩ := ins_get I.hok hx
  obtain ⟨od, J, _⟩ := O.look
  obtain ⟨mB, O', _⟩ := ins_get I.hok hy
  obtain ⟨od', J', _⟩ := O'.look
  obtain ⟨m, hF⟩ := I.fr
  rw [hop]
  refine PySem.W.cmp_K (op := op) (tb := .ref C) hr.units0 hF I.ok.mod.kin J J'.type (by simp [PySem.W.notFirst]) hs hf ?_
  refine wpAny_mono (runB (us := [.ref a, .ref b]) (vs := [.ref a, .ref b]) F hr gd hb .nil pass0 I (.cons rfl (.cons rfl .nil)) ⟨[dx, dy], S, Q0, NoE, sr, ⟨_, _, rfl, r1, _, _, rfl, r2, rfl⟩, q, an, noE_ans⟩) (fun w s' z => ?_) fun _ _ x => x
  obtain ⟨z', H', I', rz, qz⟩ := z
  exact SlX.cmpback rz ⟨z', H', I', rz, qz⟩
theorem hop_eq : ∀ a b, compareOp .Eq a b = richCompare .Eq a b := fun _ _ => rfl
theorem hop_ne : ∀ a b, compareOp .NotEq a b = richCompare .NotEq a b := fun _ _ => rfl
/-- sep.join(texts) -/
def wJoin (ws wx : WE) : WE := fun sd S Q => ws sd S fun a S1 => (∃ z, a = .str z) ∧ wx sd S1 fun d S2 => ∃ (z : Str) (ys : List Str), a = .str z ∧ seqX S2 d = some (ys.map D.str) ∧ (ys.map (·.length)).sum + ys.length * z.length ≤ 16777216 ∧ Q (.str (Txt.join z ys)) S2
theorem de_join {o e : Expr} {wo we : WE} {apos pos : Pos} (ho : DE X o wo) (he : DE X e we) (hs : starEach [e] X.env = [(false, eval e X.env)] := by rfl) (hbase : attributeBase o "join" X.env (eval o X.env) = eval o X.env := by rfl) (hline : (apos.endLine == pos.line) = true := by rfl) :
    DE X (.Call (.Attribute o "join" apos) [e] [] pos) (wJoin wo we) := by
  refine pe_imp (pe_join ho he hs hbase hline) fun σ H Q ⟨sd, S, Q0, st, q, an⟩ => ⟨sd, S, _, st, q, fun d S1 v H1 ⟨⟨z, ez⟩, q1⟩ n1 s1 r1 => ?_⟩
  subst ez
  have ev : v = .str z := r1
  subst ev
  refine ⟨⟨z, rfl⟩, sd, S1, _, st.nx n1 s1, q1, fun d S2 u H2 ⟨z', ys, e1, e2, e3, q2⟩ n2 s2 r2 => ?_⟩
  cases e1
  obtain ⟨a, vs, rfl, hq, rv⟩ := seqX_at s2 r2 e2
  have := rels_strs rv
  subst this
  exact ⟨z, a, ys, rfl, rfl, hq, e3, an _ _ _ _ q2 (n1.trans n2) s2 rfl⟩
end
end L2.DL

/-! DL17: starred items, tuples displayed and known to have no dict -/
namespace L2.DL
open PySem PySem.Spec PyProof.Rows
section
variable {X : Cx} {e : Expr} {es : List Expr} {we : WE} {t : WA} {p pos : Pos}
def wStar (we : WE) (t : WA) : WA := fun sd S Q => we sd S fun d S1 => ∃ xs, seqX S1 d = some xs ∧ t sd S1 fun ys S2 => Q (xs ++ ys) S2
theorem da_star (he : DE X e we) (hr : DA X es t) (hs : starEach (.Starred e p :: es) X.env = (true, eval e X.env) :: starEach es X.env := by rfl) : DA X (.Starred e p :: es) (wStar we t) :=
  pa_imp (StX.pa_star he hr hs) fun σ H Q ⟨sd, S, Q0, st, q, an⟩ => ⟨sd, S, _, st, q, fun d S1 v H1 ⟨xs, e1, q1⟩ n1 s1 r1 => by
    obtain ⟨a, vs, rfl, hq, rv⟩ := seqX_at s1 r1 e1
    exact ⟨a, vs, rfl, hq.symm, sd, S1, _, st.nx n1 s1, q1, fun ys S2 us H2 q2 n2 s2 r2 => an _ _ _ _ q2 (n1.trans n2) s2 (Rels.app (Rels.nx n2 _ _ rv) r2)⟩⟩
def wTupF (t : WA) : WE := fun sd S Q => t sd S fun xs S1 => xs.length ≤ 1000000 ∧ Q (.tf xs) S1
theorem de_tupF {x1} (h : DA X es t) : DE X (.Tuple es x1 pos) (wTupF t) := by
  refine ⟨fun pins s σ H Q I ⟨sd, S, Q0, st, q, an⟩ => ?_⟩
  refine wpAny_Tuple_spliced (thn (h.run pos pins s σ H (fun vs H1 => ∃ xs S1, xs.length ≤ 1000000 ∧ Nx S H S1 H1 ∧ SRel X.K S1 H1 ∧ Rels X.K S1 H1 xs vs ∧ Q0 (.tf xs) S1) I ⟨sd, S, _, st, q, fun xs S1 vs H1 ⟨z, q1⟩ n1 s1 r1 => ⟨xs, S1, z, n1, s1, r1, q1⟩⟩)
    fun us s1 ⟨vs, H1, I1, r, xs, S1, z, n1, s1', r1, q1⟩ => ?_)
  have hz : us.length ≤ sizeLine := by rw [← r.length, ← r1.length]; exact le_line z
  refine ⟨hz, ?_⟩
  have hf : H1 s1.heap.objs.size = none := I1.hok.fresh (Nat.le_refl _)
  have I2 : Inv X pins σ (upd H1 s1.heap.objs.size (.frz { cls := .type "tuple", data := .seq us.toArray } (.tup vs))) { s1 with heap := s1.heap.push { cls := .type "tuple", data := .seq us.toArray } } :=
    I1.laid (t' := s1.toks) (fun b o e => Heap.get?_push_of_some _ e) (Nat.le_refl _) ⟨Heap.get?_push_size _ rfl, by rw [r.length]; exact hz, us, r, IsTup.new _ _⟩
  exact ⟨.ref s1.heap.objs.size, _, I2, rfl, an _ _ _ _ q1 (n1.trans (nx_new hf)) (s1'.new hf) ⟨_, vs, rfl, ⟨s1'.free hf, _, upd_same, rfl, rfl⟩, r1.nx (nx_new hf)⟩⟩
end
end L2.DL

/-! DL18: len, str, repr of own instances -/
namespace L2.DL
open PySem PySem.Spec PyProof.Rows
section
variable {X : Cx} {CX : CXT} {k : Nat} {g C : Addr} {fd : FuncData} {ps : List Str} {dsp : DSp}
theorem runG_at {A : Around} {sp : Sp} {E : XK} {pins : List (Addr × Obj)} {σ : St} {H : Hp} {s : Shared} {Q : VK} {args : Args} {us : List Value} {vs : List V} (F : FnG X.prog X.w X.K X.mg X.base CX k g fd ps sp) (hr : Room k A) (gd : A.guards = some [])
    (e0 : Env0 X.prog X.w X.K X.mg X.base A X.stack s H) (hx : Passes CX X E) (I : Inv X pins σ H s) (hb : BindsTo s fd args (ps.zip us)) (r : Vals vs us) (h : sp vs H Q E) : wpAny (model X.prog X.w) A (call (.ref g) args.pos args.kw) (EP X pins σ Q) X.xe s := by
  refine wpAny_call (codeAny_mono (F.go A X.stack s H args us vs Q E hr gd e0 hb r h) fun rs s' hq => ?_)
  have z := CE.call I hx hq
  cases rs with
  | error er => exact z
  | ok fl =>
    cases fl with
    | ret u => exact z
    | next => exact z.elim
    | brk => exact z.elim
    | cont => exact z.elim
/-- the special method of an own instance, called a frame or two below -/
theorem run_own {A : Around} {pins : List (Addr × Obj)} {σ : St} {H : Hp} {s : Shared} {Q : VK} {S : SO} {Q0 : KD} {d : D} {a : Addr} (F : FnD X.prog X.w X.K X.mg X.base k g fd ps dsp) (hr : Room k A) (gd : A.guards = some []) (hb : Binds X.K fd ps [])
    (e0 : Env0 X.prog X.w X.K X.mg X.base A X.stack s H) (I : Inv X pins σ H s) (sr : SRel X.K S H) (r1 : Rel X.K S H d (.ref a)) (q : dsp [d] S Q0 NoE) (an : Ans X.K S H Q0 Q) : wpAny (model X.prog X.w) A (call (.ref g) [.ref a]) (EP X pins σ Q) X.xe s := by
  have h : liftSp X.K dsp [V.ref a] H Q E0 := ⟨[d], S, Q0, NoE, sr, ⟨_, _, rfl, r1, rfl⟩, q, an, noE_ans⟩
  have z := hb s [.ref a] I.kIn (by rw [List.append_nil] at *; exact F.len _ _ _ _ h)
  exact runG_at (args := ⟨[.ref a], []⟩) (us := [.ref a]) (vs := [V.ref a]) F hr gd e0 pass0 I z (.cons rfl .nil) h
def cLenO (C : Addr) (dsp : DSp) : WL := fun xs S Q => one xs fun x => (∃ fs, InsD C x S fs) ∧ dsp [x] S (fun d S' => ∃ n : Nat, d = .int n ∧ n < 2 ^ 62 ∧ Q d S') NoE
theorem dc_lenO (hs : PySem.W.findIn X.K (.ref C) "__len__" = some (some (.ref g))) (hf : PySem.W.isFn X.K (.ref g) = true) (F : FnD X.prog X.w X.K X.mg X.base k g fd ps dsp) (hr : Room (k + 1) X.A) (gd : X.A.guards = some []) (hb : Binds X.K fd ps []) :
    DC X (.builtin "len") (cLenO C dsp) := by
  intro pins s σ H xs us Q I r ⟨ds, S, Q0, sr, rs, q, an⟩
  obtain ⟨x, rfl, ⟨fx, ix⟩, q⟩ := one_of q
  obtain ⟨v, rfl, rv⟩ := rs.v1
  obtain ⟨a, ax, lx, rfl, hx, _⟩ := ix.at sr rv
  obtain ⟨u, rfl, ru⟩ := vals1 r
  cases (show u = Value.ref a from ru)
  obtain ⟨mA, O, _⟩ := ins_get I.hok hx
  obtain ⟨od, J, _⟩ := O.look
  obtain ⟨m, hF⟩ := I.fr
  refine PySem.W.len_K hF I.ok.mod.kin J hs hf ?_
  refine wpAny_mono (run_own (Q := fun v H' => ∃ n : Nat, v = .int n ∧ n < 2 ^ 62 ∧ Q v H') F hr.in1 gd hb I.env0.in1 I sr rv q (fun d S' v H' ⟨n, e, hn, q'⟩ n' s' r' => ?_)) (fun w s' z => ?_) fun _ _ x => x
  · subst e
    have ev : v = .int n := r'
    subst ev
    exact ⟨n, rfl, hn, an _ _ _ _ q' n' s' rfl⟩
  · obtain ⟨z', H', I', rz, n, rfl, hn, qz⟩ := z
    obtain ⟨t, rfl⟩ := (show ∃ t, w = Value.int n t from rz)
    exact ⟨⟨by omega, by omega⟩, .int n, H', I'.tok _, ⟨_, rfl⟩, qz⟩
end
end L2.DL

/-! DL19: t[::-1] of tuples and lists -/
namespace L2.DL
open PySem PySem.Spec PyProof.Rows
section
variable {prog : Program} {w : World} {A : Around} {E : Value → Shared → Prop} {s : Shared}
end
section
variable {X : Cx}
end
end L2.DL

/-! DL20: list comprehensions with two for -/
namespace L2.DL
open PySem PySem.Spec PyProof.Rows
section
variable {X : Cx}
structure Lc2 (wi : WI) (nt : NT) (tt : WT) (wi1 : WI) (nt1 : NT) (tt1 : WT) (we : WE) (vs vs1 : List Nat) (R : Addr → SO → Prop) (sd : SD) (S : SO) : Prop where
  ex : ∃ R0 : ItD → SO → Prop, wi sd S R0 ∧ ∀ J S1, R0 J S1 → ∀ p, S1 p = none → ∃ Pv : Nat → SO → Prop, Pv 0 (S1.set p (.lst [])) ∧ (∀ i S, Pv i S → J.ok S) ∧
  (∀ i d S, J.items[i]? = some d → Pv i S → putNT nt d (wipeD sd vs) fun sd2 => upT tt sd2 S fun b S2 => if b = true then
    (∃ R1 : ItD → SO → Prop, wi1 sd2 S2 R1 ∧ ∀ J1 S4, R1 J1 S4 → ∃ Pw : Nat → SO → Prop, Pw 0 S4 ∧ (∀ j S, Pw j S → J1.ok S) ∧
      (∀ j d S, J1.items[j]? = some d → Pw j S → putNT nt1 d (wipeD sd2 vs1) fun sd3 => upT tt1 sd3 S fun b S5 => if b = true then up we sd3 S5 fun y S6 => ∃ acc, S6 p = some (.lst acc) ∧ acc.length ≤ 1000000 ∧ Pw (j + 1) (S6.set p (.lst (acc ++ [y]))) else Pw (j + 1) S5) ∧
      (∀ S, Pw J1.items.length S → Pv (i + 1) S))
    else Pv (i + 1) S2) ∧
  (∀ S, Pv J.items.length S → R p S)
theorem lc2_tLc2 {wi wi1 : WI} {nt nt1 : NT} {tt tt1 : WT} {we : WE} {vs vs1 : List Nat} {R : Addr → SO → Prop} {σ : St} {H : Hp} {Q : VK} {sd : SD} {S : SO} (hs : ∀ i ∈ nt.ix, i ∈ vs) (hs1 : ∀ i ∈ nt1.ix, i ∈ vs1) (st : Sta X.K sd S σ H) (q : Lc2 wi nt tt wi1 nt1 tt1 we vs vs1 R sd S)
    (hR : ∀ p S' H', R p S' → Nx S H S' H' → SRel X.K S' H' → Q (.ref p) H') : tLc2 (liftI X.K wi) (gNT X.K nt) (liftT X.K tt) (liftI X.K wi1) (gNT X.K nt1) (liftT X.K tt1) (lift X.K we) vs vs1 σ H Q := by
  obtain ⟨R0, hw0, q0⟩ := q.ex
  refine ⟨sd, S, R0, st, hw0, fun J S1 H1 JV q1 n1 s1 jr p hp => ?_⟩
  obtain ⟨Pv, h0, hok, hst, hend⟩ := q0 J S1 q1 p (s1.free hp)
  have n2 : Nx S1 H1 (S1.set p (.lst [])) (upd H1 p (.lst [])) := nx_obj hp (s1.free hp)
  have s2 : SRel X.K (S1.set p (.lst [])) (upd H1 p (.lst [])) := srel_put s1 n2 ⟨[], upd_same, rfl⟩
  refine ⟨fun i m H' => ∃ S', m = J.items.length - i ∧ i ≤ J.items.length ∧ Pv i S' ∧ SRel X.K S' H' ∧ Nx S1 H1 S' H', ⟨J.items.length, _, by simp, Nat.zero_le _, h0, s2, n2⟩, ?_⟩
  rintro i m H' ⟨S', rfl, hile, hp', s', n'⟩
  have o := hok i S' hp'
  by_cases hlt : i < J.items.length
  · refine .inr ⟨jr.go i S' H' n' s' o hlt, fun H2 => ∃ S2, Pv (i + 1) S2 ∧ SRel X.K S2 H2 ∧ Nx S1 H1 S2 H2, fun H2 ⟨S2, h1, h2, h3⟩ => ⟨J.items.length - (i + 1), by omega, S2, rfl, hlt, h1, h2, h3⟩, fun x H2 hy => ?_⟩
    have hi' := List.getElem?_eq_getElem hlt
    obtain ⟨n3, s3, r3⟩ := jr.yld i S' H' x H2 _ n' s' o hi' hy
    have nn := n'.trans n3
    refine nt_go hs ((st.nx (n1.trans nn) s3).wipe vs) r3 (hst i _ S' hi' hp') fun sd2 σ2 hk st2 hw => ⟨by rw [hw, wipe_wipe], upT_lift ?_⟩
    refine ⟨sd2, S', _, st2, hk, fun b S4 H4 q4 n4 s4 => ?_⟩
    cases b with
    | false => exact ⟨S4, q4, s4, nn.trans n4⟩
    | true =>
      obtain ⟨R1, hw1, q5⟩ := q4
      refine ⟨sd2, S4, R1, st2.nx n4 s4, hw1, fun J1 S5 H5 JV1 qR n5 s5 jr1 => ?_⟩
      obtain ⟨Pw, g0, gok, gst, gend⟩ := q5 J1 S5 qR
      have n45 := nn.trans (n4.trans n5)
      refine ⟨fun j m H' => ∃ S', m = J1.items.length - j ∧ j ≤ J1.items.length ∧ Pw j S' ∧ SRel X.K S' H' ∧ Nx S5 H5 S' H', ⟨J1.items.length, S5, by simp, Nat.zero_le _, g0, s5, .refl _ _⟩, ?_⟩
      rintro j m H6 ⟨S6, rfl, hjle, hp6, s6, n6⟩
      have o1 := gok j S6 hp6
      by_cases hlt1 : j < J1.items.length
      · refine .inr ⟨jr1.go j S6 H6 n6 s6 o1 hlt1, fun H2 => ∃ S2, Pw (j + 1) S2 ∧ SRel X.K S2 H2 ∧ Nx S5 H5 S2 H2, fun H2 ⟨S2, h1, h2, h3⟩ => ⟨J1.items.length - (j + 1), by omega, S2, rfl, hlt1, h1, h2, h3⟩, fun x1 H7 hy1 => ?_⟩
        have hj' := List.getElem?_eq_getElem hlt1
        obtain ⟨n7, s7, r7⟩ := jr1.yld j S6 H6 x1 H7 _ n6 s6 o1 hj' hy1
        have nn1 := n6.trans n7
        have st7 : Sta X.K sd2 S6 σ2 H7 := st2.nx ((n4.trans n5).trans nn1) s7
        refine nt_go hs1 (st7.wipe vs1) r7 (gst j _ S6 hj' hp6) fun sd3 σ3 hk3 st3 hw3 => ⟨by rw [hw3, wipe_wipe], upT_lift ?_⟩
        refine ⟨sd3, S6, _, st3, hk3, fun b S8 H8 q8 n8 s8 => ?_⟩
        cases b with
        | false => exact ⟨S8, q8, s8, nn1.trans n8⟩
        | true =>
          refine up_lift ⟨sd3, S8, _, st3.nx n8 s8, q8, fun y S9 v H9 ⟨acc, ha, hl, q9⟩ n9 s9 r9 => ?_⟩
          obtain ⟨us, hu, ru⟩ := s9 p _ ha
          have n10 : Nx S9 H9 (S9.set p (.lst (acc ++ [y]))) (upd H9 p (.lst (us ++ [v]))) := nx_put ha
          exact ⟨us, hu, by rw [← ru.length]; exact Nat.lt_of_le_of_lt hl (by rw [sizeLine_eq]; decide), _, q9, srel_put s9 n10 ⟨_, upd_same, (ru.app (.one r9)).nx n10⟩, nn1.trans (n8.trans (n9.trans n10))⟩
      · have e : j = J1.items.length := by omega
        subst e
        exact .inl ⟨jr1.stop _ S6 H6 n6 s6 o1 rfl, S6, gend S6 hp6, s6, n45.trans n6⟩
  · have e : i = J.items.length := by omega
    subst e
    exact .inl ⟨jr.stop _ S' H' n' s' o rfl, hR p S' H' (hend S' hp') (n1.trans n') s'⟩
structure Lc2F (wi : WI) (nt : NT) (tt : WT) (wi1 : WI) (nt1 : NT) (tt1 : WT) (we : WE) (vs vs1 : List Nat) (sd : SD) (S : SO) (Q : KD) : Prop where
  st : Lc2 wi nt tt wi1 nt1 tt1 we vs vs1 (fun p S' => ∃ acc, S' p = some (.lst acc) ∧ Q (.lst acc) (S'.del p)) sd S
def wLc2F (wi : WI) (nt : NT) (tt : WT) (wi1 : WI) (nt1 : NT) (tt1 : WT) (we : WE) (vs vs1 : List Nat) : WE := fun sd S Q => Lc2F wi nt tt wi1 nt1 tt1 we vs vs1 sd S Q
variable {elt tg iter tg1 iter1 : Expr} {ifs ifs1 : List Expr} {scope : Scope} {own : List (Str × Nat)} {pos : Pos} {wi wi1 : WI} {nt nt1 : NT} {tt tt1 : WT} {we : WE}
theorem ds_setLc2F {i : Nat} {y : Str} {py spos : Pos} (hc : X.calm = true) (hN : X.N.Nodup) (hi : DI X tg iter wi) (ok : BlkOk X.N X.env.scope scope own) (hv : ∀ i ∈ nt1.ix, i ∈ own.map (·.2)) (hx : ∀ i ∈ nt.ix, i ∈ own.map (·.2)) (hg : Blk X scope fun Y => PG Y tg (gNT X.K nt)) (ht : Blk X scope fun Y => PTs Y ifs (liftT X.K tt))
    (hi1 : Blk X scope fun Y => PI Y tg1 iter1 (liftI X.K wi1)) (hg1 : Blk X scope fun Y => PG Y tg1 (gNT X.K nt1)) (ht1 : Blk X scope fun Y => PTs Y ifs1 (liftT X.K tt1)) (he : Blk X scope fun Y => PE Y elt (lift X.K we))
    (hy : X.N[i]? = some y := by rfl) (hyl : X.env.scope.names.lookup y = some .local := by rfl) (hsw : swapsWith (.ListComp elt [⟨tg, iter, ifs, 0⟩, ⟨tg1, iter1, ifs1, 0⟩] scope pos) (some (.Name y py)) spos.line X.env = pure true := by rfl)
    (hs : ∀ x, foldedSetIterable iter X.env x = pure x := by intro _; rfl) (hs1 : ∀ env x, foldedSetIterable iter1 env x = pure x := by intro _ _; rfl) :
    DS X (.Assign [.Name y py] (.ListComp elt [⟨tg, iter, ifs, 0⟩, ⟨tg1, iter1, ifs1, 0⟩] scope pos) spos) (wAsg (wLc2F wi nt tt wi1 nt1 tt1 we (own.map (·.2)) nt1.ix) (gV i)) :=
  ps_imp (ps_setLc2 hc hN hy hyl hsw hi ok hv hg ht hi1 hg1 ht1 he hs hs1) fun E σ H ⟨sd, S, E0, st, q, an⟩ =>
    lc2_tLc2 (Q := fun x H1 => gName i x σ H1 E.nx) hx (fun i h => h) st q.st fun p S' H' ⟨acc, ha, q'⟩ n' s' => by
      obtain ⟨n2, s2, r2⟩ := frz_lst s' ha
      have n3 := n'.trans n2
      exact an.nx _ _ _ _ q' n3 ((st.nx n3 s2).set i r2)
end
/-- .. its source, its inner source and its element change nothing -/
theorem lc2_of {wi wi1 : WI} {nt nt1 : NT} {we : WE} {vs vs1 : List Nat} {sd : SD} {S : SO} {Q : KD} (items : List D) (g : D → List D) (L : Nat) (hL : ∀ d ∈ items, (g d).length ≤ L) (hz : items.length * L ≤ 1000000) (hi : wi sd S fun J S1 => J = ⟨items, fun _ => True⟩ ∧ S1 = S)
    (hf : ∀ d ∈ items, ∀ S', Ext S S' → putNT nt d (wipeD sd vs) fun sd2 => ∃ (items1 : List D) (f : D → D), (wi1 sd2 S' fun J1 S4 => J1 = ⟨items1, fun _ => True⟩ ∧ S4 = S') ∧ g d = items1.map f ∧
      ∀ d1 ∈ items1, ∀ S'', Ext S S'' → putNT nt1 d1 (wipeD sd2 vs1) fun sd3 => we sd3 S'' fun y S6 => S6 = S'' ∧ f d1 = y)
    (hq : Q (.lst (items.flatMap g)) S) : Lc2F wi nt wYes wi1 nt1 wYes we vs vs1 sd S Q := by
  have yes : ∀ {sd : SD} {S : SO} {Q : Bool → SO → Prop}, Q true S → upT wYes sd S Q := fun h => ⟨fun b S2 => b = true ∧ S2 = _, ⟨rfl, rfl⟩, fun b S2 ⟨e1, e2⟩ => by rw [e1, e2]; exact h⟩
  refine ⟨⟨_, hi, ?_⟩⟩
  rintro J S1 ⟨rfl, rfl⟩ p hp
  have len : ∀ i, i ≤ items.length → ((items.take i).flatMap g).length ≤ i * L := by
    intro i
    induction i with
    | zero => intro _; simp
    | succ i ih =>
      intro h
      have hlt : i < items.length := h
      rw [List.take_succ_eq_append_getElem hlt, List.flatMap_append, List.length_append, Nat.succ_mul]
      have h1 := ih (Nat.le_of_lt hlt)
      have h2 := hL _ (List.getElem_mem hlt)
      simp only [List.flatMap_cons, List.flatMap_nil, List.append_nil]
      omega
  refine ⟨fun i S' => S' = S1.set p (.lst ((items.take i).flatMap g)), by simp, fun _ _ _ => trivial, ?_, ?_⟩
  · rintro i d S' hid rfl
    have hil := (List.getElem?_eq_some_iff.mp hid).1
    have hd := (List.getElem?_eq_some_iff.mp hid).2
    have hdm : d ∈ items := List.mem_of_getElem? hid
    have z := hf d hdm (S1.set p (.lst ((items.take i).flatMap g))) (ext_set hp)
    have hll : i * L + L ≤ 1000000 := by
      have : (i + 1) * L ≤ items.length * L := Nat.mul_le_mul hil (Nat.le_refl _)
      rw [Nat.succ_mul] at this
      omega
    have go : ∀ sd2, (∃ (items1 : List D) (f : D → D), (wi1 sd2 (S1.set p (.lst ((items.take i).flatMap g))) fun J1 S4 => J1 = ⟨items1, fun _ => True⟩ ∧ S4 = S1.set p (.lst ((items.take i).flatMap g))) ∧ g d = items1.map f ∧
        ∀ d1 ∈ items1, ∀ S'', Ext S1 S'' → putNT nt1 d1 (wipeD sd2 vs1) fun sd3 => we sd3 S'' fun y S6 => S6 = S'' ∧ f d1 = y) →
        upT wYes sd2 (S1.set p (.lst ((items.take i).flatMap g))) fun b S2 => if b = true then
          (∃ R1 : ItD → SO → Prop, wi1 sd2 S2 R1 ∧ ∀ J1 S4, R1 J1 S4 → ∃ Pw : Nat → SO → Prop, Pw 0 S4 ∧ (∀ j S, Pw j S → J1.ok S) ∧
            (∀ j d S, J1.items[j]? = some d → Pw j S → putNT nt1 d (wipeD sd2 vs1) fun sd3 => upT wYes sd3 S fun b S5 => if b = true then up we sd3 S5 fun y S6 => ∃ acc, S6 p = some (.lst acc) ∧ acc.length ≤ 1000000 ∧ Pw (j + 1) (S6.set p (.lst (acc ++ [y]))) else Pw (j + 1) S5) ∧
            (∀ S, Pw J1.items.length S → S = S1.set p (.lst ((items.take (i + 1)).flatMap g))))
          else S2 = S1.set p (.lst ((items.take (i + 1)).flatMap g)) := by
      rintro sd2 ⟨items1, f, hw1, hg, hf1⟩
      refine yes ?_
      rw [if_pos rfl]
      refine ⟨_, hw1, ?_⟩
      rintro J1 S4 ⟨rfl, rfl⟩
      have hlen1 : items1.length ≤ L := by
        have := hL d hdm
        rw [hg, List.length_map] at this
        exact this
      have hlen := len i (Nat.le_of_lt hil)
      refine ⟨fun j S' => S' = S1.set p (.lst ((items.take i).flatMap g ++ (items1.take j).map f)), by simp, fun _ _ _ => trivial, ?_, ?_⟩
      · rintro j d1 S' hjd rfl
        have hjl := (List.getElem?_eq_some_iff.mp hjd).1
        have hjm : d1 ∈ items1 := List.mem_of_getElem? hjd
        have z1 := hf1 d1 hjm (S1.set p (.lst ((items.take i).flatMap g ++ (items1.take j).map f))) (ext_set hp)
        have fin : ∀ sd3, (we sd3 (S1.set p (.lst ((items.take i).flatMap g ++ (items1.take j).map f))) fun y S6 => S6 = S1.set p (.lst ((items.take i).flatMap g ++ (items1.take j).map f)) ∧ f d1 = y) →
            upT wYes sd3 (S1.set p (.lst ((items.take i).flatMap g ++ (items1.take j).map f))) fun b S5 => if b = true then up we sd3 S5 fun y S6 => ∃ acc, S6 p = some (.lst acc) ∧ acc.length ≤ 1000000 ∧ S6.set p (.lst (acc ++ [y])) = S1.set p (.lst ((items.take i).flatMap g ++ (items1.take (j + 1)).map f))
              else S5 = S1.set p (.lst ((items.take i).flatMap g ++ (items1.take (j + 1)).map f)) := by
          intro sd3 hh
          refine yes ?_
          rw [if_pos rfl]
          refine ⟨_, hh, ?_⟩
          rintro y S6 ⟨rfl, rfl⟩
          refine ⟨_, set_same, ?_, ?_⟩
          · rw [List.length_append, List.length_map, List.length_take]
            omega
          · rw [set_set, List.take_add_one, hjd, List.map_append, List.append_assoc]
            rfl
        cases nt1 with
        | n k => exact fin _ z1
        | t l =>
          cases d1 with
          | tup xs => exact ⟨z1.1, fin _ z1.2⟩
          | _ => exact False.elim z1
      · rintro S' rfl
        rw [List.take_length, List.take_add_one, hid, List.flatMap_append, ← hg]
        simp
    cases nt with
    | n k => exact go _ z
    | t l =>
      cases d with
      | tup xs => exact ⟨z.1, go _ z.2⟩
      | _ => exact False.elim z
  · rintro S' rfl
    refine ⟨_, set_same, ?_⟩
    rw [List.take_length, del_set hp]
    exact hq
end L2.DL

/-! DL21: list.insert, list.pop() -/
namespace L2.DL
open PySem PySem.Spec PyProof.Rows
section
variable {X : Cx}
end
end L2.DL

/-! DL22: readings answered step by step, each step a lemma that fits by its head alone -/
namespace L2.DL
open PySem PySem.Spec PyProof.Rows
abbrev NoS : SD → SO → Prop := fun _ _ => False
section
variable {n bk ct : SD → SO → Prop} {r : KD} {sd : SD} {S : SO} {Q : KD} {a b : WS} {we wa wb wc : WE} {t : WA} {o : Option D} {d x y : D} {i j : Int} {A B : Prop}
/-! statements -/
theorem xFn {w : WS} (h : w ⟨fun _ S' => Cl Q .non S', Cl Q, NoS, NoS⟩ sd S) : w (endsOf Q) sd S := h
theorem xSeq (h : a ⟨b ⟨n, r, bk, ct⟩, r, bk, ct⟩ sd S) : wSeq a b ⟨n, r, bk, ct⟩ sd S := h
theorem xNext (h : n sd S) : wNext ⟨n, r, bk, ct⟩ sd S := h
theorem xBreak (h : bk sd S) : wBreak ⟨n, r, bk, ct⟩ sd S := h
theorem xCont (h : ct sd S) : wCont ⟨n, r, bk, ct⟩ sd S := h
theorem xRet (h : we sd S r) : wRet we ⟨n, r, bk, ct⟩ sd S := h
theorem xRetN (h : r .non S) : wRetN ⟨n, r, bk, ct⟩ sd S := h
theorem xDrop (h : we sd S fun _ S1 => n sd S1) : wDrop we ⟨n, r, bk, ct⟩ sd S := h
theorem xIfS {c : WT} (h : c sd S fun k S1 => if k = true then a ⟨n, r, bk, ct⟩ sd S1 else b ⟨n, r, bk, ct⟩ sd S1) : wIfS c a b ⟨n, r, bk, ct⟩ sd S := h
theorem xAsg {g : WG} (h : we sd S fun d S1 => g d sd S1 n) : wAsg we g ⟨n, r, bk, ct⟩ sd S := h
/-! targets -/
section
variable {Qg : SD → SO → Prop} {ds : List D} {g : WG} {gs : WGs}
theorem g0 (h : Qg (some d :: sd) S) : gV 0 d (o :: sd) S Qg := h
theorem gSu {k : Nat} (h : gV k d sd S fun sd' S' => Qg (o :: sd') S') : gV (k + 1) d (o :: sd) S Qg := h
theorem gTup {k : Nat} (h : gs ds sd S Qg) (hl : ds.length = k := by with_unfolding_all rfl) : gT k gs (.tup ds) sd S Qg := ⟨hl, h⟩
theorem gCons (h : g d sd S fun sd1 S1 => gs ds sd1 S1 Qg) : gC g gs (d :: ds) sd S Qg := h
theorem gNil (h : Qg sd S) : gN [] sd S Qg := ⟨rfl, h⟩
end
/-! names, constants -/
theorem v0 (h : Q d S) : wV 0 (some d :: sd) S Q := h
theorem vS {k : Nat} (h : wV k sd S Q) : wV (k + 1) (o :: sd) S Q := by
  unfold wV at h ⊢
  rw [List.getElem?_cons_succ]
  exact h
theorem xC (h : Q d S) : wC d sd S Q := h
/-! operators -/
theorem xO {w : WO} (h : wa sd S fun x S1 => wb sd S1 fun y S2 => w x y S2 Q) : wO w wa wb sd S Q := h
theorem xU {w : WU} (h : wa sd S fun x S1 => w x S1 Q) : wU w wa sd S Q := h
theorem xCall {w : WL} (h : t sd S fun xs S1 => w xs S1 Q) : wCall w t sd S Q := h
section
variable {Qa : List D → SO → Prop}
theorem xNil (h : Qa [] S) : wNil sd S Qa := h
theorem xCons (h : we sd S fun x S1 => t sd S1 fun xs S2 => Qa (x :: xs) S2) : wCons we t sd S Qa := h
theorem xStar (h : we sd S fun d S1 => ∃ xs, seqX S1 d = some xs ∧ t sd S1 fun ys S2 => Qa (xs ++ ys) S2) : wStar we t sd S Qa := h
end
theorem xTup (h : t sd S fun xs S1 => xs.length ≤ 1000000 ∧ Q (.tup xs) S1) : wTup t sd S Q := h
theorem xTupF (h : t sd S fun xs S1 => xs.length ≤ 1000000 ∧ Q (.tf xs) S1) : wTupF t sd S Q := h
theorem xLst (h : t sd S fun xs S1 => xs.length ≤ 1000000 ∧ Q (.lst xs) S1) : wLst t sd S Q := h
theorem xNew (h : t sd S fun xs S1 => xs.length ≤ 1000000 ∧ ∀ p, S1 p = none → Q (.obj p) (S1.set p (.lst xs))) : wNew t sd S Q := h
theorem andL (ha : A) (hb : B) : A ∧ B := ⟨ha, hb⟩
/-! truths -/
section
variable {Qb : Bool → SO → Prop} {tt tu : WT}
theorem xB (h : wa sd S (isB Qb)) : wB wa sd S Qb := h
theorem xAnd (h : tt sd S fun k S1 => if k = true then tu sd S1 Qb else Qb false S1) : wAnd tt tu sd S Qb := h
theorem xOr (h : tt sd S fun k S1 => if k = true then Qb true S1 else tu sd S1 Qb) : wOr tt tu sd S Qb := h
theorem xNot (h : tt sd S fun k S1 => Qb (!k) S1) : wNot tt sd S Qb := h
theorem xAndV (h : wa sd S (isB fun k S1 => if k = true then wb sd S1 Q else Q (.bl false) S1)) : wAndV wa wb sd S Q := h
theorem xOrV (h : wa sd S (isB fun k S1 => if k = true then Q (.bl true) S1 else wb sd S1 Q)) : wOrV wa wb sd S Q := h
theorem xNotV (h : wa sd S (isB fun k S1 => Q (.bl (!k)) S1)) : wNotV wa sd S Q := h
theorem xIf {tt : WT} (h : tt sd S fun k S1 => if k = true then wa sd S1 Q else wb sd S1 Q) : wIf tt wa wb sd S Q := h
theorem xCh {w w' : WO} (h : wa sd S fun x S1 => wb sd S1 fun y S2 => w x y S2 (isB fun k S3 => if k = true then wc sd S3 fun u S4 => w' y u S4 Q else Q (.bl false) S3)) : wCh w w' wa wb wc sd S Q := h
theorem xYes (h : Qb true S) : wYes sd S Qb := h
theorem isT (h : Qb true S) : isB Qb (.bl true) S := ⟨h⟩
theorem isF (h : Qb false S) : isB Qb (.bl false) S := ⟨h⟩
theorem isT' (h : Qb true S) : IsB Qb (.bl true) S := ⟨h⟩
theorem isF' (h : Qb false S) : IsB Qb (.bl false) S := ⟨h⟩
theorem isD {P : Prop} [Decidable P] (h1 : P → Qb true S) (h2 : ¬ P → Qb false S) : isB Qb (.bl (decide P)) S := by
  by_cases h : P
  · rw [decide_eq_true h]
    exact ⟨h1 h⟩
  · rw [decide_eq_false h]
    exact ⟨h2 h⟩
theorem isDN {P : Prop} [Decidable P] (h : ¬ P) (q : Qb false S) : isB Qb (.bl (decide P)) S := by
  rw [decide_eq_false h]
  exact ⟨q⟩
theorem isND {P : Prop} [Decidable P] (h1 : P → Qb false S) (h2 : ¬ P → Qb true S) : isB Qb (.bl (!decide P)) S := by
  by_cases h : P
  · rw [decide_eq_true h]
    exact ⟨h1 h⟩
  · rw [decide_eq_false h]
    exact ⟨h2 h⟩
theorem isCB {c : Bool} (h1 : c = true → Qb true S) (h2 : c = false → Qb false S) : isB Qb (.bl c) S := isC h1 h2
theorem isYB {c : Bool} (e : c = true) (q : Qb true S) : isB Qb (.bl c) S := isY e q
theorem isNB {c : Bool} (e : c = false) (q : Qb false S) : isB Qb (.bl c) S := isN e q
theorem iT (h : A) : if true = true then A else B := by
  rw [if_pos rfl]
  exact h
theorem iF (h : B) : if false = true then A else B := by
  rw [if_neg Bool.false_ne_true]
  exact h
theorem iNT (h : B) : if (!true) = true then A else B := iF h
theorem iNF (h : A) : if (!false) = true then A else B := iT h
end
/-! ints -/
theorem iAdd (h : Q (.int (i + j)) S) : oAdd (.int i) (.int j) S Q := h
theorem iSub (h : Q (.int (i - j)) S) : oSub (.int i) (.int j) S Q := ⟨trivial, h⟩
theorem iAnd (h : Q (.int (Builtin.bitAnd i j)) S) : oAnd (.int i) (.int j) S Q := ⟨trivial, h⟩
theorem iOr (h : Q (.int (Builtin.bitOr i j)) S) : oOr (.int i) (.int j) S Q := ⟨trivial, h⟩
theorem iLt (h : Q (.bl (decide (i < j))) S) : oLt (.int i) (.int j) S Q := ⟨trivial, h⟩
theorem iLe (h : Q (.bl (decide (i ≤ j))) S) : oLe (.int i) (.int j) S Q := ⟨trivial, h⟩
theorem iGt (h : Q (.bl (decide (j < i))) S) : oGt (.int i) (.int j) S Q := ⟨trivial, h⟩
theorem iGe (h : Q (.bl (decide (j ≤ i))) S) : oGe (.int i) (.int j) S Q := ⟨trivial, h⟩
theorem iEq (h : Q (.bl (decide (i = j))) S) : oEq (.int i) (.int j) S Q := h
theorem iNe (h : Q (.bl (!decide (i = j))) S) : oNe (.int i) (.int j) S Q := h
theorem sEq {u v : Str} (h : Q (.bl (decide (u = v))) S) : oEq (.str u) (.str v) S Q := h
theorem sNe {u v : Str} (h : Q (.bl (!decide (u = v))) S) : oNe (.str u) (.str v) S Q := h
theorem iNeg (h : Q (.int (-i)) S) : oNeg (.int i) S Q := h
theorem tAdd {u v : List D} (h : Q (.tup (u ++ v)) S) (hl : u.length + v.length ≤ 1000000) : oAdd (.tup u) (.tup v) S Q := ⟨hl, h⟩
theorem isN1 (h : Q (.bl true) S) : oIsN .non .non S Q := ⟨rfl, h⟩
theorem isN2 (h : Q (.bl (isNon d)) S) : oIsN d .non S Q := ⟨rfl, h⟩
theorem noN2 (h : Q (.bl (!isNon d)) S) : oNotN d .non S Q := ⟨rfl, h⟩
/-! lengths -/
section
variable {k : Nat → Prop} {xs : List D} {α : Type} {f : α → D} {l : List α}
theorem xLen (h : lenD S x fun n => Q (.int (n : Nat)) S) : cLen [x] S Q := h
theorem lTupM (h : k l.length) : lenD S (.tup (l.map f)) k := len_seq rfl (by rw [List.length_map]; exact h)
theorem lTfM (h : k l.length) : lenD S (.tf (l.map f)) k := len_seq rfl (by rw [List.length_map]; exact h)
theorem lLstM (h : k l.length) : lenD S (.lst (l.map f)) k := len_seq rfl (by rw [List.length_map]; exact h)
theorem lSrcM (h : k l.length) : lenD S (.src (l.map f)) k := len_seq rfl (by rw [List.length_map]; exact h)
theorem lTup (h : k xs.length) : lenD S (.tup xs) k := len_seq rfl h
theorem lTf (h : k xs.length) : lenD S (.tf xs) k := len_seq rfl h
theorem lLst (h : k xs.length) : lenD S (.lst xs) k := len_seq rfl h
theorem lSrc (h : k xs.length) : lenD S (.src xs) k := len_seq rfl h
theorem lDic {t : Bool} {kvs : List (D × D)} (h : k kvs.length) : lenD S (.dic t kvs) k := ⟨.inr ⟨t, kvs, rfl, h⟩⟩
/-! all, any -/
theorem xAll {bs : List Bool} (h : Q (.bl (bs.all id)) S) : cAll [.lst (bs.map D.bl)] S Q := ⟨bs, rfl, h⟩
theorem xAllM {g : α → Bool} (h : Q (.bl (l.all g)) S) : cAll [.lst (l.map fun z => .bl (g z))] S Q := ⟨l.map g, by show some _ = some _; rw [List.map_map]; rfl, by show Q (.bl ((l.map g).all id)) S; rw [List.all_map]; exact h⟩
theorem xAnyM {g : α → Bool} (h : Q (.bl (l.any g)) S) : cAny [.lst (l.map fun z => .bl (g z))] S Q := ⟨l.map g, by show some _ = some _; rw [List.map_map]; rfl, by show Q (.bl ((l.map g).any id)) S; rw [List.any_map]; exact h⟩
end
/-! items by index -/
section
variable {xs : List D} {k : Nat} {α : Type} {f : α → D} {l : List α} {z : α}
theorem ixTf (e : atI xs i = some d) (h : Q d S) : oIx (.tf xs) (.int i) S Q := .inl ⟨xs, i, d, rfl, rfl, e, h⟩
theorem ixTup (e : atI xs i = some d) (h : Q d S) : oIx (.tup xs) (.int i) S Q := .inl ⟨xs, i, d, rfl, rfl, e, h⟩
theorem ixLst (e : atI xs i = some d) (h : Q d S) : oIx (.lst xs) (.int i) S Q := .inl ⟨xs, i, d, rfl, rfl, e, h⟩
theorem at0 {v : D} {vs : List D} : atI (v :: vs) 0 = some v := atI_nat (j := 0) rfl
theorem at1 {v u : D} {vs : List D} : atI (v :: u :: vs) 1 = some u := atI_nat (j := 1) rfl
theorem at2 {v u w : D} {vs : List D} : atI (v :: u :: w :: vs) 2 = some w := atI_nat (j := 2) rfl
theorem atM (e : l[k]? = some z) : atI (l.map f) ((k : Nat) : Int) = some (f z) := atI_nat (by rw [List.getElem?_map, e]; rfl)
end
/-! calls -/
theorem xFnC {sp : DSp} (h : t sd S fun xs S1 => sp xs S1 Q NoE) : wFn sp [] t sd S Q := by
  unfold wFn
  simp only [List.append_nil]
  exact h
/-! attributes, methods of instances -/
def FldD (C : Addr) (g : Str) (d : D) (S : SO) (Q : KD) : Prop := ∃ fs v, InsD C d S fs ∧ fs.lookup g = some v ∧ Q v S
theorem xFld {C : Addr} {g : Str} (h : we sd S fun d S1 => FldD C g d S1 Q) : wFld C g we sd S Q := h
def MthD (C : Addr) (m : Str) (d : D) (S : SO) (A : Prop) : Prop := (∃ fs, InsD C d S fs ∧ fs.lookup m = none) ∧ A
theorem xMth {C : Addr} {m : Str} {sp : DSp} (h : we sd S fun d S1 => MthD C m d S1 (t sd S1 fun xs S2 => sp (d :: xs) S2 Q NoE)) : wMeth C m sp [] we t sd S Q := by
  unfold wMeth
  simp only [List.append_nil]
  exact h
/-! what is walked -/
section
variable {R : ItD → SO → Prop} {Rs : List D → (SO → Prop) → Prop} {xs : List D}
theorem xSeqI (h : we sd S fun d S1 => seqD d S1 fun xs ok => R ⟨xs, ok⟩ S1) : wSeqI we sd S R := h
theorem sTup (h : Rs xs fun _ => True) : seqD (.tup xs) S Rs := h
theorem sTf (h : Rs xs fun _ => True) : seqD (.tf xs) S Rs := h
theorem sLst (h : Rs xs fun _ => True) : seqD (.lst xs) S Rs := h
theorem sSrc (h : Rs xs fun _ => True) : seqD (.src xs) S Rs := h
theorem xEnum (h : t sd S fun xs S1 => one xs fun d => seqD d S1 fun ys ok => R ⟨enumD ys, ok⟩ S1) : wEnum t sd S R := h
theorem one1 {k : D → Prop} (h : k d) : one [d] k := h
theorem xRng1 (h : t sd S fun xs S1 => int1 xs fun j => -(2 ^ 62) ≤ j ∧ j < 2 ^ 62 ∧ R ⟨rangeD 0 j, fun _ => True⟩ S1) : wRng1 t sd S R := h
theorem xRng2 (h : t sd S fun xs S1 => int2 xs fun i j => (-(2 ^ 62) ≤ i ∧ i < 2 ^ 62 ∧ -(2 ^ 62) ≤ j ∧ j < 2 ^ 62) ∧ R ⟨rangeD i j, fun _ => True⟩ S1) : wRng2 t sd S R := h
theorem int1' {k : Int → Prop} (h : k i) : int1 [.int i] k := h
theorem int2' {k : Int → Int → Prop} (h : k i j) : int2 [.int i, .int j] k := h
theorem rng1N {k : Nat} (hk : k ≤ 1000000) (h : R ⟨rangeD 0 (k : Nat), fun _ => True⟩ S) : -(2 ^ 62) ≤ ((k : Nat) : Int) ∧ ((k : Nat) : Int) < 2 ^ 62 ∧ R ⟨rangeD 0 (k : Nat), fun _ => True⟩ S := ⟨by omega, by omega, h⟩
theorem rangeN (k : Nat) : rangeD 0 ((k : Nat) : Int) = (List.range k).map fun i => .int ((i : Nat) : Int) := by
  unfold rangeD
  rw [show ((k : Int) - 0).toNat = k by omega]
  exact List.map_congr_left fun i _ => by rw [Int.zero_add]
end
/-! slices -/
theorem xSl {tl th : WP} (h : we sd S fun d S1 => tl sd S1 fun lo S2 => th sd S2 fun hi S3 => sliD d S3 lo hi Q) : wSl we tl th sd S Q := h
section
variable {Qo : Option Int → SO → Prop}
theorem pN (h : Qo none S) : pNone sd S Qo := h
theorem pS (h : we sd S (isI fun i S1 => Qo (some i) S1)) : pSome we sd S Qo := h
end
theorem isI1 {k : Int → SO → Prop} (h : k i S) : isI k (.int i) S := ⟨h⟩
section
variable {xs : List D} {lo hi : Option Int} {k l : Nat} {p : Addr}
theorem slTup (h : Q (.tup (cutD xs lo hi)) S) : sliD (.tup xs) S lo hi Q := h
theorem slSrc (h : Q (.lst (cutD xs lo hi)) S) : sliD (.src xs) S lo hi Q := h
theorem slLst (h : Q (.lst (cutD xs lo hi)) S) : sliD (.lst xs) S lo hi Q := ⟨xs, rfl, h⟩
theorem sIxN (n d : Nat) : HT.sIx n d (some (k : Int)) = min k n := HT.sIx_nat n d k
theorem cutLo : cutD xs (some (k : Int)) none = xs.drop k := by
  unfold cutD
  rw [sIxN]
  show (xs.drop (min k xs.length)).take (xs.length - min k xs.length) = _
  by_cases h : k ≤ xs.length
  · rw [Nat.min_eq_left h, List.take_of_length_le (by rw [List.length_drop]; omega)]
  · rw [Nat.min_eq_right (by omega), List.drop_of_length_le (Nat.le_refl _), List.drop_of_length_le (by omega), List.take_nil]
theorem cutHi : cutD xs none (some (k : Int)) = xs.take k := by
  unfold cutD
  rw [sIxN]
  show (xs.drop 0).take (min k xs.length - 0) = _
  rw [List.drop_zero, Nat.sub_zero]
  by_cases h : k ≤ xs.length
  · rw [Nat.min_eq_left h]
  · rw [Nat.min_eq_right (by omega), List.take_of_length_le (Nat.le_refl _), List.take_of_length_le (by omega)]
/-- t[k:], k > 0, of a tuple known to have no dict; the empty one is left out -/
theorem slTfLo (h : Q (.tup (xs.drop k)) S) (hk : 0 < k) (hn : 0 < xs.length) : sliD (.tf xs) S (some (k : Int)) none Q := ⟨fun ⟨e, _⟩ => by rw [sIxN] at e; omega, by rw [cutLo]; exact h⟩
theorem slTfLo1 (h : Q (.tup (xs.drop (k + 1))) S) (hn : 0 < xs.length) : sliD (.tf xs) S (some ((k : Int) + 1)) none Q := slTfLo (k := k + 1) h (by omega) hn
theorem slTfHi (h : Q (.tup (xs.take k)) S) (hk : k < xs.length) : sliD (.tf xs) S none (some (k : Int)) Q := ⟨fun ⟨_, e⟩ => by rw [sIxN] at e; omega, by rw [cutHi]; exact h⟩
end
/-! isinstance -/
end
/-! assignments at once, methods of lists -/
section
variable {n bk ct : SD → SO → Prop} {r : KD} {sd : SD} {S : SO} {Q : KD} {we : WE} {t : WA} {d x y z : D} {p : Addr} {xs : List D} {A : Prop}
theorem xPar {i j : Nat} (h : t sd S fun xs S1 => two2 xs fun x y => gV i x sd S1 fun sd' S2 => gV j y sd' S2 n) : wPar i j t ⟨n, r, bk, ct⟩ sd S := h
theorem xPar3 {i j k : Nat} (h : t sd S fun xs S1 => three xs fun x y z => gV i x sd S1 fun sd' S2 => gV j y sd' S2 fun sd' S2 => gV k z sd' S2 n) : wPar3 i j k t ⟨n, r, bk, ct⟩ sd S := h
theorem two2' {k : D → D → Prop} (h : k x y) : two2 [x, y] k := h
theorem three' {k : D → D → D → Prop} (h : k x y z) : three [x, y, z] k := h
def BmD (T : String) (d : D) (S : SO) (A : Prop) : Prop := tyD T d S ∧ A
theorem xBM {T : String} {w : WM} (h : we sd S fun d S1 => BmD T d S1 (t sd S1 fun xs S2 => w d xs S2 Q)) : wBM T w we t sd S Q := h
theorem bmLst (h : A) : BmD "list" (.lst xs) S A := ⟨rfl, h⟩
theorem bmSrc (h : A) : BmD "list" (.src xs) S A := ⟨rfl, h⟩
theorem tfL (h : Q (.tf xs) S) : cTupleF [.lst xs] S Q := ⟨xs, rfl, h⟩
theorem tuL (h : Q (.tup xs) S) : cTuple [.lst xs] S Q := ⟨xs, rfl, h⟩
theorem tuT (h : Q (.tup xs) S) : cTuple [.tup xs] S Q := h
theorem liS (e : seqX S d = some xs) (h : Q (.lst xs) S) : cList [d] S Q := ⟨xs, e, h⟩
end
/-! for loops over typed sources and states -/
section
variable {n bk ct : SD → SO → Prop} {r : KD} {sd : SD} {S : SO} {wi : WI} {g : WG} {b : WS} {α σ : Type}
def ForJ (g : WG) (b : WS) (n : SD → SO → Prop) (r : KD) (sd : SD) (J : ItD) (S1 : SO) : Prop := ∃ Pv : Nat → SD → SO → Prop, Pv 0 sd S1 ∧ (∀ i sd S, Pv i sd S → J.ok S) ∧
  (∀ i d sd S, J.items[i]? = some d → Pv i sd S → g d sd S fun sd' S' => b ⟨Pv (i + 1), r, n, Pv (i + 1)⟩ sd' S') ∧ (∀ sd S, Pv J.items.length sd S → n sd S)
theorem xFor (h : wi sd S fun J S1 => ForJ g b n r sd J S1) : wFor wi g b ⟨n, r, bk, ct⟩ sd S := ⟨h⟩
/-- what holds before turn i -/
def Turn (st : σ → SD) (so : σ → SO) (Iv : Nat → σ → Prop) (i : Nat) : SD → SO → Prop := fun sd S => ∃ a, sd = st a ∧ S = so a ∧ Iv i a
theorem Turn.of {st : σ → SD} {so : σ → SO} {Iv : Nat → σ → Prop} {i : Nat} (a : σ) (hv : Iv i a) (h1 : sd = st a := by rfl) (h2 : S = so a := by rfl) : Turn st so Iv i sd S := ⟨a, h1, h2, hv⟩
/-- σ: what the state is made of; st, so: the slots, the objects; Iv: the invariant before turn i -/
theorem forJ {xs : List D} {ok : SO → Prop} (l : List α) (f : α → D) (st : σ → SD) (so : σ → SO) (Iv : Nat → σ → Prop) (a0 : σ) (h0 : Iv 0 a0)
    (ht : ∀ i z a, l[i]? = some z → Iv i a → g (f z) (st a) (so a) fun sd' S' => b ⟨Turn st so Iv (i + 1), r, n, Turn st so Iv (i + 1)⟩ sd' S')
    (he : ∀ a, Iv l.length a → n (st a) (so a)) (hs : sd = st a0 := by rfl) (hS : S = so a0 := by rfl) (hx : xs = l.map f := by rfl) (hok : ∀ i a, Iv i a → ok (so a) := by intros; trivial) : ForJ g b n r sd ⟨xs, ok⟩ S := by
  subst hx
  refine ⟨Turn st so Iv, ⟨a0, hs, hS, h0⟩, ?_, ?_, ?_⟩
  · rintro i sd S ⟨a, rfl, rfl, hv⟩
    exact hok i a hv
  · rintro i d sd S hd ⟨a, rfl, rfl, hv⟩
    rw [List.getElem?_map] at hd
    obtain ⟨z, hz, rfl⟩ := Option.map_eq_some_iff.mp hd
    exact ht i z a hz hv
  · rintro sd S ⟨a, rfl, rfl, hv⟩
    rw [List.length_map] at hv
    exact he a hv
theorem forE {ys : List D} {ok : SO → Prop} (l : List α) (f : α → D) (st : σ → SD) (so : σ → SO) (Iv : Nat → σ → Prop) (a0 : σ) (h0 : Iv 0 a0)
    (ht : ∀ i z a, l[i]? = some z → Iv i a → g (.tup [.int (i : Nat), f z]) (st a) (so a) fun sd' S' => b ⟨Turn st so Iv (i + 1), r, n, Turn st so Iv (i + 1)⟩ sd' S')
    (he : ∀ a, Iv l.length a → n (st a) (so a)) (hs : sd = st a0 := by rfl) (hS : S = so a0 := by rfl) (hx : ys = l.map f := by rfl) (hok : ∀ i a, Iv i a → ok (so a) := by intros; trivial) : ForJ g b n r sd ⟨enumD ys, ok⟩ S := by
  subst hx
  refine ⟨Turn st so Iv, ⟨a0, hs, hS, h0⟩, ?_, ?_, ?_⟩
  · rintro i sd S ⟨a, rfl, rfl, hv⟩
    exact hok i a hv
  · rintro i d sd S hd ⟨a, rfl, rfl, hv⟩
    obtain ⟨x, hx, rfl⟩ := enumD_get hd
    rw [List.getElem?_map] at hx
    obtain ⟨z, hz, rfl⟩ := Option.map_eq_some_iff.mp hx
    exact ht i z a hz hv
  · rintro sd S ⟨a, rfl, rfl, hv⟩
    rw [enumD_len, List.length_map] at hv
    exact he a hv
theorem forR {m : Nat} {ok : SO → Prop} (st : σ → SD) (so : σ → SO) (Iv : Nat → σ → Prop) (a0 : σ) (h0 : Iv 0 a0)
    (ht : ∀ i a, i < m → Iv i a → g (.int (i : Nat)) (st a) (so a) fun sd' S' => b ⟨Turn st so Iv (i + 1), r, n, Turn st so Iv (i + 1)⟩ sd' S')
    (he : ∀ a, Iv m a → n (st a) (so a)) (hs : sd = st a0 := by rfl) (hS : S = so a0 := by rfl) (hok : ∀ i a, Iv i a → ok (so a) := by intros; trivial) : ForJ g b n r sd ⟨rangeD 0 (m : Nat), ok⟩ S := by
  rw [rangeN]
  refine forJ (List.range m) (fun i : Nat => .int (i : Nat)) st so Iv a0 h0 (fun i z a hz hv => ?_) (fun a hv => he a (by rwa [List.length_range] at hv)) hs hS rfl hok
  have hl := (List.getElem?_eq_some_iff.mp hz).1
  rw [List.length_range] at hl
  rw [List.getElem?_range hl] at hz
  cases hz
  exact ht i a hl hv
/-! list comprehensions over typed sources -/
variable {nt : NT} {tt : WT} {we wk : WE} {vs : List Nat} {Q : KD}
class InjD {α : Type} (f : α → D) : Prop where
  inj : ∀ a b, f a = f b → a = b
instance : InjD D.str := ⟨fun _ _ h => by injection h⟩
instance : InjD D.int := ⟨fun _ _ h => by injection h⟩
instance : InjD (fun d : D => d) := ⟨fun _ _ h => h⟩
instance : InjD (fun i : Nat => D.int (i : Nat)) := ⟨fun _ _ h => by injection h with h; omega⟩
instance {α β : Type} (f : α → D) (h : β → D) [InjD f] [InjD h] : InjD (fun z : α × β => D.tup [f z.1, h z.2]) := ⟨fun a b e => by
  injection e with e
  injection e with e1 e
  injection e with e2 e
  exact Prod.ext (InjD.inj (f := f) _ _ e1) (InjD.inj (f := h) _ _ e2)⟩
theorem map_inj {α : Type} {f : α → D} [InjD f] : ∀ {a b : List α}, a.map f = b.map f → a = b
  | [], [], _ => rfl
  | [], _ :: _, h => by cases h
  | _ :: _, [], h => by cases h
  | x :: xs, y :: ys, h => by
    rw [List.map_cons, List.map_cons] at h
    injection h with h1 h2
    rw [InjD.inj (f := f) _ _ h1, map_inj h2]
instance {α : Type} (f : α → D) [InjD f] : InjD (fun r : List α => D.tup (r.map f)) := ⟨fun a b e => by injection e with e; exact map_inj e⟩
instance {α : Type} (f : α → D) [InjD f] : InjD (fun r : List α => D.tf (r.map f)) := ⟨fun a b e => by injection e with e; exact map_inj e⟩
instance {α : Type} (f : α → D) [InjD f] : InjD (fun r : List α => D.lst (r.map f)) := ⟨fun a b e => by injection e with e; exact map_inj e⟩
open Classical in
noncomputable def backF {α : Type} (l : List α) (f : α → D) (out : α → Option D) : D → Option D := fun d => if h : ∃ z, z ∈ l ∧ f z = d then out h.choose else none
theorem backF_eq {α : Type} {l : List α} {f : α → D} [InjD f] {out : α → Option D} {z : α} (h : z ∈ l) : backF l f out (f z) = out z := by
  unfold backF
  have e : ∃ z', z' ∈ l ∧ f z' = f z := ⟨z, h, rfl⟩
  rw [dif_pos e, InjD.inj (f := f) _ _ e.choose_spec.2]
theorem backF_map {α : Type} {l : List α} {f : α → D} [InjD f] {out : α → Option D} : (l.map f).filterMap (backF l f out) = l.filterMap out := by
  rw [List.filterMap_map]
  have key : ∀ m : List α, (∀ z ∈ m, z ∈ l) → m.filterMap (backF l f out ∘ f) = m.filterMap out := fun m => by
    induction m with
    | nil => intro _; rfl
    | cons x m ih =>
      intro hm
      rw [List.filterMap_cons, List.filterMap_cons, ih fun z hz => hm z (List.mem_cons_of_mem _ hz)]
      simp only [Function.comp]
      rw [backF_eq (hm x (List.mem_cons_self ..))]
  exact key l fun _ h => h
theorem map_filterMap {α β : Type} {p : α → Bool} {out : α → β} : ∀ l : List α, l.filterMap (fun z => if p z = true then some (out z) else none) = (l.filter p).map out
  | [] => rfl
  | x :: xs => by
    rw [List.filterMap_cons, List.filter_cons]
    cases h : p x <;> simp [map_filterMap xs]
/-- the source: the items of l -/
structure Src {α : Type} (l : List α) (f : α → D) (S : SO) (J : ItD) (S1 : SO) : Prop where
  it : J.items = l.map f
  ok : ∀ S', Ext S1 S' → J.ok S'
  st : S1 = S
theorem srcT {l : List α} {f : α → D} : Src l f S ⟨l.map f, fun _ => True⟩ S := ⟨rfl, fun _ _ => trivial, rfl⟩
theorem srcX {l : List α} {f : α → D} {xs : List D} (h : xs = l.map f) : Src l f S ⟨xs, fun _ => True⟩ S := ⟨h, fun _ _ => trivial, rfl⟩
theorem putNT_mono {nt : NT} {d : D} {sd : SD} {k k' : SD → Prop} (h : putNT nt d sd k) (i : ∀ sd2, k sd2 → k' sd2) : putNT nt d sd k' := by
  cases nt with
  | n j => exact i _ h
  | t l =>
    cases d with
    | tup xs => exact ⟨h.1, i _ h.2⟩
    | _ => exact False.elim h
/-- with a test: what is asked behind the test's answer c; o: the new item, if any -/
def LcK (we : WE) (sd2 : SD) (S' : SO) (o : Option D) : Bool → SO → Prop := fun c S2 => S2 = S' ∧ if c = true then up we sd2 S' fun y S3 => S3 = S' ∧ o = some y else o = none
theorem lcKT {sd2 : SD} {S' : SO} {o : Option D} {x : D} (e : o = some x) (h : we sd2 S' fun y S3 => S3 = S' ∧ x = y) : LcK we sd2 S' o true S' :=
  ⟨rfl, by rw [if_pos rfl]; exact ⟨_, h, fun y S3 ⟨e1, e2⟩ => ⟨e1, by rw [e, e2]⟩⟩⟩
theorem lcKF {sd2 : SD} {S' : SO} {o : Option D} (e : o = none) : LcK we sd2 S' o false S' := ⟨rfl, by rw [if_neg Bool.false_ne_true]; exact e⟩
def opt {α : Type} (c : Bool) (x : α) : Option α := if c = true then some x else none
theorem opt_t {α : Type} {c : Bool} {x : α} (h : c = true) : opt c x = some x := if_pos h
theorem opt_f {α : Type} {c : Bool} {x : α} (h : c = false) : opt c x = none := if_neg (by rw [h]; exact Bool.false_ne_true)
/-- the test's answer is c -/
theorem lcKI {sd2 : SD} {S' : SO} {c : Bool} {x : D} (h : c = true → we sd2 S' fun y S3 => S3 = S' ∧ x = y) : isB (LcK we sd2 S' (opt c x)) (.bl c) S' := by
  refine isC (fun e => lcKT (opt_t e) (h e)) fun e => lcKF (opt_f e)
theorem lcO (l : List α) (f : α → D) [InjD f] (F : α → Option D) (hi : wi sd S (Src l f S)) (hl : l.length ≤ 1000000)
    (hf : ∀ z ∈ l, ∀ S', Ext S S' → putNT nt (f z) (wipeD sd vs) fun sd2 => tt sd2 S' (LcK we sd2 S' (F z))) (hq : Q (.lst (l.filterMap F)) S) : wLcP wi nt tt we vs sd S Q := by
  refine ⟨_, hi, ?_⟩
  rintro ⟨xs, ok⟩ S1 ⟨hx, hok, rfl⟩
  have hx' : xs = l.map f := hx
  subst hx'
  refine ⟨hok, by show (l.map f).length ≤ _; rw [List.length_map]; exact hl, backF l f F, fun d hd S' e => ?_, ?_⟩
  · obtain ⟨z, hz, rfl⟩ := List.mem_map.mp hd
    rw [backF_eq hz]
    exact hf z hz S' e
  · show Q (.lst ((l.map f).filterMap (backF l f F))) S1
    rw [backF_map]
    exact hq
theorem lcF (l : List α) (f : α → D) [InjD f] (p : α → Bool) (out : α → D) (hi : wi sd S (Src l f S)) (hl : l.length ≤ 1000000)
    (hf : ∀ z ∈ l, ∀ S', Ext S S' → putNT nt (f z) (wipeD sd vs) fun sd2 => tt sd2 S' (LcK we sd2 S' (opt (p z) (out z)))) (hq : Q (.lst ((l.filter p).map out)) S) : wLcP wi nt tt we vs sd S Q := by
  refine lcO l f (fun z => opt (p z) (out z)) hi hl hf ?_
  have e : l.filterMap (fun z => opt (p z) (out z)) = (l.filter p).map out := map_filterMap l
  rw [e]
  exact hq
theorem lcM (l : List α) (f : α → D) [InjD f] (out : α → D) (hi : wi sd S (Src l f S)) (hl : l.length ≤ 1000000)
    (hf : ∀ z ∈ l, ∀ S', Ext S S' → putNT nt (f z) (wipeD sd vs) fun sd2 => we sd2 S' fun y S3 => S3 = S' ∧ out z = y) (hq : Q (.lst (l.map out)) S) : wLcP wi nt wYes we vs sd S Q := by
  refine lcO l f (fun z => some (out z)) hi hl (fun z hz S' e => putNT_mono (hf z hz S' e) fun sd2 h => ?_) ?_
  · exact lcKT rfl h
  · rw [List.filterMap_eq_map']
    exact hq
/-- over enumerate -/
theorem enumD_map {α : Type} (l : List α) (f : α → D) : enumD (l.map f) = (l.zipIdx).map fun z => .tup [.int (z.2 : Nat), f z.1] := by
  refine List.ext_getElem? fun j => ?_
  unfold enumD
  rw [List.getElem?_mapIdx, List.getElem?_map, List.getElem?_map, List.getElem?_zipIdx]
  cases l[j]? with
  | none => rfl
  | some x => simp
instance {α : Type} (f : α → D) [InjD f] : InjD (fun z : α × Nat => D.tup [.int (z.2 : Nat), f z.1]) := ⟨fun a b e => by
  injection e with e
  injection e with e1 e
  injection e with e2 e
  injection e1 with e1
  exact Prod.ext (InjD.inj (f := f) _ _ e2) (by omega)⟩
theorem srcE {α : Type} {l : List α} {f : α → D} : Src l.zipIdx (fun z : α × Nat => D.tup [.int (z.2 : Nat), f z.1]) S ⟨enumD (l.map f), fun _ => True⟩ S := ⟨enumD_map l f, fun _ _ => trivial, rfl⟩
theorem srcR {m : Nat} : Src (List.range m) (fun i : Nat => D.int (i : Nat)) S ⟨rangeD 0 (m : Nat), fun _ => True⟩ S := ⟨rangeN m, fun _ _ => trivial, rfl⟩
/-- dict comprehensions -/
theorem dcM {t : Bool} (l : List α) (f : α → D) [InjD f] (kf vf : α → D) (hi : wi sd S (Src l f S)) (hl : l.length ≤ 100000)
    (hf : ∀ z ∈ l, ∀ S', Ext S S' → putNT nt (f z) (wipeD sd vs) fun sd2 => (wk sd2 S' fun k S3 => S3 = S' ∧ kf z = k) ∧ keyOk t (kf z) ∧ we sd2 S' fun y S3 => S3 = S' ∧ vf z = y)
    (hq : Q (.dic t (dputsL [] (l.map fun z => (kf z, vf z)))) S) : wDcP t wi nt wYes wk we vs sd S Q := by
  obtain ⟨F, hF⟩ : ∃ F : D → Option (D × D), ∀ z ∈ l, F (f z) = some (kf z, vf z) := ⟨fun d => (backF l f (fun z => some (.tup [kf z, vf z])) d).bind fun d => match d with | .tup [a, b] => some (a, b) | _ => none, fun z hz => by
    show (backF l f (fun z => some (.tup [kf z, vf z])) (f z)).bind _ = _
    rw [backF_eq hz]
    rfl⟩
  refine ⟨_, hi, ?_⟩
  rintro ⟨xs, ok⟩ S1 ⟨hx, hok, rfl⟩
  have hx' : xs = l.map f := hx
  subst hx'
  refine ⟨hok, by show (l.map f).length ≤ _; rw [List.length_map]; exact hl, F, fun d hd S' e => ?_, ?_⟩
  · obtain ⟨z, hz, rfl⟩ := List.mem_map.mp hd
    rw [hF z hz]
    refine putNT_mono (hf z hz S' e) ?_
    rintro sd2 ⟨h1, h2, h3⟩
    refine ⟨rfl, ?_⟩
    rw [if_pos rfl]
    refine ⟨_, h1, ?_⟩
    rintro k S3 ⟨rfl, rfl⟩
    refine ⟨rfl, h2, _, h3, ?_⟩
    rintro y S4 ⟨rfl, rfl⟩
    exact ⟨rfl, rfl⟩
  · have e : (l.map f).filterMap F = l.map fun z => (kf z, vf z) := by
      have key : ∀ m : List α, (∀ z ∈ m, z ∈ l) → (m.map f).filterMap F = m.map fun z => (kf z, vf z) := fun m => by
        induction m with
        | nil => intro _; rfl
        | cons x m ih =>
          intro hm
          rw [List.map_cons, List.filterMap_cons, hF x (hm x (List.mem_cons_self ..)), ih fun z hz => hm z (List.mem_cons_of_mem _ hz)]
          rfl
      exact key l fun _ h => h
    show Q (.dic t (dputsL [] ((l.map f).filterMap F))) S1
    rw [e]
    exact hq
end
/-! equal to [] or () -/
/-! the state: objects by their addresses -/
end L2.DL

/-! DL23: t[::-1] of tuples, the new one a tuple as any -/
namespace L2.DL
open PySem PySem.Spec PyProof.Rows
section
variable {X : Cx}
def RevD (d : D) (S : SO) (k : List D → Prop) : Prop := ∃ xs, (d = .tf xs ∨ d = .tup xs ∨ d = .kt xs) ∧ k xs
theorem revTup {xs : List D} {S : SO} {k : List D → Prop} (h : k xs) : RevD (.tup xs) S k := ⟨xs, .inr (.inl rfl), h⟩
theorem revTf {xs : List D} {S : SO} {k : List D → Prop} (h : k xs) : RevD (.tf xs) S k := ⟨xs, .inl rfl, h⟩
def wRevU (we : WE) : WE := fun sd S Q => we sd S fun d S1 => ∃ xs, (d = .tf xs ∨ d = .tup xs ∨ d = .kt xs) ∧ Q (.tup xs.reverse) S1
theorem xRevU {we : WE} {sd : SD} {S : SO} {Q : KD} (h : we sd S fun d S1 => RevD d S1 fun xs => Q (.tup xs.reverse) S1) : wRevU we sd S Q := h
end
end L2.DL

/-! DL24: values of any kind: == () of tuples of anything, {} that nobody changes, isinstance -/
namespace L2.DL
open PySem PySem.Spec PyProof.Rows
def asTup : D → Option (List D)
  | .tup xs => some xs
  | .tf xs => some xs
  | _ => none
def asStr : D → Option Str
  | .str x => some x
  | _ => none
theorem asTup_at {K : PySem.W.Frag} {S : SO} {H : Hp} {d : D} {v : V} {xs : List D} (r : Rel K S H d v) (e : asTup d = some xs) : ∃ a vs, v = .ref a ∧ SqT K H a vs ∧ Rels K S H xs vs := by
  cases d with
  | tup ys =>
    cases e
    obtain ⟨a, vs, h1, t, h2⟩ := r
    exact ⟨a, vs, h1, t.sq, h2⟩
  | tf ys =>
    cases e
    obtain ⟨a, vs, h1, t, h2⟩ := r
    exact ⟨a, vs, h1, t.sq, h2⟩
  | _ => cases e
section
variable {X : Cx}
/-- == () of a tuple -/
def oEqT : WO := fun x y S Q => ∃ xs, asTup x = some xs ∧ y = .tup [] ∧ Q (.bl xs.isEmpty) S
theorem eqT_core {pins : List (Addr × Obj)} {s : Shared} {σ : St} {H : Hp} {dx : D} {x y : V} {v u : Value} {S : SO} (I : Inv X pins σ H s) (rx : RelV x v) (ry : RelV y u) (r1 : Rel X.K S H dx x) (r2 : Rel X.K S H (.tup []) y) {xs : List D} (e : asTup dx = some xs) :
    ∃ a b items, v = .ref a ∧ u = .ref b ∧ s.heap.IsTuple a items ∧ s.heap.IsTuple b #[] ∧ (items.size == 0) = xs.isEmpty := by
  obtain ⟨a, vs, rfl, t, rv⟩ := asTup_at r1 e
  obtain ⟨b, us, rfl, t2, ru⟩ := r2
  have eu : us = [] := ru
  subst eu
  cases rx
  cases ry
  obtain ⟨its, r, ⟨o, ho, hc, n, hd⟩, hz⟩ := I.tuple t
  obtain ⟨its2, r3, ⟨o2, ho2, hc2, n2, hd2⟩, hz2⟩ := I.tuple t2.sq
  have e2 : its2 = [] := by cases r3; rfl
  subst e2
  refine ⟨a, b, its.toArray, rfl, rfl, ⟨o, ho, hc, n, hd⟩, ⟨o2, ho2, hc2, n2, hd2⟩, ?_⟩
  have h1 := rv.length
  have h2 := r.length
  rw [List.size_toArray]
  cases xs with
  | nil =>
    have : its.length = 0 := by rw [← h2, ← h1]; rfl
    rw [this]
    rfl
  | cons x xs =>
    rw [List.length_cons] at h1
    have : its.length ≠ 0 := by omega
    show (its.length == 0) = false
    simpa using this
theorem do_eqT (hu : X.A.units + 65 < cLine) : DO2 X (compareOp .Eq) oEqT := by
  intro pins s σ H x y v u Q I rx ry ⟨dx, dy, S, Q0, sr, r1, r2, q, an⟩
  obtain ⟨xs, e, rfl, q⟩ := q
  obtain ⟨a, b, items, rfl, rfl, h1, h2, h3⟩ := eqT_core I rx ry r1 r2 e
  refine SeqAt.eq_tupleAt (e := fun _ => true) h1 h2 (by omega) (fun j _ h => absurd h (Nat.not_lt_zero _)) ?_
  have e3 : ((List.range (min items.size (#[] : Array Value).size)).all (fun _ => true) && items.size == (#[] : Array Value).size) = xs.isEmpty := by
    rw [← h3]
    simp
  rw [e3]
  exact ⟨.bl _, H, I, rfl, ansd (.bl _) sr an q rfl⟩
def wDicF : WE := fun _ S Q => Q (.dic false []) S
end
theorem xDicF {sd : SD} {S : SO} {Q : KD} (h : Q (.dic false []) S) : wDicF sd S Q := h
section
variable {wi : WI} {nt : NT} {tt : WT} {we : WE} {vs : List Nat} {sd : SD} {S : SO} {Q : KD}
/-- a list comprehension whose element may change objects: what is asked where the source is known -/
def LcJ (nt : NT) (tt : WT) (we : WE) (vs : List Nat) (R : Addr → SO → Prop) (sd : SD) (J : ItD) (S1 : SO) : Prop := ∀ p, S1 p = none → ∃ Pv : Nat → SO → Prop, Pv 0 (S1.set p (.lst [])) ∧ (∀ i S, Pv i S → J.ok S) ∧
  (∀ i d S, J.items[i]? = some d → Pv i S → putNT nt d (wipeD sd vs) fun sd2 => upT tt sd2 S fun b S2 => if b = true then up we sd2 S2 fun y S3 => ∃ acc, S3 p = some (.lst acc) ∧ acc.length ≤ 1000000 ∧ Pv (i + 1) (S3.set p (.lst (acc ++ [y]))) else Pv (i + 1) S2) ∧
  (∀ S, Pv J.items.length S → R p S)
def FrzR (Q : KD) (p : Addr) (S' : SO) : Prop := ∃ acc, S' p = some (.lst acc) ∧ Q (.lst acc) (S'.del p)
theorem xLcF (h : wi sd S fun J S1 => LcJ nt tt we vs (FrzR Q) sd J S1) : wLcF wi nt tt we vs sd S Q := ⟨h⟩
theorem xLcN (h : wi sd S fun J S1 => LcJ nt tt we vs (fun p S' => Q (.obj p) S') sd J S1) : wLc wi nt tt we vs sd S Q := ⟨h⟩
end
/-- a value of any kind, each part of at most m items -/
inductive Any (m : Nat) : D → Prop
  | non : Any m .non
  | bl (b : Bool) : Any m (.bl b)
  | int (i : Int) : Any m (.int i)
  | str (x : Str) (h : PyData.canLay0 (.str x) = true ∧ x.length ≤ m) : Any m (.str x)
  | tup (xs : List D) (hl : xs.length ≤ m) (h : ∀ x ∈ xs, Any m x) : Any m (.tup xs)
  | tf (xs : List D) (hl : xs.length ≤ m) (h : ∀ x ∈ xs, Any m x) : Any m (.tf xs)
  | lst (xs : List D) (hl : xs.length ≤ m) (h : ∀ x ∈ xs, Any m x) : Any m (.lst xs)
  | dic (t : Bool) : Any m (.dic t [])
end L2.DL

/-! DL25: sorted(..) of lists and tuples of texts, of ints -/
namespace L2.DL
open PySem PySem.Spec PyProof.Rows
section
variable {prog : Program} {w : World} {A : Around} {E : Value → Shared → Prop} {s : Shared}
/-- what collect makes of a list or a tuple -/
def heapC (h : Heap) (zs : Array Value) : Heap := (h.push { cls := .type "list", data := .seq ([] : List Value).toArray }).update h.objs.size (Obj.mapSeq (· ++ zs))
theorem collect_seqX {K : List Value → Shared → Prop} (src : Addr) {U : String} {ob : Obj} {zs : Array Value} {k : Nat} (hU : U = "list" ∨ U = "tuple") (hob : s.heap.get? src = some ob) (hcl : ob.cls = .type U) (hda : ob.data = .seq zs k)
    (hK : K zs.toList { s with heap := heapC s.heap zs }) (hfit : zs.size ≤ sizeLine) : wpAny (model prog w) A (collect (.ref src)) K E s := by
  unfold collect
  refine wpAny_bind (wpAny_runValue (codeAny_builtin F.entry_proto_collect ?_))
  rw [Around.under_plainId F.plain_proto_collect (args := _)]
  show wpAny (model prog w) A.in1 (newList [] >>= fun l => again (.builtin "list.__iadd__" ⟨[l, .ref src], []⟩)) _ _ s
  refine wpAny_bind (wpAny_newObj_type ?_)
  refine wpAny_pure ⟨plainId_quiet F.plain_list_iadd _, codeAny_builtin F.entry_list_iadd ?_⟩
  rw [Around.under_plainId F.plain_list_iadd (args := _)]
  show wpAny (model prog w) A.in1 (Builtin.List.listExtendWith (.ref s.heap.objs.size) (.ref src) (.ref s.heap.objs.size)) _ _ _
  have g1 : (s.heap.push { cls := .type "list", data := .seq ([] : List Value).toArray }).get? s.heap.objs.size = some { cls := .type "list", data := .seq #[] 0 } := Heap.get?_push_size _ (by rfl)
  have g2 := Heap.get?_update_self (Obj.mapSeq (· ++ zs)) g1 rfl
  have fin : wpAny (model prog w) A (match Value.ref s.heap.objs.size with | Value.ref a => (do (match (← load a).data with | Data.seq xs _ => pure xs.toList | _ => unsupported "internal:collect")) | _ => unsupported "internal:collect") K E { s with heap := heapC s.heap zs } := by
    show wpAny (model prog w) A (load s.heap.objs.size >>= _) K E _
    refine wpAny_bind (wpAny_load g2 (wpAny_pure ?_))
    show K ((#[] : Array Value) ++ zs).toList _
    rw [show ((#[] : Array Value) ++ zs).toList = zs.toList by simp]
    exact hK
  refine wpAny_mono (wpAny_extend_seq (hsz := hfit) (A := A) (R := fun r u => r = .ok (.ret (.ref s.heap.objs.size)) ∧ u = { s with heap := heapC s.heap zs }) (s := { s with heap := s.heap.push { cls := .type "list", data := .seq ([] : List Value).toArray } }) _ src _ 0 hU g1 (Heap.get?_push_of_some _ hob) hcl hda ⟨rfl, rfl⟩) (fun fl u hu => ?_) (fun er u hu => absurd hu.1 (by simp))
  cases fl with
  | done f =>
    obtain ⟨q, rfl⟩ := hu
    cases q
    exact fin
  | again c' => exact ⟨hu.1, codeAny_mono hu.2 fun r u2 hr => by obtain ⟨rfl, rfl⟩ := hr; exact fin⟩
theorem heapC_size (h : Heap) (zs : Array Value) : (heapC h zs).objs.size = h.objs.size + 1 := by
  unfold heapC
  rw [Heap.size_update, size_push']
theorem heapC_kept {h : Heap} {zs : Array Value} {b : Addr} {o : Obj} (q : h.get? b = some o) : (heapC h zs).get? b = some o := by
  unfold heapC
  rw [Heap.get?_update_ne _ _ _ _ (Nat.ne_of_lt (Heap.lt_size q)), Heap.get?_push_ne _ _ _ (Nat.ne_of_lt (Heap.lt_size q))]
  exact q
theorem sortedK_seq {κ : KeyKind} (hO : κ.OneLt) {it : Addr} {T : String} {o : Obj} {vs : List Value} {n : Nat} {Q : Value → Shared → Prop} (hT : T = "list" ∨ T = "tuple") (ho : s.heap.get? it = some o) (hc : o.cls = .type T) (hd : o.data = .seq vs.toArray n)
    (h0 : KeysOf κ (pairsOf vs)) (hkk : ∀ v₁ v₂ rest, vs = v₁ :: v₂ :: rest → keyKind' (v₁ :: v₂ :: rest).toArray = pure oneType') (hL : vs.length ≤ sizeLine)
    (h : ∀ (h' : Heap) (p : Addr) (e : Nat) (st' : SortSt), (∀ b o', s.heap.get? b = some o' → h'.get? b = some o') → s.heap.objs.size ≤ p → h'.get? p = some (seqObj "list" ((arrOf st').map (·.2)) e) → (arrOf st').Perm (pairsOf vs) → SortedToK κ (arrOf st') (pairsOf vs).size → Q (.ref p) { s with heap := h' }) :
    wpAny (model prog w) A (call (.builtin "sorted") [.ref it]) Q E s := by
  refine Calls.call_function_entry kind_sorted plain_sorted entry_sorted (args_sorted1 (Value.ref it)) ?_
  show wpAny (model prog w) _ (Builtin.«sorted» _) _ _ s
  unfold Builtin.«sorted»
  refine wpAny_bind (m := checkCount "sorted" 1 1 _) (wpAny_pure (wpAny_bind (collect_seqX it hT ho hc hd ?_ (by simpa using hL))))
  refine wpAny_bind (wpAny_newList ?_)
  rw [show vs.toArray.toList = vs by simp]
  have hoL : ((heapC s.heap vs.toArray).push (seqObj "list" vs.toArray 0)).get? (heapC s.heap vs.toArray).objs.size = some (seqObj "list" vs.toArray 0) := Heap.get?_push_size _ (by rfl)
  show wpAny _ _ _ _ _ { s with heap := (heapC s.heap vs.toArray).push (seqObj "list" vs.toArray 0) }
  refine wpAny_bind (wpAny_holding (wpAny_call_entry slot_list_sort ⟨_, hoL, rfl⟩ entry_list_sort (list_sort_treeKAny hO hoL h0 hkk hL fun st' a1 a2 => ⟨_, rfl, ?_⟩) (args_list_sort _)))
  obtain ⟨e, he⟩ := sortedHeap_at (out := (arrOf st').map (·.2)) hoL
  refine wpAny_pure ⟨_, rfl, h _ _ e st' (fun b o' q => ?_) (by rw [heapC_size]; exact Nat.le_succ _) he a1 a2⟩
  have k1 := heapC_kept (zs := vs.toArray) q
  have hlt := Heap.lt_size k1
  rw [sortedHeap_old (Nat.ne_of_lt hlt) (by rw [size_push']; exact Nat.lt_succ_of_lt hlt), Heap.get?_push_ne _ _ _ (Nat.ne_of_lt hlt)]
  exact k1
theorem sorted_strs_seq {it : Addr} {T : String} {o : Obj} {vs : List Value} {ss : List Str} {n : Nat} {Q : Value → Shared → Prop} (hT : T = "list" ∨ T = "tuple") (ho : s.heap.get? it = some o) (hc : o.cls = .type T) (hd : o.data = .seq vs.toArray n) (hS : StrsAre vs ss) (hL : vs.length ≤ sizeLine)
    (h : ∀ (h' : Heap) (p : Addr) (e : Nat) (out : Array Value) (ss' : List Str), (∀ b o', s.heap.get? b = some o' → h'.get? b = some o') → s.heap.objs.size ≤ p → h'.get? p = some (seqObj "list" out e) → StrsAre out.toList ss' → ss'.Perm ss → sortedS ss' = true → Q (.ref p) { s with heap := h' }) :
    wpAny (model prog w) A (call (.builtin "sorted") [.ref it]) Q E s := by
  refine sortedK_seq strKind_oneLt hT ho hc hd hS.keysOf (fun v₁ v₂ rest e => keyKind_strs (by rw [← e]; exact hS)) hL fun h' p e st' k1 k2 k3 hp hs => ?_
  obtain ⟨ss', h1, h2, h3⟩ := sorted_out_str hS hp hs
  exact h h' p e _ ss' k1 k2 k3 h1 h2 h3
theorem sorted_ints_seq {it : Addr} {T : String} {o : Obj} {vs : List Value} {ss : List Int} {n : Nat} {Q : Value → Shared → Prop} (hT : T = "list" ∨ T = "tuple") (ho : s.heap.get? it = some o) (hc : o.cls = .type T) (hd : o.data = .seq vs.toArray n) (hI : IntsAre vs ss) (hL : vs.length ≤ sizeLine)
    (h : ∀ (h' : Heap) (p : Addr) (e : Nat) (out : Array Value) (ss' : List Int), (∀ b o', s.heap.get? b = some o' → h'.get? b = some o') → s.heap.objs.size ≤ p → h'.get? p = some (seqObj "list" out e) → IntsAre out.toList ss' → ss'.Perm ss → ss'.Pairwise (· ≤ ·) → Q (.ref p) { s with heap := h' }) :
    wpAny (model prog w) A (call (.builtin "sorted") [.ref it]) Q E s := by
  refine sortedK_seq intKind_oneLt hT ho hc hd hI.keysOfInt (fun v₁ v₂ rest e => keyKind_ints (by rw [← e]; exact hI)) hL fun h' p e st' k1 k2 k3 hp hs => ?_
  obtain ⟨ss', h1, h2, h3⟩ := sorted_out hI hp (sortedTo_of_int hs)
  exact h h' p e _ ss' k1 k2 k3 h1 h2 h3
end
section
variable {X : Cx}
/-- sorted(xs) of texts, of ints: a new list, frozen -/
def cSorted : WL := fun xs S Q => one xs fun x => (∃ ss : List Str, seqX S x = some (ss.map D.str) ∧ ∀ ss' : List Str, ss'.Perm ss → sortedS ss' = true → Q (.lst (ss'.map D.str)) S) ∨ (∃ ns : List Int, seqX S x = some (ns.map D.int) ∧ ∀ ns' : List Int, ns'.Perm ns → ns'.Pairwise (· ≤ ·) → Q (.lst (ns'.map D.int)) S)
theorem dc_sorted : DC X (.builtin "sorted") cSorted := by
  intro pins s σ H xs us Q I r h
  obtain ⟨ds, S, Q0, sr, rs, q, an⟩ := h
  obtain ⟨x, rfl, q⟩ := one_of q
  obtain ⟨v, rfl, rv⟩ := rs.v1
  have seq : ∀ {ys : List D}, seqX S x = some ys → ∃ a vs its n T o, v = .ref a ∧ Rels X.K S H ys vs ∧ Vals vs its ∧ (T = "list" ∨ T = "tuple") ∧ s.heap.get? a = some o ∧ o.cls = .type T ∧ o.data = .seq its.toArray n ∧ vs.length ≤ sizeLine := fun e => by
    obtain ⟨a, vs, rfl, hq, rns⟩ := seqX_at sr rv e
    rcases hq with hq | hq
    · obtain ⟨its, rr, ⟨o, n, ho, hc, _, hd⟩, hz⟩ := I.list hq
      exact ⟨a, vs, its, n, "list", o, rfl, rns, rr, .inl rfl, ho, hc, hd, hz⟩
    · obtain ⟨its, rr, ⟨o, ho, hc, n, hd⟩, hz⟩ := I.tuple hq
      exact ⟨a, vs, its, n, "tuple", o, rfl, rns, rr, .inr rfl, ho, hc, hd, hz⟩
  rcases q with ⟨ss, e, q⟩ | ⟨ss, e, q⟩
  · obtain ⟨a, vs, its, n, T, o, rfl, rns, rr, hT, ho, hc, hd, hz⟩ := seq e
    have ev := rels_strs rns
    subst ev
    rw [Vals.ref1 r]
    have hS : StrsAre its ss := rr.strs
    refine sorted_strs_seq hT ho hc hd hS (by rw [← rr.length]; exact hz) fun h' p ep out ss' k1 k2 k3 h1 h2 h3 => ?_
    have hlen : (ss'.map V.str).length ≤ sizeLine := by rw [List.length_map, h2.length_eq]; rw [List.length_map] at hz; exact hz
    have hf := I.hok.fresh k2
    exact ⟨.ref p, upd H p (.lst (ss'.map V.str)), I.laid (t' := s.toks) k1 k2 ⟨hlen, out.toList, ep, vals_of_strs h1, k3⟩, rfl, an _ _ _ _ (q ss' h2 h3) (nx_new hf) (sr.new hf) ⟨p, _, rfl, sr.free hf, upd_same, rels_of_strs ss'⟩⟩
  · obtain ⟨a, vs, its, n, T, o, rfl, rns, rr, hT, ho, hc, hd, hz⟩ := seq e
    have ev := rels_ints rns
    subst ev
    rw [Vals.ref1 r]
    have hS : IntsAre its ss := rr.ints
    refine sorted_ints_seq hT ho hc hd hS (by rw [← rr.length]; exact hz) fun h' p ep out ss' k1 k2 k3 h1 h2 h3 => ?_
    have hlen : (ss'.map V.int).length ≤ sizeLine := by rw [List.length_map, h2.length_eq]; rw [List.length_map] at hz; exact hz
    have hf := I.hok.fresh k2
    exact ⟨.ref p, upd H p (.lst (ss'.map V.int)), I.laid (t' := s.toks) k1 k2 ⟨hlen, out.toList, ep, vals_of_ints h1, k3⟩, rfl, an _ _ _ _ (q ss' h2 h3) (nx_new hf) (sr.new hf) ⟨p, _, rfl, sr.free hf, upd_same, rels_of_ints ss'⟩⟩
end
end L2.DL

/-! DL26: zip(t, u) of tuples -/
namespace L2.DL
open PySem PySem.Spec PyProof.Rows
def zipD (xs ys : List D) : List D := List.zipWith (fun x y => .tup [x, y]) xs ys
theorem zipD_len (xs ys : List D) : (zipD xs ys).length = min xs.length ys.length := List.length_zipWith
theorem zipD_get {xs ys : List D} {i : Nat} {d : D} (h : (zipD xs ys)[i]? = some d) : ∃ x y, xs[i]? = some x ∧ ys[i]? = some y ∧ d = .tup [x, y] := by
  unfold zipD at h
  rw [List.getElem?_zipWith] at h
  cases e1 : xs[i]? with
  | none => rw [e1] at h; cases h
  | some x =>
    cases e2 : ys[i]? with
    | none => rw [e1, e2] at h; cases h
    | some y =>
      rw [e1, e2] at h
      cases h
      exact ⟨x, y, rfl, rfl, rfl⟩
theorem new_pair2 {K : PySem.W.Frag} {S : SO} {H : Hp} {T : Addr} {x y : V} {d e : D} (s : SRel K S H) (hT : H T = none) (r1 : Rel K S H d x) (r2 : Rel K S H e y) : Nx S H S (upd H T (.tup [x, y])) ∧ SRel K S (upd H T (.tup [x, y])) ∧ Rel K S (upd H T (.tup [x, y])) (.tup [d, e]) (.ref T) :=
  ⟨nx_new hT, s.new hT, T, _, rfl, ⟨s.free hT, upd_same⟩, x, [y], rfl, Rel.nx (nx_new hT) _ _ r1, y, [], rfl, Rel.nx (nx_new hT) _ _ r2, rfl⟩
theorem jrel_zipT {K : PySem.W.Frag} {S0 : SO} {H0 : Hp} {a b : Addr} {xs ys : List D} (h : ∀ S H, Nx S0 H0 S H → ∃ vs, SqT K H a vs ∧ Rels K S H xs vs) (h' : ∀ S H, Nx S0 H0 S H → ∃ vs, SqT K H b vs ∧ Rels K S H ys vs) : JRel K S0 H0 ⟨zipD xs ys, fun _ => True⟩ (RZ.ItzT K a b) where
  go := fun i S H n s o hi => by
    obtain ⟨vs, q, r⟩ := h S H n
    obtain ⟨us, q', r'⟩ := h' S H n
    have hi' : i < min xs.length ys.length := by rw [← zipD_len]; exact hi
    obtain ⟨v, hv, _⟩ := r.get (List.getElem?_eq_getElem (show i < xs.length by omega))
    obtain ⟨u, hu, _⟩ := r'.get (List.getElem?_eq_getElem (show i < ys.length by omega))
    exact ⟨vs, us, v, u, q, q', hv, hu⟩
  stop := fun i S H n s o hi => by
    obtain ⟨vs, q, r⟩ := h S H n
    obtain ⟨us, q', r'⟩ := h' S H n
    have hi' : i = min xs.length ys.length := by rw [← zipD_len]; exact hi
    refine ⟨vs, us, q, q', ?_⟩
    rw [← r.length, ← r'.length]
    omega
  yld := fun i S H x H' d n s o hi y => by
    obtain ⟨vs, q, r⟩ := h S H n
    obtain ⟨us, q', r'⟩ := h' S H n
    obtain ⟨T, x1, y1, rfl, hT, rfl, k1, k2⟩ := y
    obtain ⟨dx, dy, g1, g2, rfl⟩ := zipD_get hi
    obtain ⟨v, hv, rv⟩ := r.get g1
    obtain ⟨u, hu, ru⟩ := r'.get g2
    have e1 := k1 vs q
    rw [hv] at e1
    cases e1
    have e2 := k2 us q'
    rw [hu] at e2
    cases e2
    exact new_pair2 s hT rv ru
def wZip (t : WA) : WI := fun sd S R => t sd S fun xs S1 => two2 xs fun d1 d2 => ∃ ys zs, asTup d1 = some ys ∧ asTup d2 = some zs ∧ R ⟨zipD ys zs, fun _ => True⟩ S1
theorem di_zip {X : Cx} {e e2 : Expr} {t : WA} {p pos tpos : Pos} {elts : List Expr} {kk : Nat} (hm : X.mg "zip" = none) (ha : DA X [e, e2] t) (hg : Gl X "zip" := by rfl) (hs : starEach [e, e2] X.env = (false, eval e X.env) :: starEach [e2] X.env := by rfl) (hpl : (backTo pos (starEach [e2] X.env)).any (·.1) = false := by rfl) :
    DI X (.Tuple elts kk tpos) (.Call (.Name "zip" p) [e, e2] [] pos) (wZip t) := by
  refine pi_imp (RZ.pi_zipA hg hm ha hs hpl) fun σ H R ⟨sd, S, R0, st, q, an⟩ => ⟨sd, S, _, st, q, fun xs S1 vs H1 q1 n1 s1 r1 => ?_⟩
  obtain ⟨d1, d2, rfl, ys, zs, e1, e2, q1⟩ := two2_of q1
  obtain ⟨v, u, rfl, rv, ru⟩ := r1.two
  obtain ⟨a, us, rfl, ta, ra⟩ := asTup_at rv e1
  obtain ⟨b, ws, rfl, tb, rb⟩ := asTup_at ru e2
  have per : ∀ {d : D} {a : Addr} {xs : List D}, Rel X.K S1 H1 d (.ref a) → asTup d = some xs → ∀ S H, Nx S1 H1 S H → ∃ vs, SqT X.K H a vs ∧ Rels X.K S H xs vs := fun r e S H n => by
    obtain ⟨a', vs, ea, t, r'⟩ := asTup_at (Rel.nx n _ _ r) e
    cases ea
    exact ⟨vs, t, r'⟩
  exact ⟨a, b, us, ws, rfl, .inr ⟨ta, tb, an _ _ _ _ q1 n1 s1 (jrel_zipT (per rv e1) (per ru e2))⟩⟩
/-! steps -/
section
variable {sd : SD} {S : SO} {R : ItD → SO → Prop} {t : WA} {xs ys : List D} {d e : D}
def ZipK (d1 d2 : D) (R : List D → Prop) : Prop := ∃ ys zs, asTup d1 = some ys ∧ asTup d2 = some zs ∧ R (zipD ys zs)
theorem xZip (h : t sd S fun xs S1 => two2 xs fun d1 d2 => ZipK d1 d2 fun l => R ⟨l, fun _ => True⟩ S1) : wZip t sd S R := h
theorem zipK {Rz : List D → Prop} (e1 : asTup d = some xs) (e2 : asTup e = some ys) (h : Rz (zipD xs ys)) : ZipK d e Rz := ⟨xs, ys, e1, e2, h⟩
theorem srcZ {α β : Type} {f : α → D} {g : β → D} {l : List α} {m : List β} {S : SO} : Src (l.zip m) (fun z : α × β => D.tup [f z.1, g z.2]) S ⟨zipD (l.map f) (m.map g), fun _ => True⟩ S := ⟨by
  unfold zipD
  rw [List.zipWith_map]
  show List.zipWith _ l m = (l.zip m).map _
  unfold List.zip
  rw [List.map_zipWith], fun _ _ => trivial, rfl⟩
end
end L2.DL

/-! DL27: f-strings, the truth of own instances, makings by keyword and with a default of the top, own == with values of any kind -/
namespace L2.DL
open PySem PySem.Spec PyProof.Rows
section
variable {X : Cx}
/-! ### f-strings -/
/-! ### the truth of an own instance that has __len__ -/
theorem truthy_len {A : Around} {E : Value → Shared → Prop} {s : Shared} {x C f : Addr} {ox : Obj} {od : Option Obj} {Q : Bool → Shared → Prop} (XK : X.K.In s.heap) (I : PySem.W.InstAt s.heap x ox C od) (hb : PySem.W.findIn X.K (.ref C) "__bool__" = some none)
    (hs : PySem.W.findIn X.K (.ref C) "__len__" = some (some (.ref f))) (hf : PySem.W.isFn X.K (.ref f) = true)
    (h : wpAny (model X.prog X.w) A.in1 (call (.ref f) [.ref x]) (PySem.W.LenBack fun v s' => ∃ n t, v = .int n t ∧ Q (n != 0) s') E s) : wpAny (model X.prog X.w) A (truthy (.ref x)) Q E s := by
  have key : wpAny (model X.prog X.w) A (runValue (.builtin "len" ⟨[.ref x], []⟩)) (fun v s' => ∃ n t, v = .int n t ∧ Q (n != 0) s') E s := by
    refine wpAny_runValue (codeAny_builtin PySem.entry_len ?_)
    rw [Around.under_plainId PySem.plain_len _]
    unfold Builtin.«len»
    refine wpAny_bind (m := oneArg "len" _) (wpAny_pure ?_)
    refine wpAny_bind (m := callSpecial? (.ref x) (Str.ofString "__len__")) (PySem.W.special_fn XK I hs (beq_iff_eq.mp hf) (wpAny_mono h (fun r s' hr => ?_) fun _ _ y => y))
    cases r <;> first | exact hr.elim | skip
    rename_i n u
    obtain ⟨⟨h0, h1⟩, hq⟩ := hr
    refine wpAny_bind (wpAny_holding (wpAny_pure ?_))
    refine wpAny_bind (wpAny_letGo ?_)
    show wpAny _ _ (if n < 0 then _ else _) _ _ _
    rw [if_neg (by omega)]
    show wpAny _ _ (if n ≥ 2 ^ 63 then _ else _) _ _ _
    rw [if_neg (by omega)]
    exact wpAny_bind (wpAny_mkInt (wpAny_pure hq))
  have hsp : ∀ {Q' : Option Value → Shared → Prop}, Q' (some (.ref f)) s → wpAny (model X.prog X.w) A (specialOf (.ref x) "__len__") Q' E s := fun q => by
    unfold specialOf
    exact wpAny_bind (I.type.here ((PySem.W.looks_findIn XK hs).here q))
  unfold truthy
  first
    | refine wpAny_bind (DSub.special_no (name := Str.ofString "__bool__") XK I hb ?_)
    | refine wpAny_bind (wpAny_pure (wpAny_bind (DSub.special_no (name := Str.ofString "__bool__") XK I hb ?_)))
  first
    | refine wpAny_bind (hsp ?_)
    | refine wpAny_bind (wpAny_pure (wpAny_bind (hsp ?_)))
  first
    | exact wpAny_bind (wpAny_mono key (fun r s' h' => by obtain ⟨n, t, rfl, hq⟩ := h'; exact wpAny_pure hq) fun _ _ e => e)
    | exact wpAny_bind (wpAny_pure (wpAny_bind (wpAny_mono key (fun r s' h' => by obtain ⟨n, t, rfl, hq⟩ := h'; exact wpAny_pure hq) fun _ _ e => e)))
variable {CX : CXT} {k : Nat} {g f C : Addr} {fd : FuncData} {ps ks : List Str} {dsp : DSp}
/-! ### C(k = v, ..), all parameters by keyword -/
theorem peG_makeK0 {kws : List Keyword} {tk : TA} {x : Str} {p pos : Pos} {E : XK} {sp : Sp} {g : List Value → List Value → List Value} {gV : List V → List V → List V} (M : Mk X.K C f) (F : FnG X.prog X.w X.K X.mg X.base CX k f fd ps sp) (hr : Room (k + 1) X.A) (gd : X.A.guards = some []) (hg : Gl X x) (hm : X.mg x = some (.ref C))
    (hb : KBn X.K fd ps 1 ks (fun us ws => us ++ g [] ws) (fun vs zs => vs ++ gV [] zs)) (hx : Passes CX X E) (hkw : PK X kws tk)
    (hall : (backToKw pos (keywordEach kws X.env)).all (·.1.isSome) = true := by rfl) (hks : (backToKw pos (keywordEach kws X.env)).filterMap (·.1) = ks := by rfl) (hdb : (x == ("__debug__" : Str)) = false := by decide)
    (hpl : ((backTo pos (starEach [] X.env)).any (·.1) || (backToKw pos (keywordEach kws X.env)).any (·.1.isNone)) = false := by rfl) :
    PE X (.Call (.Name x p) [] kws pos) (fun σ H Q => tk σ H fun zs H2 => zs.length = ks.length ∧ ∀ x dx, H2 x = none → H2 dx = none → dx ≠ x → sp (.ref x :: gV [] zs) (upd (upd H2 dx (.own x)) x (.ins C dx [])) (fun v H3 => v = .non ∧ Q (.ref x) H3) E) := by
  refine ⟨fun pins s σ H Q I h => wpAny_Call_Name_kw (ld_glob I hg hm (PySem.W.callWith_KW0 (h₀ := X.base) I.ok.mod.kin M.kp hall ?_ hpl) hdb)⟩
  refine thn (hkw.run pos pins s σ H _ I h) fun ws s2 ⟨zs, H2, I2, rz, l2, q2⟩ => ⟨I2.kIn, ?_⟩
  rw [hks]
  have rg : Vals (gV [] zs) (g [] ws) := by
    have z := hb.rel (vs := []) (us := []) .nil rz
    simpa using z
  exact runMk (args := ⟨[], ks.zip ws⟩) (us := g [] ws) M F hr gd hx I2 (fun s' x kx hl => hb.to s' [x] ws kx rfl (rz.length.symm.trans l2)) rg q2
/-! ### C(..) with a default that the top has written -/
/-! ### own == with a value of any kind -/
end
end L2.DL

/-! DL28: list.pop(i), tuple.count(x) of texts -/
namespace L2.DL
open PySem PySem.Spec PyProof.Rows
section
variable {X : Cx}
theorem Rels.erase {K : PySem.W.Frag} {S : SO} {H : Hp} : ∀ {ds : List D} {vs : List V} (k : Nat), Rels K S H ds vs → Rels K S H (ds.eraseIdx k) (vs.eraseIdx k)
  | [], _, k, h => by
    have e : _ = [] := h
    subst e
    rfl
  | d :: ds, _, 0, h => by
    obtain ⟨v, r, rfl, _, h2⟩ := h
    exact h2
  | d :: ds, _, k + 1, h => by
    obtain ⟨v, r, rfl, h1, h2⟩ := h
    exact ⟨v, r.eraseIdx k, rfl, h1, h2.erase k⟩
end
end L2.DL

/-! DL29: xs[::-1] of lists, list(range(n)) -/
namespace L2.DL
open PySem PySem.Spec PyProof.Rows
section
variable {X : Cx}
end
end L2.DL

/-! DL30: a, b = a list -/
namespace L2.DL
open PySem PySem.Spec PyProof.Rows
section
variable {X : Cx} {pos : Pos}
def gTl (n : Nat) (r : WGs) : WG := fun d sd S Q => ∃ xs, lstX S d = some xs ∧ xs.length = n ∧ r xs sd S Q
theorem xGTl {n : Nat} {r : WGs} {xs : List D} {sd : SD} {S : SO} {Q : SD → SO → Prop} (h : r xs sd S Q) (hl : xs.length = n := by with_unfolding_all rfl) : gTl n r (.lst xs) sd S Q := ⟨xs, rfl, hl, h⟩
end
end L2.DL

/-! DL31: name = {k: v for ..}, stored within the comprehension -/
namespace L2.DL
open PySem PySem.Spec PyProof.Rows
section
variable {X : Cx}
end
end L2.DL

/-! DL32: str(int); what a class's == must know of other kinds -/
namespace L2.DL
open PySem PySem.Spec PyProof.Rows
section
variable {X : Cx}
end
end L2.DL

/-! DL33: + of tuples made here or there, neither empty -/
namespace L2.DL
open PySem PySem.Spec PyProof.Rows
section
variable {X : Cx}
end
end L2.DL

/-! DL34: a list of anything != [] -/
namespace L2.DL
open PySem PySem.Spec PyProof.Rows
section
variable {X : Cx}
end
end L2.DL

/-! DL35: list.remove(number); a statement behind which an object is frozen or forgotten -/
namespace L2.DL
open PySem PySem.Spec PyProof.Rows
section
variable {X : Cx}
/-! ### frozen, forgotten behind a statement -/
structure Wk (sd : SD) (S : SO) (sd0 : SD) (S0 : SO) : Prop where
  sub : ∀ a, S a = none → S0 a = none
  sta : ∀ K σ H, Sta K sd S σ H → Sta K sd0 S0 σ H
theorem Wk.refl (sd : SD) (S : SO) : Wk sd S sd S := ⟨fun _ h => h, fun _ _ _ h => h⟩
theorem Wk.trans {sd sd1 sd2 : SD} {S S1 S2 : SO} (a : Wk sd S sd1 S1) (b : Wk sd1 S1 sd2 S2) : Wk sd S sd2 S2 := ⟨fun x h => b.sub x (a.sub x h), fun K σ H h => b.sta K σ H (a.sta K σ H h)⟩
def SlF (p : Addr) (ds : List D) : SD → SD → Prop
  | [], [] => True
  | a :: as, b :: bs => (b = a ∨ b = none ∨ (a = some (.obj p) ∧ b = some (.lst ds))) ∧ SlF p ds as bs
  | _, _ => False
theorem SlF.len {p : Addr} {ds : List D} : ∀ {a b : SD}, SlF p ds a b → b.length = a.length
  | [], [], _ => rfl
  | _ :: as, _ :: bs, h => by rw [List.length_cons, List.length_cons, SlF.len h.2]
  | [], _ :: _, h => h.elim
  | _ :: _, [], h => h.elim
theorem SlF.get {p : Addr} {ds : List D} : ∀ {a b : SD} {i : Nat} {d : D}, SlF p ds a b → b[i]? = some (some d) → a[i]? = some (some d) ∨ (a[i]? = some (some (.obj p)) ∧ d = .lst ds)
  | [], [], i, d, _, e => by simp at e
  | x :: as, y :: bs, 0, d, h, e => by
    have e : y = some d := Option.some.inj e
    rcases h.1 with h1 | h1 | ⟨h1, h2⟩
    · exact .inl (by rw [← h1, e]; rfl)
    · rw [h1] at e
      cases e
    · rw [h2] at e
      cases e
      exact .inr ⟨by rw [h1]; rfl, rfl⟩
  | x :: as, y :: bs, i + 1, d, h, e => SlF.get (i := i) h.2 e
  | [], _ :: _, _, _, h, _ => h.elim
  | _ :: _, [], _, _, h, _ => h.elim
theorem Wk.lst {sd sd0 : SD} {S : SO} {p : Addr} {ds : List D} (h : S p = some (.lst ds)) (hs : SlF p ds sd sd0) : Wk sd S sd0 (S.del p) := by
  refine ⟨fun a e => by unfold SO.del; split; rfl; exact e, fun K σ H st => ?_⟩
  obtain ⟨n, s2, r2⟩ := frz_lst st.s h
  refine ⟨s2, hs.len.trans st.r.1, fun i d e => ?_⟩
  rcases hs.get e with e1 | ⟨e1, rfl⟩
  · obtain ⟨v, e', r⟩ := st.r.2 i d e1
    exact ⟨v, e', Rel.nx n _ _ r⟩
  · obtain ⟨v, e', r⟩ := st.r.2 i _ e1
    have er : v = .ref p := r
    subst er
    exact ⟨_, e', r2⟩
/-- objects are forgotten -/
theorem Wk.to {sd : SD} {S S0 : SO} (h : ∀ a o, S0 a = some o → S a = some o) : Wk sd S sd S0 := by
  have sub : ∀ a, S a = none → S0 a = none := fun a e => by
    cases q : S0 a with
    | none => rfl
    | some o =>
      rw [h a o q] at e
      cases e
  refine ⟨sub, fun K σ H st => ?_⟩
  have n : Nx S H S0 H := fun a u h1 h2 => ⟨sub a h1, h2⟩
  exact st.nx n fun a o q => (st.s a o (h a o q)).nx n rfl
def ClS (n : SD → SO → Prop) : SD → SO → Prop := fun sd' S' => ∃ sd0 S0, Wk sd' S' sd0 S0 ∧ n sd0 S0
def wCl (w : WS) : WS := fun E sd S => w { E with nx := ClS E.nx } sd S
theorem ds_cl {st : Stmt} {w : WS} (h : DS X st w) : DS X st (wCl w) :=
  ps_imp h fun E σ H ⟨sd, S, E0, st, q, an⟩ => ⟨sd, S, _, st, q, ⟨fun sd' S' σ' H' ⟨sd0, S0, wk, q0⟩ n st' => an.nx sd0 S0 σ' H' q0 (fun a o h1 h2 => let ⟨x, y⟩ := n a o h1 h2; ⟨wk.sub a x, y⟩) (wk.sta _ _ _ st'), an.rt, an.bk, an.ct⟩⟩
theorem xCl {a : WS} {n bk ct : SD → SO → Prop} {r : KD} {sd : SD} {S : SO} (h : a ⟨ClS n, r, bk, ct⟩ sd S) : wCl a ⟨n, r, bk, ct⟩ sd S := h
/-! a typed while -/
section
variable {σ : Type} {c : WT} {b : WS} {n bk ct : SD → SO → Prop} {r : KD} {sd : SD} {S : SO}
def WTurn (st : σ → SD) (so : σ → SO) (Iv : σ → Prop) (mu : σ → Nat) (m : Nat) : SD → SO → Prop := fun sd S => ∃ a, sd = st a ∧ S = so a ∧ Iv a ∧ mu a < m
theorem WTurn.of {st : σ → SD} {so : σ → SO} {Iv : σ → Prop} {mu : σ → Nat} {m : Nat} (a : σ) (hv : Iv a) (hm : mu a < m) (h1 : sd = st a := by rfl) (h2 : S = so a := by rfl) : WTurn st so Iv mu m sd S := ⟨a, h1, h2, hv, hm⟩
theorem whileJ (st : σ → SD) (so : σ → SO) (Iv : σ → Prop) (mu : σ → Nat) (a0 : σ) (h0 : Iv a0)
    (ht : ∀ a, Iv a → c (st a) (so a) fun k S1 => if k = true then b ⟨WTurn st so Iv mu (mu a), r, n, WTurn st so Iv mu (mu a)⟩ (st a) S1 else n (st a) S1) (hs : sd = st a0 := by rfl) (hS : S = so a0 := by rfl) : wWhile c b ⟨n, r, bk, ct⟩ sd S := by
  subst hs hS
  refine ⟨fun m sd S => ∃ a, sd = st a ∧ S = so a ∧ Iv a ∧ mu a = m, ⟨mu a0, a0, rfl, rfl, h0, rfl⟩, ?_⟩
  rintro m sd S ⟨a, rfl, rfl, hv, rfl⟩
  have e : WTurn st so Iv mu (mu a) = fun sd' S' => ∃ m', m' < mu a ∧ ∃ a, sd' = st a ∧ S' = so a ∧ Iv a ∧ mu a = m' := by
    funext sd' S'
    refine propext ⟨fun ⟨a', h1, h2, h3, h4⟩ => ⟨_, h4, a', h1, h2, h3, rfl⟩, fun ⟨m', h4, a', h1, h2, h3, h5⟩ => ⟨a', h1, h2, h3, by omega⟩⟩
  have z := ht a hv
  rw [e] at z
  exact z
end
end
end L2.DL

/-! DL36: list * n as a list that changes; list.count(None) -/
namespace L2.DL
open PySem PySem.Spec PyProof.Rows
section
variable {X : Cx}
/-! numbers or None -/
def onD : Option Nat → D
  | none => .non
  | some i => .int (i : Nat)
instance : InjD onD := ⟨fun a b e => by
  cases a <;> cases b
  · rfl
  · cases e
  · cases e
  · unfold onD at e
    injection e with e
    congr 1
    omega⟩
end
end L2.DL

/-! DL37: + of tuples, neither empty, the sum laid as .tf -/
namespace L2.DL
open PySem PySem.Spec PyProof.Rows
section
variable {X : Cx}
end
end L2.DL

/-! DL38: list.extend -/
namespace L2.DL
open PySem PySem.Spec PyProof.Rows
section
variable {X : Cx}
end
end L2.DL

/-! DL39: dict.update(dict) -/
namespace L2.DL
open PySem PySem.Spec PyProof.Rows
section
variable {X : Cx}
theorem RelK.len {K : PySem.W.Frag} {S : SO} {H : Hp} : ∀ {ys : List (D × D)} {l : List (Key × V)}, RelK K S H ys l → ys.length = l.length
  | [], l, h => by
    have e : l = [] := h
    subst e
    rfl
  | (k, d) :: ys, l, h => by
    obtain ⟨q, v, r, rfl, _, _, h2⟩ := h
    rw [List.length_cons, List.length_cons, RelK.len h2]
end
end L2.DL

/-! DL40: tuple * int -/
namespace L2.DL
open PySem PySem.Spec PyProof.Rows
section
variable {X : Cx}
end
end L2.DL

/-! DL41: sorted(set(xs)) of texts, of ints -/
namespace L2.DL
open PySem PySem.Spec PyProof.Rows
/-- the elements of a set, by keys of one kind -/
structure SK (P : Program) (w : World) (K : Type) [DecidableEq K] where
  κ : PySem.KeyKind P w K
  val : K → Tok → Value
  key : Value → K
  keyV : ∀ k t, key (val k t) = k
  isV : ∀ k t, κ.is k (val k t) = true
  scn : ∀ k t, (val k t).scannable = true
section
variable {P : Program} {w : World} {K : Type} [DecidableEq K] {Z : SK P w K}
theorem SK.is_iff (Z : SK P w K) {k j : K} {u : Tok} : Z.κ.is j (Z.val k u) = true ↔ k = j := by
  rw [PySem.KeyKind.is_eq_decide (Z.isV k u) j, decide_eq_true_iff]
  exact eq_comm
abbrev SEs := Array (Int × Value)
def SK.keys (Z : SK P w K) (l : SEs) : List K := l.toList.map fun e => Z.key e.2
/-- the payload holds the keys of M, n of them, and can be walked -/
structure SK.Tb (Z : SK P w K) (l : SEs) (t : SetTable) (M : K → Bool) (n : Nat) : Prop where
  el : ∀ e ∈ l.toList, ∃ k u, e = (Z.κ.hash k, Z.val k u)
  nd : (Z.keys l).Nodup
  mem : ∀ k, M k = true ↔ k ∈ Z.keys l
  fit : t.fits l.size = true
  sz : l.size = n
  ris : Ris t.place.toList
  led : w.params.followText "set-order" = true ∨ t.led = true
theorem SK.Tb.mv {l l2 : SEs} {t t2 : SetTable} {M : K → Bool} {n : Nat} (T : Z.Tb l t M n) (p : List.Perm l2.toList l.toList) (hf : t2.fits l2.size = true) (hr : Ris t2.place.toList) (hl : t2.led = t.led) : Z.Tb l2 t2 M n :=
  ⟨fun e he => T.el e (p.mem_iff.mp he), (p.map _).nodup_iff.mpr T.nd, fun k => (T.mem k).trans (p.map _).mem_iff.symm, hf, by rw [← T.sz, ← Array.length_toList, p.length_eq, Array.length_toList], hr, hl ▸ T.led⟩
theorem SK.Tb.add {l l2 : SEs} {t t2 : SetTable} {M : K → Bool} {n : Nat} {k : K} {u : Tok} (T : Z.Tb l t M n) (hk : M k = false) (p : List.Perm l2.toList ((Z.κ.hash k, Z.val k u) :: l.toList)) (hf : t2.fits l2.size = true) (hr : Ris t2.place.toList) (hl : t2.led = t.led) : Z.Tb l2 t2 (fun j => M j || decide (j = k)) (n + 1) := by
  have pk : (Z.keys l2).Perm (k :: Z.keys l) := by
    have := p.map fun e => Z.key e.2
    rwa [List.map_cons, Z.keyV] at this
  have hn : k ∉ Z.keys l := fun h => by
    rw [(T.mem k).mpr h] at hk
    cases hk
  refine ⟨fun e he => ?_, pk.nodup_iff.mpr (List.nodup_cons.mpr ⟨hn, T.nd⟩), fun j => ?_, hf, ?_, hr, hl ▸ T.led⟩
  · rcases List.mem_cons.mp (p.mem_iff.mp he) with h | h
    · exact ⟨k, u, h⟩
    · exact T.el e h
  · rw [pk.mem_iff, List.mem_cons, Bool.or_eq_true, decide_eq_true_iff, T.mem j, or_comm]
  · rw [← T.sz, ← Array.length_toList, p.length_eq, List.length_cons, Array.length_toList]
theorem SK.Tb.elems {l : SEs} {t : SetTable} {M : K → Bool} {n : Nat} (T : Z.Tb l t M n) : ElemsOf Z.κ l.toList := fun e he => by
  obtain ⟨k, u, rfl⟩ := T.el e he
  exact ⟨⟨k, Z.isV k u, rfl⟩, Z.scn k u⟩
theorem SK.Tb.has {l : SEs} {t : SetTable} {M : K → Bool} {n : Nat} (T : Z.Tb l t M n) (k : K) : M k = true ↔ ∃ e ∈ l.toList, Z.κ.is k e.2 = true := by
  rw [T.mem k]
  unfold SK.keys
  rw [List.mem_map]
  constructor
  · rintro ⟨e, he, h⟩
    obtain ⟨j, u, rfl⟩ := T.el e he
    have h : Z.key (Z.val j u) = k := h
    rw [Z.keyV] at h
    exact ⟨_, he, Z.is_iff.mpr h⟩
  · rintro ⟨e, he, h⟩
    obtain ⟨j, u, rfl⟩ := T.el e he
    exact ⟨_, he, (Z.keyV j u).trans (Z.is_iff.mp h)⟩
/-- the set at a -/
def SK.Is (Z : SK P w K) (h : Heap) (a : Addr) (M : K → Bool) (n : Nat) : Prop := ∃ o l ep t, h.get? a = some o ∧ o.ExactSet ∧ o.data = .set l ep t ∧ Z.Tb l t M n
theorem SK.Is.at {h h' : Heap} {a : Addr} {M : K → Bool} {n : Nat} (R : Z.Is h a M n) (k : ∀ o, h.get? a = some o → h'.get? a = some o) : Z.Is h' a M n := by
  obtain ⟨o, l, ep, t, g, r⟩ := R
  exact ⟨o, l, ep, t, k o g, r⟩
theorem SK.Is.eqv {h : Heap} {a : Addr} {M M' : K → Bool} {n : Nat} (R : Z.Is h a M n) (e : ∀ k, M' k = M k) : Z.Is h a M' n := (funext e : M' = M) ▸ R
variable {A : Around} {E : Value → Shared → Prop} {s : Shared} {a : Addr} {M : K → Bool} {n : Nat}
theorem put_at {h : Heap} {o : Obj} {l l2 : SEs} {ep : Nat} {t t2 : SetTable} (g : h.get? a = some o) (e : o.data = .set l ep t) : (h.update a (Obj.putSet l2 t2)).get? a = some { o with data := .set l2 (ep + 1) t2 } := by
  rw [← putSet_of l2 t2 e]
  exact Heap.get?_update_self (Obj.putSet l2 t2) g (by rw [putSet_of l2 t2 e]; rfl)
theorem SK.tail {g : Bool → Sem Unit} (hg : ∀ (b : Bool) (s1 : Shared) (Q1 : Unit → Shared → Prop), Q1 () s1 → wpAny (model P w) A (g b) Q1 E s1) {o : Obj} {l0 l : SEs} {ep : Nat} {t0 t : SetTable} (h1 : s.heap.get? a = some o) (h2 : o.ExactSet) (h3 : o.data = .set l0 ep t0)
    (T : Z.Tb l t M n) (hb : n < scanBound) {wd : Bool} {R : Option Bool → Shared → Prop} (hR : ∀ h', Heap.SameBut a s.heap h' → Z.Is h' a M n → R (some true) { s with heap := h' }) :
    wpAny (model P w) A (storeSet a l t >>= fun _ => if (!wd && t.tooFull) = true then g (relayAll t l (SetTable.grown l.size)).2.2 >>= fun _ => storeSet a (relayAll t l (SetTable.grown l.size)).1 (relayAll t l (SetTable.grown l.size)).2.1 >>= fun _ => pure (some true) else pure (some true)) R E s := by
  have few : ∀ {l2 : SEs}, l2.size = n → l2.size < scanBound := fun e => e ▸ hb
  refine wpAny_bind (wpAny_storeSet_of h1 h3 ?_ (fits_of_scanBound (few T.sz)))
  have g1 := put_at (l2 := l) (t2 := t) h1 h3
  have b1 := Heap.SameBut.update s.heap a (Obj.putSet l t)
  by_cases c : (!wd && t.tooFull) = true
  · rw [if_pos c]
    have T2 : Z.Tb (relayAll t l (SetTable.grown l.size)).1 (relayAll t l (SetTable.grown l.size)).2.1 M n := T.mv (relayAll_perm ..) (relayAll_fits ..) (relayAll_ris ..) (relayAll_led ..)
    refine wpAny_bind (hg _ _ _ (wpAny_bind (wpAny_storeSet_of g1 rfl ?_ (fits_of_scanBound (few T2.sz)))))
    exact wpAny_pure (hR _ (b1.trans (Heap.SameBut.update _ a _)) ⟨_, _, _, _, put_at g1 rfl, h2, rfl, T2⟩)
  · rw [if_neg c]
    exact wpAny_pure (hR _ b1 ⟨_, _, _, _, g1, h2, rfl, T⟩)
theorem SK.put {k : K} {u : Tok} {Q : Bool → Shared → Prop} (R : Z.Is s.heap a M n) (room : n + 1 < scanBound)
    (hQ : ∀ h', Heap.SameBut a s.heap h' → Z.Is h' a (fun j => M j || decide (j = k)) (if M k = true then n else n + 1) → Q (!M k) { s with heap := h' }) : wpAny (model P w) A (setAddHashed a (Z.val k u) (Z.κ.hash k)) Q E s := by
  obtain ⟨o, l, ep, t, h1, h2, h3, T⟩ := R
  have hb : l.size < scanBound := by rw [T.sz]; omega
  have quiet : ∀ (b : Bool) (s1 : Shared) (Q1 : Unit → Shared → Prop), Q1 () s1 → wpAny (model P w) A (match b with | true => rule "set.scan.the-table-gave-way" | false => pure ()) Q1 E s1 := fun b s1 Q1 q => by
    cases b
    · exact wpAny_pure q
    · exact wpAny_rule q
  unfold setAddHashed setAddHashedIn
  refine wpAny_holding (wpAny_bind (wpAny_setState_of h1 h3 T.fit ?_))
  dsimp only
  rw [byScan_of (Z.scn k u) hb T.elems]
  simp only [↓reduceIte]
  unfold setAddByScan
  refine wpAny_bind (wpAny_bind (wpAny_rule (wpAny_bind (wpAny_setScan_of (Z.isV k u) h1 h3 T.fit T.elems ?_))))
  cases hM : M k with
  | true =>
    obtain ⟨e, he, hi⟩ := (T.has k).mp hM
    cases f : List.findIdx? (fun e => Z.κ.is k e.2) l.toList with
    | none =>
      have := List.findIdx?_eq_none_iff.mp f e he
      rw [hi] at this
      cases this
    | some j =>
      dsimp only
      have q := hQ s.heap (Heap.SameBut.refl a s.heap) (by
        rw [if_pos hM]
        refine SK.Is.eqv ⟨o, l, ep, t, h1, h2, h3, T⟩ fun j => ?_
        by_cases c : j = k
        · subst c
          rw [hM]
          rfl
        · rw [decide_eq_false c, Bool.or_false])
      rw [hM] at q
      exact wpAny_pure (wpAny_pure q)
  | false =>
    cases f : List.findIdx? (fun e => Z.κ.is k e.2) l.toList with
    | some j =>
      obtain ⟨hj, pj, _⟩ := List.findIdx?_eq_some_iff_getElem.mp f
      have := (T.has k).mpr ⟨_, List.getElem_mem hj, pj⟩
      rw [hM] at this
      cases this
    | none =>
      dsimp only
      have pm := layNew_perm t l (Z.κ.hash k) (Z.val k u)
      rw [Array.toList_push] at pm
      have T2 : ∀ t2 : SetTable, t2.fits (layNew t l (Z.κ.hash k) (Z.val k u)).1.size = true → t2.place = (layNew t l (Z.κ.hash k) (Z.val k u)).2.1.place → t2.led = (layNew t l (Z.κ.hash k) (Z.val k u)).2.1.led → Z.Tb (layNew t l (Z.κ.hash k) (Z.val k u)).1 t2 (fun j => M j || decide (j = k)) (n + 1) := fun t2 f p e =>
        T.add hM (pm.trans (List.perm_append_singleton _ _)) f (p ▸ layNew_ris t l (Z.κ.hash k) (Z.val k u) T.ris) (e.trans (layNew_led t l (Z.κ.hash k) (Z.val k u)))
      have f1 := layNew_fits t l (Z.κ.hash k) (Z.val k u)
      have fin : ∀ h', Heap.SameBut a s.heap h' → Z.Is h' a (fun j => M j || decide (j = k)) (n + 1) → Q true { s with heap := h' } := fun h' sb r => by
        have q := hQ h' sb
        rw [hM] at q
        exact q r
      generalize layNew t l (Z.κ.hash k) (Z.val k u) = N at T2 f1 ⊢
      obtain ⟨l1, t1, wd, gave⟩ := N
      dsimp only at T2 f1 ⊢
      refine wpAny_bind (quiet _ _ _ ?_)
      have last : ∀ h', Heap.SameBut a s.heap h' → Z.Is h' a (fun j => M j || decide (j = k)) (n + 1) → wpAny (model P w) A (match some true with | some added => pure added | none => setAddHashedIn a (Z.val k u) (Z.κ.hash k) 99999) Q E { s with heap := h' } := fun h' sb r => wpAny_pure (fin h' sb r)
      split
      · refine wpAny_bind ?_
        rw [hashByValue_scannable 8 (Z.scn k u)]
        refine wpAny_pure (SK.tail (fun b s1 Q1 q => ?_) h1 h2 h3 (M := fun j => M j || decide (j = k)) (n := n + 1) ?_ room fun h' sb r => last h' sb r)
        · cases b
          · exact wpAny_pure q
          · exact wpAny_rule q
        · split
          · exact T2 _ f1 rfl rfl
          · exact T2 _ (SetTable.fits_plain_off f1) rfl rfl
      · refine wpAny_bind (wpAny_pure ?_)
        simp only [↓reduceIte]
        refine SK.tail (fun b s1 Q1 q => ?_) h1 h2 h3 (T2 _ f1 rfl rfl) room fun h' sb r => last h' sb r
        cases b
        · exact wpAny_pure q
        · exact wpAny_rule q
abbrev obS (w : World) : Obj := { cls := .type "set", dict := none, data := .set #[] 0 (.fresh 0 0 (!w.params.followText "set-order")) }
theorem SK.fresh {h : Heap} {ks : List K} (g : h.get? a = some (obS w)) : Z.Is h a (fun j => decide (j ∈ ks.take 0)) 0 :=
  ⟨_, #[], 0, _, g, ⟨rfl, rfl, rfl⟩, rfl, ⟨fun e he => by simp at he, List.nodup_nil, fun k => by simp [SK.keys], rfl, rfl, .nil, by
    cases c : w.params.followText "set-order"
    · exact .inr rfl
    · exact .inl rfl⟩⟩
end
end L2.DL

/-! DL42: sorted(set(xs)) as a rule -/
namespace L2.DL
open PySem PySem.Spec PyProof.Rows
section
variable {X : Cx} {K : Type} [DecidableEq K]
end
end L2.DL

namespace L2.DL
open PySem PySem.Spec PyProof.Rows
end L2.DL
namespace L2.DL
open PySem PySem.Spec PyProof.Rows
abbrev LETTERS : Str := "abcdefghijklmnopqrstuvwxyz"
def nameOk (x : Str) : Bool := decide (0 < x.length) && (decide (x.length < 9) && x.cps.toList.all fun c => decide (c ∈ LETTERS.cps.toList))
def sp_is_name (W : Addr) : DSp := fun ds S Q E => ∃ x : Str, ds = [.str x] ∧ x.length ≤ 1000000 ∧ Q (.bl (nameOk x)) S
def w_is_name (W : Addr) : WS := (wRet (wAndV (wCall (cIsi (.ty "str") (fTy "str" [])) (wCons (wV 0) (wCons (wC (.ty "str")) wNil))) (wAndV (wCh oLt oLt (wC (.int 0)) (wCall cLen (wCons (wV 0) wNil)) (wC (.int 9))) (wCall cAll (wCons (wLcP (wStrI (wV 0)) (.n 1) wYes (wO oIn (wV 1) (wC (.str "abcdefghijklmnopqrstuvwxyz"))) [1]) wNil)))))
theorem pure_is_name (W : Addr) : ∀ ds S Q E, sp_is_name W ds S Q E → w_is_name W (endsOf Q) (startD ["value", "sign"] ds) S := by
  rintro ds S Q E ⟨x, rfl, hx, q⟩
  refine ⟨rfl, _, _, rfl, rfl, isY rfl ⟨hx, trivial, ?_⟩⟩
  refine isC (fun h0 => ⟨trivial, isC (fun h1 => ?_) fun h1 => cl ?_⟩) fun h0 => isN rfl (cl ?_)
  · refine lcP_map (signsD x) (fun d => match d with | .str z => .bl (strIn z LETTERS) | _ => .non) ⟨rfl, rfl⟩ (by rw [signs_len]; exact hx) (fun d hd S' e => ?_) ⟨x.cps.toList.map fun c => decide (c ∈ LETTERS.cps.toList), ?_, cl ?_⟩
    · obtain ⟨c, hc, rfl⟩ := List.mem_map.mp hd
      exact ⟨rfl, rfl⟩
    · show some _ = some _
      unfold signsD
      rw [List.map_map, List.map_map]
      congr 1
      refine List.map_congr_left fun c hc => ?_
      show D.bl (strIn ⟨#[c]⟩ LETTERS) = _
      rw [strIn_one]
      rfl
    · have e : nameOk x = (List.map (fun c => decide (c ∈ LETTERS.cps.toList)) x.cps.toList).all id := by
        have h0' : (0 : Int) < x.length := of_decide_eq_true h0
        have h1' : (x.length : Int) < 9 := of_decide_eq_true h1
        unfold nameOk
        rw [decide_eq_true (by omega), decide_eq_true (by omega), List.all_map]
        rfl
      rw [← e]
      exact q
  · have h1' : ¬ (x.length : Int) < 9 := of_decide_eq_false h1
    have e : nameOk x = false := by
      unfold nameOk
      rw [decide_eq_false (show ¬ x.length < 9 by omega)]
      simp
    rw [e] at q
    exact q
  · have h1' : ¬ (0 : Int) < x.length := of_decide_eq_false h0
    have e : nameOk x = false := by
      unfold nameOk
      rw [decide_eq_false (show ¬ 0 < x.length by omega)]
      simp
    rw [e] at q
    exact q
end L2.DL

namespace L2.DL
open PySem PySem.Spec PyProof.Rows
/-! ### names, places, ties as data -/
abbrev plD (ps : List Str) : List D := ps.map D.str
def prD (t : Str × Str) : D := .tup [.str t.1, .str t.2]
def mkD (ts : List (Str × Str)) : List (D × D) := ts.map fun t => (prD t, .bl true)
def webD (W : Addr) (ps : List Str) (ts : List (Str × Str)) : D := .ins W [("row", .tf (plD ps)), ("pairs", .tf (ts.map prD)), ("marks", .dic true (mkD ts))]
structure WebOk (ps : List Str) (ts : List (Str × Str)) : Prop where
  pos : 0 < ps.length
  few : ps.length ≤ 40
  nm : ∀ p ∈ ps, nameOk p = true
  nd : ps.Nodup
  tfew : ts.length ≤ 200
  tie : ∀ t ∈ ts, t.1 ∈ ps ∧ t.2 ∈ ps ∧ t.1 ≠ t.2
  tnd : ts.Nodup
def isi_Web (W : Addr) : Addr → Option Bool := fun C => if C = W then some true else none
abbrev sOk (x : Str) : Prop := PyData.canLay0 (.str x) = true
theorem sOk_of {x : Str} (h : ∀ c ∈ x.cps.toList, c < 0x110000) : sOk x := by
  show PyData.canLay0 (.str x) = true
  simp only [PyData.canLay0, PyData.strOk]
  rw [Array.all_eq_true_iff_forall_mem]
  intro c hc
  exact decide_eq_true (h c (by simpa using hc))
theorem letters_small : ∀ c ∈ LETTERS.cps.toList, c < 0x110000 := by decide +kernel
theorem name_chars {x : Str} (h : nameOk x = true) : 0 < x.length ∧ x.length < 9 ∧ ∀ c ∈ x.cps.toList, c ∈ LETTERS.cps.toList := by
  unfold nameOk at h
  rw [Bool.and_eq_true, Bool.and_eq_true] at h
  refine ⟨of_decide_eq_true h.1, of_decide_eq_true h.2.1, fun c hc => ?_⟩
  exact of_decide_eq_true (List.all_eq_true.mp h.2.2 c hc)
theorem name_sOk {x : Str} (h : nameOk x = true) : sOk x := sOk_of fun c hc => letters_small c ((name_chars h).2.2 c hc)
theorem name_len {x : Str} (h : nameOk x = true) : x.length ≤ 1000000 := by have := (name_chars h).2.1; omega
theorem pyDs_strs : ∀ xs : List Str, pyDs (plD xs) = some (xs.map PyData.str)
  | [] => rfl
  | x :: xs => by
    show (pyD (.str x)).bind (fun p => (pyDs (plD xs)).map fun ps => p :: ps) = _
    rw [pyDs_strs xs]
    rfl
def prP (t : Str × Str) : PyData := .tuple [.str t.1, .str t.2]
theorem pyDs_prs : ∀ xs : List (Str × Str), pyDs (xs.map prD) = some (xs.map prP)
  | [] => rfl
  | x :: xs => by
    show (pyD (prD x)).bind (fun p => (pyDs (xs.map prD)).map fun ps => p :: ps) = _
    rw [pyDs_prs xs]
    rfl
theorem canLayAll_map {α : Type} {f : α → PyData} : ∀ {xs : List α}, (∀ x ∈ xs, (f x).canLay0 = true) → PyData.canLayAll0 (xs.map f) = true
  | [], _ => by simp [PyData.canLayAll0]
  | x :: xs, h => by
    rw [List.map_cons]
    simp only [PyData.canLayAll0, Bool.and_eq_true]
    exact ⟨h x (List.mem_cons_self ..), canLayAll_map fun y hy => h y (List.mem_cons_of_mem _ hy)⟩
theorem depthAll_map {α : Type} {f : α → PyData} {n : Nat} : ∀ {xs : List α}, (∀ x ∈ xs, (f x).depth ≤ n) → PyData.depthAll (xs.map f) ≤ n
  | [], _ => by simp [PyData.depthAll]
  | x :: xs, h => by
    rw [List.map_cons]
    simp only [PyData.depthAll]
    exact Nat.max_le.mpr ⟨h x (List.mem_cons_self ..), depthAll_map fun y hy => h y (List.mem_cons_of_mem _ hy)⟩
theorem shaped_of {p : PyData} (h : p.canLay0 = true) (hd : p.depth ≤ 64) : SeqAt.shaped p = true := by
  unfold SeqAt.shaped
  rw [h, decide_eq_true hd]
  rfl
theorem shaped_str {x : Str} (h : sOk x) : SeqAt.shaped (.str x) = true := shaped_of h (by simp [PyData.depth])
theorem shaped_list {α : Type} {f : α → PyData} {n : Nat} {xs : List α} (hn : n + 1 ≤ 64) (h : ∀ x ∈ xs, (f x).canLay0 = true) (hd : ∀ x ∈ xs, (f x).depth ≤ n) : SeqAt.shaped (.list (xs.map f)) = true := by
  refine shaped_of ?_ ?_
  · simp only [PyData.canLay0]
    exact canLayAll_map h
  · simp only [PyData.depth]
    have := depthAll_map hd
    omega
theorem prP_lay {t : Str × Str} (h1 : sOk t.1) (h2 : sOk t.2) : (prP t).canLay0 = true := by
  show PyData.canLayAll0 [.str t.1, .str t.2] = true
  simp only [PyData.canLayAll0, Bool.and_eq_true]
  exact ⟨h1, h2, trivial⟩
theorem prP_depth (t : Str × Str) : (prP t).depth ≤ 1 := by simp [prP, PyData.depth, PyData.depthAll]
theorem eqv_str (a b : Str) : PyData.eqv (.str a) (.str b) = decide (a = b) := by
  simp only [PyData.eqv]
  by_cases h : a = b
  · rw [h]
    simp
  · rw [decide_eq_false h]
    simpa using h
theorem eqv_pr (a b : Str × Str) : PyData.eqv (prP a) (prP b) = decide (a = b) := by
  obtain ⟨a1, a2⟩ := a
  obtain ⟨b1, b2⟩ := b
  show (PyData.eqv (.str a1) (.str b1) && (PyData.eqv (.str a2) (.str b2) && PyData.eqvAll [] [])) = _
  rw [eqv_str, eqv_str]
  simp only [PyData.eqvAll, Bool.and_true, Prod.mk.injEq]
  by_cases h1 : a1 = b1 <;> by_cases h2 : a2 = b2 <;> simp [h1, h2]
theorem memStr {S : SO} {x : Str} {xs : List Str} {k : Bool → Prop} (hx : sOk x) (hxs : ∀ y ∈ xs, sOk y) (h : k (decide (x ∈ xs))) : memD S (.str x) (plD xs) k := by
  refine ⟨.str x, xs.map .str, rfl, pyDs_strs xs, shaped_str hx, shaped_list (n := 0) (by decide) hxs (fun y _ => by simp [PyData.depth]), ?_⟩
  have e : (xs.map PyData.str).any (fun z => PyData.eqv z (.str x)) = decide (x ∈ xs) := by
    rw [List.any_map]
    by_cases hm : x ∈ xs
    · rw [decide_eq_true hm, List.any_eq_true]
      exact ⟨x, hm, by show PyData.eqv (.str x) (.str x) = true; rw [eqv_str]; simp⟩
    · rw [decide_eq_false hm, List.any_eq_false]
      intro y hy
      show ¬ PyData.eqv (.str y) (.str x) = true
      rw [eqv_str]
      simp only [decide_eq_true_eq]
      exact fun e => hm (e ▸ hy)
  rw [e]
  exact h
theorem memPr {S : SO} {x : Str × Str} {xs : List (Str × Str)} {k : Bool → Prop} (hx : sOk x.1 ∧ sOk x.2) (hxs : ∀ y ∈ xs, sOk y.1 ∧ sOk y.2) (h : k (decide (x ∈ xs))) : memD S (prD x) (xs.map prD) k := by
  refine ⟨prP x, xs.map prP, rfl, pyDs_prs xs, shaped_of (prP_lay hx.1 hx.2) (Nat.le_trans (prP_depth x) (by decide)), shaped_list (n := 1) (by decide) (fun y hy => prP_lay (hxs y hy).1 (hxs y hy).2) (fun y _ => prP_depth y), ?_⟩
  have e : (xs.map prP).any (fun z => PyData.eqv z (prP x)) = decide (x ∈ xs) := by
    rw [List.any_map]
    by_cases hm : x ∈ xs
    · rw [decide_eq_true hm, List.any_eq_true]
      exact ⟨x, hm, by show PyData.eqv (prP x) (prP x) = true; rw [eqv_pr]; simp⟩
    · rw [decide_eq_false hm, List.any_eq_false]
      intro y hy
      show ¬ PyData.eqv (prP y) (prP x) = true
      rw [eqv_pr]
      simp only [decide_eq_true_eq]
      exact fun e => hm (e ▸ hy)
  rw [e]
  exact h
theorem prD_inj {a b : Str × Str} (h : prD a = prD b) : a = b := by
  obtain ⟨a1, a2⟩ := a
  obtain ⟨b1, b2⟩ := b
  unfold prD at h
  simp at h
  rw [h.1, h.2]
theorem prD_key (t : Str × Str) : keyOk true (prD t) := ⟨_, [.inr t.1, .inr t.2], rfl, rfl⟩
theorem dget_mk {t : Str × Str} : ∀ {ts : List (Str × Str)}, (dget (mkD ts) (prD t)).isSome = decide (t ∈ ts)
  | [] => rfl
  | u :: ts => by
    show (dget ((prD u, .bl true) :: mkD ts) (prD t)).isSome = _
    rw [dget_cons]
    by_cases h : u = t
    · rw [if_pos (by rw [h]), decide_eq_true (by rw [h]; exact List.mem_cons_self ..)]
      rfl
    · rw [if_neg fun e => h (prD_inj e), dget_mk]
      have e : (t ∈ u :: ts) = (t ∈ ts) := by
        rw [List.mem_cons]
        exact propext ⟨fun z => z.elim (fun e => absurd e.symm h) id, .inr⟩
      simp only [e]
theorem nodup_map {α β : Type} {f : α → β} (hf : ∀ a b, f a = f b → a = b) : ∀ {l : List α}, l.Nodup → (l.map f).Nodup
  | [], _ => List.nodup_nil
  | x :: xs, h => by
    have h' := List.nodup_cons.mp h
    rw [List.map_cons, List.nodup_cons]
    refine ⟨fun hm => ?_, nodup_map hf h'.2⟩
    obtain ⟨y, hy, e⟩ := List.mem_map.mp hm
    exact h'.1 (hf _ _ e ▸ hy)
theorem mk_keys (ts : List (Str × Str)) (h : ts.Nodup) : ((mkD ts).map (·.1)).Nodup := by
  unfold mkD
  rw [List.map_map]
  exact nodup_map (fun a b e => prD_inj e) h
theorem dputs_mk {ts : List (Str × Str)} (h : ts.Nodup) : dputsL [] (mkD ts) = mkD ts := by
  have := dputsL_nodup (kvs := mkD ts) (acc := []) (fun p _ => rfl) (mk_keys ts h)
  simpa using this
end L2.DL

namespace L2.DL
open PySem PySem.Spec PyProof.Rows
theorem sIx_hi {n j : Nat} (h : j ≤ n) : HT.sIx n n (some (j : Int)) = j := by
  unfold HT.sIx
  show (if (j : Int) < 0 then _ else _) = _
  rw [if_neg (by omega)]
  omega
theorem sIx_lo0 {n : Nat} : HT.sIx n 0 none = 0 := rfl
theorem cut_pre {xs : List D} {j : Nat} (h : j ≤ xs.length) : cutD xs none (some (j : Int)) = xs.take j := by
  unfold cutD
  rw [sIx_lo0, sIx_hi h]
  simp
/-! ### wrong_place -/
def PlacesOk (ps : List Str) : Prop := ps.length ≤ 40 ∧ (∀ p ∈ ps, nameOk p = true) ∧ ps.Nodup
def sp_wrong_place (W : Addr) : DSp := fun ds S Q E => ∃ ps : List Str, ds = [.tf (plD ps)] ∧ PlacesOk ps ∧ Q .non S
def w_wrong_place (W : Addr) : WS := (wSeq (wFor (wEnum (wCons (wV 0) wNil)) (gT 2 (gC (gV 1) (gC (gV 2) gN))) (wIfS (wOr (wB (wO oEq (wV 1) (wC (.int 40)))) (wOr (wNot (wB (wFn (sp_is_name W) [] (wCons (wV 2) wNil)))) (wB (wO oIn (wV 2) (wSl (wV 0) pNone (pSome (wV 1))))))) (wRet (wV 1)) wNext))
    (wRet (wC .non)))
theorem plD_get {ps : List Str} {i : Nat} {d : D} (h : (plD ps)[i]? = some d) : ∃ x, ps[i]? = some x ∧ d = .str x := by
  rw [List.getElem?_map] at h
  obtain ⟨x, hx, rfl⟩ := Option.map_eq_some_iff.mp h
  exact ⟨x, hx, rfl⟩
theorem nodup_take {α : Type} {xs : List α} {i : Nat} {x : α} (h : xs.Nodup) (hi : xs[i]? = some x) : x ∉ xs.take i := by
  obtain ⟨hl, e⟩ := List.getElem?_eq_some_iff.mp hi
  intro hm
  obtain ⟨j, hj, e2⟩ := List.mem_iff_getElem.mp hm
  rw [List.getElem_take] at e2
  rw [List.length_take] at hj
  have hp := List.pairwise_iff_getElem.mp h j i (by omega) hl (by omega)
  exact hp (e2.trans e.symm)
theorem pure_wrong_place (W : Addr) : ∀ ds S Q E, sp_wrong_place W ds S Q E → w_wrong_place W (endsOf Q) (startD ["values", "index", "value"] ds) S := by
  rintro ds S Q E ⟨ps, rfl, ⟨hf, hn, hd⟩, q⟩
  refine ⟨⟨fun i sd S' => S' = S ∧ ∃ a b, sd = [some (.tf (plD ps)), a, b], ⟨rfl, none, none, rfl⟩, fun _ _ _ _ => trivial, ?_, ?_⟩⟩
  · rintro i d sd S' hi ⟨rfl, a, b, rfl⟩
    obtain ⟨x, hx, rfl⟩ := enumD_get hi
    obtain ⟨n, hn', rfl⟩ := plD_get hx
    have hl := (List.getElem?_eq_some_iff.mp hn').1
    have hm : n ∈ ps := List.mem_of_getElem? hn'
    refine ⟨rfl, rfl, isN (decide_eq_false (by omega)) ⟨n, rfl, name_len (hn n hm), isY (hn n hm) ?_⟩⟩
    refine ⟨fun h => ?_, Or.inl ⟨_, rfl, ?_⟩⟩
    · rw [sIx_hi (by rw [List.length_map]; omega), List.length_map] at h
      omega
    · have hc : cutD (plD ps) none (some (i : Int)) = plD (ps.take i) := by
        rw [cut_pre (by rw [List.length_map]; omega)]
        exact (List.map_take ..).symm
      rw [hc]
      exact memStr (name_sOk (hn n hm)) (fun y hy => name_sOk (hn y (List.mem_of_mem_take hy))) (isN (decide_eq_false (nodup_take hd hn')) ⟨rfl, _, _, rfl⟩)
  · rintro sd S' ⟨rfl, _⟩
    exact cl q
/-! ### is_pair -/
def sp_is_pair (W : Addr) : DSp := fun ds S Q E => ∃ (ps : List Str) (t : Str × Str), ds = [.tf (plD ps), prD t] ∧ (∀ p ∈ ps, sOk p) ∧ t.1 ∈ ps ∧ t.2 ∈ ps ∧ t.1 ≠ t.2 ∧ Q (.bl true) S
def w_is_pair (W : Addr) : WS := (wSeq (wIfS (wOr (wNot (wB (wCall (cIsi (.ty "tuple") (fTy "tuple" [])) (wCons (wV 1) (wCons (wC (.ty "tuple")) wNil))))) (wB (wO oNe (wCall cLen (wCons (wV 1) wNil)) (wC (.int 2))))) (wRet (wC (.bl false))) wNext)
    (wRet (wAndV (wCall cAll (wCons (wLcP (wSeqI (wV 1)) (.n 2) wYes (wAndV (wCall (cIsi (.ty "str") (fTy "str" [])) (wCons (wV 2) (wCons (wC (.ty "str")) wNil))) (wO oIn (wV 2) (wV 0))) [2]) wNil)) (wO oNe (wO oIx (wV 1) (wC (.int 0))) (wO oIx (wV 1) (wC (.int 1)))))))
theorem pure_is_pair (W : Addr) : ∀ ds S Q E, sp_is_pair W ds S Q E → w_is_pair W (endsOf Q) (startD ["places", "value", "place"] ds) S := by
  rintro ds S Q E ⟨ps, ⟨a, b⟩, rfl, hs, ha, hb, hab, q⟩
  refine ⟨rfl, _, _, rfl, rfl, isY rfl ?_⟩
  refine ⟨Or.inl ⟨_, rfl, isN rfl ?_⟩⟩
  refine lcP_map [.str a, .str b] (fun _ => .bl true) ⟨rfl, rfl⟩ (by show 2 ≤ 1000000; decide) (fun d hd S' e => ?_) ⟨[true, true], rfl, isY rfl ?_⟩
  · have hd' : d = .str a ∨ d = .str b := by simpa using hd
    rcases hd' with rfl | rfl
    · exact ⟨rfl, _, _, rfl, rfl, isY rfl (Or.inl ⟨_, rfl, memStr (hs a ha) hs ⟨rfl, by rw [decide_eq_true ha]⟩⟩)⟩
    · exact ⟨rfl, _, _, rfl, rfl, isY rfl (Or.inl ⟨_, rfl, memStr (hs b hb) hs ⟨rfl, by rw [decide_eq_true hb]⟩⟩)⟩
  · refine Or.inl ⟨[.str a, .str b], 0, .str a, rfl, rfl, rfl, Or.inl ⟨[.str a, .str b], 1, .str b, rfl, rfl, rfl, ?_⟩⟩
    have e : (!decide (a = b)) = true := by rw [decide_eq_false hab]; rfl
    show Cl Q (.bl (!decide (a = b))) S
    rw [e]
    exact cl q
end L2.DL

namespace L2.DL
open PySem PySem.Spec PyProof.Rows
/-! ### wrong_tie -/
structure TiesOk (ps : List Str) (ts : List (Str × Str)) : Prop where
  sok : ∀ p ∈ ps, sOk p
  few : ts.length ≤ 200
  tie : ∀ t ∈ ts, t.1 ∈ ps ∧ t.2 ∈ ps ∧ t.1 ≠ t.2
  nd : ts.Nodup
def sp_wrong_tie (W : Addr) : DSp := fun ds S Q E => ∃ (ps : List Str) (ts : List (Str × Str)), ds = [.tf (plD ps), .tf (ts.map prD)] ∧ TiesOk ps ts ∧ Q .non S
def w_wrong_tie (W : Addr) : WS := (wSeq (wAsg (wDnew true) (gV 2))
    (wSeq (wFor (wEnum (wCons (wV 1) wNil)) (gT 2 (gC (gV 3) (gC (gV 4) gN))) (wSeq (wIfS (wOr (wB (wO oEq (wV 3) (wC (.int 200)))) (wOr (wNot (wB (wFn (sp_is_pair W) [] (wCons (wV 0) (wCons (wV 4) wNil))))) (wB (wO oIn (wV 4) (wV 2))))) (wRet (wV 3)) wNext)
    (wAsg (wC (.bl true)) (gSubD (wV 2) (wV 4) sSub))))
    (wRet (wC .non))))
theorem prD_get {ts : List (Str × Str)} {i : Nat} {d : D} (h : (ts.map prD)[i]? = some d) : ∃ x, ts[i]? = some x ∧ d = prD x := by
  rw [List.getElem?_map] at h
  obtain ⟨x, hx, rfl⟩ := Option.map_eq_some_iff.mp h
  exact ⟨x, hx, rfl⟩
theorem mkD_snoc {ts : List (Str × Str)} {i : Nat} {t : Str × Str} (h : ts.Nodup) (hi : ts[i]? = some t) : dput (mkD (ts.take i)) (prD t) (.bl true) = mkD (ts.take (i + 1)) := by
  have hn := dget_mk (t := t) (ts := ts.take i)
  rw [decide_eq_false (nodup_take h hi)] at hn
  have h0 : dget (mkD (ts.take i)) (prD t) = none := by
    cases q : dget (mkD (ts.take i)) (prD t) with
    | none => rfl
    | some d =>
      rw [q] at hn
      cases hn
  rw [dput_new h0, List.take_add_one, hi]
  unfold mkD
  rw [List.map_append]
  rfl
theorem pure_wrong_tie (W : Addr) : ∀ ds S Q E, sp_wrong_tie W ds S Q E → w_wrong_tie W (endsOf Q) (startD ["places", "values", "seen", "index", "value"] ds) S := by
  rintro ds S Q E ⟨ps, ts, rfl, T, q⟩
  intro p hp
  refine ⟨⟨fun i sd S' => S' = S.set p (.dic true (mkD (ts.take i))) ∧ ∃ a b, sd = [some (.tf (plD ps)), some (.tf (ts.map prD)), some (.obj p), a, b], ⟨rfl, none, none, rfl⟩, fun _ _ _ _ => trivial, ?_, ?_⟩⟩
  · rintro i d sd S' hi ⟨rfl, a, b, rfl⟩
    obtain ⟨x, hx, rfl⟩ := enumD_get hi
    obtain ⟨t, ht, rfl⟩ := prD_get hx
    have hl := (List.getElem?_eq_some_iff.mp ht).1
    have hm : t ∈ ts := List.mem_of_getElem? ht
    obtain ⟨t1, t2, t3⟩ := T.tie t hm
    have hf := T.few
    refine ⟨rfl, rfl, isN (decide_eq_false (by omega)) ⟨ps, t, rfl, T.sok, t1, t2, t3, isY rfl (Or.inr ⟨true, mkD (ts.take i), ?_, prD_key t, isN ?_ ?_⟩)⟩⟩
    · show objD (S.set p (.dic true (mkD (ts.take i))) p) = some (true, mkD (ts.take i))
      rw [set_same]
      rfl
    · rw [dget_mk]
      exact decide_eq_false (nodup_take T.nd ht)
    · refine ⟨p, rfl, Or.inr ⟨true, mkD (ts.take i), set_same, prD_key t, ?_, ?_, _, _, rfl⟩⟩
      · unfold mkD
        rw [List.length_map, List.length_take]
        omega
      · rw [set_set, mkD_snoc T.nd ht]
  · rintro sd S' ⟨rfl, _⟩
    exact ⟨.non, S, Rf.dropS .non hp, q⟩
/-! ### check_places, check_ties -/
def sp_check_places (W : Addr) : DSp := fun ds S Q E => ∃ ps : List Str, ds = [.tf (plD ps)] ∧ PlacesOk ps ∧ ps ≠ [] ∧ Q .non S
def w_check_places (W : Addr) : WS := (wSeq (wIfS (wOr (wNot (wB (wCall (cIsi (.ty "tuple") (fTy "tuple" [])) (wCons (wV 0) (wCons (wC (.ty "tuple")) wNil))))) (wB (wO oEq (wV 0) (wTup wNil)))) wNever wNext)
    (wSeq (wAsg (wFn (sp_wrong_place W) [] (wCons (wV 0) wNil)) (gV 1))
    (wIfS (wB (wO oNotN (wV 1) (wC .non))) wNever wNext)))
theorem shaped_tupS {xs : List Str} (h : ∀ x ∈ xs, sOk x) : SeqAt.shaped (.tuple (xs.map PyData.str)) = true := by
  refine shaped_of ?_ ?_
  · simp only [PyData.canLay0]
    exact canLayAll_map h
  · simp only [PyData.depth]
    have := depthAll_map (f := PyData.str) (n := 0) (xs := xs) (fun y _ => by simp [PyData.depth])
    omega
theorem pure_check_places (W : Addr) : ∀ ds S Q E, sp_check_places W ds S Q E → w_check_places W (endsOf Q) (startD ["places", "wrong"] ds) S := by
  rintro ds S Q E ⟨ps, rfl, ok, hne, q⟩
  refine ⟨rfl, _, _, rfl, rfl, isY rfl ⟨by decide, .tuple (ps.map .str), .tuple [], ?_, rfl, shaped_tupS fun x hx => name_sOk (ok.2.1 x hx), by decide +kernel, isN ?_ ⟨ps, rfl, ok, rfl, isN rfl (cl q)⟩⟩⟩
  · show (pyDs (plD ps)).map PyData.tuple = _
    rw [pyDs_strs]
    rfl
  · cases ps with
    | nil => exact absurd rfl hne
    | cons x xs =>
      simp [PyData.eqv, PyData.eqvAll]
def sp_check_ties (W : Addr) : DSp := fun ds S Q E => ∃ (ps : List Str) (ts : List (Str × Str)), ds = [.tf (plD ps), .tf (ts.map prD)] ∧ TiesOk ps ts ∧ Q .non S
def w_check_ties (W : Addr) : WS := (wSeq (wIfS (wNot (wB (wCall (cIsi (.ty "tuple") (fTy "tuple" [])) (wCons (wV 1) (wCons (wC (.ty "tuple")) wNil))))) wNever wNext)
    (wSeq (wAsg (wFn (sp_wrong_tie W) [] (wCons (wV 0) (wCons (wV 1) wNil))) (gV 2))
    (wIfS (wB (wO oNotN (wV 2) (wC .non))) wNever wNext)))
theorem pure_check_ties (W : Addr) : ∀ ds S Q E, sp_check_ties W ds S Q E → w_check_ties W (endsOf Q) (startD ["places", "ties", "wrong"] ds) S := by
  rintro ds S Q E ⟨ps, ts, rfl, ok, q⟩
  exact ⟨rfl, _, _, rfl, rfl, isY rfl ⟨ps, ts, rfl, ok, rfl, isN rfl (cl q)⟩⟩
/-! ### Web.__init__ -/
def fsD (ps : List Str) (ts : List (Str × Str)) : List (Str × D) := [("row", .tf (plD ps)), ("pairs", .tf (ts.map prD)), ("marks", .dic true (mkD ts))]
def sp_Web_init (W : Addr) : DSp := fun ds S Q E => ∃ (p : Addr) (ps : List Str) (ts : List (Str × Str)), ds = [.obj p, .tf (plD ps), .tf (ts.map prD)] ∧ S p = some (.ins W []) ∧ WebOk ps ts ∧ Q .non (S.set p (.ins W (fsD ps ts)))
def w_Web_init (W : Addr) : WS := (wSeq (wDrop (wFn (sp_check_places W) [] (wCons (wV 1) wNil)))
    (wSeq (wDrop (wFn (sp_check_ties W) [] (wCons (wV 1) (wCons (wV 2) wNil))))
    (wSeq (wSetF W "row" (wV 0) (wV 1))
    (wSeq (wSetF W "pairs" (wV 0) (wV 2))
    (wSetF W "marks" (wV 0) (wDcP true (wSeqI (wV 2)) (.n 3) wYes (wV 3) (wC (.bl true)) [3]))))))
theorem WebOk.places {ps : List Str} {ts : List (Str × Str)} (h : WebOk ps ts) : PlacesOk ps := ⟨h.few, h.nm, h.nd⟩
theorem WebOk.ties {ps : List Str} {ts : List (Str × Str)} (h : WebOk ps ts) : TiesOk ps ts := ⟨fun p hp => name_sOk (h.nm p hp), h.tfew, h.tie, h.tnd⟩
theorem WebOk.ne {ps : List Str} {ts : List (Str × Str)} (h : WebOk ps ts) : ps ≠ [] := List.length_pos_iff.mp h.pos
theorem pure_Web_init (W : Addr) : ∀ ds S Q E, sp_Web_init W ds S Q E → w_Web_init W (endsOf Q) (startD ["self", "places", "ties", "tie"] ds) S := by
  rintro ds S Q E ⟨p, ps, ts, rfl, hp, ok, q⟩
  refine ⟨ps, rfl, ok.places, ok.ne, ps, ts, rfl, ok.ties, p, _, rfl, hp, lez rfl, p, _, rfl, set_same, lez rfl, ?_⟩
  refine dcP_of (ts.map prD) (fun d => some (d, .bl true)) ⟨rfl, rfl⟩ (by rw [List.length_map]; have := ok.tfew; omega) (fun d hd S' e => ⟨rfl, upI ⟨rfl, ?_, upI ⟨rfl, rfl⟩⟩⟩) ⟨p, _, rfl, set_same, lez rfl, ?_⟩
  · obtain ⟨t, _, rfl⟩ := List.mem_map.mp hd
    exact prD_key t
  · have e : dputsL [] ((ts.map prD).filterMap fun d => some (d, D.bl true)) = mkD ts := by
      rw [List.filterMap_eq_map', List.map_map]
      exact dputs_mk ok.tnd
    rw [e, set_set, set_set]
    exact cl q
/-! ### has_tie, check_web, check_place -/
def sp_Web_has_tie (W : Addr) : DSp := fun ds S Q E => ∃ (ps : List Str) (ts : List (Str × Str)) (a b : Str), ds = [webD W ps ts, .str a, .str b] ∧ Q (.bl (decide ((a, b) ∈ ts))) S
def w_Web_has_tie (W : Addr) : WS := (wRet (wO oIn (wTup (wCons (wV 1) (wCons (wV 2) wNil))) (wFld W "marks" (wV 0))))
theorem pure_Web_has_tie (W : Addr) : ∀ ds S Q E, sp_Web_has_tie W ds S Q E → w_Web_has_tie W (endsOf Q) (startD ["self", "first", "second"] ds) S := by
  rintro ds S Q E ⟨ps, ts, a, b, rfl, q⟩
  refine ⟨lez rfl, _, _, ⟨rfl, rfl⟩, rfl, Or.inr ⟨true, mkD ts, rfl, prD_key (a, b), ?_⟩⟩
  show Cl Q (.bl (dget (mkD ts) (prD (a, b))).isSome) S
  rw [dget_mk]
  exact cl q
def sp_check_web (W : Addr) : DSp := fun ds S Q E => ∃ (ps : List Str) (ts : List (Str × Str)), ds = [webD W ps ts] ∧ Q .non S
def w_check_web (W : Addr) : WS := (wIfS (wNot (wB (wCall (cIsi (.obj W) (fOwn (isi_Web W))) (wCons (wV 0) (wCons (wC (.obj W)) wNil))))) wNever wNext)
theorem isi_W (W : Addr) : isi_Web W W = some true := if_pos rfl
theorem pure_check_web (W : Addr) : ∀ ds S Q E, sp_check_web W ds S Q E → w_check_web W (endsOf Q) (startD ["web"] ds) S := by
  rintro ds S Q E ⟨ps, ts, rfl, q⟩
  exact ⟨rfl, .inr W, true, rfl, isi_W W, isY rfl (cl q)⟩
end L2.DL

namespace L2.DL
open PySem PySem.Spec PyProof.Rows
/-! ### nexts_of -/
end L2.DL

namespace L2.DL
open PySem PySem.Spec PyProof.Rows
/-! ### what is reached -/
end L2.DL

namespace L2.DL
open PySem PySem.Spec PyProof.Rows
end L2.DL

namespace L2.DL
open PySem PySem.Spec PyProof.Rows
/-! ### leads -/
theorem mem_take_of {α : Type} {ps : List α} {a : α} {i j : Nat} (hi : ps[i]? = some a) (h : i < j) : a ∈ ps.take j := by
  obtain ⟨hl, e⟩ := List.getElem?_eq_some_iff.mp hi
  refine List.mem_iff_getElem.mpr ⟨i, by rw [List.length_take]; omega, ?_⟩
  rw [List.getElem_take]
  exact e
theorem nodup_ix {α : Type} {ps : List α} (nd : ps.Nodup) {a : α} {i j : Nat} (hi : ps[i]? = some a) (hj : ps[j]? = some a) : i = j := by
  rcases Nat.lt_trichotomy i j with h | h | h
  · exact absurd (mem_take_of hi h) (nodup_take nd hj)
  · exact h
  · exact absurd (mem_take_of hj h) (nodup_take nd hi)
end L2.DL

namespace L2.DL
open PySem PySem.Spec PyProof.Rows
/-! ### draws: a list of three numbers -/
abbrev pan3 (a b c : Int) : DO := .lst [.int a, .int b, .int c]
theorem seqX_obj {S : SO} {p : Addr} {xs : List D} (h : S p = some (.lst xs)) : seqX S (.obj p) = some xs := by
  show objL (S p) = some xs
  rw [h]
  rfl
theorem lstX_obj {S : SO} {p : Addr} {xs : List D} (h : S p = some (.lst xs)) : lstX S (.obj p) = some xs := by
  show objL (S p) = some xs
  rw [h]
  rfl
theorem cmulL {i j : Int} (h1 : -(2 ^ 64) < i) (h2 : i < 2 ^ 64) : CMul i j := .inl ⟨h1, h2⟩
theorem cmulR {i j : Int} (h1 : -(2 ^ 64) < j) (h2 : j < 2 ^ 64) : CMul i j := .inr ⟨h1, h2⟩
theorem len_ints {ns : List Int} (h : ns.length ≤ 63) : (ns.map D.int).length ≤ 63 := by rw [List.length_map]; exact h
theorem cut_sub {xs : List D} {lo hi : Option Int} : ∀ d ∈ cutD xs lo hi, d ∈ xs := fun d h => List.mem_of_mem_drop (List.mem_of_mem_take h)
theorem cut_len {xs : List D} {lo hi : Option Int} : (cutD xs lo hi).length ≤ xs.length := by
  unfold cutD
  rw [List.length_take, List.length_drop]
  omega
/-! ### _law_scoop, _law_pick -/
/-- the items of what does not change -/
def fz : D → Option (List D)
  | .lst xs => some xs
  | .tup xs => some xs
  | .tf xs => some xs
  | .src xs => some xs
  | .kt xs => some xs
  | _ => none
end L2.DL

namespace L2.DL
open PySem PySem.Spec PyProof.Rows
/-! ### drawn names -/
def letterAt (n : Nat) : Nat := LETTERS.cps.toList.getD n 0
theorem letters26 : LETTERS.cps.toList.length = 26 := by decide +kernel
theorem letters_nd : LETTERS.cps.toList.Nodup := by decide +kernel
theorem letterAt_get {n : Nat} (h : n < 26) : LETTERS.cps.toList[n]? = some (letterAt n) := by
  unfold letterAt
  rw [List.getD_eq_getElem?_getD, List.getElem?_eq_getElem (by rw [letters26]; exact h)]
  rfl
theorem letterAt_mem {n : Nat} (h : n < 26) : letterAt n ∈ LETTERS.cps.toList := List.mem_of_getElem? (letterAt_get h)
theorem letterAt_inj {i j : Nat} (hi : i < 26) (hj : j < 26) (h : letterAt i = letterAt j) : i = j := nodup_ix letters_nd (letterAt_get hi) (h ▸ letterAt_get hj)
def spot (s l : Int) (k : Nat) : Nat := ((s + l * k) % 26).toNat
theorem spot_lt (s l : Int) (k : Nat) : spot s l k < 26 := by
  unfold spot
  have h0 := Int.emod_nonneg (s + l * k) (show (26 : Int) ≠ 0 by decide)
  have h1 := Int.emod_lt_of_pos (s + l * k) (show (0 : Int) < 26 by decide)
  omega
def StemOk (x : Str) : Prop := x.length ≤ 6 ∧ ∀ c ∈ x.cps.toList, c ∈ LETTERS.cps.toList
def LeapOk (l : Int) : Prop := l = 1 ∨ l = 3 ∨ l = 5 ∨ l = 7 ∨ l = 9 ∨ l = 11
theorem spot_inj {s l : Int} (hl : LeapOk l) {i j : Nat} (hi : i < j + 26) (hj : j < i + 26) (h : spot s l i = spot s l j) : i = j := by
  unfold spot at h
  have a0 := Int.emod_nonneg (s + l * i) (show (26 : Int) ≠ 0 by decide)
  have b0 := Int.emod_nonneg (s + l * j) (show (26 : Int) ≠ 0 by decide)
  have h2 : (s + l * i) % 26 = (s + l * j) % 26 := by omega
  rcases hl with rfl | rfl | rfl | rfl | rfl | rfl <;> omega
structure NamesOk (ts : List Str) : Prop where
  nm : ∀ t ∈ ts, nameOk t = true
  nd : ts.Nodup
end L2.DL

namespace L2.DL
open PySem PySem.Spec PyProof.Rows
/-! ### drawn ties -/
theorem set_comm {S : SO} {a b : Addr} {x y : DO} (h : a ≠ b) : (S.set a x).set b y = (S.set b y).set a x := by
  funext c
  unfold SO.set
  by_cases h1 : c = b
  · rw [if_pos h1, if_neg fun e => h (e.symm.trans h1), if_pos h1]
  · rw [if_neg h1]
    by_cases h2 : c = a
    · rw [if_pos h2, if_pos h2]
    · rw [if_neg h2, if_neg h2, if_neg h1]
/-! ### _law_case, _law_made -/
end L2.DL

namespace L2.DL
open PySem PySem.Spec PyProof.Rows
/-! ### draws of the other family -/
def sp_cup_cup (W : Addr) : DSp := fun ds S Q E => ∃ (ns : List Int) (k : Nat), ds = [.src (ns.map D.int), .int (k : Nat)] ∧ ns.length ≤ 63 ∧ ∀ p a b, S p = none → Q (.obj p) (S.set p (pan3 a b 0))
def w_cup_cup (W : Addr) : WS := (wSeq (wAsg (wIf (wB (wO oLt (wV 1) (wCall cLen (wCons (wV 0) wNil)))) (wCall cInt (wCons (wO oIx (wV 0) (wV 1)) wNil)) (wO oAdd (wO oMul (wC (.int 4903)) (wV 1)) (wC (.int 67)))) (gV 2))
    (wSeq (wAsg (wO oAdd (wC (.int 61001)) (wO oMul (wC (.int 701)) (wV 1))) (gV 3))
    (wSeq (wFor (wSeqI (wO oAdd (wSl (wV 0) pNone (pSome (wC (.int 5)))) (wLst (wCons (wV 2) wNil)))) (gV 4) (wAsg (wO oMod (wCall cInt (wCons (wO oAdd (wO oMul (wV 3) (wC (.int 46021))) (wCall cInt (wCons (wV 4) wNil))) wNil)) (wC (.int 2147483137))) (gV 3)))
    (wRet (wNew (wCons (wIf (wOr (wB (wO oLt (wV 2) (wC (.int 0)))) (wB (wO oGe (wV 2) (wO oPow (wC (.int 10)) (wC (.int 18)))))) (wCall cAbs (wCons (wV 2) wNil)) (wC (.int 0))) (wCons (wV 3) (wCons (wC (.int 0)) wNil))))))))
theorem pure_cup_cup (W : Addr) : ∀ ds S Q E, sp_cup_cup W ds S Q E → w_cup_cup W (endsOf Q) (startD ["_law_script", "_law_k", "_law_cell", "_law_mixed", "_law_each"] ds) S := by
  rintro ds S Q E ⟨ns, k, rfl, hl, q⟩
  have hl' := len_ints hl
  have rest : ∀ cell : Int, wSeq (wAsg (wO oAdd (wC (.int 61001)) (wO oMul (wC (.int 701)) (wV 1))) (gV 3))
    (wSeq (wFor (wSeqI (wO oAdd (wSl (wV 0) pNone (pSome (wC (.int 5)))) (wLst (wCons (wV 2) wNil)))) (gV 4) (wAsg (wO oMod (wCall cInt (wCons (wO oAdd (wO oMul (wV 3) (wC (.int 46021))) (wCall cInt (wCons (wV 4) wNil))) wNil)) (wC (.int 2147483137))) (gV 3)))
    (wRet (wNew (wCons (wIf (wOr (wB (wO oLt (wV 2) (wC (.int 0)))) (wB (wO oGe (wV 2) (wO oPow (wC (.int 10)) (wC (.int 18)))))) (wCall cAbs (wCons (wV 2) wNil)) (wC (.int 0))) (wCons (wV 3) (wCons (wC (.int 0)) wNil)))))) (endsOf Q) [some (.src (ns.map D.int)), some (.int (k : Nat)), some (.int cell), none, none] S := by
    intro cell
    refine ⟨cmulL (by decide) (by decide), ?_⟩
    refine ⟨⟨lez rfl, ?_, ?_⟩⟩
    · have := cut_len (xs := ns.map D.int) (lo := none) (hi := some 5)
      show _ + 1 ≤ 1000000
      omega
    refine ⟨fun i sd S' => S' = S ∧ ∃ m c4, sd = [some (.src (ns.map D.int)), some (.int (k : Nat)), some (.int cell), some (.int m), c4], ⟨rfl, _, none, rfl⟩, fun _ _ _ _ => trivial, ?_, ?_⟩
    · rintro i d sd S' hi ⟨rfl, m, c4, rfl⟩
      have hm : d ∈ cutD (ns.map D.int) none (some 5) ++ [.int cell] := List.mem_of_getElem? hi
      obtain ⟨e, rfl⟩ : ∃ e, d = D.int e := by
        rcases List.mem_append.mp hm with h | h
        · obtain ⟨e, _, he⟩ := List.mem_map.mp (cut_sub d h)
          exact ⟨e, he.symm⟩
        · exact ⟨cell, by simpa using h⟩
      exact ⟨cmulR (by decide) (by decide), (by show (0 : Int) < 2147483137; decide), rfl, _, _, rfl⟩
    · rintro sd S' ⟨rfl, m, c4, rfl⟩
      have fin : ∀ a : Int, wRet (fun sd S Q => ∀ p, S p = none → Q (.obj p) (S.set p (pan3 a m 0))) (endsOf Q) [some (.src (ns.map D.int)), some (.int (k : Nat)), some (.int cell), some (.int m), c4] S' := fun a p hp => cl (q p a m hp)
      refine ⟨trivial, isC (fun h => ⟨lez rfl, fin _⟩) fun h => ?_⟩
      refine ⟨⟨by decide, by decide, by decide⟩, trivial, isC (fun h => ⟨lez rfl, fin _⟩) fun h => ⟨lez rfl, fin _⟩⟩
  refine ⟨Or.inl ⟨_, rfl, ⟨trivial, isC (fun h => ?_) fun h => ⟨cmulL (by decide) (by decide), rest _⟩⟩⟩⟩
  have h' : (k : Int) < (ns.map D.int).length := of_decide_eq_true h
  rw [List.length_map] at h'
  have hk : k < ns.length := by omega
  exact Or.inl ⟨_, (k : Int), .int ns[k], rfl, rfl, atI_nat (by rw [List.getElem?_map, List.getElem?_eq_getElem hk]; rfl), rest _⟩
def sp_cup_sip (W : Addr) : DSp := fun ds S Q E => ∃ (p : Addr) (a b c : Int) (m : Int), ds = [.obj p, .int m] ∧ S p = some (pan3 a b c) ∧ 0 < m ∧ m < 1073741824 ∧ ∀ r a' b' c' : Int, 0 ≤ r → r < m → Q (.int r) (S.set p (pan3 a' b' c'))
def w_cup_sip (W : Addr) : WS := (wSeq (wAsg (wO oAdd (wO oIx (wV 0) (wC (.int 2))) (wC (.int 1))) (gSubD (wV 0) (wC (.int 2)) sSub))
    (wSeq (wAsg (wCall cInt (wCons (wO oIx (wV 0) (wC (.int 1))) wNil)) (gV 2))
    (wSeq (wAsg (wO oMod (wCall cInt (wCons (wO oAdd (wO oAdd (wO oMul (wV 2) (wO oAdd (wO oMod (wCall cInt (wCons (wV 2) wNil)) (wC (.int 15013))) (wC (.int 29009)))) (wO oMul (wC (.int 70019)) (wO oIx (wV 0) (wC (.int 2))))) (wC (.int 31))) wNil)) (wC (.int 2147483137))) (gSubD (wV 0) (wC (.int 1)) sSub))
    (wSeq (wIfS (wB (wO oGt (wO oIx (wV 0) (wC (.int 0))) (wC (.int 0)))) (wSeq (wAsg (wCall cDivmod (wCons (wO oIx (wV 0) (wC (.int 0))) (wCons (wV 1) wNil))) (gT 2 (gC (gSubD (wV 0) (wC (.int 0)) sSub) (gC (gV 3) gN))))
    (wRet (wV 3))) wNext)
    (wRet (wO oMod (wCall cInt (wCons (wO oDiv (wO oIx (wV 0) (wC (.int 1))) (wC (.int 107))) wNil)) (wV 1)))))))
theorem pure_cup_sip (W : Addr) : ∀ ds S Q E, sp_cup_sip W ds S Q E → w_cup_sip W (endsOf Q) (startD ["_law_cup_here", "_law_many", "_law_old", "_law_digit"] ds) S := by
  rintro ds S Q E ⟨p, a, b, c, m, rfl, hp, h0, h1, q⟩
  refine Or.inl ⟨_, 2, .int c, seqX_obj hp, rfl, rfl, p, rfl, Or.inl ⟨_, 2, 2, hp, rfl, rfl, ?_⟩⟩
  refine Or.inl ⟨_, 1, .int b, seqX_obj set_same, rfl, rfl, ?_⟩
  refine ⟨by show (0 : Int) < 15013; decide, cmulR ?_ ?_, ?_⟩
  · have := Int.emod_nonneg b (show (15013 : Int) ≠ 0 by decide)
    show -(2 ^ 64) < b % 15013 + 29009
    omega
  · have := Int.emod_lt_of_pos b (show (0 : Int) < 15013 by decide)
    show b % 15013 + 29009 < 2 ^ 64
    omega
  refine Or.inl ⟨_, 2, .int (c + 1), seqX_obj set_same, rfl, rfl, ?_⟩
  refine ⟨cmulL (by decide) (by decide), by show (0 : Int) < 2147483137; decide, p, rfl, Or.inl ⟨_, 1, 1, set_same, rfl, rfl, ?_⟩⟩
  refine Or.inl ⟨_, 0, .int a, seqX_obj set_same, rfl, rfl, trivial, isC (fun h => ?_) fun h => ?_⟩
  · refine Or.inl ⟨_, 0, .int a, seqX_obj set_same, rfl, rfl, ⟨h0, h1⟩, rfl, p, rfl, Or.inl ⟨_, 0, 0, set_same, rfl, rfl, rfl, ?_⟩⟩
    rw [set_set, set_set]
    exact cl (q (a % m) (a / m) _ (c + 1) (Int.emod_nonneg _ (by omega)) (Int.emod_lt_of_pos _ h0))
  · refine Or.inl ⟨_, 1, _, seqX_obj set_same, rfl, rfl, ⟨by decide, by decide⟩, h0, cl ?_⟩
    rw [set_set]
    exact q _ _ _ _ (Int.emod_nonneg _ (by omega)) (Int.emod_lt_of_pos _ h0)
/-- the items of a list or tuple that the cup at p is not -/
def seqP (S : SO) (p : Addr) : D → Option (List D)
  | .obj q => if q = p then none else objL (S q)
  | d => fz d
theorem seqP_at {S : SO} {p : Addr} {t : D} {xs : List D} {o : DO} (h : seqP S p t = some xs) : seqX S t = some xs ∧ seqX (S.set p o) t = some xs := by
  cases t with
  | obj q =>
    have h' : (if q = p then none else objL (S q)) = some xs := h
    by_cases e : q = p
    · rw [if_pos e] at h'
      cases h'
    · rw [if_neg e] at h'
      refine ⟨h', ?_⟩
      show objL ((S.set p o) q) = _
      rw [set_ne e]
      exact h'
  | non => cases h
  | bl _ => cases h
  | int _ => cases h
  | str _ => cases h
  | ty _ => cases h
  | dic _ _ => cases h
  | ins _ _ => cases h
  | _ => exact ⟨h, h⟩
def sp_cup_of (W : Addr) : DSp := fun ds S Q E => ∃ (p : Addr) (a b c : Int) (t : D) (xs : List D), ds = [.obj p, t] ∧ S p = some (pan3 a b c) ∧ seqP S p t = some xs ∧ xs ≠ [] ∧ xs.length ≤ 1000000 ∧ ∀ x ∈ xs, ∀ a' b' c' : Int, Q x (S.set p (pan3 a' b' c'))
def w_cup_of (W : Addr) : WS := (wRet (wO oIx (wV 1) (wFn (sp_cup_sip W) [] (wCons (wV 0) (wCons (wCall cLen (wCons (wV 1) wNil)) wNil)))))
theorem pure_cup_of (W : Addr) : ∀ ds S Q E, sp_cup_of W ds S Q E → w_cup_of W (endsOf Q) (startD ["_law_cup_here", "_law_things"] ds) S := by
  rintro ds S Q E ⟨p, a, b, c, t, xs, rfl, hp, ht, hne, hl, q⟩
  have hpos := List.length_pos_iff.mpr hne
  refine len_seq (seqP_at (o := pan3 0 0 0) ht).1 ⟨p, a, b, c, _, rfl, hp, by omega, by omega, fun r a' b' c' h0 h1 => ?_⟩
  have hr : r.toNat < xs.length := by omega
  refine Or.inl ⟨xs, r, xs[r.toNat], (seqP_at ht).2, rfl, ?_, cl (q _ (List.getElem_mem hr) _ _ _)⟩
  have e := atI_nat (List.getElem?_eq_getElem hr)
  rwa [Int.toNat_of_nonneg h0] at e
end L2.DL

namespace L2.DL
open PySem PySem.Spec PyProof.Rows
/-! ### _law_folk: names -/
def MENU : List Str := ["a", "b", "c", "d", "places", "x", "abcdefgh", "ab", "ba", "put", "e"]
def menuAt (n : Nat) : Str := MENU.getD n Str.empty
theorem menuAt_get {n : Nat} (h : n < 11) : MENU[n]? = some (menuAt n) := by
  unfold menuAt
  rw [List.getD_eq_getElem?_getD, List.getElem?_eq_getElem (show n < MENU.length from h)]
  rfl
theorem menu_nd : MENU.Nodup := by decide +kernel
theorem menu_ok : ∀ x ∈ MENU, nameOk x = true := by decide +kernel
theorem menuAt_inj {i j : Nat} (hi : i < 11) (hj : j < 11) (h : menuAt i = menuAt j) : i = j := nodup_ix menu_nd (menuAt_get hi) (h ▸ menuAt_get hj)
def spot11 (s l : Int) (k : Nat) : Nat := ((s + l * k) % 11).toNat
theorem spot11_lt (s l : Int) (k : Nat) : spot11 s l k < 11 := by
  unfold spot11
  have h0 := Int.emod_nonneg (s + l * k) (show (11 : Int) ≠ 0 by decide)
  have h1 := Int.emod_lt_of_pos (s + l * k) (show (0 : Int) < 11 by decide)
  omega
theorem spot11_inj {s l : Int} (h1 : 1 ≤ l) (h2 : l ≤ 10) {i j : Nat} (hi : i < 11) (hj : j < 11) (h : spot11 s l i = spot11 s l j) : i = j := by
  unfold spot11 at h
  have a0 := Int.emod_nonneg (s + l * i) (show (11 : Int) ≠ 0 by decide)
  have b0 := Int.emod_nonneg (s + l * j) (show (11 : Int) ≠ 0 by decide)
  have h3 : (s + l * i) % 11 = (s + l * j) % 11 := by omega
  have hl : l = 1 ∨ l = 2 ∨ l = 3 ∨ l = 4 ∨ l = 5 ∨ l = 6 ∨ l = 7 ∨ l = 8 ∨ l = 9 ∨ l = 10 := by omega
  rcases hl with rfl | rfl | rfl | rfl | rfl | rfl | rfl | rfl | rfl | rfl <;> omega
theorem map_nd {f : Nat → Str} {m : Nat} (h : ∀ i j, i < m → j < m → f i = f j → i = j) : ((List.range m).map f).Nodup := by
  refine List.pairwise_iff_getElem.mpr fun i j hi hj hij => ?_
  rw [List.length_map, List.length_range] at hi hj
  rw [List.getElem_map, List.getElem_map, List.getElem_range, List.getElem_range]
  intro e
  have := h i j hi hj e
  omega
def folkA (s l : Int) (m : Nat) : List Str := (List.range m).map fun k => menuAt (spot11 s l k)
theorem folkA_ok {s l : Int} (h1 : 1 ≤ l) (h2 : l ≤ 10) {m : Nat} (hm : m < 12) : NamesOk (folkA s l m) := by
  refine ⟨fun t ht => ?_, map_nd fun i j hi hj e => spot11_inj h1 h2 (by omega) (by omega) (menuAt_inj (spot11_lt ..) (spot11_lt ..) e)⟩
  obtain ⟨k, _, rfl⟩ := List.mem_map.mp ht
  exact menu_ok _ (List.mem_of_getElem? (menuAt_get (spot11_lt ..)))
def headAt (k : Nat) : Str := if k < 26 then "" else "z"
def folkT (s l : Int) (stem : Str) (k : Nat) : Str := stem ++ headAt k ++ ⟨#[letterAt (spot s l k)]⟩
def folkB (s l : Int) (stem : Str) (m : Nat) : List Str := (List.range m).map (folkT s l stem)
theorem folkT_cps (s l : Int) (stem : Str) (k : Nat) : (folkT s l stem k).cps.toList = stem.cps.toList ++ (if k < 26 then [] else [122]) ++ [letterAt (spot s l k)] := by
  unfold folkT headAt
  by_cases h : k < 26
  · rw [if_pos h, if_pos h]
    show ((stem.cps ++ (Str.ofString "").cps) ++ #[_]).toList = _
    have e : (Str.ofString "").cps = #[] := by decide
    rw [e]
    simp
  · rw [if_neg h, if_neg h]
    show ((stem.cps ++ (Str.ofString "z").cps) ++ #[_]).toList = _
    have e : (Str.ofString "z").cps = #[122] := by decide
    rw [e]
    simp
theorem folkT_ok {s l : Int} {stem : Str} {k : Nat} (h : StemOk stem) : nameOk (folkT s l stem k) = true := by
  have e := folkT_cps s l stem k
  have hl := congrArg List.length e
  rw [Array.length_toList, List.length_append, List.length_append, Array.length_toList, List.length_singleton] at hl
  have h1 : stem.cps.size ≤ 6 := h.1
  have h2 : (if k < 26 then [] else [122] : List Nat).length ≤ 1 := by split <;> simp
  have hlen : (folkT s l stem k).length = (folkT s l stem k).cps.size := rfl
  unfold nameOk
  rw [e, Bool.and_eq_true, Bool.and_eq_true]
  refine ⟨decide_eq_true (by omega), decide_eq_true (by omega), List.all_eq_true.mpr fun c hc => decide_eq_true ?_⟩
  rcases List.mem_append.mp hc with hc | hc
  · rcases List.mem_append.mp hc with hc | hc
    · exact h.2 c hc
    · split at hc
      · cases hc
      · rw [List.mem_singleton] at hc
        rw [hc]
        decide +kernel
  · rw [List.mem_singleton] at hc
    rw [hc]
    exact letterAt_mem (spot_lt ..)
theorem folkB_nd {s l : Int} {stem : Str} {m : Nat} (hl : LeapOk l) (hm : m ≤ 52) : (folkB s l stem m).Nodup := by
  refine map_nd fun i j hi hj e => ?_
  have e2 := congrArg (fun x : Str => x.cps.toList) e
  simp only [folkT_cps, List.append_assoc] at e2
  have e3 := List.append_cancel_left e2
  by_cases h1 : i < 26 <;> by_cases h2 : j < 26
  · rw [if_pos h1, if_pos h2] at e3
    exact spot_inj hl (by omega) (by omega) (letterAt_inj (spot_lt ..) (spot_lt ..) (List.cons.inj e3).1)
  · rw [if_pos h1, if_neg h2] at e3
    exact absurd (congrArg List.length e3) (by simp)
  · rw [if_neg h1, if_pos h2] at e3
    exact absurd (congrArg List.length e3) (by simp)
  · rw [if_neg h1, if_neg h2] at e3
    have e4 := letterAt_inj (spot_lt ..) (spot_lt ..) (List.cons.inj (List.cons.inj e3).2).1
    have sh : ∀ k : Nat, 26 ≤ k → spot s l k = spot s l (k - 26) := fun k hk => by
      unfold spot
      have e : s + l * ((k - 26 : Nat) : Int) = (s + l * (k : Int)) + 26 * (-l) := by
        rw [Int.ofNat_sub hk, Int.mul_sub]
        omega
      rw [e, Int.add_mul_emod_self_left]
    rw [sh i (by omega), sh j (by omega)] at e4
    have := spot_inj hl (i := i - 26) (j := j - 26) (by omega) (by omega) e4
    omega
theorem folkB_ok {s l : Int} {stem : Str} {m : Nat} (h : StemOk stem) (hl : LeapOk l) (hm : m ≤ 52) : NamesOk (folkB s l stem m) := ⟨fun t ht => by
  obtain ⟨k, _, rfl⟩ := List.mem_map.mp ht
  exact folkT_ok h, folkB_nd hl hm⟩
/-! ### the stem -/
def signD (c : Nat) : D := .str ⟨#[c]⟩
theorem join_empty : ∀ ys : List Str, (Str.join "" ys).cps.toList = (ys.map fun y => y.cps.toList).flatten
  | [] => rfl
  | [x] => by
    show x.cps.toList = _
    simp
  | x :: y :: r => by
    have e : (Str.ofString "").cps = #[] := by decide
    show ((x.cps ++ (Str.ofString "").cps) ++ (Str.join "" (y :: r)).cps).toList = _
    rw [e, Array.toList_append, Array.toList_append, join_empty (y :: r)]
    simp
theorem join_signs (cs : List Nat) : (Txt.join "" (cs.map fun c => (⟨#[c]⟩ : Str))).cps.toList = cs := by
  show (Builtin.Str.glued _ _).cps.toList = _
  rw [StrLaws.glued_eq_join, join_empty, List.map_map]
  induction cs with
  | nil => rfl
  | cons c cs ih =>
    show [c] ++ _ = _
    rw [ih]
    rfl
theorem stem_of {cs : List Nat} (h1 : cs.length ≤ 6) (h2 : ∀ c ∈ cs, c ∈ LETTERS.cps.toList) : StemOk (Txt.join "" (cs.map fun c => (⟨#[c]⟩ : Str))) := by
  have e := join_signs cs
  refine ⟨?_, fun c hc => h2 c (by rwa [e] at hc)⟩
  have := congrArg List.length e
  rw [Array.length_toList] at this
  show (Txt.join "" (cs.map fun c => (⟨#[c]⟩ : Str))).cps.size ≤ 6
  omega
end L2.DL

namespace L2.DL
open PySem PySem.Spec PyProof.Rows
def sp_cup_folk (W : Addr) : DSp := fun ds S Q E => ∃ (p : Addr) (a b c : Int) (m : Nat), ds = [.obj p, .int (m : Nat)] ∧ S p = some (pan3 a b c) ∧ m ≤ 52 ∧ ∀ (ts : List Str) (a' b' c' : Int), ts.length = m → NamesOk ts → Q (.tf (plD ts)) (S.set p (pan3 a' b' c'))
def w_folk2 (W : Addr) : WS := (wSeq (wAsg (wTup (wCons (wC (.str "abcdefghijklmnopqrstuvwxyz")) (wCons (wO oAdd (wC (.int 1)) (wO oMul (wC (.int 2)) (wFn (sp_cup_sip W) [] (wCons (wV 0) (wCons (wC (.int 6)) wNil))))) wNil))) (gT 2 (gC (gV 5) (gC (gV 4) gN))))
    (wSeq (wAsg (wJoin (wC (.str "")) (wLcF (wRng1 (wCons (wFn (sp_cup_sip W) [] (wCons (wV 0) (wCons (wC (.int 7)) wNil))) wNil)) (.n 8) wYes (wO oIx (wV 5) (wFn (sp_cup_sip W) [] (wCons (wV 0) (wCons (wC (.int 26)) wNil)))) [8])) (gV 6))
    (wSeq (wAsg (wLst (wCons (wC (.str "")) (wCons (wC (.str "z")) wNil))) (gV 7))
    (wRet (wCall cTupleF (wCons (wLcP (wRng1 (wCons (wV 1) wNil)) (.n 8) wYes (wO oAdd (wO oAdd (wV 6) (wO oIx (wV 7) (wO oDiv (wV 8) (wC (.int 26))))) (wO oIx (wV 5) (wO oMod (wCall cInt (wCons (wO oAdd (wV 2) (wO oMul (wV 4) (wV 8))) wNil)) (wC (.int 26))))) [8]) wNil))))))
def w_cup_folk (W : Addr) : WS := (wSeq (wAsg (wFn (sp_cup_sip W) [] (wCons (wV 0) (wCons (wC (.int 26)) wNil))) (gV 2))
    (wSeq (wIfS (wAnd (wB (wO oEq (wFn (sp_cup_sip W) [] (wCons (wV 0) (wCons (wC (.int 2)) wNil))) (wC (.int 0)))) (wB (wO oLt (wV 1) (wC (.int 12))))) (wSeq (wAsg (wLst (wCons (wC (.str "a")) (wCons (wC (.str "b")) (wCons (wC (.str "c")) (wCons (wC (.str "d")) (wCons (wC (.str "places")) (wCons (wC (.str "x")) (wCons (wC (.str "abcdefgh")) (wCons (wC (.str "ab")) (wCons (wC (.str "ba")) (wCons (wC (.str "put")) (wCons (wC (.str "e")) wNil)))))))))))) (gV 3))
    (wSeq (wAsg (wO oAdd (wC (.int 1)) (wFn (sp_cup_sip W) [] (wCons (wV 0) (wCons (wC (.int 10)) wNil)))) (gV 4))
    (wRet (wCall cTupleF (wCons (wLcP (wRng1 (wCons (wV 1) wNil)) (.n 8) wYes (wO oIx (wV 3) (wO oMod (wCall cInt (wCons (wO oAdd (wV 2) (wO oMul (wV 4) (wV 8))) wNil)) (wC (.int 11)))) [8]) wNil))))) wNext)
    (wSeq (wAsg (wTup (wCons (wC (.str "abcdefghijklmnopqrstuvwxyz")) (wCons (wO oAdd (wC (.int 1)) (wO oMul (wC (.int 2)) (wFn (sp_cup_sip W) [] (wCons (wV 0) (wCons (wC (.int 6)) wNil))))) wNil))) (gT 2 (gC (gV 5) (gC (gV 4) gN))))
    (wSeq (wAsg (wJoin (wC (.str "")) (wLcF (wRng1 (wCons (wFn (sp_cup_sip W) [] (wCons (wV 0) (wCons (wC (.int 7)) wNil))) wNil)) (.n 8) wYes (wO oIx (wV 5) (wFn (sp_cup_sip W) [] (wCons (wV 0) (wCons (wC (.int 26)) wNil)))) [8])) (gV 6))
    (wSeq (wAsg (wLst (wCons (wC (.str "")) (wCons (wC (.str "z")) wNil))) (gV 7))
    (wRet (wCall cTupleF (wCons (wLcP (wRng1 (wCons (wV 1) wNil)) (.n 8) wYes (wO oAdd (wO oAdd (wV 6) (wO oIx (wV 7) (wO oDiv (wV 8) (wC (.int 26))))) (wO oIx (wV 5) (wO oMod (wCall cInt (wCons (wO oAdd (wV 2) (wO oMul (wV 4) (wV 8))) wNil)) (wC (.int 26))))) [8]) wNil))))))))
theorem upYesT {sd : SD} {S : SO} {Q : Bool → SO → Prop} (h : Q true S) : upT wYes sd S Q := ⟨fun b S2 => b = true ∧ S2 = S, ⟨rfl, rfl⟩, fun b S2 ⟨e1, e2⟩ => by rw [e1, e2]; exact h⟩
theorem range_map {f : D → D} {g : Nat → D} {m : Nat} (h : ∀ k, k < m → f (.int (0 + (k : Nat))) = g k) : (rangeD 0 (m : Nat)).map f = (List.range m).map g := by
  unfold rangeD
  rw [List.map_map, show ((m : Int) - 0).toNat = m by omega]
  exact List.map_congr_left fun k hk => h k (List.mem_range.mp hk)
theorem rangeD_mem {m : Nat} {d : D} (h : d ∈ rangeD 0 (m : Nat)) : ∃ k, k < m ∧ d = .int (0 + (k : Nat)) := by
  unfold rangeD at h
  obtain ⟨k, hk, rfl⟩ := List.mem_map.mp h
  have := List.mem_range.mp hk
  exact ⟨k, by omega, rfl⟩
theorem rangeD_length {m : Nat} : (rangeD 0 (m : Nat)).length = m := by rw [rangeD_len]; omega
theorem pure_folk2 (W : Addr) {S : SO} {Q : KD} {p : Addr} {a b c s : Int} {m : Nat} (hp : S p = some (pan3 a b c)) (hm : m ≤ 52) (q : ∀ (ts : List Str) (a' b' c' : Int), ts.length = m → NamesOk ts → Q (.tf (plD ts)) (S.set p (pan3 a' b' c'))) :
    w_folk2 W (endsOf Q) [some (.obj p), some (.int (m : Nat)), some (.int s), none, none, none, none, none, none] S := by
  refine ⟨p, a, b, c, 6, rfl, hp, by decide, by decide, fun l0 a1 b1 c1 hl0 hl1 => ⟨cmulL (by decide) (by decide), lez rfl, rfl, rfl, ?_⟩⟩
  have hl : LeapOk (1 + 2 * l0) := by
    have : l0 = 0 ∨ l0 = 1 ∨ l0 = 2 ∨ l0 = 3 ∨ l0 = 4 ∨ l0 = 5 := by omega
    unfold LeapOk
    rcases this with rfl | rfl | rfl | rfl | rfl | rfl <;> decide
  generalize 1 + 2 * l0 = l at hl
  have hll : -(2 ^ 64) < l ∧ l < 2 ^ 64 := by
    rcases hl with rfl | rfl | rfl | rfl | rfl | rfl <;> decide
  refine ⟨⟨_, rfl⟩, ⟨⟨p, a1, b1, c1, 7, rfl, set_same, by decide, by decide, fun n a2 b2 c2 hn0 hn1 => ⟨by omega, by omega, fun f hf => ?_⟩⟩⟩⟩
  rw [set_set] at hf ⊢
  obtain ⟨n, rfl⟩ : ∃ k : Nat, n = k := ⟨n.toNat, by omega⟩
  have hpf : p ≠ f := fun e => by rw [← e, set_same] at hf; cases hf
  refine ⟨fun i S' => ∃ a b c cs, S' = (S.set p (pan3 a b c)).set f (.lst (cs.map signD)) ∧ cs.length = i ∧ ∀ x ∈ cs, x ∈ LETTERS.cps.toList, ⟨a2, b2, c2, [], rfl, rfl, fun x hx => by cases hx⟩, fun _ _ _ => trivial, ?_, ?_⟩
  · rintro i d S' hi ⟨a, b, c, cs, rfl, hcs, hin⟩
    obtain ⟨rfl, hi2⟩ := rangeD_get hi
    refine upYesT (ifY rfl (upI ⟨p, a, b, c, 26, rfl, by rw [set_ne hpf, set_same], by decide, by decide, fun r a' b' c' hr0 hr1 => ?_⟩))
    have hr : r.toNat < 26 := by omega
    have e := atI_nat (letterAt_get hr)
    rw [Int.toNat_of_nonneg hr0] at e
    refine Or.inr (Or.inl ⟨LETTERS, r, letterAt r.toNat, rfl, rfl, by decide +kernel, e, cs.map signD, ?_, ?_, ?_⟩)
    · rw [set_comm hpf.symm, set_same]
    · rw [List.length_map]
      omega
    · refine ⟨a', b', c', cs ++ [letterAt r.toNat], ?_, by rw [List.length_append, hcs]; rfl, fun x hx => ?_⟩
      · rw [set_comm hpf.symm, set_set, set_set, List.map_append]
        rfl
      · rcases List.mem_append.mp hx with hx | hx
        · exact hin x hx
        · rw [List.mem_singleton] at hx
          rw [hx]
          exact letterAt_mem hr
  · rintro S' ⟨a3, b3, c3, cs, rfl, hcs, hin⟩
    have hn : cs.length = n := by
      rw [hcs]
      exact rangeD_length
    refine ⟨_, set_same, ?_⟩
    rw [del_set (by rw [set_ne hpf.symm]; rw [set_ne hpf.symm] at hf; exact hf)]
    have hstem := stem_of (cs := cs) (by omega) hin
    refine ⟨"", cs.map fun c => ⟨#[c]⟩, rfl, ?_, ?_, ?_⟩
    · show some _ = some _
      rw [List.map_map]
      rfl
    · rw [List.map_map, List.length_map]
      have e : ((fun x : Str => x.length) ∘ fun c : Nat => (⟨#[c]⟩ : Str)) = fun _ => 1 := rfl
      have z : (Str.ofString "").length = 0 := by decide
      rw [e, z]
      have : ∀ xs : List Nat, (xs.map fun _ => 1).sum = xs.length := fun xs => by
        induction xs with
        | nil => rfl
        | cons x xs ih => rw [List.map_cons, List.sum_cons, ih, List.length_cons]; omega
      rw [this]
      omega
    generalize Txt.join "" (cs.map fun c => (⟨#[c]⟩ : Str)) = stem at hstem
    refine ⟨lez rfl, ?_⟩
    refine lcP_map (rangeD 0 (m : Nat)) (fun d => match d with | .int k => .str (folkT s l stem k.toNat) | _ => .non) ⟨by omega, by omega, rfl, rfl⟩ (by rw [rangeD_length]; omega) (fun d hd S' e => ?_) ?_
    · obtain ⟨k, hk, rfl⟩ := rangeD_mem hd
      have hk26 : ((0 + (k : Nat) : Int) / 26) = (k / 26 : Nat) := by omega
      refine ⟨⟨by decide, by decide⟩, Or.inl ⟨_, _, .str (headAt k), rfl, rfl, ?_, ?_, ?_⟩⟩
      · rw [hk26]
        refine atI_nat ?_
        unfold headAt
        have : k / 26 = 0 ∨ k / 26 = 1 := by omega
        rcases this with h | h
        · rw [if_pos (by omega), h]
          rfl
        · rw [if_neg (by omega), h]
          rfl
      · have h1 : stem.cps.size ≤ 6 := hstem.1
        have h2 : (headAt k).length ≤ 1 := by
          unfold headAt
          split <;> decide
        show stem.cps.size + (headAt k).length ≤ 1000000
        omega
      · have hsp : (s + l * (0 + (k : Nat) : Int)) % 26 = (spot s l k : Nat) := by
          unfold spot
          have := Int.emod_nonneg (s + l * k) (show (26 : Int) ≠ 0 by decide)
          rw [Int.zero_add]
          omega
        refine ⟨cmulL hll.1 hll.2, by show (0 : Int) < 26; decide, Or.inr (Or.inl ⟨LETTERS, _, letterAt (spot s l k), rfl, rfl, by decide +kernel, ?_, ?_, rfl, ?_⟩)⟩
        · show atI LETTERS.cps.toList ((s + l * (0 + (k : Nat) : Int)) % 26) = _
          rw [hsp]
          exact atI_nat (letterAt_get (spot_lt ..))
        · have h1 : stem.cps.size ≤ 6 := hstem.1
          have h2 : (headAt k).cps.size ≤ 1 := by
            unfold headAt
            split <;> decide
          show (stem.cps ++ (headAt k).cps).size + 1 ≤ 1000000
          rw [Array.size_append]
          omega
        · show D.str (folkT s l stem (0 + (k : Nat) : Int).toNat) = _
          rw [Int.zero_add, Int.toNat_natCast]
          rfl
    · rw [range_map (g := fun k => .str (folkT s l stem k)) fun k _ => by simp]
      have e : (List.range m).map (fun k => D.str (folkT s l stem k)) = plD (folkB s l stem m) := by
        unfold folkB plD
        rw [List.map_map]
        rfl
      rw [e]
      refine ⟨_, rfl, cl (q _ _ _ _ ?_ (folkB_ok hstem hl hm))⟩
      unfold folkB
      rw [List.length_map, List.length_range]
theorem pure_cup_folk (W : Addr) : ∀ ds S Q E, sp_cup_folk W ds S Q E → w_cup_folk W (endsOf Q) (startD ["_law_cup_here", "_law_many", "_law_start", "_law_menu", "_law_leap", "_law_letters", "_law_stem", "_law_heads", "_law_k"] ds) S := by
  rintro ds S Q E ⟨p, a, b, c, m, rfl, hp, hm, q⟩
  refine ⟨p, a, b, c, 26, rfl, hp, by decide, by decide, fun s a1 b1 c1 hs0 hs1 => ?_⟩
  have rest : ∀ a b c, w_folk2 W (endsOf Q) [some (.obj p), some (.int (m : Nat)), some (.int s), none, none, none, none, none, none] (S.set p (pan3 a b c)) := fun a b c =>
    pure_folk2 W set_same hm fun ts a' b' c' h1 h2 => by
      rw [set_set]
      exact q ts a' b' c' h1 h2
  refine ⟨p, a1, b1, c1, 2, rfl, set_same, by decide, by decide, fun r a2 b2 c2 _ _ => ?_⟩
  rw [set_set]
  refine isC (fun h => ⟨trivial, isC (fun h2 => ?_) fun h2 => rest _ _ _⟩) fun h => rest _ _ _
  have hm12 : (m : Int) < 12 := of_decide_eq_true h2
  refine ⟨lez rfl, p, a2, b2, c2, 10, rfl, set_same, by decide, by decide, fun l0 a3 b3 c3 hl0 hl1 => ?_⟩
  rw [set_set]
  have g1 : 1 ≤ 1 + l0 := by omega
  have g2 : 1 + l0 ≤ 10 := by omega
  revert g1 g2
  generalize hL : 1 + l0 = l
  intro g1 g2
  refine lcP_map (rangeD 0 (m : Nat)) (fun d => match d with | .int k => .str (menuAt (spot11 s l k.toNat)) | _ => .non) ⟨by omega, by omega, rfl, rfl⟩ (by rw [rangeD_length]; omega) (fun d hd S' e => ?_) ?_
  · obtain ⟨k, hk, rfl⟩ := rangeD_mem hd
    have hsp : (s + (1 + l0) * (0 + (k : Nat) : Int)) % 11 = (spot11 s l k : Nat) := by
      unfold spot11
      have := Int.emod_nonneg (s + l * k) (show (11 : Int) ≠ 0 by decide)
      rw [Int.zero_add, hL]
      omega
    refine ⟨cmulL (by omega) (by omega), by show (0 : Int) < 11; decide, Or.inl ⟨_, _, .str (menuAt (spot11 s l k)), rfl, rfl, ?_, rfl, ?_⟩⟩
    · show atI (plD MENU) ((s + (1 + l0) * (0 + (k : Nat) : Int)) % 11) = _
      rw [hsp]
      refine atI_nat ?_
      show (MENU.map D.str)[_]? = _
      rw [List.getElem?_map, menuAt_get (spot11_lt ..)]
      rfl
    · show D.str (menuAt (spot11 s l (0 + (k : Nat) : Int).toNat)) = _
      rw [Int.zero_add, Int.toNat_natCast]
  · rw [range_map (g := fun k => .str (menuAt (spot11 s l k))) fun k _ => by simp]
    have e : (List.range m).map (fun k => D.str (menuAt (spot11 s l k))) = plD (folkA s l m) := by
      unfold folkA plD
      rw [List.map_map]
      rfl
    rw [e]
    refine ⟨_, rfl, cl (q _ _ _ _ ?_ (folkA_ok g1 g2 (by omega)))⟩
    unfold folkA
    rw [List.length_map, List.length_range]
end L2.DL

namespace L2.DL
open PySem PySem.Spec PyProof.Rows
theorem upYes {sd : SD} {S : SO} {Q : Bool → SO → Prop} (h : Q true S) : upT wYes sd S Q := ⟨fun b S2 => b = true ∧ S2 = S, ⟨rfl, rfl⟩, fun b S2 ⟨e1, e2⟩ => by rw [e1, e2]; exact h⟩
end L2.DL

namespace L2.DL
open PySem PySem.Spec PyProof.Rows
/-! ### equality of rows of texts and of pairs -/
theorem eqvAll_map {α : Type} [DecidableEq α] {f : α → PyData} (h : ∀ a b, PyData.eqv (f a) (f b) = decide (a = b)) : ∀ xs ys : List α, PyData.eqvAll (xs.map f) (ys.map f) = decide (xs = ys)
  | [], [] => by simp [PyData.eqvAll]
  | [], y :: ys => by simp [PyData.eqvAll]
  | x :: xs, [] => by simp [PyData.eqvAll]
  | x :: xs, y :: ys => by
    show PyData.eqvAll (f x :: xs.map f) (f y :: ys.map f) = _
    simp only [PyData.eqvAll]
    rw [h, eqvAll_map h xs ys]
    by_cases h1 : x = y <;> by_cases h2 : xs = ys <;> simp [h1, h2]
theorem eqv_tups {α : Type} [DecidableEq α] {f : α → PyData} (h : ∀ a b, PyData.eqv (f a) (f b) = decide (a = b)) (xs ys : List α) : PyData.eqv (.tuple (xs.map f)) (.tuple (ys.map f)) = decide (xs = ys) := by
  simp only [PyData.eqv]
  exact eqvAll_map h xs ys
theorem shaped_tupP {xs : List (Str × Str)} (h : ∀ x ∈ xs, sOk x.1 ∧ sOk x.2) : SeqAt.shaped (.tuple (xs.map prP)) = true := by
  refine shaped_of ?_ ?_
  · simp only [PyData.canLay0]
    exact canLayAll_map fun x hx => prP_lay (h x hx).1 (h x hx).2
  · simp only [PyData.depth]
    have := depthAll_map (n := 1) (f := prP) (xs := xs) fun x _ => prP_depth x
    omega
theorem pyS_strs (S : SO) (xs : List Str) : pyS S (.tf (plD xs)) = some (.tuple (xs.map PyData.str)) := by
  show (pyDs (plD xs)).map PyData.tuple = _
  rw [pyDs_strs]
  rfl
theorem pyS_prs (S : SO) (xs : List (Str × Str)) : pyS S (.tf (xs.map prD)) = some (.tuple (xs.map prP)) := by
  show (pyDs (xs.map prD)).map PyData.tuple = _
  rw [pyDs_prs]
  rfl
theorem eqStrs {S : SO} {xs ys : List Str} {k : Bool → Prop} (h1 : ∀ x ∈ xs, sOk x) (h2 : ∀ x ∈ ys, sOk x) (h : k (decide (xs = ys))) : eqD (.tf (plD xs)) (.tf (plD ys)) S k := by
  refine ⟨_, _, pyS_strs S xs, pyS_strs S ys, shaped_tupS h1, shaped_tupS h2, ?_⟩
  rw [eqv_tups eqv_str]
  exact h
theorem eqPrs {S : SO} {xs ys : List (Str × Str)} {k : Bool → Prop} (h1 : ∀ x ∈ xs, sOk x.1 ∧ sOk x.2) (h2 : ∀ x ∈ ys, sOk x.1 ∧ sOk x.2) (h : k (decide (xs = ys))) : eqD (.tf (xs.map prD)) (.tf (ys.map prD)) S k := by
  refine ⟨_, _, pyS_prs S xs, pyS_prs S ys, shaped_tupP h1, shaped_tupP h2, ?_⟩
  rw [eqv_tups eqv_pr]
  exact h
theorem WebOk.sok {ps : List Str} {ts : List (Str × Str)} (ok : WebOk ps ts) : ∀ p ∈ ps, sOk p := fun p hp => name_sOk (ok.nm p hp)
theorem WebOk.soks {ps : List Str} {ts : List (Str × Str)} (ok : WebOk ps ts) : ∀ t ∈ ts, sOk t.1 ∧ sOk t.2 := fun t ht => ⟨ok.sok _ (ok.tie t ht).1, ok.sok _ (ok.tie t ht).2.1⟩
theorem WebOk.add {ps : List Str} {ts : List (Str × Str)} (ok : WebOk ps ts) {t : Str × Str} (h1 : t.1 ∈ ps) (h2 : t.2 ∈ ps) (h3 : t.1 ≠ t.2) (h4 : t ∉ ts) (h5 : ts.length < 200) : WebOk ps (ts ++ [t]) := by
  refine ⟨ok.pos, ok.few, ok.nm, ok.nd, by rw [List.length_append, List.length_singleton]; omega, fun u hu => ?_, ?_⟩
  · rcases List.mem_append.mp hu with hu | hu
    · exact ok.tie u hu
    · rw [List.mem_singleton] at hu
      subst hu
      exact ⟨h1, h2, h3⟩
  · rw [List.nodup_append]
    refine ⟨ok.tnd, by simp, fun a ha b hb e => ?_⟩
    rw [List.mem_singleton] at hb
    exact h4 (hb ▸ e ▸ ha)
def woT (ts : List (Str × Str)) (t : Str × Str) : List (Str × Str) := ts.filter fun u => !decide (u = t)
theorem WebOk.wo {ps : List Str} {ts : List (Str × Str)} (ok : WebOk ps ts) (t : Str × Str) : WebOk ps (woT ts t) :=
  ⟨ok.pos, ok.few, ok.nm, ok.nd, Nat.le_trans (List.length_filter_le _ _) ok.tfew, fun u hu => ok.tie u (List.mem_filter.mp hu).1, List.Nodup.sublist List.filter_sublist ok.tnd⟩
/-! ### with_tie, without_tie, turned -/
/-! ### == and != of webs -/
def sp_Web_eq (W : Addr) : DSp := fun ds S Q E => ∃ (ps qs : List Str) (ts us : List (Str × Str)), ds = [webD W ps ts, webD W qs us] ∧ WebOk ps ts ∧ WebOk qs us ∧ Q (.bl (decide (ps = qs ∧ ts = us))) S
def w_Web_eq (W : Addr) : WS := (wRet (wAndV (wCall (cIsi (.obj W) (fOwn (isi_Web W))) (wCons (wV 1) (wCons (wC (.obj W)) wNil))) (wAndV (wO oEq (wFld W "row" (wV 0)) (wFld W "row" (wV 1))) (wO oEq (wFld W "pairs" (wV 0)) (wFld W "pairs" (wV 1))))))
theorem pure_Web_eq (W : Addr) : ∀ ds S Q E, sp_Web_eq W ds S Q E → w_Web_eq W (endsOf Q) (startD ["self", "other"] ds) S := by
  rintro ds S Q E ⟨ps, qs, ts, us, rfl, ok1, ok2, q⟩
  refine ⟨rfl, .inr W, true, rfl, isi_W W, isY rfl ⟨_, _, ⟨rfl, rfl⟩, rfl, _, _, ⟨rfl, rfl⟩, rfl, ?_⟩⟩
  refine eqStrs ok1.sok ok2.sok (isC (fun h => ⟨_, _, ⟨rfl, rfl⟩, rfl, _, _, ⟨rfl, rfl⟩, rfl, eqPrs ok1.soks ok2.soks (cl ?_)⟩) fun h => cl ?_)
  · have e := of_decide_eq_true h
    have z : decide (ts = us) = decide (ps = qs ∧ ts = us) := by simp [e]
    rw [z]
    exact q
  · have e := of_decide_eq_false h
    have z : false = decide (ps = qs ∧ ts = us) := by simp [e]
    rw [z]
    exact q
def sp_Web_ne (W : Addr) : DSp := fun ds S Q E => ∃ (ps qs : List Str) (ts us : List (Str × Str)), ds = [webD W ps ts, webD W qs us] ∧ WebOk ps ts ∧ WebOk qs us ∧ Q (.bl (!decide (ps = qs ∧ ts = us))) S
def w_Web_ne (W : Addr) : WS := (wRet (wNotV (wO (oOwn W (sp_Web_eq W)) (wV 0) (wV 1))))
theorem pure_Web_ne (W : Addr) : ∀ ds S Q E, sp_Web_ne W ds S Q E → w_Web_ne W (endsOf Q) (startD ["self", "other"] ds) S := by
  rintro ds S Q E ⟨ps, qs, ts, us, rfl, ok1, ok2, q⟩
  refine ⟨⟨_, rfl, rfl⟩, ⟨_, rfl, rfl⟩, ps, qs, ts, us, rfl, ok1, ok2, ?_⟩
  exact ⟨cl q⟩
end L2.DL

namespace L2.DL
open PySem PySem.Spec PyProof.Rows
/-! ### _law_ties, _law_net, _law_made -/
structure TieL (ts : List Str) (ls : List (Str × Str)) : Prop where
  tie : ∀ t ∈ ls, t.1 ∈ ts ∧ t.2 ∈ ts ∧ t.1 ≠ t.2
  nd : ls.Nodup
def sp_cup_ties (W : Addr) : DSp := fun ds S Q E => ∃ (p : Addr) (a b c : Int) (ts : List Str) (m : Nat), ds = [.obj p, .tf (plD ts), .int (m : Nat)] ∧ S p = some (pan3 a b c) ∧ NamesOk ts ∧ 0 < ts.length ∧ ts.length ≤ 52 ∧ m ≤ 200 ∧ ∀ (ls : List (Str × Str)) (a' b' c' : Int), TieL ts ls → ls.length ≤ m → Q (.tf (ls.map prD)) (S.set p (pan3 a' b' c'))
def w_cup_ties (W : Addr) : WS := (wSeq (wAsg (wNew wNil) (gV 3))
    (wSeq (wFor (wRng1 (wCons (wFn (sp_cup_sip W) [] (wCons (wV 0) (wCons (wO oAdd (wV 2) (wC (.int 1))) wNil))) wNil)) (gV 4) (wSeq (wAsg (wTup (wCons (wFn (sp_cup_of W) [] (wCons (wV 0) (wCons (wV 1) wNil))) (wCons (wFn (sp_cup_of W) [] (wCons (wV 0) (wCons (wV 1) wNil))) wNil))) (gV 5))
    (wIfS (wAnd (wB (wO oNe (wO oIx (wV 5) (wC (.int 0))) (wO oIx (wV 5) (wC (.int 1))))) (wB (wO oNotIn (wV 5) (wV 3)))) (wDrop (wBM "list" mAppend (wV 3) (wCons (wV 5) wNil))) wNext)))
    (wRet (wCall cTupleF (wCons (wV 3) wNil)))))
theorem NamesOk.sok {ts : List Str} (N : NamesOk ts) : ∀ t ∈ ts, sOk t := fun t ht => name_sOk (N.nm t ht)
theorem pure_cup_ties (W : Addr) : ∀ ds S Q E, sp_cup_ties W ds S Q E → w_cup_ties W (endsOf Q) (startD ["_law_cup_here", "_law_folk_here", "_law_most", "_law_found", "_law_turn", "_law_pair"] ds) S := by
  rintro ds S Q E ⟨p, a, b, c, ts, m, rfl, hp, N, h0, hl, hm, q⟩
  refine ⟨lez rfl, fun f hf => ?_⟩
  have hpf : p ≠ f := fun e => by rw [← e, hp] at hf; cases hf
  have hts : (plD ts).length = ts.length := List.length_map ..
  have hne : plD ts ≠ [] := fun e => by rw [e] at hts; simp at hts; omega
  let St (a b c : Int) (ls : List (Str × Str)) : SO := (S.set p (pan3 a b c)).set f (.lst (ls.map prD))
  have sp0 : ∀ a b c ls, St a b c ls p = some (pan3 a b c) := fun a b c ls => by show ((S.set p _).set f _) p = _; rw [set_ne hpf, set_same]
  have sf0 : ∀ a b c ls, St a b c ls f = some (.lst (ls.map prD)) := fun a b c ls => set_same
  have sp1 : ∀ a b c ls x y z, (St a b c ls).set p (pan3 x y z) = St x y z ls := fun a b c ls x y z => by
    show ((S.set p _).set f _).set p _ = _
    rw [set_comm hpf.symm, set_set]
  have sf1 : ∀ a b c ls l2, (St a b c ls).set f (.lst (l2.map prD)) = St a b c l2 := fun a b c ls l2 => set_set
  have e0 : ∀ x y z, (S.set f (.lst [])).set p (pan3 x y z) = St x y z [] := fun x y z => by
    show _ = (S.set p _).set f _
    rw [set_comm hpf.symm]
    rfl
  refine ⟨⟨p, a, b, c, _, rfl, by rw [set_ne hpf]; exact hp, by omega, by omega, fun r a1 b1 c1 hr0 hr1 => ⟨by omega, by omega, ?_⟩⟩⟩
  rw [e0]
  refine ⟨fun i sd S' => ∃ a b c ls c4 c5, S' = St a b c ls ∧ sd = [some (.obj p), some (.tf (plD ts)), some (.int (m : Nat)), some (.obj f), c4, c5] ∧ TieL ts ls ∧ ls.length ≤ i, ⟨a1, b1, c1, [], none, none, rfl, rfl, ⟨by simp, List.nodup_nil⟩, Nat.le_refl _⟩, fun _ _ _ _ => trivial, ?_, ?_⟩
  · rintro i d sd S' hi ⟨a, b, c, ls, c4, c5, rfl, rfl, T, hi3⟩
    obtain ⟨rfl, hi2⟩ := rangeD_get hi
    refine ⟨p, a, b, c, _, plD ts, rfl, sp0 .., rfl, hne, by omega, fun x hx a2 b2 c2 => ?_⟩
    rw [sp1]
    refine ⟨p, a2, b2, c2, _, plD ts, rfl, sp0 .., rfl, hne, by omega, fun y hy a3 b3 c3 => ?_⟩
    rw [sp1]
    obtain ⟨x, hxm, rfl⟩ := List.mem_map.mp hx
    obtain ⟨y, hym, rfl⟩ := List.mem_map.mp hy
    refine ⟨lez rfl, Or.inl ⟨_, 0, .str x, rfl, rfl, rfl, Or.inl ⟨_, 1, .str y, rfl, rfl, rfl, isC (fun h => ?_) fun h => ⟨a3, b3, c3, ls, _, _, rfl, rfl, T, by omega⟩⟩⟩⟩
    have hxy : x ≠ y := fun e => by
      rw [decide_eq_true e] at h
      cases h
    refine Or.inl ⟨_, seqX_obj (sf0 ..), memPr (x := (x, y)) ⟨N.sok x hxm, N.sok y hym⟩ (fun t ht => ⟨N.sok _ (T.tie t ht).1, N.sok _ (T.tie t ht).2.1⟩) (isC (fun h2 => ?_) fun h2 => ⟨a3, b3, c3, ls, _, _, rfl, rfl, T, by omega⟩)⟩
    have hno : (x, y) ∉ ls := fun e => by
      rw [decide_eq_true e] at h2
      cases h2
    refine ⟨Or.inl ⟨rfl, _, sf0 ..⟩, f, ls.map prD, rfl, sf0 .., ?_, a3, b3, c3, ls ++ [(x, y)], some (.int (0 + (i : Nat))), some (prD (x, y)), ?_, rfl, ⟨fun t ht => ?_, ?_⟩, ?_⟩
    · rw [List.length_map]
      omega
    · have e : ls.map prD ++ [D.tup [.str x, .str y]] = (ls ++ [(x, y)]).map prD := by
        rw [List.map_append]
        rfl
      rw [e, sf1]
    · rcases List.mem_append.mp ht with ht | ht
      · exact T.tie t ht
      · rw [List.mem_singleton] at ht
        subst ht
        exact ⟨hxm, hym, hxy⟩
    · rw [List.nodup_append]
      refine ⟨T.nd, by simp, fun s hs u hu e => ?_⟩
      rw [List.mem_singleton] at hu
      subst hu
      exact hno (e ▸ hs)
    · rw [List.length_append, List.length_singleton]
      omega
  · rintro sd S' ⟨a, b, c, ls, c4, c5, rfl, rfl, T, hlen⟩
    have hr : (ItD.items ⟨rangeD 0 r, fun _ => True⟩).length = (r - 0).toNat := rangeD_len
    rw [hr] at hlen
    refine ⟨_, lstX_obj (sf0 ..), .tf (ls.map prD), S.set p (pan3 a b c), Rf.dropS _ ?_, q ls a b c T (by omega)⟩
    rw [set_ne hpf.symm]
    exact hf
abbrev netD (ts : List Str) (ls : List (Str × Str)) : D := .tup [.tf (plD ts), .tf (ls.map prD)]
def sp_cup_net (W : Addr) : DSp := fun ds S Q E => ∃ (p : Addr) (a b c : Int) (m k : Nat), ds = [.obj p, .int (m : Nat), .int (k : Nat)] ∧ S p = some (pan3 a b c) ∧ 0 < m ∧ m ≤ 40 ∧ k ≤ 200 ∧ ∀ (ts : List Str) (ls : List (Str × Str)) (a' b' c' : Int), WebOk ts ls → ts.length ≤ m → ls.length ≤ k → Q (netD ts ls) (S.set p (pan3 a' b' c'))
def w_cup_net (W : Addr) : WS := (wSeq (wAsg (wFn (sp_cup_folk W) [] (wCons (wV 0) (wCons (wO oAdd (wC (.int 1)) (wFn (sp_cup_sip W) [] (wCons (wV 0) (wCons (wV 1) wNil)))) wNil))) (gV 3))
    (wRet (wTup (wCons (wV 3) (wCons (wFn (sp_cup_ties W) [] (wCons (wV 0) (wCons (wV 3) (wCons (wV 2) wNil)))) wNil)))))
theorem pure_cup_net (W : Addr) : ∀ ds S Q E, sp_cup_net W ds S Q E → w_cup_net W (endsOf Q) (startD ["_law_cup_here", "_law_most", "_law_ties_most", "_law_folk_here"] ds) S := by
  rintro ds S Q E ⟨p, a, b, c, m, k, rfl, hp, h0, hm, hk, q⟩
  refine ⟨p, a, b, c, _, rfl, hp, by omega, by omega, fun r a1 b1 c1 hr0 hr1 => ?_⟩
  refine ⟨p, a1, b1, c1, (1 + r).toNat, ?_, set_same, by omega, fun ts a2 b2 c2 hl N => ?_⟩
  · rw [Int.toNat_of_nonneg (by omega)]
    rfl
  refine ⟨p, a2, b2, c2, ts, k, rfl, set_same, N, by omega, by omega, hk, fun ls a3 b3 c3 L hls => ⟨lez rfl, cl ?_⟩⟩
  rw [set_set, set_set]
  exact q ts ls _ _ _ ⟨by omega, by omega, N.nm, N.nd, by omega, L.tie, L.nd⟩ (by omega) hls
def sp_cup_made (W : Addr) : DSp := fun ds S Q E => ∃ (ts : List Str) (ls : List (Str × Str)), ds = [netD ts ls] ∧ WebOk ts ls ∧ Q (webD W ts ls) S
def w_cup_made (W : Addr) : WS := (wRet (wMakeF W (sp_Web_init W) [] (wCons (wO oIx (wV 0) (wC (.int 0))) (wCons (wO oIx (wV 0) (wC (.int 1))) wNil))))
theorem pure_cup_made (W : Addr) : ∀ ds S Q E, sp_cup_made W ds S Q E → w_cup_made W (endsOf Q) (startD ["_law_net_here"] ds) S := by
  rintro ds S Q E ⟨ts, ls, rfl, ok, q⟩
  refine Or.inl ⟨_, 0, .tf (plD ts), rfl, rfl, rfl, Or.inl ⟨_, 1, .tf (ls.map prD), rfl, rfl, rfl, fun p hp => ⟨p, ts, ls, rfl, set_same, ok, rfl, fsD ts ls, set_same, ?_⟩⟩⟩
  rw [set_set, del_set hp]
  exact cl q
end L2.DL

namespace L2.DL
open PySem PySem.Spec PyProof.Rows
/-! ### what repr may show -/
structure ShK (n w : Nat) (p : PyData) : Prop where
  lay : p.canLay0 = true
  dep : p.depth ≤ n
  wei : p.weight ≤ w
  iok : p.intsShort 13 = true
  show_ : p.showable = true
structure ShKs (n w : Nat) (ps : List PyData) : Prop where
  lay : PyData.canLayAll0 ps = true
  dep : PyData.depthAll ps ≤ n
  wei : PyData.weightAll ps ≤ w
  iok : PyData.intsShortAll 13 ps = true
  show_ : PyData.showableAll ps = true
theorem ShK.ok {n w : Nat} {p : PyData} (h : ShK n w p) (hn : n ≤ 64) (hw : w ≤ 1048576) : ShowOk p := by
  refine ⟨?_, h.iok, h.show_⟩
  have h1 := h.dep
  have h2 := h.wei
  unfold PyData.layable0
  rw [h.lay, decide_eq_true (show p.depth ≤ 64 by omega), decide_eq_true (show p.weight ≤ 2 ^ 20 by omega)]
  rfl
theorem ShKs.nil {n w : Nat} : ShKs n w [] := ⟨rfl, by simp [PyData.depthAll], by simp [PyData.weightAll], rfl, rfl⟩
theorem ShKs.cons {n w w' : Nat} {p : PyData} {ps : List PyData} (h : ShK n w p) (hs : ShKs n w' ps) : ShKs n (w + 1 + w') (p :: ps) := by
  refine ⟨?_, ?_, ?_, ?_, ?_⟩
  · simp only [PyData.canLayAll0, h.lay, hs.lay]; rfl
  · simp only [PyData.depthAll]; exact Nat.max_le.mpr ⟨h.dep, hs.dep⟩
  · simp only [PyData.weightAll]; have := h.wei; have := hs.wei; omega
  · simp only [PyData.intsShortAll, h.iok, hs.iok]; rfl
  · simp only [PyData.showableAll, h.show_, hs.show_]; rfl
theorem ShKs.map {α : Type} {f : α → PyData} {n w : Nat} : ∀ {xs : List α} {L : Nat}, (∀ x ∈ xs, ShK n w (f x)) → xs.length ≤ L → ShKs n (L * (w + 1)) (xs.map f)
  | [], L, _, _ => .nil
  | x :: xs, 0, _, h => absurd h (by simp)
  | x :: xs, L + 1, h, hl => by
    have z := ShKs.cons (h x (List.mem_cons_self ..)) (ShKs.map (xs := xs) (L := L) (fun y hy => h y (List.mem_cons_of_mem _ hy)) (by simpa using hl))
    have e : (L + 1) * (w + 1) = w + 1 + L * (w + 1) := by rw [Nat.succ_mul]; omega
    rw [e]
    exact z
theorem ShKs.tup {n w : Nat} {ps : List PyData} (h : ShKs n w ps) : ShK (n + 1) w (.tuple ps) := by
  refine ⟨?_, ?_, ?_, ?_, ?_⟩
  · simp only [PyData.canLay0]; exact h.lay
  · simp only [PyData.depth]; have := h.dep; omega
  · simp only [PyData.weight]; exact h.wei
  · simp only [PyData.intsShort]; exact h.iok
  · simp only [PyData.showable]; exact h.show_
theorem ShKs.lst {n w : Nat} {ps : List PyData} (h : ShKs n w ps) : ShK (n + 1) w (.list ps) := by
  refine ⟨?_, ?_, ?_, ?_, ?_⟩
  · simp only [PyData.canLay0]; exact h.lay
  · simp only [PyData.depth]; have := h.dep; omega
  · simp only [PyData.weight]; exact h.wei
  · simp only [PyData.intsShort]; exact h.iok
  · simp only [PyData.showable]; exact h.show_
theorem ShK.mono {n m w v : Nat} {p : PyData} (h : ShK n w p) (hn : n ≤ m) (hw : w ≤ v) : ShK m v p := ⟨h.lay, Nat.le_trans h.dep hn, Nat.le_trans h.wei hw, h.iok, h.show_⟩
theorem ShK.str {x : Str} {w : Nat} (h : sOk x) (hw : x.length ≤ w) : ShK 0 w (.str x) := ⟨h, by simp [PyData.depth], by simp only [PyData.weight]; exact hw, rfl, rfl⟩
theorem ShK.bool {b : Bool} : ShK 0 0 (.bool b) := ⟨by simp [PyData.canLay0], by simp [PyData.depth], by simp [PyData.weight], rfl, rfl⟩
theorem ShK.name {x : Str} (h : nameOk x = true) : ShK 0 8 (.str x) := .str (name_sOk h) (by have := (name_chars h).2.1; omega)
theorem ShK.names {ts : List Str} (h : ∀ t ∈ ts, nameOk t = true) {L : Nat} (hl : ts.length ≤ L) : ShK 1 (L * 9) (.tuple (ts.map PyData.str)) := (ShKs.map (n := 0) (w := 8) (fun x hx => .name (h x hx)) hl).tup
theorem ShK.pair {t : Str × Str} (h1 : nameOk t.1 = true) (h2 : nameOk t.2 = true) : ShK 1 18 (prP t) := (ShKs.cons (.name h1) (.cons (.name h2) (.nil (w := 0)))).tup
theorem ShK.pairs {ls : List (Str × Str)} (h : ∀ t ∈ ls, nameOk t.1 = true ∧ nameOk t.2 = true) {L : Nat} (hl : ls.length ≤ L) : ShK 2 (L * 19) (.tuple (ls.map prP)) := (ShKs.map (n := 1) (w := 18) (fun x hx => .pair (h x hx).1 (h x hx).2) hl).tup
theorem WebOk.nms {ps : List Str} {ts : List (Str × Str)} (ok : WebOk ps ts) : ∀ t ∈ ts, nameOk t.1 = true ∧ nameOk t.2 = true := fun t ht => ⟨ok.nm _ (ok.tie t ht).1, ok.nm _ (ok.tie t ht).2.1⟩
end L2.DL

namespace L2.DL
open PySem PySem.Spec PyProof.Rows
/-! ### k07: turned -/
end L2.DL

namespace L2.DL
open PySem PySem.Spec PyProof.Rows
/-! ### law, as most laws of the family have it -/
def RightSp (right : DSp) : Prop := ∀ (p : Addr) (a b c : Int) (S : SO) (Q : KD), S p = some (pan3 a b c) → (∀ a' b' c', Q (.bl true) (S.set p (pan3 a' b' c'))) → right [.obj p] S Q NoE
end L2.DL

namespace L2.DL
open PySem PySem.Spec PyProof.Rows
end L2.DL

namespace L2.DL
open PySem PySem.Spec PyProof.Rows
/-! ### roads and partings, good ones -/
def sp_Web_len (W : Addr) : DSp := fun ds S Q E => ∃ (ps : List Str) (ts : List (Str × Str)), ds = [webD W ps ts] ∧ ps.length ≤ 1000 ∧ Q (.int (ps.length : Nat)) S
def w_Web_len (W : Addr) : WS := (wRet (wCall cLen (wCons (wFld W "row" (wV 0)) wNil)))
theorem pure_Web_len (W : Addr) : ∀ ds S Q E, sp_Web_len W ds S Q E → w_Web_len W (endsOf Q) (startD ["self"] ds) S := by
  rintro ds S Q E ⟨ps, ts, rfl, hl, q⟩
  refine ⟨_, _, ⟨rfl, rfl⟩, rfl, ⟨Or.inl ⟨_, rfl, cl ?_⟩⟩⟩
  rw [List.length_map]
  exact q
structure RoadOk (ps : List Str) (ts : List (Str × Str)) (r : List Str) : Prop where
  ne : r ≠ []
  nd : r.Nodup
  sub : ∀ x ∈ r, x ∈ ps
  step : ∀ i a b, r[i]? = some a → r[i + 1]? = some b → (a, b) ∈ ts
def TupD (d : D) (xs : List D) : Prop := d = .tf xs ∨ d = .tup xs
theorem TupD.ty {d : D} {xs : List D} (h : TupD d xs) (S : SO) : tyX S d = some (.inl "tuple") := by
  rcases h with rfl | rfl <;> rfl
theorem TupD.seq {d : D} {xs : List D} (h : TupD d xs) (S : SO) : seqX S d = some xs := by
  rcases h with rfl | rfl <;> rfl
theorem RoadOk.len {ps : List Str} {ts : List (Str × Str)} {r : List Str} (h : RoadOk ps ts r) : 1 ≤ r.length ∧ r.length ≤ ps.length := by
  refine ⟨List.length_pos_iff.mpr h.ne, ?_⟩
  have nodup_sub : ∀ {a b : List Str}, a.Nodup → (∀ x ∈ a, x ∈ b) → a.length ≤ b.length := fun {a} => by
    induction a with
    | nil => intro b _ _; exact Nat.zero_le _
    | cons x a ih =>
      intro b h hs
      have h' := List.nodup_cons.mp h
      have h1 := ih (b := b.erase x) h'.2 fun y hy => by
        have hne : y ≠ x := fun e => h'.1 (e ▸ hy)
        exact (List.mem_erase_of_ne hne).mpr (hs y (List.mem_cons_of_mem _ hy))
      have hx := hs x (List.mem_cons_self ..)
      rw [List.length_erase_of_mem hx] at h1
      have := List.length_pos_of_mem hx
      rw [List.length_cons]
      omega
  exact nodup_sub h.nd h.sub
def sp_is_road_of (W : Addr) : DSp := fun ds S Q E => ∃ (ps : List Str) (ts : List (Str × Str)) (d : D) (r : List Str), ds = [webD W ps ts, d] ∧ WebOk ps ts ∧ TupD d (plD r) ∧ RoadOk ps ts r ∧ Q (.bl true) S
def w_is_road_of (W : Addr) : WS := (wSeq (wIfS (wOr (wNot (wB (wCall (cIsi (.ty "tuple") (fTy "tuple" [])) (wCons (wV 1) (wCons (wC (.ty "tuple")) wNil))))) (wNot (wB (wCh oLe oLe (wC (.int 1)) (wCall cLen (wCons (wV 1) wNil)) (wCall (cLenO W (sp_Web_len W)) (wCons (wV 0) wNil)))))) (wRet (wC (.bl false))) wNext)
    (wSeq (wIfS (wNot (wB (wCall cAll (wCons (wLcP (wSeqI (wV 1)) (.n 2) wYes (wAndV (wCall (cIsi (.ty "str") (fTy "str" [])) (wCons (wV 2) (wCons (wC (.ty "str")) wNil))) (wO oIn (wV 2) (wFld W "row" (wV 0)))) [2]) wNil)))) (wRet (wC (.bl false))) wNext)
    (wSeq (wIfS (wB (wO oLt (wCall cLen (wCons (wDcP false (wSeqI (wV 1)) (.n 2) wYes (wV 2) (wC (.bl true)) [2]) wNil)) (wCall cLen (wCons (wV 1) wNil)))) (wRet (wC (.bl false))) wNext)
    (wRet (wCall cAll (wCons (wLcP (wRng2 (wCons (wC (.int 1)) (wCons (wCall cLen (wCons (wV 1) wNil)) wNil))) (.n 3) wYes (wMeth W "has_tie" (sp_Web_has_tie W) [] (wV 0) (wCons (wO oIx (wV 1) (wO oSub (wV 3) (wC (.int 1)))) (wCons (wO oIx (wV 1) (wV 3)) wNil))) [3]) wNil))))))
theorem seqI_tup {d : D} {xs : List D} (T : TupD d xs) {i : Nat} {sd : SD} {S : SO} {R : ItD → SO → Prop} (h : sd[i]? = some (some d)) (q : R ⟨xs, fun _ => True⟩ S) : wSeqI (wV i) sd S R := by
  unfold wSeqI wV
  rw [h]
  rcases T with rfl | rfl
  · exact q
  · exact q
theorem len_tup {d : D} {xs : List D} (T : TupD d xs) {S : SO} {k : Nat → Prop} (q : k xs.length) : LenD S d k := len_seq (T.seq S) q
theorem names_dict {r : List Str} (h : r.Nodup) {v : D} : dputsL [] (r.map fun x => (D.str x, v)) = r.map fun x => (D.str x, v) := by
  have hk : ((r.map fun x => (D.str x, v)).map (·.1)).Nodup := by
    rw [List.map_map]
    exact nodup_map (fun a b e => by injection e) h
  have := dputsL_nodup (kvs := r.map fun x => (D.str x, v)) (acc := []) (fun p _ => rfl) hk
  simpa using this
theorem pure_is_road_of (W : Addr) : ∀ ds S Q E, sp_is_road_of W ds S Q E → w_is_road_of W (endsOf Q) (startD ["web", "value", "place", "at"] ds) S := by
  rintro ds S Q E ⟨ps, ts, d, r, rfl, ok, T, R, q⟩
  obtain ⟨hr1, hr2⟩ := R.len
  have few := ok.few
  have hlen : (plD r).length = r.length := List.length_map ..
  refine ⟨rfl, _, _, T.ty S, rfl, isY rfl (len_tup T ⟨trivial, isY (decide_eq_true (by omega)) ⟨⟨_, rfl, rfl⟩, ps, ts, rfl, by omega, ps.length, rfl, by omega, trivial, isY (decide_eq_true (by omega)) ?_⟩⟩)⟩
  refine lcP_map (plD r) (fun _ => .bl true) (seqI_tup T rfl ⟨rfl, rfl⟩) (by omega) (fun x hx S' e => ?_) ⟨List.replicate r.length true, ?_, isY ?_ ?_⟩
  · obtain ⟨x, hxm, rfl⟩ := List.mem_map.mp hx
    exact ⟨rfl, _, _, rfl, rfl, isY rfl ⟨_, _, ⟨rfl, rfl⟩, rfl, Or.inl ⟨_, rfl, memStr (ok.sok x (R.sub x hxm)) ok.sok ⟨rfl, by rw [decide_eq_true (R.sub x hxm)]⟩⟩⟩⟩
  · show some _ = some _
    rw [List.map_replicate, List.map_const', hlen]
  · simp
  refine dcP_of (plD r) (fun d => some (d, .bl true)) (seqI_tup T rfl ⟨rfl, rfl⟩) (by omega) (fun x hx S' e => ?_) ?_
  · obtain ⟨x, hxm, rfl⟩ := List.mem_map.mp hx
    exact ⟨rfl, upI ⟨rfl, ⟨_, rfl⟩, upI ⟨rfl, rfl⟩⟩⟩
  have e0 : (plD r).filterMap (fun d => some (d, D.bl true)) = r.map fun x => (D.str x, D.bl true) := by
    rw [List.filterMap_eq_map', plD, List.map_map]
    rfl
  rw [e0, names_dict R.nd]
  refine ⟨Or.inr ⟨false, _, rfl, len_tup T ⟨trivial, isN ?_ ?_⟩⟩⟩
  · rw [List.length_map, hlen]
    exact decide_eq_false (by omega)
  refine lcP_map (rangeD 1 ((plD r).length : Nat)) (fun _ => .bl true) (len_tup T ⟨⟨by decide, by decide, by omega, by omega⟩, rfl, rfl⟩) (by rw [rangeD_len]; omega) (fun x hx S' e => ?_) ⟨List.replicate (rangeD 1 ((plD r).length : Nat)).length true, ?_, cl ?_⟩
  · unfold rangeD at hx
    obtain ⟨k, hk, rfl⟩ := List.mem_map.mp hx
    have hk' := List.mem_range.mp hk
    have hk1 : k < r.length := by omega
    have hk2 : k + 1 < r.length := by omega
    have g1 : (plD r)[k]? = some (.str r[k]) := by
      show (r.map D.str)[k]? = _
      rw [List.getElem?_map, List.getElem?_eq_getElem hk1]
      rfl
    have g2 : (plD r)[k + 1]? = some (.str r[k + 1]) := by
      show (r.map D.str)[k + 1]? = _
      rw [List.getElem?_map, List.getElem?_eq_getElem hk2]
      rfl
    have a1 : atI (plD r) (1 + (k : Nat) - 1 : Int) = some (.str r[k]) := by
      rw [show (1 + (k : Nat) - 1 : Int) = (k : Nat) by omega]
      exact atI_nat g1
    have a2 : atI (plD r) (1 + (k : Nat) : Int) = some (.str r[k + 1]) := by
      rw [show (1 + (k : Nat) : Int) = ((k + 1 : Nat) : Int) by omega]
      exact atI_nat g2
    have hs : (r[k], r[k + 1]) ∈ ts := R.step k _ _ (List.getElem?_eq_getElem hk1) (List.getElem?_eq_getElem hk2)
    exact ⟨⟨_, ⟨rfl, rfl⟩, rfl⟩, trivial, Or.inl ⟨plD r, _, _, T.seq S', rfl, a1, Or.inl ⟨plD r, _, _, T.seq S', rfl, a2, ps, ts, r[k], r[k + 1], rfl, rfl, by rw [decide_eq_true hs]⟩⟩⟩
  · show some _ = some _
    rw [List.map_replicate, List.map_const']
  · have e1 : (List.replicate (rangeD 1 ((plD r).length : Nat)).length true).all id = true := by simp
    rw [e1]
    exact q
end L2.DL

namespace L2.DL
open PySem PySem.Spec PyProof.Rows
inductive Rows : List D → List (List Str) → Prop
  | nil : Rows [] []
  | cons {d : D} {r : List Str} {ds : List D} {rs : List (List Str)} (h : TupD d (plD r)) (t : Rows ds rs) : Rows (d :: ds) (r :: rs)
theorem Rows.len {ds : List D} {rs : List (List Str)} (h : Rows ds rs) : ds.length = rs.length := by
  induction h with
  | nil => rfl
  | cons _ _ ih => rw [List.length_cons, List.length_cons, ih]
theorem Rows.mem {ds : List D} {rs : List (List Str)} (h : Rows ds rs) : ∀ d ∈ ds, ∃ r ∈ rs, TupD d (plD r) := by
  induction h with
  | nil => intro d h; cases h
  | cons h _ ih =>
    intro d hd
    rcases List.mem_cons.mp hd with rfl | hd
    · exact ⟨_, List.mem_cons_self .., h⟩
    · obtain ⟨r, hr, t⟩ := ih d hd
      exact ⟨r, List.mem_cons_of_mem _ hr, t⟩
theorem TupD.fz {d : D} {xs : List D} (h : TupD d xs) : DL.fz d = some xs := by
  rcases h with rfl | rfl <;> rfl
def unD (d : D) : List D := (fz d).getD []
theorem TupD.un {d : D} {xs : List D} (h : TupD d xs) : unD d = xs := by
  unfold unD
  rw [h.fz]
  rfl
theorem Rows.flat {ds : List D} {rs : List (List Str)} (h : Rows ds rs) : ds.flatMap unD = plD rs.flatten := by
  induction h with
  | nil => rfl
  | cons h _ ih =>
    rw [List.flatMap_cons, ih, h.un, List.flatten_cons]
    unfold plD
    rw [List.map_append]
structure PartOk (ps : List Str) (ts : List (Str × Str)) (rs : List (List Str)) : Prop where
  road : ∀ r ∈ rs, RoadOk ps ts r
  nd : rs.flatten.Nodup
  all : rs.flatten.length = ps.length
theorem flat_len {rs : List (List Str)} (h : ∀ r ∈ rs, 1 ≤ r.length) : rs.length ≤ rs.flatten.length := by
  induction rs with
  | nil => exact Nat.le_refl _
  | cons r rs ih =>
    rw [List.flatten_cons, List.length_append, List.length_cons]
    have h1 := h r (List.mem_cons_self ..)
    have h2 := ih fun x hx => h x (List.mem_cons_of_mem _ hx)
    omega
def sp_is_parting_of (W : Addr) : DSp := fun ds S Q E => ∃ (ps : List Str) (ts : List (Str × Str)) (d : D) (xs : List D) (rs : List (List Str)), ds = [webD W ps ts, d] ∧ WebOk ps ts ∧ TupD d xs ∧ Rows xs rs ∧ PartOk ps ts rs ∧ Q (.bl true) S
def w_is_parting_of (W : Addr) : WS := (wSeq (wIfS (wOr (wNot (wB (wCall (cIsi (.ty "tuple") (fTy "tuple" [])) (wCons (wV 1) (wCons (wC (.ty "tuple")) wNil))))) (wNot (wB (wCall cAll (wCons (wLcP (wSeqI (wV 1)) (.n 3) wYes (wFn (sp_is_road_of W) [] (wCons (wV 0) (wCons (wV 3) wNil))) [3]) wNil))))) (wRet (wC (.bl false))) wNext)
    (wSeq (wAsg (wLc2F (wSeqI (wV 1)) (.n 3) wYes (wSeqI (wV 3)) (.n 4) wYes (wV 4) [3, 4] [4]) (gV 2))
    (wRet (wAndV (wO oEq (wCall cLen (wCons (wV 2) wNil)) (wCall (cLenO W (sp_Web_len W)) (wCons (wV 0) wNil))) (wO oEq (wCall cLen (wCons (wDcP false (wSeqI (wV 2)) (.n 4) wYes (wV 4) (wC (.bl true)) [4]) wNil)) (wCall (cLenO W (sp_Web_len W)) (wCons (wV 0) wNil)))))))
theorem pure_is_parting_of (W : Addr) : ∀ ds S Q E, sp_is_parting_of W ds S Q E → w_is_parting_of W (endsOf Q) (startD ["web", "value", "found", "road", "place"] ds) S := by
  rintro ds S Q E ⟨ps, ts, d, xs, rs, rfl, ok, T, RW, P, q⟩
  have few := ok.few
  have hl : xs.length ≤ ps.length := by
    rw [RW.len, ← P.all]
    exact flat_len fun r hr => (P.road r hr).len.1
  refine ⟨rfl, _, _, T.ty S, rfl, isY rfl ?_⟩
  refine lcP_map xs (fun _ => .bl true) (seqI_tup T rfl ⟨rfl, rfl⟩) (by omega) (fun x hx S' e => ?_) ⟨List.replicate xs.length true, ?_, isY ?_ ?_⟩
  · obtain ⟨r, hr, t⟩ := RW.mem x hx
    exact ⟨ps, ts, x, r, rfl, ok, t, P.road r hr, rfl, rfl⟩
  · show some _ = some _
    rw [List.map_replicate, List.map_const']
  · simp
  refine lc2_of xs unD 40 (fun x hx => ?_) (by omega) ?_ (fun x hx S' e => ?_) ?_
  · obtain ⟨r, hr, t⟩ := RW.mem x hx
    rw [t.un]
    show (r.map D.str).length ≤ 40
    rw [List.length_map]
    have := (P.road r hr).len.2
    omega
  · exact seqI_tup T rfl ⟨rfl, rfl⟩
  · obtain ⟨r, hr, t⟩ := RW.mem x hx
    refine ⟨plD r, id, seqI_tup t rfl ⟨rfl, rfl⟩, by rw [t.un, List.map_id], fun y hy S2 e2 => ⟨rfl, rfl⟩⟩
  rw [RW.flat]
  have hfl : (plD rs.flatten).length = ps.length := by
    show (rs.flatten.map D.str).length = _
    rw [List.length_map, P.all]
  refine ⟨Or.inl ⟨_, rfl, ⟨_, rfl, rfl⟩, ps, ts, rfl, by omega, ps.length, rfl, by omega, isY (by rw [hfl]; exact decide_eq_true rfl) ?_⟩⟩
  refine dcP_of (plD rs.flatten) (fun d => some (d, .bl true)) ⟨rfl, rfl⟩ (by omega) (fun x hx S' e => ?_) ?_
  · obtain ⟨x, hxm, rfl⟩ := List.mem_map.mp hx
    exact ⟨rfl, upI ⟨rfl, ⟨_, rfl⟩, upI ⟨rfl, rfl⟩⟩⟩
  have e0 : (plD rs.flatten).filterMap (fun d => some (d, D.bl true)) = rs.flatten.map fun x => (D.str x, D.bl true) := by
    rw [List.filterMap_eq_map', plD, List.map_map]
    rfl
  rw [e0, names_dict P.nd]
  refine ⟨Or.inr ⟨false, _, rfl, ⟨_, rfl, rfl⟩, ps, ts, rfl, by omega, ps.length, rfl, by omega, cl ?_⟩⟩
  rw [List.length_map, P.all, decide_eq_true rfl]
  exact q
def sp_check_parting (W : Addr) : DSp := fun ds S Q E => ∃ (ps : List Str) (ts : List (Str × Str)) (d : D) (xs : List D) (rs : List (List Str)), ds = [webD W ps ts, d] ∧ WebOk ps ts ∧ TupD d xs ∧ Rows xs rs ∧ PartOk ps ts rs ∧ Q .non S
def w_check_parting (W : Addr) : WS := (wIfS (wNot (wB (wFn (sp_is_parting_of W) [] (wCons (wV 0) (wCons (wV 1) wNil))))) wNever wNext)
theorem pure_check_parting (W : Addr) : ∀ ds S Q E, sp_check_parting W ds S Q E → w_check_parting W (endsOf Q) (startD ["web", "value"] ds) S := by
  rintro ds S Q E ⟨ps, ts, d, xs, rs, rfl, ok, T, RW, P, q⟩
  exact ⟨ps, ts, d, xs, rs, rfl, ok, T, RW, P, isY rfl (cl q)⟩
/-! ### singles, lasts -/
def rowsD (rs : List (List Str)) : List D := rs.map fun r => .tf (plD r)
theorem rows_rowsD : ∀ rs : List (List Str), Rows (rowsD rs) rs
  | [] => .nil
  | r :: rs => .cons (.inl rfl) (rows_rowsD rs)
def onesOf (ps : List Str) : List (List Str) := ps.map fun p => [p]
theorem ones_flat : ∀ ps : List Str, (onesOf ps).flatten = ps
  | [] => rfl
  | p :: ps => by
    show [p] ++ (onesOf ps).flatten = _
    rw [ones_flat ps]
    rfl
theorem ones_ok {ps : List Str} {ts : List (Str × Str)} (ok : WebOk ps ts) : PartOk ps ts (onesOf ps) := by
  refine ⟨fun r hr => ?_, by rw [ones_flat]; exact ok.nd, by rw [ones_flat]⟩
  obtain ⟨p, hp, rfl⟩ := List.mem_map.mp hr
  refine ⟨by simp, by simp, fun x hx => by rw [List.mem_singleton] at hx; rw [hx]; exact hp, fun i a b h1 h2 => ?_⟩
  have := (List.getElem?_eq_some_iff.mp h2).1
  simp at this
def sp_singles_of (W : Addr) : DSp := fun ds S Q E => ∃ (ps : List Str) (ts : List (Str × Str)), ds = [webD W ps ts] ∧ WebOk ps ts ∧ Q (.tf (rowsD (onesOf ps))) S
def w_singles_of (W : Addr) : WS := (wRet (wCall cTupleF (wCons (wLcP (wSeqI (wFld W "row" (wV 0))) (.n 1) wYes (wTupF (wCons (wV 1) wNil)) [1]) wNil)))
theorem pure_singles_of (W : Addr) : ∀ ds S Q E, sp_singles_of W ds S Q E → w_singles_of W (endsOf Q) (startD ["web", "place"] ds) S := by
  rintro ds S Q E ⟨ps, ts, rfl, ok, q⟩
  have few := ok.few
  refine lcP_map (plD ps) (fun d => .tf [d]) ⟨_, _, ⟨rfl, rfl⟩, rfl, rfl, rfl⟩ (by show (ps.map D.str).length ≤ _; rw [List.length_map]; omega) (fun d hd S' e => ⟨lez rfl, rfl, rfl⟩) ?_
  have e : (plD ps).map (fun d => D.tf [d]) = rowsD (onesOf ps) := by
    unfold plD rowsD onesOf
    rw [List.map_map, List.map_map]
    rfl
  rw [e]
  exact ⟨_, rfl, cl q⟩
def lastS (r : List Str) : Str := r.getLastD Str.empty
theorem atI_last {α : Type} {xs : List α} {y : α} (h : xs.getLast? = some y) : atI xs (-1) = some y := by
  have hne : xs ≠ [] := fun e => by rw [e] at h; cases h
  have hp := List.length_pos_iff.mpr hne
  have e : ixN xs.length (-1) = some (xs.length - 1) := by
    unfold ixN
    rw [if_neg (by decide), if_pos (by omega)]
    congr 1
    omega
  unfold atI
  rw [e]
  rw [List.getLast?_eq_getElem?] at h
  exact h
end L2.DL

namespace L2.DL
open PySem PySem.Spec PyProof.Rows
theorem last_plD {r : List Str} (h : r ≠ []) : (plD r).getLast? = some (.str (lastS r)) := by
  show (r.map D.str).getLast? = _
  rw [List.getLast?_map]
  unfold lastS
  rw [List.getLastD_eq_getLast?]
  cases e : r.getLast? with
  | none => exact absurd (List.getLast?_eq_none_iff.mp e) h
  | some y => rfl
theorem lastS_mem {r : List Str} (h : r ≠ []) : lastS r ∈ r := by
  unfold lastS
  rw [List.getLastD_eq_getLast?]
  cases e : r.getLast? with
  | none => exact absurd (List.getLast?_eq_none_iff.mp e) h
  | some y => exact List.mem_of_getLast? e
def lastD (d : D) : D := ((unD d).getLast?).getD .non
theorem lastD_of {d : D} {r : List Str} (T : TupD d (plD r)) (h : r ≠ []) : lastD d = .str (lastS r) := by
  unfold lastD
  rw [T.un, last_plD h]
  rfl
theorem Rows.lasts {ds : List D} {rs : List (List Str)} (h : Rows ds rs) (hn : ∀ r ∈ rs, r ≠ []) : ds.map lastD = plD (rs.map lastS) := by
  induction h with
  | nil => rfl
  | cons h _ ih =>
    rw [List.map_cons, ih fun r hr => hn r (List.mem_cons_of_mem _ hr), lastD_of h (hn _ (List.mem_cons_self ..))]
    rfl
/-! ### _law_walk -/
theorem RoadOk.more {ts : List Str} {ls : List (Str × Str)} {r : List Str} (R : RoadOk ts ls r) {x : Str} (h1 : x ∈ ts) (h2 : (lastS r, x) ∈ ls) (h3 : x ∉ r) : RoadOk ts ls (r ++ [x]) := by
  refine ⟨by simp, ?_, fun y hy => ?_, fun i a b ha hb => ?_⟩
  · rw [List.nodup_append]
    refine ⟨R.nd, by simp, fun a ha b hb e => ?_⟩
    rw [List.mem_singleton] at hb
    exact h3 (hb ▸ e ▸ ha)
  · rcases List.mem_append.mp hy with hy | hy
    · exact R.sub y hy
    · rw [List.mem_singleton] at hy
      exact hy ▸ h1
  · have hil := (List.getElem?_eq_some_iff.mp hb).1
    rw [List.length_append, List.length_singleton] at hil
    rw [List.getElem?_append_left (by omega)] at ha
    by_cases hb2 : i + 1 < r.length
    · rw [List.getElem?_append_left hb2] at hb
      exact R.step i a b ha hb
    · have e : i + 1 = r.length := by omega
      rw [e, List.getElem?_append_right (Nat.le_refl _), Nat.sub_self] at hb
      have eb : x = b := Option.some.inj hb
      have ea : lastS r = a := by
        unfold lastS
        rw [List.getLastD_eq_getLast?, List.getLast?_eq_getElem?, show r.length - 1 = i by omega, ha]
        rfl
      rw [← ea, ← eb]
      exact h2
theorem RoadOk.one {ts : List Str} {ls : List (Str × Str)} {x : Str} (h : x ∈ ts) : RoadOk ts ls [x] := by
  refine ⟨by simp, by simp, fun y hy => by rw [List.mem_singleton] at hy; rw [hy]; exact h, fun i a b h1 h2 => ?_⟩
  have := (List.getElem?_eq_some_iff.mp h2).1
  simp at this
end L2.DL

namespace L2.DL
open PySem PySem.Spec PyProof.Rows
/-! ### _law_rows -/
theorem nodup_le : ∀ {a b : List Str}, a.Nodup → (∀ x ∈ a, x ∈ b) → a.length ≤ b.length
  | [], _, _, _ => Nat.zero_le _
  | x :: a, b, h, hs => by
    have h' := List.nodup_cons.mp h
    have h1 := nodup_le (a := a) (b := b.erase x) h'.2 fun y hy => by
      have hne : y ≠ x := fun e => h'.1 (e ▸ hy)
      exact (List.mem_erase_of_ne hne).mpr (hs y (List.mem_cons_of_mem _ hy))
    have hx := hs x (List.mem_cons_self ..)
    rw [List.length_erase_of_mem hx] at h1
    have := List.length_pos_of_mem hx
    rw [List.length_cons]
    omega
def inner (ls : List (Str × Str)) (left : List Str) : List (Str × Str) := ls.filter fun t => decide (t.1 ∈ left) && decide (t.2 ∈ left)
def tupsD (rs : List (List Str)) : List D := rs.map fun r => .tup (plD r)
end L2.DL

namespace L2.DL
open PySem PySem.Spec PyProof.Rows
/-! ### rows turned round -/
/-! what repr shows -/
end L2.DL

namespace L2.DL
open PySem PySem.Spec PyProof.Rows
/-! ### steps for webs -/
instance : InjD prD := ⟨fun _ _ h => prD_inj h⟩
section
variable {W : Addr} {ps : List Str} {ts : List (Str × Str)} {S : SO} {Q : KD} {E : EK} {A : Prop} {a b : Str}
theorem fldRow (h : Q (.tf (plD ps)) S) : FldD W "row" (webD W ps ts) S Q := ⟨_, _, ⟨rfl, rfl⟩, rfl, h⟩
theorem fldPairs (h : Q (.tf (ts.map prD)) S) : FldD W "pairs" (webD W ps ts) S Q := ⟨_, _, ⟨rfl, rfl⟩, rfl, h⟩
theorem fldMarks (h : Q (.dic true (mkD ts)) S) : FldD W "marks" (webD W ps ts) S Q := ⟨_, _, ⟨rfl, rfl⟩, rfl, h⟩
theorem mthTie {m : Str} (h : A) (hm : (fsD ps ts).lookup m = none := by with_unfolding_all rfl) : MthD W m (webD W ps ts) S A := ⟨⟨_, ⟨rfl, rfl⟩, hm⟩, h⟩
theorem hasTie (h : Q (.bl (decide ((a, b) ∈ ts))) S) : sp_Web_has_tie W [webD W ps ts, .str a, .str b] S Q E := ⟨ps, ts, a, b, rfl, h⟩
theorem chkWeb (h : Q .non S) : sp_check_web W [webD W ps ts] S Q E := ⟨ps, ts, rfl, h⟩
theorem lenWeb (hl : ps.length ≤ 1000) (h : Q (.int (ps.length : Nat)) S) : cLenO W (sp_Web_len W) [webD W ps ts] S Q := ⟨⟨_, rfl, rfl⟩, ps, ts, rfl, hl, ps.length, rfl, by omega, h⟩
end
/-! isinstance -/
section
variable {S : SO} {Q : KD} {xs : List D} {x : Str} {i : Int} {b : Bool}
theorem isiTup (h : Q (.bl true) S) : cIsi (.ty "tuple") (fTy "tuple" []) [.tup xs, .ty "tuple"] S Q := ⟨rfl, _, _, rfl, rfl, h⟩
theorem isiTf (h : Q (.bl true) S) : cIsi (.ty "tuple") (fTy "tuple" []) [.tf xs, .ty "tuple"] S Q := ⟨rfl, _, _, rfl, rfl, h⟩
theorem isiStr (h : Q (.bl true) S) : cIsi (.ty "str") (fTy "str" []) [.str x, .ty "str"] S Q := ⟨rfl, _, _, rfl, rfl, h⟩
end
/-! in, equal -/
section
variable {S : SO} {Q : KD} {x : Str} {xs : List Str} {a b : Str} {ls : List (Str × Str)}
theorem inTf (h : Q (.bl (decide (x ∈ xs))) S) (hx : sOk x) (hxs : ∀ y ∈ xs, sOk y) : oIn (.str x) (.tf (plD xs)) S Q := .inl ⟨_, rfl, memStr hx hxs h⟩
theorem inTup (h : Q (.bl (decide (x ∈ xs))) S) (hx : sOk x) (hxs : ∀ y ∈ xs, sOk y) : oIn (.str x) (.tup (plD xs)) S Q := .inl ⟨_, rfl, memStr hx hxs h⟩
theorem inLst (h : Q (.bl (decide (x ∈ xs))) S) (hx : sOk x) (hxs : ∀ y ∈ xs, sOk y) : oIn (.str x) (.lst (plD xs)) S Q := .inl ⟨_, rfl, memStr hx hxs h⟩
theorem ninTf (h : Q (.bl (!decide (x ∈ xs))) S) (hx : sOk x) (hxs : ∀ y ∈ xs, sOk y) : oNotIn (.str x) (.tf (plD xs)) S Q := .inl ⟨_, rfl, memStr hx hxs h⟩
theorem inPrs (h : Q (.bl (decide ((a, b) ∈ ls))) S) (ha : sOk a) (hb : sOk b) (hls : ∀ t ∈ ls, sOk t.1 ∧ sOk t.2) : oIn (.tup [.str a, .str b]) (.tf (ls.map prD)) S Q := .inl ⟨_, rfl, memPr (x := (a, b)) ⟨ha, hb⟩ hls h⟩
end
/-! objects: a cup at p, a list at f -/
section
variable {S : SO} {p f : Addr} {u u' v v' : DO}
end
/-! draws -/
section
variable {W : Addr} {S : SO} {Q : KD} {E : EK} {p : Addr} {a b c : Int}
end
end L2.DL

namespace L2.DL
open PySem PySem.Spec PyProof.Rows
end L2.DL

namespace L2.DL
open PySem PySem.Spec PyProof.Rows
/-! draws of this family, typed -/
end L2.DL

namespace L2.DL
open PySem PySem.Spec PyProof.Rows
/-! ### steps, as mathematics: from a parting to a witness, or to a parting with fewer roads -/
structure PartS (ps : List Str) (ts : List (Str × Str)) (rs : List (List Str)) : Prop where
  road : ∀ r ∈ rs, RoadOk ps ts r
  nd : rs.flatten.Nodup
theorem PartOk.ps {ps : List Str} {ts : List (Str × Str)} {rs : List (List Str)} (h : PartOk ps ts rs) : PartS ps ts rs := ⟨h.road, h.nd⟩
def lasts (rs : List (List Str)) : List Str := rs.map lastS
theorem lstS_app (r : List Str) (x : Str) : lastS (r ++ [x]) = x := by simp [lastS]
theorem lstS_eq {r : List Str} (h : r ≠ []) : r.getLast? = some (lastS r) := by
  unfold lastS
  rw [List.getLastD_eq_getLast?]
  cases e : r.getLast? with
  | none => exact absurd (List.getLast?_eq_none_iff.mp e) h
  | some x => rfl
theorem lst_split {r : List Str} (h : r ≠ []) : r = r.dropLast ++ [lastS r] := by
  have e := lstS_eq h
  have := List.dropLast_concat_getLast h
  rw [List.getLast?_eq_some_getLast h] at e
  injection e with e
  rw [← e]
  exact this.symm
theorem lasts_flat {rs : List (List Str)} (h : ∀ r ∈ rs, r ≠ []) {x : Str} (hx : x ∈ lasts rs) : x ∈ rs.flatten := by
  obtain ⟨r, hr, rfl⟩ := List.mem_map.mp hx
  exact List.mem_flatten.mpr ⟨r, hr, lastS_mem (h r hr)⟩
theorem lasts_nd {rs : List (List Str)} (h : ∀ r ∈ rs, r ≠ []) (nd : rs.flatten.Nodup) : (lasts rs).Nodup := by
  induction rs with
  | nil => exact List.nodup_nil
  | cons r rs ih =>
    rw [List.flatten_cons, List.nodup_append] at nd
    refine List.nodup_cons.mpr ⟨fun hm => ?_, ih (fun x hx => h x (List.mem_cons_of_mem _ hx)) nd.2.1⟩
    exact nd.2.2 _ (lastS_mem (h r (List.mem_cons_self ..))) _ (lasts_flat (fun x hx => h x (List.mem_cons_of_mem _ hx)) hm) rfl
section
variable {ps : List Str} {ts : List (Str × Str)} {rs A B : List (List Str)} {r : List Str} {x y fresh : Str}
theorem PartS.ne (h : PartS ps ts rs) : ∀ r ∈ rs, r ≠ [] := fun r hr => (h.road r hr).ne
theorem flat_mid : (A ++ r :: B).flatten.Perm (r ++ (A ++ B).flatten) := by
  rw [List.flatten_append, List.flatten_cons, List.flatten_append]
  exact (List.perm_append_comm_assoc ..)
/-- a road more at its end -/
theorem RoadOk.snoc (h : RoadOk ps ts r) (hx : fresh ∈ ps) (hn : fresh ∉ r) (ht : (lastS r, fresh) ∈ ts) : RoadOk ps ts (r ++ [fresh]) := by
  refine ⟨by simp, ?_, fun z hz => ?_, fun i a b ha hb => ?_⟩
  · rw [List.nodup_append]
    exact ⟨h.nd, by simp, fun a ha b hb e => hn (by rw [List.mem_singleton] at hb; rw [← hb, ← e]; exact ha)⟩
  · rcases List.mem_append.mp hz with hz | hz
    · exact h.sub z hz
    · rw [List.mem_singleton.mp hz]
      exact hx
  · by_cases hi : i + 1 < r.length
    · rw [List.getElem?_append_left (by omega)] at ha
      rw [List.getElem?_append_left hi] at hb
      exact h.step i a b ha hb
    · have hl : i + 1 < (r ++ [fresh]).length := (List.getElem?_eq_some_iff.mp hb).1
      rw [List.length_append, List.length_singleton] at hl
      have hi2 : i + 1 = r.length := by omega
      rw [List.getElem?_append_left (by omega)] at ha
      rw [List.getElem?_append_right (by omega), hi2, Nat.sub_self] at hb
      have hb : fresh = b := Option.some.inj hb
      subst hb
      have e := lstS_eq h.ne
      rw [List.getLast?_eq_getElem?, show r.length - 1 = i by omega, ha] at e
      injection e with e
      rw [e]
      exact ht
/-- a road without its last place -/
theorem RoadOk.cut (h : RoadOk ps ts (r ++ [fresh])) (hr : r ≠ []) : RoadOk ps ts r := by
  refine ⟨hr, (List.nodup_append.mp h.nd).1, fun z hz => h.sub z (List.mem_append_left _ hz), fun i a b ha hb => ?_⟩
  have l1 := (List.getElem?_eq_some_iff.mp ha).1
  have l2 := (List.getElem?_eq_some_iff.mp hb).1
  exact h.step i a b (by rw [List.getElem?_append_left l1]; exact ha) (by rw [List.getElem?_append_left l2]; exact hb)
theorem RoadOk.tie (h : RoadOk ps ts (r ++ [fresh])) (hr : r ≠ []) : (lastS r, fresh) ∈ ts := by
  have hl : 0 < r.length := List.length_pos_iff.mpr hr
  have e := lstS_eq hr
  rw [List.getLast?_eq_getElem?] at e
  refine h.step (r.length - 1) _ _ (by rw [List.getElem?_append_left (by omega)]; exact e) ?_
  rw [List.getElem?_append_right (by omega), show r.length - 1 + 1 - r.length = 0 by omega]
  rfl
theorem PartS.mid (h : PartS ps ts (A ++ r :: B)) : RoadOk ps ts r ∧ PartS ps ts (A ++ B) ∧ ∀ x ∈ r, x ∉ (A ++ B).flatten := by
  have nd := (flat_mid (A := A) (B := B) (r := r)).nodup_iff.mp h.nd
  rw [List.nodup_append] at nd
  refine ⟨h.road r (by simp), ⟨fun q hq => h.road q ?_, nd.2.1⟩, fun x hx hm => nd.2.2 x hx x hm rfl⟩
  rcases List.mem_append.mp hq with hq | hq
  · exact List.mem_append_left _ hq
  · exact List.mem_append_right _ (List.mem_cons_of_mem _ hq)
theorem PartS.put (hr : RoadOk ps ts r) (h : PartS ps ts (A ++ B)) (hd : ∀ x ∈ r, x ∉ (A ++ B).flatten) : PartS ps ts (A ++ r :: B) := by
  refine ⟨fun q hq => ?_, (flat_mid (A := A) (B := B) (r := r)).nodup_iff.mpr ?_⟩
  · rcases List.mem_append.mp hq with hq | hq
    · exact h.road q (List.mem_append_left _ hq)
    · rcases List.mem_cons.mp hq with rfl | hq
      · exact hr
      · exact h.road q (List.mem_append_right _ hq)
  · rw [List.nodup_append]
    exact ⟨hr.nd, h.nd, fun a ha b hb e => hd a ha (e ▸ hb)⟩
def behindL (rs : List (List Str)) (x fresh : Str) : List (List Str) := rs.map fun r => if lastS r = x then r ++ [fresh] else r
theorem behindL_mid (h : PartS ps ts (A ++ r :: B)) : behindL (A ++ r :: B) (lastS r) fresh = A ++ (r ++ [fresh]) :: B := by
  obtain ⟨hr, hp, hd⟩ := h.mid
  have key : ∀ q ∈ A ++ B, lastS q ≠ lastS r := fun q hq e => hd _ (lastS_mem hr.ne) (List.mem_flatten.mpr ⟨q, hq, e ▸ lastS_mem (hp.ne q hq)⟩)
  have kk : ∀ C : List (List Str), (∀ q ∈ C, q ∈ A ++ B) → (C.map fun q => if lastS q = lastS r then q ++ [fresh] else q) = C := fun C hC => by
    have : (C.map fun q => if lastS q = lastS r then q ++ [fresh] else q) = C.map id := List.map_congr_left fun q hq => by rw [if_neg (key q (hC q hq))]; rfl
    rw [this, List.map_id]
  unfold behindL
  rw [List.map_append, List.map_cons, if_pos rfl, kk A fun q hq => List.mem_append_left _ hq, kk B fun q hq => List.mem_append_right _ hq]
theorem lasts_mid : lasts (A ++ r :: B) = lasts A ++ lastS r :: lasts B := by
  unfold lasts
  rw [List.map_append, List.map_cons]
/-- a fresh place put behind a last one -/
structure Behind (ps : List Str) (ts : List (Str × Str)) (rs : List (List Str)) (x fresh : Str) (rs' : List (List Str)) : Prop where
  part : PartS ps ts rs'
  perm : rs'.flatten.Perm (fresh :: rs.flatten)
  len : rs'.length = rs.length
  las : ∀ y ∈ lasts rs', y = fresh ∨ (y ∈ lasts rs ∧ y ≠ x)
theorem split_last {rs : List (List Str)} (hx : x ∈ lasts rs) : ∃ A r B, rs = A ++ r :: B ∧ lastS r = x := by
  obtain ⟨r, hr, e⟩ := List.mem_map.mp hx
  obtain ⟨A, B, e2⟩ := List.append_of_mem hr
  exact ⟨A, r, B, e2, e⟩
theorem behind_ok (h : PartS ps ts rs) (hx : x ∈ lasts rs) (ht : (x, fresh) ∈ ts) (hf : fresh ∈ ps) (hn : fresh ∉ rs.flatten) : Behind ps ts rs x fresh (behindL rs x fresh) := by
  obtain ⟨A, r, B, rfl, rfl⟩ := split_last hx
  obtain ⟨hr, hp, hd⟩ := h.mid
  have hn2 : fresh ∉ r ++ (A ++ B).flatten := fun hm => hn ((flat_mid (A := A) (B := B) (r := r)).mem_iff.mpr hm)
  have hnr : fresh ∉ r := fun hm => hn2 (List.mem_append_left _ hm)
  rw [behindL_mid h]
  refine ⟨.put (hr.snoc hf hnr ht) hp fun y hy => ?_, ?_, by simp, fun y hy => ?_⟩
  · rcases List.mem_append.mp hy with hy | hy
    · exact hd y hy
    · rw [List.mem_singleton.mp hy]
      exact fun hm => hn2 (List.mem_append_right _ hm)
  · refine flat_mid.trans ?_
    refine List.Perm.trans ?_ (List.Perm.cons fresh flat_mid.symm)
    rw [List.append_assoc]
    exact (List.perm_middle (l₁ := r) (l₂ := (A ++ B).flatten) (a := fresh))
  · have nd := lasts_nd h.ne h.nd
    rw [lasts_mid] at hy nd ⊢
    rw [lstS_app] at hy
    have nd2 := List.nodup_append.mp nd
    rcases List.mem_append.mp hy with hy | hy
    · exact .inr ⟨List.mem_append_left _ hy, fun e => nd2.2.2 y hy (lastS r) (List.mem_cons_self ..) e⟩
    · rcases List.mem_cons.mp hy with hy | hy
      · exact .inl hy
      · exact .inr ⟨List.mem_append_right _ (List.mem_cons_of_mem _ hy), fun e => (List.nodup_cons.mp nd2.2.1).1 (e ▸ hy)⟩
/-- a step to fewer roads -/
structure Stp (ps : List Str) (ts : List (Str × Str)) (rs rs' : List (List Str)) : Prop where
  part : PartS ps ts rs'
  perm : rs'.flatten.Perm rs.flatten
  few : rs'.length < rs.length
  sub : ∀ x ∈ lasts rs', x ∈ lasts rs
structure WitS (ts : List (Str × Str)) (rs : List (List Str)) (w : List Str) : Prop where
  len : w.length = rs.length
  mem : ∀ (i : Nat) (x : Str) (r : List Str), w[i]? = some x → rs[i]? = some r → x ∈ r
  free : ∀ (i j : Nat) (x y : Str), i ≠ j → w[i]? = some x → w[j]? = some y → (x, y) ∉ ts
/-- no two lasts are tied -/
theorem wit_lasts (h : PartS ps ts rs) (hn : ∀ (i j : Nat) (q r : List Str), i ≠ j → rs[i]? = some q → rs[j]? = some r → (lastS q, lastS r) ∉ ts) : WitS ts rs (lasts rs) := by
  have g : ∀ (i : Nat) (x : Str), (lasts rs)[i]? = some x → ∃ r, rs[i]? = some r ∧ lastS r = x := fun i x hx => by
    unfold lasts at hx
    rw [List.getElem?_map] at hx
    exact Option.map_eq_some_iff.mp hx
  refine ⟨List.length_map .., fun i x r hx hr => ?_, fun i j x y hij hx hy => ?_⟩
  · obtain ⟨r', hr', rfl⟩ := g i x hx
    rw [hr] at hr'
    cases hr'
    exact lastS_mem (h.ne r (List.mem_of_getElem? hr))
  · obtain ⟨q, hq, rfl⟩ := g i x hx
    obtain ⟨r, hr, rfl⟩ := g j y hy
    exact hn i j q r hij hq hr
/-- the tied last one is a road alone -/
theorem step_alone (h : PartS ps ts (A ++ [fresh] :: B)) (hx : x ∈ lasts (A ++ B)) (ht : (x, fresh) ∈ ts) : Stp ps ts (A ++ [fresh] :: B) (behindL (A ++ B) x fresh) := by
  obtain ⟨hr, hp, hd⟩ := h.mid
  have b := behind_ok hp hx ht (hr.sub fresh (by simp)) (hd fresh (by simp))
  refine ⟨b.part, b.perm.trans (flat_mid (A := A) (B := B) (r := [fresh])).symm, by rw [b.len]; simp, fun y hy => ?_⟩
  have e : lastS [fresh] = fresh := rfl
  rw [lasts_mid, e]
  rcases b.las y hy with rfl | ⟨hy, _⟩
  · exact List.mem_append_right _ (List.mem_cons_self ..)
  · unfold lasts at hy ⊢
    rw [List.map_append] at hy
    rcases List.mem_append.mp hy with hy | hy
    · exact List.mem_append_left _ hy
    · exact List.mem_append_right _ (List.mem_cons_of_mem _ hy)
theorem PartS.short (h : PartS ps ts (A ++ (r ++ [fresh]) :: B)) (hr : r ≠ []) : PartS ps ts (A ++ r :: B) := by
  obtain ⟨h1, h2, h3⟩ := h.mid
  exact .put (h1.cut hr) h2 fun x hx => h3 x (List.mem_append_left _ hx)
theorem short_perm : (A ++ (r ++ [fresh]) :: B).flatten.Perm (fresh :: (A ++ r :: B).flatten) := by
  refine flat_mid.trans (List.Perm.trans ?_ (List.Perm.cons fresh flat_mid.symm))
  rw [List.append_assoc]
  exact (List.perm_middle (l₁ := r) (l₂ := (A ++ B).flatten) (a := fresh))
theorem wit_up {w : List Str} (h : WitS ts (A ++ r :: B) w) : WitS ts (A ++ (r ++ [fresh]) :: B) w := by
  refine ⟨by rw [h.len]; simp, fun i x q hx hq => ?_, h.free⟩
  by_cases hi : i < A.length
  · exact h.mem i x q hx (by rw [List.getElem?_append_left hi] at hq ⊢; exact hq)
  · rw [List.getElem?_append_right (by omega)] at hq
    cases e : i - A.length with
    | zero =>
      rw [e] at hq
      have hq : r ++ [fresh] = q := Option.some.inj hq
      subst hq
      exact List.mem_append_left _ (h.mem i x r hx (by rw [List.getElem?_append_right (by omega), e]; rfl))
    | succ k =>
      rw [e] at hq
      exact h.mem i x q hx (by rw [List.getElem?_append_right (by omega), e]; exact hq)
def givenL (rs : List (List Str)) (ahead other fresh : Str) : List (List Str) :=
  if ahead ∈ lasts rs then behindL rs ahead fresh else if other ∈ lasts rs then behindL rs other fresh else rs ++ [[fresh]]
theorem step_back {later : List (List Str)} {other : Str} (h : PartS ps ts (A ++ (r ++ [fresh]) :: B)) (hr : r ≠ []) (ho : other ∈ lasts (A ++ B)) (ht : (other, fresh) ∈ ts) (s : Stp ps ts (A ++ r :: B) later) :
    Stp ps ts (A ++ (r ++ [fresh]) :: B) (givenL later (lastS r) other fresh) := by
  obtain ⟨h1, h2, h3⟩ := h.mid
  have hf : fresh ∈ ps := h1.sub fresh (by simp)
  have nd := short_perm.nodup_iff.mp h.nd
  have hn : fresh ∉ later.flatten := fun hm => (List.nodup_cons.mp nd).1 (s.perm.mem_iff.mp hm)
  have pm : ∀ {q : List (List Str)}, q.flatten.Perm (fresh :: later.flatten) → q.flatten.Perm (A ++ (r ++ [fresh]) :: B).flatten := fun {q} e => e.trans ((List.Perm.cons fresh s.perm).trans short_perm.symm)
  have ll : (A ++ (r ++ [fresh]) :: B).length = (A ++ r :: B).length := by simp
  have fm : fresh ∈ lasts (A ++ (r ++ [fresh]) :: B) := by
    rw [lasts_mid, lstS_app]
    exact List.mem_append_right _ (List.mem_cons_self ..)
  have up : ∀ {y : Str}, y ∈ lasts (A ++ r :: B) → y ≠ lastS r → y ∈ lasts (A ++ (r ++ [fresh]) :: B) := fun {y} hy hne => by
    rw [lasts_mid] at hy ⊢
    rcases List.mem_append.mp hy with hy | hy
    · exact List.mem_append_left _ hy
    · rcases List.mem_cons.mp hy with hy | hy
      · exact absurd hy hne
      · exact List.mem_append_right _ (List.mem_cons_of_mem _ hy)
  unfold givenL
  split
  · rename_i ha
    have b := behind_ok s.part ha (h1.tie hr) hf hn
    refine ⟨b.part, pm b.perm, by rw [b.len, ll]; exact s.few, fun y hy => ?_⟩
    rcases b.las y hy with rfl | ⟨hy, hne⟩
    · exact fm
    · exact up (s.sub y hy) hne
  · rename_i ha
    split
    · rename_i hb
      have b := behind_ok s.part hb ht hf hn
      refine ⟨b.part, pm b.perm, by rw [b.len, ll]; exact s.few, fun y hy => ?_⟩
      rcases b.las y hy with rfl | ⟨hy, _⟩
      · exact fm
      · exact up (s.sub y hy) fun e => ha (e ▸ hy)
    · rename_i hb
      have hone : RoadOk ps ts [fresh] := .one hf
      have pt : PartS ps ts (later ++ [fresh] :: []) := .put hone (by rw [List.append_nil]; exact s.part) fun x hx => by
        rw [List.mem_singleton.mp hx, List.append_nil]
        exact hn
      have pf : (later ++ [[fresh]]).flatten.Perm (fresh :: later.flatten) := by
        have z := flat_mid (A := later) (B := []) (r := [fresh])
        rw [List.append_nil] at z
        exact z
      refine ⟨pt, pm pf, ?_, fun y hy => ?_⟩
      · -- later has neither the one ahead nor the other one as a last one
        have n1 := lasts_nd s.part.ne s.part.nd
        have hs : ∀ y ∈ lasts later, y ∈ lasts (A ++ B) := fun y hy => by
          have z := s.sub y hy
          rw [lasts_mid] at z
          unfold lasts
          rw [List.map_append]
          rcases List.mem_append.mp z with z | z
          · exact List.mem_append_left _ z
          · rcases List.mem_cons.mp z with z | z
            · exact absurd (z ▸ hy) ha
            · exact List.mem_append_right _ z
        have n2 : (other :: lasts later).Nodup := List.nodup_cons.mpr ⟨hb, n1⟩
        have sub2 : ∀ y ∈ other :: lasts later, y ∈ lasts (A ++ B) := fun y hy => by
          rcases List.mem_cons.mp hy with rfl | hy
          · exact ho
          · exact hs y hy
        have hle := nodup_le n2 sub2
        unfold lasts at hle
        rw [List.length_cons, List.length_map, List.length_map, List.length_append] at hle
        rw [List.length_append, List.length_append, List.length_cons, List.length_cons, List.length_nil]
        omega
      · have e : lasts (later ++ [[fresh]]) = lasts later ++ [fresh] := by
          unfold lasts
          rw [List.map_append]
          rfl
        rw [e] at hy
        rcases List.mem_append.mp hy with hy | hy
        · exact up (s.sub y hy) fun e => ha (e ▸ hy)
        · rw [List.mem_singleton.mp hy]
          exact fm
end
end L2.DL

/-! DL68: tuple * int, 1 too -/
namespace L2.DL
open PySem PySem.Spec PyProof.Rows
section
variable {X : Cx}
end
end L2.DL

/-! DL69: `is True`, `is False` of truths -/
namespace L2.DL
open PySem PySem.Spec PyProof.Rows
section
variable {X : Cx}
end
end L2.DL

/-! DL70: zip of a tuple and a list -/
namespace L2.DL
open PySem PySem.Spec PyProof.Rows
section
variable {h : Heap} {o0 o1 o2 o3 o4 : Obj}
end
section
variable {prog : Program} {w : World} {A : Around} {E : Value → Shared → Prop} {s : Shared}
end
section
variable {sd : SD} {S : SO} {R : ItD → SO → Prop} {t : WA} {xs ys : List D} {d : D}
end
end L2.DL

/-! DL71: values that read as data (numbers, texts, truths, tuples of these); sorted(list) of such; sorted(list, key = a def of the program) -/
namespace L2.DL
open PySem PySem.Spec PySem.W PySem.Calls PyProof.Rows
mutual
def pyR : D → Option PyData
  | .int i => some (.int i)
  | .str x => some (.str x)
  | .bl b => some (.bool b)
  | .tup ds => (pyRs ds).map PyData.tuple
  | .tf ds => (pyRs ds).map PyData.tuple
  | _ => none
def pyRs : List D → Option (List PyData)
  | [] => some []
  | d :: ds => (pyR d).bind fun x => (pyRs ds).map fun xs => x :: xs
end
section
variable {X : Cx} {pins : List (Addr × Obj)} {σ : St} {H : Hp} {s : Shared} {S : SO}
theorem reads_seq {a : Addr} {vs : List V} {ks : List PyData} (I : Inv X pins σ H s) (hq : SqT X.K H a vs) (h : ∀ its, Vals vs its → ReadsAll s.heap its ks []) : Reads s.heap (.ref a) (.tuple ks) [] := by
  obtain ⟨its, rv, ⟨o, ho, hc, n, hd⟩, _⟩ := I.tuple hq
  exact .tuple ho hc hd (by rw [List.toList_toArray]; exact h its rv)
mutual
theorem rd_reads (I : Inv X pins σ H s) : ∀ (d : D) (v : V) (u : Value) (k : PyData), pyR d = some k → Rel X.K S H d v → RelV v u → Reads s.heap u k []
  | .int i, v, u, k, e, r, rv => by
    obtain rfl : PyData.int i = k := Option.some.inj e
    obtain rfl : v = .int i := r
    obtain ⟨t, rfl⟩ := rv
    exact .int i t
  | .str x, v, u, k, e, r, rv => by
    obtain rfl : PyData.str x = k := Option.some.inj e
    obtain rfl : v = .str x := r
    obtain ⟨t, rfl⟩ := rv
    exact .str x t
  | .bl b, v, u, k, e, r, rv => by
    obtain rfl : PyData.bool b = k := Option.some.inj e
    obtain rfl : v = .bl b := r
    obtain rfl : u = .bool b := rv
    exact .bool b
  | .tup ds, v, u, k, e, r, rv => by
    obtain ⟨ks, e1, rfl⟩ := Option.map_eq_some_iff.mp (show (pyRs ds).map PyData.tuple = some k from e)
    obtain ⟨a, vs, rfl, t, rs⟩ := r
    obtain rfl : u = .ref a := rv
    exact reads_seq I t.sq fun its rv => rds_reads I ds vs its ks e1 rs rv
  | .tf ds, v, u, k, e, r, rv => by
    obtain ⟨ks, e1, rfl⟩ := Option.map_eq_some_iff.mp (show (pyRs ds).map PyData.tuple = some k from e)
    obtain ⟨a, vs, rfl, t, rs⟩ := r
    obtain rfl : u = .ref a := rv
    exact reads_seq I t.sq fun its rv => rds_reads I ds vs its ks e1 rs rv
  | .non, _, _, _, e, _, _ => by cases e
  | .ty _, _, _, _, e, _, _ => by cases e
  | .obj _, _, _, _, e, _, _ => by cases e
  | .lst _, _, _, _, e, _, _ => by cases e
  | .kt _, _, _, _, e, _, _ => by cases e
  | .src _, _, _, _, e, _, _ => by cases e
  | .dic _ _, _, _, _, e, _, _ => by cases e
  | .ins _ _, _, _, _, e, _, _ => by cases e
  | .gh _ _, _, _, _, e, _, _ => by cases e
  | .fd _ _, _, _, _, e, _, _ => by cases e
theorem rds_reads (I : Inv X pins σ H s) : ∀ (ds : List D) (vs : List V) (us : List Value) (ks : List PyData), pyRs ds = some ks → Rels X.K S H ds vs → Vals vs us → ReadsAll s.heap us ks []
  | [], vs, us, ks, e, r, rv => by
    obtain rfl : [] = ks := Option.some.inj e
    obtain rfl : vs = [] := r
    cases rv
    exact .nil
  | d :: ds, vs, us, ks, e, r, rv => by
    obtain ⟨k, e1, e2⟩ := Option.bind_eq_some_iff.mp (show ((pyR d).bind fun x => (pyRs ds).map fun xs => x :: xs) = some ks from e)
    obtain ⟨ks', e3, rfl⟩ := Option.map_eq_some_iff.mp e2
    obtain ⟨v, vr, rfl, r1, r2⟩ := r
    cases rv with
    | cons h1 h2 => exact .cons (as := []) (bs := []) (rd_reads I d v _ k e1 r1 h1) (rds_reads I ds vr _ ks' e3 r2 h2)
end
end
section
variable {X : Cx} {pins : List (Addr × Obj)} {σ : St} {H : Hp} {s : Shared} {S : SO}
end
end L2.DL

/-! DL72: sorted(list, key = a def of the program) -/
namespace L2.DL
open PySem PySem.Spec PySem.W PySem.Calls PyProof.Rows
section
variable {X : Cx} {pins : List (Addr × Obj)} {σ : St} {H : Hp} {s : Shared} {S : SO} {k : Nat} {f : Addr} {fd : FuncData} {ps : List Str} {dsp : DSp} {kd : D → PyData} {ds : List D}
end
end L2.DL

/-! DL73: sorted(set(list of pairs of numbers)); tuples of texts that the top has written -/
namespace L2.DL
open PySem PySem.Spec PyProof.Rows
section
variable {K : PySem.W.Frag} {S : SO} {H : Hp}
end
section
variable {X : Cx}
end
end L2.DL

/-! DL74: == and != of own instances without either (the same object or not); properties of any kind; C(k = v) as an object -/
namespace L2.DL
open PySem PySem.Spec PySem.W PyProof.Rows
section
variable {prog : Program} {w : World} {A : Around} {E : Value → Shared → Prop} {s : Shared} {K : PySem.W.Frag} {x y C : Addr} {ox oy : Obj} {od od' : Option Obj}
/-- a class that has object's own comparisons -/
structure IdC (K : PySem.W.Frag) (C : Addr) : Prop where
  mro : PySem.W.mroIn K C (.type "object") = some true
  eq : PySem.W.findIn K (.ref C) "__eq__" = some (some (.builtin "object.__eq__"))
  ne : PySem.W.findIn K (.ref C) "__ne__" = some (some (.builtin "object.__ne__"))
theorem inst_notup (I : InstAt s.heap x ox C od) : ox.cls ≠ .type "tuple" := by
  rw [I.cls]
  nofun
theorem call_idEq (c : IdC K C) (X : K.In s.heap) (I : InstAt s.heap x ox C od) (J : InstAt s.heap y oy C od') {Q : Value → Shared → Prop} (h1 : x = y → Q (.bool true) s) (h2 : x ≠ y → Q .notImplemented s) : wpAny (model prog w) A (call (.builtin "object.__eq__") [.ref x, .ref y]) Q E s := by
  refine wpAny_call (codeAny_call_builtin F.cmp_object.eq.plain F.cmpEntry_eq (PySem.W.check_slot F.cmpKind_eq F.cmpSplit_eq (I.type.andThen (PySem.W.looks_mroIn X c.mro)) (F.cmpArgs_eq _ _) ?_))
  by_cases e : x = y
  · subst e
    exact objEq_entry_same (h1 rfl)
  · exact objEq_entry_other e I.at_ J.at_ (inst_notup I) (h2 e)
theorem bound_idEq (c : IdC K C) (X : K.In s.heap) (I : InstAt s.heap x ox C od) (J : InstAt s.heap y oy C od') {Q : Option Value → Shared → Prop} (h1 : x = y → Q (some (.bool true)) s) (h2 : x ≠ y → Q (some .notImplemented) s) : wpAny (model prog w) A (callSpecialIfBound? (.ref x) "__eq__" [.ref y]) Q E s :=
  HN.ifBound_objEq X I c.eq (call_idEq c X I J h1 h2)
theorem try_idEq (c : IdC K C) (X : K.In s.heap) (I : InstAt s.heap x ox C od) (J : InstAt s.heap y oy C od') {Q : Option Value → Shared → Prop} (h1 : x = y → Q (some (.bool true)) s) (h2 : x ≠ y → Q none s) : wpAny (model prog w) A (tryCompare (.ref x) "__eq__" (.ref y)) Q E s := by
  simp only [tryCompare]
  exact wpAny_bind (bound_idEq c X I J (fun e => wpAny_pure (h1 e)) fun e => wpAny_pure (h2 e))
theorem bound_ne {args : List Value} {Q : Option Value → Shared → Prop} (c : IdC K C) (X : K.In s.heap) (I : InstAt s.heap x ox C od) (h : wpAny (model prog w) A (call (.builtin "object.__ne__") (.ref x :: args)) (fun v => Q (some v)) E s) : wpAny (model prog w) A (callSpecialIfBound? (.ref x) "__ne__" args) Q E s := by
  have last : wpAny (model prog w) A (call (.builtin "object.__ne__") ([.ref x] ++ args) >>= fun v => pure (some v)) Q E s := wpAny_bind (wpAny_mono h (fun _ _ q => wpAny_pure q) fun _ _ q => q)
  simp only [callSpecialIfBound?, bindSpecialIfBound?]
  refine wpAny_holding (wpAny_bind (wpAny_bind (wpAny_bind (I.type.here ((PySem.W.looks_findIn X c.ne).here (wpAny_bind (wpAny_askSetting (wpAny_ite ?_))))))))
  split
  · exact wpAny_bind (wpAny_of_eq (F.cmp_object.ne.bind _) (wpAny_pure last))
  · exact wpAny_tryCatch (wpAny_bind (wpAny_of_eq (F.cmp_object.ne.bind _) (wpAny_pure last)))
theorem entry_idNe (c : IdC K C) (X : K.In s.heap) (I : InstAt s.heap x ox C od) (J : InstAt s.heap y oy C od') (hu : A.units < cLine) {Q : Fin → Shared → Prop} (h1 : x = y → Q (.done (.ret (.bool false))) s) (h2 : x ≠ y → Q (.done (.ret .notImplemented)) s) : wpAny (model prog w) A (Builtin.«object.__ne__» ⟨[.ref x, .ref y], []⟩) Q E s := by
  unfold Builtin.«object.__ne__»
  by_cases e : x = y
  · subst e
    repeat (first | with_reducible refine wpAny_cRoomFor hu ?_ | with_reducible refine bound_idEq c X I J (fun _ => ?_) (fun z => absurd rfl z) | wp_step)
    exact h1 rfl
  · repeat (first | with_reducible refine wpAny_cRoomFor hu ?_ | with_reducible refine bound_idEq c X I J (fun z => absurd z e) (fun _ => ?_) | wp_step)
    exact h2 e
theorem try_idNe (c : IdC K C) (X : K.In s.heap) (I : InstAt s.heap x ox C od) (J : InstAt s.heap y oy C od') (hu : A.units + 1 < cLine) {Q : Option Value → Shared → Prop} (h1 : x = y → Q (some (.bool false)) s) (h2 : x ≠ y → Q none s) : wpAny (model prog w) A (tryCompare (.ref x) "__ne__" (.ref y)) Q E s := by
  simp only [tryCompare]
  refine wpAny_bind (bound_ne c X I (wpAny_call (codeAny_call_builtin F.cmp_object.ne.plain F.cmpEntry_ne (PySem.W.check_slot F.cmpKind_ne F.cmpSplit_ne (I.type.andThen (PySem.W.looks_mroIn X c.mro)) (F.cmpArgs_ne _ _) (entry_idNe (A := A.in1) c X I J hu (fun e => ?_) fun e => ?_)))))
  · exact wpAny_pure (h1 e)
  · exact wpAny_pure (h2 e)
theorem cmp_idEq (c : IdC K C) (X : K.In s.heap) (I : InstAt s.heap x ox C od) (J : InstAt s.heap y oy C od') (hu : A.units < cLine) {Q : Value → Shared → Prop} (h : Q (.bool (decide (x = y))) s) : wpAny (model prog w) A (compareOp .Eq (.ref x) (.ref y)) Q E s := by
  show wpAny _ _ (richCompare .Eq (.ref x) (.ref y)) _ _ _
  simp only [richCompare, cmpInfo_Eq, oneThing_ref]
  refine wpAny_holding (wpAny_bind (wpAny_cRoomFor hu ?_))
  refine wpAny_bind (I.type.here (wpAny_bind (J.type.here ?_)))
  simp only [bne_self_eq_false, Bool.false_eq_true, if_false]
  refine wpAny_bind (wpAny_pure ?_)
  simp only [Bool.false_eq_true, if_false, Bool.not_false, if_true]
  by_cases e : x = y
  · rw [decide_eq_true e] at h
    refine wpAny_bind (m := tryCompare (.ref x) _ (.ref y)) (try_idEq c X I J (fun _ => ?_) fun z => absurd e z)
    exact wpAny_pure h
  · rw [decide_eq_false e] at h
    refine wpAny_bind (m := tryCompare (.ref x) _ (.ref y)) (try_idEq c X I J (fun z => absurd z e) fun _ => ?_)
    refine wpAny_bind (m := tryCompare (.ref y) _ (.ref x)) (try_idEq c X J I (fun z => absurd z.symm e) fun _ => ?_)
    exact wpAny_bind (wpAny_rule (wpAny_bind (wpAny_isSame_ref_other e I.at_ J.at_ (inst_notup I) (wpAny_pure h))))
theorem cmp_idNe (c : IdC K C) (X : K.In s.heap) (I : InstAt s.heap x ox C od) (J : InstAt s.heap y oy C od') (hu : A.units + 1 < cLine) {Q : Value → Shared → Prop} (h : Q (.bool (!decide (x = y))) s) : wpAny (model prog w) A (compareOp .NotEq (.ref x) (.ref y)) Q E s := by
  show wpAny _ _ (richCompare .NotEq (.ref x) (.ref y)) _ _ _
  simp only [richCompare, cmpInfo_NotEq, oneThing_ref]
  refine wpAny_holding (wpAny_bind (wpAny_cRoomFor (Nat.lt_of_succ_lt hu) ?_))
  refine wpAny_bind (I.type.here (wpAny_bind (J.type.here ?_)))
  simp only [bne_self_eq_false, Bool.false_eq_true, if_false]
  refine wpAny_bind (wpAny_pure ?_)
  simp only [Bool.false_eq_true, if_false, Bool.not_false, if_true]
  by_cases e : x = y
  · rw [decide_eq_true e] at h
    refine wpAny_bind (m := tryCompare (.ref x) _ (.ref y)) (try_idNe c X I J hu (fun _ => ?_) fun z => absurd e z)
    exact wpAny_pure h
  · rw [decide_eq_false e] at h
    refine wpAny_bind (m := tryCompare (.ref x) _ (.ref y)) (try_idNe c X I J hu (fun z => absurd z e) fun _ => ?_)
    refine wpAny_bind (m := tryCompare (.ref y) _ (.ref x)) (try_idNe c X J I hu (fun z => absurd z.symm e) fun _ => ?_)
    exact wpAny_bind (wpAny_rule (wpAny_bind (wpAny_isSame_ref_other e I.at_ J.at_ (inst_notup I) (wpAny_pure h))))
end
section
variable {X : Cx} {C : Addr}
/-- objects of the class at C compared -/
def oIdEq (C : Addr) : WO := fun x y S Q => ∃ a b fs gs, x = .obj a ∧ y = .obj b ∧ S a = some (.ins C fs) ∧ S b = some (.ins C gs) ∧ Q (.bl (decide (a = b))) S
def oIdNe (C : Addr) : WO := fun x y S Q => ∃ a b fs gs, x = .obj a ∧ y = .obj b ∧ S a = some (.ins C fs) ∧ S b = some (.ins C gs) ∧ Q (.bl (!decide (a = b))) S
theorem do_idEq (c : IdC X.K C) (hu : X.A.units + 65 < cLine) : DO2 X (compareOp .Eq) (oIdEq C) := by
  rintro pins s σ H x y v u Q I rx ry ⟨dx, dy, S, Q0, sr, r1, r2, ⟨a, b, fs, gs, rfl, rfl, ha, hb, q⟩, an⟩
  obtain rfl : x = .ref a := r1
  obtain rfl : y = .ref b := r2
  cases (show v = Value.ref a from rx)
  cases (show u = Value.ref b from ry)
  obtain ⟨_, _, hx, _⟩ := sr a _ ha
  obtain ⟨_, _, hy, _⟩ := sr b _ hb
  obtain ⟨mA, O, _⟩ := ins_get I.hok hx
  obtain ⟨od, J, _⟩ := O.look
  obtain ⟨mB, O', _⟩ := ins_get I.hok hy
  obtain ⟨od', J', _⟩ := O'.look
  exact cmp_idEq c I.kIn J J' (by omega) ⟨.bl (decide (a = b)), H, I, rfl, an _ _ _ _ q (Nx.refl _ _) sr rfl⟩
theorem do_idNe (c : IdC X.K C) (hu : X.A.units + 65 < cLine) : DO2 X (compareOp .NotEq) (oIdNe C) := by
  rintro pins s σ H x y v u Q I rx ry ⟨dx, dy, S, Q0, sr, r1, r2, ⟨a, b, fs, gs, rfl, rfl, ha, hb, q⟩, an⟩
  obtain rfl : x = .ref a := r1
  obtain rfl : y = .ref b := r2
  cases (show v = Value.ref a from rx)
  cases (show u = Value.ref b from ry)
  obtain ⟨_, _, hx, _⟩ := sr a _ ha
  obtain ⟨_, _, hy, _⟩ := sr b _ hb
  obtain ⟨mA, O, _⟩ := ins_get I.hok hx
  obtain ⟨od, J, _⟩ := O.look
  obtain ⟨mB, O', _⟩ := ins_get I.hok hy
  obtain ⟨od', J', _⟩ := O'.look
  exact cmp_idNe c I.kIn J J' (by omega) ⟨.bl (!decide (a = b)), H, I, rfl, an _ _ _ _ q (Nx.refl _ _) sr rfl⟩
/-! ### a property whose getter is any def -/
variable {k : Nat} {p g f' : Addr} {f : Str} {fd : FuncData} {ps : List Str} {sp : Sp} {dsp : DSp} {e : Expr} {pos : Pos} {ta : TE} {wo : WE}
theorem getprop_G {pins : List (Addr × Obj)} {σ : St} {H : Hp} {s : Shared} {Q : VK} {b : Bool} {E' : Value → Shared → Prop} {a dx : Addr} {fs : List (Str × V)} (I : Inv X pins σ H s) (ea : H a = some (.ins C dx fs)) (c : Cls X.K C) (hp : PropOf X.K C f p g)
    (F : FnG X.prog X.w X.K X.mg X.base CX0 k g fd ps sp) (hr : Room (k + 1) X.A) (gd : X.A.guards = some []) (hb : Binds X.K fd ps []) (h : sp [.ref a] H Q E0) : wpAny (model X.prog X.w) X.A (getAttr (.ref a) f b) (EP X pins σ Q) E' s := by
  obtain ⟨mA, O, _, _, _, _⟩ := ins_get I.hok ea
  obtain ⟨od, J, _⟩ := O.look
  obtain ⟨rest, hrec⟩ := hp.rec_
  have I1 := I.tok (s.toks + 1)
  have hl : [Value.ref a].length = ps.length := by rw [← F.len _ _ _ _ h] <;> rfl
  have hc : (PySem.W.clsIn X.K C).isSome = true := by
    obtain ⟨cd, hc, _⟩ := PySem.W.any_some c.hd
    rw [hc] <;> rfl
  refine PySem.W.get_bind I.kIn J (PySem.W.plainGet_of (c.get f)).1 (PySem.W.findObj_data hc hp.at_ hp.get hp.tak) (PySem.W.plainGet_of (c.get f)).2 (wpAny_call (PySem.W.prop_get (s := { s with toks := s.toks + 1 }) I.kIn hrec ?_))
  have hb' := hb { s with toks := s.toks + 1 } [.ref a] I1.kIn (by rw [List.append_nil]; exact hl)
  rw [List.append_nil] at hb'
  refine codeAny_mono (F.go X.A.in1 X.stack { s with toks := s.toks + 1 } H ⟨[.ref a], []⟩ [.ref a] [.ref a] Q E0 hr.in1 gd I1.env0.in1 hb' (.cons rfl .nil) h) fun r s' hq => ?_
  cases r with
  | error er => exact False.elim hq
  | ok fl =>
    cases fl with
    | ret u =>
      obtain ⟨v, H', I3, rv, q3⟩ := I1.after hq
      show wpAny _ _ (handedOut u) _ _ _
      rw [PySem.W.handedOut_of (handed_of rv)]
      exact wpAny_pure ⟨v, H', I3, rv, q3⟩
    | next => exact False.elim hq
    | brk => exact False.elim hq
    | cont => exact False.elim hq
def wProp (C : Addr) (dsp : DSp) (wo : WE) : WE := fun sd S Q => wo sd S fun d S1 => (∃ fs, InsD C d S1 fs) ∧ dsp [d] S1 Q NoE
theorem de_propG (he : DE X e wo) (c : Cls X.K C) (hp : PropOf X.K C f p g) (F : FnD X.prog X.w X.K X.mg X.base k g fd ps dsp) (hr : Room (k + 1) X.A) (gd : X.A.guards = some []) (hb : Binds X.K fd ps [])
    (hab : attributeBase e f X.env (eval e X.env) = eval e X.env := by rfl) : DE X (.Attribute e f pos) (wProp C dsp wo) := by
  refine ⟨fun pins s σ H Q I ⟨sd, S, Q0, st, q, an⟩ => ?_⟩
  refine attr_of hab (thn (he.run pins s σ H (fun v H1 => ∃ d S1, (∃ fs, InsD C d S1 fs) ∧ Nx S H S1 H1 ∧ SRel X.K S1 H1 ∧ Rel X.K S1 H1 d v ∧ dsp [d] S1 Q0 NoE) I ⟨sd, S, _, st, q, fun d S1 v H1 q1 n1 s1 r1 => ⟨d, S1, q1.1, n1, s1, r1, q1.2⟩⟩) fun u s1 ⟨x, H1, I1, rx, d, S1, ⟨fs, hi⟩, n1, s1', r1, q1⟩ => ?_)
  obtain ⟨a, dx, l, ex, hH, rf⟩ := hi.at s1' r1
  subst ex
  obtain rfl : u = Value.ref a := rx
  exact getprop_G I1 hH c hp F hr gd hb ⟨[d], S1, Q0, NoE, s1', .one r1, q1, an.nx n1, noE_ans⟩
/-! ### C(k = v), an object -/
end
end L2.DL

/-! DL75: C(k = v) as an object; bool(own instance that has __len__) -/
namespace L2.DL
open PySem PySem.Spec PySem.W PyProof.Rows
section
variable {X : Cx} {k : Nat} {g f C : Addr} {fd : FuncData} {ps ks : List Str} {dsp : DSp}
def wMakeK (C : Addr) (sp : DSp) (n : Nat) (gD : List D → List D → List D) (tk : WA) : WE := fun sd S Q => tk sd S fun zs S1 => zs.length = n ∧ ∀ p, S1 p = none → sp (.obj p :: gD [] zs) (S1.set p (.ins C [])) (fun d S2 => d = .non ∧ Q (.obj p) S2) NoE
theorem de_makeK {kws : List Keyword} {wk : WA} {x : Str} {p pos : Pos} {n : Nat} {g : List Value → List Value → List Value} {gV : List V → List V → List V} {gD : List D → List D → List D} (M : Mk X.K C f) (F : FnD X.prog X.w X.K X.mg X.base k f fd ps dsp) (hr : Room (k + 1) X.A) (gd : X.A.guards = some []) (hm : X.mg x = some (.ref C))
    (hb : KBn X.K fd ps 1 ks (fun us ws => us ++ g [] ws) (fun vs zs => vs ++ gV [] zs)) (hgd : GD gD gV) (hkw : DK X kws wk) (hn : ks.length = n := by rfl) (hg : Gl X x := by rfl) (hall : (backToKw pos (keywordEach kws X.env)).all (·.1.isSome) = true := by rfl) (hks : (backToKw pos (keywordEach kws X.env)).filterMap (·.1) = ks := by rfl)
    (hdb : (x == ("__debug__" : Str)) = false := by decide) (hpl : ((backTo pos (starEach [] X.env)).any (·.1) || (backToKw pos (keywordEach kws X.env)).any (·.1.isNone)) = false := by rfl) :
    DE X (.Call (.Name x p) [] kws pos) (wMakeK C dsp n gD wk) :=
  pe_imp (peG_makeK0 M F hr gd hg hm hb (E := E0) pass0 hkw hall hks hdb hpl) fun σ H Q ⟨sd, S, Q0, st, q, an⟩ => ⟨sd, S, _, st, q, fun xs S1 vs H1 ⟨hl, q1⟩ n1 s1 r1 => ⟨by rw [← r1.length, hl, hn], fun y dx ny nd ne => by
    obtain ⟨n2, s2⟩ := make_srel (C := C) s1 ny nd ne
    refine ⟨.obj y :: gD [] xs, _, _, NoE, s2, ⟨.ref y, _, rfl, rfl, hgd _ _ _ _ _ _ _ rfl (r1.nx n2)⟩, q1 y (s1.free ny), fun d S3 v H3 ⟨e1, q3⟩ n3 s3 r3 => ?_, noE_ans⟩
    subst e1
    exact ⟨r3, an _ _ _ _ q3 (n1.trans (n2.trans n3)) s3 rfl⟩⟩⟩
theorem xMakeK {sd : SD} {S : SO} {Q : KD} {n : Nat} {gD : List D → List D → List D} {tk : WA} (h : tk sd S fun zs S1 => zs.length = n ∧ ∀ p, S1 p = none → dsp (.obj p :: gD [] zs) (S1.set p (.ins C [])) (fun d S2 => d = .non ∧ Q (.obj p) S2) NoE) : wMakeK C dsp n gD tk sd S Q := h
/-- one parameter by keyword -/
def perm1 {α : Type} (a b : List α) : List α := a ++ b
theorem gd_perm1 : GD perm1 perm1 := fun K S H ds vs es us h1 h2 => h1.app h2
theorem bool_call {A : Around} {E : Value → Shared → Prop} {s : Shared} {x : Addr} {ox : Obj} {od : Option Obj} {Q : Value → Shared → Prop} (XK : X.K.In s.heap) (I : PySem.W.InstAt s.heap x ox C od) (hb : PySem.W.findIn X.K (.ref C) "__bool__" = some none)
    (hs : PySem.W.findIn X.K (.ref C) "__len__" = some (some (.ref f))) (hf : PySem.W.isFn X.K (.ref f) = true)
    (h : wpAny (model X.prog X.w) A.in1.in1.in1 (call (.ref f) [.ref x]) (PySem.W.LenBack fun v s' => ∃ n t, v = .int n t ∧ Q (.bool (n != 0)) s') E s) : wpAny (model X.prog X.w) A (call (.type "bool") [.ref x]) Q E s := by
  refine callType_codes (T := "bool") (Bi := Builtin.«object.__init__») (Q₁ := fun r s₁ => ∃ b, r = .bool b ∧ Q r s₁) PySem.F.called_bool (PySem.F.typeCall_bool_1 _) PySem.F.entry_object_init ?_ ?_
  · refine codeAny_of_tree ?_
    show wpAny _ A.in1.in1 (do checkBuiltinCall "bool.__new__" ⟨[.type "bool", .ref x], []⟩; again (.builtin "bool.__new__" ⟨[.type "bool", .ref x], []⟩)) _ _ s
    refine wpAny_bind (wpAny_of_eq (PySem.F.newCall_bool_1 _) (wpAny_pure ⟨plainId_quiet (by decide +kernel) _, codeAny_builtin PySem.F.entry_bool_new ?_⟩))
    rw [Around.under_plainId (by decide +kernel) _]
    unfold Builtin.«bool.__new__»
    have f1 := F.conv_sub_bool
    obtain ⟨hp, g, d, tk, os⟩ := s
    repeat (any_goals (first | assumption | (with_reducible refine truthy_len XK I hb hs hf (wpAny_mono h (fun r s' hr => ?_) fun _ _ y => y)) | wp_step))
    cases r <;> first | exact hr.elim | skip
    obtain ⟨hl, n, t, e, hq⟩ := hr
    refine ⟨hl, n, t, e, ?_⟩
    repeat (any_goals (first | assumption | wp_step))
    exact ⟨_, rfl, hq⟩
  · rintro obj s₁ ⟨b, rfl, hq⟩
    exact ⟨PySem.typeIs_bool _ _, PySem.F.args_object_init_2 _ _, object_init_meets PySem.F.called_bool.init.lookup PySem.F.called_bool.made (by decide) X.prog X.w A.in1 _ s₁ ⟨PySem.typeIs_bool _ _, rfl, hq⟩⟩
def cBoolO (C : Addr) (dsp : DSp) : WL := fun xs S Q => one xs fun x => (∃ fs, InsD C x S fs) ∧ dsp [x] S (fun d S' => ∃ n : Nat, d = .int n ∧ n < 2 ^ 62 ∧ Q (.bl (decide (n ≠ 0))) S') NoE
theorem dc_boolO (hb0 : PySem.W.findIn X.K (.ref C) "__bool__" = some none) (hs : PySem.W.findIn X.K (.ref C) "__len__" = some (some (.ref g))) (hf : PySem.W.isFn X.K (.ref g) = true) (F : FnD X.prog X.w X.K X.mg X.base k g fd ps dsp) (hr : Room (k + 3) X.A) (gd : X.A.guards = some []) (hb : Binds X.K fd ps []) :
    DC X (.type "bool") (cBoolO C dsp) := by
  intro pins s σ H xs us Q I r ⟨ds, S, Q0, sr, rs, q, an⟩
  obtain ⟨x, rfl, ⟨fx, ix⟩, q⟩ := one_of q
  obtain ⟨v, rfl, rv⟩ := rs.v1
  obtain ⟨a, ax, lx, rfl, hx, _⟩ := ix.at sr rv
  obtain ⟨u, rfl, ru⟩ := vals1 r
  cases (show u = Value.ref a from ru)
  obtain ⟨mA, O, _⟩ := ins_get I.hok hx
  obtain ⟨od, J, _⟩ := O.look
  have hr3 : Room k X.A.in1.in1.in1 := (show Room (k + 1) X.A.in1.in1 from (show Room (k + 2) X.A.in1 from Room.in1 hr).in1).in1
  refine bool_call I.kIn J hb0 hs hf ?_
  refine wpAny_mono (run_own (Q := fun v H' => ∃ n : Nat, v = .int n ∧ n < 2 ^ 62 ∧ Q (.bl (decide (n ≠ 0))) H') F hr3 gd hb I.env0.in1.in1.in1 I sr rv q (fun d S' v H' ⟨n, e, hn, q'⟩ n' s' r' => ?_)) (fun w s' z => ?_) fun _ _ x => x
  · subst e
    have ev : v = .int n := r'
    subst ev
    exact ⟨n, rfl, hn, an _ _ _ _ q' n' s' rfl⟩
  · obtain ⟨z', H', I', rz, n, rfl, hn, qz⟩ := z
    obtain ⟨t, rfl⟩ := (show ∃ t, w = Value.int n t from rz)
    refine ⟨⟨by omega, by omega⟩, _, _, rfl, .bl (decide (n ≠ 0)), H', I'.tok _, ?_, qz⟩
    have e : ((n : Int) != 0) = decide (n ≠ 0) := by
      by_cases h0 : n = 0
      · subst h0; rfl
      · simp [h0]
    rw [e]
    rfl
end
end L2.DL

namespace L2.DL
open PySem PySem.Spec PyProof.Rows
/-! ### _law_far -/
theorem nodup_sub_len : ∀ {a b : List Str}, a.Nodup → (∀ x ∈ a, x ∈ b) → a.length ≤ b.length
  | [], _, _, _ => Nat.zero_le _
  | x :: a, b, h, hs => by
    have h' := List.nodup_cons.mp h
    have h1 := nodup_sub_len (a := a) (b := b.erase x) h'.2 fun y hy => by
      have hne : y ≠ x := fun e => h'.1 (e ▸ hy)
      exact (List.mem_erase_of_ne hne).mpr (hs y (List.mem_cons_of_mem _ hy))
    have hx := hs x (List.mem_cons_self ..)
    rw [List.length_erase_of_mem hx] at h1
    have := List.length_pos_of_mem hx
    rw [List.length_cons]
    omega
end L2.DL

namespace L2.DL
local macro_rules | `(tactic| and_intros) => `(tactic| repeat (first | with_reducible refine v0 ?_ | with_reducible refine vS ?_ | with_reducible refine g0 ?_ | with_reducible refine gSu ?_ | with_reducible refine xCons ?_ | with_reducible refine xNil ?_ | with_reducible refine xO ?_ | with_reducible refine xSeq ?_ | with_reducible refine xC ?_ | with_reducible refine xFnC ?_ | with_reducible refine xAsg ?_ | with_reducible refine xCall ?_ | with_reducible refine xIfS ?_ | with_reducible refine xRet ?_ | with_reducible refine xRetN ?_ | with_reducible refine xB ?_ | with_reducible refine xNext ?_ | with_reducible refine gTup ?_ | with_reducible refine gCons ?_ | with_reducible refine gNil ?_ | with_reducible refine xFor ?_ | with_reducible refine iT ?_ | with_reducible refine iF ?_ | with_reducible refine iNT ?_ | with_reducible refine iNF ?_ | with_reducible refine xSeqI ?_ | with_reducible refine xLst ?_ | with_reducible refine xTup ?_ | with_reducible refine xLen ?_ | with_reducible refine xDrop ?_ | with_reducible refine xOr ?_ | with_reducible refine xNot ?_ | with_reducible refine sTup ?_ | with_reducible refine sTf ?_ | with_reducible refine sLst ?_ | with_reducible refine sSrc ?_ | with_reducible refine xBM ?_ | with_reducible refine bmLst ?_ | with_reducible refine bmSrc ?_ | with_reducible refine xSl ?_ | with_reducible refine xPar ?_ | with_reducible refine xPar3 ?_ | with_reducible refine xRng1 ?_ | with_reducible refine pS ?_ | with_reducible refine iAdd ?_ | with_reducible refine lTupM ?_ | with_reducible refine lTfM ?_ | with_reducible refine lLstM ?_ | with_reducible refine lSrcM ?_ | with_reducible refine lTup ?_ | with_reducible refine lTf ?_ | with_reducible refine lLst ?_ | with_reducible refine lSrc ?_ | with_reducible refine lDic ?_ | with_reducible refine iEq ?_ | with_reducible refine sEq ?_ | with_reducible refine xFld ?_ | with_reducible refine isI1 ?_ | with_reducible refine pN ?_ | with_reducible refine iNe ?_ | with_reducible refine sNe ?_ | with_reducible refine xAnd ?_ | with_reducible refine xU ?_ | with_reducible refine int1' ?_ | with_reducible refine xAllM ?_ | with_reducible refine xAnyM ?_ | with_reducible refine xAll ?_ | with_reducible refine isT ?_ | with_reducible refine isF ?_ | with_reducible refine isT' ?_ | with_reducible refine isF' ?_ | with_reducible refine chkWeb ?_ | with_reducible refine iNeg ?_ | with_reducible refine two2' ?_ | with_reducible refine xAndV ?_ | with_reducible refine xIf ?_ | with_reducible refine iSub ?_ | with_reducible refine xNew ?_ | with_reducible refine fldRow ?_ | with_reducible refine slTup ?_ | with_reducible refine slSrc ?_ | with_reducible refine slLst ?_ | with_reducible refine xEnum ?_ | with_reducible refine tfL ?_ | with_reducible refine tuL ?_ | with_reducible refine tuT ?_ | with_reducible refine xMth ?_ | with_reducible refine iLt ?_ | with_reducible refine xLcF ?_ | with_reducible refine xLcN ?_ | with_reducible refine xCl ?_ | with_reducible refine isN1 ?_ | with_reducible refine isN2 ?_ | with_reducible refine noN2 ?_ | with_reducible refine mthTie ?_ | with_reducible refine hasTie ?_ | with_reducible refine one1 ?_ | with_reducible refine iGt ?_ | with_reducible refine xOrV ?_ | with_reducible refine xTupF ?_ | with_reducible refine fldPairs ?_ | with_reducible refine xStar ?_ | with_reducible refine isiTup ?_ | with_reducible refine isiTf ?_ | with_reducible refine isiStr ?_ | with_reducible refine xNotV ?_ | with_reducible refine int2' ?_ | with_reducible refine iLe ?_ | with_reducible refine xRng2 ?_ | with_reducible refine xZip ?_ | with_reducible refine iGe ?_ | with_reducible refine iOr ?_ | with_reducible refine three' ?_ | with_reducible refine xRevU ?_ | with_reducible refine revTup ?_ | with_reducible refine revTf ?_ | with_reducible refine iAnd ?_ | with_reducible refine xDicF ?_ | with_reducible refine xCh ?_ | with_reducible refine xBreak ?_ | with_reducible refine fldMarks ?_ | with_reducible refine xCont ?_ | with_reducible refine xYes ?_ | with_reducible refine andL (by with_unfolding_all exact lez rfl) ?_))
section
open PySem PySem.Spec PyProof.Rows
/-! ### met -/
def sp_is_tied (W : Addr) : DSp := fun ds S Q E => ∃ (ps : List Str) (ts : List (Str × Str)) (a b : Str), ds = [webD W ps ts, .str a, .str b] ∧ Q (.bl (decide ((a, b) ∈ ts) || decide ((b, a) ∈ ts))) S
def w_is_tied (W : Addr) : WS := (wRet (wOrV (wMeth W "has_tie" (sp_Web_has_tie W) [] (wV 0) (wCons (wV 1) (wCons (wV 2) wNil))) (wMeth W "has_tie" (sp_Web_has_tie W) [] (wV 0) (wCons (wV 2) (wCons (wV 1) wNil)))))
theorem pure_is_tied (W : Addr) : ∀ ds S Q E, sp_is_tied W ds S Q E → w_is_tied W (endsOf Q) (startD ["web", "one", "other"] ds) S := by
  rintro ds S Q E ⟨ps, ts, a, b, rfl, q⟩
  refine xFn ?_
  show w_is_tied W _ [some _, some _, some _] S
  unfold w_is_tied
  and_intros
  refine isD (fun h => ?_) (fun h => ?_)
  · and_intros
    rw [decide_eq_true h] at q
    exact cl q
  · and_intros
    rw [decide_eq_false h] at q
    exact cl q
end
section
open PySem PySem.Spec PyProof.Rows
/-! ### one road over all -/
end
section
open PySem PySem.Spec PyProof.Rows
/-! ### law, as most laws of the family have it, for so many turns -/
def w_cup_lawN (W : Addr) (right : DSp) (n : Int) : WS := (wRet (wCall cAll (wCons (wLcF (wRng1 (wCons (wCall cMax (wCons (wC (.int 2)) (wCons (wCall cMin (wCons (wCall cLen (wCons (wV 0) wNil)) (wCons (wC (.int n)) wNil))) wNil))) wNil)) (.n 1) wYes (wFn right [] (wCons (wFn (sp_cup_cup W) [] (wCons (wV 0) (wCons (wV 1) wNil))) wNil)) [1]) wNil)))
theorem pure_cup_lawN (W : Addr) {right : DSp} (n : Int) (hn : 2 ≤ n ∧ n ≤ 63) (hr : RightSp right) : ∀ ds S Q E, LawSp 63 ds S Q E → w_cup_lawN W right n (endsOf Q) (startD ["_law_script", "_law_k"] ds) S := by
  rintro ds S Q E ⟨ns, rfl, hl, rfl, q⟩
  have hl' : (ns.map D.int).length ≤ 63 := by rw [List.length_map]; exact hl
  refine ⟨⟨Or.inl ⟨_, rfl, Or.inl (Or.inl ⟨by omega, by omega, fun p hp => ⟨fun i S' => ∃ k, k ≤ i ∧ S' p = some (.lst (List.replicate k (.bl true))), ⟨0, Nat.le_refl _, set_same⟩, fun _ _ _ => trivial, ?_, ?_⟩⟩)⟩⟩⟩
  · rintro i d S' hi ⟨k, hk, g1⟩
    obtain ⟨rfl, hi2⟩ := rangeD_get hi
    refine upYes (ifY rfl (upI ⟨ns, i, ?_, hl, fun x a b hx => ?_⟩))
    · rw [Int.zero_add]
      rfl
    have hxp : p ≠ x := fun e => by rw [← e, g1] at hx; cases hx
    refine hr x a b 0 _ _ set_same fun a' b' c' => ⟨List.replicate k (.bl true), ?_, ?_, k + 1, by omega, ?_⟩
    · rw [set_ne hxp, set_ne hxp]
      exact g1
    · rw [List.length_replicate]
      omega
    · rw [set_same, List.replicate_succ']
  · rintro S2 ⟨k, hk, g1⟩
    refine ⟨_, g1, List.replicate k true, ?_, cl ?_⟩
    · show some _ = some _
      rw [List.map_replicate]
    · have e : (List.replicate k true).all id = true := by simp
      rw [e]
      exact q _
/-! ### _law_is_road of good roads -/
theorem rangeN1 (n : Nat) : rangeD 1 ((n : Nat) : Int) = (List.range (n - 1)).map fun i => .int ((i : Nat) + 1 : Int) := by
  unfold rangeD
  rw [show ((n : Int) - 1).toNat = n - 1 by omega]
  exact List.map_congr_left fun i _ => by rw [Int.add_comm]
instance : InjD (fun i : Nat => D.int ((i : Nat) + 1 : Int)) := ⟨fun _ _ h => by injection h with h; omega⟩
end
section
open PySem PySem.Spec PyProof.Rows
/-! ### the third family of draws -/
/-! steps -/
theorem xSubD {wo wi : WE} {w : WSet} {x : D} {sd : SD} {S : SO} {Qg : SD → SO → Prop} (h : wo sd S fun d S1 => wi sd S1 fun k S2 => w d k x S2 fun S3 => Qg sd S3) : gSubD wo wi w x sd S Qg := h
def MkD (C : Addr) (sp : DSp) (xs : List D) (S : SO) (Q : KD) : Prop := ∀ p, S p = none → sp (.obj p :: xs) (S.set p (.ins C [])) (fun d S2 => d = .non ∧ ∃ fs, S2 p = some (.ins C fs) ∧ Q (.ins C fs) (S2.del p)) NoE
theorem xMakeF {C : Addr} {sp : DSp} {t : WA} {sd : SD} {S : SO} {Q : KD} (h : t sd S fun xs S1 => MkD C sp xs S1 Q) : wMakeF C sp [] t sd S Q := by
  have e : ∀ xs : List D, xs ++ [] = xs := List.append_nil
  unfold wMakeF
  simp only [e]
  exact h
section
variable {S : SO} {Q : KD} {i j : Int}
theorem xInt (h : Q (.int i) S) : cInt [.int i] S Q := h
theorem iModL (h : Q (.int (i % j)) S) (hj : 0 < j := by decide) : oMod (.int i) (.int j) S Q := ⟨hj, h⟩
end
end
section
open PySem PySem.Spec PyProof.Rows
/-! ### roads of any kind of value -/
section
variable {S : SO} {Q : KD} {m : Nat} {d x : D} {xs : List D}
theorem isiTupA (h : Q (.bl (asTup d).isSome) S) (hd : Any m d) : cIsi (.ty "tuple") (fTy "tuple" []) [d, .ty "tuple"] S Q := by
  cases hd <;> exact ⟨rfl, _, _, rfl, rfl, h⟩
theorem isiStrA (h : Q (.bl (asStr d).isSome) S) (hd : Any m d) : cIsi (.ty "str") (fTy "str" []) [d, .ty "str"] S Q := by
  cases hd <;> exact ⟨rfl, _, _, rfl, rfl, h⟩
theorem asTup_seq (e : asTup d = some xs) (S : SO) : seqX S d = some xs := by
  cases d <;> first | exact e | cases e
theorem asTup_len {k : Nat → Prop} (e : asTup d = some xs) (h : k xs.length) : lenD S d k := len_seq (asTup_seq e S) h
theorem asTup_seqD {Rs : List D → (SO → Prop) → Prop} (e : asTup d = some xs) (h : Rs xs fun _ => True) : seqD d S Rs := by
  cases d <;> first | (cases e; exact h) | cases e
theorem asTup_ix {i : Int} (e : asTup d = some xs) (ei : atI xs i = some x) (h : Q x S) : oIx d (.int i) S Q := .inl ⟨xs, i, x, asTup_seq e S, rfl, ei, h⟩
theorem asStr_of {s : Str} (e : asStr d = some s) : d = .str s := by
  cases d <;> first | (cases e; rfl) | cases e
theorem Any.items (h : Any m d) (e : asTup d = some xs) : xs.length ≤ m ∧ ∀ x ∈ xs, Any m x := by
  cases h with
  | tup ys hl hx => cases e; exact ⟨hl, hx⟩
  | tf ys hl hx => cases e; exact ⟨hl, hx⟩
  | _ => cases e
theorem Any.sok {s : Str} (h : Any m (.str s)) : sOk s := by
  cases h with
  | str x h => exact h.1
end
def inB (ps : List Str) (x : D) : Bool := match asStr x with
  | some s => decide (s ∈ ps)
  | none => false
theorem inB_all {ps : List Str} : ∀ {xs : List D}, xs.all (inB ps) = true → ∃ r, xs = plD r ∧ ∀ x ∈ r, x ∈ ps
  | [], _ => ⟨[], rfl, by simp⟩
  | x :: xs, h => by
    rw [List.all_cons, Bool.and_eq_true] at h
    obtain ⟨r, rfl, hr⟩ := inB_all h.2
    have h1 := h.1
    unfold inB at h1
    split at h1
    · rename_i s e
      refine ⟨s :: r, by rw [asStr_of e]; rfl, fun y hy => ?_⟩
      rcases List.mem_cons.mp hy with rfl | hy
      · exact of_decide_eq_true h1
      · exact hr y hy
    · cases h1
theorem all_inB {ps r : List Str} (h : ∀ x ∈ r, x ∈ ps) : (plD r).all (inB ps) = true := by
  rw [List.all_eq_true]
  intro d hd
  obtain ⟨x, hx, rfl⟩ := List.mem_map.mp hd
  exact decide_eq_true (h x hx)
theorem dict_len {v : D} : ∀ (r : List Str) (acc : List (D × D)), acc.length + r.length ≤ (dputsL acc (r.map fun x => (D.str x, v))).length → (∀ x ∈ r, dget acc (.str x) = none) ∧ r.Nodup
  | [], _, _ => ⟨by simp, List.nodup_nil⟩
  | x :: r, acc, h => by
    have h1 := dputsL_len (r.map fun x => (D.str x, v)) (dput acc (.str x) v)
    have h2 := dput_length acc (.str x) v
    have h' : acc.length + (x :: r).length ≤ (dputsL (dput acc (.str x) v) (r.map fun x => (D.str x, v))).length := h
    rw [List.length_map] at h1
    rw [List.length_cons] at h'
    have h0 : dget acc (.str x) = none := by
      cases e : dget acc (.str x) with
      | none => rfl
      | some u =>
        have : (dput acc (.str x) v).length = acc.length := by
          unfold dput
          rw [e, if_pos (by rfl), List.length_map]
        omega
    obtain ⟨h3, h4⟩ := dict_len (v := v) r (dput acc (.str x) v) (by omega)
    refine ⟨fun y hy => ?_, List.nodup_cons.mpr ⟨fun hx => ?_, h4⟩⟩
    · rcases List.mem_cons.mp hy with rfl | hy
      · exact h0
      · have := h3 y hy
        rw [dget_put] at this
        split at this
        · cases this
        · exact this
    · have := h3 x hx
      rw [dget_put, if_pos rfl] at this
      cases this
def IsRd (ps : List Str) (ts : List (Str × Str)) (d : D) : Prop := ∃ r, asTup d = some (plD r) ∧ RoadOk ps ts r
theorem plD_inj {a b : List Str} (h : plD a = plD b) : a = b := map_inj (f := D.str) h
def stepB (ts : List (Str × Str)) (r : List Str) : Bool := (List.range (r.length - 1)).all fun i => decide ((r.getD i Str.empty, r.getD (i + 1) Str.empty) ∈ ts)
theorem stepB_iff {ts : List (Str × Str)} {r : List Str} : stepB ts r = true ↔ ∀ i a b, r[i]? = some a → r[i + 1]? = some b → (a, b) ∈ ts := by
  unfold stepB
  rw [List.all_eq_true]
  constructor
  · intro h i a b ha hb
    have hl := (List.getElem?_eq_some_iff.mp hb).1
    have := of_decide_eq_true (h i (List.mem_range.mpr (by omega)))
    rwa [List.getD_eq_getElem?_getD, List.getD_eq_getElem?_getD, ha, hb] at this
  · intro h i hi
    have hi' := List.mem_range.mp hi
    refine decide_eq_true (h i _ _ ?_ ?_)
    · rw [List.getD_eq_getElem?_getD, List.getElem?_eq_getElem (by omega)]
      rfl
    · rw [List.getD_eq_getElem?_getD, List.getElem?_eq_getElem (by omega)]
      rfl
def sp_is_roadA (W : Addr) : DSp := fun ds S Q E => ∃ (ps : List Str) (ts : List (Str × Str)) (d : D) (m : Nat), ds = [webD W ps ts, d] ∧ WebOk ps ts ∧ Any m d ∧ m ≤ 100000 ∧ ∀ b : Bool, (b = true ↔ IsRd ps ts d) → Q (.bl b) S
def w_is_roadA (W : Addr) : WS := (wSeq (wIfS (wOr (wNot (wB (wCall (cIsi (.ty "tuple") (fTy "tuple" [])) (wCons (wV 1) (wCons (wC (.ty "tuple")) wNil))))) (wNot (wB (wCh oLe oLe (wC (.int 1)) (wCall cLen (wCons (wV 1) wNil)) (wCall (cLenO W (sp_Web_len W)) (wCons (wV 0) wNil)))))) (wRet (wC (.bl false))) wNext)
    (wSeq (wIfS (wNot (wB (wCall cAll (wCons (wLcP (wSeqI (wV 1)) (.n 2) wYes (wAndV (wCall (cIsi (.ty "str") (fTy "str" [])) (wCons (wV 2) (wCons (wC (.ty "str")) wNil))) (wO oIn (wV 2) (wFld W "row" (wV 0)))) [2]) wNil)))) (wRet (wC (.bl false))) wNext)
    (wSeq (wIfS (wB (wO oLt (wCall cLen (wCons (wDcP false (wSeqI (wV 1)) (.n 2) wYes (wV 2) (wC (.bl true)) [2]) wNil)) (wCall cLen (wCons (wV 1) wNil)))) (wRet (wC (.bl false))) wNext)
    (wRet (wCall cAll (wCons (wLcP (wRng2 (wCons (wC (.int 1)) (wCons (wCall cLen (wCons (wV 1) wNil)) wNil))) (.n 3) wYes (wMeth W "has_tie" (sp_Web_has_tie W) [] (wV 0) (wCons (wO oIx (wV 1) (wO oSub (wV 3) (wC (.int 1)))) (wCons (wO oIx (wV 1) (wV 3)) wNil))) [3]) wNil))))))
theorem pure_is_roadA (W : Addr) : ∀ ds S Q E, sp_is_roadA W ds S Q E → w_is_roadA W (endsOf Q) (startD ["web", "value", "place", "at"] ds) S := by
  rintro ds S Q E ⟨ps, ts, d, m, rfl, ok, A, hm, q⟩
  have few := ok.few
  refine xFn ?_
  show w_is_roadA W _ [some _, some _, none, none] S
  unfold w_is_roadA
  and_intros
  refine isiTupA ?_ A
  cases e : asTup d with
  | none =>
    refine isNB rfl ?_
    and_intros
    refine cl (q false ⟨fun h => (by cases h), fun ⟨r, h, _⟩ => by rw [e] at h; cases h⟩)
  | some xs =>
    obtain ⟨hl, hx⟩ := A.items e
    refine isYB rfl ?_
    and_intros
    refine asTup_len e ?_
    and_intros
    refine isD (fun h1 => ?_) (fun h1 => ?_)
    · and_intros
      refine lenWeb (by omega) ?_
      and_intros
      refine isD (fun h2 => ?_) (fun h2 => ?_)
      · and_intros
        refine lcM xs (fun d => d) (fun x => .bl (inB ps x)) ?_ (by omega) ?_ ?_
        · and_intros
          refine asTup_seqD e ?_
          exact srcX (by simp)
        · rintro x hxm S' e2
          (simp only [prD, putNT, wipeD, putAll, List.set_cons_zero, List.set_cons_succ, List.length_cons, List.length_nil, true_and]; and_intros)
          refine isiStrA ?_ (hx x hxm)
          cases ex : asStr x with
          | none =>
            refine isNB rfl ?_
            and_intros
            refine ⟨rfl, ?_⟩
            unfold inB
            rw [ex]
          | some s =>
            have e3 := asStr_of ex
            subst e3
            refine isYB rfl ?_
            and_intros
            refine inTf ?_ (hx _ hxm).sok ok.sok
            exact ⟨rfl, rfl⟩
        and_intros
        refine isCB (fun h3 => ?_) (fun h3 => ?_)
        · obtain ⟨r, rfl, hr⟩ := inB_all h3
          have hrl : (plD r).length = r.length := List.length_map ..
          and_intros
          refine dcM r D.str D.str (fun _ => .bl true) ?_ (by omega) ?_ ?_
          · and_intros
            refine asTup_seqD e ?_
            exact srcT
          · rintro x hxm S' e2
            (simp only [prD, putNT, wipeD, putAll, List.set_cons_zero, List.set_cons_succ, List.length_cons, List.length_nil, true_and]; and_intros)
            exact ⟨⟨rfl, rfl⟩, ⟨_, rfl⟩, rfl, rfl⟩
          and_intros
          refine asTup_len e ?_
          and_intros
          refine isD (fun h4 => ?_) (fun h4 => ?_)
          · and_intros
            refine cl (q false ⟨fun h => (by cases h), fun ⟨r2, h, R⟩ => ?_⟩)
            rw [e] at h
            have e4 := plD_inj (Option.some.inj h)
            subst e4
            rw [names_dict R.nd, List.length_map, hrl] at h4
            omega
          · and_intros
            refine lcM (List.range (r.length - 1)) (fun i : Nat => .int ((i : Nat) + 1 : Int)) (fun i => .bl (decide ((r.getD i Str.empty, r.getD (i + 1) Str.empty) ∈ ts))) ?_ (by rw [List.length_range]; omega) ?_ ?_
            · and_intros
              refine asTup_len e ?_
              and_intros
              rw [hrl]
              refine ⟨by omega, ?_⟩
              rw [rangeN1]
              exact srcT
            · rintro i hi S' e2
              have hi' := List.mem_range.mp hi
              have g1 : r[i]? = some r[i] := List.getElem?_eq_getElem (by omega)
              have g2 : r[i + 1]? = some r[i + 1] := List.getElem?_eq_getElem (by omega)
              (simp only [prD, putNT, wipeD, putAll, List.set_cons_zero, List.set_cons_succ, List.length_cons, List.length_nil, true_and]; and_intros)
              rw [show ((i : Int) + 1 - 1) = (i : Nat) by omega]
              refine asTup_ix e (atM g1) ?_
              and_intros
              refine asTup_ix e (atM (k := i + 1) g2) ?_
              and_intros
              refine ⟨rfl, ?_⟩
              rw [List.getD_eq_getElem?_getD, List.getD_eq_getElem?_getD, g1, g2]
              rfl
            and_intros
            have hnd : r.Nodup := (dict_len (v := .bl true) r [] (by
              have := h4
              rw [hrl] at this
              simp only [List.length_nil]
              omega)).2
            refine cl (q _ ?_)
            show stepB ts r = true ↔ _
            rw [stepB_iff]
            constructor
            · intro hs
              refine ⟨r, e, ⟨fun e5 => ?_, hnd, hr, hs⟩⟩
              rw [hrl, e5] at h1
              simp at h1
            · rintro ⟨r2, h, R⟩
              rw [e] at h
              have e4 := plD_inj (Option.some.inj h)
              subst e4
              exact R.step
        · and_intros
          refine cl (q false ⟨fun h => (by cases h), fun ⟨r2, h, R⟩ => ?_⟩)
          rw [e] at h
          cases h
          rw [all_inB R.sub] at h3
          cases h3
      · and_intros
        refine cl (q false ⟨fun h => (by cases h), fun ⟨r2, h, R⟩ => ?_⟩)
        rw [e] at h
        cases h
        have := R.len.2
        rw [List.length_map] at h2
        omega
    · and_intros
      refine cl (q false ⟨fun h => (by cases h), fun ⟨r2, h, R⟩ => ?_⟩)
      rw [e] at h
      cases h
      have := R.len.1
      rw [List.length_map] at h1
      omega
end
section
open PySem PySem.Spec PyProof.Rows
section
variable {P : Program} {w : World} {K : PySem.W.Frag} {mg : Str → Option Value} {base : Heap}
theorem fnD_false {k : Nat} {f : Addr} {fd : FuncData} (ps : List Str) : FnD P w K mg base k f fd ps (fun _ _ _ _ => False) :=
  ⟨fun vs H Q E ⟨_, _, _, _, _, _, h, _⟩ => h.elim, fun A outer s H args us vs Q E _ _ _ _ _ ⟨_, _, _, _, _, _, h, _⟩ => h.elim⟩
end
/-! ### _law_is_road of anything -/
theorem slTA {d : D} {xs : List D} {k : Nat} {S : SO} {Q : KD} (e : asTup d = some xs) (hk : k < xs.length) (h : Q (.tup (xs.take k)) S) : sliD d S none (some (k : Int)) Q := by
  cases d with
  | tup ys =>
    cases e
    show Q (.tup (cutD _ _ _)) S
    rw [cutHi]
    exact h
  | tf ys =>
    cases e
    exact slTfHi h hk
  | _ => cases e
def sp_cup_is_roadA (W : Addr) : DSp := fun ds S Q E => ∃ (ts : List Str) (ls : List (Str × Str)) (d : D) (m : Nat), ds = [netD ts ls, d] ∧ (∀ x ∈ ts, sOk x) ∧ (∀ t ∈ ls, sOk t.1 ∧ sOk t.2) ∧ Any m d ∧ m ≤ 100000 ∧ ∀ b : Bool, (b = true ↔ IsRd ts ls d) → Q (.bl b) S
def w_cup_is_roadA (W : Addr) : WS := (wSeq (wIfS (wOr (wNot (wB (wCall (cIsi (.ty "tuple") (fTy "tuple" [])) (wCons (wV 1) (wCons (wC (.ty "tuple")) wNil))))) (wB (wO oEqT (wV 1) (wTup wNil)))) (wRet (wC (.bl false))) wNext)
    (wSeq (wFor (wRng1 (wCons (wCall cLen (wCons (wV 1) wNil)) wNil)) (gV 2) (wIfS (wOr (wNot (wB (wCall (cIsi (.ty "str") (fTy "str" [])) (wCons (wO oIx (wV 1) (wV 2)) (wCons (wC (.ty "str")) wNil))))) (wOr (wB (wO oNotIn (wO oIx (wV 1) (wV 2)) (wO oIx (wV 0) (wC (.int 0))))) (wB (wO oIn (wO oIx (wV 1) (wV 2)) (wSl (wV 1) pNone (pSome (wV 2))))))) (wRet (wC (.bl false))) wNext))
    (wRet (wCall cAll (wCons (wLcP (wRng2 (wCons (wC (.int 1)) (wCons (wCall cLen (wCons (wV 1) wNil)) wNil))) (.n 2) wYes (wO oIn (wTup (wCons (wO oIx (wV 1) (wO oSub (wV 2) (wC (.int 1)))) (wCons (wO oIx (wV 1) (wV 2)) wNil))) (wO oIx (wV 0) (wC (.int 1)))) [2]) wNil)))))
theorem pure_cup_is_roadA (W : Addr) : ∀ ds S Q E, sp_cup_is_roadA W ds S Q E → w_cup_is_roadA W (endsOf Q) (startD ["_law_net_here", "_law_thing", "_law_k"] ds) S := by
  rintro ds S Q E ⟨ts, ls, d, m, rfl, hts, hls, A, hm, q⟩
  refine xFn ?_
  show w_cup_is_roadA W _ [some _, some _, none] S
  unfold w_cup_is_roadA
  and_intros
  refine isiTupA ?_ A
  cases e : asTup d with
  | none =>
    refine isNB rfl ?_
    and_intros
    exact cl (q false ⟨fun h => (by cases h), fun ⟨r, h, _⟩ => by rw [e] at h; cases h⟩)
  | some xs =>
    obtain ⟨hl, hx⟩ := A.items e
    refine isYB rfl ?_
    and_intros
    refine ⟨xs, e, rfl, ?_⟩
    refine isCB (fun h0 => ?_) (fun h0 => ?_)
    · and_intros
      refine cl (q false ⟨fun h => (by cases h), fun ⟨r, h, R⟩ => ?_⟩)
      rw [e] at h
      cases h
      have := R.ne
      cases r with
      | nil => exact absurd rfl this
      | cons _ _ => cases h0
    and_intros
    refine asTup_len e ?_
    and_intros
    refine rng1N (by omega) ?_
    refine forR (fun a : List Str × Option D => [some (netD ts ls), some d, a.2]) (fun _ => S) (fun i a => xs.take i = plD a.1 ∧ a.1.Nodup ∧ (∀ x ∈ a.1, x ∈ ts)) ([], none) ⟨rfl, List.nodup_nil, by simp⟩ ?_ ?_
    · rintro i ⟨r, c2⟩ hi ⟨hr1, hr2, hr3⟩
      have hr1' : xs.take i = plD r := hr1
      have hrl : r.length = i := by
        have := congrArg List.length hr1'
        rw [List.length_take, List.length_map] at this
        omega
      have hxi := List.getElem?_eq_getElem hi
      have hxm := List.getElem_mem hi
      have at1' : atI xs (i : Int) = some xs[i] := atI_nat hxi
      have bad : (∀ r' : List Str, xs = plD r' → RoadOk ts ls r' → False) → Cl Q (.bl false) S := fun hb => cl (q false ⟨fun h => (by cases h), fun ⟨r', h, R⟩ => (hb r' (by rw [e] at h; exact Option.some.inj h) R).elim⟩)
      and_intros
      refine asTup_ix e at1' ?_
      and_intros
      refine isiStrA ?_ (hx _ hxm)
      cases es : asStr xs[i] with
      | none =>
        refine isNB rfl ?_
        and_intros
        refine bad fun r' h R => ?_
        subst h
        obtain ⟨z, _, ez⟩ := List.mem_map.mp hxm
        rw [← ez] at es
        cases es
      | some s =>
        have es' := asStr_of es
        have ss : sOk s := (es' ▸ hx _ hxm).sok
        refine isYB rfl ?_
        and_intros
        refine asTup_ix e at1' ?_
        and_intros
        refine ixTup at0 ?_
        rw [es']
        refine ninTf ?_ ss hts
        refine isND (fun h1 => ?_) (fun h1 => ?_)
        · and_intros
          refine asTup_ix e at1' ?_
          and_intros
          refine slTA e hi ?_
          rw [hr1', es']
          refine inTup ?_ ss fun y hy => hts y (hr3 y hy)
          refine isD (fun h2 => ?_) (fun h2 => ?_)
          · and_intros
            refine bad fun r' h R => ?_
            subst h
            have h3 : r'.take i = r := plD_inj (by rw [← hr1']; unfold plD; rw [List.map_take])
            have h4 : r'[i]? = some s := by
              have := hxi
              rw [es'] at this
              obtain ⟨z, hz, ez⟩ := plD_get this
              rw [hz]
              cases ez
              rfl
            exact nodup_take R.nd h4 (h3 ▸ h2)
          · and_intros
            refine .of (r ++ [s], _) ⟨?_, ?_, ?_⟩
            · show xs.take (i + 1) = plD (r ++ [s])
              rw [List.take_succ, hr1', hxi, es']
              unfold plD
              rw [List.map_append]
              rfl
            · show (r ++ [s]).Nodup
              rw [List.nodup_append]
              exact ⟨hr2, by simp, fun a ha b hb e6 => h2 (by rw [List.mem_singleton] at hb; rw [← hb, ← e6]; exact ha)⟩
            · intro x hx
              rcases List.mem_append.mp hx with hx | hx
              · exact hr3 x hx
              · rw [List.mem_singleton] at hx
                exact hx ▸ h1
        · and_intros
          refine bad fun r' h R => ?_
          subst h
          obtain ⟨z, hz, ez⟩ := List.mem_map.mp hxm
          rw [← ez] at es'
          cases es'
          exact h1 (R.sub _ hz)
    · rintro ⟨r, c2⟩ ⟨hr1, hr2, hr3⟩
      have hr1' : xs.take xs.length = plD r := hr1
      rw [List.take_length] at hr1'
      subst hr1'
      have hrl : (plD r).length = r.length := List.length_map ..
      and_intros
      refine lcM (List.range (r.length - 1)) (fun i : Nat => .int ((i : Nat) + 1 : Int)) (fun i => .bl (decide ((r.getD i Str.empty, r.getD (i + 1) Str.empty) ∈ ls))) ?_ (by rw [List.length_range]; omega) ?_ ?_
      · and_intros
        refine asTup_len e ?_
        and_intros
        rw [hrl]
        refine ⟨by omega, ?_⟩
        rw [rangeN1]
        exact srcT
      · rintro i hi S' e2
        have hi' := List.mem_range.mp hi
        have g1 : r[i]? = some r[i] := List.getElem?_eq_getElem (by omega)
        have g2 : r[i + 1]? = some r[i + 1] := List.getElem?_eq_getElem (by omega)
        (simp only [prD, putNT, wipeD, putAll, List.set_cons_zero, List.set_cons_succ, List.length_cons, List.length_nil, true_and]; and_intros)
        rw [show ((i : Int) + 1 - 1) = (i : Nat) by omega]
        refine asTup_ix e (atM g1) ?_
        and_intros
        refine asTup_ix e (atM (k := i + 1) g2) ?_
        and_intros
        refine ixTup at1 ?_
        refine inPrs ?_ (hts _ (hr3 _ (List.getElem_mem _))) (hts _ (hr3 _ (List.getElem_mem _))) hls
        refine ⟨rfl, ?_⟩
        rw [List.getD_eq_getElem?_getD, List.getD_eq_getElem?_getD, g1, g2]
        rfl
      and_intros
      refine cl (q _ ?_)
      show stepB ls r = true ↔ _
      rw [stepB_iff]
      constructor
      · intro hs
        refine ⟨r, e, ⟨fun e5 => ?_, hr2, hr3, hs⟩⟩
        rw [e5] at h0
        cases h0
      · rintro ⟨r2, h, R⟩
        rw [e] at h
        have e4 := plD_inj (Option.some.inj h)
        subst e4
        exact R.step
/-! ### _law_bent -/
end
section
open PySem PySem.Spec PyProof.Rows
end
section
open PySem PySem.Spec PyProof.Rows
/-! ### k08 -/
theorem reprL {S : SO} {Q : KD} {xs : List D} {p : PyData} (h1 : pyD (.lst xs) = some p) (h2 : ShowOk p) (h : Q (.str p.shown) S) : cRepr [.lst xs] S Q := ⟨rfl, p, h1, h2, h⟩
end
section
open PySem PySem.Spec PyProof.Rows
/-! ### sorted texts -/
abbrev leS (a b : Str) : Prop := a.cps.toList ≤ b.cps.toList
theorem rising_pw : ∀ (l : List Str) (p : Str), risingS p l = true → (p :: l).Pairwise leS
  | [], p, _ => List.pairwise_singleton _ _
  | x :: r, p, h => by
    have h' : (!ltCps x.cps.toList p.cps.toList && risingS x r) = true := h
    rw [Bool.and_eq_true] at h'
    have ih := rising_pw r x h'.2
    have h1 : leS p x := by
      have := h'.1
      rw [ltCps_eq, Bool.not_eq_true', decide_eq_false_iff_not] at this
      exact List.not_lt.mp this
    refine List.pairwise_cons.mpr ⟨fun y hy => ?_, ih⟩
    rcases List.mem_cons.mp hy with rfl | hy
    · exact h1
    · exact List.le_trans h1 ((List.pairwise_cons.mp ih).1 y hy)
theorem sortedS_pw {l : List Str} (h : sortedS l = true) : l.Pairwise leS := by
  cases l with
  | nil => exact List.Pairwise.nil
  | cons x r => exact rising_pw r x h
theorem leS_anti {a b : Str} (h1 : leS a b) (h2 : leS b a) : a = b := by
  have := List.le_antisymm h1 h2
  cases a
  cases b
  simp only at this
  rw [Array.toList_inj.mp this]
theorem sorted_uniq : ∀ {a b : List Str}, a.Perm b → a.Pairwise leS → b.Pairwise leS → a = b
  | [], b, h, _, _ => (List.Perm.nil_eq h)
  | x :: xs, [], h, _, _ => by simpa using h.length_eq
  | x :: xs, y :: ys, h, h1, h2 => by
    have p1 := List.pairwise_cons.mp h1
    have p2 := List.pairwise_cons.mp h2
    have e : x = y := by
      have m1 : x ∈ y :: ys := h.mem_iff.mp (List.mem_cons_self ..)
      have m2 : y ∈ x :: xs := h.mem_iff.mpr (List.mem_cons_self ..)
      rcases List.mem_cons.mp m1 with e | m1
      · exact e
      rcases List.mem_cons.mp m2 with e | m2
      · exact e.symm
      exact leS_anti (p1.1 y m2) (p2.1 x m1)
    subst e
    rw [sorted_uniq (List.perm_cons x |>.mp h) p1.2 p2.2]
theorem perm_of_sub : ∀ {a b : List Str}, a.Nodup → (∀ x ∈ a, x ∈ b) → b.length ≤ a.length → a.Perm b
  | [], b, _, _, h => by
    have : b = [] := List.length_eq_zero_iff.mp (Nat.le_zero.mp h)
    rw [this]
  | x :: a, b, h1, h2, h3 => by
    have n1 := List.nodup_cons.mp h1
    have hx := h2 x (List.mem_cons_self ..)
    have p := List.perm_cons_erase hx
    refine (List.Perm.cons x (perm_of_sub (b := b.erase x) n1.2 (fun y hy => ?_) ?_)).trans p.symm
    · have hne : y ≠ x := fun e => n1.1 (e ▸ hy)
      exact (List.mem_erase_of_ne hne).mpr (h2 y (List.mem_cons_of_mem _ hy))
    · rw [List.length_erase_of_mem hx]
      rw [List.length_cons] at h3
      omega
/-! ### partings of any kind of value -/
def IsPt (ps : List Str) (ts : List (Str × Str)) (d : D) : Prop := ∃ xs rs, asTup d = some xs ∧ xs.map asTup = rs.map (fun r => some (plD r)) ∧ PartOk ps ts rs
noncomputable def isRdB (ps : List Str) (ts : List (Str × Str)) (d : D) : Bool := by
  classical exact decide (IsRd ps ts d)
theorem isRdB_iff {ps : List Str} {ts : List (Str × Str)} {d : D} : isRdB ps ts d = true ↔ IsRd ps ts d := by
  unfold isRdB
  exact @decide_eq_true_iff _ (Classical.propDecidable _)
theorem all_roads {ps : List Str} {ts : List (Str × Str)} : ∀ {xs : List D}, xs.all (isRdB ps ts) = true → ∃ rs : List (List Str), xs.map asTup = rs.map (fun r => some (plD r)) ∧ ∀ r ∈ rs, RoadOk ps ts r
  | [], _ => ⟨[], rfl, by simp⟩
  | x :: xs, h => by
    rw [List.all_cons, Bool.and_eq_true] at h
    obtain ⟨rs, e, hr⟩ := all_roads h.2
    obtain ⟨r, er, R⟩ := isRdB_iff.mp h.1
    refine ⟨r :: rs, by rw [List.map_cons, List.map_cons, e, er], fun y hy => ?_⟩
    rcases List.mem_cons.mp hy with rfl | hy
    · exact R
    · exact hr y hy
theorem roads_all {ps : List Str} {ts : List (Str × Str)} : ∀ {xs : List D} {rs : List (List Str)}, xs.map asTup = rs.map (fun r => some (plD r)) → (∀ r ∈ rs, RoadOk ps ts r) → xs.all (isRdB ps ts) = true
  | [], _, _, _ => rfl
  | x :: xs, [], h, _ => by cases h
  | x :: xs, r :: rs, h, hr => by
    rw [List.map_cons, List.map_cons] at h
    injection h with h1 h2
    rw [List.all_cons, roads_all h2 fun y hy => hr y (List.mem_cons_of_mem _ hy), isRdB_iff.mpr ⟨r, h1, hr r (List.mem_cons_self ..)⟩]
    rfl
theorem tups_inj : ∀ {rs rs2 : List (List Str)}, rs.map (fun r => some (plD r)) = rs2.map (fun r => some (plD r)) → rs = rs2
  | [], [], _ => rfl
  | [], _ :: _, h => by cases h
  | _ :: _, [], h => by cases h
  | r :: rs, s :: ss, h => by
    rw [List.map_cons, List.map_cons] at h
    injection h with h1 h2
    rw [plD_inj (Option.some.inj h1), tups_inj h2]
theorem asTup_un {d : D} {xs : List D} (e : asTup d = some xs) : unD d = xs := by
  cases d <;> first | (cases e; rfl) | cases e
theorem flat_un : ∀ {xs : List D} {rs : List (List Str)}, xs.map asTup = rs.map (fun r => some (plD r)) → xs.flatMap unD = plD rs.flatten
  | [], [], _ => rfl
  | [], _ :: _, h => by cases h
  | _ :: _, [], h => by cases h
  | x :: xs, r :: rs, h => by
    rw [List.map_cons, List.map_cons] at h
    injection h with h1 h2
    rw [List.flatMap_cons, flat_un h2, asTup_un h1, List.flatten_cons]
    unfold plD
    rw [List.map_append]
def sp_is_partA (W : Addr) : DSp := fun ds S Q E => ∃ (ps : List Str) (ts : List (Str × Str)) (d : D) (m : Nat), ds = [webD W ps ts, d] ∧ WebOk ps ts ∧ Any m d ∧ m ≤ 1000 ∧ ∀ b : Bool, (b = true ↔ IsPt ps ts d) → Q (.bl b) S
def w_is_partA (W : Addr) : WS := (wSeq (wIfS (wOr (wNot (wB (wCall (cIsi (.ty "tuple") (fTy "tuple" [])) (wCons (wV 1) (wCons (wC (.ty "tuple")) wNil))))) (wNot (wB (wCall cAll (wCons (wLcP (wSeqI (wV 1)) (.n 3) wYes (wFn (sp_is_roadA W) [] (wCons (wV 0) (wCons (wV 3) wNil))) [3]) wNil))))) (wRet (wC (.bl false))) wNext)
    (wSeq (wAsg (wLc2F (wSeqI (wV 1)) (.n 3) wYes (wSeqI (wV 3)) (.n 4) wYes (wV 4) [3, 4] [4]) (gV 2))
    (wRet (wAndV (wO oEq (wCall cLen (wCons (wV 2) wNil)) (wCall (cLenO W (sp_Web_len W)) (wCons (wV 0) wNil))) (wO oEq (wCall cLen (wCons (wDcP false (wSeqI (wV 2)) (.n 4) wYes (wV 4) (wC (.bl true)) [4]) wNil)) (wCall (cLenO W (sp_Web_len W)) (wCons (wV 0) wNil)))))))
theorem pure_is_partA (W : Addr) : ∀ ds S Q E, sp_is_partA W ds S Q E → w_is_partA W (endsOf Q) (startD ["web", "value", "found", "road", "place"] ds) S := by
  rintro ds S Q E ⟨ps, ts, d, m, rfl, ok, A, hm, q⟩
  have few := ok.few
  refine xFn ?_
  show w_is_partA W _ [some _, some _, none, none, none] S
  unfold w_is_partA
  and_intros
  refine isiTupA ?_ A
  cases e : asTup d with
  | none =>
    refine isNB rfl ?_
    and_intros
    exact cl (q false ⟨fun h => (by cases h), fun ⟨xs, r, h, _⟩ => by rw [e] at h; cases h⟩)
  | some xs =>
    obtain ⟨hl, hx⟩ := A.items e
    refine isYB rfl ?_
    and_intros
    refine lcM xs (fun d => d) (fun x => .bl (isRdB ps ts x)) ?_ (by omega) ?_ ?_
    · and_intros
      refine asTup_seqD e ?_
      exact srcX (by simp)
    · rintro x hxm S' e2
      (simp only [prD, putNT, wipeD, putAll, List.set_cons_zero, List.set_cons_succ, List.length_cons, List.length_nil, true_and]; and_intros)
      refine ⟨ps, ts, x, m, rfl, ok, hx x hxm, by omega, fun b hb => ⟨rfl, ?_⟩⟩
      rw [Bool.eq_iff_iff.mpr (isRdB_iff.trans hb.symm)]
    and_intros
    refine isCB (fun h3 => ?_) (fun h3 => ?_)
    · obtain ⟨rs, ers, hrs⟩ := all_roads h3
      and_intros
      have hun : ∀ x ∈ xs, ∃ r, asTup x = some (plD r) ∧ r.length ≤ 40 := fun x hxm => by
        have : asTup x ∈ xs.map asTup := List.mem_map.mpr ⟨x, hxm, rfl⟩
        rw [ers] at this
        obtain ⟨r, hr, er⟩ := List.mem_map.mp this
        refine ⟨r, er.symm, ?_⟩
        have := (hrs r hr).len.2
        omega
      refine lc2_of xs unD 40 (fun x hxm => ?_) (by omega) ?_ (fun x hxm S' e2 => ?_) ?_
      · obtain ⟨r, er, hr⟩ := hun x hxm
        rw [asTup_un er, List.length_map]
        exact hr
      · and_intros
        refine asTup_seqD e ?_
        exact ⟨rfl, rfl⟩
      · obtain ⟨r, er, hr⟩ := hun x hxm
        (simp only [prD, putNT, wipeD, putAll, List.set_cons_zero, List.set_cons_succ, List.length_cons, List.length_nil, true_and]; and_intros)
        refine ⟨plD r, id, ?_, by rw [asTup_un er, List.map_id], fun y hy S2 e2 => ?_⟩
        · and_intros
          refine asTup_seqD er ?_
          exact ⟨rfl, rfl⟩
        · and_intros
          exact ⟨rfl, rfl⟩
      rw [flat_un ers]
      and_intros
      refine lenWeb (by omega) ?_
      and_intros
      have tell : ∀ {b : Bool}, (b = true ↔ rs.flatten.Nodup ∧ rs.flatten.length = ps.length) → Cl Q (.bl b) S := fun {b} hb => cl (q b (hb.trans ⟨fun ⟨h1, h2⟩ => ⟨xs, rs, e, ers, hrs, h1, h2⟩, fun ⟨xs2, rs2, h, h2, P⟩ => by
        rw [e] at h
        cases h
        rw [ers] at h2
        have := tups_inj h2
        subst this
        exact ⟨P.nd, P.all⟩⟩))
      refine isD (fun h4 => ?_) (fun h4 => ?_)
      · and_intros
        have hfl : rs.flatten.length = ps.length := by omega
        refine dcM rs.flatten D.str D.str (fun _ => .bl true) ?_ (by omega) ?_ ?_
        · and_intros
          exact srcT
        · rintro x hxm S' e2
          (simp only [prD, putNT, wipeD, putAll, List.set_cons_zero, List.set_cons_succ, List.length_cons, List.length_nil, true_and]; and_intros)
          exact ⟨⟨rfl, rfl⟩, ⟨_, rfl⟩, rfl, rfl⟩
        and_intros
        refine lenWeb (by omega) ?_
        and_intros
        refine tell ?_
        rw [decide_eq_true_iff]
        constructor
        · intro h5
          refine ⟨(dict_len (v := .bl true) rs.flatten [] ?_).2, hfl⟩
          simp only [List.length_nil]
          omega
        · rintro ⟨h5, _⟩
          rw [names_dict h5, List.length_map]
          omega
      · and_intros
        refine tell ⟨fun h => (by cases h), fun ⟨_, h⟩ => absurd (by omega) h4⟩
    · and_intros
      refine cl (q false ⟨fun h => (by cases h), fun ⟨xs2, rs2, h, h2, P⟩ => ?_⟩)
      rw [e] at h
      cases h
      rw [roads_all h2 P.road] at h3
      cases h3
def sp_is_partA2 (W : Addr) : DSp := sp_is_partA W
def w_is_partA2 (W : Addr) : WS := (wSeq (wDrop (wFn (sp_check_web W) [] (wCons (wV 0) wNil)))
    (wRet (wFn (sp_is_partA W) [] (wCons (wV 0) (wCons (wV 1) wNil)))))
theorem pure_is_partA2 (W : Addr) : ∀ ds S Q E, sp_is_partA2 W ds S Q E → w_is_partA2 W (endsOf Q) (startD ["web", "value"] ds) S := by
  rintro ds S Q E ⟨ps, ts, d, m, rfl, ok, A, hm, q⟩
  refine xFn ?_
  show w_is_partA2 W _ [some _, some _] S
  unfold w_is_partA2
  and_intros
  exact ⟨ps, ts, d, m, rfl, ok, A, hm, fun b hb => cl (q b hb)⟩
/-! ### the law's own look -/
def sp_cup_is_partA (W : Addr) : DSp := fun ds S Q E => ∃ (ts : List Str) (ls : List (Str × Str)) (d : D) (m : Nat), ds = [netD ts ls, d] ∧ WebOk ts ls ∧ Any m d ∧ m ≤ 1000 ∧ ∀ b : Bool, (b = true ↔ IsPt ts ls d) → Q (.bl b) S
def w_cup_is_partA (W : Addr) : WS := (wSeq (wIfS (wOr (wNot (wB (wCall (cIsi (.ty "tuple") (fTy "tuple" [])) (wCons (wV 1) (wCons (wC (.ty "tuple")) wNil))))) (wNot (wB (wCall cAll (wCons (wLcP (wSeqI (wV 1)) (.n 3) wYes (wFn (sp_cup_is_roadA W) [] (wCons (wV 0) (wCons (wV 3) wNil))) [3]) wNil))))) (wRet (wC (.bl false))) wNext)
    (wSeq (wAsg (wLst wNil) (gV 2))
    (wSeq (wFor (wSeqI (wV 1)) (gV 3) (wAsg (wO oAdd (wV 2) (wCall cList (wCons (wV 3) wNil))) (gV 2)))
    (wRet (wO oEq (wCall cSorted (wCons (wV 2) wNil)) (wCall cSorted (wCons (wO oIx (wV 0) (wC (.int 0))) wNil)))))))
theorem lAdd {S : SO} {Q : KD} {x y : List D} (h : Q (.lst (x ++ y)) S) (hl : x.length + y.length ≤ 1000000) : oAdd (.lst x) (.lst y) S Q := ⟨hl, h⟩
theorem srtS {S : SO} {Q : KD} {d : D} {ss : List Str} (e : seqX S d = some (plD ss)) (h : ∀ ss' : List Str, ss'.Perm ss → sortedS ss' = true → Q (.lst (plD ss')) S) : cSorted [d] S Q := .inl ⟨ss, e, h⟩
theorem eqLS {S : SO} {Q : KD} {a b : List Str} (h : Q (.bl (decide (a = b))) S) (ha : ∀ x ∈ a, sOk x) (hb : ∀ x ∈ b, sOk x) : oEq (.lst (plD a)) (.lst (plD b)) S Q := by
  have g : ∀ l : List Str, pyD (.lst (plD l)) = some (.list (l.map PyData.str)) := fun l => by
    show (pyDs (plD l)).map PyData.list = _
    rw [pyDs_strs]
    rfl
  refine ⟨.list (a.map PyData.str), .list (b.map PyData.str), g a, g b, shaped_list (n := 0) (by decide) ha (fun y _ => by simp [PyData.depth]), shaped_list (n := 0) (by decide) hb (fun y _ => by simp [PyData.depth]), ?_⟩
  have e : PyData.eqv (.list (a.map PyData.str)) (.list (b.map PyData.str)) = decide (a = b) := eqvAll_map eqv_str a b
  rw [e]
  exact h
theorem asTup_list {S : SO} {Q : KD} {d : D} {xs : List D} (e : asTup d = some xs) (h : Q (.lst xs) S) : cList [d] S Q := liS (asTup_seq e S) h
theorem pure_cup_is_partA (W : Addr) : ∀ ds S Q E, sp_cup_is_partA W ds S Q E → w_cup_is_partA W (endsOf Q) (startD ["_law_net_here", "_law_thing", "_law_found", "_law_row"] ds) S := by
  rintro ds S Q E ⟨ts, ls, d, m, rfl, ok, A, hm, q⟩
  have few := ok.few
  refine xFn ?_
  show w_cup_is_partA W _ [some _, some _, none, none] S
  unfold w_cup_is_partA
  and_intros
  refine isiTupA ?_ A
  cases e : asTup d with
  | none =>
    refine isNB rfl ?_
    and_intros
    exact cl (q false ⟨fun h => (by cases h), fun ⟨xs, r, h, _⟩ => by rw [e] at h; cases h⟩)
  | some xs =>
    obtain ⟨hl, hx⟩ := A.items e
    refine isYB rfl ?_
    and_intros
    refine lcM xs (fun d => d) (fun x => .bl (isRdB ts ls x)) ?_ (by omega) ?_ ?_
    · and_intros
      refine asTup_seqD e ?_
      exact srcX (by simp)
    · rintro x hxm S' e2
      (simp only [prD, putNT, wipeD, putAll, List.set_cons_zero, List.set_cons_succ, List.length_cons, List.length_nil, true_and]; and_intros)
      refine ⟨ts, ls, x, m, rfl, ok.sok, ok.soks, hx x hxm, by omega, fun b hb => ⟨rfl, ?_⟩⟩
      rw [Bool.eq_iff_iff.mpr (isRdB_iff.trans hb.symm)]
    and_intros
    refine isCB (fun h3 => ?_) (fun h3 => ?_)
    · obtain ⟨rs, ers, hrs⟩ := all_roads h3
      have hlen : xs.length = rs.length := by
        have := congrArg List.length ers
        rwa [List.length_map, List.length_map] at this
      and_intros
      refine asTup_seqD e ?_
      refine forJ xs (fun d => d) (fun a : List Str × Option D => [some (netD ts ls), some d, some (.lst (plD a.1)), a.2]) (fun _ => S) (fun i a => a.1 = (rs.take i).flatten ∧ a.1.length ≤ 40 * i) ([], none) ⟨by simp, Nat.le_refl _⟩ ?_ ?_ (hx := by simp)
      · rintro i x ⟨acc, c3⟩ hxi ⟨h1, h2⟩
        have h1' : acc = (rs.take i).flatten := h1
        have h2' : acc.length ≤ 40 * i := h2
        have hil := (List.getElem?_eq_some_iff.mp hxi).1
        have hri : rs[i]? = some rs[i] := List.getElem?_eq_getElem (by omega)
        have ex : asTup x = some (plD rs[i]) := by
          have := congrArg (fun l => l[i]?) ers
          simp only [List.getElem?_map, hxi, hri, Option.map_some] at this
          exact Option.some.inj this
        have hrl := (hrs _ (List.getElem_mem (show i < rs.length by omega))).len.2
        and_intros
        refine asTup_list ex ?_
        and_intros
        refine lAdd ?_ (by rw [List.length_map, List.length_map]; omega)
        and_intros
        refine .of (acc ++ rs[i], _) ⟨?_, ?_⟩ (by rw [show plD acc ++ plD rs[i] = plD (acc ++ rs[i]) from (List.map_append ..).symm])
        · show acc ++ rs[i] = _
          rw [List.take_succ, hri, List.flatten_append, ← h1']
          simp
        · show (acc ++ rs[i]).length ≤ _
          rw [List.length_append]
          omega
      · rintro ⟨acc, c3⟩ ⟨h1, h2⟩
        have h1' : acc = (rs.take xs.length).flatten := h1
        rw [hlen, List.take_length] at h1'
        subst h1'
        and_intros
        refine srtS (ss := rs.flatten) rfl fun a pa sa => ?_
        and_intros
        refine ixTup at0 ?_
        and_intros
        refine srtS (ss := ts) (d := .tf (plD ts)) rfl fun b pb sb => ?_
        have hsub : ∀ x ∈ rs.flatten, x ∈ ts := fun x hxm => by
          obtain ⟨r, hr, hxr⟩ := List.mem_flatten.mp hxm
          exact (hrs r hr).sub x hxr
        refine eqLS ?_ (fun x hxm => ok.sok x (hsub x (pa.mem_iff.mp hxm))) (fun x hxm => ok.sok x (pb.mem_iff.mp hxm))
        refine cl (q _ ?_)
        rw [decide_eq_true_iff]
        constructor
        · rintro rfl
          have pp : rs.flatten.Perm ts := pa.symm.trans pb
          exact ⟨xs, rs, e, ers, hrs, pp.nodup_iff.mpr ok.nd, pp.length_eq⟩
        · rintro ⟨xs2, rs2, h, h2, P⟩
          rw [e] at h
          cases h
          rw [ers] at h2
          have := tups_inj h2
          subst this
          have pp : rs.flatten.Perm ts := perm_of_sub P.nd hsub (by rw [P.all]; exact Nat.le_refl _)
          exact sorted_uniq (pa.trans (pp.trans pb.symm)) (sortedS_pw sa) (sortedS_pw sb)
    · and_intros
      refine cl (q false ⟨fun h => (by cases h), fun ⟨xs2, rs2, h, h2, P⟩ => ?_⟩)
      rw [e] at h
      cases h
      rw [roads_all h2 P.road] at h3
      cases h3
end
section
open PySem PySem.Spec PyProof.Rows
/-! ### _law_put_together -/
end
section
open PySem PySem.Spec PyProof.Rows
/-! ### free places -/
def FreeS (ts : List (Str × Str)) (r : List Str) : Prop := ∀ (i j : Nat) (a b : Str), i < j → r[i]? = some a → r[j]? = some b → (a, b) ∉ ts ∧ (b, a) ∉ ts
def tiedB (ts : List (Str × Str)) (a b : Str) : Bool := decide ((a, b) ∈ ts) || decide ((b, a) ∈ ts)
theorem slTALo1 {d : D} {xs : List D} {k : Nat} {S : SO} {Q : KD} (e : asTup d = some xs) (hn : 0 < xs.length) (h : Q (.tup (xs.drop (k + 1))) S) : sliD d S (some ((k : Int) + 1)) none Q := by
  cases d with
  | tup ys =>
    cases e
    show Q (.tup (cutD _ _ _)) S
    rw [show cutD xs (some ((k : Int) + 1)) none = xs.drop (k + 1) from cutLo (k := k + 1)]
    exact h
  | tf ys =>
    cases e
    exact slTfLo1 h hn
  | _ => cases e
def sp_is_free (W : Addr) : DSp := fun ds S Q E => ∃ (ps : List Str) (ts : List (Str × Str)) (d : D) (r : List Str), ds = [webD W ps ts, d] ∧ asTup d = some (plD r) ∧ r.length ≤ 100000 ∧ ∀ b : Bool, (b = true ↔ FreeS ts r) → Q (.bl b) S
def w_is_free (W : Addr) : WS := (wSeq (wFor (wEnum (wCons (wV 1) wNil)) (gT 2 (gC (gV 2) (gC (gV 3) gN))) (wIfS (wB (wCall cAny (wCons (wLcP (wSeqI (wSl (wV 1) (pSome (wO oAdd (wV 2) (wC (.int 1)))) pNone)) (.n 4) wYes (wFn (sp_is_tied W) [] (wCons (wV 0) (wCons (wV 3) (wCons (wV 4) wNil)))) [4]) wNil))) (wRet (wC (.bl false))) wNext))
    (wRet (wC (.bl true))))
theorem tied_any {ts : List (Str × Str)} {r : List Str} {i : Nat} {x : Str} : ((r.drop (i + 1)).any (tiedB ts x)) = true ↔ ∃ j b, i < j ∧ r[j]? = some b ∧ ((x, b) ∈ ts ∨ (b, x) ∈ ts) := by
  rw [List.any_eq_true]
  constructor
  · rintro ⟨b, hb, h⟩
    obtain ⟨j, hj⟩ := List.mem_iff_getElem?.mp hb
    rw [List.getElem?_drop] at hj
    refine ⟨i + 1 + j, b, by omega, hj, ?_⟩
    unfold tiedB at h
    rw [Bool.or_eq_true] at h
    exact h.imp of_decide_eq_true of_decide_eq_true
  · rintro ⟨j, b, hj, hb, h⟩
    refine ⟨b, List.mem_iff_getElem?.mpr ⟨j - (i + 1), by rw [List.getElem?_drop, show i + 1 + (j - (i + 1)) = j by omega]; exact hb⟩, ?_⟩
    unfold tiedB
    rw [Bool.or_eq_true]
    exact h.imp decide_eq_true decide_eq_true
theorem pure_is_free (W : Addr) : ∀ ds S Q E, sp_is_free W ds S Q E → w_is_free W (endsOf Q) (startD ["web", "places", "index", "one", "other"] ds) S := by
  rintro ds S Q E ⟨ps, ts, d, r, rfl, e, hl, q⟩
  have hrl : (plD r).length = r.length := List.length_map ..
  refine xFn ?_
  show w_is_free W _ [some _, some _, none, none, none] S
  unfold w_is_free
  and_intros
  refine asTup_seqD e ?_
  refine forE r D.str (fun a : Option D × Option D => [some (webD W ps ts), some d, a.1, a.2, none]) (fun _ => S) (fun i _ => ∀ k, k < i → ∀ x, r[k]? = some x → (r.drop (k + 1)).any (tiedB ts x) = false) (none, none) (fun k hk => by omega) ?_ ?_
  · rintro i x ⟨c2, c3⟩ hx hv
    have hil := (List.getElem?_eq_some_iff.mp hx).1
    and_intros
    refine lcM (r.drop (i + 1)) D.str (fun y => .bl (tiedB ts x y)) ?_ (by rw [List.length_drop]; omega) ?_ ?_
    · and_intros
      refine slTALo1 e (by omega) ?_
      rw [← List.map_drop]
      and_intros
      exact srcT
    · rintro y hy S' e2
      (simp only [prD, putNT, wipeD, putAll, List.set_cons_zero, List.set_cons_succ, List.length_cons, List.length_nil, true_and]; and_intros)
      exact ⟨ps, ts, x, y, rfl, rfl, rfl⟩
    and_intros
    refine isCB (fun h => ?_) (fun h => ?_)
    · and_intros
      refine cl (q false ⟨fun h => (by cases h), fun F => ?_⟩)
      obtain ⟨j, b, hj, hb, hab⟩ := tied_any.mp h
      obtain ⟨n1, n2⟩ := F i j x b hj hx hb
      exact (hab.elim n1 n2).elim
    · and_intros
      refine .of (_, _) fun k hk y hy => ?_
      by_cases hki : k = i
      · subst hki
        rw [hx] at hy
        cases hy
        exact h
      · exact hv k (by omega) y hy
  · rintro ⟨c2, c3⟩ hv
    and_intros
    refine cl (q true ⟨fun _ i j a b hij ha hb => ?_, fun _ => rfl⟩)
    have h := hv i (List.getElem?_eq_some_iff.mp ha).1 a ha
    refine ⟨fun hm => ?_, fun hm => ?_⟩
    · rw [tied_any.mpr ⟨j, b, hij, hb, .inl hm⟩] at h
      cases h
    · rw [tied_any.mpr ⟨j, b, hij, hb, .inr hm⟩] at h
      cases h
def sp_cup_meets (W : Addr) : DSp := fun ds S Q E => ∃ (ts : List Str) (ls : List (Str × Str)) (a b : Str), ds = [netD ts ls, .str a, .str b] ∧ sOk a ∧ sOk b ∧ (∀ t ∈ ls, sOk t.1 ∧ sOk t.2) ∧ Q (.bl (tiedB ls a b)) S
def w_cup_meets (W : Addr) : WS := (wRet (wOrV (wO oIn (wTup (wCons (wV 1) (wCons (wV 2) wNil))) (wO oIx (wV 0) (wC (.int 1)))) (wO oIn (wTup (wCons (wV 2) (wCons (wV 1) wNil))) (wO oIx (wV 0) (wC (.int 1))))))
theorem pure_cup_meets (W : Addr) : ∀ ds S Q E, sp_cup_meets W ds S Q E → w_cup_meets W (endsOf Q) (startD ["_law_net_here", "_law_one", "_law_two"] ds) S := by
  rintro ds S Q E ⟨ts, ls, a, b, rfl, ha, hb, hls, q⟩
  refine xFn ?_
  show w_cup_meets W _ [some _, some _, some _] S
  unfold w_cup_meets
  and_intros
  refine ixTup at1 ?_
  refine inPrs ?_ ha hb hls
  unfold tiedB at q
  refine isD (fun h => ?_) (fun h => ?_)
  · and_intros
    rw [decide_eq_true h, Bool.true_or] at q
    exact cl q
  · and_intros
    refine ixTup at1 ?_
    refine inPrs ?_ hb ha hls
    rw [decide_eq_false h, Bool.false_or] at q
    exact cl q
def sp_cup_is_free (W : Addr) : DSp := fun ds S Q E => ∃ (ts : List Str) (ls : List (Str × Str)) (d : D) (r : List Str), ds = [netD ts ls, d] ∧ asTup d = some (plD r) ∧ r.length ≤ 100000 ∧ (∀ x ∈ r, sOk x) ∧ (∀ t ∈ ls, sOk t.1 ∧ sOk t.2) ∧ ∀ b : Bool, (b = true ↔ FreeS ls r) → Q (.bl b) S
def w_cup_is_free (W : Addr) : WS := (wSeq (wFor (wRng1 (wCons (wCall cLen (wCons (wV 1) wNil)) wNil)) (gV 2) (wIfS (wB (wCall cAny (wCons (wLcP (wRng1 (wCons (wV 2) wNil)) (.n 3) wYes (wFn (sp_cup_meets W) [] (wCons (wV 0) (wCons (wO oIx (wV 1) (wV 3)) (wCons (wO oIx (wV 1) (wV 2)) wNil)))) [3]) wNil))) (wRet (wC (.bl false))) wNext))
    (wRet (wC (.bl true))))
theorem tied_any2 {ts : List (Str × Str)} {r : List Str} {k : Nat} {x : Str} (hk : k ≤ r.length) : ((List.range k).any fun j => tiedB ts (r.getD j Str.empty) x) = true ↔ ∃ j b, j < k ∧ r[j]? = some b ∧ ((b, x) ∈ ts ∨ (x, b) ∈ ts) := by
  rw [List.any_eq_true]
  constructor
  · rintro ⟨j, hj, h⟩
    have hj' := List.mem_range.mp hj
    have g : r[j]? = some r[j] := List.getElem?_eq_getElem (by omega)
    rw [List.getD_eq_getElem?_getD, g] at h
    unfold tiedB at h
    rw [Bool.or_eq_true] at h
    exact ⟨j, _, hj', g, h.imp of_decide_eq_true of_decide_eq_true⟩
  · rintro ⟨j, b, hj, hb, h⟩
    refine ⟨j, List.mem_range.mpr hj, ?_⟩
    rw [List.getD_eq_getElem?_getD, hb]
    unfold tiedB
    rw [Bool.or_eq_true]
    exact h.imp decide_eq_true decide_eq_true
theorem pure_cup_is_free (W : Addr) : ∀ ds S Q E, sp_cup_is_free W ds S Q E → w_cup_is_free W (endsOf Q) (startD ["_law_net_here", "_law_some", "_law_k", "_law_j"] ds) S := by
  rintro ds S Q E ⟨ts, ls, d, r, rfl, e, hl, hr, hls, q⟩
  have hrl : (plD r).length = r.length := List.length_map ..
  refine xFn ?_
  show w_cup_is_free W _ [some _, some _, none, none] S
  unfold w_cup_is_free
  and_intros
  refine asTup_len e ?_
  and_intros
  rw [hrl]
  refine rng1N (by omega) ?_
  refine forR (fun a : Option D => [some (netD ts ls), some d, a, none]) (fun _ => S) (fun i _ => ∀ k, k < i → ∀ x, r[k]? = some x → ((List.range k).any fun j => tiedB ls (r.getD j Str.empty) x) = false) none (fun k hk => by omega) ?_ ?_
  · rintro i c2 hi hv
    have hx := List.getElem?_eq_getElem hi
    and_intros
    refine lcM (List.range i) (fun j : Nat => .int (j : Nat)) (fun j => .bl (tiedB ls (r.getD j Str.empty) r[i])) ?_ (by rw [List.length_range]; omega) ?_ ?_
    · and_intros
      refine rng1N (by omega) ?_
      exact srcR
    · rintro j hj S' e2
      have hj' := List.mem_range.mp hj
      have g : r[j]? = some r[j] := List.getElem?_eq_getElem (by omega)
      (simp only [prD, putNT, wipeD, putAll, List.set_cons_zero, List.set_cons_succ, List.length_cons, List.length_nil, true_and]; and_intros)
      refine asTup_ix e (atM g) ?_
      and_intros
      refine asTup_ix e (atM hx) ?_
      refine ⟨ts, ls, r[j], r[i], rfl, hr _ (List.getElem_mem _), hr _ (List.getElem_mem _), hls, rfl, ?_⟩
      rw [List.getD_eq_getElem?_getD, g]
      rfl
    and_intros
    refine isCB (fun h => ?_) (fun h => ?_)
    · and_intros
      refine cl (q false ⟨fun h => (by cases h), fun F => ?_⟩)
      obtain ⟨j, b, hj, hb, hab⟩ := (tied_any2 (by omega)).mp h
      obtain ⟨n1, n2⟩ := F j i b _ hj hb hx
      exact (hab.elim n1 n2).elim
    · and_intros
      refine .of _ fun k hk y hy => ?_
      by_cases hki : k = i
      · subst hki
        rw [hx] at hy
        cases hy
        exact h
      · exact hv k (by omega) y hy
  · rintro c2 hv
    and_intros
    refine cl (q true ⟨fun _ i j a b hij ha hb => ?_, fun _ => rfl⟩)
    have hjl := (List.getElem?_eq_some_iff.mp hb).1
    have h := hv j hjl b hb
    refine ⟨fun hm => ?_, fun hm => ?_⟩
    · rw [(tied_any2 (by omega)).mpr ⟨i, a, hij, ha, .inl hm⟩] at h
      cases h
    · rw [(tied_any2 (by omega)).mpr ⟨i, a, hij, ha, .inr hm⟩] at h
      cases h
/-! ### witnesses -/
instance : InjD (fun z : D × List Str => D.tup [z.1, .tup (plD z.2)]) := ⟨fun a b e => by
  injection e with e
  injection e with e1 e
  injection e with e2 e
  injection e2 with e2
  exact Prod.ext e1 (plD_inj e2)⟩
end
end L2.DL
namespace L2.DL
local macro_rules | `(tactic| and_intros) => `(tactic| repeat (first | with_reducible refine v0 ?_ | with_reducible refine vS ?_ | with_reducible refine g0 ?_ | with_reducible refine gSu ?_ | with_reducible refine xCons ?_ | with_reducible refine xNil ?_ | with_reducible refine xO ?_ | with_reducible refine xSeq ?_ | with_reducible refine xC ?_ | with_reducible refine xFnC ?_ | with_reducible refine xAsg ?_ | with_reducible refine xCall ?_ | with_reducible refine xIfS ?_ | with_reducible refine xRet ?_ | with_reducible refine xRetN ?_ | with_reducible refine xB ?_ | with_reducible refine xNext ?_ | with_reducible refine gTup ?_ | with_reducible refine gCons ?_ | with_reducible refine gNil ?_ | with_reducible refine xFor ?_ | with_reducible refine iT ?_ | with_reducible refine iF ?_ | with_reducible refine iNT ?_ | with_reducible refine iNF ?_ | with_reducible refine xSeqI ?_ | with_reducible refine xLst ?_ | with_reducible refine xTup ?_ | with_reducible refine xLen ?_ | with_reducible refine xDrop ?_ | with_reducible refine xOr ?_ | with_reducible refine xNot ?_ | with_reducible refine sTup ?_ | with_reducible refine sTf ?_ | with_reducible refine sLst ?_ | with_reducible refine sSrc ?_ | with_reducible refine xBM ?_ | with_reducible refine bmLst ?_ | with_reducible refine bmSrc ?_ | with_reducible refine xSl ?_ | with_reducible refine xPar ?_ | with_reducible refine xPar3 ?_ | with_reducible refine xRng1 ?_ | with_reducible refine pS ?_ | with_reducible refine iAdd ?_ | with_reducible refine lTupM ?_ | with_reducible refine lTfM ?_ | with_reducible refine lLstM ?_ | with_reducible refine lSrcM ?_ | with_reducible refine lTup ?_ | with_reducible refine lTf ?_ | with_reducible refine lLst ?_ | with_reducible refine lSrc ?_ | with_reducible refine lDic ?_ | with_reducible refine iEq ?_ | with_reducible refine sEq ?_ | with_reducible refine xFld ?_ | with_reducible refine isI1 ?_ | with_reducible refine pN ?_ | with_reducible refine iNe ?_ | with_reducible refine sNe ?_ | with_reducible refine xAnd ?_ | with_reducible refine xU ?_ | with_reducible refine int1' ?_ | with_reducible refine xAllM ?_ | with_reducible refine xAnyM ?_ | with_reducible refine xAll ?_ | with_reducible refine isT ?_ | with_reducible refine isF ?_ | with_reducible refine isT' ?_ | with_reducible refine isF' ?_ | with_reducible refine chkWeb ?_ | with_reducible refine iNeg ?_ | with_reducible refine two2' ?_ | with_reducible refine xAndV ?_ | with_reducible refine xIf ?_ | with_reducible refine iSub ?_ | with_reducible refine xNew ?_ | with_reducible refine fldRow ?_ | with_reducible refine slTup ?_ | with_reducible refine slSrc ?_ | with_reducible refine slLst ?_ | with_reducible refine xEnum ?_ | with_reducible refine tfL ?_ | with_reducible refine tuL ?_ | with_reducible refine tuT ?_ | with_reducible refine xMth ?_ | with_reducible refine xSubD ?_ | with_reducible refine iLt ?_ | with_reducible refine xLcF ?_ | with_reducible refine xLcN ?_ | with_reducible refine xCl ?_ | with_reducible refine isN1 ?_ | with_reducible refine isN2 ?_ | with_reducible refine noN2 ?_ | with_reducible refine mthTie ?_ | with_reducible refine hasTie ?_ | with_reducible refine one1 ?_ | with_reducible refine iGt ?_ | with_reducible refine xOrV ?_ | with_reducible refine xTupF ?_ | with_reducible refine fldPairs ?_ | with_reducible refine xStar ?_ | with_reducible refine isiTup ?_ | with_reducible refine isiTf ?_ | with_reducible refine isiStr ?_ | with_reducible refine xNotV ?_ | with_reducible refine int2' ?_ | with_reducible refine iLe ?_ | with_reducible refine xRng2 ?_ | with_reducible refine xMakeF ?_ | with_reducible refine xZip ?_ | with_reducible refine iGe ?_ | with_reducible refine iOr ?_ | with_reducible refine three' ?_ | with_reducible refine xRevU ?_ | with_reducible refine revTup ?_ | with_reducible refine revTf ?_ | with_reducible refine iAnd ?_ | with_reducible refine iModL ?_ | with_reducible refine xDicF ?_ | with_reducible refine xInt ?_ | with_reducible refine xCh ?_ | with_reducible refine xBreak ?_ | with_reducible refine fldMarks ?_ | with_reducible refine xCont ?_ | with_reducible refine xYes ?_ | with_reducible refine andL (by with_unfolding_all exact lez rfl) ?_))
section
open PySem PySem.Spec PyProof.Rows
/-! ### _law_labels -/
end
section
open PySem PySem.Spec PyProof.Rows
/-! ### _law_order -/
abbrev nsD (l : List Nat) : List D := l.map fun i : Nat => D.int (i : Nat)
/-! ### _law_links -/
def ipD (t : Nat × Nat) : D := .tup [.int (t.1 : Nat), .int (t.2 : Nat)]
theorem ipD_inj {a b : Nat × Nat} (h : ipD a = ipD b) : a = b := by
  unfold ipD at h
  injection h with h
  injection h with h1 h
  injection h with h2 h
  injection h1 with h1
  injection h2 with h2
  exact Prod.ext (by omega) (by omega)
instance : InjD ipD := ⟨fun _ _ h => ipD_inj h⟩
end
section
open PySem PySem.Spec PyProof.Rows
/-! ### _law_web, _law_scene -/
theorem nodup_map_on {α β : Type} {f : α → β} : ∀ {l : List α}, (∀ x ∈ l, ∀ y ∈ l, f x = f y → x = y) → l.Nodup → (l.map f).Nodup
  | [], _, _ => List.nodup_nil
  | x :: l, h, n => by
    have n2 := List.nodup_cons.mp n
    refine List.nodup_cons.mpr ⟨fun hm => ?_, nodup_map_on (fun a ha b hb => h a (List.mem_cons_of_mem _ ha) b (List.mem_cons_of_mem _ hb)) n2.2⟩
    obtain ⟨y, hy, e⟩ := List.mem_map.mp hm
    exact n2.1 (h y (List.mem_cons_of_mem _ hy) x (List.mem_cons_self ..) e ▸ hy)
def nmT (ts : List Str) (t : Nat × Nat) : Str × Str := (ts.getD t.1 Str.empty, ts.getD t.2 Str.empty)
abbrev nmL (ts : List Str) (ls : List (Nat × Nat)) : List (Str × Str) := ls.map (nmT ts)
theorem getD_get {ts : List Str} {i : Nat} (h : i < ts.length) : ts[i]? = some (ts.getD i Str.empty) := by
  rw [List.getD_eq_getElem?_getD, List.getElem?_eq_getElem h]
  rfl
theorem getD_inj {ts : List Str} (nd : ts.Nodup) {i j : Nat} (hi : i < ts.length) (hj : j < ts.length) (h : ts.getD i Str.empty = ts.getD j Str.empty) : i = j := nodup_ix nd (getD_get hi) (h ▸ getD_get hj)
/-- names and ties by numbers -/
structure NetI (ts : List Str) (ls : List (Nat × Nat)) : Prop where
  nm : NamesOk ts
  pos : 0 < ts.length
  few : ts.length ≤ 40
  ok : ∀ t ∈ ls, t.1 < ts.length ∧ t.2 < ts.length ∧ t.1 ≠ t.2
  nd : ls.Nodup
  lfew : ls.length ≤ 200
theorem NetI.web {ts : List Str} {ls : List (Nat × Nat)} (h : NetI ts ls) : WebOk ts (nmL ts ls) := by
  refine ⟨h.pos, h.few, h.nm.1, h.nm.2, by rw [List.length_map]; exact h.lfew, fun t ht => ?_, ?_⟩
  · obtain ⟨u, hu, rfl⟩ := List.mem_map.mp ht
    obtain ⟨h1, h2, h3⟩ := h.ok u hu
    exact ⟨List.mem_of_getElem? (getD_get h1), List.mem_of_getElem? (getD_get h2), fun e => h3 (getD_inj h.nm.2 h1 h2 e)⟩
  · have key : ∀ l : List (Nat × Nat), (∀ t ∈ l, t ∈ ls) → l.Nodup → (nmL ts l).Nodup := fun l => by
      induction l with
      | nil => intros; exact List.nodup_nil
      | cons t l ih =>
        intro hs hn
        have hn2 := List.nodup_cons.mp hn
        refine List.nodup_cons.mpr ⟨fun hm => ?_, ih (fun u hu => hs u (List.mem_cons_of_mem _ hu)) hn2.2⟩
        obtain ⟨u, hu, e⟩ := List.mem_map.mp hm
        obtain ⟨a1, a2, _⟩ := h.ok t (hs t (List.mem_cons_self ..))
        obtain ⟨b1, b2, _⟩ := h.ok u (hs u (List.mem_cons_of_mem _ hu))
        unfold nmT at e
        injection e with e1 e2
        have : u = t := Prod.ext (getD_inj h.nm.2 b1 a1 e1) (getD_inj h.nm.2 b2 a2 e2)
        exact hn2.1 (this ▸ hu)
    exact key ls (fun _ h => h) h.nd
end
section
open PySem PySem.Spec PyProof.Rows
/-! ### many lists of numbers, each an object -/
/-! ### numbered -/
end
end L2.DL
namespace L2.DL
open PySem PySem.Spec PyProof.Rows
/-! ### a walk that looks for rings: row the way to here, vals what is left to see at each of its places, ks the places from which no ring is reached, in the order in which that was found -/
end L2.DL

namespace L2.DL
open PySem PySem.Spec PyProof.Rows
/-! ### numbers paired with numbers they lead to: bg for each end the begin, en for each begin the end -/
section
variable {nx : List (List Nat)} {bg en bg1 en1 : List (Option Nat)} {b e0 a : Nat} {T Ti : List Nat}
/-! ### the loop over the leads of b -/
/-! ### all numbers, one after the other -/
end
end L2.DL

namespace L2.DL
local macro_rules | `(tactic| and_intros) => `(tactic| repeat (first | with_reducible refine v0 ?_ | with_reducible refine vS ?_ | with_reducible refine g0 ?_ | with_reducible refine gSu ?_ | with_reducible refine xCons ?_ | with_reducible refine xNil ?_ | with_reducible refine xO ?_ | with_reducible refine xSeq ?_ | with_reducible refine xC ?_ | with_reducible refine xFnC ?_ | with_reducible refine xAsg ?_ | with_reducible refine xCall ?_ | with_reducible refine xIfS ?_ | with_reducible refine xRet ?_ | with_reducible refine xRetN ?_ | with_reducible refine xB ?_ | with_reducible refine xNext ?_ | with_reducible refine gTup ?_ | with_reducible refine gCons ?_ | with_reducible refine gNil ?_ | with_reducible refine xFor ?_ | with_reducible refine iT ?_ | with_reducible refine iF ?_ | with_reducible refine iNT ?_ | with_reducible refine iNF ?_ | with_reducible refine xSeqI ?_ | with_reducible refine xLst ?_ | with_reducible refine xTup ?_ | with_reducible refine xLen ?_ | with_reducible refine xDrop ?_ | with_reducible refine xOr ?_ | with_reducible refine xNot ?_ | with_reducible refine sTup ?_ | with_reducible refine sTf ?_ | with_reducible refine sLst ?_ | with_reducible refine sSrc ?_ | with_reducible refine xBM ?_ | with_reducible refine bmLst ?_ | with_reducible refine bmSrc ?_ | with_reducible refine xSl ?_ | with_reducible refine xPar ?_ | with_reducible refine xPar3 ?_ | with_reducible refine xRng1 ?_ | with_reducible refine pS ?_ | with_reducible refine iAdd ?_ | with_reducible refine lTupM ?_ | with_reducible refine lTfM ?_ | with_reducible refine lLstM ?_ | with_reducible refine lSrcM ?_ | with_reducible refine lTup ?_ | with_reducible refine lTf ?_ | with_reducible refine lLst ?_ | with_reducible refine lSrc ?_ | with_reducible refine lDic ?_ | with_reducible refine iEq ?_ | with_reducible refine sEq ?_ | with_reducible refine xFld ?_ | with_reducible refine isI1 ?_ | with_reducible refine pN ?_ | with_reducible refine iNe ?_ | with_reducible refine sNe ?_ | with_reducible refine xAnd ?_ | with_reducible refine xU ?_ | with_reducible refine int1' ?_ | with_reducible refine xAllM ?_ | with_reducible refine xAnyM ?_ | with_reducible refine xAll ?_ | with_reducible refine isT ?_ | with_reducible refine isF ?_ | with_reducible refine isT' ?_ | with_reducible refine isF' ?_ | with_reducible refine chkWeb ?_ | with_reducible refine iNeg ?_ | with_reducible refine two2' ?_ | with_reducible refine xAndV ?_ | with_reducible refine xIf ?_ | with_reducible refine iSub ?_ | with_reducible refine xNew ?_ | with_reducible refine fldRow ?_ | with_reducible refine slTup ?_ | with_reducible refine slSrc ?_ | with_reducible refine slLst ?_ | with_reducible refine xEnum ?_ | with_reducible refine tfL ?_ | with_reducible refine tuL ?_ | with_reducible refine tuT ?_ | with_reducible refine xMth ?_ | with_reducible refine xSubD ?_ | with_reducible refine iLt ?_ | with_reducible refine xLcF ?_ | with_reducible refine xLcN ?_ | with_reducible refine xCl ?_ | with_reducible refine isN1 ?_ | with_reducible refine isN2 ?_ | with_reducible refine noN2 ?_ | with_reducible refine mthTie ?_ | with_reducible refine hasTie ?_ | with_reducible refine one1 ?_ | with_reducible refine iGt ?_ | with_reducible refine xOrV ?_ | with_reducible refine xTupF ?_ | with_reducible refine fldPairs ?_ | with_reducible refine xStar ?_ | with_reducible refine isiTup ?_ | with_reducible refine isiTf ?_ | with_reducible refine isiStr ?_ | with_reducible refine xNotV ?_ | with_reducible refine int2' ?_ | with_reducible refine iLe ?_ | with_reducible refine xRng2 ?_ | with_reducible refine xMakeF ?_ | with_reducible refine xZip ?_ | with_reducible refine iGe ?_ | with_reducible refine iOr ?_ | with_reducible refine three' ?_ | with_reducible refine xRevU ?_ | with_reducible refine revTup ?_ | with_reducible refine revTf ?_ | with_reducible refine iAnd ?_ | with_reducible refine iModL ?_ | with_reducible refine xDicF ?_ | with_reducible refine xInt ?_ | with_reducible refine xCh ?_ | with_reducible refine xBreak ?_ | with_reducible refine fldMarks ?_ | with_reducible refine xCont ?_ | with_reducible refine xYes ?_ | with_reducible refine andL (by with_unfolding_all exact lez rfl) ?_))
section
open PySem PySem.Spec PyProof.Rows
end
section
open PySem PySem.Spec PyProof.Rows
/-! ### ring_of, ring, ringless -/
end
section
open PySem PySem.Spec PyProof.Rows
/-! ### the law's own look at rings -/
end
section
open PySem PySem.Spec PyProof.Rows
end
section
open PySem PySem.Spec PyProof.Rows
/-- a road by numbers -/
structure RoadI (n : Nat) (ls : List (Nat × Nat)) (rg : List Nat) : Prop where
  ne : rg ≠ []
  nd : rg.Nodup
  low : ∀ v ∈ rg, v < n
  path : ∀ (i a b : Nat), rg[i]? = some a → rg[i + 1]? = some b → (a, b) ∈ ls
abbrev nmR (ts : List Str) (rg : List Nat) : List Str := rg.map fun i => ts.getD i Str.empty
theorem idx_getD {ts : List Str} {i : Nat} (nd : ts.Nodup) (hi : i < ts.length) : List.idxOf (ts.getD i Str.empty) ts = i := by
  rw [List.getD_eq_getElem?_getD, List.getElem?_eq_getElem hi]
  exact nd.idxOf_getElem i hi
end
end L2.DL
namespace L2.DL
local macro_rules | `(tactic| and_intros) => `(tactic| repeat (first | with_reducible refine v0 ?_ | with_reducible refine vS ?_ | with_reducible refine g0 ?_ | with_reducible refine gSu ?_ | with_reducible refine xCons ?_ | with_reducible refine xNil ?_ | with_reducible refine xO ?_ | with_reducible refine xSeq ?_ | with_reducible refine xC ?_ | with_reducible refine xFnC ?_ | with_reducible refine xAsg ?_ | with_reducible refine xCall ?_ | with_reducible refine xIfS ?_ | with_reducible refine xRet ?_ | with_reducible refine xRetN ?_ | with_reducible refine xB ?_ | with_reducible refine xNext ?_ | with_reducible refine gTup ?_ | with_reducible refine gCons ?_ | with_reducible refine gNil ?_ | with_reducible refine xFor ?_ | with_reducible refine iT ?_ | with_reducible refine iF ?_ | with_reducible refine iNT ?_ | with_reducible refine iNF ?_ | with_reducible refine xSeqI ?_ | with_reducible refine xLst ?_ | with_reducible refine xTup ?_ | with_reducible refine xLen ?_ | with_reducible refine xDrop ?_ | with_reducible refine xOr ?_ | with_reducible refine xNot ?_ | with_reducible refine sTup ?_ | with_reducible refine sTf ?_ | with_reducible refine sLst ?_ | with_reducible refine sSrc ?_ | with_reducible refine xBM ?_ | with_reducible refine bmLst ?_ | with_reducible refine bmSrc ?_ | with_reducible refine xSl ?_ | with_reducible refine xPar ?_ | with_reducible refine xPar3 ?_ | with_reducible refine xRng1 ?_ | with_reducible refine pS ?_ | with_reducible refine iAdd ?_ | with_reducible refine lTupM ?_ | with_reducible refine lTfM ?_ | with_reducible refine lLstM ?_ | with_reducible refine lSrcM ?_ | with_reducible refine lTup ?_ | with_reducible refine lTf ?_ | with_reducible refine lLst ?_ | with_reducible refine lSrc ?_ | with_reducible refine lDic ?_ | with_reducible refine iEq ?_ | with_reducible refine sEq ?_ | with_reducible refine xFld ?_ | with_reducible refine isI1 ?_ | with_reducible refine pN ?_ | with_reducible refine iNe ?_ | with_reducible refine sNe ?_ | with_reducible refine xAnd ?_ | with_reducible refine xU ?_ | with_reducible refine int1' ?_ | with_reducible refine xAllM ?_ | with_reducible refine xAnyM ?_ | with_reducible refine xAll ?_ | with_reducible refine isT ?_ | with_reducible refine isF ?_ | with_reducible refine isT' ?_ | with_reducible refine isF' ?_ | with_reducible refine chkWeb ?_ | with_reducible refine iNeg ?_ | with_reducible refine two2' ?_ | with_reducible refine xAndV ?_ | with_reducible refine xIf ?_ | with_reducible refine iSub ?_ | with_reducible refine xNew ?_ | with_reducible refine fldRow ?_ | with_reducible refine slTup ?_ | with_reducible refine slSrc ?_ | with_reducible refine slLst ?_ | with_reducible refine xEnum ?_ | with_reducible refine tfL ?_ | with_reducible refine tuL ?_ | with_reducible refine tuT ?_ | with_reducible refine xMth ?_ | with_reducible refine xSubD ?_ | with_reducible refine xGTl ?_ | with_reducible refine iLt ?_ | with_reducible refine xLcF ?_ | with_reducible refine xLcN ?_ | with_reducible refine xCl ?_ | with_reducible refine isN1 ?_ | with_reducible refine isN2 ?_ | with_reducible refine noN2 ?_ | with_reducible refine mthTie ?_ | with_reducible refine hasTie ?_ | with_reducible refine one1 ?_ | with_reducible refine iGt ?_ | with_reducible refine xOrV ?_ | with_reducible refine xTupF ?_ | with_reducible refine fldPairs ?_ | with_reducible refine xStar ?_ | with_reducible refine isiTup ?_ | with_reducible refine isiTf ?_ | with_reducible refine isiStr ?_ | with_reducible refine xNotV ?_ | with_reducible refine int2' ?_ | with_reducible refine iLe ?_ | with_reducible refine xRng2 ?_ | with_reducible refine xMakeF ?_ | with_reducible refine xZip ?_ | with_reducible refine iGe ?_ | with_reducible refine iOr ?_ | with_reducible refine three' ?_ | with_reducible refine xRevU ?_ | with_reducible refine revTup ?_ | with_reducible refine revTf ?_ | with_reducible refine iAnd ?_ | with_reducible refine iModL ?_ | with_reducible refine xDicF ?_ | with_reducible refine xInt ?_ | with_reducible refine xCh ?_ | with_reducible refine xBreak ?_ | with_reducible refine fldMarks ?_ | with_reducible refine xCont ?_ | with_reducible refine xYes ?_ | with_reducible refine andL (by with_unfolding_all exact lez rfl) ?_))
section
open PySem PySem.Spec PyProof.Rows
def rowL (r : List Str) : D := .lst (plD r)
def partD (rs : List (List Str)) : D := .lst (rs.map rowL)
instance : InjD rowL := ⟨fun a b e => by
  unfold rowL plD at e
  injection e with e
  exact map_inj e⟩
theorem at_rowL {r : List Str} (h : r ≠ []) : atI (plD r) (-1) = some (.str (lastS r)) := atI_last (by unfold plD; rw [List.getLast?_map, lstS_eq h]; rfl)
def sp_tied_lasts (W : Addr) : DSp := fun ds S Q E => ∃ (ps : List Str) (ts : List (Str × Str)) (rs : List (List Str)), ds = [webD W ps ts, partD rs] ∧ (∀ r ∈ rs, r ≠ []) ∧ rs.length ≤ 1000 ∧
  ((∀ (i j : Nat) (q r : List Str), i ≠ j → rs[i]? = some q → rs[j]? = some r → (lastS q, lastS r) ∉ ts) → Q .non S) ∧
  (∀ (i j : Nat) (q r : List Str), i ≠ j → rs[i]? = some q → rs[j]? = some r → (lastS q, lastS r) ∈ ts → Q (.tup [.int (i : Nat), .int (j : Nat)]) S)
def w_tied_lasts (W : Addr) : WS := (wSeq (wFor (wEnum (wCons (wV 1) wNil)) (gT 2 (gC (gV 2) (gC (gV 3) gN))) (wFor (wEnum (wCons (wV 1) wNil)) (gT 2 (gC (gV 4) (gC (gV 5) gN))) (wIfS (wAnd (wB (wO oNe (wV 2) (wV 4))) (wB (wMeth W "has_tie" (sp_Web_has_tie W) [] (wV 0) (wCons (wO oIx (wV 3) (wU oNeg (wC (.int 1)))) (wCons (wO oIx (wV 5) (wU oNeg (wC (.int 1)))) wNil))))) (wRet (wTup (wCons (wV 2) (wCons (wV 4) wNil)))) wNext)))
    (wRet (wC .non)))
theorem pure_tied_lasts (W : Addr) : ∀ ds S Q E, sp_tied_lasts W ds S Q E → w_tied_lasts W (endsOf Q) (startD ["web", "parting", "begin", "road", "end", "other"] ds) S := by
  rintro ds S Q E ⟨ps, ts, rs, rfl, hne, hl, q0, q1⟩
  refine xFn ?_
  show w_tied_lasts W _ [some _, some _, none, none, none, none] S
  unfold w_tied_lasts partD
  and_intros
  refine forE rs rowL (fun x : Option D × Option D × Option D × Option D => [some (webD W ps ts), some (partD rs), x.1, x.2.1, x.2.2.1, x.2.2.2]) (fun _ => S) (fun i _ => ∀ (i' j : Nat) (q r : List Str), i' < i → i' ≠ j → rs[i']? = some q → rs[j]? = some r → (lastS q, lastS r) ∉ ts) (none, none, none, none) (fun i' j q r h => absurd h (Nat.not_lt_zero _)) ?_ ?_
  · rintro i q ⟨x1, x2, x3, x4⟩ hq hv
    unfold partD
    and_intros
    refine forE rs rowL (fun x : Option D × Option D => [some (webD W ps ts), some (partD rs), some (.int (i : Nat)), some (rowL q), x.1, x.2]) (fun _ => S) (fun j _ => ∀ (j' : Nat) (r : List Str), j' < j → i ≠ j' → rs[j']? = some r → (lastS q, lastS r) ∉ ts) (x3, x4) (fun j' r h => absurd h (Nat.not_lt_zero _)) ?_ ?_
    · rintro j r ⟨y1, y2⟩ hr hv2
      and_intros
      have next : ∀ y, ((i ≠ j → (lastS q, lastS r) ∉ ts) → Turn (fun x : Option D × Option D => [some (webD W ps ts), some (partD rs), some (.int (i : Nat)), some (rowL q), x.1, x.2]) (fun _ => S) (fun j _ => ∀ (j' : Nat) (r : List Str), j' < j → i ≠ j' → rs[j']? = some r → (lastS q, lastS r) ∉ ts) (j + 1) [some (webD W ps ts), some (partD rs), some (.int (i : Nat)), some (rowL q), some (.int (j : Nat)), y] S) := fun y hn => by
        refine .of (some (.int (j : Nat)), y) fun j' r' hj hij hr' => ?_
        by_cases e : j' = j
        · subst e
          rw [hr] at hr'
          cases hr'
          exact hn hij
        · exact hv2 j' r' (by omega) hij hr'
      refine isND (fun he => ?_) fun he => ?_
      · and_intros
        exact next _ fun h => absurd (by omega) h
      · unfold rowL
        and_intros
        refine ixLst (at_rowL (hne q (List.mem_of_getElem? hq))) ?_
        and_intros
        refine ixLst (at_rowL (hne r (List.mem_of_getElem? hr))) ?_
        and_intros
        refine isD (fun h => ?_) fun h => ?_
        · and_intros
          exact cl (q1 i j q r (by omega) hq hr h)
        · and_intros
          exact next _ fun _ => h
    · rintro ⟨y1, y2⟩ hv2
      refine .of (some (.int (i : Nat)), some (rowL q), y1, y2) fun i' j q' r hi hij hq' hr => ?_
      by_cases e : i' = i
      · subst e
        rw [hq] at hq'
        cases hq'
        exact hv2 j r (List.getElem?_eq_some_iff.mp hr).1 hij hr
      · exact hv i' j q' r (by omega) hij hq' hr
  · rintro ⟨x1, x2, x3, x4⟩ hv
    and_intros
    exact cl (q0 fun i j q r hij hq hr => hv i j q r (List.getElem?_eq_some_iff.mp hq).1 hij hq hr)
def sp_without (W : Addr) : DSp := fun ds S Q E => ∃ (rs : List (List Str)) (k : Nat), ds = [partD rs, .int (k : Nat)] ∧ rs.length ≤ 1000 ∧ Q (partD (rs.eraseIdx k)) S
def w_without (W : Addr) : WS := (wRet (wLcP (wEnum (wCons (wV 0) wNil)) (.t [2, 3]) (wB (wO oNe (wV 2) (wV 1))) (wV 3) [2, 3]))
theorem zipIdx_erase {α : Type} : ∀ (l : List α) (k n : Nat), ((l.zipIdx n).filter fun z => !decide (z.2 = n + k)).map (·.1) = l.eraseIdx k
  | [], _, _ => rfl
  | x :: l, 0, n => by
    rw [List.zipIdx_cons, List.filter_cons, if_neg (by simp)]
    have key : ∀ (l : List α) (m : Nat), n < m → ((l.zipIdx m).filter fun z => !decide (z.2 = n + 0)).map (·.1) = l := fun l => by
      induction l with
      | nil => intros; rfl
      | cons y l ih =>
        intro m hm
        rw [List.zipIdx_cons, List.filter_cons, if_pos (by simp; omega), List.map_cons, ih (m + 1) (by omega)]
    exact key l (n + 1) (by omega)
  | x :: l, k + 1, n => by
    rw [List.zipIdx_cons, List.filter_cons, if_pos (by simp), List.map_cons, List.eraseIdx_cons_succ]
    have := zipIdx_erase l k (n + 1)
    rw [← this, show n + (k + 1) = n + 1 + k by omega]
theorem pure_without (W : Addr) : ∀ ds S Q E, sp_without W ds S Q E → w_without W (endsOf Q) (startD ["parting", "index", "at", "road"] ds) S := by
  rintro ds S Q E ⟨rs, k, rfl, hl, q⟩
  refine xFn ?_
  show w_without W _ [some _, some _, none, none] S
  unfold w_without partD
  and_intros
  refine lcF rs.zipIdx (fun z : List Str × Nat => D.tup [.int (z.2 : Nat), rowL z.1]) (fun z => !decide (z.2 = k)) (fun z => rowL z.1) ?_ (by rw [List.length_zipIdx]; omega) (fun z hz S' e => ?_) ?_
  · and_intros
    exact srcE
  · (simp only [prD, putNT, wipeD, putAll, List.set_cons_zero, List.set_cons_succ, List.length_cons, List.length_nil, true_and]; and_intros)
    have e2 : (!decide (((z.2 : Nat) : Int) = (k : Nat))) = !decide (z.2 = k) := by
      congr 1
      exact decide_eq_decide.mpr (by omega)
    rw [e2]
    refine lcKI fun _ => ?_
    and_intros
    exact ⟨rfl, rfl⟩
  · have z := zipIdx_erase rs k 0
    simp only [Nat.zero_add] at z
    have e : (rs.zipIdx.filter fun z => !decide (z.2 = k)).map (fun z => rowL z.1) = (rs.eraseIdx k).map rowL := by
      rw [← z, List.map_map]
      rfl
    rw [e]
    exact cl q
def sp_behind (W : Addr) : DSp := fun ds S Q E => ∃ (rs : List (List Str)) (x y : Str), ds = [partD rs, .str x, .str y] ∧ (∀ r ∈ rs, r ≠ [] ∧ r.length ≤ 1000) ∧ rs.length ≤ 1000 ∧ Q (partD (behindL rs x y)) S
def w_behind (W : Addr) : WS := (wRet (wLcP (wSeqI (wV 0)) (.n 3) wYes (wIf (wB (wO oEq (wO oIx (wV 3) (wU oNeg (wC (.int 1)))) (wV 1))) (wLst (wStar (wV 3) (wCons (wV 2) wNil))) (wV 3)) [3]))
theorem pure_behind (W : Addr) : ∀ ds S Q E, sp_behind W ds S Q E → w_behind W (endsOf Q) (startD ["parting", "place", "fresh", "road"] ds) S := by
  rintro ds S Q E ⟨rs, x, y, rfl, hne, hl, q⟩
  refine xFn ?_
  show w_behind W _ [some _, some _, some _, none] S
  unfold w_behind partD
  and_intros
  refine lcM rs rowL (fun r => rowL (if lastS r = x then r ++ [y] else r)) ?_ (by omega) (fun r hr S' e => ?_) ?_
  · and_intros
    exact srcT
  · obtain ⟨h1, h2⟩ := hne r hr
    unfold rowL
    (simp only [prD, putNT, wipeD, putAll, List.set_cons_zero, List.set_cons_succ, List.length_cons, List.length_nil, true_and]; and_intros)
    refine ixLst (at_rowL h1) ?_
    and_intros
    refine isD (fun h => ?_) fun h => ?_
    · and_intros
      refine ⟨_, rfl, ?_⟩
      and_intros
      refine ⟨by rw [List.length_append, List.length_map, List.length_singleton]; omega, rfl, ?_⟩
      rw [if_pos h]
      unfold plD
      rw [List.map_append]
      rfl
    · and_intros
      rw [if_neg h]
      exact ⟨rfl, rfl⟩
  · have e : partD (behindL rs x y) = .lst (rs.map fun r => rowL (if lastS r = x then r ++ [y] else r)) := by
      unfold partD behindL
      rw [List.map_map]
      rfl
    rw [← e]
    exact cl q
def sp_given_back (W : Addr) : DSp := fun ds S Q E => ∃ (rs : List (List Str)) (a x y : Str), ds = [partD rs, .str a, .str x, .str y] ∧ (∀ r ∈ rs, r ≠ [] ∧ r.length ≤ 1000 ∧ ∀ z ∈ r, sOk z) ∧ rs.length ≤ 1000 ∧ sOk a ∧ sOk x ∧ Q (partD (givenL rs a x y)) S
def w_given_back (W : Addr) : WS := (wSeq (wAsg (wLcP (wSeqI (wV 0)) (.n 5) wYes (wO oIx (wV 5) (wU oNeg (wC (.int 1)))) [5]) (gV 4))
    (wSeq (wIfS (wB (wO oIn (wV 1) (wV 4))) (wRet (wFn (sp_behind W) [] (wCons (wV 0) (wCons (wV 1) (wCons (wV 3) wNil))))) wNext)
    (wRet (wIf (wB (wO oIn (wV 2) (wV 4))) (wFn (sp_behind W) [] (wCons (wV 0) (wCons (wV 2) (wCons (wV 3) wNil)))) (wLst (wStar (wV 0) (wCons (wLst (wCons (wV 3) wNil)) wNil)))))))
theorem pure_given_back (W : Addr) : ∀ ds S Q E, sp_given_back W ds S Q E → w_given_back W (endsOf Q) (startD ["parting", "ahead", "other", "fresh", "ends", "road"] ds) S := by
  rintro ds S Q E ⟨rs, a, x, y, rfl, hne, hl, ha, hx, q⟩
  have hs : ∀ z ∈ lasts rs, sOk z := fun z hz => by
    obtain ⟨r, hr, rfl⟩ := List.mem_map.mp hz
    exact (hne r hr).2.2 _ (lastS_mem (hne r hr).1)
  refine xFn ?_
  show w_given_back W _ [some _, some _, some _, some _, none, none] S
  unfold w_given_back partD
  and_intros
  refine lcM rs rowL (fun r => .str (lastS r)) ?_ (by omega) (fun r hr S' e => ?_) ?_
  · and_intros
    exact srcT
  · unfold rowL
    (simp only [prD, putNT, wipeD, putAll, List.set_cons_zero, List.set_cons_succ, List.length_cons, List.length_nil, true_and]; and_intros)
    refine ixLst (at_rowL (hne r hr).1) ?_
    exact ⟨rfl, rfl⟩
  have e : rs.map (fun r => D.str (lastS r)) = plD (lasts rs) := by
    unfold plD lasts
    rw [List.map_map]
    rfl
  rw [e]
  and_intros
  refine inLst (x := a) (xs := lasts rs) ?_ ha hs
  unfold givenL at q
  refine isD (fun h => ?_) fun h => ?_
  · rw [if_pos h] at q
    and_intros
    exact ⟨rs, a, y, rfl, fun r hr => ⟨(hne r hr).1, (hne r hr).2.1⟩, hl, cl q⟩
  · rw [if_neg h] at q
    and_intros
    refine inLst (x := x) (xs := lasts rs) ?_ hx hs
    refine isD (fun h => ?_) fun h => ?_
    · rw [if_pos h] at q
      and_intros
      exact ⟨rs, x, y, rfl, fun r hr => ⟨(hne r hr).1, (hne r hr).2.1⟩, hl, cl q⟩
    · rw [if_neg h] at q
      and_intros
      refine ⟨_, rfl, ?_⟩
      and_intros
      refine ⟨by rw [List.length_append, List.length_map, List.length_singleton]; omega, ?_⟩
      unfold partD at q
      rw [List.map_append] at q
      exact cl q
end
section
open PySem PySem.Spec PyProof.Rows
theorem cutM1 {xs : List D} : cutD xs none (some (-1)) = xs.dropLast := by
  unfold cutD
  show (xs.drop 0).take ((if (-1 : Int) < 0 then ((-1 : Int) + (xs.length : Int)).toNat else min (-1 : Int).toNat xs.length) - 0) = _
  rw [if_pos (by decide), List.drop_zero, List.dropLast_eq_take]
  congr 1
  omega
theorem atI_neg2 {α : Type} {xs : List α} {x y : α} : atI (xs ++ [y, x]) (-2) = some y := by
  have e : ixN (xs ++ [y, x]).length (-2) = some xs.length := by
    rw [List.length_append]
    unfold ixN
    rw [if_neg (by decide), if_pos (by simp; omega)]
    congr 1
    simp
    omega
  unfold atI
  rw [e]
  show (xs ++ [y, x])[xs.length]? = _
  rw [List.getElem?_append_right (Nat.le_refl _), Nat.sub_self]
  rfl
theorem set_map_zip {α : Type} (f : α → α) : ∀ (l : List α) (k n : Nat), ((l.zipIdx n).map fun z => if z.2 = n + k then f z.1 else z.1) = (match l[k]? with | some x => l.set k (f x) | none => l)
  | [], _, _ => rfl
  | x :: l, 0, n => by
    rw [List.zipIdx_cons, List.map_cons, if_pos (by simp)]
    have key : ∀ (l : List α) (m : Nat), n < m → ((l.zipIdx m).map fun z => if z.2 = n + 0 then f z.1 else z.1) = l := fun l => by
      induction l with
      | nil => intros; rfl
      | cons y l ih =>
        intro m hm
        rw [List.zipIdx_cons, List.map_cons, if_neg (by simp; omega), ih (m + 1) (by omega)]
    rw [key l (n + 1) (by omega)]
    rfl
  | x :: l, k + 1, n => by
    rw [List.zipIdx_cons, List.map_cons, if_neg (by simp)]
    have := set_map_zip f l k (n + 1)
    rw [show n + 1 + k = n + (k + 1) by omega] at this
    rw [this, List.getElem?_cons_succ]
    cases l[k]? <;> rfl
theorem split_at_ix {α : Type} {l : List α} {k : Nat} {x : α} (h : l[k]? = some x) : l = l.take k ++ x :: l.drop (k + 1) := by
  obtain ⟨hk, e⟩ := List.getElem?_eq_some_iff.mp h
  rw [← e, List.getElem_cons_drop, List.take_append_drop]
theorem set_split {α : Type} {l : List α} {k : Nat} {x y : α} (h : l[k]? = some x) : l.set k y = l.take k ++ y :: l.drop (k + 1) := by
  have hk := (List.getElem?_eq_some_iff.mp h).1
  rw [List.set_eq_take_append_cons_drop, if_pos hk]
theorem erase_split {α : Type} {l : List α} {k : Nat} : l.eraseIdx k = l.take k ++ l.drop (k + 1) := List.eraseIdx_eq_take_drop_succ ..
theorem PartS.size {ps : List Str} {ts : List (Str × Str)} {rs : List (List Str)} (h : PartS ps ts rs) : rs.length ≤ rs.flatten.length := flat_len fun r hr => List.length_pos_iff.mpr (h.ne r hr)
theorem PartS.few {ps : List Str} {ts : List (Str × Str)} {rs : List (List Str)} (h : PartS ps ts rs) : rs.flatten.length ≤ ps.length := nodup_le h.nd fun x hx => by
  obtain ⟨r, hr, hx⟩ := List.mem_flatten.mp hx
  exact (h.road r hr).sub x hx
theorem PartS.rlen {ps : List Str} {ts : List (Str × Str)} {rs : List (List Str)} (h : PartS ps ts rs) {r : List Str} (hr : r ∈ rs) : r.length ≤ ps.length := nodup_le (h.road r hr).nd (h.road r hr).sub
def sp_step_of : Nat → Addr → DSp
  | 0, _ => fun _ _ _ _ => False
  | n + 1, W => fun ds S Q E => ∃ (ps : List Str) (ts : List (Str × Str)) (rs : List (List Str)), ds = [webD W ps ts, partD rs] ∧ WebOk ps ts ∧ PartS ps ts rs ∧ rs.flatten.length ≤ n ∧
    (∀ w, WitS ts rs w → (∀ x ∈ w, x ∈ ps) → Q (.tup [.lst (plD w), .non]) S) ∧ (∀ rs', Stp ps ts rs rs' → Q (.tup [.non, partD rs']) S)
def w_step_of (n : Nat) (W : Addr) : WS := (wSeq (wAsg (wFn (sp_tied_lasts W) [] (wCons (wV 0) (wCons (wV 1) wNil))) (gV 2))
    (wSeq (wIfS (wB (wO oIsN (wV 2) (wC .non))) (wRet (wTup (wCons (wLcP (wSeqI (wV 1)) (.n 10) wYes (wO oIx (wV 10) (wU oNeg (wC (.int 1)))) [10]) (wCons (wC .non) wNil)))) wNext)
    (wSeq (wAsg (wV 2) (gT 2 (gC (gV 3) (gC (gV 4) gN))))
    (wSeq (wPar 5 6 (wCons (wO oIx (wO oIx (wV 1) (wV 3)) (wU oNeg (wC (.int 1)))) (wCons (wO oIx (wO oIx (wV 1) (wV 4)) (wU oNeg (wC (.int 1)))) wNil)))
    (wSeq (wIfS (wB (wO oEq (wCall cLen (wCons (wO oIx (wV 1) (wV 4)) wNil)) (wC (.int 1)))) (wRet (wTup (wCons (wC .non) (wCons (wFn (sp_behind W) [] (wCons (wFn (sp_without W) [] (wCons (wV 1) (wCons (wV 4) wNil))) (wCons (wV 5) (wCons (wV 6) wNil)))) wNil)))) wNext)
    (wSeq (wAsg (wLcP (wEnum (wCons (wV 1) wNil)) (.t [11, 10]) wYes (wIf (wB (wO oEq (wV 11) (wV 4))) (wSl (wV 10) pNone (pSome (wU oNeg (wC (.int 1))))) (wV 10)) [11, 10]) (gV 7))
    (wSeq (wAsg (wFn (sp_step_of n W) [] (wCons (wV 0) (wCons (wV 7) wNil))) (gT 2 (gC (gV 8) (gC (gV 9) gN))))
    (wSeq (wIfS (wB (wO oNotN (wV 8) (wC .non))) (wRet (wTup (wCons (wV 8) (wCons (wC .non) wNil)))) wNext)
    (wRet (wTup (wCons (wC .non) (wCons (wFn (sp_given_back W) [] (wCons (wV 9) (wCons (wO oIx (wO oIx (wV 1) (wV 4)) (wU oNeg (wC (.int 2)))) (wCons (wV 5) (wCons (wV 6) wNil))))) wNil))))))))))))
theorem len_step_of (n : Nat) (W : Addr) : ∀ ds S Q E, sp_step_of n W ds S Q E → ds.length = 2 := by
  rintro ds S Q E h
  cases n with
  | zero => exact h.elim
  | succ n =>
    obtain ⟨ps, ts, rs, rfl, _⟩ := h
    rfl
theorem pure_step_of (n : Nat) (W : Addr) : ∀ ds S Q E, sp_step_of (n + 1) W ds S Q E → w_step_of n W (endsOf Q) (startD ["web", "parting", "found", "begin", "end", "other", "fresh", "shorter", "witness", "later", "road", "at"] ds) S := by
  rintro ds S Q E ⟨ps, ts, rs, rfl, ok, P, hn, q0, q1⟩
  have hfew := ok.few
  have hsz := P.size
  have hps := P.few
  have hrl : ∀ r ∈ rs, r.length ≤ 1000 := fun r hr => Nat.le_trans (P.rlen hr) (by omega)
  refine xFn ?_
  show w_step_of n W _ [some _, some _, none, none, none, none, none, none, none, none, none, none] S
  unfold w_step_of partD
  and_intros
  refine ⟨ps, ts, rs, rfl, P.ne, by omega, fun hno => ?_, fun i j q r hij hq hr ht => ?_⟩
  · and_intros
    refine lcM rs rowL (fun r => .str (lastS r)) ?_ (by omega) (fun r hr S' e => ?_) ?_
    · and_intros
      exact srcT
    · unfold rowL
      (simp only [prD, putNT, wipeD, putAll, List.set_cons_zero, List.set_cons_succ, List.length_cons, List.length_nil, true_and]; and_intros)
      refine ixLst (at_rowL (P.ne r hr)) ?_
      exact ⟨rfl, rfl⟩
    · have e : rs.map (fun r => D.str (lastS r)) = plD (lasts rs) := by
        unfold plD lasts
        rw [List.map_map]
        rfl
      rw [e]
      and_intros
      exact cl (q0 _ (wit_lasts P hno) fun x hx => by
        obtain ⟨r, hr, rfl⟩ := List.mem_map.mp hx
        exact (P.road r hr).sub _ (lastS_mem (P.ne r hr)))
  · have hqm := List.mem_of_getElem? hq
    have hrm := List.mem_of_getElem? hr
    have eA := split_at_ix hr
    have eS := set_split (y := r.dropLast) hr
    have eE := erase_split (l := rs) (k := j)
    have hqo : q ∈ rs.take j ++ rs.drop (j + 1) := by
      rw [← eE]
      obtain ⟨hi, e⟩ := List.getElem?_eq_some_iff.mp hq
      rw [List.mem_eraseIdx_iff_getElem?]
      exact ⟨i, hij, hq⟩
    have hlo : lastS q ∈ lasts (rs.take j ++ rs.drop (j + 1)) := List.mem_map.mpr ⟨q, hqo, rfl⟩
    generalize hA : rs.take j = A at *
    generalize hB : rs.drop (j + 1) = B at *
    and_intros
    refine isNB rfl ?_
    and_intros
    refine ixLst (atM (l := rs) (f := rowL) hq) ?_
    unfold rowL
    and_intros
    refine ixLst (at_rowL (P.ne q hqm)) ?_
    and_intros
    refine ixLst (atM (l := rs) (f := rowL) hr) ?_
    unfold rowL
    and_intros
    refine ixLst (at_rowL (P.ne r hrm)) ?_
    and_intros
    refine ixLst (atM (l := rs) (f := rowL) hr) ?_
    unfold rowL
    and_intros
    refine isD (fun h1 => ?_) fun h1 => ?_
    · have e1 : r = [lastS r] := by
        have := lst_split (P.ne r hrm)
        have l : r.dropLast.length = 0 := by rw [List.length_dropLast]; omega
        rw [List.length_eq_zero_iff.mp l] at this
        exact this
      have P1 : PartS ps ts (A ++ [lastS r] :: B) := by rw [← e1, ← eA]; exact P
      and_intros
      refine ⟨rs, j, rfl, by omega, ?_⟩
      rw [eE]
      and_intros
      have P2 := P1.mid.2.1
      have lenAB : (A ++ B).length ≤ rs.length := by rw [← eE]; exact List.length_eraseIdx_le ..
      refine ⟨A ++ B, lastS q, lastS r, rfl, fun x hx => ⟨P2.ne x hx, Nat.le_trans (P2.rlen hx) (by omega)⟩, by omega, ?_⟩
      and_intros
      have st := step_alone P1 hlo ht
      rw [← e1, ← eA] at st
      exact cl (q1 _ st)
    · have hd : r.dropLast ≠ [] := fun e => by
        have l : r.dropLast.length = 0 := by rw [e]; rfl
        rw [List.length_dropLast] at l
        have := List.length_pos_iff.mpr (P.ne r hrm)
        omega
      have e1 := lst_split (P.ne r hrm)
      have P1 : PartS ps ts (A ++ (r.dropLast ++ [lastS r]) :: B) := by rw [← e1, ← eA]; exact P
      have P2 := P1.short hd
      have pm := short_perm (A := A) (B := B) (r := r.dropLast) (fresh := lastS r)
      have hlen : (A ++ r.dropLast :: B).flatten.length + 1 = rs.flatten.length := by
        have := pm.length_eq
        rw [← e1, ← eA, List.length_cons] at this
        exact this.symm
      and_intros
      refine lcM rs.zipIdx (fun z : List Str × Nat => D.tup [.int (z.2 : Nat), rowL z.1]) (fun z => rowL (if z.2 = j then z.1.dropLast else z.1)) ?_ (by rw [List.length_zipIdx]; omega) (fun z hz S' e => ?_) ?_
      · and_intros
        exact srcE
      · (simp only [prD, putNT, wipeD, putAll, List.set_cons_zero, List.set_cons_succ, List.length_cons, List.length_nil, true_and]; and_intros)
        refine isD (fun h => ?_) fun h => ?_
        · unfold rowL
          and_intros
          rw [cutM1, if_pos (by omega)]
          refine ⟨rfl, ?_⟩
          unfold plD
          rw [List.map_dropLast]
        · and_intros
          rw [if_neg (by omega)]
          exact ⟨rfl, rfl⟩
      have es : (rs.zipIdx.map fun z : List Str × Nat => rowL (if z.2 = j then z.1.dropLast else z.1)) = (A ++ r.dropLast :: B).map rowL := by
        have z := set_map_zip (fun r : List Str => r.dropLast) rs j 0
        rw [hr] at z
        have z2 : (rs.zipIdx.map fun z : List Str × Nat => if z.2 = 0 + j then z.1.dropLast else z.1) = rs.set j r.dropLast := z
        rw [eS] at z2
        rw [← z2, List.map_map]
        refine List.map_congr_left fun y _ => ?_
        show rowL _ = rowL _
        rw [Nat.zero_add]
      rw [es]
      and_intros
      cases n with
      | zero => omega
      | succ n =>
        refine ⟨ps, ts, _, rfl, ok, P2, by omega, fun w hw hwm => ?_, fun later st => ?_⟩
        · have up := wit_up (fresh := lastS r) hw
          rw [← e1, ← eA] at up
          and_intros
          refine isYB rfl ?_
          and_intros
          exact cl (q0 w up hwm)
        · have st2 := step_back P1 hd hlo ht st
          rw [← e1, ← eA] at st2
          and_intros
          refine isNB rfl ?_
          unfold partD
          and_intros
          refine ixLst (atM (l := rs) (f := rowL) hr) ?_
          unfold rowL
          and_intros
          refine ixLst (d := .str (lastS r.dropLast)) ?_ ?_
          · have e2 := lst_split hd
            have e3 : r = r.dropLast.dropLast ++ [lastS r.dropLast, lastS r] := by
              rw [e2] at e1
              rw [List.append_assoc] at e1
              exact e1
            generalize r.dropLast.dropLast = r0 at e3
            generalize lastS r.dropLast = y0 at e3
            generalize lastS r = x0 at e3
            subst e3
            show atI ((r0 ++ [y0, x0]).map D.str) (-2) = _
            rw [List.map_append]
            exact atI_neg2
          and_intros
          have lsz := st.part.size
          have lps := st.part.few
          refine ⟨later, lastS r.dropLast, lastS q, lastS r, rfl, fun x hx => ⟨st.part.ne x hx, Nat.le_trans (st.part.rlen hx) (by omega), fun y hy => ok.sok y ((st.part.road x hx).sub y hy)⟩, by omega, ok.sok _ ((P.road r hrm).sub _ ((List.dropLast_sublist r).subset (lastS_mem hd))), ok.sok _ ((P.road q hqm).sub _ (lastS_mem (P.ne q hqm))), ?_⟩
          and_intros
          exact cl (q1 _ st2)
end
section
open PySem PySem.Spec PyProof.Rows
/-! ### _law_order as a list that changes -/
/-! ### as_lists, as_tuples, step -/
def rowT (r : List Str) : D := .tf (plD r)
abbrev tfD (rs : List (List Str)) : D := .tf (rs.map rowT)
instance : InjD rowT := ⟨fun a b e => by
  unfold rowT plD at e
  injection e with e
  exact map_inj e⟩
def sp_as_lists (W : Addr) : DSp := fun ds S Q E => ∃ (rs : List (List Str)), ds = [tfD rs] ∧ rs.length ≤ 1000 ∧ Q (partD rs) S
def w_as_lists (W : Addr) : WS := (wRet (wLcP (wSeqI (wV 0)) (.n 1) wYes (wCall cList (wCons (wV 1) wNil)) [1]))
theorem pure_as_lists (W : Addr) : ∀ ds S Q E, sp_as_lists W ds S Q E → w_as_lists W (endsOf Q) (startD ["parting", "road"] ds) S := by
  rintro ds S Q E ⟨rs, rfl, hl, q⟩
  refine xFn ?_
  show w_as_lists W _ [some _, none] S
  unfold w_as_lists
  and_intros
  refine lcM rs rowT rowL ?_ (by omega) (fun r hr S' e => ?_) ?_
  · and_intros
    exact srcT
  · unfold rowT
    (simp only [prD, putNT, wipeD, putAll, List.set_cons_zero, List.set_cons_succ, List.length_cons, List.length_nil, true_and]; and_intros)
    exact liS rfl ⟨rfl, rfl⟩
  · exact cl q
def sp_as_tuples (W : Addr) : DSp := fun ds S Q E => ∃ (rs : List (List Str)), ds = [partD rs] ∧ rs.length ≤ 1000 ∧ Q (tfD rs) S
def w_as_tuples (W : Addr) : WS := (wRet (wCall cTupleF (wCons (wLcP (wSeqI (wV 0)) (.n 1) wYes (wCall cTupleF (wCons (wV 1) wNil)) [1]) wNil)))
theorem pure_as_tuples (W : Addr) : ∀ ds S Q E, sp_as_tuples W ds S Q E → w_as_tuples W (endsOf Q) (startD ["parting", "road"] ds) S := by
  rintro ds S Q E ⟨rs, rfl, hl, q⟩
  refine xFn ?_
  show w_as_tuples W _ [some _, none] S
  unfold w_as_tuples partD
  and_intros
  refine lcM rs rowL rowT ?_ (by omega) (fun r hr S' e => ?_) ?_
  · and_intros
    exact srcT
  · unfold rowL
    (simp only [prD, putNT, wipeD, putAll, List.set_cons_zero, List.set_cons_succ, List.length_cons, List.length_nil, true_and]; and_intros)
    exact ⟨rfl, rfl⟩
  · and_intros
    exact cl q
/-! ### partings by numbers -/
structure PartI (n : Nat) (ls : List (Nat × Nat)) (rs : List (List Nat)) : Prop where
  road : ∀ r ∈ rs, RoadI n ls r
  nd : rs.flatten.Nodup
  all : rs.flatten.length = n
abbrev nsL (r : List Nat) : D := .lst (nsD r)
instance : InjD nsL := ⟨fun a b e => by
  unfold nsL nsD at e
  injection e with e
  exact map_inj e⟩
abbrev partN (rs : List (List Nat)) : D := .lst (rs.map nsL)
theorem RoadI.nm {ts : List Str} {ls : List (Nat × Nat)} {r : List Nat} (N : NetI ts ls) (R : RoadI ts.length ls r) : RoadOk ts (nmL ts ls) (nmR ts r) := by
  refine ⟨by intro e; exact R.ne (List.map_eq_nil_iff.mp e), nodup_map_on (fun a ha b hb e => getD_inj N.nm.2 (R.low a ha) (R.low b hb) e) R.nd, fun x hx => ?_, fun i a b ha hb => ?_⟩
  · obtain ⟨k, hk, rfl⟩ := List.mem_map.mp hx
    exact List.mem_of_getElem? (getD_get (R.low k hk))
  · unfold nmR at ha hb
    rw [List.getElem?_map] at ha hb
    obtain ⟨u, hu, rfl⟩ := Option.map_eq_some_iff.mp ha
    obtain ⟨v, hv, rfl⟩ := Option.map_eq_some_iff.mp hb
    exact List.mem_map.mpr ⟨(u, v), R.path i u v hu hv, rfl⟩
theorem flat_nm {ts : List Str} (rs : List (List Nat)) : (rs.map (nmR ts)).flatten = nmR ts rs.flatten := by
  unfold nmR
  rw [List.map_flatten]
theorem PartI.nm {ts : List Str} {ls : List (Nat × Nat)} {rs : List (List Nat)} (N : NetI ts ls) (P : PartI ts.length ls rs) : PartOk ts (nmL ts ls) (rs.map (nmR ts)) := by
  have low : ∀ v ∈ rs.flatten, v < ts.length := fun v hv => by
    obtain ⟨r, hr, hv⟩ := List.mem_flatten.mp hv
    exact (P.road r hr).low v hv
  refine ⟨fun r hr => ?_, ?_, by rw [flat_nm, List.length_map]; exact P.all⟩
  · obtain ⟨q, hq, rfl⟩ := List.mem_map.mp hr
    exact (P.road q hq).nm N
  · rw [flat_nm]
    exact nodup_map_on (fun a ha b hb e => getD_inj N.nm.2 (low a ha) (low b hb) e) P.nd
/-- the numbers of names -/
def ixR (ts : List Str) (r : List Str) : List Nat := r.map fun x => List.idxOf x ts
theorem RoadOk.ix {ts : List Str} {ls : List (Nat × Nat)} {r : List Str} (N : NetI ts ls) (R : RoadOk ts (nmL ts ls) r) : RoadI ts.length ls (ixR ts r) := by
  have gx : ∀ x ∈ r, ts[List.idxOf x ts]? = some x := fun x hx => by
    have hl := List.idxOf_lt_length_of_mem (R.sub x hx)
    rw [List.getElem?_eq_getElem hl, List.getElem_idxOf hl]
  refine ⟨by intro e; exact R.ne (List.map_eq_nil_iff.mp e), nodup_map_on (fun x hx y hy e => ?_) R.nd, fun v hv => ?_, fun i a b ha hb => ?_⟩
  · have h1 := gx x hx
    rw [e, gx y hy] at h1
    exact (Option.some.inj h1).symm
  · obtain ⟨x, hx, rfl⟩ := List.mem_map.mp hv
    exact List.idxOf_lt_length_of_mem (R.sub x hx)
  · unfold ixR at ha hb
    rw [List.getElem?_map] at ha hb
    obtain ⟨x, hx, rfl⟩ := Option.map_eq_some_iff.mp ha
    obtain ⟨y, hy, rfl⟩ := Option.map_eq_some_iff.mp hb
    obtain ⟨⟨u, v⟩, hu, e⟩ := List.mem_map.mp (R.step i x y hx hy)
    obtain ⟨h1, h2, _⟩ := N.ok _ hu
    unfold nmT at e
    injection e with e1 e2
    rw [← e1, ← e2, idx_getD N.nm.2 h1, idx_getD N.nm.2 h2]
    exact hu
end
section
open PySem PySem.Spec PyProof.Rows
/-! ### three objects beside one another -/
section
variable {S : SO} {p r f g : Addr} {x x' y y' z z' u : DO}
def o3 (S : SO) (p r f : Addr) (x y z : DO) : SO := ((S.set p x).set r y).set f z
end
/-! ### roads by numbers -/
theorem RoadI.one {n : Nat} {ls : List (Nat × Nat)} {v : Nat} (h : v < n) : RoadI n ls [v] := ⟨by simp, by simp, fun u hu => by rw [List.mem_singleton.mp hu]; exact h, fun i a b _ hb => by simp at hb⟩
theorem RoadI.snoc {n : Nat} {ls : List (Nat × Nat)} {r : List Nat} {u v : Nat} (R : RoadI n ls r) (hu : r.getLast? = some u) (hv : v < n) (hn : v ∉ r) (ht : (u, v) ∈ ls) : RoadI n ls (r ++ [v]) := by
  refine ⟨by simp, ?_, fun z hz => ?_, fun i a b ha hb => ?_⟩
  · rw [List.nodup_append]
    exact ⟨R.nd, by simp, fun a ha b hb e => hn (by rw [List.mem_singleton] at hb; rw [← hb, ← e]; exact ha)⟩
  · rcases List.mem_append.mp hz with hz | hz
    · exact R.low z hz
    · rw [List.mem_singleton.mp hz]
      exact hv
  · have hl : i + 1 < (r ++ [v]).length := (List.getElem?_eq_some_iff.mp hb).1
    rw [List.length_append, List.length_singleton] at hl
    rw [List.getElem?_append_left (by omega)] at ha
    by_cases hi : i + 1 < r.length
    · rw [List.getElem?_append_left hi] at hb
      exact R.path i a b ha hb
    · rw [List.getElem?_append_right (by omega), show i + 1 - r.length = 0 by omega] at hb
      have hb : v = b := Option.some.inj hb
      rw [List.getLast?_eq_getElem?, show r.length - 1 = i by omega, ha] at hu
      rw [← hb, Option.some.inj hu]
      exact ht
/-! ### _law_parted -/
end
section
open PySem PySem.Spec PyProof.Rows
/-! ### Pairing.grow -/
end
section
open PySem PySem.Spec PyProof.Rows
/-! ### Pairing(leads), pairing_of -/
theorem xSetF {C : Addr} {g : Str} {wo we : WE} {n bk ct : SD → SO → Prop} {r : KD} {sd : SD} {S : SO} (h : we sd S fun y S1 => wo sd S1 fun d S2 => ∃ a fs, d = .obj a ∧ S2 a = some (.ins C fs) ∧ fs.length < 1000 ∧ n sd (S2.set a (.ins C (putD g y fs)))) : wSetF C g wo we ⟨n, r, bk, ct⟩ sd S := h
theorem Wk.dropS {sd : SD} {S : SO} {p : Addr} {o : DO} (h : S p = none) : Wk sd (S.set p o) sd S := Wk.to fun a u e => by
  rw [set_ne (so_ne e h)]
  exact e
theorem xMake {C : Addr} {sp : DSp} {t : WA} {sd : SD} {S : SO} {Q : KD} (h : t sd S fun xs S1 => ∀ p, S1 p = none → sp (.obj p :: xs) (S1.set p (.ins C [])) (fun d S2 => d = .non ∧ Q (.obj p) S2) NoE) : wMake C sp [] t sd S Q := by
  unfold wMake
  simp only [List.append_nil]
  exact h
end
section
open PySem PySem.Spec PyProof.Rows
end
section
open PySem PySem.Spec PyProof.Rows
/-! ### all partings, as mathematics -/
structure SetP (k : Nat) (P : List (List Nat)) : Prop where
  ne : ∀ r ∈ P, r ≠ []
  pm : P.flatten.Perm (List.range k)
/-- how many -/
theorem SetP.len {k : Nat} {P : List (List Nat)} (s : SetP k P) : P.length ≤ k := by
  have h1 : P.length ≤ P.flatten.length := by
    have hr := s.ne
    clear s
    induction P with
    | nil => exact Nat.le_refl _
    | cons r rs ih =>
      have := ih fun q hq => hr q (List.mem_cons_of_mem _ hq)
      have hp := List.length_pos_iff.mpr (hr r (List.mem_cons_self ..))
      rw [List.flatten_cons, List.length_append, List.length_cons]
      omega
  have := s.pm.length_eq
  rw [List.length_range] at this
  omega
theorem SetP.rlen {k : Nat} {P : List (List Nat)} (s : SetP k P) {r : List Nat} (h : r ∈ P) : r.length ≤ k := by
  have h2 := (List.sublist_flatten_of_mem h).length_le
  have := s.pm.length_eq
  rw [List.length_range] at this
  omega
def chainB (ls : List (Nat × Nat)) (r : List Nat) : Bool := (List.range (r.length - 1)).all fun i => decide ((r.getD i 0, r.getD (i + 1) 0) ∈ ls)
theorem chainB_iff {ls : List (Nat × Nat)} {r : List Nat} : chainB ls r = true ↔ ∀ (i a b : Nat), r[i]? = some a → r[i + 1]? = some b → (a, b) ∈ ls := by
  unfold chainB
  rw [List.all_eq_true]
  constructor
  · intro h i a b ha hb
    have hl := (List.getElem?_eq_some_iff.mp hb).1
    have := of_decide_eq_true (h i (List.mem_range.mpr (by omega)))
    rw [List.getD_eq_getElem?_getD, List.getD_eq_getElem?_getD, ha, hb] at this
    exact this
  · intro h i hi
    have hi := List.mem_range.mp hi
    have h1 := List.getElem?_eq_getElem (show i < r.length by omega)
    have h2 := List.getElem?_eq_getElem (show i + 1 < r.length by omega)
    refine decide_eq_true ?_
    rw [List.getD_eq_getElem?_getD, List.getD_eq_getElem?_getD, h1, h2]
    exact h i _ _ h1 h2
def goesB (ls : List (Nat × Nat)) (P : List (List Nat)) : Bool := P.all (chainB ls)
theorem SetP.part {n : Nat} {ls : List (Nat × Nat)} {P : List (List Nat)} (s : SetP n P) (h : goesB ls P = true) : PartI n ls P := by
  have nd : P.flatten.Nodup := s.pm.nodup_iff.mpr List.nodup_range
  refine ⟨fun r hr => ⟨s.ne r hr, (List.sublist_flatten_of_mem hr).nodup nd, fun v hv => ?_, chainB_iff.mp (List.all_eq_true.mp h r hr)⟩, nd, by rw [s.pm.length_eq, List.length_range]⟩
  exact List.mem_range.mp (s.pm.mem_iff.mp (List.mem_flatten.mpr ⟨r, hr, hv⟩))
theorem perm_range {n : Nat} {l : List Nat} (nd : l.Nodup) (low : ∀ v ∈ l, v < n) (hl : l.length = n) : l.Perm (List.range n) := by
  have sub : ∀ (a b : List Nat), a.Nodup → (∀ x ∈ a, x ∈ b) → b.length ≤ a.length → a.Perm b := by
    intro a
    induction a with
    | nil =>
      intro b _ _ h
      rw [List.length_eq_zero_iff.mp (Nat.le_zero.mp h)]
    | cons x a ih =>
      intro b nd hb h
      have nd2 := List.nodup_cons.mp nd
      have hx := hb x (List.mem_cons_self ..)
      have l := List.length_erase_of_mem hx
      have p := List.length_pos_of_mem hx
      rw [List.length_cons] at h
      have z := ih (b.erase x) nd2.2 (fun y hy => (List.mem_erase_of_ne (fun e => nd2.1 (by rw [← e]; exact hy))).mpr (hb y (List.mem_cons_of_mem _ hy))) (by omega)
      exact (List.Perm.cons x z).trans (List.perm_cons_erase hx).symm
  exact sub l _ nd (fun x hx => List.mem_range.mpr (low x hx)) (by rw [List.length_range, hl]; exact Nat.le_refl _)
theorem PartI.set {n : Nat} {ls : List (Nat × Nat)} {P : List (List Nat)} (h : PartI n ls P) : SetP n P := ⟨fun r hr => (h.road r hr).ne, perm_range h.nd (fun v hv => by
  obtain ⟨r, hr, hv⟩ := List.mem_flatten.mp hv
  exact (h.road r hr).low v hv) h.all⟩
end
section
open PySem PySem.Spec PyProof.Rows
/-! ### _law_goes, _law_all_partings -/
instance : InjD partN := ⟨fun a b e => by
  unfold partN at e
  injection e with e
  exact map_inj e⟩
end
section
open PySem PySem.Spec PyProof.Rows
/-! ### whether something is a parting: a right one -/
/-! ### whether something is a witness: a right one -/
/-! ### k51 -/
theorem Stp.all {ps : List Str} {ts : List (Str × Str)} {rs rs' : List (List Str)} (P : PartOk ps ts rs) (s : Stp ps ts rs rs') : PartOk ps ts rs' := ⟨s.part.road, s.part.nd, s.perm.length_eq.trans P.all⟩
end
section
open PySem PySem.Spec PyProof.Rows
/-! ### improved_of -/
structure Impr (ps : List Str) (ts : List (Str × Str)) (rs0 rs : List (List Str)) : Prop where
  part : PartOk ps ts rs
  sub : ∀ x ∈ lasts rs, x ∈ lasts rs0
  few : rs.length ≤ rs0.length
def sp_improved_of (W : Addr) : DSp := fun ds S Q E => ∃ (ps : List Str) (ts : List (Str × Str)) (rs : List (List Str)), ds = [webD W ps ts, tfD rs] ∧ WebOk ps ts ∧ PartOk ps ts rs ∧
  ∀ rs' w, Impr ps ts rs rs' → WitS ts rs' w → (∀ x ∈ w, x ∈ ps) → Q (.tup [tfD rs', .tf (plD w)]) S
def w_improved_of (W : Addr) : WS := (wSeq (wAsg (wFn (sp_as_lists W) [] (wCons (wV 1) wNil)) (gV 2))
    (wSeq (wAsg (wFn (sp_step_of 42 W) [] (wCons (wV 0) (wCons (wV 2) wNil))) (gT 2 (gC (gV 3) (gC (gV 4) gN))))
    (wSeq (wWhile (wB (wO oIsN (wV 3) (wC .non))) (wSeq (wAsg (wV 4) (gV 2))
    (wAsg (wFn (sp_step_of 42 W) [] (wCons (wV 0) (wCons (wV 2) wNil))) (gT 2 (gC (gV 3) (gC (gV 4) gN))))))
    (wRet (wTup (wCons (wFn (sp_as_tuples W) [] (wCons (wV 2) wNil)) (wCons (wCall cTupleF (wCons (wV 3) wNil)) wNil)))))))
def w3 : List Str ⊕ List (List Str) → D
  | .inl w => .lst (plD w)
  | .inr _ => .non
def w4 : List Str ⊕ List (List Str) → D
  | .inl _ => .non
  | .inr r => partD r
theorem pure_improved_of (W : Addr) : ∀ ds S Q E, sp_improved_of W ds S Q E → w_improved_of W (endsOf Q) (startD ["web", "parting", "here", "witness", "later"] ds) S := by
  rintro ds S Q E ⟨ps, ts, rs, rfl, ok, P, q⟩
  have hfew := ok.few
  have len : ∀ {rs : List (List Str)}, PartOk ps ts rs → rs.length ≤ 40 := fun {rs} P => by
    have h1 := P.ps.size
    have h2 := P.all
    omega
  have hl0 := len P
  refine xFn ?_
  show w_improved_of W _ [some _, some _, none, none, none] S
  unfold w_improved_of
  and_intros
  refine ⟨rs, rfl, by omega, ?_⟩
  and_intros
  have go : ∀ (rs1 : List (List Str)) (x : List Str ⊕ List (List Str)), Impr ps ts rs rs1 → (match x with | .inl w => WitS ts rs1 w ∧ (∀ x ∈ w, x ∈ ps) | .inr r => Stp ps ts rs1 r) →
      wSeq (wWhile (wB (wO oIsN (wV 3) (wC .non))) (wSeq (wAsg (wV 4) (gV 2)) (wAsg (wFn (sp_step_of 42 W) [] (wCons (wV 0) (wCons (wV 2) wNil))) (gT 2 (gC (gV 3) (gC (gV 4) gN))))))
        (wRet (wTup (wCons (wFn (sp_as_tuples W) [] (wCons (wV 2) wNil)) (wCons (wCall cTupleF (wCons (wV 3) wNil)) wNil)))) ⟨fun _ S' => Cl Q .non S', Cl Q, NoS, NoS⟩ [some (webD W ps ts), some (tfD rs), some (partD rs1), some (w3 x), some (w4 x)] S := by
    intro rs1 x h1 h2
    and_intros
    refine whileJ (fun y : List (List Str) × (List Str ⊕ List (List Str)) => [some (webD W ps ts), some (tfD rs), some (partD y.1), some (w3 y.2), some (w4 y.2)]) (fun _ => S)
      (fun y => Impr ps ts rs y.1 ∧ (match y.2 with | .inl w => WitS ts y.1 w ∧ (∀ x ∈ w, x ∈ ps) | .inr r => Stp ps ts y.1 r)) (fun y => y.1.length) (rs1, x) ⟨h1, h2⟩ ?_
    rintro ⟨rs2, x⟩ ⟨i1, i2⟩
    have i1 : Impr ps ts rs rs2 := i1
    cases x with
    | inl w =>
      obtain ⟨i3, i4⟩ : WitS ts rs2 w ∧ (∀ x ∈ w, x ∈ ps) := i2
      and_intros
      refine isNB rfl ?_
      unfold w3
      and_intros
      have := len (rs := rs2) i1.part
      refine ⟨rs2, rfl, by omega, ?_⟩
      and_intros
      exact cl (q rs2 w i1 i3 i4)
    | inr r =>
      have i2 : Stp ps ts rs2 r := i2
      have P2 := i2.all i1.part
      have i3 : Impr ps ts rs r := ⟨P2, fun x hx => i1.sub x (i2.sub x hx), Nat.le_trans (Nat.le_of_lt i2.few) i1.few⟩
      have hfl := P2.all
      and_intros
      refine isYB rfl ?_
      unfold w4
      and_intros
      refine ⟨ps, ts, r, rfl, ok, P2.ps, (show r.flatten.length ≤ 41 by omega), fun w hw hm => ?_, fun rs' st => ?_⟩
      · and_intros
        exact .of (r, .inl w) ⟨i3, hw, hm⟩ i2.few
      · and_intros
        exact .of (r, .inr rs') ⟨i3, st⟩ i2.few
  have hall := P.all
  have i0 : Impr ps ts rs rs := ⟨P, fun _ h => h, Nat.le_refl _⟩
  refine ⟨ps, ts, rs, rfl, ok, P.ps, (show rs.flatten.length ≤ 41 by omega), fun w hw hm => ?_, fun rs' st => ?_⟩
  · have z := go rs (.inl w) i0 ⟨hw, hm⟩
    and_intros
    exact z
  · have z := go rs (.inr rs') i0 st
    and_intros
    exact z
/-! ### the greatest free set -/
end
section
open PySem PySem.Spec PyProof.Rows
/-! ### k46 -/
theorem flat_disj {α : Type} {rs : List (List α)} (nd : rs.flatten.Nodup) {i j : Nat} {q r : List α} {x : α} (hi : rs[i]? = some q) (hj : rs[j]? = some r) (hij : i ≠ j) (h1 : x ∈ q) (h2 : x ∈ r) : False := by
  have e := split_at_ix hi
  have hm : r ∈ rs.take i ++ rs.drop (i + 1) := by
    rw [← erase_split, List.mem_eraseIdx_iff_getElem?]
    exact ⟨j, fun h => hij h.symm, hj⟩
  rw [e] at nd
  have pm : (rs.take i ++ q :: rs.drop (i + 1)).flatten.Perm (q ++ (rs.take i ++ rs.drop (i + 1)).flatten) := by
    rw [List.flatten_append, List.flatten_cons, List.flatten_append]
    exact List.perm_append_comm_assoc ..
  have n2 := (List.nodup_append.mp (pm.nodup_iff.mp nd)).2.2
  exact n2 x h1 x (List.mem_flatten.mpr ⟨r, hm, h2⟩) rfl
theorem NetI.loop {ts : List Str} {ls : List (Nat × Nat)} (N : NetI ts ls) : ∀ a, (a, a) ∉ ls := fun a h => (N.ok _ h).2.2 rfl
end
section
open PySem PySem.Spec PyProof.Rows
/-! ### k45 -/
def lastN (r : List Nat) : Nat := r.getLastD 0
theorem lastN_eq {r : List Nat} (h : r ≠ []) : r.getLast? = some (lastN r) := by
  unfold lastN
  rw [List.getLastD_eq_getLast?]
  cases e : r.getLast? with
  | none => exact absurd (List.getLast?_eq_none_iff.mp e) h
  | some x => rfl
theorem PartOk.ix {ts : List Str} {ls : List (Nat × Nat)} {rs : List (List Str)} (N : NetI ts ls) (P : PartOk ts (nmL ts ls) rs) : PartI ts.length ls (rs.map (ixR ts)) := by
  have fl : (rs.map (ixR ts)).flatten = ixR ts rs.flatten := by
    unfold ixR
    rw [List.map_flatten]
  have sub : ∀ x ∈ rs.flatten, x ∈ ts := fun x hx => by
    obtain ⟨r, hr, hx⟩ := List.mem_flatten.mp hx
    exact (P.road r hr).sub x hx
  have gx : ∀ x ∈ ts, ts[List.idxOf x ts]? = some x := fun x hx => by
    have hl := List.idxOf_lt_length_of_mem hx
    rw [List.getElem?_eq_getElem hl, List.getElem_idxOf hl]
  refine ⟨fun r hr => ?_, ?_, by rw [fl]; unfold ixR; rw [List.length_map]; exact P.all⟩
  · obtain ⟨q, hq, rfl⟩ := List.mem_map.mp hr
    exact (P.road q hq).ix N
  · rw [fl]
    refine nodup_map_on (fun x hx y hy e => ?_) P.nd
    have h1 := gx x (sub x hx)
    rw [e, gx y (sub y hy)] at h1
    exact (Option.some.inj h1).symm
end
section
open PySem PySem.Spec PyProof.Rows
/-! ### k47 -/
section
variable {W : Addr} {S : SO} {Q : KD} {E : EK} {ts : List Str} {w : List (Nat × Nat)}
end
end
end L2.DL
namespace L2.DL
open PySem PySem.Spec PyProof.Rows
/-! ### few roads by many pairs -/
section
variable {n : Nat} {ls : List (Nat × Nat)} {R : List (List Nat)}
end
/-! ### so many roads, if there is no ring -/
end L2.DL

namespace L2.DL
open PySem PySem.Spec PyProof.Rows
/-! ### roads put together along the pairs -/
theorem PartI.perm {n : Nat} {ls : List (Nat × Nat)} {R R' : List (List Nat)} (P : PartI n ls R) (h : R.Perm R') : PartI n ls R' :=
  ⟨fun r hr => P.road r (h.mem_iff.mpr hr), (h.flatten).nodup_iff.mp P.nd, by rw [← (h.flatten).length_eq]; exact P.all⟩
theorem RoadI.app {n : Nat} {ls : List (Nat × Nat)} {q r : List Nat} {b e : Nat} (Q : RoadI n ls q) (R : RoadI n ls r) (hd : ∀ x ∈ q, x ∉ r) (hb : lastN q = b) (he : r[0]? = some e) (ht : (b, e) ∈ ls) : RoadI n ls (q ++ r) := by
  have lq := List.length_pos_iff.mpr Q.ne
  refine ⟨by simp [Q.ne], List.nodup_append.mpr ⟨Q.nd, R.nd, fun x hx y hy e => hd x hx (e ▸ hy)⟩, fun v hv => ?_, fun i a c ha hc => ?_⟩
  · rcases List.mem_append.mp hv with hv | hv
    · exact Q.low v hv
    · exact R.low v hv
  · by_cases h : i + 1 < q.length
    · rw [List.getElem?_append_left (by omega)] at ha
      rw [List.getElem?_append_left h] at hc
      exact Q.path i a c ha hc
    · by_cases h2 : i < q.length
      · rw [List.getElem?_append_left h2] at ha
        rw [List.getElem?_append_right (by omega), show i + 1 - q.length = 0 by omega, he] at hc
        cases hc
        have e := lastN_eq Q.ne
        rw [List.getLast?_eq_getElem?, show q.length - 1 = i by omega, ha] at e
        have := Option.some.inj e
        rw [this, hb]
        exact ht
      · rw [List.getElem?_append_right (by omega)] at ha hc
        exact R.path (i - q.length) a c ha (by rw [← hc]; congr 1; omega)
end L2.DL

namespace L2.DL
local macro_rules | `(tactic| and_intros) => `(tactic| repeat (first | with_reducible refine v0 ?_ | with_reducible refine vS ?_ | with_reducible refine g0 ?_ | with_reducible refine gSu ?_ | with_reducible refine xCons ?_ | with_reducible refine xNil ?_ | with_reducible refine xO ?_ | with_reducible refine xSeq ?_ | with_reducible refine xC ?_ | with_reducible refine xFnC ?_ | with_reducible refine xAsg ?_ | with_reducible refine xCall ?_ | with_reducible refine xIfS ?_ | with_reducible refine xRet ?_ | with_reducible refine xRetN ?_ | with_reducible refine xB ?_ | with_reducible refine xNext ?_ | with_reducible refine gTup ?_ | with_reducible refine gCons ?_ | with_reducible refine gNil ?_ | with_reducible refine xFor ?_ | with_reducible refine iT ?_ | with_reducible refine iF ?_ | with_reducible refine iNT ?_ | with_reducible refine iNF ?_ | with_reducible refine xSeqI ?_ | with_reducible refine xLst ?_ | with_reducible refine xTup ?_ | with_reducible refine xLen ?_ | with_reducible refine xDrop ?_ | with_reducible refine xOr ?_ | with_reducible refine xNot ?_ | with_reducible refine sTup ?_ | with_reducible refine sTf ?_ | with_reducible refine sLst ?_ | with_reducible refine sSrc ?_ | with_reducible refine xBM ?_ | with_reducible refine bmLst ?_ | with_reducible refine bmSrc ?_ | with_reducible refine xSl ?_ | with_reducible refine xPar ?_ | with_reducible refine xPar3 ?_ | with_reducible refine xRng1 ?_ | with_reducible refine pS ?_ | with_reducible refine iAdd ?_ | with_reducible refine lTupM ?_ | with_reducible refine lTfM ?_ | with_reducible refine lLstM ?_ | with_reducible refine lSrcM ?_ | with_reducible refine lTup ?_ | with_reducible refine lTf ?_ | with_reducible refine lLst ?_ | with_reducible refine lSrc ?_ | with_reducible refine lDic ?_ | with_reducible refine iEq ?_ | with_reducible refine sEq ?_ | with_reducible refine xFld ?_ | with_reducible refine isI1 ?_ | with_reducible refine pN ?_ | with_reducible refine iNe ?_ | with_reducible refine sNe ?_ | with_reducible refine xAnd ?_ | with_reducible refine xU ?_ | with_reducible refine int1' ?_ | with_reducible refine xAllM ?_ | with_reducible refine xAnyM ?_ | with_reducible refine xAll ?_ | with_reducible refine isT ?_ | with_reducible refine isF ?_ | with_reducible refine isT' ?_ | with_reducible refine isF' ?_ | with_reducible refine chkWeb ?_ | with_reducible refine iNeg ?_ | with_reducible refine two2' ?_ | with_reducible refine xAndV ?_ | with_reducible refine xIf ?_ | with_reducible refine iSub ?_ | with_reducible refine xNew ?_ | with_reducible refine fldRow ?_ | with_reducible refine slTup ?_ | with_reducible refine slSrc ?_ | with_reducible refine slLst ?_ | with_reducible refine xEnum ?_ | with_reducible refine tfL ?_ | with_reducible refine tuL ?_ | with_reducible refine tuT ?_ | with_reducible refine xMth ?_ | with_reducible refine xSubD ?_ | with_reducible refine xGTl ?_ | with_reducible refine iLt ?_ | with_reducible refine xLcF ?_ | with_reducible refine xLcN ?_ | with_reducible refine xCl ?_ | with_reducible refine isN1 ?_ | with_reducible refine isN2 ?_ | with_reducible refine noN2 ?_ | with_reducible refine mthTie ?_ | with_reducible refine hasTie ?_ | with_reducible refine one1 ?_ | with_reducible refine iGt ?_ | with_reducible refine xOrV ?_ | with_reducible refine xTupF ?_ | with_reducible refine fldPairs ?_ | with_reducible refine xStar ?_ | with_reducible refine isiTup ?_ | with_reducible refine isiTf ?_ | with_reducible refine isiStr ?_ | with_reducible refine xNotV ?_ | with_reducible refine int2' ?_ | with_reducible refine iLe ?_ | with_reducible refine xRng2 ?_ | with_reducible refine xMakeF ?_ | with_reducible refine xZip ?_ | with_reducible refine iGe ?_ | with_reducible refine iOr ?_ | with_reducible refine three' ?_ | with_reducible refine xRevU ?_ | with_reducible refine revTup ?_ | with_reducible refine revTf ?_ | with_reducible refine iAnd ?_ | with_reducible refine iModL ?_ | with_reducible refine xDicF ?_ | with_reducible refine xInt ?_ | with_reducible refine xCh ?_ | with_reducible refine xBreak ?_ | with_reducible refine fldMarks ?_ | with_reducible refine xCont ?_ | with_reducible refine xYes ?_ | with_reducible refine andL (by with_unfolding_all exact lez rfl) ?_))
section
open PySem PySem.Spec PyProof.Rows
/-! ### no ring: by ranks, by the law's own look -/
/-! ### check_ringless, fewest_ringless -/
/-! ### is_witness of a right one -/
theorem WitS.freeS {ts : List (Str × Str)} {rs : List (List Str)} {w : List Str} (h : WitS ts rs w) : FreeS ts w := fun i j a b hij ha hb => ⟨h.free i j a b (by omega) ha hb, h.free j i b a (by omega) hb ha⟩
def sp_is_witG (W : Addr) : DSp := fun ds S Q E => ∃ (ps : List Str) (ts : List (Str × Str)) (rs : List (List Str)) (w : List Str), ds = [webD W ps ts, tfD rs, .tf (plD w)] ∧ (∀ r ∈ rs, ∀ x ∈ r, sOk x) ∧ rs.length ≤ 1000 ∧ WitS ts rs w ∧ Q (.bl true) S
def w_is_witG (W : Addr) : WS := (wSeq (wIfS (wOr (wNot (wB (wCall (cIsi (.ty "tuple") (fTy "tuple" [])) (wCons (wV 2) (wCons (wC (.ty "tuple")) wNil))))) (wB (wO oNe (wCall cLen (wCons (wV 2) wNil)) (wCall cLen (wCons (wV 1) wNil))))) (wRet (wC (.bl false))) wNext)
    (wSeq (wIfS (wNot (wB (wCall cAll (wCons (wLcP (wZip (wCons (wV 2) (wCons (wV 1) wNil))) (.t [3, 4]) wYes (wAndV (wCall (cIsi (.ty "str") (fTy "str" [])) (wCons (wV 3) (wCons (wC (.ty "str")) wNil))) (wO oIn (wV 3) (wV 4))) [3, 4]) wNil)))) (wRet (wC (.bl false))) wNext)
    (wRet (wFn (sp_is_free W) [] (wCons (wV 0) (wCons (wV 2) wNil))))))
theorem pure_is_witG (W : Addr) : ∀ ds S Q E, sp_is_witG W ds S Q E → w_is_witG W (endsOf Q) (startD ["web", "parting", "value", "place", "road"] ds) S := by
  rintro ds S Q E ⟨ps, ts, rs, w, rfl, hs, hl, hw, q⟩
  have hwl := hw.len
  refine xFn ?_
  show w_is_witG W _ [some _, some _, some _, none, none] S
  unfold w_is_witG
  and_intros
  refine isNB (by rw [hwl]; simp) ?_
  and_intros
  refine lcM (w.zip rs) (fun z : Str × List Str => D.tup [.str z.1, rowT z.2]) (fun _ => .bl true) ?_ (by rw [List.length_zip]; omega) (fun z hz S' e => ?_) ?_
  · and_intros
    exact zipK rfl rfl srcZ
  · obtain ⟨i, hi⟩ := List.mem_iff_getElem?.mp hz
    have h12 := List.getElem?_zip_eq_some.mp hi
    have hm := hw.mem i z.1 z.2 h12.1 h12.2
    have hr := List.mem_of_getElem? h12.2
    unfold rowT
    (simp only [prD, putNT, wipeD, putAll, List.set_cons_zero, List.set_cons_succ, List.length_cons, List.length_nil, true_and]; and_intros)
    refine inTf ?_ (hs _ hr _ hm) (hs _ hr)
    rw [decide_eq_true hm]
    exact ⟨rfl, rfl⟩
  · and_intros
    refine isYB (by simp) ?_
    and_intros
    refine ⟨ps, ts, _, w, rfl, rfl, by omega, fun b hb => ?_⟩
    rw [hb.mpr hw.freeS]
    exact cl q
def sp_is_witG2 (W : Addr) : DSp := fun ds S Q E => ∃ (ps : List Str) (ts : List (Str × Str)) (rs : List (List Str)) (w : List Str), ds = [webD W ps ts, tfD rs, .tf (plD w)] ∧ WebOk ps ts ∧ PartOk ps ts rs ∧ WitS ts rs w ∧ Q (.bl true) S
def w_is_witG2 (W : Addr) : WS := (wSeq (wDrop (wFn (sp_check_web W) [] (wCons (wV 0) wNil)))
    (wSeq (wDrop (wFn (sp_check_parting W) [] (wCons (wV 0) (wCons (wV 1) wNil))))
    (wRet (wFn (sp_is_witG W) [] (wCons (wV 0) (wCons (wV 1) (wCons (wV 2) wNil)))))))
theorem pure_is_witG2 (W : Addr) : ∀ ds S Q E, sp_is_witG2 W ds S Q E → w_is_witG2 W (endsOf Q) (startD ["web", "parting", "value"] ds) S := by
  rintro ds S Q E ⟨ps, ts, rs, w, rfl, ok, P, hw, q⟩
  have hfew := ok.few
  have hall := P.all
  have hsz := P.ps.size
  refine xFn ?_
  show w_is_witG2 W _ [some _, some _, some _] S
  unfold w_is_witG2
  and_intros
  refine ⟨ps, ts, _, _, rs, rfl, ok, .inl rfl, rows_rowsD rs, P, ?_⟩
  and_intros
  exact ⟨ps, ts, rs, w, rfl, fun r hr x hx => ok.sok x ((P.road r hr).sub x hx), by omega, hw, cl q⟩
end
section
open PySem PySem.Spec PyProof.Rows
/-! ### k71 -/
theorem any_tfD {ts : List Str} {rs : List (List Str)} (hs : ∀ x ∈ ts, sOk x ∧ x.length ≤ 8) (h : ∀ r ∈ rs, r.length ≤ 100 ∧ ∀ x ∈ r, x ∈ ts) (hl : rs.length ≤ 100) : Any 100 (tfD rs) := by
  refine .tf _ (by rw [List.length_map]; exact hl) fun d hd => ?_
  obtain ⟨r, hr, rfl⟩ := List.mem_map.mp hd
  refine .tf _ (by unfold plD; rw [List.length_map]; exact (h r hr).1) fun e he => ?_
  obtain ⟨x, hx, rfl⟩ := List.mem_map.mp he
  obtain ⟨h1, h2⟩ := hs x ((h r hr).2 x hx)
  exact .str x ⟨h1, by omega⟩
theorem PartOk.any {ts : List Str} {es : List (Str × Str)} {rs : List (List Str)} (ok : WebOk ts es) {es' : List (Str × Str)} (P : PartOk ts es' rs) : Any 100 (tfD rs) := by
  have hf := ok.few
  have h1 := P.ps.size
  have h2 := P.all
  exact any_tfD (ts := ts) (fun x hx => ⟨ok.sok x hx, by have := (name_chars (ok.nm x hx)).2.1; omega⟩) (fun r hr => ⟨by have := P.ps.rlen hr; omega, (P.road r hr).sub⟩) (by omega)
theorem isPt_tfD {ts : List Str} {es : List (Str × Str)} {rs : List (List Str)} : IsPt ts es (tfD rs) ↔ PartOk ts es rs := by
  have e0 : (rs.map rowT).map asTup = rs.map fun r => some (plD r) := by rw [List.map_map]; rfl
  constructor
  · rintro ⟨xs, rs', h1, h2, P⟩
    have h1 : some (rs.map rowT) = some xs := h1
    cases h1
    rw [e0] at h2
    have := tups_inj h2
    subst this
    exact P
  · intro P
    exact ⟨rs.map rowT, rs, rfl, e0, P⟩
section
variable {W : Addr} {S : SO} {Q : KD} {E : EK} {ts : List Str} {es : List (Str × Str)} {rs : List (List Str)}
theorem partB (ok : WebOk ts es) {es' : List (Str × Str)} (P : PartOk ts es' rs) (h : ∀ b : Bool, (b = true ↔ PartOk ts es rs) → Q (.bl b) S) : sp_is_partA2 W [webD W ts es, tfD rs] S Q E :=
  ⟨ts, es, _, 100, rfl, ok, P.any ok, by decide, fun b hb => h b (hb.trans isPt_tfD)⟩
theorem partY (ok : WebOk ts es) (P : PartOk ts es rs) (h : Q (.bl true) S) : sp_is_partA2 W [webD W ts es, tfD rs] S Q E :=
  partB ok P fun b hb => by
    rw [hb.mpr P]
    exact h
end
theorem RoadOk.mono {ps : List Str} {ts ts' : List (Str × Str)} {r : List Str} (h : ∀ t ∈ ts, t ∈ ts') (R : RoadOk ps ts r) : RoadOk ps ts' r := ⟨R.ne, R.nd, R.sub, fun i a b h1 h2 => h _ (R.step i a b h1 h2)⟩
theorem PartOk.mono {ps : List Str} {ts ts' : List (Str × Str)} {rs : List (List Str)} (h : ∀ t ∈ ts, t ∈ ts') (P : PartOk ps ts rs) : PartOk ps ts' rs := ⟨fun r hr => (P.road r hr).mono h, P.nd, P.all⟩
theorem PartI.mono {n : Nat} {ls ls' : List (Nat × Nat)} {R : List (List Nat)} (h : ∀ t ∈ ls, t ∈ ls') (P : PartI n ls R) : PartI n ls' R := ⟨fun r hr => ⟨(P.road r hr).ne, (P.road r hr).nd, (P.road r hr).low, fun i a b h1 h2 => h _ ((P.road r hr).path i a b h1 h2)⟩, P.nd, P.all⟩
end
section
open PySem PySem.Spec PyProof.Rows
/-! ### planners: made, asked -/
def plO (Pn : Addr) (h : D) (past : List D) : DO := .ins Pn [("here", h), ("past", .tf past)]
def stPl (W : Addr) (ps : List Str) (ts : List (Str × Str)) (rs : List (List Str)) (w : List Str) : D := .tf [webD W ps ts, tfD rs, .tf (plD w)]
structure PlI (ps : List Str) (ts : List (Str × Str)) (rs : List (List Str)) (w : List Str) : Prop where
  part : PartOk ps ts rs
  wit : WitS ts rs w
  sub : ∀ x ∈ w, x ∈ ps
theorem xPropQ {C : Addr} {dsp : DSp} {wo : WE} {sd : SD} {S : SO} {Q : KD} (h : wo sd S fun d S1 => (∃ fs, InsD C d S1 fs) ∧ dsp [d] S1 Q NoE) : wProp C dsp wo sd S Q := h
def sp_Planner_init (W Pn : Addr) : DSp := fun ds S Q E => ∃ (p : Addr) (ps : List Str) (ts : List (Str × Str)), ds = [.obj p, webD W ps ts] ∧ S p = some (.ins Pn []) ∧ WebOk ps ts ∧
  ∀ rs w, PlI ps ts rs w → Q .non (S.set p (plO Pn (stPl W ps ts rs w) []))
def w_Planner_init (W Pn : Addr) : WS := (wSeq (wDrop (wFn (sp_check_web W) [] (wCons (wV 1) wNil)))
    (wSeq (wSetF Pn "here" (wV 0) (wTupF (wCons (wV 1) (wStar (wFn (sp_improved_of W) [] (wCons (wV 1) (wCons (wFn (sp_singles_of W) [] (wCons (wV 1) wNil)) wNil))) wNil))))
    (wSetF Pn "past" (wV 0) (wTupF wNil))))
theorem pure_Planner_init (W Pn : Addr) : ∀ ds S Q E, sp_Planner_init W Pn ds S Q E → w_Planner_init W Pn (endsOf Q) (startD ["self", "web"] ds) S := by
  rintro ds S Q E ⟨p, ps, ts, rfl, hp, ok, q⟩
  refine xFn ?_
  show w_Planner_init W Pn _ [some _, some _] S
  unfold w_Planner_init
  and_intros
  refine xSetF ?_
  and_intros
  refine ⟨ps, ts, rfl, ok, ?_⟩
  and_intros
  refine ⟨ps, ts, onesOf ps, rfl, ok, ones_ok ok, fun rs w i hw hs => ?_⟩
  refine ⟨_, rfl, ?_⟩
  and_intros
  refine ⟨p, [], rfl, hp, lez rfl, ?_⟩
  and_intros
  refine xSetF ?_
  and_intros
  refine ⟨p, _, rfl, set_same, lez rfl, ?_⟩
  rw [set_set]
  exact cl (q rs w ⟨i.part, hw, hs⟩)
def sp_Planner_web (W Pn : Addr) : DSp := fun ds S Q E => ∃ (p : Addr) (a b c : D) (past : List D), ds = [.obj p] ∧ S p = some (plO Pn (.tf [a, b, c]) past) ∧ Q a S
def w_Planner_web (W Pn : Addr) : WS := (wRet (wO oIx (wFld Pn "here" (wV 0)) (wC (.int 0))))
theorem pure_Planner_web (W Pn : Addr) : ∀ ds S Q E, sp_Planner_web W Pn ds S Q E → w_Planner_web W Pn (endsOf Q) (startD ["self"] ds) S := by
  rintro ds S Q E ⟨p, a, b, c, past, rfl, hp, q⟩
  refine xFn ?_
  show w_Planner_web W Pn _ [some _] S
  unfold w_Planner_web
  and_intros
  refine ⟨_, _, hp, rfl, ?_⟩
  and_intros
  exact ixTf at0 (cl q)
def sp_Planner_parting (W Pn : Addr) : DSp := fun ds S Q E => ∃ (p : Addr) (a b c : D) (past : List D), ds = [.obj p] ∧ S p = some (plO Pn (.tf [a, b, c]) past) ∧ Q b S
def w_Planner_parting (W Pn : Addr) : WS := (wRet (wO oIx (wFld Pn "here" (wV 0)) (wC (.int 1))))
theorem pure_Planner_parting (W Pn : Addr) : ∀ ds S Q E, sp_Planner_parting W Pn ds S Q E → w_Planner_parting W Pn (endsOf Q) (startD ["self"] ds) S := by
  rintro ds S Q E ⟨p, a, b, c, past, rfl, hp, q⟩
  refine xFn ?_
  show w_Planner_parting W Pn _ [some _] S
  unfold w_Planner_parting
  and_intros
  refine ⟨_, _, hp, rfl, ?_⟩
  and_intros
  exact ixTf at1 (cl q)
def sp_Planner_witness (W Pn : Addr) : DSp := fun ds S Q E => ∃ (p : Addr) (a b c : D) (past : List D), ds = [.obj p] ∧ S p = some (plO Pn (.tf [a, b, c]) past) ∧ Q c S
def w_Planner_witness (W Pn : Addr) : WS := (wRet (wO oIx (wFld Pn "here" (wV 0)) (wC (.int 2))))
theorem pure_Planner_witness (W Pn : Addr) : ∀ ds S Q E, sp_Planner_witness W Pn ds S Q E → w_Planner_witness W Pn (endsOf Q) (startD ["self"] ds) S := by
  rintro ds S Q E ⟨p, a, b, c, past, rfl, hp, q⟩
  refine xFn ?_
  show w_Planner_witness W Pn _ [some _] S
  unfold w_Planner_witness
  and_intros
  refine ⟨_, _, hp, rfl, ?_⟩
  and_intros
  exact ixTf at2 (cl q)
def sp_Planner_changes (W Pn : Addr) : DSp := fun ds S Q E => ∃ (p : Addr) (h : D) (past : List D), ds = [.obj p] ∧ S p = some (plO Pn h past) ∧ past.length ≤ 1000000 ∧ Q (.int (past.length : Nat)) S
def w_Planner_changes (W Pn : Addr) : WS := (wRet (wCall cLen (wCons (wFld Pn "past" (wV 0)) wNil)))
theorem pure_Planner_changes (W Pn : Addr) : ∀ ds S Q E, sp_Planner_changes W Pn ds S Q E → w_Planner_changes W Pn (endsOf Q) (startD ["self"] ds) S := by
  rintro ds S Q E ⟨p, h, past, rfl, hp, hl, q⟩
  refine xFn ?_
  show w_Planner_changes W Pn _ [some _] S
  unfold w_Planner_changes
  and_intros
  refine ⟨_, _, hp, rfl, ?_⟩
  and_intros
  exact cl q
def sp_Planner_len (W Pn : Addr) : DSp := fun ds S Q E => ∃ (p : Addr) (a c : D) (rs : List (List Str)) (past : List D), ds = [.obj p] ∧ S p = some (plO Pn (.tf [a, tfD rs, c]) past) ∧ rs.length ≤ 1000000 ∧ Q (.int (rs.length : Nat)) S
def w_Planner_len (W Pn : Addr) : WS := (wRet (wCall cLen (wCons (wO oIx (wFld Pn "here" (wV 0)) (wC (.int 1))) wNil)))
theorem pure_Planner_len (W Pn : Addr) : ∀ ds S Q E, sp_Planner_len W Pn ds S Q E → w_Planner_len W Pn (endsOf Q) (startD ["self"] ds) S := by
  rintro ds S Q E ⟨p, a, c, rs, past, rfl, hp, hl, q⟩
  refine xFn ?_
  show w_Planner_len W Pn _ [some _] S
  unfold w_Planner_len
  and_intros
  refine ⟨_, _, hp, rfl, ?_⟩
  and_intros
  refine ixTf at1 ?_
  and_intros
  exact cl q
end
section
open PySem PySem.Spec PyProof.Rows
/-! ### the law's look at a planner -/
def sp_cup_showsP (W : Addr) : DSp := fun ds S Q E => ∃ (ts : List Str) (ls : List (Str × Str)) (rs : List (List Str)) (w : List Str), ds = [netD ts ls, tfD rs, .tf (plD w)] ∧ WitS ls rs w ∧ rs.length ≤ 1000 ∧ (∀ r ∈ rs, ∀ x ∈ r, sOk x) ∧ (∀ t ∈ ls, sOk t.1 ∧ sOk t.2) ∧ Q (.bl true) S
def w_cup_showsP (W : Addr) : WS := (wSeq (wIfS (wOr (wNot (wB (wCall (cIsi (.ty "tuple") (fTy "tuple" [])) (wCons (wV 2) (wCons (wC (.ty "tuple")) wNil))))) (wB (wO oNe (wCall cLen (wCons (wV 2) wNil)) (wCall cLen (wCons (wV 1) wNil))))) (wRet (wC (.bl false))) wNext)
    (wSeq (wFor (wRng1 (wCons (wCall cLen (wCons (wV 1) wNil)) wNil)) (gV 3) (wIfS (wOr (wNot (wB (wCall (cIsi (.ty "str") (fTy "str" [])) (wCons (wO oIx (wV 2) (wV 3)) (wCons (wC (.ty "str")) wNil))))) (wB (wO oNotIn (wO oIx (wV 2) (wV 3)) (wO oIx (wV 1) (wV 3))))) (wRet (wC (.bl false))) wNext))
    (wRet (wFn (sp_cup_is_free W) [] (wCons (wV 0) (wCons (wV 2) wNil))))))
theorem pure_cup_showsP (W : Addr) : ∀ ds S Q E, sp_cup_showsP W ds S Q E → w_cup_showsP W (endsOf Q) (startD ["_law_net_here", "_law_rows", "_law_thing", "_law_k"] ds) S := by
  rintro ds S Q E ⟨ts, ls, rs, w, rfl, hw, hl, hs, hls, q⟩
  have hwl := hw.len
  have hwm : ∀ (i : Nat) (x : Str), w[i]? = some x → ∃ r, rs[i]? = some r ∧ r ∈ rs ∧ x ∈ r := fun i x hx => by
    have hi : i < rs.length := by rw [← hwl]; exact (List.getElem?_eq_some_iff.mp hx).1
    exact ⟨rs[i], List.getElem?_eq_getElem hi, List.getElem_mem hi, hw.mem i x _ hx (List.getElem?_eq_getElem hi)⟩
  refine xFn ?_
  show w_cup_showsP W _ [some _, some _, some _, none] S
  unfold w_cup_showsP
  and_intros
  have e1 : (plD w).length = rs.length := by rw [List.length_map]; exact hwl
  have e2 : (rs.map rowT).length = rs.length := List.length_map ..
  refine isNB (by simp [hwl]) ?_
  and_intros
  refine rng1N (by omega) ?_
  refine forR (fun a : Option D => [some (netD ts ls), some (tfD rs), some (.tf (plD w)), a]) (fun _ => S) (fun _ _ => True) none trivial ?_ ?_
  · rintro i x hi -
    have hxi := List.getElem?_eq_getElem (show i < w.length by omega)
    obtain ⟨r, hr1, hr2, hr3⟩ := hwm i _ hxi
    and_intros
    refine ixTf (atM (l := w) (f := D.str) hxi) ?_
    and_intros
    refine ixTf (atM (l := w) (f := D.str) hxi) ?_
    and_intros
    refine ixTf (atM (l := rs) (f := rowT) hr1) ?_
    refine ninTf ?_ (hs r hr2 _ hr3) (hs r hr2)
    refine isNB (by simp [hr3]) ?_
    and_intros
    exact .of _ trivial
  · rintro x -
    and_intros
    refine ⟨ts, ls, .tf (plD w), w, rfl, rfl, by omega, fun x hx => ?_, hls, fun b hb => ?_⟩
    · obtain ⟨i, hi⟩ := List.mem_iff_getElem?.mp hx
      obtain ⟨r, _, hr2, hr3⟩ := hwm i x hi
      exact hs r hr2 x hr3
    · rw [hb.mpr hw.freeS]
      exact cl q
theorem ShK.num40p {n : Nat} (h : n ≤ 40) : ShK 0 2000 (.int ((n : Nat) : Int)) := by
  have h1 : ∀ k : Fin 41, (PyData.int ((k.val : Nat) : Int)).weight ≤ 2000 := by decide +kernel
  have h2 : ∀ k : Fin 41, (PyData.int ((k.val : Nat) : Int)).intsShort 13 = true := by decide +kernel
  have h3 : ∀ k : Fin 41, (PyData.int ((k.val : Nat) : Int)).showable = true := by decide +kernel
  exact ⟨by simp [PyData.canLay0], by simp [PyData.depth], h1 ⟨n, by omega⟩, h2 ⟨n, by omega⟩, h3 ⟨n, by omega⟩⟩
def sp_plan_shown (W Pn : Addr) : DSp := fun ds S Q E => ∃ (p : Addr) (ps : List Str) (ts : List (Str × Str)) (rs : List (List Str)) (w : List Str) (past : List D), ds = [.obj p, netD ps ts, .int (past.length : Nat)] ∧ S p = some (plO Pn (stPl W ps ts rs w) past) ∧ WebOk ps ts ∧ PlI ps ts rs w ∧ past.length ≤ 40 ∧ Q (.bl true) S
def w_plan_shown (W Pn : Addr) : WS := (wSeq (wPar 3 4 (wCons (wProp Pn (sp_Planner_parting W Pn) (wV 0)) (wCons (wProp Pn (sp_Planner_witness W Pn) (wV 0)) wNil)))
    (wSeq (wIfS (wOr (wB (wO (oOwn W (sp_Web_ne W)) (wProp Pn (sp_Planner_web W Pn) (wV 0)) (wFn (sp_cup_made W) [] (wCons (wV 1) wNil)))) (wOr (wB (wO oNe (wCall cRepr (wCons (wFld W "pairs" (wProp Pn (sp_Planner_web W Pn) (wV 0))) wNil)) (wCall cRepr (wCons (wO oIx (wV 1) (wC (.int 1))) wNil)))) (wNot (wB (wFn (sp_cup_is_partA W) [] (wCons (wV 1) (wCons (wV 3) wNil))))))) (wRet (wC (.bl false))) wNext)
    (wRet (wAndV (wFn (sp_cup_showsP W) [] (wCons (wV 1) (wCons (wV 3) (wCons (wV 4) wNil)))) (wAndV (wO oEq (wCall cRepr (wCons (wLst (wCons (wCall (cLenO Pn (sp_Planner_len W Pn)) (wCons (wV 0) wNil)) (wCons (wProp Pn (sp_Planner_changes W Pn) (wV 0)) wNil))) wNil)) (wCall cRepr (wCons (wLst (wCons (wCall cLen (wCons (wV 3) wNil)) (wCons (wV 2) wNil))) wNil))) (wCall (cBoolO Pn (sp_Planner_len W Pn)) (wCons (wV 0) wNil)))))))
theorem PlI.few {ps : List Str} {ts : List (Str × Str)} {rs : List (List Str)} {w : List Str} (ok : WebOk ps ts) (h : PlI ps ts rs w) : 0 < rs.length ∧ rs.length ≤ 40 := by
  have h1 := h.part.ps.size
  have h2 := h.part.all
  have h3 := ok.few
  have h4 := ok.pos
  refine ⟨?_, by omega⟩
  rcases Nat.eq_zero_or_pos rs.length with h0 | h0
  · rw [List.length_eq_zero_iff.mp h0] at h2
    simp at h2
    omega
  · exact h0
theorem pure_plan_shown (W Pn : Addr) : ∀ ds S Q E, sp_plan_shown W Pn ds S Q E → w_plan_shown W Pn (endsOf Q) (startD ["_law_made_here", "_law_net_here", "_law_many", "_law_rows", "_law_some"] ds) S := by
  rintro ds S Q E ⟨p, ps, ts, rs, w, past, rfl, hp, ok, I, hl, q⟩
  have hfew := I.few ok
  have hrs : ∀ r ∈ rs, ∀ x ∈ r, sOk x := fun r hr x hx => ok.sok x ((I.part.road r hr).sub x hx)
  refine xFn ?_
  show w_plan_shown W Pn _ [some _, some _, some _, none, none] S
  unfold w_plan_shown
  and_intros
  refine xPropQ ?_
  and_intros
  refine ⟨⟨_, hp⟩, p, _, _, _, past, rfl, hp, ?_⟩
  and_intros
  refine xPropQ ?_
  and_intros
  refine ⟨⟨_, hp⟩, p, _, _, _, past, rfl, hp, ?_⟩
  and_intros
  refine xPropQ ?_
  and_intros
  refine ⟨⟨_, hp⟩, p, _, _, _, past, rfl, hp, ?_⟩
  and_intros
  refine ⟨ps, ts, rfl, ok, ?_⟩
  refine ⟨⟨_, rfl, rfl⟩, ⟨_, rfl, rfl⟩, ps, ps, ts, ts, rfl, ok, ok, ?_⟩
  refine isNB (by simp) ?_
  and_intros
  refine xPropQ ?_
  and_intros
  refine ⟨⟨_, hp⟩, p, _, _, _, past, rfl, hp, ?_⟩
  and_intros
  have shp : ShowOk (.tuple (ts.map prP)) := (ShK.pairs ok.nms ok.tfew).ok (by decide) (by decide)
  refine ⟨rfl, _, pyS_prs S ts, shp, ?_⟩
  and_intros
  refine ixTup at1 ?_
  refine ⟨rfl, _, pyS_prs S ts, shp, ?_⟩
  refine isNB (by simp) ?_
  and_intros
  refine ⟨ps, ts, _, 100, rfl, ok, I.part.any ok, by decide, fun b hb => ?_⟩
  rw [hb.mpr (isPt_tfD.mpr I.part)]
  and_intros
  refine ⟨ps, ts, rs, w, rfl, I.wit, by omega, hrs, ok.soks, ?_⟩
  and_intros
  refine ⟨⟨_, hp⟩, p, _, _, rs, past, rfl, hp, by omega, ⟨_, rfl, by omega, ?_⟩⟩
  and_intros
  refine xPropQ ?_
  and_intros
  refine ⟨⟨_, hp⟩, p, _, past, rfl, hp, by omega, ?_⟩
  and_intros
  have shq : ShowOk (.list [.int (rs.length : Nat), .int (past.length : Nat)]) := (ShKs.cons (ShK.num40p (by omega)) (ShKs.cons (ShK.num40p (by omega)) (.nil (w := 0)))).lst.ok (by decide) (by decide)
  refine reprL rfl shq ?_
  and_intros
  refine reprL rfl shq ?_
  refine isYB (by simp) ?_
  and_intros
  refine ⟨⟨_, hp⟩, p, _, _, rs, past, rfl, hp, by omega, ⟨_, rfl, by omega, ?_⟩⟩
  rw [decide_eq_true (show rs.length ≠ 0 by omega)]
  exact cl q
end
section
open PySem PySem.Spec PyProof.Rows
/-! ### k21 -/
theorem WitS.nodup {ts : List (Str × Str)} {rs : List (List Str)} {w : List Str} (h : WitS ts rs w) (nd : rs.flatten.Nodup) : w.Nodup := by
  refine List.nodup_iff_pairwise_ne.mpr (List.pairwise_iff_getElem.mpr fun i j hi hj hij e => ?_)
  have h1 := List.getElem?_eq_getElem hi
  have h2 := List.getElem?_eq_getElem hj
  have hl := h.len
  have r1 := List.getElem?_eq_getElem (show i < rs.length by omega)
  have r2 := List.getElem?_eq_getElem (show j < rs.length by omega)
  have m1 := h.mem i _ _ h1 r1
  have m2 := h.mem j _ _ h2 r2
  rw [← e] at m2
  exact flat_disj nd r1 r2 (by omega) m1 m2
noncomputable def frP (ls : List (Str × Str)) (r : List Str) : Bool := by
  classical exact decide (FreeS ls r)
theorem frP_iff {ls : List (Str × Str)} {r : List Str} : frP ls r = true ↔ FreeS ls r := by
  unfold frP
  exact @decide_eq_true_iff _ (Classical.propDecidable _)
/-- all free tuples in the order of the places -/
noncomputable def frL (ls : List (Str × Str)) : List Str → List (List Str)
  | [] => [[]]
  | x :: xs => frL ls xs ++ ((frL ls xs).filter fun r => frP ls (r ++ [x])).map fun r => r ++ [x]
theorem frL_len (ls : List (Str × Str)) : ∀ xs, (frL ls xs).length ≤ 2 ^ xs.length
  | [] => Nat.le_refl _
  | x :: xs => by
    have h := frL_len ls xs
    have h2 : ((frL ls xs).filter fun r => frP ls (r ++ [x])).length ≤ (frL ls xs).length := List.length_filter_le ..
    unfold frL
    rw [List.length_append, List.length_map, List.length_cons, Nat.pow_succ]
    omega
theorem frL_mem (ls : List (Str × Str)) : ∀ {xs : List Str} {r : List Str}, r ∈ frL ls xs → (∀ x ∈ r, x ∈ xs) ∧ r.length ≤ xs.length
  | [], r, h => by
    rw [List.mem_singleton.mp h]
    exact ⟨fun x hx => (by cases hx), Nat.le_refl _⟩
  | x :: xs, r, h => by
    rcases List.mem_append.mp (show r ∈ frL ls xs ++ _ from h) with h | h
    · obtain ⟨h1, h2⟩ := frL_mem ls h
      exact ⟨fun y hy => List.mem_cons_of_mem _ (h1 y hy), Nat.le_succ_of_le h2⟩
    · obtain ⟨r', hr', rfl⟩ := List.mem_map.mp h
      obtain ⟨h1, h2⟩ := frL_mem ls (List.mem_filter.mp hr').1
      refine ⟨fun y hy => ?_, by rw [List.length_append, List.length_singleton, List.length_cons]; omega⟩
      rcases List.mem_append.mp hy with hy | hy
      · exact List.mem_cons_of_mem _ (h1 y hy)
      · rw [List.mem_singleton.mp hy]
        exact List.mem_cons_self ..
theorem frL_all {ls : List (Str × Str)} {F : List Str} (hF : ∀ a ∈ F, ∀ b ∈ F, (a, b) ∉ ls) : ∀ xs : List Str, (xs.filter fun v => decide (v ∈ F)).reverse ∈ frL ls xs
  | [] => List.mem_singleton.mpr rfl
  | x :: xs => by
    have h := frL_all hF xs
    unfold frL
    by_cases hk : x ∈ F
    · rw [List.filter_cons, if_pos (decide_eq_true hk), List.reverse_cons]
      refine List.mem_append_right _ (List.mem_map.mpr ⟨_, List.mem_filter.mpr ⟨h, frP_iff.mpr fun i j a b _ ha hb => ?_⟩, rfl⟩)
      have g : ∀ (k : Nat) (c : Str), ((xs.filter fun v => decide (v ∈ F)).reverse ++ [x])[k]? = some c → c ∈ F := fun k c hc => by
        rcases List.mem_append.mp (List.mem_of_getElem? hc) with h | h
        · exact of_decide_eq_true (List.mem_filter.mp (List.mem_reverse.mp h)).2
        · rw [List.mem_singleton.mp h]
          exact hk
      exact ⟨hF a (g i a ha) b (g j b hb), hF b (g j b hb) a (g i a ha)⟩
    · rw [List.filter_cons, if_neg (by simpa using hk)]
      exact List.mem_append_left _ h
def sp_plan_most_free (W : Addr) : DSp := fun ds S Q E => ∃ (ps : List Str) (ts : List (Str × Str)), ds = [netD ps ts] ∧ WebOk ps ts ∧ ps.length ≤ 7 ∧
  ∀ m : Int, (∀ F : List Str, F.Nodup → (∀ x ∈ F, x ∈ ps) → (∀ a ∈ F, ∀ b ∈ F, (a, b) ∉ ts) → (F.length : Int) ≤ m) → Q (.int m) S
def w_plan_most_free (W : Addr) : WS := (wSeq (wAsg (wLst (wCons (wTup wNil) wNil)) (gV 1))
    (wSeq (wFor (wSeqI (wO oIx (wV 0) (wC (.int 0)))) (gV 2) (wAsg (wO oAdd (wV 1) (wLcP (wSeqI (wV 1)) (.n 3) (wB (wFn (sp_cup_is_free W) [] (wCons (wV 0) (wCons (wO oAdd (wV 3) (wTup (wCons (wV 2) wNil))) wNil)))) (wO oAdd (wV 3) (wTup (wCons (wV 2) wNil))) [3])) (gV 1)))
    (wRet (wCall cMax (wCons (wLcP (wSeqI (wV 1)) (.n 3) wYes (wCall cLen (wCons (wV 3) wNil)) [3]) wNil)))))
theorem pure_plan_most_free (W : Addr) : ∀ ds S Q E, sp_plan_most_free W ds S Q E → w_plan_most_free W (endsOf Q) (startD ["_law_net_here", "_law_found", "_law_each", "_law_part"] ds) S := by
  rintro ds S Q E ⟨ps, ts, rfl, ok, h7, q⟩
  have big : ∀ k, (frL ts (ps.take k).reverse).length ≤ 128 := fun k => Nat.le_trans (frL_len ts _) (Nat.pow_le_pow_right (by decide) (show ((ps.take k).reverse).length ≤ 7 by rw [List.length_reverse, List.length_take]; omega))
  refine xFn ?_
  show w_plan_most_free W _ [some _, none, none, none] S
  unfold w_plan_most_free
  and_intros
  refine ixTup at0 ?_
  and_intros
  refine forJ ps D.str (fun x : List (List Str) × Option D => [some (netD ps ts), some (.lst (tupsD x.1)), x.2, none]) (fun _ => S) (fun i x => x.1 = frL ts (ps.take i).reverse) ([[]], none) rfl ?_ ?_
  · rintro i z ⟨L, x⟩ hz hL
    have hL : L = frL ts (ps.take i).reverse := hL
    have hb := big i
    rw [← hL] at hb
    have hi := (List.getElem?_eq_some_iff.mp hz).1
    have hzm := List.mem_of_getElem? hz
    have hlen : ∀ r ∈ L, r.length ≤ 7 ∧ ∀ y ∈ r, sOk y := fun r hr => by
      obtain ⟨h1, h2⟩ := frL_mem ts (hL ▸ hr)
      rw [List.length_reverse, List.length_take] at h2
      exact ⟨by omega, fun y hy => ok.sok y (List.mem_of_mem_take (List.mem_reverse.mp (h1 y hy)))⟩
    and_intros
    refine lcF L (fun r => D.tup (plD r)) (fun r => frP ts (r ++ [z])) (fun r => .tup (plD (r ++ [z]))) ?_ (by omega) (fun r hr S' e => ?_) ?_
    · and_intros
      exact srcT
    · obtain ⟨h1, h2⟩ := hlen r hr
      have e1 : plD (r ++ [z]) = plD r ++ [.str z] := by unfold plD; rw [List.map_append]; rfl
      (simp only [prD, putNT, wipeD, putAll, List.set_cons_zero, List.set_cons_succ, List.length_cons, List.length_nil, true_and]; and_intros)
      refine tAdd ?_ (by rw [List.length_map, List.length_singleton]; omega)
      refine ⟨ps, ts, .tup (plD r ++ [.str z]), r ++ [z], rfl, by rw [e1]; rfl, by rw [List.length_append, List.length_singleton]; omega, fun y hy => ?_, ok.soks, fun b hb => ?_⟩
      · rcases List.mem_append.mp hy with hy | hy
        · exact h2 y hy
        · rw [List.mem_singleton.mp hy]
          exact ok.sok z hzm
      · rw [Bool.eq_iff_iff.mpr (hb.trans frP_iff.symm)]
        refine lcKI fun h3 => ?_
        and_intros
        refine tAdd ?_ (by rw [List.length_map, List.length_singleton]; omega)
        exact ⟨rfl, by rw [e1]⟩
    · have hfl : ((L.filter fun r => frP ts (r ++ [z])).map fun r => D.tup (plD (r ++ [z]))).length ≤ L.length := by
        rw [List.length_map]
        exact List.length_filter_le ..
      refine lAdd ?_ (by rw [show (tupsD L).length = L.length from List.length_map ..]; omega)
      and_intros
      refine .of (L ++ (L.filter fun r => frP ts (r ++ [z])).map fun r => r ++ [z], some (.str z)) ?_ ?_
      · show L ++ _ = frL ts (ps.take (i + 1)).reverse
        rw [List.take_succ, hz, List.reverse_append]
        show _ = frL ts (z :: (ps.take i).reverse)
        unfold frL
        rw [hL]
      · show _ = [some (netD ps ts), some (.lst (tupsD (L ++ (L.filter fun r => frP ts (r ++ [z])).map fun r => r ++ [z]))), some (.str z), none]
        unfold tupsD
        rw [List.map_append, List.map_map]
        rfl
  · rintro ⟨L, x⟩ hL
    have hL : L = frL ts (ps.take ps.length).reverse := hL
    have hb := big ps.length
    rw [← hL] at hb
    rw [List.take_length] at hL
    and_intros
    refine lcM L (fun r => D.tup (plD r)) (fun s => .int ((s.length : Nat) : Int)) ?_ (by omega) (fun s hs S' e => ?_) ?_
    · and_intros
      exact srcT
    · obtain ⟨h1, h2⟩ := frL_mem ts (hL ▸ hs)
      rw [List.length_reverse] at h2
      (simp only [prD, putNT, wipeD, putAll, List.set_cons_zero, List.set_cons_succ, List.length_cons, List.length_nil, true_and]; and_intros)
      exact ⟨rfl, rfl⟩
    · and_intros
      have full := fun (F : List Str) (h : ∀ a ∈ F, ∀ b ∈ F, (a, b) ∉ ts) => frL_all h ps.reverse
      refine .inr ⟨L.map fun s => ((s.length : Nat) : Int), ?_, ?_, fun m hm => ?_⟩
      · show some _ = some _
        rw [List.map_map]
        rfl
      · intro e
        have := full [] (by simp)
        rw [← hL, List.map_eq_nil_iff.mp e] at this
        cases this
      · refine cl (q m fun F nd hF hf => ?_)
        have z := hm.2 _ (List.mem_map.mpr ⟨_, hL ▸ full F hf, rfl⟩)
        have g := nodup_sub_len nd (b := (ps.reverse.filter fun v => decide (v ∈ F)).reverse) fun x hx => List.mem_reverse.mpr (List.mem_filter.mpr ⟨List.mem_reverse.mpr (hF x hx), decide_eq_true hx⟩)
        omega
end
section
open PySem PySem.Spec PyProof.Rows
/-! ### k21, the law -/
/-- what stood before stands, but for the cup at p -/
structure UpS (S S' : SO) (p : Addr) : Prop where
  pan : ∃ a b c, S' p = some (pan3 a b c)
  up : ∀ q u, q ≠ p → S q = some u → S' q = some u
theorem UpS.refl {S : SO} {p : Addr} {a b c : Int} (h : S p = some (pan3 a b c)) : UpS S S p := ⟨⟨a, b, c, h⟩, fun _ _ _ h => h⟩
theorem UpS.cup {S S' : SO} {p : Addr} {a b c : Int} (h : UpS S S' p) : UpS S (S'.set p (pan3 a b c)) p := ⟨⟨a, b, c, set_same⟩, fun q u hq e => by rw [set_ne hq]; exact h.up q u hq e⟩
theorem UpS.ne {S S' : SO} {p q : Addr} (h : UpS S S' p) (hq : S' q = none) : q ≠ p := fun e => by
  obtain ⟨a, b, c, e2⟩ := h.pan
  rw [e, e2] at hq
  cases hq
theorem UpS.new {S S' : SO} {p q : Addr} {o : DO} (h : UpS S S' p) (hq : S' q = none) : UpS S (S'.set q o) p := by
  have hne := h.ne hq
  obtain ⟨a, b, c, e⟩ := h.pan
  refine ⟨⟨a, b, c, by rw [set_ne hne.symm]; exact e⟩, fun r u hr e => ?_⟩
  have e2 := h.up r u hr e
  rw [set_ne (so_ne e2 hq)]
  exact e2
theorem UpS.wk {S S' : SO} {p : Addr} {sd : SD} (h : UpS S S' p) : ∃ a b c, Wk sd S' sd (S.set p (pan3 a b c)) := by
  obtain ⟨a, b, c, e⟩ := h.pan
  refine ⟨a, b, c, Wk.to fun q u hu => ?_⟩
  by_cases hq : q = p
  · rw [hq, set_same] at hu
    rw [hq, e]
    exact hu
  · rw [set_ne hq] at hu
    exact h.up q u hq hu
/-- a planner at q -/
def IsPl (W Pn : Addr) (ps : List Str) (ts : List (Str × Str)) (S : SO) (q : Addr) : Prop := ∃ rs w, PlI ps ts rs w ∧ S q = some (plO Pn (stPl W ps ts rs w) [])
theorem IsPl.set {W Pn : Addr} {ps : List Str} {ts : List (Str × Str)} {S : SO} {q r : Addr} {o : DO} (h : IsPl W Pn ps ts S q) (hr : S r = none) : IsPl W Pn ps ts (S.set r o) q := by
  obtain ⟨rs, w, I, e⟩ := h
  exact ⟨rs, w, I, by rw [set_ne (so_ne e hr)]; exact e⟩
def sp_k21_right (W Pn : Addr) : DSp := fun ds S Q E => ∃ (p : Addr) (a b c : Int), ds = [.obj p] ∧ S p = some (pan3 a b c) ∧ ∀ a' b' c', Q (.bl true) (S.set p (pan3 a' b' c'))
def w_k21_right (W Pn : Addr) : WS := (wSeq (wCl (wFor (wRng1 (wCons (wC (.int 7)) wNil)) (gV 1) (wSeq (wAsg (wIf (wB (wO oLt (wV 1) (wC (.int 6)))) (wFn (sp_cup_net W) [] (wCons (wV 0) (wCons (wC (.int 7)) (wCons (wC (.int 20)) wNil)))) (wFn (sp_cup_net W) [] (wCons (wV 0) (wCons (wC (.int 40)) (wCons (wC (.int 60)) wNil))))) (gV 2))
    (wSeq (wFor (wSeqI (wLst (wCons (wMake Pn (sp_Planner_init W Pn) [] (wCons (wFn (sp_cup_made W) [] (wCons (wV 2) wNil)) wNil)) (wCons (wMakeK Pn (sp_Planner_init W Pn) 1 perm1 (wCons (wFn (sp_cup_made W) [] (wCons (wV 2) wNil)) wNil)) wNil)))) (gV 3) (wSeq (wIfS (wOr (wNot (wB (wFn (sp_plan_shown W Pn) [] (wCons (wV 3) (wCons (wV 2) (wCons (wC (.int 0)) wNil)))))) (wOr (wB (wO (oIdEq Pn) (wV 3) (wMake Pn (sp_Planner_init W Pn) [] (wCons (wFn (sp_cup_made W) [] (wCons (wV 2) wNil)) wNil)))) (wB (wO (oIdNe Pn) (wV 3) (wV 3))))) (wRet (wC (.bl false))) wNext)
    (wIfS (wOr (wNot (wB (wFn (sp_is_partA2 W) [] (wCons (wProp Pn (sp_Planner_web W Pn) (wV 3)) (wCons (wProp Pn (sp_Planner_parting W Pn) (wV 3)) wNil))))) (wNot (wB (wFn (sp_is_witG2 W) [] (wCons (wProp Pn (sp_Planner_web W Pn) (wV 3)) (wCons (wProp Pn (sp_Planner_parting W Pn) (wV 3)) (wCons (wProp Pn (sp_Planner_witness W Pn) (wV 3)) wNil))))))) (wRet (wC (.bl false))) wNext)))
    (wIfS (wAnd (wB (wO oLt (wV 1) (wC (.int 6)))) (wB (wO oGt (wCall (cLenO Pn (sp_Planner_len W Pn)) (wCons (wV 3) wNil)) (wFn (sp_plan_most_free W) [] (wCons (wV 2) wNil))))) (wRet (wC (.bl false))) wNext)))))
    (wRet (wC (.bl true))))
theorem pure_k21_right (W Pn : Addr) : ∀ ds S Q E, sp_k21_right W Pn ds S Q E → w_k21_right W Pn (endsOf Q) (startD ["_law_cup_here", "_law_turn", "_law_net_here", "_law_made_here"] ds) S := by
  rintro ds S Q E ⟨p, a, b, c, rfl, hp, q⟩
  refine xFn ?_
  show w_k21_right W Pn _ [some _, none, none, none] S
  unfold w_k21_right
  and_intros
  refine rng1N (k := 7) (by omega) ?_
  refine forR (fun x : SO × Option D × Option D × Option D => [some (.obj p), x.2.1, x.2.2.1, x.2.2.2]) (fun x => x.1) (fun _ x => UpS S x.1 p) (S, none, none, none) (.refl hp) ?_ ?_
  · rintro i ⟨S1, c1, c2, c3⟩ hi U
    have U : UpS S S1 p := U
    generalize hN : wSeq (wFor (wSeqI (wLst _)) _ _) _ = N
    have rest : ∀ (ts : List Str) (ls : List (Str × Str)) (S1 : SO), UpS S S1 p → WebOk ts ls → (i < 6 → ts.length ≤ 7) → N ⟨Turn (fun x : SO × Option D × Option D × Option D => [some (D.obj p), x.2.1, x.2.2.1, x.2.2.2]) (fun x => x.1) (fun _ x => UpS S x.1 p) (i + 1), Cl Q, ClS fun sd' S' => (wRet (wC (D.bl true))) ⟨fun _ S' => Cl Q .non S', Cl Q, NoS, NoS⟩ sd' S', Turn (fun x : SO × Option D × Option D × Option D => [some (D.obj p), x.2.1, x.2.2.1, x.2.2.2]) (fun x => x.1) (fun _ x => UpS S x.1 p) (i + 1)⟩ [some (.obj p), some (.int (i : Nat)), some (netD ts ls), c3] S1 := by
      intro ts ls S1 U ok h7
      subst hN
      have far : ∀ {rs : List (List Str)} {w : List Str}, PlI ts ls rs w → ∀ a ∈ w, ∀ b ∈ w, (a, b) ∉ ls := fun {rs w} I a ha b hb hm => by
        obtain ⟨i, hi⟩ := List.mem_iff_getElem?.mp ha
        obtain ⟨j, hj⟩ := List.mem_iff_getElem?.mp hb
        by_cases e : i = j
        · subst e
          rw [hi] at hj
          injection hj with e
          exact (ok.tie _ hm).2.2 e
        · exact I.wit.free i j a b e hi hj hm
      and_intros
      refine xMake ?_
      and_intros
      refine ⟨ts, ls, rfl, ok, ?_⟩
      and_intros
      intro p1 h1
      refine ⟨p1, ts, ls, rfl, set_same, ok, fun rs1 w1 I1 => ⟨rfl, ?_⟩⟩
      rw [set_set]
      have U1 := U.new (o := plO Pn (stPl W ts ls rs1 w1) []) h1
      and_intros
      refine xMakeK ?_
      and_intros
      refine ⟨ts, ls, rfl, ok, ?_⟩
      and_intros
      refine ⟨rfl, fun p2 h2 => ⟨p2, ts, ls, rfl, set_same, ok, fun rs2 w2 I2 => ⟨rfl, ?_⟩⟩⟩
      rw [set_set]
      have U2 := U1.new (o := plO Pn (stPl W ts ls rs2 w2) []) h2
      have g1 : IsPl W Pn ts ls ((S1.set p1 (plO Pn (stPl W ts ls rs1 w1) [])).set p2 (plO Pn (stPl W ts ls rs2 w2) [])) p1 := IsPl.set ⟨rs1, w1, I1, set_same⟩ h2
      have g2 : IsPl W Pn ts ls ((S1.set p1 (plO Pn (stPl W ts ls rs1 w1) [])).set p2 (plO Pn (stPl W ts ls rs2 w2) [])) p2 := ⟨rs2, w2, I2, set_same⟩
      revert U2 g1 g2
      generalize (S1.set p1 (plO Pn (stPl W ts ls rs1 w1) [])).set p2 (plO Pn (stPl W ts ls rs2 w2) []) = S2
      intro U2 g1 g2
      and_intros
      refine forJ [p1, p2] D.obj (fun x : SO × Option D => [some (.obj p), some (.int (i : Nat)), some (netD ts ls), x.2]) (fun x => x.1) (fun i x => UpS S x.1 p ∧ IsPl W Pn ts ls x.1 p1 ∧ IsPl W Pn ts ls x.1 p2 ∧ (i = 2 → x.2 = some (.obj p2))) (S2, c3) ⟨U2, g1, g2, fun h => (by cases h)⟩ ?_ ?_
      · rintro j z ⟨S3, c3⟩ hz ⟨U3, g1, g2, _⟩
        have U3 : UpS S S3 p := U3
        have g1 : IsPl W Pn ts ls S3 p1 := g1
        have g2 : IsPl W Pn ts ls S3 p2 := g2
        obtain ⟨rs, w, I, e⟩ : IsPl W Pn ts ls S3 z := by
          rcases (show z = p1 ∨ z = p2 by simpa using List.mem_of_getElem? hz) with h | h <;> rw [h] <;> assumption
        have hfew := I.few ok
        and_intros
        refine ⟨z, ts, ls, rs, w, [], rfl, e, ok, I, by decide, ?_⟩
        and_intros
        refine xMake ?_
        and_intros
        refine ⟨ts, ls, rfl, ok, ?_⟩
        and_intros
        intro p3 h3
        refine ⟨p3, ts, ls, rfl, set_same, ok, fun rs3 w3 I3 => ⟨rfl, ?_⟩⟩
        rw [set_set]
        have hz3 : z ≠ p3 := so_ne e h3
        have e3 : (S3.set p3 (plO Pn (stPl W ts ls rs3 w3) [])) z = some (plO Pn (stPl W ts ls rs w) []) := by rw [set_ne hz3]; exact e
        refine ⟨z, p3, _, _, rfl, rfl, e3, set_same, ?_⟩
        refine isDN hz3 ?_
        and_intros
        refine ⟨z, z, _, _, rfl, rfl, e3, e3, ?_⟩
        refine isNB (by simp) ?_
        and_intros
        refine xPropQ ?_
        and_intros
        refine ⟨⟨_, e3⟩, z, _, _, _, [], rfl, e3, ?_⟩
        and_intros
        refine xPropQ ?_
        and_intros
        refine ⟨⟨_, e3⟩, z, _, _, _, [], rfl, e3, ?_⟩
        and_intros
        refine partY ok I.part ?_
        and_intros
        refine xPropQ ?_
        and_intros
        refine ⟨⟨_, e3⟩, z, _, _, _, [], rfl, e3, ?_⟩
        and_intros
        refine xPropQ ?_
        and_intros
        refine ⟨⟨_, e3⟩, z, _, _, _, [], rfl, e3, ?_⟩
        and_intros
        refine xPropQ ?_
        and_intros
        refine ⟨⟨_, e3⟩, z, _, _, _, [], rfl, e3, ?_⟩
        and_intros
        refine ⟨ts, ls, rs, w, rfl, ok, I.part, I.wit, ?_⟩
        and_intros
        refine .of (S3.set p3 (plO Pn (stPl W ts ls rs3 w3) []), some (.obj z)) ⟨U3.new h3, g1.set h3, g2.set h3, fun h => ?_⟩
        have hj : j = 1 := by omega
        subst hj
        have : p2 = z := Option.some.inj hz
        rw [this]
      · rintro ⟨S3, c3⟩ ⟨U3, g1, g2, hc⟩
        have U3 : UpS S S3 p := U3
        have hc : c3 = some (.obj p2) := hc rfl
        subst hc
        obtain ⟨rs, w, I, e⟩ : IsPl W Pn ts ls S3 p2 := g2
        have hfew := I.few ok
        and_intros
        refine isD (fun h => ?_) (fun h => ?_)
        · and_intros
          refine ⟨⟨_, e⟩, p2, _, _, rs, [], rfl, e, by omega, ⟨_, rfl, by omega, ?_⟩⟩
          and_intros
          refine ⟨ts, ls, rfl, ok, h7 (by omega), fun m hm => ?_⟩
          and_intros
          have z := hm w (I.wit.nodup I.part.nd) I.sub (far I)
          have hwl := I.wit.len
          refine isDN (by omega) ?_
          and_intros
          exact .of (S3, some (.int (i : Nat)), some (netD ts ls), some (.obj p2)) U3
        · and_intros
          exact .of (S3, some (.int (i : Nat)), some (netD ts ls), some (.obj p2)) U3
    and_intros
    refine isD (fun h => ?_) (fun h => ?_)
    · and_intros
      obtain ⟨a, b, c, e⟩ := U.pan
      refine ⟨p, a, b, c, 7, 20, rfl, e, by decide, by decide, by decide, fun ts ls a b c ok hts hls => ?_⟩
      and_intros
      exact rest ts ls _ U.cup ok fun _ => hts
    · and_intros
      obtain ⟨a, b, c, e⟩ := U.pan
      refine ⟨p, a, b, c, 40, 60, rfl, e, by decide, by decide, by decide, fun ts ls a b c ok hts hls => ?_⟩
      and_intros
      exact rest ts ls _ U.cup ok fun h6 => absurd h6 (by omega)
  · rintro ⟨S1, c1, c2, c3⟩ U
    obtain ⟨a, b, c, wk⟩ := (show UpS S S1 p from U).wk (sd := [some (.obj p), c1, c2, c3])
    refine ⟨_, _, wk, ?_⟩
    and_intros
    exact cl (q a b c)
def sp_k21_law (W Pn : Addr) : DSp := LawSp 63
def w_k21_law (W Pn : Addr) : WS := (wRet (wCall cAll (wCons (wLcF (wRng1 (wCons (wCall cMax (wCons (wC (.int 2)) (wCons (wCall cMin (wCons (wCall cLen (wCons (wV 0) wNil)) (wCons (wC (.int 4)) wNil))) wNil))) wNil)) (.n 1) wYes (wFn (sp_k21_right W Pn) [] (wCons (wFn (sp_cup_cup W) [] (wCons (wV 0) (wCons (wV 1) wNil))) wNil)) [1]) wNil)))
theorem pure_k21_law (W Pn : Addr) : ∀ ds S Q E, sp_k21_law W Pn ds S Q E → w_k21_law W Pn (endsOf Q) (startD ["_law_script", "_law_k"] ds) S := pure_cup_lawN W 4 (by decide) fun p a b c S Q hp q => ⟨p, a, b, c, rfl, hp, q⟩
end
end L2.DL
namespace L2.DL
open PySem PySem.Spec PyProof.Rows
theorem len_is_name (W : Addr) : ∀ ds S Q E, sp_is_name W ds S Q E → ds.length = ["value"].length := by
  rintro ds S Q E ⟨_, rfl, _⟩
  rfl
theorem len_wrong_place (W : Addr) : ∀ ds S Q E, sp_wrong_place W ds S Q E → ds.length = ["values"].length := by
  rintro ds S Q E ⟨_, rfl, _⟩
  rfl
theorem len_is_pair (W : Addr) : ∀ ds S Q E, sp_is_pair W ds S Q E → ds.length = ["places", "value"].length := by
  rintro ds S Q E ⟨_, _, rfl, _⟩
  rfl
theorem len_wrong_tie (W : Addr) : ∀ ds S Q E, sp_wrong_tie W ds S Q E → ds.length = ["places", "values"].length := by
  rintro ds S Q E ⟨_, _, rfl, _⟩
  rfl
theorem len_check_places (W : Addr) : ∀ ds S Q E, sp_check_places W ds S Q E → ds.length = ["places"].length := by
  rintro ds S Q E ⟨_, rfl, _⟩
  rfl
theorem len_check_ties (W : Addr) : ∀ ds S Q E, sp_check_ties W ds S Q E → ds.length = ["places", "ties"].length := by
  rintro ds S Q E ⟨_, _, rfl, _⟩
  rfl
theorem len_Web_init (W : Addr) : ∀ ds S Q E, sp_Web_init W ds S Q E → ds.length = ["self", "places", "ties"].length := by
  rintro ds S Q E ⟨_, _, _, rfl, _⟩
  rfl
theorem len_Web_has_tie (W : Addr) : ∀ ds S Q E, sp_Web_has_tie W ds S Q E → ds.length = ["self", "first", "second"].length := by
  rintro ds S Q E ⟨_, _, _, _, rfl, _⟩
  rfl
theorem len_Web_eq (W : Addr) : ∀ ds S Q E, sp_Web_eq W ds S Q E → ds.length = ["self", "other"].length := by
  rintro ds S Q E ⟨_, _, _, _, rfl, _⟩
  rfl
theorem len_Web_ne (W : Addr) : ∀ ds S Q E, sp_Web_ne W ds S Q E → ds.length = ["self", "other"].length := by
  rintro ds S Q E ⟨_, _, _, _, rfl, _⟩
  rfl
theorem len_check_web (W : Addr) : ∀ ds S Q E, sp_check_web W ds S Q E → ds.length = ["web"].length := by
  rintro ds S Q E ⟨_, _, rfl, _⟩
  rfl
theorem len_Web_len (W : Addr) : ∀ ds S Q E, sp_Web_len W ds S Q E → ds.length = ["self"].length := by
  rintro ds S Q E ⟨_, _, rfl, _⟩
  rfl
theorem len_is_road_of (W : Addr) : ∀ ds S Q E, sp_is_road_of W ds S Q E → ds.length = ["web", "value"].length := by
  rintro ds S Q E ⟨_, _, _, _, rfl, _⟩
  rfl
theorem len_is_parting_of (W : Addr) : ∀ ds S Q E, sp_is_parting_of W ds S Q E → ds.length = ["web", "value"].length := by
  rintro ds S Q E ⟨_, _, _, _, _, rfl, _⟩
  rfl
theorem len_check_parting (W : Addr) : ∀ ds S Q E, sp_check_parting W ds S Q E → ds.length = ["web", "value"].length := by
  rintro ds S Q E ⟨_, _, _, _, _, rfl, _⟩
  rfl
theorem len_singles_of (W : Addr) : ∀ ds S Q E, sp_singles_of W ds S Q E → ds.length = ["web"].length := by
  rintro ds S Q E ⟨_, _, rfl, _⟩
  rfl
theorem len_tied_lasts (W : Addr) : ∀ ds S Q E, sp_tied_lasts W ds S Q E → ds.length = ["web", "parting"].length := by
  rintro ds S Q E ⟨_, _, _, rfl, _⟩
  rfl
theorem len_without (W : Addr) : ∀ ds S Q E, sp_without W ds S Q E → ds.length = ["parting", "index"].length := by
  rintro ds S Q E ⟨_, _, rfl, _⟩
  rfl
theorem len_behind (W : Addr) : ∀ ds S Q E, sp_behind W ds S Q E → ds.length = ["parting", "place", "fresh"].length := by
  rintro ds S Q E ⟨_, _, _, rfl, _⟩
  rfl
theorem len_given_back (W : Addr) : ∀ ds S Q E, sp_given_back W ds S Q E → ds.length = ["parting", "ahead", "other", "fresh"].length := by
  rintro ds S Q E ⟨_, _, _, _, rfl, _⟩
  rfl
theorem len_as_lists (W : Addr) : ∀ ds S Q E, sp_as_lists W ds S Q E → ds.length = ["parting"].length := by
  rintro ds S Q E ⟨_, rfl, _⟩
  rfl
theorem len_as_tuples (W : Addr) : ∀ ds S Q E, sp_as_tuples W ds S Q E → ds.length = ["parting"].length := by
  rintro ds S Q E ⟨_, rfl, _⟩
  rfl
theorem len_improved_of (W : Addr) : ∀ ds S Q E, sp_improved_of W ds S Q E → ds.length = ["web", "parting"].length := by
  rintro ds S Q E ⟨_, _, _, rfl, _⟩
  rfl
theorem len_is_roadA (W : Addr) : ∀ ds S Q E, sp_is_roadA W ds S Q E → ds.length = ["web", "value"].length := by
  rintro ds S Q E ⟨_, _, _, _, rfl, _⟩
  rfl
theorem len_is_partA (W : Addr) : ∀ ds S Q E, sp_is_partA W ds S Q E → ds.length = ["web", "value"].length := by
  rintro ds S Q E ⟨_, _, _, _, rfl, _⟩
  rfl
theorem len_is_partA2 (W : Addr) : ∀ ds S Q E, sp_is_partA2 W ds S Q E → ds.length = ["web", "value"].length := by
  rintro ds S Q E ⟨_, _, _, _, rfl, _⟩
  rfl
theorem len_is_tied (W : Addr) : ∀ ds S Q E, sp_is_tied W ds S Q E → ds.length = ["web", "one", "other"].length := by
  rintro ds S Q E ⟨_, _, _, _, rfl, _⟩
  rfl
theorem len_is_free (W : Addr) : ∀ ds S Q E, sp_is_free W ds S Q E → ds.length = ["web", "places"].length := by
  rintro ds S Q E ⟨_, _, _, _, rfl, _⟩
  rfl
theorem len_is_witG (W : Addr) : ∀ ds S Q E, sp_is_witG W ds S Q E → ds.length = ["web", "parting", "value"].length := by
  rintro ds S Q E ⟨_, _, _, _, rfl, _⟩
  rfl
theorem len_is_witG2 (W : Addr) : ∀ ds S Q E, sp_is_witG2 W ds S Q E → ds.length = ["web", "parting", "value"].length := by
  rintro ds S Q E ⟨_, _, _, _, rfl, _⟩
  rfl
theorem len_Planner_init (W Pn : Addr) : ∀ ds S Q E, sp_Planner_init W Pn ds S Q E → ds.length = ["self", "web"].length := by
  rintro ds S Q E ⟨_, _, _, rfl, _⟩
  rfl
theorem len_Planner_web (W Pn : Addr) : ∀ ds S Q E, sp_Planner_web W Pn ds S Q E → ds.length = ["self"].length := by
  rintro ds S Q E ⟨_, _, _, _, _, rfl, _⟩
  rfl
theorem len_Planner_parting (W Pn : Addr) : ∀ ds S Q E, sp_Planner_parting W Pn ds S Q E → ds.length = ["self"].length := by
  rintro ds S Q E ⟨_, _, _, _, _, rfl, _⟩
  rfl
theorem len_Planner_witness (W Pn : Addr) : ∀ ds S Q E, sp_Planner_witness W Pn ds S Q E → ds.length = ["self"].length := by
  rintro ds S Q E ⟨_, _, _, _, _, rfl, _⟩
  rfl
theorem len_Planner_changes (W Pn : Addr) : ∀ ds S Q E, sp_Planner_changes W Pn ds S Q E → ds.length = ["self"].length := by
  rintro ds S Q E ⟨_, _, _, rfl, _⟩
  rfl
theorem len_Planner_len (W Pn : Addr) : ∀ ds S Q E, sp_Planner_len W Pn ds S Q E → ds.length = ["self"].length := by
  rintro ds S Q E ⟨_, _, _, _, _, rfl, _⟩
  rfl
theorem len_cup_cup (W : Addr) : ∀ ds S Q E, sp_cup_cup W ds S Q E → ds.length = ["_law_script", "_law_k"].length := by
  rintro ds S Q E ⟨_, _, rfl, _⟩
  rfl
theorem len_cup_sip (W : Addr) : ∀ ds S Q E, sp_cup_sip W ds S Q E → ds.length = ["_law_cup_here", "_law_many"].length := by
  rintro ds S Q E ⟨_, _, _, _, _, rfl, _⟩
  rfl
theorem len_cup_of (W : Addr) : ∀ ds S Q E, sp_cup_of W ds S Q E → ds.length = ["_law_cup_here", "_law_things"].length := by
  rintro ds S Q E ⟨_, _, _, _, _, _, rfl, _⟩
  rfl
theorem len_cup_folk (W : Addr) : ∀ ds S Q E, sp_cup_folk W ds S Q E → ds.length = ["_law_cup_here", "_law_many"].length := by
  rintro ds S Q E ⟨_, _, _, _, _, rfl, _⟩
  rfl
theorem len_cup_ties (W : Addr) : ∀ ds S Q E, sp_cup_ties W ds S Q E → ds.length = ["_law_cup_here", "_law_folk_here", "_law_most"].length := by
  rintro ds S Q E ⟨_, _, _, _, _, _, rfl, _⟩
  rfl
theorem len_cup_net (W : Addr) : ∀ ds S Q E, sp_cup_net W ds S Q E → ds.length = ["_law_cup_here", "_law_most", "_law_ties_most"].length := by
  rintro ds S Q E ⟨_, _, _, _, _, _, rfl, _⟩
  rfl
theorem len_cup_made (W : Addr) : ∀ ds S Q E, sp_cup_made W ds S Q E → ds.length = ["_law_net_here"].length := by
  rintro ds S Q E ⟨_, _, rfl, _⟩
  rfl
theorem len_cup_is_roadA (W : Addr) : ∀ ds S Q E, sp_cup_is_roadA W ds S Q E → ds.length = ["_law_net_here", "_law_thing"].length := by
  rintro ds S Q E ⟨_, _, _, _, rfl, _⟩
  rfl
theorem len_cup_is_partA (W : Addr) : ∀ ds S Q E, sp_cup_is_partA W ds S Q E → ds.length = ["_law_net_here", "_law_thing"].length := by
  rintro ds S Q E ⟨_, _, _, _, rfl, _⟩
  rfl
theorem len_cup_meets (W : Addr) : ∀ ds S Q E, sp_cup_meets W ds S Q E → ds.length = ["_law_net_here", "_law_one", "_law_two"].length := by
  rintro ds S Q E ⟨_, _, _, _, rfl, _⟩
  rfl
theorem len_cup_is_free (W : Addr) : ∀ ds S Q E, sp_cup_is_free W ds S Q E → ds.length = ["_law_net_here", "_law_some"].length := by
  rintro ds S Q E ⟨_, _, _, _, rfl, _⟩
  rfl
theorem len_cup_showsP (W : Addr) : ∀ ds S Q E, sp_cup_showsP W ds S Q E → ds.length = ["_law_net_here", "_law_rows", "_law_thing"].length := by
  rintro ds S Q E ⟨_, _, _, _, rfl, _⟩
  rfl
theorem len_plan_shown (W Pn : Addr) : ∀ ds S Q E, sp_plan_shown W Pn ds S Q E → ds.length = ["_law_made_here", "_law_net_here", "_law_many"].length := by
  rintro ds S Q E ⟨_, _, _, _, _, _, rfl, _⟩
  rfl
theorem len_plan_most_free (W : Addr) : ∀ ds S Q E, sp_plan_most_free W ds S Q E → ds.length = ["_law_net_here"].length := by
  rintro ds S Q E ⟨_, _, rfl, _⟩
  rfl
theorem len_k21_right (W Pn : Addr) : ∀ ds S Q E, sp_k21_right W Pn ds S Q E → ds.length = ["_law_cup_here"].length := by
  rintro ds S Q E ⟨_, _, _, _, rfl, _⟩
  rfl
theorem len_k21_law (W Pn : Addr) : ∀ ds S Q E, sp_k21_law W Pn ds S Q E → ds.length = ["_law_script"].length := by
  rintro ds S Q E ⟨_, rfl, _⟩
  rfl
/-! ### the program by places -/
def topS (i : Nat) : Stmt := PySem.Challenge.pw_fewroads_k21_whole_planners_made.main.body.getD i (.Pass ⟨0, 0, 0, 0⟩)
abbrev s_is_name : Stmt := topS 13
theorem sc_is_name : FnScope ["value", "sign"] ["value"] (defScope s_is_name) := ⟨rfl, rfl, rfl, by decide +kernel, rfl, by decide +kernel, by decide +kernel⟩
abbrev s_wrong_place : Stmt := topS 17
theorem sc_wrong_place : FnScope ["values", "index", "value"] ["values"] (defScope s_wrong_place) := ⟨rfl, rfl, rfl, by decide +kernel, rfl, by decide +kernel, by decide +kernel⟩
abbrev s_is_pair : Stmt := topS 18
theorem sc_is_pair : FnScope ["places", "value", "place"] ["places", "value"] (defScope s_is_pair) := ⟨rfl, rfl, rfl, by decide +kernel, rfl, by decide +kernel, by decide +kernel⟩
abbrev s_wrong_tie : Stmt := topS 19
theorem sc_wrong_tie : FnScope ["places", "values", "seen", "index", "value"] ["places", "values"] (defScope s_wrong_tie) := ⟨rfl, rfl, rfl, by decide +kernel, rfl, by decide +kernel, by decide +kernel⟩
abbrev s_check_places : Stmt := topS 20
theorem sc_check_places : FnScope ["places", "wrong"] ["places"] (defScope s_check_places) := ⟨rfl, rfl, rfl, by decide +kernel, rfl, by decide +kernel, by decide +kernel⟩
abbrev s_check_ties : Stmt := topS 21
theorem sc_check_ties : FnScope ["places", "ties", "wrong"] ["places", "ties"] (defScope s_check_ties) := ⟨rfl, rfl, rfl, by decide +kernel, rfl, by decide +kernel, by decide +kernel⟩
abbrev s_Web_init : Stmt := inClass (topS 22) 0
theorem sc_Web_init : FnScope ["self", "places", "ties", "tie"] ["self", "places", "ties"] (defScope s_Web_init) := ⟨rfl, rfl, rfl, by decide +kernel, rfl, by decide +kernel, by decide +kernel⟩
abbrev s_Web_has_tie : Stmt := inClass (topS 22) 4
theorem sc_Web_has_tie : FnScope ["self", "first", "second"] ["self", "first", "second"] (defScope s_Web_has_tie) := ⟨rfl, rfl, rfl, by decide +kernel, rfl, by decide +kernel, by decide +kernel⟩
abbrev s_Web_eq : Stmt := inClass (topS 22) 8
theorem sc_Web_eq : FnScope ["self", "other"] ["self", "other"] (defScope s_Web_eq) := ⟨rfl, rfl, rfl, by decide +kernel, rfl, by decide +kernel, by decide +kernel⟩
abbrev s_Web_ne : Stmt := inClass (topS 22) 9
theorem sc_Web_ne : FnScope ["self", "other"] ["self", "other"] (defScope s_Web_ne) := ⟨rfl, rfl, rfl, by decide +kernel, rfl, by decide +kernel, by decide +kernel⟩
abbrev s_check_web : Stmt := topS 23
theorem sc_check_web : FnScope ["web"] ["web"] (defScope s_check_web) := ⟨rfl, rfl, rfl, by decide +kernel, rfl, by decide +kernel, by decide +kernel⟩
abbrev s_Web_len : Stmt := inClass (topS 22) 10
theorem sc_Web_len : FnScope ["self"] ["self"] (defScope s_Web_len) := ⟨rfl, rfl, rfl, by decide +kernel, rfl, by decide +kernel, by decide +kernel⟩
abbrev s_is_road_of : Stmt := topS 26
theorem sc_is_road_of : FnScope ["web", "value", "place", "at"] ["web", "value"] (defScope s_is_road_of) := ⟨rfl, rfl, rfl, by decide +kernel, rfl, by decide +kernel, by decide +kernel⟩
abbrev s_is_parting_of : Stmt := topS 27
theorem sc_is_parting_of : FnScope ["web", "value", "found", "road", "place"] ["web", "value"] (defScope s_is_parting_of) := ⟨rfl, rfl, rfl, by decide +kernel, rfl, by decide +kernel, by decide +kernel⟩
abbrev s_check_parting : Stmt := topS 28
theorem sc_check_parting : FnScope ["web", "value"] ["web", "value"] (defScope s_check_parting) := ⟨rfl, rfl, rfl, by decide +kernel, rfl, by decide +kernel, by decide +kernel⟩
abbrev s_singles_of : Stmt := topS 31
theorem sc_singles_of : FnScope ["web", "place"] ["web"] (defScope s_singles_of) := ⟨rfl, rfl, rfl, by decide +kernel, rfl, by decide +kernel, by decide +kernel⟩
abbrev s_tied_lasts : Stmt := topS 35
theorem sc_tied_lasts : FnScope ["web", "parting", "begin", "road", "end", "other"] ["web", "parting"] (defScope s_tied_lasts) := ⟨rfl, rfl, rfl, by decide +kernel, rfl, by decide +kernel, by decide +kernel⟩
abbrev s_without : Stmt := topS 36
theorem sc_without : FnScope ["parting", "index", "at", "road"] ["parting", "index"] (defScope s_without) := ⟨rfl, rfl, rfl, by decide +kernel, rfl, by decide +kernel, by decide +kernel⟩
abbrev s_behind : Stmt := topS 37
theorem sc_behind : FnScope ["parting", "place", "fresh", "road"] ["parting", "place", "fresh"] (defScope s_behind) := ⟨rfl, rfl, rfl, by decide +kernel, rfl, by decide +kernel, by decide +kernel⟩
abbrev s_given_back : Stmt := topS 38
theorem sc_given_back : FnScope ["parting", "ahead", "other", "fresh", "ends", "road"] ["parting", "ahead", "other", "fresh"] (defScope s_given_back) := ⟨rfl, rfl, rfl, by decide +kernel, rfl, by decide +kernel, by decide +kernel⟩
abbrev s_step_of : Stmt := topS 39
theorem sc_step_of : FnScope ["web", "parting", "found", "begin", "end", "other", "fresh", "shorter", "witness", "later", "road", "at"] ["web", "parting"] (defScope s_step_of) := ⟨rfl, rfl, rfl, by decide +kernel, rfl, by decide +kernel, by decide +kernel⟩
abbrev s_as_lists : Stmt := topS 40
theorem sc_as_lists : FnScope ["parting", "road"] ["parting"] (defScope s_as_lists) := ⟨rfl, rfl, rfl, by decide +kernel, rfl, by decide +kernel, by decide +kernel⟩
abbrev s_as_tuples : Stmt := topS 41
theorem sc_as_tuples : FnScope ["parting", "road"] ["parting"] (defScope s_as_tuples) := ⟨rfl, rfl, rfl, by decide +kernel, rfl, by decide +kernel, by decide +kernel⟩
abbrev s_improved_of : Stmt := topS 42
theorem sc_improved_of : FnScope ["web", "parting", "here", "witness", "later"] ["web", "parting"] (defScope s_improved_of) := ⟨rfl, rfl, rfl, by decide +kernel, rfl, by decide +kernel, by decide +kernel⟩
abbrev s_is_roadA : Stmt := topS 26
theorem sc_is_roadA : FnScope ["web", "value", "place", "at"] ["web", "value"] (defScope s_is_roadA) := ⟨rfl, rfl, rfl, by decide +kernel, rfl, by decide +kernel, by decide +kernel⟩
abbrev s_is_partA : Stmt := topS 27
theorem sc_is_partA : FnScope ["web", "value", "found", "road", "place"] ["web", "value"] (defScope s_is_partA) := ⟨rfl, rfl, rfl, by decide +kernel, rfl, by decide +kernel, by decide +kernel⟩
abbrev s_is_partA2 : Stmt := topS 32
theorem sc_is_partA2 : FnScope ["web", "value"] ["web", "value"] (defScope s_is_partA2) := ⟨rfl, rfl, rfl, by decide +kernel, rfl, by decide +kernel, by decide +kernel⟩
abbrev s_is_tied : Stmt := topS 24
theorem sc_is_tied : FnScope ["web", "one", "other"] ["web", "one", "other"] (defScope s_is_tied) := ⟨rfl, rfl, rfl, by decide +kernel, rfl, by decide +kernel, by decide +kernel⟩
abbrev s_is_free : Stmt := topS 29
theorem sc_is_free : FnScope ["web", "places", "index", "one", "other"] ["web", "places"] (defScope s_is_free) := ⟨rfl, rfl, rfl, by decide +kernel, rfl, by decide +kernel, by decide +kernel⟩
abbrev s_is_witG : Stmt := topS 30
theorem sc_is_witG : FnScope ["web", "parting", "value", "place", "road"] ["web", "parting", "value"] (defScope s_is_witG) := ⟨rfl, rfl, rfl, by decide +kernel, rfl, by decide +kernel, by decide +kernel⟩
abbrev s_is_witG2 : Stmt := topS 33
theorem sc_is_witG2 : FnScope ["web", "parting", "value"] ["web", "parting", "value"] (defScope s_is_witG2) := ⟨rfl, rfl, rfl, by decide +kernel, rfl, by decide +kernel, by decide +kernel⟩
abbrev s_Planner_init : Stmt := inClass (topS 44) 0
theorem sc_Planner_init : FnScope ["self", "web"] ["self", "web"] (defScope s_Planner_init) := ⟨rfl, rfl, rfl, by decide +kernel, rfl, by decide +kernel, by decide +kernel⟩
abbrev s_Planner_web : Stmt := inClass (topS 44) 1
theorem sc_Planner_web : FnScope ["self"] ["self"] (defScope s_Planner_web) := ⟨rfl, rfl, rfl, by decide +kernel, rfl, by decide +kernel, by decide +kernel⟩
abbrev s_Planner_parting : Stmt := inClass (topS 44) 2
theorem sc_Planner_parting : FnScope ["self"] ["self"] (defScope s_Planner_parting) := ⟨rfl, rfl, rfl, by decide +kernel, rfl, by decide +kernel, by decide +kernel⟩
abbrev s_Planner_witness : Stmt := inClass (topS 44) 3
theorem sc_Planner_witness : FnScope ["self"] ["self"] (defScope s_Planner_witness) := ⟨rfl, rfl, rfl, by decide +kernel, rfl, by decide +kernel, by decide +kernel⟩
abbrev s_Planner_changes : Stmt := inClass (topS 44) 4
theorem sc_Planner_changes : FnScope ["self"] ["self"] (defScope s_Planner_changes) := ⟨rfl, rfl, rfl, by decide +kernel, rfl, by decide +kernel, by decide +kernel⟩
abbrev s_Planner_len : Stmt := inClass (topS 44) 5
theorem sc_Planner_len : FnScope ["self"] ["self"] (defScope s_Planner_len) := ⟨rfl, rfl, rfl, by decide +kernel, rfl, by decide +kernel, by decide +kernel⟩
abbrev s_cup_cup : Stmt := topS 46
theorem sc_cup_cup : FnScope ["_law_script", "_law_k", "_law_cell", "_law_mixed", "_law_each"] ["_law_script", "_law_k"] (defScope s_cup_cup) := ⟨rfl, rfl, rfl, by decide +kernel, rfl, by decide +kernel, by decide +kernel⟩
abbrev s_cup_sip : Stmt := topS 47
theorem sc_cup_sip : FnScope ["_law_cup_here", "_law_many", "_law_old", "_law_digit"] ["_law_cup_here", "_law_many"] (defScope s_cup_sip) := ⟨rfl, rfl, rfl, by decide +kernel, rfl, by decide +kernel, by decide +kernel⟩
abbrev s_cup_of : Stmt := topS 48
theorem sc_cup_of : FnScope ["_law_cup_here", "_law_things"] ["_law_cup_here", "_law_things"] (defScope s_cup_of) := ⟨rfl, rfl, rfl, by decide +kernel, rfl, by decide +kernel, by decide +kernel⟩
abbrev s_cup_folk : Stmt := topS 49
theorem sc_cup_folk : FnScope ["_law_cup_here", "_law_many", "_law_start", "_law_menu", "_law_leap", "_law_letters", "_law_stem", "_law_heads", "_law_k"] ["_law_cup_here", "_law_many"] (defScope s_cup_folk) := ⟨rfl, rfl, rfl, by decide +kernel, rfl, by decide +kernel, by decide +kernel⟩
abbrev s_cup_ties : Stmt := topS 50
theorem sc_cup_ties : FnScope ["_law_cup_here", "_law_folk_here", "_law_most", "_law_found", "_law_turn", "_law_pair"] ["_law_cup_here", "_law_folk_here", "_law_most"] (defScope s_cup_ties) := ⟨rfl, rfl, rfl, by decide +kernel, rfl, by decide +kernel, by decide +kernel⟩
abbrev s_cup_net : Stmt := topS 51
theorem sc_cup_net : FnScope ["_law_cup_here", "_law_most", "_law_ties_most", "_law_folk_here"] ["_law_cup_here", "_law_most", "_law_ties_most"] (defScope s_cup_net) := ⟨rfl, rfl, rfl, by decide +kernel, rfl, by decide +kernel, by decide +kernel⟩
abbrev s_cup_made : Stmt := topS 52
theorem sc_cup_made : FnScope ["_law_net_here"] ["_law_net_here"] (defScope s_cup_made) := ⟨rfl, rfl, rfl, by decide +kernel, rfl, by decide +kernel, by decide +kernel⟩
abbrev s_cup_is_roadA : Stmt := topS 54
theorem sc_cup_is_roadA : FnScope ["_law_net_here", "_law_thing", "_law_k"] ["_law_net_here", "_law_thing"] (defScope s_cup_is_roadA) := ⟨rfl, rfl, rfl, by decide +kernel, rfl, by decide +kernel, by decide +kernel⟩
abbrev s_cup_is_partA : Stmt := topS 55
theorem sc_cup_is_partA : FnScope ["_law_net_here", "_law_thing", "_law_found", "_law_row"] ["_law_net_here", "_law_thing"] (defScope s_cup_is_partA) := ⟨rfl, rfl, rfl, by decide +kernel, rfl, by decide +kernel, by decide +kernel⟩
abbrev s_cup_meets : Stmt := topS 53
theorem sc_cup_meets : FnScope ["_law_net_here", "_law_one", "_law_two"] ["_law_net_here", "_law_one", "_law_two"] (defScope s_cup_meets) := ⟨rfl, rfl, rfl, by decide +kernel, rfl, by decide +kernel, by decide +kernel⟩
abbrev s_cup_is_free : Stmt := topS 56
theorem sc_cup_is_free : FnScope ["_law_net_here", "_law_some", "_law_k", "_law_j"] ["_law_net_here", "_law_some"] (defScope s_cup_is_free) := ⟨rfl, rfl, rfl, by decide +kernel, rfl, by decide +kernel, by decide +kernel⟩
abbrev s_cup_showsP : Stmt := topS 57
theorem sc_cup_showsP : FnScope ["_law_net_here", "_law_rows", "_law_thing", "_law_k"] ["_law_net_here", "_law_rows", "_law_thing"] (defScope s_cup_showsP) := ⟨rfl, rfl, rfl, by decide +kernel, rfl, by decide +kernel, by decide +kernel⟩
abbrev s_plan_shown : Stmt := topS 58
theorem sc_plan_shown : FnScope ["_law_made_here", "_law_net_here", "_law_many", "_law_rows", "_law_some"] ["_law_made_here", "_law_net_here", "_law_many"] (defScope s_plan_shown) := ⟨rfl, rfl, rfl, by decide +kernel, rfl, by decide +kernel, by decide +kernel⟩
abbrev s_plan_most_free : Stmt := topS 59
theorem sc_plan_most_free : FnScope ["_law_net_here", "_law_found", "_law_each", "_law_part"] ["_law_net_here"] (defScope s_plan_most_free) := ⟨rfl, rfl, rfl, by decide +kernel, rfl, by decide +kernel, by decide +kernel⟩
abbrev s_k21_right : Stmt := topS 60
theorem sc_k21_right : FnScope ["_law_cup_here", "_law_turn", "_law_net_here", "_law_made_here"] ["_law_cup_here"] (defScope s_k21_right) := ⟨rfl, rfl, rfl, by decide +kernel, rfl, by decide +kernel, by decide +kernel⟩
abbrev s_k21_law : Stmt := topS 61
theorem sc_k21_law : FnScope ["_law_script", "_law_k"] ["_law_script"] (defScope s_k21_law) := ⟨rfl, rfl, rfl, by decide +kernel, rfl, by decide +kernel, by decide +kernel⟩
abbrev s_g_places : Stmt := inClass (topS 22) 2
theorem sc_g_places : FnScope ["self"] ["self"] (defScope s_g_places) := ⟨rfl, rfl, rfl, by decide +kernel, rfl, by decide +kernel, by decide +kernel⟩
abbrev s_g_ties : Stmt := inClass (topS 22) 3
theorem sc_g_ties : FnScope ["self"] ["self"] (defScope s_g_ties) := ⟨rfl, rfl, rfl, by decide +kernel, rfl, by decide +kernel, by decide +kernel⟩
/-! ### what the top has written -/
structure Txt (P : Program) (K : PySem.W.Frag) (mg : Str → Option Value) where
  a_Planner : Addr
  m_Planner : mg "Planner" = some (.ref a_Planner)
  c_Planner : Cls K a_Planner
  id_Planner : IdC K a_Planner
  nb_Planner : PySem.W.findIn K (.ref a_Planner) "__bool__" = some none
  n_here : NoAttr K a_Planner "here"
  n_past : NoAttr K a_Planner "past"
  a_Web : Addr
  m_Web : mg "Web" = some (.ref a_Web)
  c_Web : Cls K a_Web
  n_marks : NoAttr K a_Web "marks"
  n_pairs : NoAttr K a_Web "pairs"
  n_row : NoAttr K a_Web "row"
  ins_Web : InsOk K a_Web
  kit0 : ∀ n ∈ tyNames, PySem.W.kitOne K (.type n) (.ref a_Web) = some false
  kit1 : PySem.W.kitOne K (.ref a_Web) (.ref a_Web) = some true
  a_is_name : Addr
  d_is_name : FuncData
  F_is_name : Fun K "is_name" "is_name" s_is_name a_is_name d_is_name
  m_is_name : mg "is_name" = some (.ref a_is_name)
  a_wrong_place : Addr
  d_wrong_place : FuncData
  F_wrong_place : Fun K "wrong_place" "wrong_place" s_wrong_place a_wrong_place d_wrong_place
  m_wrong_place : mg "wrong_place" = some (.ref a_wrong_place)
  a_is_pair : Addr
  d_is_pair : FuncData
  F_is_pair : Fun K "is_pair" "is_pair" s_is_pair a_is_pair d_is_pair
  m_is_pair : mg "is_pair" = some (.ref a_is_pair)
  a_wrong_tie : Addr
  d_wrong_tie : FuncData
  F_wrong_tie : Fun K "wrong_tie" "wrong_tie" s_wrong_tie a_wrong_tie d_wrong_tie
  m_wrong_tie : mg "wrong_tie" = some (.ref a_wrong_tie)
  a_check_places : Addr
  d_check_places : FuncData
  F_check_places : Fun K "check_places" "check_places" s_check_places a_check_places d_check_places
  m_check_places : mg "check_places" = some (.ref a_check_places)
  a_check_ties : Addr
  d_check_ties : FuncData
  F_check_ties : Fun K "check_ties" "check_ties" s_check_ties a_check_ties d_check_ties
  m_check_ties : mg "check_ties" = some (.ref a_check_ties)
  a_Web_init : Addr
  d_Web_init : FuncData
  v_Web_init : V
  F_Web_init : FunD K "__init__" "Web.__init__" (defArgs s_Web_init) (defBody s_Web_init) (defScope s_Web_init) [v_Web_init] [] a_Web_init d_Web_init
  k_Web : Mk K a_Web a_Web_init
  a_Web_has_tie : Addr
  d_Web_has_tie : FuncData
  F_Web_has_tie : Fun K "has_tie" "Web.has_tie" s_Web_has_tie a_Web_has_tie d_Web_has_tie
  h_has_tie : Meth K a_Web "has_tie" a_Web_has_tie
  a_Web_eq : Addr
  d_Web_eq : FuncData
  F_Web_eq : Fun K "__eq__" "Web.__eq__" s_Web_eq a_Web_eq d_Web_eq
  h___eq__ : Meth K a_Web "__eq__" a_Web_eq
  a_Web_ne : Addr
  d_Web_ne : FuncData
  F_Web_ne : Fun K "__ne__" "Web.__ne__" s_Web_ne a_Web_ne d_Web_ne
  h___ne__ : Meth K a_Web "__ne__" a_Web_ne
  a_check_web : Addr
  d_check_web : FuncData
  F_check_web : Fun K "check_web" "check_web" s_check_web a_check_web d_check_web
  m_check_web : mg "check_web" = some (.ref a_check_web)
  a_Web_len : Addr
  d_Web_len : FuncData
  F_Web_len : Fun K "__len__" "Web.__len__" s_Web_len a_Web_len d_Web_len
  h___len__ : Meth K a_Web "__len__" a_Web_len
  a_is_road_of : Addr
  d_is_road_of : FuncData
  F_is_road_of : Fun K "is_road_of" "is_road_of" s_is_road_of a_is_road_of d_is_road_of
  m_is_road_of : mg "is_road_of" = some (.ref a_is_road_of)
  a_is_parting_of : Addr
  d_is_parting_of : FuncData
  F_is_parting_of : Fun K "is_parting_of" "is_parting_of" s_is_parting_of a_is_parting_of d_is_parting_of
  m_is_parting_of : mg "is_parting_of" = some (.ref a_is_parting_of)
  a_check_parting : Addr
  d_check_parting : FuncData
  F_check_parting : Fun K "check_parting" "check_parting" s_check_parting a_check_parting d_check_parting
  m_check_parting : mg "check_parting" = some (.ref a_check_parting)
  a_singles_of : Addr
  d_singles_of : FuncData
  F_singles_of : Fun K "singles_of" "singles_of" s_singles_of a_singles_of d_singles_of
  m_singles_of : mg "singles_of" = some (.ref a_singles_of)
  a_tied_lasts : Addr
  d_tied_lasts : FuncData
  F_tied_lasts : Fun K "tied_lasts" "tied_lasts" s_tied_lasts a_tied_lasts d_tied_lasts
  m_tied_lasts : mg "tied_lasts" = some (.ref a_tied_lasts)
  a_without : Addr
  d_without : FuncData
  F_without : Fun K "without" "without" s_without a_without d_without
  m_without : mg "without" = some (.ref a_without)
  a_behind : Addr
  d_behind : FuncData
  F_behind : Fun K "behind" "behind" s_behind a_behind d_behind
  m_behind : mg "behind" = some (.ref a_behind)
  a_given_back : Addr
  d_given_back : FuncData
  F_given_back : Fun K "given_back" "given_back" s_given_back a_given_back d_given_back
  m_given_back : mg "given_back" = some (.ref a_given_back)
  a_step_of : Addr
  d_step_of : FuncData
  F_step_of : Fun K "step_of" "step_of" s_step_of a_step_of d_step_of
  m_step_of : mg "step_of" = some (.ref a_step_of)
  a_as_lists : Addr
  d_as_lists : FuncData
  F_as_lists : Fun K "as_lists" "as_lists" s_as_lists a_as_lists d_as_lists
  m_as_lists : mg "as_lists" = some (.ref a_as_lists)
  a_as_tuples : Addr
  d_as_tuples : FuncData
  F_as_tuples : Fun K "as_tuples" "as_tuples" s_as_tuples a_as_tuples d_as_tuples
  m_as_tuples : mg "as_tuples" = some (.ref a_as_tuples)
  a_improved_of : Addr
  d_improved_of : FuncData
  F_improved_of : Fun K "improved_of" "improved_of" s_improved_of a_improved_of d_improved_of
  m_improved_of : mg "improved_of" = some (.ref a_improved_of)
  a_is_roadA : Addr
  d_is_roadA : FuncData
  F_is_roadA : Fun K "is_road_of" "is_road_of" s_is_roadA a_is_roadA d_is_roadA
  m_is_roadA : mg "is_road_of" = some (.ref a_is_roadA)
  a_is_partA : Addr
  d_is_partA : FuncData
  F_is_partA : Fun K "is_parting_of" "is_parting_of" s_is_partA a_is_partA d_is_partA
  m_is_partA : mg "is_parting_of" = some (.ref a_is_partA)
  a_is_partA2 : Addr
  d_is_partA2 : FuncData
  F_is_partA2 : Fun K "is_parting" "is_parting" s_is_partA2 a_is_partA2 d_is_partA2
  m_is_partA2 : mg "is_parting" = some (.ref a_is_partA2)
  a_is_tied : Addr
  d_is_tied : FuncData
  F_is_tied : Fun K "is_tied" "is_tied" s_is_tied a_is_tied d_is_tied
  m_is_tied : mg "is_tied" = some (.ref a_is_tied)
  a_is_free : Addr
  d_is_free : FuncData
  F_is_free : Fun K "is_free" "is_free" s_is_free a_is_free d_is_free
  m_is_free : mg "is_free" = some (.ref a_is_free)
  a_is_witG : Addr
  d_is_witG : FuncData
  F_is_witG : Fun K "is_witness_of" "is_witness_of" s_is_witG a_is_witG d_is_witG
  m_is_witG : mg "is_witness_of" = some (.ref a_is_witG)
  a_is_witG2 : Addr
  d_is_witG2 : FuncData
  F_is_witG2 : Fun K "is_witness" "is_witness" s_is_witG2 a_is_witG2 d_is_witG2
  m_is_witG2 : mg "is_witness" = some (.ref a_is_witG2)
  a_Planner_init : Addr
  d_Planner_init : FuncData
  F_Planner_init : Fun K "__init__" "Planner.__init__" s_Planner_init a_Planner_init d_Planner_init
  k_Planner : Mk K a_Planner a_Planner_init
  a_Planner_web : Addr
  d_Planner_web : FuncData
  F_Planner_web : Fun K "web" "Planner.web" s_Planner_web a_Planner_web d_Planner_web
  q_Planner_web : Addr
  p_Planner_web : PropOf K a_Planner "web" q_Planner_web a_Planner_web
  a_Planner_parting : Addr
  d_Planner_parting : FuncData
  F_Planner_parting : Fun K "parting" "Planner.parting" s_Planner_parting a_Planner_parting d_Planner_parting
  q_Planner_parting : Addr
  p_Planner_parting : PropOf K a_Planner "parting" q_Planner_parting a_Planner_parting
  a_Planner_witness : Addr
  d_Planner_witness : FuncData
  F_Planner_witness : Fun K "witness" "Planner.witness" s_Planner_witness a_Planner_witness d_Planner_witness
  q_Planner_witness : Addr
  p_Planner_witness : PropOf K a_Planner "witness" q_Planner_witness a_Planner_witness
  a_Planner_changes : Addr
  d_Planner_changes : FuncData
  F_Planner_changes : Fun K "changes" "Planner.changes" s_Planner_changes a_Planner_changes d_Planner_changes
  q_Planner_changes : Addr
  p_Planner_changes : PropOf K a_Planner "changes" q_Planner_changes a_Planner_changes
  a_Planner_len : Addr
  d_Planner_len : FuncData
  F_Planner_len : Fun K "__len__" "Planner.__len__" s_Planner_len a_Planner_len d_Planner_len
  h_Planner___len__ : Meth K a_Planner "__len__" a_Planner_len
  a_cup_cup : Addr
  d_cup_cup : FuncData
  F_cup_cup : Fun K "_law_cup" "_law_cup" s_cup_cup a_cup_cup d_cup_cup
  m_cup_cup : mg "_law_cup" = some (.ref a_cup_cup)
  a_cup_sip : Addr
  d_cup_sip : FuncData
  F_cup_sip : Fun K "_law_sip" "_law_sip" s_cup_sip a_cup_sip d_cup_sip
  m_cup_sip : mg "_law_sip" = some (.ref a_cup_sip)
  a_cup_of : Addr
  d_cup_of : FuncData
  F_cup_of : Fun K "_law_of" "_law_of" s_cup_of a_cup_of d_cup_of
  m_cup_of : mg "_law_of" = some (.ref a_cup_of)
  a_cup_folk : Addr
  d_cup_folk : FuncData
  F_cup_folk : Fun K "_law_folk" "_law_folk" s_cup_folk a_cup_folk d_cup_folk
  m_cup_folk : mg "_law_folk" = some (.ref a_cup_folk)
  a_cup_ties : Addr
  d_cup_ties : FuncData
  F_cup_ties : Fun K "_law_ties" "_law_ties" s_cup_ties a_cup_ties d_cup_ties
  m_cup_ties : mg "_law_ties" = some (.ref a_cup_ties)
  a_cup_net : Addr
  d_cup_net : FuncData
  F_cup_net : Fun K "_law_net" "_law_net" s_cup_net a_cup_net d_cup_net
  m_cup_net : mg "_law_net" = some (.ref a_cup_net)
  a_cup_made : Addr
  d_cup_made : FuncData
  F_cup_made : Fun K "_law_made" "_law_made" s_cup_made a_cup_made d_cup_made
  m_cup_made : mg "_law_made" = some (.ref a_cup_made)
  a_cup_is_roadA : Addr
  d_cup_is_roadA : FuncData
  F_cup_is_roadA : Fun K "_law_is_road" "_law_is_road" s_cup_is_roadA a_cup_is_roadA d_cup_is_roadA
  m_cup_is_roadA : mg "_law_is_road" = some (.ref a_cup_is_roadA)
  a_cup_is_partA : Addr
  d_cup_is_partA : FuncData
  F_cup_is_partA : Fun K "_law_is_parting" "_law_is_parting" s_cup_is_partA a_cup_is_partA d_cup_is_partA
  m_cup_is_partA : mg "_law_is_parting" = some (.ref a_cup_is_partA)
  a_cup_meets : Addr
  d_cup_meets : FuncData
  F_cup_meets : Fun K "_law_meets" "_law_meets" s_cup_meets a_cup_meets d_cup_meets
  m_cup_meets : mg "_law_meets" = some (.ref a_cup_meets)
  a_cup_is_free : Addr
  d_cup_is_free : FuncData
  F_cup_is_free : Fun K "_law_is_free" "_law_is_free" s_cup_is_free a_cup_is_free d_cup_is_free
  m_cup_is_free : mg "_law_is_free" = some (.ref a_cup_is_free)
  a_cup_showsP : Addr
  d_cup_showsP : FuncData
  F_cup_showsP : Fun K "_law_shows" "_law_shows" s_cup_showsP a_cup_showsP d_cup_showsP
  m_cup_showsP : mg "_law_shows" = some (.ref a_cup_showsP)
  a_plan_shown : Addr
  d_plan_shown : FuncData
  F_plan_shown : Fun K "_law_shown" "_law_shown" s_plan_shown a_plan_shown d_plan_shown
  m_plan_shown : mg "_law_shown" = some (.ref a_plan_shown)
  a_plan_most_free : Addr
  d_plan_most_free : FuncData
  F_plan_most_free : Fun K "_law_most_free" "_law_most_free" s_plan_most_free a_plan_most_free d_plan_most_free
  m_plan_most_free : mg "_law_most_free" = some (.ref a_plan_most_free)
  a_k21_right : Addr
  d_k21_right : FuncData
  F_k21_right : Fun K "_law_right" "_law_right" s_k21_right a_k21_right d_k21_right
  m_k21_right : mg "_law_right" = some (.ref a_k21_right)
  a_k21_law : Addr
  d_k21_law : FuncData
  F_k21_law : Fun K "law" "law" s_k21_law a_k21_law d_k21_law
  m_k21_law : mg "law" = some (.ref a_k21_law)
  a_g_places : Addr
  d_g_places : FuncData
  F_g_places : Fun K "places" "Web.places" s_g_places a_g_places d_g_places
  q_places : Addr
  p_places : PropOf K a_Web "places" q_places a_g_places
  a_g_ties : Addr
  d_g_ties : FuncData
  F_g_ties : Fun K "ties" "Web.ties" s_g_ties a_g_ties d_g_ties
  q_ties : Addr
  p_ties : PropOf K a_Web "ties" q_ties a_g_ties
  t_LETTERS : Tok
  m_LETTERS : mg "LETTERS" = some (.str "abcdefghijklmnopqrstuvwxyz" t_LETTERS)
  t_MOST_PLACES : Tok
  m_MOST_PLACES : mg "MOST_PLACES" = some (.int 40 t_MOST_PLACES)
  t_MOST_TIES : Tok
  m_MOST_TIES : mg "MOST_TIES" = some (.int 200 t_MOST_TIES)
  z_abs : mg "abs" = none
  z_all : mg "all" = none
  z_any : mg "any" = none
  z_bool : mg "bool" = none
  z_divmod : mg "divmod" = none
  z_enumerate : mg "enumerate" = none
  z_int : mg "int" = none
  z_isinstance : mg "isinstance" = none
  z_len : mg "len" = none
  z_list : mg "list" = none
  z_max : mg "max" = none
  z_min : mg "min" = none
  z_range : mg "range" = none
  z_repr : mg "repr" = none
  z_sorted : mg "sorted" = none
  z_str : mg "str" = none
  z_tuple : mg "tuple" = none
  z_zip : mg "zip" = none
section
variable {P : Program} {w : World} {K : PySem.W.Frag} {mg : Str → Option Value} {base : Heap}
theorem isiT_Web (T : Txt P K mg) {X : Cx} (hK : X.K = K) : DC X (.builtin "isinstance") (cIsi (.obj T.a_Web) (fOwn (isi_Web T.a_Web))) := by
  subst hK
  exact dc_isiO T.a_Web _ T.kit0 (fun C b h => by
    unfold isi_Web at h
    split at h
    · rename_i e
      rw [e]
      cases h
      exact ⟨T.ins_Web, T.kit1⟩
    · cases h)
theorem g_places (T : Txt P K mg) : FnOk P w K mg base CX0 1 T.a_g_places T.d_g_places ["self"] (getSp T.a_Web "row") := by
  obtain ⟨oc, od, kV, doc, pm, an, cdv, ct, osl, e, lk, hcd⟩ := T.F_g_places.ex
  rw [e] at lk ⊢
  exact fn_getter lk hcd sc_g_places rfl rfl T.c_Web T.n_row
theorem b_places (T : Txt P K mg) : Binds K T.d_g_places ["self"] [] := T.F_g_places.binds fun _ _ _ _ _ _ us hl => match us, hl with | [_], _ => rfl
theorem g_ties (T : Txt P K mg) : FnOk P w K mg base CX0 1 T.a_g_ties T.d_g_ties ["self"] (getSp T.a_Web "pairs") := by
  obtain ⟨oc, od, kV, doc, pm, an, cdv, ct, osl, e, lk, hcd⟩ := T.F_g_ties.ex
  rw [e] at lk ⊢
  exact fn_getter lk hcd sc_g_ties rfl rfl T.c_Web T.n_pairs
theorem b_ties (T : Txt P K mg) : Binds K T.d_g_ties ["self"] [] := T.F_g_ties.binds fun _ _ _ _ _ _ us hl => match us, hl with | [_], _ => rfl
theorem b_is_name {f : Addr} {fd : FuncData} (F : Fun K "is_name" "is_name" s_is_name f fd) : Binds K fd ["value"] [] := F.binds fun _ _ _ _ _ _ us hl => match us, hl with | [_], _ => rfl
theorem b_wrong_place {f : Addr} {fd : FuncData} (F : Fun K "wrong_place" "wrong_place" s_wrong_place f fd) : Binds K fd ["values"] [] := F.binds fun _ _ _ _ _ _ us hl => match us, hl with | [_], _ => rfl
theorem b_is_pair {f : Addr} {fd : FuncData} (F : Fun K "is_pair" "is_pair" s_is_pair f fd) : Binds K fd ["places", "value"] [] := F.binds fun _ _ _ _ _ _ us hl => match us, hl with | [_, _], _ => rfl
theorem b_wrong_tie {f : Addr} {fd : FuncData} (F : Fun K "wrong_tie" "wrong_tie" s_wrong_tie f fd) : Binds K fd ["places", "values"] [] := F.binds fun _ _ _ _ _ _ us hl => match us, hl with | [_, _], _ => rfl
theorem b_check_places {f : Addr} {fd : FuncData} (F : Fun K "check_places" "check_places" s_check_places f fd) : Binds K fd ["places"] [] := F.binds fun _ _ _ _ _ _ us hl => match us, hl with | [_], _ => rfl
theorem b_check_ties {f : Addr} {fd : FuncData} (F : Fun K "check_ties" "check_ties" s_check_ties f fd) : Binds K fd ["places", "ties"] [] := F.binds fun _ _ _ _ _ _ us hl => match us, hl with | [_, _], _ => rfl
theorem b_Web_init (T : Txt P K mg) : Binds K T.d_Web_init ["self", "places", "ties"] [] := by
  obtain ⟨ds, h1, h2⟩ := T.F_Web_init.binds1 (ps := ["self", "places", "ties"]) 3 1 (by simp) (by rfl) (fun _ _ _ _ _ _ _ us its hl hi => match us, its, hl, hi with | [_, _, _], [_], _, _ => ⟨_, rfl, rfl⟩)
  cases h1
  exact h2
theorem b_Web_has_tie {f : Addr} {fd : FuncData} (F : Fun K "has_tie" "Web.has_tie" s_Web_has_tie f fd) : Binds K fd ["self", "first", "second"] [] := F.binds fun _ _ _ _ _ _ us hl => match us, hl with | [_, _, _], _ => rfl
theorem b_Web_eq {f : Addr} {fd : FuncData} (F : Fun K "__eq__" "Web.__eq__" s_Web_eq f fd) : Binds K fd ["self", "other"] [] := F.binds fun _ _ _ _ _ _ us hl => match us, hl with | [_, _], _ => rfl
theorem b_Web_ne {f : Addr} {fd : FuncData} (F : Fun K "__ne__" "Web.__ne__" s_Web_ne f fd) : Binds K fd ["self", "other"] [] := F.binds fun _ _ _ _ _ _ us hl => match us, hl with | [_, _], _ => rfl
theorem b_check_web {f : Addr} {fd : FuncData} (F : Fun K "check_web" "check_web" s_check_web f fd) : Binds K fd ["web"] [] := F.binds fun _ _ _ _ _ _ us hl => match us, hl with | [_], _ => rfl
theorem b_Web_len {f : Addr} {fd : FuncData} (F : Fun K "__len__" "Web.__len__" s_Web_len f fd) : Binds K fd ["self"] [] := F.binds fun _ _ _ _ _ _ us hl => match us, hl with | [_], _ => rfl
theorem b_is_road_of {f : Addr} {fd : FuncData} (F : Fun K "is_road_of" "is_road_of" s_is_road_of f fd) : Binds K fd ["web", "value"] [] := F.binds fun _ _ _ _ _ _ us hl => match us, hl with | [_, _], _ => rfl
theorem b_is_parting_of {f : Addr} {fd : FuncData} (F : Fun K "is_parting_of" "is_parting_of" s_is_parting_of f fd) : Binds K fd ["web", "value"] [] := F.binds fun _ _ _ _ _ _ us hl => match us, hl with | [_, _], _ => rfl
theorem b_check_parting {f : Addr} {fd : FuncData} (F : Fun K "check_parting" "check_parting" s_check_parting f fd) : Binds K fd ["web", "value"] [] := F.binds fun _ _ _ _ _ _ us hl => match us, hl with | [_, _], _ => rfl
theorem b_singles_of {f : Addr} {fd : FuncData} (F : Fun K "singles_of" "singles_of" s_singles_of f fd) : Binds K fd ["web"] [] := F.binds fun _ _ _ _ _ _ us hl => match us, hl with | [_], _ => rfl
theorem b_tied_lasts {f : Addr} {fd : FuncData} (F : Fun K "tied_lasts" "tied_lasts" s_tied_lasts f fd) : Binds K fd ["web", "parting"] [] := F.binds fun _ _ _ _ _ _ us hl => match us, hl with | [_, _], _ => rfl
theorem b_without {f : Addr} {fd : FuncData} (F : Fun K "without" "without" s_without f fd) : Binds K fd ["parting", "index"] [] := F.binds fun _ _ _ _ _ _ us hl => match us, hl with | [_, _], _ => rfl
theorem b_behind {f : Addr} {fd : FuncData} (F : Fun K "behind" "behind" s_behind f fd) : Binds K fd ["parting", "place", "fresh"] [] := F.binds fun _ _ _ _ _ _ us hl => match us, hl with | [_, _, _], _ => rfl
theorem b_given_back {f : Addr} {fd : FuncData} (F : Fun K "given_back" "given_back" s_given_back f fd) : Binds K fd ["parting", "ahead", "other", "fresh"] [] := F.binds fun _ _ _ _ _ _ us hl => match us, hl with | [_, _, _, _], _ => rfl
theorem b_step_of {f : Addr} {fd : FuncData} (F : Fun K "step_of" "step_of" s_step_of f fd) : Binds K fd ["web", "parting"] [] := F.binds fun _ _ _ _ _ _ us hl => match us, hl with | [_, _], _ => rfl
theorem b_as_lists {f : Addr} {fd : FuncData} (F : Fun K "as_lists" "as_lists" s_as_lists f fd) : Binds K fd ["parting"] [] := F.binds fun _ _ _ _ _ _ us hl => match us, hl with | [_], _ => rfl
theorem b_as_tuples {f : Addr} {fd : FuncData} (F : Fun K "as_tuples" "as_tuples" s_as_tuples f fd) : Binds K fd ["parting"] [] := F.binds fun _ _ _ _ _ _ us hl => match us, hl with | [_], _ => rfl
theorem b_improved_of {f : Addr} {fd : FuncData} (F : Fun K "improved_of" "improved_of" s_improved_of f fd) : Binds K fd ["web", "parting"] [] := F.binds fun _ _ _ _ _ _ us hl => match us, hl with | [_, _], _ => rfl
theorem b_is_roadA {f : Addr} {fd : FuncData} (F : Fun K "is_road_of" "is_road_of" s_is_roadA f fd) : Binds K fd ["web", "value"] [] := F.binds fun _ _ _ _ _ _ us hl => match us, hl with | [_, _], _ => rfl
theorem b_is_partA {f : Addr} {fd : FuncData} (F : Fun K "is_parting_of" "is_parting_of" s_is_partA f fd) : Binds K fd ["web", "value"] [] := F.binds fun _ _ _ _ _ _ us hl => match us, hl with | [_, _], _ => rfl
theorem b_is_partA2 {f : Addr} {fd : FuncData} (F : Fun K "is_parting" "is_parting" s_is_partA2 f fd) : Binds K fd ["web", "value"] [] := F.binds fun _ _ _ _ _ _ us hl => match us, hl with | [_, _], _ => rfl
theorem b_is_tied {f : Addr} {fd : FuncData} (F : Fun K "is_tied" "is_tied" s_is_tied f fd) : Binds K fd ["web", "one", "other"] [] := F.binds fun _ _ _ _ _ _ us hl => match us, hl with | [_, _, _], _ => rfl
theorem b_is_free {f : Addr} {fd : FuncData} (F : Fun K "is_free" "is_free" s_is_free f fd) : Binds K fd ["web", "places"] [] := F.binds fun _ _ _ _ _ _ us hl => match us, hl with | [_, _], _ => rfl
theorem b_is_witG {f : Addr} {fd : FuncData} (F : Fun K "is_witness_of" "is_witness_of" s_is_witG f fd) : Binds K fd ["web", "parting", "value"] [] := F.binds fun _ _ _ _ _ _ us hl => match us, hl with | [_, _, _], _ => rfl
theorem b_is_witG2 {f : Addr} {fd : FuncData} (F : Fun K "is_witness" "is_witness" s_is_witG2 f fd) : Binds K fd ["web", "parting", "value"] [] := F.binds fun _ _ _ _ _ _ us hl => match us, hl with | [_, _, _], _ => rfl
theorem b_Planner_init {f : Addr} {fd : FuncData} (F : Fun K "__init__" "Planner.__init__" s_Planner_init f fd) : Binds K fd ["self", "web"] [] := F.binds fun _ _ _ _ _ _ us hl => match us, hl with | [_, _], _ => rfl
theorem b_Planner_web {f : Addr} {fd : FuncData} (F : Fun K "web" "Planner.web" s_Planner_web f fd) : Binds K fd ["self"] [] := F.binds fun _ _ _ _ _ _ us hl => match us, hl with | [_], _ => rfl
theorem b_Planner_parting {f : Addr} {fd : FuncData} (F : Fun K "parting" "Planner.parting" s_Planner_parting f fd) : Binds K fd ["self"] [] := F.binds fun _ _ _ _ _ _ us hl => match us, hl with | [_], _ => rfl
theorem b_Planner_witness {f : Addr} {fd : FuncData} (F : Fun K "witness" "Planner.witness" s_Planner_witness f fd) : Binds K fd ["self"] [] := F.binds fun _ _ _ _ _ _ us hl => match us, hl with | [_], _ => rfl
theorem b_Planner_changes {f : Addr} {fd : FuncData} (F : Fun K "changes" "Planner.changes" s_Planner_changes f fd) : Binds K fd ["self"] [] := F.binds fun _ _ _ _ _ _ us hl => match us, hl with | [_], _ => rfl
theorem b_Planner_len {f : Addr} {fd : FuncData} (F : Fun K "__len__" "Planner.__len__" s_Planner_len f fd) : Binds K fd ["self"] [] := F.binds fun _ _ _ _ _ _ us hl => match us, hl with | [_], _ => rfl
theorem b_cup_cup {f : Addr} {fd : FuncData} (F : Fun K "_law_cup" "_law_cup" s_cup_cup f fd) : Binds K fd ["_law_script", "_law_k"] [] := F.binds fun _ _ _ _ _ _ us hl => match us, hl with | [_, _], _ => rfl
theorem b_cup_sip {f : Addr} {fd : FuncData} (F : Fun K "_law_sip" "_law_sip" s_cup_sip f fd) : Binds K fd ["_law_cup_here", "_law_many"] [] := F.binds fun _ _ _ _ _ _ us hl => match us, hl with | [_, _], _ => rfl
theorem b_cup_of {f : Addr} {fd : FuncData} (F : Fun K "_law_of" "_law_of" s_cup_of f fd) : Binds K fd ["_law_cup_here", "_law_things"] [] := F.binds fun _ _ _ _ _ _ us hl => match us, hl with | [_, _], _ => rfl
theorem b_cup_folk {f : Addr} {fd : FuncData} (F : Fun K "_law_folk" "_law_folk" s_cup_folk f fd) : Binds K fd ["_law_cup_here", "_law_many"] [] := F.binds fun _ _ _ _ _ _ us hl => match us, hl with | [_, _], _ => rfl
theorem b_cup_ties {f : Addr} {fd : FuncData} (F : Fun K "_law_ties" "_law_ties" s_cup_ties f fd) : Binds K fd ["_law_cup_here", "_law_folk_here", "_law_most"] [] := F.binds fun _ _ _ _ _ _ us hl => match us, hl with | [_, _, _], _ => rfl
theorem b_cup_net {f : Addr} {fd : FuncData} (F : Fun K "_law_net" "_law_net" s_cup_net f fd) : Binds K fd ["_law_cup_here", "_law_most", "_law_ties_most"] [] := F.binds fun _ _ _ _ _ _ us hl => match us, hl with | [_, _, _], _ => rfl
theorem b_cup_made {f : Addr} {fd : FuncData} (F : Fun K "_law_made" "_law_made" s_cup_made f fd) : Binds K fd ["_law_net_here"] [] := F.binds fun _ _ _ _ _ _ us hl => match us, hl with | [_], _ => rfl
theorem b_cup_is_roadA {f : Addr} {fd : FuncData} (F : Fun K "_law_is_road" "_law_is_road" s_cup_is_roadA f fd) : Binds K fd ["_law_net_here", "_law_thing"] [] := F.binds fun _ _ _ _ _ _ us hl => match us, hl with | [_, _], _ => rfl
theorem b_cup_is_partA {f : Addr} {fd : FuncData} (F : Fun K "_law_is_parting" "_law_is_parting" s_cup_is_partA f fd) : Binds K fd ["_law_net_here", "_law_thing"] [] := F.binds fun _ _ _ _ _ _ us hl => match us, hl with | [_, _], _ => rfl
theorem b_cup_meets {f : Addr} {fd : FuncData} (F : Fun K "_law_meets" "_law_meets" s_cup_meets f fd) : Binds K fd ["_law_net_here", "_law_one", "_law_two"] [] := F.binds fun _ _ _ _ _ _ us hl => match us, hl with | [_, _, _], _ => rfl
theorem b_cup_is_free {f : Addr} {fd : FuncData} (F : Fun K "_law_is_free" "_law_is_free" s_cup_is_free f fd) : Binds K fd ["_law_net_here", "_law_some"] [] := F.binds fun _ _ _ _ _ _ us hl => match us, hl with | [_, _], _ => rfl
theorem b_cup_showsP {f : Addr} {fd : FuncData} (F : Fun K "_law_shows" "_law_shows" s_cup_showsP f fd) : Binds K fd ["_law_net_here", "_law_rows", "_law_thing"] [] := F.binds fun _ _ _ _ _ _ us hl => match us, hl with | [_, _, _], _ => rfl
theorem b_plan_shown {f : Addr} {fd : FuncData} (F : Fun K "_law_shown" "_law_shown" s_plan_shown f fd) : Binds K fd ["_law_made_here", "_law_net_here", "_law_many"] [] := F.binds fun _ _ _ _ _ _ us hl => match us, hl with | [_, _, _], _ => rfl
theorem b_plan_most_free {f : Addr} {fd : FuncData} (F : Fun K "_law_most_free" "_law_most_free" s_plan_most_free f fd) : Binds K fd ["_law_net_here"] [] := F.binds fun _ _ _ _ _ _ us hl => match us, hl with | [_], _ => rfl
theorem b_k21_right {f : Addr} {fd : FuncData} (F : Fun K "_law_right" "_law_right" s_k21_right f fd) : Binds K fd ["_law_cup_here"] [] := F.binds fun _ _ _ _ _ _ us hl => match us, hl with | [_], _ => rfl
theorem kbn1_Planner_init {f : Addr} {fd : FuncData} (F : Fun K "__init__" "Planner.__init__" s_Planner_init f fd) : KBn K fd ["self", "web"] 1 ["web"] (fun us ws => us ++ perm1 [] ws) (fun vs zs => vs ++ perm1 [] zs) := by
  obtain ⟨oc, od, kV, doc, pm, an, cdv, ct, osl, rfl, lk, hcd⟩ := F.ex
  refine ⟨fun s us ws X h1 h2 => ?_, fun h1 h2 => h1.append h2⟩
  match us, ws, h1, h2 with
  | [x], [y], _, _ => exact .of_eq rfl
/-! ### each def keeps its promise -/
theorem ok_is_name (T : Txt P K mg) : FnD P w K mg base 1 T.a_is_name T.d_is_name ["value"] (sp_is_name T.a_Web) := by
  refine fnD_ok (w0 := w_is_name T.a_Web) (fun_at T.F_is_name) sc_is_name (len_is_name _) (fun cdv A outer s H E hr hg => ?_) (pure_is_name T.a_Web)
  exact (dss_one (ds_ret (de_and (de_callB (dc_isiT "str" [] (by decide) (fun _ h => nomatch h)) (by rfl) T.z_isinstance boot_isinstance (da_cons (de_v 0) (da_cons (de_bT T.z_str boot_str) da_nil))) (de_and (de_ch do_lt do_lt de_int (de_callB dc_len (by rfl) T.z_len boot_len (da_cons (de_v 0) da_nil)) de_int) (de_one (de_callB (dc_all rfl) (by rfl) T.z_all boot_all (da_cons (de_lcP rfl sc_is_name.nd (di_str (de_v 0)) (own := [("sign", 1)]) (nt := (.n 1)) (blkOk_by (by kernel_rfl)) (by decide) (fun _ _ _ _ _ => (pg_name (i := 1) sc_is_name.nd rfl (.inl rfl))) (fun _ _ _ _ _ => dts_nil) (fun _ _ _ _ _ => (de_c (do_in (u65 hr)) (de_v 1) (de_gS T.m_LETTERS)))) da_nil)))))))
theorem ok_wrong_place (T : Txt P K mg) : FnD P w K mg base 2 T.a_wrong_place T.d_wrong_place ["values"] (sp_wrong_place T.a_Web) := by
  refine fnD_ok (w0 := w_wrong_place T.a_Web) (fun_at T.F_wrong_place) sc_wrong_place (len_wrong_place _) (fun cdv A outer s H E hr hg => ?_) (pure_wrong_place T.a_Web)
  exact (dss_cons (ds_for PassesOwn.never rfl (di_enum T.z_enumerate (da_cons (de_v 0) da_nil)) (dg_tup rfl (dgs_cons (dg_v (i := 1) sc_wrong_place.nd) (dgs_cons (dg_v (i := 2) sc_wrong_place.nd) dgs_nil))) (dss_one (ds_if (dw_pt (dw_or (dt_c (do_eq (u65 hr)) (de_v 1) (de_gI T.m_MOST_PLACES)) (dw_or (dt_not (dt_b (de_fn (FnG.up (ok_is_name T) (by decide)) hr hg T.m_is_name T.F_is_name.kp (b_is_name T.F_is_name) .nil lits_nil (da_cons (de_v 2) da_nil)))) (dw_or1 (dt_c (do_in (u65 hr)) (de_v 2) (de_sl (de_v 0) dp_none (dp_some (de_v 1)))))))) (dss_one (ds_ret (de_v 1))) dss_nil)))
    (dss_one (ds_ret de_non)))
theorem ok_is_pair (T : Txt P K mg) : FnD P w K mg base 1 T.a_is_pair T.d_is_pair ["places", "value"] (sp_is_pair T.a_Web) := by
  refine fnD_ok (w0 := w_is_pair T.a_Web) (fun_at T.F_is_pair) sc_is_pair (len_is_pair _) (fun cdv A outer s H E hr hg => ?_) (pure_is_pair T.a_Web)
  exact (dss_cons (ds_if (dw_pt (dw_or (dt_not (dt_b (de_callB (dc_isiT "tuple" [] (by decide) (fun _ h => nomatch h)) (by rfl) T.z_isinstance boot_isinstance (da_cons (de_v 1) (da_cons (de_bT T.z_tuple boot_tuple) da_nil))))) (dw_or1 (dt_c (do_ne (u65 hr)) (de_callB dc_len (by rfl) T.z_len boot_len (da_cons (de_v 1) da_nil)) de_int)))) (dss_one (ds_ret de_bl)) dss_nil)
    (dss_one (ds_ret (de_and (de_callB (dc_all rfl) (by rfl) T.z_all boot_all (da_cons (de_lcP rfl sc_is_pair.nd (di_seq (de_v 1)) (own := [("place", 2)]) (nt := (.n 2)) (blkOk_by (by kernel_rfl)) (by decide) (fun _ _ _ _ _ => (pg_name (i := 2) sc_is_pair.nd rfl (.inl rfl))) (fun _ _ _ _ _ => dts_nil) (fun _ _ _ _ _ => (de_and (de_callB (dc_isiT "str" [] (by decide) (fun _ h => nomatch h)) (by rfl) T.z_isinstance boot_isinstance (da_cons (de_v 2) (da_cons (de_bT T.z_str boot_str) da_nil))) (de_one (de_c (do_in (u65 hr)) (de_v 2) (de_v 0)))))) da_nil)) (de_one (de_c (do_ne (u65 hr)) (de_ix (u65 hr) (de_v 1) de_int) (de_ix (u65 hr) (de_v 1) de_int)))))))
theorem ok_wrong_tie (T : Txt P K mg) : FnD P w K mg base 2 T.a_wrong_tie T.d_wrong_tie ["places", "values"] (sp_wrong_tie T.a_Web) := by
  refine fnD_ok (w0 := w_wrong_tie T.a_Web) (fun_at T.F_wrong_tie) sc_wrong_tie (len_wrong_tie _) (fun cdv A outer s H E hr hg => ?_) (pure_wrong_tie T.a_Web)
  exact (dss_cons (ds_set (i := 2) sc_wrong_tie.nd de_dnewT)
    (dss_cons (ds_for PassesOwn.never rfl (di_enum T.z_enumerate (da_cons (de_v 1) da_nil)) (dg_tup rfl (dgs_cons (dg_v (i := 3) sc_wrong_tie.nd) (dgs_cons (dg_v (i := 4) sc_wrong_tie.nd) dgs_nil))) (dss_cons (ds_if (dw_pt (dw_or (dt_c (do_eq (u65 hr)) (de_v 3) (de_gI T.m_MOST_TIES)) (dw_or (dt_not (dt_b (de_fn (FnG.up (ok_is_pair T) (by decide)) hr hg T.m_is_pair T.F_is_pair.kp (b_is_pair T.F_is_pair) .nil lits_nil (da_cons (de_v 0) (da_cons (de_v 4) da_nil))))) (dw_or1 (dt_c (do_in (u65 hr)) (de_v 4) (de_v 2)))))) (dss_one (ds_ret (de_v 3))) dss_nil)
    (dss_one (ds_sub (u65 hr) (de_v 2) (de_v 4) de_bl))))
    (dss_one (ds_ret de_non))))
theorem ok_check_places (T : Txt P K mg) : FnD P w K mg base 3 T.a_check_places T.d_check_places ["places"] (sp_check_places T.a_Web) := by
  refine fnD_ok (w0 := w_check_places T.a_Web) (fun_at T.F_check_places) sc_check_places (len_check_places _) (fun cdv A outer s H E hr hg => ?_) (pure_check_places T.a_Web)
  exact (dss_cons (ds_if (dw_pt (dw_or (dt_not (dt_b (de_callB (dc_isiT "tuple" [] (by decide) (fun _ h => nomatch h)) (by rfl) T.z_isinstance boot_isinstance (da_cons (de_v 0) (da_cons (de_bT T.z_tuple boot_tuple) da_nil))))) (dw_or1 (dt_c (do_eq (u65 hr)) (de_v 0) (de_tup da_nil))))) (dss_one ds_never) dss_nil)
    (dss_cons (ds_set (i := 1) sc_check_places.nd (de_fn (FnG.up (ok_wrong_place T) (by decide)) hr hg T.m_wrong_place T.F_wrong_place.kp (b_wrong_place T.F_wrong_place) .nil lits_nil (da_cons (de_v 0) da_nil)))
    (dss_one (ds_if (dt_c do_notN (de_v 1) de_non) (dss_one ds_never) dss_nil))))
theorem ok_check_ties (T : Txt P K mg) : FnD P w K mg base 3 T.a_check_ties T.d_check_ties ["places", "ties"] (sp_check_ties T.a_Web) := by
  refine fnD_ok (w0 := w_check_ties T.a_Web) (fun_at T.F_check_ties) sc_check_ties (len_check_ties _) (fun cdv A outer s H E hr hg => ?_) (pure_check_ties T.a_Web)
  exact (dss_cons (ds_if (dt_not (dt_b (de_callB (dc_isiT "tuple" [] (by decide) (fun _ h => nomatch h)) (by rfl) T.z_isinstance boot_isinstance (da_cons (de_v 1) (da_cons (de_bT T.z_tuple boot_tuple) da_nil))))) (dss_one ds_never) dss_nil)
    (dss_cons (ds_set (i := 2) sc_check_ties.nd (de_fn (FnG.up (ok_wrong_tie T) (by decide)) hr hg T.m_wrong_tie T.F_wrong_tie.kp (b_wrong_tie T.F_wrong_tie) .nil lits_nil (da_cons (de_v 0) (da_cons (de_v 1) da_nil))))
    (dss_one (ds_if (dt_c do_notN (de_v 2) de_non) (dss_one ds_never) dss_nil))))
theorem ok_Web_init (T : Txt P K mg) : FnD P w K mg base 4 T.a_Web_init T.d_Web_init ["self", "places", "ties"] (sp_Web_init T.a_Web) := by
  refine fnD_ok (w0 := w_Web_init T.a_Web) (funD_at T.F_Web_init) sc_Web_init (len_Web_init _) (fun cdv A outer s H E hr hg => ?_) (pure_Web_init T.a_Web)
  exact (dss_cons (ds_expr (de_fn (FnG.up (ok_check_places T) (by decide)) hr hg T.m_check_places T.F_check_places.kp (b_check_places T.F_check_places) .nil lits_nil (da_cons (de_v 1) da_nil)))
    (dss_cons (ds_expr (de_fn (FnG.up (ok_check_ties T) (by decide)) hr hg T.m_check_ties T.F_check_ties.kp (b_check_ties T.F_check_ties) .nil lits_nil (da_cons (de_v 1) (da_cons (de_v 2) da_nil))))
    (dss_cons (ds_setF T.c_Web T.n_row (de_v 0) (de_v 1))
    (dss_cons (ds_setF T.c_Web T.n_pairs (de_v 0) (de_v 2))
    (dss_one (ds_setF T.c_Web T.n_marks (de_v 0) (de_dcP (t := true) (u65 hr) rfl sc_Web_init.nd (di_seq (de_v 2)) (own := [("tie", 3)]) (nt := (.n 3)) (blkOk_by (by kernel_rfl)) (by decide) (fun _ _ _ _ _ => (pg_name (i := 3) sc_Web_init.nd rfl (.inl rfl))) (fun _ _ _ _ _ => dts_nil) (fun _ _ _ _ _ => (de_v 3)) (fun _ _ _ _ _ => de_bl))))))))
theorem ok_Web_has_tie (T : Txt P K mg) : FnD P w K mg base 1 T.a_Web_has_tie T.d_Web_has_tie ["self", "first", "second"] (sp_Web_has_tie T.a_Web) := by
  refine fnD_ok (w0 := w_Web_has_tie T.a_Web) (fun_at T.F_Web_has_tie) sc_Web_has_tie (len_Web_has_tie _) (fun cdv A outer s H E hr hg => ?_) (pure_Web_has_tie T.a_Web)
  exact (dss_one (ds_ret (de_c (do_in (u65 hr)) (de_tup (da_cons (de_v 1) (da_cons (de_v 2) da_nil))) (de_fld T.c_Web T.n_marks (de_v 0)))))
theorem ok_Web_eq (T : Txt P K mg) : FnD P w K mg base 1 T.a_Web_eq T.d_Web_eq ["self", "other"] (sp_Web_eq T.a_Web) := by
  refine fnD_ok (w0 := w_Web_eq T.a_Web) (fun_at T.F_Web_eq) sc_Web_eq (len_Web_eq _) (fun cdv A outer s H E hr hg => ?_) (pure_Web_eq T.a_Web)
  exact (dss_one (ds_ret (de_and (de_callB (isiT_Web T rfl) (by rfl) T.z_isinstance boot_isinstance (da_cons (de_v 1) (da_cons (de_gC T.m_Web) da_nil))) (de_and (de_c (do_eq (u65 hr)) (de_fld T.c_Web T.n_row (de_v 0)) (de_fld T.c_Web T.n_row (de_v 1))) (de_one (de_c (do_eq (u65 hr)) (de_fld T.c_Web T.n_pairs (de_v 0)) (de_fld T.c_Web T.n_pairs (de_v 1))))))))
theorem ok_Web_ne (T : Txt P K mg) : FnD P w K mg base 2 T.a_Web_ne T.d_Web_ne ["self", "other"] (sp_Web_ne T.a_Web) := by
  refine fnD_ok (w0 := w_Web_ne T.a_Web) (fun_at T.F_Web_ne) sc_Web_ne (len_Web_ne _) (fun cdv A outer s H E hr hg => ?_) (pure_Web_ne T.a_Web)
  exact (dss_one (ds_ret (de_not (de_c (do_own hop_eq T.h___eq__.at_ T.h___eq__.fn (FnG.up (ok_Web_eq T) (by decide)) hr hg (b_Web_eq T.F_Web_eq)) (de_v 0) (de_v 1)))))
theorem ok_check_web (T : Txt P K mg) : FnD P w K mg base 1 T.a_check_web T.d_check_web ["web"] (sp_check_web T.a_Web) := by
  refine fnD_ok (w0 := w_check_web T.a_Web) (fun_at T.F_check_web) sc_check_web (len_check_web _) (fun cdv A outer s H E hr hg => ?_) (pure_check_web T.a_Web)
  exact (dss_one (ds_if (dt_not (dt_b (de_callB (isiT_Web T rfl) (by rfl) T.z_isinstance boot_isinstance (da_cons (de_v 0) (da_cons (de_gC T.m_Web) da_nil))))) (dss_one ds_never) dss_nil))
theorem ok_Web_len (T : Txt P K mg) : FnD P w K mg base 1 T.a_Web_len T.d_Web_len ["self"] (sp_Web_len T.a_Web) := by
  refine fnD_ok (w0 := w_Web_len T.a_Web) (fun_at T.F_Web_len) sc_Web_len (len_Web_len _) (fun cdv A outer s H E hr hg => ?_) (pure_Web_len T.a_Web)
  exact (dss_one (ds_ret (de_callB dc_len (by rfl) T.z_len boot_len (da_cons (de_fld T.c_Web T.n_row (de_v 0)) da_nil))))
theorem ok_is_road_of (T : Txt P K mg) : FnD P w K mg base 3 T.a_is_road_of T.d_is_road_of ["web", "value"] (sp_is_road_of T.a_Web) := by
  refine fnD_ok (w0 := w_is_road_of T.a_Web) (fun_at T.F_is_road_of) sc_is_road_of (len_is_road_of _) (fun cdv A outer s H E hr hg => ?_) (pure_is_road_of T.a_Web)
  exact (dss_cons (ds_if (dw_pt (dw_or (dt_not (dt_b (de_callB (dc_isiT "tuple" [] (by decide) (fun _ h => nomatch h)) (by rfl) T.z_isinstance boot_isinstance (da_cons (de_v 1) (da_cons (de_bT T.z_tuple boot_tuple) da_nil))))) (dw_or1 (dt_not (dt_ch do_le do_le de_int (de_callB dc_len (by rfl) T.z_len boot_len (da_cons (de_v 1) da_nil)) (de_callB (dc_lenO T.h___len__.at_ T.h___len__.fn (ok_Web_len T) (hr.mono (by decide)) hg (b_Web_len T.F_Web_len)) (by rfl) T.z_len boot_len (da_cons (de_v 0) da_nil))))))) (dss_one (ds_ret de_bl)) dss_nil)
    (dss_cons (ds_if (dt_not (dt_b (de_callB (dc_all rfl) (by rfl) T.z_all boot_all (da_cons (de_lcP rfl sc_is_road_of.nd (di_seq (de_v 1)) (own := [("place", 2)]) (nt := (.n 2)) (blkOk_by (by kernel_rfl)) (by decide) (fun _ _ _ _ _ => (pg_name (i := 2) sc_is_road_of.nd rfl (.inl rfl))) (fun _ _ _ _ _ => dts_nil) (fun _ _ _ _ _ => (de_and (de_callB (dc_isiT "str" [] (by decide) (fun _ h => nomatch h)) (by rfl) T.z_isinstance boot_isinstance (da_cons (de_v 2) (da_cons (de_bT T.z_str boot_str) da_nil))) (de_one (de_c (do_in (u65 hr)) (de_v 2) (de_prop T.c_Web T.p_places (g_places T) (hr.mono (by decide)) (b_places T) (de_v 0))))))) da_nil)))) (dss_one (ds_ret de_bl)) dss_nil)
    (dss_cons (ds_if (dt_c do_lt (de_callB dc_len (by rfl) T.z_len boot_len (da_cons (de_dcP (t := false) (u65 hr) rfl sc_is_road_of.nd (di_seq (de_v 1)) (own := [("place", 2)]) (nt := (.n 2)) (blkOk_by (by kernel_rfl)) (by decide) (fun _ _ _ _ _ => (pg_name (i := 2) sc_is_road_of.nd rfl (.inl rfl))) (fun _ _ _ _ _ => dts_nil) (fun _ _ _ _ _ => (de_v 2)) (fun _ _ _ _ _ => de_bl)) da_nil)) (de_callB dc_len (by rfl) T.z_len boot_len (da_cons (de_v 1) da_nil))) (dss_one (ds_ret de_bl)) dss_nil)
    (dss_one (ds_ret (de_callB (dc_all rfl) (by rfl) T.z_all boot_all (da_cons (de_lcP rfl sc_is_road_of.nd (di_rng2 T.z_range (da_cons de_int (da_cons (de_callB dc_len (by rfl) T.z_len boot_len (da_cons (de_v 1) da_nil)) da_nil))) (own := [("at", 3)]) (nt := (.n 3)) (blkOk_by (by kernel_rfl)) (by decide) (fun _ _ _ _ _ => (pg_name (i := 3) sc_is_road_of.nd rfl (.inl rfl))) (fun _ _ _ _ _ => dts_nil) (fun _ _ _ _ _ => (de_meth (de_v 0) T.c_Web T.h_has_tie (FnG.up (ok_Web_has_tie T) (by decide)) hr hg (b_Web_has_tie T.F_Web_has_tie) .nil lits_nil (da_cons (de_ix (u65 hr) (de_v 1) (de_o do_sub (de_v 3) de_int)) (da_cons (de_ix (u65 hr) (de_v 1) (de_v 3)) da_nil))))) da_nil)))))))
theorem ok_is_parting_of (T : Txt P K mg) : FnD P w K mg base 4 T.a_is_parting_of T.d_is_parting_of ["web", "value"] (sp_is_parting_of T.a_Web) := by
  refine fnD_ok (w0 := w_is_parting_of T.a_Web) (fun_at T.F_is_parting_of) sc_is_parting_of (len_is_parting_of _) (fun cdv A outer s H E hr hg => ?_) (pure_is_parting_of T.a_Web)
  exact (dss_cons (ds_if (dw_pt (dw_or (dt_not (dt_b (de_callB (dc_isiT "tuple" [] (by decide) (fun _ h => nomatch h)) (by rfl) T.z_isinstance boot_isinstance (da_cons (de_v 1) (da_cons (de_bT T.z_tuple boot_tuple) da_nil))))) (dw_or1 (dt_not (dt_b (de_callB (dc_all rfl) (by rfl) T.z_all boot_all (da_cons (de_lcP rfl sc_is_parting_of.nd (di_seq (de_v 1)) (own := [("road", 3)]) (nt := (.n 3)) (blkOk_by (by kernel_rfl)) (by decide) (fun _ _ _ _ _ => (pg_name (i := 3) sc_is_parting_of.nd rfl (.inl rfl))) (fun _ _ _ _ _ => dts_nil) (fun _ _ _ _ _ => (de_fn (FnG.up (ok_is_road_of T) (by decide)) hr hg T.m_is_road_of T.F_is_road_of.kp (b_is_road_of T.F_is_road_of) .nil lits_nil (da_cons (de_v 0) (da_cons (de_v 3) da_nil))))) da_nil))))))) (dss_one (ds_ret de_bl)) dss_nil)
    (dss_cons (ds_setLc2F (i := 2) rfl sc_is_parting_of.nd (di_seq (de_v 1)) (own := [("road", 3), ("place", 4)]) (nt := (.n 3)) (nt1 := (.n 4)) (blkOk_by (by kernel_rfl)) (by decide) (by decide) (fun _ _ _ _ _ => (pg_name (i := 3) sc_is_parting_of.nd rfl (.inl rfl))) (fun _ _ _ _ _ => dts_nil) (fun _ _ _ _ _ => (di_seq (de_v 3))) (fun _ _ _ _ _ => (pg_name (i := 4) sc_is_parting_of.nd rfl (.inl rfl))) (fun _ _ _ _ _ => dts_nil) (fun _ _ _ _ _ => (de_v 4)))
    (dss_one (ds_ret (de_and (de_c (do_eq (u65 hr)) (de_callB dc_len (by rfl) T.z_len boot_len (da_cons (de_v 2) da_nil)) (de_callB (dc_lenO T.h___len__.at_ T.h___len__.fn (ok_Web_len T) (hr.mono (by decide)) hg (b_Web_len T.F_Web_len)) (by rfl) T.z_len boot_len (da_cons (de_v 0) da_nil))) (de_one (de_c (do_eq (u65 hr)) (de_callB dc_len (by rfl) T.z_len boot_len (da_cons (de_dcP (t := false) (u65 hr) rfl sc_is_parting_of.nd (di_seq (de_v 2)) (own := [("place", 4)]) (nt := (.n 4)) (blkOk_by (by kernel_rfl)) (by decide) (fun _ _ _ _ _ => (pg_name (i := 4) sc_is_parting_of.nd rfl (.inl rfl))) (fun _ _ _ _ _ => dts_nil) (fun _ _ _ _ _ => (de_v 4)) (fun _ _ _ _ _ => de_bl)) da_nil)) (de_callB (dc_lenO T.h___len__.at_ T.h___len__.fn (ok_Web_len T) (hr.mono (by decide)) hg (b_Web_len T.F_Web_len)) (by rfl) T.z_len boot_len (da_cons (de_v 0) da_nil)))))))))
theorem ok_check_parting (T : Txt P K mg) : FnD P w K mg base 5 T.a_check_parting T.d_check_parting ["web", "value"] (sp_check_parting T.a_Web) := by
  refine fnD_ok (w0 := w_check_parting T.a_Web) (fun_at T.F_check_parting) sc_check_parting (len_check_parting _) (fun cdv A outer s H E hr hg => ?_) (pure_check_parting T.a_Web)
  exact (dss_one (ds_if (dt_not (dt_b (de_fn (FnG.up (ok_is_parting_of T) (by decide)) hr hg T.m_is_parting_of T.F_is_parting_of.kp (b_is_parting_of T.F_is_parting_of) .nil lits_nil (da_cons (de_v 0) (da_cons (de_v 1) da_nil))))) (dss_one ds_never) dss_nil))
theorem ok_singles_of (T : Txt P K mg) : FnD P w K mg base 3 T.a_singles_of T.d_singles_of ["web"] (sp_singles_of T.a_Web) := by
  refine fnD_ok (w0 := w_singles_of T.a_Web) (fun_at T.F_singles_of) sc_singles_of (len_singles_of _) (fun cdv A outer s H E hr hg => ?_) (pure_singles_of T.a_Web)
  exact (dss_one (ds_ret (de_callTy dc_tupleF (by rfl) T.z_tuple boot_tuple (da_cons (de_lcP rfl sc_singles_of.nd (di_seq (de_prop T.c_Web T.p_places (g_places T) (hr.mono (by decide)) (b_places T) (de_v 0))) (own := [("place", 1)]) (nt := (.n 1)) (blkOk_by (by kernel_rfl)) (by decide) (fun _ _ _ _ _ => (pg_name (i := 1) sc_singles_of.nd rfl (.inl rfl))) (fun _ _ _ _ _ => dts_nil) (fun _ _ _ _ _ => (de_tupF (da_cons (de_v 1) da_nil)))) da_nil))))
theorem ok_tied_lasts (T : Txt P K mg) : FnD P w K mg base 2 T.a_tied_lasts T.d_tied_lasts ["web", "parting"] (sp_tied_lasts T.a_Web) := by
  refine fnD_ok (w0 := w_tied_lasts T.a_Web) (fun_at T.F_tied_lasts) sc_tied_lasts (len_tied_lasts _) (fun cdv A outer s H E hr hg => ?_) (pure_tied_lasts T.a_Web)
  exact (dss_cons (ds_for PassesOwn.never rfl (di_enum T.z_enumerate (da_cons (de_v 1) da_nil)) (dg_tup rfl (dgs_cons (dg_v (i := 2) sc_tied_lasts.nd) (dgs_cons (dg_v (i := 3) sc_tied_lasts.nd) dgs_nil))) (dss_one (ds_for PassesOwn.never rfl (di_enum T.z_enumerate (da_cons (de_v 1) da_nil)) (dg_tup rfl (dgs_cons (dg_v (i := 4) sc_tied_lasts.nd) (dgs_cons (dg_v (i := 5) sc_tied_lasts.nd) dgs_nil))) (dss_one (ds_if (dw_pt (dw_and (dt_c (do_ne (u65 hr)) (de_v 2) (de_v 4)) (dw_and1 (dt_b (de_meth (de_v 0) T.c_Web T.h_has_tie (FnG.up (ok_Web_has_tie T) (by decide)) hr hg (b_Web_has_tie T.F_Web_has_tie) .nil lits_nil (da_cons (de_ix (u65 hr) (de_v 3) (de_u do_neg de_int)) (da_cons (de_ix (u65 hr) (de_v 5) (de_u do_neg de_int)) da_nil))))))) (dss_one (ds_ret (de_tup (da_cons (de_v 2) (da_cons (de_v 4) da_nil))))) dss_nil)))))
    (dss_one (ds_ret de_non)))
theorem ok_without (T : Txt P K mg) : FnD P w K mg base 1 T.a_without T.d_without ["parting", "index"] (sp_without T.a_Web) := by
  refine fnD_ok (w0 := w_without T.a_Web) (fun_at T.F_without) sc_without (len_without _) (fun cdv A outer s H E hr hg => ?_) (pure_without T.a_Web)
  exact (dss_one (ds_ret (de_lcP rfl sc_without.nd (di_enum T.z_enumerate (da_cons (de_v 0) da_nil)) (own := [("at", 2), ("road", 3)]) (nt := (.t [2, 3])) (blkOk_by (by kernel_rfl)) (by decide) (fun _ _ _ _ _ => (pg_tup rfl (pgs_cons (pg_name (i := 2) sc_without.nd rfl (.inl rfl)) (pgs_cons (pg_name (i := 3) sc_without.nd rfl (.inl rfl)) pgs_nil)))) (fun _ _ _ _ _ => (dts_one (dt_c (do_ne (u65 hr)) (de_v 2) (de_v 1)))) (fun _ _ _ _ _ => (de_v 3)))))
theorem ok_behind (T : Txt P K mg) : FnD P w K mg base 1 T.a_behind T.d_behind ["parting", "place", "fresh"] (sp_behind T.a_Web) := by
  refine fnD_ok (w0 := w_behind T.a_Web) (fun_at T.F_behind) sc_behind (len_behind _) (fun cdv A outer s H E hr hg => ?_) (pure_behind T.a_Web)
  exact (dss_one (ds_ret (de_lcP rfl sc_behind.nd (di_seq (de_v 0)) (own := [("road", 3)]) (nt := (.n 3)) (blkOk_by (by kernel_rfl)) (by decide) (fun _ _ _ _ _ => (pg_name (i := 3) sc_behind.nd rfl (.inl rfl))) (fun _ _ _ _ _ => dts_nil) (fun _ _ _ _ _ => (de_if (dt_c (do_eq (u65 hr)) (de_ix (u65 hr) (de_v 3) (de_u do_neg de_int)) (de_v 1)) (de_lst (da_star (de_v 3) (da_cons (de_v 2) da_nil))) (de_v 3))))))
theorem ok_given_back (T : Txt P K mg) : FnD P w K mg base 2 T.a_given_back T.d_given_back ["parting", "ahead", "other", "fresh"] (sp_given_back T.a_Web) := by
  refine fnD_ok (w0 := w_given_back T.a_Web) (fun_at T.F_given_back) sc_given_back (len_given_back _) (fun cdv A outer s H E hr hg => ?_) (pure_given_back T.a_Web)
  exact (dss_cons (ds_setLcP (i := 4) rfl sc_given_back.nd (di_seq (de_v 0)) (own := [("road", 5)]) (nt := (.n 5)) (blkOk_by (by kernel_rfl)) (by decide) (fun _ _ _ _ _ => (pg_name (i := 5) sc_given_back.nd rfl (.inl rfl))) (fun _ _ _ _ _ => dts_nil) (fun _ _ _ _ _ => (de_ix (u65 hr) (de_v 5) (de_u do_neg de_int))))
    (dss_cons (ds_if (dt_c (do_in (u65 hr)) (de_v 1) (de_v 4)) (dss_one (ds_ret (de_fn (FnG.up (ok_behind T) (by decide)) hr hg T.m_behind T.F_behind.kp (b_behind T.F_behind) .nil lits_nil (da_cons (de_v 0) (da_cons (de_v 1) (da_cons (de_v 3) da_nil)))))) dss_nil)
    (dss_one (ds_ret (de_if (dt_c (do_in (u65 hr)) (de_v 2) (de_v 4)) (de_fn (FnG.up (ok_behind T) (by decide)) hr hg T.m_behind T.F_behind.kp (b_behind T.F_behind) .nil lits_nil (da_cons (de_v 0) (da_cons (de_v 2) (da_cons (de_v 3) da_nil)))) (de_lst (da_star (de_v 0) (da_cons (de_lst (da_cons (de_v 3) da_nil)) da_nil))))))))
theorem ok_step_of (T : Txt P K mg) : ∀ n : Nat, FnD P w K mg base (3 + n) T.a_step_of T.d_step_of ["web", "parting"] (sp_step_of n T.a_Web)
  | 0 => fnD_false _
  | n + 1 => by
    have ih := ok_step_of T n
    refine fnD_ok (k := 3 + n) (w0 := w_step_of n T.a_Web) (fun_at T.F_step_of) sc_step_of (len_step_of _ _) (fun cdv A outer s H E hr hg => ?_) (pure_step_of n T.a_Web)
    exact (dss_cons (ds_set (i := 2) sc_step_of.nd (de_fn (FnG.up (ok_tied_lasts T) (by omega)) hr hg T.m_tied_lasts T.F_tied_lasts.kp (b_tied_lasts T.F_tied_lasts) .nil lits_nil (da_cons (de_v 0) (da_cons (de_v 1) da_nil))))
    (dss_cons (ds_if (dt_c do_isN (de_v 2) de_non) (dss_one (ds_ret (de_tup (da_cons (de_lcP rfl sc_step_of.nd (di_seq (de_v 1)) (own := [("road", 10)]) (nt := (.n 10)) (blkOk_by (by kernel_rfl)) (by decide) (fun _ _ _ _ _ => (pg_name (i := 10) sc_step_of.nd rfl (.inl rfl))) (fun _ _ _ _ _ => dts_nil) (fun _ _ _ _ _ => (de_ix (u65 hr) (de_v 10) (de_u do_neg de_int)))) (da_cons de_non da_nil))))) dss_nil)
    (dss_cons (ds_asg (de_v 2) (dg_tup rfl (dgs_cons (dg_v (i := 3) sc_step_of.nd) (dgs_cons (dg_v (i := 4) sc_step_of.nd) dgs_nil))))
    (dss_cons (ds_par (i := 5) (j := 6) rfl sc_step_of.nd (da_cons (de_ix (u65 hr) (de_ix (u65 hr) (de_v 1) (de_v 3)) (de_u do_neg de_int)) (da_cons (de_ix (u65 hr) (de_ix (u65 hr) (de_v 1) (de_v 4)) (de_u do_neg de_int)) da_nil)))
    (dss_cons (ds_if (dt_c (do_eq (u65 hr)) (de_callB dc_len (by rfl) T.z_len boot_len (da_cons (de_ix (u65 hr) (de_v 1) (de_v 4)) da_nil)) de_int) (dss_one (ds_ret (de_tup (da_cons de_non (da_cons (de_fn (FnG.up (ok_behind T) (by omega)) hr hg T.m_behind T.F_behind.kp (b_behind T.F_behind) .nil lits_nil (da_cons (de_fn (FnG.up (ok_without T) (by omega)) hr hg T.m_without T.F_without.kp (b_without T.F_without) .nil lits_nil (da_cons (de_v 1) (da_cons (de_v 4) da_nil))) (da_cons (de_v 5) (da_cons (de_v 6) da_nil)))) da_nil))))) dss_nil)
    (dss_cons (ds_setLcP (i := 7) rfl sc_step_of.nd (di_enum T.z_enumerate (da_cons (de_v 1) da_nil)) (own := [("at", 11), ("road", 10)]) (nt := (.t [11, 10])) (blkOk_by (by kernel_rfl)) (by decide) (fun _ _ _ _ _ => (pg_tup rfl (pgs_cons (pg_name (i := 11) sc_step_of.nd rfl (.inl rfl)) (pgs_cons (pg_name (i := 10) sc_step_of.nd rfl (.inl rfl)) pgs_nil)))) (fun _ _ _ _ _ => dts_nil) (fun _ _ _ _ _ => (de_if (dt_c (do_eq (u65 hr)) (de_v 11) (de_v 4)) (de_sl (de_v 10) dp_none (dp_some (de_u do_neg de_int))) (de_v 10))))
    (dss_cons (ds_asg (de_fn (FnG.up (ih) (by omega)) hr hg T.m_step_of T.F_step_of.kp (b_step_of T.F_step_of) .nil lits_nil (da_cons (de_v 0) (da_cons (de_v 7) da_nil))) (dg_tup rfl (dgs_cons (dg_v (i := 8) sc_step_of.nd) (dgs_cons (dg_v (i := 9) sc_step_of.nd) dgs_nil))))
    (dss_cons (ds_if (dt_c do_notN (de_v 8) de_non) (dss_one (ds_ret (de_tup (da_cons (de_v 8) (da_cons de_non da_nil))))) dss_nil)
    (dss_one (ds_ret (de_tup (da_cons de_non (da_cons (de_fn (FnG.up (ok_given_back T) (by omega)) hr hg T.m_given_back T.F_given_back.kp (b_given_back T.F_given_back) .nil lits_nil (da_cons (de_v 9) (da_cons (de_ix (u65 hr) (de_ix (u65 hr) (de_v 1) (de_v 4)) (de_u do_neg de_int)) (da_cons (de_v 5) (da_cons (de_v 6) da_nil))))) da_nil)))))))))))))
theorem ok_as_lists (T : Txt P K mg) : FnD P w K mg base 1 T.a_as_lists T.d_as_lists ["parting"] (sp_as_lists T.a_Web) := by
  refine fnD_ok (w0 := w_as_lists T.a_Web) (fun_at T.F_as_lists) sc_as_lists (len_as_lists _) (fun cdv A outer s H E hr hg => ?_) (pure_as_lists T.a_Web)
  exact (dss_one (ds_ret (de_lcP rfl sc_as_lists.nd (di_seq (de_v 0)) (own := [("road", 1)]) (nt := (.n 1)) (blkOk_by (by kernel_rfl)) (by decide) (fun _ _ _ _ _ => (pg_name (i := 1) sc_as_lists.nd rfl (.inl rfl))) (fun _ _ _ _ _ => dts_nil) (fun _ _ _ _ _ => (de_callTy dc_list (by rfl) T.z_list boot_list (da_cons (de_v 1) da_nil))))))
theorem ok_as_tuples (T : Txt P K mg) : FnD P w K mg base 1 T.a_as_tuples T.d_as_tuples ["parting"] (sp_as_tuples T.a_Web) := by
  refine fnD_ok (w0 := w_as_tuples T.a_Web) (fun_at T.F_as_tuples) sc_as_tuples (len_as_tuples _) (fun cdv A outer s H E hr hg => ?_) (pure_as_tuples T.a_Web)
  exact (dss_one (ds_ret (de_callTy dc_tupleF (by rfl) T.z_tuple boot_tuple (da_cons (de_lcP rfl sc_as_tuples.nd (di_seq (de_v 0)) (own := [("road", 1)]) (nt := (.n 1)) (blkOk_by (by kernel_rfl)) (by decide) (fun _ _ _ _ _ => (pg_name (i := 1) sc_as_tuples.nd rfl (.inl rfl))) (fun _ _ _ _ _ => dts_nil) (fun _ _ _ _ _ => (de_callTy dc_tupleF (by rfl) T.z_tuple boot_tuple (da_cons (de_v 1) da_nil)))) da_nil))))
theorem ok_improved_of (T : Txt P K mg) : FnD P w K mg base 46 T.a_improved_of T.d_improved_of ["web", "parting"] (sp_improved_of T.a_Web) := by
  refine fnD_ok (w0 := w_improved_of T.a_Web) (fun_at T.F_improved_of) sc_improved_of (len_improved_of _) (fun cdv A outer s H E hr hg => ?_) (pure_improved_of T.a_Web)
  exact (dss_cons (ds_set (i := 2) sc_improved_of.nd (de_fn (FnG.up (ok_as_lists T) (by decide)) hr hg T.m_as_lists T.F_as_lists.kp (b_as_lists T.F_as_lists) .nil lits_nil (da_cons (de_v 1) da_nil)))
    (dss_cons (ds_asg (de_fn (FnG.up (ok_step_of T 42) (by decide)) hr hg T.m_step_of T.F_step_of.kp (b_step_of T.F_step_of) .nil lits_nil (da_cons (de_v 0) (da_cons (de_v 2) da_nil))) (dg_tup rfl (dgs_cons (dg_v (i := 3) sc_improved_of.nd) (dgs_cons (dg_v (i := 4) sc_improved_of.nd) dgs_nil))))
    (dss_cons (ds_while PassesOwn.never (dt_c do_isN (de_v 3) de_non) (dss_cons (ds_set (i := 2) sc_improved_of.nd (de_v 4))
    (dss_one (ds_asg (de_fn (FnG.up (ok_step_of T 42) (by decide)) hr hg T.m_step_of T.F_step_of.kp (b_step_of T.F_step_of) .nil lits_nil (da_cons (de_v 0) (da_cons (de_v 2) da_nil))) (dg_tup rfl (dgs_cons (dg_v (i := 3) sc_improved_of.nd) (dgs_cons (dg_v (i := 4) sc_improved_of.nd) dgs_nil)))))))
    (dss_one (ds_ret (de_tup (da_cons (de_fn (FnG.up (ok_as_tuples T) (by decide)) hr hg T.m_as_tuples T.F_as_tuples.kp (b_as_tuples T.F_as_tuples) .nil lits_nil (da_cons (de_v 2) da_nil)) (da_cons (de_callTy dc_tupleF (by rfl) T.z_tuple boot_tuple (da_cons (de_v 3) da_nil)) da_nil))))))))
theorem ok_is_roadA (T : Txt P K mg) : FnD P w K mg base 3 T.a_is_roadA T.d_is_roadA ["web", "value"] (sp_is_roadA T.a_Web) := by
  refine fnD_ok (w0 := w_is_roadA T.a_Web) (fun_at T.F_is_roadA) sc_is_roadA (len_is_roadA _) (fun cdv A outer s H E hr hg => ?_) (pure_is_roadA T.a_Web)
  exact (dss_cons (ds_if (dw_pt (dw_or (dt_not (dt_b (de_callB (dc_isiT "tuple" [] (by decide) (fun _ h => nomatch h)) (by rfl) T.z_isinstance boot_isinstance (da_cons (de_v 1) (da_cons (de_bT T.z_tuple boot_tuple) da_nil))))) (dw_or1 (dt_not (dt_ch do_le do_le de_int (de_callB dc_len (by rfl) T.z_len boot_len (da_cons (de_v 1) da_nil)) (de_callB (dc_lenO T.h___len__.at_ T.h___len__.fn (ok_Web_len T) (hr.mono (by decide)) hg (b_Web_len T.F_Web_len)) (by rfl) T.z_len boot_len (da_cons (de_v 0) da_nil))))))) (dss_one (ds_ret de_bl)) dss_nil)
    (dss_cons (ds_if (dt_not (dt_b (de_callB (dc_all rfl) (by rfl) T.z_all boot_all (da_cons (de_lcP rfl sc_is_roadA.nd (di_seq (de_v 1)) (own := [("place", 2)]) (nt := (.n 2)) (blkOk_by (by kernel_rfl)) (by decide) (fun _ _ _ _ _ => (pg_name (i := 2) sc_is_roadA.nd rfl (.inl rfl))) (fun _ _ _ _ _ => dts_nil) (fun _ _ _ _ _ => (de_and (de_callB (dc_isiT "str" [] (by decide) (fun _ h => nomatch h)) (by rfl) T.z_isinstance boot_isinstance (da_cons (de_v 2) (da_cons (de_bT T.z_str boot_str) da_nil))) (de_one (de_c (do_in (u65 hr)) (de_v 2) (de_prop T.c_Web T.p_places (g_places T) (hr.mono (by decide)) (b_places T) (de_v 0))))))) da_nil)))) (dss_one (ds_ret de_bl)) dss_nil)
    (dss_cons (ds_if (dt_c do_lt (de_callB dc_len (by rfl) T.z_len boot_len (da_cons (de_dcP (t := false) (u65 hr) rfl sc_is_roadA.nd (di_seq (de_v 1)) (own := [("place", 2)]) (nt := (.n 2)) (blkOk_by (by kernel_rfl)) (by decide) (fun _ _ _ _ _ => (pg_name (i := 2) sc_is_roadA.nd rfl (.inl rfl))) (fun _ _ _ _ _ => dts_nil) (fun _ _ _ _ _ => (de_v 2)) (fun _ _ _ _ _ => de_bl)) da_nil)) (de_callB dc_len (by rfl) T.z_len boot_len (da_cons (de_v 1) da_nil))) (dss_one (ds_ret de_bl)) dss_nil)
    (dss_one (ds_ret (de_callB (dc_all rfl) (by rfl) T.z_all boot_all (da_cons (de_lcP rfl sc_is_roadA.nd (di_rng2 T.z_range (da_cons de_int (da_cons (de_callB dc_len (by rfl) T.z_len boot_len (da_cons (de_v 1) da_nil)) da_nil))) (own := [("at", 3)]) (nt := (.n 3)) (blkOk_by (by kernel_rfl)) (by decide) (fun _ _ _ _ _ => (pg_name (i := 3) sc_is_roadA.nd rfl (.inl rfl))) (fun _ _ _ _ _ => dts_nil) (fun _ _ _ _ _ => (de_meth (de_v 0) T.c_Web T.h_has_tie (FnG.up (ok_Web_has_tie T) (by decide)) hr hg (b_Web_has_tie T.F_Web_has_tie) .nil lits_nil (da_cons (de_ix (u65 hr) (de_v 1) (de_o do_sub (de_v 3) de_int)) (da_cons (de_ix (u65 hr) (de_v 1) (de_v 3)) da_nil))))) da_nil)))))))
theorem ok_is_partA (T : Txt P K mg) : FnD P w K mg base 4 T.a_is_partA T.d_is_partA ["web", "value"] (sp_is_partA T.a_Web) := by
  refine fnD_ok (w0 := w_is_partA T.a_Web) (fun_at T.F_is_partA) sc_is_partA (len_is_partA _) (fun cdv A outer s H E hr hg => ?_) (pure_is_partA T.a_Web)
  exact (dss_cons (ds_if (dw_pt (dw_or (dt_not (dt_b (de_callB (dc_isiT "tuple" [] (by decide) (fun _ h => nomatch h)) (by rfl) T.z_isinstance boot_isinstance (da_cons (de_v 1) (da_cons (de_bT T.z_tuple boot_tuple) da_nil))))) (dw_or1 (dt_not (dt_b (de_callB (dc_all rfl) (by rfl) T.z_all boot_all (da_cons (de_lcP rfl sc_is_partA.nd (di_seq (de_v 1)) (own := [("road", 3)]) (nt := (.n 3)) (blkOk_by (by kernel_rfl)) (by decide) (fun _ _ _ _ _ => (pg_name (i := 3) sc_is_partA.nd rfl (.inl rfl))) (fun _ _ _ _ _ => dts_nil) (fun _ _ _ _ _ => (de_fn (FnG.up (ok_is_roadA T) (by decide)) hr hg T.m_is_roadA T.F_is_roadA.kp (b_is_roadA T.F_is_roadA) .nil lits_nil (da_cons (de_v 0) (da_cons (de_v 3) da_nil))))) da_nil))))))) (dss_one (ds_ret de_bl)) dss_nil)
    (dss_cons (ds_setLc2F (i := 2) rfl sc_is_partA.nd (di_seq (de_v 1)) (own := [("road", 3), ("place", 4)]) (nt := (.n 3)) (nt1 := (.n 4)) (blkOk_by (by kernel_rfl)) (by decide) (by decide) (fun _ _ _ _ _ => (pg_name (i := 3) sc_is_partA.nd rfl (.inl rfl))) (fun _ _ _ _ _ => dts_nil) (fun _ _ _ _ _ => (di_seq (de_v 3))) (fun _ _ _ _ _ => (pg_name (i := 4) sc_is_partA.nd rfl (.inl rfl))) (fun _ _ _ _ _ => dts_nil) (fun _ _ _ _ _ => (de_v 4)))
    (dss_one (ds_ret (de_and (de_c (do_eq (u65 hr)) (de_callB dc_len (by rfl) T.z_len boot_len (da_cons (de_v 2) da_nil)) (de_callB (dc_lenO T.h___len__.at_ T.h___len__.fn (ok_Web_len T) (hr.mono (by decide)) hg (b_Web_len T.F_Web_len)) (by rfl) T.z_len boot_len (da_cons (de_v 0) da_nil))) (de_one (de_c (do_eq (u65 hr)) (de_callB dc_len (by rfl) T.z_len boot_len (da_cons (de_dcP (t := false) (u65 hr) rfl sc_is_partA.nd (di_seq (de_v 2)) (own := [("place", 4)]) (nt := (.n 4)) (blkOk_by (by kernel_rfl)) (by decide) (fun _ _ _ _ _ => (pg_name (i := 4) sc_is_partA.nd rfl (.inl rfl))) (fun _ _ _ _ _ => dts_nil) (fun _ _ _ _ _ => (de_v 4)) (fun _ _ _ _ _ => de_bl)) da_nil)) (de_callB (dc_lenO T.h___len__.at_ T.h___len__.fn (ok_Web_len T) (hr.mono (by decide)) hg (b_Web_len T.F_Web_len)) (by rfl) T.z_len boot_len (da_cons (de_v 0) da_nil)))))))))
theorem ok_is_partA2 (T : Txt P K mg) : FnD P w K mg base 5 T.a_is_partA2 T.d_is_partA2 ["web", "value"] (sp_is_partA2 T.a_Web) := by
  refine fnD_ok (w0 := w_is_partA2 T.a_Web) (fun_at T.F_is_partA2) sc_is_partA2 (len_is_partA2 _) (fun cdv A outer s H E hr hg => ?_) (pure_is_partA2 T.a_Web)
  exact (dss_cons (ds_expr (de_fn (FnG.up (ok_check_web T) (by decide)) hr hg T.m_check_web T.F_check_web.kp (b_check_web T.F_check_web) .nil lits_nil (da_cons (de_v 0) da_nil)))
    (dss_one (ds_ret (de_fn (FnG.up (ok_is_partA T) (by decide)) hr hg T.m_is_partA T.F_is_partA.kp (b_is_partA T.F_is_partA) .nil lits_nil (da_cons (de_v 0) (da_cons (de_v 1) da_nil))))))
theorem ok_is_tied (T : Txt P K mg) : FnD P w K mg base 2 T.a_is_tied T.d_is_tied ["web", "one", "other"] (sp_is_tied T.a_Web) := by
  refine fnD_ok (w0 := w_is_tied T.a_Web) (fun_at T.F_is_tied) sc_is_tied (len_is_tied _) (fun cdv A outer s H E hr hg => ?_) (pure_is_tied T.a_Web)
  exact (dss_one (ds_ret (de_or (de_meth (de_v 0) T.c_Web T.h_has_tie (FnG.up (ok_Web_has_tie T) (by decide)) hr hg (b_Web_has_tie T.F_Web_has_tie) .nil lits_nil (da_cons (de_v 1) (da_cons (de_v 2) da_nil))) (de_one (de_meth (de_v 0) T.c_Web T.h_has_tie (FnG.up (ok_Web_has_tie T) (by decide)) hr hg (b_Web_has_tie T.F_Web_has_tie) .nil lits_nil (da_cons (de_v 2) (da_cons (de_v 1) da_nil)))))))
theorem ok_is_free (T : Txt P K mg) : FnD P w K mg base 3 T.a_is_free T.d_is_free ["web", "places"] (sp_is_free T.a_Web) := by
  refine fnD_ok (w0 := w_is_free T.a_Web) (fun_at T.F_is_free) sc_is_free (len_is_free _) (fun cdv A outer s H E hr hg => ?_) (pure_is_free T.a_Web)
  exact (dss_cons (ds_for PassesOwn.never rfl (di_enum T.z_enumerate (da_cons (de_v 1) da_nil)) (dg_tup rfl (dgs_cons (dg_v (i := 2) sc_is_free.nd) (dgs_cons (dg_v (i := 3) sc_is_free.nd) dgs_nil))) (dss_one (ds_if (dt_b (de_callB (dc_any rfl) (by rfl) T.z_any boot_any (da_cons (de_lcP rfl sc_is_free.nd (di_seq (de_sl (de_v 1) (dp_some (de_o do_add (de_v 2) de_int)) dp_none)) (own := [("other", 4)]) (nt := (.n 4)) (blkOk_by (by kernel_rfl)) (by decide) (fun _ _ _ _ _ => (pg_name (i := 4) sc_is_free.nd rfl (.inl rfl))) (fun _ _ _ _ _ => dts_nil) (fun _ _ _ _ _ => (de_fn (FnG.up (ok_is_tied T) (by decide)) hr hg T.m_is_tied T.F_is_tied.kp (b_is_tied T.F_is_tied) .nil lits_nil (da_cons (de_v 0) (da_cons (de_v 3) (da_cons (de_v 4) da_nil)))))) da_nil))) (dss_one (ds_ret de_bl)) dss_nil)))
    (dss_one (ds_ret de_bl)))
theorem ok_is_witG (T : Txt P K mg) : FnD P w K mg base 4 T.a_is_witG T.d_is_witG ["web", "parting", "value"] (sp_is_witG T.a_Web) := by
  refine fnD_ok (w0 := w_is_witG T.a_Web) (fun_at T.F_is_witG) sc_is_witG (len_is_witG _) (fun cdv A outer s H E hr hg => ?_) (pure_is_witG T.a_Web)
  exact (dss_cons (ds_if (dw_pt (dw_or (dt_not (dt_b (de_callB (dc_isiT "tuple" [] (by decide) (fun _ h => nomatch h)) (by rfl) T.z_isinstance boot_isinstance (da_cons (de_v 2) (da_cons (de_bT T.z_tuple boot_tuple) da_nil))))) (dw_or1 (dt_c (do_ne (u65 hr)) (de_callB dc_len (by rfl) T.z_len boot_len (da_cons (de_v 2) da_nil)) (de_callB dc_len (by rfl) T.z_len boot_len (da_cons (de_v 1) da_nil)))))) (dss_one (ds_ret de_bl)) dss_nil)
    (dss_cons (ds_if (dt_not (dt_b (de_callB (dc_all rfl) (by rfl) T.z_all boot_all (da_cons (de_lcP rfl sc_is_witG.nd (di_zip T.z_zip (da_cons (de_v 2) (da_cons (de_v 1) da_nil))) (own := [("place", 3), ("road", 4)]) (nt := (.t [3, 4])) (blkOk_by (by kernel_rfl)) (by decide) (fun _ _ _ _ _ => (pg_tup rfl (pgs_cons (pg_name (i := 3) sc_is_witG.nd rfl (.inl rfl)) (pgs_cons (pg_name (i := 4) sc_is_witG.nd rfl (.inl rfl)) pgs_nil)))) (fun _ _ _ _ _ => dts_nil) (fun _ _ _ _ _ => (de_and (de_callB (dc_isiT "str" [] (by decide) (fun _ h => nomatch h)) (by rfl) T.z_isinstance boot_isinstance (da_cons (de_v 3) (da_cons (de_bT T.z_str boot_str) da_nil))) (de_one (de_c (do_in (u65 hr)) (de_v 3) (de_v 4)))))) da_nil)))) (dss_one (ds_ret de_bl)) dss_nil)
    (dss_one (ds_ret (de_fn (FnG.up (ok_is_free T) (by decide)) hr hg T.m_is_free T.F_is_free.kp (b_is_free T.F_is_free) .nil lits_nil (da_cons (de_v 0) (da_cons (de_v 2) da_nil)))))))
theorem ok_is_witG2 (T : Txt P K mg) : FnD P w K mg base 6 T.a_is_witG2 T.d_is_witG2 ["web", "parting", "value"] (sp_is_witG2 T.a_Web) := by
  refine fnD_ok (w0 := w_is_witG2 T.a_Web) (fun_at T.F_is_witG2) sc_is_witG2 (len_is_witG2 _) (fun cdv A outer s H E hr hg => ?_) (pure_is_witG2 T.a_Web)
  exact (dss_cons (ds_expr (de_fn (FnG.up (ok_check_web T) (by decide)) hr hg T.m_check_web T.F_check_web.kp (b_check_web T.F_check_web) .nil lits_nil (da_cons (de_v 0) da_nil)))
    (dss_cons (ds_expr (de_fn (FnG.up (ok_check_parting T) (by decide)) hr hg T.m_check_parting T.F_check_parting.kp (b_check_parting T.F_check_parting) .nil lits_nil (da_cons (de_v 0) (da_cons (de_v 1) da_nil))))
    (dss_one (ds_ret (de_fn (FnG.up (ok_is_witG T) (by decide)) hr hg T.m_is_witG T.F_is_witG.kp (b_is_witG T.F_is_witG) .nil lits_nil (da_cons (de_v 0) (da_cons (de_v 1) (da_cons (de_v 2) da_nil))))))))
theorem ok_Planner_init (T : Txt P K mg) : FnD P w K mg base 47 T.a_Planner_init T.d_Planner_init ["self", "web"] (sp_Planner_init T.a_Web T.a_Planner) := by
  refine fnD_ok (w0 := w_Planner_init T.a_Web T.a_Planner) (fun_at T.F_Planner_init) sc_Planner_init (len_Planner_init _ _) (fun cdv A outer s H E hr hg => ?_) (pure_Planner_init T.a_Web T.a_Planner)
  exact (dss_cons (ds_expr (de_fn (FnG.up (ok_check_web T) (by decide)) hr hg T.m_check_web T.F_check_web.kp (b_check_web T.F_check_web) .nil lits_nil (da_cons (de_v 1) da_nil)))
    (dss_cons (ds_setF T.c_Planner T.n_here (de_v 0) (de_tupF (da_cons (de_v 1) (da_star (de_fn (FnG.up (ok_improved_of T) (by decide)) hr hg T.m_improved_of T.F_improved_of.kp (b_improved_of T.F_improved_of) .nil lits_nil (da_cons (de_v 1) (da_cons (de_fn (FnG.up (ok_singles_of T) (by decide)) hr hg T.m_singles_of T.F_singles_of.kp (b_singles_of T.F_singles_of) .nil lits_nil (da_cons (de_v 1) da_nil)) da_nil))) da_nil))))
    (dss_one (ds_setF T.c_Planner T.n_past (de_v 0) (de_tupF da_nil)))))
theorem ok_Planner_web (T : Txt P K mg) : FnD P w K mg base 1 T.a_Planner_web T.d_Planner_web ["self"] (sp_Planner_web T.a_Web T.a_Planner) := by
  refine fnD_ok (w0 := w_Planner_web T.a_Web T.a_Planner) (fun_at T.F_Planner_web) sc_Planner_web (len_Planner_web _ _) (fun cdv A outer s H E hr hg => ?_) (pure_Planner_web T.a_Web T.a_Planner)
  exact (dss_one (ds_ret (de_ix (u65 hr) (de_fld T.c_Planner T.n_here (de_v 0)) de_int)))
theorem ok_Planner_parting (T : Txt P K mg) : FnD P w K mg base 1 T.a_Planner_parting T.d_Planner_parting ["self"] (sp_Planner_parting T.a_Web T.a_Planner) := by
  refine fnD_ok (w0 := w_Planner_parting T.a_Web T.a_Planner) (fun_at T.F_Planner_parting) sc_Planner_parting (len_Planner_parting _ _) (fun cdv A outer s H E hr hg => ?_) (pure_Planner_parting T.a_Web T.a_Planner)
  exact (dss_one (ds_ret (de_ix (u65 hr) (de_fld T.c_Planner T.n_here (de_v 0)) de_int)))
theorem ok_Planner_witness (T : Txt P K mg) : FnD P w K mg base 1 T.a_Planner_witness T.d_Planner_witness ["self"] (sp_Planner_witness T.a_Web T.a_Planner) := by
  refine fnD_ok (w0 := w_Planner_witness T.a_Web T.a_Planner) (fun_at T.F_Planner_witness) sc_Planner_witness (len_Planner_witness _ _) (fun cdv A outer s H E hr hg => ?_) (pure_Planner_witness T.a_Web T.a_Planner)
  exact (dss_one (ds_ret (de_ix (u65 hr) (de_fld T.c_Planner T.n_here (de_v 0)) de_int)))
theorem ok_Planner_changes (T : Txt P K mg) : FnD P w K mg base 1 T.a_Planner_changes T.d_Planner_changes ["self"] (sp_Planner_changes T.a_Web T.a_Planner) := by
  refine fnD_ok (w0 := w_Planner_changes T.a_Web T.a_Planner) (fun_at T.F_Planner_changes) sc_Planner_changes (len_Planner_changes _ _) (fun cdv A outer s H E hr hg => ?_) (pure_Planner_changes T.a_Web T.a_Planner)
  exact (dss_one (ds_ret (de_callB dc_len (by rfl) T.z_len boot_len (da_cons (de_fld T.c_Planner T.n_past (de_v 0)) da_nil))))
theorem ok_Planner_len (T : Txt P K mg) : FnD P w K mg base 1 T.a_Planner_len T.d_Planner_len ["self"] (sp_Planner_len T.a_Web T.a_Planner) := by
  refine fnD_ok (w0 := w_Planner_len T.a_Web T.a_Planner) (fun_at T.F_Planner_len) sc_Planner_len (len_Planner_len _ _) (fun cdv A outer s H E hr hg => ?_) (pure_Planner_len T.a_Web T.a_Planner)
  exact (dss_one (ds_ret (de_callB dc_len (by rfl) T.z_len boot_len (da_cons (de_ix (u65 hr) (de_fld T.c_Planner T.n_here (de_v 0)) de_int) da_nil))))
theorem ok_cup_cup (T : Txt P K mg) : FnD P w K mg base 1 T.a_cup_cup T.d_cup_cup ["_law_script", "_law_k"] (sp_cup_cup T.a_Web) := by
  refine fnD_ok (w0 := w_cup_cup T.a_Web) (fun_at T.F_cup_cup) sc_cup_cup (len_cup_cup _) (fun cdv A outer s H E hr hg => ?_) (pure_cup_cup T.a_Web)
  exact (dss_cons (ds_set (i := 2) sc_cup_cup.nd (de_if (dt_c do_lt (de_v 1) (de_callB dc_len (by rfl) T.z_len boot_len (da_cons (de_v 0) da_nil))) (de_callTy dc_int (by rfl) T.z_int boot_int (da_cons (de_ix (u65 hr) (de_v 0) (de_v 1)) da_nil)) (de_o do_add (de_o do_mul de_int (de_v 1)) de_int)))
    (dss_cons (ds_set (i := 3) sc_cup_cup.nd (de_o do_add de_int (de_o do_mul de_int (de_v 1))))
    (dss_cons (ds_for PassesOwn.never rfl (di_seq (de_o do_add (de_sl (de_v 0) dp_none (dp_some de_int)) (de_lst (da_cons (de_v 2) da_nil)))) (dg_v (i := 4) sc_cup_cup.nd) (dss_one (ds_set (i := 3) sc_cup_cup.nd (de_o do_mod (de_callTy dc_int (by rfl) T.z_int boot_int (da_cons (de_o do_add (de_o do_mul (de_v 3) de_int) (de_callTy dc_int (by rfl) T.z_int boot_int (da_cons (de_v 4) da_nil))) da_nil)) de_int))))
    (dss_one (ds_ret (de_new (da_cons (de_if (dw_pt (dw_or (dt_c do_lt (de_v 2) de_int) (dw_or1 (dt_c do_ge (de_v 2) (de_o do_pow de_int de_int))))) (de_callB dc_abs (by rfl) T.z_abs boot_abs (da_cons (de_v 2) da_nil)) de_int) (da_cons (de_v 3) (da_cons de_int da_nil)))))))))
theorem ok_cup_sip (T : Txt P K mg) : FnD P w K mg base 1 T.a_cup_sip T.d_cup_sip ["_law_cup_here", "_law_many"] (sp_cup_sip T.a_Web) := by
  refine fnD_ok (w0 := w_cup_sip T.a_Web) (fun_at T.F_cup_sip) sc_cup_sip (len_cup_sip _) (fun cdv A outer s H E hr hg => ?_) (pure_cup_sip T.a_Web)
  exact (dss_cons (ds_sub (u65 hr) (de_v 0) de_int (de_o do_add (de_ix (u65 hr) (de_v 0) de_int) de_int))
    (dss_cons (ds_set (i := 2) sc_cup_sip.nd (de_callTy dc_int (by rfl) T.z_int boot_int (da_cons (de_ix (u65 hr) (de_v 0) de_int) da_nil)))
    (dss_cons (ds_sub (u65 hr) (de_v 0) de_int (de_o do_mod (de_callTy dc_int (by rfl) T.z_int boot_int (da_cons (de_o do_add (de_o do_add (de_o do_mul (de_v 2) (de_o do_add (de_o do_mod (de_callTy dc_int (by rfl) T.z_int boot_int (da_cons (de_v 2) da_nil)) de_int) de_int)) (de_o do_mul de_int (de_ix (u65 hr) (de_v 0) de_int))) de_int) da_nil)) de_int))
    (dss_cons (ds_if (dt_c do_gt (de_ix (u65 hr) (de_v 0) de_int) de_int) (dss_cons (ds_asg (de_callB dc_divmod (by rfl) T.z_divmod boot_divmod (da_cons (de_ix (u65 hr) (de_v 0) de_int) (da_cons (de_v 1) da_nil))) (dg_tup rfl (dgs_cons (dg_sub (pset_sub (u65 hr)) (de_v 0) de_int) (dgs_cons (dg_v (i := 3) sc_cup_sip.nd) dgs_nil))))
    (dss_one (ds_ret (de_v 3)))) dss_nil)
    (dss_one (ds_ret (de_o do_mod (de_callTy dc_int (by rfl) T.z_int boot_int (da_cons (de_o do_div (de_ix (u65 hr) (de_v 0) de_int) de_int) da_nil)) (de_v 1))))))))
theorem ok_cup_of (T : Txt P K mg) : FnD P w K mg base 2 T.a_cup_of T.d_cup_of ["_law_cup_here", "_law_things"] (sp_cup_of T.a_Web) := by
  refine fnD_ok (w0 := w_cup_of T.a_Web) (fun_at T.F_cup_of) sc_cup_of (len_cup_of _) (fun cdv A outer s H E hr hg => ?_) (pure_cup_of T.a_Web)
  exact (dss_one (ds_ret (de_ix (u65 hr) (de_v 1) (de_fn (FnG.up (ok_cup_sip T) (by decide)) hr hg T.m_cup_sip T.F_cup_sip.kp (b_cup_sip T.F_cup_sip) .nil lits_nil (da_cons (de_v 0) (da_cons (de_callB dc_len (by rfl) T.z_len boot_len (da_cons (de_v 1) da_nil)) da_nil))))))
theorem ok_cup_folk (T : Txt P K mg) : FnD P w K mg base 2 T.a_cup_folk T.d_cup_folk ["_law_cup_here", "_law_many"] (sp_cup_folk T.a_Web) := by
  refine fnD_ok (w0 := w_cup_folk T.a_Web) (fun_at T.F_cup_folk) sc_cup_folk (len_cup_folk _) (fun cdv A outer s H E hr hg => ?_) (pure_cup_folk T.a_Web)
  exact (dss_cons (ds_set (i := 2) sc_cup_folk.nd (de_fn (FnG.up (ok_cup_sip T) (by decide)) hr hg T.m_cup_sip T.F_cup_sip.kp (b_cup_sip T.F_cup_sip) .nil lits_nil (da_cons (de_v 0) (da_cons de_int da_nil))))
    (dss_cons (ds_if (dw_pt (dw_and (dt_c (do_eq (u65 hr)) (de_fn (FnG.up (ok_cup_sip T) (by decide)) hr hg T.m_cup_sip T.F_cup_sip.kp (b_cup_sip T.F_cup_sip) .nil lits_nil (da_cons (de_v 0) (da_cons de_int da_nil))) de_int) (dw_and1 (dt_c do_lt (de_v 1) de_int)))) (dss_cons (ds_set (i := 3) sc_cup_folk.nd (de_lst (da_cons de_str (da_cons de_str (da_cons de_str (da_cons de_str (da_cons de_str (da_cons de_str (da_cons de_str (da_cons de_str (da_cons de_str (da_cons de_str (da_cons de_str da_nil)))))))))))))
    (dss_cons (ds_set (i := 4) sc_cup_folk.nd (de_o do_add de_int (de_fn (FnG.up (ok_cup_sip T) (by decide)) hr hg T.m_cup_sip T.F_cup_sip.kp (b_cup_sip T.F_cup_sip) .nil lits_nil (da_cons (de_v 0) (da_cons de_int da_nil)))))
    (dss_one (ds_ret (de_callTy dc_tupleF (by rfl) T.z_tuple boot_tuple (da_cons (de_lcP rfl sc_cup_folk.nd (di_rng1 T.z_range (da_cons (de_v 1) da_nil)) (own := [("_law_k", 8)]) (nt := (.n 8)) (blkOk_by (by kernel_rfl)) (by decide) (fun _ _ _ _ _ => (pg_name (i := 8) sc_cup_folk.nd rfl (.inl rfl))) (fun _ _ _ _ _ => dts_nil) (fun _ _ _ _ _ => (de_ix (u65 hr) (de_v 3) (de_o do_mod (de_callTy dc_int (by rfl) T.z_int boot_int (da_cons (de_o do_add (de_v 2) (de_o do_mul (de_v 4) (de_v 8))) da_nil)) de_int)))) da_nil)))))) dss_nil)
    (dss_cons (ds_asg (de_tup (da_cons de_str (da_cons (de_o do_add de_int (de_o do_mul de_int (de_fn (FnG.up (ok_cup_sip T) (by decide)) hr hg T.m_cup_sip T.F_cup_sip.kp (b_cup_sip T.F_cup_sip) .nil lits_nil (da_cons (de_v 0) (da_cons de_int da_nil))))) da_nil))) (dg_tup rfl (dgs_cons (dg_v (i := 5) sc_cup_folk.nd) (dgs_cons (dg_v (i := 4) sc_cup_folk.nd) dgs_nil))))
    (dss_cons (ds_set (i := 6) sc_cup_folk.nd (de_join de_str (de_lcF rfl sc_cup_folk.nd (di_rng1 T.z_range (da_cons (de_fn (FnG.up (ok_cup_sip T) (by decide)) hr hg T.m_cup_sip T.F_cup_sip.kp (b_cup_sip T.F_cup_sip) .nil lits_nil (da_cons (de_v 0) (da_cons de_int da_nil))) da_nil)) (own := [("_law_k", 8)]) (nt := (.n 8)) (blkOk_by (by kernel_rfl)) (by decide) (fun _ _ _ _ _ => (pg_name (i := 8) sc_cup_folk.nd rfl (.inl rfl))) (fun _ _ _ _ _ => dts_nil) (fun _ _ _ _ _ => (de_ix (u65 hr) (de_v 5) (de_fn (FnG.up (ok_cup_sip T) (by decide)) hr hg T.m_cup_sip T.F_cup_sip.kp (b_cup_sip T.F_cup_sip) .nil lits_nil (da_cons (de_v 0) (da_cons de_int da_nil))))))))
    (dss_cons (ds_set (i := 7) sc_cup_folk.nd (de_lst (da_cons de_str (da_cons de_str da_nil))))
    (dss_one (ds_ret (de_callTy dc_tupleF (by rfl) T.z_tuple boot_tuple (da_cons (de_lcP rfl sc_cup_folk.nd (di_rng1 T.z_range (da_cons (de_v 1) da_nil)) (own := [("_law_k", 8)]) (nt := (.n 8)) (blkOk_by (by kernel_rfl)) (by decide) (fun _ _ _ _ _ => (pg_name (i := 8) sc_cup_folk.nd rfl (.inl rfl))) (fun _ _ _ _ _ => dts_nil) (fun _ _ _ _ _ => (de_o do_add (de_o do_add (de_v 6) (de_ix (u65 hr) (de_v 7) (de_o do_div (de_v 8) de_int))) (de_ix (u65 hr) (de_v 5) (de_o do_mod (de_callTy dc_int (by rfl) T.z_int boot_int (da_cons (de_o do_add (de_v 2) (de_o do_mul (de_v 4) (de_v 8))) da_nil)) de_int))))) da_nil)))))))))
theorem ok_cup_ties (T : Txt P K mg) : FnD P w K mg base 3 T.a_cup_ties T.d_cup_ties ["_law_cup_here", "_law_folk_here", "_law_most"] (sp_cup_ties T.a_Web) := by
  refine fnD_ok (w0 := w_cup_ties T.a_Web) (fun_at T.F_cup_ties) sc_cup_ties (len_cup_ties _) (fun cdv A outer s H E hr hg => ?_) (pure_cup_ties T.a_Web)
  exact (dss_cons (ds_set (i := 3) sc_cup_ties.nd (de_new da_nil))
    (dss_cons (ds_for PassesOwn.never rfl (di_rng1 T.z_range (da_cons (de_fn (FnG.up (ok_cup_sip T) (by decide)) hr hg T.m_cup_sip T.F_cup_sip.kp (b_cup_sip T.F_cup_sip) .nil lits_nil (da_cons (de_v 0) (da_cons (de_o do_add (de_v 2) de_int) da_nil))) da_nil)) (dg_v (i := 4) sc_cup_ties.nd) (dss_cons (ds_set (i := 5) sc_cup_ties.nd (de_tup (da_cons (de_fn (FnG.up (ok_cup_of T) (by decide)) hr hg T.m_cup_of T.F_cup_of.kp (b_cup_of T.F_cup_of) .nil lits_nil (da_cons (de_v 0) (da_cons (de_v 1) da_nil))) (da_cons (de_fn (FnG.up (ok_cup_of T) (by decide)) hr hg T.m_cup_of T.F_cup_of.kp (b_cup_of T.F_cup_of) .nil lits_nil (da_cons (de_v 0) (da_cons (de_v 1) da_nil))) da_nil))))
    (dss_one (ds_if (dw_pt (dw_and (dt_c (do_ne (u65 hr)) (de_ix (u65 hr) (de_v 5) de_int) (de_ix (u65 hr) (de_v 5) de_int)) (dw_and1 (dt_c (do_notIn (u65 hr)) (de_v 5) (de_v 3))))) (dss_one (ds_expr (de_bm dm_append F.plainAttrs_list F.slot_list_append F.type_list_append (de_v 3) (da_cons (de_v 5) da_nil)))) dss_nil))))
    (dss_one (ds_ret (de_callTy dc_tupleF (by rfl) T.z_tuple boot_tuple (da_cons (de_v 3) da_nil))))))
theorem ok_cup_net (T : Txt P K mg) : FnD P w K mg base 4 T.a_cup_net T.d_cup_net ["_law_cup_here", "_law_most", "_law_ties_most"] (sp_cup_net T.a_Web) := by
  refine fnD_ok (w0 := w_cup_net T.a_Web) (fun_at T.F_cup_net) sc_cup_net (len_cup_net _) (fun cdv A outer s H E hr hg => ?_) (pure_cup_net T.a_Web)
  exact (dss_cons (ds_set (i := 3) sc_cup_net.nd (de_fn (FnG.up (ok_cup_folk T) (by decide)) hr hg T.m_cup_folk T.F_cup_folk.kp (b_cup_folk T.F_cup_folk) .nil lits_nil (da_cons (de_v 0) (da_cons (de_o do_add de_int (de_fn (FnG.up (ok_cup_sip T) (by decide)) hr hg T.m_cup_sip T.F_cup_sip.kp (b_cup_sip T.F_cup_sip) .nil lits_nil (da_cons (de_v 0) (da_cons (de_v 1) da_nil)))) da_nil))))
    (dss_one (ds_ret (de_tup (da_cons (de_v 3) (da_cons (de_fn (FnG.up (ok_cup_ties T) (by decide)) hr hg T.m_cup_ties T.F_cup_ties.kp (b_cup_ties T.F_cup_ties) .nil lits_nil (da_cons (de_v 0) (da_cons (de_v 3) (da_cons (de_v 2) da_nil)))) da_nil))))))
theorem ok_cup_made (T : Txt P K mg) : FnD P w K mg base 6 T.a_cup_made T.d_cup_made ["_law_net_here"] (sp_cup_made T.a_Web) := by
  refine fnD_ok (w0 := w_cup_made T.a_Web) (fun_at T.F_cup_made) sc_cup_made (len_cup_made _) (fun cdv A outer s H E hr hg => ?_) (pure_cup_made T.a_Web)
  exact (dss_one (ds_ret (de_makeF T.k_Web (ok_Web_init T) (hr.mono (by decide)) hg T.m_Web (b_Web_init T) .nil lits_nil (da_cons (de_ix (u65 hr) (de_v 0) de_int) (da_cons (de_ix (u65 hr) (de_v 0) de_int) da_nil)))))
theorem ok_cup_is_roadA (T : Txt P K mg) : FnD P w K mg base 1 T.a_cup_is_roadA T.d_cup_is_roadA ["_law_net_here", "_law_thing"] (sp_cup_is_roadA T.a_Web) := by
  refine fnD_ok (w0 := w_cup_is_roadA T.a_Web) (fun_at T.F_cup_is_roadA) sc_cup_is_roadA (len_cup_is_roadA _) (fun cdv A outer s H E hr hg => ?_) (pure_cup_is_roadA T.a_Web)
  exact (dss_cons (ds_if (dw_pt (dw_or (dt_not (dt_b (de_callB (dc_isiT "tuple" [] (by decide) (fun _ h => nomatch h)) (by rfl) T.z_isinstance boot_isinstance (da_cons (de_v 1) (da_cons (de_bT T.z_tuple boot_tuple) da_nil))))) (dw_or1 (dt_c (do_eqT (u65 hr)) (de_v 1) (de_tup da_nil))))) (dss_one (ds_ret de_bl)) dss_nil)
    (dss_cons (ds_for PassesOwn.never rfl (di_rng1 T.z_range (da_cons (de_callB dc_len (by rfl) T.z_len boot_len (da_cons (de_v 1) da_nil)) da_nil)) (dg_v (i := 2) sc_cup_is_roadA.nd) (dss_one (ds_if (dw_pt (dw_or (dt_not (dt_b (de_callB (dc_isiT "str" [] (by decide) (fun _ h => nomatch h)) (by rfl) T.z_isinstance boot_isinstance (da_cons (de_ix (u65 hr) (de_v 1) (de_v 2)) (da_cons (de_bT T.z_str boot_str) da_nil))))) (dw_or (dt_c (do_notIn (u65 hr)) (de_ix (u65 hr) (de_v 1) (de_v 2)) (de_ix (u65 hr) (de_v 0) de_int)) (dw_or1 (dt_c (do_in (u65 hr)) (de_ix (u65 hr) (de_v 1) (de_v 2)) (de_sl (de_v 1) dp_none (dp_some (de_v 2)))))))) (dss_one (ds_ret de_bl)) dss_nil)))
    (dss_one (ds_ret (de_callB (dc_all rfl) (by rfl) T.z_all boot_all (da_cons (de_lcP rfl sc_cup_is_roadA.nd (di_rng2 T.z_range (da_cons de_int (da_cons (de_callB dc_len (by rfl) T.z_len boot_len (da_cons (de_v 1) da_nil)) da_nil))) (own := [("_law_k", 2)]) (nt := (.n 2)) (blkOk_by (by kernel_rfl)) (by decide) (fun _ _ _ _ _ => (pg_name (i := 2) sc_cup_is_roadA.nd rfl (.inl rfl))) (fun _ _ _ _ _ => dts_nil) (fun _ _ _ _ _ => (de_c (do_in (u65 hr)) (de_tup (da_cons (de_ix (u65 hr) (de_v 1) (de_o do_sub (de_v 2) de_int)) (da_cons (de_ix (u65 hr) (de_v 1) (de_v 2)) da_nil))) (de_ix (u65 hr) (de_v 0) de_int)))) da_nil))))))
theorem ok_cup_is_partA (T : Txt P K mg) : FnD P w K mg base 2 T.a_cup_is_partA T.d_cup_is_partA ["_law_net_here", "_law_thing"] (sp_cup_is_partA T.a_Web) := by
  refine fnD_ok (w0 := w_cup_is_partA T.a_Web) (fun_at T.F_cup_is_partA) sc_cup_is_partA (len_cup_is_partA _) (fun cdv A outer s H E hr hg => ?_) (pure_cup_is_partA T.a_Web)
  exact (dss_cons (ds_if (dw_pt (dw_or (dt_not (dt_b (de_callB (dc_isiT "tuple" [] (by decide) (fun _ h => nomatch h)) (by rfl) T.z_isinstance boot_isinstance (da_cons (de_v 1) (da_cons (de_bT T.z_tuple boot_tuple) da_nil))))) (dw_or1 (dt_not (dt_b (de_callB (dc_all rfl) (by rfl) T.z_all boot_all (da_cons (de_lcP rfl sc_cup_is_partA.nd (di_seq (de_v 1)) (own := [("_law_row", 3)]) (nt := (.n 3)) (blkOk_by (by kernel_rfl)) (by decide) (fun _ _ _ _ _ => (pg_name (i := 3) sc_cup_is_partA.nd rfl (.inl rfl))) (fun _ _ _ _ _ => dts_nil) (fun _ _ _ _ _ => (de_fn (FnG.up (ok_cup_is_roadA T) (by decide)) hr hg T.m_cup_is_roadA T.F_cup_is_roadA.kp (b_cup_is_roadA T.F_cup_is_roadA) .nil lits_nil (da_cons (de_v 0) (da_cons (de_v 3) da_nil))))) da_nil))))))) (dss_one (ds_ret de_bl)) dss_nil)
    (dss_cons (ds_set (i := 2) sc_cup_is_partA.nd (de_lst da_nil))
    (dss_cons (ds_for PassesOwn.never rfl (di_seq (de_v 1)) (dg_v (i := 3) sc_cup_is_partA.nd) (dss_one (ds_set (i := 2) sc_cup_is_partA.nd (de_o do_add (de_v 2) (de_callTy dc_list (by rfl) T.z_list boot_list (da_cons (de_v 3) da_nil))))))
    (dss_one (ds_ret (de_c (do_eq (u65 hr)) (de_callB dc_sorted (by rfl) T.z_sorted boot_sorted (da_cons (de_v 2) da_nil)) (de_callB dc_sorted (by rfl) T.z_sorted boot_sorted (da_cons (de_ix (u65 hr) (de_v 0) de_int) da_nil))))))))
theorem ok_cup_meets (T : Txt P K mg) : FnD P w K mg base 1 T.a_cup_meets T.d_cup_meets ["_law_net_here", "_law_one", "_law_two"] (sp_cup_meets T.a_Web) := by
  refine fnD_ok (w0 := w_cup_meets T.a_Web) (fun_at T.F_cup_meets) sc_cup_meets (len_cup_meets _) (fun cdv A outer s H E hr hg => ?_) (pure_cup_meets T.a_Web)
  exact (dss_one (ds_ret (de_or (de_c (do_in (u65 hr)) (de_tup (da_cons (de_v 1) (da_cons (de_v 2) da_nil))) (de_ix (u65 hr) (de_v 0) de_int)) (de_one (de_c (do_in (u65 hr)) (de_tup (da_cons (de_v 2) (da_cons (de_v 1) da_nil))) (de_ix (u65 hr) (de_v 0) de_int))))))
theorem ok_cup_is_free (T : Txt P K mg) : FnD P w K mg base 2 T.a_cup_is_free T.d_cup_is_free ["_law_net_here", "_law_some"] (sp_cup_is_free T.a_Web) := by
  refine fnD_ok (w0 := w_cup_is_free T.a_Web) (fun_at T.F_cup_is_free) sc_cup_is_free (len_cup_is_free _) (fun cdv A outer s H E hr hg => ?_) (pure_cup_is_free T.a_Web)
  exact (dss_cons (ds_for PassesOwn.never rfl (di_rng1 T.z_range (da_cons (de_callB dc_len (by rfl) T.z_len boot_len (da_cons (de_v 1) da_nil)) da_nil)) (dg_v (i := 2) sc_cup_is_free.nd) (dss_one (ds_if (dt_b (de_callB (dc_any rfl) (by rfl) T.z_any boot_any (da_cons (de_lcP rfl sc_cup_is_free.nd (di_rng1 T.z_range (da_cons (de_v 2) da_nil)) (own := [("_law_j", 3)]) (nt := (.n 3)) (blkOk_by (by kernel_rfl)) (by decide) (fun _ _ _ _ _ => (pg_name (i := 3) sc_cup_is_free.nd rfl (.inl rfl))) (fun _ _ _ _ _ => dts_nil) (fun _ _ _ _ _ => (de_fn (FnG.up (ok_cup_meets T) (by decide)) hr hg T.m_cup_meets T.F_cup_meets.kp (b_cup_meets T.F_cup_meets) .nil lits_nil (da_cons (de_v 0) (da_cons (de_ix (u65 hr) (de_v 1) (de_v 3)) (da_cons (de_ix (u65 hr) (de_v 1) (de_v 2)) da_nil)))))) da_nil))) (dss_one (ds_ret de_bl)) dss_nil)))
    (dss_one (ds_ret de_bl)))
theorem ok_cup_showsP (T : Txt P K mg) : FnD P w K mg base 3 T.a_cup_showsP T.d_cup_showsP ["_law_net_here", "_law_rows", "_law_thing"] (sp_cup_showsP T.a_Web) := by
  refine fnD_ok (w0 := w_cup_showsP T.a_Web) (fun_at T.F_cup_showsP) sc_cup_showsP (len_cup_showsP _) (fun cdv A outer s H E hr hg => ?_) (pure_cup_showsP T.a_Web)
  exact (dss_cons (ds_if (dw_pt (dw_or (dt_not (dt_b (de_callB (dc_isiT "tuple" [] (by decide) (fun _ h => nomatch h)) (by rfl) T.z_isinstance boot_isinstance (da_cons (de_v 2) (da_cons (de_bT T.z_tuple boot_tuple) da_nil))))) (dw_or1 (dt_c (do_ne (u65 hr)) (de_callB dc_len (by rfl) T.z_len boot_len (da_cons (de_v 2) da_nil)) (de_callB dc_len (by rfl) T.z_len boot_len (da_cons (de_v 1) da_nil)))))) (dss_one (ds_ret de_bl)) dss_nil)
    (dss_cons (ds_for PassesOwn.never rfl (di_rng1 T.z_range (da_cons (de_callB dc_len (by rfl) T.z_len boot_len (da_cons (de_v 1) da_nil)) da_nil)) (dg_v (i := 3) sc_cup_showsP.nd) (dss_one (ds_if (dw_pt (dw_or (dt_not (dt_b (de_callB (dc_isiT "str" [] (by decide) (fun _ h => nomatch h)) (by rfl) T.z_isinstance boot_isinstance (da_cons (de_ix (u65 hr) (de_v 2) (de_v 3)) (da_cons (de_bT T.z_str boot_str) da_nil))))) (dw_or1 (dt_c (do_notIn (u65 hr)) (de_ix (u65 hr) (de_v 2) (de_v 3)) (de_ix (u65 hr) (de_v 1) (de_v 3)))))) (dss_one (ds_ret de_bl)) dss_nil)))
    (dss_one (ds_ret (de_fn (FnG.up (ok_cup_is_free T) (by decide)) hr hg T.m_cup_is_free T.F_cup_is_free.kp (b_cup_is_free T.F_cup_is_free) .nil lits_nil (da_cons (de_v 0) (da_cons (de_v 2) da_nil)))))))
theorem ok_plan_shown (T : Txt P K mg) : FnD P w K mg base 7 T.a_plan_shown T.d_plan_shown ["_law_made_here", "_law_net_here", "_law_many"] (sp_plan_shown T.a_Web T.a_Planner) := by
  refine fnD_ok (w0 := w_plan_shown T.a_Web T.a_Planner) (fun_at T.F_plan_shown) sc_plan_shown (len_plan_shown _ _) (fun cdv A outer s H E hr hg => ?_) (pure_plan_shown T.a_Web T.a_Planner)
  exact (dss_cons (ds_par (i := 3) (j := 4) rfl sc_plan_shown.nd (da_cons (de_propG (de_v 0) T.c_Planner T.p_Planner_parting (ok_Planner_parting T) (hr.mono (by decide)) hg (b_Planner_parting T.F_Planner_parting)) (da_cons (de_propG (de_v 0) T.c_Planner T.p_Planner_witness (ok_Planner_witness T) (hr.mono (by decide)) hg (b_Planner_witness T.F_Planner_witness)) da_nil)))
    (dss_cons (ds_if (dw_pt (dw_or (dt_c (do_own hop_ne T.h___ne__.at_ T.h___ne__.fn (FnG.up (ok_Web_ne T) (by decide)) hr hg (b_Web_ne T.F_Web_ne)) (de_propG (de_v 0) T.c_Planner T.p_Planner_web (ok_Planner_web T) (hr.mono (by decide)) hg (b_Planner_web T.F_Planner_web)) (de_fn (FnG.up (ok_cup_made T) (by decide)) hr hg T.m_cup_made T.F_cup_made.kp (b_cup_made T.F_cup_made) .nil lits_nil (da_cons (de_v 1) da_nil))) (dw_or (dt_c (do_ne (u65 hr)) (de_callB (dc_repr hg (u70 hr)) (by rfl) T.z_repr boot_repr (da_cons (de_prop T.c_Web T.p_ties (g_ties T) (hr.mono (by decide)) (b_ties T) (de_propG (de_v 0) T.c_Planner T.p_Planner_web (ok_Planner_web T) (hr.mono (by decide)) hg (b_Planner_web T.F_Planner_web))) da_nil)) (de_callB (dc_repr hg (u70 hr)) (by rfl) T.z_repr boot_repr (da_cons (de_ix (u65 hr) (de_v 1) de_int) da_nil))) (dw_or1 (dt_not (dt_b (de_fn (FnG.up (ok_cup_is_partA T) (by decide)) hr hg T.m_cup_is_partA T.F_cup_is_partA.kp (b_cup_is_partA T.F_cup_is_partA) .nil lits_nil (da_cons (de_v 1) (da_cons (de_v 3) da_nil))))))))) (dss_one (ds_ret de_bl)) dss_nil)
    (dss_one (ds_ret (de_and (de_fn (FnG.up (ok_cup_showsP T) (by decide)) hr hg T.m_cup_showsP T.F_cup_showsP.kp (b_cup_showsP T.F_cup_showsP) .nil lits_nil (da_cons (de_v 1) (da_cons (de_v 3) (da_cons (de_v 4) da_nil)))) (de_and (de_c (do_eq (u65 hr)) (de_callB (dc_repr hg (u70 hr)) (by rfl) T.z_repr boot_repr (da_cons (de_lst (da_cons (de_callB (dc_lenO T.h_Planner___len__.at_ T.h_Planner___len__.fn (ok_Planner_len T) (hr.mono (by decide)) hg (b_Planner_len T.F_Planner_len)) (by rfl) T.z_len boot_len (da_cons (de_v 0) da_nil)) (da_cons (de_propG (de_v 0) T.c_Planner T.p_Planner_changes (ok_Planner_changes T) (hr.mono (by decide)) hg (b_Planner_changes T.F_Planner_changes)) da_nil))) da_nil)) (de_callB (dc_repr hg (u70 hr)) (by rfl) T.z_repr boot_repr (da_cons (de_lst (da_cons (de_callB dc_len (by rfl) T.z_len boot_len (da_cons (de_v 3) da_nil)) (da_cons (de_v 2) da_nil))) da_nil))) (de_one (de_callTy (dc_boolO T.nb_Planner T.h_Planner___len__.at_ T.h_Planner___len__.fn (ok_Planner_len T) (hr.mono (by decide)) hg (b_Planner_len T.F_Planner_len)) (by rfl) T.z_bool boot_bool (da_cons (de_v 0) da_nil)))))))))
theorem ok_plan_most_free (T : Txt P K mg) : FnD P w K mg base 3 T.a_plan_most_free T.d_plan_most_free ["_law_net_here"] (sp_plan_most_free T.a_Web) := by
  refine fnD_ok (w0 := w_plan_most_free T.a_Web) (fun_at T.F_plan_most_free) sc_plan_most_free (len_plan_most_free _) (fun cdv A outer s H E hr hg => ?_) (pure_plan_most_free T.a_Web)
  exact (dss_cons (ds_set (i := 1) sc_plan_most_free.nd (de_lst (da_cons (de_tup da_nil) da_nil)))
    (dss_cons (ds_for PassesOwn.never rfl (di_seq (de_ix (u65 hr) (de_v 0) de_int)) (dg_v (i := 2) sc_plan_most_free.nd) (dss_one (ds_set (i := 1) sc_plan_most_free.nd (de_o do_add (de_v 1) (de_lcP rfl sc_plan_most_free.nd (di_seq (de_v 1)) (own := [("_law_part", 3)]) (nt := (.n 3)) (blkOk_by (by kernel_rfl)) (by decide) (fun _ _ _ _ _ => (pg_name (i := 3) sc_plan_most_free.nd rfl (.inl rfl))) (fun _ _ _ _ _ => (dts_one (dt_b (de_fn (FnG.up (ok_cup_is_free T) (by decide)) hr hg T.m_cup_is_free T.F_cup_is_free.kp (b_cup_is_free T.F_cup_is_free) .nil lits_nil (da_cons (de_v 0) (da_cons (de_o do_add (de_v 3) (de_tup (da_cons (de_v 2) da_nil))) da_nil)))))) (fun _ _ _ _ _ => (de_o do_add (de_v 3) (de_tup (da_cons (de_v 2) da_nil)))))))))
    (dss_one (ds_ret (de_callB (dc_max rfl) (by rfl) T.z_max boot_max (da_cons (de_lcP rfl sc_plan_most_free.nd (di_seq (de_v 1)) (own := [("_law_part", 3)]) (nt := (.n 3)) (blkOk_by (by kernel_rfl)) (by decide) (fun _ _ _ _ _ => (pg_name (i := 3) sc_plan_most_free.nd rfl (.inl rfl))) (fun _ _ _ _ _ => dts_nil) (fun _ _ _ _ _ => (de_callB dc_len (by rfl) T.z_len boot_len (da_cons (de_v 3) da_nil)))) da_nil))))))
theorem ok_k21_right (T : Txt P K mg) : FnD P w K mg base 49 T.a_k21_right T.d_k21_right ["_law_cup_here"] (sp_k21_right T.a_Web T.a_Planner) := by
  refine fnD_ok (w0 := w_k21_right T.a_Web T.a_Planner) (fun_at T.F_k21_right) sc_k21_right (len_k21_right _ _) (fun cdv A outer s H E hr hg => ?_) (pure_k21_right T.a_Web T.a_Planner)
  exact (dss_cons (ds_cl (ds_for PassesOwn.never rfl (di_rng1 T.z_range (da_cons de_int da_nil)) (dg_v (i := 1) sc_k21_right.nd) (dss_cons (ds_set (i := 2) sc_k21_right.nd (de_if (dt_c do_lt (de_v 1) de_int) (de_fn (FnG.up (ok_cup_net T) (by decide)) hr hg T.m_cup_net T.F_cup_net.kp (b_cup_net T.F_cup_net) .nil lits_nil (da_cons (de_v 0) (da_cons de_int (da_cons de_int da_nil)))) (de_fn (FnG.up (ok_cup_net T) (by decide)) hr hg T.m_cup_net T.F_cup_net.kp (b_cup_net T.F_cup_net) .nil lits_nil (da_cons (de_v 0) (da_cons de_int (da_cons de_int da_nil))))))
    (dss_cons (ds_for PassesOwn.never rfl (di_seq (de_lst (da_cons (de_make T.k_Planner (ok_Planner_init T) (hr.mono (by decide)) hg T.m_Planner (b_Planner_init T.F_Planner_init) .nil lits_nil (da_cons (de_fn (FnG.up (ok_cup_made T) (by decide)) hr hg T.m_cup_made T.F_cup_made.kp (b_cup_made T.F_cup_made) .nil lits_nil (da_cons (de_v 2) da_nil)) da_nil)) (da_cons (de_makeK (n := 1) T.k_Planner (ok_Planner_init T) (hr.mono (by decide)) hg T.m_Planner (kbn1_Planner_init T.F_Planner_init) gd_perm1 (dk_cons (de_fn (FnG.up (ok_cup_made T) (by decide)) hr hg T.m_cup_made T.F_cup_made.kp (b_cup_made T.F_cup_made) .nil lits_nil (da_cons (de_v 2) da_nil)) dk_nil)) da_nil)))) (dg_v (i := 3) sc_k21_right.nd) (dss_cons (ds_if (dw_pt (dw_or (dt_not (dt_b (de_fn (FnG.up (ok_plan_shown T) (by decide)) hr hg T.m_plan_shown T.F_plan_shown.kp (b_plan_shown T.F_plan_shown) .nil lits_nil (da_cons (de_v 3) (da_cons (de_v 2) (da_cons de_int da_nil)))))) (dw_or (dt_c (do_idEq T.id_Planner (u65 hr)) (de_v 3) (de_make T.k_Planner (ok_Planner_init T) (hr.mono (by decide)) hg T.m_Planner (b_Planner_init T.F_Planner_init) .nil lits_nil (da_cons (de_fn (FnG.up (ok_cup_made T) (by decide)) hr hg T.m_cup_made T.F_cup_made.kp (b_cup_made T.F_cup_made) .nil lits_nil (da_cons (de_v 2) da_nil)) da_nil))) (dw_or1 (dt_c (do_idNe T.id_Planner (u65 hr)) (de_v 3) (de_v 3)))))) (dss_one (ds_ret de_bl)) dss_nil)
    (dss_one (ds_if (dw_pt (dw_or (dt_not (dt_b (de_fn (FnG.up (ok_is_partA2 T) (by decide)) hr hg T.m_is_partA2 T.F_is_partA2.kp (b_is_partA2 T.F_is_partA2) .nil lits_nil (da_cons (de_propG (de_v 3) T.c_Planner T.p_Planner_web (ok_Planner_web T) (hr.mono (by decide)) hg (b_Planner_web T.F_Planner_web)) (da_cons (de_propG (de_v 3) T.c_Planner T.p_Planner_parting (ok_Planner_parting T) (hr.mono (by decide)) hg (b_Planner_parting T.F_Planner_parting)) da_nil))))) (dw_or1 (dt_not (dt_b (de_fn (FnG.up (ok_is_witG2 T) (by decide)) hr hg T.m_is_witG2 T.F_is_witG2.kp (b_is_witG2 T.F_is_witG2) .nil lits_nil (da_cons (de_propG (de_v 3) T.c_Planner T.p_Planner_web (ok_Planner_web T) (hr.mono (by decide)) hg (b_Planner_web T.F_Planner_web)) (da_cons (de_propG (de_v 3) T.c_Planner T.p_Planner_parting (ok_Planner_parting T) (hr.mono (by decide)) hg (b_Planner_parting T.F_Planner_parting)) (da_cons (de_propG (de_v 3) T.c_Planner T.p_Planner_witness (ok_Planner_witness T) (hr.mono (by decide)) hg (b_Planner_witness T.F_Planner_witness)) da_nil))))))))) (dss_one (ds_ret de_bl)) dss_nil))))
    (dss_one (ds_if (dw_pt (dw_and (dt_c do_lt (de_v 1) de_int) (dw_and1 (dt_c do_gt (de_callB (dc_lenO T.h_Planner___len__.at_ T.h_Planner___len__.fn (ok_Planner_len T) (hr.mono (by decide)) hg (b_Planner_len T.F_Planner_len)) (by rfl) T.z_len boot_len (da_cons (de_v 3) da_nil)) (de_fn (FnG.up (ok_plan_most_free T) (by decide)) hr hg T.m_plan_most_free T.F_plan_most_free.kp (b_plan_most_free T.F_plan_most_free) .nil lits_nil (da_cons (de_v 2) da_nil)))))) (dss_one (ds_ret de_bl)) dss_nil))))))
    (dss_one (ds_ret de_bl)))
theorem ok_k21_law (T : Txt P K mg) : FnD P w K mg base 50 T.a_k21_law T.d_k21_law ["_law_script"] (sp_k21_law T.a_Web T.a_Planner) := by
  refine fnD_ok (w0 := w_k21_law T.a_Web T.a_Planner) (fun_at T.F_k21_law) sc_k21_law (len_k21_law _ _) (fun cdv A outer s H E hr hg => ?_) (pure_k21_law T.a_Web T.a_Planner)
  exact (dss_one (ds_ret (de_callB (dc_all rfl) (by rfl) T.z_all boot_all (da_cons (de_lcF rfl sc_k21_law.nd (di_rng1 T.z_range (da_cons (de_callB (dc_max rfl) (by rfl) T.z_max boot_max (da_cons de_int (da_cons (de_callB (dc_min rfl) (by rfl) T.z_min boot_min (da_cons (de_callB dc_len (by rfl) T.z_len boot_len (da_cons (de_v 0) da_nil)) (da_cons de_int da_nil))) da_nil))) da_nil)) (own := [("_law_k", 1)]) (nt := (.n 1)) (blkOk_by (by kernel_rfl)) (by decide) (fun _ _ _ _ _ => (pg_name (i := 1) sc_k21_law.nd rfl (.inl rfl))) (fun _ _ _ _ _ => dts_nil) (fun _ _ _ _ _ => (de_fn (FnG.up (ok_k21_right T) (by decide)) hr hg T.m_k21_right T.F_k21_right.kp (b_k21_right T.F_k21_right) .nil lits_nil (da_cons (de_fn (FnG.up (ok_cup_cup T) (by decide)) hr hg T.m_cup_cup T.F_cup_cup.kp (b_cup_cup T.F_cup_cup) .nil lits_nil (da_cons (de_v 0) (da_cons (de_v 1) da_nil))) da_nil)))) da_nil))))
end

end L2.DL
namespace L2.DL
open PySem PySem.Spec PyProof.Rows

/-! ### the head -/
theorem all_mk {l : PySem.W.OpenLaw} {w : World} {K : PySem.W.Frag} {h : Heap} {mg : Str → Option Value} {fa : Addr} {kz : ClassData} {C_Planner C f_is_name f_wrong_place f_is_pair f_wrong_tie f_check_places f_check_ties f_Web_init dT_Web_init da_Web_init f_Web_has_tie f_Web_eq f_Web_ne f_check_web f_Web_len f_is_road_of f_is_parting_of f_check_parting f_singles_of f_tied_lasts f_without f_behind f_given_back f_step_of f_as_lists f_as_tuples f_improved_of f_is_roadA f_is_partA f_is_partA2 f_is_tied f_is_free f_is_witG f_is_witG2 f_Planner_init pa_Planner_web f_Planner_web pa_Planner_parting f_Planner_parting pa_Planner_witness f_Planner_witness pa_Planner_changes f_Planner_changes f_Planner_len f_cup_cup f_cup_sip f_cup_of f_cup_folk f_cup_ties f_cup_net f_cup_made f_cup_is_roadA f_cup_is_partA f_cup_meets f_cup_is_free f_cup_showsP f_plan_shown f_plan_most_free f_k21_right f_k21_law pa_places f_g_places pa_ties f_g_ties : Addr} {od_is_name an_is_name od_wrong_place an_wrong_place od_is_pair an_is_pair od_wrong_tie an_wrong_tie od_check_places an_check_places od_check_ties an_check_ties od_Web_init an_Web_init dd_Web_init od_Web_has_tie an_Web_has_tie od_Web_eq an_Web_eq od_Web_ne an_Web_ne od_check_web an_check_web od_Web_len an_Web_len od_is_road_of an_is_road_of od_is_parting_of an_is_parting_of od_check_parting an_check_parting od_singles_of an_singles_of od_tied_lasts an_tied_lasts od_without an_without od_behind an_behind od_given_back an_given_back od_step_of an_step_of od_as_lists an_as_lists od_as_tuples an_as_tuples od_improved_of an_improved_of od_is_roadA an_is_roadA od_is_partA an_is_partA od_is_partA2 an_is_partA2 od_is_tied an_is_tied od_is_free an_is_free od_is_witG an_is_witG od_is_witG2 an_is_witG2 od_Planner_init an_Planner_init od_Planner_web an_Planner_web od_Planner_parting an_Planner_parting od_Planner_witness an_Planner_witness od_Planner_changes an_Planner_changes od_Planner_len an_Planner_len od_cup_cup an_cup_cup od_cup_sip an_cup_sip od_cup_of an_cup_of od_cup_folk an_cup_folk od_cup_ties an_cup_ties od_cup_net an_cup_net od_cup_made an_cup_made od_cup_is_roadA an_cup_is_roadA od_cup_is_partA an_cup_is_partA od_cup_meets an_cup_meets od_cup_is_free an_cup_is_free od_cup_showsP an_cup_showsP od_plan_shown an_plan_shown od_plan_most_free an_plan_most_free od_k21_right an_k21_right od_k21_law an_k21_law od_g_places an_g_places od_g_ties an_g_ties : Option Addr} {oc_is_name kV_is_name dc_is_name pm_is_name cd_is_name ct_is_name oc_wrong_place kV_wrong_place dc_wrong_place pm_wrong_place cd_wrong_place ct_wrong_place oc_is_pair kV_is_pair dc_is_pair pm_is_pair cd_is_pair ct_is_pair oc_wrong_tie kV_wrong_tie dc_wrong_tie pm_wrong_tie cd_wrong_tie ct_wrong_tie oc_check_places kV_check_places dc_check_places pm_check_places cd_check_places ct_check_places oc_check_ties kV_check_ties dc_check_ties pm_check_ties cd_check_ties ct_check_ties oc_Web_init kV_Web_init dc_Web_init pm_Web_init cd_Web_init ct_Web_init do_Web_init dv_Web_init oc_Web_has_tie kV_Web_has_tie dc_Web_has_tie pm_Web_has_tie cd_Web_has_tie ct_Web_has_tie oc_Web_eq kV_Web_eq dc_Web_eq pm_Web_eq cd_Web_eq ct_Web_eq oc_Web_ne kV_Web_ne dc_Web_ne pm_Web_ne cd_Web_ne ct_Web_ne oc_check_web kV_check_web dc_check_web pm_check_web cd_check_web ct_check_web oc_Web_len kV_Web_len dc_Web_len pm_Web_len cd_Web_len ct_Web_len oc_is_road_of kV_is_road_of dc_is_road_of pm_is_road_of cd_is_road_of ct_is_road_of oc_is_parting_of kV_is_parting_of dc_is_parting_of pm_is_parting_of cd_is_parting_of ct_is_parting_of oc_check_parting kV_check_parting dc_check_parting pm_check_parting cd_check_parting ct_check_parting oc_singles_of kV_singles_of dc_singles_of pm_singles_of cd_singles_of ct_singles_of oc_tied_lasts kV_tied_lasts dc_tied_lasts pm_tied_lasts cd_tied_lasts ct_tied_lasts oc_without kV_without dc_without pm_without cd_without ct_without oc_behind kV_behind dc_behind pm_behind cd_behind ct_behind oc_given_back kV_given_back dc_given_back pm_given_back cd_given_back ct_given_back oc_step_of kV_step_of dc_step_of pm_step_of cd_step_of ct_step_of oc_as_lists kV_as_lists dc_as_lists pm_as_lists cd_as_lists ct_as_lists oc_as_tuples kV_as_tuples dc_as_tuples pm_as_tuples cd_as_tuples ct_as_tuples oc_improved_of kV_improved_of dc_improved_of pm_improved_of cd_improved_of ct_improved_of oc_is_roadA kV_is_roadA dc_is_roadA pm_is_roadA cd_is_roadA ct_is_roadA oc_is_partA kV_is_partA dc_is_partA pm_is_partA cd_is_partA ct_is_partA oc_is_partA2 kV_is_partA2 dc_is_partA2 pm_is_partA2 cd_is_partA2 ct_is_partA2 oc_is_tied kV_is_tied dc_is_tied pm_is_tied cd_is_tied ct_is_tied oc_is_free kV_is_free dc_is_free pm_is_free cd_is_free ct_is_free oc_is_witG kV_is_witG dc_is_witG pm_is_witG cd_is_witG ct_is_witG oc_is_witG2 kV_is_witG2 dc_is_witG2 pm_is_witG2 cd_is_witG2 ct_is_witG2 oc_Planner_init kV_Planner_init dc_Planner_init pm_Planner_init cd_Planner_init ct_Planner_init oc_Planner_web kV_Planner_web dc_Planner_web pm_Planner_web cd_Planner_web ct_Planner_web oc_Planner_parting kV_Planner_parting dc_Planner_parting pm_Planner_parting cd_Planner_parting ct_Planner_parting oc_Planner_witness kV_Planner_witness dc_Planner_witness pm_Planner_witness cd_Planner_witness ct_Planner_witness oc_Planner_changes kV_Planner_changes dc_Planner_changes pm_Planner_changes cd_Planner_changes ct_Planner_changes oc_Planner_len kV_Planner_len dc_Planner_len pm_Planner_len cd_Planner_len ct_Planner_len oc_cup_cup kV_cup_cup dc_cup_cup pm_cup_cup cd_cup_cup ct_cup_cup oc_cup_sip kV_cup_sip dc_cup_sip pm_cup_sip cd_cup_sip ct_cup_sip oc_cup_of kV_cup_of dc_cup_of pm_cup_of cd_cup_of ct_cup_of oc_cup_folk kV_cup_folk dc_cup_folk pm_cup_folk cd_cup_folk ct_cup_folk oc_cup_ties kV_cup_ties dc_cup_ties pm_cup_ties cd_cup_ties ct_cup_ties oc_cup_net kV_cup_net dc_cup_net pm_cup_net cd_cup_net ct_cup_net oc_cup_made kV_cup_made dc_cup_made pm_cup_made cd_cup_made ct_cup_made oc_cup_is_roadA kV_cup_is_roadA dc_cup_is_roadA pm_cup_is_roadA cd_cup_is_roadA ct_cup_is_roadA oc_cup_is_partA kV_cup_is_partA dc_cup_is_partA pm_cup_is_partA cd_cup_is_partA ct_cup_is_partA oc_cup_meets kV_cup_meets dc_cup_meets pm_cup_meets cd_cup_meets ct_cup_meets oc_cup_is_free kV_cup_is_free dc_cup_is_free pm_cup_is_free cd_cup_is_free ct_cup_is_free oc_cup_showsP kV_cup_showsP dc_cup_showsP pm_cup_showsP cd_cup_showsP ct_cup_showsP oc_plan_shown kV_plan_shown dc_plan_shown pm_plan_shown cd_plan_shown ct_plan_shown oc_plan_most_free kV_plan_most_free dc_plan_most_free pm_plan_most_free cd_plan_most_free ct_plan_most_free oc_k21_right kV_k21_right dc_k21_right pm_k21_right cd_k21_right ct_k21_right oc_k21_law kV_k21_law dc_k21_law pm_k21_law cd_k21_law ct_k21_law oc_g_places kV_g_places dc_g_places pm_g_places cd_g_places ct_g_places oc_g_ties kV_g_ties dc_g_ties pm_g_ties cd_g_ties ct_g_ties : Value} {sl_is_name sl_wrong_place sl_is_pair sl_wrong_tie sl_check_places sl_check_ties sl_Web_init ds_Web_init sl_Web_has_tie sl_Web_eq sl_Web_ne sl_check_web sl_Web_len sl_is_road_of sl_is_parting_of sl_check_parting sl_singles_of sl_tied_lasts sl_without sl_behind sl_given_back sl_step_of sl_as_lists sl_as_tuples sl_improved_of sl_is_roadA sl_is_partA sl_is_partA2 sl_is_tied sl_is_free sl_is_witG sl_is_witG2 sl_Planner_init sl_Planner_web sl_Planner_parting sl_Planner_witness sl_Planner_changes sl_Planner_len sl_cup_cup sl_cup_sip sl_cup_of sl_cup_folk sl_cup_ties sl_cup_net sl_cup_made sl_cup_is_roadA sl_cup_is_partA sl_cup_meets sl_cup_is_free sl_cup_showsP sl_plan_shown sl_plan_most_free sl_k21_right sl_k21_law sl_g_places sl_g_ties : Array (Option Value)} {tk_LETTERS tk_MOST_PLACES tk_MOST_TIES : Tok} {dn_Web_init : Nat} {pr_Planner_web pr_Planner_parting pr_Planner_witness pr_Planner_changes pr_places pr_ties : List Value} (X : K.In h) (G : h.Ns mainGlobals mg) (hfa : mg "law" = some (.ref fa))
    (atC_Planner : PySem.W.nsIn K mainGlobals "Planner" = some (some (.ref C_Planner)))
    (pgC_Planner : PySem.W.plainGet K C_Planner Str.empty = true)
    (hdC_Planner : PySem.W.hasDictIn K C_Planner = true)
    (poC_Planner : PySem.W.plainOver K C_Planner = true)
    (saC_Planner : PySem.W.findIn K (.ref C_Planner) "__setattr__" = some (some (.builtin "object.__setattr__")))
    (mkC_Planner : PySem.W.makesIn K C_Planner = true)
    (kcC_Planner : PySem.W.keepIn K (.ref C_Planner) = true)
    (imC_Planner : PySem.W.mroIn K C_Planner (.type "object") = some true)
    (ieC_Planner : PySem.W.findIn K (.ref C_Planner) "__eq__" = some (some (.builtin "object.__eq__")))
    (inC_Planner : PySem.W.findIn K (.ref C_Planner) "__ne__" = some (some (.builtin "object.__ne__")))
    (nobool_Planner : PySem.W.findIn K (.ref C_Planner) "__bool__" = some none)
    (n_here : PySem.W.findIn K (.ref C_Planner) "here" = some none)
    (n_past : PySem.W.findIn K (.ref C_Planner) "past" = some none)
    (atC : PySem.W.nsIn K mainGlobals "Web" = some (some (.ref C)))
    (pgC : PySem.W.plainGet K C Str.empty = true)
    (hdC : PySem.W.hasDictIn K C = true)
    (poC : PySem.W.plainOver K C = true)
    (saC : PySem.W.findIn K (.ref C) "__setattr__" = some (some (.builtin "object.__setattr__")))
    (mkC : PySem.W.makesIn K C = true)
    (kcC : PySem.W.keepIn K (.ref C) = true)
    (n_marks : PySem.W.findIn K (.ref C) "marks" = some none)
    (n_pairs : PySem.W.findIn K (.ref C) "pairs" = some none)
    (n_row : PySem.W.findIn K (.ref C) "row" = some none)
    (icl : PySem.W.findIn K (.ref C) "__class__" = some (some (.builtin "object.__class__")))
    (isp : PySem.W.specialIn K (.builtin "object.__class__") "__get__" = some (some (.builtin "getset_descriptor.__get__")))
    (itk : PySem.W.takesIn K (.builtin "object.__class__") = some true)
    (imr : PySem.W.mroIn K C (.type "object") = some true)
    (kcls : PySem.W.clsIn K C = some kz)
    (kty : PySem.W.typeIn K (.ref C) = some (.type "type"))
    (ks0 : PySem.W.subIn K (.type "NoneType") (.ref C) = some false)
    (ks1 : PySem.W.subIn K (.type "bool") (.ref C) = some false)
    (ks2 : PySem.W.subIn K (.type "int") (.ref C) = some false)
    (ks3 : PySem.W.subIn K (.type "str") (.ref C) = some false)
    (ks4 : PySem.W.subIn K (.type "tuple") (.ref C) = some false)
    (ks5 : PySem.W.subIn K (.type "list") (.ref C) = some false)
    (ks6 : PySem.W.subIn K (.type "dict") (.ref C) = some false)
    (at_is_name : PySem.W.nsIn K mainGlobals "is_name" = some (some (.ref f_is_name)))
    (l_is_name : K.lookup f_is_name = some ⟨oc_is_name, od_is_name, .func (PySem.W.fnOf "is_name" "is_name" (defArgs s_is_name) (defBody s_is_name) (defScope s_is_name) .none kV_is_name dc_is_name pm_is_name an_is_name cd_is_name ct_is_name), sl_is_name⟩)
    (cc_is_name : PySem.W.codeIn K cd_is_name "is_name" = true)
    (kk_is_name : PySem.W.keepIn K (.ref f_is_name) = true)
    (at_wrong_place : PySem.W.nsIn K mainGlobals "wrong_place" = some (some (.ref f_wrong_place)))
    (l_wrong_place : K.lookup f_wrong_place = some ⟨oc_wrong_place, od_wrong_place, .func (PySem.W.fnOf "wrong_place" "wrong_place" (defArgs s_wrong_place) (defBody s_wrong_place) (defScope s_wrong_place) .none kV_wrong_place dc_wrong_place pm_wrong_place an_wrong_place cd_wrong_place ct_wrong_place), sl_wrong_place⟩)
    (cc_wrong_place : PySem.W.codeIn K cd_wrong_place "wrong_place" = true)
    (kk_wrong_place : PySem.W.keepIn K (.ref f_wrong_place) = true)
    (at_is_pair : PySem.W.nsIn K mainGlobals "is_pair" = some (some (.ref f_is_pair)))
    (l_is_pair : K.lookup f_is_pair = some ⟨oc_is_pair, od_is_pair, .func (PySem.W.fnOf "is_pair" "is_pair" (defArgs s_is_pair) (defBody s_is_pair) (defScope s_is_pair) .none kV_is_pair dc_is_pair pm_is_pair an_is_pair cd_is_pair ct_is_pair), sl_is_pair⟩)
    (cc_is_pair : PySem.W.codeIn K cd_is_pair "is_pair" = true)
    (kk_is_pair : PySem.W.keepIn K (.ref f_is_pair) = true)
    (at_wrong_tie : PySem.W.nsIn K mainGlobals "wrong_tie" = some (some (.ref f_wrong_tie)))
    (l_wrong_tie : K.lookup f_wrong_tie = some ⟨oc_wrong_tie, od_wrong_tie, .func (PySem.W.fnOf "wrong_tie" "wrong_tie" (defArgs s_wrong_tie) (defBody s_wrong_tie) (defScope s_wrong_tie) .none kV_wrong_tie dc_wrong_tie pm_wrong_tie an_wrong_tie cd_wrong_tie ct_wrong_tie), sl_wrong_tie⟩)
    (cc_wrong_tie : PySem.W.codeIn K cd_wrong_tie "wrong_tie" = true)
    (kk_wrong_tie : PySem.W.keepIn K (.ref f_wrong_tie) = true)
    (at_check_places : PySem.W.nsIn K mainGlobals "check_places" = some (some (.ref f_check_places)))
    (l_check_places : K.lookup f_check_places = some ⟨oc_check_places, od_check_places, .func (PySem.W.fnOf "check_places" "check_places" (defArgs s_check_places) (defBody s_check_places) (defScope s_check_places) .none kV_check_places dc_check_places pm_check_places an_check_places cd_check_places ct_check_places), sl_check_places⟩)
    (cc_check_places : PySem.W.codeIn K cd_check_places "check_places" = true)
    (kk_check_places : PySem.W.keepIn K (.ref f_check_places) = true)
    (at_check_ties : PySem.W.nsIn K mainGlobals "check_ties" = some (some (.ref f_check_ties)))
    (l_check_ties : K.lookup f_check_ties = some ⟨oc_check_ties, od_check_ties, .func (PySem.W.fnOf "check_ties" "check_ties" (defArgs s_check_ties) (defBody s_check_ties) (defScope s_check_ties) .none kV_check_ties dc_check_ties pm_check_ties an_check_ties cd_check_ties ct_check_ties), sl_check_ties⟩)
    (cc_check_ties : PySem.W.codeIn K cd_check_ties "check_ties" = true)
    (kk_check_ties : PySem.W.keepIn K (.ref f_check_ties) = true)
    (at_Web_init : PySem.W.findIn K (.ref C) "__init__" = some (some (.ref f_Web_init)))
    (i_Web_init : PySem.W.isFn K (.ref f_Web_init) = true)
    (l_Web_init : K.lookup f_Web_init = some ⟨oc_Web_init, od_Web_init, .func (PySem.W.fnOf "__init__" "Web.__init__" (defArgs s_Web_init) (defBody s_Web_init) (defScope s_Web_init) (.ref dT_Web_init) kV_Web_init dc_Web_init pm_Web_init an_Web_init cd_Web_init ct_Web_init), sl_Web_init⟩)
    (cc_Web_init : PySem.W.codeIn K cd_Web_init "Web.__init__" = true)
    (kk_Web_init : PySem.W.keepIn K (.ref f_Web_init) = true)
    (dl_Web_init : K.lookup dT_Web_init = some ⟨do_Web_init, dd_Web_init, .seq #[dv_Web_init] dn_Web_init, ds_Web_init⟩)
    (dr_Web_init : dv_Web_init = .ref da_Web_init)
    (at_Web_has_tie : PySem.W.findIn K (.ref C) "has_tie" = some (some (.ref f_Web_has_tie)))
    (i_Web_has_tie : PySem.W.isFn K (.ref f_Web_has_tie) = true)
    (l_Web_has_tie : K.lookup f_Web_has_tie = some ⟨oc_Web_has_tie, od_Web_has_tie, .func (PySem.W.fnOf "has_tie" "Web.has_tie" (defArgs s_Web_has_tie) (defBody s_Web_has_tie) (defScope s_Web_has_tie) .none kV_Web_has_tie dc_Web_has_tie pm_Web_has_tie an_Web_has_tie cd_Web_has_tie ct_Web_has_tie), sl_Web_has_tie⟩)
    (cc_Web_has_tie : PySem.W.codeIn K cd_Web_has_tie "Web.has_tie" = true)
    (kk_Web_has_tie : PySem.W.keepIn K (.ref f_Web_has_tie) = true)
    (at_Web_eq : PySem.W.findIn K (.ref C) "__eq__" = some (some (.ref f_Web_eq)))
    (i_Web_eq : PySem.W.isFn K (.ref f_Web_eq) = true)
    (l_Web_eq : K.lookup f_Web_eq = some ⟨oc_Web_eq, od_Web_eq, .func (PySem.W.fnOf "__eq__" "Web.__eq__" (defArgs s_Web_eq) (defBody s_Web_eq) (defScope s_Web_eq) .none kV_Web_eq dc_Web_eq pm_Web_eq an_Web_eq cd_Web_eq ct_Web_eq), sl_Web_eq⟩)
    (cc_Web_eq : PySem.W.codeIn K cd_Web_eq "Web.__eq__" = true)
    (kk_Web_eq : PySem.W.keepIn K (.ref f_Web_eq) = true)
    (at_Web_ne : PySem.W.findIn K (.ref C) "__ne__" = some (some (.ref f_Web_ne)))
    (i_Web_ne : PySem.W.isFn K (.ref f_Web_ne) = true)
    (l_Web_ne : K.lookup f_Web_ne = some ⟨oc_Web_ne, od_Web_ne, .func (PySem.W.fnOf "__ne__" "Web.__ne__" (defArgs s_Web_ne) (defBody s_Web_ne) (defScope s_Web_ne) .none kV_Web_ne dc_Web_ne pm_Web_ne an_Web_ne cd_Web_ne ct_Web_ne), sl_Web_ne⟩)
    (cc_Web_ne : PySem.W.codeIn K cd_Web_ne "Web.__ne__" = true)
    (kk_Web_ne : PySem.W.keepIn K (.ref f_Web_ne) = true)
    (at_check_web : PySem.W.nsIn K mainGlobals "check_web" = some (some (.ref f_check_web)))
    (l_check_web : K.lookup f_check_web = some ⟨oc_check_web, od_check_web, .func (PySem.W.fnOf "check_web" "check_web" (defArgs s_check_web) (defBody s_check_web) (defScope s_check_web) .none kV_check_web dc_check_web pm_check_web an_check_web cd_check_web ct_check_web), sl_check_web⟩)
    (cc_check_web : PySem.W.codeIn K cd_check_web "check_web" = true)
    (kk_check_web : PySem.W.keepIn K (.ref f_check_web) = true)
    (at_Web_len : PySem.W.findIn K (.ref C) "__len__" = some (some (.ref f_Web_len)))
    (i_Web_len : PySem.W.isFn K (.ref f_Web_len) = true)
    (l_Web_len : K.lookup f_Web_len = some ⟨oc_Web_len, od_Web_len, .func (PySem.W.fnOf "__len__" "Web.__len__" (defArgs s_Web_len) (defBody s_Web_len) (defScope s_Web_len) .none kV_Web_len dc_Web_len pm_Web_len an_Web_len cd_Web_len ct_Web_len), sl_Web_len⟩)
    (cc_Web_len : PySem.W.codeIn K cd_Web_len "Web.__len__" = true)
    (kk_Web_len : PySem.W.keepIn K (.ref f_Web_len) = true)
    (at_is_road_of : PySem.W.nsIn K mainGlobals "is_road_of" = some (some (.ref f_is_road_of)))
    (l_is_road_of : K.lookup f_is_road_of = some ⟨oc_is_road_of, od_is_road_of, .func (PySem.W.fnOf "is_road_of" "is_road_of" (defArgs s_is_road_of) (defBody s_is_road_of) (defScope s_is_road_of) .none kV_is_road_of dc_is_road_of pm_is_road_of an_is_road_of cd_is_road_of ct_is_road_of), sl_is_road_of⟩)
    (cc_is_road_of : PySem.W.codeIn K cd_is_road_of "is_road_of" = true)
    (kk_is_road_of : PySem.W.keepIn K (.ref f_is_road_of) = true)
    (at_is_parting_of : PySem.W.nsIn K mainGlobals "is_parting_of" = some (some (.ref f_is_parting_of)))
    (l_is_parting_of : K.lookup f_is_parting_of = some ⟨oc_is_parting_of, od_is_parting_of, .func (PySem.W.fnOf "is_parting_of" "is_parting_of" (defArgs s_is_parting_of) (defBody s_is_parting_of) (defScope s_is_parting_of) .none kV_is_parting_of dc_is_parting_of pm_is_parting_of an_is_parting_of cd_is_parting_of ct_is_parting_of), sl_is_parting_of⟩)
    (cc_is_parting_of : PySem.W.codeIn K cd_is_parting_of "is_parting_of" = true)
    (kk_is_parting_of : PySem.W.keepIn K (.ref f_is_parting_of) = true)
    (at_check_parting : PySem.W.nsIn K mainGlobals "check_parting" = some (some (.ref f_check_parting)))
    (l_check_parting : K.lookup f_check_parting = some ⟨oc_check_parting, od_check_parting, .func (PySem.W.fnOf "check_parting" "check_parting" (defArgs s_check_parting) (defBody s_check_parting) (defScope s_check_parting) .none kV_check_parting dc_check_parting pm_check_parting an_check_parting cd_check_parting ct_check_parting), sl_check_parting⟩)
    (cc_check_parting : PySem.W.codeIn K cd_check_parting "check_parting" = true)
    (kk_check_parting : PySem.W.keepIn K (.ref f_check_parting) = true)
    (at_singles_of : PySem.W.nsIn K mainGlobals "singles_of" = some (some (.ref f_singles_of)))
    (l_singles_of : K.lookup f_singles_of = some ⟨oc_singles_of, od_singles_of, .func (PySem.W.fnOf "singles_of" "singles_of" (defArgs s_singles_of) (defBody s_singles_of) (defScope s_singles_of) .none kV_singles_of dc_singles_of pm_singles_of an_singles_of cd_singles_of ct_singles_of), sl_singles_of⟩)
    (cc_singles_of : PySem.W.codeIn K cd_singles_of "singles_of" = true)
    (kk_singles_of : PySem.W.keepIn K (.ref f_singles_of) = true)
    (at_tied_lasts : PySem.W.nsIn K mainGlobals "tied_lasts" = some (some (.ref f_tied_lasts)))
    (l_tied_lasts : K.lookup f_tied_lasts = some ⟨oc_tied_lasts, od_tied_lasts, .func (PySem.W.fnOf "tied_lasts" "tied_lasts" (defArgs s_tied_lasts) (defBody s_tied_lasts) (defScope s_tied_lasts) .none kV_tied_lasts dc_tied_lasts pm_tied_lasts an_tied_lasts cd_tied_lasts ct_tied_lasts), sl_tied_lasts⟩)
    (cc_tied_lasts : PySem.W.codeIn K cd_tied_lasts "tied_lasts" = true)
    (kk_tied_lasts : PySem.W.keepIn K (.ref f_tied_lasts) = true)
    (at_without : PySem.W.nsIn K mainGlobals "without" = some (some (.ref f_without)))
    (l_without : K.lookup f_without = some ⟨oc_without, od_without, .func (PySem.W.fnOf "without" "without" (defArgs s_without) (defBody s_without) (defScope s_without) .none kV_without dc_without pm_without an_without cd_without ct_without), sl_without⟩)
    (cc_without : PySem.W.codeIn K cd_without "without" = true)
    (kk_without : PySem.W.keepIn K (.ref f_without) = true)
    (at_behind : PySem.W.nsIn K mainGlobals "behind" = some (some (.ref f_behind)))
    (l_behind : K.lookup f_behind = some ⟨oc_behind, od_behind, .func (PySem.W.fnOf "behind" "behind" (defArgs s_behind) (defBody s_behind) (defScope s_behind) .none kV_behind dc_behind pm_behind an_behind cd_behind ct_behind), sl_behind⟩)
    (cc_behind : PySem.W.codeIn K cd_behind "behind" = true)
    (kk_behind : PySem.W.keepIn K (.ref f_behind) = true)
    (at_given_back : PySem.W.nsIn K mainGlobals "given_back" = some (some (.ref f_given_back)))
    (l_given_back : K.lookup f_given_back = some ⟨oc_given_back, od_given_back, .func (PySem.W.fnOf "given_back" "given_back" (defArgs s_given_back) (defBody s_given_back) (defScope s_given_back) .none kV_given_back dc_given_back pm_given_back an_given_back cd_given_back ct_given_back), sl_given_back⟩)
    (cc_given_back : PySem.W.codeIn K cd_given_back "given_back" = true)
    (kk_given_back : PySem.W.keepIn K (.ref f_given_back) = true)
    (at_step_of : PySem.W.nsIn K mainGlobals "step_of" = some (some (.ref f_step_of)))
    (l_step_of : K.lookup f_step_of = some ⟨oc_step_of, od_step_of, .func (PySem.W.fnOf "step_of" "step_of" (defArgs s_step_of) (defBody s_step_of) (defScope s_step_of) .none kV_step_of dc_step_of pm_step_of an_step_of cd_step_of ct_step_of), sl_step_of⟩)
    (cc_step_of : PySem.W.codeIn K cd_step_of "step_of" = true)
    (kk_step_of : PySem.W.keepIn K (.ref f_step_of) = true)
    (at_as_lists : PySem.W.nsIn K mainGlobals "as_lists" = some (some (.ref f_as_lists)))
    (l_as_lists : K.lookup f_as_lists = some ⟨oc_as_lists, od_as_lists, .func (PySem.W.fnOf "as_lists" "as_lists" (defArgs s_as_lists) (defBody s_as_lists) (defScope s_as_lists) .none kV_as_lists dc_as_lists pm_as_lists an_as_lists cd_as_lists ct_as_lists), sl_as_lists⟩)
    (cc_as_lists : PySem.W.codeIn K cd_as_lists "as_lists" = true)
    (kk_as_lists : PySem.W.keepIn K (.ref f_as_lists) = true)
    (at_as_tuples : PySem.W.nsIn K mainGlobals "as_tuples" = some (some (.ref f_as_tuples)))
    (l_as_tuples : K.lookup f_as_tuples = some ⟨oc_as_tuples, od_as_tuples, .func (PySem.W.fnOf "as_tuples" "as_tuples" (defArgs s_as_tuples) (defBody s_as_tuples) (defScope s_as_tuples) .none kV_as_tuples dc_as_tuples pm_as_tuples an_as_tuples cd_as_tuples ct_as_tuples), sl_as_tuples⟩)
    (cc_as_tuples : PySem.W.codeIn K cd_as_tuples "as_tuples" = true)
    (kk_as_tuples : PySem.W.keepIn K (.ref f_as_tuples) = true)
    (at_improved_of : PySem.W.nsIn K mainGlobals "improved_of" = some (some (.ref f_improved_of)))
    (l_improved_of : K.lookup f_improved_of = some ⟨oc_improved_of, od_improved_of, .func (PySem.W.fnOf "improved_of" "improved_of" (defArgs s_improved_of) (defBody s_improved_of) (defScope s_improved_of) .none kV_improved_of dc_improved_of pm_improved_of an_improved_of cd_improved_of ct_improved_of), sl_improved_of⟩)
    (cc_improved_of : PySem.W.codeIn K cd_improved_of "improved_of" = true)
    (kk_improved_of : PySem.W.keepIn K (.ref f_improved_of) = true)
    (at_is_roadA : PySem.W.nsIn K mainGlobals "is_road_of" = some (some (.ref f_is_roadA)))
    (l_is_roadA : K.lookup f_is_roadA = some ⟨oc_is_roadA, od_is_roadA, .func (PySem.W.fnOf "is_road_of" "is_road_of" (defArgs s_is_roadA) (defBody s_is_roadA) (defScope s_is_roadA) .none kV_is_roadA dc_is_roadA pm_is_roadA an_is_roadA cd_is_roadA ct_is_roadA), sl_is_roadA⟩)
    (cc_is_roadA : PySem.W.codeIn K cd_is_roadA "is_road_of" = true)
    (kk_is_roadA : PySem.W.keepIn K (.ref f_is_roadA) = true)
    (at_is_partA : PySem.W.nsIn K mainGlobals "is_parting_of" = some (some (.ref f_is_partA)))
    (l_is_partA : K.lookup f_is_partA = some ⟨oc_is_partA, od_is_partA, .func (PySem.W.fnOf "is_parting_of" "is_parting_of" (defArgs s_is_partA) (defBody s_is_partA) (defScope s_is_partA) .none kV_is_partA dc_is_partA pm_is_partA an_is_partA cd_is_partA ct_is_partA), sl_is_partA⟩)
    (cc_is_partA : PySem.W.codeIn K cd_is_partA "is_parting_of" = true)
    (kk_is_partA : PySem.W.keepIn K (.ref f_is_partA) = true)
    (at_is_partA2 : PySem.W.nsIn K mainGlobals "is_parting" = some (some (.ref f_is_partA2)))
    (l_is_partA2 : K.lookup f_is_partA2 = some ⟨oc_is_partA2, od_is_partA2, .func (PySem.W.fnOf "is_parting" "is_parting" (defArgs s_is_partA2) (defBody s_is_partA2) (defScope s_is_partA2) .none kV_is_partA2 dc_is_partA2 pm_is_partA2 an_is_partA2 cd_is_partA2 ct_is_partA2), sl_is_partA2⟩)
    (cc_is_partA2 : PySem.W.codeIn K cd_is_partA2 "is_parting" = true)
    (kk_is_partA2 : PySem.W.keepIn K (.ref f_is_partA2) = true)
    (at_is_tied : PySem.W.nsIn K mainGlobals "is_tied" = some (some (.ref f_is_tied)))
    (l_is_tied : K.lookup f_is_tied = some ⟨oc_is_tied, od_is_tied, .func (PySem.W.fnOf "is_tied" "is_tied" (defArgs s_is_tied) (defBody s_is_tied) (defScope s_is_tied) .none kV_is_tied dc_is_tied pm_is_tied an_is_tied cd_is_tied ct_is_tied), sl_is_tied⟩)
    (cc_is_tied : PySem.W.codeIn K cd_is_tied "is_tied" = true)
    (kk_is_tied : PySem.W.keepIn K (.ref f_is_tied) = true)
    (at_is_free : PySem.W.nsIn K mainGlobals "is_free" = some (some (.ref f_is_free)))
    (l_is_free : K.lookup f_is_free = some ⟨oc_is_free, od_is_free, .func (PySem.W.fnOf "is_free" "is_free" (defArgs s_is_free) (defBody s_is_free) (defScope s_is_free) .none kV_is_free dc_is_free pm_is_free an_is_free cd_is_free ct_is_free), sl_is_free⟩)
    (cc_is_free : PySem.W.codeIn K cd_is_free "is_free" = true)
    (kk_is_free : PySem.W.keepIn K (.ref f_is_free) = true)
    (at_is_witG : PySem.W.nsIn K mainGlobals "is_witness_of" = some (some (.ref f_is_witG)))
    (l_is_witG : K.lookup f_is_witG = some ⟨oc_is_witG, od_is_witG, .func (PySem.W.fnOf "is_witness_of" "is_witness_of" (defArgs s_is_witG) (defBody s_is_witG) (defScope s_is_witG) .none kV_is_witG dc_is_witG pm_is_witG an_is_witG cd_is_witG ct_is_witG), sl_is_witG⟩)
    (cc_is_witG : PySem.W.codeIn K cd_is_witG "is_witness_of" = true)
    (kk_is_witG : PySem.W.keepIn K (.ref f_is_witG) = true)
    (at_is_witG2 : PySem.W.nsIn K mainGlobals "is_witness" = some (some (.ref f_is_witG2)))
    (l_is_witG2 : K.lookup f_is_witG2 = some ⟨oc_is_witG2, od_is_witG2, .func (PySem.W.fnOf "is_witness" "is_witness" (defArgs s_is_witG2) (defBody s_is_witG2) (defScope s_is_witG2) .none kV_is_witG2 dc_is_witG2 pm_is_witG2 an_is_witG2 cd_is_witG2 ct_is_witG2), sl_is_witG2⟩)
    (cc_is_witG2 : PySem.W.codeIn K cd_is_witG2 "is_witness" = true)
    (kk_is_witG2 : PySem.W.keepIn K (.ref f_is_witG2) = true)
    (at_Planner_init : PySem.W.findIn K (.ref C_Planner) "__init__" = some (some (.ref f_Planner_init)))
    (i_Planner_init : PySem.W.isFn K (.ref f_Planner_init) = true)
    (l_Planner_init : K.lookup f_Planner_init = some ⟨oc_Planner_init, od_Planner_init, .func (PySem.W.fnOf "__init__" "Planner.__init__" (defArgs s_Planner_init) (defBody s_Planner_init) (defScope s_Planner_init) .none kV_Planner_init dc_Planner_init pm_Planner_init an_Planner_init cd_Planner_init ct_Planner_init), sl_Planner_init⟩)
    (cc_Planner_init : PySem.W.codeIn K cd_Planner_init "Planner.__init__" = true)
    (kk_Planner_init : PySem.W.keepIn K (.ref f_Planner_init) = true)
    (pt_Planner_web : PySem.W.findIn K (.ref C_Planner) "web" = some (some (.ref pa_Planner_web)))
    (at_Planner_web : PySem.W.recIn K pa_Planner_web "property" = some (.ref f_Planner_web :: pr_Planner_web))
    (pg_Planner_web : PySem.W.specialIn K (.ref pa_Planner_web) "__get__" = some (some (.builtin "property.__get__")))
    (pk_Planner_web : PySem.W.takesIn K (.ref pa_Planner_web) = some true)
    (l_Planner_web : K.lookup f_Planner_web = some ⟨oc_Planner_web, od_Planner_web, .func (PySem.W.fnOf "web" "Planner.web" (defArgs s_Planner_web) (defBody s_Planner_web) (defScope s_Planner_web) .none kV_Planner_web dc_Planner_web pm_Planner_web an_Planner_web cd_Planner_web ct_Planner_web), sl_Planner_web⟩)
    (cc_Planner_web : PySem.W.codeIn K cd_Planner_web "Planner.web" = true)
    (kk_Planner_web : PySem.W.keepIn K (.ref f_Planner_web) = true)
    (pt_Planner_parting : PySem.W.findIn K (.ref C_Planner) "parting" = some (some (.ref pa_Planner_parting)))
    (at_Planner_parting : PySem.W.recIn K pa_Planner_parting "property" = some (.ref f_Planner_parting :: pr_Planner_parting))
    (pg_Planner_parting : PySem.W.specialIn K (.ref pa_Planner_parting) "__get__" = some (some (.builtin "property.__get__")))
    (pk_Planner_parting : PySem.W.takesIn K (.ref pa_Planner_parting) = some true)
    (l_Planner_parting : K.lookup f_Planner_parting = some ⟨oc_Planner_parting, od_Planner_parting, .func (PySem.W.fnOf "parting" "Planner.parting" (defArgs s_Planner_parting) (defBody s_Planner_parting) (defScope s_Planner_parting) .none kV_Planner_parting dc_Planner_parting pm_Planner_parting an_Planner_parting cd_Planner_parting ct_Planner_parting), sl_Planner_parting⟩)
    (cc_Planner_parting : PySem.W.codeIn K cd_Planner_parting "Planner.parting" = true)
    (kk_Planner_parting : PySem.W.keepIn K (.ref f_Planner_parting) = true)
    (pt_Planner_witness : PySem.W.findIn K (.ref C_Planner) "witness" = some (some (.ref pa_Planner_witness)))
    (at_Planner_witness : PySem.W.recIn K pa_Planner_witness "property" = some (.ref f_Planner_witness :: pr_Planner_witness))
    (pg_Planner_witness : PySem.W.specialIn K (.ref pa_Planner_witness) "__get__" = some (some (.builtin "property.__get__")))
    (pk_Planner_witness : PySem.W.takesIn K (.ref pa_Planner_witness) = some true)
    (l_Planner_witness : K.lookup f_Planner_witness = some ⟨oc_Planner_witness, od_Planner_witness, .func (PySem.W.fnOf "witness" "Planner.witness" (defArgs s_Planner_witness) (defBody s_Planner_witness) (defScope s_Planner_witness) .none kV_Planner_witness dc_Planner_witness pm_Planner_witness an_Planner_witness cd_Planner_witness ct_Planner_witness), sl_Planner_witness⟩)
    (cc_Planner_witness : PySem.W.codeIn K cd_Planner_witness "Planner.witness" = true)
    (kk_Planner_witness : PySem.W.keepIn K (.ref f_Planner_witness) = true)
    (pt_Planner_changes : PySem.W.findIn K (.ref C_Planner) "changes" = some (some (.ref pa_Planner_changes)))
    (at_Planner_changes : PySem.W.recIn K pa_Planner_changes "property" = some (.ref f_Planner_changes :: pr_Planner_changes))
    (pg_Planner_changes : PySem.W.specialIn K (.ref pa_Planner_changes) "__get__" = some (some (.builtin "property.__get__")))
    (pk_Planner_changes : PySem.W.takesIn K (.ref pa_Planner_changes) = some true)
    (l_Planner_changes : K.lookup f_Planner_changes = some ⟨oc_Planner_changes, od_Planner_changes, .func (PySem.W.fnOf "changes" "Planner.changes" (defArgs s_Planner_changes) (defBody s_Planner_changes) (defScope s_Planner_changes) .none kV_Planner_changes dc_Planner_changes pm_Planner_changes an_Planner_changes cd_Planner_changes ct_Planner_changes), sl_Planner_changes⟩)
    (cc_Planner_changes : PySem.W.codeIn K cd_Planner_changes "Planner.changes" = true)
    (kk_Planner_changes : PySem.W.keepIn K (.ref f_Planner_changes) = true)
    (at_Planner_len : PySem.W.findIn K (.ref C_Planner) "__len__" = some (some (.ref f_Planner_len)))
    (i_Planner_len : PySem.W.isFn K (.ref f_Planner_len) = true)
    (l_Planner_len : K.lookup f_Planner_len = some ⟨oc_Planner_len, od_Planner_len, .func (PySem.W.fnOf "__len__" "Planner.__len__" (defArgs s_Planner_len) (defBody s_Planner_len) (defScope s_Planner_len) .none kV_Planner_len dc_Planner_len pm_Planner_len an_Planner_len cd_Planner_len ct_Planner_len), sl_Planner_len⟩)
    (cc_Planner_len : PySem.W.codeIn K cd_Planner_len "Planner.__len__" = true)
    (kk_Planner_len : PySem.W.keepIn K (.ref f_Planner_len) = true)
    (at_cup_cup : PySem.W.nsIn K mainGlobals "_law_cup" = some (some (.ref f_cup_cup)))
    (l_cup_cup : K.lookup f_cup_cup = some ⟨oc_cup_cup, od_cup_cup, .func (PySem.W.fnOf "_law_cup" "_law_cup" (defArgs s_cup_cup) (defBody s_cup_cup) (defScope s_cup_cup) .none kV_cup_cup dc_cup_cup pm_cup_cup an_cup_cup cd_cup_cup ct_cup_cup), sl_cup_cup⟩)
    (cc_cup_cup : PySem.W.codeIn K cd_cup_cup "_law_cup" = true)
    (kk_cup_cup : PySem.W.keepIn K (.ref f_cup_cup) = true)
    (at_cup_sip : PySem.W.nsIn K mainGlobals "_law_sip" = some (some (.ref f_cup_sip)))
    (l_cup_sip : K.lookup f_cup_sip = some ⟨oc_cup_sip, od_cup_sip, .func (PySem.W.fnOf "_law_sip" "_law_sip" (defArgs s_cup_sip) (defBody s_cup_sip) (defScope s_cup_sip) .none kV_cup_sip dc_cup_sip pm_cup_sip an_cup_sip cd_cup_sip ct_cup_sip), sl_cup_sip⟩)
    (cc_cup_sip : PySem.W.codeIn K cd_cup_sip "_law_sip" = true)
    (kk_cup_sip : PySem.W.keepIn K (.ref f_cup_sip) = true)
    (at_cup_of : PySem.W.nsIn K mainGlobals "_law_of" = some (some (.ref f_cup_of)))
    (l_cup_of : K.lookup f_cup_of = some ⟨oc_cup_of, od_cup_of, .func (PySem.W.fnOf "_law_of" "_law_of" (defArgs s_cup_of) (defBody s_cup_of) (defScope s_cup_of) .none kV_cup_of dc_cup_of pm_cup_of an_cup_of cd_cup_of ct_cup_of), sl_cup_of⟩)
    (cc_cup_of : PySem.W.codeIn K cd_cup_of "_law_of" = true)
    (kk_cup_of : PySem.W.keepIn K (.ref f_cup_of) = true)
    (at_cup_folk : PySem.W.nsIn K mainGlobals "_law_folk" = some (some (.ref f_cup_folk)))
    (l_cup_folk : K.lookup f_cup_folk = some ⟨oc_cup_folk, od_cup_folk, .func (PySem.W.fnOf "_law_folk" "_law_folk" (defArgs s_cup_folk) (defBody s_cup_folk) (defScope s_cup_folk) .none kV_cup_folk dc_cup_folk pm_cup_folk an_cup_folk cd_cup_folk ct_cup_folk), sl_cup_folk⟩)
    (cc_cup_folk : PySem.W.codeIn K cd_cup_folk "_law_folk" = true)
    (kk_cup_folk : PySem.W.keepIn K (.ref f_cup_folk) = true)
    (at_cup_ties : PySem.W.nsIn K mainGlobals "_law_ties" = some (some (.ref f_cup_ties)))
    (l_cup_ties : K.lookup f_cup_ties = some ⟨oc_cup_ties, od_cup_ties, .func (PySem.W.fnOf "_law_ties" "_law_ties" (defArgs s_cup_ties) (defBody s_cup_ties) (defScope s_cup_ties) .none kV_cup_ties dc_cup_ties pm_cup_ties an_cup_ties cd_cup_ties ct_cup_ties), sl_cup_ties⟩)
    (cc_cup_ties : PySem.W.codeIn K cd_cup_ties "_law_ties" = true)
    (kk_cup_ties : PySem.W.keepIn K (.ref f_cup_ties) = true)
    (at_cup_net : PySem.W.nsIn K mainGlobals "_law_net" = some (some (.ref f_cup_net)))
    (l_cup_net : K.lookup f_cup_net = some ⟨oc_cup_net, od_cup_net, .func (PySem.W.fnOf "_law_net" "_law_net" (defArgs s_cup_net) (defBody s_cup_net) (defScope s_cup_net) .none kV_cup_net dc_cup_net pm_cup_net an_cup_net cd_cup_net ct_cup_net), sl_cup_net⟩)
    (cc_cup_net : PySem.W.codeIn K cd_cup_net "_law_net" = true)
    (kk_cup_net : PySem.W.keepIn K (.ref f_cup_net) = true)
    (at_cup_made : PySem.W.nsIn K mainGlobals "_law_made" = some (some (.ref f_cup_made)))
    (l_cup_made : K.lookup f_cup_made = some ⟨oc_cup_made, od_cup_made, .func (PySem.W.fnOf "_law_made" "_law_made" (defArgs s_cup_made) (defBody s_cup_made) (defScope s_cup_made) .none kV_cup_made dc_cup_made pm_cup_made an_cup_made cd_cup_made ct_cup_made), sl_cup_made⟩)
    (cc_cup_made : PySem.W.codeIn K cd_cup_made "_law_made" = true)
    (kk_cup_made : PySem.W.keepIn K (.ref f_cup_made) = true)
    (at_cup_is_roadA : PySem.W.nsIn K mainGlobals "_law_is_road" = some (some (.ref f_cup_is_roadA)))
    (l_cup_is_roadA : K.lookup f_cup_is_roadA = some ⟨oc_cup_is_roadA, od_cup_is_roadA, .func (PySem.W.fnOf "_law_is_road" "_law_is_road" (defArgs s_cup_is_roadA) (defBody s_cup_is_roadA) (defScope s_cup_is_roadA) .none kV_cup_is_roadA dc_cup_is_roadA pm_cup_is_roadA an_cup_is_roadA cd_cup_is_roadA ct_cup_is_roadA), sl_cup_is_roadA⟩)
    (cc_cup_is_roadA : PySem.W.codeIn K cd_cup_is_roadA "_law_is_road" = true)
    (kk_cup_is_roadA : PySem.W.keepIn K (.ref f_cup_is_roadA) = true)
    (at_cup_is_partA : PySem.W.nsIn K mainGlobals "_law_is_parting" = some (some (.ref f_cup_is_partA)))
    (l_cup_is_partA : K.lookup f_cup_is_partA = some ⟨oc_cup_is_partA, od_cup_is_partA, .func (PySem.W.fnOf "_law_is_parting" "_law_is_parting" (defArgs s_cup_is_partA) (defBody s_cup_is_partA) (defScope s_cup_is_partA) .none kV_cup_is_partA dc_cup_is_partA pm_cup_is_partA an_cup_is_partA cd_cup_is_partA ct_cup_is_partA), sl_cup_is_partA⟩)
    (cc_cup_is_partA : PySem.W.codeIn K cd_cup_is_partA "_law_is_parting" = true)
    (kk_cup_is_partA : PySem.W.keepIn K (.ref f_cup_is_partA) = true)
    (at_cup_meets : PySem.W.nsIn K mainGlobals "_law_meets" = some (some (.ref f_cup_meets)))
    (l_cup_meets : K.lookup f_cup_meets = some ⟨oc_cup_meets, od_cup_meets, .func (PySem.W.fnOf "_law_meets" "_law_meets" (defArgs s_cup_meets) (defBody s_cup_meets) (defScope s_cup_meets) .none kV_cup_meets dc_cup_meets pm_cup_meets an_cup_meets cd_cup_meets ct_cup_meets), sl_cup_meets⟩)
    (cc_cup_meets : PySem.W.codeIn K cd_cup_meets "_law_meets" = true)
    (kk_cup_meets : PySem.W.keepIn K (.ref f_cup_meets) = true)
    (at_cup_is_free : PySem.W.nsIn K mainGlobals "_law_is_free" = some (some (.ref f_cup_is_free)))
    (l_cup_is_free : K.lookup f_cup_is_free = some ⟨oc_cup_is_free, od_cup_is_free, .func (PySem.W.fnOf "_law_is_free" "_law_is_free" (defArgs s_cup_is_free) (defBody s_cup_is_free) (defScope s_cup_is_free) .none kV_cup_is_free dc_cup_is_free pm_cup_is_free an_cup_is_free cd_cup_is_free ct_cup_is_free), sl_cup_is_free⟩)
    (cc_cup_is_free : PySem.W.codeIn K cd_cup_is_free "_law_is_free" = true)
    (kk_cup_is_free : PySem.W.keepIn K (.ref f_cup_is_free) = true)
    (at_cup_showsP : PySem.W.nsIn K mainGlobals "_law_shows" = some (some (.ref f_cup_showsP)))
    (l_cup_showsP : K.lookup f_cup_showsP = some ⟨oc_cup_showsP, od_cup_showsP, .func (PySem.W.fnOf "_law_shows" "_law_shows" (defArgs s_cup_showsP) (defBody s_cup_showsP) (defScope s_cup_showsP) .none kV_cup_showsP dc_cup_showsP pm_cup_showsP an_cup_showsP cd_cup_showsP ct_cup_showsP), sl_cup_showsP⟩)
    (cc_cup_showsP : PySem.W.codeIn K cd_cup_showsP "_law_shows" = true)
    (kk_cup_showsP : PySem.W.keepIn K (.ref f_cup_showsP) = true)
    (at_plan_shown : PySem.W.nsIn K mainGlobals "_law_shown" = some (some (.ref f_plan_shown)))
    (l_plan_shown : K.lookup f_plan_shown = some ⟨oc_plan_shown, od_plan_shown, .func (PySem.W.fnOf "_law_shown" "_law_shown" (defArgs s_plan_shown) (defBody s_plan_shown) (defScope s_plan_shown) .none kV_plan_shown dc_plan_shown pm_plan_shown an_plan_shown cd_plan_shown ct_plan_shown), sl_plan_shown⟩)
    (cc_plan_shown : PySem.W.codeIn K cd_plan_shown "_law_shown" = true)
    (kk_plan_shown : PySem.W.keepIn K (.ref f_plan_shown) = true)
    (at_plan_most_free : PySem.W.nsIn K mainGlobals "_law_most_free" = some (some (.ref f_plan_most_free)))
    (l_plan_most_free : K.lookup f_plan_most_free = some ⟨oc_plan_most_free, od_plan_most_free, .func (PySem.W.fnOf "_law_most_free" "_law_most_free" (defArgs s_plan_most_free) (defBody s_plan_most_free) (defScope s_plan_most_free) .none kV_plan_most_free dc_plan_most_free pm_plan_most_free an_plan_most_free cd_plan_most_free ct_plan_most_free), sl_plan_most_free⟩)
    (cc_plan_most_free : PySem.W.codeIn K cd_plan_most_free "_law_most_free" = true)
    (kk_plan_most_free : PySem.W.keepIn K (.ref f_plan_most_free) = true)
    (at_k21_right : PySem.W.nsIn K mainGlobals "_law_right" = some (some (.ref f_k21_right)))
    (l_k21_right : K.lookup f_k21_right = some ⟨oc_k21_right, od_k21_right, .func (PySem.W.fnOf "_law_right" "_law_right" (defArgs s_k21_right) (defBody s_k21_right) (defScope s_k21_right) .none kV_k21_right dc_k21_right pm_k21_right an_k21_right cd_k21_right ct_k21_right), sl_k21_right⟩)
    (cc_k21_right : PySem.W.codeIn K cd_k21_right "_law_right" = true)
    (kk_k21_right : PySem.W.keepIn K (.ref f_k21_right) = true)
    (at_k21_law : PySem.W.nsIn K mainGlobals "law" = some (some (.ref f_k21_law)))
    (l_k21_law : K.lookup f_k21_law = some ⟨oc_k21_law, od_k21_law, .func (PySem.W.fnOf "law" "law" (defArgs s_k21_law) (defBody s_k21_law) (defScope s_k21_law) .none kV_k21_law dc_k21_law pm_k21_law an_k21_law cd_k21_law ct_k21_law), sl_k21_law⟩)
    (cc_k21_law : PySem.W.codeIn K cd_k21_law "law" = true)
    (kk_k21_law : PySem.W.keepIn K (.ref f_k21_law) = true)
    (pt_places : PySem.W.findIn K (.ref C) "places" = some (some (.ref pa_places)))
    (at_g_places : PySem.W.recIn K pa_places "property" = some (.ref f_g_places :: pr_places))
    (pg_places : PySem.W.specialIn K (.ref pa_places) "__get__" = some (some (.builtin "property.__get__")))
    (pk_places : PySem.W.takesIn K (.ref pa_places) = some true)
    (l_g_places : K.lookup f_g_places = some ⟨oc_g_places, od_g_places, .func (PySem.W.fnOf "places" "Web.places" (defArgs s_g_places) (defBody s_g_places) (defScope s_g_places) .none kV_g_places dc_g_places pm_g_places an_g_places cd_g_places ct_g_places), sl_g_places⟩)
    (cc_g_places : PySem.W.codeIn K cd_g_places "Web.places" = true)
    (kk_g_places : PySem.W.keepIn K (.ref f_g_places) = true)
    (pt_ties : PySem.W.findIn K (.ref C) "ties" = some (some (.ref pa_ties)))
    (at_g_ties : PySem.W.recIn K pa_ties "property" = some (.ref f_g_ties :: pr_ties))
    (pg_ties : PySem.W.specialIn K (.ref pa_ties) "__get__" = some (some (.builtin "property.__get__")))
    (pk_ties : PySem.W.takesIn K (.ref pa_ties) = some true)
    (l_g_ties : K.lookup f_g_ties = some ⟨oc_g_ties, od_g_ties, .func (PySem.W.fnOf "ties" "Web.ties" (defArgs s_g_ties) (defBody s_g_ties) (defScope s_g_ties) .none kV_g_ties dc_g_ties pm_g_ties an_g_ties cd_g_ties ct_g_ties), sl_g_ties⟩)
    (cc_g_ties : PySem.W.codeIn K cd_g_ties "Web.ties" = true)
    (kk_g_ties : PySem.W.keepIn K (.ref f_g_ties) = true)
    (at_LETTERS : PySem.W.nsIn K mainGlobals "LETTERS" = some (some (.str "abcdefghijklmnopqrstuvwxyz" tk_LETTERS)))
    (at_MOST_PLACES : PySem.W.nsIn K mainGlobals "MOST_PLACES" = some (some (.int 40 tk_MOST_PLACES)))
    (at_MOST_TIES : PySem.W.nsIn K mainGlobals "MOST_TIES" = some (some (.int 200 tk_MOST_TIES)))
    (at_abs : PySem.W.nsIn K mainGlobals "abs" = some none)
    (at_all : PySem.W.nsIn K mainGlobals "all" = some none)
    (at_any : PySem.W.nsIn K mainGlobals "any" = some none)
    (at_bool : PySem.W.nsIn K mainGlobals "bool" = some none)
    (at_divmod : PySem.W.nsIn K mainGlobals "divmod" = some none)
    (at_enumerate : PySem.W.nsIn K mainGlobals "enumerate" = some none)
    (at_int : PySem.W.nsIn K mainGlobals "int" = some none)
    (at_isinstance : PySem.W.nsIn K mainGlobals "isinstance" = some none)
    (at_len : PySem.W.nsIn K mainGlobals "len" = some none)
    (at_list : PySem.W.nsIn K mainGlobals "list" = some none)
    (at_max : PySem.W.nsIn K mainGlobals "max" = some none)
    (at_min : PySem.W.nsIn K mainGlobals "min" = some none)
    (at_range : PySem.W.nsIn K mainGlobals "range" = some none)
    (at_repr : PySem.W.nsIn K mainGlobals "repr" = some none)
    (at_sorted : PySem.W.nsIn K mainGlobals "sorted" = some none)
    (at_str : PySem.W.nsIn K mainGlobals "str" = some none)
    (at_tuple : PySem.W.nsIn K mainGlobals "tuple" = some none)
    (at_zip : PySem.W.nsIn K mainGlobals "zip" = some none)
    : ∃ fd : FuncData, (∀ (s : Shared) (v : Value), BindsTo s fd ⟨[v], []⟩ [("_law_script", v)]) ∧ ∀ base : Heap, K.In base → base.Ns mainGlobals mg → FnD l.prog w K mg base 50 fa fd ["_law_script"] (LawSp 63) := by
  have e : fa = f_k21_law := by
    have e := hfa.symm.trans (PySem.W.mg_of X G at_k21_law)
    cases e
    rfl
  let T : Txt l.prog K mg := { a_Planner := C_Planner, m_Planner := PySem.W.mg_of X G atC_Planner, c_Planner := ⟨pgC_Planner, hdC_Planner, poC_Planner, saC_Planner⟩, id_Planner := ⟨imC_Planner, ieC_Planner, inC_Planner⟩, nb_Planner := nobool_Planner, n_here := n_here, n_past := n_past, a_Web := C, m_Web := PySem.W.mg_of X G atC, c_Web := ⟨pgC, hdC, poC, saC⟩, n_marks := n_marks, n_pairs := n_pairs, n_row := n_row, ins_Web := ⟨⟨pgC, hdC, poC, saC⟩, icl, isp, itk, imr⟩, kit0 := kit0_of kcls kty ks0 ks1 ks2 ks3 ks4 ks5 ks6, kit1 := kit1_of C, a_is_name := f_is_name, d_is_name := _, F_is_name := fun_mk (st := s_is_name) l_is_name cc_is_name kk_is_name, m_is_name := PySem.W.mg_of X G at_is_name, a_wrong_place := f_wrong_place, d_wrong_place := _, F_wrong_place := fun_mk (st := s_wrong_place) l_wrong_place cc_wrong_place kk_wrong_place, m_wrong_place := PySem.W.mg_of X G at_wrong_place, a_is_pair := f_is_pair, d_is_pair := _, F_is_pair := fun_mk (st := s_is_pair) l_is_pair cc_is_pair kk_is_pair, m_is_pair := PySem.W.mg_of X G at_is_pair, a_wrong_tie := f_wrong_tie, d_wrong_tie := _, F_wrong_tie := fun_mk (st := s_wrong_tie) l_wrong_tie cc_wrong_tie kk_wrong_tie, m_wrong_tie := PySem.W.mg_of X G at_wrong_tie, a_check_places := f_check_places, d_check_places := _, F_check_places := fun_mk (st := s_check_places) l_check_places cc_check_places kk_check_places, m_check_places := PySem.W.mg_of X G at_check_places, a_check_ties := f_check_ties, d_check_ties := _, F_check_ties := fun_mk (st := s_check_ties) l_check_ties cc_check_ties kk_check_ties, m_check_ties := PySem.W.mg_of X G at_check_ties, a_Web_init := f_Web_init, d_Web_init := _, v_Web_init := .ref da_Web_init, F_Web_init := ⟨⟨_, _, _, _, _, _, _, _, _, _, rfl, l_Web_init, cc_Web_init, .inr ⟨by simp, _, _, [dv_Web_init], _, rfl, dl_Web_init, rfl, .cons dr_Web_init .nil⟩, .inl rfl⟩, kk_Web_init⟩, k_Web := ⟨mkC, at_Web_init, i_Web_init, kcC⟩, a_Web_has_tie := f_Web_has_tie, d_Web_has_tie := _, F_Web_has_tie := fun_mk (st := s_Web_has_tie) l_Web_has_tie cc_Web_has_tie kk_Web_has_tie, h_has_tie := ⟨at_Web_has_tie, i_Web_has_tie, kk_Web_has_tie⟩, a_Web_eq := f_Web_eq, d_Web_eq := _, F_Web_eq := fun_mk (st := s_Web_eq) l_Web_eq cc_Web_eq kk_Web_eq, h___eq__ := ⟨at_Web_eq, i_Web_eq, kk_Web_eq⟩, a_Web_ne := f_Web_ne, d_Web_ne := _, F_Web_ne := fun_mk (st := s_Web_ne) l_Web_ne cc_Web_ne kk_Web_ne, h___ne__ := ⟨at_Web_ne, i_Web_ne, kk_Web_ne⟩, a_check_web := f_check_web, d_check_web := _, F_check_web := fun_mk (st := s_check_web) l_check_web cc_check_web kk_check_web, m_check_web := PySem.W.mg_of X G at_check_web, a_Web_len := f_Web_len, d_Web_len := _, F_Web_len := fun_mk (st := s_Web_len) l_Web_len cc_Web_len kk_Web_len, h___len__ := ⟨at_Web_len, i_Web_len, kk_Web_len⟩, a_is_road_of := f_is_road_of, d_is_road_of := _, F_is_road_of := fun_mk (st := s_is_road_of) l_is_road_of cc_is_road_of kk_is_road_of, m_is_road_of := PySem.W.mg_of X G at_is_road_of, a_is_parting_of := f_is_parting_of, d_is_parting_of := _, F_is_parting_of := fun_mk (st := s_is_parting_of) l_is_parting_of cc_is_parting_of kk_is_parting_of, m_is_parting_of := PySem.W.mg_of X G at_is_parting_of, a_check_parting := f_check_parting, d_check_parting := _, F_check_parting := fun_mk (st := s_check_parting) l_check_parting cc_check_parting kk_check_parting, m_check_parting := PySem.W.mg_of X G at_check_parting, a_singles_of := f_singles_of, d_singles_of := _, F_singles_of := fun_mk (st := s_singles_of) l_singles_of cc_singles_of kk_singles_of, m_singles_of := PySem.W.mg_of X G at_singles_of, a_tied_lasts := f_tied_lasts, d_tied_lasts := _, F_tied_lasts := fun_mk (st := s_tied_lasts) l_tied_lasts cc_tied_lasts kk_tied_lasts, m_tied_lasts := PySem.W.mg_of X G at_tied_lasts, a_without := f_without, d_without := _, F_without := fun_mk (st := s_without) l_without cc_without kk_without, m_without := PySem.W.mg_of X G at_without, a_behind := f_behind, d_behind := _, F_behind := fun_mk (st := s_behind) l_behind cc_behind kk_behind, m_behind := PySem.W.mg_of X G at_behind, a_given_back := f_given_back, d_given_back := _, F_given_back := fun_mk (st := s_given_back) l_given_back cc_given_back kk_given_back, m_given_back := PySem.W.mg_of X G at_given_back, a_step_of := f_step_of, d_step_of := _, F_step_of := fun_mk (st := s_step_of) l_step_of cc_step_of kk_step_of, m_step_of := PySem.W.mg_of X G at_step_of, a_as_lists := f_as_lists, d_as_lists := _, F_as_lists := fun_mk (st := s_as_lists) l_as_lists cc_as_lists kk_as_lists, m_as_lists := PySem.W.mg_of X G at_as_lists, a_as_tuples := f_as_tuples, d_as_tuples := _, F_as_tuples := fun_mk (st := s_as_tuples) l_as_tuples cc_as_tuples kk_as_tuples, m_as_tuples := PySem.W.mg_of X G at_as_tuples, a_improved_of := f_improved_of, d_improved_of := _, F_improved_of := fun_mk (st := s_improved_of) l_improved_of cc_improved_of kk_improved_of, m_improved_of := PySem.W.mg_of X G at_improved_of, a_is_roadA := f_is_roadA, d_is_roadA := _, F_is_roadA := fun_mk (st := s_is_roadA) l_is_roadA cc_is_roadA kk_is_roadA, m_is_roadA := PySem.W.mg_of X G at_is_roadA, a_is_partA := f_is_partA, d_is_partA := _, F_is_partA := fun_mk (st := s_is_partA) l_is_partA cc_is_partA kk_is_partA, m_is_partA := PySem.W.mg_of X G at_is_partA, a_is_partA2 := f_is_partA2, d_is_partA2 := _, F_is_partA2 := fun_mk (st := s_is_partA2) l_is_partA2 cc_is_partA2 kk_is_partA2, m_is_partA2 := PySem.W.mg_of X G at_is_partA2, a_is_tied := f_is_tied, d_is_tied := _, F_is_tied := fun_mk (st := s_is_tied) l_is_tied cc_is_tied kk_is_tied, m_is_tied := PySem.W.mg_of X G at_is_tied, a_is_free := f_is_free, d_is_free := _, F_is_free := fun_mk (st := s_is_free) l_is_free cc_is_free kk_is_free, m_is_free := PySem.W.mg_of X G at_is_free, a_is_witG := f_is_witG, d_is_witG := _, F_is_witG := fun_mk (st := s_is_witG) l_is_witG cc_is_witG kk_is_witG, m_is_witG := PySem.W.mg_of X G at_is_witG, a_is_witG2 := f_is_witG2, d_is_witG2 := _, F_is_witG2 := fun_mk (st := s_is_witG2) l_is_witG2 cc_is_witG2 kk_is_witG2, m_is_witG2 := PySem.W.mg_of X G at_is_witG2, a_Planner_init := f_Planner_init, d_Planner_init := _, F_Planner_init := fun_mk (st := s_Planner_init) l_Planner_init cc_Planner_init kk_Planner_init, k_Planner := ⟨mkC_Planner, at_Planner_init, i_Planner_init, kcC_Planner⟩, a_Planner_web := f_Planner_web, d_Planner_web := _, F_Planner_web := fun_mk (st := s_Planner_web) l_Planner_web cc_Planner_web kk_Planner_web, q_Planner_web := pa_Planner_web, p_Planner_web := ⟨pt_Planner_web, pg_Planner_web, pk_Planner_web, _, at_Planner_web⟩, a_Planner_parting := f_Planner_parting, d_Planner_parting := _, F_Planner_parting := fun_mk (st := s_Planner_parting) l_Planner_parting cc_Planner_parting kk_Planner_parting, q_Planner_parting := pa_Planner_parting, p_Planner_parting := ⟨pt_Planner_parting, pg_Planner_parting, pk_Planner_parting, _, at_Planner_parting⟩, a_Planner_witness := f_Planner_witness, d_Planner_witness := _, F_Planner_witness := fun_mk (st := s_Planner_witness) l_Planner_witness cc_Planner_witness kk_Planner_witness, q_Planner_witness := pa_Planner_witness, p_Planner_witness := ⟨pt_Planner_witness, pg_Planner_witness, pk_Planner_witness, _, at_Planner_witness⟩, a_Planner_changes := f_Planner_changes, d_Planner_changes := _, F_Planner_changes := fun_mk (st := s_Planner_changes) l_Planner_changes cc_Planner_changes kk_Planner_changes, q_Planner_changes := pa_Planner_changes, p_Planner_changes := ⟨pt_Planner_changes, pg_Planner_changes, pk_Planner_changes, _, at_Planner_changes⟩, a_Planner_len := f_Planner_len, d_Planner_len := _, F_Planner_len := fun_mk (st := s_Planner_len) l_Planner_len cc_Planner_len kk_Planner_len, h_Planner___len__ := ⟨at_Planner_len, i_Planner_len, kk_Planner_len⟩, a_cup_cup := f_cup_cup, d_cup_cup := _, F_cup_cup := fun_mk (st := s_cup_cup) l_cup_cup cc_cup_cup kk_cup_cup, m_cup_cup := PySem.W.mg_of X G at_cup_cup, a_cup_sip := f_cup_sip, d_cup_sip := _, F_cup_sip := fun_mk (st := s_cup_sip) l_cup_sip cc_cup_sip kk_cup_sip, m_cup_sip := PySem.W.mg_of X G at_cup_sip, a_cup_of := f_cup_of, d_cup_of := _, F_cup_of := fun_mk (st := s_cup_of) l_cup_of cc_cup_of kk_cup_of, m_cup_of := PySem.W.mg_of X G at_cup_of, a_cup_folk := f_cup_folk, d_cup_folk := _, F_cup_folk := fun_mk (st := s_cup_folk) l_cup_folk cc_cup_folk kk_cup_folk, m_cup_folk := PySem.W.mg_of X G at_cup_folk, a_cup_ties := f_cup_ties, d_cup_ties := _, F_cup_ties := fun_mk (st := s_cup_ties) l_cup_ties cc_cup_ties kk_cup_ties, m_cup_ties := PySem.W.mg_of X G at_cup_ties, a_cup_net := f_cup_net, d_cup_net := _, F_cup_net := fun_mk (st := s_cup_net) l_cup_net cc_cup_net kk_cup_net, m_cup_net := PySem.W.mg_of X G at_cup_net, a_cup_made := f_cup_made, d_cup_made := _, F_cup_made := fun_mk (st := s_cup_made) l_cup_made cc_cup_made kk_cup_made, m_cup_made := PySem.W.mg_of X G at_cup_made, a_cup_is_roadA := f_cup_is_roadA, d_cup_is_roadA := _, F_cup_is_roadA := fun_mk (st := s_cup_is_roadA) l_cup_is_roadA cc_cup_is_roadA kk_cup_is_roadA, m_cup_is_roadA := PySem.W.mg_of X G at_cup_is_roadA, a_cup_is_partA := f_cup_is_partA, d_cup_is_partA := _, F_cup_is_partA := fun_mk (st := s_cup_is_partA) l_cup_is_partA cc_cup_is_partA kk_cup_is_partA, m_cup_is_partA := PySem.W.mg_of X G at_cup_is_partA, a_cup_meets := f_cup_meets, d_cup_meets := _, F_cup_meets := fun_mk (st := s_cup_meets) l_cup_meets cc_cup_meets kk_cup_meets, m_cup_meets := PySem.W.mg_of X G at_cup_meets, a_cup_is_free := f_cup_is_free, d_cup_is_free := _, F_cup_is_free := fun_mk (st := s_cup_is_free) l_cup_is_free cc_cup_is_free kk_cup_is_free, m_cup_is_free := PySem.W.mg_of X G at_cup_is_free, a_cup_showsP := f_cup_showsP, d_cup_showsP := _, F_cup_showsP := fun_mk (st := s_cup_showsP) l_cup_showsP cc_cup_showsP kk_cup_showsP, m_cup_showsP := PySem.W.mg_of X G at_cup_showsP, a_plan_shown := f_plan_shown, d_plan_shown := _, F_plan_shown := fun_mk (st := s_plan_shown) l_plan_shown cc_plan_shown kk_plan_shown, m_plan_shown := PySem.W.mg_of X G at_plan_shown, a_plan_most_free := f_plan_most_free, d_plan_most_free := _, F_plan_most_free := fun_mk (st := s_plan_most_free) l_plan_most_free cc_plan_most_free kk_plan_most_free, m_plan_most_free := PySem.W.mg_of X G at_plan_most_free, a_k21_right := f_k21_right, d_k21_right := _, F_k21_right := fun_mk (st := s_k21_right) l_k21_right cc_k21_right kk_k21_right, m_k21_right := PySem.W.mg_of X G at_k21_right, a_k21_law := f_k21_law, d_k21_law := _, F_k21_law := fun_mk (st := s_k21_law) l_k21_law cc_k21_law kk_k21_law, m_k21_law := PySem.W.mg_of X G at_k21_law, a_g_places := f_g_places, d_g_places := _, F_g_places := fun_mk (st := s_g_places) l_g_places cc_g_places kk_g_places, q_places := pa_places, p_places := ⟨pt_places, pg_places, pk_places, _, at_g_places⟩, a_g_ties := f_g_ties, d_g_ties := _, F_g_ties := fun_mk (st := s_g_ties) l_g_ties cc_g_ties kk_g_ties, q_ties := pa_ties, p_ties := ⟨pt_ties, pg_ties, pk_ties, _, at_g_ties⟩, t_LETTERS := tk_LETTERS, m_LETTERS := PySem.W.mg_of X G at_LETTERS, t_MOST_PLACES := tk_MOST_PLACES, m_MOST_PLACES := PySem.W.mg_of X G at_MOST_PLACES, t_MOST_TIES := tk_MOST_TIES, m_MOST_TIES := PySem.W.mg_of X G at_MOST_TIES, z_abs := PySem.W.mg_none_of X G at_abs, z_all := PySem.W.mg_none_of X G at_all, z_any := PySem.W.mg_none_of X G at_any, z_bool := PySem.W.mg_none_of X G at_bool, z_divmod := PySem.W.mg_none_of X G at_divmod, z_enumerate := PySem.W.mg_none_of X G at_enumerate, z_int := PySem.W.mg_none_of X G at_int, z_isinstance := PySem.W.mg_none_of X G at_isinstance, z_len := PySem.W.mg_none_of X G at_len, z_list := PySem.W.mg_none_of X G at_list, z_max := PySem.W.mg_none_of X G at_max, z_min := PySem.W.mg_none_of X G at_min, z_range := PySem.W.mg_none_of X G at_range, z_repr := PySem.W.mg_none_of X G at_repr, z_sorted := PySem.W.mg_none_of X G at_sorted, z_str := PySem.W.mg_none_of X G at_str, z_tuple := PySem.W.mg_none_of X G at_tuple, z_zip := PySem.W.mg_none_of X G at_zip }
  rw [e]
  exact ⟨T.d_k21_law, fun s v => .of_eq rfl, fun base _ _ => ok_k21_law T⟩
end L2.DL
open PySem PySem.W PyProof.Rows
set_option maxRecDepth 100000 in
set_option maxHeartbeats 0 in
theorem PySem.Challenge.cw_fewroads_k21_whole_planners_made_holds : PySem.Challenge.rw_fewroads_k21_whole_planners_made.Holds := by
  w_on; o_law; k_head; (case hw => w_witness2)
  k_fill
  refine L2.DL.walk_G (l := PySem.Challenge.rw_fewroads_k21_whole_planners_made) (n := 63) (k := 50) (x := "_law_script") rfl (by decide) rfl ⟨rfl, by decide, by decide⟩ (fun w h Y => PySem.W.kIn_of Y) ?F
  case F =>
    intro w mg fa h KX G hmg
    refine' L2.DL.all_mk (l := PySem.Challenge.rw_fewroads_k21_whole_planners_made) (w := w) KX G hmg ?atC_Planner ?pgC_Planner ?hdC_Planner ?poC_Planner ?saC_Planner ?mkC_Planner ?kcC_Planner ?imC_Planner ?ieC_Planner ?inC_Planner ?nobool_Planner ?n_here ?n_past ?atC ?pgC ?hdC ?poC ?saC ?mkC ?kcC ?n_marks ?n_pairs ?n_row ?icl ?isp ?itk ?imr ?kcls ?kty ?ks0 ?ks1 ?ks2 ?ks3 ?ks4 ?ks5 ?ks6 ?at_is_name ?l_is_name ?cc_is_name ?kk_is_name ?at_wrong_place ?l_wrong_place ?cc_wrong_place ?kk_wrong_place ?at_is_pair ?l_is_pair ?cc_is_pair ?kk_is_pair ?at_wrong_tie ?l_wrong_tie ?cc_wrong_tie ?kk_wrong_tie ?at_check_places ?l_check_places ?cc_check_places ?kk_check_places ?at_check_ties ?l_check_ties ?cc_check_ties ?kk_check_ties ?at_Web_init ?i_Web_init ?l_Web_init ?cc_Web_init ?kk_Web_init ?dl_Web_init ?dr_Web_init ?at_Web_has_tie ?i_Web_has_tie ?l_Web_has_tie ?cc_Web_has_tie ?kk_Web_has_tie ?at_Web_eq ?i_Web_eq ?l_Web_eq ?cc_Web_eq ?kk_Web_eq ?at_Web_ne ?i_Web_ne ?l_Web_ne ?cc_Web_ne ?kk_Web_ne ?at_check_web ?l_check_web ?cc_check_web ?kk_check_web ?at_Web_len ?i_Web_len ?l_Web_len ?cc_Web_len ?kk_Web_len ?at_is_road_of ?l_is_road_of ?cc_is_road_of ?kk_is_road_of ?at_is_parting_of ?l_is_parting_of ?cc_is_parting_of ?kk_is_parting_of ?at_check_parting ?l_check_parting ?cc_check_parting ?kk_check_parting ?at_singles_of ?l_singles_of ?cc_singles_of ?kk_singles_of ?at_tied_lasts ?l_tied_lasts ?cc_tied_lasts ?kk_tied_lasts ?at_without ?l_without ?cc_without ?kk_without ?at_behind ?l_behind ?cc_behind ?kk_behind ?at_given_back ?l_given_back ?cc_given_back ?kk_given_back ?at_step_of ?l_step_of ?cc_step_of ?kk_step_of ?at_as_lists ?l_as_lists ?cc_as_lists ?kk_as_lists ?at_as_tuples ?l_as_tuples ?cc_as_tuples ?kk_as_tuples ?at_improved_of ?l_improved_of ?cc_improved_of ?kk_improved_of ?at_is_roadA ?l_is_roadA ?cc_is_roadA ?kk_is_roadA ?at_is_partA ?l_is_partA ?cc_is_partA ?kk_is_partA ?at_is_partA2 ?l_is_partA2 ?cc_is_partA2 ?kk_is_partA2 ?at_is_tied ?l_is_tied ?cc_is_tied ?kk_is_tied ?at_is_free ?l_is_free ?cc_is_free ?kk_is_free ?at_is_witG ?l_is_witG ?cc_is_witG ?kk_is_witG ?at_is_witG2 ?l_is_witG2 ?cc_is_witG2 ?kk_is_witG2 ?at_Planner_init ?i_Planner_init ?l_Planner_init ?cc_Planner_init ?kk_Planner_init ?pt_Planner_web ?at_Planner_web ?pg_Planner_web ?pk_Planner_web ?l_Planner_web ?cc_Planner_web ?kk_Planner_web ?pt_Planner_parting ?at_Planner_parting ?pg_Planner_parting ?pk_Planner_parting ?l_Planner_parting ?cc_Planner_parting ?kk_Planner_parting ?pt_Planner_witness ?at_Planner_witness ?pg_Planner_witness ?pk_Planner_witness ?l_Planner_witness ?cc_Planner_witness ?kk_Planner_witness ?pt_Planner_changes ?at_Planner_changes ?pg_Planner_changes ?pk_Planner_changes ?l_Planner_changes ?cc_Planner_changes ?kk_Planner_changes ?at_Planner_len ?i_Planner_len ?l_Planner_len ?cc_Planner_len ?kk_Planner_len ?at_cup_cup ?l_cup_cup ?cc_cup_cup ?kk_cup_cup ?at_cup_sip ?l_cup_sip ?cc_cup_sip ?kk_cup_sip ?at_cup_of ?l_cup_of ?cc_cup_of ?kk_cup_of ?at_cup_folk ?l_cup_folk ?cc_cup_folk ?kk_cup_folk ?at_cup_ties ?l_cup_ties ?cc_cup_ties ?kk_cup_ties ?at_cup_net ?l_cup_net ?cc_cup_net ?kk_cup_net ?at_cup_made ?l_cup_made ?cc_cup_made ?kk_cup_made ?at_cup_is_roadA ?l_cup_is_roadA ?cc_cup_is_roadA ?kk_cup_is_roadA ?at_cup_is_partA ?l_cup_is_partA ?cc_cup_is_partA ?kk_cup_is_partA ?at_cup_meets ?l_cup_meets ?cc_cup_meets ?kk_cup_meets ?at_cup_is_free ?l_cup_is_free ?cc_cup_is_free ?kk_cup_is_free ?at_cup_showsP ?l_cup_showsP ?cc_cup_showsP ?kk_cup_showsP ?at_plan_shown ?l_plan_shown ?cc_plan_shown ?kk_plan_shown ?at_plan_most_free ?l_plan_most_free ?cc_plan_most_free ?kk_plan_most_free ?at_k21_right ?l_k21_right ?cc_k21_right ?kk_k21_right ?at_k21_law ?l_k21_law ?cc_k21_law ?kk_k21_law ?pt_places ?at_g_places ?pg_places ?pk_places ?l_g_places ?cc_g_places ?kk_g_places ?pt_ties ?at_g_ties ?pg_ties ?pk_ties ?l_g_ties ?cc_g_ties ?kk_g_ties ?at_LETTERS ?at_MOST_PLACES ?at_MOST_TIES ?at_abs ?at_all ?at_any ?at_bool ?at_divmod ?at_enumerate ?at_int ?at_isinstance ?at_len ?at_list ?at_max ?at_min ?at_range ?at_repr ?at_sorted ?at_str ?at_tuple ?at_zip
    (case atC_Planner => k_is)
    (case pgC_Planner => k_is)
    (case hdC_Planner => k_is)
    (case poC_Planner => k_is)
    (case saC_Planner => k_is)
    (case mkC_Planner => k_is)
    (case kcC_Planner => k_is)
    (case imC_Planner => k_is)
    (case ieC_Planner => k_is)
    (case inC_Planner => k_is)
    (case nobool_Planner => k_is)
    (case n_here => k_is)
    (case n_past => k_is)
    (case atC => k_is)
    (case pgC => k_is)
    (case hdC => k_is)
    (case poC => k_is)
    (case saC => k_is)
    (case mkC => k_is)
    (case kcC => k_is)
    (case n_marks => k_is)
    (case n_pairs => k_is)
    (case n_row => k_is)
    (case icl => k_is)
    (case isp => k_is)
    (case itk => k_is)
    (case imr => k_is)
    (case kcls => k_is)
    (case kty => k_is)
    (case ks0 => k_is)
    (case ks1 => k_is)
    (case ks2 => k_is)
    (case ks3 => k_is)
    (case ks4 => k_is)
    (case ks5 => k_is)
    (case ks6 => k_is)
    (case at_is_name => k_is)
    (case l_is_name => k_is)
    (case cc_is_name => k_is)
    (case kk_is_name => k_is)
    (case at_wrong_place => k_is)
    (case l_wrong_place => k_is)
    (case cc_wrong_place => k_is)
    (case kk_wrong_place => k_is)
    (case at_is_pair => k_is)
    (case l_is_pair => k_is)
    (case cc_is_pair => k_is)
    (case kk_is_pair => k_is)
    (case at_wrong_tie => k_is)
    (case l_wrong_tie => k_is)
    (case cc_wrong_tie => k_is)
    (case kk_wrong_tie => k_is)
    (case at_check_places => k_is)
    (case l_check_places => k_is)
    (case cc_check_places => k_is)
    (case kk_check_places => k_is)
    (case at_check_ties => k_is)
    (case l_check_ties => k_is)
    (case cc_check_ties => k_is)
    (case kk_check_ties => k_is)
    (case at_Web_init => k_is)
    (case i_Web_init => k_is)
    (case l_Web_init => k_is)
    (case cc_Web_init => k_is)
    (case kk_Web_init => k_is)
    (case dl_Web_init => k_is)
    (case dr_Web_init => rfl)
    (case at_Web_has_tie => k_is)
    (case i_Web_has_tie => k_is)
    (case l_Web_has_tie => k_is)
    (case cc_Web_has_tie => k_is)
    (case kk_Web_has_tie => k_is)
    (case at_Web_eq => k_is)
    (case i_Web_eq => k_is)
    (case l_Web_eq => k_is)
    (case cc_Web_eq => k_is)
    (case kk_Web_eq => k_is)
    (case at_Web_ne => k_is)
    (case i_Web_ne => k_is)
    (case l_Web_ne => k_is)
    (case cc_Web_ne => k_is)
    (case kk_Web_ne => k_is)
    (case at_check_web => k_is)
    (case l_check_web => k_is)
    (case cc_check_web => k_is)
    (case kk_check_web => k_is)
    (case at_Web_len => k_is)
    (case i_Web_len => k_is)
    (case l_Web_len => k_is)
    (case cc_Web_len => k_is)
    (case kk_Web_len => k_is)
    (case at_is_road_of => k_is)
    (case l_is_road_of => k_is)
    (case cc_is_road_of => k_is)
    (case kk_is_road_of => k_is)
    (case at_is_parting_of => k_is)
    (case l_is_parting_of => k_is)
    (case cc_is_parting_of => k_is)
    (case kk_is_parting_of => k_is)
    (case at_check_parting => k_is)
    (case l_check_parting => k_is)
    (case cc_check_parting => k_is)
    (case kk_check_parting => k_is)
    (case at_singles_of => k_is)
    (case l_singles_of => k_is)
    (case cc_singles_of => k_is)
    (case kk_singles_of => k_is)
    (case at_tied_lasts => k_is)
    (case l_tied_lasts => k_is)
    (case cc_tied_lasts => k_is)
    (case kk_tied_lasts => k_is)
    (case at_without => k_is)
    (case l_without => k_is)
    (case cc_without => k_is)
    (case kk_without => k_is)
    (case at_behind => k_is)
    (case l_behind => k_is)
    (case cc_behind => k_is)
    (case kk_behind => k_is)
    (case at_given_back => k_is)
    (case l_given_back => k_is)
    (case cc_given_back => k_is)
    (case kk_given_back => k_is)
    (case at_step_of => k_is)
    (case l_step_of => k_is)
    (case cc_step_of => k_is)
    (case kk_step_of => k_is)
    (case at_as_lists => k_is)
    (case l_as_lists => k_is)
    (case cc_as_lists => k_is)
    (case kk_as_lists => k_is)
    (case at_as_tuples => k_is)
    (case l_as_tuples => k_is)
    (case cc_as_tuples => k_is)
    (case kk_as_tuples => k_is)
    (case at_improved_of => k_is)
    (case l_improved_of => k_is)
    (case cc_improved_of => k_is)
    (case kk_improved_of => k_is)
    (case at_is_roadA => k_is)
    (case l_is_roadA => k_is)
    (case cc_is_roadA => k_is)
    (case kk_is_roadA => k_is)
    (case at_is_partA => k_is)
    (case l_is_partA => k_is)
    (case cc_is_partA => k_is)
    (case kk_is_partA => k_is)
    (case at_is_partA2 => k_is)
    (case l_is_partA2 => k_is)
    (case cc_is_partA2 => k_is)
    (case kk_is_partA2 => k_is)
    (case at_is_tied => k_is)
    (case l_is_tied => k_is)
    (case cc_is_tied => k_is)
    (case kk_is_tied => k_is)
    (case at_is_free => k_is)
    (case l_is_free => k_is)
    (case cc_is_free => k_is)
    (case kk_is_free => k_is)
    (case at_is_witG => k_is)
    (case l_is_witG => k_is)
    (case cc_is_witG => k_is)
    (case kk_is_witG => k_is)
    (case at_is_witG2 => k_is)
    (case l_is_witG2 => k_is)
    (case cc_is_witG2 => k_is)
    (case kk_is_witG2 => k_is)
    (case at_Planner_init => k_is)
    (case i_Planner_init => k_is)
    (case l_Planner_init => k_is)
    (case cc_Planner_init => k_is)
    (case kk_Planner_init => k_is)
    (case pt_Planner_web => k_is)
    (case at_Planner_web => k_is)
    (case pg_Planner_web => k_is)
    (case pk_Planner_web => k_is)
    (case l_Planner_web => k_is)
    (case cc_Planner_web => k_is)
    (case kk_Planner_web => k_is)
    (case pt_Planner_parting => k_is)
    (case at_Planner_parting => k_is)
    (case pg_Planner_parting => k_is)
    (case pk_Planner_parting => k_is)
    (case l_Planner_parting => k_is)
    (case cc_Planner_parting => k_is)
    (case kk_Planner_parting => k_is)
    (case pt_Planner_witness => k_is)
    (case at_Planner_witness => k_is)
    (case pg_Planner_witness => k_is)
    (case pk_Planner_witness => k_is)
    (case l_Planner_witness => k_is)
    (case cc_Planner_witness => k_is)
    (case kk_Planner_witness => k_is)
    (case pt_Planner_changes => k_is)
    (case at_Planner_changes => k_is)
    (case pg_Planner_changes => k_is)
    (case pk_Planner_changes => k_is)
    (case l_Planner_changes => k_is)
    (case cc_Planner_changes => k_is)
    (case kk_Planner_changes => k_is)
    (case at_Planner_len => k_is)
    (case i_Planner_len => k_is)
    (case l_Planner_len => k_is)
    (case cc_Planner_len => k_is)
    (case kk_Planner_len => k_is)
    (case at_cup_cup => k_is)
    (case l_cup_cup => k_is)
    (case cc_cup_cup => k_is)
    (case kk_cup_cup => k_is)
    (case at_cup_sip => k_is)
    (case l_cup_sip => k_is)
    (case cc_cup_sip => k_is)
    (case kk_cup_sip => k_is)
    (case at_cup_of => k_is)
    (case l_cup_of => k_is)
    (case cc_cup_of => k_is)
    (case kk_cup_of => k_is)
    (case at_cup_folk => k_is)
    (case l_cup_folk => k_is)
    (case cc_cup_folk => k_is)
    (case kk_cup_folk => k_is)
    (case at_cup_ties => k_is)
    (case l_cup_ties => k_is)
    (case cc_cup_ties => k_is)
    (case kk_cup_ties => k_is)
    (case at_cup_net => k_is)
    (case l_cup_net => k_is)
    (case cc_cup_net => k_is)
    (case kk_cup_net => k_is)
    (case at_cup_made => k_is)
    (case l_cup_made => k_is)
    (case cc_cup_made => k_is)
    (case kk_cup_made => k_is)
    (case at_cup_is_roadA => k_is)
    (case l_cup_is_roadA => k_is)
    (case cc_cup_is_roadA => k_is)
    (case kk_cup_is_roadA => k_is)
    (case at_cup_is_partA => k_is)
    (case l_cup_is_partA => k_is)
    (case cc_cup_is_partA => k_is)
    (case kk_cup_is_partA => k_is)
    (case at_cup_meets => k_is)
    (case l_cup_meets => k_is)
    (case cc_cup_meets => k_is)
    (case kk_cup_meets => k_is)
    (case at_cup_is_free => k_is)
    (case l_cup_is_free => k_is)
    (case cc_cup_is_free => k_is)
    (case kk_cup_is_free => k_is)
    (case at_cup_showsP => k_is)
    (case l_cup_showsP => k_is)
    (case cc_cup_showsP => k_is)
    (case kk_cup_showsP => k_is)
    (case at_plan_shown => k_is)
    (case l_plan_shown => k_is)
    (case cc_plan_shown => k_is)
    (case kk_plan_shown => k_is)
    (case at_plan_most_free => k_is)
    (case l_plan_most_free => k_is)
    (case cc_plan_most_free => k_is)
    (case kk_plan_most_free => k_is)
    (case at_k21_right => k_is)
    (case l_k21_right => k_is)
    (case cc_k21_right => k_is)
    (case kk_k21_right => k_is)
    (case at_k21_law => k_is)
    (case l_k21_law => k_is)
    (case cc_k21_law => k_is)
    (case kk_k21_law => k_is)
    (case pt_places => k_is)
    (case at_g_places => k_is)
    (case pg_places => k_is)
    (case pk_places => k_is)
    (case l_g_places => k_is)
    (case cc_g_places => k_is)
    (case kk_g_places => k_is)
    (case pt_ties => k_is)
    (case at_g_ties => k_is)
    (case pg_ties => k_is)
    (case pk_ties => k_is)
    (case l_g_ties => k_is)
    (case cc_g_ties => k_is)
    (case kk_g_ties => k_is)
    (case at_LETTERS => k_is)
    (case at_MOST_PLACES => k_is)
    (case at_MOST_TIES => k_is)
    (case at_abs => k_is)
    (case at_all => k_is)
    (case at_any => k_is)
    (case at_bool => k_is)
    (case at_divmod => k_is)
    (case at_enumerate => k_is)
    (case at_int => k_is)
    (case at_isinstance => k_is)
    (case at_len => k_is)
    (case at_list => k_is)
    (case at_max => k_is)
    (case at_min => k_is)
    (case at_range => k_is)
    (case at_repr => k_is)
    (case at_sorted => k_is)
    (case at_str => k_is)
    (case at_tuple => k_is)
    (case at_zip => k_is)
