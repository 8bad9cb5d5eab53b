import PyProof.Rows.All
import Wide.All
import OpenK.AllK
import Wide.FinOn
import HandS.ForMost
import HandS.Lambda
import HandS.Property
import HandS.Defaults
import HandS.TupAny
import HandS.Deep
import HandS.IsInst
import HandS.Style
import HandS.More
import HandS.TupLen
import HandS.Small
import HandS.DictTup
import KE.GoesEnum
import HandS.Iter
import HandS.DictComp
import HandS.Strs
import HandS.Ends
import HandS.SlotsOwn
import HandS.Text
import HandS.Star
import KE.KCallOwn
import KE.KRevSl
import PyProof.Rows.SortShellAny
import PyProof.TupleOfSeq
import HandS.Zip
import HandS.FStr
import HandS.MakeKw
import HandS.DictSub
import HandS.Conv
import HandS.TryOnly
import HandS.SetFor
import HandS.TupMul
import HandS.Set
import KE.KDictZip
import HandS.SetKeys
import KE.KDictWalk
import KE.KEqDict
import KE.KDictList
import HandS.ClsMeth
import HandS.OwnEq
import KE.KExcSuper
import HandS.Exc
import HandS.ExcIs
import HandS.EndTab
import HandS.ExcInit
import KE.KTryMore
import KE.KExcIs
import HandS.ExcValue
import HandS.HotCalls
import KE.KNestM
import PyProof.StrLawsRepr
import PySem.Challenge.RW_fewroads_k01_limits_and_errors
set_option Elab.async false
set_option linter.all false
set_option maxRecDepth 100000
set_option maxHeartbeats 4000000
/-! DL1: data as values. D: what a Python value is, as Lean data; SO: the objects that may change, by their addresses; how both lie in the abstract heap of HandS; the judgements over them -/
namespace L2.DL
open PySem PySem.Spec PyProof.Rows

/-- a value as data: lst, dic, ins are lists, dicts, instances that nobody changes any more; src a list from outside, kt a tuple that the top has written, tf a tuple of which it is known that it has no dict of its own; obj: an object by its address (one that may change, or one that is not looked into) -/
inductive D where
  | non | bl (b : Bool) | int (i : Int) | str (x : Str) | ty (n : String)
  | tup (xs : List D) | lst (xs : List D) | src (xs : List D) | kt (xs : List D) | tf (xs : List D) | dic (t : Bool) (kvs : List (D × D)) | ins (C : Addr) (fs : List (Str × D)) | obj (a : Addr) | fd (t : Bool) (kvs : List (D × D)) | gh (d : D) (v : V)
/-- an object that may change; err: an exception of the class of that name, with what it keeps; tb: a table of code objects, all of one name -/
inductive DO where
  | lst (xs : List D) | dic (t : Bool) (kvs : List (D × D)) | ins (C : Addr) (fs : List (Str × D)) | err (n : Str) (fs : List (Str × D)) | tb (q : Str)
abbrev SO := Addr → Option DO
def SO.set (S : SO) (a : Addr) (o : DO) : SO := fun b => if b = a then some o else S b
def SO.del (S : SO) (a : Addr) : SO := fun b => if b = a then none else S b
theorem set_same {S : SO} {a : Addr} {o : DO} : S.set a o a = some o := if_pos rfl
theorem set_ne {S : SO} {a b : Addr} {o : DO} (h : b ≠ a) : S.set a o b = S b := if_neg h
theorem set_set {S : SO} {a : Addr} {o u : DO} : (S.set a o).set a u = S.set a u := by
  funext b
  unfold SO.set
  split <;> rfl
theorem del_set {S : SO} {a : Addr} {o : DO} (h : S a = none) : (S.set a o).del a = S := by
  funext b
  unfold SO.set SO.del
  split
  · rename_i e
    rw [e, h]
  · rename_i e
    exact if_neg e
theorem so_ne {S : SO} {a b : Addr} {o : DO} (h : S a = some o) (h' : S b = none) : a ≠ b := by
  intro e
  rw [e, h'] at h
  cases h

def keyD : Key → D
  | .inl i => .int i
  | .inr x => .str x

/-- a tuple, a list that is read and that nobody changes -/
def TupAt (S : SO) (H : Hp) (a : Addr) (vs : List V) : Prop := S a = none ∧ H a = some (.tup vs)
def KTup (K : PySem.W.Frag) (a : Addr) (vs : List V) : Prop := ∃ (o : Obj) (its : Array Value) (n : Nat), K.lookup a = some o ∧ o.cls = .type "tuple" ∧ o.data = .seq its n ∧ its.size ≤ sizeLine ∧ Vals vs its.toList
def LstAt (K : PySem.W.Frag) (S : SO) (H : Hp) (a : Addr) (vs : List V) : Prop := S a = none ∧ Rd H a (.lst vs) ∨
  ∃ (o : Obj) (its : Array Value) (n : Nat), K.lookup a = some o ∧ o.cls = .type "list" ∧ o.dict = none ∧ o.data = .seq its n ∧ its.size ≤ sizeLine ∧ Vals vs its.toList
def TfAt (S : SO) (H : Hp) (a : Addr) (vs : List V) : Prop := S a = none ∧ ∃ o, H a = some (.frz o (.tup vs)) ∧ o.dict = none ∧ o.cls = .type "tuple"
theorem TfAt.sq {K : PySem.W.Frag} {S : SO} {H : Hp} {a : Addr} {vs : List V} (h : TfAt S H a vs) : SqT K H a vs := let ⟨_, o, h, _⟩ := h; .inl (.inr ⟨o, h⟩)
theorem TupAt.sq {K : PySem.W.Frag} {S : SO} {H : Hp} {a : Addr} {vs : List V} (h : TupAt S H a vs) : SqT K H a vs := .of h.2
theorem KTup.sq {K : PySem.W.Frag} {H : Hp} {a : Addr} {vs : List V} (h : KTup K a vs) : SqT K H a vs := .inr h
theorem LstAt.sq {K : PySem.W.Frag} {S : SO} {H : Hp} {a : Addr} {vs : List V} (h : LstAt K S H a vs) : SqL K H a vs := h.elim (fun x => .inl x.2) .inr

mutual
/-- the value d lies at v -/
def Rel (K : PySem.W.Frag) (S : SO) (H : Hp) : D → V → Prop
  | .non, v => v = .non
  | .bl b, v => v = .bl b
  | .int i, v => v = .int i
  | .str x, v => v = .str x
  | .ty n, v => v = .ty n
  | .obj a, v => v = .ref a
  | .tup ds, v => ∃ a vs, v = .ref a ∧ TupAt S H a vs ∧ Rels K S H ds vs
  | .lst ds, v => ∃ a vs, v = .ref a ∧ S a = none ∧ H a = some (.lst vs) ∧ Rels K S H ds vs
  | .kt ds, v => ∃ a vs, v = .ref a ∧ KTup K a vs ∧ Rels K S H ds vs
  | .tf ds, v => ∃ a vs, v = .ref a ∧ TfAt S H a vs ∧ Rels K S H ds vs
  | .src ds, v => ∃ a vs, v = .ref a ∧ LstAt K S H a vs ∧ Rels K S H ds vs
  | .dic t kvs, v => ∃ a, v = .ref a ∧ S a = none ∧ ((∃ l, t = false ∧ H a = some (.dK l) ∧ RelK K S H kvs l) ∨ (∃ l, t = true ∧ H a = some (.dT l) ∧ RelT K S H kvs l))
  | .ins C fs, v => ∃ a dx l, v = .ref a ∧ S a = none ∧ H a = some (.ins C dx l) ∧ RelF K S H fs l
  | .gh d u, v => v = u ∧ Rel K S H d u
  | .fd t kvs, v => ∃ a, v = .ref a ∧ S a = none ∧ ((∃ o l, t = false ∧ H a = some (.frz o (.dK l)) ∧ RelK K S H kvs l) ∨ (∃ o l, t = true ∧ H a = some (.frz o (.dT l)) ∧ RelT K S H kvs l))
def Rels (K : PySem.W.Frag) (S : SO) (H : Hp) : List D → List V → Prop
  | [], vs => vs = []
  | d :: ds, vs => ∃ v r, vs = v :: r ∧ Rel K S H d v ∧ Rels K S H ds r
def RelK (K : PySem.W.Frag) (S : SO) (H : Hp) : List (D × D) → List (Key × V) → Prop
  | [], l => l = []
  | (k, d) :: kvs, l => ∃ q v r, l = (q, v) :: r ∧ k = keyD q ∧ Rel K S H d v ∧ RelK K S H kvs r
def RelT (K : PySem.W.Frag) (S : SO) (H : Hp) : List (D × D) → List (List Key × V) → Prop
  | [], l => l = []
  | (k, d) :: kvs, l => ∃ q v r, l = (q, v) :: r ∧ k = .tup (q.map keyD) ∧ Rel K S H d v ∧ RelT K S H kvs r
def RelF (K : PySem.W.Frag) (S : SO) (H : Hp) : List (Str × D) → List (Str × V) → Prop
  | [], l => l = []
  | (x, d) :: fs, l => ∃ v r, l = (x, v) :: r ∧ Rel K S H d v ∧ RelF K S H fs r
end

/-- at a: an exception of the class at C, its own dict d -/
def ErrO (a C : Addr) (d : Option Addr) : HO := .ext fun h => ∃ (oe : Obj) (vs : Array Value), h.get? a = some oe ∧ oe.cls = .ref C ∧ oe.dict = d ∧ oe.data = .fields vs
/-- what an exception keeps -/
def ErrF (K : PySem.W.Frag) (S : SO) (H : Hp) : Option Addr → List (Str × D) → Prop
  | none, fs => fs = []
  | some dx, fs => ∃ l, S dx = none ∧ H dx = some (.xd l) ∧ RelF K S H fs l
/-- how a changing object lies -/
def ObjAt (K : PySem.W.Frag) (S : SO) (H : Hp) (a : Addr) : DO → Prop
  | .lst ds => ∃ vs, H a = some (.lst vs) ∧ Rels K S H ds vs
  | .dic t kvs => (∃ l, t = false ∧ H a = some (.dK l) ∧ RelK K S H kvs l) ∨ (∃ l, t = true ∧ H a = some (.dT l) ∧ RelT K S H kvs l)
  | .ins C fs => ∃ dx l, H a = some (.ins C dx l) ∧ RelF K S H fs l
  | .err n fs => ∃ C d, PySem.W.nsIn K mainGlobals n = some (some (.ref C)) ∧ H a = some (ErrO a C d) ∧ ErrF K S H d fs
  | .tb q => ∃ ps : Array Value, H a = some (.tbl ps) ∧ TriplesOk ps.toList ∧ ∀ (pos : Pos) (cv : Value), codeAmong pos ps.toList = some cv → ∃ c, cv = .ref c ∧ S c = none ∧ H c = some (LamX.CodeO c q)
def SRel (K : PySem.W.Frag) (S : SO) (H : Hp) : Prop := ∀ a o, S a = some o → ObjAt K S H a o
/-- the step from one state to a later one: what nobody changes stays -/
def Nx (S : SO) (H : Hp) (S' : SO) (H' : Hp) : Prop := ∀ a o, S a = none → H a = some o → S' a = none ∧ H' a = some o
theorem Nx.refl (S : SO) (H : Hp) : Nx S H S H := fun _ _ h h' => ⟨h, h'⟩
theorem Nx.trans {S S1 S2 : SO} {H H1 H2 : Hp} (x : Nx S H S1 H1) (y : Nx S1 H1 S2 H2) : Nx S H S2 H2 := fun a o h h' => let ⟨p, q⟩ := x a o h h'; y a o p q

section
variable {K : PySem.W.Frag} {S S' : SO} {H H' : Hp}
theorem TfAt.nx {a : Addr} {vs : List V} (x : Nx S H S' H') (h : TfAt S H a vs) : TfAt S' H' a vs := let ⟨n, o, e, r⟩ := h; let ⟨p, q⟩ := x a _ n e; ⟨p, o, q, r⟩
theorem TupAt.nx {a : Addr} {vs : List V} (x : Nx S H S' H') (h : TupAt S H a vs) : TupAt S' H' a vs := x a _ h.1 h.2
theorem LstAt.nx {a : Addr} {vs : List V} (x : Nx S H S' H') (h : LstAt K S H a vs) : LstAt K S' H' a vs := by
  rcases h with ⟨h0, h | ⟨o, h⟩⟩ | h
  · obtain ⟨p, q⟩ := x a _ h0 h
    exact .inl ⟨p, .inl q⟩
  · obtain ⟨p, q⟩ := x a _ h0 h
    exact .inl ⟨p, .inr ⟨o, q⟩⟩
  · exact .inr h
mutual
theorem Rel.nx (x : Nx S H S' H') : ∀ (d : D) (v : V), Rel K S H d v → Rel K S' H' d v
  | .non, _, h => h
  | .bl _, _, h => h
  | .int _, _, h => h
  | .str _, _, h => h
  | .ty _, _, h => h
  | .obj _, _, h => h
  | .tup ds, v, h => by
    obtain ⟨a, vs, e, t, r⟩ := h
    exact ⟨a, vs, e, t.nx x, Rels.nx x ds vs r⟩
  | .lst ds, v, h => by
    obtain ⟨a, vs, e, n, t, r⟩ := h
    obtain ⟨p, q⟩ := x a _ n t
    exact ⟨a, vs, e, p, q, Rels.nx x ds vs r⟩
  | .kt ds, v, h => by
    obtain ⟨a, vs, e, t, r⟩ := h
    exact ⟨a, vs, e, t, Rels.nx x ds vs r⟩
  | .tf ds, v, h => by
    obtain ⟨a, vs, e, t, r⟩ := h
    exact ⟨a, vs, e, t.nx x, Rels.nx x ds vs r⟩
  | .src ds, v, h => by
    obtain ⟨a, vs, e, t, r⟩ := h
    exact ⟨a, vs, e, t.nx x, Rels.nx x ds vs r⟩
  | .dic t kvs, v, h => by
    obtain ⟨a, e, n, h⟩ := h
    refine ⟨a, e, ?_⟩
    rcases h with ⟨l, ht, hl, r⟩ | ⟨l, ht, hl, r⟩
    · obtain ⟨p, q⟩ := x a _ n hl
      exact ⟨p, .inl ⟨l, ht, q, RelK.nx x kvs l r⟩⟩
    · obtain ⟨p, q⟩ := x a _ n hl
      exact ⟨p, .inr ⟨l, ht, q, RelT.nx x kvs l r⟩⟩
  | .ins C fs, v, h => by
    obtain ⟨a, dx, l, e, n, hl, r⟩ := h
    obtain ⟨p, q⟩ := x a _ n hl
    exact ⟨a, dx, l, e, p, q, RelF.nx x fs l r⟩
  | .gh d u, v, h => ⟨h.1, Rel.nx x d u h.2⟩
  | .fd t kvs, v, h => by
    obtain ⟨a, e, n, h⟩ := h
    refine ⟨a, e, ?_⟩
    rcases h with ⟨o, l, ht, hl, r⟩ | ⟨o, l, ht, hl, r⟩
    · obtain ⟨p, q⟩ := x a _ n hl
      exact ⟨p, .inl ⟨o, l, ht, q, RelK.nx x kvs l r⟩⟩
    · obtain ⟨p, q⟩ := x a _ n hl
      exact ⟨p, .inr ⟨o, l, ht, q, RelT.nx x kvs l r⟩⟩
theorem Rels.nx (x : Nx S H S' H') : ∀ (ds : List D) (vs : List V), Rels K S H ds vs → Rels K S' H' ds vs
  | [], _, h => h
  | d :: ds, _, h => by
    obtain ⟨v, r, e, h1, h2⟩ := h
    exact ⟨v, r, e, Rel.nx x d v h1, Rels.nx x ds r h2⟩
theorem RelK.nx (x : Nx S H S' H') : ∀ (kvs : List (D × D)) (l : List (Key × V)), RelK K S H kvs l → RelK K S' H' kvs l
  | [], _, h => h
  | (k, d) :: kvs, _, h => by
    obtain ⟨q, v, r, e, hk, h1, h2⟩ := h
    exact ⟨q, v, r, e, hk, Rel.nx x d v h1, RelK.nx x kvs r h2⟩
theorem RelT.nx (x : Nx S H S' H') : ∀ (kvs : List (D × D)) (l : List (List Key × V)), RelT K S H kvs l → RelT K S' H' kvs l
  | [], _, h => h
  | (k, d) :: kvs, _, h => by
    obtain ⟨q, v, r, e, hk, h1, h2⟩ := h
    exact ⟨q, v, r, e, hk, Rel.nx x d v h1, RelT.nx x kvs r h2⟩
theorem RelF.nx (x : Nx S H S' H') : ∀ (fs : List (Str × D)) (l : List (Str × V)), RelF K S H fs l → RelF K S' H' fs l
  | [], _, h => h
  | (k, d) :: kvs, _, h => by
    obtain ⟨v, r, e, h1, h2⟩ := h
    exact ⟨v, r, e, Rel.nx x d v h1, RelF.nx x kvs r h2⟩
end
theorem ErrF.nx (x : Nx S H S' H') : ∀ {d : Option Addr} {fs : List (Str × D)}, ErrF K S H d fs → ErrF K S' H' d fs
  | none, _, h => h
  | some dx, fs, ⟨l, h1, h2, h3⟩ => let ⟨p, q⟩ := x dx _ h1 h2; ⟨l, p, q, RelF.nx x fs l h3⟩
theorem ObjAt.nx {a : Addr} (x : Nx S H S' H') (e : H' a = H a) : ∀ {o : DO}, ObjAt K S H a o → ObjAt K S' H' a o
  | .lst ds, h => by
    obtain ⟨vs, h1, h2⟩ := h
    exact ⟨vs, e.trans h1, Rels.nx x ds vs h2⟩
  | .dic t kvs, h => by
    rcases h with ⟨l, ht, h1, h2⟩ | ⟨l, ht, h1, h2⟩
    · exact .inl ⟨l, ht, e.trans h1, RelK.nx x kvs l h2⟩
    · exact .inr ⟨l, ht, e.trans h1, RelT.nx x kvs l h2⟩
  | .ins C fs, h => by
    obtain ⟨dx, l, h1, h2⟩ := h
    exact ⟨dx, l, e.trans h1, RelF.nx x fs l h2⟩
  | .err n fs, h => by
    obtain ⟨C, d, h0, h1, h2⟩ := h
    exact ⟨C, d, h0, e.trans h1, h2.nx x⟩
  | .tb q, h => by
    obtain ⟨ps, h1, h2, h3⟩ := h
    refine ⟨ps, e.trans h1, h2, fun pos cv hc => ?_⟩
    obtain ⟨c, e1, e2, e3⟩ := h3 pos cv hc
    exact ⟨c, e1, x c _ e2 e3⟩
theorem ObjAt.there {a : Addr} : ∀ {o : DO}, ObjAt K S H a o → ∃ u, H a = some u
  | .lst ds, ⟨_, h1, _⟩ => ⟨_, h1⟩
  | .dic t kvs, .inl ⟨_, _, h1, _⟩ => ⟨_, h1⟩
  | .dic t kvs, .inr ⟨_, _, h1, _⟩ => ⟨_, h1⟩
  | .ins C fs, ⟨_, _, h1, _⟩ => ⟨_, h1⟩
  | .err n fs, ⟨_, _, _, h1, _⟩ => ⟨_, h1⟩
  | .tb q, ⟨_, h1, _⟩ => ⟨_, h1⟩
theorem SRel.free (x : SRel K S H) {a : Addr} (h : H a = none) : S a = none := by
  cases q : S a with
  | none => rfl
  | some o =>
    obtain ⟨u, e⟩ := (x a o q).there
    rw [h] at e
    cases e
/-- a new thing that is tracked and not changed -/
theorem nx_new {p : Addr} {o : HO} (h : H p = none) : Nx S H S (upd H p o) := fun a u h1 h2 => ⟨h1, by rw [upd_ne (ne_of_none h2 h)]; exact h2⟩
theorem SRel.new (x : SRel K S H) {p : Addr} {o : HO} (h : H p = none) : SRel K S (upd H p o) := fun a u q => by
  have hu := x a u q
  obtain ⟨w, e⟩ := hu.there
  exact hu.nx (nx_new h) (by rw [upd_ne (ne_of_none e h)])
/-- a new object -/
theorem nx_obj {p : Addr} {o : DO} {u : HO} (h : H p = none) (hs : S p = none) : Nx S H (S.set p o) (upd H p u) := fun a w h1 h2 => by
  have ne := ne_of_none h2 h
  exact ⟨by rw [set_ne ne]; exact h1, by rw [upd_ne ne]; exact h2⟩
/-- an object is changed -/
theorem nx_put {p : Addr} {o o' : DO} {u : HO} (hs : S p = some o) : Nx S H (S.set p o') (upd H p u) := fun a w h1 h2 => by
  have ne : a ≠ p := (so_ne hs h1).symm
  exact ⟨by rw [set_ne ne]; exact h1, by rw [upd_ne ne]; exact h2⟩
theorem srel_put (x : SRel K S H) {p : Addr} {o : DO} {u : HO} (n : Nx S H (S.set p o) (upd H p u)) (h : ObjAt K (S.set p o) (upd H p u) p o) : SRel K (S.set p o) (upd H p u) := fun a w q => by
  by_cases e : a = p
  · subst e
    rw [set_same] at q
    cases q
    exact h
  · rw [set_ne e] at q
    exact (x a w q).nx n (upd_ne e)
theorem Rels.length : ∀ {ds : List D} {vs : List V}, Rels K S H ds vs → ds.length = vs.length
  | [], _, h => by
    have h' : _ = [] := h
    rw [h']
    rfl
  | d :: ds, _, h => by
    obtain ⟨v, r, e, _, h2⟩ := h
    rw [e, List.length_cons, List.length_cons, h2.length]
theorem Rels.app : ∀ {ds es : List D} {vs us : List V}, Rels K S H ds vs → Rels K S H es us → Rels K S H (ds ++ es) (vs ++ us)
  | [], _, _, _, h, h' => by
    have e : _ = [] := h
    subst e
    exact h'
  | d :: ds, es, _, us, h, h' => by
    obtain ⟨v, r, e, h1, h2⟩ := h
    subst e
    exact ⟨v, r ++ us, rfl, h1, h2.app h'⟩
theorem Rels.one {d : D} {v : V} (h : Rel K S H d v) : Rels K S H [d] [v] := ⟨v, [], rfl, h, rfl⟩
theorem Rels.get : ∀ {ds : List D} {vs : List V} {i : Nat} {d : D}, Rels K S H ds vs → ds[i]? = some d → ∃ v, vs[i]? = some v ∧ Rel K S H d v
  | [], _, _, _, _, e => by simp at e
  | d' :: ds, _, 0, d, h, e => by
    obtain ⟨v, r, rfl, h1, h2⟩ := h
    have e' : d' = d := Option.some.inj e
    subst e'
    exact ⟨v, rfl, h1⟩
  | d' :: ds, _, i + 1, d, h, e => by
    obtain ⟨v, r, rfl, h1, h2⟩ := h
    exact h2.get (i := i) e
theorem Rels.take : ∀ {ds : List D} {vs : List V} (n : Nat), Rels K S H ds vs → Rels K S H (ds.take n) (vs.take n)
  | _, _, 0, _ => rfl
  | [], _, n + 1, h => by
    have h' : _ = [] := h
    rw [h']
    exact rfl
  | d :: ds, _, n + 1, h => by
    obtain ⟨v, r, rfl, h1, h2⟩ := h
    exact ⟨v, r.take n, rfl, h1, h2.take n⟩
theorem Rels.drop : ∀ {ds : List D} {vs : List V} (n : Nat), Rels K S H ds vs → Rels K S H (ds.drop n) (vs.drop n)
  | _, _, 0, h => h
  | [], _, n + 1, h => by
    have h' : _ = [] := h
    rw [h']
    exact rfl
  | d :: ds, _, n + 1, h => by
    obtain ⟨v, r, rfl, h1, h2⟩ := h
    exact h2.drop n
theorem Rels.two {a b : D} {vs : List V} (h : Rels K S H [a, b] vs) : ∃ v w, vs = [v, w] ∧ Rel K S H a v ∧ Rel K S H b w := by
  obtain ⟨v, r, rfl, h1, w, r', rfl, h2, h3⟩ := h
  have e : _ = [] := h3
  subst e
  exact ⟨v, w, rfl, h1, h2⟩
theorem RelF.look : ∀ {fs : List (Str × D)} {l : List (Str × V)} {x : Str} {d : D}, RelF K S H fs l → fs.lookup x = some d → ∃ v, l.lookup x = some v ∧ Rel K S H d v
  | [], _, _, _, _, e => by cases e
  | (y, d') :: fs, _, x, d, h, e => by
    obtain ⟨v, r, rfl, h1, h2⟩ := h
    rw [List.lookup_cons] at e
    rw [List.lookup_cons]
    cases q : x == y with
    | true =>
      rw [q] at e
      cases e
      exact ⟨v, rfl, h1⟩
    | false =>
      rw [q] at e
      exact h2.look e
end

/-! ### the frame's slots -/
abbrev SD := List (Option D)
def RelO (K : PySem.W.Frag) (S : SO) (H : Hp) : Option D → Option V → Prop
  | none, _ => True
  | some d, some v => Rel K S H d v
  | some _, none => False
def RelS (K : PySem.W.Frag) (S : SO) (H : Hp) (sd : SD) (σ : St) : Prop := sd.length = σ.length ∧ ∀ (i : Nat) (d : D), sd[i]? = some (some d) → ∃ v, σ[i]? = some (some v) ∧ Rel K S H d v
structure Sta (K : PySem.W.Frag) (sd : SD) (S : SO) (σ : St) (H : Hp) : Prop where
  s : SRel K S H
  r : RelS K S H sd σ
theorem RelS.nx {K : PySem.W.Frag} {S S' : SO} {H H' : Hp} {sd : SD} {σ : St} (x : Nx S H S' H') (h : RelS K S H sd σ) : RelS K S' H' sd σ :=
  ⟨h.1, fun i d e => let ⟨v, e', r⟩ := h.2 i d e; ⟨v, e', Rel.nx x d v r⟩⟩
theorem Sta.nx {K : PySem.W.Frag} {S S' : SO} {H H' : Hp} {sd : SD} {σ : St} (h : Sta K sd S σ H) (x : Nx S H S' H') (s : SRel K S' H') : Sta K sd S' σ H' := ⟨s, h.r.nx x⟩
theorem Sta.set {K : PySem.W.Frag} {S : SO} {H : Hp} {sd : SD} {σ : St} (h : Sta K sd S σ H) (i : Nat) {d : D} {v : V} (r : Rel K S H d v) : Sta K (sd.set i (some d)) S (σ.set i (some v)) H := by
  refine ⟨h.s, by rw [List.length_set, List.length_set]; exact h.r.1, fun j e q => ?_⟩
  by_cases hj : i = j
  · subst hj
    have hl : i < sd.length := by
      have := (List.getElem?_eq_some_iff.mp q).1
      rwa [List.length_set] at this
    rw [List.getElem?_set_self hl] at q
    cases q
    exact ⟨v, List.getElem?_set_self (by rw [← h.r.1]; exact hl), r⟩
  · rw [List.getElem?_set_ne hj] at q
    obtain ⟨v', e', r'⟩ := h.r.2 j e q
    exact ⟨v', by rw [List.getElem?_set_ne hj]; exact e', r'⟩
end L2.DL

/-! DL2: the judgements over data, lifted from HandS, and the rules of expressions, tests, statements, targets -/
namespace L2.DL
open PySem PySem.Spec PyProof.Rows

abbrev KD := D → SO → Prop
abbrev WE := SD → SO → KD → Prop
abbrev WT := SD → SO → (Bool → SO → Prop) → Prop
abbrev WA := SD → SO → (List D → SO → Prop) → Prop
structure EndsD where
  nx : SD → SO → Prop
  rt : KD
  bk : SD → SO → Prop := fun _ _ => False
  ct : SD → SO → Prop := fun _ _ => False
abbrev WS := EndsD → SD → SO → Prop
abbrev WG := D → SD → SO → (SD → SO → Prop) → Prop
abbrev WGs := List D → SD → SO → (SD → SO → Prop) → Prop

/-- what is wanted of the data answers what is wanted of the values -/
def Ans (K : PySem.W.Frag) (S : SO) (H : Hp) (Q0 : KD) (Q : VK) : Prop := ∀ d S' v H', Q0 d S' → Nx S H S' H' → SRel K S' H' → Rel K S' H' d v → Q v H'
def AnsT (K : PySem.W.Frag) (S : SO) (H : Hp) (Q0 : Bool → SO → Prop) (Q : Bool → Hp → Prop) : Prop := ∀ b S' H', Q0 b S' → Nx S H S' H' → SRel K S' H' → Q b H'
def AnsA (K : PySem.W.Frag) (S : SO) (H : Hp) (Q0 : List D → SO → Prop) (Q : List V → Hp → Prop) : Prop := ∀ ds S' vs H', Q0 ds S' → Nx S H S' H' → SRel K S' H' → Rels K S' H' ds vs → Q vs H'
def AnsS (K : PySem.W.Frag) (S : SO) (H : Hp) (Q0 : SD → SO → Prop) (Q : St → Hp → Prop) : Prop := ∀ sd S' σ H', Q0 sd S' → Nx S H S' H' → Sta K sd S' σ H' → Q σ H'
structure AnsE (K : PySem.W.Frag) (S : SO) (H : Hp) (E0 : EndsD) (E : Ends) : Prop where
  nx : AnsS K S H E0.nx E.nx
  rt : Ans K S H E0.rt E.rt
  bk : AnsS K S H E0.bk E.bk
  ct : AnsS K S H E0.ct E.ct
section
variable {K : PySem.W.Frag} {S S' : SO} {H H' : Hp}
theorem Ans.nx {Q0 : KD} {Q : VK} (a : Ans K S H Q0 Q) (x : Nx S H S' H') : Ans K S' H' Q0 Q := fun d S2 v H2 q y s r => a d S2 v H2 q (x.trans y) s r
theorem AnsT.nx {Q0 : Bool → SO → Prop} {Q : Bool → Hp → Prop} (a : AnsT K S H Q0 Q) (x : Nx S H S' H') : AnsT K S' H' Q0 Q := fun d S2 H2 q y s => a d S2 H2 q (x.trans y) s
theorem AnsA.nx {Q0 : List D → SO → Prop} {Q : List V → Hp → Prop} (a : AnsA K S H Q0 Q) (x : Nx S H S' H') : AnsA K S' H' Q0 Q := fun d S2 v H2 q y s r => a d S2 v H2 q (x.trans y) s r
theorem AnsS.nx {Q0 : SD → SO → Prop} {Q : St → Hp → Prop} (a : AnsS K S H Q0 Q) (x : Nx S H S' H') : AnsS K S' H' Q0 Q := fun d S2 v H2 q y s => a d S2 v H2 q (x.trans y) s
theorem AnsE.go {E0 : EndsD} {E : Ends} (a : AnsE K S H E0 E) (x : Nx S H S' H') : AnsE K S' H' E0 E := ⟨a.nx.nx x, a.rt.nx x, a.bk.nx x, a.ct.nx x⟩
end
def lift (K : PySem.W.Frag) (w : WE) : TE := fun σ H Q => ∃ sd S Q0, Sta K sd S σ H ∧ w sd S Q0 ∧ Ans K S H Q0 Q
def liftT (K : PySem.W.Frag) (w : WT) : TT := fun σ H Q => ∃ sd S Q0, Sta K sd S σ H ∧ w sd S Q0 ∧ AnsT K S H Q0 Q
def liftA (K : PySem.W.Frag) (w : WA) : TA := fun σ H Q => ∃ sd S Q0, Sta K sd S σ H ∧ w sd S Q0 ∧ AnsA K S H Q0 Q
def liftS (K : PySem.W.Frag) (w : WS) : TS := fun E σ H => ∃ sd S E0, Sta K sd S σ H ∧ w E0 sd S ∧ AnsE K S H E0 E
def liftG (K : PySem.W.Frag) (w : WG) : TG := fun v σ H Q => ∃ d sd S Q0, Sta K sd S σ H ∧ Rel K S H d v ∧ w d sd S Q0 ∧ AnsS K S H Q0 Q
abbrev DE (X : Cx) (e : Expr) (w : WE) : Prop := PE X e (lift X.K w)
abbrev DT (X : Cx) (e : Expr) (w : WT) : Prop := PT X e (liftT X.K w)
abbrev DW (X : Cx) (e : Expr) (w : WT) : Prop := PW X e (liftT X.K w)
abbrev DA (X : Cx) (es : List Expr) (w : WA) : Prop := PA X es (liftA X.K w)
abbrev DS (X : Cx) (st : Stmt) (w : WS) : Prop := PS X st (liftS X.K w)
abbrev DSs (X : Cx) (st : List Stmt) (w : WS) : Prop := PSs X st (liftS X.K w)
abbrev DG (X : Cx) (tg : Expr) (w : WG) : Prop := PG X tg (liftG X.K w)
section
variable {X : Cx}
theorem pe_imp {e : Expr} {t t' : TE} (h : PE X e t) (i : ∀ σ H Q, t' σ H Q → t σ H Q) : PE X e t' := ⟨fun pins s σ H Q I q => h.run pins s σ H Q I (i σ H Q q)⟩
theorem pt_imp {e : Expr} {t t' : TT} (h : PT X e t) (i : ∀ σ H Q, t' σ H Q → t σ H Q) : PT X e t' := ⟨fun pins s σ H Q I q => h.run pins s σ H Q I (i σ H Q q)⟩
theorem pw_imp {e : Expr} {t t' : TT} (h : PW X e t) (i : ∀ σ H Q, t' σ H Q → t σ H Q) : PW X e t' := ⟨fun wh pins s σ H Q I q => h.run wh pins s σ H Q I (i σ H Q q)⟩
theorem pa_imp {e : List Expr} {t t' : TA} (h : PA X e t) (i : ∀ σ H Q, t' σ H Q → t σ H Q) : PA X e t' := ⟨fun p pins s σ H Q I q => h.run p pins s σ H Q I (i σ H Q q)⟩
theorem ps_imp {e : Stmt} {t t' : TS} (h : PS X e t) (i : ∀ E σ H, t' E σ H → t E σ H) : PS X e t' := ⟨fun pins s σ H E I q => h.run pins s σ H E I (i E σ H q)⟩
theorem pss_imp {e : List Stmt} {t t' : TS} (h : PSs X e t) (i : ∀ E σ H, t' E σ H → t E σ H) : PSs X e t' := ⟨fun pins s σ H E I q => h.run pins s σ H E I (i E σ H q)⟩
theorem pg_imp {e : Expr} {t t' : TG} (h : PG X e t) (i : ∀ v σ H Q, t' v σ H Q → t v σ H Q) : PG X e t' := ⟨fun pins s σ H v u Q I r q => h.run pins s σ H v u Q I r (i v σ H Q q)⟩
/-! ### names, constants -/
def wV (i : Nat) : WE := fun sd S Q => match sd[i]? with
  | some (some d) => Q d S
  | _ => False
def wC (d : D) : WE := fun _ S Q => Q d S
theorem de_v (i : Nat) {x : Str} {pos : Pos} (hN : X.N[i]? = some x := by rfl) (hv : Vis X.env.scope x := by first | exact Or.inl rfl | exact Or.inr (Or.inl rfl) | exact Or.inr (Or.inr rfl)) (hd : (x == ("__debug__" : Str)) = false := by decide)
    (hcd : (x == ("__classdict__" : Str)) = false := by decide) : DE X (.Name x pos) (wV i) := by
  refine pe_imp (pe_var hN hv hd hcd) fun σ H Q ⟨sd, S, Q0, st, q, a⟩ => ?_
  unfold wV at q
  split at q
  · rename_i d e
    obtain ⟨v, e', r⟩ := st.r.2 i d e
    exact ⟨v, e', a _ _ _ _ q (Nx.refl _ _) st.s r⟩
  · exact q.elim
theorem lift_c {d : D} {v : V} (hr : ∀ K S H, Rel K S H d v) : ∀ σ H Q, lift X.K (wC d) σ H Q → tC v σ H Q := fun σ H Q ⟨sd, S, Q0, st, q, a⟩ => a _ _ _ _ q (Nx.refl _ _) st.s (hr _ _ _)
theorem de_int {i j pos} : DE X (.Constant (.int i) j pos) (wC (.int i)) := pe_imp pe_int (lift_c fun _ _ _ => rfl)
theorem de_bl {i j pos} : DE X (.Constant (.bool i) j pos) (wC (.bl i)) := pe_imp pe_bl (lift_c fun _ _ _ => rfl)
theorem de_non {j pos} : DE X (.Constant .none j pos) (wC .non) := pe_imp pe_non (lift_c fun _ _ _ => rfl)
theorem de_str {i j pos} : DE X (.Constant (.str i) j pos) (wC (.str i)) := pe_imp pe_str (lift_c fun _ _ _ => rfl)
theorem de_glob {x : Str} {d : D} {v : V} {u : Value} {pos : Pos} (hg : Gl X x) (hm : X.mg x = some u) (r : RelV v u) (hr : ∀ K S H, Rel K S H d v) (hd : (x == ("__debug__" : Str)) = false := by decide) : DE X (.Name x pos) (wC d) := pe_imp (pe_glob hg hm r hd) (lift_c hr)
theorem de_bltn {x : Str} {d : D} {v : V} {u : Value} {pos : Pos} (hg : Gl X x) (hm : X.mg x = none) (hv : bootBuiltins x = some u) (r : RelV v u) (hr : ∀ K S H, Rel K S H d v) (hn : x ≠ "__name__" := by decide) (hd : (x == ("__debug__" : Str)) = false := by decide) :
    DE X (.Name x pos) (wC d) := pe_imp (pe_bltn hg hm hv r hn hd) (lift_c hr)

/-! ### operators by values -/
abbrev WO := D → D → SO → KD → Prop
abbrev WU := D → SO → KD → Prop
abbrev WL := List D → SO → KD → Prop
def liftO (K : PySem.W.Frag) (w : WO) : R2 := fun v u H Q => ∃ x y S Q0, SRel K S H ∧ Rel K S H x v ∧ Rel K S H y u ∧ w x y S Q0 ∧ Ans K S H Q0 Q
def liftU (K : PySem.W.Frag) (w : WU) : V → Hp → VK → Prop := fun v H Q => ∃ x S Q0, SRel K S H ∧ Rel K S H x v ∧ w x S Q0 ∧ Ans K S H Q0 Q
def liftL (K : PySem.W.Frag) (w : WL) : List V → Hp → VK → Prop := fun v H Q => ∃ x S Q0, SRel K S H ∧ Rels K S H x v ∧ w x S Q0 ∧ Ans K S H Q0 Q
def liftM (K : PySem.W.Frag) (w : D → List D → SO → KD → Prop) : V → List V → Hp → VK → Prop := fun u v H Q => ∃ d x S Q0, SRel K S H ∧ Rel K S H d u ∧ Rels K S H x v ∧ w d x S Q0 ∧ Ans K S H Q0 Q
abbrev DO2 (X : Cx) (f : Value → Value → Sem Value) (w : WO) : Prop := OpR X f (liftO X.K w)
abbrev DO1 (X : Cx) (f : Value → Sem Value) (w : WU) : Prop := UnR X f (liftU X.K w)
abbrev DC (X : Cx) (f : Value) (w : WL) : Prop := CallR X f (liftL X.K w)
variable {a b c : Expr} {wa wb wc : WE} {pos : Pos}
def wO (w : WO) (wa wb : WE) : WE := fun sd S Q => wa sd S fun x S1 => wb sd S1 fun y S2 => w x y S2 Q
def wU (w : WU) (wa : WE) : WE := fun sd S Q => wa sd S fun x S1 => w x S1 Q
theorem two {w : D → D → SO → KD → Prop} {σ : St} {H : Hp} {Q : VK} (h : lift X.K (wO w wa wb) σ H Q) {R : V → V → Hp → VK → Prop}
    (hr : ∀ v u H2 x y S2 Q0, SRel X.K S2 H2 → Rel X.K S2 H2 x v → Rel X.K S2 H2 y u → w x y S2 Q0 → Ans X.K S2 H2 Q0 Q → R v u H2 Q) : lift X.K wa σ H fun v H1 => lift X.K wb σ H1 fun u H2 => R v u H2 Q := by
  obtain ⟨sd, S, Q0, st, q, an⟩ := h
  exact ⟨sd, S, _, st, q, fun x S1 v H1 q1 n1 s1 r1 => ⟨sd, S1, _, st.nx n1 s1, q1, fun y S2 u H2 q2 n2 s2 r2 => hr v u H2 x y S2 Q0 s2 (Rel.nx n2 _ _ r1) r2 q2 (an.nx (n1.trans n2))⟩⟩
theorem de_o {op : Operator} {w : WO} (ho : DO2 X (binaryOp op) w) (ha : DE X a wa) (hb : DE X b wb) : DE X (.BinOp a op b pos) (wO w wa wb) :=
  pe_imp (pe_op ho ha hb) fun σ H Q h => two h fun v u H2 x y S2 Q0 s2 r1 r2 q2 an => ⟨x, y, S2, Q0, s2, r1, r2, q2, an⟩
theorem de_c {op : CmpOp} {w : WO} (ho : DO2 X (compareOp op) w) (ha : DE X a wa) (hb : DE X b wb) (hm : behindInMarks op b = false := by first | exact nomark _ | rfl) : DE X (.Compare a [op] [b] pos) (wO w wa wb) :=
  pe_imp (pe_cmpR ho ha hb hm) fun σ H Q h => two h fun v u H2 x y S2 Q0 s2 r1 r2 q2 an => ⟨x, y, S2, Q0, s2, r1, r2, q2, an⟩
theorem de_u {op : UnaryOp} {w : WU} (ho : DO1 X (unaryOp op) w) (ha : DE X a wa) : DE X (.UnaryOp op a pos) (wU w wa) :=
  pe_imp (pe_un ho ha) fun σ H Q ⟨sd, S, Q0, st, q, an⟩ => ⟨sd, S, _, st, q, fun x S1 v H1 q1 n1 s1 r1 => ⟨x, S1, Q0, s1, r1, q1, an.nx n1⟩⟩
/-- the answer is a truth -/
def isB0 (Q : Bool → SO → Prop) : KD := fun d S => match d with
  | .bl b => Q b S
  | _ => False
structure IsB (Q : Bool → SO → Prop) (d : D) (S : SO) : Prop where
  ex : isB0 Q d S
def isB (Q : Bool → SO → Prop) : KD := fun d S => IsB Q d S
def wB (wa : WE) : WT := fun sd S Q => wa sd S (isB Q)
theorem isB_ans {K : PySem.W.Frag} {S : SO} {H : Hp} {Q0 : Bool → SO → Prop} {Q : Bool → Hp → Prop} (an : AnsT K S H Q0 Q) : Ans K S H (isB Q0) fun x H' => ∃ k, x = .bl k ∧ Q k H' := fun d S' v H' q n s r => by
  have q := q.ex
  cases d with
  | bl k =>
    have e : v = .bl k := r
    exact ⟨k, e, an k S' H' q n s⟩
  | _ => exact q.elim
/-- a comparison as a test -/
theorem dt_c {op : CmpOp} {w : WO} (ho : DO2 X (compareOp op) w) (ha : DE X a wa) (hb : DE X b wb) (hm : behindInMarks op b = false := by first | exact nomark _ | rfl) : DT X (.Compare a [op] [b] pos) (wB (wO w wa wb)) :=
  pt_imp (pt_cmpR ho ha hb hm) fun σ H Q ⟨sd, S, Q0, st, q, an⟩ => by
    refine two (w := w) (wa := wa) (wb := wb) (R := liftO X.K w) ⟨sd, S, _, st, q, isB_ans an⟩ fun v u H2 x y S2 Q0' s2 r1 r2 q2 an => ?_
    exact ⟨x, y, S2, Q0', s2, r1, r2, q2, an⟩
/-- an expression whose value is a truth, as a test -/
theorem dt_b {e : Expr} {w : WE} (h : DE X e w) (he : ∀ whole, isTrue e X.env whole = (do let v ← whole; standAt e.pos; holding [v] (truthy v)) := by intro _; rfl) : DT X e (wB w) :=
  pt_imp (pt_val h he) fun σ H Q ⟨sd, S, Q0, st, q, an⟩ => ⟨sd, S, _, st, q, isB_ans an⟩
/-- a < b < c -/
def wCh (w w' : WO) (wa wb wc : WE) : WE := fun sd S Q => wa sd S fun x S1 => wb sd S1 fun y S2 => w x y S2 fun z S3 => isB (fun k S3 => if k = true then wc sd S3 fun u S4 => w' y u S4 Q else Q (.bl false) S3) z S3
theorem de_ch {op op' : CmpOp} {w w' : WO} (ho : DO2 X (compareOp op) w) (ho' : DO2 X (compareOp op') w') (ha : DE X a wa) (hb : DE X b wb) (hc : DE X c wc) (hm : lastMarks [op, op'] [b, c] = false := by with_unfolding_all rfl) :
    DE X (.Compare a [op, op'] [b, c] pos) (wCh w w' wa wb wc) := by
  refine pe_imp (pe_chain ho ho' ha hb hc hm) fun σ H Q ⟨sd, S, Q0, st, q, an⟩ => ?_
  refine ⟨sd, S, _, st, q, fun x S1 v H1 q1 n1 s1 r1 => ⟨sd, S1, _, st.nx n1 s1, q1, fun y S2 u H2 q2 n2 s2 r2 => ⟨x, y, S2, _, s2, Rel.nx n2 _ _ r1, r2, q2, fun z S3 zv H3 q3 n3 s3 r3 => ?_⟩⟩⟩
  have q3 := q3.ex
  cases z with
  | bl k =>
    have e : zv = .bl k := r3
    refine ⟨k, e, ?_⟩
    have n13 := (n1.trans n2).trans n3
    have q3' : if k = true then wc sd S3 fun u S4 => w' y u S4 Q0 else Q0 (.bl false) S3 := q3
    cases k with
    | true => exact ⟨sd, S3, _, st.nx n13 s3, q3', fun t S4 tv H4 q4 n4 s4 r4 => ⟨y, t, S4, Q0, s4, Rel.nx n4 _ _ (Rel.nx n3 _ _ r2), r4, q4, an.nx (n13.trans n4)⟩⟩
    | false => exact an _ _ _ _ q3' n13 s3 rfl
  | _ => exact False.elim q3
/-! ### and, or, not, if -/
variable {ta tb tc : WT} {rest : List Expr}
def wAnd (t u : WT) : WT := fun sd S Q => t sd S fun k S1 => if k = true then u sd S1 Q else Q false S1
def wOr (t u : WT) : WT := fun sd S Q => t sd S fun k S1 => if k = true then Q true S1 else u sd S1 Q
def wNot (t : WT) : WT := fun sd S Q => t sd S fun k S1 => Q (!k) S1
theorem dw_or1 (ha : DT X a ta) : DW X (.BoolOp .Or [a] pos) ta := pw_or1 ha
theorem dw_or (ha : DT X a ta) (hb : DW X (.BoolOp .Or (b :: rest) pos) tb) : DW X (.BoolOp .Or (a :: b :: rest) pos) (wOr ta tb) := by
  refine pw_imp (pw_or ha hb) fun σ H Q ⟨sd, S, Q0, st, q, an⟩ => ⟨sd, S, _, st, q, fun k S1 H1 q1 n1 s1 => ?_⟩
  cases k with
  | true => exact an _ _ _ q1 n1 s1
  | false => exact ⟨sd, S1, Q0, st.nx n1 s1, q1, an.nx n1⟩
theorem dw_pt (h : DW X a ta) : DT X a ta := PW.pt h
theorem dt_not (ha : DT X a ta) : DT X (.UnaryOp .Not a pos) (wNot ta) :=
  pt_imp (pt_not ha) fun σ H Q ⟨sd, S, Q0, st, q, an⟩ => ⟨sd, S, _, st, q, fun k S1 H1 q1 n1 s1 => an _ _ _ q1 n1 s1⟩
/-- as values, all but the last truths -/
def wAndV (wa wb : WE) : WE := fun sd S Q => wa sd S (isB fun k S1 => if k = true then wb sd S1 Q else Q (.bl false) S1)
def wOrV (wa wb : WE) : WE := fun sd S Q => wa sd S (isB fun k S1 => if k = true then Q (.bl true) S1 else wb sd S1 Q)
def wNotV (wa : WE) : WE := fun sd S Q => wa sd S (isB fun k S1 => Q (.bl (!k)) S1)
theorem de_one {op} {w : WE} (h : DE X a w) : DE X (.BoolOp op [a] pos) w := pe_one h
theorem de_and (ha : DE X a wa) (hb : DE X (.BoolOp .And (b :: rest) pos) wb) : DE X (.BoolOp .And (a :: b :: rest) pos) (wAndV wa wb) := by
  refine pe_imp (pe_and ha hb) fun σ H Q ⟨sd, S, Q0, st, q, an⟩ => ⟨sd, S, _, st, q, fun d S1 v H1 q1 n1 s1 r1 => ?_⟩
  have q1 := q1.ex
  cases d with
  | bl k =>
    have e : v = .bl k := r1
    refine ⟨k, e, ?_⟩
    cases k with
    | true => exact ⟨sd, S1, Q0, st.nx n1 s1, q1, an.nx n1⟩
    | false => exact an _ _ _ _ q1 n1 s1 rfl
  | _ => exact False.elim q1
theorem de_not (ha : DE X a wa) : DE X (.UnaryOp .Not a pos) (wNotV wa) := by
  refine pe_imp (pe_not ha) fun σ H Q ⟨sd, S, Q0, st, q, an⟩ => ⟨sd, S, _, st, q, fun d S1 v H1 q1 n1 s1 r1 => ?_⟩
  have q1 := q1.ex
  cases d with
  | bl k =>
    have e : v = .bl k := r1
    exact ⟨k, e, an _ _ _ _ q1 n1 s1 rfl⟩
  | _ => exact False.elim q1
def wIf (t : WT) (wa wb : WE) : WE := fun sd S Q => t sd S fun k S1 => if k = true then wa sd S1 Q else wb sd S1 Q
/-! ### arguments, displays, calls of built-ins by their names -/
def wNil : WA := fun _ S Q => Q [] S
def wCons (w : WE) (r : WA) : WA := fun sd S Q => w sd S fun x S1 => r sd S1 fun xs S2 => Q (x :: xs) S2
theorem da_nil : DA X [] wNil := pa_imp pa_nil fun σ H Q ⟨sd, S, Q0, st, q, an⟩ => an _ _ _ _ q (Nx.refl _ _) st.s rfl
theorem da_cons {e : Expr} {es : List Expr} {w : WE} {r : WA} (he : DE X e w) (hr : DA X es r) (hs : starEach (e :: es) X.env = (false, eval e X.env) :: starEach es X.env := by rfl) : DA X (e :: es) (wCons w r) :=
  pa_imp (pa_cons he hr hs) fun σ H Q ⟨sd, S, Q0, st, q, an⟩ => ⟨sd, S, _, st, q, fun x S1 v H1 q1 n1 s1 r1 => ⟨sd, S1, _, st.nx n1 s1, q1, fun xs S2 vs H2 q2 n2 s2 r2 => an _ _ _ _ q2 (n1.trans n2) s2 ⟨v, vs, rfl, Rel.nx n2 _ _ r1, r2⟩⟩⟩
def wTup (t : WA) : WE := fun sd S Q => t sd S fun xs S1 => xs.length ≤ 1000000 ∧ Q (.tup xs) S1
/-- a new list that nobody changes; one that may change -/
def wLst (t : WA) : WE := fun sd S Q => t sd S fun xs S1 => xs.length ≤ 1000000 ∧ Q (.lst xs) S1
def wNew (t : WA) : WE := fun sd S Q => t sd S fun xs S1 => xs.length ≤ 1000000 ∧ ∀ p, S1 p = none → Q (.obj p) (S1.set p (.lst xs))
theorem le_line {n : Nat} (h : n ≤ 1000000) : n ≤ sizeLine := Nat.le_trans h (by rw [sizeLine_eq]; decide)
variable {es : List Expr} {t : WA}
theorem de_tup {x1} (h : DA X es t) : DE X (.Tuple es x1 pos) (wTup t) :=
  pe_imp (pe_tup h) fun σ H Q ⟨sd, S, Q0, st, q, an⟩ => ⟨sd, S, _, st, q, fun xs S1 vs H1 q1 n1 s1 r1 => ⟨by rw [← r1.length]; exact le_line q1.1, fun p hp =>
    an _ _ _ _ q1.2 (n1.trans (nx_new hp)) (s1.new hp) ⟨p, vs, rfl, ⟨s1.free hp, upd_same⟩, r1.nx (nx_new hp)⟩⟩⟩
theorem de_lst (h : DA X es t) : DE X (.List es pos) (wLst t) :=
  pe_imp (pe_lst h) fun σ H Q ⟨sd, S, Q0, st, q, an⟩ => ⟨sd, S, _, st, q, fun xs S1 vs H1 q1 n1 s1 r1 => ⟨by rw [← r1.length]; exact le_line q1.1, fun p hp =>
    an _ _ _ _ q1.2 (n1.trans (nx_new hp)) (s1.new hp) ⟨p, vs, rfl, s1.free hp, upd_same, r1.nx (nx_new hp)⟩⟩⟩
theorem de_new (h : DA X es t) : DE X (.List es pos) (wNew t) :=
  pe_imp (pe_lst h) fun σ H Q ⟨sd, S, Q0, st, q, an⟩ => ⟨sd, S, _, st, q, fun xs S1 vs H1 q1 n1 s1 r1 => ⟨by rw [← r1.length]; exact le_line q1.1, fun p hp => by
    have n2 : Nx S1 H1 (S1.set p (.lst xs)) (upd H1 p (.lst vs)) := nx_obj hp (s1.free hp)
    exact an _ _ _ _ (q1.2 p (s1.free hp)) (n1.trans n2) (srel_put s1 n2 ⟨vs, upd_same, r1.nx n2⟩) rfl⟩⟩
def wCall (w : WL) (t : WA) : WE := fun sd S Q => t sd S fun xs S1 => w xs S1 Q
theorem call_lift {w : WL} {σ : St} {H : Hp} {Q : VK} (h : lift X.K (wCall w t) σ H Q) : tCB (liftL X.K w) (liftA X.K t) σ H Q := by
  obtain ⟨sd, S, Q0, st, q, an⟩ := h
  exact ⟨sd, S, _, st, q, fun xs S1 vs H1 q1 n1 s1 r1 => ⟨xs, S1, Q0, s1, r1, q1, an.nx n1⟩⟩
theorem de_callB {x : Str} {p pos : Pos} {e : Expr} {es : List Expr} {t : WA} {id : String} {w : WL} (hc : DC X (.builtin id) w) (hg : Gl X x) (hm : X.mg x = none) (hv : bootBuiltins x = some (.builtin id)) (ha : DA X (e :: es) t) (hn : x ≠ "__name__" := by decide)
    (hdb : (x == ("__debug__" : Str)) = false := by decide) (he : starEach (e :: es) X.env = (false, eval e X.env) :: starEach es X.env := by rfl) (hpl : (backTo pos (starEach es X.env)).any (fun x => x.1) = false := by rfl) : DE X (.Call (.Name x p) (e :: es) [] pos) (wCall w t) := pe_imp (pe_callB hc hg hm hv ha hn hdb he hpl) fun σ H Q h => call_lift h
theorem de_callTy {x : Str} {p pos : Pos} {e : Expr} {es : List Expr} {t : WA} {T : String} {w : WL} (hc : DC X (.type T) w) (hg : Gl X x) (hm : X.mg x = none) (hv : bootBuiltins x = some (.type T)) (ha : DA X (e :: es) t) (hn : x ≠ "__name__" := by decide)
    (hdb : (x == ("__debug__" : Str)) = false := by decide) (he : starEach (e :: es) X.env = (false, eval e X.env) :: starEach es X.env := by rfl) (hpl : (backTo pos (starEach es X.env)).any (fun x => x.1) = false := by rfl) : DE X (.Call (.Name x p) (e :: es) [] pos) (wCall w t) := pe_imp (pe_callTy hc hg hm hv ha hn hdb he hpl) fun σ H Q h => call_lift h

/-! ### statements -/
variable {st : Stmt} {sts : List Stmt} {ws wt : WS} {we : WE} {e : Expr}
def wNext : WS := fun E sd S => E.nx sd S
def wSeq (a b : WS) : WS := fun E sd S => a { E with nx := b E } sd S
theorem dss_nil : DSs X [] wNext := pss_imp pss_nil fun E σ H ⟨sd, S, E0, st, q, an⟩ => an.nx _ _ _ _ q (Nx.refl _ _) st
theorem dss_cons (h1 : DS X st ws) (h2 : DSs X sts wt) : DSs X (st :: sts) (wSeq ws wt) :=
  pss_imp (pss_cons h1 h2) fun E σ H ⟨sd, S, E0, st, q, an⟩ => ⟨sd, S, _, st, q, ⟨fun sd1 S1 σ1 H1 q1 n1 st1 => ⟨sd1, S1, E0, st1, q1, an.go n1⟩, an.rt, an.bk, an.ct⟩⟩
theorem dss_one (h1 : DS X st ws) : DSs X [st] ws := pss_one h1
def wBreak : WS := fun E sd S => E.bk sd S
def wCont : WS := fun E sd S => E.ct sd S
def wDrop (we : WE) : WS := fun E sd S => we sd S fun _ S1 => E.nx sd S1
theorem ds_expr (he : DE X e we) (hs : swapsWith e none pos.line X.env = pure false := by rfl) : DS X (.Expr e pos) (wDrop we) :=
  ps_imp (ps_expr he hs) fun E σ H ⟨sd, S, E0, st, q, an⟩ => ⟨sd, S, _, st, q, fun d S1 v H1 q1 n1 s1 r1 => an.nx _ _ _ _ q1 n1 (st.nx n1 s1)⟩
def wRet (we : WE) : WS := fun E sd S => we sd S E.rt
theorem ds_ret (he : DE X e we) : DS X (.Return (some e) pos) (wRet we) :=
  ps_imp (ps_ret he) fun E σ H ⟨sd, S, E0, st, q, an⟩ => ⟨sd, S, _, st, q, an.rt⟩
def wRetN : WS := fun E _ S => E.rt .non S
def wIfS (c : WT) (a b : WS) : WS := fun E sd S => c sd S fun k S1 => if k = true then a E sd S1 else b E sd S1
theorem ds_if {c : Expr} {a b : List Stmt} {tc : WT} (hc : DT X c tc) (ha : DSs X a ws) (hb : DSs X b wt) : DS X (.If c a b pos) (wIfS tc ws wt) := by
  refine ps_imp (ps_if hc ha hb) fun E σ H ⟨sd, S, E0, st, q, an⟩ => ⟨sd, S, _, st, q, fun k S1 H1 q1 n1 s1 => ?_⟩
  cases k with
  | true => exact ⟨sd, S1, E0, st.nx n1 s1, q1, an.go n1⟩
  | false => exact ⟨sd, S1, E0, st.nx n1 s1, q1, an.go n1⟩
/-! ### targets -/
def gV (i : Nat) : WG := fun d sd S Q => Q (sd.set i (some d)) S
theorem dg_v {i : Nat} {x : Str} {pos : Pos} (hN : X.N.Nodup) (hi : X.N[i]? = some x := by rfl) (hx : Loc X.env.scope x := by first | exact Or.inl rfl | exact Or.inr rfl) (hf : X.fn x = true ∨ X.env.scope.names.lookup x = some .local := by first | exact .inl rfl | exact .inr rfl | assumption) : DG X (.Name x pos) (gV i) :=
  pg_imp (pg_name hN hi hx hf) fun v σ H Q ⟨d, sd, S, Q0, st, r, q, an⟩ => an _ _ _ _ q (Nx.refl _ _) (st.set i r)
def gN : WGs := fun ds sd S Q => ds = [] ∧ Q sd S
def gC (g : WG) (r : WGs) : WGs := fun ds sd S Q => match ds with
  | [] => False
  | d :: ds => g d sd S fun sd1 S1 => r ds sd1 S1 Q
/-- (a, b, ..) = a tuple -/
def gT (n : Nat) (r : WGs) : WG := fun d sd S Q => match d with
  | .tup xs => xs.length = n ∧ r xs sd S Q
  | _ => False
def wAsg (we : WE) (g : WG) : WS := fun E sd S => we sd S fun d S1 => g d sd S1 E.nx
theorem ds_set {i : Nat} {x : Str} {e : Expr} {pos' : Pos} (hN : X.N.Nodup) (he : DE X e we) (hi : X.N[i]? = some x := by rfl) (hx : Loc X.env.scope x := by first | exact Or.inl rfl | exact Or.inr rfl) (hs : swapsWith e (some (.Name x pos')) pos.line X.env = pure false := by rfl)
    (hf : X.fn x = true ∨ X.env.scope.names.lookup x = some .local := by first | exact .inl rfl | exact .inr rfl | assumption) : DS X (.Assign [.Name x pos'] e pos) (wAsg we (gV i)) :=
  ps_imp (ps_set hN hi hx he hs hf) fun E σ H ⟨sd, S, E0, st, q, an⟩ => ⟨sd, S, _, st, q, fun d S1 v H1 q1 n1 s1 r1 => an.nx _ _ _ _ q1 n1 ((st.nx n1 s1).set i r1)⟩
end
end L2.DL

/-! DL3: defs: what they promise over data (no repr is being made around them), calls, methods, makings, attributes -/
namespace L2.DL
open PySem PySem.Spec PyProof.Rows

/-- HandS's FnOk where, besides, no guard stands around -/
structure FnG (P : Program) (w : World) (K : PySem.W.Frag) (mg : Str → Option Value) (base : Heap) (CX : CXT) (k : Nat) (f : Addr) (fd : FuncData) (ps : List Str) (sp : Sp) : Prop where
  len : ∀ vs H Q E, sp vs H Q E → vs.length = ps.length
  go : ∀ (A : Around) (outer : List Env) (s : Shared) (H : Hp) (args : Args) (us : List Value) (vs : List V) (Q : VK) (E : XK), Room k A → A.guards = some [] → Env0 P w K mg base A outer s H →
    BindsTo s fd args (ps.zip us) → Vals vs us → sp vs H Q E → codeAny (model P w) A (.call (.ref f) args) (CR CX outer P w H s Q E) s
section
variable {P : Program} {w : World} {K : PySem.W.Frag} {mg : Str → Option Value} {base : Heap} {CX : CXT} {k j : Nat} {f : Addr} {fd : FuncData} {ps : List Str} {sp sp' : Sp}
theorem FnG.of (F : FnOk P w K mg base CX k f fd ps sp) : FnG P w K mg base CX k f fd ps sp := ⟨F.len, fun A outer s H args us vs Q E hr _ e b r h => F.run A outer s H args us vs Q E hr e b r h⟩
theorem FnG.up (F : FnG P w K mg base CX j f fd ps sp) (h : j ≤ k) : FnG P w K mg base CX k f fd ps sp := ⟨F.len, fun A outer s H args us vs Q E hr hg e b r q => F.go A outer s H args us vs Q E (hr.mono h) hg e b r q⟩
theorem FnG.imp (F : FnG P w K mg base CX k f fd ps sp) (h : ∀ vs H Q E, sp' vs H Q E → sp vs H Q E) : FnG P w K mg base CX k f fd ps sp' :=
  ⟨fun vs H Q E q => F.len vs H Q E (h _ _ _ _ q), fun A outer s H args us vs Q E hr hg e b r q => F.go A outer s H args us vs Q E hr hg e b r (h _ _ _ _ q)⟩
/-- a def's object as the written part holds it -/
def FnAt (K : PySem.W.Frag) (qual : Str) (st : Stmt) (f : Addr) (fd : FuncData) : Prop := ∃ (x : Str) (oc : Value) (od : Option Addr) (dV kV doc pm : Value) (an : Option Addr) (cdv ct : Value) (osl : Array (Option Value)),
  fd = PySem.W.fnOf x qual (defArgs st) (defBody st) (defScope st) dV kV doc pm an cdv ct ∧ K.lookup f = some ⟨oc, od, .func fd, osl⟩ ∧ PySem.W.codeIn K cdv qual = true
theorem fun_at {x qual : Str} {st : Stmt} (F : Fun K x qual st f fd) : FnAt K qual st f fd := let ⟨oc, od, kV, doc, pm, an, cdv, ct, osl, h⟩ := F.ex; ⟨x, oc, od, _, kV, doc, pm, an, cdv, ct, osl, h⟩
/-- a def keeps its promise if its body does -/
theorem fnG_body {qual : Str} {st : Stmt} {N : List Str} (F : FnAt K qual st f fd) (S : FnScope N ps (defScope st)) (len : ∀ vs H Q E, sp vs H Q E → vs.length = ps.length)
    (body : ∀ (cdv : Value) (A : Around) (outer : List Env) (s : Shared) (H : Hp) (vs : List V) (Q : VK) (E : XK), Room k (A.deeper (envOfC qual (defScope st) s.heap.objs.size f cdv)) → (A.deeper (envOfC qual (defScope st) s.heap.objs.size f cdv)).guards = some [] → sp vs H Q E →
      ∃ t, PSs (cxOf CX P w K mg base N qual (defScope st) f cdv A outer s H E) (defBody st) t ∧ t { nx := fun _ H' => Q .non H', rt := Q } (start N vs) H) : FnG P w K mg base CX (k + 1) f fd ps sp := by
  obtain ⟨x, oc, od, dV, kV, doc, pm, an, cdv, ct, osl, rfl, lk, hcd⟩ := F
  refine ⟨len, fun A outer s H args us vs Q E hr hg e0 hb r hsp => ?_⟩
  have keepB : ∀ b o, base.get? b = some o → s.heap.get? b = some o := fun b o e => (e0.bs b o e).1
  have kinds : ∀ y ∈ ps.zip us, (defScope st).names.lookup y.1 = some .local ∨ ((defScope st).names.lookup y.1 = some .cell ∧ ((cellsFrom (s.heap.objs.size + 1) (defScope st).names []).lookup y.1).isSome = true) := by
    rintro ⟨n, v⟩ hy
    exact (S.par n (List.of_mem_zip hy).1).imp id fun q => ⟨q, PySem.W.cellsFrom_some _ _ _ (.inl q)⟩
  refine codeAny_call_function hr.depth (e0.mod.kin.keeps keepB _ _ lk) rfl S.co S.gen rfl (PySem.W.codeRec_of (e0.mod.kin.keeps keepB) hcd) (hb _ _ _ _ (wpAny_newFunctionEnv_cells S.kind kinds fun env he s1 x => ?_))
  subst he
  refine ⟨(e0.mod.nolimit.keeps keepB).keeps x.toInCall.keep, codeAny_func ?_⟩
  obtain ⟨t, ht, hq⟩ := body cdv A outer s H vs Q E (hr.deeper _) hg hsp
  have I := inv_start (CX := CX) (E := E) S hr.hd e0 (len _ _ _ _ hsp) r x
  refine wpAny_mono (ht.run [] s1 _ H _ I hq) (fun fl s' hs => ?_) fun _ _ hs => hs
  cases fl with
  | ret u => exact let ⟨v, _, H', J, rv, q⟩ := hs; ⟨v, H', J.os, J.bare, J.base, J.hok, rv, q⟩
  | next => exact let ⟨_, H', J, q⟩ := hs; ⟨.non, H', J.os, J.bare, J.base, J.hok, rfl, q⟩
  | brk => exact let ⟨_, _, _, q⟩ := hs; q.elim
  | cont => exact let ⟨_, _, _, q⟩ := hs; q.elim
end
section
variable {X : Cx} {CX : CXT} {k : Nat} {f C : Addr} {fd : FuncData} {ps ks : List Str} {sp : Sp} {dvs : List V} {ds : List Value} {E : XK} {x m : Str} {p pos apos : Pos} {e o : Expr} {es : List Expr} {kws : List Keyword} {ta : TE} {t tk : TA}
theorem CE.call {pins : List (Addr × Obj)} {σ : St} {H : Hp} {s s' : Shared} {Q : VK} {r : Result} (I : Inv X pins σ H s) (hx : Passes CX X E) (h : CR CX X.stack X.prog X.w H s Q E r s') :
    match r with
    | .ok (.ret u) => EP X pins σ Q u s'
    | .ok _ => False
    | .error er => X.xe er s' := by
  cases r with
  | error er => exact hx pins σ H s er s' I h
  | ok fl =>
    cases fl with
    | ret u => exact I.after h
    | next => exact h
    | brk => exact h
    | cont => exact h
theorem runG {pins : List (Addr × Obj)} {σ : St} {H : Hp} {s : Shared} {Q : VK} {args : Args} {us : List Value} {vs : List V} (F : FnG X.prog X.w X.K X.mg X.base CX k f fd ps sp) (hr : Room k X.A) (gd : X.A.guards = some []) (hx : Passes CX X E)
    (I : Inv X pins σ H s) (hb : BindsTo s fd args (ps.zip us)) (r : Vals vs us) (h : sp vs H Q E) : wpAny (model X.prog X.w) X.A (call (.ref f) args.pos args.kw) (EP X pins σ Q) X.xe s := by
  refine wpAny_call (codeAny_mono (F.go X.A X.stack s H args us vs Q E hr gd I.env0 hb r h) fun rs s' hq => ?_)
  have z := CE.call I hx hq
  cases rs with
  | error er => exact z
  | ok fl =>
    cases fl with
    | ret u => exact z
    | next => exact z.elim
    | brk => exact z.elim
    | cont => exact z.elim
theorem runB {pins : List (Addr × Obj)} {σ : St} {H : Hp} {s : Shared} {Q : VK} {us : List Value} {vs : List V} (F : FnG X.prog X.w X.K X.mg X.base CX k f fd ps sp) (hr : Room k X.A) (gd : X.A.guards = some []) (hb : Binds X.K fd ps ds) (hd : Vals dvs ds) (hx : Passes CX X E)
    (I : Inv X pins σ H s) (r : Vals vs us) (h : sp (vs ++ dvs) H Q E) : wpAny (model X.prog X.w) X.A (call (.ref f) us) (EP X pins σ Q) X.xe s := by
  have r2 := r.append hd
  exact runG (args := ⟨us, []⟩) F hr gd hx I (hb s us I.kIn (by rw [← r2.length]; exact F.len _ _ _ _ h)) r2 h
theorem peG_call (F : FnG X.prog X.w X.K X.mg X.base CX k f fd ps sp) (hr : Room k X.A) (gd : X.A.guards = some []) (hg : Gl X x) (hm : X.mg x = some (.ref f)) (hk : PySem.W.keepIn X.K (.ref f) = true) (hb : Binds X.K fd ps ds) (hd : Vals dvs ds) (hx : Passes CX X E)
    (ha : PA X (e :: es) t) (hdb : (x == ("__debug__" : Str)) = false := by decide) (he : starEach (e :: es) X.env = (false, eval e X.env) :: starEach es X.env := by rfl) (hpl : (backTo pos (starEach es X.env)).any (·.1) = false := by rfl) :
    PE X (.Call (.Name x p) (e :: es) [] pos) (tCall sp dvs E t) :=
  ⟨fun pins s σ H Q I h => wpAny_Call_Name_kw (ld_glob I hg hm (PySem.W.callWith_K (h₀ := X.base) I.ok.mod.kin hk (thn (ha.run pos pins s σ H _ I h) fun us s1 ⟨vs, H1, I1, r, q⟩ => ⟨I1.kIn, runB F hr gd hb hd hx I1 r q⟩) he hpl) hdb)⟩
/-! ### .. over data -/
/-- a promise over data: the arguments, the objects, what is wanted of the answer, what is wanted of an error (its class, its attributes) -/
abbrev EK := Str → List (Str × D) → SO → Prop
abbrev DSp := List D → SO → KD → EK → Prop
def AnsX (K : PySem.W.Frag) (S : SO) (H : Hp) (E0 : EK) (E : XK) : Prop := ∀ n fs S' H' C d, E0 n fs S' → Nx S H S' H' → SRel K S' H' → PySem.W.nsIn K mainGlobals n = some (some (.ref C)) → ErrF K S' H' d fs → E (.ref C) d H'
def liftSp (K : PySem.W.Frag) (sp : DSp) : Sp := fun vs H Q E => ∃ ds S Q0 E0, SRel K S H ∧ Rels K S H ds vs ∧ sp ds S Q0 E0 ∧ Ans K S H Q0 Q ∧ AnsX K S H E0 E
abbrev NoE : EK := fun _ _ _ => False
theorem noE_ans {K : PySem.W.Frag} {S : SO} {H : Hp} {E : XK} : AnsX K S H NoE E := fun _ _ _ _ _ _ h => h.elim
abbrev FnD (P : Program) (w : World) (K : PySem.W.Frag) (mg : Str → Option Value) (base : Heap) (k : Nat) (f : Addr) (fd : FuncData) (ps : List Str) (sp : DSp) : Prop := FnG P w K mg base CX0 k f fd ps (liftSp K sp)

variable {dsp : DSp} {dds : List D} {wt wk : WA} {wo : WE}
/-- f(..); the defaults dds -/
def wFn (sp : DSp) (dds : List D) (t : WA) : WE := fun sd S Q => t sd S fun xs S1 => sp (xs ++ dds) S1 Q NoE
/-- the defaults: values that hang on no heap -/
def Lits (dds : List D) (dvs : List V) : Prop := ∀ K S H, Rels K S H dds dvs
theorem lits_nil : Lits [] [] := fun _ _ _ => rfl
theorem de_fn (F : FnD X.prog X.w X.K X.mg X.base k f fd ps dsp) (hr : Room k X.A) (gd : X.A.guards = some []) (hm : X.mg x = some (.ref f)) (hk : PySem.W.keepIn X.K (.ref f) = true) (hb : Binds X.K fd ps ds) (hd : Vals dvs ds) (hl : Lits dds dvs) (ha : DA X (e :: es) wt)
    (hg : Gl X x := by rfl) (hdb : (x == ("__debug__" : Str)) = false := by decide) (he : starEach (e :: es) X.env = (false, eval e X.env) :: starEach es X.env := by rfl) (hpl : (backTo pos (starEach es X.env)).any (·.1) = false := by rfl) :
    DE X (.Call (.Name x p) (e :: es) [] pos) (wFn dsp dds wt) :=
  pe_imp (peG_call F hr gd hg hm hk hb hd (E := E0) pass0 ha hdb he hpl) fun σ H Q ⟨sd, S, Q0, st, q, an⟩ => ⟨sd, S, _, st, q, fun xs S1 vs H1 q1 n1 s1 r1 => ⟨xs ++ dds, S1, Q0, NoE, s1, r1.app (hl _ _ _), q1, an.nx n1, noE_ans⟩⟩
/-- f(k = v, ..): gD puts the values in the parameters' order -/
abbrev DK (X : Cx) (kws : List Keyword) (w : WA) : Prop := PK X kws (liftA X.K w)
theorem dk_nil : DK X [] wNil := ⟨fun pos pins s σ H Q I ⟨sd, S, Q0, st, q, an⟩ => pk_nil.run pos pins s σ H Q I (an _ _ _ _ q (Nx.refl _ _) st.s rfl)⟩
theorem dk_cons {nm : Option Str} {kpos : Pos} {w : WE} (he : DE X e w) (hr : DK X kws wk) : DK X (⟨nm, e, kpos⟩ :: kws) (wCons w wk) :=
  ⟨fun pos pins s σ H Q I ⟨sd, S, Q0, st, q, an⟩ => (pk_cons he hr).run pos pins s σ H Q I ⟨sd, S, _, st, q, fun x S1 v H1 q1 n1 s1 r1 => ⟨sd, S1, _, st.nx n1 s1, q1, fun xs S2 vs H2 q2 n2 s2 r2 => an _ _ _ _ q2 (n1.trans n2) s2 ⟨v, vs, rfl, Rel.nx n2 _ _ r1, r2⟩⟩⟩⟩
/-- the instance d of the class at C, of these attributes -/
def InsD (C : Addr) (d : D) (S : SO) (fs : List (Str × D)) : Prop := match d with
  | .ins C' gs => C' = C ∧ gs = fs
  | .obj a => S a = some (.ins C fs)
  | _ => False
theorem InsD.at {K : PySem.W.Frag} {S : SO} {H : Hp} {d : D} {v : V} {fs : List (Str × D)} (h : InsD C d S fs) (s : SRel K S H) (r : Rel K S H d v) : ∃ a dx l, v = .ref a ∧ H a = some (.ins C dx l) ∧ RelF K S H fs l := by
  cases d with
  | ins C' gs =>
    obtain ⟨rfl, rfl⟩ := h
    obtain ⟨a, dx, l, e, _, hl, rf⟩ := r
    exact ⟨a, dx, l, e, hl, rf⟩
  | obj a =>
    obtain ⟨dx, l, hl, rf⟩ := s a _ h
    exact ⟨a, dx, l, r, hl, rf⟩
  | _ => exact False.elim h
/-- o.m(..) -/
def wMeth (C : Addr) (m : Str) (sp : DSp) (dds : List D) (wo : WE) (t : WA) : WE := fun sd S Q => wo sd S fun d S1 => (∃ fs, InsD C d S1 fs ∧ fs.lookup m = none) ∧ t sd S1 fun xs S2 => sp (d :: (xs ++ dds)) S2 Q NoE
/-- .. frozen at the end -/
def wMakeF (C : Addr) (sp : DSp) (dds : List D) (t : WA) : WE := fun sd S Q => t sd S fun xs S1 => ∀ p, S1 p = none → sp (.obj p :: (xs ++ dds)) (S1.set p (.ins C [])) (fun d S2 => d = .non ∧ ∃ fs, S2 p = some (.ins C fs) ∧ Q (.ins C fs) (S2.del p)) NoE
theorem nx_del {S : SO} {H : Hp} (p : Addr) : Nx S H (S.del p) H := fun a u h1 h2 => ⟨by unfold SO.del; split; rfl; exact h1, h2⟩
theorem srel_del {K : PySem.W.Frag} {S : SO} {H : Hp} (s : SRel K S H) (p : Addr) : SRel K (S.del p) H := fun a u q => by
  have q' : S a = some u := by
    unfold SO.del at q
    split at q
    · cases q
    · exact q
  exact (s a u q').nx (nx_del p) rfl
theorem del_at {S : SO} {p : Addr} : (S.del p) p = none := if_pos rfl
/-- nobody changes it any more -/
theorem frz_ins {K : PySem.W.Frag} {S : SO} {H : Hp} {p : Addr} {fs : List (Str × D)} (s : SRel K S H) (h : S p = some (.ins C fs)) : Nx S H (S.del p) H ∧ SRel K (S.del p) H ∧ Rel K (S.del p) H (.ins C fs) (.ref p) := by
  obtain ⟨dx, l, hl, rf⟩ := s p _ h
  exact ⟨nx_del p, srel_del s p, p, dx, l, rfl, del_at, hl, RelF.nx (nx_del p) _ _ rf⟩
theorem frz_lst {K : PySem.W.Frag} {S : SO} {H : Hp} {p : Addr} {ds : List D} (s : SRel K S H) (h : S p = some (.lst ds)) : Nx S H (S.del p) H ∧ SRel K (S.del p) H ∧ Rel K (S.del p) H (.lst ds) (.ref p) := by
  obtain ⟨l, hl, rf⟩ := s p _ h
  exact ⟨nx_del p, srel_del s p, p, l, rfl, del_at, hl, rf.nx (nx_del p)⟩
theorem frz_dic {K : PySem.W.Frag} {S : SO} {H : Hp} {p : Addr} {t : Bool} {kvs : List (D × D)} (s : SRel K S H) (h : S p = some (.dic t kvs)) : Nx S H (S.del p) H ∧ SRel K (S.del p) H ∧ Rel K (S.del p) H (.dic t kvs) (.ref p) := by
  rcases s p _ h with ⟨l, ht, hl, rf⟩ | ⟨l, ht, hl, rf⟩
  · exact ⟨nx_del p, srel_del s p, p, rfl, del_at, .inl ⟨l, ht, hl, RelK.nx (nx_del p) _ _ rf⟩⟩
  · exact ⟨nx_del p, srel_del s p, p, rfl, del_at, .inr ⟨l, ht, hl, RelT.nx (nx_del p) _ _ rf⟩⟩
/-- o.f, an attribute -/
def wFld (C : Addr) (g : Str) (wo : WE) : WE := fun sd S Q => wo sd S fun d S1 => ∃ fs v, InsD C d S1 fs ∧ fs.lookup g = some v ∧ Q v S1
theorem RelF.length {K : PySem.W.Frag} {S : SO} {H : Hp} : ∀ {fs : List (Str × D)} {l : List (Str × V)}, RelF K S H fs l → fs.length = l.length
  | [], _, h => by
    have e : _ = [] := h
    rw [e]
    rfl
  | (y, d') :: fs, _, h => by
    obtain ⟨u, t, rfl, h1, h2⟩ := h
    rw [List.length_cons, List.length_cons, h2.length]
end
end L2.DL

/-! DL4: a def's promise by its body; loops; list comprehensions -/
namespace L2.DL
open PySem PySem.Spec PyProof.Rows

/-! ### what a result is worth when objects are forgotten or change no more -/
structure Rf (S : SO) (d : D) (S0 : SO) (d0 : D) : Prop where
  sub : ∀ a, S a = none → S0 a = none
  srel : ∀ K H, SRel K S H → SRel K S0 H
  rel : ∀ K H v, SRel K S H → Rel K S H d v → Rel K S0 H d0 v
theorem Rf.refl (S : SO) (d : D) : Rf S d S d := ⟨fun _ h => h, fun _ _ h => h, fun _ _ _ _ h => h⟩
theorem Rf.trans {S S1 S2 : SO} {d d1 d2 : D} (a : Rf S d S1 d1) (b : Rf S1 d1 S2 d2) : Rf S d S2 d2 := ⟨fun x h => b.sub x (a.sub x h), fun K H h => b.srel K H (a.srel K H h), fun K H v s h => b.rel K H v (a.srel K H s) (a.rel K H v s h)⟩
theorem Rf.to {S S0 : SO} (d : D) (h : ∀ a o, S0 a = some o → S a = some o) : Rf S d S0 d := by
  have sub : ∀ a, S a = none → S0 a = none := fun a e => by
    cases q : S0 a with
    | none => rfl
    | some o =>
      rw [h a o q] at e
      cases e
  have nx : ∀ H, Nx S H S0 H := fun H a u h1 h2 => ⟨sub a h1, h2⟩
  exact ⟨sub, fun K H s a o q => (s a o (h a o q)).nx (nx H) rfl, fun K H v _ r => Rel.nx (nx H) d v r⟩
theorem Rf.drop (S : SO) (d : D) (p : Addr) : Rf S d (S.del p) d := .to d fun a o q => by
  unfold SO.del at q
  split at q
  · cases q
  · exact q
theorem Rf.lst {S : SO} {p : Addr} {ds : List D} (h : S p = some (.lst ds)) : Rf S (.obj p) (S.del p) (.lst ds) := by
  have z := Rf.drop S (.obj p) p
  refine ⟨z.sub, z.srel, fun K H v s r => ?_⟩
  have e : v = .ref p := r
  rw [e]
  exact (frz_lst s h).2.2
theorem Rf.dic {S : SO} {p : Addr} {t : Bool} {ds : List (D × D)} (h : S p = some (.dic t ds)) : Rf S (.obj p) (S.del p) (.dic t ds) := by
  have z := Rf.drop S (.obj p) p
  refine ⟨z.sub, z.srel, fun K H v s r => ?_⟩
  have e : v = .ref p := r
  rw [e]
  exact (frz_dic s h).2.2
theorem Rf.ins {S : SO} {p C : Addr} {fs : List (Str × D)} (h : S p = some (.ins C fs)) : Rf S (.obj p) (S.del p) (.ins C fs) := by
  have z := Rf.drop S (.obj p) p
  refine ⟨z.sub, z.srel, fun K H v s r => ?_⟩
  have e : v = .ref p := r
  rw [e]
  exact (frz_ins s h).2.2
theorem Rf.pair {S S1 S2 : SO} {a b a1 b1 : D} (h1 : Rf S a S1 a1) (h2 : Rf S1 b S2 b1) : Rf S (.tup [a, b]) S2 (.tup [a1, b1]) := by
  refine ⟨fun x h => h2.sub x (h1.sub x h), fun K H h => h2.srel K H (h1.srel K H h), fun K H v s r => ?_⟩
  obtain ⟨p, vs, e, t, rs⟩ := r
  obtain ⟨x, y, rfl, ra, rb⟩ := rs.two
  have n1 : Nx S H S1 H := fun a u q1 q2 => ⟨h1.sub a q1, q2⟩
  have n2 : Nx S1 H S2 H := fun a u q1 q2 => ⟨h2.sub a q1, q2⟩
  have s1 := h1.srel K H s
  exact ⟨p, _, e, (t.nx n1).nx n2, x, _, rfl, Rel.nx n2 _ _ (h1.rel K H x s ra), y, _, rfl, h2.rel K H y s1 (Rel.nx n1 _ _ rb), rfl⟩
/-- .. wanted of it -/
def Cl (Q : KD) : KD := fun d S' => ∃ d0 S0, Rf S' d S0 d0 ∧ Q d0 S0
theorem Cl.ans {K : PySem.W.Frag} {S : SO} {H : Hp} {Q0 : KD} {Q : VK} (an : Ans K S H Q0 Q) : Ans K S H (Cl Q0) Q := fun d S' v H' ⟨d0, S0, rf, q⟩ n s r =>
  an d0 S0 v H' q (fun a u h1 h2 => let ⟨p, q⟩ := n a u h1 h2; ⟨rf.sub a p, q⟩) (rf.srel K H' s) (rf.rel K H' v s r)
theorem Cl.of {Q : KD} {d : D} {S : SO} (h : Q d S) : Cl Q d S := ⟨d, S, .refl _ _, h⟩
def endsOf (Q : KD) : EndsD := { nx := fun _ S' => Cl Q .non S', rt := Cl Q }
def startD (N : List Str) (ds : List D) : SD := ds.map some ++ List.replicate (N.length - ds.length) none
theorem start_rel {K : PySem.W.Frag} {S : SO} {H : Hp} {N : List Str} {ds : List D} {vs : List V} (r : Rels K S H ds vs) : RelS K S H (startD N ds) (start N vs) := by
  have hl := r.length
  refine ⟨by unfold startD start; rw [List.length_append, List.length_append, List.length_map, List.length_map, List.length_replicate, List.length_replicate, hl], fun i d e => ?_⟩
  unfold startD at e
  by_cases hi : i < ds.length
  · rw [List.getElem?_append_left (by simpa using hi), List.getElem?_map] at e
    cases q : ds[i]? with
    | none =>
      rw [q] at e
      cases e
    | some d' =>
      rw [q] at e
      cases e
      obtain ⟨v, hv, rv⟩ := r.get q
      refine ⟨v, ?_, rv⟩
      unfold start
      rw [List.getElem?_append_left (by rw [List.length_map]; omega), List.getElem?_map, hv]
      rfl
  · rw [List.getElem?_append_right (by simpa using hi), List.getElem?_replicate] at e
    split at e <;> cases e
section
variable {P : Program} {w : World} {K : PySem.W.Frag} {mg : Str → Option Value} {base : Heap}
/-- THE RULE for a def -/
theorem fnD_ok {k : Nat} {f : Addr} {fd : FuncData} {qual : Str} {st : Stmt} {N ps : List Str} {sp : DSp} {w0 : WS} (F : FnAt K qual st f fd) (S : FnScope N ps (defScope st)) (len : ∀ ds S Q E, sp ds S Q E → ds.length = ps.length)
    (body : ∀ (cdv : Value) (A : Around) (outer : List Env) (s : Shared) (H : Hp) (E : XK), Room k (A.deeper (envOfC qual (defScope st) s.heap.objs.size f cdv)) → (A.deeper (envOfC qual (defScope st) s.heap.objs.size f cdv)).guards = some [] →
      DSs (cxOf CX0 P w K mg base N qual (defScope st) f cdv A outer s H E).nox (defBody st) w0)
    (hw : ∀ ds S Q E, sp ds S Q E → w0 (endsOf Q) (startD N ds) S) : FnD P w K mg base (k + 1) f fd ps sp := by
  refine fnG_body F S (fun vs H Q E ⟨ds, S, Q0, E0, _, r, h, _⟩ => by rw [← r.length]; exact len _ _ _ _ h) fun cdv A outer s H vs Q E hr hg ⟨ds, S, Q0, E0, sr, r, h, an, _⟩ => ?_
  refine ⟨_, (body cdv A outer s H E hr hg).nox, startD N ds, S, endsOf Q0, ⟨sr, start_rel r⟩, hw ds S Q0 E0 h, fun sd S' σ H' q n st => ?_, Cl.ans an, fun _ _ _ _ q => q.elim, fun _ _ _ _ q => q.elim⟩
  exact Cl.ans an .non S' .non H' q n st.s rfl
end

/-! ### what is walked -/
structure ItD where
  items : List D
  ok : SO → Prop
structure JRel (K : PySem.W.Frag) (S0 : SO) (H0 : Hp) (J : ItD) (JV : It) : Prop where
  go : ∀ i S H, Nx S0 H0 S H → SRel K S H → J.ok S → i < J.items.length → JV.go i H
  stop : ∀ i S H, Nx S0 H0 S H → SRel K S H → J.ok S → i = J.items.length → JV.stop i H
  yld : ∀ i S H x H' d, Nx S0 H0 S H → SRel K S H → J.ok S → J.items[i]? = some d → JV.yld i H x H' → Nx S H S H' ∧ SRel K S H' ∧ Rel K S H' d x
abbrev WI := SD → SO → (ItD → SO → Prop) → Prop
def liftI (K : PySem.W.Frag) (w : WI) : TI := fun σ H R => ∃ sd S R0, Sta K sd S σ H ∧ w sd S R0 ∧ ∀ J S' H' JV, R0 J S' → Nx S H S' H' → SRel K S' H' → JRel K S' H' J JV → R JV H'
abbrev DI (X : Cx) (tg iter : Expr) (w : WI) : Prop := PI X tg iter (liftI X.K w)
section
variable {X : Cx} {tg e : Expr} {we : WE} {pos : Pos}
theorem pi_imp {tg it : Expr} {t t' : TI} (h : PI X tg it t) (i : ∀ σ H R, t' σ H R → t σ H R) : PI X tg it t' := ⟨fun pins s σ H R I q => h.run pins s σ H R I (i σ H R q)⟩
/-- a list or a tuple by its items -/
def seqD (d : D) (S : SO) (R : List D → (SO → Prop) → Prop) : Prop := match d with
  | .lst xs => R xs fun _ => True
  | .src xs => R xs fun _ => True
  | .tup xs => R xs fun _ => True
  | .kt xs => R xs fun _ => True
  | .tf xs => R xs fun _ => True
  | .obj a => ∃ xs, S a = some (.lst xs) ∧ R xs fun S => S a = some (.lst xs)
  | _ => False
def wSeqI (we : WE) : WI := fun sd S R => we sd S fun d S1 => seqD d S1 fun xs ok => R ⟨xs, ok⟩ S1
theorem SqL.uniq {K : PySem.W.Frag} {S : SO} {H : Hp} {a : Addr} {xs : List D} (h : S a = some (.lst xs)) (s : SRel K S H) : ∃ vs, SqL K H a vs ∧ Rels K S H xs vs := let ⟨vs, e, r⟩ := s a _ h; ⟨vs, .of e, r⟩
theorem jrel_lst {K : PySem.W.Frag} {S0 : SO} {H0 : Hp} {a : Addr} {xs : List D} {ok : SO → Prop} (h : ∀ S H, Nx S0 H0 S H → SRel K S H → ok S → ∃ vs, SqL K H a vs ∧ Rels K S H xs vs) : JRel K S0 H0 ⟨xs, ok⟩ (Itl K a) where
  go := fun i S H n s o hi => by
    obtain ⟨vs, q, r⟩ := h S H n s o
    obtain ⟨v, hv, _⟩ := r.get (List.getElem?_eq_getElem hi)
    exact ⟨vs, v, q, hv⟩
  stop := fun i S H n s o hi => by
    obtain ⟨vs, q, r⟩ := h S H n s o
    exact ⟨vs, q, by rw [← r.length]; exact Nat.le_of_eq hi.symm⟩
  yld := fun i S H x H' d n s o hi y => by
    obtain ⟨vs, q, r⟩ := h S H n s o
    obtain ⟨rfl, y⟩ := y
    obtain ⟨v, hv, rv⟩ := r.get hi
    have e := y vs q
    rw [hv] at e
    cases e
    exact ⟨.refl _ _, s, rv⟩
theorem jrel_tup {K : PySem.W.Frag} {S0 : SO} {H0 : Hp} {a : Addr} {xs : List D} {ok : SO → Prop} (h : ∀ S H, Nx S0 H0 S H → SRel K S H → ok S → ∃ vs, SqT K H a vs ∧ Rels K S H xs vs) : JRel K S0 H0 ⟨xs, ok⟩ (Itt K a) where
  go := fun i S H n s o hi => by
    obtain ⟨vs, q, r⟩ := h S H n s o
    obtain ⟨v, hv, _⟩ := r.get (List.getElem?_eq_getElem hi)
    exact ⟨vs, v, q, hv⟩
  stop := fun i S H n s o hi => by
    obtain ⟨vs, q, r⟩ := h S H n s o
    exact ⟨vs, q, by rw [← r.length]; exact Nat.le_of_eq hi.symm⟩
  yld := fun i S H x H' d n s o hi y => by
    obtain ⟨vs, q, r⟩ := h S H n s o
    obtain ⟨rfl, y⟩ := y
    obtain ⟨v, hv, rv⟩ := r.get hi
    have e := y vs q
    rw [hv] at e
    cases e
    exact ⟨.refl _ _, s, rv⟩
def rList (K : PySem.W.Frag) : V → Hp → (It → Hp → Prop) → Prop := fun x H1 R => ∃ a, x = .ref a ∧ (∃ xs, SqL K H1 a xs) ∧ R (Itl K a) H1
def rTup (K : PySem.W.Frag) : V → Hp → (It → Hp → Prop) → Prop := fun x H1 R => ∃ a, x = .ref a ∧ (∃ xs, SqT K H1 a xs) ∧ R (Itt K a) H1
theorem iter_list {pins : List (Addr × Obj)} {s : Shared} {σ : St} {H : Hp} {x : V} {v : Value} {R : It → Hp → Prop} (I : Inv X pins σ H s) (rx : RelV x v) (h : rList X.K x H R) : wpAny (model X.prog X.w) X.A (pyIter v) (PIE X pins σ tg R) X.xe s := by
  obtain ⟨a, rfl, ⟨xs, hq⟩, q⟩ := h
  cases rx
  obtain ⟨its, rv, p, hz⟩ := I.list hq
  refine wpAny_pyIter_list p.isList ⟨s.heap.objs.size, [s.heap.objs.size], _, _, H, rfl, I.kept (t' := s.toks) fun b o e => Heap.get?_push_of_some _ e, turn_list a _, ⟨_, Heap.get?_push_size _ rfl, rfl, rfl⟩, fun b hb => ?_, q⟩
  obtain rfl : b = s.heap.objs.size := by simpa using hb
  exact I.fpOk (Nat.le_refl _) (I.hok.fresh (Nat.le_refl _))
theorem iter_tup {pins : List (Addr × Obj)} {s : Shared} {σ : St} {H : Hp} {x : V} {v : Value} {R : It → Hp → Prop} (I : Inv X pins σ H s) (rx : RelV x v) (h : rTup X.K x H R) : wpAny (model X.prog X.w) X.A (pyIter v) (PIE X pins σ tg R) X.xe s := by
  obtain ⟨a, rfl, ⟨xs, hq⟩, q⟩ := h
  cases rx
  obtain ⟨its, rv, p, hz⟩ := I.tuple hq
  refine wpAny_pyIter_tuple (show s.heap.IsTuple a its.toArray from p) ⟨s.heap.objs.size, [s.heap.objs.size], _, _, H, rfl, I.kept (t' := s.toks) fun b o e => Heap.get?_push_of_some _ e, turn_tuple a _, ⟨_, Heap.get?_push_size _ rfl, rfl, rfl⟩, fun b hb => ?_, q⟩
  obtain rfl : b = s.heap.objs.size := by simpa using hb
  exact I.fpOk (Nat.le_refl _) (I.hok.fresh (Nat.le_refl _))
theorem di_seq (he : DE X e we) : DI X tg e (wSeqI we) := by
  refine ⟨fun pins s σ H R I ⟨sd, S, R0, st, q, an⟩ => ?_⟩
  refine thn (he.run pins s σ H (fun v H1 => rList X.K v H1 R ∨ rTup X.K v H1 R) I ⟨sd, S, _, st, q, fun d S1 v H1 q1 n1 s1 r1 => ?_⟩) fun v s1 ⟨x, H1, I1, r1, q1⟩ => q1.elim (iter_list I1 r1) (iter_tup I1 r1)
  cases d with
  | lst xs =>
    obtain ⟨a, vs, e, t, hv, r⟩ := r1
    refine .inl ⟨a, e, ⟨vs, .of hv⟩, an _ _ _ _ q1 n1 s1 (jrel_lst fun S2 H2 n2 s2 _ => ⟨vs, .of (n2 a _ t hv).2, r.nx n2⟩)⟩
  | src xs =>
    obtain ⟨a, vs, e, t, r⟩ := r1
    refine .inl ⟨a, e, ⟨vs, t.sq⟩, an _ _ _ _ q1 n1 s1 (jrel_lst fun S2 H2 n2 s2 _ => ⟨vs, (t.nx n2).sq, r.nx n2⟩)⟩
  | tup xs =>
    obtain ⟨a, vs, e, t, r⟩ := r1
    refine .inr ⟨a, e, ⟨vs, t.sq⟩, an _ _ _ _ q1 n1 s1 (jrel_tup fun S2 H2 n2 s2 _ => ⟨vs, (t.nx n2).sq, r.nx n2⟩)⟩
  | tf xs =>
    obtain ⟨a, vs, e, t, r⟩ := r1
    refine .inr ⟨a, e, ⟨vs, t.sq⟩, an _ _ _ _ q1 n1 s1 (jrel_tup fun S2 H2 n2 s2 _ => ⟨vs, (t.nx n2).sq, r.nx n2⟩)⟩
  | kt xs =>
    obtain ⟨a, vs, e, t, r⟩ := r1
    refine .inr ⟨a, e, ⟨vs, t.sq⟩, an _ _ _ _ q1 n1 s1 (jrel_tup fun S2 H2 n2 s2 _ => ⟨vs, t.sq, r.nx n2⟩)⟩
  | obj a =>
    obtain ⟨xs, hx, q1⟩ := q1
    obtain ⟨vs, hq, r⟩ := SqL.uniq hx s1
    exact .inl ⟨a, r1, ⟨vs, hq⟩, an _ _ _ _ q1 n1 s1 (jrel_lst fun S2 H2 n2 s2 o => SqL.uniq o s2)⟩
  | _ => exact False.elim q1
/-- range(n), range(a, b) -/
def rangeD (a b : Int) : List D := (List.range (b - a).toNat).map fun i => .int (a + (i : Nat))
theorem rangeD_get {a b : Int} {i : Nat} {d : D} (h : (rangeD a b)[i]? = some d) : d = .int (a + i) ∧ i < (b - a).toNat := by
  unfold rangeD at h
  rw [List.getElem?_map] at h
  by_cases hi : i < (b - a).toNat
  · rw [List.getElem?_range hi] at h
    exact ⟨(Option.some.inj h).symm, hi⟩
  · rw [List.getElem?_eq_none (by simpa using hi)] at h
    cases h
theorem rangeD_len {a b : Int} : (rangeD a b).length = (b - a).toNat := by unfold rangeD; rw [List.length_map, List.length_range]
theorem jrel_rng {K : PySem.W.Frag} {S0 : SO} {H0 : Hp} {a b : Int} {ok : SO → Prop} : JRel K S0 H0 ⟨rangeD a b, ok⟩ (Itr a (b - a).toNat) where
  go := fun i S H n s o hi => by
    rw [rangeD_len] at hi
    exact hi
  stop := fun i S H n s o hi => by
    rw [rangeD_len] at hi
    exact Nat.le_of_eq hi.symm
  yld := fun i S H x H' d n s o hi y => by
    obtain ⟨rfl, rfl⟩ := y
    obtain ⟨rfl, _⟩ := rangeD_get hi
    exact ⟨.refl _ _, s, rfl⟩
/-- the arguments are one int, two ints -/
def int1 (xs : List D) (k : Int → Prop) : Prop := match xs with
  | [.int j] => k j
  | _ => False
def int2 (xs : List D) (k : Int → Int → Prop) : Prop := match xs with
  | [.int i, .int j] => k i j
  | _ => False
theorem int1_of {xs : List D} {k : Int → Prop} (h : int1 xs k) : ∃ j, xs = [.int j] ∧ k j := by
  unfold int1 at h
  split at h
  · exact ⟨_, rfl, h⟩
  · exact h.elim
theorem Rels.int1 {K : PySem.W.Frag} {S : SO} {H : Hp} {j : Int} {vs : List V} (r : Rels K S H [.int j] vs) : vs = [.int j] := by
  obtain ⟨v, r', rfl, rv, e⟩ := r
  have e' : r' = [] := e
  have ev : v = .int j := rv
  rw [e', ev]
theorem Rels.int2 {K : PySem.W.Frag} {S : SO} {H : Hp} {i j : Int} {vs : List V} (r : Rels K S H [.int i, .int j] vs) : vs = [.int i, .int j] := by
  obtain ⟨v, u, rfl, rv, ru⟩ := r.two
  have ev : v = .int i := rv
  have eu : u = .int j := ru
  rw [ev, eu]
def wRng1 (w : WA) : WI := fun sd S R => w sd S fun xs S1 => int1 xs fun j => -(2 ^ 62) ≤ j ∧ j < 2 ^ 62 ∧ R ⟨rangeD 0 j, fun _ => True⟩ S1
def wRng2 (w : WA) : WI := fun sd S R => w sd S fun xs S1 => int2 xs fun i j => (-(2 ^ 62) ≤ i ∧ i < 2 ^ 62 ∧ -(2 ^ 62) ≤ j ∧ j < 2 ^ 62) ∧ R ⟨rangeD i j, fun _ => True⟩ S1
theorem di_rng1 {a : Expr} {w : WA} {p pos : Pos} (hm : X.mg "range" = none) (ha : DA X [a] w) (hg : Gl X "range" := by rfl) (hs : starEach [a] X.env = [(false, eval a X.env)] := by rfl) : DI X tg (.Call (.Name "range" p) [a] [] pos) (wRng1 w) := by
  refine pi_imp (pi_range1 hg hm ha hs) fun σ H R ⟨sd, S, R0, st, q, an⟩ => ⟨sd, S, _, st, q, fun xs S1 vs H1 q1 n1 s1 r1 => ?_⟩
  obtain ⟨j, rfl, h1, h2, q1⟩ := int1_of q1
  refine ⟨j, r1.int1, h1, h2, an _ _ _ _ q1 n1 s1 ?_⟩
  have z := jrel_rng (K := X.K) (S0 := S1) (H0 := H1) (a := 0) (b := j) (ok := fun _ => True)
  rwa [Int.sub_zero] at z
/-! ### for, while -/
structure ForD (wi : WI) (g : WG) (b : WS) (E : EndsD) (sd : SD) (S : SO) : Prop where
  ex : wi sd S fun J S1 => ∃ Pv : Nat → SD → SO → Prop, Pv 0 sd S1 ∧ (∀ i sd S, Pv i sd S → J.ok S) ∧
  (∀ i d sd S, J.items[i]? = some d → Pv i sd S → g d sd S fun sd' S' => b { nx := Pv (i + 1), rt := E.rt, bk := E.nx, ct := Pv (i + 1) } sd' S') ∧ (∀ sd S, Pv J.items.length sd S → E.nx sd S)
def wFor (wi : WI) (g : WG) (b : WS) : WS := fun E sd S => ForD wi g b E sd S
theorem ds_for {iter : Expr} {body : List Stmt} {wi : WI} {g : WG} {b : WS} (hp : PassesOwn (model X.prog X.w) X.A X.env X.xe) (hc : X.calm = true) (hi : DI X tg iter wi) (hg : DG X tg g) (hb : DSs X body b) (hs : ∀ x, foldedSetIterable iter X.env x = pure x := by intro _; rfl) :
    DS X (.For tg iter body [] pos) (wFor wi g b) := by
  refine ps_imp (ps_for hp hc hi hg hb hs) fun E σ H ⟨sd, S, E0, st, q, an⟩ => ⟨sd, S, _, st, q.ex, fun J S1 H1 JV ⟨Pv, h0, hok, hst, hend⟩ n1 s1 jr => ?_⟩
  refine ⟨fun i m σ' H' => ∃ sd' S', m = J.items.length - i ∧ i ≤ J.items.length ∧ Pv i sd' S' ∧ Sta X.K sd' S' σ' H' ∧ Nx S1 H1 S' H', ⟨J.items.length, sd, S1, by simp, Nat.zero_le _, h0, st.nx n1 s1, .refl _ _⟩, ?_⟩
  rintro i m σ' H' ⟨sd', S', rfl, hile, hp', st', n'⟩
  have o := hok i sd' S' hp'
  by_cases hlt : i < J.items.length
  · refine .inr ⟨jr.go i S' H' n' st'.s o hlt, _, fun σ2 H2 (h : ∃ sd2 S2, Pv (i + 1) sd2 S2 ∧ Sta X.K sd2 S2 σ2 H2 ∧ Nx S1 H1 S2 H2) => ?_, fun x H2 hy => ?_⟩
    · obtain ⟨sd2, S2, h1, h2, h3⟩ := h
      exact ⟨J.items.length - (i + 1), by omega, sd2, S2, rfl, hlt, h1, h2, h3⟩
    · have hi' := List.getElem?_eq_getElem hlt
      obtain ⟨n2, s2, r2⟩ := jr.yld i S' H' x H2 _ n' st'.s o hi' hy
      refine ⟨_, sd', S', _, st'.nx n2 s2, r2, hst i _ sd' S' hi' hp', fun sd3 S3 σ3 H3 q3 n3 st3 => ?_⟩
      have nn := n'.trans (n2.trans n3)
      refine ⟨sd3, S3, _, st3, q3, fun sd4 S4 σ4 H4 q4 n4 st4 => ⟨sd4, S4, q4, st4, nn.trans n4⟩, an.rt.nx (n1.trans nn), an.nx.nx (n1.trans nn), fun sd4 S4 σ4 H4 q4 n4 st4 => ⟨sd4, S4, q4, st4, nn.trans n4⟩⟩
  · have e : i = J.items.length := by omega
    subst e
    exact .inl ⟨jr.stop _ S' H' n' st'.s o rfl, an.nx _ _ _ _ (hend sd' S' hp') (n1.trans n') st'⟩
end
end L2.DL

/-! DL5: list comprehensions -/
namespace L2.DL
open PySem PySem.Spec PyProof.Rows

def wipeD (sd : SD) : List Nat → SD
  | [] => sd
  | v :: vs => (wipeD sd vs).set v none
theorem wipe_get (σ : St) (vs : List Nat) (j : Nat) : (wipe σ vs)[j]? = if j ∈ vs then (σ[j]?).map (fun _ => none) else σ[j]? := by
  induction vs with
  | nil => simp [wipe]
  | cons v vs ih =>
    unfold wipe
    by_cases hj : v = j
    · subst hj
      by_cases hl : v < (wipe σ vs).length
      · rw [List.getElem?_set_self hl]
        rw [wipe_length] at hl
        rw [if_pos (List.mem_cons_self ..), List.getElem?_eq_getElem hl]
        rfl
      · rw [wipe_length] at hl
        have e : σ[v]? = none := List.getElem?_eq_none (by omega)
        rw [List.getElem?_eq_none (by rw [List.length_set, wipe_length]; omega), e]
        simp
    · rw [List.getElem?_set_ne hj, ih]
      by_cases hm : j ∈ vs
      · rw [if_pos hm, if_pos (List.mem_cons_of_mem _ hm)]
      · rw [if_neg hm, if_neg (by simp only [List.mem_cons, not_or]; exact ⟨fun e => hj e.symm, hm⟩)]
theorem wipe_set {σ : St} {vs : List Nat} {i : Nat} {x : Option V} (h : i ∈ vs) : wipe (σ.set i x) vs = wipe σ vs := by
  refine List.ext_getElem? fun j => ?_
  rw [wipe_get, wipe_get]
  by_cases hj : j ∈ vs
  · rw [if_pos hj, if_pos hj]
    by_cases hi : i = j
    · subst hi
      by_cases hl : i < σ.length
      · rw [List.getElem?_set_self hl, List.getElem?_eq_getElem hl]
        rfl
      · rw [List.getElem?_eq_none (by rw [List.length_set]; omega), List.getElem?_eq_none (by omega)]
    · rw [List.getElem?_set_ne hi]
  · rw [if_neg hj, if_neg hj, List.getElem?_set_ne fun e => hj (by rw [← e]; exact h)]
theorem wipe_wipe {σ : St} {vs : List Nat} : wipe (wipe σ vs) vs = wipe σ vs := by
  refine List.ext_getElem? fun j => ?_
  rw [wipe_get, wipe_get]
  by_cases hj : j ∈ vs
  · rw [if_pos hj, if_pos hj]
    cases σ[j]? with
    | none => rfl
    | some x => rfl
  · rw [if_neg hj, if_neg hj]
theorem wipeD_some {sd : SD} {i : Nat} {d : D} : ∀ {vs : List Nat}, (wipeD sd vs)[i]? = some (some d) → sd[i]? = some (some d) ∧ i ∉ vs
  | [], h => ⟨h, by simp⟩
  | v :: vs, h => by
    unfold wipeD at h
    by_cases hi : v = i
    · subst hi
      by_cases hv : v < (wipeD sd vs).length
      · rw [List.getElem?_set_self hv] at h
        cases h
      · rw [List.getElem?_eq_none (by simpa using hv)] at h
        cases h
    · rw [List.getElem?_set_ne hi] at h
      obtain ⟨h1, h2⟩ := wipeD_some h
      exact ⟨h1, by simp only [List.mem_cons, not_or]; exact ⟨fun e => hi e.symm, h2⟩⟩
theorem wipeD_length (sd : SD) : ∀ vs : List Nat, (wipeD sd vs).length = sd.length
  | [] => rfl
  | v :: vs => by unfold wipeD; rw [List.length_set, wipeD_length sd vs]
theorem Sta.wipe {K : PySem.W.Frag} {sd : SD} {S : SO} {σ : St} {H : Hp} (h : Sta K sd S σ H) (vs : List Nat) : Sta K (wipeD sd vs) S (L2.wipe σ vs) H := by
  refine ⟨h.s, by rw [wipeD_length, wipe_length]; exact h.r.1, fun i d e => ?_⟩
  obtain ⟨e1, e2⟩ := wipeD_some e
  obtain ⟨v, hv, r⟩ := h.r.2 i d e1
  exact ⟨v, by rw [wipe_out e2]; exact hv, r⟩

/-- a block's target: a name, a tuple of names -/
inductive NT where
  | n (i : Nat)
  | t (l : List Nat)
def NT.ix : NT → List Nat
  | .n i => [i]
  | .t l => l
def gNs : List Nat → TGs
  | [] => gNil
  | i :: l => gCons (gName i) (gNs l)
def gNT (K : PySem.W.Frag) : NT → TG
  | .n i => gName i
  | .t l => gTup K l.length (gNs l)
def putAll : List Nat → List D → SD → SD
  | i :: l, d :: ds, sd => putAll l ds (sd.set i (some d))
  | _, _, sd => sd
/-- the slots with the target's names set -/
def putNT : NT → D → SD → (SD → Prop) → Prop
  | .n i, d, sd, k => k (sd.set i (some d))
  | .t l, d, sd, k => match d with
    | .tup xs => xs.length = l.length ∧ k (putAll l xs sd)
    | _ => False
theorem gNs_go {K : PySem.W.Frag} {S : SO} {H : Hp} {vs : List Nat} {Q : St → Hp → Prop} : ∀ {l : List Nat} {ds : List D} {us : List V} {sd : SD} {σ : St}, (∀ i ∈ l, i ∈ vs) → ds.length = l.length → Rels K S H ds us → Sta K sd S σ H →
    (∀ σ2, Sta K (putAll l ds sd) S σ2 H → wipe σ2 vs = wipe σ vs → Q σ2 H) → gNs l us σ H Q
  | [], ds, us, sd, σ, hl, e, r, st, h => by
    cases ds with
    | nil =>
      have eu : us = [] := r
      exact ⟨eu, h σ st rfl⟩
    | cons _ _ => simp at e
  | i :: l, ds, us, sd, σ, hl, e, r, st, h => by
    cases ds with
    | nil => simp at e
    | cons d ds =>
      obtain ⟨v, r', rfl, rv, rr⟩ := r
      refine ⟨v, r', rfl, ?_⟩
      refine gNs_go (l := l) (fun j hj => hl j (List.mem_cons_of_mem _ hj)) (by simpa using e) rr (st.set i rv) fun σ2 st2 hw => h σ2 st2 ?_
      rw [hw, wipe_set (hl i (List.mem_cons_self ..))]
theorem nt_go {K : PySem.W.Frag} {S : SO} {H : Hp} {vs : List Nat} {Q : St → Hp → Prop} {nt : NT} {d : D} {v : V} {sd : SD} {σ : St} {k : SD → Prop} (hs : ∀ i ∈ nt.ix, i ∈ vs) (st : Sta K sd S σ H) (r : Rel K S H d v) (hk : putNT nt d sd k)
    (h : ∀ sd2 σ2, k sd2 → Sta K sd2 S σ2 H → wipe σ2 vs = wipe σ vs → Q σ2 H) : gNT K nt v σ H Q := by
  cases nt with
  | n i => exact h _ _ hk (st.set i r) (wipe_set (hs i (List.mem_cons_self ..)))
  | t l =>
    cases d with
    | tup xs =>
      obtain ⟨hl, hk⟩ := hk
      obtain ⟨a, us, e, t, rr⟩ := r
      exact ⟨a, us, e, t.sq, by rw [← rr.length]; exact hl, gNs_go hs hl rr st fun σ2 st2 hw => h _ σ2 hk st2 hw⟩
    | _ => exact False.elim hk

abbrev DTs (X : Cx) (ifs : List Expr) (w : WT) : Prop := PTs X ifs (liftT X.K w)
def wYes : WT := fun _ S Q => Q true S
section
variable {X : Cx}
theorem dts_nil : DTs X [] wYes := ⟨fun pins s σ H Q I ⟨sd, S, Q0, st, q, an⟩ => pts_nil.run pins s σ H Q I (an _ _ _ q (Nx.refl _ _) st.s)⟩
theorem dts_one {c : Expr} {w : WT} (h : DT X c w) : DTs X [c] w := pts_one h
/-- a reading with its wish weakened -/
def up (we : WE) : WE := fun sd S Q => ∃ Q0 : KD, we sd S Q0 ∧ ∀ d S', Q0 d S' → Q d S'
def upT (tt : WT) : WT := fun sd S Q => ∃ Q0 : Bool → SO → Prop, tt sd S Q0 ∧ ∀ d S', Q0 d S' → Q d S'
theorem up_lift {K : PySem.W.Frag} {we : WE} {σ : St} {H : Hp} {Q : VK} (h : lift K (up we) σ H Q) : lift K we σ H Q := let ⟨sd, S, Q0, st, ⟨Q1, q, i⟩, an⟩ := h; ⟨sd, S, Q1, st, q, fun d S' v H' q' => an d S' v H' (i d S' q')⟩
theorem upT_lift {K : PySem.W.Frag} {we : WT} {σ : St} {H : Hp} {Q : Bool → Hp → Prop} (h : liftT K (upT we) σ H Q) : liftT K we σ H Q := let ⟨sd, S, Q0, st, ⟨Q1, q, i⟩, an⟩ := h; ⟨sd, S, Q1, st, q, fun d S' H' q' => an d S' H' (i d S' q')⟩
/-- a list comprehension: p the new list, which the element may not touch; R what is wanted behind it -/
structure LcG (wi : WI) (nt : NT) (tt : WT) (we : WE) (vs : List Nat) (R : Addr → SO → Prop) (sd : SD) (S : SO) : Prop where
  ex : wi sd S fun J S1 => ∀ p, S1 p = none → ∃ Pv : Nat → SO → Prop, Pv 0 (S1.set p (.lst [])) ∧ (∀ i S, Pv i S → J.ok S) ∧
  (∀ i d S, J.items[i]? = some d → Pv i S → putNT nt d (wipeD sd vs) fun sd2 => upT tt sd2 S fun b S2 => if b = true then up we sd2 S2 fun y S3 => ∃ acc, S3 p = some (.lst acc) ∧ acc.length ≤ 1000000 ∧ Pv (i + 1) (S3.set p (.lst (acc ++ [y]))) else Pv (i + 1) S2) ∧
  (∀ S, Pv J.items.length S → R p S)
theorem lcG_tLc {wi : WI} {nt : NT} {tt : WT} {we : WE} {vs : List Nat} {R : Addr → SO → Prop} {σ : St} {H : Hp} {Q : VK} {sd : SD} {S : SO} (hs : ∀ i ∈ nt.ix, i ∈ vs) (st : Sta X.K sd S σ H) (q : LcG wi nt tt we vs R sd S)
    (hR : ∀ p S' H', R p S' → Nx S H S' H' → SRel X.K S' H' → Q (.ref p) H') : tLc (liftI X.K wi) (gNT X.K nt) (liftT X.K tt) (lift X.K we) vs σ H Q := by
  refine ⟨sd, S, _, st, q.ex, fun J S1 H1 JV q1 n1 s1 jr p hp => ?_⟩
  obtain ⟨Pv, h0, hok, hst, hend⟩ := q1 p (s1.free hp)
  have n2 : Nx S1 H1 (S1.set p (.lst [])) (upd H1 p (.lst [])) := nx_obj hp (s1.free hp)
  have s2 : SRel X.K (S1.set p (.lst [])) (upd H1 p (.lst [])) := srel_put s1 n2 ⟨[], upd_same, rfl⟩
  refine ⟨fun i m H' => ∃ S', m = J.items.length - i ∧ i ≤ J.items.length ∧ Pv i S' ∧ SRel X.K S' H' ∧ Nx S1 H1 S' H', ⟨J.items.length, _, by simp, Nat.zero_le _, h0, s2, n2⟩, ?_⟩
  rintro i m H' ⟨S', rfl, hile, hp', s', n'⟩
  have o := hok i S' hp'
  by_cases hlt : i < J.items.length
  · refine .inr ⟨jr.go i S' H' n' s' o hlt, fun H2 => ∃ S2, Pv (i + 1) S2 ∧ SRel X.K S2 H2 ∧ Nx S1 H1 S2 H2, fun H2 ⟨S2, h1, h2, h3⟩ => ⟨J.items.length - (i + 1), by omega, S2, rfl, hlt, h1, h2, h3⟩, fun x H2 hy => ?_⟩
    have hi' := List.getElem?_eq_getElem hlt
    obtain ⟨n3, s3, r3⟩ := jr.yld i S' H' x H2 _ n' s' o hi' hy
    have nn := n'.trans n3
    refine nt_go hs ((st.nx (n1.trans nn) s3).wipe vs) r3 (hst i _ S' hi' hp') fun sd2 σ2 hk st2 hw => ⟨by rw [hw, wipe_wipe], upT_lift ?_⟩
    refine ⟨sd2, S', _, st2, hk, fun b S4 H4 q4 n4 s4 => ?_⟩
    cases b with
    | false => exact ⟨S4, q4, s4, nn.trans n4⟩
    | true =>
      refine up_lift ⟨sd2, S4, _, st2.nx n4 s4, q4, fun y S5 v H5 ⟨acc, ha, hl, q5⟩ n5 s5 r5 => ?_⟩
      obtain ⟨us, hu, ru⟩ := s5 p _ ha
      have n6 : Nx S5 H5 (S5.set p (.lst (acc ++ [y]))) (upd H5 p (.lst (us ++ [v]))) := nx_put ha
      exact ⟨us, hu, by rw [← ru.length]; exact Nat.lt_of_le_of_lt hl (by rw [sizeLine_eq]; decide), _, q5, srel_put s5 n6 ⟨_, upd_same, (ru.app (.one r5)).nx n6⟩, nn.trans (n4.trans (n5.trans n6))⟩
  · have e : i = J.items.length := by omega
    subst e
    exact .inl ⟨jr.stop _ S' H' n' s' o rfl, hR p S' H' (hend S' hp') (n1.trans n') s'⟩
/-- .. the new list an object; frozen at the end -/
def wLc (wi : WI) (nt : NT) (tt : WT) (we : WE) (vs : List Nat) : WE := fun sd S Q => LcG wi nt tt we vs (fun p S' => Q (.obj p) S') sd S
def wLcF (wi : WI) (nt : NT) (tt : WT) (we : WE) (vs : List Nat) : WE := fun sd S Q => LcG wi nt tt we vs (fun p S' => ∃ acc, S' p = some (.lst acc) ∧ Q (.lst acc) (S'.del p)) sd S
/-- .. and its element and test change nothing and look at nothing that changes: the list is f of the items -/
def Ext (S S' : SO) : Prop := ∀ a o, S a = some o → S' a = some o
structure LcP (wi : WI) (nt : NT) (tt : WT) (we : WE) (vs : List Nat) (sd : SD) (S : SO) (Q : KD) : Prop where
  ex : ∃ R : ItD → SO → Prop, wi sd S R ∧ ∀ J S1, R J S1 → (∀ S', Ext S1 S' → J.ok S') ∧ J.items.length ≤ 1000000 ∧ ∃ f : D → Option D, (∀ d ∈ J.items, ∀ S', Ext S1 S' → putNT nt d (wipeD sd vs) fun sd2 =>
  tt sd2 S' fun b S2 => S2 = S' ∧ if b = true then up we sd2 S' fun y S3 => S3 = S' ∧ f d = some y else f d = none) ∧ Q (.lst (J.items.filterMap f)) S1
def wLcP (wi : WI) (nt : NT) (tt : WT) (we : WE) (vs : List Nat) : WE := fun sd S Q => LcP wi nt tt we vs sd S Q
theorem ext_set {S : SO} {p : Addr} {o : DO} (h : S p = none) : Ext S (S.set p o) := fun a u e => by rw [set_ne (so_ne e h)]; exact e
theorem lcP_turn {nt : NT} {tt : WT} {we : WE} {vs : List Nat} {sd : SD} {S1 : SO} {J : ItD} {f : D → Option D} {p : Addr} {i : Nat} {d : D} (hl : J.items.length ≤ 1000000) (hi : J.items[i]? = some d)
    (h : ∀ S', Ext S1 S' → putNT nt d (wipeD sd vs) fun sd2 => tt sd2 S' fun b S2 => S2 = S' ∧ if b = true then up we sd2 S' fun y S3 => S3 = S' ∧ f d = some y else f d = none) (hp : S1 p = none) :
    putNT nt d (wipeD sd vs) fun sd2 => upT tt sd2 (S1.set p (.lst ((J.items.take i).filterMap f))) fun b S2 => if b = true then up we sd2 S2 fun y S3 => ∃ acc, S3 p = some (.lst acc) ∧ acc.length ≤ 1000000 ∧ S3.set p (.lst (acc ++ [y])) = S1.set p (.lst ((J.items.take (i + 1)).filterMap f))
      else S2 = S1.set p (.lst ((J.items.take (i + 1)).filterMap f)) := by
  have hn := h _ (ext_set (o := .lst ((J.items.take i).filterMap f)) hp)
  have htk : (J.items.take (i + 1)).filterMap f = (J.items.take i).filterMap f ++ (f d).toList := by
    rw [List.take_add_one, hi, List.filterMap_append]
    cases q : f d with
    | none => simp [q]
    | some y => simp [q]
  have hlen : ((J.items.take i).filterMap f).length ≤ 1000000 := by
    have h1 := List.length_filterMap_le f (J.items.take i)
    have h2 : (J.items.take i).length ≤ J.items.length := by rw [List.length_take]; omega
    omega
  have go : ∀ sd2, (tt sd2 (S1.set p (.lst ((J.items.take i).filterMap f))) fun b S2 => S2 = S1.set p (.lst ((J.items.take i).filterMap f)) ∧ if b = true then up we sd2 (S1.set p (.lst ((J.items.take i).filterMap f))) fun y S3 => S3 = S1.set p (.lst ((J.items.take i).filterMap f)) ∧ f d = some y else f d = none) →
      upT tt sd2 (S1.set p (.lst ((J.items.take i).filterMap f))) fun b S2 => if b = true then up we sd2 S2 fun y S3 => ∃ acc, S3 p = some (.lst acc) ∧ acc.length ≤ 1000000 ∧ S3.set p (.lst (acc ++ [y])) = S1.set p (.lst ((J.items.take (i + 1)).filterMap f)) else S2 = S1.set p (.lst ((J.items.take (i + 1)).filterMap f)) := by
    intro sd2 hh
    refine ⟨_, hh, fun b S2 ⟨e2, q2⟩ => ?_⟩
    subst e2
    cases b with
    | false =>
      have q2' : f d = none := q2
      show _ = _
      rw [htk, q2']
      simp
    | true =>
      obtain ⟨Q0, q3, i3⟩ := q2
      refine ⟨Q0, q3, fun y S3 q4 => ?_⟩
      obtain ⟨e3, q5⟩ := i3 y S3 q4
      subst e3
      refine ⟨_, set_same, hlen, ?_⟩
      rw [set_set, htk, q5]
      rfl
  cases nt with
  | n j => exact go _ hn
  | t l =>
    cases d with
    | tup xs => exact ⟨hn.1, go _ hn.2⟩
    | _ => exact False.elim hn
variable {elt tg iter : Expr} {ifs : List Expr} {scope : Scope} {own : List (Str × Nat)} {pos : Pos} {wi : WI} {nt : NT} {tt : WT} {we : WE}
theorem lcP_tLc {σ : St} {H : Hp} {Q : VK} (hx : ∀ i ∈ nt.ix, i ∈ own.map (·.2)) (h : lift X.K (wLcP wi nt tt we (own.map (·.2))) σ H Q) : tLc (liftI X.K wi) (gNT X.K nt) (liftT X.K tt) (lift X.K we) (own.map (·.2)) σ H Q := by
  obtain ⟨sd, S, Q0, st, ⟨R, q, i⟩, an⟩ := h
  refine ⟨sd, S, R, st, q, fun J S1 H1 JV qR n1 s1 jr => ?_⟩
  obtain ⟨hok, hl, f, hf, q1⟩ := i J S1 qR
  obtain ⟨sd', S', R0, st', q', an'⟩ := lcG_tLc (X := X) (wi := fun _ S R => S = S1 ∧ R J S1) (R := fun p S' => S' = S1.set p (.lst (J.items.filterMap f)) ∧ S1 p = none) (Q := Q) hx (st.nx n1 s1) ⟨⟨rfl, fun p hp => ⟨fun i S => S = S1.set p (.lst ((J.items.take i).filterMap f)), by simp, fun i S e => by rw [e]; exact hok _ (ext_set hp),
      fun i d S hi e => by subst e; exact lcP_turn hl hi (hf d (List.mem_of_getElem? hi)) hp, fun S e => ⟨by rw [e, List.take_length], hp⟩⟩⟩⟩
    fun p S' H' ⟨e, hp⟩ n' s' => by
      subst e
      obtain ⟨n2, s2, r2⟩ := frz_lst s' set_same
      rw [del_set hp] at n2 s2 r2
      exact an _ _ _ _ q1 (n1.trans (n'.trans n2)) s2 r2
  obtain ⟨rfl, q'⟩ := q'
  exact an' J S' H1 JV q' (.refl _ _) st'.s jr
abbrev Blk (X : Cx) (scope : Scope) (T : Cx → Prop) : Prop := ∀ (s : Shared) (H : Hp) (C : Addr) (cl : List (Str × Addr)) (fp : List Addr), T (X.blk s H scope (compEnvC scope cl C X.env) fp)
theorem de_lcP (hc : X.calm = true) (hN : X.N.Nodup) (hi : DI X tg iter wi) (ok : BlkOk X.N X.env.scope scope own) (hx : ∀ i ∈ nt.ix, i ∈ own.map (·.2)) (hg : Blk X scope fun Y => PG Y tg (gNT X.K nt)) (ht : Blk X scope fun Y => PTs Y ifs (liftT X.K tt)) (he : Blk X scope fun Y => PE Y elt (lift X.K we))
    (hs : ∀ x, foldedSetIterable iter X.env x = pure x := by intro _; rfl) : DE X (.ListComp elt [⟨tg, iter, ifs, 0⟩] scope pos) (wLcP wi nt tt we (own.map (·.2))) :=
  pe_imp (pe_lc hc hN hi ok hg ht he hs) fun σ H Q h => lcP_tLc hx h
/-- name = [..], stored within the comprehension -/
theorem setLc_lift {i : Nat} {wl : WE} {E : Ends} {σ : St} {H : Hp} {wi : WI} {nt : NT} {tt : WT} {we : WE} {vs : List Nat} (hh : ∀ Q, lift X.K wl σ H Q → tLc (liftI X.K wi) (gNT X.K nt) (liftT X.K tt) (lift X.K we) vs σ H Q)
    (h : liftS X.K (wAsg wl (gV i)) E σ H) : tAsg (tLc (liftI X.K wi) (gNT X.K nt) (liftT X.K tt) (lift X.K we) vs) (gName i) E σ H := by
  obtain ⟨sd, S, E0, st, q, an⟩ := h
  exact hh _ ⟨sd, S, _, st, q, fun d S1 v H1 q1 n1 s1 r1 => an.nx _ _ _ _ q1 n1 ((st.nx n1 s1).set i r1)⟩
theorem ds_setLcP {i : Nat} {y : Str} {py spos : Pos} (hc : X.calm = true) (hN : X.N.Nodup) (hi : DI X tg iter wi) (ok : BlkOk X.N X.env.scope scope own) (hx : ∀ i ∈ nt.ix, i ∈ own.map (·.2)) (hg : Blk X scope fun Y => PG Y tg (gNT X.K nt)) (ht : Blk X scope fun Y => PTs Y ifs (liftT X.K tt)) (he : Blk X scope fun Y => PE Y elt (lift X.K we))
    (hy : X.N[i]? = some y := by rfl) (hyl : X.env.scope.names.lookup y = some .local := by rfl) (hsw : swapsWith (.ListComp elt [⟨tg, iter, ifs, 0⟩] scope pos) (some (.Name y py)) spos.line X.env = pure true := by exact sw_true rfl rfl rfl (by decide +kernel)) (hs : ∀ x, foldedSetIterable iter X.env x = pure x := by intro _; rfl) :
    DS X (.Assign [.Name y py] (.ListComp elt [⟨tg, iter, ifs, 0⟩] scope pos) spos) (wAsg (wLcP wi nt tt we (own.map (·.2))) (gV i)) := ps_imp (ps_setLc hc hN hy hyl hsw hi ok hg ht he hs) fun E σ H h => setLc_lift (fun Q h => lcP_tLc hx h) h
end
end L2.DL

/-! DL6: operators, comparisons, built-ins over data -/
namespace L2.DL
open PySem PySem.Spec PyProof.Rows

/-! ### plain data -/
mutual
def pyD : D → Option PyData
  | .non => some .none
  | .bl b => some (.bool b)
  | .int i => some (.int i)
  | .str x => some (.str x)
  | .tup ds => (pyDs ds).map .tuple
  | .kt ds => (pyDs ds).map .tuple
  | .tf ds => (pyDs ds).map .tuple
  | .lst ds => (pyDs ds).map .list
  | .src ds => (pyDs ds).map .list
  | .ty _ => none
  | .dic _ _ => none
  | .fd _ _ => none
  | .gh _ _ => none
  | .ins _ _ => none
  | .obj _ => none
def pyDs : List D → Option (List PyData)
  | [] => some []
  | d :: ds => (pyD d).bind fun p => (pyDs ds).map fun ps => p :: ps
end
/-- the items of a list that may change -/
def objL : Option DO → Option (List D)
  | some (.lst ds) => some ds
  | _ => none
theorem objL_of {o : Option DO} {ds : List D} (h : objL o = some ds) : o = some (.lst ds) := by
  cases o with
  | none => cases h
  | some u =>
    cases u with
    | lst xs =>
      cases h
      rfl
    | _ => cases h
/-- .. also of a list that may change -/
def pyS (S : SO) : D → Option PyData
  | .obj a => (objL (S a)).bind fun ds => (pyDs ds).map .list
  | d => pyD d
section
variable {K : PySem.W.Frag} {S : SO} {H : Hp}
mutual
theorem rel_dp : ∀ (d : D) (v : V) (p : PyData), Rel K S H d v → pyD d = some p → Dp K H v p
  | .non, v, p, r, e => by
    cases e
    have r' : v = .non := r
    rw [r']
    exact .non
  | .bl b, v, p, r, e => by
    cases e
    have r' : v = .bl b := r
    rw [r']
    exact .bl b
  | .int b, v, p, r, e => by
    cases e
    have r' : v = .int b := r
    rw [r']
    exact .int b
  | .str b, v, p, r, e => by
    cases e
    have r' : v = .str b := r
    rw [r']
    exact .str b
  | .ty _, _, _, _, e => by cases e
  | .dic _ _, _, _, _, e => by cases e
  | .fd _ _, _, _, _, e => by cases e
  | .gh _ _, _, _, _, e => by cases e
  | .ins _ _, _, _, _, e => by cases e
  | .obj _, _, _, _, e => by cases e
  | .tup ds, v, p, r, e => by
    obtain ⟨ps, hp, rfl⟩ := Option.map_eq_some_iff.mp (show (pyDs ds).map PyData.tuple = some p from e)
    obtain ⟨a, vs, rfl, t, r⟩ := r
    exact .tup t.sq (rels_dp ds vs ps r hp)
  | .kt ds, v, p, r, e => by
    obtain ⟨ps, hp, rfl⟩ := Option.map_eq_some_iff.mp (show (pyDs ds).map PyData.tuple = some p from e)
    obtain ⟨a, vs, rfl, t, r⟩ := r
    exact .tup t.sq (rels_dp ds vs ps r hp)
  | .tf ds, v, p, r, e => by
    obtain ⟨ps, hp, rfl⟩ := Option.map_eq_some_iff.mp (show (pyDs ds).map PyData.tuple = some p from e)
    obtain ⟨a, vs, rfl, t, r⟩ := r
    exact .tup t.sq (rels_dp ds vs ps r hp)
  | .lst ds, v, p, r, e => by
    obtain ⟨ps, hp, rfl⟩ := Option.map_eq_some_iff.mp (show (pyDs ds).map PyData.list = some p from e)
    obtain ⟨a, vs, rfl, _, t, r⟩ := r
    exact .lst (.of t) (rels_dp ds vs ps r hp)
  | .src ds, v, p, r, e => by
    obtain ⟨ps, hp, rfl⟩ := Option.map_eq_some_iff.mp (show (pyDs ds).map PyData.list = some p from e)
    obtain ⟨a, vs, rfl, t, r⟩ := r
    exact .lst t.sq (rels_dp ds vs ps r hp)
theorem rels_dp : ∀ (ds : List D) (vs : List V) (ps : List PyData), Rels K S H ds vs → pyDs ds = some ps → DpAll K H vs ps
  | [], vs, ps, r, e => by
    cases e
    have r' : vs = [] := r
    rw [r']
    exact .nil
  | d :: ds, vs, ps, r, e => by
    obtain ⟨p, hp, e2⟩ := Option.bind_eq_some_iff.mp (show (pyD d).bind (fun p => (pyDs ds).map fun ps => p :: ps) = some ps from e)
    obtain ⟨qs, hq, rfl⟩ := Option.map_eq_some_iff.mp e2
    obtain ⟨v, us, rfl, r1, r2⟩ := r
    exact .cons (rel_dp d v p r1 hp) (rels_dp ds us qs r2 hq)
end
theorem relS_dp {d : D} {v : V} {p : PyData} (s : SRel K S H) (r : Rel K S H d v) (e : pyS S d = some p) : Dp K H v p := by
  cases d with
  | obj a =>
    obtain ⟨ds, hs, e2⟩ := Option.bind_eq_some_iff.mp (show (objL (S a)).bind (fun ds => (pyDs ds).map PyData.list) = some p from e)
    obtain ⟨ps, hp, rfl⟩ := Option.map_eq_some_iff.mp e2
    obtain ⟨vs, hv, rv⟩ := s a _ (objL_of hs)
    have r' : v = .ref a := r
    rw [r']
    exact .lst (.of hv) (rels_dp ds vs ps rv hp)
  | _ => exact rel_dp _ v p r e
end
/-- the items of a list, of a sequence -/
def lstD (S : SO) : D → Option (List D)
  | .lst xs => some xs
  | .obj a => objL (S a)
  | _ => none
theorem lstD_at {K : PySem.W.Frag} {S : SO} {H : Hp} {d : D} {v : V} {xs : List D} (s : SRel K S H) (r : Rel K S H d v) (e : lstD S d = some xs) : ∃ a vs, v = .ref a ∧ H a = some (.lst vs) ∧ Rels K S H xs vs := by
  cases d with
  | lst ys =>
    cases e
    obtain ⟨a, vs, h1, _, h2, h3⟩ := r
    exact ⟨a, vs, h1, h2, h3⟩
  | obj a =>
    obtain ⟨vs, hv, rv⟩ := s a _ (objL_of e)
    exact ⟨a, vs, r, hv, rv⟩
  | _ => cases e
/-- a list or tuple, read -/
def seqX (S : SO) : D → Option (List D)
  | .tup xs => some xs
  | .kt xs => some xs
  | .tf xs => some xs
  | .src xs => some xs
  | d => lstD S d
theorem seqX_at {K : PySem.W.Frag} {S : SO} {H : Hp} {d : D} {v : V} {xs : List D} (s : SRel K S H) (r : Rel K S H d v) (e : seqX S d = some xs) : ∃ a vs, v = .ref a ∧ (SqL K H a vs ∨ SqT K H a vs) ∧ Rels K S H xs vs := by
  have via : ∀ {d : D}, Rel K S H d v → lstD S d = some xs → ∃ a vs, v = .ref a ∧ (SqL K H a vs ∨ SqT K H a vs) ∧ Rels K S H xs vs := fun r e => let ⟨a, vs, h1, h2, h3⟩ := lstD_at s r e; ⟨a, vs, h1, .inl (.of h2), h3⟩
  cases d with
  | tup ys =>
    cases e
    obtain ⟨a, vs, h1, h2, h3⟩ := r
    exact ⟨a, vs, h1, .inr h2.sq, h3⟩
  | kt ys =>
    cases e
    obtain ⟨a, vs, h1, h2, h3⟩ := r
    exact ⟨a, vs, h1, .inr h2.sq, h3⟩
  | tf ys =>
    cases e
    obtain ⟨a, vs, h1, h2, h3⟩ := r
    exact ⟨a, vs, h1, .inr h2.sq, h3⟩
  | src ys =>
    cases e
    obtain ⟨a, vs, h1, h2, h3⟩ := r
    exact ⟨a, vs, h1, .inl h2.sq, h3⟩
  | _ => exact via r e

section
variable {X : Cx}
theorem ansd {K : PySem.W.Frag} {S : SO} {H : Hp} {Q0 : KD} {Q : VK} (d : D) {v : V} (s : SRel K S H) (an : Ans K S H Q0 Q) (q : Q0 d S) (r : Rel K S H d v) : Q v H := an d S v H q (.refl _ _) s r
/-! ### arithmetic -/
def opI2 (C : Int → Int → Prop) (g : Int → Int → D) : WO := fun x y S Q => match x with
  | .int i => (match y with
    | .int j => C i j ∧ Q (g i j) S
    | _ => False)
  | _ => False
theorem opI2_of {C : Int → Int → Prop} {g : Int → Int → D} {x y : D} {S : SO} {Q : KD} (h : opI2 C g x y S Q) : ∃ i j, x = .int i ∧ y = .int j ∧ C i j ∧ Q (g i j) S := by
  unfold opI2 at h
  split at h
  · split at h
    · exact ⟨_, _, rfl, rfl, h.1, h.2⟩
    · exact h.elim
  · exact h.elim
theorem do_I2 {f : Value → Value → Sem Value} {C : Int → Int → Prop} {g : Int → Int → D} {gv : Int → Int → V} (h : OpR X f (rI C gv)) (hg : ∀ i j K S H, Rel K S H (g i j) (gv i j)) : DO2 X f (opI2 C g) := by
  intro pins s σ H x y v u Q I rx ry ⟨dx, dy, S, Q0, sr, r1, r2, q, an⟩
  obtain ⟨i, j, rfl, rfl, hc, q⟩ := opI2_of q
  have e1 : x = .int i := r1
  have e2 : y = .int j := r2
  exact h pins s σ H x y v u Q I rx ry ⟨i, j, e1, e2, hc, ansd _ sr an q (hg i j _ _ _)⟩
theorem do_I2' {f : Value → Value → Sem Value} {g : Int → Int → D} {gv : Int → Int → V} (h : OpR X f (rI0 gv)) (hg : ∀ i j K S H, Rel K S H (g i j) (gv i j)) : DO2 X f (opI2 (fun _ _ => True) g) := by
  intro pins s σ H x y v u Q I rx ry ⟨dx, dy, S, Q0, sr, r1, r2, q, an⟩
  obtain ⟨i, j, rfl, rfl, hc, q⟩ := opI2_of q
  have e1 : x = .int i := r1
  have e2 : y = .int j := r2
  exact h pins s σ H x y v u Q I rx ry ⟨i, j, e1, e2, ansd _ sr an q (hg i j _ _ _)⟩
def oSub : WO := opI2 (fun _ _ => True) fun i j => .int (i - j)
def oMod : WO := opI2 (fun _ j => 0 < j) fun i j => .int (i % j)
theorem do_mod : DO2 X (binaryOp .Mod) oMod := do_I2 op_mod fun _ _ _ _ _ => rfl
def oPow : WO := opI2 CPow fun i j => .int (i ^ j.toNat)
theorem do_pow : DO2 X (binaryOp .Pow) oPow := do_I2 op_pow fun _ _ _ _ _ => rfl
def oAnd : WO := opI2 (fun _ _ => True) fun i j => .int (Builtin.bitAnd i j)
def oOr : WO := opI2 (fun _ _ => True) fun i j => .int (Builtin.bitOr i j)
def oLt : WO := opI2 (fun _ _ => True) fun i j => .bl (decide (i < j))
theorem do_lt : DO2 X (compareOp .Lt) oLt := do_I2' op_lt fun _ _ _ _ _ => rfl
def oLe : WO := opI2 (fun _ _ => True) fun i j => .bl (decide (i ≤ j))
def oGt : WO := opI2 (fun _ _ => True) fun i j => .bl (decide (j < i))
def oGe : WO := opI2 (fun _ _ => True) fun i j => .bl (decide (j ≤ i))
def oNeg : WU := fun x S Q => match x with
  | .int i => Q (.int (-i)) S
  | _ => False
theorem do_neg : DO1 X (unaryOp .USub) oNeg := by
  intro pins s σ H x v Q I rx ⟨dx, S, Q0, sr, r1, q, an⟩
  cases dx with
  | int i =>
    have e1 : x = .int i := r1
    exact un_neg pins s σ H x v Q I rx ⟨i, e1, ansd (.int (-i)) sr an q rfl⟩
  | _ => exact False.elim q
/-- + -/
def addL (a b : Option (List D)) (S : SO) (Q : KD) : Prop := match a, b with
  | some a, some b => a.length + b.length ≤ 1000000 ∧ Q (.lst (a ++ b)) S
  | _, _ => False
theorem addL_of {a b : Option (List D)} {S : SO} {Q : KD} (h : addL a b S Q) : ∃ x y, a = some x ∧ b = some y ∧ x.length + y.length ≤ 1000000 ∧ Q (.lst (x ++ y)) S := by
  cases a with
  | none => exact h.elim
  | some x =>
    cases b with
    | none => exact h.elim
    | some y => exact ⟨x, y, rfl, rfl, h.1, h.2⟩
def oAdd : WO := fun x y S Q => match x with
  | .int i => (match y with
    | .int j => Q (.int (i + j)) S
    | _ => False)
  | .str a => (match y with
    | .str b => a.length + b.length ≤ 1000000 ∧ Q (.str (a ++ b)) S
    | _ => False)
  | .tup a => (match y with
    | .tup b => a.length + b.length ≤ 1000000 ∧ Q (.tup (a ++ b)) S
    | _ => False)
  | d => addL (lstD S d) (lstD S y) S Q
theorem add_lists {dx dy : D} {S : SO} {Q0 : KD} {x y : V} {v u : Value} {pins : List (Addr × Obj)} {s : Shared} {σ : St} {H : Hp} {Q : VK} (I : Inv X pins σ H s) (rx : RelV x v) (ry : RelV y u) (sr : SRel X.K S H) (r1 : Rel X.K S H dx x) (r2 : Rel X.K S H dy y) (an : Ans X.K S H Q0 Q)
    (q : addL (lstD S dx) (lstD S dy) S Q0) : wpAny (model X.prog X.w) X.A (binaryOp .Add v u) (EP X pins σ Q) X.xe s := by
  obtain ⟨a, b, h1, h2, hl, q⟩ := addL_of q
  obtain ⟨l, vs, e1, h3, rv⟩ := lstD_at sr r1 h1
  obtain ⟨l', us, e2, h4, ru⟩ := lstD_at sr r2 h2
  refine op_cat pins s σ H x y v u Q I rx ry ⟨l, l', vs, us, e1, e2, h3, h4, by rw [← rv.length, ← ru.length]; exact le_line hl, fun p hp => ?_⟩
  exact an _ _ _ _ q (nx_new hp) (sr.new hp) ⟨p, _, rfl, sr.free hp, upd_same, (rv.app ru).nx (nx_new hp)⟩
theorem do_add : DO2 X (binaryOp .Add) oAdd := by
  intro pins s σ H x y v u Q I rx ry ⟨dx, dy, S, Q0, sr, r1, r2, q, an⟩
  cases dx with
  | int i =>
    cases dy with
    | int j => exact op_add pins s σ H x y v u Q I rx ry ⟨i, j, r1, r2, ansd (.int (i + j)) sr an q rfl⟩
    | _ => exact False.elim q
  | str a =>
    cases dy with
    | str b => exact op_add_str pins s σ H x y v u Q I rx ry ⟨a, b, r1, r2, le_line q.1, ansd (.str (a ++ b)) sr an q.2 rfl⟩
    | _ => exact False.elim q
  | tup a =>
    cases dy with
    | tup b =>
      obtain ⟨hl, q⟩ := q
      obtain ⟨p1, vs, e1, t1, rv⟩ := r1
      obtain ⟨p2, us, e2, t2, ru⟩ := r2
      have rvu := rv.app ru
      refine op_catA pins s σ H x y v u Q I rx ry ⟨p1, p2, vs, us, e1, e2, t1.sq, t2.sq, by rw [← rv.length, ← ru.length]; exact le_line hl, fun e => ?_, fun _ e => ?_, fun _ _ p hp => ?_⟩
      · subst e
        exact ansd _ sr an q ⟨p2, us, rfl, t2, rvu⟩
      · subst e
        rw [List.append_nil] at rvu
        exact ansd _ sr an q ⟨p1, vs, rfl, t1, rvu⟩
      · exact an _ _ _ _ q (nx_new hp) (sr.new hp) ⟨p, _, rfl, ⟨sr.free hp, upd_same⟩, rvu.nx (nx_new hp)⟩
    | _ => exact False.elim q
  | _ => exact add_lists I rx ry sr r1 r2 an q
/-- * -/
def mulL (a : Option (List D)) (y : D) (S : SO) (Q : KD) : Prop := ∃ xs k, a = some xs ∧ y = .int k ∧ 0 ≤ k ∧ k ≤ 1000 ∧ xs.length ≤ 1000 ∧ Q (.lst (List.replicate k.toNat xs).flatten) S
def oMul : WO := fun x y S Q => match x with
  | .int i => (match y with
    | .int j => CMul i j ∧ Q (.int (i * j)) S
    | _ => False)
  | .str a => (match y with
    | .int n => a.length ≤ 1000 ∧ n ≤ 1000 ∧ -1000 ≤ n ∧ Q (.str (Txt.mul a n)) S
    | _ => False)
  | d => mulL (lstD S d) y S Q
theorem mulOk_small {x : Str} {n : Int} (h1 : x.length ≤ 1000) (h2 : n ≤ 1000) (h3 : -1000 ≤ n) : MulOk x n := by
  refine ⟨by rw [decide_eq_false (by omega), decide_eq_false (by omega)]; rfl, fun h _ => ?_, fun h _ => ?_⟩
  · have hn : 0 < n := by omega
    intro hgt
    have h4 : (2 ^ 63 - 1 : Int) / n ≥ (2 ^ 63 - 1) / 1000 := by
      rw [ge_iff_le, Int.le_ediv_iff_mul_le hn]
      have : (2 ^ 63 - 1 : Int) / 1000 * n ≤ (2 ^ 63 - 1 : Int) / 1000 * 1000 := Int.mul_le_mul_of_nonneg_left h2 (by decide)
      omega
    have h5 : (2 ^ 63 - 1 : Int) / 1000 > 1000 := by decide
    omega
  · have h4 : x.length * n.toNat ≤ 1000 * 1000 := Nat.mul_le_mul h1 (by omega)
    have h5 : x.length * n.toNat ≤ sizeLine := le_line h4
    exact decide_eq_false (by omega)
theorem Rels.rep {K : PySem.W.Frag} {S : SO} {H : Hp} {a : List D} {vs : List V} (r : Rels K S H a vs) : ∀ n : Nat, Rels K S H (List.replicate n a).flatten (List.replicate n vs).flatten
  | 0 => rfl
  | n + 1 => by
    rw [List.replicate_succ, List.replicate_succ, List.flatten_cons, List.flatten_cons]
    exact r.app (r.rep n)
theorem mul_lists {dx dy : D} {S : SO} {Q0 : KD} {x y : V} {v u : Value} {pins : List (Addr × Obj)} {s : Shared} {σ : St} {H : Hp} {Q : VK} (I : Inv X pins σ H s) (rx : RelV x v) (ry : RelV y u) (sr : SRel X.K S H) (r1 : Rel X.K S H dx x) (r2 : Rel X.K S H dy y) (an : Ans X.K S H Q0 Q)
    (q : mulL (lstD S dx) dy S Q0) : wpAny (model X.prog X.w) X.A (binaryOp .Mult v u) (EP X pins σ Q) X.xe s := by
  obtain ⟨a, k, h1, rfl, h0, h2, h3, q⟩ := q
  obtain ⟨l, vs, e1, hl, rv⟩ := lstD_at sr r1 h1
  have e2 : y = .int k := r2
  refine op_rep pins s σ H x y v u Q I rx ry ⟨l, k, vs, e1, e2, hl, by omega, by omega, ?_, fun p hp => ?_⟩
  · rw [← rv.length]
    have h4 : a.length * k.toNat ≤ 1000 * 1000 := Nat.mul_le_mul h3 (by omega)
    exact le_line h4
  · exact an _ _ _ _ q (nx_new hp) (sr.new hp) ⟨p, _, rfl, sr.free hp, upd_same, (rv.rep _).nx (nx_new hp)⟩
theorem do_mul : DO2 X (binaryOp .Mult) oMul := by
  intro pins s σ H x y v u Q I rx ry ⟨dx, dy, S, Q0, sr, r1, r2, q, an⟩
  cases dx with
  | int i =>
    cases dy with
    | int j => exact op_mul pins s σ H x y v u Q I rx ry ⟨i, j, r1, r2, q.1, ansd (.int (i * j)) sr an q.2 rfl⟩
    | _ => exact False.elim q
  | str a =>
    cases dy with
    | int n =>
      have e1 : x = .str a := r1
      have e2 : y = .int n := r2
      subst e1 e2
      obtain ⟨t, rfl⟩ := rx
      obtain ⟨t', rfl⟩ := ry
      obtain ⟨h1, h2, h3, q⟩ := q
      exact SB.mul (mulOk_small h1 h2 h3) fun t2 k => ⟨.str _, H, I.tok k, ⟨t2, rfl⟩, ansd (.str (Txt.mul a n)) sr an q rfl⟩
    | _ => exact False.elim q
  | _ => exact mul_lists I rx ry sr r1 r2 an q
/-! ### ==, in, is -/
/-- x == y told by data -/
def eqG (x y : D) (S : SO) (k : Bool → Prop) : Prop := ∃ p q, pyS S x = some p ∧ pyS S y = some q ∧ SeqAt.shaped p = true ∧ SeqAt.shaped q = true ∧ k (PyData.eqv p q)
def eqD (x y : D) (S : SO) (k : Bool → Prop) : Prop := match x with
  | .int i => (match y with
    | .int j => k (decide (i = j))
    | y => eqG (.int i) y S k)
  | .str a => (match y with
    | .str b => k (decide (a = b))
    | y => eqG (.str a) y S k)
  | x => eqG x y S k
theorem eqD_cases {x y : D} {S : SO} {k : Bool → Prop} (h : eqD x y S k) : (∃ i j, x = .int i ∧ y = .int j ∧ k (decide (i = j))) ∨ (∃ a b, x = .str a ∧ y = .str b ∧ k (decide (a = b))) ∨ eqG x y S k := by
  cases x with
  | int i =>
    cases y with
    | int j => exact .inl ⟨i, j, rfl, rfl, h⟩
    | _ => exact .inr (.inr h)
  | str a =>
    cases y with
    | str j => exact .inr (.inl ⟨a, j, rfl, rfl, h⟩)
    | _ => exact .inr (.inr h)
  | _ => exact .inr (.inr h)
def oEq : WO := fun x y S Q => eqD x y S fun b => Q (.bl b) S
def oNe : WO := fun x y S Q => eqD x y S fun b => Q (.bl (!b)) S
theorem do_eq (hu : X.A.units + 65 < cLine) : DO2 X (compareOp .Eq) oEq := by
  intro pins s σ H x y v u Q I rx ry ⟨dx, dy, S, Q0, sr, r1, r2, q, an⟩
  rcases eqD_cases q with ⟨i, j, rfl, rfl, q⟩ | ⟨i, j, rfl, rfl, q⟩ | ⟨p, q, h1, h2, h3, h4, qq⟩
  · have e1 : x = .int i := r1
    have e2 : y = .int j := r2
    subst e1 e2
    refine op_eq pins s σ H _ _ v u Q I rx ry ⟨rfl, ?_⟩
    have e : decide (V.int i = V.int j) = decide (i = j) := by simp
    rw [e]
    exact ansd (.bl _) sr an q rfl
  · have e1 : x = .str i := r1
    have e2 : y = .str j := r2
    subst e1 e2
    refine op_eq pins s σ H _ _ v u Q I rx ry ⟨rfl, ?_⟩
    have e : decide (V.str i = V.str j) = decide (i = j) := by simp
    rw [e]
    exact ansd (.bl _) sr an q rfl
  · exact op_eqD (by omega) pins s σ H x y v u Q I rx ry ⟨p, q, relS_dp sr r1 h1, relS_dp sr r2 h2, h3, h4, ansd (.bl _) sr an qq rfl⟩
theorem do_ne (hu : X.A.units + 65 < cLine) : DO2 X (compareOp .NotEq) oNe := by
  intro pins s σ H x y v u Q I rx ry ⟨dx, dy, S, Q0, sr, r1, r2, q, an⟩
  rcases eqD_cases q with ⟨i, j, rfl, rfl, q⟩ | ⟨i, j, rfl, rfl, q⟩ | ⟨p, q, h1, h2, h3, h4, qq⟩
  · have e1 : x = .int i := r1
    have e2 : y = .int j := r2
    subst e1 e2
    refine op_ne pins s σ H _ _ v u Q I rx ry ⟨rfl, ?_⟩
    have e : decide (V.int i = V.int j) = decide (i = j) := by simp
    rw [e]
    exact ansd (.bl _) sr an q rfl
  · have e1 : x = .str i := r1
    have e2 : y = .str j := r2
    subst e1 e2
    refine op_ne pins s σ H _ _ v u Q I rx ry ⟨rfl, ?_⟩
    have e : decide (V.str i = V.str j) = decide (i = j) := by simp
    rw [e]
    exact ansd (.bl _) sr an q rfl
  · exact op_neD (by omega) pins s σ H x y v u Q I rx ry ⟨p, q, relS_dp sr r1 h1, relS_dp sr r2 h2, h3, h4, ansd (.bl _) sr an qq rfl⟩
def isNon : D → Bool
  | .non => true
  | .gh d _ => isNon d
  | _ => false
def oIsN : WO := fun x y S Q => y = .non ∧ Q (.bl (isNon x)) S
def oNotN : WO := fun x y S Q => y = .non ∧ Q (.bl (!isNon x)) S
end
end L2.DL

/-! DL7: containers: in, subscripts, slices, dicts; built-ins by values -/
namespace L2.DL
open PySem PySem.Spec PyProof.Rows

/-! ### dicts as data -/
section
open Classical
noncomputable def dget (kvs : List (D × D)) (k : D) : Option D := (kvs.find? fun p => decide (p.1 = k)).map (·.2)
theorem dget_cons {k k' d : D} {kvs : List (D × D)} : dget ((k', d) :: kvs) k = if k' = k then some d else dget kvs k := by
  unfold dget
  rw [List.find?_cons]
  by_cases e : k' = k
  · rw [if_pos e, decide_eq_true e]
    rfl
  · rw [if_neg e, decide_eq_false e]
end
def keyOf : D → Option Key
  | .int i => some (.inl i)
  | .str x => some (.inr x)
  | _ => none
def keysOf : List D → Option (List Key)
  | [] => some []
  | d :: ds => (keyOf d).bind fun k => (keysOf ds).map fun ks => k :: ks
theorem keyOf_eq {d : D} {k : Key} (h : keyOf d = some k) : d = keyD k := by
  cases d with
  | int i =>
    cases h
    rfl
  | str i =>
    cases h
    rfl
  | _ => cases h
theorem keysOf_eq : ∀ {ds : List D} {ks : List Key}, keysOf ds = some ks → ds = ks.map keyD
  | [], ks, h => by
    cases h
    rfl
  | d :: ds, ks, h => by
    obtain ⟨k, h1, h2⟩ := Option.bind_eq_some_iff.mp h
    obtain ⟨r, h3, rfl⟩ := Option.map_eq_some_iff.mp h2
    rw [List.map_cons, ← keyOf_eq h1, ← keysOf_eq h3]
/-- a key of a dict of that kind -/
def keyOk (t : Bool) (k : D) : Prop := if t = true then ∃ ds ks, k = .tup ds ∧ keysOf ds = some ks else ∃ q, keyOf k = some q
theorem keyD_inj {a b : Key} (h : keyD a = keyD b) : a = b := by
  cases a <;> cases b <;> cases h <;> rfl
theorem keyDs_inj : ∀ {a b : List Key}, a.map keyD = b.map keyD → a = b
  | [], [], _ => rfl
  | [], _ :: _, e => by simp at e
  | _ :: _, [], e => by simp at e
  | x :: xs, y :: ys, e => by
    rw [List.map_cons, List.map_cons] at e
    injection e with e1 e2
    rw [keyD_inj e1, keyDs_inj e2]
section
variable {K : PySem.W.Frag} {S : SO} {H : Hp}
theorem rel_key {k : Key} {v : V} (h : Rel K S H (keyD k) v) : v = kV k := by
  cases k with
  | inl i => exact h
  | inr x => exact h
theorem rels_key : ∀ {ks : List Key} {vs : List V}, Rels K S H (ks.map keyD) vs → vs = ks.map kV
  | [], _, h => h
  | k :: ks, _, h => by
    obtain ⟨v, r, rfl, h1, h2⟩ := h
    rw [rel_key h1, rels_key h2]
    rfl
def OptR (K : PySem.W.Frag) (S : SO) (H : Hp) : Option D → Option V → Prop
  | some d, some v => Rel K S H d v
  | none, none => True
  | _, _ => False
theorem RelK.get : ∀ {kvs : List (D × D)} {l : List (Key × V)} (q : Key), RelK K S H kvs l → OptR K S H (dget kvs (keyD q)) (valV l q)
  | [], l, q, h => by
    have e : l = [] := h
    subst e
    exact trivial
  | (k, d) :: kvs, l, q, h => by
    obtain ⟨q', v, r, rfl, rfl, h1, h2⟩ := h
    rw [dget_cons]
    by_cases e : q' = q
    · rw [if_pos (by rw [e]), valV_pos (p := (q', v)) e]
      exact h1
    · rw [if_neg (fun z => e (keyD_inj z)), valV_neg (p := (q', v)) e]
      exact RelK.get q h2
theorem RelT.get : ∀ {kvs : List (D × D)} {l : List (List Key × V)} (q : List Key), RelT K S H kvs l → OptR K S H (dget kvs (.tup (q.map keyD))) (valV l q)
  | [], l, q, h => by
    have e : l = [] := h
    subst e
    exact trivial
  | (k, d) :: kvs, l, q, h => by
    obtain ⟨q', v, r, rfl, rfl, h1, h2⟩ := h
    rw [dget_cons]
    by_cases e : q' = q
    · rw [if_pos (by rw [e]), valV_pos (p := (q', v)) e]
      exact h1
    · rw [if_neg (fun z => e (keyDs_inj (by injection z))), valV_neg (p := (q', v)) e]
      exact RelT.get q h2
theorem OptR.isSome {o : Option D} {u : Option V} (h : OptR K S H o u) : u.isSome = o.isSome := by
  cases o <;> cases u <;> first | rfl | exact h.elim
theorem RelK.length : ∀ {kvs : List (D × D)} {l : List (Key × V)}, RelK K S H kvs l → kvs.length = l.length
  | [], l, h => by
    have e : l = [] := h
    rw [e]
    rfl
  | (k, d) :: kvs, l, h => by
    obtain ⟨q', v, r, rfl, rfl, h1, h2⟩ := h
    rw [List.length_cons, List.length_cons, h2.length]
theorem RelT.length : ∀ {kvs : List (D × D)} {l : List (List Key × V)}, RelT K S H kvs l → kvs.length = l.length
  | [], l, h => by
    have e : l = [] := h
    rw [e]
    rfl
  | (k, d) :: kvs, l, h => by
    obtain ⟨q', v, r, rfl, rfl, h1, h2⟩ := h
    rw [List.length_cons, List.length_cons, h2.length]
end
def objD : Option DO → Option (Bool × List (D × D))
  | some (.dic t kvs) => some (t, kvs)
  | _ => none
def dicX (S : SO) : D → Option (Bool × List (D × D))
  | .dic t kvs => some (t, kvs)
  | .fd false kvs => some (false, kvs)
  | .obj a => objD (S a)
  | _ => none
theorem objD_of {o : Option DO} {t : Bool} {kvs : List (D × D)} (h : objD o = some (t, kvs)) : o = some (.dic t kvs) := by
  cases o with
  | none => cases h
  | some u =>
    cases u with
    | dic t' kvs' =>
      cases h
      rfl
    | _ => cases h
def DicAt (K : PySem.W.Frag) (S : SO) (H : Hp) (a : Addr) (t : Bool) (kvs : List (D × D)) : Prop := (∃ l, t = false ∧ H a = some (.dK l) ∧ RelK K S H kvs l) ∨ (∃ l, t = true ∧ H a = some (.dT l) ∧ RelT K S H kvs l)
/-- .. to be read: locked or not -/
def DicRd (K : PySem.W.Frag) (S : SO) (H : Hp) (a : Addr) (t : Bool) (kvs : List (D × D)) : Prop := (∃ l, t = false ∧ Rd H a (.dK l) ∧ RelK K S H kvs l) ∨ (∃ l, t = true ∧ H a = some (.dT l) ∧ RelT K S H kvs l)
theorem DicAt.rd {K : PySem.W.Frag} {S : SO} {H : Hp} {a : Addr} {t : Bool} {kvs : List (D × D)} : DicAt K S H a t kvs → DicRd K S H a t kvs
  | .inl ⟨l, ht, h, r⟩ => .inl ⟨l, ht, .inl h, r⟩
  | .inr h => .inr h
theorem dicX_at {K : PySem.W.Frag} {S : SO} {H : Hp} {d : D} {v : V} {t : Bool} {kvs : List (D × D)} (s : SRel K S H) (r : Rel K S H d v) (e : dicX S d = some (t, kvs)) : ∃ a, v = .ref a ∧ DicRd K S H a t kvs := by
  cases d with
  | dic t' kvs' =>
    cases e
    obtain ⟨a, h1, _, h2⟩ := r
    exact ⟨a, h1, DicAt.rd h2⟩
  | fd t' kvs' =>
    cases t' with
    | true => cases e
    | false =>
      cases e
      obtain ⟨a, h1, _, ⟨o, l, _, h2, h3⟩ | ⟨o, l, z, _⟩⟩ := r
      · exact ⟨a, h1, .inl ⟨l, rfl, .inr ⟨o, h2⟩, h3⟩⟩
      · cases z
  | obj a => exact ⟨a, r, DicAt.rd (s a _ (objD_of e))⟩
  | _ => cases e
theorem DicRd.get {K : PySem.W.Frag} {S : SO} {H : Hp} {a : Addr} {t : Bool} {kvs : List (D × D)} {k : D} {y : V} (h : DicRd K S H a t kvs) (r : Rel K S H k y) (ok : keyOk t k) : ∃ o, DGet H a y o ∧ OptR K S H (dget kvs k) o := by
  rcases h with ⟨l, rfl, hl, rl⟩ | ⟨l, rfl, hl, rl⟩
  · obtain ⟨q, hq⟩ := ok
    have e := keyOf_eq hq
    subst e
    rw [rel_key r]
    exact ⟨_, .inl ⟨l, q, hl, rfl, rfl⟩, rl.get q⟩
  · obtain ⟨ds, ks, rfl, hk⟩ := ok
    have e := keysOf_eq hk
    subst e
    obtain ⟨b, vs, rfl, tb, rv⟩ := r
    have e2 := rels_key rv
    subst e2
    exact ⟨_, DGet.t hl tb.2, rl.get ks⟩
end L2.DL

/-! DL8: in, subscripts, slices, len and other built-ins -/
namespace L2.DL
open PySem PySem.Spec PyProof.Rows

/-! ### in -/
section
variable {X : Cx}
/-! ### a[i] -/
def oIx : WO := fun x y S Q => (∃ xs i v, seqX S x = some xs ∧ y = .int i ∧ atI xs i = some v ∧ Q v S) ∨ (∃ z i c, x = .str z ∧ y = .int i ∧ z.length ≤ 1000000 ∧ atI z.cps.toList i = some c ∧ Q (.str ⟨#[c]⟩) S) ∨
  (∃ t kvs v, dicX S x = some (t, kvs) ∧ keyOk t y ∧ dget kvs y = some v ∧ Q v S)
theorem do_ix (hu : X.A.units + 65 < cLine) : IxR X (liftO X.K oIx) := by
  intro value slice pins s σ H x y v u Q I rx ry ⟨dx, dy, S, Q0, sr, r1, r2, q, an⟩ hs
  rcases q with ⟨xs, i, d, e, rfl, hi, q⟩ | ⟨z, i, c, rfl, rfl, hz, hi, q⟩ | ⟨t, kvs, d, e, ok, hd, q⟩
  · obtain ⟨a, vs, ex, hq, rv⟩ := seqX_at sr r1 e
    have e2 : y = .int i := r2
    unfold atI at hi
    obtain ⟨j, hj, hx⟩ := Option.bind_eq_some_iff.mp hi
    obtain ⟨w, hw, rw'⟩ := rv.get hx
    have hi2 : atI vs i = some w := by
      unfold atI
      rw [← rv.length, hj]
      exact hw
    have qw : Q w H := ansd d sr an q rw'
    rcases hq with hq | hq
    · exact ix_list value slice pins s σ H x y v u Q I rx ry ⟨a, vs, i, w, ex, e2, hq, hi2, qw⟩ hs
    · exact ix_tup value slice pins s σ H x y v u Q I rx ry ⟨a, vs, i, w, ex, e2, hq, hi2, qw⟩ hs
  · exact ix_str value slice pins s σ H x y v u Q I rx ry ⟨z, i, c, r1, r2, le_line hz, hi, ansd (.str _) sr an q rfl⟩ hs
  · obtain ⟨a, rfl, da⟩ := dicX_at sr r1 e
    obtain ⟨o, g, oo⟩ := da.get r2 ok
    rw [hd] at oo
    cases o with
    | none => exact oo.elim
    | some w =>
      cases rx
      exact tail_any (dict_typeIs I g) PySem.F.slot_dict_getitem.lookup (d_getItem (by omega) I g ry fun w' s' I' rw' => ⟨w, H, I', rw', ansd d sr an q oo⟩) hs
theorem de_ix {a b : Expr} {wa wb : WE} {pos : Pos} (hu : X.A.units + 65 < cLine) (ha : DE X a wa) (hb : DE X b wb) (hs : PlainIx b := by intro _ _; rfl) : DE X (.Subscript a b pos) (wO oIx wa wb) :=
  pe_imp (pe_ix (do_ix hu) ha hb hs) fun σ H Q h => two h fun v u H2 x y S2 Q0 s2 r1 r2 q2 an => ⟨x, y, S2, Q0, s2, r1, r2, q2, an⟩

/-! ### a[lo:hi] -/
abbrev WP := SD → SO → (Option Int → SO → Prop) → Prop
def liftP (K : PySem.W.Frag) (w : WP) : TO := fun σ H Q => ∃ sd S Q0, Sta K sd S σ H ∧ w sd S Q0 ∧ ∀ o S' H', Q0 o S' → Nx S H S' H' → SRel K S' H' → Q o H'
abbrev DP (X : Cx) (e : Option Expr) (w : WP) : Prop := PO X e (liftP X.K w)
theorem po_imp {e : Option Expr} {t t' : TO} (h : PO X e t) (i : ∀ σ H Q, t' σ H Q → t σ H Q) : PO X e t' := ⟨fun pins s σ H Q I q => h.run pins s σ H Q I (i σ H Q q)⟩
def pNone : WP := fun _ S Q => Q none S
def isI0 (k : Int → SO → Prop) : KD := fun d S => match d with
  | .int i => k i S
  | _ => False
structure IsI (k : Int → SO → Prop) (d : D) (S : SO) : Prop where
  ex : isI0 k d S
def isI (k : Int → SO → Prop) : KD := fun d S => IsI k d S
def pSome (we : WE) : WP := fun sd S Q => we sd S (isI fun i S1 => Q (some i) S1)
theorem dp_none : DP X none pNone := po_imp po_none fun σ H Q ⟨sd, S, Q0, st, q, an⟩ => an _ _ _ q (.refl _ _) st.s
theorem dp_some {e : Expr} {we : WE} (h : DE X e we) : DP X (some e) (pSome we) := po_imp (po_some h) fun σ H Q ⟨sd, S, Q0, st, q, an⟩ => ⟨sd, S, _, st, q, fun d S1 v H1 q1 n1 s1 r1 => by
  have q1 := q1.ex
  cases d with
  | int i => exact ⟨i, r1, an _ _ _ q1 n1 s1⟩
  | _ => exact False.elim q1⟩
def cutD (xs : List D) (lo hi : Option Int) : List D := (xs.drop (HT.sIx xs.length 0 lo)).take (HT.sIx xs.length xs.length hi - HT.sIx xs.length 0 lo)
theorem Rels.cut {K : PySem.W.Frag} {S : SO} {H : Hp} {xs : List D} {vs : List V} (r : Rels K S H xs vs) (lo hi : Option Int) : Rels K S H (cutD xs lo hi) (cutV vs lo hi) := by
  unfold cutD cutV
  rw [← r.length]
  exact (r.drop _).take _
/-- what the slice of it is -/
def sliD (d : D) (S : SO) (lo hi : Option Int) (Q : KD) : Prop := match d with
  | .str z => z.length ≤ 1000000 ∧ Q (.str (cutS z lo hi)) S
  | .tup xs => Q (.tup (cutD xs lo hi)) S
  | .kt xs => ¬ (HT.sIx xs.length 0 lo = 0 ∧ HT.sIx xs.length xs.length hi = xs.length) ∧ Q (.tup (cutD xs lo hi)) S
  | .tf xs => ¬ (HT.sIx xs.length 0 lo = 0 ∧ HT.sIx xs.length xs.length hi = xs.length) ∧ Q (.tup (cutD xs lo hi)) S
  | .src xs => Q (.lst (cutD xs lo hi)) S
  | d => ∃ xs, lstD S d = some xs ∧ Q (.lst (cutD xs lo hi)) S
def wSl (we : WE) (tl th : WP) : WE := fun sd S Q => we sd S fun d S1 => tl sd S1 fun lo S2 => th sd S2 fun hi S3 => sliD d S3 lo hi Q
theorem cutD_all {xs : List D} {lo hi : Option Int} (h : HT.sIx xs.length 0 lo = 0 ∧ HT.sIx xs.length xs.length hi = xs.length) : cutD xs lo hi = xs := by
  unfold cutD
  rw [h.1, h.2]
  simp
theorem sl_d : SlR X (fun x lo hi H Q => ∃ d S Q0, SRel X.K S H ∧ Rel X.K S H d x ∧ sliD d S lo hi Q0 ∧ Ans X.K S H Q0 Q) := by
  intro pins s σ H x v vl vu lo hi sl Q I rx hs pl pu ⟨d, S, Q0, sr, r, q, an⟩
  have lists : ∀ {a : Addr} {vs : List V} {xs : List D}, x = .ref a → SqL X.K H a vs → Rels X.K S H xs vs → Q0 (.lst (cutD xs lo hi)) S → ∃ T id, typeLookup (.type T) "__getitem__" = pure (some (.builtin id)) ∧ s.TypeIs v T ∧ wpAny (model X.prog X.w) X.A (getItem v (.ref sl)) (EP X pins σ Q) X.xe s := fun e hq rv q =>
    sl_list pins s σ H x v vl vu lo hi sl Q I rx hs pl pu ⟨_, _, e, hq, fun p hp => an _ _ _ _ q (nx_new hp) (sr.new hp) ⟨p, _, rfl, sr.free hp, upd_same, (rv.cut lo hi).nx (nx_new hp)⟩⟩
  have via : ∀ {d : D} {xs : List D}, Rel X.K S H d x → lstD S d = some xs → Q0 (.lst (cutD xs lo hi)) S → ∃ T id, typeLookup (.type T) "__getitem__" = pure (some (.builtin id)) ∧ s.TypeIs v T ∧ wpAny (model X.prog X.w) X.A (getItem v (.ref sl)) (EP X pins σ Q) X.xe s := fun r e q =>
    let ⟨a, vs, h1, h2, h3⟩ := lstD_at sr r e
    lists h1 (.of h2) h3 q
  cases d with
  | str z => exact sl_str pins s σ H x v vl vu lo hi sl Q I rx hs pl pu ⟨z, r, le_line q.1, ansd (.str _) sr an q.2 rfl⟩
  | tup xs =>
    obtain ⟨a, vs, e, t, rv⟩ := r
    refine sl_tupA pins s σ H x v vl vu lo hi sl Q I rx hs pl pu ⟨a, vs, e, t.sq, fun hw => ?_, fun _ p hp => an _ _ _ _ q (nx_new hp) (sr.new hp) ⟨p, _, rfl, ⟨sr.free hp, upd_same⟩, (rv.cut lo hi).nx (nx_new hp)⟩⟩
    rw [← rv.length] at hw
    have q' : Q0 (.tup (cutD xs lo hi)) S := q
    rw [cutD_all hw] at q'
    exact ansd (.tup xs) sr an q' ⟨a, vs, rfl, t, rv⟩
  | kt xs =>
    obtain ⟨a, vs, e, t, rv⟩ := r
    refine sl_tupA pins s σ H x v vl vu lo hi sl Q I rx hs pl pu ⟨a, vs, e, t.sq, fun hw => absurd (by rw [rv.length]; exact hw) q.1, fun _ p hp => an _ _ _ _ q.2 (nx_new hp) (sr.new hp) ⟨p, _, rfl, ⟨sr.free hp, upd_same⟩, (rv.cut lo hi).nx (nx_new hp)⟩⟩
  | tf xs =>
    obtain ⟨a, vs, e, t, rv⟩ := r
    refine sl_tupA pins s σ H x v vl vu lo hi sl Q I rx hs pl pu ⟨a, vs, e, t.sq, fun hw => absurd (by rw [rv.length]; exact hw) q.1, fun _ p hp => an _ _ _ _ q.2 (nx_new hp) (sr.new hp) ⟨p, _, rfl, ⟨sr.free hp, upd_same⟩, (rv.cut lo hi).nx (nx_new hp)⟩⟩
  | src xs =>
    obtain ⟨a, vs, e, t, rv⟩ := r
    exact lists e t.sq rv q
  | lst xs => exact let ⟨ys, e, q⟩ := q; via r e q
  | obj a => exact let ⟨ys, e, q⟩ := q; via r e q
  | _ => exact let ⟨_, e, _⟩ := q; nomatch e
theorem de_sl {a : Expr} {lo hi : Option Expr} {we : WE} {tl th : WP} {pos p2 : Pos} (ha : DE X a we) (hl : DP X lo tl) (hh : DP X hi th) : DE X (.Subscript a (.Slice lo hi none p2) pos) (wSl we tl th) :=
  pe_imp (pe_slice sl_d ha hl hh) fun σ H Q ⟨sd, S, Q0, st, q, an⟩ => ⟨sd, S, _, st, q, fun d S1 v H1 q1 n1 s1 r1 => ⟨sd, S1, _, st.nx n1 s1, q1, fun o S2 H2 q2 n2 s2 => ⟨sd, S2, _, (st.nx n1 s1).nx n2 s2, q2, fun o3 S3 H3 q3 n3 s3 =>
    ⟨d, S3, Q0, s3, (Rel.nx (n2.trans n3) _ _ r1), q3, an.nx (n1.trans (n2.trans n3))⟩⟩⟩⟩
end
end L2.DL

/-! DL9: built-ins by values, methods, stores -/
namespace L2.DL
open PySem PySem.Spec PyProof.Rows

section
variable {K : PySem.W.Frag} {S : SO} {H : Hp}
theorem rels_of_ints : ∀ (ns : List Int), Rels K S H (ns.map D.int) (ns.map V.int)
  | [] => rfl
  | k :: ks => ⟨_, _, rfl, rfl, rels_of_ints ks⟩
end
/-- the items of a list that is read -/
def lstX (S : SO) : D → Option (List D)
  | .src xs => some xs
  | d => lstD S d
/-- one argument; two -/
def one (xs : List D) (k : D → Prop) : Prop := match xs with
  | [x] => k x
  | _ => False
def two2 (xs : List D) (k : D → D → Prop) : Prop := match xs with
  | [x, y] => k x y
  | _ => False
theorem one_of {xs : List D} {k : D → Prop} (h : one xs k) : ∃ j, xs = [j] ∧ k j := by
  unfold one at h
  split at h
  · exact ⟨_, rfl, h⟩
  · exact h.elim
theorem two2_of {xs : List D} {k : D → D → Prop} (h : two2 xs k) : ∃ i j, xs = [i, j] ∧ k i j := by
  unfold two2 at h
  split at h
  · exact ⟨_, _, rfl, h⟩
  · exact h.elim
theorem Rels.v1 {K : PySem.W.Frag} {S : SO} {H : Hp} {d : D} {vs : List V} (r : Rels K S H [d] vs) : ∃ v, vs = [v] ∧ Rel K S H d v := by
  obtain ⟨v, r', rfl, rv, e⟩ := r
  have e' : r' = [] := e
  exact ⟨v, by rw [e'], rv⟩
section
variable {X : Cx}
/-! ### numbers -/
def cInt : WL := fun xs S Q => one xs fun x => match x with
  | .int i => Q (.int i) S
  | .bl b => Q (.int (if b then 1 else 0)) S
  | _ => False
theorem dc_int : DC X (.type "int") cInt := by
  intro pins s σ H xs us Q I r ⟨ds, S, Q0, sr, rs, q, an⟩
  obtain ⟨x, rfl, q⟩ := one_of q
  obtain ⟨v, rfl, rv⟩ := rs.v1
  cases x with
  | int i =>
    have e : v = .int i := rv
    exact call_int1 pins s σ H _ us Q I r (.inl ⟨i, by rw [e], ansd (.int i) sr an q rfl⟩)
  | bl i =>
    have e : v = .bl i := rv
    exact call_int1 pins s σ H _ us Q I r (.inr ⟨i, by rw [e], ansd (.int _) sr an q rfl⟩)
  | _ => exact False.elim q
def blsX (S : SO) (xs : List D) (k : List Bool → Prop) : Prop := one xs fun x => ∃ ns : List Bool, lstX S x = some (ns.map D.bl) ∧ k ns
def cAll : WL := fun xs S Q => blsX S xs fun ns => Q (.bl (ns.all id)) S
def cAny : WL := fun xs S Q => blsX S xs fun ns => Q (.bl (ns.any id)) S
/-! ### len, list, tuple -/
def lenD0 (S : SO) (d : D) (k : Nat → Prop) : Prop := match d with
  | .str z => z.length ≤ 1000000 ∧ k z.length
  | d => (∃ xs, seqX S d = some xs ∧ k xs.length) ∨ ∃ t kvs, dicX S d = some (t, kvs) ∧ k kvs.length
structure LenD (S : SO) (d : D) (k : Nat → Prop) : Prop where
  ex : lenD0 S d k
abbrev lenD (S : SO) (d : D) (k : Nat → Prop) : Prop := LenD S d k
theorem len_seq {S : SO} {d : D} {k : Nat → Prop} {xs : List D} (e : seqX S d = some xs) (h : k xs.length) : lenD S d k := by
  refine ⟨?_⟩
  cases d with
  | str z => cases e
  | _ => exact .inl ⟨xs, e, h⟩
theorem lenD_cases {S : SO} {d : D} {k : Nat → Prop} (h' : lenD S d k) : (∃ z, d = .str z ∧ z.length ≤ 1000000 ∧ k z.length) ∨ (∃ xs, seqX S d = some xs ∧ k xs.length) ∨ ∃ t kvs, dicX S d = some (t, kvs) ∧ k kvs.length := by
  have h := h'.ex
  cases d with
  | str z => exact .inl ⟨z, rfl, h⟩
  | _ => exact .inr h
def cLen : WL := fun xs S Q => one xs fun x => lenD S x fun n => Q (.int n) S
theorem dc_len : DC X (.builtin "len") cLen := by
  intro pins s σ H xs us Q I r ⟨ds, S, Q0, sr, rs, q, an⟩
  obtain ⟨x, rfl, q2⟩ := one_of q
  obtain ⟨v, rfl, rv⟩ := rs.v1
  rcases lenD_cases q2 with ⟨z, rfl, hz, q⟩ | ⟨ys, e, q⟩ | ⟨t, kvs, e, q⟩
  · have e : v = .str z := rv
    exact call_len pins s σ H _ us Q I r ⟨v, z.length, rfl, by rw [e]; exact ⟨le_line hz, rfl⟩, ansd (.int _) sr an q rfl⟩
  · obtain ⟨a, vs, rfl, hq, rns⟩ := seqX_at sr rv e
    exact call_len pins s σ H _ us Q I r ⟨.ref a, ys.length, rfl, hq.elim (fun h => .inl ⟨vs, h, rns.length⟩) fun h => .inr ⟨vs, h, rns.length⟩, ansd (.int _) sr an q rfl⟩
  · obtain ⟨a, rfl, da⟩ := dicX_at sr rv e
    rcases da with ⟨l, rfl, hl, rl⟩ | ⟨l, rfl, hl, rl⟩
    · obtain ⟨u, rfl, ru⟩ := vals1 r
      cases ru
      refine d_len I hl fun t s' I' => ⟨.int l.length, H, I', ⟨t, rfl⟩, ?_⟩
      rw [← rl.length]
      exact ansd (.int _) sr an q rfl
    · refine call_len_dT pins s σ H _ us Q I r ⟨a, l, rfl, hl, ?_⟩
      rw [← rl.length]
      exact ansd (.int _) sr an q rfl
/-- tuple(of a list), of a tuple -/
def cTuple : WL := fun xs S Q => one xs fun x => match x with
  | .tup ys => Q (.tup ys) S
  | x => ∃ ys, lstX S x = some ys ∧ Q (.tup ys) S
/-! ### methods -/
abbrev WM := D → List D → SO → KD → Prop
abbrev DM (X : Cx) (id : String) (w : WM) : Prop := MtR X id (liftM X.K w)
def tyD (T : String) (d : D) (S : SO) : Prop := match d with
  | .str _ => T = "str"
  | .int _ => T = "int"
  | .src _ => T = "list"
  | .dic _ _ => T = "dict"
  | .lst _ => T = "list"
  | .obj a => (T = "list" ∧ ∃ xs, S a = some (.lst xs)) ∨ (T = "dict" ∧ ∃ t kvs, S a = some (.dic t kvs))
  | _ => False
theorem tyD_at {T : String} {d : D} {S : SO} {K : PySem.W.Frag} {H : Hp} {v : V} (h : tyD T d S) (s : SRel K S H) (r : Rel K S H d v) : tyV K T v H := by
  have dc : ∀ {a : Addr} {t : Bool} {kvs : List (D × D)}, DicAt K S H a t kvs → tyV K "dict" (.ref a) H := fun h => by
    rcases h with ⟨l, _, hl, _⟩ | ⟨l, _, hl, _⟩
    · exact .inr (.inr (.inl ⟨rfl, .inl ⟨l, hl⟩⟩))
    · exact .inr (.inr (.inl ⟨rfl, .inr ⟨l, hl⟩⟩))
  cases d with
  | str z =>
    have e : v = .str z := r
    have h' : T = "str" := h
    rw [e, h']
    exact rfl
  | int z =>
    have e : v = .int z := r
    have h' : T = "int" := h
    rw [e, h']
    exact rfl
  | src xs =>
    have h' : T = "list" := h
    obtain ⟨a, vs, rfl, t, _⟩ := r
    exact .inl ⟨h', vs, t.sq⟩
  | lst xs =>
    have h' : T = "list" := h
    obtain ⟨a, vs, rfl, _, t, _⟩ := r
    exact .inl ⟨h', vs, .of t⟩
  | dic t kvs =>
    have h' : T = "dict" := h
    obtain ⟨a, rfl, _, da⟩ := r
    rw [h']
    exact dc da
  | obj a =>
    have e : v = .ref a := r
    rw [e]
    rcases h with ⟨h', xs, hx⟩ | ⟨h', t, kvs, hx⟩
    · obtain ⟨vs, hv, _⟩ := s a _ hx
      exact .inl ⟨h', vs, .of hv⟩
    · rw [h']
      exact dc (s a _ hx)
  | _ => exact False.elim h
def wBM (T : String) (w : WM) (wo : WE) (t : WA) : WE := fun sd S Q => wo sd S fun d S1 => tyD T d S1 ∧ t sd S1 fun xs S2 => w d xs S2 Q
section
variable {o e : Expr} {es : List Expr} {wo : WE} {t : WA} {name : Str} {apos cpos : Pos} {T id : String} {w : WM}
theorem bm_lift {σ : St} {H : Hp} {Q : VK} (h : lift X.K (wBM T w wo t) σ H Q) : tBM X.K T (liftM X.K w) (lift X.K wo) (liftA X.K t) σ H Q := by
  obtain ⟨sd, S, Q0, st, q, an⟩ := h
  exact ⟨sd, S, _, st, q, fun d S1 v H1 ⟨ty, q1⟩ n1 s1 r1 => ⟨tyD_at ty s1 r1, sd, S1, _, st.nx n1 s1, q1, fun xs S2 vs H2 q2 n2 s2 r2 => ⟨d, xs, S2, Q0, s2, Rel.nx n2 _ _ r1, r2, q2, an.nx (n1.trans n2)⟩⟩⟩
theorem de_bm (hm : DM X id w) (pa : PlainAttrs T) (slot : Slot T name id) (hty : typeOf (.builtin id) = pure (.type "method_descriptor")) (ho : DE X o wo) (ha : DA X (e :: es) t)
    (hbase : attributeBase o name X.env (eval o X.env) = eval o X.env := by rfl)
    (hfew : ((backTo cpos (starEach (e :: es) X.env)).all (fun x => !x.1) && (backToKw cpos (keywordEach [] X.env)).all (fun x => x.1.isSome)
      && decide ((e :: es).length + ([] : List Keyword).length + (if ([] : List Keyword).isEmpty then 0 else 1) < 30)) = true := by rfl)
    (hline : (apos.endLine == cpos.line) = true := by rfl) (hs : starEach (e :: es) X.env = (false, eval e X.env) :: starEach es X.env := by rfl) (hplain : (backTo cpos (starEach es X.env)).any (·.1) = false := by rfl) :
    DE X (.Call (.Attribute o name apos) (e :: es) [] cpos) (wBM T w wo t) := pe_imp (pe_bm pa slot hty hm ho ha hbase hfew hline hs hplain) fun σ H Q h => bm_lift h
end
def mAppend : WM := fun d xs S Q => one xs fun y => ∃ a ys, d = .obj a ∧ S a = some (.lst ys) ∧ ys.length < 1000000 ∧ Q .non (S.set a (.lst (ys ++ [y])))
theorem dm_append : DM X "list.append" mAppend := by
  intro pins s σ H x xs v us Q I rx rs ⟨d, ys, S, Q0, sr, r1, r2, q, an⟩
  obtain ⟨y, rfl, a, zs, rfl, hS, hl, q⟩ := one_of q
  have r1' : x = .ref a := r1
  obtain ⟨u, rfl, ru⟩ := r2.v1
  obtain ⟨vs, hv, rv⟩ := sr a _ hS
  have n2 : Nx S H (S.set a (.lst (zs ++ [y]))) (upd H a (.lst (vs ++ [u]))) := nx_put hS
  refine mt_append pins s σ H x _ v us Q I rx rs ⟨a, vs, u, r1', rfl, hv, by rw [← rv.length]; exact Nat.lt_of_lt_of_le hl (le_line (Nat.le_refl _)), ?_⟩
  exact an _ _ _ _ q n2 (srel_put sr n2 ⟨_, upd_same, (rv.app (.one ru)).nx n2⟩) rfl
/-! ### stores -/
abbrev WSet := D → D → D → SO → (SO → Prop) → Prop
theorem Rels.set {K : PySem.W.Frag} {S : SO} {H : Hp} {d : D} {v : V} (hr : Rel K S H d v) : ∀ {ds : List D} {vs : List V} (j : Nat), Rels K S H ds vs → Rels K S H (ds.set j d) (vs.set j v)
  | [], _, j, h => by
    have e : _ = [] := h
    rw [e]
    exact rfl
  | d' :: ds, _, 0, h => by
    obtain ⟨u, r, rfl, h1, h2⟩ := h
    exact ⟨v, r, rfl, hr, h2⟩
  | d' :: ds, _, j + 1, h => by
    obtain ⟨u, r, rfl, h1, h2⟩ := h
    exact ⟨u, _, rfl, h1, h2.set hr j⟩
/-- o[i] as a target -/
def gSubD (wo wi : WE) (w : WSet) : WG := fun v sd S Q => wo sd S fun d S1 => wi sd S1 fun k S2 => w d k v S2 fun S3 => Q sd S3
/-- a, b = x, y with plain local names -/
def wPar (i j : Nat) (t : WA) : WS := fun E sd S => t sd S fun xs S1 => two2 xs fun x y => E.nx ((sd.set i (some x)).set j (some y)) S1
theorem ds_par {i j : Nat} {x y : Str} {a b : Expr} {t : WA} {px py pt pos pt2 : Pos} {kt k2 : Nat} (hc : X.calm = true) (hN : X.N.Nodup) (ha : DA X [a, b] t) (hi : X.N[i]? = some x := by rfl) (hj : X.N[j]? = some y := by rfl) (hij : i ≠ j := by decide)
    (hx : X.env.scope.names.lookup x = some .local := by rfl) (hy : X.env.scope.names.lookup y = some .local := by rfl) (hw : swappedStores [.Tuple [.Name x px, .Name y py] kt pt] (.Tuple [a, b] k2 pt2) X.env = pure (some [x, y]) := by rfl)
    (hs : swapsWithSole [.Tuple [.Name x px, .Name y py] kt pt] (.Tuple [a, b] k2 pt2) pos.line X.env = pure false := by rfl) : DS X (.Assign [.Tuple [.Name x px, .Name y py] kt pt] (.Tuple [a, b] k2 pt2) pos) (wPar i j t) :=
  ps_imp (ps_par hc hN hi hj hij hx hy ha hw hs) fun E σ H ⟨sd, S, E0, st, q, an⟩ => ⟨sd, S, _, st, q, fun xs S1 vs H1 q1 n1 s1 r1 => by
    obtain ⟨u, v, rfl, q1⟩ := two2_of q1
    obtain ⟨vu, vv, rfl, ru, rv⟩ := r1.two
    exact ⟨vu, vv, rfl, an.nx _ _ _ _ q1 n1 (((st.nx n1 s1).set i ru).set j rv)⟩⟩
def three (xs : List D) (k : D → D → D → Prop) : Prop := match xs with
  | [x, y, z] => k x y z
  | _ => False
def wPar3 (i j k : Nat) (t : WA) : WS := fun E sd S => t sd S fun xs S1 => three xs fun x y z => E.nx (((sd.set i (some x)).set j (some y)).set k (some z)) S1
end
end L2.DL

/-! DL10: enumerate over lists and tuples -/
namespace L2.DL
open PySem PySem.Spec PyProof.Rows

def enumD (xs : List D) : List D := xs.mapIdx fun i d => .tup [.int (i : Nat), d]
def wEnum (t : WA) : WI := fun sd S R => t sd S fun xs S1 => one xs fun d => seqD d S1 fun ys ok => R ⟨enumD ys, ok⟩ S1
end L2.DL

/-! DL11: dict comprehensions whose keys are ints and texts, or tuples of these -/
namespace L2.DL
open PySem PySem.Spec PyProof.Rows

section
variable {X : Cx}
/-! ### .. over data -/
end
end L2.DL

/-! DL12: isinstance; dict of pairs -/
namespace L2.DL
open PySem PySem.Spec PyProof.Rows

/-- a value's class: a built-in one by its name, an own one by its address -/
abbrev TyN := String ⊕ Addr
def objT : Option DO → Option TyN
  | some (.lst _) => some (.inl "list")
  | some (.dic _ _) => some (.inl "dict")
  | some (.ins C _) => some (.inr C)
  | some (.err _ _) => none
  | some (.tb _) => none
  | none => none
def tyX (S : SO) : D → Option TyN
  | .non => some (.inl "NoneType")
  | .bl _ => some (.inl "bool")
  | .int _ => some (.inl "int")
  | .str _ => some (.inl "str")
  | .tup _ => some (.inl "tuple")
  | .kt _ => some (.inl "tuple")
  | .tf _ => some (.inl "tuple")
  | .lst _ => some (.inl "list")
  | .src _ => some (.inl "list")
  | .dic _ _ => some (.inl "dict")
  | .fd _ _ => none
  | .gh _ _ => none
  | .ins C _ => some (.inr C)
  | .obj a => objT (S a)
  | .ty _ => none
/-- isinstance(x, c) -/
def cIsi (c : D) (f : TyN → Option Bool) : WL := fun xs S Q => two2 xs fun x c' => c' = c ∧ ∃ t b, tyX S x = some t ∧ f t = some b ∧ Q (.bl b) S
/-- a built-in class: the names that a value's class may have -/
def tyNames : List String := ["NoneType", "bool", "int", "str", "tuple", "list", "dict"]
def subN (n T : String) : Bool := n == T || (n == "bool" && T == "int")
def fTy (T : String) (Cs : List Addr) : TyN → Option Bool
  | .inl n => if n ∈ tyNames then some (subN n T) else none
  | .inr C => if C ∈ Cs then some false else none
/-! ### dict of a list of pairs -/
section
variable {K : PySem.W.Frag} {S : SO} {H : Hp}
end
end L2.DL

/-! DL13: tuples without a dict: tuple(list), index; dict displays; repr -/
namespace L2.DL
open PySem PySem.Spec PyProof.Rows
section
variable {X : Cx}
/-- tuple(list), the tuple known to have no dict -/
def cTupleF : WL := fun xs S Q => one xs fun x => ∃ ys, lstX S x = some ys ∧ Q (.tf ys) S
/-! ### methods of tuples -/
/-! ### {k: v} -/
/-! ### repr -/
end
end L2.DL

/-! DL14: walks over texts; the law's head over data -/
namespace L2.DL
open PySem PySem.Spec PyProof.Rows
/-! ### for sign in text -/
/-! ### room -/
theorem Room.u65 {k : Nat} {A : Around} (r : Room k A) : A.units + 65 < cLine := by have := r.un; omega
theorem Room.u70 {k : Nat} {A : Around} (r : Room k A) : A.units + 70 < cLine := by have := r.un; omega

/-! ### the law's head -/
section
variable {P : Program} {w : World} {K : PySem.W.Frag} {mg : Str → Option Value} {base : Heap}
/-- the law's call, from a heap in which the script alone may be tracked -/
theorem law_core {k : Nat} {fa a : Addr} {fd : FuncData} {x : Str} {sp : Sp} {s : Shared} {H : Hp} {vs : List Value} {mb : Str → Option Value} {ns : List Int}
    (KX : K.In s.heap) (hns : s.heap.Ns mainGlobals mg) (hb : s.heap.Ns builtinsNs mb) (hbb : ∀ x : Str, x ≠ "__name__" → mb x = bootBuiltins x) (hlim : s.heap.NoLimit) (hg : s.gens = #[])
    (ha : s.heap.get? a = some { cls := .type "list", data := .seq vs.toArray }) (hr : Room k callerA)
    (F : ∀ base : Heap, K.In base → base.Ns mainGlobals mg → FnG P w K mg base CX0 k fa fd [x] sp) (hbind : ∀ (s : Shared) (u : Value), BindsTo s fd ⟨[u], []⟩ [(x, u)])
    (hO : Only H) (hok : HOk P w H s.heap) (hA : ∀ b, H b ≠ none → b = a) (hK : H a ≠ none → K.lookup a = none) (hsp : sp [.ref a] H (fun v _ => v = .bl true) fun _ _ _ => False) :
    codeAny (model P w) callerA (.call (.ref fa) ⟨[.ref a], []⟩) (fun r s' => r = .ok (.ret (.bool true)) ∧ OldK s.heap s'.heap ∧ s'.os = s.os ∧ AllBare s'.gens) s := by
  have only : ∀ {b : Addr}, (b ≠ a ∨ ∃ o, s.heap.get? b = some o ∧ ∃ es ep, o.data = .dict es ep) → H b = none := fun {b} h => by
    cases q : H b with
    | none => rfl
    | some u =>
      have e := hA b (by rw [q]; exact fun z => nomatch z)
      subst e
      rcases h with h | ⟨o, h1, es, ep, h2⟩
      · exact absurd rfl h
      · rw [ha] at h1
        cases h1
        exact nomatch (show Data.seq vs.toArray _ = Data.dict es ep from h2)
  have keepNs : ∀ {b : Addr} {m : Str → Option Value}, s.heap.Ns b m → (hidT s.heap H).Ns b m := fun ⟨o, es, ep, e, d, r⟩ => ⟨o, es, ep, hidT_get e (only (.inr ⟨o, e, es, ep, d⟩)), d, r⟩
  have keepK : K.In (hidT s.heap H) := fun b o e => hidT_get (KX b o e) (by
    by_cases hb : H b = none
    · exact hb
    · have eb := hA b hb
      subst eb
      rw [hK hb] at e
      cases e)
  obtain ⟨mc, lim1, lim2⟩ := hlim
  have M : Mod K mg (hidT s.heap H) := ⟨keepK, keepNs hns, ⟨mb, keepNs hb, hbb⟩, mc, keepNs lim1, lim2⟩
  have e0 : Env0 P w K mg (hidT s.heap H) callerA [] s H := ⟨rfl, M, fun b o e => of_hidT e, Nat.le_of_eq (hidT_size _ _), trivial, fun b hb => absurd hb (by simp [frs]), hok, .of_eq hg⟩
  have run := (F _ keepK (keepNs hns)).go callerA [] s H ⟨[.ref a], []⟩ [.ref a] [.ref a] _ _ hr rfl e0 (hbind s (.ref a)) (.cons rfl .nil) hsp
  refine codeAny_mono run fun r s' h => ?_
  cases r with
  | error e => exact (show False from h).elim
  | ok fl =>
    cases fl with
    | next => exact False.elim h
    | brk => exact False.elim h
    | cont => exact False.elim h
    | ret u =>
      obtain ⟨v, H', os, bare, un, hok', ru, ev⟩ := h
      subst ev
      have eu : u = Value.bool true := ru
      refine ⟨by rw [eu], OldK.of_keep fun b o e => ?_, os, bare⟩
      rcases hO b with z | ⟨ob, ys, z⟩
      · exact un.keep b o e z (fun h => absurd h (by simp [frs])) (by simp)
      · have h1 := (hok b _ z).1
        have h2 := (hok' b _ (un.frzs b ob _ z)).1
        rw [e] at h1
        cases h1
        exact h2
theorem law_callG {mb : Str → Option Value} {k : Nat} {fa a : Addr} {fd : FuncData} {x : Str} {sp : Sp} {s : Shared} {vs : List Value} {ns : List Int}
    (KX : K.In s.heap) (hns : s.heap.Ns mainGlobals mg) (hb : s.heap.Ns builtinsNs mb) (hbb : ∀ x : Str, x ≠ "__name__" → mb x = bootBuiltins x) (hlim : s.heap.NoLimit) (hg : s.gens = #[])
    (ha : s.heap.get? a = some { cls := .type "list", data := .seq vs.toArray }) (hi : IntsAre vs ns) (hl : ns.length ≤ sizeLine) (hr : Room k callerA)
    (F : ∀ base : Heap, K.In base → base.Ns mainGlobals mg → FnG P w K mg base CX0 k fa fd [x] sp) (hbind : ∀ (s : Shared) (u : Value), BindsTo s fd ⟨[u], []⟩ [(x, u)])
    (hsp : ∀ H : Hp, Only H → SqL K H a (ns.map V.int) → sp [.ref a] H (fun v _ => v = .bl true) fun _ _ _ => False) :
    codeAny (model P w) callerA (.call (.ref fa) ⟨[.ref a], []⟩) (fun r s' => r = .ok (.ret (.bool true)) ∧ OldK s.heap s'.heap ∧ s'.os = s.os ∧ AllBare s'.gens) s := by
  have rv := vals_ints hi
  by_cases hk : K.lookup a = none
  · let ob : Obj := { cls := .type "list", data := .seq vs.toArray }
    have at_ : (fun b => if b = a then some (HO.frz ob (.lst (ns.map V.int))) else none : Hp) a = some (.frz ob (.lst (ns.map V.int))) := if_pos rfl
    have off : ∀ b, b ≠ a → (fun b => if b = a then some (HO.frz ob (.lst (ns.map V.int))) else none : Hp) b = none := fun b hb => if_neg hb
    have on : ∀ b, (fun b => if b = a then some (HO.frz ob (.lst (ns.map V.int))) else none : Hp) b ≠ none → b = a := fun b h => Classical.byContradiction fun z => h (off b z)
    have O : Only (fun b => if b = a then some (HO.frz ob (.lst (ns.map V.int))) else none : Hp) := fun b => by
      by_cases h : b = a
      · exact .inr ⟨ob, _, by rw [h]; exact at_⟩
      · exact .inl (off b h)
    refine law_core (ns := ns) KX hns hb hbb hlim hg ha hr F hbind O (fun b u z => ?_) on (fun _ => hk) (hsp _ O (.inl (.inr ⟨ob, at_⟩)))
    have hba : b = a := Classical.byContradiction fun hne => nomatch (off b hne).symm.trans z
    subst hba
    have z2 := at_.symm.trans z
    cases z2
    exact ⟨ha, by rw [List.length_map]; exact hl, vs, _, rv, ha⟩
  · obtain ⟨o, ho⟩ : ∃ o, K.lookup a = some o := Option.ne_none_iff_exists'.mp hk
    have e := KX a o ho
    rw [ha] at e
    cases e
    have O : Only (fun _ => none) := fun _ => .inl rfl
    exact law_core (ns := ns) KX hns hb hbb hlim hg ha hr F hbind O (fun b u z => nomatch (show (none : Option HO) = some u from z)) (fun b h => absurd rfl h) (fun h => absurd rfl h)
      (hsp _ O (.inr ⟨_, vs.toArray, _, ho, rfl, rfl, rfl, by rw [List.size_toArray, hi.length]; exact hl, by simpa using rv⟩))
/-- the law's def promises: of a script of ints it says True -/
def LawSp (n : Nat) : DSp := fun ds S Q _ => ∃ ns : List Int, ds = [.src (ns.map D.int)] ∧ ns.length ≤ n ∧ S = (fun _ => none) ∧ ∀ S', Q (.bl true) S'
theorem walk_G {l : PySem.W.OpenLaw} {n k : Nat} {q : Program} {loose : List Str} {XP : (Str → Option Value) → Heap → Prop} {YP : World → Heap → Prop} {d : DefRec} {K : Params → PySem.W.Frag} {x : Str}
    (hn : l.most = some n) (hn2 : n ≤ sizeLine) (hdf : d.params.defaults = []) (hr : Room k callerA) (hY : ∀ (w : World) (h : Heap), YP w h → (K w.params).In h)
    (F : ∀ (w : World) (mg : Str → Option Value) (fa : Addr) (h : Heap), (K w.params).In h → h.Ns mainGlobals mg → mg d.name = some (.ref fa) →
      ∃ fd : FuncData, (∀ (s : Shared) (u : Value), BindsTo s fd ⟨[u], []⟩ [(x, u)]) ∧ ∀ base : Heap, (K w.params).In base → base.Ns mainGlobals mg → FnD l.prog w (K w.params) mg base k fa fd [x] (LawSp n)) :
    PySem.W.WalkO q loose XP YP l.row.toRowW d [] (fun f vs => PySem.call f vs) := by
  refine Att.attach_call hn hdf fun w s₀ s₁ mg mb fa o pm cd doc a vs ns G Y ho hd hcd hmg hobj hints hlen hg => ?_
  have KX := hY w _ Y
  obtain ⟨fd, hb, hF⟩ := F w mg fa _ KX G.T.g hmg
  refine law_callG KX G.T.g G.T.b G.T.builtins G.T.nolimit hg hobj hints (Nat.le_trans hlen hn2) hr hF hb fun H hO hS => ?_
  refine ⟨[.src (ns.map D.int)], fun _ => none, fun d _ => d = .bl true, NoE, (fun a o h => nomatch (show (none : Option DO) = some o from h)), ⟨.ref a, [], rfl, ⟨a, _, rfl, ?_, rels_of_ints ns⟩, rfl⟩, ⟨ns, rfl, hlen, rfl, fun _ => rfl⟩, fun d S' v H' e _ _ r => ?_, noE_ans⟩
  · rcases hS with h | h
    · exact .inl ⟨rfl, h⟩
    · exact .inr h
  · subst e
    exact r
end
end L2.DL

/-! DL15: how readings are answered -/
namespace L2.DL
open PySem PySem.Spec PyProof.Rows
theorem isY {b : Bool} {Q : Bool → SO → Prop} {S : SO} (e : b = true) (h : Q true S) : IsB Q (.bl b) S := by
  rw [e]
  exact ⟨h⟩
theorem isN {b : Bool} {Q : Bool → SO → Prop} {S : SO} (e : b = false) (h : Q false S) : IsB Q (.bl b) S := by
  rw [e]
  exact ⟨h⟩
theorem lez {n m : Nat} (h : Nat.ble n m = true) : n ≤ m := Nat.le_of_ble_eq_true h
theorem cl {Q : KD} {d : D} {S : SO} (h : Q d S) : Cl Q d S := .of h
theorem u65 {k : Nat} {A : Around} (r : Room k A) : A.units + 65 < cLine := by have := r.un; omega
theorem u70 {k : Nat} {A : Around} (r : Room k A) : A.units + 70 < cLine := by have := r.un; omega
section
variable {X : Cx} {x : Str} {pos : Pos}
theorem de_gI {z : Int} {t : Tok} (hm : X.mg x = some (.int z t)) (hg : Gl X x := by rfl) (hd : (x == ("__debug__" : Str)) = false := by decide) : DE X (.Name x pos) (wC (.int z)) := de_glob (v := .int z) hg hm ⟨t, rfl⟩ (fun _ _ _ => rfl) hd
theorem de_gC {a : Addr} (hm : X.mg x = some (.ref a)) (hg : Gl X x := by rfl) (hd : (x == ("__debug__" : Str)) = false := by decide) : DE X (.Name x pos) (wC (.obj a)) := de_glob (v := .ref a) hg hm rfl (fun _ _ _ => rfl) hd
theorem de_bT {T : String} (hm : X.mg x = none) (hv : bootBuiltins x = some (.type T)) (hg : Gl X x := by rfl) (hn : x ≠ "__name__" := by decide) (hd : (x == ("__debug__" : Str)) = false := by decide) : DE X (.Name x pos) (wC (.ty T)) := de_bltn (v := .ty T) hg hm hv rfl (fun _ _ _ => rfl) hn hd
end
end L2.DL

/-! DL16: own comparisons, join -/
namespace L2.DL
open PySem PySem.Spec PyProof.Rows
section
variable {X : Cx} {k : Nat} {g C : Addr} {fd : FuncData} {ps : List Str} {dsp : DSp}
end
end L2.DL

/-! DL17: starred items, tuples displayed and known to have no dict -/
namespace L2.DL
open PySem PySem.Spec PyProof.Rows
section
variable {X : Cx} {e : Expr} {es : List Expr} {we : WE} {t : WA} {p pos : Pos}
def wStar (we : WE) (t : WA) : WA := fun sd S Q => we sd S fun d S1 => ∃ xs, seqX S1 d = some xs ∧ t sd S1 fun ys S2 => Q (xs ++ ys) S2
def wTupF (t : WA) : WE := fun sd S Q => t sd S fun xs S1 => xs.length ≤ 1000000 ∧ Q (.tf xs) S1
end
end L2.DL

/-! DL18: len, str, repr of own instances -/
namespace L2.DL
open PySem PySem.Spec PyProof.Rows
section
variable {X : Cx} {CX : CXT} {k : Nat} {g C : Addr} {fd : FuncData} {ps : List Str} {dsp : DSp}
end
end L2.DL

/-! DL19: t[::-1] of tuples and lists -/
namespace L2.DL
open PySem PySem.Spec PyProof.Rows
section
variable {prog : Program} {w : World} {A : Around} {E : Value → Shared → Prop} {s : Shared}
end
section
variable {X : Cx}
end
end L2.DL

/-! DL20: list comprehensions with two for -/
namespace L2.DL
open PySem PySem.Spec PyProof.Rows
section
variable {X : Cx}
variable {elt tg iter tg1 iter1 : Expr} {ifs ifs1 : List Expr} {scope : Scope} {own : List (Str × Nat)} {pos : Pos} {wi wi1 : WI} {nt nt1 : NT} {tt tt1 : WT} {we : WE}
end
end L2.DL

/-! DL21: list.insert, list.pop() -/
namespace L2.DL
open PySem PySem.Spec PyProof.Rows
section
variable {X : Cx}
end
end L2.DL

/-! DL22: readings answered step by step, each step a lemma that fits by its head alone -/
namespace L2.DL
open PySem PySem.Spec PyProof.Rows
/-! one step: the lemmas that fit by their head alone are instances, so that Lean finds the one that fits by its index (no alternative is tried in vain) -/
inductive Lv | z | s (v : Lv)
class Step (v : Lv) (P : Prop) (Q : outParam Prop) : Prop where go : Q → P
abbrev NoS : SD → SO → Prop := fun _ _ => False
section
variable {n bk ct : SD → SO → Prop} {r : KD} {sd : SD} {S : SO} {Q : KD} {a b : WS} {we wa wb wc : WE} {t : WA} {o : Option D} {d x y : D} {i j : Int} {A B : Prop}
/-! statements -/
theorem xFn {w : WS} (h : w ⟨fun _ S' => Cl Q .non S', Cl Q, NoS, NoS⟩ sd S) : w (endsOf Q) sd S := h
theorem xSeq (h : a ⟨b ⟨n, r, bk, ct⟩, r, bk, ct⟩ sd S) : wSeq a b ⟨n, r, bk, ct⟩ sd S := h
instance st_xSeq {lw : Lv} : Step lw (wSeq a b ⟨n, r, bk, ct⟩ sd S) (a ⟨b ⟨n, r, bk, ct⟩, r, bk, ct⟩ sd S) := ⟨fun h => xSeq h⟩
theorem xNext (h : n sd S) : wNext ⟨n, r, bk, ct⟩ sd S := h
instance st_xNext {lw : Lv} : Step lw (wNext ⟨n, r, bk, ct⟩ sd S) (n sd S) := ⟨fun h => xNext h⟩
theorem xBreak (h : bk sd S) : wBreak ⟨n, r, bk, ct⟩ sd S := h
instance st_xBreak {lw : Lv} : Step lw (wBreak ⟨n, r, bk, ct⟩ sd S) (bk sd S) := ⟨fun h => xBreak h⟩
theorem xCont (h : ct sd S) : wCont ⟨n, r, bk, ct⟩ sd S := h
instance st_xCont {lw : Lv} : Step lw (wCont ⟨n, r, bk, ct⟩ sd S) (ct sd S) := ⟨fun h => xCont h⟩
theorem xRet (h : we sd S r) : wRet we ⟨n, r, bk, ct⟩ sd S := h
instance st_xRet {lw : Lv} : Step lw (wRet we ⟨n, r, bk, ct⟩ sd S) (we sd S r) := ⟨fun h => xRet h⟩
theorem xRetN (h : r .non S) : wRetN ⟨n, r, bk, ct⟩ sd S := h
instance st_xRetN {lw : Lv} : Step lw (wRetN ⟨n, r, bk, ct⟩ sd S) (r .non S) := ⟨fun h => xRetN h⟩
theorem xDrop (h : we sd S fun _ S1 => n sd S1) : wDrop we ⟨n, r, bk, ct⟩ sd S := h
instance st_xDrop {lw : Lv} : Step lw (wDrop we ⟨n, r, bk, ct⟩ sd S) (we sd S fun _ S1 => n sd S1) := ⟨fun h => xDrop h⟩
theorem xIfS {c : WT} (h : c sd S fun k S1 => if k = true then a ⟨n, r, bk, ct⟩ sd S1 else b ⟨n, r, bk, ct⟩ sd S1) : wIfS c a b ⟨n, r, bk, ct⟩ sd S := h
instance st_xIfS {lw : Lv} {c : WT} : Step lw (wIfS c a b ⟨n, r, bk, ct⟩ sd S) (c sd S fun k S1 => if k = true then a ⟨n, r, bk, ct⟩ sd S1 else b ⟨n, r, bk, ct⟩ sd S1) := ⟨fun h => xIfS h⟩
theorem xAsg {g : WG} (h : we sd S fun d S1 => g d sd S1 n) : wAsg we g ⟨n, r, bk, ct⟩ sd S := h
instance st_xAsg {lw : Lv} {g : WG} : Step lw (wAsg we g ⟨n, r, bk, ct⟩ sd S) (we sd S fun d S1 => g d sd S1 n) := ⟨fun h => xAsg h⟩
instance st_wSeqE {lw : Lv} : Step lw (wSeq a b (endsOf Q) sd S) (wSeq a b ⟨fun _ S' => Cl Q .non S', Cl Q, NoS, NoS⟩ sd S) := ⟨fun h => h⟩
instance st_wNextE {lw : Lv} : Step lw (wNext (endsOf Q) sd S) (wNext ⟨fun _ S' => Cl Q .non S', Cl Q, NoS, NoS⟩ sd S) := ⟨fun h => h⟩
instance st_wRetE {lw : Lv} : Step lw (wRet we (endsOf Q) sd S) (wRet we ⟨fun _ S' => Cl Q .non S', Cl Q, NoS, NoS⟩ sd S) := ⟨fun h => h⟩
instance st_wRetNE {lw : Lv} : Step lw (wRetN (endsOf Q) sd S) (wRetN ⟨fun _ S' => Cl Q .non S', Cl Q, NoS, NoS⟩ sd S) := ⟨fun h => h⟩
instance st_wDropE {lw : Lv} : Step lw (wDrop we (endsOf Q) sd S) (wDrop we ⟨fun _ S' => Cl Q .non S', Cl Q, NoS, NoS⟩ sd S) := ⟨fun h => h⟩
instance st_wIfSE {lw : Lv} {c : WT} : Step lw (wIfS c a b (endsOf Q) sd S) (wIfS c a b ⟨fun _ S' => Cl Q .non S', Cl Q, NoS, NoS⟩ sd S) := ⟨fun h => h⟩
instance st_wAsgE {lw : Lv} {g : WG} : Step lw (wAsg we g (endsOf Q) sd S) (wAsg we g ⟨fun _ S' => Cl Q .non S', Cl Q, NoS, NoS⟩ sd S) := ⟨fun h => h⟩
/-! targets -/
section
variable {Qg : SD → SO → Prop} {ds : List D} {g : WG} {gs : WGs}
theorem g0 (h : Qg (some d :: sd) S) : gV 0 d (o :: sd) S Qg := h
instance st_g0 {lw : Lv} : Step lw (gV 0 d (o :: sd) S Qg) (Qg (some d :: sd) S) := ⟨fun h => g0 h⟩
theorem gSu {k : Nat} (h : gV k d sd S fun sd' S' => Qg (o :: sd') S') : gV (k + 1) d (o :: sd) S Qg := h
instance st_gSu {lw : Lv} {k : Nat} : Step lw (gV (k + 1) d (o :: sd) S Qg) (gV k d sd S fun sd' S' => Qg (o :: sd') S') := ⟨fun h => gSu h⟩
theorem gTup {k : Nat} (h : gs ds sd S Qg) (hl : ds.length = k := by with_unfolding_all rfl) : gT k gs (.tup ds) sd S Qg := ⟨hl, h⟩
theorem gCons (h : g d sd S fun sd1 S1 => gs ds sd1 S1 Qg) : gC g gs (d :: ds) sd S Qg := h
instance st_gCons {lw : Lv} : Step lw (gC g gs (d :: ds) sd S Qg) (g d sd S fun sd1 S1 => gs ds sd1 S1 Qg) := ⟨fun h => gCons h⟩
theorem gNil (h : Qg sd S) : gN [] sd S Qg := ⟨rfl, h⟩
instance st_gNil {lw : Lv} : Step lw (gN [] sd S Qg) (Qg sd S) := ⟨fun h => gNil h⟩
end
/-! names, constants -/
theorem v0 (h : Q d S) : wV 0 (some d :: sd) S Q := h
instance st_v0 {lw : Lv} : Step lw (wV 0 (some d :: sd) S Q) (Q d S) := ⟨fun h => v0 h⟩
theorem vS {k : Nat} (h : wV k sd S Q) : wV (k + 1) (o :: sd) S Q := by
  unfold wV at h ⊢
  rw [List.getElem?_cons_succ]
  exact h
instance st_vS {lw : Lv} {k : Nat} : Step lw (wV (k + 1) (o :: sd) S Q) (wV k sd S Q) := ⟨fun h => vS h⟩
theorem xC (h : Q d S) : wC d sd S Q := h
instance st_xC {lw : Lv} : Step lw (wC d sd S Q) (Q d S) := ⟨fun h => xC h⟩
/-! operators -/
theorem xO {w : WO} (h : wa sd S fun x S1 => wb sd S1 fun y S2 => w x y S2 Q) : wO w wa wb sd S Q := h
instance st_xO {lw : Lv} {w : WO} : Step lw (wO w wa wb sd S Q) (wa sd S fun x S1 => wb sd S1 fun y S2 => w x y S2 Q) := ⟨fun h => xO h⟩
theorem xU {w : WU} (h : wa sd S fun x S1 => w x S1 Q) : wU w wa sd S Q := h
instance st_xU {lw : Lv} {w : WU} : Step lw (wU w wa sd S Q) (wa sd S fun x S1 => w x S1 Q) := ⟨fun h => xU h⟩
theorem xCall {w : WL} (h : t sd S fun xs S1 => w xs S1 Q) : wCall w t sd S Q := h
instance st_xCall {lw : Lv} {w : WL} : Step lw (wCall w t sd S Q) (t sd S fun xs S1 => w xs S1 Q) := ⟨fun h => xCall h⟩
section
variable {Qa : List D → SO → Prop}
theorem xNil (h : Qa [] S) : wNil sd S Qa := h
instance st_xNil {lw : Lv} : Step lw (wNil sd S Qa) (Qa [] S) := ⟨fun h => xNil h⟩
theorem xCons (h : we sd S fun x S1 => t sd S1 fun xs S2 => Qa (x :: xs) S2) : wCons we t sd S Qa := h
instance st_xCons {lw : Lv} : Step lw (wCons we t sd S Qa) (we sd S fun x S1 => t sd S1 fun xs S2 => Qa (x :: xs) S2) := ⟨fun h => xCons h⟩
theorem xStar (h : we sd S fun d S1 => ∃ xs, seqX S1 d = some xs ∧ t sd S1 fun ys S2 => Qa (xs ++ ys) S2) : wStar we t sd S Qa := h
instance st_xStar {lw : Lv} : Step lw (wStar we t sd S Qa) (we sd S fun d S1 => ∃ xs, seqX S1 d = some xs ∧ t sd S1 fun ys S2 => Qa (xs ++ ys) S2) := ⟨fun h => xStar h⟩
end
theorem xTup (h : t sd S fun xs S1 => xs.length ≤ 1000000 ∧ Q (.tup xs) S1) : wTup t sd S Q := h
instance st_xTup {lw : Lv} : Step lw (wTup t sd S Q) (t sd S fun xs S1 => xs.length ≤ 1000000 ∧ Q (.tup xs) S1) := ⟨fun h => xTup h⟩
theorem xTupF (h : t sd S fun xs S1 => xs.length ≤ 1000000 ∧ Q (.tf xs) S1) : wTupF t sd S Q := h
instance st_xTupF {lw : Lv} : Step lw (wTupF t sd S Q) (t sd S fun xs S1 => xs.length ≤ 1000000 ∧ Q (.tf xs) S1) := ⟨fun h => xTupF h⟩
theorem xLst (h : t sd S fun xs S1 => xs.length ≤ 1000000 ∧ Q (.lst xs) S1) : wLst t sd S Q := h
instance st_xLst {lw : Lv} : Step lw (wLst t sd S Q) (t sd S fun xs S1 => xs.length ≤ 1000000 ∧ Q (.lst xs) S1) := ⟨fun h => xLst h⟩
theorem xNew (h : t sd S fun xs S1 => xs.length ≤ 1000000 ∧ ∀ p, S1 p = none → Q (.obj p) (S1.set p (.lst xs))) : wNew t sd S Q := h
instance st_xNew {lw : Lv} : Step lw (wNew t sd S Q) (t sd S fun xs S1 => xs.length ≤ 1000000 ∧ ∀ p, S1 p = none → Q (.obj p) (S1.set p (.lst xs))) := ⟨fun h => xNew h⟩
theorem andL (ha : A) (hb : B) : A ∧ B := ⟨ha, hb⟩
/-! truths -/
section
variable {Qb : Bool → SO → Prop} {tt tu : WT}
theorem xB (h : wa sd S (isB Qb)) : wB wa sd S Qb := h
instance st_xB {lw : Lv} : Step lw (wB wa sd S Qb) (wa sd S (isB Qb)) := ⟨fun h => xB h⟩
theorem xAnd (h : tt sd S fun k S1 => if k = true then tu sd S1 Qb else Qb false S1) : wAnd tt tu sd S Qb := h
instance st_xAnd {lw : Lv} : Step lw (wAnd tt tu sd S Qb) (tt sd S fun k S1 => if k = true then tu sd S1 Qb else Qb false S1) := ⟨fun h => xAnd h⟩
theorem xOr (h : tt sd S fun k S1 => if k = true then Qb true S1 else tu sd S1 Qb) : wOr tt tu sd S Qb := h
instance st_xOr {lw : Lv} : Step lw (wOr tt tu sd S Qb) (tt sd S fun k S1 => if k = true then Qb true S1 else tu sd S1 Qb) := ⟨fun h => xOr h⟩
theorem xNot (h : tt sd S fun k S1 => Qb (!k) S1) : wNot tt sd S Qb := h
instance st_xNot {lw : Lv} : Step lw (wNot tt sd S Qb) (tt sd S fun k S1 => Qb (!k) S1) := ⟨fun h => xNot h⟩
theorem xAndV (h : wa sd S (isB fun k S1 => if k = true then wb sd S1 Q else Q (.bl false) S1)) : wAndV wa wb sd S Q := h
instance st_xAndV {lw : Lv} : Step lw (wAndV wa wb sd S Q) (wa sd S (isB fun k S1 => if k = true then wb sd S1 Q else Q (.bl false) S1)) := ⟨fun h => xAndV h⟩
theorem xOrV (h : wa sd S (isB fun k S1 => if k = true then Q (.bl true) S1 else wb sd S1 Q)) : wOrV wa wb sd S Q := h
instance st_xOrV {lw : Lv} : Step lw (wOrV wa wb sd S Q) (wa sd S (isB fun k S1 => if k = true then Q (.bl true) S1 else wb sd S1 Q)) := ⟨fun h => xOrV h⟩
theorem xNotV (h : wa sd S (isB fun k S1 => Q (.bl (!k)) S1)) : wNotV wa sd S Q := h
instance st_xNotV {lw : Lv} : Step lw (wNotV wa sd S Q) (wa sd S (isB fun k S1 => Q (.bl (!k)) S1)) := ⟨fun h => xNotV h⟩
theorem xIf {tt : WT} (h : tt sd S fun k S1 => if k = true then wa sd S1 Q else wb sd S1 Q) : wIf tt wa wb sd S Q := h
instance st_xIf {lw : Lv} {tt : WT} : Step lw (wIf tt wa wb sd S Q) (tt sd S fun k S1 => if k = true then wa sd S1 Q else wb sd S1 Q) := ⟨fun h => xIf h⟩
theorem xCh {w w' : WO} (h : wa sd S fun x S1 => wb sd S1 fun y S2 => w x y S2 (isB fun k S3 => if k = true then wc sd S3 fun u S4 => w' y u S4 Q else Q (.bl false) S3)) : wCh w w' wa wb wc sd S Q := h
instance st_xCh {lw : Lv} {w w' : WO} : Step lw (wCh w w' wa wb wc sd S Q) (wa sd S fun x S1 => wb sd S1 fun y S2 => w x y S2 (isB fun k S3 => if k = true then wc sd S3 fun u S4 => w' y u S4 Q else Q (.bl false) S3)) := ⟨fun h => xCh h⟩
theorem xYes (h : Qb true S) : wYes sd S Qb := h
instance st_xYes {lw : Lv} : Step lw (wYes sd S Qb) (Qb true S) := ⟨fun h => xYes h⟩
theorem isT (h : Qb true S) : isB Qb (.bl true) S := ⟨h⟩
instance st_isT {lw : Lv} : Step lw (isB Qb (.bl true) S) (Qb true S) := ⟨fun h => isT h⟩
theorem isF (h : Qb false S) : isB Qb (.bl false) S := ⟨h⟩
instance st_isF {lw : Lv} : Step lw (isB Qb (.bl false) S) (Qb false S) := ⟨fun h => isF h⟩
theorem isT' (h : Qb true S) : IsB Qb (.bl true) S := ⟨h⟩
instance st_isT' {lw : Lv} : Step lw (IsB Qb (.bl true) S) (Qb true S) := ⟨fun h => isT' h⟩
theorem isF' (h : Qb false S) : IsB Qb (.bl false) S := ⟨h⟩
instance st_isF' {lw : Lv} : Step lw (IsB Qb (.bl false) S) (Qb false S) := ⟨fun h => isF' h⟩
theorem isYB {c : Bool} (e : c = true) (q : Qb true S) : isB Qb (.bl c) S := isY e q
theorem isNB {c : Bool} (e : c = false) (q : Qb false S) : isB Qb (.bl c) S := isN e q
theorem iT (h : A) : if true = true then A else B := by
  rw [if_pos rfl]
  exact h
instance st_iT {lw : Lv} : Step lw (if true = true then A else B) (A) := ⟨fun h => iT h⟩
theorem iF (h : B) : if false = true then A else B := by
  rw [if_neg Bool.false_ne_true]
  exact h
instance st_iF {lw : Lv} : Step lw (if false = true then A else B) (B) := ⟨fun h => iF h⟩
theorem iNT (h : B) : if (!true) = true then A else B := iF h
instance st_iNT {lw : Lv} : Step lw (if (!true) = true then A else B) (B) := ⟨fun h => iNT h⟩
theorem iNF (h : A) : if (!false) = true then A else B := iT h
instance st_iNF {lw : Lv} : Step lw (if (!false) = true then A else B) (A) := ⟨fun h => iNF h⟩
end
/-! ints -/
theorem iAdd (h : Q (.int (i + j)) S) : oAdd (.int i) (.int j) S Q := h
instance st_iAdd {lw : Lv} : Step lw (oAdd (.int i) (.int j) S Q) (Q (.int (i + j)) S) := ⟨fun h => iAdd h⟩
theorem iSub (h : Q (.int (i - j)) S) : oSub (.int i) (.int j) S Q := ⟨trivial, h⟩
instance st_iSub {lw : Lv} : Step lw (oSub (.int i) (.int j) S Q) (Q (.int (i - j)) S) := ⟨fun h => iSub h⟩
theorem iAnd (h : Q (.int (Builtin.bitAnd i j)) S) : oAnd (.int i) (.int j) S Q := ⟨trivial, h⟩
instance st_iAnd {lw : Lv} : Step lw (oAnd (.int i) (.int j) S Q) (Q (.int (Builtin.bitAnd i j)) S) := ⟨fun h => iAnd h⟩
theorem iOr (h : Q (.int (Builtin.bitOr i j)) S) : oOr (.int i) (.int j) S Q := ⟨trivial, h⟩
instance st_iOr {lw : Lv} : Step lw (oOr (.int i) (.int j) S Q) (Q (.int (Builtin.bitOr i j)) S) := ⟨fun h => iOr h⟩
theorem iLt (h : Q (.bl (decide (i < j))) S) : oLt (.int i) (.int j) S Q := ⟨trivial, h⟩
instance st_iLt {lw : Lv} : Step lw (oLt (.int i) (.int j) S Q) (Q (.bl (decide (i < j))) S) := ⟨fun h => iLt h⟩
theorem iLe (h : Q (.bl (decide (i ≤ j))) S) : oLe (.int i) (.int j) S Q := ⟨trivial, h⟩
instance st_iLe {lw : Lv} : Step lw (oLe (.int i) (.int j) S Q) (Q (.bl (decide (i ≤ j))) S) := ⟨fun h => iLe h⟩
theorem iGt (h : Q (.bl (decide (j < i))) S) : oGt (.int i) (.int j) S Q := ⟨trivial, h⟩
instance st_iGt {lw : Lv} : Step lw (oGt (.int i) (.int j) S Q) (Q (.bl (decide (j < i))) S) := ⟨fun h => iGt h⟩
theorem iGe (h : Q (.bl (decide (j ≤ i))) S) : oGe (.int i) (.int j) S Q := ⟨trivial, h⟩
instance st_iGe {lw : Lv} : Step lw (oGe (.int i) (.int j) S Q) (Q (.bl (decide (j ≤ i))) S) := ⟨fun h => iGe h⟩
theorem iEq (h : Q (.bl (decide (i = j))) S) : oEq (.int i) (.int j) S Q := h
instance st_iEq {lw : Lv} : Step lw (oEq (.int i) (.int j) S Q) (Q (.bl (decide (i = j))) S) := ⟨fun h => iEq h⟩
theorem iNe (h : Q (.bl (!decide (i = j))) S) : oNe (.int i) (.int j) S Q := h
instance st_iNe {lw : Lv} : Step lw (oNe (.int i) (.int j) S Q) (Q (.bl (!decide (i = j))) S) := ⟨fun h => iNe h⟩
theorem sEq {u v : Str} (h : Q (.bl (decide (u = v))) S) : oEq (.str u) (.str v) S Q := h
instance st_sEq {lw : Lv} {u v : Str} : Step lw (oEq (.str u) (.str v) S Q) (Q (.bl (decide (u = v))) S) := ⟨fun h => sEq h⟩
theorem sNe {u v : Str} (h : Q (.bl (!decide (u = v))) S) : oNe (.str u) (.str v) S Q := h
instance st_sNe {lw : Lv} {u v : Str} : Step lw (oNe (.str u) (.str v) S Q) (Q (.bl (!decide (u = v))) S) := ⟨fun h => sNe h⟩
theorem iNeg (h : Q (.int (-i)) S) : oNeg (.int i) S Q := h
instance st_iNeg {lw : Lv} : Step lw (oNeg (.int i) S Q) (Q (.int (-i)) S) := ⟨fun h => iNeg h⟩
theorem isN1 (h : Q (.bl true) S) : oIsN .non .non S Q := ⟨rfl, h⟩
instance st_isN1 {lw : Lv} : Step lw (oIsN .non .non S Q) (Q (.bl true) S) := ⟨fun h => isN1 h⟩
theorem isN2 (h : Q (.bl (isNon d)) S) : oIsN d .non S Q := ⟨rfl, h⟩
instance st_isN2 {lw : Lv} : Step lw (oIsN d .non S Q) (Q (.bl (isNon d)) S) := ⟨fun h => isN2 h⟩
theorem noN2 (h : Q (.bl (!isNon d)) S) : oNotN d .non S Q := ⟨rfl, h⟩
instance st_noN2 {lw : Lv} : Step lw (oNotN d .non S Q) (Q (.bl (!isNon d)) S) := ⟨fun h => noN2 h⟩
/-! lengths -/
section
variable {k : Nat → Prop} {xs : List D} {α : Type} {f : α → D} {l : List α}
theorem xLen (h : lenD S x fun n => Q (.int (n : Nat)) S) : cLen [x] S Q := h
instance st_xLen {lw : Lv} : Step lw (cLen [x] S Q) (lenD S x fun n => Q (.int (n : Nat)) S) := ⟨fun h => xLen h⟩
theorem lTupM (h : k l.length) : lenD S (.tup (l.map f)) k := len_seq rfl (by rw [List.length_map]; exact h)
instance st_lTupM {lw : Lv} : Step lw (lenD S (.tup (l.map f)) k) (k l.length) := ⟨fun h => lTupM h⟩
theorem lTfM (h : k l.length) : lenD S (.tf (l.map f)) k := len_seq rfl (by rw [List.length_map]; exact h)
instance st_lTfM {lw : Lv} : Step lw (lenD S (.tf (l.map f)) k) (k l.length) := ⟨fun h => lTfM h⟩
theorem lLstM (h : k l.length) : lenD S (.lst (l.map f)) k := len_seq rfl (by rw [List.length_map]; exact h)
instance st_lLstM {lw : Lv} : Step lw (lenD S (.lst (l.map f)) k) (k l.length) := ⟨fun h => lLstM h⟩
theorem lSrcM (h : k l.length) : lenD S (.src (l.map f)) k := len_seq rfl (by rw [List.length_map]; exact h)
instance st_lSrcM {lw : Lv} : Step lw (lenD S (.src (l.map f)) k) (k l.length) := ⟨fun h => lSrcM h⟩
theorem lTup (h : k xs.length) : lenD S (.tup xs) k := len_seq rfl h
instance st_lTup {lw : Lv} : Step lw (lenD S (.tup xs) k) (k xs.length) := ⟨fun h => lTup h⟩
theorem lTf (h : k xs.length) : lenD S (.tf xs) k := len_seq rfl h
instance st_lTf {lw : Lv} : Step lw (lenD S (.tf xs) k) (k xs.length) := ⟨fun h => lTf h⟩
theorem lLst (h : k xs.length) : lenD S (.lst xs) k := len_seq rfl h
instance st_lLst {lw : Lv} : Step lw (lenD S (.lst xs) k) (k xs.length) := ⟨fun h => lLst h⟩
theorem lSrc (h : k xs.length) : lenD S (.src xs) k := len_seq rfl h
instance st_lSrc {lw : Lv} : Step lw (lenD S (.src xs) k) (k xs.length) := ⟨fun h => lSrc h⟩
theorem lDic {t : Bool} {kvs : List (D × D)} (h : k kvs.length) : lenD S (.dic t kvs) k := ⟨.inr ⟨t, kvs, rfl, h⟩⟩
instance st_lDic {lw : Lv} {t : Bool} {kvs : List (D × D)} : Step lw (lenD S (.dic t kvs) k) (k kvs.length) := ⟨fun h => lDic h⟩
/-! all, any -/
theorem xAll {bs : List Bool} (h : Q (.bl (bs.all id)) S) : cAll [.lst (bs.map D.bl)] S Q := ⟨bs, rfl, h⟩
instance st_xAll {lw : Lv} {bs : List Bool} : Step lw (cAll [.lst (bs.map D.bl)] S Q) (Q (.bl (bs.all id)) S) := ⟨fun h => xAll h⟩
theorem xAllM {g : α → Bool} (h : Q (.bl (l.all g)) S) : cAll [.lst (l.map fun z => .bl (g z))] S Q := ⟨l.map g, by show some _ = some _; rw [List.map_map]; rfl, by show Q (.bl ((l.map g).all id)) S; rw [List.all_map]; exact h⟩
instance st_xAllM {lw : Lv} {g : α → Bool} : Step lw (cAll [.lst (l.map fun z => .bl (g z))] S Q) (Q (.bl (l.all g)) S) := ⟨fun h => xAllM h⟩
theorem xAnyM {g : α → Bool} (h : Q (.bl (l.any g)) S) : cAny [.lst (l.map fun z => .bl (g z))] S Q := ⟨l.map g, by show some _ = some _; rw [List.map_map]; rfl, by show Q (.bl ((l.map g).any id)) S; rw [List.any_map]; exact h⟩
instance st_xAnyM {lw : Lv} {g : α → Bool} : Step lw (cAny [.lst (l.map fun z => .bl (g z))] S Q) (Q (.bl (l.any g)) S) := ⟨fun h => xAnyM h⟩
end
/-! items by index -/
section
variable {xs : List D} {k : Nat} {α : Type} {f : α → D} {l : List α} {z : α}
theorem ixLst (e : atI xs i = some d) (h : Q d S) : oIx (.lst xs) (.int i) S Q := .inl ⟨xs, i, d, rfl, rfl, e, h⟩
end
/-! calls -/
theorem xFnC {sp : DSp} (h : t sd S fun xs S1 => sp xs S1 Q NoE) : wFn sp [] t sd S Q := by
  unfold wFn
  simp only [List.append_nil]
  exact h
instance st_xFnC {lw : Lv} {sp : DSp} : Step lw (wFn sp [] t sd S Q) (t sd S fun xs S1 => sp xs S1 Q NoE) := ⟨fun h => xFnC h⟩
/-! attributes, methods of instances -/
def FldD (C : Addr) (g : Str) (d : D) (S : SO) (Q : KD) : Prop := ∃ fs v, InsD C d S fs ∧ fs.lookup g = some v ∧ Q v S
theorem xFld {C : Addr} {g : Str} (h : we sd S fun d S1 => FldD C g d S1 Q) : wFld C g we sd S Q := h
instance st_xFld {lw : Lv} {C : Addr} {g : Str} : Step lw (wFld C g we sd S Q) (we sd S fun d S1 => FldD C g d S1 Q) := ⟨fun h => xFld h⟩
def MthD (C : Addr) (m : Str) (d : D) (S : SO) (A : Prop) : Prop := (∃ fs, InsD C d S fs ∧ fs.lookup m = none) ∧ A
theorem xMth {C : Addr} {m : Str} {sp : DSp} (h : we sd S fun d S1 => MthD C m d S1 (t sd S1 fun xs S2 => sp (d :: xs) S2 Q NoE)) : wMeth C m sp [] we t sd S Q := by
  unfold wMeth
  simp only [List.append_nil]
  exact h
instance st_xMth {lw : Lv} {C : Addr} {m : Str} {sp : DSp} : Step lw (wMeth C m sp [] we t sd S Q) (we sd S fun d S1 => MthD C m d S1 (t sd S1 fun xs S2 => sp (d :: xs) S2 Q NoE)) := ⟨fun h => xMth h⟩
/-! what is walked -/
section
variable {R : ItD → SO → Prop} {Rs : List D → (SO → Prop) → Prop} {xs : List D}
theorem xSeqI (h : we sd S fun d S1 => seqD d S1 fun xs ok => R ⟨xs, ok⟩ S1) : wSeqI we sd S R := h
instance st_xSeqI {lw : Lv} : Step lw (wSeqI we sd S R) (we sd S fun d S1 => seqD d S1 fun xs ok => R ⟨xs, ok⟩ S1) := ⟨fun h => xSeqI h⟩
theorem sTup (h : Rs xs fun _ => True) : seqD (.tup xs) S Rs := h
instance st_sTup {lw : Lv} : Step lw (seqD (.tup xs) S Rs) (Rs xs fun _ => True) := ⟨fun h => sTup h⟩
theorem sTf (h : Rs xs fun _ => True) : seqD (.tf xs) S Rs := h
instance st_sTf {lw : Lv} : Step lw (seqD (.tf xs) S Rs) (Rs xs fun _ => True) := ⟨fun h => sTf h⟩
theorem sLst (h : Rs xs fun _ => True) : seqD (.lst xs) S Rs := h
instance st_sLst {lw : Lv} : Step lw (seqD (.lst xs) S Rs) (Rs xs fun _ => True) := ⟨fun h => sLst h⟩
theorem sSrc (h : Rs xs fun _ => True) : seqD (.src xs) S Rs := h
instance st_sSrc {lw : Lv} : Step lw (seqD (.src xs) S Rs) (Rs xs fun _ => True) := ⟨fun h => sSrc h⟩
theorem xEnum (h : t sd S fun xs S1 => one xs fun d => seqD d S1 fun ys ok => R ⟨enumD ys, ok⟩ S1) : wEnum t sd S R := h
instance st_xEnum {lw : Lv} : Step lw (wEnum t sd S R) (t sd S fun xs S1 => one xs fun d => seqD d S1 fun ys ok => R ⟨enumD ys, ok⟩ S1) := ⟨fun h => xEnum h⟩
theorem one1 {k : D → Prop} (h : k d) : one [d] k := h
instance st_one1 {lw : Lv} {k : D → Prop} : Step lw (one [d] k) (k d) := ⟨fun h => one1 h⟩
theorem xRng1 (h : t sd S fun xs S1 => int1 xs fun j => -(2 ^ 62) ≤ j ∧ j < 2 ^ 62 ∧ R ⟨rangeD 0 j, fun _ => True⟩ S1) : wRng1 t sd S R := h
instance st_xRng1 {lw : Lv} : Step lw (wRng1 t sd S R) (t sd S fun xs S1 => int1 xs fun j => -(2 ^ 62) ≤ j ∧ j < 2 ^ 62 ∧ R ⟨rangeD 0 j, fun _ => True⟩ S1) := ⟨fun h => xRng1 h⟩
theorem xRng2 (h : t sd S fun xs S1 => int2 xs fun i j => (-(2 ^ 62) ≤ i ∧ i < 2 ^ 62 ∧ -(2 ^ 62) ≤ j ∧ j < 2 ^ 62) ∧ R ⟨rangeD i j, fun _ => True⟩ S1) : wRng2 t sd S R := h
instance st_xRng2 {lw : Lv} : Step lw (wRng2 t sd S R) (t sd S fun xs S1 => int2 xs fun i j => (-(2 ^ 62) ≤ i ∧ i < 2 ^ 62 ∧ -(2 ^ 62) ≤ j ∧ j < 2 ^ 62) ∧ R ⟨rangeD i j, fun _ => True⟩ S1) := ⟨fun h => xRng2 h⟩
theorem int1' {k : Int → Prop} (h : k i) : int1 [.int i] k := h
instance st_int1' {lw : Lv} {k : Int → Prop} : Step lw (int1 [.int i] k) (k i) := ⟨fun h => int1' h⟩
theorem int2' {k : Int → Int → Prop} (h : k i j) : int2 [.int i, .int j] k := h
instance st_int2' {lw : Lv} {k : Int → Int → Prop} : Step lw (int2 [.int i, .int j] k) (k i j) := ⟨fun h => int2' h⟩
theorem rng1N {k : Nat} (hk : k ≤ 1000000) (h : R ⟨rangeD 0 (k : Nat), fun _ => True⟩ S) : -(2 ^ 62) ≤ ((k : Nat) : Int) ∧ ((k : Nat) : Int) < 2 ^ 62 ∧ R ⟨rangeD 0 (k : Nat), fun _ => True⟩ S := ⟨by omega, by omega, h⟩
theorem rangeN (k : Nat) : rangeD 0 ((k : Nat) : Int) = (List.range k).map fun i => .int ((i : Nat) : Int) := by
  unfold rangeD
  rw [show ((k : Int) - 0).toNat = k by omega]
  exact List.map_congr_left fun i _ => by rw [Int.zero_add]
end
/-! slices -/
theorem xSl {tl th : WP} (h : we sd S fun d S1 => tl sd S1 fun lo S2 => th sd S2 fun hi S3 => sliD d S3 lo hi Q) : wSl we tl th sd S Q := h
instance st_xSl {lw : Lv} {tl th : WP} : Step lw (wSl we tl th sd S Q) (we sd S fun d S1 => tl sd S1 fun lo S2 => th sd S2 fun hi S3 => sliD d S3 lo hi Q) := ⟨fun h => xSl h⟩
section
variable {Qo : Option Int → SO → Prop}
theorem pN (h : Qo none S) : pNone sd S Qo := h
instance st_pN {lw : Lv} : Step lw (pNone sd S Qo) (Qo none S) := ⟨fun h => pN h⟩
theorem pS (h : we sd S (isI fun i S1 => Qo (some i) S1)) : pSome we sd S Qo := h
instance st_pS {lw : Lv} : Step lw (pSome we sd S Qo) (we sd S (isI fun i S1 => Qo (some i) S1)) := ⟨fun h => pS h⟩
end
theorem isI1 {k : Int → SO → Prop} (h : k i S) : isI k (.int i) S := ⟨h⟩
instance st_isI1 {lw : Lv} {k : Int → SO → Prop} : Step lw (isI k (.int i) S) (k i S) := ⟨fun h => isI1 h⟩
section
variable {xs : List D} {lo hi : Option Int} {k l : Nat} {p : Addr}
theorem slTup (h : Q (.tup (cutD xs lo hi)) S) : sliD (.tup xs) S lo hi Q := h
instance st_slTup {lw : Lv} : Step lw (sliD (.tup xs) S lo hi Q) (Q (.tup (cutD xs lo hi)) S) := ⟨fun h => slTup h⟩
theorem slSrc (h : Q (.lst (cutD xs lo hi)) S) : sliD (.src xs) S lo hi Q := h
instance st_slSrc {lw : Lv} : Step lw (sliD (.src xs) S lo hi Q) (Q (.lst (cutD xs lo hi)) S) := ⟨fun h => slSrc h⟩
theorem slLst (h : Q (.lst (cutD xs lo hi)) S) : sliD (.lst xs) S lo hi Q := ⟨xs, rfl, h⟩
instance st_slLst {lw : Lv} : Step lw (sliD (.lst xs) S lo hi Q) (Q (.lst (cutD xs lo hi)) S) := ⟨fun h => slLst h⟩
theorem sIxN (n d : Nat) : HT.sIx n d (some (k : Int)) = min k n := HT.sIx_nat n d k
theorem cutHi : cutD xs none (some (k : Int)) = xs.take k := by
  unfold cutD
  rw [sIxN]
  show (xs.drop 0).take (min k xs.length - 0) = _
  rw [List.drop_zero, Nat.sub_zero]
  by_cases h : k ≤ xs.length
  · rw [Nat.min_eq_left h]
  · rw [Nat.min_eq_right (by omega), List.take_of_length_le (Nat.le_refl _), List.take_of_length_le (by omega)]
end
/-! isinstance -/
end
/-! assignments at once, methods of lists -/
section
variable {n bk ct : SD → SO → Prop} {r : KD} {sd : SD} {S : SO} {Q : KD} {we : WE} {t : WA} {d x y z : D} {p : Addr} {xs : List D} {A : Prop}
theorem xPar {i j : Nat} (h : t sd S fun xs S1 => two2 xs fun x y => gV i x sd S1 fun sd' S2 => gV j y sd' S2 n) : wPar i j t ⟨n, r, bk, ct⟩ sd S := h
instance st_xPar {lw : Lv} {i j : Nat} : Step lw (wPar i j t ⟨n, r, bk, ct⟩ sd S) (t sd S fun xs S1 => two2 xs fun x y => gV i x sd S1 fun sd' S2 => gV j y sd' S2 n) := ⟨fun h => xPar h⟩
theorem xPar3 {i j k : Nat} (h : t sd S fun xs S1 => three xs fun x y z => gV i x sd S1 fun sd' S2 => gV j y sd' S2 fun sd' S2 => gV k z sd' S2 n) : wPar3 i j k t ⟨n, r, bk, ct⟩ sd S := h
instance st_xPar3 {lw : Lv} {i j k : Nat} : Step lw (wPar3 i j k t ⟨n, r, bk, ct⟩ sd S) (t sd S fun xs S1 => three xs fun x y z => gV i x sd S1 fun sd' S2 => gV j y sd' S2 fun sd' S2 => gV k z sd' S2 n) := ⟨fun h => xPar3 h⟩
theorem two2' {k : D → D → Prop} (h : k x y) : two2 [x, y] k := h
instance st_two2' {lw : Lv} {k : D → D → Prop} : Step lw (two2 [x, y] k) (k x y) := ⟨fun h => two2' h⟩
theorem three' {k : D → D → D → Prop} (h : k x y z) : three [x, y, z] k := h
instance st_three' {lw : Lv} {k : D → D → D → Prop} : Step lw (three [x, y, z] k) (k x y z) := ⟨fun h => three' h⟩
def BmD (T : String) (d : D) (S : SO) (A : Prop) : Prop := tyD T d S ∧ A
theorem xBM {T : String} {w : WM} (h : we sd S fun d S1 => BmD T d S1 (t sd S1 fun xs S2 => w d xs S2 Q)) : wBM T w we t sd S Q := h
instance st_xBM {lw : Lv} {T : String} {w : WM} : Step lw (wBM T w we t sd S Q) (we sd S fun d S1 => BmD T d S1 (t sd S1 fun xs S2 => w d xs S2 Q)) := ⟨fun h => xBM h⟩
theorem bmObj (e : S p = some (.lst xs)) (h : A) : BmD "list" (.obj p) S A := ⟨.inl ⟨rfl, xs, e⟩, h⟩
theorem bmLst (h : A) : BmD "list" (.lst xs) S A := ⟨rfl, h⟩
instance st_bmLst {lw : Lv} : Step lw (BmD "list" (.lst xs) S A) (A) := ⟨fun h => bmLst h⟩
theorem bmSrc (h : A) : BmD "list" (.src xs) S A := ⟨rfl, h⟩
instance st_bmSrc {lw : Lv} : Step lw (BmD "list" (.src xs) S A) (A) := ⟨fun h => bmSrc h⟩
theorem apM {α : Type} {f : α → D} {l : List α} {z : α} (e : S p = some (.lst (l.map f))) (hl : l.length < 1000000) (h : Q .non (S.set p (.lst ((l ++ [z]).map f)))) : mAppend (.obj p) [f z] S Q := ⟨p, _, rfl, e, by rw [List.length_map]; exact hl, by rw [List.map_append] at h; exact h⟩
theorem tfL (h : Q (.tf xs) S) : cTupleF [.lst xs] S Q := ⟨xs, rfl, h⟩
instance st_tfL {lw : Lv} : Step lw (cTupleF [.lst xs] S Q) (Q (.tf xs) S) := ⟨fun h => tfL h⟩
theorem tuL (h : Q (.tup xs) S) : cTuple [.lst xs] S Q := ⟨xs, rfl, h⟩
instance st_tuL {lw : Lv} : Step lw (cTuple [.lst xs] S Q) (Q (.tup xs) S) := ⟨fun h => tuL h⟩
theorem tuT (h : Q (.tup xs) S) : cTuple [.tup xs] S Q := h
instance st_tuT {lw : Lv} : Step lw (cTuple [.tup xs] S Q) (Q (.tup xs) S) := ⟨fun h => tuT h⟩
end
/-! for loops over typed sources and states -/
section
variable {n bk ct : SD → SO → Prop} {r : KD} {sd : SD} {S : SO} {wi : WI} {g : WG} {b : WS} {α σ : Type}
def ForJ (g : WG) (b : WS) (n : SD → SO → Prop) (r : KD) (sd : SD) (J : ItD) (S1 : SO) : Prop := ∃ Pv : Nat → SD → SO → Prop, Pv 0 sd S1 ∧ (∀ i sd S, Pv i sd S → J.ok S) ∧
  (∀ i d sd S, J.items[i]? = some d → Pv i sd S → g d sd S fun sd' S' => b ⟨Pv (i + 1), r, n, Pv (i + 1)⟩ sd' S') ∧ (∀ sd S, Pv J.items.length sd S → n sd S)
theorem xFor (h : wi sd S fun J S1 => ForJ g b n r sd J S1) : wFor wi g b ⟨n, r, bk, ct⟩ sd S := ⟨h⟩
instance st_xFor {lw : Lv} : Step lw (wFor wi g b ⟨n, r, bk, ct⟩ sd S) (wi sd S fun J S1 => ForJ g b n r sd J S1) := ⟨fun h => xFor h⟩
/-- what holds before turn i -/
def Turn (st : σ → SD) (so : σ → SO) (Iv : Nat → σ → Prop) (i : Nat) : SD → SO → Prop := fun sd S => ∃ a, sd = st a ∧ S = so a ∧ Iv i a
theorem Turn.of {st : σ → SD} {so : σ → SO} {Iv : Nat → σ → Prop} {i : Nat} (a : σ) (hv : Iv i a) (h1 : sd = st a := by rfl) (h2 : S = so a := by rfl) : Turn st so Iv i sd S := ⟨a, h1, h2, hv⟩
/-- σ: what the state is made of; st, so: the slots, the objects; Iv: the invariant before turn i -/
theorem forJ {xs : List D} {ok : SO → Prop} (l : List α) (f : α → D) (st : σ → SD) (so : σ → SO) (Iv : Nat → σ → Prop) (a0 : σ) (h0 : Iv 0 a0)
    (ht : ∀ i z a, l[i]? = some z → Iv i a → g (f z) (st a) (so a) fun sd' S' => b ⟨Turn st so Iv (i + 1), r, n, Turn st so Iv (i + 1)⟩ sd' S')
    (he : ∀ a, Iv l.length a → n (st a) (so a)) (hs : sd = st a0 := by rfl) (hS : S = so a0 := by rfl) (hx : xs = l.map f := by rfl) (hok : ∀ i a, Iv i a → ok (so a) := by intros; trivial) : ForJ g b n r sd ⟨xs, ok⟩ S := by
  subst hx
  refine ⟨Turn st so Iv, ⟨a0, hs, hS, h0⟩, ?_, ?_, ?_⟩
  · rintro i sd S ⟨a, rfl, rfl, hv⟩
    exact hok i a hv
  · rintro i d sd S hd ⟨a, rfl, rfl, hv⟩
    rw [List.getElem?_map] at hd
    obtain ⟨z, hz, rfl⟩ := Option.map_eq_some_iff.mp hd
    exact ht i z a hz hv
  · rintro sd S ⟨a, rfl, rfl, hv⟩
    rw [List.length_map] at hv
    exact he a hv
theorem forR {m : Nat} {ok : SO → Prop} (st : σ → SD) (so : σ → SO) (Iv : Nat → σ → Prop) (a0 : σ) (h0 : Iv 0 a0)
    (ht : ∀ i a, i < m → Iv i a → g (.int (i : Nat)) (st a) (so a) fun sd' S' => b ⟨Turn st so Iv (i + 1), r, n, Turn st so Iv (i + 1)⟩ sd' S')
    (he : ∀ a, Iv m a → n (st a) (so a)) (hs : sd = st a0 := by rfl) (hS : S = so a0 := by rfl) (hok : ∀ i a, Iv i a → ok (so a) := by intros; trivial) : ForJ g b n r sd ⟨rangeD 0 (m : Nat), ok⟩ S := by
  rw [rangeN]
  refine forJ (List.range m) (fun i : Nat => .int (i : Nat)) st so Iv a0 h0 (fun i z a hz hv => ?_) (fun a hv => he a (by rwa [List.length_range] at hv)) hs hS rfl hok
  have hl := (List.getElem?_eq_some_iff.mp hz).1
  rw [List.length_range] at hl
  rw [List.getElem?_range hl] at hz
  cases hz
  exact ht i a hl hv
/-! list comprehensions over typed sources -/
variable {nt : NT} {tt : WT} {we wk : WE} {vs : List Nat} {Q : KD}
class InjD {α : Type} (f : α → D) : Prop where
  inj : ∀ a b, f a = f b → a = b
instance : InjD D.str := ⟨fun _ _ h => by injection h⟩
instance : InjD D.int := ⟨fun _ _ h => by injection h⟩
instance : InjD (fun d : D => d) := ⟨fun _ _ h => h⟩
instance : InjD (fun i : Nat => D.int (i : Nat)) := ⟨fun _ _ h => by injection h with h; omega⟩
instance {α β : Type} (f : α → D) (h : β → D) [InjD f] [InjD h] : InjD (fun z : α × β => D.tup [f z.1, h z.2]) := ⟨fun a b e => by
  injection e with e
  injection e with e1 e
  injection e with e2 e
  exact Prod.ext (InjD.inj (f := f) _ _ e1) (InjD.inj (f := h) _ _ e2)⟩
theorem map_inj {α : Type} {f : α → D} [InjD f] : ∀ {a b : List α}, a.map f = b.map f → a = b
  | [], [], _ => rfl
  | [], _ :: _, h => by cases h
  | _ :: _, [], h => by cases h
  | x :: xs, y :: ys, h => by
    rw [List.map_cons, List.map_cons] at h
    injection h with h1 h2
    rw [InjD.inj (f := f) _ _ h1, map_inj h2]
instance {α : Type} (f : α → D) [InjD f] : InjD (fun r : List α => D.tup (r.map f)) := ⟨fun a b e => by injection e with e; exact map_inj e⟩
instance {α : Type} (f : α → D) [InjD f] : InjD (fun r : List α => D.tf (r.map f)) := ⟨fun a b e => by injection e with e; exact map_inj e⟩
instance {α : Type} (f : α → D) [InjD f] : InjD (fun r : List α => D.lst (r.map f)) := ⟨fun a b e => by injection e with e; exact map_inj e⟩
open Classical in
noncomputable def backF {α : Type} (l : List α) (f : α → D) (out : α → Option D) : D → Option D := fun d => if h : ∃ z, z ∈ l ∧ f z = d then out h.choose else none
theorem backF_eq {α : Type} {l : List α} {f : α → D} [InjD f] {out : α → Option D} {z : α} (h : z ∈ l) : backF l f out (f z) = out z := by
  unfold backF
  have e : ∃ z', z' ∈ l ∧ f z' = f z := ⟨z, h, rfl⟩
  rw [dif_pos e, InjD.inj (f := f) _ _ e.choose_spec.2]
theorem backF_map {α : Type} {l : List α} {f : α → D} [InjD f] {out : α → Option D} : (l.map f).filterMap (backF l f out) = l.filterMap out := by
  rw [List.filterMap_map]
  have key : ∀ m : List α, (∀ z ∈ m, z ∈ l) → m.filterMap (backF l f out ∘ f) = m.filterMap out := fun m => by
    induction m with
    | nil => intro _; rfl
    | cons x m ih =>
      intro hm
      rw [List.filterMap_cons, List.filterMap_cons, ih fun z hz => hm z (List.mem_cons_of_mem _ hz)]
      simp only [Function.comp]
      rw [backF_eq (hm x (List.mem_cons_self ..))]
  exact key l fun _ h => h
theorem map_filterMap {α β : Type} {p : α → Bool} {out : α → β} : ∀ l : List α, l.filterMap (fun z => if p z = true then some (out z) else none) = (l.filter p).map out
  | [] => rfl
  | x :: xs => by
    rw [List.filterMap_cons, List.filter_cons]
    cases h : p x <;> simp [map_filterMap xs]
/-- the source: the items of l -/
structure Src {α : Type} (l : List α) (f : α → D) (S : SO) (J : ItD) (S1 : SO) : Prop where
  it : J.items = l.map f
  ok : ∀ S', Ext S1 S' → J.ok S'
  st : S1 = S
theorem srcX {l : List α} {f : α → D} {xs : List D} (h : xs = l.map f) : Src l f S ⟨xs, fun _ => True⟩ S := ⟨h, fun _ _ => trivial, rfl⟩
theorem putNT_mono {nt : NT} {d : D} {sd : SD} {k k' : SD → Prop} (h : putNT nt d sd k) (i : ∀ sd2, k sd2 → k' sd2) : putNT nt d sd k' := by
  cases nt with
  | n j => exact i _ h
  | t l =>
    cases d with
    | tup xs => exact ⟨h.1, i _ h.2⟩
    | _ => exact False.elim h
/-- with a test: what is asked behind the test's answer c; o: the new item, if any -/
def LcK (we : WE) (sd2 : SD) (S' : SO) (o : Option D) : Bool → SO → Prop := fun c S2 => S2 = S' ∧ if c = true then up we sd2 S' fun y S3 => S3 = S' ∧ o = some y else o = none
theorem lcKT {sd2 : SD} {S' : SO} {o : Option D} {x : D} (e : o = some x) (h : we sd2 S' fun y S3 => S3 = S' ∧ x = y) : LcK we sd2 S' o true S' :=
  ⟨rfl, by rw [if_pos rfl]; exact ⟨_, h, fun y S3 ⟨e1, e2⟩ => ⟨e1, by rw [e, e2]⟩⟩⟩
theorem lcKF {sd2 : SD} {S' : SO} {o : Option D} (e : o = none) : LcK we sd2 S' o false S' := ⟨rfl, by rw [if_neg Bool.false_ne_true]; exact e⟩
def opt {α : Type} (c : Bool) (x : α) : Option α := if c = true then some x else none
theorem lcO (l : List α) (f : α → D) [InjD f] (F : α → Option D) (hi : wi sd S (Src l f S)) (hl : l.length ≤ 1000000)
    (hf : ∀ z ∈ l, ∀ S', Ext S S' → putNT nt (f z) (wipeD sd vs) fun sd2 => tt sd2 S' (LcK we sd2 S' (F z))) (hq : Q (.lst (l.filterMap F)) S) : wLcP wi nt tt we vs sd S Q := by
  refine ⟨_, hi, ?_⟩
  rintro ⟨xs, ok⟩ S1 ⟨hx, hok, rfl⟩
  have hx' : xs = l.map f := hx
  subst hx'
  refine ⟨hok, by show (l.map f).length ≤ _; rw [List.length_map]; exact hl, backF l f F, fun d hd S' e => ?_, ?_⟩
  · obtain ⟨z, hz, rfl⟩ := List.mem_map.mp hd
    rw [backF_eq hz]
    exact hf z hz S' e
  · show Q (.lst ((l.map f).filterMap (backF l f F))) S1
    rw [backF_map]
    exact hq
theorem lcF (l : List α) (f : α → D) [InjD f] (p : α → Bool) (out : α → D) (hi : wi sd S (Src l f S)) (hl : l.length ≤ 1000000)
    (hf : ∀ z ∈ l, ∀ S', Ext S S' → putNT nt (f z) (wipeD sd vs) fun sd2 => tt sd2 S' (LcK we sd2 S' (opt (p z) (out z)))) (hq : Q (.lst ((l.filter p).map out)) S) : wLcP wi nt tt we vs sd S Q := by
  refine lcO l f (fun z => opt (p z) (out z)) hi hl hf ?_
  have e : l.filterMap (fun z => opt (p z) (out z)) = (l.filter p).map out := map_filterMap l
  rw [e]
  exact hq
theorem lcM (l : List α) (f : α → D) [InjD f] (out : α → D) (hi : wi sd S (Src l f S)) (hl : l.length ≤ 1000000)
    (hf : ∀ z ∈ l, ∀ S', Ext S S' → putNT nt (f z) (wipeD sd vs) fun sd2 => we sd2 S' fun y S3 => S3 = S' ∧ out z = y) (hq : Q (.lst (l.map out)) S) : wLcP wi nt wYes we vs sd S Q := by
  refine lcO l f (fun z => some (out z)) hi hl (fun z hz S' e => putNT_mono (hf z hz S' e) fun sd2 h => ?_) ?_
  · exact lcKT rfl h
  · rw [List.filterMap_eq_map']
    exact hq
instance {α : Type} (f : α → D) [InjD f] : InjD (fun z : α × Nat => D.tup [.int (z.2 : Nat), f z.1]) := ⟨fun a b e => by
  injection e with e
  injection e with e1 e
  injection e with e2 e
  injection e1 with e1
  exact Prod.ext (InjD.inj (f := f) _ _ e2) (by omega)⟩
theorem srcR {m : Nat} : Src (List.range m) (fun i : Nat => D.int (i : Nat)) S ⟨rangeD 0 (m : Nat), fun _ => True⟩ S := ⟨rangeN m, fun _ _ => trivial, rfl⟩
end
/-! equal to [] or () -/
/-! the state: objects by their addresses -/
end L2.DL

/-! DL23: t[::-1] of tuples, the new one a tuple as any -/
namespace L2.DL
open PySem PySem.Spec PyProof.Rows
section
variable {X : Cx}
def RevD (d : D) (S : SO) (k : List D → Prop) : Prop := ∃ xs, (d = .tf xs ∨ d = .tup xs ∨ d = .kt xs) ∧ k xs
theorem revTup {xs : List D} {S : SO} {k : List D → Prop} (h : k xs) : RevD (.tup xs) S k := ⟨xs, .inr (.inl rfl), h⟩
instance st_revTup {lw : Lv} {xs : List D} {S : SO} {k : List D → Prop} : Step lw (RevD (.tup xs) S k) (k xs) := ⟨fun h => revTup h⟩
theorem revTf {xs : List D} {S : SO} {k : List D → Prop} (h : k xs) : RevD (.tf xs) S k := ⟨xs, .inl rfl, h⟩
instance st_revTf {lw : Lv} {xs : List D} {S : SO} {k : List D → Prop} : Step lw (RevD (.tf xs) S k) (k xs) := ⟨fun h => revTf h⟩
def wRevU (we : WE) : WE := fun sd S Q => we sd S fun d S1 => ∃ xs, (d = .tf xs ∨ d = .tup xs ∨ d = .kt xs) ∧ Q (.tup xs.reverse) S1
theorem xRevU {we : WE} {sd : SD} {S : SO} {Q : KD} (h : we sd S fun d S1 => RevD d S1 fun xs => Q (.tup xs.reverse) S1) : wRevU we sd S Q := h
instance st_xRevU {lw : Lv} {we : WE} {sd : SD} {S : SO} {Q : KD} : Step lw (wRevU we sd S Q) (we sd S fun d S1 => RevD d S1 fun xs => Q (.tup xs.reverse) S1) := ⟨fun h => xRevU h⟩
end
end L2.DL

/-! DL24: values of any kind: == () of tuples of anything, {} that nobody changes, isinstance -/
namespace L2.DL
open PySem PySem.Spec PyProof.Rows
def asTup : D → Option (List D)
  | .tup xs => some xs
  | .tf xs => some xs
  | _ => none
section
variable {X : Cx}
def wDicF : WE := fun _ S Q => Q (.dic false []) S
end
theorem xDicF {sd : SD} {S : SO} {Q : KD} (h : Q (.dic false []) S) : wDicF sd S Q := h
instance st_xDicF {lw : Lv} {sd : SD} {S : SO} {Q : KD} : Step lw (wDicF sd S Q) (Q (.dic false []) S) := ⟨fun h => xDicF h⟩
section
variable {wi : WI} {nt : NT} {tt : WT} {we : WE} {vs : List Nat} {sd : SD} {S : SO} {Q : KD}
/-- a list comprehension whose element may change objects: what is asked where the source is known -/
def LcJ (nt : NT) (tt : WT) (we : WE) (vs : List Nat) (R : Addr → SO → Prop) (sd : SD) (J : ItD) (S1 : SO) : Prop := ∀ p, S1 p = none → ∃ Pv : Nat → SO → Prop, Pv 0 (S1.set p (.lst [])) ∧ (∀ i S, Pv i S → J.ok S) ∧
  (∀ i d S, J.items[i]? = some d → Pv i S → putNT nt d (wipeD sd vs) fun sd2 => upT tt sd2 S fun b S2 => if b = true then up we sd2 S2 fun y S3 => ∃ acc, S3 p = some (.lst acc) ∧ acc.length ≤ 1000000 ∧ Pv (i + 1) (S3.set p (.lst (acc ++ [y]))) else Pv (i + 1) S2) ∧
  (∀ S, Pv J.items.length S → R p S)
def FrzR (Q : KD) (p : Addr) (S' : SO) : Prop := ∃ acc, S' p = some (.lst acc) ∧ Q (.lst acc) (S'.del p)
theorem xLcF (h : wi sd S fun J S1 => LcJ nt tt we vs (FrzR Q) sd J S1) : wLcF wi nt tt we vs sd S Q := ⟨h⟩
instance st_xLcF {lw : Lv} : Step lw (wLcF wi nt tt we vs sd S Q) (wi sd S fun J S1 => LcJ nt tt we vs (FrzR Q) sd J S1) := ⟨fun h => xLcF h⟩
theorem xLcN (h : wi sd S fun J S1 => LcJ nt tt we vs (fun p S' => Q (.obj p) S') sd J S1) : wLc wi nt tt we vs sd S Q := ⟨h⟩
instance st_xLcN {lw : Lv} : Step lw (wLc wi nt tt we vs sd S Q) (wi sd S fun J S1 => LcJ nt tt we vs (fun p S' => Q (.obj p) S') sd J S1) := ⟨fun h => xLcN h⟩
end
/-- a value of any kind, each part of at most m items -/
inductive Any (m : Nat) : D → Prop
  | non : Any m .non
  | bl (b : Bool) : Any m (.bl b)
  | int (i : Int) : Any m (.int i)
  | str (x : Str) (h : PyData.canLay0 (.str x) = true ∧ x.length ≤ m) : Any m (.str x)
  | tup (xs : List D) (hl : xs.length ≤ m) (h : ∀ x ∈ xs, Any m x) : Any m (.tup xs)
  | tf (xs : List D) (hl : xs.length ≤ m) (h : ∀ x ∈ xs, Any m x) : Any m (.tf xs)
  | lst (xs : List D) (hl : xs.length ≤ m) (h : ∀ x ∈ xs, Any m x) : Any m (.lst xs)
  | dic (t : Bool) : Any m (.dic t [])
end L2.DL

/-! DL25: sorted(..) of lists and tuples of texts, of ints -/
namespace L2.DL
open PySem PySem.Spec PyProof.Rows
section
variable {prog : Program} {w : World} {A : Around} {E : Value → Shared → Prop} {s : Shared}
end
section
variable {X : Cx}
end
end L2.DL

/-! DL26: zip(t, u) of tuples -/
namespace L2.DL
open PySem PySem.Spec PyProof.Rows
def zipD (xs ys : List D) : List D := List.zipWith (fun x y => .tup [x, y]) xs ys
def wZip (t : WA) : WI := fun sd S R => t sd S fun xs S1 => two2 xs fun d1 d2 => ∃ ys zs, asTup d1 = some ys ∧ asTup d2 = some zs ∧ R ⟨zipD ys zs, fun _ => True⟩ S1
/-! steps -/
section
variable {sd : SD} {S : SO} {R : ItD → SO → Prop} {t : WA} {xs ys : List D} {d e : D}
def ZipK (d1 d2 : D) (R : List D → Prop) : Prop := ∃ ys zs, asTup d1 = some ys ∧ asTup d2 = some zs ∧ R (zipD ys zs)
theorem xZip (h : t sd S fun xs S1 => two2 xs fun d1 d2 => ZipK d1 d2 fun l => R ⟨l, fun _ => True⟩ S1) : wZip t sd S R := h
instance st_xZip {lw : Lv} : Step lw (wZip t sd S R) (t sd S fun xs S1 => two2 xs fun d1 d2 => ZipK d1 d2 fun l => R ⟨l, fun _ => True⟩ S1) := ⟨fun h => xZip h⟩
end
end L2.DL

/-! DL27: f-strings, the truth of own instances, makings by keyword and with a default of the top, own == with values of any kind -/
namespace L2.DL
open PySem PySem.Spec PyProof.Rows
section
variable {X : Cx}
/-! ### f-strings -/
/-! ### the truth of an own instance that has __len__ -/
variable {CX : CXT} {k : Nat} {g f C : Addr} {fd : FuncData} {ps ks : List Str} {dsp : DSp}
/-! ### C(k = v, ..), all parameters by keyword -/
/-! ### C(..) with a default that the top has written -/
/-! ### own == with a value of any kind -/
end
end L2.DL

/-! DL28: list.pop(i), tuple.count(x) of texts -/
namespace L2.DL
open PySem PySem.Spec PyProof.Rows
section
variable {X : Cx}
end
end L2.DL

/-! DL29: xs[::-1] of lists, list(range(n)) -/
namespace L2.DL
open PySem PySem.Spec PyProof.Rows
section
variable {X : Cx}
end
end L2.DL

/-! DL30: a, b = a list -/
namespace L2.DL
open PySem PySem.Spec PyProof.Rows
section
variable {X : Cx} {pos : Pos}
def gTl (n : Nat) (r : WGs) : WG := fun d sd S Q => ∃ xs, lstX S d = some xs ∧ xs.length = n ∧ r xs sd S Q
theorem xGTl {n : Nat} {r : WGs} {xs : List D} {sd : SD} {S : SO} {Q : SD → SO → Prop} (h : r xs sd S Q) (hl : xs.length = n := by with_unfolding_all rfl) : gTl n r (.lst xs) sd S Q := ⟨xs, rfl, hl, h⟩
end
end L2.DL

/-! DL31: name = {k: v for ..}, stored within the comprehension -/
namespace L2.DL
open PySem PySem.Spec PyProof.Rows
section
variable {X : Cx}
end
end L2.DL

/-! DL32: str(int); what a class's == must know of other kinds -/
namespace L2.DL
open PySem PySem.Spec PyProof.Rows
section
variable {X : Cx}
end
end L2.DL

/-! DL33: + of tuples made here or there, neither empty -/
namespace L2.DL
open PySem PySem.Spec PyProof.Rows
section
variable {X : Cx}
end
end L2.DL

/-! DL34: a list of anything != [] -/
namespace L2.DL
open PySem PySem.Spec PyProof.Rows
section
variable {X : Cx}
end
end L2.DL

/-! DL35: list.remove(number); a statement behind which an object is frozen or forgotten -/
namespace L2.DL
open PySem PySem.Spec PyProof.Rows
section
variable {X : Cx}
/-! ### frozen, forgotten behind a statement -/
structure Wk (sd : SD) (S : SO) (sd0 : SD) (S0 : SO) : Prop where
  sub : ∀ a, S a = none → S0 a = none
  sta : ∀ K σ H, Sta K sd S σ H → Sta K sd0 S0 σ H
theorem Wk.refl (sd : SD) (S : SO) : Wk sd S sd S := ⟨fun _ h => h, fun _ _ _ h => h⟩
theorem Wk.trans {sd sd1 sd2 : SD} {S S1 S2 : SO} (a : Wk sd S sd1 S1) (b : Wk sd1 S1 sd2 S2) : Wk sd S sd2 S2 := ⟨fun x h => b.sub x (a.sub x h), fun K σ H h => b.sta K σ H (a.sta K σ H h)⟩
def SlF (p : Addr) (ds : List D) : SD → SD → Prop
  | [], [] => True
  | a :: as, b :: bs => (b = a ∨ b = none ∨ (a = some (.obj p) ∧ b = some (.lst ds))) ∧ SlF p ds as bs
  | _, _ => False
theorem SlF.len {p : Addr} {ds : List D} : ∀ {a b : SD}, SlF p ds a b → b.length = a.length
  | [], [], _ => rfl
  | _ :: as, _ :: bs, h => by rw [List.length_cons, List.length_cons, SlF.len h.2]
  | [], _ :: _, h => h.elim
  | _ :: _, [], h => h.elim
theorem SlF.get {p : Addr} {ds : List D} : ∀ {a b : SD} {i : Nat} {d : D}, SlF p ds a b → b[i]? = some (some d) → a[i]? = some (some d) ∨ (a[i]? = some (some (.obj p)) ∧ d = .lst ds)
  | [], [], i, d, _, e => by simp at e
  | x :: as, y :: bs, 0, d, h, e => by
    have e : y = some d := Option.some.inj e
    rcases h.1 with h1 | h1 | ⟨h1, h2⟩
    · exact .inl (by rw [← h1, e]; rfl)
    · rw [h1] at e
      cases e
    · rw [h2] at e
      cases e
      exact .inr ⟨by rw [h1]; rfl, rfl⟩
  | x :: as, y :: bs, i + 1, d, h, e => SlF.get (i := i) h.2 e
  | [], _ :: _, _, _, h, _ => h.elim
  | _ :: _, [], _, _, h, _ => h.elim
theorem Wk.lst {sd sd0 : SD} {S : SO} {p : Addr} {ds : List D} (h : S p = some (.lst ds)) (hs : SlF p ds sd sd0) : Wk sd S sd0 (S.del p) := by
  refine ⟨fun a e => by unfold SO.del; split; rfl; exact e, fun K σ H st => ?_⟩
  obtain ⟨n, s2, r2⟩ := frz_lst st.s h
  refine ⟨s2, hs.len.trans st.r.1, fun i d e => ?_⟩
  rcases hs.get e with e1 | ⟨e1, rfl⟩
  · obtain ⟨v, e', r⟩ := st.r.2 i d e1
    exact ⟨v, e', Rel.nx n _ _ r⟩
  · obtain ⟨v, e', r⟩ := st.r.2 i _ e1
    have er : v = .ref p := r
    subst er
    exact ⟨_, e', r2⟩
/-- objects are forgotten -/
theorem Wk.to {sd : SD} {S S0 : SO} (h : ∀ a o, S0 a = some o → S a = some o) : Wk sd S sd S0 := by
  have sub : ∀ a, S a = none → S0 a = none := fun a e => by
    cases q : S0 a with
    | none => rfl
    | some o =>
      rw [h a o q] at e
      cases e
  refine ⟨sub, fun K σ H st => ?_⟩
  have n : Nx S H S0 H := fun a u h1 h2 => ⟨sub a h1, h2⟩
  exact st.nx n fun a o q => (st.s a o (h a o q)).nx n rfl
def ClS (n : SD → SO → Prop) : SD → SO → Prop := fun sd' S' => ∃ sd0 S0, Wk sd' S' sd0 S0 ∧ n sd0 S0
def wCl (w : WS) : WS := fun E sd S => w { E with nx := ClS E.nx } sd S
theorem xCl {a : WS} {n bk ct : SD → SO → Prop} {r : KD} {sd : SD} {S : SO} (h : a ⟨ClS n, r, bk, ct⟩ sd S) : wCl a ⟨n, r, bk, ct⟩ sd S := h
instance st_xCl {lw : Lv} {a : WS} {n bk ct : SD → SO → Prop} {r : KD} {sd : SD} {S : SO} : Step lw (wCl a ⟨n, r, bk, ct⟩ sd S) (a ⟨ClS n, r, bk, ct⟩ sd S) := ⟨fun h => xCl h⟩
/-! a typed while -/
section
variable {σ : Type} {c : WT} {b : WS} {n bk ct : SD → SO → Prop} {r : KD} {sd : SD} {S : SO}
end
end
end L2.DL

/-! DL37: + of tuples, neither empty, the sum laid as .tf -/
namespace L2.DL
open PySem PySem.Spec PyProof.Rows
section
variable {X : Cx}
end
end L2.DL

/-! DL38: list.extend -/
namespace L2.DL
open PySem PySem.Spec PyProof.Rows
section
variable {X : Cx}
end
end L2.DL

/-! DL39: dict.update(dict) -/
namespace L2.DL
open PySem PySem.Spec PyProof.Rows
section
variable {X : Cx}
theorem RelK.len {K : PySem.W.Frag} {S : SO} {H : Hp} : ∀ {ys : List (D × D)} {l : List (Key × V)}, RelK K S H ys l → ys.length = l.length
  | [], l, h => by
    have e : l = [] := h
    subst e
    rfl
  | (k, d) :: ys, l, h => by
    obtain ⟨q, v, r, rfl, _, _, h2⟩ := h
    rw [List.length_cons, List.length_cons, RelK.len h2]
end
end L2.DL

/-! DL40: tuple * int -/
namespace L2.DL
open PySem PySem.Spec PyProof.Rows
section
variable {X : Cx}
end
end L2.DL

/-! DL41: sorted(set(xs)) of texts, of ints -/
namespace L2.DL
open PySem PySem.Spec PyProof.Rows
/-- the elements of a set, by keys of one kind -/
structure SK (P : Program) (w : World) (K : Type) [DecidableEq K] where
  κ : PySem.KeyKind P w K
  val : K → Tok → Value
  key : Value → K
  keyV : ∀ k t, key (val k t) = k
  isV : ∀ k t, κ.is k (val k t) = true
  scn : ∀ k t, (val k t).scannable = true
section
variable {P : Program} {w : World} {K : Type} [DecidableEq K] {Z : SK P w K}
theorem SK.is_iff (Z : SK P w K) {k j : K} {u : Tok} : Z.κ.is j (Z.val k u) = true ↔ k = j := by
  rw [PySem.KeyKind.is_eq_decide (Z.isV k u) j, decide_eq_true_iff]
  exact eq_comm
abbrev SEs := Array (Int × Value)
def SK.keys (Z : SK P w K) (l : SEs) : List K := l.toList.map fun e => Z.key e.2
/-- the payload holds the keys of M, n of them, and can be walked -/
structure SK.Tb (Z : SK P w K) (l : SEs) (t : SetTable) (M : K → Bool) (n : Nat) : Prop where
  el : ∀ e ∈ l.toList, ∃ k u, e = (Z.κ.hash k, Z.val k u)
  nd : (Z.keys l).Nodup
  mem : ∀ k, M k = true ↔ k ∈ Z.keys l
  fit : t.fits l.size = true
  sz : l.size = n
  ris : Ris t.place.toList
  led : w.params.followText "set-order" = true ∨ t.led = true
theorem SK.Tb.has {l : SEs} {t : SetTable} {M : K → Bool} {n : Nat} (T : Z.Tb l t M n) (k : K) : M k = true ↔ ∃ e ∈ l.toList, Z.κ.is k e.2 = true := by
  rw [T.mem k]
  unfold SK.keys
  rw [List.mem_map]
  constructor
  · rintro ⟨e, he, h⟩
    obtain ⟨j, u, rfl⟩ := T.el e he
    have h : Z.key (Z.val j u) = k := h
    rw [Z.keyV] at h
    exact ⟨_, he, Z.is_iff.mpr h⟩
  · rintro ⟨e, he, h⟩
    obtain ⟨j, u, rfl⟩ := T.el e he
    exact ⟨_, he, (Z.keyV j u).trans (Z.is_iff.mp h)⟩
/-- the set at a -/
def SK.Is (Z : SK P w K) (h : Heap) (a : Addr) (M : K → Bool) (n : Nat) : Prop := ∃ o l ep t, h.get? a = some o ∧ o.ExactSet ∧ o.data = .set l ep t ∧ Z.Tb l t M n
theorem SK.Is.at {h h' : Heap} {a : Addr} {M : K → Bool} {n : Nat} (R : Z.Is h a M n) (k : ∀ o, h.get? a = some o → h'.get? a = some o) : Z.Is h' a M n := by
  obtain ⟨o, l, ep, t, g, r⟩ := R
  exact ⟨o, l, ep, t, k o g, r⟩
theorem SK.Is.eqv {h : Heap} {a : Addr} {M M' : K → Bool} {n : Nat} (R : Z.Is h a M n) (e : ∀ k, M' k = M k) : Z.Is h a M' n := (funext e : M' = M) ▸ R
variable {A : Around} {E : Value → Shared → Prop} {s : Shared} {a : Addr} {M : K → Bool} {n : Nat}
abbrev obS (w : World) : Obj := { cls := .type "set", dict := none, data := .set #[] 0 (.fresh 0 0 (!w.params.followText "set-order")) }
theorem SK.fresh {h : Heap} {ks : List K} (g : h.get? a = some (obS w)) : Z.Is h a (fun j => decide (j ∈ ks.take 0)) 0 :=
  ⟨_, #[], 0, _, g, ⟨rfl, rfl, rfl⟩, rfl, ⟨fun e he => by simp at he, List.nodup_nil, fun k => by simp [SK.keys], rfl, rfl, .nil, by
    cases c : w.params.followText "set-order"
    · exact .inr rfl
    · exact .inl rfl⟩⟩
end
end L2.DL

/-! DL42: sorted(set(xs)) as a rule -/
namespace L2.DL
open PySem PySem.Spec PyProof.Rows
section
variable {X : Cx} {K : Type} [DecidableEq K]
end
end L2.DL

/-! DL43: len(set(t)), t a tuple of texts -/
namespace L2.DL
open PySem PySem.Spec PyProof.Rows
section
variable {P : Program} {w : World} {K : Type} [DecidableEq K] {Z : SK P w K} {A : Around} {E : Value → Shared → Prop} {s : Shared} {a : Addr} {M : K → Bool} {n : Nat}
theorem SK.Is.count {h : Heap} {ks : List K} (R : Z.Is h a (fun j => decide (j ∈ ks)) n) (nd : ks.Nodup) : n = ks.length := by
  obtain ⟨o, l, ep, t, _, _, _, T⟩ := R
  have pm : (Z.keys l).Perm ks := (List.perm_ext_iff_of_nodup T.nd nd).mpr fun k => (T.mem k).symm.trans decide_eq_true_iff
  have := pm.length_eq
  unfold SK.keys at this
  rw [List.length_map, Array.length_toList, T.sz] at this
  exact this
end
section
variable {X : Cx} {K : Type} [DecidableEq K]
end
end L2.DL

/-! DL44: dict(zip(ks, xs)) of two lists, the keys texts -/
namespace L2.DL
open PySem PySem.Spec PyProof.Rows
section
variable {K : PySem.W.Frag} {S : SO} {H : Hp}
end
section
variable {X : Cx}
end
end L2.DL

/-! DL45: xs[k::m] of lists; list + list as a list that changes -/
namespace L2.DL
open PySem PySem.Spec PyProof.Rows
section
variable {X : Cx}
/-! ### + as a new object -/
/-! ### xs[k::m] -/
end
end L2.DL

/-! DL46: dicts locked behind a statement (.fd), d.items() of these, d != {}, d.setdefault -/
namespace L2.DL
open PySem PySem.Spec PyProof.Rows
/-! ### locked behind a statement -/
section
variable {X : Cx}
end
section
variable {X : Cx}
end
/-! ### items -/
section
variable {X : Cx} {pins : List (Addr × Obj)} {σ : St} {H : Hp} {s : Shared} {d : Addr} {o : Obj}
end
section
variable {P : Program} {w : World} {K : PySem.W.Frag} {d : Addr} {o : Obj} {es : Array DictEntry} {ep : Nat}
end
section
variable {X : Cx} {e : Expr} {td : TE} {apos cpos : Pos}
end
end L2.DL

/-! DL47: over data: d.items() of a locked dict, d != {}, d.setdefault(k, x) -/
namespace L2.DL
open PySem PySem.Spec PyProof.Rows
section
variable {K : PySem.W.Frag} {S : SO} {H : Hp}
theorem RelK.at : ∀ {kvs : List (D × D)} {l : List (Key × V)} {i : Nat} {q : Key} {v : V}, RelK K S H kvs l → l[i]? = some (q, v) → ∃ d, kvs[i]? = some (keyD q, d) ∧ Rel K S H d v
  | [], l, i, q, v, h, e => by
    have el : l = [] := h
    subst el
    simp at e
  | (k, d) :: kvs, l, 0, q, v, h, e => by
    obtain ⟨q', v', r, rfl, rfl, h1, h2⟩ := h
    cases e
    exact ⟨d, rfl, h1⟩
  | (k, d) :: kvs, l, i + 1, q, v, h, e => by
    obtain ⟨q', v', r, rfl, rfl, h1, h2⟩ := h
    exact RelK.at (i := i) h2 e
theorem RelT.at : ∀ {kvs : List (D × D)} {l : List (List Key × V)} {i : Nat} {q : List Key} {v : V}, RelT K S H kvs l → l[i]? = some (q, v) → ∃ d, kvs[i]? = some (.tup (q.map keyD), d) ∧ Rel K S H d v
  | [], l, i, q, v, h, e => by
    have el : l = [] := h
    subst el
    simp at e
  | (k, d) :: kvs, l, 0, q, v, h, e => by
    obtain ⟨q', v', r, rfl, rfl, h1, h2⟩ := h
    cases e
    exact ⟨d, rfl, h1⟩
  | (k, d) :: kvs, l, i + 1, q, v, h, e => by
    obtain ⟨q', v', r, rfl, rfl, h1, h2⟩ := h
    exact RelT.at (i := i) h2 e
theorem key_rel (q : Key) : Rel K S H (keyD q) (kV q) := by
  cases q <;> exact rfl
end
section
variable {X : Cx} {e : Expr} {we : WE} {apos cpos : Pos}
/-! ### d != {} -/
/-! ### d.setdefault(k, x) -/
/-! ### d.get(k, x) -/
/-! ### name = {k: v for ..}, the dict an object -/
end
end L2.DL

/-! DL48: dict comprehensions with two for -/
namespace L2.DL
open PySem PySem.Spec PyProof.Rows
section
variable {prog : Program} {w : World} {A : Around} {R : Result → Shared → Prop} {s : Shared} {kx vx t0 i0 t1 i1 : Expr} {ifs0 ifs1 : List Expr} {scope : Scope} {pos : Pos} {it : Value} {D : Addr} {env : Env}
end

section
variable {X : Cx}
/-! ### .. over data -/
end
end L2.DL

/-! DL49: {**a, **b} of locked dicts with keys ints and texts, list(dict), for key in dict -/
namespace L2.DL
open PySem PySem.Spec PyProof.Rows
/-! ### a dict merged into another one by a display -/
section
variable {prog : Program} {w : World} {A : Around} {E : Value → Shared → Prop} {s : Shared}
end
section
variable {X : Cx}
/-! ### .. over data -/
/-! ### for key in a locked dict -/
def kysD (kvs : List (D × D)) : List D := kvs.map (·.1)
/-! ### list(dict) -/
theorem RelK.keys {K : PySem.W.Frag} {S : SO} {H : Hp} : ∀ {ys : List (D × D)} {l : List (Key × V)}, RelK K S H ys l → Rels K S H (kysD ys) (l.map fun p => kV p.1)
  | [], l, h => by
    have e : l = [] := h
    subst e
    rfl
  | (k, d) :: ys, l, h => by
    obtain ⟨q, v, r, rfl, rfl, _, h2⟩ := h
    exact ⟨_, _, rfl, key_rel q, RelK.keys (ys := ys) h2⟩
end
end L2.DL

/-! DL50: list(d.values()) of a locked dict, range(a, b, -1), dict(pairs) as an object -/
namespace L2.DL
open PySem PySem.Spec PyProof.Rows
def vlsD (kvs : List (D × D)) : List D := kvs.map (·.2)
theorem RelK.vals {K : PySem.W.Frag} {S : SO} {H : Hp} : ∀ {ys : List (D × D)} {l : List (Key × V)}, RelK K S H ys l → Rels K S H (vlsD ys) (l.map fun p => p.2)
  | [], l, h => by
    have e : l = [] := h
    subst e
    rfl
  | (k, d) :: ys, l, h => by
    obtain ⟨q, v, r, rfl, rfl, h1, h2⟩ := h
    exact ⟨_, _, rfl, h1, RelK.vals (ys := ys) h2⟩
section
variable {X : Cx}
/-! ### range(a, b, -1) -/
/-! ### dict(pairs), an object -/
end
/-! ### max, min of a tuple of ints -/
section
variable {prog : Program} {w : World} {A : Around} {E : Value → Shared → Prop} {s : Shared}
end
section
variable {X : Cx}
end
end L2.DL

/-! DL51: dict(zip(tuple of texts, tuple)) -/
namespace PySem
open PySem PySem.Calls PyProof.Rows PyProof.V PySem.Spec
section
variable {prog : Program} {w : World} {A : Around} {E : Value → Shared → Prop} {s : Shared}
end
section
variable {prog : Program} {w : World}
end
end PySem
namespace L2.DL
open PySem PySem.Spec PyProof.Rows
section
variable {X : Cx}
end
end L2.DL

/-! DL52: slices of a tuple of any kind, the whole one told too; + of tuples, one of them empty too -/
namespace L2.DL
open PySem PySem.Spec PyProof.Rows
section
variable {X : Cx}
end
end L2.DL

/-! DL53: t[i:j] as a tuple known to have no dict; text.split(sep); C(..) through a parameter; C.m(..), m a classmethod -/
namespace L2.DL
open PySem PySem.Spec PyProof.Rows
section
variable {X : Cx}
/-! ### slices as .tf -/
/-! ### text.split(sep) -/
end
/-! ### C(..), C told by a parameter -/
section
variable {X : Cx} {CX : CXT} {k : Nat} {f C : Addr} {fd : FuncData} {ps : List Str} {sp : Sp} {dvs : List V} {ds : List Value} {E : XK} {x m : Str} {p pos apos : Pos} {e o : Expr} {es : List Expr} {ta : TE} {t : TA}
/-! ### C.m(..), m a classmethod -/
variable {dsp : DSp} {dds : List D} {wt : WA} {wo wc : WE}
end
end L2.DL

/-! DL54: + of tuples, the sum known to have no dict, one of them empty too -/
namespace L2.DL
open PySem PySem.Spec PyProof.Rows
section
variable {X : Cx}
end
end L2.DL

/-! DL55: C.m(k = v), m a classmethod; != of two lists whose items are equal by an own == -/
namespace L2.DL
open PySem PySem.Spec PyProof.Rows
section
variable {X : Cx} {CX : CXT} {k : Nat} {f C : Addr} {fd : FuncData} {ps ks : List Str} {sp : Sp} {dvs : List V} {ds : List Value} {E : XK} {x m : Str} {p pos apos : Pos} {e o : Expr} {es : List Expr} {kws : List Keyword} {ta : TE} {t tk : TA} {g : List Value → List Value → List Value} {gV : List V → List V → List V}
variable {dsp : DSp} {wk : WA} {wo : WE} {gD : List D → List D → List D}
end
end L2.DL

/-! DL56: != of two lists whose items are equal by an own == -/
namespace GQN
open PySem PySem.SeqAt GQ
open AutoSeq1 (wpAny_loadPart')
open MeetsSeq MeetsSeq2 MeetsSeq3 SeqRoads2
section
variable {prog : Program} {w : World} {A : Around} {R : Result → Shared → Prop}
end
section
variable {prog : Program} {w : World} {A : Around} {E : Value → Shared → Prop} {s : Shared}
end
end GQN
namespace L2.DL
open PySem PySem.Spec PyProof.Rows
section
variable {X : Cx} {k : Nat} {g C : Addr} {fd : FuncData} {ps : List Str} {dsp : DSp}
end
end L2.DL

namespace L2.DL
open PySem PySem.Spec PyProof.Rows
end L2.DL
/-! X0: own exceptions two levels below a built-in one, with super().__init__() and one or two fields: made, as a heap -/
namespace PySem
namespace ErrX
open PySem.W PySem.Calls PyProof.Rows PySem.HandSPX Builtin Builtin.ObjectAttr PySem.Spec
section
variable {prog : Program} {w : World} {A : Around} {E : Value → Shared → Prop} {h : Heap} {g : Array GenState} {d : Drawn} {t : Nat} {os : OsState}
variable {nm q : Str} {C N : Addr} {bs bm bmB : List Value} {hdct : Bool} {sn : List Str} {sub : List Value} {ab : Bool} {col : Option Bool} {dd : Option Addr} {k0 k1 k2 k3 k5 : Option Value} {B newId initId : String}
/-- the bound __init__ of the built-in base, called without arguments -/
theorem call_mw (FB : ExcBaseFacts B newId initId bmB) {u e t0 : Addr} {Q : Value → Shared → Prop}
    (hC : h.get? C = some (excClassObj nm q C N bs bm hdct sn sub ab col dd k0 k1 k2 k3 k5 newId)) (he : h.get? e = some (excO C t0)) (hu : h.get? u = some (kxs_mw initId e))
    (hq : ∀ h' t1, (∀ b o, b ≠ e → h.get? b = some o → h'.get? b = some o) → h'.get? e = some (excO C t1) → Q .none ⟨h', g, d, t, os⟩) :
    wpAny (model prog w) A (call (.ref u) []) Q E ⟨h, g, d, t, os⟩ := by
  refine wpAny_call (codeAny_of_tree ?_)
  show wpAny _ A.in1 (callAny (.ref u) ⟨[], []⟩) _ _ _
  simp only [callAny]
  refine wpAny_bind (wpAny_load hu ?_)
  simp only [kxs_mw, show (Value.type "method-wrapper" == Value.type "method" || Value.type "method-wrapper" == Value.type "builtin_function_or_method" || Value.type "method-wrapper" == Value.type "method-wrapper") = true by decide, if_true]
  refine KFB.if_so (by decide) ?_
  refine wpAny_bind (check_bound_init FB.toExcCallFacts hC he rfl ?_)
  refine wpAny_bind (wpAny_pure (wpAny_pure ?_))
  refine ⟨plainId_quiet FB.init.plain _, codeAny_builtin FB.initEntry ?_⟩
  rw [Around.under_plainId FB.init.plain _]
  refine exc_init_tree (cls := .ref C) (t0 := t0) (dv := none) (c2 := .none) (c3 := .none) (b4 := .bool false) he (by rw [sizeLine_eq]; exact Nat.zero_le _) fun h' k1 k2 _ => ?_
  exact hq h' _ k1 k2
end
/-! ### the text of __init__ -/
def iA (g : Str) (p1 p2 : Pos) : Arguments := { posonlyargs := [], args := [{ arg := "self", annotation := none, pos := p1 }, { arg := g, annotation := none, pos := p2 }], vararg := none, kwonlyargs := [], kw_defaults := [], kwarg := none, defaults := [] }
def iB (g : Str) (p0 p1 p2 p3 p4 q1 q2 q3 q4 : Pos) : List Stmt := [.Expr (.Call (.Attribute (.Call (.Name "super" p0) [] [] p1) "__init__" p2) [] [] p3) p4, .Assign [.Attribute (.Name "self" q1) g q2] (.Name g q3) q4]
def iS (g : Str) : Scope := { kind := .function, names := [(PySem.Str.ofString "self", .local), (g, .local), (PySem.Str.ofString "__class__", .free), (PySem.Str.ofString "super", .globalImplicit)], isGenerator := false, isCoroutine := false, more := [] }
/-- a field's name: not one of those that the text of __init__ uses else -/
structure FieldOk (g : Str) : Prop where
  ne : g ≠ "self" ∧ g ≠ "__class__" ∧ g ≠ "super" ∧ (g == ("__debug__" : Str)) = false
  bnd : ∀ (qual : Str) (p1 p2 r0 r1 r2 r3 r4 q1 q2 q3 q4 : Pos) (kV doc pm : Value) (an : Option Addr) (cda ct : Value) (cc : Addr) (u v : Value), bindArgs (ksFn "__init__" qual (iA g p1 p2) (iB g r0 r1 r2 r3 r4 q1 q2 q3 q4) (iS g) .none kV doc pm an cda ct cc) ⟨[u, v], []⟩ = pure [(("self" : Str), u), (g, v)]
theorem field_given : FieldOk "given" := ⟨by decide, fun _ _ _ _ _ _ _ _ _ _ _ _ _ _ _ _ _ _ _ _ _ => rfl⟩
theorem field_index : FieldOk "index" := ⟨by decide, fun _ _ _ _ _ _ _ _ _ _ _ _ _ _ _ _ _ _ _ _ _ => rfl⟩
theorem field_ring : FieldOk "ring" := ⟨by decide, fun _ _ _ _ _ _ _ _ _ _ _ _ _ _ _ _ _ _ _ _ _ => rfl⟩
theorem field_pair : FieldOk "pair" := ⟨by decide, fun _ _ _ _ _ _ _ _ _ _ _ _ _ _ _ _ _ _ _ _ _ => rfl⟩
theorem field_most : FieldOk "most" := ⟨by decide, fun _ _ _ _ _ _ _ _ _ _ _ _ _ _ _ _ _ _ _ _ _ => rfl⟩
/-- a built-in base -/
structure BaseF (B newId initId : String) (bmB : List Value) : Prop where
  base : ExcBaseFacts B newId initId bmB
  kxs : KxsFacts B initId
  store : StoreFacts B bmB "object.__setattr__" "object"
theorem base_ValueError : BaseF "ValueError" "ValueError.__new__" "ValueError.__init__" [.type "ValueError", .type "Exception", .type "BaseException", .type "object"] := ⟨F.excBase_ValueError, kxs_ValueError, F.store_ValueError⟩
theorem base_LookupError : BaseF "LookupError" "LookupError.__new__" "LookupError.__init__" [.type "LookupError", .type "Exception", .type "BaseException", .type "object"] := ⟨F.excBase_LookupError, kxs_LookupError, F.store_LookupError⟩
theorem base_ArithmeticError : BaseF "ArithmeticError" "ArithmeticError.__new__" "ArithmeticError.__init__" [.type "ArithmeticError", .type "Exception", .type "BaseException", .type "object"] := ⟨F.excBase_ArithmeticError, kxs_ArithmeticError, F.store_ArithmeticError⟩
/-- what the written part says of an own exception class at C -/
structure ClsE (K : Frag) (C : Addr) (B newId : String) (bmB : List Value) : Prop where
  exi : excInitIn K C bmB newId = true
  exo : excOver K C bmB = true
  sa : findIn K (.ref C) "__setattr__" = some (some (.builtin "object.__setattr__"))
  hd : hasDictIn K C = true
  sB : subIn K (.ref C) (.type B) = some true
  sE : subIn K (.ref C) (.type "BaseException") = some true
  sC : mroIn K C (.ref C) = some true
  tC : typeIn K (.ref C) = some (.type "type")
  kC : keepIn K (.ref C) = true
/-- .. and of its __init__ of one field g -/
structure InitE (P : Program) (K : Frag) (C fI : Addr) (initId : String) (g : Str) : Prop where
  ii : findIn K (.ref C) "__init__" = some (some (.ref fI))
  tI : typeIn K (.ref fI) = some (.type "function")
  tk : takerIn K C g = some none
  opq : nsIn K cStatics "thirdparty.any" = some none
  sup : ks_superIn K C C "__init__" = some (some (.builtin initId))
  nsu : nsIn K mainGlobals "super" = some none
  fn : ∃ (oc : Value) (od : Option Addr) (qual : Str) (kV doc pm : Value) (an : Option Addr) (cda cc : Addr) (ct : Value) (osl : Array (Option Value)) (p1 p2 r0 r1 r2 r3 r4 q1 q2 q3 q4 : Pos) (cl : Value) (cld : Option Addr) (csl : Array (Option Value)) (ccl : Value) (cdd : Option Addr) (vs : Array Value) (ccs : Array (Option Value)) (file : Str) (tf : Tok),
    K.lookup fI = some ⟨oc, od, .func (ksFn "__init__" qual (iA g p1 p2) (iB g r0 r1 r2 r3 r4 q1 q2 q3 q4) (iS g) .none kV doc pm an (.ref cda) ct cc), osl⟩ ∧ codeIn K (.ref cda) qual = true ∧
    K.lookup cc = some ⟨cl, cld, .cell (some (.ref C)), csl⟩ ∧ K.lookup cda = some ⟨ccl, cdd, .fields vs, ccs⟩ ∧ vs[2]? = some (.str file tf) ∧ ((P.main.file : Str) == file) = true ∧ (r2.endLine == r3.line) = true
  top : (P.main.scope.names.lookup ("super" : Str)).isSome = false
  fld : FieldOk g
/-- what __init__ leaves of a fresh exception at x -/
structure InitEnd (h h' : Heap) (x C dx t1 : Addr) (g : Str) (v : Value) : Prop where
  keep : ∀ b o, b ≠ x → h.get? b = some o → h'.get? b = some o
  obj : h'.get? x = some { cls := .ref C, dict := some dx, data := .fields #[.ref t1, .none, .none, .none, .bool false, .none] }
  dbig : h.objs.size ≤ dx
  dne : dx ≠ x
  ns : h'.Ns1 dx (fun y => if y = g then some v else none)
theorem iS_super {g : Str} (h : g ≠ "self" ∧ g ≠ "__class__" ∧ g ≠ "super" ∧ (g == ("__debug__" : Str)) = false) : (iS g).names.lookup ("super" : Str) = some .globalImplicit := by
  have e1 : (("super" : Str) == PySem.Str.ofString "self") = false := by decide
  have e2 : (("super" : Str) == g) = false := by simpa using Ne.symm h.2.2.1
  have e3 : (("super" : Str) == PySem.Str.ofString "__class__") = false := by decide
  have e4 : (("super" : Str) == PySem.Str.ofString "super") = true := by decide
  show List.lookup ("super" : Str) [(PySem.Str.ofString "self", NameKind.local), (g, .local), (PySem.Str.ofString "__class__", .free), (PySem.Str.ofString "super", .globalImplicit)] = _
  simp only [List.lookup, e1, e2, e3, e4]
theorem iS_class {g : Str} (h : g ≠ "self" ∧ g ≠ "__class__" ∧ g ≠ "super" ∧ (g == ("__debug__" : Str)) = false) : (iS g).names.lookup ("__class__" : Str) = some .free := by
  have e1 : (("__class__" : Str) == PySem.Str.ofString "self") = false := by decide
  have e2 : (("__class__" : Str) == g) = false := by simpa using Ne.symm h.2.1
  have e3 : (("__class__" : Str) == PySem.Str.ofString "__class__") = true := by decide
  show List.lookup ("__class__" : Str) [(PySem.Str.ofString "self", NameKind.local), (g, .local), (PySem.Str.ofString "__class__", .free), (PySem.Str.ofString "super", .globalImplicit)] = _
  simp only [List.lookup, e1, e2, e3]
theorem iS_self {g : Str} : (iS g).names.lookup ("self" : Str) = some .local := rfl
theorem iS_g {g : Str} (h : g ≠ "self" ∧ g ≠ "__class__" ∧ g ≠ "super" ∧ (g == ("__debug__" : Str)) = false) : (iS g).names.lookup g = some .local := by
  have e1 : (g == PySem.Str.ofString "self") = false := by simpa using h.1
  show List.lookup g [(PySem.Str.ofString "self", NameKind.local), (g, .local), (PySem.Str.ofString "__class__", .free), (PySem.Str.ofString "super", .globalImplicit)] = _
  simp only [List.lookup, e1, beq_self_eq_true]
section
variable {prog : Program} {w : World} {A : Around} {E : Value → Shared → Prop} {R : Result → Shared → Prop} {s : Shared} {K : Frag} {mg mb : Str → Option Value} {C fI : Addr} {B newId initId : String} {bmB : List Value} {g : Str}
theorem cls_at (T : ClsE K C B newId bmB) : ∃ cd, clsIn K C = some cd ∧ cd.hasDict = true := by
  obtain ⟨cd, hc, hh⟩ := any_some T.hd
  exact ⟨cd, hc, hh⟩
/-- self.g = v on an exception without a dict -/
theorem set_first (FB : BaseF B newId initId bmB) (T : ClsE K C B newId bmB) (tk : takerIn K C g = some none) {x t1 : Addr} {v : Value} {Q : Unit → Shared → Prop} (X : K.In s.heap) (hx : s.heap.get? x = some (excO C t1))
    (hq : ∀ h' tk' dx, (∀ b o, b ≠ x → s.heap.get? b = some o → h'.get? b = some o) → s.heap.objs.size ≤ dx → dx ≠ x → h'.get? x = some { cls := .ref C, dict := some dx, data := .fields #[.ref t1, .none, .none, .none, .bool false, .none] } →
      h'.Ns1 dx (fun y => if y = g then some v else none) → Q () { s with heap := h', toks := tk' }) : wpAny (model prog w) A (setAttr (.ref x) g v) Q E s := by
  refine set_plain X (ox := excO C t1) (od := none) ⟨hx, rfl, rfl, trivial⟩ T.sa ?_
  refine osa_openX (r := none) FB.store X (ox := excO C t1) (od := none) ⟨hx, rfl, rfl, trivial⟩ T.exo tk fun b => ?_
  obtain ⟨cd, hc, hh⟩ := cls_at T
  obtain ⟨hp, gs, d, t, os⟩ := s
  have hcls : W.Looks (model prog w) hp (classData C) cd := W.looks_clsIn X hc
  have hxs : x ≠ hp.objs.size := Nat.ne_of_lt (Heap.lt_size hx)
  obtain ⟨nm, bs, mro, ns, qn, hd, sn, sb, ab, col, del⟩ := cd
  dsimp only at hh
  subst hh
  show wpAny _ _ (storeInOwnDict (.ref x) (.ref C) (.str g _) g v b) _ _ _
  unfold storeInOwnDict ownDictForStores
  repeat (first | with_reducible refine store_in_new ?_ ?_ | with_reducible refine wpAny_loadPart_at hx ?_ | with_reducible refine hcls.at ?_ | wp_step)
  · exact ⟨_, #[], _, (Heap.get?_update_ne _ _ _ _ hxs.symm).trans (Heap.get?_push_at rfl rfl), rfl, fun e he => absurd he (by simp), fun _ => rfl⟩
  · intro h' tk' hn' hs
    have hx₁ : (hp.push { cls := .type "dict", data := .dict #[] }).get? x = some (excO C t1) := Heap.get?_push_of_some _ hx
    refine hq h' tk' hp.objs.size (fun b o hb ho => ?_) (Nat.le_refl _) hxs.symm ?_ hn'
    · exact (hs.2 b (Nat.ne_of_lt (Heap.lt_size ho))).trans ((Heap.get?_update_ne _ _ _ _ hb).trans (Heap.get?_push_of_some _ ho))
    · exact (hs.2 x hxs).trans (Heap.get?_update_self _ hx₁ rfl)
end
end ErrX
end PySem

/-! X1: the walk of __init__(self, g): super().__init__(); self.g = g -/
namespace PySem
namespace ErrX
open PySem.W PySem.Calls PyProof.Rows PySem.HandSPX Builtin Builtin.ObjectAttr PySem.Spec
theorem tree_super {qual : Str} {scope : Scope} {L f cc : Addr} {cda : Value} {r0 r1 r2 r3 : Pos} (hpos : (r2.endLine == r3.line) = true) : ∃ pl : Sem Bool, eval (.Call (.Attribute (.Call (.Name "super" r0) [] [] r1) "__init__" r2) [] [] r3) (ksEnv qual scope L f cda cc) = (do
      let ov ← attributeBase (.Call (.Name "super" r0) [] [] r1) "__init__" (ksEnv qual scope L f cda cc) (eval (.Call (.Name "super" r0) [] [] r1) (ksEnv qual scope L f cda cc))
      standAt r2.atName
      let (f', first) ← holding [ov] (getMethod ov "__init__" pl)
      callWith r3 f' first (backTo r3 (starEach [] (ksEnv qual scope L f cda cc))) []) := by
  refine ⟨(do return (← importBound (.Call (.Name "super" r0) [] [] r1) (ksEnv qual scope L f cda cc)).getD true), ?_⟩
  have e : (!(methodCallForm 0 (backTo r3 (starEach [] (ksEnv qual scope L f cda cc))) (backToKw r3 (keywordEach [] (ksEnv qual scope L f cda cc)))) || r2.endLine == r3.line) = true := by rw [hpos, Bool.or_true]
  show (do let ov ← attributeBase (.Call (.Name "super" r0) [] [] r1) "__init__" (ksEnv qual scope L f cda cc) (eval (.Call (.Name "super" r0) [] [] r1) (ksEnv qual scope L f cda cc)); standAt r2.atName; methodCall (.Call (.Name "super" r0) [] [] r1) "__init__" r2 r3 (ksEnv qual scope L f cda cc) ov 0 (backTo r3 (starEach [] (ksEnv qual scope L f cda cc))) (backToKw r3 (keywordEach [] (ksEnv qual scope L f cda cc)))) = _
  unfold methodCall methodCallPos
  simp only [e, if_true, pure_bind]
  rfl
section
variable {prog : Program} {w : World} {A : Around} {E : Value → Shared → Prop} {R : Result → Shared → Prop} {s : Shared} {K : Frag} {mg mb : Str → Option Value} {C fI : Addr} {B newId initId : String} {bmB : List Value} {g : Str}
theorem init_oneA (FB : BaseF B newId initId bmB) (T : ClsE K C B newId bmB) (I : InitE prog K C fI initId g) {x t0 : Addr} {v : Value} {args : Args} (hbd : (∀ (qual : Str) (p1 p2 r0 r1 r2 r3 r4 q1 q2 q3 q4 : Pos) (kV doc pm : Value) (an : Option Addr) (cda ct : Value) (cc : Addr), bindArgs (ksFn "__init__" qual (iA g p1 p2) (iB g r0 r1 r2 r3 r4 q1 q2 q3 q4) (iS g) .none kV doc pm an cda ct cc) args = pure [(("self" : Str), .ref x), (g, v)])) (X : K.In s.heap) (hG : s.heap.Ns mainGlobals mg) (hb : s.heap.Ns builtinsNs mb) (hbb : ∀ x : Str, x ≠ "__name__" → mb x = bootBuiltins x) (hlim : s.heap.NoLimit)
    (hx : s.heap.get? x = some (excO C t0)) (hnx : K.lookup x = none) (hroom : A.depth < recursionLimit)
    (hq : ∀ h' tk dx t1, InitEnd s.heap h' x C dx t1 g v → R (.ok (.ret .none)) { s with heap := h', toks := tk }) :
    codeAny (model prog w) A (.call (.ref fI) args) R s := by
  obtain ⟨oc, od, qual, kV, doc, pm, an, cda, cc, ct, osl, p1, p2, r0, r1, r2, r3, r4, q1, q2, q3, q4, cl, cld, csl, ccl, cdd, vs, ccs, file, tf, lk, hcd, hcell, hcode, hvs, hfile, hpos⟩ := I.fn
  obtain ⟨nm, N', qn, bs, bm, hdct, sn, sub, ab, col, dd, k0, k1, k2, k3, k5, hC, hT⟩ := excInit_of X T.exi
  obtain ⟨cdC, hcC, hhC⟩ := cls_at T
  have gn := I.fld.ne
  have hbind : BindsTo s (ksFn "__init__" qual (iA g p1 p2) (iB g r0 r1 r2 r3 r4 q1 q2 q3 q4) (iS g) .none kV doc pm an (.ref cda) ct cc) args [(("self" : Str), .ref x), (g, v)] := BindsTo.of_eq (hbd _ _ _ _ _ _ _ _ _ _ _ _ _ _ _ _ _ _ _)
  refine ks_codeAny_call_defAt (fd := ksFn "__init__" qual (iA g p1 p2) (iB g r0 r1 r2 r3 r4 q1 q2 q3 q4) (iS g) .none kV doc pm an (.ref cda) ct cc) (body := iB g r0 r1 r2 r3 r4 q1 q2 q3 q4) hroom (X _ _ lk) rfl hlim (codeRec_of X hcd) rfl hbind (by
      intro y hy
      have hy : y ∈ [(PySem.Str.ofString "self", NameKind.local), (g, NameKind.local), (PySem.Str.ofString "__class__", NameKind.free), (PySem.Str.ofString "super", NameKind.globalImplicit)] := hy
      simp only [List.mem_cons, List.not_mem_nil, or_false] at hy
      rcases hy with rfl | rfl | rfl | rfl <;> simp) (by
      intro y hy
      simp only [List.mem_cons, List.not_mem_nil, or_false] at hy
      rcases hy with rfl | rfl
      · exact iS_self
      · exact iS_g gn) (fun h₀ hns hk => ?_) rfl rfl rfl
  have hself : ([(("self" : Str), Value.ref x), (g, v)] : List (Str × Value)).reverse.lookup ("self" : Str) = some (.ref x) := by
    have e : (("self" : Str) == g) = false := by simpa using Ne.symm gn.1
    show List.lookup ("self" : Str) [(g, v), (("self" : Str), Value.ref x)] = _
    simp only [List.lookup, e, beq_self_eq_true]
  have hg : ([(("self" : Str), Value.ref x), (g, v)] : List (Str × Value)).reverse.lookup g = some v := by
    show List.lookup g [(g, v), (("self" : Str), Value.ref x)] = _
    simp only [List.lookup, beq_self_eq_true]
  have lt_of : ∀ {b : Addr} {o : Obj}, s.heap.get? b = some o → b ≠ s.heap.objs.size := fun {b o} e => Nat.ne_of_lt (Heap.lt_size e)
  obtain ⟨hp, gs, d, tk, os⟩ := s
  have X0 : K.In h₀ := X.keeps hk
  have hx0 := hk _ _ hx
  show _root_.PySem.wpAt _ _ _ (execs (iB g r0 r1 r2 r3 r4 q1 q2 q3 q4) (ksEnv qual (iS g) hp.objs.size fI (.ref cda) cc)) _ _ _
  obtain ⟨pl, htree⟩ := tree_super (qual := qual) (scope := iS g) (L := hp.objs.size) (f := fI) (cc := cc) (cda := .ref cda) (r0 := r0) (r1 := r1) hpos
  refine ks_wpAt_execs_cons (ks_wpAt_Expr_any (ks_wpAt_MethodCall (pl := pl) ?_ htree))
  obtain ⟨oD, hD1, hD2⟩ : ∃ oD, h₀.get? C = some oD ∧ oD.data = .cls cdC := by
    unfold clsIn at hcC
    split at hcC
    · rename_i c d cd' sl ho
      cases hcC
      exact ⟨_, X0 _ _ ho, rfl⟩
    · cases hcC
  refine ks_wpAt_super_base (env := ksEnv qual (iS g) hp.objs.size fI (.ref cda) cc) (iS_super gn) (iS_class gn) (by decide) rfl (X0 _ _ lk) rfl rfl rfl (X0 _ _ hcode) rfl hvs hfile I.top ?_
  refine ks_loadName_global rfl (iS_super gn) (loadGlobal_builtin (env := ksEnv qual (iS g) hp.objs.size fI (.ref cda) cc) (mg := mg) (mb := mb) (v := .type "super") ?_ (mg_none_of X hG I.nsu) ?_ ((hbb _ (by decide)).trans (by first | rfl | decide +kernel | kernel_rfl)) ⟨rfl, ?_⟩)
  · obtain ⟨o, es, ep, e, r⟩ := hG
    exact ⟨o, es, ep, hk _ _ e, r⟩
  · obtain ⟨o, es, ep, e, r⟩ := hb
    exact ⟨o, es, ep, hk _ _ e, r⟩
  refine wpAny_loadName_free rfl (iS_class gn) rfl ⟨_, X0 _ _ hcell, rfl⟩ ?_
  refine wpAny_loadName_local rfl iS_self hns hself ?_
  refine ks_wpAny_isType_cls hD1 hD2 ⟨rfl, ?_⟩
  refine ks_wpAny_call_super hD1 hD2 hx0 rfl (fun c e => by cases e) (looks_mroIn X0 T.sC) (fun h2 e2 k2 => ?_)
  have X2 : K.In h2 := X0.keeps k2
  have hx2 := k2 _ _ hx0
  have I2 : InstAt h2 x (excO C t0) C none := ⟨hx2, rfl, rfl, trivial⟩
  have hm : alongIn K "__init__" ((cdC.mro.dropWhile (· != .ref C)).drop 1) = some (some (.builtin initId)) := by
    have z := I.sup
    unfold ks_superIn at z
    rw [hcC] at z
    exact z
  refine kxs_getMethod FB.kxs e2 (looks_opaque X2 I.opq) (l₀ := cdC.mro) (fun A Q E s k q => wpAny_bind ((looks_clsIn X2 hcC) A _ E s k (wpAny_pure q))) rfl X2 hm (I2.type.andThen (looks_subIn X2 T.sB)) (ks_ne X2 I2 hcC) (by decide) ?_
  have k3 : ∀ b o, h2.get? b = some o → (h2.push (kxs_mw initId x)).get? b = some o := fun b o e => Heap.get?_push_of_some _ e
  refine kxs_callWith (i := initId) (x := x) rfl (evalArgs_empty ⟨Heap.get?_push_at rfl rfl, ?_⟩)
  refine call_mw FB.base (k3 _ _ (k2 _ _ (hk _ _ hC))) (k3 _ _ hx2) (Heap.get?_push_at rfl rfl) fun h4 t1 k4 hx4 => ?_
  have kx : ∀ b o, b ≠ x → h₀.get? b = some o → h4.get? b = some o := fun b o hb e => k4 b o hb (k3 _ _ (k2 _ _ e))
  have nx : ∀ {b : Addr} {o : Obj}, h₀.get? b = some o → (∀ vs, o.data ≠ .fields vs) → b ≠ x := fun {b o} e hd z => by
    rw [z, hx0] at e
    cases e
    exact hd _ rfl
  have X4 : K.In h4 := fun b o e => kx b o (fun z => by
    rw [z, hnx] at e
    cases e) (X0 b o e)
  refine wpAt_of_wpAny ?_
  have hsL : hp.objs.size ≠ x := fun z => Nat.lt_irrefl _ (show hp.objs.size < hp.objs.size by
    have y : x < hp.objs.size := Heap.lt_size hx
    rw [z] at y ⊢
    exact y)
  have ns4 : h4.Ns hp.objs.size (fun y => ([(("self" : Str), Value.ref x), (g, v)] : List (Str × Value)).reverse.lookup y) := by
    obtain ⟨o, es, ep, e, r⟩ := hns
    exact ⟨o, es, ep, kx _ _ hsL e, r⟩
  refine wpAny_execs_cons (plainObj_wpAny_Assign_Attribute ?_)
  refine wpAny_Name (wpAny_loadName_local rfl (iS_g gn) ns4 hg ?_) gn.2.2.2
  refine wpAny_Name (wpAny_loadName_local rfl iS_self ns4 hself ?_) (by decide)
  refine set_first FB T I.tk X4 hx4 fun h5 tk5 dx k5 dn dne hx5 hn5 => ?_
  refine wpAny_execs_nil ?_
  have keep : ∀ b o, b ≠ x → hp.get? b = some o → h5.get? b = some o := fun b o hb e => k5 b o hb (kx b o hb (hk b o e))
  refine hq h5 tk5 dx t1 ⟨keep, hx5, ?_, dne, hn5⟩
  have z : hp.objs.size < h₀.objs.size := hns.lt
  have z4 : hp.objs.size < h4.objs.size := ns4.lt
  exact Nat.le_of_lt (Nat.lt_of_lt_of_le z4 dn)
theorem init_one (FB : BaseF B newId initId bmB) (T : ClsE K C B newId bmB) (I : InitE prog K C fI initId g) {x t0 : Addr} {v : Value} (X : K.In s.heap) (hG : s.heap.Ns mainGlobals mg) (hb : s.heap.Ns builtinsNs mb) (hbb : ∀ x : Str, x ≠ "__name__" → mb x = bootBuiltins x) (hlim : s.heap.NoLimit)
    (hx : s.heap.get? x = some (excO C t0)) (hnx : K.lookup x = none) (hroom : A.depth < recursionLimit)
    (hq : ∀ h' tk dx t1, InitEnd s.heap h' x C dx t1 g v → R (.ok (.ret .none)) { s with heap := h', toks := tk }) :
    codeAny (model prog w) A (.call (.ref fI) ⟨[.ref x, v], []⟩) R s :=
  init_oneA FB T I (fun _ _ _ _ _ _ _ _ _ _ _ _ _ _ _ _ _ _ _ => I.fld.bnd _ _ _ _ _ _ _ _ _ _ _ _ _ _ _ _ _ _ _ _ _) X hG hb hbb hlim hx hnx hroom hq
end
end ErrX
end PySem

/-! X2: an own exception of one field: made, raised, held as a value -/
namespace PySem
namespace ErrX
open PySem.W PySem.Calls PyProof.Rows PySem.HandSPX Builtin Builtin.ObjectAttr PySem.Spec
/-- a made exception -/
structure OwnMade (h h' : Heap) (e C d : Addr) (g : Str) (v : Value) : Prop where
  keep : ∀ b o, h.get? b = some o → h'.get? b = some o
  new : h.objs.size ≤ e
  obj : ∃ oe vs, h'.get? e = some oe ∧ oe.cls = .ref C ∧ oe.dict = some d ∧ oe.data = .fields vs ∧ vs[1]? = some .none
  dbig : h.objs.size ≤ d
  dne : d ≠ e
  ns : h'.Ns1 d (fun y => if y = g then some v else none)
section
variable {prog : Program} {w : World} {A : Around} {E : Value → Shared → Prop} {R : Result → Shared → Prop} {s : Shared} {K : Frag} {mg mb : Str → Option Value} {C fI : Addr} {B newId initId : String} {bmB : List Value} {g : Str}
theorem one_size (v : Value) : [v].length ≤ sizeLine := by
  rw [sizeLine_eq]
  exact (by decide : 1 ≤ 16777216)
theorem err_made (FB : BaseF B newId initId bmB) (T : ClsE K C B newId bmB) (I : InitE prog K C fI initId g) {v : Value} (X : K.In s.heap) (hG : s.heap.Ns mainGlobals mg) (hb : s.heap.Ns builtinsNs mb) (hbb : ∀ x : Str, x ≠ "__name__" → mb x = bootBuiltins x) (hlim : s.heap.NoLimit)
    (hroom : A.depth + 1 < recursionLimit) (hq : ∀ h' tk e d, OwnMade s.heap h' e C d g v → R (.ok (.ret (.ref e))) { s with heap := h', toks := tk }) :
    codeAny (model prog w) A (.call (.ref C) ⟨[v], []⟩) R s := by
  obtain ⟨nm, N', qn, bs, bm, hdct, sn, sub, ab, col, dd, k0, k1, k2, k3, k5, hC, hT⟩ := excInit_of X T.exi
  obtain ⟨hp, gs, dr, tk, os⟩ := s
  have k : ∀ b o, hp.get? b = some o → ((hp.push (kdv_tup [v])).push (excO C hp.objs.size)).get? b = some o := fun b o e => Heap.get?_push_of_some _ (Heap.get?_push_of_some _ e)
  have hget : ((hp.push (kdv_tup [v])).push (excO C hp.objs.size)).get? (hp.objs.size + 1) = some (excO C hp.objs.size) := by heap_get
  have hnx : K.lookup (hp.objs.size + 1) = none := by
    cases e : K.lookup (hp.objs.size + 1) with
    | none => rfl
    | some o =>
      have z : hp.get? (hp.objs.size + 1) = some o := X _ _ e
      exact absurd (Nat.lt_of_succ_lt (Heap.lt_size z)) (Nat.lt_irrefl _)
  have nsK : ∀ {b : Addr} {m : Str → Option Value}, hp.Ns b m → ((hp.push (kdv_tup [v])).push (excO C hp.objs.size)).Ns b m := fun {b m} ⟨o, es, ep, e, r⟩ => ⟨o, es, ep, k _ _ e, r⟩
  refine call_own FB.base hT hC (looks_findIn X I.ii) (fun self => bind_fn X self I.tI) (one_size v) ?_
  refine init_one (mg := mg) (mb := mb) (s := ⟨(hp.push (kdv_tup [v])).push (excO C hp.objs.size), gs, dr, tk, os⟩) FB T I (X.keeps k) (nsK hG) (nsK hb) hbb (hlim.keeps k) hget hnx ?_ fun h' tk' dx t1 ⟨k', hx, dn, dne, hns⟩ => ?_
  · show A.depth + 1 < recursionLimit
    exact hroom
  · have old : ∀ b o, hp.get? b = some o → h'.get? b = some o := fun b o e => k' b o (Nat.ne_of_lt (Nat.lt_succ_of_lt (Heap.lt_size e))) (k b o e)
    have z : hp.objs.size + 1 + 1 ≤ dx := by
      first
        | (simpa only [Heap.size_push] using dn)
        | exact dn
        | (have q := dn; rw [Heap.size_push, Heap.size_push] at q; exact q)
    exact ⟨rfl, hq h' tk' (hp.objs.size + 1) dx ⟨old, Nat.le_succ _, ⟨_, _, hx, rfl, rfl, rfl, rfl⟩, Nat.le_trans (Nat.le_trans (Nat.le_succ _) (Nat.le_succ _)) z, dne, hns⟩⟩
end
end ErrX
end PySem
namespace L2
open PySem PySem.Spec PyProof.Rows
/-- at a: an exception of the class at C, its own dict d -/
def ErrO (a C : Addr) (d : Option Addr) : HO := .ext fun h => ∃ (oe : Obj) (vs : Array Value), h.get? a = some oe ∧ oe.cls = .ref C ∧ oe.dict = d ∧ oe.data = .fields vs
theorem errO_ok {P : Program} {w : World} {H : Hp} {h : Heap} {e C : Addr} {d : Option Addr} {oe : Obj} {vs : Array Value} (he : h.get? e = some oe) (h1 : oe.cls = .ref C) (h2 : oe.dict = d) (h3 : oe.data = .fields vs) : ObjOk P w H h e (ErrO e C d) :=
  ⟨⟨oe, vs, he, h1, h2, h3⟩, ⟨_, he⟩, fun h1 h2 z k => by
    obtain ⟨o, us, q, r⟩ := z
    exact ⟨o, us, k _ q, r⟩⟩
theorem relO_fld {g : Str} {v : V} {v' : Value} (r : RelV v v') (f : Str) : RelO (List.lookup f [(g, v)]) (if f = g then some v' else none) := by
  by_cases hw : f = g
  · subst hw
    rw [if_pos rfl]
    have q : List.lookup f [(f, v)] = some v := by simp [List.lookup]
    rw [q]
    exact r
  · rw [if_neg hw]
    have qw : (f == g) = false := by simpa using hw
    have q2 : List.lookup f [(g, v)] = none := by simp [List.lookup, qw]
    rw [q2]
    trivial
section
variable {X : Cx} {C fI : Addr} {B newId initId : String} {bmB : List Value} {g n : Str}
/-- n(e), to be raised -/
def tMkE (C : Addr) (g : Str) (ta : TA) : St → Hp → XK → Prop := fun σ H Q => ta σ H fun vs H1 => ∃ v, vs = [v] ∧ ∀ d, H1 d = none → Q (.ref C) (some d) (upd H1 d (.xd [(g, v)]))
theorem pmk_err {a : Expr} {ta : TA} {p pos : Pos} {k : Nat} (FB : PySem.ErrX.BaseF B newId initId bmB) (T : PySem.ErrX.ClsE X.K C B newId bmB) (In : PySem.ErrX.InitE X.prog X.K C fI initId g) (hm : X.mg n = some (.ref C)) (hr : Room k X.A) (ha : PA X [a] ta) (hg : Gl X n := by rfl) (hdb : (n == ("__debug__" : Str)) = false := by decide)
    (he : starEach (a :: []) X.env = (false, eval a X.env) :: starEach [] X.env := by rfl) (hpl : (backTo pos (starEach [] X.env)).any (·.1) = false := by rfl) :
    PMk X (.Call (.Name n p) [a] [] pos) (tMkE C g ta) := by
  intro pins s σ H Q I h
  refine wpAny_Call_Name_kw (ld_glob I hg hm ?_ hdb)
  refine PySem.W.callWith_K (h₀ := X.base) I.ok.mod.kin T.kC (thn (ha.run pos pins s σ H _ I h) fun us s1 hh => ?_) he hpl
  obtain ⟨vs, H1, I1, r1, v, ev, q1⟩ := hh
  subst ev
  refine ⟨I1.kIn, ?_⟩
  cases r1 with
  | cons rv rn =>
    rename_i v' us'
    cases rn
    show wpAny _ _ (call (.ref C) [v']) _ _ _
    have hlim := I1.nolimit
    obtain ⟨mb, hb, hbb⟩ := I1.mod.blt
    have kp := I1.bk
    have nsK : ∀ {b : Addr} {m : Str → Option Value}, X.base.Ns b m → s1.heap.Ns b m := fun {b m} ⟨o, es, ep, e, r⟩ => ⟨o, es, ep, kp _ _ e, r⟩
    have hG := nsK I1.mod.glob
    have hB := nsK hb
    obtain ⟨hp, gs, dr, tk, os⟩ := s1
    refine wpAny_call (PySem.ErrX.err_made (mg := X.mg) (mb := mb) FB T In I1.kIn hG hB hbb hlim (by have := hr.dp; omega) fun h' tk' e d M => ?_)
    show MkP X pins σ Q (.ref e) ⟨h', gs, dr, tk', os⟩
    obtain ⟨oe, fv, hoe, hc, hd, hdat, h1⟩ := M.obj
    have hns := M.ns
    obtain ⟨G', g1, g2⟩ := restrict h' fun b => decide (b ≠ e)
    have gk : ∀ b, b ≠ e → G'.get? b = h'.get? b := fun b hb => g1 b (decide_eq_true hb)
    have ge : G'.get? e = none := g2 e (by simp)
    have old : ∀ b o, hp.get? b = some o → G'.get? b = some o := fun b o q => (gk b (Nat.ne_of_lt (Nat.lt_of_lt_of_le (Heap.lt_size q) M.new))).trans (M.keep b o q)
    have ob : ObjOk X.prog X.w (upd H1 d (.xd [(g, v)])) G' d (.xd [(g, v)]) :=
      ⟨_, hns.at (fun o q => (gk d M.dne).trans q), fun f => relO_fld rv f⟩
    have J : Inv X pins σ (upd H1 d (.xd [(g, v)])) ⟨G', gs, dr, tk', os⟩ := I1.laid (t' := tk') old M.dbig ob
    refine ⟨e, oe, fv, ⟨G', gs, dr, tk', os⟩, _, .ref C, some d, rfl, J, fun b o q => ?_, ge, hoe, ⟨hc, hd⟩, hdat, h1, ?_, rfl, I1.bare, raises_own T.sE T.tC, q1 d (I1.hok.fresh M.dbig)⟩
    · by_cases hb : b = e
      · have q' : G'.get? b = some o := q
        rw [hb, ge] at q'; cases q'
      · exact (gk b hb).symm.trans q
    · rw [upd_ne (Ne.symm M.dne)]
      exact I1.hok.fresh M.new
end
end L2

/-! X7: what the written part says of an exception class and its __init__, asked at once -/
namespace PySem
namespace ErrX
open PySem.W PySem.Calls PyProof.Rows PySem.HandSPX PySem.Spec
def clsEB (K : Frag) (C : Addr) (B newId : String) (bmB : List Value) : Bool :=
  excInitIn K C bmB newId && (excOver K C bmB && (decide (findIn K (.ref C) "__setattr__" = some (some (.builtin "object.__setattr__"))) && (hasDictIn K C && (decide (subIn K (.ref C) (.type B) = some true) && (decide (subIn K (.ref C) (.type "BaseException") = some true) &&
  (decide (mroIn K C (.ref C) = some true) && (decide (typeIn K (.ref C) = some (.type "type")) && keepIn K (.ref C))))))))
theorem clsE_of {K : Frag} {C : Addr} {B newId : String} {bmB : List Value} (h : clsEB K C B newId bmB = true) : ClsE K C B newId bmB := by
  unfold clsEB at h
  simp only [Bool.and_eq_true, decide_eq_true_eq] at h
  obtain ⟨h1, h2, h3, h4, h5, h6, h7, h8, h9⟩ := h
  exact ⟨h1, h2, h3, h4, h5, h6, h7, h8, h9⟩
def argsB (g : Str) : Arguments → Bool
  | ⟨[], [⟨a1, none, _⟩, ⟨a2, none, _⟩], none, [], [], none, []⟩ => a1 == "self" && a2 == g
  | _ => false
theorem argsB_of {g : Str} {a : Arguments} (h : argsB g a = true) : ∃ p1 p2, a = iA g p1 p2 := by
  unfold argsB at h
  split at h
  · rw [Bool.and_eq_true, beq_iff_eq, beq_iff_eq] at h
    obtain ⟨rfl, rfl⟩ := h
    exact ⟨_, _, rfl⟩
  · cases h
def bodyB (g : Str) : FuncBody → Bool
  | .stmts [.Expr (.Call (.Attribute (.Call (.Name n1 _) [] [] _) n2 r2) [] [] r3) _, .Assign [.Attribute (.Name n3 _) n4 _] (.Name n5 _) _] => n1 == "super" && (n2 == "__init__" && (n3 == "self" && (n4 == g && (n5 == g && r2.endLine == r3.line))))
  | _ => false
theorem bodyB_of {g : Str} {b : FuncBody} (h : bodyB g b = true) : ∃ p0 p1 p2 p3 p4 q1 q2 q3 q4, b = .stmts (iB g p0 p1 p2 p3 p4 q1 q2 q3 q4) ∧ (p2.endLine == p3.line) = true := by
  unfold bodyB at h
  split at h
  · simp only [Bool.and_eq_true] at h
    obtain ⟨h1, h2, h3, h4, h5, h6⟩ := h
    rw [beq_iff_eq] at h1 h2 h3 h4 h5
    subst h1 h2 h3 h4 h5
    exact ⟨_, _, _, _, _, _, _, _, _, rfl, h6⟩
  · cases h
def cellB (K : Frag) (C cc : Addr) : Bool := match K.lookup cc with
  | some ⟨_, _, .cell (some (.ref D)), _⟩ => D == C
  | _ => false
def codeB (P : Program) (K : Frag) (cda : Addr) : Bool := match K.lookup cda with
  | some ⟨_, _, .fields vs, _⟩ => (match (vs[2]? : Option Value) with
    | some (.str file _) => (P.main.file : Str) == file
    | _ => false)
  | _ => false
def fnB (P : Program) (K : Frag) (C : Addr) (g : Str) (fd : FuncData) : Bool := match fd.closure, fd.code, fd.defaults with
  | [(cn, cc)], .ref cda, .none => fd.name == "__init__" && (argsB g fd.params && (bodyB g fd.body && (decide (fd.scope = iS g) && (fd.globals == mainGlobals && (fd.builtins == builtinsNs && (cn == "__class__" && (codeIn K (.ref cda) fd.qualname && (cellB K C cc && codeB P K cda))))))))
  | _, _, _ => false
def initEB (P : Program) (K : Frag) (C : Addr) (initId : String) (g : Str) : Bool := match findIn K (.ref C) "__init__" with
  | some (some (.ref fI)) => (match K.lookup fI with
    | some ⟨_, _, .func fd, _⟩ => fnB P K C g fd && (decide (typeIn K (.ref fI) = some (.type "function")) && (decide (takerIn K C g = some none) && (decide (nsIn K cStatics "thirdparty.any" = some none) && (decide (ks_superIn K C C "__init__" = some (some (.builtin initId))) &&
        (decide (nsIn K mainGlobals "super" = some none) && !(P.main.scope.names.lookup ("super" : Str)).isSome)))))
    | _ => false)
  | _ => false
theorem initE_of {P : Program} {K : Frag} {C : Addr} {initId : String} {g : Str} (F : FieldOk g) (h : initEB P K C initId g = true) : ∃ fI, InitE P K C fI initId g := by
  unfold initEB at h
  split at h
  · rename_i fI hi
    split at h
    · rename_i oc od fd sl lk
      simp only [Bool.and_eq_true, decide_eq_true_eq, Bool.not_eq_true'] at h
      obtain ⟨h1, h2, h3, h4, h5, h6, h7⟩ := h
      refine ⟨fI, hi, h2, h3, h4, h5, h6, ?_, h7, F⟩
      unfold fnB at h1
      split at h1
      · rename_i cn cc cda e1 e2 e3
        simp only [Bool.and_eq_true, decide_eq_true_eq] at h1
        obtain ⟨a1, a2, a3, a4, a5, a6, a7, a8, a9, a10⟩ := h1
        obtain ⟨p1, p2, b2⟩ := argsB_of a2
        obtain ⟨r0, r1, r2, r3, r4, q1, q2, q3, q4, b3, hpos⟩ := bodyB_of a3
        clear a2 a3
        obtain ⟨name, qual, params, body, scope, globals, closure, defaults, kV, doc, pm, an, code, ct, builtins⟩ := fd
        dsimp only at e1 e2 e3 a1 b2 b3 a4 a5 a6 a8
        rw [beq_iff_eq] at a1 a5 a6 a7
        subst e1 e2 e3 a1 b2 b3 a4 a5 a6 a7
        unfold cellB at a9
        split at a9
        · rename_i cl cld D csl hcell
          rw [beq_iff_eq] at a9
          subst a9
          unfold codeB at a10
          split at a10
          · rename_i ccl cdd vs ccs hcode
            split at a10
            · rename_i file tf hvs
              exact ⟨oc, od, qual, kV, doc, pm, an, cda, cc, ct, sl, p1, p2, r0, r1, r2, r3, r4, q1, q2, q3, q4, cl, cld, csl, ccl, cdd, vs, ccs, file, tf, lk, a8, hcell, hcode, hvs, a10, hpos⟩
            · cases a10
          · cases a10
        · cases a9
      · cases h1
    · cases h
  · cases h
end ErrX
end PySem

/-! X8: own exceptions made with keywords, and with any __init__ -/
namespace PySem
namespace ErrX
open PySem.W PySem.Calls PyProof.Rows PySem.HandSPX Builtin Builtin.ObjectAttr PySem.Spec
section
variable {M : Model} {A : Around} {E : Value → Shared → Prop} {h : Heap} {g : Array GenState} {d : Drawn} {t : Nat} {os : OsState}
variable {nm q : Str} {C N : Addr} {bs bm bmB : List Value} {hdct : Bool} {sn : List Str} {sub : List Value} {ab : Bool} {col : Option Bool} {dd : Option Addr} {k0 k1 k2 k3 k5 : Option Value} {B newId initId : String}
theorem check_new_ownK (F : ExcBaseFacts B newId initId bmB) (hT : ∀ X : String, bm.contains (.type X) = bmB.contains (.type X)) {rest : List Value} {kw : List (Str × Value)} {Q : Unit → Shared → Prop}
    (hC : h.get? C = some (excClassObj nm q C N bs bm hdct sn sub ab col dd k0 k1 k2 k3 k5 newId)) (hq : Q () ⟨h, g, d, t, os⟩) : wpAny M A (checkBuiltinCall newId ⟨.ref C :: rest, kw⟩) Q E ⟨h, g, d, t, os⟩ := by
  have hcont : (Value.ref C :: bm).contains (.type B) = true := by rw [List.contains_cons, hT, F.hasB, Bool.or_true]
  have hstar := F.noStar
  simp only [checkBuiltinCall, F.newKind, F.newSplit, F.newRow]
  repeat (first | refine wpAny_loadPart_at hC ?_ | (refine wpAny_isSubtype_exc hC ?_; rw [hcont]) | refine wpAny_staticBase_exc hC ?_ | refine wpAny_madeBy_exc hC ?_ | simp only [bne_self_eq_false, Bool.false_eq_true, if_false] | wp_step)
  exact hq
theorem check_type_callK {rest : List Value} {kw : List (Str × Value)} {Q : Unit → Shared → Prop} (hC : h.get? C = some (excClassObj nm q C N bs bm hdct sn sub ab col dd k0 k1 k2 k3 k5 newId))
    (hq : Q () ⟨h, g, d, t, os⟩) : wpAny M A (checkBuiltinCall "type.__call__" ⟨.ref C :: rest, kw⟩) Q E ⟨h, g, d, t, os⟩ := by
  have f3 := tc_sub
  have hT : (⟨h, g, d, t, os⟩ : Shared).TypeIs (.ref C) "type" := ⟨_, hC, rfl⟩
  simp only [checkBuiltinCall, tc_kind, tc_split]
  repeat (any_goals (first | assumption | with_reducible refine wpAny_loadPart_at hC ?_ | with_reducible refine wpAny_onRaise ?_ | with_reducible refine wpAny_map ?_ | wp_step))
end
section
variable {prog : Program} {w : World} {A : Around} {E : Value → Shared → Prop} {R : Result → Shared → Prop} {h : Heap} {g : Array GenState} {d : Drawn} {t : Nat} {os : OsState}
variable {nm q : Str} {C N : Addr} {bs bm bmB : List Value} {hdct : Bool} {sn : List Str} {sub : List Value} {ab : Bool} {col : Option Bool} {dd : Option Addr} {k0 k1 k2 k3 k5 : Option Value} {B newId initId : String}
theorem new_ownK (F : ExcBaseFacts B newId initId bmB) (hT : ∀ X : String, bm.contains (.type X) = bmB.contains (.type X)) {rest : List Value} {kw : List (Str × Value)}
    (hC : h.get? C = some (excClassObj nm q C N bs bm hdct sn sub ab col dd k0 k1 k2 k3 k5 newId))
    (hq : R (.ok (.ret (.ref (h.objs.size + 1)))) ⟨(h.push { cls := .type "tuple", data := .seq rest.toArray }).push
      { cls := .ref C, data := .fields #[.ref h.objs.size, .none, .none, .none, .bool false, .none] }, g, d, t, os⟩) (hrest : rest.length ≤ sizeLine) :
    codeAny (model prog w) A (.builtin newId ⟨.ref C :: rest, kw⟩) R ⟨h, g, d, t, os⟩ := by
  have hends := F.ends
  have hcB : (Value.ref C :: bm).contains (.type B) = true := by rw [List.contains_cons, hT, F.hasB, Bool.or_true]
  have hcA : (Value.ref C :: bm).contains (.type "AttributeError") = false := by rw [List.contains_cons, hT, F.noAttr]; rfl
  have hcN : (Value.ref C :: bm).contains (.type "NameError") = false := by rw [List.contains_cons, hT, F.noName]; rfl
  refine codeAny_builtinAt F.entry ?_
  unfold Builtin.«BaseException.__new__»
  refine wpAt_bind ?_
  show wpAt _ _ _ (stack >>= _) _ _ _
  refine wpAt_bind (wpAt_stack fun p below => wpAt_of_wpAny ?_)
  wp_walk
  refine wpAt_of_wpAny ?_
  rw [F.owner]
  repeat (first | with_reducible refine wpAny_madeHere_exc F.canon hC ?_ | with_reducible refine wpAny_loadPart_at hC ?_ | (with_reducible refine wpAny_isSubtype_exc hC ?_; first | rw [hcB] | rw [hcA] | rw [hcN]) | wp_step)
  show R _ _
  rw [Heap.size_push]
  exact hq
theorem type_call_ownK (F : ExcBaseFacts B newId initId bmB) (hT : ∀ X : String, bm.contains (.type X) = bmB.contains (.type X)) {rest : List Value} {kw : List (Str × Value)} {fI : Addr} {Q : Fin → Shared → Prop}
    (hC : h.get? C = some (excClassObj nm q C N bs bm hdct sn sub ab col dd k0 k1 k2 k3 k5 newId))
    (hi : W.Looks (model prog w) h (typeLookup (.ref C) "__init__") (some (.ref fI))) (hb : ∀ self, W.Looks (model prog w) h (bindSpecial (.ref fI) self) (.ref fI, [self])) (hrest : rest.length ≤ sizeLine)
    (hq : codeAny (model prog w) A (.call (.ref fI) ⟨.ref (h.objs.size + 1) :: rest, kw⟩)
      (fun r s' => match r with | .ok (.ret v) => v = .none ∧ Q (.done (.ret (.ref (h.objs.size + 1)))) s' | .ok _ => False | .error e => E e s')
      ⟨(h.push (W.kdv_tup rest)).push (excO C h.objs.size), g, d, t, os⟩) :
    wpAny (model prog w) A (Builtin.«type.__call__» ⟨.ref C :: rest, kw⟩) Q E ⟨h, g, d, t, os⟩ := by
  repeat (first | with_reducible refine wpAny_loadPart_at hC ?_ | with_reducible refine wpAny_madeBy_exc hC ?_ | wp_step)
  refine codeAny_call_builtin_code (Code.quiet_builtin _ F.quiet) (check_new_ownK F hT hC ?_)
  refine new_ownK F hT hC ?_ hrest
  show wpAny _ _ _ _ _ _
  have k : ∀ b o, h.get? b = some o → ((h.push (W.kdv_tup rest)).push (excO C h.objs.size)).get? b = some o := fun b o e => Heap.get?_push_of_some _ (Heap.get?_push_of_some _ e)
  have hC₁ := k _ _ hC
  have hget : ((h.push (W.kdv_tup rest)).push (excO C h.objs.size)).get? (h.objs.size + 1) = some (excO C h.objs.size) := by heap_get
  have hcC : (Value.ref C :: bm).contains (.ref C) = true := by simp
  have i1 := hi.keeps k
  have b1 := (hb (.ref (h.objs.size + 1))).keeps k
  unfold isInstance
  repeat (first | with_reducible refine wpAny_loadPart_at hget ?_ | (with_reducible refine wpAny_isSubtype_exc hC₁ ?_; rw [hcC]) | wp_step)
  show wpAny _ _ (typeLookup (.ref C) _) _ _ _
  refine i1.at ?_
  refine wpAny_holding (wpAny_bind (b1.at ?_))
  refine wpAny_bind (wpAny_call (codeAny_mono hq fun r s' z => ?_))
  rcases r with e | (v | _ | _ | _) <;> first | exact z | exact z.elim | skip
  obtain ⟨rfl, z⟩ := z
  first
    | exact wpAny_pure (wpAny_pure z)
    | (wp_walk; exact z)
theorem call_ownK (F : ExcBaseFacts B newId initId bmB) (hT : ∀ X : String, bm.contains (.type X) = bmB.contains (.type X)) {rest : List Value} {kw : List (Str × Value)} {fI : Addr}
    (hC : h.get? C = some (excClassObj nm q C N bs bm hdct sn sub ab col dd k0 k1 k2 k3 k5 newId))
    (hi : W.Looks (model prog w) h (typeLookup (.ref C) "__init__") (some (.ref fI))) (hb : ∀ self, W.Looks (model prog w) h (bindSpecial (.ref fI) self) (.ref fI, [self])) (hrest : rest.length ≤ sizeLine)
    (hq : codeAny (model prog w) (A.under (.builtin "type.__call__" ⟨.ref C :: rest, kw⟩)) (.call (.ref fI) ⟨.ref (h.objs.size + 1) :: rest, kw⟩) (W.InitBack (h.objs.size + 1) R)
      ⟨(h.push (W.kdv_tup rest)).push (excO C h.objs.size), g, d, t, os⟩) :
    codeAny (model prog w) A (.call (.ref C) ⟨rest, kw⟩) R ⟨h, g, d, t, os⟩ := by
  have f1 := tc_lookup
  have f2 := tc_bind (.ref C)
  have hTy : (⟨h, g, d, t, os⟩ : Shared).TypeIs (.ref C) "type" := ⟨_, hC, rfl⟩
  refine codeAny_of_tree ?_
  show wpAny _ _ (callAny (.ref C) _) _ _ _
  repeat (any_goals (first | assumption | with_reducible refine wpAny_loadPart_at hC ?_ | wp_step))
  refine ⟨rfl, ?_⟩
  refine codeAny_call_builtin_at (Code.quiet_builtin _ (by decide +kernel)) entry_typeCall (check_type_callK hC (type_call_ownK F hT hC hi hb hrest ?_))
  refine codeAny_mono hq fun r s' z => ?_
  rcases r with e | (v | _ | _ | _) <;> exact z
end
end ErrX
end PySem

/-! X9: the walk of __init__(self, index, shown) of an own exception -/
namespace PySem
namespace ErrX
open PySem.W PySem.Calls PyProof.Rows PySem.HandSPX Builtin Builtin.ObjectAttr PySem.Spec
def iA2 (p1 p2 p3 : Pos) : Arguments := { posonlyargs := [], args := [{ arg := "self", annotation := none, pos := p1 }, { arg := "index", annotation := none, pos := p2 }, { arg := "shown", annotation := none, pos := p3 }], vararg := none, kwonlyargs := [], kw_defaults := [], kwarg := none, defaults := [] }
def iB2 (p0 p1 p2 p3 p4 q1 q2 q3 q4 u1 u2 u3 u4 : Pos) : List Stmt := [.Expr (.Call (.Attribute (.Call (.Name "super" p0) [] [] p1) "__init__" p2) [] [] p3) p4, .Assign [.Attribute (.Name "self" q1) "index" q2] (.Name "index" q3) q4, .Assign [.Attribute (.Name "self" u1) "shown" u2] (.Name "shown" u3) u4]
def iS2 : Scope := { kind := .function, names := [(PySem.Str.ofString "self", .local), (PySem.Str.ofString "index", .local), (PySem.Str.ofString "shown", .local), (PySem.Str.ofString "__class__", .free), (PySem.Str.ofString "super", .globalImplicit)], isGenerator := false, isCoroutine := false, more := [] }
structure InitE2 (P : Program) (K : Frag) (C fI : Addr) (initId : String) : Prop where
  ii : findIn K (.ref C) "__init__" = some (some (.ref fI))
  tI : typeIn K (.ref fI) = some (.type "function")
  tk : takerIn K C "index" = some none
  tk2 : takerIn K C "shown" = some none
  opq : nsIn K cStatics "thirdparty.any" = some none
  sup : ks_superIn K C C "__init__" = some (some (.builtin initId))
  nsu : nsIn K mainGlobals "super" = some none
  fn : ∃ (oc : Value) (od : Option Addr) (qual : Str) (kV doc pm : Value) (an : Option Addr) (cda cc : Addr) (ct : Value) (osl : Array (Option Value)) (p1 p2 p3 r0 r1 r2 r3 r4 q1 q2 q3 q4 u1 u2 u3 u4 : Pos) (cl : Value) (cld : Option Addr) (csl : Array (Option Value)) (ccl : Value) (cdd : Option Addr) (vs : Array Value) (ccs : Array (Option Value)) (file : Str) (tf : Tok),
    K.lookup fI = some ⟨oc, od, .func (ksFn "__init__" qual (iA2 p1 p2 p3) (iB2 r0 r1 r2 r3 r4 q1 q2 q3 q4 u1 u2 u3 u4) iS2 .none kV doc pm an (.ref cda) ct cc), osl⟩ ∧ codeIn K (.ref cda) qual = true ∧
    K.lookup cc = some ⟨cl, cld, .cell (some (.ref C)), csl⟩ ∧ K.lookup cda = some ⟨ccl, cdd, .fields vs, ccs⟩ ∧ vs[2]? = some (.str file tf) ∧ ((P.main.file : Str) == file) = true ∧ (r2.endLine == r3.line) = true
  top : (P.main.scope.names.lookup ("super" : Str)).isSome = false
def argsB2 : Arguments → Bool
  | ⟨[], [⟨a1, none, _⟩, ⟨a2, none, _⟩, ⟨a3, none, _⟩], none, [], [], none, []⟩ => a1 == "self" && (a2 == "index" && a3 == "shown")
  | _ => false
theorem argsB2_of {a : Arguments} (h : argsB2 a = true) : ∃ p1 p2 p3, a = iA2 p1 p2 p3 := by
  unfold argsB2 at h
  split at h
  · rw [Bool.and_eq_true, Bool.and_eq_true, beq_iff_eq, beq_iff_eq, beq_iff_eq] at h
    obtain ⟨rfl, rfl, rfl⟩ := h
    exact ⟨_, _, _, rfl⟩
  · cases h
def bodyB2 : FuncBody → Bool
  | .stmts [.Expr (.Call (.Attribute (.Call (.Name n1 _) [] [] _) n2 r2) [] [] r3) _, .Assign [.Attribute (.Name n3 _) n4 _] (.Name n5 _) _, .Assign [.Attribute (.Name n6 _) n7 _] (.Name n8 _) _] => n1 == "super" && (n2 == "__init__" && (n3 == "self" && (n4 == "index" && (n5 == "index" && (n6 == "self" && (n7 == "shown" && (n8 == "shown" && r2.endLine == r3.line)))))))
  | _ => false
theorem bodyB2_of {b : FuncBody} (h : bodyB2 b = true) : ∃ p0 p1 p2 p3 p4 q1 q2 q3 q4 u1 u2 u3 u4, b = .stmts (iB2 p0 p1 p2 p3 p4 q1 q2 q3 q4 u1 u2 u3 u4) ∧ (p2.endLine == p3.line) = true := by
  unfold bodyB2 at h
  split at h
  · simp only [Bool.and_eq_true] at h
    obtain ⟨h1, h2, h3, h4, h5, h6, h7, h8, h9⟩ := h
    rw [beq_iff_eq] at h1 h2 h3 h4 h5 h6 h7 h8
    subst h1 h2 h3 h4 h5 h6 h7 h8
    exact ⟨_, _, _, _, _, _, _, _, _, _, _, _, _, rfl, h9⟩
  · cases h
def fnB2 (P : Program) (K : Frag) (C : Addr) (fd : FuncData) : Bool := match fd.closure, fd.code, fd.defaults with
  | [(cn, cc)], .ref cda, .none => fd.name == "__init__" && (argsB2 fd.params && (bodyB2 fd.body && (decide (fd.scope = iS2) && (fd.globals == mainGlobals && (fd.builtins == builtinsNs && (cn == "__class__" && (codeIn K (.ref cda) fd.qualname && (cellB K C cc && codeB P K cda))))))))
  | _, _, _ => false
def initEB2 (P : Program) (K : Frag) (C : Addr) (initId : String) : Bool := match findIn K (.ref C) "__init__" with
  | some (some (.ref fI)) => (match K.lookup fI with
    | some ⟨_, _, .func fd, _⟩ => fnB2 P K C fd && (decide (typeIn K (.ref fI) = some (.type "function")) && (decide (takerIn K C "index" = some none) && (decide (takerIn K C "shown" = some none) && (decide (nsIn K cStatics "thirdparty.any" = some none) && (decide (ks_superIn K C C "__init__" = some (some (.builtin initId))) &&
        (decide (nsIn K mainGlobals "super" = some none) && !(P.main.scope.names.lookup ("super" : Str)).isSome))))))
    | _ => false)
  | _ => false
theorem initE2_of {P : Program} {K : Frag} {C : Addr} {initId : String} (h : initEB2 P K C initId = true) : ∃ fI, InitE2 P K C fI initId := by
  unfold initEB2 at h
  split at h
  · rename_i fI hi
    split at h
    · rename_i oc od fd sl lk
      simp only [Bool.and_eq_true, decide_eq_true_eq, Bool.not_eq_true'] at h
      obtain ⟨h1, h2, h3, h3b, h4, h5, h6, h7⟩ := h
      refine ⟨fI, hi, h2, h3, h3b, h4, h5, h6, ?_, h7⟩
      unfold fnB2 at h1
      split at h1
      · rename_i cn cc cda e1 e2 e3
        simp only [Bool.and_eq_true, decide_eq_true_eq] at h1
        obtain ⟨a1, a2, a3, a4, a5, a6, a7, a8, a9, a10⟩ := h1
        obtain ⟨p1, p2, p3, b2⟩ := argsB2_of a2
        obtain ⟨r0, r1, r2, r3, r4, q1, q2, q3, q4, u1, u2, u3, u4, b3, hpos⟩ := bodyB2_of a3
        clear a2 a3
        obtain ⟨name, qual, params, body, scope, globals, closure, defaults, kV, doc, pm, an, code, ct, builtins⟩ := fd
        dsimp only at e1 e2 e3 a1 b2 b3 a4 a5 a6 a8
        rw [beq_iff_eq] at a1 a5 a6 a7
        subst e1 e2 e3 a1 b2 b3 a4 a5 a6 a7
        unfold cellB at a9
        split at a9
        · rename_i cl cld D csl hcell
          rw [beq_iff_eq] at a9
          subst a9
          unfold codeB at a10
          split at a10
          · rename_i ccl cdd vs ccs hcode
            split at a10
            · rename_i file tf hvs
              exact ⟨oc, od, qual, kV, doc, pm, an, cda, cc, ct, sl, p1, p2, p3, r0, r1, r2, r3, r4, q1, q2, q3, q4, u1, u2, u3, u4, cl, cld, csl, ccl, cdd, vs, ccs, file, tf, lk, a8, hcell, hcode, hvs, a10, hpos⟩
            · cases a10
          · cases a10
        · cases a9
      · cases h1
    · cases h
  · cases h
/-- what an __init__ leaves of a fresh exception at x -/
structure InitEndM (h h' : Heap) (x C dx t1 : Addr) (m : Str → Option Value) : Prop where
  keep : ∀ b o, b ≠ x → h.get? b = some o → h'.get? b = some o
  obj : h'.get? x = some { cls := .ref C, dict := some dx, data := .fields #[.ref t1, .none, .none, .none, .bool false, .none] }
  dbig : h.objs.size ≤ dx
  dne : dx ≠ x
  ns : h'.Ns1 dx m
section
variable {prog : Program} {w : World} {A : Around} {E : Value → Shared → Prop} {R : Result → Shared → Prop} {s : Shared} {K : Frag} {mg mb : Str → Option Value} {C fI : Addr} {B newId initId : String} {bmB : List Value} {g : Str}
/-- self.g = v on an exception that has its dict -/
theorem set_second (FB : BaseF B newId initId bmB) (T : ClsE K C B newId bmB) (tk : takerIn K C g = some none) {x t1 dx : Addr} {m0 : Str → Option Value} {nl : List Str} {v : Value} {Q : Unit → Shared → Prop} (X : K.In s.heap)
    (hx : s.heap.get? x = some { cls := .ref C, dict := some dx, data := .fields #[.ref t1, .none, .none, .none, .bool false, .none] }) (hns : s.heap.Ns1 dx m0) (hw : Within m0 nl) (hz : nl.length ≤ 1000)
    (hq : ∀ h' tk', (∀ b o, b ≠ dx → s.heap.get? b = some o → h'.get? b = some o) → h'.Ns1 dx (fun y => if y = g then some v else m0 y) → Q () { s with heap := h', toks := tk' }) : wpAny (model prog w) A (setAttr (.ref x) g v) Q E s := by
  obtain ⟨oD, esD, epD, hoD, hdD, _⟩ := hns.count hw
  have I : InstAt s.heap x { cls := .ref C, dict := some dx, data := .fields #[.ref t1, .none, .none, .none, .bool false, .none] } C (some oD) := ⟨hx, rfl, rfl, hoD⟩
  refine set_plain X I T.sa ?_
  refine osa_openX (r := none) FB.store X I T.exo tk fun b => ?_
  obtain ⟨cd, hc, hh⟩ := cls_at T
  obtain ⟨hp, gs, d, t, os⟩ := s
  have hcls : W.Looks (model prog w) hp (classData C) cd := W.looks_clsIn X hc
  obtain ⟨nm, bs, mro, ns, qn, hd, sn, sb, ab, col, del⟩ := cd
  dsimp only at hh
  subst hh
  show wpAny _ _ (storeInOwnDict (.ref x) (.ref C) (.str g _) g v b) _ _ _
  unfold storeInOwnDict ownDictForStores
  repeat (first | with_reducible refine PySem.OEX.store_in_old hns hw hz ?_ | with_reducible refine wpAny_loadPart_at hx ?_ | with_reducible refine hcls.at ?_ | wp_step)
  intro h' tk' hn' hs
  exact hq h' tk' (fun b o hb ho => (hs.2 b hb).trans ho) hn'
theorem init_two (FB : BaseF B newId initId bmB) (T : ClsE K C B newId bmB) (I : InitE2 prog K C fI initId) {x t0 : Addr} {v v2 : Value} {args : Args} (hbd : (∀ (qual : Str) (p1 p2 p3 r0 r1 r2 r3 r4 q1 q2 q3 q4 u1 u2 u3 u4 : Pos) (kV doc pm : Value) (an : Option Addr) (cda ct : Value) (cc : Addr), bindArgs (ksFn "__init__" qual (iA2 p1 p2 p3) (iB2 r0 r1 r2 r3 r4 q1 q2 q3 q4 u1 u2 u3 u4) iS2 .none kV doc pm an cda ct cc) args = pure [(("self" : Str), .ref x), ("index", v), ("shown", v2)])) (X : K.In s.heap) (hG : s.heap.Ns mainGlobals mg) (hb : s.heap.Ns builtinsNs mb) (hbb : ∀ x : Str, x ≠ "__name__" → mb x = bootBuiltins x) (hlim : s.heap.NoLimit)
    (hx : s.heap.get? x = some (excO C t0)) (hnx : K.lookup x = none) (hroom : A.depth < recursionLimit)
    (hq : ∀ h' tk dx t1, InitEndM s.heap h' x C dx t1 (fun y => if y = "shown" then some v2 else if y = "index" then some v else none) → R (.ok (.ret .none)) { s with heap := h', toks := tk }) :
    codeAny (model prog w) A (.call (.ref fI) args) R s := by
  obtain ⟨oc, od, qual, kV, doc, pm, an, cda, cc, ct, osl, p1, p2, p3, r0, r1, r2, r3, r4, q1, q2, q3, q4, u1, u2, u3, u4, cl, cld, csl, ccl, cdd, vs, ccs, file, tf, lk, hcd, hcell, hcode, hvs, hfile, hpos⟩ := I.fn
  obtain ⟨nm, N', qn, bs, bm, hdct, sn, sub, ab, col, dd, k0, k1, k2, k3, k5, hC, hT⟩ := excInit_of X T.exi
  obtain ⟨cdC, hcC, hhC⟩ := cls_at T
  have hbind : BindsTo s (ksFn "__init__" qual (iA2 p1 p2 p3) (iB2 r0 r1 r2 r3 r4 q1 q2 q3 q4 u1 u2 u3 u4) iS2 .none kV doc pm an (.ref cda) ct cc) args [(("self" : Str), .ref x), ("index", v), ("shown", v2)] := BindsTo.of_eq (hbd _ _ _ _ _ _ _ _ _ _ _ _ _ _ _ _ _ _ _ _ _ _ _ _)
  refine ks_codeAny_call_defAt (fd := ksFn "__init__" qual (iA2 p1 p2 p3) (iB2 r0 r1 r2 r3 r4 q1 q2 q3 q4 u1 u2 u3 u4) iS2 .none kV doc pm an (.ref cda) ct cc) (body := iB2 r0 r1 r2 r3 r4 q1 q2 q3 q4 u1 u2 u3 u4) hroom (X _ _ lk) rfl hlim (codeRec_of X hcd) rfl hbind (by
      intro y hy
      have hy : y ∈ [(PySem.Str.ofString "self", NameKind.local), (PySem.Str.ofString "index", NameKind.local), (PySem.Str.ofString "shown", NameKind.local), (PySem.Str.ofString "__class__", NameKind.free), (PySem.Str.ofString "super", NameKind.globalImplicit)] := hy
      simp only [List.mem_cons, List.not_mem_nil, or_false] at hy
      rcases hy with rfl | rfl | rfl | rfl | rfl <;> decide) (by
      intro y hy
      simp only [List.mem_cons, List.not_mem_nil, or_false] at hy
      rcases hy with rfl | rfl | rfl <;> rfl) (fun h₀ hns hk => ?_) rfl rfl rfl
  have hself : ([(("self" : Str), Value.ref x), ("index", v), ("shown", v2)] : List (Str × Value)).reverse.lookup ("self" : Str) = some (.ref x) := by rfl
  have hg1 : ([(("self" : Str), Value.ref x), ("index", v), ("shown", v2)] : List (Str × Value)).reverse.lookup ("index" : Str) = some v := by rfl
  have hg2 : ([(("self" : Str), Value.ref x), ("index", v), ("shown", v2)] : List (Str × Value)).reverse.lookup ("shown" : Str) = some v2 := by rfl
  have lt_of : ∀ {b : Addr} {o : Obj}, s.heap.get? b = some o → b ≠ s.heap.objs.size := fun {b o} e => Nat.ne_of_lt (Heap.lt_size e)
  obtain ⟨hp, gs, d, tk, os⟩ := s
  have X0 : K.In h₀ := X.keeps hk
  have hx0 := hk _ _ hx
  show _root_.PySem.wpAt _ _ _ (execs (iB2 r0 r1 r2 r3 r4 q1 q2 q3 q4 u1 u2 u3 u4) (ksEnv qual iS2 hp.objs.size fI (.ref cda) cc)) _ _ _
  obtain ⟨pl, htree⟩ := tree_super (qual := qual) (scope := iS2) (L := hp.objs.size) (f := fI) (cc := cc) (cda := .ref cda) (r0 := r0) (r1 := r1) hpos
  refine ks_wpAt_execs_cons (ks_wpAt_Expr_any (ks_wpAt_MethodCall (pl := pl) ?_ htree))
  obtain ⟨oD, hD1, hD2⟩ : ∃ oD, h₀.get? C = some oD ∧ oD.data = .cls cdC := by
    unfold clsIn at hcC
    split at hcC
    · rename_i c d cd' sl ho
      cases hcC
      exact ⟨_, X0 _ _ ho, rfl⟩
    · cases hcC
  refine ks_wpAt_super_base (env := ksEnv qual iS2 hp.objs.size fI (.ref cda) cc) (by rfl) (by rfl) (by decide) rfl (X0 _ _ lk) rfl rfl rfl (X0 _ _ hcode) rfl hvs hfile I.top ?_
  refine ks_loadName_global rfl (by rfl) (loadGlobal_builtin (env := ksEnv qual iS2 hp.objs.size fI (.ref cda) cc) (mg := mg) (mb := mb) (v := .type "super") ?_ (mg_none_of X hG I.nsu) ?_ ((hbb _ (by decide)).trans (by first | rfl | decide +kernel | kernel_rfl)) ⟨rfl, ?_⟩)
  · obtain ⟨o, es, ep, e, r⟩ := hG
    exact ⟨o, es, ep, hk _ _ e, r⟩
  · obtain ⟨o, es, ep, e, r⟩ := hb
    exact ⟨o, es, ep, hk _ _ e, r⟩
  refine wpAny_loadName_free rfl (by rfl) rfl ⟨_, X0 _ _ hcell, rfl⟩ ?_
  refine wpAny_loadName_local rfl (by rfl) hns hself ?_
  refine ks_wpAny_isType_cls hD1 hD2 ⟨rfl, ?_⟩
  refine ks_wpAny_call_super hD1 hD2 hx0 rfl (fun c e => by cases e) (looks_mroIn X0 T.sC) (fun h2 e2 k2 => ?_)
  have X2 : K.In h2 := X0.keeps k2
  have hx2 := k2 _ _ hx0
  have I2 : InstAt h2 x (excO C t0) C none := ⟨hx2, rfl, rfl, trivial⟩
  have hm : alongIn K "__init__" ((cdC.mro.dropWhile (· != .ref C)).drop 1) = some (some (.builtin initId)) := by
    have z := I.sup
    unfold ks_superIn at z
    rw [hcC] at z
    exact z
  refine kxs_getMethod FB.kxs e2 (looks_opaque X2 I.opq) (l₀ := cdC.mro) (fun A Q E s k q => wpAny_bind ((looks_clsIn X2 hcC) A _ E s k (wpAny_pure q))) rfl X2 hm (I2.type.andThen (looks_subIn X2 T.sB)) (ks_ne X2 I2 hcC) (by decide) ?_
  have k3 : ∀ b o, h2.get? b = some o → (h2.push (kxs_mw initId x)).get? b = some o := fun b o e => Heap.get?_push_of_some _ e
  refine kxs_callWith (i := initId) (x := x) rfl (evalArgs_empty ⟨Heap.get?_push_at rfl rfl, ?_⟩)
  refine call_mw FB.base (k3 _ _ (k2 _ _ (hk _ _ hC))) (k3 _ _ hx2) (Heap.get?_push_at rfl rfl) fun h4 t1 k4 hx4 => ?_
  have kx : ∀ b o, b ≠ x → h₀.get? b = some o → h4.get? b = some o := fun b o hb e => k4 b o hb (k3 _ _ (k2 _ _ e))
  have nx : ∀ {b : Addr} {o : Obj}, h₀.get? b = some o → (∀ vs, o.data ≠ .fields vs) → b ≠ x := fun {b o} e hd z => by
    rw [z, hx0] at e
    cases e
    exact hd _ rfl
  have X4 : K.In h4 := fun b o e => kx b o (fun z => by
    rw [z, hnx] at e
    cases e) (X0 b o e)
  refine wpAt_of_wpAny ?_
  have hsL : hp.objs.size ≠ x := fun z => Nat.lt_irrefl _ (show hp.objs.size < hp.objs.size by
    have y : x < hp.objs.size := Heap.lt_size hx
    rw [z] at y ⊢
    exact y)
  have ns4 : h4.Ns hp.objs.size (fun y => ([(("self" : Str), Value.ref x), ("index", v), ("shown", v2)] : List (Str × Value)).reverse.lookup y) := by
    obtain ⟨o, es, ep, e, r⟩ := hns
    exact ⟨o, es, ep, kx _ _ hsL e, r⟩
  refine wpAny_execs_cons (plainObj_wpAny_Assign_Attribute ?_)
  refine wpAny_Name (wpAny_loadName_local rfl (by rfl) ns4 hg1 ?_) (by decide)
  refine wpAny_Name (wpAny_loadName_local rfl (by rfl) ns4 hself ?_) (by decide)
  refine set_first FB T I.tk X4 hx4 fun h5 tk5 dx k5 dn dne hx5 hn5 => ?_
  have keep : ∀ b o, b ≠ x → hp.get? b = some o → h5.get? b = some o := fun b o hb e => k5 b o hb (kx b o hb (hk b o e))
  have z4 : hp.objs.size < h4.objs.size := ns4.lt
  have dsz : hp.objs.size < dx := Nat.lt_of_lt_of_le z4 dn
  have ns5 : h5.Ns hp.objs.size (fun y => ([(("self" : Str), Value.ref x), ("index", v), ("shown", v2)] : List (Str × Value)).reverse.lookup y) := by
    obtain ⟨o, es, ep, e, r⟩ := ns4
    exact ⟨o, es, ep, k5 _ _ hsL e, r⟩
  have X5 : K.In h5 := fun b o e => k5 b o (fun z => by
    rw [z, hnx] at e
    cases e) (X4 b o e)
  refine wpAny_execs_cons (plainObj_wpAny_Assign_Attribute ?_)
  refine wpAny_Name (wpAny_loadName_local rfl (by rfl) ns5 hg2 ?_) (by decide)
  refine wpAny_Name (wpAny_loadName_local rfl (by rfl) ns5 hself ?_) (by decide)
  refine set_second FB T I.tk2 X5 hx5 hn5 (nl := ["index"]) (fun y hy => ?_) (by decide) fun h6 tk6 k6 hn6 => ?_
  · by_cases e : y = "index"
    · subst e
      simp
    · simp [e] at hy
  refine wpAny_execs_nil ?_
  exact hq h6 tk6 dx t1 ⟨fun b o hb e => k6 b o (fun z => by
      subst z
      exact absurd (Heap.lt_size e) (by show ¬ (_ < hp.objs.size); omega)) (keep b o hb e), k6 _ _ (Ne.symm dne) hx5, Nat.le_of_lt dsz, dne, hn6⟩
end
end ErrX
end PySem

/-! X3: an exception that was caught is a thing of ours: try .. except (a tuple of classes | one class) as n, the suite's context -/
namespace L2
open PySem PySem.Spec PyProof.Rows
section
variable {X : Cx} {pins : List (Addr × Obj)} {σ : St} {H : Hp} {sI s s' : Shared} {B : Heap} {a C : Addr} {d : Option Addr}
/-- back on the ground, the exception tracked -/
theorem Inv.landedE (I : Inv X pins σ H sI) (nb : ∀ b o, sI.heap.get? b = some o → b ∉ frs X.stack → B.get? b = some o) (st : B.StaysIn s'.heap) (up : sI.heap.UpToSlots s'.heap) (os : s'.os = sI.os) (ag : AllBare s'.gens)
    (na : H a = none) (nB : B.get? a = none) (nf : a ∉ frs X.stack) {oe : Obj} {vs : Array Value} (he : s'.heap.get? a = some oe) (h1 : oe.cls = .ref C) (h2 : oe.dict = d) (h3 : oe.data = .fields vs) : Inv X pins σ (upd H a (L2.DL.ErrO a C d)) s' := by
  have notin : ∀ {b : Addr} {o : Obj}, sI.heap.get? b = some o → b ≠ a := fun {b o} e z => by
    subst z
    rw [nb _ _ e nf] at nB
    cases nB
  have nfr : ∀ b ∈ frs X.stack, ∀ o, sI.heap.get? b = some o → ∃ sl, s'.heap.get? b = some { o with slots := sl } := fun b hb o e => by
    obtain ⟨_, o', e', hd⟩ := I.stack.mem hb
    rw [e] at e'; cases e'
    exact up b o e hd
  have nta : ∀ {b : Addr} {o : HO}, H b = some o → b ≠ a := fun {b o} e => ne_of_none e na
  have hok : HOk X.prog X.w (upd H a (L2.DL.ErrO a C d)) s'.heap := fun b o q => by
    by_cases hb : b = a
    · subst hb
      rw [upd_same] at q
      cases q
      exact ⟨⟨oe, vs, he, h1, h2, h3⟩, ⟨_, he⟩, fun h1 h2 z k => by
        obtain ⟨o, us, q, r⟩ := z
        exact ⟨o, us, k _ q, r⟩⟩
    · rw [upd_ne hb] at q
      exact ((I.inGround nb).kept st b o q).stay (fun c v hc z => z) (fun c z => by rw [upd_ne (nta z)]; exact z) fun c xs z => by rw [upd_ne (nta z)]; exact z
  have J := I.call (ch := []) (h' := s'.heap) (g' := s'.gens) (t' := s'.toks) (d' := s'.drawn) (H' := upd H a (L2.DL.ErrO a C d))
    ⟨fun b o e _ hb _ => st b o (nb b o e hb), fun b o e _ hb _ => nfr b hb o e, fun b o e n _ => by rw [upd_ne (notin e)]; exact n, fun b o e _ => by
      by_cases hb : b ∈ frs X.stack
      · obtain ⟨sl, q⟩ := nfr b hb o e
        exact ⟨_, q⟩
      · exact ⟨o, st b o (nb b o e hb)⟩, fun _ _ e => by rw [upd_ne (nta e)]; exact e, fun _ _ _ e => by rw [upd_ne (nta e)]; exact e, fun b ps e => ⟨#[], by rw [upd_ne (nta e), e]; simp⟩⟩
    hok ag (fun _ z => nomatch z)
  obtain ⟨a1, a2, a3, a4, a5⟩ := s'
  have e5 : a5 = sI.os := os
  subst e5
  exact J
/-- the context of a suite -/
abbrev Cx.suiteE (X : Cx) (a : Addr) (pn : List (Addr × Obj)) : Cx := { X with A := X.A.mark (some (.ref a)), calm := false, pn := pn, xe := fun _ _ => False }
theorem Inv.suiteE (I : Inv X pins σ H s) (a : Addr) : Inv (X.suiteE a (X.pn ++ pins)) [] σ H s :=
  ⟨⟨I.ok.mod, I.ok.kind, I.ok.glob, I.ok.blt, I.ok.above, I.ok.inj, I.ok.has, I.ok.cab, (fun z => absurd (show false = true from z) Bool.false_ne_true), I.ok.frames, I.ok.stk, I.ok.exf, I.ok.bs, I.ok.bsz, I.ok.noex, I.ok.exfs, I.ok.funs, I.ok.frf⟩,
    I.os, I.bare, I.base, I.loc, I.cell, I.free, I.freeC, fun p hp => I.pin p (by rw [List.append_nil] at hp; exact hp), I.hok, I.len⟩
theorem Inv.unsuiteE {a : Addr} {pn' : List (Addr × Obj)} (I : Inv (X.suiteE a (X.pn ++ pins)) pn' σ H s) (ok : X.Ok) : Inv X pins σ H s :=
  ⟨ok, I.os, I.bare, I.base, I.loc, I.cell, I.free, I.freeC, fun p hp => I.pin p (List.mem_append_left _ hp), I.hok, I.len⟩
end
end L2

/-! X4: try with any clauses; the caught exception is tracked in the suites -/
namespace L2
open PySem PySem.Spec PyProof.Rows
theorem flyZ_keeps {B h h' : Heap} {l : List Env} {e : Addr} {Z : Obj → Prop} (R : HandSPX.FlyingZ B l e Z h) (k : ∀ b o, h.get? b = some o → h'.get? b = some o) : HandSPX.FlyingZ B l e Z h' := by
  obtain ⟨f1, f2, f3, oe, ws, T, oT, ts, he, hc, hd, h1, hn, hne, hT, hdT, h3⟩ := R
  exact ⟨fun b o q => k b o (f1 b o q), f2, f3.of_keeps fun b o q _ => ⟨o, k b o q, rfl⟩, oe, ws, T, oT, ts, k _ _ he, hc, hd, h1, hn, hne, k _ _ hT, hdT, h3⟩
/-- the test of a clause: a class, or some classes -/
def TestE (X : Cx) (te : Expr) (cs : List Value) : Prop := ∀ (a : Addr) (pn pins : List (Addr × Obj)) (σ : St) (H : Hp) (s : Shared) (cls : Value) (b : Bool) (Q : Bool → Shared → Prop) (E : Value → Shared → Prop), Inv (X.suiteE a pn) pins σ H s →
  PySem.W.Looks (model X.prog X.w) s.heap (typeOf (.ref a)) cls → PySem.W.exmAny X.K cls cs = some b → (∀ h' : Heap, (∀ q o, s.heap.get? q = some o → h'.get? q = some o) → Q b { s with heap := h' }) →
  wpAny (model X.prog X.w) (X.A.mark (some (.ref a))) (eval te X.env) (fun c s1 => wpAny (model X.prog X.w) (X.A.mark (some (.ref a))) (excMatches (.ref a) c) Q E s1) E s
theorem ld_names {X : Cx} {x : Str} {c : Value} {np : Pos} (hc : Names X x c) {a : Addr} {pn pins : List (Addr × Obj)} {σ : St} {H : Hp} {s : Shared} {Q : Value → Shared → Prop} {E : Value → Shared → Prop} (I : Inv (X.suiteE a pn) pins σ H s) (q : Q c s) :
    wpAny (model X.prog X.w) (X.A.mark (some (.ref a))) (eval (.Name x np) X.env) Q E s := by
  obtain ⟨hg, hdbg, hm | ⟨hm, hv, hnn⟩⟩ := hc
  · exact ld_glob (X := X.suiteE a pn) I hg hm q hdbg
  · exact ld_blt (X := X.suiteE a pn) I hg hm hv q hnn hdbg
theorem test1 {X : Cx} {x : Str} {c : Value} {np : Pos} (hc : Names X x c) : TestE X (.Name x np) [c] := fun a pn pins σ H s cls b Q E I LT hx q => by
  obtain ⟨b1, d1, x1, y1, z1⟩ := PySem.W.exmAny_cons hx
  have w : some false = some d1 := y1
  cases w
  subst z1
  rw [Bool.or_false] at q
  exact ld_names hc I ((PySem.W.exm_one I.kIn LT x1).here (q s.heap fun _ _ z => z))
/-- a clause: the classes, the name's slot, what the suite reads -/
structure HdW where
  cs : List Value
  slot : Option Nat
  ts : Addr → TS
def Ends.gone (D : Ends) (i : Nat) : Ends := { nx := fun σ' H' => D.nx (σ'.set i none) H', rt := D.rt, bk := fun σ' H' => D.bk (σ'.set i none) H', ct := fun σ' H' => D.ct (σ'.set i none) H' }
/-- what the clauses wish of an exception of the body, one after the other -/
def wHdE (K : PySem.W.Frag) (Wout : WX) (D : Ends) : List HdW → WX
  | [] => Wout
  | h :: r => fun cls d σ H => ∃ b C, PySem.W.exmAny K cls h.cs = some b ∧ cls = .ref C ∧ (b = true → ∀ a, H a = none → match h.slot with
      | none => h.ts a D σ (upd H a (L2.DL.ErrO a C d))
      | some i => h.ts a (D.gone i) (σ.set i (some (.ref a))) (upd H a (L2.DL.ErrO a C d))) ∧ (b = false → wHdE K Wout D r cls d σ H)
inductive HdsE (X : Cx) : List ExceptHandler → List HdW → Prop
  | nil : HdsE X [] []
  | plain {te : Expr} {cs : List Value} {ts : Addr → TS} {b₀ : Stmt} {suite : List Stmt} {pos' : Pos} {hds : List ExceptHandler} {l : List HdW} (ht : TestE X te cs)
      (hsu : ∀ (a : Addr) (pn : List (Addr × Obj)), PSs (X.suiteE a pn) (b₀ :: suite) (ts a)) (r : HdsE X hds l) : HdsE X (.ExceptHandler (some te) none (b₀ :: suite) pos' :: hds) (⟨cs, none, ts⟩ :: l)
  | named {te : Expr} {cs : List Value} {ts : Addr → TS} {b₀ : Stmt} {suite : List Stmt} {pos' : Pos} {hds : List ExceptHandler} {l : List HdW} {n : Str} {i : Nat} (ht : TestE X te cs) (hN : X.N.Nodup) (hi : X.N[i]? = some n) (hln : X.env.kindOf n = some .local)
      (hsu : ∀ (a : Addr) (pn : List (Addr × Obj)), PSs (X.suiteE a pn) (b₀ :: suite) (ts a)) (r : HdsE X hds l) : HdsE X (.ExceptHandler (some te) (some n) (b₀ :: suite) pos' :: hds) (⟨cs, some i, ts⟩ :: l)
section
variable {X : Cx} {body : List Stmt} {h₀ : ExceptHandler} {hds : List ExceptHandler} {l : List HdW} {pos : Pos} {tb : WX → TS} {Wout : WX}
theorem ps_tryE (hs : X.stack = X.env :: X.outer) (hf : X.env.frame = some X.env.locals) (tk : Takes X Wout)
    (hb : ∀ (W : WX) (pn : List (Addr × Obj)) (xe : Value → Shared → Prop), Takes (X.tr pn xe) W → PassesOwn (model X.prog X.w) X.A X.env xe → PSs (X.tr pn xe) body (tb W))
    (hh : HdsE X (h₀ :: hds) l) : PS X (.Try body (h₀ :: hds) [] [] pos) (fun D σ H => tb (wHdE X.K Wout D l) D σ H) := by
  refine ⟨fun pins s σ H D I h => ?_⟩
  have ok := I.ok
  have hfr : X.A.frames = some (X.env :: X.outer) := by rw [ok.frames, hs]
  refine wpAny_Try_except ?_
  refine wpAny_mono ((hb (wHdE X.K Wout D l) (X.pn ++ pins) (fun e s₁ => wpAny (model X.prog X.w) X.A (noteFrame e X.env) (fun _ s₂ => wpAny (model X.prog X.w) X.A (setFlight e none) (fun _ s₃ =>
    wpAny (model X.prog X.w) X.A (handleBy e X.env (h₀ :: hds)) (SP X pins D) X.xe s₃) X.xe s₂) X.xe s₁) (fun u s' xx => ?_) PassesOwn.looking).run [] s σ H D (I.toTry _) h) (fun f s1 hsp => ?_) (fun e s1 he => he)
  · -- the catch
    obtain ⟨a, B, sI, pins', σ', H', cls, d, rfl, J', nb, up, sky, na, os, ag, w⟩ := xx
    have J : Inv X pins σ' H' sI := J'.ofTry ok
    have sky' : Sky B (X.env :: X.outer) a (Zc cls d) X.env.locals s'.heap := by rw [← hs]; exact sky
    show wpAny (model X.prog X.w) X.A (noteFrame (.ref a) X.env) _ _ _
    refine Sky.land Zc.steady hfr hf sky' fun h3 fl3 up3 => ?_
    have notFr : ∀ {h : Heap} {o : Obj} {vs : Array Value}, h.FunFrames B (X.env :: X.outer) → h.get? a = some o → o.data = .fields vs → a ∉ frs (X.env :: X.outer) := fun {h o vs} ff e dd hm => by
      obtain ⟨_, o', e', hnf⟩ := ff.mem hm
      rw [e] at e'; cases e'
      exact hnf _ dd
    have nfS : a ∉ frs X.stack := by
      obtain ⟨oe3, vs3, he3, hz3, hd3⟩ := fl3.there
      rw [hs]
      exact notFr fl3.2.2.1 he3 hd3
    have nB : B.get? a = none := fl3.2.1
    have go : ∀ {hds' : List ExceptHandler} {l' : List HdW}, HdsE X hds' l' → wHdE X.K Wout D l' cls d σ' H' → ∀ h5 : Heap, HandSPX.FlyingZ B (X.env :: X.outer) a (Zc cls d) h5 → sI.heap.UpToSlots h5 →
        wpAny (model X.prog X.w) X.A (handleBy (.ref a) X.env hds') (SP X pins D) X.xe { s' with heap := h5 } := by
      intro hds' l' hk
      induction hk with
      | nil =>
        intro w h5 fl5 up5
        refine wpAny_handleBy_nil ?_
        obtain ⟨k1, k2, k3, oe, vs, T, oT, ts', he, hz, hd, h1, hr⟩ := id fl5
        unfold PySem.passOn
        refine wpAny_bind (wpAny_field he hd h1 ?_)
        rw [if_neg (show ¬ ((Value.ref T == Value.none) = true) from by simp)]
        have fin : wpAny (model X.prog X.w) X.A (setFlight (.ref a) X.env.frame) (fun _ s4 => wpAny (model X.prog X.w) X.A (throw (.ref a) : Sem Flow) (SP X pins D) X.xe s4) X.xe { s' with heap := h5 } := by
          rw [hf]
          refine HandSPX.setFlight_upZ fl5 fun h4 hh4 up4 => wpAny_throw (tk _ _ ?_)
          exact ⟨a, B, sI, pins, σ', H', cls, d, rfl, J, nb, up5.trans up4, .inr (.inr (by rw [hs]; exact hh4)), na, os, ag, w⟩
        first
          | exact wpAny_bind (wpAny_pure (wpAny_bind fin))
          | exact wpAny_bind fin
      | @plain te cs ts b₀ suite pos' hds2 l2 ht hsu r ih =>
        intro w h5 fl5 up5
        obtain ⟨b, C, hb1, ec, hyes, hno⟩ := w
        obtain ⟨oe5, vs5, he5, hz5, hd5⟩ := fl5.there
        have J5 : Inv X pins σ' (upd H' a (L2.DL.ErrO a C d)) { s' with heap := h5 } := J.landedE nb fl5.1 up5 os ag na nB nfS he5 (by rw [hz5.1, ec]) hz5.2 hd5
        refine wpAny_handleBy_cons (codeAny_handlers_test ?_) (by intro q; cases q)
        have LT : PySem.W.Looks (model X.prog X.w) h5 (typeOf (.ref a)) cls := fun A Q E s k q => wpAny_typeOf_ref (k _ _ he5) (by rw [hz5.1]; exact q)
        refine ht a (X.pn ++ pins) [] σ' _ { s' with heap := h5 } cls b _ _ (J5.suiteE a) LT hb1 fun h6 k6 => ?_
        have fl6 := flyZ_keeps fl5 k6
        have up6 : sI.heap.UpToSlots h6 := up5.trans (Heap.UpToSlots.of_keeps k6)
        cases b with
        | true =>
          refine codeAny_handlers_suite ?_
          refine HandSPX.lands_againZ fl6 fun h4 fl4 up4 => ?_
          obtain ⟨oe4, vs4, he4, hz4, hd4⟩ := fl4.there
          have J4 : Inv X pins σ' (upd H' a (L2.DL.ErrO a C d)) { s' with heap := h4 } := J.landedE nb fl4.1 (up6.trans up4) os ag na nB nfS he4 (by rw [hz4.1, ec]) hz4.2 hd4
          refine wpAny_mono ((hsu a (X.pn ++ pins)).run [] _ _ _ _ (J4.suiteE a) (hyes rfl a na)) (fun f s6 hsp => ?_) (fun _ _ z => False.elim z)
          cases f with
          | next =>
            obtain ⟨σ6, H6, S6, q6⟩ := hsp
            exact ⟨_, _, S6.unsuiteE ok, q6⟩
          | brk =>
            obtain ⟨σ6, H6, S6, q6⟩ := hsp
            exact ⟨_, _, S6.unsuiteE ok, q6⟩
          | cont =>
            obtain ⟨σ6, H6, S6, q6⟩ := hsp
            exact ⟨_, _, S6.unsuiteE ok, q6⟩
          | ret u =>
            obtain ⟨v6, σ6, H6, S6, r6, q6⟩ := hsp
            exact ⟨_, _, _, S6.unsuiteE ok, r6, q6⟩
        | false =>
          show wpAny _ X.A (handleBy (.ref a) X.env hds2) _ _ _
          exact ih (hno rfl) h6 fl6 up6
      | @named te cs ts b₀ suite pos' hds2 l2 n i ht hN hi hln hsu r ih =>
        intro w h5 fl5 up5
        obtain ⟨b, C, hb1, ec, hyes, hno⟩ := w
        obtain ⟨oe5, vs5, he5, hz5, hd5⟩ := fl5.there
        have J5 : Inv X pins σ' (upd H' a (L2.DL.ErrO a C d)) { s' with heap := h5 } := J.landedE nb fl5.1 up5 os ag na nB nfS he5 (by rw [hz5.1, ec]) hz5.2 hd5
        refine wpAny_handleBy_cons (codeAny_handlers_test ?_) (by intro q; cases q)
        have LT : PySem.W.Looks (model X.prog X.w) h5 (typeOf (.ref a)) cls := fun A Q E s k q => wpAny_typeOf_ref (k _ _ he5) (by rw [hz5.1]; exact q)
        refine ht a (X.pn ++ pins) [] σ' _ { s' with heap := h5 } cls b _ _ (J5.suiteE a) LT hb1 fun h6 k6 => ?_
        have fl6 := flyZ_keeps fl5 k6
        have up6 : sI.heap.UpToSlots h6 := up5.trans (Heap.UpToSlots.of_keeps k6)
        cases b with
        | true =>
          refine codeAny_handlers_suite_as ?_
          refine HandSPX.lands_againZ fl6 fun h4 fl4 up4 => ?_
          obtain ⟨oe4, vs4, he4, hz4, hd4⟩ := fl4.there
          have J4 : Inv X pins σ' (upd H' a (L2.DL.ErrO a C d)) { s' with heap := h4 } := J.landedE nb fl4.1 (up6.trans up4) os ag na nB nfS he4 (by rw [hz4.1, ec]) hz4.2 hd4
          refine store_ok (X := X.suiteE a (X.pn ++ pins)) (v := .ref a) (J4.suiteE a) hN hi (.inl hln) rfl (fun s5 S5 => ?_) (.inr hln)
          refine wpAny_mono ((hsu a (X.pn ++ pins)).run [] s5 _ _ _ S5 (hyes rfl a na)) (fun f s6 hsp => ?_) (fun _ _ z => False.elim z)
          have end_ : ∀ {σ6 : St} {H6 : Hp} {Q : Shared → Prop}, Inv (X.suiteE a (X.pn ++ pins)) [] σ6 H6 s6 → (∀ s7, Inv X pins (σ6.set i none) H6 s7 → Q s7) →
              wpAny (model X.prog X.w) X.A (do bindName X.env n .none; unbindBehindTheSuite X.env n pos') (fun _ s7 => Q s7) X.xe s6 := fun {σ6 H6 Q} S6 hq => gone_ok (S6.unsuiteE ok) hN hi hln hq
          cases f with
          | next =>
            obtain ⟨σ6, H6, S6, q6⟩ := hsp
            exact end_ S6 fun s7 J7 => ⟨_, _, J7, q6⟩
          | brk =>
            obtain ⟨σ6, H6, S6, q6⟩ := hsp
            exact end_ S6 fun s7 J7 => ⟨_, _, J7, q6⟩
          | cont =>
            obtain ⟨σ6, H6, S6, q6⟩ := hsp
            exact end_ S6 fun s7 J7 => ⟨_, _, J7, q6⟩
          | ret u =>
            obtain ⟨v6, σ6, H6, S6, r6, q6⟩ := hsp
            exact end_ S6 fun s7 J7 => ⟨_, _, _, J7, r6, q6⟩
        | false =>
          show wpAny _ X.A (handleBy (.ref a) X.env hds2) _ _ _
          exact ih (hno rfl) h6 fl6 up6
    exact go hh w h3 fl3 (up.trans up3)
  · cases f with
    | next =>
      obtain ⟨σ', H', J', q⟩ := hsp
      exact wpAny_execs_nil ⟨σ', H', J'.ofTry ok, q⟩
    | brk =>
      obtain ⟨σ', H', J', q⟩ := hsp
      exact ⟨σ', H', J'.ofTry ok, q⟩
    | cont =>
      obtain ⟨σ', H', J', q⟩ := hsp
      exact ⟨σ', H', J'.ofTry ok, q⟩
    | ret u =>
      obtain ⟨v, σ', H', J', r, q⟩ := hsp
      exact ⟨v, σ', H', J'.ofTry ok, r, q⟩
end
end L2

/-! X5: the program's exception classes by their names; isinstance of a tracked exception, its fields -/
namespace L2
open PySem PySem.Spec PyProof.Rows PySem.W
def upRight : List Str := ["InvalidText", "InvalidTie", "InvalidParting", "InvalidNumber", "InvalidName", "InvalidWish", "InvalidClaim", "InvalidPlace", "NotAWeb", "InvalidPlaces", "InvalidTies", "InvalidWishes", "InvalidChanges"]
def upThere : List Str := ["UnknownPlace", "UnknownName", "InUse"]
def upCannot : List Str := ["HasRing", "NotMet", "TooMany", "NothingToUndo", "Broken"]
/-- the classes above an exception class of the program, by their names -/
def errUp (n : Str) : List Str := if upRight.contains n then ["NotRight", "ValueError"] else if upThere.contains n then ["NotThere", "LookupError"] else if upCannot.contains n then ["CannotBe", "ArithmeticError"] else []
/-- whether the class n is m or below it -/
def isE (n m : Str) : Bool := n == m || (errUp n).contains m
/-- what the class at C must say, so that its instances are asked rightly -/
structure ErrC (K : Frag) (C : Addr) : Prop where
  cl : (clsIn K C).isSome = true
  hd : hasDictIn K C = true
  ga : findIn K (.ref C) "__getattribute__" = some (some (.builtin "BaseException.__getattribute__"))
  gg : findIn K (.ref C) "__getattr__" = some none
  sB : subIn K (.ref C) (.type "BaseException") = some true
  ha : findIn K (.ref C) "__class__" = some (some (.builtin "object.__class__"))
  hn : specialIn K (.builtin "object.__class__") "__get__" = some (some (.builtin "getset_descriptor.__get__"))
  ht : takesIn K (.builtin "object.__class__") = some true
  hm : mroIn K C (.type "object") = some true
def errCB (K : Frag) (C : Addr) : Bool := (clsIn K C).isSome && (hasDictIn K C && (decide (findIn K (.ref C) "__getattribute__" = some (some (.builtin "BaseException.__getattribute__"))) && (decide (findIn K (.ref C) "__getattr__" = some none) &&
  (decide (subIn K (.ref C) (.type "BaseException") = some true) && (decide (findIn K (.ref C) "__class__" = some (some (.builtin "object.__class__"))) && (decide (specialIn K (.builtin "object.__class__") "__get__" = some (some (.builtin "getset_descriptor.__get__"))) &&
  (decide (takesIn K (.builtin "object.__class__") = some true) && decide (mroIn K C (.type "object") = some true))))))))
theorem errC_of {K : Frag} {C : Addr} (h : errCB K C = true) : ErrC K C := by
  unfold errCB at h
  simp only [Bool.and_eq_true, decide_eq_true_eq] at h
  obtain ⟨h1, h2, h3, h4, h5, h6, h7, h8, h9⟩ := h
  exact ⟨h1, h2, h3, h4, h5, h6, h7, h8, h9⟩
/-- the own classes ms and built-in ones bs that an instance of n is asked about; its fields fs -/
structure ErrN (K : Frag) (n : Str) (ms : List Str) (bs : List String) (fs : List Str) (C : Addr) : Prop where
  at_ : nsIn K mainGlobals n = some (some (.ref C))
  c : ErrC K C
  own : ∀ m ∈ ms, ∃ D, nsIn K mainGlobals m = some (some (.ref D)) ∧ kitOne K (.ref C) (.ref D) = some (isE n m) ∧ exmOne K (.ref C) (.ref D) = some (isE n m)
  bi : ∀ b ∈ bs, kitOne K (.ref C) (.type b) = some (isE n b)
  fl : ∀ f ∈ fs, findIn K (.ref C) f = some none
def errNB (K : Frag) (n : Str) (ms : List Str) (bs : List String) (fs : List Str) : Bool := match nsIn K mainGlobals n with
  | some (some (.ref C)) => errCB K C && (ms.all (fun m => match nsIn K mainGlobals m with
      | some (some (.ref D)) => decide (kitOne K (.ref C) (.ref D) = some (isE n m)) && decide (exmOne K (.ref C) (.ref D) = some (isE n m))
      | _ => false) && (bs.all (fun b => decide (kitOne K (.ref C) (.type b) = some (isE n b))) && fs.all fun f => decide (findIn K (.ref C) f = some none)))
  | _ => false
theorem errN_of {K : Frag} {n : Str} {ms : List Str} {bs : List String} {fs : List Str} (h : errNB K n ms bs fs = true) : ∃ C, ErrN K n ms bs fs C := by
  unfold errNB at h
  split at h
  · rename_i C e
    rw [Bool.and_eq_true, Bool.and_eq_true, Bool.and_eq_true] at h
    obtain ⟨h1, h2, h3, h4⟩ := h
    refine ⟨C, e, errC_of h1, fun m hm => ?_, fun b hb => of_decide_eq_true (List.all_eq_true.mp h3 b hb), fun f hf => of_decide_eq_true (List.all_eq_true.mp h4 f hf)⟩
    have z := List.all_eq_true.mp h2 m hm
    split at z
    · rename_i D e'
      rw [Bool.and_eq_true] at z
      exact ⟨D, e', of_decide_eq_true z.1, of_decide_eq_true z.2⟩
    · cases z
  · cases h
section
variable {X : Cx} {pins : List (Addr × Obj)} {σ : St} {H : Hp} {s : Shared} {a C : Addr} {d : Option Addr}
/-- the caught exception as an instance -/
theorem err_inst (hok : HOk X.prog X.w H s.heap) (e : H a = some (L2.DL.ErrO a C d)) (hd : ∀ dx, d = some dx → ∃ l, H dx = some (.xd l)) : ∃ ox od, InstAt s.heap a ox C od ∧ (d = none → od = none) ∧ ∀ dx, d = some dx → ∃ ob, s.heap.get? dx = some ob ∧ od = some ob := by
  obtain ⟨⟨oe, vs, he, h1, h2, h3⟩, _⟩ := (show ObjOk X.prog X.w H s.heap a (.ext fun h => ∃ (oe : Obj) (vs : Array Value), h.get? a = some oe ∧ oe.cls = .ref C ∧ oe.dict = d ∧ oe.data = .fields vs) from hok a _ e)
  have nc : notCls oe = true := by unfold notCls; rw [h3] <;> rfl
  cases d with
  | none => exact ⟨oe, none, ⟨he, h1, nc, by rw [h2]; trivial⟩, fun _ => rfl, (fun dx z => by cases z)⟩
  | some dx =>
    obtain ⟨l, hl⟩ := hd dx rfl
    obtain ⟨mA, hns, _⟩ := (show ObjOk X.prog X.w H s.heap dx (.xd l) from hok dx _ hl)
    obtain ⟨ob, es, ep, ho, _⟩ := hns
    exact ⟨oe, some ob, ⟨he, h1, nc, by rw [h2]; exact ho⟩, (fun z => by cases z), fun dx' z => ⟨ob, by rw [← Option.some.inj z]; exact ho, rfl⟩⟩
end
end L2

/-! X10: own exceptions made as values, by position and by name, with none, one or two fields -/
namespace PySem
namespace ErrX
open PySem.W PySem.Calls PyProof.Rows PySem.HandSPX Builtin Builtin.ObjectAttr PySem.Spec
/-- a made exception whose dict holds m -/
structure OwnMadeM (h h' : Heap) (e C d : Addr) (m : Str → Option Value) : Prop where
  keep : ∀ b o, h.get? b = some o → h'.get? b = some o
  new : h.objs.size ≤ e
  obj : ∃ oe vs, h'.get? e = some oe ∧ oe.cls = .ref C ∧ oe.dict = some d ∧ oe.data = .fields vs ∧ vs[1]? = some .none
  dbig : h.objs.size ≤ d
  dne : d ≠ e
  ns : h'.Ns1 d m
section
variable {prog : Program} {w : World} {A : Around} {E : Value → Shared → Prop} {R : Result → Shared → Prop} {s : Shared} {K : Frag} {C fI : Addr} {B newId initId : String} {bmB : List Value} {m : Str → Option Value} {rest : List Value} {kw : List (Str × Value)}
theorem err_madeM (FB : BaseF B newId initId bmB) (T : ClsE K C B newId bmB) (hii : findIn K (.ref C) "__init__" = some (some (.ref fI))) (htI : typeIn K (.ref fI) = some (.type "function")) (hsz : rest.length ≤ sizeLine) (X : K.In s.heap)
    (hinit : ∀ (R' : Result → Shared → Prop) (s' : Shared) (x t0 : Addr), K.In s'.heap → (∀ b o, s.heap.get? b = some o → s'.heap.get? b = some o) → s'.heap.get? x = some (excO C t0) → K.lookup x = none → (∀ h' tk dx t1, InitEndM s'.heap h' x C dx t1 m → R' (.ok (.ret .none)) { s' with heap := h', toks := tk }) →
      codeAny (model prog w) (A.under (.builtin "type.__call__" ⟨.ref C :: rest, kw⟩)) (.call (.ref fI) ⟨.ref x :: rest, kw⟩) R' s')
    (hq : ∀ h' tk e d, OwnMadeM s.heap h' e C d m → R (.ok (.ret (.ref e))) { s with heap := h', toks := tk }) :
    codeAny (model prog w) A (.call (.ref C) ⟨rest, kw⟩) R s := by
  obtain ⟨nm, N', qn, bs, bm, hdct, sn, sub, ab, col, dd, k0, k1, k2, k3, k5, hC, hT⟩ := excInit_of X T.exi
  obtain ⟨hp, gs, dr, tk, os⟩ := s
  have k : ∀ b o, hp.get? b = some o → ((hp.push (kdv_tup rest)).push (excO C hp.objs.size)).get? b = some o := fun b o e => Heap.get?_push_of_some _ (Heap.get?_push_of_some _ e)
  have hget : ((hp.push (kdv_tup rest)).push (excO C hp.objs.size)).get? (hp.objs.size + 1) = some (excO C hp.objs.size) := by heap_get
  have hnx : K.lookup (hp.objs.size + 1) = none := by
    cases e : K.lookup (hp.objs.size + 1) with
    | none => rfl
    | some o =>
      have z : hp.get? (hp.objs.size + 1) = some o := X _ _ e
      exact absurd (Nat.lt_of_succ_lt (Heap.lt_size z)) (Nat.lt_irrefl _)
  refine call_ownK FB.base hT hC (looks_findIn X hii) (fun self => bind_fn X self htI) hsz ?_
  refine hinit _ ⟨(hp.push (kdv_tup rest)).push (excO C hp.objs.size), gs, dr, tk, os⟩ (hp.objs.size + 1) hp.objs.size (X.keeps k) k hget hnx fun h' tk' dx t1 ⟨k', hx, dn, dne, hns⟩ => ?_
  have old : ∀ b o, hp.get? b = some o → h'.get? b = some o := fun b o e => k' b o (Nat.ne_of_lt (Nat.lt_succ_of_lt (Heap.lt_size e))) (k b o e)
  have z : hp.objs.size + 1 + 1 ≤ dx := by
    first
      | (simpa only [Heap.size_push] using dn)
      | exact dn
      | (have q := dn; rw [Heap.size_push, Heap.size_push] at q; exact q)
  exact ⟨rfl, hq h' tk' (hp.objs.size + 1) dx ⟨old, Nat.le_succ _, ⟨_, _, hx, rfl, rfl, rfl, rfl⟩, Nat.le_trans (Nat.le_trans (Nat.le_succ _) (Nat.le_succ _)) z, dne, hns⟩⟩
variable {mg mb : Str → Option Value}
theorem ns_keeps {h h' : Heap} (k : ∀ b o, h.get? b = some o → h'.get? b = some o) {b : Addr} {m : Str → Option Value} : h.Ns b m → h'.Ns b m := fun ⟨o, es, ep, e, r⟩ => ⟨o, es, ep, k _ _ e, r⟩
/-- one field, the arguments in any form -/
theorem err_made1 {g : Str} {v : Value} (FB : BaseF B newId initId bmB) (T : ClsE K C B newId bmB) (I : InitE prog K C fI initId g) (hsz : rest.length ≤ sizeLine) (X : K.In s.heap) (hG : s.heap.Ns mainGlobals mg) (hb : s.heap.Ns builtinsNs mb) (hbb : ∀ x : Str, x ≠ "__name__" → mb x = bootBuiltins x) (hlim : s.heap.NoLimit)
    (hroom : A.depth + 1 < recursionLimit)
    (hbd : ∀ (qual : Str) (p1 p2 r0 r1 r2 r3 r4 q1 q2 q3 q4 : Pos) (kV doc pm : Value) (an : Option Addr) (cda ct : Value) (cc x : Addr), bindArgs (ksFn "__init__" qual (iA g p1 p2) (iB g r0 r1 r2 r3 r4 q1 q2 q3 q4) (iS g) .none kV doc pm an cda ct cc) ⟨.ref x :: rest, kw⟩ = pure [(("self" : Str), .ref x), (g, v)])
    (hq : ∀ h' tk e d, OwnMadeM s.heap h' e C d (fun y => if y = g then some v else none) → R (.ok (.ret (.ref e))) { s with heap := h', toks := tk }) :
    codeAny (model prog w) A (.call (.ref C) ⟨rest, kw⟩) R s :=
  err_madeM FB T I.ii I.tI hsz X (fun R' s' x t0 X' k hx hnx h => init_oneA FB T I (fun a b c d e f g h i j k l m n o p q r u => hbd a b c d e f g h i j k l m n o p q r u x) X' (ns_keeps k hG) (ns_keeps k hb) hbb (hlim.keeps k) hx hnx (by show A.depth + 1 < recursionLimit; exact hroom)
    fun h' tk dx t1 ⟨a, b, c, d, e⟩ => h h' tk dx t1 ⟨a, b, c, d, e⟩) hq
/-- two fields -/
theorem err_made2 {v v2 : Value} (FB : BaseF B newId initId bmB) (T : ClsE K C B newId bmB) (I : InitE2 prog K C fI initId) (hsz : rest.length ≤ sizeLine) (X : K.In s.heap) (hG : s.heap.Ns mainGlobals mg) (hb : s.heap.Ns builtinsNs mb) (hbb : ∀ x : Str, x ≠ "__name__" → mb x = bootBuiltins x) (hlim : s.heap.NoLimit)
    (hroom : A.depth + 1 < recursionLimit)
    (hbd : ∀ (qual : Str) (p1 p2 p3 r0 r1 r2 r3 r4 q1 q2 q3 q4 u1 u2 u3 u4 : Pos) (kV doc pm : Value) (an : Option Addr) (cda ct : Value) (cc x : Addr), bindArgs (ksFn "__init__" qual (iA2 p1 p2 p3) (iB2 r0 r1 r2 r3 r4 q1 q2 q3 q4 u1 u2 u3 u4) iS2 .none kV doc pm an cda ct cc) ⟨.ref x :: rest, kw⟩ = pure [(("self" : Str), .ref x), ("index", v), ("shown", v2)])
    (hq : ∀ h' tk e d, OwnMadeM s.heap h' e C d (fun y => if y = "shown" then some v2 else if y = "index" then some v else none) → R (.ok (.ret (.ref e))) { s with heap := h', toks := tk }) :
    codeAny (model prog w) A (.call (.ref C) ⟨rest, kw⟩) R s :=
  err_madeM FB T I.ii I.tI hsz X (fun R' s' x t0 X' k hx hnx h => init_two FB T I (fun a b c d e f g h i j k l m n o p q r u v' w' y z z' => hbd a b c d e f g h i j k l m n o p q r u v' w' y z z' x) X' (ns_keeps k hG) (ns_keeps k hb) hbb (hlim.keeps k) hx hnx (by show A.depth + 1 < recursionLimit; exact hroom) h) hq
end
/-- a field given by its name -/
structure FieldK (g : Str) : Prop where
  bnd : ∀ (qual : Str) (p1 p2 r0 r1 r2 r3 r4 q1 q2 q3 q4 : Pos) (kV doc pm : Value) (an : Option Addr) (cda ct : Value) (cc : Addr) (u v : Value), bindArgs (ksFn "__init__" qual (iA g p1 p2) (iB g r0 r1 r2 r3 r4 q1 q2 q3 q4) (iS g) .none kV doc pm an cda ct cc) ⟨[u], [(g, v)]⟩ = pure [(("self" : Str), u), (g, v)]
theorem kfield_given : FieldK "given" := ⟨fun _ _ _ _ _ _ _ _ _ _ _ _ _ _ _ _ _ _ _ _ _ => rfl⟩
theorem kfield_index : FieldK "index" := ⟨fun _ _ _ _ _ _ _ _ _ _ _ _ _ _ _ _ _ _ _ _ _ => rfl⟩
theorem kfield_ring : FieldK "ring" := ⟨fun _ _ _ _ _ _ _ _ _ _ _ _ _ _ _ _ _ _ _ _ _ => rfl⟩
theorem kfield_pair : FieldK "pair" := ⟨fun _ _ _ _ _ _ _ _ _ _ _ _ _ _ _ _ _ _ _ _ _ => rfl⟩
theorem kfield_most : FieldK "most" := ⟨fun _ _ _ _ _ _ _ _ _ _ _ _ _ _ _ _ _ _ _ _ _ => rfl⟩
end ErrX
end PySem
namespace L2
open PySem PySem.Spec PyProof.Rows
section
variable {X : Cx} {C fI : Addr} {B newId initId : String} {bmB : List Value} {g n : Str}
/-- n(..) as a value: its dict at d, itself at e -/
def tMkV (C : Addr) (gs : List Str) (ta : TA) : TE := fun σ H Q => ta σ H fun vs H1 => vs.length = gs.length ∧ ∀ d e, H1 d = none → H1 e = none → d ≠ e → Q (.ref e) (upd (upd H1 d (.xd (gs.zip vs))) e (DL.ErrO e C (some d)))
theorem made_end {pins : List (Addr × Obj)} {σ : St} {H1 : Hp} {Q : VK} {s1 : Shared} {h' : Heap} {tk' : Nat} {e d : Addr} {m : Str → Option Value} {l : List (Str × V)} (I1 : Inv X pins σ H1 s1) (M : PySem.ErrX.OwnMadeM s1.heap h' e C d m) (hl : ∀ f, RelO (l.lookup f) (m f))
    (q : ∀ d e, H1 d = none → H1 e = none → d ≠ e → Q (.ref e) (upd (upd H1 d (.xd l)) e (DL.ErrO e C (some d)))) : EP X pins σ Q (.ref e) { s1 with heap := h', toks := tk' } := by
  obtain ⟨hp, gs, dr, tk, os⟩ := s1
  obtain ⟨oe, fv, hoe, hc, hd, hdat, h1⟩ := M.obj
  have hns := M.ns
  obtain ⟨G', g1, g2⟩ := restrict h' fun b => decide (b ≠ e)
  have gk : ∀ b, b ≠ e → G'.get? b = h'.get? b := fun b hb => g1 b (decide_eq_true hb)
  have ge : G'.get? e = none := g2 e (by simp)
  have old : ∀ b o, hp.get? b = some o → G'.get? b = some o := fun b o q => (gk b (Nat.ne_of_lt (Nat.lt_of_lt_of_le (Heap.lt_size q) M.new))).trans (M.keep b o q)
  have ob : ObjOk X.prog X.w (upd H1 d (.xd l)) G' d (.xd l) := ⟨_, hns.at (fun o q => (gk d M.dne).trans q), hl⟩
  have J : Inv X pins σ (upd H1 d (.xd l)) ⟨G', gs, dr, tk', os⟩ := I1.laid (t' := tk') old M.dbig ob
  have kk : ∀ b u, G'.get? b = some u → h'.get? b = some u := fun b u q => by
    by_cases hb : b = e
    · rw [hb, ge] at q; cases q
    · exact (gk b hb).symm.trans q
  have hne : upd H1 d (.xd l) e = none := by
    rw [upd_ne (Ne.symm M.dne)]
    exact I1.hok.fresh M.new
  have J2 : Inv X pins σ (upd (upd H1 d (.xd l)) e (DL.ErrO e C (some d))) ⟨h', gs, dr, tk', os⟩ := J.laidN (t' := tk') kk ge hne (errO_ok hoe hc hd hdat)
  exact ⟨.ref e, _, J2, rfl, q d e (I1.hok.fresh M.dbig) (I1.hok.fresh M.new) M.dne⟩
theorem made_mk {pins : List (Addr × Obj)} {σ : St} {H1 : Hp} {Q : XK} {s1 : Shared} {h' : Heap} {tk' : Nat} {e d : Addr} {m : Str → Option Value} {l : List (Str × V)} (T : PySem.ErrX.ClsE X.K C B newId bmB) (I1 : Inv X pins σ H1 s1) (M : PySem.ErrX.OwnMadeM s1.heap h' e C d m) (hl : ∀ f, RelO (l.lookup f) (m f))
    (q : ∀ d, H1 d = none → Q (.ref C) (some d) (upd H1 d (.xd l))) : MkP X pins σ Q (.ref e) { s1 with heap := h', toks := tk' } := by
  obtain ⟨hp, gs, dr, tk, os⟩ := s1
  obtain ⟨oe, fv, hoe, hc, hd, hdat, h1⟩ := M.obj
  have hns := M.ns
  obtain ⟨G', g1, g2⟩ := restrict h' fun b => decide (b ≠ e)
  have gk : ∀ b, b ≠ e → G'.get? b = h'.get? b := fun b hb => g1 b (decide_eq_true hb)
  have ge : G'.get? e = none := g2 e (by simp)
  have old : ∀ b o, hp.get? b = some o → G'.get? b = some o := fun b o q => (gk b (Nat.ne_of_lt (Nat.lt_of_lt_of_le (Heap.lt_size q) M.new))).trans (M.keep b o q)
  have ob : ObjOk X.prog X.w (upd H1 d (.xd l)) G' d (.xd l) := ⟨_, hns.at (fun o q => (gk d M.dne).trans q), hl⟩
  have J : Inv X pins σ (upd H1 d (.xd l)) ⟨G', gs, dr, tk', os⟩ := I1.laid (t' := tk') old M.dbig ob
  refine ⟨e, oe, fv, ⟨G', gs, dr, tk', os⟩, _, .ref C, some d, rfl, J, fun b o q => ?_, ge, hoe, ⟨hc, hd⟩, hdat, h1, ?_, rfl, I1.bare, raises_own T.sE T.tC, q d (I1.hok.fresh M.dbig)⟩
  · by_cases hb : b = e
    · have q' : G'.get? b = some o := q
      rw [hb, ge] at q'; cases q'
    · exact (gk b hb).symm.trans q
  · rw [upd_ne (Ne.symm M.dne)]
    exact I1.hok.fresh M.new
theorem relO_two {f1 f2 : Str} {v1 v2 : V} {u1 u2 : Value} (r1 : RelV v1 u1) (r2 : RelV v2 u2) (h : f1 ≠ f2) {m : Str → Option Value} (hm : ∀ y, m y = if y = f1 then some u1 else if y = f2 then some u2 else none) (f : Str) : RelO (List.lookup f [(f1, v1), (f2, v2)]) (m f) := by
  rw [hm]
  by_cases h1 : f = f1
  · subst h1
    rw [if_pos rfl]
    have q : List.lookup f [(f, v1), (f2, v2)] = some v1 := by simp [List.lookup]
    rw [q]
    exact r1
  · rw [if_neg h1]
    have q1 : (f == f1) = false := by simpa using h1
    have q : List.lookup f [(f1, v1), (f2, v2)] = List.lookup f [(f2, v2)] := by simp [List.lookup, q1]
    rw [q]
    exact relO_fld r2 f
section
variable {a b : Expr} {ta : TA} {p pos : Pos} {k : Nat}
theorem pe_mk1 (FB : PySem.ErrX.BaseF B newId initId bmB) (T : PySem.ErrX.ClsE X.K C B newId bmB) (In : PySem.ErrX.InitE X.prog X.K C fI initId g) (hm : X.mg n = some (.ref C)) (hr : Room k X.A) (ha : PA X [a] ta) (hg : Gl X n := by rfl) (hdb : (n == ("__debug__" : Str)) = false := by decide)
    (he : starEach (a :: []) X.env = (false, eval a X.env) :: starEach [] X.env := by rfl) (hpl : (backTo pos (starEach [] X.env)).any (·.1) = false := by rfl) :
    PE X (.Call (.Name n p) [a] [] pos) (tMkV C [g] ta) := by
  refine ⟨fun pins s σ H Q I h => wpAny_Call_Name_kw (ld_glob I hg hm (PySem.W.callWith_K (h₀ := X.base) I.ok.mod.kin T.kC (thn (ha.run pos pins s σ H _ I h) fun us s1 hh => ?_) he hpl) hdb)⟩
  obtain ⟨vs, H1, I1, r1, ev, q1⟩ := hh
  refine ⟨I1.kIn, ?_⟩
  match vs, us, r1, ev with
  | [v], [v'], .cons rv .nil, _ =>
    have hlim := I1.nolimit
    obtain ⟨mb, hb, hbb⟩ := I1.mod.blt
    have kp := I1.bk
    have nsK : ∀ {b : Addr} {m : Str → Option Value}, X.base.Ns b m → s1.heap.Ns b m := fun {b m} ⟨o, es, ep, e, r⟩ => ⟨o, es, ep, kp _ _ e, r⟩
    exact wpAny_call (PySem.ErrX.err_made1 (v := v') (mg := X.mg) (mb := mb) FB T In (PySem.ErrX.one_size v') I1.kIn (nsK I1.mod.glob) (nsK hb) hbb hlim (by have := hr.dp; omega) (fun _ _ _ _ _ _ _ _ _ _ _ _ _ _ _ _ _ _ _ _ => In.fld.bnd _ _ _ _ _ _ _ _ _ _ _ _ _ _ _ _ _ _ _ _ _) fun h' tk' e d M => made_end I1 M (fun f => relO_fld rv f) q1)
theorem pe_mk1K {kws : List Keyword} {tk : TA} (FB : PySem.ErrX.BaseF B newId initId bmB) (T : PySem.ErrX.ClsE X.K C B newId bmB) (In : PySem.ErrX.InitE X.prog X.K C fI initId g) (FK : PySem.ErrX.FieldK g) (hm : X.mg n = some (.ref C)) (hr : Room k X.A) (hkw : PK X kws tk) (hg : Gl X n := by rfl) (hdb : (n == ("__debug__" : Str)) = false := by decide)
    (hall : (backToKw pos (keywordEach kws X.env)).all (·.1.isSome) = true := by rfl) (hks : (backToKw pos (keywordEach kws X.env)).filterMap (·.1) = [g] := by rfl)
    (hpl : ((backTo pos (starEach [] X.env)).any (·.1) || (backToKw pos (keywordEach kws X.env)).any (·.1.isNone)) = false := by rfl) :
    PE X (.Call (.Name n p) [] kws pos) (tMkV C [g] tk) := by
  refine ⟨fun pins s σ H Q I h => wpAny_Call_Name_kw (ld_glob I hg hm (PySem.W.callWith_KW0 (h₀ := X.base) I.ok.mod.kin T.kC hall (thn (hkw.run pos pins s σ H _ I h) fun ws s1 hh => ?_) hpl) hdb)⟩
  obtain ⟨vs, H1, I1, r1, ev, q1⟩ := hh
  refine ⟨I1.kIn, ?_⟩
  rw [hks]
  match vs, ws, r1, ev with
  | [v], [v'], .cons rv .nil, _ =>
    have hlim := I1.nolimit
    obtain ⟨mb, hb, hbb⟩ := I1.mod.blt
    have kp := I1.bk
    have nsK : ∀ {b : Addr} {m : Str → Option Value}, X.base.Ns b m → s1.heap.Ns b m := fun {b m} ⟨o, es, ep, e, r⟩ => ⟨o, es, ep, kp _ _ e, r⟩
    exact wpAny_call (PySem.ErrX.err_made1 (v := v') (mg := X.mg) (mb := mb) FB T In (Nat.zero_le _) I1.kIn (nsK I1.mod.glob) (nsK hb) hbb hlim (by have := hr.dp; omega) (fun _ _ _ _ _ _ _ _ _ _ _ _ _ _ _ _ _ _ _ _ => FK.bnd _ _ _ _ _ _ _ _ _ _ _ _ _ _ _ _ _ _ _ _ _) fun h' tk' e d M => made_end I1 M (fun f => relO_fld rv f) q1)
theorem pe_mk2 (FB : PySem.ErrX.BaseF B newId initId bmB) (T : PySem.ErrX.ClsE X.K C B newId bmB) (In : PySem.ErrX.InitE2 X.prog X.K C fI initId) (hm : X.mg n = some (.ref C)) (hr : Room k X.A) (ha : PA X [a, b] ta) (hg : Gl X n := by rfl) (hdb : (n == ("__debug__" : Str)) = false := by decide)
    (he : starEach [a, b] X.env = (false, eval a X.env) :: starEach [b] X.env := by rfl) (hpl : (backTo pos (starEach [b] X.env)).any (·.1) = false := by rfl) :
    PE X (.Call (.Name n p) [a, b] [] pos) (tMkV C ["index", "shown"] ta) := by
  refine ⟨fun pins s σ H Q I h => wpAny_Call_Name_kw (ld_glob I hg hm (PySem.W.callWith_K (h₀ := X.base) I.ok.mod.kin T.kC (thn (ha.run pos pins s σ H _ I h) fun us s1 hh => ?_) he hpl) hdb)⟩
  obtain ⟨vs, H1, I1, r1, ev, q1⟩ := hh
  refine ⟨I1.kIn, ?_⟩
  match vs, us, r1, ev with
  | [v, v2], [v', v2'], .cons rv (.cons rv2 .nil), _ =>
    have hlim := I1.nolimit
    obtain ⟨mb, hb, hbb⟩ := I1.mod.blt
    have kp := I1.bk
    have nsK : ∀ {b : Addr} {m : Str → Option Value}, X.base.Ns b m → s1.heap.Ns b m := fun {b m} ⟨o, es, ep, e, r⟩ => ⟨o, es, ep, kp _ _ e, r⟩
    exact wpAny_call (PySem.ErrX.err_made2 (v := v') (v2 := v2') (mg := X.mg) (mb := mb) FB T In (by rw [sizeLine_eq]; exact (by decide : 2 ≤ 16777216)) I1.kIn (nsK I1.mod.glob) (nsK hb) hbb hlim (by have := hr.dp; omega) (fun _ _ _ _ _ _ _ _ _ _ _ _ _ _ _ _ _ _ _ _ _ _ _ _ _ => rfl)
      fun h' tk' e d M => made_end I1 M (relO_two rv rv2 (by decide) (fun y => by
        by_cases h1 : y = "index"
        · subst h1
          rw [if_neg (by decide), if_pos rfl, if_pos rfl]
        · rw [if_neg h1, if_neg h1])) q1)
theorem pe_mk2K {kws : List Keyword} {tk : TA} (FB : PySem.ErrX.BaseF B newId initId bmB) (T : PySem.ErrX.ClsE X.K C B newId bmB) (In : PySem.ErrX.InitE2 X.prog X.K C fI initId) (hm : X.mg n = some (.ref C)) (hr : Room k X.A) (hkw : PK X kws tk) (hg : Gl X n := by rfl) (hdb : (n == ("__debug__" : Str)) = false := by decide)
    (hall : (backToKw pos (keywordEach kws X.env)).all (·.1.isSome) = true := by rfl) (hks : (backToKw pos (keywordEach kws X.env)).filterMap (·.1) = (["shown", "index"] : List Str) := by rfl)
    (hpl : ((backTo pos (starEach [] X.env)).any (·.1) || (backToKw pos (keywordEach kws X.env)).any (·.1.isNone)) = false := by rfl) :
    PE X (.Call (.Name n p) [] kws pos) (tMkV C ["shown", "index"] tk) := by
  refine ⟨fun pins s σ H Q I h => wpAny_Call_Name_kw (ld_glob I hg hm (PySem.W.callWith_KW0 (h₀ := X.base) I.ok.mod.kin T.kC hall (thn (hkw.run pos pins s σ H _ I h) fun ws s1 hh => ?_) hpl) hdb)⟩
  obtain ⟨vs, H1, I1, r1, ev, q1⟩ := hh
  refine ⟨I1.kIn, ?_⟩
  rw [hks]
  match vs, ws, r1, ev with
  | [v2, v], [v2', v'], .cons rv2 (.cons rv .nil), _ =>
    have hlim := I1.nolimit
    obtain ⟨mb, hb, hbb⟩ := I1.mod.blt
    have kp := I1.bk
    have nsK : ∀ {b : Addr} {m : Str → Option Value}, X.base.Ns b m → s1.heap.Ns b m := fun {b m} ⟨o, es, ep, e, r⟩ => ⟨o, es, ep, kp _ _ e, r⟩
    exact wpAny_call (PySem.ErrX.err_made2 (v := v') (v2 := v2') (mg := X.mg) (mb := mb) FB T In (Nat.zero_le _) I1.kIn (nsK I1.mod.glob) (nsK hb) hbb hlim (by have := hr.dp; omega) (fun _ _ _ _ _ _ _ _ _ _ _ _ _ _ _ _ _ _ _ _ _ _ _ _ _ => rfl)
      fun h' tk' e d M => made_end I1 M (relO_two rv2 rv (by decide) (fun y => rfl)) q1)
/-- n(a, b), to be raised -/
theorem pmk_err2 (FB : PySem.ErrX.BaseF B newId initId bmB) (T : PySem.ErrX.ClsE X.K C B newId bmB) (In : PySem.ErrX.InitE2 X.prog X.K C fI initId) (hm : X.mg n = some (.ref C)) (hr : Room k X.A) (ha : PA X [a, b] ta) (hg : Gl X n := by rfl) (hdb : (n == ("__debug__" : Str)) = false := by decide)
    (he : starEach [a, b] X.env = (false, eval a X.env) :: starEach [b] X.env := by rfl) (hpl : (backTo pos (starEach [b] X.env)).any (·.1) = false := by rfl) :
    PMk X (.Call (.Name n p) [a, b] [] pos) (fun σ H Q => ta σ H fun vs H1 => vs.length = 2 ∧ ∀ d, H1 d = none → Q (.ref C) (some d) (upd H1 d (.xd ((["index", "shown"] : List Str).zip vs)))) := by
  intro pins s σ H Q I h
  refine wpAny_Call_Name_kw (ld_glob I hg hm (PySem.W.callWith_K (h₀ := X.base) I.ok.mod.kin T.kC (thn (ha.run pos pins s σ H _ I h) fun us s1 hh => ?_) he hpl) hdb)
  obtain ⟨vs, H1, I1, r1, ev, q1⟩ := hh
  refine ⟨I1.kIn, ?_⟩
  match vs, us, r1, ev with
  | [v, v2], [v', v2'], .cons rv (.cons rv2 .nil), _ =>
    have hlim := I1.nolimit
    obtain ⟨mb, hb, hbb⟩ := I1.mod.blt
    have kp := I1.bk
    have nsK : ∀ {b : Addr} {m : Str → Option Value}, X.base.Ns b m → s1.heap.Ns b m := fun {b m} ⟨o, es, ep, e, r⟩ => ⟨o, es, ep, kp _ _ e, r⟩
    exact wpAny_call (PySem.ErrX.err_made2 (v := v') (v2 := v2') (mg := X.mg) (mb := mb) FB T In (by rw [sizeLine_eq]; exact (by decide : 2 ≤ 16777216)) I1.kIn (nsK I1.mod.glob) (nsK hb) hbb hlim (by have := hr.dp; omega) (fun _ _ _ _ _ _ _ _ _ _ _ _ _ _ _ _ _ _ _ _ _ _ _ _ _ => rfl)
      fun h' tk' e d M => made_mk T I1 M (relO_two rv rv2 (by decide) (fun y => by
        by_cases h1 : y = "index"
        · subst h1
          rw [if_neg (by decide), if_pos rfl, if_pos rfl]
        · rw [if_neg h1, if_neg h1])) q1)
end
end
end L2

/-! X6: defs called within a suite that raise nothing; isinstance and fields of a tracked exception, as rules -/
namespace L2
open PySem PySem.Spec PyProof.Rows
/-- room, whatever is handled -/
structure RoomU (k : Nat) (A : Around) : Prop where
  dp : A.depth + 3 * k + 5 < recursionLimit
  un : A.units + 16 * k + 200 < cLine
theorem RoomU.mono {j k : Nat} {A : Around} (r : RoomU k A) (h : j ≤ k) : RoomU j A := ⟨by have := r.dp; omega, by have := r.un; omega⟩
theorem RoomU.deeper {k : Nat} {A : Around} (r : RoomU (k + 1) A) (env : Env) : RoomU k (A.deeper env) :=
  ⟨by have := r.dp; show A.depth + 1 + 3 * k + 5 < _; omega, by have := r.un; show A.units + 3 + 16 * k + 200 < _; omega⟩
theorem RoomU.depth {k : Nat} {A : Around} (r : RoomU k A) : A.depth < recursionLimit := by have := r.dp; omega
theorem roomU_of {k : Nat} {A : Around} (r : Room k A) : RoomU k A := ⟨r.dp, r.un⟩
theorem RoomU.mark {k : Nat} {A : Around} (r : RoomU k A) (v : Option Value) : RoomU k (A.mark v) := ⟨r.dp, r.un⟩
theorem RoomU.u65 {k : Nat} {A : Around} (r : RoomU k A) : A.units + 65 < cLine := by have := r.un; omega
theorem RoomU.u70 {k : Nat} {A : Around} (r : RoomU k A) : A.units + 70 < cLine := by have := r.un; omega
section
variable {P : Program} {w : World} {K : PySem.W.Frag} {mg : Str → Option Value} {base : Heap} {k : Nat} {f : Addr} {fd : FuncData} {ps : List Str} {sp : Sp}
end
section
variable {X : Cx} {k : Nat} {f : Addr} {fd : FuncData} {ps : List Str} {sp : Sp} {E : XK} {x : Str} {p pos : Pos} {e : Expr} {es : List Expr} {t : TA}
end
end L2

/-! DL57: isinstance of an exception, its fields, over data -/
namespace L2.DL
open PySem PySem.Spec PyProof.Rows
section
variable {X : Cx} {a : Expr} {wa : WE} {p p2 pos : Pos} {m : Str} {ns : List Str}
theorem err_at {S : SO} {H : Hp} {K : PySem.W.Frag} {b : Addr} {n : Str} {fs : List (Str × D)} (s : SRel K S H) (e : S b = some (.err n fs)) : ∃ C d, PySem.W.nsIn K mainGlobals n = some (some (.ref C)) ∧ H b = some (ErrO b C d) ∧ ErrF K S H d fs := s b _ e
theorem errF_xd {K : PySem.W.Frag} {S : SO} {H : Hp} {d : Option Addr} {fs : List (Str × D)} (h : ErrF K S H d fs) : ∀ dx, d = some dx → ∃ l, H dx = some (.xd l) := fun dx e => by
  subst e
  obtain ⟨l, _, h2, _⟩ := h
  exact ⟨l, h2⟩
/-- isinstance(e, m) of an exception -/
def wIsE (ns : List Str) (m : Str) (wa : WE) : WE := fun sd S Q => wa sd S fun d S1 => ∃ b n fs, d = .obj b ∧ S1 b = some (.err n fs) ∧ n ∈ ns ∧ Q (.bl (isE n m)) S1
def rIsErr (K : PySem.W.Frag) : List V → Hp → VK → Prop := fun xs H Q => ∃ (b C : Addr) (d : Option Addr) (c : V) (cv : Value) (k : Bool), xs = [.ref b, c] ∧ H b = some (ErrO b C d) ∧ (∀ dx, d = some dx → ∃ l, H dx = some (.xd l)) ∧ ErrC K C ∧ (∀ u, RelV c u → u = cv) ∧ PySem.W.kitOne K (.ref C) cv = some k ∧ Q (.bl k) H
theorem call_isErr : CallR X (.builtin "isinstance") (rIsErr X.K) := by
  intro pins s σ H xs us Q I r h
  obtain ⟨b, C, d, c, cv, k, rfl, hb, hx, hc, hcv, e, q⟩ := h
  cases r with
  | cons rx rr =>
    cases rr with
    | cons rt rr =>
      cases rr
      cases rx
      have ec := hcv _ rt
      subst ec
      obtain ⟨ox, od, J, _, _⟩ := err_inst I.hok hb hx
      exact PySem.W.kia_one (PySem.W.kitx_exc (gt := none) hc.cl hc.ga hc.gg hc.sB hc.ha hc.hn hc.ht hc.hm) I.kIn J e (fun z => nomatch z) fun tk => ⟨.bl k, H, I.kept (t' := tk) fun _ _ z => z, rfl, q⟩
theorem de_isE {D : Addr} {ms : List Str} {bs : List String} (hT : ∀ n ∈ ns, ∃ fs C, ErrN X.K n ms bs fs C) (hm : m ∈ ms) (hD : PySem.W.nsIn X.K mainGlobals m = some (some (.ref D))) (hmg : X.mg m = some (.ref D)) (he : DE X a wa) (hz : X.mg "isinstance" = none) (hv : bootBuiltins "isinstance" = some (.builtin "isinstance")) (hg : Gl X "isinstance" := by rfl) (hgm : Gl X m := by rfl) (hdb : (m == ("__debug__" : Str)) = false := by decide)
    (hs1 : starEach [a, .Name m p2] X.env = (false, eval a X.env) :: starEach [.Name m p2] X.env := by rfl) (hpl : (backTo pos (starEach [.Name m p2] X.env)).any (fun x => x.1) = false := by rfl) :
    DE X (.Call (.Name "isinstance" p) [a, .Name m p2] [] pos) (wIsE ns m wa) := by
  refine pe_imp (pe_callB (X := X) (pos := pos) (p := p) call_isErr hg hz hv (da_cons he (da_cons (de_gC hmg hgm hdb) da_nil) hs1) (by decide) (by decide) hs1 hpl) fun σ H Q ⟨sd, S, Q0, st, q, an⟩ => ?_
  refine ⟨sd, S, fun xs S1 => ∃ b n fs, xs = [.obj b, .obj D] ∧ S1 b = some (.err n fs) ∧ n ∈ ns ∧ Q0 (.bl (isE n m)) S1, st, ?_, ?_⟩
  · have ext : ∀ (w : WE) (Q1 Q2 : KD), True := fun _ _ _ => trivial
    show wa sd S _
    have e : (fun x S1 => (wCons (wC (.obj D)) wNil) sd S1 fun xs S2 => (fun xs S1 => ∃ b n fs, xs = [.obj b, .obj D] ∧ S1 b = some (.err n fs) ∧ n ∈ ns ∧ Q0 (.bl (isE n m)) S1) (x :: xs) S2) = (fun d S1 => ∃ b n fs, d = .obj b ∧ S1 b = some (.err n fs) ∧ n ∈ ns ∧ Q0 (.bl (isE n m)) S1) := by
      funext d S1
      refine propext ⟨fun ⟨b, n, fs, e1, r⟩ => ⟨b, n, fs, (List.cons.inj e1).1, r⟩, fun ⟨b, n, fs, e1, r⟩ => ⟨b, n, fs, by rw [e1], r⟩⟩
    show wa sd S (fun x S1 => (wCons (wC (.obj D)) wNil) sd S1 fun xs S2 => _)
    rw [e]
    exact q
  · rintro ds S' vs H' ⟨b, n, fs, rfl, hS, hn, q1⟩ nx s1 r1
    obtain ⟨v, r, rfl, rv, w, r2, rfl, rw', rn⟩ := r1
    have e0 : r2 = [] := rn
    subst e0
    have e1 : v = .ref b := rv
    have e2 : w = .ref D := rw'
    subst e1 e2
    obtain ⟨C, d, hC, hb, hF⟩ := err_at s1 hS
    obtain ⟨fsN, C', T⟩ := hT n hn
    have eC : C' = C := by
      have z := T.at_.symm.trans hC
      cases z
      rfl
    subst eC
    obtain ⟨D', hD', k1, _⟩ := T.own m hm
    have eD : D' = D := by
      have z := hD'.symm.trans hD
      cases z
      rfl
    subst eD
    exact ⟨b, C', d, .ref D', .ref D', isE n m, rfl, hb, errF_xd hF, T.c, fun u hu => hu, k1, an (.bl (isE n m)) S' _ _ q1 nx s1 rfl⟩
/-- .. of a built-in class -/
theorem de_isB {T0 : String} {ms : List Str} {bs : List String} (hT : ∀ n ∈ ns, ∃ fs C, ErrN X.K n ms bs fs C) (hm : T0 ∈ bs) (hmz : X.mg T0 = none) (hvm : bootBuiltins T0 = some (.type T0)) (he : DE X a wa) (hz : X.mg "isinstance" = none) (hv : bootBuiltins "isinstance" = some (.builtin "isinstance")) (hg : Gl X "isinstance" := by rfl) (hgm : Gl X T0 := by rfl) (hdb : ((T0 : Str) == ("__debug__" : Str)) = false := by decide) (hnn : (T0 : Str) ≠ "__name__" := by decide)
    (hs1 : starEach [a, .Name T0 p2] X.env = (false, eval a X.env) :: starEach [.Name T0 p2] X.env := by rfl) (hpl : (backTo pos (starEach [.Name T0 p2] X.env)).any (fun x => x.1) = false := by rfl) :
    DE X (.Call (.Name "isinstance" p) [a, .Name T0 p2] [] pos) (wIsE ns T0 wa) := by
  refine pe_imp (pe_callB (X := X) (pos := pos) (p := p) call_isErr hg hz hv (da_cons he (da_cons (de_bT hmz hvm hgm hnn hdb) da_nil) hs1) (by decide) (by decide) hs1 hpl) fun σ H Q ⟨sd, S, Q0, st, q, an⟩ => ?_
  refine ⟨sd, S, fun xs S1 => ∃ b n fs, xs = [.obj b, .ty T0] ∧ S1 b = some (.err n fs) ∧ n ∈ ns ∧ Q0 (.bl (isE n T0)) S1, st, ?_, ?_⟩
  · have e : (fun x S1 => (wCons (wC (.ty T0)) wNil) sd S1 fun xs S2 => (fun xs S1 => ∃ b n fs, xs = [.obj b, .ty T0] ∧ S1 b = some (.err n fs) ∧ n ∈ ns ∧ Q0 (.bl (isE n T0)) S1) (x :: xs) S2) = (fun d S1 => ∃ b n fs, d = .obj b ∧ S1 b = some (.err n fs) ∧ n ∈ ns ∧ Q0 (.bl (isE n T0)) S1) := by
      funext d S1
      refine propext ⟨fun ⟨b, n, fs, e1, r⟩ => ⟨b, n, fs, (List.cons.inj e1).1, r⟩, fun ⟨b, n, fs, e1, r⟩ => ⟨b, n, fs, by rw [e1], r⟩⟩
    show wa sd S (fun x S1 => (wCons (wC (.ty T0)) wNil) sd S1 fun xs S2 => _)
    rw [e]
    exact q
  · rintro ds S' vs H' ⟨b, n, fs, rfl, hS, hn, q1⟩ nx s1 r1
    obtain ⟨v, r, rfl, rv, w, r2, rfl, rw', rn⟩ := r1
    have e0 : r2 = [] := rn
    subst e0
    have e1 : v = .ref b := rv
    have e2 : w = .ty T0 := rw'
    subst e1 e2
    obtain ⟨C, d, hC, hb, hF⟩ := err_at s1 hS
    obtain ⟨fsN, C', T⟩ := hT n hn
    have eC : C' = C := by
      have z := T.at_.symm.trans hC
      cases z
      rfl
    subst eC
    exact ⟨b, C', d, .ty T0, .type T0, isE n T0, rfl, hb, errF_xd hF, T.c, fun u hu => hu, T.bi T0 hm, an (.bl (isE n T0)) S' _ _ q1 nx s1 rfl⟩
/-- e.f of an exception -/
def wFldE (ns : List Str) (f : Str) (wo : WE) : WE := fun sd S Q => wo sd S fun d S1 => ∃ b n fs v, d = .obj b ∧ S1 b = some (.err n fs) ∧ n ∈ ns ∧ fs.lookup f = some v ∧ Q v S1
theorem de_fldE {f : Str} {ms : List Str} {bs : List String} (hT : ∀ n ∈ ns, ∃ fs C, ErrN X.K n ms bs fs C ∧ f ∈ fs) (he : DE X a wa) (hb : attributeBase a f X.env (eval a X.env) = eval a X.env := by rfl) : DE X (.Attribute a f pos) (wFldE ns f wa) := by
  refine ⟨fun pins s σ H Q I ⟨sd, S, Q0, st, q, an⟩ => ?_⟩
  refine attr_of hb (thn (he.run pins s σ H (fun x H1 => ∃ b C d l v, x = .ref b ∧ H1 b = some (ErrO b C d) ∧ (∃ dx, d = some dx ∧ H1 dx = some (.xd l)) ∧ l.lookup f = some v ∧ ErrC X.K C ∧ PySem.W.findIn X.K (.ref C) f = some none ∧ Q v H1) I ⟨sd, S, _, st, q, ?_⟩) fun u s1 hh => ?_)
  · rintro d S1 v H1 ⟨b, n, fs, y, rfl, hS, hn, hl, q1⟩ n1 s1 r1
    have e1 : v = .ref b := r1
    subst e1
    obtain ⟨C, d, hC, hbo, hF⟩ := err_at s1 hS
    obtain ⟨fsN, C', T, hf⟩ := hT n hn
    have eC : C' = C := by
      have z := T.at_.symm.trans hC
      cases z
      rfl
    subst eC
    cases d with
    | none =>
      have z : fs = [] := hF
      subst z
      cases hl
    | some dx =>
      obtain ⟨l, h1, h2, h3⟩ := hF
      obtain ⟨vv, hv, rv⟩ := h3.look hl
      exact ⟨b, C', some dx, l, vv, rfl, hbo, ⟨dx, rfl, h2⟩, hv, T.c, T.fl f hf, an y S1 vv H1 q1 n1 s1 rv⟩
  · obtain ⟨x, H1, I1, rx, b, C, d, l, v, rfl, hbo, ⟨dx, rfl, hx⟩, hl, hc, hno, q1⟩ := hh
    obtain rfl : u = Value.ref b := rx
    obtain ⟨ox, od, J, _, h2⟩ := err_inst I1.hok hbo (fun dx' z => ⟨l, by rw [← Option.some.inj z]; exact hx⟩)
    obtain ⟨ob, hob, rfl⟩ := h2 dx rfl
    have hxk : ObjOk X.prog X.w H1 s1.heap dx (.xd l) := I1.hok dx _ hx
    obtain ⟨mA, hns, hr⟩ := hxk
    obtain ⟨od2, ho2, hlk⟩ := lookIn_ns hns
    have eo : od2 = ob := by
      rw [hob] at ho2
      cases ho2
      rfl
    subst eo
    obtain ⟨u, hu, ru⟩ := RelO.some_of (v := v) (o := mA f) (by rw [← hl]; exact hr f)
    exact HandSPX.exc_get I1.kIn J hc.ga hc.gg hc.sB (PySem.W.findObj_own hc.hd hno rfl (by rw [hlk, hu])) (handed_of ru) ⟨v, H1, I1.tok _, ru, q1⟩
end
end L2.DL

/-! DL58: readings with what is raised: expressions and statements that may raise; defs that may raise -/
namespace L2.DL
open PySem PySem.Spec PyProof.Rows
/-- what is wanted of an exception, with the frame's slots then -/
abbrev EX := SD → EK
def AnsW (K : PySem.W.Frag) (S : SO) (H : Hp) (X0 : EX) (W : WX) : Prop := ∀ n fs sd' S' σ' H' C d, X0 sd' n fs S' → Nx S H S' H' → Sta K sd' S' σ' H' → PySem.W.nsIn K mainGlobals n = some (some (.ref C)) → ErrF K S' H' d fs → W (.ref C) d σ' H'
theorem AnsW.nx {K : PySem.W.Frag} {S S' : SO} {H H' : Hp} {X0 : EX} {W : WX} (a : AnsW K S H X0 W) (x : Nx S H S' H') : AnsW K S' H' X0 W := fun n fs sd' S2 σ' H2 C d q y s hn hf => a n fs sd' S2 σ' H2 C d q (x.trans y) s hn hf
abbrev WEX := SD → SO → KD → EX → Prop
abbrev WSX := EndsD → EX → SD → SO → Prop
def liftSX (K : PySem.W.Frag) (W : WX) (w : WSX) : TS := fun E σ H => ∃ sd S E0 X0, Sta K sd S σ H ∧ w E0 X0 sd S ∧ AnsE K S H E0 E ∧ AnsW K S H X0 W
abbrev DSX (X : Cx) (W : WX) (st : Stmt) (w : WSX) : Prop := PS X st (liftSX X.K W w)
abbrev DSsX (X : Cx) (W : WX) (st : List Stmt) (w : WSX) : Prop := PSs X st (liftSX X.K W w)
theorem PS.nox {X : Cx} {st : Stmt} {t : TS} (h : PS X.nox st t) : PS X st t := ⟨fun pins s σ H D I hw =>
  wpAny_mono (h.run pins s σ H D (I.wish _) hw) (fun _ _ q => q.unwish) fun _ _ z => False.elim z⟩
def wNE (w : WE) : WEX := fun sd S Q _ => w sd S Q
def wNS (w : WS) : WSX := fun E _ sd S => w E sd S
section
variable {X : Cx} {W : WX} {e : Expr} {st : Stmt} {sts : List Stmt} {w : WE} {ws : WS} {wx : WEX} {wsx wtx : WSX} {pos : Pos}
def wSeqX (a b : WSX) : WSX := fun E X0 sd S => a { E with nx := b E X0 } X0 sd S
theorem dssx_one (h1 : DSX X W st wsx) : DSsX X W [st] wsx := pss_one h1
def wRetX (we : WEX) : WSX := fun E X0 sd S => we sd S E.rt X0
def wDropX (we : WEX) : WSX := fun E X0 sd S => we sd S (fun _ S1 => E.nx sd S1) X0
def wSetX (we : WEX) (i : Nat) : WSX := fun E X0 sd S => we sd S (fun d S1 => E.nx (sd.set i (some d)) S1) X0
def wIfSX (c : WT) (a b : WSX) : WSX := fun E X0 sd S => c sd S fun k S1 => if k = true then a E X0 sd S1 else b E X0 sd S1
def wIfX (t : WT) (wa wb : WEX) : WEX := fun sd S Q X0 => t sd S fun k S1 => if k = true then wa sd S1 Q X0 else wb sd S1 Q X0
/-- raise n(e) -/
def wRaise (n : Str) (g : Str) (t : WA) : WSX := fun _ X0 sd S => t sd S fun xs S1 => ∃ x, xs = [x] ∧ X0 sd n [(g, x)] S1
theorem dsx_raise {n g : Str} {C fI : Addr} {B newId initId : String} {bmB : List Value} {a : Expr} {ta : WA} {p p2 : Pos} {k : Nat} (hc : X.calm = true) (tk : Takes X W) (FB : PySem.ErrX.BaseF B newId initId bmB) (T : PySem.ErrX.ClsE X.K C B newId bmB) (In : PySem.ErrX.InitE X.prog X.K C fI initId g)
    (hC : PySem.W.nsIn X.K mainGlobals n = some (some (.ref C))) (hm : X.mg n = some (.ref C)) (hr : Room k X.A) (ha : DA X.nox [a] ta) (hg : Gl X n := by rfl) (hdb : (n == ("__debug__" : Str)) = false := by decide)
    (he : starEach (a :: []) X.env = (false, eval a X.env) :: starEach [] X.env := by rfl) (hpl : (backTo pos (starEach [] X.env)).any (·.1) = false := by rfl) : DSX X W (.Raise (some (.Call (.Name n p) [a] [] pos)) none p2) (wRaise n g ta) := by
  have ha' : PA X [a] (liftA X.K ta) := ⟨fun q pins s σ H Q I h => wpAny_mono (ha.run q pins s σ H Q (I.wish _) h) (fun _ _ ⟨vs, H', I', r, z⟩ => ⟨vs, H', I'.unwish, r, z⟩) fun _ _ z => False.elim z⟩
  refine ps_imp (ps_raise hc tk (pmk_err FB T In hm hr ha' hg hdb he hpl)) fun E σ H ⟨sd, S, E0, X0, st, q, an, ax⟩ => ?_
  refine ⟨sd, S, _, st, q, fun xs S1 vs H1 ⟨x, ex, q1⟩ n1 s1 r1 => ?_⟩
  subst ex
  obtain ⟨v, r, rfl, rv, rn⟩ := r1
  have er : r = [] := rn
  subst er
  refine ⟨v, rfl, fun d hd => ?_⟩
  have n2 : Nx S1 H1 S1 (upd H1 d (.xd [(g, v)])) := nx_new hd
  have s2 := s1.new (o := .xd [(g, v)]) hd
  exact ax n [(g, x)] sd S1 σ _ C (some d) q1 (n1.trans n2) (st.nx (n1.trans n2) s2) hC ⟨[(g, v)], s1.free hd, upd_same, v, [], rfl, Rel.nx n2 _ _ rv, rfl⟩
end
theorem DA.nox {X : Cx} {es : List Expr} {t : WA} (ha : DA X.nox es t) : DA X es t := ⟨fun q pins s σ H Q I h => wpAny_mono (ha.run q pins s σ H Q (I.wish _) h) (fun _ _ ⟨vs, H', I', r, z⟩ => ⟨vs, H', I'.unwish, r, z⟩) fun _ _ z => False.elim z⟩
theorem DK.nox {X : Cx} {es : List Keyword} {t : WA} (ha : DK X.nox es t) : DK X es t := ⟨fun q pins s σ H Q I h => wpAny_mono (ha.run q pins s σ H Q (I.wish _) h) (fun _ _ ⟨vs, H', I', r, z⟩ => ⟨vs, H', I'.unwish, r, z⟩) fun _ _ z => False.elim z⟩

/-! ### calls of defs that may raise -/
section
variable {X : Cx} {W : WX} {k : Nat} {f C : Addr} {fd : FuncData} {ps ks : List Str} {sp : Sp} {dvs : List V} {ds : List Value} {x m : Str} {p pos apos : Pos} {e o : Expr} {es : List Expr} {kws : List Keyword} {ta : TE} {t tk : TA}
end
end L2.DL

/-! DL59: calls that may raise, over data; defs that may raise by their bodies; for; try -/
namespace L2.DL
open PySem PySem.Spec PyProof.Rows
section
variable {P : Program} {w : World} {K : PySem.W.Frag} {mg : Str → Option Value} {base : Heap}
end
section
variable {X : Cx} {W : WX} {k : Nat} {f C : Addr} {fd : FuncData} {ps ks : List Str} {dsp : DSp} {dvs : List V} {dds : List D} {ds : List Value} {x m : Str} {p pos apos : Pos} {e o : Expr} {es : List Expr} {kws : List Keyword} {wt wk : WA} {wo : WE}
def wFnX (sp : DSp) (dds : List D) (t : WA) : WEX := fun sd S Q X0 => t sd S fun xs S1 => sp (xs ++ dds) S1 Q (X0 sd)
def wFnKX (sp : DSp) (gD : List D → List D → List D) (tk : WA) : WEX := fun sd S Q X0 => tk sd S fun ys S2 => sp (gD [] ys) S2 Q (X0 sd)
def wMethX (C : Addr) (m : Str) (sp : DSp) (dds : List D) (wo : WE) (t : WA) : WEX := fun sd S Q X0 => wo sd S fun d S1 => (∃ fs, InsD C d S1 fs ∧ fs.lookup m = none) ∧ t sd S1 fun xs S2 => sp (d :: (xs ++ dds)) S2 Q (X0 sd)
end
/-! ### for, its body may raise -/
section
variable {X : Cx} {W : WX} {tg iter : Expr} {body : List Stmt} {wi : WI} {g : WG} {b : WSX} {pos : Pos}
end
/-! ### try -/
/-- a clause: the names of its classes, the name's slot, what its suite reads -/
structure HdD where
  ms : List Str
  slot : Option Nat
  ws : WS
def goneD (E : EndsD) (i : Nat) : EndsD := { nx := fun sd S => E.nx (sd.set i none) S, rt := E.rt, bk := fun sd S => E.bk (sd.set i none) S, ct := fun sd S => E.ct (sd.set i none) S }
/-- an exception of the body meets the clauses -/
def hdsR (ns : List Str) (E : EndsD) (X0 : EX) : List HdD → EX
  | [] => X0
  | h :: r => fun sd n fs S => n ∈ ns ∧ (h.ms.any (isE n) = true → ∀ a, S a = none → match h.slot with
      | none => h.ws E sd (S.set a (.err n fs))
      | some i => h.ws (goneD E i) (sd.set i (some (.obj a))) (S.set a (.err n fs))) ∧ (h.ms.any (isE n) = false → hdsR ns E X0 r sd n fs S)
def wTry (ns : List Str) (wb : WSX) (hs : List HdD) : WSX := fun E X0 sd S => wb E (hdsR ns E X0 hs) sd S
theorem exmAny_of {K : PySem.W.Frag} {n : Str} {C : Addr} : ∀ {l : List (Str × Addr)}, (∀ p ∈ l, PySem.W.exmOne K (.ref C) (.ref p.2) = some (isE n p.1)) → PySem.W.exmAny K (.ref C) (l.map fun p => Value.ref p.2) = some ((l.map (·.1)).any (isE n))
  | [], _ => rfl
  | p :: l, h => by
    have h1 := h p (List.mem_cons_self ..)
    have h2 := exmAny_of (l := l) fun q hq => h q (List.mem_cons_of_mem _ hq)
    show PySem.W.exmAny K (.ref C) (.ref p.2 :: l.map fun p => Value.ref p.2) = _
    unfold PySem.W.exmAny
    rw [h1, h2]
    rfl
section
variable {X : Cx} {W : WX} {ns : List Str}
/-- the clauses over data -/
inductive HdsX (X : Cx) (ns : List Str) : List ExceptHandler → List HdD → List HdW → Prop
  | nil : HdsX X ns [] [] []
  | plain {te : Expr} {l : List (Str × Addr)} {ws : WS} {b₀ : Stmt} {suite : List Stmt} {pos' : Pos} {hds : List ExceptHandler} {ld : List HdD} {lw : List HdW} (ht : TestE X te (l.map fun p => Value.ref p.2))
      (hT : ∀ n ∈ ns, ∃ ms bs fs C, ErrN X.K n ms bs fs C ∧ ∀ p ∈ l, p.1 ∈ ms) (hl : ∀ p ∈ l, PySem.W.nsIn X.K mainGlobals p.1 = some (some (.ref p.2)))
      (hsu : ∀ (a : Addr) (pn : List (Addr × Obj)), DSs (X.suiteE a pn) (b₀ :: suite) ws) (r : HdsX X ns hds ld lw) : HdsX X ns (.ExceptHandler (some te) none (b₀ :: suite) pos' :: hds) (⟨l.map (·.1), none, ws⟩ :: ld) (⟨l.map fun p => Value.ref p.2, none, fun _ => liftS X.K ws⟩ :: lw)
  | named {te : Expr} {l : List (Str × Addr)} {ws : WS} {b₀ : Stmt} {suite : List Stmt} {pos' : Pos} {hds : List ExceptHandler} {ld : List HdD} {lw : List HdW} {nm : Str} {i : Nat} (ht : TestE X te (l.map fun p => Value.ref p.2)) (hN : X.N.Nodup) (hi : X.N[i]? = some nm) (hln : X.env.kindOf nm = some .local)
      (hT : ∀ n ∈ ns, ∃ ms bs fs C, ErrN X.K n ms bs fs C ∧ ∀ p ∈ l, p.1 ∈ ms) (hl : ∀ p ∈ l, PySem.W.nsIn X.K mainGlobals p.1 = some (some (.ref p.2)))
      (hsu : ∀ (a : Addr) (pn : List (Addr × Obj)), DSs (X.suiteE a pn) (b₀ :: suite) ws) (r : HdsX X ns hds ld lw) : HdsX X ns (.ExceptHandler (some te) (some nm) (b₀ :: suite) pos' :: hds) (⟨l.map (·.1), some i, ws⟩ :: ld) (⟨l.map fun p => Value.ref p.2, some i, fun _ => liftS X.K ws⟩ :: lw)
theorem HdsX.e {hds : List ExceptHandler} {ld : List HdD} {lw : List HdW} (h : HdsX X ns hds ld lw) : HdsE X hds lw := by
  induction h with
  | nil => exact .nil
  | plain ht hT hl hsu r ih => exact .plain ht hsu ih
  | named ht hN hi hln hT hl hsu r ih => exact .named ht hN hi hln hsu ih
theorem exm_at {n : Str} {C : Addr} {l : List (Str × Addr)} (hT : ∃ ms bs fs C, ErrN X.K n ms bs fs C ∧ ∀ p ∈ l, p.1 ∈ ms) (hl : ∀ p ∈ l, PySem.W.nsIn X.K mainGlobals p.1 = some (some (.ref p.2))) (hC : PySem.W.nsIn X.K mainGlobals n = some (some (.ref C))) :
    PySem.W.exmAny X.K (.ref C) (l.map fun p => Value.ref p.2) = some ((l.map (·.1)).any (isE n)) := by
  obtain ⟨ms, bs, fs, C', T, hm⟩ := hT
  have eC : C' = C := by
    have z := T.at_.symm.trans hC
    cases z
    rfl
  subst eC
  refine exmAny_of fun p hp => ?_
  obtain ⟨D, hD, _, hx⟩ := T.own p.1 (hm p hp)
  have eD : D = p.2 := by
    have z := hD.symm.trans (hl p hp)
    cases z
    rfl
  subst eD
  exact hx
theorem hds_ans {hds : List ExceptHandler} {ld : List HdD} {lw : List HdW} (h : HdsX X ns hds ld lw) {S : SO} {H : Hp} {E0 : EndsD} {X0 : EX} {E : Ends} (an : AnsE X.K S H E0 E) (ax : AnsW X.K S H X0 W) : AnsW X.K S H (hdsR ns E0 X0 ld) (wHdE X.K W E lw) := by
  induction h with
  | nil => exact ax
  | @plain te l ws b₀ suite pos' hds2 ld lw ht hT hl hsu r ih =>
    intro n fs sd' S' σ' H' C d ⟨hn, hy, hno⟩ nx st hC hf
    refine ⟨_, C, exm_at (hT n hn) hl hC, rfl, fun hb a na => ?_, fun hb => ih n fs sd' S' σ' H' C d (hno hb) nx st hC hf⟩
    have fa := st.s.free na
    have n2 : Nx S' H' (S'.set a (.err n fs)) (upd H' a (ErrO a C d)) := nx_obj na fa
    have s2 := srel_put st.s n2 ⟨C, d, hC, upd_same, hf.nx n2⟩
    exact ⟨sd', _, E0, st.nx n2 s2, hy hb a fa, an.go (nx.trans n2)⟩
  | @named te l ws b₀ suite pos' hds2 ld lw nm i ht hN hi hln hT hl hsu r ih =>
    intro n fs sd' S' σ' H' C d ⟨hn, hy, hno⟩ nx st hC hf
    refine ⟨_, C, exm_at (hT n hn) hl hC, rfl, fun hb a na => ?_, fun hb => ih n fs sd' S' σ' H' C d (hno hb) nx st hC hf⟩
    have fa := st.s.free na
    have n2 : Nx S' H' (S'.set a (.err n fs)) (upd H' a (ErrO a C d)) := nx_obj na fa
    have s2 := srel_put st.s n2 ⟨C, d, hC, upd_same, hf.nx n2⟩
    have st2 : Sta X.K (sd'.set i (some (.obj a))) (S'.set a (.err n fs)) (σ'.set i (some (.ref a))) (upd H' a (ErrO a C d)) := (st.nx n2 s2).set i (d := .obj a) (v := .ref a) rfl
    have ag := an.go (nx.trans n2)
    have clr : ∀ {sd : SD} {S : SO} {σ : St} {H : Hp}, Sta X.K sd S σ H → Sta X.K (sd.set i none) S (σ.set i none) H := fun {sd S σ H} st => ⟨st.s, by
      refine ⟨by rw [List.length_set, List.length_set]; exact st.r.1, fun j dd e => ?_⟩
      by_cases hj : i = j
      · subst hj
        have hl := (List.getElem?_eq_some_iff.mp e).1
        rw [List.length_set] at hl
        rw [List.getElem?_set_self hl] at e
        cases e
      · rw [List.getElem?_set_ne hj] at e
        obtain ⟨v, e', r⟩ := st.r.2 j dd e
        exact ⟨v, by rw [List.getElem?_set_ne hj]; exact e', r⟩⟩
    exact ⟨_, _, goneD E0 i, st2, hy hb a fa, ⟨fun sd S2 σ H2 q n st => ag.nx _ _ _ _ q n (clr st), ag.rt, fun sd S2 σ H2 q n st => ag.bk _ _ _ _ q n (clr st), fun sd S2 σ H2 q n st => ag.ct _ _ _ _ q n (clr st)⟩⟩
/-- in a def that nothing leaves -/
theorem ds_try {body : List Stmt} {h₀ : ExceptHandler} {hds : List ExceptHandler} {ld : List HdD} {lw : List HdW} {wb : WSX} {pos : Pos} (hs : X.stack = X.env :: X.outer) (hf : X.env.frame = some X.env.locals)
    (hb : ∀ (W' : WX) (pn : List (Addr × Obj)) (xe : Value → Shared → Prop), Takes (X.tr pn xe) W' → PassesOwn (model X.prog X.w) X.A X.env xe → DSsX (X.tr pn xe) W' body wb) (hh : HdsX X ns (h₀ :: hds) ld lw) : DS X (.Try body (h₀ :: hds) [] [] pos) (fun E sd S => wTry ns wb ld E (fun _ _ _ _ => False) sd S) :=
  ps_imp (ps_tryE (tb := fun W' => liftSX X.K W' wb) hs hf (Wout := fun _ _ _ _ => False) (fun _ _ ⟨_, _, _, _, _, _, _, _, _, _, _, _, _, _, _, _, w⟩ => w.elim) hb hh.e) fun E σ H ⟨sd, S, E0, st, q, an⟩ => ⟨sd, S, E0, _, st, q, an, hds_ans hh an (W := fun _ _ _ _ => False) (X0 := fun _ _ _ _ => False) fun _ _ _ _ _ _ _ _ z => z.elim⟩
end
end L2.DL

/-! DL76: raise C(), C an own exception class without an own __init__ -/
namespace L2.DL
open PySem PySem.Spec PyProof.Rows
section
variable {X : Cx} {W : WX} {C : Addr} {bmB : List Value} {B newId initId : String} {n : Str} {p p2 pos : Pos}
/-- what the written part says of such a class -/
structure Cls0 (K : PySem.W.Frag) (C : Addr) (B newId : String) (bmB : List Value) : Prop where
  ei : PySem.W.excIn K C bmB newId = true
  sE : PySem.W.subIn K (.ref C) (.type "BaseException") = some true
  tC : PySem.W.typeIn K (.ref C) = some (.type "type")
  kC : PySem.W.keepIn K (.ref C) = true
def cls0B (K : PySem.W.Frag) (C : Addr) (B newId : String) (bmB : List Value) : Bool := PySem.W.excIn K C bmB newId && (decide (PySem.W.subIn K (.ref C) (.type "BaseException") = some true) && (decide (PySem.W.typeIn K (.ref C) = some (.type "type")) && PySem.W.keepIn K (.ref C)))
theorem cls0_of {K : PySem.W.Frag} {C : Addr} {B newId : String} {bmB : List Value} (h : cls0B K C B newId bmB = true) : Cls0 K C B newId bmB := by
  unfold cls0B at h
  simp only [Bool.and_eq_true, decide_eq_true_eq] at h
  exact ⟨h.1, h.2.1, h.2.2.1, h.2.2.2⟩
end
/-! ### o.m(k = v) of an own instance -/
section
variable {X : Cx} {W : WX} {k : Nat} {f C : Addr} {fd : FuncData} {ps ks : List Str} {sp : Sp} {dsp : DSp} {m : Str} {pos apos : Pos} {o : Expr} {kws : List Keyword} {ta : TE} {tk : TA} {CX : CXT} {E : XK} {wo : WE} {wk : WA} {g : List Value → List Value → List Value} {gV : List V → List V → List V} {gD : List D → List D → List D}
end
end L2.DL

/-! DL60: a lambda without parameters handed to a def that calls it: the lambda made, called, the def run with the maker's slots behind its own -/
namespace L2.DL
open PySem PySem.Spec PyProof.Rows LamX
section
variable {X : Cx} {pins : List (Addr × Obj)} {σ : L2.St} {H : Hp} {s : Shared} {S : SO}
end
/-! ### the maker's slots behind a def's own -/
section
variable {P : Program} {w : World} {K : PySem.W.Frag} {mg : Str → Option Value} {base : Heap} {N : List Str} {qual : Str} {scope : Scope} {f : Addr} {cd : Value} {A : Around} {outer : List Env} {s s1 : Shared} {H H1 : Hp} {E : XK} {σ : St} {pins : List (Addr × Obj)} {CX : CXT}
end
end L2.DL

/-! DL61: x(lambda: e), x a def that calls what it got -/
namespace L2.DL
open PySem PySem.Spec PyProof.Rows LamX
section
variable {X : Cx} {pins : List (Addr × Obj)} {σ : L2.St} {H : Hp} {s : Shared}
end
section
variable {X : Cx}
end
end L2.DL

/-! DL62: defs that are called in a suite; defs whose code object is told; the law's head with tables of code objects -/
namespace L2.DL
open PySem PySem.Spec PyProof.Rows
section
variable {P : Program} {w : World} {K : PySem.W.Frag} {mg : Str → Option Value} {base : Heap}
end
section
variable {X : Cx} {k : Nat} {f : Addr} {fd : FuncData} {ps : List Str} {dsp : DSp} {x : Str} {p pos : Pos} {e : Expr} {es : List Expr} {wt : WA}
end
/-! ### the law's head with tables -/
end L2.DL

/-! DL63: the program's exceptions told at once; steps of readings with exceptions and lambdas -/
namespace L2.DL
open PySem PySem.Spec PyProof.Rows
/-- the fields of an exception class -/
def errFld (n : Str) : List Str := if n = "NothingToUndo" then [] else if n = "Broken" then ["index", "shown"] else if n = "HasRing" then ["ring"] else if n = "NotMet" then ["pair"] else if n = "TooMany" then ["most"] else if n = "InvalidPlaces" ∨ n = "InvalidTies" ∨ n = "InvalidWishes" ∨ n = "InvalidChanges" ∨ n = "InUse" then ["index"] else ["given"]
def ErrT (K : PySem.W.Frag) (ns ms : List Str) (bs : List String) : Prop := ∀ n ∈ ns, ∃ C, ErrN K n ms bs (errFld n) C
def errTB (K : PySem.W.Frag) (ns ms : List Str) (bs : List String) : Bool := ns.all fun n => errNB K n ms bs (errFld n)
theorem errT_of {K : PySem.W.Frag} {ns ms : List Str} {bs : List String} (h : errTB K ns ms bs = true) : ErrT K ns ms bs := fun n hn => errN_of (List.all_eq_true.mp h n hn)
theorem errT_a {K : PySem.W.Frag} {ns ms : List Str} {bs : List String} (h : ErrT K ns ms bs) : ∀ n ∈ ns, ∃ fs C, ErrN K n ms bs fs C := fun n hn => let ⟨C, T⟩ := h n hn; ⟨_, C, T⟩
theorem errT_f {K : PySem.W.Frag} {ns ms ns' : List Str} {bs : List String} {f : Str} (h : ErrT K ns ms bs) (hs : (ns'.all fun n => ns.contains n && (errFld n).contains f) = true) : ∀ n ∈ ns', ∃ fs C, ErrN K n ms bs fs C ∧ f ∈ fs := fun n hn => by
  have z := List.all_eq_true.mp hs n hn
  rw [Bool.and_eq_true] at z
  obtain ⟨C, T⟩ := h n (by simpa using z.1)
  exact ⟨_, C, T, by simpa using z.2⟩
theorem errT_h {K : PySem.W.Frag} {ns ms : List Str} {bs : List String} {l : List (Str × Addr)} (h : ErrT K ns ms bs) (hs : (l.map (·.1)).all (fun m => ms.contains m) = true) : ∀ n ∈ ns, ∃ ms bs fs C, ErrN K n ms bs fs C ∧ ∀ p ∈ l, p.1 ∈ ms := fun n hn => by
  obtain ⟨C, T⟩ := h n hn
  refine ⟨ms, bs, _, C, T, fun p hp => ?_⟩
  have z := List.all_eq_true.mp hs p.1 (List.mem_map.mpr ⟨p, hp, rfl⟩)
  simpa using z
theorem all1 {α : Type} {P : α → Prop} {a : α} (h : P a) : ∀ p ∈ [a], P p := fun p hp => by
  rw [List.mem_singleton] at hp
  rw [hp]
  exact h
def wTry0 (ns : List Str) (wb : WSX) (hs : List HdD) : WS := fun E sd S => wTry ns wb hs E (fun _ _ _ _ => False) sd S
/-! ### steps -/
section
variable {E : EndsD} {X0 : EX} {sd : SD} {S : SO} {Q : KD} {a b : WSX} {we : WEX} {w : WE} {ws : WS} {t : WA} {wt : WT}
theorem xSeqX (h : a { E with nx := b E X0 } X0 sd S) : wSeqX a b E X0 sd S := h
instance st_xSeqX {lw : Lv} : Step (.s (.s (.s (.s lw)))) (wSeqX a b E X0 sd S) (a { E with nx := b E X0 } X0 sd S) := ⟨fun h => xSeqX h⟩
theorem xNS (h : ws E sd S) : wNS ws E X0 sd S := h
instance st_xNS {lw : Lv} : Step (.s (.s (.s (.s lw)))) (wNS ws E X0 sd S) (ws E sd S) := ⟨fun h => xNS h⟩
theorem xNE (h : w sd S Q) : wNE w sd S Q X0 := h
instance st_xNE {lw : Lv} : Step (.s (.s (.s (.s lw)))) (wNE w sd S Q X0) (w sd S Q) := ⟨fun h => xNE h⟩
theorem xRetX (h : we sd S E.rt X0) : wRetX we E X0 sd S := h
instance st_xRetX {lw : Lv} : Step (.s (.s (.s (.s lw)))) (wRetX we E X0 sd S) (we sd S E.rt X0) := ⟨fun h => xRetX h⟩
theorem xDropX (h : we sd S (fun _ S1 => E.nx sd S1) X0) : wDropX we E X0 sd S := h
instance st_xDropX {lw : Lv} : Step (.s (.s (.s (.s lw)))) (wDropX we E X0 sd S) (we sd S (fun _ S1 => E.nx sd S1) X0) := ⟨fun h => xDropX h⟩
theorem xSetX {i : Nat} (h : we sd S (fun d S1 => E.nx (sd.set i (some d)) S1) X0) : wSetX we i E X0 sd S := h
instance st_xSetX {lw : Lv} {i : Nat} : Step (.s (.s (.s (.s lw)))) (wSetX we i E X0 sd S) (we sd S (fun d S1 => E.nx (sd.set i (some d)) S1) X0) := ⟨fun h => xSetX h⟩
theorem xIfSX (h : wt sd S fun k S1 => if k = true then a E X0 sd S1 else b E X0 sd S1) : wIfSX wt a b E X0 sd S := h
instance st_xIfSX {lw : Lv} : Step (.s (.s (.s (.s lw)))) (wIfSX wt a b E X0 sd S) (wt sd S fun k S1 => if k = true then a E X0 sd S1 else b E X0 sd S1) := ⟨fun h => xIfSX h⟩
theorem xIfX {wa wb : WEX} (h : wt sd S fun k S1 => if k = true then wa sd S1 Q X0 else wb sd S1 Q X0) : wIfX wt wa wb sd S Q X0 := h
instance st_xIfX {lw : Lv} {wa wb : WEX} : Step (.s (.s (.s (.s lw)))) (wIfX wt wa wb sd S Q X0) (wt sd S fun k S1 => if k = true then wa sd S1 Q X0 else wb sd S1 Q X0) := ⟨fun h => xIfX h⟩
theorem xRaise {n g : Str} (h : t sd S fun xs S1 => ∃ x, xs = [x] ∧ X0 sd n [(g, x)] S1) : wRaise n g t E X0 sd S := h
instance st_xRaise {lw : Lv} {n g : Str} : Step (.s (.s (.s (.s lw)))) (wRaise n g t E X0 sd S) (t sd S fun xs S1 => ∃ x, xs = [x] ∧ X0 sd n [(g, x)] S1) := ⟨fun h => xRaise h⟩
theorem xFnX {sp : DSp} (h : t sd S fun xs S1 => sp xs S1 Q (X0 sd)) : wFnX sp [] t sd S Q X0 := by
  unfold wFnX
  simpa only [List.append_nil] using h
instance st_xFnX {lw : Lv} {sp : DSp} : Step (.s (.s (.s (.s lw)))) (wFnX sp [] t sd S Q X0) (t sd S fun xs S1 => sp xs S1 Q (X0 sd)) := ⟨fun h => xFnX h⟩
theorem xFnKX {sp : DSp} {gD : List D → List D → List D} (h : t sd S fun ys S2 => sp (gD [] ys) S2 Q (X0 sd)) : wFnKX sp gD t sd S Q X0 := h
instance st_xFnKX {lw : Lv} {sp : DSp} {gD : List D → List D → List D} : Step (.s (.s (.s (.s lw)))) (wFnKX sp gD t sd S Q X0) (t sd S fun ys S2 => sp (gD [] ys) S2 Q (X0 sd)) := ⟨fun h => xFnKX h⟩
theorem xMthX {C : Addr} {m : Str} {sp : DSp} (h : w sd S fun d S1 => MthD C m d S1 (t sd S1 fun xs S2 => sp (d :: xs) S2 Q (X0 sd))) : wMethX C m sp [] w t sd S Q X0 := by
  unfold wMethX
  simp only [List.append_nil]
  exact h
instance st_xMthX {lw : Lv} {C : Addr} {m : Str} {sp : DSp} : Step (.s (.s (.s (.s lw)))) (wMethX C m sp [] w t sd S Q X0) (w sd S fun d S1 => MthD C m d S1 (t sd S1 fun xs S2 => sp (d :: xs) S2 Q (X0 sd))) := ⟨fun h => xMthX h⟩
theorem xTry0 {ns : List Str} {hs : List HdD} (h : a E (hdsR ns E (fun _ _ _ _ => False) hs) sd S) : wTry0 ns a hs E sd S := h
instance st_xTry0 {lw : Lv} {ns : List Str} {hs : List HdD} : Step (.s (.s (.s (.s lw)))) (wTry0 ns a hs E sd S) (a E (hdsR ns E (fun _ _ _ _ => False) hs) sd S) := ⟨fun h => xTry0 h⟩
theorem xFldE {ns : List Str} {f : Str} (h : w sd S fun d S1 => ∃ b n fs v, d = .obj b ∧ S1 b = some (.err n fs) ∧ n ∈ ns ∧ fs.lookup f = some v ∧ Q v S1) : wFldE ns f w sd S Q := h
end
end L2.DL

/-! DL64: list.count(True); repr of a value of any kind; list.index(True) -/
namespace L2.DL
open PySem PySem.Spec PyProof.Rows
section
variable {X : Cx}
end
end L2.DL

/-! DL77: repr of values of any kind, {} among them -/
namespace L2.DL
open PySem PySem.Spec PyProof.Rows
mutual
/-- plain data with dicts that hold nothing -/
def valP : D → Option PyData
  | .non => some .none
  | .bl b => some (.bool b)
  | .int i => some (.int i)
  | .str x => some (.str x)
  | .tup ds => (valPs ds).map .tuple
  | .kt ds => (valPs ds).map .tuple
  | .tf ds => (valPs ds).map .tuple
  | .lst ds => (valPs ds).map .list
  | .dic _ [] => some (.dict [])
  | .dic _ (_ :: _) => none
  | .src _ => none
  | .ty _ => none
  | .fd _ _ => none
  | .gh _ _ => none
  | .ins _ _ => none
  | .obj _ => none
def valPs : List D → Option (List PyData)
  | [] => some []
  | d :: ds => (valP d).bind fun p => (valPs ds).map fun ps => p :: ps
end
section
variable {X : Cx} {pins : List (Addr × Obj)} {σ : St} {S : SO} {H : Hp} {s : Shared}
/-- a dict that holds nothing -/
theorem dic0_at (I : Inv X pins σ H s) {t : Bool} {v : V} {u : Value} (r : Rel X.K S H (.dic t []) v) (ru : RelV v u) : ∃ a o n, u = .ref a ∧ s.heap.get? a = some o ∧ o.cls = .type "dict" ∧ o.data = .dict #[] n ∧ (a == sysModules) = false := by
  obtain ⟨a, rfl, _, r⟩ := r
  cases ru
  have fin : ∀ {es : Array DictEntry} {o : Obj} {n : Nat}, s.heap.get? a = some o → o.cls = .type "dict" → o.data = .dict es n → es = #[] → (a == sysModules) = false → ∃ b o n, Value.ref a = .ref b ∧ s.heap.get? b = some o ∧ o.cls = .type "dict" ∧ o.data = .dict #[] n ∧ (b == sysModules) = false := fun {es o n} h1 h2 h3 h4 h5 => by
    subst h4
    exact ⟨a, o, n, rfl, h1, h2, h3, h5⟩
  rcases r with ⟨l, rfl, hl, rl⟩ | ⟨l, rfl, hl, rl⟩
  · have e0 : l = [] := rl
    subst e0
    obtain ⟨_, hsm, vs, kv, o, es, ep, h1, h2, h3, h4, h5, _⟩ := dk_of I.hok hl
    cases kv
    have e1 : es.toList = [] := by
      have z := h5.length
      simpa using z
    exact fin h1 h2.1 h3 (by simpa using e1) hsm
  · have e0 : l = [] := rl
    subst e0
    obtain ⟨_, hsm, xs, kv, o, es, ep, h1, h2, h3, h4, _⟩ := dt_of I.hok hl
    cases kv
    exact fin h1 h2.1 h3 (by simpa using h4) hsm
theorem tup_reprV {prog : Program} {w : World} {h : Heap} {a : Addr} {its : List Value} {ps : List PyData} {as bs : List Addr} (ob : ∃ o, h.get? a = some o ∧ o.cls = .type "tuple" ∧ ∃ n, o.data = .seq its.toArray n) (hr : ReadsAll h its ps as) (hb : ReadAtMost h (PyData.depthAll ps) bs) (hk : ReprAllK prog w bs h (PyData.depthAll ps) its (PyData.shownAll ps)) :
    ∃ bs, ReadAtMost h (PyData.tuple ps).depth bs ∧ ReprK prog w bs h (PyData.tuple ps).depth (.ref a) (PyData.tuple ps).shown := by
  obtain ⟨o, h1, h2, n, h3⟩ := ob
  have rd : Reads h (.ref a) (.tuple ps) as := .tuple h1 h2 h3 hr
  have hna : a ∉ bs := not_mem_of_deeper rd (by simp only [PyData.depth]; omega) hb
  refine ⟨a :: bs, ReadAtMost.cons rd (by simp only [PyData.depth]; omega) hb, ?_⟩
  simp only [PyData.depth, PyData.shown]
  exact ReprK.tuple h1 h2 h3 hna hk
theorem lst_reprV {prog : Program} {w : World} {h : Heap} {a : Addr} {its : List Value} {ps : List PyData} {as bs : List Addr} (ob : PlainL h a its.toArray) (hr : ReadsAll h its ps as) (hb : ReadAtMost h (PyData.depthAll ps) bs) (hk : ReprAllK prog w bs h (PyData.depthAll ps) its (PyData.shownAll ps)) :
    ∃ bs, ReadAtMost h (PyData.list ps).depth bs ∧ ReprK prog w bs h (PyData.list ps).depth (.ref a) (PyData.list ps).shown := by
  obtain ⟨o, n, h1, h2, _, h3⟩ := ob
  have rd : Reads h (.ref a) (.list ps) _ := .list h1 h2 h3 hr
  have hna : a ∉ bs := not_mem_of_deeper rd (by simp only [PyData.depth]; omega) hb
  refine ⟨a :: bs, ReadAtMost.cons rd (by simp only [PyData.depth]; omega) hb, ?_⟩
  simp only [PyData.depth, PyData.shown]
  cases its with
  | nil =>
    cases hr
    simp only [PyData.shownAll, listText_nil]
    exact ReprK.listEmpty h1 h2 h3
  | cons x l => exact ReprK.list h1 h2 h3 hna (by simpa using hk.length_eq) fun i y e => hk.item i y (by simpa using e)
mutual
theorem rel_readsV (I : Inv X pins σ H s) : ∀ (d : D) (v : V) (u : Value) (p : PyData), Rel X.K S H d v → valP d = some p → RelV v u → ∃ as, Reads s.heap u p as
  | .non, _, _, _, r, e, ru => by
    cases e
    cases (show _ = V.non from r)
    cases ru
    exact ⟨_, .none⟩
  | .bl b, _, _, _, r, e, ru => by
    cases e
    cases (show _ = V.bl b from r)
    cases ru
    exact ⟨_, .bool b⟩
  | .int i, _, _, _, r, e, ru => by
    cases e
    cases (show _ = V.int i from r)
    obtain ⟨t, rfl⟩ := ru
    exact ⟨_, .int i t⟩
  | .str x, _, _, _, r, e, ru => by
    cases e
    cases (show _ = V.str x from r)
    obtain ⟨t, rfl⟩ := ru
    exact ⟨_, .str x t⟩
  | .tup ds, _, _, _, r, e, ru => by
    obtain ⟨ps, hp, rfl⟩ := Option.map_eq_some_iff.mp (show (valPs ds).map PyData.tuple = some _ from e)
    obtain ⟨a, vs, rfl, t, r⟩ := r
    cases ru
    obtain ⟨its, rv, ⟨o, ho, hc, n, hd⟩, _⟩ := I.tuple t.sq
    obtain ⟨as, hr⟩ := rels_readsV I ds vs its ps r hp rv
    exact ⟨_, .tuple ho hc hd hr⟩
  | .kt ds, _, _, _, r, e, ru => by
    obtain ⟨ps, hp, rfl⟩ := Option.map_eq_some_iff.mp (show (valPs ds).map PyData.tuple = some _ from e)
    obtain ⟨a, vs, rfl, t, r⟩ := r
    cases ru
    obtain ⟨its, rv, ⟨o, ho, hc, n, hd⟩, _⟩ := I.tuple t.sq
    obtain ⟨as, hr⟩ := rels_readsV I ds vs its ps r hp rv
    exact ⟨_, .tuple ho hc hd hr⟩
  | .tf ds, _, _, _, r, e, ru => by
    obtain ⟨ps, hp, rfl⟩ := Option.map_eq_some_iff.mp (show (valPs ds).map PyData.tuple = some _ from e)
    obtain ⟨a, vs, rfl, t, r⟩ := r
    cases ru
    obtain ⟨its, rv, ⟨o, ho, hc, n, hd⟩, _⟩ := I.tuple t.sq
    obtain ⟨as, hr⟩ := rels_readsV I ds vs its ps r hp rv
    exact ⟨_, .tuple ho hc hd hr⟩
  | .lst ds, _, _, _, r, e, ru => by
    obtain ⟨ps, hp, rfl⟩ := Option.map_eq_some_iff.mp (show (valPs ds).map PyData.list = some _ from e)
    obtain ⟨a, vs, rfl, _, t, r⟩ := r
    cases ru
    obtain ⟨its, rv, ⟨o, n, ho, hc, _, hd⟩, _⟩ := I.list (.of t)
    obtain ⟨as, hr⟩ := rels_readsV I ds vs its ps r hp rv
    exact ⟨_, .list ho hc hd hr⟩
  | .dic t [], _, _, _, r, e, ru => by
    cases e
    obtain ⟨a, o, n, rfl, h1, h2, h3, _⟩ := dic0_at I r ru
    exact ⟨_, .dict (as := []) (bs := []) h1 h2 h3 .nil .nil⟩
  | .dic _ (_ :: _), _, _, _, _, e, _ => by cases e
  | .src _, _, _, _, _, e, _ => by cases e
  | .ty _, _, _, _, _, e, _ => by cases e
  | .fd _ _, _, _, _, _, e, _ => by cases e
  | .gh _ _, _, _, _, _, e, _ => by cases e
  | .ins _ _, _, _, _, _, e, _ => by cases e
  | .obj _, _, _, _, _, e, _ => by cases e
theorem rels_readsV (I : Inv X pins σ H s) : ∀ (ds : List D) (vs : List V) (us : List Value) (ps : List PyData), Rels X.K S H ds vs → valPs ds = some ps → Vals vs us → ∃ as, ReadsAll s.heap us ps as
  | [], _, _, _, r, e, ru => by
    cases e
    cases (show _ = [] from r)
    cases ru
    exact ⟨_, .nil⟩
  | d :: ds, _, _, _, r, e, ru => by
    obtain ⟨p, hp, e2⟩ := Option.bind_eq_some_iff.mp (show (valP d).bind (fun p => (valPs ds).map fun ps => p :: ps) = some _ from e)
    obtain ⟨qs, hq, rfl⟩ := Option.map_eq_some_iff.mp e2
    obtain ⟨v, vs, rfl, r1, r2⟩ := r
    cases ru with
    | cons rv rr =>
      obtain ⟨as, q1⟩ := rel_readsV I d v _ p r1 hp rv
      obtain ⟨bs, q2⟩ := rels_readsV I ds vs _ qs r2 hq rr
      exact ⟨_, .cons q1 q2⟩
end
mutual
/-- the shown texts, each within another's repr -/
theorem rel_reprV (I : Inv X pins σ H s) : ∀ (d : D) (v : V) (u : Value) (p : PyData), Rel X.K S H d v → valP d = some p → RelV v u → p.showable = true → p.shown.length ≤ sizeLine → ∃ bs, ReadAtMost s.heap p.depth bs ∧ ReprK X.prog X.w bs s.heap p.depth u p.shown
  | .non, _, _, _, r, e, ru, _, _ => by
    cases e
    cases (show _ = V.non from r)
    cases ru
    exact ⟨[], (fun _ h => nomatch h), by simp only [PyData.shown]; exact .of_is ReprIs.none _ _ _⟩
  | .bl b, _, _, _, r, e, ru, _, _ => by
    cases e
    cases (show _ = V.bl b from r)
    cases ru
    exact ⟨[], (fun _ h => nomatch h), by simp only [PyData.shown]; exact .of_is (ReprIs.bool b) _ _ _⟩
  | .int i, _, _, _, r, e, ru, hs, _ => by
    cases e
    cases (show _ = V.int i from r)
    obtain ⟨t, rfl⟩ := ru
    exact ⟨[], (fun _ h => nomatch h), by simp only [PyData.shown]; exact .of_is (ReprIs.int t (by simpa [PyData.showable] using hs)) _ _ _⟩
  | .str x, _, _, _, r, e, ru, _, hz => by
    cases e
    cases (show _ = V.str x from r)
    obtain ⟨t, rfl⟩ := ru
    exact ⟨[], (fun _ h => nomatch h), by simp only [PyData.shown]; exact .of_is (ReprIs.str x t (by simpa only [PyData.shown] using hz)) _ _ _⟩
  | .tup ds, _, _, _, r, e, ru, hs, hz => by
    obtain ⟨ps, hp, rfl⟩ := Option.map_eq_some_iff.mp (show (valPs ds).map PyData.tuple = some _ from e)
    obtain ⟨a, vs, rfl, t, r⟩ := r
    cases ru
    obtain ⟨its, rv, ob, _⟩ := I.tuple t.sq
    obtain ⟨as, hr⟩ := rels_readsV I ds vs its ps r hp rv
    obtain ⟨bs, hb, hk⟩ := rels_reprV I ds vs its ps r hp rv (by simpa [PyData.showable] using hs) fun t ht => Nat.le_trans (tupleText_mem_le ht) (by simpa only [PyData.shown] using hz)
    exact tup_reprV ob hr hb hk
  | .kt ds, _, _, _, r, e, ru, hs, hz => by
    obtain ⟨ps, hp, rfl⟩ := Option.map_eq_some_iff.mp (show (valPs ds).map PyData.tuple = some _ from e)
    obtain ⟨a, vs, rfl, t, r⟩ := r
    cases ru
    obtain ⟨its, rv, ob, _⟩ := I.tuple t.sq
    obtain ⟨as, hr⟩ := rels_readsV I ds vs its ps r hp rv
    obtain ⟨bs, hb, hk⟩ := rels_reprV I ds vs its ps r hp rv (by simpa [PyData.showable] using hs) fun t ht => Nat.le_trans (tupleText_mem_le ht) (by simpa only [PyData.shown] using hz)
    exact tup_reprV ob hr hb hk
  | .tf ds, _, _, _, r, e, ru, hs, hz => by
    obtain ⟨ps, hp, rfl⟩ := Option.map_eq_some_iff.mp (show (valPs ds).map PyData.tuple = some _ from e)
    obtain ⟨a, vs, rfl, t, r⟩ := r
    cases ru
    obtain ⟨its, rv, ob, _⟩ := I.tuple t.sq
    obtain ⟨as, hr⟩ := rels_readsV I ds vs its ps r hp rv
    obtain ⟨bs, hb, hk⟩ := rels_reprV I ds vs its ps r hp rv (by simpa [PyData.showable] using hs) fun t ht => Nat.le_trans (tupleText_mem_le ht) (by simpa only [PyData.shown] using hz)
    exact tup_reprV ob hr hb hk
  | .lst ds, _, _, _, r, e, ru, hs, hz => by
    obtain ⟨ps, hp, rfl⟩ := Option.map_eq_some_iff.mp (show (valPs ds).map PyData.list = some _ from e)
    obtain ⟨a, vs, rfl, _, t, r⟩ := r
    cases ru
    obtain ⟨its, rv, ob, _⟩ := I.list (.of t)
    obtain ⟨as, hr⟩ := rels_readsV I ds vs its ps r hp rv
    obtain ⟨bs, hb, hk⟩ := rels_reprV I ds vs its ps r hp rv (by simpa [PyData.showable] using hs) fun t ht => Nat.le_trans (listText_mem_le ht) (by simpa only [PyData.shown] using hz)
    exact lst_reprV ob hr hb hk
  | .dic t [], _, _, _, r, e, ru, _, _ => by
    cases e
    obtain ⟨a, o, n, rfl, h1, h2, h3, h4⟩ := dic0_at I r ru
    have rd : Reads s.heap (.ref a) (.dict []) _ := .dict (as := []) (bs := []) h1 h2 h3 .nil .nil
    refine ⟨[a], ReadAtMost.cons rd (n := 0) (Nat.zero_le _) (fun _ h => nomatch h), ?_⟩
    exact ReprK.level_le (d := 1) (ReprK.dict (d := 0) (ps := []) h1 h2 h3 h4 (by simp) .nil) (by simp [PyData.depth])
  | .dic _ (_ :: _), _, _, _, _, e, _, _, _ => by cases e
  | .src _, _, _, _, _, e, _, _, _ => by cases e
  | .ty _, _, _, _, _, e, _, _, _ => by cases e
  | .fd _ _, _, _, _, _, e, _, _, _ => by cases e
  | .gh _ _, _, _, _, _, e, _, _, _ => by cases e
  | .ins _ _, _, _, _, _, e, _, _, _ => by cases e
  | .obj _, _, _, _, _, e, _, _, _ => by cases e
theorem rels_reprV (I : Inv X pins σ H s) : ∀ (ds : List D) (vs : List V) (us : List Value) (ps : List PyData), Rels X.K S H ds vs → valPs ds = some ps → Vals vs us → PyData.showableAll ps = true → (∀ t ∈ PyData.shownAll ps, t.length ≤ sizeLine) →
    ∃ bs, ReadAtMost s.heap (PyData.depthAll ps) bs ∧ ReprAllK X.prog X.w bs s.heap (PyData.depthAll ps) us (PyData.shownAll ps)
  | [], _, _, _, r, e, ru, _, _ => by
    cases e
    cases (show _ = [] from r)
    cases ru
    exact ⟨[], (fun _ h => nomatch h), by simp only [PyData.shownAll]; exact .nil⟩
  | d :: ds, _, _, _, r, e, ru, hs, hz => by
    obtain ⟨p, hp, e2⟩ := Option.bind_eq_some_iff.mp (show (valP d).bind (fun p => (valPs ds).map fun ps => p :: ps) = some _ from e)
    obtain ⟨qs, hq, rfl⟩ := Option.map_eq_some_iff.mp e2
    obtain ⟨v, vs, rfl, r1, r2⟩ := r
    have hs' : p.showable = true ∧ PyData.showableAll qs = true := by simpa [PyData.showableAll] using hs
    simp only [PyData.shownAll] at hz
    cases ru with
    | cons rv rr =>
      obtain ⟨b1, g1, k1⟩ := rel_reprV I d v _ p r1 hp rv hs'.1 (hz _ (List.mem_cons_self ..))
      obtain ⟨b2, g2, k2⟩ := rels_reprV I ds vs _ qs r2 hq rr hs'.2 fun t ht => hz t (List.mem_cons_of_mem _ ht)
      simp only [PyData.depthAll, PyData.shownAll]
      refine ⟨b1 ++ b2, (g1.mono (Nat.le_max_left _ _)).append (g2.mono (Nat.le_max_right _ _)), .cons ((k1.more fun b hb => List.mem_append_left _ hb).level_le (Nat.le_max_left _ _)) (k2.more_le (fun b hb => List.mem_append_right _ hb) (Nat.le_max_right _ _))⟩
end
def ShowV (p : PyData) : Prop := p.showable = true ∧ p.depth ≤ 64 ∧ p.shown.length ≤ sizeLine
theorem tup_callV {prog : Program} {w : World} {A : Around} {E : Value → Shared → Prop} {s : Shared} {a : Addr} {its : List Value} {ps : List PyData} {as bs : List Addr} {Q : Value → Shared → Prop} (gd : A.guards = some []) (hu : A.units + 70 < cLine) (ob : ∃ o, s.heap.get? a = some o ∧ o.cls = .type "tuple" ∧ ∃ n, o.data = .seq its.toArray n)
    (hr : ReadsAll s.heap its ps as) (hb : ReadAtMost s.heap (PyData.depthAll ps) bs) (hk : ReprAllK prog w bs s.heap (PyData.depthAll ps) its (PyData.shownAll ps)) (hs : ShowV (.tuple ps))
    (hQ : ∀ h' u tk, (∀ b o, s.heap.get? b = some o → h'.get? b = some o) → Q (.str (PyData.tuple ps).shown u) { s with heap := h', toks := tk }) : wpAny (model prog w) A (call (.builtin "repr") [.ref a]) Q E s := by
  obtain ⟨o, h1, h2, n, h3⟩ := ob
  have rd : Reads s.heap (.ref a) (.tuple ps) as := .tuple h1 h2 h3 hr
  have hna : a ∉ bs := not_mem_of_deeper rd (by simp only [PyData.depth]; omega) hb
  obtain ⟨_, hd, hz⟩ := hs
  simp only [PyData.depth] at hd
  simp only [PyData.shown] at hz hQ
  refine call_repr_slot (T := "tuple") (by omega) ⟨o, h1, h2⟩ F.slot_tuple_repr ?_
  exact call_tuple_reprK h1 h2 h3 hna hk gd (fun b _ => Clear.nil b) (by show A.units + 1 + (PyData.depthAll ps + 1) < cLine; omega) (fun _ _ e => e) (fun h' u tk hk' => ⟨_, _, rfl, hQ h' u tk hk'⟩) hz
theorem lst_callV {prog : Program} {w : World} {A : Around} {E : Value → Shared → Prop} {s : Shared} {a : Addr} {its : List Value} {ps : List PyData} {as bs : List Addr} {Q : Value → Shared → Prop} (gd : A.guards = some []) (hu : A.units + 70 < cLine) (ob : PlainL s.heap a its.toArray)
    (hr : ReadsAll s.heap its ps as) (hb : ReadAtMost s.heap (PyData.depthAll ps) bs) (hk : ReprAllK prog w bs s.heap (PyData.depthAll ps) its (PyData.shownAll ps)) (hs : ShowV (.list ps))
    (hQ : ∀ h' u tk, (∀ b o, s.heap.get? b = some o → h'.get? b = some o) → Q (.str (PyData.list ps).shown u) { s with heap := h', toks := tk }) : wpAny (model prog w) A (call (.builtin "repr") [.ref a]) Q E s := by
  obtain ⟨o, n, h1, h2, _, h3⟩ := ob
  have rd : Reads s.heap (.ref a) (.list ps) _ := .list h1 h2 h3 hr
  have hna : a ∉ bs := not_mem_of_deeper rd (by simp only [PyData.depth]; omega) hb
  obtain ⟨_, hd, hz⟩ := hs
  simp only [PyData.depth] at hd
  simp only [PyData.shown] at hz hQ
  refine call_repr_slot (T := "list") (by omega) ⟨o, h1, h2⟩ F.slot_list_repr.toG ?_
  cases its with
  | nil =>
    cases hr
    simp only [PyData.shownAll, listText_nil] at hQ
    exact call_list_repr_empty ⟨o, h1, h2⟩ h1 h3 ⟨_, _, rfl, hQ s.heap _ _ fun _ _ e => e⟩
  | cons x l => exact call_list_reprK h1 h2 h3 hna (by simpa using hk.length_eq) (fun i y e => hk.item i y (by simpa using e)) gd (fun b _ => Clear.nil b) (by show A.units + 1 + (PyData.depthAll ps + 1) < cLine; omega) (fun _ _ e => e) (fun h' u tk hk' => ⟨_, _, rfl, hQ h' u tk hk'⟩) hz
def cReprV : WL := fun xs S Q => one xs fun x => ∃ p, valP x = some p ∧ ShowV p ∧ Q (.str p.shown) S
theorem dc_reprV (gd : X.A.guards = some []) (hu : X.A.units + 70 < cLine) : DC X (.builtin "repr") cReprV := by
  intro pins s σ H xs us Q I r ⟨ds, S, Q0, sr, rs, q, an⟩
  obtain ⟨x, rfl, p, hp, hsh, q⟩ := one_of q
  obtain ⟨v, rfl, rv⟩ := rs.v1
  obtain ⟨u, rfl, ru⟩ := vals1 r
  have h1 := hsh.1
  have h3 := hsh.2.2
  have fin : ∀ (h' : Heap) (t : Tok) (tk : Nat), (∀ b o, s.heap.get? b = some o → h'.get? b = some o) → EP X pins σ Q (.str p.shown t) { s with heap := h', toks := tk } := fun h' t tk hk => ⟨.str p.shown, H, I.kept hk, ⟨t, rfl⟩, ansd (.str _) sr an q rfl⟩
  have tup : ∀ (ds : List D) (a : Addr) (vs : List V), SqT X.K H a vs → Rels X.K S H ds vs → u = .ref a → (valPs ds).map PyData.tuple = some p → wpAny (model X.prog X.w) X.A (call (.builtin "repr") [u]) (EP X pins σ Q) X.xe s := by
    intro ds a vs t rr eu e
    subst eu
    obtain ⟨ps, hps, rfl⟩ := Option.map_eq_some_iff.mp e
    obtain ⟨its, rv, ob, _⟩ := I.tuple t
    obtain ⟨as, hr⟩ := rels_readsV I ds vs its ps rr hps rv
    obtain ⟨bs, hb, hk⟩ := rels_reprV I ds vs its ps rr hps rv (by simpa [PyData.showable] using h1) fun t ht => Nat.le_trans (tupleText_mem_le ht) (by simpa only [PyData.shown] using h3)
    exact tup_callV gd hu ob hr hb hk hsh fin
  cases x with
  | non =>
    cases hp
    cases (show v = V.non from rv)
    cases ru
    exact PySem.P.repr_of_none (by simpa only [PyData.shown] using fin s.heap _ _ fun _ _ z => z)
  | bl b =>
    cases hp
    cases (show v = V.bl b from rv)
    cases ru
    have z := fin s.heap s.toks (s.toks + 1) fun _ _ z => z
    refine PySem.P.repr_of_bool ?_
    simp only [PyData.shown] at z
    cases b <;> exact z
  | int i =>
    cases hp
    cases (show v = V.int i from rv)
    obtain ⟨t, rfl⟩ := ru
    exact PySem.P.repr_of_int (by simpa [PyData.showable] using h1) (by simpa only [PyData.shown] using fin s.heap _ _ fun _ _ z => z)
  | str y =>
    cases hp
    cases (show v = V.str y from rv)
    obtain ⟨t, rfl⟩ := ru
    exact PySem.P.repr_of_str (by simpa only [PyData.shown] using fin s.heap _ _ fun _ _ z => z) (by simpa only [PyData.shown] using h3)
  | tup ds =>
    obtain ⟨a, vs, rfl, t, rr⟩ := rv
    cases ru
    exact tup ds a vs t.sq rr rfl hp
  | kt ds =>
    obtain ⟨a, vs, rfl, t, rr⟩ := rv
    cases ru
    exact tup ds a vs t.sq rr rfl hp
  | tf ds =>
    obtain ⟨a, vs, rfl, t, rr⟩ := rv
    cases ru
    exact tup ds a vs t.sq rr rfl hp
  | lst ds =>
    obtain ⟨ps, hps, rfl⟩ := Option.map_eq_some_iff.mp (show (valPs ds).map PyData.list = some _ from hp)
    obtain ⟨a, vs, rfl, _, t, rr⟩ := rv
    cases ru
    obtain ⟨its, rv, ob, _⟩ := I.list (.of t)
    obtain ⟨as, hr⟩ := rels_readsV I ds vs its ps rr hps rv
    obtain ⟨bs, hb, hk⟩ := rels_reprV I ds vs its ps rr hps rv (by simpa [PyData.showable] using h1) fun t ht => Nat.le_trans (listText_mem_le ht) (by simpa only [PyData.shown] using h3)
    exact lst_callV gd hu ob hr hb hk hsh fin
  | dic t kvs =>
    cases kvs with
    | cons _ _ => cases hp
    | nil =>
      cases hp
      obtain ⟨a, o, n, rfl, g1, g2, g3, g4⟩ := dic0_at I rv ru
      exact repr_of_reads' (d := .dict []) (.dict (as := []) (bs := []) g1 g2 g3 .nil .nil) h1 (fun _ => by simpa using fun z => beq_eq_false_iff_ne.mp g4 z.symm) gd (by simp [PyData.depth, PyData.depthKv]; omega) (fun _ _ e => e) (fun h' t tk hk => fin h' t tk hk) h3
  | _ => cases hp
end
end L2.DL

/-! DL81: defs whatever guards stand (calls within repr of a list); repr of a list or tuple of one own instance -/
namespace L2
open PySem PySem.Spec PyProof.Rows
section
variable {P : Program} {w : World} {K : PySem.W.Frag} {mg : Str → Option Value} {base : Heap} {k : Nat} {f : Addr} {fd : FuncData} {ps : List Str} {sp : Sp}
end
end L2
namespace L2.DL
open PySem PySem.Spec PyProof.Rows
section
variable {P : Program} {w : World} {K : PySem.W.Frag} {mg : Str → Option Value} {base : Heap}
end
section
variable {X : Cx} {k : Nat} {g C : Addr} {fd : FuncData} {ps : List Str} {dsp : DSp} {pins : List (Addr × Obj)} {σ : St} {H : Hp} {s : Shared}
end
end L2.DL

/-! DL88: own exceptions made as values; raise of one with two fields -/
namespace L2.DL
open PySem PySem.Spec PyProof.Rows
theorem relF_zip {K : PySem.W.Frag} {S : SO} {H : Hp} : ∀ {gs : List Str} {xs : List D} {vs : List V}, Rels K S H xs vs → RelF K S H (gs.zip xs) (gs.zip vs)
  | [], _, _, _ => by
    rw [List.zip_nil_left, List.zip_nil_left]
    exact rfl
  | g :: gs, [], _, h => by
    have e : _ = [] := h
    rw [e, List.zip_nil_right, List.zip_nil_right]
    exact rfl
  | g :: gs, x :: xs, _, h => by
    obtain ⟨v, r, rfl, h1, h2⟩ := h
    exact ⟨v, gs.zip r, rfl, h1, relF_zip h2⟩
section
variable {X : Cx} {W : WX} {C fI : Addr} {B newId initId : String} {bmB : List Value} {g n : Str} {gs : List Str} {ta : WA} {e a b : Expr} {p p2 pos : Pos} {k : Nat} {kws : List Keyword}
/-- n(..) as a value -/
def wMkE (n : Str) (gs : List Str) (t : WA) : WE := fun sd S Q => t sd S fun xs S1 => xs.length = gs.length ∧ ∀ p, S1 p = none → Q (.obj p) (S1.set p (.err n (gs.zip xs)))
theorem de_mk (hC : PySem.W.nsIn X.K mainGlobals n = some (some (.ref C))) (h : PE X e (tMkV C gs (liftA X.K ta))) : DE X e (wMkE n gs ta) := pe_imp h fun σ H Q ⟨sd, S, Q0, st, q, an⟩ => by
  refine ⟨sd, S, _, st, q, fun xs S1 vs H1 ⟨hl, q1⟩ n1 s1 r1 => ⟨by rw [← r1.length, hl], fun d e nd ne hde => ?_⟩⟩
  have n2 : Nx S1 H1 S1 (upd H1 d (.xd (gs.zip vs))) := nx_new nd
  have s2 := s1.new (o := .xd (gs.zip vs)) nd
  have ne2 : upd H1 d (.xd (gs.zip vs)) e = none := by rw [upd_ne (Ne.symm hde)]; exact ne
  have n3 : Nx S1 (upd H1 d (.xd (gs.zip vs))) (S1.set e (.err n (gs.zip xs))) (upd (upd H1 d (.xd (gs.zip vs))) e (ErrO e C (some d))) := nx_obj ne2 (s1.free ne)
  have s3 : SRel X.K (S1.set e (.err n (gs.zip xs))) (upd (upd H1 d (.xd (gs.zip vs))) e (ErrO e C (some d))) :=
    srel_put s2 n3 ⟨C, some d, hC, upd_same, gs.zip vs, by rw [set_ne hde]; exact s1.free nd, by rw [upd_ne hde]; exact upd_same, (relF_zip (Rels.nx (n2.trans n3) _ _ r1))⟩
  exact an _ _ _ _ (q1 e (s1.free ne)) (n1.trans (n2.trans n3)) s3 rfl
theorem de_mk1 (FB : PySem.ErrX.BaseF B newId initId bmB) (T : PySem.ErrX.ClsE X.K C B newId bmB) (In : PySem.ErrX.InitE X.prog X.K C fI initId g) (hC : PySem.W.nsIn X.K mainGlobals n = some (some (.ref C))) (hm : X.mg n = some (.ref C)) (hr : Room k X.A) (ha : DA X [a] ta) (hg : Gl X n := by rfl) (hdb : (n == ("__debug__" : Str)) = false := by decide)
    (he : starEach (a :: []) X.env = (false, eval a X.env) :: starEach [] X.env := by rfl) (hpl : (backTo pos (starEach [] X.env)).any (·.1) = false := by rfl) :
    DE X (.Call (.Name n p) [a] [] pos) (wMkE n [g] ta) := de_mk hC (pe_mk1 FB T In hm hr ha hg hdb he hpl)
theorem de_mk1K (FB : PySem.ErrX.BaseF B newId initId bmB) (T : PySem.ErrX.ClsE X.K C B newId bmB) (In : PySem.ErrX.InitE X.prog X.K C fI initId g) (FK : PySem.ErrX.FieldK g) (hC : PySem.W.nsIn X.K mainGlobals n = some (some (.ref C))) (hm : X.mg n = some (.ref C)) (hr : Room k X.A) (ha : DK X kws ta) (hg : Gl X n := by rfl) (hdb : (n == ("__debug__" : Str)) = false := by decide)
    (hall : (backToKw pos (keywordEach kws X.env)).all (·.1.isSome) = true := by rfl) (hks : (backToKw pos (keywordEach kws X.env)).filterMap (·.1) = [g] := by rfl)
    (hpl : ((backTo pos (starEach [] X.env)).any (·.1) || (backToKw pos (keywordEach kws X.env)).any (·.1.isNone)) = false := by rfl) :
    DE X (.Call (.Name n p) [] kws pos) (wMkE n [g] ta) := de_mk hC (pe_mk1K FB T In FK hm hr ha hg hdb hall hks hpl)
theorem de_mk2 (FB : PySem.ErrX.BaseF B newId initId bmB) (T : PySem.ErrX.ClsE X.K C B newId bmB) (In : PySem.ErrX.InitE2 X.prog X.K C fI initId) (hC : PySem.W.nsIn X.K mainGlobals n = some (some (.ref C))) (hm : X.mg n = some (.ref C)) (hr : Room k X.A) (ha : DA X [a, b] ta) (hg : Gl X n := by rfl) (hdb : (n == ("__debug__" : Str)) = false := by decide)
    (he : starEach [a, b] X.env = (false, eval a X.env) :: starEach [b] X.env := by rfl) (hpl : (backTo pos (starEach [b] X.env)).any (·.1) = false := by rfl) :
    DE X (.Call (.Name n p) [a, b] [] pos) (wMkE n ["index", "shown"] ta) := de_mk hC (pe_mk2 FB T In hm hr ha hg hdb he hpl)
theorem de_mk2K (FB : PySem.ErrX.BaseF B newId initId bmB) (T : PySem.ErrX.ClsE X.K C B newId bmB) (In : PySem.ErrX.InitE2 X.prog X.K C fI initId) (hC : PySem.W.nsIn X.K mainGlobals n = some (some (.ref C))) (hm : X.mg n = some (.ref C)) (hr : Room k X.A) (ha : DK X kws ta) (hg : Gl X n := by rfl) (hdb : (n == ("__debug__" : Str)) = false := by decide)
    (hall : (backToKw pos (keywordEach kws X.env)).all (·.1.isSome) = true := by rfl) (hks : (backToKw pos (keywordEach kws X.env)).filterMap (·.1) = (["shown", "index"] : List Str) := by rfl)
    (hpl : ((backTo pos (starEach [] X.env)).any (·.1) || (backToKw pos (keywordEach kws X.env)).any (·.1.isNone)) = false := by rfl) :
    DE X (.Call (.Name n p) [] kws pos) (wMkE n ["shown", "index"] ta) := de_mk hC (pe_mk2K FB T In hm hr ha hg hdb hall hks hpl)
/-- n(), of a class without an own __init__ -/
def wMkE0 (n : Str) : WE := fun _ S Q => ∀ p, S p = none → Q (.obj p) (S.set p (.err n []))
theorem de_mk0 (FB : PySem.ErrX.BaseF B newId initId bmB) (T : Cls0 X.K C B newId bmB) (hC : PySem.W.nsIn X.K mainGlobals n = some (some (.ref C))) (hm : X.mg n = some (.ref C)) (hg : Gl X n := by rfl) (hdb : (n == ("__debug__" : Str)) = false := by decide) :
    DE X (.Call (.Name n p) [] [] pos) (wMkE0 n) := by
  refine ⟨fun pins s σ H Q I ⟨sd, S, Q0, st, q, an⟩ => wpAny_Call_Name_kw (ld_glob I hg hm (PySem.W.callWith_K0 I.kIn T.kC ?_) hdb)⟩
  obtain ⟨bm, N, nm, qn, bs, hdct, sn, sub, ab, col, dd, k0, k1, k2, k3, k5, mN, hC', hN, hni, TT⟩ := exc_obj I.kIn T.ei
  refine wpAny_call_exc_subT FB.base TT hC' hN hni (fun h' e hm' => ?_) (Nat.zero_le _)
  obtain ⟨t, he, _, _⟩ := hm'.there
  have ne : H e = none := I.hok.gone hm'.new
  have J : Inv X pins σ (upd H e (ErrO e C none)) { s with heap := h' } := I.laidN (t' := s.toks) hm'.keeps hm'.new ne (errO_ok he rfl rfl rfl)
  have n2 : Nx S H (S.set e (.err n [])) (upd H e (ErrO e C none)) := nx_obj ne (st.s.free ne)
  have s2 : SRel X.K (S.set e (.err n [])) (upd H e (ErrO e C none)) := srel_put st.s n2 ⟨C, none, hC, upd_same, rfl⟩
  exact ⟨.ref e, _, J, rfl, an _ _ _ _ (q e (st.s.free ne)) n2 s2 rfl⟩
/-- raise n(a, b) -/
def wRaise2 (n : Str) (t : WA) : WSX := fun _ X0 sd S => t sd S fun xs S1 => xs.length = 2 ∧ X0 sd n ((["index", "shown"] : List Str).zip xs) S1
theorem dsx_raise2 (hc : X.calm = true) (tk : Takes X W) (FB : PySem.ErrX.BaseF B newId initId bmB) (T : PySem.ErrX.ClsE X.K C B newId bmB) (In : PySem.ErrX.InitE2 X.prog X.K C fI initId) (hC : PySem.W.nsIn X.K mainGlobals n = some (some (.ref C))) (hm : X.mg n = some (.ref C)) (hr : Room k X.A) (ha : DA X.nox [a, b] ta) (hg : Gl X n := by rfl) (hdb : (n == ("__debug__" : Str)) = false := by decide)
    (he : starEach [a, b] X.env = (false, eval a X.env) :: starEach [b] X.env := by rfl) (hpl : (backTo pos (starEach [b] X.env)).any (·.1) = false := by rfl) : DSX X W (.Raise (some (.Call (.Name n p) [a, b] [] pos)) none p2) (wRaise2 n ta) := by
  refine ps_imp (ps_raise hc tk (pmk_err2 FB T In hm hr (DA.nox ha) hg hdb he hpl)) fun E σ H ⟨sd, S, E0, X0, st, q, an, ax⟩ => ?_
  refine ⟨sd, S, _, st, q, fun xs S1 vs H1 ⟨hl, q1⟩ n1 s1 r1 => ⟨by rw [← r1.length, hl], fun d hd => ?_⟩⟩
  have n2 : Nx S1 H1 S1 (upd H1 d (.xd ((["index", "shown"] : List Str).zip vs))) := nx_new hd
  have s2 := s1.new (o := .xd ((["index", "shown"] : List Str).zip vs)) hd
  exact ax n _ sd S1 σ _ C (some d) q1 (n1.trans n2) (st.nx (n1.trans n2) s2) hC ⟨_, s1.free hd, upd_same, relF_zip (Rels.nx n2 _ _ r1)⟩
/-- S holds these objects besides those of S0 -/
def HasX (S0 : SO) (L : List (Addr × DO)) (S : SO) : Prop := (∀ a o, S0 a = some o → S a = some o) ∧ ∀ e ∈ L, S e.1 = some e.2
theorem HasX.new {S0 : SO} {L : List (Addr × DO)} {S : SO} {q : Addr} {o : DO} (h : HasX S0 L S) (nq : S q = none) : HasX S0 ((q, o) :: L) (S.set q o) := ⟨fun a u e => by
    have e' := h.1 a u e
    rw [set_ne (so_ne e' nq)]
    exact e', fun e he => by
    rcases List.mem_cons.mp he with rfl | he
    · exact set_same
    · rw [set_ne (so_ne (h.2 e he) nq)]
      exact h.2 e he⟩
section
variable {L : List (Addr × DO)} {i : Nat} {x y : D} {f : Str} {sd : SD} {S S0 : SO} {Q : KD}
theorem xMk1 (hv : ∀ P : KD, P x S → wV i sd S P) (hS : HasX S0 L S) (h : ∀ q S', HasX S0 ((q, DO.err n [(g, x)]) :: L) S' → Q (.obj q) S') : wMkE n [g] (wCons (wV i) wNil) sd S Q := hv _ ⟨rfl, fun q nq => h q _ (hS.new nq)⟩
theorem xMk0 (hS : HasX S0 L S) (h : ∀ q S', HasX S0 ((q, DO.err n []) :: L) S' → Q (.obj q) S') : wMkE0 n sd S Q := fun q nq => h q _ (hS.new nq)
theorem xMk2 (hv : ∀ P : KD, P x S → wV i sd S P) (hS : HasX S0 L S) (h : ∀ q S', HasX S0 ((q, DO.err n [(f, x), (g, y)]) :: L) S' → Q (.obj q) S') : wMkE n [f, g] (wCons (wV i) (wCons (wC y) wNil)) sd S Q := hv _ ⟨rfl, fun q nq => h q _ (hS.new nq)⟩
theorem xMk2' (hv : ∀ P : KD, P x S → wV i sd S P) (hS : HasX S0 L S) (h : ∀ q S', HasX S0 ((q, DO.err n [(f, y), (g, x)]) :: L) S' → Q (.obj q) S') : wMkE n [f, g] (wCons (wC y) (wCons (wV i) wNil)) sd S Q := hv _ ⟨rfl, fun q nq => h q _ (hS.new nq)⟩
theorem clX {d : D} {S' : SO} (h : ∀ a o, S a = some o → S' a = some o) (q : Q d S) : Cl Q d S' := ⟨d, S, .to d h, q⟩
end
theorem xRaise2 {E : EndsD} {X0 : EX} {sd : SD} {S : SO} (h : ta sd S fun xs S1 => xs.length = 2 ∧ X0 sd n ((["index", "shown"] : List Str).zip xs) S1) : wRaise2 n ta E X0 sd S := h
instance st_xRaise2 {lw : Lv} {E : EndsD} {X0 : EX} {sd : SD} {S : SO} : Step (.s (.s (.s (.s lw)))) (wRaise2 n ta E X0 sd S) (ta sd S fun xs S1 => xs.length = 2 ∧ X0 sd n ((["index", "shown"] : List Str).zip xs) S1) := ⟨fun h => xRaise2 h⟩
end
end L2.DL

namespace L2.DL
open PySem PySem.Spec PyProof.Rows
end L2.DL

namespace L2.DL
open PySem PySem.Spec PyProof.Rows
/-! ### names, places, ties as data -/
abbrev plD (ps : List Str) : List D := ps.map D.str
def prD (t : Str × Str) : D := .tup [.str t.1, .str t.2]
def mkD (ts : List (Str × Str)) : List (D × D) := ts.map fun t => (prD t, .bl true)
def webD (W : Addr) (ps : List Str) (ts : List (Str × Str)) : D := .ins W [("row", .tf (plD ps)), ("pairs", .tf (ts.map prD)), ("marks", .dic true (mkD ts))]
abbrev sOk (x : Str) : Prop := PyData.canLay0 (.str x) = true
theorem sOk_of {x : Str} (h : ∀ c ∈ x.cps.toList, c < 0x110000) : sOk x := by
  show PyData.canLay0 (.str x) = true
  simp only [PyData.canLay0, PyData.strOk]
  rw [Array.all_eq_true_iff_forall_mem]
  intro c hc
  exact decide_eq_true (h c (by simpa using hc))
theorem pyDs_strs : ∀ xs : List Str, pyDs (plD xs) = some (xs.map PyData.str)
  | [] => rfl
  | x :: xs => by
    show (pyD (.str x)).bind (fun p => (pyDs (plD xs)).map fun ps => p :: ps) = _
    rw [pyDs_strs xs]
    rfl
theorem canLayAll_map {α : Type} {f : α → PyData} : ∀ {xs : List α}, (∀ x ∈ xs, (f x).canLay0 = true) → PyData.canLayAll0 (xs.map f) = true
  | [], _ => by simp [PyData.canLayAll0]
  | x :: xs, h => by
    rw [List.map_cons]
    simp only [PyData.canLayAll0, Bool.and_eq_true]
    exact ⟨h x (List.mem_cons_self ..), canLayAll_map fun y hy => h y (List.mem_cons_of_mem _ hy)⟩
theorem depthAll_map {α : Type} {f : α → PyData} {n : Nat} : ∀ {xs : List α}, (∀ x ∈ xs, (f x).depth ≤ n) → PyData.depthAll (xs.map f) ≤ n
  | [], _ => by simp [PyData.depthAll]
  | x :: xs, h => by
    rw [List.map_cons]
    simp only [PyData.depthAll]
    exact Nat.max_le.mpr ⟨h x (List.mem_cons_self ..), depthAll_map fun y hy => h y (List.mem_cons_of_mem _ hy)⟩
theorem shaped_of {p : PyData} (h : p.canLay0 = true) (hd : p.depth ≤ 64) : SeqAt.shaped p = true := by
  unfold SeqAt.shaped
  rw [h, decide_eq_true hd]
  rfl
theorem eqv_str (a b : Str) : PyData.eqv (.str a) (.str b) = decide (a = b) := by
  simp only [PyData.eqv]
  by_cases h : a = b
  · rw [h]
    simp
  · rw [decide_eq_false h]
    simpa using h
theorem prD_inj {a b : Str × Str} (h : prD a = prD b) : a = b := by
  obtain ⟨a1, a2⟩ := a
  obtain ⟨b1, b2⟩ := b
  unfold prD at h
  simp at h
  rw [h.1, h.2]
end L2.DL

namespace L2.DL
open PySem PySem.Spec PyProof.Rows
/-! ### wrong_place -/
/-! ### is_pair -/
end L2.DL

namespace L2.DL
open PySem PySem.Spec PyProof.Rows
/-! ### wrong_tie -/
/-! ### check_places, check_ties -/
/-! ### Web.__init__ -/
def fsD (ps : List Str) (ts : List (Str × Str)) : List (Str × D) := [("row", .tf (plD ps)), ("pairs", .tf (ts.map prD)), ("marks", .dic true (mkD ts))]
/-! ### has_tie, check_web, check_place -/
def sp_Web_has_tie (W : Addr) : DSp := fun ds S Q E => ∃ (ps : List Str) (ts : List (Str × Str)) (a b : Str), ds = [webD W ps ts, .str a, .str b] ∧ Q (.bl (decide ((a, b) ∈ ts))) S
def sp_check_web (W : Addr) : DSp := fun ds S Q E => ∃ (ps : List Str) (ts : List (Str × Str)), ds = [webD W ps ts] ∧ Q .non S
end L2.DL

namespace L2.DL
open PySem PySem.Spec PyProof.Rows
/-! ### nexts_of -/
end L2.DL

namespace L2.DL
open PySem PySem.Spec PyProof.Rows
/-! ### what is reached -/
end L2.DL

namespace L2.DL
open PySem PySem.Spec PyProof.Rows
end L2.DL

namespace L2.DL
open PySem PySem.Spec PyProof.Rows
/-! ### leads -/
end L2.DL

namespace L2.DL
open PySem PySem.Spec PyProof.Rows
/-! ### draws: a list of three numbers -/
/-! ### _law_scoop, _law_pick -/
/-- the items of what does not change -/
def fz : D → Option (List D)
  | .lst xs => some xs
  | .tup xs => some xs
  | .tf xs => some xs
  | .src xs => some xs
  | .kt xs => some xs
  | _ => none
end L2.DL

namespace L2.DL
open PySem PySem.Spec PyProof.Rows
/-! ### drawn names -/
end L2.DL

namespace L2.DL
open PySem PySem.Spec PyProof.Rows
/-! ### drawn ties -/
/-! ### _law_case, _law_made -/
end L2.DL

namespace L2.DL
open PySem PySem.Spec PyProof.Rows
/-! ### draws of the other family -/
end L2.DL

namespace L2.DL
open PySem PySem.Spec PyProof.Rows
/-! ### _law_folk: names -/
/-! ### the stem -/
end L2.DL

namespace L2.DL
open PySem PySem.Spec PyProof.Rows
end L2.DL

namespace L2.DL
open PySem PySem.Spec PyProof.Rows
end L2.DL

namespace L2.DL
open PySem PySem.Spec PyProof.Rows
/-! ### equality of rows of texts and of pairs -/
theorem eqvAll_map {α : Type} [DecidableEq α] {f : α → PyData} (h : ∀ a b, PyData.eqv (f a) (f b) = decide (a = b)) : ∀ xs ys : List α, PyData.eqvAll (xs.map f) (ys.map f) = decide (xs = ys)
  | [], [] => by simp [PyData.eqvAll]
  | [], y :: ys => by simp [PyData.eqvAll]
  | x :: xs, [] => by simp [PyData.eqvAll]
  | x :: xs, y :: ys => by
    show PyData.eqvAll (f x :: xs.map f) (f y :: ys.map f) = _
    simp only [PyData.eqvAll]
    rw [h, eqvAll_map h xs ys]
    by_cases h1 : x = y <;> by_cases h2 : xs = ys <;> simp [h1, h2]
theorem eqv_tups {α : Type} [DecidableEq α] {f : α → PyData} (h : ∀ a b, PyData.eqv (f a) (f b) = decide (a = b)) (xs ys : List α) : PyData.eqv (.tuple (xs.map f)) (.tuple (ys.map f)) = decide (xs = ys) := by
  simp only [PyData.eqv]
  exact eqvAll_map h xs ys
/-! ### with_tie, without_tie, turned -/
/-! ### == and != of webs -/
end L2.DL

namespace L2.DL
open PySem PySem.Spec PyProof.Rows
/-! ### _law_ties, _law_net, _law_made -/
end L2.DL

namespace L2.DL
open PySem PySem.Spec PyProof.Rows
/-! ### what repr may show -/
end L2.DL

namespace L2.DL
open PySem PySem.Spec PyProof.Rows
/-! ### k07: turned -/
end L2.DL

namespace L2.DL
open PySem PySem.Spec PyProof.Rows
/-! ### law, as most laws of the family have it -/
end L2.DL

namespace L2.DL
open PySem PySem.Spec PyProof.Rows
end L2.DL

namespace L2.DL
open PySem PySem.Spec PyProof.Rows
/-! ### roads and partings, good ones -/
def TupD (d : D) (xs : List D) : Prop := d = .tf xs ∨ d = .tup xs
theorem TupD.ty {d : D} {xs : List D} (h : TupD d xs) (S : SO) : tyX S d = some (.inl "tuple") := by
  rcases h with rfl | rfl <;> rfl
theorem TupD.seq {d : D} {xs : List D} (h : TupD d xs) (S : SO) : seqX S d = some xs := by
  rcases h with rfl | rfl <;> rfl
end L2.DL

namespace L2.DL
open PySem PySem.Spec PyProof.Rows
inductive Rows : List D → List (List Str) → Prop
  | nil : Rows [] []
  | cons {d : D} {r : List Str} {ds : List D} {rs : List (List Str)} (h : TupD d (plD r)) (t : Rows ds rs) : Rows (d :: ds) (r :: rs)
theorem Rows.len {ds : List D} {rs : List (List Str)} (h : Rows ds rs) : ds.length = rs.length := by
  induction h with
  | nil => rfl
  | cons _ _ ih => rw [List.length_cons, List.length_cons, ih]
theorem Rows.mem {ds : List D} {rs : List (List Str)} (h : Rows ds rs) : ∀ d ∈ ds, ∃ r ∈ rs, TupD d (plD r) := by
  induction h with
  | nil => intro d h; cases h
  | cons h _ ih =>
    intro d hd
    rcases List.mem_cons.mp hd with rfl | hd
    · exact ⟨_, List.mem_cons_self .., h⟩
    · obtain ⟨r, hr, t⟩ := ih d hd
      exact ⟨r, List.mem_cons_of_mem _ hr, t⟩
theorem TupD.fz {d : D} {xs : List D} (h : TupD d xs) : DL.fz d = some xs := by
  rcases h with rfl | rfl <;> rfl
def unD (d : D) : List D := (fz d).getD []
theorem TupD.un {d : D} {xs : List D} (h : TupD d xs) : unD d = xs := by
  unfold unD
  rw [h.fz]
  rfl
/-! ### singles, lasts -/
def lastS (r : List Str) : Str := r.getLastD Str.empty
end L2.DL

namespace L2.DL
open PySem PySem.Spec PyProof.Rows
theorem last_plD {r : List Str} (h : r ≠ []) : (plD r).getLast? = some (.str (lastS r)) := by
  show (r.map D.str).getLast? = _
  rw [List.getLast?_map]
  unfold lastS
  rw [List.getLastD_eq_getLast?]
  cases e : r.getLast? with
  | none => exact absurd (List.getLast?_eq_none_iff.mp e) h
  | some y => rfl
def lastD (d : D) : D := ((unD d).getLast?).getD .non
theorem lastD_of {d : D} {r : List Str} (T : TupD d (plD r)) (h : r ≠ []) : lastD d = .str (lastS r) := by
  unfold lastD
  rw [T.un, last_plD h]
  rfl
theorem Rows.lasts {ds : List D} {rs : List (List Str)} (h : Rows ds rs) (hn : ∀ r ∈ rs, r ≠ []) : ds.map lastD = plD (rs.map lastS) := by
  induction h with
  | nil => rfl
  | cons h _ ih =>
    rw [List.map_cons, ih fun r hr => hn r (List.mem_cons_of_mem _ hr), lastD_of h (hn _ (List.mem_cons_self ..))]
    rfl
/-! ### _law_walk -/
end L2.DL

namespace L2.DL
open PySem PySem.Spec PyProof.Rows
/-! ### _law_rows -/
end L2.DL

namespace L2.DL
open PySem PySem.Spec PyProof.Rows
/-! ### rows turned round -/
/-! what repr shows -/
end L2.DL

namespace L2.DL
open PySem PySem.Spec PyProof.Rows
/-! ### steps for webs -/
instance : InjD prD := ⟨fun _ _ h => prD_inj h⟩
section
variable {W : Addr} {ps : List Str} {ts : List (Str × Str)} {S : SO} {Q : KD} {E : EK} {A : Prop} {a b : Str}
theorem fldRow (h : Q (.tf (plD ps)) S) : FldD W "row" (webD W ps ts) S Q := ⟨_, _, ⟨rfl, rfl⟩, rfl, h⟩
instance st_fldRow {lw : Lv} : Step (.s lw) (FldD W "row" (webD W ps ts) S Q) (Q (.tf (plD ps)) S) := ⟨fun h => fldRow h⟩
theorem fldPairs (h : Q (.tf (ts.map prD)) S) : FldD W "pairs" (webD W ps ts) S Q := ⟨_, _, ⟨rfl, rfl⟩, rfl, h⟩
instance st_fldPairs {lw : Lv} : Step (.s lw) (FldD W "pairs" (webD W ps ts) S Q) (Q (.tf (ts.map prD)) S) := ⟨fun h => fldPairs h⟩
theorem fldMarks (h : Q (.dic true (mkD ts)) S) : FldD W "marks" (webD W ps ts) S Q := ⟨_, _, ⟨rfl, rfl⟩, rfl, h⟩
instance st_fldMarks {lw : Lv} : Step (.s lw) (FldD W "marks" (webD W ps ts) S Q) (Q (.dic true (mkD ts)) S) := ⟨fun h => fldMarks h⟩
theorem mthTie {m : Str} (h : A) (hm : (fsD ps ts).lookup m = none := by with_unfolding_all rfl) : MthD W m (webD W ps ts) S A := ⟨⟨_, ⟨rfl, rfl⟩, hm⟩, h⟩
theorem hasTie (h : Q (.bl (decide ((a, b) ∈ ts))) S) : sp_Web_has_tie W [webD W ps ts, .str a, .str b] S Q E := ⟨ps, ts, a, b, rfl, h⟩
instance st_hasTie {lw : Lv} : Step (.s lw) (sp_Web_has_tie W [webD W ps ts, .str a, .str b] S Q E) (Q (.bl (decide ((a, b) ∈ ts))) S) := ⟨fun h => hasTie h⟩
theorem chkWeb (h : Q .non S) : sp_check_web W [webD W ps ts] S Q E := ⟨ps, ts, rfl, h⟩
instance st_chkWeb {lw : Lv} : Step (.s lw) (sp_check_web W [webD W ps ts] S Q E) (Q .non S) := ⟨fun h => chkWeb h⟩
end
/-! isinstance -/
section
variable {S : SO} {Q : KD} {xs : List D} {x : Str} {i : Int} {b : Bool}
theorem isiTup (h : Q (.bl true) S) : cIsi (.ty "tuple") (fTy "tuple" []) [.tup xs, .ty "tuple"] S Q := ⟨rfl, _, _, rfl, rfl, h⟩
instance st_isiTup {lw : Lv} : Step (.s lw) (cIsi (.ty "tuple") (fTy "tuple" []) [.tup xs, .ty "tuple"] S Q) (Q (.bl true) S) := ⟨fun h => isiTup h⟩
theorem isiTf (h : Q (.bl true) S) : cIsi (.ty "tuple") (fTy "tuple" []) [.tf xs, .ty "tuple"] S Q := ⟨rfl, _, _, rfl, rfl, h⟩
instance st_isiTf {lw : Lv} : Step (.s lw) (cIsi (.ty "tuple") (fTy "tuple" []) [.tf xs, .ty "tuple"] S Q) (Q (.bl true) S) := ⟨fun h => isiTf h⟩
theorem isiStr (h : Q (.bl true) S) : cIsi (.ty "str") (fTy "str" []) [.str x, .ty "str"] S Q := ⟨rfl, _, _, rfl, rfl, h⟩
instance st_isiStr {lw : Lv} : Step (.s lw) (cIsi (.ty "str") (fTy "str" []) [.str x, .ty "str"] S Q) (Q (.bl true) S) := ⟨fun h => isiStr h⟩
end
/-! in, equal -/
section
variable {S : SO} {Q : KD} {x : Str} {xs : List Str} {a b : Str} {ls : List (Str × Str)}
end
/-! objects: a cup at p, a list at f -/
section
variable {S : SO} {p f : Addr} {u u' v v' : DO}
end
/-! draws -/
section
variable {W : Addr} {S : SO} {Q : KD} {E : EK} {p : Addr} {a b c : Int}
end
end L2.DL

namespace L2.DL
open PySem PySem.Spec PyProof.Rows
end L2.DL

namespace L2.DL
open PySem PySem.Spec PyProof.Rows
/-! draws of this family, typed -/
end L2.DL

namespace L2.DL
open PySem PySem.Spec PyProof.Rows
/-! ### steps, as mathematics: from a parting to a witness, or to a parting with fewer roads -/
def lasts (rs : List (List Str)) : List Str := rs.map lastS
section
variable {ps : List Str} {ts : List (Str × Str)} {rs A B : List (List Str)} {r : List Str} {x y fresh : Str}
end
end L2.DL

/-! Y4: the text that repr makes is a text whose signs are all code points -/
namespace L2.DL
open PySem PySem.Spec PyProof.Rows
def OkS (x : Str) : Prop := ∀ c ∈ x.cps.toList, c < 0x110000
theorem okS_lit (s : String) : OkS (Str.ofString s) := by
  rw [Str.ofString_eq_toList]
  intro c hc
  have hc' : c ∈ s.toList.map Char.toNat := by simpa using hc
  obtain ⟨ch, _, rfl⟩ := List.mem_map.mp hc'
  have h := ch.valid
  rcases h with h | ⟨_, h⟩
  · exact Nat.lt_trans h (by decide)
  · exact h
theorem okS_app {x y : Str} (hx : OkS x) (hy : OkS y) : OkS (x ++ y) := fun c hc => by
  have e : (x ++ y).cps = x.cps ++ y.cps := rfl
  rw [e, Array.toList_append, List.mem_append] at hc
  exact hc.elim (hx c) (hy c)
theorem okS_of {x : Str} (h : sOk x) : OkS x := fun c hc => by
  have h1 : PyData.strOk x = true := by
    have h' : PyData.canLay0 (.str x) = true := h
    simpa only [PyData.canLay0] using h'
  unfold PyData.strOk at h1
  rw [Array.all_eq_true_iff_forall_mem] at h1
  have := h1 c (by simpa using hc)
  simpa using this
theorem dig_lt {n : Nat} (h : n < 16) : (Nat.digitChar n).toNat < 128 := by
  have : ∀ n, n < 16 → (Nat.digitChar n).toNat < 128 := by decide
  exact this n h
theorem digits_lt : ∀ (fuel n : Nat) (acc : List Char), (∀ c ∈ acc, c.toNat < 128) → ∀ c ∈ Nat.toDigitsCore 16 fuel n acc, c.toNat < 128
  | 0, n, acc, h => h
  | fuel + 1, n, acc, h => by
    unfold Nat.toDigitsCore
    have hd : ∀ c ∈ (Nat.digitChar (n % 16)) :: acc, c.toNat < 128 := fun c hc => by
      rcases List.mem_cons.mp hc with rfl | hc
      · exact dig_lt (Nat.mod_lt _ (by decide))
      · exact h c hc
    show ∀ c ∈ (if n / 16 = 0 then Nat.digitChar (n % 16) :: acc else Nat.toDigitsCore 16 fuel (n / 16) (Nat.digitChar (n % 16) :: acc)), c.toNat < 128
    split
    · exact hd
    · exact digits_lt fuel (n / 16) _ hd
theorem hex_ok {c w : Nat} : ∀ x ∈ List.replicate (w - ((Nat.toDigits 16 c).map Char.toNat).length) 48 ++ (Nat.toDigits 16 c).map Char.toNat, x < 0x110000 := fun x hx => by
  rcases List.mem_append.mp hx with hx | hx
  · rw [(List.mem_replicate.mp hx).2]
    decide
  · obtain ⟨ch, hch, rfl⟩ := List.mem_map.mp hx
    have : ch.toNat < 128 := digits_lt _ _ _ (by simp) ch hch
    omega
theorem reprChar_ok {q c : Nat} (hc : c < 0x110000) : ∀ x ∈ Builtin.Str.reprChar q c, x < 0x110000 := by
  intro x hx
  unfold Builtin.Str.reprChar at hx
  simp only at hx
  split at hx
  · simp only [List.mem_cons, List.not_mem_nil, or_false] at hx
    omega
  · split at hx
    · simp only [List.mem_cons, List.not_mem_nil, or_false] at hx
      omega
    · split at hx
      · simp only [List.mem_cons, List.not_mem_nil, or_false] at hx
        omega
      · split at hx
        · simp only [List.mem_cons, List.not_mem_nil, or_false] at hx
          omega
        · split at hx
          · simp only [List.mem_cons, List.not_mem_nil, or_false] at hx
            omega
          · split at hx
            · rcases List.mem_append.mp hx with hx | hx
              · simp only [List.mem_cons, List.not_mem_nil, or_false] at hx
                omega
              · exact hex_ok x hx
            · split at hx
              · rcases List.mem_append.mp hx with hx | hx
                · simp only [List.mem_cons, List.not_mem_nil, or_false] at hx
                  omega
                · exact hex_ok x hx
              · rcases List.mem_append.mp hx with hx | hx
                · simp only [List.mem_cons, List.not_mem_nil, or_false] at hx
                  omega
                · exact hex_ok x hx
theorem foldl_ok {q : Nat} : ∀ (l : List Nat) (acc : Array Nat), (∀ c ∈ l, c < 0x110000) → (∀ c ∈ acc.toList, c < 0x110000) → ∀ c ∈ (l.foldl (fun out c => out ++ (Builtin.Str.reprChar q c).toArray) acc).toList, c < 0x110000
  | [], acc, _, h => h
  | a :: l, acc, hl, h => by
    refine foldl_ok l _ (fun c hc => hl c (List.mem_cons_of_mem _ hc)) fun c hc => ?_
    rw [Array.toList_append, List.mem_append] at hc
    rcases hc with hc | hc
    · exact h c hc
    · exact reprChar_ok (hl a (List.mem_cons_self ..)) c (by simpa using hc)
theorem okS_repr {x : Str} (h : OkS x) : OkS (reprText x) := by
  have hq : reprQuote x < 0x110000 := by
    unfold reprQuote
    split <;> decide
  intro c hc
  unfold reprText at hc
  simp only [Array.toList_push, List.mem_append, List.mem_singleton] at hc
  rcases hc with hc | hc
  · rw [← Array.foldl_toList] at hc
    exact foldl_ok x.cps.toList _ h (fun c hc => by simp only [List.mem_singleton] at hc; rw [hc]; exact hq) c hc
  · rw [hc]
    exact hq
theorem okS_from : ∀ (ts : List Str) (k : Nat) (acc : Str), OkS acc → (∀ t ∈ ts, OkS t) → OkS (textFrom k acc ts)
  | [], k, acc, h, _ => h
  | t :: r, k, acc, h, ht => by
    refine okS_from r (k + 1) _ ?_ fun u hu => ht u (List.mem_cons_of_mem _ hu)
    refine okS_app (okS_app h (okS_lit _)) (ht t (List.mem_cons_self ..))
theorem okS_join : ∀ (ts : List Str), (∀ t ∈ ts, OkS t) → OkS (Str.join ", " ts)
  | [], _ => fun c hc => by simp [Str.join, Str.empty] at hc
  | [x], h => h x (List.mem_cons_self ..)
  | x :: y :: r, h => okS_app (okS_app (h x (List.mem_cons_self ..)) (okS_lit _)) (okS_join (y :: r) fun t ht => h t (List.mem_cons_of_mem _ ht))
mutual
theorem okS_shown : ∀ p : PyData, p.canLay0 = true → OkS p.shown
  | .none, _ => by
    simp only [PyData.shown]
    exact okS_lit _
  | .bool b, _ => by
    simp only [PyData.shown]
    cases b <;> exact okS_lit _
  | .int i, _ => by
    simp only [PyData.shown]
    exact okS_lit _
  | .str x, h => by
    simp only [PyData.shown]
    exact okS_repr (okS_of h)
  | .list xs, h => by
    simp only [PyData.shown]
    exact okS_app (okS_from _ 0 _ (okS_lit _) (okS_shownAll xs (by simpa only [PyData.canLay0] using h))) (okS_lit _)
  | .tuple xs, h => by
    simp only [PyData.shown]
    exact okS_app (okS_app (okS_lit _) (okS_join _ (okS_shownAll xs (by simpa only [PyData.canLay0] using h)))) (okS_lit _)
  | .dict _, h => by simp [PyData.canLay0] at h
theorem okS_shownAll : ∀ xs : List PyData, PyData.canLayAll0 xs = true → ∀ t ∈ PyData.shownAll xs, OkS t
  | [], _ => fun t ht => by simp [PyData.shownAll] at ht
  | x :: xs, h => fun t ht => by
    have h' : x.canLay0 = true ∧ PyData.canLayAll0 xs = true := by simpa [PyData.canLayAll0] using h
    simp only [PyData.shownAll, List.mem_cons] at ht
    rcases ht with rfl | ht
    · exact okS_shown x h'.1
    · exact okS_shownAll xs h'.2 t ht
end
end L2.DL

namespace L2.DL
local macro_rules | `(tactic| and_intros) => `(tactic| repeat (first | refine Step.go (v := (.s .z)) ?_ | with_reducible refine gTup ?_ | with_reducible refine mthTie ?_ | with_reducible refine andL (by with_unfolding_all exact lez rfl) ?_))
section
open PySem PySem.Spec PyProof.Rows
/-! ### met -/
end
section
open PySem PySem.Spec PyProof.Rows
/-! ### one road over all -/
end
section
open PySem PySem.Spec PyProof.Rows
/-! ### law, as most laws of the family have it, for so many turns -/
/-! ### _law_is_road of good roads -/
instance : InjD (fun i : Nat => D.int ((i : Nat) + 1 : Int)) := ⟨fun _ _ h => by injection h with h; omega⟩
end
section
open PySem PySem.Spec PyProof.Rows
/-! ### the third family of draws -/
/-! steps -/
theorem xSubD {wo wi : WE} {w : WSet} {x : D} {sd : SD} {S : SO} {Qg : SD → SO → Prop} (h : wo sd S fun d S1 => wi sd S1 fun k S2 => w d k x S2 fun S3 => Qg sd S3) : gSubD wo wi w x sd S Qg := h
instance st_xSubD {lw : Lv} {wo wi : WE} {w : WSet} {x : D} {sd : SD} {S : SO} {Qg : SD → SO → Prop} : Step (.s (.s lw)) (gSubD wo wi w x sd S Qg) (wo sd S fun d S1 => wi sd S1 fun k S2 => w d k x S2 fun S3 => Qg sd S3) := ⟨fun h => xSubD h⟩
def MkD (C : Addr) (sp : DSp) (xs : List D) (S : SO) (Q : KD) : Prop := ∀ p, S p = none → sp (.obj p :: xs) (S.set p (.ins C [])) (fun d S2 => d = .non ∧ ∃ fs, S2 p = some (.ins C fs) ∧ Q (.ins C fs) (S2.del p)) NoE
theorem xMakeF {C : Addr} {sp : DSp} {t : WA} {sd : SD} {S : SO} {Q : KD} (h : t sd S fun xs S1 => MkD C sp xs S1 Q) : wMakeF C sp [] t sd S Q := by
  have e : ∀ xs : List D, xs ++ [] = xs := List.append_nil
  unfold wMakeF
  simp only [e]
  exact h
instance st_xMakeF {lw : Lv} {C : Addr} {sp : DSp} {t : WA} {sd : SD} {S : SO} {Q : KD} : Step (.s (.s lw)) (wMakeF C sp [] t sd S Q) (t sd S fun xs S1 => MkD C sp xs S1 Q) := ⟨fun h => xMakeF h⟩
section
variable {S : SO} {Q : KD} {i j : Int}
theorem xInt (h : Q (.int i) S) : cInt [.int i] S Q := h
instance st_xInt {lw : Lv} : Step (.s (.s lw)) (cInt [.int i] S Q) (Q (.int i) S) := ⟨fun h => xInt h⟩
theorem iModL (h : Q (.int (i % j)) S) (hj : 0 < j := by decide) : oMod (.int i) (.int j) S Q := ⟨hj, h⟩
end
end
section
open PySem PySem.Spec PyProof.Rows
/-! ### roads of any kind of value -/
section
variable {S : SO} {Q : KD} {m : Nat} {d x : D} {xs : List D}
theorem Any.items (h : Any m d) (e : asTup d = some xs) : xs.length ≤ m ∧ ∀ x ∈ xs, Any m x := by
  cases h with
  | tup ys hl hx => cases e; exact ⟨hl, hx⟩
  | tf ys hl hx => cases e; exact ⟨hl, hx⟩
  | _ => cases e
end
theorem plD_inj {a b : List Str} (h : plD a = plD b) : a = b := map_inj (f := D.str) h
end
section
open PySem PySem.Spec PyProof.Rows
section
variable {P : Program} {w : World} {K : PySem.W.Frag} {mg : Str → Option Value} {base : Heap}
end
/-! ### _law_is_road of anything -/
/-! ### _law_bent -/
theorem sOk_iff {x : Str} : sOk x ↔ ∀ c ∈ x.cps.toList, c < 0x110000 := by
  refine ⟨fun h c hc => ?_, sOk_of⟩
  have h' : PyData.canLay0 (.str x) = true := h
  simp only [PyData.canLay0, PyData.strOk] at h'
  rw [Array.all_eq_true_iff_forall_mem] at h'
  exact of_decide_eq_true (h' c (by simpa using hc))
end
section
open PySem PySem.Spec PyProof.Rows
end
section
open PySem PySem.Spec PyProof.Rows
/-! ### k08 -/
end
section
open PySem PySem.Spec PyProof.Rows
/-! ### _law_bent, with numbers that are not too great -/
inductive ValB : Nat → Nat → D → Prop
  | non {n m : Nat} : ValB n m .non
  | bl {n m : Nat} (b : Bool) : ValB n m (.bl b)
  | int {n m : Nat} (i : Int) (h : i.natAbs ≤ 10 ^ 30) : ValB n m (.int i)
  | str {n m : Nat} (x : Str) (h : sOk x) (hl : x.length ≤ m) : ValB n m (.str x)
  | tup {n m : Nat} (xs : List D) (hl : xs.length ≤ m) (h : ∀ x ∈ xs, ValB n m x) : ValB (n + 1) m (.tup xs)
  | lst {n m : Nat} (xs : List D) (hl : xs.length ≤ m) (h : ∀ x ∈ xs, ValB n m x) : ValB (n + 1) m (.lst xs)
  | dic {n m : Nat} (t : Bool) : ValB n m (.dic t [])
theorem ValB.any {n m : Nat} {d : D} (h : ValB n m d) : Any m d := by
  induction h with
  | non => exact .non
  | bl b => exact .bl b
  | int i h => exact .int i
  | str x h hl => exact .str x ⟨h, hl⟩
  | tup xs hl h ih => exact .tup xs hl ih
  | lst xs hl h ih => exact .lst xs hl ih
  | dic t => exact .dic t
theorem ValB.mono {n m : Nat} {d : D} (h : ValB n m d) : ∀ {n' m' : Nat}, n ≤ n' → m ≤ m' → ValB n' m' d := by
  induction h with
  | non => intros; exact .non
  | bl b => intros; exact .bl b
  | int i h => intros; exact .int i h
  | str x h hl => intro n' m' h1 h2; exact .str x h (Nat.le_trans hl h2)
  | tup xs hl h ih =>
    intro n' m' h1 h2
    cases n' with
    | zero => omega
    | succ k => exact .tup xs (Nat.le_trans hl h2) fun x hx => ih x hx (by omega) h2
  | lst xs hl h ih =>
    intro n' m' h1 h2
    cases n' with
    | zero => omega
    | succ k => exact .lst xs (Nat.le_trans hl h2) fun x hx => ih x hx (by omega) h2
  | dic t => intros; exact .dic t
/-! its repr -/
def lenB (m : Nat) : Nat → Nat
  | 0 => 10 * m + 120
  | n + 1 => (m + 1) * (lenB m n + 2) + 4
end
section
open PySem PySem.Spec PyProof.Rows
/-! ### sorted texts -/
/-! ### partings of any kind of value -/
/-! ### the law's own look -/
end
section
open PySem PySem.Spec PyProof.Rows
/-! ### _law_put_together -/
end
section
open PySem PySem.Spec PyProof.Rows
/-! ### free places -/
/-! ### witnesses -/
instance : InjD (fun z : D × List Str => D.tup [z.1, .tup (plD z.2)]) := ⟨fun a b e => by
  injection e with e
  injection e with e1 e
  injection e with e2 e
  injection e2 with e2
  exact Prod.ext e1 (plD_inj e2)⟩
end
section
open PySem PySem.Spec PyProof.Rows
/-! ### k09 -/
end
section
open PySem PySem.Spec PyProof.Rows
/-! ### k10 -/
theorem lMul {S : SO} {Q : KD} {xs : List D} {k : Nat} (h : Q (.lst (List.replicate k xs).flatten) S) (hk : k ≤ 1000) (hl : xs.length ≤ 1000) : oMul (.lst xs) (.int (k : Nat)) S Q := ⟨xs, k, rfl, rfl, by omega, by omega, hl, by rw [show ((k : Nat) : Int).toNat = k by omega]; exact h⟩
end
end L2.DL
namespace L2.DL
local macro_rules | `(tactic| and_intros) => `(tactic| repeat (first | refine Step.go (v := (.s (.s .z))) ?_ | with_reducible refine gTup ?_ | with_reducible refine mthTie ?_ | with_reducible refine iModL ?_ | with_reducible refine andL (by with_unfolding_all exact lez rfl) ?_))
section
open PySem PySem.Spec PyProof.Rows
/-! ### _law_labels -/
end
section
open PySem PySem.Spec PyProof.Rows
/-! ### _law_order -/
abbrev nsD (l : List Nat) : List D := l.map fun i : Nat => D.int (i : Nat)
/-! ### _law_links -/
def ipD (t : Nat × Nat) : D := .tup [.int (t.1 : Nat), .int (t.2 : Nat)]
theorem ipD_inj {a b : Nat × Nat} (h : ipD a = ipD b) : a = b := by
  unfold ipD at h
  injection h with h
  injection h with h1 h
  injection h with h2 h
  injection h1 with h1
  injection h2 with h2
  exact Prod.ext (by omega) (by omega)
instance : InjD ipD := ⟨fun _ _ h => ipD_inj h⟩
end
section
open PySem PySem.Spec PyProof.Rows
/-! ### _law_web, _law_scene -/
end
section
open PySem PySem.Spec PyProof.Rows
/-! ### many lists of numbers, each an object -/
/-! ### numbered -/
end
end L2.DL
namespace L2.DL
open PySem PySem.Spec PyProof.Rows
/-! ### a walk that looks for rings: row the way to here, vals what is left to see at each of its places, ks the places from which no ring is reached, in the order in which that was found -/
end L2.DL

namespace L2.DL
open PySem PySem.Spec PyProof.Rows
/-! ### values of any kind are shown -/
theorem piled_up {B : Nat} : ∀ {ts : List Str}, (∀ t ∈ ts, t.length ≤ B) → piled ts ≤ ts.length * (B + 2)
  | [], _ => by simp [piled]
  | t :: ts, h => by
    have ih := piled_up (ts := ts) fun u hu => h u (List.mem_cons_of_mem _ hu)
    have h1 := h t (List.mem_cons_self ..)
    have e : piled (t :: ts) = (t.length + 2) + piled ts := by simp [piled]
    rw [e, List.length_cons, Nat.succ_mul]
    omega
theorem join_up {B : Nat} {ts : List Str} (h : ∀ t ∈ ts, t.length ≤ B) : (Str.join ", " ts).length ≤ ts.length * (B + 2) := by
  cases ts with
  | nil => exact Nat.zero_le _
  | cons t ts =>
    have h1 := join_length_add (t :: ts) (by simp)
    have h2 := piled_up h
    omega
theorem textFrom_up {B : Nat} : ∀ {ts : List Str} (k : Nat) (acc : Str), (∀ t ∈ ts, t.length ≤ B) → (textFrom k acc ts).length ≤ acc.length + ts.length * (B + 2)
  | [], k, acc, _ => by show acc.length ≤ _; omega
  | t :: ts, k, acc, h => by
    have ih := textFrom_up (ts := ts) (k + 1) (acc ++ (if k > 0 then ", " else "" : String) ++ t) fun u hu => h u (List.mem_cons_of_mem _ hu)
    have h1 := h t (List.mem_cons_self ..)
    have e : (acc ++ (if k > 0 then ", " else "" : String) ++ t : Str).length ≤ acc.length + 2 + t.length := by
      rw [strLen_append, strLen_append]
      have : (((if k > 0 then ", " else "" : String)) : Str).length ≤ 2 := by split <;> decide
      omega
    show (textFrom (k + 1) _ ts).length ≤ _
    rw [List.length_cons, Nat.succ_mul]
    omega
theorem listText_up {B : Nat} {ts : List Str} (h : ∀ t ∈ ts, t.length ≤ B) : (listText ts).length ≤ ts.length * (B + 2) + 2 := by
  have z := textFrom_up 0 "[" h
  unfold listText
  rw [strLen_append]
  have e1 : (("[" : String) : Str).length = 1 := by decide
  have e2 : (("]" : String) : Str).length = 1 := by decide
  omega
theorem tupleText_up {B : Nat} {ts : List Str} (h : ∀ t ∈ ts, t.length ≤ B) : (tupleText ts).length ≤ ts.length * (B + 2) + 3 := by
  have z := join_up h
  unfold tupleText
  rw [strLen_append, strLen_append]
  have e1 : ("(" : Str).length = 1 := by decide
  have e2 : (((if ts.length == 1 then ",)" else ")" : String)) : Str).length ≤ 2 := by split <;> decide
  omega
theorem valPs_of {n B : Nat} : ∀ {xs : List D}, (∀ x ∈ xs, ∃ p, valP x = some p ∧ p.showable = true ∧ p.depth ≤ n ∧ p.shown.length ≤ B) → ∃ ps, valPs xs = some ps ∧ PyData.showableAll ps = true ∧ PyData.depthAll ps ≤ n ∧ (∀ t ∈ PyData.shownAll ps, t.length ≤ B) ∧ (PyData.shownAll ps).length = xs.length
  | [], _ => ⟨[], rfl, by simp [PyData.showableAll], by simp [PyData.depthAll], by simp [PyData.shownAll], by simp [PyData.shownAll]⟩
  | x :: xs, h => by
    obtain ⟨p, h1, h2, h3, h4⟩ := h x (List.mem_cons_self ..)
    obtain ⟨ps, g1, g2, g3, g4, g5⟩ := valPs_of (xs := xs) fun y hy => h y (List.mem_cons_of_mem _ hy)
    refine ⟨p :: ps, ?_, by simp [PyData.showableAll, h2, g2], by simp only [PyData.depthAll]; omega, fun t ht => ?_, by simp [PyData.shownAll, g5]⟩
    · show (valP x).bind (fun p => (valPs xs).map fun ps => p :: ps) = _
      rw [h1, g1]
      rfl
    · simp only [PyData.shownAll, List.mem_cons] at ht
      rcases ht with rfl | ht
      · exact h4
      · exact g4 t ht
theorem small_int {i : Int} (h : i.natAbs ≤ 10 ^ 30) : i.natAbs.log2 < 100 := by
  rcases Nat.eq_zero_or_pos i.natAbs with h0 | h0
  · rw [h0]
    decide
  · exact (Nat.log2_lt (by omega)).mpr (Nat.lt_of_le_of_lt h (by decide))
theorem ValB.shown {n m : Nat} {d : D} (h : ValB n m d) : ∃ p, valP d = some p ∧ p.showable = true ∧ p.depth ≤ n + 1 ∧ p.shown.length ≤ lenB m n := by
  have l0 : ∀ n, 120 ≤ lenB m n ∧ 10 * m ≤ lenB m n := fun n => by
    induction n with
    | zero => unfold lenB; omega
    | succ n ih =>
      unfold lenB
      have := Nat.le_mul_of_pos_left (lenB m n + 2) (show 0 < m + 1 by omega)
      omega
  have l1 : ∀ {n m : Nat}, 10 * m + 2 ≤ lenB m n := fun {n m} => by
    cases n with
    | zero => unfold lenB; omega
    | succ n =>
      have : ∀ k, 10 * m + 2 ≤ lenB m k := fun k => by
        induction k with
        | zero => unfold lenB; omega
        | succ k ih =>
          unfold lenB
          have := Nat.le_mul_of_pos_left (lenB m k + 2) (show 0 < m + 1 by omega)
          omega
      exact this _
  have l2 : ∀ {n m : Nat}, 120 ≤ lenB m n := fun {n m} => by
    induction n with
    | zero => unfold lenB; omega
    | succ n ih =>
      unfold lenB
      have := Nat.le_mul_of_pos_left (lenB m n + 2) (show 0 < m + 1 by omega)
      omega
  clear l0
  induction h with
  | non => exact ⟨_, rfl, rfl, by simp [PyData.depth], Nat.le_trans (show (PyData.shown .none).length ≤ 120 by simp only [PyData.shown]; decide) l2⟩
  | bl b => exact ⟨_, rfl, rfl, by simp [PyData.depth], Nat.le_trans (show (PyData.shown (.bool b)).length ≤ 120 by simp only [PyData.shown]; cases b <;> decide) l2⟩
  | int i h =>
    have h2 := small_int h
    refine ⟨_, rfl, by simp only [PyData.showable]; exact decide_eq_true (by omega), by simp [PyData.depth], Nat.le_trans ?_ l2⟩
    simp only [PyData.shown]
    rw [PySem.ofString_length]
    have := int_text_length_le (k := 100) (by decide) h2
    omega
  | @str n m x h hl =>
    refine ⟨_, rfl, rfl, by simp [PyData.depth], ?_⟩
    simp only [PyData.shown]
    have z := StrLaws.reprText_len x fun c hc => Nat.lt_trans (sOk_iff.mp h c hc) (by decide)
    have := l1 (n := n) (m := m)
    omega
  | @tup n m xs hl h ih =>
    obtain ⟨ps, h1, h2, h3, h4, h5⟩ := valPs_of ih
    refine ⟨.tuple ps, by show (valPs xs).map PyData.tuple = _; rw [h1]; rfl, by simp only [PyData.showable]; exact h2, by simp only [PyData.depth]; omega, ?_⟩
    simp only [PyData.shown]
    have z := tupleText_up h4
    rw [h5] at z
    have := Nat.mul_le_mul_right (lenB m n + 2) hl
    show _ ≤ (m + 1) * (lenB m n + 2) + 4
    rw [Nat.succ_mul]
    omega
  | @lst n m xs hl h ih =>
    obtain ⟨ps, h1, h2, h3, h4, h5⟩ := valPs_of ih
    refine ⟨.list ps, by show (valPs xs).map PyData.list = _; rw [h1]; rfl, by simp only [PyData.showable]; exact h2, by simp only [PyData.depth]; omega, ?_⟩
    simp only [PyData.shown]
    have z := listText_up h4
    rw [h5] at z
    have := Nat.mul_le_mul_right (lenB m n + 2) hl
    show _ ≤ (m + 1) * (lenB m n + 2) + 4
    rw [Nat.succ_mul]
    omega
  | dic t => exact ⟨_, rfl, by simp [PyData.showable, PyData.showableKv], by simp [PyData.depth, PyData.depthKv], Nat.le_trans (show (PyData.shown (.dict [])).length ≤ 120 by simp only [PyData.shown, PyData.shownKv]; decide) l2⟩
theorem ValB.showV {n m : Nat} {d : D} (h : ValB n m d) (hn : n ≤ 60) (hm : lenB m n ≤ 16777216) : ∃ p, valP d = some p ∧ ShowV p := by
  obtain ⟨p, h1, h2, h3, h4⟩ := h.shown
  exact ⟨p, h1, h2, by omega, by rw [sizeLine_eq]; omega⟩
end L2.DL

namespace L2.DL
open PySem PySem.Spec PyProof.Rows
theorem okS_list {ts : List Str} (h : ∀ t ∈ ts, OkS t) : OkS (listText ts) := okS_app (okS_from ts 0 _ (okS_lit "[") h) (okS_lit "]")
theorem okS_tuple {ts : List Str} (h : ∀ t ∈ ts, OkS t) : OkS (tupleText ts) := by
  unfold tupleText
  refine okS_app (okS_app (okS_lit "(") (okS_join ts h)) ?_
  split
  · exact okS_lit ",)"
  · exact okS_lit ")"
theorem okS_valPs : ∀ {xs : List D} {ps : List PyData}, (∀ x ∈ xs, ∀ p, valP x = some p → OkS p.shown) → valPs xs = some ps → ∀ t ∈ PyData.shownAll ps, OkS t
  | [], _, _, e, t, ht => by
    cases e
    simp [PyData.shownAll] at ht
  | x :: xs, _, h, e, t, ht => by
    obtain ⟨p, hp, e2⟩ := Option.bind_eq_some_iff.mp (show (valP x).bind (fun p => (valPs xs).map fun ps => p :: ps) = some _ from e)
    obtain ⟨qs, hq, rfl⟩ := Option.map_eq_some_iff.mp e2
    simp only [PyData.shownAll, List.mem_cons] at ht
    rcases ht with rfl | ht
    · exact h x (List.mem_cons_self ..) p hp
    · exact okS_valPs (fun y hy => h y (List.mem_cons_of_mem _ hy)) hq t ht
theorem ValB.okS {n m : Nat} {d : D} (h : ValB n m d) : ∀ p, valP d = some p → OkS p.shown := by
  induction h with
  | non =>
    intro p e
    cases e
    simp only [PyData.shown]
    exact okS_lit "None"
  | bl b =>
    intro p e
    cases e
    simp only [PyData.shown]
    cases b
    · exact okS_lit "False"
    · exact okS_lit "True"
  | int i h =>
    intro p e
    cases e
    simp only [PyData.shown]
    exact okS_lit _
  | str x h hl =>
    intro p e
    cases e
    simp only [PyData.shown]
    exact okS_repr (okS_of h)
  | tup xs hl h ih =>
    intro p e
    obtain ⟨ps, hp, rfl⟩ := Option.map_eq_some_iff.mp (show (valPs xs).map PyData.tuple = some p from e)
    simp only [PyData.shown]
    exact okS_tuple (okS_valPs ih hp)
  | lst xs hl h ih =>
    intro p e
    obtain ⟨ps, hp, rfl⟩ := Option.map_eq_some_iff.mp (show (valPs xs).map PyData.list = some p from e)
    simp only [PyData.shown]
    exact okS_list (okS_valPs ih hp)
  | dic t =>
    intro p e
    cases e
    simp only [PyData.shown, PyData.shownKv]
    exact okS_lit "{}"
end L2.DL

namespace L2.DL
local macro_rules | `(tactic| and_intros) => `(tactic| repeat (first | refine Step.go (v := (.s (.s .z))) ?_ | with_reducible refine gTup ?_ | with_reducible refine mthTie ?_ | with_reducible refine iModL ?_ | with_reducible refine andL (by with_unfolding_all exact lez rfl) ?_))
section
open PySem PySem.Spec PyProof.Rows
theorem eqv_n (y x : Nat) : PyData.eqv (.int (y : Int)) (.int (x : Int)) = decide (y = x) := by
  by_cases e : y = x
  · subst e
    simp [PyData.eqv]
  · have e2 : ¬ ((y : Int) = (x : Int)) := fun h => e (by omega)
    simp [PyData.eqv, e, e2]
end
section
open PySem PySem.Spec PyProof.Rows
/-! ### ring_of, ring, ringless -/
end
section
open PySem PySem.Spec PyProof.Rows
/-! ### the law's own look at rings -/
end
section
open PySem PySem.Spec PyProof.Rows
end
section
open PySem PySem.Spec PyProof.Rows
end
end L2.DL
namespace L2.DL
local macro_rules | `(tactic| and_intros) => `(tactic| repeat (first | refine Step.go (v := (.s (.s (.s .z)))) ?_ | with_reducible refine gTup ?_ | with_reducible refine mthTie ?_ | with_reducible refine iModL ?_ | with_reducible refine xGTl ?_ | with_reducible refine andL (by with_unfolding_all exact lez rfl) ?_))
section
open PySem PySem.Spec PyProof.Rows
def rowL (r : List Str) : D := .lst (plD r)
instance : InjD rowL := ⟨fun a b e => by
  unfold rowL plD at e
  injection e with e
  exact map_inj e⟩
end
section
open PySem PySem.Spec PyProof.Rows
end
section
open PySem PySem.Spec PyProof.Rows
/-! ### _law_order as a list that changes -/
/-! ### as_lists, as_tuples, step -/
def rowT (r : List Str) : D := .tf (plD r)
instance : InjD rowT := ⟨fun a b e => by
  unfold rowT plD at e
  injection e with e
  exact map_inj e⟩
/-! ### partings by numbers -/
abbrev nsL (r : List Nat) : D := .lst (nsD r)
instance : InjD nsL := ⟨fun a b e => by
  unfold nsL nsD at e
  injection e with e
  exact map_inj e⟩
end
end L2.DL
namespace L2.DL
local macro_rules | `(tactic| and_intros) => `(tactic| repeat (first | refine Step.go (v := (.s (.s (.s (.s .z))))) ?_ | with_reducible refine gTup ?_ | with_reducible refine mthTie ?_ | with_reducible refine iModL ?_ | with_reducible refine xGTl ?_ | with_reducible refine andL (by with_unfolding_all exact lez rfl) ?_))
section
open PySem PySem.Spec PyProof.Rows
/-! ### the law's own sorting of what is raised -/
theorem isEv {ns : List Str} {m n : Str} {fs : List (Str × D)} {i : Nat} {a : Addr} {sd : SD} {S : SO} {Q : KD} (hx : ∀ P : KD, P (.obj a) S → wV i sd S P) (hS : S a = some (.err n fs)) (hn : n ∈ ns) (h : Q (.bl (isE n m)) S) : wIsE ns m (wV i) sd S Q := hx _ ⟨a, n, fs, rfl, hS, hn, h⟩
theorem addL_mk {S : SO} {Q : KD} {xs ys : List D} (hl : xs.length + ys.length ≤ 1000000) (h : Q (.lst (xs ++ ys)) S) : oAdd (.lst xs) (.lst ys) S Q := ⟨hl, h⟩
end
section
open PySem PySem.Spec PyProof.Rows
end
end L2.DL
namespace L2.DL
open PySem PySem.Spec PyProof.Rows
/-! ### values compared part by part -/
def EqP (x y : D) (b : Bool) : Prop := ∃ p q, pyD x = some p ∧ pyD y = some q ∧ p.canLay0 = true ∧ q.canLay0 = true ∧ p.depth ≤ 9 ∧ q.depth ≤ 9 ∧ PyData.eqv p q = b
def EqPs (xs ys : List D) (b : Bool) : Prop := ∃ ps qs, pyDs xs = some ps ∧ pyDs ys = some qs ∧ PyData.canLayAll0 ps = true ∧ PyData.canLayAll0 qs = true ∧ PyData.depthAll ps ≤ 9 ∧ PyData.depthAll qs ≤ 9 ∧ PyData.eqvAll ps qs = b
theorem EqPs.nil : EqPs [] [] true := ⟨[], [], rfl, rfl, by simp [PyData.canLayAll0], by simp [PyData.canLayAll0], by simp [PyData.depthAll], by simp [PyData.depthAll], by simp [PyData.eqvAll]⟩
theorem EqPs.cons {x y : D} {xs ys : List D} {b c : Bool} (h : EqP x y b) (t : EqPs xs ys c) : EqPs (x :: xs) (y :: ys) (b && c) := by
  obtain ⟨p, q, h1, h2, h3, h4, h5, h6, h7⟩ := h
  obtain ⟨ps, qs, t1, t2, t3, t4, t5, t6, t7⟩ := t
  refine ⟨p :: ps, q :: qs, ?_, ?_, ?_, ?_, ?_, ?_, ?_⟩
  · show (pyD x).bind (fun p => (pyDs xs).map fun ps => p :: ps) = _
    rw [h1, t1]
    rfl
  · show (pyD y).bind (fun p => (pyDs ys).map fun ps => p :: ps) = _
    rw [h2, t2]
    rfl
  · simp only [PyData.canLayAll0, Bool.and_eq_true]
    exact ⟨h3, t3⟩
  · simp only [PyData.canLayAll0, Bool.and_eq_true]
    exact ⟨h4, t4⟩
  · simp only [PyData.depthAll]
    omega
  · simp only [PyData.depthAll]
    omega
  · simp only [PyData.eqvAll]
    rw [h7, t7]
theorem EqP.n (i j : Nat) : EqP (.int (i : Nat)) (.int (j : Nat)) (decide (i = j)) := ⟨.int i, .int j, rfl, rfl, by simp [PyData.canLay0], by simp [PyData.canLay0], by simp [PyData.depth], by simp [PyData.depth], eqv_n i j⟩
theorem EqP.b (i j : Bool) : EqP (.bl i) (.bl j) (i == j) := ⟨.bool i, .bool j, rfl, rfl, by simp [PyData.canLay0], by simp [PyData.canLay0], by simp [PyData.depth], by simp [PyData.depth], by cases i <;> cases j <;> decide +kernel⟩
theorem rowP_ok {xs : List Str} (h : ∀ x ∈ xs, sOk x) : (PyData.tuple (xs.map PyData.str)).canLay0 = true ∧ (PyData.tuple (xs.map PyData.str)).depth ≤ 9 := by
  constructor
  · simp only [PyData.canLay0]
    exact canLayAll_map h
  · simp only [PyData.depth]
    have := depthAll_map (n := 0) (f := PyData.str) (xs := xs) fun x _ => by simp [PyData.depth]
    omega
theorem pyD_row {d : D} {xs : List Str} (e : d = .tup (plD xs) ∨ d = .tf (plD xs)) : pyD d = some (.tuple (xs.map PyData.str)) := by
  rcases e with rfl | rfl
  · show (pyDs (plD xs)).map PyData.tuple = _
    rw [pyDs_strs]
    rfl
  · show (pyDs (plD xs)).map PyData.tuple = _
    rw [pyDs_strs]
    rfl
theorem EqP.row {x y : D} {xs ys : List Str} (e1 : x = .tup (plD xs) ∨ x = .tf (plD xs)) (e2 : y = .tup (plD ys) ∨ y = .tf (plD ys)) (h1 : ∀ x ∈ xs, sOk x) (h2 : ∀ x ∈ ys, sOk x) : EqP x y (decide (xs = ys)) :=
  ⟨_, _, pyD_row e1, pyD_row e2, (rowP_ok h1).1, (rowP_ok h2).1, (rowP_ok h1).2, (rowP_ok h2).2, eqv_tups eqv_str xs ys⟩
theorem EqP.tup {x y : D} {xs ys : List D} {b : Bool} (e1 : x = .tup xs ∨ x = .tf xs) (e2 : y = .tup ys ∨ y = .tf ys) (h : EqPs xs ys b) (hd : ∀ ps, pyDs xs = some ps → PyData.depthAll ps ≤ 8) (hd2 : ∀ ps, pyDs ys = some ps → PyData.depthAll ps ≤ 8) : EqP x y b := by
  obtain ⟨ps, qs, t1, t2, t3, t4, t5, t6, t7⟩ := h
  have g1 : pyD x = some (.tuple ps) := by
    rcases e1 with rfl | rfl
    · show (pyDs xs).map PyData.tuple = _
      rw [t1]
      rfl
    · show (pyDs xs).map PyData.tuple = _
      rw [t1]
      rfl
  have g2 : pyD y = some (.tuple qs) := by
    rcases e2 with rfl | rfl
    · show (pyDs ys).map PyData.tuple = _
      rw [t2]
      rfl
    · show (pyDs ys).map PyData.tuple = _
      rw [t2]
      rfl
  refine ⟨_, _, g1, g2, by simpa only [PyData.canLay0] using t3, by simpa only [PyData.canLay0] using t4, ?_, ?_, by simpa only [PyData.eqv] using t7⟩
  · simp only [PyData.depth]
    have := hd ps t1
    omega
  · simp only [PyData.depth]
    have := hd2 qs t2
    omega
theorem EqPs.lst {xs ys : List D} {b : Bool} {S : SO} {k : Bool → Prop} (h : EqPs xs ys b) (q : k b) : eqD (.lst xs) (.lst ys) S k := by
  obtain ⟨ps, qs, t1, t2, t3, t4, t5, t6, t7⟩ := h
  refine ⟨.list ps, .list qs, ?_, ?_, shaped_of (by simpa only [PyData.canLay0] using t3) ?_, shaped_of (by simpa only [PyData.canLay0] using t4) ?_, ?_⟩
  · show (pyDs xs).map PyData.list = _
    rw [t1]
    rfl
  · show (pyDs ys).map PyData.list = _
    rw [t2]
    rfl
  · simp only [PyData.depth]
    omega
  · simp only [PyData.depth]
    omega
  · rw [show PyData.eqv (.list ps) (.list qs) = b by simpa only [PyData.eqv] using t7]
    exact q
theorem eqLs {xs ys : List D} {b : Bool} {S : SO} {Q : KD} (h : EqPs xs ys b) (q : Q (.bl b) S) : oEq (.lst xs) (.lst ys) S Q := h.lst q
theorem neLs {xs ys : List D} {b : Bool} {S : SO} {Q : KD} (h : EqPs xs ys b) (q : Q (.bl (!b)) S) : oNe (.lst xs) (.lst ys) S Q := h.lst (k := fun b => Q (.bl (!b)) S) q
theorem EqP.s (i j : Str) (hi : sOk i) (hj : sOk j) : EqP (.str i) (.str j) (decide (i = j)) := ⟨.str i, .str j, rfl, rfl, hi, hj, by simp [PyData.depth], by simp [PyData.depth], eqv_str i j⟩
end L2.DL

namespace L2.DL
local macro_rules | `(tactic| and_intros) => `(tactic| repeat (first | refine Step.go (v := (.s (.s (.s (.s .z))))) ?_ | with_reducible refine gTup ?_ | with_reducible refine mthTie ?_ | with_reducible refine iModL ?_ | with_reducible refine xGTl ?_ | with_reducible refine andL (by with_unfolding_all exact lez rfl) ?_))
section
open PySem PySem.Spec PyProof.Rows
/-! UA0: k01: classes of errors and what they keep -/
def nsF : List Str := ["InvalidText", "InvalidTie", "InvalidParting", "InvalidNumber", "InvalidName", "InvalidWish", "InvalidClaim", "InvalidPlace", "NotAWeb", "InvalidPlaces", "InvalidTies", "InvalidWishes", "InvalidChanges", "UnknownPlace", "UnknownName", "InUse", "HasRing", "NotMet", "TooMany", "NothingToUndo", "Broken"]
def msF : List Str := nsF ++ (["NotRight", "NotThere", "CannotBe"] : List Str)
def bsF : List String := ["ValueError", "LookupError", "ArithmeticError", "KeyError", "IndexError", "ZeroDivisionError"]
def baF : List Str := ["NotRight", "NotThere", "CannotBe", "ValueError", "LookupError", "ArithmeticError", "KeyError", "IndexError", "ZeroDivisionError"]
def sp_k01_sorts (W : Addr) : DSp := fun ds S Q E => ∃ (p : Addr) (n : Str) (fs : List (Str × D)), ds = [.obj p] ∧ S p = some (.err n fs) ∧ n ∈ nsF ∧ Q (.lst (nsF.map fun m => .bl (isE n m))) S
def w_k01_sorts (W : Addr) : WS := (wSeq (wAsg (wLst (wCons (wIsE nsF "InvalidText" (wV 0)) (wCons (wIsE nsF "InvalidTie" (wV 0)) (wCons (wIsE nsF "InvalidParting" (wV 0)) wNil)))) (gV 1))
    (wSeq (wAsg (wO oAdd (wV 1) (wLst (wCons (wIsE nsF "InvalidNumber" (wV 0)) (wCons (wIsE nsF "InvalidName" (wV 0)) (wCons (wIsE nsF "InvalidWish" (wV 0)) wNil))))) (gV 1))
    (wSeq (wAsg (wO oAdd (wV 1) (wLst (wCons (wIsE nsF "InvalidClaim" (wV 0)) (wCons (wIsE nsF "InvalidPlace" (wV 0)) (wCons (wIsE nsF "NotAWeb" (wV 0)) wNil))))) (gV 1))
    (wSeq (wAsg (wO oAdd (wV 1) (wLst (wCons (wIsE nsF "InvalidPlaces" (wV 0)) (wCons (wIsE nsF "InvalidTies" (wV 0)) (wCons (wIsE nsF "InvalidWishes" (wV 0)) wNil))))) (gV 1))
    (wSeq (wAsg (wO oAdd (wV 1) (wLst (wCons (wIsE nsF "InvalidChanges" (wV 0)) (wCons (wIsE nsF "UnknownPlace" (wV 0)) (wCons (wIsE nsF "UnknownName" (wV 0)) wNil))))) (gV 1))
    (wSeq (wAsg (wO oAdd (wV 1) (wLst (wCons (wIsE nsF "InUse" (wV 0)) (wCons (wIsE nsF "HasRing" (wV 0)) (wCons (wIsE nsF "NotMet" (wV 0)) wNil))))) (gV 1))
    (wSeq (wAsg (wO oAdd (wV 1) (wLst (wCons (wIsE nsF "TooMany" (wV 0)) (wCons (wIsE nsF "NothingToUndo" (wV 0)) (wCons (wIsE nsF "Broken" (wV 0)) wNil))))) (gV 1))
    (wRet (wV 1)))))))))
theorem pure_k01_sorts (W : Addr) : ∀ ds S Q E, sp_k01_sorts W ds S Q E → w_k01_sorts W (endsOf Q) (startD ["_law_e", "_law_found"] ds) S := by
  rintro ds S Q E ⟨p, n, fs, rfl, hS, hn, q⟩
  refine xFn ?_
  show w_k01_sorts W _ [some _, none] S
  unfold w_k01_sorts
  iterate 6 (and_intros; refine isEv (fun _ z => v0 z) hS hn ?_)
  and_intros
  refine addL_mk (show 3 + 3 ≤ 1000000 by decide) ?_
  iterate 3 (and_intros; refine isEv (fun _ z => v0 z) hS hn ?_)
  and_intros
  refine addL_mk (show 6 + 3 ≤ 1000000 by decide) ?_
  iterate 3 (and_intros; refine isEv (fun _ z => v0 z) hS hn ?_)
  and_intros
  refine addL_mk (show 9 + 3 ≤ 1000000 by decide) ?_
  iterate 3 (and_intros; refine isEv (fun _ z => v0 z) hS hn ?_)
  and_intros
  refine addL_mk (show 12 + 3 ≤ 1000000 by decide) ?_
  iterate 3 (and_intros; refine isEv (fun _ z => v0 z) hS hn ?_)
  and_intros
  refine addL_mk (show 15 + 3 ≤ 1000000 by decide) ?_
  iterate 3 (and_intros; refine isEv (fun _ z => v0 z) hS hn ?_)
  and_intros
  refine addL_mk (show 18 + 3 ≤ 1000000 by decide) ?_
  and_intros
  exact cl q
def sp_k01_bases (W : Addr) : DSp := fun ds S Q E => ∃ (p : Addr) (n : Str) (fs : List (Str × D)), ds = [.obj p] ∧ S p = some (.err n fs) ∧ n ∈ nsF ∧ Q (.lst (baF.map fun m => .bl (isE n m))) S
def w_k01_bases (W : Addr) : WS := (wSeq (wAsg (wLst (wCons (wIsE nsF "NotRight" (wV 0)) (wCons (wIsE nsF "NotThere" (wV 0)) (wCons (wIsE nsF "CannotBe" (wV 0)) wNil)))) (gV 1))
    (wSeq (wAsg (wO oAdd (wV 1) (wLst (wCons (wIsE nsF "ValueError" (wV 0)) (wCons (wIsE nsF "LookupError" (wV 0)) (wCons (wIsE nsF "ArithmeticError" (wV 0)) wNil))))) (gV 1))
    (wRet (wO oAdd (wV 1) (wLst (wCons (wIsE nsF "KeyError" (wV 0)) (wCons (wIsE nsF "IndexError" (wV 0)) (wCons (wIsE nsF "ZeroDivisionError" (wV 0)) wNil))))))))
theorem pure_k01_bases (W : Addr) : ∀ ds S Q E, sp_k01_bases W ds S Q E → w_k01_bases W (endsOf Q) (startD ["_law_e", "_law_found"] ds) S := by
  rintro ds S Q E ⟨p, n, fs, rfl, hS, hn, q⟩
  refine xFn ?_
  show w_k01_bases W _ [some _, none] S
  unfold w_k01_bases
  iterate 6 (and_intros; refine isEv (fun _ z => v0 z) hS hn ?_)
  and_intros
  refine addL_mk (show 3 + 3 ≤ 1000000 by decide) ?_
  iterate 3 (and_intros; refine isEv (fun _ z => v0 z) hS hn ?_)
  and_intros
  refine addL_mk (show 6 + 3 ≤ 1000000 by decide) ?_
  exact cl q
def dueF (k : Nat) : List D := [.bl (decide (k < 13)), .bl (decide (12 < k ∧ k < 16)), .bl (decide (16 ≤ k)), .bl (decide (k < 13)), .bl (decide (12 < k ∧ k < 16)), .bl (decide (16 ≤ k)), .bl false, .bl false, .bl false]
def sp_k01_due (W : Addr) : DSp := fun ds S Q E => ∃ k : Nat, ds = [.int k] ∧ Q (.lst (dueF k)) S
def w_k01_due (W : Addr) : WS := (wSeq (wPar 1 2 (wCons (wO oLt (wV 0) (wC (.int 13))) (wCons (wCh oLt oLt (wC (.int 12)) (wV 0) (wC (.int 16))) wNil)))
    (wSeq (wAsg (wAndV (wNotV (wV 1)) (wNotV (wV 2))) (gV 3))
    (wRet (wO oAdd (wO oMul (wLst (wCons (wV 1) (wCons (wV 2) (wCons (wV 3) wNil)))) (wC (.int 2))) (wO oMul (wLst (wCons (wC (.bl false)) wNil)) (wC (.int 3)))))))
theorem pure_k01_due (W : Addr) : ∀ ds S Q E, sp_k01_due W ds S Q E → w_k01_due W (endsOf Q) (startD ["_law_k", "_law_head", "_law_middle", "_law_end"] ds) S := by
  rintro ds S Q E ⟨k, rfl, q⟩
  refine xFn ?_
  show w_k01_due W _ [some _, none, none, none] S
  unfold w_k01_due
  rcases (by omega : k < 13 ∨ (13 ≤ k ∧ k < 16) ∨ 16 ≤ k) with h | h | h
  · have e : dueF k = [.bl true, .bl false, .bl false, .bl true, .bl false, .bl false, .bl false, .bl false, .bl false] := by
      unfold dueF
      simp only [show k < 13 from h, show ¬ (12 < k ∧ k < 16) by omega, show ¬ 16 ≤ k by omega, decide_true, decide_false]
    rw [e] at q
    and_intros
    rw [show decide ((k : Int) < 13) = true by simp; omega]
    refine isNB (by simp; omega) ?_
    and_intros
    refine isNB (by rfl) ?_
    and_intros
    refine lMul (k := 2) ?_ (by decide) (by decide)
    and_intros
    refine lMul (k := 3) ?_ (by decide) (by decide)
    refine addL_mk (by decide) ?_
    exact cl q
  · have e : dueF k = [.bl false, .bl true, .bl false, .bl false, .bl true, .bl false, .bl false, .bl false, .bl false] := by
      unfold dueF
      simp only [show ¬ k < 13 by omega, show (12 < k ∧ k < 16) by omega, show ¬ 16 ≤ k by omega, decide_true, decide_false, and_self]
    rw [e] at q
    and_intros
    rw [show decide ((k : Int) < 13) = false by simp; omega]
    refine isYB (by simp; omega) ?_
    and_intros
    rw [show decide ((k : Int) < 16) = true by simp; omega]
    refine isYB (by rfl) ?_
    and_intros
    refine lMul (k := 2) ?_ (by decide) (by decide)
    and_intros
    refine lMul (k := 3) ?_ (by decide) (by decide)
    refine addL_mk (by decide) ?_
    exact cl q
  · have e : dueF k = [.bl false, .bl false, .bl true, .bl false, .bl false, .bl true, .bl false, .bl false, .bl false] := by
      unfold dueF
      simp only [show ¬ k < 13 by omega, show ¬ (12 < k ∧ k < 16) by omega, show 16 ≤ k by omega, decide_true, decide_false]
    rw [e] at q
    and_intros
    rw [show decide ((k : Int) < 13) = false by simp; omega]
    refine isYB (by simp; omega) ?_
    and_intros
    rw [show decide ((k : Int) < 16) = false by simp; omega]
    refine isYB (by rfl) ?_
    and_intros
    refine lMul (k := 2) ?_ (by decide) (by decide)
    and_intros
    refine lMul (k := 3) ?_ (by decide) (by decide)
    refine addL_mk (by decide) ?_
    exact cl q
/-- the fields that an error of class n keeps, x given -/
def FldF (n : Str) (fs : List (Str × D)) (x : D) : Prop := (∀ f ∈ errFld n, f ≠ ("shown" : Str) → fs.lookup f = some x) ∧ ((("shown" : Str) ∈ errFld n) → fs.lookup ("shown" : Str) = some (D.int 7))
def ErrsF (S : SO) (x : D) : List Str → List Addr → Prop
  | [], [] => True
  | n :: ns, p :: ps => (∃ fs, S p = some (.err n fs) ∧ FldF n fs x) ∧ ErrsF S x ns ps
  | _, _ => False
theorem fldF1 {n g : Str} {x : D} (h : errFld n = [g]) (hg : g ≠ "shown") : FldF n [(g, x)] x := ⟨fun f hf _ => by
    rw [h, List.mem_singleton] at hf
    subst hf
    simp [List.lookup], fun hs => by
    rw [h, List.mem_singleton] at hs
    exact absurd hs.symm hg⟩
theorem fldF0 {n : Str} {x : D} (h : errFld n = []) : FldF n [] x := by
  constructor
  · intro f hf _
    rw [h] at hf
    cases hf
  · intro hs
    rw [h] at hs
    cases hs
theorem fldF2 {x : D} : FldF "Broken" [("index", x), ("shown", .int 7)] x := ⟨fun f hf hs => by
    have e : f = "index" ∨ f = "shown" := by
      have z : errFld "Broken" = (["index", "shown"] : List Str) := by decide +kernel
      rw [z] at hf
      simpa using hf
    rcases e with rfl | rfl
    · rfl
    · exact absurd rfl hs, fun _ => by rfl⟩
theorem fldF2' {x : D} : FldF "Broken" [("shown", .int 7), ("index", x)] x := ⟨fun f hf hs => by
    have e : f = "index" ∨ f = "shown" := by
      have z : errFld "Broken" = (["index", "shown"] : List Str) := by decide +kernel
      rw [z] at hf
      simpa using hf
    rcases e with rfl | rfl
    · rfl
    · exact absurd rfl hs, fun _ => by rfl⟩
def sp_k01_given (W : Addr) : DSp := fun ds S Q E => ∃ x, ds = [x] ∧ ∀ (ps qs : List Addr) (S' : SO), Ext S S' → ErrsF S' x nsF ps → ErrsF S' x nsF qs → Q (.lst [.lst (ps.map .obj), .lst (qs.map .obj)]) S'
def w_k01_given (W : Addr) : WS := (wSeq (wAsg (wLst (wCons (wMkE "InvalidText" ["given"] (wCons (wV 0) wNil)) (wCons (wMkE "InvalidTie" ["given"] (wCons (wV 0) wNil)) (wCons (wMkE "InvalidParting" ["given"] (wCons (wV 0) wNil)) (wCons (wMkE "InvalidNumber" ["given"] (wCons (wV 0) wNil)) wNil))))) (gV 1))
    (wSeq (wAsg (wO oAdd (wV 1) (wLst (wCons (wMkE "InvalidName" ["given"] (wCons (wV 0) wNil)) (wCons (wMkE "InvalidWish" ["given"] (wCons (wV 0) wNil)) (wCons (wMkE "InvalidClaim" ["given"] (wCons (wV 0) wNil)) (wCons (wMkE "InvalidPlace" ["given"] (wCons (wV 0) wNil)) wNil)))))) (gV 1))
    (wSeq (wAsg (wO oAdd (wV 1) (wLst (wCons (wMkE "NotAWeb" ["given"] (wCons (wV 0) wNil)) (wCons (wMkE "InvalidPlaces" ["index"] (wCons (wV 0) wNil)) (wCons (wMkE "InvalidTies" ["index"] (wCons (wV 0) wNil)) (wCons (wMkE "InvalidWishes" ["index"] (wCons (wV 0) wNil)) wNil)))))) (gV 1))
    (wSeq (wAsg (wO oAdd (wV 1) (wLst (wCons (wMkE "InvalidChanges" ["index"] (wCons (wV 0) wNil)) (wCons (wMkE "UnknownPlace" ["given"] (wCons (wV 0) wNil)) (wCons (wMkE "UnknownName" ["given"] (wCons (wV 0) wNil)) (wCons (wMkE "InUse" ["index"] (wCons (wV 0) wNil)) wNil)))))) (gV 1))
    (wSeq (wAsg (wO oAdd (wV 1) (wLst (wCons (wMkE "HasRing" ["ring"] (wCons (wV 0) wNil)) (wCons (wMkE "NotMet" ["pair"] (wCons (wV 0) wNil)) (wCons (wMkE "TooMany" ["most"] (wCons (wV 0) wNil)) (wCons (wMkE0 "NothingToUndo") (wCons (wMkE "Broken" ["index", "shown"] (wCons (wV 0) (wCons (wC (.int 7)) wNil))) wNil))))))) (gV 1))
    (wSeq (wAsg (wLst (wCons (wMkE "InvalidText" ["given"] (wCons (wV 0) wNil)) (wCons (wMkE "InvalidTie" ["given"] (wCons (wV 0) wNil)) (wCons (wMkE "InvalidParting" ["given"] (wCons (wV 0) wNil)) wNil)))) (gV 2))
    (wSeq (wAsg (wO oAdd (wV 2) (wLst (wCons (wMkE "InvalidNumber" ["given"] (wCons (wV 0) wNil)) (wCons (wMkE "InvalidName" ["given"] (wCons (wV 0) wNil)) (wCons (wMkE "InvalidWish" ["given"] (wCons (wV 0) wNil)) wNil))))) (gV 2))
    (wSeq (wAsg (wO oAdd (wV 2) (wLst (wCons (wMkE "InvalidClaim" ["given"] (wCons (wV 0) wNil)) (wCons (wMkE "InvalidPlace" ["given"] (wCons (wV 0) wNil)) (wCons (wMkE "NotAWeb" ["given"] (wCons (wV 0) wNil)) wNil))))) (gV 2))
    (wSeq (wAsg (wO oAdd (wV 2) (wLst (wCons (wMkE "InvalidPlaces" ["index"] (wCons (wV 0) wNil)) (wCons (wMkE "InvalidTies" ["index"] (wCons (wV 0) wNil)) (wCons (wMkE "InvalidWishes" ["index"] (wCons (wV 0) wNil)) wNil))))) (gV 2))
    (wSeq (wAsg (wO oAdd (wV 2) (wLst (wCons (wMkE "InvalidChanges" ["index"] (wCons (wV 0) wNil)) (wCons (wMkE "UnknownPlace" ["given"] (wCons (wV 0) wNil)) (wCons (wMkE "UnknownName" ["given"] (wCons (wV 0) wNil)) wNil))))) (gV 2))
    (wSeq (wAsg (wO oAdd (wV 2) (wLst (wCons (wMkE "InUse" ["index"] (wCons (wV 0) wNil)) (wCons (wMkE "HasRing" ["ring"] (wCons (wV 0) wNil)) (wCons (wMkE "NotMet" ["pair"] (wCons (wV 0) wNil)) (wCons (wMkE "TooMany" ["most"] (wCons (wV 0) wNil)) wNil)))))) (gV 2))
    (wSeq (wAsg (wO oAdd (wV 2) (wLst (wCons (wMkE0 "NothingToUndo") (wCons (wMkE "Broken" ["shown", "index"] (wCons (wC (.int 7)) (wCons (wV 0) wNil))) wNil)))) (gV 2))
    (wRet (wLst (wCons (wV 1) (wCons (wV 2) wNil))))))))))))))))
theorem pure_k01_given (W : Addr) : ∀ ds S Q E, sp_k01_given W ds S Q E → w_k01_given W (endsOf Q) (startD ["_law_thing", "_law_found", "_law_named"] ds) S := by
  rintro ds S Q E ⟨x, rfl, q⟩
  refine xFn ?_
  show w_k01_given W _ [some _, none, none] S
  unfold w_k01_given
  have h0 : HasX S [] S := ⟨fun _ _ z => z, fun e he => by cases he⟩
  and_intros
  iterate 4 (refine xMk1 (fun _ z => v0 z) (by assumption) ?_; clear h0; intro _ _ h0; and_intros)
  iterate 4 (refine xMk1 (fun _ z => v0 z) (by assumption) ?_; clear h0; intro _ _ h0; and_intros)
  refine addL_mk (show 4 + 4 ≤ 1000000 by decide) ?_
  and_intros
  iterate 4 (refine xMk1 (fun _ z => v0 z) (by assumption) ?_; clear h0; intro _ _ h0; and_intros)
  refine addL_mk (show 8 + 4 ≤ 1000000 by decide) ?_
  and_intros
  iterate 4 (refine xMk1 (fun _ z => v0 z) (by assumption) ?_; clear h0; intro _ _ h0; and_intros)
  refine addL_mk (show 12 + 4 ≤ 1000000 by decide) ?_
  and_intros
  iterate 3 (refine xMk1 (fun _ z => v0 z) (by assumption) ?_; clear h0; intro _ _ h0; and_intros)
  refine xMk0 (by assumption) ?_
  clear h0
  intro _ _ h0
  and_intros
  refine xMk2 (fun _ z => v0 z) (by assumption) ?_
  clear h0
  intro _ _ h0
  and_intros
  refine addL_mk (show 16 + 5 ≤ 1000000 by decide) ?_
  and_intros
  iterate 3 (refine xMk1 (fun _ z => v0 z) (by assumption) ?_; clear h0; intro _ _ h0; and_intros)
  iterate 3 (refine xMk1 (fun _ z => v0 z) (by assumption) ?_; clear h0; intro _ _ h0; and_intros)
  refine addL_mk (show 3 + 3 ≤ 1000000 by decide) ?_
  and_intros
  iterate 3 (refine xMk1 (fun _ z => v0 z) (by assumption) ?_; clear h0; intro _ _ h0; and_intros)
  refine addL_mk (show 6 + 3 ≤ 1000000 by decide) ?_
  and_intros
  iterate 3 (refine xMk1 (fun _ z => v0 z) (by assumption) ?_; clear h0; intro _ _ h0; and_intros)
  refine addL_mk (show 9 + 3 ≤ 1000000 by decide) ?_
  and_intros
  iterate 3 (refine xMk1 (fun _ z => v0 z) (by assumption) ?_; clear h0; intro _ _ h0; and_intros)
  refine addL_mk (show 12 + 3 ≤ 1000000 by decide) ?_
  and_intros
  iterate 4 (refine xMk1 (fun _ z => v0 z) (by assumption) ?_; clear h0; intro _ _ h0; and_intros)
  refine addL_mk (show 15 + 4 ≤ 1000000 by decide) ?_
  and_intros
  refine xMk0 (by assumption) ?_
  clear h0
  intro _ _ h0
  and_intros
  refine xMk2' (fun _ z => v0 z) (by assumption) ?_
  clear h0
  intro _ _ h0
  and_intros
  refine addL_mk (show 19 + 2 ≤ 1000000 by decide) ?_
  and_intros
  obtain ⟨hx, h0⟩ := h0
  simp only [List.forall_mem_cons] at h0
  obtain ⟨b20, b19, b18, b17, b16, b15, b14, b13, b12, b11, b10, b9, b8, b7, b6, b5, b4, b3, b2, b1, b0, a20, a19, a18, a17, a16, a15, a14, a13, a12, a11, a10, a9, a8, a7, a6, a5, a4, a3, a2, a1, a0, -⟩ := h0
  refine cl (q [_, _, _, _, _, _, _, _, _, _, _, _, _, _, _, _, _, _, _, _, _] [_, _, _, _, _, _, _, _, _, _, _, _, _, _, _, _, _, _, _, _, _] _ hx ?_ ?_)
  · exact ⟨⟨_, a0, fldF1 (by decide +kernel) (by decide +kernel)⟩, ⟨⟨_, a1, fldF1 (by decide +kernel) (by decide +kernel)⟩, ⟨⟨_, a2, fldF1 (by decide +kernel) (by decide +kernel)⟩, ⟨⟨_, a3, fldF1 (by decide +kernel) (by decide +kernel)⟩, ⟨⟨_, a4, fldF1 (by decide +kernel) (by decide +kernel)⟩, ⟨⟨_, a5, fldF1 (by decide +kernel) (by decide +kernel)⟩, ⟨⟨_, a6, fldF1 (by decide +kernel) (by decide +kernel)⟩, ⟨⟨_, a7, fldF1 (by decide +kernel) (by decide +kernel)⟩, ⟨⟨_, a8, fldF1 (by decide +kernel) (by decide +kernel)⟩, ⟨⟨_, a9, fldF1 (by decide +kernel) (by decide +kernel)⟩, ⟨⟨_, a10, fldF1 (by decide +kernel) (by decide +kernel)⟩, ⟨⟨_, a11, fldF1 (by decide +kernel) (by decide +kernel)⟩, ⟨⟨_, a12, fldF1 (by decide +kernel) (by decide +kernel)⟩, ⟨⟨_, a13, fldF1 (by decide +kernel) (by decide +kernel)⟩, ⟨⟨_, a14, fldF1 (by decide +kernel) (by decide +kernel)⟩, ⟨⟨_, a15, fldF1 (by decide +kernel) (by decide +kernel)⟩, ⟨⟨_, a16, fldF1 (by decide +kernel) (by decide +kernel)⟩, ⟨⟨_, a17, fldF1 (by decide +kernel) (by decide +kernel)⟩, ⟨⟨_, a18, fldF1 (by decide +kernel) (by decide +kernel)⟩, ⟨⟨_, a19, fldF0 (by decide +kernel)⟩, ⟨⟨_, a20, fldF2⟩, trivial⟩⟩⟩⟩⟩⟩⟩⟩⟩⟩⟩⟩⟩⟩⟩⟩⟩⟩⟩⟩⟩
  · exact ⟨⟨_, b0, fldF1 (by decide +kernel) (by decide +kernel)⟩, ⟨⟨_, b1, fldF1 (by decide +kernel) (by decide +kernel)⟩, ⟨⟨_, b2, fldF1 (by decide +kernel) (by decide +kernel)⟩, ⟨⟨_, b3, fldF1 (by decide +kernel) (by decide +kernel)⟩, ⟨⟨_, b4, fldF1 (by decide +kernel) (by decide +kernel)⟩, ⟨⟨_, b5, fldF1 (by decide +kernel) (by decide +kernel)⟩, ⟨⟨_, b6, fldF1 (by decide +kernel) (by decide +kernel)⟩, ⟨⟨_, b7, fldF1 (by decide +kernel) (by decide +kernel)⟩, ⟨⟨_, b8, fldF1 (by decide +kernel) (by decide +kernel)⟩, ⟨⟨_, b9, fldF1 (by decide +kernel) (by decide +kernel)⟩, ⟨⟨_, b10, fldF1 (by decide +kernel) (by decide +kernel)⟩, ⟨⟨_, b11, fldF1 (by decide +kernel) (by decide +kernel)⟩, ⟨⟨_, b12, fldF1 (by decide +kernel) (by decide +kernel)⟩, ⟨⟨_, b13, fldF1 (by decide +kernel) (by decide +kernel)⟩, ⟨⟨_, b14, fldF1 (by decide +kernel) (by decide +kernel)⟩, ⟨⟨_, b15, fldF1 (by decide +kernel) (by decide +kernel)⟩, ⟨⟨_, b16, fldF1 (by decide +kernel) (by decide +kernel)⟩, ⟨⟨_, b17, fldF1 (by decide +kernel) (by decide +kernel)⟩, ⟨⟨_, b18, fldF1 (by decide +kernel) (by decide +kernel)⟩, ⟨⟨_, b19, fldF0 (by decide +kernel)⟩, ⟨⟨_, b20, fldF2'⟩, trivial⟩⟩⟩⟩⟩⟩⟩⟩⟩⟩⟩⟩⟩⟩⟩⟩⟩⟩⟩⟩⟩
end
section
open PySem PySem.Spec PyProof.Rows
/-! UA1: k01: what is kept, what is raised, the law -/
theorem errsF_get {S : SO} {x : D} : ∀ {ns : List Str} {ps : List Addr}, ErrsF S x ns ps → ps.length = ns.length ∧ ∀ (i : Nat) (n : Str), ns[i]? = some n → ∃ p fs, ps[i]? = some p ∧ S p = some (.err n fs) ∧ FldF n fs x
  | [], [], _ => ⟨rfl, fun i n h => by simp at h⟩
  | n :: ns, p :: ps, ⟨⟨fs, h1, h2⟩, h3⟩ => by
    obtain ⟨hl, hg⟩ := errsF_get h3
    refine ⟨by simp [hl], fun i m h => ?_⟩
    cases i with
    | zero =>
      have e : n = m := by simpa using h
      subst e
      exact ⟨p, fs, rfl, h1, h2⟩
    | succ i => exact hg i m (by simpa using h)
  | [], _ :: _, h => h.elim
  | _ :: _, [], h => h.elim
def sp_k01_kept (W : Addr) : DSp := fun ds S Q E => ∃ (ps : List Addr) (x : D), ds = [.lst (ps.map .obj), x] ∧ ErrsF S x nsF ps ∧ ValB 1 20 x ∧ Q (.bl true) S
def w_k01_kept (W : Addr) : WS := (wSeq (wAsg (wLcP (wSeqI (wLst (wCons (wC (.int 0)) (wCons (wC (.int 1)) (wCons (wC (.int 2)) (wCons (wC (.int 3)) (wCons (wC (.int 4)) (wCons (wC (.int 5)) (wCons (wC (.int 6)) (wCons (wC (.int 7)) (wCons (wC (.int 8)) (wCons (wC (.int 13)) (wCons (wC (.int 14)) wNil))))))))))))) (.n 4) wYes (wFldE ["InvalidText", "InvalidTie", "InvalidParting", "InvalidNumber", "InvalidName", "InvalidWish", "InvalidClaim", "InvalidPlace", "NotAWeb", "UnknownPlace", "UnknownName"] "given" (wO oIx (wV 0) (wV 4))) [4]) (gV 2))
    (wSeq (wAsg (wO oAdd (wV 2) (wLcP (wSeqI (wLst (wCons (wC (.int 9)) (wCons (wC (.int 10)) (wCons (wC (.int 11)) (wCons (wC (.int 12)) (wCons (wC (.int 15)) wNil))))))) (.n 4) wYes (wFldE ["InvalidPlaces", "InvalidTies", "InvalidWishes", "InvalidChanges", "InUse", "Broken"] "index" (wO oIx (wV 0) (wV 4))) [4])) (gV 2))
    (wSeq (wAsg (wO oAdd (wV 2) (wLst (wCons (wFldE ["HasRing"] "ring" (wO oIx (wV 0) (wC (.int 16)))) (wCons (wFldE ["NotMet"] "pair" (wO oIx (wV 0) (wC (.int 17)))) (wCons (wFldE ["TooMany"] "most" (wO oIx (wV 0) (wC (.int 18)))) wNil))))) (gV 2))
    (wSeq (wAsg (wO oIx (wV 0) (wC (.int 20))) (gV 3))
    (wRet (wAndV (wO oEq (wCall cReprV (wCons (wV 2) wNil)) (wCall cReprV (wCons (wO oMul (wLst (wCons (wV 1) wNil)) (wCall cLen (wCons (wV 2) wNil))) wNil))) (wO oEq (wCall cReprV (wCons (wLst (wCons (wFldE ["InvalidPlaces", "InvalidTies", "InvalidWishes", "InvalidChanges", "InUse", "Broken"] "index" (wV 3)) (wCons (wFldE ["Broken"] "shown" (wV 3)) wNil))) wNil)) (wCall cReprV (wCons (wLst (wCons (wV 1) (wCons (wC (.int 7)) wNil))) wNil)))))))))
theorem pure_k01_kept (W : Addr) : ∀ ds S Q E, sp_k01_kept W ds S Q E → w_k01_kept W (endsOf Q) (startD ["_law_found", "_law_thing", "_law_some", "_law_last", "_law_k"] ds) S := by
  rintro ds S Q E ⟨ps, x, rfl, hE, hV, q⟩
  obtain ⟨hl, hg⟩ := errsF_get hE
  refine xFn ?_
  show w_k01_kept W _ [some _, some _, none, none, none] S
  unfold w_k01_kept
  and_intros
  refine lcM ([0, 1, 2, 3, 4, 5, 6, 7, 8, 13, 14] : List Nat) (fun i : Nat => D.int (i : Nat)) (fun _ => x) ?_ (by decide) (fun i hi S' e => ?_) ?_
  · and_intros
    exact srcX rfl
  · have hn : ∃ n, nsF[i]? = some n ∧ n ∈ (["InvalidText", "InvalidTie", "InvalidParting", "InvalidNumber", "InvalidName", "InvalidWish", "InvalidClaim", "InvalidPlace", "NotAWeb", "UnknownPlace", "UnknownName"] : List Str) ∧ ("given" : Str) ∈ errFld n := by
      simp only [List.mem_cons, List.not_mem_nil, or_false] at hi
      rcases hi with rfl | rfl | rfl | rfl | rfl | rfl | rfl | rfl | rfl | rfl | rfl <;> exact ⟨_, rfl, by decide +kernel, by decide +kernel⟩
    obtain ⟨n, h1, h2, h3⟩ := hn
    obtain ⟨p, fs, h4, h5, h6⟩ := hg i n h1
    (simp only [prD, putNT, wipeD, putAll, List.set_cons_zero, List.set_cons_succ, List.length_cons, List.length_nil, true_and]; and_intros)
    refine xFldE ?_
    and_intros
    refine ixLst (atI_nat (j := i) (by rw [List.getElem?_map, h4]; rfl)) ?_
    exact ⟨p, n, fs, x, rfl, e p _ h5, h2, h6.1 "given" h3 (by decide), rfl, rfl⟩
  and_intros
  refine lcM ([9, 10, 11, 12, 15] : List Nat) (fun i : Nat => D.int (i : Nat)) (fun _ => x) ?_ (by decide) (fun i hi S' e => ?_) ?_
  · and_intros
    exact srcX rfl
  · have hn : ∃ n, nsF[i]? = some n ∧ n ∈ (["InvalidPlaces", "InvalidTies", "InvalidWishes", "InvalidChanges", "InUse", "Broken"] : List Str) ∧ ("index" : Str) ∈ errFld n := by
      simp only [List.mem_cons, List.not_mem_nil, or_false] at hi
      rcases hi with rfl | rfl | rfl | rfl | rfl <;> exact ⟨_, rfl, by decide +kernel, by decide +kernel⟩
    obtain ⟨n, h1, h2, h3⟩ := hn
    obtain ⟨p, fs, h4, h5, h6⟩ := hg i n h1
    (simp only [prD, putNT, wipeD, putAll, List.set_cons_zero, List.set_cons_succ, List.length_cons, List.length_nil, true_and]; and_intros)
    refine xFldE ?_
    and_intros
    refine ixLst (atI_nat (j := i) (by rw [List.getElem?_map, h4]; rfl)) ?_
    exact ⟨p, n, fs, x, rfl, e p _ h5, h2, h6.1 "index" h3 (by decide), rfl, rfl⟩
  and_intros
  refine addL_mk (show 11 + 5 ≤ 1000000 by decide) ?_
  and_intros
  obtain ⟨p16, f16, a16, b16, c16⟩ := hg 16 "HasRing" rfl
  obtain ⟨p17, f17, a17, b17, c17⟩ := hg 17 "NotMet" rfl
  obtain ⟨p18, f18, a18, b18, c18⟩ := hg 18 "TooMany" rfl
  obtain ⟨p20, f20, a20, b20, c20⟩ := hg 20 "Broken" rfl
  refine xFldE ?_
  and_intros
  refine ixLst (atI_nat (j := 16) (by rw [List.getElem?_map, a16]; rfl)) ?_
  refine ⟨p16, _, f16, x, rfl, b16, by decide +kernel, c16.1 "ring" (by decide +kernel) (by decide), ?_⟩
  and_intros
  refine xFldE ?_
  and_intros
  refine ixLst (atI_nat (j := 17) (by rw [List.getElem?_map, a17]; rfl)) ?_
  refine ⟨p17, _, f17, x, rfl, b17, by decide +kernel, c17.1 "pair" (by decide +kernel) (by decide), ?_⟩
  and_intros
  refine xFldE ?_
  and_intros
  refine ixLst (atI_nat (j := 18) (by rw [List.getElem?_map, a18]; rfl)) ?_
  refine ⟨p18, _, f18, x, rfl, b18, by decide +kernel, c18.1 "most" (by decide +kernel) (by decide), ?_⟩
  and_intros
  refine addL_mk (show 16 + 3 ≤ 1000000 by decide) ?_
  and_intros
  refine ixLst (atI_nat (j := 20) (by rw [List.getElem?_map, a20]; rfl)) ?_
  and_intros
  have hm : ∀ n : Nat, List.map (fun _ : Nat => x) [0, 1, 2, 3, 4, 5, 6, 7, 8, 13, 14] ++ List.map (fun _ : Nat => x) [9, 10, 11, 12, 15] ++ [x, x, x] = (List.replicate 19 [x]).flatten := fun _ => rfl
  obtain ⟨p, hp, sp⟩ := (ValB.lst (n := 1) (m := 20) (List.replicate 19 [x]).flatten (show 19 ≤ 20 by decide) (fun y hy => by
    have e : y = x := by simpa using hy
    exact e ▸ hV) : ValB 2 20 (.lst (List.replicate 19 [x]).flatten)).showV (by decide) (by decide +kernel)
  obtain ⟨p', hp', sp'⟩ := (ValB.lst (n := 1) (m := 20) [x, .int 7] (show 2 ≤ 20 by decide) (fun y hy => by
    simp only [List.mem_cons, List.not_mem_nil, or_false] at hy
    rcases hy with rfl | rfl
    · exact hV
    · exact .int _ (by decide)) : ValB 2 20 (.lst [x, .int 7])).showV (by decide) (by decide +kernel)
  refine ⟨p, hp, sp, ?_⟩
  and_intros
  refine lMul (k := 19) ?_ (by decide) (show 1 ≤ 1000 by decide)
  and_intros
  refine ⟨p, hp, sp, ?_⟩
  and_intros
  refine isYB (by simp) ?_
  and_intros
  refine xFldE ?_
  and_intros
  refine ⟨p20, _, f20, x, rfl, b20, by decide +kernel, c20.1 "index" (by decide +kernel) (by decide), ?_⟩
  and_intros
  refine xFldE ?_
  and_intros
  refine ⟨p20, _, f20, .int 7, rfl, b20, by decide +kernel, c20.2 (by decide +kernel), ?_⟩
  and_intros
  refine ⟨p', hp', sp', ?_⟩
  and_intros
  refine ⟨p', hp', sp', ?_⟩
  and_intros
  rw [show decide (p'.shown = p'.shown) = true by simp]
  exact cl q
theorem eqT3 {S : SO} {Q : KD} {q : Addr} {u : Str} (hu : OkS u) (hq : S q = some (.lst [.str u, .str u, .str u])) (h : Q (.bl true) S) : oEq (.obj q) (.lst [.str u, .str u, .str u]) S Q := by
  have l : (PyData.list [.str u, .str u, .str u]).canLay0 = true := by
    simp only [PyData.canLay0, PyData.canLayAll0, Bool.and_eq_true]
    have z : PyData.strOk u = true := by
      unfold PyData.strOk
      rw [Array.all_eq_true_iff_forall_mem]
      intro c hc
      simpa using hu c (by simpa using hc)
    exact ⟨z, z, z, trivial⟩
  have s : SeqAt.shaped (.list [.str u, .str u, .str u]) = true := shaped_of l (by simp [PyData.depth, PyData.depthAll])
  refine ⟨.list [.str u, .str u, .str u], .list [.str u, .str u, .str u], ?_, rfl, s, s, ?_⟩
  · show (objL (S q)).bind (fun l => (pyDs l).map PyData.list) = _
    rw [hq]
    rfl
  · rw [SeqAt.eqv_refl _ l]
    exact h
def sp_k01_raised (W : Addr) : DSp := fun ds S Q E => ∃ x : D, ds = [x] ∧ ValB 1 20 x ∧ Q (.bl true) S
def w_k01_raised (W : Addr) : WS := (wSeq (wAsg (wNew wNil) (gV 1))
    (wSeq (wTry0 nsF (wRaise "InvalidText" "given" (wCons (wV 0) wNil)) [⟨["NotRight"], some 2, (wDrop (wBM "list" mAppend (wV 1) (wCons (wCall cReprV (wCons (wFldE ["InvalidText", "InvalidTie", "InvalidParting", "InvalidNumber", "InvalidName", "InvalidWish", "InvalidClaim", "InvalidPlace", "NotAWeb", "UnknownPlace", "UnknownName"] "given" (wV 2)) wNil)) wNil)))⟩])
    (wSeq (wTry0 nsF (wRaise "UnknownName" "given" (wCons (wV 0) wNil)) [⟨["NotThere"], some 2, (wDrop (wBM "list" mAppend (wV 1) (wCons (wCall cReprV (wCons (wFldE ["InvalidText", "InvalidTie", "InvalidParting", "InvalidNumber", "InvalidName", "InvalidWish", "InvalidClaim", "InvalidPlace", "NotAWeb", "UnknownPlace", "UnknownName"] "given" (wV 2)) wNil)) wNil)))⟩])
    (wSeq (wTry0 nsF (wRaise2 "Broken" (wCons (wV 0) (wCons (wC (.int 3)) wNil))) [⟨["CannotBe"], some 2, (wDrop (wBM "list" mAppend (wV 1) (wCons (wCall cReprV (wCons (wFldE ["InvalidPlaces", "InvalidTies", "InvalidWishes", "InvalidChanges", "InUse", "Broken"] "index" (wV 2)) wNil)) wNil)))⟩])
    (wRet (wO oEq (wV 1) (wO oMul (wLst (wCons (wCall cReprV (wCons (wV 0) wNil)) wNil)) (wC (.int 3)))))))))
theorem pure_k01_raised (W : Addr) : ∀ ds S Q E, sp_k01_raised W ds S Q E → w_k01_raised W (endsOf Q) (startD ["_law_thing", "_law_seen", "_law_e"] ds) S := by
  rintro ds S Q E ⟨x, rfl, hV, q⟩
  obtain ⟨p, hp, sp⟩ := hV.showV (by decide) (by decide +kernel)
  have hu := hV.okS p hp
  refine xFn ?_
  show w_k01_raised W _ [some _, none, none] S
  unfold w_k01_raised
  and_intros
  intro g ng
  and_intros
  refine ⟨x, rfl, by decide +kernel, fun _ a1 na1 => ?_, fun h => absurd h (by decide +kernel)⟩
  have ga1 : g ≠ a1 := so_ne set_same na1
  dsimp only
  unfold goneD
  show wDrop _ _ [some x, some (.obj g), some (.obj a1)] _
  and_intros
  refine bmObj (by rw [set_ne ga1]; exact set_same) ?_
  and_intros
  refine xFldE ?_
  and_intros
  refine ⟨a1, _, _, x, rfl, set_same, by decide +kernel, by rfl, ?_⟩
  and_intros
  refine ⟨p, hp, sp, ?_⟩
  and_intros
  refine apM (f := D.str) (l := []) (z := p.shown) (by rw [set_ne ga1]; exact set_same) (by decide) ?_
  and_intros
  refine ⟨x, rfl, by decide +kernel, fun _ a2 na2 => ?_, fun h => absurd h (by decide +kernel)⟩
  have ga2 : g ≠ a2 := so_ne set_same na2
  dsimp only
  unfold goneD
  show wDrop _ _ [some x, some (.obj g), some (.obj a2)] _
  and_intros
  refine bmObj (by rw [set_ne ga2]; exact set_same) ?_
  and_intros
  refine xFldE ?_
  and_intros
  refine ⟨a2, _, _, x, rfl, set_same, by decide +kernel, by rfl, ?_⟩
  and_intros
  refine ⟨p, hp, sp, ?_⟩
  and_intros
  refine apM (f := D.str) (l := [p.shown]) (z := p.shown) (by rw [set_ne ga2]; exact set_same) (show 1 < 1000000 by decide) ?_
  and_intros
  refine ⟨rfl, by decide +kernel, fun _ a3 na3 => ?_, fun h => absurd h (by decide +kernel)⟩
  have ga3 : g ≠ a3 := so_ne set_same na3
  dsimp only
  unfold goneD
  show wDrop _ _ [some x, some (.obj g), some (.obj a3)] _
  and_intros
  refine bmObj (by rw [set_ne ga3]; exact set_same) ?_
  and_intros
  refine xFldE ?_
  and_intros
  refine ⟨a3, _, _, x, rfl, set_same, by decide +kernel, by rfl, ?_⟩
  and_intros
  refine ⟨p, hp, sp, ?_⟩
  and_intros
  refine apM (f := D.str) (l := [p.shown, p.shown]) (z := p.shown) (by rw [set_ne ga3]; exact set_same) (show 2 < 1000000 by decide) ?_
  and_intros
  refine ⟨p, hp, sp, ?_⟩
  and_intros
  refine lMul (k := 3) ?_ (by decide) (show 1 ≤ 1000 by decide)
  refine eqT3 hu set_same ?_
  have e1 : HasX S [(g, .lst [])] (S.set g (.lst [])) := HasX.new (L := []) ⟨fun _ _ z => z, fun e he => by cases he⟩ ng
  refine clX (fun b o hb => ?_) q
  have gb : b ≠ g := so_ne hb ng
  rw [set_ne gb]
  have h1 : ((S.set g (.lst [])).set a1 (.err "InvalidText" [("given", x)])) b = some o := by
    have : S.set g (.lst []) b = some o := by rw [set_ne gb]; exact hb
    rw [set_ne (so_ne this na1)]
    exact this
  have h2 := (set_ne (o := .lst (List.map D.str ([] ++ [p.shown]))) gb).trans h1
  have h3 := (set_ne (o := .err "UnknownName" [("given", x)]) (so_ne h2 na2)).trans h2
  have h4 := (set_ne (o := .lst (List.map D.str ([p.shown] ++ [p.shown]))) gb).trans h3
  exact (set_ne (so_ne h4 na3)).trans h4
theorem eqPs_b : ∀ bs : List Bool, EqPs (bs.map D.bl) (bs.map D.bl) true
  | [] => EqPs.nil
  | b :: bs => by
    have z := EqPs.cons (EqP.b b b) (eqPs_b bs)
    simpa using z
theorem neBs {S : SO} {Q : KD} {xs ys : List D} (bs : List Bool) (h1 : xs = bs.map .bl) (h2 : ys = bs.map .bl) (h : Q (.bl false) S) : oNe (.lst xs) (.lst ys) S Q := by
  subst h1 h2
  exact neLs (eqPs_b bs) h
theorem srt_at : ∀ k < 21, nsF.map (fun m => isE (nsF.getD k Str.empty) m) = (List.range 21).map fun i => decide (i = k) := by decide +kernel
theorem bas_at : ∀ k < 21, baF.map (fun m => isE (nsF.getD k Str.empty) m) = [decide (k < 13), decide (12 < k ∧ k < 16), decide (16 ≤ k), decide (k < 13), decide (12 < k ∧ k < 16), decide (16 ≤ k), false, false, false] := by decide +kernel
theorem ns_at : ∀ k < 21, nsF.getD k Str.empty ∈ nsF ∧ nsF[k]? = some (nsF.getD k Str.empty) := by decide +kernel
def sp_k01_right (W : Addr) : DSp := fun ds S Q E => ∃ x : D, ds = [x] ∧ ValB 1 20 x ∧ Q (.bl true) S
def w_k01_right (W : Addr) : WS := (wSeq (wFor (wSeqI (wFn (sp_k01_given W) [] (wCons (wV 0) wNil))) (gV 1) (wSeq (wFor (wRng1 (wCons (wCall cLen (wCons (wV 1) wNil)) wNil)) (gV 2) (wSeq (wAsg (wLcP (wRng1 (wCons (wCall cLen (wCons (wV 1) wNil)) wNil)) (.n 4) wYes (wO oEq (wV 4) (wV 2)) [4]) (gV 3))
    (wIfS (wOr (wB (wO oNe (wFn (sp_k01_sorts W) [] (wCons (wO oIx (wV 1) (wV 2)) wNil)) (wV 3))) (wB (wO oNe (wFn (sp_k01_bases W) [] (wCons (wO oIx (wV 1) (wV 2)) wNil)) (wFn (sp_k01_due W) [] (wCons (wV 2) wNil))))) (wRet (wC (.bl false))) wNext)))
    (wIfS (wNot (wB (wFn (sp_k01_kept W) [] (wCons (wV 1) (wCons (wV 0) wNil))))) (wRet (wC (.bl false))) wNext)))
    (wRet (wFn (sp_k01_raised W) [] (wCons (wV 0) wNil))))
theorem pure_k01_right (W : Addr) : ∀ ds S Q E, sp_k01_right W ds S Q E → w_k01_right W (endsOf Q) (startD ["_law_thing", "_law_found", "_law_k", "_law_due_here", "_law_at"] ds) S := by
  rintro ds S Q E ⟨x, rfl, hV, q⟩
  refine xFn ?_
  show w_k01_right W _ [some _, none, none, none, none] S
  unfold w_k01_right
  and_intros
  refine ⟨x, rfl, fun ps qs S1 hx h1 h2 => ?_⟩
  and_intros
  refine forJ [ps, qs] (fun l : List Addr => .lst (l.map .obj)) (fun cs : List (Option D) => [some x, cs.getD 0 none, cs.getD 1 none, cs.getD 2 none, none]) (fun _ => S1) (fun _ _ => True) [] trivial ?_ ?_
  · rintro j l cs hj -
    have hE : ErrsF S1 x nsF l := by
      match j, hj with
      | 0, hj => cases hj; exact h1
      | 1, hj => cases hj; exact h2
    obtain ⟨hl, hg⟩ := errsF_get hE
    have hl21 : l.length = 21 := hl
    and_intros
    rw [hl21]
    refine rng1N (by decide) ?_
    refine forR (fun cs : List (Option D) => [some x, some (.lst (l.map .obj)), cs.getD 1 none, cs.getD 2 none, none]) (fun _ => S1) (fun _ _ => True) cs trivial ?_ ?_
    · rintro k c2 hk -
      obtain ⟨hn, hat⟩ := ns_at k hk
      obtain ⟨p, fs, e1, e2, _⟩ := hg k _ hat
      and_intros
      refine lcM (List.range 21) (fun i : Nat => D.int (i : Nat)) (fun i => .bl (decide (i = k))) ?_ (by decide) (fun i hi S' e => ?_) ?_
      · and_intros
        rw [hl21]
        refine rng1N (by decide) ?_
        exact srcR
      · (simp only [prD, putNT, wipeD, putAll, List.set_cons_zero, List.set_cons_succ, List.length_cons, List.length_nil, true_and]; and_intros)
        exact ⟨rfl, by
          show D.bl (decide (i = k)) = D.bl (decide ((i : Int) = (k : Int)))
          rw [show decide (i = k) = decide ((i : Int) = (k : Int)) from decide_eq_decide.mpr (by omega)]⟩
      and_intros
      refine ixLst (atI_nat (j := k) (by rw [List.getElem?_map, e1]; rfl)) ?_
      and_intros
      refine ⟨p, _, fs, rfl, e2, hn, ?_⟩
      and_intros
      refine neBs ((List.range 21).map fun i => decide (i = k)) (by rw [← srt_at k hk, List.map_map]; rfl) (by rw [List.map_map]; rfl) ?_
      refine isNB (by rfl) ?_
      and_intros
      refine ixLst (atI_nat (j := k) (by rw [List.getElem?_map, e1]; rfl)) ?_
      and_intros
      refine ⟨p, _, fs, rfl, e2, hn, ?_⟩
      and_intros
      refine ⟨k, rfl, ?_⟩
      and_intros
      refine neBs [decide (k < 13), decide (12 < k ∧ k < 16), decide (16 ≤ k), decide (k < 13), decide (12 < k ∧ k < 16), decide (16 ≤ k), false, false, false] (by rw [← bas_at k hk, List.map_map]; rfl) (by rfl) ?_
      refine isNB (by rfl) ?_
      and_intros
      exact .of [none, some (.int (k : Nat)), some (.lst ((List.range 21).map fun i => .bl (decide (i = k))))] trivial
    · rintro c2 -
      and_intros
      refine ⟨l, x, rfl, hE, hV, ?_⟩
      and_intros
      exact .of [some (.lst (l.map .obj)), c2.getD 1 none, c2.getD 2 none] trivial
  · rintro cs -
    and_intros
    refine ⟨x, rfl, hV, ?_⟩
    exact clX hx q
theorem eqP_i (i : Int) : EqP (.int i) (.int i) true := by
  have l : (PyData.int i).canLay0 = true := by simp [PyData.canLay0]
  exact ⟨.int i, .int i, rfl, rfl, l, l, by simp [PyData.depth], by simp [PyData.depth], SeqAt.eqv_refl _ l⟩
def sp_k01_law (W : Addr) : DSp := LawSp 63
def w_k01_law (W : Addr) : WS := (wSeq (wAsg (wLst (wCons (wC (.int 40)) (wCons (wC (.int 200)) (wCons (wC (.int 9)) (wCons (wC (.int 5)) wNil))))) (gV 1))
    (wSeq (wIfS (wB (wO oNe (wV 1) (wLst (wCons (wC (.int 40)) (wCons (wC (.int 200)) (wCons (wC (.int 9)) (wCons (wC (.int 5)) wNil))))))) (wRet (wC (.bl false))) wNext)
    (wSeq (wAsg (wO oAdd (wLst (wCons (wC .non) (wCons (wC (.str "a")) (wCons (wTup (wCons (wC (.int 1)) (wCons (wC (.str "x")) wNil))) (wCons (wC (.bl true)) (wCons (wU oNeg (wC (.int 3))) wNil)))))) (wLcP (wSeqI (wSl (wV 0) pNone (pSome (wC (.int 3))))) (.n 3) wYes (wO oMod (wCall cInt (wCons (wV 3) wNil)) (wO oPow (wC (.int 10)) (wC (.int 12)))) [3])) (gV 2))
    (wRet (wO oEq (wLcP (wSeqI (wV 2)) (.n 4) (wNot (wB (wFn (sp_k01_right W) [] (wCons (wV 4) wNil)))) (wV 4) [4]) (wLst wNil))))))
theorem pure_k01_law (W : Addr) : ∀ ds S Q E, sp_k01_law W ds S Q E → w_k01_law W (endsOf Q) (startD ["_law_cells", "_law_limits_here", "_law_things", "_law_cell", "_law_thing"] ds) S := by
  rintro ds S Q E ⟨ns, rfl, hns, hS, q⟩
  refine xFn ?_
  show w_k01_law W _ [some _, none, none, none, none] S
  unfold w_k01_law
  and_intros
  refine neLs (.cons (eqP_i _) (.cons (eqP_i _) (.cons (eqP_i _) (.cons (eqP_i _) .nil)))) ?_
  refine isNB (by rfl) ?_
  and_intros
  refine lcM (ns.take 3) D.int (fun i => .int (i % 10 ^ 12)) ?_ (by rw [List.length_take]; omega) (fun i hi S' e => ?_) ?_
  · and_intros
    exact srcX (by rw [show (3 : Int) = ((3 : Nat) : Int) from rfl, cutHi, List.map_take])
  · (simp only [prD, putNT, wipeD, putAll, List.set_cons_zero, List.set_cons_succ, List.length_cons, List.length_nil, true_and]; and_intros)
    refine ⟨by unfold CPow; decide, ?_⟩
    exact ⟨(by decide : (0 : Int) < 10 ^ Int.toNat 12), rfl, rfl⟩
  and_intros
  refine addL_mk (by simp; omega) ?_
  and_intros
  refine lcF ([.non, .str "a", .tup [.int 1, .str "x"], .bl true, .int (-3)] ++ (ns.take 3).map fun i => .int (i % 10 ^ 12)) (fun d : D => d) (fun _ => false) (fun d => d) ?_ (by simp; omega) (fun d hd S' e => ?_) ?_
  · and_intros
    exact srcX (List.map_id _).symm
  · have V : ValB 1 20 d := by
      rcases List.mem_append.mp hd with h | h
      · simp only [List.mem_cons, List.not_mem_nil, or_false] at h
        rcases h with rfl | rfl | rfl | rfl | rfl
        · exact .non
        · exact .str _ (by decide +kernel) (by decide +kernel)
        · refine .tup _ (by decide) fun y hy => ?_
          simp only [List.mem_cons, List.not_mem_nil, or_false] at hy
          rcases hy with rfl | rfl
          · exact .int _ (by decide)
          · exact .str _ (by decide +kernel) (by decide +kernel)
        · exact .bl _
        · exact .int _ (by decide)
      · obtain ⟨i, _, rfl⟩ := List.mem_map.mp h
        refine .int _ ?_
        have h1 := Int.emod_nonneg i (show (10 : Int) ^ 12 ≠ 0 by decide)
        have h2 := Int.emod_lt_of_pos i (show (0 : Int) < 10 ^ 12 by decide)
        have h3 : (10 : Int) ^ 12 = 1000000000000 := by decide
        have h4 : (10 : Nat) ^ 30 = 1000000000000000000000000000000 := by decide
        omega
    (simp only [prD, putNT, wipeD, putAll, List.set_cons_zero, List.set_cons_succ, List.length_cons, List.length_nil, true_and]; and_intros)
    refine ⟨d, rfl, V, ?_⟩
    exact isYB (by rfl) (lcKF rfl)
  and_intros
  rw [List.filter_eq_nil_iff.mpr (fun _ _ => by simp)]
  refine eqLs EqPs.nil ?_
  exact cl (q _)
end
end L2.DL
namespace L2.DL
open PySem PySem.Spec PyProof.Rows
theorem len_k01_sorts (W : Addr) : ∀ ds S Q E, sp_k01_sorts W ds S Q E → ds.length = ["_law_e"].length := by
  rintro ds S Q E ⟨_, _, _, rfl, _⟩
  rfl
theorem len_k01_bases (W : Addr) : ∀ ds S Q E, sp_k01_bases W ds S Q E → ds.length = ["_law_e"].length := by
  rintro ds S Q E ⟨_, _, _, rfl, _⟩
  rfl
theorem len_k01_due (W : Addr) : ∀ ds S Q E, sp_k01_due W ds S Q E → ds.length = ["_law_k"].length := by
  rintro ds S Q E ⟨_, rfl, _⟩
  rfl
theorem len_k01_given (W : Addr) : ∀ ds S Q E, sp_k01_given W ds S Q E → ds.length = ["_law_thing"].length := by
  rintro ds S Q E ⟨_, rfl, _⟩
  rfl
theorem len_k01_kept (W : Addr) : ∀ ds S Q E, sp_k01_kept W ds S Q E → ds.length = ["_law_found", "_law_thing"].length := by
  rintro ds S Q E ⟨_, _, rfl, _⟩
  rfl
theorem len_k01_raised (W : Addr) : ∀ ds S Q E, sp_k01_raised W ds S Q E → ds.length = ["_law_thing"].length := by
  rintro ds S Q E ⟨_, rfl, _⟩
  rfl
theorem len_k01_right (W : Addr) : ∀ ds S Q E, sp_k01_right W ds S Q E → ds.length = ["_law_thing"].length := by
  rintro ds S Q E ⟨_, rfl, _⟩
  rfl
theorem len_k01_law (W : Addr) : ∀ ds S Q E, sp_k01_law W ds S Q E → ds.length = ["_law_cells"].length := by
  rintro ds S Q E ⟨_, rfl, _⟩
  rfl
/-! ### the program by places -/
def topS (i : Nat) : Stmt := PySem.Challenge.pw_fewroads_k01_limits_and_errors.main.body.getD i (.Pass ⟨0, 0, 0, 0⟩)
abbrev s_k01_sorts : Stmt := topS 30
theorem sc_k01_sorts : FnScope ["_law_e", "_law_found"] ["_law_e"] (defScope s_k01_sorts) := ⟨rfl, rfl, rfl, by decide +kernel, rfl, by decide +kernel, by decide +kernel⟩
abbrev s_k01_bases : Stmt := topS 31
theorem sc_k01_bases : FnScope ["_law_e", "_law_found"] ["_law_e"] (defScope s_k01_bases) := ⟨rfl, rfl, rfl, by decide +kernel, rfl, by decide +kernel, by decide +kernel⟩
abbrev s_k01_due : Stmt := topS 32
theorem sc_k01_due : FnScope ["_law_k", "_law_head", "_law_middle", "_law_end"] ["_law_k"] (defScope s_k01_due) := ⟨rfl, rfl, rfl, by decide +kernel, rfl, by decide +kernel, by decide +kernel⟩
abbrev s_k01_given : Stmt := topS 33
theorem sc_k01_given : FnScope ["_law_thing", "_law_found", "_law_named"] ["_law_thing"] (defScope s_k01_given) := ⟨rfl, rfl, rfl, by decide +kernel, rfl, by decide +kernel, by decide +kernel⟩
abbrev s_k01_kept : Stmt := topS 34
theorem sc_k01_kept : FnScope ["_law_found", "_law_thing", "_law_some", "_law_last", "_law_k"] ["_law_found", "_law_thing"] (defScope s_k01_kept) := ⟨rfl, rfl, rfl, by decide +kernel, rfl, by decide +kernel, by decide +kernel⟩
abbrev s_k01_raised : Stmt := topS 35
theorem sc_k01_raised : FnScope ["_law_thing", "_law_seen", "_law_e"] ["_law_thing"] (defScope s_k01_raised) := ⟨rfl, rfl, rfl, by decide +kernel, rfl, by decide +kernel, by decide +kernel⟩
abbrev s_k01_right : Stmt := topS 36
theorem sc_k01_right : FnScope ["_law_thing", "_law_found", "_law_k", "_law_due_here", "_law_at"] ["_law_thing"] (defScope s_k01_right) := ⟨rfl, rfl, rfl, by decide +kernel, rfl, by decide +kernel, by decide +kernel⟩
abbrev s_k01_law : Stmt := topS 37
theorem sc_k01_law : FnScope ["_law_cells", "_law_limits_here", "_law_things", "_law_cell", "_law_thing"] ["_law_cells"] (defScope s_k01_law) := ⟨rfl, rfl, rfl, by decide +kernel, rfl, by decide +kernel, by decide +kernel⟩
/-! ### what the top has written -/
structure Txt (P : Program) (K : PySem.W.Frag) (mg : Str → Option Value) where
  a_Broken : Addr
  m_Broken : mg "Broken" = some (.ref a_Broken)
  n_Broken : PySem.W.nsIn K mainGlobals "Broken" = some (some (.ref a_Broken))
  a_CannotBe : Addr
  m_CannotBe : mg "CannotBe" = some (.ref a_CannotBe)
  n_CannotBe : PySem.W.nsIn K mainGlobals "CannotBe" = some (some (.ref a_CannotBe))
  a_HasRing : Addr
  m_HasRing : mg "HasRing" = some (.ref a_HasRing)
  n_HasRing : PySem.W.nsIn K mainGlobals "HasRing" = some (some (.ref a_HasRing))
  a_InUse : Addr
  m_InUse : mg "InUse" = some (.ref a_InUse)
  n_InUse : PySem.W.nsIn K mainGlobals "InUse" = some (some (.ref a_InUse))
  a_InvalidChanges : Addr
  m_InvalidChanges : mg "InvalidChanges" = some (.ref a_InvalidChanges)
  n_InvalidChanges : PySem.W.nsIn K mainGlobals "InvalidChanges" = some (some (.ref a_InvalidChanges))
  a_InvalidClaim : Addr
  m_InvalidClaim : mg "InvalidClaim" = some (.ref a_InvalidClaim)
  n_InvalidClaim : PySem.W.nsIn K mainGlobals "InvalidClaim" = some (some (.ref a_InvalidClaim))
  a_InvalidName : Addr
  m_InvalidName : mg "InvalidName" = some (.ref a_InvalidName)
  n_InvalidName : PySem.W.nsIn K mainGlobals "InvalidName" = some (some (.ref a_InvalidName))
  a_InvalidNumber : Addr
  m_InvalidNumber : mg "InvalidNumber" = some (.ref a_InvalidNumber)
  n_InvalidNumber : PySem.W.nsIn K mainGlobals "InvalidNumber" = some (some (.ref a_InvalidNumber))
  a_InvalidParting : Addr
  m_InvalidParting : mg "InvalidParting" = some (.ref a_InvalidParting)
  n_InvalidParting : PySem.W.nsIn K mainGlobals "InvalidParting" = some (some (.ref a_InvalidParting))
  a_InvalidPlace : Addr
  m_InvalidPlace : mg "InvalidPlace" = some (.ref a_InvalidPlace)
  n_InvalidPlace : PySem.W.nsIn K mainGlobals "InvalidPlace" = some (some (.ref a_InvalidPlace))
  a_InvalidPlaces : Addr
  m_InvalidPlaces : mg "InvalidPlaces" = some (.ref a_InvalidPlaces)
  n_InvalidPlaces : PySem.W.nsIn K mainGlobals "InvalidPlaces" = some (some (.ref a_InvalidPlaces))
  a_InvalidText : Addr
  m_InvalidText : mg "InvalidText" = some (.ref a_InvalidText)
  n_InvalidText : PySem.W.nsIn K mainGlobals "InvalidText" = some (some (.ref a_InvalidText))
  a_InvalidTie : Addr
  m_InvalidTie : mg "InvalidTie" = some (.ref a_InvalidTie)
  n_InvalidTie : PySem.W.nsIn K mainGlobals "InvalidTie" = some (some (.ref a_InvalidTie))
  a_InvalidTies : Addr
  m_InvalidTies : mg "InvalidTies" = some (.ref a_InvalidTies)
  n_InvalidTies : PySem.W.nsIn K mainGlobals "InvalidTies" = some (some (.ref a_InvalidTies))
  a_InvalidWish : Addr
  m_InvalidWish : mg "InvalidWish" = some (.ref a_InvalidWish)
  n_InvalidWish : PySem.W.nsIn K mainGlobals "InvalidWish" = some (some (.ref a_InvalidWish))
  a_InvalidWishes : Addr
  m_InvalidWishes : mg "InvalidWishes" = some (.ref a_InvalidWishes)
  n_InvalidWishes : PySem.W.nsIn K mainGlobals "InvalidWishes" = some (some (.ref a_InvalidWishes))
  a_NotAWeb : Addr
  m_NotAWeb : mg "NotAWeb" = some (.ref a_NotAWeb)
  n_NotAWeb : PySem.W.nsIn K mainGlobals "NotAWeb" = some (some (.ref a_NotAWeb))
  a_NotMet : Addr
  m_NotMet : mg "NotMet" = some (.ref a_NotMet)
  n_NotMet : PySem.W.nsIn K mainGlobals "NotMet" = some (some (.ref a_NotMet))
  a_NotRight : Addr
  m_NotRight : mg "NotRight" = some (.ref a_NotRight)
  n_NotRight : PySem.W.nsIn K mainGlobals "NotRight" = some (some (.ref a_NotRight))
  a_NotThere : Addr
  m_NotThere : mg "NotThere" = some (.ref a_NotThere)
  n_NotThere : PySem.W.nsIn K mainGlobals "NotThere" = some (some (.ref a_NotThere))
  a_NothingToUndo : Addr
  m_NothingToUndo : mg "NothingToUndo" = some (.ref a_NothingToUndo)
  n_NothingToUndo : PySem.W.nsIn K mainGlobals "NothingToUndo" = some (some (.ref a_NothingToUndo))
  a_TooMany : Addr
  m_TooMany : mg "TooMany" = some (.ref a_TooMany)
  n_TooMany : PySem.W.nsIn K mainGlobals "TooMany" = some (some (.ref a_TooMany))
  a_UnknownName : Addr
  m_UnknownName : mg "UnknownName" = some (.ref a_UnknownName)
  n_UnknownName : PySem.W.nsIn K mainGlobals "UnknownName" = some (some (.ref a_UnknownName))
  a_UnknownPlace : Addr
  m_UnknownPlace : mg "UnknownPlace" = some (.ref a_UnknownPlace)
  n_UnknownPlace : PySem.W.nsIn K mainGlobals "UnknownPlace" = some (some (.ref a_UnknownPlace))
  et : ErrT K nsF msF bsF
  i_Broken : Addr
  rz_Broken : PySem.ErrX.BaseF "ArithmeticError" "ArithmeticError.__new__" "ArithmeticError.__init__" [.type "ArithmeticError", .type "Exception", .type "BaseException", .type "object"] ∧ PySem.ErrX.ClsE K a_Broken "ArithmeticError" "ArithmeticError.__new__" [.type "ArithmeticError", .type "Exception", .type "BaseException", .type "object"] ∧ PySem.ErrX.InitE2 P K a_Broken i_Broken "ArithmeticError.__init__"
  i_HasRing : Addr
  rz_HasRing : PySem.ErrX.BaseF "ArithmeticError" "ArithmeticError.__new__" "ArithmeticError.__init__" [.type "ArithmeticError", .type "Exception", .type "BaseException", .type "object"] ∧ PySem.ErrX.ClsE K a_HasRing "ArithmeticError" "ArithmeticError.__new__" [.type "ArithmeticError", .type "Exception", .type "BaseException", .type "object"] ∧ PySem.ErrX.InitE P K a_HasRing i_HasRing "ArithmeticError.__init__" "ring"
  i_InUse : Addr
  rz_InUse : PySem.ErrX.BaseF "LookupError" "LookupError.__new__" "LookupError.__init__" [.type "LookupError", .type "Exception", .type "BaseException", .type "object"] ∧ PySem.ErrX.ClsE K a_InUse "LookupError" "LookupError.__new__" [.type "LookupError", .type "Exception", .type "BaseException", .type "object"] ∧ PySem.ErrX.InitE P K a_InUse i_InUse "LookupError.__init__" "index"
  i_InvalidChanges : Addr
  rz_InvalidChanges : PySem.ErrX.BaseF "ValueError" "ValueError.__new__" "ValueError.__init__" [.type "ValueError", .type "Exception", .type "BaseException", .type "object"] ∧ PySem.ErrX.ClsE K a_InvalidChanges "ValueError" "ValueError.__new__" [.type "ValueError", .type "Exception", .type "BaseException", .type "object"] ∧ PySem.ErrX.InitE P K a_InvalidChanges i_InvalidChanges "ValueError.__init__" "index"
  i_InvalidClaim : Addr
  rz_InvalidClaim : PySem.ErrX.BaseF "ValueError" "ValueError.__new__" "ValueError.__init__" [.type "ValueError", .type "Exception", .type "BaseException", .type "object"] ∧ PySem.ErrX.ClsE K a_InvalidClaim "ValueError" "ValueError.__new__" [.type "ValueError", .type "Exception", .type "BaseException", .type "object"] ∧ PySem.ErrX.InitE P K a_InvalidClaim i_InvalidClaim "ValueError.__init__" "given"
  i_InvalidName : Addr
  rz_InvalidName : PySem.ErrX.BaseF "ValueError" "ValueError.__new__" "ValueError.__init__" [.type "ValueError", .type "Exception", .type "BaseException", .type "object"] ∧ PySem.ErrX.ClsE K a_InvalidName "ValueError" "ValueError.__new__" [.type "ValueError", .type "Exception", .type "BaseException", .type "object"] ∧ PySem.ErrX.InitE P K a_InvalidName i_InvalidName "ValueError.__init__" "given"
  i_InvalidNumber : Addr
  rz_InvalidNumber : PySem.ErrX.BaseF "ValueError" "ValueError.__new__" "ValueError.__init__" [.type "ValueError", .type "Exception", .type "BaseException", .type "object"] ∧ PySem.ErrX.ClsE K a_InvalidNumber "ValueError" "ValueError.__new__" [.type "ValueError", .type "Exception", .type "BaseException", .type "object"] ∧ PySem.ErrX.InitE P K a_InvalidNumber i_InvalidNumber "ValueError.__init__" "given"
  i_InvalidParting : Addr
  rz_InvalidParting : PySem.ErrX.BaseF "ValueError" "ValueError.__new__" "ValueError.__init__" [.type "ValueError", .type "Exception", .type "BaseException", .type "object"] ∧ PySem.ErrX.ClsE K a_InvalidParting "ValueError" "ValueError.__new__" [.type "ValueError", .type "Exception", .type "BaseException", .type "object"] ∧ PySem.ErrX.InitE P K a_InvalidParting i_InvalidParting "ValueError.__init__" "given"
  i_InvalidPlace : Addr
  rz_InvalidPlace : PySem.ErrX.BaseF "ValueError" "ValueError.__new__" "ValueError.__init__" [.type "ValueError", .type "Exception", .type "BaseException", .type "object"] ∧ PySem.ErrX.ClsE K a_InvalidPlace "ValueError" "ValueError.__new__" [.type "ValueError", .type "Exception", .type "BaseException", .type "object"] ∧ PySem.ErrX.InitE P K a_InvalidPlace i_InvalidPlace "ValueError.__init__" "given"
  i_InvalidPlaces : Addr
  rz_InvalidPlaces : PySem.ErrX.BaseF "ValueError" "ValueError.__new__" "ValueError.__init__" [.type "ValueError", .type "Exception", .type "BaseException", .type "object"] ∧ PySem.ErrX.ClsE K a_InvalidPlaces "ValueError" "ValueError.__new__" [.type "ValueError", .type "Exception", .type "BaseException", .type "object"] ∧ PySem.ErrX.InitE P K a_InvalidPlaces i_InvalidPlaces "ValueError.__init__" "index"
  i_InvalidText : Addr
  rz_InvalidText : PySem.ErrX.BaseF "ValueError" "ValueError.__new__" "ValueError.__init__" [.type "ValueError", .type "Exception", .type "BaseException", .type "object"] ∧ PySem.ErrX.ClsE K a_InvalidText "ValueError" "ValueError.__new__" [.type "ValueError", .type "Exception", .type "BaseException", .type "object"] ∧ PySem.ErrX.InitE P K a_InvalidText i_InvalidText "ValueError.__init__" "given"
  i_InvalidTie : Addr
  rz_InvalidTie : PySem.ErrX.BaseF "ValueError" "ValueError.__new__" "ValueError.__init__" [.type "ValueError", .type "Exception", .type "BaseException", .type "object"] ∧ PySem.ErrX.ClsE K a_InvalidTie "ValueError" "ValueError.__new__" [.type "ValueError", .type "Exception", .type "BaseException", .type "object"] ∧ PySem.ErrX.InitE P K a_InvalidTie i_InvalidTie "ValueError.__init__" "given"
  i_InvalidTies : Addr
  rz_InvalidTies : PySem.ErrX.BaseF "ValueError" "ValueError.__new__" "ValueError.__init__" [.type "ValueError", .type "Exception", .type "BaseException", .type "object"] ∧ PySem.ErrX.ClsE K a_InvalidTies "ValueError" "ValueError.__new__" [.type "ValueError", .type "Exception", .type "BaseException", .type "object"] ∧ PySem.ErrX.InitE P K a_InvalidTies i_InvalidTies "ValueError.__init__" "index"
  i_InvalidWish : Addr
  rz_InvalidWish : PySem.ErrX.BaseF "ValueError" "ValueError.__new__" "ValueError.__init__" [.type "ValueError", .type "Exception", .type "BaseException", .type "object"] ∧ PySem.ErrX.ClsE K a_InvalidWish "ValueError" "ValueError.__new__" [.type "ValueError", .type "Exception", .type "BaseException", .type "object"] ∧ PySem.ErrX.InitE P K a_InvalidWish i_InvalidWish "ValueError.__init__" "given"
  i_InvalidWishes : Addr
  rz_InvalidWishes : PySem.ErrX.BaseF "ValueError" "ValueError.__new__" "ValueError.__init__" [.type "ValueError", .type "Exception", .type "BaseException", .type "object"] ∧ PySem.ErrX.ClsE K a_InvalidWishes "ValueError" "ValueError.__new__" [.type "ValueError", .type "Exception", .type "BaseException", .type "object"] ∧ PySem.ErrX.InitE P K a_InvalidWishes i_InvalidWishes "ValueError.__init__" "index"
  i_NotAWeb : Addr
  rz_NotAWeb : PySem.ErrX.BaseF "ValueError" "ValueError.__new__" "ValueError.__init__" [.type "ValueError", .type "Exception", .type "BaseException", .type "object"] ∧ PySem.ErrX.ClsE K a_NotAWeb "ValueError" "ValueError.__new__" [.type "ValueError", .type "Exception", .type "BaseException", .type "object"] ∧ PySem.ErrX.InitE P K a_NotAWeb i_NotAWeb "ValueError.__init__" "given"
  i_NotMet : Addr
  rz_NotMet : PySem.ErrX.BaseF "ArithmeticError" "ArithmeticError.__new__" "ArithmeticError.__init__" [.type "ArithmeticError", .type "Exception", .type "BaseException", .type "object"] ∧ PySem.ErrX.ClsE K a_NotMet "ArithmeticError" "ArithmeticError.__new__" [.type "ArithmeticError", .type "Exception", .type "BaseException", .type "object"] ∧ PySem.ErrX.InitE P K a_NotMet i_NotMet "ArithmeticError.__init__" "pair"
  i_TooMany : Addr
  rz_TooMany : PySem.ErrX.BaseF "ArithmeticError" "ArithmeticError.__new__" "ArithmeticError.__init__" [.type "ArithmeticError", .type "Exception", .type "BaseException", .type "object"] ∧ PySem.ErrX.ClsE K a_TooMany "ArithmeticError" "ArithmeticError.__new__" [.type "ArithmeticError", .type "Exception", .type "BaseException", .type "object"] ∧ PySem.ErrX.InitE P K a_TooMany i_TooMany "ArithmeticError.__init__" "most"
  i_UnknownName : Addr
  rz_UnknownName : PySem.ErrX.BaseF "LookupError" "LookupError.__new__" "LookupError.__init__" [.type "LookupError", .type "Exception", .type "BaseException", .type "object"] ∧ PySem.ErrX.ClsE K a_UnknownName "LookupError" "LookupError.__new__" [.type "LookupError", .type "Exception", .type "BaseException", .type "object"] ∧ PySem.ErrX.InitE P K a_UnknownName i_UnknownName "LookupError.__init__" "given"
  i_UnknownPlace : Addr
  rz_UnknownPlace : PySem.ErrX.BaseF "LookupError" "LookupError.__new__" "LookupError.__init__" [.type "LookupError", .type "Exception", .type "BaseException", .type "object"] ∧ PySem.ErrX.ClsE K a_UnknownPlace "LookupError" "LookupError.__new__" [.type "LookupError", .type "Exception", .type "BaseException", .type "object"] ∧ PySem.ErrX.InitE P K a_UnknownPlace i_UnknownPlace "LookupError.__init__" "given"
  rz0_NothingToUndo : PySem.ErrX.BaseF "ArithmeticError" "ArithmeticError.__new__" "ArithmeticError.__init__" [.type "ArithmeticError", .type "Exception", .type "BaseException", .type "object"] ∧ Cls0 K a_NothingToUndo "ArithmeticError" "ArithmeticError.__new__" [.type "ArithmeticError", .type "Exception", .type "BaseException", .type "object"]
  a_k01_sorts : Addr
  d_k01_sorts : FuncData
  F_k01_sorts : Fun K "_law_sorts" "_law_sorts" s_k01_sorts a_k01_sorts d_k01_sorts
  m_k01_sorts : mg "_law_sorts" = some (.ref a_k01_sorts)
  a_k01_bases : Addr
  d_k01_bases : FuncData
  F_k01_bases : Fun K "_law_bases" "_law_bases" s_k01_bases a_k01_bases d_k01_bases
  m_k01_bases : mg "_law_bases" = some (.ref a_k01_bases)
  a_k01_due : Addr
  d_k01_due : FuncData
  F_k01_due : Fun K "_law_due" "_law_due" s_k01_due a_k01_due d_k01_due
  m_k01_due : mg "_law_due" = some (.ref a_k01_due)
  a_k01_given : Addr
  d_k01_given : FuncData
  F_k01_given : Fun K "_law_given" "_law_given" s_k01_given a_k01_given d_k01_given
  m_k01_given : mg "_law_given" = some (.ref a_k01_given)
  a_k01_kept : Addr
  d_k01_kept : FuncData
  F_k01_kept : Fun K "_law_kept_right" "_law_kept_right" s_k01_kept a_k01_kept d_k01_kept
  m_k01_kept : mg "_law_kept_right" = some (.ref a_k01_kept)
  a_k01_raised : Addr
  d_k01_raised : FuncData
  F_k01_raised : Fun K "_law_raised_right" "_law_raised_right" s_k01_raised a_k01_raised d_k01_raised
  m_k01_raised : mg "_law_raised_right" = some (.ref a_k01_raised)
  a_k01_right : Addr
  d_k01_right : FuncData
  F_k01_right : Fun K "_law_right" "_law_right" s_k01_right a_k01_right d_k01_right
  m_k01_right : mg "_law_right" = some (.ref a_k01_right)
  a_k01_law : Addr
  d_k01_law : FuncData
  F_k01_law : Fun K "law" "law" s_k01_law a_k01_law d_k01_law
  m_k01_law : mg "law" = some (.ref a_k01_law)
  t_MOST_CHANGES : Tok
  m_MOST_CHANGES : mg "MOST_CHANGES" = some (.int 5 t_MOST_CHANGES)
  t_MOST_PLACES : Tok
  m_MOST_PLACES : mg "MOST_PLACES" = some (.int 40 t_MOST_PLACES)
  t_MOST_SMALL : Tok
  m_MOST_SMALL : mg "MOST_SMALL" = some (.int 9 t_MOST_SMALL)
  t_MOST_TIES : Tok
  m_MOST_TIES : mg "MOST_TIES" = some (.int 200 t_MOST_TIES)
  z_ArithmeticError : mg "ArithmeticError" = none
  z_IndexError : mg "IndexError" = none
  z_KeyError : mg "KeyError" = none
  z_LookupError : mg "LookupError" = none
  z_ValueError : mg "ValueError" = none
  z_ZeroDivisionError : mg "ZeroDivisionError" = none
  z_int : mg "int" = none
  z_isinstance : mg "isinstance" = none
  z_len : mg "len" = none
  z_range : mg "range" = none
  z_repr : mg "repr" = none
section
variable {P : Program} {w : World} {K : PySem.W.Frag} {mg : Str → Option Value} {base : Heap}
theorem b_k01_sorts {f : Addr} {fd : FuncData} (F : Fun K "_law_sorts" "_law_sorts" s_k01_sorts f fd) : Binds K fd ["_law_e"] [] := F.binds fun _ _ _ _ _ _ us hl => match us, hl with | [_], _ => rfl
theorem b_k01_bases {f : Addr} {fd : FuncData} (F : Fun K "_law_bases" "_law_bases" s_k01_bases f fd) : Binds K fd ["_law_e"] [] := F.binds fun _ _ _ _ _ _ us hl => match us, hl with | [_], _ => rfl
theorem b_k01_due {f : Addr} {fd : FuncData} (F : Fun K "_law_due" "_law_due" s_k01_due f fd) : Binds K fd ["_law_k"] [] := F.binds fun _ _ _ _ _ _ us hl => match us, hl with | [_], _ => rfl
theorem b_k01_given {f : Addr} {fd : FuncData} (F : Fun K "_law_given" "_law_given" s_k01_given f fd) : Binds K fd ["_law_thing"] [] := F.binds fun _ _ _ _ _ _ us hl => match us, hl with | [_], _ => rfl
theorem b_k01_kept {f : Addr} {fd : FuncData} (F : Fun K "_law_kept_right" "_law_kept_right" s_k01_kept f fd) : Binds K fd ["_law_found", "_law_thing"] [] := F.binds fun _ _ _ _ _ _ us hl => match us, hl with | [_, _], _ => rfl
theorem b_k01_raised {f : Addr} {fd : FuncData} (F : Fun K "_law_raised_right" "_law_raised_right" s_k01_raised f fd) : Binds K fd ["_law_thing"] [] := F.binds fun _ _ _ _ _ _ us hl => match us, hl with | [_], _ => rfl
theorem b_k01_right {f : Addr} {fd : FuncData} (F : Fun K "_law_right" "_law_right" s_k01_right f fd) : Binds K fd ["_law_thing"] [] := F.binds fun _ _ _ _ _ _ us hl => match us, hl with | [_], _ => rfl
/-! ### each def keeps its promise -/
theorem ok_k01_sorts (T : Txt P K mg) : FnD P w K mg base 1 T.a_k01_sorts T.d_k01_sorts ["_law_e"] (sp_k01_sorts 0) := by
  refine fnD_ok (w0 := w_k01_sorts 0) (fun_at T.F_k01_sorts) sc_k01_sorts (len_k01_sorts _) (fun cdv A outer s H E hr hg => ?_) (pure_k01_sorts 0)
  exact (dss_cons (ds_set (i := 1) sc_k01_sorts.nd (de_lst (da_cons (de_isE (ns := nsF) (errT_a T.et) (by decide) T.n_InvalidText T.m_InvalidText (de_v 0) T.z_isinstance boot_isinstance) (da_cons (de_isE (ns := nsF) (errT_a T.et) (by decide) T.n_InvalidTie T.m_InvalidTie (de_v 0) T.z_isinstance boot_isinstance) (da_cons (de_isE (ns := nsF) (errT_a T.et) (by decide) T.n_InvalidParting T.m_InvalidParting (de_v 0) T.z_isinstance boot_isinstance) da_nil)))))
    (dss_cons (ds_set (i := 1) sc_k01_sorts.nd (de_o do_add (de_v 1) (de_lst (da_cons (de_isE (ns := nsF) (errT_a T.et) (by decide) T.n_InvalidNumber T.m_InvalidNumber (de_v 0) T.z_isinstance boot_isinstance) (da_cons (de_isE (ns := nsF) (errT_a T.et) (by decide) T.n_InvalidName T.m_InvalidName (de_v 0) T.z_isinstance boot_isinstance) (da_cons (de_isE (ns := nsF) (errT_a T.et) (by decide) T.n_InvalidWish T.m_InvalidWish (de_v 0) T.z_isinstance boot_isinstance) da_nil))))))
    (dss_cons (ds_set (i := 1) sc_k01_sorts.nd (de_o do_add (de_v 1) (de_lst (da_cons (de_isE (ns := nsF) (errT_a T.et) (by decide) T.n_InvalidClaim T.m_InvalidClaim (de_v 0) T.z_isinstance boot_isinstance) (da_cons (de_isE (ns := nsF) (errT_a T.et) (by decide) T.n_InvalidPlace T.m_InvalidPlace (de_v 0) T.z_isinstance boot_isinstance) (da_cons (de_isE (ns := nsF) (errT_a T.et) (by decide) T.n_NotAWeb T.m_NotAWeb (de_v 0) T.z_isinstance boot_isinstance) da_nil))))))
    (dss_cons (ds_set (i := 1) sc_k01_sorts.nd (de_o do_add (de_v 1) (de_lst (da_cons (de_isE (ns := nsF) (errT_a T.et) (by decide) T.n_InvalidPlaces T.m_InvalidPlaces (de_v 0) T.z_isinstance boot_isinstance) (da_cons (de_isE (ns := nsF) (errT_a T.et) (by decide) T.n_InvalidTies T.m_InvalidTies (de_v 0) T.z_isinstance boot_isinstance) (da_cons (de_isE (ns := nsF) (errT_a T.et) (by decide) T.n_InvalidWishes T.m_InvalidWishes (de_v 0) T.z_isinstance boot_isinstance) da_nil))))))
    (dss_cons (ds_set (i := 1) sc_k01_sorts.nd (de_o do_add (de_v 1) (de_lst (da_cons (de_isE (ns := nsF) (errT_a T.et) (by decide) T.n_InvalidChanges T.m_InvalidChanges (de_v 0) T.z_isinstance boot_isinstance) (da_cons (de_isE (ns := nsF) (errT_a T.et) (by decide) T.n_UnknownPlace T.m_UnknownPlace (de_v 0) T.z_isinstance boot_isinstance) (da_cons (de_isE (ns := nsF) (errT_a T.et) (by decide) T.n_UnknownName T.m_UnknownName (de_v 0) T.z_isinstance boot_isinstance) da_nil))))))
    (dss_cons (ds_set (i := 1) sc_k01_sorts.nd (de_o do_add (de_v 1) (de_lst (da_cons (de_isE (ns := nsF) (errT_a T.et) (by decide) T.n_InUse T.m_InUse (de_v 0) T.z_isinstance boot_isinstance) (da_cons (de_isE (ns := nsF) (errT_a T.et) (by decide) T.n_HasRing T.m_HasRing (de_v 0) T.z_isinstance boot_isinstance) (da_cons (de_isE (ns := nsF) (errT_a T.et) (by decide) T.n_NotMet T.m_NotMet (de_v 0) T.z_isinstance boot_isinstance) da_nil))))))
    (dss_cons (ds_set (i := 1) sc_k01_sorts.nd (de_o do_add (de_v 1) (de_lst (da_cons (de_isE (ns := nsF) (errT_a T.et) (by decide) T.n_TooMany T.m_TooMany (de_v 0) T.z_isinstance boot_isinstance) (da_cons (de_isE (ns := nsF) (errT_a T.et) (by decide) T.n_NothingToUndo T.m_NothingToUndo (de_v 0) T.z_isinstance boot_isinstance) (da_cons (de_isE (ns := nsF) (errT_a T.et) (by decide) T.n_Broken T.m_Broken (de_v 0) T.z_isinstance boot_isinstance) da_nil))))))
    (dss_one (ds_ret (de_v 1))))))))))
theorem ok_k01_bases (T : Txt P K mg) : FnD P w K mg base 1 T.a_k01_bases T.d_k01_bases ["_law_e"] (sp_k01_bases 0) := by
  refine fnD_ok (w0 := w_k01_bases 0) (fun_at T.F_k01_bases) sc_k01_bases (len_k01_bases _) (fun cdv A outer s H E hr hg => ?_) (pure_k01_bases 0)
  exact (dss_cons (ds_set (i := 1) sc_k01_bases.nd (de_lst (da_cons (de_isE (ns := nsF) (errT_a T.et) (by decide) T.n_NotRight T.m_NotRight (de_v 0) T.z_isinstance boot_isinstance) (da_cons (de_isE (ns := nsF) (errT_a T.et) (by decide) T.n_NotThere T.m_NotThere (de_v 0) T.z_isinstance boot_isinstance) (da_cons (de_isE (ns := nsF) (errT_a T.et) (by decide) T.n_CannotBe T.m_CannotBe (de_v 0) T.z_isinstance boot_isinstance) da_nil)))))
    (dss_cons (ds_set (i := 1) sc_k01_bases.nd (de_o do_add (de_v 1) (de_lst (da_cons (de_isB (ns := nsF) (T0 := "ValueError") (errT_a T.et) (by decide) T.z_ValueError PyProof.Rows.Boot.«ValueError» (de_v 0) T.z_isinstance boot_isinstance) (da_cons (de_isB (ns := nsF) (T0 := "LookupError") (errT_a T.et) (by decide) T.z_LookupError PyProof.Rows.Boot.«LookupError» (de_v 0) T.z_isinstance boot_isinstance) (da_cons (de_isB (ns := nsF) (T0 := "ArithmeticError") (errT_a T.et) (by decide) T.z_ArithmeticError PyProof.Rows.Boot.«ArithmeticError» (de_v 0) T.z_isinstance boot_isinstance) da_nil))))))
    (dss_one (ds_ret (de_o do_add (de_v 1) (de_lst (da_cons (de_isB (ns := nsF) (T0 := "KeyError") (errT_a T.et) (by decide) T.z_KeyError PyProof.Rows.Boot.«KeyError» (de_v 0) T.z_isinstance boot_isinstance) (da_cons (de_isB (ns := nsF) (T0 := "IndexError") (errT_a T.et) (by decide) T.z_IndexError PyProof.Rows.Boot.«IndexError» (de_v 0) T.z_isinstance boot_isinstance) (da_cons (de_isB (ns := nsF) (T0 := "ZeroDivisionError") (errT_a T.et) (by decide) T.z_ZeroDivisionError PyProof.Rows.Boot.«ZeroDivisionError» (de_v 0) T.z_isinstance boot_isinstance) da_nil)))))))))
theorem ok_k01_due (T : Txt P K mg) : FnD P w K mg base 1 T.a_k01_due T.d_k01_due ["_law_k"] (sp_k01_due 0) := by
  refine fnD_ok (w0 := w_k01_due 0) (fun_at T.F_k01_due) sc_k01_due (len_k01_due _) (fun cdv A outer s H E hr hg => ?_) (pure_k01_due 0)
  exact (dss_cons (ds_par (i := 1) (j := 2) rfl sc_k01_due.nd (da_cons (de_c do_lt (de_v 0) de_int) (da_cons (de_ch do_lt do_lt de_int (de_v 0) de_int) da_nil)))
    (dss_cons (ds_set (i := 3) sc_k01_due.nd (de_and (de_not (de_v 1)) (de_one (de_not (de_v 2)))))
    (dss_one (ds_ret (de_o do_add (de_o do_mul (de_lst (da_cons (de_v 1) (da_cons (de_v 2) (da_cons (de_v 3) da_nil)))) de_int) (de_o do_mul (de_lst (da_cons de_bl da_nil)) de_int))))))
theorem ok_k01_given (T : Txt P K mg) : FnD P w K mg base 1 T.a_k01_given T.d_k01_given ["_law_thing"] (sp_k01_given 0) := by
  refine fnD_ok (w0 := w_k01_given 0) (fun_at T.F_k01_given) sc_k01_given (len_k01_given _) (fun cdv A outer s H E hr hg => ?_) (pure_k01_given 0)
  exact (dss_cons (ds_set (i := 1) sc_k01_given.nd (de_lst (da_cons (de_mk1 T.rz_InvalidText.1 T.rz_InvalidText.2.1 T.rz_InvalidText.2.2 T.n_InvalidText T.m_InvalidText hr (da_cons (de_v 0) da_nil)) (da_cons (de_mk1 T.rz_InvalidTie.1 T.rz_InvalidTie.2.1 T.rz_InvalidTie.2.2 T.n_InvalidTie T.m_InvalidTie hr (da_cons (de_v 0) da_nil)) (da_cons (de_mk1 T.rz_InvalidParting.1 T.rz_InvalidParting.2.1 T.rz_InvalidParting.2.2 T.n_InvalidParting T.m_InvalidParting hr (da_cons (de_v 0) da_nil)) (da_cons (de_mk1 T.rz_InvalidNumber.1 T.rz_InvalidNumber.2.1 T.rz_InvalidNumber.2.2 T.n_InvalidNumber T.m_InvalidNumber hr (da_cons (de_v 0) da_nil)) da_nil))))))
    (dss_cons (ds_set (i := 1) sc_k01_given.nd (de_o do_add (de_v 1) (de_lst (da_cons (de_mk1 T.rz_InvalidName.1 T.rz_InvalidName.2.1 T.rz_InvalidName.2.2 T.n_InvalidName T.m_InvalidName hr (da_cons (de_v 0) da_nil)) (da_cons (de_mk1 T.rz_InvalidWish.1 T.rz_InvalidWish.2.1 T.rz_InvalidWish.2.2 T.n_InvalidWish T.m_InvalidWish hr (da_cons (de_v 0) da_nil)) (da_cons (de_mk1 T.rz_InvalidClaim.1 T.rz_InvalidClaim.2.1 T.rz_InvalidClaim.2.2 T.n_InvalidClaim T.m_InvalidClaim hr (da_cons (de_v 0) da_nil)) (da_cons (de_mk1 T.rz_InvalidPlace.1 T.rz_InvalidPlace.2.1 T.rz_InvalidPlace.2.2 T.n_InvalidPlace T.m_InvalidPlace hr (da_cons (de_v 0) da_nil)) da_nil)))))))
    (dss_cons (ds_set (i := 1) sc_k01_given.nd (de_o do_add (de_v 1) (de_lst (da_cons (de_mk1 T.rz_NotAWeb.1 T.rz_NotAWeb.2.1 T.rz_NotAWeb.2.2 T.n_NotAWeb T.m_NotAWeb hr (da_cons (de_v 0) da_nil)) (da_cons (de_mk1 T.rz_InvalidPlaces.1 T.rz_InvalidPlaces.2.1 T.rz_InvalidPlaces.2.2 T.n_InvalidPlaces T.m_InvalidPlaces hr (da_cons (de_v 0) da_nil)) (da_cons (de_mk1 T.rz_InvalidTies.1 T.rz_InvalidTies.2.1 T.rz_InvalidTies.2.2 T.n_InvalidTies T.m_InvalidTies hr (da_cons (de_v 0) da_nil)) (da_cons (de_mk1 T.rz_InvalidWishes.1 T.rz_InvalidWishes.2.1 T.rz_InvalidWishes.2.2 T.n_InvalidWishes T.m_InvalidWishes hr (da_cons (de_v 0) da_nil)) da_nil)))))))
    (dss_cons (ds_set (i := 1) sc_k01_given.nd (de_o do_add (de_v 1) (de_lst (da_cons (de_mk1 T.rz_InvalidChanges.1 T.rz_InvalidChanges.2.1 T.rz_InvalidChanges.2.2 T.n_InvalidChanges T.m_InvalidChanges hr (da_cons (de_v 0) da_nil)) (da_cons (de_mk1 T.rz_UnknownPlace.1 T.rz_UnknownPlace.2.1 T.rz_UnknownPlace.2.2 T.n_UnknownPlace T.m_UnknownPlace hr (da_cons (de_v 0) da_nil)) (da_cons (de_mk1 T.rz_UnknownName.1 T.rz_UnknownName.2.1 T.rz_UnknownName.2.2 T.n_UnknownName T.m_UnknownName hr (da_cons (de_v 0) da_nil)) (da_cons (de_mk1 T.rz_InUse.1 T.rz_InUse.2.1 T.rz_InUse.2.2 T.n_InUse T.m_InUse hr (da_cons (de_v 0) da_nil)) da_nil)))))))
    (dss_cons (ds_set (i := 1) sc_k01_given.nd (de_o do_add (de_v 1) (de_lst (da_cons (de_mk1 T.rz_HasRing.1 T.rz_HasRing.2.1 T.rz_HasRing.2.2 T.n_HasRing T.m_HasRing hr (da_cons (de_v 0) da_nil)) (da_cons (de_mk1 T.rz_NotMet.1 T.rz_NotMet.2.1 T.rz_NotMet.2.2 T.n_NotMet T.m_NotMet hr (da_cons (de_v 0) da_nil)) (da_cons (de_mk1 T.rz_TooMany.1 T.rz_TooMany.2.1 T.rz_TooMany.2.2 T.n_TooMany T.m_TooMany hr (da_cons (de_v 0) da_nil)) (da_cons (de_mk0 T.rz0_NothingToUndo.1 T.rz0_NothingToUndo.2 T.n_NothingToUndo T.m_NothingToUndo) (da_cons (de_mk2 T.rz_Broken.1 T.rz_Broken.2.1 T.rz_Broken.2.2 T.n_Broken T.m_Broken hr (da_cons (de_v 0) (da_cons de_int da_nil))) da_nil))))))))
    (dss_cons (ds_set (i := 2) sc_k01_given.nd (de_lst (da_cons (de_mk1K T.rz_InvalidText.1 T.rz_InvalidText.2.1 T.rz_InvalidText.2.2 PySem.ErrX.kfield_given T.n_InvalidText T.m_InvalidText hr (dk_cons (de_v 0) dk_nil)) (da_cons (de_mk1K T.rz_InvalidTie.1 T.rz_InvalidTie.2.1 T.rz_InvalidTie.2.2 PySem.ErrX.kfield_given T.n_InvalidTie T.m_InvalidTie hr (dk_cons (de_v 0) dk_nil)) (da_cons (de_mk1K T.rz_InvalidParting.1 T.rz_InvalidParting.2.1 T.rz_InvalidParting.2.2 PySem.ErrX.kfield_given T.n_InvalidParting T.m_InvalidParting hr (dk_cons (de_v 0) dk_nil)) da_nil)))))
    (dss_cons (ds_set (i := 2) sc_k01_given.nd (de_o do_add (de_v 2) (de_lst (da_cons (de_mk1K T.rz_InvalidNumber.1 T.rz_InvalidNumber.2.1 T.rz_InvalidNumber.2.2 PySem.ErrX.kfield_given T.n_InvalidNumber T.m_InvalidNumber hr (dk_cons (de_v 0) dk_nil)) (da_cons (de_mk1K T.rz_InvalidName.1 T.rz_InvalidName.2.1 T.rz_InvalidName.2.2 PySem.ErrX.kfield_given T.n_InvalidName T.m_InvalidName hr (dk_cons (de_v 0) dk_nil)) (da_cons (de_mk1K T.rz_InvalidWish.1 T.rz_InvalidWish.2.1 T.rz_InvalidWish.2.2 PySem.ErrX.kfield_given T.n_InvalidWish T.m_InvalidWish hr (dk_cons (de_v 0) dk_nil)) da_nil))))))
    (dss_cons (ds_set (i := 2) sc_k01_given.nd (de_o do_add (de_v 2) (de_lst (da_cons (de_mk1K T.rz_InvalidClaim.1 T.rz_InvalidClaim.2.1 T.rz_InvalidClaim.2.2 PySem.ErrX.kfield_given T.n_InvalidClaim T.m_InvalidClaim hr (dk_cons (de_v 0) dk_nil)) (da_cons (de_mk1K T.rz_InvalidPlace.1 T.rz_InvalidPlace.2.1 T.rz_InvalidPlace.2.2 PySem.ErrX.kfield_given T.n_InvalidPlace T.m_InvalidPlace hr (dk_cons (de_v 0) dk_nil)) (da_cons (de_mk1K T.rz_NotAWeb.1 T.rz_NotAWeb.2.1 T.rz_NotAWeb.2.2 PySem.ErrX.kfield_given T.n_NotAWeb T.m_NotAWeb hr (dk_cons (de_v 0) dk_nil)) da_nil))))))
    (dss_cons (ds_set (i := 2) sc_k01_given.nd (de_o do_add (de_v 2) (de_lst (da_cons (de_mk1K T.rz_InvalidPlaces.1 T.rz_InvalidPlaces.2.1 T.rz_InvalidPlaces.2.2 PySem.ErrX.kfield_index T.n_InvalidPlaces T.m_InvalidPlaces hr (dk_cons (de_v 0) dk_nil)) (da_cons (de_mk1K T.rz_InvalidTies.1 T.rz_InvalidTies.2.1 T.rz_InvalidTies.2.2 PySem.ErrX.kfield_index T.n_InvalidTies T.m_InvalidTies hr (dk_cons (de_v 0) dk_nil)) (da_cons (de_mk1K T.rz_InvalidWishes.1 T.rz_InvalidWishes.2.1 T.rz_InvalidWishes.2.2 PySem.ErrX.kfield_index T.n_InvalidWishes T.m_InvalidWishes hr (dk_cons (de_v 0) dk_nil)) da_nil))))))
    (dss_cons (ds_set (i := 2) sc_k01_given.nd (de_o do_add (de_v 2) (de_lst (da_cons (de_mk1K T.rz_InvalidChanges.1 T.rz_InvalidChanges.2.1 T.rz_InvalidChanges.2.2 PySem.ErrX.kfield_index T.n_InvalidChanges T.m_InvalidChanges hr (dk_cons (de_v 0) dk_nil)) (da_cons (de_mk1K T.rz_UnknownPlace.1 T.rz_UnknownPlace.2.1 T.rz_UnknownPlace.2.2 PySem.ErrX.kfield_given T.n_UnknownPlace T.m_UnknownPlace hr (dk_cons (de_v 0) dk_nil)) (da_cons (de_mk1K T.rz_UnknownName.1 T.rz_UnknownName.2.1 T.rz_UnknownName.2.2 PySem.ErrX.kfield_given T.n_UnknownName T.m_UnknownName hr (dk_cons (de_v 0) dk_nil)) da_nil))))))
    (dss_cons (ds_set (i := 2) sc_k01_given.nd (de_o do_add (de_v 2) (de_lst (da_cons (de_mk1K T.rz_InUse.1 T.rz_InUse.2.1 T.rz_InUse.2.2 PySem.ErrX.kfield_index T.n_InUse T.m_InUse hr (dk_cons (de_v 0) dk_nil)) (da_cons (de_mk1K T.rz_HasRing.1 T.rz_HasRing.2.1 T.rz_HasRing.2.2 PySem.ErrX.kfield_ring T.n_HasRing T.m_HasRing hr (dk_cons (de_v 0) dk_nil)) (da_cons (de_mk1K T.rz_NotMet.1 T.rz_NotMet.2.1 T.rz_NotMet.2.2 PySem.ErrX.kfield_pair T.n_NotMet T.m_NotMet hr (dk_cons (de_v 0) dk_nil)) (da_cons (de_mk1K T.rz_TooMany.1 T.rz_TooMany.2.1 T.rz_TooMany.2.2 PySem.ErrX.kfield_most T.n_TooMany T.m_TooMany hr (dk_cons (de_v 0) dk_nil)) da_nil)))))))
    (dss_cons (ds_set (i := 2) sc_k01_given.nd (de_o do_add (de_v 2) (de_lst (da_cons (de_mk0 T.rz0_NothingToUndo.1 T.rz0_NothingToUndo.2 T.n_NothingToUndo T.m_NothingToUndo) (da_cons (de_mk2K T.rz_Broken.1 T.rz_Broken.2.1 T.rz_Broken.2.2 T.n_Broken T.m_Broken hr (dk_cons de_int (dk_cons (de_v 0) dk_nil))) da_nil)))))
    (dss_one (ds_ret (de_lst (da_cons (de_v 1) (da_cons (de_v 2) da_nil)))))))))))))))))
theorem ok_k01_kept (T : Txt P K mg) : FnD P w K mg base 1 T.a_k01_kept T.d_k01_kept ["_law_found", "_law_thing"] (sp_k01_kept 0) := by
  refine fnD_ok (w0 := w_k01_kept 0) (fun_at T.F_k01_kept) sc_k01_kept (len_k01_kept _) (fun cdv A outer s H E hr hg => ?_) (pure_k01_kept 0)
  exact (dss_cons (ds_setLcP (i := 2) rfl sc_k01_kept.nd (di_seq (de_lst (da_cons de_int (da_cons de_int (da_cons de_int (da_cons de_int (da_cons de_int (da_cons de_int (da_cons de_int (da_cons de_int (da_cons de_int (da_cons de_int (da_cons de_int da_nil))))))))))))) (own := [("_law_k", 4)]) (nt := (.n 4)) (blkOk_by (by kernel_rfl)) (by decide) (fun _ _ _ _ _ => (pg_name (i := 4) sc_k01_kept.nd rfl (.inl rfl))) (fun _ _ _ _ _ => dts_nil) (fun _ _ _ _ _ => (de_fldE (ns := ["InvalidText", "InvalidTie", "InvalidParting", "InvalidNumber", "InvalidName", "InvalidWish", "InvalidClaim", "InvalidPlace", "NotAWeb", "UnknownPlace", "UnknownName"]) (errT_f T.et (by decide)) (de_ix (u65 hr) (de_v 0) (de_v 4)))))
    (dss_cons (ds_set (i := 2) sc_k01_kept.nd (de_o do_add (de_v 2) (de_lcP rfl sc_k01_kept.nd (di_seq (de_lst (da_cons de_int (da_cons de_int (da_cons de_int (da_cons de_int (da_cons de_int da_nil))))))) (own := [("_law_k", 4)]) (nt := (.n 4)) (blkOk_by (by kernel_rfl)) (by decide) (fun _ _ _ _ _ => (pg_name (i := 4) sc_k01_kept.nd rfl (.inl rfl))) (fun _ _ _ _ _ => dts_nil) (fun _ _ _ _ _ => (de_fldE (ns := ["InvalidPlaces", "InvalidTies", "InvalidWishes", "InvalidChanges", "InUse", "Broken"]) (errT_f T.et (by decide)) (de_ix (u65 hr) (de_v 0) (de_v 4)))))))
    (dss_cons (ds_set (i := 2) sc_k01_kept.nd (de_o do_add (de_v 2) (de_lst (da_cons (de_fldE (ns := ["HasRing"]) (errT_f T.et (by decide)) (de_ix (u65 hr) (de_v 0) de_int)) (da_cons (de_fldE (ns := ["NotMet"]) (errT_f T.et (by decide)) (de_ix (u65 hr) (de_v 0) de_int)) (da_cons (de_fldE (ns := ["TooMany"]) (errT_f T.et (by decide)) (de_ix (u65 hr) (de_v 0) de_int)) da_nil))))))
    (dss_cons (ds_set (i := 3) sc_k01_kept.nd (de_ix (u65 hr) (de_v 0) de_int))
    (dss_one (ds_ret (de_and (de_c (do_eq (u65 hr)) (de_callB (dc_reprV hg (u70 hr)) (by rfl) T.z_repr boot_repr (da_cons (de_v 2) da_nil)) (de_callB (dc_reprV hg (u70 hr)) (by rfl) T.z_repr boot_repr (da_cons (de_o do_mul (de_lst (da_cons (de_v 1) da_nil)) (de_callB dc_len (by rfl) T.z_len boot_len (da_cons (de_v 2) da_nil))) da_nil))) (de_one (de_c (do_eq (u65 hr)) (de_callB (dc_reprV hg (u70 hr)) (by rfl) T.z_repr boot_repr (da_cons (de_lst (da_cons (de_fldE (ns := ["InvalidPlaces", "InvalidTies", "InvalidWishes", "InvalidChanges", "InUse", "Broken"]) (errT_f T.et (by decide)) (de_v 3)) (da_cons (de_fldE (ns := ["Broken"]) (errT_f T.et (by decide)) (de_v 3)) da_nil))) da_nil)) (de_callB (dc_reprV hg (u70 hr)) (by rfl) T.z_repr boot_repr (da_cons (de_lst (da_cons (de_v 1) (da_cons de_int da_nil))) da_nil)))))))))))
theorem ok_k01_raised (T : Txt P K mg) : FnD P w K mg base 1 T.a_k01_raised T.d_k01_raised ["_law_thing"] (sp_k01_raised 0) := by
  refine fnD_ok (w0 := w_k01_raised 0) (fun_at T.F_k01_raised) sc_k01_raised (len_k01_raised _) (fun cdv A outer s H E hr hg => ?_) (pure_k01_raised 0)
  exact (dss_cons (ds_set (i := 1) sc_k01_raised.nd (de_new da_nil))
    (dss_cons (ds_try (ns := nsF) rfl rfl (fun W pn xe tk hp => (dssx_one (dsx_raise rfl tk T.rz_InvalidText.1 T.rz_InvalidText.2.1 T.rz_InvalidText.2.2 T.n_InvalidText T.m_InvalidText hr (da_cons (de_v 0) da_nil)))) (HdsX.named (l := [("NotRight", T.a_NotRight)]) (i := 2) (test1 ⟨rfl, by decide, .inl T.m_NotRight⟩) sc_k01_raised.nd rfl rfl (errT_h T.et (by kernel_rfl)) (all1 T.n_NotRight) (fun a pn => (dss_one (ds_expr (de_bm dm_append F.plainAttrs_list F.slot_list_append F.type_list_append (de_v 1) (da_cons (de_callB (dc_reprV hg (RoomU.u70 ((roomU_of hr).mark _))) (by rfl) T.z_repr boot_repr (da_cons (de_fldE (ns := ["InvalidText", "InvalidTie", "InvalidParting", "InvalidNumber", "InvalidName", "InvalidWish", "InvalidClaim", "InvalidPlace", "NotAWeb", "UnknownPlace", "UnknownName"]) (errT_f T.et (by decide)) (de_v 2)) da_nil)) da_nil))))) HdsX.nil))
    (dss_cons (ds_try (ns := nsF) rfl rfl (fun W pn xe tk hp => (dssx_one (dsx_raise rfl tk T.rz_UnknownName.1 T.rz_UnknownName.2.1 T.rz_UnknownName.2.2 T.n_UnknownName T.m_UnknownName hr (da_cons (de_v 0) da_nil)))) (HdsX.named (l := [("NotThere", T.a_NotThere)]) (i := 2) (test1 ⟨rfl, by decide, .inl T.m_NotThere⟩) sc_k01_raised.nd rfl rfl (errT_h T.et (by kernel_rfl)) (all1 T.n_NotThere) (fun a pn => (dss_one (ds_expr (de_bm dm_append F.plainAttrs_list F.slot_list_append F.type_list_append (de_v 1) (da_cons (de_callB (dc_reprV hg (RoomU.u70 ((roomU_of hr).mark _))) (by rfl) T.z_repr boot_repr (da_cons (de_fldE (ns := ["InvalidText", "InvalidTie", "InvalidParting", "InvalidNumber", "InvalidName", "InvalidWish", "InvalidClaim", "InvalidPlace", "NotAWeb", "UnknownPlace", "UnknownName"]) (errT_f T.et (by decide)) (de_v 2)) da_nil)) da_nil))))) HdsX.nil))
    (dss_cons (ds_try (ns := nsF) rfl rfl (fun W pn xe tk hp => (dssx_one (dsx_raise2 rfl tk T.rz_Broken.1 T.rz_Broken.2.1 T.rz_Broken.2.2 T.n_Broken T.m_Broken hr (da_cons (de_v 0) (da_cons de_int da_nil))))) (HdsX.named (l := [("CannotBe", T.a_CannotBe)]) (i := 2) (test1 ⟨rfl, by decide, .inl T.m_CannotBe⟩) sc_k01_raised.nd rfl rfl (errT_h T.et (by kernel_rfl)) (all1 T.n_CannotBe) (fun a pn => (dss_one (ds_expr (de_bm dm_append F.plainAttrs_list F.slot_list_append F.type_list_append (de_v 1) (da_cons (de_callB (dc_reprV hg (RoomU.u70 ((roomU_of hr).mark _))) (by rfl) T.z_repr boot_repr (da_cons (de_fldE (ns := ["InvalidPlaces", "InvalidTies", "InvalidWishes", "InvalidChanges", "InUse", "Broken"]) (errT_f T.et (by decide)) (de_v 2)) da_nil)) da_nil))))) HdsX.nil))
    (dss_one (ds_ret (de_c (do_eq (u65 hr)) (de_v 1) (de_o do_mul (de_lst (da_cons (de_callB (dc_reprV hg (u70 hr)) (by rfl) T.z_repr boot_repr (da_cons (de_v 0) da_nil)) da_nil)) de_int))))))))
theorem ok_k01_right (T : Txt P K mg) : FnD P w K mg base 2 T.a_k01_right T.d_k01_right ["_law_thing"] (sp_k01_right 0) := by
  refine fnD_ok (w0 := w_k01_right 0) (fun_at T.F_k01_right) sc_k01_right (len_k01_right _) (fun cdv A outer s H E hr hg => ?_) (pure_k01_right 0)
  exact (dss_cons (ds_for PassesOwn.never rfl (di_seq (de_fn (FnG.up (ok_k01_given T) (by decide)) hr hg T.m_k01_given T.F_k01_given.kp (b_k01_given T.F_k01_given) .nil lits_nil (da_cons (de_v 0) da_nil))) (dg_v (i := 1) sc_k01_right.nd) (dss_cons (ds_for PassesOwn.never rfl (di_rng1 T.z_range (da_cons (de_callB dc_len (by rfl) T.z_len boot_len (da_cons (de_v 1) da_nil)) da_nil)) (dg_v (i := 2) sc_k01_right.nd) (dss_cons (ds_setLcP (i := 3) rfl sc_k01_right.nd (di_rng1 T.z_range (da_cons (de_callB dc_len (by rfl) T.z_len boot_len (da_cons (de_v 1) da_nil)) da_nil)) (own := [("_law_at", 4)]) (nt := (.n 4)) (blkOk_by (by kernel_rfl)) (by decide) (fun _ _ _ _ _ => (pg_name (i := 4) sc_k01_right.nd rfl (.inl rfl))) (fun _ _ _ _ _ => dts_nil) (fun _ _ _ _ _ => (de_c (do_eq (u65 hr)) (de_v 4) (de_v 2))))
    (dss_one (ds_if (dw_pt (dw_or (dt_c (do_ne (u65 hr)) (de_fn (FnG.up (ok_k01_sorts T) (by decide)) hr hg T.m_k01_sorts T.F_k01_sorts.kp (b_k01_sorts T.F_k01_sorts) .nil lits_nil (da_cons (de_ix (u65 hr) (de_v 1) (de_v 2)) da_nil)) (de_v 3)) (dw_or1 (dt_c (do_ne (u65 hr)) (de_fn (FnG.up (ok_k01_bases T) (by decide)) hr hg T.m_k01_bases T.F_k01_bases.kp (b_k01_bases T.F_k01_bases) .nil lits_nil (da_cons (de_ix (u65 hr) (de_v 1) (de_v 2)) da_nil)) (de_fn (FnG.up (ok_k01_due T) (by decide)) hr hg T.m_k01_due T.F_k01_due.kp (b_k01_due T.F_k01_due) .nil lits_nil (da_cons (de_v 2) da_nil)))))) (dss_one (ds_ret de_bl)) dss_nil))))
    (dss_one (ds_if (dt_not (dt_b (de_fn (FnG.up (ok_k01_kept T) (by decide)) hr hg T.m_k01_kept T.F_k01_kept.kp (b_k01_kept T.F_k01_kept) .nil lits_nil (da_cons (de_v 1) (da_cons (de_v 0) da_nil))))) (dss_one (ds_ret de_bl)) dss_nil))))
    (dss_one (ds_ret (de_fn (FnG.up (ok_k01_raised T) (by decide)) hr hg T.m_k01_raised T.F_k01_raised.kp (b_k01_raised T.F_k01_raised) .nil lits_nil (da_cons (de_v 0) da_nil)))))
theorem ok_k01_law (T : Txt P K mg) : FnD P w K mg base 3 T.a_k01_law T.d_k01_law ["_law_cells"] (sp_k01_law 0) := by
  refine fnD_ok (w0 := w_k01_law 0) (fun_at T.F_k01_law) sc_k01_law (len_k01_law _) (fun cdv A outer s H E hr hg => ?_) (pure_k01_law 0)
  exact (dss_cons (ds_set (i := 1) sc_k01_law.nd (de_lst (da_cons (de_gI T.m_MOST_PLACES) (da_cons (de_gI T.m_MOST_TIES) (da_cons (de_gI T.m_MOST_SMALL) (da_cons (de_gI T.m_MOST_CHANGES) da_nil))))))
    (dss_cons (ds_if (dt_c (do_ne (u65 hr)) (de_v 1) (de_lst (da_cons de_int (da_cons de_int (da_cons de_int (da_cons de_int da_nil)))))) (dss_one (ds_ret de_bl)) dss_nil)
    (dss_cons (ds_set (i := 2) sc_k01_law.nd (de_o do_add (de_lst (da_cons de_non (da_cons de_str (da_cons (de_tup (da_cons de_int (da_cons de_str da_nil))) (da_cons de_bl (da_cons (de_u do_neg de_int) da_nil)))))) (de_lcP rfl sc_k01_law.nd (di_seq (de_sl (de_v 0) dp_none (dp_some de_int))) (own := [("_law_cell", 3)]) (nt := (.n 3)) (blkOk_by (by kernel_rfl)) (by decide) (fun _ _ _ _ _ => (pg_name (i := 3) sc_k01_law.nd rfl (.inl rfl))) (fun _ _ _ _ _ => dts_nil) (fun _ _ _ _ _ => (de_o do_mod (de_callTy dc_int (by rfl) T.z_int boot_int (da_cons (de_v 3) da_nil)) (de_o do_pow de_int de_int))))))
    (dss_one (ds_ret (de_c (do_eq (u65 hr)) (de_lcP rfl sc_k01_law.nd (di_seq (de_v 2)) (own := [("_law_thing", 4)]) (nt := (.n 4)) (blkOk_by (by kernel_rfl)) (by decide) (fun _ _ _ _ _ => (pg_name (i := 4) sc_k01_law.nd rfl (.inl rfl))) (fun _ _ _ _ _ => (dts_one (dt_not (dt_b (de_fn (FnG.up (ok_k01_right T) (by decide)) hr hg T.m_k01_right T.F_k01_right.kp (b_k01_right T.F_k01_right) .nil lits_nil (da_cons (de_v 4) da_nil)))))) (fun _ _ _ _ _ => (de_v 4))) (de_lst da_nil)))))))
end

end L2.DL
def PySem.W.Fast.tw10702089692303190207 : Nat := 0
def PySem.W.Fast.tw10397639324057422817 : Nat := 0
def PySem.W.Fast.tw1195273566731165467 : Nat := 0
def PySem.W.Fast.tw3686665419531579156 : Nat := 0
def PySem.W.Fast.tw12016010931334958043 : Nat := 0
def PySem.W.Fast.tw17203427713069301046 : Nat := 0
def PySem.W.Fast.tw8630510946875757259 : Nat := 0
def PySem.W.Fast.tw5525323278035802331 : Nat := 0
def PySem.W.Fast.tw4306640037637724135 : Nat := 0
def PySem.W.Fast.tw5781394879400569281 : Nat := 0
def PySem.W.Fast.tw1575979775016855285 : Nat := 0
def PySem.W.Fast.tw2591191014022068109 : Nat := 0
def PySem.W.Fast.tw16236822741644793914 : Nat := 0
def PySem.W.Fast.tw12868873668630925954 : Nat := 0
def PySem.W.Fast.tw15712609551776278244 : Nat := 0
def PySem.W.Fast.tw510683224074619865 : Nat := 0
def PySem.W.Fast.tw15291840597215388062 : Nat := 0
def PySem.W.Fast.tw17152599317589431754 : Nat := 0
def PySem.W.Fast.tw3737144158834022093 : Nat := 0
def PySem.W.Fast.tw5066492489731094585 : Nat := 0
def PySem.W.Fast.tw10024053302003859260 : Nat := 0
def PySem.W.Fast.tw18195730527461639546 : Nat := 0
def PySem.W.Fast.tw4704867773994517407 : Nat := 0
def PySem.W.Fast.tw12900091166430182714 : Nat := 0
def PySem.W.Fast.tw14053694311328966695 : Nat := 0
def PySem.W.Fast.tw3972369719203411246 : Nat := 0
def PySem.W.Fast.tw8667669942367512601 : Nat := 0
def PySem.W.Fast.tw13430213169439556480 : Nat := 0
def PySem.W.Fast.tw2650601389664188599 : Nat := 0
def PySem.W.Fast.tw3949067509369045567 : Nat := 0
def PySem.W.Fast.tw7683004155082650235 : Nat := 0
def PySem.W.Fast.tw844760101699907344 : Nat := 0
def PySem.W.Fast.tw4391195643808119231 : Nat := 0
def PySem.W.Fast.tw6012661315955200410 : Nat := 0
namespace L2.DL
open PySem PySem.Spec PyProof.Rows

/-! ### the head -/
theorem all_mk {l : PySem.W.OpenLaw} {w : World} {K : PySem.W.Frag} {h : Heap} {mg : Str → Option Value} {fa : Addr} {C_Broken C_CannotBe C_HasRing C_InUse C_InvalidChanges C_InvalidClaim C_InvalidName C_InvalidNumber C_InvalidParting C_InvalidPlace C_InvalidPlaces C_InvalidText C_InvalidTie C_InvalidTies C_InvalidWish C_InvalidWishes C_NotAWeb C_NotMet C_NotRight C_NotThere C_NothingToUndo C_TooMany C_UnknownName C_UnknownPlace f_k01_sorts f_k01_bases f_k01_due f_k01_given f_k01_kept f_k01_raised f_k01_right f_k01_law : Addr} {od_k01_sorts an_k01_sorts od_k01_bases an_k01_bases od_k01_due an_k01_due od_k01_given an_k01_given od_k01_kept an_k01_kept od_k01_raised an_k01_raised od_k01_right an_k01_right od_k01_law an_k01_law : Option Addr} {oc_k01_sorts kV_k01_sorts dc_k01_sorts pm_k01_sorts cd_k01_sorts ct_k01_sorts oc_k01_bases kV_k01_bases dc_k01_bases pm_k01_bases cd_k01_bases ct_k01_bases oc_k01_due kV_k01_due dc_k01_due pm_k01_due cd_k01_due ct_k01_due oc_k01_given kV_k01_given dc_k01_given pm_k01_given cd_k01_given ct_k01_given oc_k01_kept kV_k01_kept dc_k01_kept pm_k01_kept cd_k01_kept ct_k01_kept oc_k01_raised kV_k01_raised dc_k01_raised pm_k01_raised cd_k01_raised ct_k01_raised oc_k01_right kV_k01_right dc_k01_right pm_k01_right cd_k01_right ct_k01_right oc_k01_law kV_k01_law dc_k01_law pm_k01_law cd_k01_law ct_k01_law : Value} {sl_k01_sorts sl_k01_bases sl_k01_due sl_k01_given sl_k01_kept sl_k01_raised sl_k01_right sl_k01_law : Array (Option Value)} {tk_MOST_CHANGES tk_MOST_PLACES tk_MOST_SMALL tk_MOST_TIES : Tok} (X : K.In h) (G : h.Ns mainGlobals mg) (hfa : mg "law" = some (.ref fa))
    (atC_Broken : PySem.W.nsIn K mainGlobals "Broken" = some (some (.ref C_Broken)))
    (atC_CannotBe : PySem.W.nsIn K mainGlobals "CannotBe" = some (some (.ref C_CannotBe)))
    (atC_HasRing : PySem.W.nsIn K mainGlobals "HasRing" = some (some (.ref C_HasRing)))
    (atC_InUse : PySem.W.nsIn K mainGlobals "InUse" = some (some (.ref C_InUse)))
    (atC_InvalidChanges : PySem.W.nsIn K mainGlobals "InvalidChanges" = some (some (.ref C_InvalidChanges)))
    (atC_InvalidClaim : PySem.W.nsIn K mainGlobals "InvalidClaim" = some (some (.ref C_InvalidClaim)))
    (atC_InvalidName : PySem.W.nsIn K mainGlobals "InvalidName" = some (some (.ref C_InvalidName)))
    (atC_InvalidNumber : PySem.W.nsIn K mainGlobals "InvalidNumber" = some (some (.ref C_InvalidNumber)))
    (atC_InvalidParting : PySem.W.nsIn K mainGlobals "InvalidParting" = some (some (.ref C_InvalidParting)))
    (atC_InvalidPlace : PySem.W.nsIn K mainGlobals "InvalidPlace" = some (some (.ref C_InvalidPlace)))
    (atC_InvalidPlaces : PySem.W.nsIn K mainGlobals "InvalidPlaces" = some (some (.ref C_InvalidPlaces)))
    (atC_InvalidText : PySem.W.nsIn K mainGlobals "InvalidText" = some (some (.ref C_InvalidText)))
    (atC_InvalidTie : PySem.W.nsIn K mainGlobals "InvalidTie" = some (some (.ref C_InvalidTie)))
    (atC_InvalidTies : PySem.W.nsIn K mainGlobals "InvalidTies" = some (some (.ref C_InvalidTies)))
    (atC_InvalidWish : PySem.W.nsIn K mainGlobals "InvalidWish" = some (some (.ref C_InvalidWish)))
    (atC_InvalidWishes : PySem.W.nsIn K mainGlobals "InvalidWishes" = some (some (.ref C_InvalidWishes)))
    (atC_NotAWeb : PySem.W.nsIn K mainGlobals "NotAWeb" = some (some (.ref C_NotAWeb)))
    (atC_NotMet : PySem.W.nsIn K mainGlobals "NotMet" = some (some (.ref C_NotMet)))
    (atC_NotRight : PySem.W.nsIn K mainGlobals "NotRight" = some (some (.ref C_NotRight)))
    (atC_NotThere : PySem.W.nsIn K mainGlobals "NotThere" = some (some (.ref C_NotThere)))
    (atC_NothingToUndo : PySem.W.nsIn K mainGlobals "NothingToUndo" = some (some (.ref C_NothingToUndo)))
    (atC_TooMany : PySem.W.nsIn K mainGlobals "TooMany" = some (some (.ref C_TooMany)))
    (atC_UnknownName : PySem.W.nsIn K mainGlobals "UnknownName" = some (some (.ref C_UnknownName)))
    (atC_UnknownPlace : PySem.W.nsIn K mainGlobals "UnknownPlace" = some (some (.ref C_UnknownPlace)))
    (et : errTB K nsF msF bsF = true)
    (ce_Broken : PySem.ErrX.clsEB K C_Broken "ArithmeticError" "ArithmeticError.__new__" [.type "ArithmeticError", .type "Exception", .type "BaseException", .type "object"] = true)
    (ie_Broken : PySem.ErrX.initEB2 l.prog K C_Broken "ArithmeticError.__init__" = true)
    (ce_HasRing : PySem.ErrX.clsEB K C_HasRing "ArithmeticError" "ArithmeticError.__new__" [.type "ArithmeticError", .type "Exception", .type "BaseException", .type "object"] = true)
    (ie_HasRing : PySem.ErrX.initEB l.prog K C_HasRing "ArithmeticError.__init__" "ring" = true)
    (ce_InUse : PySem.ErrX.clsEB K C_InUse "LookupError" "LookupError.__new__" [.type "LookupError", .type "Exception", .type "BaseException", .type "object"] = true)
    (ie_InUse : PySem.ErrX.initEB l.prog K C_InUse "LookupError.__init__" "index" = true)
    (ce_InvalidChanges : PySem.ErrX.clsEB K C_InvalidChanges "ValueError" "ValueError.__new__" [.type "ValueError", .type "Exception", .type "BaseException", .type "object"] = true)
    (ie_InvalidChanges : PySem.ErrX.initEB l.prog K C_InvalidChanges "ValueError.__init__" "index" = true)
    (ce_InvalidClaim : PySem.ErrX.clsEB K C_InvalidClaim "ValueError" "ValueError.__new__" [.type "ValueError", .type "Exception", .type "BaseException", .type "object"] = true)
    (ie_InvalidClaim : PySem.ErrX.initEB l.prog K C_InvalidClaim "ValueError.__init__" "given" = true)
    (ce_InvalidName : PySem.ErrX.clsEB K C_InvalidName "ValueError" "ValueError.__new__" [.type "ValueError", .type "Exception", .type "BaseException", .type "object"] = true)
    (ie_InvalidName : PySem.ErrX.initEB l.prog K C_InvalidName "ValueError.__init__" "given" = true)
    (ce_InvalidNumber : PySem.ErrX.clsEB K C_InvalidNumber "ValueError" "ValueError.__new__" [.type "ValueError", .type "Exception", .type "BaseException", .type "object"] = true)
    (ie_InvalidNumber : PySem.ErrX.initEB l.prog K C_InvalidNumber "ValueError.__init__" "given" = true)
    (ce_InvalidParting : PySem.ErrX.clsEB K C_InvalidParting "ValueError" "ValueError.__new__" [.type "ValueError", .type "Exception", .type "BaseException", .type "object"] = true)
    (ie_InvalidParting : PySem.ErrX.initEB l.prog K C_InvalidParting "ValueError.__init__" "given" = true)
    (ce_InvalidPlace : PySem.ErrX.clsEB K C_InvalidPlace "ValueError" "ValueError.__new__" [.type "ValueError", .type "Exception", .type "BaseException", .type "object"] = true)
    (ie_InvalidPlace : PySem.ErrX.initEB l.prog K C_InvalidPlace "ValueError.__init__" "given" = true)
    (ce_InvalidPlaces : PySem.ErrX.clsEB K C_InvalidPlaces "ValueError" "ValueError.__new__" [.type "ValueError", .type "Exception", .type "BaseException", .type "object"] = true)
    (ie_InvalidPlaces : PySem.ErrX.initEB l.prog K C_InvalidPlaces "ValueError.__init__" "index" = true)
    (ce_InvalidText : PySem.ErrX.clsEB K C_InvalidText "ValueError" "ValueError.__new__" [.type "ValueError", .type "Exception", .type "BaseException", .type "object"] = true)
    (ie_InvalidText : PySem.ErrX.initEB l.prog K C_InvalidText "ValueError.__init__" "given" = true)
    (ce_InvalidTie : PySem.ErrX.clsEB K C_InvalidTie "ValueError" "ValueError.__new__" [.type "ValueError", .type "Exception", .type "BaseException", .type "object"] = true)
    (ie_InvalidTie : PySem.ErrX.initEB l.prog K C_InvalidTie "ValueError.__init__" "given" = true)
    (ce_InvalidTies : PySem.ErrX.clsEB K C_InvalidTies "ValueError" "ValueError.__new__" [.type "ValueError", .type "Exception", .type "BaseException", .type "object"] = true)
    (ie_InvalidTies : PySem.ErrX.initEB l.prog K C_InvalidTies "ValueError.__init__" "index" = true)
    (ce_InvalidWish : PySem.ErrX.clsEB K C_InvalidWish "ValueError" "ValueError.__new__" [.type "ValueError", .type "Exception", .type "BaseException", .type "object"] = true)
    (ie_InvalidWish : PySem.ErrX.initEB l.prog K C_InvalidWish "ValueError.__init__" "given" = true)
    (ce_InvalidWishes : PySem.ErrX.clsEB K C_InvalidWishes "ValueError" "ValueError.__new__" [.type "ValueError", .type "Exception", .type "BaseException", .type "object"] = true)
    (ie_InvalidWishes : PySem.ErrX.initEB l.prog K C_InvalidWishes "ValueError.__init__" "index" = true)
    (ce_NotAWeb : PySem.ErrX.clsEB K C_NotAWeb "ValueError" "ValueError.__new__" [.type "ValueError", .type "Exception", .type "BaseException", .type "object"] = true)
    (ie_NotAWeb : PySem.ErrX.initEB l.prog K C_NotAWeb "ValueError.__init__" "given" = true)
    (ce_NotMet : PySem.ErrX.clsEB K C_NotMet "ArithmeticError" "ArithmeticError.__new__" [.type "ArithmeticError", .type "Exception", .type "BaseException", .type "object"] = true)
    (ie_NotMet : PySem.ErrX.initEB l.prog K C_NotMet "ArithmeticError.__init__" "pair" = true)
    (ce_TooMany : PySem.ErrX.clsEB K C_TooMany "ArithmeticError" "ArithmeticError.__new__" [.type "ArithmeticError", .type "Exception", .type "BaseException", .type "object"] = true)
    (ie_TooMany : PySem.ErrX.initEB l.prog K C_TooMany "ArithmeticError.__init__" "most" = true)
    (ce_UnknownName : PySem.ErrX.clsEB K C_UnknownName "LookupError" "LookupError.__new__" [.type "LookupError", .type "Exception", .type "BaseException", .type "object"] = true)
    (ie_UnknownName : PySem.ErrX.initEB l.prog K C_UnknownName "LookupError.__init__" "given" = true)
    (ce_UnknownPlace : PySem.ErrX.clsEB K C_UnknownPlace "LookupError" "LookupError.__new__" [.type "LookupError", .type "Exception", .type "BaseException", .type "object"] = true)
    (ie_UnknownPlace : PySem.ErrX.initEB l.prog K C_UnknownPlace "LookupError.__init__" "given" = true)
    (c0_NothingToUndo : cls0B K C_NothingToUndo "ArithmeticError" "ArithmeticError.__new__" [.type "ArithmeticError", .type "Exception", .type "BaseException", .type "object"] = true)
    (at_k01_sorts : PySem.W.nsIn K mainGlobals "_law_sorts" = some (some (.ref f_k01_sorts)))
    (l_k01_sorts : K.lookup f_k01_sorts = some ⟨oc_k01_sorts, od_k01_sorts, .func (PySem.W.fnOf "_law_sorts" "_law_sorts" (defArgs s_k01_sorts) (defBody s_k01_sorts) (defScope s_k01_sorts) .none kV_k01_sorts dc_k01_sorts pm_k01_sorts an_k01_sorts cd_k01_sorts ct_k01_sorts), sl_k01_sorts⟩)
    (cc_k01_sorts : PySem.W.codeIn K cd_k01_sorts "_law_sorts" = true)
    (kk_k01_sorts : PySem.W.keepIn K (.ref f_k01_sorts) = true)
    (at_k01_bases : PySem.W.nsIn K mainGlobals "_law_bases" = some (some (.ref f_k01_bases)))
    (l_k01_bases : K.lookup f_k01_bases = some ⟨oc_k01_bases, od_k01_bases, .func (PySem.W.fnOf "_law_bases" "_law_bases" (defArgs s_k01_bases) (defBody s_k01_bases) (defScope s_k01_bases) .none kV_k01_bases dc_k01_bases pm_k01_bases an_k01_bases cd_k01_bases ct_k01_bases), sl_k01_bases⟩)
    (cc_k01_bases : PySem.W.codeIn K cd_k01_bases "_law_bases" = true)
    (kk_k01_bases : PySem.W.keepIn K (.ref f_k01_bases) = true)
    (at_k01_due : PySem.W.nsIn K mainGlobals "_law_due" = some (some (.ref f_k01_due)))
    (l_k01_due : K.lookup f_k01_due = some ⟨oc_k01_due, od_k01_due, .func (PySem.W.fnOf "_law_due" "_law_due" (defArgs s_k01_due) (defBody s_k01_due) (defScope s_k01_due) .none kV_k01_due dc_k01_due pm_k01_due an_k01_due cd_k01_due ct_k01_due), sl_k01_due⟩)
    (cc_k01_due : PySem.W.codeIn K cd_k01_due "_law_due" = true)
    (kk_k01_due : PySem.W.keepIn K (.ref f_k01_due) = true)
    (at_k01_given : PySem.W.nsIn K mainGlobals "_law_given" = some (some (.ref f_k01_given)))
    (l_k01_given : K.lookup f_k01_given = some ⟨oc_k01_given, od_k01_given, .func (PySem.W.fnOf "_law_given" "_law_given" (defArgs s_k01_given) (defBody s_k01_given) (defScope s_k01_given) .none kV_k01_given dc_k01_given pm_k01_given an_k01_given cd_k01_given ct_k01_given), sl_k01_given⟩)
    (cc_k01_given : PySem.W.codeIn K cd_k01_given "_law_given" = true)
    (kk_k01_given : PySem.W.keepIn K (.ref f_k01_given) = true)
    (at_k01_kept : PySem.W.nsIn K mainGlobals "_law_kept_right" = some (some (.ref f_k01_kept)))
    (l_k01_kept : K.lookup f_k01_kept = some ⟨oc_k01_kept, od_k01_kept, .func (PySem.W.fnOf "_law_kept_right" "_law_kept_right" (defArgs s_k01_kept) (defBody s_k01_kept) (defScope s_k01_kept) .none kV_k01_kept dc_k01_kept pm_k01_kept an_k01_kept cd_k01_kept ct_k01_kept), sl_k01_kept⟩)
    (cc_k01_kept : PySem.W.codeIn K cd_k01_kept "_law_kept_right" = true)
    (kk_k01_kept : PySem.W.keepIn K (.ref f_k01_kept) = true)
    (at_k01_raised : PySem.W.nsIn K mainGlobals "_law_raised_right" = some (some (.ref f_k01_raised)))
    (l_k01_raised : K.lookup f_k01_raised = some ⟨oc_k01_raised, od_k01_raised, .func (PySem.W.fnOf "_law_raised_right" "_law_raised_right" (defArgs s_k01_raised) (defBody s_k01_raised) (defScope s_k01_raised) .none kV_k01_raised dc_k01_raised pm_k01_raised an_k01_raised cd_k01_raised ct_k01_raised), sl_k01_raised⟩)
    (cc_k01_raised : PySem.W.codeIn K cd_k01_raised "_law_raised_right" = true)
    (kk_k01_raised : PySem.W.keepIn K (.ref f_k01_raised) = true)
    (at_k01_right : PySem.W.nsIn K mainGlobals "_law_right" = some (some (.ref f_k01_right)))
    (l_k01_right : K.lookup f_k01_right = some ⟨oc_k01_right, od_k01_right, .func (PySem.W.fnOf "_law_right" "_law_right" (defArgs s_k01_right) (defBody s_k01_right) (defScope s_k01_right) .none kV_k01_right dc_k01_right pm_k01_right an_k01_right cd_k01_right ct_k01_right), sl_k01_right⟩)
    (cc_k01_right : PySem.W.codeIn K cd_k01_right "_law_right" = true)
    (kk_k01_right : PySem.W.keepIn K (.ref f_k01_right) = true)
    (at_k01_law : PySem.W.nsIn K mainGlobals "law" = some (some (.ref f_k01_law)))
    (l_k01_law : K.lookup f_k01_law = some ⟨oc_k01_law, od_k01_law, .func (PySem.W.fnOf "law" "law" (defArgs s_k01_law) (defBody s_k01_law) (defScope s_k01_law) .none kV_k01_law dc_k01_law pm_k01_law an_k01_law cd_k01_law ct_k01_law), sl_k01_law⟩)
    (cc_k01_law : PySem.W.codeIn K cd_k01_law "law" = true)
    (kk_k01_law : PySem.W.keepIn K (.ref f_k01_law) = true)
    (at_MOST_CHANGES : PySem.W.nsIn K mainGlobals "MOST_CHANGES" = some (some (.int 5 tk_MOST_CHANGES)))
    (at_MOST_PLACES : PySem.W.nsIn K mainGlobals "MOST_PLACES" = some (some (.int 40 tk_MOST_PLACES)))
    (at_MOST_SMALL : PySem.W.nsIn K mainGlobals "MOST_SMALL" = some (some (.int 9 tk_MOST_SMALL)))
    (at_MOST_TIES : PySem.W.nsIn K mainGlobals "MOST_TIES" = some (some (.int 200 tk_MOST_TIES)))
    (at_ArithmeticError : PySem.W.nsIn K mainGlobals "ArithmeticError" = some none)
    (at_IndexError : PySem.W.nsIn K mainGlobals "IndexError" = some none)
    (at_KeyError : PySem.W.nsIn K mainGlobals "KeyError" = some none)
    (at_LookupError : PySem.W.nsIn K mainGlobals "LookupError" = some none)
    (at_ValueError : PySem.W.nsIn K mainGlobals "ValueError" = some none)
    (at_ZeroDivisionError : PySem.W.nsIn K mainGlobals "ZeroDivisionError" = some none)
    (at_int : PySem.W.nsIn K mainGlobals "int" = some none)
    (at_isinstance : PySem.W.nsIn K mainGlobals "isinstance" = some none)
    (at_len : PySem.W.nsIn K mainGlobals "len" = some none)
    (at_range : PySem.W.nsIn K mainGlobals "range" = some none)
    (at_repr : PySem.W.nsIn K mainGlobals "repr" = some none)
    : ∃ fd : FuncData, (∀ (s : Shared) (v : Value), BindsTo s fd ⟨[v], []⟩ [("_law_cells", v)]) ∧ ∀ base : Heap, K.In base → base.Ns mainGlobals mg → FnD l.prog w K mg base 3 fa fd ["_law_cells"] (LawSp 63) := by
  have e : fa = f_k01_law := by
    have e := hfa.symm.trans (PySem.W.mg_of X G at_k01_law)
    cases e
    rfl
  obtain ⟨i_Broken, In_Broken⟩ := PySem.ErrX.initE2_of ie_Broken
  obtain ⟨i_HasRing, In_HasRing⟩ := PySem.ErrX.initE_of PySem.ErrX.field_ring ie_HasRing
  obtain ⟨i_InUse, In_InUse⟩ := PySem.ErrX.initE_of PySem.ErrX.field_index ie_InUse
  obtain ⟨i_InvalidChanges, In_InvalidChanges⟩ := PySem.ErrX.initE_of PySem.ErrX.field_index ie_InvalidChanges
  obtain ⟨i_InvalidClaim, In_InvalidClaim⟩ := PySem.ErrX.initE_of PySem.ErrX.field_given ie_InvalidClaim
  obtain ⟨i_InvalidName, In_InvalidName⟩ := PySem.ErrX.initE_of PySem.ErrX.field_given ie_InvalidName
  obtain ⟨i_InvalidNumber, In_InvalidNumber⟩ := PySem.ErrX.initE_of PySem.ErrX.field_given ie_InvalidNumber
  obtain ⟨i_InvalidParting, In_InvalidParting⟩ := PySem.ErrX.initE_of PySem.ErrX.field_given ie_InvalidParting
  obtain ⟨i_InvalidPlace, In_InvalidPlace⟩ := PySem.ErrX.initE_of PySem.ErrX.field_given ie_InvalidPlace
  obtain ⟨i_InvalidPlaces, In_InvalidPlaces⟩ := PySem.ErrX.initE_of PySem.ErrX.field_index ie_InvalidPlaces
  obtain ⟨i_InvalidText, In_InvalidText⟩ := PySem.ErrX.initE_of PySem.ErrX.field_given ie_InvalidText
  obtain ⟨i_InvalidTie, In_InvalidTie⟩ := PySem.ErrX.initE_of PySem.ErrX.field_given ie_InvalidTie
  obtain ⟨i_InvalidTies, In_InvalidTies⟩ := PySem.ErrX.initE_of PySem.ErrX.field_index ie_InvalidTies
  obtain ⟨i_InvalidWish, In_InvalidWish⟩ := PySem.ErrX.initE_of PySem.ErrX.field_given ie_InvalidWish
  obtain ⟨i_InvalidWishes, In_InvalidWishes⟩ := PySem.ErrX.initE_of PySem.ErrX.field_index ie_InvalidWishes
  obtain ⟨i_NotAWeb, In_NotAWeb⟩ := PySem.ErrX.initE_of PySem.ErrX.field_given ie_NotAWeb
  obtain ⟨i_NotMet, In_NotMet⟩ := PySem.ErrX.initE_of PySem.ErrX.field_pair ie_NotMet
  obtain ⟨i_TooMany, In_TooMany⟩ := PySem.ErrX.initE_of PySem.ErrX.field_most ie_TooMany
  obtain ⟨i_UnknownName, In_UnknownName⟩ := PySem.ErrX.initE_of PySem.ErrX.field_given ie_UnknownName
  obtain ⟨i_UnknownPlace, In_UnknownPlace⟩ := PySem.ErrX.initE_of PySem.ErrX.field_given ie_UnknownPlace
  let T : Txt l.prog K mg := { a_Broken := C_Broken, m_Broken := PySem.W.mg_of X G atC_Broken, n_Broken := atC_Broken, a_CannotBe := C_CannotBe, m_CannotBe := PySem.W.mg_of X G atC_CannotBe, n_CannotBe := atC_CannotBe, a_HasRing := C_HasRing, m_HasRing := PySem.W.mg_of X G atC_HasRing, n_HasRing := atC_HasRing, a_InUse := C_InUse, m_InUse := PySem.W.mg_of X G atC_InUse, n_InUse := atC_InUse, a_InvalidChanges := C_InvalidChanges, m_InvalidChanges := PySem.W.mg_of X G atC_InvalidChanges, n_InvalidChanges := atC_InvalidChanges, a_InvalidClaim := C_InvalidClaim, m_InvalidClaim := PySem.W.mg_of X G atC_InvalidClaim, n_InvalidClaim := atC_InvalidClaim, a_InvalidName := C_InvalidName, m_InvalidName := PySem.W.mg_of X G atC_InvalidName, n_InvalidName := atC_InvalidName, a_InvalidNumber := C_InvalidNumber, m_InvalidNumber := PySem.W.mg_of X G atC_InvalidNumber, n_InvalidNumber := atC_InvalidNumber, a_InvalidParting := C_InvalidParting, m_InvalidParting := PySem.W.mg_of X G atC_InvalidParting, n_InvalidParting := atC_InvalidParting, a_InvalidPlace := C_InvalidPlace, m_InvalidPlace := PySem.W.mg_of X G atC_InvalidPlace, n_InvalidPlace := atC_InvalidPlace, a_InvalidPlaces := C_InvalidPlaces, m_InvalidPlaces := PySem.W.mg_of X G atC_InvalidPlaces, n_InvalidPlaces := atC_InvalidPlaces, a_InvalidText := C_InvalidText, m_InvalidText := PySem.W.mg_of X G atC_InvalidText, n_InvalidText := atC_InvalidText, a_InvalidTie := C_InvalidTie, m_InvalidTie := PySem.W.mg_of X G atC_InvalidTie, n_InvalidTie := atC_InvalidTie, a_InvalidTies := C_InvalidTies, m_InvalidTies := PySem.W.mg_of X G atC_InvalidTies, n_InvalidTies := atC_InvalidTies, a_InvalidWish := C_InvalidWish, m_InvalidWish := PySem.W.mg_of X G atC_InvalidWish, n_InvalidWish := atC_InvalidWish, a_InvalidWishes := C_InvalidWishes, m_InvalidWishes := PySem.W.mg_of X G atC_InvalidWishes, n_InvalidWishes := atC_InvalidWishes, a_NotAWeb := C_NotAWeb, m_NotAWeb := PySem.W.mg_of X G atC_NotAWeb, n_NotAWeb := atC_NotAWeb, a_NotMet := C_NotMet, m_NotMet := PySem.W.mg_of X G atC_NotMet, n_NotMet := atC_NotMet, a_NotRight := C_NotRight, m_NotRight := PySem.W.mg_of X G atC_NotRight, n_NotRight := atC_NotRight, a_NotThere := C_NotThere, m_NotThere := PySem.W.mg_of X G atC_NotThere, n_NotThere := atC_NotThere, a_NothingToUndo := C_NothingToUndo, m_NothingToUndo := PySem.W.mg_of X G atC_NothingToUndo, n_NothingToUndo := atC_NothingToUndo, a_TooMany := C_TooMany, m_TooMany := PySem.W.mg_of X G atC_TooMany, n_TooMany := atC_TooMany, a_UnknownName := C_UnknownName, m_UnknownName := PySem.W.mg_of X G atC_UnknownName, n_UnknownName := atC_UnknownName, a_UnknownPlace := C_UnknownPlace, m_UnknownPlace := PySem.W.mg_of X G atC_UnknownPlace, n_UnknownPlace := atC_UnknownPlace, et := errT_of et, i_Broken := i_Broken, rz_Broken := ⟨PySem.ErrX.base_ArithmeticError, PySem.ErrX.clsE_of ce_Broken, In_Broken⟩, i_HasRing := i_HasRing, rz_HasRing := ⟨PySem.ErrX.base_ArithmeticError, PySem.ErrX.clsE_of ce_HasRing, In_HasRing⟩, i_InUse := i_InUse, rz_InUse := ⟨PySem.ErrX.base_LookupError, PySem.ErrX.clsE_of ce_InUse, In_InUse⟩, i_InvalidChanges := i_InvalidChanges, rz_InvalidChanges := ⟨PySem.ErrX.base_ValueError, PySem.ErrX.clsE_of ce_InvalidChanges, In_InvalidChanges⟩, i_InvalidClaim := i_InvalidClaim, rz_InvalidClaim := ⟨PySem.ErrX.base_ValueError, PySem.ErrX.clsE_of ce_InvalidClaim, In_InvalidClaim⟩, i_InvalidName := i_InvalidName, rz_InvalidName := ⟨PySem.ErrX.base_ValueError, PySem.ErrX.clsE_of ce_InvalidName, In_InvalidName⟩, i_InvalidNumber := i_InvalidNumber, rz_InvalidNumber := ⟨PySem.ErrX.base_ValueError, PySem.ErrX.clsE_of ce_InvalidNumber, In_InvalidNumber⟩, i_InvalidParting := i_InvalidParting, rz_InvalidParting := ⟨PySem.ErrX.base_ValueError, PySem.ErrX.clsE_of ce_InvalidParting, In_InvalidParting⟩, i_InvalidPlace := i_InvalidPlace, rz_InvalidPlace := ⟨PySem.ErrX.base_ValueError, PySem.ErrX.clsE_of ce_InvalidPlace, In_InvalidPlace⟩, i_InvalidPlaces := i_InvalidPlaces, rz_InvalidPlaces := ⟨PySem.ErrX.base_ValueError, PySem.ErrX.clsE_of ce_InvalidPlaces, In_InvalidPlaces⟩, i_InvalidText := i_InvalidText, rz_InvalidText := ⟨PySem.ErrX.base_ValueError, PySem.ErrX.clsE_of ce_InvalidText, In_InvalidText⟩, i_InvalidTie := i_InvalidTie, rz_InvalidTie := ⟨PySem.ErrX.base_ValueError, PySem.ErrX.clsE_of ce_InvalidTie, In_InvalidTie⟩, i_InvalidTies := i_InvalidTies, rz_InvalidTies := ⟨PySem.ErrX.base_ValueError, PySem.ErrX.clsE_of ce_InvalidTies, In_InvalidTies⟩, i_InvalidWish := i_InvalidWish, rz_InvalidWish := ⟨PySem.ErrX.base_ValueError, PySem.ErrX.clsE_of ce_InvalidWish, In_InvalidWish⟩, i_InvalidWishes := i_InvalidWishes, rz_InvalidWishes := ⟨PySem.ErrX.base_ValueError, PySem.ErrX.clsE_of ce_InvalidWishes, In_InvalidWishes⟩, i_NotAWeb := i_NotAWeb, rz_NotAWeb := ⟨PySem.ErrX.base_ValueError, PySem.ErrX.clsE_of ce_NotAWeb, In_NotAWeb⟩, i_NotMet := i_NotMet, rz_NotMet := ⟨PySem.ErrX.base_ArithmeticError, PySem.ErrX.clsE_of ce_NotMet, In_NotMet⟩, i_TooMany := i_TooMany, rz_TooMany := ⟨PySem.ErrX.base_ArithmeticError, PySem.ErrX.clsE_of ce_TooMany, In_TooMany⟩, i_UnknownName := i_UnknownName, rz_UnknownName := ⟨PySem.ErrX.base_LookupError, PySem.ErrX.clsE_of ce_UnknownName, In_UnknownName⟩, i_UnknownPlace := i_UnknownPlace, rz_UnknownPlace := ⟨PySem.ErrX.base_LookupError, PySem.ErrX.clsE_of ce_UnknownPlace, In_UnknownPlace⟩, rz0_NothingToUndo := ⟨PySem.ErrX.base_ArithmeticError, cls0_of c0_NothingToUndo⟩, a_k01_sorts := f_k01_sorts, d_k01_sorts := _, F_k01_sorts := fun_mk (st := s_k01_sorts) l_k01_sorts cc_k01_sorts kk_k01_sorts, m_k01_sorts := PySem.W.mg_of X G at_k01_sorts, a_k01_bases := f_k01_bases, d_k01_bases := _, F_k01_bases := fun_mk (st := s_k01_bases) l_k01_bases cc_k01_bases kk_k01_bases, m_k01_bases := PySem.W.mg_of X G at_k01_bases, a_k01_due := f_k01_due, d_k01_due := _, F_k01_due := fun_mk (st := s_k01_due) l_k01_due cc_k01_due kk_k01_due, m_k01_due := PySem.W.mg_of X G at_k01_due, a_k01_given := f_k01_given, d_k01_given := _, F_k01_given := fun_mk (st := s_k01_given) l_k01_given cc_k01_given kk_k01_given, m_k01_given := PySem.W.mg_of X G at_k01_given, a_k01_kept := f_k01_kept, d_k01_kept := _, F_k01_kept := fun_mk (st := s_k01_kept) l_k01_kept cc_k01_kept kk_k01_kept, m_k01_kept := PySem.W.mg_of X G at_k01_kept, a_k01_raised := f_k01_raised, d_k01_raised := _, F_k01_raised := fun_mk (st := s_k01_raised) l_k01_raised cc_k01_raised kk_k01_raised, m_k01_raised := PySem.W.mg_of X G at_k01_raised, a_k01_right := f_k01_right, d_k01_right := _, F_k01_right := fun_mk (st := s_k01_right) l_k01_right cc_k01_right kk_k01_right, m_k01_right := PySem.W.mg_of X G at_k01_right, a_k01_law := f_k01_law, d_k01_law := _, F_k01_law := fun_mk (st := s_k01_law) l_k01_law cc_k01_law kk_k01_law, m_k01_law := PySem.W.mg_of X G at_k01_law, t_MOST_CHANGES := tk_MOST_CHANGES, m_MOST_CHANGES := PySem.W.mg_of X G at_MOST_CHANGES, t_MOST_PLACES := tk_MOST_PLACES, m_MOST_PLACES := PySem.W.mg_of X G at_MOST_PLACES, t_MOST_SMALL := tk_MOST_SMALL, m_MOST_SMALL := PySem.W.mg_of X G at_MOST_SMALL, t_MOST_TIES := tk_MOST_TIES, m_MOST_TIES := PySem.W.mg_of X G at_MOST_TIES, z_ArithmeticError := PySem.W.mg_none_of X G at_ArithmeticError, z_IndexError := PySem.W.mg_none_of X G at_IndexError, z_KeyError := PySem.W.mg_none_of X G at_KeyError, z_LookupError := PySem.W.mg_none_of X G at_LookupError, z_ValueError := PySem.W.mg_none_of X G at_ValueError, z_ZeroDivisionError := PySem.W.mg_none_of X G at_ZeroDivisionError, z_int := PySem.W.mg_none_of X G at_int, z_isinstance := PySem.W.mg_none_of X G at_isinstance, z_len := PySem.W.mg_none_of X G at_len, z_range := PySem.W.mg_none_of X G at_range, z_repr := PySem.W.mg_none_of X G at_repr }
  rw [e]
  exact ⟨T.d_k01_law, fun s v => .of_eq rfl, fun base _ _ => ok_k01_law T⟩
end L2.DL
open PySem PySem.W PyProof.Rows
set_option maxRecDepth 100000 in
set_option maxHeartbeats 0 in
theorem PySem.Challenge.cw_fewroads_k01_limits_and_errors_holds : PySem.Challenge.rw_fewroads_k01_limits_and_errors.Holds := by
  w_on; o_law; k_head; (case hw => w_witness2)
  k_fill
  refine L2.DL.walk_G (l := PySem.Challenge.rw_fewroads_k01_limits_and_errors) (n := 63) (k := 3) (x := "_law_cells") rfl (by decide) rfl ⟨rfl, by decide, by decide⟩ (fun w h Y => PySem.W.kIn_of Y) ?F
  case F =>
    intro w mg fa h KX G hmg
    refine' L2.DL.all_mk (l := PySem.Challenge.rw_fewroads_k01_limits_and_errors) (w := w) KX G hmg ?atC_Broken ?atC_CannotBe ?atC_HasRing ?atC_InUse ?atC_InvalidChanges ?atC_InvalidClaim ?atC_InvalidName ?atC_InvalidNumber ?atC_InvalidParting ?atC_InvalidPlace ?atC_InvalidPlaces ?atC_InvalidText ?atC_InvalidTie ?atC_InvalidTies ?atC_InvalidWish ?atC_InvalidWishes ?atC_NotAWeb ?atC_NotMet ?atC_NotRight ?atC_NotThere ?atC_NothingToUndo ?atC_TooMany ?atC_UnknownName ?atC_UnknownPlace ?et ?ce_Broken ?ie_Broken ?ce_HasRing ?ie_HasRing ?ce_InUse ?ie_InUse ?ce_InvalidChanges ?ie_InvalidChanges ?ce_InvalidClaim ?ie_InvalidClaim ?ce_InvalidName ?ie_InvalidName ?ce_InvalidNumber ?ie_InvalidNumber ?ce_InvalidParting ?ie_InvalidParting ?ce_InvalidPlace ?ie_InvalidPlace ?ce_InvalidPlaces ?ie_InvalidPlaces ?ce_InvalidText ?ie_InvalidText ?ce_InvalidTie ?ie_InvalidTie ?ce_InvalidTies ?ie_InvalidTies ?ce_InvalidWish ?ie_InvalidWish ?ce_InvalidWishes ?ie_InvalidWishes ?ce_NotAWeb ?ie_NotAWeb ?ce_NotMet ?ie_NotMet ?ce_TooMany ?ie_TooMany ?ce_UnknownName ?ie_UnknownName ?ce_UnknownPlace ?ie_UnknownPlace ?c0_NothingToUndo ?at_k01_sorts ?l_k01_sorts ?cc_k01_sorts ?kk_k01_sorts ?at_k01_bases ?l_k01_bases ?cc_k01_bases ?kk_k01_bases ?at_k01_due ?l_k01_due ?cc_k01_due ?kk_k01_due ?at_k01_given ?l_k01_given ?cc_k01_given ?kk_k01_given ?at_k01_kept ?l_k01_kept ?cc_k01_kept ?kk_k01_kept ?at_k01_raised ?l_k01_raised ?cc_k01_raised ?kk_k01_raised ?at_k01_right ?l_k01_right ?cc_k01_right ?kk_k01_right ?at_k01_law ?l_k01_law ?cc_k01_law ?kk_k01_law ?at_MOST_CHANGES ?at_MOST_PLACES ?at_MOST_SMALL ?at_MOST_TIES ?at_ArithmeticError ?at_IndexError ?at_KeyError ?at_LookupError ?at_ValueError ?at_ZeroDivisionError ?at_int ?at_isinstance ?at_len ?at_range ?at_repr
    (case atC_Broken => k_is)
    (case atC_CannotBe => k_is)
    (case atC_HasRing => k_is)
    (case atC_InUse => k_is)
    (case atC_InvalidChanges => k_is)
    (case atC_InvalidClaim => k_is)
    (case atC_InvalidName => k_is)
    (case atC_InvalidNumber => k_is)
    (case atC_InvalidParting => k_is)
    (case atC_InvalidPlace => k_is)
    (case atC_InvalidPlaces => k_is)
    (case atC_InvalidText => k_is)
    (case atC_InvalidTie => k_is)
    (case atC_InvalidTies => k_is)
    (case atC_InvalidWish => k_is)
    (case atC_InvalidWishes => k_is)
    (case atC_NotAWeb => k_is)
    (case atC_NotMet => k_is)
    (case atC_NotRight => k_is)
    (case atC_NotThere => k_is)
    (case atC_NothingToUndo => k_is)
    (case atC_TooMany => k_is)
    (case atC_UnknownName => k_is)
    (case atC_UnknownPlace => k_is)
    (case et => kernel_rfl)
    (case ce_Broken => kernel_rfl)
    (case ie_Broken => kernel_rfl)
    (case ce_HasRing => kernel_rfl)
    (case ie_HasRing => kernel_rfl)
    (case ce_InUse => kernel_rfl)
    (case ie_InUse => kernel_rfl)
    (case ce_InvalidChanges => kernel_rfl)
    (case ie_InvalidChanges => kernel_rfl)
    (case ce_InvalidClaim => kernel_rfl)
    (case ie_InvalidClaim => kernel_rfl)
    (case ce_InvalidName => kernel_rfl)
    (case ie_InvalidName => kernel_rfl)
    (case ce_InvalidNumber => kernel_rfl)
    (case ie_InvalidNumber => kernel_rfl)
    (case ce_InvalidParting => kernel_rfl)
    (case ie_InvalidParting => kernel_rfl)
    (case ce_InvalidPlace => kernel_rfl)
    (case ie_InvalidPlace => kernel_rfl)
    (case ce_InvalidPlaces => kernel_rfl)
    (case ie_InvalidPlaces => kernel_rfl)
    (case ce_InvalidText => kernel_rfl)
    (case ie_InvalidText => kernel_rfl)
    (case ce_InvalidTie => kernel_rfl)
    (case ie_InvalidTie => kernel_rfl)
    (case ce_InvalidTies => kernel_rfl)
    (case ie_InvalidTies => kernel_rfl)
    (case ce_InvalidWish => kernel_rfl)
    (case ie_InvalidWish => kernel_rfl)
    (case ce_InvalidWishes => kernel_rfl)
    (case ie_InvalidWishes => kernel_rfl)
    (case ce_NotAWeb => kernel_rfl)
    (case ie_NotAWeb => kernel_rfl)
    (case ce_NotMet => kernel_rfl)
    (case ie_NotMet => kernel_rfl)
    (case ce_TooMany => kernel_rfl)
    (case ie_TooMany => kernel_rfl)
    (case ce_UnknownName => kernel_rfl)
    (case ie_UnknownName => kernel_rfl)
    (case ce_UnknownPlace => kernel_rfl)
    (case ie_UnknownPlace => kernel_rfl)
    (case c0_NothingToUndo => kernel_rfl)
    (case at_k01_sorts => k_is)
    (case l_k01_sorts => k_is)
    (case cc_k01_sorts => k_is)
    (case kk_k01_sorts => k_is)
    (case at_k01_bases => k_is)
    (case l_k01_bases => k_is)
    (case cc_k01_bases => k_is)
    (case kk_k01_bases => k_is)
    (case at_k01_due => k_is)
    (case l_k01_due => k_is)
    (case cc_k01_due => k_is)
    (case kk_k01_due => k_is)
    (case at_k01_given => k_is)
    (case l_k01_given => k_is)
    (case cc_k01_given => k_is)
    (case kk_k01_given => k_is)
    (case at_k01_kept => k_is)
    (case l_k01_kept => k_is)
    (case cc_k01_kept => k_is)
    (case kk_k01_kept => k_is)
    (case at_k01_raised => k_is)
    (case l_k01_raised => k_is)
    (case cc_k01_raised => k_is)
    (case kk_k01_raised => k_is)
    (case at_k01_right => k_is)
    (case l_k01_right => k_is)
    (case cc_k01_right => k_is)
    (case kk_k01_right => k_is)
    (case at_k01_law => k_is)
    (case l_k01_law => k_is)
    (case cc_k01_law => k_is)
    (case kk_k01_law => k_is)
    (case at_MOST_CHANGES => k_is)
    (case at_MOST_PLACES => k_is)
    (case at_MOST_SMALL => k_is)
    (case at_MOST_TIES => k_is)
    (case at_ArithmeticError => k_is)
    (case at_IndexError => k_is)
    (case at_KeyError => k_is)
    (case at_LookupError => k_is)
    (case at_ValueError => k_is)
    (case at_ZeroDivisionError => k_is)
    (case at_int => k_is)
    (case at_isinstance => k_is)
    (case at_len => k_is)
    (case at_range => k_is)
    (case at_repr => k_is)
