import PyProof.Rows.All
import Wide.All
import OpenK.AllK
import Wide.FinOn
import HandS.ForMost
import HandS.Lambda
import HandS.Property
import HandS.Defaults
import HandS.TupAny
import HandS.Deep
import HandS.IsInst
import HandS.Style
import HandS.More
import HandS.TupLen
import HandS.Small
import HandS.DictTup
import KE.GoesEnum
import HandS.Iter
import HandS.DictComp
import HandS.Strs
import HandS.Ends
import HandS.SlotsOwn
import HandS.Text
import HandS.Star
import KE.KCallOwn
import KE.KRevSl
import PyProof.Rows.SortShellAny
import PyProof.TupleOfSeq
import HandS.Zip
import HandS.FStr
import HandS.MakeKw
import HandS.DictSub
import HandS.Conv
import HandS.TryOnly
import HandS.SetFor
import HandS.TupMul
import HandS.Set
import KE.KDictZip
import HandS.SetKeys
import KE.KDictWalk
import KE.KEqDict
import KE.KDictList
import PySem.Challenge.RW_fewroads_k16_known_colourings
set_option Elab.async false
set_option linter.all false
set_option maxRecDepth 100000
set_option maxHeartbeats 4000000
/-! DL1: data as values. D: what a Python value is, as Lean data; SO: the objects that may change, by their addresses; how both lie in the abstract heap of HandS; the judgements over them -/
namespace L2.DL
open PySem PySem.Spec PyProof.Rows

/-- a value as data: lst, dic, ins are lists, dicts, instances that nobody changes any more; src a list from outside, kt a tuple that the top has written, tf a tuple of which it is known that it has no dict of its own; obj: an object by its address (one that may change, or one that is not looked into) -/
inductive D where
  | non | bl (b : Bool) | int (i : Int) | str (x : Str) | ty (n : String)
  | tup (xs : List D) | lst (xs : List D) | src (xs : List D) | kt (xs : List D) | tf (xs : List D) | dic (t : Bool) (kvs : List (D × D)) | ins (C : Addr) (fs : List (Str × D)) | obj (a : Addr) | fd (t : Bool) (kvs : List (D × D)) | gh (d : D) (v : V)
/-- an object that may change; err: an exception of the class of that name, with what it keeps; tb: a table of code objects, all of one name -/
inductive DO where
  | lst (xs : List D) | dic (t : Bool) (kvs : List (D × D)) | ins (C : Addr) (fs : List (Str × D)) | err (n : Str) (fs : List (Str × D)) | tb (q : Str)
abbrev SO := Addr → Option DO
def SO.set (S : SO) (a : Addr) (o : DO) : SO := fun b => if b = a then some o else S b
def SO.del (S : SO) (a : Addr) : SO := fun b => if b = a then none else S b
theorem set_same {S : SO} {a : Addr} {o : DO} : S.set a o a = some o := if_pos rfl
theorem set_ne {S : SO} {a b : Addr} {o : DO} (h : b ≠ a) : S.set a o b = S b := if_neg h
theorem set_set {S : SO} {a : Addr} {o u : DO} : (S.set a o).set a u = S.set a u := by
  funext b
  unfold SO.set
  split <;> rfl
theorem del_set {S : SO} {a : Addr} {o : DO} (h : S a = none) : (S.set a o).del a = S := by
  funext b
  unfold SO.set SO.del
  split
  · rename_i e
    rw [e, h]
  · rename_i e
    exact if_neg e
theorem so_ne {S : SO} {a b : Addr} {o : DO} (h : S a = some o) (h' : S b = none) : a ≠ b := by
  intro e
  rw [e, h'] at h
  cases h

def keyD : Key → D
  | .inl i => .int i
  | .inr x => .str x

/-- a tuple, a list that is read and that nobody changes -/
def TupAt (S : SO) (H : Hp) (a : Addr) (vs : List V) : Prop := S a = none ∧ H a = some (.tup vs)
def KTup (K : PySem.W.Frag) (a : Addr) (vs : List V) : Prop := ∃ (o : Obj) (its : Array Value) (n : Nat), K.lookup a = some o ∧ o.cls = .type "tuple" ∧ o.data = .seq its n ∧ its.size ≤ sizeLine ∧ Vals vs its.toList
def LstAt (K : PySem.W.Frag) (S : SO) (H : Hp) (a : Addr) (vs : List V) : Prop := S a = none ∧ Rd H a (.lst vs) ∨
  ∃ (o : Obj) (its : Array Value) (n : Nat), K.lookup a = some o ∧ o.cls = .type "list" ∧ o.dict = none ∧ o.data = .seq its n ∧ its.size ≤ sizeLine ∧ Vals vs its.toList
def TfAt (S : SO) (H : Hp) (a : Addr) (vs : List V) : Prop := S a = none ∧ ∃ o, H a = some (.frz o (.tup vs)) ∧ o.dict = none ∧ o.cls = .type "tuple"
theorem TfAt.sq {K : PySem.W.Frag} {S : SO} {H : Hp} {a : Addr} {vs : List V} (h : TfAt S H a vs) : SqT K H a vs := let ⟨_, o, h, _⟩ := h; .inl (.inr ⟨o, h⟩)
theorem TupAt.sq {K : PySem.W.Frag} {S : SO} {H : Hp} {a : Addr} {vs : List V} (h : TupAt S H a vs) : SqT K H a vs := .of h.2
theorem KTup.sq {K : PySem.W.Frag} {H : Hp} {a : Addr} {vs : List V} (h : KTup K a vs) : SqT K H a vs := .inr h
theorem LstAt.sq {K : PySem.W.Frag} {S : SO} {H : Hp} {a : Addr} {vs : List V} (h : LstAt K S H a vs) : SqL K H a vs := h.elim (fun x => .inl x.2) .inr

mutual
/-- the value d lies at v -/
def Rel (K : PySem.W.Frag) (S : SO) (H : Hp) : D → V → Prop
  | .non, v => v = .non
  | .bl b, v => v = .bl b
  | .int i, v => v = .int i
  | .str x, v => v = .str x
  | .ty n, v => v = .ty n
  | .obj a, v => v = .ref a
  | .tup ds, v => ∃ a vs, v = .ref a ∧ TupAt S H a vs ∧ Rels K S H ds vs
  | .lst ds, v => ∃ a vs, v = .ref a ∧ S a = none ∧ H a = some (.lst vs) ∧ Rels K S H ds vs
  | .kt ds, v => ∃ a vs, v = .ref a ∧ KTup K a vs ∧ Rels K S H ds vs
  | .tf ds, v => ∃ a vs, v = .ref a ∧ TfAt S H a vs ∧ Rels K S H ds vs
  | .src ds, v => ∃ a vs, v = .ref a ∧ LstAt K S H a vs ∧ Rels K S H ds vs
  | .dic t kvs, v => ∃ a, v = .ref a ∧ S a = none ∧ ((∃ l, t = false ∧ H a = some (.dK l) ∧ RelK K S H kvs l) ∨ (∃ l, t = true ∧ H a = some (.dT l) ∧ RelT K S H kvs l))
  | .ins C fs, v => ∃ a dx l, v = .ref a ∧ S a = none ∧ H a = some (.ins C dx l) ∧ RelF K S H fs l
  | .gh d u, v => v = u ∧ Rel K S H d u
  | .fd t kvs, v => ∃ a, v = .ref a ∧ S a = none ∧ ((∃ o l, t = false ∧ H a = some (.frz o (.dK l)) ∧ RelK K S H kvs l) ∨ (∃ o l, t = true ∧ H a = some (.frz o (.dT l)) ∧ RelT K S H kvs l))
def Rels (K : PySem.W.Frag) (S : SO) (H : Hp) : List D → List V → Prop
  | [], vs => vs = []
  | d :: ds, vs => ∃ v r, vs = v :: r ∧ Rel K S H d v ∧ Rels K S H ds r
def RelK (K : PySem.W.Frag) (S : SO) (H : Hp) : List (D × D) → List (Key × V) → Prop
  | [], l => l = []
  | (k, d) :: kvs, l => ∃ q v r, l = (q, v) :: r ∧ k = keyD q ∧ Rel K S H d v ∧ RelK K S H kvs r
def RelT (K : PySem.W.Frag) (S : SO) (H : Hp) : List (D × D) → List (List Key × V) → Prop
  | [], l => l = []
  | (k, d) :: kvs, l => ∃ q v r, l = (q, v) :: r ∧ k = .tup (q.map keyD) ∧ Rel K S H d v ∧ RelT K S H kvs r
def RelF (K : PySem.W.Frag) (S : SO) (H : Hp) : List (Str × D) → List (Str × V) → Prop
  | [], l => l = []
  | (x, d) :: fs, l => ∃ v r, l = (x, v) :: r ∧ Rel K S H d v ∧ RelF K S H fs r
end

/-- at a: an exception of the class at C, its own dict d -/
def ErrO (a C : Addr) (d : Option Addr) : HO := .ext fun h => ∃ (oe : Obj) (vs : Array Value), h.get? a = some oe ∧ oe.cls = .ref C ∧ oe.dict = d ∧ oe.data = .fields vs
/-- what an exception keeps -/
def ErrF (K : PySem.W.Frag) (S : SO) (H : Hp) : Option Addr → List (Str × D) → Prop
  | none, fs => fs = []
  | some dx, fs => ∃ l, S dx = none ∧ H dx = some (.xd l) ∧ RelF K S H fs l
/-- how a changing object lies -/
def ObjAt (K : PySem.W.Frag) (S : SO) (H : Hp) (a : Addr) : DO → Prop
  | .lst ds => ∃ vs, H a = some (.lst vs) ∧ Rels K S H ds vs
  | .dic t kvs => (∃ l, t = false ∧ H a = some (.dK l) ∧ RelK K S H kvs l) ∨ (∃ l, t = true ∧ H a = some (.dT l) ∧ RelT K S H kvs l)
  | .ins C fs => ∃ dx l, H a = some (.ins C dx l) ∧ RelF K S H fs l
  | .err n fs => ∃ C d, PySem.W.nsIn K mainGlobals n = some (some (.ref C)) ∧ H a = some (ErrO a C d) ∧ ErrF K S H d fs
  | .tb q => ∃ ps : Array Value, H a = some (.tbl ps) ∧ TriplesOk ps.toList ∧ ∀ (pos : Pos) (cv : Value), codeAmong pos ps.toList = some cv → ∃ c, cv = .ref c ∧ S c = none ∧ H c = some (LamX.CodeO c q)
def SRel (K : PySem.W.Frag) (S : SO) (H : Hp) : Prop := ∀ a o, S a = some o → ObjAt K S H a o
/-- the step from one state to a later one: what nobody changes stays -/
def Nx (S : SO) (H : Hp) (S' : SO) (H' : Hp) : Prop := ∀ a o, S a = none → H a = some o → S' a = none ∧ H' a = some o
theorem Nx.refl (S : SO) (H : Hp) : Nx S H S H := fun _ _ h h' => ⟨h, h'⟩
theorem Nx.trans {S S1 S2 : SO} {H H1 H2 : Hp} (x : Nx S H S1 H1) (y : Nx S1 H1 S2 H2) : Nx S H S2 H2 := fun a o h h' => let ⟨p, q⟩ := x a o h h'; y a o p q

section
variable {K : PySem.W.Frag} {S S' : SO} {H H' : Hp}
theorem TfAt.nx {a : Addr} {vs : List V} (x : Nx S H S' H') (h : TfAt S H a vs) : TfAt S' H' a vs := let ⟨n, o, e, r⟩ := h; let ⟨p, q⟩ := x a _ n e; ⟨p, o, q, r⟩
theorem TupAt.nx {a : Addr} {vs : List V} (x : Nx S H S' H') (h : TupAt S H a vs) : TupAt S' H' a vs := x a _ h.1 h.2
theorem LstAt.nx {a : Addr} {vs : List V} (x : Nx S H S' H') (h : LstAt K S H a vs) : LstAt K S' H' a vs := by
  rcases h with ⟨h0, h | ⟨o, h⟩⟩ | h
  · obtain ⟨p, q⟩ := x a _ h0 h
    exact .inl ⟨p, .inl q⟩
  · obtain ⟨p, q⟩ := x a _ h0 h
    exact .inl ⟨p, .inr ⟨o, q⟩⟩
  · exact .inr h
mutual
theorem Rel.nx (x : Nx S H S' H') : ∀ (d : D) (v : V), Rel K S H d v → Rel K S' H' d v
  | .non, _, h => h
  | .bl _, _, h => h
  | .int _, _, h => h
  | .str _, _, h => h
  | .ty _, _, h => h
  | .obj _, _, h => h
  | .tup ds, v, h => by
    obtain ⟨a, vs, e, t, r⟩ := h
    exact ⟨a, vs, e, t.nx x, Rels.nx x ds vs r⟩
  | .lst ds, v, h => by
    obtain ⟨a, vs, e, n, t, r⟩ := h
    obtain ⟨p, q⟩ := x a _ n t
    exact ⟨a, vs, e, p, q, Rels.nx x ds vs r⟩
  | .kt ds, v, h => by
    obtain ⟨a, vs, e, t, r⟩ := h
    exact ⟨a, vs, e, t, Rels.nx x ds vs r⟩
  | .tf ds, v, h => by
    obtain ⟨a, vs, e, t, r⟩ := h
    exact ⟨a, vs, e, t.nx x, Rels.nx x ds vs r⟩
  | .src ds, v, h => by
    obtain ⟨a, vs, e, t, r⟩ := h
    exact ⟨a, vs, e, t.nx x, Rels.nx x ds vs r⟩
  | .dic t kvs, v, h => by
    obtain ⟨a, e, n, h⟩ := h
    refine ⟨a, e, ?_⟩
    rcases h with ⟨l, ht, hl, r⟩ | ⟨l, ht, hl, r⟩
    · obtain ⟨p, q⟩ := x a _ n hl
      exact ⟨p, .inl ⟨l, ht, q, RelK.nx x kvs l r⟩⟩
    · obtain ⟨p, q⟩ := x a _ n hl
      exact ⟨p, .inr ⟨l, ht, q, RelT.nx x kvs l r⟩⟩
  | .ins C fs, v, h => by
    obtain ⟨a, dx, l, e, n, hl, r⟩ := h
    obtain ⟨p, q⟩ := x a _ n hl
    exact ⟨a, dx, l, e, p, q, RelF.nx x fs l r⟩
  | .gh d u, v, h => ⟨h.1, Rel.nx x d u h.2⟩
  | .fd t kvs, v, h => by
    obtain ⟨a, e, n, h⟩ := h
    refine ⟨a, e, ?_⟩
    rcases h with ⟨o, l, ht, hl, r⟩ | ⟨o, l, ht, hl, r⟩
    · obtain ⟨p, q⟩ := x a _ n hl
      exact ⟨p, .inl ⟨o, l, ht, q, RelK.nx x kvs l r⟩⟩
    · obtain ⟨p, q⟩ := x a _ n hl
      exact ⟨p, .inr ⟨o, l, ht, q, RelT.nx x kvs l r⟩⟩
theorem Rels.nx (x : Nx S H S' H') : ∀ (ds : List D) (vs : List V), Rels K S H ds vs → Rels K S' H' ds vs
  | [], _, h => h
  | d :: ds, _, h => by
    obtain ⟨v, r, e, h1, h2⟩ := h
    exact ⟨v, r, e, Rel.nx x d v h1, Rels.nx x ds r h2⟩
theorem RelK.nx (x : Nx S H S' H') : ∀ (kvs : List (D × D)) (l : List (Key × V)), RelK K S H kvs l → RelK K S' H' kvs l
  | [], _, h => h
  | (k, d) :: kvs, _, h => by
    obtain ⟨q, v, r, e, hk, h1, h2⟩ := h
    exact ⟨q, v, r, e, hk, Rel.nx x d v h1, RelK.nx x kvs r h2⟩
theorem RelT.nx (x : Nx S H S' H') : ∀ (kvs : List (D × D)) (l : List (List Key × V)), RelT K S H kvs l → RelT K S' H' kvs l
  | [], _, h => h
  | (k, d) :: kvs, _, h => by
    obtain ⟨q, v, r, e, hk, h1, h2⟩ := h
    exact ⟨q, v, r, e, hk, Rel.nx x d v h1, RelT.nx x kvs r h2⟩
theorem RelF.nx (x : Nx S H S' H') : ∀ (fs : List (Str × D)) (l : List (Str × V)), RelF K S H fs l → RelF K S' H' fs l
  | [], _, h => h
  | (k, d) :: kvs, _, h => by
    obtain ⟨v, r, e, h1, h2⟩ := h
    exact ⟨v, r, e, Rel.nx x d v h1, RelF.nx x kvs r h2⟩
end
theorem ErrF.nx (x : Nx S H S' H') : ∀ {d : Option Addr} {fs : List (Str × D)}, ErrF K S H d fs → ErrF K S' H' d fs
  | none, _, h => h
  | some dx, fs, ⟨l, h1, h2, h3⟩ => let ⟨p, q⟩ := x dx _ h1 h2; ⟨l, p, q, RelF.nx x fs l h3⟩
theorem ObjAt.nx {a : Addr} (x : Nx S H S' H') (e : H' a = H a) : ∀ {o : DO}, ObjAt K S H a o → ObjAt K S' H' a o
  | .lst ds, h => by
    obtain ⟨vs, h1, h2⟩ := h
    exact ⟨vs, e.trans h1, Rels.nx x ds vs h2⟩
  | .dic t kvs, h => by
    rcases h with ⟨l, ht, h1, h2⟩ | ⟨l, ht, h1, h2⟩
    · exact .inl ⟨l, ht, e.trans h1, RelK.nx x kvs l h2⟩
    · exact .inr ⟨l, ht, e.trans h1, RelT.nx x kvs l h2⟩
  | .ins C fs, h => by
    obtain ⟨dx, l, h1, h2⟩ := h
    exact ⟨dx, l, e.trans h1, RelF.nx x fs l h2⟩
  | .err n fs, h => by
    obtain ⟨C, d, h0, h1, h2⟩ := h
    exact ⟨C, d, h0, e.trans h1, h2.nx x⟩
  | .tb q, h => by
    obtain ⟨ps, h1, h2, h3⟩ := h
    refine ⟨ps, e.trans h1, h2, fun pos cv hc => ?_⟩
    obtain ⟨c, e1, e2, e3⟩ := h3 pos cv hc
    exact ⟨c, e1, x c _ e2 e3⟩
theorem ObjAt.there {a : Addr} : ∀ {o : DO}, ObjAt K S H a o → ∃ u, H a = some u
  | .lst ds, ⟨_, h1, _⟩ => ⟨_, h1⟩
  | .dic t kvs, .inl ⟨_, _, h1, _⟩ => ⟨_, h1⟩
  | .dic t kvs, .inr ⟨_, _, h1, _⟩ => ⟨_, h1⟩
  | .ins C fs, ⟨_, _, h1, _⟩ => ⟨_, h1⟩
  | .err n fs, ⟨_, _, _, h1, _⟩ => ⟨_, h1⟩
  | .tb q, ⟨_, h1, _⟩ => ⟨_, h1⟩
theorem SRel.free (x : SRel K S H) {a : Addr} (h : H a = none) : S a = none := by
  cases q : S a with
  | none => rfl
  | some o =>
    obtain ⟨u, e⟩ := (x a o q).there
    rw [h] at e
    cases e
/-- a new thing that is tracked and not changed -/
theorem nx_new {p : Addr} {o : HO} (h : H p = none) : Nx S H S (upd H p o) := fun a u h1 h2 => ⟨h1, by rw [upd_ne (ne_of_none h2 h)]; exact h2⟩
theorem SRel.new (x : SRel K S H) {p : Addr} {o : HO} (h : H p = none) : SRel K S (upd H p o) := fun a u q => by
  have hu := x a u q
  obtain ⟨w, e⟩ := hu.there
  exact hu.nx (nx_new h) (by rw [upd_ne (ne_of_none e h)])
/-- a new object -/
theorem nx_obj {p : Addr} {o : DO} {u : HO} (h : H p = none) (hs : S p = none) : Nx S H (S.set p o) (upd H p u) := fun a w h1 h2 => by
  have ne := ne_of_none h2 h
  exact ⟨by rw [set_ne ne]; exact h1, by rw [upd_ne ne]; exact h2⟩
/-- an object is changed -/
theorem nx_put {p : Addr} {o o' : DO} {u : HO} (hs : S p = some o) : Nx S H (S.set p o') (upd H p u) := fun a w h1 h2 => by
  have ne : a ≠ p := (so_ne hs h1).symm
  exact ⟨by rw [set_ne ne]; exact h1, by rw [upd_ne ne]; exact h2⟩
theorem srel_put (x : SRel K S H) {p : Addr} {o : DO} {u : HO} (n : Nx S H (S.set p o) (upd H p u)) (h : ObjAt K (S.set p o) (upd H p u) p o) : SRel K (S.set p o) (upd H p u) := fun a w q => by
  by_cases e : a = p
  · subst e
    rw [set_same] at q
    cases q
    exact h
  · rw [set_ne e] at q
    exact (x a w q).nx n (upd_ne e)
theorem Rels.length : ∀ {ds : List D} {vs : List V}, Rels K S H ds vs → ds.length = vs.length
  | [], _, h => by
    have h' : _ = [] := h
    rw [h']
    rfl
  | d :: ds, _, h => by
    obtain ⟨v, r, e, _, h2⟩ := h
    rw [e, List.length_cons, List.length_cons, h2.length]
theorem Rels.app : ∀ {ds es : List D} {vs us : List V}, Rels K S H ds vs → Rels K S H es us → Rels K S H (ds ++ es) (vs ++ us)
  | [], _, _, _, h, h' => by
    have e : _ = [] := h
    subst e
    exact h'
  | d :: ds, es, _, us, h, h' => by
    obtain ⟨v, r, e, h1, h2⟩ := h
    subst e
    exact ⟨v, r ++ us, rfl, h1, h2.app h'⟩
theorem Rels.one {d : D} {v : V} (h : Rel K S H d v) : Rels K S H [d] [v] := ⟨v, [], rfl, h, rfl⟩
theorem Rels.get : ∀ {ds : List D} {vs : List V} {i : Nat} {d : D}, Rels K S H ds vs → ds[i]? = some d → ∃ v, vs[i]? = some v ∧ Rel K S H d v
  | [], _, _, _, _, e => by simp at e
  | d' :: ds, _, 0, d, h, e => by
    obtain ⟨v, r, rfl, h1, h2⟩ := h
    have e' : d' = d := Option.some.inj e
    subst e'
    exact ⟨v, rfl, h1⟩
  | d' :: ds, _, i + 1, d, h, e => by
    obtain ⟨v, r, rfl, h1, h2⟩ := h
    exact h2.get (i := i) e
theorem Rels.take : ∀ {ds : List D} {vs : List V} (n : Nat), Rels K S H ds vs → Rels K S H (ds.take n) (vs.take n)
  | _, _, 0, _ => rfl
  | [], _, n + 1, h => by
    have h' : _ = [] := h
    rw [h']
    exact rfl
  | d :: ds, _, n + 1, h => by
    obtain ⟨v, r, rfl, h1, h2⟩ := h
    exact ⟨v, r.take n, rfl, h1, h2.take n⟩
theorem Rels.drop : ∀ {ds : List D} {vs : List V} (n : Nat), Rels K S H ds vs → Rels K S H (ds.drop n) (vs.drop n)
  | _, _, 0, h => h
  | [], _, n + 1, h => by
    have h' : _ = [] := h
    rw [h']
    exact rfl
  | d :: ds, _, n + 1, h => by
    obtain ⟨v, r, rfl, h1, h2⟩ := h
    exact h2.drop n
theorem Rels.two {a b : D} {vs : List V} (h : Rels K S H [a, b] vs) : ∃ v w, vs = [v, w] ∧ Rel K S H a v ∧ Rel K S H b w := by
  obtain ⟨v, r, rfl, h1, w, r', rfl, h2, h3⟩ := h
  have e : _ = [] := h3
  subst e
  exact ⟨v, w, rfl, h1, h2⟩
theorem RelF.look : ∀ {fs : List (Str × D)} {l : List (Str × V)} {x : Str} {d : D}, RelF K S H fs l → fs.lookup x = some d → ∃ v, l.lookup x = some v ∧ Rel K S H d v
  | [], _, _, _, _, e => by cases e
  | (y, d') :: fs, _, x, d, h, e => by
    obtain ⟨v, r, rfl, h1, h2⟩ := h
    rw [List.lookup_cons] at e
    rw [List.lookup_cons]
    cases q : x == y with
    | true =>
      rw [q] at e
      cases e
      exact ⟨v, rfl, h1⟩
    | false =>
      rw [q] at e
      exact h2.look e
def putD (f : Str) (v : D) : List (Str × D) → List (Str × D)
  | [] => [(f, v)]
  | (g, u) :: r => if g = f then (g, v) :: r else (g, u) :: putD f v r
end

/-! ### the frame's slots -/
abbrev SD := List (Option D)
def RelS (K : PySem.W.Frag) (S : SO) (H : Hp) (sd : SD) (σ : St) : Prop := sd.length = σ.length ∧ ∀ (i : Nat) (d : D), sd[i]? = some (some d) → ∃ v, σ[i]? = some (some v) ∧ Rel K S H d v
structure Sta (K : PySem.W.Frag) (sd : SD) (S : SO) (σ : St) (H : Hp) : Prop where
  s : SRel K S H
  r : RelS K S H sd σ
theorem RelS.nx {K : PySem.W.Frag} {S S' : SO} {H H' : Hp} {sd : SD} {σ : St} (x : Nx S H S' H') (h : RelS K S H sd σ) : RelS K S' H' sd σ :=
  ⟨h.1, fun i d e => let ⟨v, e', r⟩ := h.2 i d e; ⟨v, e', Rel.nx x d v r⟩⟩
theorem Sta.nx {K : PySem.W.Frag} {S S' : SO} {H H' : Hp} {sd : SD} {σ : St} (h : Sta K sd S σ H) (x : Nx S H S' H') (s : SRel K S' H') : Sta K sd S' σ H' := ⟨s, h.r.nx x⟩
theorem Sta.set {K : PySem.W.Frag} {S : SO} {H : Hp} {sd : SD} {σ : St} (h : Sta K sd S σ H) (i : Nat) {d : D} {v : V} (r : Rel K S H d v) : Sta K (sd.set i (some d)) S (σ.set i (some v)) H := by
  refine ⟨h.s, by rw [List.length_set, List.length_set]; exact h.r.1, fun j e q => ?_⟩
  by_cases hj : i = j
  · subst hj
    have hl : i < sd.length := by
      have := (List.getElem?_eq_some_iff.mp q).1
      rwa [List.length_set] at this
    rw [List.getElem?_set_self hl] at q
    cases q
    exact ⟨v, List.getElem?_set_self (by rw [← h.r.1]; exact hl), r⟩
  · rw [List.getElem?_set_ne hj] at q
    obtain ⟨v', e', r'⟩ := h.r.2 j e q
    exact ⟨v', by rw [List.getElem?_set_ne hj]; exact e', r'⟩
end L2.DL

/-! DL2: the judgements over data, lifted from HandS, and the rules of expressions, tests, statements, targets -/
namespace L2.DL
open PySem PySem.Spec PyProof.Rows

abbrev KD := D → SO → Prop
abbrev WE := SD → SO → KD → Prop
abbrev WT := SD → SO → (Bool → SO → Prop) → Prop
abbrev WA := SD → SO → (List D → SO → Prop) → Prop
structure EndsD where
  nx : SD → SO → Prop
  rt : KD
  bk : SD → SO → Prop := fun _ _ => False
  ct : SD → SO → Prop := fun _ _ => False
abbrev WS := EndsD → SD → SO → Prop
abbrev WG := D → SD → SO → (SD → SO → Prop) → Prop
abbrev WGs := List D → SD → SO → (SD → SO → Prop) → Prop

/-- what is wanted of the data answers what is wanted of the values -/
def Ans (K : PySem.W.Frag) (S : SO) (H : Hp) (Q0 : KD) (Q : VK) : Prop := ∀ d S' v H', Q0 d S' → Nx S H S' H' → SRel K S' H' → Rel K S' H' d v → Q v H'
def AnsT (K : PySem.W.Frag) (S : SO) (H : Hp) (Q0 : Bool → SO → Prop) (Q : Bool → Hp → Prop) : Prop := ∀ b S' H', Q0 b S' → Nx S H S' H' → SRel K S' H' → Q b H'
def AnsA (K : PySem.W.Frag) (S : SO) (H : Hp) (Q0 : List D → SO → Prop) (Q : List V → Hp → Prop) : Prop := ∀ ds S' vs H', Q0 ds S' → Nx S H S' H' → SRel K S' H' → Rels K S' H' ds vs → Q vs H'
def AnsS (K : PySem.W.Frag) (S : SO) (H : Hp) (Q0 : SD → SO → Prop) (Q : St → Hp → Prop) : Prop := ∀ sd S' σ H', Q0 sd S' → Nx S H S' H' → Sta K sd S' σ H' → Q σ H'
structure AnsE (K : PySem.W.Frag) (S : SO) (H : Hp) (E0 : EndsD) (E : Ends) : Prop where
  nx : AnsS K S H E0.nx E.nx
  rt : Ans K S H E0.rt E.rt
  bk : AnsS K S H E0.bk E.bk
  ct : AnsS K S H E0.ct E.ct
section
variable {K : PySem.W.Frag} {S S' : SO} {H H' : Hp}
theorem Ans.nx {Q0 : KD} {Q : VK} (a : Ans K S H Q0 Q) (x : Nx S H S' H') : Ans K S' H' Q0 Q := fun d S2 v H2 q y s r => a d S2 v H2 q (x.trans y) s r
theorem AnsT.nx {Q0 : Bool → SO → Prop} {Q : Bool → Hp → Prop} (a : AnsT K S H Q0 Q) (x : Nx S H S' H') : AnsT K S' H' Q0 Q := fun d S2 H2 q y s => a d S2 H2 q (x.trans y) s
theorem AnsA.nx {Q0 : List D → SO → Prop} {Q : List V → Hp → Prop} (a : AnsA K S H Q0 Q) (x : Nx S H S' H') : AnsA K S' H' Q0 Q := fun d S2 v H2 q y s r => a d S2 v H2 q (x.trans y) s r
theorem AnsS.nx {Q0 : SD → SO → Prop} {Q : St → Hp → Prop} (a : AnsS K S H Q0 Q) (x : Nx S H S' H') : AnsS K S' H' Q0 Q := fun d S2 v H2 q y s => a d S2 v H2 q (x.trans y) s
theorem AnsE.go {E0 : EndsD} {E : Ends} (a : AnsE K S H E0 E) (x : Nx S H S' H') : AnsE K S' H' E0 E := ⟨a.nx.nx x, a.rt.nx x, a.bk.nx x, a.ct.nx x⟩
end
def lift (K : PySem.W.Frag) (w : WE) : TE := fun σ H Q => ∃ sd S Q0, Sta K sd S σ H ∧ w sd S Q0 ∧ Ans K S H Q0 Q
def liftT (K : PySem.W.Frag) (w : WT) : TT := fun σ H Q => ∃ sd S Q0, Sta K sd S σ H ∧ w sd S Q0 ∧ AnsT K S H Q0 Q
def liftA (K : PySem.W.Frag) (w : WA) : TA := fun σ H Q => ∃ sd S Q0, Sta K sd S σ H ∧ w sd S Q0 ∧ AnsA K S H Q0 Q
def liftS (K : PySem.W.Frag) (w : WS) : TS := fun E σ H => ∃ sd S E0, Sta K sd S σ H ∧ w E0 sd S ∧ AnsE K S H E0 E
def liftG (K : PySem.W.Frag) (w : WG) : TG := fun v σ H Q => ∃ d sd S Q0, Sta K sd S σ H ∧ Rel K S H d v ∧ w d sd S Q0 ∧ AnsS K S H Q0 Q
def liftGs (K : PySem.W.Frag) (w : WGs) : TGs := fun v σ H Q => ∃ d sd S Q0, Sta K sd S σ H ∧ Rels K S H d v ∧ w d sd S Q0 ∧ AnsS K S H Q0 Q
abbrev DE (X : Cx) (e : Expr) (w : WE) : Prop := PE X e (lift X.K w)
abbrev DT (X : Cx) (e : Expr) (w : WT) : Prop := PT X e (liftT X.K w)
abbrev DW (X : Cx) (e : Expr) (w : WT) : Prop := PW X e (liftT X.K w)
abbrev DA (X : Cx) (es : List Expr) (w : WA) : Prop := PA X es (liftA X.K w)
abbrev DS (X : Cx) (st : Stmt) (w : WS) : Prop := PS X st (liftS X.K w)
abbrev DSs (X : Cx) (st : List Stmt) (w : WS) : Prop := PSs X st (liftS X.K w)
abbrev DG (X : Cx) (tg : Expr) (w : WG) : Prop := PG X tg (liftG X.K w)
abbrev DGs (X : Cx) (tg : List Expr) (w : WGs) : Prop := PGs X tg (liftGs X.K w)

section
variable {X : Cx}
theorem pe_imp {e : Expr} {t t' : TE} (h : PE X e t) (i : ∀ σ H Q, t' σ H Q → t σ H Q) : PE X e t' := ⟨fun pins s σ H Q I q => h.run pins s σ H Q I (i σ H Q q)⟩
theorem pt_imp {e : Expr} {t t' : TT} (h : PT X e t) (i : ∀ σ H Q, t' σ H Q → t σ H Q) : PT X e t' := ⟨fun pins s σ H Q I q => h.run pins s σ H Q I (i σ H Q q)⟩
theorem pw_imp {e : Expr} {t t' : TT} (h : PW X e t) (i : ∀ σ H Q, t' σ H Q → t σ H Q) : PW X e t' := ⟨fun wh pins s σ H Q I q => h.run wh pins s σ H Q I (i σ H Q q)⟩
theorem pa_imp {e : List Expr} {t t' : TA} (h : PA X e t) (i : ∀ σ H Q, t' σ H Q → t σ H Q) : PA X e t' := ⟨fun p pins s σ H Q I q => h.run p pins s σ H Q I (i σ H Q q)⟩
theorem ps_imp {e : Stmt} {t t' : TS} (h : PS X e t) (i : ∀ E σ H, t' E σ H → t E σ H) : PS X e t' := ⟨fun pins s σ H E I q => h.run pins s σ H E I (i E σ H q)⟩
theorem pss_imp {e : List Stmt} {t t' : TS} (h : PSs X e t) (i : ∀ E σ H, t' E σ H → t E σ H) : PSs X e t' := ⟨fun pins s σ H E I q => h.run pins s σ H E I (i E σ H q)⟩
theorem pg_imp {e : Expr} {t t' : TG} (h : PG X e t) (i : ∀ v σ H Q, t' v σ H Q → t v σ H Q) : PG X e t' := ⟨fun pins s σ H v u Q I r q => h.run pins s σ H v u Q I r (i v σ H Q q)⟩
theorem pgs_imp {e : List Expr} {t t' : TGs} (h : PGs X e t) (i : ∀ v σ H Q, t' v σ H Q → t v σ H Q) : PGs X e t' := ⟨fun pins s σ H v u Q I r q => h.run pins s σ H v u Q I r (i v σ H Q q)⟩

/-! ### names, constants -/
def wV (i : Nat) : WE := fun sd S Q => match sd[i]? with
  | some (some d) => Q d S
  | _ => False
def wC (d : D) : WE := fun _ S Q => Q d S
theorem de_v (i : Nat) {x : Str} {pos : Pos} (hN : X.N[i]? = some x := by rfl) (hv : Vis X.env.scope x := by first | exact Or.inl rfl | exact Or.inr (Or.inl rfl) | exact Or.inr (Or.inr rfl)) (hd : (x == ("__debug__" : Str)) = false := by decide)
    (hcd : (x == ("__classdict__" : Str)) = false := by decide) : DE X (.Name x pos) (wV i) := by
  refine pe_imp (pe_var hN hv hd hcd) fun σ H Q ⟨sd, S, Q0, st, q, a⟩ => ?_
  unfold wV at q
  split at q
  · rename_i d e
    obtain ⟨v, e', r⟩ := st.r.2 i d e
    exact ⟨v, e', a _ _ _ _ q (Nx.refl _ _) st.s r⟩
  · exact q.elim
theorem lift_c {d : D} {v : V} (hr : ∀ K S H, Rel K S H d v) : ∀ σ H Q, lift X.K (wC d) σ H Q → tC v σ H Q := fun σ H Q ⟨sd, S, Q0, st, q, a⟩ => a _ _ _ _ q (Nx.refl _ _) st.s (hr _ _ _)
theorem de_int {i j pos} : DE X (.Constant (.int i) j pos) (wC (.int i)) := pe_imp pe_int (lift_c fun _ _ _ => rfl)
theorem de_bl {i j pos} : DE X (.Constant (.bool i) j pos) (wC (.bl i)) := pe_imp pe_bl (lift_c fun _ _ _ => rfl)
theorem de_non {j pos} : DE X (.Constant .none j pos) (wC .non) := pe_imp pe_non (lift_c fun _ _ _ => rfl)
theorem de_str {i j pos} : DE X (.Constant (.str i) j pos) (wC (.str i)) := pe_imp pe_str (lift_c fun _ _ _ => rfl)
theorem de_glob {x : Str} {d : D} {v : V} {u : Value} {pos : Pos} (hg : Gl X x) (hm : X.mg x = some u) (r : RelV v u) (hr : ∀ K S H, Rel K S H d v) (hd : (x == ("__debug__" : Str)) = false := by decide) : DE X (.Name x pos) (wC d) := pe_imp (pe_glob hg hm r hd) (lift_c hr)
theorem de_bltn {x : Str} {d : D} {v : V} {u : Value} {pos : Pos} (hg : Gl X x) (hm : X.mg x = none) (hv : bootBuiltins x = some u) (r : RelV v u) (hr : ∀ K S H, Rel K S H d v) (hn : x ≠ "__name__" := by decide) (hd : (x == ("__debug__" : Str)) = false := by decide) :
    DE X (.Name x pos) (wC d) := pe_imp (pe_bltn hg hm hv r hn hd) (lift_c hr)

/-! ### operators by values -/
abbrev WO := D → D → SO → KD → Prop
abbrev WU := D → SO → KD → Prop
abbrev WL := List D → SO → KD → Prop
def liftO (K : PySem.W.Frag) (w : WO) : R2 := fun v u H Q => ∃ x y S Q0, SRel K S H ∧ Rel K S H x v ∧ Rel K S H y u ∧ w x y S Q0 ∧ Ans K S H Q0 Q
def liftU (K : PySem.W.Frag) (w : WU) : V → Hp → VK → Prop := fun v H Q => ∃ x S Q0, SRel K S H ∧ Rel K S H x v ∧ w x S Q0 ∧ Ans K S H Q0 Q
def liftL (K : PySem.W.Frag) (w : WL) : List V → Hp → VK → Prop := fun v H Q => ∃ x S Q0, SRel K S H ∧ Rels K S H x v ∧ w x S Q0 ∧ Ans K S H Q0 Q
def liftM (K : PySem.W.Frag) (w : D → List D → SO → KD → Prop) : V → List V → Hp → VK → Prop := fun u v H Q => ∃ d x S Q0, SRel K S H ∧ Rel K S H d u ∧ Rels K S H x v ∧ w d x S Q0 ∧ Ans K S H Q0 Q
abbrev DO2 (X : Cx) (f : Value → Value → Sem Value) (w : WO) : Prop := OpR X f (liftO X.K w)
abbrev DO1 (X : Cx) (f : Value → Sem Value) (w : WU) : Prop := UnR X f (liftU X.K w)
abbrev DC (X : Cx) (f : Value) (w : WL) : Prop := CallR X f (liftL X.K w)
variable {a b c : Expr} {wa wb wc : WE} {pos : Pos}
def wO (w : WO) (wa wb : WE) : WE := fun sd S Q => wa sd S fun x S1 => wb sd S1 fun y S2 => w x y S2 Q
def wU (w : WU) (wa : WE) : WE := fun sd S Q => wa sd S fun x S1 => w x S1 Q
theorem two {w : D → D → SO → KD → Prop} {σ : St} {H : Hp} {Q : VK} (h : lift X.K (wO w wa wb) σ H Q) {R : V → V → Hp → VK → Prop}
    (hr : ∀ v u H2 x y S2 Q0, SRel X.K S2 H2 → Rel X.K S2 H2 x v → Rel X.K S2 H2 y u → w x y S2 Q0 → Ans X.K S2 H2 Q0 Q → R v u H2 Q) : lift X.K wa σ H fun v H1 => lift X.K wb σ H1 fun u H2 => R v u H2 Q := by
  obtain ⟨sd, S, Q0, st, q, an⟩ := h
  exact ⟨sd, S, _, st, q, fun x S1 v H1 q1 n1 s1 r1 => ⟨sd, S1, _, st.nx n1 s1, q1, fun y S2 u H2 q2 n2 s2 r2 => hr v u H2 x y S2 Q0 s2 (Rel.nx n2 _ _ r1) r2 q2 (an.nx (n1.trans n2))⟩⟩
theorem de_o {op : Operator} {w : WO} (ho : DO2 X (binaryOp op) w) (ha : DE X a wa) (hb : DE X b wb) : DE X (.BinOp a op b pos) (wO w wa wb) :=
  pe_imp (pe_op ho ha hb) fun σ H Q h => two h fun v u H2 x y S2 Q0 s2 r1 r2 q2 an => ⟨x, y, S2, Q0, s2, r1, r2, q2, an⟩
theorem de_c {op : CmpOp} {w : WO} (ho : DO2 X (compareOp op) w) (ha : DE X a wa) (hb : DE X b wb) (hm : behindInMarks op b = false := by first | exact nomark _ | rfl) : DE X (.Compare a [op] [b] pos) (wO w wa wb) :=
  pe_imp (pe_cmpR ho ha hb hm) fun σ H Q h => two h fun v u H2 x y S2 Q0 s2 r1 r2 q2 an => ⟨x, y, S2, Q0, s2, r1, r2, q2, an⟩
theorem de_u {op : UnaryOp} {w : WU} (ho : DO1 X (unaryOp op) w) (ha : DE X a wa) : DE X (.UnaryOp op a pos) (wU w wa) :=
  pe_imp (pe_un ho ha) fun σ H Q ⟨sd, S, Q0, st, q, an⟩ => ⟨sd, S, _, st, q, fun x S1 v H1 q1 n1 s1 r1 => ⟨x, S1, Q0, s1, r1, q1, an.nx n1⟩⟩
/-- the answer is a truth -/
def isB0 (Q : Bool → SO → Prop) : KD := fun d S => match d with
  | .bl b => Q b S
  | _ => False
structure IsB (Q : Bool → SO → Prop) (d : D) (S : SO) : Prop where
  ex : isB0 Q d S
def isB (Q : Bool → SO → Prop) : KD := fun d S => IsB Q d S
def wB (wa : WE) : WT := fun sd S Q => wa sd S (isB Q)
theorem isB_ans {K : PySem.W.Frag} {S : SO} {H : Hp} {Q0 : Bool → SO → Prop} {Q : Bool → Hp → Prop} (an : AnsT K S H Q0 Q) : Ans K S H (isB Q0) fun x H' => ∃ k, x = .bl k ∧ Q k H' := fun d S' v H' q n s r => by
  have q := q.ex
  cases d with
  | bl k =>
    have e : v = .bl k := r
    exact ⟨k, e, an k S' H' q n s⟩
  | _ => exact q.elim
/-- a comparison as a test -/
theorem dt_c {op : CmpOp} {w : WO} (ho : DO2 X (compareOp op) w) (ha : DE X a wa) (hb : DE X b wb) (hm : behindInMarks op b = false := by first | exact nomark _ | rfl) : DT X (.Compare a [op] [b] pos) (wB (wO w wa wb)) :=
  pt_imp (pt_cmpR ho ha hb hm) fun σ H Q ⟨sd, S, Q0, st, q, an⟩ => by
    refine two (w := w) (wa := wa) (wb := wb) (R := liftO X.K w) ⟨sd, S, _, st, q, isB_ans an⟩ fun v u H2 x y S2 Q0' s2 r1 r2 q2 an => ?_
    exact ⟨x, y, S2, Q0', s2, r1, r2, q2, an⟩
/-- an expression whose value is a truth, as a test -/
theorem dt_b {e : Expr} {w : WE} (h : DE X e w) (he : ∀ whole, isTrue e X.env whole = (do let v ← whole; standAt e.pos; holding [v] (truthy v)) := by intro _; rfl) : DT X e (wB w) :=
  pt_imp (pt_val h he) fun σ H Q ⟨sd, S, Q0, st, q, an⟩ => ⟨sd, S, _, st, q, isB_ans an⟩
/-- a < b < c -/
def wCh (w w' : WO) (wa wb wc : WE) : WE := fun sd S Q => wa sd S fun x S1 => wb sd S1 fun y S2 => w x y S2 fun z S3 => isB (fun k S3 => if k = true then wc sd S3 fun u S4 => w' y u S4 Q else Q (.bl false) S3) z S3
theorem de_ch {op op' : CmpOp} {w w' : WO} (ho : DO2 X (compareOp op) w) (ho' : DO2 X (compareOp op') w') (ha : DE X a wa) (hb : DE X b wb) (hc : DE X c wc) (hm : lastMarks [op, op'] [b, c] = false := by with_unfolding_all rfl) :
    DE X (.Compare a [op, op'] [b, c] pos) (wCh w w' wa wb wc) := by
  refine pe_imp (pe_chain ho ho' ha hb hc hm) fun σ H Q ⟨sd, S, Q0, st, q, an⟩ => ?_
  refine ⟨sd, S, _, st, q, fun x S1 v H1 q1 n1 s1 r1 => ⟨sd, S1, _, st.nx n1 s1, q1, fun y S2 u H2 q2 n2 s2 r2 => ⟨x, y, S2, _, s2, Rel.nx n2 _ _ r1, r2, q2, fun z S3 zv H3 q3 n3 s3 r3 => ?_⟩⟩⟩
  have q3 := q3.ex
  cases z with
  | bl k =>
    have e : zv = .bl k := r3
    refine ⟨k, e, ?_⟩
    have n13 := (n1.trans n2).trans n3
    have q3' : if k = true then wc sd S3 fun u S4 => w' y u S4 Q0 else Q0 (.bl false) S3 := q3
    cases k with
    | true => exact ⟨sd, S3, _, st.nx n13 s3, q3', fun t S4 tv H4 q4 n4 s4 r4 => ⟨y, t, S4, Q0, s4, Rel.nx n4 _ _ (Rel.nx n3 _ _ r2), r4, q4, an.nx (n13.trans n4)⟩⟩
    | false => exact an _ _ _ _ q3' n13 s3 rfl
  | _ => exact False.elim q3
/-! ### and, or, not, if -/
variable {ta tb tc : WT} {rest : List Expr}
def wAnd (t u : WT) : WT := fun sd S Q => t sd S fun k S1 => if k = true then u sd S1 Q else Q false S1
def wOr (t u : WT) : WT := fun sd S Q => t sd S fun k S1 => if k = true then Q true S1 else u sd S1 Q
def wNot (t : WT) : WT := fun sd S Q => t sd S fun k S1 => Q (!k) S1
theorem dw_and1 (ha : DT X a ta) : DW X (.BoolOp .And [a] pos) ta := pw_and1 ha
theorem dw_or1 (ha : DT X a ta) : DW X (.BoolOp .Or [a] pos) ta := pw_or1 ha
theorem dw_and (ha : DT X a ta) (hb : DW X (.BoolOp .And (b :: rest) pos) tb) : DW X (.BoolOp .And (a :: b :: rest) pos) (wAnd ta tb) := by
  refine pw_imp (pw_and ha hb) fun σ H Q ⟨sd, S, Q0, st, q, an⟩ => ⟨sd, S, _, st, q, fun k S1 H1 q1 n1 s1 => ?_⟩
  cases k with
  | true => exact ⟨sd, S1, Q0, st.nx n1 s1, q1, an.nx n1⟩
  | false => exact an _ _ _ q1 n1 s1
theorem dw_or (ha : DT X a ta) (hb : DW X (.BoolOp .Or (b :: rest) pos) tb) : DW X (.BoolOp .Or (a :: b :: rest) pos) (wOr ta tb) := by
  refine pw_imp (pw_or ha hb) fun σ H Q ⟨sd, S, Q0, st, q, an⟩ => ⟨sd, S, _, st, q, fun k S1 H1 q1 n1 s1 => ?_⟩
  cases k with
  | true => exact an _ _ _ q1 n1 s1
  | false => exact ⟨sd, S1, Q0, st.nx n1 s1, q1, an.nx n1⟩
theorem dw_pt (h : DW X a ta) : DT X a ta := PW.pt h
theorem dt_not (ha : DT X a ta) : DT X (.UnaryOp .Not a pos) (wNot ta) :=
  pt_imp (pt_not ha) fun σ H Q ⟨sd, S, Q0, st, q, an⟩ => ⟨sd, S, _, st, q, fun k S1 H1 q1 n1 s1 => an _ _ _ q1 n1 s1⟩
/-- as values, all but the last truths -/
def wAndV (wa wb : WE) : WE := fun sd S Q => wa sd S (isB fun k S1 => if k = true then wb sd S1 Q else Q (.bl false) S1)
def wOrV (wa wb : WE) : WE := fun sd S Q => wa sd S (isB fun k S1 => if k = true then Q (.bl true) S1 else wb sd S1 Q)
def wNotV (wa : WE) : WE := fun sd S Q => wa sd S (isB fun k S1 => Q (.bl (!k)) S1)
theorem de_one {op} {w : WE} (h : DE X a w) : DE X (.BoolOp op [a] pos) w := pe_one h
theorem de_and (ha : DE X a wa) (hb : DE X (.BoolOp .And (b :: rest) pos) wb) : DE X (.BoolOp .And (a :: b :: rest) pos) (wAndV wa wb) := by
  refine pe_imp (pe_and ha hb) fun σ H Q ⟨sd, S, Q0, st, q, an⟩ => ⟨sd, S, _, st, q, fun d S1 v H1 q1 n1 s1 r1 => ?_⟩
  have q1 := q1.ex
  cases d with
  | bl k =>
    have e : v = .bl k := r1
    refine ⟨k, e, ?_⟩
    cases k with
    | true => exact ⟨sd, S1, Q0, st.nx n1 s1, q1, an.nx n1⟩
    | false => exact an _ _ _ _ q1 n1 s1 rfl
  | _ => exact False.elim q1
theorem de_not (ha : DE X a wa) : DE X (.UnaryOp .Not a pos) (wNotV wa) := by
  refine pe_imp (pe_not ha) fun σ H Q ⟨sd, S, Q0, st, q, an⟩ => ⟨sd, S, _, st, q, fun d S1 v H1 q1 n1 s1 r1 => ?_⟩
  have q1 := q1.ex
  cases d with
  | bl k =>
    have e : v = .bl k := r1
    exact ⟨k, e, an _ _ _ _ q1 n1 s1 rfl⟩
  | _ => exact False.elim q1
def wIf (t : WT) (wa wb : WE) : WE := fun sd S Q => t sd S fun k S1 => if k = true then wa sd S1 Q else wb sd S1 Q
theorem de_if {c : Expr} (hc : DT X c tc) (ha : DE X a wa) (hb : DE X b wb) : DE X (.IfExp c a b pos) (wIf tc wa wb) := by
  refine pe_imp (pe_ifExp hc ha hb) fun σ H Q ⟨sd, S, Q0, st, q, an⟩ => ⟨sd, S, _, st, q, fun k S1 H1 q1 n1 s1 => ?_⟩
  cases k with
  | true => exact ⟨sd, S1, Q0, st.nx n1 s1, q1, an.nx n1⟩
  | false => exact ⟨sd, S1, Q0, st.nx n1 s1, q1, an.nx n1⟩

/-! ### arguments, displays, calls of built-ins by their names -/
def wNil : WA := fun _ S Q => Q [] S
def wCons (w : WE) (r : WA) : WA := fun sd S Q => w sd S fun x S1 => r sd S1 fun xs S2 => Q (x :: xs) S2
theorem da_nil : DA X [] wNil := pa_imp pa_nil fun σ H Q ⟨sd, S, Q0, st, q, an⟩ => an _ _ _ _ q (Nx.refl _ _) st.s rfl
theorem da_cons {e : Expr} {es : List Expr} {w : WE} {r : WA} (he : DE X e w) (hr : DA X es r) (hs : starEach (e :: es) X.env = (false, eval e X.env) :: starEach es X.env := by rfl) : DA X (e :: es) (wCons w r) :=
  pa_imp (pa_cons he hr hs) fun σ H Q ⟨sd, S, Q0, st, q, an⟩ => ⟨sd, S, _, st, q, fun x S1 v H1 q1 n1 s1 r1 => ⟨sd, S1, _, st.nx n1 s1, q1, fun xs S2 vs H2 q2 n2 s2 r2 => an _ _ _ _ q2 (n1.trans n2) s2 ⟨v, vs, rfl, Rel.nx n2 _ _ r1, r2⟩⟩⟩
def wTup (t : WA) : WE := fun sd S Q => t sd S fun xs S1 => xs.length ≤ 1000000 ∧ Q (.tup xs) S1
/-- a new list that nobody changes; one that may change -/
def wLst (t : WA) : WE := fun sd S Q => t sd S fun xs S1 => xs.length ≤ 1000000 ∧ Q (.lst xs) S1
def wNew (t : WA) : WE := fun sd S Q => t sd S fun xs S1 => xs.length ≤ 1000000 ∧ ∀ p, S1 p = none → Q (.obj p) (S1.set p (.lst xs))
theorem le_line {n : Nat} (h : n ≤ 1000000) : n ≤ sizeLine := Nat.le_trans h (by rw [sizeLine_eq]; decide)
variable {es : List Expr} {t : WA}
theorem de_tup {x1} (h : DA X es t) : DE X (.Tuple es x1 pos) (wTup t) :=
  pe_imp (pe_tup h) fun σ H Q ⟨sd, S, Q0, st, q, an⟩ => ⟨sd, S, _, st, q, fun xs S1 vs H1 q1 n1 s1 r1 => ⟨by rw [← r1.length]; exact le_line q1.1, fun p hp =>
    an _ _ _ _ q1.2 (n1.trans (nx_new hp)) (s1.new hp) ⟨p, vs, rfl, ⟨s1.free hp, upd_same⟩, r1.nx (nx_new hp)⟩⟩⟩
theorem de_lst (h : DA X es t) : DE X (.List es pos) (wLst t) :=
  pe_imp (pe_lst h) fun σ H Q ⟨sd, S, Q0, st, q, an⟩ => ⟨sd, S, _, st, q, fun xs S1 vs H1 q1 n1 s1 r1 => ⟨by rw [← r1.length]; exact le_line q1.1, fun p hp =>
    an _ _ _ _ q1.2 (n1.trans (nx_new hp)) (s1.new hp) ⟨p, vs, rfl, s1.free hp, upd_same, r1.nx (nx_new hp)⟩⟩⟩
theorem de_new (h : DA X es t) : DE X (.List es pos) (wNew t) :=
  pe_imp (pe_lst h) fun σ H Q ⟨sd, S, Q0, st, q, an⟩ => ⟨sd, S, _, st, q, fun xs S1 vs H1 q1 n1 s1 r1 => ⟨by rw [← r1.length]; exact le_line q1.1, fun p hp => by
    have n2 : Nx S1 H1 (S1.set p (.lst xs)) (upd H1 p (.lst vs)) := nx_obj hp (s1.free hp)
    exact an _ _ _ _ (q1.2 p (s1.free hp)) (n1.trans n2) (srel_put s1 n2 ⟨vs, upd_same, r1.nx n2⟩) rfl⟩⟩
def wCall (w : WL) (t : WA) : WE := fun sd S Q => t sd S fun xs S1 => w xs S1 Q
theorem call_lift {w : WL} {σ : St} {H : Hp} {Q : VK} (h : lift X.K (wCall w t) σ H Q) : tCB (liftL X.K w) (liftA X.K t) σ H Q := by
  obtain ⟨sd, S, Q0, st, q, an⟩ := h
  exact ⟨sd, S, _, st, q, fun xs S1 vs H1 q1 n1 s1 r1 => ⟨xs, S1, Q0, s1, r1, q1, an.nx n1⟩⟩
theorem de_callB {x : Str} {p pos : Pos} {e : Expr} {es : List Expr} {t : WA} {id : String} {w : WL} (hc : DC X (.builtin id) w) (hg : Gl X x) (hm : X.mg x = none) (hv : bootBuiltins x = some (.builtin id)) (ha : DA X (e :: es) t) (hn : x ≠ "__name__" := by decide)
    (hdb : (x == ("__debug__" : Str)) = false := by decide) (he : starEach (e :: es) X.env = (false, eval e X.env) :: starEach es X.env := by rfl) (hpl : (backTo pos (starEach es X.env)).any (fun x => x.1) = false := by rfl) : DE X (.Call (.Name x p) (e :: es) [] pos) (wCall w t) := pe_imp (pe_callB hc hg hm hv ha hn hdb he hpl) fun σ H Q h => call_lift h
theorem de_callTy {x : Str} {p pos : Pos} {e : Expr} {es : List Expr} {t : WA} {T : String} {w : WL} (hc : DC X (.type T) w) (hg : Gl X x) (hm : X.mg x = none) (hv : bootBuiltins x = some (.type T)) (ha : DA X (e :: es) t) (hn : x ≠ "__name__" := by decide)
    (hdb : (x == ("__debug__" : Str)) = false := by decide) (he : starEach (e :: es) X.env = (false, eval e X.env) :: starEach es X.env := by rfl) (hpl : (backTo pos (starEach es X.env)).any (fun x => x.1) = false := by rfl) : DE X (.Call (.Name x p) (e :: es) [] pos) (wCall w t) := pe_imp (pe_callTy hc hg hm hv ha hn hdb he hpl) fun σ H Q h => call_lift h

/-! ### statements -/
variable {st : Stmt} {sts : List Stmt} {ws wt : WS} {we : WE} {e : Expr}
def wNext : WS := fun E sd S => E.nx sd S
def wSeq (a b : WS) : WS := fun E sd S => a { E with nx := b E } sd S
theorem dss_nil : DSs X [] wNext := pss_imp pss_nil fun E σ H ⟨sd, S, E0, st, q, an⟩ => an.nx _ _ _ _ q (Nx.refl _ _) st
theorem dss_cons (h1 : DS X st ws) (h2 : DSs X sts wt) : DSs X (st :: sts) (wSeq ws wt) :=
  pss_imp (pss_cons h1 h2) fun E σ H ⟨sd, S, E0, st, q, an⟩ => ⟨sd, S, _, st, q, ⟨fun sd1 S1 σ1 H1 q1 n1 st1 => ⟨sd1, S1, E0, st1, q1, an.go n1⟩, an.rt, an.bk, an.ct⟩⟩
theorem dss_one (h1 : DS X st ws) : DSs X [st] ws := pss_one h1
def wBreak : WS := fun E sd S => E.bk sd S
def wCont : WS := fun E sd S => E.ct sd S
def wDrop (we : WE) : WS := fun E sd S => we sd S fun _ S1 => E.nx sd S1
theorem ds_expr (he : DE X e we) (hs : swapsWith e none pos.line X.env = pure false := by rfl) : DS X (.Expr e pos) (wDrop we) :=
  ps_imp (ps_expr he hs) fun E σ H ⟨sd, S, E0, st, q, an⟩ => ⟨sd, S, _, st, q, fun d S1 v H1 q1 n1 s1 r1 => an.nx _ _ _ _ q1 n1 (st.nx n1 s1)⟩
def wRet (we : WE) : WS := fun E sd S => we sd S E.rt
theorem ds_ret (he : DE X e we) : DS X (.Return (some e) pos) (wRet we) :=
  ps_imp (ps_ret he) fun E σ H ⟨sd, S, E0, st, q, an⟩ => ⟨sd, S, _, st, q, an.rt⟩
def wRetN : WS := fun E _ S => E.rt .non S
def wIfS (c : WT) (a b : WS) : WS := fun E sd S => c sd S fun k S1 => if k = true then a E sd S1 else b E sd S1
theorem ds_if {c : Expr} {a b : List Stmt} {tc : WT} (hc : DT X c tc) (ha : DSs X a ws) (hb : DSs X b wt) : DS X (.If c a b pos) (wIfS tc ws wt) := by
  refine ps_imp (ps_if hc ha hb) fun E σ H ⟨sd, S, E0, st, q, an⟩ => ⟨sd, S, _, st, q, fun k S1 H1 q1 n1 s1 => ?_⟩
  cases k with
  | true => exact ⟨sd, S1, E0, st.nx n1 s1, q1, an.go n1⟩
  | false => exact ⟨sd, S1, E0, st.nx n1 s1, q1, an.go n1⟩
def wNever : WS := fun _ _ _ => False
theorem ds_never : DS X st wNever := ps_imp ps_never fun E σ H ⟨sd, S, E0, st, q, an⟩ => q.elim

/-! ### targets -/
def gV (i : Nat) : WG := fun d sd S Q => Q (sd.set i (some d)) S
theorem dg_v {i : Nat} {x : Str} {pos : Pos} (hN : X.N.Nodup) (hi : X.N[i]? = some x := by rfl) (hx : Loc X.env.scope x := by first | exact Or.inl rfl | exact Or.inr rfl) (hf : X.fn x = true ∨ X.env.scope.names.lookup x = some .local := by first | exact .inl rfl | exact .inr rfl | assumption) : DG X (.Name x pos) (gV i) :=
  pg_imp (pg_name hN hi hx hf) fun v σ H Q ⟨d, sd, S, Q0, st, r, q, an⟩ => an _ _ _ _ q (Nx.refl _ _) (st.set i r)
def gN : WGs := fun ds sd S Q => ds = [] ∧ Q sd S
def gC (g : WG) (r : WGs) : WGs := fun ds sd S Q => match ds with
  | [] => False
  | d :: ds => g d sd S fun sd1 S1 => r ds sd1 S1 Q
theorem dgs_nil : DGs X [] gN := pgs_imp pgs_nil fun v σ H Q ⟨d, sd, S, Q0, st, r, q, an⟩ => by
  obtain ⟨rfl, q⟩ := q
  exact ⟨r, an _ _ _ _ q (Nx.refl _ _) st⟩
theorem dgs_cons {e : Expr} {es : List Expr} {g : WG} {r : WGs} (h1 : DG X e g) (h2 : DGs X es r) (hs : (assignEach (e :: es) X.env).map (·.2) = assign e X.env :: (assignEach es X.env).map (·.2) := by rfl) : DGs X (e :: es) (gC g r) :=
  pgs_imp (pgs_cons h1 h2 hs) fun v σ H Q ⟨d, sd, S, Q0, st, rr, q, an⟩ => by
    cases d with
    | nil => exact False.elim q
    | cons d ds =>
      obtain ⟨v1, vr, e1, r1, r2⟩ := rr
      exact ⟨v1, vr, e1, d, sd, S, _, st, r1, q, fun sd1 S1 σ1 H1 q1 n1 st1 => ⟨ds, sd1, S1, Q0, st1, r2.nx n1, q1, an.nx n1⟩⟩
/-- (a, b, ..) = a tuple -/
def gT (n : Nat) (r : WGs) : WG := fun d sd S Q => match d with
  | .tup xs => xs.length = n ∧ r xs sd S Q
  | _ => False
theorem dg_tup {es : List Expr} {k : Nat} {r : WGs} {n : Nat} (hc : X.calm = true) (h : DGs X es r) (hn : (assignEach es X.env).length = n := by rfl) (hst : (assignEach es X.env).findIdx? (·.1) = none := by rfl) : DG X (.Tuple es k pos) (gT n r) :=
  pg_imp (pg_tup hc h hn hst) fun v σ H Q ⟨d, sd, S, Q0, st, rr, q, an⟩ => by
    cases d with
    | tup xs =>
      obtain ⟨hl, q⟩ := q
      obtain ⟨a, vs, e, t, r⟩ := rr
      exact ⟨a, vs, e, t.sq, by rw [← r.length]; exact hl, xs, sd, S, Q0, st, r, q, an⟩
    | _ => exact False.elim q
def wAsg (we : WE) (g : WG) : WS := fun E sd S => we sd S fun d S1 => g d sd S1 E.nx
theorem asg_lift {g : WG} {E : Ends} {σ : St} {H : Hp} (h : liftS X.K (wAsg we g) E σ H) : tAsg (lift X.K we) (liftG X.K g) E σ H := by
  obtain ⟨sd, S, E0, st, q, an⟩ := h
  exact ⟨sd, S, _, st, q, fun d S1 v H1 q1 n1 s1 r1 => ⟨d, sd, S1, _, st.nx n1 s1, r1, q1, an.nx.nx n1⟩⟩
theorem ds_asg {tg e : Expr} {g : WG} (he : DE X e we) (hg : DG X tg g) (hs : swapsWithSole [tg] e pos.line X.env = pure false := by rfl) (hw : swappedStores [tg] e X.env = pure none := by rfl) (h1 : (assignEach [tg] X.env).map (·.2) = [assign tg X.env] := by rfl) :
    DS X (.Assign [tg] e pos) (wAsg we g) := ps_imp (ps_asg he hg hs hw h1) fun E σ H h => asg_lift h
theorem ds_set {i : Nat} {x : Str} {e : Expr} {pos' : Pos} (hN : X.N.Nodup) (he : DE X e we) (hi : X.N[i]? = some x := by rfl) (hx : Loc X.env.scope x := by first | exact Or.inl rfl | exact Or.inr rfl) (hs : swapsWith e (some (.Name x pos')) pos.line X.env = pure false := by rfl)
    (hf : X.fn x = true ∨ X.env.scope.names.lookup x = some .local := by first | exact .inl rfl | exact .inr rfl | assumption) : DS X (.Assign [.Name x pos'] e pos) (wAsg we (gV i)) :=
  ps_imp (ps_set hN hi hx he hs hf) fun E σ H ⟨sd, S, E0, st, q, an⟩ => ⟨sd, S, _, st, q, fun d S1 v H1 q1 n1 s1 r1 => an.nx _ _ _ _ q1 n1 ((st.nx n1 s1).set i r1)⟩
end
end L2.DL

/-! DL3: defs: what they promise over data (no repr is being made around them), calls, methods, makings, attributes -/
namespace L2.DL
open PySem PySem.Spec PyProof.Rows

/-- HandS's FnOk where, besides, no guard stands around -/
structure FnG (P : Program) (w : World) (K : PySem.W.Frag) (mg : Str → Option Value) (base : Heap) (CX : CXT) (k : Nat) (f : Addr) (fd : FuncData) (ps : List Str) (sp : Sp) : Prop where
  len : ∀ vs H Q E, sp vs H Q E → vs.length = ps.length
  go : ∀ (A : Around) (outer : List Env) (s : Shared) (H : Hp) (args : Args) (us : List Value) (vs : List V) (Q : VK) (E : XK), Room k A → A.guards = some [] → Env0 P w K mg base A outer s H →
    BindsTo s fd args (ps.zip us) → Vals vs us → sp vs H Q E → codeAny (model P w) A (.call (.ref f) args) (CR CX outer P w H s Q E) s
section
variable {P : Program} {w : World} {K : PySem.W.Frag} {mg : Str → Option Value} {base : Heap} {CX : CXT} {k j : Nat} {f : Addr} {fd : FuncData} {ps : List Str} {sp sp' : Sp}
theorem FnG.of (F : FnOk P w K mg base CX k f fd ps sp) : FnG P w K mg base CX k f fd ps sp := ⟨F.len, fun A outer s H args us vs Q E hr _ e b r h => F.run A outer s H args us vs Q E hr e b r h⟩
theorem FnG.up (F : FnG P w K mg base CX j f fd ps sp) (h : j ≤ k) : FnG P w K mg base CX k f fd ps sp := ⟨F.len, fun A outer s H args us vs Q E hr hg e b r q => F.go A outer s H args us vs Q E (hr.mono h) hg e b r q⟩
theorem FnG.imp (F : FnG P w K mg base CX k f fd ps sp) (h : ∀ vs H Q E, sp' vs H Q E → sp vs H Q E) : FnG P w K mg base CX k f fd ps sp' :=
  ⟨fun vs H Q E q => F.len vs H Q E (h _ _ _ _ q), fun A outer s H args us vs Q E hr hg e b r q => F.go A outer s H args us vs Q E hr hg e b r (h _ _ _ _ q)⟩
/-- a def's object as the written part holds it -/
def FnAt (K : PySem.W.Frag) (qual : Str) (st : Stmt) (f : Addr) (fd : FuncData) : Prop := ∃ (x : Str) (oc : Value) (od : Option Addr) (dV kV doc pm : Value) (an : Option Addr) (cdv ct : Value) (osl : Array (Option Value)),
  fd = PySem.W.fnOf x qual (defArgs st) (defBody st) (defScope st) dV kV doc pm an cdv ct ∧ K.lookup f = some ⟨oc, od, .func fd, osl⟩ ∧ PySem.W.codeIn K cdv qual = true
theorem fun_at {x qual : Str} {st : Stmt} (F : Fun K x qual st f fd) : FnAt K qual st f fd := let ⟨oc, od, kV, doc, pm, an, cdv, ct, osl, h⟩ := F.ex; ⟨x, oc, od, _, kV, doc, pm, an, cdv, ct, osl, h⟩
theorem funD_at {x qual : Str} {st : Stmt} {dvs : List V} {kws : List (Str × V)} (F : FunD K x qual (defArgs st) (defBody st) (defScope st) dvs kws f fd) : FnAt K qual st f fd := let ⟨oc, od, dV, kV, doc, pm, an, cdv, ct, osl, h1, h2, h3, _⟩ := F.ex; ⟨x, oc, od, dV, kV, doc, pm, an, cdv, ct, osl, h1, h2, h3⟩
/-- a def keeps its promise if its body does -/
theorem fnG_body {qual : Str} {st : Stmt} {N : List Str} (F : FnAt K qual st f fd) (S : FnScope N ps (defScope st)) (len : ∀ vs H Q E, sp vs H Q E → vs.length = ps.length)
    (body : ∀ (cdv : Value) (A : Around) (outer : List Env) (s : Shared) (H : Hp) (vs : List V) (Q : VK) (E : XK), Room k (A.deeper (envOfC qual (defScope st) s.heap.objs.size f cdv)) → (A.deeper (envOfC qual (defScope st) s.heap.objs.size f cdv)).guards = some [] → sp vs H Q E →
      ∃ t, PSs (cxOf CX P w K mg base N qual (defScope st) f cdv A outer s H E) (defBody st) t ∧ t { nx := fun _ H' => Q .non H', rt := Q } (start N vs) H) : FnG P w K mg base CX (k + 1) f fd ps sp := by
  obtain ⟨x, oc, od, dV, kV, doc, pm, an, cdv, ct, osl, rfl, lk, hcd⟩ := F
  refine ⟨len, fun A outer s H args us vs Q E hr hg e0 hb r hsp => ?_⟩
  have keepB : ∀ b o, base.get? b = some o → s.heap.get? b = some o := fun b o e => (e0.bs b o e).1
  have kinds : ∀ y ∈ ps.zip us, (defScope st).names.lookup y.1 = some .local ∨ ((defScope st).names.lookup y.1 = some .cell ∧ ((cellsFrom (s.heap.objs.size + 1) (defScope st).names []).lookup y.1).isSome = true) := by
    rintro ⟨n, v⟩ hy
    exact (S.par n (List.of_mem_zip hy).1).imp id fun q => ⟨q, PySem.W.cellsFrom_some _ _ _ (.inl q)⟩
  refine codeAny_call_function hr.depth (e0.mod.kin.keeps keepB _ _ lk) rfl S.co S.gen rfl (PySem.W.codeRec_of (e0.mod.kin.keeps keepB) hcd) (hb _ _ _ _ (wpAny_newFunctionEnv_cells S.kind kinds fun env he s1 x => ?_))
  subst he
  refine ⟨(e0.mod.nolimit.keeps keepB).keeps x.toInCall.keep, codeAny_func ?_⟩
  obtain ⟨t, ht, hq⟩ := body cdv A outer s H vs Q E (hr.deeper _) hg hsp
  have I := inv_start (CX := CX) (E := E) S hr.hd e0 (len _ _ _ _ hsp) r x
  refine wpAny_mono (ht.run [] s1 _ H _ I hq) (fun fl s' hs => ?_) fun _ _ hs => hs
  cases fl with
  | ret u => exact let ⟨v, _, H', J, rv, q⟩ := hs; ⟨v, H', J.os, J.bare, J.base, J.hok, rv, q⟩
  | next => exact let ⟨_, H', J, q⟩ := hs; ⟨.non, H', J.os, J.bare, J.base, J.hok, rfl, q⟩
  | brk => exact let ⟨_, _, _, q⟩ := hs; q.elim
  | cont => exact let ⟨_, _, _, q⟩ := hs; q.elim
end
section
variable {X : Cx} {CX : CXT} {k : Nat} {f C : Addr} {fd : FuncData} {ps ks : List Str} {sp : Sp} {dvs : List V} {ds : List Value} {E : XK} {x m : Str} {p pos apos : Pos} {e o : Expr} {es : List Expr} {kws : List Keyword} {ta : TE} {t tk : TA}
theorem CE.call {pins : List (Addr × Obj)} {σ : St} {H : Hp} {s s' : Shared} {Q : VK} {r : Result} (I : Inv X pins σ H s) (hx : Passes CX X E) (h : CR CX X.stack X.prog X.w H s Q E r s') :
    match r with
    | .ok (.ret u) => EP X pins σ Q u s'
    | .ok _ => False
    | .error er => X.xe er s' := by
  cases r with
  | error er => exact hx pins σ H s er s' I h
  | ok fl =>
    cases fl with
    | ret u => exact I.after h
    | next => exact h
    | brk => exact h
    | cont => exact h
theorem runG {pins : List (Addr × Obj)} {σ : St} {H : Hp} {s : Shared} {Q : VK} {args : Args} {us : List Value} {vs : List V} (F : FnG X.prog X.w X.K X.mg X.base CX k f fd ps sp) (hr : Room k X.A) (gd : X.A.guards = some []) (hx : Passes CX X E)
    (I : Inv X pins σ H s) (hb : BindsTo s fd args (ps.zip us)) (r : Vals vs us) (h : sp vs H Q E) : wpAny (model X.prog X.w) X.A (call (.ref f) args.pos args.kw) (EP X pins σ Q) X.xe s := by
  refine wpAny_call (codeAny_mono (F.go X.A X.stack s H args us vs Q E hr gd I.env0 hb r h) fun rs s' hq => ?_)
  have z := CE.call I hx hq
  cases rs with
  | error er => exact z
  | ok fl =>
    cases fl with
    | ret u => exact z
    | next => exact z.elim
    | brk => exact z.elim
    | cont => exact z.elim
theorem runB {pins : List (Addr × Obj)} {σ : St} {H : Hp} {s : Shared} {Q : VK} {us : List Value} {vs : List V} (F : FnG X.prog X.w X.K X.mg X.base CX k f fd ps sp) (hr : Room k X.A) (gd : X.A.guards = some []) (hb : Binds X.K fd ps ds) (hd : Vals dvs ds) (hx : Passes CX X E)
    (I : Inv X pins σ H s) (r : Vals vs us) (h : sp (vs ++ dvs) H Q E) : wpAny (model X.prog X.w) X.A (call (.ref f) us) (EP X pins σ Q) X.xe s := by
  have r2 := r.append hd
  exact runG (args := ⟨us, []⟩) F hr gd hx I (hb s us I.kIn (by rw [← r2.length]; exact F.len _ _ _ _ h)) r2 h
theorem peG_call (F : FnG X.prog X.w X.K X.mg X.base CX k f fd ps sp) (hr : Room k X.A) (gd : X.A.guards = some []) (hg : Gl X x) (hm : X.mg x = some (.ref f)) (hk : PySem.W.keepIn X.K (.ref f) = true) (hb : Binds X.K fd ps ds) (hd : Vals dvs ds) (hx : Passes CX X E)
    (ha : PA X (e :: es) t) (hdb : (x == ("__debug__" : Str)) = false := by decide) (he : starEach (e :: es) X.env = (false, eval e X.env) :: starEach es X.env := by rfl) (hpl : (backTo pos (starEach es X.env)).any (·.1) = false := by rfl) :
    PE X (.Call (.Name x p) (e :: es) [] pos) (tCall sp dvs E t) :=
  ⟨fun pins s σ H Q I h => wpAny_Call_Name_kw (ld_glob I hg hm (PySem.W.callWith_K (h₀ := X.base) I.ok.mod.kin hk (thn (ha.run pos pins s σ H _ I h) fun us s1 ⟨vs, H1, I1, r, q⟩ => ⟨I1.kIn, runB F hr gd hb hd hx I1 r q⟩) he hpl) hdb)⟩
/-- C(..) -/
theorem make_guards {A : Around} {us : List Value} {kw : List (Str × Value)} : (A.under (.builtin "type.__call__" ⟨.ref C :: us, kw⟩)).guards = A.guards := by
  first
    | rfl
    | simp [Around.under, Code.guards, Code.isGuard, guardIds, pushGuards]
theorem runMk {pins : List (Addr × Obj)} {σ : St} {H : Hp} {s : Shared} {Q : VK} {args : Args} {us : List Value} {vs : List V} (M : Mk X.K C f) (F : FnG X.prog X.w X.K X.mg X.base CX k f fd ps sp) (hr : Room (k + 1) X.A) (gd : X.A.guards = some []) (hx : Passes CX X E)
    (I : Inv X pins σ H s) (hb : ∀ (s' : Shared) (x : Value), X.K.In s'.heap → (x :: us).length = ps.length → BindsTo s' fd ⟨x :: args.pos, args.kw⟩ (ps.zip (x :: us))) (r : Vals vs us)
    (h : ∀ x dx, H x = none → H dx = none → dx ≠ x → sp (.ref x :: vs) (upd (upd H dx (.own x)) x (.ins C dx [])) (fun v H2 => v = .non ∧ Q (.ref x) H2) E) : wpAny (model X.prog X.w) X.A (call (.ref C) args.pos args.kw) (EP X pins σ Q) X.xe s := by
  have hq := h (s.heap.objs.size + 1) s.heap.objs.size (I.hok.fresh (Nat.le_succ _)) (I.hok.fresh (Nat.le_refl _)) (Nat.ne_of_lt (Nat.lt_succ_self _))
  have I2 := Inv.made (C := C) I
  have r2 : Vals (V.ref (s.heap.objs.size + 1) :: vs) (Value.ref (s.heap.objs.size + 1) :: us) := .cons rfl r
  refine wpAny_call (make_map (f := f) I.kIn M.makes M.init (beq_iff_eq.mp M.fn) (codeAny_mono (F.go _ X.stack _ _ ⟨Value.ref (s.heap.objs.size + 1) :: args.pos, args.kw⟩ (Value.ref (s.heap.objs.size + 1) :: us) _ _ E (hr.make C args.pos args.kw)
    (make_guards.trans gd) (I2.env0.make C args.pos args.kw) (hb _ _ I2.kIn (by rw [← r2.length]; exact F.len _ _ _ _ hq)) r2 hq) fun rs s' hq' => ?_))
  have z := CE.call I2 hx hq'
  cases rs with
  | error er => exact z
  | ok fl =>
    cases fl with
    | ret u =>
      obtain ⟨v, H', I3, rv, ev, q3⟩ := z
      subst ev
      exact ⟨rv, ⟨V.ref (s.heap.objs.size + 1), H', I3, rfl, q3⟩⟩
    | next => exact z.elim
    | brk => exact z.elim
    | cont => exact z.elim
theorem peG_make (M : Mk X.K C f) (F : FnG X.prog X.w X.K X.mg X.base CX k f fd ps sp) (hr : Room (k + 1) X.A) (gd : X.A.guards = some []) (hg : Gl X x) (hm : X.mg x = some (.ref C)) (hb : Binds X.K fd ps ds) (hd : Vals dvs ds) (hx : Passes CX X E)
    (ha : PA X (e :: es) t) (hdb : (x == ("__debug__" : Str)) = false := by decide) (he : starEach (e :: es) X.env = (false, eval e X.env) :: starEach es X.env := by rfl) (hpl : (backTo pos (starEach es X.env)).any (·.1) = false := by rfl) :
    PE X (.Call (.Name x p) (e :: es) [] pos) (tMake C sp dvs E t) := by
  refine ⟨fun pins s σ H Q I h => wpAny_Call_Name_kw (ld_glob I hg hm (PySem.W.callWith_K (h₀ := X.base) I.ok.mod.kin M.kp (thn (ha.run pos pins s σ H _ I h) fun us s1 ⟨vs, H1, I1, r, q⟩ => ⟨I1.kIn, ?_⟩) he hpl) hdb)⟩
  exact runMk (args := ⟨us, []⟩) (us := us ++ ds) M F hr gd hx I1 (fun s' x kx hl => hb s' (x :: us) kx hl) (r.append hd) q
/-! ### .. over data -/
/-- a promise over data: the arguments, the objects, what is wanted of the answer, what is wanted of an error (its class, its attributes) -/
abbrev EK := Str → List (Str × D) → SO → Prop
abbrev DSp := List D → SO → KD → EK → Prop
def AnsX (K : PySem.W.Frag) (S : SO) (H : Hp) (E0 : EK) (E : XK) : Prop := ∀ n fs S' H' C d, E0 n fs S' → Nx S H S' H' → SRel K S' H' → PySem.W.nsIn K mainGlobals n = some (some (.ref C)) → ErrF K S' H' d fs → E (.ref C) d H'
def liftSp (K : PySem.W.Frag) (sp : DSp) : Sp := fun vs H Q E => ∃ ds S Q0 E0, SRel K S H ∧ Rels K S H ds vs ∧ sp ds S Q0 E0 ∧ Ans K S H Q0 Q ∧ AnsX K S H E0 E
abbrev NoE : EK := fun _ _ _ => False
theorem noE_ans {K : PySem.W.Frag} {S : SO} {H : Hp} {E : XK} : AnsX K S H NoE E := fun _ _ _ _ _ _ h => h.elim
abbrev FnD (P : Program) (w : World) (K : PySem.W.Frag) (mg : Str → Option Value) (base : Heap) (k : Nat) (f : Addr) (fd : FuncData) (ps : List Str) (sp : DSp) : Prop := FnG P w K mg base CX0 k f fd ps (liftSp K sp)

variable {dsp : DSp} {dds : List D} {wt wk : WA} {wo : WE}
/-- f(..); the defaults dds -/
def wFn (sp : DSp) (dds : List D) (t : WA) : WE := fun sd S Q => t sd S fun xs S1 => sp (xs ++ dds) S1 Q NoE
/-- the defaults: values that hang on no heap -/
def Lits (dds : List D) (dvs : List V) : Prop := ∀ K S H, Rels K S H dds dvs
theorem lits_nil : Lits [] [] := fun _ _ _ => rfl
theorem de_fn (F : FnD X.prog X.w X.K X.mg X.base k f fd ps dsp) (hr : Room k X.A) (gd : X.A.guards = some []) (hm : X.mg x = some (.ref f)) (hk : PySem.W.keepIn X.K (.ref f) = true) (hb : Binds X.K fd ps ds) (hd : Vals dvs ds) (hl : Lits dds dvs) (ha : DA X (e :: es) wt)
    (hg : Gl X x := by rfl) (hdb : (x == ("__debug__" : Str)) = false := by decide) (he : starEach (e :: es) X.env = (false, eval e X.env) :: starEach es X.env := by rfl) (hpl : (backTo pos (starEach es X.env)).any (·.1) = false := by rfl) :
    DE X (.Call (.Name x p) (e :: es) [] pos) (wFn dsp dds wt) :=
  pe_imp (peG_call F hr gd hg hm hk hb hd (E := E0) pass0 ha hdb he hpl) fun σ H Q ⟨sd, S, Q0, st, q, an⟩ => ⟨sd, S, _, st, q, fun xs S1 vs H1 q1 n1 s1 r1 => ⟨xs ++ dds, S1, Q0, NoE, s1, r1.app (hl _ _ _), q1, an.nx n1, noE_ans⟩⟩
/-- the instance d of the class at C, of these attributes -/
def InsD (C : Addr) (d : D) (S : SO) (fs : List (Str × D)) : Prop := match d with
  | .ins C' gs => C' = C ∧ gs = fs
  | .obj a => S a = some (.ins C fs)
  | _ => False
theorem InsD.at {K : PySem.W.Frag} {S : SO} {H : Hp} {d : D} {v : V} {fs : List (Str × D)} (h : InsD C d S fs) (s : SRel K S H) (r : Rel K S H d v) : ∃ a dx l, v = .ref a ∧ H a = some (.ins C dx l) ∧ RelF K S H fs l := by
  cases d with
  | ins C' gs =>
    obtain ⟨rfl, rfl⟩ := h
    obtain ⟨a, dx, l, e, _, hl, rf⟩ := r
    exact ⟨a, dx, l, e, hl, rf⟩
  | obj a =>
    obtain ⟨dx, l, hl, rf⟩ := s a _ h
    exact ⟨a, dx, l, r, hl, rf⟩
  | _ => exact False.elim h
/-- o.m(..) -/
def wMeth (C : Addr) (m : Str) (sp : DSp) (dds : List D) (wo : WE) (t : WA) : WE := fun sd S Q => wo sd S fun d S1 => (∃ fs, InsD C d S1 fs ∧ fs.lookup m = none) ∧ t sd S1 fun xs S2 => sp (d :: (xs ++ dds)) S2 Q NoE
/-- .. frozen at the end -/
def wMakeF (C : Addr) (sp : DSp) (dds : List D) (t : WA) : WE := fun sd S Q => t sd S fun xs S1 => ∀ p, S1 p = none → sp (.obj p :: (xs ++ dds)) (S1.set p (.ins C [])) (fun d S2 => d = .non ∧ ∃ fs, S2 p = some (.ins C fs) ∧ Q (.ins C fs) (S2.del p)) NoE
theorem make_srel {K : PySem.W.Frag} {S : SO} {H : Hp} {x dx : Addr} (s : SRel K S H) (nx : H x = none) (nd : H dx = none) (ne : dx ≠ x) : Nx S H (S.set x (.ins C [])) (upd (upd H dx (.own x)) x (.ins C dx [])) ∧ SRel K (S.set x (.ins C [])) (upd (upd H dx (.own x)) x (.ins C dx [])) := by
  have n1 : Nx S H S (upd H dx (.own x)) := nx_new nd
  have s1 := s.new (o := .own x) nd
  have hx : upd H dx (.own x) x = none := by rw [upd_ne ne.symm]; exact nx
  have n2 : Nx S (upd H dx (.own x)) (S.set x (.ins C [])) (upd (upd H dx (.own x)) x (.ins C dx [])) := nx_obj hx (s1.free hx)
  exact ⟨n1.trans n2, srel_put s1 n2 ⟨dx, [], upd_same, rfl⟩⟩
theorem nx_del {S : SO} {H : Hp} (p : Addr) : Nx S H (S.del p) H := fun a u h1 h2 => ⟨by unfold SO.del; split; rfl; exact h1, h2⟩
theorem srel_del {K : PySem.W.Frag} {S : SO} {H : Hp} (s : SRel K S H) (p : Addr) : SRel K (S.del p) H := fun a u q => by
  have q' : S a = some u := by
    unfold SO.del at q
    split at q
    · cases q
    · exact q
  exact (s a u q').nx (nx_del p) rfl
theorem del_at {S : SO} {p : Addr} : (S.del p) p = none := if_pos rfl
/-- nobody changes it any more -/
theorem frz_ins {K : PySem.W.Frag} {S : SO} {H : Hp} {p : Addr} {fs : List (Str × D)} (s : SRel K S H) (h : S p = some (.ins C fs)) : Nx S H (S.del p) H ∧ SRel K (S.del p) H ∧ Rel K (S.del p) H (.ins C fs) (.ref p) := by
  obtain ⟨dx, l, hl, rf⟩ := s p _ h
  exact ⟨nx_del p, srel_del s p, p, dx, l, rfl, del_at, hl, RelF.nx (nx_del p) _ _ rf⟩
theorem frz_lst {K : PySem.W.Frag} {S : SO} {H : Hp} {p : Addr} {ds : List D} (s : SRel K S H) (h : S p = some (.lst ds)) : Nx S H (S.del p) H ∧ SRel K (S.del p) H ∧ Rel K (S.del p) H (.lst ds) (.ref p) := by
  obtain ⟨l, hl, rf⟩ := s p _ h
  exact ⟨nx_del p, srel_del s p, p, l, rfl, del_at, hl, rf.nx (nx_del p)⟩
theorem frz_dic {K : PySem.W.Frag} {S : SO} {H : Hp} {p : Addr} {t : Bool} {kvs : List (D × D)} (s : SRel K S H) (h : S p = some (.dic t kvs)) : Nx S H (S.del p) H ∧ SRel K (S.del p) H ∧ Rel K (S.del p) H (.dic t kvs) (.ref p) := by
  rcases s p _ h with ⟨l, ht, hl, rf⟩ | ⟨l, ht, hl, rf⟩
  · exact ⟨nx_del p, srel_del s p, p, rfl, del_at, .inl ⟨l, ht, hl, RelK.nx (nx_del p) _ _ rf⟩⟩
  · exact ⟨nx_del p, srel_del s p, p, rfl, del_at, .inr ⟨l, ht, hl, RelT.nx (nx_del p) _ _ rf⟩⟩
theorem de_makeF (M : Mk X.K C f) (F : FnD X.prog X.w X.K X.mg X.base k f fd ps dsp) (hr : Room (k + 1) X.A) (gd : X.A.guards = some []) (hm : X.mg x = some (.ref C)) (hb : Binds X.K fd ps ds) (hd : Vals dvs ds) (hl : Lits dds dvs) (ha : DA X (e :: es) wt) (hg : Gl X x := by rfl)
    (hdb : (x == ("__debug__" : Str)) = false := by decide) (he : starEach (e :: es) X.env = (false, eval e X.env) :: starEach es X.env := by rfl) (hpl : (backTo pos (starEach es X.env)).any (·.1) = false := by rfl) : DE X (.Call (.Name x p) (e :: es) [] pos) (wMakeF C dsp dds wt) :=
  pe_imp (peG_make M F hr gd hg hm hb hd (E := E0) pass0 ha hdb he hpl) fun σ H Q ⟨sd, S, Q0, st, q, an⟩ => ⟨sd, S, _, st, q, fun xs S1 vs H1 q1 n1 s1 r1 => fun y dx ny nd ne => by
    obtain ⟨n2, s2⟩ := make_srel (C := C) s1 ny nd ne
    refine ⟨.obj y :: (xs ++ dds), _, _, NoE, s2, ⟨.ref y, _, rfl, rfl, (r1.nx n2).app (hl _ _ _)⟩, q1 y (s1.free ny), fun d S3 v H3 ⟨e1, fs, hS, q3⟩ n3 s3 r3 => ?_, noE_ans⟩
    subst e1
    obtain ⟨n4, s4, r4⟩ := frz_ins s3 hS
    exact ⟨r3, an _ _ _ _ q3 (n1.trans (n2.trans (n3.trans n4))) s4 r4⟩⟩
/-- o.f, an attribute -/
def wFld (C : Addr) (g : Str) (wo : WE) : WE := fun sd S Q => wo sd S fun d S1 => ∃ fs v, InsD C d S1 fs ∧ fs.lookup g = some v ∧ Q v S1
theorem de_fld {g : Str} (c : Cls X.K C) (n : NoAttr X.K C g) (he : DE X o wo) (hb : attributeBase o g X.env (eval o X.env) = eval o X.env := by rfl) : DE X (.Attribute o g pos) (wFld C g wo) :=
  pe_imp (pe_fld he hb) fun σ H Q ⟨sd, S, Q0, st, q, an⟩ => ⟨sd, S, _, st, q, fun d S1 v H1 ⟨fs, u, hi, hl, q1⟩ n1 s1 r1 => by
    obtain ⟨a, dx, l, e, hH, rf⟩ := hi.at s1 r1
    obtain ⟨y, hy, ry⟩ := rf.look hl
    exact ⟨a, C, dx, l, y, e, hH, c, n, hy, an _ _ _ _ q1 n1 s1 ry⟩⟩
/-- o.p, a property that gives the attribute g -/
theorem de_prop {pn g : Str} {pa ga : Addr} {fdg : FuncData} {psg : List Str} {j : Nat} (c : Cls X.K C) (hp : PropOf X.K C pn pa ga) (F : FnOk X.prog X.w X.K X.mg X.base CX0 j ga fdg psg (getSp C g)) (hr : Room (j + 1) X.A) (hbi : Binds X.K fdg psg []) (he : DE X o wo)
    (hb : attributeBase o pn X.env (eval o X.env) = eval o X.env := by rfl) : DE X (.Attribute o pn pos) (wFld C g wo) :=
  pe_imp (pe_prop he c hp F hr hbi .nil (E := E0) pass0 hb) fun σ H Q ⟨sd, S, Q0, st, q, an⟩ => ⟨sd, S, _, st, q, fun d S1 v H1 ⟨fs, u, hi, hl, q1⟩ n1 s1 r1 => by
    obtain ⟨a, dx, l, e, hH, rf⟩ := hi.at s1 r1
    obtain ⟨y, hy, ry⟩ := rf.look hl
    exact ⟨a, dx, l, e, hH, a, dx, l, y, rfl, hH, hy, an _ _ _ _ q1 n1 s1 ry⟩⟩
/-- self.f = e -/
theorem RelF.put {K : PySem.W.Frag} {S : SO} {H : Hp} {d : D} {v : V} (r : Rel K S H d v) (g : Str) : ∀ {fs : List (Str × D)} {l : List (Str × V)}, RelF K S H fs l → RelF K S H (putD g d fs) (putF g v l)
  | [], _, h => by
    have e : _ = [] := h
    subst e
    exact ⟨v, [], rfl, r, rfl⟩
  | (y, d') :: fs, _, h => by
    obtain ⟨u, t, rfl, h1, h2⟩ := h
    unfold putD putF
    split
    · exact ⟨v, t, rfl, r, h2⟩
    · exact ⟨u, _, rfl, h1, h2.put r g⟩
theorem RelF.length {K : PySem.W.Frag} {S : SO} {H : Hp} : ∀ {fs : List (Str × D)} {l : List (Str × V)}, RelF K S H fs l → fs.length = l.length
  | [], _, h => by
    have e : _ = [] := h
    rw [e]
    rfl
  | (y, d') :: fs, _, h => by
    obtain ⟨u, t, rfl, h1, h2⟩ := h
    rw [List.length_cons, List.length_cons, h2.length]
def wSetF (C : Addr) (g : Str) (wo we : WE) : WS := fun E sd S => we sd S fun y S1 => wo sd S1 fun d S2 => ∃ a fs, d = .obj a ∧ S2 a = some (.ins C fs) ∧ fs.length < 1000 ∧ E.nx sd (S2.set a (.ins C (putD g y fs)))
theorem ds_setF {g : Str} {we : WE} {value : Expr} {pos' : Pos} (c : Cls X.K C) (n : NoAttr X.K C g) (ha : DE X o wo) (hv : DE X value we) (hs : swapsWith value (some (.Attribute o g pos')) pos.line X.env = pure false := by rfl) : DS X (.Assign [.Attribute o g pos'] value pos) (wSetF C g wo we) :=
  ps_imp (ps_fld ha hv hs) fun E σ H ⟨sd, S, E0, st, q, an⟩ => ⟨sd, S, _, st, q, fun y S1 v H1 q1 n1 s1 r1 => ⟨sd, S1, _, st.nx n1 s1, q1, fun d S2 u H2 ⟨a, fs, e, hS, hlt, q2⟩ n2 s2 r2 => by
    subst e
    obtain ⟨dx, l, hH, rf⟩ := s2 a _ hS
    refine ⟨a, C, dx, l, r2, hH, c, n, by rw [← rf.length]; exact hlt, ?_⟩
    have n3 : Nx S2 H2 (S2.set a (.ins C (putD g y fs))) (upd H2 a (.ins C dx (putF g v l))) := nx_put hS
    have s3 := srel_put s2 n3 ⟨dx, _, upd_same, RelF.nx n3 _ _ (rf.put (Rel.nx n2 _ _ r1) g)⟩
    exact an.nx _ _ _ _ q2 (n1.trans (n2.trans n3)) (st.nx (n1.trans (n2.trans n3)) s3)⟩⟩
end
end L2.DL

/-! DL4: a def's promise by its body; loops; list comprehensions -/
namespace L2.DL
open PySem PySem.Spec PyProof.Rows

/-! ### what a result is worth when objects are forgotten or change no more -/
structure Rf (S : SO) (d : D) (S0 : SO) (d0 : D) : Prop where
  sub : ∀ a, S a = none → S0 a = none
  srel : ∀ K H, SRel K S H → SRel K S0 H
  rel : ∀ K H v, SRel K S H → Rel K S H d v → Rel K S0 H d0 v
theorem Rf.refl (S : SO) (d : D) : Rf S d S d := ⟨fun _ h => h, fun _ _ h => h, fun _ _ _ _ h => h⟩
theorem Rf.trans {S S1 S2 : SO} {d d1 d2 : D} (a : Rf S d S1 d1) (b : Rf S1 d1 S2 d2) : Rf S d S2 d2 := ⟨fun x h => b.sub x (a.sub x h), fun K H h => b.srel K H (a.srel K H h), fun K H v s h => b.rel K H v (a.srel K H s) (a.rel K H v s h)⟩
theorem Rf.to {S S0 : SO} (d : D) (h : ∀ a o, S0 a = some o → S a = some o) : Rf S d S0 d := by
  have sub : ∀ a, S a = none → S0 a = none := fun a e => by
    cases q : S0 a with
    | none => rfl
    | some o =>
      rw [h a o q] at e
      cases e
  have nx : ∀ H, Nx S H S0 H := fun H a u h1 h2 => ⟨sub a h1, h2⟩
  exact ⟨sub, fun K H s a o q => (s a o (h a o q)).nx (nx H) rfl, fun K H v _ r => Rel.nx (nx H) d v r⟩
theorem Rf.drop (S : SO) (d : D) (p : Addr) : Rf S d (S.del p) d := .to d fun a o q => by
  unfold SO.del at q
  split at q
  · cases q
  · exact q
theorem Rf.lst {S : SO} {p : Addr} {ds : List D} (h : S p = some (.lst ds)) : Rf S (.obj p) (S.del p) (.lst ds) := by
  have z := Rf.drop S (.obj p) p
  refine ⟨z.sub, z.srel, fun K H v s r => ?_⟩
  have e : v = .ref p := r
  rw [e]
  exact (frz_lst s h).2.2
theorem Rf.dic {S : SO} {p : Addr} {t : Bool} {ds : List (D × D)} (h : S p = some (.dic t ds)) : Rf S (.obj p) (S.del p) (.dic t ds) := by
  have z := Rf.drop S (.obj p) p
  refine ⟨z.sub, z.srel, fun K H v s r => ?_⟩
  have e : v = .ref p := r
  rw [e]
  exact (frz_dic s h).2.2
theorem Rf.ins {S : SO} {p C : Addr} {fs : List (Str × D)} (h : S p = some (.ins C fs)) : Rf S (.obj p) (S.del p) (.ins C fs) := by
  have z := Rf.drop S (.obj p) p
  refine ⟨z.sub, z.srel, fun K H v s r => ?_⟩
  have e : v = .ref p := r
  rw [e]
  exact (frz_ins s h).2.2
theorem Rf.dropS {S : SO} {p : Addr} {o : DO} (d : D) (h : S p = none) : Rf (S.set p o) d S d := by
  have z := Rf.drop (S.set p o) d p
  rw [del_set h] at z
  exact z
theorem Rf.pair {S S1 S2 : SO} {a b a1 b1 : D} (h1 : Rf S a S1 a1) (h2 : Rf S1 b S2 b1) : Rf S (.tup [a, b]) S2 (.tup [a1, b1]) := by
  refine ⟨fun x h => h2.sub x (h1.sub x h), fun K H h => h2.srel K H (h1.srel K H h), fun K H v s r => ?_⟩
  obtain ⟨p, vs, e, t, rs⟩ := r
  obtain ⟨x, y, rfl, ra, rb⟩ := rs.two
  have n1 : Nx S H S1 H := fun a u q1 q2 => ⟨h1.sub a q1, q2⟩
  have n2 : Nx S1 H S2 H := fun a u q1 q2 => ⟨h2.sub a q1, q2⟩
  have s1 := h1.srel K H s
  exact ⟨p, _, e, (t.nx n1).nx n2, x, _, rfl, Rel.nx n2 _ _ (h1.rel K H x s ra), y, _, rfl, h2.rel K H y s1 (Rel.nx n1 _ _ rb), rfl⟩
/-- .. wanted of it -/
def Cl (Q : KD) : KD := fun d S' => ∃ d0 S0, Rf S' d S0 d0 ∧ Q d0 S0
theorem Cl.ans {K : PySem.W.Frag} {S : SO} {H : Hp} {Q0 : KD} {Q : VK} (an : Ans K S H Q0 Q) : Ans K S H (Cl Q0) Q := fun d S' v H' ⟨d0, S0, rf, q⟩ n s r =>
  an d0 S0 v H' q (fun a u h1 h2 => let ⟨p, q⟩ := n a u h1 h2; ⟨rf.sub a p, q⟩) (rf.srel K H' s) (rf.rel K H' v s r)
theorem Cl.of {Q : KD} {d : D} {S : SO} (h : Q d S) : Cl Q d S := ⟨d, S, .refl _ _, h⟩
def endsOf (Q : KD) : EndsD := { nx := fun _ S' => Cl Q .non S', rt := Cl Q }
def startD (N : List Str) (ds : List D) : SD := ds.map some ++ List.replicate (N.length - ds.length) none
theorem start_rel {K : PySem.W.Frag} {S : SO} {H : Hp} {N : List Str} {ds : List D} {vs : List V} (r : Rels K S H ds vs) : RelS K S H (startD N ds) (start N vs) := by
  have hl := r.length
  refine ⟨by unfold startD start; rw [List.length_append, List.length_append, List.length_map, List.length_map, List.length_replicate, List.length_replicate, hl], fun i d e => ?_⟩
  unfold startD at e
  by_cases hi : i < ds.length
  · rw [List.getElem?_append_left (by simpa using hi), List.getElem?_map] at e
    cases q : ds[i]? with
    | none =>
      rw [q] at e
      cases e
    | some d' =>
      rw [q] at e
      cases e
      obtain ⟨v, hv, rv⟩ := r.get q
      refine ⟨v, ?_, rv⟩
      unfold start
      rw [List.getElem?_append_left (by rw [List.length_map]; omega), List.getElem?_map, hv]
      rfl
  · rw [List.getElem?_append_right (by simpa using hi), List.getElem?_replicate] at e
    split at e <;> cases e
section
variable {P : Program} {w : World} {K : PySem.W.Frag} {mg : Str → Option Value} {base : Heap}
/-- THE RULE for a def -/
theorem fnD_ok {k : Nat} {f : Addr} {fd : FuncData} {qual : Str} {st : Stmt} {N ps : List Str} {sp : DSp} {w0 : WS} (F : FnAt K qual st f fd) (S : FnScope N ps (defScope st)) (len : ∀ ds S Q E, sp ds S Q E → ds.length = ps.length)
    (body : ∀ (cdv : Value) (A : Around) (outer : List Env) (s : Shared) (H : Hp) (E : XK), Room k (A.deeper (envOfC qual (defScope st) s.heap.objs.size f cdv)) → (A.deeper (envOfC qual (defScope st) s.heap.objs.size f cdv)).guards = some [] →
      DSs (cxOf CX0 P w K mg base N qual (defScope st) f cdv A outer s H E).nox (defBody st) w0)
    (hw : ∀ ds S Q E, sp ds S Q E → w0 (endsOf Q) (startD N ds) S) : FnD P w K mg base (k + 1) f fd ps sp := by
  refine fnG_body F S (fun vs H Q E ⟨ds, S, Q0, E0, _, r, h, _⟩ => by rw [← r.length]; exact len _ _ _ _ h) fun cdv A outer s H vs Q E hr hg ⟨ds, S, Q0, E0, sr, r, h, an, _⟩ => ?_
  refine ⟨_, (body cdv A outer s H E hr hg).nox, startD N ds, S, endsOf Q0, ⟨sr, start_rel r⟩, hw ds S Q0 E0 h, fun sd S' σ H' q n st => ?_, Cl.ans an, fun _ _ _ _ q => q.elim, fun _ _ _ _ q => q.elim⟩
  exact Cl.ans an .non S' .non H' q n st.s rfl
end

/-! ### what is walked -/
structure ItD where
  items : List D
  ok : SO → Prop
structure JRel (K : PySem.W.Frag) (S0 : SO) (H0 : Hp) (J : ItD) (JV : It) : Prop where
  go : ∀ i S H, Nx S0 H0 S H → SRel K S H → J.ok S → i < J.items.length → JV.go i H
  stop : ∀ i S H, Nx S0 H0 S H → SRel K S H → J.ok S → i = J.items.length → JV.stop i H
  yld : ∀ i S H x H' d, Nx S0 H0 S H → SRel K S H → J.ok S → J.items[i]? = some d → JV.yld i H x H' → Nx S H S H' ∧ SRel K S H' ∧ Rel K S H' d x
abbrev WI := SD → SO → (ItD → SO → Prop) → Prop
def liftI (K : PySem.W.Frag) (w : WI) : TI := fun σ H R => ∃ sd S R0, Sta K sd S σ H ∧ w sd S R0 ∧ ∀ J S' H' JV, R0 J S' → Nx S H S' H' → SRel K S' H' → JRel K S' H' J JV → R JV H'
abbrev DI (X : Cx) (tg iter : Expr) (w : WI) : Prop := PI X tg iter (liftI X.K w)
section
variable {X : Cx} {tg e : Expr} {we : WE} {pos : Pos}
theorem pi_imp {tg it : Expr} {t t' : TI} (h : PI X tg it t) (i : ∀ σ H R, t' σ H R → t σ H R) : PI X tg it t' := ⟨fun pins s σ H R I q => h.run pins s σ H R I (i σ H R q)⟩
/-- a list or a tuple by its items -/
def seqD (d : D) (S : SO) (R : List D → (SO → Prop) → Prop) : Prop := match d with
  | .lst xs => R xs fun _ => True
  | .src xs => R xs fun _ => True
  | .tup xs => R xs fun _ => True
  | .kt xs => R xs fun _ => True
  | .tf xs => R xs fun _ => True
  | .obj a => ∃ xs, S a = some (.lst xs) ∧ R xs fun S => S a = some (.lst xs)
  | _ => False
def wSeqI (we : WE) : WI := fun sd S R => we sd S fun d S1 => seqD d S1 fun xs ok => R ⟨xs, ok⟩ S1
theorem SqL.uniq {K : PySem.W.Frag} {S : SO} {H : Hp} {a : Addr} {xs : List D} (h : S a = some (.lst xs)) (s : SRel K S H) : ∃ vs, SqL K H a vs ∧ Rels K S H xs vs := let ⟨vs, e, r⟩ := s a _ h; ⟨vs, .of e, r⟩
theorem jrel_lst {K : PySem.W.Frag} {S0 : SO} {H0 : Hp} {a : Addr} {xs : List D} {ok : SO → Prop} (h : ∀ S H, Nx S0 H0 S H → SRel K S H → ok S → ∃ vs, SqL K H a vs ∧ Rels K S H xs vs) : JRel K S0 H0 ⟨xs, ok⟩ (Itl K a) where
  go := fun i S H n s o hi => by
    obtain ⟨vs, q, r⟩ := h S H n s o
    obtain ⟨v, hv, _⟩ := r.get (List.getElem?_eq_getElem hi)
    exact ⟨vs, v, q, hv⟩
  stop := fun i S H n s o hi => by
    obtain ⟨vs, q, r⟩ := h S H n s o
    exact ⟨vs, q, by rw [← r.length]; exact Nat.le_of_eq hi.symm⟩
  yld := fun i S H x H' d n s o hi y => by
    obtain ⟨vs, q, r⟩ := h S H n s o
    obtain ⟨rfl, y⟩ := y
    obtain ⟨v, hv, rv⟩ := r.get hi
    have e := y vs q
    rw [hv] at e
    cases e
    exact ⟨.refl _ _, s, rv⟩
theorem jrel_tup {K : PySem.W.Frag} {S0 : SO} {H0 : Hp} {a : Addr} {xs : List D} {ok : SO → Prop} (h : ∀ S H, Nx S0 H0 S H → SRel K S H → ok S → ∃ vs, SqT K H a vs ∧ Rels K S H xs vs) : JRel K S0 H0 ⟨xs, ok⟩ (Itt K a) where
  go := fun i S H n s o hi => by
    obtain ⟨vs, q, r⟩ := h S H n s o
    obtain ⟨v, hv, _⟩ := r.get (List.getElem?_eq_getElem hi)
    exact ⟨vs, v, q, hv⟩
  stop := fun i S H n s o hi => by
    obtain ⟨vs, q, r⟩ := h S H n s o
    exact ⟨vs, q, by rw [← r.length]; exact Nat.le_of_eq hi.symm⟩
  yld := fun i S H x H' d n s o hi y => by
    obtain ⟨vs, q, r⟩ := h S H n s o
    obtain ⟨rfl, y⟩ := y
    obtain ⟨v, hv, rv⟩ := r.get hi
    have e := y vs q
    rw [hv] at e
    cases e
    exact ⟨.refl _ _, s, rv⟩
def rList (K : PySem.W.Frag) : V → Hp → (It → Hp → Prop) → Prop := fun x H1 R => ∃ a, x = .ref a ∧ (∃ xs, SqL K H1 a xs) ∧ R (Itl K a) H1
def rTup (K : PySem.W.Frag) : V → Hp → (It → Hp → Prop) → Prop := fun x H1 R => ∃ a, x = .ref a ∧ (∃ xs, SqT K H1 a xs) ∧ R (Itt K a) H1
theorem iter_list {pins : List (Addr × Obj)} {s : Shared} {σ : St} {H : Hp} {x : V} {v : Value} {R : It → Hp → Prop} (I : Inv X pins σ H s) (rx : RelV x v) (h : rList X.K x H R) : wpAny (model X.prog X.w) X.A (pyIter v) (PIE X pins σ tg R) X.xe s := by
  obtain ⟨a, rfl, ⟨xs, hq⟩, q⟩ := h
  cases rx
  obtain ⟨its, rv, p, hz⟩ := I.list hq
  refine wpAny_pyIter_list p.isList ⟨s.heap.objs.size, [s.heap.objs.size], _, _, H, rfl, I.kept (t' := s.toks) fun b o e => Heap.get?_push_of_some _ e, turn_list a _, ⟨_, Heap.get?_push_size _ rfl, rfl, rfl⟩, fun b hb => ?_, q⟩
  obtain rfl : b = s.heap.objs.size := by simpa using hb
  exact I.fpOk (Nat.le_refl _) (I.hok.fresh (Nat.le_refl _))
theorem iter_tup {pins : List (Addr × Obj)} {s : Shared} {σ : St} {H : Hp} {x : V} {v : Value} {R : It → Hp → Prop} (I : Inv X pins σ H s) (rx : RelV x v) (h : rTup X.K x H R) : wpAny (model X.prog X.w) X.A (pyIter v) (PIE X pins σ tg R) X.xe s := by
  obtain ⟨a, rfl, ⟨xs, hq⟩, q⟩ := h
  cases rx
  obtain ⟨its, rv, p, hz⟩ := I.tuple hq
  refine wpAny_pyIter_tuple (show s.heap.IsTuple a its.toArray from p) ⟨s.heap.objs.size, [s.heap.objs.size], _, _, H, rfl, I.kept (t' := s.toks) fun b o e => Heap.get?_push_of_some _ e, turn_tuple a _, ⟨_, Heap.get?_push_size _ rfl, rfl, rfl⟩, fun b hb => ?_, q⟩
  obtain rfl : b = s.heap.objs.size := by simpa using hb
  exact I.fpOk (Nat.le_refl _) (I.hok.fresh (Nat.le_refl _))
theorem di_seq (he : DE X e we) : DI X tg e (wSeqI we) := by
  refine ⟨fun pins s σ H R I ⟨sd, S, R0, st, q, an⟩ => ?_⟩
  refine thn (he.run pins s σ H (fun v H1 => rList X.K v H1 R ∨ rTup X.K v H1 R) I ⟨sd, S, _, st, q, fun d S1 v H1 q1 n1 s1 r1 => ?_⟩) fun v s1 ⟨x, H1, I1, r1, q1⟩ => q1.elim (iter_list I1 r1) (iter_tup I1 r1)
  cases d with
  | lst xs =>
    obtain ⟨a, vs, e, t, hv, r⟩ := r1
    refine .inl ⟨a, e, ⟨vs, .of hv⟩, an _ _ _ _ q1 n1 s1 (jrel_lst fun S2 H2 n2 s2 _ => ⟨vs, .of (n2 a _ t hv).2, r.nx n2⟩)⟩
  | src xs =>
    obtain ⟨a, vs, e, t, r⟩ := r1
    refine .inl ⟨a, e, ⟨vs, t.sq⟩, an _ _ _ _ q1 n1 s1 (jrel_lst fun S2 H2 n2 s2 _ => ⟨vs, (t.nx n2).sq, r.nx n2⟩)⟩
  | tup xs =>
    obtain ⟨a, vs, e, t, r⟩ := r1
    refine .inr ⟨a, e, ⟨vs, t.sq⟩, an _ _ _ _ q1 n1 s1 (jrel_tup fun S2 H2 n2 s2 _ => ⟨vs, (t.nx n2).sq, r.nx n2⟩)⟩
  | tf xs =>
    obtain ⟨a, vs, e, t, r⟩ := r1
    refine .inr ⟨a, e, ⟨vs, t.sq⟩, an _ _ _ _ q1 n1 s1 (jrel_tup fun S2 H2 n2 s2 _ => ⟨vs, (t.nx n2).sq, r.nx n2⟩)⟩
  | kt xs =>
    obtain ⟨a, vs, e, t, r⟩ := r1
    refine .inr ⟨a, e, ⟨vs, t.sq⟩, an _ _ _ _ q1 n1 s1 (jrel_tup fun S2 H2 n2 s2 _ => ⟨vs, t.sq, r.nx n2⟩)⟩
  | obj a =>
    obtain ⟨xs, hx, q1⟩ := q1
    obtain ⟨vs, hq, r⟩ := SqL.uniq hx s1
    exact .inl ⟨a, r1, ⟨vs, hq⟩, an _ _ _ _ q1 n1 s1 (jrel_lst fun S2 H2 n2 s2 o => SqL.uniq o s2)⟩
  | _ => exact False.elim q1
/-- range(n), range(a, b) -/
def rangeD (a b : Int) : List D := (List.range (b - a).toNat).map fun i => .int (a + (i : Nat))
theorem rangeD_get {a b : Int} {i : Nat} {d : D} (h : (rangeD a b)[i]? = some d) : d = .int (a + i) ∧ i < (b - a).toNat := by
  unfold rangeD at h
  rw [List.getElem?_map] at h
  by_cases hi : i < (b - a).toNat
  · rw [List.getElem?_range hi] at h
    exact ⟨(Option.some.inj h).symm, hi⟩
  · rw [List.getElem?_eq_none (by simpa using hi)] at h
    cases h
theorem rangeD_len {a b : Int} : (rangeD a b).length = (b - a).toNat := by unfold rangeD; rw [List.length_map, List.length_range]
theorem jrel_rng {K : PySem.W.Frag} {S0 : SO} {H0 : Hp} {a b : Int} {ok : SO → Prop} : JRel K S0 H0 ⟨rangeD a b, ok⟩ (Itr a (b - a).toNat) where
  go := fun i S H n s o hi => by
    rw [rangeD_len] at hi
    exact hi
  stop := fun i S H n s o hi => by
    rw [rangeD_len] at hi
    exact Nat.le_of_eq hi.symm
  yld := fun i S H x H' d n s o hi y => by
    obtain ⟨rfl, rfl⟩ := y
    obtain ⟨rfl, _⟩ := rangeD_get hi
    exact ⟨.refl _ _, s, rfl⟩
/-- the arguments are one int, two ints -/
def int1 (xs : List D) (k : Int → Prop) : Prop := match xs with
  | [.int j] => k j
  | _ => False
def int2 (xs : List D) (k : Int → Int → Prop) : Prop := match xs with
  | [.int i, .int j] => k i j
  | _ => False
theorem int1_of {xs : List D} {k : Int → Prop} (h : int1 xs k) : ∃ j, xs = [.int j] ∧ k j := by
  unfold int1 at h
  split at h
  · exact ⟨_, rfl, h⟩
  · exact h.elim
theorem int2_of {xs : List D} {k : Int → Int → Prop} (h : int2 xs k) : ∃ i j, xs = [.int i, .int j] ∧ k i j := by
  unfold int2 at h
  split at h
  · exact ⟨_, _, rfl, h⟩
  · exact h.elim
theorem Rels.int1 {K : PySem.W.Frag} {S : SO} {H : Hp} {j : Int} {vs : List V} (r : Rels K S H [.int j] vs) : vs = [.int j] := by
  obtain ⟨v, r', rfl, rv, e⟩ := r
  have e' : r' = [] := e
  have ev : v = .int j := rv
  rw [e', ev]
theorem Rels.int2 {K : PySem.W.Frag} {S : SO} {H : Hp} {i j : Int} {vs : List V} (r : Rels K S H [.int i, .int j] vs) : vs = [.int i, .int j] := by
  obtain ⟨v, u, rfl, rv, ru⟩ := r.two
  have ev : v = .int i := rv
  have eu : u = .int j := ru
  rw [ev, eu]
def wRng1 (w : WA) : WI := fun sd S R => w sd S fun xs S1 => int1 xs fun j => -(2 ^ 62) ≤ j ∧ j < 2 ^ 62 ∧ R ⟨rangeD 0 j, fun _ => True⟩ S1
def wRng2 (w : WA) : WI := fun sd S R => w sd S fun xs S1 => int2 xs fun i j => (-(2 ^ 62) ≤ i ∧ i < 2 ^ 62 ∧ -(2 ^ 62) ≤ j ∧ j < 2 ^ 62) ∧ R ⟨rangeD i j, fun _ => True⟩ S1
theorem di_rng1 {a : Expr} {w : WA} {p pos : Pos} (hm : X.mg "range" = none) (ha : DA X [a] w) (hg : Gl X "range" := by rfl) (hs : starEach [a] X.env = [(false, eval a X.env)] := by rfl) : DI X tg (.Call (.Name "range" p) [a] [] pos) (wRng1 w) := by
  refine pi_imp (pi_range1 hg hm ha hs) fun σ H R ⟨sd, S, R0, st, q, an⟩ => ⟨sd, S, _, st, q, fun xs S1 vs H1 q1 n1 s1 r1 => ?_⟩
  obtain ⟨j, rfl, h1, h2, q1⟩ := int1_of q1
  refine ⟨j, r1.int1, h1, h2, an _ _ _ _ q1 n1 s1 ?_⟩
  have z := jrel_rng (K := X.K) (S0 := S1) (H0 := H1) (a := 0) (b := j) (ok := fun _ => True)
  rwa [Int.sub_zero] at z
theorem di_rng2 {a b : Expr} {w : WA} {p pos : Pos} (hm : X.mg "range" = none) (ha : DA X [a, b] w) (hg : Gl X "range" := by rfl) (hs : starEach [a, b] X.env = [(false, eval a X.env), (false, eval b X.env)] := by rfl) (hs2 : starEach [b] X.env = [(false, eval b X.env)] := by rfl) :
    DI X tg (.Call (.Name "range" p) [a, b] [] pos) (wRng2 w) := by
  refine pi_imp (pi_range2 hg hm ha hs hs2) fun σ H R ⟨sd, S, R0, st, q, an⟩ => ⟨sd, S, _, st, q, fun xs S1 vs H1 q1 n1 s1 r1 => ?_⟩
  obtain ⟨i, j, rfl, h1, q1⟩ := int2_of q1
  exact ⟨i, j, r1.int2, h1, an _ _ _ _ q1 n1 s1 jrel_rng⟩

/-! ### for, while -/
structure ForD (wi : WI) (g : WG) (b : WS) (E : EndsD) (sd : SD) (S : SO) : Prop where
  ex : wi sd S fun J S1 => ∃ Pv : Nat → SD → SO → Prop, Pv 0 sd S1 ∧ (∀ i sd S, Pv i sd S → J.ok S) ∧
  (∀ i d sd S, J.items[i]? = some d → Pv i sd S → g d sd S fun sd' S' => b { nx := Pv (i + 1), rt := E.rt, bk := E.nx, ct := Pv (i + 1) } sd' S') ∧ (∀ sd S, Pv J.items.length sd S → E.nx sd S)
def wFor (wi : WI) (g : WG) (b : WS) : WS := fun E sd S => ForD wi g b E sd S
theorem ds_for {iter : Expr} {body : List Stmt} {wi : WI} {g : WG} {b : WS} (hp : PassesOwn (model X.prog X.w) X.A X.env X.xe) (hc : X.calm = true) (hi : DI X tg iter wi) (hg : DG X tg g) (hb : DSs X body b) (hs : ∀ x, foldedSetIterable iter X.env x = pure x := by intro _; rfl) :
    DS X (.For tg iter body [] pos) (wFor wi g b) := by
  refine ps_imp (ps_for hp hc hi hg hb hs) fun E σ H ⟨sd, S, E0, st, q, an⟩ => ⟨sd, S, _, st, q.ex, fun J S1 H1 JV ⟨Pv, h0, hok, hst, hend⟩ n1 s1 jr => ?_⟩
  refine ⟨fun i m σ' H' => ∃ sd' S', m = J.items.length - i ∧ i ≤ J.items.length ∧ Pv i sd' S' ∧ Sta X.K sd' S' σ' H' ∧ Nx S1 H1 S' H', ⟨J.items.length, sd, S1, by simp, Nat.zero_le _, h0, st.nx n1 s1, .refl _ _⟩, ?_⟩
  rintro i m σ' H' ⟨sd', S', rfl, hile, hp', st', n'⟩
  have o := hok i sd' S' hp'
  by_cases hlt : i < J.items.length
  · refine .inr ⟨jr.go i S' H' n' st'.s o hlt, _, fun σ2 H2 (h : ∃ sd2 S2, Pv (i + 1) sd2 S2 ∧ Sta X.K sd2 S2 σ2 H2 ∧ Nx S1 H1 S2 H2) => ?_, fun x H2 hy => ?_⟩
    · obtain ⟨sd2, S2, h1, h2, h3⟩ := h
      exact ⟨J.items.length - (i + 1), by omega, sd2, S2, rfl, hlt, h1, h2, h3⟩
    · have hi' := List.getElem?_eq_getElem hlt
      obtain ⟨n2, s2, r2⟩ := jr.yld i S' H' x H2 _ n' st'.s o hi' hy
      refine ⟨_, sd', S', _, st'.nx n2 s2, r2, hst i _ sd' S' hi' hp', fun sd3 S3 σ3 H3 q3 n3 st3 => ?_⟩
      have nn := n'.trans (n2.trans n3)
      refine ⟨sd3, S3, _, st3, q3, fun sd4 S4 σ4 H4 q4 n4 st4 => ⟨sd4, S4, q4, st4, nn.trans n4⟩, an.rt.nx (n1.trans nn), an.nx.nx (n1.trans nn), fun sd4 S4 σ4 H4 q4 n4 st4 => ⟨sd4, S4, q4, st4, nn.trans n4⟩⟩
  · have e : i = J.items.length := by omega
    subst e
    exact .inl ⟨jr.stop _ S' H' n' st'.s o rfl, an.nx _ _ _ _ (hend sd' S' hp') (n1.trans n') st'⟩
structure WhileD (c : WT) (b : WS) (E : EndsD) (sd : SD) (S : SO) : Prop where
  ex : ∃ Pv : Nat → SD → SO → Prop, (∃ m, Pv m sd S) ∧ ∀ m sd S, Pv m sd S → c sd S fun k S1 =>
  if k = true then b { nx := fun sd' S' => ∃ m', m' < m ∧ Pv m' sd' S', rt := E.rt, bk := E.nx, ct := fun sd' S' => ∃ m', m' < m ∧ Pv m' sd' S' } sd S1 else E.nx sd S1
def wWhile (c : WT) (b : WS) : WS := fun E sd S => WhileD c b E sd S
theorem ds_while {c : Expr} {body : List Stmt} {wc : WT} {b : WS} (hp : PassesOwn (model X.prog X.w) X.A X.env X.xe) (hc : DT X c wc) (hb : DSs X body b) : DS X (.While c body [] pos) (wWhile wc b) := by
  refine ps_imp (ps_while hp hc hb) fun E σ H ⟨sd, S, E0, st, ⟨Pv, ⟨m0, h0⟩, turn⟩, an⟩ => ?_
  refine ⟨fun m σ' H' => ∃ sd' S', Pv m sd' S' ∧ Sta X.K sd' S' σ' H' ∧ Nx S H S' H', ⟨m0, sd, S, h0, st, .refl _ _⟩, ?_⟩
  rintro m σ' H' ⟨sd', S', hp', st', n'⟩
  refine ⟨sd', S', _, st', turn m sd' S' hp', fun k S1 H1 q1 n1 s1 => ?_⟩
  have nn := n'.trans n1
  cases k with
  | true =>
    refine ⟨fun σ2 H2 => ∃ m', m' < m ∧ ∃ sd2 S2, Pv m' sd2 S2 ∧ Sta X.K sd2 S2 σ2 H2 ∧ Nx S H S2 H2, fun σ2 H2 h => h, sd', S1, _, st'.nx n1 s1, q1, ?_⟩
    exact ⟨fun sd4 S4 σ4 H4 ⟨m', hm, q4⟩ n4 st4 => ⟨m', hm, sd4, S4, q4, st4, nn.trans n4⟩, an.rt.nx nn, an.nx.nx nn, fun sd4 S4 σ4 H4 ⟨m', hm, q4⟩ n4 st4 => ⟨m', hm, sd4, S4, q4, st4, nn.trans n4⟩⟩
  | false => exact an.nx _ _ _ _ q1 nn (st'.nx n1 s1)
end
end L2.DL

/-! DL5: list comprehensions -/
namespace L2.DL
open PySem PySem.Spec PyProof.Rows

def wipeD (sd : SD) : List Nat → SD
  | [] => sd
  | v :: vs => (wipeD sd vs).set v none
theorem wipe_get (σ : St) (vs : List Nat) (j : Nat) : (wipe σ vs)[j]? = if j ∈ vs then (σ[j]?).map (fun _ => none) else σ[j]? := by
  induction vs with
  | nil => simp [wipe]
  | cons v vs ih =>
    unfold wipe
    by_cases hj : v = j
    · subst hj
      by_cases hl : v < (wipe σ vs).length
      · rw [List.getElem?_set_self hl]
        rw [wipe_length] at hl
        rw [if_pos (List.mem_cons_self ..), List.getElem?_eq_getElem hl]
        rfl
      · rw [wipe_length] at hl
        have e : σ[v]? = none := List.getElem?_eq_none (by omega)
        rw [List.getElem?_eq_none (by rw [List.length_set, wipe_length]; omega), e]
        simp
    · rw [List.getElem?_set_ne hj, ih]
      by_cases hm : j ∈ vs
      · rw [if_pos hm, if_pos (List.mem_cons_of_mem _ hm)]
      · rw [if_neg hm, if_neg (by simp only [List.mem_cons, not_or]; exact ⟨fun e => hj e.symm, hm⟩)]
theorem wipe_set {σ : St} {vs : List Nat} {i : Nat} {x : Option V} (h : i ∈ vs) : wipe (σ.set i x) vs = wipe σ vs := by
  refine List.ext_getElem? fun j => ?_
  rw [wipe_get, wipe_get]
  by_cases hj : j ∈ vs
  · rw [if_pos hj, if_pos hj]
    by_cases hi : i = j
    · subst hi
      by_cases hl : i < σ.length
      · rw [List.getElem?_set_self hl, List.getElem?_eq_getElem hl]
        rfl
      · rw [List.getElem?_eq_none (by rw [List.length_set]; omega), List.getElem?_eq_none (by omega)]
    · rw [List.getElem?_set_ne hi]
  · rw [if_neg hj, if_neg hj, List.getElem?_set_ne fun e => hj (by rw [← e]; exact h)]
theorem wipe_wipe {σ : St} {vs : List Nat} : wipe (wipe σ vs) vs = wipe σ vs := by
  refine List.ext_getElem? fun j => ?_
  rw [wipe_get, wipe_get]
  by_cases hj : j ∈ vs
  · rw [if_pos hj, if_pos hj]
    cases σ[j]? with
    | none => rfl
    | some x => rfl
  · rw [if_neg hj, if_neg hj]
theorem wipeD_some {sd : SD} {i : Nat} {d : D} : ∀ {vs : List Nat}, (wipeD sd vs)[i]? = some (some d) → sd[i]? = some (some d) ∧ i ∉ vs
  | [], h => ⟨h, by simp⟩
  | v :: vs, h => by
    unfold wipeD at h
    by_cases hi : v = i
    · subst hi
      by_cases hv : v < (wipeD sd vs).length
      · rw [List.getElem?_set_self hv] at h
        cases h
      · rw [List.getElem?_eq_none (by simpa using hv)] at h
        cases h
    · rw [List.getElem?_set_ne hi] at h
      obtain ⟨h1, h2⟩ := wipeD_some h
      exact ⟨h1, by simp only [List.mem_cons, not_or]; exact ⟨fun e => hi e.symm, h2⟩⟩
theorem wipeD_length (sd : SD) : ∀ vs : List Nat, (wipeD sd vs).length = sd.length
  | [] => rfl
  | v :: vs => by unfold wipeD; rw [List.length_set, wipeD_length sd vs]
theorem Sta.wipe {K : PySem.W.Frag} {sd : SD} {S : SO} {σ : St} {H : Hp} (h : Sta K sd S σ H) (vs : List Nat) : Sta K (wipeD sd vs) S (L2.wipe σ vs) H := by
  refine ⟨h.s, by rw [wipeD_length, wipe_length]; exact h.r.1, fun i d e => ?_⟩
  obtain ⟨e1, e2⟩ := wipeD_some e
  obtain ⟨v, hv, r⟩ := h.r.2 i d e1
  exact ⟨v, by rw [wipe_out e2]; exact hv, r⟩

/-- a block's target: a name, a tuple of names -/
inductive NT where
  | n (i : Nat)
  | t (l : List Nat)
def NT.ix : NT → List Nat
  | .n i => [i]
  | .t l => l
def gNs : List Nat → TGs
  | [] => gNil
  | i :: l => gCons (gName i) (gNs l)
def gNT (K : PySem.W.Frag) : NT → TG
  | .n i => gName i
  | .t l => gTup K l.length (gNs l)
def putAll : List Nat → List D → SD → SD
  | i :: l, d :: ds, sd => putAll l ds (sd.set i (some d))
  | _, _, sd => sd
/-- the slots with the target's names set -/
def putNT : NT → D → SD → (SD → Prop) → Prop
  | .n i, d, sd, k => k (sd.set i (some d))
  | .t l, d, sd, k => match d with
    | .tup xs => xs.length = l.length ∧ k (putAll l xs sd)
    | _ => False
theorem gNs_go {K : PySem.W.Frag} {S : SO} {H : Hp} {vs : List Nat} {Q : St → Hp → Prop} : ∀ {l : List Nat} {ds : List D} {us : List V} {sd : SD} {σ : St}, (∀ i ∈ l, i ∈ vs) → ds.length = l.length → Rels K S H ds us → Sta K sd S σ H →
    (∀ σ2, Sta K (putAll l ds sd) S σ2 H → wipe σ2 vs = wipe σ vs → Q σ2 H) → gNs l us σ H Q
  | [], ds, us, sd, σ, hl, e, r, st, h => by
    cases ds with
    | nil =>
      have eu : us = [] := r
      exact ⟨eu, h σ st rfl⟩
    | cons _ _ => simp at e
  | i :: l, ds, us, sd, σ, hl, e, r, st, h => by
    cases ds with
    | nil => simp at e
    | cons d ds =>
      obtain ⟨v, r', rfl, rv, rr⟩ := r
      refine ⟨v, r', rfl, ?_⟩
      refine gNs_go (l := l) (fun j hj => hl j (List.mem_cons_of_mem _ hj)) (by simpa using e) rr (st.set i rv) fun σ2 st2 hw => h σ2 st2 ?_
      rw [hw, wipe_set (hl i (List.mem_cons_self ..))]
theorem nt_go {K : PySem.W.Frag} {S : SO} {H : Hp} {vs : List Nat} {Q : St → Hp → Prop} {nt : NT} {d : D} {v : V} {sd : SD} {σ : St} {k : SD → Prop} (hs : ∀ i ∈ nt.ix, i ∈ vs) (st : Sta K sd S σ H) (r : Rel K S H d v) (hk : putNT nt d sd k)
    (h : ∀ sd2 σ2, k sd2 → Sta K sd2 S σ2 H → wipe σ2 vs = wipe σ vs → Q σ2 H) : gNT K nt v σ H Q := by
  cases nt with
  | n i => exact h _ _ hk (st.set i r) (wipe_set (hs i (List.mem_cons_self ..)))
  | t l =>
    cases d with
    | tup xs =>
      obtain ⟨hl, hk⟩ := hk
      obtain ⟨a, us, e, t, rr⟩ := r
      exact ⟨a, us, e, t.sq, by rw [← rr.length]; exact hl, gNs_go hs hl rr st fun σ2 st2 hw => h _ σ2 hk st2 hw⟩
    | _ => exact False.elim hk

abbrev DTs (X : Cx) (ifs : List Expr) (w : WT) : Prop := PTs X ifs (liftT X.K w)
def wYes : WT := fun _ S Q => Q true S
section
variable {X : Cx}
theorem dts_nil : DTs X [] wYes := ⟨fun pins s σ H Q I ⟨sd, S, Q0, st, q, an⟩ => pts_nil.run pins s σ H Q I (an _ _ _ q (Nx.refl _ _) st.s)⟩
theorem dts_one {c : Expr} {w : WT} (h : DT X c w) : DTs X [c] w := pts_one h
/-- a reading with its wish weakened -/
def up (we : WE) : WE := fun sd S Q => ∃ Q0 : KD, we sd S Q0 ∧ ∀ d S', Q0 d S' → Q d S'
def upT (tt : WT) : WT := fun sd S Q => ∃ Q0 : Bool → SO → Prop, tt sd S Q0 ∧ ∀ d S', Q0 d S' → Q d S'
theorem up_lift {K : PySem.W.Frag} {we : WE} {σ : St} {H : Hp} {Q : VK} (h : lift K (up we) σ H Q) : lift K we σ H Q := let ⟨sd, S, Q0, st, ⟨Q1, q, i⟩, an⟩ := h; ⟨sd, S, Q1, st, q, fun d S' v H' q' => an d S' v H' (i d S' q')⟩
theorem upT_lift {K : PySem.W.Frag} {we : WT} {σ : St} {H : Hp} {Q : Bool → Hp → Prop} (h : liftT K (upT we) σ H Q) : liftT K we σ H Q := let ⟨sd, S, Q0, st, ⟨Q1, q, i⟩, an⟩ := h; ⟨sd, S, Q1, st, q, fun d S' H' q' => an d S' H' (i d S' q')⟩
/-- a list comprehension: p the new list, which the element may not touch; R what is wanted behind it -/
structure LcG (wi : WI) (nt : NT) (tt : WT) (we : WE) (vs : List Nat) (R : Addr → SO → Prop) (sd : SD) (S : SO) : Prop where
  ex : wi sd S fun J S1 => ∀ p, S1 p = none → ∃ Pv : Nat → SO → Prop, Pv 0 (S1.set p (.lst [])) ∧ (∀ i S, Pv i S → J.ok S) ∧
  (∀ i d S, J.items[i]? = some d → Pv i S → putNT nt d (wipeD sd vs) fun sd2 => upT tt sd2 S fun b S2 => if b = true then up we sd2 S2 fun y S3 => ∃ acc, S3 p = some (.lst acc) ∧ acc.length ≤ 1000000 ∧ Pv (i + 1) (S3.set p (.lst (acc ++ [y]))) else Pv (i + 1) S2) ∧
  (∀ S, Pv J.items.length S → R p S)
theorem lcG_tLc {wi : WI} {nt : NT} {tt : WT} {we : WE} {vs : List Nat} {R : Addr → SO → Prop} {σ : St} {H : Hp} {Q : VK} {sd : SD} {S : SO} (hs : ∀ i ∈ nt.ix, i ∈ vs) (st : Sta X.K sd S σ H) (q : LcG wi nt tt we vs R sd S)
    (hR : ∀ p S' H', R p S' → Nx S H S' H' → SRel X.K S' H' → Q (.ref p) H') : tLc (liftI X.K wi) (gNT X.K nt) (liftT X.K tt) (lift X.K we) vs σ H Q := by
  refine ⟨sd, S, _, st, q.ex, fun J S1 H1 JV q1 n1 s1 jr p hp => ?_⟩
  obtain ⟨Pv, h0, hok, hst, hend⟩ := q1 p (s1.free hp)
  have n2 : Nx S1 H1 (S1.set p (.lst [])) (upd H1 p (.lst [])) := nx_obj hp (s1.free hp)
  have s2 : SRel X.K (S1.set p (.lst [])) (upd H1 p (.lst [])) := srel_put s1 n2 ⟨[], upd_same, rfl⟩
  refine ⟨fun i m H' => ∃ S', m = J.items.length - i ∧ i ≤ J.items.length ∧ Pv i S' ∧ SRel X.K S' H' ∧ Nx S1 H1 S' H', ⟨J.items.length, _, by simp, Nat.zero_le _, h0, s2, n2⟩, ?_⟩
  rintro i m H' ⟨S', rfl, hile, hp', s', n'⟩
  have o := hok i S' hp'
  by_cases hlt : i < J.items.length
  · refine .inr ⟨jr.go i S' H' n' s' o hlt, fun H2 => ∃ S2, Pv (i + 1) S2 ∧ SRel X.K S2 H2 ∧ Nx S1 H1 S2 H2, fun H2 ⟨S2, h1, h2, h3⟩ => ⟨J.items.length - (i + 1), by omega, S2, rfl, hlt, h1, h2, h3⟩, fun x H2 hy => ?_⟩
    have hi' := List.getElem?_eq_getElem hlt
    obtain ⟨n3, s3, r3⟩ := jr.yld i S' H' x H2 _ n' s' o hi' hy
    have nn := n'.trans n3
    refine nt_go hs ((st.nx (n1.trans nn) s3).wipe vs) r3 (hst i _ S' hi' hp') fun sd2 σ2 hk st2 hw => ⟨by rw [hw, wipe_wipe], upT_lift ?_⟩
    refine ⟨sd2, S', _, st2, hk, fun b S4 H4 q4 n4 s4 => ?_⟩
    cases b with
    | false => exact ⟨S4, q4, s4, nn.trans n4⟩
    | true =>
      refine up_lift ⟨sd2, S4, _, st2.nx n4 s4, q4, fun y S5 v H5 ⟨acc, ha, hl, q5⟩ n5 s5 r5 => ?_⟩
      obtain ⟨us, hu, ru⟩ := s5 p _ ha
      have n6 : Nx S5 H5 (S5.set p (.lst (acc ++ [y]))) (upd H5 p (.lst (us ++ [v]))) := nx_put ha
      exact ⟨us, hu, by rw [← ru.length]; exact Nat.lt_of_le_of_lt hl (by rw [sizeLine_eq]; decide), _, q5, srel_put s5 n6 ⟨_, upd_same, (ru.app (.one r5)).nx n6⟩, nn.trans (n4.trans (n5.trans n6))⟩
  · have e : i = J.items.length := by omega
    subst e
    exact .inl ⟨jr.stop _ S' H' n' s' o rfl, hR p S' H' (hend S' hp') (n1.trans n') s'⟩
/-- .. the new list an object; frozen at the end -/
def wLc (wi : WI) (nt : NT) (tt : WT) (we : WE) (vs : List Nat) : WE := fun sd S Q => LcG wi nt tt we vs (fun p S' => Q (.obj p) S') sd S
def wLcF (wi : WI) (nt : NT) (tt : WT) (we : WE) (vs : List Nat) : WE := fun sd S Q => LcG wi nt tt we vs (fun p S' => ∃ acc, S' p = some (.lst acc) ∧ Q (.lst acc) (S'.del p)) sd S
/-- .. and its element and test change nothing and look at nothing that changes: the list is f of the items -/
def Ext (S S' : SO) : Prop := ∀ a o, S a = some o → S' a = some o
structure LcP (wi : WI) (nt : NT) (tt : WT) (we : WE) (vs : List Nat) (sd : SD) (S : SO) (Q : KD) : Prop where
  ex : ∃ R : ItD → SO → Prop, wi sd S R ∧ ∀ J S1, R J S1 → (∀ S', Ext S1 S' → J.ok S') ∧ J.items.length ≤ 1000000 ∧ ∃ f : D → Option D, (∀ d ∈ J.items, ∀ S', Ext S1 S' → putNT nt d (wipeD sd vs) fun sd2 =>
  tt sd2 S' fun b S2 => S2 = S' ∧ if b = true then up we sd2 S' fun y S3 => S3 = S' ∧ f d = some y else f d = none) ∧ Q (.lst (J.items.filterMap f)) S1
def wLcP (wi : WI) (nt : NT) (tt : WT) (we : WE) (vs : List Nat) : WE := fun sd S Q => LcP wi nt tt we vs sd S Q
theorem ext_set {S : SO} {p : Addr} {o : DO} (h : S p = none) : Ext S (S.set p o) := fun a u e => by rw [set_ne (so_ne e h)]; exact e
theorem lcP_turn {nt : NT} {tt : WT} {we : WE} {vs : List Nat} {sd : SD} {S1 : SO} {J : ItD} {f : D → Option D} {p : Addr} {i : Nat} {d : D} (hl : J.items.length ≤ 1000000) (hi : J.items[i]? = some d)
    (h : ∀ S', Ext S1 S' → putNT nt d (wipeD sd vs) fun sd2 => tt sd2 S' fun b S2 => S2 = S' ∧ if b = true then up we sd2 S' fun y S3 => S3 = S' ∧ f d = some y else f d = none) (hp : S1 p = none) :
    putNT nt d (wipeD sd vs) fun sd2 => upT tt sd2 (S1.set p (.lst ((J.items.take i).filterMap f))) fun b S2 => if b = true then up we sd2 S2 fun y S3 => ∃ acc, S3 p = some (.lst acc) ∧ acc.length ≤ 1000000 ∧ S3.set p (.lst (acc ++ [y])) = S1.set p (.lst ((J.items.take (i + 1)).filterMap f))
      else S2 = S1.set p (.lst ((J.items.take (i + 1)).filterMap f)) := by
  have hn := h _ (ext_set (o := .lst ((J.items.take i).filterMap f)) hp)
  have htk : (J.items.take (i + 1)).filterMap f = (J.items.take i).filterMap f ++ (f d).toList := by
    rw [List.take_add_one, hi, List.filterMap_append]
    cases q : f d with
    | none => simp [q]
    | some y => simp [q]
  have hlen : ((J.items.take i).filterMap f).length ≤ 1000000 := by
    have h1 := List.length_filterMap_le f (J.items.take i)
    have h2 : (J.items.take i).length ≤ J.items.length := by rw [List.length_take]; omega
    omega
  have go : ∀ sd2, (tt sd2 (S1.set p (.lst ((J.items.take i).filterMap f))) fun b S2 => S2 = S1.set p (.lst ((J.items.take i).filterMap f)) ∧ if b = true then up we sd2 (S1.set p (.lst ((J.items.take i).filterMap f))) fun y S3 => S3 = S1.set p (.lst ((J.items.take i).filterMap f)) ∧ f d = some y else f d = none) →
      upT tt sd2 (S1.set p (.lst ((J.items.take i).filterMap f))) fun b S2 => if b = true then up we sd2 S2 fun y S3 => ∃ acc, S3 p = some (.lst acc) ∧ acc.length ≤ 1000000 ∧ S3.set p (.lst (acc ++ [y])) = S1.set p (.lst ((J.items.take (i + 1)).filterMap f)) else S2 = S1.set p (.lst ((J.items.take (i + 1)).filterMap f)) := by
    intro sd2 hh
    refine ⟨_, hh, fun b S2 ⟨e2, q2⟩ => ?_⟩
    subst e2
    cases b with
    | false =>
      have q2' : f d = none := q2
      show _ = _
      rw [htk, q2']
      simp
    | true =>
      obtain ⟨Q0, q3, i3⟩ := q2
      refine ⟨Q0, q3, fun y S3 q4 => ?_⟩
      obtain ⟨e3, q5⟩ := i3 y S3 q4
      subst e3
      refine ⟨_, set_same, hlen, ?_⟩
      rw [set_set, htk, q5]
      rfl
  cases nt with
  | n j => exact go _ hn
  | t l =>
    cases d with
    | tup xs => exact ⟨hn.1, go _ hn.2⟩
    | _ => exact False.elim hn
variable {elt tg iter : Expr} {ifs : List Expr} {scope : Scope} {own : List (Str × Nat)} {pos : Pos} {wi : WI} {nt : NT} {tt : WT} {we : WE}
theorem lcP_tLc {σ : St} {H : Hp} {Q : VK} (hx : ∀ i ∈ nt.ix, i ∈ own.map (·.2)) (h : lift X.K (wLcP wi nt tt we (own.map (·.2))) σ H Q) : tLc (liftI X.K wi) (gNT X.K nt) (liftT X.K tt) (lift X.K we) (own.map (·.2)) σ H Q := by
  obtain ⟨sd, S, Q0, st, ⟨R, q, i⟩, an⟩ := h
  refine ⟨sd, S, R, st, q, fun J S1 H1 JV qR n1 s1 jr => ?_⟩
  obtain ⟨hok, hl, f, hf, q1⟩ := i J S1 qR
  obtain ⟨sd', S', R0, st', q', an'⟩ := lcG_tLc (X := X) (wi := fun _ S R => S = S1 ∧ R J S1) (R := fun p S' => S' = S1.set p (.lst (J.items.filterMap f)) ∧ S1 p = none) (Q := Q) hx (st.nx n1 s1) ⟨⟨rfl, fun p hp => ⟨fun i S => S = S1.set p (.lst ((J.items.take i).filterMap f)), by simp, fun i S e => by rw [e]; exact hok _ (ext_set hp),
      fun i d S hi e => by subst e; exact lcP_turn hl hi (hf d (List.mem_of_getElem? hi)) hp, fun S e => ⟨by rw [e, List.take_length], hp⟩⟩⟩⟩
    fun p S' H' ⟨e, hp⟩ n' s' => by
      subst e
      obtain ⟨n2, s2, r2⟩ := frz_lst s' set_same
      rw [del_set hp] at n2 s2 r2
      exact an _ _ _ _ q1 (n1.trans (n'.trans n2)) s2 r2
  obtain ⟨rfl, q'⟩ := q'
  exact an' J S' H1 JV q' (.refl _ _) st'.s jr
abbrev Blk (X : Cx) (scope : Scope) (T : Cx → Prop) : Prop := ∀ (s : Shared) (H : Hp) (C : Addr) (cl : List (Str × Addr)) (fp : List Addr), T (X.blk s H scope (compEnvC scope cl C X.env) fp)
theorem de_lcF (hc : X.calm = true) (hN : X.N.Nodup) (hi : DI X tg iter wi) (ok : BlkOk X.N X.env.scope scope own) (hx : ∀ i ∈ nt.ix, i ∈ own.map (·.2)) (hg : Blk X scope fun Y => PG Y tg (gNT X.K nt)) (ht : Blk X scope fun Y => PTs Y ifs (liftT X.K tt)) (he : Blk X scope fun Y => PE Y elt (lift X.K we))
    (hs : ∀ x, foldedSetIterable iter X.env x = pure x := by intro _; rfl) : DE X (.ListComp elt [⟨tg, iter, ifs, 0⟩] scope pos) (wLcF wi nt tt we (own.map (·.2))) :=
  pe_imp (pe_lc hc hN hi ok hg ht he hs) fun σ H Q ⟨sd, S, Q0, st, q, an⟩ => lcG_tLc hx st q fun p S' H' ⟨acc, ha, q'⟩ n' s' => by
    obtain ⟨n2, s2, r2⟩ := frz_lst s' ha
    exact an _ _ _ _ q' (n'.trans n2) s2 r2
theorem de_lcP (hc : X.calm = true) (hN : X.N.Nodup) (hi : DI X tg iter wi) (ok : BlkOk X.N X.env.scope scope own) (hx : ∀ i ∈ nt.ix, i ∈ own.map (·.2)) (hg : Blk X scope fun Y => PG Y tg (gNT X.K nt)) (ht : Blk X scope fun Y => PTs Y ifs (liftT X.K tt)) (he : Blk X scope fun Y => PE Y elt (lift X.K we))
    (hs : ∀ x, foldedSetIterable iter X.env x = pure x := by intro _; rfl) : DE X (.ListComp elt [⟨tg, iter, ifs, 0⟩] scope pos) (wLcP wi nt tt we (own.map (·.2))) :=
  pe_imp (pe_lc hc hN hi ok hg ht he hs) fun σ H Q h => lcP_tLc hx h
/-- name = [..], stored within the comprehension -/
theorem setLc_lift {i : Nat} {wl : WE} {E : Ends} {σ : St} {H : Hp} {wi : WI} {nt : NT} {tt : WT} {we : WE} {vs : List Nat} (hh : ∀ Q, lift X.K wl σ H Q → tLc (liftI X.K wi) (gNT X.K nt) (liftT X.K tt) (lift X.K we) vs σ H Q)
    (h : liftS X.K (wAsg wl (gV i)) E σ H) : tAsg (tLc (liftI X.K wi) (gNT X.K nt) (liftT X.K tt) (lift X.K we) vs) (gName i) E σ H := by
  obtain ⟨sd, S, E0, st, q, an⟩ := h
  exact hh _ ⟨sd, S, _, st, q, fun d S1 v H1 q1 n1 s1 r1 => an.nx _ _ _ _ q1 n1 ((st.nx n1 s1).set i r1)⟩
theorem ds_setLcP {i : Nat} {y : Str} {py spos : Pos} (hc : X.calm = true) (hN : X.N.Nodup) (hi : DI X tg iter wi) (ok : BlkOk X.N X.env.scope scope own) (hx : ∀ i ∈ nt.ix, i ∈ own.map (·.2)) (hg : Blk X scope fun Y => PG Y tg (gNT X.K nt)) (ht : Blk X scope fun Y => PTs Y ifs (liftT X.K tt)) (he : Blk X scope fun Y => PE Y elt (lift X.K we))
    (hy : X.N[i]? = some y := by rfl) (hyl : X.env.scope.names.lookup y = some .local := by rfl) (hsw : swapsWith (.ListComp elt [⟨tg, iter, ifs, 0⟩] scope pos) (some (.Name y py)) spos.line X.env = pure true := by exact sw_true rfl rfl rfl (by decide +kernel)) (hs : ∀ x, foldedSetIterable iter X.env x = pure x := by intro _; rfl) :
    DS X (.Assign [.Name y py] (.ListComp elt [⟨tg, iter, ifs, 0⟩] scope pos) spos) (wAsg (wLcP wi nt tt we (own.map (·.2))) (gV i)) := ps_imp (ps_setLc hc hN hy hyl hsw hi ok hg ht he hs) fun E σ H h => setLc_lift (fun Q h => lcP_tLc hx h) h
end
end L2.DL

/-! DL6: operators, comparisons, built-ins over data -/
namespace L2.DL
open PySem PySem.Spec PyProof.Rows

/-! ### plain data -/
mutual
def pyD : D → Option PyData
  | .non => some .none
  | .bl b => some (.bool b)
  | .int i => some (.int i)
  | .str x => some (.str x)
  | .tup ds => (pyDs ds).map .tuple
  | .kt ds => (pyDs ds).map .tuple
  | .tf ds => (pyDs ds).map .tuple
  | .lst ds => (pyDs ds).map .list
  | .src ds => (pyDs ds).map .list
  | .ty _ => none
  | .dic _ _ => none
  | .fd _ _ => none
  | .gh _ _ => none
  | .ins _ _ => none
  | .obj _ => none
def pyDs : List D → Option (List PyData)
  | [] => some []
  | d :: ds => (pyD d).bind fun p => (pyDs ds).map fun ps => p :: ps
end
/-- the items of a list that may change -/
def objL : Option DO → Option (List D)
  | some (.lst ds) => some ds
  | _ => none
theorem objL_of {o : Option DO} {ds : List D} (h : objL o = some ds) : o = some (.lst ds) := by
  cases o with
  | none => cases h
  | some u =>
    cases u with
    | lst xs =>
      cases h
      rfl
    | _ => cases h
/-- .. also of a list that may change -/
def pyS (S : SO) : D → Option PyData
  | .obj a => (objL (S a)).bind fun ds => (pyDs ds).map .list
  | d => pyD d
section
variable {K : PySem.W.Frag} {S : SO} {H : Hp}
mutual
theorem rel_dp : ∀ (d : D) (v : V) (p : PyData), Rel K S H d v → pyD d = some p → Dp K H v p
  | .non, v, p, r, e => by
    cases e
    have r' : v = .non := r
    rw [r']
    exact .non
  | .bl b, v, p, r, e => by
    cases e
    have r' : v = .bl b := r
    rw [r']
    exact .bl b
  | .int b, v, p, r, e => by
    cases e
    have r' : v = .int b := r
    rw [r']
    exact .int b
  | .str b, v, p, r, e => by
    cases e
    have r' : v = .str b := r
    rw [r']
    exact .str b
  | .ty _, _, _, _, e => by cases e
  | .dic _ _, _, _, _, e => by cases e
  | .fd _ _, _, _, _, e => by cases e
  | .gh _ _, _, _, _, e => by cases e
  | .ins _ _, _, _, _, e => by cases e
  | .obj _, _, _, _, e => by cases e
  | .tup ds, v, p, r, e => by
    obtain ⟨ps, hp, rfl⟩ := Option.map_eq_some_iff.mp (show (pyDs ds).map PyData.tuple = some p from e)
    obtain ⟨a, vs, rfl, t, r⟩ := r
    exact .tup t.sq (rels_dp ds vs ps r hp)
  | .kt ds, v, p, r, e => by
    obtain ⟨ps, hp, rfl⟩ := Option.map_eq_some_iff.mp (show (pyDs ds).map PyData.tuple = some p from e)
    obtain ⟨a, vs, rfl, t, r⟩ := r
    exact .tup t.sq (rels_dp ds vs ps r hp)
  | .tf ds, v, p, r, e => by
    obtain ⟨ps, hp, rfl⟩ := Option.map_eq_some_iff.mp (show (pyDs ds).map PyData.tuple = some p from e)
    obtain ⟨a, vs, rfl, t, r⟩ := r
    exact .tup t.sq (rels_dp ds vs ps r hp)
  | .lst ds, v, p, r, e => by
    obtain ⟨ps, hp, rfl⟩ := Option.map_eq_some_iff.mp (show (pyDs ds).map PyData.list = some p from e)
    obtain ⟨a, vs, rfl, _, t, r⟩ := r
    exact .lst (.of t) (rels_dp ds vs ps r hp)
  | .src ds, v, p, r, e => by
    obtain ⟨ps, hp, rfl⟩ := Option.map_eq_some_iff.mp (show (pyDs ds).map PyData.list = some p from e)
    obtain ⟨a, vs, rfl, t, r⟩ := r
    exact .lst t.sq (rels_dp ds vs ps r hp)
theorem rels_dp : ∀ (ds : List D) (vs : List V) (ps : List PyData), Rels K S H ds vs → pyDs ds = some ps → DpAll K H vs ps
  | [], vs, ps, r, e => by
    cases e
    have r' : vs = [] := r
    rw [r']
    exact .nil
  | d :: ds, vs, ps, r, e => by
    obtain ⟨p, hp, e2⟩ := Option.bind_eq_some_iff.mp (show (pyD d).bind (fun p => (pyDs ds).map fun ps => p :: ps) = some ps from e)
    obtain ⟨qs, hq, rfl⟩ := Option.map_eq_some_iff.mp e2
    obtain ⟨v, us, rfl, r1, r2⟩ := r
    exact .cons (rel_dp d v p r1 hp) (rels_dp ds us qs r2 hq)
end
theorem relS_dp {d : D} {v : V} {p : PyData} (s : SRel K S H) (r : Rel K S H d v) (e : pyS S d = some p) : Dp K H v p := by
  cases d with
  | obj a =>
    obtain ⟨ds, hs, e2⟩ := Option.bind_eq_some_iff.mp (show (objL (S a)).bind (fun ds => (pyDs ds).map PyData.list) = some p from e)
    obtain ⟨ps, hp, rfl⟩ := Option.map_eq_some_iff.mp e2
    obtain ⟨vs, hv, rv⟩ := s a _ (objL_of hs)
    have r' : v = .ref a := r
    rw [r']
    exact .lst (.of hv) (rels_dp ds vs ps rv hp)
  | _ => exact rel_dp _ v p r e
end
/-- the items of a list, of a sequence -/
def lstD (S : SO) : D → Option (List D)
  | .lst xs => some xs
  | .obj a => objL (S a)
  | _ => none
theorem lstD_at {K : PySem.W.Frag} {S : SO} {H : Hp} {d : D} {v : V} {xs : List D} (s : SRel K S H) (r : Rel K S H d v) (e : lstD S d = some xs) : ∃ a vs, v = .ref a ∧ H a = some (.lst vs) ∧ Rels K S H xs vs := by
  cases d with
  | lst ys =>
    cases e
    obtain ⟨a, vs, h1, _, h2, h3⟩ := r
    exact ⟨a, vs, h1, h2, h3⟩
  | obj a =>
    obtain ⟨vs, hv, rv⟩ := s a _ (objL_of e)
    exact ⟨a, vs, r, hv, rv⟩
  | _ => cases e
/-- a list or tuple, read -/
def seqX (S : SO) : D → Option (List D)
  | .tup xs => some xs
  | .kt xs => some xs
  | .tf xs => some xs
  | .src xs => some xs
  | d => lstD S d
theorem seqX_at {K : PySem.W.Frag} {S : SO} {H : Hp} {d : D} {v : V} {xs : List D} (s : SRel K S H) (r : Rel K S H d v) (e : seqX S d = some xs) : ∃ a vs, v = .ref a ∧ (SqL K H a vs ∨ SqT K H a vs) ∧ Rels K S H xs vs := by
  have via : ∀ {d : D}, Rel K S H d v → lstD S d = some xs → ∃ a vs, v = .ref a ∧ (SqL K H a vs ∨ SqT K H a vs) ∧ Rels K S H xs vs := fun r e => let ⟨a, vs, h1, h2, h3⟩ := lstD_at s r e; ⟨a, vs, h1, .inl (.of h2), h3⟩
  cases d with
  | tup ys =>
    cases e
    obtain ⟨a, vs, h1, h2, h3⟩ := r
    exact ⟨a, vs, h1, .inr h2.sq, h3⟩
  | kt ys =>
    cases e
    obtain ⟨a, vs, h1, h2, h3⟩ := r
    exact ⟨a, vs, h1, .inr h2.sq, h3⟩
  | tf ys =>
    cases e
    obtain ⟨a, vs, h1, h2, h3⟩ := r
    exact ⟨a, vs, h1, .inr h2.sq, h3⟩
  | src ys =>
    cases e
    obtain ⟨a, vs, h1, h2, h3⟩ := r
    exact ⟨a, vs, h1, .inl h2.sq, h3⟩
  | _ => exact via r e

section
variable {X : Cx}
theorem ansd {K : PySem.W.Frag} {S : SO} {H : Hp} {Q0 : KD} {Q : VK} (d : D) {v : V} (s : SRel K S H) (an : Ans K S H Q0 Q) (q : Q0 d S) (r : Rel K S H d v) : Q v H := an d S v H q (.refl _ _) s r
/-! ### arithmetic -/
def opI2 (C : Int → Int → Prop) (g : Int → Int → D) : WO := fun x y S Q => match x with
  | .int i => (match y with
    | .int j => C i j ∧ Q (g i j) S
    | _ => False)
  | _ => False
theorem opI2_of {C : Int → Int → Prop} {g : Int → Int → D} {x y : D} {S : SO} {Q : KD} (h : opI2 C g x y S Q) : ∃ i j, x = .int i ∧ y = .int j ∧ C i j ∧ Q (g i j) S := by
  unfold opI2 at h
  split at h
  · split at h
    · exact ⟨_, _, rfl, rfl, h.1, h.2⟩
    · exact h.elim
  · exact h.elim
theorem do_I2 {f : Value → Value → Sem Value} {C : Int → Int → Prop} {g : Int → Int → D} {gv : Int → Int → V} (h : OpR X f (rI C gv)) (hg : ∀ i j K S H, Rel K S H (g i j) (gv i j)) : DO2 X f (opI2 C g) := by
  intro pins s σ H x y v u Q I rx ry ⟨dx, dy, S, Q0, sr, r1, r2, q, an⟩
  obtain ⟨i, j, rfl, rfl, hc, q⟩ := opI2_of q
  have e1 : x = .int i := r1
  have e2 : y = .int j := r2
  exact h pins s σ H x y v u Q I rx ry ⟨i, j, e1, e2, hc, ansd _ sr an q (hg i j _ _ _)⟩
theorem do_I2' {f : Value → Value → Sem Value} {g : Int → Int → D} {gv : Int → Int → V} (h : OpR X f (rI0 gv)) (hg : ∀ i j K S H, Rel K S H (g i j) (gv i j)) : DO2 X f (opI2 (fun _ _ => True) g) := by
  intro pins s σ H x y v u Q I rx ry ⟨dx, dy, S, Q0, sr, r1, r2, q, an⟩
  obtain ⟨i, j, rfl, rfl, hc, q⟩ := opI2_of q
  have e1 : x = .int i := r1
  have e2 : y = .int j := r2
  exact h pins s σ H x y v u Q I rx ry ⟨i, j, e1, e2, ansd _ sr an q (hg i j _ _ _)⟩
def oSub : WO := opI2 (fun _ _ => True) fun i j => .int (i - j)
theorem do_sub : DO2 X (binaryOp .Sub) oSub := do_I2' op_sub fun _ _ _ _ _ => rfl
def oMod : WO := opI2 (fun _ j => 0 < j) fun i j => .int (i % j)
theorem do_mod : DO2 X (binaryOp .Mod) oMod := do_I2 op_mod fun _ _ _ _ _ => rfl
def oDiv : WO := opI2 CDiv fun i j => .int (i / j)
theorem do_div : DO2 X (binaryOp .FloorDiv) oDiv := do_I2 op_fdiv fun _ _ _ _ _ => rfl
def oPow : WO := opI2 CPow fun i j => .int (i ^ j.toNat)
theorem do_pow : DO2 X (binaryOp .Pow) oPow := do_I2 op_pow fun _ _ _ _ _ => rfl
def oAnd : WO := opI2 (fun _ _ => True) fun i j => .int (Builtin.bitAnd i j)
def oOr : WO := opI2 (fun _ _ => True) fun i j => .int (Builtin.bitOr i j)
def oLt : WO := opI2 (fun _ _ => True) fun i j => .bl (decide (i < j))
theorem do_lt : DO2 X (compareOp .Lt) oLt := do_I2' op_lt fun _ _ _ _ _ => rfl
def oLe : WO := opI2 (fun _ _ => True) fun i j => .bl (decide (i ≤ j))
def oGt : WO := opI2 (fun _ _ => True) fun i j => .bl (decide (j < i))
theorem do_gt : DO2 X (compareOp .Gt) oGt := do_I2' op_gt fun _ _ _ _ _ => rfl
def oGe : WO := opI2 (fun _ _ => True) fun i j => .bl (decide (j ≤ i))
theorem do_ge : DO2 X (compareOp .GtE) oGe := do_I2' op_ge fun _ _ _ _ _ => rfl
def oNeg : WU := fun x S Q => match x with
  | .int i => Q (.int (-i)) S
  | _ => False
theorem do_neg : DO1 X (unaryOp .USub) oNeg := by
  intro pins s σ H x v Q I rx ⟨dx, S, Q0, sr, r1, q, an⟩
  cases dx with
  | int i =>
    have e1 : x = .int i := r1
    exact un_neg pins s σ H x v Q I rx ⟨i, e1, ansd (.int (-i)) sr an q rfl⟩
  | _ => exact False.elim q
/-- + -/
def addL (a b : Option (List D)) (S : SO) (Q : KD) : Prop := match a, b with
  | some a, some b => a.length + b.length ≤ 1000000 ∧ Q (.lst (a ++ b)) S
  | _, _ => False
theorem addL_of {a b : Option (List D)} {S : SO} {Q : KD} (h : addL a b S Q) : ∃ x y, a = some x ∧ b = some y ∧ x.length + y.length ≤ 1000000 ∧ Q (.lst (x ++ y)) S := by
  cases a with
  | none => exact h.elim
  | some x =>
    cases b with
    | none => exact h.elim
    | some y => exact ⟨x, y, rfl, rfl, h.1, h.2⟩
def oAdd : WO := fun x y S Q => match x with
  | .int i => (match y with
    | .int j => Q (.int (i + j)) S
    | _ => False)
  | .str a => (match y with
    | .str b => a.length + b.length ≤ 1000000 ∧ Q (.str (a ++ b)) S
    | _ => False)
  | .tup a => (match y with
    | .tup b => a.length + b.length ≤ 1000000 ∧ Q (.tup (a ++ b)) S
    | _ => False)
  | d => addL (lstD S d) (lstD S y) S Q
theorem add_lists {dx dy : D} {S : SO} {Q0 : KD} {x y : V} {v u : Value} {pins : List (Addr × Obj)} {s : Shared} {σ : St} {H : Hp} {Q : VK} (I : Inv X pins σ H s) (rx : RelV x v) (ry : RelV y u) (sr : SRel X.K S H) (r1 : Rel X.K S H dx x) (r2 : Rel X.K S H dy y) (an : Ans X.K S H Q0 Q)
    (q : addL (lstD S dx) (lstD S dy) S Q0) : wpAny (model X.prog X.w) X.A (binaryOp .Add v u) (EP X pins σ Q) X.xe s := by
  obtain ⟨a, b, h1, h2, hl, q⟩ := addL_of q
  obtain ⟨l, vs, e1, h3, rv⟩ := lstD_at sr r1 h1
  obtain ⟨l', us, e2, h4, ru⟩ := lstD_at sr r2 h2
  refine op_cat pins s σ H x y v u Q I rx ry ⟨l, l', vs, us, e1, e2, h3, h4, by rw [← rv.length, ← ru.length]; exact le_line hl, fun p hp => ?_⟩
  exact an _ _ _ _ q (nx_new hp) (sr.new hp) ⟨p, _, rfl, sr.free hp, upd_same, (rv.app ru).nx (nx_new hp)⟩
theorem do_add : DO2 X (binaryOp .Add) oAdd := by
  intro pins s σ H x y v u Q I rx ry ⟨dx, dy, S, Q0, sr, r1, r2, q, an⟩
  cases dx with
  | int i =>
    cases dy with
    | int j => exact op_add pins s σ H x y v u Q I rx ry ⟨i, j, r1, r2, ansd (.int (i + j)) sr an q rfl⟩
    | _ => exact False.elim q
  | str a =>
    cases dy with
    | str b => exact op_add_str pins s σ H x y v u Q I rx ry ⟨a, b, r1, r2, le_line q.1, ansd (.str (a ++ b)) sr an q.2 rfl⟩
    | _ => exact False.elim q
  | tup a =>
    cases dy with
    | tup b =>
      obtain ⟨hl, q⟩ := q
      obtain ⟨p1, vs, e1, t1, rv⟩ := r1
      obtain ⟨p2, us, e2, t2, ru⟩ := r2
      have rvu := rv.app ru
      refine op_catA pins s σ H x y v u Q I rx ry ⟨p1, p2, vs, us, e1, e2, t1.sq, t2.sq, by rw [← rv.length, ← ru.length]; exact le_line hl, fun e => ?_, fun _ e => ?_, fun _ _ p hp => ?_⟩
      · subst e
        exact ansd _ sr an q ⟨p2, us, rfl, t2, rvu⟩
      · subst e
        rw [List.append_nil] at rvu
        exact ansd _ sr an q ⟨p1, vs, rfl, t1, rvu⟩
      · exact an _ _ _ _ q (nx_new hp) (sr.new hp) ⟨p, _, rfl, ⟨sr.free hp, upd_same⟩, rvu.nx (nx_new hp)⟩
    | _ => exact False.elim q
  | _ => exact add_lists I rx ry sr r1 r2 an q
/-- * -/
def mulL (a : Option (List D)) (y : D) (S : SO) (Q : KD) : Prop := ∃ xs k, a = some xs ∧ y = .int k ∧ 0 ≤ k ∧ k ≤ 1000 ∧ xs.length ≤ 1000 ∧ Q (.lst (List.replicate k.toNat xs).flatten) S
def oMul : WO := fun x y S Q => match x with
  | .int i => (match y with
    | .int j => CMul i j ∧ Q (.int (i * j)) S
    | _ => False)
  | .str a => (match y with
    | .int n => a.length ≤ 1000 ∧ n ≤ 1000 ∧ -1000 ≤ n ∧ Q (.str (Txt.mul a n)) S
    | _ => False)
  | d => mulL (lstD S d) y S Q
theorem mulOk_small {x : Str} {n : Int} (h1 : x.length ≤ 1000) (h2 : n ≤ 1000) (h3 : -1000 ≤ n) : MulOk x n := by
  refine ⟨by rw [decide_eq_false (by omega), decide_eq_false (by omega)]; rfl, fun h _ => ?_, fun h _ => ?_⟩
  · have hn : 0 < n := by omega
    intro hgt
    have h4 : (2 ^ 63 - 1 : Int) / n ≥ (2 ^ 63 - 1) / 1000 := by
      rw [ge_iff_le, Int.le_ediv_iff_mul_le hn]
      have : (2 ^ 63 - 1 : Int) / 1000 * n ≤ (2 ^ 63 - 1 : Int) / 1000 * 1000 := Int.mul_le_mul_of_nonneg_left h2 (by decide)
      omega
    have h5 : (2 ^ 63 - 1 : Int) / 1000 > 1000 := by decide
    omega
  · have h4 : x.length * n.toNat ≤ 1000 * 1000 := Nat.mul_le_mul h1 (by omega)
    have h5 : x.length * n.toNat ≤ sizeLine := le_line h4
    exact decide_eq_false (by omega)
theorem Rels.rep {K : PySem.W.Frag} {S : SO} {H : Hp} {a : List D} {vs : List V} (r : Rels K S H a vs) : ∀ n : Nat, Rels K S H (List.replicate n a).flatten (List.replicate n vs).flatten
  | 0 => rfl
  | n + 1 => by
    rw [List.replicate_succ, List.replicate_succ, List.flatten_cons, List.flatten_cons]
    exact r.app (r.rep n)
theorem mul_lists {dx dy : D} {S : SO} {Q0 : KD} {x y : V} {v u : Value} {pins : List (Addr × Obj)} {s : Shared} {σ : St} {H : Hp} {Q : VK} (I : Inv X pins σ H s) (rx : RelV x v) (ry : RelV y u) (sr : SRel X.K S H) (r1 : Rel X.K S H dx x) (r2 : Rel X.K S H dy y) (an : Ans X.K S H Q0 Q)
    (q : mulL (lstD S dx) dy S Q0) : wpAny (model X.prog X.w) X.A (binaryOp .Mult v u) (EP X pins σ Q) X.xe s := by
  obtain ⟨a, k, h1, rfl, h0, h2, h3, q⟩ := q
  obtain ⟨l, vs, e1, hl, rv⟩ := lstD_at sr r1 h1
  have e2 : y = .int k := r2
  refine op_rep pins s σ H x y v u Q I rx ry ⟨l, k, vs, e1, e2, hl, by omega, by omega, ?_, fun p hp => ?_⟩
  · rw [← rv.length]
    have h4 : a.length * k.toNat ≤ 1000 * 1000 := Nat.mul_le_mul h3 (by omega)
    exact le_line h4
  · exact an _ _ _ _ q (nx_new hp) (sr.new hp) ⟨p, _, rfl, sr.free hp, upd_same, (rv.rep _).nx (nx_new hp)⟩
theorem do_mul : DO2 X (binaryOp .Mult) oMul := by
  intro pins s σ H x y v u Q I rx ry ⟨dx, dy, S, Q0, sr, r1, r2, q, an⟩
  cases dx with
  | int i =>
    cases dy with
    | int j => exact op_mul pins s σ H x y v u Q I rx ry ⟨i, j, r1, r2, q.1, ansd (.int (i * j)) sr an q.2 rfl⟩
    | _ => exact False.elim q
  | str a =>
    cases dy with
    | int n =>
      have e1 : x = .str a := r1
      have e2 : y = .int n := r2
      subst e1 e2
      obtain ⟨t, rfl⟩ := rx
      obtain ⟨t', rfl⟩ := ry
      obtain ⟨h1, h2, h3, q⟩ := q
      exact SB.mul (mulOk_small h1 h2 h3) fun t2 k => ⟨.str _, H, I.tok k, ⟨t2, rfl⟩, ansd (.str (Txt.mul a n)) sr an q rfl⟩
    | _ => exact False.elim q
  | _ => exact mul_lists I rx ry sr r1 r2 an q
/-! ### ==, in, is -/
/-- x == y told by data -/
def eqG (x y : D) (S : SO) (k : Bool → Prop) : Prop := ∃ p q, pyS S x = some p ∧ pyS S y = some q ∧ SeqAt.shaped p = true ∧ SeqAt.shaped q = true ∧ k (PyData.eqv p q)
def eqD (x y : D) (S : SO) (k : Bool → Prop) : Prop := match x with
  | .int i => (match y with
    | .int j => k (decide (i = j))
    | y => eqG (.int i) y S k)
  | .str a => (match y with
    | .str b => k (decide (a = b))
    | y => eqG (.str a) y S k)
  | x => eqG x y S k
theorem eqD_cases {x y : D} {S : SO} {k : Bool → Prop} (h : eqD x y S k) : (∃ i j, x = .int i ∧ y = .int j ∧ k (decide (i = j))) ∨ (∃ a b, x = .str a ∧ y = .str b ∧ k (decide (a = b))) ∨ eqG x y S k := by
  cases x with
  | int i =>
    cases y with
    | int j => exact .inl ⟨i, j, rfl, rfl, h⟩
    | _ => exact .inr (.inr h)
  | str a =>
    cases y with
    | str j => exact .inr (.inl ⟨a, j, rfl, rfl, h⟩)
    | _ => exact .inr (.inr h)
  | _ => exact .inr (.inr h)
def oEq : WO := fun x y S Q => eqD x y S fun b => Q (.bl b) S
def oNe : WO := fun x y S Q => eqD x y S fun b => Q (.bl (!b)) S
theorem do_eq (hu : X.A.units + 65 < cLine) : DO2 X (compareOp .Eq) oEq := by
  intro pins s σ H x y v u Q I rx ry ⟨dx, dy, S, Q0, sr, r1, r2, q, an⟩
  rcases eqD_cases q with ⟨i, j, rfl, rfl, q⟩ | ⟨i, j, rfl, rfl, q⟩ | ⟨p, q, h1, h2, h3, h4, qq⟩
  · have e1 : x = .int i := r1
    have e2 : y = .int j := r2
    subst e1 e2
    refine op_eq pins s σ H _ _ v u Q I rx ry ⟨rfl, ?_⟩
    have e : decide (V.int i = V.int j) = decide (i = j) := by simp
    rw [e]
    exact ansd (.bl _) sr an q rfl
  · have e1 : x = .str i := r1
    have e2 : y = .str j := r2
    subst e1 e2
    refine op_eq pins s σ H _ _ v u Q I rx ry ⟨rfl, ?_⟩
    have e : decide (V.str i = V.str j) = decide (i = j) := by simp
    rw [e]
    exact ansd (.bl _) sr an q rfl
  · exact op_eqD (by omega) pins s σ H x y v u Q I rx ry ⟨p, q, relS_dp sr r1 h1, relS_dp sr r2 h2, h3, h4, ansd (.bl _) sr an qq rfl⟩
theorem do_ne (hu : X.A.units + 65 < cLine) : DO2 X (compareOp .NotEq) oNe := by
  intro pins s σ H x y v u Q I rx ry ⟨dx, dy, S, Q0, sr, r1, r2, q, an⟩
  rcases eqD_cases q with ⟨i, j, rfl, rfl, q⟩ | ⟨i, j, rfl, rfl, q⟩ | ⟨p, q, h1, h2, h3, h4, qq⟩
  · have e1 : x = .int i := r1
    have e2 : y = .int j := r2
    subst e1 e2
    refine op_ne pins s σ H _ _ v u Q I rx ry ⟨rfl, ?_⟩
    have e : decide (V.int i = V.int j) = decide (i = j) := by simp
    rw [e]
    exact ansd (.bl _) sr an q rfl
  · have e1 : x = .str i := r1
    have e2 : y = .str j := r2
    subst e1 e2
    refine op_ne pins s σ H _ _ v u Q I rx ry ⟨rfl, ?_⟩
    have e : decide (V.str i = V.str j) = decide (i = j) := by simp
    rw [e]
    exact ansd (.bl _) sr an q rfl
  · exact op_neD (by omega) pins s σ H x y v u Q I rx ry ⟨p, q, relS_dp sr r1 h1, relS_dp sr r2 h2, h3, h4, ansd (.bl _) sr an qq rfl⟩
def isNon : D → Bool
  | .non => true
  | .gh d _ => isNon d
  | _ => false
def oIsN : WO := fun x y S Q => y = .non ∧ Q (.bl (isNon x)) S
def oNotN : WO := fun x y S Q => y = .non ∧ Q (.bl (!isNon x)) S
theorem rel_non0 {K : PySem.W.Frag} {S : SO} {H : Hp} (d : D) (v : V) (ih : ∀ d' u, d = .gh d' u → Rel K S H d' u → decide (u = V.non) = isNon d') (r : Rel K S H d v) : decide (v = V.non) = isNon d := by
  have no : ∀ {u : V}, v = u → decide (u = V.non) = isNon d → decide (v = V.non) = isNon d := fun e h => by rw [e]; exact h
  cases d with
  | non => exact no (u := .non) r rfl
  | bl b => exact no (u := .bl b) r rfl
  | int b => exact no (u := .int b) r rfl
  | str b => exact no (u := .str b) r rfl
  | ty b => exact no (u := .ty b) r rfl
  | obj b => exact no (u := .ref b) r rfl
  | tup ds => exact let ⟨_, _, e, _⟩ := r; no e rfl
  | kt ds => exact let ⟨_, _, e, _⟩ := r; no e rfl
  | tf ds => exact let ⟨_, _, e, _⟩ := r; no e rfl
  | lst ds => exact let ⟨_, _, e, _⟩ := r; no e rfl
  | src ds => exact let ⟨_, _, e, _⟩ := r; no e rfl
  | dic t ds => exact let ⟨_, e, _⟩ := r; no e rfl
  | fd t ds => exact let ⟨_, e, _⟩ := r; no e rfl
  | ins C ds => exact let ⟨_, _, _, e, _⟩ := r; no e rfl
  | gh d u =>
    obtain ⟨e, r⟩ := r
    subst e
    exact ih d v rfl r
theorem rel_nonN {K : PySem.W.Frag} {S : SO} {H : Hp} : ∀ (n : Nat) (d : D) (v : V), sizeOf d < n → Rel K S H d v → decide (v = V.non) = isNon d
  | 0, _, _, h, _ => absurd h (Nat.not_lt_zero _)
  | n + 1, d, v, hn, r => rel_non0 d v (fun d' u e r' => rel_nonN n d' u (by
      subst e
      simp only [D.gh.sizeOf_spec] at hn
      omega) r') r
theorem rel_non {K : PySem.W.Frag} {S : SO} {H : Hp} {d : D} {v : V} (r : Rel K S H d v) : decide (v = V.non) = isNon d := rel_nonN _ d v (Nat.lt_succ_self _) r
theorem do_notN : DO2 X (compareOp .IsNot) oNotN := by
  intro pins s σ H x y v u Q I rx ry ⟨dx, dy, S, Q0, sr, r1, r2, ⟨e, q⟩, an⟩
  subst e
  have e2 : y = .non := r2
  exact op_notN pins s σ H x y v u Q I rx ry ⟨e2, by rw [rel_non r1]; exact ansd (.bl _) sr an q rfl⟩
end
end L2.DL

/-! DL7: containers: in, subscripts, slices, dicts; built-ins by values -/
namespace L2.DL
open PySem PySem.Spec PyProof.Rows

/-! ### dicts as data -/
section
open Classical
noncomputable def dget (kvs : List (D × D)) (k : D) : Option D := (kvs.find? fun p => decide (p.1 = k)).map (·.2)
noncomputable def dput (kvs : List (D × D)) (k v : D) : List (D × D) := if (dget kvs k).isSome = true then kvs.map fun p => if p.1 = k then (p.1, v) else p else kvs ++ [(k, v)]
theorem dget_nil {k : D} : dget [] k = none := rfl
theorem dget_cons {k k' d : D} {kvs : List (D × D)} : dget ((k', d) :: kvs) k = if k' = k then some d else dget kvs k := by
  unfold dget
  rw [List.find?_cons]
  by_cases e : k' = k
  · rw [if_pos e, decide_eq_true e]
    rfl
  · rw [if_neg e, decide_eq_false e]
theorem dget_put {kvs : List (D × D)} {k v k' : D} : dget (dput kvs k v) k' = if k = k' then some v else dget kvs k' := by
  have app : ∀ (l : List (D × D)), dget (l ++ [(k, v)]) k' = if (dget l k').isSome then dget l k' else if k = k' then some v else none := by
    intro l
    induction l with
    | nil =>
      rw [List.nil_append, dget_cons, dget_nil]
      rfl
    | cons p l ih =>
      obtain ⟨a, b⟩ := p
      rw [List.cons_append, dget_cons, dget_cons]
      by_cases e : a = k'
      · rw [if_pos e, if_pos e]
        rfl
      · rw [if_neg e, if_neg e]
        exact ih
  have mp : ∀ (l : List (D × D)), dget (l.map fun p => if p.1 = k then (p.1, v) else p) k' = if k = k' then (dget l k').map (fun _ => v) else dget l k' := by
    intro l
    induction l with
    | nil =>
      rw [List.map_nil, dget_nil]
      split <;> rfl
    | cons p l ih =>
      obtain ⟨a, b⟩ := p
      rw [List.map_cons]
      show dget ((if a = k then (a, v) else (a, b)) :: _) k' = _
      by_cases e : a = k
      · rw [if_pos e, dget_cons, dget_cons]
        by_cases e2 : a = k'
        · have e3 : k = k' := e.symm.trans e2
          rw [if_pos e2, if_pos e2, if_pos e3]
          rfl
        · have e3 : ¬ k = k' := fun z => e2 (e.trans z)
          rw [if_neg e2, if_neg e2, ih]
      · rw [if_neg e, dget_cons, dget_cons]
        by_cases e2 : a = k'
        · have e3 : ¬ k = k' := fun z => e (e2.trans z.symm)
          rw [if_pos e2, if_pos e2, if_neg e3]
        · rw [if_neg e2, if_neg e2, ih]
  unfold dput
  by_cases h : (dget kvs k).isSome = true
  · rw [if_pos h, mp]
    by_cases e : k = k'
    · subst e
      rw [if_pos rfl, if_pos rfl]
      obtain ⟨d, hd⟩ := Option.isSome_iff_exists.mp h
      rw [hd]
      rfl
    · rw [if_neg e, if_neg e]
  · rw [if_neg h, app]
    by_cases e : k = k'
    · subst e
      rw [if_neg h, if_pos rfl, if_pos rfl]
    · rw [if_neg e, if_neg e]
      cases hk : dget kvs k' with
      | none => rfl
      | some d => rfl
theorem dput_new {kvs : List (D × D)} {k v : D} (h : dget kvs k = none) : dput kvs k v = kvs ++ [(k, v)] := by
  unfold dput
  rw [h]
  exact if_neg (by simp)
theorem dput_length (kvs : List (D × D)) (k v : D) : (dput kvs k v).length ≤ kvs.length + 1 := by
  unfold dput
  split
  · rw [List.length_map]
    omega
  · rw [List.length_append, List.length_singleton]
    exact Nat.le_refl _
end
def keyOf : D → Option Key
  | .int i => some (.inl i)
  | .str x => some (.inr x)
  | _ => none
def keysOf : List D → Option (List Key)
  | [] => some []
  | d :: ds => (keyOf d).bind fun k => (keysOf ds).map fun ks => k :: ks
theorem keyOf_eq {d : D} {k : Key} (h : keyOf d = some k) : d = keyD k := by
  cases d with
  | int i =>
    cases h
    rfl
  | str i =>
    cases h
    rfl
  | _ => cases h
theorem keysOf_eq : ∀ {ds : List D} {ks : List Key}, keysOf ds = some ks → ds = ks.map keyD
  | [], ks, h => by
    cases h
    rfl
  | d :: ds, ks, h => by
    obtain ⟨k, h1, h2⟩ := Option.bind_eq_some_iff.mp h
    obtain ⟨r, h3, rfl⟩ := Option.map_eq_some_iff.mp h2
    rw [List.map_cons, ← keyOf_eq h1, ← keysOf_eq h3]
/-- a key of a dict of that kind -/
def keyOk (t : Bool) (k : D) : Prop := if t = true then ∃ ds ks, k = .tup ds ∧ keysOf ds = some ks else ∃ q, keyOf k = some q
theorem keyD_inj {a b : Key} (h : keyD a = keyD b) : a = b := by
  cases a <;> cases b <;> cases h <;> rfl
theorem keyDs_inj : ∀ {a b : List Key}, a.map keyD = b.map keyD → a = b
  | [], [], _ => rfl
  | [], _ :: _, e => by simp at e
  | _ :: _, [], e => by simp at e
  | x :: xs, y :: ys, e => by
    rw [List.map_cons, List.map_cons] at e
    injection e with e1 e2
    rw [keyD_inj e1, keyDs_inj e2]
section
variable {K : PySem.W.Frag} {S : SO} {H : Hp}
theorem rel_key {k : Key} {v : V} (h : Rel K S H (keyD k) v) : v = kV k := by
  cases k with
  | inl i => exact h
  | inr x => exact h
theorem rels_key : ∀ {ks : List Key} {vs : List V}, Rels K S H (ks.map keyD) vs → vs = ks.map kV
  | [], _, h => h
  | k :: ks, _, h => by
    obtain ⟨v, r, rfl, h1, h2⟩ := h
    rw [rel_key h1, rels_key h2]
    rfl
def OptR (K : PySem.W.Frag) (S : SO) (H : Hp) : Option D → Option V → Prop
  | some d, some v => Rel K S H d v
  | none, none => True
  | _, _ => False
theorem RelK.get : ∀ {kvs : List (D × D)} {l : List (Key × V)} (q : Key), RelK K S H kvs l → OptR K S H (dget kvs (keyD q)) (valV l q)
  | [], l, q, h => by
    have e : l = [] := h
    subst e
    exact trivial
  | (k, d) :: kvs, l, q, h => by
    obtain ⟨q', v, r, rfl, rfl, h1, h2⟩ := h
    rw [dget_cons]
    by_cases e : q' = q
    · rw [if_pos (by rw [e]), valV_pos (p := (q', v)) e]
      exact h1
    · rw [if_neg (fun z => e (keyD_inj z)), valV_neg (p := (q', v)) e]
      exact RelK.get q h2
theorem RelT.get : ∀ {kvs : List (D × D)} {l : List (List Key × V)} (q : List Key), RelT K S H kvs l → OptR K S H (dget kvs (.tup (q.map keyD))) (valV l q)
  | [], l, q, h => by
    have e : l = [] := h
    subst e
    exact trivial
  | (k, d) :: kvs, l, q, h => by
    obtain ⟨q', v, r, rfl, rfl, h1, h2⟩ := h
    rw [dget_cons]
    by_cases e : q' = q
    · rw [if_pos (by rw [e]), valV_pos (p := (q', v)) e]
      exact h1
    · rw [if_neg (fun z => e (keyDs_inj (by injection z))), valV_neg (p := (q', v)) e]
      exact RelT.get q h2
theorem OptR.isSome {o : Option D} {u : Option V} (h : OptR K S H o u) : u.isSome = o.isSome := by
  cases o <;> cases u <;> first | rfl | exact h.elim
theorem RelK.length : ∀ {kvs : List (D × D)} {l : List (Key × V)}, RelK K S H kvs l → kvs.length = l.length
  | [], l, h => by
    have e : l = [] := h
    rw [e]
    rfl
  | (k, d) :: kvs, l, h => by
    obtain ⟨q', v, r, rfl, rfl, h1, h2⟩ := h
    rw [List.length_cons, List.length_cons, h2.length]
theorem RelT.length : ∀ {kvs : List (D × D)} {l : List (List Key × V)}, RelT K S H kvs l → kvs.length = l.length
  | [], l, h => by
    have e : l = [] := h
    rw [e]
    rfl
  | (k, d) :: kvs, l, h => by
    obtain ⟨q', v, r, rfl, rfl, h1, h2⟩ := h
    rw [List.length_cons, List.length_cons, h2.length]
theorem RelK.snoc {q : Key} {d : D} {v : V} (hr : Rel K S H d v) : ∀ {kvs : List (D × D)} {l : List (Key × V)}, RelK K S H kvs l → RelK K S H (kvs ++ [(keyD q, d)]) (l ++ [(q, v)])
  | [], l, h => by
    have e : l = [] := h
    subst e
    exact ⟨q, v, [], rfl, rfl, hr, rfl⟩
  | (k, d') :: kvs, l, h => by
    obtain ⟨q', v', r, rfl, rfl, h1, h2⟩ := h
    exact ⟨q', v', _, rfl, rfl, h1, h2.snoc hr⟩
theorem RelT.snoc {q : List Key} {d : D} {v : V} (hr : Rel K S H d v) : ∀ {kvs : List (D × D)} {l : List (List Key × V)}, RelT K S H kvs l → RelT K S H (kvs ++ [(.tup (q.map keyD), d)]) (l ++ [(q, v)])
  | [], l, h => by
    have e : l = [] := h
    subst e
    exact ⟨q, v, [], rfl, rfl, hr, rfl⟩
  | (k, d') :: kvs, l, h => by
    obtain ⟨q', v', r, rfl, rfl, h1, h2⟩ := h
    exact ⟨q', v', _, rfl, rfl, h1, h2.snoc hr⟩
open Classical in
theorem RelK.repl {q : Key} {d : D} {v : V} (hr : Rel K S H d v) : ∀ {kvs : List (D × D)} {l : List (Key × V)}, RelK K S H kvs l → RelK K S H (kvs.map fun p => if p.1 = keyD q then (p.1, d) else p) (l.map fun p => if p.1 = q then (p.1, v) else p)
  | [], l, h => by
    have e : l = [] := h
    subst e
    exact rfl
  | (k, d') :: kvs, l, h => by
    obtain ⟨q', v', r, rfl, rfl, h1, h2⟩ := h
    rw [List.map_cons, List.map_cons]
    by_cases e : q' = q
    · rw [if_pos (by rw [e]), if_pos e]
      exact ⟨q', v, _, rfl, rfl, hr, h2.repl hr⟩
    · rw [if_neg (fun z => e (keyD_inj z)), if_neg e]
      exact ⟨q', v', _, rfl, rfl, h1, h2.repl hr⟩
open Classical in
theorem RelT.repl {q : List Key} {d : D} {v : V} (hr : Rel K S H d v) : ∀ {kvs : List (D × D)} {l : List (List Key × V)}, RelT K S H kvs l → RelT K S H (kvs.map fun p => if p.1 = .tup (q.map keyD) then (p.1, d) else p) (l.map fun p => if p.1 = q then (p.1, v) else p)
  | [], l, h => by
    have e : l = [] := h
    subst e
    exact rfl
  | (k, d') :: kvs, l, h => by
    obtain ⟨q', v', r, rfl, rfl, h1, h2⟩ := h
    rw [List.map_cons, List.map_cons]
    by_cases e : q' = q
    · rw [if_pos (by rw [e]), if_pos e]
      exact ⟨q', v, _, rfl, rfl, hr, h2.repl hr⟩
    · rw [if_neg (fun z => e (keyDs_inj (by injection z))), if_neg e]
      exact ⟨q', v', _, rfl, rfl, h1, h2.repl hr⟩
theorem RelK.put {q : Key} {d : D} {v : V} {kvs : List (D × D)} {l : List (Key × V)} (h : RelK K S H kvs l) (hr : Rel K S H d v) : RelK K S H (dput kvs (keyD q) d) (putK l q v) := by
  have g := (h.get q).isSome
  unfold dput putK
  rw [valV_any, g]
  split
  · exact h.repl hr
  · exact h.snoc hr
theorem RelT.put {q : List Key} {d : D} {v : V} {kvs : List (D × D)} {l : List (List Key × V)} (h : RelT K S H kvs l) (hr : Rel K S H d v) : RelT K S H (dput kvs (.tup (q.map keyD)) d) (putK l q v) := by
  have g := (h.get q).isSome
  unfold dput putK
  rw [valV_any, g]
  split
  · exact h.repl hr
  · exact h.snoc hr
end
def objD : Option DO → Option (Bool × List (D × D))
  | some (.dic t kvs) => some (t, kvs)
  | _ => none
def dicX (S : SO) : D → Option (Bool × List (D × D))
  | .dic t kvs => some (t, kvs)
  | .fd false kvs => some (false, kvs)
  | .obj a => objD (S a)
  | _ => none
theorem objD_of {o : Option DO} {t : Bool} {kvs : List (D × D)} (h : objD o = some (t, kvs)) : o = some (.dic t kvs) := by
  cases o with
  | none => cases h
  | some u =>
    cases u with
    | dic t' kvs' =>
      cases h
      rfl
    | _ => cases h
def DicAt (K : PySem.W.Frag) (S : SO) (H : Hp) (a : Addr) (t : Bool) (kvs : List (D × D)) : Prop := (∃ l, t = false ∧ H a = some (.dK l) ∧ RelK K S H kvs l) ∨ (∃ l, t = true ∧ H a = some (.dT l) ∧ RelT K S H kvs l)
/-- .. to be read: locked or not -/
def DicRd (K : PySem.W.Frag) (S : SO) (H : Hp) (a : Addr) (t : Bool) (kvs : List (D × D)) : Prop := (∃ l, t = false ∧ Rd H a (.dK l) ∧ RelK K S H kvs l) ∨ (∃ l, t = true ∧ H a = some (.dT l) ∧ RelT K S H kvs l)
theorem DicAt.rd {K : PySem.W.Frag} {S : SO} {H : Hp} {a : Addr} {t : Bool} {kvs : List (D × D)} : DicAt K S H a t kvs → DicRd K S H a t kvs
  | .inl ⟨l, ht, h, r⟩ => .inl ⟨l, ht, .inl h, r⟩
  | .inr h => .inr h
theorem dicX_at {K : PySem.W.Frag} {S : SO} {H : Hp} {d : D} {v : V} {t : Bool} {kvs : List (D × D)} (s : SRel K S H) (r : Rel K S H d v) (e : dicX S d = some (t, kvs)) : ∃ a, v = .ref a ∧ DicRd K S H a t kvs := by
  cases d with
  | dic t' kvs' =>
    cases e
    obtain ⟨a, h1, _, h2⟩ := r
    exact ⟨a, h1, DicAt.rd h2⟩
  | fd t' kvs' =>
    cases t' with
    | true => cases e
    | false =>
      cases e
      obtain ⟨a, h1, _, ⟨o, l, _, h2, h3⟩ | ⟨o, l, z, _⟩⟩ := r
      · exact ⟨a, h1, .inl ⟨l, rfl, .inr ⟨o, h2⟩, h3⟩⟩
      · cases z
  | obj a => exact ⟨a, r, DicAt.rd (s a _ (objD_of e))⟩
  | _ => cases e
theorem DicRd.get {K : PySem.W.Frag} {S : SO} {H : Hp} {a : Addr} {t : Bool} {kvs : List (D × D)} {k : D} {y : V} (h : DicRd K S H a t kvs) (r : Rel K S H k y) (ok : keyOk t k) : ∃ o, DGet H a y o ∧ OptR K S H (dget kvs k) o := by
  rcases h with ⟨l, rfl, hl, rl⟩ | ⟨l, rfl, hl, rl⟩
  · obtain ⟨q, hq⟩ := ok
    have e := keyOf_eq hq
    subst e
    rw [rel_key r]
    exact ⟨_, .inl ⟨l, q, hl, rfl, rfl⟩, rl.get q⟩
  · obtain ⟨ds, ks, rfl, hk⟩ := ok
    have e := keysOf_eq hk
    subst e
    obtain ⟨b, vs, rfl, tb, rv⟩ := r
    have e2 := rels_key rv
    subst e2
    exact ⟨_, DGet.t hl tb.2, rl.get ks⟩
theorem DicAt.put {K : PySem.W.Frag} {S : SO} {H : Hp} {a : Addr} {t : Bool} {kvs : List (D × D)} {k d : D} {y v : V} (h : DicAt K S H a t kvs) (r : Rel K S H k y) (ok : keyOk t k) (rv : Rel K S H d v) (hz : kvs.length < 1000000) :
    ∃ o, DPut H a y v (upd H a o) ∧ (∀ S' H', Nx S H S' H' → H' a = some o → DicAt K S' H' a t (dput kvs k d)) := by
  rcases h with ⟨l, rfl, hl, rl⟩ | ⟨l, rfl, hl, rl⟩
  · obtain ⟨q, hq⟩ := ok
    have e := keyOf_eq hq
    subst e
    rw [rel_key r]
    exact ⟨_, DPut.k hl (by rw [← rl.length]; exact Nat.lt_of_lt_of_le hz (le_line (Nat.le_refl _))), fun S' H' n e => .inl ⟨_, rfl, e, RelK.nx n _ _ (rl.put rv)⟩⟩
  · obtain ⟨ds, ks, rfl, hk⟩ := ok
    have e := keysOf_eq hk
    subst e
    obtain ⟨b, vs, rfl, tb, rvs⟩ := r
    have e2 := rels_key rvs
    subst e2
    exact ⟨_, DPut.t hl tb.2 (by rw [← rl.length]; exact Nat.lt_of_lt_of_le hz (le_line (Nat.le_refl _))), fun S' H' n e => .inr ⟨_, rfl, e, RelT.nx n _ _ (rl.put rv)⟩⟩
end L2.DL

/-! DL8: in, subscripts, slices, len and other built-ins -/
namespace L2.DL
open PySem PySem.Spec PyProof.Rows

/-! ### in -/
def strIn (i j : Str) : Bool := !(Builtin.Str.occurrences j i 0 j.length 1).isEmpty
/-- x is equal to one of the items -/
def memD (S : SO) (x : D) (xs : List D) (k : Bool → Prop) : Prop := ∃ p ps, pyS S x = some p ∧ pyDs xs = some ps ∧ SeqAt.shaped p = true ∧ SeqAt.shaped (.list ps) = true ∧ k (ps.any fun z => PyData.eqv z p)
def inD (x y : D) (S : SO) (k : Bool → Prop) : Prop := match y with
  | .str j => (match x with
    | .str i => k (strIn i j)
    | _ => False)
  | y => (∃ xs, seqX S y = some xs ∧ memD S x xs k) ∨ (∃ t kvs, dicX S y = some (t, kvs) ∧ keyOk t x ∧ k (dget kvs x).isSome)
def oIn : WO := fun x y S Q => inD x y S fun b => Q (.bl b) S
def oNotIn : WO := fun x y S Q => inD x y S fun b => Q (.bl (!b)) S
theorem in_dic {x y : D} {S : SO} {k : Bool → Prop} {t : Bool} {kvs : List (D × D)} (e : dicX S y = some (t, kvs)) (o : keyOk t x) (h : k (dget kvs x).isSome) : inD x y S k := by
  cases y with
  | str j => cases e
  | _ => exact .inr ⟨t, kvs, e, o, h⟩
theorem inD_cases {x y : D} {S : SO} {k : Bool → Prop} (h : inD x y S k) : (∃ i j, x = .str i ∧ y = .str j ∧ k (strIn i j)) ∨ (∃ xs, seqX S y = some xs ∧ memD S x xs k) ∨ (∃ t kvs, dicX S y = some (t, kvs) ∧ keyOk t x ∧ k (dget kvs x).isSome) := by
  cases y with
  | str j =>
    cases x with
    | str i => exact .inl ⟨i, j, rfl, rfl, h⟩
    | _ => exact False.elim h
  | _ => exact .inr h
theorem shaped_tup {ps : List PyData} (h : SeqAt.shaped (.list ps) = true) : PyData.canLayAll0 ps = true := by
  have := SeqAt.canLay_of_shaped h
  exact this
section
variable {X : Cx}
theorem seq_in {K : PySem.W.Frag} {S : SO} {H : Hp} {d : D} {v : V} {xs : List D} {ps : List PyData} (s : SRel K S H) (r : Rel K S H d v) (e : seqX S d = some xs) (hp : pyDs xs = some ps) : Dp K H v (.list ps) ∨ Dp K H v (.tuple ps) := by
  obtain ⟨a, vs, rfl, h, rv⟩ := seqX_at s r e
  exact h.elim (fun h => .inl (.lst h (rels_dp _ _ _ rv hp))) fun h => .inr (.tup h (rels_dp _ _ _ rv hp))
theorem do_in (hu : X.A.units + 65 < cLine) : DO2 X (compareOp .In) oIn := by
  intro pins s σ H x y v u Q I rx ry ⟨dx, dy, S, Q0, sr, r1, r2, q, an⟩
  rcases inD_cases q with ⟨i, j, rfl, rfl, q⟩ | ⟨xs, e, p, ps, hp, hps, sp, sps, q⟩ | ⟨t, kvs, e, ok, q⟩
  · exact op_in_str pins s σ H x y v u Q I rx ry ⟨i, j, r1, r2, ansd (.bl _) sr an q rfl⟩
  · have dp := relS_dp sr r1 hp
    rcases seq_in sr r2 e hps with dq | dq
    · exact op_inD hu pins s σ H x y v u Q I rx ry ⟨p, ps, dp, dq, sp, sps, ansd (.bl _) sr an q rfl⟩
    · obtain ⟨as, ra⟩ := Dp.reads I p x v dp rx
      obtain ⟨bs, rb⟩ := Dp.reads I (.tuple ps) y u dq ry
      exact SeqAt.in_tuple_reads rb ra (shaped_tup sps) (SeqAt.canLay_of_shaped sp) (room_in_shaped sp hu) ⟨.bl _, H, I, rfl, ansd (.bl _) sr an q rfl⟩
  · obtain ⟨a, rfl, da⟩ := dicX_at sr r2 e
    obtain ⟨o, g, oo⟩ := da.get r1 ok
    cases ry
    refine d_in (by omega) I g rx fun s' I' => ⟨.bl o.isSome, H, I', rfl, ?_⟩
    rw [oo.isSome]
    exact ansd (.bl _) sr an q rfl
theorem do_notIn (hu : X.A.units + 65 < cLine) : DO2 X (compareOp .NotIn) oNotIn := by
  intro pins s σ H x y v u Q I rx ry ⟨dx, dy, S, Q0, sr, r1, r2, q, an⟩
  rcases inD_cases q with ⟨i, j, rfl, rfl, q⟩ | ⟨xs, e, p, ps, hp, hps, sp, sps, q⟩ | ⟨t, kvs, e, ok, q⟩
  · exact op_notin_str pins s σ H x y v u Q I rx ry ⟨i, j, r1, r2, ansd (.bl _) sr an q rfl⟩
  · have dp := relS_dp sr r1 hp
    rcases seq_in sr r2 e hps with dq | dq
    · exact op_notInD hu pins s σ H x y v u Q I rx ry ⟨p, ps, dp, dq, sp, sps, ansd (.bl _) sr an q rfl⟩
    · obtain ⟨as, ra⟩ := Dp.reads I p x v dp rx
      obtain ⟨bs, rb⟩ := Dp.reads I (.tuple ps) y u dq ry
      exact SeqAt.notIn_tuple_reads rb ra (shaped_tup sps) (SeqAt.canLay_of_shaped sp) (room_in_shaped sp hu) ⟨.bl _, H, I, rfl, ansd (.bl _) sr an q rfl⟩
  · obtain ⟨a, rfl, da⟩ := dicX_at sr r2 e
    obtain ⟨o, g, oo⟩ := da.get r1 ok
    cases ry
    refine d_notIn (by omega) I g rx fun s' I' => ⟨.bl (!o.isSome), H, I', rfl, ?_⟩
    rw [oo.isSome]
    exact ansd (.bl _) sr an q rfl

/-! ### a[i] -/
def oIx : WO := fun x y S Q => (∃ xs i v, seqX S x = some xs ∧ y = .int i ∧ atI xs i = some v ∧ Q v S) ∨ (∃ z i c, x = .str z ∧ y = .int i ∧ z.length ≤ 1000000 ∧ atI z.cps.toList i = some c ∧ Q (.str ⟨#[c]⟩) S) ∨
  (∃ t kvs v, dicX S x = some (t, kvs) ∧ keyOk t y ∧ dget kvs y = some v ∧ Q v S)
theorem do_ix (hu : X.A.units + 65 < cLine) : IxR X (liftO X.K oIx) := by
  intro value slice pins s σ H x y v u Q I rx ry ⟨dx, dy, S, Q0, sr, r1, r2, q, an⟩ hs
  rcases q with ⟨xs, i, d, e, rfl, hi, q⟩ | ⟨z, i, c, rfl, rfl, hz, hi, q⟩ | ⟨t, kvs, d, e, ok, hd, q⟩
  · obtain ⟨a, vs, ex, hq, rv⟩ := seqX_at sr r1 e
    have e2 : y = .int i := r2
    unfold atI at hi
    obtain ⟨j, hj, hx⟩ := Option.bind_eq_some_iff.mp hi
    obtain ⟨w, hw, rw'⟩ := rv.get hx
    have hi2 : atI vs i = some w := by
      unfold atI
      rw [← rv.length, hj]
      exact hw
    have qw : Q w H := ansd d sr an q rw'
    rcases hq with hq | hq
    · exact ix_list value slice pins s σ H x y v u Q I rx ry ⟨a, vs, i, w, ex, e2, hq, hi2, qw⟩ hs
    · exact ix_tup value slice pins s σ H x y v u Q I rx ry ⟨a, vs, i, w, ex, e2, hq, hi2, qw⟩ hs
  · exact ix_str value slice pins s σ H x y v u Q I rx ry ⟨z, i, c, r1, r2, le_line hz, hi, ansd (.str _) sr an q rfl⟩ hs
  · obtain ⟨a, rfl, da⟩ := dicX_at sr r1 e
    obtain ⟨o, g, oo⟩ := da.get r2 ok
    rw [hd] at oo
    cases o with
    | none => exact oo.elim
    | some w =>
      cases rx
      exact tail_any (dict_typeIs I g) PySem.F.slot_dict_getitem.lookup (d_getItem (by omega) I g ry fun w' s' I' rw' => ⟨w, H, I', rw', ansd d sr an q oo⟩) hs
theorem de_ix {a b : Expr} {wa wb : WE} {pos : Pos} (hu : X.A.units + 65 < cLine) (ha : DE X a wa) (hb : DE X b wb) (hs : PlainIx b := by intro _ _; rfl) : DE X (.Subscript a b pos) (wO oIx wa wb) :=
  pe_imp (pe_ix (do_ix hu) ha hb hs) fun σ H Q h => two h fun v u H2 x y S2 Q0 s2 r1 r2 q2 an => ⟨x, y, S2, Q0, s2, r1, r2, q2, an⟩

/-! ### a[lo:hi] -/
abbrev WP := SD → SO → (Option Int → SO → Prop) → Prop
def liftP (K : PySem.W.Frag) (w : WP) : TO := fun σ H Q => ∃ sd S Q0, Sta K sd S σ H ∧ w sd S Q0 ∧ ∀ o S' H', Q0 o S' → Nx S H S' H' → SRel K S' H' → Q o H'
abbrev DP (X : Cx) (e : Option Expr) (w : WP) : Prop := PO X e (liftP X.K w)
theorem po_imp {e : Option Expr} {t t' : TO} (h : PO X e t) (i : ∀ σ H Q, t' σ H Q → t σ H Q) : PO X e t' := ⟨fun pins s σ H Q I q => h.run pins s σ H Q I (i σ H Q q)⟩
def pNone : WP := fun _ S Q => Q none S
def isI0 (k : Int → SO → Prop) : KD := fun d S => match d with
  | .int i => k i S
  | _ => False
structure IsI (k : Int → SO → Prop) (d : D) (S : SO) : Prop where
  ex : isI0 k d S
def isI (k : Int → SO → Prop) : KD := fun d S => IsI k d S
def pSome (we : WE) : WP := fun sd S Q => we sd S (isI fun i S1 => Q (some i) S1)
theorem dp_none : DP X none pNone := po_imp po_none fun σ H Q ⟨sd, S, Q0, st, q, an⟩ => an _ _ _ q (.refl _ _) st.s
theorem dp_some {e : Expr} {we : WE} (h : DE X e we) : DP X (some e) (pSome we) := po_imp (po_some h) fun σ H Q ⟨sd, S, Q0, st, q, an⟩ => ⟨sd, S, _, st, q, fun d S1 v H1 q1 n1 s1 r1 => by
  have q1 := q1.ex
  cases d with
  | int i => exact ⟨i, r1, an _ _ _ q1 n1 s1⟩
  | _ => exact False.elim q1⟩
def cutD (xs : List D) (lo hi : Option Int) : List D := (xs.drop (HT.sIx xs.length 0 lo)).take (HT.sIx xs.length xs.length hi - HT.sIx xs.length 0 lo)
theorem Rels.cut {K : PySem.W.Frag} {S : SO} {H : Hp} {xs : List D} {vs : List V} (r : Rels K S H xs vs) (lo hi : Option Int) : Rels K S H (cutD xs lo hi) (cutV vs lo hi) := by
  unfold cutD cutV
  rw [← r.length]
  exact (r.drop _).take _
/-- what the slice of it is -/
def sliD (d : D) (S : SO) (lo hi : Option Int) (Q : KD) : Prop := match d with
  | .str z => z.length ≤ 1000000 ∧ Q (.str (cutS z lo hi)) S
  | .tup xs => Q (.tup (cutD xs lo hi)) S
  | .kt xs => ¬ (HT.sIx xs.length 0 lo = 0 ∧ HT.sIx xs.length xs.length hi = xs.length) ∧ Q (.tup (cutD xs lo hi)) S
  | .tf xs => ¬ (HT.sIx xs.length 0 lo = 0 ∧ HT.sIx xs.length xs.length hi = xs.length) ∧ Q (.tup (cutD xs lo hi)) S
  | .src xs => Q (.lst (cutD xs lo hi)) S
  | d => ∃ xs, lstD S d = some xs ∧ Q (.lst (cutD xs lo hi)) S
def wSl (we : WE) (tl th : WP) : WE := fun sd S Q => we sd S fun d S1 => tl sd S1 fun lo S2 => th sd S2 fun hi S3 => sliD d S3 lo hi Q
theorem cutD_all {xs : List D} {lo hi : Option Int} (h : HT.sIx xs.length 0 lo = 0 ∧ HT.sIx xs.length xs.length hi = xs.length) : cutD xs lo hi = xs := by
  unfold cutD
  rw [h.1, h.2]
  simp
theorem sl_d : SlR X (fun x lo hi H Q => ∃ d S Q0, SRel X.K S H ∧ Rel X.K S H d x ∧ sliD d S lo hi Q0 ∧ Ans X.K S H Q0 Q) := by
  intro pins s σ H x v vl vu lo hi sl Q I rx hs pl pu ⟨d, S, Q0, sr, r, q, an⟩
  have lists : ∀ {a : Addr} {vs : List V} {xs : List D}, x = .ref a → SqL X.K H a vs → Rels X.K S H xs vs → Q0 (.lst (cutD xs lo hi)) S → ∃ T id, typeLookup (.type T) "__getitem__" = pure (some (.builtin id)) ∧ s.TypeIs v T ∧ wpAny (model X.prog X.w) X.A (getItem v (.ref sl)) (EP X pins σ Q) X.xe s := fun e hq rv q =>
    sl_list pins s σ H x v vl vu lo hi sl Q I rx hs pl pu ⟨_, _, e, hq, fun p hp => an _ _ _ _ q (nx_new hp) (sr.new hp) ⟨p, _, rfl, sr.free hp, upd_same, (rv.cut lo hi).nx (nx_new hp)⟩⟩
  have via : ∀ {d : D} {xs : List D}, Rel X.K S H d x → lstD S d = some xs → Q0 (.lst (cutD xs lo hi)) S → ∃ T id, typeLookup (.type T) "__getitem__" = pure (some (.builtin id)) ∧ s.TypeIs v T ∧ wpAny (model X.prog X.w) X.A (getItem v (.ref sl)) (EP X pins σ Q) X.xe s := fun r e q =>
    let ⟨a, vs, h1, h2, h3⟩ := lstD_at sr r e
    lists h1 (.of h2) h3 q
  cases d with
  | str z => exact sl_str pins s σ H x v vl vu lo hi sl Q I rx hs pl pu ⟨z, r, le_line q.1, ansd (.str _) sr an q.2 rfl⟩
  | tup xs =>
    obtain ⟨a, vs, e, t, rv⟩ := r
    refine sl_tupA pins s σ H x v vl vu lo hi sl Q I rx hs pl pu ⟨a, vs, e, t.sq, fun hw => ?_, fun _ p hp => an _ _ _ _ q (nx_new hp) (sr.new hp) ⟨p, _, rfl, ⟨sr.free hp, upd_same⟩, (rv.cut lo hi).nx (nx_new hp)⟩⟩
    rw [← rv.length] at hw
    have q' : Q0 (.tup (cutD xs lo hi)) S := q
    rw [cutD_all hw] at q'
    exact ansd (.tup xs) sr an q' ⟨a, vs, rfl, t, rv⟩
  | kt xs =>
    obtain ⟨a, vs, e, t, rv⟩ := r
    refine sl_tupA pins s σ H x v vl vu lo hi sl Q I rx hs pl pu ⟨a, vs, e, t.sq, fun hw => absurd (by rw [rv.length]; exact hw) q.1, fun _ p hp => an _ _ _ _ q.2 (nx_new hp) (sr.new hp) ⟨p, _, rfl, ⟨sr.free hp, upd_same⟩, (rv.cut lo hi).nx (nx_new hp)⟩⟩
  | tf xs =>
    obtain ⟨a, vs, e, t, rv⟩ := r
    refine sl_tupA pins s σ H x v vl vu lo hi sl Q I rx hs pl pu ⟨a, vs, e, t.sq, fun hw => absurd (by rw [rv.length]; exact hw) q.1, fun _ p hp => an _ _ _ _ q.2 (nx_new hp) (sr.new hp) ⟨p, _, rfl, ⟨sr.free hp, upd_same⟩, (rv.cut lo hi).nx (nx_new hp)⟩⟩
  | src xs =>
    obtain ⟨a, vs, e, t, rv⟩ := r
    exact lists e t.sq rv q
  | lst xs => exact let ⟨ys, e, q⟩ := q; via r e q
  | obj a => exact let ⟨ys, e, q⟩ := q; via r e q
  | _ => exact let ⟨_, e, _⟩ := q; nomatch e
theorem de_sl {a : Expr} {lo hi : Option Expr} {we : WE} {tl th : WP} {pos p2 : Pos} (ha : DE X a we) (hl : DP X lo tl) (hh : DP X hi th) : DE X (.Subscript a (.Slice lo hi none p2) pos) (wSl we tl th) :=
  pe_imp (pe_slice sl_d ha hl hh) fun σ H Q ⟨sd, S, Q0, st, q, an⟩ => ⟨sd, S, _, st, q, fun d S1 v H1 q1 n1 s1 r1 => ⟨sd, S1, _, st.nx n1 s1, q1, fun o S2 H2 q2 n2 s2 => ⟨sd, S2, _, (st.nx n1 s1).nx n2 s2, q2, fun o3 S3 H3 q3 n3 s3 =>
    ⟨d, S3, Q0, s3, (Rel.nx (n2.trans n3) _ _ r1), q3, an.nx (n1.trans (n2.trans n3))⟩⟩⟩⟩
end
end L2.DL

/-! DL9: built-ins by values, methods, stores -/
namespace L2.DL
open PySem PySem.Spec PyProof.Rows

section
variable {K : PySem.W.Frag} {S : SO} {H : Hp}
theorem rels_ints : ∀ {ns : List Int} {vs : List V}, Rels K S H (ns.map D.int) vs → vs = ns.map V.int
  | [], _, h => h
  | k :: ks, _, h => by
    obtain ⟨v, r, rfl, h1, h2⟩ := h
    have e : v = .int k := h1
    rw [e, rels_ints h2]
    rfl
theorem rels_strs : ∀ {ns : List Str} {vs : List V}, Rels K S H (ns.map D.str) vs → vs = ns.map V.str
  | [], _, h => h
  | k :: ks, _, h => by
    obtain ⟨v, r, rfl, h1, h2⟩ := h
    have e : v = .str k := h1
    rw [e, rels_strs h2]
    rfl
theorem rels_bls : ∀ {ns : List Bool} {vs : List V}, Rels K S H (ns.map D.bl) vs → vs = ns.map V.bl
  | [], _, h => h
  | k :: ks, _, h => by
    obtain ⟨v, r, rfl, h1, h2⟩ := h
    have e : v = .bl k := h1
    rw [e, rels_bls h2]
    rfl
theorem rels_of_ints : ∀ (ns : List Int), Rels K S H (ns.map D.int) (ns.map V.int)
  | [] => rfl
  | k :: ks => ⟨_, _, rfl, rfl, rels_of_ints ks⟩
theorem rels_of_strs : ∀ (ns : List Str), Rels K S H (ns.map D.str) (ns.map V.str)
  | [] => rfl
  | k :: ks => ⟨_, _, rfl, rfl, rels_of_strs ks⟩
end
/-- the items of a list that is read -/
def lstX (S : SO) : D → Option (List D)
  | .src xs => some xs
  | d => lstD S d
theorem lstX_at {K : PySem.W.Frag} {S : SO} {H : Hp} {d : D} {v : V} {xs : List D} (s : SRel K S H) (r : Rel K S H d v) (e : lstX S d = some xs) : ∃ a vs, v = .ref a ∧ SqL K H a vs ∧ Rels K S H xs vs := by
  cases d with
  | src ys =>
    cases e
    obtain ⟨a, vs, h1, h2, h3⟩ := r
    exact ⟨a, vs, h1, h2.sq, h3⟩
  | lst ys =>
    obtain ⟨a, vs, h1, h2, h3⟩ := lstD_at s r e
    exact ⟨a, vs, h1, .of h2, h3⟩
  | obj ys =>
    obtain ⟨a, vs, h1, h2, h3⟩ := lstD_at s r e
    exact ⟨a, vs, h1, .of h2, h3⟩
  | _ => cases e
/-- one argument; two -/
def one (xs : List D) (k : D → Prop) : Prop := match xs with
  | [x] => k x
  | _ => False
def two2 (xs : List D) (k : D → D → Prop) : Prop := match xs with
  | [x, y] => k x y
  | _ => False
theorem one_of {xs : List D} {k : D → Prop} (h : one xs k) : ∃ j, xs = [j] ∧ k j := by
  unfold one at h
  split at h
  · exact ⟨_, rfl, h⟩
  · exact h.elim
theorem two2_of {xs : List D} {k : D → D → Prop} (h : two2 xs k) : ∃ i j, xs = [i, j] ∧ k i j := by
  unfold two2 at h
  split at h
  · exact ⟨_, _, rfl, h⟩
  · exact h.elim
theorem Rels.v1 {K : PySem.W.Frag} {S : SO} {H : Hp} {d : D} {vs : List V} (r : Rels K S H [d] vs) : ∃ v, vs = [v] ∧ Rel K S H d v := by
  obtain ⟨v, r', rfl, rv, e⟩ := r
  have e' : r' = [] := e
  exact ⟨v, by rw [e'], rv⟩
section
variable {X : Cx}
/-! ### numbers -/
def cInt : WL := fun xs S Q => one xs fun x => match x with
  | .int i => Q (.int i) S
  | .bl b => Q (.int (if b then 1 else 0)) S
  | _ => False
theorem dc_int : DC X (.type "int") cInt := by
  intro pins s σ H xs us Q I r ⟨ds, S, Q0, sr, rs, q, an⟩
  obtain ⟨x, rfl, q⟩ := one_of q
  obtain ⟨v, rfl, rv⟩ := rs.v1
  cases x with
  | int i =>
    have e : v = .int i := rv
    exact call_int1 pins s σ H _ us Q I r (.inl ⟨i, by rw [e], ansd (.int i) sr an q rfl⟩)
  | bl i =>
    have e : v = .bl i := rv
    exact call_int1 pins s σ H _ us Q I r (.inr ⟨i, by rw [e], ansd (.int _) sr an q rfl⟩)
  | _ => exact False.elim q
def cAbs : WL := fun xs S Q => int1 xs fun i => Q (.int (if i < 0 then -i else i)) S
theorem dc_abs : DC X (.builtin "abs") cAbs := by
  intro pins s σ H xs us Q I r ⟨ds, S, Q0, sr, rs, q, an⟩
  obtain ⟨i, rfl, q⟩ := int1_of q
  rw [rs.int1] at r
  exact call_abs pins s σ H _ us Q I r ⟨i, rfl, ansd (.int _) sr an q rfl⟩
/-- max(a, b) of ints, max(list of ints) -/
def intsX (S : SO) (xs : List D) (k : List Int → Prop) : Prop := one xs fun x => ∃ ns : List Int, lstX S x = some (ns.map D.int) ∧ k ns
def IsMax (ns : List Int) (m : Int) : Prop := m ∈ ns ∧ ∀ y ∈ ns, y ≤ m
def IsMin (ns : List Int) (m : Int) : Prop := m ∈ ns ∧ ∀ y ∈ ns, m ≤ y
def cMax : WL := fun xs S Q => int2 xs (fun i j => Q (.int (max i j)) S) ∨ intsX S xs fun ns => ns ≠ [] ∧ ∀ m, IsMax ns m → Q (.int m) S
def cMin : WL := fun xs S Q => int2 xs (fun i j => Q (.int (min i j)) S) ∨ intsX S xs fun ns => ns ≠ [] ∧ ∀ m, IsMin ns m → Q (.int m) S
theorem dc_max (hc : X.calm = true) : DC X (.builtin "max") cMax := by
  intro pins s σ H xs us Q I r ⟨ds, S, Q0, sr, rs, q, an⟩
  rcases q with q | q
  · obtain ⟨i, j, rfl, q⟩ := int2_of q
    rw [rs.int2] at r
    refine call_max2 hc pins s σ H _ us Q I r ⟨i, j, rfl, ?_⟩
    have e : (if j > i then j else i) = max i j := by omega
    rw [e]
    exact ansd (.int _) sr an q rfl
  · obtain ⟨x, rfl, ns, e, hne, q⟩ := one_of q
    obtain ⟨v, rfl, rv⟩ := rs.v1
    obtain ⟨a, vs, rfl, hq, rns⟩ := lstX_at sr rv e
    rw [rels_ints rns] at hq
    exact cr_max hc pins s σ H _ us Q I r ⟨a, ns, rfl, hq, List.length_pos_iff.mpr hne, fun m h1 h2 => ansd (.int m) sr an (q m ⟨h1, h2⟩) rfl⟩
theorem dc_min (hc : X.calm = true) : DC X (.builtin "min") cMin := by
  intro pins s σ H xs us Q I r ⟨ds, S, Q0, sr, rs, q, an⟩
  rcases q with q | q
  · obtain ⟨i, j, rfl, q⟩ := int2_of q
    rw [rs.int2] at r
    refine call_min2 hc pins s σ H _ us Q I r ⟨i, j, rfl, ?_⟩
    have e : (if j < i then j else i) = min i j := by omega
    rw [e]
    exact ansd (.int _) sr an q rfl
  · obtain ⟨x, rfl, ns, e, hne, q⟩ := one_of q
    obtain ⟨v, rfl, rv⟩ := rs.v1
    obtain ⟨a, vs, rfl, hq, rns⟩ := lstX_at sr rv e
    rw [rels_ints rns] at hq
    exact cr_min hc pins s σ H _ us Q I r ⟨a, ns, rfl, hq, List.length_pos_iff.mpr hne, fun m h1 h2 => ansd (.int m) sr an (q m ⟨h1, h2⟩) rfl⟩
def blsX (S : SO) (xs : List D) (k : List Bool → Prop) : Prop := one xs fun x => ∃ ns : List Bool, lstX S x = some (ns.map D.bl) ∧ k ns
def cAll : WL := fun xs S Q => blsX S xs fun ns => Q (.bl (ns.all id)) S
def cAny : WL := fun xs S Q => blsX S xs fun ns => Q (.bl (ns.any id)) S
theorem dc_all (hc : X.calm = true) : DC X (.builtin "all") cAll := by
  intro pins s σ H xs us Q I r ⟨ds, S, Q0, sr, rs, q, an⟩
  obtain ⟨x, rfl, ns, e, q⟩ := one_of q
  obtain ⟨v, rfl, rv⟩ := rs.v1
  obtain ⟨a, vs, rfl, hq, rns⟩ := lstX_at sr rv e
  rw [rels_bls rns] at hq
  exact cr_all hc pins s σ H _ us Q I r ⟨a, ns, rfl, hq, ansd (.bl _) sr an q rfl⟩
def cDivmod : WL := fun xs S Q => int2 xs fun i j => CDiv i j ∧ Q (.tup [.int (i / j), .int (i % j)]) S
theorem dc_divmod : DC X (.builtin "divmod") cDivmod := by
  intro pins s σ H xs us Q I r ⟨ds, S, Q0, sr, rs, q, an⟩
  obtain ⟨i, j, rfl, hc, q⟩ := int2_of q
  rw [rs.int2] at r
  refine call_divmod pins s σ H _ us Q I r ⟨i, j, rfl, hc, fun p hp => ?_⟩
  exact an _ _ _ _ q (nx_new hp) (sr.new hp) ⟨p, _, rfl, ⟨sr.free hp, upd_same⟩, .int (i / j), [.int (i % j)], rfl, rfl, .int (i % j), [], rfl, rfl, rfl⟩
/-! ### len, list, tuple -/
def lenD0 (S : SO) (d : D) (k : Nat → Prop) : Prop := match d with
  | .str z => z.length ≤ 1000000 ∧ k z.length
  | d => (∃ xs, seqX S d = some xs ∧ k xs.length) ∨ ∃ t kvs, dicX S d = some (t, kvs) ∧ k kvs.length
structure LenD (S : SO) (d : D) (k : Nat → Prop) : Prop where
  ex : lenD0 S d k
abbrev lenD (S : SO) (d : D) (k : Nat → Prop) : Prop := LenD S d k
theorem len_seq {S : SO} {d : D} {k : Nat → Prop} {xs : List D} (e : seqX S d = some xs) (h : k xs.length) : lenD S d k := by
  refine ⟨?_⟩
  cases d with
  | str z => cases e
  | _ => exact .inl ⟨xs, e, h⟩
theorem lenD_cases {S : SO} {d : D} {k : Nat → Prop} (h' : lenD S d k) : (∃ z, d = .str z ∧ z.length ≤ 1000000 ∧ k z.length) ∨ (∃ xs, seqX S d = some xs ∧ k xs.length) ∨ ∃ t kvs, dicX S d = some (t, kvs) ∧ k kvs.length := by
  have h := h'.ex
  cases d with
  | str z => exact .inl ⟨z, rfl, h⟩
  | _ => exact .inr h
def cLen : WL := fun xs S Q => one xs fun x => lenD S x fun n => Q (.int n) S
theorem dc_len : DC X (.builtin "len") cLen := by
  intro pins s σ H xs us Q I r ⟨ds, S, Q0, sr, rs, q, an⟩
  obtain ⟨x, rfl, q2⟩ := one_of q
  obtain ⟨v, rfl, rv⟩ := rs.v1
  rcases lenD_cases q2 with ⟨z, rfl, hz, q⟩ | ⟨ys, e, q⟩ | ⟨t, kvs, e, q⟩
  · have e : v = .str z := rv
    exact call_len pins s σ H _ us Q I r ⟨v, z.length, rfl, by rw [e]; exact ⟨le_line hz, rfl⟩, ansd (.int _) sr an q rfl⟩
  · obtain ⟨a, vs, rfl, hq, rns⟩ := seqX_at sr rv e
    exact call_len pins s σ H _ us Q I r ⟨.ref a, ys.length, rfl, hq.elim (fun h => .inl ⟨vs, h, rns.length⟩) fun h => .inr ⟨vs, h, rns.length⟩, ansd (.int _) sr an q rfl⟩
  · obtain ⟨a, rfl, da⟩ := dicX_at sr rv e
    rcases da with ⟨l, rfl, hl, rl⟩ | ⟨l, rfl, hl, rl⟩
    · obtain ⟨u, rfl, ru⟩ := vals1 r
      cases ru
      refine d_len I hl fun t s' I' => ⟨.int l.length, H, I', ⟨t, rfl⟩, ?_⟩
      rw [← rl.length]
      exact ansd (.int _) sr an q rfl
    · refine call_len_dT pins s σ H _ us Q I r ⟨a, l, rfl, hl, ?_⟩
      rw [← rl.length]
      exact ansd (.int _) sr an q rfl
/-- tuple(of a list), of a tuple -/
def cTuple : WL := fun xs S Q => one xs fun x => match x with
  | .tup ys => Q (.tup ys) S
  | x => ∃ ys, lstX S x = some ys ∧ Q (.tup ys) S
theorem dc_tuple : DC X (.type "tuple") cTuple := by
  intro pins s σ H xs us Q I r ⟨ds, S, Q0, sr, rs, q, an⟩
  obtain ⟨x, rfl, q⟩ := one_of q
  obtain ⟨v, rfl, rv⟩ := rs.v1
  have via : (∃ ys, lstX S x = some ys ∧ Q0 (.tup ys) S) → wpAny (model X.prog X.w) X.A (call (.type "tuple") us) (EP X pins σ Q) X.xe s := fun ⟨ys, e, q⟩ => by
    obtain ⟨a, vs, rfl, hq, rns⟩ := lstX_at sr rv e
    exact call_tuple_of pins s σ H _ us Q I r ⟨a, vs, rfl, .inl ⟨hq, fun p hp => an _ _ _ _ q (nx_new hp) (sr.new hp) ⟨p, _, rfl, ⟨sr.free hp, upd_same⟩, rns.nx (nx_new hp)⟩⟩⟩
  cases x with
  | tup ys =>
    obtain ⟨a, vs, rfl, t, rns⟩ := rv
    exact call_tuple_of pins s σ H _ us Q I r ⟨a, vs, rfl, .inr ⟨t.sq, ansd (.tup ys) sr an q ⟨a, vs, rfl, t, rns⟩⟩⟩
  | _ => exact via q

/-! ### methods -/
abbrev WM := D → List D → SO → KD → Prop
abbrev DM (X : Cx) (id : String) (w : WM) : Prop := MtR X id (liftM X.K w)
def tyD (T : String) (d : D) (S : SO) : Prop := match d with
  | .str _ => T = "str"
  | .int _ => T = "int"
  | .src _ => T = "list"
  | .dic _ _ => T = "dict"
  | .lst _ => T = "list"
  | .obj a => (T = "list" ∧ ∃ xs, S a = some (.lst xs)) ∨ (T = "dict" ∧ ∃ t kvs, S a = some (.dic t kvs))
  | _ => False
theorem tyD_at {T : String} {d : D} {S : SO} {K : PySem.W.Frag} {H : Hp} {v : V} (h : tyD T d S) (s : SRel K S H) (r : Rel K S H d v) : tyV K T v H := by
  have dc : ∀ {a : Addr} {t : Bool} {kvs : List (D × D)}, DicAt K S H a t kvs → tyV K "dict" (.ref a) H := fun h => by
    rcases h with ⟨l, _, hl, _⟩ | ⟨l, _, hl, _⟩
    · exact .inr (.inr (.inl ⟨rfl, .inl ⟨l, hl⟩⟩))
    · exact .inr (.inr (.inl ⟨rfl, .inr ⟨l, hl⟩⟩))
  cases d with
  | str z =>
    have e : v = .str z := r
    have h' : T = "str" := h
    rw [e, h']
    exact rfl
  | int z =>
    have e : v = .int z := r
    have h' : T = "int" := h
    rw [e, h']
    exact rfl
  | src xs =>
    have h' : T = "list" := h
    obtain ⟨a, vs, rfl, t, _⟩ := r
    exact .inl ⟨h', vs, t.sq⟩
  | lst xs =>
    have h' : T = "list" := h
    obtain ⟨a, vs, rfl, _, t, _⟩ := r
    exact .inl ⟨h', vs, .of t⟩
  | dic t kvs =>
    have h' : T = "dict" := h
    obtain ⟨a, rfl, _, da⟩ := r
    rw [h']
    exact dc da
  | obj a =>
    have e : v = .ref a := r
    rw [e]
    rcases h with ⟨h', xs, hx⟩ | ⟨h', t, kvs, hx⟩
    · obtain ⟨vs, hv, _⟩ := s a _ hx
      exact .inl ⟨h', vs, .of hv⟩
    · rw [h']
      exact dc (s a _ hx)
  | _ => exact False.elim h
def wBM (T : String) (w : WM) (wo : WE) (t : WA) : WE := fun sd S Q => wo sd S fun d S1 => tyD T d S1 ∧ t sd S1 fun xs S2 => w d xs S2 Q
section
variable {o e : Expr} {es : List Expr} {wo : WE} {t : WA} {name : Str} {apos cpos : Pos} {T id : String} {w : WM}
theorem bm_lift {σ : St} {H : Hp} {Q : VK} (h : lift X.K (wBM T w wo t) σ H Q) : tBM X.K T (liftM X.K w) (lift X.K wo) (liftA X.K t) σ H Q := by
  obtain ⟨sd, S, Q0, st, q, an⟩ := h
  exact ⟨sd, S, _, st, q, fun d S1 v H1 ⟨ty, q1⟩ n1 s1 r1 => ⟨tyD_at ty s1 r1, sd, S1, _, st.nx n1 s1, q1, fun xs S2 vs H2 q2 n2 s2 r2 => ⟨d, xs, S2, Q0, s2, Rel.nx n2 _ _ r1, r2, q2, an.nx (n1.trans n2)⟩⟩⟩
theorem de_bm (hm : DM X id w) (pa : PlainAttrs T) (slot : Slot T name id) (hty : typeOf (.builtin id) = pure (.type "method_descriptor")) (ho : DE X o wo) (ha : DA X (e :: es) t)
    (hbase : attributeBase o name X.env (eval o X.env) = eval o X.env := by rfl)
    (hfew : ((backTo cpos (starEach (e :: es) X.env)).all (fun x => !x.1) && (backToKw cpos (keywordEach [] X.env)).all (fun x => x.1.isSome)
      && decide ((e :: es).length + ([] : List Keyword).length + (if ([] : List Keyword).isEmpty then 0 else 1) < 30)) = true := by rfl)
    (hline : (apos.endLine == cpos.line) = true := by rfl) (hs : starEach (e :: es) X.env = (false, eval e X.env) :: starEach es X.env := by rfl) (hplain : (backTo cpos (starEach es X.env)).any (·.1) = false := by rfl) :
    DE X (.Call (.Attribute o name apos) (e :: es) [] cpos) (wBM T w wo t) := pe_imp (pe_bm pa slot hty hm ho ha hbase hfew hline hs hplain) fun σ H Q h => bm_lift h
theorem de_bm0 (hm : DM X id w) (pa : PlainAttrs T) (slot : Slot T name id) (hty : typeOf (.builtin id) = pure (.type "method_descriptor")) (ho : DE X o wo)
    (hbase : attributeBase o name X.env (eval o X.env) = eval o X.env := by rfl) (hline : (apos.endLine == cpos.line) = true := by rfl) : DE X (.Call (.Attribute o name apos) [] [] cpos) (wBM T w wo wNil) :=
  pe_imp (pe_bm0 pa slot hty hm ho hbase hline) fun σ H Q ⟨sd, S, Q0, st, q, an⟩ => ⟨sd, S, _, st, q, fun d S1 v H1 ⟨ty, q1⟩ n1 s1 r1 => ⟨tyD_at ty s1 r1, d, [], S1, Q0, s1, r1, rfl, q1, an.nx n1⟩⟩
end
def mAppend : WM := fun d xs S Q => one xs fun y => ∃ a ys, d = .obj a ∧ S a = some (.lst ys) ∧ ys.length < 1000000 ∧ Q .non (S.set a (.lst (ys ++ [y])))
theorem dm_append : DM X "list.append" mAppend := by
  intro pins s σ H x xs v us Q I rx rs ⟨d, ys, S, Q0, sr, r1, r2, q, an⟩
  obtain ⟨y, rfl, a, zs, rfl, hS, hl, q⟩ := one_of q
  have r1' : x = .ref a := r1
  obtain ⟨u, rfl, ru⟩ := r2.v1
  obtain ⟨vs, hv, rv⟩ := sr a _ hS
  have n2 : Nx S H (S.set a (.lst (zs ++ [y]))) (upd H a (.lst (vs ++ [u]))) := nx_put hS
  refine mt_append pins s σ H x _ v us Q I rx rs ⟨a, vs, u, r1', rfl, hv, by rw [← rv.length]; exact Nat.lt_of_lt_of_le hl (le_line (Nat.le_refl _)), ?_⟩
  exact an _ _ _ _ q n2 (srel_put sr n2 ⟨_, upd_same, (rv.app (.one ru)).nx n2⟩) rfl
/-! ### stores -/
abbrev WSet := D → D → D → SO → (SO → Prop) → Prop
def liftSet (K : PySem.W.Frag) (w : WSet) : TSet := fun o i v H Q => ∃ d k x S Q0, SRel K S H ∧ Rel K S H d o ∧ Rel K S H k i ∧ Rel K S H x v ∧ w d k x S Q0 ∧ ∀ S' H', Q0 S' → Nx S H S' H' → SRel K S' H' → Q H'
/-- l[i] = v, d[k] = v -/
def sSub : WSet := fun d k x S Q => ∃ a, d = .obj a ∧ ((∃ xs i j, S a = some (.lst xs) ∧ k = .int i ∧ ixN xs.length i = some j ∧ Q (S.set a (.lst (xs.set j x)))) ∨ (∃ t kvs, S a = some (.dic t kvs) ∧ keyOk t k ∧ kvs.length < 1000000 ∧ Q (S.set a (.dic t (dput kvs k x)))))
theorem Rels.set {K : PySem.W.Frag} {S : SO} {H : Hp} {d : D} {v : V} (hr : Rel K S H d v) : ∀ {ds : List D} {vs : List V} (j : Nat), Rels K S H ds vs → Rels K S H (ds.set j d) (vs.set j v)
  | [], _, j, h => by
    have e : _ = [] := h
    rw [e]
    exact rfl
  | d' :: ds, _, 0, h => by
    obtain ⟨u, r, rfl, h1, h2⟩ := h
    exact ⟨v, r, rfl, hr, h2⟩
  | d' :: ds, _, j + 1, h => by
    obtain ⟨u, r, rfl, h1, h2⟩ := h
    exact ⟨u, _, rfl, h1, h2.set hr j⟩
theorem pset_sub (hu : X.A.units + 65 < cLine) : PSet X (liftSet X.K sSub) := by
  intro pins s σ H o i v ov iv u Q I ro ri rv ⟨d, k, x, S, Q0, sr, r1, r2, r3, q, an⟩
  obtain ⟨a, rfl, q⟩ := q
  rcases q with ⟨xs, i', j, hS, rfl, hj, q⟩ | ⟨t, kvs, hS, ok, hl, q⟩
  · obtain ⟨vs, hv, rvs⟩ := sr a _ hS
    have n2 : Nx S H (S.set a (.lst (xs.set j x))) (upd H a (.lst (vs.set j v))) := nx_put hS
    exact set_list pins s σ H o i v ov iv u Q I ro ri rv ⟨a, vs, i', j, r1, r2, hv, by rw [← rvs.length]; exact hj, an _ _ q n2 (srel_put sr n2 ⟨_, upd_same, (rvs.set r3 j).nx n2⟩)⟩
  · have da : DicAt X.K S H a t kvs := sr a _ hS
    obtain ⟨ob, g, hd⟩ := da.put r2 ok r3 hl
    have n2 : Nx S H (S.set a (.dic t (dput kvs k x))) (upd H a ob) := nx_put hS
    exact set_dict (by omega) pins s σ H o i v ov iv u Q I ro ri rv ⟨a, _, r1, g, an _ _ q n2 (srel_put sr n2 (hd _ _ n2 upd_same))⟩
/-- o[i] as a target -/
def gSubD (wo wi : WE) (w : WSet) : WG := fun v sd S Q => wo sd S fun d S1 => wi sd S1 fun k S2 => w d k v S2 fun S3 => Q sd S3
theorem dg_sub {o i : Expr} {wo wi : WE} {w : WSet} {pos : Pos} (hw : PSet X (liftSet X.K w)) (ho : DE X o wo) (hi : DE X i wi)
    (ha : ∀ v, assign (.Subscript o i pos) X.env v = (do
      let ov ← holding [v] (eval o X.env)
      let iv ← holding [v, ov] (eval i X.env)
      standAt pos
      holding [v, ov, iv] (setItem ov iv v)
      release [v, ov, iv] []) := by intro _; rfl) : DG X (.Subscript o i pos) (gSubD wo wi w) :=
  pg_imp (pg_sub ho hi hw ha) fun v σ H Q ⟨x, sd, S, Q0, st, r, q, an⟩ => ⟨sd, S, _, st, q, fun d S1 u H1 q1 n1 s1 r1 => ⟨sd, S1, _, st.nx n1 s1, q1, fun k S2 w' H2 q2 n2 s2 r2 =>
    ⟨d, k, x, S2, _, s2, Rel.nx n2 _ _ r1, r2, Rel.nx (n1.trans n2) _ _ r, q2, fun S3 H3 q3 n3 s3 => an _ _ _ _ q3 (n1.trans (n2.trans n3)) (st.nx (n1.trans (n2.trans n3)) s3)⟩⟩⟩
theorem ds_sub {o i value : Expr} {we wo wi : WE} {pos pos' : Pos} (hu : X.A.units + 65 < cLine) (ho : DE X o wo) (hi : DE X i wi) (hv : DE X value we) (hs : swapsWithSole [.Subscript o i pos'] value pos.line X.env = pure false := by rfl) (hw : swappedStores [.Subscript o i pos'] value X.env = pure none := by rfl)
    (h1 : (assignEach [.Subscript o i pos'] X.env).map (·.2) = [assign (.Subscript o i pos') X.env] := by rfl)
    (ha : ∀ v, assign (.Subscript o i pos') X.env v = (do
      let ov ← holding [v] (eval o X.env)
      let iv ← holding [v, ov] (eval i X.env)
      standAt pos'
      holding [v, ov, iv] (setItem ov iv v)
      release [v, ov, iv] []) := by intro _; rfl) : DS X (.Assign [.Subscript o i pos'] value pos) (wAsg we (gSubD wo wi sSub)) := ds_asg hv (dg_sub (pset_sub hu) ho hi ha) hs hw h1
/-- {} -/
def wDnew (t : Bool) : WE := fun sd S Q => ∀ p, S p = none → Q (.obj p) (S.set p (.dic t []))
theorem de_dnewT {pos : Pos} : DE X (.Dict [] [] pos) (wDnew true) := pe_imp pe_dnewT fun σ H Q ⟨sd, S, Q0, st, q, an⟩ p hp => by
  have n2 : Nx S H (S.set p (.dic true [])) (upd H p (.dT [])) := nx_obj hp (st.s.free hp)
  exact an _ _ _ _ (q p (st.s.free hp)) n2 (srel_put st.s n2 (.inr ⟨[], rfl, upd_same, rfl⟩)) rfl
/-- a, b = x, y with plain local names -/
def wPar (i j : Nat) (t : WA) : WS := fun E sd S => t sd S fun xs S1 => two2 xs fun x y => E.nx ((sd.set i (some x)).set j (some y)) S1
theorem ds_par {i j : Nat} {x y : Str} {a b : Expr} {t : WA} {px py pt pos pt2 : Pos} {kt k2 : Nat} (hc : X.calm = true) (hN : X.N.Nodup) (ha : DA X [a, b] t) (hi : X.N[i]? = some x := by rfl) (hj : X.N[j]? = some y := by rfl) (hij : i ≠ j := by decide)
    (hx : X.env.scope.names.lookup x = some .local := by rfl) (hy : X.env.scope.names.lookup y = some .local := by rfl) (hw : swappedStores [.Tuple [.Name x px, .Name y py] kt pt] (.Tuple [a, b] k2 pt2) X.env = pure (some [x, y]) := by rfl)
    (hs : swapsWithSole [.Tuple [.Name x px, .Name y py] kt pt] (.Tuple [a, b] k2 pt2) pos.line X.env = pure false := by rfl) : DS X (.Assign [.Tuple [.Name x px, .Name y py] kt pt] (.Tuple [a, b] k2 pt2) pos) (wPar i j t) :=
  ps_imp (ps_par hc hN hi hj hij hx hy ha hw hs) fun E σ H ⟨sd, S, E0, st, q, an⟩ => ⟨sd, S, _, st, q, fun xs S1 vs H1 q1 n1 s1 r1 => by
    obtain ⟨u, v, rfl, q1⟩ := two2_of q1
    obtain ⟨vu, vv, rfl, ru, rv⟩ := r1.two
    exact ⟨vu, vv, rfl, an.nx _ _ _ _ q1 n1 (((st.nx n1 s1).set i ru).set j rv)⟩⟩
def three (xs : List D) (k : D → D → D → Prop) : Prop := match xs with
  | [x, y, z] => k x y z
  | _ => False
def wPar3 (i j k : Nat) (t : WA) : WS := fun E sd S => t sd S fun xs S1 => three xs fun x y z => E.nx (((sd.set i (some x)).set j (some y)).set k (some z)) S1
end
end L2.DL

/-! DL10: enumerate over lists and tuples -/
namespace L2.DL
open PySem PySem.Spec PyProof.Rows

theorem meets_enum_tup (l : Addr) (items : Array Value) :
    Meets (Builtin.«enumerate.__new__» ⟨[.type "enumerate", .ref l], []⟩) (fun _ R s => s.heap.IsTuple l items ∧
      R (.ok (.ret (.ref (s.heap.push { cls := .type "tuple_iterator", data := .fields #[.ref l, .int 0 0] }).objs.size)))
        { s with heap := (s.heap.push { cls := .type "tuple_iterator", data := .fields #[.ref l, .int 0 0] }).push { cls := .type "enumerate", data := .fields #[.none, .bool false, .ref s.heap.objs.size, rawInt 0, .none, .none] } }) :=
  .of_wp fun prog w A R s h => by
    obtain ⟨hp, g, d, tk, os⟩ := s; obtain ⟨hL, h⟩ := h
    have hsub := sub_enumerate
    wp_walk using wpAny_pyIter_tuple hL
    refine wpAny_stack_any fun st => wpAny_pure ?_
    split
    · rename_i c _ _ _ _ _
      cases (c == Value.type "enumerate")
      · wp_walk using wpAny_pyIter_tuple hL
        exact ⟨_, rfl, h⟩
      · wp_walk using wpAny_pyIter_tuple hL
        exact ⟨_, rfl, h⟩
    · wp_walk using wpAny_pyIter_tuple hL
      exact ⟨_, rfl, h⟩
theorem call_enum_tup {prog : Program} {w : World} {A : Around} {E : Value → Shared → Prop} {s : Shared} {l : Addr} {items : Array Value} {Q : Value → Shared → Prop} (hL : s.heap.IsTuple l items)
    (h : ∀ h', IsEnum h' (s.heap.objs.size + 1) s.heap.objs.size 0 .none → h'.IsTupleIter s.heap.objs.size l 0 → h'.objs.size = s.heap.objs.size + 2 →
      (∀ b o, s.heap.get? b = some o → h'.get? b = some o) → Q (.ref (s.heap.objs.size + 1)) { s with heap := h' }) :
    wpAny (model prog w) A (call (.type "enumerate") [.ref l]) Q E s := by
  refine callType_new F.called_enumerate (by decide) (F.typeCall_enumerate_1 _) (F.newCall_enumerate_1 _) (fun obj => F.args_object_init_2 obj _) F.entry_enumerate_new
    (meets_enum_tup l items) ⟨hL, ?_⟩
  have hz : (s.heap.push { cls := .type "tuple_iterator", data := .fields #[.ref l, .int 0 0] }).objs.size = s.heap.objs.size + 1 := Heap.size_push ..
  show _ ∧ _
  rw [hz]
  have he : IsEnum ((s.heap.push { cls := .type "tuple_iterator", data := .fields #[.ref l, .int 0 0] }).push
      { cls := .type "enumerate", data := .fields #[.none, .bool false, .ref s.heap.objs.size, rawInt 0, .none, .none] }) (s.heap.objs.size + 1) s.heap.objs.size 0 .none := by
    have := Heap.get?_push_size (s.heap.push { cls := .type "tuple_iterator", data := .fields #[.ref l, .int 0 0] })
      (o := { cls := .type "enumerate", data := .fields #[.none, .bool false, .ref s.heap.objs.size, rawInt 0, .none, .none] }) rfl
    rw [hz] at this; exact this
  refine ⟨⟨_, he, rfl⟩, h _ he ⟨_, Heap.get?_push_of_some _ (Heap.get?_push_size _ rfl), rfl, rfl⟩ (by rw [Heap.size_push, hz]) fun b o x => Heap.get?_push_of_some _ (Heap.get?_push_of_some _ x)⟩
def IteT (K : PySem.W.Frag) (a : Addr) : It :=
  ⟨fun i H => ∃ (xs : List V) (x : V), SqT K H a xs ∧ xs[i]? = some x, fun i H v H' => ∃ T x, v = .ref T ∧ H T = none ∧ H' = upd H T (.tup [.int (i : Nat), x]) ∧ ∀ xs, SqT K H a xs → xs[i]? = some x, fun i H => ∃ xs : List V, SqT K H a xs ∧ xs.length = i⟩
theorem tup_ne {h : Heap} {a it : Addr} {items : Array Value} {i : Nat} (ht : h.IsTuple a items) (hi : h.IsTupleIter it a i) : a ≠ it := fun e => by
  obtain ⟨o, ho, hc, _⟩ := ht
  obtain ⟨o', ho', hc', _⟩ := hi
  rw [e, ho'] at ho
  cases ho
  rw [hc'] at hc
  exact absurd hc (by decide +kernel)
theorem turn_enumT {P : Program} {w : World} {K : PySem.W.Frag} {elts : List Expr} {kk : Nat} {tpos : Pos} (a e it : Addr) :
    Turn P w K (.Tuple elts kk tpos) (IteT K a) [e, it] e (fun i h => (∃ old, IsEnum h e it ((i : Nat) : Int) old) ∧ h.IsTupleIter it a i ∧ e ≠ it) where
  mem := by simp
  obj := fun i h st b hb => by
    obtain ⟨⟨old, he⟩, ⟨o, ho, hc, hd⟩, _⟩ := st
    have e' : b = e ∨ b = it := by simpa using hb
    rcases e' with z | z
    · rw [z]; exact ⟨_, he, fun v q => nomatch q⟩
    · rw [z]; exact ⟨o, ho, fun v q => by rw [hd] at q; cases q⟩
  keep := fun i h h' st k => let ⟨⟨old, he⟩, hi, hne⟩ := st; ⟨⟨old, k e (by simp) _ he⟩, hi.at fun o q => k it (by simp) o q, hne⟩
  item := by
    intro X hP hw hK hc i pins s σ H E I hf st hg
    subst hP hw hK
    obtain ⟨⟨old, he⟩, hit, hne⟩ := st
    obtain ⟨xs, x, hq, hx⟩ := hg
    obtain ⟨its, rv, p, hz⟩ := I.tuple hq
    obtain ⟨u, hu, ru⟩ := rv.get hx
    have p' : s.heap.IsTuple a its.toArray := p
    have hai := tup_ne p' hit
    have hae : e ∉ [it, a] := fun hm => by
      rcases List.mem_cons.mp hm with q | q
      · exact hne q
      · have q' := List.mem_singleton.mp q
        obtain ⟨o, ho, hco, _⟩ := p'
        rw [← q', he] at ho
        cases ho
        exact absurd (show Value.type "enumerate" = Value.type "tuple" from hco) (by decide +kernel)
    have hel : e < s.heap.objs.size := Heap.lt_size he
    have hil : it < s.heap.objs.size := by obtain ⟨_, q, _⟩ := hit; exact Heap.lt_size q
    have hlt : i < its.toArray.size := by
      have := (List.getElem?_eq_some_iff.mp hu).1
      simpa using this
    refine wpAny_pyNext_enum_itemC (Draws.tuple (prog := X.prog) (w := X.w) (A := X.A.in1) (I.ok.hd hc) it a hai its.toArray) he ⟨hit, p'⟩ hlt hne hae fun x' h' tk hx' ho hit' hT hsz hk => ?_
    have ex : x' = u := by
      have h1 : its.toArray[i]? = some x' := hx'
      have h2 : its.toArray[i]? = some u := by simpa using hu
      rw [h1] at h2
      exact Option.some.inj h2
    subst ex
    refine ⟨_, rfl, wpAny_letOwnedTupleGo_enum (s := { s with heap := h', toks := tk + 1 }) ho fun h'' he' sb => ?_⟩
    have hT2 : h''.get? s.heap.objs.size = some { cls := .type "tuple", data := .seq #[.int i tk, x'] } := (sb.2 _ (Nat.ne_of_gt hel)).trans hT
    have new : ObjOk X.prog X.w (upd H s.heap.objs.size (.tup [.int (i : Nat), x])) h'' s.heap.objs.size (.tup [.int (i : Nat), x]) :=
      ⟨by show 2 ≤ sizeLine; decide, [.int i tk, x'], .cons ⟨_, rfl⟩ (.cons ru .nil), ⟨_, hT2, rfl, _, rfl⟩⟩
    have I1 : Inv X pins σ (upd H s.heap.objs.size (.tup [.int (i : Nat), x])) { s with heap := h'', toks := tk + 1 } :=
      I.turnedNew (ch := [e, it]) (fun b ob hb q => (sb.2 b (fun z => hb (by simp [z]))).trans (hk b ob (fun z => hb (by simp [z])) (fun z => hb (by simp [z])) q)) hf (Nat.le_refl _) new
    refine ⟨.ref s.heap.objs.size, _, I1, rfl, ⟨_, x, rfl, I.hok.fresh (Nat.le_refl _), rfl, fun ys hy => by rw [I.tuple_inj hy hq]; exact hx⟩, ⟨⟨x', ?_⟩, hit'.1.at fun o q => (sb.2 it (Ne.symm hne)).trans q, hne⟩, fun b hb => ?_⟩
    · have e1 : ((i + 1 : Nat) : Int) = (i : Int) + 1 := by omega
      rw [e1]; exact he'
    · have hb' : b < s.heap.objs.size := by
        have e' : b = e ∨ b = it := by simpa using hb
        rcases e' with z | z
        · rw [z]; exact hel
        · rw [z]; exact hil
      rw [upd_ne (Nat.ne_of_lt hb')]
      exact (hf b hb).1
  done := by
    intro X hP hw hK hc i pins s σ H E I hf st hg
    subst hP hw hK
    obtain ⟨⟨old, he⟩, hit, hne⟩ := st
    obtain ⟨xs, hq, hx⟩ := hg
    obtain ⟨its, rv, p, hz⟩ := I.tuple hq
    have p' : s.heap.IsTuple a its.toArray := p
    obtain ⟨f0, f1, f2, f3, f4, f5⟩ := hf it (by simp)
    have hl := rv.length
    have hn : its.toArray.size = i := by rw [List.size_toArray, ← hl]; exact hx
    subst hn
    exact wpAny_pyNext_enum_endD (Draws.tuple (prog := X.prog) (w := X.w) (A := X.A.in1) (I.ok.hd hc) it a (tup_ne p' hit) its.toArray) he ⟨hit, p'⟩ fun h' eb => ⟨rfl, I.turned (t' := s.toks) (fun b o hb q => eb b o hb q) f0 f1 f3 f4 f5⟩
  self := fun A i s Q E st h => let ⟨⟨_, he⟩, _⟩ := st; wpAny_pyIter_enum he h
/-- enumerate(x) of a list or a tuple -/
def iEnumA (K : PySem.W.Frag) (ta : TA) : TI := fun σ H R => ta σ H fun vs H1 => ∃ a xs, vs = [.ref a] ∧ ((SqL K H1 a xs ∧ R (Ite K a) H1) ∨ (SqT K H1 a xs ∧ R (IteT K a) H1))
theorem pi_enumA {X : Cx} {e : Expr} {ta : TA} {p pos tpos : Pos} {elts : List Expr} {kk : Nat} (hg : Gl X "enumerate") (hm : X.mg "enumerate" = none) (ha : PA X [e] ta) (hs : starEach [e] X.env = [(false, eval e X.env)] := by rfl) :
    PI X (.Tuple elts kk tpos) (.Call (.Name "enumerate" p) [e] [] pos) (iEnumA X.K ta) := by
  refine ⟨fun pins s σ H R I h => ?_⟩
  refine Call_ (ld_blt I hg hm boot_enumerate (PyProof.Rows.callWith_type1 (thn (ha.run pos pins s σ H _ I h) fun us s1 ⟨vs, H1, I1, r1, q1⟩ => ?_) hs rfl))
  obtain ⟨a, xs, ex, q⟩ := q1
  subst ex
  cases r1 with
  | cons r rr =>
    cases rr
    cases r
    have fresh : ∀ b, b ∈ [s1.heap.objs.size + 1, s1.heap.objs.size] → FpOk X pins H1 b := fun b hb => by
      have e' : b = s1.heap.objs.size + 1 ∨ b = s1.heap.objs.size := by simpa using hb
      have hle : s1.heap.objs.size ≤ b := by
        rcases e' with z | z
        · rw [z]; exact Nat.le_add_right _ _
        · rw [z]; exact Nat.le_refl _
      exact I1.fpOk hle (I1.hok.fresh hle)
    rcases q with ⟨hq, q⟩ | ⟨hq, q⟩
    · obtain ⟨its, rv, p', hz⟩ := I1.list hq
      refine call_enumerate_list p'.isList fun h' he hit hsz hk => wpAny_pyIter_enum he ?_
      have I2 : Inv X pins σ H1 { s1 with heap := h' } := I1.kept (t' := s1.toks) hk
      exact ⟨s1.heap.objs.size + 1, [s1.heap.objs.size + 1, s1.heap.objs.size], _, _, H1, rfl, I2, turn_enum a (s1.heap.objs.size + 1) s1.heap.objs.size, ⟨⟨.none, he⟩, hit, Nat.succ_ne_self _⟩, fresh, q⟩
    · obtain ⟨its, rv, p', hz⟩ := I1.tuple hq
      refine call_enum_tup (show s1.heap.IsTuple a its.toArray from p') fun h' he hit hsz hk => wpAny_pyIter_enum he ?_
      have I2 : Inv X pins σ H1 { s1 with heap := h' } := I1.kept (t' := s1.toks) hk
      exact ⟨s1.heap.objs.size + 1, [s1.heap.objs.size + 1, s1.heap.objs.size], _, _, H1, rfl, I2, turn_enumT a (s1.heap.objs.size + 1) s1.heap.objs.size, ⟨⟨.none, he⟩, hit, Nat.succ_ne_self _⟩, fresh, q⟩
def enumD (xs : List D) : List D := xs.mapIdx fun i d => .tup [.int (i : Nat), d]
theorem enumD_eq (xs : List D) : enumD xs = xs.mapIdx fun i d => .tup [.int (i : Nat), d] := rfl
theorem enumD_len (xs : List D) : (enumD xs).length = xs.length := by rw [enumD_eq, List.length_mapIdx]
theorem enumD_get {xs : List D} {i : Nat} {d : D} (h : (enumD xs)[i]? = some d) : ∃ x, xs[i]? = some x ∧ d = .tup [.int (i : Nat), x] := by
  rw [enumD_eq, List.getElem?_mapIdx] at h
  obtain ⟨x, hx, rfl⟩ := Option.map_eq_some_iff.mp h
  exact ⟨x, hx, rfl⟩
def wEnum (t : WA) : WI := fun sd S R => t sd S fun xs S1 => one xs fun d => seqD d S1 fun ys ok => R ⟨enumD ys, ok⟩ S1
theorem new_pair {K : PySem.W.Frag} {S : SO} {H : Hp} {T : Addr} {i : Int} {x : V} {d : D} (s : SRel K S H) (hT : H T = none) (r : Rel K S H d x) : Nx S H S (upd H T (.tup [.int i, x])) ∧ SRel K S (upd H T (.tup [.int i, x])) ∧ Rel K S (upd H T (.tup [.int i, x])) (.tup [.int i, d]) (.ref T) :=
  ⟨nx_new hT, s.new hT, T, _, rfl, ⟨s.free hT, upd_same⟩, .int i, [x], rfl, rfl, x, [], rfl, Rel.nx (nx_new hT) _ _ r, rfl⟩
theorem jrel_enumL {K : PySem.W.Frag} {S0 : SO} {H0 : Hp} {a : Addr} {xs : List D} {ok : SO → Prop} (h : ∀ S H, Nx S0 H0 S H → SRel K S H → ok S → ∃ vs, SqL K H a vs ∧ Rels K S H xs vs) : JRel K S0 H0 ⟨enumD xs, ok⟩ (Ite K a) where
  go := fun i S H n s o hi => by
    obtain ⟨vs, q, r⟩ := h S H n s o
    have hi' : i < xs.length := by rw [← enumD_len xs]; exact hi
    obtain ⟨v, hv, _⟩ := r.get (List.getElem?_eq_getElem hi')
    exact ⟨vs, v, q, hv⟩
  stop := fun i S H n s o hi => by
    obtain ⟨vs, q, r⟩ := h S H n s o
    exact ⟨vs, q, by rw [← r.length, ← enumD_len xs]; exact Nat.le_of_eq hi.symm⟩
  yld := fun i S H x H' d n s o hi y => by
    obtain ⟨vs, q, r⟩ := h S H n s o
    obtain ⟨T, x', rfl, hT, rfl, y⟩ := y
    obtain ⟨dx, hd, rfl⟩ := enumD_get hi
    obtain ⟨v, hv, rv⟩ := r.get hd
    have e := y vs q
    rw [hv] at e
    cases e
    exact new_pair s hT rv
theorem jrel_enumT {K : PySem.W.Frag} {S0 : SO} {H0 : Hp} {a : Addr} {xs : List D} {ok : SO → Prop} (h : ∀ S H, Nx S0 H0 S H → SRel K S H → ok S → ∃ vs, SqT K H a vs ∧ Rels K S H xs vs) : JRel K S0 H0 ⟨enumD xs, ok⟩ (IteT K a) where
  go := fun i S H n s o hi => by
    obtain ⟨vs, q, r⟩ := h S H n s o
    have hi' : i < xs.length := by rw [← enumD_len xs]; exact hi
    obtain ⟨v, hv, _⟩ := r.get (List.getElem?_eq_getElem hi')
    exact ⟨vs, v, q, hv⟩
  stop := fun i S H n s o hi => by
    obtain ⟨vs, q, r⟩ := h S H n s o
    exact ⟨vs, q, by rw [← r.length, ← enumD_len xs]; exact hi.symm⟩
  yld := fun i S H x H' d n s o hi y => by
    obtain ⟨vs, q, r⟩ := h S H n s o
    obtain ⟨T, x', rfl, hT, rfl, y⟩ := y
    obtain ⟨dx, hd, rfl⟩ := enumD_get hi
    obtain ⟨v, hv, rv⟩ := r.get hd
    have e := y vs q
    rw [hv] at e
    cases e
    exact new_pair s hT rv
theorem di_enum {X : Cx} {e : Expr} {t : WA} {p pos tpos : Pos} {elts : List Expr} {kk : Nat} (hm : X.mg "enumerate" = none) (ha : DA X [e] t) (hg : Gl X "enumerate" := by rfl) (hs : starEach [e] X.env = [(false, eval e X.env)] := by rfl) :
    DI X (.Tuple elts kk tpos) (.Call (.Name "enumerate" p) [e] [] pos) (wEnum t) := by
  refine pi_imp (pi_enumA hg hm ha hs) fun σ H R ⟨sd, S, R0, st, q, an⟩ => ⟨sd, S, _, st, q, fun xs S1 vs H1 q1 n1 s1 r1 => ?_⟩
  obtain ⟨d, rfl, q1⟩ := one_of q1
  obtain ⟨v, rfl, rv⟩ := r1.v1
  cases d with
  | lst xs =>
    obtain ⟨a, vs, rfl, t, hv, r⟩ := rv
    exact ⟨a, vs, rfl, .inl ⟨.of hv, an _ _ _ _ q1 n1 s1 (jrel_enumL fun S2 H2 n2 s2 _ => ⟨vs, .of (n2 a _ t hv).2, r.nx n2⟩)⟩⟩
  | src xs =>
    obtain ⟨a, vs, rfl, t, r⟩ := rv
    exact ⟨a, vs, rfl, .inl ⟨t.sq, an _ _ _ _ q1 n1 s1 (jrel_enumL fun S2 H2 n2 s2 _ => ⟨vs, (t.nx n2).sq, r.nx n2⟩)⟩⟩
  | tup xs =>
    obtain ⟨a, vs, rfl, t, r⟩ := rv
    exact ⟨a, vs, rfl, .inr ⟨t.sq, an _ _ _ _ q1 n1 s1 (jrel_enumT fun S2 H2 n2 s2 _ => ⟨vs, (t.nx n2).sq, r.nx n2⟩)⟩⟩
  | tf xs =>
    obtain ⟨a, vs, rfl, t, r⟩ := rv
    exact ⟨a, vs, rfl, .inr ⟨t.sq, an _ _ _ _ q1 n1 s1 (jrel_enumT fun S2 H2 n2 s2 _ => ⟨vs, (t.nx n2).sq, r.nx n2⟩)⟩⟩
  | kt xs =>
    obtain ⟨a, vs, rfl, t, r⟩ := rv
    exact ⟨a, vs, rfl, .inr ⟨t.sq, an _ _ _ _ q1 n1 s1 (jrel_enumT fun S2 H2 n2 s2 _ => ⟨vs, t.sq, r.nx n2⟩)⟩⟩
  | obj a =>
    obtain ⟨xs, hx, q1⟩ := q1
    have e : v = .ref a := rv
    subst e
    obtain ⟨vs, hq, r⟩ := SqL.uniq hx s1
    exact ⟨a, vs, rfl, .inl ⟨hq, an _ _ _ _ q1 n1 s1 (jrel_enumL fun S2 H2 n2 s2 o => SqL.uniq o s2)⟩⟩
  | _ => exact False.elim q1
end L2.DL

/-! DL11: dict comprehensions whose keys are ints and texts, or tuples of these -/
namespace L2.DL
open PySem PySem.Spec PyProof.Rows

/-- the empty dict of that kind -/
def ob0 : Bool → HO
  | true => .dT []
  | false => .dK []
theorem ob0_ok {P : Program} {w : World} {H : Hp} (t : Bool) (h : Heap) (hb : sysModules < h.objs.size) : ObjOk P w H (h.push { cls := .type "dict", data := .dict #[] }) h.objs.size (ob0 t) := by
  cases t with
  | true => exact dt_empty h hb
  | false => exact dk_empty h hb
theorem d_dictPut {X : Cx} {pins : List (Addr × Obj)} {σ : St} {H H' : Hp} {s : Shared} {E : Value → Shared → Prop} {a : Addr} {y v : V} {u r : Value} {Q : Unit → Shared → Prop} (hu : X.A.units + 65 < cLine) (I : Inv X pins σ H s) (g : DPut H a y v H') (ry : RelV y u) (rv : RelV v r)
    (h : ∀ s', Inv X pins σ H' s' → Q () s') : wpAny (model X.prog X.w) X.A (dictSet a u r) Q E s := by
  rcases g with ⟨kvs, k, e, rfl, l, rfl⟩ | ⟨kvs, k, b, e, rfl, eb, l, rfl⟩
  · exact d_dictSet I e l ry rv h
  · obtain rfl : u = Value.ref b := ry
    obtain ⟨z, hd, xs, rel, dd⟩ := dt_of I.hok e
    have lx := Paired.length rel
    have lp := length_putK kvs k v
    refine wpAny_dictSet_heap (hsz := by omega) (show X.A.units < cLine by omega) (key_of I.hok eb) dd fun h' dd' hs => h _ ?_
    obtain ⟨q, es, ep, hq, h2, h3, h4, _, h5⟩ := dd'
    refine d_write I (by rw [e]; trivial) hs ⟨q, hq⟩ ⟨by omega, hd, _, (rel.put k eb rv).keeps fun c ys ec => ?_, q, es, ep, hq, h2, h3, h4, h5⟩
    exact (upd_ne (ne_of ec e (fun z => nomatch z))).trans ec
/-- the comprehension's reading: D the new dict -/
def tDcG (t : Bool) (wi : TI) (g : TG) (tt : TT) (tk tv : TE) (vs : List Nat) : TE := fun σ H Q => wi σ H fun J H1 => ∀ D, H1 D = none → ∃ W : Nat → Nat → Hp → Prop, (∃ m, W 0 m (upd H1 D (ob0 t))) ∧ ∀ i m H, W i m H →
  (J.stop i H ∧ Q (.ref D) H) ∨ (J.go i H ∧ ∃ N : Hp → Prop, (∀ H', N H' → ∃ m', m' < m ∧ W (i + 1) m' H') ∧ ∀ x H', J.yld i H x H' → g x (wipe σ vs) H' fun σ2 H2 => wipe σ2 vs = wipe σ vs ∧ tt σ2 H2 fun b H3 =>
    if b = true then tk σ2 H3 fun y H4 => tv σ2 H4 fun z H5 => ∃ H6, DPut H5 D y z H6 ∧ N H6 else N H3)
section
variable {X : Cx}
theorem dcG_core {t : Bool} {pins : List (Addr × Obj)} {s : Shared} {σ : St} {H : Hp} {Q : VK} {kx vx tg iter : Expr} {ifs : List Expr} {scope : Scope} {own : List (Str × Nat)} {pos pos' : Pos} {wi : TI} {g : TG} {tt : TT} {tk tv : TE} {use : Option (Value → Sem Unit)} {Qf : Value → Shared → Prop}
    (hu : X.A.units + 65 < cLine) (hc : X.calm = true) (hN : X.N.Nodup) (I : Inv X pins σ H s) (hi : PI X tg iter wi) (ok : BlkOk X.N X.env.scope scope own) (hg : Blk X scope fun Y => PG Y tg g) (ht : Blk X scope fun Y => PTs Y ifs tt) (hk : Blk X scope fun Y => PE Y kx tk) (he : Blk X scope fun Y => PE Y vx tv)
    (hs : ∀ x, foldedSetIterable iter X.env x = pure x) (h : tDcG t wi g tt tk tv (own.map (·.2)) σ H Q)
    (hRR : ∀ D C s' m H', Inv X pins σ H' s' → Q (.ref D) H' → s'.heap.Ns C m → FpOk X pins H' C → compPost (model X.prog X.w) X.A X.xe use Qf (.ref D) C (.ok .next) s') :
    wpAny (model X.prog X.w) X.A (comprehension (.DictComp kx vx [⟨tg, iter, ifs, 0⟩] scope pos) scope X.env pos' newDict false (eval iter X.env) use) Qf X.xe s := by
  have frees : ∀ y ∈ scope.names, y.2 = .free → ∃ c, X.env.cells.lookup y.1 = some c := fun y hy e => (ok.free y hy e).elim (fun k => I.ok.has _ (.inl k)) fun k => I.ok.has _ (.inr k)
  refine wpAny_comprehension_free (use := use) rfl hs (closure_ok frees) ok.kind (fun y hy e => by rw [ok.uniq y hy, e])
    (thn (hi.run pins s σ H _ I h) fun xv s1 hx => thn hx fun itv s2 h2 => ?_)
  obtain ⟨it, fp, tn, J, H2, e, I2, T, st2, f2, q⟩ := h2
  subst e
  refine wpAny_newObj_type (newEnv_comp ?_)
  generalize hD : s2.heap.objs.size = D
  obtain ⟨W, ⟨m0, w0⟩, turn⟩ := q D (I2.hok.fresh (Nat.le_of_eq hD))
  generalize hs3 : ({ s2 with heap := s2.heap.push { cls := .type "dict", data := .dict #[] } } : Shared) = s3
  have h3 : s3.heap = s2.heap.push { cls := .type "dict", data := .dict #[] } := by rw [← hs3]
  have I3 : Inv X pins σ (upd H2 D (ob0 t)) s3 := by
    subst hs3 hD
    exact I2.laid (t' := s2.toks) (fun b o e => Heap.get?_push_of_some _ e) (Nat.le_refl _) (ob0_ok t s2.heap I2.big)
  have old : ∀ b ∈ fp, b < s2.heap.objs.size := fun b hb => let ⟨o, e, _⟩ := T.obj _ _ st2 b hb; Heap.lt_size e
  have f3 : ∀ b ∈ fp, FpOk X pins (upd H2 D (ob0 t)) b ∧ b < s3.heap.objs.size := fun b hb =>
    ⟨⟨(upd_ne (by rw [← hD]; exact Nat.ne_of_lt (old b hb))).trans (f2 b hb).1, (f2 b hb).2⟩, by rw [h3, Heap.size_push]; exact Nat.lt_succ_of_lt (old b hb)⟩
  have st3 : tn 0 s3.heap := T.keep _ _ _ st2 fun b _ o e => h3 ▸ Heap.get?_push_of_some _ e
  have I4 := block_start I3 ok hN f3
  show codeAny _ _ (.compStart (.DictComp kx vx [⟨tg, iter, ifs, 0⟩] scope pos) 0 (.ref it) (.ref D) (compEnvC scope (cellsFrom (s3.heap.objs.size + 1) scope.names (cloFrom X.env.cells scope.names [])) s3.heap.objs.size X.env)) (compPost (model X.prog X.w) X.A X.xe use Qf (.ref D) s3.heap.objs.size) { s3 with heap := pushCells (s3.heap.push { cls := .type "dict", data := .dict #[] }) scope.names }
  have pg := hg s3 (upd H2 D (ob0 t)) s3.heap.objs.size (cellsFrom (s3.heap.objs.size + 1) scope.names (cloFrom X.env.cells scope.names [])) fp
  have pt := ht s3 (upd H2 D (ob0 t)) s3.heap.objs.size (cellsFrom (s3.heap.objs.size + 1) scope.names (cloFrom X.env.cells scope.names [])) fp
  have pk := hk s3 (upd H2 D (ob0 t)) s3.heap.objs.size (cellsFrom (s3.heap.objs.size + 1) scope.names (cloFrom X.env.cells scope.names [])) fp
  have pe := he s3 (upd H2 D (ob0 t)) s3.heap.objs.size (cellsFrom (s3.heap.objs.size + 1) scope.names (cloFrom X.env.cells scope.names [])) fp
  generalize hce : compEnvC scope (cellsFrom (s3.heap.objs.size + 1) scope.names (cloFrom X.env.cells scope.names [])) s3.heap.objs.size X.env = ce at I4 pg pt pk pe ⊢
  have cL : ce.locals = s3.heap.objs.size := by rw [← hce]; rfl
  generalize hH3 : upd H2 D (ob0 t) = H3 at I3 I4 pg pt pk pe w0 f3
  generalize hs4 : ({ s3 with heap := pushCells (s3.heap.push { cls := .type "dict", data := .dict #[] }) scope.names } : Shared) = s4 at I4 ⊢
  have st4 : tn 0 s4.heap := T.keep _ _ _ st3 fun b _ o e => hs4 ▸ pushCells_keeps _ _ _ _ (Heap.get?_push_of_some _ e)
  have stat : ∀ {σ' : St} {H' : Hp} {s' : Shared}, Inv (X.blk s3 H3 scope ce fp) [] σ' H' s' → (∀ b ∈ fp, H' b = none) → ∀ b ∈ fp, FpOk (X.blk s3 H3 scope ce fp) [] H' b := fun {σ' H' s'} I' hn b hb =>
    ⟨hn b hb, (I'.ok.exf b hb).1, I'.ok.exfs b hb, .inl hb, fun x c e => (I'.ok.exf b hb).2 x c e, fun p hp => nomatch (show p ∈ ([] : List (Addr × Obj)) from by simpa using hp)⟩
  have loop : codeAny (model X.prog X.w) X.A (.compLoop (.DictComp kx vx [⟨tg, iter, ifs, 0⟩] scope pos) 0 (.ref it) (.ref D) ce) (compPost (model X.prog X.w) X.A X.xe use Qf (.ref D) s3.heap.objs.size) s4 := by
    refine compLoop_anyD (fun n s' => ∃ i H', Inv (X.blk s3 H3 scope ce fp) [] (wipe σ (own.map (·.2))) H' s' ∧ tn i s'.heap ∧ (∀ b ∈ fp, H' b = none) ∧ W i n H') ?_ m0 ⟨0, H3, I4, st4, fun b hb => (f3 b hb).1.1, w0⟩
    rintro n s5 ⟨i, H5, I5, st5, n5, w5⟩
    rcases turn i n H5 w5 with ⟨stop, qq⟩ | ⟨go, N, hN', step⟩
    · refine thnF (T.done (X.blk s3 H3 scope ce fp) rfl rfl rfl hc i [] s5 _ H5 (fun _ _ => False) I5 (stat I5 n5) st5 stop) fun r s6 ⟨hr, I6⟩ => ?_
      subst hr
      have I7 : Inv X pins σ H5 s6 := I3.call' (ch := fp) I6.os I6.base I6.hok I6.bare fun b hb => let ⟨_, a1, a2, a3, a4, a5⟩ := (f3 b hb).1; ⟨a3, a1, a4, a5⟩
      have nC : H5 s3.heap.objs.size = none := cL ▸ (show H5 ce.locals = none from I6.free)
      obtain ⟨m, hn, _⟩ := I6.loc
      exact hRR D s3.heap.objs.size s6 m H5 I7 qq (cL ▸ (show s6.heap.Ns ce.locals m from hn)) (I3.fpOk (Nat.le_refl _) nC)
    · refine thnF (T.item (X.blk s3 H3 scope ce fp) rfl rfl rfl hc i [] s5 _ H5 (fun _ _ => False) I5 (stat I5 n5) st5 go) fun r s6 ⟨u, hr, h6⟩ => ?_
      subst hr
      refine thnF h6 fun _ s7 ⟨x, H7, I7, r7, y7, st7, n7⟩ => ?_
      refine thnF (pg.run _ s7 _ H7 x u _ (I7.pinned (stat I7 n7) (T.obj _ _ st7)) r7 (step x H7 y7)) fun _ s8 ⟨σ8, H8, I8, hw8, q8⟩ => ?_
      refine thnF (pt.run _ s8 σ8 H8 _ I8 q8) fun b s9 ⟨H9, I9, q9⟩ => ?_
      have fin : ∀ {s' : Shared} {H' : Hp}, Inv (X.blk s3 H3 scope ce fp) ([] ++ pinsAt fp s7.heap) σ8 H' s' → N H' → ∃ m, m < n ∧ ∃ i H', Inv (X.blk s3 H3 scope ce fp) [] (wipe σ (own.map (·.2))) H' s' ∧ tn i s'.heap ∧ (∀ b ∈ fp, H' b = none) ∧ W i m H' := fun {s' H'} I' nx => by
        obtain ⟨m', hm, w'⟩ := hN' H' nx
        have pin' : ∀ b ∈ fp, ∀ o, s7.heap.get? b = some o → s'.heap.get? b = some o ∧ H' b = none := fun b hb o e => let z := I'.pin (b, o) (List.mem_append_right _ (List.mem_append_right _ (mem_pinsAt hb e))); ⟨z.1, z.2.1⟩
        refine ⟨m', hm, i + 1, H', (I'.unpinned (pins := [])).weak (by rw [← hw8, wipe_length]) (fun j v e => (wipe_some (hw8 ▸ e)).1), T.keep _ _ _ st7 fun b hb o e => (pin' b hb o e).1, fun b hb => ?_, w'⟩
        obtain ⟨o, e, _⟩ := T.obj _ _ st7 b hb
        exact (pin' b hb o e).2
      cases b with
      | false => exact fin I9 q9
      | true =>
        refine thnF (pk.run _ s9 σ8 H9 _ I9 q9) fun z s10 ⟨yk, H10, I10, r10, q10⟩ => ?_
        refine thnF (pe.run _ s10 σ8 H10 _ I10 q10) fun z2 s11 ⟨yv, H11, I11, r11, H12, g12, nx⟩ => ?_
        exact d_dictPut (X := X.blk s3 H3 scope ce fp) hu I11 g12 r10 r11 fun s12 I12 => fin I12 nx
  exact codeAny_compStart_dict loop (T.self X.A 0 _ _ _ st4 loop)
theorem pe_dcG {t : Bool} {kx vx tg iter : Expr} {ifs : List Expr} {scope : Scope} {own : List (Str × Nat)} {pos : Pos} {wi : TI} {g : TG} {tt : TT} {tk tv : TE} (hu : X.A.units + 65 < cLine) (hc : X.calm = true) (hN : X.N.Nodup) (hi : PI X tg iter wi) (ok : BlkOk X.N X.env.scope scope own)
    (hg : Blk X scope fun Y => PG Y tg g) (ht : Blk X scope fun Y => PTs Y ifs tt) (hk : Blk X scope fun Y => PE Y kx tk) (he : Blk X scope fun Y => PE Y vx tv) (hs : ∀ x, foldedSetIterable iter X.env x = pure x) :
    PE X (.DictComp kx vx [⟨tg, iter, ifs, 0⟩] scope pos) (tDcG t wi g tt tk tv (own.map (·.2))) := by
  refine ⟨fun pins s σ H Q I h => ?_⟩
  rw [arm_eval_DictComp]
  refine dcG_core hu hc hN I hi ok hg ht hk he hs h fun D C s' m H' I' q hn ⟨f0, f1, f2, f3, f4, f5⟩ => ⟨m, hn, fun h'' sb => ?_⟩
  exact ⟨.ref D, H', I'.turned (t' := s'.toks) (fun b o hb e => (sb.2 b hb).trans e) f0 f1 f3 f4 f5, rfl, q⟩
/-! ### .. over data -/
/-- p the new dict; R what is wanted behind it -/
structure DcG (t : Bool) (wi : WI) (nt : NT) (tt : WT) (wk we : WE) (vs : List Nat) (R : Addr → SO → Prop) (sd : SD) (S : SO) : Prop where
  ex : wi sd S fun J S1 => ∀ p, S1 p = none → ∃ Pv : Nat → SO → Prop, Pv 0 (S1.set p (.dic t [])) ∧ (∀ i S, Pv i S → J.ok S) ∧
  (∀ i d S, J.items[i]? = some d → Pv i S → putNT nt d (wipeD sd vs) fun sd2 => upT tt sd2 S fun b S2 => if b = true then up wk sd2 S2 fun k S3 => up we sd2 S3 fun y S4 => ∃ kvs, S4 p = some (.dic t kvs) ∧ keyOk t k ∧ kvs.length < 1000000 ∧ Pv (i + 1) (S4.set p (.dic t (dput kvs k y))) else Pv (i + 1) S2) ∧
  (∀ S, Pv J.items.length S → R p S)
theorem dcG_lift {t : Bool} {wi : WI} {nt : NT} {tt : WT} {wk we : WE} {vs : List Nat} {R : Addr → SO → Prop} {σ : St} {H : Hp} {Q : VK} {sd : SD} {S : SO} (hs : ∀ i ∈ nt.ix, i ∈ vs) (st : Sta X.K sd S σ H) (q : DcG t wi nt tt wk we vs R sd S)
    (hR : ∀ p S' H', R p S' → Nx S H S' H' → SRel X.K S' H' → Q (.ref p) H') : tDcG t (liftI X.K wi) (gNT X.K nt) (liftT X.K tt) (lift X.K wk) (lift X.K we) vs σ H Q := by
  refine ⟨sd, S, _, st, q.ex, fun J S1 H1 JV q1 n1 s1 jr p hp => ?_⟩
  obtain ⟨Pv, h0, hok, hst, hend⟩ := q1 p (s1.free hp)
  have n2 : Nx S1 H1 (S1.set p (.dic t [])) (upd H1 p (ob0 t)) := nx_obj hp (s1.free hp)
  have s2 : SRel X.K (S1.set p (.dic t [])) (upd H1 p (ob0 t)) := srel_put s1 n2 (by
    cases t with
    | true => exact .inr ⟨[], rfl, upd_same, rfl⟩
    | false => exact .inl ⟨[], rfl, upd_same, rfl⟩)
  refine ⟨fun i m H' => ∃ S', m = J.items.length - i ∧ i ≤ J.items.length ∧ Pv i S' ∧ SRel X.K S' H' ∧ Nx S1 H1 S' H', ⟨J.items.length, _, by simp, Nat.zero_le _, h0, s2, n2⟩, ?_⟩
  rintro i m H' ⟨S', rfl, hile, hp', s', n'⟩
  have o := hok i S' hp'
  by_cases hlt : i < J.items.length
  · refine .inr ⟨jr.go i S' H' n' s' o hlt, fun H2 => ∃ S2, Pv (i + 1) S2 ∧ SRel X.K S2 H2 ∧ Nx S1 H1 S2 H2, fun H2 ⟨S2, h1, h2, h3⟩ => ⟨J.items.length - (i + 1), by omega, S2, rfl, hlt, h1, h2, h3⟩, fun x H2 hy => ?_⟩
    have hi' := List.getElem?_eq_getElem hlt
    obtain ⟨n3, s3, r3⟩ := jr.yld i S' H' x H2 _ n' s' o hi' hy
    have nn := n'.trans n3
    refine nt_go hs ((st.nx (n1.trans nn) s3).wipe vs) r3 (hst i _ S' hi' hp') fun sd2 σ2 hk st2 hw => ⟨by rw [hw, wipe_wipe], upT_lift ?_⟩
    refine ⟨sd2, S', _, st2, hk, fun b S4 H4 q4 n4 s4 => ?_⟩
    cases b with
    | false => exact ⟨S4, q4, s4, nn.trans n4⟩
    | true =>
      refine up_lift ⟨sd2, S4, _, st2.nx n4 s4, q4, fun k S5 kv H5 q5 n5 s5 r5 => up_lift ⟨sd2, S5, _, (st2.nx n4 s4).nx n5 s5, q5, fun y S6 v H6 ⟨kvs, ha, hk, hl, q6⟩ n6 s6 r6 => ?_⟩⟩
      have da : DicAt X.K S6 H6 p t kvs := s6 p _ ha
      obtain ⟨ob, g, hd⟩ := da.put (Rel.nx n6 _ _ r5) hk r6 hl
      have n7 : Nx S6 H6 (S6.set p (.dic t (dput kvs k y))) (upd H6 p ob) := nx_put ha
      exact ⟨_, g, _, q6, srel_put s6 n7 (hd _ _ n7 upd_same), nn.trans (n4.trans (n5.trans (n6.trans n7)))⟩
  · have e : i = J.items.length := by omega
    subst e
    exact .inl ⟨jr.stop _ S' H' n' s' o rfl, hR p S' H' (hend S' hp') (n1.trans n') s'⟩
/-- the dict an object -/
def wDc (t : Bool) (wi : WI) (nt : NT) (tt : WT) (wk we : WE) (vs : List Nat) : WE := fun sd S Q => DcG t wi nt tt wk we vs (fun p S' => Q (.obj p) S') sd S
/-- .. frozen at the end, its parts pure: the dict is made of f of the items -/
noncomputable def dputsL : List (D × D) → List (D × D) → List (D × D)
  | acc, [] => acc
  | acc, (k, v) :: r => dputsL (dput acc k v) r
theorem dputsL_app : ∀ {xs : List (D × D)} {acc : List (D × D)} {y : D × D}, dputsL acc (xs ++ [y]) = dput (dputsL acc xs) y.1 y.2
  | [], acc, (k, v) => rfl
  | (k, v) :: xs, acc, y => dputsL_app (xs := xs)
theorem dputsL_len : ∀ (xs acc : List (D × D)), (dputsL acc xs).length ≤ acc.length + xs.length
  | [], acc => Nat.le_refl _
  | (k, v) :: xs, acc => by
    have h1 := dputsL_len xs (dput acc k v)
    have h2 := dput_length acc k v
    show (dputsL (dput acc k v) xs).length ≤ _
    rw [List.length_cons]
    omega
theorem dputsL_nodup : ∀ {kvs acc : List (D × D)}, (∀ p ∈ kvs, dget acc p.1 = none) → (kvs.map (·.1)).Nodup → dputsL acc kvs = acc ++ kvs
  | [], acc, _, _ => (List.append_nil _).symm
  | (k, v) :: r, acc, h, n => by
    have h0 : dget acc k = none := h (k, v) (List.mem_cons_self ..)
    have n' := List.nodup_cons.mp (show (k :: r.map (·.1)).Nodup from n)
    show dputsL (dput acc k v) r = _
    rw [dputsL_nodup (fun p hp => ?_) n'.2, dput_new h0, List.append_assoc]
    · rfl
    · have hne : ¬ k = p.1 := fun e => n'.1 (by rw [e]; exact List.mem_map_of_mem hp)
      rw [dget_put, if_neg hne]
      exact h p (List.mem_cons_of_mem _ hp)
structure DcP (t : Bool) (wi : WI) (nt : NT) (tt : WT) (wk we : WE) (vs : List Nat) (sd : SD) (S : SO) (Q : KD) : Prop where
  ex : ∃ R : ItD → SO → Prop, wi sd S R ∧ ∀ J S1, R J S1 → (∀ S', Ext S1 S' → J.ok S') ∧ J.items.length ≤ 100000 ∧ ∃ f : D → Option (D × D), (∀ d ∈ J.items, ∀ S', Ext S1 S' → putNT nt d (wipeD sd vs) fun sd2 =>
  tt sd2 S' fun b S2 => S2 = S' ∧ if b = true then up wk sd2 S' fun k S3 => S3 = S' ∧ keyOk t k ∧ up we sd2 S' fun y S4 => S4 = S' ∧ f d = some (k, y) else f d = none) ∧ Q (.dic t (dputsL [] (J.items.filterMap f))) S1
def wDcP (t : Bool) (wi : WI) (nt : NT) (tt : WT) (wk we : WE) (vs : List Nat) : WE := fun sd S Q => DcP t wi nt tt wk we vs sd S Q
theorem dcP_lift {t : Bool} {wi : WI} {nt : NT} {tt : WT} {wk we : WE} {vs : List Nat} {σ : St} {H : Hp} {Q : VK} (hx : ∀ i ∈ nt.ix, i ∈ vs) (h : lift X.K (wDcP t wi nt tt wk we vs) σ H Q) : tDcG t (liftI X.K wi) (gNT X.K nt) (liftT X.K tt) (lift X.K wk) (lift X.K we) vs σ H Q := by
  obtain ⟨sd, S, Q0, st, ⟨R, q, i⟩, an⟩ := h
  refine ⟨sd, S, R, st, q, fun J S1 H1 JV qR n1 s1 jr => ?_⟩
  obtain ⟨hok, hl, f, hf, q1⟩ := i J S1 qR
  obtain ⟨sd', S', R0, st', q', an'⟩ := dcG_lift (X := X) (t := t) (wi := fun _ S R => S = S1 ∧ R J S1) (tt := tt) (wk := wk) (we := we) (R := fun p S' => S' = S1.set p (.dic t (dputsL [] (J.items.filterMap f))) ∧ S1 p = none) (Q := Q) hx (st.nx n1 s1)
    ⟨⟨rfl, fun p hp => ⟨fun i S => S = S1.set p (.dic t (dputsL [] ((J.items.take i).filterMap f))), by simp [dputsL], fun i S e => by rw [e]; exact hok _ (ext_set hp), fun i d S hi e => by
      subst e
      have hd := hf d (List.mem_of_getElem? hi) _ (ext_set (o := .dic t (dputsL [] ((J.items.take i).filterMap f))) hp)
      have htk : (J.items.take (i + 1)).filterMap f = (J.items.take i).filterMap f ++ (f d).toList := by
        rw [List.take_add_one, hi, List.filterMap_append]
        cases q : f d with
        | none => simp [q]
        | some y => simp [q]
      have hlen : (dputsL [] ((J.items.take i).filterMap f)).length ≤ 100000 := by
        have h0 := dputsL_len ((J.items.take i).filterMap f) []
        have h1 := List.length_filterMap_le f (J.items.take i)
        have h2 : (J.items.take i).length ≤ J.items.length := by rw [List.length_take]; omega
        rw [List.length_nil] at h0
        omega
      have go : ∀ sd2 S0, S0 = S1.set p (.dic t (dputsL [] ((J.items.take i).filterMap f))) → (tt sd2 S0 fun b S2 => S2 = S0 ∧ if b = true then up wk sd2 S0 fun k S3 => S3 = S0 ∧ keyOk t k ∧ up we sd2 S0 fun y S4 => S4 = S0 ∧ f d = some (k, y) else f d = none) →
          upT tt sd2 S0 fun b S2 => if b = true then up wk sd2 S2 fun k S3 => up we sd2 S3 fun y S4 => ∃ kvs, S4 p = some (.dic t kvs) ∧ keyOk t k ∧ kvs.length < 1000000 ∧ S4.set p (.dic t (dput kvs k y)) = S1.set p (.dic t (dputsL [] ((J.items.take (i + 1)).filterMap f))) else S2 = S1.set p (.dic t (dputsL [] ((J.items.take (i + 1)).filterMap f))) := by
        intro sd2 S0 eS hh
        refine ⟨_, hh, fun b S2 ⟨e2, q2⟩ => ?_⟩
        subst e2
        cases b with
        | false =>
          have q2' : f d = none := q2
          show S2 = _
          rw [htk, q2', eS]
          simp
        | true =>
          obtain ⟨K0, q3, i3⟩ := q2
          refine ⟨K0, q3, fun k S3 q4 => ?_⟩
          obtain ⟨e3, ok, E0, q5, i5⟩ := i3 k S3 q4
          subst e3
          refine ⟨E0, q5, fun y S4 q6 => ?_⟩
          obtain ⟨e4, q7⟩ := i5 y S4 q6
          subst e4
          refine ⟨_, by rw [eS]; exact set_same, ok, by omega, ?_⟩
          rw [eS, set_set, htk, q7]
          show _ = S1.set p (.dic t (dputsL [] ((J.items.take i).filterMap f ++ [(k, y)])))
          rw [dputsL_app]
      cases nt with
      | n j => exact go _ _ rfl hd
      | t l =>
        cases d with
        | tup xs => exact ⟨hd.1, go _ _ rfl hd.2⟩
        | _ => exact False.elim hd, fun S e => ⟨by rw [e, List.take_length], hp⟩⟩⟩⟩
    fun p S' H' ⟨e, hp⟩ n' s' => by
      subst e
      obtain ⟨n2, s2, r2⟩ := frz_dic s' set_same
      rw [del_set hp] at n2 s2 r2
      exact an _ _ _ _ q1 (n1.trans (n'.trans n2)) s2 r2
  obtain ⟨rfl, q'⟩ := q'
  exact an' J S' H1 JV q' (.refl _ _) st'.s jr
theorem de_dcP {t : Bool} {kx vx tg iter : Expr} {ifs : List Expr} {scope : Scope} {own : List (Str × Nat)} {pos : Pos} {wi : WI} {nt : NT} {tt : WT} {wk we : WE} (hu : X.A.units + 65 < cLine) (hc : X.calm = true) (hN : X.N.Nodup) (hi : DI X tg iter wi) (ok : BlkOk X.N X.env.scope scope own)
    (hx : ∀ i ∈ nt.ix, i ∈ own.map (·.2)) (hg : Blk X scope fun Y => PG Y tg (gNT X.K nt)) (ht : Blk X scope fun Y => PTs Y ifs (liftT X.K tt)) (hk : Blk X scope fun Y => PE Y kx (lift X.K wk)) (he : Blk X scope fun Y => PE Y vx (lift X.K we))
    (hs : ∀ x, foldedSetIterable iter X.env x = pure x := by intro _; rfl) : DE X (.DictComp kx vx [⟨tg, iter, ifs, 0⟩] scope pos) (wDcP t wi nt tt wk we (own.map (·.2))) :=
  pe_imp (pe_dcG hu hc hN hi ok hg ht hk he hs) fun σ H Q h => dcP_lift hx h
end
end L2.DL

/-! DL12: isinstance; dict of pairs -/
namespace L2.DL
open PySem PySem.Spec PyProof.Rows

/-- a value's class: a built-in one by its name, an own one by its address -/
abbrev TyN := String ⊕ Addr
def objT : Option DO → Option TyN
  | some (.lst _) => some (.inl "list")
  | some (.dic _ _) => some (.inl "dict")
  | some (.ins C _) => some (.inr C)
  | some (.err _ _) => none
  | some (.tb _) => none
  | none => none
def tyX (S : SO) : D → Option TyN
  | .non => some (.inl "NoneType")
  | .bl _ => some (.inl "bool")
  | .int _ => some (.inl "int")
  | .str _ => some (.inl "str")
  | .tup _ => some (.inl "tuple")
  | .kt _ => some (.inl "tuple")
  | .tf _ => some (.inl "tuple")
  | .lst _ => some (.inl "list")
  | .src _ => some (.inl "list")
  | .dic _ _ => some (.inl "dict")
  | .fd _ _ => none
  | .gh _ _ => none
  | .ins C _ => some (.inr C)
  | .obj a => objT (S a)
  | .ty _ => none
def tyV' : TyN → Value
  | .inl n => .type n
  | .inr C => .ref C
structure InsOk (K : PySem.W.Frag) (C : Addr) : Prop where
  cl : Cls K C
  ha : PySem.W.findIn K (.ref C) "__class__" = some (some (.builtin "object.__class__"))
  hn : PySem.W.specialIn K (.builtin "object.__class__") "__get__" = some (some (.builtin "getset_descriptor.__get__"))
  htk : PySem.W.takesIn K (.builtin "object.__class__") = some true
  hm : PySem.W.mroIn K C (.type "object") = some true
theorem tyX_at {K : PySem.W.Frag} {S : SO} {H : Hp} {d : D} {v : V} {t : TyN} (s : SRel K S H) (r : Rel K S H d v) (e : tyX S d = some t) (hC : ∀ C, t = .inr C → InsOk K C) : TyX K H v (tyV' t) := by
  have dc : ∀ {a : Addr} {b : Bool} {kvs : List (D × D)}, DicAt K S H a b kvs → TyX K H (.ref a) (.type "dict") := fun h => by
    rcases h with ⟨l, _, hl, _⟩ | ⟨l, _, hl, _⟩
    · exact .base (.dK hl)
    · exact .base (.dT hl)
  have inst : ∀ {a C dx : Addr} {l : List (Str × V)}, H a = some (.ins C dx l) → InsOk K C → TyX K H (.ref a) (.ref C) := fun h o => .base (.ins h o.cl o.ha o.hn o.htk o.hm)
  cases d with
  | non =>
    have e1 : v = .non := r
    cases e
    rw [e1]
    exact .base .non
  | bl b =>
    have e1 : v = .bl b := r
    cases e
    rw [e1]
    exact .base (.bl b)
  | int b =>
    have e1 : v = .int b := r
    cases e
    rw [e1]
    exact .base (.int b)
  | str b =>
    have e1 : v = .str b := r
    cases e
    rw [e1]
    exact .base (.str b)
  | ty n => cases e
  | fd t kvs => cases e
  | gh d u => cases e
  | tup ds =>
    cases e
    obtain ⟨a, vs, rfl, t, _⟩ := r
    exact .base (.tup t.2)
  | lst ds =>
    cases e
    obtain ⟨a, vs, rfl, _, t, _⟩ := r
    exact .base (.lst t)
  | tf ds =>
    cases e
    obtain ⟨a, vs, rfl, ⟨_, o, t, _⟩, _⟩ := r
    exact .fTuple t
  | src ds =>
    cases e
    obtain ⟨a, vs, rfl, t, _⟩ := r
    rcases t with ⟨_, t | ⟨o, t⟩⟩ | ⟨o, its, n, h1, h2, _⟩
    · exact .base (.lst t)
    · exact .base (.frz t)
    · exact .kList h1 h2
  | kt ds =>
    cases e
    obtain ⟨a, vs, rfl, ⟨o, its, n, h1, h2, _⟩, _⟩ := r
    exact .kTuple h1 h2
  | dic t kvs =>
    cases e
    obtain ⟨a, rfl, _, da⟩ := r
    exact dc da
  | ins C fs =>
    cases e
    obtain ⟨a, dx, l, rfl, _, hl, _⟩ := r
    exact inst hl (hC C rfl)
  | obj a =>
    have e1 : v = .ref a := r
    rw [e1]
    have e2 : objT (S a) = some t := e
    cases q : S a with
    | none =>
      rw [q] at e2
      cases e2
    | some o =>
      rw [q] at e2
      have z := s a o q
      cases o with
      | lst xs =>
        cases e2
        obtain ⟨vs, hv, _⟩ := z
        exact .base (.lst hv)
      | dic b kvs =>
        cases e2
        exact dc z
      | ins C fs =>
        cases e2
        obtain ⟨dx, l, hl, _⟩ := z
        exact inst hl (hC C rfl)
      | err _ _ => cases e2
      | tb _ => cases e2
/-- isinstance(x, c) -/
def cIsi (c : D) (f : TyN → Option Bool) : WL := fun xs S Q => two2 xs fun x c' => c' = c ∧ ∃ t b, tyX S x = some t ∧ f t = some b ∧ Q (.bl b) S
theorem dc_isi {X : Cx} {c : D} {cv : V} {u : Value} {f : TyN → Option Bool} (hc : ∀ K S H v, Rel K S H c v → v = cv) (k : ClsV cv u) (hf : ∀ t b, f t = some b → PySem.W.kitOne X.K (tyV' t) u = some b) (hI : ∀ C b, f (.inr C) = some b → InsOk X.K C) : DC X (.builtin "isinstance") (cIsi c f) := by
  intro pins s σ H xs us Q I r ⟨ds, S, Q0, sr, rs, q, an⟩
  obtain ⟨x, c', rfl, rfl, t, b, ht, hb, q⟩ := two2_of q
  obtain ⟨v, w, rfl, rv, rw'⟩ := rs.two
  have e := hc _ _ _ _ rw'
  subst e
  exact call_isi pins s σ H _ us Q I r ⟨v, w, tyV' t, u, b, rfl, k, tyX_at sr rv ht (fun C e => hI C b (e ▸ hb)), hf t b hb, ansd (.bl b) sr an q rfl⟩
/-- a built-in class: the names that a value's class may have -/
def tyNames : List String := ["NoneType", "bool", "int", "str", "tuple", "list", "dict"]
def subN (n T : String) : Bool := n == T || (n == "bool" && T == "int")
def fTy (T : String) (Cs : List Addr) : TyN → Option Bool
  | .inl n => if n ∈ tyNames then some (subN n T) else none
  | .inr C => if C ∈ Cs then some false else none
theorem kit_tab : ∀ n ∈ tyNames, ∀ T ∈ tyNames, kitB n T = some (subN n T) := by decide +kernel
theorem fTy_n {T n : String} {Cs : List Addr} {b : Bool} (h : fTy T Cs (.inl n) = some b) : n ∈ tyNames ∧ subN n T = b := by
  have h' : (if n ∈ tyNames then some (subN n T) else none) = some b := h
  by_cases hn : n ∈ tyNames
  · rw [if_pos hn] at h'
    exact ⟨hn, Option.some.inj h'⟩
  · rw [if_neg hn] at h'
    cases h'
theorem fTy_C {T : String} {C : Addr} {Cs : List Addr} {b : Bool} (h : fTy T Cs (.inr C) = some b) : C ∈ Cs ∧ b = false := by
  have h' : (if C ∈ Cs then some false else none) = some b := h
  by_cases hn : C ∈ Cs
  · rw [if_pos hn] at h'
    exact ⟨hn, (Option.some.inj h').symm⟩
  · rw [if_neg hn] at h'
    cases h'
theorem dc_isiT {X : Cx} (T : String) (Cs : List Addr) (hT : T ∈ tyNames := by decide) (hC : ∀ C ∈ Cs, InsOk X.K C ∧ PySem.W.kitOne X.K (.ref C) (.type T) = some false) : DC X (.builtin "isinstance") (cIsi (.ty T) (fTy T Cs)) :=
  dc_isi (cv := .ty T) (fun _ _ _ _ r => r) (.ty T) (fun t b h => by
    cases t with
    | inl n =>
      obtain ⟨hn, e⟩ := fTy_n h
      rw [← e]
      exact kit_ty (kit_tab n hn T hT)
    | inr C =>
      obtain ⟨hn, e⟩ := fTy_C h
      rw [e]
      exact (hC C hn).2) fun C b h => (hC C (fTy_C h).1).1
/-- an own class C0 : of no built-in value, of the instances as g tells -/
def fOwn (g : Addr → Option Bool) : TyN → Option Bool
  | .inl n => if n ∈ tyNames then some false else none
  | .inr C => g C
theorem dc_isiO {X : Cx} (C0 : Addr) (g : Addr → Option Bool) (hB : ∀ n ∈ tyNames, PySem.W.kitOne X.K (.type n) (.ref C0) = some false) (hC : ∀ C b, g C = some b → InsOk X.K C ∧ PySem.W.kitOne X.K (.ref C) (.ref C0) = some b) : DC X (.builtin "isinstance") (cIsi (.obj C0) (fOwn g)) :=
  dc_isi (cv := .ref C0) (fun _ _ _ _ r => r) (.own C0) (fun t b h => by
    cases t with
    | inl n =>
      have h' : (if n ∈ tyNames then some false else none) = some b := h
      by_cases hn : n ∈ tyNames
      · rw [if_pos hn] at h'
        rw [← Option.some.inj h']
        exact hB n hn
      · rw [if_neg hn] at h'
        cases h'
    | inr C => exact (hC C b h).2) fun C b h => (hC C b h).1

/-! ### dict of a list of pairs -/
section
variable {K : PySem.W.Frag} {S : SO} {H : Hp}
end
end L2.DL

/-! DL13: tuples without a dict: tuple(list), index; dict displays; repr -/
namespace L2.DL
open PySem PySem.Spec PyProof.Rows
section
variable {X : Cx}
/-- tuple(list), the tuple known to have no dict -/
def cTupleF : WL := fun xs S Q => one xs fun x => ∃ ys, lstX S x = some ys ∧ Q (.tf ys) S
theorem dc_tupleF : DC X (.type "tuple") cTupleF := by
  intro pins s σ H xs us Q I r ⟨ds, S, Q0, sr, rs, q, an⟩
  obtain ⟨x, rfl, ys, e, q⟩ := one_of q
  obtain ⟨v, rfl, rv⟩ := rs.v1
  obtain ⟨a, vs, rfl, hq, rns⟩ := lstX_at sr rv e
  obtain ⟨u, rfl, ru⟩ := vals1 r
  cases ru
  obtain ⟨its, r', pl, hz⟩ := I.list hq
  refine call_tuple_list pl.isList (fun h' kp => ?_) (by rw [List.size_toArray, ← r'.length]; exact hz)
  have I1 : Inv X pins σ H { s with heap := h' } := I.kept (t' := s.toks) kp
  have hf : H h'.objs.size = none := I1.hok.fresh (Nat.le_refl _)
  have I2 : Inv X pins σ (upd H h'.objs.size (.frz { cls := .type "tuple", data := .seq its.toArray } (.tup vs))) { s with heap := h'.push { cls := .type "tuple", data := .seq its.toArray } } :=
    I1.laid (t' := s.toks) (fun b o e => Heap.get?_push_of_some _ e) (Nat.le_refl _) ⟨Heap.get?_push_size _ rfl, hz, its, r', IsTup.new _ _⟩
  exact ⟨.ref h'.objs.size, _, I2, rfl, an _ _ _ _ q (nx_new hf) (sr.new hf) ⟨_, vs, rfl, ⟨sr.free hf, _, upd_same, rfl, rfl⟩, rns.nx (nx_new hf)⟩⟩
/-! ### methods of tuples -/
/-! ### {k: v} -/
def wDisp1 (wk wv : WE) : WE := fun sd S Q => ∀ p, S p = none → wk sd (S.set p (.dic false [])) fun x S1 => wv sd S1 fun y S2 => S2 p = some (.dic false []) ∧ keyOk false x ∧ Q (.obj p) (S2.set p (.dic false [(x, y)]))
theorem de_disp1 {k v : Expr} {wk wv : WE} {pos : Pos} (hk : DE X k wk) (hv : DE X v wv) : DE X (.Dict [some k] [v] pos) (wDisp1 wk wv) := by
  refine pe_imp (pe_disp (pps_cons hk hv pps_nil) rfl rfl (by simp) (by simp)) fun σ H Q ⟨sd, S, Q0, st, q, an⟩ p hp => ?_
  have n0 : Nx S H (S.set p (.dic false [])) (upd H p (.dK [])) := nx_obj hp (st.s.free hp)
  have s0 : SRel X.K (S.set p (.dic false [])) (upd H p (.dK [])) := srel_put st.s n0 (.inl ⟨[], rfl, upd_same, rfl⟩)
  refine ⟨sd, _, _, st.nx n0 s0, q p (st.s.free hp), fun x S1 u H1 q1 n1 s1 r1 => ⟨sd, S1, _, (st.nx n0 s0).nx n1 s1, q1, fun y S2 w H2 ⟨hS, ok, q2⟩ n2 s2 r2 => ?_⟩⟩
  obtain ⟨kk, hkk⟩ := ok
  have ex := keyOf_eq hkk
  subst ex
  have eu := rel_key r1
  subst eu
  have h2 : H2 p = some (.dK []) := by
    rcases s2 p _ hS with ⟨l, _, hl, rl⟩ | ⟨l, hf, _⟩
    · have e : l = [] := rl
      rw [← e]
      exact hl
    · cases hf
  have n3 : Nx S2 H2 (S2.set p (.dic false [(keyD kk, y)])) (upd H2 p (.dK [(kk, w)])) := nx_put hS
  refine ⟨h2, [(kk, w)], rfl, by simp, ?_⟩
  have em : mergeK [] [(kk, w)] = [(kk, w)] := by
    show putK [] kk w = _
    unfold putK
    rfl
  rw [em]
  exact an _ _ _ _ q2 (n0.trans (n1.trans (n2.trans n3))) (srel_put s2 n3 (.inl ⟨_, rfl, upd_same, kk, w, [], rfl, rfl, Rel.nx n3 _ _ r2, rfl⟩)) rfl
/-! ### repr -/
end
end L2.DL

/-! DL14: walks over texts; the law's head over data -/
namespace L2.DL
open PySem PySem.Spec PyProof.Rows
/-! ### for sign in text -/
def signsD (x : Str) : List D := x.cps.toList.map fun c => .str ⟨#[c]⟩
def wStrI (we : WE) : WI := fun sd S R => we sd S fun d S1 => match d with
  | .str x => R ⟨signsD x, fun _ => True⟩ S1
  | _ => False
theorem signs_len (x : Str) : (signsD x).length = x.cps.size := by unfold signsD; rw [List.length_map, Array.length_toList]
theorem jrel_str {K : PySem.W.Frag} {S0 : SO} {H0 : Hp} {x : Str} {ok : SO → Prop} : JRel K S0 H0 ⟨signsD x, ok⟩ (Its x) where
  go := fun i S H n s o hi => by
    have hi' : i < (signsD x).length := hi
    rw [signs_len] at hi'
    exact hi'
  stop := fun i S H n s o hi => by
    have hi' : i = (signsD x).length := hi
    rw [signs_len] at hi'
    exact Nat.le_of_eq hi'.symm
  yld := fun i S H v H' d n s o hi y => by
    obtain ⟨rfl, c, hc, rfl⟩ := y
    have hi' : (signsD x)[i]? = some d := hi
    unfold signsD at hi'
    rw [List.getElem?_map, Array.getElem?_toList, hc] at hi'
    cases hi'
    exact ⟨.refl _ _, s, rfl⟩
theorem di_str {X : Cx} {tg e : Expr} {we : WE} (he : DE X e we) : DI X tg e (wStrI we) := by
  refine pi_imp (pi_str he) fun σ H R ⟨sd, S, R0, st, q, an⟩ => ⟨sd, S, _, st, q, fun d S1 v H1 q1 n1 s1 r1 => ?_⟩
  cases d with
  | str x => exact ⟨x, r1, an _ _ _ _ q1 n1 s1 jrel_str⟩
  | _ => exact False.elim q1
theorem strIn_one (c : Nat) (z : Str) : strIn ⟨#[c]⟩ z = decide (c ∈ z.cps.toList) := PySem.StrLaws.found_one z c

/-! ### room -/
theorem Room.u65 {k : Nat} {A : Around} (r : Room k A) : A.units + 65 < cLine := by have := r.un; omega
/-! ### the law's head -/
section
variable {P : Program} {w : World} {K : PySem.W.Frag} {mg : Str → Option Value} {base : Heap}
/-- the law's call, from a heap in which the script alone may be tracked -/
theorem law_core {k : Nat} {fa a : Addr} {fd : FuncData} {x : Str} {sp : Sp} {s : Shared} {H : Hp} {vs : List Value} {mb : Str → Option Value} {ns : List Int}
    (KX : K.In s.heap) (hns : s.heap.Ns mainGlobals mg) (hb : s.heap.Ns builtinsNs mb) (hbb : ∀ x : Str, x ≠ "__name__" → mb x = bootBuiltins x) (hlim : s.heap.NoLimit) (hg : s.gens = #[])
    (ha : s.heap.get? a = some { cls := .type "list", data := .seq vs.toArray }) (hr : Room k callerA)
    (F : ∀ base : Heap, K.In base → base.Ns mainGlobals mg → FnG P w K mg base CX0 k fa fd [x] sp) (hbind : ∀ (s : Shared) (u : Value), BindsTo s fd ⟨[u], []⟩ [(x, u)])
    (hO : Only H) (hok : HOk P w H s.heap) (hA : ∀ b, H b ≠ none → b = a) (hK : H a ≠ none → K.lookup a = none) (hsp : sp [.ref a] H (fun v _ => v = .bl true) fun _ _ _ => False) :
    codeAny (model P w) callerA (.call (.ref fa) ⟨[.ref a], []⟩) (fun r s' => r = .ok (.ret (.bool true)) ∧ OldK s.heap s'.heap ∧ s'.os = s.os ∧ AllBare s'.gens) s := by
  have only : ∀ {b : Addr}, (b ≠ a ∨ ∃ o, s.heap.get? b = some o ∧ ∃ es ep, o.data = .dict es ep) → H b = none := fun {b} h => by
    cases q : H b with
    | none => rfl
    | some u =>
      have e := hA b (by rw [q]; exact fun z => nomatch z)
      subst e
      rcases h with h | ⟨o, h1, es, ep, h2⟩
      · exact absurd rfl h
      · rw [ha] at h1
        cases h1
        exact nomatch (show Data.seq vs.toArray _ = Data.dict es ep from h2)
  have keepNs : ∀ {b : Addr} {m : Str → Option Value}, s.heap.Ns b m → (hidT s.heap H).Ns b m := fun ⟨o, es, ep, e, d, r⟩ => ⟨o, es, ep, hidT_get e (only (.inr ⟨o, e, es, ep, d⟩)), d, r⟩
  have keepK : K.In (hidT s.heap H) := fun b o e => hidT_get (KX b o e) (by
    by_cases hb : H b = none
    · exact hb
    · have eb := hA b hb
      subst eb
      rw [hK hb] at e
      cases e)
  obtain ⟨mc, lim1, lim2⟩ := hlim
  have M : Mod K mg (hidT s.heap H) := ⟨keepK, keepNs hns, ⟨mb, keepNs hb, hbb⟩, mc, keepNs lim1, lim2⟩
  have e0 : Env0 P w K mg (hidT s.heap H) callerA [] s H := ⟨rfl, M, fun b o e => of_hidT e, Nat.le_of_eq (hidT_size _ _), trivial, fun b hb => absurd hb (by simp [frs]), hok, .of_eq hg⟩
  have run := (F _ keepK (keepNs hns)).go callerA [] s H ⟨[.ref a], []⟩ [.ref a] [.ref a] _ _ hr rfl e0 (hbind s (.ref a)) (.cons rfl .nil) hsp
  refine codeAny_mono run fun r s' h => ?_
  cases r with
  | error e => exact (show False from h).elim
  | ok fl =>
    cases fl with
    | next => exact False.elim h
    | brk => exact False.elim h
    | cont => exact False.elim h
    | ret u =>
      obtain ⟨v, H', os, bare, un, hok', ru, ev⟩ := h
      subst ev
      have eu : u = Value.bool true := ru
      refine ⟨by rw [eu], OldK.of_keep fun b o e => ?_, os, bare⟩
      rcases hO b with z | ⟨ob, ys, z⟩
      · exact un.keep b o e z (fun h => absurd h (by simp [frs])) (by simp)
      · have h1 := (hok b _ z).1
        have h2 := (hok' b _ (un.frzs b ob _ z)).1
        rw [e] at h1
        cases h1
        exact h2
theorem law_callG {mb : Str → Option Value} {k : Nat} {fa a : Addr} {fd : FuncData} {x : Str} {sp : Sp} {s : Shared} {vs : List Value} {ns : List Int}
    (KX : K.In s.heap) (hns : s.heap.Ns mainGlobals mg) (hb : s.heap.Ns builtinsNs mb) (hbb : ∀ x : Str, x ≠ "__name__" → mb x = bootBuiltins x) (hlim : s.heap.NoLimit) (hg : s.gens = #[])
    (ha : s.heap.get? a = some { cls := .type "list", data := .seq vs.toArray }) (hi : IntsAre vs ns) (hl : ns.length ≤ sizeLine) (hr : Room k callerA)
    (F : ∀ base : Heap, K.In base → base.Ns mainGlobals mg → FnG P w K mg base CX0 k fa fd [x] sp) (hbind : ∀ (s : Shared) (u : Value), BindsTo s fd ⟨[u], []⟩ [(x, u)])
    (hsp : ∀ H : Hp, Only H → SqL K H a (ns.map V.int) → sp [.ref a] H (fun v _ => v = .bl true) fun _ _ _ => False) :
    codeAny (model P w) callerA (.call (.ref fa) ⟨[.ref a], []⟩) (fun r s' => r = .ok (.ret (.bool true)) ∧ OldK s.heap s'.heap ∧ s'.os = s.os ∧ AllBare s'.gens) s := by
  have rv := vals_ints hi
  by_cases hk : K.lookup a = none
  · let ob : Obj := { cls := .type "list", data := .seq vs.toArray }
    have at_ : (fun b => if b = a then some (HO.frz ob (.lst (ns.map V.int))) else none : Hp) a = some (.frz ob (.lst (ns.map V.int))) := if_pos rfl
    have off : ∀ b, b ≠ a → (fun b => if b = a then some (HO.frz ob (.lst (ns.map V.int))) else none : Hp) b = none := fun b hb => if_neg hb
    have on : ∀ b, (fun b => if b = a then some (HO.frz ob (.lst (ns.map V.int))) else none : Hp) b ≠ none → b = a := fun b h => Classical.byContradiction fun z => h (off b z)
    have O : Only (fun b => if b = a then some (HO.frz ob (.lst (ns.map V.int))) else none : Hp) := fun b => by
      by_cases h : b = a
      · exact .inr ⟨ob, _, by rw [h]; exact at_⟩
      · exact .inl (off b h)
    refine law_core (ns := ns) KX hns hb hbb hlim hg ha hr F hbind O (fun b u z => ?_) on (fun _ => hk) (hsp _ O (.inl (.inr ⟨ob, at_⟩)))
    have hba : b = a := Classical.byContradiction fun hne => nomatch (off b hne).symm.trans z
    subst hba
    have z2 := at_.symm.trans z
    cases z2
    exact ⟨ha, by rw [List.length_map]; exact hl, vs, _, rv, ha⟩
  · obtain ⟨o, ho⟩ : ∃ o, K.lookup a = some o := Option.ne_none_iff_exists'.mp hk
    have e := KX a o ho
    rw [ha] at e
    cases e
    have O : Only (fun _ => none) := fun _ => .inl rfl
    exact law_core (ns := ns) KX hns hb hbb hlim hg ha hr F hbind O (fun b u z => nomatch (show (none : Option HO) = some u from z)) (fun b h => absurd rfl h) (fun h => absurd rfl h)
      (hsp _ O (.inr ⟨_, vs.toArray, _, ho, rfl, rfl, rfl, by rw [List.size_toArray, hi.length]; exact hl, by simpa using rv⟩))
/-- the law's def promises: of a script of ints it says True -/
def LawSp (n : Nat) : DSp := fun ds S Q _ => ∃ ns : List Int, ds = [.src (ns.map D.int)] ∧ ns.length ≤ n ∧ S = (fun _ => none) ∧ ∀ S', Q (.bl true) S'
theorem walk_G {l : PySem.W.OpenLaw} {n k : Nat} {q : Program} {loose : List Str} {XP : (Str → Option Value) → Heap → Prop} {YP : World → Heap → Prop} {d : DefRec} {K : Params → PySem.W.Frag} {x : Str}
    (hn : l.most = some n) (hn2 : n ≤ sizeLine) (hdf : d.params.defaults = []) (hr : Room k callerA) (hY : ∀ (w : World) (h : Heap), YP w h → (K w.params).In h)
    (F : ∀ (w : World) (mg : Str → Option Value) (fa : Addr) (h : Heap), (K w.params).In h → h.Ns mainGlobals mg → mg d.name = some (.ref fa) →
      ∃ fd : FuncData, (∀ (s : Shared) (u : Value), BindsTo s fd ⟨[u], []⟩ [(x, u)]) ∧ ∀ base : Heap, (K w.params).In base → base.Ns mainGlobals mg → FnD l.prog w (K w.params) mg base k fa fd [x] (LawSp n)) :
    PySem.W.WalkO q loose XP YP l.row.toRowW d [] (fun f vs => PySem.call f vs) := by
  refine Att.attach_call hn hdf fun w s₀ s₁ mg mb fa o pm cd doc a vs ns G Y ho hd hcd hmg hobj hints hlen hg => ?_
  have KX := hY w _ Y
  obtain ⟨fd, hb, hF⟩ := F w mg fa _ KX G.T.g hmg
  refine law_callG KX G.T.g G.T.b G.T.builtins G.T.nolimit hg hobj hints (Nat.le_trans hlen hn2) hr hF hb fun H hO hS => ?_
  refine ⟨[.src (ns.map D.int)], fun _ => none, fun d _ => d = .bl true, NoE, (fun a o h => nomatch (show (none : Option DO) = some o from h)), ⟨.ref a, [], rfl, ⟨a, _, rfl, ?_, rels_of_ints ns⟩, rfl⟩, ⟨ns, rfl, hlen, rfl, fun _ => rfl⟩, fun d S' v H' e _ _ r => ?_, noE_ans⟩
  · rcases hS with h | h
    · exact .inl ⟨rfl, h⟩
    · exact .inr h
  · subst e
    exact r
end
end L2.DL

/-! DL15: how readings are answered -/
namespace L2.DL
open PySem PySem.Spec PyProof.Rows
theorem lcP_of {wi : WI} {nt : NT} {tt : WT} {we : WE} {vs : List Nat} {sd : SD} {S : SO} {Q : KD} (items : List D) (f : D → Option D) (hi : wi sd S fun J S1 => J = ⟨items, fun _ => True⟩ ∧ S1 = S) (hl : items.length ≤ 1000000)
    (hf : ∀ d ∈ items, ∀ S', Ext S S' → putNT nt d (wipeD sd vs) fun sd2 => tt sd2 S' fun b S2 => S2 = S' ∧ if b = true then up we sd2 S' fun y S3 => S3 = S' ∧ f d = some y else f d = none) (hq : Q (.lst (items.filterMap f)) S) : LcP wi nt tt we vs sd S Q :=
  ⟨⟨_, hi, fun J S1 ⟨e1, e2⟩ => by
    subst e1 e2
    exact ⟨fun _ _ => trivial, hl, f, hf, hq⟩⟩⟩
theorem lcP_map {wi : WI} {nt : NT} {we : WE} {vs : List Nat} {sd : SD} {S : SO} {Q : KD} (items : List D) (g : D → D) (hi : wi sd S fun J S1 => J = ⟨items, fun _ => True⟩ ∧ S1 = S) (hl : items.length ≤ 1000000)
    (hf : ∀ d ∈ items, ∀ S', Ext S S' → putNT nt d (wipeD sd vs) fun sd2 => we sd2 S' fun y S3 => S3 = S' ∧ g d = y) (hq : Q (.lst (items.map g)) S) : LcP wi nt wYes we vs sd S Q := by
  refine lcP_of items (fun d => some (g d)) hi hl (fun d hd S' e => ?_) (by rw [List.filterMap_eq_map']; exact hq)
  have h := hf d hd S' e
  cases nt with
  | n i => exact ⟨rfl, _, h, fun y S3 ⟨e1, e2⟩ => ⟨e1, congrArg some e2⟩⟩
  | t l =>
    cases d with
    | tup xs => exact ⟨h.1, rfl, _, h.2, fun y S3 ⟨e1, e2⟩ => ⟨e1, congrArg some e2⟩⟩
    | _ => exact False.elim h
theorem dcP_of {t : Bool} {wi : WI} {nt : NT} {tt : WT} {wk we : WE} {vs : List Nat} {sd : SD} {S : SO} {Q : KD} (items : List D) (f : D → Option (D × D)) (hi : wi sd S fun J S1 => J = ⟨items, fun _ => True⟩ ∧ S1 = S) (hl : items.length ≤ 100000)
    (hf : ∀ d ∈ items, ∀ S', Ext S S' → putNT nt d (wipeD sd vs) fun sd2 => tt sd2 S' fun b S2 => S2 = S' ∧ if b = true then up wk sd2 S' fun k S3 => S3 = S' ∧ keyOk t k ∧ up we sd2 S' fun y S4 => S4 = S' ∧ f d = some (k, y) else f d = none)
    (hq : Q (.dic t (dputsL [] (items.filterMap f))) S) : DcP t wi nt tt wk we vs sd S Q :=
  ⟨⟨_, hi, fun J S1 ⟨e1, e2⟩ => by
    subst e1 e2
    exact ⟨fun _ _ => trivial, hl, f, hf, hq⟩⟩⟩
theorem ifY {b : Bool} {A B : Prop} (e : b = true) (h : A) : if b = true then A else B := by
  rw [if_pos e]
  exact h
theorem isY {b : Bool} {Q : Bool → SO → Prop} {S : SO} (e : b = true) (h : Q true S) : IsB Q (.bl b) S := by
  rw [e]
  exact ⟨h⟩
theorem isN {b : Bool} {Q : Bool → SO → Prop} {S : SO} (e : b = false) (h : Q false S) : IsB Q (.bl b) S := by
  rw [e]
  exact ⟨h⟩
theorem isC {b : Bool} {Q : Bool → SO → Prop} {S : SO} (h1 : b = true → Q true S) (h2 : b = false → Q false S) : IsB Q (.bl b) S := by
  cases b with
  | true => exact ⟨h1 rfl⟩
  | false => exact ⟨h2 rfl⟩
theorem lez {n m : Nat} (h : Nat.ble n m = true) : n ≤ m := Nat.le_of_ble_eq_true h
theorem upI {we : WE} {sd : SD} {S : SO} {Q : KD} (h : we sd S Q) : up we sd S Q := ⟨Q, h, fun _ _ q => q⟩
theorem cl {Q : KD} {d : D} {S : SO} (h : Q d S) : Cl Q d S := .of h
theorem u65 {k : Nat} {A : Around} (r : Room k A) : A.units + 65 < cLine := by have := r.un; omega
section
variable {X : Cx} {x : Str} {pos : Pos}
theorem de_gS {z : Str} {t : Tok} (hm : X.mg x = some (.str z t)) (hg : Gl X x := by rfl) (hd : (x == ("__debug__" : Str)) = false := by decide) : DE X (.Name x pos) (wC (.str z)) := de_glob (v := .str z) hg hm ⟨t, rfl⟩ (fun _ _ _ => rfl) hd
theorem de_gI {z : Int} {t : Tok} (hm : X.mg x = some (.int z t)) (hg : Gl X x := by rfl) (hd : (x == ("__debug__" : Str)) = false := by decide) : DE X (.Name x pos) (wC (.int z)) := de_glob (v := .int z) hg hm ⟨t, rfl⟩ (fun _ _ _ => rfl) hd
theorem de_gC {a : Addr} (hm : X.mg x = some (.ref a)) (hg : Gl X x := by rfl) (hd : (x == ("__debug__" : Str)) = false := by decide) : DE X (.Name x pos) (wC (.obj a)) := de_glob (v := .ref a) hg hm rfl (fun _ _ _ => rfl) hd
theorem de_bT {T : String} (hm : X.mg x = none) (hv : bootBuiltins x = some (.type T)) (hg : Gl X x := by rfl) (hn : x ≠ "__name__" := by decide) (hd : (x == ("__debug__" : Str)) = false := by decide) : DE X (.Name x pos) (wC (.ty T)) := de_bltn (v := .ty T) hg hm hv rfl (fun _ _ _ => rfl) hn hd
end
theorem kit1_of {K : PySem.W.Frag} (C : Addr) : PySem.W.kitOne K (.ref C) (.ref C) = some true := by
  unfold PySem.W.kitOne
  rw [if_pos (by simp)]
theorem kit_own {K : PySem.W.Frag} {C : Addr} {z : ClassData} {n : String} (h1 : PySem.W.clsIn K C = some z) (h2 : PySem.W.typeIn K (.ref C) = some (.type "type")) {b : Bool} (h3 : PySem.W.subIn K (.type n) (.ref C) = some b) : PySem.W.kitOne K (.type n) (.ref C) = some b := by
  unfold PySem.W.kitOne
  rw [if_neg (by simp)]
  show (if ((PySem.W.clsIn K C).isSome && PySem.W.typeIn K (.ref C) == some (.type "type")) = true then PySem.W.subIn K (.type n) (.ref C) else none) = _
  rw [h1, h2, if_pos (by simp)]
  exact h3
theorem kit0_of {K : PySem.W.Frag} {C : Addr} {z : ClassData} (h1 : PySem.W.clsIn K C = some z) (h2 : PySem.W.typeIn K (.ref C) = some (.type "type")) (a0 : PySem.W.subIn K (.type "NoneType") (.ref C) = some false) (a1 : PySem.W.subIn K (.type "bool") (.ref C) = some false) (a2 : PySem.W.subIn K (.type "int") (.ref C) = some false)
    (a3 : PySem.W.subIn K (.type "str") (.ref C) = some false) (a4 : PySem.W.subIn K (.type "tuple") (.ref C) = some false) (a5 : PySem.W.subIn K (.type "list") (.ref C) = some false) (a6 : PySem.W.subIn K (.type "dict") (.ref C) = some false) : ∀ n ∈ tyNames, PySem.W.kitOne K (.type n) (.ref C) = some false := by
  intro n hn
  simp only [tyNames, List.mem_cons, List.not_mem_nil, or_false] at hn
  rcases hn with rfl | rfl | rfl | rfl | rfl | rfl | rfl
  · exact kit_own h1 h2 a0
  · exact kit_own h1 h2 a1
  · exact kit_own h1 h2 a2
  · exact kit_own h1 h2 a3
  · exact kit_own h1 h2 a4
  · exact kit_own h1 h2 a5
  · exact kit_own h1 h2 a6
end L2.DL

/-! DL16: own comparisons, join -/
namespace L2.DL
open PySem PySem.Spec PyProof.Rows
section
variable {X : Cx} {k : Nat} {g C : Addr} {fd : FuncData} {ps : List Str} {dsp : DSp}
/-- sep.join(texts) -/
def wJoin (ws wx : WE) : WE := fun sd S Q => ws sd S fun a S1 => (∃ z, a = .str z) ∧ wx sd S1 fun d S2 => ∃ (z : Str) (ys : List Str), a = .str z ∧ seqX S2 d = some (ys.map D.str) ∧ (ys.map (·.length)).sum + ys.length * z.length ≤ 16777216 ∧ Q (.str (Txt.join z ys)) S2
theorem de_join {o e : Expr} {wo we : WE} {apos pos : Pos} (ho : DE X o wo) (he : DE X e we) (hs : starEach [e] X.env = [(false, eval e X.env)] := by rfl) (hbase : attributeBase o "join" X.env (eval o X.env) = eval o X.env := by rfl) (hline : (apos.endLine == pos.line) = true := by rfl) :
    DE X (.Call (.Attribute o "join" apos) [e] [] pos) (wJoin wo we) := by
  refine pe_imp (pe_join ho he hs hbase hline) fun σ H Q ⟨sd, S, Q0, st, q, an⟩ => ⟨sd, S, _, st, q, fun d S1 v H1 ⟨⟨z, ez⟩, q1⟩ n1 s1 r1 => ?_⟩
  subst ez
  have ev : v = .str z := r1
  subst ev
  refine ⟨⟨z, rfl⟩, sd, S1, _, st.nx n1 s1, q1, fun d S2 u H2 ⟨z', ys, e1, e2, e3, q2⟩ n2 s2 r2 => ?_⟩
  cases e1
  obtain ⟨a, vs, rfl, hq, rv⟩ := seqX_at s2 r2 e2
  have := rels_strs rv
  subst this
  exact ⟨z, a, ys, rfl, rfl, hq, e3, an _ _ _ _ q2 (n1.trans n2) s2 rfl⟩
end
end L2.DL

/-! DL17: starred items, tuples displayed and known to have no dict -/
namespace L2.DL
open PySem PySem.Spec PyProof.Rows
section
variable {X : Cx} {e : Expr} {es : List Expr} {we : WE} {t : WA} {p pos : Pos}
def wStar (we : WE) (t : WA) : WA := fun sd S Q => we sd S fun d S1 => ∃ xs, seqX S1 d = some xs ∧ t sd S1 fun ys S2 => Q (xs ++ ys) S2
theorem da_star (he : DE X e we) (hr : DA X es t) (hs : starEach (.Starred e p :: es) X.env = (true, eval e X.env) :: starEach es X.env := by rfl) : DA X (.Starred e p :: es) (wStar we t) :=
  pa_imp (StX.pa_star he hr hs) fun σ H Q ⟨sd, S, Q0, st, q, an⟩ => ⟨sd, S, _, st, q, fun d S1 v H1 ⟨xs, e1, q1⟩ n1 s1 r1 => by
    obtain ⟨a, vs, rfl, hq, rv⟩ := seqX_at s1 r1 e1
    exact ⟨a, vs, rfl, hq.symm, sd, S1, _, st.nx n1 s1, q1, fun ys S2 us H2 q2 n2 s2 r2 => an _ _ _ _ q2 (n1.trans n2) s2 (Rels.app (Rels.nx n2 _ _ rv) r2)⟩⟩
def wTupF (t : WA) : WE := fun sd S Q => t sd S fun xs S1 => xs.length ≤ 1000000 ∧ Q (.tf xs) S1
end
end L2.DL

/-! DL18: len, str, repr of own instances -/
namespace L2.DL
open PySem PySem.Spec PyProof.Rows
section
variable {X : Cx} {CX : CXT} {k : Nat} {g C : Addr} {fd : FuncData} {ps : List Str} {dsp : DSp}
theorem runG_at {A : Around} {sp : Sp} {E : XK} {pins : List (Addr × Obj)} {σ : St} {H : Hp} {s : Shared} {Q : VK} {args : Args} {us : List Value} {vs : List V} (F : FnG X.prog X.w X.K X.mg X.base CX k g fd ps sp) (hr : Room k A) (gd : A.guards = some [])
    (e0 : Env0 X.prog X.w X.K X.mg X.base A X.stack s H) (hx : Passes CX X E) (I : Inv X pins σ H s) (hb : BindsTo s fd args (ps.zip us)) (r : Vals vs us) (h : sp vs H Q E) : wpAny (model X.prog X.w) A (call (.ref g) args.pos args.kw) (EP X pins σ Q) X.xe s := by
  refine wpAny_call (codeAny_mono (F.go A X.stack s H args us vs Q E hr gd e0 hb r h) fun rs s' hq => ?_)
  have z := CE.call I hx hq
  cases rs with
  | error er => exact z
  | ok fl =>
    cases fl with
    | ret u => exact z
    | next => exact z.elim
    | brk => exact z.elim
    | cont => exact z.elim
/-- the special method of an own instance, called a frame or two below -/
theorem run_own {A : Around} {pins : List (Addr × Obj)} {σ : St} {H : Hp} {s : Shared} {Q : VK} {S : SO} {Q0 : KD} {d : D} {a : Addr} (F : FnD X.prog X.w X.K X.mg X.base k g fd ps dsp) (hr : Room k A) (gd : A.guards = some []) (hb : Binds X.K fd ps [])
    (e0 : Env0 X.prog X.w X.K X.mg X.base A X.stack s H) (I : Inv X pins σ H s) (sr : SRel X.K S H) (r1 : Rel X.K S H d (.ref a)) (q : dsp [d] S Q0 NoE) (an : Ans X.K S H Q0 Q) : wpAny (model X.prog X.w) A (call (.ref g) [.ref a]) (EP X pins σ Q) X.xe s := by
  have h : liftSp X.K dsp [V.ref a] H Q E0 := ⟨[d], S, Q0, NoE, sr, ⟨_, _, rfl, r1, rfl⟩, q, an, noE_ans⟩
  have z := hb s [.ref a] I.kIn (by rw [List.append_nil] at *; exact F.len _ _ _ _ h)
  exact runG_at (args := ⟨[.ref a], []⟩) (us := [.ref a]) (vs := [V.ref a]) F hr gd e0 pass0 I z (.cons rfl .nil) h
def cLenO (C : Addr) (dsp : DSp) : WL := fun xs S Q => one xs fun x => (∃ fs, InsD C x S fs) ∧ dsp [x] S (fun d S' => ∃ n : Nat, d = .int n ∧ n < 2 ^ 62 ∧ Q d S') NoE
theorem dc_lenO (hs : PySem.W.findIn X.K (.ref C) "__len__" = some (some (.ref g))) (hf : PySem.W.isFn X.K (.ref g) = true) (F : FnD X.prog X.w X.K X.mg X.base k g fd ps dsp) (hr : Room (k + 1) X.A) (gd : X.A.guards = some []) (hb : Binds X.K fd ps []) :
    DC X (.builtin "len") (cLenO C dsp) := by
  intro pins s σ H xs us Q I r ⟨ds, S, Q0, sr, rs, q, an⟩
  obtain ⟨x, rfl, ⟨fx, ix⟩, q⟩ := one_of q
  obtain ⟨v, rfl, rv⟩ := rs.v1
  obtain ⟨a, ax, lx, rfl, hx, _⟩ := ix.at sr rv
  obtain ⟨u, rfl, ru⟩ := vals1 r
  cases (show u = Value.ref a from ru)
  obtain ⟨mA, O, _⟩ := ins_get I.hok hx
  obtain ⟨od, J, _⟩ := O.look
  obtain ⟨m, hF⟩ := I.fr
  refine PySem.W.len_K hF I.ok.mod.kin J hs hf ?_
  refine wpAny_mono (run_own (Q := fun v H' => ∃ n : Nat, v = .int n ∧ n < 2 ^ 62 ∧ Q v H') F hr.in1 gd hb I.env0.in1 I sr rv q (fun d S' v H' ⟨n, e, hn, q'⟩ n' s' r' => ?_)) (fun w s' z => ?_) fun _ _ x => x
  · subst e
    have ev : v = .int n := r'
    subst ev
    exact ⟨n, rfl, hn, an _ _ _ _ q' n' s' rfl⟩
  · obtain ⟨z', H', I', rz, n, rfl, hn, qz⟩ := z
    obtain ⟨t, rfl⟩ := (show ∃ t, w = Value.int n t from rz)
    exact ⟨⟨by omega, by omega⟩, .int n, H', I'.tok _, ⟨_, rfl⟩, qz⟩
end
end L2.DL

/-! DL19: t[::-1] of tuples and lists -/
namespace L2.DL
open PySem PySem.Spec PyProof.Rows
section
variable {prog : Program} {w : World} {A : Around} {E : Value → Shared → Prop} {s : Shared}
end
section
variable {X : Cx}
end
end L2.DL

/-! DL20: list comprehensions with two for -/
namespace L2.DL
open PySem PySem.Spec PyProof.Rows
section
variable {X : Cx}
variable {elt tg iter tg1 iter1 : Expr} {ifs ifs1 : List Expr} {scope : Scope} {own : List (Str × Nat)} {pos : Pos} {wi wi1 : WI} {nt nt1 : NT} {tt tt1 : WT} {we : WE}
end
end L2.DL

/-! DL21: list.insert, list.pop() -/
namespace L2.DL
open PySem PySem.Spec PyProof.Rows
section
variable {X : Cx}
def mInsert : WM := fun d xs S Q => two2 xs fun k y => ∃ a ys, ∃ i : Nat, k = .int (i : Nat) ∧ d = .obj a ∧ S a = some (.lst ys) ∧ ys.length < 1000000 ∧ i < 1000000 ∧ Q .non (S.set a (.lst (ys.take i ++ [y] ++ ys.drop i)))
theorem dm_insert : DM X "list.insert" mInsert := by
  intro pins s σ H x xs v us Q I rx rs ⟨d, ys, S, Q0, sr, r1, r2, q, an⟩
  obtain ⟨k, y, rfl, a, zs, i, rfl, rfl, hS, hl, hi, q⟩ := two2_of q
  have r1' : x = .ref a := r1
  obtain ⟨v1, u, rfl, rk, ru⟩ := r2.two
  have e1 : v1 = .int (i : Nat) := rk
  subst e1
  obtain ⟨vs, hv, rv⟩ := sr a _ hS
  have n2 : Nx S H (S.set a (.lst (zs.take i ++ [y] ++ zs.drop i))) (upd H a (.lst (vs.take i ++ [u] ++ vs.drop i))) := nx_put hS
  refine mt_insert pins s σ H x _ v us Q I rx rs ⟨a, vs, i, u, r1', rfl, hv, by rw [← rv.length]; exact Nat.lt_of_lt_of_le hl (le_line (Nat.le_refl _)), by omega, by omega, ?_⟩
  rw [Int.toNat_natCast]
  exact an _ _ _ _ q n2 (srel_put sr n2 ⟨_, upd_same, (((rv.take i).app (.one ru)).app (rv.drop i)).nx n2⟩) rfl
/-- xs.pop() -/
def mPop : WM := fun d xs S Q => xs = [] ∧ ∃ a ys y, d = .obj a ∧ S a = some (.lst ys) ∧ ys.getLast? = some y ∧ Q y (S.set a (.lst ys.dropLast))
theorem dm_pop : DM X "list.pop" mPop := by
  intro pins s σ H x xs v us Q I rx rs ⟨d, ys, S, Q0, sr, r1, r2, q, an⟩
  obtain ⟨rfl, a, zs, y, rfl, hS, hy, q⟩ := q
  have r1' : x = .ref a := r1
  have e : xs = [] := r2
  subst e
  obtain ⟨vs, hv, rv⟩ := sr a _ hS
  rw [List.getLast?_eq_getElem?] at hy
  obtain ⟨u, hu, ru⟩ := Rels.get rv hy
  have n2 : Nx S H (S.set a (.lst zs.dropLast)) (upd H a (.lst vs.dropLast)) := nx_put hS
  have hlen := rv.length
  refine mt_pop pins s σ H x _ v us Q I rx rs ⟨a, vs, u, r1', rfl, hv, by rw [← hlen]; exact hu, ?_⟩
  have rd : Rels X.K S H zs.dropLast vs.dropLast := by
    rw [List.dropLast_eq_take, List.dropLast_eq_take, ← hlen]
    exact rv.take _
  exact an _ _ _ _ q n2 (srel_put sr n2 ⟨_, upd_same, rd.nx n2⟩) (Rel.nx n2 _ _ ru)
end
end L2.DL

/-! DL22: readings answered step by step, each step a lemma that fits by its head alone -/
namespace L2.DL
open PySem PySem.Spec PyProof.Rows
abbrev NoS : SD → SO → Prop := fun _ _ => False
section
variable {n bk ct : SD → SO → Prop} {r : KD} {sd : SD} {S : SO} {Q : KD} {a b : WS} {we wa wb wc : WE} {t : WA} {o : Option D} {d x y : D} {i j : Int} {A B : Prop}
/-! statements -/
theorem xFn {w : WS} (h : w ⟨fun _ S' => Cl Q .non S', Cl Q, NoS, NoS⟩ sd S) : w (endsOf Q) sd S := h
theorem xSeq (h : a ⟨b ⟨n, r, bk, ct⟩, r, bk, ct⟩ sd S) : wSeq a b ⟨n, r, bk, ct⟩ sd S := h
theorem xNext (h : n sd S) : wNext ⟨n, r, bk, ct⟩ sd S := h
theorem xBreak (h : bk sd S) : wBreak ⟨n, r, bk, ct⟩ sd S := h
theorem xCont (h : ct sd S) : wCont ⟨n, r, bk, ct⟩ sd S := h
theorem xRet (h : we sd S r) : wRet we ⟨n, r, bk, ct⟩ sd S := h
theorem xRetN (h : r .non S) : wRetN ⟨n, r, bk, ct⟩ sd S := h
theorem xDrop (h : we sd S fun _ S1 => n sd S1) : wDrop we ⟨n, r, bk, ct⟩ sd S := h
theorem xIfS {c : WT} (h : c sd S fun k S1 => if k = true then a ⟨n, r, bk, ct⟩ sd S1 else b ⟨n, r, bk, ct⟩ sd S1) : wIfS c a b ⟨n, r, bk, ct⟩ sd S := h
theorem xAsg {g : WG} (h : we sd S fun d S1 => g d sd S1 n) : wAsg we g ⟨n, r, bk, ct⟩ sd S := h
/-! targets -/
section
variable {Qg : SD → SO → Prop} {ds : List D} {g : WG} {gs : WGs}
theorem g0 (h : Qg (some d :: sd) S) : gV 0 d (o :: sd) S Qg := h
theorem gSu {k : Nat} (h : gV k d sd S fun sd' S' => Qg (o :: sd') S') : gV (k + 1) d (o :: sd) S Qg := h
theorem gTup {k : Nat} (h : gs ds sd S Qg) (hl : ds.length = k := by with_unfolding_all rfl) : gT k gs (.tup ds) sd S Qg := ⟨hl, h⟩
theorem gCons (h : g d sd S fun sd1 S1 => gs ds sd1 S1 Qg) : gC g gs (d :: ds) sd S Qg := h
theorem gNil (h : Qg sd S) : gN [] sd S Qg := ⟨rfl, h⟩
end
/-! names, constants -/
theorem v0 (h : Q d S) : wV 0 (some d :: sd) S Q := h
theorem vS {k : Nat} (h : wV k sd S Q) : wV (k + 1) (o :: sd) S Q := by
  unfold wV at h ⊢
  rw [List.getElem?_cons_succ]
  exact h
theorem xC (h : Q d S) : wC d sd S Q := h
/-! operators -/
theorem xO {w : WO} (h : wa sd S fun x S1 => wb sd S1 fun y S2 => w x y S2 Q) : wO w wa wb sd S Q := h
theorem xU {w : WU} (h : wa sd S fun x S1 => w x S1 Q) : wU w wa sd S Q := h
theorem xCall {w : WL} (h : t sd S fun xs S1 => w xs S1 Q) : wCall w t sd S Q := h
section
variable {Qa : List D → SO → Prop}
theorem xNil (h : Qa [] S) : wNil sd S Qa := h
theorem xCons (h : we sd S fun x S1 => t sd S1 fun xs S2 => Qa (x :: xs) S2) : wCons we t sd S Qa := h
theorem xStar (h : we sd S fun d S1 => ∃ xs, seqX S1 d = some xs ∧ t sd S1 fun ys S2 => Qa (xs ++ ys) S2) : wStar we t sd S Qa := h
end
theorem xTup (h : t sd S fun xs S1 => xs.length ≤ 1000000 ∧ Q (.tup xs) S1) : wTup t sd S Q := h
theorem xTupF (h : t sd S fun xs S1 => xs.length ≤ 1000000 ∧ Q (.tf xs) S1) : wTupF t sd S Q := h
theorem xLst (h : t sd S fun xs S1 => xs.length ≤ 1000000 ∧ Q (.lst xs) S1) : wLst t sd S Q := h
theorem xNew (h : t sd S fun xs S1 => xs.length ≤ 1000000 ∧ ∀ p, S1 p = none → Q (.obj p) (S1.set p (.lst xs))) : wNew t sd S Q := h
theorem andL (ha : A) (hb : B) : A ∧ B := ⟨ha, hb⟩
/-! truths -/
section
variable {Qb : Bool → SO → Prop} {tt tu : WT}
theorem xB (h : wa sd S (isB Qb)) : wB wa sd S Qb := h
theorem xAnd (h : tt sd S fun k S1 => if k = true then tu sd S1 Qb else Qb false S1) : wAnd tt tu sd S Qb := h
theorem xOr (h : tt sd S fun k S1 => if k = true then Qb true S1 else tu sd S1 Qb) : wOr tt tu sd S Qb := h
theorem xNot (h : tt sd S fun k S1 => Qb (!k) S1) : wNot tt sd S Qb := h
theorem xAndV (h : wa sd S (isB fun k S1 => if k = true then wb sd S1 Q else Q (.bl false) S1)) : wAndV wa wb sd S Q := h
theorem xOrV (h : wa sd S (isB fun k S1 => if k = true then Q (.bl true) S1 else wb sd S1 Q)) : wOrV wa wb sd S Q := h
theorem xNotV (h : wa sd S (isB fun k S1 => Q (.bl (!k)) S1)) : wNotV wa sd S Q := h
theorem xIf {tt : WT} (h : tt sd S fun k S1 => if k = true then wa sd S1 Q else wb sd S1 Q) : wIf tt wa wb sd S Q := h
theorem xCh {w w' : WO} (h : wa sd S fun x S1 => wb sd S1 fun y S2 => w x y S2 (isB fun k S3 => if k = true then wc sd S3 fun u S4 => w' y u S4 Q else Q (.bl false) S3)) : wCh w w' wa wb wc sd S Q := h
theorem xYes (h : Qb true S) : wYes sd S Qb := h
theorem isT (h : Qb true S) : isB Qb (.bl true) S := ⟨h⟩
theorem isF (h : Qb false S) : isB Qb (.bl false) S := ⟨h⟩
theorem isT' (h : Qb true S) : IsB Qb (.bl true) S := ⟨h⟩
theorem isF' (h : Qb false S) : IsB Qb (.bl false) S := ⟨h⟩
theorem isD {P : Prop} [Decidable P] (h1 : P → Qb true S) (h2 : ¬ P → Qb false S) : isB Qb (.bl (decide P)) S := by
  by_cases h : P
  · rw [decide_eq_true h]
    exact ⟨h1 h⟩
  · rw [decide_eq_false h]
    exact ⟨h2 h⟩
theorem isND {P : Prop} [Decidable P] (h1 : P → Qb false S) (h2 : ¬ P → Qb true S) : isB Qb (.bl (!decide P)) S := by
  by_cases h : P
  · rw [decide_eq_true h]
    exact ⟨h1 h⟩
  · rw [decide_eq_false h]
    exact ⟨h2 h⟩
theorem isCB {c : Bool} (h1 : c = true → Qb true S) (h2 : c = false → Qb false S) : isB Qb (.bl c) S := isC h1 h2
theorem isYB {c : Bool} (e : c = true) (q : Qb true S) : isB Qb (.bl c) S := isY e q
theorem isNB {c : Bool} (e : c = false) (q : Qb false S) : isB Qb (.bl c) S := isN e q
theorem iT (h : A) : if true = true then A else B := by
  rw [if_pos rfl]
  exact h
theorem iF (h : B) : if false = true then A else B := by
  rw [if_neg Bool.false_ne_true]
  exact h
theorem iNT (h : B) : if (!true) = true then A else B := iF h
theorem iNF (h : A) : if (!false) = true then A else B := iT h
end
/-! ints -/
theorem iAdd (h : Q (.int (i + j)) S) : oAdd (.int i) (.int j) S Q := h
theorem iSub (h : Q (.int (i - j)) S) : oSub (.int i) (.int j) S Q := ⟨trivial, h⟩
theorem iAnd (h : Q (.int (Builtin.bitAnd i j)) S) : oAnd (.int i) (.int j) S Q := ⟨trivial, h⟩
theorem iOr (h : Q (.int (Builtin.bitOr i j)) S) : oOr (.int i) (.int j) S Q := ⟨trivial, h⟩
theorem iLt (h : Q (.bl (decide (i < j))) S) : oLt (.int i) (.int j) S Q := ⟨trivial, h⟩
theorem iLe (h : Q (.bl (decide (i ≤ j))) S) : oLe (.int i) (.int j) S Q := ⟨trivial, h⟩
theorem iGt (h : Q (.bl (decide (j < i))) S) : oGt (.int i) (.int j) S Q := ⟨trivial, h⟩
theorem iGe (h : Q (.bl (decide (j ≤ i))) S) : oGe (.int i) (.int j) S Q := ⟨trivial, h⟩
theorem iEq (h : Q (.bl (decide (i = j))) S) : oEq (.int i) (.int j) S Q := h
theorem iNe (h : Q (.bl (!decide (i = j))) S) : oNe (.int i) (.int j) S Q := h
theorem sEq {u v : Str} (h : Q (.bl (decide (u = v))) S) : oEq (.str u) (.str v) S Q := h
theorem sNe {u v : Str} (h : Q (.bl (!decide (u = v))) S) : oNe (.str u) (.str v) S Q := h
theorem iNeg (h : Q (.int (-i)) S) : oNeg (.int i) S Q := h
theorem isN1 (h : Q (.bl true) S) : oIsN .non .non S Q := ⟨rfl, h⟩
theorem isN2 (h : Q (.bl (isNon d)) S) : oIsN d .non S Q := ⟨rfl, h⟩
theorem noN2 (h : Q (.bl (!isNon d)) S) : oNotN d .non S Q := ⟨rfl, h⟩
/-! lengths -/
section
variable {k : Nat → Prop} {xs : List D} {α : Type} {f : α → D} {l : List α}
theorem xLen (h : lenD S x fun n => Q (.int (n : Nat)) S) : cLen [x] S Q := h
theorem lTupM (h : k l.length) : lenD S (.tup (l.map f)) k := len_seq rfl (by rw [List.length_map]; exact h)
theorem lTfM (h : k l.length) : lenD S (.tf (l.map f)) k := len_seq rfl (by rw [List.length_map]; exact h)
theorem lLstM (h : k l.length) : lenD S (.lst (l.map f)) k := len_seq rfl (by rw [List.length_map]; exact h)
theorem lSrcM (h : k l.length) : lenD S (.src (l.map f)) k := len_seq rfl (by rw [List.length_map]; exact h)
theorem lTup (h : k xs.length) : lenD S (.tup xs) k := len_seq rfl h
theorem lTf (h : k xs.length) : lenD S (.tf xs) k := len_seq rfl h
theorem lLst (h : k xs.length) : lenD S (.lst xs) k := len_seq rfl h
theorem lSrc (h : k xs.length) : lenD S (.src xs) k := len_seq rfl h
theorem lObj {p : Addr} (e : S p = some (.lst xs)) (h : k xs.length) : lenD S (.obj p) k := len_seq (show objL (S p) = _ by rw [e]; rfl) h
theorem lDic {t : Bool} {kvs : List (D × D)} (h : k kvs.length) : lenD S (.dic t kvs) k := ⟨.inr ⟨t, kvs, rfl, h⟩⟩
/-! all, any -/
theorem xAll {bs : List Bool} (h : Q (.bl (bs.all id)) S) : cAll [.lst (bs.map D.bl)] S Q := ⟨bs, rfl, h⟩
theorem xAllM {g : α → Bool} (h : Q (.bl (l.all g)) S) : cAll [.lst (l.map fun z => .bl (g z))] S Q := ⟨l.map g, by show some _ = some _; rw [List.map_map]; rfl, by show Q (.bl ((l.map g).all id)) S; rw [List.all_map]; exact h⟩
theorem xAnyM {g : α → Bool} (h : Q (.bl (l.any g)) S) : cAny [.lst (l.map fun z => .bl (g z))] S Q := ⟨l.map g, by show some _ = some _; rw [List.map_map]; rfl, by show Q (.bl ((l.map g).any id)) S; rw [List.any_map]; exact h⟩
end
/-! items by index -/
section
variable {xs : List D} {k : Nat} {α : Type} {f : α → D} {l : List α} {z : α}
theorem ixTf (e : atI xs i = some d) (h : Q d S) : oIx (.tf xs) (.int i) S Q := .inl ⟨xs, i, d, rfl, rfl, e, h⟩
theorem ixTup (e : atI xs i = some d) (h : Q d S) : oIx (.tup xs) (.int i) S Q := .inl ⟨xs, i, d, rfl, rfl, e, h⟩
theorem ixLst (e : atI xs i = some d) (h : Q d S) : oIx (.lst xs) (.int i) S Q := .inl ⟨xs, i, d, rfl, rfl, e, h⟩
theorem at0 {v : D} {vs : List D} : atI (v :: vs) 0 = some v := atI_nat (j := 0) rfl
theorem at1 {v u : D} {vs : List D} : atI (v :: u :: vs) 1 = some u := atI_nat (j := 1) rfl
theorem atM (e : l[k]? = some z) : atI (l.map f) ((k : Nat) : Int) = some (f z) := atI_nat (by rw [List.getElem?_map, e]; rfl)
end
/-! calls -/
theorem xFnC {sp : DSp} (h : t sd S fun xs S1 => sp xs S1 Q NoE) : wFn sp [] t sd S Q := by
  unfold wFn
  simp only [List.append_nil]
  exact h
/-! attributes, methods of instances -/
def FldD (C : Addr) (g : Str) (d : D) (S : SO) (Q : KD) : Prop := ∃ fs v, InsD C d S fs ∧ fs.lookup g = some v ∧ Q v S
theorem xFld {C : Addr} {g : Str} (h : we sd S fun d S1 => FldD C g d S1 Q) : wFld C g we sd S Q := h
def MthD (C : Addr) (m : Str) (d : D) (S : SO) (A : Prop) : Prop := (∃ fs, InsD C d S fs ∧ fs.lookup m = none) ∧ A
theorem xMth {C : Addr} {m : Str} {sp : DSp} (h : we sd S fun d S1 => MthD C m d S1 (t sd S1 fun xs S2 => sp (d :: xs) S2 Q NoE)) : wMeth C m sp [] we t sd S Q := by
  unfold wMeth
  simp only [List.append_nil]
  exact h
/-! what is walked -/
section
variable {R : ItD → SO → Prop} {Rs : List D → (SO → Prop) → Prop} {xs : List D}
theorem xSeqI (h : we sd S fun d S1 => seqD d S1 fun xs ok => R ⟨xs, ok⟩ S1) : wSeqI we sd S R := h
theorem sTup (h : Rs xs fun _ => True) : seqD (.tup xs) S Rs := h
theorem sTf (h : Rs xs fun _ => True) : seqD (.tf xs) S Rs := h
theorem sLst (h : Rs xs fun _ => True) : seqD (.lst xs) S Rs := h
theorem sSrc (h : Rs xs fun _ => True) : seqD (.src xs) S Rs := h
theorem sObj {p : Addr} (e : S p = some (.lst xs)) (h : Rs xs fun S => S p = some (.lst xs)) : seqD (.obj p) S Rs := ⟨xs, e, h⟩
theorem xEnum (h : t sd S fun xs S1 => one xs fun d => seqD d S1 fun ys ok => R ⟨enumD ys, ok⟩ S1) : wEnum t sd S R := h
theorem one1 {k : D → Prop} (h : k d) : one [d] k := h
theorem xRng1 (h : t sd S fun xs S1 => int1 xs fun j => -(2 ^ 62) ≤ j ∧ j < 2 ^ 62 ∧ R ⟨rangeD 0 j, fun _ => True⟩ S1) : wRng1 t sd S R := h
theorem xRng2 (h : t sd S fun xs S1 => int2 xs fun i j => (-(2 ^ 62) ≤ i ∧ i < 2 ^ 62 ∧ -(2 ^ 62) ≤ j ∧ j < 2 ^ 62) ∧ R ⟨rangeD i j, fun _ => True⟩ S1) : wRng2 t sd S R := h
theorem int1' {k : Int → Prop} (h : k i) : int1 [.int i] k := h
theorem int2' {k : Int → Int → Prop} (h : k i j) : int2 [.int i, .int j] k := h
theorem rng1N {k : Nat} (hk : k ≤ 1000000) (h : R ⟨rangeD 0 (k : Nat), fun _ => True⟩ S) : -(2 ^ 62) ≤ ((k : Nat) : Int) ∧ ((k : Nat) : Int) < 2 ^ 62 ∧ R ⟨rangeD 0 (k : Nat), fun _ => True⟩ S := ⟨by omega, by omega, h⟩
theorem rangeN (k : Nat) : rangeD 0 ((k : Nat) : Int) = (List.range k).map fun i => .int ((i : Nat) : Int) := by
  unfold rangeD
  rw [show ((k : Int) - 0).toNat = k by omega]
  exact List.map_congr_left fun i _ => by rw [Int.zero_add]
end
/-! slices -/
theorem xSl {tl th : WP} (h : we sd S fun d S1 => tl sd S1 fun lo S2 => th sd S2 fun hi S3 => sliD d S3 lo hi Q) : wSl we tl th sd S Q := h
section
variable {Qo : Option Int → SO → Prop}
theorem pN (h : Qo none S) : pNone sd S Qo := h
theorem pS (h : we sd S (isI fun i S1 => Qo (some i) S1)) : pSome we sd S Qo := h
end
theorem isI1 {k : Int → SO → Prop} (h : k i S) : isI k (.int i) S := ⟨h⟩
section
variable {xs : List D} {lo hi : Option Int} {k l : Nat} {p : Addr}
theorem slTup (h : Q (.tup (cutD xs lo hi)) S) : sliD (.tup xs) S lo hi Q := h
theorem slSrc (h : Q (.lst (cutD xs lo hi)) S) : sliD (.src xs) S lo hi Q := h
theorem slLst (h : Q (.lst (cutD xs lo hi)) S) : sliD (.lst xs) S lo hi Q := ⟨xs, rfl, h⟩
end
/-! isinstance -/
end
/-! assignments at once, methods of lists -/
section
variable {n bk ct : SD → SO → Prop} {r : KD} {sd : SD} {S : SO} {Q : KD} {we : WE} {t : WA} {d x y z : D} {p : Addr} {xs : List D} {A : Prop}
theorem xPar {i j : Nat} (h : t sd S fun xs S1 => two2 xs fun x y => gV i x sd S1 fun sd' S2 => gV j y sd' S2 n) : wPar i j t ⟨n, r, bk, ct⟩ sd S := h
theorem xPar3 {i j k : Nat} (h : t sd S fun xs S1 => three xs fun x y z => gV i x sd S1 fun sd' S2 => gV j y sd' S2 fun sd' S2 => gV k z sd' S2 n) : wPar3 i j k t ⟨n, r, bk, ct⟩ sd S := h
theorem two2' {k : D → D → Prop} (h : k x y) : two2 [x, y] k := h
theorem three' {k : D → D → D → Prop} (h : k x y z) : three [x, y, z] k := h
def BmD (T : String) (d : D) (S : SO) (A : Prop) : Prop := tyD T d S ∧ A
theorem xBM {T : String} {w : WM} (h : we sd S fun d S1 => BmD T d S1 (t sd S1 fun xs S2 => w d xs S2 Q)) : wBM T w we t sd S Q := h
theorem bmObj (e : S p = some (.lst xs)) (h : A) : BmD "list" (.obj p) S A := ⟨.inl ⟨rfl, xs, e⟩, h⟩
theorem bmLst (h : A) : BmD "list" (.lst xs) S A := ⟨rfl, h⟩
theorem bmSrc (h : A) : BmD "list" (.src xs) S A := ⟨rfl, h⟩
theorem apM {α : Type} {f : α → D} {l : List α} {z : α} (e : S p = some (.lst (l.map f))) (hl : l.length < 1000000) (h : Q .non (S.set p (.lst ((l ++ [z]).map f)))) : mAppend (.obj p) [f z] S Q := ⟨p, _, rfl, e, by rw [List.length_map]; exact hl, by rw [List.map_append] at h; exact h⟩
theorem popM {α : Type} {f : α → D} {l : List α} {z : α} (e : S p = some (.lst (l.map f))) (hz : l.getLast? = some z) (h : Q (f z) (S.set p (.lst (l.dropLast.map f)))) : mPop (.obj p) [] S Q := ⟨rfl, p, _, f z, rfl, e, by rw [List.getLast?_map, hz]; rfl, by rw [List.map_dropLast] at h; exact h⟩
theorem tfL (h : Q (.tf xs) S) : cTupleF [.lst xs] S Q := ⟨xs, rfl, h⟩
theorem tfOb (e : S p = some (.lst xs)) (h : Q (.tf xs) S) : cTupleF [.obj p] S Q := ⟨xs, show objL _ = _ by rw [e]; rfl, h⟩
theorem tuL (h : Q (.tup xs) S) : cTuple [.lst xs] S Q := ⟨xs, rfl, h⟩
theorem tuT (h : Q (.tup xs) S) : cTuple [.tup xs] S Q := h
end
/-! for loops over typed sources and states -/
section
variable {n bk ct : SD → SO → Prop} {r : KD} {sd : SD} {S : SO} {wi : WI} {g : WG} {b : WS} {α σ : Type}
def ForJ (g : WG) (b : WS) (n : SD → SO → Prop) (r : KD) (sd : SD) (J : ItD) (S1 : SO) : Prop := ∃ Pv : Nat → SD → SO → Prop, Pv 0 sd S1 ∧ (∀ i sd S, Pv i sd S → J.ok S) ∧
  (∀ i d sd S, J.items[i]? = some d → Pv i sd S → g d sd S fun sd' S' => b ⟨Pv (i + 1), r, n, Pv (i + 1)⟩ sd' S') ∧ (∀ sd S, Pv J.items.length sd S → n sd S)
theorem xFor (h : wi sd S fun J S1 => ForJ g b n r sd J S1) : wFor wi g b ⟨n, r, bk, ct⟩ sd S := ⟨h⟩
/-- what holds before turn i -/
def Turn (st : σ → SD) (so : σ → SO) (Iv : Nat → σ → Prop) (i : Nat) : SD → SO → Prop := fun sd S => ∃ a, sd = st a ∧ S = so a ∧ Iv i a
theorem Turn.of {st : σ → SD} {so : σ → SO} {Iv : Nat → σ → Prop} {i : Nat} (a : σ) (hv : Iv i a) (h1 : sd = st a := by rfl) (h2 : S = so a := by rfl) : Turn st so Iv i sd S := ⟨a, h1, h2, hv⟩
/-- σ: what the state is made of; st, so: the slots, the objects; Iv: the invariant before turn i -/
theorem forJ {xs : List D} {ok : SO → Prop} (l : List α) (f : α → D) (st : σ → SD) (so : σ → SO) (Iv : Nat → σ → Prop) (a0 : σ) (h0 : Iv 0 a0)
    (ht : ∀ i z a, l[i]? = some z → Iv i a → g (f z) (st a) (so a) fun sd' S' => b ⟨Turn st so Iv (i + 1), r, n, Turn st so Iv (i + 1)⟩ sd' S')
    (he : ∀ a, Iv l.length a → n (st a) (so a)) (hs : sd = st a0 := by rfl) (hS : S = so a0 := by rfl) (hx : xs = l.map f := by rfl) (hok : ∀ i a, Iv i a → ok (so a) := by intros; trivial) : ForJ g b n r sd ⟨xs, ok⟩ S := by
  subst hx
  refine ⟨Turn st so Iv, ⟨a0, hs, hS, h0⟩, ?_, ?_, ?_⟩
  · rintro i sd S ⟨a, rfl, rfl, hv⟩
    exact hok i a hv
  · rintro i d sd S hd ⟨a, rfl, rfl, hv⟩
    rw [List.getElem?_map] at hd
    obtain ⟨z, hz, rfl⟩ := Option.map_eq_some_iff.mp hd
    exact ht i z a hz hv
  · rintro sd S ⟨a, rfl, rfl, hv⟩
    rw [List.length_map] at hv
    exact he a hv
theorem forE {ys : List D} {ok : SO → Prop} (l : List α) (f : α → D) (st : σ → SD) (so : σ → SO) (Iv : Nat → σ → Prop) (a0 : σ) (h0 : Iv 0 a0)
    (ht : ∀ i z a, l[i]? = some z → Iv i a → g (.tup [.int (i : Nat), f z]) (st a) (so a) fun sd' S' => b ⟨Turn st so Iv (i + 1), r, n, Turn st so Iv (i + 1)⟩ sd' S')
    (he : ∀ a, Iv l.length a → n (st a) (so a)) (hs : sd = st a0 := by rfl) (hS : S = so a0 := by rfl) (hx : ys = l.map f := by rfl) (hok : ∀ i a, Iv i a → ok (so a) := by intros; trivial) : ForJ g b n r sd ⟨enumD ys, ok⟩ S := by
  subst hx
  refine ⟨Turn st so Iv, ⟨a0, hs, hS, h0⟩, ?_, ?_, ?_⟩
  · rintro i sd S ⟨a, rfl, rfl, hv⟩
    exact hok i a hv
  · rintro i d sd S hd ⟨a, rfl, rfl, hv⟩
    obtain ⟨x, hx, rfl⟩ := enumD_get hd
    rw [List.getElem?_map] at hx
    obtain ⟨z, hz, rfl⟩ := Option.map_eq_some_iff.mp hx
    exact ht i z a hz hv
  · rintro sd S ⟨a, rfl, rfl, hv⟩
    rw [enumD_len, List.length_map] at hv
    exact he a hv
theorem forR {m : Nat} {ok : SO → Prop} (st : σ → SD) (so : σ → SO) (Iv : Nat → σ → Prop) (a0 : σ) (h0 : Iv 0 a0)
    (ht : ∀ i a, i < m → Iv i a → g (.int (i : Nat)) (st a) (so a) fun sd' S' => b ⟨Turn st so Iv (i + 1), r, n, Turn st so Iv (i + 1)⟩ sd' S')
    (he : ∀ a, Iv m a → n (st a) (so a)) (hs : sd = st a0 := by rfl) (hS : S = so a0 := by rfl) (hok : ∀ i a, Iv i a → ok (so a) := by intros; trivial) : ForJ g b n r sd ⟨rangeD 0 (m : Nat), ok⟩ S := by
  rw [rangeN]
  refine forJ (List.range m) (fun i : Nat => .int (i : Nat)) st so Iv a0 h0 (fun i z a hz hv => ?_) (fun a hv => he a (by rwa [List.length_range] at hv)) hs hS rfl hok
  have hl := (List.getElem?_eq_some_iff.mp hz).1
  rw [List.length_range] at hl
  rw [List.getElem?_range hl] at hz
  cases hz
  exact ht i a hl hv
/-! list comprehensions over typed sources -/
variable {nt : NT} {tt : WT} {we wk : WE} {vs : List Nat} {Q : KD}
class InjD {α : Type} (f : α → D) : Prop where
  inj : ∀ a b, f a = f b → a = b
instance : InjD D.str := ⟨fun _ _ h => by injection h⟩
instance : InjD D.int := ⟨fun _ _ h => by injection h⟩
instance : InjD (fun d : D => d) := ⟨fun _ _ h => h⟩
instance : InjD (fun i : Nat => D.int (i : Nat)) := ⟨fun _ _ h => by injection h with h; omega⟩
instance {α β : Type} (f : α → D) (h : β → D) [InjD f] [InjD h] : InjD (fun z : α × β => D.tup [f z.1, h z.2]) := ⟨fun a b e => by
  injection e with e
  injection e with e1 e
  injection e with e2 e
  exact Prod.ext (InjD.inj (f := f) _ _ e1) (InjD.inj (f := h) _ _ e2)⟩
theorem map_inj {α : Type} {f : α → D} [InjD f] : ∀ {a b : List α}, a.map f = b.map f → a = b
  | [], [], _ => rfl
  | [], _ :: _, h => by cases h
  | _ :: _, [], h => by cases h
  | x :: xs, y :: ys, h => by
    rw [List.map_cons, List.map_cons] at h
    injection h with h1 h2
    rw [InjD.inj (f := f) _ _ h1, map_inj h2]
instance {α : Type} (f : α → D) [InjD f] : InjD (fun r : List α => D.tup (r.map f)) := ⟨fun a b e => by injection e with e; exact map_inj e⟩
instance {α : Type} (f : α → D) [InjD f] : InjD (fun r : List α => D.tf (r.map f)) := ⟨fun a b e => by injection e with e; exact map_inj e⟩
instance {α : Type} (f : α → D) [InjD f] : InjD (fun r : List α => D.lst (r.map f)) := ⟨fun a b e => by injection e with e; exact map_inj e⟩
open Classical in
noncomputable def backF {α : Type} (l : List α) (f : α → D) (out : α → Option D) : D → Option D := fun d => if h : ∃ z, z ∈ l ∧ f z = d then out h.choose else none
theorem backF_eq {α : Type} {l : List α} {f : α → D} [InjD f] {out : α → Option D} {z : α} (h : z ∈ l) : backF l f out (f z) = out z := by
  unfold backF
  have e : ∃ z', z' ∈ l ∧ f z' = f z := ⟨z, h, rfl⟩
  rw [dif_pos e, InjD.inj (f := f) _ _ e.choose_spec.2]
theorem backF_map {α : Type} {l : List α} {f : α → D} [InjD f] {out : α → Option D} : (l.map f).filterMap (backF l f out) = l.filterMap out := by
  rw [List.filterMap_map]
  have key : ∀ m : List α, (∀ z ∈ m, z ∈ l) → m.filterMap (backF l f out ∘ f) = m.filterMap out := fun m => by
    induction m with
    | nil => intro _; rfl
    | cons x m ih =>
      intro hm
      rw [List.filterMap_cons, List.filterMap_cons, ih fun z hz => hm z (List.mem_cons_of_mem _ hz)]
      simp only [Function.comp]
      rw [backF_eq (hm x (List.mem_cons_self ..))]
  exact key l fun _ h => h
theorem map_filterMap {α β : Type} {p : α → Bool} {out : α → β} : ∀ l : List α, l.filterMap (fun z => if p z = true then some (out z) else none) = (l.filter p).map out
  | [] => rfl
  | x :: xs => by
    rw [List.filterMap_cons, List.filter_cons]
    cases h : p x <;> simp [map_filterMap xs]
/-- the source: the items of l -/
structure Src {α : Type} (l : List α) (f : α → D) (S : SO) (J : ItD) (S1 : SO) : Prop where
  it : J.items = l.map f
  ok : ∀ S', Ext S1 S' → J.ok S'
  st : S1 = S
theorem srcT {l : List α} {f : α → D} : Src l f S ⟨l.map f, fun _ => True⟩ S := ⟨rfl, fun _ _ => trivial, rfl⟩
theorem srcX {l : List α} {f : α → D} {xs : List D} (h : xs = l.map f) : Src l f S ⟨xs, fun _ => True⟩ S := ⟨h, fun _ _ => trivial, rfl⟩
theorem putNT_mono {nt : NT} {d : D} {sd : SD} {k k' : SD → Prop} (h : putNT nt d sd k) (i : ∀ sd2, k sd2 → k' sd2) : putNT nt d sd k' := by
  cases nt with
  | n j => exact i _ h
  | t l =>
    cases d with
    | tup xs => exact ⟨h.1, i _ h.2⟩
    | _ => exact False.elim h
/-- with a test: what is asked behind the test's answer c; o: the new item, if any -/
def LcK (we : WE) (sd2 : SD) (S' : SO) (o : Option D) : Bool → SO → Prop := fun c S2 => S2 = S' ∧ if c = true then up we sd2 S' fun y S3 => S3 = S' ∧ o = some y else o = none
theorem lcKT {sd2 : SD} {S' : SO} {o : Option D} {x : D} (e : o = some x) (h : we sd2 S' fun y S3 => S3 = S' ∧ x = y) : LcK we sd2 S' o true S' :=
  ⟨rfl, by rw [if_pos rfl]; exact ⟨_, h, fun y S3 ⟨e1, e2⟩ => ⟨e1, by rw [e, e2]⟩⟩⟩
theorem lcKF {sd2 : SD} {S' : SO} {o : Option D} (e : o = none) : LcK we sd2 S' o false S' := ⟨rfl, by rw [if_neg Bool.false_ne_true]; exact e⟩
def opt {α : Type} (c : Bool) (x : α) : Option α := if c = true then some x else none
theorem opt_t {α : Type} {c : Bool} {x : α} (h : c = true) : opt c x = some x := if_pos h
theorem opt_f {α : Type} {c : Bool} {x : α} (h : c = false) : opt c x = none := if_neg (by rw [h]; exact Bool.false_ne_true)
/-- the test's answer is c -/
theorem lcKI {sd2 : SD} {S' : SO} {c : Bool} {x : D} (h : c = true → we sd2 S' fun y S3 => S3 = S' ∧ x = y) : isB (LcK we sd2 S' (opt c x)) (.bl c) S' := by
  refine isC (fun e => lcKT (opt_t e) (h e)) fun e => lcKF (opt_f e)
theorem lcO (l : List α) (f : α → D) [InjD f] (F : α → Option D) (hi : wi sd S (Src l f S)) (hl : l.length ≤ 1000000)
    (hf : ∀ z ∈ l, ∀ S', Ext S S' → putNT nt (f z) (wipeD sd vs) fun sd2 => tt sd2 S' (LcK we sd2 S' (F z))) (hq : Q (.lst (l.filterMap F)) S) : wLcP wi nt tt we vs sd S Q := by
  refine ⟨_, hi, ?_⟩
  rintro ⟨xs, ok⟩ S1 ⟨hx, hok, rfl⟩
  have hx' : xs = l.map f := hx
  subst hx'
  refine ⟨hok, by show (l.map f).length ≤ _; rw [List.length_map]; exact hl, backF l f F, fun d hd S' e => ?_, ?_⟩
  · obtain ⟨z, hz, rfl⟩ := List.mem_map.mp hd
    rw [backF_eq hz]
    exact hf z hz S' e
  · show Q (.lst ((l.map f).filterMap (backF l f F))) S1
    rw [backF_map]
    exact hq
theorem lcF (l : List α) (f : α → D) [InjD f] (p : α → Bool) (out : α → D) (hi : wi sd S (Src l f S)) (hl : l.length ≤ 1000000)
    (hf : ∀ z ∈ l, ∀ S', Ext S S' → putNT nt (f z) (wipeD sd vs) fun sd2 => tt sd2 S' (LcK we sd2 S' (opt (p z) (out z)))) (hq : Q (.lst ((l.filter p).map out)) S) : wLcP wi nt tt we vs sd S Q := by
  refine lcO l f (fun z => opt (p z) (out z)) hi hl hf ?_
  have e : l.filterMap (fun z => opt (p z) (out z)) = (l.filter p).map out := map_filterMap l
  rw [e]
  exact hq
theorem lcM (l : List α) (f : α → D) [InjD f] (out : α → D) (hi : wi sd S (Src l f S)) (hl : l.length ≤ 1000000)
    (hf : ∀ z ∈ l, ∀ S', Ext S S' → putNT nt (f z) (wipeD sd vs) fun sd2 => we sd2 S' fun y S3 => S3 = S' ∧ out z = y) (hq : Q (.lst (l.map out)) S) : wLcP wi nt wYes we vs sd S Q := by
  refine lcO l f (fun z => some (out z)) hi hl (fun z hz S' e => putNT_mono (hf z hz S' e) fun sd2 h => ?_) ?_
  · exact lcKT rfl h
  · rw [List.filterMap_eq_map']
    exact hq
instance {α : Type} (f : α → D) [InjD f] : InjD (fun z : α × Nat => D.tup [.int (z.2 : Nat), f z.1]) := ⟨fun a b e => by
  injection e with e
  injection e with e1 e
  injection e with e2 e
  injection e1 with e1
  exact Prod.ext (InjD.inj (f := f) _ _ e2) (by omega)⟩
theorem srcR {m : Nat} : Src (List.range m) (fun i : Nat => D.int (i : Nat)) S ⟨rangeD 0 (m : Nat), fun _ => True⟩ S := ⟨rangeN m, fun _ _ => trivial, rfl⟩
end
/-! equal to [] or () -/
theorem pyDs_map {α : Type} {f : α → D} {g : α → PyData} : ∀ {l : List α}, (∀ z ∈ l, pyD (f z) = some (g z)) → pyDs (l.map f) = some (l.map g)
  | [], _ => rfl
  | x :: xs, h => by
    show (pyD (f x)).bind (fun p => (pyDs (xs.map f)).map fun ps => p :: ps) = _
    rw [pyDs_map fun z hz => h z (List.mem_cons_of_mem _ hz), h x (List.mem_cons_self ..)]
    rfl
/-! the state: objects by their addresses -/
end L2.DL

/-! DL23: t[::-1] of tuples, the new one a tuple as any -/
namespace L2.DL
open PySem PySem.Spec PyProof.Rows
section
variable {X : Cx}
def RevD (d : D) (S : SO) (k : List D → Prop) : Prop := ∃ xs, (d = .tf xs ∨ d = .tup xs ∨ d = .kt xs) ∧ k xs
theorem revTup {xs : List D} {S : SO} {k : List D → Prop} (h : k xs) : RevD (.tup xs) S k := ⟨xs, .inr (.inl rfl), h⟩
theorem revTf {xs : List D} {S : SO} {k : List D → Prop} (h : k xs) : RevD (.tf xs) S k := ⟨xs, .inl rfl, h⟩
def wRevU (we : WE) : WE := fun sd S Q => we sd S fun d S1 => ∃ xs, (d = .tf xs ∨ d = .tup xs ∨ d = .kt xs) ∧ Q (.tup xs.reverse) S1
theorem xRevU {we : WE} {sd : SD} {S : SO} {Q : KD} (h : we sd S fun d S1 => RevD d S1 fun xs => Q (.tup xs.reverse) S1) : wRevU we sd S Q := h
end
end L2.DL

/-! DL24: values of any kind: == () of tuples of anything, {} that nobody changes, isinstance -/
namespace L2.DL
open PySem PySem.Spec PyProof.Rows
def asTup : D → Option (List D)
  | .tup xs => some xs
  | .tf xs => some xs
  | _ => none
theorem asTup_at {K : PySem.W.Frag} {S : SO} {H : Hp} {d : D} {v : V} {xs : List D} (r : Rel K S H d v) (e : asTup d = some xs) : ∃ a vs, v = .ref a ∧ SqT K H a vs ∧ Rels K S H xs vs := by
  cases d with
  | tup ys =>
    cases e
    obtain ⟨a, vs, h1, t, h2⟩ := r
    exact ⟨a, vs, h1, t.sq, h2⟩
  | tf ys =>
    cases e
    obtain ⟨a, vs, h1, t, h2⟩ := r
    exact ⟨a, vs, h1, t.sq, h2⟩
  | _ => cases e
section
variable {X : Cx}
def wDicF : WE := fun _ S Q => Q (.dic false []) S
end
theorem xDicF {sd : SD} {S : SO} {Q : KD} (h : Q (.dic false []) S) : wDicF sd S Q := h
section
variable {wi : WI} {nt : NT} {tt : WT} {we : WE} {vs : List Nat} {sd : SD} {S : SO} {Q : KD}
/-- a list comprehension whose element may change objects: what is asked where the source is known -/
def LcJ (nt : NT) (tt : WT) (we : WE) (vs : List Nat) (R : Addr → SO → Prop) (sd : SD) (J : ItD) (S1 : SO) : Prop := ∀ p, S1 p = none → ∃ Pv : Nat → SO → Prop, Pv 0 (S1.set p (.lst [])) ∧ (∀ i S, Pv i S → J.ok S) ∧
  (∀ i d S, J.items[i]? = some d → Pv i S → putNT nt d (wipeD sd vs) fun sd2 => upT tt sd2 S fun b S2 => if b = true then up we sd2 S2 fun y S3 => ∃ acc, S3 p = some (.lst acc) ∧ acc.length ≤ 1000000 ∧ Pv (i + 1) (S3.set p (.lst (acc ++ [y]))) else Pv (i + 1) S2) ∧
  (∀ S, Pv J.items.length S → R p S)
def FrzR (Q : KD) (p : Addr) (S' : SO) : Prop := ∃ acc, S' p = some (.lst acc) ∧ Q (.lst acc) (S'.del p)
theorem xLcF (h : wi sd S fun J S1 => LcJ nt tt we vs (FrzR Q) sd J S1) : wLcF wi nt tt we vs sd S Q := ⟨h⟩
theorem xLcN (h : wi sd S fun J S1 => LcJ nt tt we vs (fun p S' => Q (.obj p) S') sd J S1) : wLc wi nt tt we vs sd S Q := ⟨h⟩
end
/-- a value of any kind, each part of at most m items -/
inductive Any (m : Nat) : D → Prop
  | non : Any m .non
  | bl (b : Bool) : Any m (.bl b)
  | int (i : Int) : Any m (.int i)
  | str (x : Str) (h : PyData.canLay0 (.str x) = true ∧ x.length ≤ m) : Any m (.str x)
  | tup (xs : List D) (hl : xs.length ≤ m) (h : ∀ x ∈ xs, Any m x) : Any m (.tup xs)
  | tf (xs : List D) (hl : xs.length ≤ m) (h : ∀ x ∈ xs, Any m x) : Any m (.tf xs)
  | lst (xs : List D) (hl : xs.length ≤ m) (h : ∀ x ∈ xs, Any m x) : Any m (.lst xs)
  | dic (t : Bool) : Any m (.dic t [])
end L2.DL

/-! DL25: sorted(..) of lists and tuples of texts, of ints -/
namespace L2.DL
open PySem PySem.Spec PyProof.Rows
section
variable {prog : Program} {w : World} {A : Around} {E : Value → Shared → Prop} {s : Shared}
/-- what collect makes of a list or a tuple -/
def heapC (h : Heap) (zs : Array Value) : Heap := (h.push { cls := .type "list", data := .seq ([] : List Value).toArray }).update h.objs.size (Obj.mapSeq (· ++ zs))
theorem collect_seqX {K : List Value → Shared → Prop} (src : Addr) {U : String} {ob : Obj} {zs : Array Value} {k : Nat} (hU : U = "list" ∨ U = "tuple") (hob : s.heap.get? src = some ob) (hcl : ob.cls = .type U) (hda : ob.data = .seq zs k)
    (hK : K zs.toList { s with heap := heapC s.heap zs }) (hfit : zs.size ≤ sizeLine) : wpAny (model prog w) A (collect (.ref src)) K E s := by
  unfold collect
  refine wpAny_bind (wpAny_runValue (codeAny_builtin F.entry_proto_collect ?_))
  rw [Around.under_plainId F.plain_proto_collect (args := _)]
  show wpAny (model prog w) A.in1 (newList [] >>= fun l => again (.builtin "list.__iadd__" ⟨[l, .ref src], []⟩)) _ _ s
  refine wpAny_bind (wpAny_newObj_type ?_)
  refine wpAny_pure ⟨plainId_quiet F.plain_list_iadd _, codeAny_builtin F.entry_list_iadd ?_⟩
  rw [Around.under_plainId F.plain_list_iadd (args := _)]
  show wpAny (model prog w) A.in1 (Builtin.List.listExtendWith (.ref s.heap.objs.size) (.ref src) (.ref s.heap.objs.size)) _ _ _
  have g1 : (s.heap.push { cls := .type "list", data := .seq ([] : List Value).toArray }).get? s.heap.objs.size = some { cls := .type "list", data := .seq #[] 0 } := Heap.get?_push_size _ (by rfl)
  have g2 := Heap.get?_update_self (Obj.mapSeq (· ++ zs)) g1 rfl
  have fin : wpAny (model prog w) A (match Value.ref s.heap.objs.size with | Value.ref a => (do (match (← load a).data with | Data.seq xs _ => pure xs.toList | _ => unsupported "internal:collect")) | _ => unsupported "internal:collect") K E { s with heap := heapC s.heap zs } := by
    show wpAny (model prog w) A (load s.heap.objs.size >>= _) K E _
    refine wpAny_bind (wpAny_load g2 (wpAny_pure ?_))
    show K ((#[] : Array Value) ++ zs).toList _
    rw [show ((#[] : Array Value) ++ zs).toList = zs.toList by simp]
    exact hK
  refine wpAny_mono (wpAny_extend_seq (hsz := hfit) (A := A) (R := fun r u => r = .ok (.ret (.ref s.heap.objs.size)) ∧ u = { s with heap := heapC s.heap zs }) (s := { s with heap := s.heap.push { cls := .type "list", data := .seq ([] : List Value).toArray } }) _ src _ 0 hU g1 (Heap.get?_push_of_some _ hob) hcl hda ⟨rfl, rfl⟩) (fun fl u hu => ?_) (fun er u hu => absurd hu.1 (by simp))
  cases fl with
  | done f =>
    obtain ⟨q, rfl⟩ := hu
    cases q
    exact fin
  | again c' => exact ⟨hu.1, codeAny_mono hu.2 fun r u2 hr => by obtain ⟨rfl, rfl⟩ := hr; exact fin⟩
theorem heapC_size (h : Heap) (zs : Array Value) : (heapC h zs).objs.size = h.objs.size + 1 := by
  unfold heapC
  rw [Heap.size_update, size_push']
theorem heapC_kept {h : Heap} {zs : Array Value} {b : Addr} {o : Obj} (q : h.get? b = some o) : (heapC h zs).get? b = some o := by
  unfold heapC
  rw [Heap.get?_update_ne _ _ _ _ (Nat.ne_of_lt (Heap.lt_size q)), Heap.get?_push_ne _ _ _ (Nat.ne_of_lt (Heap.lt_size q))]
  exact q
theorem sortedK_seq {κ : KeyKind} (hO : κ.OneLt) {it : Addr} {T : String} {o : Obj} {vs : List Value} {n : Nat} {Q : Value → Shared → Prop} (hT : T = "list" ∨ T = "tuple") (ho : s.heap.get? it = some o) (hc : o.cls = .type T) (hd : o.data = .seq vs.toArray n)
    (h0 : KeysOf κ (pairsOf vs)) (hkk : ∀ v₁ v₂ rest, vs = v₁ :: v₂ :: rest → keyKind' (v₁ :: v₂ :: rest).toArray = pure oneType') (hL : vs.length ≤ sizeLine)
    (h : ∀ (h' : Heap) (p : Addr) (e : Nat) (st' : SortSt), (∀ b o', s.heap.get? b = some o' → h'.get? b = some o') → s.heap.objs.size ≤ p → h'.get? p = some (seqObj "list" ((arrOf st').map (·.2)) e) → (arrOf st').Perm (pairsOf vs) → SortedToK κ (arrOf st') (pairsOf vs).size → Q (.ref p) { s with heap := h' }) :
    wpAny (model prog w) A (call (.builtin "sorted") [.ref it]) Q E s := by
  refine Calls.call_function_entry kind_sorted plain_sorted entry_sorted (args_sorted1 (Value.ref it)) ?_
  show wpAny (model prog w) _ (Builtin.«sorted» _) _ _ s
  unfold Builtin.«sorted»
  refine wpAny_bind (m := checkCount "sorted" 1 1 _) (wpAny_pure (wpAny_bind (collect_seqX it hT ho hc hd ?_ (by simpa using hL))))
  refine wpAny_bind (wpAny_newList ?_)
  rw [show vs.toArray.toList = vs by simp]
  have hoL : ((heapC s.heap vs.toArray).push (seqObj "list" vs.toArray 0)).get? (heapC s.heap vs.toArray).objs.size = some (seqObj "list" vs.toArray 0) := Heap.get?_push_size _ (by rfl)
  show wpAny _ _ _ _ _ { s with heap := (heapC s.heap vs.toArray).push (seqObj "list" vs.toArray 0) }
  refine wpAny_bind (wpAny_holding (wpAny_call_entry slot_list_sort ⟨_, hoL, rfl⟩ entry_list_sort (list_sort_treeKAny hO hoL h0 hkk hL fun st' a1 a2 => ⟨_, rfl, ?_⟩) (args_list_sort _)))
  obtain ⟨e, he⟩ := sortedHeap_at (out := (arrOf st').map (·.2)) hoL
  refine wpAny_pure ⟨_, rfl, h _ _ e st' (fun b o' q => ?_) (by rw [heapC_size]; exact Nat.le_succ _) he a1 a2⟩
  have k1 := heapC_kept (zs := vs.toArray) q
  have hlt := Heap.lt_size k1
  rw [sortedHeap_old (Nat.ne_of_lt hlt) (by rw [size_push']; exact Nat.lt_succ_of_lt hlt), Heap.get?_push_ne _ _ _ (Nat.ne_of_lt hlt)]
  exact k1
theorem sorted_strs_seq {it : Addr} {T : String} {o : Obj} {vs : List Value} {ss : List Str} {n : Nat} {Q : Value → Shared → Prop} (hT : T = "list" ∨ T = "tuple") (ho : s.heap.get? it = some o) (hc : o.cls = .type T) (hd : o.data = .seq vs.toArray n) (hS : StrsAre vs ss) (hL : vs.length ≤ sizeLine)
    (h : ∀ (h' : Heap) (p : Addr) (e : Nat) (out : Array Value) (ss' : List Str), (∀ b o', s.heap.get? b = some o' → h'.get? b = some o') → s.heap.objs.size ≤ p → h'.get? p = some (seqObj "list" out e) → StrsAre out.toList ss' → ss'.Perm ss → sortedS ss' = true → Q (.ref p) { s with heap := h' }) :
    wpAny (model prog w) A (call (.builtin "sorted") [.ref it]) Q E s := by
  refine sortedK_seq strKind_oneLt hT ho hc hd hS.keysOf (fun v₁ v₂ rest e => keyKind_strs (by rw [← e]; exact hS)) hL fun h' p e st' k1 k2 k3 hp hs => ?_
  obtain ⟨ss', h1, h2, h3⟩ := sorted_out_str hS hp hs
  exact h h' p e _ ss' k1 k2 k3 h1 h2 h3
theorem sorted_ints_seq {it : Addr} {T : String} {o : Obj} {vs : List Value} {ss : List Int} {n : Nat} {Q : Value → Shared → Prop} (hT : T = "list" ∨ T = "tuple") (ho : s.heap.get? it = some o) (hc : o.cls = .type T) (hd : o.data = .seq vs.toArray n) (hI : IntsAre vs ss) (hL : vs.length ≤ sizeLine)
    (h : ∀ (h' : Heap) (p : Addr) (e : Nat) (out : Array Value) (ss' : List Int), (∀ b o', s.heap.get? b = some o' → h'.get? b = some o') → s.heap.objs.size ≤ p → h'.get? p = some (seqObj "list" out e) → IntsAre out.toList ss' → ss'.Perm ss → ss'.Pairwise (· ≤ ·) → Q (.ref p) { s with heap := h' }) :
    wpAny (model prog w) A (call (.builtin "sorted") [.ref it]) Q E s := by
  refine sortedK_seq intKind_oneLt hT ho hc hd hI.keysOfInt (fun v₁ v₂ rest e => keyKind_ints (by rw [← e]; exact hI)) hL fun h' p e st' k1 k2 k3 hp hs => ?_
  obtain ⟨ss', h1, h2, h3⟩ := sorted_out hI hp (sortedTo_of_int hs)
  exact h h' p e _ ss' k1 k2 k3 h1 h2 h3
end
section
variable {X : Cx}
/-- sorted(xs) of texts, of ints: a new list, frozen -/
def cSorted : WL := fun xs S Q => one xs fun x => (∃ ss : List Str, seqX S x = some (ss.map D.str) ∧ ∀ ss' : List Str, ss'.Perm ss → sortedS ss' = true → Q (.lst (ss'.map D.str)) S) ∨ (∃ ns : List Int, seqX S x = some (ns.map D.int) ∧ ∀ ns' : List Int, ns'.Perm ns → ns'.Pairwise (· ≤ ·) → Q (.lst (ns'.map D.int)) S)
theorem dc_sorted : DC X (.builtin "sorted") cSorted := by
  intro pins s σ H xs us Q I r h
  obtain ⟨ds, S, Q0, sr, rs, q, an⟩ := h
  obtain ⟨x, rfl, q⟩ := one_of q
  obtain ⟨v, rfl, rv⟩ := rs.v1
  have seq : ∀ {ys : List D}, seqX S x = some ys → ∃ a vs its n T o, v = .ref a ∧ Rels X.K S H ys vs ∧ Vals vs its ∧ (T = "list" ∨ T = "tuple") ∧ s.heap.get? a = some o ∧ o.cls = .type T ∧ o.data = .seq its.toArray n ∧ vs.length ≤ sizeLine := fun e => by
    obtain ⟨a, vs, rfl, hq, rns⟩ := seqX_at sr rv e
    rcases hq with hq | hq
    · obtain ⟨its, rr, ⟨o, n, ho, hc, _, hd⟩, hz⟩ := I.list hq
      exact ⟨a, vs, its, n, "list", o, rfl, rns, rr, .inl rfl, ho, hc, hd, hz⟩
    · obtain ⟨its, rr, ⟨o, ho, hc, n, hd⟩, hz⟩ := I.tuple hq
      exact ⟨a, vs, its, n, "tuple", o, rfl, rns, rr, .inr rfl, ho, hc, hd, hz⟩
  rcases q with ⟨ss, e, q⟩ | ⟨ss, e, q⟩
  · obtain ⟨a, vs, its, n, T, o, rfl, rns, rr, hT, ho, hc, hd, hz⟩ := seq e
    have ev := rels_strs rns
    subst ev
    rw [Vals.ref1 r]
    have hS : StrsAre its ss := rr.strs
    refine sorted_strs_seq hT ho hc hd hS (by rw [← rr.length]; exact hz) fun h' p ep out ss' k1 k2 k3 h1 h2 h3 => ?_
    have hlen : (ss'.map V.str).length ≤ sizeLine := by rw [List.length_map, h2.length_eq]; rw [List.length_map] at hz; exact hz
    have hf := I.hok.fresh k2
    exact ⟨.ref p, upd H p (.lst (ss'.map V.str)), I.laid (t' := s.toks) k1 k2 ⟨hlen, out.toList, ep, vals_of_strs h1, k3⟩, rfl, an _ _ _ _ (q ss' h2 h3) (nx_new hf) (sr.new hf) ⟨p, _, rfl, sr.free hf, upd_same, rels_of_strs ss'⟩⟩
  · obtain ⟨a, vs, its, n, T, o, rfl, rns, rr, hT, ho, hc, hd, hz⟩ := seq e
    have ev := rels_ints rns
    subst ev
    rw [Vals.ref1 r]
    have hS : IntsAre its ss := rr.ints
    refine sorted_ints_seq hT ho hc hd hS (by rw [← rr.length]; exact hz) fun h' p ep out ss' k1 k2 k3 h1 h2 h3 => ?_
    have hlen : (ss'.map V.int).length ≤ sizeLine := by rw [List.length_map, h2.length_eq]; rw [List.length_map] at hz; exact hz
    have hf := I.hok.fresh k2
    exact ⟨.ref p, upd H p (.lst (ss'.map V.int)), I.laid (t' := s.toks) k1 k2 ⟨hlen, out.toList, ep, vals_of_ints h1, k3⟩, rfl, an _ _ _ _ (q ss' h2 h3) (nx_new hf) (sr.new hf) ⟨p, _, rfl, sr.free hf, upd_same, rels_of_ints ss'⟩⟩
end
end L2.DL

/-! DL26: zip(t, u) of tuples -/
namespace L2.DL
open PySem PySem.Spec PyProof.Rows
def zipD (xs ys : List D) : List D := List.zipWith (fun x y => .tup [x, y]) xs ys
def wZip (t : WA) : WI := fun sd S R => t sd S fun xs S1 => two2 xs fun d1 d2 => ∃ ys zs, asTup d1 = some ys ∧ asTup d2 = some zs ∧ R ⟨zipD ys zs, fun _ => True⟩ S1
/-! steps -/
section
variable {sd : SD} {S : SO} {R : ItD → SO → Prop} {t : WA} {xs ys : List D} {d e : D}
def ZipK (d1 d2 : D) (R : List D → Prop) : Prop := ∃ ys zs, asTup d1 = some ys ∧ asTup d2 = some zs ∧ R (zipD ys zs)
theorem xZip (h : t sd S fun xs S1 => two2 xs fun d1 d2 => ZipK d1 d2 fun l => R ⟨l, fun _ => True⟩ S1) : wZip t sd S R := h
end
end L2.DL

/-! DL27: f-strings, the truth of own instances, makings by keyword and with a default of the top, own == with values of any kind -/
namespace L2.DL
open PySem PySem.Spec PyProof.Rows
section
variable {X : Cx}
/-! ### f-strings -/
/-! ### the truth of an own instance that has __len__ -/
variable {CX : CXT} {k : Nat} {g f C : Addr} {fd : FuncData} {ps ks : List Str} {dsp : DSp}
/-! ### C(k = v, ..), all parameters by keyword -/
/-! ### C(..) with a default that the top has written -/
def LitsK (K : PySem.W.Frag) (dds : List D) (dvs : List V) : Prop := ∀ S H, Rels K S H dds dvs
theorem litsK_unit {K : PySem.W.Frag} {a : Addr} (h : KTup K a []) : LitsK K [.kt []] [.ref a] := fun S H => ⟨_, _, rfl, ⟨a, [], rfl, h, rfl⟩, rfl⟩
theorem de_makeFd {e : Expr} {es : List Expr} {wt : WA} {x : Str} {p pos : Pos} {ds : List Value} {dvs : List V} {dds : List D} (M : Mk X.K C f) (F : FnD X.prog X.w X.K X.mg X.base k f fd ps dsp) (hr : Room (k + 1) X.A) (gd : X.A.guards = some []) (hm : X.mg x = some (.ref C)) (hb : Binds X.K fd ps ds) (hd : Vals dvs ds) (hl : LitsK X.K dds dvs) (ha : DA X (e :: es) wt) (hg : Gl X x := by rfl)
    (hdb : (x == ("__debug__" : Str)) = false := by decide) (he : starEach (e :: es) X.env = (false, eval e X.env) :: starEach es X.env := by rfl) (hpl : (backTo pos (starEach es X.env)).any (·.1) = false := by rfl) : DE X (.Call (.Name x p) (e :: es) [] pos) (wMakeF C dsp dds wt) :=
  pe_imp (peG_make M F hr gd hg hm hb hd (E := E0) pass0 ha hdb he hpl) fun σ H Q ⟨sd, S, Q0, st, q, an⟩ => ⟨sd, S, _, st, q, fun xs S1 vs H1 q1 n1 s1 r1 => fun y dx ny nd ne => by
    obtain ⟨n2, s2⟩ := make_srel (C := C) s1 ny nd ne
    refine ⟨.obj y :: (xs ++ dds), _, _, NoE, s2, ⟨.ref y, _, rfl, rfl, (r1.nx n2).app (hl _ _)⟩, q1 y (s1.free ny), fun d S3 v H3 ⟨e1, fs, hS, q3⟩ n3 s3 r3 => ?_, noE_ans⟩
    subst e1
    obtain ⟨n4, s4, r4⟩ := frz_ins s3 hS
    exact ⟨r3, an _ _ _ _ q3 (n1.trans (n2.trans (n3.trans n4))) s4 r4⟩⟩

/-! ### own == with a value of any kind -/
end
end L2.DL

/-! DL28: list.pop(i), tuple.count(x) of texts -/
namespace L2.DL
open PySem PySem.Spec PyProof.Rows
section
variable {X : Cx}
theorem Rels.erase {K : PySem.W.Frag} {S : SO} {H : Hp} : ∀ {ds : List D} {vs : List V} (k : Nat), Rels K S H ds vs → Rels K S H (ds.eraseIdx k) (vs.eraseIdx k)
  | [], _, k, h => by
    have e : _ = [] := h
    subst e
    rfl
  | d :: ds, _, 0, h => by
    obtain ⟨v, r, rfl, _, h2⟩ := h
    exact h2
  | d :: ds, _, k + 1, h => by
    obtain ⟨v, r, rfl, h1, h2⟩ := h
    exact ⟨v, r.eraseIdx k, rfl, h1, h2.erase k⟩
end
end L2.DL

/-! DL29: xs[::-1] of lists, list(range(n)) -/
namespace L2.DL
open PySem PySem.Spec PyProof.Rows
section
variable {X : Cx}
end
end L2.DL

/-! DL30: a, b = a list -/
namespace L2.DL
open PySem PySem.Spec PyProof.Rows
section
variable {X : Cx} {pos : Pos}
def gTl (n : Nat) (r : WGs) : WG := fun d sd S Q => ∃ xs, lstX S d = some xs ∧ xs.length = n ∧ r xs sd S Q
theorem xGTl {n : Nat} {r : WGs} {xs : List D} {sd : SD} {S : SO} {Q : SD → SO → Prop} (h : r xs sd S Q) (hl : xs.length = n := by with_unfolding_all rfl) : gTl n r (.lst xs) sd S Q := ⟨xs, rfl, hl, h⟩
end
end L2.DL

/-! DL31: name = {k: v for ..}, stored within the comprehension -/
namespace L2.DL
open PySem PySem.Spec PyProof.Rows
section
variable {X : Cx}
theorem sw_trueD {kx vx : Expr} {gs : List Comprehension} {scope : Scope} {pos py : Pos} {y : Str} {l : Nat} {env : Env} (hk : env.scope.kind = .function) (hy : env.scope.names.lookup y = some .local) (hl : (py.line == pos.line) = true)
    (ha : (scope.names.any fun (n, k) => n == y && (k == .local || k == .cell)) = false) : swapsWith (.DictComp kx vx gs scope pos) (some (.Name y py)) l env = pure true := by
  have ky : env.kindOf y = some .local := hy
  have hb : env.blockKind = .function := by unfold Env.blockKind; rw [hk]; rfl
  unfold swapsWith
  simp only [hb, ky, ha, Expr.pos, hl]
  rfl
theorem ps_setDc {t : Bool} {i : Nat} {y : Str} {py : Pos} {kx vx tg iter : Expr} {ifs : List Expr} {scope : Scope} {own : List (Str × Nat)} {pos spos : Pos} {wi : TI} {g : TG} {tt : TT} {tk tv : TE} (hu : X.A.units + 65 < cLine) (hc : X.calm = true) (hN : X.N.Nodup) (hy : X.N[i]? = some y) (hyl : X.env.scope.names.lookup y = some .local)
    (hsw : swapsWith (.DictComp kx vx [⟨tg, iter, ifs, 0⟩] scope pos) (some (.Name y py)) spos.line X.env = pure true) (hi : PI X tg iter wi) (ok : BlkOk X.N X.env.scope scope own)
    (hg : Blk X scope fun Y => PG Y tg g) (ht : Blk X scope fun Y => PTs Y ifs tt) (hk : Blk X scope fun Y => PE Y kx tk) (he : Blk X scope fun Y => PE Y vx tv) (hs : ∀ x, foldedSetIterable iter X.env x = pure x) :
    PS X (.Assign [.Name y py] (.DictComp kx vx [⟨tg, iter, ifs, 0⟩] scope pos) spos) (tAsg (tDcG t wi g tt tk tv (own.map (·.2))) (gName i)) := by
  refine ⟨fun pins s σ H D I h => ?_⟩
  rw [exec_Assign_Name_used _ _ _ _ hsw]
  refine wpAny_bind (wpAny_standAt (wpAny_bind ?_))
  show wpAny _ X.A (do let _ ← comprehension (.DictComp kx vx [⟨tg, iter, ifs, 0⟩] scope pos) scope X.env (firstIterPos [⟨tg, iter, ifs, 0⟩] pos) newDict false (eval iter X.env) (some (assign (.Name y py) X.env))) _ _ s
  have h : tDcG t wi g tt tk tv (own.map (·.2)) σ H (fun x H1 => gName i x σ H1 D.nx) := h
  refine wpAny_bind (thn (dcG_core (Qf := fun _ s' => SP X pins D .next s') hu hc hN I hi ok hg ht hk he hs h fun L C s' m H' I' q hn f => ?_) fun _ s' hq => wpAny_pure (wpAny_pure hq))
  show wpAny _ _ (assign (.Name y py) X.env (.ref L)) _ _ _
  refine wpAny_assign_Name (store_ok2 (v := V.ref L) I' hN hy (.inl hyl) rfl (fun s2 I2 ⟨a, sb, ha⟩ => ?_) (.inr hyl))
  obtain ⟨f0, f1, f2, f3, f4, f5⟩ := f
  have haC : C ≠ a := by
    rcases ha with z | z
    · rw [z]; exact f1
    · exact fun e => f4 y a z e.symm
  refine ⟨m, hn.sameBut sb haC, fun h3 sb3 => ?_⟩
  exact ⟨_, H', I2.turned (t' := s2.toks) (fun b o hb e => (sb3.2 b hb).trans e) f0 f1 f3 f4 f5, q⟩
end
end L2.DL

/-! DL32: str(int); what a class's == must know of other kinds -/
namespace L2.DL
open PySem PySem.Spec PyProof.Rows
section
variable {X : Cx}
end
end L2.DL

/-! DL33: + of tuples made here or there, neither empty -/
namespace L2.DL
open PySem PySem.Spec PyProof.Rows
section
variable {X : Cx}
end
end L2.DL

/-! DL34: a list of anything != [] -/
namespace L2.DL
open PySem PySem.Spec PyProof.Rows
section
variable {X : Cx}
end
end L2.DL

/-! DL35: list.remove(number); a statement behind which an object is frozen or forgotten -/
namespace L2.DL
open PySem PySem.Spec PyProof.Rows
section
variable {X : Cx}
/-! ### frozen, forgotten behind a statement -/
structure Wk (sd : SD) (S : SO) (sd0 : SD) (S0 : SO) : Prop where
  sub : ∀ a, S a = none → S0 a = none
  sta : ∀ K σ H, Sta K sd S σ H → Sta K sd0 S0 σ H
theorem Wk.refl (sd : SD) (S : SO) : Wk sd S sd S := ⟨fun _ h => h, fun _ _ _ h => h⟩
theorem Wk.trans {sd sd1 sd2 : SD} {S S1 S2 : SO} (a : Wk sd S sd1 S1) (b : Wk sd1 S1 sd2 S2) : Wk sd S sd2 S2 := ⟨fun x h => b.sub x (a.sub x h), fun K σ H h => b.sta K σ H (a.sta K σ H h)⟩
def SlF (p : Addr) (ds : List D) : SD → SD → Prop
  | [], [] => True
  | a :: as, b :: bs => (b = a ∨ b = none ∨ (a = some (.obj p) ∧ b = some (.lst ds))) ∧ SlF p ds as bs
  | _, _ => False
theorem SlF.len {p : Addr} {ds : List D} : ∀ {a b : SD}, SlF p ds a b → b.length = a.length
  | [], [], _ => rfl
  | _ :: as, _ :: bs, h => by rw [List.length_cons, List.length_cons, SlF.len h.2]
  | [], _ :: _, h => h.elim
  | _ :: _, [], h => h.elim
theorem SlF.get {p : Addr} {ds : List D} : ∀ {a b : SD} {i : Nat} {d : D}, SlF p ds a b → b[i]? = some (some d) → a[i]? = some (some d) ∨ (a[i]? = some (some (.obj p)) ∧ d = .lst ds)
  | [], [], i, d, _, e => by simp at e
  | x :: as, y :: bs, 0, d, h, e => by
    have e : y = some d := Option.some.inj e
    rcases h.1 with h1 | h1 | ⟨h1, h2⟩
    · exact .inl (by rw [← h1, e]; rfl)
    · rw [h1] at e
      cases e
    · rw [h2] at e
      cases e
      exact .inr ⟨by rw [h1]; rfl, rfl⟩
  | x :: as, y :: bs, i + 1, d, h, e => SlF.get (i := i) h.2 e
  | [], _ :: _, _, _, h, _ => h.elim
  | _ :: _, [], _, _, h, _ => h.elim
theorem Wk.lst {sd sd0 : SD} {S : SO} {p : Addr} {ds : List D} (h : S p = some (.lst ds)) (hs : SlF p ds sd sd0) : Wk sd S sd0 (S.del p) := by
  refine ⟨fun a e => by unfold SO.del; split; rfl; exact e, fun K σ H st => ?_⟩
  obtain ⟨n, s2, r2⟩ := frz_lst st.s h
  refine ⟨s2, hs.len.trans st.r.1, fun i d e => ?_⟩
  rcases hs.get e with e1 | ⟨e1, rfl⟩
  · obtain ⟨v, e', r⟩ := st.r.2 i d e1
    exact ⟨v, e', Rel.nx n _ _ r⟩
  · obtain ⟨v, e', r⟩ := st.r.2 i _ e1
    have er : v = .ref p := r
    subst er
    exact ⟨_, e', r2⟩
/-- objects are forgotten -/
theorem Wk.to {sd : SD} {S S0 : SO} (h : ∀ a o, S0 a = some o → S a = some o) : Wk sd S sd S0 := by
  have sub : ∀ a, S a = none → S0 a = none := fun a e => by
    cases q : S0 a with
    | none => rfl
    | some o =>
      rw [h a o q] at e
      cases e
  refine ⟨sub, fun K σ H st => ?_⟩
  have n : Nx S H S0 H := fun a u h1 h2 => ⟨sub a h1, h2⟩
  exact st.nx n fun a o q => (st.s a o (h a o q)).nx n rfl
def ClS (n : SD → SO → Prop) : SD → SO → Prop := fun sd' S' => ∃ sd0 S0, Wk sd' S' sd0 S0 ∧ n sd0 S0
def wCl (w : WS) : WS := fun E sd S => w { E with nx := ClS E.nx } sd S
theorem xCl {a : WS} {n bk ct : SD → SO → Prop} {r : KD} {sd : SD} {S : SO} (h : a ⟨ClS n, r, bk, ct⟩ sd S) : wCl a ⟨n, r, bk, ct⟩ sd S := h
/-! a typed while -/
section
variable {σ : Type} {c : WT} {b : WS} {n bk ct : SD → SO → Prop} {r : KD} {sd : SD} {S : SO}
def WTurn (st : σ → SD) (so : σ → SO) (Iv : σ → Prop) (mu : σ → Nat) (m : Nat) : SD → SO → Prop := fun sd S => ∃ a, sd = st a ∧ S = so a ∧ Iv a ∧ mu a < m
theorem WTurn.of {st : σ → SD} {so : σ → SO} {Iv : σ → Prop} {mu : σ → Nat} {m : Nat} (a : σ) (hv : Iv a) (hm : mu a < m) (h1 : sd = st a := by rfl) (h2 : S = so a := by rfl) : WTurn st so Iv mu m sd S := ⟨a, h1, h2, hv, hm⟩
theorem whileJ (st : σ → SD) (so : σ → SO) (Iv : σ → Prop) (mu : σ → Nat) (a0 : σ) (h0 : Iv a0)
    (ht : ∀ a, Iv a → c (st a) (so a) fun k S1 => if k = true then b ⟨WTurn st so Iv mu (mu a), r, n, WTurn st so Iv mu (mu a)⟩ (st a) S1 else n (st a) S1) (hs : sd = st a0 := by rfl) (hS : S = so a0 := by rfl) : wWhile c b ⟨n, r, bk, ct⟩ sd S := by
  subst hs hS
  refine ⟨fun m sd S => ∃ a, sd = st a ∧ S = so a ∧ Iv a ∧ mu a = m, ⟨mu a0, a0, rfl, rfl, h0, rfl⟩, ?_⟩
  rintro m sd S ⟨a, rfl, rfl, hv, rfl⟩
  have e : WTurn st so Iv mu (mu a) = fun sd' S' => ∃ m', m' < mu a ∧ ∃ a, sd' = st a ∧ S' = so a ∧ Iv a ∧ mu a = m' := by
    funext sd' S'
    refine propext ⟨fun ⟨a', h1, h2, h3, h4⟩ => ⟨_, h4, a', h1, h2, h3, rfl⟩, fun ⟨m', h4, a', h1, h2, h3, h5⟩ => ⟨a', h1, h2, h3, by omega⟩⟩
  have z := ht a hv
  rw [e] at z
  exact z
end
end
end L2.DL

/-! DL36: list * n as a list that changes; list.count(None) -/
namespace L2.DL
open PySem PySem.Spec PyProof.Rows
section
variable {X : Cx}
/-! numbers or None -/
def onD : Option Nat → D
  | none => .non
  | some i => .int (i : Nat)
instance : InjD onD := ⟨fun a b e => by
  cases a <;> cases b
  · rfl
  · cases e
  · cases e
  · unfold onD at e
    injection e with e
    congr 1
    omega⟩
end
end L2.DL

/-! DL37: + of tuples, neither empty, the sum laid as .tf -/
namespace L2.DL
open PySem PySem.Spec PyProof.Rows
section
variable {X : Cx}
def oAddF : WO := fun x y S Q => ∃ a b, asTup x = some a ∧ asTup y = some b ∧ a ≠ [] ∧ b ≠ [] ∧ a.length + b.length ≤ 1000000 ∧ Q (.tf (a ++ b)) S
theorem do_addF : DO2 X (binaryOp .Add) oAddF := by
  intro pins s σ H x y v u Q I rx ry ⟨dx, dy, S, Q0, sr, r1, r2, ⟨a, b, h1, h2, na, nb, hl, q⟩, an⟩
  obtain ⟨p1, vs, e1, t1, rv⟩ := asTup_at r1 h1
  obtain ⟨p2, us, e2, t2, ru⟩ := asTup_at r2 h2
  subst e1 e2
  cases rx
  cases ry
  have rvu := rv.app ru
  have l1 := rv.length
  have l2 := ru.length
  have hz : vs.length + us.length ≤ sizeLine := by rw [← l1, ← l2]; exact le_line hl
  obtain ⟨its, w1, t1, _⟩ := I.tuple t1
  obtain ⟨its2, w2, t2, _⟩ := I.tuple t2
  have n1 : vs ≠ [] := fun e => na (by subst e; exact List.length_eq_zero_iff.mp l1)
  have n2 : us ≠ [] := fun e => nb (by subst e; exact List.length_eq_zero_iff.mp l2)
  have hf := I.hok.fresh (Nat.le_refl _)
  refine HT.cat_tup t1 t2 (fun z => n1 (w1.nil_iff.mp z)) (fun z => absurd (w2.nil_iff.mp z) n2) (fun z => ?_) (by rw [← w1.length, ← w2.length]; exact hz)
  refine ⟨.ref s.heap.objs.size, _, I.laid (t' := s.toks) (o := .frz { cls := .type "tuple", data := .seq (its ++ its2).toArray } (.tup (vs ++ us))) (fun b ob q => Heap.get?_push_of_some _ q) (Nat.le_refl _) ?_, rfl, an _ _ _ _ q (nx_new hf) (sr.new hf) ⟨_, vs ++ us, rfl, ⟨sr.free hf, _, upd_same, rfl, rfl⟩, rvu.nx (nx_new hf)⟩⟩
  exact ⟨Heap.get?_push_size _ rfl, by rw [List.length_append]; exact hz, _, w1.append w2, by have := IsTup.new s.heap (its ++ its2).toArray; simpa using this⟩
end
end L2.DL

/-! DL38: list.extend -/
namespace L2.DL
open PySem PySem.Spec PyProof.Rows
section
variable {X : Cx}
end
end L2.DL

/-! DL39: dict.update(dict) -/
namespace L2.DL
open PySem PySem.Spec PyProof.Rows
section
variable {X : Cx}
theorem RelK.merge {K : PySem.W.Frag} {S : SO} {H : Hp} : ∀ {ys : List (D × D)} {l2 : List (Key × V)} {kvs : List (D × D)} {l : List (Key × V)}, RelK K S H ys l2 → RelK K S H kvs l → RelK K S H (dputsL kvs ys) (mergeK l l2)
  | [], l2, kvs, l, h, h' => by
    have e : l2 = [] := h
    subst e
    exact h'
  | (k, d) :: ys, l2, kvs, l, h, h' => by
    obtain ⟨q, v, r, rfl, hk, h1, h2⟩ := h
    subst hk
    show RelK K S H (dputsL (dput kvs (keyD q) d) ys) (mergeK (putK l q v) r)
    exact RelK.merge (ys := ys) (l2 := r) h2 (h'.put h1)
theorem RelK.len {K : PySem.W.Frag} {S : SO} {H : Hp} : ∀ {ys : List (D × D)} {l : List (Key × V)}, RelK K S H ys l → ys.length = l.length
  | [], l, h => by
    have e : l = [] := h
    subst e
    rfl
  | (k, d) :: ys, l, h => by
    obtain ⟨q, v, r, rfl, _, _, h2⟩ := h
    rw [List.length_cons, List.length_cons, RelK.len h2]
end
end L2.DL

/-! DL40: tuple * int -/
namespace L2.DL
open PySem PySem.Spec PyProof.Rows
section
variable {X : Cx}
def oMulT : WO := fun x y S Q => ∃ xs k, x = .tup xs ∧ y = .int k ∧ xs ≠ [] ∧ 2 ≤ k ∧ k ≤ 1000 ∧ xs.length ≤ 1000 ∧ Q (.tup (List.replicate k.toNat xs).flatten) S
theorem do_mulT : DO2 X (binaryOp .Mult) oMulT := by
  intro pins s σ H x y v u Q I rx ry ⟨dx, dy, S, Q0, sr, r1, r2, q, an⟩
  obtain ⟨xs, k, rfl, rfl, h0, h1, h2, h3, q⟩ := q
  obtain ⟨a, vs, e1, t1, rv⟩ := asTup_at r1 rfl
  have e2 : y = .int k := r2
  have hl := rv.length
  refine op_repT pins s σ H x y v u Q I rx ry ⟨a, k, vs, e1, e2, t1, fun e => ?_, h1, h2, by omega, fun p hp => ?_⟩
  · subst e
    exact h0 (List.length_eq_zero_iff.mp hl)
  · exact an _ _ _ _ q (nx_new hp) (sr.new hp) ⟨p, _, rfl, ⟨sr.free hp, upd_same⟩, (rv.rep _).nx (nx_new hp)⟩
end
end L2.DL

/-! DL41: sorted(set(xs)) of texts, of ints -/
namespace L2.DL
open PySem PySem.Spec PyProof.Rows
/-- the elements of a set, by keys of one kind -/
structure SK (P : Program) (w : World) (K : Type) [DecidableEq K] where
  κ : PySem.KeyKind P w K
  val : K → Tok → Value
  key : Value → K
  keyV : ∀ k t, key (val k t) = k
  isV : ∀ k t, κ.is k (val k t) = true
  scn : ∀ k t, (val k t).scannable = true
section
variable {P : Program} {w : World} {K : Type} [DecidableEq K] {Z : SK P w K}
theorem SK.is_iff (Z : SK P w K) {k j : K} {u : Tok} : Z.κ.is j (Z.val k u) = true ↔ k = j := by
  rw [PySem.KeyKind.is_eq_decide (Z.isV k u) j, decide_eq_true_iff]
  exact eq_comm
abbrev SEs := Array (Int × Value)
def SK.keys (Z : SK P w K) (l : SEs) : List K := l.toList.map fun e => Z.key e.2
/-- the payload holds the keys of M, n of them, and can be walked -/
structure SK.Tb (Z : SK P w K) (l : SEs) (t : SetTable) (M : K → Bool) (n : Nat) : Prop where
  el : ∀ e ∈ l.toList, ∃ k u, e = (Z.κ.hash k, Z.val k u)
  nd : (Z.keys l).Nodup
  mem : ∀ k, M k = true ↔ k ∈ Z.keys l
  fit : t.fits l.size = true
  sz : l.size = n
  ris : Ris t.place.toList
  led : w.params.followText "set-order" = true ∨ t.led = true
theorem SK.Tb.mv {l l2 : SEs} {t t2 : SetTable} {M : K → Bool} {n : Nat} (T : Z.Tb l t M n) (p : List.Perm l2.toList l.toList) (hf : t2.fits l2.size = true) (hr : Ris t2.place.toList) (hl : t2.led = t.led) : Z.Tb l2 t2 M n :=
  ⟨fun e he => T.el e (p.mem_iff.mp he), (p.map _).nodup_iff.mpr T.nd, fun k => (T.mem k).trans (p.map _).mem_iff.symm, hf, by rw [← T.sz, ← Array.length_toList, p.length_eq, Array.length_toList], hr, hl ▸ T.led⟩
theorem SK.Tb.add {l l2 : SEs} {t t2 : SetTable} {M : K → Bool} {n : Nat} {k : K} {u : Tok} (T : Z.Tb l t M n) (hk : M k = false) (p : List.Perm l2.toList ((Z.κ.hash k, Z.val k u) :: l.toList)) (hf : t2.fits l2.size = true) (hr : Ris t2.place.toList) (hl : t2.led = t.led) : Z.Tb l2 t2 (fun j => M j || decide (j = k)) (n + 1) := by
  have pk : (Z.keys l2).Perm (k :: Z.keys l) := by
    have := p.map fun e => Z.key e.2
    rwa [List.map_cons, Z.keyV] at this
  have hn : k ∉ Z.keys l := fun h => by
    rw [(T.mem k).mpr h] at hk
    cases hk
  refine ⟨fun e he => ?_, pk.nodup_iff.mpr (List.nodup_cons.mpr ⟨hn, T.nd⟩), fun j => ?_, hf, ?_, hr, hl ▸ T.led⟩
  · rcases List.mem_cons.mp (p.mem_iff.mp he) with h | h
    · exact ⟨k, u, h⟩
    · exact T.el e h
  · rw [pk.mem_iff, List.mem_cons, Bool.or_eq_true, decide_eq_true_iff, T.mem j, or_comm]
  · rw [← T.sz, ← Array.length_toList, p.length_eq, List.length_cons, Array.length_toList]
theorem SK.Tb.elems {l : SEs} {t : SetTable} {M : K → Bool} {n : Nat} (T : Z.Tb l t M n) : ElemsOf Z.κ l.toList := fun e he => by
  obtain ⟨k, u, rfl⟩ := T.el e he
  exact ⟨⟨k, Z.isV k u, rfl⟩, Z.scn k u⟩
theorem SK.Tb.has {l : SEs} {t : SetTable} {M : K → Bool} {n : Nat} (T : Z.Tb l t M n) (k : K) : M k = true ↔ ∃ e ∈ l.toList, Z.κ.is k e.2 = true := by
  rw [T.mem k]
  unfold SK.keys
  rw [List.mem_map]
  constructor
  · rintro ⟨e, he, h⟩
    obtain ⟨j, u, rfl⟩ := T.el e he
    have h : Z.key (Z.val j u) = k := h
    rw [Z.keyV] at h
    exact ⟨_, he, Z.is_iff.mpr h⟩
  · rintro ⟨e, he, h⟩
    obtain ⟨j, u, rfl⟩ := T.el e he
    exact ⟨_, he, (Z.keyV j u).trans (Z.is_iff.mp h)⟩
/-- the set at a -/
def SK.Is (Z : SK P w K) (h : Heap) (a : Addr) (M : K → Bool) (n : Nat) : Prop := ∃ o l ep t, h.get? a = some o ∧ o.ExactSet ∧ o.data = .set l ep t ∧ Z.Tb l t M n
theorem SK.Is.at {h h' : Heap} {a : Addr} {M : K → Bool} {n : Nat} (R : Z.Is h a M n) (k : ∀ o, h.get? a = some o → h'.get? a = some o) : Z.Is h' a M n := by
  obtain ⟨o, l, ep, t, g, r⟩ := R
  exact ⟨o, l, ep, t, k o g, r⟩
theorem SK.Is.eqv {h : Heap} {a : Addr} {M M' : K → Bool} {n : Nat} (R : Z.Is h a M n) (e : ∀ k, M' k = M k) : Z.Is h a M' n := (funext e : M' = M) ▸ R
variable {A : Around} {E : Value → Shared → Prop} {s : Shared} {a : Addr} {M : K → Bool} {n : Nat}
theorem put_at {h : Heap} {o : Obj} {l l2 : SEs} {ep : Nat} {t t2 : SetTable} (g : h.get? a = some o) (e : o.data = .set l ep t) : (h.update a (Obj.putSet l2 t2)).get? a = some { o with data := .set l2 (ep + 1) t2 } := by
  rw [← putSet_of l2 t2 e]
  exact Heap.get?_update_self (Obj.putSet l2 t2) g (by rw [putSet_of l2 t2 e]; rfl)
theorem SK.tail {g : Bool → Sem Unit} (hg : ∀ (b : Bool) (s1 : Shared) (Q1 : Unit → Shared → Prop), Q1 () s1 → wpAny (model P w) A (g b) Q1 E s1) {o : Obj} {l0 l : SEs} {ep : Nat} {t0 t : SetTable} (h1 : s.heap.get? a = some o) (h2 : o.ExactSet) (h3 : o.data = .set l0 ep t0)
    (T : Z.Tb l t M n) (hb : n < scanBound) {wd : Bool} {R : Option Bool → Shared → Prop} (hR : ∀ h', Heap.SameBut a s.heap h' → Z.Is h' a M n → R (some true) { s with heap := h' }) :
    wpAny (model P w) A (storeSet a l t >>= fun _ => if (!wd && t.tooFull) = true then g (relayAll t l (SetTable.grown l.size)).2.2 >>= fun _ => storeSet a (relayAll t l (SetTable.grown l.size)).1 (relayAll t l (SetTable.grown l.size)).2.1 >>= fun _ => pure (some true) else pure (some true)) R E s := by
  have few : ∀ {l2 : SEs}, l2.size = n → l2.size < scanBound := fun e => e ▸ hb
  refine wpAny_bind (wpAny_storeSet_of h1 h3 ?_ (fits_of_scanBound (few T.sz)))
  have g1 := put_at (l2 := l) (t2 := t) h1 h3
  have b1 := Heap.SameBut.update s.heap a (Obj.putSet l t)
  by_cases c : (!wd && t.tooFull) = true
  · rw [if_pos c]
    have T2 : Z.Tb (relayAll t l (SetTable.grown l.size)).1 (relayAll t l (SetTable.grown l.size)).2.1 M n := T.mv (relayAll_perm ..) (relayAll_fits ..) (relayAll_ris ..) (relayAll_led ..)
    refine wpAny_bind (hg _ _ _ (wpAny_bind (wpAny_storeSet_of g1 rfl ?_ (fits_of_scanBound (few T2.sz)))))
    exact wpAny_pure (hR _ (b1.trans (Heap.SameBut.update _ a _)) ⟨_, _, _, _, put_at g1 rfl, h2, rfl, T2⟩)
  · rw [if_neg c]
    exact wpAny_pure (hR _ b1 ⟨_, _, _, _, g1, h2, rfl, T⟩)
theorem SK.put {k : K} {u : Tok} {Q : Bool → Shared → Prop} (R : Z.Is s.heap a M n) (room : n + 1 < scanBound)
    (hQ : ∀ h', Heap.SameBut a s.heap h' → Z.Is h' a (fun j => M j || decide (j = k)) (if M k = true then n else n + 1) → Q (!M k) { s with heap := h' }) : wpAny (model P w) A (setAddHashed a (Z.val k u) (Z.κ.hash k)) Q E s := by
  obtain ⟨o, l, ep, t, h1, h2, h3, T⟩ := R
  have hb : l.size < scanBound := by rw [T.sz]; omega
  have quiet : ∀ (b : Bool) (s1 : Shared) (Q1 : Unit → Shared → Prop), Q1 () s1 → wpAny (model P w) A (match b with | true => rule "set.scan.the-table-gave-way" | false => pure ()) Q1 E s1 := fun b s1 Q1 q => by
    cases b
    · exact wpAny_pure q
    · exact wpAny_rule q
  unfold setAddHashed setAddHashedIn
  refine wpAny_holding (wpAny_bind (wpAny_setState_of h1 h3 T.fit ?_))
  dsimp only
  rw [byScan_of (Z.scn k u) hb T.elems]
  simp only [↓reduceIte]
  unfold setAddByScan
  refine wpAny_bind (wpAny_bind (wpAny_rule (wpAny_bind (wpAny_setScan_of (Z.isV k u) h1 h3 T.fit T.elems ?_))))
  cases hM : M k with
  | true =>
    obtain ⟨e, he, hi⟩ := (T.has k).mp hM
    cases f : List.findIdx? (fun e => Z.κ.is k e.2) l.toList with
    | none =>
      have := List.findIdx?_eq_none_iff.mp f e he
      rw [hi] at this
      cases this
    | some j =>
      dsimp only
      have q := hQ s.heap (Heap.SameBut.refl a s.heap) (by
        rw [if_pos hM]
        refine SK.Is.eqv ⟨o, l, ep, t, h1, h2, h3, T⟩ fun j => ?_
        by_cases c : j = k
        · subst c
          rw [hM]
          rfl
        · rw [decide_eq_false c, Bool.or_false])
      rw [hM] at q
      exact wpAny_pure (wpAny_pure q)
  | false =>
    cases f : List.findIdx? (fun e => Z.κ.is k e.2) l.toList with
    | some j =>
      obtain ⟨hj, pj, _⟩ := List.findIdx?_eq_some_iff_getElem.mp f
      have := (T.has k).mpr ⟨_, List.getElem_mem hj, pj⟩
      rw [hM] at this
      cases this
    | none =>
      dsimp only
      have pm := layNew_perm t l (Z.κ.hash k) (Z.val k u)
      rw [Array.toList_push] at pm
      have T2 : ∀ t2 : SetTable, t2.fits (layNew t l (Z.κ.hash k) (Z.val k u)).1.size = true → t2.place = (layNew t l (Z.κ.hash k) (Z.val k u)).2.1.place → t2.led = (layNew t l (Z.κ.hash k) (Z.val k u)).2.1.led → Z.Tb (layNew t l (Z.κ.hash k) (Z.val k u)).1 t2 (fun j => M j || decide (j = k)) (n + 1) := fun t2 f p e =>
        T.add hM (pm.trans (List.perm_append_singleton _ _)) f (p ▸ layNew_ris t l (Z.κ.hash k) (Z.val k u) T.ris) (e.trans (layNew_led t l (Z.κ.hash k) (Z.val k u)))
      have f1 := layNew_fits t l (Z.κ.hash k) (Z.val k u)
      have fin : ∀ h', Heap.SameBut a s.heap h' → Z.Is h' a (fun j => M j || decide (j = k)) (n + 1) → Q true { s with heap := h' } := fun h' sb r => by
        have q := hQ h' sb
        rw [hM] at q
        exact q r
      generalize layNew t l (Z.κ.hash k) (Z.val k u) = N at T2 f1 ⊢
      obtain ⟨l1, t1, wd, gave⟩ := N
      dsimp only at T2 f1 ⊢
      refine wpAny_bind (quiet _ _ _ ?_)
      have last : ∀ h', Heap.SameBut a s.heap h' → Z.Is h' a (fun j => M j || decide (j = k)) (n + 1) → wpAny (model P w) A (match some true with | some added => pure added | none => setAddHashedIn a (Z.val k u) (Z.κ.hash k) 99999) Q E { s with heap := h' } := fun h' sb r => wpAny_pure (fin h' sb r)
      split
      · refine wpAny_bind ?_
        rw [hashByValue_scannable 8 (Z.scn k u)]
        refine wpAny_pure (SK.tail (fun b s1 Q1 q => ?_) h1 h2 h3 (M := fun j => M j || decide (j = k)) (n := n + 1) ?_ room fun h' sb r => last h' sb r)
        · cases b
          · exact wpAny_pure q
          · exact wpAny_rule q
        · split
          · exact T2 _ f1 rfl rfl
          · exact T2 _ (SetTable.fits_plain_off f1) rfl rfl
      · refine wpAny_bind (wpAny_pure ?_)
        simp only [↓reduceIte]
        refine SK.tail (fun b s1 Q1 q => ?_) h1 h2 h3 (T2 _ f1 rfl rfl) room fun h' sb r => last h' sb r
        cases b
        · exact wpAny_pure q
        · exact wpAny_rule q
abbrev obS (w : World) : Obj := { cls := .type "set", dict := none, data := .set #[] 0 (.fresh 0 0 (!w.params.followText "set-order")) }
theorem SK.fresh {h : Heap} {ks : List K} (g : h.get? a = some (obS w)) : Z.Is h a (fun j => decide (j ∈ ks.take 0)) 0 :=
  ⟨_, #[], 0, _, g, ⟨rfl, rfl, rfl⟩, rfl, ⟨fun e he => by simp at he, List.nodup_nil, fun k => by simp [SK.keys], rfl, rfl, .nil, by
    cases c : w.params.followText "set-order"
    · exact .inr rfl
    · exact .inl rfl⟩⟩
end
end L2.DL

/-! DL42: sorted(set(xs)) as a rule -/
namespace L2.DL
open PySem PySem.Spec PyProof.Rows
section
variable {X : Cx} {K : Type} [DecidableEq K]
end
end L2.DL

/-! DL43: len(set(t)), t a tuple of texts -/
namespace L2.DL
open PySem PySem.Spec PyProof.Rows
section
variable {P : Program} {w : World} {K : Type} [DecidableEq K] {Z : SK P w K} {A : Around} {E : Value → Shared → Prop} {s : Shared} {a : Addr} {M : K → Bool} {n : Nat}
theorem SK.Is.count {h : Heap} {ks : List K} (R : Z.Is h a (fun j => decide (j ∈ ks)) n) (nd : ks.Nodup) : n = ks.length := by
  obtain ⟨o, l, ep, t, _, _, _, T⟩ := R
  have pm : (Z.keys l).Perm ks := (List.perm_ext_iff_of_nodup T.nd nd).mpr fun k => (T.mem k).symm.trans decide_eq_true_iff
  have := pm.length_eq
  unfold SK.keys at this
  rw [List.length_map, Array.length_toList, T.sz] at this
  exact this
end
section
variable {X : Cx} {K : Type} [DecidableEq K]
end
end L2.DL

/-! DL44: dict(zip(ks, xs)) of two lists, the keys texts -/
namespace L2.DL
open PySem PySem.Spec PyProof.Rows
section
variable {K : PySem.W.Frag} {S : SO} {H : Hp}
theorem relk_zip : ∀ {ks : List Str} {ds : List D} {vs : List V} {acc : List (D × D)} {m : List (Key × V)}, Rels K S H ds vs → RelK K S H acc m → RelK K S H (dputsL acc ((ks.map D.str).zip ds)) (mergeK m ((ks.map fun k => (.inr k : Key)).zip vs))
  | [], ds, vs, acc, m, _, h => h
  | k :: ks, [], vs, acc, m, r, h => by
    have e : vs = [] := r
    subst e
    exact h
  | k :: ks, d :: ds, vs, acc, m, r, h => by
    obtain ⟨v, vs, rfl, r1, r2⟩ := r
    exact relk_zip (ks := ks) r2 (h.put (q := .inr k) r1)
end
theorem kv_zip : ∀ {ks : List Str} {vs : List V} {us : List Value}, Vals vs us → KV ((ks.map fun k => (.inr k : Key)).zip vs) ((ks.map fun k => (.inr k : Key)).zip us)
  | [], _, _, _ => .nil
  | k :: ks, _, _, .nil => .nil
  | k :: ks, _, _, .cons r t => .cons ⟨rfl, r⟩ (kv_zip (ks := ks) t)
section
variable {X : Cx}
theorem strs_mix {vs : List Value} {ks : List Str} (r : Vals (ks.map V.str) vs) {i : Nat} {v : Value} (h : vs[i]? = some v) : ∃ k : Str, ks[i]? = some k ∧ (mixKind X.prog X.w).is (.inr k) v = true := by
  obtain ⟨y, t, e1, e2⟩ := r.strs.item i v h
  exact ⟨y, e2, kV_is (k := .inr y) ⟨t, e1⟩⟩
end
end L2.DL

/-! DL45: xs[k::m] of lists; list + list as a list that changes -/
namespace L2.DL
open PySem PySem.Spec PyProof.Rows
section
variable {X : Cx}
/-! ### + as a new object -/
/-! ### xs[k::m] -/
end
end L2.DL

/-! DL46: dicts locked behind a statement (.fd), d.items() of these, d != {}, d.setdefault -/
namespace L2.DL
open PySem PySem.Spec PyProof.Rows
/-! ### locked behind a statement -/
def LkH {α : Type} (k : α → Hp → Prop) : α → Hp → Prop := fun x H' => k x H' ∨ ∃ d u, H' d = some u ∧ Mut (some u) ∧ ∀ od, k x (upd H' d (.frz od u))
def tLk (t : TS) : TS := fun E σ H => t ⟨LkH E.nx, LkH E.rt, E.bk, E.ct⟩ σ H
section
variable {X : Cx}
theorem ps_lk {st : Stmt} {t : TS} (h : PS X st t) : PS X st (tLk t) := by
  refine ⟨fun pins s σ H D I hw => ?_⟩
  refine thn (h.run pins s σ H _ I hw) fun f s1 q => ?_
  cases f with
  | next =>
    obtain ⟨σ', H', I2, q⟩ := q
    rcases q with q | ⟨d, u, hd, mu, q⟩
    · exact ⟨σ', H', I2, q⟩
    · obtain ⟨od, I3⟩ := I2.lock hd mu
      exact ⟨σ', _, I3, q od⟩
  | brk => exact q
  | cont => exact q
  | ret v =>
    obtain ⟨x, σ', H', I2, r, q⟩ := q
    rcases q with q | ⟨d, u, hd, mu, q⟩
    · exact ⟨x, σ', H', I2, r, q⟩
    · obtain ⟨od, I3⟩ := I2.lock hd mu
      exact ⟨x, σ', _, I3, r, q od⟩
end
theorem lk_dic {K : PySem.W.Frag} {S : SO} {H : Hp} {p : Addr} {t : Bool} {kvs : List (D × D)} (s : SRel K S H) (h : S p = some (.dic t kvs)) : ∃ u, H p = some u ∧ Mut (some u) ∧ ∀ od, Nx S H (S.del p) (upd H p (.frz od u)) ∧ SRel K (S.del p) (upd H p (.frz od u)) ∧ Rel K (S.del p) (upd H p (.frz od u)) (.fd t kvs) (.ref p) := by
  have key : ∀ {u : HO}, H p = some u → ∀ od, Nx S H (S.del p) (upd H p (.frz od u)) ∧ SRel K (S.del p) (upd H p (.frz od u)) := fun {u} hu od => by
    have n : Nx S H (S.del p) (upd H p (.frz od u)) := fun a w h1 h2 => by
      have ne : a ≠ p := fun e => by rw [e, h] at h1; cases h1
      exact ⟨by unfold SO.del; rw [if_neg ne]; exact h1, by rw [upd_ne ne]; exact h2⟩
    refine ⟨n, fun a o q => ?_⟩
    unfold SO.del at q
    by_cases e : a = p
    · rw [if_pos e] at q
      cases q
    · rw [if_neg e] at q
      exact (s a o q).nx n (upd_ne e)
  rcases s p _ h with ⟨l, ht, hl, rf⟩ | ⟨l, ht, hl, rf⟩
  · refine ⟨_, hl, trivial, fun od => ?_⟩
    obtain ⟨n, s2⟩ := key hl od
    exact ⟨n, s2, p, rfl, del_at, .inl ⟨od, l, ht, upd_same, RelK.nx n _ _ rf⟩⟩
  · refine ⟨_, hl, trivial, fun od => ?_⟩
    obtain ⟨n, s2⟩ := key hl od
    exact ⟨n, s2, p, rfl, del_at, .inr ⟨od, l, ht, upd_same, RelT.nx n _ _ rf⟩⟩
def SlL (p : Addr) (d0 : D) : SD → SD → Prop
  | [], [] => True
  | a :: as, b :: bs => (b = a ∨ b = none ∨ (a = some (.obj p) ∧ b = some d0)) ∧ SlL p d0 as bs
  | _, _ => False
theorem SlL.len {p : Addr} {ds : D} : ∀ {a b : SD}, SlL p ds a b → b.length = a.length
  | [], [], _ => rfl
  | _ :: as, _ :: bs, h => by rw [List.length_cons, List.length_cons, SlL.len h.2]
  | [], _ :: _, h => h.elim
  | _ :: _, [], h => h.elim
theorem SlL.get {p : Addr} {ds : D} : ∀ {a b : SD} {i : Nat} {d : D}, SlL p ds a b → b[i]? = some (some d) → a[i]? = some (some d) ∨ (a[i]? = some (some (.obj p)) ∧ d = ds)
  | [], [], i, d, _, e => by simp at e
  | x :: as, y :: bs, 0, d, h, e => by
    have e : y = some d := Option.some.inj e
    rcases h.1 with h1 | h1 | ⟨h1, h2⟩
    · exact .inl (by rw [← h1, e]; rfl)
    · rw [h1] at e
      cases e
    · rw [h2] at e
      cases e
      exact .inr ⟨by rw [h1]; rfl, rfl⟩
  | x :: as, y :: bs, i + 1, d, h, e => SlL.get (i := i) h.2 e
  | [], _ :: _, _, _, h, _ => h.elim
  | _ :: _, [], _, _, h, _ => h.elim
def LokS (n : SD → SO → Prop) : SD → SO → Prop := fun sd' S' => n sd' S' ∨ ∃ p t kvs sd0, S' p = some (.dic t kvs) ∧ SlL p (.fd t kvs) sd' sd0 ∧ n sd0 (S'.del p)
def LokR (r : KD) : KD := fun d S' => r d S' ∨ ∃ p t kvs, d = .obj p ∧ S' p = some (.dic t kvs) ∧ r (.fd t kvs) (S'.del p)
def wLk (w : WS) : WS := fun E sd S => w ⟨LokS E.nx, LokR E.rt, E.bk, E.ct⟩ sd S
section
variable {X : Cx}
theorem ds_lk {st : Stmt} {w : WS} (h : DS X st w) : DS X st (wLk w) :=
  ps_imp (ps_lk h) fun E σ H ⟨sd, S, E0, st, q, an⟩ => ⟨sd, S, _, st, q, ⟨fun sd' S' σ' H' q1 n s1 => by
    rcases q1 with q1 | ⟨p, t, kvs, sd0, hp, hs, q1⟩
    · exact .inl (an.nx _ _ _ _ q1 n s1)
    · obtain ⟨u, hu, mu, hk⟩ := lk_dic s1.s hp
      refine .inr ⟨p, u, hu, mu, fun od => ?_⟩
      obtain ⟨n2, s2, r2⟩ := hk od
      refine an.nx sd0 (S'.del p) σ' _ q1 (n.trans n2) ⟨s2, hs.len.trans s1.r.1, fun i d e => ?_⟩
      rcases hs.get e with e1 | ⟨e1, rfl⟩
      · obtain ⟨v, e', r⟩ := s1.r.2 i d e1
        exact ⟨v, e', Rel.nx n2 _ _ r⟩
      · obtain ⟨v, e', r⟩ := s1.r.2 i _ e1
        have er : v = .ref p := r
        subst er
        exact ⟨_, e', r2⟩, fun d S' v H' q1 n s1 r1 => by
    rcases q1 with q1 | ⟨p, t, kvs, rfl, hp, q1⟩
    · exact .inl (an.rt _ _ _ _ q1 n s1 r1)
    · obtain ⟨u, hu, mu, hk⟩ := lk_dic s1 hp
      refine .inr ⟨p, u, hu, mu, fun od => ?_⟩
      obtain ⟨n2, s2, r2⟩ := hk od
      have er : v = .ref p := r1
      subst er
      exact an.rt _ _ _ _ q1 (n.trans n2) s2 r2, an.bk, an.ct⟩⟩
theorem xLk {a : WS} {n bk ct : SD → SO → Prop} {r : KD} {sd : SD} {S : SO} (h : a ⟨LokS n, LokR r, bk, ct⟩ sd S) : wLk a ⟨n, r, bk, ct⟩ sd S := h
end
/-! ### items -/
/-- .. of tuple keys, each a new pair of the key's own tuple and the value -/
def ItiT (d : Addr) (o : Obj) (kvs : List (List Key × V)) : It :=
  ⟨fun i H => H d = some (.frz o (.dT kvs)) ∧ i < kvs.length, fun i H x H' => ∃ T k v q, kvs[i]? = some (k, v) ∧ H q = some (.tup (k.map kV)) ∧ x = .ref T ∧ H T = none ∧ H' = upd H T (.tup [.ref q, v]), fun i H => H d = some (.frz o (.dT kvs)) ∧ kvs.length ≤ i⟩
section
variable {X : Cx} {pins : List (Addr × Obj)} {σ : St} {H : Hp} {s : Shared} {d : Addr} {o : Obj}
theorem frzT2 {kvs : List (List Key × V)} (I : Inv X pins σ H s) (h : H d = some (.frz o (.dT kvs))) :
    (d == sysModules) = false ∧ s.heap.get? d = some o ∧ o.ExactDict ∧ ∃ (es : Array DictEntry) (ep : Nat), o.data = .dict es ep ∧ es.size = kvs.length ∧
      ∀ (i : Nat) (k : List Key) (v : V), kvs[i]? = some (k, v) → ∃ (en : DictEntry) (q : Addr), es[i]? = some en ∧ en.key = .ref q ∧ H q = some (.tup (k.map kV)) ∧ RelV v en.val := by
  obtain ⟨hd, z, hs, xs, pr, o', es, ep, ho, hx, hdt, he, _⟩ := I.hok d _ h
  rw [hd] at ho
  cases ho
  refine ⟨hs, hd, hx, es, ep, hdt, ?_, fun i k v e => ?_⟩
  · have l1 : es.size = xs.length := size_of_entries he
    have l2 : kvs.length = xs.length := Paired.length pr
    omega
  · obtain ⟨b, hb, e1, e2, e3⟩ := L2.paired_get pr e
    have q := entry_at he i
    rw [hb] at q
    exact ⟨_, b.2.1, q, rfl, e2, e3⟩
end
section
variable {P : Program} {w : World} {K : PySem.W.Frag} {d : Addr} {o : Obj} {es : Array DictEntry} {ep : Nat}
theorem turn_itemsT {kvs : List (List Key × V)} {elts : List Expr} {kk : Nat} {tpos : Pos} (it : Addr) (hod : o.data = .dict es ep) :
    L2.Turn P w K (.Tuple elts kk tpos) (ItiT d o kvs) [it] it (fun i h => ∃ ok ov, IsItemIter h it d i kvs.length ep ok ov) where
  mem := by simp
  obj := fun i h st b hb => by
    have e : b = it := by simpa using hb
    subst e
    obtain ⟨ok, ov, e⟩ := st
    exact ⟨_, e, fun v z => nomatch z⟩
  keep := fun i h h' st k => let ⟨ok, ov, e⟩ := st; ⟨ok, ov, k it (by simp) _ e⟩
  item := by
    intro X hP hw hK hc i pins s σ H E I hf st hg
    subst hP hw hK
    obtain ⟨hd, hi⟩ := hg
    obtain ⟨hs, hgd, hx, es', ep', hdt, hsz, ent⟩ := frzT2 I hd
    obtain ⟨rfl, rfl⟩ := dict_ep hod hdt
    obtain ⟨⟨k, v⟩, hkv⟩ : ∃ p, kvs[i]? = some p := ⟨kvs[i], List.getElem?_eq_getElem hi⟩
    obtain ⟨en, q, hen, hkey, hq, rv⟩ := ent i k v hkv
    obtain ⟨ok, ov, he⟩ := st
    rw [← hsz] at he
    have hlt : it < s.heap.objs.size := Heap.lt_size he
    have hlt2 : i < es'.size := by omega
    have een : es'[i] = en := by
      rw [Array.getElem?_eq_getElem hlt2] at hen
      exact Option.some.inj hen
    refine PySem.wpAny_pyNext_items_item_raw he ⟨o, hgd, hx, hdt⟩ hlt2 fun h' ho hT hz hk => ?_
    rw [een] at ho hT
    refine ⟨_, rfl, wpAny_letOwnedTupleGo_items (s := { s with heap := h' }) ho fun h'' he' sb => ?_⟩
    have hT2 : h''.get? s.heap.objs.size = some { cls := .type "tuple", data := .seq #[en.key, en.val] } := (sb.2 _ (Nat.ne_of_gt hlt)).trans hT
    have new : ObjOk X.prog X.w (upd H s.heap.objs.size (.tup [.ref q, v])) h'' s.heap.objs.size (.tup [.ref q, v]) :=
      ⟨by show 2 ≤ sizeLine; decide, [en.key, en.val], .cons hkey (.cons rv .nil), ⟨_, hT2, rfl, _, rfl⟩⟩
    have I1 : Inv X pins σ (upd H s.heap.objs.size (.tup [.ref q, v])) { s with heap := h'' } :=
      I.turnedNew (t' := s.toks) (ch := [it]) (fun b ob hb e => (sb.2 b (by simpa using hb)).trans (hk b ob (by simpa using hb) e)) hf (Nat.le_refl _) new
    refine ⟨.ref s.heap.objs.size, _, I1, rfl, ⟨_, k, v, q, hkv, hq, rfl, I.hok.fresh (Nat.le_refl _), rfl⟩, ⟨en.key, en.val, ?_⟩, fun b hb => ?_⟩
    · rw [← hsz]; exact he'
    · have e : b = it := by simpa using hb
      rw [e, upd_ne (Nat.ne_of_lt hlt)]
      exact (hf it (by simp)).1
  done := by
    intro X hP hw hK hc i pins s σ H E I hf st hg
    subst hP hw hK
    obtain ⟨hd, hi⟩ := hg
    obtain ⟨f0, f1, f2, f3, f4, f5⟩ := hf it (by simp)
    obtain ⟨hs, hgd, hx, es', ep', hdt, hsz, ent⟩ := frzT2 I hd
    obtain ⟨rfl, rfl⟩ := dict_ep hod hdt
    obtain ⟨ok, ov, he⟩ := st
    rw [← hsz] at he
    exact PySem.wpAny_pyNext_items_end_raw (I.ok.hd hc) he ⟨o, hgd, hx, hdt⟩ (by omega) fun h' eb => ⟨rfl, I.turned (t' := s.toks) (fun b ob hb e => eb b ob hb e) f0 f1 f3 f4 f5⟩
  self := fun A i s Q E st h => let ⟨_, _, e⟩ := st; PySem.W.kcp_self e h
end
def iItems2 (td : TE) : TI := fun σ H R => td σ H fun x H1 => ∃ d o, x = .ref d ∧ ((∃ kvs, H1 d = some (.frz o (.dK kvs)) ∧ R (Iti d o kvs) H1) ∨ ∃ kvs, H1 d = some (.frz o (.dT kvs)) ∧ R (ItiT d o kvs) H1)
section
variable {X : Cx} {e : Expr} {td : TE} {apos cpos : Pos}
theorem pi_items2 {elts : List Expr} {kk : Nat} {tpos : Pos} (he : PE X e td) (hbase : attributeBase e "items" X.env (eval e X.env) = eval e X.env := by rfl) (hline : (apos.endLine == cpos.line) = true := by rfl) :
    PI X (.Tuple elts kk tpos) (.Call (.Attribute e "items" apos) [] [] cpos) (iItems2 td) := by
  refine ⟨fun pins s σ H R I h => ?_⟩
  refine wpAny_Call_method (T := "dict") (id := "dict.items") hbase rfl hline F.plainAttrs_dict F.slot_dict_items F.type_dict_items (thn (he.run pins s σ H _ I h) fun u s1 ⟨x, H1, I1, rx, d, o, ex, q⟩ => ?_)
  subst ex
  obtain rfl : u = Value.ref d := rx
  rcases q with ⟨kvs, hd, q⟩ | ⟨kvs, hd, q⟩
  · obtain ⟨hs, hgd, hx, es, ep, vs, hdt, hsz, kv, hm⟩ := I1.frzK hd
    have hl : kvs.length = vs.length := Paired.length kv
    refine ⟨hm.dictOf.typeIs, hm.dictOf.mapOf.noDict, ?_⟩
    have I2 : Inv X pins σ H1 { s1 with heap := s1.heap.push { cls := .type "dict_items", data := .fields #[.ref d] } } := I1.kept (t' := s1.toks) fun b ob q => Heap.get?_push_of_some _ q
    have fin : wpAny (model X.prog X.w) X.A (pyIter (.ref s1.heap.objs.size)) (PIE X pins σ (.Tuple elts kk tpos) R) X.xe { s1 with heap := s1.heap.push { cls := .type "dict_items", data := .fields #[.ref d] } } := by
      refine wpAny_pyIter_items (d := d) (knd := mixKind X.prog X.w) ⟨_, Heap.get?_push_size _ rfl, rfl, rfl⟩ (hm.push _) (pi_one (tk := s1.toks) I2 _ (turn_items _ hdt) ⟨.none, .none, ?_⟩ q)
      rw [hl]
      exact Heap.get?_push_size _ rfl
    show wpAny _ _ (callWith cpos (.builtin "dict.items") [.ref d] [] []) _ X.xe s1
    exact method_meetsIn F.slot_dict_items F.entry_dict_items rfl (PySem.evalArgs_none ⟨rfl, hm.dictOf.typeIs, F.args_dict_items_1 _, _, meets_dict_items (mixKind X.prog X.w) d hs, ⟨vs, hm.dictOf⟩, fin⟩)
  · obtain ⟨hs, hgd, hx, es, ep, hdt, hsz, ent⟩ := frzT2 I1 hd
    have hm : s1.heap.DictRaw d es ep := ⟨o, hgd, hx, hdt⟩
    refine ⟨hm.typeIs, fun b e => by cases e; exact ⟨o, hgd, hx.2.1⟩, ?_⟩
    have I2 : Inv X pins σ H1 { s1 with heap := s1.heap.push { cls := .type "dict_items", data := .fields #[.ref d] } } := I1.kept (t' := s1.toks) fun b ob q => Heap.get?_push_of_some _ q
    have fin : wpAny (model X.prog X.w) X.A (pyIter (.ref s1.heap.objs.size)) (PIE X pins σ (.Tuple elts kk tpos) R) X.xe { s1 with heap := s1.heap.push { cls := .type "dict_items", data := .fields #[.ref d] } } := by
      refine PySem.wpAny_pyIter_items_raw (d := d) ⟨_, Heap.get?_push_size _ rfl, rfl, rfl⟩ (hm.at fun ob q => Heap.get?_push_of_some _ q) (pi_one (tk := s1.toks) I2 _ (turn_itemsT _ hdt) ⟨.none, .none, ?_⟩ q)
      rw [← hsz]
      exact Heap.get?_push_size _ rfl
    show wpAny _ _ (callWith cpos (.builtin "dict.items") [.ref d] [] []) _ X.xe s1
    exact method_meetsIn F.slot_dict_items F.entry_dict_items rfl (PySem.evalArgs_none ⟨rfl, hm.typeIs, F.args_dict_items_1 _, _, PySem.meets_dict_items_raw d hs, ⟨es, ep, hm⟩, fin⟩)
end
end L2.DL

/-! DL47: over data: d.items() of a locked dict, d != {}, d.setdefault(k, x) -/
namespace L2.DL
open PySem PySem.Spec PyProof.Rows
section
variable {K : PySem.W.Frag} {S : SO} {H : Hp}
theorem RelK.at : ∀ {kvs : List (D × D)} {l : List (Key × V)} {i : Nat} {q : Key} {v : V}, RelK K S H kvs l → l[i]? = some (q, v) → ∃ d, kvs[i]? = some (keyD q, d) ∧ Rel K S H d v
  | [], l, i, q, v, h, e => by
    have el : l = [] := h
    subst el
    simp at e
  | (k, d) :: kvs, l, 0, q, v, h, e => by
    obtain ⟨q', v', r, rfl, rfl, h1, h2⟩ := h
    cases e
    exact ⟨d, rfl, h1⟩
  | (k, d) :: kvs, l, i + 1, q, v, h, e => by
    obtain ⟨q', v', r, rfl, rfl, h1, h2⟩ := h
    exact RelK.at (i := i) h2 e
theorem RelT.at : ∀ {kvs : List (D × D)} {l : List (List Key × V)} {i : Nat} {q : List Key} {v : V}, RelT K S H kvs l → l[i]? = some (q, v) → ∃ d, kvs[i]? = some (.tup (q.map keyD), d) ∧ Rel K S H d v
  | [], l, i, q, v, h, e => by
    have el : l = [] := h
    subst el
    simp at e
  | (k, d) :: kvs, l, 0, q, v, h, e => by
    obtain ⟨q', v', r, rfl, rfl, h1, h2⟩ := h
    cases e
    exact ⟨d, rfl, h1⟩
  | (k, d) :: kvs, l, i + 1, q, v, h, e => by
    obtain ⟨q', v', r, rfl, rfl, h1, h2⟩ := h
    exact RelT.at (i := i) h2 e
theorem key_rel (q : Key) : Rel K S H (keyD q) (kV q) := by
  cases q <;> exact rfl
theorem keys_rel : ∀ (q : List Key), Rels K S H (q.map keyD) (q.map kV)
  | [] => rfl
  | k :: q => ⟨_, _, rfl, key_rel k, keys_rel q⟩
theorem srel_tup (s : SRel K S H) {q : Addr} {vs : List V} (h : H q = some (.tup vs)) : S q = none := by
  cases e : S q with
  | none => rfl
  | some o =>
    have := s q o e
    cases o with
    | lst ds =>
      obtain ⟨vs, h1, _⟩ := this
      rw [h] at h1
      cases h1
    | dic t kvs =>
      rcases this with ⟨l, _, h1, _⟩ | ⟨l, _, h1, _⟩
      · rw [h] at h1
        cases h1
      · rw [h] at h1
        cases h1
    | ins C fs =>
      obtain ⟨dx, l, h1, _⟩ := this
      rw [h] at h1
      cases h1
    | err n fs =>
      obtain ⟨C, d, _, h1, _⟩ := this
      rw [h] at h1
      have z := Option.some.inj h1
      unfold ErrO at z
      cases z
    | tb q =>
      obtain ⟨ps, h1, _⟩ := this
      rw [h] at h1
      cases h1
end
def prsD (kvs : List (D × D)) : List D := kvs.map fun p => .tup [p.1, p.2]
def wItems (we : WE) : WI := fun sd S R => we sd S fun d S1 => ∃ t kvs, d = .fd t kvs ∧ R ⟨prsD kvs, fun _ => True⟩ S1
section
variable {X : Cx} {e : Expr} {we : WE} {apos cpos : Pos}
theorem di_items {elts : List Expr} {kk : Nat} {tpos : Pos} (he : DE X e we) (hbase : attributeBase e "items" X.env (eval e X.env) = eval e X.env := by rfl) (hline : (apos.endLine == cpos.line) = true := by rfl) :
    DI X (.Tuple elts kk tpos) (.Call (.Attribute e "items" apos) [] [] cpos) (wItems we) :=
  pi_imp (pi_items2 he hbase hline) fun σ H R ⟨sd, S, R0, st, q, an⟩ => ⟨sd, S, _, st, q, fun d S1 v H1 ⟨t, kvs, e1, q1⟩ n1 s1 r1 => by
    subst e1
    obtain ⟨a, rfl, hn, h⟩ := r1
    have len : (ItD.items ⟨prsD kvs, fun _ => True⟩).length = kvs.length := by
      show (prsD kvs).length = _
      unfold prsD
      rw [List.length_map]
    rcases h with ⟨o, l, rfl, hl, rl⟩ | ⟨o, l, rfl, hl, rl⟩
    · have ll := rl.length
      refine ⟨a, o, rfl, .inl ⟨l, hl, an _ S1 H1 _ q1 n1 s1 ⟨fun i S2 H2 n2 s2 _ hi => ⟨(n2 a _ hn hl).2, by rw [← ll, ← len]; exact hi⟩, fun i S2 H2 n2 s2 _ hi => ⟨(n2 a _ hn hl).2, by rw [← ll, ← len, hi]; exact Nat.le_refl _⟩, fun i S2 H2 x H3 d n2 s2 _ hd hy => ?_⟩⟩⟩
      obtain ⟨T, k, w, hk, rfl, hT, rfl⟩ := hy
      obtain ⟨dv, hkd, rw'⟩ := (RelK.nx n2 _ _ rl).at hk
      have hd : (prsD kvs)[i]? = some d := hd
      unfold prsD at hd
      rw [List.getElem?_map, hkd] at hd
      cases hd
      exact ⟨nx_new hT, s2.new hT, T, _, rfl, ⟨s2.free hT, upd_same⟩, _, _, rfl, key_rel k, _, _, rfl, Rel.nx (nx_new hT) _ _ rw', rfl⟩
    · have ll := rl.length
      refine ⟨a, o, rfl, .inr ⟨l, hl, an _ S1 H1 _ q1 n1 s1 ⟨fun i S2 H2 n2 s2 _ hi => ⟨(n2 a _ hn hl).2, by rw [← ll, ← len]; exact hi⟩, fun i S2 H2 n2 s2 _ hi => ⟨(n2 a _ hn hl).2, by rw [← ll, ← len, hi]; exact Nat.le_refl _⟩, fun i S2 H2 x H3 d n2 s2 _ hd hy => ?_⟩⟩⟩
      obtain ⟨T, k, w, b, hk, hb, rfl, hT, rfl⟩ := hy
      obtain ⟨dv, hkd, rw'⟩ := (RelT.nx n2 _ _ rl).at hk
      have hd : (prsD kvs)[i]? = some d := hd
      unfold prsD at hd
      rw [List.getElem?_map, hkd] at hd
      cases hd
      have tb : TupAt S2 H2 b (k.map kV) := ⟨srel_tup s2 hb, hb⟩
      exact ⟨nx_new hT, s2.new hT, T, _, rfl, ⟨s2.free hT, upd_same⟩, _, _, rfl, ⟨b, _, rfl, tb.nx (nx_new hT), keys_rel k⟩, _, _, rfl, Rel.nx (nx_new hT) _ _ rw', rfl⟩⟩
theorem xItems {sd : SD} {S : SO} {R : ItD → SO → Prop} (h : we sd S fun d S1 => ∃ t kvs, d = .fd t kvs ∧ R ⟨prsD kvs, fun _ => True⟩ S1) : wItems we sd S R := h
/-! ### d != {} -/
/-! ### d.setdefault(k, x) -/
/-! ### d.get(k, x) -/
/-! ### name = {k: v for ..}, the dict an object -/
theorem ds_setDc {t : Bool} {i : Nat} {y : Str} {py spos : Pos} {kx vx tg iter : Expr} {ifs : List Expr} {scope : Scope} {own : List (Str × Nat)} {pos : Pos} {wi : WI} {nt : NT} {tt : WT} {wk we : WE} (hu : X.A.units + 65 < cLine) (hc : X.calm = true) (hN : X.N.Nodup) (hi : DI X tg iter wi) (ok : BlkOk X.N X.env.scope scope own)
    (hx : ∀ i ∈ nt.ix, i ∈ own.map (·.2)) (hg : Blk X scope fun Y => PG Y tg (gNT X.K nt)) (ht : Blk X scope fun Y => PTs Y ifs (liftT X.K tt)) (hk : Blk X scope fun Y => PE Y kx (lift X.K wk)) (he : Blk X scope fun Y => PE Y vx (lift X.K we))
    (hy : X.N[i]? = some y := by rfl) (hyl : X.env.scope.names.lookup y = some .local := by rfl) (hsw : swapsWith (.DictComp kx vx [⟨tg, iter, ifs, 0⟩] scope pos) (some (.Name y py)) spos.line X.env = pure true := by exact sw_trueD rfl rfl rfl (by decide +kernel)) (hs : ∀ x, foldedSetIterable iter X.env x = pure x := by intro _; rfl) :
    DS X (.Assign [.Name y py] (.DictComp kx vx [⟨tg, iter, ifs, 0⟩] scope pos) spos) (wAsg (wDc t wi nt tt wk we (own.map (·.2))) (gV i)) :=
  ps_imp (ps_setDc (t := t) hu hc hN hy hyl hsw hi ok hg ht hk he hs) fun E σ H ⟨sd, S, E0, st, q, an⟩ => by
    show tDcG t (liftI X.K wi) (gNT X.K nt) (liftT X.K tt) (lift X.K wk) (lift X.K we) (own.map (·.2)) σ H _
    exact dcG_lift hx st q fun p S' H' q' n' s' => an.nx _ _ _ _ q' n' ((st.nx n' s').set i rfl)
end
end L2.DL

/-! DL48: dict comprehensions with two for -/
namespace L2.DL
open PySem PySem.Spec PyProof.Rows
section
variable {prog : Program} {w : World} {A : Around} {R : Result → Shared → Prop} {s : Shared} {kx vx t0 i0 t1 i1 : Expr} {ifs0 ifs1 : List Expr} {scope : Scope} {pos : Pos} {it : Value} {D : Addr} {env : Env}
end

section
variable {X : Cx}
/-! ### .. over data -/
end
end L2.DL

/-! DL49: {**a, **b} of locked dicts with keys ints and texts, list(dict), for key in dict -/
namespace L2.DL
open PySem PySem.Spec PyProof.Rows
/-! ### a dict merged into another one by a display -/
section
variable {prog : Program} {w : World} {A : Around} {E : Value → Shared → Prop} {s : Shared}
end
section
variable {X : Cx}
/-! ### .. over data -/
theorem fd_at {K : PySem.W.Frag} {S : SO} {H : Hp} {ks : List (D × D)} {v : V} (r : Rel K S H (.fd false ks) v) : ∃ a o l, v = .ref a ∧ H a = some (.frz o (.dK l)) ∧ RelK K S H ks l := by
  obtain ⟨a, rfl, _, h⟩ := r
  rcases h with ⟨o, l, _, hf, rl⟩ | ⟨o, l, e, _⟩
  · exact ⟨a, o, l, rfl, hf, rl⟩
  · cases e
/-! ### for key in a locked dict -/
def kysD (kvs : List (D × D)) : List D := kvs.map (·.1)
def wKeysI (we : WE) : WI := fun sd S R => we sd S fun d S1 => ∃ kvs, d = .fd false kvs ∧ R ⟨kysD kvs, fun _ => True⟩ S1
theorem di_keysI {tg e : Expr} {we : WE} (he : DE X e we) : DI X tg e (wKeysI we) :=
  pi_imp (pi_keys he) fun σ H R ⟨sd, S, R0, st, q, an⟩ => ⟨sd, S, _, st, q, fun d S1 v H1 ⟨kvs, e1, q1⟩ n1 s1 r1 => by
    subst e1
    obtain ⟨a, rfl, hn, h⟩ := r1
    have len : (ItD.items ⟨kysD kvs, fun _ => True⟩).length = kvs.length := by
      show (kysD kvs).length = _
      unfold kysD
      rw [List.length_map]
    rcases h with ⟨o, l, _, hl, rl⟩ | ⟨o, l, e, _⟩
    · have ll := rl.length
      refine ⟨a, o, rfl, .inl ⟨l, hl, an _ S1 H1 _ q1 n1 s1 ⟨fun i S2 H2 n2 s2 _ hi => ⟨(n2 a _ hn hl).2, by rw [← ll, ← len]; exact hi⟩, fun i S2 H2 n2 s2 _ hi => ⟨(n2 a _ hn hl).2, by rw [← ll, ← len, hi]; exact Nat.le_refl _⟩, fun i S2 H2 x H3 d n2 s2 _ hd hy => ?_⟩⟩⟩
      obtain ⟨rfl, k, w, hk, rfl⟩ := hy
      obtain ⟨dv, hkd, rw'⟩ := (RelK.nx n2 _ _ rl).at hk
      have hd : (kysD kvs)[i]? = some d := hd
      unfold kysD at hd
      rw [List.getElem?_map, hkd] at hd
      cases hd
      exact ⟨.refl _ _, s2, key_rel k⟩
    · cases e⟩
theorem xKeysI {we : WE} {sd : SD} {S : SO} {R : ItD → SO → Prop} (h : we sd S fun d S1 => ∃ kvs, d = .fd false kvs ∧ R ⟨kysD kvs, fun _ => True⟩ S1) : wKeysI we sd S R := h
/-! ### list(dict) -/
theorem RelK.keys {K : PySem.W.Frag} {S : SO} {H : Hp} : ∀ {ys : List (D × D)} {l : List (Key × V)}, RelK K S H ys l → Rels K S H (kysD ys) (l.map fun p => kV p.1)
  | [], l, h => by
    have e : l = [] := h
    subst e
    rfl
  | (k, d) :: ys, l, h => by
    obtain ⟨q, v, r, rfl, rfl, _, h2⟩ := h
    exact ⟨_, _, rfl, key_rel q, RelK.keys (ys := ys) h2⟩
end
end L2.DL

/-! DL50: list(d.values()) of a locked dict, range(a, b, -1), dict(pairs) as an object -/
namespace L2.DL
open PySem PySem.Spec PyProof.Rows
def vlsD (kvs : List (D × D)) : List D := kvs.map (·.2)
theorem RelK.vals {K : PySem.W.Frag} {S : SO} {H : Hp} : ∀ {ys : List (D × D)} {l : List (Key × V)}, RelK K S H ys l → Rels K S H (vlsD ys) (l.map fun p => p.2)
  | [], l, h => by
    have e : l = [] := h
    subst e
    rfl
  | (k, d) :: ys, l, h => by
    obtain ⟨q, v, r, rfl, rfl, h1, h2⟩ := h
    exact ⟨_, _, rfl, h1, RelK.vals (ys := ys) h2⟩
theorem vals_of2 : ∀ {l : List (Key × V)} {vs : List (Key × Value)} {its : List Value}, KV l vs → its.length = vs.length → (∀ (j : Nat) u, its[j]? = some u → ∃ k, vs[j]? = some (k, u)) → Vals (l.map fun p => p.2) its
  | [], [], [], _, _, _ => .nil
  | p :: l, q :: vs, u :: its, h, hl, hv => by
    cases h with
    | cons h1 h2 =>
      obtain ⟨k, hx⟩ := hv 0 u rfl
      simp only [List.getElem?_cons_zero, Option.some.injEq] at hx
      subst hx
      exact .cons h1.2 (vals_of2 (l := l) (vs := vs) (its := its) h2 (by simpa using hl) fun j y hy => by simpa using hv (j + 1) y (by simpa using hy))
  | [], _ :: _, _, h, _, _ => nomatch h
  | _ :: _, [], _, h, _, _ => nomatch h
  | _, [], _ :: _, _, hl, _ => by simp at hl
  | _, _ :: _, [], _, hl, _ => by simp at hl
section
variable {X : Cx}
def tListV (td : TE) : TE := fun σ H Q => td σ H fun x H1 => ∃ a o l, x = V.ref a ∧ H1 a = some (.frz o (.dK l)) ∧ l.length ≤ 1000000 ∧ ∀ q, H1 q = none → Q (.ref q) (upd H1 q (.lst (l.map fun p => p.2)))
theorem pe_listV {o : Expr} {p pos apos mpos : Pos} {td : TE} (hc : X.calm = true) (hg : Gl X "list") (hm : X.mg "list" = none) (hd : PE X o td) (hbase : attributeBase o "values" X.env (eval o X.env) = eval o X.env := by rfl) (hline : (apos.endLine == mpos.line) = true := by rfl)
    (na : starEach [Expr.Call (.Attribute o "values" apos) [] [] mpos] X.env = (false, eval (Expr.Call (.Attribute o "values" apos) [] [] mpos) X.env) :: starEach [] X.env := by rfl) :
    PE X (.Call (.Name "list" p) [.Call (.Attribute o "values" apos) [] [] mpos] [] pos) (tListV td) := by
  refine ⟨fun pins s σ H Q I h => ?_⟩
  refine Call_ (ld_blt I hg hm boot_list (PyProof.Rows.callWith_type1 (args_cons ?_ na) na))
  refine wpAny_Call_method0_late hbase hline (thn (hd.run pins s σ H _ I h) fun v s1 ⟨x, H1, I1, r1, a, od, l, ex, ha, hl, q⟩ => ?_)
  subst ex
  obtain rfl : v = Value.ref a := r1
  obtain ⟨hs, hgd, hx, es, ep, vs, hdt, hsz, kv, hat⟩ := I1.frzK ha
  have dof := hat.dictOf
  refine ⟨"dict", "dict.values", F.plainAttrs_dict, F.slot_dict_values, F.type_dict_values, dof.typeIs, dof.mapOf.noDict, Calls.callWith_builtin rfl (PySem.evalArgs_none ?_)⟩
  refine call_meetsIn F.slot_dict_values dof.typeIs F.entry_dict_values (F.args_dict_values_1 _) (meets_dict_values (mixKind X.prog X.w) a hs) ⟨⟨vs, dof⟩, ?_⟩
  refine args_nil ?_
  have ln : vs.length ≤ sizeLine := by rw [← kv.length]; exact le_line hl
  have I2 : Inv X pins σ H1 { s1 with heap := s1.heap.push { cls := .type "dict_values", data := .fields #[.ref a] } } := I1.kept (t' := s1.toks) fun b ob q => Heap.get?_push_of_some _ q
  refine PySem.W.kdl_call (PySem.W.kdl_values (knd := mixKind X.prog X.w)) (I1.ok.hd hc) ⟨⟨_, Heap.get?_push_size _ rfl, rfl, rfl⟩, hat.push _⟩ ln fun h' tk acc c keep hD hacc => ?_
  have va : Vals (l.map fun p => p.2) acc.toList := vals_of2 kv (by rw [Array.length_toList]; exact hacc.1) fun j y hy => hacc.2 j y (by rw [← Array.getElem?_toList]; exact hy)
  have len2 : (l.map fun p => p.2).length ≤ sizeLine := by rw [List.length_map, kv.length]; exact ln
  have hp : H1 (s1.heap.push { cls := .type "dict_values", data := .fields #[.ref a] }).objs.size = none := I2.hok.fresh (Nat.le_refl _)
  have I3 : Inv X pins σ (upd H1 (s1.heap.push { cls := .type "dict_values", data := .fields #[.ref a] }).objs.size (.lst (l.map fun p => p.2))) { s1 with heap := h', toks := tk } := I2.laid (t' := tk) keep (Nat.le_refl _) ⟨len2, acc.toList, c, va, by rw [Array.toArray_toList]; exact hD⟩
  exact ⟨.ref _, _, I3, rfl, q _ hp⟩
def wListV (we : WE) : WE := fun sd S Q => we sd S fun d S1 => ∃ kvs, d = .fd false kvs ∧ kvs.length ≤ 1000000 ∧ Q (.lst (vlsD kvs)) S1
theorem de_listV {o : Expr} {p pos apos mpos : Pos} {we : WE} (hc : X.calm = true) (hm : X.mg "list" = none) (hd : DE X o we) (hg : Gl X "list" := by rfl) (hbase : attributeBase o "values" X.env (eval o X.env) = eval o X.env := by rfl) (hline : (apos.endLine == mpos.line) = true := by rfl)
    (na : starEach [Expr.Call (.Attribute o "values" apos) [] [] mpos] X.env = (false, eval (Expr.Call (.Attribute o "values" apos) [] [] mpos) X.env) :: starEach [] X.env := by rfl) :
    DE X (.Call (.Name "list" p) [.Call (.Attribute o "values" apos) [] [] mpos] [] pos) (wListV we) :=
  pe_imp (pe_listV hc hg hm hd hbase hline na) fun σ H Q ⟨sd, S, Q0, st, q, an⟩ => ⟨sd, S, _, st, q, fun d S1 v H1 ⟨kvs, e, hl, q1⟩ n1 s1 r1 => by
    subst e
    obtain ⟨a, o, l, rfl, hf, rl⟩ := fd_at r1
    exact ⟨a, o, l, rfl, hf, by rw [← rl.len]; exact hl, fun q hq => an _ _ _ _ q1 (n1.trans (nx_new hq)) (s1.new hq) ⟨q, _, rfl, s1.free hq, upd_same, rl.vals.nx (nx_new hq)⟩⟩⟩
theorem xListV {we : WE} {sd : SD} {S : SO} {Q : KD} (h : we sd S fun d S1 => ∃ kvs, d = .fd false kvs ∧ kvs.length ≤ 1000000 ∧ Q (.lst (vlsD kvs)) S1) : wListV we sd S Q := h
/-! ### range(a, b, -1) -/
def downD (a : Int) (n : Nat) : List D := (List.range n).map fun i => .int (a - (i : Nat))
theorem downD_get {a : Int} {n i : Nat} {d : D} (h : (downD a n)[i]? = some d) : d = .int (a - (i : Nat)) ∧ i < n := by
  unfold downD at h
  rw [List.getElem?_map] at h
  obtain ⟨x, hx, rfl⟩ := Option.map_eq_some_iff.mp h
  have hi := (List.getElem?_eq_some_iff.mp hx).1
  rw [List.length_range] at hi
  rw [List.getElem?_range hi] at hx
  cases hx
  exact ⟨rfl, hi⟩
def wRngM (wa : WA) : WI := fun sd S R => wa sd S fun xs S1 => ∃ i j : Int, xs = [.int i, .int j, .int (-1)] ∧ (-(2 ^ 62) ≤ i ∧ i < 2 ^ 62 ∧ -(2 ^ 62) ≤ j ∧ j < 2 ^ 62) ∧ R ⟨downD i (i - j).toNat, fun _ => True⟩ S1
theorem di_rngM {tg a b c : Expr} {w : WA} {p pos : Pos} (hm : X.mg "range" = none) (ha : DA X [a, b, c] w) (hg : Gl X "range" := by rfl) (hs : starEach [a, b, c] X.env = (false, eval a X.env) :: starEach [b, c] X.env := by rfl)
    (hpl : (backTo pos (starEach [b, c] X.env)).any (·.1) = false := by rfl) : DI X tg (.Call (.Name "range" p) [a, b, c] [] pos) (wRngM w) := by
  refine pi_imp (pi_range3 hg hm ha hs hpl) fun σ H R ⟨sd, S, R0, st, q, an⟩ => ⟨sd, S, _, st, q, fun xs S1 vs H1 ⟨i, j, e, ⟨b1, b2, b3, b4⟩, q1⟩ n1 s1 r1 => ?_⟩
  subst e
  obtain ⟨v1, r, rfl, e1, r2⟩ := r1
  obtain ⟨v2, r', rfl, e2, r3⟩ := r2
  obtain ⟨v3, r'', rfl, e3, r4⟩ := r3
  have e1 : v1 = .int i := e1
  have e2 : v2 = .int j := e2
  have e3 : v3 = .int (-1) := e3
  have e4 : r'' = [] := r4
  rw [e1, e2, e3, e4]
  refine ⟨i, j, -1, _, rfl, RgC.neg b1 b2 b3 b4, an _ S1 H1 _ q1 n1 s1 ⟨fun k S2 H2 n2 s2 _ hi => ?_, fun k S2 H2 n2 s2 _ hi => ?_, fun k S2 H2 x H3 d n2 s2 _ hd hy => ?_⟩⟩
  · have : (ItD.items ⟨downD i (i - j).toNat, fun _ => True⟩).length = (i - j).toNat := by show (downD _ _).length = _; unfold downD; simp
    rw [this] at hi
    exact hi
  · have : (ItD.items ⟨downD i (i - j).toNat, fun _ => True⟩).length = (i - j).toNat := by show (downD _ _).length = _; unfold downD; simp
    rw [this] at hi
    show (i - j).toNat ≤ k
    omega
  · obtain ⟨rfl, rfl⟩ := hy
    obtain ⟨rfl, _⟩ := downD_get hd
    refine ⟨.refl _ _, s2, ?_⟩
    show V.int _ = V.int _
    rw [show i + ((k : Nat) : Int) * (-1) = i - (k : Nat) by omega]
theorem xRngM {wa : WA} {sd : SD} {S : SO} {R : ItD → SO → Prop} (h : wa sd S fun xs S1 => ∃ i j : Int, xs = [.int i, .int j, .int (-1)] ∧ (-(2 ^ 62) ≤ i ∧ i < 2 ^ 62 ∧ -(2 ^ 62) ≤ j ∧ j < 2 ^ 62) ∧ R ⟨downD i (i - j).toNat, fun _ => True⟩ S1) : wRngM wa sd S R := h
/-! ### dict(pairs), an object -/
end
/-! ### max, min of a tuple of ints -/
section
variable {prog : Program} {w : World} {A : Around} {E : Value → Shared → Prop} {s : Shared}
end
section
variable {X : Cx}
theorem xMaxL {S : SO} {Q : KD} {ns : List Int} (hne : ns ≠ []) (h : ∀ m, IsMax ns m → Q (.int m) S) : cMax [.lst (ns.map D.int)] S Q := .inr ⟨ns, rfl, hne, h⟩
end
end L2.DL

/-! DL51: dict(zip(tuple of texts, tuple)) -/
namespace PySem
open PySem PySem.Calls PyProof.Rows PyProof.V PySem.Spec
section
variable {prog : Program} {w : World} {A : Around} {E : Value → Shared → Prop} {s : Shared}
theorem zipT_item_held {z TI TO T i1 i2 l1 l2 : Addr} {f : Bool} {oT : Obj} {k1 k2 : Nat} {xs ys : Array Value} {x y : Value} {Q : Value → Shared → Prop} (D : ZipApart z TI TO i1 i2 l1 l2)
    (hz : IsZipHeld s.heap z TI TO T f) (hT : s.heap.get? T = some oT) (hTI : IsPair s.heap TI (.ref i1) (.ref i2))
    (h1 : s.heap.IsTupleIter i1 l1 k1) (h2 : s.heap.IsTupleIter i2 l2 k2) (hl1 : s.heap.IsTuple l1 xs) (hl2 : s.heap.IsTuple l2 ys) (hx : xs[k1]? = some x) (hy : ys[k2]? = some y)
    (hQ : ∀ h', IsZipHeld h' z TI TO T true → h'.IsTupleIter i1 l1 (k1 + 1) → h'.IsTupleIter i2 l2 (k2 + 1) → IsPair h' s.heap.objs.size x y → h'.objs.size = s.heap.objs.size + 1 →
      (∀ c o, c ≠ z → c ≠ i1 → c ≠ i2 → s.heap.get? c = some o → h'.get? c = some o) → Q (.ref s.heap.objs.size) { s with heap := h' }) :
    wpAny (model prog w) A (Builtin.«zip.__next__» ⟨[.ref z], []⟩) (fun fin s' => ∃ v, fin = .done (.ret v) ∧ Q v s') E s := by
  show wpAny _ _ (field (.ref z) 2 >>= _) _ _ _
  refine wpAny_bind (wpAny_field hz rfl (x := .bool false) rfl ?_)
  show wpAny _ _ (field (.ref z) 3 >>= _) _ _ _
  refine wpAny_bind (wpAny_field hz rfl (x := .ref TI) rfl ?_)
  refine wpAny_bind (wpAny_seqItems hTI rfl ?_)
  show wpAny _ _ (Builtin.SmallTypes.ownedTupleIsFree (.ref z) >>= _) _ _ _
  refine wpAny_bind (wpAny_tupleHeld_zip hz hT fun h₁ hz₁ hs₁ => ?_)
  simp only [Bool.false_eq_true, if_false]
  refine wpAny_bind ?_
  rw [← Array.forIn_toList]
  simp only [List.forIn_cons, List.forIn_nil]
  refine wpAny_bind (wpAny_bind (wpAny_holding ?_))
  show wpAny _ _ (Builtin.SmallTypes.nextOf (.ref i1) >>= _) _ _ _
  refine wpAny_bind (RZ.nextOf_tuple_item (s := { s with heap := h₁ }) (h1.extBut hs₁.extBut D.i1z) (hl1.extBut hs₁.extBut D.l1z) hx fun h₂ h1₂ hs₂ => wpAny_pure ?_)
  refine wpAny_pure ?_
  refine wpAny_bind (wpAny_bind (wpAny_holding ?_))
  show wpAny _ _ (Builtin.SmallTypes.nextOf (.ref i2) >>= _) _ _ _
  refine wpAny_bind (RZ.nextOf_tuple_item (s := { s with heap := h₂ }) ((h2.extBut hs₁.extBut D.i2z).extBut hs₂.extBut D.i12.symm) ((hl2.extBut hs₁.extBut D.l2z).extBut hs₂.extBut D.l2i1) hy fun h₃ h2₃ hs₃ => wpAny_pure ?_)
  refine wpAny_pure (wpAny_pure ?_)
  show wpAny _ _ (newTuple [x, y] >>= _) _ _ _
  refine wpAny_bind (wpAny_newTuple ?_)
  have hsz : h₃.objs.size = s.heap.objs.size := by rw [hs₃.1, hs₂.1, hs₁.1]
  have hz₃ : IsZipHeld h₃ z TI TO T true := hs₃.extBut _ _ D.i2z.symm (hs₂.extBut _ _ D.i1z.symm hz₁)
  have hk : ∀ c o, c ≠ z → c ≠ i1 → c ≠ i2 → s.heap.get? c = some o → h₃.get? c = some o := fun c o c1 c2 c3 e => hs₃.extBut _ _ c3 (hs₂.extBut _ _ c2 (hs₁.extBut _ _ c1 e))
  have h1₃ : h₃.IsTupleIter i1 l1 (k1 + 1) := h1₂.extBut hs₃.extBut D.i12
  refine wpAny_pure ⟨_, rfl, ?_⟩
  show Q (.ref h₃.objs.size) _
  have hp : IsPair (h₃.push { cls := .type "tuple", data := .seq #[x, y] }) h₃.objs.size x y := Heap.get?_push_size _ rfl
  have hz4 : (h₃.push { cls := .type "tuple", data := .seq #[x, y] }).objs.size = h₃.objs.size + 1 := Heap.size_push ..
  rw [hsz] at hp hz4 ⊢
  exact hQ _ (Heap.get?_push_of_some _ hz₃) (h1₃.at fun o e => Heap.get?_push_of_some _ e) (h2₃.at fun o e => Heap.get?_push_of_some _ e) hp hz4 fun c o c1 c2 c3 e => Heap.get?_push_of_some _ (hk c o c1 c2 c3 e)

theorem zipT_end_held {z TI TO T i1 i2 l1 l2 : Addr} {f : Bool} {oT : Obj} {k1 k2 : Nat} {xs ys : Array Value} {Q : Fin → Shared → Prop} (hh : A.handled = none) (D : ZipApart z TI TO i1 i2 l1 l2)
    (hz : IsZipHeld s.heap z TI TO T f) (hT : s.heap.get? T = some oT) (hTI : IsPair s.heap TI (.ref i1) (.ref i2))
    (h1 : s.heap.IsTupleIter i1 l1 k1) (h2 : s.heap.IsTupleIter i2 l2 k2) (hl1 : s.heap.IsTuple l1 xs) (hl2 : s.heap.IsTuple l2 ys) (hend : xs[k1]? = none ∨ ys[k2]? = none)
    (hE : ∀ h' e, (∀ c o, c ≠ z → c ≠ i1 → c ≠ i2 → s.heap.get? c = some o → h'.get? c = some o) → (∃ o, h'.get? e = some o ∧ o.cls = .type "StopIteration") → E (.ref e) { s with heap := h' }) :
    wpAny (model prog w) A (Builtin.«zip.__next__» ⟨[.ref z], []⟩) Q E s := by
  show wpAny _ _ (field (.ref z) 2 >>= _) _ _ _
  refine wpAny_bind (wpAny_field hz rfl (x := .bool false) rfl ?_)
  show wpAny _ _ (field (.ref z) 3 >>= _) _ _ _
  refine wpAny_bind (wpAny_field hz rfl (x := .ref TI) rfl ?_)
  refine wpAny_bind (wpAny_seqItems hTI rfl ?_)
  show wpAny _ _ (Builtin.SmallTypes.ownedTupleIsFree (.ref z) >>= _) _ _ _
  refine wpAny_bind (wpAny_tupleHeld_zip hz hT fun h₁ hz₁ hs₁ => ?_)
  simp only [Bool.false_eq_true, if_false]
  refine wpAny_bind ?_
  rw [← Array.forIn_toList]
  simp only [List.forIn_cons, List.forIn_nil]
  refine wpAny_bind (wpAny_bind (wpAny_holding ?_))
  show wpAny _ _ (Builtin.SmallTypes.nextOf (.ref i1) >>= _) _ _ _
  cases hx : xs[k1]? with
  | none =>
    refine wpAny_bind (RZ.nextOf_tuple_end (s := { s with heap := h₁ }) hh (h1.extBut hs₁.extBut D.i1z) (hl1.extBut hs₁.extBut D.l1z) hx fun h₂ e hs₂ he => ?_)
    exact hE h₂ e (fun c o c1 c2 _ x => hs₂ _ _ c2 (hs₁.extBut _ _ c1 x)) he
  | some x =>
    have hy : ys[k2]? = none := by rcases hend with h | h; rw [hx] at h; cases h; exact h
    refine wpAny_bind (RZ.nextOf_tuple_item (s := { s with heap := h₁ }) (h1.extBut hs₁.extBut D.i1z) (hl1.extBut hs₁.extBut D.l1z) hx fun h₂ h1₂ hs₂ => wpAny_pure ?_)
    refine wpAny_pure ?_
    refine wpAny_bind (wpAny_bind (wpAny_holding ?_))
    show wpAny _ _ (Builtin.SmallTypes.nextOf (.ref i2) >>= _) _ _ _
    refine wpAny_bind (RZ.nextOf_tuple_end (s := { s with heap := h₂ }) hh ((h2.extBut hs₁.extBut D.i2z).extBut hs₂.extBut D.i12.symm) ((hl2.extBut hs₁.extBut D.l2z).extBut hs₂.extBut D.l2i1) hy fun h₃ e hs₃ he => ?_)
    exact hE h₃ e (fun c o c1 c2 c3 x => hs₃ _ _ c3 (hs₂.extBut _ _ c2 (hs₁.extBut _ _ c1 x))) he

theorem pyNext_zipT_item_held {z TI TO T i1 i2 l1 l2 : Addr} {f : Bool} {oT : Obj} {k1 k2 : Nat} {xs ys : Array Value} {x y : Value} {Q : Option Value → Shared → Prop} (D : ZipApart z TI TO i1 i2 l1 l2)
    (hz : IsZipHeld s.heap z TI TO T f) (hT : s.heap.get? T = some oT) (hTI : IsPair s.heap TI (.ref i1) (.ref i2))
    (h1 : s.heap.IsTupleIter i1 l1 k1) (h2 : s.heap.IsTupleIter i2 l2 k2) (hl1 : s.heap.IsTuple l1 xs) (hl2 : s.heap.IsTuple l2 ys) (hx : xs[k1]? = some x) (hy : ys[k2]? = some y)
    (hQ : ∀ h', IsZipHeld h' z TI TO T true → h'.IsTupleIter i1 l1 (k1 + 1) → h'.IsTupleIter i2 l2 (k2 + 1) → IsPair h' s.heap.objs.size x y → h'.objs.size = s.heap.objs.size + 1 →
      (∀ c o, c ≠ z → c ≠ i1 → c ≠ i2 → s.heap.get? c = some o → h'.get? c = some o) → Q (some (.ref s.heap.objs.size)) { s with heap := h' }) :
    wpAny (model prog w) A (pyNext (.ref z)) Q E s := by
  have hTy : s.TypeIs (.ref z) "zip" := ⟨_, hz, rfl⟩
  unfold pyNext
  exact wpAny_bind (wpAny_attempt (wpAny_callSpecial?_slot (name := Str.ofString "__next__") hTy F.slot_zip_next
    (wpAny_call_entry F.slot_zip_next hTy F.entry_zip_next
      (zipT_item_held D hz hT hTI h1 h2 hl1 hl2 hx hy fun h' a1 a3 a4 a5 a6 a7 => wpAny_pure (hQ h' a1 a3 a4 a5 a6 a7)) (F.args_zip_next_1 _))))
theorem pyNext_zipT_end_held {z TI TO T i1 i2 l1 l2 : Addr} {f : Bool} {oT : Obj} {k1 k2 : Nat} {xs ys : Array Value} {Q : Option Value → Shared → Prop} (hh : A.handled = none) (D : ZipApart z TI TO i1 i2 l1 l2)
    (hz : IsZipHeld s.heap z TI TO T f) (hT : s.heap.get? T = some oT) (hTI : IsPair s.heap TI (.ref i1) (.ref i2))
    (h1 : s.heap.IsTupleIter i1 l1 k1) (h2 : s.heap.IsTupleIter i2 l2 k2) (hl1 : s.heap.IsTuple l1 xs) (hl2 : s.heap.IsTuple l2 ys) (hend : xs[k1]? = none ∨ ys[k2]? = none)
    (hQ : ∀ h', (∀ c o, c ≠ z → c ≠ i1 → c ≠ i2 → s.heap.get? c = some o → h'.get? c = some o) → Q none { s with heap := h' }) : wpAny (model prog w) A (pyNext (.ref z)) Q E s := by
  have hTy : s.TypeIs (.ref z) "zip" := ⟨_, hz, rfl⟩
  unfold pyNext
  refine wpAny_bind (wpAny_attempt (wpAny_callSpecial?_slot (name := Str.ofString "__next__") hTy F.slot_zip_next
    (wpAny_call_entry F.slot_zip_next hTy F.entry_zip_next (zipT_end_held hh D hz hT hTI h1 h2 hl1 hl2 hend fun h' e hk he => ?_) (F.args_zip_next_1 _))))
  obtain ⟨o, ho, hc⟩ := he
  refine wpAny_bind (wpAny_isInstance (T := "StopIteration") (b := true) ⟨o, ho, hc⟩ isSubtype_stop ?_)
  exact wpAny_pure (hQ _ hk)

end
section
variable {prog : Program} {w : World}
theorem pairArg_zipT (z TI TO i1 i2 l1 l2 : Addr) (D : ZipApart z TI TO i1 i2 l1 l2) (xs ys : Array Value) :
    PairArg prog w "zip" z [z, TI, TO, i1, i2, l1, l2] [z, TO, i1, i2] (min xs.size ys.size) (fun i k v => xs[i]? = some k ∧ ys[i]? = some v)
      (fun h => IsZip h z TI TO .none ∧ IsPair h TI (.ref i1) (.ref i2) ∧ (∃ a b, IsPair h TO a b) ∧ h.IsTupleIter i1 l1 0 ∧ h.IsTupleIter i2 l2 0 ∧ h.IsTuple l1 xs ∧ h.IsTuple l2 ys) where
  type := fun s ok => ⟨_, ok.1, rfl⟩
  notDict := by decide
  keep := fun h h' ok hk => by
    obtain ⟨hz, hTI, ⟨a, b, hTO⟩, h1, h2, hl1, hl2⟩ := ok
    exact ⟨hk _ _ hz, hk _ _ hTI, ⟨a, b, hk _ _ hTO⟩, h1.at fun o e => hk _ o e, h2.at fun o e => hk _ o e, hl1.at fun o e => hk _ o e, hl2.at fun o e => hk _ o e⟩
  there := fun h ok b hb => by
    obtain ⟨hz, hTI, ⟨a, c, hTO⟩, ⟨o1, h1, _⟩, ⟨o2, h2, _⟩, ⟨o3, hl1, _⟩, ⟨o4, hl2, _⟩⟩ := ok
    simp only [List.mem_cons, List.not_mem_nil, or_false] at hb
    rcases hb with rfl | rfl | rfl | rfl | rfl | rfl | rfl
    all_goals first | exact ⟨_, hz⟩ | exact ⟨_, hTI⟩ | exact ⟨_, hTO⟩ | exact ⟨_, h1⟩ | exact ⟨_, h2⟩ | exact ⟨_, hl1⟩ | exact ⟨_, hl2⟩
  sub := fun b hb => by simp at hb ⊢; rcases hb with rfl | rfl | rfl | rfl <;> simp
  noKeys := fun A s Q E hA ok h => getAttrOr_miss_zip ok.1 rfl rfl rfl zip_no_keys (by decide +kernel) hA h
  iter := fun A s d Q E hA ok hd hdf h => by
    obtain ⟨hz, hTI, ⟨a, b, hTO⟩, h1, h2, hl1, hl2⟩ := ok
    simp only [List.mem_cons, List.not_mem_nil, or_false, not_or] at hdf
    obtain ⟨dz, dTI, dTO, di1, di2, dl1, dl2⟩ := hdf
    refine wpAny_pyIter_zip hz (h z [z, TO, i1, i2] (fun i h => IsPair h TI (.ref i1) (.ref i2) ∧ h.IsTupleIter i1 l1 i ∧ h.IsTupleIter i2 l2 i ∧ h.IsTuple l1 xs ∧ h.IsTuple l2 ys ∧
      ((IsZip h z TI TO .none ∧ ∃ a b, IsPair h TO a b) ∨ ∃ T f oT, IsZipHeld h z TI TO T f ∧ h.get? T = some oT ∧ T ≠ z ∧ T ≠ i1 ∧ T ≠ i2 ∧ T ≠ d)) s.heap s.toks ?_
      ⟨hTI, h1, h2, hl1, hl2, .inl ⟨hz, a, b, hTO⟩⟩ (fun _ _ e => e) fun b hb => .inl hb)
    exact {
      off := fun hm => by
        simp only [List.mem_cons, List.not_mem_nil, or_false] at hm
        rcases hm with e | e | e | e
        · exact dz e
        · exact dTO e
        · exact di1 e
        · exact di2 e
      frame := fun i h₁ h₂ st hk => by
        obtain ⟨hTI, h1, h2, hl1, hl2, hz⟩ := st
        refine ⟨hk _ _ (Ne.symm dTI) hTI, h1.at fun o e => hk _ o (Ne.symm di1) e, h2.at fun o e => hk _ o (Ne.symm di2) e, hl1.at fun o e => hk _ o (Ne.symm dl1) e, hl2.at fun o e => hk _ o (Ne.symm dl2) e, ?_⟩
        rcases hz with ⟨hz, a, b, hTO⟩ | ⟨T, f, oT, hz, hT, r1, r2, r3, r4⟩
        · exact .inl ⟨hk _ _ (Ne.symm dz) hz, a, b, hk _ _ (Ne.symm dTO) hTO⟩
        · exact .inr ⟨T, f, oT, hk _ _ (Ne.symm dz) hz, hk _ _ r4 hT, r1, r2, r3, r4⟩
      item := fun i s₁ Q₁ E₁ hi st hds hQ => by
        obtain ⟨hTI, h1, h2, hl1, hl2, hz⟩ := st
        have hix : i < xs.size := Nat.lt_of_lt_of_le hi (Nat.min_le_left ..)
        have hiy : i < ys.size := Nat.lt_of_lt_of_le hi (Nat.min_le_right ..)
        have ex := Array.getElem?_eq_getElem hix
        have ey := Array.getElem?_eq_getElem hiy
        have lt : ∀ {c o}, s₁.heap.get? c = some o → s₁.heap.objs.size ≠ c := fun e => Nat.ne_of_gt (Heap.lt_size e)
        have n1 : s₁.heap.objs.size ≠ i1 := let ⟨_, e, _⟩ := h1; lt e
        have n2 : s₁.heap.objs.size ≠ i2 := let ⟨_, e, _⟩ := h2; lt e
        rcases hz with ⟨hz, a, b, hTO⟩ | ⟨T, f, oT, hz, hT, r1, r2, r3, r4⟩
        · refine RZ.pyNext_zipT_item D hz hTI hTO h1 h2 hl1 hl2 ex ey fun h' a1 a2 a3 a4 a5 a6 hk => ?_
          exact hQ s₁.heap.objs.size _ _ h' s₁.toks ⟨ex, ey⟩ (.inl ⟨_, a5, rfl, _, rfl⟩)
            ⟨hk _ _ D.TIz D.TITO D.TIi1 D.TIi2 hTI, a3, a4, hl1.at fun o e => hk _ o D.l1z D.l1TO D.l1i1 D.l1i2 e, hl2.at fun o e => hk _ o D.l2z D.l2TO D.l2i1 D.l2i2 e,
              .inr ⟨s₁.heap.objs.size, false, _, a1, a5, lt hz, n1, n2, Nat.ne_of_gt hds⟩⟩
            fun c o hc e => hk c o (fun x => hc (by simp [x])) (fun x => hc (by simp [x])) (fun x => hc (by simp [x])) (fun x => hc (by simp [x])) e
        · refine pyNext_zipT_item_held D hz hT hTI h1 h2 hl1 hl2 ex ey fun h' a1 a3 a4 a5 a6 hk => ?_
          exact hQ s₁.heap.objs.size _ _ h' s₁.toks ⟨ex, ey⟩ (.inl ⟨_, a5, rfl, _, rfl⟩)
            ⟨hk _ _ D.TIz D.TIi1 D.TIi2 hTI, a3, a4, hl1.at fun o e => hk _ o D.l1z D.l1i1 D.l1i2 e, hl2.at fun o e => hk _ o D.l2z D.l2i1 D.l2i2 e,
              .inr ⟨T, true, oT, a1, hk _ _ r1 r2 r3 hT, r1, r2, r3, r4⟩⟩
            fun c o hc e => hk c o (fun x => hc (by simp [x])) (fun x => hc (by simp [x])) (fun x => hc (by simp [x])) e
      done := fun s₁ Q₁ E₁ st hQ => by
        obtain ⟨hTI, h1, h2, hl1, hl2, hz⟩ := st
        have hend : xs[min xs.size ys.size]? = none ∨ ys[min xs.size ys.size]? = none := by
          rcases Nat.le_total xs.size ys.size with h | h
          · exact .inl (Array.getElem?_eq_none (by rw [Nat.min_eq_left h]; exact Nat.le_refl _))
          · exact .inr (Array.getElem?_eq_none (by rw [Nat.min_eq_right h]; exact Nat.le_refl _))
        rcases hz with ⟨hz, a, b, hTO⟩ | ⟨T, f, oT, hz, hT, r1, r2, r3, r4⟩
        · exact RZ.pyNext_zipT_end hA D hz hTI hTO h1 h2 hl1 hl2 hend fun h' hk => hQ h' s₁.toks fun c o hc e => hk c o (fun x => hc (by simp [x])) (fun x => hc (by simp [x])) (fun x => hc (by simp [x])) (fun x => hc (by simp [x])) e
        · exact pyNext_zipT_end_held hA D hz hT hTI h1 h2 hl1 hl2 hend fun h' hk => hQ h' s₁.toks fun c o hc e => hk c o (fun x => hc (by simp [x])) (fun x => hc (by simp [x])) (fun x => hc (by simp [x])) e }


end
end PySem
namespace L2.DL
open PySem PySem.Spec PyProof.Rows
section
variable {X : Cx}
def wDictZipT (wa wb : WE) : WE := fun sd S Q => wa sd S fun x S1 => wb sd S1 fun y S2 => ∃ (ks : List Str) (ds : List D), asTup x = some (ks.map D.str) ∧ asTup y = some ds ∧ ks.length = ds.length ∧ ks.length ≤ 1000 ∧ Q (.dic false (dputsL [] ((ks.map D.str).zip ds))) S2
theorem xDictZipT {wa wb : WE} {sd : SD} {S : SO} {Q : KD} (h : wa sd S fun x S1 => wb sd S1 fun y S2 => ∃ (ks : List Str) (ds : List D), asTup x = some (ks.map D.str) ∧ asTup y = some ds ∧ ks.length = ds.length ∧ ks.length ≤ 1000 ∧ Q (.dic false (dputsL [] ((ks.map D.str).zip ds))) S2) : wDictZipT wa wb sd S Q := h
theorem tupd_at {K : PySem.W.Frag} {S : SO} {H : Hp} {d : D} {v : V} {xs : List D} (r : Rel K S H d v) (e : asTup d = some xs) : ∃ a vs, v = .ref a ∧ SqT K H a vs ∧ Rels K S H xs vs := asTup_at r e
def tDictZipT (K : PySem.W.Frag) (ta tb : TE) : TE := fun σ H Q => ta σ H fun v H1 => tb σ H1 fun u H2 => ∃ (a b : Addr) (ks : List Str) (vs : List V), v = .ref a ∧ u = .ref b ∧ SqT K H2 a (ks.map V.str) ∧ SqT K H2 b vs ∧ ks.length = vs.length ∧ ks.length ≤ 1000 ∧ ∀ p, H2 p = none → Q (.ref p) (upd H2 p (.dK (mergeK [] ((ks.map fun k => (.inr k : Key)).zip vs))))
theorem pe_dictzipT {e1 e2 : Expr} {ta tb : TE} {p p2 pos pos2 : Pos} (hc : X.calm = true) (hg : Gl X "dict") (hm : X.mg "dict" = none) (hv : bootBuiltins "dict" = some (.type "dict")) (hg2 : Gl X "zip") (hm2 : X.mg "zip" = none) (hv2 : bootBuiltins "zip" = some (.type "zip")) (ha : PE X e1 ta) (hb : PE X e2 tb)
    (s1 : starEach [e1, e2] X.env = (false, eval e1 X.env) :: starEach [e2] X.env := by rfl) (s2 : starEach [e2] X.env = (false, eval e2 X.env) :: starEach [] X.env := by rfl) (pl : (backTo pos2 (starEach [e2] X.env)).any (·.1) = false := by rfl)
    (s3 : starEach [.Call (.Name "zip" p2) [e1, e2] [] pos2] X.env = (false, eval (.Call (.Name "zip" p2) [e1, e2] [] pos2) X.env) :: starEach [] X.env := by rfl) : PE X (.Call (.Name "dict" p) [.Call (.Name "zip" p2) [e1, e2] [] pos2] [] pos) (tDictZipT X.K ta tb) := by
  refine ⟨fun pins s σ H Q I h => ?_⟩
  refine Call_ (ld_blt I hg hm hv (PyProof.Rows.callWith_type1 (PyProof.Rows.args_cons ?_ s3) s3 rfl))
  refine Call_ (ld_blt I hg2 hm2 hv2 (PyProof.Rows.callWith_type1 (PyProof.Rows.args_cons (thn (ha.run pins s σ H _ I h) fun v s4 ⟨x, H1, I1, r1, q1⟩ => PyProof.Rows.args_cons (thn (hb.run pins s4 σ H1 _ I1 q1) fun u s5 ⟨y, H2, I2, r2, q2⟩ => PyProof.Rows.args_nil ?_) s2) s1) s1 pl))
  obtain ⟨a, b, ks, vs, rfl, rfl, qa, qb, hl, hk, q⟩ := q2
  cases r1
  cases r2
  obtain ⟨it1, rr1, pl1, z1⟩ := I2.tuple qa
  obtain ⟨it2, rr2, pl2, z2⟩ := I2.tuple qb
  have l1 := rr1.length
  have l2 := rr2.length
  rw [List.length_map] at l1
  have big : ∀ {c : Addr} {xs : Array Value}, s5.heap.IsTuple c xs → c < s5.heap.objs.size := fun ⟨o, ho, _⟩ => Heap.lt_size ho
  have ba := big pl1
  have bb := big pl2
  refine RZ.call_zipT pl1 pl2 fun h' g1 g2 g3 g4 g5 g6 kp => PyProof.Rows.args_nil ?_
  have ap := zipApart_new ba bb
  have le : s5.heap.objs.size ≤ h'.objs.size := by rw [g6]; exact Nat.le_add_right _ _
  have rel := kv_zip (ks := ks) rr2
  have zl : ((ks.map fun k => (.inr k : Key)).zip it2).length = ks.length := by
    rw [List.length_zip, List.length_map]
    omega
  refine PySem.call_dict_pairs (s := { s5 with heap := h' }) (knd := mixKind X.prog X.w) (kvs := (ks.map fun k => (.inr k : Key)).zip it2) (PySem.pairArg_zipT _ _ _ _ _ a b ap it1.toArray it2.toArray) (I2.ok.hd hc) ⟨g1, g2, ⟨_, _, g3⟩, g4, g5, (show s5.heap.IsTuple a it1.toArray from pl1).at fun o e => kp _ o e, (show s5.heap.IsTuple b it2.toArray from pl2).at fun o e => kp _ o e⟩ ⟨?_, fun i key v ⟨e1, e2⟩ => ?_⟩ ?_ fun h2 tk hd hk => ?_
  · rw [zl, List.size_toArray, List.size_toArray]
    omega
  · obtain ⟨k, hk1, hk2⟩ := strs_mix rr1 (i := i) (v := key) (by simpa using e1)
    refine ⟨.inr k, ?_, hk2⟩
    rw [List.getElem?_zip_eq_some, List.getElem?_map, hk1]
    exact ⟨rfl, by simpa using e2⟩
  · rw [List.size_toArray, List.size_toArray, sizeLine_eq]
    omega
  · have keep : ∀ c u, s5.heap.get? c = some u → h2.get? c = some u := fun c u e => hk c u (fun z => by
      have lt := Heap.lt_size e
      have ge : ∀ m, c = s5.heap.objs.size + m → False := fun m e => absurd lt (by rw [e]; exact Nat.not_lt.mpr (Nat.le_add_right _ _))
      simp only [List.mem_cons, List.not_mem_nil, or_false] at z
      rcases z with z | z | z | z
      · exact ge 4 z
      · exact ge 3 z
      · exact ge 0 z
      · exact ge 1 z) (kp c u e)
    have hm : (h'.objs.size == sysModules) = false := beq_eq_false_iff_ne.mpr (Nat.ne_of_gt (Nat.lt_of_lt_of_le I2.big le))
    have hlen : (mergeK [] ((ks.map fun k => (.inr k : Key)).zip vs)).length ≤ sizeLine := by
      refine Nat.le_trans (length_mergeK _ []) ?_
      rw [List.length_nil, Nat.zero_add, List.length_zip, List.length_map, sizeLine_eq]
      omega
    exact ⟨.ref h'.objs.size, upd H2 h'.objs.size (.dK (mergeK [] ((ks.map fun k => (.inr k : Key)).zip vs))), I2.laid (t' := tk) keep le (show ObjOk X.prog X.w _ _ _ (.dK (mergeK [] ((ks.map fun k => (.inr k : Key)).zip vs))) from ⟨hlen, hm, merged [] _, KV.merge rel .nil, hd⟩), rfl, q _ (I2.hok.fresh le)⟩
theorem de_dictzipT {e1 e2 : Expr} {wa wb : WE} {p p2 pos pos2 : Pos} (hc : X.calm = true) (hg : Gl X "dict") (hm : X.mg "dict" = none) (hv : bootBuiltins "dict" = some (.type "dict")) (hg2 : Gl X "zip") (hm2 : X.mg "zip" = none) (hv2 : bootBuiltins "zip" = some (.type "zip")) (ha : DE X e1 wa) (hb : DE X e2 wb)
    (s1 : starEach [e1, e2] X.env = (false, eval e1 X.env) :: starEach [e2] X.env := by rfl) (s2 : starEach [e2] X.env = (false, eval e2 X.env) :: starEach [] X.env := by rfl) (pl : (backTo pos2 (starEach [e2] X.env)).any (·.1) = false := by rfl)
    (s3 : starEach [.Call (.Name "zip" p2) [e1, e2] [] pos2] X.env = (false, eval (.Call (.Name "zip" p2) [e1, e2] [] pos2) X.env) :: starEach [] X.env := by rfl) : DE X (.Call (.Name "dict" p) [.Call (.Name "zip" p2) [e1, e2] [] pos2] [] pos) (wDictZipT wa wb) := by
  refine pe_imp (pe_dictzipT hc hg hm hv hg2 hm2 hv2 ha hb s1 s2 pl s3) fun σ H Q h => ?_
  obtain ⟨sd, S, Q0, st, q, an⟩ := h
  refine ⟨sd, S, _, st, q, fun x S1 v H1 q1 n1 t1 r1 => ⟨sd, S1, _, st.nx n1 t1, q1, fun y S2 u H2 q2 n2 t2 r2 => ?_⟩⟩
  obtain ⟨ks, ds, ex, ey, hl, hk, q2⟩ := q2
  obtain ⟨a, xs, rfl, hq, rv⟩ := tupd_at (Rel.nx n2 _ _ r1) ex
  obtain ⟨b, ys, rfl, hq2, ru⟩ := tupd_at r2 ey
  have ev := rels_strs rv
  subst ev
  refine ⟨a, b, ks, ys, rfl, rfl, hq, hq2, by rw [hl, ru.length], hk, fun p hp => ?_⟩
  exact an.nx (n1.trans n2) _ _ _ _ q2 (nx_new hp) (t2.new hp) ⟨p, rfl, t2.free hp, .inl ⟨_, rfl, upd_same, RelK.nx (nx_new hp) _ _ (relk_zip ru rfl)⟩⟩
end
end L2.DL

/-! DL52: slices of a tuple of any kind, the whole one told too; + of tuples, one of them empty too -/
namespace L2.DL
open PySem PySem.Spec PyProof.Rows
section
variable {X : Cx}
end
end L2.DL

namespace L2.DL
open PySem PySem.Spec PyProof.Rows
end L2.DL
namespace L2.DL
open PySem PySem.Spec PyProof.Rows
abbrev LETTERS : Str := "abcdefghijklmnopqrstuvwxyz"
def nameOk (x : Str) : Bool := decide (0 < x.length) && (decide (x.length < 9) && x.cps.toList.all fun c => decide (c ∈ LETTERS.cps.toList))
def sp_is_name (W : Addr) : DSp := fun ds S Q E => ∃ x : Str, ds = [.str x] ∧ x.length ≤ 1000000 ∧ Q (.bl (nameOk x)) S
def w_is_name (W : Addr) : WS := (wRet (wAndV (wCall (cIsi (.ty "str") (fTy "str" [])) (wCons (wV 0) (wCons (wC (.ty "str")) wNil))) (wAndV (wCh oLt oLt (wC (.int 0)) (wCall cLen (wCons (wV 0) wNil)) (wC (.int 9))) (wCall cAll (wCons (wLcP (wStrI (wV 0)) (.n 1) wYes (wO oIn (wV 1) (wC (.str "abcdefghijklmnopqrstuvwxyz"))) [1]) wNil)))))
theorem pure_is_name (W : Addr) : ∀ ds S Q E, sp_is_name W ds S Q E → w_is_name W (endsOf Q) (startD ["value", "sign"] ds) S := by
  rintro ds S Q E ⟨x, rfl, hx, q⟩
  refine ⟨rfl, _, _, rfl, rfl, isY rfl ⟨hx, trivial, ?_⟩⟩
  refine isC (fun h0 => ⟨trivial, isC (fun h1 => ?_) fun h1 => cl ?_⟩) fun h0 => isN rfl (cl ?_)
  · refine lcP_map (signsD x) (fun d => match d with | .str z => .bl (strIn z LETTERS) | _ => .non) ⟨rfl, rfl⟩ (by rw [signs_len]; exact hx) (fun d hd S' e => ?_) ⟨x.cps.toList.map fun c => decide (c ∈ LETTERS.cps.toList), ?_, cl ?_⟩
    · obtain ⟨c, hc, rfl⟩ := List.mem_map.mp hd
      exact ⟨rfl, rfl⟩
    · show some _ = some _
      unfold signsD
      rw [List.map_map, List.map_map]
      congr 1
      refine List.map_congr_left fun c hc => ?_
      show D.bl (strIn ⟨#[c]⟩ LETTERS) = _
      rw [strIn_one]
      rfl
    · have e : nameOk x = (List.map (fun c => decide (c ∈ LETTERS.cps.toList)) x.cps.toList).all id := by
        have h0' : (0 : Int) < x.length := of_decide_eq_true h0
        have h1' : (x.length : Int) < 9 := of_decide_eq_true h1
        unfold nameOk
        rw [decide_eq_true (by omega), decide_eq_true (by omega), List.all_map]
        rfl
      rw [← e]
      exact q
  · have h1' : ¬ (x.length : Int) < 9 := of_decide_eq_false h1
    have e : nameOk x = false := by
      unfold nameOk
      rw [decide_eq_false (show ¬ x.length < 9 by omega)]
      simp
    rw [e] at q
    exact q
  · have h1' : ¬ (0 : Int) < x.length := of_decide_eq_false h0
    have e : nameOk x = false := by
      unfold nameOk
      rw [decide_eq_false (show ¬ 0 < x.length by omega)]
      simp
    rw [e] at q
    exact q
end L2.DL

namespace L2.DL
open PySem PySem.Spec PyProof.Rows
/-! ### names, places, ties as data -/
abbrev plD (ps : List Str) : List D := ps.map D.str
def prD (t : Str × Str) : D := .tup [.str t.1, .str t.2]
def mkD (ts : List (Str × Str)) : List (D × D) := ts.map fun t => (prD t, .bl true)
def webD (W : Addr) (ps : List Str) (ts : List (Str × Str)) : D := .ins W [("row", .tf (plD ps)), ("pairs", .tf (ts.map prD)), ("marks", .dic true (mkD ts))]
structure WebOk (ps : List Str) (ts : List (Str × Str)) : Prop where
  pos : 0 < ps.length
  few : ps.length ≤ 40
  nm : ∀ p ∈ ps, nameOk p = true
  nd : ps.Nodup
  tfew : ts.length ≤ 200
  tie : ∀ t ∈ ts, t.1 ∈ ps ∧ t.2 ∈ ps ∧ t.1 ≠ t.2
  tnd : ts.Nodup
def isi_Web (W : Addr) : Addr → Option Bool := fun C => if C = W then some true else none
abbrev sOk (x : Str) : Prop := PyData.canLay0 (.str x) = true
theorem sOk_of {x : Str} (h : ∀ c ∈ x.cps.toList, c < 0x110000) : sOk x := by
  show PyData.canLay0 (.str x) = true
  simp only [PyData.canLay0, PyData.strOk]
  rw [Array.all_eq_true_iff_forall_mem]
  intro c hc
  exact decide_eq_true (h c (by simpa using hc))
theorem letters_small : ∀ c ∈ LETTERS.cps.toList, c < 0x110000 := by decide +kernel
theorem name_chars {x : Str} (h : nameOk x = true) : 0 < x.length ∧ x.length < 9 ∧ ∀ c ∈ x.cps.toList, c ∈ LETTERS.cps.toList := by
  unfold nameOk at h
  rw [Bool.and_eq_true, Bool.and_eq_true] at h
  refine ⟨of_decide_eq_true h.1, of_decide_eq_true h.2.1, fun c hc => ?_⟩
  exact of_decide_eq_true (List.all_eq_true.mp h.2.2 c hc)
theorem name_sOk {x : Str} (h : nameOk x = true) : sOk x := sOk_of fun c hc => letters_small c ((name_chars h).2.2 c hc)
theorem name_len {x : Str} (h : nameOk x = true) : x.length ≤ 1000000 := by have := (name_chars h).2.1; omega
theorem pyDs_strs : ∀ xs : List Str, pyDs (plD xs) = some (xs.map PyData.str)
  | [] => rfl
  | x :: xs => by
    show (pyD (.str x)).bind (fun p => (pyDs (plD xs)).map fun ps => p :: ps) = _
    rw [pyDs_strs xs]
    rfl
def prP (t : Str × Str) : PyData := .tuple [.str t.1, .str t.2]
theorem pyDs_prs : ∀ xs : List (Str × Str), pyDs (xs.map prD) = some (xs.map prP)
  | [] => rfl
  | x :: xs => by
    show (pyD (prD x)).bind (fun p => (pyDs (xs.map prD)).map fun ps => p :: ps) = _
    rw [pyDs_prs xs]
    rfl
theorem canLayAll_map {α : Type} {f : α → PyData} : ∀ {xs : List α}, (∀ x ∈ xs, (f x).canLay0 = true) → PyData.canLayAll0 (xs.map f) = true
  | [], _ => by simp [PyData.canLayAll0]
  | x :: xs, h => by
    rw [List.map_cons]
    simp only [PyData.canLayAll0, Bool.and_eq_true]
    exact ⟨h x (List.mem_cons_self ..), canLayAll_map fun y hy => h y (List.mem_cons_of_mem _ hy)⟩
theorem depthAll_map {α : Type} {f : α → PyData} {n : Nat} : ∀ {xs : List α}, (∀ x ∈ xs, (f x).depth ≤ n) → PyData.depthAll (xs.map f) ≤ n
  | [], _ => by simp [PyData.depthAll]
  | x :: xs, h => by
    rw [List.map_cons]
    simp only [PyData.depthAll]
    exact Nat.max_le.mpr ⟨h x (List.mem_cons_self ..), depthAll_map fun y hy => h y (List.mem_cons_of_mem _ hy)⟩
theorem shaped_of {p : PyData} (h : p.canLay0 = true) (hd : p.depth ≤ 64) : SeqAt.shaped p = true := by
  unfold SeqAt.shaped
  rw [h, decide_eq_true hd]
  rfl
theorem shaped_str {x : Str} (h : sOk x) : SeqAt.shaped (.str x) = true := shaped_of h (by simp [PyData.depth])
theorem shaped_list {α : Type} {f : α → PyData} {n : Nat} {xs : List α} (hn : n + 1 ≤ 64) (h : ∀ x ∈ xs, (f x).canLay0 = true) (hd : ∀ x ∈ xs, (f x).depth ≤ n) : SeqAt.shaped (.list (xs.map f)) = true := by
  refine shaped_of ?_ ?_
  · simp only [PyData.canLay0]
    exact canLayAll_map h
  · simp only [PyData.depth]
    have := depthAll_map hd
    omega
theorem prP_lay {t : Str × Str} (h1 : sOk t.1) (h2 : sOk t.2) : (prP t).canLay0 = true := by
  show PyData.canLayAll0 [.str t.1, .str t.2] = true
  simp only [PyData.canLayAll0, Bool.and_eq_true]
  exact ⟨h1, h2, trivial⟩
theorem prP_depth (t : Str × Str) : (prP t).depth ≤ 1 := by simp [prP, PyData.depth, PyData.depthAll]
theorem eqv_str (a b : Str) : PyData.eqv (.str a) (.str b) = decide (a = b) := by
  simp only [PyData.eqv]
  by_cases h : a = b
  · rw [h]
    simp
  · rw [decide_eq_false h]
    simpa using h
theorem eqv_pr (a b : Str × Str) : PyData.eqv (prP a) (prP b) = decide (a = b) := by
  obtain ⟨a1, a2⟩ := a
  obtain ⟨b1, b2⟩ := b
  show (PyData.eqv (.str a1) (.str b1) && (PyData.eqv (.str a2) (.str b2) && PyData.eqvAll [] [])) = _
  rw [eqv_str, eqv_str]
  simp only [PyData.eqvAll, Bool.and_true, Prod.mk.injEq]
  by_cases h1 : a1 = b1 <;> by_cases h2 : a2 = b2 <;> simp [h1, h2]
theorem memStr {S : SO} {x : Str} {xs : List Str} {k : Bool → Prop} (hx : sOk x) (hxs : ∀ y ∈ xs, sOk y) (h : k (decide (x ∈ xs))) : memD S (.str x) (plD xs) k := by
  refine ⟨.str x, xs.map .str, rfl, pyDs_strs xs, shaped_str hx, shaped_list (n := 0) (by decide) hxs (fun y _ => by simp [PyData.depth]), ?_⟩
  have e : (xs.map PyData.str).any (fun z => PyData.eqv z (.str x)) = decide (x ∈ xs) := by
    rw [List.any_map]
    by_cases hm : x ∈ xs
    · rw [decide_eq_true hm, List.any_eq_true]
      exact ⟨x, hm, by show PyData.eqv (.str x) (.str x) = true; rw [eqv_str]; simp⟩
    · rw [decide_eq_false hm, List.any_eq_false]
      intro y hy
      show ¬ PyData.eqv (.str y) (.str x) = true
      rw [eqv_str]
      simp only [decide_eq_true_eq]
      exact fun e => hm (e ▸ hy)
  rw [e]
  exact h
theorem memPr {S : SO} {x : Str × Str} {xs : List (Str × Str)} {k : Bool → Prop} (hx : sOk x.1 ∧ sOk x.2) (hxs : ∀ y ∈ xs, sOk y.1 ∧ sOk y.2) (h : k (decide (x ∈ xs))) : memD S (prD x) (xs.map prD) k := by
  refine ⟨prP x, xs.map prP, rfl, pyDs_prs xs, shaped_of (prP_lay hx.1 hx.2) (Nat.le_trans (prP_depth x) (by decide)), shaped_list (n := 1) (by decide) (fun y hy => prP_lay (hxs y hy).1 (hxs y hy).2) (fun y _ => prP_depth y), ?_⟩
  have e : (xs.map prP).any (fun z => PyData.eqv z (prP x)) = decide (x ∈ xs) := by
    rw [List.any_map]
    by_cases hm : x ∈ xs
    · rw [decide_eq_true hm, List.any_eq_true]
      exact ⟨x, hm, by show PyData.eqv (prP x) (prP x) = true; rw [eqv_pr]; simp⟩
    · rw [decide_eq_false hm, List.any_eq_false]
      intro y hy
      show ¬ PyData.eqv (prP y) (prP x) = true
      rw [eqv_pr]
      simp only [decide_eq_true_eq]
      exact fun e => hm (e ▸ hy)
  rw [e]
  exact h
theorem prD_inj {a b : Str × Str} (h : prD a = prD b) : a = b := by
  obtain ⟨a1, a2⟩ := a
  obtain ⟨b1, b2⟩ := b
  unfold prD at h
  simp at h
  rw [h.1, h.2]
theorem prD_key (t : Str × Str) : keyOk true (prD t) := ⟨_, [.inr t.1, .inr t.2], rfl, rfl⟩
theorem dget_mk {t : Str × Str} : ∀ {ts : List (Str × Str)}, (dget (mkD ts) (prD t)).isSome = decide (t ∈ ts)
  | [] => rfl
  | u :: ts => by
    show (dget ((prD u, .bl true) :: mkD ts) (prD t)).isSome = _
    rw [dget_cons]
    by_cases h : u = t
    · rw [if_pos (by rw [h]), decide_eq_true (by rw [h]; exact List.mem_cons_self ..)]
      rfl
    · rw [if_neg fun e => h (prD_inj e), dget_mk]
      have e : (t ∈ u :: ts) = (t ∈ ts) := by
        rw [List.mem_cons]
        exact propext ⟨fun z => z.elim (fun e => absurd e.symm h) id, .inr⟩
      simp only [e]
theorem nodup_map {α β : Type} {f : α → β} (hf : ∀ a b, f a = f b → a = b) : ∀ {l : List α}, l.Nodup → (l.map f).Nodup
  | [], _ => List.nodup_nil
  | x :: xs, h => by
    have h' := List.nodup_cons.mp h
    rw [List.map_cons, List.nodup_cons]
    refine ⟨fun hm => ?_, nodup_map hf h'.2⟩
    obtain ⟨y, hy, e⟩ := List.mem_map.mp hm
    exact h'.1 (hf _ _ e ▸ hy)
theorem mk_keys (ts : List (Str × Str)) (h : ts.Nodup) : ((mkD ts).map (·.1)).Nodup := by
  unfold mkD
  rw [List.map_map]
  exact nodup_map (fun a b e => prD_inj e) h
theorem dputs_mk {ts : List (Str × Str)} (h : ts.Nodup) : dputsL [] (mkD ts) = mkD ts := by
  have := dputsL_nodup (kvs := mkD ts) (acc := []) (fun p _ => rfl) (mk_keys ts h)
  simpa using this
end L2.DL

namespace L2.DL
open PySem PySem.Spec PyProof.Rows
theorem sIx_hi {n j : Nat} (h : j ≤ n) : HT.sIx n n (some (j : Int)) = j := by
  unfold HT.sIx
  show (if (j : Int) < 0 then _ else _) = _
  rw [if_neg (by omega)]
  omega
theorem sIx_lo0 {n : Nat} : HT.sIx n 0 none = 0 := rfl
theorem cut_pre {xs : List D} {j : Nat} (h : j ≤ xs.length) : cutD xs none (some (j : Int)) = xs.take j := by
  unfold cutD
  rw [sIx_lo0, sIx_hi h]
  simp
/-! ### wrong_place -/
def PlacesOk (ps : List Str) : Prop := ps.length ≤ 40 ∧ (∀ p ∈ ps, nameOk p = true) ∧ ps.Nodup
def sp_wrong_place (W : Addr) : DSp := fun ds S Q E => ∃ ps : List Str, ds = [.tf (plD ps)] ∧ PlacesOk ps ∧ Q .non S
def w_wrong_place (W : Addr) : WS := (wSeq (wFor (wEnum (wCons (wV 0) wNil)) (gT 2 (gC (gV 1) (gC (gV 2) gN))) (wIfS (wOr (wB (wO oEq (wV 1) (wC (.int 40)))) (wOr (wNot (wB (wFn (sp_is_name W) [] (wCons (wV 2) wNil)))) (wB (wO oIn (wV 2) (wSl (wV 0) pNone (pSome (wV 1))))))) (wRet (wV 1)) wNext))
    (wRet (wC .non)))
theorem plD_get {ps : List Str} {i : Nat} {d : D} (h : (plD ps)[i]? = some d) : ∃ x, ps[i]? = some x ∧ d = .str x := by
  rw [List.getElem?_map] at h
  obtain ⟨x, hx, rfl⟩ := Option.map_eq_some_iff.mp h
  exact ⟨x, hx, rfl⟩
theorem nodup_take {α : Type} {xs : List α} {i : Nat} {x : α} (h : xs.Nodup) (hi : xs[i]? = some x) : x ∉ xs.take i := by
  obtain ⟨hl, e⟩ := List.getElem?_eq_some_iff.mp hi
  intro hm
  obtain ⟨j, hj, e2⟩ := List.mem_iff_getElem.mp hm
  rw [List.getElem_take] at e2
  rw [List.length_take] at hj
  have hp := List.pairwise_iff_getElem.mp h j i (by omega) hl (by omega)
  exact hp (e2.trans e.symm)
theorem pure_wrong_place (W : Addr) : ∀ ds S Q E, sp_wrong_place W ds S Q E → w_wrong_place W (endsOf Q) (startD ["values", "index", "value"] ds) S := by
  rintro ds S Q E ⟨ps, rfl, ⟨hf, hn, hd⟩, q⟩
  refine ⟨⟨fun i sd S' => S' = S ∧ ∃ a b, sd = [some (.tf (plD ps)), a, b], ⟨rfl, none, none, rfl⟩, fun _ _ _ _ => trivial, ?_, ?_⟩⟩
  · rintro i d sd S' hi ⟨rfl, a, b, rfl⟩
    obtain ⟨x, hx, rfl⟩ := enumD_get hi
    obtain ⟨n, hn', rfl⟩ := plD_get hx
    have hl := (List.getElem?_eq_some_iff.mp hn').1
    have hm : n ∈ ps := List.mem_of_getElem? hn'
    refine ⟨rfl, rfl, isN (decide_eq_false (by omega)) ⟨n, rfl, name_len (hn n hm), isY (hn n hm) ?_⟩⟩
    refine ⟨fun h => ?_, Or.inl ⟨_, rfl, ?_⟩⟩
    · rw [sIx_hi (by rw [List.length_map]; omega), List.length_map] at h
      omega
    · have hc : cutD (plD ps) none (some (i : Int)) = plD (ps.take i) := by
        rw [cut_pre (by rw [List.length_map]; omega)]
        exact (List.map_take ..).symm
      rw [hc]
      exact memStr (name_sOk (hn n hm)) (fun y hy => name_sOk (hn y (List.mem_of_mem_take hy))) (isN (decide_eq_false (nodup_take hd hn')) ⟨rfl, _, _, rfl⟩)
  · rintro sd S' ⟨rfl, _⟩
    exact cl q
/-! ### is_pair -/
def sp_is_pair (W : Addr) : DSp := fun ds S Q E => ∃ (ps : List Str) (t : Str × Str), ds = [.tf (plD ps), prD t] ∧ (∀ p ∈ ps, sOk p) ∧ t.1 ∈ ps ∧ t.2 ∈ ps ∧ t.1 ≠ t.2 ∧ Q (.bl true) S
def w_is_pair (W : Addr) : WS := (wSeq (wIfS (wOr (wNot (wB (wCall (cIsi (.ty "tuple") (fTy "tuple" [])) (wCons (wV 1) (wCons (wC (.ty "tuple")) wNil))))) (wB (wO oNe (wCall cLen (wCons (wV 1) wNil)) (wC (.int 2))))) (wRet (wC (.bl false))) wNext)
    (wRet (wAndV (wCall cAll (wCons (wLcP (wSeqI (wV 1)) (.n 2) wYes (wAndV (wCall (cIsi (.ty "str") (fTy "str" [])) (wCons (wV 2) (wCons (wC (.ty "str")) wNil))) (wO oIn (wV 2) (wV 0))) [2]) wNil)) (wO oNe (wO oIx (wV 1) (wC (.int 0))) (wO oIx (wV 1) (wC (.int 1)))))))
theorem pure_is_pair (W : Addr) : ∀ ds S Q E, sp_is_pair W ds S Q E → w_is_pair W (endsOf Q) (startD ["places", "value", "place"] ds) S := by
  rintro ds S Q E ⟨ps, ⟨a, b⟩, rfl, hs, ha, hb, hab, q⟩
  refine ⟨rfl, _, _, rfl, rfl, isY rfl ?_⟩
  refine ⟨Or.inl ⟨_, rfl, isN rfl ?_⟩⟩
  refine lcP_map [.str a, .str b] (fun _ => .bl true) ⟨rfl, rfl⟩ (by show 2 ≤ 1000000; decide) (fun d hd S' e => ?_) ⟨[true, true], rfl, isY rfl ?_⟩
  · have hd' : d = .str a ∨ d = .str b := by simpa using hd
    rcases hd' with rfl | rfl
    · exact ⟨rfl, _, _, rfl, rfl, isY rfl (Or.inl ⟨_, rfl, memStr (hs a ha) hs ⟨rfl, by rw [decide_eq_true ha]⟩⟩)⟩
    · exact ⟨rfl, _, _, rfl, rfl, isY rfl (Or.inl ⟨_, rfl, memStr (hs b hb) hs ⟨rfl, by rw [decide_eq_true hb]⟩⟩)⟩
  · refine Or.inl ⟨[.str a, .str b], 0, .str a, rfl, rfl, rfl, Or.inl ⟨[.str a, .str b], 1, .str b, rfl, rfl, rfl, ?_⟩⟩
    have e : (!decide (a = b)) = true := by rw [decide_eq_false hab]; rfl
    show Cl Q (.bl (!decide (a = b))) S
    rw [e]
    exact cl q
end L2.DL

namespace L2.DL
open PySem PySem.Spec PyProof.Rows
/-! ### wrong_tie -/
structure TiesOk (ps : List Str) (ts : List (Str × Str)) : Prop where
  sok : ∀ p ∈ ps, sOk p
  few : ts.length ≤ 200
  tie : ∀ t ∈ ts, t.1 ∈ ps ∧ t.2 ∈ ps ∧ t.1 ≠ t.2
  nd : ts.Nodup
def sp_wrong_tie (W : Addr) : DSp := fun ds S Q E => ∃ (ps : List Str) (ts : List (Str × Str)), ds = [.tf (plD ps), .tf (ts.map prD)] ∧ TiesOk ps ts ∧ Q .non S
def w_wrong_tie (W : Addr) : WS := (wSeq (wAsg (wDnew true) (gV 2))
    (wSeq (wFor (wEnum (wCons (wV 1) wNil)) (gT 2 (gC (gV 3) (gC (gV 4) gN))) (wSeq (wIfS (wOr (wB (wO oEq (wV 3) (wC (.int 200)))) (wOr (wNot (wB (wFn (sp_is_pair W) [] (wCons (wV 0) (wCons (wV 4) wNil))))) (wB (wO oIn (wV 4) (wV 2))))) (wRet (wV 3)) wNext)
    (wAsg (wC (.bl true)) (gSubD (wV 2) (wV 4) sSub))))
    (wRet (wC .non))))
theorem prD_get {ts : List (Str × Str)} {i : Nat} {d : D} (h : (ts.map prD)[i]? = some d) : ∃ x, ts[i]? = some x ∧ d = prD x := by
  rw [List.getElem?_map] at h
  obtain ⟨x, hx, rfl⟩ := Option.map_eq_some_iff.mp h
  exact ⟨x, hx, rfl⟩
theorem mkD_snoc {ts : List (Str × Str)} {i : Nat} {t : Str × Str} (h : ts.Nodup) (hi : ts[i]? = some t) : dput (mkD (ts.take i)) (prD t) (.bl true) = mkD (ts.take (i + 1)) := by
  have hn := dget_mk (t := t) (ts := ts.take i)
  rw [decide_eq_false (nodup_take h hi)] at hn
  have h0 : dget (mkD (ts.take i)) (prD t) = none := by
    cases q : dget (mkD (ts.take i)) (prD t) with
    | none => rfl
    | some d =>
      rw [q] at hn
      cases hn
  rw [dput_new h0, List.take_add_one, hi]
  unfold mkD
  rw [List.map_append]
  rfl
theorem pure_wrong_tie (W : Addr) : ∀ ds S Q E, sp_wrong_tie W ds S Q E → w_wrong_tie W (endsOf Q) (startD ["places", "values", "seen", "index", "value"] ds) S := by
  rintro ds S Q E ⟨ps, ts, rfl, T, q⟩
  intro p hp
  refine ⟨⟨fun i sd S' => S' = S.set p (.dic true (mkD (ts.take i))) ∧ ∃ a b, sd = [some (.tf (plD ps)), some (.tf (ts.map prD)), some (.obj p), a, b], ⟨rfl, none, none, rfl⟩, fun _ _ _ _ => trivial, ?_, ?_⟩⟩
  · rintro i d sd S' hi ⟨rfl, a, b, rfl⟩
    obtain ⟨x, hx, rfl⟩ := enumD_get hi
    obtain ⟨t, ht, rfl⟩ := prD_get hx
    have hl := (List.getElem?_eq_some_iff.mp ht).1
    have hm : t ∈ ts := List.mem_of_getElem? ht
    obtain ⟨t1, t2, t3⟩ := T.tie t hm
    have hf := T.few
    refine ⟨rfl, rfl, isN (decide_eq_false (by omega)) ⟨ps, t, rfl, T.sok, t1, t2, t3, isY rfl (Or.inr ⟨true, mkD (ts.take i), ?_, prD_key t, isN ?_ ?_⟩)⟩⟩
    · show objD (S.set p (.dic true (mkD (ts.take i))) p) = some (true, mkD (ts.take i))
      rw [set_same]
      rfl
    · rw [dget_mk]
      exact decide_eq_false (nodup_take T.nd ht)
    · refine ⟨p, rfl, Or.inr ⟨true, mkD (ts.take i), set_same, prD_key t, ?_, ?_, _, _, rfl⟩⟩
      · unfold mkD
        rw [List.length_map, List.length_take]
        omega
      · rw [set_set, mkD_snoc T.nd ht]
  · rintro sd S' ⟨rfl, _⟩
    exact ⟨.non, S, Rf.dropS .non hp, q⟩
/-! ### check_places, check_ties -/
def sp_check_places (W : Addr) : DSp := fun ds S Q E => ∃ ps : List Str, ds = [.tf (plD ps)] ∧ PlacesOk ps ∧ ps ≠ [] ∧ Q .non S
def w_check_places (W : Addr) : WS := (wSeq (wIfS (wOr (wNot (wB (wCall (cIsi (.ty "tuple") (fTy "tuple" [])) (wCons (wV 0) (wCons (wC (.ty "tuple")) wNil))))) (wB (wO oEq (wV 0) (wTup wNil)))) wNever wNext)
    (wSeq (wAsg (wFn (sp_wrong_place W) [] (wCons (wV 0) wNil)) (gV 1))
    (wIfS (wB (wO oNotN (wV 1) (wC .non))) wNever wNext)))
theorem shaped_tupS {xs : List Str} (h : ∀ x ∈ xs, sOk x) : SeqAt.shaped (.tuple (xs.map PyData.str)) = true := by
  refine shaped_of ?_ ?_
  · simp only [PyData.canLay0]
    exact canLayAll_map h
  · simp only [PyData.depth]
    have := depthAll_map (f := PyData.str) (n := 0) (xs := xs) (fun y _ => by simp [PyData.depth])
    omega
theorem pure_check_places (W : Addr) : ∀ ds S Q E, sp_check_places W ds S Q E → w_check_places W (endsOf Q) (startD ["places", "wrong"] ds) S := by
  rintro ds S Q E ⟨ps, rfl, ok, hne, q⟩
  refine ⟨rfl, _, _, rfl, rfl, isY rfl ⟨by decide, .tuple (ps.map .str), .tuple [], ?_, rfl, shaped_tupS fun x hx => name_sOk (ok.2.1 x hx), by decide +kernel, isN ?_ ⟨ps, rfl, ok, rfl, isN rfl (cl q)⟩⟩⟩
  · show (pyDs (plD ps)).map PyData.tuple = _
    rw [pyDs_strs]
    rfl
  · cases ps with
    | nil => exact absurd rfl hne
    | cons x xs =>
      simp [PyData.eqv, PyData.eqvAll]
def sp_check_ties (W : Addr) : DSp := fun ds S Q E => ∃ (ps : List Str) (ts : List (Str × Str)), ds = [.tf (plD ps), .tf (ts.map prD)] ∧ TiesOk ps ts ∧ Q .non S
def w_check_ties (W : Addr) : WS := (wSeq (wIfS (wNot (wB (wCall (cIsi (.ty "tuple") (fTy "tuple" [])) (wCons (wV 1) (wCons (wC (.ty "tuple")) wNil))))) wNever wNext)
    (wSeq (wAsg (wFn (sp_wrong_tie W) [] (wCons (wV 0) (wCons (wV 1) wNil))) (gV 2))
    (wIfS (wB (wO oNotN (wV 2) (wC .non))) wNever wNext)))
theorem pure_check_ties (W : Addr) : ∀ ds S Q E, sp_check_ties W ds S Q E → w_check_ties W (endsOf Q) (startD ["places", "ties", "wrong"] ds) S := by
  rintro ds S Q E ⟨ps, ts, rfl, ok, q⟩
  exact ⟨rfl, _, _, rfl, rfl, isY rfl ⟨ps, ts, rfl, ok, rfl, isN rfl (cl q)⟩⟩
/-! ### Web.__init__ -/
def fsD (ps : List Str) (ts : List (Str × Str)) : List (Str × D) := [("row", .tf (plD ps)), ("pairs", .tf (ts.map prD)), ("marks", .dic true (mkD ts))]
def sp_Web_init (W : Addr) : DSp := fun ds S Q E => ∃ (p : Addr) (ps : List Str) (ts : List (Str × Str)), ds = [.obj p, .tf (plD ps), .tf (ts.map prD)] ∧ S p = some (.ins W []) ∧ WebOk ps ts ∧ Q .non (S.set p (.ins W (fsD ps ts)))
def w_Web_init (W : Addr) : WS := (wSeq (wDrop (wFn (sp_check_places W) [] (wCons (wV 1) wNil)))
    (wSeq (wDrop (wFn (sp_check_ties W) [] (wCons (wV 1) (wCons (wV 2) wNil))))
    (wSeq (wSetF W "row" (wV 0) (wV 1))
    (wSeq (wSetF W "pairs" (wV 0) (wV 2))
    (wSetF W "marks" (wV 0) (wDcP true (wSeqI (wV 2)) (.n 3) wYes (wV 3) (wC (.bl true)) [3]))))))
theorem WebOk.places {ps : List Str} {ts : List (Str × Str)} (h : WebOk ps ts) : PlacesOk ps := ⟨h.few, h.nm, h.nd⟩
theorem WebOk.ties {ps : List Str} {ts : List (Str × Str)} (h : WebOk ps ts) : TiesOk ps ts := ⟨fun p hp => name_sOk (h.nm p hp), h.tfew, h.tie, h.tnd⟩
theorem WebOk.ne {ps : List Str} {ts : List (Str × Str)} (h : WebOk ps ts) : ps ≠ [] := List.length_pos_iff.mp h.pos
theorem pure_Web_init (W : Addr) : ∀ ds S Q E, sp_Web_init W ds S Q E → w_Web_init W (endsOf Q) (startD ["self", "places", "ties", "tie"] ds) S := by
  rintro ds S Q E ⟨p, ps, ts, rfl, hp, ok, q⟩
  refine ⟨ps, rfl, ok.places, ok.ne, ps, ts, rfl, ok.ties, p, _, rfl, hp, lez rfl, p, _, rfl, set_same, lez rfl, ?_⟩
  refine dcP_of (ts.map prD) (fun d => some (d, .bl true)) ⟨rfl, rfl⟩ (by rw [List.length_map]; have := ok.tfew; omega) (fun d hd S' e => ⟨rfl, upI ⟨rfl, ?_, upI ⟨rfl, rfl⟩⟩⟩) ⟨p, _, rfl, set_same, lez rfl, ?_⟩
  · obtain ⟨t, _, rfl⟩ := List.mem_map.mp hd
    exact prD_key t
  · have e : dputsL [] ((ts.map prD).filterMap fun d => some (d, D.bl true)) = mkD ts := by
      rw [List.filterMap_eq_map', List.map_map]
      exact dputs_mk ok.tnd
    rw [e, set_set, set_set]
    exact cl q
/-! ### has_tie, check_web, check_place -/
def sp_Web_has_tie (W : Addr) : DSp := fun ds S Q E => ∃ (ps : List Str) (ts : List (Str × Str)) (a b : Str), ds = [webD W ps ts, .str a, .str b] ∧ Q (.bl (decide ((a, b) ∈ ts))) S
def sp_check_web (W : Addr) : DSp := fun ds S Q E => ∃ (ps : List Str) (ts : List (Str × Str)), ds = [webD W ps ts] ∧ Q .non S
theorem isi_W (W : Addr) : isi_Web W W = some true := if_pos rfl
end L2.DL

namespace L2.DL
open PySem PySem.Spec PyProof.Rows
/-! ### nexts_of -/
end L2.DL

namespace L2.DL
open PySem PySem.Spec PyProof.Rows
/-! ### what is reached -/
/-- the keys of a dict of numbers -/
def keysD (kvs : List (D × D)) : List D := kvs.map (·.1)
theorem dget_isSome {kvs : List (D × D)} {k : D} : (dget kvs k).isSome = true ↔ k ∈ keysD kvs := by
  induction kvs with
  | nil => simp [dget_nil, keysD]
  | cons p kvs ih =>
    obtain ⟨a, b⟩ := p
    rw [dget_cons]
    unfold keysD at ih ⊢
    rw [List.map_cons, List.mem_cons]
    by_cases h : a = k
    · rw [if_pos h]
      simp [h]
    · rw [if_neg h, ih]
      constructor
      · exact .inr
      · rintro (e | e)
        · exact absurd e.symm h
        · exact e
theorem dget_none {kvs : List (D × D)} {k : D} (h : k ∉ keysD kvs) : dget kvs k = none := by
  cases q : dget kvs k with
  | none => rfl
  | some d =>
    have : (dget kvs k).isSome = true := by rw [q]; rfl
    exact absurd (dget_isSome.mp this) h
end L2.DL

namespace L2.DL
open PySem PySem.Spec PyProof.Rows
theorem pyS_lst {S : SO} {d : D} {xs : List D} {ps : List PyData} (h : lstD S d = some xs) (hp : pyDs xs = some ps) : pyS S d = some (.list ps) := by
  cases d with
  | lst ys =>
    cases h
    show (pyDs xs).map PyData.list = _
    rw [hp]
    rfl
  | obj a =>
    have h' : objL (S a) = some xs := h
    show (objL (S a)).bind (fun ds => (pyDs ds).map PyData.list) = _
    rw [h']
    show (pyDs xs).map PyData.list = _
    rw [hp]
    rfl
  | _ => cases h
theorem eqD_lst {S : SO} {d y : D} {xs : List D} {k : Bool → Prop} (h : lstD S d = some xs) (g : eqG d y S k) : eqD d y S k := by
  cases d with
  | lst ys => exact g
  | obj a => exact g
  | _ => cases h
end L2.DL

namespace L2.DL
open PySem PySem.Spec PyProof.Rows
/-! ### leads -/
theorem mem_take_of {α : Type} {ps : List α} {a : α} {i j : Nat} (hi : ps[i]? = some a) (h : i < j) : a ∈ ps.take j := by
  obtain ⟨hl, e⟩ := List.getElem?_eq_some_iff.mp hi
  refine List.mem_iff_getElem.mpr ⟨i, by rw [List.length_take]; omega, ?_⟩
  rw [List.getElem_take]
  exact e
theorem nodup_ix {α : Type} {ps : List α} (nd : ps.Nodup) {a : α} {i j : Nat} (hi : ps[i]? = some a) (hj : ps[j]? = some a) : i = j := by
  rcases Nat.lt_trichotomy i j with h | h | h
  · exact absurd (mem_take_of hi h) (nodup_take nd hj)
  · exact h
  · exact absurd (mem_take_of hj h) (nodup_take nd hi)
end L2.DL

namespace L2.DL
open PySem PySem.Spec PyProof.Rows
/-! ### draws: a list of three numbers -/
abbrev pan3 (a b c : Int) : DO := .lst [.int a, .int b, .int c]
theorem seqX_obj {S : SO} {p : Addr} {xs : List D} (h : S p = some (.lst xs)) : seqX S (.obj p) = some xs := by
  show objL (S p) = some xs
  rw [h]
  rfl
theorem cmulL {i j : Int} (h1 : -(2 ^ 64) < i) (h2 : i < 2 ^ 64) : CMul i j := .inl ⟨h1, h2⟩
theorem cmulR {i j : Int} (h1 : -(2 ^ 64) < j) (h2 : j < 2 ^ 64) : CMul i j := .inr ⟨h1, h2⟩
theorem len_ints {ns : List Int} (h : ns.length ≤ 63) : (ns.map D.int).length ≤ 63 := by rw [List.length_map]; exact h
theorem cut_sub {xs : List D} {lo hi : Option Int} : ∀ d ∈ cutD xs lo hi, d ∈ xs := fun d h => List.mem_of_mem_drop (List.mem_of_mem_take h)
theorem cut_len {xs : List D} {lo hi : Option Int} : (cutD xs lo hi).length ≤ xs.length := by
  unfold cutD
  rw [List.length_take, List.length_drop]
  omega
/-! ### _law_scoop, _law_pick -/
/-- the items of what does not change -/
def fz : D → Option (List D)
  | .lst xs => some xs
  | .tup xs => some xs
  | .tf xs => some xs
  | .src xs => some xs
  | .kt xs => some xs
  | _ => none
end L2.DL

namespace L2.DL
open PySem PySem.Spec PyProof.Rows
/-! ### drawn names -/
def letterAt (n : Nat) : Nat := LETTERS.cps.toList.getD n 0
theorem letters26 : LETTERS.cps.toList.length = 26 := by decide +kernel
theorem letters_nd : LETTERS.cps.toList.Nodup := by decide +kernel
theorem letterAt_get {n : Nat} (h : n < 26) : LETTERS.cps.toList[n]? = some (letterAt n) := by
  unfold letterAt
  rw [List.getD_eq_getElem?_getD, List.getElem?_eq_getElem (by rw [letters26]; exact h)]
  rfl
theorem letterAt_mem {n : Nat} (h : n < 26) : letterAt n ∈ LETTERS.cps.toList := List.mem_of_getElem? (letterAt_get h)
theorem letterAt_inj {i j : Nat} (hi : i < 26) (hj : j < 26) (h : letterAt i = letterAt j) : i = j := nodup_ix letters_nd (letterAt_get hi) (h ▸ letterAt_get hj)
def spot (s l : Int) (k : Nat) : Nat := ((s + l * k) % 26).toNat
theorem spot_lt (s l : Int) (k : Nat) : spot s l k < 26 := by
  unfold spot
  have h0 := Int.emod_nonneg (s + l * k) (show (26 : Int) ≠ 0 by decide)
  have h1 := Int.emod_lt_of_pos (s + l * k) (show (0 : Int) < 26 by decide)
  omega
def StemOk (x : Str) : Prop := x.length ≤ 6 ∧ ∀ c ∈ x.cps.toList, c ∈ LETTERS.cps.toList
def LeapOk (l : Int) : Prop := l = 1 ∨ l = 3 ∨ l = 5 ∨ l = 7 ∨ l = 9 ∨ l = 11
theorem spot_inj {s l : Int} (hl : LeapOk l) {i j : Nat} (hi : i < j + 26) (hj : j < i + 26) (h : spot s l i = spot s l j) : i = j := by
  unfold spot at h
  have a0 := Int.emod_nonneg (s + l * i) (show (26 : Int) ≠ 0 by decide)
  have b0 := Int.emod_nonneg (s + l * j) (show (26 : Int) ≠ 0 by decide)
  have h2 : (s + l * i) % 26 = (s + l * j) % 26 := by omega
  rcases hl with rfl | rfl | rfl | rfl | rfl | rfl <;> omega
structure NamesOk (ts : List Str) : Prop where
  nm : ∀ t ∈ ts, nameOk t = true
  nd : ts.Nodup
end L2.DL

namespace L2.DL
open PySem PySem.Spec PyProof.Rows
/-! ### drawn ties -/
theorem set_comm {S : SO} {a b : Addr} {x y : DO} (h : a ≠ b) : (S.set a x).set b y = (S.set b y).set a x := by
  funext c
  unfold SO.set
  by_cases h1 : c = b
  · rw [if_pos h1, if_neg fun e => h (e.symm.trans h1), if_pos h1]
  · rw [if_neg h1]
    by_cases h2 : c = a
    · rw [if_pos h2, if_pos h2]
    · rw [if_neg h2, if_neg h2, if_neg h1]
/-! ### _law_case, _law_made -/
end L2.DL

namespace L2.DL
open PySem PySem.Spec PyProof.Rows
/-! ### _law_far -/
def outs (ls : List (Str × Str)) (t : Str) : List Str := (ls.filter fun u => decide (u.1 = t)).map (·.2)
theorem outs_mem {ls : List (Str × Str)} {t v : Str} : v ∈ outs ls t ↔ (t, v) ∈ ls := by
  unfold outs
  rw [List.mem_map]
  constructor
  · rintro ⟨⟨x, y⟩, h, rfl⟩
    obtain ⟨h1, h2⟩ := List.mem_filter.mp h
    have e : x = t := of_decide_eq_true h2
    rw [← e]
    exact h1
  · intro h
    exact ⟨(t, v), List.mem_filter.mpr ⟨h, decide_eq_true rfl⟩, rfl⟩
theorem outs_len {ls : List (Str × Str)} {t : Str} : (outs ls t).length ≤ ls.length := by
  unfold outs
  rw [List.length_map]
  exact List.length_filter_le _ _
def outsK (ts : List Str) (ls : List (Str × Str)) : List (D × D) := ts.map fun t => (.str t, .lst (plD (outs ls t)))
theorem strD_inj {a b : Str} (h : D.str a = D.str b) : a = b := by injection h
theorem dget_outs {ls : List (Str × Str)} {t : Str} : ∀ {ts : List Str}, t ∈ ts → dget (outsK ts ls) (.str t) = some (.lst (plD (outs ls t)))
  | x :: ts, h => by
    show dget ((.str x, .lst (plD (outs ls x))) :: outsK ts ls) (.str t) = _
    rw [dget_cons]
    by_cases e : x = t
    · rw [if_pos (by rw [e]), e]
    · rw [if_neg fun z => e (strD_inj z)]
      exact dget_outs ((List.mem_cons.mp h).resolve_left fun z => e z.symm)
theorem nodup_sub_len : ∀ {a b : List Str}, a.Nodup → (∀ x ∈ a, x ∈ b) → a.length ≤ b.length
  | [], _, _, _ => Nat.zero_le _
  | x :: a, b, h, hs => by
    have h' := List.nodup_cons.mp h
    have h1 := nodup_sub_len (a := a) (b := b.erase x) h'.2 fun y hy => by
      have hne : y ≠ x := fun e => h'.1 (e ▸ hy)
      exact (List.mem_erase_of_ne hne).mpr (hs y (List.mem_cons_of_mem _ hy))
    have hx := hs x (List.mem_cons_self ..)
    rw [List.length_erase_of_mem hx] at h1
    have := List.length_pos_of_mem hx
    rw [List.length_cons]
    omega
end L2.DL

namespace L2.DL
open PySem PySem.Spec PyProof.Rows
/-! ### draws of the other family -/
def sp_cup_cup (W : Addr) : DSp := fun ds S Q E => ∃ (ns : List Int) (k : Nat), ds = [.src (ns.map D.int), .int (k : Nat)] ∧ ns.length ≤ 63 ∧ ∀ p a b, S p = none → Q (.obj p) (S.set p (pan3 a b 0))
def w_cup_cup (W : Addr) : WS := (wSeq (wAsg (wIf (wB (wO oLt (wV 1) (wCall cLen (wCons (wV 0) wNil)))) (wCall cInt (wCons (wO oIx (wV 0) (wV 1)) wNil)) (wO oAdd (wO oMul (wC (.int 4903)) (wV 1)) (wC (.int 67)))) (gV 2))
    (wSeq (wAsg (wO oAdd (wC (.int 61001)) (wO oMul (wC (.int 701)) (wV 1))) (gV 3))
    (wSeq (wFor (wSeqI (wO oAdd (wSl (wV 0) pNone (pSome (wC (.int 5)))) (wLst (wCons (wV 2) wNil)))) (gV 4) (wAsg (wO oMod (wCall cInt (wCons (wO oAdd (wO oMul (wV 3) (wC (.int 46021))) (wCall cInt (wCons (wV 4) wNil))) wNil)) (wC (.int 2147483137))) (gV 3)))
    (wRet (wNew (wCons (wIf (wOr (wB (wO oLt (wV 2) (wC (.int 0)))) (wB (wO oGe (wV 2) (wO oPow (wC (.int 10)) (wC (.int 18)))))) (wCall cAbs (wCons (wV 2) wNil)) (wC (.int 0))) (wCons (wV 3) (wCons (wC (.int 0)) wNil))))))))
theorem pure_cup_cup (W : Addr) : ∀ ds S Q E, sp_cup_cup W ds S Q E → w_cup_cup W (endsOf Q) (startD ["_law_script", "_law_k", "_law_cell", "_law_mixed", "_law_each"] ds) S := by
  rintro ds S Q E ⟨ns, k, rfl, hl, q⟩
  have hl' := len_ints hl
  have rest : ∀ cell : Int, wSeq (wAsg (wO oAdd (wC (.int 61001)) (wO oMul (wC (.int 701)) (wV 1))) (gV 3))
    (wSeq (wFor (wSeqI (wO oAdd (wSl (wV 0) pNone (pSome (wC (.int 5)))) (wLst (wCons (wV 2) wNil)))) (gV 4) (wAsg (wO oMod (wCall cInt (wCons (wO oAdd (wO oMul (wV 3) (wC (.int 46021))) (wCall cInt (wCons (wV 4) wNil))) wNil)) (wC (.int 2147483137))) (gV 3)))
    (wRet (wNew (wCons (wIf (wOr (wB (wO oLt (wV 2) (wC (.int 0)))) (wB (wO oGe (wV 2) (wO oPow (wC (.int 10)) (wC (.int 18)))))) (wCall cAbs (wCons (wV 2) wNil)) (wC (.int 0))) (wCons (wV 3) (wCons (wC (.int 0)) wNil)))))) (endsOf Q) [some (.src (ns.map D.int)), some (.int (k : Nat)), some (.int cell), none, none] S := by
    intro cell
    refine ⟨cmulL (by decide) (by decide), ?_⟩
    refine ⟨⟨lez rfl, ?_, ?_⟩⟩
    · have := cut_len (xs := ns.map D.int) (lo := none) (hi := some 5)
      show _ + 1 ≤ 1000000
      omega
    refine ⟨fun i sd S' => S' = S ∧ ∃ m c4, sd = [some (.src (ns.map D.int)), some (.int (k : Nat)), some (.int cell), some (.int m), c4], ⟨rfl, _, none, rfl⟩, fun _ _ _ _ => trivial, ?_, ?_⟩
    · rintro i d sd S' hi ⟨rfl, m, c4, rfl⟩
      have hm : d ∈ cutD (ns.map D.int) none (some 5) ++ [.int cell] := List.mem_of_getElem? hi
      obtain ⟨e, rfl⟩ : ∃ e, d = D.int e := by
        rcases List.mem_append.mp hm with h | h
        · obtain ⟨e, _, he⟩ := List.mem_map.mp (cut_sub d h)
          exact ⟨e, he.symm⟩
        · exact ⟨cell, by simpa using h⟩
      exact ⟨cmulR (by decide) (by decide), (by show (0 : Int) < 2147483137; decide), rfl, _, _, rfl⟩
    · rintro sd S' ⟨rfl, m, c4, rfl⟩
      have fin : ∀ a : Int, wRet (fun sd S Q => ∀ p, S p = none → Q (.obj p) (S.set p (pan3 a m 0))) (endsOf Q) [some (.src (ns.map D.int)), some (.int (k : Nat)), some (.int cell), some (.int m), c4] S' := fun a p hp => cl (q p a m hp)
      refine ⟨trivial, isC (fun h => ⟨lez rfl, fin _⟩) fun h => ?_⟩
      refine ⟨⟨by decide, by decide, by decide⟩, trivial, isC (fun h => ⟨lez rfl, fin _⟩) fun h => ⟨lez rfl, fin _⟩⟩
  refine ⟨Or.inl ⟨_, rfl, ⟨trivial, isC (fun h => ?_) fun h => ⟨cmulL (by decide) (by decide), rest _⟩⟩⟩⟩
  have h' : (k : Int) < (ns.map D.int).length := of_decide_eq_true h
  rw [List.length_map] at h'
  have hk : k < ns.length := by omega
  exact Or.inl ⟨_, (k : Int), .int ns[k], rfl, rfl, atI_nat (by rw [List.getElem?_map, List.getElem?_eq_getElem hk]; rfl), rest _⟩
def sp_cup_sip (W : Addr) : DSp := fun ds S Q E => ∃ (p : Addr) (a b c : Int) (m : Int), ds = [.obj p, .int m] ∧ S p = some (pan3 a b c) ∧ 0 < m ∧ m < 1073741824 ∧ ∀ r a' b' c' : Int, 0 ≤ r → r < m → Q (.int r) (S.set p (pan3 a' b' c'))
def w_cup_sip (W : Addr) : WS := (wSeq (wAsg (wO oAdd (wO oIx (wV 0) (wC (.int 2))) (wC (.int 1))) (gSubD (wV 0) (wC (.int 2)) sSub))
    (wSeq (wAsg (wCall cInt (wCons (wO oIx (wV 0) (wC (.int 1))) wNil)) (gV 2))
    (wSeq (wAsg (wO oMod (wCall cInt (wCons (wO oAdd (wO oAdd (wO oMul (wV 2) (wO oAdd (wO oMod (wCall cInt (wCons (wV 2) wNil)) (wC (.int 15013))) (wC (.int 29009)))) (wO oMul (wC (.int 70019)) (wO oIx (wV 0) (wC (.int 2))))) (wC (.int 31))) wNil)) (wC (.int 2147483137))) (gSubD (wV 0) (wC (.int 1)) sSub))
    (wSeq (wIfS (wB (wO oGt (wO oIx (wV 0) (wC (.int 0))) (wC (.int 0)))) (wSeq (wAsg (wCall cDivmod (wCons (wO oIx (wV 0) (wC (.int 0))) (wCons (wV 1) wNil))) (gT 2 (gC (gSubD (wV 0) (wC (.int 0)) sSub) (gC (gV 3) gN))))
    (wRet (wV 3))) wNext)
    (wRet (wO oMod (wCall cInt (wCons (wO oDiv (wO oIx (wV 0) (wC (.int 1))) (wC (.int 107))) wNil)) (wV 1)))))))
theorem pure_cup_sip (W : Addr) : ∀ ds S Q E, sp_cup_sip W ds S Q E → w_cup_sip W (endsOf Q) (startD ["_law_cup_here", "_law_many", "_law_old", "_law_digit"] ds) S := by
  rintro ds S Q E ⟨p, a, b, c, m, rfl, hp, h0, h1, q⟩
  refine Or.inl ⟨_, 2, .int c, seqX_obj hp, rfl, rfl, p, rfl, Or.inl ⟨_, 2, 2, hp, rfl, rfl, ?_⟩⟩
  refine Or.inl ⟨_, 1, .int b, seqX_obj set_same, rfl, rfl, ?_⟩
  refine ⟨by show (0 : Int) < 15013; decide, cmulR ?_ ?_, ?_⟩
  · have := Int.emod_nonneg b (show (15013 : Int) ≠ 0 by decide)
    show -(2 ^ 64) < b % 15013 + 29009
    omega
  · have := Int.emod_lt_of_pos b (show (0 : Int) < 15013 by decide)
    show b % 15013 + 29009 < 2 ^ 64
    omega
  refine Or.inl ⟨_, 2, .int (c + 1), seqX_obj set_same, rfl, rfl, ?_⟩
  refine ⟨cmulL (by decide) (by decide), by show (0 : Int) < 2147483137; decide, p, rfl, Or.inl ⟨_, 1, 1, set_same, rfl, rfl, ?_⟩⟩
  refine Or.inl ⟨_, 0, .int a, seqX_obj set_same, rfl, rfl, trivial, isC (fun h => ?_) fun h => ?_⟩
  · refine Or.inl ⟨_, 0, .int a, seqX_obj set_same, rfl, rfl, ⟨h0, h1⟩, rfl, p, rfl, Or.inl ⟨_, 0, 0, set_same, rfl, rfl, rfl, ?_⟩⟩
    rw [set_set, set_set]
    exact cl (q (a % m) (a / m) _ (c + 1) (Int.emod_nonneg _ (by omega)) (Int.emod_lt_of_pos _ h0))
  · refine Or.inl ⟨_, 1, _, seqX_obj set_same, rfl, rfl, ⟨by decide, by decide⟩, h0, cl ?_⟩
    rw [set_set]
    exact q _ _ _ _ (Int.emod_nonneg _ (by omega)) (Int.emod_lt_of_pos _ h0)
end L2.DL

namespace L2.DL
open PySem PySem.Spec PyProof.Rows
/-! ### _law_folk: names -/
def MENU : List Str := ["a", "b", "c", "d", "places", "x", "abcdefgh", "ab", "ba", "put", "e"]
def menuAt (n : Nat) : Str := MENU.getD n Str.empty
theorem menuAt_get {n : Nat} (h : n < 11) : MENU[n]? = some (menuAt n) := by
  unfold menuAt
  rw [List.getD_eq_getElem?_getD, List.getElem?_eq_getElem (show n < MENU.length from h)]
  rfl
theorem menu_nd : MENU.Nodup := by decide +kernel
theorem menu_ok : ∀ x ∈ MENU, nameOk x = true := by decide +kernel
theorem menuAt_inj {i j : Nat} (hi : i < 11) (hj : j < 11) (h : menuAt i = menuAt j) : i = j := nodup_ix menu_nd (menuAt_get hi) (h ▸ menuAt_get hj)
def spot11 (s l : Int) (k : Nat) : Nat := ((s + l * k) % 11).toNat
theorem spot11_lt (s l : Int) (k : Nat) : spot11 s l k < 11 := by
  unfold spot11
  have h0 := Int.emod_nonneg (s + l * k) (show (11 : Int) ≠ 0 by decide)
  have h1 := Int.emod_lt_of_pos (s + l * k) (show (0 : Int) < 11 by decide)
  omega
theorem spot11_inj {s l : Int} (h1 : 1 ≤ l) (h2 : l ≤ 10) {i j : Nat} (hi : i < 11) (hj : j < 11) (h : spot11 s l i = spot11 s l j) : i = j := by
  unfold spot11 at h
  have a0 := Int.emod_nonneg (s + l * i) (show (11 : Int) ≠ 0 by decide)
  have b0 := Int.emod_nonneg (s + l * j) (show (11 : Int) ≠ 0 by decide)
  have h3 : (s + l * i) % 11 = (s + l * j) % 11 := by omega
  have hl : l = 1 ∨ l = 2 ∨ l = 3 ∨ l = 4 ∨ l = 5 ∨ l = 6 ∨ l = 7 ∨ l = 8 ∨ l = 9 ∨ l = 10 := by omega
  rcases hl with rfl | rfl | rfl | rfl | rfl | rfl | rfl | rfl | rfl | rfl <;> omega
theorem map_nd {f : Nat → Str} {m : Nat} (h : ∀ i j, i < m → j < m → f i = f j → i = j) : ((List.range m).map f).Nodup := by
  refine List.pairwise_iff_getElem.mpr fun i j hi hj hij => ?_
  rw [List.length_map, List.length_range] at hi hj
  rw [List.getElem_map, List.getElem_map, List.getElem_range, List.getElem_range]
  intro e
  have := h i j hi hj e
  omega
def folkA (s l : Int) (m : Nat) : List Str := (List.range m).map fun k => menuAt (spot11 s l k)
theorem folkA_ok {s l : Int} (h1 : 1 ≤ l) (h2 : l ≤ 10) {m : Nat} (hm : m < 12) : NamesOk (folkA s l m) := by
  refine ⟨fun t ht => ?_, map_nd fun i j hi hj e => spot11_inj h1 h2 (by omega) (by omega) (menuAt_inj (spot11_lt ..) (spot11_lt ..) e)⟩
  obtain ⟨k, _, rfl⟩ := List.mem_map.mp ht
  exact menu_ok _ (List.mem_of_getElem? (menuAt_get (spot11_lt ..)))
def headAt (k : Nat) : Str := if k < 26 then "" else "z"
def folkT (s l : Int) (stem : Str) (k : Nat) : Str := stem ++ headAt k ++ ⟨#[letterAt (spot s l k)]⟩
def folkB (s l : Int) (stem : Str) (m : Nat) : List Str := (List.range m).map (folkT s l stem)
theorem folkT_cps (s l : Int) (stem : Str) (k : Nat) : (folkT s l stem k).cps.toList = stem.cps.toList ++ (if k < 26 then [] else [122]) ++ [letterAt (spot s l k)] := by
  unfold folkT headAt
  by_cases h : k < 26
  · rw [if_pos h, if_pos h]
    show ((stem.cps ++ (Str.ofString "").cps) ++ #[_]).toList = _
    have e : (Str.ofString "").cps = #[] := by decide
    rw [e]
    simp
  · rw [if_neg h, if_neg h]
    show ((stem.cps ++ (Str.ofString "z").cps) ++ #[_]).toList = _
    have e : (Str.ofString "z").cps = #[122] := by decide
    rw [e]
    simp
theorem folkT_ok {s l : Int} {stem : Str} {k : Nat} (h : StemOk stem) : nameOk (folkT s l stem k) = true := by
  have e := folkT_cps s l stem k
  have hl := congrArg List.length e
  rw [Array.length_toList, List.length_append, List.length_append, Array.length_toList, List.length_singleton] at hl
  have h1 : stem.cps.size ≤ 6 := h.1
  have h2 : (if k < 26 then [] else [122] : List Nat).length ≤ 1 := by split <;> simp
  have hlen : (folkT s l stem k).length = (folkT s l stem k).cps.size := rfl
  unfold nameOk
  rw [e, Bool.and_eq_true, Bool.and_eq_true]
  refine ⟨decide_eq_true (by omega), decide_eq_true (by omega), List.all_eq_true.mpr fun c hc => decide_eq_true ?_⟩
  rcases List.mem_append.mp hc with hc | hc
  · rcases List.mem_append.mp hc with hc | hc
    · exact h.2 c hc
    · split at hc
      · cases hc
      · rw [List.mem_singleton] at hc
        rw [hc]
        decide +kernel
  · rw [List.mem_singleton] at hc
    rw [hc]
    exact letterAt_mem (spot_lt ..)
theorem folkB_nd {s l : Int} {stem : Str} {m : Nat} (hl : LeapOk l) (hm : m ≤ 52) : (folkB s l stem m).Nodup := by
  refine map_nd fun i j hi hj e => ?_
  have e2 := congrArg (fun x : Str => x.cps.toList) e
  simp only [folkT_cps, List.append_assoc] at e2
  have e3 := List.append_cancel_left e2
  by_cases h1 : i < 26 <;> by_cases h2 : j < 26
  · rw [if_pos h1, if_pos h2] at e3
    exact spot_inj hl (by omega) (by omega) (letterAt_inj (spot_lt ..) (spot_lt ..) (List.cons.inj e3).1)
  · rw [if_pos h1, if_neg h2] at e3
    exact absurd (congrArg List.length e3) (by simp)
  · rw [if_neg h1, if_pos h2] at e3
    exact absurd (congrArg List.length e3) (by simp)
  · rw [if_neg h1, if_neg h2] at e3
    have e4 := letterAt_inj (spot_lt ..) (spot_lt ..) (List.cons.inj (List.cons.inj e3).2).1
    have sh : ∀ k : Nat, 26 ≤ k → spot s l k = spot s l (k - 26) := fun k hk => by
      unfold spot
      have e : s + l * ((k - 26 : Nat) : Int) = (s + l * (k : Int)) + 26 * (-l) := by
        rw [Int.ofNat_sub hk, Int.mul_sub]
        omega
      rw [e, Int.add_mul_emod_self_left]
    rw [sh i (by omega), sh j (by omega)] at e4
    have := spot_inj hl (i := i - 26) (j := j - 26) (by omega) (by omega) e4
    omega
theorem folkB_ok {s l : Int} {stem : Str} {m : Nat} (h : StemOk stem) (hl : LeapOk l) (hm : m ≤ 52) : NamesOk (folkB s l stem m) := ⟨fun t ht => by
  obtain ⟨k, _, rfl⟩ := List.mem_map.mp ht
  exact folkT_ok h, folkB_nd hl hm⟩
/-! ### the stem -/
def signD (c : Nat) : D := .str ⟨#[c]⟩
theorem join_empty : ∀ ys : List Str, (Str.join "" ys).cps.toList = (ys.map fun y => y.cps.toList).flatten
  | [] => rfl
  | [x] => by
    show x.cps.toList = _
    simp
  | x :: y :: r => by
    have e : (Str.ofString "").cps = #[] := by decide
    show ((x.cps ++ (Str.ofString "").cps) ++ (Str.join "" (y :: r)).cps).toList = _
    rw [e, Array.toList_append, Array.toList_append, join_empty (y :: r)]
    simp
theorem join_signs (cs : List Nat) : (Txt.join "" (cs.map fun c => (⟨#[c]⟩ : Str))).cps.toList = cs := by
  show (Builtin.Str.glued _ _).cps.toList = _
  rw [StrLaws.glued_eq_join, join_empty, List.map_map]
  induction cs with
  | nil => rfl
  | cons c cs ih =>
    show [c] ++ _ = _
    rw [ih]
    rfl
theorem stem_of {cs : List Nat} (h1 : cs.length ≤ 6) (h2 : ∀ c ∈ cs, c ∈ LETTERS.cps.toList) : StemOk (Txt.join "" (cs.map fun c => (⟨#[c]⟩ : Str))) := by
  have e := join_signs cs
  refine ⟨?_, fun c hc => h2 c (by rwa [e] at hc)⟩
  have := congrArg List.length e
  rw [Array.length_toList] at this
  show (Txt.join "" (cs.map fun c => (⟨#[c]⟩ : Str))).cps.size ≤ 6
  omega
end L2.DL

namespace L2.DL
open PySem PySem.Spec PyProof.Rows
def sp_cup_folk (W : Addr) : DSp := fun ds S Q E => ∃ (p : Addr) (a b c : Int) (m : Nat), ds = [.obj p, .int (m : Nat)] ∧ S p = some (pan3 a b c) ∧ m ≤ 52 ∧ ∀ (ts : List Str) (a' b' c' : Int), ts.length = m → NamesOk ts → Q (.tf (plD ts)) (S.set p (pan3 a' b' c'))
def w_folk2 (W : Addr) : WS := (wSeq (wAsg (wTup (wCons (wC (.str "abcdefghijklmnopqrstuvwxyz")) (wCons (wO oAdd (wC (.int 1)) (wO oMul (wC (.int 2)) (wFn (sp_cup_sip W) [] (wCons (wV 0) (wCons (wC (.int 6)) wNil))))) wNil))) (gT 2 (gC (gV 5) (gC (gV 4) gN))))
    (wSeq (wAsg (wJoin (wC (.str "")) (wLcF (wRng1 (wCons (wFn (sp_cup_sip W) [] (wCons (wV 0) (wCons (wC (.int 7)) wNil))) wNil)) (.n 8) wYes (wO oIx (wV 5) (wFn (sp_cup_sip W) [] (wCons (wV 0) (wCons (wC (.int 26)) wNil)))) [8])) (gV 6))
    (wSeq (wAsg (wLst (wCons (wC (.str "")) (wCons (wC (.str "z")) wNil))) (gV 7))
    (wRet (wCall cTupleF (wCons (wLcP (wRng1 (wCons (wV 1) wNil)) (.n 8) wYes (wO oAdd (wO oAdd (wV 6) (wO oIx (wV 7) (wO oDiv (wV 8) (wC (.int 26))))) (wO oIx (wV 5) (wO oMod (wCall cInt (wCons (wO oAdd (wV 2) (wO oMul (wV 4) (wV 8))) wNil)) (wC (.int 26))))) [8]) wNil))))))
def w_cup_folk (W : Addr) : WS := (wSeq (wAsg (wFn (sp_cup_sip W) [] (wCons (wV 0) (wCons (wC (.int 26)) wNil))) (gV 2))
    (wSeq (wIfS (wAnd (wB (wO oEq (wFn (sp_cup_sip W) [] (wCons (wV 0) (wCons (wC (.int 2)) wNil))) (wC (.int 0)))) (wB (wO oLt (wV 1) (wC (.int 12))))) (wSeq (wAsg (wLst (wCons (wC (.str "a")) (wCons (wC (.str "b")) (wCons (wC (.str "c")) (wCons (wC (.str "d")) (wCons (wC (.str "places")) (wCons (wC (.str "x")) (wCons (wC (.str "abcdefgh")) (wCons (wC (.str "ab")) (wCons (wC (.str "ba")) (wCons (wC (.str "put")) (wCons (wC (.str "e")) wNil)))))))))))) (gV 3))
    (wSeq (wAsg (wO oAdd (wC (.int 1)) (wFn (sp_cup_sip W) [] (wCons (wV 0) (wCons (wC (.int 10)) wNil)))) (gV 4))
    (wRet (wCall cTupleF (wCons (wLcP (wRng1 (wCons (wV 1) wNil)) (.n 8) wYes (wO oIx (wV 3) (wO oMod (wCall cInt (wCons (wO oAdd (wV 2) (wO oMul (wV 4) (wV 8))) wNil)) (wC (.int 11)))) [8]) wNil))))) wNext)
    (wSeq (wAsg (wTup (wCons (wC (.str "abcdefghijklmnopqrstuvwxyz")) (wCons (wO oAdd (wC (.int 1)) (wO oMul (wC (.int 2)) (wFn (sp_cup_sip W) [] (wCons (wV 0) (wCons (wC (.int 6)) wNil))))) wNil))) (gT 2 (gC (gV 5) (gC (gV 4) gN))))
    (wSeq (wAsg (wJoin (wC (.str "")) (wLcF (wRng1 (wCons (wFn (sp_cup_sip W) [] (wCons (wV 0) (wCons (wC (.int 7)) wNil))) wNil)) (.n 8) wYes (wO oIx (wV 5) (wFn (sp_cup_sip W) [] (wCons (wV 0) (wCons (wC (.int 26)) wNil)))) [8])) (gV 6))
    (wSeq (wAsg (wLst (wCons (wC (.str "")) (wCons (wC (.str "z")) wNil))) (gV 7))
    (wRet (wCall cTupleF (wCons (wLcP (wRng1 (wCons (wV 1) wNil)) (.n 8) wYes (wO oAdd (wO oAdd (wV 6) (wO oIx (wV 7) (wO oDiv (wV 8) (wC (.int 26))))) (wO oIx (wV 5) (wO oMod (wCall cInt (wCons (wO oAdd (wV 2) (wO oMul (wV 4) (wV 8))) wNil)) (wC (.int 26))))) [8]) wNil))))))))
theorem upYesT {sd : SD} {S : SO} {Q : Bool → SO → Prop} (h : Q true S) : upT wYes sd S Q := ⟨fun b S2 => b = true ∧ S2 = S, ⟨rfl, rfl⟩, fun b S2 ⟨e1, e2⟩ => by rw [e1, e2]; exact h⟩
theorem range_map {f : D → D} {g : Nat → D} {m : Nat} (h : ∀ k, k < m → f (.int (0 + (k : Nat))) = g k) : (rangeD 0 (m : Nat)).map f = (List.range m).map g := by
  unfold rangeD
  rw [List.map_map, show ((m : Int) - 0).toNat = m by omega]
  exact List.map_congr_left fun k hk => h k (List.mem_range.mp hk)
theorem rangeD_mem {m : Nat} {d : D} (h : d ∈ rangeD 0 (m : Nat)) : ∃ k, k < m ∧ d = .int (0 + (k : Nat)) := by
  unfold rangeD at h
  obtain ⟨k, hk, rfl⟩ := List.mem_map.mp h
  have := List.mem_range.mp hk
  exact ⟨k, by omega, rfl⟩
theorem rangeD_length {m : Nat} : (rangeD 0 (m : Nat)).length = m := by rw [rangeD_len]; omega
theorem pure_folk2 (W : Addr) {S : SO} {Q : KD} {p : Addr} {a b c s : Int} {m : Nat} (hp : S p = some (pan3 a b c)) (hm : m ≤ 52) (q : ∀ (ts : List Str) (a' b' c' : Int), ts.length = m → NamesOk ts → Q (.tf (plD ts)) (S.set p (pan3 a' b' c'))) :
    w_folk2 W (endsOf Q) [some (.obj p), some (.int (m : Nat)), some (.int s), none, none, none, none, none, none] S := by
  refine ⟨p, a, b, c, 6, rfl, hp, by decide, by decide, fun l0 a1 b1 c1 hl0 hl1 => ⟨cmulL (by decide) (by decide), lez rfl, rfl, rfl, ?_⟩⟩
  have hl : LeapOk (1 + 2 * l0) := by
    have : l0 = 0 ∨ l0 = 1 ∨ l0 = 2 ∨ l0 = 3 ∨ l0 = 4 ∨ l0 = 5 := by omega
    unfold LeapOk
    rcases this with rfl | rfl | rfl | rfl | rfl | rfl <;> decide
  generalize 1 + 2 * l0 = l at hl
  have hll : -(2 ^ 64) < l ∧ l < 2 ^ 64 := by
    rcases hl with rfl | rfl | rfl | rfl | rfl | rfl <;> decide
  refine ⟨⟨_, rfl⟩, ⟨⟨p, a1, b1, c1, 7, rfl, set_same, by decide, by decide, fun n a2 b2 c2 hn0 hn1 => ⟨by omega, by omega, fun f hf => ?_⟩⟩⟩⟩
  rw [set_set] at hf ⊢
  obtain ⟨n, rfl⟩ : ∃ k : Nat, n = k := ⟨n.toNat, by omega⟩
  have hpf : p ≠ f := fun e => by rw [← e, set_same] at hf; cases hf
  refine ⟨fun i S' => ∃ a b c cs, S' = (S.set p (pan3 a b c)).set f (.lst (cs.map signD)) ∧ cs.length = i ∧ ∀ x ∈ cs, x ∈ LETTERS.cps.toList, ⟨a2, b2, c2, [], rfl, rfl, fun x hx => by cases hx⟩, fun _ _ _ => trivial, ?_, ?_⟩
  · rintro i d S' hi ⟨a, b, c, cs, rfl, hcs, hin⟩
    obtain ⟨rfl, hi2⟩ := rangeD_get hi
    refine upYesT (ifY rfl (upI ⟨p, a, b, c, 26, rfl, by rw [set_ne hpf, set_same], by decide, by decide, fun r a' b' c' hr0 hr1 => ?_⟩))
    have hr : r.toNat < 26 := by omega
    have e := atI_nat (letterAt_get hr)
    rw [Int.toNat_of_nonneg hr0] at e
    refine Or.inr (Or.inl ⟨LETTERS, r, letterAt r.toNat, rfl, rfl, by decide +kernel, e, cs.map signD, ?_, ?_, ?_⟩)
    · rw [set_comm hpf.symm, set_same]
    · rw [List.length_map]
      omega
    · refine ⟨a', b', c', cs ++ [letterAt r.toNat], ?_, by rw [List.length_append, hcs]; rfl, fun x hx => ?_⟩
      · rw [set_comm hpf.symm, set_set, set_set, List.map_append]
        rfl
      · rcases List.mem_append.mp hx with hx | hx
        · exact hin x hx
        · rw [List.mem_singleton] at hx
          rw [hx]
          exact letterAt_mem hr
  · rintro S' ⟨a3, b3, c3, cs, rfl, hcs, hin⟩
    have hn : cs.length = n := by
      rw [hcs]
      exact rangeD_length
    refine ⟨_, set_same, ?_⟩
    rw [del_set (by rw [set_ne hpf.symm]; rw [set_ne hpf.symm] at hf; exact hf)]
    have hstem := stem_of (cs := cs) (by omega) hin
    refine ⟨"", cs.map fun c => ⟨#[c]⟩, rfl, ?_, ?_, ?_⟩
    · show some _ = some _
      rw [List.map_map]
      rfl
    · rw [List.map_map, List.length_map]
      have e : ((fun x : Str => x.length) ∘ fun c : Nat => (⟨#[c]⟩ : Str)) = fun _ => 1 := rfl
      have z : (Str.ofString "").length = 0 := by decide
      rw [e, z]
      have : ∀ xs : List Nat, (xs.map fun _ => 1).sum = xs.length := fun xs => by
        induction xs with
        | nil => rfl
        | cons x xs ih => rw [List.map_cons, List.sum_cons, ih, List.length_cons]; omega
      rw [this]
      omega
    generalize Txt.join "" (cs.map fun c => (⟨#[c]⟩ : Str)) = stem at hstem
    refine ⟨lez rfl, ?_⟩
    refine lcP_map (rangeD 0 (m : Nat)) (fun d => match d with | .int k => .str (folkT s l stem k.toNat) | _ => .non) ⟨by omega, by omega, rfl, rfl⟩ (by rw [rangeD_length]; omega) (fun d hd S' e => ?_) ?_
    · obtain ⟨k, hk, rfl⟩ := rangeD_mem hd
      have hk26 : ((0 + (k : Nat) : Int) / 26) = (k / 26 : Nat) := by omega
      refine ⟨⟨by decide, by decide⟩, Or.inl ⟨_, _, .str (headAt k), rfl, rfl, ?_, ?_, ?_⟩⟩
      · rw [hk26]
        refine atI_nat ?_
        unfold headAt
        have : k / 26 = 0 ∨ k / 26 = 1 := by omega
        rcases this with h | h
        · rw [if_pos (by omega), h]
          rfl
        · rw [if_neg (by omega), h]
          rfl
      · have h1 : stem.cps.size ≤ 6 := hstem.1
        have h2 : (headAt k).length ≤ 1 := by
          unfold headAt
          split <;> decide
        show stem.cps.size + (headAt k).length ≤ 1000000
        omega
      · have hsp : (s + l * (0 + (k : Nat) : Int)) % 26 = (spot s l k : Nat) := by
          unfold spot
          have := Int.emod_nonneg (s + l * k) (show (26 : Int) ≠ 0 by decide)
          rw [Int.zero_add]
          omega
        refine ⟨cmulL hll.1 hll.2, by show (0 : Int) < 26; decide, Or.inr (Or.inl ⟨LETTERS, _, letterAt (spot s l k), rfl, rfl, by decide +kernel, ?_, ?_, rfl, ?_⟩)⟩
        · show atI LETTERS.cps.toList ((s + l * (0 + (k : Nat) : Int)) % 26) = _
          rw [hsp]
          exact atI_nat (letterAt_get (spot_lt ..))
        · have h1 : stem.cps.size ≤ 6 := hstem.1
          have h2 : (headAt k).cps.size ≤ 1 := by
            unfold headAt
            split <;> decide
          show (stem.cps ++ (headAt k).cps).size + 1 ≤ 1000000
          rw [Array.size_append]
          omega
        · show D.str (folkT s l stem (0 + (k : Nat) : Int).toNat) = _
          rw [Int.zero_add, Int.toNat_natCast]
          rfl
    · rw [range_map (g := fun k => .str (folkT s l stem k)) fun k _ => by simp]
      have e : (List.range m).map (fun k => D.str (folkT s l stem k)) = plD (folkB s l stem m) := by
        unfold folkB plD
        rw [List.map_map]
        rfl
      rw [e]
      refine ⟨_, rfl, cl (q _ _ _ _ ?_ (folkB_ok hstem hl hm))⟩
      unfold folkB
      rw [List.length_map, List.length_range]
theorem pure_cup_folk (W : Addr) : ∀ ds S Q E, sp_cup_folk W ds S Q E → w_cup_folk W (endsOf Q) (startD ["_law_cup_here", "_law_many", "_law_start", "_law_menu", "_law_leap", "_law_letters", "_law_stem", "_law_heads", "_law_k"] ds) S := by
  rintro ds S Q E ⟨p, a, b, c, m, rfl, hp, hm, q⟩
  refine ⟨p, a, b, c, 26, rfl, hp, by decide, by decide, fun s a1 b1 c1 hs0 hs1 => ?_⟩
  have rest : ∀ a b c, w_folk2 W (endsOf Q) [some (.obj p), some (.int (m : Nat)), some (.int s), none, none, none, none, none, none] (S.set p (pan3 a b c)) := fun a b c =>
    pure_folk2 W set_same hm fun ts a' b' c' h1 h2 => by
      rw [set_set]
      exact q ts a' b' c' h1 h2
  refine ⟨p, a1, b1, c1, 2, rfl, set_same, by decide, by decide, fun r a2 b2 c2 _ _ => ?_⟩
  rw [set_set]
  refine isC (fun h => ⟨trivial, isC (fun h2 => ?_) fun h2 => rest _ _ _⟩) fun h => rest _ _ _
  have hm12 : (m : Int) < 12 := of_decide_eq_true h2
  refine ⟨lez rfl, p, a2, b2, c2, 10, rfl, set_same, by decide, by decide, fun l0 a3 b3 c3 hl0 hl1 => ?_⟩
  rw [set_set]
  have g1 : 1 ≤ 1 + l0 := by omega
  have g2 : 1 + l0 ≤ 10 := by omega
  revert g1 g2
  generalize hL : 1 + l0 = l
  intro g1 g2
  refine lcP_map (rangeD 0 (m : Nat)) (fun d => match d with | .int k => .str (menuAt (spot11 s l k.toNat)) | _ => .non) ⟨by omega, by omega, rfl, rfl⟩ (by rw [rangeD_length]; omega) (fun d hd S' e => ?_) ?_
  · obtain ⟨k, hk, rfl⟩ := rangeD_mem hd
    have hsp : (s + (1 + l0) * (0 + (k : Nat) : Int)) % 11 = (spot11 s l k : Nat) := by
      unfold spot11
      have := Int.emod_nonneg (s + l * k) (show (11 : Int) ≠ 0 by decide)
      rw [Int.zero_add, hL]
      omega
    refine ⟨cmulL (by omega) (by omega), by show (0 : Int) < 11; decide, Or.inl ⟨_, _, .str (menuAt (spot11 s l k)), rfl, rfl, ?_, rfl, ?_⟩⟩
    · show atI (plD MENU) ((s + (1 + l0) * (0 + (k : Nat) : Int)) % 11) = _
      rw [hsp]
      refine atI_nat ?_
      show (MENU.map D.str)[_]? = _
      rw [List.getElem?_map, menuAt_get (spot11_lt ..)]
      rfl
    · show D.str (menuAt (spot11 s l (0 + (k : Nat) : Int).toNat)) = _
      rw [Int.zero_add, Int.toNat_natCast]
  · rw [range_map (g := fun k => .str (menuAt (spot11 s l k))) fun k _ => by simp]
    have e : (List.range m).map (fun k => D.str (menuAt (spot11 s l k))) = plD (folkA s l m) := by
      unfold folkA plD
      rw [List.map_map]
      rfl
    rw [e]
    refine ⟨_, rfl, cl (q _ _ _ _ ?_ (folkA_ok g1 g2 (by omega)))⟩
    unfold folkA
    rw [List.length_map, List.length_range]
end L2.DL

namespace L2.DL
open PySem PySem.Spec PyProof.Rows
theorem set_self {S : SO} {a : Addr} {o : DO} (h : S a = some o) : S.set a o = S := by
  funext x
  by_cases e : x = a
  · rw [e, set_same, h]
  · exact set_ne e
theorem upYes {sd : SD} {S : SO} {Q : Bool → SO → Prop} (h : Q true S) : upT wYes sd S Q := ⟨fun b S2 => b = true ∧ S2 = S, ⟨rfl, rfl⟩, fun b S2 ⟨e1, e2⟩ => by rw [e1, e2]; exact h⟩
end L2.DL

namespace L2.DL
open PySem PySem.Spec PyProof.Rows
/-! ### equality of rows of texts and of pairs -/
theorem eqvAll_map {α : Type} [DecidableEq α] {f : α → PyData} (h : ∀ a b, PyData.eqv (f a) (f b) = decide (a = b)) : ∀ xs ys : List α, PyData.eqvAll (xs.map f) (ys.map f) = decide (xs = ys)
  | [], [] => by simp [PyData.eqvAll]
  | [], y :: ys => by simp [PyData.eqvAll]
  | x :: xs, [] => by simp [PyData.eqvAll]
  | x :: xs, y :: ys => by
    show PyData.eqvAll (f x :: xs.map f) (f y :: ys.map f) = _
    simp only [PyData.eqvAll]
    rw [h, eqvAll_map h xs ys]
    by_cases h1 : x = y <;> by_cases h2 : xs = ys <;> simp [h1, h2]
theorem eqv_tups {α : Type} [DecidableEq α] {f : α → PyData} (h : ∀ a b, PyData.eqv (f a) (f b) = decide (a = b)) (xs ys : List α) : PyData.eqv (.tuple (xs.map f)) (.tuple (ys.map f)) = decide (xs = ys) := by
  simp only [PyData.eqv]
  exact eqvAll_map h xs ys
theorem WebOk.sok {ps : List Str} {ts : List (Str × Str)} (ok : WebOk ps ts) : ∀ p ∈ ps, sOk p := fun p hp => name_sOk (ok.nm p hp)
theorem WebOk.add {ps : List Str} {ts : List (Str × Str)} (ok : WebOk ps ts) {t : Str × Str} (h1 : t.1 ∈ ps) (h2 : t.2 ∈ ps) (h3 : t.1 ≠ t.2) (h4 : t ∉ ts) (h5 : ts.length < 200) : WebOk ps (ts ++ [t]) := by
  refine ⟨ok.pos, ok.few, ok.nm, ok.nd, by rw [List.length_append, List.length_singleton]; omega, fun u hu => ?_, ?_⟩
  · rcases List.mem_append.mp hu with hu | hu
    · exact ok.tie u hu
    · rw [List.mem_singleton] at hu
      subst hu
      exact ⟨h1, h2, h3⟩
  · rw [List.nodup_append]
    refine ⟨ok.tnd, by simp, fun a ha b hb e => ?_⟩
    rw [List.mem_singleton] at hb
    exact h4 (hb ▸ e ▸ ha)
def woT (ts : List (Str × Str)) (t : Str × Str) : List (Str × Str) := ts.filter fun u => !decide (u = t)
theorem WebOk.wo {ps : List Str} {ts : List (Str × Str)} (ok : WebOk ps ts) (t : Str × Str) : WebOk ps (woT ts t) :=
  ⟨ok.pos, ok.few, ok.nm, ok.nd, Nat.le_trans (List.length_filter_le _ _) ok.tfew, fun u hu => ok.tie u (List.mem_filter.mp hu).1, List.Nodup.sublist List.filter_sublist ok.tnd⟩
/-! ### with_tie, without_tie, turned -/
/-! ### == and != of webs -/
end L2.DL

namespace L2.DL
open PySem PySem.Spec PyProof.Rows
/-! ### _law_ties, _law_net, _law_made -/
theorem NamesOk.sok {ts : List Str} (N : NamesOk ts) : ∀ t ∈ ts, sOk t := fun t ht => name_sOk (N.nm t ht)
end L2.DL

namespace L2.DL
open PySem PySem.Spec PyProof.Rows
/-! ### what repr may show -/
end L2.DL

namespace L2.DL
open PySem PySem.Spec PyProof.Rows
/-! ### k07: turned -/
end L2.DL

namespace L2.DL
open PySem PySem.Spec PyProof.Rows
/-! ### law, as most laws of the family have it -/
def RightSp (right : DSp) : Prop := ∀ (p : Addr) (a b c : Int) (S : SO) (Q : KD), S p = some (pan3 a b c) → (∀ a' b' c', Q (.bl true) (S.set p (pan3 a' b' c'))) → right [.obj p] S Q NoE
end L2.DL

namespace L2.DL
open PySem PySem.Spec PyProof.Rows
end L2.DL

namespace L2.DL
open PySem PySem.Spec PyProof.Rows
/-! ### roads and partings, good ones -/
structure RoadOk (ps : List Str) (ts : List (Str × Str)) (r : List Str) : Prop where
  ne : r ≠ []
  nd : r.Nodup
  sub : ∀ x ∈ r, x ∈ ps
  step : ∀ i a b, r[i]? = some a → r[i + 1]? = some b → (a, b) ∈ ts
def TupD (d : D) (xs : List D) : Prop := d = .tf xs ∨ d = .tup xs
theorem TupD.ty {d : D} {xs : List D} (h : TupD d xs) (S : SO) : tyX S d = some (.inl "tuple") := by
  rcases h with rfl | rfl <;> rfl
theorem TupD.seq {d : D} {xs : List D} (h : TupD d xs) (S : SO) : seqX S d = some xs := by
  rcases h with rfl | rfl <;> rfl
theorem RoadOk.len {ps : List Str} {ts : List (Str × Str)} {r : List Str} (h : RoadOk ps ts r) : 1 ≤ r.length ∧ r.length ≤ ps.length := by
  refine ⟨List.length_pos_iff.mpr h.ne, ?_⟩
  have nodup_sub : ∀ {a b : List Str}, a.Nodup → (∀ x ∈ a, x ∈ b) → a.length ≤ b.length := fun {a} => by
    induction a with
    | nil => intro b _ _; exact Nat.zero_le _
    | cons x a ih =>
      intro b h hs
      have h' := List.nodup_cons.mp h
      have h1 := ih (b := b.erase x) h'.2 fun y hy => by
        have hne : y ≠ x := fun e => h'.1 (e ▸ hy)
        exact (List.mem_erase_of_ne hne).mpr (hs y (List.mem_cons_of_mem _ hy))
      have hx := hs x (List.mem_cons_self ..)
      rw [List.length_erase_of_mem hx] at h1
      have := List.length_pos_of_mem hx
      rw [List.length_cons]
      omega
  exact nodup_sub h.nd h.sub
end L2.DL

namespace L2.DL
open PySem PySem.Spec PyProof.Rows
inductive Rows : List D → List (List Str) → Prop
  | nil : Rows [] []
  | cons {d : D} {r : List Str} {ds : List D} {rs : List (List Str)} (h : TupD d (plD r)) (t : Rows ds rs) : Rows (d :: ds) (r :: rs)
theorem Rows.len {ds : List D} {rs : List (List Str)} (h : Rows ds rs) : ds.length = rs.length := by
  induction h with
  | nil => rfl
  | cons _ _ ih => rw [List.length_cons, List.length_cons, ih]
theorem Rows.mem {ds : List D} {rs : List (List Str)} (h : Rows ds rs) : ∀ d ∈ ds, ∃ r ∈ rs, TupD d (plD r) := by
  induction h with
  | nil => intro d h; cases h
  | cons h _ ih =>
    intro d hd
    rcases List.mem_cons.mp hd with rfl | hd
    · exact ⟨_, List.mem_cons_self .., h⟩
    · obtain ⟨r, hr, t⟩ := ih d hd
      exact ⟨r, List.mem_cons_of_mem _ hr, t⟩
theorem TupD.fz {d : D} {xs : List D} (h : TupD d xs) : DL.fz d = some xs := by
  rcases h with rfl | rfl <;> rfl
def unD (d : D) : List D := (fz d).getD []
theorem TupD.un {d : D} {xs : List D} (h : TupD d xs) : unD d = xs := by
  unfold unD
  rw [h.fz]
  rfl
/-! ### singles, lasts -/
def lastS (r : List Str) : Str := r.getLastD Str.empty
theorem atI_last {α : Type} {xs : List α} {y : α} (h : xs.getLast? = some y) : atI xs (-1) = some y := by
  have hne : xs ≠ [] := fun e => by rw [e] at h; cases h
  have hp := List.length_pos_iff.mpr hne
  have e : ixN xs.length (-1) = some (xs.length - 1) := by
    unfold ixN
    rw [if_neg (by decide), if_pos (by omega)]
    congr 1
    omega
  unfold atI
  rw [e]
  rw [List.getLast?_eq_getElem?] at h
  exact h
end L2.DL

namespace L2.DL
open PySem PySem.Spec PyProof.Rows
theorem last_plD {r : List Str} (h : r ≠ []) : (plD r).getLast? = some (.str (lastS r)) := by
  show (r.map D.str).getLast? = _
  rw [List.getLast?_map]
  unfold lastS
  rw [List.getLastD_eq_getLast?]
  cases e : r.getLast? with
  | none => exact absurd (List.getLast?_eq_none_iff.mp e) h
  | some y => rfl
def lastD (d : D) : D := ((unD d).getLast?).getD .non
theorem lastD_of {d : D} {r : List Str} (T : TupD d (plD r)) (h : r ≠ []) : lastD d = .str (lastS r) := by
  unfold lastD
  rw [T.un, last_plD h]
  rfl
theorem Rows.lasts {ds : List D} {rs : List (List Str)} (h : Rows ds rs) (hn : ∀ r ∈ rs, r ≠ []) : ds.map lastD = plD (rs.map lastS) := by
  induction h with
  | nil => rfl
  | cons h _ ih =>
    rw [List.map_cons, ih fun r hr => hn r (List.mem_cons_of_mem _ hr), lastD_of h (hn _ (List.mem_cons_self ..))]
    rfl
/-! ### _law_walk -/
def nears (ls : List (Str × Str)) (r ts : List Str) : List Str := ts.filter fun x => decide ((lastS r, x) ∈ ls) && !decide (x ∈ r)
theorem RoadOk.more {ts : List Str} {ls : List (Str × Str)} {r : List Str} (R : RoadOk ts ls r) {x : Str} (h1 : x ∈ ts) (h2 : (lastS r, x) ∈ ls) (h3 : x ∉ r) : RoadOk ts ls (r ++ [x]) := by
  refine ⟨by simp, ?_, fun y hy => ?_, fun i a b ha hb => ?_⟩
  · rw [List.nodup_append]
    refine ⟨R.nd, by simp, fun a ha b hb e => ?_⟩
    rw [List.mem_singleton] at hb
    exact h3 (hb ▸ e ▸ ha)
  · rcases List.mem_append.mp hy with hy | hy
    · exact R.sub y hy
    · rw [List.mem_singleton] at hy
      exact hy ▸ h1
  · have hil := (List.getElem?_eq_some_iff.mp hb).1
    rw [List.length_append, List.length_singleton] at hil
    rw [List.getElem?_append_left (by omega)] at ha
    by_cases hb2 : i + 1 < r.length
    · rw [List.getElem?_append_left hb2] at hb
      exact R.step i a b ha hb
    · have e : i + 1 = r.length := by omega
      rw [e, List.getElem?_append_right (Nat.le_refl _), Nat.sub_self] at hb
      have eb : x = b := Option.some.inj hb
      have ea : lastS r = a := by
        unfold lastS
        rw [List.getLastD_eq_getLast?, List.getLast?_eq_getElem?, show r.length - 1 = i by omega, ha]
        rfl
      rw [← ea, ← eb]
      exact h2
theorem RoadOk.one {ts : List Str} {ls : List (Str × Str)} {x : Str} (h : x ∈ ts) : RoadOk ts ls [x] := by
  refine ⟨by simp, by simp, fun y hy => by rw [List.mem_singleton] at hy; rw [hy]; exact h, fun i a b h1 h2 => ?_⟩
  have := (List.getElem?_eq_some_iff.mp h2).1
  simp at this
end L2.DL

namespace L2.DL
open PySem PySem.Spec PyProof.Rows
/-! ### _law_rows -/
def inner (ls : List (Str × Str)) (left : List Str) : List (Str × Str) := ls.filter fun t => decide (t.1 ∈ left) && decide (t.2 ∈ left)
end L2.DL

namespace L2.DL
open PySem PySem.Spec PyProof.Rows
/-! ### rows turned round -/
def headD (d : D) : D := ((unD d).head?).getD .non
/-! what repr shows -/
end L2.DL

namespace L2.DL
open PySem PySem.Spec PyProof.Rows
/-! ### steps for webs -/
instance : InjD prD := ⟨fun _ _ h => prD_inj h⟩
section
variable {W : Addr} {ps : List Str} {ts : List (Str × Str)} {S : SO} {Q : KD} {E : EK} {A : Prop} {a b : Str}
theorem fldRow (h : Q (.tf (plD ps)) S) : FldD W "row" (webD W ps ts) S Q := ⟨_, _, ⟨rfl, rfl⟩, rfl, h⟩
theorem fldPairs (h : Q (.tf (ts.map prD)) S) : FldD W "pairs" (webD W ps ts) S Q := ⟨_, _, ⟨rfl, rfl⟩, rfl, h⟩
theorem fldMarks (h : Q (.dic true (mkD ts)) S) : FldD W "marks" (webD W ps ts) S Q := ⟨_, _, ⟨rfl, rfl⟩, rfl, h⟩
theorem mthTie {m : Str} (h : A) (hm : (fsD ps ts).lookup m = none := by with_unfolding_all rfl) : MthD W m (webD W ps ts) S A := ⟨⟨_, ⟨rfl, rfl⟩, hm⟩, h⟩
theorem hasTie (h : Q (.bl (decide ((a, b) ∈ ts))) S) : sp_Web_has_tie W [webD W ps ts, .str a, .str b] S Q E := ⟨ps, ts, a, b, rfl, h⟩
theorem chkWeb (h : Q .non S) : sp_check_web W [webD W ps ts] S Q E := ⟨ps, ts, rfl, h⟩
end
/-! isinstance -/
section
variable {S : SO} {Q : KD} {xs : List D} {x : Str} {i : Int} {b : Bool}
theorem isiTup (h : Q (.bl true) S) : cIsi (.ty "tuple") (fTy "tuple" []) [.tup xs, .ty "tuple"] S Q := ⟨rfl, _, _, rfl, rfl, h⟩
theorem isiTf (h : Q (.bl true) S) : cIsi (.ty "tuple") (fTy "tuple" []) [.tf xs, .ty "tuple"] S Q := ⟨rfl, _, _, rfl, rfl, h⟩
theorem isiStr (h : Q (.bl true) S) : cIsi (.ty "str") (fTy "str" []) [.str x, .ty "str"] S Q := ⟨rfl, _, _, rfl, rfl, h⟩
end
/-! in, equal -/
section
variable {S : SO} {Q : KD} {x : Str} {xs : List Str} {a b : Str} {ls : List (Str × Str)}
theorem inLst (h : Q (.bl (decide (x ∈ xs))) S) (hx : sOk x) (hxs : ∀ y ∈ xs, sOk y) : oIn (.str x) (.lst (plD xs)) S Q := .inl ⟨_, rfl, memStr hx hxs h⟩
theorem inPrs (h : Q (.bl (decide ((a, b) ∈ ls))) S) (ha : sOk a) (hb : sOk b) (hls : ∀ t ∈ ls, sOk t.1 ∧ sOk t.2) : oIn (.tup [.str a, .str b]) (.tf (ls.map prD)) S Q := .inl ⟨_, rfl, memPr (x := (a, b)) ⟨ha, hb⟩ hls h⟩
end
/-! objects: a cup at p, a list at f -/
section
variable {S : SO} {p f : Addr} {u u' v v' : DO}
theorem so_p (h : p ≠ f) : ((S.set p u).set f v) p = some u := by rw [set_ne h, set_same]
theorem so_pp (h : p ≠ f) : ((S.set p u).set f v).set p u' = (S.set p u').set f v := by rw [set_comm h.symm, set_set]
theorem so_pf (h : p ≠ f) : (S.set f v).set p u' = (S.set p u').set f v := set_comm h.symm
theorem ne_new {o : DO} (h : S p = some o) (hf : S f = none) : p ≠ f := so_ne h hf
end
/-! draws -/
section
variable {W : Addr} {S : SO} {Q : KD} {E : EK} {p : Addr} {a b c : Int}
theorem sipN {m : Nat} (hp : S p = some (pan3 a b c)) (h0 : 0 < m) (h1 : m ≤ 1000000) (q : ∀ r : Nat, r < m → ∀ a' b' c' : Int, Q (.int (r : Nat)) (S.set p (pan3 a' b' c'))) : sp_cup_sip W [.obj p, .int (m : Nat)] S Q E :=
  ⟨p, a, b, c, _, rfl, hp, by omega, by omega, fun r a' b' c' h0 h1 => by
    have := q r.toNat (by omega) a' b' c'
    rwa [Int.toNat_of_nonneg h0] at this⟩
end
end L2.DL

namespace L2.DL
open PySem PySem.Spec PyProof.Rows
end L2.DL

namespace L2.DL
open PySem PySem.Spec PyProof.Rows
/-! draws of this family, typed -/
end L2.DL

namespace L2.DL
open PySem PySem.Spec PyProof.Rows
/-! ### steps, as mathematics: from a parting to a witness, or to a parting with fewer roads -/
def lasts (rs : List (List Str)) : List Str := rs.map lastS
theorem lstS_eq {r : List Str} (h : r ≠ []) : r.getLast? = some (lastS r) := by
  unfold lastS
  rw [List.getLastD_eq_getLast?]
  cases e : r.getLast? with
  | none => exact absurd (List.getLast?_eq_none_iff.mp e) h
  | some x => rfl
section
variable {ps : List Str} {ts : List (Str × Str)} {rs A B : List (List Str)} {r : List Str} {x y fresh : Str}
/-- a road more at its end -/
theorem RoadOk.snoc (h : RoadOk ps ts r) (hx : fresh ∈ ps) (hn : fresh ∉ r) (ht : (lastS r, fresh) ∈ ts) : RoadOk ps ts (r ++ [fresh]) := by
  refine ⟨by simp, ?_, fun z hz => ?_, fun i a b ha hb => ?_⟩
  · rw [List.nodup_append]
    exact ⟨h.nd, by simp, fun a ha b hb e => hn (by rw [List.mem_singleton] at hb; rw [← hb, ← e]; exact ha)⟩
  · rcases List.mem_append.mp hz with hz | hz
    · exact h.sub z hz
    · rw [List.mem_singleton.mp hz]
      exact hx
  · by_cases hi : i + 1 < r.length
    · rw [List.getElem?_append_left (by omega)] at ha
      rw [List.getElem?_append_left hi] at hb
      exact h.step i a b ha hb
    · have hl : i + 1 < (r ++ [fresh]).length := (List.getElem?_eq_some_iff.mp hb).1
      rw [List.length_append, List.length_singleton] at hl
      have hi2 : i + 1 = r.length := by omega
      rw [List.getElem?_append_left (by omega)] at ha
      rw [List.getElem?_append_right (by omega), hi2, Nat.sub_self] at hb
      have hb : fresh = b := Option.some.inj hb
      subst hb
      have e := lstS_eq h.ne
      rw [List.getLast?_eq_getElem?, show r.length - 1 = i by omega, ha] at e
      injection e with e
      rw [e]
      exact ht
/-- a road without its last place -/
theorem RoadOk.cut (h : RoadOk ps ts (r ++ [fresh])) (hr : r ≠ []) : RoadOk ps ts r := by
  refine ⟨hr, (List.nodup_append.mp h.nd).1, fun z hz => h.sub z (List.mem_append_left _ hz), fun i a b ha hb => ?_⟩
  have l1 := (List.getElem?_eq_some_iff.mp ha).1
  have l2 := (List.getElem?_eq_some_iff.mp hb).1
  exact h.step i a b (by rw [List.getElem?_append_left l1]; exact ha) (by rw [List.getElem?_append_left l2]; exact hb)
theorem RoadOk.tie (h : RoadOk ps ts (r ++ [fresh])) (hr : r ≠ []) : (lastS r, fresh) ∈ ts := by
  have hl : 0 < r.length := List.length_pos_iff.mpr hr
  have e := lstS_eq hr
  rw [List.getLast?_eq_getElem?] at e
  refine h.step (r.length - 1) _ _ (by rw [List.getElem?_append_left (by omega)]; exact e) ?_
  rw [List.getElem?_append_right (by omega), show r.length - 1 + 1 - r.length = 0 by omega]
  rfl
end
end L2.DL

/-! DL68: tuple * int, 1 too -/
namespace L2.DL
open PySem PySem.Spec PyProof.Rows
theorem tuple_mul1 (l : Addr) (items : Array Value) (n : Nat) (dd : Option Addr) (sl : Array (Option Value)) (u : Tok) :
    Meets (Builtin.«tuple.__mul__» ⟨[.ref l, .int 1 u], []⟩) (fun _ R s => s.heap.get? l = some { cls := .type "tuple", dict := dd, data := .seq items n, slots := sl } ∧
      R (.ok (.ret (Value.ref l))) s) :=
  .of_wp fun prog w A R s h => by
    obtain ⟨hp, g, d, tk, os⟩ := s
    obtain ⟨hl, h⟩ := h
    have f1 := AutoSeq1.idx_int
    wp_walk using wpAny_loadPart' hl
    exact ⟨_, rfl, h⟩
section
variable {X : Cx}
def rRepT1 (K : PySem.W.Frag) : R2 := fun x y H Q => ∃ l xs, x = .ref l ∧ y = .int 1 ∧ SqT K H l xs ∧ Q (.ref l) H
theorem op_repT1 : OpR X (binaryOp .Mult) (rRepT1 X.K) := by
  intro pins s σ H x y v u Q I rx ry h
  obtain ⟨l, xs, rfl, rfl, hT, q⟩ := h
  cases rx
  obtain ⟨t, rfl⟩ := ry
  obtain ⟨its, r, ⟨⟨cls, dd, data, sl⟩, ho, hc, n, hd⟩, hs⟩ := I.tuple hT
  simp only at hc hd
  subst hc hd
  refine wpAny_binaryOp_repeat_ref (T := "tuple") (U := "int") (by decide) ⟨_, ho, rfl⟩ (fun s' => typeIs_int s' 1 t) noFill_tuple_mul F.fills_int_mul F.slot_int_rmul repeat_tuple F.slot_int_index.lookup
    (call_meets F.slot_int_rmul (typeIs_int s 1 t) F.entry_int_rmul (F.args_int_rmul_2 _ _) (int_rmul_tuple 1 t l its.toArray n dd sl)
      ⟨ho, rfl, ⟨_, ho, rfl⟩, call_meets F.slot_tuple_mul ⟨_, ho, rfl⟩ F.entry_tuple_mul (F.args_tuple_mul_2 _ _) (tuple_mul1 l its.toArray n dd sl t) ⟨ho, ?_⟩⟩)
  exact ⟨.ref l, H, I, rfl, q⟩
/-- one thing many times, once too -/
def oMulU : WO := fun x y S Q => ∃ z k, x = .tup [z] ∧ y = .int k ∧ 1 ≤ k ∧ k ≤ 1000 ∧ Q (.tup (List.replicate k.toNat z)) S
theorem rep_flat {α : Type} (z : α) : ∀ n, (List.replicate n [z]).flatten = List.replicate n z
  | 0 => rfl
  | n + 1 => by rw [List.replicate_succ, List.flatten_cons, rep_flat z n, List.replicate_succ]; rfl
theorem do_mulU : DO2 X (binaryOp .Mult) oMulU := by
  intro pins s σ H x y v u Q I rx ry ⟨dx, dy, S, Q0, sr, r1, r2, q, an⟩
  obtain ⟨z, k, rfl, rfl, h1, h2, q⟩ := q
  by_cases hk : k = 1
  · subst hk
    obtain ⟨a, vs, e1, t1, rv⟩ := asTup_at r1 rfl
    have e2 : y = .int 1 := r2
    refine op_repT1 pins s σ H x y v u Q I rx ry ⟨a, vs, e1, e2, t1, ?_⟩
    have e3 : x = .ref a := e1
    rw [← e3]
    exact an _ _ _ _ q (Nx.refl _ _) sr r1
  · refine do_mulT pins s σ H x y v u Q I rx ry ⟨_, _, S, Q0, sr, r1, r2, ⟨[z], k, rfl, rfl, by simp, by omega, h2, by simp, ?_⟩, an⟩
    rw [rep_flat]
    exact q
theorem mulU {S : SO} {Q : KD} {z : D} {n : Nat} (h1 : 1 ≤ n) (h2 : n ≤ 1000) (h : Q (.tup (List.replicate n z)) S) : oMulU (.tup [z]) (.int (n : Nat)) S Q := ⟨z, n, rfl, rfl, by omega, by omega, h⟩
end
end L2.DL

namespace L2.DL
local macro_rules | `(tactic| and_intros) => `(tactic| repeat (first | with_reducible refine fldRow ?_ | with_reducible refine fldPairs ?_ | with_reducible refine fldMarks ?_ | with_reducible refine mthTie ?_ | with_reducible refine hasTie ?_ | with_reducible refine chkWeb ?_ | with_reducible refine isiTup ?_ | with_reducible refine isiTf ?_ | with_reducible refine isiStr ?_ | with_reducible refine v0 ?_ | with_reducible refine vS ?_ | with_reducible refine xC ?_ | with_reducible refine xCons ?_ | with_reducible refine xNil ?_ | with_reducible refine xO ?_ | with_reducible refine xCall ?_ | with_reducible refine xSeq ?_ | with_reducible refine xAsg ?_ | with_reducible refine g0 ?_ | with_reducible refine gSu ?_ | with_reducible refine xNext ?_ | with_reducible refine xRet ?_ | with_reducible refine xIfS ?_ | with_reducible refine xB ?_ | with_reducible refine isT ?_ | with_reducible refine isF ?_ | with_reducible refine isT' ?_ | with_reducible refine isF' ?_ | with_reducible refine iT ?_ | with_reducible refine iF ?_ | with_reducible refine iNT ?_ | with_reducible refine iNF ?_ | with_reducible refine xAnd ?_ | with_reducible refine xOr ?_ | with_reducible refine xNot ?_ | with_reducible refine xAndV ?_ | with_reducible refine xOrV ?_ | with_reducible refine xNotV ?_ | with_reducible refine xIf ?_ | with_reducible refine xCh ?_ | with_reducible refine xYes ?_ | with_reducible refine iAdd ?_ | with_reducible refine iSub ?_ | with_reducible refine iAnd ?_ | with_reducible refine iOr ?_ | with_reducible refine iLt ?_ | with_reducible refine iLe ?_ | with_reducible refine iGt ?_ | with_reducible refine iGe ?_ | with_reducible refine iEq ?_ | with_reducible refine iNe ?_ | with_reducible refine sEq ?_ | with_reducible refine sNe ?_ | with_reducible refine iNeg ?_ | with_reducible refine isN1 ?_ | with_reducible refine isN2 ?_ | with_reducible refine noN2 ?_ | with_reducible refine xLen ?_ | with_reducible refine lTupM ?_ | with_reducible refine lTfM ?_ | with_reducible refine lLstM ?_ | with_reducible refine lSrcM ?_ | with_reducible refine lTup ?_ | with_reducible refine lTf ?_ | with_reducible refine lLst ?_ | with_reducible refine lSrc ?_ | with_reducible refine lDic ?_ | with_reducible refine xAllM ?_ | with_reducible refine xAnyM ?_ | with_reducible refine xAll ?_ | with_reducible refine xFnC ?_ | with_reducible refine xFld ?_ | with_reducible refine xMth ?_ | with_reducible refine xSeqI ?_ | with_reducible refine sTup ?_ | with_reducible refine sTf ?_ | with_reducible refine sLst ?_ | with_reducible refine sSrc ?_ | with_reducible refine xEnum ?_ | with_reducible refine one1 ?_ | with_reducible refine xRng1 ?_ | with_reducible refine xRng2 ?_ | with_reducible refine int1' ?_ | with_reducible refine int2' ?_ | with_reducible refine xFor ?_ | with_reducible refine xTup ?_ | with_reducible refine xTupF ?_ | with_reducible refine xLst ?_ | with_reducible refine xNew ?_ | with_reducible refine xU ?_ | with_reducible refine xDrop ?_ | with_reducible refine xRetN ?_ | with_reducible refine xBreak ?_ | with_reducible refine xCont ?_ | with_reducible refine xStar ?_ | with_reducible refine gTup ?_ | with_reducible refine gCons ?_ | with_reducible refine gNil ?_ | with_reducible refine xSl ?_ | with_reducible refine pN ?_ | with_reducible refine pS ?_ | with_reducible refine isI1 ?_ | with_reducible refine slTup ?_ | with_reducible refine slSrc ?_ | with_reducible refine slLst ?_ | with_reducible refine xPar ?_ | with_reducible refine xPar3 ?_ | with_reducible refine two2' ?_ | with_reducible refine three' ?_ | with_reducible refine xBM ?_ | with_reducible refine bmLst ?_ | with_reducible refine bmSrc ?_ | with_reducible refine tfL ?_ | with_reducible refine tuL ?_ | with_reducible refine tuT ?_ | with_reducible refine xRevU ?_ | with_reducible refine revTup ?_ | with_reducible refine revTf ?_ | with_reducible refine xDicF ?_ | with_reducible refine xLcF ?_ | with_reducible refine xLcN ?_ | with_reducible refine xZip ?_ | with_reducible refine xCl ?_ | with_reducible refine andL (by with_unfolding_all exact lez rfl) ?_))
section
open PySem PySem.Spec PyProof.Rows
/-! ### met -/
end
section
open PySem PySem.Spec PyProof.Rows
/-! ### one road over all -/
/-- a list is [] or not -/
theorem neL0 {S : SO} {Q : KD} {d : D} {α : Type} {f : α → D} {g : α → PyData} {l : List α} (e : lstD S d = some (l.map f)) (hf : ∀ z ∈ l, pyD (f z) = some (g z)) (hs : SeqAt.shaped (.list (l.map g)) = true) (h : Q (.bl (!l.isEmpty)) S) : oNe d (.lst []) S Q := by
  refine eqD_lst e ⟨.list (l.map g), .list [], pyS_lst e (pyDs_map hf), rfl, hs, by decide +kernel, ?_⟩
  cases l with
  | nil => exact h
  | cons x xs => exact h
end
section
open PySem PySem.Spec PyProof.Rows
/-! ### law, as most laws of the family have it, for so many turns -/
def w_cup_lawN (W : Addr) (right : DSp) (n : Int) : WS := (wRet (wCall cAll (wCons (wLcF (wRng1 (wCons (wCall cMax (wCons (wC (.int 2)) (wCons (wCall cMin (wCons (wCall cLen (wCons (wV 0) wNil)) (wCons (wC (.int n)) wNil))) wNil))) wNil)) (.n 1) wYes (wFn right [] (wCons (wFn (sp_cup_cup W) [] (wCons (wV 0) (wCons (wV 1) wNil))) wNil)) [1]) wNil)))
theorem pure_cup_lawN (W : Addr) {right : DSp} (n : Int) (hn : 2 ≤ n ∧ n ≤ 63) (hr : RightSp right) : ∀ ds S Q E, LawSp 63 ds S Q E → w_cup_lawN W right n (endsOf Q) (startD ["_law_script", "_law_k"] ds) S := by
  rintro ds S Q E ⟨ns, rfl, hl, rfl, q⟩
  have hl' : (ns.map D.int).length ≤ 63 := by rw [List.length_map]; exact hl
  refine ⟨⟨Or.inl ⟨_, rfl, Or.inl (Or.inl ⟨by omega, by omega, fun p hp => ⟨fun i S' => ∃ k, k ≤ i ∧ S' p = some (.lst (List.replicate k (.bl true))), ⟨0, Nat.le_refl _, set_same⟩, fun _ _ _ => trivial, ?_, ?_⟩⟩)⟩⟩⟩
  · rintro i d S' hi ⟨k, hk, g1⟩
    obtain ⟨rfl, hi2⟩ := rangeD_get hi
    refine upYes (ifY rfl (upI ⟨ns, i, ?_, hl, fun x a b hx => ?_⟩))
    · rw [Int.zero_add]
      rfl
    have hxp : p ≠ x := fun e => by rw [← e, g1] at hx; cases hx
    refine hr x a b 0 _ _ set_same fun a' b' c' => ⟨List.replicate k (.bl true), ?_, ?_, k + 1, by omega, ?_⟩
    · rw [set_ne hxp, set_ne hxp]
      exact g1
    · rw [List.length_replicate]
      omega
    · rw [set_same, List.replicate_succ']
  · rintro S2 ⟨k, hk, g1⟩
    refine ⟨_, g1, List.replicate k true, ?_, cl ?_⟩
    · show some _ = some _
      rw [List.map_replicate]
    · have e : (List.replicate k true).all id = true := by simp
      rw [e]
      exact q _
/-! ### _law_is_road of good roads -/
theorem rangeN1 (n : Nat) : rangeD 1 ((n : Nat) : Int) = (List.range (n - 1)).map fun i => .int ((i : Nat) + 1 : Int) := by
  unfold rangeD
  rw [show ((n : Int) - 1).toNat = n - 1 by omega]
  exact List.map_congr_left fun i _ => by rw [Int.add_comm]
instance : InjD (fun i : Nat => D.int ((i : Nat) + 1 : Int)) := ⟨fun _ _ h => by injection h with h; omega⟩
end
section
open PySem PySem.Spec PyProof.Rows
/-! ### the third family of draws -/
/-! steps -/
theorem xSubD {wo wi : WE} {w : WSet} {x : D} {sd : SD} {S : SO} {Qg : SD → SO → Prop} (h : wo sd S fun d S1 => wi sd S1 fun k S2 => w d k x S2 fun S3 => Qg sd S3) : gSubD wo wi w x sd S Qg := h
def MkD (C : Addr) (sp : DSp) (xs : List D) (S : SO) (Q : KD) : Prop := ∀ p, S p = none → sp (.obj p :: xs) (S.set p (.ins C [])) (fun d S2 => d = .non ∧ ∃ fs, S2 p = some (.ins C fs) ∧ Q (.ins C fs) (S2.del p)) NoE
theorem xMakeF {C : Addr} {sp : DSp} {t : WA} {sd : SD} {S : SO} {Q : KD} (h : t sd S fun xs S1 => MkD C sp xs S1 Q) : wMakeF C sp [] t sd S Q := by
  have e : ∀ xs : List D, xs ++ [] = xs := List.append_nil
  unfold wMakeF
  simp only [e]
  exact h
theorem mkWeb {W : Addr} {ps : List Str} {ts : List (Str × Str)} {S : SO} {Q : KD} (ok : WebOk ps ts) (h : Q (webD W ps ts) S) : MkD W (sp_Web_init W) [.tf (plD ps), .tf (ts.map prD)] S Q := fun p hp => ⟨p, ps, ts, rfl, set_same, ok, rfl, fsD ps ts, set_same, by rw [set_set, del_set hp]; exact h⟩
section
variable {S : SO} {Q : KD} {i j : Int}
theorem xInt (h : Q (.int i) S) : cInt [.int i] S Q := h
theorem iModL (h : Q (.int (i % j)) S) (hj : 0 < j := by decide) : oMod (.int i) (.int j) S Q := ⟨hj, h⟩
end
end
section
open PySem PySem.Spec PyProof.Rows
/-! ### roads of any kind of value -/
section
variable {S : SO} {Q : KD} {m : Nat} {d x : D} {xs : List D}
theorem isiTupA (h : Q (.bl (asTup d).isSome) S) (hd : Any m d) : cIsi (.ty "tuple") (fTy "tuple" []) [d, .ty "tuple"] S Q := by
  cases hd <;> exact ⟨rfl, _, _, rfl, rfl, h⟩
theorem asTup_seq (e : asTup d = some xs) (S : SO) : seqX S d = some xs := by
  cases d <;> first | exact e | cases e
theorem asTup_len {k : Nat → Prop} (e : asTup d = some xs) (h : k xs.length) : lenD S d k := len_seq (asTup_seq e S) h
theorem asTup_seqD {Rs : List D → (SO → Prop) → Prop} (e : asTup d = some xs) (h : Rs xs fun _ => True) : seqD d S Rs := by
  cases d <;> first | (cases e; exact h) | cases e
theorem Any.items (h : Any m d) (e : asTup d = some xs) : xs.length ≤ m ∧ ∀ x ∈ xs, Any m x := by
  cases h with
  | tup ys hl hx => cases e; exact ⟨hl, hx⟩
  | tf ys hl hx => cases e; exact ⟨hl, hx⟩
  | _ => cases e
theorem Any.sok {s : Str} (h : Any m (.str s)) : sOk s := by
  cases h with
  | str x h => exact h.1
end
theorem plD_inj {a b : List Str} (h : plD a = plD b) : a = b := map_inj (f := D.str) h
end
section
open PySem PySem.Spec PyProof.Rows
section
variable {P : Program} {w : World} {K : PySem.W.Frag} {mg : Str → Option Value} {base : Heap}
end
/-! ### _law_is_road of anything -/
/-! ### _law_bent -/
end
section
open PySem PySem.Spec PyProof.Rows
end
section
open PySem PySem.Spec PyProof.Rows
/-! ### k08 -/
end
section
open PySem PySem.Spec PyProof.Rows
/-! ### sorted texts -/
abbrev leS (a b : Str) : Prop := a.cps.toList ≤ b.cps.toList
theorem rising_pw : ∀ (l : List Str) (p : Str), risingS p l = true → (p :: l).Pairwise leS
  | [], p, _ => List.pairwise_singleton _ _
  | x :: r, p, h => by
    have h' : (!ltCps x.cps.toList p.cps.toList && risingS x r) = true := h
    rw [Bool.and_eq_true] at h'
    have ih := rising_pw r x h'.2
    have h1 : leS p x := by
      have := h'.1
      rw [ltCps_eq, Bool.not_eq_true', decide_eq_false_iff_not] at this
      exact List.not_lt.mp this
    refine List.pairwise_cons.mpr ⟨fun y hy => ?_, ih⟩
    rcases List.mem_cons.mp hy with rfl | hy
    · exact h1
    · exact List.le_trans h1 ((List.pairwise_cons.mp ih).1 y hy)
theorem sortedS_pw {l : List Str} (h : sortedS l = true) : l.Pairwise leS := by
  cases l with
  | nil => exact List.Pairwise.nil
  | cons x r => exact rising_pw r x h
theorem leS_anti {a b : Str} (h1 : leS a b) (h2 : leS b a) : a = b := by
  have := List.le_antisymm h1 h2
  cases a
  cases b
  simp only at this
  rw [Array.toList_inj.mp this]
theorem sorted_uniq : ∀ {a b : List Str}, a.Perm b → a.Pairwise leS → b.Pairwise leS → a = b
  | [], b, h, _, _ => (List.Perm.nil_eq h)
  | x :: xs, [], h, _, _ => by simpa using h.length_eq
  | x :: xs, y :: ys, h, h1, h2 => by
    have p1 := List.pairwise_cons.mp h1
    have p2 := List.pairwise_cons.mp h2
    have e : x = y := by
      have m1 : x ∈ y :: ys := h.mem_iff.mp (List.mem_cons_self ..)
      have m2 : y ∈ x :: xs := h.mem_iff.mpr (List.mem_cons_self ..)
      rcases List.mem_cons.mp m1 with e | m1
      · exact e
      rcases List.mem_cons.mp m2 with e | m2
      · exact e.symm
      exact leS_anti (p1.1 y m2) (p2.1 x m1)
    subst e
    rw [sorted_uniq (List.perm_cons x |>.mp h) p1.2 p2.2]
theorem perm_of_sub : ∀ {a b : List Str}, a.Nodup → (∀ x ∈ a, x ∈ b) → b.length ≤ a.length → a.Perm b
  | [], b, _, _, h => by
    have : b = [] := List.length_eq_zero_iff.mp (Nat.le_zero.mp h)
    rw [this]
  | x :: a, b, h1, h2, h3 => by
    have n1 := List.nodup_cons.mp h1
    have hx := h2 x (List.mem_cons_self ..)
    have p := List.perm_cons_erase hx
    refine (List.Perm.cons x (perm_of_sub (b := b.erase x) n1.2 (fun y hy => ?_) ?_)).trans p.symm
    · have hne : y ≠ x := fun e => n1.1 (e ▸ hy)
      exact (List.mem_erase_of_ne hne).mpr (h2 y (List.mem_cons_of_mem _ hy))
    · rw [List.length_erase_of_mem hx]
      rw [List.length_cons] at h3
      omega
/-! ### partings of any kind of value -/
/-! ### the law's own look -/
theorem lAdd {S : SO} {Q : KD} {x y : List D} (h : Q (.lst (x ++ y)) S) (hl : x.length + y.length ≤ 1000000) : oAdd (.lst x) (.lst y) S Q := ⟨hl, h⟩
theorem srtS {S : SO} {Q : KD} {d : D} {ss : List Str} (e : seqX S d = some (plD ss)) (h : ∀ ss' : List Str, ss'.Perm ss → sortedS ss' = true → Q (.lst (plD ss')) S) : cSorted [d] S Q := .inl ⟨ss, e, h⟩
theorem eqLS {S : SO} {Q : KD} {a b : List Str} (h : Q (.bl (decide (a = b))) S) (ha : ∀ x ∈ a, sOk x) (hb : ∀ x ∈ b, sOk x) : oEq (.lst (plD a)) (.lst (plD b)) S Q := by
  have g : ∀ l : List Str, pyD (.lst (plD l)) = some (.list (l.map PyData.str)) := fun l => by
    show (pyDs (plD l)).map PyData.list = _
    rw [pyDs_strs]
    rfl
  refine ⟨.list (a.map PyData.str), .list (b.map PyData.str), g a, g b, shaped_list (n := 0) (by decide) ha (fun y _ => by simp [PyData.depth]), shaped_list (n := 0) (by decide) hb (fun y _ => by simp [PyData.depth]), ?_⟩
  have e : PyData.eqv (.list (a.map PyData.str)) (.list (b.map PyData.str)) = decide (a = b) := eqvAll_map eqv_str a b
  rw [e]
  exact h
end
section
open PySem PySem.Spec PyProof.Rows
/-! ### _law_put_together -/
end
section
open PySem PySem.Spec PyProof.Rows
/-! ### free places -/
/-! ### witnesses -/
instance : InjD (fun z : D × List Str => D.tup [z.1, .tup (plD z.2)]) := ⟨fun a b e => by
  injection e with e
  injection e with e1 e
  injection e with e2 e
  injection e2 with e2
  exact Prod.ext e1 (plD_inj e2)⟩
end
end L2.DL
namespace L2.DL
local macro_rules | `(tactic| and_intros) => `(tactic| repeat (first | with_reducible refine xInt ?_ | with_reducible refine iModL ?_ | with_reducible refine xMakeF ?_ | with_reducible refine xSubD ?_ | with_reducible refine fldRow ?_ | with_reducible refine fldPairs ?_ | with_reducible refine fldMarks ?_ | with_reducible refine mthTie ?_ | with_reducible refine hasTie ?_ | with_reducible refine chkWeb ?_ | with_reducible refine isiTup ?_ | with_reducible refine isiTf ?_ | with_reducible refine isiStr ?_ | with_reducible refine v0 ?_ | with_reducible refine vS ?_ | with_reducible refine xC ?_ | with_reducible refine xCons ?_ | with_reducible refine xNil ?_ | with_reducible refine xO ?_ | with_reducible refine xCall ?_ | with_reducible refine xSeq ?_ | with_reducible refine xAsg ?_ | with_reducible refine g0 ?_ | with_reducible refine gSu ?_ | with_reducible refine xNext ?_ | with_reducible refine xRet ?_ | with_reducible refine xIfS ?_ | with_reducible refine xB ?_ | with_reducible refine isT ?_ | with_reducible refine isF ?_ | with_reducible refine isT' ?_ | with_reducible refine isF' ?_ | with_reducible refine iT ?_ | with_reducible refine iF ?_ | with_reducible refine iNT ?_ | with_reducible refine iNF ?_ | with_reducible refine xAnd ?_ | with_reducible refine xOr ?_ | with_reducible refine xNot ?_ | with_reducible refine xAndV ?_ | with_reducible refine xOrV ?_ | with_reducible refine xNotV ?_ | with_reducible refine xIf ?_ | with_reducible refine xCh ?_ | with_reducible refine xYes ?_ | with_reducible refine iAdd ?_ | with_reducible refine iSub ?_ | with_reducible refine iAnd ?_ | with_reducible refine iOr ?_ | with_reducible refine iLt ?_ | with_reducible refine iLe ?_ | with_reducible refine iGt ?_ | with_reducible refine iGe ?_ | with_reducible refine iEq ?_ | with_reducible refine iNe ?_ | with_reducible refine sEq ?_ | with_reducible refine sNe ?_ | with_reducible refine iNeg ?_ | with_reducible refine isN1 ?_ | with_reducible refine isN2 ?_ | with_reducible refine noN2 ?_ | with_reducible refine xLen ?_ | with_reducible refine lTupM ?_ | with_reducible refine lTfM ?_ | with_reducible refine lLstM ?_ | with_reducible refine lSrcM ?_ | with_reducible refine lTup ?_ | with_reducible refine lTf ?_ | with_reducible refine lLst ?_ | with_reducible refine lSrc ?_ | with_reducible refine lDic ?_ | with_reducible refine xAllM ?_ | with_reducible refine xAnyM ?_ | with_reducible refine xAll ?_ | with_reducible refine xFnC ?_ | with_reducible refine xFld ?_ | with_reducible refine xMth ?_ | with_reducible refine xSeqI ?_ | with_reducible refine sTup ?_ | with_reducible refine sTf ?_ | with_reducible refine sLst ?_ | with_reducible refine sSrc ?_ | with_reducible refine xEnum ?_ | with_reducible refine one1 ?_ | with_reducible refine xRng1 ?_ | with_reducible refine xRng2 ?_ | with_reducible refine int1' ?_ | with_reducible refine int2' ?_ | with_reducible refine xFor ?_ | with_reducible refine xTup ?_ | with_reducible refine xTupF ?_ | with_reducible refine xLst ?_ | with_reducible refine xNew ?_ | with_reducible refine xU ?_ | with_reducible refine xDrop ?_ | with_reducible refine xRetN ?_ | with_reducible refine xBreak ?_ | with_reducible refine xCont ?_ | with_reducible refine xStar ?_ | with_reducible refine gTup ?_ | with_reducible refine gCons ?_ | with_reducible refine gNil ?_ | with_reducible refine xSl ?_ | with_reducible refine pN ?_ | with_reducible refine pS ?_ | with_reducible refine isI1 ?_ | with_reducible refine slTup ?_ | with_reducible refine slSrc ?_ | with_reducible refine slLst ?_ | with_reducible refine xPar ?_ | with_reducible refine xPar3 ?_ | with_reducible refine two2' ?_ | with_reducible refine three' ?_ | with_reducible refine xBM ?_ | with_reducible refine bmLst ?_ | with_reducible refine bmSrc ?_ | with_reducible refine tfL ?_ | with_reducible refine tuL ?_ | with_reducible refine tuT ?_ | with_reducible refine xRevU ?_ | with_reducible refine revTup ?_ | with_reducible refine revTf ?_ | with_reducible refine xDicF ?_ | with_reducible refine xLcF ?_ | with_reducible refine xLcN ?_ | with_reducible refine xZip ?_ | with_reducible refine xCl ?_ | with_reducible refine andL (by with_unfolding_all exact lez rfl) ?_))
section
open PySem PySem.Spec PyProof.Rows
/-! ### _law_labels -/
end
section
open PySem PySem.Spec PyProof.Rows
/-! ### _law_order -/
abbrev nsD (l : List Nat) : List D := l.map fun i : Nat => D.int (i : Nat)
/-! ### _law_links -/
def ipD (t : Nat × Nat) : D := .tup [.int (t.1 : Nat), .int (t.2 : Nat)]
theorem ipD_inj {a b : Nat × Nat} (h : ipD a = ipD b) : a = b := by
  unfold ipD at h
  injection h with h
  injection h with h1 h
  injection h with h2 h
  injection h1 with h1
  injection h2 with h2
  exact Prod.ext (by omega) (by omega)
instance : InjD ipD := ⟨fun _ _ h => ipD_inj h⟩
end
section
open PySem PySem.Spec PyProof.Rows
/-! ### _law_web, _law_scene -/
theorem nodup_map_on {α β : Type} {f : α → β} : ∀ {l : List α}, (∀ x ∈ l, ∀ y ∈ l, f x = f y → x = y) → l.Nodup → (l.map f).Nodup
  | [], _, _ => List.nodup_nil
  | x :: l, h, n => by
    have n2 := List.nodup_cons.mp n
    refine List.nodup_cons.mpr ⟨fun hm => ?_, nodup_map_on (fun a ha b hb => h a (List.mem_cons_of_mem _ ha) b (List.mem_cons_of_mem _ hb)) n2.2⟩
    obtain ⟨y, hy, e⟩ := List.mem_map.mp hm
    exact n2.1 (h y (List.mem_cons_of_mem _ hy) x (List.mem_cons_self ..) e ▸ hy)
def nmT (ts : List Str) (t : Nat × Nat) : Str × Str := (ts.getD t.1 Str.empty, ts.getD t.2 Str.empty)
abbrev nmL (ts : List Str) (ls : List (Nat × Nat)) : List (Str × Str) := ls.map (nmT ts)
theorem getD_get {ts : List Str} {i : Nat} (h : i < ts.length) : ts[i]? = some (ts.getD i Str.empty) := by
  rw [List.getD_eq_getElem?_getD, List.getElem?_eq_getElem h]
  rfl
theorem getD_inj {ts : List Str} (nd : ts.Nodup) {i j : Nat} (hi : i < ts.length) (hj : j < ts.length) (h : ts.getD i Str.empty = ts.getD j Str.empty) : i = j := nodup_ix nd (getD_get hi) (h ▸ getD_get hj)
/-- names and ties by numbers -/
structure NetI (ts : List Str) (ls : List (Nat × Nat)) : Prop where
  nm : NamesOk ts
  pos : 0 < ts.length
  few : ts.length ≤ 40
  ok : ∀ t ∈ ls, t.1 < ts.length ∧ t.2 < ts.length ∧ t.1 ≠ t.2
  nd : ls.Nodup
  lfew : ls.length ≤ 200
theorem NetI.web {ts : List Str} {ls : List (Nat × Nat)} (h : NetI ts ls) : WebOk ts (nmL ts ls) := by
  refine ⟨h.pos, h.few, h.nm.1, h.nm.2, by rw [List.length_map]; exact h.lfew, fun t ht => ?_, ?_⟩
  · obtain ⟨u, hu, rfl⟩ := List.mem_map.mp ht
    obtain ⟨h1, h2, h3⟩ := h.ok u hu
    exact ⟨List.mem_of_getElem? (getD_get h1), List.mem_of_getElem? (getD_get h2), fun e => h3 (getD_inj h.nm.2 h1 h2 e)⟩
  · have key : ∀ l : List (Nat × Nat), (∀ t ∈ l, t ∈ ls) → l.Nodup → (nmL ts l).Nodup := fun l => by
      induction l with
      | nil => intros; exact List.nodup_nil
      | cons t l ih =>
        intro hs hn
        have hn2 := List.nodup_cons.mp hn
        refine List.nodup_cons.mpr ⟨fun hm => ?_, ih (fun u hu => hs u (List.mem_cons_of_mem _ hu)) hn2.2⟩
        obtain ⟨u, hu, e⟩ := List.mem_map.mp hm
        obtain ⟨a1, a2, _⟩ := h.ok t (hs t (List.mem_cons_self ..))
        obtain ⟨b1, b2, _⟩ := h.ok u (hs u (List.mem_cons_of_mem _ hu))
        unfold nmT at e
        injection e with e1 e2
        have : u = t := Prod.ext (getD_inj h.nm.2 b1 a1 e1) (getD_inj h.nm.2 b2 a2 e2)
        exact hn2.1 (this ▸ hu)
    exact key ls (fun _ h => h) h.nd
end
section
open PySem PySem.Spec PyProof.Rows
/-! ### many lists of numbers, each an object -/
/-! ### numbered -/
theorem ixDic {t : Bool} {kvs : List (D × D)} {k v : D} {S : SO} {Q : KD} (ok : keyOk t k) (e : dget kvs k = some v) (h : Q v S) : oIx (.dic t kvs) k S Q := .inr (.inr ⟨t, kvs, v, rfl, ok, e, h⟩)
theorem key_str (p : Str) : keyOk false (.str p) := ⟨.inr p, rfl⟩
end
end L2.DL
namespace L2.DL
open PySem PySem.Spec PyProof.Rows
/-! ### a walk that looks for rings: row the way to here, vals what is left to see at each of its places, ks the places from which no ring is reached, in the order in which that was found -/
end L2.DL

namespace L2.DL
open PySem PySem.Spec PyProof.Rows
/-! ### numbers paired with numbers they lead to: bg for each end the begin, en for each begin the end -/
section
variable {nx : List (List Nat)} {bg en bg1 en1 : List (Option Nat)} {b e0 a : Nat} {T Ti : List Nat}
/-! ### the loop over the leads of b -/
/-! ### all numbers, one after the other -/
end
end L2.DL

namespace L2.DL
local macro_rules | `(tactic| and_intros) => `(tactic| repeat (first | with_reducible refine xInt ?_ | with_reducible refine iModL ?_ | with_reducible refine xMakeF ?_ | with_reducible refine xSubD ?_ | with_reducible refine fldRow ?_ | with_reducible refine fldPairs ?_ | with_reducible refine fldMarks ?_ | with_reducible refine mthTie ?_ | with_reducible refine hasTie ?_ | with_reducible refine chkWeb ?_ | with_reducible refine isiTup ?_ | with_reducible refine isiTf ?_ | with_reducible refine isiStr ?_ | with_reducible refine v0 ?_ | with_reducible refine vS ?_ | with_reducible refine xC ?_ | with_reducible refine xCons ?_ | with_reducible refine xNil ?_ | with_reducible refine xO ?_ | with_reducible refine xCall ?_ | with_reducible refine xSeq ?_ | with_reducible refine xAsg ?_ | with_reducible refine g0 ?_ | with_reducible refine gSu ?_ | with_reducible refine xNext ?_ | with_reducible refine xRet ?_ | with_reducible refine xIfS ?_ | with_reducible refine xB ?_ | with_reducible refine isT ?_ | with_reducible refine isF ?_ | with_reducible refine isT' ?_ | with_reducible refine isF' ?_ | with_reducible refine iT ?_ | with_reducible refine iF ?_ | with_reducible refine iNT ?_ | with_reducible refine iNF ?_ | with_reducible refine xAnd ?_ | with_reducible refine xOr ?_ | with_reducible refine xNot ?_ | with_reducible refine xAndV ?_ | with_reducible refine xOrV ?_ | with_reducible refine xNotV ?_ | with_reducible refine xIf ?_ | with_reducible refine xCh ?_ | with_reducible refine xYes ?_ | with_reducible refine iAdd ?_ | with_reducible refine iSub ?_ | with_reducible refine iAnd ?_ | with_reducible refine iOr ?_ | with_reducible refine iLt ?_ | with_reducible refine iLe ?_ | with_reducible refine iGt ?_ | with_reducible refine iGe ?_ | with_reducible refine iEq ?_ | with_reducible refine iNe ?_ | with_reducible refine sEq ?_ | with_reducible refine sNe ?_ | with_reducible refine iNeg ?_ | with_reducible refine isN1 ?_ | with_reducible refine isN2 ?_ | with_reducible refine noN2 ?_ | with_reducible refine xLen ?_ | with_reducible refine lTupM ?_ | with_reducible refine lTfM ?_ | with_reducible refine lLstM ?_ | with_reducible refine lSrcM ?_ | with_reducible refine lTup ?_ | with_reducible refine lTf ?_ | with_reducible refine lLst ?_ | with_reducible refine lSrc ?_ | with_reducible refine lDic ?_ | with_reducible refine xAllM ?_ | with_reducible refine xAnyM ?_ | with_reducible refine xAll ?_ | with_reducible refine xFnC ?_ | with_reducible refine xFld ?_ | with_reducible refine xMth ?_ | with_reducible refine xSeqI ?_ | with_reducible refine sTup ?_ | with_reducible refine sTf ?_ | with_reducible refine sLst ?_ | with_reducible refine sSrc ?_ | with_reducible refine xEnum ?_ | with_reducible refine one1 ?_ | with_reducible refine xRng1 ?_ | with_reducible refine xRng2 ?_ | with_reducible refine int1' ?_ | with_reducible refine int2' ?_ | with_reducible refine xFor ?_ | with_reducible refine xTup ?_ | with_reducible refine xTupF ?_ | with_reducible refine xLst ?_ | with_reducible refine xNew ?_ | with_reducible refine xU ?_ | with_reducible refine xDrop ?_ | with_reducible refine xRetN ?_ | with_reducible refine xBreak ?_ | with_reducible refine xCont ?_ | with_reducible refine xStar ?_ | with_reducible refine gTup ?_ | with_reducible refine gCons ?_ | with_reducible refine gNil ?_ | with_reducible refine xSl ?_ | with_reducible refine pN ?_ | with_reducible refine pS ?_ | with_reducible refine isI1 ?_ | with_reducible refine slTup ?_ | with_reducible refine slSrc ?_ | with_reducible refine slLst ?_ | with_reducible refine xPar ?_ | with_reducible refine xPar3 ?_ | with_reducible refine two2' ?_ | with_reducible refine three' ?_ | with_reducible refine xBM ?_ | with_reducible refine bmLst ?_ | with_reducible refine bmSrc ?_ | with_reducible refine tfL ?_ | with_reducible refine tuL ?_ | with_reducible refine tuT ?_ | with_reducible refine xRevU ?_ | with_reducible refine revTup ?_ | with_reducible refine revTf ?_ | with_reducible refine xDicF ?_ | with_reducible refine xLcF ?_ | with_reducible refine xLcN ?_ | with_reducible refine xZip ?_ | with_reducible refine xCl ?_ | with_reducible refine andL (by with_unfolding_all exact lez rfl) ?_))
section
open PySem PySem.Spec PyProof.Rows
theorem eqv_n (y x : Nat) : PyData.eqv (.int (y : Int)) (.int (x : Int)) = decide (y = x) := by
  by_cases e : y = x
  · subst e
    simp [PyData.eqv]
  · have e2 : ¬ ((y : Int) = (x : Int)) := fun h => e (by omega)
    simp [PyData.eqv, e, e2]
end
section
open PySem PySem.Spec PyProof.Rows
/-! ### ring_of, ring, ringless -/
end
section
open PySem PySem.Spec PyProof.Rows
/-! ### the law's own look at rings -/
end
section
open PySem PySem.Spec PyProof.Rows
end
section
open PySem PySem.Spec PyProof.Rows
/-- a road by numbers -/
structure RoadI (n : Nat) (ls : List (Nat × Nat)) (rg : List Nat) : Prop where
  ne : rg ≠ []
  nd : rg.Nodup
  low : ∀ v ∈ rg, v < n
  path : ∀ (i a b : Nat), rg[i]? = some a → rg[i + 1]? = some b → (a, b) ∈ ls
abbrev nmR (ts : List Str) (rg : List Nat) : List Str := rg.map fun i => ts.getD i Str.empty
theorem idx_getD {ts : List Str} {i : Nat} (nd : ts.Nodup) (hi : i < ts.length) : List.idxOf (ts.getD i Str.empty) ts = i := by
  rw [List.getD_eq_getElem?_getD, List.getElem?_eq_getElem hi]
  exact nd.idxOf_getElem i hi
end
end L2.DL
namespace L2.DL
local macro_rules | `(tactic| and_intros) => `(tactic| repeat (first | with_reducible refine xInt ?_ | with_reducible refine iModL ?_ | with_reducible refine xMakeF ?_ | with_reducible refine xSubD ?_ | with_reducible refine xGTl ?_ | with_reducible refine fldRow ?_ | with_reducible refine fldPairs ?_ | with_reducible refine fldMarks ?_ | with_reducible refine mthTie ?_ | with_reducible refine hasTie ?_ | with_reducible refine chkWeb ?_ | with_reducible refine isiTup ?_ | with_reducible refine isiTf ?_ | with_reducible refine isiStr ?_ | with_reducible refine v0 ?_ | with_reducible refine vS ?_ | with_reducible refine xC ?_ | with_reducible refine xCons ?_ | with_reducible refine xNil ?_ | with_reducible refine xO ?_ | with_reducible refine xCall ?_ | with_reducible refine xSeq ?_ | with_reducible refine xAsg ?_ | with_reducible refine g0 ?_ | with_reducible refine gSu ?_ | with_reducible refine xNext ?_ | with_reducible refine xRet ?_ | with_reducible refine xIfS ?_ | with_reducible refine xB ?_ | with_reducible refine isT ?_ | with_reducible refine isF ?_ | with_reducible refine isT' ?_ | with_reducible refine isF' ?_ | with_reducible refine iT ?_ | with_reducible refine iF ?_ | with_reducible refine iNT ?_ | with_reducible refine iNF ?_ | with_reducible refine xAnd ?_ | with_reducible refine xOr ?_ | with_reducible refine xNot ?_ | with_reducible refine xAndV ?_ | with_reducible refine xOrV ?_ | with_reducible refine xNotV ?_ | with_reducible refine xIf ?_ | with_reducible refine xCh ?_ | with_reducible refine xYes ?_ | with_reducible refine iAdd ?_ | with_reducible refine iSub ?_ | with_reducible refine iAnd ?_ | with_reducible refine iOr ?_ | with_reducible refine iLt ?_ | with_reducible refine iLe ?_ | with_reducible refine iGt ?_ | with_reducible refine iGe ?_ | with_reducible refine iEq ?_ | with_reducible refine iNe ?_ | with_reducible refine sEq ?_ | with_reducible refine sNe ?_ | with_reducible refine iNeg ?_ | with_reducible refine isN1 ?_ | with_reducible refine isN2 ?_ | with_reducible refine noN2 ?_ | with_reducible refine xLen ?_ | with_reducible refine lTupM ?_ | with_reducible refine lTfM ?_ | with_reducible refine lLstM ?_ | with_reducible refine lSrcM ?_ | with_reducible refine lTup ?_ | with_reducible refine lTf ?_ | with_reducible refine lLst ?_ | with_reducible refine lSrc ?_ | with_reducible refine lDic ?_ | with_reducible refine xAllM ?_ | with_reducible refine xAnyM ?_ | with_reducible refine xAll ?_ | with_reducible refine xFnC ?_ | with_reducible refine xFld ?_ | with_reducible refine xMth ?_ | with_reducible refine xSeqI ?_ | with_reducible refine sTup ?_ | with_reducible refine sTf ?_ | with_reducible refine sLst ?_ | with_reducible refine sSrc ?_ | with_reducible refine xEnum ?_ | with_reducible refine one1 ?_ | with_reducible refine xRng1 ?_ | with_reducible refine xRng2 ?_ | with_reducible refine int1' ?_ | with_reducible refine int2' ?_ | with_reducible refine xFor ?_ | with_reducible refine xTup ?_ | with_reducible refine xTupF ?_ | with_reducible refine xLst ?_ | with_reducible refine xNew ?_ | with_reducible refine xU ?_ | with_reducible refine xDrop ?_ | with_reducible refine xRetN ?_ | with_reducible refine xBreak ?_ | with_reducible refine xCont ?_ | with_reducible refine xStar ?_ | with_reducible refine gTup ?_ | with_reducible refine gCons ?_ | with_reducible refine gNil ?_ | with_reducible refine xSl ?_ | with_reducible refine pN ?_ | with_reducible refine pS ?_ | with_reducible refine isI1 ?_ | with_reducible refine slTup ?_ | with_reducible refine slSrc ?_ | with_reducible refine slLst ?_ | with_reducible refine xPar ?_ | with_reducible refine xPar3 ?_ | with_reducible refine two2' ?_ | with_reducible refine three' ?_ | with_reducible refine xBM ?_ | with_reducible refine bmLst ?_ | with_reducible refine bmSrc ?_ | with_reducible refine tfL ?_ | with_reducible refine tuL ?_ | with_reducible refine tuT ?_ | with_reducible refine xRevU ?_ | with_reducible refine revTup ?_ | with_reducible refine revTf ?_ | with_reducible refine xDicF ?_ | with_reducible refine xLcF ?_ | with_reducible refine xLcN ?_ | with_reducible refine xZip ?_ | with_reducible refine xCl ?_ | with_reducible refine andL (by with_unfolding_all exact lez rfl) ?_))
section
open PySem PySem.Spec PyProof.Rows
def rowL (r : List Str) : D := .lst (plD r)
instance : InjD rowL := ⟨fun a b e => by
  unfold rowL plD at e
  injection e with e
  exact map_inj e⟩
end
section
open PySem PySem.Spec PyProof.Rows
end
section
open PySem PySem.Spec PyProof.Rows
/-! ### _law_order as a list that changes -/
/-! ### as_lists, as_tuples, step -/
def rowT (r : List Str) : D := .tf (plD r)
instance : InjD rowT := ⟨fun a b e => by
  unfold rowT plD at e
  injection e with e
  exact map_inj e⟩
/-! ### partings by numbers -/
abbrev nsL (r : List Nat) : D := .lst (nsD r)
instance : InjD nsL := ⟨fun a b e => by
  unfold nsL nsD at e
  injection e with e
  exact map_inj e⟩
abbrev partN (rs : List (List Nat)) : D := .lst (rs.map nsL)
theorem RoadI.nm {ts : List Str} {ls : List (Nat × Nat)} {r : List Nat} (N : NetI ts ls) (R : RoadI ts.length ls r) : RoadOk ts (nmL ts ls) (nmR ts r) := by
  refine ⟨by intro e; exact R.ne (List.map_eq_nil_iff.mp e), nodup_map_on (fun a ha b hb e => getD_inj N.nm.2 (R.low a ha) (R.low b hb) e) R.nd, fun x hx => ?_, fun i a b ha hb => ?_⟩
  · obtain ⟨k, hk, rfl⟩ := List.mem_map.mp hx
    exact List.mem_of_getElem? (getD_get (R.low k hk))
  · unfold nmR at ha hb
    rw [List.getElem?_map] at ha hb
    obtain ⟨u, hu, rfl⟩ := Option.map_eq_some_iff.mp ha
    obtain ⟨v, hv, rfl⟩ := Option.map_eq_some_iff.mp hb
    exact List.mem_map.mpr ⟨(u, v), R.path i u v hu hv, rfl⟩
/-- the numbers of names -/
def ixR (ts : List Str) (r : List Str) : List Nat := r.map fun x => List.idxOf x ts
theorem RoadOk.ix {ts : List Str} {ls : List (Nat × Nat)} {r : List Str} (N : NetI ts ls) (R : RoadOk ts (nmL ts ls) r) : RoadI ts.length ls (ixR ts r) := by
  have gx : ∀ x ∈ r, ts[List.idxOf x ts]? = some x := fun x hx => by
    have hl := List.idxOf_lt_length_of_mem (R.sub x hx)
    rw [List.getElem?_eq_getElem hl, List.getElem_idxOf hl]
  refine ⟨by intro e; exact R.ne (List.map_eq_nil_iff.mp e), nodup_map_on (fun x hx y hy e => ?_) R.nd, fun v hv => ?_, fun i a b ha hb => ?_⟩
  · have h1 := gx x hx
    rw [e, gx y hy] at h1
    exact (Option.some.inj h1).symm
  · obtain ⟨x, hx, rfl⟩ := List.mem_map.mp hv
    exact List.idxOf_lt_length_of_mem (R.sub x hx)
  · unfold ixR at ha hb
    rw [List.getElem?_map] at ha hb
    obtain ⟨x, hx, rfl⟩ := Option.map_eq_some_iff.mp ha
    obtain ⟨y, hy, rfl⟩ := Option.map_eq_some_iff.mp hb
    obtain ⟨⟨u, v⟩, hu, e⟩ := List.mem_map.mp (R.step i x y hx hy)
    obtain ⟨h1, h2, _⟩ := N.ok _ hu
    unfold nmT at e
    injection e with e1 e2
    rw [← e1, ← e2, idx_getD N.nm.2 h1, idx_getD N.nm.2 h2]
    exact hu
end
section
open PySem PySem.Spec PyProof.Rows
/-! ### three objects beside one another -/
section
variable {S : SO} {p r f g : Addr} {x x' y y' z z' u : DO}
def o3 (S : SO) (p r f : Addr) (x y z : DO) : SO := ((S.set p x).set r y).set f z
end
/-! ### roads by numbers -/
theorem RoadI.one {n : Nat} {ls : List (Nat × Nat)} {v : Nat} (h : v < n) : RoadI n ls [v] := ⟨by simp, by simp, fun u hu => by rw [List.mem_singleton.mp hu]; exact h, fun i a b _ hb => by simp at hb⟩
theorem RoadI.snoc {n : Nat} {ls : List (Nat × Nat)} {r : List Nat} {u v : Nat} (R : RoadI n ls r) (hu : r.getLast? = some u) (hv : v < n) (hn : v ∉ r) (ht : (u, v) ∈ ls) : RoadI n ls (r ++ [v]) := by
  refine ⟨by simp, ?_, fun z hz => ?_, fun i a b ha hb => ?_⟩
  · rw [List.nodup_append]
    exact ⟨R.nd, by simp, fun a ha b hb e => hn (by rw [List.mem_singleton] at hb; rw [← hb, ← e]; exact ha)⟩
  · rcases List.mem_append.mp hz with hz | hz
    · exact R.low z hz
    · rw [List.mem_singleton.mp hz]
      exact hv
  · have hl : i + 1 < (r ++ [v]).length := (List.getElem?_eq_some_iff.mp hb).1
    rw [List.length_append, List.length_singleton] at hl
    rw [List.getElem?_append_left (by omega)] at ha
    by_cases hi : i + 1 < r.length
    · rw [List.getElem?_append_left hi] at hb
      exact R.path i a b ha hb
    · rw [List.getElem?_append_right (by omega), show i + 1 - r.length = 0 by omega] at hb
      have hb : v = b := Option.some.inj hb
      rw [List.getLast?_eq_getElem?, show r.length - 1 = i by omega, ha] at hu
      rw [← hb, Option.some.inj hu]
      exact ht
/-! ### _law_parted -/
end
section
open PySem PySem.Spec PyProof.Rows
/-! ### Pairing.grow -/
end
section
open PySem PySem.Spec PyProof.Rows
/-! ### Pairing(leads), pairing_of -/
theorem Wk.dropS {sd : SD} {S : SO} {p : Addr} {o : DO} (h : S p = none) : Wk sd (S.set p o) sd S := Wk.to fun a u e => by
  rw [set_ne (so_ne e h)]
  exact e
end
section
open PySem PySem.Spec PyProof.Rows
end
section
open PySem PySem.Spec PyProof.Rows
/-! ### all partings, as mathematics -/
end
section
open PySem PySem.Spec PyProof.Rows
/-! ### _law_goes, _law_all_partings -/
instance : InjD partN := ⟨fun a b e => by
  unfold partN at e
  injection e with e
  exact map_inj e⟩
end
section
open PySem PySem.Spec PyProof.Rows
/-! ### whether something is a parting: a right one -/
/-! ### whether something is a witness: a right one -/
/-! ### k51 -/
end
section
open PySem PySem.Spec PyProof.Rows
/-! ### improved_of -/
/-! ### the greatest free set -/
end
section
open PySem PySem.Spec PyProof.Rows
/-! ### k46 -/
theorem depAll {α : Type} {f : α → PyData} {n : Nat} : ∀ {xs : List α}, (∀ x ∈ xs, (f x).depth ≤ n) → PyData.depthAll (xs.map f) ≤ n
  | [], _ => by simp [PyData.depthAll]
  | x :: xs, h => by
    show max (f x).depth (PyData.depthAll (xs.map f)) ≤ n
    exact Nat.max_le.mpr ⟨h x (List.mem_cons_self ..), depAll fun y hy => h y (List.mem_cons_of_mem _ hy)⟩
theorem NetI.loop {ts : List Str} {ls : List (Nat × Nat)} (N : NetI ts ls) : ∀ a, (a, a) ∉ ls := fun a h => (N.ok _ h).2.2 rfl
end
section
open PySem PySem.Spec PyProof.Rows
/-! ### k45 -/
def lastN (r : List Nat) : Nat := r.getLastD 0
theorem lastN_eq {r : List Nat} (h : r ≠ []) : r.getLast? = some (lastN r) := by
  unfold lastN
  rw [List.getLastD_eq_getLast?]
  cases e : r.getLast? with
  | none => exact absurd (List.getLast?_eq_none_iff.mp e) h
  | some x => rfl
end
section
open PySem PySem.Spec PyProof.Rows
/-! ### k47 -/
section
variable {W : Addr} {S : SO} {Q : KD} {E : EK} {ts : List Str} {w : List (Nat × Nat)}
end
end
end L2.DL
namespace L2.DL
open PySem PySem.Spec PyProof.Rows
/-! ### few roads by many pairs -/
section
variable {n : Nat} {ls : List (Nat × Nat)} {R : List (List Nat)}
end
/-! ### so many roads, if there is no ring -/
end L2.DL

namespace L2.DL
open PySem PySem.Spec PyProof.Rows
/-! ### roads put together along the pairs -/
theorem RoadI.app {n : Nat} {ls : List (Nat × Nat)} {q r : List Nat} {b e : Nat} (Q : RoadI n ls q) (R : RoadI n ls r) (hd : ∀ x ∈ q, x ∉ r) (hb : lastN q = b) (he : r[0]? = some e) (ht : (b, e) ∈ ls) : RoadI n ls (q ++ r) := by
  have lq := List.length_pos_iff.mpr Q.ne
  refine ⟨by simp [Q.ne], List.nodup_append.mpr ⟨Q.nd, R.nd, fun x hx y hy e => hd x hx (e ▸ hy)⟩, fun v hv => ?_, fun i a c ha hc => ?_⟩
  · rcases List.mem_append.mp hv with hv | hv
    · exact Q.low v hv
    · exact R.low v hv
  · by_cases h : i + 1 < q.length
    · rw [List.getElem?_append_left (by omega)] at ha
      rw [List.getElem?_append_left h] at hc
      exact Q.path i a c ha hc
    · by_cases h2 : i < q.length
      · rw [List.getElem?_append_left h2] at ha
        rw [List.getElem?_append_right (by omega), show i + 1 - q.length = 0 by omega, he] at hc
        cases hc
        have e := lastN_eq Q.ne
        rw [List.getLast?_eq_getElem?, show q.length - 1 = i by omega, ha] at e
        have := Option.some.inj e
        rw [this, hb]
        exact ht
      · rw [List.getElem?_append_right (by omega)] at ha hc
        exact R.path (i - q.length) a c ha (by rw [← hc]; congr 1; omega)
end L2.DL

namespace L2.DL
open PySem PySem.Spec PyProof.Rows
/-! ### values compared part by part -/
def EqP (x y : D) (b : Bool) : Prop := ∃ p q, pyD x = some p ∧ pyD y = some q ∧ p.canLay0 = true ∧ q.canLay0 = true ∧ p.depth ≤ 9 ∧ q.depth ≤ 9 ∧ PyData.eqv p q = b
def EqPs (xs ys : List D) (b : Bool) : Prop := ∃ ps qs, pyDs xs = some ps ∧ pyDs ys = some qs ∧ PyData.canLayAll0 ps = true ∧ PyData.canLayAll0 qs = true ∧ PyData.depthAll ps ≤ 9 ∧ PyData.depthAll qs ≤ 9 ∧ PyData.eqvAll ps qs = b
theorem EqPs.nil : EqPs [] [] true := ⟨[], [], rfl, rfl, by simp [PyData.canLayAll0], by simp [PyData.canLayAll0], by simp [PyData.depthAll], by simp [PyData.depthAll], by simp [PyData.eqvAll]⟩
theorem EqPs.cons {x y : D} {xs ys : List D} {b c : Bool} (h : EqP x y b) (t : EqPs xs ys c) : EqPs (x :: xs) (y :: ys) (b && c) := by
  obtain ⟨p, q, h1, h2, h3, h4, h5, h6, h7⟩ := h
  obtain ⟨ps, qs, t1, t2, t3, t4, t5, t6, t7⟩ := t
  refine ⟨p :: ps, q :: qs, ?_, ?_, ?_, ?_, ?_, ?_, ?_⟩
  · show (pyD x).bind (fun p => (pyDs xs).map fun ps => p :: ps) = _
    rw [h1, t1]
    rfl
  · show (pyD y).bind (fun p => (pyDs ys).map fun ps => p :: ps) = _
    rw [h2, t2]
    rfl
  · simp only [PyData.canLayAll0, Bool.and_eq_true]
    exact ⟨h3, t3⟩
  · simp only [PyData.canLayAll0, Bool.and_eq_true]
    exact ⟨h4, t4⟩
  · simp only [PyData.depthAll]
    omega
  · simp only [PyData.depthAll]
    omega
  · simp only [PyData.eqvAll]
    rw [h7, t7]
theorem EqP.n (i j : Nat) : EqP (.int (i : Nat)) (.int (j : Nat)) (decide (i = j)) := ⟨.int i, .int j, rfl, rfl, by simp [PyData.canLay0], by simp [PyData.canLay0], by simp [PyData.depth], by simp [PyData.depth], eqv_n i j⟩
theorem EqP.b (i j : Bool) : EqP (.bl i) (.bl j) (i == j) := ⟨.bool i, .bool j, rfl, rfl, by simp [PyData.canLay0], by simp [PyData.canLay0], by simp [PyData.depth], by simp [PyData.depth], by cases i <;> cases j <;> decide +kernel⟩
theorem rowP_ok {xs : List Str} (h : ∀ x ∈ xs, sOk x) : (PyData.tuple (xs.map PyData.str)).canLay0 = true ∧ (PyData.tuple (xs.map PyData.str)).depth ≤ 9 := by
  constructor
  · simp only [PyData.canLay0]
    exact canLayAll_map h
  · simp only [PyData.depth]
    have := depthAll_map (n := 0) (f := PyData.str) (xs := xs) fun x _ => by simp [PyData.depth]
    omega
theorem pyD_row {d : D} {xs : List Str} (e : d = .tup (plD xs) ∨ d = .tf (plD xs)) : pyD d = some (.tuple (xs.map PyData.str)) := by
  rcases e with rfl | rfl
  · show (pyDs (plD xs)).map PyData.tuple = _
    rw [pyDs_strs]
    rfl
  · show (pyDs (plD xs)).map PyData.tuple = _
    rw [pyDs_strs]
    rfl
theorem EqP.row {x y : D} {xs ys : List Str} (e1 : x = .tup (plD xs) ∨ x = .tf (plD xs)) (e2 : y = .tup (plD ys) ∨ y = .tf (plD ys)) (h1 : ∀ x ∈ xs, sOk x) (h2 : ∀ x ∈ ys, sOk x) : EqP x y (decide (xs = ys)) :=
  ⟨_, _, pyD_row e1, pyD_row e2, (rowP_ok h1).1, (rowP_ok h2).1, (rowP_ok h1).2, (rowP_ok h2).2, eqv_tups eqv_str xs ys⟩
theorem EqP.tup {x y : D} {xs ys : List D} {b : Bool} (e1 : x = .tup xs ∨ x = .tf xs) (e2 : y = .tup ys ∨ y = .tf ys) (h : EqPs xs ys b) (hd : ∀ ps, pyDs xs = some ps → PyData.depthAll ps ≤ 8) (hd2 : ∀ ps, pyDs ys = some ps → PyData.depthAll ps ≤ 8) : EqP x y b := by
  obtain ⟨ps, qs, t1, t2, t3, t4, t5, t6, t7⟩ := h
  have g1 : pyD x = some (.tuple ps) := by
    rcases e1 with rfl | rfl
    · show (pyDs xs).map PyData.tuple = _
      rw [t1]
      rfl
    · show (pyDs xs).map PyData.tuple = _
      rw [t1]
      rfl
  have g2 : pyD y = some (.tuple qs) := by
    rcases e2 with rfl | rfl
    · show (pyDs ys).map PyData.tuple = _
      rw [t2]
      rfl
    · show (pyDs ys).map PyData.tuple = _
      rw [t2]
      rfl
  refine ⟨_, _, g1, g2, by simpa only [PyData.canLay0] using t3, by simpa only [PyData.canLay0] using t4, ?_, ?_, by simpa only [PyData.eqv] using t7⟩
  · simp only [PyData.depth]
    have := hd ps t1
    omega
  · simp only [PyData.depth]
    have := hd2 qs t2
    omega
theorem EqPs.lst {xs ys : List D} {b : Bool} {S : SO} {k : Bool → Prop} (h : EqPs xs ys b) (q : k b) : eqD (.lst xs) (.lst ys) S k := by
  obtain ⟨ps, qs, t1, t2, t3, t4, t5, t6, t7⟩ := h
  refine ⟨.list ps, .list qs, ?_, ?_, shaped_of (by simpa only [PyData.canLay0] using t3) ?_, shaped_of (by simpa only [PyData.canLay0] using t4) ?_, ?_⟩
  · show (pyDs xs).map PyData.list = _
    rw [t1]
    rfl
  · show (pyDs ys).map PyData.list = _
    rw [t2]
    rfl
  · simp only [PyData.depth]
    omega
  · simp only [PyData.depth]
    omega
  · rw [show PyData.eqv (.list ps) (.list qs) = b by simpa only [PyData.eqv] using t7]
    exact q
theorem EqP.tups {x y : D} {b : Bool} {S : SO} {k : Bool → Prop} {xs ys : List D} (e1 : x = .tup xs ∨ x = .tf xs) (e2 : y = .tup ys ∨ y = .tf ys) (h : EqP x y b) (q : k b) : eqD x y S k := by
  obtain ⟨p, r, h1, h2, h3, h4, h5, h6, h7⟩ := h
  have g : eqG x y S k := by
    refine ⟨p, r, ?_, ?_, shaped_of h3 (by omega), shaped_of h4 (by omega), h7 ▸ q⟩
    · rcases e1 with rfl | rfl <;> exact h1
    · rcases e2 with rfl | rfl <;> exact h2
  rcases e1 with rfl | rfl <;> exact g
theorem neLs {xs ys : List D} {b : Bool} {S : SO} {Q : KD} (h : EqPs xs ys b) (q : Q (.bl (!b)) S) : oNe (.lst xs) (.lst ys) S Q := h.lst (k := fun b => Q (.bl (!b)) S) q
theorem EqP.s (i j : Str) (hi : sOk i) (hj : sOk j) : EqP (.str i) (.str j) (decide (i = j)) := ⟨.str i, .str j, rfl, rfl, hi, hj, by simp [PyData.depth], by simp [PyData.depth], eqv_str i j⟩
theorem neTs {x y : D} {b : Bool} {S : SO} {Q : KD} {xs ys : List D} (e1 : x = .tup xs ∨ x = .tf xs) (e2 : y = .tup ys ∨ y = .tf ys) (h : EqP x y b) (q : Q (.bl (!b)) S) : oNe x y S Q := h.tups (k := fun b => Q (.bl (!b)) S) e1 e2 q
end L2.DL

namespace L2.DL
local macro_rules | `(tactic| and_intros) => `(tactic| repeat (first | with_reducible refine xInt ?_ | with_reducible refine iModL ?_ | with_reducible refine xMakeF ?_ | with_reducible refine xSubD ?_ | with_reducible refine xGTl ?_ | with_reducible refine fldRow ?_ | with_reducible refine fldPairs ?_ | with_reducible refine fldMarks ?_ | with_reducible refine mthTie ?_ | with_reducible refine hasTie ?_ | with_reducible refine chkWeb ?_ | with_reducible refine isiTup ?_ | with_reducible refine isiTf ?_ | with_reducible refine isiStr ?_ | with_reducible refine v0 ?_ | with_reducible refine vS ?_ | with_reducible refine xC ?_ | with_reducible refine xCons ?_ | with_reducible refine xNil ?_ | with_reducible refine xO ?_ | with_reducible refine xCall ?_ | with_reducible refine xSeq ?_ | with_reducible refine xAsg ?_ | with_reducible refine g0 ?_ | with_reducible refine gSu ?_ | with_reducible refine xNext ?_ | with_reducible refine xRet ?_ | with_reducible refine xIfS ?_ | with_reducible refine xB ?_ | with_reducible refine isT ?_ | with_reducible refine isF ?_ | with_reducible refine isT' ?_ | with_reducible refine isF' ?_ | with_reducible refine iT ?_ | with_reducible refine iF ?_ | with_reducible refine iNT ?_ | with_reducible refine iNF ?_ | with_reducible refine xAnd ?_ | with_reducible refine xOr ?_ | with_reducible refine xNot ?_ | with_reducible refine xAndV ?_ | with_reducible refine xOrV ?_ | with_reducible refine xNotV ?_ | with_reducible refine xIf ?_ | with_reducible refine xCh ?_ | with_reducible refine xYes ?_ | with_reducible refine iAdd ?_ | with_reducible refine iSub ?_ | with_reducible refine iAnd ?_ | with_reducible refine iOr ?_ | with_reducible refine iLt ?_ | with_reducible refine iLe ?_ | with_reducible refine iGt ?_ | with_reducible refine iGe ?_ | with_reducible refine iEq ?_ | with_reducible refine iNe ?_ | with_reducible refine sEq ?_ | with_reducible refine sNe ?_ | with_reducible refine iNeg ?_ | with_reducible refine isN1 ?_ | with_reducible refine isN2 ?_ | with_reducible refine noN2 ?_ | with_reducible refine xLen ?_ | with_reducible refine lTupM ?_ | with_reducible refine lTfM ?_ | with_reducible refine lLstM ?_ | with_reducible refine lSrcM ?_ | with_reducible refine lTup ?_ | with_reducible refine lTf ?_ | with_reducible refine lLst ?_ | with_reducible refine lSrc ?_ | with_reducible refine lDic ?_ | with_reducible refine xAllM ?_ | with_reducible refine xAnyM ?_ | with_reducible refine xAll ?_ | with_reducible refine xFnC ?_ | with_reducible refine xFld ?_ | with_reducible refine xMth ?_ | with_reducible refine xSeqI ?_ | with_reducible refine sTup ?_ | with_reducible refine sTf ?_ | with_reducible refine sLst ?_ | with_reducible refine sSrc ?_ | with_reducible refine xEnum ?_ | with_reducible refine one1 ?_ | with_reducible refine xRng1 ?_ | with_reducible refine xRng2 ?_ | with_reducible refine int1' ?_ | with_reducible refine int2' ?_ | with_reducible refine xFor ?_ | with_reducible refine xTup ?_ | with_reducible refine xTupF ?_ | with_reducible refine xLst ?_ | with_reducible refine xNew ?_ | with_reducible refine xU ?_ | with_reducible refine xDrop ?_ | with_reducible refine xRetN ?_ | with_reducible refine xBreak ?_ | with_reducible refine xCont ?_ | with_reducible refine xStar ?_ | with_reducible refine gTup ?_ | with_reducible refine gCons ?_ | with_reducible refine gNil ?_ | with_reducible refine xSl ?_ | with_reducible refine pN ?_ | with_reducible refine pS ?_ | with_reducible refine isI1 ?_ | with_reducible refine slTup ?_ | with_reducible refine slSrc ?_ | with_reducible refine slLst ?_ | with_reducible refine xPar ?_ | with_reducible refine xPar3 ?_ | with_reducible refine two2' ?_ | with_reducible refine three' ?_ | with_reducible refine xBM ?_ | with_reducible refine bmLst ?_ | with_reducible refine bmSrc ?_ | with_reducible refine tfL ?_ | with_reducible refine tuL ?_ | with_reducible refine tuT ?_ | with_reducible refine xRevU ?_ | with_reducible refine revTup ?_ | with_reducible refine revTf ?_ | with_reducible refine xDicF ?_ | with_reducible refine xLcF ?_ | with_reducible refine xLcN ?_ | with_reducible refine xZip ?_ | with_reducible refine xCl ?_ | with_reducible refine andL (by with_unfolding_all exact lez rfl) ?_))
section
open PySem PySem.Spec PyProof.Rows
/-! ### no ring: by ranks, by the law's own look -/
/-! ### check_ringless, fewest_ringless -/
/-! ### is_witness of a right one -/
end
section
open PySem PySem.Spec PyProof.Rows
/-! ### k71 -/
section
variable {W : Addr} {S : SO} {Q : KD} {E : EK} {ts : List Str} {es : List (Str × Str)} {rs : List (List Str)}
end
theorem RoadOk.mono {ps : List Str} {ts ts' : List (Str × Str)} {r : List Str} (h : ∀ t ∈ ts, t ∈ ts') (R : RoadOk ps ts r) : RoadOk ps ts' r := ⟨R.ne, R.nd, R.sub, fun i a b h1 h2 => h _ (R.step i a b h1 h2)⟩
end
end L2.DL
namespace L2.DL
open PySem PySem.Spec PyProof.Rows
/-! ### a net under other numbers, and turned -/
abbrev oT (os : List Nat) (t : Nat × Nat) : Nat × Nat := (os.getD t.1 0, os.getD t.2 0)
section
variable {n : Nat} {os : List Nat} (hp : os.Perm (List.range n))
include hp
theorem os_len : os.length = n := by rw [hp.length_eq, List.length_range]
theorem os_nd : os.Nodup := hp.nodup_iff.mpr List.nodup_range
theorem os_get {v : Nat} (hv : v < n) : os[v]? = some (os.getD v 0) := by
  have : v < os.length := by rw [os_len hp]; exact hv
  rw [List.getD_eq_getElem?_getD, List.getElem?_eq_getElem this]
  rfl
theorem os_lt {v : Nat} (hv : v < n) : os.getD v 0 < n := List.mem_range.mp (hp.mem_iff.mp (List.mem_of_getElem? (os_get hp hv)))
theorem os_inj {u v : Nat} (hu : u < n) (hv : v < n) (e : os.getD u 0 = os.getD v 0) : u = v := nodup_ix (os_nd hp) (os_get hp hu) (e ▸ os_get hp hv)
theorem NetI.mv {ts ts2 : List Str} {ls : List (Nat × Nat)} (N : NetI ts ls) (e : ts.length = n) (e2 : ts2.length = n) (h2 : NamesOk ts2) : NetI ts2 (ls.map (oT os)).reverse := by
  have hp0 := N.pos
  have hf := N.few
  refine ⟨h2, by omega, by omega, fun t ht => ?_, ?_, by rw [List.length_reverse, List.length_map]; exact N.lfew⟩
  · obtain ⟨u, hu, rfl⟩ := List.mem_map.mp (List.mem_reverse.mp ht)
    obtain ⟨h1, h2, h3⟩ := N.ok u hu
    rw [e] at h1 h2
    rw [e2]
    exact ⟨os_lt hp h1, os_lt hp h2, fun e => h3 (os_inj hp h1 h2 e)⟩
  · refine (List.reverse_perm _).nodup_iff.mpr (nodup_map_on (fun a ha b hb e3 => ?_) N.nd)
    obtain ⟨a1, a2, _⟩ := N.ok a ha
    obtain ⟨b1, b2, _⟩ := N.ok b hb
    rw [e] at a1 a2 b1 b2
    obtain ⟨x, y⟩ := a
    obtain ⟨z, w⟩ := b
    injection e3 with f1 f2
    have := os_inj hp a1 b1 f1
    have := os_inj hp a2 b2 f2
    simp_all
end
/-- the table of new names -/
theorem dget_map {α : Type} {f : α → D × D} {l : List α} {z : α} (hz : z ∈ l) (hi : ∀ y ∈ l, (f y).1 = (f z).1 → f y = f z) : dget (l.map f) (f z).1 = some (f z).2 := by
  induction l with
  | nil => cases hz
  | cons y l ih =>
    rw [List.map_cons]
    show dget (((f y).1, (f y).2) :: l.map f) _ = _
    rw [dget_cons]
    by_cases e : (f y).1 = (f z).1
    · rw [if_pos e, hi y (List.mem_cons_self ..) e]
    · rw [if_neg e]
      refine ih ?_ fun x hx => hi x (List.mem_cons_of_mem _ hx)
      rcases List.mem_cons.mp hz with h | h
      · exact absurd (by rw [h]) e
      · exact h
end L2.DL

namespace L2.DL
open PySem PySem.Spec PyProof.Rows
/-! ### ties that lead on, without those that close a ring; the longest roads of these, as mathematics -/
inductive Rch (P : List (Str × Str)) (a : Str) : Str → Prop where
  | one {b : Str} (h : (a, b) ∈ P) : Rch P a b
  | step {b c : Str} (h : Rch P a b) (t : (b, c) ∈ P) : Rch P a c
theorem Rch.trans {P : List (Str × Str)} {a b c : Str} (h : Rch P a b) (g : Rch P b c) : Rch P a c := by
  induction g with
  | one t => exact .step h t
  | step _ t ih => exact .step ih t
theorem Rch.mono {P P' : List (Str × Str)} {a b : Str} (s : ∀ t ∈ P, t ∈ P') (h : Rch P a b) : Rch P' a b := by
  induction h with
  | one t => exact .one (s _ t)
  | step _ t ih => exact .step ih (s _ t)
theorem Rch.head {P : List (Str × Str)} {a b c : Str} (t : (a, b) ∈ P) (h : Rch P b c) : Rch P a c := (Rch.one t).trans h
theorem rch_add {P : List (Str × Str)} {a b x y : Str} (h : Rch (P ++ [(a, b)]) x y) : Rch P x y ∨ ((x = a ∨ Rch P x a) ∧ (b = y ∨ Rch P b y)) := by
  induction h with
  | one t =>
    rcases List.mem_append.mp t with t | t
    · exact .inl (.one t)
    · rw [List.mem_singleton] at t
      injection t with e1 e2
      exact .inr ⟨.inl e1, .inl e2.symm⟩
  | step _ t ih =>
    rcases List.mem_append.mp t with t | t
    · rcases ih with ih | ⟨h1, h2⟩
      · exact .inl (.step ih t)
      · refine .inr ⟨h1, .inr ?_⟩
        rcases h2 with h2 | h2
        · exact .one (by rw [h2]; exact t)
        · exact .step h2 t
    · rw [List.mem_singleton] at t
      injection t with e1 e2
      refine .inr ⟨?_, .inl e2.symm⟩
      rcases ih with ih | ⟨h1, _⟩
      · exact .inr (by rw [← e1]; exact ih)
      · exact h1
def Acyc (P : List (Str × Str)) : Prop := ∀ v, ¬ Rch P v v
theorem acyc_nil : Acyc [] := fun v h => by
  cases h with
  | one t => cases t
  | step _ t => cases t
theorem acyc_add {P : List (Str × Str)} {a b : Str} (h : Acyc P) (ne : a ≠ b) (n : ¬ Rch P b a) : Acyc (P ++ [(a, b)]) := fun v r => by
  rcases rch_add r with r | ⟨h1, h2⟩
  · exact h v r
  · rcases h1 with rfl | h1
    · rcases h2 with e | h2
      · exact ne e.symm
      · exact n h2
    · rcases h2 with rfl | h2
      · exact n h1
      · exact n (h2.trans h1)
open Classical in
noncomputable def partAdd (P : List (Str × Str)) (t : Str × Str) : List (Str × Str) := if Rch P t.2 t.1 then P else P ++ [t]
theorem partAdd_yes {P : List (Str × Str)} {t : Str × Str} (h : Rch P t.2 t.1) : partAdd P t = P := by unfold partAdd; rw [if_pos h]
theorem partAdd_no {P : List (Str × Str)} {t : Str × Str} (h : ¬ Rch P t.2 t.1) : partAdd P t = P ++ [t] := by unfold partAdd; rw [if_neg h]
noncomputable def partT (ts : List (Str × Str)) : List (Str × Str) := ts.foldl partAdd []
theorem partT_snoc (ts : List (Str × Str)) (t : Str × Str) : partT (ts ++ [t]) = partAdd (partT ts) t := by unfold partT; rw [List.foldl_append]; rfl
theorem partT_take {ts : List (Str × Str)} {i : Nat} {t : Str × Str} (h : ts[i]? = some t) : partT (ts.take (i + 1)) = partAdd (partT (ts.take i)) t := by
  rw [List.take_add_one, h]
  exact partT_snoc _ _
theorem partT_sublist (ts : List (Str × Str)) : (partT ts).Sublist ts := by
  have go : ∀ (l : List (Str × Str)) (P Q : List (Str × Str)), P.Sublist Q → (l.foldl partAdd P).Sublist (Q ++ l) := by
    intro l
    induction l with
    | nil => intro P Q h; rw [List.append_nil]; exact h
    | cons t l ih =>
      intro P Q h
      have e : Q ++ t :: l = (Q ++ [t]) ++ l := by simp
      rw [e]
      refine ih _ _ ?_
      by_cases c : Rch P t.2 t.1
      · rw [partAdd_yes c]
        exact h.trans (List.sublist_append_left ..)
      · rw [partAdd_no c]
        exact List.Sublist.append h (List.Sublist.refl _)
  exact go ts [] [] (List.Sublist.refl _)
theorem partT_acyc {ts : List (Str × Str)} (h : ∀ t ∈ ts, t.1 ≠ t.2) : Acyc (partT ts) := by
  have go : ∀ (l : List (Str × Str)) (P : List (Str × Str)), (∀ t ∈ l, t.1 ≠ t.2) → Acyc P → Acyc (l.foldl partAdd P) := by
    intro l
    induction l with
    | nil => exact fun P _ h => h
    | cons t l ih =>
      intro P hl h
      refine ih _ (fun u hu => hl u (List.mem_cons_of_mem _ hu)) ?_
      by_cases c : Rch P t.2 t.1
      · rw [partAdd_yes c]
        exact h
      · rw [partAdd_no c]
        exact acyc_add h (hl t (List.mem_cons_self ..)) c
  exact go ts [] h acyc_nil
/-! ### how many places a road has that ends there -/
inductive Lp (P : List (Str × Str)) : Str → Nat → Prop where
  | one (v : Str) : Lp P v 1
  | step {u v : Str} {k : Nat} (h : Lp P u k) (t : (u, v) ∈ P) : Lp P v (k + 1)
theorem Lp.pos {P : List (Str × Str)} {v : Str} {k : Nat} (h : Lp P v k) : 1 ≤ k := by
  cases h with
  | one => exact Nat.le_refl _
  | step _ _ => exact Nat.succ_le_succ (Nat.zero_le _)
theorem Lp.row {P : List (Str × Str)} {ps : List Str} (ac : Acyc P) (hp : ∀ t ∈ P, t.1 ∈ ps ∧ t.2 ∈ ps) {v : Str} {k : Nat} (h : Lp P v k) : v ∈ ps → ∃ p : List Str, p.length = k ∧ p.Nodup ∧ (∀ x ∈ p, x ∈ ps) ∧ ∀ x ∈ p, x = v ∨ Rch P x v := by
  induction h with
  | one v => exact fun hv => ⟨[v], rfl, by simp, by simpa using hv, by simp⟩
  | @step u v k _ t ih =>
    intro hv
    obtain ⟨p, h1, h2, h3, h4⟩ := ih (hp _ t).1
    refine ⟨p ++ [v], by rw [List.length_append, h1]; rfl, List.nodup_append.mpr ⟨h2, by simp, fun a ha b hb e => ?_⟩, fun x hx => ?_, fun x hx => ?_⟩
    · rw [List.mem_singleton] at hb
      rcases h4 a ha with e2 | r
      · exact ac v (.one (by rw [e2, hb] at e; rw [e] at t; exact t))
      · exact ac v (by rw [e, hb] at r; exact .step r t)
    · rcases List.mem_append.mp hx with hx | hx
      · exact h3 x hx
      · rw [List.mem_singleton.mp hx]
        exact hv
    · rcases List.mem_append.mp hx with hx | hx
      · rcases h4 x hx with rfl | r
        · exact .inr (.one t)
        · exact .inr (.step r t)
      · exact .inl (List.mem_singleton.mp hx)
theorem Lp.le {P : List (Str × Str)} {ps : List Str} (ac : Acyc P) (hp : ∀ t ∈ P, t.1 ∈ ps ∧ t.2 ∈ ps) {v : Str} {k : Nat} (h : Lp P v k) (hv : v ∈ ps) : k ≤ ps.length := by
  obtain ⟨p, h1, h2, h3, _⟩ := h.row ac hp hv
  rw [← h1]
  exact nodup_sub_len h2 h3
def IsCol (P : List (Str × Str)) (v : Str) (k : Nat) : Prop := Lp P v k ∧ ∀ j, Lp P v j → j ≤ k
theorem IsCol.uniq {P : List (Str × Str)} {v : Str} {j k : Nat} (h : IsCol P v j) (g : IsCol P v k) : j = k := Nat.le_antisymm (g.2 j h.1) (h.2 k g.1)
open Classical in
noncomputable def colF (P : List (Str × Str)) (v : Str) : Nat := if h : ∃ k, IsCol P v k then h.choose else 1
theorem IsCol.eq {P : List (Str × Str)} {v : Str} {k : Nat} (h : IsCol P v k) : colF P v = k := by
  have e : ∃ k, IsCol P v k := ⟨k, h⟩
  unfold colF
  rw [dif_pos e]
  exact e.choose_spec.uniq h
theorem col_ex {P : List (Str × Str)} {v : Str} {n : Nat} (hb : ∀ k, Lp P v k → k ≤ n) : ∃ k, IsCol P v k := by
  have go : ∀ m : Nat, (∀ j, Lp P v j → j ≤ m) → ∃ k, IsCol P v k := by
    intro m
    induction m with
    | zero => exact fun h => absurd (h 1 (.one v)) (by omega)
    | succ m ih =>
      intro h
      by_cases c : Lp P v (m + 1)
      · exact ⟨_, c, h⟩
      · exact ih fun j hj => by
          have h1 := h j hj
          have h2 : j ≠ m + 1 := fun e => c (e ▸ hj)
          omega
  exact go n hb
section
variable {P : List (Str × Str)} {ps : List Str} (ac : Acyc P) (hp : ∀ t ∈ P, t.1 ∈ ps ∧ t.2 ∈ ps)
include ac hp
theorem colF_is {v : Str} (hv : v ∈ ps) : IsCol P v (colF P v) := by
  obtain ⟨k, h⟩ := col_ex (fun k (h : Lp P v k) => h.le ac hp hv)
  rw [h.eq]
  exact h
theorem colF_le {v : Str} (hv : v ∈ ps) : colF P v ≤ ps.length := (colF_is ac hp hv).1.le ac hp hv
theorem colF_pos {v : Str} (hv : v ∈ ps) : 1 ≤ colF P v := (colF_is ac hp hv).1.pos
theorem colF_tie {u v : Str} (t : (u, v) ∈ P) : colF P u + 1 ≤ colF P v := (colF_is ac hp (hp _ t).2).2 _ (.step (colF_is ac hp (hp _ t).1).1 t)
theorem colF_pred {v : Str} {k : Nat} (hv : v ∈ ps) (e : colF P v = k + 1) (hk : 1 ≤ k) : ∃ u, u ∈ ps ∧ (u, v) ∈ P ∧ colF P u = k := by
  have h := (colF_is ac hp hv).1
  rw [e] at h
  generalize hn : k + 1 = n at h
  cases h with
  | one => omega
  | @step u _ j h t =>
    have ej : j = k := by omega
    subst ej
    have h1 : j ≤ colF P u := (colF_is ac hp (hp _ t).1).2 j h
    have h2 := colF_tie ac hp t
    exact ⟨u, (hp _ t).1, t, by omega⟩
end
/-! ### rounds of relaxing -/
structure Rlx (P : List (Str × Str)) (old : Str → Nat) (dn : Str × Str → Prop) (val : Str → Nat) : Prop where
  lp : ∀ v, Lp P v (val v)
  up : ∀ v, old v ≤ val v
  dn : ∀ t, dn t → old t.1 + 1 ≤ val t.2
theorem Rlx.init {P : List (Str × Str)} {old : Str → Nat} (h : ∀ v, Lp P v (old v)) : Rlx P old (fun _ => False) old := ⟨h, fun _ => Nat.le_refl _, fun _ h => h.elim⟩
def rlxF (val : Str → Nat) (t : Str × Str) : Str → Nat := fun y => if y = t.2 then max (val t.2) (val t.1 + 1) else val y
theorem Rlx.tie {P : List (Str × Str)} {old val : Str → Nat} {dn : Str × Str → Prop} (h : Rlx P old dn val) {t : Str × Str} (ht : t ∈ P) : Rlx P old (fun s => dn s ∨ s = t) (rlxF val t) := by
  have mono : ∀ v, val v ≤ rlxF val t v := fun v => by
    unfold rlxF
    split
    · rename_i e
      rw [e]
      omega
    · exact Nat.le_refl _
  refine ⟨fun v => ?_, fun v => Nat.le_trans (h.up v) (mono v), fun s hs => ?_⟩
  · unfold rlxF
    split
    · rename_i e
      subst e
      rcases Nat.le_total (val t.1 + 1) (val t.2) with c | c
      · rw [Nat.max_eq_left c]
        exact h.lp _
      · rw [Nat.max_eq_right c]
        exact .step (h.lp t.1) ht
    · exact h.lp v
  · rcases hs with hs | rfl
    · exact Nat.le_trans (h.dn s hs) (mono _)
    · have := h.up s.1
      unfold rlxF
      rw [if_pos rfl]
      omega
theorem Rlx.weak {P : List (Str × Str)} {old val : Str → Nat} {dn dn' : Str × Str → Prop} (h : Rlx P old dn val) (w : ∀ t, dn' t → dn t) : Rlx P old dn' val := ⟨h.lp, h.up, fun t ht => h.dn t (w t ht)⟩
def Rds (P : List (Str × Str)) (r : Nat) (val : Str → Nat) : Prop := (∀ v, Lp P v (val v)) ∧ ∀ v k, Lp P v k → k ≤ r + 1 → k ≤ val v
theorem Rds.zero (P : List (Str × Str)) : Rds P 0 (fun _ => 1) := ⟨fun v => .one v, fun v k _ h => h⟩
theorem Rds.next {P : List (Str × Str)} {r : Nat} {old val : Str → Nat} {dn : Str × Str → Prop} (h : Rds P r old) (x : Rlx P old dn val) (all : ∀ t ∈ P, dn t) : Rds P (r + 1) val := by
  refine ⟨x.lp, fun v k hk hr => ?_⟩
  cases hk with
  | one => exact (x.lp v).pos
  | @step u _ j hj t =>
    have h1 := h.2 u j hj (by omega)
    have h2 := x.dn _ (all _ t)
    exact Nat.le_trans (Nat.succ_le_succ h1) h2
theorem Rds.done {P : List (Str × Str)} {ps : List Str} (ac : Acyc P) (hp : ∀ t ∈ P, t.1 ∈ ps ∧ t.2 ∈ ps) {val : Str → Nat} (h : Rds P ps.length val) {v : Str} (hv : v ∈ ps) : val v = colF P v :=
  (IsCol.eq ⟨h.1 v, fun j hj => h.2 v j hj (by have := hj.le ac hp hv; omega)⟩).symm
/-! ### the dict from places to numbers -/
def rowC (ps : List Str) (val : Str → Nat) : List (D × D) := ps.map fun p => (D.str p, D.int (val p : Nat))
theorem rowK_get {ps : List Str} {val : Str → Nat} {p : Str} (h : p ∈ ps) : dget (rowC ps val) (.str p) = some (.int (val p : Nat)) := dget_map (f := fun p : Str => (D.str p, D.int (val p : Nat))) h fun y _ e => by
  have : y = p := strD_inj e
  rw [this]
theorem rowK_put {ps : List Str} {val : Str → Nat} {p : Str} {x : Nat} (h : p ∈ ps) : dput (rowC ps val) (.str p) (.int (x : Nat)) = rowC ps fun y => if y = p then x else val y := by
  unfold dput
  rw [rowK_get h, if_pos (show (some (D.int (val p : Nat))).isSome = true from rfl)]
  unfold rowC
  rw [List.map_map]
  refine List.map_congr_left fun y _ => ?_
  dsimp only [Function.comp]
  by_cases e : y = p
  · subst e
    rw [if_pos rfl, if_pos rfl]
  · rw [if_neg fun z => e (strD_inj z), if_neg e]
theorem rowK_congr {ps : List Str} {val val' : Str → Nat} (h : ∀ p ∈ ps, val p = val' p) : rowC ps val = rowC ps val' := List.map_congr_left fun p hp => by rw [h p hp]
theorem rowK_len {ps : List Str} {val : Str → Nat} : (rowC ps val).length = ps.length := by unfold rowC; rw [List.length_map]
theorem outs_add {P : List (Str × Str)} {a b p : Str} : outs (P ++ [(a, b)]) p = if p = a then outs P p ++ [b] else outs P p := by
  unfold outs
  rw [List.filter_append, List.map_append]
  by_cases e : p = a
  · rw [if_pos e]
    simp [e]
  · have : ¬ a = p := fun z => e z.symm
    rw [if_neg e]
    simp [this]
end L2.DL

namespace L2.DL
local macro_rules | `(tactic| and_intros) => `(tactic| repeat (first | with_reducible refine xInt ?_ | with_reducible refine iModL ?_ | with_reducible refine xMakeF ?_ | with_reducible refine xSubD ?_ | with_reducible refine fldRow ?_ | with_reducible refine fldPairs ?_ | with_reducible refine fldMarks ?_ | with_reducible refine mthTie ?_ | with_reducible refine hasTie ?_ | with_reducible refine chkWeb ?_ | with_reducible refine isiTup ?_ | with_reducible refine isiTf ?_ | with_reducible refine isiStr ?_ | with_reducible refine v0 ?_ | with_reducible refine vS ?_ | with_reducible refine xC ?_ | with_reducible refine xCons ?_ | with_reducible refine xNil ?_ | with_reducible refine xO ?_ | with_reducible refine xCall ?_ | with_reducible refine xSeq ?_ | with_reducible refine xAsg ?_ | with_reducible refine g0 ?_ | with_reducible refine gSu ?_ | with_reducible refine xNext ?_ | with_reducible refine xRet ?_ | with_reducible refine xIfS ?_ | with_reducible refine xB ?_ | with_reducible refine isT ?_ | with_reducible refine isF ?_ | with_reducible refine isT' ?_ | with_reducible refine isF' ?_ | with_reducible refine iT ?_ | with_reducible refine iF ?_ | with_reducible refine iNT ?_ | with_reducible refine iNF ?_ | with_reducible refine xAnd ?_ | with_reducible refine xOr ?_ | with_reducible refine xNot ?_ | with_reducible refine xAndV ?_ | with_reducible refine xOrV ?_ | with_reducible refine xNotV ?_ | with_reducible refine xIf ?_ | with_reducible refine xCh ?_ | with_reducible refine xYes ?_ | with_reducible refine iAdd ?_ | with_reducible refine iSub ?_ | with_reducible refine iAnd ?_ | with_reducible refine iOr ?_ | with_reducible refine iLt ?_ | with_reducible refine iLe ?_ | with_reducible refine iGt ?_ | with_reducible refine iGe ?_ | with_reducible refine iEq ?_ | with_reducible refine iNe ?_ | with_reducible refine sEq ?_ | with_reducible refine sNe ?_ | with_reducible refine iNeg ?_ | with_reducible refine isN1 ?_ | with_reducible refine isN2 ?_ | with_reducible refine noN2 ?_ | with_reducible refine xLen ?_ | with_reducible refine lTupM ?_ | with_reducible refine lTfM ?_ | with_reducible refine lLstM ?_ | with_reducible refine lSrcM ?_ | with_reducible refine lTup ?_ | with_reducible refine lTf ?_ | with_reducible refine lLst ?_ | with_reducible refine lSrc ?_ | with_reducible refine lDic ?_ | with_reducible refine xAllM ?_ | with_reducible refine xAnyM ?_ | with_reducible refine xAll ?_ | with_reducible refine xFnC ?_ | with_reducible refine xFld ?_ | with_reducible refine xMth ?_ | with_reducible refine xSeqI ?_ | with_reducible refine sTup ?_ | with_reducible refine sTf ?_ | with_reducible refine sLst ?_ | with_reducible refine sSrc ?_ | with_reducible refine xEnum ?_ | with_reducible refine one1 ?_ | with_reducible refine xRng1 ?_ | with_reducible refine xRng2 ?_ | with_reducible refine int1' ?_ | with_reducible refine int2' ?_ | with_reducible refine xFor ?_ | with_reducible refine xTup ?_ | with_reducible refine xTupF ?_ | with_reducible refine xLst ?_ | with_reducible refine xNew ?_ | with_reducible refine xU ?_ | with_reducible refine xDrop ?_ | with_reducible refine xRetN ?_ | with_reducible refine xBreak ?_ | with_reducible refine xCont ?_ | with_reducible refine xStar ?_ | with_reducible refine gTup ?_ | with_reducible refine gCons ?_ | with_reducible refine gNil ?_ | with_reducible refine xSl ?_ | with_reducible refine pN ?_ | with_reducible refine pS ?_ | with_reducible refine isI1 ?_ | with_reducible refine slTup ?_ | with_reducible refine slSrc ?_ | with_reducible refine slLst ?_ | with_reducible refine xPar ?_ | with_reducible refine xPar3 ?_ | with_reducible refine two2' ?_ | with_reducible refine three' ?_ | with_reducible refine xBM ?_ | with_reducible refine bmLst ?_ | with_reducible refine bmSrc ?_ | with_reducible refine tfL ?_ | with_reducible refine tuL ?_ | with_reducible refine tuT ?_ | with_reducible refine xRevU ?_ | with_reducible refine revTup ?_ | with_reducible refine revTf ?_ | with_reducible refine xDicF ?_ | with_reducible refine xLcF ?_ | with_reducible refine xLcN ?_ | with_reducible refine xZip ?_ | with_reducible refine xCl ?_ | with_reducible refine andL (by with_unfolding_all exact lez rfl) ?_))
section
open PySem PySem.Spec PyProof.Rows
/-! ### comes_to: whether ties in a dict of lists lead on to a place -/
theorem inDicF {S : SO} {Q : KD} {p : Addr} {x : D} {kvs : List (D × D)} {c : Bool} (e : S p = some (.dic false kvs)) (ok : keyOk false x) (hc : (dget kvs x).isSome = c) (h : Q (.bl c) S) : oIn x (.obj p) S Q := by
  refine in_dic (t := false) (kvs := kvs) (show objD (S p) = _ by rw [e]; rfl) ok ?_
  rw [hc]
  exact h
theorem ninDicF {S : SO} {Q : KD} {p : Addr} {x : D} {kvs : List (D × D)} {c : Bool} (e : S p = some (.dic false kvs)) (ok : keyOk false x) (hc : (dget kvs x).isSome = c) (h : Q (.bl (!c)) S) : oNotIn x (.obj p) S Q := by
  have z := inDicF (Q := fun d S => ∃ c, d = .bl c ∧ Q (.bl (!c)) S) e ok hc ⟨_, rfl, h⟩
  have : inD x (.obj p) S fun b => ∃ c, D.bl b = .bl c ∧ Q (.bl (!c)) S := z
  rcases inD_cases this with ⟨i, j, h1, h0, _⟩ | ⟨xs, h1, h2⟩ | ⟨t, kv, h1, h2, h3⟩
  · cases h0
  · have h1' : objL (S p) = some xs := h1
    rw [e] at h1'
    cases h1'
  · refine in_dic h1 h2 ?_
    obtain ⟨c, ec, q⟩ := h3
    cases ec
    exact q
theorem subDic {S : SO} {p : Addr} {k x : D} {kvs : List (D × D)} {Q : SO → Prop} (e : S p = some (.dic false kvs)) (ok : keyOk false k) (hl : kvs.length < 1000000) (h : Q (S.set p (.dic false (dput kvs k x)))) : sSub (.obj p) k x S Q := ⟨p, rfl, .inr ⟨false, kvs, e, ok, hl, h⟩⟩
theorem ixDicO {S : SO} {Q : KD} {p : Addr} {k v : D} {kvs : List (D × D)} (e0 : S p = some (.dic false kvs)) (ok : keyOk false k) (e : dget kvs k = some v) (h : Q v S) : oIx (.obj p) k S Q := .inr (.inr ⟨false, kvs, v, show objD (S p) = _ by rw [e0]; rfl, ok, e, h⟩)
theorem ixFd {S : SO} {Q : KD} {k v : D} {kvs : List (D × D)} (ok : keyOk false k) (e : dget kvs k = some v) (h : Q v S) : oIx (.fd false kvs) k S Q := .inr (.inr ⟨false, kvs, v, rfl, ok, e, h⟩)
theorem xDisp1 {wk wv : WE} {sd : SD} {S : SO} {Q : KD} (h : ∀ p, S p = none → wk sd (S.set p (.dic false [])) fun x S1 => wv sd S1 fun y S2 => S2 p = some (.dic false []) ∧ keyOk false x ∧ Q (.obj p) (S2.set p (.dic false [(x, y)]))) : wDisp1 wk wv sd S Q := h
/-- the names seen -/
def mkS (sn : List Str) : List (D × D) := sn.map fun s => (D.str s, D.bl true)
theorem mkS_is {sn : List Str} {s : Str} : (dget (mkS sn) (.str s)).isSome = decide (s ∈ sn) := by
  by_cases h : s ∈ sn
  · rw [decide_eq_true h]
    exact dget_isSome.mpr (by unfold keysD mkS; rw [List.map_map]; exact List.mem_map.mpr ⟨s, h, rfl⟩)
  · rw [decide_eq_false h]
    refine Bool.eq_false_iff.mpr fun c => h ?_
    have := dget_isSome.mp c
    unfold keysD mkS at this
    rw [List.map_map] at this
    obtain ⟨y, hy, e⟩ := List.mem_map.mp this
    exact strD_inj e ▸ hy
theorem mkS_put {sn : List Str} {s : Str} (h : s ∉ sn) : dput (mkS sn) (.str s) (.bl true) = mkS (sn ++ [s]) := by
  rw [dput_new]
  · unfold mkS
    rw [List.map_append]
    rfl
  · have e := mkS_is (sn := sn) (s := s)
    rw [decide_eq_false h] at e
    cases q : dget (mkS sn) (.str s) with
    | none => rfl
    | some v => rw [q] at e; cases e
theorem mkS_len {sn : List Str} : (mkS sn).length = sn.length := by unfold mkS; rw [List.length_map]
structure Cm (P : List (Str × Str)) (ps : List Str) (b e : Str) (sn wt : List Str) (ex : Str → Prop) : Prop where
  nd : sn.Nodup
  sub : ∀ x ∈ sn, x ∈ ps
  at_ : b ∈ sn
  rch : ∀ x ∈ sn, x = b ∨ Rch P b x
  ws : ∀ x ∈ wt, x ∈ sn
  le : wt.length ≤ sn.length
  done : ∀ x ∈ sn, x ∈ wt ∨ ex x ∨ ∀ y ∈ outs P x, y ∈ sn ∧ y ≠ e
section
variable {P : List (Str × Str)} {ps : List Str} {b e : Str} {sn wt : List Str}
theorem Cm.start (hb : b ∈ ps) : Cm P ps b e [b] [b] (fun _ => False) := ⟨by simp, by simpa using hb, by simp, by simp, by simp, by simp, by simp⟩
theorem Cm.len {ex : Str → Prop} (h : Cm P ps b e sn wt ex) : sn.length ≤ ps.length := nodup_sub_len h.nd h.sub
theorem Cm.pop {x : Str} (h : Cm P ps b e sn wt (fun _ => False)) (hx : wt.getLast? = some x) : Cm P ps b e sn wt.dropLast (fun y => y = x) := by
  have e1 : wt = wt.dropLast ++ [x] := by
    rcases List.eq_nil_or_concat wt with h0 | ⟨w', y, h0⟩
    · rw [h0] at hx; cases hx
    · rw [h0] at hx ⊢
      simp at hx ⊢
      exact hx
  refine ⟨h.nd, h.sub, h.at_, h.rch, fun y hy => h.ws y (by rw [e1]; exact List.mem_append_left _ hy), by have := h.le; rw [List.length_dropLast]; omega, fun y hy => ?_⟩
  rcases h.done y hy with c | c | c
  · rw [e1] at c
    rcases List.mem_append.mp c with c | c
    · exact .inl c
    · exact .inr (.inl (List.mem_singleton.mp c))
  · exact c.elim
  · exact .inr (.inr c)
theorem Cm.add {x y : Str} (h : Cm P ps b e sn wt (fun z => z = x)) (hx : x ∈ sn) (hy : y ∈ outs P x) (hn : y ∉ sn) (hp : y ∈ ps) : Cm P ps b e (sn ++ [y]) (wt ++ [y]) (fun z => z = x) := by
  refine ⟨List.nodup_append.mpr ⟨h.nd, by simp, fun a ha c hc e => hn (by rw [List.mem_singleton] at hc; rw [← hc, ← e]; exact ha)⟩, fun z hz => ?_, List.mem_append_left _ h.at_, fun z hz => ?_, fun z hz => ?_, by have := h.le; rw [List.length_append, List.length_append]; simpa using this, fun z hz => ?_⟩
  · rcases List.mem_append.mp hz with hz | hz
    · exact h.sub z hz
    · rw [List.mem_singleton.mp hz]
      exact hp
  · rcases List.mem_append.mp hz with hz | hz
    · exact h.rch z hz
    · rw [List.mem_singleton.mp hz]
      rcases h.rch x hx with rfl | r
      · exact .inr (.one (outs_mem.mp hy))
      · exact .inr (.step r (outs_mem.mp hy))
  · rcases List.mem_append.mp hz with hz | hz
    · exact List.mem_append_left _ (h.ws z hz)
    · exact List.mem_append_right _ hz
  · rcases List.mem_append.mp hz with hz | hz
    · rcases h.done z hz with c | c | c
      · exact .inl (List.mem_append_left _ c)
      · exact .inr (.inl c)
      · exact .inr (.inr fun w hw => ⟨List.mem_append_left _ (c w hw).1, (c w hw).2⟩)
    · exact .inl (List.mem_append_right _ hz)
theorem Cm.close {x : Str} (h : Cm P ps b e sn wt (fun z => z = x)) (hx : ∀ y ∈ outs P x, y ∈ sn ∧ y ≠ e) : Cm P ps b e sn wt (fun _ => False) := by
  refine ⟨h.nd, h.sub, h.at_, h.rch, h.ws, h.le, fun z hz => ?_⟩
  rcases h.done z hz with c | c | c
  · exact .inl c
  · rw [c]
    exact .inr (.inr hx)
  · exact .inr (.inr c)
theorem Cm.no (h : Cm P ps b e sn [] (fun _ => False)) : ¬ Rch P b e := fun r => by
  have key : ∀ z, Rch P b z → z ∈ sn ∧ z ≠ e := fun z hz => by
    have go : ∀ x ∈ sn, ∀ y ∈ outs P x, y ∈ sn ∧ y ≠ e := fun x hx => by
      rcases h.done x hx with c | c | c
      · cases c
      · exact c.elim
      · exact c
    induction hz with
    | one t => exact go b h.at_ _ (outs_mem.mpr t)
    | step _ t ih => exact go _ ih.1 _ (outs_mem.mpr t)
  exact (key e r).2 rfl
end
/-- the dict from places to lists, each an object -/
def ldK (ps : List Str) (ls : List Addr) : List (D × D) := (ps.zip ls).map fun z => (D.str z.1, D.obj z.2)
theorem ldK_get : ∀ {ps : List Str} {ls : List Addr} {i : Nat} {p : Str} {l : Addr}, ps.Nodup → ps[i]? = some p → ls[i]? = some l → dget (ldK ps ls) (.str p) = some (.obj l)
  | [], _, _, _, _, _, h, _ => by cases h
  | _ :: _, [], _, _, _, _, _, h => by cases h
  | q :: ps, m :: ls, 0, _, _, _, h1, h2 => by
    cases h1
    cases h2
    show dget ((D.str q, D.obj m) :: ldK ps ls) (.str q) = _
    rw [dget_cons, if_pos rfl]
  | q :: ps, m :: ls, i + 1, p, l, nd, h1, h2 => by
    have n2 := List.nodup_cons.mp nd
    have hm : p ∈ ps := List.mem_of_getElem? (show ps[i]? = some p from h1)
    show dget ((D.str q, D.obj m) :: ldK ps ls) (.str p) = _
    rw [dget_cons, if_neg fun z => n2.1 (by rw [strD_inj z]; exact hm)]
    exact ldK_get n2.2 h1 h2
structure LeadAt (S : SO) (f : Addr) (ps : List Str) (ls : List Addr) (P : List (Str × Str)) : Prop where
  d : S f = some (.dic false (ldK ps ls))
  len : ls.length = ps.length
  l : ∀ (i : Nat) (p : Str) (l : Addr), ps[i]? = some p → ls[i]? = some l → S l = some (.lst (plD (outs P p)))
def sp_comes_to (W : Addr) : DSp := fun ds S Q E => ∃ (f : Addr) (ps : List Str) (ls : List Addr) (P : List (Str × Str)) (b e : Str), ds = [.obj f, .str b, .str e] ∧ LeadAt S f ps ls P ∧ ps.Nodup ∧ ps.length ≤ 40 ∧ (∀ p ∈ ps, sOk p) ∧ (∀ t ∈ P, t.1 ∈ ps ∧ t.2 ∈ ps) ∧ b ∈ ps ∧ e ∈ ps ∧
  (Rch P b e → Q (.bl true) S) ∧ (¬ Rch P b e → Q (.bl false) S)
def w_comes_to (W : Addr) : WS := (wSeq (wPar 3 4 (wCons (wDisp1 (wV 1) (wC (.bl true))) (wCons (wNew (wCons (wV 1) wNil)) wNil)))
    (wSeq (wWhile (wB (wO oNe (wV 4) (wLst wNil))) (wFor (wSeqI (wO oIx (wV 0) (wBM "list" mPop (wV 4) wNil))) (gV 5) (wSeq (wIfS (wB (wO oEq (wV 5) (wV 2))) (wRet (wC (.bl true))) wNext)
    (wIfS (wB (wO oNotIn (wV 5) (wV 3))) (wSeq (wAsg (wC (.bl true)) (gSubD (wV 3) (wV 5) sSub))
    (wDrop (wBM "list" mAppend (wV 4) (wCons (wV 5) wNil)))) wNext))))
    (wRet (wC (.bl false)))))
theorem shaped_S {xs : List Str} (h : ∀ x ∈ xs, sOk x) : SeqAt.shaped (.list (xs.map PyData.str)) = true := shaped_list (n := 0) (by decide) h (fun y _ => by simp [PyData.depth])
theorem pure_comes_to (W : Addr) : ∀ ds S Q E, sp_comes_to W ds S Q E → w_comes_to W (endsOf Q) (startD ["leads", "begin", "end", "seen", "waiting", "near"] ds) S := by
  rintro ds S Q E ⟨f, ps, ls, P, b, e, rfl, L, nd, few, oks, hP, hb, he, q1, q2⟩
  refine xFn ?_
  show w_comes_to W _ [some _, some _, some _, none, none, none] S
  unfold w_comes_to
  and_intros
  refine xDisp1 fun k hk => ?_
  and_intros
  refine ⟨set_same, key_str _, ?_⟩
  rw [set_set]
  and_intros
  intro w hw
  have hwk : w ≠ k := fun e => by rw [e, set_same] at hw; cases hw
  have hSw : S w = none := by rw [set_ne hwk] at hw; exact hw
  have fin : ∀ {d : D} {x y : DO}, Rf ((S.set k x).set w y) d S d := fun {d x y} => Rf.to d fun a o h => by
    rw [set_ne (so_ne h hSw), set_ne (so_ne h hk)]
    exact h
  and_intros
  refine whileJ (fun x : (List Str × List Str) × Option D => [some (.obj f), some (.str b), some (.str e), some (.obj k), some (.obj w), x.2]) (fun x => (S.set k (.dic false (mkS x.1.1))).set w (.lst (plD x.1.2))) (fun x => Cm P ps b e x.1.1 x.1.2 fun _ => False) (fun x => x.1.2.length + 2 * (ps.length - x.1.1.length)) (([b], [b]), none) (Cm.start hb) ?_
  rintro ⟨⟨sn, wt⟩, c5⟩ hv
  have hv : Cm P ps b e sn wt fun _ => False := hv
  and_intros
  refine neL0 (f := D.str) (g := PyData.str) (l := wt) (show objL _ = _ by rw [set_same]; rfl) (fun _ _ => rfl) (shaped_S fun x hx => oks x (hv.sub x (hv.ws x hx))) ?_
  rcases List.eq_nil_or_concat wt with hwt | ⟨wt', x, hwt⟩
  · subst hwt
    refine isNB rfl ?_
    and_intros
    exact ⟨_, _, fin, q2 hv.no⟩
  · have hlast : wt.getLast? = some x := by rw [hwt]; simp
    have hdrop : wt.dropLast = wt' := by rw [hwt]; simp
    have hlen : wt.length = wt'.length + 1 := by rw [hwt]; simp
    refine isYB (by rw [hwt]; simp) ?_
    and_intros
    refine bmObj set_same ?_
    and_intros
    refine popM (f := D.str) (l := wt) set_same hlast ?_
    rw [hdrop, set_set]
    have hxs : x ∈ sn := hv.ws x (by rw [hwt]; simp)
    obtain ⟨i, hi⟩ := List.mem_iff_getElem?.mp (hv.sub x hxs)
    have hil : i < ls.length := by rw [L.len]; exact (List.getElem?_eq_some_iff.mp hi).1
    obtain ⟨l, hl⟩ : ∃ l, ls[i]? = some l := ⟨_, List.getElem?_eq_getElem hil⟩
    have hSl := L.l i x l hi hl
    have lk : l ≠ k := so_ne hSl hk
    have lw : l ≠ w := so_ne hSl hSw
    have fk : f ≠ k := so_ne L.d hk
    have fw : f ≠ w := so_ne L.d hSw
    refine ixDicO (kvs := ldK ps ls) (by rw [set_ne fw, set_ne fk]; exact L.d) (key_str _) (ldK_get nd hi hl) ?_
    have hv2 := hv.pop hlast
    rw [hdrop] at hv2
    refine sObj (by rw [set_ne lw, set_ne lk]; exact hSl) ?_
    refine forJ (outs P x) D.str (fun y : (List Str × List Str) × Option D => [some (.obj f), some (.str b), some (.str e), some (.obj k), some (.obj w), y.2]) (fun y => (S.set k (.dic false (mkS y.1.1))).set w (.lst (plD y.1.2))) (fun j y => Cm P ps b e y.1.1 y.1.2 (fun z => z = x) ∧ (∀ z ∈ sn, z ∈ y.1.1) ∧ y.1.2.length + sn.length = wt'.length + y.1.1.length ∧ ∀ z ∈ (outs P x).take j, z ∈ y.1.1 ∧ z ≠ e) ((sn, wt'), c5) ⟨hv2, fun _ h => h, by show wt'.length + sn.length = wt'.length + sn.length; rfl, by simp⟩ ?_ ?_ rfl rfl rfl (fun i a _ => by show (SO.set _ _ _) l = _; rw [set_ne lw, set_ne lk]; exact hSl)
    · rintro j y ⟨⟨sn2, wt2⟩, c6⟩ hy ⟨v1, v2, v3, v4⟩
      have v1 : Cm P ps b e sn2 wt2 (fun z => z = x) := v1
      have v2 : ∀ z ∈ sn, z ∈ sn2 := v2
      have v3 : wt2.length + sn.length = wt'.length + sn2.length := v3
      have v4 : ∀ z ∈ (outs P x).take j, z ∈ sn2 ∧ z ≠ e := v4
      have hyo : y ∈ outs P x := List.mem_of_getElem? hy
      have hyp : y ∈ ps := (hP _ (outs_mem.mp hyo)).2
      and_intros
      refine isD (fun ey => ?_) fun ey => ?_
      · and_intros
        refine ⟨_, _, fin, q1 ?_⟩
        rw [← ey]
        rcases v1.rch x (v2 x hxs) with rfl | r
        · exact .one (outs_mem.mp hyo)
        · exact .step r (outs_mem.mp hyo)
      · and_intros
        refine ninDicF (kvs := mkS sn2) (by rw [set_ne hwk.symm, set_same]) (key_str _) mkS_is ?_
        refine isND (fun hn => ?_) fun hn => ?_
        · and_intros
          refine .of ((sn2, wt2), some (.str y)) ⟨v1, v2, v3, fun z hz => ?_⟩
          rw [List.take_add_one, hy] at hz
          rcases List.mem_append.mp hz with hz | hz
          · exact v4 z hz
          · rw [show z = y by simpa using hz]
            exact ⟨hn, ey⟩
        · and_intros
          have hll := v1.len
          refine subDic (kvs := mkS sn2) (by rw [set_ne hwk.symm, set_same]) (key_str _) (by rw [mkS_len]; omega) ?_
          rw [mkS_put hn, set_comm hwk, set_set]
          and_intros
          refine bmObj set_same ?_
          and_intros
          have h2 := v1.le
          refine apM (f := D.str) (l := wt2) (z := y) set_same (by omega) ?_
          rw [set_set]
          refine .of ((sn2 ++ [y], wt2 ++ [y]), some (.str y)) ⟨v1.add (v2 x hxs) hyo hn hyp, fun z hz => List.mem_append_left _ (v2 z hz), ?_, fun z hz => ?_⟩
          · show (wt2 ++ [y]).length + sn.length = wt'.length + (sn2 ++ [y]).length
            rw [List.length_append, List.length_append, List.length_singleton]
            omega
          · rw [List.take_add_one, hy] at hz
            rcases List.mem_append.mp hz with hz | hz
            · exact ⟨List.mem_append_left _ (v4 z hz).1, (v4 z hz).2⟩
            · rw [show z = y by simpa using hz]
              exact ⟨by simp, ey⟩
    · rintro ⟨⟨sn2, wt2⟩, c6⟩ ⟨v1, v2, v3, v4⟩
      have v1 : Cm P ps b e sn2 wt2 (fun z => z = x) := v1
      have v3 : wt2.length + sn.length = wt'.length + sn2.length := v3
      have v4 : ∀ z ∈ (outs P x).take (outs P x).length, z ∈ sn2 ∧ z ≠ e := v4
      rw [List.take_length] at v4
      have hll := v1.len
      have h3 : sn.length ≤ sn2.length := nodup_sub_len hv.nd v2
      refine ⟨((sn2, wt2), c6), rfl, rfl, v1.close v4, ?_⟩
      show wt2.length + 2 * (ps.length - sn2.length) < wt.length + 2 * (ps.length - sn.length)
      omega
end
section
open PySem PySem.Spec PyProof.Rows
/-! ### many lists of names, each an object, in a dict -/
def setP (S : SO) : List Addr → List (List Str) → SO
  | l :: ls, v :: vs => (setP S ls vs).set l (.lst (plD v))
  | _, _ => S
theorem setP_ne {S : SO} {a : Addr} : ∀ {ls : List Addr} {vs : List (List Str)}, a ∉ ls → setP S ls vs a = S a
  | [], _, _ => by unfold setP; rfl
  | l :: ls, [], _ => by unfold setP; rfl
  | l :: ls, v :: vs, h => by
    unfold setP
    have ne : a ≠ l := fun e => h (List.mem_cons.mpr (.inl e))
    rw [set_ne ne]
    exact setP_ne fun e => h (List.mem_cons_of_mem _ e)
theorem setP_get {S : SO} : ∀ {ls : List Addr} {vs : List (List Str)} {i : Nat} {l : Addr} {v : List Str}, ls.Nodup → ls[i]? = some l → vs[i]? = some v → setP S ls vs l = some (.lst (plD v))
  | [], _, _, _, _, _, h, _ => by cases h
  | _ :: _, [], _, _, _, _, _, h => by cases h
  | l :: ls, v :: vs, 0, _, _, _, h1, h2 => by
    cases h1
    cases h2
    exact set_same
  | l :: ls, v :: vs, i + 1, l', v', nd, h1, h2 => by
    have n2 := List.nodup_cons.mp nd
    have hm : l' ∈ ls := List.mem_of_getElem? (show ls[i]? = some l' from h1)
    unfold setP
    rw [set_ne fun e => n2.1 (by rw [← e]; exact hm)]
    exact setP_get n2.2 h1 h2
theorem setP_some {S : SO} {a : Addr} : ∀ {ls : List Addr} {vs : List (List Str)}, ls.length = vs.length → a ∈ ls → setP S ls vs a ≠ none
  | [], _, _, h => by cases h
  | _ :: _, [], h, _ => by cases h
  | l :: ls, v :: vs, hl, h => by
    unfold setP
    by_cases e : a = l
    · rw [e, set_same]
      exact fun h => by cases h
    · rw [set_ne e]
      exact setP_some (by simpa using hl) ((List.mem_cons.mp h).resolve_left e)
theorem setP_set {S : SO} : ∀ {ls : List Addr} {vs : List (List Str)} {i : Nat} {l : Addr} (v' : List Str), ls.Nodup → ls.length = vs.length → ls[i]? = some l → (setP S ls vs).set l (.lst (plD v')) = setP S ls (vs.set i v')
  | [], _, _, _, _, _, _, h => by cases h
  | _ :: _, [], _, _, _, _, h, _ => by cases h
  | l :: ls, v :: vs, 0, _, v', _, _, h1 => by
    cases h1
    show ((setP S ls vs).set l _).set l _ = (setP S ls vs).set l _
    rw [set_set]
  | l :: ls, v :: vs, i + 1, l', v', nd, hl, h1 => by
    have n2 := List.nodup_cons.mp nd
    have hm : l' ∈ ls := List.mem_of_getElem? (show ls[i]? = some l' from h1)
    have ne : l' ≠ l := fun e => n2.1 (by rw [← e]; exact hm)
    show ((setP S ls vs).set l _).set l' _ = (setP S ls (vs.set i v')).set l _
    rw [set_comm ne.symm, setP_set v' n2.2 (by simpa using hl) h1]
theorem setP_snoc {S : SO} {l : Addr} : ∀ {ls : List Addr} {vs : List (List Str)} (v : List Str), l ∉ ls → ls.length = vs.length → (setP S ls vs).set l (.lst (plD v)) = setP S (ls ++ [l]) (vs ++ [v])
  | [], [], v, _, _ => rfl
  | [], _ :: _, _, _, h => by cases h
  | _ :: _, [], _, _, h => by cases h
  | k :: ls, u :: vs, v, hn, hl => by
    show ((setP S ls vs).set k _).set l _ = (setP S (ls ++ [l]) (vs ++ [v])).set k _
    have ne : l ≠ k := fun e => hn (List.mem_cons.mpr (.inl e))
    rw [set_comm ne.symm, setP_snoc v (fun e => hn (List.mem_cons_of_mem _ e)) (by simpa using hl)]
theorem rels_pl {K : PySem.W.Frag} {S S' : SO} {H : Hp} : ∀ {v : List Str} {us : List V}, Rels K S H (plD v) us → Rels K S' H (plD v) us
  | [], _, h => h
  | x :: v, us, h => by
    obtain ⟨w, r, rfl, h1, h2⟩ := h
    exact ⟨w, r, rfl, h1, rels_pl h2⟩
theorem relk_fr {K : PySem.W.Frag} {S S' : SO} {H : Hp} (s : SRel K S' H) : ∀ {ps : List Str} {ls : List Addr} {vs : List (List Str)} {l : List (Key × V)}, ls.length = ps.length → vs.length = ps.length → (∀ (i : Nat) (a : Addr) (v : List Str), ls[i]? = some a → vs[i]? = some v → S a = none ∧ S' a = some (.lst (plD v))) → RelK K S' H (ldK ps ls) l → RelK K S H ((ps.zip vs).map fun z => (D.str z.1, D.lst (plD z.2))) l
  | [], _, _, l, _, _, _, h => h
  | p :: ps, [], _, _, h, _, _, _ => by cases h
  | p :: ps, _ :: _, [], _, _, h, _, _ => by cases h
  | p :: ps, a :: ls, v :: vs, l, h1, h2, k, h => by
    obtain ⟨q, x, r, rfl, hk, hx, hr⟩ := h
    have ex : x = .ref a := hx
    subst ex
    obtain ⟨k1, k2⟩ := k 0 a v rfl rfl
    obtain ⟨ws, hw, rw'⟩ := s a _ k2
    exact ⟨q, _, r, rfl, hk, ⟨a, ws, rfl, k1, hw, rels_pl rw'⟩, relk_fr (ps := ps) (ls := ls) (vs := vs) s (by simpa using h1) (by simpa using h2) (fun i b u e1 e2 => k (i + 1) b u e1 e2) hr⟩
theorem setP_rf {S : SO} {ps : List Str} {ls : List Addr} {vs : List (List Str)} (nd : ls.Nodup) (h1 : ls.length = ps.length) (h2 : vs.length = ps.length) (hf : ∀ l ∈ ls, S l = none) : Rf (setP S ls vs) (.fd false (ldK ps ls)) S (.fd false ((ps.zip vs).map fun z => (D.str z.1, D.lst (plD z.2)))) := by
  have z := Rf.to (S := setP S ls vs) (S0 := S) (.fd false (ldK ps ls)) fun a o e => by
    rw [setP_ne fun hm => by rw [hf a hm] at e; cases e]
    exact e
  refine ⟨z.sub, z.srel, fun K H v s r => ?_⟩
  obtain ⟨a, rfl, ha, h⟩ := r
  rcases h with ⟨o, l, _, hH, rl⟩ | ⟨o, l, e, _⟩
  · exact ⟨a, rfl, z.sub a ha, .inl ⟨o, l, rfl, hH, relk_fr s h1 h2 (fun i b u e1 e2 => ⟨hf b (List.mem_of_getElem? e1), setP_get nd e1 e2⟩) rl⟩⟩
  · cases e
theorem zip_self {α β γ : Type} (g : α → β) (h : α × β → γ) : ∀ l : List α, (l.zip (l.map g)).map h = l.map fun x => h (x, g x)
  | [] => rfl
  | x :: l => by
    show h (x, g x) :: (l.zip (l.map g)).map h = _
    rw [zip_self g h l]
    rfl
theorem map_set_upd {β : Type} (g : Str → β) (x : β) : ∀ {ps : List Str} {i : Nat} {a : Str}, ps.Nodup → ps[i]? = some a → (ps.map g).set i x = ps.map fun p => if p = a then x else g p
  | [], _, _, _, h => by cases h
  | p :: ps, 0, a, nd, h => by
    have e : p = a := Option.some.inj h
    have n2 := List.nodup_cons.mp nd
    show x :: ps.map g = _
    rw [List.map_cons, if_pos e]
    congr 1
    refine List.map_congr_left fun y hy => ?_
    have ne : ¬ y = a := fun z => n2.1 (by rw [e, ← z]; exact hy)
    rw [if_neg ne]
  | p :: ps, i + 1, a, nd, h => by
    have n2 := List.nodup_cons.mp nd
    have hm : a ∈ ps := List.mem_of_getElem? (show ps[i]? = some a from h)
    show g p :: (ps.map g).set i x = _
    rw [map_set_upd g x n2.2 (show ps[i]? = some a from h), List.map_cons, if_neg fun z => n2.1 (by rw [z]; exact hm)]
theorem ldK_len {ps : List Str} {ls : List Addr} (h : ls.length = ps.length) : (ldK ps ls).length = ps.length := by
  unfold ldK
  rw [List.length_map, List.length_zip]
  omega
theorem ldK_no {ps : List Str} {ls : List Addr} {p : Str} (h : p ∉ ps) : dget (ldK ps ls) (.str p) = none := dget_none fun hm => by
  unfold keysD ldK at hm
  rw [List.map_map] at hm
  obtain ⟨z, hz, e⟩ := List.mem_map.mp hm
  exact h (by have := (List.of_mem_zip (show (z.1, z.2) ∈ _ from hz)).1; rwa [strD_inj e] at this)
theorem ldK_snoc {ps : List Str} {ls : List Addr} {p : Str} {l : Addr} (h : ls.length = ps.length) (hn : p ∉ ps) : dput (ldK ps ls) (.str p) (.obj l) = ldK (ps ++ [p]) (ls ++ [l]) := by
  rw [dput_new (ldK_no hn)]
  unfold ldK
  rw [List.zip_append h.symm, List.map_append]
  rfl
section
variable {α : Type} {sd : SD} {S : SO} {R : Addr → SO → Prop} {nt : NT} {wk we : WE} {vs : List Nat}
/-- a dict comprehension without a test as a new object, its parts plain -/
theorem dcV {t : Bool} {J : ItD} (l : List α) (f kf vf : α → D) (hJ : J.items = l.map f) (hok : ∀ S', Ext S S' → J.ok S')
    (hf : ∀ z ∈ l, ∀ S', Ext S S' → putNT nt (f z) (wipeD sd vs) fun sd2 => wk sd2 S' (fun k S3 => S3 = S' ∧ kf z = k) ∧ we sd2 S' (fun y S4 => S4 = S' ∧ vf z = y))
    (hk : ∀ z ∈ l, keyOk t (kf z)) (hl : l.length < 1000000)
    (hq : ∀ p, S p = none → R p (S.set p (.dic t (dputsL [] (l.map fun z => (kf z, vf z)))))) : ∀ p, S p = none → ∃ Pv : Nat → SO → Prop, Pv 0 (S.set p (.dic t [])) ∧ (∀ i S, Pv i S → J.ok S) ∧
  (∀ i d S, J.items[i]? = some d → Pv i S → putNT nt d (wipeD sd vs) fun sd2 => upT wYes sd2 S fun b S2 => if b = true then up wk sd2 S2 fun k S3 => up we sd2 S3 fun y S4 => ∃ kvs, S4 p = some (.dic t kvs) ∧ keyOk t k ∧ kvs.length < 1000000 ∧ Pv (i + 1) (S4.set p (.dic t (dput kvs k y))) else Pv (i + 1) S2) ∧
  (∀ S, Pv J.items.length S → R p S) := by
  intro p hp
  have ext : ∀ kvs, Ext S (S.set p (.dic t kvs)) := fun kvs a o h => by
    rw [set_ne (so_ne h hp)]
    exact h
  refine ⟨fun i S' => S' = S.set p (.dic t (dputsL [] ((l.take i).map fun z => (kf z, vf z)))) ∧ i ≤ l.length, ⟨rfl, Nat.zero_le _⟩, ?_, ?_, ?_⟩
  · rintro i S' ⟨rfl, _⟩
    exact hok _ (ext _)
  · rintro i d S' hd ⟨rfl, hi⟩
    rw [hJ, List.getElem?_map] at hd
    obtain ⟨z, hz, rfl⟩ := Option.map_eq_some_iff.mp hd
    have hzm := List.mem_of_getElem? hz
    refine putNT_mono (hf z hzm _ (ext (dputsL [] ((l.take i).map fun z => (kf z, vf z))))) fun sd2 hh => ?_
    obtain ⟨h3, h4⟩ := hh
    refine upYesT ?_
    rw [if_pos rfl]
    refine ⟨_, h3, ?_⟩
    rintro k S3 ⟨rfl, rfl⟩
    refine ⟨_, h4, ?_⟩
    rintro y S4 ⟨rfl, rfl⟩
    refine ⟨_, set_same, hk z hzm, ?_, ?_, (List.getElem?_eq_some_iff.mp hz).1⟩
    · have := dputsL_len ((l.take i).map fun z => (kf z, vf z)) []
      rw [List.length_map, List.length_nil, List.length_take] at this
      omega
    · rw [set_set, List.take_add_one, hz, List.map_append]
      show _ = S.set p (.dic t (dputsL [] (List.map (fun z => (kf z, vf z)) (List.take i l) ++ [(kf z, vf z)])))
      rw [dputsL_app]
  · rintro S' ⟨rfl, _⟩
    rw [hJ, List.length_map, List.take_length]
    exact hq p hp
end
/-! ### ringless_part -/
end
section
open PySem PySem.Spec PyProof.Rows
/-! ### colours_by, colouring -/
theorem xMax2 {S : SO} {Q : KD} {i j : Int} (h : Q (.int (max i j)) S) : cMax [.int i, .int j] S Q := .inl h
theorem lFd {S : SO} {kvs : List (D × D)} {k : Nat → Prop} (h : k kvs.length) : lenD S (.fd false kvs) k := ⟨.inr ⟨false, kvs, rfl, h⟩⟩
theorem prs_outs {ps : List Str} {P : List (Str × Str)} : prsD (outsK ps P) = ps.map fun p => D.tup [.str p, .lst (plD (outs P p))] := by
  unfold prsD outsK
  rw [List.map_map]
  rfl
theorem kys_outs {ps : List Str} {P : List (Str × Str)} : kysD (outsK ps P) = plD ps := by
  unfold kysD outsK
  rw [List.map_map]
  rfl
theorem outsK_len {ps : List Str} {P : List (Str × Str)} : (outsK ps P).length = ps.length := by unfold outsK; rw [List.length_map]
def sp_colours_by (W : Addr) : DSp := fun ds S Q E => ∃ (ps : List Str) (P : List (Str × Str)), ds = [.fd false (outsK ps P)] ∧ ps.Nodup ∧ ps.length ≤ 40 ∧ Acyc P ∧ (∀ t ∈ P, t.1 ∈ ps ∧ t.2 ∈ ps) ∧ Q (.fd false (rowC ps (colF P))) S
def w_colours_by (W : Addr) : WS := (wSeq (wAsg (wDc false (wKeysI (wV 0)) (.n 3) wYes (wV 3) (wC (.int 1)) [3]) (gV 1))
    (wSeq (wFor (wRng1 (wCons (wCall cLen (wCons (wV 0) wNil)) wNil)) (gV 2) (wFor (wItems (wV 0)) (gT 2 (gC (gV 3) (gC (gV 4) gN))) (wFor (wSeqI (wV 4)) (gV 5) (wAsg (wCall cMax (wCons (wO oIx (wV 1) (wV 5)) (wCons (wO oAdd (wO oIx (wV 1) (wV 3)) (wC (.int 1))) wNil))) (gSubD (wV 1) (wV 5) sSub)))))
    (wLk (wRet (wV 1)))))
theorem rowK_one {ps : List Str} (nd : ps.Nodup) : dputsL [] (ps.map fun p => (D.str p, D.int 1)) = rowC ps fun _ => 1 := by
  have e : (ps.map fun p => (D.str p, D.int 1)) = rowC ps fun _ => 1 := rfl
  rw [e, dputsL_nodup (fun _ _ => rfl)]
  · rfl
  · unfold rowC
    rw [List.map_map]
    exact nodup_map (fun a b e => strD_inj e) nd
theorem pure_colours_by (W : Addr) : ∀ ds S Q E, sp_colours_by W ds S Q E → w_colours_by W (endsOf Q) (startD ["leads", "found", "turn", "place", "nears", "near"] ds) S := by
  rintro ds S Q E ⟨ps, P, rfl, nd, few, ac, hP, q⟩
  refine xFn ?_
  show w_colours_by W _ [some _, none, none, none, none, none] S
  unfold w_colours_by
  and_intros
  refine ⟨?_⟩
  refine xKeysI ?_
  and_intros
  refine ⟨_, rfl, ?_⟩
  refine dcV (J := ⟨kysD (outsK ps P), fun _ => True⟩) ps D.str (fun p => .str p) (fun _ => .int 1) kys_outs (fun _ _ => trivial) (fun z hz S' e => ?_) (fun _ _ => key_str _) (by omega) fun f hf => ?_
  · simp only [putNT, wipeD, List.set_cons_zero, List.set_cons_succ]
    refine ⟨?_, ?_⟩
    · and_intros
      exact ⟨rfl, rfl⟩
    · and_intros
      exact ⟨rfl, rfl⟩
  rw [rowK_one nd]
  and_intros
  refine lFd ?_
  rw [outsK_len]
  and_intros
  refine ⟨by omega, by have := few; omega, ?_⟩
  refine forR (fun x : (Str → Nat) × (Option D × Option D × Option D × Option D) => [some (.fd false (outsK ps P)), some (.obj f), x.2.1, x.2.2.1, x.2.2.2.1, x.2.2.2.2]) (fun x => S.set f (.dic false (rowC ps x.1))) (fun r x => Rds P r x.1) (fun _ => 1, none, none, none, none) (Rds.zero P) ?_ ?_
  · rintro r ⟨old, c2, c3, c4, c5⟩ hr hv
    have hv : Rds P r old := hv
    and_intros
    refine xItems ?_
    and_intros
    refine ⟨false, _, rfl, ?_⟩
    rw [prs_outs]
    refine forJ ps (fun p => D.tup [.str p, .lst (plD (outs P p))]) (fun x : (Str → Nat) × (Option D × Option D × Option D) => [some (.fd false (outsK ps P)), some (.obj f), some (.int (r : Nat)), x.2.1, x.2.2.1, x.2.2.2]) (fun x => S.set f (.dic false (rowC ps x.1))) (fun i x => Rlx P old (fun t => t ∈ P ∧ ∃ j, j < i ∧ ps[j]? = some t.1) x.1) (old, c3, c4, c5) ((Rlx.init hv.1).weak fun t ⟨_, j, hj, _⟩ => absurd hj (Nat.not_lt_zero _)) ?_ ?_
    · rintro i p ⟨val, c3, c4, c5⟩ hp hx
      have hx : Rlx P old (fun t => t ∈ P ∧ ∃ j, j < i ∧ ps[j]? = some t.1) val := hx
      have hpm := List.mem_of_getElem? hp
      and_intros
      refine forJ (outs P p) D.str (fun x : (Str → Nat) × Option D => [some (.fd false (outsK ps P)), some (.obj f), some (.int (r : Nat)), some (.str p), some (.lst (plD (outs P p))), x.2]) (fun x => S.set f (.dic false (rowC ps x.1))) (fun m x => Rlx P old (fun t => (t ∈ P ∧ ∃ j, j < i ∧ ps[j]? = some t.1) ∨ (t.1 = p ∧ t.2 ∈ (outs P p).take m)) x.1) (val, c5) (hx.weak fun t ht => ht.elim id fun h => by simp at h) ?_ ?_
      · rintro m y ⟨v2, c5⟩ hy hz
        have hz : Rlx P old (fun t => (t ∈ P ∧ ∃ j, j < i ∧ ps[j]? = some t.1) ∨ (t.1 = p ∧ t.2 ∈ (outs P p).take m)) v2 := hz
        have hyP : (p, y) ∈ P := outs_mem.mp (List.mem_of_getElem? hy)
        have hym := (hP _ hyP).2
        and_intros
        refine ixDicO (kvs := rowC ps v2) set_same (key_str _) (rowK_get hym) ?_
        and_intros
        refine ixDicO (kvs := rowC ps v2) set_same (key_str _) (rowK_get hpm) ?_
        and_intros
        refine xMax2 ?_
        and_intros
        refine subDic (kvs := rowC ps v2) set_same (key_str _) (by rw [rowK_len]; omega) ?_
        rw [show max ((v2 y : Nat) : Int) ((v2 p : Nat) + 1) = ((max (v2 y) (v2 p + 1) : Nat) : Int) by omega, rowK_put hym, set_set]
        refine .of (rlxF v2 (p, y), some (.str y)) ((hz.tie hyP).weak fun t ht => ?_)
        rcases ht with h | ⟨h1, h2⟩
        · exact .inl (.inl h)
        · rw [List.take_add_one, hy] at h2
          rcases List.mem_append.mp h2 with h2 | h2
          · exact .inl (.inr ⟨h1, h2⟩)
          · exact .inr (Prod.ext h1 (by simpa using h2))
      · rintro ⟨v2, c5⟩ hz
        have hz : Rlx P old (fun t => (t ∈ P ∧ ∃ j, j < i ∧ ps[j]? = some t.1) ∨ (t.1 = p ∧ t.2 ∈ (outs P p).take (outs P p).length)) v2 := hz
        refine .of (v2, some (.str p), some (.lst (plD (outs P p))), c5) (hz.weak fun t ⟨h1, j, hj, e⟩ => ?_)
        by_cases c : j = i
        · rw [c, hp] at e
          have e := Option.some.inj e
          refine .inr ⟨e.symm, ?_⟩
          rw [List.take_length, e]
          exact outs_mem.mpr h1
        · exact .inl ⟨h1, j, by omega, e⟩
    · rintro ⟨val, c3, c4, c5⟩ hx
      have hx : Rlx P old (fun t => t ∈ P ∧ ∃ j, j < ps.length ∧ ps[j]? = some t.1) val := hx
      refine .of (val, some (.int (r : Nat)), c3, c4, c5) (hv.next hx fun t ht => ⟨ht, ?_⟩)
      obtain ⟨j, hj⟩ := List.mem_iff_getElem?.mp (hP t ht).1
      exact ⟨j, (List.getElem?_eq_some_iff.mp hj).1, hj⟩
  · rintro ⟨val, c2, c3, c4, c5⟩ hv
    have hv : Rds P ps.length val := hv
    refine xLk ?_
    and_intros
    refine .inr ⟨f, false, rowC ps val, rfl, set_same, ?_⟩
    rw [del_set hf, rowK_congr fun p hp => hv.done ac hP hp]
    exact cl q
/-! ### colouring -/
noncomputable def colsD (ps : List Str) (P : List (Str × Str)) : List D := ps.map fun p => D.int (colF P p : Nat)
theorem part_in {ps : List Str} {ts : List (Str × Str)} (ok : WebOk ps ts) : ∀ t ∈ partT ts, t.1 ∈ ps ∧ t.2 ∈ ps := fun t ht => ⟨(ok.tie t ((partT_sublist ts).subset ht)).1, (ok.tie t ((partT_sublist ts).subset ht)).2.1⟩
theorem part_ac {ps : List Str} {ts : List (Str × Str)} (ok : WebOk ps ts) : Acyc (partT ts) := partT_acyc fun t ht => (ok.tie t ht).2.2
end
section
open PySem PySem.Spec PyProof.Rows
/-! ### long_road -/
/-- the greatest colour -/
def topL : List Nat → Nat
  | [] => 0
  | x :: l => max x (topL l)
theorem topL_ge : ∀ {l : List Nat} {x : Nat}, x ∈ l → x ≤ topL l
  | y :: l, x, h => by
    unfold topL
    rcases List.mem_cons.mp h with rfl | h
    · omega
    · have := topL_ge h
      omega
theorem topL_mem : ∀ {l : List Nat}, l ≠ [] → topL l ∈ l
  | [x], _ => by
    unfold topL topL
    simp
  | x :: y :: l, _ => by
    have h := topL_mem (l := y :: l) (by simp)
    unfold topL
    rcases Nat.le_total x (topL (y :: l)) with c | c
    · rw [Nat.max_eq_right c]
      exact List.mem_cons_of_mem _ h
    · rw [Nat.max_eq_left c]
      exact List.mem_cons_self ..
  | [], h => absurd rfl h
noncomputable def topC (ps : List Str) (P : List (Str × Str)) : Nat := topL (ps.map (colF P))
theorem max_top {l : List Nat} {m : Int} (h : IsMax (l.map fun n : Nat => ((n : Nat) : Int)) m) : m = (topL l : Nat) := by
  obtain ⟨h1, h2⟩ := h
  obtain ⟨x, hx, rfl⟩ := List.mem_map.mp h1
  have ne : l ≠ [] := fun e => by rw [e] at hx; cases hx
  have a := topL_ge hx
  have b := h2 _ (List.mem_map.mpr ⟨_, topL_mem ne, rfl⟩)
  have b : ((topL l : Nat) : Int) ≤ (x : Int) := b
  omega
theorem top_ex {ps : List Str} {P : List (Str × Str)} (h : ps ≠ []) : ∃ v ∈ ps, colF P v = topC ps P := by
  have := topL_mem (l := ps.map (colF P)) (by intro e; exact h (List.map_eq_nil_iff.mp e))
  obtain ⟨v, hv, e⟩ := List.mem_map.mp this
  exact ⟨v, hv, e⟩
theorem top_le {ps : List Str} {P : List (Str × Str)} {v : Str} (h : v ∈ ps) : colF P v ≤ topC ps P := topL_ge (List.mem_map.mpr ⟨v, h, rfl⟩)
/-- the road, from its last place on -/
noncomputable def longN (ps : List Str) (P : List (Str × Str)) (M : Nat) : Nat → List Str
  | 0 => (ps.filter fun p => decide (colF P p = M)).take 1
  | i + 1 => (ps.filter fun p => decide (colF P p = M - 1 - i) && decide ((longN ps P M i).headD default ∈ outs P p)).take 1 ++ longN ps P M i
structure LongI (ps : List Str) (P : List (Str × Str)) (M i : Nat) (r : List Str) : Prop where
  len : r.length = i + 1
  sub : ∀ x ∈ r, x ∈ ps
  col : ∀ (j : Nat) x, r[j]? = some x → colF P x = M - i + j
  step : ∀ (j : Nat) a b, r[j]? = some a → r[j + 1]? = some b → (a, b) ∈ P
theorem LongI.head {ps : List Str} {P : List (Str × Str)} {M i : Nat} {r : List Str} (h : LongI ps P M i r) : ∃ x t, r = x :: t ∧ x ∈ ps ∧ colF P x = M - i := by
  cases r with
  | nil => have := h.len; simp at this
  | cons x t => exact ⟨x, t, rfl, h.sub x (List.mem_cons_self ..), h.col 0 x rfl⟩
theorem filter_one {l : List Str} {c : Str → Bool} {x : Str} (hx : x ∈ l) (hc : c x = true) : ∃ y t, l.filter c = y :: t ∧ y ∈ l ∧ c y = true := by
  cases e : l.filter c with
  | nil =>
    have : x ∈ l.filter c := List.mem_filter.mpr ⟨hx, hc⟩
    rw [e] at this
    cases this
  | cons y t =>
    have : y ∈ l.filter c := by rw [e]; exact List.mem_cons_self ..
    exact ⟨y, t, rfl, (List.mem_filter.mp this).1, (List.mem_filter.mp this).2⟩
theorem LongI.cons {ps : List Str} {P : List (Str × Str)} {M i : Nat} {r t : List Str} {x y : Str} (h : LongI ps P M i r) (hi : i + 1 < M) (e : r = x :: t) (hy : y ∈ ps) (hc : colF P y = M - 1 - i) (ht : (y, x) ∈ P) : LongI ps P M (i + 1) (y :: r) := by
  refine ⟨by rw [List.length_cons, h.len], fun z hz => ?_, fun j z hz => ?_, fun j a b ha hb => ?_⟩
  · rcases List.mem_cons.mp hz with rfl | hz
    · exact hy
    · exact h.sub z hz
  · cases j with
    | zero =>
      cases hz
      rw [hc]
      omega
    | succ j =>
      have := h.col j z hz
      rw [this]
      omega
  · cases j with
    | zero =>
      cases ha
      rw [e] at hb
      cases hb
      exact ht
    | succ j => exact h.step j a b ha hb
theorem LongI.road {ps : List Str} {ts : List (Str × Str)} {M : Nat} {r : List Str} (hM : 1 ≤ M) (h : LongI ps (partT ts) M (M - 1) r) : RoadOk ps ts r := by
  refine ⟨fun e => ?_, ?_, h.sub, fun i a b ha hb => (partT_sublist ts).subset (h.step i a b ha hb)⟩
  · have := h.len
    rw [e] at this
    simp at this
  · refine List.pairwise_iff_getElem.mpr fun i j hi hj hij e => ?_
    have h1 := h.col i r[i] (List.getElem?_eq_getElem hi)
    have h2 := h.col j r[j] (List.getElem?_eq_getElem hj)
    rw [e] at h1
    omega
end
section
open PySem PySem.Spec PyProof.Rows
/-! ### the law's own walk: reaches, part, colours -/
theorem Rch.last {P : List (Str × Str)} {a b : Str} (h : Rch P a b) : b ∈ P.map (·.2) := by
  cases h with
  | one t => exact List.mem_map.mpr ⟨_, t, rfl⟩
  | step _ t => exact List.mem_map.mpr ⟨_, t, rfl⟩
section
variable {P : List (Str × Str)} {a : Str} {k : Nat} {row : List Str}
end
end
section
open PySem PySem.Spec PyProof.Rows
/-! ### k15 -/
end
section
open PySem PySem.Spec PyProof.Rows
/-! ### is_colouring of any value, by the program and by the law -/
def isInt : D → Bool
  | .int _ => true
  | _ => false
def isBl : D → Bool
  | .bl _ => true
  | _ => false
def posB : D → Bool
  | .int i => decide (0 < i)
  | _ => false
theorem isiIntA {m : Nat} {d : D} {S : SO} {Q : KD} (hd : Any m d) (h : Q (.bl (isInt d || isBl d)) S) : cIsi (.ty "int") (fTy "int" []) [d, .ty "int"] S Q := by
  cases hd <;> exact ⟨rfl, _, _, rfl, rfl, h⟩
theorem isiBlA {m : Nat} {d : D} {S : SO} {Q : KD} (hd : Any m d) (h : Q (.bl (isBl d)) S) : cIsi (.ty "bool") (fTy "bool" []) [d, .ty "bool"] S Q := by
  cases hd <;> exact ⟨rfl, _, _, rfl, rfl, h⟩
def sp_is_integerA (W : Addr) : DSp := fun ds S Q E => ∃ (m : Nat) (d : D), ds = [d] ∧ Any m d ∧ Q (.bl (isInt d)) S
def w_is_integerA (W : Addr) : WS := (wRet (wAndV (wCall (cIsi (.ty "int") (fTy "int" [])) (wCons (wV 0) (wCons (wC (.ty "int")) wNil))) (wNotV (wCall (cIsi (.ty "bool") (fTy "bool" [])) (wCons (wV 0) (wCons (wC (.ty "bool")) wNil))))))
theorem pure_is_integerA (W : Addr) : ∀ ds S Q E, sp_is_integerA W ds S Q E → w_is_integerA W (endsOf Q) (startD ["value"] ds) S := by
  rintro ds S Q E ⟨m, d, rfl, A, q⟩
  refine xFn ?_
  show w_is_integerA W _ [some _] S
  unfold w_is_integerA
  and_intros
  refine isiIntA A ?_
  and_intros
  refine isCB (fun h => ?_) (fun h => ?_)
  · and_intros
    refine isiBlA A ?_
    and_intros
    have e : (!isBl d) = isInt d := by cases A <;> first | rfl | cases h
    rw [← e] at q
    cases hb : isBl d
    · rw [hb] at q
      exact isNB rfl (cl q)
    · rw [hb] at q
      exact isYB rfl (cl q)
  · have e : isInt d = false := by
      cases e : isInt d
      · rfl
      · rw [e] at h; cases h
    rw [e] at q
    exact cl q
/-- the colours by the names -/
def clrK (ps : List Str) (ns : List Int) : List (D × D) := (ps.map D.str).zip (ns.map D.int)
noncomputable def apartK (K : List (D × D)) (t : Str × Str) : Bool := match dget K (.str t.1), dget K (.str t.2) with
  | some (.int i), some (.int j) => decide (i ≠ j)
  | _, _ => false
def IsClr (ps : List Str) (ts : List (Str × Str)) (d : D) : Prop := ∃ ns : List Int, asTup d = some (ns.map D.int) ∧ ns.length = ps.length ∧ (∀ n ∈ ns, 0 < n) ∧ ∀ t ∈ ts, apartK (clrK ps ns) t = true
theorem clrK_get : ∀ {ps : List Str} {ns : List Int} {p : Str}, ns.length = ps.length → p ∈ ps → ∃ i : Int, dget (clrK ps ns) (.str p) = some (.int i)
  | [], _, _, _, h => by cases h
  | q :: ps, [], _, h, _ => by cases h
  | q :: ps, n :: ns, p, hl, h => by
    show ∃ i : Int, dget ((D.str q, D.int n) :: clrK ps ns) (.str p) = some (.int i)
    rw [dget_cons]
    by_cases e : q = p
    · rw [if_pos (by rw [e])]
      exact ⟨n, rfl⟩
    · rw [if_neg fun z => e (strD_inj z)]
      exact clrK_get (by simpa using hl) ((List.mem_cons.mp h).resolve_left fun z => e z.symm)
theorem clrK_keys {ps : List Str} {ns : List Int} (hl : ns.length = ps.length) : (clrK ps ns).map (·.1) = ps.map D.str := by
  unfold clrK
  rw [List.map_fst_zip]
  rw [List.length_map, List.length_map]
  omega
theorem clrK_put {ps : List Str} {ns : List Int} (nd : ps.Nodup) (hl : ns.length = ps.length) : dputsL [] (clrK ps ns) = clrK ps ns := by
  have h := dputsL_nodup (kvs := clrK ps ns) (acc := []) (fun _ _ => rfl) (by rw [clrK_keys hl]; exact nodup_map (fun a b e => strD_inj e) nd)
  rwa [List.nil_append] at h
theorem all_pos : ∀ {xs : List D}, xs.all posB = true → ∃ ns : List Int, xs = ns.map D.int ∧ ∀ n ∈ ns, 0 < n
  | [], _ => ⟨[], rfl, by simp⟩
  | x :: xs, h => by
    rw [List.all_cons, Bool.and_eq_true] at h
    obtain ⟨ns, rfl, hn⟩ := all_pos h.2
    have h1 := h.1
    cases x with
    | int i =>
      refine ⟨i :: ns, rfl, fun n hm => ?_⟩
      rcases List.mem_cons.mp hm with rfl | hm
      · exact of_decide_eq_true h1
      · exact hn n hm
    | _ => cases h1
theorem pos_all {ns : List Int} (h : ∀ n ∈ ns, 0 < n) : (ns.map D.int).all posB = true := by
  rw [List.all_eq_true]
  intro d hd
  obtain ⟨x, hx, rfl⟩ := List.mem_map.mp hd
  exact decide_eq_true (h x hx)
theorem ints_injk {a b : List Int} (h : a.map D.int = b.map D.int) : a = b := map_inj (f := D.int) h
end
section
open PySem PySem.Spec PyProof.Rows
/-! ### k14 -/
end
section
open PySem PySem.Spec PyProof.Rows
/-! ### k16: webs with ties, and webs made without (their ties the default ()) -/
def webK (W : Addr) (ps : List Str) : D := .ins W [("row", .tf (plD ps)), ("pairs", .kt []), ("marks", .dic true [])]
def WebAt (W : Addr) (ps : List Str) (ts : List (Str × Str)) (d : D) : Prop := d = webD W ps ts ∨ (ts = [] ∧ d = webK W ps)
theorem WebAt.row {W : Addr} {ps : List Str} {ts : List (Str × Str)} {d : D} {S : SO} {Q : KD} (h : WebAt W ps ts d) (q : Q (.tf (plD ps)) S) : FldD W "row" d S Q := by
  rcases h with rfl | ⟨rfl, rfl⟩
  · exact fldRow q
  · exact ⟨_, _, ⟨rfl, rfl⟩, rfl, q⟩
theorem WebAt.pairs {W : Addr} {ps : List Str} {ts : List (Str × Str)} {d : D} {S : SO} (h : WebAt W ps ts d) : FldD W "pairs" d S fun x S1 => seqD x S1 fun xs ok => Src ts prD S ⟨xs, ok⟩ S1 := by
  rcases h with rfl | ⟨rfl, rfl⟩
  · refine fldPairs ?_
    and_intros
    exact srcT
  · exact ⟨_, _, ⟨rfl, rfl⟩, rfl, ⟨rfl, fun _ _ => trivial, rfl⟩⟩
theorem WebAt.prs {W : Addr} {ps : List Str} {ts : List (Str × Str)} {d : D} {S : SO} {R : SO → List D → (SO → Prop) → Prop} (h : WebAt W ps ts d) (q : R S (ts.map prD) fun _ => True) : FldD W "pairs" d S fun x S1 => seqD x S1 (R S1) := by
  rcases h with rfl | ⟨rfl, rfl⟩
  · refine fldPairs ?_
    and_intros
    exact q
  · exact ⟨_, _, ⟨rfl, rfl⟩, rfl, q⟩
def sp_wrong_tie0 (W : Addr) : DSp := fun ds S Q E => ∃ ps : List Str, ds = [.tf (plD ps), .kt []] ∧ Q .non S
def w_wrong_tie0 (W : Addr) : WS := (wSeq (wAsg (wDnew true) (gV 2))
    (wSeq (wFor (wEnum (wCons (wV 1) wNil)) (gT 2 (gC (gV 3) (gC (gV 4) gN))) (wSeq (wIfS (wOr (wB (wO oEq (wV 3) (wC (.int 200)))) (wOr (wNot (wB (wFn (sp_is_pair W) [] (wCons (wV 0) (wCons (wV 4) wNil))))) (wB (wO oIn (wV 4) (wV 2))))) (wRet (wV 3)) wNext)
    (wAsg (wC (.bl true)) (gSubD (wV 2) (wV 4) sSub))))
    (wRet (wC .non))))
theorem pure_wrong_tie0 (W : Addr) : ∀ ds S Q E, sp_wrong_tie0 W ds S Q E → w_wrong_tie0 W (endsOf Q) (startD ["places", "values", "seen", "index", "value"] ds) S := by
  rintro ds S Q E ⟨ps, rfl, q⟩
  refine xFn ?_
  show w_wrong_tie0 W _ [some _, some _, none, none, none] S
  unfold w_wrong_tie0
  and_intros
  intro sn hsn
  and_intros
  refine forE (α := Str × Str) [] prD (fun _ : Unit => [some (.tf (plD ps)), some (.kt []), some (.obj sn), none, none]) (fun _ => S.set sn (.dic true [])) (fun _ _ => True) () trivial ?_ ?_
  · rintro i z a hz -
    cases hz
  · rintro a -
    and_intros
    exact ⟨_, _, Rf.dropS _ hsn, q⟩
def sp_check_ties0 (W : Addr) : DSp := fun ds S Q E => ∃ ps : List Str, ds = [.tf (plD ps), .kt []] ∧ Q .non S
def w_check_ties0 (W : Addr) : WS := (wSeq (wIfS (wNot (wB (wCall (cIsi (.ty "tuple") (fTy "tuple" [])) (wCons (wV 1) (wCons (wC (.ty "tuple")) wNil))))) wNever wNext)
    (wSeq (wAsg (wFn (sp_wrong_tie0 W) [] (wCons (wV 0) (wCons (wV 1) wNil))) (gV 2))
    (wIfS (wB (wO oNotN (wV 2) (wC .non))) wNever wNext)))
theorem pure_check_ties0 (W : Addr) : ∀ ds S Q E, sp_check_ties0 W ds S Q E → w_check_ties0 W (endsOf Q) (startD ["places", "ties", "wrong"] ds) S := by
  rintro ds S Q E ⟨ps, rfl, q⟩
  refine xFn ?_
  show w_check_ties0 W _ [some _, some _, none] S
  unfold w_check_ties0
  and_intros
  refine ⟨rfl, _, _, rfl, rfl, isY rfl ?_⟩
  and_intros
  refine ⟨ps, rfl, ?_⟩
  and_intros
  refine isNB rfl ?_
  and_intros
  exact cl q
def fsK (ps : List Str) : List (Str × D) := [("row", .tf (plD ps)), ("pairs", .kt []), ("marks", .dic true [])]
def sp_Web_init0 (W : Addr) : DSp := fun ds S Q E => ∃ (p : Addr) (ps : List Str), ds = [.obj p, .tf (plD ps), .kt []] ∧ S p = some (.ins W []) ∧ WebOk ps [] ∧ Q .non (S.set p (.ins W (fsK ps)))
def w_Web_init0 (W : Addr) : WS := (wSeq (wDrop (wFn (sp_check_places W) [] (wCons (wV 1) wNil)))
    (wSeq (wDrop (wFn (sp_check_ties0 W) [] (wCons (wV 1) (wCons (wV 2) wNil))))
    (wSeq (wSetF W "row" (wV 0) (wV 1))
    (wSeq (wSetF W "pairs" (wV 0) (wV 2))
    (wSetF W "marks" (wV 0) (wDcP true (wSeqI (wV 2)) (.n 3) wYes (wV 3) (wC (.bl true)) [3]))))))
theorem pure_Web_init0 (W : Addr) : ∀ ds S Q E, sp_Web_init0 W ds S Q E → w_Web_init0 W (endsOf Q) (startD ["self", "places", "ties", "tie"] ds) S := by
  rintro ds S Q E ⟨p, ps, rfl, hp, ok, q⟩
  refine ⟨ps, rfl, ok.places, ok.ne, ps, rfl, p, _, rfl, hp, lez rfl, p, _, rfl, set_same, lez rfl, ?_⟩
  refine dcP_of [] (fun d => some (d, .bl true)) ⟨rfl, rfl⟩ (by decide) (fun d hd S' e => by cases hd) ⟨p, _, rfl, set_same, lez rfl, ?_⟩
  rw [set_set, set_set]
  exact cl q
def sp_Web_lenU (W : Addr) : DSp := fun ds S Q E => ∃ (ps : List Str) (ts : List (Str × Str)) (d : D), ds = [d] ∧ WebAt W ps ts d ∧ ps.length ≤ 1000 ∧ Q (.int (ps.length : Nat)) S
def w_Web_lenU (W : Addr) : WS := (wRet (wCall cLen (wCons (wFld W "row" (wV 0)) wNil)))
theorem pure_Web_lenU (W : Addr) : ∀ ds S Q E, sp_Web_lenU W ds S Q E → w_Web_lenU W (endsOf Q) (startD ["self"] ds) S := by
  rintro ds S Q E ⟨ps, ts, d, rfl, hd, hl, q⟩
  refine xFn ?_
  show w_Web_lenU W _ [some _] S
  unfold w_Web_lenU
  and_intros
  refine hd.row ?_
  and_intros
  exact cl q
theorem WebAt.len {W : Addr} {ps : List Str} {ts : List (Str × Str)} {d : D} {S : SO} {Q : KD} (h : WebAt W ps ts d) (hl : ps.length ≤ 1000) (q : Q (.int (ps.length : Nat)) S) : cLenO W (sp_Web_lenU W) [d] S Q :=
  ⟨by rcases h with rfl | ⟨rfl, rfl⟩ <;> exact ⟨_, rfl, rfl⟩, ps, ts, d, rfl, h, hl, ps.length, rfl, by omega, q⟩
def sp_check_webU (W : Addr) : DSp := fun ds S Q E => ∃ (ps : List Str) (ts : List (Str × Str)) (d : D), ds = [d] ∧ WebAt W ps ts d ∧ Q .non S
def w_check_webU (W : Addr) : WS := (wIfS (wNot (wB (wCall (cIsi (.obj W) (fOwn (isi_Web W))) (wCons (wV 0) (wCons (wC (.obj W)) wNil))))) wNever wNext)
theorem pure_check_webU (W : Addr) : ∀ ds S Q E, sp_check_webU W ds S Q E → w_check_webU W (endsOf Q) (startD ["web"] ds) S := by
  rintro ds S Q E ⟨ps, ts, d, rfl, hd, q⟩
  rcases hd with rfl | ⟨rfl, rfl⟩ <;> exact ⟨rfl, .inr W, true, rfl, isi_W W, isY rfl (cl q)⟩
def sp_ringless_partU (W : Addr) : DSp := fun ds S Q E => ∃ (ps : List Str) (ts : List (Str × Str)) (d : D), ds = [d] ∧ WebAt W ps ts d ∧ WebOk ps ts ∧ Q (.fd false (outsK ps (partT ts))) S
def w_ringless_partU (W : Addr) : WS := (wSeq (wAsg (wDc false (wSeqI (wFld W "row" (wV 0))) (.n 4) wYes (wV 4) (wNew wNil) [4]) (gV 1))
    (wSeq (wFor (wSeqI (wFld W "pairs" (wV 0))) (gT 2 (gC (gV 2) (gC (gV 3) gN))) (wIfS (wNot (wB (wFn (sp_comes_to W) [] (wCons (wV 1) (wCons (wV 3) (wCons (wV 2) wNil)))))) (wDrop (wBM "list" mAppend (wO oIx (wV 1) (wV 2)) (wCons (wV 3) wNil))) wNext))
    (wLk (wRet (wV 1)))))
theorem pure_ringless_partU (W : Addr) : ∀ ds S Q E, sp_ringless_partU W ds S Q E → w_ringless_partU W (endsOf Q) (startD ["web", "found", "first", "second", "place"] ds) S := by
  rintro ds S Q E ⟨ps, ts, d, rfl, hd0, ok, q⟩
  refine xFn ?_
  show w_ringless_partU W _ [some _, none, none, none, none] S
  unfold w_ringless_partU
  and_intros
  refine ⟨?_⟩
  and_intros
  refine hd0.row ?_
  and_intros
  intro f hf
  refine ⟨fun i S2 => ∃ ls : List Addr, ls.length = i ∧ i ≤ ps.length ∧ ls.Nodup ∧ f ∉ ls ∧ (∀ l ∈ ls, S l = none) ∧ S2 = (setP S ls (List.replicate i [])).set f (.dic false (ldK (ps.take i) ls)), ⟨[], rfl, Nat.zero_le _, List.nodup_nil, by simp, (fun l hl => by cases hl), rfl⟩, fun _ _ _ => trivial, ?_, ?_⟩
  · rintro i d' S2 hd ⟨ls, h1, h2, h3, h4, h5, rfl⟩
    have hd : (plD ps)[i]? = some d' := hd
    obtain ⟨p, hp, rfl⟩ := plD_get hd
    have hil := (List.getElem?_eq_some_iff.mp hp).1
    simp only [putNT, wipeD, List.set_cons_zero, List.set_cons_succ]
    refine upYesT ?_
    rw [if_pos rfl]
    refine upI ?_
    and_intros
    refine upI ?_
    and_intros
    intro l hl
    have hlf : l ≠ f := fun e => by rw [e, set_same] at hl; cases hl
    rw [set_ne hlf] at hl
    have hls : l ∉ ls := fun hm => setP_some (by rw [List.length_replicate, h1]) hm hl
    rw [setP_ne hls] at hl
    have htl : (ps.take i).length = i := by rw [List.length_take]; omega
    refine ⟨ldK (ps.take i) ls, by rw [set_ne hlf.symm, set_same], key_str _, by rw [ldK_len (by rw [h1, htl]), htl]; have := ok.few; omega, ls ++ [l], by rw [List.length_append, h1]; rfl, hil, ?_, ?_, ?_, ?_⟩
    · exact List.nodup_append.mpr ⟨h3, by simp, fun a ha b hb e => hls (by rw [List.mem_singleton] at hb; rw [← hb, ← e]; exact ha)⟩
    · intro hm
      rcases List.mem_append.mp hm with hm | hm
      · exact h4 hm
      · exact hlf (List.mem_singleton.mp hm).symm
    · intro x hx
      rcases List.mem_append.mp hx with hx | hx
      · exact h5 x hx
      · rw [List.mem_singleton.mp hx]
        exact hl
    · have hpn : p ∉ ps.take i := fun hm => by
        obtain ⟨j, hj⟩ := List.mem_iff_getElem?.mp hm
        have hji : j < i := by have := (List.getElem?_eq_some_iff.mp hj).1; rw [htl] at this; exact this
        rw [List.getElem?_take_of_lt hji] at hj
        have := nodup_ix ok.nd hj hp
        omega
      rw [ldK_snoc (by rw [h1, htl]) hpn, so_pf hlf, set_set, List.replicate_succ', ← setP_snoc [] hls (by rw [List.length_replicate, h1]), List.take_add_one, hp]
      rfl
  · rintro S2 ⟨ls, h1, h2, h3, h4, h5, rfl⟩
    have h1 : ls.length = (plD ps).length := h1
    rw [List.length_map] at h1
    have hn : (ItD.items ⟨plD ps, fun _ => True⟩).length = ps.length := by show (plD ps).length = _; rw [List.length_map]
    rw [hn, List.take_length]
    and_intros
    refine hd0.prs ?_
    refine forJ ts prD (fun x : (Option D × Option D) × List (Str × Str) => [some d, some (.obj f), x.1.1, x.1.2, none]) (fun x => (setP S ls (ps.map fun p => outs x.2 p)).set f (.dic false (ldK ps ls))) (fun i x => x.2 = partT (ts.take i)) ((none, none), []) rfl ?_ ?_ rfl (by
      show _ = (setP S ls (ps.map fun _ => [])).set f _
      rw [List.map_const'])
    · rintro i t ⟨⟨x, y⟩, P⟩ ht e
      have e : P = partT (ts.take i) := e
      obtain ⟨g1, g2, g3⟩ := ok.tie t (List.mem_of_getElem? ht)
      have hPs : ∀ u ∈ P, u ∈ ts := fun u hu => by
        rw [e] at hu
        exact List.take_subset _ _ ((partT_sublist _).subset hu)
      have L : LeadAt ((setP S ls (ps.map fun p => outs P p)).set f (.dic false (ldK ps ls))) f ps ls P := ⟨set_same, h1, fun j p l hj hl => by
        have hm : l ∈ ls := List.mem_of_getElem? hl
        rw [set_ne fun z => h4 (by rw [← z]; exact hm)]
        exact setP_get h3 hl (by rw [List.getElem?_map, hj]; rfl)⟩
      unfold prD
      and_intros
      refine ⟨f, ps, ls, P, t.2, t.1, rfl, L, ok.nd, ok.few, fun p hp => name_sOk (ok.nm p hp), fun u hu => ⟨(ok.tie u (hPs u hu)).1, (ok.tie u (hPs u hu)).2.1⟩, g2, g1, fun hr => ?_, fun hr => ?_⟩
      · and_intros
        refine .of ((some (.str t.1), some (.str t.2)), P) ?_
        show P = _
        rw [partT_take ht, ← e, partAdd_yes hr]
      · and_intros
        obtain ⟨a, ha⟩ := List.mem_iff_getElem?.mp g1
        have hal : a < ls.length := by rw [h1]; exact (List.getElem?_eq_some_iff.mp ha).1
        obtain ⟨l, hl⟩ : ∃ l, ls[a]? = some l := ⟨_, List.getElem?_eq_getElem hal⟩
        have hlf : l ≠ f := fun z => h4 (by rw [← z]; exact List.mem_of_getElem? hl)
        refine ixDicO (kvs := ldK ps ls) set_same (key_str _) (ldK_get ok.nd ha hl) ?_
        refine bmObj (L.l a t.1 l ha hl) ?_
        and_intros
        have hol : (outs P t.1).length ≤ 200 := Nat.le_trans outs_len (by rw [e]; exact Nat.le_trans ((partT_sublist _).length_le) (Nat.le_trans (List.length_take_le' _ _) ok.tfew))
        refine apM (f := D.str) (l := outs P t.1) (z := t.2) (L.l a t.1 l ha hl) (by omega) ?_
        rw [set_comm hlf.symm, show (List.map D.str (outs P t.1 ++ [t.2])) = plD (outs P t.1 ++ [t.2]) from rfl, setP_set _ h3 (by rw [List.length_map, h1]) hl]
        refine .of ((some (.str t.1), some (.str t.2)), P ++ [t]) ?_ rfl ?_
        · show P ++ [t] = _
          rw [partT_take ht, ← e, partAdd_no hr]
        · show _ = (setP S ls (ps.map fun p => outs (P ++ [(t.1, t.2)]) p)).set f _
          rw [map_set_upd _ _ ok.nd ha]
          congr 2
          refine List.map_congr_left fun p _ => ?_
          rw [outs_add]
          by_cases c : p = t.1
          · rw [if_pos c, if_pos c, c]
          · rw [if_neg c, if_neg c]
    · rintro ⟨⟨x, y⟩, P⟩ e
      have e : P = partT (ts.take ts.length) := e
      rw [List.take_length] at e
      refine xLk ?_
      and_intros
      refine .inr ⟨f, false, ldK ps ls, rfl, set_same, ?_⟩
      rw [del_set (by rw [setP_ne h4]; exact hf)]
      have z := setP_rf (S := S) (ps := ps) (ls := ls) (vs := ps.map fun p => outs P p) h3 h1 (by rw [List.length_map]) h5
      rw [zip_self] at z
      refine ⟨_, _, z, ?_⟩
      rw [e]
      exact q
def sp_colouringU (W : Addr) : DSp := fun ds S Q E => ∃ (ps : List Str) (ts : List (Str × Str)) (d : D), ds = [d] ∧ WebAt W ps ts d ∧ WebOk ps ts ∧ Q (.tup (colsD ps (partT ts))) S
def w_colouringU (W : Addr) : WS := (wSeq (wDrop (wFn (sp_check_webU W) [] (wCons (wV 0) wNil)))
    (wSeq (wAsg (wFn (sp_colours_by W) [] (wCons (wFn (sp_ringless_partU W) [] (wCons (wV 0) wNil)) wNil)) (gV 1))
    (wRet (wCall cTuple (wCons (wLcP (wSeqI (wFld W "row" (wV 0))) (.n 2) wYes (wO oIx (wV 1) (wV 2)) [2]) wNil)))))
theorem pure_colouringU (W : Addr) : ∀ ds S Q E, sp_colouringU W ds S Q E → w_colouringU W (endsOf Q) (startD ["web", "found", "place"] ds) S := by
  rintro ds S Q E ⟨ps, ts, d, rfl, hd, ok, q⟩
  refine xFn ?_
  show w_colouringU W _ [some _, none, none] S
  unfold w_colouringU
  and_intros
  refine ⟨ps, ts, d, rfl, hd, ?_⟩
  and_intros
  refine ⟨ps, ts, d, rfl, hd, ok, ?_⟩
  refine ⟨ps, partT ts, rfl, ok.nd, ok.few, part_ac ok, part_in ok, ?_⟩
  and_intros
  refine lcM ps D.str (fun p => D.int (colF (partT ts) p : Nat)) (by and_intros; refine hd.row ?_; and_intros; exact srcT) (by have := ok.few; omega) (fun p hp S' e => ?_) ?_
  · (simp only [prD, putNT, wipeD, putAll, List.set_cons_zero, List.set_cons_succ, List.length_cons, List.length_nil, true_and]; and_intros)
    refine ixFd (key_str _) (rowK_get hp) ?_
    exact ⟨rfl, rfl⟩
  · and_intros
    exact cl q
def sp_long_roadU (W : Addr) : DSp := fun ds S Q E => ∃ (ps : List Str) (ts : List (Str × Str)) (d : D), ds = [d] ∧ WebAt W ps ts d ∧ WebOk ps ts ∧ ∀ r, r = longN ps (partT ts) (topC ps (partT ts)) (topC ps (partT ts) - 1) → RoadOk ps ts r → r.length = topC ps (partT ts) → Q (.tup (plD r)) S
def w_long_roadU (W : Addr) : WS := (wSeq (wDrop (wFn (sp_check_webU W) [] (wCons (wV 0) wNil)))
    (wSeq (wAsg (wFn (sp_ringless_partU W) [] (wCons (wV 0) wNil)) (gV 1))
    (wSeq (wAsg (wFn (sp_colours_by W) [] (wCons (wV 1) wNil)) (gV 2))
    (wSeq (wAsg (wCall cMax (wCons (wListV (wV 2)) wNil)) (gV 3))
    (wSeq (wAsg (wLst (wCons (wO oIx (wLcP (wSeqI (wFld W "row" (wV 0))) (.n 6) (wB (wO oEq (wO oIx (wV 2) (wV 6)) (wV 3))) (wV 6) [6]) (wC (.int 0))) wNil)) (gV 4))
    (wSeq (wFor (wRngM (wCons (wO oSub (wV 3) (wC (.int 1))) (wCons (wC (.int 0)) (wCons (wU oNeg (wC (.int 1))) wNil)))) (gV 5) (wAsg (wLst (wCons (wO oIx (wLcP (wSeqI (wFld W "row" (wV 0))) (.n 6) (wAnd (wB (wO oEq (wO oIx (wV 2) (wV 6)) (wV 5))) (wB (wO oIn (wO oIx (wV 4) (wC (.int 0))) (wO oIx (wV 1) (wV 6))))) (wV 6) [6]) (wC (.int 0))) (wStar (wV 4) wNil))) (gV 4)))
    (wRet (wCall cTuple (wCons (wV 4) wNil)))))))))
theorem pure_long_roadU (W : Addr) : ∀ ds S Q E, sp_long_roadU W ds S Q E → w_long_roadU W (endsOf Q) (startD ["web", "leads", "colours", "most", "road", "colour", "place"] ds) S := by
  rintro ds S Q E ⟨ps, ts, d, rfl, hd, ok, q⟩
  have few := ok.few
  have ac := part_ac ok
  have hP := part_in ok
  generalize hPe : partT ts = P at *
  refine xFn ?_
  show w_long_roadU W _ [some _, none, none, none, none, none, none] S
  unfold w_long_roadU
  and_intros
  refine ⟨ps, ts, d, rfl, hd, ?_⟩
  and_intros
  refine ⟨ps, ts, d, rfl, hd, ok, ?_⟩
  rw [hPe]
  and_intros
  refine ⟨ps, P, rfl, ok.nd, ok.few, ac, hP, ?_⟩
  and_intros
  refine xListV ?_
  and_intros
  refine ⟨_, rfl, by rw [rowK_len]; omega, ?_⟩
  and_intros
  have ev : vlsD (rowC ps (colF P)) = ((ps.map (colF P)).map fun n : Nat => ((n : Nat) : Int)).map D.int := by
    unfold vlsD rowC
    rw [List.map_map, List.map_map, List.map_map]
    rfl
  rw [ev]
  refine xMaxL (fun e => ok.ne (by simpa using e)) fun m hm => ?_
  have em : m = (topC ps P : Nat) := max_top hm
  subst em
  generalize hMe : topC ps P = M at *
  have hM1 : 1 ≤ M := by
    obtain ⟨v, hv, e⟩ := top_ex (P := P) ok.ne
    have := colF_pos ac hP hv
    omega
  have hMn : M ≤ 40 := by
    obtain ⟨v, hv, e⟩ := top_ex (P := P) ok.ne
    have := colF_le ac hP hv
    omega
  and_intros
  refine lcF ps D.str (fun p => decide (colF P p = M)) D.str (by and_intros; refine hd.row ?_; and_intros; exact srcT) (by omega) (fun p hp S' e => ?_) ?_
  · (simp only [prD, putNT, wipeD, putAll, List.set_cons_zero, List.set_cons_succ, List.length_cons, List.length_nil, true_and]; and_intros)
    refine ixFd (key_str _) (rowK_get hp) ?_
    and_intros
    rw [show decide (((colF P p : Nat) : Int) = (M : Nat)) = decide (colF P p = M) from decide_eq_decide.mpr (by omega)]
    refine lcKI fun h => ?_
    and_intros
    exact ⟨rfl, rfl⟩
  obtain ⟨v, hv, ev⟩ := top_ex (P := P) ok.ne
  rw [hMe] at ev
  obtain ⟨x, t, hxt, hxp, hxc⟩ := filter_one (c := fun p => decide (colF P p = M)) hv (decide_eq_true ev)
  have hxc := of_decide_eq_true hxc
  rw [hxt, List.map_cons]
  and_intros
  refine ixLst at0 ?_
  and_intros
  have h0 : longN ps P M 0 = [x] := by unfold longN; rw [hxt]; rfl
  have I0 : LongI ps P M 0 [x] := ⟨rfl, by simpa using hxp, fun j y hy => by
    cases j with
    | zero => cases hy; omega
    | succ j => simp at hy, fun j a b ha hb => by simp at hb⟩
  refine xRngM ?_
  and_intros
  refine ⟨(M : Nat) - 1, 0, rfl, ⟨by omega, by omega, by omega, by omega⟩, ?_⟩
  rw [show ((M : Nat) - 1 - 0 : Int).toNat = M - 1 by omega]
  and_intros
  refine forJ (List.range (M - 1)) (fun i : Nat => D.int ((M : Nat) - 1 - (i : Nat))) (fun y : List Str × Option D => [some d, some (.fd false (outsK ps P)), some (.fd false (rowC ps (colF P))), some (.int (M : Nat)), some (.lst (plD y.1)), y.2, none]) (fun _ => S) (fun i y => y.1 = longN ps P M i ∧ LongI ps P M i y.1) ([x], none) ⟨h0.symm, I0⟩ ?_ ?_
  · rintro i z ⟨r, c5⟩ hz ⟨e1, hI⟩
    have e1 : r = longN ps P M i := e1
    have hI : LongI ps P M i r := hI
    have hil : i < M - 1 := by have := (List.getElem?_eq_some_iff.mp hz).1; rwa [List.length_range] at this
    have hzi : z = i := by rw [List.getElem?_range hil] at hz; exact (Option.some.inj hz).symm
    subst hzi
    obtain ⟨h, t2, hr, hhp, hhc⟩ := hI.head
    obtain ⟨u, hu, hut, huc⟩ := colF_pred ac hP hhp (k := M - 1 - z) (by omega) (by omega)
    and_intros
    refine lcF ps D.str (fun p => decide (colF P p = M - 1 - z) && decide (h ∈ outs P p)) D.str (by and_intros; refine hd.row ?_; and_intros; exact srcT) (by omega) (fun p hp S' e => ?_) ?_
    · (simp only [prD, putNT, wipeD, putAll, List.set_cons_zero, List.set_cons_succ, List.length_cons, List.length_nil, true_and]; and_intros)
      refine ixFd (key_str _) (rowK_get hp) ?_
      and_intros
      rw [show decide (((colF P p : Nat) : Int) = (M : Nat) - 1 - (z : Nat)) = decide (colF P p = M - 1 - z) from decide_eq_decide.mpr (by omega)]
      refine isD (fun c => ?_) fun c => ?_
      · rw [decide_eq_true c, Bool.true_and]
        and_intros
        rw [hr, show plD (h :: t2) = D.str h :: plD t2 from rfl]
        and_intros
        refine ixLst at0 ?_
        and_intros
        refine ixFd (key_str _) (dget_outs hp) ?_
        refine inLst ?_ (ok.sok h hhp) (fun y hy => ok.sok y (hP _ (outs_mem.mp hy)).2)
        refine lcKI fun h => ?_
        and_intros
        exact ⟨rfl, rfl⟩
      · rw [decide_eq_false c, Bool.false_and]
        exact lcKF rfl
    obtain ⟨y, t3, hyt, hyp, hyc⟩ := filter_one (c := fun p => decide (colF P p = M - 1 - z) && decide (h ∈ outs P p)) hu (by rw [decide_eq_true huc, decide_eq_true (outs_mem.mpr hut)]; rfl)
    obtain ⟨y1, y2⟩ := Bool.and_eq_true_iff.mp hyc
    have y1 := of_decide_eq_true y1
    have y2 := outs_mem.mp (of_decide_eq_true y2)
    rw [hyt, List.map_cons]
    and_intros
    refine ixLst at0 ?_
    and_intros
    refine ⟨plD r, rfl, ?_⟩
    and_intros
    have hrl := hI.len
    refine ⟨by rw [List.append_nil, List.length_cons, List.length_map]; omega, ?_⟩
    rw [List.append_nil]
    and_intros
    refine .of (y :: r, some (.int ((M : Nat) - 1 - (z : Nat)))) ⟨?_, hI.cons (by omega) hr hyp y1 y2⟩
    show y :: r = longN ps P M (z + 1)
    unfold longN
    rw [← e1, hr]
    show _ = List.take 1 (List.filter (fun p => decide (colF P p = M - 1 - z) && decide (h ∈ outs P p)) ps) ++ _
    rw [hyt]
    rfl
  · rintro ⟨r, c5⟩ ⟨e1, hI⟩
    have e1 : r = longN ps P M (List.range (M - 1)).length := e1
    have hI : LongI ps P M (List.range (M - 1)).length r := hI
    rw [List.length_range] at e1 hI
    and_intros
    have hl := hI.len
    refine cl (q r ?_ ?_ (by omega))
    · exact e1
    · rw [← hPe] at hI
      exact hI.road hM1
def sp_is_colouringU (W : Addr) : DSp := fun ds S Q E => ∃ (ps : List Str) (ts : List (Str × Str)) (wd d : D) (m : Nat), ds = [wd, d] ∧ WebAt W ps ts wd ∧ WebOk ps ts ∧ Any m d ∧ m ≤ 100000 ∧ ∀ b : Bool, (b = true ↔ IsClr ps ts d) → Q (.bl b) S
def w_is_colouringU (W : Addr) : WS := (wSeq (wDrop (wFn (sp_check_webU W) [] (wCons (wV 0) wNil)))
    (wSeq (wIfS (wOr (wNot (wB (wCall (cIsi (.ty "tuple") (fTy "tuple" [])) (wCons (wV 1) (wCons (wC (.ty "tuple")) wNil))))) (wB (wO oNe (wCall cLen (wCons (wV 1) wNil)) (wCall (cLenO W (sp_Web_lenU W)) (wCons (wV 0) wNil))))) (wRet (wC (.bl false))) wNext)
    (wSeq (wIfS (wNot (wB (wCall cAll (wCons (wLcP (wSeqI (wV 1)) (.n 3) wYes (wAndV (wFn (sp_is_integerA W) [] (wCons (wV 3) wNil)) (wO oGt (wV 3) (wC (.int 0)))) [3]) wNil)))) (wRet (wC (.bl false))) wNext)
    (wSeq (wAsg (wDictZipT (wFld W "row" (wV 0)) (wV 1)) (gV 2))
    (wRet (wCall cAll (wCons (wLcP (wSeqI (wFld W "pairs" (wV 0))) (.t [4, 5]) wYes (wO oNe (wO oIx (wV 2) (wV 4)) (wO oIx (wV 2) (wV 5))) [4, 5]) wNil)))))))
theorem pure_is_colouringU (W : Addr) : ∀ ds S Q E, sp_is_colouringU W ds S Q E → w_is_colouringU W (endsOf Q) (startD ["web", "value", "colours", "colour", "first", "second"] ds) S := by
  rintro ds S Q E ⟨ps, ts, wd, d, m, rfl, hd, ok, A, hm, q⟩
  have few := ok.few
  have tf := ok.tfew
  refine xFn ?_
  show w_is_colouringU W _ [some _, some _, none, none, none, none] S
  unfold w_is_colouringU
  and_intros
  refine ⟨ps, ts, wd, rfl, hd, ?_⟩
  and_intros
  refine isiTupA ?_ A
  cases e : asTup d with
  | none =>
    refine isNB rfl ?_
    and_intros
    exact cl (q false ⟨fun h => (by cases h), fun ⟨ns, h, _⟩ => by rw [e] at h; cases h⟩)
  | some xs =>
    refine isYB rfl ?_
    and_intros
    refine asTup_len e ?_
    and_intros
    refine hd.len (by omega) ?_
    and_intros
    refine isND (fun hl => ?_) fun hl => ?_
    · have hl : xs.length = ps.length := by
        have hl : ((xs.length : Nat) : Int) = (ps.length : Nat) := hl
        omega
      have Ax : ∀ x ∈ xs, Any m x := by
        cases A with
        | tup ys hl h => cases e; exact h
        | tf ys hl h => cases e; exact h
        | _ => cases e
      and_intros
      refine lcM xs (fun d => d) (fun d => .bl (posB d)) (by and_intros; refine asTup_seqD e ?_; exact srcX (by simp)) (by omega) (fun x hx S' _ => ?_) ?_
      · (simp only [prD, putNT, wipeD, putAll, List.set_cons_zero, List.set_cons_succ, List.length_cons, List.length_nil, true_and]; and_intros)
        refine ⟨m, x, rfl, Ax x hx, ?_⟩
        have Ax := Ax x hx
        cases x with
        | int i =>
          and_intros
          exact ⟨trivial, rfl, rfl⟩
        | _ =>
          and_intros
          exact ⟨rfl, rfl⟩
      and_intros
      refine isCB (fun h => ?_) (fun h => ?_)
      · obtain ⟨ns, rfl, hn⟩ := all_pos h
        rw [List.length_map] at hl
        and_intros
        refine xDictZipT ?_
        and_intros
        refine hd.row ?_
        and_intros
        refine ⟨ps, ns.map D.int, rfl, e, by rw [List.length_map]; omega, by omega, ?_⟩
        rw [show dputsL [] ((ps.map D.str).zip (ns.map D.int)) = clrK ps ns from clrK_put ok.nd hl]
        have tk : ∀ t ∈ ts, ∃ i j : Int, dget (clrK ps ns) (.str t.1) = some (.int i) ∧ dget (clrK ps ns) (.str t.2) = some (.int j) := fun t ht => by
          obtain ⟨i, hi⟩ := clrK_get hl (ok.tie t ht).1
          obtain ⟨j, hj⟩ := clrK_get hl (ok.tie t ht).2.1
          exact ⟨i, j, hi, hj⟩
        and_intros
        refine lcM ts prD (fun t => .bl (apartK (clrK ps ns) t)) (by and_intros; exact hd.pairs) (by omega) (fun t ht S' _ => ?_) ?_
        · obtain ⟨i, j, hi, hj⟩ := tk t ht
          (simp only [prD, putNT, wipeD, putAll, List.set_cons_zero, List.set_cons_succ, List.length_cons, List.length_nil, true_and]; and_intros)
          refine ixDic (key_str _) hi ?_
          and_intros
          refine ixDic (key_str _) hj ?_
          and_intros
          refine ⟨rfl, ?_⟩
          unfold apartK
          rw [hi, hj]
          show D.bl (decide (i ≠ j)) = _
          simp
        and_intros
        refine cl (q _ ?_)
        rw [List.all_eq_true]
        refine ⟨fun h => ⟨ns, e, hl, hn, h⟩, fun ⟨ns', h1, h2, h3, h4⟩ => ?_⟩
        rw [e] at h1
        rw [ints_injk (Option.some.inj h1)]
        exact h4
      · and_intros
        refine cl (q false ⟨fun h => (by cases h), fun ⟨ns, h1, _, h3, _⟩ => ?_⟩)
        rw [e] at h1
        rw [Option.some.inj h1, pos_all h3] at h
        cases h
    · have hl : ¬ ((xs.length : Nat) : Int) = (ps.length : Nat) := hl
      and_intros
      refine cl (q false ⟨fun h => (by cases h), fun ⟨ns, h1, h2, _⟩ => ?_⟩)
      rw [e] at h1
      rw [Option.some.inj h1, List.length_map] at hl
      exact absurd (by omega) hl
end
end L2.DL
namespace L2.DL
open PySem PySem.Spec PyProof.Rows
/-! ### ties that go up -/
def upL (f : Str → Nat) (ts : List (Str × Str)) : List (Str × Str) := ts.filter fun t => decide (f t.1 < f t.2)
theorem mem_upL {f : Str → Nat} {ts : List (Str × Str)} {t : Str × Str} : t ∈ upL f ts ↔ t ∈ ts ∧ f t.1 < f t.2 := by
  unfold upL
  rw [List.mem_filter, decide_eq_true_iff]
theorem rch_up {f : Str → Nat} {P : List (Str × Str)} (h : ∀ t ∈ P, f t.1 < f t.2) {a b : Str} (r : Rch P a b) : f a < f b := by
  induction r with
  | one t => exact h _ t
  | step _ t ih => exact Nat.lt_trans ih (h _ t)
theorem part_up {f : Str → Nat} {ts : List (Str × Str)} (h : ∀ i t, ts[i]? = some t → f t.1 < f t.2 ∨ (¬ f t.1 < f t.2 ∧ Rch (upL f (ts.take i)) t.2 t.1)) : partT ts = upL f ts := by
  have go : ∀ i, i ≤ ts.length → partT (ts.take i) = upL f (ts.take i) := by
    intro i
    induction i with
    | zero => exact fun _ => rfl
    | succ i ih =>
      intro hi
      have e := ih (by omega)
      have ht := List.getElem?_eq_getElem (show i < ts.length by omega)
      rw [partT_take ht, e, List.take_add_one, ht]
      show _ = upL f (ts.take i ++ [ts[i]])
      unfold upL
      rw [List.filter_append]
      rcases h i _ ht with h1 | ⟨h1, h2⟩
      · rw [partAdd_no fun r => ?_]
        · rw [List.filter_cons_of_pos (by rw [decide_eq_true h1]), List.filter_nil]
        · have := rch_up (f := f) (fun t ht => (mem_upL.mp ht).2) r
          omega
      · unfold upL at h2
        rw [partAdd_yes h2, List.filter_cons_of_neg (by simpa using h1), List.filter_nil, List.append_nil]
  have := go ts.length (Nat.le_refl _)
  rwa [List.take_length] at this
theorem upL_all {f : Str → Nat} {ts : List (Str × Str)} (h : ∀ t ∈ ts, f t.1 < f t.2) : upL f ts = ts := List.filter_eq_self.mpr fun t ht => decide_eq_true (h t ht)
theorem part_all {f : Str → Nat} {ts : List (Str × Str)} (h : ∀ t ∈ ts, f t.1 < f t.2) : partT ts = ts := by
  rw [part_up (f := f) fun i t ht => .inl (h t (List.mem_of_getElem? ht)), upL_all h]
theorem col_eq {P : List (Str × Str)} {g : Str → Nat} (g1 : ∀ v, 1 ≤ g v) (up : ∀ t ∈ P, g t.1 + 1 ≤ g t.2) {v : Str} (h : Lp P v (g v)) : colF P v = g v := by
  refine IsCol.eq ⟨h, fun j hj => ?_⟩
  clear h
  induction hj with
  | one v => exact g1 v
  | step _ t ih =>
    have := up _ t
    dsimp only at this
    omega
theorem top_eq {ps : List Str} {P : List (Str × Str)} {m : Nat} (h1 : ∀ v ∈ ps, colF P v ≤ m) {w : Str} (hw : w ∈ ps) (h2 : colF P w = m) : topC ps P = m := by
  obtain ⟨v, hv, e⟩ := top_ex (P := P) (ps := ps) (fun e => by rw [e] at hw; cases hw)
  have := h1 v hv
  have := top_le (P := P) hw
  omega
theorem idx_of {q : List Str} (nd : q.Nodup) {k : Nat} {v : Str} (h : q[k]? = some v) : List.idxOf v q = k := by
  have hl := List.idxOf_lt_length_of_mem (List.mem_of_getElem? h)
  have e : q[List.idxOf v q]? = some v := by rw [List.getElem?_eq_getElem hl, List.getElem_idxOf hl]
  exact nodup_ix nd e h
/-- all ties go up in the order q, and each place is tied to the next -/
theorem ord_col {q : List Str} (nd : q.Nodup) {P : List (Str × Str)} (up : ∀ t ∈ P, List.idxOf t.1 q < List.idxOf t.2 q) (ch : ∀ k a b, q[k]? = some a → q[k + 1]? = some b → (a, b) ∈ P) : ∀ {k : Nat} {v : Str}, q[k]? = some v → colF P v = k + 1 := by
  have lp : ∀ (k : Nat) (v : Str), q[k]? = some v → Lp P v (k + 1) := by
    intro k
    induction k with
    | zero => exact fun v _ => .one v
    | succ k ih =>
      intro v hv
      have hl := (List.getElem?_eq_some_iff.mp hv).1
      have hu := List.getElem?_eq_getElem (show k < q.length by omega)
      exact .step (ih _ hu) (ch k _ _ hu hv)
  intro k v hv
  have e := idx_of nd hv
  have := col_eq (P := P) (g := fun v => List.idxOf v q + 1) (fun _ => by omega) (fun t ht => by have := up t ht; omega) (v := v) (by
    show Lp P v (List.idxOf v q + 1)
    rw [e]
    exact lp k v hv)
  rw [this]
  show List.idxOf v q + 1 = _
  rw [e]
theorem ord_top {q ps : List Str} (pm : q.Perm ps) (h0 : 0 < q.length) {P : List (Str × Str)} (hc : ∀ {k : Nat} {v : Str}, q[k]? = some v → colF P v = k + 1) : topC ps P = q.length := by
  have hl := List.getElem?_eq_getElem (show q.length - 1 < q.length by omega)
  refine top_eq (fun v hv => ?_) (pm.mem_iff.mp (List.mem_of_getElem? hl)) (by rw [hc hl]; omega)
  obtain ⟨k, hk⟩ := List.mem_iff_getElem?.mp (pm.mem_iff.mpr hv)
  have := (List.getElem?_eq_some_iff.mp hk).1
  rw [hc hk]
  omega
/-! ### a row of ties -/
def rowS (ps : List Str) : List (Str × Str) := (List.range (ps.length - 1)).map fun k => (ps.getD k Str.empty, ps.getD (k + 1) Str.empty)
theorem mem_rowS {ps : List Str} {a b : Str} : (a, b) ∈ rowS ps ↔ ∃ k, ps[k]? = some a ∧ ps[k + 1]? = some b := by
  unfold rowS
  rw [List.mem_map]
  constructor
  · rintro ⟨k, hk, e⟩
    have hk := List.mem_range.mp hk
    have e1 : ps.getD k Str.empty = a := congrArg Prod.fst e
    have e2 : ps.getD (k + 1) Str.empty = b := congrArg Prod.snd e
    exact ⟨k, by rw [← e1]; exact getD_get (by omega), by rw [← e2]; exact getD_get (by omega)⟩
  · rintro ⟨k, h1, h2⟩
    have hl := (List.getElem?_eq_some_iff.mp h2).1
    exact ⟨k, List.mem_range.mpr (by omega), by rw [List.getD_eq_getElem?_getD, List.getD_eq_getElem?_getD, h1, h2]; rfl⟩
theorem rowS_len {ps : List Str} : (rowS ps).length = ps.length - 1 := by unfold rowS; rw [List.length_map, List.length_range]
theorem rowS_get {ps : List Str} {i : Nat} {t : Str × Str} (h : (rowS ps)[i]? = some t) : ps[i]? = some t.1 ∧ ps[i + 1]? = some t.2 := by
  have hl := (List.getElem?_eq_some_iff.mp h).1
  rw [rowS_len] at hl
  unfold rowS at h
  rw [List.getElem?_map, List.getElem?_range hl] at h
  have e := Option.some.inj h
  rw [← e]
  exact ⟨getD_get (by omega), getD_get (by omega)⟩
theorem rowS_nd {ps : List Str} (nd : ps.Nodup) : (rowS ps).Nodup := by
  unfold rowS
  refine nodup_map_on (fun i hi j hj e => ?_) List.nodup_range
  have hi := List.mem_range.mp hi
  have hj := List.mem_range.mp hj
  exact getD_inj nd (by omega) (by omega) (congrArg Prod.fst e)
theorem web_rowS {ps : List Str} (nm : NamesOk ps) (h0 : 0 < ps.length) (h1 : ps.length ≤ 40) {T : List (Str × Str)} (pm : T.Perm (rowS ps)) : WebOk ps T := by
  refine ⟨h0, h1, nm.1, nm.2, by rw [pm.length_eq, rowS_len]; omega, fun t ht => ?_, pm.symm.nodup (rowS_nd nm.2)⟩
  obtain ⟨k, g1, g2⟩ := mem_rowS.mp (show (t.1, t.2) ∈ rowS ps from pm.mem_iff.mp ht)
  refine ⟨List.mem_of_getElem? g1, List.mem_of_getElem? g2, fun e => ?_⟩
  rw [e] at g1
  have := nodup_ix nm.2 g1 g2
  omega
theorem row_up {ps : List Str} (nd : ps.Nodup) {t : Str × Str} (h : t ∈ rowS ps) : List.idxOf t.1 ps < List.idxOf t.2 ps := by
  obtain ⟨k, g1, g2⟩ := mem_rowS.mp (show (t.1, t.2) ∈ rowS ps from h)
  rw [idx_of nd g1, idx_of nd g2]
  omega
theorem row_rch {ps : List Str} {P : List (Str × Str)} (h : ∀ t ∈ rowS ps, t ∈ P) : ∀ (d i : Nat) (a b : Str), ps[i]? = some a → ps[i + d + 1]? = some b → Rch P a b
  | 0, i, a, b, ha, hb => .one (h _ (mem_rowS.mpr ⟨i, ha, hb⟩))
  | d + 1, i, a, b, ha, hb => by
    have hl := (List.getElem?_eq_some_iff.mp hb).1
    have hm := List.getElem?_eq_getElem (show i + d + 1 < ps.length by omega)
    exact .step (row_rch h d i a _ ha hm) (h _ (mem_rowS.mpr ⟨i + d + 1, hm, hb⟩))
/-- a road over all places of a row is the row -/
theorem row_only {ps : List Str} (nd : ps.Nodup) {T : List (Str × Str)} (hT : ∀ t ∈ T, t ∈ rowS ps) {r : List Str} (R : RoadOk ps T r) (hl : r.length = ps.length) : r = ps := by
  have st : ∀ (j : Nat) (x y : Str), r[0]? = some x → r[j]? = some y → List.idxOf y ps = List.idxOf x ps + j := by
    intro j
    induction j with
    | zero =>
      intro x y hx hy
      rw [hx] at hy
      cases hy
      rfl
    | succ j ih =>
      intro x y hx hy
      have hjl := (List.getElem?_eq_some_iff.mp hy).1
      have hz := List.getElem?_eq_getElem (show j < r.length by omega)
      obtain ⟨k, g1, g2⟩ := mem_rowS.mp (hT _ (R.step j _ _ hz hy))
      have e := ih x _ hx hz
      rw [idx_of nd g1] at e
      rw [idx_of nd g2]
      omega
  have h0 : 0 < r.length := List.length_pos_iff.mpr R.ne
  have hx := List.getElem?_eq_getElem h0
  have hz := List.getElem?_eq_getElem (show r.length - 1 < r.length by omega)
  have e1 := st _ _ _ hx hz
  have e2 := List.idxOf_lt_length_of_mem (R.sub _ (List.mem_of_getElem? hz))
  refine List.ext_getElem? fun j => ?_
  by_cases hj : j < r.length
  · have hy := List.getElem?_eq_getElem hj
    have e3 := st _ _ _ hx hy
    have hm := R.sub _ (List.mem_of_getElem? hy)
    have hi := List.idxOf_lt_length_of_mem hm
    have e4 : ps[List.idxOf r[j] ps]? = some r[j] := by rw [List.getElem?_eq_getElem hi, List.getElem_idxOf hi]
    rw [show List.idxOf r[j] ps = j by omega] at e4
    rw [hy, e4]
  · rw [List.getElem?_eq_none (by omega), List.getElem?_eq_none (by omega)]
end L2.DL

namespace L2.DL
local macro_rules | `(tactic| and_intros) => `(tactic| repeat (first | with_reducible refine xInt ?_ | with_reducible refine iModL ?_ | with_reducible refine xMakeF ?_ | with_reducible refine xSubD ?_ | with_reducible refine fldRow ?_ | with_reducible refine fldPairs ?_ | with_reducible refine fldMarks ?_ | with_reducible refine mthTie ?_ | with_reducible refine hasTie ?_ | with_reducible refine chkWeb ?_ | with_reducible refine isiTup ?_ | with_reducible refine isiTf ?_ | with_reducible refine isiStr ?_ | with_reducible refine v0 ?_ | with_reducible refine vS ?_ | with_reducible refine xC ?_ | with_reducible refine xCons ?_ | with_reducible refine xNil ?_ | with_reducible refine xO ?_ | with_reducible refine xCall ?_ | with_reducible refine xSeq ?_ | with_reducible refine xAsg ?_ | with_reducible refine g0 ?_ | with_reducible refine gSu ?_ | with_reducible refine xNext ?_ | with_reducible refine xRet ?_ | with_reducible refine xIfS ?_ | with_reducible refine xB ?_ | with_reducible refine isT ?_ | with_reducible refine isF ?_ | with_reducible refine isT' ?_ | with_reducible refine isF' ?_ | with_reducible refine iT ?_ | with_reducible refine iF ?_ | with_reducible refine iNT ?_ | with_reducible refine iNF ?_ | with_reducible refine xAnd ?_ | with_reducible refine xOr ?_ | with_reducible refine xNot ?_ | with_reducible refine xAndV ?_ | with_reducible refine xOrV ?_ | with_reducible refine xNotV ?_ | with_reducible refine xIf ?_ | with_reducible refine xCh ?_ | with_reducible refine xYes ?_ | with_reducible refine iAdd ?_ | with_reducible refine iSub ?_ | with_reducible refine iAnd ?_ | with_reducible refine iOr ?_ | with_reducible refine iLt ?_ | with_reducible refine iLe ?_ | with_reducible refine iGt ?_ | with_reducible refine iGe ?_ | with_reducible refine iEq ?_ | with_reducible refine iNe ?_ | with_reducible refine sEq ?_ | with_reducible refine sNe ?_ | with_reducible refine iNeg ?_ | with_reducible refine isN1 ?_ | with_reducible refine isN2 ?_ | with_reducible refine noN2 ?_ | with_reducible refine xLen ?_ | with_reducible refine lTupM ?_ | with_reducible refine lTfM ?_ | with_reducible refine lLstM ?_ | with_reducible refine lSrcM ?_ | with_reducible refine lTup ?_ | with_reducible refine lTf ?_ | with_reducible refine lLst ?_ | with_reducible refine lSrc ?_ | with_reducible refine lDic ?_ | with_reducible refine xAllM ?_ | with_reducible refine xAnyM ?_ | with_reducible refine xAll ?_ | with_reducible refine xFnC ?_ | with_reducible refine xFld ?_ | with_reducible refine xMth ?_ | with_reducible refine xSeqI ?_ | with_reducible refine sTup ?_ | with_reducible refine sTf ?_ | with_reducible refine sLst ?_ | with_reducible refine sSrc ?_ | with_reducible refine xEnum ?_ | with_reducible refine one1 ?_ | with_reducible refine xRng1 ?_ | with_reducible refine xRng2 ?_ | with_reducible refine int1' ?_ | with_reducible refine int2' ?_ | with_reducible refine xFor ?_ | with_reducible refine xTup ?_ | with_reducible refine xTupF ?_ | with_reducible refine xLst ?_ | with_reducible refine xNew ?_ | with_reducible refine xU ?_ | with_reducible refine xDrop ?_ | with_reducible refine xRetN ?_ | with_reducible refine xBreak ?_ | with_reducible refine xCont ?_ | with_reducible refine xStar ?_ | with_reducible refine gTup ?_ | with_reducible refine gCons ?_ | with_reducible refine gNil ?_ | with_reducible refine xSl ?_ | with_reducible refine pN ?_ | with_reducible refine pS ?_ | with_reducible refine isI1 ?_ | with_reducible refine slTup ?_ | with_reducible refine slSrc ?_ | with_reducible refine slLst ?_ | with_reducible refine xPar ?_ | with_reducible refine xPar3 ?_ | with_reducible refine two2' ?_ | with_reducible refine three' ?_ | with_reducible refine xBM ?_ | with_reducible refine bmLst ?_ | with_reducible refine bmSrc ?_ | with_reducible refine tfL ?_ | with_reducible refine tuL ?_ | with_reducible refine tuT ?_ | with_reducible refine xRevU ?_ | with_reducible refine revTup ?_ | with_reducible refine revTf ?_ | with_reducible refine xDicF ?_ | with_reducible refine xLcF ?_ | with_reducible refine xLcN ?_ | with_reducible refine xZip ?_ | with_reducible refine xCl ?_ | with_reducible refine andL (by with_unfolding_all exact lez rfl) ?_))
section
open PySem PySem.Spec PyProof.Rows
def sp_k16_mixed (W : Addr) : DSp := fun ds S Q E => ∃ (p : Addr) (a b c : Int) (ls : List (Str × Str)), ds = [.obj p, .lst (ls.map prD)] ∧ S p = some (pan3 a b c) ∧ ls.length ≤ 1000 ∧ ∀ (T : List (Str × Str)) (a' b' c' : Int), T.Perm ls → Q (.tf (T.map prD)) (S.set p (pan3 a' b' c'))
def w_k16_mixed (W : Addr) : WS := (wSeq (wAsg (wNew wNil) (gV 2))
    (wSeq (wFor (wSeqI (wV 1)) (gV 3) (wDrop (wBM "list" mInsert (wV 2) (wCons (wFn (sp_cup_sip W) [] (wCons (wV 0) (wCons (wO oAdd (wCall cLen (wCons (wV 2) wNil)) (wC (.int 1))) wNil))) (wCons (wV 3) wNil)))))
    (wRet (wCall cTupleF (wCons (wV 2) wNil)))))
theorem pure_k16_mixed (W : Addr) : ∀ ds S Q E, sp_k16_mixed W ds S Q E → w_k16_mixed W (endsOf Q) (startD ["_law_cup_here", "_law_things", "_law_found", "_law_each"] ds) S := by
  rintro ds S Q E ⟨p, a, b, c, xs, rfl, hp, hl, q⟩
  refine xFn ?_
  show w_k16_mixed W _ [some _, some _, none, none] S
  unfold w_k16_mixed
  and_intros
  intro f hf
  have hpf := ne_new hp hf
  and_intros
  refine forJ xs prD (fun x : Option D × (Int × Int × Int) × List (Str × Str) => [some (.obj p), some (.lst (xs.map prD)), some (.obj f), x.1]) (fun x => (S.set p (pan3 x.2.1.1 x.2.1.2.1 x.2.1.2.2)).set f (.lst (x.2.2.map prD))) (fun i x => x.2.2.Perm (xs.take i)) (none, (a, b, c), []) (by simp) ?_ ?_ rfl (by rw [set_self hp]; rfl)
  · rintro i d ⟨x, ⟨a, b, c⟩, l⟩ hd hv
    have hv : l.Perm (xs.take i) := hv
    have hil := (List.getElem?_eq_some_iff.mp hd).1
    have hll : l.length = i := by rw [hv.length_eq, List.length_take]; omega
    dsimp only
    and_intros
    refine bmObj set_same ?_
    and_intros
    refine lObj set_same ?_
    and_intros
    rw [List.length_map, show ((l.length : Int) + 1) = ((l.length + 1 : Nat) : Int) by omega]
    refine sipN (m := l.length + 1) (so_p hpf) (by omega) (by omega) fun r hr a b c => ?_
    rw [so_pp hpf]
    and_intros
    refine two2' ⟨f, _, r, rfl, rfl, set_same, by rw [List.length_map]; omega, by omega, ?_⟩
    rw [set_set]
    refine .of (some (prD d), (a, b, c), l.take r ++ [d] ++ l.drop r) ?_ rfl (by rw [List.map_append, List.map_append, List.map_take, List.map_drop]; rfl)
    show (l.take r ++ [d] ++ l.drop r).Perm (xs.take (i + 1))
    have e1 : (l.take r ++ [d] ++ l.drop r).Perm (d :: (l.take r ++ l.drop r)) := by
      rw [List.append_assoc]
      exact List.perm_middle
    rw [List.take_append_drop] at e1
    rw [List.take_add_one, hd]
    exact e1.trans ((List.perm_append_singleton d l).symm.trans (List.Perm.append_right [d] hv))
  · rintro ⟨x, ⟨a, b, c⟩, l⟩ hv
    have hv : l.Perm (xs.take xs.length) := hv
    rw [List.take_length] at hv
    and_intros
    refine tfOb set_same ?_
    exact ⟨_, _, Rf.dropS _ (by rw [set_ne hpf.symm]; exact hf), q l a b c hv⟩
theorem neLSz {S : SO} {Q : KD} {a b : List Str} (h : Q (.bl (!decide (a = b))) S) (ha : ∀ x ∈ a, sOk x) (hb : ∀ x ∈ b, sOk x) : oNe (.lst (plD a)) (.lst (plD b)) S Q := eqLS (Q := fun d S => match d with
  | .bl b => Q (.bl (!b)) S
  | _ => False) h ha hb
/-- a road over all places -/
def sp_k16_whole (W : Addr) : DSp := fun ds S Q E => ∃ (ps : List Str) (L : List (Str × Str)) (r : List Str), ds = [.tup [.tf (plD ps), .tf (L.map prD)], .tup (plD r)] ∧ (∀ x ∈ ps, sOk x) ∧ ps.length ≤ 1000 ∧ L.length ≤ 1000 ∧ r.Perm ps ∧ (∀ i a b, r[i]? = some a → r[i + 1]? = some b → (a, b) ∈ L) ∧ (∀ t ∈ L, t.1 ∈ ps ∧ t.2 ∈ ps) ∧ Q (.bl true) S
def w_k16_whole (W : Addr) : WS := (wSeq (wIfS (wOr (wNot (wB (wCall (cIsi (.ty "tuple") (fTy "tuple" [])) (wCons (wV 1) (wCons (wC (.ty "tuple")) wNil))))) (wB (wO oNe (wCall cSorted (wCons (wV 1) wNil)) (wCall cSorted (wCons (wO oIx (wV 0) (wC (.int 0))) wNil))))) (wRet (wC (.bl false))) wNext)
    (wRet (wCall cAll (wCons (wLcP (wRng2 (wCons (wC (.int 1)) (wCons (wCall cLen (wCons (wV 1) wNil)) wNil))) (.n 2) wYes (wO oIn (wTup (wCons (wO oIx (wV 1) (wO oSub (wV 2) (wC (.int 1)))) (wCons (wO oIx (wV 1) (wV 2)) wNil))) (wO oIx (wV 0) (wC (.int 1)))) [2]) wNil))))
theorem pure_k16_whole (W : Addr) : ∀ ds S Q E, sp_k16_whole W ds S Q E → w_k16_whole W (endsOf Q) (startD ["_law_net", "_law_row", "_law_k"] ds) S := by
  rintro ds S Q E ⟨ps, L, r, rfl, hs, hl, hL, pm, st, hLs, q⟩
  have hrl := pm.length_eq
  have hrs : ∀ x ∈ r, sOk x := fun x hx => hs x (pm.mem_iff.mp hx)
  refine xFn ?_
  show w_k16_whole W _ [some _, some _, none] S
  unfold w_k16_whole
  and_intros
  refine srtS (ss := r) rfl fun a pa sa => ?_
  and_intros
  refine ixTup at0 ?_
  and_intros
  refine srtS (ss := ps) (d := .tf (plD ps)) rfl fun b pb sb => ?_
  have e : a = b := sorted_uniq (pa.trans (pm.trans pb.symm)) (sortedS_pw sa) (sortedS_pw sb)
  subst e
  have has : ∀ x ∈ a, sOk x := fun x hx => hs x (pb.mem_iff.mp hx)
  refine neLSz ?_ has has
  rw [decide_eq_true (rfl : a = a)]
  refine isNB rfl ?_
  and_intros
  refine lcM (List.range (r.length - 1)) (fun i : Nat => D.int ((i : Nat) + 1 : Int)) (fun _ => .bl true) ?_ (by rw [List.length_range]; omega) (fun i hi S' e2 => ?_) ?_
  · and_intros
    refine ⟨⟨by omega, by omega, by omega, by omega⟩, ?_⟩
    exact srcX (rangeN1 _)
  · have hi' := List.mem_range.mp hi
    have g1 := List.getElem?_eq_getElem (show i < r.length by omega)
    have g2 := List.getElem?_eq_getElem (show i + 1 < r.length by omega)
    (simp only [prD, putNT, wipeD, putAll, List.set_cons_zero, List.set_cons_succ, List.length_cons, List.length_nil, true_and]; and_intros)
    rw [show ((i : Int) + 1 - 1) = ((i : Nat) : Int) by omega, show ((i : Int) + 1) = ((i + 1 : Nat) : Int) by omega]
    refine ixTup (atM (l := r) (f := D.str) g1) ?_
    and_intros
    refine ixTup (atM (l := r) (f := D.str) g2) ?_
    and_intros
    refine ixTup at1 ?_
    refine inPrs ?_ (hrs _ (List.mem_of_getElem? g1)) (hrs _ (List.mem_of_getElem? g2)) fun t ht => ⟨hs _ (hLs t ht).1, hs _ (hLs t ht).2⟩
    rw [decide_eq_true (st _ _ _ g1 g2)]
    exact ⟨rfl, rfl⟩
  and_intros
  rw [show ((List.range (r.length - 1)).all fun _ => true) = true from List.all_eq_true.mpr fun _ _ => rfl]
  exact cl q
/-! ### numbers compared -/
def nD (n : Nat) : D := .int (n : Nat)
theorem eqNs : ∀ ns : List Nat, EqPs (ns.map nD) (ns.map nD) true
  | [] => EqPs.nil
  | n :: ns => by
    have h := EqPs.cons (EqP.n n n) (eqNs ns)
    rw [decide_eq_true rfl] at h
    exact h
theorem pyNs : ∀ ns : List Nat, pyDs (ns.map nD) = some (ns.map fun n => PyData.int (n : Nat))
  | [] => rfl
  | n :: ns => by
    show (pyD (nD n)).bind (fun p => (pyDs (ns.map nD)).map fun ps => p :: ps) = _
    rw [pyNs ns]
    rfl
theorem eqNsT {x y : D} {ns : List Nat} (e1 : x = .tup (ns.map nD) ∨ x = .tf (ns.map nD)) (e2 : y = .tup (ns.map nD) ∨ y = .tf (ns.map nD)) : EqP x y true := by
  have hd : ∀ ps, pyDs (ns.map nD) = some ps → PyData.depthAll ps ≤ 8 := fun ps e => by
    rw [pyNs] at e
    rw [← Option.some.inj e]
    have := depAll (f := fun n : Nat => PyData.int (n : Nat)) (n := 0) (xs := ns) fun x _ => by simp [PyData.depth]
    omega
  exact EqP.tup e1 e2 (eqNs ns) hd hd
theorem colsD_nD {ps : List Str} {P : List (Str × Str)} : colsD ps P = (ps.map (colF P)).map nD := by
  unfold colsD
  rw [List.map_map]
  rfl
theorem cols_row {ps : List Str} {P : List (Str × Str)} (hc : ∀ {k : Nat} {v : Str}, ps[k]? = some v → colF P v = k + 1) : ps.map (colF P) = (List.range ps.length).map fun k => k + 1 := by
  refine List.ext_getElem? fun k => ?_
  rw [List.getElem?_map, List.getElem?_map]
  by_cases hk : k < ps.length
  · have h := List.getElem?_eq_getElem hk
    rw [h, List.getElem?_range hk]
    show some _ = some _
    rw [hc h]
  · rw [List.getElem?_eq_none (by omega), List.getElem?_eq_none (by rw [List.length_range]; omega)]
    rfl
end
section
open PySem PySem.Spec PyProof.Rows
theorem getL {α : Type} {xs : List α} {x : α} (h : xs[xs.length - 1]? = some x) : xs.getLast? = some x := by rw [List.getLast?_eq_getElem?]; exact h
section
variable {ps : List Str} {x0 xl : Str} {T : List (Str × Str)}
theorem web_shut (nm : NamesOk ps) (h1 : ps.length ≤ 40) (h3 : 3 ≤ ps.length) (g0 : ps[0]? = some x0) (gl : ps[ps.length - 1]? = some xl) (pm : T.Perm (rowS ps ++ [(xl, x0)])) : WebOk ps T := by
  have w := web_rowS nm (by omega) h1 (List.Perm.refl (rowS ps))
  refine ⟨by omega, h1, nm.1, nm.2, by rw [pm.length_eq, List.length_append, rowS_len, List.length_singleton]; omega, fun t ht => ?_, pm.symm.nodup ?_⟩
  · rcases List.mem_append.mp (pm.mem_iff.mp ht) with ht | ht
    · exact w.tie t ht
    · rw [List.mem_singleton.mp ht]
      refine ⟨List.mem_of_getElem? gl, List.mem_of_getElem? g0, fun e => ?_⟩
      have e : xl = x0 := e
      rw [e] at gl
      have := nodup_ix nm.2 g0 gl
      omega
  · refine List.nodup_append.mpr ⟨rowS_nd nm.2, by simp, fun u hu v hv e => ?_⟩
    rw [List.mem_singleton] at hv
    rw [hv] at e
    rw [e] at hu
    obtain ⟨k, k1, k2⟩ := mem_rowS.mp hu
    have e1 := nodup_ix nm.2 k1 gl
    have := (List.getElem?_eq_some_iff.mp k2).1
    omega
theorem part_shut (nm : NamesOk ps) (h3 : 3 ≤ ps.length) (g0 : ps[0]? = some x0) (gl : ps[ps.length - 1]? = some xl) (pm : T.Perm (rowS ps)) : partT (T ++ [(xl, x0)]) = T := by
  have up : ∀ t ∈ T, List.idxOf t.1 ps < List.idxOf t.2 ps := fun t ht => row_up nm.2 (pm.mem_iff.mp ht)
  have nup : ¬ List.idxOf xl ps < List.idxOf x0 ps := by rw [idx_of nm.2 g0, idx_of nm.2 gl]; omega
  have rch : Rch T x0 xl := row_rch (fun t ht => pm.mem_iff.mpr ht) (ps.length - 2) 0 x0 xl g0 (by rw [show 0 + (ps.length - 2) + 1 = ps.length - 1 by omega]; exact gl)
  rw [part_up (f := fun v => List.idxOf v ps) fun i t ht => ?_]
  · unfold upL
    rw [List.filter_append, List.filter_cons_of_neg (by simpa using nup), List.filter_nil, List.append_nil]
    exact upL_all (f := fun v => List.idxOf v ps) up
  · by_cases hi : i < T.length
    · rw [List.getElem?_append_left hi] at ht
      exact .inl (up t (List.mem_of_getElem? ht))
    · have hl := (List.getElem?_eq_some_iff.mp ht).1
      rw [List.length_append, List.length_singleton] at hl
      have e : i = T.length := by omega
      subst e
      rw [List.getElem?_append_right (Nat.le_refl _), Nat.sub_self] at ht
      cases ht
      refine .inr ⟨nup, ?_⟩
      rw [List.take_left', upL_all (f := fun v => List.idxOf v ps) up]
      · exact rch
      · rfl
/-- the last place ahead -/
def ahead (ps : List Str) (xl : Str) : List Str := xl :: ps.take (ps.length - 1)
theorem ahead_get {k : Nat} (hk : k + 1 < ps.length) : (ahead ps xl)[k + 1]? = ps[k]? := by
  unfold ahead
  rw [List.getElem?_cons_succ, List.getElem?_take_of_lt (by omega)]
theorem ahead_perm (h0 : 0 < ps.length) (gl : ps[ps.length - 1]? = some xl) : (ahead ps xl).Perm ps := by
  have e : ps.take (ps.length - 1) ++ [xl] = ps := by
    have h := List.take_add_one (l := ps) (i := ps.length - 1)
    rw [gl, show ps.length - 1 + 1 = ps.length by omega, List.take_length] at h
    exact h.symm
  unfold ahead
  have := List.perm_append_singleton xl (ps.take (ps.length - 1))
  rw [e] at this
  exact this.symm
theorem ahead_len (h0 : 0 < ps.length) : (ahead ps xl).length = ps.length := by
  unfold ahead
  rw [List.length_cons, List.length_take]
  omega
theorem part_first (nm : NamesOk ps) (h3 : 3 ≤ ps.length) (g0 : ps[0]? = some x0) (gl : ps[ps.length - 1]? = some xl) :
    (∀ {k : Nat} {v : Str}, (ahead ps xl)[k]? = some v → colF (partT ((xl, x0) :: rowS ps)) v = k + 1) := by
  have pm := ahead_perm (by omega) gl
  have nd : (ahead ps xl).Nodup := pm.symm.nodup nm.2
  have ia : ∀ {k : Nat} {v : Str}, (ahead ps xl)[k]? = some v → List.idxOf v (ahead ps xl) = k := fun h => idx_of nd h
  have fl : List.idxOf xl (ahead ps xl) = 0 := ia (k := 0) rfl
  have fk : ∀ {k : Nat} {v : Str}, k + 1 < ps.length → ps[k]? = some v → List.idxOf v (ahead ps xl) = k + 1 := fun h1 h2 => ia (by rw [ahead_get h1]; exact h2)
  have f0 := fk (by omega) g0
  have hup : ∀ i t, ((xl, x0) :: rowS ps)[i]? = some t → i + 1 < ps.length → List.idxOf t.1 (ahead ps xl) < List.idxOf t.2 (ahead ps xl) := by
    intro i t ht hi
    cases i with
    | zero =>
      cases ht
      show List.idxOf xl _ < List.idxOf x0 _
      omega
    | succ i =>
      rw [List.getElem?_cons_succ] at ht
      obtain ⟨k1, k2⟩ := rowS_get ht
      rw [fk (by omega) k1, fk (by omega) k2]
      omega
  have hmem : ∀ {i : Nat} {t : Str × Str} {j : Nat}, ((xl, x0) :: rowS ps)[i]? = some t → i + 1 < ps.length → i < j → t ∈ upL (fun v => List.idxOf v (ahead ps xl)) (((xl, x0) :: rowS ps).take j) := fun ht hi hj =>
    mem_upL.mpr ⟨List.mem_of_getElem? (by rw [List.getElem?_take_of_lt hj]; exact ht), hup _ _ ht hi⟩
  have rgt : ∀ {k : Nat} {u v : Str}, ps[k]? = some u → ps[k + 1]? = some v → ((xl, x0) :: rowS ps)[k + 1]? = some (u, v) := fun {k u v} h1 h2 => by
    have hl := (List.getElem?_eq_some_iff.mp h2).1
    rw [List.getElem?_cons_succ]
    unfold rowS
    rw [List.getElem?_map, List.getElem?_range (by omega)]
    show some (ps.getD k Str.empty, ps.getD (k + 1) Str.empty) = _
    rw [List.getD_eq_getElem?_getD, List.getD_eq_getElem?_getD, h1, h2]
    rfl
  have hP : partT ((xl, x0) :: rowS ps) = upL (fun v => List.idxOf v (ahead ps xl)) ((xl, x0) :: rowS ps) := by
    refine part_up fun i t ht => ?_
    have hl := (List.getElem?_eq_some_iff.mp ht).1
    rw [List.length_cons, rowS_len] at hl
    by_cases hi : i + 1 < ps.length
    · exact .inl (hup i t ht hi)
    · have e : i = ps.length - 1 := by omega
      obtain ⟨j, rfl⟩ : ∃ j, i = j + 1 := ⟨i - 1, by omega⟩
      rw [List.getElem?_cons_succ] at ht
      obtain ⟨k1, k2⟩ := rowS_get ht
      rw [e] at k2
      have e2 : t.2 = xl := Option.some.inj (k2.symm.trans gl)
      have e1 := fk (by omega) k1
      refine .inr ⟨by rw [e2, fl, e1]; omega, ?_⟩
      rw [e2]
      refine Rch.head (b := x0) (hmem (i := 0) (t := (xl, x0)) rfl (by omega) (by omega)) ?_
      refine row_rch (ps := ps.take (ps.length - 1)) (fun u hu => ?_) (j - 1) 0 x0 t.1 (by rw [List.getElem?_take_of_lt (by omega)]; exact g0) (by rw [List.getElem?_take_of_lt (by omega), show 0 + (j - 1) + 1 = j by omega]; exact k1)
      obtain ⟨k, m1, m2⟩ := mem_rowS.mp (show (u.1, u.2) ∈ rowS _ from hu)
      have hk := (List.getElem?_eq_some_iff.mp m2).1
      rw [List.length_take] at hk
      rw [List.getElem?_take_of_lt (by omega)] at m1 m2
      exact hmem (i := k + 1) (rgt m1 m2) (by omega) (by omega)
  intro k0 v0 hkv
  rw [hP]
  refine ord_col nd (fun t ht => (mem_upL (f := fun v => List.idxOf v (ahead ps xl)).mp ht).2) (fun k a b ha hb => ?_) hkv
  have hbl := (List.getElem?_eq_some_iff.mp hb).1
  rw [ahead_len (by omega)] at hbl
  rw [ahead_get (by omega)] at hb
  have z : ((xl, x0) :: rowS ps)[k]? = some (a, b) := by
    cases k with
    | zero =>
      have e1 : xl = a := Option.some.inj ha
      have e2 : x0 = b := Option.some.inj (g0.symm.trans hb)
      rw [← e1, ← e2]
      rfl
    | succ k =>
      rw [ahead_get (by omega)] at ha
      exact rgt ha hb
  exact mem_upL.mpr ⟨List.mem_of_getElem? z, hup k _ z (by omega)⟩
theorem cols_first (h0 : 0 < ps.length) (nm : NamesOk ps) (gl : ps[ps.length - 1]? = some xl) {P : List (Str × Str)} (hc : ∀ {k : Nat} {v : Str}, (ahead ps xl)[k]? = some v → colF P v = k + 1) : ps.map (colF P) = ((List.range (ps.length - 1)).map fun k => 2 + k) ++ [1] := by
  refine List.ext_getElem? fun k => ?_
  rw [List.getElem?_map]
  by_cases hk : k + 1 < ps.length
  · have h := List.getElem?_eq_getElem (show k < ps.length by omega)
    rw [List.getElem?_append_left (by rw [List.length_map, List.length_range]; omega), List.getElem?_map, List.getElem?_range (by omega), h]
    show some _ = some _
    rw [hc (k := k + 1) (by rw [ahead_get hk]; exact h)]
    show some _ = some (2 + k)
    congr 1
    omega
  · by_cases e : k = ps.length - 1
    · subst e
      rw [gl, List.getElem?_append_right (by rw [List.length_map, List.length_range]; exact Nat.le_refl _), List.length_map, List.length_range, Nat.sub_self]
      show some _ = some _
      rw [hc (k := 0) (v := xl) rfl]
    · rw [List.getElem?_eq_none (by omega), List.getElem?_eq_none (by rw [List.length_append, List.length_map, List.length_range, List.length_singleton]; omega)]
      rfl
theorem eqTs {x y : D} {b : Bool} {S : SO} {Q : KD} {xs ys : List D} (e1 : x = .tup xs ∨ x = .tf xs) (e2 : y = .tup ys ∨ y = .tf ys) (h : EqP x y b) (q : Q (.bl b) S) : oEq x y S Q := h.tups (k := fun b => Q (.bl b) S) e1 e2 q
theorem road_whole {r : List Str} (nd : ps.Nodup) (R : RoadOk ps T r) (hl : r.length = ps.length) : r.Perm ps := perm_of_sub R.nd R.sub (by omega)
end
def sp_k16_row (W : Addr) : DSp := fun ds S Q E => ∃ (p : Addr) (a b c : Int) (ps : List Str), ds = [.obj p, .tf (plD ps)] ∧ S p = some (pan3 a b c) ∧ NamesOk ps ∧ 0 < ps.length ∧ ps.length ≤ 40 ∧ ∀ a' b' c', Q (.bl true) (S.set p (pan3 a' b' c'))
def w_k16_row (W : Addr) : WS := (wSeq (wAsg (wCall cLen (wCons (wV 1) wNil)) (gV 2))
    (wSeq (wAsg (wLcP (wRng1 (wCons (wO oSub (wV 2) (wC (.int 1))) wNil)) (.n 11) wYes (wTup (wCons (wO oIx (wV 1) (wV 11)) (wCons (wO oIx (wV 1) (wO oAdd (wV 11) (wC (.int 1)))) wNil))) [11]) (gV 3))
    (wSeq (wPar 4 5 (wCons (wCall cTupleF (wCons (wLcP (wRng1 (wCons (wV 2) wNil)) (.n 11) wYes (wO oAdd (wV 11) (wC (.int 1))) [11]) wNil)) (wCons (wTup (wCons (wO oIx (wV 1) (wU oNeg (wC (.int 1)))) (wCons (wO oIx (wV 1) (wC (.int 0))) wNil))) wNil)))
    (wSeq (wAsg (wMakeF W (sp_Web_init W) [] (wCons (wV 1) (wCons (wFn (sp_k16_mixed W) [] (wCons (wV 0) (wCons (wV 3) wNil))) wNil))) (gV 6))
    (wSeq (wIfS (wB (wO oNe (wLst (wCons (wFn (sp_colouringU W) [] (wCons (wV 6) wNil)) (wCons (wFn (sp_long_roadU W) [] (wCons (wV 6) wNil)) wNil))) (wLst (wCons (wV 4) (wCons (wV 1) wNil))))) (wRet (wC (.bl false))) wNext)
    (wSeq (wIfS (wB (wO oLt (wV 2) (wC (.int 3)))) (wRet (wC (.bl true))) wNext)
    (wSeq (wPar 7 8 (wCons (wMakeF W (sp_Web_init W) [] (wCons (wV 1) (wCons (wO oAddF (wFn (sp_k16_mixed W) [] (wCons (wV 0) (wCons (wV 3) wNil))) (wTup (wCons (wV 5) wNil))) wNil))) (wCons (wTup (wCons (wV 1) (wCons (wO oAddF (wCall cTupleF (wCons (wV 3) wNil)) (wTup (wCons (wV 5) wNil))) wNil))) wNil)))
    (wSeq (wIfS (wOr (wB (wO oNe (wFn (sp_colouringU W) [] (wCons (wV 7) wNil)) (wV 4))) (wNot (wB (wFn (sp_k16_whole W) [] (wCons (wV 8) (wCons (wFn (sp_long_roadU W) [] (wCons (wV 7) wNil)) wNil)))))) (wRet (wC (.bl false))) wNext)
    (wSeq (wAsg (wMakeF W (sp_Web_init W) [] (wCons (wV 1) (wCons (wO oAddF (wTup (wCons (wV 5) wNil)) (wCall cTupleF (wCons (wV 3) wNil))) wNil))) (gV 9))
    (wSeq (wAsg (wCall cTupleF (wCons (wO oAdd (wLcP (wRng1 (wCons (wO oSub (wV 2) (wC (.int 1))) wNil)) (.n 11) wYes (wO oAdd (wC (.int 2)) (wV 11)) [11]) (wLst (wCons (wC (.int 1)) wNil))) wNil)) (gV 10))
    (wRet (wAndV (wO oEq (wFn (sp_colouringU W) [] (wCons (wV 9) wNil)) (wV 10)) (wFn (sp_k16_whole W) [] (wCons (wV 8) (wCons (wFn (sp_long_roadU W) [] (wCons (wV 9) wNil)) wNil)))))))))))))))
theorem pure_k16_row (W : Addr) : ∀ ds S Q E, sp_k16_row W ds S Q E → w_k16_row W (endsOf Q) (startD ["_law_cup_here", "_law_folk_here", "_law_many", "_law_pairs", "_law_numbers", "_law_last", "_law_here", "_law_shut", "_law_net", "_law_first_here", "_law_due", "_law_k"] ds) S := by
  rintro ds S Q E ⟨p, a, b, c, ps, rfl, hp, nm, h0, h40, q⟩
  have hs : ∀ x ∈ ps, sOk x := fun x hx => name_sOk (nm.1 x hx)
  have hpl : (plD ps).length = ps.length := List.length_map ..
  refine xFn ?_
  show w_k16_row W _ [some _, some _, none, none, none, none, none, none, none, none, none, none] S
  unfold w_k16_row
  have g0 := getD_get (ts := ps) h0
  have gl := getD_get (ts := ps) (i := ps.length - 1) (by omega)
  generalize hx0 : ps.getD 0 Str.empty = x0 at g0
  generalize hxl : ps.getD (ps.length - 1) Str.empty = xl at gl
  and_intros
  refine lcM (List.range (ps.length - 1)) (fun k : Nat => D.int (k : Nat)) (fun k => prD (ps.getD k Str.empty, ps.getD (k + 1) Str.empty)) ?_ (by rw [List.length_range]; omega) (fun k hk S' e => ?_) ?_
  · and_intros
    refine ⟨by omega, by omega, ?_⟩
    rw [show ((ps.length : Nat) : Int) - 1 = ((ps.length - 1 : Nat) : Int) by omega]
    exact srcR
  · have hk := List.mem_range.mp hk
    (simp only [prD, putNT, wipeD, putAll, List.set_cons_zero, List.set_cons_succ, List.length_cons, List.length_nil, true_and]; and_intros)
    refine ixTf (atM (l := ps) (f := D.str) (getD_get (by omega))) ?_
    and_intros
    rw [show ((k : Int) + 1) = ((k + 1 : Nat) : Int) by omega]
    refine ixTf (atM (l := ps) (f := D.str) (getD_get (by omega))) ?_
    and_intros
    exact ⟨rfl, rfl⟩
  rw [show (List.range (ps.length - 1)).map (fun k => prD (ps.getD k Str.empty, ps.getD (k + 1) Str.empty)) = (rowS ps).map prD by unfold rowS; rw [List.map_map]; rfl]
  and_intros
  refine lcM (List.range ps.length) (fun k : Nat => D.int (k : Nat)) (fun k => nD (k + 1)) ?_ (by rw [List.length_range]; omega) (fun k hk S' e => ?_) ?_
  · and_intros
    refine rng1N (k := ps.length) (by omega) ?_
    exact srcR
  · (simp only [prD, putNT, wipeD, putAll, List.set_cons_zero, List.set_cons_succ, List.length_cons, List.length_nil, true_and]; and_intros)
    exact ⟨rfl, rfl⟩
  rw [show (List.range ps.length).map (fun k => nD (k + 1)) = ((List.range ps.length).map fun k => k + 1).map nD by rw [List.map_map]; rfl]
  and_intros
  refine ixTf (atI_last (y := .str xl) (by unfold plD; rw [List.getLast?_map, getL gl]; rfl)) ?_
  and_intros
  refine ixTf (atM (l := ps) (f := D.str) (k := 0) g0) ?_
  and_intros
  refine ⟨p, a, b, c, rowS ps, rfl, hp, by rw [rowS_len]; omega, fun T a b c pm => ?_⟩
  and_intros
  have ok := web_rowS nm h0 h40 pm
  refine mkWeb ok ?_
  and_intros
  have up : ∀ t ∈ T, List.idxOf t.1 ps < List.idxOf t.2 ps := fun t ht => row_up nm.2 (pm.mem_iff.mp ht)
  have hcol : ∀ {U : List (Str × Str)}, U.Perm (rowS ps) → ∀ {k : Nat} {v : Str}, ps[k]? = some v → colF U v = k + 1 := fun pu => ord_col nm.2 (fun t ht => row_up nm.2 (pu.mem_iff.mp ht)) fun k a b ha hb => pu.mem_iff.mpr (mem_rowS.mpr ⟨k, ha, hb⟩)
  refine ⟨ps, T, _, rfl, .inl rfl, ok, ?_⟩
  rw [part_all (f := fun v => List.idxOf v ps) up, colsD_nD, cols_row (hcol pm)]
  and_intros
  refine ⟨ps, T, _, rfl, .inl rfl, ok, fun r er R hl => ?_⟩
  rw [part_all (f := fun v => List.idxOf v ps) up, ord_top (List.Perm.refl ps) h0 (hcol pm)] at hl
  have er := row_only nm.2 (fun t ht => pm.mem_iff.mp ht) R hl
  and_intros
  have hrow : EqPs [.tup (((List.range ps.length).map fun k => k + 1).map nD), .tup (plD r)] [.tf (((List.range ps.length).map fun k => k + 1).map nD), .tf (plD ps)] true := by
    have h := EqPs.cons (eqNsT (ns := (List.range ps.length).map fun k => k + 1) (.inl rfl) (.inr rfl)) (EqPs.cons (EqP.row (xs := r) (ys := ps) (.inl rfl) (.inr rfl) (fun x hx => hs x (by rw [← er]; exact hx)) hs) EqPs.nil)
    rw [decide_eq_true er] at h
    exact h
  refine neLs hrow ?_
  refine isNB rfl ?_
  and_intros
  refine isD (fun hlt => ?_) fun hlt => ?_
  · and_intros
    exact cl (q a b c)
  have h3 : 3 ≤ ps.length := by omega
  and_intros
  refine ⟨p, a, b, c, rowS ps, rfl, set_same, by rw [rowS_len]; omega, fun T2 a b c pm2 => ?_⟩
  rw [set_set]
  and_intros
  have rl : (rowS ps).length = ps.length - 1 := rowS_len
  have eLast : [D.tup [.str xl, .str x0]] = [(xl, x0)].map prD := rfl
  have ok2 : WebOk ps (T2 ++ [(xl, x0)]) := web_shut nm h40 h3 g0 gl (pm2.append_right _)
  have lne : (rowS ps).map prD ≠ [] := fun e => by
    have := congrArg List.length e
    rw [List.length_map, List.length_nil] at this
    omega
  have lne2 : T2.map prD ≠ [] := fun e => by
    have := congrArg List.length e
    rw [List.length_map, List.length_nil, pm2.length_eq] at this
    omega
  refine ⟨_, _, rfl, rfl, lne2, by simp, by rw [List.length_map, pm2.length_eq]; simp; omega, ?_⟩
  rw [eLast, ← List.map_append]
  and_intros
  refine mkWeb ok2 ?_
  and_intros
  refine ⟨_, _, rfl, rfl, lne, by simp, by rw [List.length_map]; simp; omega, ?_⟩
  rw [eLast, ← List.map_append]
  and_intros
  refine ⟨ps, _, _, rfl, .inl rfl, ok2, ?_⟩
  rw [part_shut nm h3 g0 gl pm2, colsD_nD, cols_row (hcol pm2)]
  refine neTs (xs := ((List.range ps.length).map fun k => k + 1).map nD) (ys := ((List.range ps.length).map fun k => k + 1).map nD) (.inl rfl) (.inr rfl) (eqNsT (.inl rfl) (.inr rfl)) ?_
  refine isNB rfl ?_
  and_intros
  have hLs : ∀ t ∈ rowS ps ++ [(xl, x0)], t.1 ∈ ps ∧ t.2 ∈ ps := fun t ht => by
    have z := (web_shut nm h40 h3 g0 gl (List.Perm.refl _)).tie t ht
    exact ⟨z.1, z.2.1⟩
  refine ⟨ps, _, _, rfl, .inl rfl, ok2, fun r2 er2 R2 hl2 => ?_⟩
  rw [part_shut nm h3 g0 gl pm2, ord_top (List.Perm.refl ps) h0 (hcol pm2)] at hl2
  and_intros
  refine ⟨ps, rowS ps ++ [(xl, x0)], r2, rfl, hs, by omega, by rw [List.length_append, rl]; simp; omega, road_whole nm.2 R2 hl2, fun i a b ha hb => (pm2.append_right _).mem_iff.mp (R2.step i a b ha hb), hLs, ?_⟩
  refine isYB rfl ?_
  and_intros
  refine ⟨_, _, rfl, rfl, by simp, lne, by rw [List.length_map]; simp; omega, ?_⟩
  rw [eLast, ← List.map_append]
  and_intros
  have ok3 : WebOk ps ([(xl, x0)] ++ rowS ps) := web_shut nm h40 h3 g0 gl List.perm_append_comm
  refine mkWeb ok3 ?_
  and_intros
  refine lcM (List.range (ps.length - 1)) (fun k : Nat => D.int (k : Nat)) (fun k => nD (2 + k)) ?_ (by rw [List.length_range]; omega) (fun k hk S' e => ?_) ?_
  · and_intros
    refine ⟨by omega, by omega, ?_⟩
    rw [show ((ps.length : Nat) : Int) - 1 = ((ps.length - 1 : Nat) : Int) by omega]
    exact srcR
  · (simp only [prD, putNT, wipeD, putAll, List.set_cons_zero, List.set_cons_succ, List.length_cons, List.length_nil, true_and]; and_intros)
    refine ⟨rfl, ?_⟩
    show D.int ((2 + k : Nat) : Int) = D.int (2 + (k : Nat))
    congr 1
  and_intros
  refine lAdd ?_ (by rw [List.length_map, List.length_range]; simp; omega)
  and_intros
  have first := @part_first ps x0 xl nm h3 g0 gl
  rw [show (List.range (ps.length - 1)).map (fun k => nD (2 + k)) ++ [D.int 1] = (((List.range (ps.length - 1)).map fun k => 2 + k) ++ [1]).map nD by rw [List.map_append, List.map_map]; rfl]
  refine ⟨ps, _, _, rfl, .inl rfl, ok3, ?_⟩
  rw [colsD_nD, show [(xl, x0)] ++ rowS ps = (xl, x0) :: rowS ps from rfl, cols_first h0 nm gl first]
  and_intros
  refine eqTs (xs := (((List.range (ps.length - 1)).map fun k => 2 + k) ++ [1]).map nD) (ys := (((List.range (ps.length - 1)).map fun k => 2 + k) ++ [1]).map nD) (.inl rfl) (.inr rfl) (eqNsT (.inl rfl) (.inr rfl)) ?_
  refine isYB rfl ?_
  and_intros
  refine ⟨ps, (xl, x0) :: rowS ps, _, rfl, .inl rfl, ok3, fun r3 er3 R3 hl3 => ?_⟩
  rw [ord_top (ahead_perm h0 gl) (by rw [ahead_len h0]; exact h0) first, ahead_len h0] at hl3
  and_intros
  refine ⟨ps, rowS ps ++ [(xl, x0)], r3, rfl, hs, by omega, by rw [List.length_append, rl]; simp; omega, road_whole nm.2 R3 hl3, fun i a b ha hb => ?_, hLs, cl (q a b c)⟩
  have z := R3.step i _ _ ha hb
  rcases List.mem_cons.mp z with z | z
  · exact List.mem_append_right _ (by rw [z]; simp)
  · exact List.mem_append_left _ z
end
section
open PySem PySem.Spec PyProof.Rows
theorem clrK_ixZ : ∀ {ps : List Str} {ns : List Int} {i : Nat} {x : Str} {k : Int}, ps.Nodup → ps[i]? = some x → ns[i]? = some k → dget (clrK ps ns) (.str x) = some (.int k)
  | [], _, i, x, k, _, h, _ => by simp at h
  | _ :: _, [], i, x, k, _, _, h => by simp at h
  | p :: ps, n :: ns, 0, x, k, nd, h1, h2 => by
    cases h1
    cases h2
    show dget ((D.str p, D.int n) :: clrK ps ns) (.str p) = _
    rw [dget_cons, if_pos rfl]
  | p :: ps, n :: ns, i + 1, x, k, nd, h1, h2 => by
    obtain ⟨n1, n2⟩ := List.nodup_cons.mp nd
    have h1 : ps[i]? = some x := h1
    show dget ((D.str p, D.int n) :: clrK ps ns) (.str x) = _
    rw [dget_cons, if_neg (fun e => n1 (by
      injection e with e
      rw [e]
      exact List.mem_of_getElem? h1))]
    exact clrK_ixZ n2 h1 h2
instance : InjD nD := ⟨fun a b e => by
  unfold nD at e
  injection e with e
  omega⟩
/-! ### a star, and a web without ties -/
theorem xMakeFK {C : Addr} {sp : DSp} {dds : List D} {t : WA} {sd : SD} {S : SO} {Q : KD} (h : t sd S fun xs S1 => MkD C sp (xs ++ dds) S1 Q) : wMakeF C sp dds t sd S Q := h
theorem mkWebK {W : Addr} {ps : List Str} {S : SO} {Q : KD} (ok : WebOk ps []) (h : Q (webK W ps) S) : MkD W (sp_Web_init0 W) ([.tf (plD ps)] ++ [.kt []]) S Q := fun p hp => ⟨p, ps, rfl, set_same, ok, rfl, fsK ps, set_same, by rw [set_set, del_set hp]; exact h⟩
def starS (ps : List Str) (c : Str) : List (Str × Str) := (ps.filter fun x => !decide (x = c)).map fun x => (c, x)
section
variable {ps : List Str} {c : Str} {T : List (Str × Str)}
theorem mem_star {t : Str × Str} : t ∈ starS ps c ↔ t.1 = c ∧ t.2 ∈ ps ∧ t.2 ≠ c := by
  unfold starS
  rw [List.mem_map]
  constructor
  · rintro ⟨x, hx, rfl⟩
    obtain ⟨h1, h2⟩ := List.mem_filter.mp hx
    exact ⟨rfl, h1, by simpa using h2⟩
  · rintro ⟨h1, h2, h3⟩
    exact ⟨t.2, List.mem_filter.mpr ⟨h2, by simpa using h3⟩, by rw [← h1]⟩
theorem star_len : (starS ps c).length ≤ ps.length := by
  unfold starS
  rw [List.length_map]
  exact List.length_filter_le ..
theorem web_star (nm : NamesOk ps) (h0 : 0 < ps.length) (h1 : ps.length ≤ 40) (hc : c ∈ ps) (pm : T.Perm (starS ps c)) : WebOk ps T := by
  refine ⟨h0, h1, nm.1, nm.2, by rw [pm.length_eq]; have := star_len (ps := ps) (c := c); omega, fun t ht => ?_, pm.symm.nodup ?_⟩
  · obtain ⟨e, m, n⟩ := mem_star.mp (pm.mem_iff.mp ht)
    exact ⟨by rw [e]; exact hc, m, fun z => n (by rw [← z, e])⟩
  · exact nodup_map_on (fun x _ y _ e => congrArg Prod.snd e) (nm.2.filter _)
def gS (c : Str) (v : Str) : Nat := if v = c then 1 else 2
theorem star_up (pm : T.Perm (starS ps c)) : ∀ t ∈ T, gS c t.1 + 1 ≤ gS c t.2 := fun t ht => by
  obtain ⟨e, m, n⟩ := mem_star.mp (pm.mem_iff.mp ht)
  unfold gS
  rw [if_pos e, if_neg n]
  omega
theorem star_part (pm : T.Perm (starS ps c)) : partT T = T := part_all (f := gS c) fun t ht => by have := star_up pm t ht; omega
theorem star_col (pm : T.Perm (starS ps c)) {v : Str} (hv : v ∈ ps) : colF T v = gS c v := by
  refine col_eq (fun v => by unfold gS; split <;> omega) (star_up pm) ?_
  unfold gS
  by_cases e : v = c
  · rw [if_pos e]
    exact .one v
  · rw [if_neg e]
    exact .step (.one c) (pm.mem_iff.mpr (mem_star.mpr ⟨rfl, hv, e⟩))
theorem star_top (nm : NamesOk ps) (h0 : 0 < ps.length) (hc : c ∈ ps) (pm : T.Perm (starS ps c)) : topC ps T = min 2 ps.length := by
  by_cases h1 : ps.length = 1
  · refine top_eq (fun v hv => ?_) hc ?_
    · rw [star_col pm hv]
      obtain ⟨x, rfl⟩ := List.length_eq_one_iff.mp h1
      rw [List.mem_singleton] at hv hc
      unfold gS
      rw [if_pos (by rw [hv, hc])]
      omega
    · rw [star_col pm hc]
      unfold gS
      rw [if_pos rfl, h1]
      rfl
  · obtain ⟨w, hw, hne⟩ : ∃ w ∈ ps, w ≠ c := by
      have a0 := List.getElem?_eq_getElem (show 0 < ps.length by omega)
      have a1 := List.getElem?_eq_getElem (show 1 < ps.length by omega)
      by_cases e : ps[0] = c
      · refine ⟨_, List.mem_of_getElem? a1, fun z => ?_⟩
        rw [z, ← e] at a1
        have := nodup_ix nm.2 a0 a1
        omega
      · exact ⟨_, List.mem_of_getElem? a0, e⟩
    refine top_eq (fun v hv => ?_) hw ?_
    · rw [star_col pm hv]
      unfold gS
      split <;> omega
    · rw [star_col pm hw]
      unfold gS
      rw [if_neg hne]
      omega
theorem star_cols (nm : NamesOk ps) {s : Nat} (hs : ps[s]? = some c) (pm : T.Perm (starS ps c)) : ps.map (colF T) = (List.range ps.length).map fun k => if k = s then 1 else 2 := by
  refine List.ext_getElem? fun k => ?_
  rw [List.getElem?_map, List.getElem?_map]
  by_cases hk : k < ps.length
  · have h := List.getElem?_eq_getElem hk
    rw [h, List.getElem?_range hk]
    show some _ = some (if k = s then 1 else 2)
    rw [star_col pm (List.mem_of_getElem? h)]
    unfold gS
    by_cases e : k = s
    · subst e
      rw [h] at hs
      rw [if_pos rfl, if_pos (Option.some.inj hs)]
    · rw [if_neg e, if_neg fun z => e (by rw [z] at h; exact nodup_ix nm.2 h hs)]
  · rw [List.getElem?_eq_none (by omega), List.getElem?_eq_none (by rw [List.length_range]; omega)]
    rfl
theorem bare_col {v : Str} : colF [] v = 1 := col_eq (g := fun _ => 1) (fun _ => Nat.le_refl _) (fun t ht => by cases ht) (.one v)
theorem bare_top (h0 : 0 < ps.length) : topC ps [] = 1 := top_eq (fun v _ => by rw [bare_col]; exact Nat.le_refl _) (List.mem_of_getElem? (getD_get h0)) bare_col
theorem bare_cols : ps.map (colF []) = List.replicate ps.length 1 := by
  rw [← List.map_const']
  exact List.map_congr_left fun v _ => bare_col
end
theorem any_rep {n : Nat} {z : Int} (h : n ≤ 1000) : Any 1000 (.tup (List.replicate n (.int z))) := .tup _ (by rw [List.length_replicate]; exact h) fun x hx => by
  rw [List.eq_of_mem_replicate hx]
  exact .int _
theorem rep_ints {n : Nat} {z : Int} : List.replicate n (D.int z) = (List.replicate n z).map D.int := by rw [List.map_replicate]
def sp_k16_star (W : Addr) : DSp := fun ds S Q E => ∃ (p : Addr) (a b c : Int) (ps : List Str), ds = [.obj p, .tf (plD ps)] ∧ S p = some (pan3 a b c) ∧ NamesOk ps ∧ 0 < ps.length ∧ ps.length ≤ 40 ∧ ∀ a' b' c', Q (.bl true) (S.set p (pan3 a' b' c'))
def w_k16_star (W : Addr) : WS := (wSeq (wAsg (wFn (sp_cup_sip W) [] (wCons (wV 0) (wCons (wCall cLen (wCons (wV 1) wNil)) wNil))) (gV 2))
    (wSeq (wAsg (wMakeF W (sp_Web_init W) [] (wCons (wV 1) (wCons (wFn (sp_k16_mixed W) [] (wCons (wV 0) (wCons (wLcP (wSeqI (wV 1)) (.n 6) (wB (wO oNe (wV 6) (wO oIx (wV 1) (wV 2)))) (wTup (wCons (wO oIx (wV 1) (wV 2)) (wCons (wV 6) wNil))) [6]) wNil))) wNil))) (gV 3))
    (wSeq (wAsg (wCall cTupleF (wCons (wLcP (wRng1 (wCons (wCall cLen (wCons (wV 1) wNil)) wNil)) (.n 7) wYes (wIf (wB (wO oEq (wV 7) (wV 2))) (wC (.int 1)) (wC (.int 2))) [7]) wNil)) (gV 4))
    (wSeq (wIfS (wOr (wB (wO oNe (wFn (sp_colouringU W) [] (wCons (wV 3) wNil)) (wV 4))) (wB (wO oNe (wCall cLen (wCons (wFn (sp_long_roadU W) [] (wCons (wV 3) wNil)) wNil)) (wCall cMin (wCons (wC (.int 2)) (wCons (wCall cLen (wCons (wV 1) wNil)) wNil)))))) (wRet (wC (.bl false))) wNext)
    (wSeq (wAsg (wMakeF W (sp_Web_init0 W) [.kt []] (wCons (wV 1) wNil)) (gV 5))
    (wSeq (wIfS (wOr (wB (wO oNe (wFn (sp_colouringU W) [] (wCons (wV 5) wNil)) (wO oMulU (wTup (wCons (wC (.int 1)) wNil)) (wCall cLen (wCons (wV 1) wNil))))) (wB (wO oNe (wCall cLen (wCons (wFn (sp_long_roadU W) [] (wCons (wV 5) wNil)) wNil)) (wC (.int 1))))) (wRet (wC (.bl false))) wNext)
    (wRet (wAndV (wFn (sp_is_colouringU W) [] (wCons (wV 5) (wCons (wO oMulU (wTup (wCons (wC (.int 7)) wNil)) (wCall cLen (wCons (wV 1) wNil))) wNil))) (wFn (sp_is_colouringU W) [] (wCons (wV 3) (wCons (wCall cTupleF (wCons (wLcP (wSeqI (wV 4)) (.n 6) wYes (wO oSub (wC (.int 9)) (wV 6)) [6]) wNil)) wNil)))))))))))
theorem pure_k16_star (W : Addr) : ∀ ds S Q E, sp_k16_star W ds S Q E → w_k16_star W (endsOf Q) (startD ["_law_cup_here", "_law_folk_here", "_law_spot", "_law_here", "_law_numbers", "_law_bare", "_law_each", "_law_k"] ds) S := by
  rintro ds S Q E ⟨p, a, b, c, ps, rfl, hp, nm, h0, h40, q⟩
  have hs : ∀ x ∈ ps, sOk x := fun x hx => name_sOk (nm.1 x hx)
  refine xFn ?_
  show w_k16_star W _ [some _, some _, none, none, none, none, none, none] S
  unfold w_k16_star
  and_intros
  refine sipN (m := ps.length) hp h0 (by omega) fun s hs_ a b c => ?_
  have gc := getD_get (ts := ps) hs_
  generalize hcc : ps.getD s Str.empty = ce at gc
  have hcm := List.mem_of_getElem? gc
  and_intros
  refine lcF ps D.str (fun x => !decide (x = ce)) (fun x => prD (ce, x)) (by and_intros; exact srcT) (by omega) (fun x hx S' e => ?_) ?_
  · (simp only [prD, putNT, wipeD, putAll, List.set_cons_zero, List.set_cons_succ, List.length_cons, List.length_nil, true_and]; and_intros)
    refine ixTf (atM (l := ps) (f := D.str) gc) ?_
    and_intros
    refine lcKI fun h => ?_
    and_intros
    refine ixTf (atM (l := ps) (f := D.str) gc) ?_
    and_intros
    exact ⟨rfl, rfl⟩
  rw [show ((ps.filter fun x => !decide (x = ce)).map fun x => prD (ce, x)) = (starS ps ce).map prD by unfold starS; rw [List.map_map]; rfl]
  refine ⟨p, a, b, c, starS ps ce, rfl, set_same, by have := star_len (ps := ps) (c := ce); omega, fun T a b c pm => ?_⟩
  rw [set_set]
  and_intros
  have ok := web_star nm h0 h40 hcm pm
  refine mkWeb ok ?_
  and_intros
  refine lcM (List.range ps.length) (fun k : Nat => D.int (k : Nat)) (fun k => nD (if k = s then 1 else 2)) ?_ (by rw [List.length_range]; omega) (fun k hk S' e => ?_) ?_
  · and_intros
    refine rng1N (k := ps.length) (by omega) ?_
    exact srcR
  · (simp only [prD, putNT, wipeD, putAll, List.set_cons_zero, List.set_cons_succ, List.length_cons, List.length_nil, true_and]; and_intros)
    refine isD (fun h => ?_) fun h => ?_
    · and_intros
      refine ⟨rfl, ?_⟩
      rw [if_pos (by omega)]
      rfl
    · and_intros
      refine ⟨rfl, ?_⟩
      rw [if_neg (by omega)]
      rfl
  rw [show (List.range ps.length).map (fun k => nD (if k = s then 1 else 2)) = ((List.range ps.length).map fun k => if k = s then 1 else 2).map nD by rw [List.map_map]; rfl]
  obtain ⟨ns, ens⟩ : ∃ ns, ns = (List.range ps.length).map fun k => if k = s then 1 else 2 := ⟨_, rfl⟩
  have hns : ns.length = ps.length := by rw [ens, List.length_map, List.length_range]
  have hnm : ∀ n ∈ ns, n = 1 ∨ n = 2 := fun n hn => by
    rw [ens] at hn
    obtain ⟨k, _, rfl⟩ := List.mem_map.mp hn
    split <;> simp
  rw [← ens]
  and_intros
  refine ⟨ps, T, _, rfl, .inl rfl, ok, ?_⟩
  rw [star_part pm, colsD_nD, star_cols nm gc pm, ← ens]
  refine neTs (xs := ns.map nD) (ys := ns.map nD) (.inl rfl) (.inr rfl) (eqNsT (.inl rfl) (.inr rfl)) ?_
  refine isNB rfl ?_
  and_intros
  refine ⟨ps, T, _, rfl, .inl rfl, ok, fun r er R hl => ?_⟩
  rw [star_part pm, star_top nm h0 hcm pm] at hl
  and_intros
  refine .inl ?_
  show oNe _ (.int (min 2 ((ps.length : Nat) : Int))) _ _
  rw [show min 2 ((ps.length : Nat) : Int) = ((min 2 ps.length : Nat) : Int) by omega, ← hl]
  and_intros
  refine isND (fun _ => ?_) fun h => absurd rfl h
  and_intros
  have ok0 : WebOk ps [] := ⟨h0, h40, nm.1, nm.2, by simp, by simp, by simp⟩
  refine xMakeFK ?_
  and_intros
  refine mkWebK ok0 ?_
  and_intros
  refine ⟨ps, [], _, rfl, .inr ⟨rfl, rfl⟩, ok0, ?_⟩
  rw [show partT [] = [] from rfl, colsD_nD, bare_cols]
  and_intros
  refine mulU (n := ps.length) (by omega) (by omega) ?_
  refine neTs (xs := (List.replicate ps.length 1).map nD) (ys := (List.replicate ps.length 1).map nD) (.inl rfl) (.inl (by rw [List.map_replicate]; rfl)) (eqNsT (.inl rfl) (.inl (by rw [List.map_replicate]; rfl))) ?_
  refine isNB rfl ?_
  and_intros
  refine ⟨ps, [], _, rfl, .inr ⟨rfl, rfl⟩, ok0, fun r0 er0 R0 hl0 => ?_⟩
  rw [show partT [] = [] from rfl, bare_top h0] at hl0
  and_intros
  rw [hl0]
  refine isNB rfl ?_
  and_intros
  refine mulU (n := ps.length) (by omega) (by omega) ?_
  and_intros
  refine ⟨ps, [], _, .tup (List.replicate ps.length (.int 7)), 1000, rfl, .inr ⟨rfl, rfl⟩, ok0, any_rep (by omega), by decide, fun b7 hb7 => ?_⟩
  have e7 : b7 = true := hb7.mpr ⟨List.replicate ps.length 7, by rw [← rep_ints]; rfl, List.length_replicate, fun n hn => by rw [List.eq_of_mem_replicate hn]; decide, fun t ht => by cases ht⟩
  refine isYB e7 ?_
  and_intros
  refine lcM ns nD (fun n => D.int (9 - (n : Nat))) (by and_intros; exact srcT) (by omega) (fun n hn S' e => ?_) ?_
  · (simp only [prD, putNT, wipeD, putAll, List.set_cons_zero, List.set_cons_succ, List.length_cons, List.length_nil, true_and]; and_intros)
    exact ⟨trivial, rfl, rfl⟩
  and_intros
  rw [show (ns.map fun n => D.int (9 - (n : Nat))) = (ns.map fun n : Nat => (9 - (n : Nat) : Int)).map D.int by rw [List.map_map]; rfl]
  refine ⟨ps, T, _, .tf ((ns.map fun n : Nat => (9 - (n : Nat) : Int)).map D.int), 1000, rfl, .inl rfl, ok, .tf _ (by rw [List.length_map, List.length_map]; omega) (fun x hx => by
    obtain ⟨n, _, rfl⟩ := List.mem_map.mp hx
    exact .int _), by decide, fun b9 hb9 => ?_⟩
  have e9 : b9 = true := hb9.mpr ⟨ns.map fun n : Nat => (9 - (n : Nat) : Int), rfl, by rw [List.length_map]; exact hns, fun n hn => by
    obtain ⟨k, hk, rfl⟩ := List.mem_map.mp hn
    rcases hnm k hk with rfl | rfl <;> decide, fun t ht => by
    obtain ⟨t1, t2, t3⟩ := mem_star.mp (pm.mem_iff.mp ht)
    obtain ⟨k, hk⟩ := List.mem_iff_getElem?.mp t2
    have hkl := (List.getElem?_eq_some_iff.mp hk).1
    have hks : k ≠ s := fun z => t3 (by rw [z] at hk; exact Option.some.inj (hk.symm.trans gc))
    have n1 : (ns.map fun n : Nat => (9 - (n : Nat) : Int))[s]? = some 8 := by
      rw [ens, List.getElem?_map, List.getElem?_map, List.getElem?_range hs_]
      show some _ = some _
      simp
    have n2 : (ns.map fun n : Nat => (9 - (n : Nat) : Int))[k]? = some 7 := by
      rw [ens, List.getElem?_map, List.getElem?_map, List.getElem?_range hkl]
      show some (9 - (((if k = s then 1 else 2) : Nat) : Int)) = some _
      rw [if_neg hks]
      rfl
    have d1 := clrK_ixZ nm.2 gc n1
    have d2 := clrK_ixZ nm.2 hk n2
    unfold apartK
    rw [t1, d1, d2]
    rfl⟩
  rw [e9]
  exact cl (q a b c)
end
section
open PySem PySem.Spec PyProof.Rows
/-! ### all ties both ways -/
def blockS (ps : List Str) (a : Str) : List (Str × Str) := (ps.filter fun x => !decide (x = a)).map fun x => (a, x)
def bothS (ps qs : List Str) : List (Str × Str) := (qs.map (blockS ps)).flatten
section
variable {ps : List Str}
theorem mem_block {a : Str} {t : Str × Str} : t ∈ blockS ps a ↔ t.1 = a ∧ t.2 ∈ ps ∧ t.2 ≠ a := mem_star
theorem mem_both {qs : List Str} {t : Str × Str} : t ∈ bothS ps qs ↔ t.1 ∈ qs ∧ t.2 ∈ ps ∧ t.2 ≠ t.1 := by
  unfold bothS
  rw [List.mem_flatten]
  constructor
  · rintro ⟨l, hl, ht⟩
    obtain ⟨a, ha, rfl⟩ := List.mem_map.mp hl
    obtain ⟨h1, h2, h3⟩ := mem_block.mp ht
    exact ⟨by rw [h1]; exact ha, h2, by rw [h1]; exact h3⟩
  · rintro ⟨h1, h2, h3⟩
    exact ⟨_, List.mem_map.mpr ⟨_, h1, rfl⟩, mem_block.mpr ⟨rfl, h2, h3⟩⟩
theorem both_snoc {qs : List Str} {a : Str} : bothS ps (qs ++ [a]) = bothS ps qs ++ blockS ps a := by
  unfold bothS
  rw [List.map_append, List.flatten_append]
  simp
theorem both_len : ∀ qs : List Str, (bothS ps qs).length ≤ qs.length * ps.length
  | [] => by simp [bothS]
  | a :: qs => by
    have h := both_len qs
    have hb : (blockS ps a).length ≤ ps.length := star_len
    show (blockS ps a ++ bothS ps qs).length ≤ _
    rw [List.length_append, List.length_cons, Nat.succ_mul]
    omega
theorem both_pw (nd : ps.Nodup) : (bothS ps ps).Pairwise fun u v => List.idxOf u.1 ps ≤ List.idxOf v.1 ps := by
  unfold bothS
  refine List.pairwise_flatten.mpr ⟨fun l hl => ?_, ?_⟩
  · obtain ⟨a, _, rfl⟩ := List.mem_map.mp hl
    refine List.pairwise_iff_getElem.mpr fun i j hi hj _ => ?_
    rw [(mem_block.mp (List.getElem_mem hi)).1, (mem_block.mp (List.getElem_mem hj)).1]
    exact Nat.le_refl _
  · rw [List.pairwise_map]
    refine List.pairwise_iff_getElem.mpr fun i j hi hj hij u hu v hv => ?_
    rw [(mem_block.mp hu).1, (mem_block.mp hv).1, idx_of nd (List.getElem?_eq_getElem hi), idx_of nd (List.getElem?_eq_getElem hj)]
    omega
theorem both_nd (nd : ps.Nodup) : (bothS ps ps).Nodup := by
  unfold bothS
  refine List.pairwise_flatten.mpr ⟨fun l hl => ?_, ?_⟩
  · obtain ⟨a, _, rfl⟩ := List.mem_map.mp hl
    exact nodup_map_on (fun x _ y _ e => congrArg Prod.snd e) (nd.filter _)
  · rw [List.pairwise_map]
    refine List.pairwise_iff_getElem.mpr fun i j hi hj hij u hu v hv e => ?_
    have e1 : ps[i] = ps[j] := by rw [← (mem_block.mp hu).1, ← (mem_block.mp hv).1, e]
    have := nodup_ix nd (List.getElem?_eq_getElem hi) (by rw [e1]; exact List.getElem?_eq_getElem hj)
    omega
theorem web_both (nm : NamesOk ps) (h0 : 0 < ps.length) (h1 : ps.length ≤ 10) : WebOk ps (bothS ps ps) := by
  refine ⟨h0, by omega, nm.1, nm.2, ?_, fun t ht => ?_, both_nd nm.2⟩
  · have := both_len (ps := ps) ps
    have := Nat.mul_le_mul h1 h1
    omega
  · obtain ⟨a, b, c⟩ := mem_both.mp ht
    exact ⟨a, b, fun e => c e.symm⟩
theorem part_both (nd : ps.Nodup) : partT (bothS ps ps) = upL (fun v => List.idxOf v ps) (bothS ps ps) := by
  refine part_up fun i t ht => ?_
  obtain ⟨g1, g2, g3⟩ := mem_both.mp (List.mem_of_getElem? ht)
  by_cases up : List.idxOf t.1 ps < List.idxOf t.2 ps
  · exact .inl up
  · refine .inr ⟨up, .one (mem_upL.mpr ⟨?_, ?_⟩)⟩
    · have hm : (t.2, t.1) ∈ bothS ps ps := mem_both.mpr ⟨g2, g1, fun e => g3 e.symm⟩
      obtain ⟨j, hj⟩ := List.mem_iff_getElem?.mp hm
      have hil := (List.getElem?_eq_some_iff.mp ht).1
      have hjl := (List.getElem?_eq_some_iff.mp hj).1
      have lt : List.idxOf t.2 ps < List.idxOf t.1 ps := by
        rcases Nat.lt_or_ge (List.idxOf t.2 ps) (List.idxOf t.1 ps) with h | h
        · exact h
        · exfalso
          refine g3 ?_
          have e : List.idxOf t.2 ps = List.idxOf t.1 ps := by omega
          have l1 := List.idxOf_lt_length_of_mem g1
          have l2 := List.idxOf_lt_length_of_mem g2
          have a1 := List.getElem_idxOf l1
          have a2 := List.getElem_idxOf l2
          rw [← a1, ← a2]
          congr 1
      rcases Nat.lt_or_ge j i with h | h
      · exact List.mem_of_getElem? (i := j) (by rw [List.getElem?_take_of_lt h]; exact hj)
      · exfalso
        rcases Nat.lt_or_eq_of_le h with h | h
        · have := List.pairwise_iff_getElem.mp (both_pw nd) i j hil hjl h
          rw [List.getElem?_eq_getElem hil] at ht
          rw [List.getElem?_eq_getElem hjl] at hj
          rw [Option.some.inj ht, Option.some.inj hj] at this
          have this : List.idxOf t.1 ps ≤ List.idxOf t.2 ps := this
          omega
        · subst h
          rw [ht] at hj
          have e := congrArg Prod.fst (Option.some.inj hj)
          exact g3 e.symm
    · show List.idxOf t.2 ps < List.idxOf t.1 ps
      rcases Nat.lt_or_ge (List.idxOf t.2 ps) (List.idxOf t.1 ps) with h | h
      · exact h
      · exfalso
        refine g3 ?_
        have e : List.idxOf t.2 ps = List.idxOf t.1 ps := by omega
        have a1 := List.getElem_idxOf (List.idxOf_lt_length_of_mem g1)
        have a2 := List.getElem_idxOf (List.idxOf_lt_length_of_mem g2)
        rw [← a1, ← a2]
        congr 1
theorem both_col (nd : ps.Nodup) {k : Nat} {v : Str} (h : ps[k]? = some v) : colF (partT (bothS ps ps)) v = k + 1 := by
  rw [part_both nd]
  refine ord_col nd (fun t ht => (mem_upL (f := fun v => List.idxOf v ps).mp ht).2) (fun k a b ha hb => ?_) h
  have ea := idx_of nd ha
  have eb := idx_of nd hb
  refine mem_upL.mpr ⟨mem_both.mpr ⟨List.mem_of_getElem? ha, List.mem_of_getElem? hb, fun e => ?_⟩, ?_⟩
  · have e : b = a := e
    rw [e] at hb
    have := nodup_ix nd ha hb
    omega
  · show List.idxOf a ps < List.idxOf b ps
    omega
end
def sp_k16_both (W : Addr) : DSp := fun ds S Q E => ∃ (p : Addr) (ps : List Str), ds = [.obj p, .tf (plD ps)] ∧ NamesOk ps ∧ 0 < ps.length ∧ ps.length ≤ 10 ∧ Q (.bl true) S
def w_k16_both (W : Addr) : WS := (wSeq (wAsg (wLst wNil) (gV 2))
    (wSeq (wFor (wSeqI (wV 1)) (gV 3) (wAsg (wO oAdd (wV 2) (wLcP (wSeqI (wV 1)) (.n 6) (wB (wO oNe (wV 6) (wV 3))) (wTup (wCons (wV 3) (wCons (wV 6) wNil))) [6])) (gV 2)))
    (wSeq (wPar 4 5 (wCons (wMakeF W (sp_Web_init W) [] (wCons (wV 1) (wCons (wCall cTupleF (wCons (wV 2) wNil)) wNil))) (wCons (wCall cLen (wCons (wV 1) wNil)) wNil)))
    (wSeq (wIfS (wOr (wB (wO oNe (wFn (sp_colouringU W) [] (wCons (wV 4) wNil)) (wCall cTupleF (wCons (wLcP (wRng1 (wCons (wV 5) wNil)) (.n 7) wYes (wO oAdd (wV 7) (wC (.int 1))) [7]) wNil)))) (wNot (wB (wFn (sp_k16_whole W) [] (wCons (wTup (wCons (wV 1) (wCons (wCall cTupleF (wCons (wV 2) wNil)) wNil))) (wCons (wFn (sp_long_roadU W) [] (wCons (wV 4) wNil)) wNil)))))) (wRet (wC (.bl false))) wNext)
    (wRet (wIf (wB (wO oGt (wV 5) (wC (.int 1)))) (wNotV (wFn (sp_is_colouringU W) [] (wCons (wV 4) (wCons (wO oMulU (wTup (wCons (wC (.int 1)) wNil)) (wV 5)) wNil)))) (wFn (sp_is_colouringU W) [] (wCons (wV 4) (wCons (wTup (wCons (wC (.int 1)) wNil)) wNil)))))))))
theorem pure_k16_both (W : Addr) : ∀ ds S Q E, sp_k16_both W ds S Q E → w_k16_both W (endsOf Q) (startD ["_law_cup_here", "_law_folk_here", "_law_pairs", "_law_one", "_law_here", "_law_many", "_law_two", "_law_k"] ds) S := by
  rintro ds S Q E ⟨p, ps, rfl, nm, h0, h10, q⟩
  have hs : ∀ x ∈ ps, sOk x := fun x hx => name_sOk (nm.1 x hx)
  refine xFn ?_
  show w_k16_both W _ [some _, some _, none, none, none, none, none, none] S
  unfold w_k16_both
  and_intros
  have ok := web_both nm h0 h10
  refine forJ ps D.str (fun z : List (Str × Str) × Option D => [some (.obj p), some (.tf (plD ps)), some (.lst (z.1.map prD)), z.2, none, none, none, none]) (fun _ => S) (fun i z => z.1 = bothS ps (ps.take i)) ([], none) rfl ?_ ?_
  · rintro i x ⟨l, x3⟩ hx e
    have e : l = bothS ps (ps.take i) := e
    have hi := (List.getElem?_eq_some_iff.mp hx).1
    have hll : l.length ≤ 100 := by
      rw [e]
      have h1 := both_len (ps := ps) (ps.take i)
      have h2 : (ps.take i).length ≤ 10 := by rw [List.length_take]; omega
      have := Nat.mul_le_mul h2 h10
      omega
    and_intros
    refine lcF ps D.str (fun y => !decide (y = x)) (fun y => prD (x, y)) (by and_intros; exact srcT) (by omega) (fun y hy S' e2 => ?_) ?_
    · (simp only [prD, putNT, wipeD, putAll, List.set_cons_zero, List.set_cons_succ, List.length_cons, List.length_nil, true_and]; and_intros)
      refine lcKI fun h => ?_
      and_intros
      exact ⟨rfl, rfl⟩
    rw [show ((ps.filter fun y => !decide (y = x)).map fun y => prD (x, y)) = (blockS ps x).map prD by unfold blockS; rw [List.map_map]; rfl]
    refine lAdd ?_ (by rw [List.length_map, List.length_map]; have : (blockS ps x).length ≤ ps.length := star_len; show l.length + _ ≤ _; omega)
    rw [← List.map_append]
    and_intros
    refine .of (l ++ blockS ps x, some (.str x)) ?_
    show l ++ blockS ps x = _
    rw [List.take_add_one, hx, e]
    exact both_snoc.symm
  · rintro ⟨l, x3⟩ e
    have e : l = bothS ps (ps.take ps.length) := e
    rw [List.take_length] at e
    subst e
    have hL : (bothS ps ps).length ≤ 100 := by
      have h1 := both_len (ps := ps) ps
      have := Nat.mul_le_mul h10 h10
      omega
    and_intros
    refine mkWeb ok ?_
    and_intros
    refine ⟨ps, _, _, rfl, .inl rfl, ok, ?_⟩
    rw [colsD_nD, cols_row (both_col nm.2)]
    and_intros
    refine lcM (List.range ps.length) (fun k : Nat => D.int (k : Nat)) (fun k => nD (k + 1)) ?_ (by rw [List.length_range]; omega) (fun k hk S' e => ?_) ?_
    · and_intros
      refine rng1N (k := ps.length) (by omega) ?_
      exact srcR
    · (simp only [prD, putNT, wipeD, putAll, List.set_cons_zero, List.set_cons_succ, List.length_cons, List.length_nil, true_and]; and_intros)
      exact ⟨rfl, rfl⟩
    rw [show (List.range ps.length).map (fun k => nD (k + 1)) = ((List.range ps.length).map fun k => k + 1).map nD by rw [List.map_map]; rfl]
    and_intros
    refine neTs (xs := ((List.range ps.length).map fun k => k + 1).map nD) (ys := ((List.range ps.length).map fun k => k + 1).map nD) (.inl rfl) (.inr rfl) (eqNsT (.inl rfl) (.inr rfl)) ?_
    refine isNB rfl ?_
    and_intros
    refine ⟨ps, _, _, rfl, .inl rfl, ok, fun r er R hl => ?_⟩
    rw [ord_top (List.Perm.refl ps) h0 (both_col nm.2)] at hl
    and_intros
    refine ⟨ps, bothS ps ps, r, rfl, hs, by omega, by omega, road_whole nm.2 R hl, R.step, fun t ht => ⟨(ok.tie t ht).1, (ok.tie t ht).2.1⟩, ?_⟩
    refine isYB rfl ?_
    and_intros
    refine isD (fun h1 => ?_) fun h1 => ?_
    · and_intros
      refine mulU (n := ps.length) (by omega) (by omega) ?_
      and_intros
      refine ⟨ps, bothS ps ps, _, .tup (List.replicate ps.length (.int 1)), 1000, rfl, .inl rfl, ok, any_rep (by omega), by decide, fun b1 hb1 => ?_⟩
      have e1 : b1 = false := by
        cases b1 with
        | false => rfl
        | true =>
          obtain ⟨ns, n1, n2, n3, n4⟩ := hb1.mp rfl
          have en : List.replicate ps.length (1 : Int) = ns := ints_injk (by rw [← rep_ints]; exact Option.some.inj n1)
          have a0 := List.getElem?_eq_getElem (show 0 < ps.length by omega)
          have a1 := List.getElem?_eq_getElem (show 1 < ps.length by omega)
          have d0 := clrK_ixZ (ns := List.replicate ps.length 1) nm.2 a0 (k := 1) (by rw [List.getElem?_replicate, if_pos (by omega)])
          have d1 := clrK_ixZ (ns := List.replicate ps.length 1) nm.2 a1 (k := 1) (by rw [List.getElem?_replicate, if_pos (by omega)])
          have h := n4 (ps[0], ps[1]) (mem_both.mpr ⟨List.mem_of_getElem? a0, List.mem_of_getElem? a1, fun z => by
            have z : ps[1] = ps[0] := z
            rw [z] at a1
            have := nodup_ix nm.2 a0 a1
            omega⟩)
          subst en
          unfold apartK at h
          rw [d0, d1] at h
          exact absurd h (by decide)
      rw [e1]
      refine isNB rfl ?_
      exact cl q
    · and_intros
      have l1 : ps.length = 1 := by omega
      have be : bothS ps ps = [] := by
        obtain ⟨x, rfl⟩ := List.length_eq_one_iff.mp l1
        refine List.eq_nil_iff_forall_not_mem.mpr fun t ht => ?_
        obtain ⟨m1, m2, m3⟩ := mem_both.mp ht
        rw [List.mem_singleton] at m1 m2
        exact m3 (by rw [m1, m2])
      refine ⟨ps, bothS ps ps, _, .tup [.int 1], 1000, rfl, .inl rfl, ok, any_rep (n := 1) (by omega), by decide, fun b1 hb1 => ?_⟩
      have e1 : b1 = true := hb1.mpr ⟨[1], rfl, by rw [l1]; rfl, by simp, fun t ht => by rw [be] at ht; cases ht⟩
      rw [e1]
      exact cl q
def sp_k16_right (W : Addr) : DSp := fun ds S Q E => ∃ (p : Addr) (a b c : Int), ds = [.obj p] ∧ S p = some (pan3 a b c) ∧ ∀ a' b' c', Q (.bl true) (S.set p (pan3 a' b' c'))
def w_k16_right (W : Addr) : WS := (wSeq (wIfS (wNot (wB (wFn (sp_k16_row W) [] (wCons (wV 0) (wCons (wFn (sp_cup_folk W) [] (wCons (wV 0) (wCons (wO oAdd (wC (.int 1)) (wFn (sp_cup_sip W) [] (wCons (wV 0) (wCons (wC (.int 40)) wNil)))) wNil))) wNil))))) (wRet (wC (.bl false))) wNext)
    (wRet (wAndV (wFn (sp_k16_star W) [] (wCons (wV 0) (wCons (wFn (sp_cup_folk W) [] (wCons (wV 0) (wCons (wO oAdd (wC (.int 1)) (wFn (sp_cup_sip W) [] (wCons (wV 0) (wCons (wC (.int 40)) wNil)))) wNil))) wNil))) (wFn (sp_k16_both W) [] (wCons (wV 0) (wCons (wFn (sp_cup_folk W) [] (wCons (wV 0) (wCons (wO oAdd (wC (.int 1)) (wFn (sp_cup_sip W) [] (wCons (wV 0) (wCons (wC (.int 10)) wNil)))) wNil))) wNil))))))
theorem pure_k16_right (W : Addr) : ∀ ds S Q E, sp_k16_right W ds S Q E → w_k16_right W (endsOf Q) (startD ["_law_cup_here"] ds) S := by
  rintro ds S Q E ⟨p, a, b, c, rfl, hp, q⟩
  refine xFn ?_
  show w_k16_right W _ [some _] S
  unfold w_k16_right
  and_intros
  refine sipN (m := 40) hp (by decide) (by decide) fun n1 h1 a b c => ?_
  and_intros
  rw [show (1 : Int) + (n1 : Nat) = ((1 + n1 : Nat) : Int) by omega]
  refine ⟨p, a, b, c, 1 + n1, rfl, set_same, by omega, fun ps a b c hl nm => ?_⟩
  rw [set_set]
  and_intros
  refine ⟨p, a, b, c, ps, rfl, set_same, nm, by omega, by omega, fun a b c => ?_⟩
  rw [set_set]
  refine isYB rfl ?_
  and_intros
  refine sipN (m := 40) set_same (by decide) (by decide) fun n2 h2 a b c => ?_
  rw [set_set]
  and_intros
  rw [show (1 : Int) + (n2 : Nat) = ((1 + n2 : Nat) : Int) by omega]
  refine ⟨p, a, b, c, 1 + n2, rfl, set_same, by omega, fun ps2 a b c hl2 nm2 => ?_⟩
  rw [set_set]
  and_intros
  refine ⟨p, a, b, c, ps2, rfl, set_same, nm2, by omega, by omega, fun a b c => ?_⟩
  rw [set_set]
  refine isYB rfl ?_
  and_intros
  refine sipN (m := 10) set_same (by decide) (by decide) fun n3 h3 a b c => ?_
  rw [set_set]
  and_intros
  rw [show (1 : Int) + (n3 : Nat) = ((1 + n3 : Nat) : Int) by omega]
  refine ⟨p, a, b, c, 1 + n3, rfl, set_same, by omega, fun ps3 a b c hl3 nm3 => ?_⟩
  rw [set_set]
  and_intros
  exact ⟨p, ps3, rfl, nm3, by omega, by omega, cl (q a b c)⟩
def sp_k16_law (W : Addr) : DSp := LawSp 63
def w_k16_law (W : Addr) : WS := (wRet (wCall cAll (wCons (wLcF (wRng1 (wCons (wCall cMax (wCons (wC (.int 2)) (wCons (wCall cMin (wCons (wCall cLen (wCons (wV 0) wNil)) (wCons (wC (.int 5)) wNil))) wNil))) wNil)) (.n 1) wYes (wFn (sp_k16_right W) [] (wCons (wFn (sp_cup_cup W) [] (wCons (wV 0) (wCons (wV 1) wNil))) wNil)) [1]) wNil)))
theorem pure_k16_law (W : Addr) : ∀ ds S Q E, sp_k16_law W ds S Q E → w_k16_law W (endsOf Q) (startD ["_law_script", "_law_k"] ds) S := pure_cup_lawN W 5 (by decide) fun p a b c S Q hp q => ⟨p, a, b, c, rfl, hp, q⟩
end
end L2.DL
namespace L2.DL
open PySem PySem.Spec PyProof.Rows
theorem len_is_name (W : Addr) : ∀ ds S Q E, sp_is_name W ds S Q E → ds.length = ["value"].length := by
  rintro ds S Q E ⟨_, rfl, _⟩
  rfl
theorem len_wrong_place (W : Addr) : ∀ ds S Q E, sp_wrong_place W ds S Q E → ds.length = ["values"].length := by
  rintro ds S Q E ⟨_, rfl, _⟩
  rfl
theorem len_is_pair (W : Addr) : ∀ ds S Q E, sp_is_pair W ds S Q E → ds.length = ["places", "value"].length := by
  rintro ds S Q E ⟨_, _, rfl, _⟩
  rfl
theorem len_wrong_tie (W : Addr) : ∀ ds S Q E, sp_wrong_tie W ds S Q E → ds.length = ["places", "values"].length := by
  rintro ds S Q E ⟨_, _, rfl, _⟩
  rfl
theorem len_check_places (W : Addr) : ∀ ds S Q E, sp_check_places W ds S Q E → ds.length = ["places"].length := by
  rintro ds S Q E ⟨_, rfl, _⟩
  rfl
theorem len_check_ties (W : Addr) : ∀ ds S Q E, sp_check_ties W ds S Q E → ds.length = ["places", "ties"].length := by
  rintro ds S Q E ⟨_, _, rfl, _⟩
  rfl
theorem len_Web_init (W : Addr) : ∀ ds S Q E, sp_Web_init W ds S Q E → ds.length = ["self", "places", "ties"].length := by
  rintro ds S Q E ⟨_, _, _, rfl, _⟩
  rfl
theorem len_wrong_tie0 (W : Addr) : ∀ ds S Q E, sp_wrong_tie0 W ds S Q E → ds.length = ["places", "values"].length := by
  rintro ds S Q E ⟨_, rfl, _⟩
  rfl
theorem len_check_ties0 (W : Addr) : ∀ ds S Q E, sp_check_ties0 W ds S Q E → ds.length = ["places", "ties"].length := by
  rintro ds S Q E ⟨_, rfl, _⟩
  rfl
theorem len_Web_init0 (W : Addr) : ∀ ds S Q E, sp_Web_init0 W ds S Q E → ds.length = ["self", "places", "ties"].length := by
  rintro ds S Q E ⟨_, _, rfl, _⟩
  rfl
theorem len_Web_lenU (W : Addr) : ∀ ds S Q E, sp_Web_lenU W ds S Q E → ds.length = ["self"].length := by
  rintro ds S Q E ⟨_, _, _, rfl, _⟩
  rfl
theorem len_check_webU (W : Addr) : ∀ ds S Q E, sp_check_webU W ds S Q E → ds.length = ["web"].length := by
  rintro ds S Q E ⟨_, _, _, rfl, _⟩
  rfl
theorem len_comes_to (W : Addr) : ∀ ds S Q E, sp_comes_to W ds S Q E → ds.length = ["leads", "begin", "end"].length := by
  rintro ds S Q E ⟨_, _, _, _, _, _, rfl, _⟩
  rfl
theorem len_ringless_partU (W : Addr) : ∀ ds S Q E, sp_ringless_partU W ds S Q E → ds.length = ["web"].length := by
  rintro ds S Q E ⟨_, _, _, rfl, _⟩
  rfl
theorem len_colours_by (W : Addr) : ∀ ds S Q E, sp_colours_by W ds S Q E → ds.length = ["leads"].length := by
  rintro ds S Q E ⟨_, _, rfl, _⟩
  rfl
theorem len_colouringU (W : Addr) : ∀ ds S Q E, sp_colouringU W ds S Q E → ds.length = ["web"].length := by
  rintro ds S Q E ⟨_, _, _, rfl, _⟩
  rfl
theorem len_long_roadU (W : Addr) : ∀ ds S Q E, sp_long_roadU W ds S Q E → ds.length = ["web"].length := by
  rintro ds S Q E ⟨_, _, _, rfl, _⟩
  rfl
theorem len_is_integerA (W : Addr) : ∀ ds S Q E, sp_is_integerA W ds S Q E → ds.length = ["value"].length := by
  rintro ds S Q E ⟨_, _, rfl, _⟩
  rfl
theorem len_is_colouringU (W : Addr) : ∀ ds S Q E, sp_is_colouringU W ds S Q E → ds.length = ["web", "value"].length := by
  rintro ds S Q E ⟨_, _, _, _, _, rfl, _⟩
  rfl
theorem len_cup_cup (W : Addr) : ∀ ds S Q E, sp_cup_cup W ds S Q E → ds.length = ["_law_script", "_law_k"].length := by
  rintro ds S Q E ⟨_, _, rfl, _⟩
  rfl
theorem len_cup_sip (W : Addr) : ∀ ds S Q E, sp_cup_sip W ds S Q E → ds.length = ["_law_cup_here", "_law_many"].length := by
  rintro ds S Q E ⟨_, _, _, _, _, rfl, _⟩
  rfl
theorem len_cup_folk (W : Addr) : ∀ ds S Q E, sp_cup_folk W ds S Q E → ds.length = ["_law_cup_here", "_law_many"].length := by
  rintro ds S Q E ⟨_, _, _, _, _, rfl, _⟩
  rfl
theorem len_k16_mixed (W : Addr) : ∀ ds S Q E, sp_k16_mixed W ds S Q E → ds.length = ["_law_cup_here", "_law_things"].length := by
  rintro ds S Q E ⟨_, _, _, _, _, rfl, _⟩
  rfl
theorem len_k16_whole (W : Addr) : ∀ ds S Q E, sp_k16_whole W ds S Q E → ds.length = ["_law_net", "_law_row"].length := by
  rintro ds S Q E ⟨_, _, _, rfl, _⟩
  rfl
theorem len_k16_row (W : Addr) : ∀ ds S Q E, sp_k16_row W ds S Q E → ds.length = ["_law_cup_here", "_law_folk_here"].length := by
  rintro ds S Q E ⟨_, _, _, _, _, rfl, _⟩
  rfl
theorem len_k16_star (W : Addr) : ∀ ds S Q E, sp_k16_star W ds S Q E → ds.length = ["_law_cup_here", "_law_folk_here"].length := by
  rintro ds S Q E ⟨_, _, _, _, _, rfl, _⟩
  rfl
theorem len_k16_both (W : Addr) : ∀ ds S Q E, sp_k16_both W ds S Q E → ds.length = ["_law_cup_here", "_law_folk_here"].length := by
  rintro ds S Q E ⟨_, _, rfl, _⟩
  rfl
theorem len_k16_right (W : Addr) : ∀ ds S Q E, sp_k16_right W ds S Q E → ds.length = ["_law_cup_here"].length := by
  rintro ds S Q E ⟨_, _, _, _, rfl, _⟩
  rfl
theorem len_k16_law (W : Addr) : ∀ ds S Q E, sp_k16_law W ds S Q E → ds.length = ["_law_script"].length := by
  rintro ds S Q E ⟨_, rfl, _⟩
  rfl
/-! ### the program by places -/
def topS (i : Nat) : Stmt := PySem.Challenge.pw_fewroads_k16_known_colourings.main.body.getD i (.Pass ⟨0, 0, 0, 0⟩)
abbrev s_is_name : Stmt := topS 4
theorem sc_is_name : FnScope ["value", "sign"] ["value"] (defScope s_is_name) := ⟨rfl, rfl, rfl, by decide +kernel, rfl, by decide +kernel, by decide +kernel⟩
abbrev s_wrong_place : Stmt := topS 14
theorem sc_wrong_place : FnScope ["values", "index", "value"] ["values"] (defScope s_wrong_place) := ⟨rfl, rfl, rfl, by decide +kernel, rfl, by decide +kernel, by decide +kernel⟩
abbrev s_is_pair : Stmt := topS 15
theorem sc_is_pair : FnScope ["places", "value", "place"] ["places", "value"] (defScope s_is_pair) := ⟨rfl, rfl, rfl, by decide +kernel, rfl, by decide +kernel, by decide +kernel⟩
abbrev s_wrong_tie : Stmt := topS 16
theorem sc_wrong_tie : FnScope ["places", "values", "seen", "index", "value"] ["places", "values"] (defScope s_wrong_tie) := ⟨rfl, rfl, rfl, by decide +kernel, rfl, by decide +kernel, by decide +kernel⟩
abbrev s_check_places : Stmt := topS 17
theorem sc_check_places : FnScope ["places", "wrong"] ["places"] (defScope s_check_places) := ⟨rfl, rfl, rfl, by decide +kernel, rfl, by decide +kernel, by decide +kernel⟩
abbrev s_check_ties : Stmt := topS 18
theorem sc_check_ties : FnScope ["places", "ties", "wrong"] ["places", "ties"] (defScope s_check_ties) := ⟨rfl, rfl, rfl, by decide +kernel, rfl, by decide +kernel, by decide +kernel⟩
abbrev s_Web_init : Stmt := inClass (topS 19) 0
theorem sc_Web_init : FnScope ["self", "places", "ties", "tie"] ["self", "places", "ties"] (defScope s_Web_init) := ⟨rfl, rfl, rfl, by decide +kernel, rfl, by decide +kernel, by decide +kernel⟩
abbrev s_wrong_tie0 : Stmt := topS 16
theorem sc_wrong_tie0 : FnScope ["places", "values", "seen", "index", "value"] ["places", "values"] (defScope s_wrong_tie0) := ⟨rfl, rfl, rfl, by decide +kernel, rfl, by decide +kernel, by decide +kernel⟩
abbrev s_check_ties0 : Stmt := topS 18
theorem sc_check_ties0 : FnScope ["places", "ties", "wrong"] ["places", "ties"] (defScope s_check_ties0) := ⟨rfl, rfl, rfl, by decide +kernel, rfl, by decide +kernel, by decide +kernel⟩
abbrev s_Web_init0 : Stmt := inClass (topS 19) 0
theorem sc_Web_init0 : FnScope ["self", "places", "ties", "tie"] ["self", "places", "ties"] (defScope s_Web_init0) := ⟨rfl, rfl, rfl, by decide +kernel, rfl, by decide +kernel, by decide +kernel⟩
abbrev s_Web_lenU : Stmt := inClass (topS 19) 10
theorem sc_Web_lenU : FnScope ["self"] ["self"] (defScope s_Web_lenU) := ⟨rfl, rfl, rfl, by decide +kernel, rfl, by decide +kernel, by decide +kernel⟩
abbrev s_check_webU : Stmt := topS 20
theorem sc_check_webU : FnScope ["web"] ["web"] (defScope s_check_webU) := ⟨rfl, rfl, rfl, by decide +kernel, rfl, by decide +kernel, by decide +kernel⟩
abbrev s_comes_to : Stmt := topS 22
theorem sc_comes_to : FnScope ["leads", "begin", "end", "seen", "waiting", "near"] ["leads", "begin", "end"] (defScope s_comes_to) := ⟨rfl, rfl, rfl, by decide +kernel, rfl, by decide +kernel, by decide +kernel⟩
abbrev s_ringless_partU : Stmt := topS 23
theorem sc_ringless_partU : FnScope ["web", "found", "first", "second", "place"] ["web"] (defScope s_ringless_partU) := ⟨rfl, rfl, rfl, by decide +kernel, rfl, by decide +kernel, by decide +kernel⟩
abbrev s_colours_by : Stmt := topS 24
theorem sc_colours_by : FnScope ["leads", "found", "turn", "place", "nears", "near"] ["leads"] (defScope s_colours_by) := ⟨rfl, rfl, rfl, by decide +kernel, rfl, by decide +kernel, by decide +kernel⟩
abbrev s_colouringU : Stmt := topS 25
theorem sc_colouringU : FnScope ["web", "found", "place"] ["web"] (defScope s_colouringU) := ⟨rfl, rfl, rfl, by decide +kernel, rfl, by decide +kernel, by decide +kernel⟩
abbrev s_long_roadU : Stmt := topS 27
theorem sc_long_roadU : FnScope ["web", "leads", "colours", "most", "road", "colour", "place"] ["web"] (defScope s_long_roadU) := ⟨rfl, rfl, rfl, by decide +kernel, rfl, by decide +kernel, by decide +kernel⟩
abbrev s_is_integerA : Stmt := topS 3
theorem sc_is_integerA : FnScope ["value"] ["value"] (defScope s_is_integerA) := ⟨rfl, rfl, rfl, by decide +kernel, rfl, by decide +kernel, by decide +kernel⟩
abbrev s_is_colouringU : Stmt := topS 26
theorem sc_is_colouringU : FnScope ["web", "value", "colours", "colour", "first", "second"] ["web", "value"] (defScope s_is_colouringU) := ⟨rfl, rfl, rfl, by decide +kernel, rfl, by decide +kernel, by decide +kernel⟩
abbrev s_cup_cup : Stmt := topS 29
theorem sc_cup_cup : FnScope ["_law_script", "_law_k", "_law_cell", "_law_mixed_here", "_law_each"] ["_law_script", "_law_k"] (defScope s_cup_cup) := ⟨rfl, rfl, rfl, by decide +kernel, rfl, by decide +kernel, by decide +kernel⟩
abbrev s_cup_sip : Stmt := topS 30
theorem sc_cup_sip : FnScope ["_law_cup_here", "_law_many", "_law_old", "_law_digit"] ["_law_cup_here", "_law_many"] (defScope s_cup_sip) := ⟨rfl, rfl, rfl, by decide +kernel, rfl, by decide +kernel, by decide +kernel⟩
abbrev s_cup_folk : Stmt := topS 31
theorem sc_cup_folk : FnScope ["_law_cup_here", "_law_many", "_law_start", "_law_menu", "_law_leap", "_law_letters", "_law_stem", "_law_heads", "_law_k"] ["_law_cup_here", "_law_many"] (defScope s_cup_folk) := ⟨rfl, rfl, rfl, by decide +kernel, rfl, by decide +kernel, by decide +kernel⟩
abbrev s_k16_mixed : Stmt := topS 32
theorem sc_k16_mixed : FnScope ["_law_cup_here", "_law_things", "_law_found", "_law_each"] ["_law_cup_here", "_law_things"] (defScope s_k16_mixed) := ⟨rfl, rfl, rfl, by decide +kernel, rfl, by decide +kernel, by decide +kernel⟩
abbrev s_k16_whole : Stmt := topS 33
theorem sc_k16_whole : FnScope ["_law_net", "_law_row", "_law_k"] ["_law_net", "_law_row"] (defScope s_k16_whole) := ⟨rfl, rfl, rfl, by decide +kernel, rfl, by decide +kernel, by decide +kernel⟩
abbrev s_k16_row : Stmt := topS 34
theorem sc_k16_row : FnScope ["_law_cup_here", "_law_folk_here", "_law_many", "_law_pairs", "_law_numbers", "_law_last", "_law_here", "_law_shut", "_law_net", "_law_first_here", "_law_due", "_law_k"] ["_law_cup_here", "_law_folk_here"] (defScope s_k16_row) := ⟨rfl, rfl, rfl, by decide +kernel, rfl, by decide +kernel, by decide +kernel⟩
abbrev s_k16_star : Stmt := topS 35
theorem sc_k16_star : FnScope ["_law_cup_here", "_law_folk_here", "_law_spot", "_law_here", "_law_numbers", "_law_bare", "_law_each", "_law_k"] ["_law_cup_here", "_law_folk_here"] (defScope s_k16_star) := ⟨rfl, rfl, rfl, by decide +kernel, rfl, by decide +kernel, by decide +kernel⟩
abbrev s_k16_both : Stmt := topS 36
theorem sc_k16_both : FnScope ["_law_cup_here", "_law_folk_here", "_law_pairs", "_law_one", "_law_here", "_law_many", "_law_two", "_law_k"] ["_law_cup_here", "_law_folk_here"] (defScope s_k16_both) := ⟨rfl, rfl, rfl, by decide +kernel, rfl, by decide +kernel, by decide +kernel⟩
abbrev s_k16_right : Stmt := topS 37
theorem sc_k16_right : FnScope ["_law_cup_here"] ["_law_cup_here"] (defScope s_k16_right) := ⟨rfl, rfl, rfl, by decide +kernel, rfl, by decide +kernel, by decide +kernel⟩
abbrev s_k16_law : Stmt := topS 38
theorem sc_k16_law : FnScope ["_law_script", "_law_k"] ["_law_script"] (defScope s_k16_law) := ⟨rfl, rfl, rfl, by decide +kernel, rfl, by decide +kernel, by decide +kernel⟩
abbrev s_g_places : Stmt := inClass (topS 19) 2
theorem sc_g_places : FnScope ["self"] ["self"] (defScope s_g_places) := ⟨rfl, rfl, rfl, by decide +kernel, rfl, by decide +kernel, by decide +kernel⟩
abbrev s_g_ties : Stmt := inClass (topS 19) 3
theorem sc_g_ties : FnScope ["self"] ["self"] (defScope s_g_ties) := ⟨rfl, rfl, rfl, by decide +kernel, rfl, by decide +kernel, by decide +kernel⟩
/-! ### what the top has written -/
structure Txt (P : Program) (K : PySem.W.Frag) (mg : Str → Option Value) where
  a_Web : Addr
  m_Web : mg "Web" = some (.ref a_Web)
  c_Web : Cls K a_Web
  n_marks : NoAttr K a_Web "marks"
  n_pairs : NoAttr K a_Web "pairs"
  n_row : NoAttr K a_Web "row"
  ins_Web : InsOk K a_Web
  kit0 : ∀ n ∈ tyNames, PySem.W.kitOne K (.type n) (.ref a_Web) = some false
  kit1 : PySem.W.kitOne K (.ref a_Web) (.ref a_Web) = some true
  a_is_name : Addr
  d_is_name : FuncData
  F_is_name : Fun K "is_name" "is_name" s_is_name a_is_name d_is_name
  m_is_name : mg "is_name" = some (.ref a_is_name)
  a_wrong_place : Addr
  d_wrong_place : FuncData
  F_wrong_place : Fun K "wrong_place" "wrong_place" s_wrong_place a_wrong_place d_wrong_place
  m_wrong_place : mg "wrong_place" = some (.ref a_wrong_place)
  a_is_pair : Addr
  d_is_pair : FuncData
  F_is_pair : Fun K "is_pair" "is_pair" s_is_pair a_is_pair d_is_pair
  m_is_pair : mg "is_pair" = some (.ref a_is_pair)
  a_wrong_tie : Addr
  d_wrong_tie : FuncData
  F_wrong_tie : Fun K "wrong_tie" "wrong_tie" s_wrong_tie a_wrong_tie d_wrong_tie
  m_wrong_tie : mg "wrong_tie" = some (.ref a_wrong_tie)
  a_check_places : Addr
  d_check_places : FuncData
  F_check_places : Fun K "check_places" "check_places" s_check_places a_check_places d_check_places
  m_check_places : mg "check_places" = some (.ref a_check_places)
  a_check_ties : Addr
  d_check_ties : FuncData
  F_check_ties : Fun K "check_ties" "check_ties" s_check_ties a_check_ties d_check_ties
  m_check_ties : mg "check_ties" = some (.ref a_check_ties)
  a_Web_init : Addr
  d_Web_init : FuncData
  v_Web_init : V
  F_Web_init : FunD K "__init__" "Web.__init__" (defArgs s_Web_init) (defBody s_Web_init) (defScope s_Web_init) [v_Web_init] [] a_Web_init d_Web_init
  k_Web : Mk K a_Web a_Web_init
  a_wrong_tie0 : Addr
  d_wrong_tie0 : FuncData
  F_wrong_tie0 : Fun K "wrong_tie" "wrong_tie" s_wrong_tie0 a_wrong_tie0 d_wrong_tie0
  m_wrong_tie0 : mg "wrong_tie" = some (.ref a_wrong_tie0)
  a_check_ties0 : Addr
  d_check_ties0 : FuncData
  F_check_ties0 : Fun K "check_ties" "check_ties" s_check_ties0 a_check_ties0 d_check_ties0
  m_check_ties0 : mg "check_ties" = some (.ref a_check_ties0)
  a_Web_init0 : Addr
  d_Web_init0 : FuncData
  v_Web_init0 : V
  w_Web : Addr
  ew_Web : v_Web_init0 = .ref w_Web
  du_Web : KTup K w_Web []
  F_Web_init0 : FunD K "__init__" "Web.__init__" (defArgs s_Web_init0) (defBody s_Web_init0) (defScope s_Web_init0) [v_Web_init0] [] a_Web_init0 d_Web_init0
  k_Web0 : Mk K a_Web a_Web_init0
  a_Web_lenU : Addr
  d_Web_lenU : FuncData
  F_Web_lenU : Fun K "__len__" "Web.__len__" s_Web_lenU a_Web_lenU d_Web_lenU
  h___len__U : Meth K a_Web "__len__" a_Web_lenU
  a_check_webU : Addr
  d_check_webU : FuncData
  F_check_webU : Fun K "check_web" "check_web" s_check_webU a_check_webU d_check_webU
  m_check_webU : mg "check_web" = some (.ref a_check_webU)
  a_comes_to : Addr
  d_comes_to : FuncData
  F_comes_to : Fun K "comes_to" "comes_to" s_comes_to a_comes_to d_comes_to
  m_comes_to : mg "comes_to" = some (.ref a_comes_to)
  a_ringless_partU : Addr
  d_ringless_partU : FuncData
  F_ringless_partU : Fun K "ringless_part" "ringless_part" s_ringless_partU a_ringless_partU d_ringless_partU
  m_ringless_partU : mg "ringless_part" = some (.ref a_ringless_partU)
  a_colours_by : Addr
  d_colours_by : FuncData
  F_colours_by : Fun K "colours_by" "colours_by" s_colours_by a_colours_by d_colours_by
  m_colours_by : mg "colours_by" = some (.ref a_colours_by)
  a_colouringU : Addr
  d_colouringU : FuncData
  F_colouringU : Fun K "colouring" "colouring" s_colouringU a_colouringU d_colouringU
  m_colouringU : mg "colouring" = some (.ref a_colouringU)
  a_long_roadU : Addr
  d_long_roadU : FuncData
  F_long_roadU : Fun K "long_road" "long_road" s_long_roadU a_long_roadU d_long_roadU
  m_long_roadU : mg "long_road" = some (.ref a_long_roadU)
  a_is_integerA : Addr
  d_is_integerA : FuncData
  F_is_integerA : Fun K "is_integer" "is_integer" s_is_integerA a_is_integerA d_is_integerA
  m_is_integerA : mg "is_integer" = some (.ref a_is_integerA)
  a_is_colouringU : Addr
  d_is_colouringU : FuncData
  F_is_colouringU : Fun K "is_colouring" "is_colouring" s_is_colouringU a_is_colouringU d_is_colouringU
  m_is_colouringU : mg "is_colouring" = some (.ref a_is_colouringU)
  a_cup_cup : Addr
  d_cup_cup : FuncData
  F_cup_cup : Fun K "_law_cup" "_law_cup" s_cup_cup a_cup_cup d_cup_cup
  m_cup_cup : mg "_law_cup" = some (.ref a_cup_cup)
  a_cup_sip : Addr
  d_cup_sip : FuncData
  F_cup_sip : Fun K "_law_sip" "_law_sip" s_cup_sip a_cup_sip d_cup_sip
  m_cup_sip : mg "_law_sip" = some (.ref a_cup_sip)
  a_cup_folk : Addr
  d_cup_folk : FuncData
  F_cup_folk : Fun K "_law_folk" "_law_folk" s_cup_folk a_cup_folk d_cup_folk
  m_cup_folk : mg "_law_folk" = some (.ref a_cup_folk)
  a_k16_mixed : Addr
  d_k16_mixed : FuncData
  F_k16_mixed : Fun K "_law_mixed" "_law_mixed" s_k16_mixed a_k16_mixed d_k16_mixed
  m_k16_mixed : mg "_law_mixed" = some (.ref a_k16_mixed)
  a_k16_whole : Addr
  d_k16_whole : FuncData
  F_k16_whole : Fun K "_law_is_whole" "_law_is_whole" s_k16_whole a_k16_whole d_k16_whole
  m_k16_whole : mg "_law_is_whole" = some (.ref a_k16_whole)
  a_k16_row : Addr
  d_k16_row : FuncData
  F_k16_row : Fun K "_law_row_right" "_law_row_right" s_k16_row a_k16_row d_k16_row
  m_k16_row : mg "_law_row_right" = some (.ref a_k16_row)
  a_k16_star : Addr
  d_k16_star : FuncData
  F_k16_star : Fun K "_law_star_right" "_law_star_right" s_k16_star a_k16_star d_k16_star
  m_k16_star : mg "_law_star_right" = some (.ref a_k16_star)
  a_k16_both : Addr
  d_k16_both : FuncData
  F_k16_both : Fun K "_law_both_right" "_law_both_right" s_k16_both a_k16_both d_k16_both
  m_k16_both : mg "_law_both_right" = some (.ref a_k16_both)
  a_k16_right : Addr
  d_k16_right : FuncData
  F_k16_right : Fun K "_law_right" "_law_right" s_k16_right a_k16_right d_k16_right
  m_k16_right : mg "_law_right" = some (.ref a_k16_right)
  a_k16_law : Addr
  d_k16_law : FuncData
  F_k16_law : Fun K "law" "law" s_k16_law a_k16_law d_k16_law
  m_k16_law : mg "law" = some (.ref a_k16_law)
  a_g_places : Addr
  d_g_places : FuncData
  F_g_places : Fun K "places" "Web.places" s_g_places a_g_places d_g_places
  q_places : Addr
  p_places : PropOf K a_Web "places" q_places a_g_places
  a_g_ties : Addr
  d_g_ties : FuncData
  F_g_ties : Fun K "ties" "Web.ties" s_g_ties a_g_ties d_g_ties
  q_ties : Addr
  p_ties : PropOf K a_Web "ties" q_ties a_g_ties
  t_LETTERS : Tok
  m_LETTERS : mg "LETTERS" = some (.str "abcdefghijklmnopqrstuvwxyz" t_LETTERS)
  t_MOST_PLACES : Tok
  m_MOST_PLACES : mg "MOST_PLACES" = some (.int 40 t_MOST_PLACES)
  t_MOST_TIES : Tok
  m_MOST_TIES : mg "MOST_TIES" = some (.int 200 t_MOST_TIES)
  z_abs : mg "abs" = none
  z_all : mg "all" = none
  z_bool : mg "bool" = none
  z_dict : mg "dict" = none
  z_divmod : mg "divmod" = none
  z_enumerate : mg "enumerate" = none
  z_int : mg "int" = none
  z_isinstance : mg "isinstance" = none
  z_len : mg "len" = none
  z_list : mg "list" = none
  z_max : mg "max" = none
  z_min : mg "min" = none
  z_range : mg "range" = none
  z_sorted : mg "sorted" = none
  z_str : mg "str" = none
  z_tuple : mg "tuple" = none
  z_zip : mg "zip" = none
section
variable {P : Program} {w : World} {K : PySem.W.Frag} {mg : Str → Option Value} {base : Heap}
theorem isiT_Web (T : Txt P K mg) {X : Cx} (hK : X.K = K) : DC X (.builtin "isinstance") (cIsi (.obj T.a_Web) (fOwn (isi_Web T.a_Web))) := by
  subst hK
  exact dc_isiO T.a_Web _ T.kit0 (fun C b h => by
    unfold isi_Web at h
    split at h
    · rename_i e
      rw [e]
      cases h
      exact ⟨T.ins_Web, T.kit1⟩
    · cases h)
theorem g_places (T : Txt P K mg) : FnOk P w K mg base CX0 1 T.a_g_places T.d_g_places ["self"] (getSp T.a_Web "row") := by
  obtain ⟨oc, od, kV, doc, pm, an, cdv, ct, osl, e, lk, hcd⟩ := T.F_g_places.ex
  rw [e] at lk ⊢
  exact fn_getter lk hcd sc_g_places rfl rfl T.c_Web T.n_row
theorem b_places (T : Txt P K mg) : Binds K T.d_g_places ["self"] [] := T.F_g_places.binds fun _ _ _ _ _ _ us hl => match us, hl with | [_], _ => rfl
theorem g_ties (T : Txt P K mg) : FnOk P w K mg base CX0 1 T.a_g_ties T.d_g_ties ["self"] (getSp T.a_Web "pairs") := by
  obtain ⟨oc, od, kV, doc, pm, an, cdv, ct, osl, e, lk, hcd⟩ := T.F_g_ties.ex
  rw [e] at lk ⊢
  exact fn_getter lk hcd sc_g_ties rfl rfl T.c_Web T.n_pairs
theorem b_ties (T : Txt P K mg) : Binds K T.d_g_ties ["self"] [] := T.F_g_ties.binds fun _ _ _ _ _ _ us hl => match us, hl with | [_], _ => rfl
theorem b_is_name {f : Addr} {fd : FuncData} (F : Fun K "is_name" "is_name" s_is_name f fd) : Binds K fd ["value"] [] := F.binds fun _ _ _ _ _ _ us hl => match us, hl with | [_], _ => rfl
theorem b_wrong_place {f : Addr} {fd : FuncData} (F : Fun K "wrong_place" "wrong_place" s_wrong_place f fd) : Binds K fd ["values"] [] := F.binds fun _ _ _ _ _ _ us hl => match us, hl with | [_], _ => rfl
theorem b_is_pair {f : Addr} {fd : FuncData} (F : Fun K "is_pair" "is_pair" s_is_pair f fd) : Binds K fd ["places", "value"] [] := F.binds fun _ _ _ _ _ _ us hl => match us, hl with | [_, _], _ => rfl
theorem b_wrong_tie {f : Addr} {fd : FuncData} (F : Fun K "wrong_tie" "wrong_tie" s_wrong_tie f fd) : Binds K fd ["places", "values"] [] := F.binds fun _ _ _ _ _ _ us hl => match us, hl with | [_, _], _ => rfl
theorem b_check_places {f : Addr} {fd : FuncData} (F : Fun K "check_places" "check_places" s_check_places f fd) : Binds K fd ["places"] [] := F.binds fun _ _ _ _ _ _ us hl => match us, hl with | [_], _ => rfl
theorem b_check_ties {f : Addr} {fd : FuncData} (F : Fun K "check_ties" "check_ties" s_check_ties f fd) : Binds K fd ["places", "ties"] [] := F.binds fun _ _ _ _ _ _ us hl => match us, hl with | [_, _], _ => rfl
theorem b_Web_init (T : Txt P K mg) : Binds K T.d_Web_init ["self", "places", "ties"] [] := by
  obtain ⟨ds, h1, h2⟩ := T.F_Web_init.binds1 (ps := ["self", "places", "ties"]) 3 1 (by simp) (by rfl) (fun _ _ _ _ _ _ _ us its hl hi => match us, its, hl, hi with | [_, _, _], [_], _, _ => ⟨_, rfl, rfl⟩)
  cases h1
  exact h2
theorem b_wrong_tie0 {f : Addr} {fd : FuncData} (F : Fun K "wrong_tie" "wrong_tie" s_wrong_tie0 f fd) : Binds K fd ["places", "values"] [] := F.binds fun _ _ _ _ _ _ us hl => match us, hl with | [_, _], _ => rfl
theorem b_check_ties0 {f : Addr} {fd : FuncData} (F : Fun K "check_ties" "check_ties" s_check_ties0 f fd) : Binds K fd ["places", "ties"] [] := F.binds fun _ _ _ _ _ _ us hl => match us, hl with | [_, _], _ => rfl
theorem b_Web_lenU {f : Addr} {fd : FuncData} (F : Fun K "__len__" "Web.__len__" s_Web_lenU f fd) : Binds K fd ["self"] [] := F.binds fun _ _ _ _ _ _ us hl => match us, hl with | [_], _ => rfl
theorem b_check_webU {f : Addr} {fd : FuncData} (F : Fun K "check_web" "check_web" s_check_webU f fd) : Binds K fd ["web"] [] := F.binds fun _ _ _ _ _ _ us hl => match us, hl with | [_], _ => rfl
theorem b_comes_to {f : Addr} {fd : FuncData} (F : Fun K "comes_to" "comes_to" s_comes_to f fd) : Binds K fd ["leads", "begin", "end"] [] := F.binds fun _ _ _ _ _ _ us hl => match us, hl with | [_, _, _], _ => rfl
theorem b_ringless_partU {f : Addr} {fd : FuncData} (F : Fun K "ringless_part" "ringless_part" s_ringless_partU f fd) : Binds K fd ["web"] [] := F.binds fun _ _ _ _ _ _ us hl => match us, hl with | [_], _ => rfl
theorem b_colours_by {f : Addr} {fd : FuncData} (F : Fun K "colours_by" "colours_by" s_colours_by f fd) : Binds K fd ["leads"] [] := F.binds fun _ _ _ _ _ _ us hl => match us, hl with | [_], _ => rfl
theorem b_colouringU {f : Addr} {fd : FuncData} (F : Fun K "colouring" "colouring" s_colouringU f fd) : Binds K fd ["web"] [] := F.binds fun _ _ _ _ _ _ us hl => match us, hl with | [_], _ => rfl
theorem b_long_roadU {f : Addr} {fd : FuncData} (F : Fun K "long_road" "long_road" s_long_roadU f fd) : Binds K fd ["web"] [] := F.binds fun _ _ _ _ _ _ us hl => match us, hl with | [_], _ => rfl
theorem b_is_integerA {f : Addr} {fd : FuncData} (F : Fun K "is_integer" "is_integer" s_is_integerA f fd) : Binds K fd ["value"] [] := F.binds fun _ _ _ _ _ _ us hl => match us, hl with | [_], _ => rfl
theorem b_is_colouringU {f : Addr} {fd : FuncData} (F : Fun K "is_colouring" "is_colouring" s_is_colouringU f fd) : Binds K fd ["web", "value"] [] := F.binds fun _ _ _ _ _ _ us hl => match us, hl with | [_, _], _ => rfl
theorem b_cup_cup {f : Addr} {fd : FuncData} (F : Fun K "_law_cup" "_law_cup" s_cup_cup f fd) : Binds K fd ["_law_script", "_law_k"] [] := F.binds fun _ _ _ _ _ _ us hl => match us, hl with | [_, _], _ => rfl
theorem b_cup_sip {f : Addr} {fd : FuncData} (F : Fun K "_law_sip" "_law_sip" s_cup_sip f fd) : Binds K fd ["_law_cup_here", "_law_many"] [] := F.binds fun _ _ _ _ _ _ us hl => match us, hl with | [_, _], _ => rfl
theorem b_cup_folk {f : Addr} {fd : FuncData} (F : Fun K "_law_folk" "_law_folk" s_cup_folk f fd) : Binds K fd ["_law_cup_here", "_law_many"] [] := F.binds fun _ _ _ _ _ _ us hl => match us, hl with | [_, _], _ => rfl
theorem b_k16_mixed {f : Addr} {fd : FuncData} (F : Fun K "_law_mixed" "_law_mixed" s_k16_mixed f fd) : Binds K fd ["_law_cup_here", "_law_things"] [] := F.binds fun _ _ _ _ _ _ us hl => match us, hl with | [_, _], _ => rfl
theorem b_k16_whole {f : Addr} {fd : FuncData} (F : Fun K "_law_is_whole" "_law_is_whole" s_k16_whole f fd) : Binds K fd ["_law_net", "_law_row"] [] := F.binds fun _ _ _ _ _ _ us hl => match us, hl with | [_, _], _ => rfl
theorem b_k16_row {f : Addr} {fd : FuncData} (F : Fun K "_law_row_right" "_law_row_right" s_k16_row f fd) : Binds K fd ["_law_cup_here", "_law_folk_here"] [] := F.binds fun _ _ _ _ _ _ us hl => match us, hl with | [_, _], _ => rfl
theorem b_k16_star {f : Addr} {fd : FuncData} (F : Fun K "_law_star_right" "_law_star_right" s_k16_star f fd) : Binds K fd ["_law_cup_here", "_law_folk_here"] [] := F.binds fun _ _ _ _ _ _ us hl => match us, hl with | [_, _], _ => rfl
theorem b_k16_both {f : Addr} {fd : FuncData} (F : Fun K "_law_both_right" "_law_both_right" s_k16_both f fd) : Binds K fd ["_law_cup_here", "_law_folk_here"] [] := F.binds fun _ _ _ _ _ _ us hl => match us, hl with | [_, _], _ => rfl
theorem b_k16_right {f : Addr} {fd : FuncData} (F : Fun K "_law_right" "_law_right" s_k16_right f fd) : Binds K fd ["_law_cup_here"] [] := F.binds fun _ _ _ _ _ _ us hl => match us, hl with | [_], _ => rfl
theorem bd_Web_init0 (T : Txt P K mg) : Vals [.ref T.w_Web] ((T.F_Web_init0.binds1 (ps := ["self", "places", "ties"]) 2 0 (by simp) (by rfl) (fun _ _ _ _ _ _ _ us its hl hi => match us, its, hl, hi with | [_, _], [_], _, _ => ⟨_, rfl, rfl⟩)).choose) ∧ Binds K T.d_Web_init0 ["self", "places", "ties"] ((T.F_Web_init0.binds1 (ps := ["self", "places", "ties"]) 2 0 (by simp) (by rfl) (fun _ _ _ _ _ _ _ us its hl hi => match us, its, hl, hi with | [_, _], [_], _, _ => ⟨_, rfl, rfl⟩)).choose) := by
  have z := (T.F_Web_init0.binds1 (ps := ["self", "places", "ties"]) 2 0 (by simp) (by rfl) (fun _ _ _ _ _ _ _ us its hl hi => match us, its, hl, hi with | [_, _], [_], _, _ => ⟨_, rfl, rfl⟩)).choose_spec
  refine ⟨?_, z.2⟩
  have key : ∀ (L : List Value) (u : V), T.v_Web_init0 = u → Vals [T.v_Web_init0] L → Vals [u] L := fun L u e h => by
    subst e
    exact h
  exact key _ _ T.ew_Web z.1
/-! ### each def keeps its promise -/
theorem ok_is_name (T : Txt P K mg) : FnD P w K mg base 1 T.a_is_name T.d_is_name ["value"] (sp_is_name T.a_Web) := by
  refine fnD_ok (w0 := w_is_name T.a_Web) (fun_at T.F_is_name) sc_is_name (len_is_name _) (fun cdv A outer s H E hr hg => ?_) (pure_is_name T.a_Web)
  exact (dss_one (ds_ret (de_and (de_callB (dc_isiT "str" [] (by decide) (fun _ h => nomatch h)) (by rfl) T.z_isinstance boot_isinstance (da_cons (de_v 0) (da_cons (de_bT T.z_str boot_str) da_nil))) (de_and (de_ch do_lt do_lt de_int (de_callB dc_len (by rfl) T.z_len boot_len (da_cons (de_v 0) da_nil)) de_int) (de_one (de_callB (dc_all rfl) (by rfl) T.z_all boot_all (da_cons (de_lcP rfl sc_is_name.nd (di_str (de_v 0)) (own := [("sign", 1)]) (nt := (.n 1)) (blkOk_by (by kernel_rfl)) (by decide) (fun _ _ _ _ _ => (pg_name (i := 1) sc_is_name.nd rfl (.inl rfl))) (fun _ _ _ _ _ => dts_nil) (fun _ _ _ _ _ => (de_c (do_in (u65 hr)) (de_v 1) (de_gS T.m_LETTERS)))) da_nil)))))))
theorem ok_wrong_place (T : Txt P K mg) : FnD P w K mg base 2 T.a_wrong_place T.d_wrong_place ["values"] (sp_wrong_place T.a_Web) := by
  refine fnD_ok (w0 := w_wrong_place T.a_Web) (fun_at T.F_wrong_place) sc_wrong_place (len_wrong_place _) (fun cdv A outer s H E hr hg => ?_) (pure_wrong_place T.a_Web)
  exact (dss_cons (ds_for PassesOwn.never rfl (di_enum T.z_enumerate (da_cons (de_v 0) da_nil)) (dg_tup rfl (dgs_cons (dg_v (i := 1) sc_wrong_place.nd) (dgs_cons (dg_v (i := 2) sc_wrong_place.nd) dgs_nil))) (dss_one (ds_if (dw_pt (dw_or (dt_c (do_eq (u65 hr)) (de_v 1) (de_gI T.m_MOST_PLACES)) (dw_or (dt_not (dt_b (de_fn (FnG.up (ok_is_name T) (by decide)) hr hg T.m_is_name T.F_is_name.kp (b_is_name T.F_is_name) .nil lits_nil (da_cons (de_v 2) da_nil)))) (dw_or1 (dt_c (do_in (u65 hr)) (de_v 2) (de_sl (de_v 0) dp_none (dp_some (de_v 1)))))))) (dss_one (ds_ret (de_v 1))) dss_nil)))
    (dss_one (ds_ret de_non)))
theorem ok_is_pair (T : Txt P K mg) : FnD P w K mg base 1 T.a_is_pair T.d_is_pair ["places", "value"] (sp_is_pair T.a_Web) := by
  refine fnD_ok (w0 := w_is_pair T.a_Web) (fun_at T.F_is_pair) sc_is_pair (len_is_pair _) (fun cdv A outer s H E hr hg => ?_) (pure_is_pair T.a_Web)
  exact (dss_cons (ds_if (dw_pt (dw_or (dt_not (dt_b (de_callB (dc_isiT "tuple" [] (by decide) (fun _ h => nomatch h)) (by rfl) T.z_isinstance boot_isinstance (da_cons (de_v 1) (da_cons (de_bT T.z_tuple boot_tuple) da_nil))))) (dw_or1 (dt_c (do_ne (u65 hr)) (de_callB dc_len (by rfl) T.z_len boot_len (da_cons (de_v 1) da_nil)) de_int)))) (dss_one (ds_ret de_bl)) dss_nil)
    (dss_one (ds_ret (de_and (de_callB (dc_all rfl) (by rfl) T.z_all boot_all (da_cons (de_lcP rfl sc_is_pair.nd (di_seq (de_v 1)) (own := [("place", 2)]) (nt := (.n 2)) (blkOk_by (by kernel_rfl)) (by decide) (fun _ _ _ _ _ => (pg_name (i := 2) sc_is_pair.nd rfl (.inl rfl))) (fun _ _ _ _ _ => dts_nil) (fun _ _ _ _ _ => (de_and (de_callB (dc_isiT "str" [] (by decide) (fun _ h => nomatch h)) (by rfl) T.z_isinstance boot_isinstance (da_cons (de_v 2) (da_cons (de_bT T.z_str boot_str) da_nil))) (de_one (de_c (do_in (u65 hr)) (de_v 2) (de_v 0)))))) da_nil)) (de_one (de_c (do_ne (u65 hr)) (de_ix (u65 hr) (de_v 1) de_int) (de_ix (u65 hr) (de_v 1) de_int)))))))
theorem ok_wrong_tie (T : Txt P K mg) : FnD P w K mg base 2 T.a_wrong_tie T.d_wrong_tie ["places", "values"] (sp_wrong_tie T.a_Web) := by
  refine fnD_ok (w0 := w_wrong_tie T.a_Web) (fun_at T.F_wrong_tie) sc_wrong_tie (len_wrong_tie _) (fun cdv A outer s H E hr hg => ?_) (pure_wrong_tie T.a_Web)
  exact (dss_cons (ds_set (i := 2) sc_wrong_tie.nd de_dnewT)
    (dss_cons (ds_for PassesOwn.never rfl (di_enum T.z_enumerate (da_cons (de_v 1) da_nil)) (dg_tup rfl (dgs_cons (dg_v (i := 3) sc_wrong_tie.nd) (dgs_cons (dg_v (i := 4) sc_wrong_tie.nd) dgs_nil))) (dss_cons (ds_if (dw_pt (dw_or (dt_c (do_eq (u65 hr)) (de_v 3) (de_gI T.m_MOST_TIES)) (dw_or (dt_not (dt_b (de_fn (FnG.up (ok_is_pair T) (by decide)) hr hg T.m_is_pair T.F_is_pair.kp (b_is_pair T.F_is_pair) .nil lits_nil (da_cons (de_v 0) (da_cons (de_v 4) da_nil))))) (dw_or1 (dt_c (do_in (u65 hr)) (de_v 4) (de_v 2)))))) (dss_one (ds_ret (de_v 3))) dss_nil)
    (dss_one (ds_sub (u65 hr) (de_v 2) (de_v 4) de_bl))))
    (dss_one (ds_ret de_non))))
theorem ok_check_places (T : Txt P K mg) : FnD P w K mg base 3 T.a_check_places T.d_check_places ["places"] (sp_check_places T.a_Web) := by
  refine fnD_ok (w0 := w_check_places T.a_Web) (fun_at T.F_check_places) sc_check_places (len_check_places _) (fun cdv A outer s H E hr hg => ?_) (pure_check_places T.a_Web)
  exact (dss_cons (ds_if (dw_pt (dw_or (dt_not (dt_b (de_callB (dc_isiT "tuple" [] (by decide) (fun _ h => nomatch h)) (by rfl) T.z_isinstance boot_isinstance (da_cons (de_v 0) (da_cons (de_bT T.z_tuple boot_tuple) da_nil))))) (dw_or1 (dt_c (do_eq (u65 hr)) (de_v 0) (de_tup da_nil))))) (dss_one ds_never) dss_nil)
    (dss_cons (ds_set (i := 1) sc_check_places.nd (de_fn (FnG.up (ok_wrong_place T) (by decide)) hr hg T.m_wrong_place T.F_wrong_place.kp (b_wrong_place T.F_wrong_place) .nil lits_nil (da_cons (de_v 0) da_nil)))
    (dss_one (ds_if (dt_c do_notN (de_v 1) de_non) (dss_one ds_never) dss_nil))))
theorem ok_check_ties (T : Txt P K mg) : FnD P w K mg base 3 T.a_check_ties T.d_check_ties ["places", "ties"] (sp_check_ties T.a_Web) := by
  refine fnD_ok (w0 := w_check_ties T.a_Web) (fun_at T.F_check_ties) sc_check_ties (len_check_ties _) (fun cdv A outer s H E hr hg => ?_) (pure_check_ties T.a_Web)
  exact (dss_cons (ds_if (dt_not (dt_b (de_callB (dc_isiT "tuple" [] (by decide) (fun _ h => nomatch h)) (by rfl) T.z_isinstance boot_isinstance (da_cons (de_v 1) (da_cons (de_bT T.z_tuple boot_tuple) da_nil))))) (dss_one ds_never) dss_nil)
    (dss_cons (ds_set (i := 2) sc_check_ties.nd (de_fn (FnG.up (ok_wrong_tie T) (by decide)) hr hg T.m_wrong_tie T.F_wrong_tie.kp (b_wrong_tie T.F_wrong_tie) .nil lits_nil (da_cons (de_v 0) (da_cons (de_v 1) da_nil))))
    (dss_one (ds_if (dt_c do_notN (de_v 2) de_non) (dss_one ds_never) dss_nil))))
theorem ok_Web_init (T : Txt P K mg) : FnD P w K mg base 4 T.a_Web_init T.d_Web_init ["self", "places", "ties"] (sp_Web_init T.a_Web) := by
  refine fnD_ok (w0 := w_Web_init T.a_Web) (funD_at T.F_Web_init) sc_Web_init (len_Web_init _) (fun cdv A outer s H E hr hg => ?_) (pure_Web_init T.a_Web)
  exact (dss_cons (ds_expr (de_fn (FnG.up (ok_check_places T) (by decide)) hr hg T.m_check_places T.F_check_places.kp (b_check_places T.F_check_places) .nil lits_nil (da_cons (de_v 1) da_nil)))
    (dss_cons (ds_expr (de_fn (FnG.up (ok_check_ties T) (by decide)) hr hg T.m_check_ties T.F_check_ties.kp (b_check_ties T.F_check_ties) .nil lits_nil (da_cons (de_v 1) (da_cons (de_v 2) da_nil))))
    (dss_cons (ds_setF T.c_Web T.n_row (de_v 0) (de_v 1))
    (dss_cons (ds_setF T.c_Web T.n_pairs (de_v 0) (de_v 2))
    (dss_one (ds_setF T.c_Web T.n_marks (de_v 0) (de_dcP (t := true) (u65 hr) rfl sc_Web_init.nd (di_seq (de_v 2)) (own := [("tie", 3)]) (nt := (.n 3)) (blkOk_by (by kernel_rfl)) (by decide) (fun _ _ _ _ _ => (pg_name (i := 3) sc_Web_init.nd rfl (.inl rfl))) (fun _ _ _ _ _ => dts_nil) (fun _ _ _ _ _ => (de_v 3)) (fun _ _ _ _ _ => de_bl))))))))
theorem ok_wrong_tie0 (T : Txt P K mg) : FnD P w K mg base 2 T.a_wrong_tie0 T.d_wrong_tie0 ["places", "values"] (sp_wrong_tie0 T.a_Web) := by
  refine fnD_ok (w0 := w_wrong_tie0 T.a_Web) (fun_at T.F_wrong_tie0) sc_wrong_tie0 (len_wrong_tie0 _) (fun cdv A outer s H E hr hg => ?_) (pure_wrong_tie0 T.a_Web)
  exact (dss_cons (ds_set (i := 2) sc_wrong_tie0.nd de_dnewT)
    (dss_cons (ds_for PassesOwn.never rfl (di_enum T.z_enumerate (da_cons (de_v 1) da_nil)) (dg_tup rfl (dgs_cons (dg_v (i := 3) sc_wrong_tie0.nd) (dgs_cons (dg_v (i := 4) sc_wrong_tie0.nd) dgs_nil))) (dss_cons (ds_if (dw_pt (dw_or (dt_c (do_eq (u65 hr)) (de_v 3) (de_gI T.m_MOST_TIES)) (dw_or (dt_not (dt_b (de_fn (FnG.up (ok_is_pair T) (by decide)) hr hg T.m_is_pair T.F_is_pair.kp (b_is_pair T.F_is_pair) .nil lits_nil (da_cons (de_v 0) (da_cons (de_v 4) da_nil))))) (dw_or1 (dt_c (do_in (u65 hr)) (de_v 4) (de_v 2)))))) (dss_one (ds_ret (de_v 3))) dss_nil)
    (dss_one (ds_sub (u65 hr) (de_v 2) (de_v 4) de_bl))))
    (dss_one (ds_ret de_non))))
theorem ok_check_ties0 (T : Txt P K mg) : FnD P w K mg base 3 T.a_check_ties0 T.d_check_ties0 ["places", "ties"] (sp_check_ties0 T.a_Web) := by
  refine fnD_ok (w0 := w_check_ties0 T.a_Web) (fun_at T.F_check_ties0) sc_check_ties0 (len_check_ties0 _) (fun cdv A outer s H E hr hg => ?_) (pure_check_ties0 T.a_Web)
  exact (dss_cons (ds_if (dt_not (dt_b (de_callB (dc_isiT "tuple" [] (by decide) (fun _ h => nomatch h)) (by rfl) T.z_isinstance boot_isinstance (da_cons (de_v 1) (da_cons (de_bT T.z_tuple boot_tuple) da_nil))))) (dss_one ds_never) dss_nil)
    (dss_cons (ds_set (i := 2) sc_check_ties0.nd (de_fn (FnG.up (ok_wrong_tie0 T) (by decide)) hr hg T.m_wrong_tie0 T.F_wrong_tie0.kp (b_wrong_tie0 T.F_wrong_tie0) .nil lits_nil (da_cons (de_v 0) (da_cons (de_v 1) da_nil))))
    (dss_one (ds_if (dt_c do_notN (de_v 2) de_non) (dss_one ds_never) dss_nil))))
theorem ok_Web_init0 (T : Txt P K mg) : FnD P w K mg base 4 T.a_Web_init0 T.d_Web_init0 ["self", "places", "ties"] (sp_Web_init0 T.a_Web) := by
  refine fnD_ok (w0 := w_Web_init0 T.a_Web) (funD_at T.F_Web_init0) sc_Web_init0 (len_Web_init0 _) (fun cdv A outer s H E hr hg => ?_) (pure_Web_init0 T.a_Web)
  exact (dss_cons (ds_expr (de_fn (FnG.up (ok_check_places T) (by decide)) hr hg T.m_check_places T.F_check_places.kp (b_check_places T.F_check_places) .nil lits_nil (da_cons (de_v 1) da_nil)))
    (dss_cons (ds_expr (de_fn (FnG.up (ok_check_ties0 T) (by decide)) hr hg T.m_check_ties0 T.F_check_ties0.kp (b_check_ties0 T.F_check_ties0) .nil lits_nil (da_cons (de_v 1) (da_cons (de_v 2) da_nil))))
    (dss_cons (ds_setF T.c_Web T.n_row (de_v 0) (de_v 1))
    (dss_cons (ds_setF T.c_Web T.n_pairs (de_v 0) (de_v 2))
    (dss_one (ds_setF T.c_Web T.n_marks (de_v 0) (de_dcP (t := true) (u65 hr) rfl sc_Web_init0.nd (di_seq (de_v 2)) (own := [("tie", 3)]) (nt := (.n 3)) (blkOk_by (by kernel_rfl)) (by decide) (fun _ _ _ _ _ => (pg_name (i := 3) sc_Web_init0.nd rfl (.inl rfl))) (fun _ _ _ _ _ => dts_nil) (fun _ _ _ _ _ => (de_v 3)) (fun _ _ _ _ _ => de_bl))))))))
theorem ok_Web_lenU (T : Txt P K mg) : FnD P w K mg base 1 T.a_Web_lenU T.d_Web_lenU ["self"] (sp_Web_lenU T.a_Web) := by
  refine fnD_ok (w0 := w_Web_lenU T.a_Web) (fun_at T.F_Web_lenU) sc_Web_lenU (len_Web_lenU _) (fun cdv A outer s H E hr hg => ?_) (pure_Web_lenU T.a_Web)
  exact (dss_one (ds_ret (de_callB dc_len (by rfl) T.z_len boot_len (da_cons (de_fld T.c_Web T.n_row (de_v 0)) da_nil))))
theorem ok_check_webU (T : Txt P K mg) : FnD P w K mg base 1 T.a_check_webU T.d_check_webU ["web"] (sp_check_webU T.a_Web) := by
  refine fnD_ok (w0 := w_check_webU T.a_Web) (fun_at T.F_check_webU) sc_check_webU (len_check_webU _) (fun cdv A outer s H E hr hg => ?_) (pure_check_webU T.a_Web)
  exact (dss_one (ds_if (dt_not (dt_b (de_callB (isiT_Web T rfl) (by rfl) T.z_isinstance boot_isinstance (da_cons (de_v 0) (da_cons (de_gC T.m_Web) da_nil))))) (dss_one ds_never) dss_nil))
theorem ok_comes_to (T : Txt P K mg) : FnD P w K mg base 1 T.a_comes_to T.d_comes_to ["leads", "begin", "end"] (sp_comes_to T.a_Web) := by
  refine fnD_ok (w0 := w_comes_to T.a_Web) (fun_at T.F_comes_to) sc_comes_to (len_comes_to _) (fun cdv A outer s H E hr hg => ?_) (pure_comes_to T.a_Web)
  exact (dss_cons (ds_par (i := 3) (j := 4) rfl sc_comes_to.nd (da_cons (de_disp1 (de_v 1) de_bl) (da_cons (de_new (da_cons (de_v 1) da_nil)) da_nil)))
    (dss_cons (ds_while PassesOwn.never (dt_c (do_ne (u65 hr)) (de_v 4) (de_lst da_nil)) (dss_one (ds_for PassesOwn.never rfl (di_seq (de_ix (u65 hr) (de_v 0) (de_bm0 dm_pop F.plainAttrs_list F.slot_list_pop F.type_list_pop (de_v 4)))) (dg_v (i := 5) sc_comes_to.nd) (dss_cons (ds_if (dt_c (do_eq (u65 hr)) (de_v 5) (de_v 2)) (dss_one (ds_ret de_bl)) dss_nil)
    (dss_one (ds_if (dt_c (do_notIn (u65 hr)) (de_v 5) (de_v 3)) (dss_cons (ds_sub (u65 hr) (de_v 3) (de_v 5) de_bl)
    (dss_one (ds_expr (de_bm dm_append F.plainAttrs_list F.slot_list_append F.type_list_append (de_v 4) (da_cons (de_v 5) da_nil))))) dss_nil))))))
    (dss_one (ds_ret de_bl))))
theorem ok_ringless_partU (T : Txt P K mg) : FnD P w K mg base 3 T.a_ringless_partU T.d_ringless_partU ["web"] (sp_ringless_partU T.a_Web) := by
  refine fnD_ok (w0 := w_ringless_partU T.a_Web) (fun_at T.F_ringless_partU) sc_ringless_partU (len_ringless_partU _) (fun cdv A outer s H E hr hg => ?_) (pure_ringless_partU T.a_Web)
  exact (dss_cons (ds_setDc (i := 1) (t := false) (u65 hr) rfl sc_ringless_partU.nd (di_seq (de_prop T.c_Web T.p_places (g_places T) (hr.mono (by decide)) (b_places T) (de_v 0))) (own := [("place", 4)]) (nt := (.n 4)) (blkOk_by (by kernel_rfl)) (by decide) (fun _ _ _ _ _ => (pg_name (i := 4) sc_ringless_partU.nd rfl (.inl rfl))) (fun _ _ _ _ _ => dts_nil) (fun _ _ _ _ _ => (de_v 4)) (fun _ _ _ _ _ => (de_new da_nil)))
    (dss_cons (ds_for PassesOwn.never rfl (di_seq (de_prop T.c_Web T.p_ties (g_ties T) (hr.mono (by decide)) (b_ties T) (de_v 0))) (dg_tup rfl (dgs_cons (dg_v (i := 2) sc_ringless_partU.nd) (dgs_cons (dg_v (i := 3) sc_ringless_partU.nd) dgs_nil))) (dss_one (ds_if (dt_not (dt_b (de_fn (FnG.up (ok_comes_to T) (by decide)) hr hg T.m_comes_to T.F_comes_to.kp (b_comes_to T.F_comes_to) .nil lits_nil (da_cons (de_v 1) (da_cons (de_v 3) (da_cons (de_v 2) da_nil)))))) (dss_one (ds_expr (de_bm dm_append F.plainAttrs_list F.slot_list_append F.type_list_append (de_ix (u65 hr) (de_v 1) (de_v 2)) (da_cons (de_v 3) da_nil)))) dss_nil)))
    (dss_one (ds_lk (ds_ret (de_v 1))))))
theorem ok_colours_by (T : Txt P K mg) : FnD P w K mg base 1 T.a_colours_by T.d_colours_by ["leads"] (sp_colours_by T.a_Web) := by
  refine fnD_ok (w0 := w_colours_by T.a_Web) (fun_at T.F_colours_by) sc_colours_by (len_colours_by _) (fun cdv A outer s H E hr hg => ?_) (pure_colours_by T.a_Web)
  exact (dss_cons (ds_setDc (i := 1) (t := false) (u65 hr) rfl sc_colours_by.nd (di_keysI (de_v 0)) (own := [("place", 3)]) (nt := (.n 3)) (blkOk_by (by kernel_rfl)) (by decide) (fun _ _ _ _ _ => (pg_name (i := 3) sc_colours_by.nd rfl (.inl rfl))) (fun _ _ _ _ _ => dts_nil) (fun _ _ _ _ _ => (de_v 3)) (fun _ _ _ _ _ => de_int))
    (dss_cons (ds_for PassesOwn.never rfl (di_rng1 T.z_range (da_cons (de_callB dc_len (by rfl) T.z_len boot_len (da_cons (de_v 0) da_nil)) da_nil)) (dg_v (i := 2) sc_colours_by.nd) (dss_one (ds_for PassesOwn.never rfl (di_items (de_v 0)) (dg_tup rfl (dgs_cons (dg_v (i := 3) sc_colours_by.nd) (dgs_cons (dg_v (i := 4) sc_colours_by.nd) dgs_nil))) (dss_one (ds_for PassesOwn.never rfl (di_seq (de_v 4)) (dg_v (i := 5) sc_colours_by.nd) (dss_one (ds_sub (u65 hr) (de_v 1) (de_v 5) (de_callB (dc_max rfl) (by rfl) T.z_max boot_max (da_cons (de_ix (u65 hr) (de_v 1) (de_v 5)) (da_cons (de_o do_add (de_ix (u65 hr) (de_v 1) (de_v 3)) de_int) da_nil))))))))))
    (dss_one (ds_lk (ds_ret (de_v 1))))))
theorem ok_colouringU (T : Txt P K mg) : FnD P w K mg base 4 T.a_colouringU T.d_colouringU ["web"] (sp_colouringU T.a_Web) := by
  refine fnD_ok (w0 := w_colouringU T.a_Web) (fun_at T.F_colouringU) sc_colouringU (len_colouringU _) (fun cdv A outer s H E hr hg => ?_) (pure_colouringU T.a_Web)
  exact (dss_cons (ds_expr (de_fn (FnG.up (ok_check_webU T) (by decide)) hr hg T.m_check_webU T.F_check_webU.kp (b_check_webU T.F_check_webU) .nil lits_nil (da_cons (de_v 0) da_nil)))
    (dss_cons (ds_set (i := 1) sc_colouringU.nd (de_fn (FnG.up (ok_colours_by T) (by decide)) hr hg T.m_colours_by T.F_colours_by.kp (b_colours_by T.F_colours_by) .nil lits_nil (da_cons (de_fn (FnG.up (ok_ringless_partU T) (by decide)) hr hg T.m_ringless_partU T.F_ringless_partU.kp (b_ringless_partU T.F_ringless_partU) .nil lits_nil (da_cons (de_v 0) da_nil)) da_nil)))
    (dss_one (ds_ret (de_callTy dc_tuple (by rfl) T.z_tuple boot_tuple (da_cons (de_lcP rfl sc_colouringU.nd (di_seq (de_prop T.c_Web T.p_places (g_places T) (hr.mono (by decide)) (b_places T) (de_v 0))) (own := [("place", 2)]) (nt := (.n 2)) (blkOk_by (by kernel_rfl)) (by decide) (fun _ _ _ _ _ => (pg_name (i := 2) sc_colouringU.nd rfl (.inl rfl))) (fun _ _ _ _ _ => dts_nil) (fun _ _ _ _ _ => (de_ix (u65 hr) (de_v 1) (de_v 2)))) da_nil))))))
theorem ok_long_roadU (T : Txt P K mg) : FnD P w K mg base 4 T.a_long_roadU T.d_long_roadU ["web"] (sp_long_roadU T.a_Web) := by
  refine fnD_ok (w0 := w_long_roadU T.a_Web) (fun_at T.F_long_roadU) sc_long_roadU (len_long_roadU _) (fun cdv A outer s H E hr hg => ?_) (pure_long_roadU T.a_Web)
  exact (dss_cons (ds_expr (de_fn (FnG.up (ok_check_webU T) (by decide)) hr hg T.m_check_webU T.F_check_webU.kp (b_check_webU T.F_check_webU) .nil lits_nil (da_cons (de_v 0) da_nil)))
    (dss_cons (ds_set (i := 1) sc_long_roadU.nd (de_fn (FnG.up (ok_ringless_partU T) (by decide)) hr hg T.m_ringless_partU T.F_ringless_partU.kp (b_ringless_partU T.F_ringless_partU) .nil lits_nil (da_cons (de_v 0) da_nil)))
    (dss_cons (ds_set (i := 2) sc_long_roadU.nd (de_fn (FnG.up (ok_colours_by T) (by decide)) hr hg T.m_colours_by T.F_colours_by.kp (b_colours_by T.F_colours_by) .nil lits_nil (da_cons (de_v 1) da_nil)))
    (dss_cons (ds_set (i := 3) sc_long_roadU.nd (de_callB (dc_max rfl) (by rfl) T.z_max boot_max (da_cons (de_listV rfl T.z_list (de_v 2)) da_nil)))
    (dss_cons (ds_set (i := 4) sc_long_roadU.nd (de_lst (da_cons (de_ix (u65 hr) (de_lcP rfl sc_long_roadU.nd (di_seq (de_prop T.c_Web T.p_places (g_places T) (hr.mono (by decide)) (b_places T) (de_v 0))) (own := [("place", 6)]) (nt := (.n 6)) (blkOk_by (by kernel_rfl)) (by decide) (fun _ _ _ _ _ => (pg_name (i := 6) sc_long_roadU.nd rfl (.inl rfl))) (fun _ _ _ _ _ => (dts_one (dt_c (do_eq (u65 hr)) (de_ix (u65 hr) (de_v 2) (de_v 6)) (de_v 3)))) (fun _ _ _ _ _ => (de_v 6))) de_int) da_nil)))
    (dss_cons (ds_for PassesOwn.never rfl (di_rngM T.z_range (da_cons (de_o do_sub (de_v 3) de_int) (da_cons de_int (da_cons (de_u do_neg de_int) da_nil)))) (dg_v (i := 5) sc_long_roadU.nd) (dss_one (ds_set (i := 4) sc_long_roadU.nd (de_lst (da_cons (de_ix (u65 hr) (de_lcP rfl sc_long_roadU.nd (di_seq (de_prop T.c_Web T.p_places (g_places T) (hr.mono (by decide)) (b_places T) (de_v 0))) (own := [("place", 6)]) (nt := (.n 6)) (blkOk_by (by kernel_rfl)) (by decide) (fun _ _ _ _ _ => (pg_name (i := 6) sc_long_roadU.nd rfl (.inl rfl))) (fun _ _ _ _ _ => (dts_one (dw_pt (dw_and (dt_c (do_eq (u65 hr)) (de_ix (u65 hr) (de_v 2) (de_v 6)) (de_v 5)) (dw_and1 (dt_c (do_in (u65 hr)) (de_ix (u65 hr) (de_v 4) de_int) (de_ix (u65 hr) (de_v 1) (de_v 6)))))))) (fun _ _ _ _ _ => (de_v 6))) de_int) (da_star (de_v 4) da_nil))))))
    (dss_one (ds_ret (de_callTy dc_tuple (by rfl) T.z_tuple boot_tuple (da_cons (de_v 4) da_nil))))))))))
theorem ok_is_integerA (T : Txt P K mg) : FnD P w K mg base 1 T.a_is_integerA T.d_is_integerA ["value"] (sp_is_integerA T.a_Web) := by
  refine fnD_ok (w0 := w_is_integerA T.a_Web) (fun_at T.F_is_integerA) sc_is_integerA (len_is_integerA _) (fun cdv A outer s H E hr hg => ?_) (pure_is_integerA T.a_Web)
  exact (dss_one (ds_ret (de_and (de_callB (dc_isiT "int" [] (by decide) (fun _ h => nomatch h)) (by rfl) T.z_isinstance boot_isinstance (da_cons (de_v 0) (da_cons (de_bT T.z_int boot_int) da_nil))) (de_one (de_not (de_callB (dc_isiT "bool" [] (by decide) (fun _ h => nomatch h)) (by rfl) T.z_isinstance boot_isinstance (da_cons (de_v 0) (da_cons (de_bT T.z_bool boot_bool) da_nil))))))))
theorem ok_is_colouringU (T : Txt P K mg) : FnD P w K mg base 3 T.a_is_colouringU T.d_is_colouringU ["web", "value"] (sp_is_colouringU T.a_Web) := by
  refine fnD_ok (w0 := w_is_colouringU T.a_Web) (fun_at T.F_is_colouringU) sc_is_colouringU (len_is_colouringU _) (fun cdv A outer s H E hr hg => ?_) (pure_is_colouringU T.a_Web)
  exact (dss_cons (ds_expr (de_fn (FnG.up (ok_check_webU T) (by decide)) hr hg T.m_check_webU T.F_check_webU.kp (b_check_webU T.F_check_webU) .nil lits_nil (da_cons (de_v 0) da_nil)))
    (dss_cons (ds_if (dw_pt (dw_or (dt_not (dt_b (de_callB (dc_isiT "tuple" [] (by decide) (fun _ h => nomatch h)) (by rfl) T.z_isinstance boot_isinstance (da_cons (de_v 1) (da_cons (de_bT T.z_tuple boot_tuple) da_nil))))) (dw_or1 (dt_c (do_ne (u65 hr)) (de_callB dc_len (by rfl) T.z_len boot_len (da_cons (de_v 1) da_nil)) (de_callB (dc_lenO T.h___len__U.at_ T.h___len__U.fn (ok_Web_lenU T) (hr.mono (by decide)) hg (b_Web_lenU T.F_Web_lenU)) (by rfl) T.z_len boot_len (da_cons (de_v 0) da_nil)))))) (dss_one (ds_ret de_bl)) dss_nil)
    (dss_cons (ds_if (dt_not (dt_b (de_callB (dc_all rfl) (by rfl) T.z_all boot_all (da_cons (de_lcP rfl sc_is_colouringU.nd (di_seq (de_v 1)) (own := [("colour", 3)]) (nt := (.n 3)) (blkOk_by (by kernel_rfl)) (by decide) (fun _ _ _ _ _ => (pg_name (i := 3) sc_is_colouringU.nd rfl (.inl rfl))) (fun _ _ _ _ _ => dts_nil) (fun _ _ _ _ _ => (de_and (de_fn (FnG.up (ok_is_integerA T) (by decide)) hr hg T.m_is_integerA T.F_is_integerA.kp (b_is_integerA T.F_is_integerA) .nil lits_nil (da_cons (de_v 3) da_nil)) (de_one (de_c do_gt (de_v 3) de_int))))) da_nil)))) (dss_one (ds_ret de_bl)) dss_nil)
    (dss_cons (ds_set (i := 2) sc_is_colouringU.nd (de_dictzipT rfl (by rfl) T.z_dict boot_dict (by rfl) T.z_zip boot_zip (de_prop T.c_Web T.p_places (g_places T) (hr.mono (by decide)) (b_places T) (de_v 0)) (de_v 1)))
    (dss_one (ds_ret (de_callB (dc_all rfl) (by rfl) T.z_all boot_all (da_cons (de_lcP rfl sc_is_colouringU.nd (di_seq (de_prop T.c_Web T.p_ties (g_ties T) (hr.mono (by decide)) (b_ties T) (de_v 0))) (own := [("first", 4), ("second", 5)]) (nt := (.t [4, 5])) (blkOk_by (by kernel_rfl)) (by decide) (fun _ _ _ _ _ => (pg_tup rfl (pgs_cons (pg_name (i := 4) sc_is_colouringU.nd rfl (.inl rfl)) (pgs_cons (pg_name (i := 5) sc_is_colouringU.nd rfl (.inl rfl)) pgs_nil)))) (fun _ _ _ _ _ => dts_nil) (fun _ _ _ _ _ => (de_c (do_ne (u65 hr)) (de_ix (u65 hr) (de_v 2) (de_v 4)) (de_ix (u65 hr) (de_v 2) (de_v 5))))) da_nil))))))))
theorem ok_cup_cup (T : Txt P K mg) : FnD P w K mg base 1 T.a_cup_cup T.d_cup_cup ["_law_script", "_law_k"] (sp_cup_cup T.a_Web) := by
  refine fnD_ok (w0 := w_cup_cup T.a_Web) (fun_at T.F_cup_cup) sc_cup_cup (len_cup_cup _) (fun cdv A outer s H E hr hg => ?_) (pure_cup_cup T.a_Web)
  exact (dss_cons (ds_set (i := 2) sc_cup_cup.nd (de_if (dt_c do_lt (de_v 1) (de_callB dc_len (by rfl) T.z_len boot_len (da_cons (de_v 0) da_nil))) (de_callTy dc_int (by rfl) T.z_int boot_int (da_cons (de_ix (u65 hr) (de_v 0) (de_v 1)) da_nil)) (de_o do_add (de_o do_mul de_int (de_v 1)) de_int)))
    (dss_cons (ds_set (i := 3) sc_cup_cup.nd (de_o do_add de_int (de_o do_mul de_int (de_v 1))))
    (dss_cons (ds_for PassesOwn.never rfl (di_seq (de_o do_add (de_sl (de_v 0) dp_none (dp_some de_int)) (de_lst (da_cons (de_v 2) da_nil)))) (dg_v (i := 4) sc_cup_cup.nd) (dss_one (ds_set (i := 3) sc_cup_cup.nd (de_o do_mod (de_callTy dc_int (by rfl) T.z_int boot_int (da_cons (de_o do_add (de_o do_mul (de_v 3) de_int) (de_callTy dc_int (by rfl) T.z_int boot_int (da_cons (de_v 4) da_nil))) da_nil)) de_int))))
    (dss_one (ds_ret (de_new (da_cons (de_if (dw_pt (dw_or (dt_c do_lt (de_v 2) de_int) (dw_or1 (dt_c do_ge (de_v 2) (de_o do_pow de_int de_int))))) (de_callB dc_abs (by rfl) T.z_abs boot_abs (da_cons (de_v 2) da_nil)) de_int) (da_cons (de_v 3) (da_cons de_int da_nil)))))))))
theorem ok_cup_sip (T : Txt P K mg) : FnD P w K mg base 1 T.a_cup_sip T.d_cup_sip ["_law_cup_here", "_law_many"] (sp_cup_sip T.a_Web) := by
  refine fnD_ok (w0 := w_cup_sip T.a_Web) (fun_at T.F_cup_sip) sc_cup_sip (len_cup_sip _) (fun cdv A outer s H E hr hg => ?_) (pure_cup_sip T.a_Web)
  exact (dss_cons (ds_sub (u65 hr) (de_v 0) de_int (de_o do_add (de_ix (u65 hr) (de_v 0) de_int) de_int))
    (dss_cons (ds_set (i := 2) sc_cup_sip.nd (de_callTy dc_int (by rfl) T.z_int boot_int (da_cons (de_ix (u65 hr) (de_v 0) de_int) da_nil)))
    (dss_cons (ds_sub (u65 hr) (de_v 0) de_int (de_o do_mod (de_callTy dc_int (by rfl) T.z_int boot_int (da_cons (de_o do_add (de_o do_add (de_o do_mul (de_v 2) (de_o do_add (de_o do_mod (de_callTy dc_int (by rfl) T.z_int boot_int (da_cons (de_v 2) da_nil)) de_int) de_int)) (de_o do_mul de_int (de_ix (u65 hr) (de_v 0) de_int))) de_int) da_nil)) de_int))
    (dss_cons (ds_if (dt_c do_gt (de_ix (u65 hr) (de_v 0) de_int) de_int) (dss_cons (ds_asg (de_callB dc_divmod (by rfl) T.z_divmod boot_divmod (da_cons (de_ix (u65 hr) (de_v 0) de_int) (da_cons (de_v 1) da_nil))) (dg_tup rfl (dgs_cons (dg_sub (pset_sub (u65 hr)) (de_v 0) de_int) (dgs_cons (dg_v (i := 3) sc_cup_sip.nd) dgs_nil))))
    (dss_one (ds_ret (de_v 3)))) dss_nil)
    (dss_one (ds_ret (de_o do_mod (de_callTy dc_int (by rfl) T.z_int boot_int (da_cons (de_o do_div (de_ix (u65 hr) (de_v 0) de_int) de_int) da_nil)) (de_v 1))))))))
theorem ok_cup_folk (T : Txt P K mg) : FnD P w K mg base 2 T.a_cup_folk T.d_cup_folk ["_law_cup_here", "_law_many"] (sp_cup_folk T.a_Web) := by
  refine fnD_ok (w0 := w_cup_folk T.a_Web) (fun_at T.F_cup_folk) sc_cup_folk (len_cup_folk _) (fun cdv A outer s H E hr hg => ?_) (pure_cup_folk T.a_Web)
  exact (dss_cons (ds_set (i := 2) sc_cup_folk.nd (de_fn (FnG.up (ok_cup_sip T) (by decide)) hr hg T.m_cup_sip T.F_cup_sip.kp (b_cup_sip T.F_cup_sip) .nil lits_nil (da_cons (de_v 0) (da_cons de_int da_nil))))
    (dss_cons (ds_if (dw_pt (dw_and (dt_c (do_eq (u65 hr)) (de_fn (FnG.up (ok_cup_sip T) (by decide)) hr hg T.m_cup_sip T.F_cup_sip.kp (b_cup_sip T.F_cup_sip) .nil lits_nil (da_cons (de_v 0) (da_cons de_int da_nil))) de_int) (dw_and1 (dt_c do_lt (de_v 1) de_int)))) (dss_cons (ds_set (i := 3) sc_cup_folk.nd (de_lst (da_cons de_str (da_cons de_str (da_cons de_str (da_cons de_str (da_cons de_str (da_cons de_str (da_cons de_str (da_cons de_str (da_cons de_str (da_cons de_str (da_cons de_str da_nil)))))))))))))
    (dss_cons (ds_set (i := 4) sc_cup_folk.nd (de_o do_add de_int (de_fn (FnG.up (ok_cup_sip T) (by decide)) hr hg T.m_cup_sip T.F_cup_sip.kp (b_cup_sip T.F_cup_sip) .nil lits_nil (da_cons (de_v 0) (da_cons de_int da_nil)))))
    (dss_one (ds_ret (de_callTy dc_tupleF (by rfl) T.z_tuple boot_tuple (da_cons (de_lcP rfl sc_cup_folk.nd (di_rng1 T.z_range (da_cons (de_v 1) da_nil)) (own := [("_law_k", 8)]) (nt := (.n 8)) (blkOk_by (by kernel_rfl)) (by decide) (fun _ _ _ _ _ => (pg_name (i := 8) sc_cup_folk.nd rfl (.inl rfl))) (fun _ _ _ _ _ => dts_nil) (fun _ _ _ _ _ => (de_ix (u65 hr) (de_v 3) (de_o do_mod (de_callTy dc_int (by rfl) T.z_int boot_int (da_cons (de_o do_add (de_v 2) (de_o do_mul (de_v 4) (de_v 8))) da_nil)) de_int)))) da_nil)))))) dss_nil)
    (dss_cons (ds_asg (de_tup (da_cons de_str (da_cons (de_o do_add de_int (de_o do_mul de_int (de_fn (FnG.up (ok_cup_sip T) (by decide)) hr hg T.m_cup_sip T.F_cup_sip.kp (b_cup_sip T.F_cup_sip) .nil lits_nil (da_cons (de_v 0) (da_cons de_int da_nil))))) da_nil))) (dg_tup rfl (dgs_cons (dg_v (i := 5) sc_cup_folk.nd) (dgs_cons (dg_v (i := 4) sc_cup_folk.nd) dgs_nil))))
    (dss_cons (ds_set (i := 6) sc_cup_folk.nd (de_join de_str (de_lcF rfl sc_cup_folk.nd (di_rng1 T.z_range (da_cons (de_fn (FnG.up (ok_cup_sip T) (by decide)) hr hg T.m_cup_sip T.F_cup_sip.kp (b_cup_sip T.F_cup_sip) .nil lits_nil (da_cons (de_v 0) (da_cons de_int da_nil))) da_nil)) (own := [("_law_k", 8)]) (nt := (.n 8)) (blkOk_by (by kernel_rfl)) (by decide) (fun _ _ _ _ _ => (pg_name (i := 8) sc_cup_folk.nd rfl (.inl rfl))) (fun _ _ _ _ _ => dts_nil) (fun _ _ _ _ _ => (de_ix (u65 hr) (de_v 5) (de_fn (FnG.up (ok_cup_sip T) (by decide)) hr hg T.m_cup_sip T.F_cup_sip.kp (b_cup_sip T.F_cup_sip) .nil lits_nil (da_cons (de_v 0) (da_cons de_int da_nil))))))))
    (dss_cons (ds_set (i := 7) sc_cup_folk.nd (de_lst (da_cons de_str (da_cons de_str da_nil))))
    (dss_one (ds_ret (de_callTy dc_tupleF (by rfl) T.z_tuple boot_tuple (da_cons (de_lcP rfl sc_cup_folk.nd (di_rng1 T.z_range (da_cons (de_v 1) da_nil)) (own := [("_law_k", 8)]) (nt := (.n 8)) (blkOk_by (by kernel_rfl)) (by decide) (fun _ _ _ _ _ => (pg_name (i := 8) sc_cup_folk.nd rfl (.inl rfl))) (fun _ _ _ _ _ => dts_nil) (fun _ _ _ _ _ => (de_o do_add (de_o do_add (de_v 6) (de_ix (u65 hr) (de_v 7) (de_o do_div (de_v 8) de_int))) (de_ix (u65 hr) (de_v 5) (de_o do_mod (de_callTy dc_int (by rfl) T.z_int boot_int (da_cons (de_o do_add (de_v 2) (de_o do_mul (de_v 4) (de_v 8))) da_nil)) de_int))))) da_nil)))))))))
theorem ok_k16_mixed (T : Txt P K mg) : FnD P w K mg base 2 T.a_k16_mixed T.d_k16_mixed ["_law_cup_here", "_law_things"] (sp_k16_mixed T.a_Web) := by
  refine fnD_ok (w0 := w_k16_mixed T.a_Web) (fun_at T.F_k16_mixed) sc_k16_mixed (len_k16_mixed _) (fun cdv A outer s H E hr hg => ?_) (pure_k16_mixed T.a_Web)
  exact (dss_cons (ds_set (i := 2) sc_k16_mixed.nd (de_new da_nil))
    (dss_cons (ds_for PassesOwn.never rfl (di_seq (de_v 1)) (dg_v (i := 3) sc_k16_mixed.nd) (dss_one (ds_expr (de_bm dm_insert F.plainAttrs_list F.slot_list_insert F.type_list_insert (de_v 2) (da_cons (de_fn (FnG.up (ok_cup_sip T) (by decide)) hr hg T.m_cup_sip T.F_cup_sip.kp (b_cup_sip T.F_cup_sip) .nil lits_nil (da_cons (de_v 0) (da_cons (de_o do_add (de_callB dc_len (by rfl) T.z_len boot_len (da_cons (de_v 2) da_nil)) de_int) da_nil))) (da_cons (de_v 3) da_nil))))))
    (dss_one (ds_ret (de_callTy dc_tupleF (by rfl) T.z_tuple boot_tuple (da_cons (de_v 2) da_nil))))))
theorem ok_k16_whole (T : Txt P K mg) : FnD P w K mg base 1 T.a_k16_whole T.d_k16_whole ["_law_net", "_law_row"] (sp_k16_whole T.a_Web) := by
  refine fnD_ok (w0 := w_k16_whole T.a_Web) (fun_at T.F_k16_whole) sc_k16_whole (len_k16_whole _) (fun cdv A outer s H E hr hg => ?_) (pure_k16_whole T.a_Web)
  exact (dss_cons (ds_if (dw_pt (dw_or (dt_not (dt_b (de_callB (dc_isiT "tuple" [] (by decide) (fun _ h => nomatch h)) (by rfl) T.z_isinstance boot_isinstance (da_cons (de_v 1) (da_cons (de_bT T.z_tuple boot_tuple) da_nil))))) (dw_or1 (dt_c (do_ne (u65 hr)) (de_callB dc_sorted (by rfl) T.z_sorted boot_sorted (da_cons (de_v 1) da_nil)) (de_callB dc_sorted (by rfl) T.z_sorted boot_sorted (da_cons (de_ix (u65 hr) (de_v 0) de_int) da_nil)))))) (dss_one (ds_ret de_bl)) dss_nil)
    (dss_one (ds_ret (de_callB (dc_all rfl) (by rfl) T.z_all boot_all (da_cons (de_lcP rfl sc_k16_whole.nd (di_rng2 T.z_range (da_cons de_int (da_cons (de_callB dc_len (by rfl) T.z_len boot_len (da_cons (de_v 1) da_nil)) da_nil))) (own := [("_law_k", 2)]) (nt := (.n 2)) (blkOk_by (by kernel_rfl)) (by decide) (fun _ _ _ _ _ => (pg_name (i := 2) sc_k16_whole.nd rfl (.inl rfl))) (fun _ _ _ _ _ => dts_nil) (fun _ _ _ _ _ => (de_c (do_in (u65 hr)) (de_tup (da_cons (de_ix (u65 hr) (de_v 1) (de_o do_sub (de_v 2) de_int)) (da_cons (de_ix (u65 hr) (de_v 1) (de_v 2)) da_nil))) (de_ix (u65 hr) (de_v 0) de_int)))) da_nil)))))
theorem ok_k16_row (T : Txt P K mg) : FnD P w K mg base 6 T.a_k16_row T.d_k16_row ["_law_cup_here", "_law_folk_here"] (sp_k16_row T.a_Web) := by
  refine fnD_ok (w0 := w_k16_row T.a_Web) (fun_at T.F_k16_row) sc_k16_row (len_k16_row _) (fun cdv A outer s H E hr hg => ?_) (pure_k16_row T.a_Web)
  exact (dss_cons (ds_set (i := 2) sc_k16_row.nd (de_callB dc_len (by rfl) T.z_len boot_len (da_cons (de_v 1) da_nil)))
    (dss_cons (ds_setLcP (i := 3) rfl sc_k16_row.nd (di_rng1 T.z_range (da_cons (de_o do_sub (de_v 2) de_int) da_nil)) (own := [("_law_k", 11)]) (nt := (.n 11)) (blkOk_by (by kernel_rfl)) (by decide) (fun _ _ _ _ _ => (pg_name (i := 11) sc_k16_row.nd rfl (.inl rfl))) (fun _ _ _ _ _ => dts_nil) (fun _ _ _ _ _ => (de_tup (da_cons (de_ix (u65 hr) (de_v 1) (de_v 11)) (da_cons (de_ix (u65 hr) (de_v 1) (de_o do_add (de_v 11) de_int)) da_nil)))))
    (dss_cons (ds_par (i := 4) (j := 5) rfl sc_k16_row.nd (da_cons (de_callTy dc_tupleF (by rfl) T.z_tuple boot_tuple (da_cons (de_lcP rfl sc_k16_row.nd (di_rng1 T.z_range (da_cons (de_v 2) da_nil)) (own := [("_law_k", 11)]) (nt := (.n 11)) (blkOk_by (by kernel_rfl)) (by decide) (fun _ _ _ _ _ => (pg_name (i := 11) sc_k16_row.nd rfl (.inl rfl))) (fun _ _ _ _ _ => dts_nil) (fun _ _ _ _ _ => (de_o do_add (de_v 11) de_int))) da_nil)) (da_cons (de_tup (da_cons (de_ix (u65 hr) (de_v 1) (de_u do_neg de_int)) (da_cons (de_ix (u65 hr) (de_v 1) de_int) da_nil))) da_nil)))
    (dss_cons (ds_set (i := 6) sc_k16_row.nd (de_makeF T.k_Web (ok_Web_init T) (hr.mono (by decide)) hg T.m_Web (b_Web_init T) .nil lits_nil (da_cons (de_v 1) (da_cons (de_fn (FnG.up (ok_k16_mixed T) (by decide)) hr hg T.m_k16_mixed T.F_k16_mixed.kp (b_k16_mixed T.F_k16_mixed) .nil lits_nil (da_cons (de_v 0) (da_cons (de_v 3) da_nil))) da_nil))))
    (dss_cons (ds_if (dt_c (do_ne (u65 hr)) (de_lst (da_cons (de_fn (FnG.up (ok_colouringU T) (by decide)) hr hg T.m_colouringU T.F_colouringU.kp (b_colouringU T.F_colouringU) .nil lits_nil (da_cons (de_v 6) da_nil)) (da_cons (de_fn (FnG.up (ok_long_roadU T) (by decide)) hr hg T.m_long_roadU T.F_long_roadU.kp (b_long_roadU T.F_long_roadU) .nil lits_nil (da_cons (de_v 6) da_nil)) da_nil))) (de_lst (da_cons (de_v 4) (da_cons (de_v 1) da_nil)))) (dss_one (ds_ret de_bl)) dss_nil)
    (dss_cons (ds_if (dt_c do_lt (de_v 2) de_int) (dss_one (ds_ret de_bl)) dss_nil)
    (dss_cons (ds_par (i := 7) (j := 8) rfl sc_k16_row.nd (da_cons (de_makeF T.k_Web (ok_Web_init T) (hr.mono (by decide)) hg T.m_Web (b_Web_init T) .nil lits_nil (da_cons (de_v 1) (da_cons (de_o do_addF (de_fn (FnG.up (ok_k16_mixed T) (by decide)) hr hg T.m_k16_mixed T.F_k16_mixed.kp (b_k16_mixed T.F_k16_mixed) .nil lits_nil (da_cons (de_v 0) (da_cons (de_v 3) da_nil))) (de_tup (da_cons (de_v 5) da_nil))) da_nil))) (da_cons (de_tup (da_cons (de_v 1) (da_cons (de_o do_addF (de_callTy dc_tupleF (by rfl) T.z_tuple boot_tuple (da_cons (de_v 3) da_nil)) (de_tup (da_cons (de_v 5) da_nil))) da_nil))) da_nil)))
    (dss_cons (ds_if (dw_pt (dw_or (dt_c (do_ne (u65 hr)) (de_fn (FnG.up (ok_colouringU T) (by decide)) hr hg T.m_colouringU T.F_colouringU.kp (b_colouringU T.F_colouringU) .nil lits_nil (da_cons (de_v 7) da_nil)) (de_v 4)) (dw_or1 (dt_not (dt_b (de_fn (FnG.up (ok_k16_whole T) (by decide)) hr hg T.m_k16_whole T.F_k16_whole.kp (b_k16_whole T.F_k16_whole) .nil lits_nil (da_cons (de_v 8) (da_cons (de_fn (FnG.up (ok_long_roadU T) (by decide)) hr hg T.m_long_roadU T.F_long_roadU.kp (b_long_roadU T.F_long_roadU) .nil lits_nil (da_cons (de_v 7) da_nil)) da_nil)))))))) (dss_one (ds_ret de_bl)) dss_nil)
    (dss_cons (ds_set (i := 9) sc_k16_row.nd (de_makeF T.k_Web (ok_Web_init T) (hr.mono (by decide)) hg T.m_Web (b_Web_init T) .nil lits_nil (da_cons (de_v 1) (da_cons (de_o do_addF (de_tup (da_cons (de_v 5) da_nil)) (de_callTy dc_tupleF (by rfl) T.z_tuple boot_tuple (da_cons (de_v 3) da_nil))) da_nil))))
    (dss_cons (ds_set (i := 10) sc_k16_row.nd (de_callTy dc_tupleF (by rfl) T.z_tuple boot_tuple (da_cons (de_o do_add (de_lcP rfl sc_k16_row.nd (di_rng1 T.z_range (da_cons (de_o do_sub (de_v 2) de_int) da_nil)) (own := [("_law_k", 11)]) (nt := (.n 11)) (blkOk_by (by kernel_rfl)) (by decide) (fun _ _ _ _ _ => (pg_name (i := 11) sc_k16_row.nd rfl (.inl rfl))) (fun _ _ _ _ _ => dts_nil) (fun _ _ _ _ _ => (de_o do_add de_int (de_v 11)))) (de_lst (da_cons de_int da_nil))) da_nil)))
    (dss_one (ds_ret (de_and (de_c (do_eq (u65 hr)) (de_fn (FnG.up (ok_colouringU T) (by decide)) hr hg T.m_colouringU T.F_colouringU.kp (b_colouringU T.F_colouringU) .nil lits_nil (da_cons (de_v 9) da_nil)) (de_v 10)) (de_one (de_fn (FnG.up (ok_k16_whole T) (by decide)) hr hg T.m_k16_whole T.F_k16_whole.kp (b_k16_whole T.F_k16_whole) .nil lits_nil (da_cons (de_v 8) (da_cons (de_fn (FnG.up (ok_long_roadU T) (by decide)) hr hg T.m_long_roadU T.F_long_roadU.kp (b_long_roadU T.F_long_roadU) .nil lits_nil (da_cons (de_v 9) da_nil)) da_nil)))))))))))))))))
theorem ok_k16_star (T : Txt P K mg) : FnD P w K mg base 6 T.a_k16_star T.d_k16_star ["_law_cup_here", "_law_folk_here"] (sp_k16_star T.a_Web) := by
  refine fnD_ok (w0 := w_k16_star T.a_Web) (fun_at T.F_k16_star) sc_k16_star (len_k16_star _) (fun cdv A outer s H E hr hg => ?_) (pure_k16_star T.a_Web)
  exact (dss_cons (ds_set (i := 2) sc_k16_star.nd (de_fn (FnG.up (ok_cup_sip T) (by decide)) hr hg T.m_cup_sip T.F_cup_sip.kp (b_cup_sip T.F_cup_sip) .nil lits_nil (da_cons (de_v 0) (da_cons (de_callB dc_len (by rfl) T.z_len boot_len (da_cons (de_v 1) da_nil)) da_nil))))
    (dss_cons (ds_set (i := 3) sc_k16_star.nd (de_makeF T.k_Web (ok_Web_init T) (hr.mono (by decide)) hg T.m_Web (b_Web_init T) .nil lits_nil (da_cons (de_v 1) (da_cons (de_fn (FnG.up (ok_k16_mixed T) (by decide)) hr hg T.m_k16_mixed T.F_k16_mixed.kp (b_k16_mixed T.F_k16_mixed) .nil lits_nil (da_cons (de_v 0) (da_cons (de_lcP rfl sc_k16_star.nd (di_seq (de_v 1)) (own := [("_law_each", 6)]) (nt := (.n 6)) (blkOk_by (by kernel_rfl)) (by decide) (fun _ _ _ _ _ => (pg_name (i := 6) sc_k16_star.nd rfl (.inl rfl))) (fun _ _ _ _ _ => (dts_one (dt_c (do_ne (u65 hr)) (de_v 6) (de_ix (u65 hr) (de_v 1) (de_v 2))))) (fun _ _ _ _ _ => (de_tup (da_cons (de_ix (u65 hr) (de_v 1) (de_v 2)) (da_cons (de_v 6) da_nil))))) da_nil))) da_nil))))
    (dss_cons (ds_set (i := 4) sc_k16_star.nd (de_callTy dc_tupleF (by rfl) T.z_tuple boot_tuple (da_cons (de_lcP rfl sc_k16_star.nd (di_rng1 T.z_range (da_cons (de_callB dc_len (by rfl) T.z_len boot_len (da_cons (de_v 1) da_nil)) da_nil)) (own := [("_law_k", 7)]) (nt := (.n 7)) (blkOk_by (by kernel_rfl)) (by decide) (fun _ _ _ _ _ => (pg_name (i := 7) sc_k16_star.nd rfl (.inl rfl))) (fun _ _ _ _ _ => dts_nil) (fun _ _ _ _ _ => (de_if (dt_c (do_eq (u65 hr)) (de_v 7) (de_v 2)) de_int de_int))) da_nil)))
    (dss_cons (ds_if (dw_pt (dw_or (dt_c (do_ne (u65 hr)) (de_fn (FnG.up (ok_colouringU T) (by decide)) hr hg T.m_colouringU T.F_colouringU.kp (b_colouringU T.F_colouringU) .nil lits_nil (da_cons (de_v 3) da_nil)) (de_v 4)) (dw_or1 (dt_c (do_ne (u65 hr)) (de_callB dc_len (by rfl) T.z_len boot_len (da_cons (de_fn (FnG.up (ok_long_roadU T) (by decide)) hr hg T.m_long_roadU T.F_long_roadU.kp (b_long_roadU T.F_long_roadU) .nil lits_nil (da_cons (de_v 3) da_nil)) da_nil)) (de_callB (dc_min rfl) (by rfl) T.z_min boot_min (da_cons de_int (da_cons (de_callB dc_len (by rfl) T.z_len boot_len (da_cons (de_v 1) da_nil)) da_nil))))))) (dss_one (ds_ret de_bl)) dss_nil)
    (dss_cons (ds_set (i := 5) sc_k16_star.nd (de_makeFd T.k_Web0 (ok_Web_init0 T) (hr.mono (by decide)) hg T.m_Web (bd_Web_init0 T).2 (bd_Web_init0 T).1 (litsK_unit T.du_Web) (da_cons (de_v 1) da_nil)))
    (dss_cons (ds_if (dw_pt (dw_or (dt_c (do_ne (u65 hr)) (de_fn (FnG.up (ok_colouringU T) (by decide)) hr hg T.m_colouringU T.F_colouringU.kp (b_colouringU T.F_colouringU) .nil lits_nil (da_cons (de_v 5) da_nil)) (de_o do_mulU (de_tup (da_cons de_int da_nil)) (de_callB dc_len (by rfl) T.z_len boot_len (da_cons (de_v 1) da_nil)))) (dw_or1 (dt_c (do_ne (u65 hr)) (de_callB dc_len (by rfl) T.z_len boot_len (da_cons (de_fn (FnG.up (ok_long_roadU T) (by decide)) hr hg T.m_long_roadU T.F_long_roadU.kp (b_long_roadU T.F_long_roadU) .nil lits_nil (da_cons (de_v 5) da_nil)) da_nil)) de_int)))) (dss_one (ds_ret de_bl)) dss_nil)
    (dss_one (ds_ret (de_and (de_fn (FnG.up (ok_is_colouringU T) (by decide)) hr hg T.m_is_colouringU T.F_is_colouringU.kp (b_is_colouringU T.F_is_colouringU) .nil lits_nil (da_cons (de_v 5) (da_cons (de_o do_mulU (de_tup (da_cons de_int da_nil)) (de_callB dc_len (by rfl) T.z_len boot_len (da_cons (de_v 1) da_nil))) da_nil))) (de_one (de_fn (FnG.up (ok_is_colouringU T) (by decide)) hr hg T.m_is_colouringU T.F_is_colouringU.kp (b_is_colouringU T.F_is_colouringU) .nil lits_nil (da_cons (de_v 3) (da_cons (de_callTy dc_tupleF (by rfl) T.z_tuple boot_tuple (da_cons (de_lcP rfl sc_k16_star.nd (di_seq (de_v 4)) (own := [("_law_each", 6)]) (nt := (.n 6)) (blkOk_by (by kernel_rfl)) (by decide) (fun _ _ _ _ _ => (pg_name (i := 6) sc_k16_star.nd rfl (.inl rfl))) (fun _ _ _ _ _ => dts_nil) (fun _ _ _ _ _ => (de_o do_sub de_int (de_v 6)))) da_nil)) da_nil)))))))))))))
theorem ok_k16_both (T : Txt P K mg) : FnD P w K mg base 6 T.a_k16_both T.d_k16_both ["_law_cup_here", "_law_folk_here"] (sp_k16_both T.a_Web) := by
  refine fnD_ok (w0 := w_k16_both T.a_Web) (fun_at T.F_k16_both) sc_k16_both (len_k16_both _) (fun cdv A outer s H E hr hg => ?_) (pure_k16_both T.a_Web)
  exact (dss_cons (ds_set (i := 2) sc_k16_both.nd (de_lst da_nil))
    (dss_cons (ds_for PassesOwn.never rfl (di_seq (de_v 1)) (dg_v (i := 3) sc_k16_both.nd) (dss_one (ds_set (i := 2) sc_k16_both.nd (de_o do_add (de_v 2) (de_lcP rfl sc_k16_both.nd (di_seq (de_v 1)) (own := [("_law_two", 6)]) (nt := (.n 6)) (blkOk_by (by kernel_rfl)) (by decide) (fun _ _ _ _ _ => (pg_name (i := 6) sc_k16_both.nd rfl (.inl rfl))) (fun _ _ _ _ _ => (dts_one (dt_c (do_ne (u65 hr)) (de_v 6) (de_v 3)))) (fun _ _ _ _ _ => (de_tup (da_cons (de_v 3) (da_cons (de_v 6) da_nil)))))))))
    (dss_cons (ds_par (i := 4) (j := 5) rfl sc_k16_both.nd (da_cons (de_makeF T.k_Web (ok_Web_init T) (hr.mono (by decide)) hg T.m_Web (b_Web_init T) .nil lits_nil (da_cons (de_v 1) (da_cons (de_callTy dc_tupleF (by rfl) T.z_tuple boot_tuple (da_cons (de_v 2) da_nil)) da_nil))) (da_cons (de_callB dc_len (by rfl) T.z_len boot_len (da_cons (de_v 1) da_nil)) da_nil)))
    (dss_cons (ds_if (dw_pt (dw_or (dt_c (do_ne (u65 hr)) (de_fn (FnG.up (ok_colouringU T) (by decide)) hr hg T.m_colouringU T.F_colouringU.kp (b_colouringU T.F_colouringU) .nil lits_nil (da_cons (de_v 4) da_nil)) (de_callTy dc_tupleF (by rfl) T.z_tuple boot_tuple (da_cons (de_lcP rfl sc_k16_both.nd (di_rng1 T.z_range (da_cons (de_v 5) da_nil)) (own := [("_law_k", 7)]) (nt := (.n 7)) (blkOk_by (by kernel_rfl)) (by decide) (fun _ _ _ _ _ => (pg_name (i := 7) sc_k16_both.nd rfl (.inl rfl))) (fun _ _ _ _ _ => dts_nil) (fun _ _ _ _ _ => (de_o do_add (de_v 7) de_int))) da_nil))) (dw_or1 (dt_not (dt_b (de_fn (FnG.up (ok_k16_whole T) (by decide)) hr hg T.m_k16_whole T.F_k16_whole.kp (b_k16_whole T.F_k16_whole) .nil lits_nil (da_cons (de_tup (da_cons (de_v 1) (da_cons (de_callTy dc_tupleF (by rfl) T.z_tuple boot_tuple (da_cons (de_v 2) da_nil)) da_nil))) (da_cons (de_fn (FnG.up (ok_long_roadU T) (by decide)) hr hg T.m_long_roadU T.F_long_roadU.kp (b_long_roadU T.F_long_roadU) .nil lits_nil (da_cons (de_v 4) da_nil)) da_nil)))))))) (dss_one (ds_ret de_bl)) dss_nil)
    (dss_one (ds_ret (de_if (dt_c do_gt (de_v 5) de_int) (de_not (de_fn (FnG.up (ok_is_colouringU T) (by decide)) hr hg T.m_is_colouringU T.F_is_colouringU.kp (b_is_colouringU T.F_is_colouringU) .nil lits_nil (da_cons (de_v 4) (da_cons (de_o do_mulU (de_tup (da_cons de_int da_nil)) (de_v 5)) da_nil)))) (de_fn (FnG.up (ok_is_colouringU T) (by decide)) hr hg T.m_is_colouringU T.F_is_colouringU.kp (b_is_colouringU T.F_is_colouringU) .nil lits_nil (da_cons (de_v 4) (da_cons (de_tup (da_cons de_int da_nil)) da_nil))))))))))
theorem ok_k16_right (T : Txt P K mg) : FnD P w K mg base 7 T.a_k16_right T.d_k16_right ["_law_cup_here"] (sp_k16_right T.a_Web) := by
  refine fnD_ok (w0 := w_k16_right T.a_Web) (fun_at T.F_k16_right) sc_k16_right (len_k16_right _) (fun cdv A outer s H E hr hg => ?_) (pure_k16_right T.a_Web)
  exact (dss_cons (ds_if (dt_not (dt_b (de_fn (FnG.up (ok_k16_row T) (by decide)) hr hg T.m_k16_row T.F_k16_row.kp (b_k16_row T.F_k16_row) .nil lits_nil (da_cons (de_v 0) (da_cons (de_fn (FnG.up (ok_cup_folk T) (by decide)) hr hg T.m_cup_folk T.F_cup_folk.kp (b_cup_folk T.F_cup_folk) .nil lits_nil (da_cons (de_v 0) (da_cons (de_o do_add de_int (de_fn (FnG.up (ok_cup_sip T) (by decide)) hr hg T.m_cup_sip T.F_cup_sip.kp (b_cup_sip T.F_cup_sip) .nil lits_nil (da_cons (de_v 0) (da_cons de_int da_nil)))) da_nil))) da_nil))))) (dss_one (ds_ret de_bl)) dss_nil)
    (dss_one (ds_ret (de_and (de_fn (FnG.up (ok_k16_star T) (by decide)) hr hg T.m_k16_star T.F_k16_star.kp (b_k16_star T.F_k16_star) .nil lits_nil (da_cons (de_v 0) (da_cons (de_fn (FnG.up (ok_cup_folk T) (by decide)) hr hg T.m_cup_folk T.F_cup_folk.kp (b_cup_folk T.F_cup_folk) .nil lits_nil (da_cons (de_v 0) (da_cons (de_o do_add de_int (de_fn (FnG.up (ok_cup_sip T) (by decide)) hr hg T.m_cup_sip T.F_cup_sip.kp (b_cup_sip T.F_cup_sip) .nil lits_nil (da_cons (de_v 0) (da_cons de_int da_nil)))) da_nil))) da_nil))) (de_one (de_fn (FnG.up (ok_k16_both T) (by decide)) hr hg T.m_k16_both T.F_k16_both.kp (b_k16_both T.F_k16_both) .nil lits_nil (da_cons (de_v 0) (da_cons (de_fn (FnG.up (ok_cup_folk T) (by decide)) hr hg T.m_cup_folk T.F_cup_folk.kp (b_cup_folk T.F_cup_folk) .nil lits_nil (da_cons (de_v 0) (da_cons (de_o do_add de_int (de_fn (FnG.up (ok_cup_sip T) (by decide)) hr hg T.m_cup_sip T.F_cup_sip.kp (b_cup_sip T.F_cup_sip) .nil lits_nil (da_cons (de_v 0) (da_cons de_int da_nil)))) da_nil))) da_nil))))))))
theorem ok_k16_law (T : Txt P K mg) : FnD P w K mg base 8 T.a_k16_law T.d_k16_law ["_law_script"] (sp_k16_law T.a_Web) := by
  refine fnD_ok (w0 := w_k16_law T.a_Web) (fun_at T.F_k16_law) sc_k16_law (len_k16_law _) (fun cdv A outer s H E hr hg => ?_) (pure_k16_law T.a_Web)
  exact (dss_one (ds_ret (de_callB (dc_all rfl) (by rfl) T.z_all boot_all (da_cons (de_lcF rfl sc_k16_law.nd (di_rng1 T.z_range (da_cons (de_callB (dc_max rfl) (by rfl) T.z_max boot_max (da_cons de_int (da_cons (de_callB (dc_min rfl) (by rfl) T.z_min boot_min (da_cons (de_callB dc_len (by rfl) T.z_len boot_len (da_cons (de_v 0) da_nil)) (da_cons de_int da_nil))) da_nil))) da_nil)) (own := [("_law_k", 1)]) (nt := (.n 1)) (blkOk_by (by kernel_rfl)) (by decide) (fun _ _ _ _ _ => (pg_name (i := 1) sc_k16_law.nd rfl (.inl rfl))) (fun _ _ _ _ _ => dts_nil) (fun _ _ _ _ _ => (de_fn (FnG.up (ok_k16_right T) (by decide)) hr hg T.m_k16_right T.F_k16_right.kp (b_k16_right T.F_k16_right) .nil lits_nil (da_cons (de_fn (FnG.up (ok_cup_cup T) (by decide)) hr hg T.m_cup_cup T.F_cup_cup.kp (b_cup_cup T.F_cup_cup) .nil lits_nil (da_cons (de_v 0) (da_cons (de_v 1) da_nil))) da_nil)))) da_nil))))
end

end L2.DL
namespace L2.DL
open PySem PySem.Spec PyProof.Rows

/-! ### the head -/
theorem all_mk {l : PySem.W.OpenLaw} {w : World} {K : PySem.W.Frag} {h : Heap} {mg : Str → Option Value} {fa : Addr} {kz : ClassData} {C f_is_name f_wrong_place f_is_pair f_wrong_tie f_check_places f_check_ties f_Web_init dT_Web_init da_Web_init f_wrong_tie0 f_check_ties0 f_Web_init0 dT_Web_init0 da_Web_init0 f_Web_lenU f_check_webU f_comes_to f_ringless_partU f_colours_by f_colouringU f_long_roadU f_is_integerA f_is_colouringU f_cup_cup f_cup_sip f_cup_folk f_k16_mixed f_k16_whole f_k16_row f_k16_star f_k16_both f_k16_right f_k16_law pa_places f_g_places pa_ties f_g_ties : Addr} {od_is_name an_is_name od_wrong_place an_wrong_place od_is_pair an_is_pair od_wrong_tie an_wrong_tie od_check_places an_check_places od_check_ties an_check_ties od_Web_init an_Web_init dd_Web_init od_wrong_tie0 an_wrong_tie0 od_check_ties0 an_check_ties0 od_Web_init0 an_Web_init0 dd_Web_init0 du_Web_init0 od_Web_lenU an_Web_lenU od_check_webU an_check_webU od_comes_to an_comes_to od_ringless_partU an_ringless_partU od_colours_by an_colours_by od_colouringU an_colouringU od_long_roadU an_long_roadU od_is_integerA an_is_integerA od_is_colouringU an_is_colouringU od_cup_cup an_cup_cup od_cup_sip an_cup_sip od_cup_folk an_cup_folk od_k16_mixed an_k16_mixed od_k16_whole an_k16_whole od_k16_row an_k16_row od_k16_star an_k16_star od_k16_both an_k16_both od_k16_right an_k16_right od_k16_law an_k16_law od_g_places an_g_places od_g_ties an_g_ties : Option Addr} {oc_is_name kV_is_name dc_is_name pm_is_name cd_is_name ct_is_name oc_wrong_place kV_wrong_place dc_wrong_place pm_wrong_place cd_wrong_place ct_wrong_place oc_is_pair kV_is_pair dc_is_pair pm_is_pair cd_is_pair ct_is_pair oc_wrong_tie kV_wrong_tie dc_wrong_tie pm_wrong_tie cd_wrong_tie ct_wrong_tie oc_check_places kV_check_places dc_check_places pm_check_places cd_check_places ct_check_places oc_check_ties kV_check_ties dc_check_ties pm_check_ties cd_check_ties ct_check_ties oc_Web_init kV_Web_init dc_Web_init pm_Web_init cd_Web_init ct_Web_init do_Web_init dv_Web_init oc_wrong_tie0 kV_wrong_tie0 dc_wrong_tie0 pm_wrong_tie0 cd_wrong_tie0 ct_wrong_tie0 oc_check_ties0 kV_check_ties0 dc_check_ties0 pm_check_ties0 cd_check_ties0 ct_check_ties0 oc_Web_init0 kV_Web_init0 dc_Web_init0 pm_Web_init0 cd_Web_init0 ct_Web_init0 do_Web_init0 dv_Web_init0 oc_Web_lenU kV_Web_lenU dc_Web_lenU pm_Web_lenU cd_Web_lenU ct_Web_lenU oc_check_webU kV_check_webU dc_check_webU pm_check_webU cd_check_webU ct_check_webU oc_comes_to kV_comes_to dc_comes_to pm_comes_to cd_comes_to ct_comes_to oc_ringless_partU kV_ringless_partU dc_ringless_partU pm_ringless_partU cd_ringless_partU ct_ringless_partU oc_colours_by kV_colours_by dc_colours_by pm_colours_by cd_colours_by ct_colours_by oc_colouringU kV_colouringU dc_colouringU pm_colouringU cd_colouringU ct_colouringU oc_long_roadU kV_long_roadU dc_long_roadU pm_long_roadU cd_long_roadU ct_long_roadU oc_is_integerA kV_is_integerA dc_is_integerA pm_is_integerA cd_is_integerA ct_is_integerA oc_is_colouringU kV_is_colouringU dc_is_colouringU pm_is_colouringU cd_is_colouringU ct_is_colouringU oc_cup_cup kV_cup_cup dc_cup_cup pm_cup_cup cd_cup_cup ct_cup_cup oc_cup_sip kV_cup_sip dc_cup_sip pm_cup_sip cd_cup_sip ct_cup_sip oc_cup_folk kV_cup_folk dc_cup_folk pm_cup_folk cd_cup_folk ct_cup_folk oc_k16_mixed kV_k16_mixed dc_k16_mixed pm_k16_mixed cd_k16_mixed ct_k16_mixed oc_k16_whole kV_k16_whole dc_k16_whole pm_k16_whole cd_k16_whole ct_k16_whole oc_k16_row kV_k16_row dc_k16_row pm_k16_row cd_k16_row ct_k16_row oc_k16_star kV_k16_star dc_k16_star pm_k16_star cd_k16_star ct_k16_star oc_k16_both kV_k16_both dc_k16_both pm_k16_both cd_k16_both ct_k16_both oc_k16_right kV_k16_right dc_k16_right pm_k16_right cd_k16_right ct_k16_right oc_k16_law kV_k16_law dc_k16_law pm_k16_law cd_k16_law ct_k16_law oc_g_places kV_g_places dc_g_places pm_g_places cd_g_places ct_g_places oc_g_ties kV_g_ties dc_g_ties pm_g_ties cd_g_ties ct_g_ties : Value} {sl_is_name sl_wrong_place sl_is_pair sl_wrong_tie sl_check_places sl_check_ties sl_Web_init ds_Web_init sl_wrong_tie0 sl_check_ties0 sl_Web_init0 ds_Web_init0 dw_Web_init0 sl_Web_lenU sl_check_webU sl_comes_to sl_ringless_partU sl_colours_by sl_colouringU sl_long_roadU sl_is_integerA sl_is_colouringU sl_cup_cup sl_cup_sip sl_cup_folk sl_k16_mixed sl_k16_whole sl_k16_row sl_k16_star sl_k16_both sl_k16_right sl_k16_law sl_g_places sl_g_ties : Array (Option Value)} {tk_LETTERS tk_MOST_PLACES tk_MOST_TIES : Tok} {dn_Web_init dn_Web_init0 dm_Web_init0 : Nat} {pr_places pr_ties : List Value} (X : K.In h) (G : h.Ns mainGlobals mg) (hfa : mg "law" = some (.ref fa))
    (atC : PySem.W.nsIn K mainGlobals "Web" = some (some (.ref C)))
    (pgC : PySem.W.plainGet K C Str.empty = true)
    (hdC : PySem.W.hasDictIn K C = true)
    (poC : PySem.W.plainOver K C = true)
    (saC : PySem.W.findIn K (.ref C) "__setattr__" = some (some (.builtin "object.__setattr__")))
    (mkC : PySem.W.makesIn K C = true)
    (kcC : PySem.W.keepIn K (.ref C) = true)
    (n_marks : PySem.W.findIn K (.ref C) "marks" = some none)
    (n_pairs : PySem.W.findIn K (.ref C) "pairs" = some none)
    (n_row : PySem.W.findIn K (.ref C) "row" = some none)
    (icl : PySem.W.findIn K (.ref C) "__class__" = some (some (.builtin "object.__class__")))
    (isp : PySem.W.specialIn K (.builtin "object.__class__") "__get__" = some (some (.builtin "getset_descriptor.__get__")))
    (itk : PySem.W.takesIn K (.builtin "object.__class__") = some true)
    (imr : PySem.W.mroIn K C (.type "object") = some true)
    (kcls : PySem.W.clsIn K C = some kz)
    (kty : PySem.W.typeIn K (.ref C) = some (.type "type"))
    (ks0 : PySem.W.subIn K (.type "NoneType") (.ref C) = some false)
    (ks1 : PySem.W.subIn K (.type "bool") (.ref C) = some false)
    (ks2 : PySem.W.subIn K (.type "int") (.ref C) = some false)
    (ks3 : PySem.W.subIn K (.type "str") (.ref C) = some false)
    (ks4 : PySem.W.subIn K (.type "tuple") (.ref C) = some false)
    (ks5 : PySem.W.subIn K (.type "list") (.ref C) = some false)
    (ks6 : PySem.W.subIn K (.type "dict") (.ref C) = some false)
    (at_is_name : PySem.W.nsIn K mainGlobals "is_name" = some (some (.ref f_is_name)))
    (l_is_name : K.lookup f_is_name = some ⟨oc_is_name, od_is_name, .func (PySem.W.fnOf "is_name" "is_name" (defArgs s_is_name) (defBody s_is_name) (defScope s_is_name) .none kV_is_name dc_is_name pm_is_name an_is_name cd_is_name ct_is_name), sl_is_name⟩)
    (cc_is_name : PySem.W.codeIn K cd_is_name "is_name" = true)
    (kk_is_name : PySem.W.keepIn K (.ref f_is_name) = true)
    (at_wrong_place : PySem.W.nsIn K mainGlobals "wrong_place" = some (some (.ref f_wrong_place)))
    (l_wrong_place : K.lookup f_wrong_place = some ⟨oc_wrong_place, od_wrong_place, .func (PySem.W.fnOf "wrong_place" "wrong_place" (defArgs s_wrong_place) (defBody s_wrong_place) (defScope s_wrong_place) .none kV_wrong_place dc_wrong_place pm_wrong_place an_wrong_place cd_wrong_place ct_wrong_place), sl_wrong_place⟩)
    (cc_wrong_place : PySem.W.codeIn K cd_wrong_place "wrong_place" = true)
    (kk_wrong_place : PySem.W.keepIn K (.ref f_wrong_place) = true)
    (at_is_pair : PySem.W.nsIn K mainGlobals "is_pair" = some (some (.ref f_is_pair)))
    (l_is_pair : K.lookup f_is_pair = some ⟨oc_is_pair, od_is_pair, .func (PySem.W.fnOf "is_pair" "is_pair" (defArgs s_is_pair) (defBody s_is_pair) (defScope s_is_pair) .none kV_is_pair dc_is_pair pm_is_pair an_is_pair cd_is_pair ct_is_pair), sl_is_pair⟩)
    (cc_is_pair : PySem.W.codeIn K cd_is_pair "is_pair" = true)
    (kk_is_pair : PySem.W.keepIn K (.ref f_is_pair) = true)
    (at_wrong_tie : PySem.W.nsIn K mainGlobals "wrong_tie" = some (some (.ref f_wrong_tie)))
    (l_wrong_tie : K.lookup f_wrong_tie = some ⟨oc_wrong_tie, od_wrong_tie, .func (PySem.W.fnOf "wrong_tie" "wrong_tie" (defArgs s_wrong_tie) (defBody s_wrong_tie) (defScope s_wrong_tie) .none kV_wrong_tie dc_wrong_tie pm_wrong_tie an_wrong_tie cd_wrong_tie ct_wrong_tie), sl_wrong_tie⟩)
    (cc_wrong_tie : PySem.W.codeIn K cd_wrong_tie "wrong_tie" = true)
    (kk_wrong_tie : PySem.W.keepIn K (.ref f_wrong_tie) = true)
    (at_check_places : PySem.W.nsIn K mainGlobals "check_places" = some (some (.ref f_check_places)))
    (l_check_places : K.lookup f_check_places = some ⟨oc_check_places, od_check_places, .func (PySem.W.fnOf "check_places" "check_places" (defArgs s_check_places) (defBody s_check_places) (defScope s_check_places) .none kV_check_places dc_check_places pm_check_places an_check_places cd_check_places ct_check_places), sl_check_places⟩)
    (cc_check_places : PySem.W.codeIn K cd_check_places "check_places" = true)
    (kk_check_places : PySem.W.keepIn K (.ref f_check_places) = true)
    (at_check_ties : PySem.W.nsIn K mainGlobals "check_ties" = some (some (.ref f_check_ties)))
    (l_check_ties : K.lookup f_check_ties = some ⟨oc_check_ties, od_check_ties, .func (PySem.W.fnOf "check_ties" "check_ties" (defArgs s_check_ties) (defBody s_check_ties) (defScope s_check_ties) .none kV_check_ties dc_check_ties pm_check_ties an_check_ties cd_check_ties ct_check_ties), sl_check_ties⟩)
    (cc_check_ties : PySem.W.codeIn K cd_check_ties "check_ties" = true)
    (kk_check_ties : PySem.W.keepIn K (.ref f_check_ties) = true)
    (at_Web_init : PySem.W.findIn K (.ref C) "__init__" = some (some (.ref f_Web_init)))
    (i_Web_init : PySem.W.isFn K (.ref f_Web_init) = true)
    (l_Web_init : K.lookup f_Web_init = some ⟨oc_Web_init, od_Web_init, .func (PySem.W.fnOf "__init__" "Web.__init__" (defArgs s_Web_init) (defBody s_Web_init) (defScope s_Web_init) (.ref dT_Web_init) kV_Web_init dc_Web_init pm_Web_init an_Web_init cd_Web_init ct_Web_init), sl_Web_init⟩)
    (cc_Web_init : PySem.W.codeIn K cd_Web_init "Web.__init__" = true)
    (kk_Web_init : PySem.W.keepIn K (.ref f_Web_init) = true)
    (dl_Web_init : K.lookup dT_Web_init = some ⟨do_Web_init, dd_Web_init, .seq #[dv_Web_init] dn_Web_init, ds_Web_init⟩)
    (dr_Web_init : dv_Web_init = .ref da_Web_init)
    (at_wrong_tie0 : PySem.W.nsIn K mainGlobals "wrong_tie" = some (some (.ref f_wrong_tie0)))
    (l_wrong_tie0 : K.lookup f_wrong_tie0 = some ⟨oc_wrong_tie0, od_wrong_tie0, .func (PySem.W.fnOf "wrong_tie" "wrong_tie" (defArgs s_wrong_tie0) (defBody s_wrong_tie0) (defScope s_wrong_tie0) .none kV_wrong_tie0 dc_wrong_tie0 pm_wrong_tie0 an_wrong_tie0 cd_wrong_tie0 ct_wrong_tie0), sl_wrong_tie0⟩)
    (cc_wrong_tie0 : PySem.W.codeIn K cd_wrong_tie0 "wrong_tie" = true)
    (kk_wrong_tie0 : PySem.W.keepIn K (.ref f_wrong_tie0) = true)
    (at_check_ties0 : PySem.W.nsIn K mainGlobals "check_ties" = some (some (.ref f_check_ties0)))
    (l_check_ties0 : K.lookup f_check_ties0 = some ⟨oc_check_ties0, od_check_ties0, .func (PySem.W.fnOf "check_ties" "check_ties" (defArgs s_check_ties0) (defBody s_check_ties0) (defScope s_check_ties0) .none kV_check_ties0 dc_check_ties0 pm_check_ties0 an_check_ties0 cd_check_ties0 ct_check_ties0), sl_check_ties0⟩)
    (cc_check_ties0 : PySem.W.codeIn K cd_check_ties0 "check_ties" = true)
    (kk_check_ties0 : PySem.W.keepIn K (.ref f_check_ties0) = true)
    (at_Web_init0 : PySem.W.findIn K (.ref C) "__init__" = some (some (.ref f_Web_init0)))
    (i_Web_init0 : PySem.W.isFn K (.ref f_Web_init0) = true)
    (l_Web_init0 : K.lookup f_Web_init0 = some ⟨oc_Web_init0, od_Web_init0, .func (PySem.W.fnOf "__init__" "Web.__init__" (defArgs s_Web_init0) (defBody s_Web_init0) (defScope s_Web_init0) (.ref dT_Web_init0) kV_Web_init0 dc_Web_init0 pm_Web_init0 an_Web_init0 cd_Web_init0 ct_Web_init0), sl_Web_init0⟩)
    (cc_Web_init0 : PySem.W.codeIn K cd_Web_init0 "Web.__init__" = true)
    (kk_Web_init0 : PySem.W.keepIn K (.ref f_Web_init0) = true)
    (dl_Web_init0 : K.lookup dT_Web_init0 = some ⟨do_Web_init0, dd_Web_init0, .seq #[dv_Web_init0] dn_Web_init0, ds_Web_init0⟩)
    (dr_Web_init0 : dv_Web_init0 = .ref da_Web_init0)
    (du_Web : K.lookup da_Web_init0 = some ⟨.type "tuple", du_Web_init0, .seq #[] dm_Web_init0, dw_Web_init0⟩)
    (at_Web_lenU : PySem.W.findIn K (.ref C) "__len__" = some (some (.ref f_Web_lenU)))
    (i_Web_lenU : PySem.W.isFn K (.ref f_Web_lenU) = true)
    (l_Web_lenU : K.lookup f_Web_lenU = some ⟨oc_Web_lenU, od_Web_lenU, .func (PySem.W.fnOf "__len__" "Web.__len__" (defArgs s_Web_lenU) (defBody s_Web_lenU) (defScope s_Web_lenU) .none kV_Web_lenU dc_Web_lenU pm_Web_lenU an_Web_lenU cd_Web_lenU ct_Web_lenU), sl_Web_lenU⟩)
    (cc_Web_lenU : PySem.W.codeIn K cd_Web_lenU "Web.__len__" = true)
    (kk_Web_lenU : PySem.W.keepIn K (.ref f_Web_lenU) = true)
    (at_check_webU : PySem.W.nsIn K mainGlobals "check_web" = some (some (.ref f_check_webU)))
    (l_check_webU : K.lookup f_check_webU = some ⟨oc_check_webU, od_check_webU, .func (PySem.W.fnOf "check_web" "check_web" (defArgs s_check_webU) (defBody s_check_webU) (defScope s_check_webU) .none kV_check_webU dc_check_webU pm_check_webU an_check_webU cd_check_webU ct_check_webU), sl_check_webU⟩)
    (cc_check_webU : PySem.W.codeIn K cd_check_webU "check_web" = true)
    (kk_check_webU : PySem.W.keepIn K (.ref f_check_webU) = true)
    (at_comes_to : PySem.W.nsIn K mainGlobals "comes_to" = some (some (.ref f_comes_to)))
    (l_comes_to : K.lookup f_comes_to = some ⟨oc_comes_to, od_comes_to, .func (PySem.W.fnOf "comes_to" "comes_to" (defArgs s_comes_to) (defBody s_comes_to) (defScope s_comes_to) .none kV_comes_to dc_comes_to pm_comes_to an_comes_to cd_comes_to ct_comes_to), sl_comes_to⟩)
    (cc_comes_to : PySem.W.codeIn K cd_comes_to "comes_to" = true)
    (kk_comes_to : PySem.W.keepIn K (.ref f_comes_to) = true)
    (at_ringless_partU : PySem.W.nsIn K mainGlobals "ringless_part" = some (some (.ref f_ringless_partU)))
    (l_ringless_partU : K.lookup f_ringless_partU = some ⟨oc_ringless_partU, od_ringless_partU, .func (PySem.W.fnOf "ringless_part" "ringless_part" (defArgs s_ringless_partU) (defBody s_ringless_partU) (defScope s_ringless_partU) .none kV_ringless_partU dc_ringless_partU pm_ringless_partU an_ringless_partU cd_ringless_partU ct_ringless_partU), sl_ringless_partU⟩)
    (cc_ringless_partU : PySem.W.codeIn K cd_ringless_partU "ringless_part" = true)
    (kk_ringless_partU : PySem.W.keepIn K (.ref f_ringless_partU) = true)
    (at_colours_by : PySem.W.nsIn K mainGlobals "colours_by" = some (some (.ref f_colours_by)))
    (l_colours_by : K.lookup f_colours_by = some ⟨oc_colours_by, od_colours_by, .func (PySem.W.fnOf "colours_by" "colours_by" (defArgs s_colours_by) (defBody s_colours_by) (defScope s_colours_by) .none kV_colours_by dc_colours_by pm_colours_by an_colours_by cd_colours_by ct_colours_by), sl_colours_by⟩)
    (cc_colours_by : PySem.W.codeIn K cd_colours_by "colours_by" = true)
    (kk_colours_by : PySem.W.keepIn K (.ref f_colours_by) = true)
    (at_colouringU : PySem.W.nsIn K mainGlobals "colouring" = some (some (.ref f_colouringU)))
    (l_colouringU : K.lookup f_colouringU = some ⟨oc_colouringU, od_colouringU, .func (PySem.W.fnOf "colouring" "colouring" (defArgs s_colouringU) (defBody s_colouringU) (defScope s_colouringU) .none kV_colouringU dc_colouringU pm_colouringU an_colouringU cd_colouringU ct_colouringU), sl_colouringU⟩)
    (cc_colouringU : PySem.W.codeIn K cd_colouringU "colouring" = true)
    (kk_colouringU : PySem.W.keepIn K (.ref f_colouringU) = true)
    (at_long_roadU : PySem.W.nsIn K mainGlobals "long_road" = some (some (.ref f_long_roadU)))
    (l_long_roadU : K.lookup f_long_roadU = some ⟨oc_long_roadU, od_long_roadU, .func (PySem.W.fnOf "long_road" "long_road" (defArgs s_long_roadU) (defBody s_long_roadU) (defScope s_long_roadU) .none kV_long_roadU dc_long_roadU pm_long_roadU an_long_roadU cd_long_roadU ct_long_roadU), sl_long_roadU⟩)
    (cc_long_roadU : PySem.W.codeIn K cd_long_roadU "long_road" = true)
    (kk_long_roadU : PySem.W.keepIn K (.ref f_long_roadU) = true)
    (at_is_integerA : PySem.W.nsIn K mainGlobals "is_integer" = some (some (.ref f_is_integerA)))
    (l_is_integerA : K.lookup f_is_integerA = some ⟨oc_is_integerA, od_is_integerA, .func (PySem.W.fnOf "is_integer" "is_integer" (defArgs s_is_integerA) (defBody s_is_integerA) (defScope s_is_integerA) .none kV_is_integerA dc_is_integerA pm_is_integerA an_is_integerA cd_is_integerA ct_is_integerA), sl_is_integerA⟩)
    (cc_is_integerA : PySem.W.codeIn K cd_is_integerA "is_integer" = true)
    (kk_is_integerA : PySem.W.keepIn K (.ref f_is_integerA) = true)
    (at_is_colouringU : PySem.W.nsIn K mainGlobals "is_colouring" = some (some (.ref f_is_colouringU)))
    (l_is_colouringU : K.lookup f_is_colouringU = some ⟨oc_is_colouringU, od_is_colouringU, .func (PySem.W.fnOf "is_colouring" "is_colouring" (defArgs s_is_colouringU) (defBody s_is_colouringU) (defScope s_is_colouringU) .none kV_is_colouringU dc_is_colouringU pm_is_colouringU an_is_colouringU cd_is_colouringU ct_is_colouringU), sl_is_colouringU⟩)
    (cc_is_colouringU : PySem.W.codeIn K cd_is_colouringU "is_colouring" = true)
    (kk_is_colouringU : PySem.W.keepIn K (.ref f_is_colouringU) = true)
    (at_cup_cup : PySem.W.nsIn K mainGlobals "_law_cup" = some (some (.ref f_cup_cup)))
    (l_cup_cup : K.lookup f_cup_cup = some ⟨oc_cup_cup, od_cup_cup, .func (PySem.W.fnOf "_law_cup" "_law_cup" (defArgs s_cup_cup) (defBody s_cup_cup) (defScope s_cup_cup) .none kV_cup_cup dc_cup_cup pm_cup_cup an_cup_cup cd_cup_cup ct_cup_cup), sl_cup_cup⟩)
    (cc_cup_cup : PySem.W.codeIn K cd_cup_cup "_law_cup" = true)
    (kk_cup_cup : PySem.W.keepIn K (.ref f_cup_cup) = true)
    (at_cup_sip : PySem.W.nsIn K mainGlobals "_law_sip" = some (some (.ref f_cup_sip)))
    (l_cup_sip : K.lookup f_cup_sip = some ⟨oc_cup_sip, od_cup_sip, .func (PySem.W.fnOf "_law_sip" "_law_sip" (defArgs s_cup_sip) (defBody s_cup_sip) (defScope s_cup_sip) .none kV_cup_sip dc_cup_sip pm_cup_sip an_cup_sip cd_cup_sip ct_cup_sip), sl_cup_sip⟩)
    (cc_cup_sip : PySem.W.codeIn K cd_cup_sip "_law_sip" = true)
    (kk_cup_sip : PySem.W.keepIn K (.ref f_cup_sip) = true)
    (at_cup_folk : PySem.W.nsIn K mainGlobals "_law_folk" = some (some (.ref f_cup_folk)))
    (l_cup_folk : K.lookup f_cup_folk = some ⟨oc_cup_folk, od_cup_folk, .func (PySem.W.fnOf "_law_folk" "_law_folk" (defArgs s_cup_folk) (defBody s_cup_folk) (defScope s_cup_folk) .none kV_cup_folk dc_cup_folk pm_cup_folk an_cup_folk cd_cup_folk ct_cup_folk), sl_cup_folk⟩)
    (cc_cup_folk : PySem.W.codeIn K cd_cup_folk "_law_folk" = true)
    (kk_cup_folk : PySem.W.keepIn K (.ref f_cup_folk) = true)
    (at_k16_mixed : PySem.W.nsIn K mainGlobals "_law_mixed" = some (some (.ref f_k16_mixed)))
    (l_k16_mixed : K.lookup f_k16_mixed = some ⟨oc_k16_mixed, od_k16_mixed, .func (PySem.W.fnOf "_law_mixed" "_law_mixed" (defArgs s_k16_mixed) (defBody s_k16_mixed) (defScope s_k16_mixed) .none kV_k16_mixed dc_k16_mixed pm_k16_mixed an_k16_mixed cd_k16_mixed ct_k16_mixed), sl_k16_mixed⟩)
    (cc_k16_mixed : PySem.W.codeIn K cd_k16_mixed "_law_mixed" = true)
    (kk_k16_mixed : PySem.W.keepIn K (.ref f_k16_mixed) = true)
    (at_k16_whole : PySem.W.nsIn K mainGlobals "_law_is_whole" = some (some (.ref f_k16_whole)))
    (l_k16_whole : K.lookup f_k16_whole = some ⟨oc_k16_whole, od_k16_whole, .func (PySem.W.fnOf "_law_is_whole" "_law_is_whole" (defArgs s_k16_whole) (defBody s_k16_whole) (defScope s_k16_whole) .none kV_k16_whole dc_k16_whole pm_k16_whole an_k16_whole cd_k16_whole ct_k16_whole), sl_k16_whole⟩)
    (cc_k16_whole : PySem.W.codeIn K cd_k16_whole "_law_is_whole" = true)
    (kk_k16_whole : PySem.W.keepIn K (.ref f_k16_whole) = true)
    (at_k16_row : PySem.W.nsIn K mainGlobals "_law_row_right" = some (some (.ref f_k16_row)))
    (l_k16_row : K.lookup f_k16_row = some ⟨oc_k16_row, od_k16_row, .func (PySem.W.fnOf "_law_row_right" "_law_row_right" (defArgs s_k16_row) (defBody s_k16_row) (defScope s_k16_row) .none kV_k16_row dc_k16_row pm_k16_row an_k16_row cd_k16_row ct_k16_row), sl_k16_row⟩)
    (cc_k16_row : PySem.W.codeIn K cd_k16_row "_law_row_right" = true)
    (kk_k16_row : PySem.W.keepIn K (.ref f_k16_row) = true)
    (at_k16_star : PySem.W.nsIn K mainGlobals "_law_star_right" = some (some (.ref f_k16_star)))
    (l_k16_star : K.lookup f_k16_star = some ⟨oc_k16_star, od_k16_star, .func (PySem.W.fnOf "_law_star_right" "_law_star_right" (defArgs s_k16_star) (defBody s_k16_star) (defScope s_k16_star) .none kV_k16_star dc_k16_star pm_k16_star an_k16_star cd_k16_star ct_k16_star), sl_k16_star⟩)
    (cc_k16_star : PySem.W.codeIn K cd_k16_star "_law_star_right" = true)
    (kk_k16_star : PySem.W.keepIn K (.ref f_k16_star) = true)
    (at_k16_both : PySem.W.nsIn K mainGlobals "_law_both_right" = some (some (.ref f_k16_both)))
    (l_k16_both : K.lookup f_k16_both = some ⟨oc_k16_both, od_k16_both, .func (PySem.W.fnOf "_law_both_right" "_law_both_right" (defArgs s_k16_both) (defBody s_k16_both) (defScope s_k16_both) .none kV_k16_both dc_k16_both pm_k16_both an_k16_both cd_k16_both ct_k16_both), sl_k16_both⟩)
    (cc_k16_both : PySem.W.codeIn K cd_k16_both "_law_both_right" = true)
    (kk_k16_both : PySem.W.keepIn K (.ref f_k16_both) = true)
    (at_k16_right : PySem.W.nsIn K mainGlobals "_law_right" = some (some (.ref f_k16_right)))
    (l_k16_right : K.lookup f_k16_right = some ⟨oc_k16_right, od_k16_right, .func (PySem.W.fnOf "_law_right" "_law_right" (defArgs s_k16_right) (defBody s_k16_right) (defScope s_k16_right) .none kV_k16_right dc_k16_right pm_k16_right an_k16_right cd_k16_right ct_k16_right), sl_k16_right⟩)
    (cc_k16_right : PySem.W.codeIn K cd_k16_right "_law_right" = true)
    (kk_k16_right : PySem.W.keepIn K (.ref f_k16_right) = true)
    (at_k16_law : PySem.W.nsIn K mainGlobals "law" = some (some (.ref f_k16_law)))
    (l_k16_law : K.lookup f_k16_law = some ⟨oc_k16_law, od_k16_law, .func (PySem.W.fnOf "law" "law" (defArgs s_k16_law) (defBody s_k16_law) (defScope s_k16_law) .none kV_k16_law dc_k16_law pm_k16_law an_k16_law cd_k16_law ct_k16_law), sl_k16_law⟩)
    (cc_k16_law : PySem.W.codeIn K cd_k16_law "law" = true)
    (kk_k16_law : PySem.W.keepIn K (.ref f_k16_law) = true)
    (pt_places : PySem.W.findIn K (.ref C) "places" = some (some (.ref pa_places)))
    (at_g_places : PySem.W.recIn K pa_places "property" = some (.ref f_g_places :: pr_places))
    (pg_places : PySem.W.specialIn K (.ref pa_places) "__get__" = some (some (.builtin "property.__get__")))
    (pk_places : PySem.W.takesIn K (.ref pa_places) = some true)
    (l_g_places : K.lookup f_g_places = some ⟨oc_g_places, od_g_places, .func (PySem.W.fnOf "places" "Web.places" (defArgs s_g_places) (defBody s_g_places) (defScope s_g_places) .none kV_g_places dc_g_places pm_g_places an_g_places cd_g_places ct_g_places), sl_g_places⟩)
    (cc_g_places : PySem.W.codeIn K cd_g_places "Web.places" = true)
    (kk_g_places : PySem.W.keepIn K (.ref f_g_places) = true)
    (pt_ties : PySem.W.findIn K (.ref C) "ties" = some (some (.ref pa_ties)))
    (at_g_ties : PySem.W.recIn K pa_ties "property" = some (.ref f_g_ties :: pr_ties))
    (pg_ties : PySem.W.specialIn K (.ref pa_ties) "__get__" = some (some (.builtin "property.__get__")))
    (pk_ties : PySem.W.takesIn K (.ref pa_ties) = some true)
    (l_g_ties : K.lookup f_g_ties = some ⟨oc_g_ties, od_g_ties, .func (PySem.W.fnOf "ties" "Web.ties" (defArgs s_g_ties) (defBody s_g_ties) (defScope s_g_ties) .none kV_g_ties dc_g_ties pm_g_ties an_g_ties cd_g_ties ct_g_ties), sl_g_ties⟩)
    (cc_g_ties : PySem.W.codeIn K cd_g_ties "Web.ties" = true)
    (kk_g_ties : PySem.W.keepIn K (.ref f_g_ties) = true)
    (at_LETTERS : PySem.W.nsIn K mainGlobals "LETTERS" = some (some (.str "abcdefghijklmnopqrstuvwxyz" tk_LETTERS)))
    (at_MOST_PLACES : PySem.W.nsIn K mainGlobals "MOST_PLACES" = some (some (.int 40 tk_MOST_PLACES)))
    (at_MOST_TIES : PySem.W.nsIn K mainGlobals "MOST_TIES" = some (some (.int 200 tk_MOST_TIES)))
    (at_abs : PySem.W.nsIn K mainGlobals "abs" = some none)
    (at_all : PySem.W.nsIn K mainGlobals "all" = some none)
    (at_bool : PySem.W.nsIn K mainGlobals "bool" = some none)
    (at_dict : PySem.W.nsIn K mainGlobals "dict" = some none)
    (at_divmod : PySem.W.nsIn K mainGlobals "divmod" = some none)
    (at_enumerate : PySem.W.nsIn K mainGlobals "enumerate" = some none)
    (at_int : PySem.W.nsIn K mainGlobals "int" = some none)
    (at_isinstance : PySem.W.nsIn K mainGlobals "isinstance" = some none)
    (at_len : PySem.W.nsIn K mainGlobals "len" = some none)
    (at_list : PySem.W.nsIn K mainGlobals "list" = some none)
    (at_max : PySem.W.nsIn K mainGlobals "max" = some none)
    (at_min : PySem.W.nsIn K mainGlobals "min" = some none)
    (at_range : PySem.W.nsIn K mainGlobals "range" = some none)
    (at_sorted : PySem.W.nsIn K mainGlobals "sorted" = some none)
    (at_str : PySem.W.nsIn K mainGlobals "str" = some none)
    (at_tuple : PySem.W.nsIn K mainGlobals "tuple" = some none)
    (at_zip : PySem.W.nsIn K mainGlobals "zip" = some none)
    : ∃ fd : FuncData, (∀ (s : Shared) (v : Value), BindsTo s fd ⟨[v], []⟩ [("_law_script", v)]) ∧ ∀ base : Heap, K.In base → base.Ns mainGlobals mg → FnD l.prog w K mg base 8 fa fd ["_law_script"] (LawSp 63) := by
  have e : fa = f_k16_law := by
    have e := hfa.symm.trans (PySem.W.mg_of X G at_k16_law)
    cases e
    rfl
  let T : Txt l.prog K mg := { a_Web := C, m_Web := PySem.W.mg_of X G atC, c_Web := ⟨pgC, hdC, poC, saC⟩, n_marks := n_marks, n_pairs := n_pairs, n_row := n_row, ins_Web := ⟨⟨pgC, hdC, poC, saC⟩, icl, isp, itk, imr⟩, kit0 := kit0_of kcls kty ks0 ks1 ks2 ks3 ks4 ks5 ks6, kit1 := kit1_of C, a_is_name := f_is_name, d_is_name := _, F_is_name := fun_mk (st := s_is_name) l_is_name cc_is_name kk_is_name, m_is_name := PySem.W.mg_of X G at_is_name, a_wrong_place := f_wrong_place, d_wrong_place := _, F_wrong_place := fun_mk (st := s_wrong_place) l_wrong_place cc_wrong_place kk_wrong_place, m_wrong_place := PySem.W.mg_of X G at_wrong_place, a_is_pair := f_is_pair, d_is_pair := _, F_is_pair := fun_mk (st := s_is_pair) l_is_pair cc_is_pair kk_is_pair, m_is_pair := PySem.W.mg_of X G at_is_pair, a_wrong_tie := f_wrong_tie, d_wrong_tie := _, F_wrong_tie := fun_mk (st := s_wrong_tie) l_wrong_tie cc_wrong_tie kk_wrong_tie, m_wrong_tie := PySem.W.mg_of X G at_wrong_tie, a_check_places := f_check_places, d_check_places := _, F_check_places := fun_mk (st := s_check_places) l_check_places cc_check_places kk_check_places, m_check_places := PySem.W.mg_of X G at_check_places, a_check_ties := f_check_ties, d_check_ties := _, F_check_ties := fun_mk (st := s_check_ties) l_check_ties cc_check_ties kk_check_ties, m_check_ties := PySem.W.mg_of X G at_check_ties, a_Web_init := f_Web_init, d_Web_init := _, v_Web_init := .ref da_Web_init, F_Web_init := ⟨⟨_, _, _, _, _, _, _, _, _, _, rfl, l_Web_init, cc_Web_init, .inr ⟨by simp, _, _, [dv_Web_init], _, rfl, dl_Web_init, rfl, .cons dr_Web_init .nil⟩, .inl rfl⟩, kk_Web_init⟩, k_Web := ⟨mkC, at_Web_init, i_Web_init, kcC⟩, a_wrong_tie0 := f_wrong_tie0, d_wrong_tie0 := _, F_wrong_tie0 := fun_mk (st := s_wrong_tie0) l_wrong_tie0 cc_wrong_tie0 kk_wrong_tie0, m_wrong_tie0 := PySem.W.mg_of X G at_wrong_tie0, a_check_ties0 := f_check_ties0, d_check_ties0 := _, F_check_ties0 := fun_mk (st := s_check_ties0) l_check_ties0 cc_check_ties0 kk_check_ties0, m_check_ties0 := PySem.W.mg_of X G at_check_ties0, a_Web_init0 := f_Web_init0, d_Web_init0 := _, v_Web_init0 := .ref da_Web_init0, w_Web := da_Web_init0, ew_Web := rfl, du_Web := ⟨_, #[], _, du_Web, rfl, rfl, by decide, .nil⟩, F_Web_init0 := ⟨⟨_, _, _, _, _, _, _, _, _, _, rfl, l_Web_init0, cc_Web_init0, .inr ⟨by simp, _, _, [dv_Web_init0], _, rfl, dl_Web_init0, rfl, .cons dr_Web_init0 .nil⟩, .inl rfl⟩, kk_Web_init0⟩, k_Web0 := ⟨mkC, at_Web_init0, i_Web_init0, kcC⟩, a_Web_lenU := f_Web_lenU, d_Web_lenU := _, F_Web_lenU := fun_mk (st := s_Web_lenU) l_Web_lenU cc_Web_lenU kk_Web_lenU, h___len__U := ⟨at_Web_lenU, i_Web_lenU, kk_Web_lenU⟩, a_check_webU := f_check_webU, d_check_webU := _, F_check_webU := fun_mk (st := s_check_webU) l_check_webU cc_check_webU kk_check_webU, m_check_webU := PySem.W.mg_of X G at_check_webU, a_comes_to := f_comes_to, d_comes_to := _, F_comes_to := fun_mk (st := s_comes_to) l_comes_to cc_comes_to kk_comes_to, m_comes_to := PySem.W.mg_of X G at_comes_to, a_ringless_partU := f_ringless_partU, d_ringless_partU := _, F_ringless_partU := fun_mk (st := s_ringless_partU) l_ringless_partU cc_ringless_partU kk_ringless_partU, m_ringless_partU := PySem.W.mg_of X G at_ringless_partU, a_colours_by := f_colours_by, d_colours_by := _, F_colours_by := fun_mk (st := s_colours_by) l_colours_by cc_colours_by kk_colours_by, m_colours_by := PySem.W.mg_of X G at_colours_by, a_colouringU := f_colouringU, d_colouringU := _, F_colouringU := fun_mk (st := s_colouringU) l_colouringU cc_colouringU kk_colouringU, m_colouringU := PySem.W.mg_of X G at_colouringU, a_long_roadU := f_long_roadU, d_long_roadU := _, F_long_roadU := fun_mk (st := s_long_roadU) l_long_roadU cc_long_roadU kk_long_roadU, m_long_roadU := PySem.W.mg_of X G at_long_roadU, a_is_integerA := f_is_integerA, d_is_integerA := _, F_is_integerA := fun_mk (st := s_is_integerA) l_is_integerA cc_is_integerA kk_is_integerA, m_is_integerA := PySem.W.mg_of X G at_is_integerA, a_is_colouringU := f_is_colouringU, d_is_colouringU := _, F_is_colouringU := fun_mk (st := s_is_colouringU) l_is_colouringU cc_is_colouringU kk_is_colouringU, m_is_colouringU := PySem.W.mg_of X G at_is_colouringU, a_cup_cup := f_cup_cup, d_cup_cup := _, F_cup_cup := fun_mk (st := s_cup_cup) l_cup_cup cc_cup_cup kk_cup_cup, m_cup_cup := PySem.W.mg_of X G at_cup_cup, a_cup_sip := f_cup_sip, d_cup_sip := _, F_cup_sip := fun_mk (st := s_cup_sip) l_cup_sip cc_cup_sip kk_cup_sip, m_cup_sip := PySem.W.mg_of X G at_cup_sip, a_cup_folk := f_cup_folk, d_cup_folk := _, F_cup_folk := fun_mk (st := s_cup_folk) l_cup_folk cc_cup_folk kk_cup_folk, m_cup_folk := PySem.W.mg_of X G at_cup_folk, a_k16_mixed := f_k16_mixed, d_k16_mixed := _, F_k16_mixed := fun_mk (st := s_k16_mixed) l_k16_mixed cc_k16_mixed kk_k16_mixed, m_k16_mixed := PySem.W.mg_of X G at_k16_mixed, a_k16_whole := f_k16_whole, d_k16_whole := _, F_k16_whole := fun_mk (st := s_k16_whole) l_k16_whole cc_k16_whole kk_k16_whole, m_k16_whole := PySem.W.mg_of X G at_k16_whole, a_k16_row := f_k16_row, d_k16_row := _, F_k16_row := fun_mk (st := s_k16_row) l_k16_row cc_k16_row kk_k16_row, m_k16_row := PySem.W.mg_of X G at_k16_row, a_k16_star := f_k16_star, d_k16_star := _, F_k16_star := fun_mk (st := s_k16_star) l_k16_star cc_k16_star kk_k16_star, m_k16_star := PySem.W.mg_of X G at_k16_star, a_k16_both := f_k16_both, d_k16_both := _, F_k16_both := fun_mk (st := s_k16_both) l_k16_both cc_k16_both kk_k16_both, m_k16_both := PySem.W.mg_of X G at_k16_both, a_k16_right := f_k16_right, d_k16_right := _, F_k16_right := fun_mk (st := s_k16_right) l_k16_right cc_k16_right kk_k16_right, m_k16_right := PySem.W.mg_of X G at_k16_right, a_k16_law := f_k16_law, d_k16_law := _, F_k16_law := fun_mk (st := s_k16_law) l_k16_law cc_k16_law kk_k16_law, m_k16_law := PySem.W.mg_of X G at_k16_law, a_g_places := f_g_places, d_g_places := _, F_g_places := fun_mk (st := s_g_places) l_g_places cc_g_places kk_g_places, q_places := pa_places, p_places := ⟨pt_places, pg_places, pk_places, _, at_g_places⟩, a_g_ties := f_g_ties, d_g_ties := _, F_g_ties := fun_mk (st := s_g_ties) l_g_ties cc_g_ties kk_g_ties, q_ties := pa_ties, p_ties := ⟨pt_ties, pg_ties, pk_ties, _, at_g_ties⟩, t_LETTERS := tk_LETTERS, m_LETTERS := PySem.W.mg_of X G at_LETTERS, t_MOST_PLACES := tk_MOST_PLACES, m_MOST_PLACES := PySem.W.mg_of X G at_MOST_PLACES, t_MOST_TIES := tk_MOST_TIES, m_MOST_TIES := PySem.W.mg_of X G at_MOST_TIES, z_abs := PySem.W.mg_none_of X G at_abs, z_all := PySem.W.mg_none_of X G at_all, z_bool := PySem.W.mg_none_of X G at_bool, z_dict := PySem.W.mg_none_of X G at_dict, z_divmod := PySem.W.mg_none_of X G at_divmod, z_enumerate := PySem.W.mg_none_of X G at_enumerate, z_int := PySem.W.mg_none_of X G at_int, z_isinstance := PySem.W.mg_none_of X G at_isinstance, z_len := PySem.W.mg_none_of X G at_len, z_list := PySem.W.mg_none_of X G at_list, z_max := PySem.W.mg_none_of X G at_max, z_min := PySem.W.mg_none_of X G at_min, z_range := PySem.W.mg_none_of X G at_range, z_sorted := PySem.W.mg_none_of X G at_sorted, z_str := PySem.W.mg_none_of X G at_str, z_tuple := PySem.W.mg_none_of X G at_tuple, z_zip := PySem.W.mg_none_of X G at_zip }
  rw [e]
  exact ⟨T.d_k16_law, fun s v => .of_eq rfl, fun base _ _ => ok_k16_law T⟩
end L2.DL
open PySem PySem.W PyProof.Rows
set_option maxRecDepth 100000 in
set_option maxHeartbeats 0 in
theorem PySem.Challenge.cw_fewroads_k16_known_colourings_holds : PySem.Challenge.rw_fewroads_k16_known_colourings.Holds := by
  w_on; o_law; k_head; (case hw => w_witness2)
  k_fill
  refine L2.DL.walk_G (l := PySem.Challenge.rw_fewroads_k16_known_colourings) (n := 63) (k := 8) (x := "_law_script") rfl (by decide) rfl ⟨rfl, by decide, by decide⟩ (fun w h Y => PySem.W.kIn_of Y) ?F
  case F =>
    intro w mg fa h KX G hmg
    refine' L2.DL.all_mk (l := PySem.Challenge.rw_fewroads_k16_known_colourings) (w := w) KX G hmg ?atC ?pgC ?hdC ?poC ?saC ?mkC ?kcC ?n_marks ?n_pairs ?n_row ?icl ?isp ?itk ?imr ?kcls ?kty ?ks0 ?ks1 ?ks2 ?ks3 ?ks4 ?ks5 ?ks6 ?at_is_name ?l_is_name ?cc_is_name ?kk_is_name ?at_wrong_place ?l_wrong_place ?cc_wrong_place ?kk_wrong_place ?at_is_pair ?l_is_pair ?cc_is_pair ?kk_is_pair ?at_wrong_tie ?l_wrong_tie ?cc_wrong_tie ?kk_wrong_tie ?at_check_places ?l_check_places ?cc_check_places ?kk_check_places ?at_check_ties ?l_check_ties ?cc_check_ties ?kk_check_ties ?at_Web_init ?i_Web_init ?l_Web_init ?cc_Web_init ?kk_Web_init ?dl_Web_init ?dr_Web_init ?at_wrong_tie0 ?l_wrong_tie0 ?cc_wrong_tie0 ?kk_wrong_tie0 ?at_check_ties0 ?l_check_ties0 ?cc_check_ties0 ?kk_check_ties0 ?at_Web_init0 ?i_Web_init0 ?l_Web_init0 ?cc_Web_init0 ?kk_Web_init0 ?dl_Web_init0 ?dr_Web_init0 ?du_Web ?at_Web_lenU ?i_Web_lenU ?l_Web_lenU ?cc_Web_lenU ?kk_Web_lenU ?at_check_webU ?l_check_webU ?cc_check_webU ?kk_check_webU ?at_comes_to ?l_comes_to ?cc_comes_to ?kk_comes_to ?at_ringless_partU ?l_ringless_partU ?cc_ringless_partU ?kk_ringless_partU ?at_colours_by ?l_colours_by ?cc_colours_by ?kk_colours_by ?at_colouringU ?l_colouringU ?cc_colouringU ?kk_colouringU ?at_long_roadU ?l_long_roadU ?cc_long_roadU ?kk_long_roadU ?at_is_integerA ?l_is_integerA ?cc_is_integerA ?kk_is_integerA ?at_is_colouringU ?l_is_colouringU ?cc_is_colouringU ?kk_is_colouringU ?at_cup_cup ?l_cup_cup ?cc_cup_cup ?kk_cup_cup ?at_cup_sip ?l_cup_sip ?cc_cup_sip ?kk_cup_sip ?at_cup_folk ?l_cup_folk ?cc_cup_folk ?kk_cup_folk ?at_k16_mixed ?l_k16_mixed ?cc_k16_mixed ?kk_k16_mixed ?at_k16_whole ?l_k16_whole ?cc_k16_whole ?kk_k16_whole ?at_k16_row ?l_k16_row ?cc_k16_row ?kk_k16_row ?at_k16_star ?l_k16_star ?cc_k16_star ?kk_k16_star ?at_k16_both ?l_k16_both ?cc_k16_both ?kk_k16_both ?at_k16_right ?l_k16_right ?cc_k16_right ?kk_k16_right ?at_k16_law ?l_k16_law ?cc_k16_law ?kk_k16_law ?pt_places ?at_g_places ?pg_places ?pk_places ?l_g_places ?cc_g_places ?kk_g_places ?pt_ties ?at_g_ties ?pg_ties ?pk_ties ?l_g_ties ?cc_g_ties ?kk_g_ties ?at_LETTERS ?at_MOST_PLACES ?at_MOST_TIES ?at_abs ?at_all ?at_bool ?at_dict ?at_divmod ?at_enumerate ?at_int ?at_isinstance ?at_len ?at_list ?at_max ?at_min ?at_range ?at_sorted ?at_str ?at_tuple ?at_zip
    (case atC => k_is)
    (case pgC => k_is)
    (case hdC => k_is)
    (case poC => k_is)
    (case saC => k_is)
    (case mkC => k_is)
    (case kcC => k_is)
    (case n_marks => k_is)
    (case n_pairs => k_is)
    (case n_row => k_is)
    (case icl => k_is)
    (case isp => k_is)
    (case itk => k_is)
    (case imr => k_is)
    (case kcls => k_is)
    (case kty => k_is)
    (case ks0 => k_is)
    (case ks1 => k_is)
    (case ks2 => k_is)
    (case ks3 => k_is)
    (case ks4 => k_is)
    (case ks5 => k_is)
    (case ks6 => k_is)
    (case at_is_name => k_is)
    (case l_is_name => k_is)
    (case cc_is_name => k_is)
    (case kk_is_name => k_is)
    (case at_wrong_place => k_is)
    (case l_wrong_place => k_is)
    (case cc_wrong_place => k_is)
    (case kk_wrong_place => k_is)
    (case at_is_pair => k_is)
    (case l_is_pair => k_is)
    (case cc_is_pair => k_is)
    (case kk_is_pair => k_is)
    (case at_wrong_tie => k_is)
    (case l_wrong_tie => k_is)
    (case cc_wrong_tie => k_is)
    (case kk_wrong_tie => k_is)
    (case at_check_places => k_is)
    (case l_check_places => k_is)
    (case cc_check_places => k_is)
    (case kk_check_places => k_is)
    (case at_check_ties => k_is)
    (case l_check_ties => k_is)
    (case cc_check_ties => k_is)
    (case kk_check_ties => k_is)
    (case at_Web_init => k_is)
    (case i_Web_init => k_is)
    (case l_Web_init => k_is)
    (case cc_Web_init => k_is)
    (case kk_Web_init => k_is)
    (case dl_Web_init => k_is)
    (case dr_Web_init => rfl)
    (case at_wrong_tie0 => k_is)
    (case l_wrong_tie0 => k_is)
    (case cc_wrong_tie0 => k_is)
    (case kk_wrong_tie0 => k_is)
    (case at_check_ties0 => k_is)
    (case l_check_ties0 => k_is)
    (case cc_check_ties0 => k_is)
    (case kk_check_ties0 => k_is)
    (case at_Web_init0 => k_is)
    (case i_Web_init0 => k_is)
    (case l_Web_init0 => k_is)
    (case cc_Web_init0 => k_is)
    (case kk_Web_init0 => k_is)
    (case dl_Web_init0 => k_is)
    (case dr_Web_init0 => rfl)
    (case du_Web => k_is)
    (case at_Web_lenU => k_is)
    (case i_Web_lenU => k_is)
    (case l_Web_lenU => k_is)
    (case cc_Web_lenU => k_is)
    (case kk_Web_lenU => k_is)
    (case at_check_webU => k_is)
    (case l_check_webU => k_is)
    (case cc_check_webU => k_is)
    (case kk_check_webU => k_is)
    (case at_comes_to => k_is)
    (case l_comes_to => k_is)
    (case cc_comes_to => k_is)
    (case kk_comes_to => k_is)
    (case at_ringless_partU => k_is)
    (case l_ringless_partU => k_is)
    (case cc_ringless_partU => k_is)
    (case kk_ringless_partU => k_is)
    (case at_colours_by => k_is)
    (case l_colours_by => k_is)
    (case cc_colours_by => k_is)
    (case kk_colours_by => k_is)
    (case at_colouringU => k_is)
    (case l_colouringU => k_is)
    (case cc_colouringU => k_is)
    (case kk_colouringU => k_is)
    (case at_long_roadU => k_is)
    (case l_long_roadU => k_is)
    (case cc_long_roadU => k_is)
    (case kk_long_roadU => k_is)
    (case at_is_integerA => k_is)
    (case l_is_integerA => k_is)
    (case cc_is_integerA => k_is)
    (case kk_is_integerA => k_is)
    (case at_is_colouringU => k_is)
    (case l_is_colouringU => k_is)
    (case cc_is_colouringU => k_is)
    (case kk_is_colouringU => k_is)
    (case at_cup_cup => k_is)
    (case l_cup_cup => k_is)
    (case cc_cup_cup => k_is)
    (case kk_cup_cup => k_is)
    (case at_cup_sip => k_is)
    (case l_cup_sip => k_is)
    (case cc_cup_sip => k_is)
    (case kk_cup_sip => k_is)
    (case at_cup_folk => k_is)
    (case l_cup_folk => k_is)
    (case cc_cup_folk => k_is)
    (case kk_cup_folk => k_is)
    (case at_k16_mixed => k_is)
    (case l_k16_mixed => k_is)
    (case cc_k16_mixed => k_is)
    (case kk_k16_mixed => k_is)
    (case at_k16_whole => k_is)
    (case l_k16_whole => k_is)
    (case cc_k16_whole => k_is)
    (case kk_k16_whole => k_is)
    (case at_k16_row => k_is)
    (case l_k16_row => k_is)
    (case cc_k16_row => k_is)
    (case kk_k16_row => k_is)
    (case at_k16_star => k_is)
    (case l_k16_star => k_is)
    (case cc_k16_star => k_is)
    (case kk_k16_star => k_is)
    (case at_k16_both => k_is)
    (case l_k16_both => k_is)
    (case cc_k16_both => k_is)
    (case kk_k16_both => k_is)
    (case at_k16_right => k_is)
    (case l_k16_right => k_is)
    (case cc_k16_right => k_is)
    (case kk_k16_right => k_is)
    (case at_k16_law => k_is)
    (case l_k16_law => k_is)
    (case cc_k16_law => k_is)
    (case kk_k16_law => k_is)
    (case pt_places => k_is)
    (case at_g_places => k_is)
    (case pg_places => k_is)
    (case pk_places => k_is)
    (case l_g_places => k_is)
    (case cc_g_places => k_is)
    (case kk_g_places => k_is)
    (case pt_ties => k_is)
    (case at_g_ties => k_is)
    (case pg_ties => k_is)
    (case pk_ties => k_is)
    (case l_g_ties => k_is)
    (case cc_g_ties => k_is)
    (case kk_g_ties => k_is)
    (case at_LETTERS => k_is)
    (case at_MOST_PLACES => k_is)
    (case at_MOST_TIES => k_is)
    (case at_abs => k_is)
    (case at_all => k_is)
    (case at_bool => k_is)
    (case at_dict => k_is)
    (case at_divmod => k_is)
    (case at_enumerate => k_is)
    (case at_int => k_is)
    (case at_isinstance => k_is)
    (case at_len => k_is)
    (case at_list => k_is)
    (case at_max => k_is)
    (case at_min => k_is)
    (case at_range => k_is)
    (case at_sorted => k_is)
    (case at_str => k_is)
    (case at_tuple => k_is)
    (case at_zip => k_is)
